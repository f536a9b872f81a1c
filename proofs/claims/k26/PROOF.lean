import PyProof.Rows.All
import Wide.All
import OpenK.AllK
import Wide.FinOn
import HandS.ForMost
import HandS.TryOnly
import HandS.Flt
import HandS.Wide
import HandS.IsInst
import HandS.Deep
import HandS.Defaults
import HandS.TupAny
import HandS.Zip
import HandS.Style
import HandS.WideMore
import PyProof.ReprRoads
import HandS.Star
import HandS.Ends
import HandS.EndBits
import HandS.HeadHook2
import KE.KStateDown
import HandS.Head0
import HandS.Head1
import HandS.Head2
import HandS.HeadEnd
import HandS.HeadHook1
import HandS.HeadHook4
import PySem.Challenge.RW_sunsheets_k26_open_ones
import PyProof.Rows.ReprOcc
import PyProof.Rows.RegStrFacts
set_option Elab.async false
set_option linter.all false
set_option maxRecDepth 100000
set_option maxHeartbeats 0
set_option exponentiation.threshold 30000
/-! Sn, part A: a small language of its own (data, memory of mutable lists, syntax) and what its programs do. -/
namespace Sn
open PySem

/-- data: a frozen list or tuple is its items; ref n is the n-th mutable list of the memory; scr: the script -/
inductive D where
  | non | bl (b : Bool) | int (i : Int) | str (x : Str) | tup (xs : List D) | lst (xs : List D) | ref (n : Nat) | scr (xs : List D)

abbrev Mem := List (Option (List D))
abbrev Slots := List (Option D)

inductive Res (α : Type) where
  | ok (a : α) (M : Mem)
  | no
def Res.bind {α β : Type} : Res α → (α → Mem → Res β) → Res β
  | .ok a M, f => f a M
  | .no, _ => .no

def Mem.cont (M : Mem) (n : Nat) : Option (List D) := (M[n]?).join
/-- a list's items -/
def itemsC (M : Mem) : D → Option (List D)
  | .lst xs => some xs
  | .ref n => Mem.cont M n
  | _ => none
/-- .. the script's too -/
def itemsL (M : Mem) : D → Option (List D)
  | .scr xs => some xs
  | d => itemsC M d
/-- a list's or tuple's items -/
def itemsS (M : Mem) : D → Option (List D)
  | .tup xs => some xs
  | d => itemsL M d
/-- a new list -/
def newL (m : Bool) (xs : List D) (M : Mem) : Res D :=
  if xs.length ≤ sizeLine then (if m then .ok (.ref M.length) (M ++ [some xs]) else .ok (.lst xs) M) else .no
def newT (xs : List D) (M : Mem) : Res D := if xs.length ≤ sizeLine then .ok (.tup xs) M else .no

mutual
def D.py0 : D → Option PyData
  | .non => some .none
  | .bl b => some (.bool b)
  | .int i => some (.int i)
  | .str x => some (.str x)
  | .tup xs => (py0s xs).map .tuple
  | .lst xs => (py0s xs).map .list
  | .scr xs => (py0s xs).map .list
  | .ref _ => none
def py0s : List D → Option (List PyData)
  | [] => some []
  | x :: xs => match x.py0, py0s xs with
    | some p, some ps => some (p :: ps)
    | _, _ => none
end
/-- data as the library's: a mutable list at the top alone -/
def D.py (M : Mem) : D → Option PyData
  | .ref n => match Mem.cont M n with
    | some xs => (py0s xs).map .list
    | none => none
  | d => d.py0

mutual
/-- data as the library's: mutable lists within, too -/
def D.pyN (M : Mem) : D → Option PyData
  | .non => some .none
  | .bl b => some (.bool b)
  | .int i => some (.int i)
  | .str x => some (.str x)
  | .tup xs => (pysN M xs).map .tuple
  | .lst xs => (pysN M xs).map .list
  | .scr xs => (pysN M xs).map .list
  | .ref n => match Mem.cont M n with
    | some xs => (py0s xs).map .list
    | none => none
def pysN (M : Mem) : List D → Option (List PyData)
  | [] => some []
  | x :: xs => match x.pyN M, pysN M xs with
    | some p, some ps => some (p :: ps)
    | _, _ => none
end
/-! ### numbers -/
def mulOk (i j : Int) : Bool := decide (i.natAbs.log2 + j.natAbs.log2 < 1000000)
def divOk (j : Int) : Bool := decide (j ≠ 0) && decide (j.natAbs.log2 < 9000)
def powOk (i j : Int) : Bool := decide (0 ≤ j) && decide (((i.natAbs.log2 + 1 : Nat) : Int) * j ≤ 2 ^ 27)

inductive Bop where
  | add | sub | mul | fdiv | mod | pow
inductive Cop where
  | eq | ne | lt | le | gt | ge
def guard {α : Type} (b : Bool) (r : Res α) : Res α := if b = true then r else .no

def addop (m : Bool) (x y : D) (M : Mem) : Res D := match x, y with
  | .int i, .int j => .ok (.int (i + j)) M
  | .str x, .str y => guard (decide (x.length + y.length ≤ sizeLine)) (.ok (.str (x ++ y)) M)
  | .tup xs, .tup ys => newT (xs ++ ys) M
  | x, y => match itemsC M x, itemsC M y with
    | some xs, some ys => newL m (xs ++ ys) M
    | _, _ => .no
def mulop (m : Bool) (x y : D) (M : Mem) : Res D := match x, y with
  | .int i, .int j => guard (mulOk i j) (.ok (.int (i * j)) M)
  | x, .int k => match itemsC M x with
    | some xs => guard (decide (-(2 ^ 63) ≤ k) && decide (k < 2 ^ 63) && decide (xs.length * k.toNat ≤ sizeLine)) (newL m (List.replicate k.toNat xs).flatten M)
    | none => .no
  | _, _ => .no
def intop (g : Int → Int → Bool) (f : Int → Int → Int) (x y : D) (M : Mem) : Res D := match x, y with
  | .int i, .int j => guard (g i j) (.ok (.int (f i j)) M)
  | _, _ => .no
def binop (m : Bool) (op : Bop) (x y : D) (M : Mem) : Res D := match op with
  | .add => addop m x y M
  | .sub => intop (fun _ _ => true) (fun i j => i - j) x y M
  | .mul => mulop m x y M
  | .fdiv => intop (fun _ j => divOk j) Int.fdiv x y M
  | .mod => intop (fun _ j => decide (j ≠ 0)) Int.fmod x y M
  | .pow => intop powOk (fun i j => i ^ j.toNat) x y M

def eqopN (x y : D) (M : Mem) : Option Bool := match x.pyN M, y.pyN M with
  | some p, some q => if SeqAt.shaped p && SeqAt.shaped q then some (PyData.eqv p q) else none
  | _, _ => none
def eqop (x y : D) (M : Mem) : Option Bool := match x.py M, y.py M with
  | some p, some q => if SeqAt.shaped p && SeqAt.shaped q then some (PyData.eqv p q) else none
  | _, _ => eqopN x y M
def ordop (f : Int → Int → Bool) (x y : D) : Option Bool := match x, y with
  | .int i, .int j => some (f i j)
  | _, _ => none
def cmpop (op : Cop) (x y : D) (M : Mem) : Option Bool := match op with
  | .eq => eqop x y M
  | .ne => (eqop x y M).map (!·)
  | .lt => ordop (fun i j => decide (i < j)) x y
  | .le => ordop (fun i j => decide (i ≤ j)) x y
  | .gt => ordop (fun i j => decide (j < i)) x y
  | .ge => ordop (fun i j => decide (j ≤ i)) x y

/-- x in y: items of any data -/
def inop (x y : D) (M : Mem) : Option Bool := match x.py M, itemsL M y with
  | some p, some ys => match py0s ys with
    | some qs => if SeqAt.shaped p && SeqAt.shaped (.list qs) then some (qs.any fun q => PyData.eqv q p) else none
    | none => none
  | _, _ => none

inductive Kind where
  | int | bool | str | list | tuple
def isKind : Kind → D → Bool
  | .int, .int _ => true
  | .int, .bl _ => true
  | .bool, .bl _ => true
  | .str, .str _ => true
  | .list, .lst _ => true
  | .list, .ref _ => true
  | .list, .scr _ => true
  | .tuple, .tup _ => true
  | _, _ => false

/-- no list that is gone -/
def live : D → Mem → Bool
  | .ref n, M => (Mem.cont M n).isSome
  | _, _ => true
/-! ### built-ins -/
inductive Prim where
  | len | abs | int | str | repr | max | min | all | any | sum | tuple | list | bool | divmod
def intsL : List D → Option (List Int)
  | [] => some []
  | .int i :: r => (intsL r).map (i :: ·)
  | _ :: _ => none
def boolsL : List D → Option (List Bool)
  | [] => some []
  | .bl i :: r => (boolsL r).map (i :: ·)
  | _ :: _ => none
def primop (m : Bool) : Prim → List D → Mem → Res D
  | .len, [.str x], M => guard (decide (x.length ≤ sizeLine)) (.ok (.int x.length) M)
  | .len, [d], M => match itemsS M d with
    | some xs => .ok (.int xs.length) M
    | none => .no
  | .abs, [.int i], M => .ok (.int (i.natAbs : Int)) M
  | .int, [.int i], M => .ok (.int i) M
  | .int, [.bl b], M => .ok (.int (if b then 1 else 0)) M
  | .bool, [.bl b], M => .ok (.bl b) M
  | .str, [.int i], M => guard (decide (i.natAbs.log2 < 1920)) (.ok (.str (toString i)) M)
  | .repr, [d], M => match d.py M with
    | some p => guard (p.showable && decide (p.depth ≤ 60) && decide (p.shown.length ≤ sizeLine)) (.ok (.str p.shown) M)
    | none => match d.pyN M with
      | some p => guard (p.showable && decide (p.depth ≤ 60) && decide (p.shown.length ≤ sizeLine)) (.ok (.str p.shown) M)
      | none => .no
  | .max, [.int i, .int j], M => .ok (.int (if j > i then j else i)) M
  | .min, [.int i, .int j], M => .ok (.int (if j < i then j else i)) M
  | .max, [.int i, .int j, .int k], M => .ok (.int (if k > (if j > i then j else i) then k else (if j > i then j else i))) M
  | .min, [.int i, .int j, .int k], M => .ok (.int (if k < (if j < i then j else i) then k else (if j < i then j else i))) M
  | .all, [d], M => match itemsL M d with
    | some xs => match boolsL xs with
      | some bs => .ok (.bl (bs.all id)) M
      | none => .no
    | none => .no
  | .any, [d], M => match itemsL M d with
    | some xs => match boolsL xs with
      | some bs => .ok (.bl (bs.any id)) M
      | none => .no
    | none => .no
  | .sum, [d], M => match itemsL M d with
    | some xs => match intsL xs with
      | some is => .ok (.int is.sum) M
      | none => .no
    | none => .no
  | .tuple, [d], M => match itemsS M d with
    | some xs => newT xs M
    | none => .no
  | .list, [d], M => match itemsS M d with
    | some xs => newL m xs M
    | none => .no
  | .divmod, [.int i, .int j], M => guard (decide (0 < j) && decide (j < 1073741824)) (newT [.int (i / j), .int (i % j)] M)
  | _, _, _ => .no

/-- the item at a place, from behind below 0 -/
def ixop (x : D) (i : Int) (M : Mem) : Option D := match itemsS M x with
  | some xs => L2.atI xs i
  | none => match x with
    | .str z => if z.length ≤ sizeLine then (L2.atI z.cps.toList i).map fun c => .str ⟨#[c]⟩ else none
    | _ => none
def cut (xs : List D) (lo hi : Option Int) : List D := (xs.drop (HT.sIx xs.length 0 lo)).take (HT.sIx xs.length xs.length hi - HT.sIx xs.length 0 lo)
def slop (m : Bool) (x : D) (lo hi : Option Int) (M : Mem) : Res D := match x with
  | .tup xs => newT (cut xs lo hi) M
  | d => match itemsL M d with
    | some xs => newL m (cut xs lo hi) M
    | none => .no
def setop (o : D) (i : Int) (v : D) (M : Mem) : Option Mem := match o with
  | .ref n => match Mem.cont M n with
    | some xs => match L2.ixN xs.length i with
      | some j => some (M.set n (some (xs.set j v)))
      | none => none
    | none => none
  | _ => none

/-- x[::-1] -/
def revop (m : Bool) (x : D) (M : Mem) : Res D := match itemsL M x with
  | some xs => newL m xs.reverse M
  | none => .no
/-- x is True, x is not False .. -/
def isbop (b pos : Bool) (x : D) (M : Mem) : Res D := match x with
  | .bl c => .ok (.bl (decide (c = b) == pos)) M
  | _ => .no
inductive Meth where
  | append | reverse | pop
def methop : Meth → D → List D → Mem → Res D
  | .append, .ref n, [v], M => match Mem.cont M n with
    | some xs => guard (decide (xs.length < sizeLine)) (.ok .non (M.set n (some (xs ++ [v]))))
    | none => .no
  | .reverse, .ref n, [], M => match Mem.cont M n with
    | some xs => .ok .non (M.set n (some xs.reverse))
    | none => .no
  | .pop, .ref n, [], M => match Mem.cont M n with
    | some xs => match xs[xs.length - 1]? with
      | some y => .ok y (M.set n (some xs.dropLast))
      | none => .no
    | none => .no
  | _, _, _, _ => .no

/-! ### sealing: a def's own mutable lists become frozen where it hands them back -/
mutual
def D.pure : D → Bool
  | .tup xs => pures xs
  | .lst xs => pures xs
  | .scr xs => pures xs
  | .ref _ => false
  | _ => true
def pures : List D → Bool
  | [] => true
  | x :: xs => x.pure && pures xs
end
mutual
def D.shut (k : Nat) (M : Mem) : D → Option D
  | .tup xs => (shuts k M xs).map .tup
  | .lst xs => (shuts k M xs).map .lst
  | .ref n => if n < k then some (.ref n) else match Mem.cont M n with
    | some xs => if pures xs then some (.lst xs) else none
    | none => none
  | .scr xs => if pures xs then some (.scr xs) else none
  | d => some d
def shuts (k : Nat) (M : Mem) : List D → Option (List D)
  | [] => some []
  | x :: xs => match x.shut k M, shuts k M xs with
    | some y, some ys => some (y :: ys)
    | _, _ => none
end
/-- every mutable list that stays names lists that stay alone -/
def closed (k : Nat) (M : Mem) : Bool := (M.take k).all fun o => match o with
  | some xs => pures xs
  | none => true

/-! ### the syntax -/
inductive Tg where
  | nm (i : Nat)
  | tp (ts : List Tg)
mutual
inductive E where
  | var (i : Nat)
  | int (i : Int) | str (x : Str) | bl (b : Bool) | non
  | gint (x : Str) (i : Int)
  | gcon (x : Str) (d : D)
  | never
  | bin (m : Bool) (op : Bop) (a b : E)
  | neg (a : E) | not (a : E)
  | and (a b : E) | or (a b : E)
  | cmp (op : Cop) (a b : E)
  | chain (op1 op2 : Cop) (a b c : E)
  | isn (a : E) | notn (a : E)
  | inn (a b : E) | nin (a b : E)
  | ite (c a b : E)
  | tup (es : Es) | lst (m : Bool) (es : Es)
  | ix (a i : E)
  | sl (m : Bool) (a : E) (lo hi : Eo)
  | rev (m : Bool) (a : E)
  | isb (b pos : Bool) (a : E)
  | tups (is : Is) | lsts (m : Bool) (is : Is)
  | call (d : Df) (es : Es)
  | callk (d : Df) (es : Es) (ks : List Str) (kes : Es)
  | prim (m : Bool) (p : Prim) (es : Es)
  | isi (k : Kind) (a : E)
  | meth (m : Meth) (o : E) (es : Es)
  | comp (m : Bool) (own : List Nat) (elt : E) (tg : Tg) (it : Src) (cnd : Eo)
  | comp2 (m : Bool) (own own1 : List Nat) (elt : E) (tg : Tg) (it : Src) (tg1 : Tg) (it1 : Src)
inductive Es where
  | nil | cons (e : E) (es : Es)
inductive Is where
  | nil | cons (e : E) (is : Is) | star (e : E) (is : Is)
inductive Eo where
  | none | some (e : E)
inductive Src where
  | of (e : E) | range1 (a : E) | range2 (a b : E) | enum (e : E) | zip (a b : E)
inductive S where
  | asg (t : Tg) (e : E)
  | aug (i : Nat) (op : Bop) (e : E)
  | setix (o i e : E)
  | ite (c : E) (a b : Ss)
  | whl (c : E) (b : Ss)
  | for (t : Tg) (it : Src) (b : Ss)
  | ret (e : E) | retn
  | expr (e : E)
  | pass | brk | never
inductive Ss where
  | nil | cons (s : S) (ss : Ss)
inductive Df where
  | mk (name : Str) (keeps : Bool) (ps : List Str) (N : List Str) (body : Ss)
end
def Df.name : Df → Str | .mk n _ _ _ _ => n
def Df.keeps : Df → Bool | .mk _ k _ _ _ => k
def Df.ps : Df → List Str | .mk _ _ p _ _ => p
def Df.N : Df → List Str | .mk _ _ _ N _ => N
def Df.body : Df → Ss | .mk _ _ _ _ b => b

/-! ### what programs do -/
inductive Out where
  | nx (env : Slots) | rt (d : D) | bk (env : Slots)

def ofO {α : Type} (o : Option α) (M : Mem) : Res α := match o with
  | some a => .ok a M
  | none => .no
mutual
def Tg.put : Tg → D → Slots → Option Slots
  | .nm i, d, env => if i < env.length then some (env.set i (some d)) else none
  | .tp ts, .tup xs, env => tgPuts ts xs env
  | .tp ts, .lst xs, env => tgPuts ts xs env
  | .tp _, _, _ => none
def tgPuts : List Tg → List D → Slots → Option Slots
  | [], [], env => some env
  | t :: ts, x :: xs, env => match t.put x env with
    | some env' => tgPuts ts xs env'
    | none => none
  | _, _, _ => none
end
def wipes (env : Slots) : List Nat → Slots
  | [] => env
  | v :: vs => (wipes env vs).set v none
def asB : D → Option Bool
  | .bl b => some b
  | _ => none
/-- a walked thing: its items, and the mutable lists that must stay as they are -/
structure Wk where
  items : List D
  refs : List Nat
def stays (refs : List Nat) (M M' : Mem) : Prop := ∀ n ∈ refs, M'[n]? = M[n]?
def refsOf : D → List Nat
  | .ref n => [n]
  | _ => []
open Classical in
noncomputable def forL (refs : List Nat) (M0 : Mem) (body : D → Slots → Mem → Res Out) : List D → Slots → Mem → Res Out
  | [], env, M => .ok (.nx env) M
  | x :: xs, env, M => match body x env M with
    | .ok (.nx env') M' => if stays refs M0 M' then forL refs M0 body xs env' M' else .no
    | .ok (.bk env') M' => .ok (.nx env') M'
    | r => r
open Classical in
noncomputable def compL (refs : List Nat) (M0 : Mem) (turn : D → Mem → Res (Option D)) : List D → List D → Mem → Res (List D)
  | [], acc, M => .ok acc M
  | x :: xs, acc, M => match turn x M with
    | .ok (some y) M' => if stays refs M0 M' ∧ acc.length < sizeLine then compL refs M0 turn xs (acc ++ [y]) M' else .no
    | .ok none M' => if stays refs M0 M' then compL refs M0 turn xs acc M' else .no
    | .no => .no
open Classical in
noncomputable def compL2 (refs : List Nat) (M0 : Mem) (turn : List D → D → Mem → Res (List D)) : List D → List D → Mem → Res (List D)
  | [], acc, M => .ok acc M
  | x :: xs, acc, M => match turn acc x M with
    | .ok acc' M' => if stays refs M0 M' then compL2 refs M0 turn xs acc' M' else .no
    | .no => .no
def whileL (c : Slots → Mem → Res D) (b : Slots → Mem → Res Out) : Nat → Slots → Mem → Res Out
  | 0, _, _ => .no
  | n + 1, env, M => match c env M with
    | .ok (.bl true) M1 => match b env M1 with
      | .ok (.nx env') M2 => whileL c b n env' M2
      | .ok (.bk env') M2 => .ok (.nx env') M2
      | r => r
    | .ok (.bl false) M1 => .ok (.nx env) M1
    | _ => .no
def rangeD (lo : Int) (n : Nat) : List D := (List.range n).map fun (k : Nat) => D.int (lo + (k : Int))
def enumD (xs : List D) : List D := xs.zipIdx.map fun p => .tup [.int (p.2 : Nat), p.1]
def zipD (xs ys : List D) : List D := (xs.zip ys).map fun p => .tup [p.1, p.2]
def rngOk (i : Int) : Bool := decide (-(2 ^ 62) ≤ i) && decide (i < 2 ^ 62)
/-- the place of a keyword's parameter -/
def kwVals (ps : List Str) (ds : List D) (ks : List Str) (kds : List D) : Option (List D) :=
  if (ds ++ (ps.drop ds.length).filterMap fun p => (ks.zip kds).lookup p).length = ps.length then some (ds ++ (ps.drop ds.length).filterMap fun p => (ks.zip kds).lookup p) else none

mutual
noncomputable def evE (n : Nat) : E → Slots → Mem → Res D
  | .var i, env, M => ofO (env[i]?).join M
  | .int i, _, M => .ok (.int i) M
  | .str x, _, M => .ok (.str x) M
  | .bl b, _, M => .ok (.bl b) M
  | .non, _, M => .ok .non M
  | .gint _ i, _, M => .ok (.int i) M
  | .gcon _ d, _, M => .ok d M
  | .never, _, _ => .no
  | .bin m op a b, env, M => (evE n a env M).bind fun x M1 => (evE n b env M1).bind fun y M2 => binop m op x y M2
  | .neg a, env, M => (evE n a env M).bind fun x M1 => match x with
    | .int i => .ok (.int (-i)) M1
    | _ => .no
  | .not a, env, M => (evE n a env M).bind fun x M1 => match x with
    | .bl b => .ok (.bl (!b)) M1
    | _ => .no
  | .and a b, env, M => (evE n a env M).bind fun x M1 => match x with
    | .bl true => (evE n b env M1).bind fun y M2 => match y with
      | .bl c => .ok (.bl c) M2
      | _ => .no
    | .bl false => .ok (.bl false) M1
    | _ => .no
  | .or a b, env, M => (evE n a env M).bind fun x M1 => match x with
    | .bl false => (evE n b env M1).bind fun y M2 => match y with
      | .bl c => .ok (.bl c) M2
      | _ => .no
    | .bl true => .ok (.bl true) M1
    | _ => .no
  | .cmp op a b, env, M => (evE n a env M).bind fun x M1 => (evE n b env M1).bind fun y M2 => (ofO (cmpop op x y M2) M2).bind fun c M3 => .ok (.bl c) M3
  | .chain op1 op2 a b c, env, M => (evE n a env M).bind fun x M1 => (evE n b env M1).bind fun y M2 => (ofO (cmpop op1 x y M2) M2).bind fun k M3 => match k with
    | true => (evE n c env M3).bind fun z M4 => (ofO (cmpop op2 y z M4) M4).bind fun k2 M5 => .ok (.bl k2) M5
    | false => .ok (.bl false) M3
  | .isn a, env, M => (evE n a env M).bind fun x M1 => match x with
    | .non => .ok (.bl true) M1
    | _ => .ok (.bl false) M1
  | .notn a, env, M => (evE n a env M).bind fun x M1 => match x with
    | .non => .ok (.bl false) M1
    | _ => .ok (.bl true) M1
  | .inn a b, env, M => (evE n a env M).bind fun x M1 => (evE n b env M1).bind fun y M2 => (ofO (inop x y M2) M2).bind fun c M3 => .ok (.bl c) M3
  | .nin a b, env, M => (evE n a env M).bind fun x M1 => (evE n b env M1).bind fun y M2 => (ofO (inop x y M2) M2).bind fun c M3 => .ok (.bl (!c)) M3
  | .ite c a b, env, M => (evE n c env M).bind fun x M1 => match x with
    | .bl true => evE n a env M1
    | .bl false => evE n b env M1
    | _ => .no
  | .tup es, env, M => (evEs n es env M).bind fun xs M1 => newT xs M1
  | .lst m es, env, M => (evEs n es env M).bind fun xs M1 => newL m xs M1
  | .ix a i, env, M => (evE n a env M).bind fun x M1 => (evE n i env M1).bind fun k M2 => match k with
    | .int j => ofO (ixop x j M2) M2
    | _ => .no
  | .sl m a lo hi, env, M => (evE n a env M).bind fun x M1 => (evEo n lo env M1).bind fun l M2 => (evEo n hi env M2).bind fun h M3 => slop m x l h M3
  | .rev m a, env, M => (evE n a env M).bind fun x M1 => revop m x M1
  | .isb b pos a, env, M => (evE n a env M).bind fun x M1 => isbop b pos x M1
  | .tups is, env, M => (evIs n is env M).bind fun xs M1 => newT xs M1
  | .lsts m is, env, M => (evIs n is env M).bind fun xs M1 => newL m xs M1
  | .call d es, env, M => (evEs n es env M).bind fun xs M1 => callD n d xs M1
  | .callk d es ks kes, env, M => (evEs n es env M).bind fun xs M1 => (evEs n kes env M1).bind fun ys M2 => (ofO (kwVals d.ps xs ks ys) M2).bind fun zs M3 => callD n d zs M3
  | .prim m p es, env, M => (evEs n es env M).bind fun xs M1 => primop m p xs M1
  | .isi k a, env, M => (evE n a env M).bind fun x M1 => guard (live x M1) (.ok (.bl (isKind k x)) M1)
  | .meth m o es, env, M => (evE n o env M).bind fun x M1 => guard (live x M1) ((evEs n es env M1).bind fun xs M2 => methop m x xs M2)
  | .comp m own elt tg it cnd, env, M => (evIt n it env M).bind fun w M1 =>
    (compL w.refs M1 (fun x M2 => (ofO (tg.put x (wipes env own)) M2).bind fun env2 M3 => (evC n cnd env2 M3).bind fun b M4 =>
      if b = true then (evE n elt env2 M4).bind fun y M5 => .ok (some y) M5 else .ok none M4) w.items [] M1).bind fun ys M6 => newL m ys M6
  | .comp2 m own own1 elt tg it tg1 it1, env, M => (evIt n it env M).bind fun w M1 =>
    (compL2 w.refs M1 (fun acc x M2 => (ofO (tg.put x (wipes env own)) M2).bind fun env2 M3 => (evIt n it1 env2 M3).bind fun w1 M4 =>
      compL w1.refs M4 (fun x1 M5 => (ofO (tg1.put x1 (wipes env2 own1)) M5).bind fun env3 M6 => (evE n elt env3 M6).bind fun y M7 => .ok (some y) M7) w1.items acc M4) w.items [] M1).bind fun ys M8 => newL m ys M8
noncomputable def evC (n : Nat) : Eo → Slots → Mem → Res Bool
  | .none, _, M => .ok true M
  | .some e, env, M => (evE n e env M).bind fun x M1 => ofO (asB x) M1
noncomputable def evEs (n : Nat) : Es → Slots → Mem → Res (List D)
  | .nil, _, M => .ok [] M
  | .cons e es, env, M => (evE n e env M).bind fun x M1 => (evEs n es env M1).bind fun xs M2 => .ok (x :: xs) M2
noncomputable def evIs (n : Nat) : Is → Slots → Mem → Res (List D)
  | .nil, _, M => .ok [] M
  | .cons e is, env, M => (evE n e env M).bind fun x M1 => (evIs n is env M1).bind fun xs M2 => .ok (x :: xs) M2
  | .star e is, env, M => (evE n e env M).bind fun x M1 => (ofO (itemsS M1 x) M1).bind fun ys M1 => (evIs n is env M1).bind fun xs M2 => .ok (ys ++ xs) M2
noncomputable def evEo (n : Nat) : Eo → Slots → Mem → Res (Option Int)
  | .none, _, M => .ok none M
  | .some e, env, M => (evE n e env M).bind fun x M1 => match x with
    | .int i => .ok (some i) M1
    | _ => .no
noncomputable def evIt (n : Nat) : Src → Slots → Mem → Res Wk
  | .of e, env, M => (evE n e env M).bind fun x M1 => (ofO (itemsS M1 x) M1).bind fun xs M2 => .ok ⟨xs, refsOf x⟩ M2
  | .range1 a, env, M => (evE n a env M).bind fun x M1 => match x with
    | .int i => guard (rngOk i) (.ok ⟨rangeD 0 i.toNat, []⟩ M1)
    | _ => .no
  | .range2 a b, env, M => (evE n a env M).bind fun x M1 => (evE n b env M1).bind fun y M2 => match x, y with
    | .int i, .int j => guard (rngOk i && rngOk j) (.ok ⟨rangeD i (j - i).toNat, []⟩ M2)
    | _, _ => .no
  | .enum e, env, M => (evE n e env M).bind fun x M1 => (ofO (itemsL M1 x) M1).bind fun xs M2 => .ok ⟨enumD xs, refsOf x⟩ M2
  | .zip a b, env, M => (evE n a env M).bind fun x M1 => (evE n b env M1).bind fun y M2 => match x, y with
    | .tup xs, .tup ys => .ok ⟨zipD xs ys, []⟩ M2
    | x, y => match itemsL M2 x, itemsL M2 y with
      | some xs, some ys => .ok ⟨zipD xs ys, refsOf x ++ refsOf y⟩ M2
      | _, _ => .no
noncomputable def evS (n : Nat) : S → Slots → Mem → Res Out
  | .asg t e, env, M => (evE n e env M).bind fun x M1 => (ofO (t.put x env) M1).bind fun env' M2 => .ok (.nx env') M2
  | .aug i op e, env, M => (ofO (env[i]?).join M).bind fun x M0 => (evE n e env M0).bind fun y M1 => match x, y with
    | .int a, .int b => (binop false op (.int a) (.int b) M1).bind fun z M2 => .ok (.nx (env.set i (some z))) M2
    | .ref k, y => match op, Mem.cont M1 k, itemsC M1 y with
      | .add, some xs, some ys => guard (decide (xs.length + ys.length ≤ sizeLine)) (.ok (.nx env) (M1.set k (some (xs ++ ys))))
      | _, _, _ => .no
    | _, _ => .no
  | .setix o i e, env, M => (evE n e env M).bind fun v M1 => (evE n o env M1).bind fun x M2 => (evE n i env M2).bind fun k M3 => match k with
    | .int j => match setop x j v M3 with
      | some M4 => .ok (.nx env) M4
      | none => .no
    | _ => .no
  | .ite c a b, env, M => (evE n c env M).bind fun x M1 => match x with
    | .bl true => evSs n a env M1
    | .bl false => evSs n b env M1
    | _ => .no
  | .whl c b, env, M => whileL (evE n c) (evSs n b) n env M
  | .for t it b, env, M => (evIt n it env M).bind fun w M1 => forL w.refs M1 (fun x env2 M2 => (ofO (t.put x env2) M2).bind fun env3 M3 => evSs n b env3 M3) w.items env M1
  | .ret e, env, M => (evE n e env M).bind fun x M1 => .ok (.rt x) M1
  | .retn, _, M => .ok (.rt .non) M
  | .expr e, env, M => (evE n e env M).bind fun _ M1 => .ok (.nx env) M1
  | .pass, env, M => .ok (.nx env) M
  | .brk, env, M => .ok (.bk env) M
  | .never, _, _ => .no
noncomputable def evSs (n : Nat) : Ss → Slots → Mem → Res Out
  | .nil, env, M => .ok (.nx env) M
  | .cons s ss, env, M => match evS n s env M with
    | .ok (.nx env') M' => evSs n ss env' M'
    | r => r
noncomputable def callD (n : Nat) : Df → List D → Mem → Res D
  | .mk _ keeps ps N body, ds, M =>
    if ds.length = ps.length ∧ ps.length ≤ N.length then
      match evSs n body (ds.map some ++ List.replicate (N.length - ds.length) none) M with
      | .ok (.nx _) M' => if keeps then .ok .non M' else if closed M.length M' then .ok .non (M'.take M.length) else .no
      | .ok (.rt d) M' => if keeps then .ok d M' else match d.shut M.length M' with
        | some d' => if closed M.length M' then .ok d' (M'.take M.length) else .no
        | none => .no
      | _ => .no
    else .no
end
end Sn
/-! Sn, part B: worlds, what stands for what, and the operations. -/
namespace Sn
open PySem PySem.Spec PyProof.Rows L2

/-! ### results -/
def After {α : Type} (r : Res α) (P : α → Mem → Prop) : Prop := match r with
  | .ok a M => P a M
  | .no => False
theorem After.bind {α β : Type} {r : Res α} {f : α → Mem → Res β} {P : β → Mem → Prop} (h : After (r.bind f) P) : After r fun a M => After (f a M) P := by
  cases r with
  | ok a M => exact h
  | no => exact h
theorem After.mono {α : Type} {r : Res α} {P Q : α → Mem → Prop} (h : After r P) (i : ∀ a M, P a M → Q a M) : After r Q := by
  cases r with
  | ok a M => exact i a M h
  | no => exact h
theorem After.guard {α : Type} {b : Bool} {r : Res α} {P : α → Mem → Prop} (h : After (guard b r) P) : b = true ∧ After r P := by
  unfold Sn.guard at h
  split at h
  · exact ⟨by assumption, h⟩
  · exact h.elim
theorem After.ofO {α : Type} {o : Option α} {M : Mem} {P : α → Mem → Prop} (h : After (ofO o M) P) : ∃ a, o = some a ∧ P a M := by
  cases o with
  | some a => exact ⟨a, rfl, h⟩
  | none => exact h.elim

/-! ### worlds -/
/-- the addresses of the mutable lists, the memory, what is under construction, the heap -/
structure Wd where
  rho : List Addr
  M : Mem
  Z : Addr → Prop
  H : Hp
def msOf (rho : List Addr) (M : Mem) (a : Addr) : Prop := ∃ n xs, Mem.cont M n = some xs ∧ rho[n]? = some a
def Wd.nf (W : Wd) (a : Addr) : Prop := msOf W.rho W.M a ∨ W.Z a
def FrL (K : PySem.W.Frag) (W : Wd) (a : Addr) (vs : List V) : Prop :=
  (Rd W.H a (.lst vs) ∧ ¬ W.nf a) ∨ ∃ (o : Obj) (its : Array Value) (n : Nat), K.lookup a = some o ∧ o.cls = .type "list" ∧ o.dict = none ∧ o.data = .seq its n ∧ its.size ≤ sizeLine ∧ Vals vs its.toList
def FrT (K : PySem.W.Frag) (W : Wd) (a : Addr) (vs : List V) : Prop :=
  (Rd W.H a (.tup vs) ∧ ¬ W.nf a) ∨ ∃ (o : Obj) (its : Array Value) (n : Nat), K.lookup a = some o ∧ o.cls = .type "tuple" ∧ o.data = .seq its n ∧ its.size ≤ sizeLine ∧ Vals vs its.toList
theorem FrL.sq {K : PySem.W.Frag} {W : Wd} {a : Addr} {vs : List V} (h : FrL K W a vs) : SqL K W.H a vs := by
  rcases h with ⟨h, _⟩ | h
  · exact .inl h
  · exact .inr h
theorem FrT.sq {K : PySem.W.Frag} {W : Wd} {a : Addr} {vs : List V} (h : FrT K W a vs) : SqT K W.H a vs := by
  rcases h with ⟨h, _⟩ | h
  · exact .inl h
  · exact .inr h
mutual
inductive Rep (K : PySem.W.Frag) (W : Wd) : V → D → Prop
  | non : Rep K W .non .non
  | bl (b : Bool) : Rep K W (.bl b) (.bl b)
  | int (i : Int) : Rep K W (.int i) (.int i)
  | str (x : Str) : Rep K W (.str x) (.str x)
  | lst {a : Addr} {vs : List V} {ds : List D} : W.H a = some (.lst vs) → ¬ W.nf a → Reps K W vs ds → Rep K W (.ref a) (.lst ds)
  | scr {a : Addr} {vs : List V} {ds : List D} : FrL K W a vs → Reps K W vs ds → Rep K W (.ref a) (.scr ds)
  | tup {a : Addr} {vs : List V} {ds : List D} : FrT K W a vs → Reps K W vs ds → Rep K W (.ref a) (.tup ds)
  | ref {a : Addr} {n : Nat} : W.rho[n]? = some a → Rep K W (.ref a) (.ref n)
inductive Reps (K : PySem.W.Frag) (W : Wd) : List V → List D → Prop
  | nil : Reps K W [] []
  | cons {v : V} {vs : List V} {d : D} {ds : List D} : Rep K W v d → Reps K W vs ds → Reps K W (v :: vs) (d :: ds)
end
/-- what stands in W stands in W' -/
structure Le (W W' : Wd) : Prop where
  pre : ∀ (n : Nat) (a : Addr), W.rho[n]? = some a → W'.rho[n]? = some a
  keep : ∀ a o, W.H a = some o → ¬ W.nf a → W'.H a = some o ∧ ¬ W'.nf a
theorem Le.refl (W : Wd) : Le W W := ⟨fun _ _ h => h, fun _ _ h n => ⟨h, n⟩⟩
theorem Le.trans {A B C : Wd} (h : Le A B) (g : Le B C) : Le A C :=
  ⟨fun n a q => g.pre n a (h.pre n a q), fun a o q n => let ⟨q1, n1⟩ := h.keep a o q n; g.keep a o q1 n1⟩
theorem Le.rd {W W' : Wd} (h : Le W W') {a : Addr} {u : HO} (r : Rd W.H a u) (n : ¬ W.nf a) : Rd W'.H a u ∧ ¬ W'.nf a := by
  rcases r with r | ⟨o, r⟩
  · obtain ⟨q, m⟩ := h.keep a _ r n
    exact ⟨.inl q, m⟩
  · obtain ⟨q, m⟩ := h.keep a _ r n
    exact ⟨.inr ⟨o, q⟩, m⟩
theorem Le.frL {K : PySem.W.Frag} {W W' : Wd} (h : Le W W') {a : Addr} {vs : List V} (r : FrL K W a vs) : FrL K W' a vs := by
  rcases r with ⟨r, n⟩ | r
  · exact .inl (h.rd r n)
  · exact .inr r
theorem Le.frT {K : PySem.W.Frag} {W W' : Wd} (h : Le W W') {a : Addr} {vs : List V} (r : FrT K W a vs) : FrT K W' a vs := by
  rcases r with ⟨r, n⟩ | r
  · exact .inl (h.rd r n)
  · exact .inr r
mutual
theorem Rep.le {K : PySem.W.Frag} {W W' : Wd} (h : Le W W') : ∀ {d : D} {v : V}, Rep K W v d → Rep K W' v d
  | .non, _, .non => .non
  | .bl _, _, .bl b => .bl b
  | .int _, _, .int i => .int i
  | .str _, _, .str x => .str x
  | .lst _, _, .lst f n r => .lst (h.keep _ _ f n).1 (h.keep _ _ f n).2 (Reps.le h r)
  | .scr _, _, .scr f r => .scr (h.frL f) (Reps.le h r)
  | .tup _, _, .tup f r => .tup (h.frT f) (Reps.le h r)
  | .ref _, _, .ref r => .ref (h.pre _ _ r)
theorem Reps.le {K : PySem.W.Frag} {W W' : Wd} (h : Le W W') : ∀ {ds : List D} {vs : List V}, Reps K W vs ds → Reps K W' vs ds
  | [], _, .nil => .nil
  | _ :: _, _, .cons r rs => .cons (Rep.le h r) (Reps.le h rs)
end
section
variable {K : PySem.W.Frag} {W : Wd}
theorem Reps.length : ∀ {ds : List D} {vs : List V}, Reps K W vs ds → vs.length = ds.length
  | [], _, .nil => rfl
  | _ :: _, _, .cons _ rs => congrArg Nat.succ rs.length
theorem Reps.append : ∀ {ds es : List D} {vs us : List V}, Reps K W vs ds → Reps K W us es → Reps K W (vs ++ us) (ds ++ es)
  | [], _, _, _, .nil, s => s
  | _ :: _, _, _, _, .cons r rs, s => .cons r (rs.append s)
theorem Reps.get : ∀ {ds : List D} {vs : List V} {i : Nat} {d : D}, Reps K W vs ds → ds[i]? = some d → ∃ v, vs[i]? = some v ∧ Rep K W v d
  | _ :: _, _, 0, _, .cons r _, e => by
    simp only [List.getElem?_cons_zero, Option.some.injEq] at e
    subst e
    exact ⟨_, rfl, r⟩
  | _ :: _, _, i + 1, d, .cons _ rs, e => by
    simp only [List.getElem?_cons_succ] at e
    obtain ⟨v, h1, h2⟩ := rs.get e
    exact ⟨v, by simpa using h1, h2⟩
  | [], _, _, _, .nil, e => by simp at e
theorem Reps.getV : ∀ {ds : List D} {vs : List V} {i : Nat} {v : V}, Reps K W vs ds → vs[i]? = some v → ∃ d, ds[i]? = some d ∧ Rep K W v d
  | _ :: _, _, 0, _, .cons r _, e => by
    simp only [List.getElem?_cons_zero, Option.some.injEq] at e
    subst e
    exact ⟨_, rfl, r⟩
  | _ :: _, _, i + 1, d, .cons _ rs, e => by
    simp only [List.getElem?_cons_succ] at e
    obtain ⟨v, h1, h2⟩ := rs.getV e
    exact ⟨v, by simpa using h1, h2⟩
  | [], _, _, _, .nil, e => by simp at e
theorem Reps.take : ∀ {ds : List D} {vs : List V} (n : Nat), Reps K W vs ds → Reps K W (vs.take n) (ds.take n)
  | _, _, 0, _ => .nil
  | [], _, _ + 1, .nil => .nil
  | _ :: _, _, n + 1, .cons r rs => .cons r (rs.take n)
theorem Reps.drop : ∀ {ds : List D} {vs : List V} (n : Nat), Reps K W vs ds → Reps K W (vs.drop n) (ds.drop n)
  | _, _, 0, h => h
  | [], _, _ + 1, .nil => .nil
  | _ :: _, _, n + 1, .cons _ rs => rs.drop n
theorem Reps.set {v : V} {d : D} (r : Rep K W v d) : ∀ {ds : List D} {vs : List V} (n : Nat), Reps K W vs ds → Reps K W (vs.set n v) (ds.set n d)
  | [], _, _, .nil => .nil
  | _ :: _, _, 0, .cons _ rs => .cons r rs
  | _ :: _, _, n + 1, .cons q rs => .cons q (rs.set r n)
theorem Reps.reverse : ∀ {ds : List D} {vs : List V}, Reps K W vs ds → Reps K W vs.reverse ds.reverse
  | [], _, .nil => .nil
  | _ :: _, _, .cons r rs => by
    rw [List.reverse_cons, List.reverse_cons]
    exact rs.reverse.append (.cons r .nil)
theorem Reps.rep {ds : List D} {vs : List V} (h : Reps K W vs ds) : ∀ k : Nat, Reps K W (List.replicate k vs).flatten (List.replicate k ds).flatten
  | 0 => .nil
  | k + 1 => by
    rw [List.replicate_succ, List.flatten_cons, List.replicate_succ, List.flatten_cons]
    exact h.append (h.rep k)
theorem Reps.one {d : D} {vs : List V} (h : Reps K W vs [d]) : ∃ v, vs = [v] ∧ Rep K W v d := by
  cases h with
  | cons r rs => cases rs; exact ⟨_, rfl, r⟩
theorem Reps.two {d e : D} {vs : List V} (h : Reps K W vs [d, e]) : ∃ v u, vs = [v, u] ∧ Rep K W v d ∧ Rep K W u e := by
  cases h with
  | cons r rs =>
    obtain ⟨u, rfl, q⟩ := rs.one
    exact ⟨_, _, rfl, r, q⟩
theorem Reps.three {d e f : D} {vs : List V} (h : Reps K W vs [d, e, f]) : ∃ v u t, vs = [v, u, t] ∧ Rep K W v d ∧ Rep K W u e ∧ Rep K W t f := by
  cases h with
  | cons r rs =>
    obtain ⟨u, t, rfl, q⟩ := rs.two
    exact ⟨_, _, _, rfl, r, q⟩
theorem Reps.zero {vs : List V} (h : Reps K W vs []) : vs = [] := by
  cases h; rfl
theorem Rep.int' {v : V} {i : Int} (h : Rep K W v (.int i)) : v = .int i := by cases h; rfl
theorem Rep.bl' {v : V} {i : Bool} (h : Rep K W v (.bl i)) : v = .bl i := by cases h; rfl
theorem Rep.str' {v : V} {i : Str} (h : Rep K W v (.str i)) : v = .str i := by cases h; rfl
theorem Rep.non' {v : V} (h : Rep K W v .non) : v = .non := by cases h; rfl
theorem Rep.tup' {v : V} {ds : List D} (h : Rep K W v (.tup ds)) : ∃ a vs, v = .ref a ∧ FrT K W a vs ∧ Reps K W vs ds := by
  cases h with
  | tup f r => exact ⟨_, _, rfl, f, r⟩
end
/-- the memory is held -/
structure MR (K : PySem.W.Frag) (W : Wd) : Prop where
  len : W.rho.length = W.M.length
  cell : ∀ n xs, Mem.cont W.M n = some xs → ∃ a vs, W.rho[n]? = some a ∧ W.H a = some (.lst vs) ∧ Reps K W vs xs ∧ ¬ W.Z a
  inj : ∀ m n a xs ys, Mem.cont W.M m = some xs → Mem.cont W.M n = some ys → W.rho[m]? = some a → W.rho[n]? = some a → m = n
  zt : ∀ a, W.Z a → ∃ o, W.H a = some o
/-- a step from W to W' -/
structure Ext (W W' : Wd) : Prop where
  le : Le W W'
  z : W'.Z = W.Z
  zk : ∀ a o, W.Z a → W.H a = some o → W'.H a = some o
theorem Ext.refl (W : Wd) : Ext W W := ⟨.refl W, rfl, fun _ _ _ h => h⟩
theorem Ext.trans {A B C : Wd} (h : Ext A B) (g : Ext B C) : Ext A C :=
  ⟨h.le.trans g.le, g.z.trans h.z, fun a o z q => g.zk a o (by rw [h.z]; exact z) (h.zk a o z q)⟩
section
variable {K : PySem.W.Frag} {W : Wd}
theorem MR.nf_some (h : MR K W) {a : Addr} (n : W.nf a) : ∃ o, W.H a = some o := by
  rcases n with ⟨n, xs, e, r⟩ | z
  · obtain ⟨b, vs, r2, q, _⟩ := h.cell n xs e
    rw [r] at r2
    cases r2
    exact ⟨_, q⟩
  · exact h.zt a z
theorem MR.fresh (h : MR K W) {p : Addr} (hp : W.H p = none) : ¬ W.nf p := fun n => by
  obtain ⟨o, e⟩ := h.nf_some n
  rw [hp] at e
  cases e
/-- a frozen object laid at p -/
def Wd.lay (W : Wd) (p : Addr) (o : HO) : Wd := { W with H := upd W.H p o }
theorem nf_lay {p : Addr} {o : HO} {a : Addr} : (W.lay p o).nf a = W.nf a := rfl
theorem Le.lay (h : MR K W) {p : Addr} (hp : W.H p = none) (o : HO) : Le W (W.lay p o) :=
  ⟨fun _ _ q => q, fun a u q n => ⟨by show upd W.H p o a = some u; rw [upd_ne (ne_of_none q hp)]; exact q, n⟩⟩
theorem Ext.lay (h : MR K W) {p : Addr} (hp : W.H p = none) (o : HO) : Ext W (W.lay p o) :=
  ⟨.lay h hp o, rfl, fun a u _ q => by show upd W.H p o a = some u; rw [upd_ne (ne_of_none q hp)]; exact q⟩
theorem MR.lay (h : MR K W) {p : Addr} (hp : W.H p = none) (o : HO) : MR K (W.lay p o) where
  len := h.len
  cell := fun n xs e => by
    obtain ⟨a, vs, r, q, rs, z⟩ := h.cell n xs e
    exact ⟨a, vs, r, by show upd W.H p o a = _; rw [upd_ne (ne_of_none q hp)]; exact q, rs.le (.lay h hp o), z⟩
  inj := h.inj
  zt := fun a z => by
    obtain ⟨u, q⟩ := h.zt a z
    exact ⟨u, by show upd W.H p o a = _; rw [upd_ne (ne_of_none q hp)]; exact q⟩
theorem Rep.newL (h : MR K W) {p : Addr} (hp : W.H p = none) {vs : List V} {ds : List D} (r : Reps K W vs ds) : Rep K (W.lay p (.lst vs)) (.ref p) (.lst ds) :=
  .lst (show upd W.H p (.lst vs) p = _ from upd_same) (h.fresh hp) (r.le (.lay h hp _))
theorem Rep.newT (h : MR K W) {p : Addr} (hp : W.H p = none) {vs : List V} {ds : List D} (r : Reps K W vs ds) : Rep K (W.lay p (.tup vs)) (.ref p) (.tup ds) :=
  .tup (.inl ⟨.inl (show upd W.H p (.tup vs) p = _ from upd_same), h.fresh hp⟩) (r.le (.lay h hp _))
/-- a mutable list laid at p -/
def Wd.put (W : Wd) (p : Addr) (vs : List V) (xs : List D) : Wd := { W with rho := W.rho ++ [p], M := W.M ++ [some xs], H := upd W.H p (.lst vs) }
theorem cont_lt {M : Mem} {n : Nat} {xs : List D} (e : Mem.cont M n = some xs) : n < M.length := by
  unfold Mem.cont at e
  cases q : M[n]? with
  | none => rw [q] at e; cases e
  | some o => exact (List.getElem?_eq_some_iff.mp q).1
theorem cont_push {M : Mem} {ys : List D} {n : Nat} {xs : List D} : Mem.cont (M ++ [some ys]) n = some xs ↔ Mem.cont M n = some xs ∨ (n = M.length ∧ xs = ys) := by
  unfold Mem.cont
  rcases Nat.lt_trichotomy n M.length with h | h | h
  · rw [List.getElem?_append_left h]
    constructor
    · exact .inl
    · rintro (q | ⟨q, _⟩)
      · exact q
      · omega
  · subst h
    rw [List.getElem?_append_right (Nat.le_refl _), Nat.sub_self, List.getElem?_eq_none (Nat.le_refl _)]
    constructor
    · intro q
      have q' : some ys = some xs := q
      injection q' with q'
      exact .inr ⟨rfl, q'.symm⟩
    · rintro (q | ⟨_, q⟩)
      · cases q
      · rw [q]; rfl
  · rw [List.getElem?_eq_none (by rw [List.length_append, List.length_singleton]; omega), List.getElem?_eq_none (by omega)]
    constructor
    · intro q; cases q
    · rintro (q | ⟨q, _⟩)
      · cases q
      · omega
theorem rho_push {rho : List Addr} {p a : Addr} {n : Nat} : (rho ++ [p])[n]? = some a ↔ rho[n]? = some a ∨ (n = rho.length ∧ a = p) := by
  rcases Nat.lt_trichotomy n rho.length with h | h | h
  · rw [List.getElem?_append_left h]
    constructor
    · exact .inl
    · rintro (q | ⟨q, _⟩)
      · exact q
      · omega
  · subst h
    rw [List.getElem?_append_right (Nat.le_refl _), Nat.sub_self, List.getElem?_eq_none (Nat.le_refl _)]
    constructor
    · intro q
      have q' : some p = some a := q
      injection q' with q'
      exact .inr ⟨rfl, q'.symm⟩
    · rintro (q | ⟨_, q⟩)
      · cases q
      · rw [q]; rfl
  · rw [List.getElem?_eq_none (by rw [List.length_append, List.length_singleton]; omega), List.getElem?_eq_none (by omega)]
    constructor
    · intro q; cases q
    · rintro (q | ⟨q, _⟩)
      · cases q
      · omega
theorem old_or (h : MR K W) {p : Addr} (hp : W.H p = none) {ys : List D} {n : Nat} {xs : List D} {a : Addr} (e : Mem.cont (W.M ++ [some ys]) n = some xs) (r : (W.rho ++ [p])[n]? = some a) :
    (Mem.cont W.M n = some xs ∧ W.rho[n]? = some a ∧ a ≠ p) ∨ (n = W.M.length ∧ a = p) := by
  rcases rho_push.mp r with r | ⟨r, ep⟩
  · rcases cont_push.mp e with e | ⟨e, _⟩
    · refine .inl ⟨e, r, fun ep => ?_⟩
      obtain ⟨b, vs, r2, q, _⟩ := h.cell n xs e
      rw [r] at r2
      cases r2
      rw [ep, hp] at q
      cases q
    · have h1 := (List.getElem?_eq_some_iff.mp r).1
      rw [e, h.len] at h1
      exact absurd h1 (Nat.lt_irrefl _)
  · exact .inr ⟨by rw [r, h.len], ep⟩
theorem ms_put (h : MR K W) {p : Addr} {vs : List V} {xs : List D} {a : Addr} (n : (W.put p vs xs).nf a) : W.nf a ∨ a = p := by
  rcases n with ⟨n, ys, e, r⟩ | z
  · rcases rho_push.mp r with r | ⟨_, r⟩
    · rcases cont_push.mp e with e | ⟨e, _⟩
      · exact .inl (.inl ⟨n, ys, e, r⟩)
      · have h1 := (List.getElem?_eq_some_iff.mp r).1
        rw [e, h.len] at h1
        exact absurd h1 (Nat.lt_irrefl _)
    · exact .inr r
  · exact .inl (.inr z)
theorem Le.put (h : MR K W) {p : Addr} (hp : W.H p = none) (vs : List V) (xs : List D) : Le W (W.put p vs xs) where
  pre := fun n a q => rho_push.mpr (.inl q)
  keep := fun a o q n => by
    have hne := ne_of_none q hp
    refine ⟨by show upd W.H p _ a = _; rw [upd_ne hne]; exact q, fun m => ?_⟩
    rcases ms_put h m with m | m
    · exact n m
    · exact hne m
theorem Ext.put (h : MR K W) {p : Addr} (hp : W.H p = none) (vs : List V) (xs : List D) : Ext W (W.put p vs xs) :=
  ⟨.put h hp vs xs, rfl, fun a u _ q => by show upd W.H p _ a = some u; rw [upd_ne (ne_of_none q hp)]; exact q⟩
theorem MR.put (h : MR K W) {p : Addr} (hp : W.H p = none) {vs : List V} {xs : List D} (r : Reps K W vs xs) : MR K (W.put p vs xs) where
  len := by show (W.rho ++ [p]).length = (W.M ++ [some xs]).length; simp [h.len]
  cell := fun n ys e => by
    rcases cont_push.mp e with e | ⟨rfl, rfl⟩
    · obtain ⟨a, us, r1, q, rs, z⟩ := h.cell n ys e
      exact ⟨a, us, rho_push.mpr (.inl r1), by show upd W.H p _ a = _; rw [upd_ne (ne_of_none q hp)]; exact q, rs.le (.put h hp vs xs), z⟩
    · refine ⟨p, vs, rho_push.mpr (.inr ⟨h.len.symm, rfl⟩), upd_same, r.le (.put h hp vs _), fun z => ?_⟩
      obtain ⟨o, q⟩ := h.zt p z
      rw [hp] at q
      cases q
  inj := fun m n a us ys e1 e2 r1 r2 => by
    rcases old_or h hp e1 r1 with ⟨s1, t1, n1⟩ | ⟨s1, t1⟩
    · rcases old_or h hp e2 r2 with ⟨s2, t2, _⟩ | ⟨_, t2⟩
      · exact h.inj m n a us ys s1 s2 t1 t2
      · exact absurd t2 n1
    · rcases old_or h hp e2 r2 with ⟨_, _, n2⟩ | ⟨s2, _⟩
      · exact absurd t1 n2
      · rw [s1, s2]
  zt := fun a z => by
    obtain ⟨u, q⟩ := h.zt a z
    exact ⟨u, by show upd W.H p _ a = _; rw [upd_ne (ne_of_none q hp)]; exact q⟩
end
end Sn
/-! Sn, part C: stores, and the operations by values. -/
namespace Sn
open PySem PySem.Spec PyProof.Rows L2

section
variable {K : PySem.W.Frag} {W : Wd}
/-- the n-th mutable list, at a, becomes xs -/
def Wd.set (W : Wd) (n : Nat) (a : Addr) (vs : List V) (xs : List D) : Wd := { W with M := W.M.set n (some xs), H := upd W.H a (.lst vs) }
theorem cont_set {M : Mem} {n m : Nat} {xs ys : List D} (h : n < M.length) : Mem.cont (M.set n (some xs)) m = some ys ↔ (m = n ∧ ys = xs) ∨ (m ≠ n ∧ Mem.cont M m = some ys) := by
  unfold Mem.cont
  by_cases e : m = n
  · subst e
    rw [List.getElem?_set_self h]
    constructor
    · intro q
      have q' : some xs = some ys := q
      injection q' with q'
      exact .inl ⟨rfl, q'.symm⟩
    · rintro (⟨_, q⟩ | ⟨q, _⟩)
      · rw [q]; rfl
      · exact absurd rfl q
  · rw [List.getElem?_set_ne (Ne.symm e)]
    constructor
    · exact fun q => .inr ⟨e, q⟩
    · rintro (⟨q, _⟩ | ⟨_, q⟩)
      · exact absurd q e
      · exact q
theorem nf_set {n : Nat} {a : Addr} {vs : List V} {xs ys : List D} (e : Mem.cont W.M n = some ys) {b : Addr} : (W.set n a vs xs).nf b ↔ W.nf b := by
  have hl := cont_lt e
  constructor
  · rintro (⟨m, zs, q, r⟩ | z)
    · rcases (cont_set hl).mp q with ⟨rfl, _⟩ | ⟨_, q⟩
      · exact .inl ⟨m, ys, e, r⟩
      · exact .inl ⟨m, zs, q, r⟩
    · exact .inr z
  · rintro (⟨m, zs, q, r⟩ | z)
    · by_cases h : m = n
      · subst h
        exact .inl ⟨m, xs, (cont_set hl).mpr (.inl ⟨rfl, rfl⟩), r⟩
      · exact .inl ⟨m, zs, (cont_set hl).mpr (.inr ⟨h, q⟩), r⟩
    · exact .inr z
theorem Le.set {n : Nat} {a : Addr} {vs : List V} {xs ys : List D} (e : Mem.cont W.M n = some ys) (r : W.rho[n]? = some a) : Le W (W.set n a vs xs) where
  pre := fun _ _ q => q
  keep := fun b o q m => by
    have hne : b ≠ a := fun z => m (.inl ⟨n, ys, e, by rw [z]; exact r⟩)
    refine ⟨by show upd W.H a _ b = _; rw [upd_ne hne]; exact q, fun z => m ((nf_set e).mp z)⟩
theorem Ext.set (h : MR K W) {n : Nat} {a : Addr} {vs : List V} {xs ys : List D} (e : Mem.cont W.M n = some ys) (r : W.rho[n]? = some a) : Ext W (W.set n a vs xs) := by
  refine ⟨.set e r, rfl, fun b u z q => ?_⟩
  have hne : b ≠ a := fun ez => by
    obtain ⟨a2, _, r2, _, _, nz⟩ := h.cell n ys e
    rw [r] at r2
    cases r2
    exact nz (by rw [← ez]; exact z)
  show upd W.H a _ b = some u
  rw [upd_ne hne]
  exact q
theorem MR.set (h : MR K W) {n : Nat} {a : Addr} {vs : List V} {xs ys : List D} (e : Mem.cont W.M n = some ys) (r : W.rho[n]? = some a) (rs : Reps K W vs xs) : MR K (W.set n a vs xs) where
  len := by show W.rho.length = (W.M.set n (some xs)).length; rw [List.length_set]; exact h.len
  cell := fun m zs q => by
    rcases (cont_set (cont_lt e)).mp q with ⟨rfl, rfl⟩ | ⟨hm, q⟩
    · obtain ⟨a2, _, r2, _, _, nz⟩ := h.cell m ys e
      rw [r] at r2
      cases r2
      exact ⟨a, vs, r, upd_same, rs.le (.set e r), nz⟩
    · obtain ⟨b, us, r2, q2, rs2, nz⟩ := h.cell m zs q
      have hne : b ≠ a := fun z => hm (h.inj m n b zs ys q e r2 (by rw [z]; exact r))
      exact ⟨b, us, r2, by show upd W.H a _ b = _; rw [upd_ne hne]; exact q2, rs2.le (.set e r), nz⟩
  inj := fun m k b us zs e1 e2 r1 r2 => by
    have f : ∀ {j : Nat} {ws : List D}, Mem.cont (W.M.set n (some xs)) j = some ws → ∃ ws', Mem.cont W.M j = some ws' := fun {j ws} q => by
      rcases (cont_set (cont_lt e)).mp q with ⟨rfl, _⟩ | ⟨_, q⟩
      · exact ⟨ys, e⟩
      · exact ⟨ws, q⟩
    obtain ⟨u1, q1⟩ := f e1
    obtain ⟨u2, q2⟩ := f e2
    exact h.inj m k b u1 u2 q1 q2 r1 r2
  zt := fun b z => by
    obtain ⟨u, q⟩ := h.zt b z
    by_cases hb : b = a
    · exact ⟨_, by show upd W.H a _ b = _; rw [hb]; exact upd_same⟩
    · exact ⟨u, by show upd W.H a _ b = _; rw [upd_ne hb]; exact q⟩

/-! ### what a result asks -/
def Go (K : PySem.W.Frag) (W : Wd) (r : Res D) (Q : VK) : Prop := After r fun d M' => ∀ W' v, W'.M = M' → Ext W W' → MR K W' → Rep K W' v d → Q v W'.H
theorem Go.ok {Q : VK} (hM : MR K W) {d : D} {v : V} (r : Rep K W v d) (h : Go K W (.ok d W.M) Q) : Q v W.H := h W v rfl (.refl W) hM r
theorem Go.newL {Q : VK} (hM : MR K W) {m : Bool} {xs : List D} {vs : List V} (rs : Reps K W vs xs) (h : Go K W (newL m xs W.M) Q) : vs.length ≤ sizeLine ∧ ∀ p, W.H p = none → Q (.ref p) (upd W.H p (.lst vs)) := by
  unfold Sn.newL at h
  split at h
  · rename_i hz
    refine ⟨by rw [rs.length]; exact hz, fun p hp => ?_⟩
    cases m with
    | true => exact h (W.put p vs xs) (.ref p) rfl (.put hM hp vs xs) (.put hM hp rs) (.ref (rho_push.mpr (.inr ⟨hM.len.symm, rfl⟩)))
    | false => exact h (W.lay p (.lst vs)) (.ref p) rfl (.lay hM hp _) (.lay hM hp _) (.newL hM hp rs)
  · exact h.elim
theorem Go.newT {Q : VK} (hM : MR K W) {xs : List D} {vs : List V} (rs : Reps K W vs xs) (h : Go K W (newT xs W.M) Q) : vs.length ≤ sizeLine ∧ ∀ p, W.H p = none → Q (.ref p) (upd W.H p (.tup vs)) := by
  unfold Sn.newT at h
  split at h
  · rename_i hz
    refine ⟨by rw [rs.length]; exact hz, fun p hp => ?_⟩
    exact h (W.lay p (.tup vs)) (.ref p) rfl (.lay hM hp _) (.lay hM hp _) (.newT hM hp rs)
  · exact h.elim
/-- a list that may be joined: tracked -/
theorem Rep.itemsC (hM : MR K W) {d : D} {v : V} {xs : List D} (r : Rep K W v d) (e : itemsC W.M d = some xs) : ∃ a vs, v = .ref a ∧ W.H a = some (.lst vs) ∧ Reps K W vs xs := by
  cases r with
  | lst f n rs => cases e; exact ⟨_, _, rfl, f, rs⟩
  | ref q =>
    obtain ⟨a, vs, q2, f, rs, _⟩ := hM.cell _ _ e
    rw [q] at q2
    cases q2
    exact ⟨_, vs, rfl, f, rs⟩
  | _ => cases e
theorem Rep.itemsL (hM : MR K W) {d : D} {v : V} {xs : List D} (r : Rep K W v d) (e : itemsL W.M d = some xs) : ∃ a vs, v = .ref a ∧ SqL K W.H a vs ∧ Reps K W vs xs := by
  cases r with
  | scr f rs => cases e; exact ⟨_, _, rfl, f.sq, rs⟩
  | lst f n rs => cases e; exact ⟨_, _, rfl, .of f, rs⟩
  | ref q =>
    obtain ⟨a, vs, q2, f, rs, _⟩ := hM.cell _ _ e
    rw [q] at q2
    cases q2
    exact ⟨_, vs, rfl, .of f, rs⟩
  | _ => cases e
theorem Rep.itemsS (hM : MR K W) {d : D} {v : V} {xs : List D} (r : Rep K W v d) (e : itemsS W.M d = some xs) : ∃ a vs, v = .ref a ∧ (SqL K W.H a vs ∨ SqT K W.H a vs) ∧ Reps K W vs xs := by
  cases r with
  | tup f rs => cases e; exact ⟨_, _, rfl, .inr f.sq, rs⟩
  | scr f rs => cases e; exact ⟨_, _, rfl, .inl f.sq, rs⟩
  | lst f n rs => cases e; exact ⟨_, _, rfl, .inl (.of f), rs⟩
  | ref q =>
    obtain ⟨a, vs, q2, f, rs, _⟩ := hM.cell _ _ e
    rw [q] at q2
    cases q2
    exact ⟨_, vs, rfl, .inl (.of f), rs⟩
  | _ => cases e
mutual
theorem Rep.dp (hM : MR K W) : ∀ {d : D} {v : V} {p : PyData}, Rep K W v d → d.py0 = some p → Dp K W.H v p
  | .non, _, _, .non, e => by simp only [D.py0, Option.some.injEq] at e; subst e; exact .non
  | .bl _, _, _, .bl b, e => by simp only [D.py0, Option.some.injEq] at e; subst e; exact .bl b
  | .int _, _, _, .int i, e => by simp only [D.py0, Option.some.injEq] at e; subst e; exact .int i
  | .str _, _, _, .str x, e => by simp only [D.py0, Option.some.injEq] at e; subst e; exact .str x
  | .tup xs, _, p, .tup f rs, e => by
    simp only [D.py0, Option.map_eq_some_iff] at e
    obtain ⟨ps, e1, rfl⟩ := e
    exact .tup f.sq (Reps.dp hM rs e1)
  | .lst xs, _, p, .lst f n rs, e => by
    simp only [D.py0, Option.map_eq_some_iff] at e
    obtain ⟨ps, e1, rfl⟩ := e
    exact .lst (.of f) (Reps.dp hM rs e1)
  | .scr xs, _, p, .scr f rs, e => by
    simp only [D.py0, Option.map_eq_some_iff] at e
    obtain ⟨ps, e1, rfl⟩ := e
    exact .lst f.sq (Reps.dp hM rs e1)
  | .ref _, _, _, _, e => by simp only [D.py0] at e; cases e
theorem Reps.dp (hM : MR K W) : ∀ {ds : List D} {vs : List V} {ps : List PyData}, Reps K W vs ds → py0s ds = some ps → DpAll K W.H vs ps
  | [], _, _, .nil, e => by simp only [py0s, Option.some.injEq] at e; subst e; exact .nil
  | d :: ds, _, _, .cons r rs, e => by
    simp only [py0s] at e
    split at e
    · rename_i p ps e1 e2
      cases e
      exact .cons (Rep.dp hM r e1) (Reps.dp hM rs e2)
    · cases e
end
theorem Rep.dpR (hM : MR K W) {n : Nat} {v : V} {p : PyData} (r : Rep K W v (.ref n)) (e : (D.ref n).pyN W.M = some p) : Dp K W.H v p := by
  simp only [D.pyN] at e
  split at e
  · rename_i xs q
    simp only [Option.map_eq_some_iff] at e
    obtain ⟨ps, e1, rfl⟩ := e
    obtain ⟨a, vs, rfl, f, rs⟩ := r.itemsL hM (show Sn.itemsL W.M (.ref n) = some xs from q)
    exact .lst f (rs.dp hM e1)
  · cases e
mutual
theorem Rep.dpN (hM : MR K W) : ∀ {d : D} {v : V} {p : PyData}, Rep K W v d → d.pyN W.M = some p → Dp K W.H v p
  | .non, _, _, .non, e => by simp only [D.pyN, Option.some.injEq] at e; subst e; exact .non
  | .bl _, _, _, .bl b, e => by simp only [D.pyN, Option.some.injEq] at e; subst e; exact .bl b
  | .int _, _, _, .int i, e => by simp only [D.pyN, Option.some.injEq] at e; subst e; exact .int i
  | .str _, _, _, .str x, e => by simp only [D.pyN, Option.some.injEq] at e; subst e; exact .str x
  | .tup xs, _, p, .tup f rs, e => by
    simp only [D.pyN, Option.map_eq_some_iff] at e
    obtain ⟨ps, e1, rfl⟩ := e
    exact .tup f.sq (Reps.dpN hM rs e1)
  | .lst xs, _, p, .lst f n rs, e => by
    simp only [D.pyN, Option.map_eq_some_iff] at e
    obtain ⟨ps, e1, rfl⟩ := e
    exact .lst (.of f) (Reps.dpN hM rs e1)
  | .scr xs, _, p, .scr f rs, e => by
    simp only [D.pyN, Option.map_eq_some_iff] at e
    obtain ⟨ps, e1, rfl⟩ := e
    exact .lst f.sq (Reps.dpN hM rs e1)
  | .ref n, _, _, r, e => Rep.dpR hM r e
theorem Reps.dpN (hM : MR K W) : ∀ {ds : List D} {vs : List V} {ps : List PyData}, Reps K W vs ds → pysN W.M ds = some ps → DpAll K W.H vs ps
  | [], _, _, .nil, e => by simp only [pysN, Option.some.injEq] at e; subst e; exact .nil
  | d :: ds, _, _, .cons r rs, e => by
    simp only [pysN] at e
    split at e
    · rename_i p ps e1 e2
      cases e
      exact .cons (Rep.dpN hM r e1) (Reps.dpN hM rs e2)
    · cases e
end
theorem Rep.dpM (hM : MR K W) {d : D} {v : V} {p : PyData} (r : Rep K W v d) (e : d.py W.M = some p) : Dp K W.H v p := by
  cases d with
  | ref n =>
    unfold D.py at e
    dsimp only at e
    split at e
    · rename_i xs q
      simp only [Option.map_eq_some_iff] at e
      obtain ⟨ps, e1, rfl⟩ := e
      obtain ⟨a, vs, rfl, f, rs⟩ := r.itemsL hM (show Sn.itemsL W.M (.ref n) = some xs from q)
      exact .lst f (rs.dp hM e1)
    · cases e
  | _ => exact r.dp hM e
end
section
variable {X : Cx} {K : PySem.W.Frag} {W : Wd}
def rBin (K : PySem.W.Frag) (m : Bool) (op : Bop) : R2 := fun v u H Q => ∃ x y W, W.H = H ∧ MR K W ∧ Rep K W v x ∧ Rep K W u y ∧ Go K W (binop m op x y W.M) Q
def Bop.py : Bop → Operator
  | .add => .Add | .sub => .Sub | .mul => .Mult | .fdiv => .FloorDiv | .mod => .Mod | .pow => .Pow
theorem mulOk_of {i j : Int} (h : mulOk i j = true) : CMulW i j := by
  unfold mulOk at h
  unfold CMulW
  exact decide_eq_true_eq.mp h
theorem Go.intop {Q : VK} (hM : MR K W) {g : Int → Int → Bool} {f : Int → Int → Int} {x y : D} {v u : V} (rx : Rep K W v x) (ry : Rep K W u y) (h : Go K W (intop g f x y W.M) Q) :
    ∃ i j, v = .int i ∧ u = .int j ∧ g i j = true ∧ Q (.int (f i j)) W.H := by
  unfold Sn.intop at h
  split at h
  · rename_i i j
    cases rx.int'
    cases ry.int'
    obtain ⟨g, h⟩ := After.guard h
    exact ⟨i, j, rfl, rfl, g, Go.ok hM (.int _) h⟩
  · exact h.elim
theorem op_bin (m : Bool) (op : Bop) : OpR X (binaryOp op.py) (rBin X.K m op) := by
  intro pins s σ H v u vv uu Q I rv ru h
  obtain ⟨x, y, W, rfl, hM, rx, ry, h⟩ := h
  cases op with
  | add =>
    -- two lists joined
    have cat : ∀ {xs ys : List D}, itemsC W.M x = some xs → itemsC W.M y = some ys → Go X.K W (newL m (xs ++ ys) W.M) Q → wpAny (model X.prog X.w) X.A (binaryOp .Add vv uu) (EP X pins σ Q) X.xe s := fun {xs ys} e1 e2 g => by
      obtain ⟨a, vs, rfl, f1, r1⟩ := rx.itemsC hM e1
      obtain ⟨b, us, rfl, f2, r2⟩ := ry.itemsC hM e2
      obtain ⟨z, q⟩ := g.newL hM (r1.append r2)
      exact op_cat pins s σ W.H _ _ vv uu Q I rv ru ⟨a, b, vs, us, rfl, rfl, f1, f2, by rw [List.length_append] at z; exact z, q⟩
    replace h : Go X.K W (addop m x y W.M) Q := h
    unfold addop at h
    split at h
    · rename_i i j
      cases rx.int'
      cases ry.int'
      exact op_add pins s σ W.H _ _ vv uu Q I rv ru ⟨i, j, rfl, rfl, h.ok hM (.int _)⟩
    · rename_i i j
      cases rx.str'
      cases ry.str'
      obtain ⟨g, h⟩ := After.guard h
      exact op_add_str pins s σ W.H _ _ vv uu Q I rv ru ⟨i, j, rfl, rfl, decide_eq_true_eq.mp g, Go.ok hM (.str _) h⟩
    · rename_i xs ys
      obtain ⟨a, vs, rfl, f1, r1⟩ := rx.tup'
      obtain ⟨b, us, rfl, f2, r2⟩ := ry.tup'
      obtain ⟨z, q⟩ := Go.newT hM (r1.append r2) h
      have h' : Go X.K W (newT (xs ++ ys) W.M) Q := h
      unfold Sn.newT at h'
      rw [if_pos (by rw [← (r1.append r2).length]; exact z)] at h'
      refine op_catA pins s σ W.H _ _ vv uu Q I rv ru ⟨a, b, vs, us, rfl, rfl, f1.sq, f2.sq, by rw [List.length_append] at z; exact z, fun e => ?_, fun e1 e2 => ?_, fun _ _ => q⟩
      · subst e
        have e' := r1.length
        cases xs with
        | nil => rw [List.nil_append] at h'; exact Go.ok hM ry h'
        | cons x xs => exact absurd e' (by simp)
      · subst e2
        have e' := r2.length
        cases ys with
        | nil => rw [List.append_nil] at h'; exact Go.ok hM rx h'
        | cons x xs => exact absurd e' (by simp)
    · split at h
      · exact cat (by assumption) (by assumption) h
      · exact h.elim
  | sub =>
    obtain ⟨i, j, rfl, rfl, _, q⟩ := Go.intop hM rx ry h
    exact op_sub pins s σ W.H _ _ vv uu Q I rv ru ⟨i, j, rfl, rfl, q⟩
  | mul =>
    replace h : Go X.K W (mulop m x y W.M) Q := h
    unfold mulop at h
    split at h
    · rename_i i j
      cases rx.int'
      cases ry.int'
      obtain ⟨g, h⟩ := After.guard h
      exact op_mulW pins s σ W.H _ _ vv uu Q I rv ru ⟨i, j, rfl, rfl, mulOk_of g, Go.ok hM (.int _) h⟩
    · rename_i k _
      cases ry.int'
      split at h
      · rename_i xs e1
        obtain ⟨g, h⟩ := After.guard h
        simp only [Bool.and_eq_true, decide_eq_true_eq] at g
        obtain ⟨a, vs, rfl, f1, r1⟩ := rx.itemsC hM e1
        obtain ⟨z, q⟩ := Go.newL hM (r1.rep k.toNat) h
        exact op_rep pins s σ W.H _ _ vv uu Q I rv ru ⟨a, k, vs, rfl, rfl, f1, g.1.1, g.1.2, by rw [r1.length]; exact g.2, q⟩
      · exact h.elim
    · exact h.elim
  | fdiv =>
    obtain ⟨i, j, rfl, rfl, g, q⟩ := Go.intop hM rx ry h
    unfold divOk at g
    simp only [Bool.and_eq_true, decide_eq_true_eq] at g
    obtain ⟨t, rfl⟩ := rv
    obtain ⟨t', rfl⟩ := ru
    exact floordiv_int g.1 ⟨.int _, W.H, I.tok _, ⟨_, rfl⟩, q⟩ (.inl (PyProof.noPylong_of_log2 g.2))
  | mod =>
    obtain ⟨i, j, rfl, rfl, g, q⟩ := Go.intop hM rx ry h
    exact op_modN pins s σ W.H _ _ vv uu Q I rv ru ⟨i, j, rfl, rfl, decide_eq_true_eq.mp g, q⟩
  | pow =>
    obtain ⟨i, j, rfl, rfl, g, q⟩ := Go.intop hM rx ry h
    unfold powOk at g
    simp only [Bool.and_eq_true, decide_eq_true_eq] at g
    obtain ⟨t, rfl⟩ := rv
    obtain ⟨t', rfl⟩ := ru
    refine pow_int g.1 ?_ ⟨.int _, W.H, I.tok _, ⟨_, rfl⟩, q⟩
    have b : Builtin.Int.intBits i ≤ i.natAbs.log2 + 1 := by
      unfold Builtin.Int.intBits
      split <;> omega
    have b' : ((Builtin.Int.intBits i : Nat) : Int) ≤ ((i.natAbs.log2 + 1 : Nat) : Int) := by omega
    exact Int.le_trans (Int.mul_le_mul_of_nonneg_right b' g.1) g.2

/-! ### comparisons -/
def Cop.py : Cop → CmpOp
  | .eq => .Eq | .ne => .NotEq | .lt => .Lt | .le => .LtE | .gt => .Gt | .ge => .GtE
def rCmp (K : PySem.W.Frag) (op : Cop) : R2 := fun v u H Q => ∃ x y W c, W.H = H ∧ MR K W ∧ Rep K W v x ∧ Rep K W u y ∧ cmpop op x y W.M = some c ∧ Q (.bl c) H
theorem eqop_dp (hM : MR K W) {x y : D} {v u : V} {c : Bool} (rx : Rep K W v x) (ry : Rep K W u y) (e : eqop x y W.M = some c) :
    ∃ p q, Dp K W.H v p ∧ Dp K W.H u q ∧ SeqAt.shaped p = true ∧ SeqAt.shaped q = true ∧ PyData.eqv p q = c := by
  unfold eqop at e
  split at e
  · rename_i p q e1 e2
    split at e
    · rename_i s
      rw [Bool.and_eq_true] at s
      injection e with e
      exact ⟨p, q, rx.dpM hM e1, ry.dpM hM e2, s.1, s.2, e⟩
    · cases e
  · unfold eqopN at e
    split at e
    · rename_i p q e1 e2
      split at e
      · rename_i s
        rw [Bool.and_eq_true] at s
        injection e with e
        exact ⟨p, q, rx.dpN hM e1, ry.dpN hM e2, s.1, s.2, e⟩
      · cases e
    · cases e
theorem ordop_int {f : Int → Int → Bool} {x y : D} {v u : V} {c : Bool} (rx : Rep K W v x) (ry : Rep K W u y) (e : ordop f x y = some c) : ∃ i j, v = .int i ∧ u = .int j ∧ f i j = c := by
  unfold ordop at e
  split at e
  · rename_i i j
    injection e with e
    exact ⟨i, j, rx.int', ry.int', e⟩
  · cases e
theorem op_cmp (hu : X.A.units + 64 < cLine) (op : Cop) : OpR X (compareOp op.py) (rCmp X.K op) := by
  intro pins s σ H v u vv uu Q I rv ru h
  obtain ⟨x, y, W, c, rfl, hM, rx, ry, e, q⟩ := h
  cases op with
  | eq =>
    obtain ⟨a, b, d1, d2, s1, s2, rfl⟩ := eqop_dp hM rx ry e
    exact op_eqD hu pins s σ W.H _ _ vv uu Q I rv ru ⟨a, b, d1, d2, s1, s2, q⟩
  | ne =>
    obtain ⟨c', e', rfl⟩ := Option.map_eq_some_iff.mp (show (eqop x y W.M).map (!·) = some c from e)
    obtain ⟨a, b, d1, d2, s1, s2, e2⟩ := eqop_dp hM rx ry e'
    subst e2
    exact op_neD hu pins s σ W.H _ _ vv uu Q I rv ru ⟨a, b, d1, d2, s1, s2, q⟩
  | lt =>
    obtain ⟨i, j, rfl, rfl, rfl⟩ := ordop_int rx ry e
    exact op_lt pins s σ W.H _ _ vv uu Q I rv ru ⟨i, j, rfl, rfl, q⟩
  | le =>
    obtain ⟨i, j, rfl, rfl, rfl⟩ := ordop_int rx ry e
    exact op_le pins s σ W.H _ _ vv uu Q I rv ru ⟨i, j, rfl, rfl, q⟩
  | gt =>
    obtain ⟨i, j, rfl, rfl, rfl⟩ := ordop_int rx ry e
    exact op_gt pins s σ W.H _ _ vv uu Q I rv ru ⟨i, j, rfl, rfl, q⟩
  | ge =>
    obtain ⟨i, j, rfl, rfl, rfl⟩ := ordop_int rx ry e
    exact op_ge pins s σ W.H _ _ vv uu Q I rv ru ⟨i, j, rfl, rfl, q⟩
/-- is None -/
theorem Rep.non_iff {v : V} {d : D} (r : Rep K W v d) : decide (v = .non) = (match d with | .non => true | _ => false) := by
  cases r <;> rfl
/-- in, not in -/
theorem inop_dp (hM : MR K W) {x y : D} {v u : V} {c : Bool} (rx : Rep K W v x) (ry : Rep K W u y) (e : inop x y W.M = some c) :
    ∃ p qs, Dp K W.H v p ∧ Dp K W.H u (.list qs) ∧ SeqAt.shaped p = true ∧ SeqAt.shaped (.list qs) = true ∧ (qs.any fun q => PyData.eqv q p) = c := by
  unfold inop at e
  split at e
  · rename_i p ys e1 e2
    split at e
    · rename_i qs e3
      split at e
      · rename_i s
        rw [Bool.and_eq_true] at s
        injection e with e
        obtain ⟨a, vs, rfl, f, rs⟩ := ry.itemsL hM e2
        exact ⟨p, qs, rx.dpM hM e1, .lst f (rs.dp hM e3), s.1, s.2, e⟩
      · cases e
    · cases e
  · cases e
def rIns (K : PySem.W.Frag) (neg : Bool) : R2 := fun v u H Q => ∃ x y W c, W.H = H ∧ MR K W ∧ Rep K W v x ∧ Rep K W u y ∧ inop x y W.M = some c ∧ Q (.bl (if neg then !c else c)) H
theorem op_ins (hu : X.A.units + 65 < cLine) : OpR X (compareOp .In) (rIns X.K false) := by
  intro pins s σ H v u vv uu Q I rv ru h
  obtain ⟨x, y, W, c, rfl, hM, rx, ry, e, q⟩ := h
  obtain ⟨a, b, d1, d2, s1, s2, rfl⟩ := inop_dp hM rx ry e
  exact op_inD hu pins s σ W.H _ _ vv uu Q I rv ru ⟨a, b, d1, d2, s1, s2, q⟩
theorem op_nins (hu : X.A.units + 65 < cLine) : OpR X (compareOp .NotIn) (rIns X.K true) := by
  intro pins s σ H v u vv uu Q I rv ru h
  obtain ⟨x, y, W, c, rfl, hM, rx, ry, e, q⟩ := h
  obtain ⟨a, b, d1, d2, s1, s2, rfl⟩ := inop_dp hM rx ry e
  exact op_notInD hu pins s σ W.H _ _ vv uu Q I rv ru ⟨a, b, d1, d2, s1, s2, q⟩
end
end Sn
/-! Sn, part D: built-ins, subscripts, slices, methods, isinstance. -/
namespace Sn
open PySem PySem.Spec PyProof.Rows L2

section
variable {X : Cx} {K : PySem.W.Frag} {W : Wd}
theorem Reps.bools : ∀ {xs : List D} {vs : List V} {bs : List Bool}, Reps K W vs xs → boolsL xs = some bs → vs = bs.map V.bl
  | [], _, _, .nil, e => by
    simp only [boolsL, Option.some.injEq] at e
    subst e
    rfl
  | .bl b :: xs, _, _, .cons r rs, e => by
    simp only [boolsL, Option.map_eq_some_iff] at e
    obtain ⟨bs, e1, rfl⟩ := e
    rw [r.bl', Reps.bools rs e1]
    rfl
theorem Reps.ints : ∀ {xs : List D} {vs : List V} {is : List Int}, Reps K W vs xs → intsL xs = some is → vs = is.map V.int
  | [], _, _, .nil, e => by
    simp only [intsL, Option.some.injEq] at e
    subst e
    rfl
  | .int b :: xs, _, _, .cons r rs, e => by
    simp only [intsL, Option.map_eq_some_iff] at e
    obtain ⟨bs, e1, rfl⟩ := e
    rw [r.int', Reps.ints rs e1]
    rfl
def rPrim (K : PySem.W.Frag) (m : Bool) (p : Prim) : List V → Hp → VK → Prop := fun vs H Q => ∃ xs W, W.H = H ∧ MR K W ∧ Reps K W vs xs ∧ Go K W (primop m p xs W.M) Q
/-- the name, and what it stands for -/
def Prim.nm : Prim → Str
  | .len => "len" | .abs => "abs" | .int => "int" | .str => "str" | .repr => "repr" | .max => "max" | .min => "min" | .all => "all" | .any => "any" | .sum => "sum" | .tuple => "tuple" | .list => "list" | .bool => "bool" | .divmod => "divmod"
def Prim.val : Prim → Value
  | .len => .builtin "len" | .abs => .builtin "abs" | .int => .type "int" | .str => .type "str" | .repr => .builtin "repr" | .max => .builtin "max" | .min => .builtin "min" | .all => .builtin "all" | .any => .builtin "any" | .sum => .builtin "sum"
  | .tuple => .type "tuple" | .list => .type "list" | .bool => .type "bool" | .divmod => .builtin "divmod"
theorem Prim.boot (p : Prim) : bootBuiltins p.nm = some p.val := by
  cases p <;> decide +kernel
theorem Prim.nm_ne (p : Prim) : p.nm ≠ "__name__" := by cases p <;> decide
theorem Prim.nm_db (p : Prim) : (p.nm == ("__debug__" : Str)) = false := by cases p <;> decide

/-- repr of data -/
theorem repr_ok (hg : X.A.guards = some []) (hu : X.A.units + 70 < cLine) {pins : List (Addr × Obj)} {σ : L2.St} {H : Hp} {s : Shared} {v : V} {u : Value} {p : PyData} {Q : VK} (I : Inv X pins σ H s) (rv : RelV v u) (d : Dp X.K H v p) (hs : p.showable = true)
    (hd : p.depth ≤ 60) (hz : p.shown.length ≤ sizeLine) (hn : p.hasDict = false) (q : Q (.str p.shown) H) : wpAny (model X.prog X.w) X.A (call (.builtin "repr") [u]) (EP X pins σ Q) X.xe s := by
  cases d with
  | non => cases rv; exact PySem.P.repr_of_none ⟨.str _, H, I.tok _, ⟨_, rfl⟩, q⟩
  | bl b => cases rv; exact PySem.P.repr_of_bool ⟨.str _, H, I.tok _, ⟨_, rfl⟩, q⟩
  | int i =>
    obtain ⟨t, rfl⟩ := rv
    exact PySem.P.repr_of_int (of_decide_eq_true (by simpa [PyData.showable] using hs)) ⟨.str _, H, I.tok _, ⟨_, rfl⟩, q⟩
  | str x =>
    obtain ⟨t, rfl⟩ := rv
    exact PySem.P.repr_of_str ⟨.str _, H, I.tok _, ⟨_, rfl⟩, q⟩ (by simpa [PyData.shown] using hz)
  | lst f r =>
    cases rv
    obtain ⟨as, rd⟩ := Dp.reads I _ _ _ (.lst f r) rfl
    exact repr_of_reads' rd hs (PyData.noDict_hsm hn) hg (by omega) (fun _ _ e => e) (fun h' w tk k => ⟨.str _, H, I.kept k, ⟨_, rfl⟩, q⟩) hz
  | tup f r =>
    cases rv
    obtain ⟨as, rd⟩ := Dp.reads I _ _ _ (.tup f r) rfl
    exact repr_of_reads' rd hs (PyData.noDict_hsm hn) hg (by omega) (fun _ _ e => e) (fun h' w tk k => ⟨.str _, H, I.kept k, ⟨_, rfl⟩, q⟩) hz
mutual
theorem py0_noDict : ∀ {d : D} {p : PyData}, d.py0 = some p → p.hasDict = false
  | .non, _, e => by simp only [D.py0, Option.some.injEq] at e; subst e; rfl
  | .bl _, _, e => by simp only [D.py0, Option.some.injEq] at e; subst e; rfl
  | .int _, _, e => by simp only [D.py0, Option.some.injEq] at e; subst e; rfl
  | .str _, _, e => by simp only [D.py0, Option.some.injEq] at e; subst e; rfl
  | .tup xs, _, e => by
    simp only [D.py0, Option.map_eq_some_iff] at e
    obtain ⟨ps, e1, rfl⟩ := e
    simpa only [PyData.hasDict] using py0s_noDict e1
  | .lst xs, _, e => by
    simp only [D.py0, Option.map_eq_some_iff] at e
    obtain ⟨ps, e1, rfl⟩ := e
    simpa only [PyData.hasDict] using py0s_noDict e1
  | .scr xs, _, e => by
    simp only [D.py0, Option.map_eq_some_iff] at e
    obtain ⟨ps, e1, rfl⟩ := e
    simpa only [PyData.hasDict] using py0s_noDict e1
  | .ref _, _, e => by simp only [D.py0] at e; cases e
theorem py0s_noDict : ∀ {ds : List D} {ps : List PyData}, py0s ds = some ps → PyData.hasDictAll ps = false
  | [], _, e => by simp only [py0s, Option.some.injEq] at e; subst e; rfl
  | d :: ds, _, e => by
    simp only [py0s] at e
    split at e
    · rename_i p ps e1 e2
      cases e
      simp only [PyData.hasDictAll, py0_noDict e1, py0s_noDict e2, Bool.or_self]
    · cases e
end
theorem pyR_noDict {M : Mem} {n : Nat} {p : PyData} (e : (D.ref n).pyN M = some p) : p.hasDict = false := by
  simp only [D.pyN] at e
  split at e
  · simp only [Option.map_eq_some_iff] at e
    obtain ⟨ps, e1, rfl⟩ := e
    simpa only [PyData.hasDict] using py0s_noDict e1
  · cases e
mutual
theorem pyN_noDict {M : Mem} : ∀ {d : D} {p : PyData}, d.pyN M = some p → p.hasDict = false
  | .non, _, e => by simp only [D.pyN, Option.some.injEq] at e; subst e; rfl
  | .bl _, _, e => by simp only [D.pyN, Option.some.injEq] at e; subst e; rfl
  | .int _, _, e => by simp only [D.pyN, Option.some.injEq] at e; subst e; rfl
  | .str _, _, e => by simp only [D.pyN, Option.some.injEq] at e; subst e; rfl
  | .tup _, _, e => by
    simp only [D.pyN, Option.map_eq_some_iff] at e
    obtain ⟨ps, e1, rfl⟩ := e
    simpa only [PyData.hasDict] using pysN_noDict e1
  | .lst _, _, e => by
    simp only [D.pyN, Option.map_eq_some_iff] at e
    obtain ⟨ps, e1, rfl⟩ := e
    simpa only [PyData.hasDict] using pysN_noDict e1
  | .scr _, _, e => by
    simp only [D.pyN, Option.map_eq_some_iff] at e
    obtain ⟨ps, e1, rfl⟩ := e
    simpa only [PyData.hasDict] using pysN_noDict e1
  | .ref _, _, e => pyR_noDict e
theorem pysN_noDict {M : Mem} : ∀ {ds : List D} {ps : List PyData}, pysN M ds = some ps → PyData.hasDictAll ps = false
  | [], _, e => by simp only [pysN, Option.some.injEq] at e; subst e; rfl
  | d :: ds, _, e => by
    simp only [pysN] at e
    split at e
    · rename_i p ps e1 e2
      cases e
      simp only [PyData.hasDictAll, pyN_noDict e1, pysN_noDict e2, Bool.or_self]
    · cases e
end
theorem py_noDict {M : Mem} {d : D} {p : PyData} (e : d.py M = some p) : p.hasDict = false := by
  cases d with
  | ref n =>
    unfold D.py at e
    dsimp only at e
    split at e
    · simp only [Option.map_eq_some_iff] at e
      obtain ⟨ps, e1, rfl⟩ := e
      simpa only [PyData.hasDict] using py0s_noDict e1
    · cases e
  | _ => exact py0_noDict e
theorem max2_int (i j : Int) : nuMax2 (.int i) (.int j) = some (.int (if j > i then j else i)) := by
  show some (if decide (i < j) = true then V.int j else V.int i) = _
  by_cases h : i < j
  · rw [if_pos (decide_eq_true h), if_pos h]
  · rw [if_neg (by simpa using h), if_neg h]
theorem min2_int (i j : Int) : nuMin2 (.int i) (.int j) = some (.int (if j < i then j else i)) := by
  show some (if decide (j < i) = true then V.int j else V.int i) = _
  by_cases h : j < i
  · rw [if_pos (decide_eq_true h), if_pos h]
  · rw [if_neg (by simpa using h), if_neg h]
theorem max3_int (i j k : Int) : nuMax3 (.int i) (.int j) (.int k) = some (.int (if k > (if j > i then j else i) then k else (if j > i then j else i))) := by
  unfold nuMax3
  rw [max2_int]
  exact max2_int _ k
theorem min3_int (i j k : Int) : nuMin3 (.int i) (.int j) (.int k) = some (.int (if k < (if j < i then j else i) then k else (if j < i then j else i))) := by
  unfold nuMin3
  rw [min2_int]
  exact min2_int _ k
theorem call_prim (hc : X.calm = true) (hg : X.A.guards = some []) (hu : X.A.units + 70 < cLine) (m : Bool) (p : Prim) : CallR X p.val (rPrim X.K m p) := by
  intro pins s σ H vs us Q I rv h
  obtain ⟨xs, W, rfl, hM, rs, h⟩ := h
  unfold primop at h
  split at h
  · -- len of a text
    rename_i x
    obtain ⟨v, rfl, r⟩ := rs.one
    obtain ⟨g, h⟩ := After.guard h
    cases r.str'
    exact call_len pins s σ W.H _ us Q I rv ⟨_, _, rfl, ⟨decide_eq_true_eq.mp g, rfl⟩, Go.ok hM (.int _) h⟩
  · rename_i d _
    obtain ⟨v, rfl, r⟩ := rs.one
    split at h
    · rename_i ys e
      obtain ⟨a, vs, rfl, f, rs⟩ := r.itemsS hM e
      refine call_len pins s σ W.H _ us Q I rv ⟨.ref a, vs.length, rfl, ?_, ?_⟩
      · rcases f with f | f
        · exact .inl ⟨_, f, rfl⟩
        · exact .inr ⟨_, f, rfl⟩
      · rw [rs.length]
        exact Go.ok hM (.int _) h
    · exact h.elim
  · rename_i i
    obtain ⟨v, rfl, r⟩ := rs.one
    cases r.int'
    refine call_abs pins s σ W.H _ us Q I rv ⟨_, rfl, ?_⟩
    have e : (if i < 0 then -i else i) = ((i.natAbs : Nat) : Int) := by split <;> omega
    rw [e]
    exact Go.ok hM (.int _) h
  · rename_i i
    obtain ⟨v, rfl, r⟩ := rs.one
    cases r.int'
    exact call_int1 pins s σ W.H _ us Q I rv (.inl ⟨_, rfl, Go.ok hM (.int _) h⟩)
  · rename_i i
    obtain ⟨v, rfl, r⟩ := rs.one
    cases r.bl'
    exact call_int1 pins s σ W.H _ us Q I rv (.inr ⟨_, rfl, Go.ok hM (.int _) h⟩)
  · rename_i i
    obtain ⟨v, rfl, r⟩ := rs.one
    cases r.bl'
    exact call_bool1 pins s σ W.H _ us Q I rv (.inr ⟨_, rfl, Go.ok hM (.bl _) h⟩)
  · rename_i i
    obtain ⟨v, rfl, r⟩ := rs.one
    cases r.int'
    obtain ⟨g, h⟩ := After.guard h
    exact call_str_int pins s σ W.H _ us Q I rv ⟨_, rfl, decide_eq_true_eq.mp g, Go.ok hM (.str _) h⟩
  · -- repr
    obtain ⟨v, rfl, r⟩ := rs.one
    obtain ⟨u, rfl, ru⟩ := vals1 rv
    split at h
    · rename_i p e
      obtain ⟨g, h⟩ := After.guard h
      simp only [Bool.and_eq_true, decide_eq_true_eq] at g
      exact repr_ok hg hu I ru (r.dpM hM e) g.1.1 g.1.2 g.2 (py_noDict e) (Go.ok hM (.str _) h)
    · split at h
      · rename_i p e
        obtain ⟨g, h⟩ := After.guard h
        simp only [Bool.and_eq_true, decide_eq_true_eq] at g
        exact repr_ok hg hu I ru (r.dpN hM e) g.1.1 g.1.2 g.2 (pyN_noDict e) (Go.ok hM (.str _) h)
      · exact h.elim
  · rename_i i j
    obtain ⟨v, u, rfl, r1, r2⟩ := rs.two
    cases r1.int'
    cases r2.int'
    exact call_max2 hc pins s σ W.H _ us Q I rv ⟨_, _, rfl, Go.ok hM (.int _) h⟩
  · rename_i i j
    obtain ⟨v, u, rfl, r1, r2⟩ := rs.two
    cases r1.int'
    cases r2.int'
    exact call_min2 hc pins s σ W.H _ us Q I rv ⟨_, _, rfl, Go.ok hM (.int _) h⟩
  · rename_i i j k
    obtain ⟨v, u, t, rfl, r1, r2, r3⟩ := rs.three
    cases r1.int'
    cases r2.int'
    cases r3.int'
    exact call_max3Nu hc pins s σ W.H _ us Q I rv ⟨_, _, _, _, rfl, max3_int i j k, Go.ok hM (.int _) h⟩
  · rename_i i j k
    obtain ⟨v, u, t, rfl, r1, r2, r3⟩ := rs.three
    cases r1.int'
    cases r2.int'
    cases r3.int'
    exact call_min3Nu hc pins s σ W.H _ us Q I rv ⟨_, _, _, _, rfl, min3_int i j k, Go.ok hM (.int _) h⟩
  · obtain ⟨v, rfl, r⟩ := rs.one
    split at h
    · rename_i ys e
      split at h
      · rename_i bs e2
        obtain ⟨a, vs, rfl, f, rs⟩ := r.itemsL hM e
        cases rs.bools e2
        exact cr_all hc pins s σ W.H _ us Q I rv ⟨_, _, rfl, f, Go.ok hM (.bl _) h⟩
      · exact h.elim
    · exact h.elim
  · obtain ⟨v, rfl, r⟩ := rs.one
    split at h
    · rename_i ys e
      split at h
      · rename_i bs e2
        obtain ⟨a, vs, rfl, f, rs⟩ := r.itemsL hM e
        cases rs.bools e2
        exact cr_any hc pins s σ W.H _ us Q I rv ⟨_, _, rfl, f, Go.ok hM (.bl _) h⟩
      · exact h.elim
    · exact h.elim
  · obtain ⟨v, rfl, r⟩ := rs.one
    split at h
    · rename_i ys e
      split at h
      · rename_i bs e2
        obtain ⟨a, vs, rfl, f, rs⟩ := r.itemsL hM e
        cases rs.ints e2
        exact cr_sum hc pins s σ W.H _ us Q I rv ⟨_, _, rfl, f, Go.ok hM (.int _) h⟩
      · exact h.elim
    · exact h.elim
  · -- tuple
    rename_i d
    obtain ⟨v, rfl, r⟩ := rs.one
    split at h
    · rename_i ys e
      cases d with
      | tup zs =>
        cases e
        obtain ⟨a, vs, rfl, f, rs⟩ := r.tup'
        have z : ys.length ≤ sizeLine := by
          unfold Sn.newT at h
          split at h
          · assumption
          · exact h.elim
        unfold Sn.newT at h
        rw [if_pos z] at h
        exact call_tuple_of pins s σ W.H _ us Q I rv ⟨_, _, rfl, .inr ⟨f.sq, Go.ok hM r h⟩⟩
      | _ =>
        obtain ⟨a, vs, rfl, f, rs⟩ := r.itemsL hM e
        obtain ⟨z, q⟩ := Go.newT hM rs h
        exact call_tuple_of pins s σ W.H _ us Q I rv ⟨_, _, rfl, .inl ⟨f, q⟩⟩
    · exact h.elim
  · obtain ⟨v, rfl, r⟩ := rs.one
    split at h
    · rename_i ys e
      obtain ⟨a, vs, rfl, f, rs⟩ := r.itemsS hM e
      obtain ⟨z, q⟩ := Go.newL hM rs h
      exact call_list_of pins s σ W.H _ us Q I rv ⟨_, _, rfl, f, q⟩
    · exact h.elim
  · rename_i i j
    obtain ⟨v, u, rfl, r1, r2⟩ := rs.two
    cases r1.int'
    cases r2.int'
    obtain ⟨g, h⟩ := After.guard h
    simp only [Bool.and_eq_true, decide_eq_true_eq] at g
    obtain ⟨z, q⟩ := Go.newT hM (.cons (.int (i / j)) (.cons (.int (i % j)) .nil)) h
    exact call_divmod pins s σ W.H _ us Q I rv ⟨_, _, rfl, g, q⟩
  · exact h.elim

/-! ### subscripts -/
theorem atI_rep {vs : List V} {xs : List D} {i : Int} {d : D} (rs : Reps K W vs xs) (e : atI xs i = some d) : ∃ v, atI vs i = some v ∧ Rep K W v d := by
  unfold atI at e ⊢
  rw [rs.length]
  cases q : ixN xs.length i with
  | none => rw [q] at e; cases e
  | some j =>
    rw [q] at e
    exact rs.get e
def rIxD (K : PySem.W.Frag) : R2 := fun v u H Q => ∃ x i W d, W.H = H ∧ MR K W ∧ Rep K W v x ∧ u = .int i ∧ ixop x i W.M = some d ∧ ∀ w, Rep K W w d → Q w W.H
theorem ix_D : IxR X (rIxD X.K) := by
  intro value slice pins s σ H v u vv uu Q I rv ru h hs
  obtain ⟨x, i, W, d, rfl, hM, r, rfl, e, q⟩ := h
  refine ix_seq value slice pins s σ W.H _ _ vv uu Q I rv ru ?_ hs
  unfold ixop at e
  split at e
  · rename_i xs e1
    obtain ⟨a, vs, rfl, f, rs⟩ := r.itemsS hM e1
    obtain ⟨w, e2, rw'⟩ := atI_rep rs e
    rcases f with f | f
    · exact .inl ⟨_, _, _, _, rfl, rfl, f, e2, q w rw'⟩
    · exact .inr (.inl ⟨_, _, _, _, rfl, rfl, f, e2, q w rw'⟩)
  · split at e
    · rename_i z _
      cases r.str'
      split at e
      · rename_i hz
        obtain ⟨c, e2, rfl⟩ := Option.map_eq_some_iff.mp e
        exact .inr (.inr ⟨_, _, _, rfl, rfl, hz, e2, q _ (.str _)⟩)
      · cases e
    · cases e

/-! ### slices -/
theorem Reps.cut {vs : List V} {xs : List D} (rs : Reps K W vs xs) (lo hi : Option Int) : Reps K W (cutV vs lo hi) (cut xs lo hi) := by
  unfold cutV Sn.cut
  rw [rs.length]
  exact (rs.drop _).take _
def rSlD (K : PySem.W.Frag) (m : Bool) : V → Option Int → Option Int → Hp → VK → Prop := fun v lo hi H Q => ∃ x W, W.H = H ∧ MR K W ∧ Rep K W v x ∧ Go K W (slop m x lo hi W.M) Q
theorem cut_whole {α : Type} {xs : List α} {a b : Nat} (h : a = 0 ∧ b = xs.length) : (xs.drop a).take (b - a) = xs := by
  obtain ⟨rfl, rfl⟩ := h
  simp
theorem sl_D (m : Bool) : SlR X (rSlD X.K m) := by
  intro pins s σ H v vv vl vu lo hi sl Q I rv hs pl pu h
  obtain ⟨x, W, rfl, hM, r, h⟩ := h
  unfold slop at h
  split at h
  · rename_i xs
    obtain ⟨a, vs, rfl, f, rs⟩ := r.tup'
    obtain ⟨z, q⟩ := Go.newT hM (rs.cut lo hi) h
    refine sl_tupA pins s σ W.H _ vv vl vu lo hi sl Q I rv hs pl pu ⟨_, _, rfl, f.sq, fun e => ?_, fun _ => q⟩
    have e' : cut xs lo hi = xs := by
      unfold Sn.cut
      rw [rs.length] at e
      exact cut_whole e
    unfold Sn.newT at h
    rw [if_pos (by rw [← (rs.cut lo hi).length]; exact z), e'] at h
    exact Go.ok hM r h
  · split at h
    · rename_i xs e
      obtain ⟨a, vs, rfl, f, rs⟩ := r.itemsL hM e
      obtain ⟨z, q⟩ := Go.newL hM (rs.cut lo hi) h
      exact sl_list pins s σ W.H _ vv vl vu lo hi sl Q I rv hs pl pu ⟨_, _, rfl, f, q⟩
    · exact h.elim

/-! ### methods of lists -/
def Meth.nm : Meth → Str
  | .append => "append" | .reverse => "reverse" | .pop => "pop"
def Meth.id : Meth → String
  | .append => "list.append" | .reverse => "list.reverse" | .pop => "list.pop"
def rMeth (K : PySem.W.Frag) (m : Meth) : V → List V → Hp → VK → Prop := fun v vs H Q => ∃ x xs W, W.H = H ∧ MR K W ∧ Rep K W v x ∧ Reps K W vs xs ∧ Go K W (methop m x xs W.M) Q
theorem Rep.mutL (hM : MR K W) {n : Nat} {v : V} {xs : List D} (r : Rep K W v (.ref n)) (e : Mem.cont W.M n = some xs) : ∃ a vs, v = .ref a ∧ W.rho[n]? = some a ∧ W.H a = some (.lst vs) ∧ Reps K W vs xs := by
  cases r with
  | ref q =>
    obtain ⟨a, vs, q2, f, rs, _⟩ := hM.cell _ _ e
    rw [q] at q2
    cases q2
    exact ⟨_, vs, rfl, q, f, rs⟩
theorem Go.set {Q : VK} (hM : MR K W) {n : Nat} {a : Addr} {xs ys : List D} {vs : List V} {d : D} {v : V} (e : Mem.cont W.M n = some ys) (q : W.rho[n]? = some a) (rs : Reps K W vs xs) (r : Rep K W v d)
    (h : Go K W (.ok d (W.M.set n (some xs))) Q) : Q v (upd W.H a (.lst vs)) := h (W.set n a vs xs) v rfl (.set hM e q) (.set hM e q rs) (r.le (.set e q))
theorem Reps.dropLast {vs : List V} {xs : List D} (rs : Reps K W vs xs) : Reps K W vs.dropLast xs.dropLast := by
  rw [List.dropLast_eq_take, List.dropLast_eq_take, rs.length]
  exact rs.take _
theorem mt_meth (m : Meth) : MtR X m.id (rMeth X.K m) := by
  intro pins s σ H v vs vv us Q I rv rvs h
  obtain ⟨x, xs, W, rfl, hM, r, rs, h⟩ := h
  unfold methop at h
  split at h
  · obtain ⟨y, rfl, ry⟩ := rs.one
    split at h
    · rename_i zs e
      obtain ⟨g, h⟩ := After.guard h
      obtain ⟨a, ws, rfl, q, f, rz⟩ := r.mutL hM e
      exact mt_append pins s σ W.H _ _ vv us Q I rv rvs ⟨_, _, _, rfl, rfl, f, by rw [rz.length]; exact decide_eq_true_eq.mp g, Go.set hM e q (rz.append (.cons ry .nil)) .non h⟩
    · exact h.elim
  · cases rs.zero
    split at h
    · rename_i zs e
      obtain ⟨a, ws, rfl, q, f, rz⟩ := r.mutL hM e
      exact mt_reverse pins s σ W.H _ _ vv us Q I rv rvs ⟨_, _, rfl, rfl, f, Go.set hM e q rz.reverse .non h⟩
    · exact h.elim
  · cases rs.zero
    split at h
    · rename_i zs e
      split at h
      · rename_i y ey
        obtain ⟨a, ws, rfl, q, f, rz⟩ := r.mutL hM e
        obtain ⟨w, ew, rw'⟩ := rz.get ey
        exact mt_pop pins s σ W.H _ _ vv us Q I rv rvs ⟨_, _, _, rfl, rfl, f, by rw [rz.length]; exact ew, Go.set hM e q rz.dropLast rw' h⟩
      · exact h.elim
    · exact h.elim
  · exact h.elim

/-! ### o[i] = v -/
def gSetD (K : PySem.W.Frag) : TSet := fun o i v H Q => ∃ x k d W M4, W.H = H ∧ MR K W ∧ Rep K W o x ∧ i = .int k ∧ Rep K W v d ∧ setop x k d W.M = some M4 ∧ ∀ W', W'.M = M4 → Ext W W' → MR K W' → Q W'.H
theorem set_D : PSet X (gSetD X.K) := by
  intro pins s σ H o i v oo ii vv Q I ro ri rv h
  obtain ⟨x, k, d, W, M4, rfl, hM, rx, rfl, rd, e, q⟩ := h
  unfold setop at e
  split at e
  · rename_i n
    split at e
    · rename_i xs e1
      split at e
      · rename_i j e2
        cases e
        obtain ⟨a, vs, rfl, qa, f, rs⟩ := rx.mutL hM e1
        exact set_list pins s σ W.H _ _ _ oo ii vv Q I ro ri rv ⟨_, _, _, _, rfl, rfl, f, by rw [rs.length]; exact e2, q (W.set n a _ _) rfl (.set hM e1 qa) (.set hM e1 qa (rs.set rd j))⟩
      · cases e
    · cases e
  · cases e

/-! ### isinstance -/
def Kind.nm : Kind → Str
  | .int => "int" | .bool => "bool" | .str => "str" | .list => "list" | .tuple => "tuple"
def Kind.ty : Kind → String
  | .int => "int" | .bool => "bool" | .str => "str" | .list => "list" | .tuple => "tuple"
theorem Kind.boot (k : Kind) : bootBuiltins k.nm = some (.type k.ty) := by
  cases k <;> decide +kernel
theorem Kind.nm_ne (p : Kind) : p.nm ≠ "__name__" := by cases p <;> decide
theorem Kind.nm_db (p : Kind) : (p.nm == ("__debug__" : Str)) = false := by cases p <;> decide
/-- a datum's type -/
def tyD : D → String
  | .non => "NoneType" | .bl _ => "bool" | .int _ => "int" | .str _ => "str" | .tup _ => "tuple" | .lst _ => "list" | .ref _ => "list" | .scr _ => "list"
theorem tyD_tyX {d : D} {v : V} (hM : MR K W) (r : Rep K W v d) (hl : ∀ n, d = .ref n → ∃ xs, Mem.cont W.M n = some xs) : TyX K W.H v (.type (tyD d)) := by
  cases r with
  | non => exact .base .non
  | bl b => exact .base (.bl b)
  | int b => exact .base (.int b)
  | str b => exact .base (.str b)
  | lst f n rs => exact .base (.lst f)
  | scr f rs =>
    rcases f with ⟨f | ⟨o, f⟩, _⟩ | ⟨o, its, n, e, c, _⟩
    · exact .base (.lst f)
    · exact .base (.frz f)
    · exact .kList e c
  | tup f rs =>
    rcases f with ⟨f | ⟨o, f⟩, _⟩ | ⟨o, its, n, e, c, _⟩
    · exact .base (.tup f)
    · exact .fTuple f
    · exact .kTuple e c
  | @ref a n q =>
    obtain ⟨xs, e⟩ := hl n rfl
    obtain ⟨a2, vs, q2, f, _⟩ := hM.cell _ _ e
    rw [q] at q2
    cases q2
    exact .base (.lst f)
theorem kit_kind (K : PySem.W.Frag) (d : D) (k : Kind) : PySem.W.kitOne K (.type (tyD d)) (.type k.ty) = some (isKind k d) := by
  have h : ∀ (a b : String) (v : Bool), PySem.W.kitOne [] (.type a) (.type b) = some v → PySem.W.kitOne K (.type a) (.type b) = some v := fun a b v e => by
    exact e
  cases d <;> cases k <;> simp only [tyD, Kind.ty, isKind] <;> exact h _ _ _ (by decide +kernel)
end
end Sn
/-! Sn, part E: the match of a text with the language, and where a text stands. -/
namespace Sn
open PySem PySem.Spec PyProof.Rows L2

/-! ### the match -/
mutual
def Tg.slots : Tg → List Nat
  | .nm i => [i]
  | .tp ts => tgSlots ts
def tgSlots : List Tg → List Nat
  | [] => []
  | t :: ts => t.slots ++ tgSlots ts
end
def visB (sc : Scope) (x : Str) : Bool := match sc.names.lookup x with
  | some .local => true | some .cell => true | some .free => true | _ => false
def locB (sc : Scope) (x : Str) : Bool := match sc.names.lookup x with
  | some .local => true | some .cell => true | _ => false
def glB (sc : Scope) (x : Str) : Bool := decide (sc.names.lookup x = some .globalImplicit) && !(x == ("__debug__" : Str))
mutual
def chkTg (N : List Str) (ok : Str → Bool) : Tg → Expr → Bool
  | .nm i, e => match e with
    | .Name x _ => decide (N[i]? = some x) && ok x
    | _ => false
  | .tp ts, e => match e with
    | .Tuple es _ _ => chkTgs N ok ts es
    | _ => false
def chkTgs (N : List Str) (ok : Str → Bool) : List Tg → List Expr → Bool
  | [], es => es.isEmpty
  | t :: ts, es => match es with
    | e :: es' => chkTg N ok t e && chkTgs N ok ts es'
    | [] => false
end
def ownOf (N : List Str) (own : List Nat) : List (Str × Nat) := own.map fun i => (N.getD i Str.empty, i)
def isTup : Expr → Bool
  | .Tuple _ _ _ => true
  | _ => false
def isStarred : Expr → Bool
  | .Starred .. => true
  | _ => false
mutual
def chkE (N : List Str) : Scope → E → Expr → Bool
  | sc, .var i, e => match e with
    | .Name x _ => decide (N[i]? = some x) && visB sc x && !(x == ("__debug__" : Str)) && !(x == ("__classdict__" : Str))
    | _ => false
  | _, .int i, e => match e with
    | .Constant (.int j) _ _ => decide (i = j)
    | _ => false
  | _, .str i, e => match e with
    | .Constant (.str j) _ _ => decide (i = j)
    | _ => false
  | _, .bl i, e => match e with
    | .Constant (.bool j) _ _ => decide (i = j)
    | _ => false
  | _, .non, e => match e with
    | .Constant .none _ _ => true
    | _ => false
  | sc, .gint x _, e => match e with
    | .Name y _ => decide (x = y) && glB sc y
    | _ => false
  | sc, .gcon x _, e => match e with
    | .Name y _ => decide (x = y) && glB sc y
    | _ => false
  | _, .never, e => match e with
    | .Call _ _ _ _ => true
    | _ => false
  | sc, .bin _ op a b, e => match e with
    | .BinOp x o y _ => decide (o = op.py) && chkE N sc a x && chkE N sc b y
    | _ => false
  | sc, .neg a, e => match e with
    | .UnaryOp .USub x _ => chkE N sc a x
    | _ => false
  | sc, .not a, e => match e with
    | .UnaryOp .Not x _ => chkE N sc a x
    | _ => false
  | sc, .and a b, e => match e with
    | .BoolOp .And (x :: y :: r) p => chkE N sc a x && (match r with
      | [] => chkE N sc b y
      | _ => chkE N sc b (.BoolOp .And (y :: r) p))
    | _ => false
  | sc, .or a b, e => match e with
    | .BoolOp .Or (x :: y :: r) p => chkE N sc a x && (match r with
      | [] => chkE N sc b y
      | _ => chkE N sc b (.BoolOp .Or (y :: r) p))
    | _ => false
  | sc, .cmp op a b, e => match e with
    | .Compare x [o] [y] _ => decide (o = op.py) && chkE N sc a x && chkE N sc b y
    | _ => false
  | sc, .chain op1 op2 a b c, e => match e with
    | .Compare x [o1, o2] [y, z] _ => decide (o1 = op1.py) && decide (o2 = op2.py) && chkE N sc a x && chkE N sc b y && chkE N sc c z
    | _ => false
  | sc, .isn a, e => match e with
    | .Compare x [.Is] [.Constant .none _ _] _ => chkE N sc a x
    | _ => false
  | sc, .notn a, e => match e with
    | .Compare x [.IsNot] [.Constant .none _ _] _ => chkE N sc a x
    | _ => false
  | sc, .inn a b, e => match e with
    | .Compare x [.In] [y] _ => chkE N sc a x && chkE N sc b y
    | _ => false
  | sc, .nin a b, e => match e with
    | .Compare x [.NotIn] [y] _ => chkE N sc a x && chkE N sc b y
    | _ => false
  | sc, .ite c a b, e => match e with
    | .IfExp z x y _ => chkE N sc c z && chkE N sc a x && chkE N sc b y
    | _ => false
  | sc, .tup es, e => match e with
    | .Tuple xs _ _ => chkEs N sc es xs
    | _ => false
  | sc, .lst _ es, e => match e with
    | .List xs _ => chkEs N sc es xs
    | _ => false
  | sc, .ix a i, e => match e with
    | .Subscript x y _ => chkE N sc a x && chkE N sc i y
    | _ => false
  | sc, .sl _ a lo hi, e => match e with
    | .Subscript x (.Slice l h none _) _ => chkE N sc a x && chkEo N sc lo l && chkEo N sc hi h
    | _ => false
  | sc, .rev _ a, e => match e with
    | .Subscript x (.Slice none none (some (.UnaryOp .USub (.Constant (.int 1) _ _) _)) _) _ => chkE N sc a x
    | _ => false
  | sc, .isb b pos a, e => match e with
    | .Compare x [o] [.Constant (.bool c) _ _] _ => decide (c = b) && decide (o = if pos then .Is else .IsNot) && chkE N sc a x
    | _ => false
  | sc, .tups is, e => match e with
    | .Tuple xs _ _ => chkIs N sc is xs && xs.any isStarred
    | _ => false
  | sc, .lsts _ is, e => match e with
    | .List xs _ => chkIs N sc is xs
    | _ => false
  | sc, .call d es, e => match e with
    | .Call (.Name x _) xs [] _ => decide (x = d.name) && glB sc x && chkEs N sc es xs
    | _ => false
  | sc, .callk d es ks kes, e => match e with
    | .Call (.Name x _) xs (k0 :: kws) _ => decide (x = d.name) && glB sc x && chkEs N sc es xs && chkKs N sc ks kes (k0 :: kws)
    | _ => false
  | sc, .prim _ p es, e => match e with
    | .Call (.Name x _) (y :: xs) [] _ => decide (x = p.nm) && glB sc x && chkEs N sc es (y :: xs)
    | _ => false
  | sc, .isi k a, e => match e with
    | .Call (.Name f _) [x, .Name y _] [] _ => decide (f = ("isinstance" : Str)) && glB sc f && decide (y = k.nm) && glB sc y && chkE N sc a x
    | _ => false
  | sc, .meth m o es, e => match e with
    | .Call (.Attribute x nm ap) xs [] cp => decide (nm = m.nm) && decide (ap.endLine = cp.line) && decide (xs.length < 20) && chkE N sc o x && chkEs N sc es xs && (match x with | .Call _ _ _ _ => false | _ => true)
    | _ => false
  | sc, .comp _ own elt tg it cnd, e => match e with
    | .ListComp x [⟨t, i, ifs, 0⟩] scope _ => blkC N sc scope (ownOf N own) && (tg.slots.all fun j => own.contains j) && chkIt N sc it i (isTup t) && chkTg N (locB scope) tg t && chkIf N (relS scope sc) cnd ifs && chkE N (relS scope sc) elt x
    | _ => false
  | sc, .comp2 _ own own1 elt tg it tg1 it1, e => match e with
    | .ListComp x [⟨t, i, [], 0⟩, ⟨t1, i1, [], 0⟩] scope _ => blkC N sc scope (ownOf N own) && (own1.all fun j => own.contains j) && (tg.slots.all fun j => own.contains j) && (tg1.slots.all fun j => own1.contains j) && chkIt N sc it i (isTup t) && chkTg N (locB scope) tg t && chkIt N (relS scope sc) it1 i1 (isTup t1)
      && chkTg N (locB scope) tg1 t1 && chkE N (relS scope sc) elt x
    | _ => false
def chkEs (N : List Str) : Scope → Es → List Expr → Bool
  | _, .nil, xs => xs.isEmpty
  | sc, .cons e es, xs => match xs with
    | x :: xs' => chkE N sc e x && chkEs N sc es xs'
    | [] => false
def chkIs (N : List Str) : Scope → Is → List Expr → Bool
  | _, .nil, xs => xs.isEmpty
  | sc, .cons e is, xs => match xs with
    | x :: xs' => chkE N sc e x && chkIs N sc is xs'
    | [] => false
  | sc, .star e is, xs => match xs with
    | .Starred x _ :: xs' => chkE N sc e x && chkIs N sc is xs'
    | _ => false
def chkEo (N : List Str) : Scope → Eo → Option Expr → Bool
  | _, .none, o => o.isNone
  | sc, .some e, o => match o with
    | some x => chkE N sc e x
    | none => false
def chkIf (N : List Str) : Scope → Eo → List Expr → Bool
  | _, .none, xs => xs.isEmpty
  | sc, .some e, xs => match xs with
    | [x] => chkE N sc e x
    | _ => false
def chkKs (N : List Str) : Scope → List Str → Es → List Keyword → Bool
  | _, ks, .nil, kws => ks.isEmpty && kws.isEmpty
  | sc, ks, .cons e es, kws => match ks, kws with
    | k :: ks', ⟨nm, x, _⟩ :: kws' => decide (nm = some k) && chkE N sc e x && chkKs N sc ks' es kws'
    | _, _ => false
def chkIt (N : List Str) : Scope → Src → Expr → Bool → Bool
  | sc, .of a, e, _ => chkE N sc a e
  | sc, .range1 a, e, _ => match e with
    | .Call (.Name f _) [x] [] _ => decide (f = ("range" : Str)) && glB sc f && chkE N sc a x
    | _ => false
  | sc, .range2 a b, e, _ => match e with
    | .Call (.Name f _) [x, y] [] _ => decide (f = ("range" : Str)) && glB sc f && chkE N sc a x && chkE N sc b y
    | _ => false
  | sc, .enum a, e, t => match e with
    | .Call (.Name f _) [x] [] _ => t && decide (f = ("enumerate" : Str)) && glB sc f && chkE N sc a x
    | _ => false
  | sc, .zip a b, e, t => match e with
    | .Call (.Name f _) [x, y] [] _ => t && decide (f = ("zip" : Str)) && glB sc f && chkE N sc a x && chkE N sc b y
    | _ => false
end
/-- the names that a pair, a triple of targets stores from the right -/
def tgNames (sc : Scope) (ts : List Expr) : List Str := ts.filterMap fun
  | .Name z q => if (sc.names.lookup z == some .local && q.line == (Option.map (fun x => x.pos.line) ts.head?).getD 0) = true then some z else none
  | _ => none
/-- which of the two roads the stores take: some none, the plain one; some names, from the right -/
def swapN (sc : Scope) (ts vs : List Expr) : Option (Option (List Str)) :=
  bif !(ts.length == 2 || ts.length == 3) || vs.length != ts.length then some none
  else bif vs.any fun | .Starred .. => true | _ => false then some none
  else bif (tgNames sc ts).length != ts.length || (tgNames sc ts).eraseDups.length != (tgNames sc ts).length then some none
  else bif vs.all (foldedForSure 8) then some none
  else bif vs.all (constantsAlone 8) then none
  else some (some (tgNames sc ts))
theorem swapN_star {sc : Scope} {ts vs : List Expr} (h : vs.any isStarred = true) : swapN sc ts vs = some none := by
  have h' : (vs.any fun | .Starred .. => true | _ => false) = true := h
  unfold swapN
  rw [h']
  cases (!(ts.length == 2 || ts.length == 3) || vs.length != ts.length) <;> rfl
def nmOf : Expr → Str
  | .Name z _ => z
  | _ => Str.empty
def isNm : Expr → Bool
  | .Name _ _ => true
  | _ => false
def asgB (sc : Scope) (t e : Expr) : Bool := match t, e with
  | .Tuple ts _ _, .Tuple vs _ _ => match swapN sc ts vs with
    | some none => true
    | some (some nms) => (ts.all isNm) && decide (nms = ts.map nmOf) && (ts.all fun x => decide (sc.names.lookup (nmOf x) = some .local)) && decide (nms.Nodup)
    | none => false
  | _, _ => true
def Bop.augs : Bop → Bool
  | .mod => false
  | .pow => false
  | _ => true
mutual
def chkS (N : List Str) : Scope → S → Stmt → Bool
  | sc, .asg t e, s => match s with
    | .Assign [tg] x p => chkTg N (locB sc) t tg && chkE N sc e x && asgB sc tg x
    | _ => false
  | sc, .aug i op e, s => match s with
    | .AugAssign (.Name x _) o y _ => decide (N[i]? = some x) && locB sc x && decide (o = op.py) && op.augs && chkE N sc e y
    | _ => false
  | sc, .setix o i e, s => match s with
    | .Assign [.Subscript x y _] z _ => chkE N sc o x && chkE N sc i y && chkE N sc e z
    | _ => false
  | sc, .ite c a b, s => match s with
    | .If x y z _ => chkE N sc c x && chkSs N sc a y && chkSs N sc b z
    | _ => false
  | sc, .whl c b, s => match s with
    | .While x y [] _ => chkE N sc c x && chkSs N sc b y
    | _ => false
  | sc, .for t it b, s => match s with
    | .For tg i y [] _ => chkTg N (locB sc) t tg && chkIt N sc it i (isTup tg) && chkSs N sc b y
    | _ => false
  | sc, .ret e, s => match s with
    | .Return (some x) _ => chkE N sc e x
    | _ => false
  | _, .retn, s => match s with
    | .Return none _ => true
    | _ => false
  | sc, .expr e, s => match s with
    | .Expr x _ => chkE N sc e x && (match x with | .ListComp _ _ _ _ => false | _ => true)
    | _ => false
  | _, .pass, s => match s with
    | .Pass _ => true
    | _ => false
  | _, .brk, s => match s with
    | .Break _ => true
    | _ => false
  | _, .never, _ => true
def chkSs (N : List Str) : Scope → Ss → List Stmt → Bool
  | _, .nil, xs => xs.isEmpty
  | sc, .cons s ss, xs => match xs with
    | x :: xs' => chkS N sc s x && chkSs N sc ss xs'
    | [] => false
end

/-! ### what is called -/
def Es.len : Es → Nat
  | .nil => 0
  | .cons _ es => es.len + 1
mutual
def okE (P : Df → Prop) (PK : Df → Nat → List Str → Prop) (PG : Str → D → Prop) : E → Prop
  | .gint x i => PG x (.int i)
  | .gcon x d => PG x d
  | .bin _ _ a b => okE P PK PG a ∧ okE P PK PG b
  | .neg a => okE P PK PG a
  | .not a => okE P PK PG a
  | .and a b => okE P PK PG a ∧ okE P PK PG b
  | .or a b => okE P PK PG a ∧ okE P PK PG b
  | .cmp _ a b => okE P PK PG a ∧ okE P PK PG b
  | .chain _ _ a b c => okE P PK PG a ∧ okE P PK PG b ∧ okE P PK PG c
  | .isn a => okE P PK PG a
  | .notn a => okE P PK PG a
  | .inn a b => okE P PK PG a ∧ okE P PK PG b
  | .nin a b => okE P PK PG a ∧ okE P PK PG b
  | .ite c a b => okE P PK PG c ∧ okE P PK PG a ∧ okE P PK PG b
  | .tup es => okEs P PK PG es
  | .lst _ es => okEs P PK PG es
  | .ix a i => okE P PK PG a ∧ okE P PK PG i
  | .sl _ a lo hi => okE P PK PG a ∧ okEo P PK PG lo ∧ okEo P PK PG hi
  | .rev _ a => okE P PK PG a
  | .isb _ _ a => okE P PK PG a
  | .tups is => okIs P PK PG is
  | .lsts _ is => okIs P PK PG is
  | .call d es => P d ∧ okEs P PK PG es
  | .callk d es ks kes => PK d es.len ks ∧ okEs P PK PG es ∧ okEs P PK PG kes
  | .prim _ _ es => okEs P PK PG es
  | .isi _ a => okE P PK PG a
  | .meth _ o es => okE P PK PG o ∧ okEs P PK PG es
  | .comp _ _ elt _ it cnd => okIt P PK PG it ∧ okEo P PK PG cnd ∧ okE P PK PG elt
  | .comp2 _ _ _ elt _ it _ it1 => okIt P PK PG it ∧ okIt P PK PG it1 ∧ okE P PK PG elt
  | _ => True
def okEs (P : Df → Prop) (PK : Df → Nat → List Str → Prop) (PG : Str → D → Prop) : Es → Prop
  | .nil => True
  | .cons e es => okE P PK PG e ∧ okEs P PK PG es
def okIs (P : Df → Prop) (PK : Df → Nat → List Str → Prop) (PG : Str → D → Prop) : Is → Prop
  | .nil => True
  | .cons e is => okE P PK PG e ∧ okIs P PK PG is
  | .star e is => okE P PK PG e ∧ okIs P PK PG is
def okEo (P : Df → Prop) (PK : Df → Nat → List Str → Prop) (PG : Str → D → Prop) : Eo → Prop
  | .none => True
  | .some e => okE P PK PG e
def okIt (P : Df → Prop) (PK : Df → Nat → List Str → Prop) (PG : Str → D → Prop) : Src → Prop
  | .of a => okE P PK PG a
  | .range1 a => okE P PK PG a
  | .range2 a b => okE P PK PG a ∧ okE P PK PG b
  | .enum a => okE P PK PG a
  | .zip a b => okE P PK PG a ∧ okE P PK PG b
end
mutual
def okS (P : Df → Prop) (PK : Df → Nat → List Str → Prop) (PG : Str → D → Prop) : S → Prop
  | .asg _ e => okE P PK PG e
  | .aug _ _ e => okE P PK PG e
  | .setix o i e => okE P PK PG o ∧ okE P PK PG i ∧ okE P PK PG e
  | .ite c a b => okE P PK PG c ∧ okSs P PK PG a ∧ okSs P PK PG b
  | .whl c b => okE P PK PG c ∧ okSs P PK PG b
  | .for _ it b => okIt P PK PG it ∧ okSs P PK PG b
  | .ret e => okE P PK PG e
  | .expr e => okE P PK PG e
  | _ => True
def okSs (P : Df → Prop) (PK : Df → Nat → List Str → Prop) (PG : Str → D → Prop) : Ss → Prop
  | .nil => True
  | .cons s ss => okS P PK PG s ∧ okSs P PK PG ss
end
end Sn
/-! Sn, part F: defs' promises where no guard runs, calls, targets. -/
namespace Sn
open PySem PySem.Spec PyProof.Rows L2

/-! ### a def's promise, no guard running around -/
structure FnG (P : Program) (w : World) (K : PySem.W.Frag) (mg : Str → Option Value) (base : Heap) (k : Nat) (f : Addr) (fd : FuncData) (ps : List Str) (sp : Sp) : Prop where
  len : ∀ vs H Q E, sp vs H Q E → vs.length = ps.length
  run : ∀ (A : Around) (outer : List PySem.Env) (s : Shared) (H : Hp) (args : Args) (us : List Value) (vs : List V) (Q : VK) (E : XK), Room k A → A.guards = some [] → Env0 P w K mg base A outer s H → BindsTo s fd args (ps.zip us) → Vals vs us →
    sp vs H Q E → codeAny (model P w) A (.call (.ref f) args) (CR CX0 outer P w H s Q E) s
theorem FnG.mono {P : Program} {w : World} {K : PySem.W.Frag} {mg : Str → Option Value} {base : Heap} {j k : Nat} {f : Addr} {fd : FuncData} {ps : List Str} {sp : Sp} (F : FnG P w K mg base j f fd ps sp) (h : j ≤ k) : FnG P w K mg base k f fd ps sp :=
  ⟨F.len, fun A outer s H args us vs Q E hr => F.run A outer s H args us vs Q E (hr.mono h)⟩
/-- how arguments come to parameters, positional and by keyword -/
def kwArr {α : Type} (ps : List Str) (us : List α) (ks : List Str) (ws : List α) : List α := us ++ (ps.drop us.length).filterMap fun p => (ks.zip ws).lookup p
section
variable {X : Cx} {k : Nat} {f : Addr} {fd : FuncData} {ps : List Str} {sp : Sp}
theorem run_G {pins : List (Addr × Obj)} {σ : L2.St} {H : Hp} {s : Shared} {Q : VK} {us ws : List Value} {ks : List Str} {vs : List V} (F : FnG X.prog X.w X.K X.mg X.base k f fd ps sp) (hr : Room k X.A) (hg : X.A.guards = some [])
    (hb : BindsTo s fd ⟨us, ks.zip ws⟩ (ps.zip (kwArr ps us ks ws))) (I : Inv X pins σ H s) (r : Vals vs (kwArr ps us ks ws)) (h : sp vs H Q E0) :
    wpAny (model X.prog X.w) X.A (call (.ref f) us (ks.zip ws)) (EP X pins σ Q) X.xe s := by
  refine wpAny_call (codeAny_mono (F.run X.A X.stack s H ⟨us, ks.zip ws⟩ _ vs Q E0 hr hg I.env0 hb r h) fun r' s' hq => ?_)
  cases r' with
  | error e => exact False.elim hq
  | ok fl =>
    cases fl with
    | ret u => exact I.after hq
    | next => exact False.elim hq
    | brk => exact False.elim hq
    | cont => exact False.elim hq
end

/-- what a def does, as a promise -/
def spD (K : PySem.W.Frag) (n : Nat) (d : Df) : Sp := fun vs H Q _ => vs.length = d.ps.length ∧ ∃ ds W, W.H = H ∧ Reps K W vs ds ∧ MR K W ∧ Go K W (callD n d ds W.M) Q
/-- a def that is known -/
def KnD (P : Program) (w : World) (K : PySem.W.Frag) (mg : Str → Option Value) (base : Heap) (n lv : Nat) (d : Df) : Prop :=
  ∃ (f : Addr) (fd : FuncData), mg d.name = some (.ref f) ∧ PySem.W.keepIn K (.ref f) = true ∧ Binds K fd d.ps [] ∧ FnG P w K mg base lv f fd d.ps (spD K n d)
def KnK (P : Program) (w : World) (K : PySem.W.Frag) (mg : Str → Option Value) (base : Heap) (n lv : Nat) (d : Df) (m : Nat) (ks : List Str) : Prop :=
  ∃ (f : Addr) (fd : FuncData), mg d.name = some (.ref f) ∧ PySem.W.keepIn K (.ref f) = true ∧
    (∀ (s : Shared) (us ws : List Value), us.length = m → ws.length = ks.length → BindsTo s fd ⟨us, ks.zip ws⟩ (d.ps.zip (kwArr d.ps us ks ws))) ∧ FnG P w K mg base lv f fd d.ps (spD K n d)

/-- a name of the top that stands for d always -/
def GV (K : PySem.W.Frag) (mg : Str → Option Value) (x : Str) (d : D) : Prop := ∃ (v : V) (u : Value), mg x = some u ∧ RelV v u ∧ ∀ W, Rep K W v d
theorem GV.int {K : PySem.W.Frag} {mg : Str → Option Value} {x : Str} {i : Int} (h : ∃ t, mg x = some (.int i t)) : GV K mg x (.int i) := by
  obtain ⟨t, h⟩ := h
  exact ⟨.int i, _, h, ⟨t, rfl⟩, fun W => .int i⟩
/-- where a body stands -/
structure Cok (X : Cx) (lv : Nat) (bn : List Str) : Prop where
  calm : X.calm = true
  nd : X.N.Nodup
  po : PassesOwn (model X.prog X.w) X.A X.env X.xe
  kd : X.env.scope.kind = .function
  room : Room lv X.A
  gd : X.A.guards = some []
  un : X.A.units + 70 < cLine
  free : ∀ x ∈ bn, X.mg x = none
/-- the built-in names that the language speaks of -/
def bNames : List Str := ["len", "abs", "int", "str", "repr", "max", "min", "all", "any", "sum", "tuple", "list", "bool", "divmod", "isinstance", "range", "enumerate", "zip"]
theorem Prim.mem (p : Prim) : p.nm ∈ bNames := by cases p <;> decide
theorem Kind.mem (p : Kind) : p.nm ∈ bNames := by cases p <;> decide

/-! ### what a body knows -/
structure EnvR (K : PySem.W.Frag) (W : Wd) (env : Slots) (σ : L2.St) : Prop where
  len : env.length = σ.length
  at_ : ∀ (i : Nat) (d : D), env[i]? = some (some d) → ∃ v : V, σ[i]? = some (some v) ∧ Rep K W v d
theorem EnvR.le {K : PySem.W.Frag} {W W' : Wd} {env : Slots} {σ : L2.St} (h : EnvR K W env σ) (l : Le W W') : EnvR K W' env σ :=
  ⟨h.len, fun i d e => let ⟨v, e1, r⟩ := h.at_ i d e; ⟨v, e1, r.le l⟩⟩
theorem EnvR.set {K : PySem.W.Frag} {W : Wd} {env : Slots} {σ : L2.St} (h : EnvR K W env σ) {d : D} {v : V} (r : Rep K W v d) (i : Nat) : EnvR K W (env.set i (some d)) (σ.set i (some v)) := by
  refine ⟨by rw [List.length_set, List.length_set]; exact h.len, fun j e q => ?_⟩
  by_cases hj : i = j
  · subst hj
    by_cases hl : i < env.length
    · rw [List.getElem?_set_self hl] at q
      cases q
      exact ⟨v, List.getElem?_set_self (by rw [← h.len]; exact hl), r⟩
    · rw [List.getElem?_eq_none (by rw [List.length_set]; omega)] at q
      cases q
  · rw [List.getElem?_set_ne hj] at q ⊢
    exact h.at_ j e q
theorem EnvR.wipe {K : PySem.W.Frag} {W : Wd} {env : Slots} {σ : L2.St} (h : EnvR K W env σ) : ∀ vs : List Nat, EnvR K W (wipes env vs) (wipe σ vs)
  | [] => h
  | v :: vs => by
    have ih := h.wipe vs
    unfold wipes L2.wipe
    refine ⟨by rw [List.length_set, List.length_set]; exact ih.len, fun j e q => ?_⟩
    by_cases hj : v = j
    · subst hj
      by_cases hl : v < (wipes env vs).length
      · rw [List.getElem?_set_self hl] at q
        cases q
      · rw [List.getElem?_eq_none (by rw [List.length_set]; omega)] at q
        cases q
    · rw [List.getElem?_set_ne hj] at q ⊢
      exact ih.at_ j e q

/-! ### targets -/
/-- all slots but some stay -/
def OffOnly (ss : List Nat) (σ σ' : L2.St) : Prop := σ'.length = σ.length ∧ ∀ i, i ∉ ss → σ'[i]? = σ[i]?
def gT (K : PySem.W.Frag) (t : Tg) : TG := fun v σ H Q => ∃ env W d env', W.H = H ∧ EnvR K W env σ ∧ MR K W ∧ Rep K W v d ∧ t.put d env = some env' ∧ ∀ σ', EnvR K W env' σ' → OffOnly t.slots σ σ' → Q σ' H
def gTs (K : PySem.W.Frag) (ts : List Tg) : TGs := fun vs σ H Q => ∃ env W ds env', W.H = H ∧ EnvR K W env σ ∧ MR K W ∧ Reps K W vs ds ∧ tgPuts ts ds env = some env' ∧ ∀ σ', EnvR K W env' σ' → OffOnly (tgSlots ts) σ σ' → Q σ' H
theorem PG.imp {X : Cx} {e : Expr} {t t' : TG} (h : PG X e t) (i : ∀ v σ H Q, t' v σ H Q → t v σ H Q) : PG X e t' := ⟨fun pins s σ H v u Q I r hw => h.run pins s σ H v u Q I r (i v σ H Q hw)⟩
theorem PGs.imp {X : Cx} {e : List Expr} {t t' : TGs} (h : PGs X e t) (i : ∀ v σ H Q, t' v σ H Q → t v σ H Q) : PGs X e t' := ⟨fun pins s σ H v u Q I r hw => h.run pins s σ H v u Q I r (i v σ H Q hw)⟩
theorem PG.or {X : Cx} {e : Expr} {t t' : TG} (h : PG X e t) (g : PG X e t') : PG X e (fun v σ H Q => t v σ H Q ∨ t' v σ H Q) := ⟨fun pins s σ H v u Q I r hw => hw.elim (h.run pins s σ H v u Q I r) (g.run pins s σ H v u Q I r)⟩
def StOk (X : Cx) (ok : Str → Bool) : Prop := ∀ x, ok x = true → Loc X.env.scope x ∧ (X.fn x = true ∨ X.env.scope.names.lookup x = some .local)
theorem noStar_tg {N : List Str} {ok : Str → Bool} {env : PySem.Env} : ∀ {ts : List Tg} {es : List Expr}, chkTgs N ok ts es = true → (assignEach es env).length = ts.length ∧ (assignEach es env).findIdx? (·.1) = none ∧ es.length = ts.length
  | [], [], _ => ⟨rfl, rfl, rfl⟩
  | [], _ :: _, h => by simp [chkTgs] at h
  | _ :: _, [], h => by simp [chkTgs] at h
  | t :: ts, e :: es, h => by
    simp only [chkTgs, Bool.and_eq_true] at h
    obtain ⟨h1, h2⟩ := h
    obtain ⟨a, b, c⟩ := noStar_tg (env := env) h2
    have e0 : assignEach (e :: es) env = (false, assign e env) :: assignEach es env := by
      cases t <;> cases e <;> first | rfl | (simp [chkTg] at h1)
    rw [e0]
    refine ⟨by simp [a], ?_, by simp [c]⟩
    rw [List.findIdx?_cons]
    simp [b]
theorem tg_cons {N : List Str} {ok : Str → Bool} {env : PySem.Env} {t : Tg} {e : Expr} {es : List Expr} (h1 : chkTg N ok t e = true) : (assignEach (e :: es) env).map (·.2) = assign e env :: (assignEach es env).map (·.2) := by
  have e0 : assignEach (e :: es) env = (false, assign e env) :: assignEach es env := by
    cases t <;> cases e <;> first | rfl | (simp [chkTg] at h1)
  rw [e0]
  rfl
theorem len_puts : ∀ {ts : List Tg} {xs : List D} {env env' : Slots}, tgPuts ts xs env = some env' → xs.length = ts.length
  | [], [], _, _, _ => rfl
  | [], _ :: _, _, _, h => by simp [tgPuts] at h
  | _ :: _, [], _, _, h => by simp [tgPuts] at h
  | t :: ts, x :: xs, env, env', h => by
    simp only [tgPuts] at h
    split at h
    · exact congrArg Nat.succ (len_puts h)
    · cases h
mutual
theorem tg_ok {X : Cx} {ok : Str → Bool} (hc : X.calm = true) (hN : X.N.Nodup) (hs : StOk X ok) : ∀ (t : Tg) (e : Expr), chkTg X.N ok t e = true → PG X e (gT X.K t)
  | .nm i, e, h => by
    unfold chkTg at h
    split at h
    · rename_i x p
      simp only [Bool.and_eq_true, decide_eq_true_eq] at h
      obtain ⟨h1, h2⟩ := hs x h.2
      refine PG.imp (pg_name hN h.1 h1 h2) fun v σ H Q ⟨env, W, d, env', e1, hE, hM, r, e2, q⟩ => ?_
      simp only [Tg.put] at e2
      split at e2
      · cases e2
        refine q _ (hE.set r i) ⟨by rw [List.length_set], fun j hj => ?_⟩
        rw [List.getElem?_set_ne]
        intro ej
        exact hj (by rw [← ej]; simp [Tg.slots])
      · cases e2
    · cases h
  | .tp ts, e, h => by
    unfold chkTg at h
    split at h
    · rename_i es kk pp
      obtain ⟨l1, l2, l3⟩ := noStar_tg (env := X.env) h
      refine PG.imp (PG.or (pg_tup hc (tgs_ok hc hN hs ts es h) (n := ts.length) l1 l2) (pg_lst hc (tgs_ok hc hN hs ts es h) (n := ts.length) l1 l2)) fun v σ H Q ⟨env, W, d, env', e1, hE, hM, r, e2, q⟩ => ?_
      cases d with
      | lst xs =>
        obtain ⟨a, vs, rfl, f, rs⟩ := r.itemsC hM (d := .lst xs) (xs := xs) rfl
        simp only [Tg.put] at e2
        have hl := len_puts e2
        subst e1
        refine .inr ⟨a, vs, rfl, ?_, by rw [rs.length]; exact hl, env, W, xs, env', rfl, hE, hM, rs, e2, q⟩
        exact .of f
      | tup xs =>
        refine .inl ?_
        obtain ⟨a, vs, rfl, f, rs⟩ := r.tup'
        simp only [Tg.put] at e2
        have hl := len_puts e2
        subst e1
        exact ⟨a, vs, rfl, f.sq, by rw [rs.length]; exact hl, env, W, xs, env', rfl, hE, hM, rs, e2, q⟩
      | _ => simp [Tg.put] at e2
    · cases h
theorem tgs_ok {X : Cx} {ok : Str → Bool} (hc : X.calm = true) (hN : X.N.Nodup) (hs : StOk X ok) : ∀ (ts : List Tg) (es : List Expr), chkTgs X.N ok ts es = true → PGs X es (gTs X.K ts)
  | [], [], _ => by
    refine PGs.imp pgs_nil fun v σ H Q ⟨env, W, ds, env', e1, hE, hM, r, e2, q⟩ => ?_
    cases ds with
    | nil =>
      cases r
      simp only [tgPuts, Option.some.injEq] at e2
      subst e2
      exact ⟨rfl, q σ hE ⟨rfl, fun _ _ => rfl⟩⟩
    | cons d ds => simp [tgPuts] at e2
  | [], _ :: _, h => by simp [chkTgs] at h
  | _ :: _, [], h => by simp [chkTgs] at h
  | t :: ts, e :: es, h => by
    simp only [chkTgs, Bool.and_eq_true] at h
    refine PGs.imp (pgs_cons (tg_ok hc hN hs t e h.1) (tgs_ok hc hN hs ts es h.2) (tg_cons h.1)) fun v σ H Q ⟨env, W, ds, env', e1, hE, hM, r, e2, q⟩ => ?_
    cases ds with
    | nil => simp [tgPuts] at e2
    | cons d ds =>
      cases r with
      | cons r rs =>
        simp only [tgPuts] at e2
        split at e2
        · rename_i env1 e3
          refine ⟨_, _, rfl, env, W, d, env1, e1, hE, hM, r, e3, fun σ1 hE1 o1 => ⟨env1, W, ds, env', e1, hE1, hM, rs, e2, fun σ2 hE2 o2 => q σ2 hE2 ?_⟩⟩
          refine ⟨o2.1.trans o1.1, fun i hi => ?_⟩
          simp only [tgSlots, List.mem_append, not_or] at hi
          rw [o2.2 i hi.2, o1.2 i hi.1]
        · cases e2
end
end Sn
/-! Sn, part G: an expression of the text does what the language says. -/
namespace Sn
open PySem PySem.Spec PyProof.Rows L2

theorem PE.imp {X : Cx} {e : Expr} {t t' : TE} (h : PE X e t) (i : ∀ σ H Q, t' σ H Q → t σ H Q) : PE X e t' := ⟨fun pins s σ H Q I hw => h.run pins s σ H Q I (i σ H Q hw)⟩
theorem PT.imp {X : Cx} {e : Expr} {t t' : TT} (h : PT X e t) (i : ∀ σ H Q, t' σ H Q → t σ H Q) : PT X e t' := ⟨fun pins s σ H Q I hw => h.run pins s σ H Q I (i σ H Q hw)⟩
theorem PW.imp {X : Cx} {e : Expr} {t t' : TT} (h : PW X e t) (i : ∀ σ H Q, t' σ H Q → t σ H Q) : PW X e t' := ⟨fun w pins s σ H Q I hw => h.run w pins s σ H Q I (i σ H Q hw)⟩
theorem PA.imp {X : Cx} {e : List Expr} {t t' : TA} (h : PA X e t) (i : ∀ σ H Q, t' σ H Q → t σ H Q) : PA X e t' := ⟨fun w pins s σ H Q I hw => h.run w pins s σ H Q I (i σ H Q hw)⟩
theorem PO.imp {X : Cx} {e : Option Expr} {t t' : TO} (h : PO X e t) (i : ∀ σ H Q, t' σ H Q → t σ H Q) : PO X e t' := ⟨fun pins s σ H Q I hw => h.run pins s σ H Q I (i σ H Q hw)⟩
theorem PI.imp {X : Cx} {tg e : Expr} {t t' : TI} (h : PI X tg e t) (i : ∀ σ H Q, t' σ H Q → t σ H Q) : PI X tg e t' := ⟨fun pins s σ H Q I hw => h.run pins s σ H Q I (i σ H Q hw)⟩
theorem PTs.imp {X : Cx} {e : List Expr} {t t' : TT} (h : PTs X e t) (i : ∀ σ H Q, t' σ H Q → t σ H Q) : PTs X e t' := ⟨fun pins s σ H Q I hw => h.run pins s σ H Q I (i σ H Q hw)⟩

/-! ### readings -/
def tE (K : PySem.W.Frag) (n : Nat) (e : E) : TE := fun σ H Q => ∃ env W, W.H = H ∧ EnvR K W env σ ∧ MR K W ∧ Go K W (evE n e env W.M) Q
def tT (K : PySem.W.Frag) (n : Nat) (e : E) : TT := fun σ H Q => ∃ env W, W.H = H ∧ EnvR K W env σ ∧ MR K W ∧ After (evE n e env W.M) fun d M' => ∃ b, d = .bl b ∧ ∀ W', W'.M = M' → Ext W W' → MR K W' → Q b W'.H
def tC' (K : PySem.W.Frag) (n : Nat) (e : Eo) : TT := fun σ H Q => ∃ env W, W.H = H ∧ EnvR K W env σ ∧ MR K W ∧ After (evC n e env W.M) fun b M' => ∀ W', W'.M = M' → Ext W W' → MR K W' → Q b W'.H
def tEs (K : PySem.W.Frag) (n : Nat) (es : Es) : TA := fun σ H Q => ∃ env W, W.H = H ∧ EnvR K W env σ ∧ MR K W ∧ After (evEs n es env W.M) fun ds M' => ∀ W' vs, W'.M = M' → Ext W W' → MR K W' → Reps K W' vs ds → Q vs W'.H
def tEo (K : PySem.W.Frag) (n : Nat) (e : Eo) : TO := fun σ H Q => ∃ env W, W.H = H ∧ EnvR K W env σ ∧ MR K W ∧ After (evEo n e env W.M) fun o M' => ∀ W', W'.M = M' → Ext W W' → MR K W' → Q o W'.H
/-- an iterator yields these items while the lists that it walks stay -/
def ItR (K : PySem.W.Frag) (J : L2.It) (W0 : Wd) (w : Wk) : Prop :=
  ∀ W, Le W0 W → MR K W → stays w.refs W0.M W.M → ∀ i, i ≤ w.items.length →
    (∀ x, w.items[i]? = some x → J.go i W.H ∧ ∀ v H', J.yld i W.H v H' → ∃ W', W'.H = H' ∧ W'.M = W.M ∧ Ext W W' ∧ MR K W' ∧ Rep K W' v x) ∧ (w.items.length = i → J.stop i W.H)
def tSrc (K : PySem.W.Frag) (n : Nat) (it : Src) : TI := fun σ H R => ∃ env W, W.H = H ∧ EnvR K W env σ ∧ MR K W ∧ After (evIt n it env W.M) fun w M' => ∀ W' J, W'.M = M' → Ext W W' → MR K W' → ItR K J W' w → R J W'.H

/-! ### side conditions off the match -/
section
variable {N : List Str} {sc : Scope}
theorem chk_star {e : E} {x : Expr} (h : chkE N sc e x = true) (xs : List Expr) (env : PySem.Env) : starEach (x :: xs) env = (false, eval x env) :: starEach xs env := by
  cases x <;> first | rfl | (cases e <;> simp [chkE] at h)
theorem chk_set {e : E} {x : Expr} (h : chkE N sc e x = true) (env : PySem.Env) (u : Value) : foldedSetIterable x env u = pure u := by
  cases x <;> first | rfl | (cases e <;> simp [chkE] at h)
theorem chk_mark {e : E} {x : Expr} (h : chkE N sc e x = true) (op : CmpOp) : behindInMarks op x = false := by
  cases x <;> first | rfl | (cases e <;> simp [chkE] at h)
theorem chk_ix {e : E} {x : Expr} (h : chkE N sc e x = true) : PlainIx x := by
  cases x <;> first | (intro o i; rfl) | (cases e <;> simp [chkE] at h)
theorem chks_plain : ∀ {es : Es} {xs : List Expr} (h : chkEs N sc es xs = true) (pos : Pos) (env : PySem.Env), (backTo pos (starEach xs env)).any (·.1) = false
  | .nil, [], _, _, _ => rfl
  | .nil, _ :: _, h, _, _ => by simp [chkEs] at h
  | .cons e es, [], h, _, _ => by simp [chkEs] at h
  | .cons e es, x :: xs, h, pos, env => by
    simp only [chkEs, Bool.and_eq_true] at h
    rw [chk_star h.1]
    have ih := chks_plain h.2 pos env
    unfold backTo at ih ⊢
    rw [List.map_cons, List.any_cons, ih]
    rfl
end
theorem gl_of {X : Cx} {x : Str} (h : glB X.env.scope x = true) : Gl X x ∧ (x == ("__debug__" : Str)) = false := by
  unfold glB at h
  simp only [Bool.and_eq_true, decide_eq_true_eq, Bool.not_eq_true'] at h
  exact h
theorem vis_of {sc : Scope} {x : Str} (h : visB sc x = true) : Vis sc x := by
  unfold visB at h
  split at h
  · exact .inl (by assumption)
  · exact .inr (.inl (by assumption))
  · exact .inr (.inr (by assumption))
  · cases h
theorem loc_of {sc : Scope} {x : Str} (h : locB sc x = true) : Loc sc x := by
  unfold locB at h
  split at h
  · exact .inl (by assumption)
  · exact .inr (by assumption)
  · cases h

/-! ### a comprehension's block -/
theorem Cok.blk {X : Cx} {lv : Nat} {bn : List Str} (h : Cok X lv bn) {scope : Scope} (hk : scope.kind = .function) (s : Shared) (H : Hp) (C : Addr) (cl : List (Str × Addr)) (fp : List Addr) :
    Cok (X.blk s H scope (compEnvC scope cl C X.env) fp) lv bn where
  calm := h.calm
  nd := h.nd
  po := PassesOwn.never
  kd := hk
  room := h.room
  gd := h.gd
  un := h.un
  free := h.free
theorem stOk_blk {X : Cx} {scope : Scope} (s : Shared) (H : Hp) (C : Addr) (cl : List (Str × Addr)) (fp : List Addr) : StOk (X.blk s H scope (compEnvC scope cl C X.env) fp) (locB scope) := fun x hx => by
  have e : (compEnvC scope cl C X.env).scope = relS scope X.env.scope := rfl
  rcases loc_of hx with k | k
  · have q : (relS scope X.env.scope).names.lookup x = some .local := lookup_relS_keep (by decide) k
    exact ⟨.inl q, .inr q⟩
  · have q : (relS scope X.env.scope).names.lookup x = some .cell := lookup_relS_keep (by decide) k
    refine ⟨.inr q, .inl ?_⟩
    show (scope.names.lookup x == some .cell) = true
    rw [k]
    rfl
theorem wipe_none {i : Nat} : ∀ {vs : List Nat} {σ : L2.St}, i ∈ vs → i < σ.length → (wipe σ vs)[i]? = some none
  | v :: vs, σ, h, hl => by
    unfold L2.wipe
    by_cases e : v = i
    · subst e
      rw [List.getElem?_set_self (by rw [wipe_length]; exact hl)]
    · rw [List.getElem?_set_ne e]
      rcases List.mem_cons.mp h with q | q
      · exact absurd q.symm e
      · exact wipe_none q hl
theorem wipe_same {vs ss : List Nat} {σ σ' : L2.St} (o : OffOnly ss (wipe σ vs) σ') (h : ∀ i ∈ ss, i ∈ vs) : wipe σ' vs = wipe σ vs := by
  have hl : σ'.length = σ.length := by rw [o.1, wipe_length]
  refine List.ext_getElem? fun i => ?_
  by_cases hi : i < σ.length
  · by_cases hm : i ∈ vs
    · rw [wipe_none hm (by rw [hl]; exact hi), wipe_none hm hi]
    · rw [wipe_out hm, o.2 i (fun q => hm (h i q)), wipe_out hm]
  · rw [List.getElem?_eq_none (by rw [wipe_length, hl]; omega), List.getElem?_eq_none (by rw [wipe_length]; omega)]

/-! ### walked things -/
theorem stays.cont {refs : List Nat} {M M' : Mem} (h : stays refs M M') {n : Nat} (hn : n ∈ refs) {xs : List D} (e : Mem.cont M n = some xs) : Mem.cont M' n = some xs := by
  unfold Mem.cont at e ⊢
  rw [h n hn]
  exact e
/-- a list as it stands in a later world -/
theorem later_list {K : PySem.W.Frag} {W0 W : Wd} {d : D} {a : Addr} {xs : List D} (hM0 : MR K W0) (r : Rep K W0 (.ref a) d) (e : itemsL W0.M d = some xs) (x : Le W0 W) (hM : MR K W) (st : stays (refsOf d) W0.M W.M) :
    ∃ vs, SqL K W.H a vs ∧ Reps K W vs xs := by
  have r' := r.le x
  have e' : itemsL W.M d = some xs := by
    cases d with
    | ref n => exact st.cont (by simp [refsOf]) e
    | _ => exact e
  obtain ⟨b, vs, eb, f, rs⟩ := r'.itemsL hM e'
  cases eb
  exact ⟨vs, f, rs⟩
theorem itR_list {K : PySem.W.Frag} {W0 : Wd} {d : D} {a : Addr} {xs : List D} (hM0 : MR K W0) (r : Rep K W0 (.ref a) d) (e : itemsL W0.M d = some xs) : ItR K (Itl K a) W0 ⟨xs, refsOf d⟩ := fun W x hM st i hi => by
  obtain ⟨vs, f, rs⟩ := later_list hM0 r e x hM st
  refine ⟨fun y ey => ?_, fun el => ⟨vs, f, by rw [rs.length]; exact Nat.le_of_eq el⟩⟩
  obtain ⟨v, ev, rv⟩ := rs.get ey
  refine ⟨⟨vs, v, f, ev⟩, fun u H' hy => ?_⟩
  obtain ⟨rfl, hy⟩ := hy
  have := hy vs f
  rw [ev] at this
  cases this
  exact ⟨W, rfl, rfl, .refl W, hM, rv⟩
theorem itR_tup {K : PySem.W.Frag} {W0 : Wd} {a : Addr} {vs : List V} {xs : List D} (f0 : FrT K W0 a vs) (rs0 : Reps K W0 vs xs) : ItR K (Itt K a) W0 ⟨xs, []⟩ := fun W x hM st i hi => by
  have f := (x.frT f0).sq
  have rs := rs0.le x
  refine ⟨fun y ey => ?_, fun el => ⟨vs, f, by rw [rs.length]; exact Nat.le_of_eq el⟩⟩
  obtain ⟨v, ev, rv⟩ := rs.get ey
  refine ⟨⟨vs, v, f, ev⟩, fun u H' hy => ?_⟩
  obtain ⟨rfl, hy⟩ := hy
  have := hy vs f
  rw [ev] at this
  cases this
  exact ⟨W, rfl, rfl, .refl W, hM, rv⟩
theorem itR_range {K : PySem.W.Frag} {W0 : Wd} (lo : Int) (n : Nat) : ItR K (L2.Itr lo n) W0 ⟨rangeD lo n, []⟩ := fun W x hM st i hi => by
  have hl : (rangeD lo n).length = n := by unfold rangeD; simp
  refine ⟨fun y ey => ?_, fun el => by show n ≤ i; rw [← el]; exact Nat.le_of_eq hl.symm⟩
  have hlt : i < n := by
    have := (List.getElem?_eq_some_iff.mp ey).1
    rw [hl] at this
    exact this
  refine ⟨hlt, fun u H' hy => ?_⟩
  obtain ⟨rfl, rfl⟩ := hy
  refine ⟨W, rfl, rfl, .refl W, hM, ?_⟩
  have e : (rangeD lo n)[i]? = some (.int (lo + (i : Int))) := by
    unfold rangeD
    rw [List.getElem?_map, List.getElem?_range hlt]
    rfl
  rw [show (Wk.mk (rangeD lo n) []).items[i]? = (rangeD lo n)[i]? from rfl, e] at ey
  cases ey
  exact .int _
theorem itR_enum {K : PySem.W.Frag} {W0 : Wd} {d : D} {a : Addr} {xs : List D} (hM0 : MR K W0) (r : Rep K W0 (.ref a) d) (e : itemsL W0.M d = some xs) : ItR K (Ite K a) W0 ⟨enumD xs, refsOf d⟩ := fun W x hM st i hi => by
  obtain ⟨vs, f, rs⟩ := later_list hM0 r e x hM st
  have hl : (enumD xs).length = xs.length := by unfold enumD; simp
  refine ⟨fun y ey => ?_, fun el => ⟨vs, f, by rw [rs.length, ← hl]; exact Nat.le_of_eq el⟩⟩
  have ey' : (enumD xs)[i]? = some y := ey
  unfold enumD at ey'
  rw [List.getElem?_map, List.getElem?_zipIdx] at ey'
  cases q : xs[i]? with
  | none => rw [q] at ey'; cases ey'
  | some z =>
    rw [q] at ey'
    simp only [Option.map_some, Option.some.injEq, Nat.zero_add] at ey'
    subst ey'
    obtain ⟨v, ev, rv⟩ := rs.get q
    refine ⟨⟨vs, v, f, ev⟩, fun u H' hy => ?_⟩
    obtain ⟨T, z', rfl, hT, rfl, hy⟩ := hy
    have := hy vs f
    rw [ev] at this
    cases this
    exact ⟨W.lay T (.tup [.int (i : Nat), v]), rfl, rfl, .lay hM hT _, .lay hM hT _, .newT hM hT (.cons (.int _) (.cons rv .nil))⟩
theorem itR_zip {K : PySem.W.Frag} {W0 : Wd} {d e : D} {a b : Addr} {xs ys : List D} (hM0 : MR K W0) (r1 : Rep K W0 (.ref a) d) (e1 : itemsL W0.M d = some xs) (r2 : Rep K W0 (.ref b) e) (e2 : itemsL W0.M e = some ys) :
    ItR K (Itz K a b) W0 ⟨zipD xs ys, refsOf d ++ refsOf e⟩ := fun W x hM st i hi => by
  obtain ⟨vs, f, rs⟩ := later_list hM0 r1 e1 x hM fun n hn => st n (List.mem_append_left _ hn)
  obtain ⟨us, g, ru⟩ := later_list hM0 r2 e2 x hM fun n hn => st n (List.mem_append_right _ hn)
  have hl : (zipD xs ys).length = min xs.length ys.length := by unfold zipD; simp
  refine ⟨fun y ey => ?_, fun el => ⟨vs, us, f, g, ?_⟩⟩
  · have ey' : (zipD xs ys)[i]? = some y := ey
    unfold zipD at ey'
    rw [List.getElem?_map] at ey'
    obtain ⟨p, ep, rfl⟩ := Option.map_eq_some_iff.mp ey'
    obtain ⟨q1, q2⟩ := List.getElem?_zip_eq_some.mp ep
    obtain ⟨v, ev, rv⟩ := rs.get q1
    obtain ⟨u, eu, rv2⟩ := ru.get q2
    refine ⟨⟨vs, us, v, u, f, g, ev, eu⟩, fun z H' hy => ?_⟩
    obtain ⟨T, z1, z2, rfl, hT, rfl, h1, h2⟩ := hy
    have h1 := h1 vs f
    have h2 := h2 us g
    rw [ev] at h1
    rw [eu] at h2
    cases h1
    cases h2
    exact ⟨W.lay T (.tup [v, u]), rfl, rfl, .lay hM hT _, .lay hM hT _, .newT hM hT (.cons rv (.cons rv2 .nil))⟩
  · rw [rs.length, ru.length]
    have : (zipD xs ys).length = i := el
    omega
end Sn
/-! Sn, part H: an expression of the text does what the language says, all of them. -/
namespace Sn
open PySem PySem.Spec PyProof.Rows L2

theorem itR_zipT {K : PySem.W.Frag} {W0 : Wd} {a b : Addr} {vs us : List V} {xs ys : List D} (f0 : FrT K W0 a vs) (rs0 : Reps K W0 vs xs) (g0 : FrT K W0 b us) (ru0 : Reps K W0 us ys) : ItR K (RZ.ItzT K a b) W0 ⟨zipD xs ys, []⟩ := fun W x hM st i hi => by
  have f := (x.frT f0).sq
  have rs := rs0.le x
  have g := (x.frT g0).sq
  have ru := ru0.le x
  have hl : (zipD xs ys).length = min xs.length ys.length := by unfold zipD; simp
  refine ⟨fun y ey => ?_, fun el => ⟨vs, us, f, g, ?_⟩⟩
  · have ey' : (zipD xs ys)[i]? = some y := ey
    unfold zipD at ey'
    rw [List.getElem?_map] at ey'
    obtain ⟨p, ep, rfl⟩ := Option.map_eq_some_iff.mp ey'
    obtain ⟨q1, q2⟩ := List.getElem?_zip_eq_some.mp ep
    obtain ⟨v, ev, rv⟩ := rs.get q1
    obtain ⟨u, eu, rv2⟩ := ru.get q2
    refine ⟨⟨vs, us, v, u, f, g, ev, eu⟩, fun z H' hy => ?_⟩
    obtain ⟨T, z1, z2, rfl, hT, rfl, h1, h2⟩ := hy
    have h1 := h1 vs f
    have h2 := h2 us g
    rw [ev] at h1
    rw [eu] at h2
    cases h1
    cases h2
    exact ⟨W.lay T (.tup [v, u]), rfl, rfl, .lay hM hT _, .lay hM hT _, .newT hM hT (.cons rv (.cons rv2 .nil))⟩
  · rw [rs.length, ru.length]
    have : (zipD xs ys).length = i := el
    omega
/-- a list or a tuple, walked -/
theorem pi_any {X : Cx} {tg l : Expr} {tl : TE} (hl : PE X l tl) : PI X tg l (fun σ H R => tl σ H fun x H1 => ∃ a, x = .ref a ∧ (((∃ xs, SqL X.K H1 a xs) ∧ R (Itl X.K a) H1) ∨ ((∃ xs, SqT X.K H1 a xs) ∧ R (Itt X.K a) H1))) := by
  refine ⟨fun pins s σ H R I h => ?_⟩
  have k : ∀ (v : Value) (s1 : Shared) (H1 : Hp), Inv X pins σ H1 s1 → ∀ x, RelV x v → (∃ a, x = .ref a ∧ (((∃ xs, SqL X.K H1 a xs) ∧ R (Itl X.K a) H1) ∨ ((∃ xs, SqT X.K H1 a xs) ∧ R (Itt X.K a) H1))) →
      wpAny (model X.prog X.w) X.A (pyIter v) (PIE X pins σ tg R) X.xe s1 := fun v s1 H1 I1 x r1 ⟨a, e, q⟩ => by
    subst e
    cases r1
    have fp : ∀ b ∈ [s1.heap.objs.size], FpOk X pins H1 b := fun b hb => by
      cases List.mem_singleton.mp hb
      exact I1.fpOk (Nat.le_refl _) (I1.hok.fresh (Nat.le_refl _))
    rcases q with ⟨⟨xs, hq⟩, q⟩ | ⟨⟨xs, hq⟩, q⟩
    · obtain ⟨its, rv, p, _⟩ := I1.list hq
      exact wpAny_pyIter_list p.isList ⟨_, _, _, _, H1, rfl, I1.kept (t' := s1.toks) fun b o e => Heap.get?_push_of_some _ e, turn_list a _, ⟨_, Heap.get?_push_size _ rfl, rfl, rfl⟩, fp, q⟩
    · obtain ⟨its, rv, p, _⟩ := I1.tuple hq
      exact wpAny_pyIter_tuple (show s1.heap.IsTuple a its.toArray from p) ⟨_, _, _, _, H1, rfl, I1.kept (t' := s1.toks) fun b o e => Heap.get?_push_of_some _ e, turn_tuple a _, ⟨_, Heap.get?_push_size _ rfl, rfl, rfl⟩, fp, q⟩
  exact thn (hl.run pins s σ H _ I h) fun v s1 ⟨x, H1, I1, r1, q1⟩ => k v s1 H1 I1 x r1 q1

/-! ### pairs of parts -/
section
variable {K : PySem.W.Frag} {n : Nat}
theorem tE_bin {a b : E} {σ : L2.St} {H : Hp} {R : V → V → Hp → Prop} {P : D → D → Wd → Prop} {env : Slots} {W : Wd} (eH : W.H = H) (hE : EnvR K W env σ) (hM : MR K W)
    (h : After (evE n a env W.M) fun x M1 => After (evE n b env M1) fun y M2 => ∀ W2, W2.M = M2 → Ext W W2 → MR K W2 → P x y W2)
    (hR : ∀ x y v u W2, P x y W2 → EnvR K W2 env σ → MR K W2 → Ext W W2 → Rep K W2 v x → Rep K W2 u y → R v u W2.H) :
    tE K n a σ H fun v H1 => tE K n b σ H1 fun u H2 => R v u H2 := by
  refine ⟨env, W, eH, hE, hM, h.mono fun x M1 h1 => ?_⟩
  rintro W1 v rfl x1 m1 r1
  refine ⟨env, W1, rfl, hE.le x1.le, m1, h1.mono fun y M2 h2 => ?_⟩
  rintro W2 u rfl x2 m2 r2
  exact hR x y v u W2 (h2 W2 rfl (x1.trans x2) m2) (hE.le (x1.trans x2).le) m2 (x1.trans x2) (r1.le x2.le) r2
theorem After.imp {α : Type} {r : Res α} {P Q : α → Mem → Prop} (h : After r P) (i : ∀ a M, P a M → Q a M) : After r Q := h.mono i
end


section
variable {X : Cx} {lv n : Nat}
theorem tT_tE {K : PySem.W.Frag} {e : E} {σ : L2.St} {H : Hp} {Q : Bool → Hp → Prop} (h : tT K n e σ H Q) : tE K n e σ H fun v H' => ∃ k, v = .bl k ∧ Q k H' := by
  obtain ⟨env, W, eH, hE, hM, h⟩ := h
  refine ⟨env, W, eH, hE, hM, h.mono fun d M' ⟨b, ed, q⟩ => ?_⟩
  rintro W' v rfl x' m' r
  subst ed
  exact ⟨b, r.bl', q W' rfl x' m'⟩
def isLC : Expr → Bool
  | .ListComp _ _ _ _ => true
  | _ => false
/-- an expression and its test -/
structure Sd (X : Cx) (n : Nat) (e : E) (x : Expr) : Prop where
  pe : PE X x (tE X.K n e)
  pt : PT X x (tT X.K n e)
  pw : ∀ op ys p, x = .BoolOp op ys p → PW X x (tT X.K n e)
  lc : isLC x = true → ∀ (i : Nat) (y : Str) (py spos : Pos), X.N[i]? = some y → X.env.scope.names.lookup y = some .local → swapsWith x (some (.Name y py)) spos.line X.env = pure true → PS X (.Assign [.Name y py] x spos) (tAsg (tE X.K n e) (gName i))
theorem no_lc {x : Expr} {P : Prop} (h : isLC x = false) (q : isLC x = true) : P := by
  rw [h] at q
  cases q
theorem Sd.plain {e : E} {x : Expr} (h : PE X x (tE X.K n e)) (he : ∀ whole, isTrue x X.env whole = (do let v ← whole; standAt x.pos; holding [v] (truthy v))) (hb : ∀ op ys p, x ≠ .BoolOp op ys p) (hl : isLC x = false := by rfl) : Sd X n e x :=
  ⟨h, PT.imp (pt_val h he) fun _ _ _ q => tT_tE q, fun op ys p q => absurd q (hb op ys p), no_lc hl⟩
theorem Sd.of {e : E} {x : Expr} {t : TE} (h : PE X x t) (ht : PT X x (tTest t)) (imp : ∀ σ H Q, tE X.K n e σ H Q → t σ H Q) (hb : ∀ op ys p, x ≠ .BoolOp op ys p) (hl : isLC x = false := by rfl) : Sd X n e x :=
  ⟨PE.imp h imp, PT.imp ht fun _ _ _ q => imp _ _ _ (tT_tE q), fun op ys p q => absurd q (hb op ys p), no_lc hl⟩
abbrev GI (X : Cx) (x : Str) (d : D) : Prop := GV X.K X.mg x d

theorem s_var (hX : Cok X lv bNames) {i : Nat} {x : Expr} (h : chkE X.N X.env.scope (.var i) x = true) : Sd X n (.var i) x := by
  simp only [chkE] at h
  split at h
  · simp only [Bool.and_eq_true, decide_eq_true_eq, Bool.not_eq_true'] at h
    obtain ⟨⟨⟨h1, h2⟩, h3⟩, h4⟩ := h
    refine Sd.plain (PE.imp (pe_var h1 (vis_of h2) h3 h4) fun σ H Q ⟨env, W, eH, hE, hM, h⟩ => ?_) (fun _ => rfl) (fun _ _ _ => nofun)
    simp only [evE] at h
    obtain ⟨d, e1, q⟩ := After.ofO h
    cases e2 : env[i]? with
    | none => rw [e2] at e1; cases e1
    | some o =>
      rw [e2] at e1
      have e1 : o = some d := e1
      subst e1
      obtain ⟨v, e3, r⟩ := hE.at_ i d e2
      exact ⟨v, e3, by rw [← eH]; exact q W v rfl (.refl W) hM r⟩
  · cases h
theorem s_int {i : Int} {x : Expr} (h : chkE X.N X.env.scope (.int i) x = true) : Sd X n (.int i) x := by
  simp only [chkE] at h
  split at h
  · cases (of_decide_eq_true h)
    refine Sd.plain (PE.imp pe_int fun σ H Q ⟨env, W, eH, hE, hM, h⟩ => ?_) (fun _ => rfl) (fun _ _ _ => nofun)
    simp only [evE] at h
    show Q _ H
    rw [← eH]
    exact Go.ok hM (.int _) h
  · cases h
theorem s_str {i : Str} {x : Expr} (h : chkE X.N X.env.scope (.str i) x = true) : Sd X n (.str i) x := by
  simp only [chkE] at h
  split at h
  · cases (of_decide_eq_true h)
    refine Sd.plain (PE.imp pe_str fun σ H Q ⟨env, W, eH, hE, hM, h⟩ => ?_) (fun _ => rfl) (fun _ _ _ => nofun)
    simp only [evE] at h
    show Q _ H
    rw [← eH]
    exact Go.ok hM (.str _) h
  · cases h
theorem s_bl {i : Bool} {x : Expr} (h : chkE X.N X.env.scope (.bl i) x = true) : Sd X n (.bl i) x := by
  simp only [chkE] at h
  split at h
  · cases (of_decide_eq_true h)
    refine Sd.plain (PE.imp pe_bl fun σ H Q ⟨env, W, eH, hE, hM, h⟩ => ?_) (fun _ => rfl) (fun _ _ _ => nofun)
    simp only [evE] at h
    show Q _ H
    rw [← eH]
    exact Go.ok hM (.bl _) h
  · cases h
theorem s_never {x : Expr} (h : chkE X.N X.env.scope .never x = true) : Sd X n .never x := by
  simp only [chkE] at h
  split at h
  · refine Sd.plain ⟨fun pins s σ H Q I hw => ?_⟩ (fun _ => rfl) (fun _ _ _ => nofun)
    obtain ⟨env, W, eH, hE, hM, h⟩ := hw
    simp only [evE] at h
    exact h.elim
  · cases h
theorem s_non {x : Expr} (h : chkE X.N X.env.scope .non x = true) : Sd X n .non x := by
  simp only [chkE] at h
  split at h
  · refine Sd.plain (PE.imp pe_non fun σ H Q ⟨env, W, eH, hE, hM, h⟩ => ?_) (fun _ => rfl) (fun _ _ _ => nofun)
    simp only [evE] at h
    show Q _ H
    rw [← eH]
    exact Go.ok hM .non h
  · cases h
theorem s_gint {y : Str} {i : Int} {x : Expr} (h : chkE X.N X.env.scope (.gint y i) x = true) (ok : GI X y (.int i)) : Sd X n (.gint y i) x := by
  simp only [chkE] at h
  split at h
  · simp only [Bool.and_eq_true, decide_eq_true_eq] at h
    obtain ⟨rfl, h2⟩ := h
    obtain ⟨g1, g2⟩ := gl_of h2
    obtain ⟨v, u, em, rv, hr⟩ := ok
    refine Sd.plain (PE.imp (pe_glob g1 em rv g2) fun σ H Q ⟨env, W, eH, hE, hM, h⟩ => ?_) (fun _ => rfl) (fun _ _ _ => nofun)
    simp only [evE] at h
    show Q _ H
    rw [← eH]
    exact Go.ok hM (hr W) h
  · cases h
theorem s_gcon {y : Str} {d : D} {x : Expr} (h : chkE X.N X.env.scope (.gcon y d) x = true) (ok : GI X y d) : Sd X n (.gcon y d) x := by
  simp only [chkE] at h
  split at h
  · simp only [Bool.and_eq_true, decide_eq_true_eq] at h
    obtain ⟨rfl, h2⟩ := h
    obtain ⟨g1, g2⟩ := gl_of h2
    obtain ⟨v, u, em, rv, hr⟩ := ok
    refine Sd.plain (PE.imp (pe_glob g1 em rv g2) fun σ H Q ⟨env, W, eH, hE, hM, h⟩ => ?_) (fun _ => rfl) (fun _ _ _ => nofun)
    simp only [evE] at h
    show Q _ H
    rw [← eH]
    exact Go.ok hM (hr W) h
  · cases h
theorem s_bin {m : Bool} {op : Bop} {a b : E} {x y : Expr} {p : Pos} (ha : Sd X n a x) (hb : Sd X n b y) : Sd X n (.bin m op a b) (.BinOp x op.py y p) := by
  refine Sd.plain (PE.imp (pe_op (op_bin m op) ha.pe hb.pe) fun σ H Q ⟨env, W, eH, hE, hM, h⟩ => ?_) (fun _ => rfl) (fun _ _ _ => nofun)
  simp only [evE] at h
  refine tE_bin (P := fun x y W2 => Go X.K W2 (binop m op x y W2.M) Q) eH hE hM (h.bind.mono fun x M1 h1 => h1.bind.mono fun y M2 h2 => ?_) fun x y v u W2 g hE2 m2 x2 r1 r2 => ⟨x, y, W2, rfl, m2, r1, r2, g⟩
  rintro W2 rfl x2 m2
  exact After.mono h2 fun d M3 q => fun W3 w e3 x3 m3 r3 => q W3 w e3 (x2.trans x3) m3 r3
theorem s_neg {a : E} {x : Expr} {p : Pos} (ha : Sd X n a x) : Sd X n (.neg a) (.UnaryOp .USub x p) := by
  refine Sd.plain (PE.imp (pe_un un_neg ha.pe) fun σ H Q ⟨env, W, eH, hE, hM, h⟩ => ?_) (fun _ => rfl) (fun _ _ _ => nofun)
  simp only [evE] at h
  refine ⟨env, W, eH, hE, hM, h.bind.mono fun x M1 h1 => ?_⟩
  rintro W1 v rfl x1 m1 r1
  cases x with
  | int i => exact ⟨i, r1.int', h1 W1 _ rfl x1 m1 (.int _)⟩
  | _ => exact h1.elim
theorem s_not {a : E} {x : Expr} {p : Pos} (ha : Sd X n a x) : Sd X n (.not a) (.UnaryOp .Not x p) := by
  refine ⟨PE.imp (pe_not ha.pe) fun σ H Q ⟨env, W, eH, hE, hM, h⟩ => ?_, PT.imp (pt_not ha.pt) fun σ H Q ⟨env, W, eH, hE, hM, h⟩ => ?_, fun _ _ _ => nofun, no_lc rfl⟩
  · simp only [evE] at h
    refine ⟨env, W, eH, hE, hM, h.bind.mono fun x M1 h1 => ?_⟩
    rintro W1 v rfl x1 m1 r1
    cases x with
    | bl i => exact ⟨i, r1.bl', h1 W1 _ rfl x1 m1 (.bl _)⟩
    | _ => exact h1.elim
  · simp only [evE] at h
    refine ⟨env, W, eH, hE, hM, h.bind.mono fun x M1 h1 => ?_⟩
    cases x with
    | bl i =>
      obtain ⟨b, eb, q⟩ := h1
      cases eb
      exact ⟨i, rfl, q⟩
    | _ => exact h1.elim
/-- what follows the first of an and, an or -/
theorem tail_bo {op : BoolOp} {b : E} {y : Expr} {r : List Expr} {p : Pos} (h : match r with | [] => Sd X n b y | _ => Sd X n b (.BoolOp op (y :: r) p)) : PE X (.BoolOp op (y :: r) p) (tE X.K n b) ∧ PW X (.BoolOp op (y :: r) p) (tT X.K n b) := by
  cases r with
  | nil => exact ⟨pe_one h.pe, by cases op; exact pw_and1 h.pt; exact pw_or1 h.pt⟩
  | cons z zs => exact ⟨h.pe, h.pw _ _ _ rfl⟩
theorem s_and {a b : E} {x y : Expr} {r : List Expr} {p : Pos} (ha : Sd X n a x) (hb : match r with | [] => Sd X n b y | _ => Sd X n b (.BoolOp .And (y :: r) p)) : Sd X n (.and a b) (.BoolOp .And (x :: y :: r) p) := by
  obtain ⟨b1, b2⟩ := tail_bo hb
  have w : PW X (.BoolOp .And (x :: y :: r) p) (tT X.K n (.and a b)) := PW.imp (pw_and ha.pt b2) fun σ H Q ⟨env, W, eH, hE, hM, h⟩ => by
    simp only [evE] at h
    refine ⟨env, W, eH, hE, hM, h.bind.mono fun x M1 h1 => ?_⟩
    cases x with
    | bl c =>
      refine ⟨c, rfl, ?_⟩
      rintro W1 rfl x1 m1
      cases c with
      | true =>
        refine ⟨env, W1, rfl, hE.le x1.le, m1, (After.bind h1).mono fun y M2 h2 => ?_⟩
        cases y with
        | bl c =>
          obtain ⟨b, eb, q⟩ := h2
          cases eb
          exact ⟨c, rfl, fun W2 e2 x2 m2 => q W2 e2 (x1.trans x2) m2⟩
        | _ => exact h2.elim
      | false =>
        obtain ⟨b, eb, q⟩ := h1
        cases eb
        exact q W1 rfl x1 m1
    | _ => exact h1.elim
  refine ⟨PE.imp (pe_and ha.pe b1) fun σ H Q ⟨env, W, eH, hE, hM, h⟩ => ?_, w.pt, fun _ _ _ _ => w, no_lc rfl⟩
  simp only [evE] at h
  refine ⟨env, W, eH, hE, hM, h.bind.mono fun x M1 h1 => ?_⟩
  rintro W1 v rfl x1 m1 r1
  cases x with
  | bl c =>
    refine ⟨c, r1.bl', ?_⟩
    cases c with
    | true =>
      refine ⟨env, W1, rfl, hE.le x1.le, m1, (After.bind h1).mono fun y M2 h2 => ?_⟩
      rintro W2 u rfl x2 m2 r2
      cases y with
      | bl c => exact h2 W2 u rfl (x1.trans x2) m2 r2
      | _ => exact h2.elim
    | false => exact h1 W1 _ rfl x1 m1 (.bl _)
  | _ => exact h1.elim
theorem s_or {a b : E} {x y : Expr} {r : List Expr} {p : Pos} (ha : Sd X n a x) (hb : match r with | [] => Sd X n b y | _ => Sd X n b (.BoolOp .Or (y :: r) p)) : Sd X n (.or a b) (.BoolOp .Or (x :: y :: r) p) := by
  obtain ⟨b1, b2⟩ := tail_bo hb
  have w : PW X (.BoolOp .Or (x :: y :: r) p) (tT X.K n (.or a b)) := PW.imp (pw_or ha.pt b2) fun σ H Q ⟨env, W, eH, hE, hM, h⟩ => by
    simp only [evE] at h
    refine ⟨env, W, eH, hE, hM, h.bind.mono fun x M1 h1 => ?_⟩
    cases x with
    | bl c =>
      refine ⟨c, rfl, ?_⟩
      rintro W1 rfl x1 m1
      cases c with
      | false =>
        refine ⟨env, W1, rfl, hE.le x1.le, m1, (After.bind h1).mono fun y M2 h2 => ?_⟩
        cases y with
        | bl c =>
          obtain ⟨b, eb, q⟩ := h2
          cases eb
          exact ⟨c, rfl, fun W2 e2 x2 m2 => q W2 e2 (x1.trans x2) m2⟩
        | _ => exact h2.elim
      | true =>
        obtain ⟨b, eb, q⟩ := h1
        cases eb
        exact q W1 rfl x1 m1
    | _ => exact h1.elim
  refine ⟨PE.imp (pe_or ha.pe b1) fun σ H Q ⟨env, W, eH, hE, hM, h⟩ => ?_, w.pt, fun _ _ _ _ => w, no_lc rfl⟩
  simp only [evE] at h
  refine ⟨env, W, eH, hE, hM, h.bind.mono fun x M1 h1 => ?_⟩
  rintro W1 v rfl x1 m1 r1
  cases x with
  | bl c =>
    refine ⟨c, r1.bl', ?_⟩
    cases c with
    | false =>
      refine ⟨env, W1, rfl, hE.le x1.le, m1, (After.bind h1).mono fun y M2 h2 => ?_⟩
      rintro W2 u rfl x2 m2 r2
      cases y with
      | bl c => exact h2 W2 u rfl (x1.trans x2) m2 r2
      | _ => exact h2.elim
    | true => exact h1 W1 _ rfl x1 m1 (.bl _)
  | _ => exact h1.elim
theorem s_cmp (hX : Cok X lv bNames) {op : Cop} {a b : E} {x y : Expr} {p : Pos} (ha : Sd X n a x) (hb : Sd X n b y) (hm : behindInMarks op.py y = false) : Sd X n (.cmp op a b) (.Compare x [op.py] [y] p) := by
  have hu : X.A.units + 64 < cLine := Nat.lt_of_le_of_lt (by omega) hX.un
  refine Sd.of (pe_cmpR (op_cmp hu op) ha.pe hb.pe hm) (pt_cmpR (op_cmp hu op) ha.pe hb.pe hm) (fun σ H Q ⟨env, W, eH, hE, hM, h⟩ => ?_) (fun _ _ _ => nofun)
  simp only [evE] at h
  refine tE_bin (P := fun x y W2 => ∃ c, cmpop op x y W2.M = some c ∧ Q (.bl c) W2.H) eH hE hM (h.bind.mono fun x M1 h1 => h1.bind.mono fun y M2 h2 => ?_) fun x y v u W2 ⟨c, ec, q⟩ hE2 m2 x2 r1 r2 => ⟨x, y, W2, c, rfl, m2, r1, r2, ec, q⟩
  rintro W2 rfl x2 m2
  obtain ⟨c, ec, q⟩ := After.ofO (After.bind h2)
  exact ⟨c, ec, q W2 _ rfl x2 m2 (.bl _)⟩
theorem s_chain (hX : Cok X lv bNames) {op1 op2 : Cop} {a b c : E} {x y z : Expr} {p : Pos} (ha : Sd X n a x) (hb : Sd X n b y) (hc : Sd X n c z) (hm : behindInMarks op2.py z = false) : Sd X n (.chain op1 op2 a b c) (.Compare x [op1.py, op2.py] [y, z] p) := by
  have hu : X.A.units + 64 < cLine := Nat.lt_of_le_of_lt (by omega) hX.un
  refine Sd.of (pe_chain (op_cmp hu op1) (op_cmp hu op2) ha.pe hb.pe hc.pe hm) (pt_chain (op_cmp hu op1) (op_cmp hu op2) ha.pe hb.pe hc.pe hm) (fun σ H Q ⟨env, W, eH, hE, hM, h⟩ => ?_) (fun _ _ _ => nofun)
  simp only [evE] at h
  refine tE_bin (P := fun x y W2 => ∃ k, cmpop op1 x y W2.M = some k ∧ After (match k with
      | true => (evE n c env W2.M).bind fun z M4 => (ofO (cmpop op2 y z M4) M4).bind fun k2 M5 => .ok (.bl k2) M5
      | false => .ok (.bl false) W2.M) fun d M' => ∀ W' v, W'.M = M' → Ext W W' → MR X.K W' → Rep X.K W' v d → Q v W'.H) eH hE hM (h.bind.mono fun x M1 h1 => h1.bind.mono fun y M2 h2 => ?_) fun x y v u W2 ⟨k, ek, g⟩ hE2 m2 x2 r1 r2 => ?_
  · rintro W2 rfl x2 m2
    obtain ⟨k, ek, q⟩ := After.ofO (After.bind h2)
    exact ⟨k, ek, q⟩
  · refine ⟨x, y, W2, k, rfl, m2, r1, r2, ek, k, rfl, ?_⟩
    cases k with
    | true =>
      refine ⟨env, W2, rfl, hE2, m2, (After.bind g).mono fun z M4 h4 => ?_⟩
      rintro W4 w rfl x4 m4 r4
      obtain ⟨k2, e2, q⟩ := After.ofO (After.bind h4)
      exact ⟨y, z, W4, k2, rfl, m4, r2.le x4.le, r4, e2, q W4 _ rfl (x2.trans x4) m4 (.bl _)⟩
    | false => exact g W2 _ rfl x2 m2 (.bl _)
theorem s_isn {a : E} {x : Expr} {j : Nat} {p p2 : Pos} (ha : Sd X n a x) : Sd X n (.isn a) (.Compare x [.Is] [.Constant .none j p2] p) := by
  refine Sd.of (pe_cmpR op_isN ha.pe pe_non rfl) (pt_cmpR op_isN ha.pe pe_non rfl) (fun σ H Q ⟨env, W, eH, hE, hM, h⟩ => ?_) (fun _ _ _ => nofun)
  simp only [evE] at h
  refine ⟨env, W, eH, hE, hM, h.bind.mono fun x M1 h1 => ?_⟩
  rintro W1 v rfl x1 m1 r1
  refine ⟨rfl, ?_⟩
  rw [r1.non_iff]
  cases x <;> exact h1 W1 _ rfl x1 m1 (.bl _)
theorem s_notn {a : E} {x : Expr} {j : Nat} {p p2 : Pos} (ha : Sd X n a x) : Sd X n (.notn a) (.Compare x [.IsNot] [.Constant .none j p2] p) := by
  refine Sd.of (pe_cmpR op_notN ha.pe pe_non rfl) (pt_cmpR op_notN ha.pe pe_non rfl) (fun σ H Q ⟨env, W, eH, hE, hM, h⟩ => ?_) (fun _ _ _ => nofun)
  simp only [evE] at h
  refine ⟨env, W, eH, hE, hM, h.bind.mono fun x M1 h1 => ?_⟩
  rintro W1 v rfl x1 m1 r1
  refine ⟨rfl, ?_⟩
  rw [r1.non_iff]
  cases x <;> exact h1 W1 _ rfl x1 m1 (.bl _)
theorem s_inn (hX : Cok X lv bNames) {a b : E} {x y : Expr} {p : Pos} (ha : Sd X n a x) (hb : Sd X n b y) (hm : behindInMarks .In y = false) : Sd X n (.inn a b) (.Compare x [.In] [y] p) := by
  have hu : X.A.units + 65 < cLine := Nat.lt_of_le_of_lt (by omega) hX.un
  refine Sd.of (pe_cmpR (op_ins hu) ha.pe hb.pe hm) (pt_cmpR (op_ins hu) ha.pe hb.pe hm) (fun σ H Q ⟨env, W, eH, hE, hM, h⟩ => ?_) (fun _ _ _ => nofun)
  simp only [evE] at h
  refine tE_bin (P := fun x y W2 => ∃ c, inop x y W2.M = some c ∧ Q (.bl c) W2.H) eH hE hM (h.bind.mono fun x M1 h1 => h1.bind.mono fun y M2 h2 => ?_) fun x y v u W2 ⟨c, ec, q⟩ hE2 m2 x2 r1 r2 => ⟨x, y, W2, c, rfl, m2, r1, r2, ec, q⟩
  rintro W2 rfl x2 m2
  obtain ⟨c, ec, q⟩ := After.ofO (After.bind h2)
  exact ⟨c, ec, q W2 _ rfl x2 m2 (.bl _)⟩
theorem s_nin (hX : Cok X lv bNames) {a b : E} {x y : Expr} {p : Pos} (ha : Sd X n a x) (hb : Sd X n b y) (hm : behindInMarks .NotIn y = false) : Sd X n (.nin a b) (.Compare x [.NotIn] [y] p) := by
  have hu : X.A.units + 65 < cLine := Nat.lt_of_le_of_lt (by omega) hX.un
  refine Sd.of (pe_cmpR (op_nins hu) ha.pe hb.pe hm) (pt_cmpR (op_nins hu) ha.pe hb.pe hm) (fun σ H Q ⟨env, W, eH, hE, hM, h⟩ => ?_) (fun _ _ _ => nofun)
  simp only [evE] at h
  refine tE_bin (P := fun x y W2 => ∃ c, inop x y W2.M = some c ∧ Q (.bl (!c)) W2.H) eH hE hM (h.bind.mono fun x M1 h1 => h1.bind.mono fun y M2 h2 => ?_) fun x y v u W2 ⟨c, ec, q⟩ hE2 m2 x2 r1 r2 => ⟨x, y, W2, c, rfl, m2, r1, r2, ec, q⟩
  rintro W2 rfl x2 m2
  obtain ⟨c, ec, q⟩ := After.ofO (After.bind h2)
  exact ⟨c, ec, q W2 _ rfl x2 m2 (.bl _)⟩
theorem pt_ifExp {c a b : Expr} {tc ta tb : TT} {pos : Pos} (hc : PT X c tc) (ha : PT X a ta) (hb : PT X b tb) : PT X (.IfExp c a b pos) (fun σ H Q => tc σ H fun k H1 => if k = true then ta σ H1 Q else tb σ H1 Q) := by
  refine ⟨fun pins s σ H Q I h => isTrue_IfExp (thn (hc.run pins s σ H _ I h) fun d s1 ⟨H1, I1, q1⟩ => ?_)⟩
  cases d with
  | true => exact ha.run pins s1 σ H1 Q I1 q1
  | false => exact hb.run pins s1 σ H1 Q I1 q1
theorem s_ite {c a b : E} {z x y : Expr} {p : Pos} (hc : Sd X n c z) (ha : Sd X n a x) (hb : Sd X n b y) : Sd X n (.ite c a b) (.IfExp z x y p) := by
  refine ⟨PE.imp (pe_ifExp hc.pt ha.pe hb.pe) fun σ H Q ⟨env, W, eH, hE, hM, h⟩ => ?_, PT.imp (pt_ifExp hc.pt ha.pt hb.pt) fun σ H Q ⟨env, W, eH, hE, hM, h⟩ => ?_, fun _ _ _ => nofun, no_lc rfl⟩
  · simp only [evE] at h
    refine ⟨env, W, eH, hE, hM, h.bind.mono fun x M1 h1 => ?_⟩
    cases x with
    | bl k =>
      refine ⟨k, rfl, ?_⟩
      rintro W1 rfl x1 m1
      cases k with
      | true => exact ⟨env, W1, rfl, hE.le x1.le, m1, After.mono h1 fun d M2 q => fun W2 v e2 x2 m2 r2 => q W2 v e2 (x1.trans x2) m2 r2⟩
      | false => exact ⟨env, W1, rfl, hE.le x1.le, m1, After.mono h1 fun d M2 q => fun W2 v e2 x2 m2 r2 => q W2 v e2 (x1.trans x2) m2 r2⟩
    | _ => exact h1.elim
  · simp only [evE] at h
    refine ⟨env, W, eH, hE, hM, h.bind.mono fun x M1 h1 => ?_⟩
    cases x with
    | bl k =>
      refine ⟨k, rfl, ?_⟩
      rintro W1 rfl x1 m1
      cases k with
      | true => exact ⟨env, W1, rfl, hE.le x1.le, m1, After.mono h1 fun d M2 ⟨b, eb, q⟩ => ⟨b, eb, fun W2 e2 x2 m2 => q W2 e2 (x1.trans x2) m2⟩⟩
      | false => exact ⟨env, W1, rfl, hE.le x1.le, m1, After.mono h1 fun d M2 ⟨b, eb, q⟩ => ⟨b, eb, fun W2 e2 x2 m2 => q W2 e2 (x1.trans x2) m2⟩⟩
    | _ => exact h1.elim
theorem s_tup {es : Es} {xs : List Expr} {k : Nat} {p : Pos} (hs : PA X xs (tEs X.K n es)) : Sd X n (.tup es) (.Tuple xs k p) := by
  refine Sd.plain (PE.imp (pe_tup hs) fun σ H Q ⟨env, W, eH, hE, hM, h⟩ => ?_) (fun _ => rfl) (fun _ _ _ => nofun)
  simp only [evE] at h
  refine ⟨env, W, eH, hE, hM, h.bind.mono fun xs M1 h1 => ?_⟩
  rintro W1 vs rfl x1 m1 r1
  exact Go.newT m1 r1 (After.mono h1 fun d M2 q => fun W2 v e2 x2 m2 r2 => q W2 v e2 (x1.trans x2) m2 r2)
theorem s_lst {m : Bool} {es : Es} {xs : List Expr} {p : Pos} (hs : PA X xs (tEs X.K n es)) : Sd X n (.lst m es) (.List xs p) := by
  refine Sd.plain (PE.imp (pe_lst hs) fun σ H Q ⟨env, W, eH, hE, hM, h⟩ => ?_) (fun _ => rfl) (fun _ _ _ => nofun)
  simp only [evE] at h
  refine ⟨env, W, eH, hE, hM, h.bind.mono fun xs M1 h1 => ?_⟩
  rintro W1 vs rfl x1 m1 r1
  exact Go.newL m1 r1 (After.mono h1 fun d M2 q => fun W2 v e2 x2 m2 r2 => q W2 v e2 (x1.trans x2) m2 r2)
theorem s_ix {a i : E} {x y : Expr} {p : Pos} (ha : Sd X n a x) (hi : Sd X n i y) (hp : PlainIx y) : Sd X n (.ix a i) (.Subscript x y p) := by
  refine Sd.plain (PE.imp (pe_ix ix_D ha.pe hi.pe hp) fun σ H Q ⟨env, W, eH, hE, hM, h⟩ => ?_) (fun _ => rfl) (fun _ _ _ => nofun)
  simp only [evE] at h
  refine tE_bin (P := fun x k W2 => ∃ j d, k = .int j ∧ ixop x j W2.M = some d ∧ ∀ w, Rep X.K W2 w d → Q w W2.H) eH hE hM (h.bind.mono fun x M1 h1 => h1.bind.mono fun y M2 h2 => ?_) fun x y v u W2 ⟨j, d, ek, ed, q⟩ hE2 m2 x2 r1 r2 => ?_
  · rintro W2 rfl x2 m2
    cases y with
    | int j =>
      obtain ⟨d, ed, q⟩ := After.ofO h2
      exact ⟨j, d, rfl, ed, fun w r => q W2 w rfl x2 m2 r⟩
    | _ => exact h2.elim
  · subst ek
    exact ⟨x, j, W2, d, rfl, m2, r1, r2.int', ed, q⟩
theorem s_sl {m : Bool} {a : E} {lo hi : Eo} {x : Expr} {l r : Option Expr} {p p2 : Pos} (ha : Sd X n a x) (hl : PO X l (tEo X.K n lo)) (hr : PO X r (tEo X.K n hi)) : Sd X n (.sl m a lo hi) (.Subscript x (.Slice l r none p2) p) := by
  refine Sd.plain (PE.imp (pe_slice (sl_D m) ha.pe hl hr) fun σ H Q ⟨env, W, eH, hE, hM, h⟩ => ?_) (fun _ => rfl) (fun _ _ _ => nofun)
  simp only [evE] at h
  refine ⟨env, W, eH, hE, hM, h.bind.mono fun x M1 h1 => ?_⟩
  rintro W1 v rfl x1 m1 r1
  refine ⟨env, W1, rfl, hE.le x1.le, m1, (After.bind h1).mono fun l M2 h2 => ?_⟩
  rintro W2 rfl x2 m2
  refine ⟨env, W2, rfl, hE.le (x1.trans x2).le, m2, (After.bind h2).mono fun r M3 h3 => ?_⟩
  rintro W3 rfl x3 m3
  exact ⟨x, W3, rfl, m3, r1.le (x2.trans x3).le, After.mono h3 fun d M4 q => fun W4 w e4 x4 m4 r4 => q W4 w e4 ((x1.trans (x2.trans x3)).trans x4) m4 r4⟩
def tIs (K : PySem.W.Frag) (n : Nat) (is : Is) : TA := fun σ H Q => ∃ env W, W.H = H ∧ EnvR K W env σ ∧ MR K W ∧ After (evIs n is env W.M) fun ds M' => ∀ W' vs, W'.M = M' → Ext W W' → MR K W' → Reps K W' vs ds → Q vs W'.H
theorem s_rev {m : Bool} {a : E} {x : Expr} {k : Nat} {p1 p2 p3 p : Pos} (ha : Sd X n a x) : Sd X n (.rev m a) (.Subscript x (.Slice none none (some (.UnaryOp .USub (.Constant (.int 1) k p1) p2)) p3) p) := by
  refine Sd.plain (PE.imp (pe_revL ha.pe) fun σ H Q ⟨env, W, eH, hE, hM, h⟩ => ?_) (fun _ => rfl) (fun _ _ _ => nofun)
  simp only [evE] at h
  refine ⟨env, W, eH, hE, hM, h.bind.mono fun d M1 h1 => ?_⟩
  rintro W1 v rfl x1 m1 r1
  unfold revop at h1
  split at h1
  · rename_i xs e
    obtain ⟨a, vs, rfl, f, rs⟩ := r1.itemsL m1 e
    exact ⟨a, vs, rfl, f, (Go.newL (Q := Q) m1 rs.reverse (After.mono h1 fun d M2 q => fun W2 v e2 x2 m2 r2 => q W2 v e2 (x1.trans x2) m2 r2)).2⟩
  · exact h1.elim
theorem s_isb {b pos : Bool} {a : E} {x : Expr} {j : Nat} {p p2 : Pos} (ha : Sd X n a x) : Sd X n (.isb b pos a) (.Compare x [if pos then .Is else .IsNot] [.Constant (.bool b) j p2] p) := by
  cases pos with
  | true =>
    refine Sd.of (pe_cmpR op_isBl ha.pe pe_bl rfl) (pt_cmpR op_isBl ha.pe pe_bl rfl) (fun σ H Q ⟨env, W, eH, hE, hM, h⟩ => ?_) (fun _ _ _ => nofun)
    simp only [evE] at h
    refine ⟨env, W, eH, hE, hM, h.bind.mono fun x M1 h1 => ?_⟩
    rintro W1 v rfl x1 m1 r1
    cases x with
    | bl c =>
      refine ⟨c, b, r1.bl', rfl, ?_⟩
      have := h1 W1 _ rfl x1 m1 (.bl _)
      simpa using this
    | _ => exact h1.elim
  | false =>
    refine Sd.of (pe_cmpR op_notBl ha.pe pe_bl rfl) (pt_cmpR op_notBl ha.pe pe_bl rfl) (fun σ H Q ⟨env, W, eH, hE, hM, h⟩ => ?_) (fun _ _ _ => nofun)
    simp only [evE] at h
    refine ⟨env, W, eH, hE, hM, h.bind.mono fun x M1 h1 => ?_⟩
    rintro W1 v rfl x1 m1 r1
    cases x with
    | bl c =>
      refine ⟨c, b, r1.bl', rfl, ?_⟩
      have := h1 W1 _ rfl x1 m1 (.bl _)
      simpa using this
    | _ => exact h1.elim
theorem s_tups {is : Is} {xs : List Expr} {k : Nat} {p : Pos} (hs : PA X xs (tIs X.K n is)) : Sd X n (.tups is) (.Tuple xs k p) := by
  refine Sd.plain (PE.imp (pe_tup hs) fun σ H Q ⟨env, W, eH, hE, hM, h⟩ => ?_) (fun _ => rfl) (fun _ _ _ => nofun)
  simp only [evE] at h
  refine ⟨env, W, eH, hE, hM, h.bind.mono fun xs M1 h1 => ?_⟩
  rintro W1 vs rfl x1 m1 r1
  exact Go.newT m1 r1 (After.mono h1 fun d M2 q => fun W2 v e2 x2 m2 r2 => q W2 v e2 (x1.trans x2) m2 r2)
theorem s_lsts {m : Bool} {is : Is} {xs : List Expr} {p : Pos} (hs : PA X xs (tIs X.K n is)) : Sd X n (.lsts m is) (.List xs p) := by
  refine Sd.plain (PE.imp (pe_lst hs) fun σ H Q ⟨env, W, eH, hE, hM, h⟩ => ?_) (fun _ => rfl) (fun _ _ _ => nofun)
  simp only [evE] at h
  refine ⟨env, W, eH, hE, hM, h.bind.mono fun xs M1 h1 => ?_⟩
  rintro W1 vs rfl x1 m1 r1
  exact Go.newL m1 r1 (After.mono h1 fun d M2 q => fun W2 v e2 x2 m2 r2 => q W2 v e2 (x1.trans x2) m2 r2)
theorem n_nil : PA X [] (tIs X.K n .nil) := PA.imp pa_nil fun σ H Q ⟨env, W, eH, hE, hM, h⟩ => by
  simp only [evIs] at h
  subst eH
  exact h W [] rfl (.refl W) hM .nil
theorem n_cons {e : E} {is : Is} {x : Expr} {xs : List Expr} (hx : chkE X.N X.env.scope e x = true) (ha : Sd X n e x) (hs : PA X xs (tIs X.K n is)) : PA X (x :: xs) (tIs X.K n (.cons e is)) := by
  refine PA.imp (pa_cons ha.pe hs (chk_star hx _ _)) fun σ H Q ⟨env, W, eH, hE, hM, h⟩ => ?_
  simp only [evIs] at h
  refine ⟨env, W, eH, hE, hM, h.bind.mono fun d M1 h1 => ?_⟩
  rintro W1 v rfl x1 m1 r1
  refine ⟨env, W1, rfl, hE.le x1.le, m1, h1.bind.mono fun ds M2 h2 => ?_⟩
  rintro W2 vs rfl x2 m2 r2
  exact h2 W2 _ rfl (x1.trans x2) m2 (.cons (r1.le x2.le) r2)
theorem n_star {e : E} {is : Is} {x : Expr} {xs : List Expr} {p : Pos} (ha : Sd X n e x) (hs : PA X xs (tIs X.K n is)) : PA X (.Starred x p :: xs) (tIs X.K n (.star e is)) := by
  refine PA.imp (StX.pa_star ha.pe hs) fun σ H Q ⟨env, W, eH, hE, hM, h⟩ => ?_
  simp only [evIs] at h
  refine ⟨env, W, eH, hE, hM, h.bind.mono fun d M1 h1 => ?_⟩
  rintro W1 v rfl x1 m1 r1
  obtain ⟨ys, ey, h1⟩ := After.ofO h1.bind
  have key : ∃ a vs, v = .ref a ∧ (SqT X.K W1.H a vs ∨ SqL X.K W1.H a vs) ∧ Reps X.K W1 vs ys := by
    cases d with
    | tup zs =>
      cases ey
      obtain ⟨a, vs, rfl, f, rs⟩ := r1.tup'
      exact ⟨a, vs, rfl, .inl f.sq, rs⟩
    | _ =>
      obtain ⟨a, vs, rfl, f, rs⟩ := r1.itemsL m1 ey
      exact ⟨a, vs, rfl, .inr f, rs⟩
  obtain ⟨a, vs, rfl, f, rs⟩ := key
  refine ⟨a, vs, rfl, f, env, W1, rfl, hE.le x1.le, m1, h1.bind.mono fun ds M2 h2 => ?_⟩
  rintro W2 us rfl x2 m2 r2
  exact h2 W2 _ rfl (x1.trans x2) m2 ((rs.le x2.le).append r2)
end
end Sn
/-! Sn, part I: calls, comprehensions, walked things; all expressions. -/
namespace Sn
open PySem PySem.Spec PyProof.Rows L2
section
variable {X : Cx} {lv n : Nat}
theorem evEs_len {n : Nat} : ∀ {es : Es} {env : Slots} {M : Mem} {P : List D → Mem → Prop}, After (evEs n es env M) P → After (evEs n es env M) fun ds M' => ds.length = es.len ∧ P ds M'
  | .nil, env, M, P, h => by
    simp only [evEs] at h ⊢
    exact ⟨rfl, h⟩
  | .cons e es, env, M, P, h => by
    simp only [evEs] at h ⊢
    cases q : evE n e env M with
    | no => rw [q] at h; exact h.elim
    | ok x M1 =>
      rw [q] at h
      have h : After ((evEs n es env M1).bind fun xs M2 => .ok (x :: xs) M2) P := h
      have ih := evEs_len (After.bind h)
      show After ((evEs n es env M1).bind fun xs M2 => .ok (x :: xs) M2) _
      cases q2 : evEs n es env M1 with
      | no => rw [q2] at ih; exact ih.elim
      | ok xs M2 =>
        rw [q2] at ih
        exact ⟨congrArg Nat.succ ih.1, ih.2⟩
theorem callD_len {n : Nat} {d : Df} {ds : List D} {M : Mem} {P : D → Mem → Prop} (g : After (callD n d ds M) P) : ds.length = d.ps.length := by
  cases d with
  | mk nm ke ps N body =>
    simp only [callD] at g
    split at g
    · rename_i hh; exact hh.1
    · exact g.elim
theorem s_call (hX : Cok X lv bNames) {d : Df} {es : Es} {xs : List Expr} {p pos : Pos} (hn : chkEs X.N X.env.scope es xs = true) (hg : glB X.env.scope d.name = true) (K : KnD X.prog X.w X.K X.mg X.base n lv d) (pa : PA X xs (tEs X.K n es)) :
    Sd X n (.call d es) (.Call (.Name d.name p) xs [] pos) := by
  obtain ⟨g1, g2⟩ := gl_of hg
  obtain ⟨f, fd, em, kp, hb, F⟩ := K
  have fin : ∀ {pins : List (Addr × Obj)} {σ : L2.St} {Q : VK} {s1 : Shared} {W W1 : Wd} {ds : List D} {vs : List V} {us : List Value}, Inv X pins σ W1.H s1 → Vals vs us → Ext W W1 → MR X.K W1 → Reps X.K W1 vs ds →
      (After (callD n d ds W1.M) fun d M' => ∀ W' v, W'.M = M' → Ext W W' → MR X.K W' → Rep X.K W' v d → Q v W'.H) → wpAny (model X.prog X.w) X.A (call (.ref f) us) (EP X pins σ Q) X.xe s1 := fun {pins σ Q s1 W W1 ds vs us} I1 r x1 m1 rs g => by
    have hl : us.length = d.ps.length := by rw [← r.length, rs.length]; exact callD_len g
    have e0 : kwArr d.ps us [] [] = us := by
      unfold kwArr
      rw [List.drop_eq_nil_of_le (by omega)]
      simp
    have hb' := hb s1 us I1.kIn (by simpa using hl)
    rw [List.append_nil] at hb'
    have q := run_G (ks := []) (ws := []) (us := us) (vs := vs) (sp := spD X.K n d) (Q := Q) F hX.room hX.gd (by rw [e0]; exact hb') I1 (by rw [e0]; exact r)
      ⟨by rw [r.length, hl], ds, W1, rfl, rs, m1, After.mono g fun d M2 q => fun W2 v e2 x2 m2 r2 => q W2 v e2 (x1.trans x2) m2 r2⟩
    exact q
  refine Sd.plain ⟨fun pins s σ H Q I ⟨env, W, eH, hE, hM, h⟩ => ?_⟩ (fun _ => rfl) (fun _ _ _ => nofun)
  simp only [evE] at h
  refine wpAny_Call_Name_kw (ld_glob I g1 em ?_ g2)
  cases xs with
  | nil =>
    cases es with
    | nil =>
      simp only [evEs] at h
      subst eH
      exact PySem.W.callWith_K0 I.kIn kp (fin (vs := []) (us := []) I .nil (.refl W) hM .nil h.bind)
    | cons e es => simp [chkEs] at hn
  | cons y ys =>
    cases es with
    | nil => simp [chkEs] at hn
    | cons e es =>
      simp only [chkEs, Bool.and_eq_true] at hn
      refine PySem.W.callWith_K (h₀ := X.base) I.ok.mod.kin kp (thn (pa.run pos pins s σ H (fun vs H1 => ∃ ds W1, W1.H = H1 ∧ Ext W W1 ∧ MR X.K W1 ∧ Reps X.K W1 vs ds ∧ After (callD n d ds W1.M) fun d M' => ∀ W' v, W'.M = M' → Ext W W' → MR X.K W' → Rep X.K W' v d → Q v W'.H) I
        ⟨env, W, eH, hE, hM, h.bind.mono fun ds M1 h1 => ?_⟩) fun us s1 ⟨vs, H1, I1, r, q⟩ => ⟨I1.kIn, ?_⟩) (chk_star hn.1 _ _) (chks_plain hn.2 _ _)
      · rintro W1 vs rfl x1 m1 r1
        exact ⟨ds, W1, rfl, x1, m1, r1, h1⟩
      · obtain ⟨ds, W1, rfl, x1, m1, r1, g⟩ := q
        exact fin I1 r x1 m1 r1 g

/-! ### keywords -/
theorem kws_names {N : List Str} {sc : Scope} : ∀ {ks : List Str} {es : Es} {kws : List Keyword}, chkKs N sc ks es kws = true → ∀ (pos : Pos) (env : PySem.Env), (backToKw pos (keywordEach kws env)).filterMap (·.1) = ks
  | ks, .nil, kws, h, pos, env => by
    simp only [chkKs, Bool.and_eq_true, List.isEmpty_iff] at h
    obtain ⟨rfl, rfl⟩ := h
    rfl
  | [], .cons e es, kws, h, _, _ => by simp [chkKs] at h
  | k :: ks, .cons e es, [], h, _, _ => by simp [chkKs] at h
  | k :: ks, .cons e es, ⟨nm, x, p⟩ :: kws, h, pos, env => by
    simp only [chkKs, Bool.and_eq_true, decide_eq_true_eq] at h
    obtain ⟨⟨rfl, h1⟩, h2⟩ := h
    have ih := kws_names h2 pos env
    unfold backToKw at ih ⊢
    unfold keywordEach
    rw [List.map_cons, List.filterMap_cons]
    exact congrArg (k :: ·) ih
theorem kws_all {N : List Str} {sc : Scope} : ∀ {ks : List Str} {es : Es} {kws : List Keyword}, chkKs N sc ks es kws = true → ∀ (pos : Pos) (env : PySem.Env), (backToKw pos (keywordEach kws env)).all (·.1.isSome) = true ∧ (backToKw pos (keywordEach kws env)).any (·.1.isNone) = false
  | ks, .nil, kws, h, pos, env => by
    simp only [chkKs, Bool.and_eq_true, List.isEmpty_iff] at h
    obtain ⟨rfl, rfl⟩ := h
    exact ⟨rfl, rfl⟩
  | [], .cons e es, kws, h, _, _ => by simp [chkKs] at h
  | k :: ks, .cons e es, [], h, _, _ => by simp [chkKs] at h
  | k :: ks, .cons e es, ⟨nm, x, p⟩ :: kws, h, pos, env => by
    simp only [chkKs, Bool.and_eq_true, decide_eq_true_eq] at h
    obtain ⟨⟨rfl, h1⟩, h2⟩ := h
    obtain ⟨i1, i2⟩ := kws_all h2 pos env
    unfold backToKw at i1 i2 ⊢
    unfold keywordEach
    rw [List.map_cons, List.all_cons, List.any_cons]
    exact ⟨by rw [i1]; rfl, by rw [i2]; rfl⟩
theorem ks_len {N : List Str} {sc : Scope} : ∀ {ks : List Str} {es : Es} {kws : List Keyword}, chkKs N sc ks es kws = true → es.len = ks.length
  | ks, .nil, kws, h => by
    simp only [chkKs, Bool.and_eq_true, List.isEmpty_iff] at h
    obtain ⟨rfl, rfl⟩ := h
    rfl
  | [], .cons e es, kws, h => by simp [chkKs] at h
  | k :: ks, .cons e es, [], h => by simp [chkKs] at h
  | k :: ks, .cons e es, ⟨nm, x, p⟩ :: kws, h => by
    simp only [chkKs, Bool.and_eq_true, decide_eq_true_eq] at h
    exact congrArg Nat.succ (ks_len h.2)
theorem reps_look {K : PySem.W.Frag} {W : Wd} : ∀ {zs : List D} {qs : List V} {ks : List Str} {p : Str}, Reps K W qs zs → match (ks.zip qs).lookup p, (ks.zip zs).lookup p with
    | some v, some d => Rep K W v d
    | none, none => True
    | _, _ => False
  | [], _, [], p, .nil => trivial
  | [], _, _ :: _, p, .nil => trivial
  | _ :: _, _, [], p, .cons r rs => trivial
  | z :: zs, _, k :: ks, p, .cons r rs => by
    simp only [List.zip_cons_cons, List.lookup_cons]
    by_cases e : (p == k) = true
    · simp only [e]
      exact r
    · simp only [e]
      exact reps_look rs
theorem reps_kw {K : PySem.W.Frag} {W : Wd} {zs : List D} {qs : List V} {ks : List Str} (rs : Reps K W qs zs) : ∀ ps : List Str, Reps K W (ps.filterMap fun p => (ks.zip qs).lookup p) (ps.filterMap fun p => (ks.zip zs).lookup p)
  | [] => .nil
  | p :: ps => by
    have h := reps_look (ks := ks) (p := p) rs
    rw [List.filterMap_cons, List.filterMap_cons]
    cases e1 : (ks.zip qs).lookup p with
    | none =>
      cases e2 : (ks.zip zs).lookup p with
      | none => exact reps_kw rs ps
      | some d => rw [e1, e2] at h; exact h.elim
    | some v =>
      cases e2 : (ks.zip zs).lookup p with
      | none => rw [e1, e2] at h; exact h.elim
      | some d =>
        rw [e1, e2] at h
        exact .cons h (reps_kw rs ps)
theorem vals_look : ∀ {zs : List V} {qs : List Value} {ks : List Str} {p : Str}, Vals zs qs → match (ks.zip zs).lookup p, (ks.zip qs).lookup p with
    | some v, some d => RelV v d
    | none, none => True
    | _, _ => False
  | _, _, [], p, .nil => trivial
  | _, _, _ :: _, p, .nil => trivial
  | _, _, [], p, .cons r rs => trivial
  | _, _, k :: ks, p, .cons r rs => by
    simp only [List.zip_cons_cons, List.lookup_cons]
    by_cases e : (p == k) = true
    · simp only [e]
      exact r
    · simp only [e]
      exact vals_look rs
theorem vals_kw {zs : List V} {qs : List Value} {ks : List Str} (rs : Vals zs qs) : ∀ ps : List Str, Vals (ps.filterMap fun p => (ks.zip zs).lookup p) (ps.filterMap fun p => (ks.zip qs).lookup p)
  | [] => .nil
  | p :: ps => by
    have h := vals_look (ks := ks) (p := p) rs
    rw [List.filterMap_cons, List.filterMap_cons]
    cases e1 : (ks.zip zs).lookup p with
    | none =>
      cases e2 : (ks.zip qs).lookup p with
      | none => exact vals_kw rs ps
      | some d => rw [e1, e2] at h; exact h.elim
    | some v =>
      cases e2 : (ks.zip qs).lookup p with
      | none => rw [e1, e2] at h; exact h.elim
      | some d =>
        rw [e1, e2] at h
        exact .cons h (vals_kw rs ps)
theorem s_callk (hX : Cok X lv bNames) {d : Df} {es kes : Es} {ks : List Str} {xs : List Expr} {k0 : Keyword} {kws : List Keyword} {p pos : Pos} (hn : chkEs X.N X.env.scope es xs = true) (hg : glB X.env.scope d.name = true)
    (hk : chkKs X.N X.env.scope ks kes (k0 :: kws) = true) (K : KnK X.prog X.w X.K X.mg X.base n lv d es.len ks) (pa : PA X xs (tEs X.K n es)) (pk : PK X (k0 :: kws) (tEs X.K n kes)) :
    Sd X n (.callk d es ks kes) (.Call (.Name d.name p) xs (k0 :: kws) pos) := by
  obtain ⟨g1, g2⟩ := gl_of hg
  obtain ⟨f, fd, em, kp, hb, F⟩ := K
  have kn := kws_names hk pos X.env
  obtain ⟨ka, ke⟩ := kws_all hk pos X.env
  have kl := ks_len hk
  have fin : ∀ {pins : List (Addr × Obj)} {σ : L2.St} {Q : VK} {s1 : Shared} {W W1 : Wd} {ds zs : List D} {vs qs : List V} {us ws : List Value}, Inv X pins σ W1.H s1 → Vals vs us → Vals qs ws → Ext W W1 → MR X.K W1 → Reps X.K W1 vs ds → Reps X.K W1 qs zs → ds.length = es.len → zs.length = kes.len →
      (After ((ofO (kwVals d.ps ds ks zs) W1.M).bind fun as M => callD n d as M) fun d M' => ∀ W' v, W'.M = M' → Ext W W' → MR X.K W' → Rep X.K W' v d → Q v W'.H) → wpAny (model X.prog X.w) X.A (call (.ref f) us (ks.zip ws)) (EP X pins σ Q) X.xe s1 := fun {pins σ Q s1 W W1 ds zs vs qs us ws} I1 r rq x1 m1 rs rz l1 l2 g => by
    obtain ⟨as, ea, g⟩ := After.ofO g.bind
    unfold kwVals at ea
    split at ea
    · rename_i hlen
      cases ea
      have ra : Reps X.K W1 (kwArr d.ps vs ks qs) (ds ++ (d.ps.drop ds.length).filterMap fun p => (ks.zip zs).lookup p) := by
        unfold kwArr
        rw [rs.length]
        exact rs.append (reps_kw rz _)
      have rv : Vals (kwArr d.ps vs ks qs) (kwArr d.ps us ks ws) := by
        unfold kwArr
        rw [r.length]
        exact r.append (vals_kw rq _)
      exact run_G (sp := spD X.K n d) (Q := Q) F hX.room hX.gd (hb s1 us ws (by rw [← r.length, rs.length]; exact l1) (by rw [← rq.length, rz.length, l2]; exact kl)) I1 rv
        ⟨by rw [ra.length]; exact hlen, _, W1, rfl, ra, m1, After.mono g fun d M2 q => fun W2 v e2 x2 m2 r2 => q W2 v e2 (x1.trans x2) m2 r2⟩
    · cases ea
  refine Sd.plain ⟨fun pins s σ H Q I ⟨env, W, eH, hE, hM, h⟩ => ?_⟩ (fun _ => rfl) (fun _ _ _ => nofun)
  simp only [evE] at h
  refine wpAny_Call_Name_kw (ld_glob I g1 em ?_ g2)
  cases xs with
  | nil =>
    cases es with
    | nil =>
      simp only [evEs] at h
      refine PySem.W.callWith_KW0 (h₀ := X.base) I.ok.mod.kin kp ka (thn (pk.run pos pins s σ H (fun qs H1 => ∃ zs W1, W1.H = H1 ∧ Ext W W1 ∧ MR X.K W1 ∧ Reps X.K W1 qs zs ∧ zs.length = kes.len ∧
        After ((ofO (kwVals d.ps [] ks zs) W1.M).bind fun as M => callD n d as M) fun d M' => ∀ W' v, W'.M = M' → Ext W W' → MR X.K W' → Rep X.K W' v d → Q v W'.H) I ⟨env, W, eH, hE, hM, (evEs_len (After.bind (show After ((evEs n kes env W.M).bind fun ys M2 => (ofO (kwVals d.ps [] ks ys) M2).bind fun zs M3 => callD n d zs M3) _ from h))).mono fun zs M1 ⟨hl, h1⟩ => ?_⟩)
          fun ws s1 ⟨qs, H1, I1, r, q⟩ => ⟨I1.kIn, ?_⟩) (by rw [show (backTo pos (starEach [] X.env)).any (·.1) = false from rfl, ke]; rfl)
      · rintro W1 vs rfl x1 m1 r1
        exact ⟨zs, W1, rfl, x1, m1, r1, hl, h1⟩
      · obtain ⟨zs, W1, rfl, x1, m1, r1, l1, g⟩ := q
        rw [kn]
        exact fin (vs := []) (us := []) (ds := []) I1 .nil r x1 m1 .nil r1 rfl l1 g
    | cons e es => simp [chkEs] at hn
  | cons y ys =>
    cases es with
    | nil => simp [chkEs] at hn
    | cons e es =>
      have hn' := hn
      simp only [chkEs, Bool.and_eq_true] at hn
      refine PySem.W.callWith_KW (h₀ := X.base) I.ok.mod.kin kp ka (thn (pa.run pos pins s σ H (fun vs H1 => ∃ ds W1, W1.H = H1 ∧ Ext W W1 ∧ MR X.K W1 ∧ Reps X.K W1 vs ds ∧ ds.length = (Es.cons e es).len ∧
        After ((evEs n kes env W1.M).bind fun ys M2 => (ofO (kwVals d.ps ds ks ys) M2).bind fun as M => callD n d as M) fun d M' => ∀ W' v, W'.M = M' → Ext W W' → MR X.K W' → Rep X.K W' v d → Q v W'.H) I ⟨env, W, eH, hE, hM, (evEs_len h.bind).mono fun ds M1 ⟨hl, h1⟩ => ?_⟩)
          fun us s1 ⟨vs, H1, I1, r, q⟩ => ?_) (by rw [chks_plain hn' pos X.env, ke]; rfl) (chk_star hn.1 _ _)
      · rintro W1 vs rfl x1 m1 r1
        exact ⟨ds, W1, rfl, x1, m1, r1, hl, h1⟩
      · obtain ⟨ds, W1, rfl, x1, m1, r1, l1, g⟩ := q
        refine thn (pk.run pos pins s1 σ W1.H (fun qs H2 => ∃ zs W2, W2.H = H2 ∧ Ext W1 W2 ∧ MR X.K W2 ∧ Reps X.K W2 qs zs ∧ zs.length = kes.len ∧
          After ((ofO (kwVals d.ps ds ks zs) W2.M).bind fun as M => callD n d as M) fun d M' => ∀ W' v, W'.M = M' → Ext W W' → MR X.K W' → Rep X.K W' v d → Q v W'.H) I1 ⟨env, W1, rfl, hE.le x1.le, m1, (evEs_len g.bind).mono fun zs M2 ⟨hl, h2⟩ => ?_⟩) fun ws s2 ⟨qs, H2, I2, r2, q2⟩ => ⟨I2.kIn, ?_⟩
        · rintro W2 qs rfl x2 m2 r2
          exact ⟨zs, W2, rfl, x2, m2, r2, hl, h2⟩
        · obtain ⟨zs, W2, rfl, x2, m2, r2', l2, g2⟩ := q2
          rw [kn]
          exact fin I2 r r2 (x1.trans x2) m2 (r1.le x2.le) r2' l1 l2 g2

/-! ### built-ins -/
theorem s_prim (hX : Cok X lv bNames) {m : Bool} {p : Prim} {e : E} {es : Es} {z : Expr} {zs : List Expr} {pp pos : Pos} (hg : glB X.env.scope p.nm = true) (h1 : chkE X.N X.env.scope e z = true) (h2 : chkEs X.N X.env.scope es zs = true)
    (pa : PA X (z :: zs) (tEs X.K n (.cons e es))) : Sd X n (.prim m p (.cons e es)) (.Call (.Name p.nm pp) (z :: zs) [] pos) := by
  obtain ⟨g1, _⟩ := gl_of hg
  have hm := hX.free _ p.mem
  have hc := call_prim hX.calm hX.gd hX.un m p
  have hb := p.boot
  refine Sd.plain (PE.imp (t := tCB (rPrim X.K m p) (tEs X.K n (.cons e es))) ?_ fun σ H Q ⟨env, W, eH, hE, hM, h⟩ => ?_) (fun _ => rfl) (fun _ _ _ => nofun)
  · cases p <;> first
      | exact pe_callB hc g1 hm hb pa (by decide) (by decide) (chk_star h1 _ _) (chks_plain h2 _ _)
      | exact pe_callTy hc g1 hm hb pa (by decide) (by decide) (chk_star h1 _ _) (chks_plain h2 _ _)
  · simp only [evE] at h
    refine ⟨env, W, eH, hE, hM, h.bind.mono fun xs M1 h1 => ?_⟩
    rintro W1 vs rfl x1 m1 r1
    exact ⟨xs, W1, rfl, m1, r1, After.mono h1 fun d M2 q => fun W2 v e2 x2 m2 r2 => q W2 v e2 (x1.trans x2) m2 r2⟩
theorem s_isi (hX : Cok X lv bNames) {k : Kind} {a : E} {y : Expr} {pf pz pos : Pos} (hg : glB X.env.scope "isinstance" = true) (hk : glB X.env.scope k.nm = true) (h3 : chkE X.N X.env.scope a y = true) (ha : Sd X n a y) :
    Sd X n (.isi k a) (.Call (.Name "isinstance" pf) [y, .Name k.nm pz] [] pos) := by
  obtain ⟨g1, _⟩ := gl_of hg
  obtain ⟨g2, gd⟩ := gl_of hk
  have pa : PA X [y, .Name k.nm pz] (tCons (tE X.K n a) (tCons (tC (.ty k.ty)) tNil)) := pa_cons ha.pe (pa_cons (pe_bltn g2 (hX.free _ k.mem) k.boot rfl k.nm_ne gd) pa_nil) (chk_star h3 _ _)
  refine Sd.plain (PE.imp (pe_callB call_isi g1 (hX.free _ (by decide)) boot_isinstance pa (by decide) (by decide) (chk_star h3 _ _) rfl) fun σ H Q ⟨env, W, eH, hE, hM, h⟩ => ?_) (fun _ => rfl) (fun _ _ _ => nofun)
  simp only [evE] at h
  refine ⟨env, W, eH, hE, hM, h.bind.mono fun d M1 h1 => ?_⟩
  rintro W1 v rfl x1 m1 r1
  obtain ⟨g, h1⟩ := After.guard h1
  refine ⟨v, .ty k.ty, .type (tyD d), .type k.ty, isKind k d, rfl, .ty _, tyD_tyX m1 r1 ?_, kit_kind _ _ _, h1 W1 _ rfl x1 m1 (.bl _)⟩
  rintro j rfl
  exact Option.isSome_iff_exists.mp g
theorem Rep.tyL {K : PySem.W.Frag} {W : Wd} (hM : MR K W) {v : V} {j : Nat} (r : Rep K W v (.ref j)) (g : live (.ref j) W.M = true) : tyV K "list" v W.H := by
  obtain ⟨xs, e⟩ := Option.isSome_iff_exists.mp g
  obtain ⟨a, vs, rfl, _, f, _⟩ := r.mutL hM e
  exact .inl ⟨rfl, vs, .of f⟩
theorem methop_live {m : Meth} {x : D} {xs : List D} {M : Mem} {P : D → Mem → Prop} (h : After (methop m x xs M) P) : ∃ j, x = .ref j := by
  cases x with
  | ref j => exact ⟨j, rfl⟩
  | _ => cases m <;> simp [methop, After] at h
theorem s_meth (hX : Cok X lv bNames) {m : Meth} {o : E} {es : Es} {x : Expr} {xs : List Expr} {ap cp : Pos} (hl : ap.endLine = cp.line) (hn : xs.length < 20) (hs : chkEs X.N X.env.scope es xs = true) (hc : ∀ a b c d, x ≠ .Call a b c d) (ho : Sd X n o x)
    (pa : PA X xs (tEs X.K n es)) : Sd X n (.meth m o es) (.Call (.Attribute x m.nm ap) xs [] cp) := by
  have hbase : ∀ nm, attributeBase x nm X.env (eval x X.env) = eval x X.env := fun nm => by
    cases x <;> first | rfl | exact absurd rfl (hc _ _ _ _)
  have line : (ap.endLine == cp.line) = true := by rw [hl]; exact beq_self_eq_true _
  have imp : ∀ (σ : L2.St) (H : Hp) (Q : VK), tE X.K n (.meth m o es) σ H Q → tE X.K n o σ H fun v H1 => tyV X.K "list" v H1 ∧ tEs X.K n es σ H1 fun vs H2 => rMeth X.K m v vs H2 Q := fun σ H Q ⟨env, W, eH, hE, hM, h⟩ => by
    simp only [evE] at h
    refine ⟨env, W, eH, hE, hM, h.bind.mono fun x M1 h1 => ?_⟩
    rintro W1 v rfl x1 m1 r1
    obtain ⟨g, h1⟩ := After.guard h1
    have hj : ∃ j, x = .ref j := by
      cases q : evEs n es env W1.M with
      | no => rw [q] at h1; exact h1.elim
      | ok ds M2 => rw [q] at h1; exact methop_live (show After (methop m x ds M2) _ from h1)
    obtain ⟨j, rfl⟩ := hj
    refine ⟨r1.tyL m1 g, env, W1, rfl, hE.le x1.le, m1, h1.bind.mono fun ds M2 h2 => ?_⟩
    rintro W2 vs rfl x2 m2 r2
    exact ⟨_, ds, W2, rfl, m2, r1.le x2.le, r2, After.mono h2 fun d M3 q => fun W3 v e3 x3 m3 r3 => q W3 v e3 ((x1.trans x2).trans x3) m3 r3⟩
  have slot : ∃ pa : PlainAttrs "list", Slot "list" m.nm m.id ∧ typeOf (.builtin m.id) = pure (.type "method_descriptor") := by
    cases m
    · exact ⟨PySem.F.plainAttrs_list, PySem.F.slot_list_append, PySem.F.type_list_append⟩
    · exact ⟨PySem.F.plainAttrs_list, PySem.F.slot_list_reverse, PySem.F.type_list_reverse⟩
    · exact ⟨PySem.F.plainAttrs_list, PySem.F.slot_list_pop, PySem.F.type_list_pop⟩
  obtain ⟨pl, sl, ty⟩ := slot
  refine Sd.plain ?_ (fun _ => rfl) (fun _ _ _ => nofun)
  cases xs with
  | nil =>
    cases es with
    | nil =>
      refine PE.imp (pe_bm0 pl sl ty (mt_meth m) ho.pe (hbase _) line) fun σ H Q h => ?_
      obtain ⟨env, W, eH, hE, hM, h⟩ := imp σ H Q h
      refine ⟨env, W, eH, hE, hM, h.mono fun d M1 h1 => ?_⟩
      rintro W1 v rfl x1 m1 r1
      obtain ⟨h2, env', W2, e2, hE2, m2, h3⟩ := h1 W1 v rfl x1 m1 r1
      simp only [evEs] at h3
      refine ⟨h2, ?_⟩
      rw [← e2]
      exact h3 W2 [] rfl (.refl W2) m2 .nil
    | cons e es => simp [chkEs] at hs
  | cons y ys =>
    cases es with
    | nil => simp [chkEs] at hs
    | cons e es =>
      have hs' := hs
      simp only [chkEs, Bool.and_eq_true] at hs
      have hall : (backTo cp (starEach (y :: ys) X.env)).all (fun x => !x.1) = true := by
        have h := chks_plain hs' cp X.env
        rw [List.any_eq_false] at h
        exact List.all_eq_true.mpr fun q hq => by have := h q hq; simpa using this
      refine PE.imp (pe_bm pl sl ty (mt_meth m) ho.pe pa (hbase _) ?_ line (chk_star hs.1 _ _) (chks_plain hs.2 _ _)) imp
      rw [hall]
      have : (y :: ys).length + ([] : List Keyword).length + (if ([] : List Keyword).isEmpty then 0 else 1) < 30 := by
        simp only [List.length_nil, List.isEmpty_nil, if_true]
        omega
      rw [decide_eq_true this]
      rfl
end
end Sn
/-! Sn, part J: comprehensions. -/
namespace Sn
open PySem PySem.Spec PyProof.Rows L2

/-- the list at p is under construction: it stands for acc -/
structure InvC (K : PySem.W.Frag) (W1 : Wd) (p : Addr) (V : Wd) (acc : List D) (va : List L2.V) : Prop where
  z : ∀ a, V.Z a ↔ (W1.Z a ∨ a = p)
  le : Le W1 V
  zk : ∀ a o, W1.Z a → W1.H a = some o → V.H a = some o
  mr : MR K V
  at_ : V.H p = some (.lst va)
  reps : Reps K V va acc
section
variable {K : PySem.W.Frag} {W1 V V' : Wd} {p : Addr} {acc : List D} {va : List L2.V}
theorem InvC.start (hM : MR K W1) (hp : W1.H p = none) : InvC K W1 p { W1 with Z := fun a => W1.Z a ∨ a = p, H := upd W1.H p (.lst []) } [] [] := by
  have le : Le W1 { W1 with Z := fun a => W1.Z a ∨ a = p, H := upd W1.H p (.lst []) } := ⟨fun _ _ q => q, fun a o q n => by
    have hne := ne_of_none q hp
    refine ⟨by show upd W1.H p _ a = _; rw [upd_ne hne]; exact q, ?_⟩
    rintro (z | z | z)
    · exact n (.inl z)
    · exact n (.inr z)
    · exact hne z⟩
  refine ⟨fun a => Iff.rfl, le, fun a o z q => by show upd W1.H p _ a = _; rw [upd_ne (ne_of_none q hp)]; exact q, ⟨hM.len, fun n xs e => ?_, hM.inj, fun a z => ?_⟩, upd_same, .nil⟩
  · obtain ⟨a, vs, r, q, rs, nz⟩ := hM.cell n xs e
    refine ⟨a, vs, r, by show upd W1.H p _ a = _; rw [upd_ne (ne_of_none q hp)]; exact q, rs.le le, ?_⟩
    rintro (z | z)
    · exact nz z
    · rw [z, hp] at q; cases q
  · rcases z with z | z
    · obtain ⟨o, q⟩ := hM.zt a z
      exact ⟨o, by show upd W1.H p _ a = _; rw [upd_ne (ne_of_none q hp)]; exact q⟩
    · exact ⟨_, by show upd W1.H p _ a = _; rw [z]; exact upd_same⟩
theorem InvC.step (h : InvC K W1 p V acc va) (x : Ext V V') (m : MR K V') : InvC K W1 p V' acc va :=
  ⟨fun a => by rw [x.z]; exact h.z a, h.le.trans x.le, fun a o z q => x.zk a o ((h.z a).mpr (.inl z)) (h.zk a o z q), m, x.zk p _ ((h.z p).mpr (.inr rfl)) h.at_, h.reps.le x.le⟩
theorem InvC.push_le (h : InvC K W1 p V acc va) (vs : List L2.V) : Le V { V with H := upd V.H p (.lst vs) } := ⟨fun _ _ q => q, fun a o q n => by
  have hne : a ≠ p := fun e => n (.inr (by rw [e]; exact (h.z p).mpr (.inr rfl)))
  exact ⟨by show upd V.H p _ a = _; rw [upd_ne hne]; exact q, n⟩⟩
theorem InvC.push (h : InvC K W1 p V acc va) (hp : W1.H p = none) (hM1 : MR K W1) {v : L2.V} {d : D} (r : Rep K V v d) : InvC K W1 p { V with H := upd V.H p (.lst (va ++ [v])) } (acc ++ [d]) (va ++ [v]) := by
  have zp : V.Z p := (h.z p).mpr (.inr rfl)
  have le : Le V { V with H := upd V.H p (.lst (va ++ [v])) } := ⟨fun _ _ q => q, fun a o q n => by
    have hne : a ≠ p := fun e => n (.inr (by rw [e]; exact zp))
    exact ⟨by show upd V.H p _ a = _; rw [upd_ne hne]; exact q, n⟩⟩
  refine ⟨h.z, h.le.trans le, fun a o z q => ?_, ⟨h.mr.len, fun n xs e => ?_, h.mr.inj, fun a z => ?_⟩, upd_same, (h.reps.append (.cons r .nil)).le le⟩
  · have hne : a ≠ p := fun e => by
      obtain ⟨o', q'⟩ := hM1.zt a z
      rw [e, hp] at q'
      cases q'
    show upd V.H p _ a = _
    rw [upd_ne hne]
    exact h.zk a o z q
  · obtain ⟨a, vs, r, q, rs, nz⟩ := h.mr.cell n xs e
    have hne : a ≠ p := fun e => nz (by rw [e]; exact zp)
    exact ⟨a, vs, r, by show upd V.H p _ a = _; rw [upd_ne hne]; exact q, rs.le le, nz⟩
  · by_cases e : a = p
    · exact ⟨_, by show upd V.H p _ a = _; rw [e]; exact upd_same⟩
    · obtain ⟨o, q⟩ := h.mr.zt a z
      exact ⟨o, by show upd V.H p _ a = _; rw [upd_ne e]; exact q⟩
/-- done: the list is laid -/
theorem InvC.done (h : InvC K W1 p V acc va) (hp : W1.H p = none) (hM1 : MR K W1) {m : Bool} {Q : VK} {W : Wd} (x : Ext W W1)
    (g : After (newL m acc V.M) fun d M' => ∀ W' v, W'.M = M' → Ext W W' → MR K W' → Rep K W' v d → Q v W'.H) : Q (.ref p) V.H := by
  have zp : V.Z p := (h.z p).mpr (.inr rfl)
  have nz : ∀ a, W1.Z a → a ≠ p := fun a z e => by
    obtain ⟨o', q'⟩ := hM1.zt a z
    rw [e, hp] at q'
    cases q'
  let W0 : Wd := { V with Z := W1.Z, H := fun b => if b = p then none else V.H b }
  have h0 : ∀ {a : Addr}, a ≠ p → W0.H a = V.H a := fun {a} e => if_neg e
  have le : Le V W0 := ⟨fun _ _ q => q, fun a o q n => by
    have hne : a ≠ p := fun e => n (.inr (by rw [e]; exact zp))
    refine ⟨by rw [h0 hne]; exact q, ?_⟩
    rintro (z | z)
    · exact n (.inl z)
    · exact n (.inr ((h.z a).mpr (.inl z)))⟩
  have m0 : MR K W0 := ⟨h.mr.len, fun n xs e => by
    obtain ⟨a, vs, r, q, rs, nz2⟩ := h.mr.cell n xs e
    have hne : a ≠ p := fun e => nz2 (by rw [e]; exact zp)
    exact ⟨a, vs, r, by rw [h0 hne]; exact q, rs.le le, fun z => nz2 ((h.z a).mpr (.inl z))⟩, h.mr.inj, fun a z => by
    obtain ⟨o, q⟩ := hM1.zt a z
    exact ⟨o, by rw [h0 (nz a z)]; exact h.zk a o z q⟩⟩
  have x0 : Ext W1 W0 := ⟨h.le.trans le, rfl, fun a o z q => by rw [h0 (nz a z)]; exact h.zk a o z q⟩
  obtain ⟨_, q⟩ := Go.newL (W := W0) (Q := Q) m0 (h.reps.le le) (After.mono g fun d M' q => fun W' v e x' m' r => q W' v e (x.trans (x0.trans x')) m' r)
  have q' := q p (if_pos rfl)
  have e : upd W0.H p (.lst va) = V.H := by
    funext b
    by_cases hb : b = p
    · rw [hb, upd_same, h.at_]
    · rw [upd_ne hb, h0 hb]
  rw [e] at q'
  exact q'
end
section
variable {X : Cx} {lv n : Nat}
theorem drop_cons {α : Type} {xs : List α} {i : Nat} (h : i < xs.length) : xs.drop i = xs[i] :: xs.drop (i + 1) := List.drop_eq_getElem_cons h
theorem compL_step {refs : List Nat} {M0 M : Mem} {turn : D → Mem → Res (Option D)} {x : D} {xs acc : List D} {f : List D → Mem → Res D} {P : D → Mem → Prop} (g : After ((compL refs M0 turn (x :: xs) acc M).bind f) P) :
    After (turn x M) fun o M' => stays refs M0 M' ∧ match o with
      | some y => acc.length < sizeLine ∧ After ((compL refs M0 turn xs (acc ++ [y]) M').bind f) P
      | none => After ((compL refs M0 turn xs acc M').bind f) P := by
  unfold compL at g
  cases q : turn x M with
  | no => rw [q] at g; exact g.elim
  | ok o M' =>
    rw [q] at g
    cases o with
    | none =>
      dsimp only at g
      by_cases st : stays refs M0 M'
      · rw [if_pos st] at g; exact ⟨st, g⟩
      · rw [if_neg st] at g; exact g.elim
    | some y =>
      dsimp only at g
      by_cases st : stays refs M0 M' ∧ acc.length < sizeLine
      · rw [if_pos st] at g; exact ⟨st.1, st.2, g⟩
      · rw [if_neg st] at g; exact g.elim
theorem compL_nil {refs : List Nat} {M0 M : Mem} {turn : D → Mem → Res (Option D)} {acc : List D} {f : List D → Mem → Res D} {P : D → Mem → Prop} (g : After ((compL refs M0 turn [] acc M).bind f) P) : After (f acc M) P := by
  unfold compL at g
  exact g
abbrev Fin (K : PySem.W.Frag) (W : Wd) (Q : VK) : D → Mem → Prop := fun d M' => ∀ (W' : Wd) (v : L2.V), W'.M = M' → Ext W W' → MR K W' → Rep K W' v d → Q v W'.H
theorem s_comp (hX : Cok X lv bNames) {m : Bool} {own : List Nat} {elt : E} {tg : Tg} {it : Src} {cnd : Eo} {x t i : Expr} {ifs : List Expr} {scope : Scope} {p : Pos} (hb : blkC X.N X.env.scope scope (ownOf X.N own) = true) (ho : (tg.slots.all fun j => own.contains j) = true)
    (ht : chkTg X.N (locB scope) tg t = true) (hi : PI X t i (tSrc X.K n it))
    (hc : ∀ (s : Shared) (H : Hp) (C : Addr) (cl : List (Str × Addr)) (fp : List Addr), PTs (X.blk s H scope (compEnvC scope cl C X.env) fp) ifs (tC' X.K n cnd))
    (he : ∀ (s : Shared) (H : Hp) (C : Addr) (cl : List (Str × Addr)) (fp : List Addr), PE (X.blk s H scope (compEnvC scope cl C X.env) fp) x (tE X.K n elt)) (hs : ∀ u, foldedSetIterable i X.env u = pure u) :
    PE X (.ListComp x [⟨t, i, ifs, 0⟩] scope p) (tE X.K n (.comp m own elt tg it cnd)) ∧
      ∀ (iy : Nat) (y : Str) (py spos : Pos), X.N[iy]? = some y → X.env.scope.names.lookup y = some .local → swapsWith (.ListComp x [⟨t, i, ifs, 0⟩] scope p) (some (.Name y py)) spos.line X.env = pure true →
        PS X (.Assign [.Name y py] (.ListComp x [⟨t, i, ifs, 0⟩] scope p) spos) (tAsg (tE X.K n (.comp m own elt tg it cnd)) (gName iy)) := by
  have bo := blkOk_by hb
  have own2 : (ownOf X.N own).map (·.2) = own := by unfold ownOf; rw [List.map_map]; exact List.map_id' _
  have sub : ∀ j ∈ tg.slots, j ∈ own := fun j hj => by
    have := List.all_eq_true.mp ho j hj
    simpa using this
  have gt := fun s H C cl fp => tg_ok (X := X.blk s H scope (compEnvC scope cl C X.env) fp) hX.calm hX.nd (stOk_blk s H C cl fp) tg t ht
  suffices imp : ∀ σ H Q, tE X.K n (.comp m own elt tg it cnd) σ H Q → tLc (tSrc X.K n it) (gT X.K tg) (tC' X.K n cnd) (tE X.K n elt) ((ownOf X.N own).map (·.2)) σ H Q from
    ⟨PE.imp (pe_lc (own := ownOf X.N own) (wi := tSrc X.K n it) (g := gT X.K tg) (tt := tC' X.K n cnd) (te := tE X.K n elt) hX.calm hX.nd hi bo gt hc he hs) imp, fun iy y py spos hy hl hw =>
      ⟨fun pins s σ H D I h => (ps_setLc (own := ownOf X.N own) (wi := tSrc X.K n it) (g := gT X.K tg) (tt := tC' X.K n cnd) (te := tE X.K n elt) hX.calm hX.nd hy hl hw hi bo gt hc he hs).run pins s σ H D I (imp σ H _ h)⟩⟩
  rintro σ H Q ⟨env, W, eH, hE, hM, h⟩
  rw [own2]
  simp only [evE] at h
  refine ⟨env, W, eH, hE, hM, h.bind.mono fun w M1 h1 => ?_⟩
  rintro W1 J rfl x1 m1 hJ Dd hp
  revert h1
  generalize eT : (fun x M2 => (ofO (tg.put x (wipes env own)) M2).bind fun env2 M3 => (evC n cnd env2 M3).bind fun b M4 => if b = true then (evE n elt env2 M4).bind fun y M5 => Res.ok (some y) M5 else Res.ok none M4) = turn
  intro h1
  refine ⟨fun i k H => k = w.items.length - i ∧ i ≤ w.items.length ∧ ∃ (V : Wd) (acc : List D) (va : List L2.V), V.H = H ∧ InvC X.K W1 Dd V acc va ∧ stays w.refs W1.M V.M ∧
    After ((compL w.refs W1.M turn (w.items.drop i) acc V.M).bind fun ys M6 => newL m ys M6) (Fin X.K W Q),
    ⟨_, rfl, Nat.zero_le _, _, [], [], rfl, .start m1 hp, fun _ _ => rfl, h1⟩, ?_⟩
  rintro i k _ ⟨rfl, hil, V, acc, va, rfl, hV, hst, g⟩
  obtain ⟨j1, j2⟩ := hJ V hV.le hV.mr hst i hil
  by_cases hlt : i < w.items.length
  · obtain ⟨go, yl⟩ := j1 w.items[i] (List.getElem?_eq_getElem hlt)
    refine .inr ⟨go, fun H' => i + 1 ≤ w.items.length ∧ ∃ (V : Wd) (acc : List D) (va : List L2.V), V.H = H' ∧ InvC X.K W1 Dd V acc va ∧ stays w.refs W1.M V.M ∧
      After ((compL w.refs W1.M turn (w.items.drop (i + 1)) acc V.M).bind fun ys M6 => newL m ys M6) (Fin X.K W Q),
      fun H' hn => ⟨_, by omega, rfl, hn.1, hn.2⟩, fun v H' hy => ?_⟩
    obtain ⟨V1, rfl, eM, x2, m2, rv⟩ := yl v H' hy
    have hV1 := hV.step x2 m2
    rw [drop_cons hlt] at g
    have g := compL_step g
    rw [← eT] at g
    obtain ⟨env2, ep, g⟩ := After.ofO g.bind
    refine ⟨_, V1, _, env2, rfl, (hE.le (x1.le.trans hV1.le)).wipe own, m2, rv, ep, fun σ2 hE2 off => ⟨wipe_same off sub, env2, V1, rfl, hE2, m2, ?_⟩⟩
    rw [eM]
    refine g.bind.mono fun b M4 g => ?_
    rintro W4 rfl x4 m4
    have hV4 := hV1.step x4 m4
    cases b with
    | false =>
      rw [if_neg Bool.false_ne_true] at g ⊢
      have g : _ ∧ _ := g
      rw [eT] at g
      exact ⟨hlt, W4, acc, va, rfl, hV4, g.1, g.2⟩
    | true =>
      rw [if_pos rfl] at g ⊢
      refine ⟨env2, W4, rfl, hE2.le x4.le, m4, (After.bind g).mono fun y M5 g => ?_⟩
      rintro W5 u rfl x5 m5 r5
      have hV5 := hV4.step x5 m5
      have g : _ ∧ _ ∧ _ := g
      rw [eT] at g
      exact ⟨va, hV5.at_, by rw [hV5.reps.length]; exact g.2.1, hlt, _, acc ++ [y], va ++ [u], rfl, hV5.push hp m1 r5, g.1, g.2.2⟩
  · have ei : w.items.length = i := by omega
    refine .inl ⟨j2 ei, ?_⟩
    rw [List.drop_eq_nil_of_le (by omega)] at g
    exact hV.done hp m1 x1 (compL_nil g)

/-! ### two clauses -/
open Classical in
theorem compL2_step {refs : List Nat} {M0 M : Mem} {turn : List D → D → Mem → Res (List D)} {x : D} {xs acc : List D} {f : List D → Mem → Res D} {P : D → Mem → Prop} (g : After ((compL2 refs M0 turn (x :: xs) acc M).bind f) P) :
    After ((turn acc x M).bind fun acc' M' => if stays refs M0 M' then (compL2 refs M0 turn xs acc' M').bind f else .no) P := by
  unfold compL2 at g
  cases q : turn acc x M with
  | no => rw [q] at g; exact g.elim
  | ok o M' =>
    rw [q] at g
    dsimp only at g
    show After (if stays refs M0 M' then _ else _) P
    by_cases st : stays refs M0 M'
    · rw [if_pos st] at g ⊢; exact g
    · rw [if_neg st] at g; exact g.elim
theorem bind_assoc' {α β γ : Type} (r : Res α) (f : α → Mem → Res β) (g : β → Mem → Res γ) : (r.bind f).bind g = r.bind fun a M => (f a M).bind g := by
  cases r <;> rfl
open Classical in
theorem s_comp2 (hX : Cok X lv bNames) {m : Bool} {own own1 : List Nat} {elt : E} {tg tg1 : Tg} {it it1 : Src} {x t i t1 i1 : Expr} {scope : Scope} {p : Pos} (hb : blkC X.N X.env.scope scope (ownOf X.N own) = true) (h01 : (own1.all fun j => own.contains j) = true)
    (ho : (tg.slots.all fun j => own.contains j) = true) (ho1 : (tg1.slots.all fun j => own1.contains j) = true) (ht : chkTg X.N (locB scope) tg t = true) (ht1 : chkTg X.N (locB scope) tg1 t1 = true) (hi : PI X t i (tSrc X.K n it))
    (hi1 : ∀ (s : Shared) (H : Hp) (C : Addr) (cl : List (Str × Addr)) (fp : List Addr), PI (X.blk s H scope (compEnvC scope cl C X.env) fp) t1 i1 (tSrc X.K n it1))
    (he : ∀ (s : Shared) (H : Hp) (C : Addr) (cl : List (Str × Addr)) (fp : List Addr), PE (X.blk s H scope (compEnvC scope cl C X.env) fp) x (tE X.K n elt)) (hs : ∀ u, foldedSetIterable i X.env u = pure u) (hs1 : ∀ e u, foldedSetIterable i1 e u = pure u) :
    PE X (.ListComp x [⟨t, i, [], 0⟩, ⟨t1, i1, [], 0⟩] scope p) (tE X.K n (.comp2 m own own1 elt tg it tg1 it1)) ∧
      ∀ (iy : Nat) (y : Str) (py spos : Pos), X.N[iy]? = some y → X.env.scope.names.lookup y = some .local → swapsWith (.ListComp x [⟨t, i, [], 0⟩, ⟨t1, i1, [], 0⟩] scope p) (some (.Name y py)) spos.line X.env = pure true →
        PS X (.Assign [.Name y py] (.ListComp x [⟨t, i, [], 0⟩, ⟨t1, i1, [], 0⟩] scope p) spos) (tAsg (tE X.K n (.comp2 m own own1 elt tg it tg1 it1)) (gName iy)) := by
  have bo := blkOk_by hb
  have own2 : (ownOf X.N own).map (·.2) = own := by unfold ownOf; rw [List.map_map]; exact List.map_id' _
  have sub : ∀ j ∈ tg.slots, j ∈ own := fun j hj => by
    have := List.all_eq_true.mp ho j hj
    simpa using this
  have sub1 : ∀ j ∈ tg1.slots, j ∈ own1 := fun j hj => by
    have := List.all_eq_true.mp ho1 j hj
    simpa using this
  have s01 : ∀ j ∈ own1, j ∈ own := fun j hj => by
    have := List.all_eq_true.mp h01 j hj
    simpa using this
  have gt := fun s H C cl fp => tg_ok (X := X.blk s H scope (compEnvC scope cl C X.env) fp) hX.calm hX.nd (stOk_blk s H C cl fp) tg t ht
  have gt1 := fun s H C cl fp => tg_ok (X := X.blk s H scope (compEnvC scope cl C X.env) fp) hX.calm hX.nd (stOk_blk s H C cl fp) tg1 t1 ht1
  have s02 : ∀ j ∈ own1, j ∈ (ownOf X.N own).map (·.2) := by rw [own2]; exact s01
  suffices imp : ∀ σ H Q, tE X.K n (.comp2 m own own1 elt tg it tg1 it1) σ H Q → tLc2 (tSrc X.K n it) (gT X.K tg) tYes (tSrc X.K n it1) (gT X.K tg1) tYes (tE X.K n elt) ((ownOf X.N own).map (·.2)) own1 σ H Q from
    ⟨PE.imp (pe_lc2 (own := ownOf X.N own) (vs1 := own1) (wi := tSrc X.K n it) (g := gT X.K tg) (tt := tYes) (wi1 := tSrc X.K n it1) (g1 := gT X.K tg1) (tt1 := tYes) (te := tE X.K n elt) hX.calm hX.nd hi bo s02 gt (fun _ _ _ _ _ => pts_nil) hi1 gt1 (fun _ _ _ _ _ => pts_nil) he hs hs1) imp,
      fun iy y py spos hy hl hw => ⟨fun pins s σ H D I h => (ps_setLc2 (own := ownOf X.N own) (vs1 := own1) (wi := tSrc X.K n it) (g := gT X.K tg) (tt := tYes) (wi1 := tSrc X.K n it1) (g1 := gT X.K tg1) (tt1 := tYes) (te := tE X.K n elt) hX.calm hX.nd hy hl hw hi bo s02 gt (fun _ _ _ _ _ => pts_nil)
        hi1 gt1 (fun _ _ _ _ _ => pts_nil) he hs hs1).run pins s σ H D I (imp σ H _ h)⟩⟩
  rintro σ H Q ⟨env, W, eH, hE, hM, h⟩
  rw [own2]
  simp only [evE] at h
  refine ⟨env, W, eH, hE, hM, h.bind.mono fun w M1 h1 => ?_⟩
  rintro W1 J rfl x1 m1 hJ Dd hp
  revert h1
  generalize eT : (fun acc x M2 => (ofO (tg.put x (wipes env own)) M2).bind fun env2 M3 => (evIt n it1 env2 M3).bind fun w1 M4 => compL w1.refs M4 (fun x1 M5 => (ofO (tg1.put x1 (wipes env2 own1)) M5).bind fun env3 M6 => (evE n elt env3 M6).bind fun y M7 => Res.ok (some y) M7) w1.items acc M4) = turn
  intro h1
  refine ⟨fun i k H => k = w.items.length - i ∧ i ≤ w.items.length ∧ ∃ (V : Wd) (acc : List D) (va : List L2.V), V.H = H ∧ InvC X.K W1 Dd V acc va ∧ stays w.refs W1.M V.M ∧
    After ((compL2 w.refs W1.M turn (w.items.drop i) acc V.M).bind fun ys M6 => newL m ys M6) (Fin X.K W Q),
    ⟨_, rfl, Nat.zero_le _, _, [], [], rfl, .start m1 hp, fun _ _ => rfl, h1⟩, ?_⟩
  rintro i k _ ⟨rfl, hil, V, acc, va, rfl, hV, hst, g⟩
  obtain ⟨j1, j2⟩ := hJ V hV.le hV.mr hst i hil
  by_cases hlt : i < w.items.length
  · obtain ⟨go, yl⟩ := j1 w.items[i] (List.getElem?_eq_getElem hlt)
    refine .inr ⟨go, fun H' => i + 1 ≤ w.items.length ∧ ∃ (V : Wd) (acc : List D) (va : List L2.V), V.H = H' ∧ InvC X.K W1 Dd V acc va ∧ stays w.refs W1.M V.M ∧
      After ((compL2 w.refs W1.M turn (w.items.drop (i + 1)) acc V.M).bind fun ys M6 => newL m ys M6) (Fin X.K W Q),
      fun H' hn => ⟨_, by omega, rfl, hn.1, hn.2⟩, fun v H' hy => ?_⟩
    obtain ⟨V1, rfl, eM, x2, m2, rv⟩ := yl v H' hy
    have hV1 := hV.step x2 m2
    rw [drop_cons hlt] at g
    have g := compL2_step g
    rw [← eT] at g
    dsimp only at g
    rw [bind_assoc'] at g
    obtain ⟨env2, ep, g⟩ := After.ofO g.bind
    refine ⟨_, V1, _, env2, rfl, (hE.le (x1.le.trans hV1.le)).wipe own, m2, rv, ep, fun σ2 hE2 off => ⟨wipe_same off sub, ?_⟩⟩
    simp only [tYes, if_true]
    rw [eT, bind_assoc', ← eM] at g
    refine ⟨env2, V1, rfl, hE2, m2, g.bind.mono fun w1 M4 g => ?_⟩
    rintro V2 J1 rfl x3 m3 hJ1
    have hV2 := hV1.step x3 m3
    revert g
    generalize eT1 : (fun x1 M5 => (ofO (tg1.put x1 (wipes env2 own1)) M5).bind fun env3 M6 => (evE n elt env3 M6).bind fun y M7 => Res.ok (some y) M7) = turn1
    intro g
    refine ⟨fun i1 k H => k = w1.items.length - i1 ∧ i1 ≤ w1.items.length ∧ ∃ (V : Wd) (acc : List D) (va : List L2.V), V.H = H ∧ InvC X.K W1 Dd V acc va ∧ Le V2 V ∧ stays w1.refs V2.M V.M ∧
      After ((compL w1.refs V2.M turn1 (w1.items.drop i1) acc V.M).bind fun acc' M' => if stays w.refs W1.M M' then (compL2 w.refs W1.M turn (w.items.drop (i + 1)) acc' M').bind fun ys M6 => newL m ys M6 else .no) (Fin X.K W Q),
      ⟨_, rfl, Nat.zero_le _, V2, acc, va, rfl, hV2, .refl _, fun _ _ => rfl, g⟩, ?_⟩
    rintro i1 k _ ⟨rfl, hil1, V3, acc, va, rfl, hV3, le3, hst1, g⟩
    obtain ⟨l1, l2⟩ := hJ1 V3 le3 hV3.mr hst1 i1 hil1
    by_cases hlt1 : i1 < w1.items.length
    · obtain ⟨go1, yl1⟩ := l1 w1.items[i1] (List.getElem?_eq_getElem hlt1)
      refine .inr ⟨go1, fun H' => i1 + 1 ≤ w1.items.length ∧ ∃ (V : Wd) (acc : List D) (va : List L2.V), V.H = H' ∧ InvC X.K W1 Dd V acc va ∧ Le V2 V ∧ stays w1.refs V2.M V.M ∧
        After ((compL w1.refs V2.M turn1 (w1.items.drop (i1 + 1)) acc V.M).bind fun acc' M' => if stays w.refs W1.M M' then (compL2 w.refs W1.M turn (w.items.drop (i + 1)) acc' M').bind fun ys M6 => newL m ys M6 else .no) (Fin X.K W Q),
        fun H' hn => ⟨_, by omega, rfl, hn.1, hn.2⟩, fun v H' hy => ?_⟩
      obtain ⟨V4, rfl, eM4, x4, m4, rv4⟩ := yl1 v H' hy
      have hV4 := hV3.step x4 m4
      rw [drop_cons hlt1] at g
      have g := compL_step g
      rw [← eT1] at g
      obtain ⟨env3, ep3, g⟩ := After.ofO g.bind
      refine ⟨_, V4, _, env3, rfl, (hE2.le (x3.le.trans (le3.trans x4.le))).wipe own1, m4, rv4, ep3, fun σ3 hE3 off3 => ⟨wipe_same off3 sub1, ?_⟩⟩
      refine ⟨env3, V4, rfl, hE3, m4, ?_⟩
      rw [eM4]
      refine g.bind.mono fun y M5 g => ?_
      rintro W5 u rfl x5 m5 r5
      have hV5 := hV4.step x5 m5
      have g : _ ∧ _ ∧ _ := g
      rw [eT1] at g
      have hp5 := hV5.push hp m1 r5
      refine ⟨va, hV5.at_, by rw [hV5.reps.length]; exact g.2.1, hlt1, _, acc ++ [y], va ++ [u], rfl, hp5, ?_, g.1, g.2.2⟩
      exact le3.trans (x4.le.trans (x5.le.trans (hV5.push_le _)))
    · have ei : w1.items.length = i1 := by omega
      refine .inl ⟨l2 ei, ?_⟩
      rw [List.drop_eq_nil_of_le (by omega)] at g
      have g := compL_nil g
      by_cases st : stays w.refs W1.M V3.M
      · rw [if_pos st] at g
        exact ⟨hlt, V3, acc, va, rfl, hV3, st, g⟩
      · rw [if_neg st] at g; exact g.elim
  · have ei : w.items.length = i := by omega
    refine .inl ⟨j2 ei, ?_⟩
    rw [List.drop_eq_nil_of_le (by omega)] at g
    unfold compL2 at g
    exact hV.done hp m1 x1 g
end
end Sn
/-! Sn, part K: walked things; all expressions. -/
namespace Sn
open PySem PySem.Spec PyProof.Rows L2
section
variable {X : Cx} {lv n : Nat}
theorem i_of {tg x : Expr} {e : E} (ha : Sd X n e x) : PI X tg x (tSrc X.K n (.of e)) := by
  refine PI.imp (pi_any ha.pe) fun σ H R ⟨env, W, eH, hE, hM, h⟩ => ?_
  simp only [evIt] at h
  refine ⟨env, W, eH, hE, hM, h.bind.mono fun d M1 h1 => ?_⟩
  rintro W1 v rfl x1 m1 r1
  obtain ⟨xs, ex, q⟩ := After.ofO h1.bind
  have q : ∀ W' J, W'.M = W1.M → Ext W W' → MR X.K W' → ItR X.K J W' ⟨xs, refsOf d⟩ → R J W'.H := q
  cases d with
  | tup ys =>
    cases ex
    obtain ⟨a, vs, rfl, f, rs⟩ := r1.tup'
    exact ⟨a, rfl, .inr ⟨⟨vs, f.sq⟩, q W1 _ rfl x1 m1 (itR_tup f rs)⟩⟩
  | _ =>
    obtain ⟨a, vs, rfl, f, rs⟩ := r1.itemsL m1 ex
    exact ⟨a, rfl, .inl ⟨⟨vs, f⟩, q W1 _ rfl x1 m1 (itR_list m1 r1 ex)⟩⟩
theorem rng_of {i : Int} (h : rngOk i = true) : -(2 ^ 62) ≤ i ∧ i < 2 ^ 62 := by
  unfold rngOk at h
  simpa [Bool.and_eq_true, decide_eq_true_eq] using h
theorem i_range1 (hX : Cok X lv bNames) {tg x : Expr} {a : E} {p pos : Pos} (hg : glB X.env.scope "range" = true) (hx : chkE X.N X.env.scope a x = true) (ha : Sd X n a x) : PI X tg (.Call (.Name "range" p) [x] [] pos) (tSrc X.K n (.range1 a)) := by
  obtain ⟨g1, _⟩ := gl_of hg
  refine PI.imp (pi_range1 g1 (hX.free _ (by decide)) (pa_cons ha.pe pa_nil (chk_star hx _ _)) (chk_star hx _ _)) fun σ H R ⟨env, W, eH, hE, hM, h⟩ => ?_
  simp only [evIt] at h
  refine ⟨env, W, eH, hE, hM, h.bind.mono fun d M1 h1 => ?_⟩
  rintro W1 v rfl x1 m1 r1
  cases d with
  | int j =>
    obtain ⟨g, q⟩ := After.guard h1
    obtain ⟨b1, b2⟩ := rng_of g
    exact ⟨j, by rw [r1.int'], b1, b2, q W1 _ rfl x1 m1 (itR_range 0 j.toNat)⟩
  | _ => exact h1.elim
theorem i_range2 (hX : Cok X lv bNames) {tg x y : Expr} {a b : E} {p pos : Pos} (hg : glB X.env.scope "range" = true) (hx : chkE X.N X.env.scope a x = true) (hy : chkE X.N X.env.scope b y = true) (ha : Sd X n a x) (hb : Sd X n b y) : PI X tg (.Call (.Name "range" p) [x, y] [] pos) (tSrc X.K n (.range2 a b)) := by
  obtain ⟨g1, _⟩ := gl_of hg
  have s2 : starEach [y] X.env = [(false, eval y X.env)] := chk_star hy _ _
  refine PI.imp (pi_range2 g1 (hX.free _ (by decide)) (pa_cons ha.pe (pa_cons hb.pe pa_nil (chk_star hy _ _)) (chk_star hx _ _)) (by rw [chk_star hx, s2]) s2) fun σ H R ⟨env, W, eH, hE, hM, h⟩ => ?_
  simp only [evIt] at h
  refine tE_bin (R := fun v u H2 => ∃ i j : Int, [v, u] = [V.int i, V.int j] ∧ (-(2 ^ 62) ≤ i ∧ i < 2 ^ 62 ∧ -(2 ^ 62) ≤ j ∧ j < 2 ^ 62) ∧ R (L2.Itr i (j - i).toNat) H2)
    (P := fun d e W2 => ∃ i j, d = .int i ∧ e = .int j ∧ (-(2 ^ 62) ≤ i ∧ i < 2 ^ 62 ∧ -(2 ^ 62) ≤ j ∧ j < 2 ^ 62) ∧ R (L2.Itr i (j - i).toNat) W2.H) eH hE hM (h.bind.mono fun d M1 h1 => h1.bind.mono fun e M2 h2 => ?_)
    fun d e v u W2 ⟨i, j, e1, e2, b, q⟩ hE2 m2 x2 r1 r2 => ⟨i, j, by subst e1 e2; rw [r1.int', r2.int'], b, q⟩
  rintro W2 rfl x2 m2
  cases d with
  | int i =>
    cases e with
    | int j =>
      obtain ⟨g, q⟩ := After.guard h2
      rw [Bool.and_eq_true] at g
      obtain ⟨b1, b2⟩ := rng_of g.1
      obtain ⟨b3, b4⟩ := rng_of g.2
      exact ⟨i, j, rfl, rfl, ⟨b1, b2, b3, b4⟩, q W2 _ rfl x2 m2 (itR_range i _)⟩
    | _ => exact h2.elim
  | _ => cases e <;> exact h2.elim
theorem i_enum (hX : Cok X lv bNames) {x : Expr} {es : List Expr} {k : Nat} {tp : Pos} {a : E} {p pos : Pos} (hg : glB X.env.scope "enumerate" = true) (hx : chkE X.N X.env.scope a x = true) (ha : Sd X n a x) : PI X (.Tuple es k tp) (.Call (.Name "enumerate" p) [x] [] pos) (tSrc X.K n (.enum a)) := by
  obtain ⟨g1, _⟩ := gl_of hg
  refine PI.imp (pi_enum g1 (hX.free _ (by decide)) (pa_cons ha.pe pa_nil (chk_star hx _ _)) (chk_star hx _ _)) fun σ H R ⟨env, W, eH, hE, hM, h⟩ => ?_
  simp only [evIt] at h
  refine ⟨env, W, eH, hE, hM, h.bind.mono fun d M1 h1 => ?_⟩
  rintro W1 v rfl x1 m1 r1
  obtain ⟨xs, ex, q⟩ := After.ofO h1.bind
  obtain ⟨a, vs, rfl, f, rs⟩ := r1.itemsL m1 ex
  exact ⟨a, vs, rfl, f, (show ∀ W' J, W'.M = W1.M → Ext W W' → MR X.K W' → ItR X.K J W' ⟨enumD xs, refsOf d⟩ → R J W'.H from q) W1 _ rfl x1 m1 (itR_enum m1 r1 ex)⟩
theorem i_zip (hX : Cok X lv bNames) {x y : Expr} {es : List Expr} {k : Nat} {tp : Pos} {a b : E} {p pos : Pos} (hg : glB X.env.scope "zip" = true) (hx : chkE X.N X.env.scope a x = true) (hy : chkE X.N X.env.scope b y = true) (ha : Sd X n a x) (hb : Sd X n b y) :
    PI X (.Tuple es k tp) (.Call (.Name "zip" p) [x, y] [] pos) (tSrc X.K n (.zip a b)) := by
  obtain ⟨g1, _⟩ := gl_of hg
  have s2 : starEach [y] X.env = [(false, eval y X.env)] := chk_star hy _ _
  refine PI.imp (RZ.pi_zipA g1 (hX.free _ (by decide)) (pa_cons ha.pe (pa_cons hb.pe pa_nil (chk_star hy _ _)) (chk_star hx _ _)) (chk_star hx _ _) (by rw [s2]; rfl)) fun σ H R ⟨env, W, eH, hE, hM, h⟩ => ?_
  simp only [evIt] at h
  refine tE_bin (R := fun v u H2 => ∃ a b xs ys, [v, u] = [V.ref a, V.ref b] ∧ ((SqL X.K H2 a xs ∧ SqL X.K H2 b ys ∧ R (Itz X.K a b) H2) ∨ (SqT X.K H2 a xs ∧ SqT X.K H2 b ys ∧ R (RZ.ItzT X.K a b) H2)))
    (P := fun d e W2 => (∃ xs ys, d = .tup xs ∧ e = .tup ys ∧ ∀ J, ItR X.K J W2 ⟨zipD xs ys, []⟩ → R J W2.H) ∨ ∃ xs ys, itemsL W2.M d = some xs ∧ itemsL W2.M e = some ys ∧ ∀ J, ItR X.K J W2 ⟨zipD xs ys, refsOf d ++ refsOf e⟩ → R J W2.H)
    eH hE hM (h.bind.mono fun d M1 h1 => h1.bind.mono fun e M2 h2 => ?_) fun d e v u W2 hp hE2 m2 x2 r1 r2 => ?_
  · rintro W2 rfl x2 m2
    split at h2
    · exact .inl ⟨_, _, rfl, rfl, fun J hJ => h2 W2 J rfl x2 m2 hJ⟩
    · split at h2
      · exact .inr ⟨_, _, by assumption, by assumption, fun J hJ => h2 W2 J rfl x2 m2 hJ⟩
      · exact h2.elim
  · rcases hp with ⟨xs, ys, rfl, rfl, q⟩ | ⟨xs, ys, e1, e2, q⟩
    · obtain ⟨a, vs, rfl, f, rs⟩ := r1.tup'
      obtain ⟨b, us, rfl, g, ru⟩ := r2.tup'
      exact ⟨a, b, vs, us, rfl, .inr ⟨f.sq, g.sq, q _ (itR_zipT f rs g ru)⟩⟩
    · obtain ⟨a, vs, rfl, f, rs⟩ := r1.itemsL m2 e1
      obtain ⟨b, us, rfl, g, ru⟩ := r2.itemsL m2 e2
      exact ⟨a, b, vs, us, rfl, .inl ⟨f, g, q _ (itR_zip m2 r1 e1 r2 e2)⟩⟩

/-! ### lists of expressions -/
theorem l_nil : PA X [] (tEs X.K n .nil) := PA.imp pa_nil fun σ H Q ⟨env, W, eH, hE, hM, h⟩ => by
  simp only [evEs] at h
  subst eH
  exact h W [] rfl (.refl W) hM .nil
theorem l_cons {e : E} {es : Es} {x : Expr} {xs : List Expr} (hx : chkE X.N X.env.scope e x = true) (ha : Sd X n e x) (hs : PA X xs (tEs X.K n es)) : PA X (x :: xs) (tEs X.K n (.cons e es)) := by
  refine PA.imp (pa_cons ha.pe hs (chk_star hx _ _)) fun σ H Q ⟨env, W, eH, hE, hM, h⟩ => ?_
  simp only [evEs] at h
  refine ⟨env, W, eH, hE, hM, h.bind.mono fun d M1 h1 => ?_⟩
  rintro W1 v rfl x1 m1 r1
  refine ⟨env, W1, rfl, hE.le x1.le, m1, h1.bind.mono fun ds M2 h2 => ?_⟩
  rintro W2 vs rfl x2 m2 r2
  exact h2 W2 _ rfl (x1.trans x2) m2 (.cons (r1.le x2.le) r2)
theorem k_nil : PK X [] (tEs X.K n .nil) := ⟨fun pos pins s σ H Q I ⟨env, W, eH, hE, hM, h⟩ => pk_nil.run pos pins s σ H Q I (by
  simp only [evEs] at h
  subst eH
  exact h W [] rfl (.refl W) hM .nil)⟩
theorem k_cons {e : E} {es : Es} {x : Expr} {nm : Option Str} {kp : Pos} {kws : List Keyword} (ha : Sd X n e x) (hs : PK X kws (tEs X.K n es)) : PK X (⟨nm, x, kp⟩ :: kws) (tEs X.K n (.cons e es)) := by
  refine ⟨fun pos pins s σ H Q I ⟨env, W, eH, hE, hM, h⟩ => (pk_cons ha.pe hs).run pos pins s σ H Q I ?_⟩
  simp only [evEs] at h
  refine ⟨env, W, eH, hE, hM, h.bind.mono fun d M1 h1 => ?_⟩
  rintro W1 v rfl x1 m1 r1
  refine ⟨env, W1, rfl, hE.le x1.le, m1, h1.bind.mono fun ds M2 h2 => ?_⟩
  rintro W2 vs rfl x2 m2 r2
  exact h2 W2 _ rfl (x1.trans x2) m2 (.cons (r1.le x2.le) r2)
theorem o_none : PO X none (tEo X.K n .none) := PO.imp po_none fun σ H Q ⟨env, W, eH, hE, hM, h⟩ => by
  simp only [evEo] at h
  subst eH
  exact h W rfl (.refl W) hM
theorem o_some {e : E} {x : Expr} (ha : Sd X n e x) : PO X (some x) (tEo X.K n (.some e)) := PO.imp (po_some ha.pe) fun σ H Q ⟨env, W, eH, hE, hM, h⟩ => by
  simp only [evEo] at h
  refine ⟨env, W, eH, hE, hM, h.bind.mono fun d M1 h1 => ?_⟩
  rintro W1 v rfl x1 m1 r1
  cases d with
  | int i => exact ⟨i, r1.int', h1 W1 rfl x1 m1⟩
  | _ => exact h1.elim
theorem c_none : PTs X [] (tC' X.K n .none) := PTs.imp pts_nil fun σ H Q ⟨env, W, eH, hE, hM, h⟩ => by
  simp only [evC] at h
  subst eH
  exact h W rfl (.refl W) hM
theorem c_some {e : E} {x : Expr} (ha : Sd X n e x) : PTs X [x] (tC' X.K n (.some e)) := PTs.imp (pts_one ha.pt) fun σ H Q ⟨env, W, eH, hE, hM, h⟩ => by
  simp only [evC] at h
  refine ⟨env, W, eH, hE, hM, h.bind.mono fun d M1 h1 => ?_⟩
  obtain ⟨b, eb, q⟩ := After.ofO h1
  cases d with
  | bl c => cases eb; exact ⟨b, rfl, q⟩
  | _ => cases eb
theorem src_set {N : List Str} {sc : Scope} {it : Src} {i : Expr} {b : Bool} (h : chkIt N sc it i b = true) (env : PySem.Env) (u : Value) : foldedSetIterable i env u = pure u := by
  cases it with
  | of e => simp only [chkIt] at h; exact chk_set h env u
  | _ => cases i <;> first | rfl | (simp [chkIt] at h)
end
abbrev OKE (X : Cx) (n lv : Nat) (e : E) : Prop := okE (KnD X.prog X.w X.K X.mg X.base n lv) (KnK X.prog X.w X.K X.mg X.base n lv) (GI X) e
abbrev OKEs (X : Cx) (n lv : Nat) (e : Es) : Prop := okEs (KnD X.prog X.w X.K X.mg X.base n lv) (KnK X.prog X.w X.K X.mg X.base n lv) (GI X) e
abbrev OKIs (X : Cx) (n lv : Nat) (e : Is) : Prop := okIs (KnD X.prog X.w X.K X.mg X.base n lv) (KnK X.prog X.w X.K X.mg X.base n lv) (GI X) e
abbrev OKEo (X : Cx) (n lv : Nat) (e : Eo) : Prop := okEo (KnD X.prog X.w X.K X.mg X.base n lv) (KnK X.prog X.w X.K X.mg X.base n lv) (GI X) e
abbrev OKIt (X : Cx) (n lv : Nat) (e : Src) : Prop := okIt (KnD X.prog X.w X.K X.mg X.base n lv) (KnK X.prog X.w X.K X.mg X.base n lv) (GI X) e
mutual
theorem sound {n lv : Nat} : ∀ (e : E) (X : Cx) (x : Expr), Cok X lv bNames → chkE X.N X.env.scope e x = true → OKE X n lv e → Sd X n e x
  | .var i, X, x, hX, h, _ => s_var hX h
  | .int i, X, x, hX, h, _ => s_int h
  | .str i, X, x, hX, h, _ => s_str h
  | .bl i, X, x, hX, h, _ => s_bl h
  | .non, X, x, hX, h, _ => s_non h
  | .gint y i, X, x, hX, h, ok => s_gint h (by simp only [OKE, okE] at ok; exact ok)
  | .gcon y i, X, x, hX, h, ok => s_gcon h (by simp only [OKE, okE] at ok; exact ok)
  | .never, X, x, hX, h, _ => s_never h
  | .bin m op a b, X, x, hX, h, ok => by
    simp only [OKE, okE] at ok
    simp only [chkE] at h
    split at h
    · simp only [Bool.and_eq_true, decide_eq_true_eq] at h
      obtain ⟨⟨rfl, h1⟩, h2⟩ := h
      exact s_bin (sound a X _ hX h1 ok.1) (sound b X _ hX h2 ok.2)
    · cases h
  | .neg a, X, x, hX, h, ok => by
    simp only [OKE, okE] at ok
    simp only [chkE] at h
    split at h
    · exact s_neg (sound a X _ hX h ok)
    · cases h
  | .not a, X, x, hX, h, ok => by
    simp only [OKE, okE] at ok
    simp only [chkE] at h
    split at h
    · exact s_not (sound a X _ hX h ok)
    · cases h
  | .and a b, X, x, hX, h, ok => by
    simp only [OKE, okE] at ok
    simp only [chkE] at h
    split at h
    · rename_i y z r p
      rw [Bool.and_eq_true] at h
      refine s_and (sound a X _ hX h.1 ok.1) ?_
      cases r with
      | nil => exact sound b X _ hX h.2 ok.2
      | cons w ws => exact sound b X _ hX h.2 ok.2
    · cases h
  | .or a b, X, x, hX, h, ok => by
    simp only [OKE, okE] at ok
    simp only [chkE] at h
    split at h
    · rename_i y z r p
      rw [Bool.and_eq_true] at h
      refine s_or (sound a X _ hX h.1 ok.1) ?_
      cases r with
      | nil => exact sound b X _ hX h.2 ok.2
      | cons w ws => exact sound b X _ hX h.2 ok.2
    · cases h
  | .cmp op a b, X, x, hX, h, ok => by
    simp only [OKE, okE] at ok
    simp only [chkE] at h
    split at h
    · simp only [Bool.and_eq_true, decide_eq_true_eq] at h
      obtain ⟨⟨rfl, h1⟩, h2⟩ := h
      exact s_cmp hX (sound a X _ hX h1 ok.1) (sound b X _ hX h2 ok.2) (chk_mark h2 _)
    · cases h
  | .chain op1 op2 a b c, X, x, hX, h, ok => by
    simp only [OKE, okE] at ok
    simp only [chkE] at h
    split at h
    · simp only [Bool.and_eq_true, decide_eq_true_eq] at h
      obtain ⟨⟨⟨⟨rfl, rfl⟩, h1⟩, h2⟩, h3⟩ := h
      exact s_chain hX (sound a X _ hX h1 ok.1) (sound b X _ hX h2 ok.2.1) (sound c X _ hX h3 ok.2.2) (chk_mark h3 _)
    · cases h
  | .isn a, X, x, hX, h, ok => by
    simp only [OKE, okE] at ok
    simp only [chkE] at h
    split at h
    · exact s_isn (sound a X _ hX h ok)
    · cases h
  | .notn a, X, x, hX, h, ok => by
    simp only [OKE, okE] at ok
    simp only [chkE] at h
    split at h
    · exact s_notn (sound a X _ hX h ok)
    · cases h
  | .inn a b, X, x, hX, h, ok => by
    simp only [OKE, okE] at ok
    simp only [chkE] at h
    split at h
    · rw [Bool.and_eq_true] at h
      exact s_inn hX (sound a X _ hX h.1 ok.1) (sound b X _ hX h.2 ok.2) (chk_mark h.2 _)
    · cases h
  | .nin a b, X, x, hX, h, ok => by
    simp only [OKE, okE] at ok
    simp only [chkE] at h
    split at h
    · rw [Bool.and_eq_true] at h
      exact s_nin hX (sound a X _ hX h.1 ok.1) (sound b X _ hX h.2 ok.2) (chk_mark h.2 _)
    · cases h
  | .ite c a b, X, x, hX, h, ok => by
    simp only [OKE, okE] at ok
    simp only [chkE] at h
    split at h
    · simp only [Bool.and_eq_true] at h
      exact s_ite (sound c X _ hX h.1.1 ok.1) (sound a X _ hX h.1.2 ok.2.1) (sound b X _ hX h.2 ok.2.2)
    · cases h
  | .tup es, X, x, hX, h, ok => by
    simp only [OKE, okE] at ok
    simp only [chkE] at h
    split at h
    · exact s_tup (sounds es X _ hX h ok)
    · cases h
  | .lst m es, X, x, hX, h, ok => by
    simp only [OKE, okE] at ok
    simp only [chkE] at h
    split at h
    · exact s_lst (sounds es X _ hX h ok)
    · cases h
  | .ix a i, X, x, hX, h, ok => by
    simp only [OKE, okE] at ok
    simp only [chkE] at h
    split at h
    · rw [Bool.and_eq_true] at h
      exact s_ix (sound a X _ hX h.1 ok.1) (sound i X _ hX h.2 ok.2) (chk_ix h.2)
    · cases h
  | .sl m a lo hi, X, x, hX, h, ok => by
    simp only [OKE, okE] at ok
    simp only [chkE] at h
    split at h
    · simp only [Bool.and_eq_true] at h
      exact s_sl (sound a X _ hX h.1.1 ok.1) (soundo lo X _ hX h.1.2 ok.2.1) (soundo hi X _ hX h.2 ok.2.2)
    · cases h
  | .rev m a, X, x, hX, h, ok => by
    simp only [OKE, okE] at ok
    simp only [chkE] at h
    split at h
    · exact s_rev (sound a X _ hX h ok)
    · cases h
  | .isb b pos a, X, x, hX, h, ok => by
    simp only [OKE, okE] at ok
    simp only [chkE] at h
    split at h
    · simp only [Bool.and_eq_true, decide_eq_true_eq] at h
      obtain ⟨⟨rfl, rfl⟩, h2⟩ := h
      exact s_isb (sound a X _ hX h2 ok)
    · cases h
  | .tups is, X, x, hX, h, ok => by
    simp only [OKE, okE] at ok
    simp only [chkE] at h
    split at h
    · rw [Bool.and_eq_true] at h
      exact s_tups (soundn is X _ hX h.1 ok)
    · cases h
  | .lsts m is, X, x, hX, h, ok => by
    simp only [OKE, okE] at ok
    simp only [chkE] at h
    split at h
    · exact s_lsts (soundn is X _ hX h ok)
    · cases h
  | .call d es, X, x, hX, h, ok => by
    simp only [OKE, okE] at ok
    simp only [chkE] at h
    split at h
    · simp only [Bool.and_eq_true, decide_eq_true_eq] at h
      obtain ⟨⟨rfl, h1⟩, h2⟩ := h
      exact s_call hX h2 h1 ok.1 (sounds es X _ hX h2 ok.2)
    · cases h
  | .callk d es ks kes, X, x, hX, h, ok => by
    simp only [OKE, okE] at ok
    simp only [chkE] at h
    split at h
    · simp only [Bool.and_eq_true, decide_eq_true_eq] at h
      obtain ⟨⟨⟨rfl, h1⟩, h2⟩, h3⟩ := h
      exact s_callk hX h2 h1 h3 ok.1 (sounds es X _ hX h2 ok.2.1) (soundk kes ks X _ hX h3 ok.2.2)
    · cases h
  | .prim m p es, X, x, hX, h, ok => by
    simp only [OKE, okE] at ok
    simp only [chkE] at h
    split at h
    · simp only [Bool.and_eq_true, decide_eq_true_eq] at h
      obtain ⟨⟨rfl, h1⟩, h2⟩ := h
      have pa := sounds es X _ hX h2 ok
      cases es with
      | nil => simp [chkEs] at h2
      | cons e es =>
        simp only [chkEs, Bool.and_eq_true] at h2
        exact s_prim hX h1 h2.1 h2.2 pa
    · cases h
  | .isi k a, X, x, hX, h, ok => by
    simp only [OKE, okE] at ok
    simp only [chkE] at h
    split at h
    · simp only [Bool.and_eq_true, decide_eq_true_eq] at h
      obtain ⟨⟨⟨⟨rfl, h1⟩, rfl⟩, h2⟩, h3⟩ := h
      exact s_isi hX h1 h2 h3 (sound a X _ hX h3 ok)
    · cases h
  | .meth m o es, X, x, hX, h, ok => by
    simp only [OKE, okE] at ok
    simp only [chkE] at h
    split at h
    · simp only [Bool.and_eq_true, decide_eq_true_eq] at h
      obtain ⟨⟨⟨⟨⟨rfl, h1⟩, h2⟩, h3⟩, h4⟩, h5⟩ := h
      refine s_meth hX h1 h2 h4 ?_ (sound o X _ hX h3 ok.1) (sounds es X _ hX h4 ok.2)
      rintro a b c d rfl
      cases h5
    · cases h
  | .comp m own elt tg it cnd, X, x, hX, h, ok => by
    simp only [OKE, okE] at ok
    simp only [chkE] at h
    split at h
    · rename_i z t i ifs scope p
      simp only [Bool.and_eq_true] at h
      obtain ⟨⟨⟨⟨⟨h1, h2⟩, h3⟩, h4⟩, h5⟩, h6⟩ := h
      have bo := blkOk_by h1
      obtain ⟨q1, q2⟩ := s_comp (m := m) (p := p) hX h1 h2 h4 (soundi it X i t hX h3 ok.1) (fun s H C cl fp => soundc cnd (X.blk s H scope (compEnvC scope cl C X.env) fp) _ (hX.blk bo.kind s H C cl fp) h5 ok.2.1)
        (fun s H C cl fp => (sound elt (X.blk s H scope (compEnvC scope cl C X.env) fp) _ (hX.blk bo.kind s H C cl fp) h6 ok.2.2).pe) (src_set h3 _)
      exact ⟨q1, PT.imp (pt_val q1 fun _ => rfl) fun _ _ _ q => tT_tE q, fun _ _ _ => nofun, fun _ => q2⟩
    · cases h
  | .comp2 m own own1 elt tg it tg1 it1, X, x, hX, h, ok => by
    simp only [OKE, okE] at ok
    simp only [chkE] at h
    split at h
    · rename_i z t i t1 i1 scope p
      simp only [Bool.and_eq_true] at h
      obtain ⟨⟨⟨⟨⟨⟨⟨⟨h1, h2⟩, h3⟩, h4⟩, h5⟩, h6⟩, h7⟩, h8⟩, h9⟩ := h
      have bo := blkOk_by h1
      obtain ⟨q1, q2⟩ := s_comp2 (m := m) (p := p) hX h1 h2 h3 h4 h6 h8 (soundi it X i t hX h5 ok.1) (fun s H C cl fp => soundi it1 (X.blk s H scope (compEnvC scope cl C X.env) fp) i1 t1 (hX.blk bo.kind s H C cl fp) h7 ok.2.1)
        (fun s H C cl fp => (sound elt (X.blk s H scope (compEnvC scope cl C X.env) fp) _ (hX.blk bo.kind s H C cl fp) h9 ok.2.2).pe) (src_set h5 _) (src_set h7)
      exact ⟨q1, PT.imp (pt_val q1 fun _ => rfl) fun _ _ _ q => tT_tE q, fun _ _ _ => nofun, fun _ => q2⟩
    · cases h
theorem sounds {n lv : Nat} : ∀ (es : Es) (X : Cx) (xs : List Expr), Cok X lv bNames → chkEs X.N X.env.scope es xs = true → OKEs X n lv es → PA X xs (tEs X.K n es)
  | .nil, X, xs, hX, h, _ => by
    simp only [chkEs, List.isEmpty_iff] at h
    subst h
    exact l_nil
  | .cons e es, X, [], hX, h, _ => by simp [chkEs] at h
  | .cons e es, X, x :: xs, hX, h, ok => by
    simp only [OKEs, okEs] at ok
    simp only [chkEs, Bool.and_eq_true] at h
    exact l_cons h.1 (sound e X x hX h.1 ok.1) (sounds es X xs hX h.2 ok.2)
theorem soundk {n lv : Nat} : ∀ (es : Es) (ks : List Str) (X : Cx) (kws : List Keyword), Cok X lv bNames → chkKs X.N X.env.scope ks es kws = true → OKEs X n lv es → PK X kws (tEs X.K n es)
  | .nil, ks, X, kws, hX, h, _ => by
    simp only [chkKs, Bool.and_eq_true, List.isEmpty_iff] at h
    obtain ⟨_, rfl⟩ := h
    exact k_nil
  | .cons e es, [], X, kws, hX, h, _ => by simp [chkKs] at h
  | .cons e es, k :: ks, X, [], hX, h, _ => by simp [chkKs] at h
  | .cons e es, k :: ks, X, ⟨nm, x, kp⟩ :: kws, hX, h, ok => by
    simp only [OKEs, okEs] at ok
    simp only [chkKs, Bool.and_eq_true] at h
    exact k_cons (sound e X x hX h.1.2 ok.1) (soundk es ks X kws hX h.2 ok.2)
theorem soundn {n lv : Nat} : ∀ (is : Is) (X : Cx) (xs : List Expr), Cok X lv bNames → chkIs X.N X.env.scope is xs = true → OKIs X n lv is → PA X xs (tIs X.K n is)
  | .nil, X, xs, hX, h, _ => by
    simp only [chkIs, List.isEmpty_iff] at h
    subst h
    exact n_nil
  | .cons e is, X, [], hX, h, _ => by simp [chkIs] at h
  | .cons e is, X, x :: xs, hX, h, ok => by
    simp only [OKIs, okIs] at ok
    simp only [chkIs, Bool.and_eq_true] at h
    exact n_cons h.1 (sound e X x hX h.1 ok.1) (soundn is X xs hX h.2 ok.2)
  | .star e is, X, xs, hX, h, ok => by
    simp only [OKIs, okIs] at ok
    simp only [chkIs] at h
    split at h
    · rw [Bool.and_eq_true] at h
      exact n_star (sound e X _ hX h.1 ok.1) (soundn is X _ hX h.2 ok.2)
    · cases h
theorem soundo {n lv : Nat} : ∀ (e : Eo) (X : Cx) (x : Option Expr), Cok X lv bNames → chkEo X.N X.env.scope e x = true → OKEo X n lv e → PO X x (tEo X.K n e)
  | .none, X, x, hX, h, _ => by
    simp only [chkEo, Option.isNone_iff_eq_none] at h
    subst h
    exact o_none
  | .some e, X, none, hX, h, _ => by simp [chkEo] at h
  | .some e, X, some x, hX, h, ok => by
    simp only [OKEo, okEo] at ok
    simp only [chkEo] at h
    exact o_some (sound e X x hX h ok)
theorem soundc {n lv : Nat} : ∀ (e : Eo) (X : Cx) (x : List Expr), Cok X lv bNames → chkIf X.N X.env.scope e x = true → OKEo X n lv e → PTs X x (tC' X.K n e)
  | .none, X, x, hX, h, _ => by
    simp only [chkIf, List.isEmpty_iff] at h
    subst h
    exact c_none
  | .some e, X, [], hX, h, _ => by simp [chkIf] at h
  | .some e, X, [x], hX, h, ok => by
    simp only [OKEo, okEo] at ok
    simp only [chkIf] at h
    exact c_some (sound e X x hX h ok)
  | .some e, X, _ :: _ :: _, hX, h, _ => by simp [chkIf] at h
theorem soundi {n lv : Nat} : ∀ (it : Src) (X : Cx) (i t : Expr), Cok X lv bNames → chkIt X.N X.env.scope it i (isTup t) = true → OKIt X n lv it → PI X t i (tSrc X.K n it)
  | .of e, X, i, t, hX, h, ok => by
    simp only [OKIt, okIt] at ok
    simp only [chkIt] at h
    exact i_of (sound e X i hX h ok)
  | .range1 a, X, i, t, hX, h, ok => by
    simp only [OKIt, okIt] at ok
    simp only [chkIt] at h
    split at h
    · simp only [Bool.and_eq_true, decide_eq_true_eq] at h
      obtain ⟨⟨rfl, h1⟩, h2⟩ := h
      exact i_range1 hX h1 h2 (sound a X _ hX h2 ok)
    · cases h
  | .range2 a b, X, i, t, hX, h, ok => by
    simp only [OKIt, okIt] at ok
    simp only [chkIt] at h
    split at h
    · simp only [Bool.and_eq_true, decide_eq_true_eq] at h
      obtain ⟨⟨⟨rfl, h1⟩, h2⟩, h3⟩ := h
      exact i_range2 hX h1 h2 h3 (sound a X _ hX h2 ok.1) (sound b X _ hX h3 ok.2)
    · cases h
  | .enum a, X, i, t, hX, h, ok => by
    simp only [OKIt, okIt] at ok
    simp only [chkIt] at h
    split at h
    · simp only [Bool.and_eq_true, decide_eq_true_eq] at h
      obtain ⟨⟨⟨h0, rfl⟩, h1⟩, h2⟩ := h
      cases t with
      | Tuple es k tp => exact i_enum hX h1 h2 (sound a X _ hX h2 ok)
      | _ => cases h0
    · cases h
  | .zip a b, X, i, t, hX, h, ok => by
    simp only [OKIt, okIt] at ok
    simp only [chkIt] at h
    split at h
    · simp only [Bool.and_eq_true, decide_eq_true_eq] at h
      obtain ⟨⟨⟨⟨h0, rfl⟩, h1⟩, h2⟩, h3⟩ := h
      cases t with
      | Tuple es k tp => exact i_zip hX h1 h2 h3 (sound a X _ hX h2 ok.1) (sound b X _ hX h3 ok.2)
      | _ => cases h0
    · cases h
end
end Sn
/-! Sn, part L: statements. -/
namespace Sn
open PySem PySem.Spec PyProof.Rows L2
theorem PS.imp {X : Cx} {e : Stmt} {t t' : TS} (h : PS X e t) (i : ∀ D σ H, t' D σ H → t D σ H) : PS X e t' := ⟨fun pins s σ H D I hw => h.run pins s σ H D I (i D σ H hw)⟩
theorem PSs.imp {X : Cx} {e : List Stmt} {t t' : TS} (h : PSs X e t) (i : ∀ D σ H, t' D σ H → t D σ H) : PSs X e t' := ⟨fun pins s σ H D I hw => h.run pins s σ H D I (i D σ H hw)⟩
/-- what an outcome asks -/
def OutP (K : PySem.W.Frag) (W : Wd) (σ : L2.St) (D : Ends) : Out → Mem → Prop
  | .nx env, M => ∀ (W' : Wd) (σ' : L2.St), W'.M = M → Ext W W' → MR K W' → EnvR K W' env σ' → σ'.length = σ.length → D.nx σ' W'.H
  | .bk env, M => ∀ (W' : Wd) (σ' : L2.St), W'.M = M → Ext W W' → MR K W' → EnvR K W' env σ' → σ'.length = σ.length → D.bk σ' W'.H
  | .rt d, M => ∀ (W' : Wd) (v : L2.V), W'.M = M → Ext W W' → MR K W' → Rep K W' v d → D.rt v W'.H
theorem OutP.ext {K : PySem.W.Frag} {W W1 : Wd} {σ σ1 : L2.St} {D : Ends} {o : Out} {M : Mem} (h : OutP K W σ D o M) (x : Ext W W1) (hl : σ1.length = σ.length) : OutP K W1 σ1 D o M := by
  cases o with
  | nx env => exact fun W' σ' e x' m r l => h W' σ' e (x.trans x') m r (l.trans hl)
  | bk env => exact fun W' σ' e x' m r l => h W' σ' e (x.trans x') m r (l.trans hl)
  | rt d => exact fun W' v e x' m r => h W' v e (x.trans x') m r
def tS (K : PySem.W.Frag) (n : Nat) (s : S) : TS := fun D σ H => ∃ env W, W.H = H ∧ EnvR K W env σ ∧ MR K W ∧ After (evS n s env W.M) (OutP K W σ D)
def tSs (K : PySem.W.Frag) (n : Nat) (s : Ss) : TS := fun D σ H => ∃ env W, W.H = H ∧ EnvR K W env σ ∧ MR K W ∧ After (evSs n s env W.M) (OutP K W σ D)
abbrev OKS (X : Cx) (n lv : Nat) (e : S) : Prop := okS (KnD X.prog X.w X.K X.mg X.base n lv) (KnK X.prog X.w X.K X.mg X.base n lv) (GI X) e
abbrev OKSs (X : Cx) (n lv : Nat) (e : Ss) : Prop := okSs (KnD X.prog X.w X.K X.mg X.base n lv) (KnK X.prog X.w X.K X.mg X.base n lv) (GI X) e
section
variable {X : Cx} {lv n : Nat}

/-! ### stores -/
theorem swap_key (c1 c2 c3 c4 c5 : Bool) (nms : List Str) (u : Sem (Option (List Str))) (r : Option (List Str)) (h : (bif c1 then some none else bif c2 then some none else bif c3 then some none else bif c4 then some none else bif c5 then none else some (some nms)) = some r) :
    (if c1 = true then (pure none : Sem (Option (List Str))) else if c2 = true then pure none else if c3 = true then pure none else if c4 = true then pure none else if c5 = true then u else pure (some nms)) = pure r := by
  cases c1 <;> cases c2 <;> cases c3 <;> cases c4 <;> cases c5 <;> simp_all
theorem swap_of {ts vs : List Expr} {k k2 : Nat} {p p2 : Pos} {env : PySem.Env} (hk : env.scope.kind = .function) {r : Option (List Str)} (h : swapN env.scope ts vs = some r) : swappedStores [.Tuple ts k p] (.Tuple vs k2 p2) env = pure r := by
  have hb : env.blockKind = .function := by unfold Env.blockKind; rw [hk]; rfl
  unfold swappedStores
  simp only [hb, bne_self_eq_false, Bool.or_false]
  exact swap_key _ _ _ _ _ _ _ r h
theorem swap_len {sc : Scope} {ts vs : List Expr} {nms : List Str} (h : swapN sc ts vs = some (some nms)) : (ts.length = 2 ∨ ts.length = 3) ∧ vs.length = ts.length := by
  unfold swapN at h
  cases c1 : (!(ts.length == 2 || ts.length == 3) || vs.length != ts.length)
  · have h' : (¬ts.length = 2 → ts.length = 3) ∧ vs.length = ts.length := by simpa using c1
    exact ⟨by omega, h'.2⟩
  · rw [c1] at h
    cases h
theorem lc_swap {x : Expr} {y : Str} {py : Pos} {l : Nat} {env : PySem.Env} (h : isLC x = true) :
    (swapsWith x (some (.Name y py)) l env = pure true ∧ env.scope.names.lookup y = some .local) ∨ swapsWith x (some (.Name y py)) l env = pure false := by
  cases x with
  | ListComp elt gs scope pos =>
    have e : swapsWith (.ListComp elt gs scope pos) (some (.Name y py)) l env = pure (env.blockKind == .function && env.kindOf y == some .local && py.line == pos.line && !(scope.names.any fun (n, k) => n == y && (k == .local || k == .cell))) := rfl
    rw [e]
    cases q : (env.blockKind == .function && env.kindOf y == some .local && py.line == pos.line && !(scope.names.any fun (n, k) => n == y && (k == .local || k == .cell)))
    · exact .inr rfl
    · refine .inl ⟨rfl, ?_⟩
      simp only [Bool.and_eq_true] at q
      have := q.1.1.2
      have h2 : env.kindOf y = some .local := by simpa using this
      exact h2
  | _ => cases h
theorem not_lc {x : Expr} (h : isLC x = false) {N : List Str} {sc : Scope} {e : E} (hc : chkE N sc e x = true) (t : Option Expr) (l : Nat) (env : PySem.Env) : swapsWith x t l env = pure false := by
  cases x <;> first | rfl | (cases h; done) | (cases e <;> simp [chkE] at hc)
theorem stOk_def (hf : ∀ x, X.fn x = true) : StOk X (locB X.env.scope) := fun x e => ⟨loc_of e, .inl (hf x)⟩
theorem asg_imp {t : Tg} {e : E} (D : Ends) (σ : L2.St) (H : Hp) (h : tS X.K n (.asg t e) D σ H) : tAsg (tE X.K n e) (gT X.K t) D σ H := by
  obtain ⟨env, W, eH, hE, hM, h⟩ := h
  simp only [evS] at h
  refine ⟨env, W, eH, hE, hM, h.bind.mono fun d M1 h1 => ?_⟩
  rintro W1 v rfl x1 m1 r1
  obtain ⟨env', ep, q⟩ := After.ofO (After.bind h1)
  exact ⟨env, W1, d, env', rfl, hE.le x1.le, m1, r1, ep, fun σ' hE' off => q W1 σ' rfl x1 m1 hE' off.1⟩
theorem asg_imp1 {i : Nat} {e : E} (D : Ends) (σ : L2.St) (H : Hp) (h : tS X.K n (.asg (.nm i) e) D σ H) : tAsg (tE X.K n e) (gName i) D σ H := by
  obtain ⟨env, W, eH, hE, hM, h⟩ := h
  simp only [evS] at h
  refine ⟨env, W, eH, hE, hM, h.bind.mono fun d M1 h1 => ?_⟩
  rintro W1 v rfl x1 m1 r1
  obtain ⟨env', ep, q⟩ := After.ofO (After.bind h1)
  simp only [Tg.put] at ep
  split at ep
  · cases ep
    exact q W1 _ rfl x1 m1 ((hE.le x1.le).set r1 i) (List.length_set)
  · cases ep
theorem par_go {K : PySem.W.Frag} {ts : List Tg} {es : Es} {D : Ends} {σ : L2.St} {H : Hp} (h : tS K n (.asg (.tp ts) (.tup es)) D σ H) :
    tEs K n es σ H fun vs H1 => ∃ env W ds env' W1, W1.H = H1 ∧ EnvR K W1 env σ ∧ MR K W1 ∧ Ext W W1 ∧ Reps K W1 vs ds ∧ tgPuts ts ds env = some env' ∧ OutP K W σ D (.nx env') W1.M := by
  obtain ⟨env, W, eH, hE, hM, h⟩ := h
  simp only [evS, evE] at h
  refine ⟨env, W, eH, hE, hM, h.bind.bind.mono fun ds M1 h1 => ?_⟩
  rintro W1 vs rfl x1 m1 r1
  unfold newT at h1
  split at h1
  · obtain ⟨env', ep, q⟩ := After.ofO (After.bind h1)
    simp only [Tg.put] at ep
    exact ⟨env, W, ds, env', W1, rfl, hE.le x1.le, m1, x1, r1, ep, q⟩
  · exact h1.elim
theorem put_nm {i : Nat} {d : D} {env env' : Slots} (h : Tg.put (.nm i) d env = some env') : env' = env.set i (some d) := by
  simp only [Tg.put] at h
  split at h
  · cases h; rfl
  · cases h
theorem st_asg (hX : Cok X lv bNames) (hf : ∀ x, X.fn x = true) {t : Tg} {e : E} {tg x : Expr} {p : Pos} (h1 : chkTg X.N (locB X.env.scope) t tg = true) (h2 : chkE X.N X.env.scope e x = true) (h3 : asgB X.env.scope tg x = true) (ok : OKE X n lv e) :
    PS X (.Assign [tg] x p) (tS X.K n (.asg t e)) := by
  have sd := sound e X x hX h2 ok
  have gt := tg_ok hX.calm hX.nd (stOk_def hf) t tg h1
  cases tg with
  | Name y py =>
    cases t with
    | tp ts => simp [chkTg] at h1
    | nm i =>
      have plain : swapsWithSole [.Name y py] x p.line X.env = pure false → PS X (.Assign [.Name y py] x p) (tS X.K n (.asg (.nm i) e)) := fun hs => PS.imp (ps_asg sd.pe gt hs rfl rfl) asg_imp
      cases hl : isLC x with
      | false => exact plain (show swapsWithSole _ _ _ _ = _ from not_lc hl h2 (some (.Name y py)) p.line X.env)
      | true =>
        rcases lc_swap (x := x) (y := y) (py := py) (l := p.line) (env := X.env) hl with ⟨a, b⟩ | a
        · simp only [chkTg, Bool.and_eq_true, decide_eq_true_eq] at h1
          exact PS.imp (sd.lc hl i y py p h1.1 b a) asg_imp1
        · exact plain a
  | Tuple ts k tp =>
    cases t with
    | nm i => simp [chkTg] at h1
    | tp tgs =>
      have hs : swapsWithSole [.Tuple ts k tp] x p.line X.env = pure false := by cases x <;> first | rfl | (cases e <;> simp [chkE] at h2)
      have plain : swappedStores [.Tuple ts k tp] x X.env = pure none → PS X (.Assign [.Tuple ts k tp] x p) (tS X.K n (.asg (.tp tgs) e)) := fun hw => PS.imp (ps_asg sd.pe gt hs hw rfl) asg_imp
      cases x with
      | Tuple vs k2 p2 =>
        simp only [asgB] at h3
        split at h3
        · rename_i hsw
          exact plain (swap_of hX.kd hsw)
        · rename_i nms hsw
          simp only [Bool.and_eq_true, decide_eq_true_eq, List.all_eq_true] at h3
          obtain ⟨⟨⟨h4, h5⟩, h6⟩, h7⟩ := h3
          obtain ⟨hl, hl2⟩ := swap_len hsw
          have hw := swap_of (k := k) (k2 := k2) (p := tp) (p2 := p2) hX.kd hsw
          cases e with
          | tup es =>
            simp only [chkE] at h2
            have pa := sounds es X vs hX h2 (by simpa [OKE, okE] using ok)
            subst h5
            have lc : ∀ z ∈ ts, X.env.scope.names.lookup (nmOf z) = some .local := fun z hz => by simpa using h6 z hz
            simp only [chkTg] at h1
            rcases hl with hl | hl
            · obtain ⟨t1, t2, rfl⟩ : ∃ a b, ts = [a, b] := by
                match ts, hl with
                | [a, b], _ => exact ⟨a, b, rfl⟩
              obtain ⟨v1, v2, rfl⟩ : ∃ a b, vs = [a, b] := by
                match vs, hl2 with
                | [a, b], _ => exact ⟨a, b, rfl⟩
              have i1 := h4 t1 (by simp)
              have i2 := h4 t2 (by simp)
              have l1 := lc t1 (by simp)
              have l2 := lc t2 (by simp)
              cases t1 <;> first | (cases i1; done) | skip
              cases t2 <;> first | (cases i2; done) | skip
              match tgs, h1 with
              | [], h1 => simp [chkTgs] at h1
              | [_], h1 => simp [chkTgs] at h1
              | _ :: _ :: _ :: _, h1 => simp [chkTgs] at h1
              | [.tp _, _], h1 => simp [chkTgs, chkTg] at h1
              | [.nm _, .tp _], h1 => simp [chkTgs, chkTg] at h1
              | [.nm i, .nm j], h1 =>
                simp only [chkTgs, chkTg, Bool.and_eq_true, decide_eq_true_eq] at h1
                have hij : i ≠ j := by
                  rintro rfl
                  have e1 := h1.1.1
                  rw [h1.2.1.1] at e1
                  simp only [List.map, nmOf, List.nodup_cons, List.mem_singleton] at h7
                  exact h7.1 (Option.some.inj e1).symm
                refine PS.imp (ps_par hX.calm hX.nd h1.1.1 h1.2.1.1 hij l1 l2 pa hw hs) fun D σ H h => ?_
                obtain ⟨env, W, eH, hE, hM, h⟩ := par_go h
                refine ⟨env, W, eH, hE, hM, h.mono fun ds M h => ?_⟩
                rintro W' vs eM x' m' rs
                obtain ⟨env0, W0, ds, env', W1, e1, hE1, m1, x1, rs, ep, q⟩ := h W' vs eM x' m' rs
                match ds, rs, ep with
                | [], rs, ep => simp [tgPuts] at ep
                | [_], rs, ep => simp only [tgPuts] at ep; split at ep <;> simp at ep
                | d1 :: d2 :: r, rs, ep =>
                  cases rs with
                  | cons r1 rs => cases rs with
                    | cons r2 rs =>
                      simp only [tgPuts] at ep
                      split at ep
                      · rename_i e3
                        split at ep
                        · rename_i e4
                          cases r with
                          | nil =>
                            cases rs
                            cases ep
                            refine ⟨_, _, rfl, ?_⟩
                            rw [← e1]
                            refine q W1 _ rfl x1 m1 ?_ (by simp)
                            rw [put_nm e4, put_nm e3]
                            exact (hE1.set r1 i).set r2 j
                          | cons _ _ => simp [tgPuts] at ep
                        · cases ep
                      · cases ep
            · obtain ⟨t1, t2, t3, rfl⟩ : ∃ a b c, ts = [a, b, c] := by
                match ts, hl with
                | [a, b, c], _ => exact ⟨a, b, c, rfl⟩
              obtain ⟨v1, v2, v3, rfl⟩ : ∃ a b c, vs = [a, b, c] := by
                match vs, hl2 with
                | [a, b, c], _ => exact ⟨a, b, c, rfl⟩
              have i1 := h4 t1 (by simp)
              have i2 := h4 t2 (by simp)
              have i3 := h4 t3 (by simp)
              have l1 := lc t1 (by simp)
              have l2 := lc t2 (by simp)
              have l3 := lc t3 (by simp)
              cases t1 <;> first | (cases i1; done) | skip
              cases t2 <;> first | (cases i2; done) | skip
              cases t3 <;> first | (cases i3; done) | skip
              match tgs, h1 with
              | [], h1 => simp [chkTgs] at h1
              | [_], h1 => simp [chkTgs] at h1
              | [_, _], h1 => simp [chkTgs] at h1
              | _ :: _ :: _ :: _ :: _, h1 => simp [chkTgs] at h1
              | [.tp _, _, _], h1 => simp [chkTgs, chkTg] at h1
              | [.nm _, .tp _, _], h1 => simp [chkTgs, chkTg] at h1
              | [.nm _, .nm _, .tp _], h1 => simp [chkTgs, chkTg] at h1
              | [.nm i, .nm j, .nm l], h1 =>
                simp only [chkTgs, chkTg, Bool.and_eq_true, decide_eq_true_eq] at h1
                simp only [List.map, nmOf, List.nodup_cons, List.mem_singleton, List.mem_cons, not_or] at h7
                have ne : ∀ {a b : Nat} {u v : Str}, X.N[a]? = some u → X.N[b]? = some v → u ≠ v → a ≠ b := fun {a b u v} e1 e2 hn e => by
                  rw [e, e2] at e1
                  exact hn (Option.some.inj e1).symm
                refine PS.imp (ps_par3 hX.calm hX.nd h1.1.1 h1.2.1.1 h1.2.2.1.1 (ne h1.1.1 h1.2.1.1 h7.1.1) (ne h1.1.1 h1.2.2.1.1 h7.1.2.1) (ne h1.2.1.1 h1.2.2.1.1 h7.2.1.1) l1 l2 l3 pa hw hs) fun D σ H h => ?_
                obtain ⟨env, W, eH, hE, hM, h⟩ := par_go h
                refine ⟨env, W, eH, hE, hM, h.mono fun ds M h => ?_⟩
                rintro W' vs eM x' m' rs
                obtain ⟨env0, W0, ds, env', W1, e1, hE1, m1, x1, rs, ep, q⟩ := h W' vs eM x' m' rs
                match ds, rs, ep with
                | [], rs, ep => simp [tgPuts] at ep
                | [_], rs, ep => simp only [tgPuts] at ep; split at ep <;> simp at ep
                | [_, _], rs, ep =>
                  simp only [tgPuts] at ep
                  split at ep
                  · split at ep <;> simp at ep
                  · cases ep
                | d1 :: d2 :: d3 :: r, rs, ep =>
                  cases rs with
                  | cons r1 rs => cases rs with
                    | cons r2 rs => cases rs with
                      | cons r3 rs =>
                        simp only [tgPuts] at ep
                        split at ep
                        · rename_i e3
                          split at ep
                          · rename_i e4
                            split at ep
                            · rename_i e5
                              cases r with
                              | nil =>
                                cases rs
                                cases ep
                                refine ⟨_, _, _, rfl, ?_⟩
                                rw [← e1]
                                refine q W1 _ rfl x1 m1 ?_ (by simp)
                                rw [put_nm e5, put_nm e4, put_nm e3]
                                exact ((hE1.set r1 i).set r2 j).set r3 l
                              | cons _ _ => simp [tgPuts] at ep
                            · cases ep
                          · cases ep
                        · cases ep
          | tups is =>
            simp only [chkE, Bool.and_eq_true] at h2
            rw [swapN_star h2.2] at hsw
            cases hsw
          | _ => simp [chkE] at h2
        · cases h3
      | _ => exact plain rfl
  | _ => cases t <;> simp [chkTg] at h1
end
end Sn
/-! Sn, part M: statements, all of them. -/
namespace Sn
open PySem PySem.Spec PyProof.Rows L2
def rAug (K : PySem.W.Frag) (op : Bop) : R2 := fun v u H Q => ∃ x y W, W.H = H ∧ MR K W ∧ Rep K W v x ∧ Rep K W u y ∧ match x, y with
  | .int a, .int b => Go K W (binop false op (.int a) (.int b) W.M) Q
  | .ref k, y => match op, Mem.cont W.M k, itemsC W.M y with
    | .add, some xs, some ys => xs.length + ys.length ≤ sizeLine ∧ Go K W (.ok (.ref k) (W.M.set k (some (xs ++ ys)))) Q
    | _, _, _ => False
  | _, _ => False
section
variable {X : Cx} {lv n : Nat}
theorem op_aug {op : Bop} (ha : op.augs = true) : OpR X (inplaceOp op.py) (rAug X.K op) := by
  intro pins s σ H v u vv uu Q I rv ru h
  obtain ⟨x, y, W, rfl, hM, rx, ry, h⟩ := h
  split at h
  · rename_i i j
    cases rx.int'
    cases ry.int'
    obtain ⟨t, rfl⟩ := rv
    obtain ⟨t', rfl⟩ := ru
    cases op with
    | add => exact iadd_int ⟨.int _, W.H, I.tok _, ⟨_, rfl⟩, Go.ok hM (.int _) h⟩
    | sub =>
      have h : Go X.K W (Sn.guard true (.ok (.int (i - j)) W.M)) Q := h
      obtain ⟨g, h⟩ := After.guard h
      exact isub_int ⟨.int _, W.H, I.tok _, ⟨_, rfl⟩, Go.ok hM (.int _) h⟩
    | mul =>
      have h : Go X.K W (Sn.guard (mulOk i j) (.ok (.int (i * j)) W.M)) Q := h
      obtain ⟨g, h⟩ := After.guard h
      exact imul_int ⟨.int _, W.H, I.tok _, ⟨_, rfl⟩, Go.ok hM (.int _) h⟩ (mulOk_of g).ok
    | fdiv =>
      have h : Go X.K W (Sn.guard (divOk j) (.ok (.int (i.fdiv j)) W.M)) Q := h
      obtain ⟨g, h⟩ := After.guard h
      unfold divOk at g
      simp only [Bool.and_eq_true, decide_eq_true_eq] at g
      exact ifloordiv_int g.1 ⟨.int _, W.H, I.tok _, ⟨_, rfl⟩, Go.ok hM (.int _) h⟩ (.inl (PyProof.noPylong_of_log2 g.2))
    | mod => cases ha
    | pow => cases ha
  · rename_i k _
    split at h
    · rename_i xs ys e1 e2
      obtain ⟨hz, h⟩ := h
      obtain ⟨a, vs, rfl, q, f1, r1⟩ := rx.mutL hM e1
      obtain ⟨b, us, rfl, f2, r2⟩ := ry.itemsC hM e2
      exact iop_ext pins s σ W.H _ _ vv uu Q I rv ru ⟨a, b, vs, us, rfl, rfl, f1, f2, by rw [r1.length, r2.length]; exact hz, Go.set hM e1 q (r1.append r2) rx h⟩
    · exact h.elim
  · exact h.elim
theorem st_aug (hX : Cok X lv bNames) (hf : ∀ x, X.fn x = true) {i : Nat} {op : Bop} {e : E} {y : Str} {x : Expr} {p py : Pos} (h1 : X.N[i]? = some y) (h2 : locB X.env.scope y = true) (h3 : op.augs = true) (sd : Sd X n e x) :
    PS X (.AugAssign (.Name y py) op.py x p) (tS X.K n (.aug i op e)) := by
  refine PS.imp (ps_aug hX.nd h1 (loc_of h2) sd.pe (op_aug h3) (.inl (hf y))) fun D σ H ⟨env, W, eH, hE, hM, h⟩ => ?_
  simp only [evS] at h
  obtain ⟨d, e1, h⟩ := After.ofO h.bind
  cases e2 : env[i]? with
  | none => rw [e2] at e1; cases e1
  | some o =>
    rw [e2] at e1
    have e1 : o = some d := e1
    subst e1
    obtain ⟨v, e3, r⟩ := hE.at_ i d e2
    refine ⟨v, e3, env, W, eH, hE, hM, h.bind.mono fun y M1 h1 => ?_⟩
    rintro W1 u rfl x1 m1 r1
    refine ⟨d, y, W1, rfl, m1, r.le x1.le, r1, ?_⟩
    split at h1
    · refine After.mono h1.bind fun z M2 q W2 w e2 x2 m2 r2 => ?_
      exact q W2 _ e2 (x1.trans x2) m2 ((hE.le (x1.trans x2).le).set r2 i) (List.length_set)
    · rename_i k

      cases hop : op with
      | add =>
        rw [hop] at h1
        cases hxs : Mem.cont W1.M k with
        | none => rw [hxs] at h1; exact h1.elim
        | some xs =>
          rw [hxs] at h1
          cases hys : itemsC W1.M y with
          | none => rw [hys] at h1; exact h1.elim
          | some ys =>
            rw [hys] at h1
            dsimp only at h1
            obtain ⟨g, q⟩ := After.guard h1
            try dsimp only
            try rw [hxs]
            try rw [hys]
            try dsimp only
            refine ⟨decide_eq_true_eq.mp g, fun W2 w e2' x2 m2 r2 => ?_⟩
            have hE2 := hE.le (x1.trans x2).le
            refine q W2 _ e2' (x1.trans x2) m2 ?_ (List.length_set)
            have e4 : env = env.set i (some (.ref k)) := by
              apply List.ext_getElem?
              intro j
              by_cases hj : i = j
              · subst hj
                rw [List.getElem?_set_self (by
                  rcases Nat.lt_or_ge i env.length with z | z
                  · exact z
                  · rw [List.getElem?_eq_none z] at e2; cases e2)]
                exact e2
              · rw [List.getElem?_set_ne hj]
            rw [e4]
            exact hE2.set r2 i
      | _ => rw [hop] at h1; exact h1.elim
    · exact h1.elim
theorem st_setix (hX : Cok X lv bNames) {o i e : E} {x y z : Expr} {p p2 : Pos} (hz : chkE X.N X.env.scope e z = true) (so : Sd X n o x) (si : Sd X n i y) (se : Sd X n e z) (hy : chkE X.N X.env.scope i y = true) :
    PS X (.Assign [.Subscript x y p2] z p) (tS X.K n (.setix o i e)) := by
  have hs : swapsWithSole [.Subscript x y p2] z p.line X.env = pure false := by cases z <;> first | rfl | (cases e <;> simp [chkE] at hz)
  have ha : ∀ v, assign (.Subscript x y p2) X.env v = (do
      let ov ← holding [v] (eval x X.env)
      let iv ← holding [v, ov] (eval y X.env)
      standAt p2
      holding [v, ov, iv] (setItem ov iv v)
      release [v, ov, iv] []) := by
    intro v
    cases y <;> first | rfl | (cases i <;> simp [chkE] at hy)
  refine PS.imp (ps_asg se.pe (pg_sub so.pe si.pe set_D ha) hs (by cases z <;> rfl) rfl) fun D σ H ⟨env, W, eH, hE, hM, h⟩ => ?_
  simp only [evS] at h
  refine ⟨env, W, eH, hE, hM, h.bind.mono fun d M1 h1 => ?_⟩
  rintro W1 v rfl x1 m1 r1
  refine ⟨env, W1, rfl, hE.le x1.le, m1, h1.bind.mono fun c M2 h2 => ?_⟩
  rintro W2 ov rfl x2 m2 r2
  refine ⟨env, W2, rfl, hE.le (x1.le.trans x2.le), m2, h2.bind.mono fun k M3 h3 => ?_⟩
  rintro W3 iv rfl x3 m3 r3
  cases k with
  | int j =>
    dsimp only at h3
    split at h3
    · rename_i M4 e4
      exact ⟨c, j, d, W3, M4, rfl, m3, r2.le x3.le, r3.int', r1.le (x2.le.trans x3.le), e4, fun W4 e5 x4 m4 => h3 W4 σ e5 (x1.trans (x2.trans (x3.trans x4))) m4 (hE.le (x1.le.trans (x2.le.trans (x3.le.trans x4.le)))) rfl⟩
    · exact h3.elim
  | _ => exact h3.elim
theorem st_if {c : E} {a b : Ss} {x : Expr} {y z : List Stmt} {p : Pos} (sc : Sd X n c x) (sa : PSs X y (tSs X.K n a)) (sb : PSs X z (tSs X.K n b)) : PS X (.If x y z p) (tS X.K n (.ite c a b)) := by
  refine PS.imp (ps_if sc.pt sa sb) fun D σ H ⟨env, W, eH, hE, hM, h⟩ => ?_
  simp only [evS] at h
  refine ⟨env, W, eH, hE, hM, h.bind.mono fun d M1 h1 => ?_⟩
  cases d with
  | bl k =>
    refine ⟨k, rfl, ?_⟩
    rintro W1 rfl x1 m1
    cases k with
    | true => exact ⟨env, W1, rfl, hE.le x1.le, m1, After.mono h1 fun o M q => q.ext x1 rfl⟩
    | false => exact ⟨env, W1, rfl, hE.le x1.le, m1, After.mono h1 fun o M q => q.ext x1 rfl⟩
  | _ => exact h1.elim
theorem st_whl (hX : Cok X lv bNames) {c : E} {b : Ss} {x : Expr} {y : List Stmt} {p : Pos} (sc : Sd X n c x) (sb : PSs X y (tSs X.K n b)) : PS X (.While x y [] p) (tS X.K n (.whl c b)) := by
  refine PS.imp (ps_while hX.po sc.pt sb) fun D σ H ⟨env, W, eH, hE, hM, h⟩ => ?_
  simp only [evS] at h
  refine ⟨fun m σ1 H1 => ∃ env1 W1, W1.H = H1 ∧ EnvR X.K W1 env1 σ1 ∧ MR X.K W1 ∧ Ext W W1 ∧ σ1.length = σ.length ∧ After (whileL (evE n c) (evSs n b) m env1 W1.M) (OutP X.K W σ D), ⟨n, env, W, eH, hE, hM, .refl W, rfl, h⟩, ?_⟩
  rintro m σ1 _ ⟨env1, W1, rfl, hE1, m1, x1, l1, h1⟩
  cases m with
  | zero => exact h1.elim
  | succ m =>
    unfold whileL at h1
    refine ⟨env1, W1, rfl, hE1, m1, ?_⟩
    cases q : evE n c env1 W1.M with
    | no => rw [q] at h1; exact h1.elim
    | ok d M2 =>
      rw [q] at h1
      cases d with
      | bl k =>
        refine ⟨k, rfl, ?_⟩
        rintro W2 rfl x2 m2
        cases k with
        | false =>
          rw [if_neg Bool.false_ne_true]
          exact h1 W2 σ1 rfl (x1.trans x2) m2 (hE1.le x2.le) l1
        | true =>
          rw [if_pos rfl]
          dsimp only at h1
          refine ⟨fun σ3 H3 => ∃ env1 W1, W1.H = H3 ∧ EnvR X.K W1 env1 σ3 ∧ MR X.K W1 ∧ Ext W W1 ∧ σ3.length = σ.length ∧ After (whileL (evE n c) (evSs n b) m env1 W1.M) (OutP X.K W σ D), fun σ3 H3 g => ⟨m, Nat.lt_succ_self m, g⟩, env1, W2, rfl, hE1.le x2.le, m2, ?_⟩
          cases q2 : evSs n b env1 W2.M with
          | no => rw [q2] at h1; exact h1.elim
          | ok o M3 =>
            rw [q2] at h1
            cases o with
            | nx env3 =>
              intro W3 σ3 e3 x3 m3 hE3 l3
              subst e3
              exact ⟨env3, W3, rfl, hE3, m3, x1.trans (x2.trans x3), l3.trans l1, h1⟩
            | bk env3 => exact fun W3 σ3 e3 x3 m3 hE3 l3 => h1 W3 σ3 e3 (x1.trans (x2.trans x3)) m3 hE3 (l3.trans l1)
            | rt d => exact fun W3 v e3 x3 m3 r3 => h1 W3 v e3 (x1.trans (x2.trans x3)) m3 r3
      | _ => exact h1.elim
open Classical in
theorem st_for (hX : Cok X lv bNames) (hf : ∀ x, X.fn x = true) {t : Tg} {it : Src} {b : Ss} {tg i : Expr} {y : List Stmt} {p : Pos} (ht : chkTg X.N (locB X.env.scope) t tg = true) (hi : chkIt X.N X.env.scope it i (isTup tg) = true) (si : PI X tg i (tSrc X.K n it)) (sb : PSs X y (tSs X.K n b)) :
    PS X (.For tg i y [] p) (tS X.K n (.for t it b)) := by
  have gt := tg_ok hX.calm hX.nd (stOk_def hf) t tg ht
  refine PS.imp (ps_for hX.po hX.calm si gt sb (src_set hi X.env)) fun D σ H ⟨env, W, eH, hE, hM, h⟩ => ?_
  simp only [evS] at h
  refine ⟨env, W, eH, hE, hM, h.bind.mono fun w M1 h1 => ?_⟩
  rintro W1 J rfl x1 m1 hJ
  revert h1
  generalize eB : (fun x env2 M2 => (ofO (t.put x env2) M2).bind fun env3 M3 => evSs n b env3 M3) = body
  intro h1
  refine ⟨fun i m σ1 H1 => m = w.items.length - i ∧ i ≤ w.items.length ∧ ∃ env1 V, V.H = H1 ∧ EnvR X.K V env1 σ1 ∧ MR X.K V ∧ Ext W1 V ∧ stays w.refs W1.M V.M ∧ σ1.length = σ.length ∧ After (forL w.refs W1.M body (w.items.drop i) env1 V.M) (OutP X.K W σ D),
    ⟨_, rfl, Nat.zero_le _, env, W1, rfl, hE.le x1.le, m1, .refl _, fun _ _ => rfl, rfl, h1⟩, ?_⟩
  rintro i m σ1 _ ⟨rfl, hil, env1, V, rfl, hE1, mV, xV, hst, l1, g⟩
  obtain ⟨j1, j2⟩ := hJ V xV.le mV hst i hil
  by_cases hlt : i < w.items.length
  · obtain ⟨go, yl⟩ := j1 w.items[i] (List.getElem?_eq_getElem hlt)
    refine .inr ⟨go, fun σ' H' => i + 1 ≤ w.items.length ∧ ∃ env1 V, V.H = H' ∧ EnvR X.K V env1 σ' ∧ MR X.K V ∧ Ext W1 V ∧ stays w.refs W1.M V.M ∧ σ'.length = σ.length ∧ After (forL w.refs W1.M body (w.items.drop (i + 1)) env1 V.M) (OutP X.K W σ D),
      fun σ' H' hn => ⟨_, by omega, rfl, hn.1, hn.2⟩, fun v H' hy => ?_⟩
    obtain ⟨V1, rfl, eM, x2, m2, rv⟩ := yl v H' hy
    rw [drop_cons hlt] at g
    unfold forL at g
    rw [← eB] at g
    dsimp only at g
    rw [eB] at g
    cases ep : t.put w.items[i] env1 with
    | none => rw [ep] at g; exact g.elim
    | some env2 =>
      rw [ep] at g
      have g : After (match evSs n b env2 V.M with
        | .ok (.nx env') M' => if stays w.refs W1.M M' then forL w.refs W1.M body (w.items.drop (i + 1)) env' M' else .no
        | .ok (.bk env') M' => .ok (.nx env') M'
        | r => r) (OutP X.K W σ D) := g
      refine ⟨env1, V1, _, env2, rfl, hE1.le x2.le, m2, rv, ep, fun σ2 hE2 off => ⟨env2, V1, rfl, hE2, m2, ?_⟩⟩
      rw [eM]
      cases q : evSs n b env2 V.M with
      | no => rw [q] at g; exact g.elim
      | ok o M3 =>
        rw [q] at g
        cases o with
        | nx env3 =>
          dsimp only at g
          by_cases st : stays w.refs W1.M M3
          · rw [if_pos st] at g
            intro W3 σ3 e3 x3 m3 hE3 l3
            subst e3
            exact ⟨hlt, env3, W3, rfl, hE3, m3, xV.trans (x2.trans x3), st, l3.trans (off.1.trans l1), g⟩
          · rw [if_neg st] at g; exact g.elim
        | bk env3 => exact fun W3 σ3 e3 x3 m3 hE3 l3 => g W3 σ3 e3 (x1.trans (xV.trans (x2.trans x3))) m3 hE3 (l3.trans (off.1.trans l1))
        | rt d => exact fun W3 v e3 x3 m3 r3 => g W3 v e3 (x1.trans (xV.trans (x2.trans x3))) m3 r3
  · have ei : w.items.length = i := by omega
    refine .inl ⟨j2 ei, ?_⟩
    rw [List.drop_eq_nil_of_le (by omega)] at g
    unfold forL at g
    exact g V σ1 rfl (x1.trans xV) mV hE1 l1
theorem st_ret {e : E} {x : Expr} {p : Pos} (sd : Sd X n e x) : PS X (.Return (some x) p) (tS X.K n (.ret e)) := by
  refine PS.imp (ps_ret sd.pe) fun D σ H ⟨env, W, eH, hE, hM, h⟩ => ?_
  simp only [evS] at h
  refine ⟨env, W, eH, hE, hM, h.bind.mono fun d M1 h1 => ?_⟩
  rintro W1 v rfl x1 m1 r1
  exact h1 W1 v rfl x1 m1 r1
theorem st_retn {p : Pos} : PS X (.Return none p) (tS X.K n .retn) := by
  refine PS.imp ps_retN fun D σ H ⟨env, W, eH, hE, hM, h⟩ => ?_
  simp only [evS] at h
  subst eH
  exact h W _ rfl (.refl W) hM .non
theorem st_expr {e : E} {x : Expr} {p : Pos} (h2 : chkE X.N X.env.scope e x = true) (hl : isLC x = false) (sd : Sd X n e x) : PS X (.Expr x p) (tS X.K n (.expr e)) := by
  refine PS.imp (ps_expr sd.pe (not_lc hl h2 none p.line X.env)) fun D σ H ⟨env, W, eH, hE, hM, h⟩ => ?_
  simp only [evS] at h
  refine ⟨env, W, eH, hE, hM, h.bind.mono fun d M1 h1 => ?_⟩
  rintro W1 v rfl x1 m1 r1
  exact h1 W1 σ rfl x1 m1 (hE.le x1.le) rfl
theorem st_pass {p : Pos} : PS X (.Pass p) (tS X.K n .pass) := by
  refine PS.imp ps_pass fun D σ H ⟨env, W, eH, hE, hM, h⟩ => ?_
  simp only [evS] at h
  subst eH
  exact h W _ rfl (.refl W) hM hE rfl
theorem st_brk {p : Pos} : PS X (.Break p) (tS X.K n .brk) := by
  refine PS.imp ps_break fun D σ H ⟨env, W, eH, hE, hM, h⟩ => ?_
  simp only [evS] at h
  subst eH
  exact h W _ rfl (.refl W) hM hE rfl
theorem st_never {st : Stmt} : PS X st (tS X.K n .never) := PS.imp ps_never fun D σ H ⟨env, W, eH, hE, hM, h⟩ => by
  simp only [evS] at h
  exact h
theorem sts_nil : PSs X [] (tSs X.K n .nil) := by
  refine PSs.imp pss_nil fun D σ H ⟨env, W, eH, hE, hM, h⟩ => ?_
  simp only [evSs] at h
  subst eH
  exact h W _ rfl (.refl W) hM hE rfl
theorem sts_cons {s : S} {ss : Ss} {x : Stmt} {xs : List Stmt} (h1 : PS X x (tS X.K n s)) (h2 : PSs X xs (tSs X.K n ss)) : PSs X (x :: xs) (tSs X.K n (.cons s ss)) := by
  refine PSs.imp (pss_cons h1 h2) fun D σ H ⟨env, W, eH, hE, hM, h⟩ => ?_
  simp only [evSs] at h
  refine ⟨env, W, eH, hE, hM, ?_⟩
  cases q : evS n s env W.M with
  | no => rw [q] at h; exact h.elim
  | ok o M1 =>
    rw [q] at h
    cases o with
    | nx env1 =>
      intro W1 σ1 e1 x1 m1 hE1 l1
      subst e1
      exact ⟨env1, W1, rfl, hE1, m1, After.mono h fun o M q => q.ext x1 l1⟩
    | bk env1 => exact h
    | rt d => exact h

mutual
theorem soundS {n lv : Nat} {X : Cx} (hX : Cok X lv bNames) (hf : ∀ x, X.fn x = true) : ∀ (s : S) (st : Stmt), chkS X.N X.env.scope s st = true → OKS X n lv s → PS X st (tS X.K n s)
  | .asg t e, st, h, ok => by
    simp only [chkS] at h
    split at h
    · simp only [Bool.and_eq_true] at h
      exact st_asg hX hf h.1.1 h.1.2 h.2 (by simpa [OKS, okS] using ok)
    · cases h
  | .aug i op e, st, h, ok => by
    simp only [chkS] at h
    split at h
    · simp only [Bool.and_eq_true, decide_eq_true_eq] at h
      obtain ⟨⟨⟨⟨h1, h2⟩, rfl⟩, h4⟩, h5⟩ := h
      exact st_aug hX hf h1 h2 h4 (sound e X _ hX h5 (by simpa [OKS, okS] using ok))
    · cases h
  | .setix o i e, st, h, ok => by
    simp only [chkS] at h
    split at h
    · simp only [Bool.and_eq_true] at h
      simp only [OKS, okS] at ok
      exact st_setix hX h.2 (sound o X _ hX h.1.1 ok.1) (sound i X _ hX h.1.2 ok.2.1) (sound e X _ hX h.2 ok.2.2) h.1.2
    · cases h
  | .ite c a b, st, h, ok => by
    simp only [chkS] at h
    split at h
    · simp only [Bool.and_eq_true] at h
      simp only [OKS, okS] at ok
      exact st_if (sound c X _ hX h.1.1 ok.1) (soundSs hX hf a _ h.1.2 ok.2.1) (soundSs hX hf b _ h.2 ok.2.2)
    · cases h
  | .whl c b, st, h, ok => by
    simp only [chkS] at h
    split at h
    · simp only [Bool.and_eq_true] at h
      simp only [OKS, okS] at ok
      exact st_whl hX (sound c X _ hX h.1 ok.1) (soundSs hX hf b _ h.2 ok.2)
    · cases h
  | .for t it b, st, h, ok => by
    simp only [chkS] at h
    split at h
    · simp only [Bool.and_eq_true] at h
      simp only [OKS, okS] at ok
      exact st_for hX hf h.1.1 h.1.2 (soundi it X _ _ hX h.1.2 ok.1) (soundSs hX hf b _ h.2 ok.2)
    · cases h
  | .ret e, st, h, ok => by
    simp only [chkS] at h
    split at h
    · exact st_ret (sound e X _ hX h (by simpa [OKS, okS] using ok))
    · cases h
  | .retn, st, h, ok => by
    simp only [chkS] at h
    split at h
    · exact st_retn
    · cases h
  | .expr e, st, h, ok => by
    simp only [chkS] at h
    split at h
    · simp only [Bool.and_eq_true] at h
      rename_i x p
      refine st_expr h.1 ?_ (sound e X _ hX h.1 (by simpa [OKS, okS] using ok))
      have := h.2
      cases x <;> first | rfl | (cases this)
    · cases h
  | .pass, st, h, ok => by
    simp only [chkS] at h
    split at h
    · exact st_pass
    · cases h
  | .brk, st, h, ok => by
    simp only [chkS] at h
    split at h
    · exact st_brk
    · cases h
  | .never, st, h, ok => st_never
theorem soundSs {n lv : Nat} {X : Cx} (hX : Cok X lv bNames) (hf : ∀ x, X.fn x = true) : ∀ (s : Ss) (st : List Stmt), chkSs X.N X.env.scope s st = true → OKSs X n lv s → PSs X st (tSs X.K n s)
  | .nil, st, h, ok => by
    simp only [chkSs] at h
    cases st with
    | nil => exact sts_nil
    | cons _ _ => cases h
  | .cons s ss, st, h, ok => by
    simp only [chkSs] at h
    split at h
    · simp only [Bool.and_eq_true] at h
      simp only [OKSs, okSs] at ok
      exact sts_cons (soundS hX hf s _ h.1 ok.1) (soundSs hX hf ss _ h.2 ok.2)
    · cases h
end
end
end Sn
/-! Sn, part N: a def of the text does what the language says; the law's end. -/
namespace Sn
open PySem PySem.Spec PyProof.Rows L2

/-! ### what a call leaves -/
structure Keep (W W' : Wd) : Prop where
  keep : ∀ a o, W.H a = some o → ¬ W.nf a → W'.H a = some o ∧ ¬ W'.nf a
section
variable {K : PySem.W.Frag} {W W' : Wd}
theorem Keep.rd (h : Keep W W') {a : Addr} {u : HO} (r : Rd W.H a u) (n : ¬ W.nf a) : Rd W'.H a u ∧ ¬ W'.nf a := by
  rcases r with r | ⟨o, r⟩
  · exact ⟨.inl (h.keep a _ r n).1, (h.keep a _ r n).2⟩
  · exact ⟨.inr ⟨o, (h.keep a _ r n).1⟩, (h.keep a _ r n).2⟩
theorem Keep.frL (h : Keep W W') {a : Addr} {vs : List V} (r : FrL K W a vs) : FrL K W' a vs := r.imp (fun z => h.rd z.1 z.2) id
theorem Keep.frT (h : Keep W W') {a : Addr} {vs : List V} (r : FrT K W a vs) : FrT K W' a vs := r.imp (fun z => h.rd z.1 z.2) id
mutual
theorem Rep.kept (h : Keep W W') : ∀ {d : D} {v : V}, d.pure = true → Rep K W v d → Rep K W' v d
  | .non, _, _, .non => .non
  | .bl _, _, _, .bl b => .bl b
  | .int _, _, _, .int i => .int i
  | .str _, _, _, .str x => .str x
  | .lst _, _, p, .lst f n r => .lst (h.keep _ _ f n).1 (h.keep _ _ f n).2 (Reps.kept h p r)
  | .scr _, _, p, .scr f r => .scr (h.frL f) (Reps.kept h p r)
  | .tup _, _, p, .tup f r => .tup (h.frT f) (Reps.kept h p r)
  | .ref _, _, p, _ => by cases p
theorem Reps.kept (h : Keep W W') : ∀ {ds : List D} {vs : List V}, pures ds = true → Reps K W vs ds → Reps K W' vs ds
  | [], _, _, .nil => .nil
  | d :: ds, _, p, .cons r rs => by
    have p' : d.pure = true ∧ pures ds = true := by simpa [pures] using p
    exact .cons (Rep.kept h p'.1 r) (Reps.kept h p'.2 rs)
end
/-- the memory as it was at the entry, of k lists -/
def Wd.cut (W : Wd) (k : Nat) : Wd := ⟨W.rho.take k, W.M.take k, W.Z, W.H⟩
theorem cont_take {M : Mem} {k n : Nat} {xs : List D} : Mem.cont (M.take k) n = some xs ↔ n < k ∧ Mem.cont M n = some xs := by
  unfold Mem.cont
  by_cases h : n < k
  · rw [List.getElem?_take_of_lt h]
    exact ⟨fun q => ⟨h, q⟩, fun q => q.2⟩
  · rw [List.getElem?_eq_none (by rw [List.length_take]; omega)]
    exact ⟨fun q => by (cases q), fun q => absurd q.1 h⟩
theorem rho_take {rho : List Addr} {k n : Nat} {a : Addr} : (rho.take k)[n]? = some a ↔ n < k ∧ rho[n]? = some a := by
  by_cases h : n < k
  · rw [List.getElem?_take_of_lt h]
    exact ⟨fun q => ⟨h, q⟩, fun q => q.2⟩
  · rw [List.getElem?_eq_none (by rw [List.length_take]; omega)]
    exact ⟨fun q => by (cases q), fun q => absurd q.1 h⟩
theorem nf_cut {k : Nat} {a : Addr} (h : (W.cut k).nf a) : W.nf a := by
  rcases h with ⟨n, xs, e, r⟩ | z
  · exact .inl ⟨n, xs, (cont_take.mp e).2, (rho_take.mp r).2⟩
  · exact .inr z
theorem Keep.cut (k : Nat) : Keep W (W.cut k) := ⟨fun a o q n => ⟨q, fun z => n (nf_cut z)⟩⟩
theorem closed_pure {k n : Nat} {M : Mem} {xs : List D} (c : closed k M = true) (hn : n < k) (e : Mem.cont M n = some xs) : pures xs = true := by
  unfold closed at c
  have hm : some xs ∈ M.take k := by
    unfold Mem.cont at e
    cases q : M[n]? with
    | none => rw [q] at e; cases e
    | some o =>
      rw [q] at e
      have e : o = some xs := e
      subst e
      exact List.mem_of_getElem? (i := n) (by rw [List.getElem?_take_of_lt hn]; exact q)
  exact List.all_eq_true.mp c _ hm
theorem MR.cut (h : MR K W) {k : Nat} (c : closed k W.M = true) : MR K (W.cut k) where
  len := by show (W.rho.take k).length = (W.M.take k).length; rw [List.length_take, List.length_take, h.len]
  cell := fun n xs e => by
    obtain ⟨hn, e⟩ := cont_take.mp e
    obtain ⟨a, vs, r, q, rs, nz⟩ := h.cell n xs e
    exact ⟨a, vs, rho_take.mpr ⟨hn, r⟩, q, Reps.kept (.cut k) (closed_pure c hn e) rs, nz⟩
  inj := fun m n a xs ys e1 e2 r1 r2 => h.inj m n a xs ys (cont_take.mp e1).2 (cont_take.mp e2).2 (rho_take.mp r1).2 (rho_take.mp r2).2
  zt := h.zt
theorem Ext.cut {W0 : Wd} (x : Ext W0 W) (h0 : MR K W0) : Ext W0 (W.cut W0.M.length) :=
  ⟨⟨fun n a q => rho_take.mpr ⟨by
    have := (List.getElem?_eq_some_iff.mp q).1
    rw [h0.len] at this
    exact this, x.le.pre n a q⟩, fun a o q n => let ⟨q1, n1⟩ := x.le.keep a o q n; (Keep.cut _).keep a o q1 n1⟩, x.z, x.zk⟩
mutual
theorem Rep.shut (h : MR K W) {k : Nat} : ∀ {d d' : D} {v : V}, d.shut k W.M = some d' → Rep K W v d → Rep K (W.cut k) v d'
  | .non, _, _, e, r => by cases r; cases e; exact .non
  | .bl b, _, _, e, r => by cases r; cases e; exact .bl b
  | .int i, _, _, e, r => by cases r; cases e; exact .int i
  | .str x, _, _, e, r => by cases r; cases e; exact .str x
  | .lst xs, d', _, e, r => by
    cases r; rename_i f n r
    simp only [D.shut, Option.map_eq_some_iff] at e
    obtain ⟨ys, e, rfl⟩ := e
    exact .lst f (fun z => n (nf_cut z)) (Reps.shut h e r)
  | .tup xs, d', _, e, r => by
    cases r; rename_i f r
    simp only [D.shut, Option.map_eq_some_iff] at e
    obtain ⟨ys, e, rfl⟩ := e
    exact .tup ((Keep.cut k).frT f) (Reps.shut h e r)
  | .scr xs, d', _, e, r => by
    cases r; rename_i f r
    simp only [D.shut] at e
    split at e
    · rename_i p
      cases e
      exact .scr ((Keep.cut k).frL f) (Reps.kept (.cut k) p r)
    · cases e
  | .ref n, d', _, e, r => by
    cases r; rename_i q
    simp only [D.shut] at e
    split at e
    · rename_i hn
      cases e
      exact .ref (rho_take.mpr ⟨hn, q⟩)
    · rename_i hn
      split at e
      · rename_i xs e1
        split at e
        · rename_i p
          cases e
          obtain ⟨a, vs, r, f, rs, nz⟩ := h.cell n xs e1
          rw [q] at r
          cases r
          refine .lst f (fun z => ?_) (Reps.kept (.cut k) p rs)
          rcases z with ⟨m, zs, e2, r2⟩ | z
          · obtain ⟨hm, e2⟩ := cont_take.mp e2
            have := h.inj m n _ zs xs e2 e1 (rho_take.mp r2).2 q
            omega
          · exact nz z
        · cases e
      · cases e
theorem Reps.shut (h : MR K W) {k : Nat} : ∀ {ds ds' : List D} {vs : List V}, shuts k W.M ds = some ds' → Reps K W vs ds → Reps K (W.cut k) vs ds'
  | [], _, _, e, .nil => by
    simp only [shuts, Option.some.injEq] at e
    subst e
    exact .nil
  | d :: ds, _, _, e, .cons r rs => by
    simp only [shuts] at e
    split at e
    · rename_i e1 e2
      cases e
      exact .cons (Rep.shut h e1 r) (Reps.shut h e2 rs)
    · cases e
end
end

/-! ### a def -/
def scB (N ps : List Str) (sc : Scope) : Bool := decide (sc.kind = .function) && !sc.isCoroutine && !sc.isGenerator && decide N.Nodup && decide (N.take ps.length = ps) &&
  (ps.all fun x => locB sc x) && (sc.names.all fun y => decide (y.2 ≠ .free))
theorem scB_ok {N ps : List Str} {sc : Scope} (h : scB N ps sc = true) : FnScope N ps sc := by
  unfold scB at h
  simp only [Bool.and_eq_true, decide_eq_true_eq, Bool.not_eq_true', List.all_eq_true] at h
  obtain ⟨⟨⟨⟨⟨⟨h1, h2⟩, h3⟩, h4⟩, h5⟩, h6⟩, h7⟩ := h
  exact ⟨h1, h2, h3, h4, h5, fun x hx => loc_of (h6 x hx), fun y hy => h7 y hy⟩
def defB (d : Df) (st : Stmt) : Bool := scB d.N d.ps (defScope st) && chkSs d.N (defScope st) d.body (defBody st)
theorem envR_start {K : PySem.W.Frag} {W : Wd} {N : List Str} {vs : List V} {ds : List D} (rs : Reps K W vs ds) : EnvR K W (ds.map some ++ List.replicate (N.length - ds.length) none) (L2.start N vs) := by
  have hl := rs.length
  refine ⟨by unfold L2.start; simp [hl], fun i d e => ?_⟩
  unfold L2.start
  by_cases hi : i < ds.length
  · rw [List.getElem?_append_left (by simpa using hi), List.getElem?_map] at e
    cases q : ds[i]? with
    | none => rw [q] at e; cases e
    | some x =>
      rw [q] at e
      have e : some x = some d := Option.some.inj e
      cases e
      obtain ⟨v, h1, h2⟩ := rs.get q
      exact ⟨v, by rw [List.getElem?_append_left (by simpa [hl] using hi), List.getElem?_map, h1]; rfl, h2⟩
  · rw [List.getElem?_append_right (by simpa using hi), List.getElem?_replicate] at e
    split at e <;> cases e
/-- the body's outcome, and what the call asks -/
theorem call_out {K : PySem.W.Frag} {W : Wd} {σ : L2.St} {Q : VK} {n : Nat} {d : Df} {ds : List D} (hM : MR K W) (h : Go K W (callD n d ds W.M) Q) :
    After (evSs n d.body (ds.map some ++ List.replicate (d.N.length - ds.length) none) W.M) (OutP K W σ { nx := fun _ H' => Q .non H', rt := Q }) := by
  obtain ⟨name, keeps, ps, N, body⟩ := d
  unfold Go at h
  unfold callD at h
  split at h
  · show After (evSs n body (ds.map some ++ List.replicate (N.length - ds.length) none) W.M) _
    cases q : evSs n body (ds.map some ++ List.replicate (N.length - ds.length) none) W.M with
    | no => rw [q] at h; exact h.elim
    | ok o M1 =>
      rw [q] at h
      cases o with
      | bk env => exact h.elim
      | nx env =>
        intro W1 σ1 e1 x1 m1 _ _
        subst e1
        dsimp only at h
        split at h
        · exact h W1 .non rfl x1 m1 .non
        · split at h
          · exact h (W1.cut W.M.length) .non rfl (x1.cut hM) (m1.cut (by assumption)) .non
          · exact h.elim
      | rt d =>
        intro W1 v e1 x1 m1 r1
        subst e1
        dsimp only at h
        split at h
        · exact h W1 v rfl x1 m1 r1
        · split at h
          · rename_i d' es
            split at h
            · exact h (W1.cut W.M.length) v rfl (x1.cut hM) (m1.cut (by assumption)) (r1.shut m1 es)
            · exact h.elim
          · exact h.elim
  · exact h.elim
section
variable {P : Program} {w : World} {K : PySem.W.Frag} {mg : Str → Option Value} {base : Heap}
theorem fnG_of {lv n : Nat} {f : Addr} {fd : FuncData} {x qual : Str} {st : Stmt} {dvs : List V} {kws : List (Str × V)} {d : Df} (F : FunD K x qual (defArgs st) (defBody st) (defScope st) dvs kws f fd) (hB : defB d st = true)
    (hbn : ∀ y ∈ bNames, mg y = none) (ok : okSs (KnD P w K mg base n lv) (KnK P w K mg base n lv) (GV K mg) d.body) : FnG P w K mg base (lv + 1) f fd d.ps (spD K n d) := by
  obtain ⟨oc, od, dV, kV, doc, pm, an, cdv, ct, osl, rfl, lk, hcd, _, _⟩ := F.ex
  have hB' : scB d.N d.ps (defScope st) = true ∧ chkSs d.N (defScope st) d.body (defBody st) = true := by
    unfold defB at hB
    simpa only [Bool.and_eq_true] using hB
  have S := scB_ok hB'.1
  refine ⟨fun vs H Q E h => h.1, fun A out t H ag us vs Q E hroom hgd en hbd rel hsp => ?_⟩
  obtain ⟨hl, ds, W, rfl, rs, hM, hgo⟩ := hsp
  have KX : K.In t.heap := en.mod.kin.keeps fun b o e => (en.bs b o e).1
  have lim := en.mod.nolimit.keeps (h' := t.heap) fun b o e => (en.bs b o e).1
  refine codeAny_call_function hroom.depth (KX _ _ lk) rfl S.co S.gen rfl (PySem.W.codeRec_of KX hcd) (hbd _ _ _ _ ?_)
  refine wpAny_newFunctionEnv_cells S.kind (fun y hy => ?_) fun env he t1 x1 => ?_
  · rcases S.par y.1 (List.of_mem_zip hy).1 with z | z
    · exact Or.inl z
    · exact Or.inr ⟨z, PySem.W.cellsFrom_some _ _ _ (.inl z)⟩
  · subst he
    refine ⟨lim.keeps x1.toInCall.keep, codeAny_func ?_⟩
    have rm := hroom.deeper (envOfC qual (defScope st) t.heap.objs.size f cdv)
    have I := inv_start (CX := CX0) (E := E) (qual := qual) (f := f) (cd := cdv) S hroom.hd en hl rel x1
    have hX : Cok (cxOf CX0 P w K mg base d.N qual (defScope st) f cdv A out t W.H E).nox lv bNames :=
      ⟨rfl, S.nd, PassesOwn.never, S.kind, rm, hgd, by have := rm.un; show (A.deeper (envOfC qual (defScope st) t.heap.objs.size f cdv)).units + 70 < cLine; omega, hbn⟩
    have hb := PSs.nox (soundSs hX (fun _ => rfl) d.body (defBody st) hB'.2 ok)
    refine wpAny_mono (hb.run [] t1 (L2.start d.N vs) W.H _ I ⟨_, W, rfl, envR_start rs, hM, call_out hM hgo⟩) (fun fl t2 hq => ?_) fun e t2 hq => hq
    cases fl with
    | ret u =>
      obtain ⟨v, σ2, H2, J, rv, q⟩ := hq
      exact ⟨v, H2, J.os, J.bare, J.base, J.hok, rv, q⟩
    | next =>
      obtain ⟨σ2, H2, J, q⟩ := hq
      exact ⟨V.non, H2, J.os, J.bare, J.base, J.hok, rfl, q⟩
    | brk =>
      obtain ⟨_, _, _, q⟩ := hq
      exact q.elim
    | cont =>
      obtain ⟨_, _, _, q⟩ := hq
      exact q.elim
end
end Sn
/-! Sn, part O: what a body calls, as lists; a known def; the law's end. -/
namespace Sn
open PySem PySem.Spec PyProof.Rows L2
mutual
def callsE : E → List Df
  | .var _ => []
  | .int _ => []
  | .str _ => []
  | .bl _ => []
  | .non => []
  | .gint _ _ => []
  | .gcon _ _ => []
  | .never => []
  | .bin _ _ a b => callsE a ++ callsE b
  | .neg a => callsE a
  | .not a => callsE a
  | .and a b => callsE a ++ callsE b
  | .or a b => callsE a ++ callsE b
  | .cmp _ a b => callsE a ++ callsE b
  | .chain _ _ a b c => callsE a ++ callsE b ++ callsE c
  | .isn a => callsE a
  | .notn a => callsE a
  | .inn a b => callsE a ++ callsE b
  | .nin a b => callsE a ++ callsE b
  | .ite c a b => callsE c ++ callsE a ++ callsE b
  | .tup es => callsEs es
  | .lst _ es => callsEs es
  | .ix a i => callsE a ++ callsE i
  | .sl _ a lo hi => callsE a ++ callsEo lo ++ callsEo hi
  | .rev _ a => callsE a
  | .isb _ _ a => callsE a
  | .tups is => callsIs is
  | .lsts _ is => callsIs is
  | .call d es => [d] ++ callsEs es
  | .callk _ es _ kes => callsEs es ++ callsEs kes
  | .prim _ _ es => callsEs es
  | .isi _ a => callsE a
  | .meth _ o es => callsE o ++ callsEs es
  | .comp _ _ elt _ it cnd => callsIt it ++ callsEo cnd ++ callsE elt
  | .comp2 _ _ _ elt _ it _ it1 => callsIt it ++ callsIt it1 ++ callsE elt
def callsEs : Es → List Df
  | .nil => []
  | .cons e es => callsE e ++ callsEs es
def callsIs : Is → List Df
  | .nil => []
  | .cons e is => callsE e ++ callsIs is
  | .star e is => callsE e ++ callsIs is
def callsEo : Eo → List Df
  | .none => []
  | .some e => callsE e
def callsIt : Src → List Df
  | .of a => callsE a
  | .range1 a => callsE a
  | .range2 a b => callsE a ++ callsE b
  | .enum a => callsE a
  | .zip a b => callsE a ++ callsE b
end
mutual
def callsS : S → List Df
  | .asg _ e => callsE e
  | .aug _ _ e => callsE e
  | .setix o i e => callsE o ++ callsE i ++ callsE e
  | .ite c a b => callsE c ++ callsSs a ++ callsSs b
  | .whl c b => callsE c ++ callsSs b
  | .for _ it b => callsIt it ++ callsSs b
  | .ret e => callsE e
  | .retn => []
  | .expr e => callsE e
  | .pass => []
  | .brk => []
  | .never => []
def callsSs : Ss → List Df
  | .nil => []
  | .cons s ss => callsS s ++ callsSs ss
end
mutual
def kallsE : E → List (Df × Nat × List Str)
  | .var _ => []
  | .int _ => []
  | .str _ => []
  | .bl _ => []
  | .non => []
  | .gint _ _ => []
  | .gcon _ _ => []
  | .never => []
  | .bin _ _ a b => kallsE a ++ kallsE b
  | .neg a => kallsE a
  | .not a => kallsE a
  | .and a b => kallsE a ++ kallsE b
  | .or a b => kallsE a ++ kallsE b
  | .cmp _ a b => kallsE a ++ kallsE b
  | .chain _ _ a b c => kallsE a ++ kallsE b ++ kallsE c
  | .isn a => kallsE a
  | .notn a => kallsE a
  | .inn a b => kallsE a ++ kallsE b
  | .nin a b => kallsE a ++ kallsE b
  | .ite c a b => kallsE c ++ kallsE a ++ kallsE b
  | .tup es => kallsEs es
  | .lst _ es => kallsEs es
  | .ix a i => kallsE a ++ kallsE i
  | .sl _ a lo hi => kallsE a ++ kallsEo lo ++ kallsEo hi
  | .rev _ a => kallsE a
  | .isb _ _ a => kallsE a
  | .tups is => kallsIs is
  | .lsts _ is => kallsIs is
  | .call _ es => kallsEs es
  | .callk d es ks kes => [(d, es.len, ks)] ++ kallsEs es ++ kallsEs kes
  | .prim _ _ es => kallsEs es
  | .isi _ a => kallsE a
  | .meth _ o es => kallsE o ++ kallsEs es
  | .comp _ _ elt _ it cnd => kallsIt it ++ kallsEo cnd ++ kallsE elt
  | .comp2 _ _ _ elt _ it _ it1 => kallsIt it ++ kallsIt it1 ++ kallsE elt
def kallsEs : Es → List (Df × Nat × List Str)
  | .nil => []
  | .cons e es => kallsE e ++ kallsEs es
def kallsIs : Is → List (Df × Nat × List Str)
  | .nil => []
  | .cons e is => kallsE e ++ kallsIs is
  | .star e is => kallsE e ++ kallsIs is
def kallsEo : Eo → List (Df × Nat × List Str)
  | .none => []
  | .some e => kallsE e
def kallsIt : Src → List (Df × Nat × List Str)
  | .of a => kallsE a
  | .range1 a => kallsE a
  | .range2 a b => kallsE a ++ kallsE b
  | .enum a => kallsE a
  | .zip a b => kallsE a ++ kallsE b
end
mutual
def kallsS : S → List (Df × Nat × List Str)
  | .asg _ e => kallsE e
  | .aug _ _ e => kallsE e
  | .setix o i e => kallsE o ++ kallsE i ++ kallsE e
  | .ite c a b => kallsE c ++ kallsSs a ++ kallsSs b
  | .whl c b => kallsE c ++ kallsSs b
  | .for _ it b => kallsIt it ++ kallsSs b
  | .ret e => kallsE e
  | .retn => []
  | .expr e => kallsE e
  | .pass => []
  | .brk => []
  | .never => []
def kallsSs : Ss → List (Df × Nat × List Str)
  | .nil => []
  | .cons s ss => kallsS s ++ kallsSs ss
end
mutual
def gintsE : E → List (Str × D)
  | .var _ => []
  | .int _ => []
  | .str _ => []
  | .bl _ => []
  | .non => []
  | .gint x i => [(x, .int i)]
  | .gcon x d => [(x, d)]
  | .never => []
  | .bin _ _ a b => gintsE a ++ gintsE b
  | .neg a => gintsE a
  | .not a => gintsE a
  | .and a b => gintsE a ++ gintsE b
  | .or a b => gintsE a ++ gintsE b
  | .cmp _ a b => gintsE a ++ gintsE b
  | .chain _ _ a b c => gintsE a ++ gintsE b ++ gintsE c
  | .isn a => gintsE a
  | .notn a => gintsE a
  | .inn a b => gintsE a ++ gintsE b
  | .nin a b => gintsE a ++ gintsE b
  | .ite c a b => gintsE c ++ gintsE a ++ gintsE b
  | .tup es => gintsEs es
  | .lst _ es => gintsEs es
  | .ix a i => gintsE a ++ gintsE i
  | .sl _ a lo hi => gintsE a ++ gintsEo lo ++ gintsEo hi
  | .rev _ a => gintsE a
  | .isb _ _ a => gintsE a
  | .tups is => gintsIs is
  | .lsts _ is => gintsIs is
  | .call _ es => gintsEs es
  | .callk _ es _ kes => gintsEs es ++ gintsEs kes
  | .prim _ _ es => gintsEs es
  | .isi _ a => gintsE a
  | .meth _ o es => gintsE o ++ gintsEs es
  | .comp _ _ elt _ it cnd => gintsIt it ++ gintsEo cnd ++ gintsE elt
  | .comp2 _ _ _ elt _ it _ it1 => gintsIt it ++ gintsIt it1 ++ gintsE elt
def gintsEs : Es → List (Str × D)
  | .nil => []
  | .cons e es => gintsE e ++ gintsEs es
def gintsIs : Is → List (Str × D)
  | .nil => []
  | .cons e is => gintsE e ++ gintsIs is
  | .star e is => gintsE e ++ gintsIs is
def gintsEo : Eo → List (Str × D)
  | .none => []
  | .some e => gintsE e
def gintsIt : Src → List (Str × D)
  | .of a => gintsE a
  | .range1 a => gintsE a
  | .range2 a b => gintsE a ++ gintsE b
  | .enum a => gintsE a
  | .zip a b => gintsE a ++ gintsE b
end
mutual
def gintsS : S → List (Str × D)
  | .asg _ e => gintsE e
  | .aug _ _ e => gintsE e
  | .setix o i e => gintsE o ++ gintsE i ++ gintsE e
  | .ite c a b => gintsE c ++ gintsSs a ++ gintsSs b
  | .whl c b => gintsE c ++ gintsSs b
  | .for _ it b => gintsIt it ++ gintsSs b
  | .ret e => gintsE e
  | .retn => []
  | .expr e => gintsE e
  | .pass => []
  | .brk => []
  | .never => []
def gintsSs : Ss → List (Str × D)
  | .nil => []
  | .cons s ss => gintsS s ++ gintsSs ss
end
def AllL {α : Type} (P : α → Prop) : List α → Prop
  | [] => True
  | x :: xs => P x ∧ AllL P xs
theorem AllL.app {α : Type} {P : α → Prop} : ∀ {xs ys : List α}, AllL P (xs ++ ys) → AllL P xs ∧ AllL P ys
  | [], _, h => ⟨trivial, h⟩
  | _ :: _, _, h => ⟨⟨h.1, (AllL.app h.2).1⟩, (AllL.app h.2).2⟩
section
variable {P : Df → Prop} {PK : Df → Nat → List Str → Prop} {PG : Str → D → Prop}
mutual
theorem ok_E : ∀ (e : E), AllL P (callsE e) → AllL (fun k => PK k.1 k.2.1 k.2.2) (kallsE e) → AllL (fun k => PG k.1 k.2) (gintsE e) → okE P PK PG e
  | .var i, _, _, _ => trivial
  | .int i, _, _, _ => trivial
  | .str x, _, _, _ => trivial
  | .bl b, _, _, _ => trivial
  | .non, _, _, _ => trivial
  | .gint x i, _, _, h3 => h3.1
  | .gcon x d, _, _, h3 => h3.1
  | .never, _, _, _ => trivial
  | .bin m op a b, h1, h2, h3 => by
    obtain ⟨h1_l1, h1_1⟩ := AllL.app h1
    have h1_0 := h1_l1
    obtain ⟨h2_l1, h2_1⟩ := AllL.app h2
    have h2_0 := h2_l1
    obtain ⟨h3_l1, h3_1⟩ := AllL.app h3
    have h3_0 := h3_l1
    exact ⟨ok_E a h1_0 h2_0 h3_0, ok_E b h1_1 h2_1 h3_1⟩
  | .neg a, h1, h2, h3 => by
    have h1_0 := h1
    have h2_0 := h2
    have h3_0 := h3
    exact ok_E a h1_0 h2_0 h3_0
  | .not a, h1, h2, h3 => by
    have h1_0 := h1
    have h2_0 := h2
    have h3_0 := h3
    exact ok_E a h1_0 h2_0 h3_0
  | .and a b, h1, h2, h3 => by
    obtain ⟨h1_l1, h1_1⟩ := AllL.app h1
    have h1_0 := h1_l1
    obtain ⟨h2_l1, h2_1⟩ := AllL.app h2
    have h2_0 := h2_l1
    obtain ⟨h3_l1, h3_1⟩ := AllL.app h3
    have h3_0 := h3_l1
    exact ⟨ok_E a h1_0 h2_0 h3_0, ok_E b h1_1 h2_1 h3_1⟩
  | .or a b, h1, h2, h3 => by
    obtain ⟨h1_l1, h1_1⟩ := AllL.app h1
    have h1_0 := h1_l1
    obtain ⟨h2_l1, h2_1⟩ := AllL.app h2
    have h2_0 := h2_l1
    obtain ⟨h3_l1, h3_1⟩ := AllL.app h3
    have h3_0 := h3_l1
    exact ⟨ok_E a h1_0 h2_0 h3_0, ok_E b h1_1 h2_1 h3_1⟩
  | .cmp op a b, h1, h2, h3 => by
    obtain ⟨h1_l1, h1_1⟩ := AllL.app h1
    have h1_0 := h1_l1
    obtain ⟨h2_l1, h2_1⟩ := AllL.app h2
    have h2_0 := h2_l1
    obtain ⟨h3_l1, h3_1⟩ := AllL.app h3
    have h3_0 := h3_l1
    exact ⟨ok_E a h1_0 h2_0 h3_0, ok_E b h1_1 h2_1 h3_1⟩
  | .chain op1 op2 a b c, h1, h2, h3 => by
    obtain ⟨h1_l2, h1_2⟩ := AllL.app h1
    obtain ⟨h1_l1, h1_1⟩ := AllL.app h1_l2
    have h1_0 := h1_l1
    obtain ⟨h2_l2, h2_2⟩ := AllL.app h2
    obtain ⟨h2_l1, h2_1⟩ := AllL.app h2_l2
    have h2_0 := h2_l1
    obtain ⟨h3_l2, h3_2⟩ := AllL.app h3
    obtain ⟨h3_l1, h3_1⟩ := AllL.app h3_l2
    have h3_0 := h3_l1
    exact ⟨ok_E a h1_0 h2_0 h3_0, ok_E b h1_1 h2_1 h3_1, ok_E c h1_2 h2_2 h3_2⟩
  | .isn a, h1, h2, h3 => by
    have h1_0 := h1
    have h2_0 := h2
    have h3_0 := h3
    exact ok_E a h1_0 h2_0 h3_0
  | .notn a, h1, h2, h3 => by
    have h1_0 := h1
    have h2_0 := h2
    have h3_0 := h3
    exact ok_E a h1_0 h2_0 h3_0
  | .inn a b, h1, h2, h3 => by
    obtain ⟨h1_l1, h1_1⟩ := AllL.app h1
    have h1_0 := h1_l1
    obtain ⟨h2_l1, h2_1⟩ := AllL.app h2
    have h2_0 := h2_l1
    obtain ⟨h3_l1, h3_1⟩ := AllL.app h3
    have h3_0 := h3_l1
    exact ⟨ok_E a h1_0 h2_0 h3_0, ok_E b h1_1 h2_1 h3_1⟩
  | .nin a b, h1, h2, h3 => by
    obtain ⟨h1_l1, h1_1⟩ := AllL.app h1
    have h1_0 := h1_l1
    obtain ⟨h2_l1, h2_1⟩ := AllL.app h2
    have h2_0 := h2_l1
    obtain ⟨h3_l1, h3_1⟩ := AllL.app h3
    have h3_0 := h3_l1
    exact ⟨ok_E a h1_0 h2_0 h3_0, ok_E b h1_1 h2_1 h3_1⟩
  | .ite c a b, h1, h2, h3 => by
    obtain ⟨h1_l2, h1_2⟩ := AllL.app h1
    obtain ⟨h1_l1, h1_1⟩ := AllL.app h1_l2
    have h1_0 := h1_l1
    obtain ⟨h2_l2, h2_2⟩ := AllL.app h2
    obtain ⟨h2_l1, h2_1⟩ := AllL.app h2_l2
    have h2_0 := h2_l1
    obtain ⟨h3_l2, h3_2⟩ := AllL.app h3
    obtain ⟨h3_l1, h3_1⟩ := AllL.app h3_l2
    have h3_0 := h3_l1
    exact ⟨ok_E c h1_0 h2_0 h3_0, ok_E a h1_1 h2_1 h3_1, ok_E b h1_2 h2_2 h3_2⟩
  | .tup es, h1, h2, h3 => by
    have h1_0 := h1
    have h2_0 := h2
    have h3_0 := h3
    exact ok_Es es h1_0 h2_0 h3_0
  | .lst m es, h1, h2, h3 => by
    have h1_0 := h1
    have h2_0 := h2
    have h3_0 := h3
    exact ok_Es es h1_0 h2_0 h3_0
  | .ix a i, h1, h2, h3 => by
    obtain ⟨h1_l1, h1_1⟩ := AllL.app h1
    have h1_0 := h1_l1
    obtain ⟨h2_l1, h2_1⟩ := AllL.app h2
    have h2_0 := h2_l1
    obtain ⟨h3_l1, h3_1⟩ := AllL.app h3
    have h3_0 := h3_l1
    exact ⟨ok_E a h1_0 h2_0 h3_0, ok_E i h1_1 h2_1 h3_1⟩
  | .sl m a lo hi, h1, h2, h3 => by
    obtain ⟨h1_l2, h1_2⟩ := AllL.app h1
    obtain ⟨h1_l1, h1_1⟩ := AllL.app h1_l2
    have h1_0 := h1_l1
    obtain ⟨h2_l2, h2_2⟩ := AllL.app h2
    obtain ⟨h2_l1, h2_1⟩ := AllL.app h2_l2
    have h2_0 := h2_l1
    obtain ⟨h3_l2, h3_2⟩ := AllL.app h3
    obtain ⟨h3_l1, h3_1⟩ := AllL.app h3_l2
    have h3_0 := h3_l1
    exact ⟨ok_E a h1_0 h2_0 h3_0, ok_Eo lo h1_1 h2_1 h3_1, ok_Eo hi h1_2 h2_2 h3_2⟩
  | .rev m a, h1, h2, h3 => by
    have h1_0 := h1
    have h2_0 := h2
    have h3_0 := h3
    exact ok_E a h1_0 h2_0 h3_0
  | .isb b pos a, h1, h2, h3 => by
    have h1_0 := h1
    have h2_0 := h2
    have h3_0 := h3
    exact ok_E a h1_0 h2_0 h3_0
  | .tups is, h1, h2, h3 => by
    have h1_0 := h1
    have h2_0 := h2
    have h3_0 := h3
    exact ok_Is is h1_0 h2_0 h3_0
  | .lsts m is, h1, h2, h3 => by
    have h1_0 := h1
    have h2_0 := h2
    have h3_0 := h3
    exact ok_Is is h1_0 h2_0 h3_0
  | .call d es, h1, h2, h3 => by
    obtain ⟨h1_l1, h1_1⟩ := AllL.app h1
    have h1_0 := h1_l1
    have h2_0 := h2
    have h3_0 := h3
    exact ⟨h1_0.1, ok_Es es h1_1 h2_0 h3_0⟩
  | .callk d es ks kes, h1, h2, h3 => by
    obtain ⟨h1_l1, h1_1⟩ := AllL.app h1
    have h1_0 := h1_l1
    obtain ⟨h2_l2, h2_2⟩ := AllL.app h2
    obtain ⟨h2_l1, h2_1⟩ := AllL.app h2_l2
    have h2_0 := h2_l1
    obtain ⟨h3_l1, h3_1⟩ := AllL.app h3
    have h3_0 := h3_l1
    exact ⟨h2_0.1, ok_Es es h1_0 h2_1 h3_0, ok_Es kes h1_1 h2_2 h3_1⟩
  | .prim m p es, h1, h2, h3 => by
    have h1_0 := h1
    have h2_0 := h2
    have h3_0 := h3
    exact ok_Es es h1_0 h2_0 h3_0
  | .isi k a, h1, h2, h3 => by
    have h1_0 := h1
    have h2_0 := h2
    have h3_0 := h3
    exact ok_E a h1_0 h2_0 h3_0
  | .meth m o es, h1, h2, h3 => by
    obtain ⟨h1_l1, h1_1⟩ := AllL.app h1
    have h1_0 := h1_l1
    obtain ⟨h2_l1, h2_1⟩ := AllL.app h2
    have h2_0 := h2_l1
    obtain ⟨h3_l1, h3_1⟩ := AllL.app h3
    have h3_0 := h3_l1
    exact ⟨ok_E o h1_0 h2_0 h3_0, ok_Es es h1_1 h2_1 h3_1⟩
  | .comp m own elt tg it cnd, h1, h2, h3 => by
    obtain ⟨h1_l2, h1_2⟩ := AllL.app h1
    obtain ⟨h1_l1, h1_1⟩ := AllL.app h1_l2
    have h1_0 := h1_l1
    obtain ⟨h2_l2, h2_2⟩ := AllL.app h2
    obtain ⟨h2_l1, h2_1⟩ := AllL.app h2_l2
    have h2_0 := h2_l1
    obtain ⟨h3_l2, h3_2⟩ := AllL.app h3
    obtain ⟨h3_l1, h3_1⟩ := AllL.app h3_l2
    have h3_0 := h3_l1
    exact ⟨ok_It it h1_0 h2_0 h3_0, ok_Eo cnd h1_1 h2_1 h3_1, ok_E elt h1_2 h2_2 h3_2⟩
  | .comp2 m own own1 elt tg it tg1 it1, h1, h2, h3 => by
    obtain ⟨h1_l2, h1_2⟩ := AllL.app h1
    obtain ⟨h1_l1, h1_1⟩ := AllL.app h1_l2
    have h1_0 := h1_l1
    obtain ⟨h2_l2, h2_2⟩ := AllL.app h2
    obtain ⟨h2_l1, h2_1⟩ := AllL.app h2_l2
    have h2_0 := h2_l1
    obtain ⟨h3_l2, h3_2⟩ := AllL.app h3
    obtain ⟨h3_l1, h3_1⟩ := AllL.app h3_l2
    have h3_0 := h3_l1
    exact ⟨ok_It it h1_0 h2_0 h3_0, ok_It it1 h1_1 h2_1 h3_1, ok_E elt h1_2 h2_2 h3_2⟩
theorem ok_Es : ∀ (e : Es), AllL P (callsEs e) → AllL (fun k => PK k.1 k.2.1 k.2.2) (kallsEs e) → AllL (fun k => PG k.1 k.2) (gintsEs e) → okEs P PK PG e
  | .nil, _, _, _ => trivial
  | .cons e es, h1, h2, h3 => by
    obtain ⟨h1_l1, h1_1⟩ := AllL.app h1
    have h1_0 := h1_l1
    obtain ⟨h2_l1, h2_1⟩ := AllL.app h2
    have h2_0 := h2_l1
    obtain ⟨h3_l1, h3_1⟩ := AllL.app h3
    have h3_0 := h3_l1
    exact ⟨ok_E e h1_0 h2_0 h3_0, ok_Es es h1_1 h2_1 h3_1⟩
theorem ok_Is : ∀ (e : Is), AllL P (callsIs e) → AllL (fun k => PK k.1 k.2.1 k.2.2) (kallsIs e) → AllL (fun k => PG k.1 k.2) (gintsIs e) → okIs P PK PG e
  | .nil, _, _, _ => trivial
  | .cons e is, h1, h2, h3 => by
    obtain ⟨h1_l1, h1_1⟩ := AllL.app h1
    have h1_0 := h1_l1
    obtain ⟨h2_l1, h2_1⟩ := AllL.app h2
    have h2_0 := h2_l1
    obtain ⟨h3_l1, h3_1⟩ := AllL.app h3
    have h3_0 := h3_l1
    exact ⟨ok_E e h1_0 h2_0 h3_0, ok_Is is h1_1 h2_1 h3_1⟩
  | .star e is, h1, h2, h3 => by
    obtain ⟨h1_l1, h1_1⟩ := AllL.app h1
    have h1_0 := h1_l1
    obtain ⟨h2_l1, h2_1⟩ := AllL.app h2
    have h2_0 := h2_l1
    obtain ⟨h3_l1, h3_1⟩ := AllL.app h3
    have h3_0 := h3_l1
    exact ⟨ok_E e h1_0 h2_0 h3_0, ok_Is is h1_1 h2_1 h3_1⟩
theorem ok_Eo : ∀ (e : Eo), AllL P (callsEo e) → AllL (fun k => PK k.1 k.2.1 k.2.2) (kallsEo e) → AllL (fun k => PG k.1 k.2) (gintsEo e) → okEo P PK PG e
  | .none, _, _, _ => trivial
  | .some e, h1, h2, h3 => by
    have h1_0 := h1
    have h2_0 := h2
    have h3_0 := h3
    exact ok_E e h1_0 h2_0 h3_0
theorem ok_It : ∀ (e : Src), AllL P (callsIt e) → AllL (fun k => PK k.1 k.2.1 k.2.2) (kallsIt e) → AllL (fun k => PG k.1 k.2) (gintsIt e) → okIt P PK PG e
  | .of a, h1, h2, h3 => by
    have h1_0 := h1
    have h2_0 := h2
    have h3_0 := h3
    exact ok_E a h1_0 h2_0 h3_0
  | .range1 a, h1, h2, h3 => by
    have h1_0 := h1
    have h2_0 := h2
    have h3_0 := h3
    exact ok_E a h1_0 h2_0 h3_0
  | .range2 a b, h1, h2, h3 => by
    obtain ⟨h1_l1, h1_1⟩ := AllL.app h1
    have h1_0 := h1_l1
    obtain ⟨h2_l1, h2_1⟩ := AllL.app h2
    have h2_0 := h2_l1
    obtain ⟨h3_l1, h3_1⟩ := AllL.app h3
    have h3_0 := h3_l1
    exact ⟨ok_E a h1_0 h2_0 h3_0, ok_E b h1_1 h2_1 h3_1⟩
  | .enum a, h1, h2, h3 => by
    have h1_0 := h1
    have h2_0 := h2
    have h3_0 := h3
    exact ok_E a h1_0 h2_0 h3_0
  | .zip a b, h1, h2, h3 => by
    obtain ⟨h1_l1, h1_1⟩ := AllL.app h1
    have h1_0 := h1_l1
    obtain ⟨h2_l1, h2_1⟩ := AllL.app h2
    have h2_0 := h2_l1
    obtain ⟨h3_l1, h3_1⟩ := AllL.app h3
    have h3_0 := h3_l1
    exact ⟨ok_E a h1_0 h2_0 h3_0, ok_E b h1_1 h2_1 h3_1⟩
end
mutual
theorem ok_S : ∀ (e : S), AllL P (callsS e) → AllL (fun k => PK k.1 k.2.1 k.2.2) (kallsS e) → AllL (fun k => PG k.1 k.2) (gintsS e) → okS P PK PG e
  | .asg t e, h1, h2, h3 => by
    have h1_0 := h1
    have h2_0 := h2
    have h3_0 := h3
    exact ok_E e h1_0 h2_0 h3_0
  | .aug i op e, h1, h2, h3 => by
    have h1_0 := h1
    have h2_0 := h2
    have h3_0 := h3
    exact ok_E e h1_0 h2_0 h3_0
  | .setix o i e, h1, h2, h3 => by
    obtain ⟨h1_l2, h1_2⟩ := AllL.app h1
    obtain ⟨h1_l1, h1_1⟩ := AllL.app h1_l2
    have h1_0 := h1_l1
    obtain ⟨h2_l2, h2_2⟩ := AllL.app h2
    obtain ⟨h2_l1, h2_1⟩ := AllL.app h2_l2
    have h2_0 := h2_l1
    obtain ⟨h3_l2, h3_2⟩ := AllL.app h3
    obtain ⟨h3_l1, h3_1⟩ := AllL.app h3_l2
    have h3_0 := h3_l1
    exact ⟨ok_E o h1_0 h2_0 h3_0, ok_E i h1_1 h2_1 h3_1, ok_E e h1_2 h2_2 h3_2⟩
  | .ite c a b, h1, h2, h3 => by
    obtain ⟨h1_l2, h1_2⟩ := AllL.app h1
    obtain ⟨h1_l1, h1_1⟩ := AllL.app h1_l2
    have h1_0 := h1_l1
    obtain ⟨h2_l2, h2_2⟩ := AllL.app h2
    obtain ⟨h2_l1, h2_1⟩ := AllL.app h2_l2
    have h2_0 := h2_l1
    obtain ⟨h3_l2, h3_2⟩ := AllL.app h3
    obtain ⟨h3_l1, h3_1⟩ := AllL.app h3_l2
    have h3_0 := h3_l1
    exact ⟨ok_E c h1_0 h2_0 h3_0, ok_Ss a h1_1 h2_1 h3_1, ok_Ss b h1_2 h2_2 h3_2⟩
  | .whl c b, h1, h2, h3 => by
    obtain ⟨h1_l1, h1_1⟩ := AllL.app h1
    have h1_0 := h1_l1
    obtain ⟨h2_l1, h2_1⟩ := AllL.app h2
    have h2_0 := h2_l1
    obtain ⟨h3_l1, h3_1⟩ := AllL.app h3
    have h3_0 := h3_l1
    exact ⟨ok_E c h1_0 h2_0 h3_0, ok_Ss b h1_1 h2_1 h3_1⟩
  | .for t it b, h1, h2, h3 => by
    obtain ⟨h1_l1, h1_1⟩ := AllL.app h1
    have h1_0 := h1_l1
    obtain ⟨h2_l1, h2_1⟩ := AllL.app h2
    have h2_0 := h2_l1
    obtain ⟨h3_l1, h3_1⟩ := AllL.app h3
    have h3_0 := h3_l1
    exact ⟨ok_It it h1_0 h2_0 h3_0, ok_Ss b h1_1 h2_1 h3_1⟩
  | .ret e, h1, h2, h3 => by
    have h1_0 := h1
    have h2_0 := h2
    have h3_0 := h3
    exact ok_E e h1_0 h2_0 h3_0
  | .retn, _, _, _ => trivial
  | .expr e, h1, h2, h3 => by
    have h1_0 := h1
    have h2_0 := h2
    have h3_0 := h3
    exact ok_E e h1_0 h2_0 h3_0
  | .pass, _, _, _ => trivial
  | .brk, _, _, _ => trivial
  | .never, _, _, _ => trivial
theorem ok_Ss : ∀ (e : Ss), AllL P (callsSs e) → AllL (fun k => PK k.1 k.2.1 k.2.2) (kallsSs e) → AllL (fun k => PG k.1 k.2) (gintsSs e) → okSs P PK PG e
  | .nil, _, _, _ => trivial
  | .cons s ss, h1, h2, h3 => by
    obtain ⟨h1_l1, h1_1⟩ := AllL.app h1
    have h1_0 := h1_l1
    obtain ⟨h2_l1, h2_1⟩ := AllL.app h2
    have h2_0 := h2_l1
    obtain ⟨h3_l1, h3_1⟩ := AllL.app h3
    have h3_0 := h3_l1
    exact ⟨ok_S s h1_0 h2_0 h3_0, ok_Ss ss h1_1 h2_1 h3_1⟩
end
end

/-! ### a known def -/
section
variable {P : Program} {w : World} {K : PySem.W.Frag} {mg : Str → Option Value} {base : Heap}
theorem KnD.mono {n j k : Nat} {d : Df} (h : KnD P w K mg base n j d) (l : j ≤ k) : KnD P w K mg base n k d := by
  obtain ⟨f, fd, h1, h2, h3, h4⟩ := h
  exact ⟨f, fd, h1, h2, h3, h4.mono l⟩
theorem KnK.mono {n j k : Nat} {d : Df} {m : Nat} {ks : List Str} (h : KnK P w K mg base n j d m ks) (l : j ≤ k) : KnK P w K mg base n k d m ks := by
  obtain ⟨f, fd, h1, h2, h3, h4⟩ := h
  exact ⟨f, fd, h1, h2, h3, h4.mono l⟩
/-- a def of the head, as a fact about its row -/
structure Row (K : PySem.W.Frag) (mg : Str → Option Value) (d : Df) (st : Stmt) : Prop where
  ex : ∃ (f : Addr) (fd : FuncData), mg d.name = some (.ref f) ∧ FunD K d.name d.name (defArgs st) (defBody st) (defScope st) [] [] f fd
/-- how its parameters are bound -/
def Plain (x : Str) (ps : List Str) (st : Stmt) : Prop := ∀ (kV doc pm : Value) (an : Option Addr) (cdv ct : Value) (us : List Value), us.length = ps.length → bindArgs (PySem.W.fnOf x x (defArgs st) (defBody st) (defScope st) .none kV doc pm an cdv ct) ⟨us, []⟩ = pure (ps.zip us)
def Keyed (x : Str) (ps : List Str) (st : Stmt) (m : Nat) (ks : List Str) : Prop := ∀ (kV doc pm : Value) (an : Option Addr) (cdv ct : Value) (us ws : List Value), us.length = m → ws.length = ks.length →
  bindArgs (PySem.W.fnOf x x (defArgs st) (defBody st) (defScope st) .none kV doc pm an cdv ct) ⟨us, ks.zip ws⟩ = pure (ps.zip (kwArr ps us ks ws))
abbrev OkAll (P : Program) (w : World) (K : PySem.W.Frag) (mg : Str → Option Value) (base : Heap) (n lv : Nat) (b : Ss) : Prop :=
  AllL (KnD P w K mg base n lv) (callsSs b) ∧ AllL (fun k => KnK P w K mg base n lv k.1 k.2.1 k.2.2) (kallsSs b) ∧ AllL (fun k : Str × D => GV K mg k.1 k.2) (gintsSs b)
theorem fnG_row {lv n : Nat} {d : Df} {st : Stmt} (hB : defB d st = true) (hbn : ∀ y ∈ bNames, mg y = none) (ok : OkAll P w K mg base n lv d.body) {f : Addr} {fd : FuncData} (F : FunD K d.name d.name (defArgs st) (defBody st) (defScope st) [] [] f fd) :
    FnG P w K mg base (lv + 1) f fd d.ps (spD K n d) := fnG_of F hB hbn (ok_Ss d.body ok.1 ok.2.1 ok.2.2)
theorem knD_row {lv n : Nat} {d : Df} {st : Stmt} (r : Row K mg d st) (hB : defB d st = true) (hp : Plain d.name d.ps st) (hbn : ∀ y ∈ bNames, mg y = none) (ok : OkAll P w K mg base n lv d.body) : KnD P w K mg base n (lv + 1) d := by
  obtain ⟨f, fd, hm, F⟩ := r.ex
  exact ⟨f, fd, hm, F.kp, F.bindsN hp, fnG_row hB hbn ok F⟩
theorem knK_row {lv n : Nat} {d : Df} {st : Stmt} {m : Nat} {ks : List Str} (r : Row K mg d st) (hB : defB d st = true) (hp : Keyed d.name d.ps st m ks) (hbn : ∀ y ∈ bNames, mg y = none) (ok : OkAll P w K mg base n lv d.body) : KnK P w K mg base n (lv + 1) d m ks := by
  obtain ⟨f, fd, hm, F⟩ := r.ex
  refine ⟨f, fd, hm, F.kp, fun s us ws h1 h2 => ?_, fnG_row hB hbn ok F⟩
  obtain ⟨oc, od, dV, kV, doc, pm, an, cdv, ct, osl, rfl, lk, hcd, hD, hK⟩ := F.ex
  rcases hD with ⟨_, rfl⟩ | ⟨e, _⟩
  · exact .of_eq (hp kV doc pm an cdv ct us ws h1 h2)
  · exact absurd rfl e
end

/-! ### the law's end -/
theorem end_heap {P : Program} {w : World} {H H' : Hp} {h h' : Heap} {O : List Addr} (only : L2.Only H) (un : L2.Un O [] H H' h h') (ho : L2.HOk P w H h) (ho' : L2.HOk P w H' h') (hO : O = []) : OldK h h' := by
  subst hO
  refine OldK.of_keep fun b ob e => ?_
  cases hb : H b with
  | none => exact un.keep b ob e hb (fun z => (List.not_mem_nil z).elim) (fun z => (List.not_mem_nil z).elim)
  | some u =>
    rcases only b with z | ⟨o1, xs, z⟩
    · rw [hb] at z
      cases z
    · have g1 := (ho b _ z).1
      have g2 := (ho' b _ (un.frzs b o1 _ z)).1
      rw [e] at g1
      cases g1
      exact g2
theorem heap_ns {h : Heap} {H : Hp} {a : Addr} {vs : List Value} (ha : h.get? a = some { cls := .type "list", data := .seq vs.toArray }) (only : ∀ b, H b ≠ none → b = a) {b : Addr} {m : Str → Option Value} (q : h.Ns b m) : (hidT h H).Ns b m := by
  obtain ⟨o, es, ep, e, d, r⟩ := q
  refine ⟨o, es, ep, hidT_get e ?_, d, r⟩
  cases hb : H b with
  | none => rfl
  | some u =>
    have eb := only b (by rw [hb]; exact nofun)
    rw [eb, ha] at e
    have e2 := Option.some.inj e
    rw [← e2] at d
    cases d
/-- the call of the law, its script the object at a -/
theorem sn_call {P : Program} {w : World} {K : PySem.W.Frag} {mg mb : Str → Option Value} {lv n : Nat} {fa a : Addr} {fd : FuncData} {x : Str} {law : Df} {t : Shared} {vs : List Value} {ns : List Int}
    (KX : K.In t.heap) (hns : t.heap.Ns mainGlobals mg) (hb : t.heap.Ns builtinsNs mb) (hbb : ∀ y : Str, y ≠ "__name__" → mb y = bootBuiltins y) (hlim : t.heap.NoLimit) (hg : t.gens = #[])
    (ha : t.heap.get? a = some { cls := .type "list", data := .seq vs.toArray }) (hi : IntsAre vs ns) (hl : ns.length ≤ sizeLine) (hr : Room lv callerA)
    (F : ∀ base : Heap, K.In base → base.Ns mainGlobals mg → FnG P w K mg base lv fa fd [x] (spD K n law)) (hps : law.ps.length = 1) (hbind : ∀ (s : Shared) (u : Value), BindsTo s fd ⟨[u], []⟩ [(x, u)])
    (hev : callD n law [.scr (ns.map D.int)] [] = .ok (.bl true) []) :
    codeAny (model P w) callerA (.call (.ref fa) ⟨[.ref a], []⟩) (fun r s' => r = .ok (.ret (.bool true)) ∧ OldK t.heap s'.heap ∧ s'.os = t.os ∧ AllBare s'.gens) t := by
  have hv := vals_ints hi
  have hn := hi.length
  have main : ∀ H : Hp, L2.Only H → SqL K H a (ns.map V.int) → HOk P w H t.heap → (∀ b, H b ≠ none → b = a) → (H a ≠ none → K.lookup a = none) →
      codeAny (model P w) callerA (.call (.ref fa) ⟨[.ref a], []⟩) (fun r s' => r = .ok (.ret (.bool true)) ∧ OldK t.heap s'.heap ∧ s'.os = t.os ∧ AllBare s'.gens) t := by
    intro H only hS hok hA hK
    have kb : K.In (hidT t.heap H) := fun b o e => hidT_get (KX b o e) (by
      cases q : H b with
      | none => rfl
      | some u =>
        have eb := hA b (by rw [q]; exact nofun)
        rw [eb] at e q
        rw [hK (by rw [q]; exact nofun)] at e
        cases e)
    have md : Mod K mg (hidT t.heap H) := ⟨kb, heap_ns ha hA hns, ⟨mb, heap_ns ha hA hb, hbb⟩, let ⟨mc, h1, h2⟩ := hlim; ⟨mc, heap_ns ha hA h1, h2⟩⟩
    have en : Env0 P w K mg (hidT t.heap H) callerA [] t H := ⟨rfl, md, fun b o e => of_hidT e, Nat.le_of_eq (hidT_size _ _), trivial, fun b hb => (List.not_mem_nil hb).elim, hok, .of_eq hg⟩
    have reps : ∀ {W : Wd} (is : List Int), Reps K W (is.map V.int) (is.map D.int) := fun {W} is => by
      induction is with
      | nil => exact .nil
      | cons i is ih => exact .cons (.int i) ih
    let W0 : Wd := ⟨[], [], fun _ => False, H⟩
    have nf0 : ∀ b, ¬ W0.nf b := fun b z => by
      rcases z with ⟨n, xs, e, _⟩ | z
      · exact nomatch (show (([] : Mem)[n]?).join = some xs from e)
      · exact z
    have m0 : MR K W0 := ⟨rfl, fun n xs e => (nomatch (show (([] : Mem)[n]?).join = some xs from e)), fun m n a xs ys e => (nomatch (show (([] : Mem)[m]?).join = some xs from e)), fun b z => z.elim⟩
    have r0 : Rep K W0 (.ref a) (.scr (ns.map D.int)) := .scr (hS.imp (fun z => ⟨z, nf0 a⟩) id) (reps ns)
    have goal : spD K n law [.ref a] H (fun v _ => v = .bl true) E0 := ⟨hps.symm, [.scr (ns.map D.int)], W0, rfl, .cons r0 .nil, m0, by
      show After (callD n law [.scr (ns.map D.int)] []) _
      rw [hev]
      exact fun W1 v _ _ _ r => r.bl'⟩
    refine codeAny_mono ((F _ kb (heap_ns ha hA hns)).run callerA [] t H ⟨[.ref a], []⟩ [.ref a] [.ref a] _ _ hr rfl en (hbind t (.ref a)) (.cons rfl .nil) goal) fun r s' h => ?_
    match r, h with
    | .error e, h => exact False.elim h
    | .ok .next, h => exact False.elim h
    | .ok .brk, h => exact False.elim h
    | .ok .cont, h => exact False.elim h
    | .ok (.ret u), ⟨v, H', ho, hbare, un, hok', hrel, hq⟩ =>
      have hq : v = .bl true := hq
      subst hq
      cases (show u = Value.bool true from hrel)
      exact ⟨rfl, end_heap only un hok hok' rfl, ho, hbare⟩
  by_cases hk : ∃ o, K.lookup a = some o
  · obtain ⟨o, hk⟩ := hk
    have e := KX a o hk
    rw [ha] at e
    cases e
    exact main (fun _ => none) (fun _ => .inl rfl) (.inr ⟨_, vs.toArray, _, hk, rfl, rfl, rfl, by rw [List.size_toArray, hn]; exact hl, by simpa using hv⟩) (fun b u z => by cases (show (none : Option HO) = some u from z)) (fun b z => absurd rfl z) fun z => absurd rfl z
  · have hk : K.lookup a = none := by
      cases q : K.lookup a with
      | none => rfl
      | some o => exact absurd ⟨o, q⟩ hk
    let H1 : Hp := fun b => if b = a then some (.frz { cls := .type "list", data := .seq vs.toArray } (.lst (ns.map V.int))) else none
    have at_a : H1 a = some (.frz { cls := .type "list", data := .seq vs.toArray } (.lst (ns.map V.int))) := if_pos rfl
    have off : ∀ b, b ≠ a → H1 b = none := fun b hb => if_neg hb
    refine main H1 (fun b => ?_) (.inl (.inr ⟨_, at_a⟩)) (fun b u z => ?_) (fun b z => ?_) fun _ => hk
    · rcases Classical.em (b = a) with rfl | hb
      · exact .inr ⟨_, _, at_a⟩
      · exact .inl (off b hb)
    · rcases Classical.em (b = a) with rfl | hb
      · rw [at_a] at z
        cases z
        exact ⟨ha, by rw [List.length_map]; exact hl, vs, _, hv, ha⟩
      · rw [off b hb] at z
        cases z
    · rcases Classical.em (b = a) with e | hb
      · exact e
      · exact absurd (off b hb) z
theorem sn_walk {l : PySem.W.OpenLaw} {most lv : Nat} {q : Program} {loose : List Str} {XP : (Str → Option Value) → Heap → Prop} {YP : World → Heap → Prop} {d : DefRec} {x : Str} {law : Df}
    (hn : l.most = some most) (hn2 : most ≤ sizeLine) (hdf : d.params.defaults = []) (hr : Room lv callerA) (hps : law.ps = [x])
    (F : ∀ (w : World) (mg : Str → Option Value) (fa : Addr) (h : Heap), YP w h → h.Ns mainGlobals mg → mg d.name = some (.ref fa) →
      ∃ (K : PySem.W.Frag) (fd : FuncData), K.In h ∧ (∀ (s : Shared) (u : Value), BindsTo s fd ⟨[u], []⟩ [(x, u)]) ∧ ∀ (n : Nat) (base : Heap), K.In base → base.Ns mainGlobals mg → FnG l.prog w K mg base lv fa fd law.ps (spD K n law))
    (ev : ∀ ns : List Int, ns.length ≤ most → (∀ k ∈ ns, Builtin.Int.intBits k ≤ 1048576) → ∃ n, callD n law [.scr (ns.map D.int)] [] = .ok (.bl true) []) :
    PySem.W.WalkO q loose XP YP l.row.toRowW d [] (fun f vs => PySem.call f vs) := by
  refine Att.attach_callB hn hdf fun w s₀ s₁ mg mb fa o pm cd doc a vs ns G Y ho hd hcd hmg hobj hints hlen hbits hg => ?_
  obtain ⟨K, fd, KX, hb, hF⟩ := F w mg fa _ Y G.T.g hmg
  obtain ⟨n, hev⟩ := ev ns hlen hbits
  exact sn_call (x := x) KX G.T.g G.T.b G.T.builtins G.T.nolimit hg hobj hints (Nat.le_trans hlen hn2) hr (fun base h1 h2 => by have := hF n base h1 h2; rw [hps] at this; exact this) (by rw [hps]; rfl) hb hev
end Sn
namespace Sn
open PySem PySem.Spec PyProof.Rows L2
/-- one def's data at one address -/
theorem funD_unique {K : PySem.W.Frag} {x qual : Str} {params : Arguments} {body : List Stmt} {scope : Scope} {dvs : List V} {kws : List (Str × V)} {f : Addr} {fd fd2 : FuncData} (F : FunD K x qual params body scope dvs kws f fd) (F2 : FunD K x qual params body scope dvs kws f fd2) : fd = fd2 := by
  obtain ⟨_, _, _, _, _, _, _, _, _, _, _, l1, _⟩ := F.ex
  obtain ⟨_, _, _, _, _, _, _, _, _, _, _, l2, _⟩ := F2.ex
  have l1' := l1.symm.trans l2
  injection l1' with l1'
  injection l1' with _ _ l3 _
  injection l3
/-- a tuple of ints at the top -/
theorem gv_tup {K : PySem.W.Frag} {mg : Str → Option Value} {x : Str} {is : List Int} (hm : mg x = some (.ref (He.ga K x))) (h : He.tupB K x (is.map He.Dv.int) = true) : GV K mg x (.tup (is.map D.int)) := by
  have z := He.tupB_ok h (fun _ => none)
  have reps : ∀ {W : Wd} (is : List Int), Reps K W ((is.map He.Dv.int).map (He.Dv.v K)) (is.map D.int) := fun {W} is => by
    induction is with
    | nil => exact .nil
    | cons i is ih => exact .cons (.int i) ih
  refine ⟨.ref (He.ga K x), _, hm, rfl, fun W => .tup (.inr ?_) (reps is)⟩
  rcases z with z | z
  · rcases z with z | ⟨_, z⟩ <;> cases z
  · exact z
end Sn
namespace My
open PySem PySem.Spec PyProof.Rows L2
def top (i : Nat) : Stmt := PySem.Challenge.pw_sunsheets_k26_open_ones.main.body.getD i (.Pass ⟨0, 0, 0, 0⟩)
def mkD (x : Str) (i : Nat) : He.DefD := ⟨(x, none), x, x, defArgs (top i), defBody (top i), defScope (top i), [], []⟩
def fn : List He.DefD := [mkD "is_integer" 6, mkD "common_divisor" 7, mkD "are_integers" 8, mkD "is_place_value" 9, mkD "is_sheet_value" 10, mkD "first_wrong" 11, mkD "are_some" 12, mkD "stack_fault" 13, mkD "is_hole_of" 14, mkD "require_place" 15, mkD "require_stack" 16, mkD "is_in" 18, mkD "open_at" 20, mkD "_law_pool" 22, mkD "_law_draw" 23, mkD "_law_by" 24, mkD "_law_spot" 25, mkD "_law_sum" 26, mkD "_law_times" 27, mkD "_law_open" 28, mkD "_law_leaf" 29, mkD "_law_pile" 30, mkD "_law_marks" 31, mkD "_law_crowd" 32, mkD "_law_great" 33, mkD "_law_right" 34, mkD "law" 35]
def fa : List He.Fa := [.glo "is_integer", .glo "common_divisor", .glo "are_integers", .glo "is_place_value", .glo "is_sheet_value", .glo "first_wrong", .glo "are_some", .glo "stack_fault", .glo "is_hole_of", .glo "require_place", .glo "require_stack", .glo "is_in", .glo "open_at", .glo "_law_pool", .glo "_law_draw", .glo "_law_by", .glo "_law_spot", .glo "_law_sum", .glo "_law_times", .glo "_law_open", .glo "_law_leaf", .glo "_law_pile", .glo "_law_marks", .glo "_law_crowd", .glo "_law_great", .glo "_law_right", .glo "law"] ++ [.free "len", .free "abs", .free "int", .free "str", .free "repr", .free "max", .free "min", .free "all", .free "any", .free "sum", .free "tuple", .free "list", .free "bool", .free "divmod", .free "isinstance", .free "range", .free "enumerate", .free "zip"] ++ [.int "MOST_SHEETS" 6] ++ []
abbrev R : PySem.W.OpenRow := PySem.W.OpenLaw.row PySem.Challenge.rw_sunsheets_k26_open_ones
abbrev hk : PySem.W.Hook := He.hookD 4 fa fn
def ob (s : PySem.W.SharedT) : He.AlD := He.obsDG 4 fa fn (HandSHeadRun.getT s)
theorem ob_eq (s : PySem.W.SharedT) : ob s = hk.obs s.abs := He.obsDG_eq (HandSHeadRun.getT_eq s)
def loose : List PySem.Str := (["SheetError", "InvalidPlace", "InvalidStack", "MOST_SHEETS", "is_integer", "common_divisor", "are_integers", "is_place_value", "is_sheet_value", "first_wrong", "are_some", "stack_fault", "is_hole_of", "require_place", "require_stack", "is_in", "open_at", "_law_pool", "_law_draw", "_law_by", "_law_spot", "_law_sum", "_law_times", "_law_open", "_law_leaf", "_law_pile", "_law_marks", "_law_crowd", "_law_great", "_law_right"] : List PySem.Str)
theorem run (w : World) : HandSHeadRun.RunEq R (PySem.W.view R.prog [35]) hk ob 3000 loose w := by
  intro os
  kernel_rfl
end My
namespace My
open Sn
open PySem PySem.Spec PyProof.Rows L2
def d_is_integer : Df := .mk "is_integer" false ["value"] ["value"] (
  .cons (.ret (.and (.isi .int (.var 0)) (.not (.isi .bool (.var 0)))))
   .nil)
def d_common_divisor : Df := .mk "common_divisor" false ["one", "other"] ["one", "other"] (
  .cons (.asg (.tp [(.nm 0), (.nm 1)]) (.tup (.cons (.prim false .abs (.cons (.var 0) .nil)) (.cons (.prim false .abs (.cons (.var 1) .nil)) .nil))))
   (.cons (.whl (.cmp .gt (.var 1) (.int 0)) (.cons (.asg (.tp [(.nm 0), (.nm 1)]) (.tup (.cons (.var 1) (.cons (.bin false .mod (.var 0) (.var 1)) .nil))))
   .nil))
   (.cons (.ret (.var 0))
   .nil)))
def d_are_integers : Df := .mk "are_integers" false ["value", "many"] ["value", "many", "item"] (
  .cons (.ret (.and (.isi .tuple (.var 0)) (.and (.cmp .eq (.prim false .len (.cons (.var 0) .nil)) (.var 1)) (.prim false .all (.cons (.comp false [2] (.call d_is_integer (.cons (.var 2) .nil)) (.nm 2) (.of (.var 0)) .none) .nil)))))
   .nil)
def d_is_place_value : Df := .mk "is_place_value" false ["value"] ["value"] (
  .cons (.ite (.or (.not (.call d_are_integers (.cons (.var 0) (.cons (.int 3) .nil)))) (.cmp .lt (.ix (.var 0) (.int 2)) (.int 1))) (.cons (.ret (.bl false))
   .nil) (.nil))
   (.cons (.ret (.cmp .eq (.call d_common_divisor (.cons (.call d_common_divisor (.cons (.ix (.var 0) (.int 0)) (.cons (.ix (.var 0) (.int 1)) .nil))) (.cons (.ix (.var 0) (.int 2)) .nil))) (.int 1)))
   .nil))
def d_is_sheet_value : Df := .mk "is_sheet_value" false ["value"] ["value", "item"] (
  .cons (.ite (.or (.not (.isi .tuple (.var 0))) (.or (.cmp .ne (.prim false .len (.cons (.var 0) .nil)) (.int 2)) (.not (.prim false .all (.cons (.comp false [1] (.call d_is_place_value (.cons (.var 1) .nil)) (.nm 1) (.of (.var 0)) .none) .nil))))) (.cons (.ret (.bl false))
   .nil) (.nil))
   (.cons (.ret (.cmp .ne (.ix (.var 0) (.int 0)) (.tup (.cons (.int 0) (.cons (.int 0) (.cons (.int 1) .nil))))))
   .nil))
def d_first_wrong : Df := .mk "first_wrong" false ["rights"] ["rights"] (
  .cons (.ret (.ite (.inn (.bl false) (.var 0)) (.tup (.cons (.never) .nil)) (.tup .nil)))
   .nil)
def d_are_some : Df := .mk "are_some" false ["value", "least", "most"] ["value", "least", "most"] (
  .cons (.ret (.and (.isi .list (.var 0)) (.chain .le .le (.var 1) (.prim false .len (.cons (.var 0) .nil)) (.var 2))))
   .nil)
def d_stack_fault : Df := .mk "stack_fault" false ["value"] ["value", "item"] (
  .cons (.ite (.not (.call d_are_some (.cons (.var 0) (.cons (.int 1) (.cons (.gint "MOST_SHEETS" 6) .nil))))) (.cons (.ret (.tup (.cons (.non) .nil)))
   .nil) (.nil))
   (.cons (.ret (.call d_first_wrong (.cons (.comp false [1] (.call d_is_sheet_value (.cons (.var 1) .nil)) (.nm 1) (.of (.var 0)) .none) .nil)))
   .nil))
def d_is_hole_of : Df := .mk "is_hole_of" false ["sheet", "place"] ["sheet", "place", "x", "y", "part", "right", "up", "fine", "wide", "high", "below"] (
  .cons (.asg (.tp [(.tp [(.nm 2), (.nm 3), (.nm 4)]), (.tp [(.nm 5), (.nm 6), (.nm 7)])]) (.var 0))
   (.cons (.asg (.tp [(.nm 8), (.nm 9)]) (.tup (.cons (.bin false .sub (.bin false .mul (.ix (.var 1) (.int 0)) (.var 7)) (.bin false .mul (.var 5) (.ix (.var 1) (.int 2)))) (.cons (.bin false .sub (.bin false .mul (.ix (.var 1) (.int 1)) (.var 7)) (.bin false .mul (.var 6) (.ix (.var 1) (.int 2)))) .nil))))
   (.cons (.asg (.nm 10) (.bin false .mul (.bin false .mul (.ix (.var 1) (.int 2)) (.var 7)) (.bin false .add (.bin false .mul (.var 2) (.var 2)) (.bin false .mul (.var 3) (.var 3)))))
   (.cons (.ret (.chain .eq .eq (.bin false .mod (.bin false .mul (.bin false .add (.bin false .mul (.var 8) (.var 2)) (.bin false .mul (.var 9) (.var 3))) (.var 4)) (.var 10)) (.int 0) (.bin false .mod (.bin false .mul (.bin false .sub (.bin false .mul (.var 9) (.var 2)) (.bin false .mul (.var 8) (.var 3))) (.var 4)) (.var 10))))
   .nil))))
def d_require_place : Df := .mk "require_place" false ["place"] ["place"] (
  .cons (.ite (.not (.call d_is_place_value (.cons (.var 0) .nil))) (.cons (.never)
   .nil) (.nil))
   .nil)
def d_require_stack : Df := .mk "require_stack" false ["stack"] ["stack", "fault"] (
  .cons (.asg (.nm 1) (.call d_stack_fault (.cons (.var 0) .nil)))
   (.cons (.ite (.cmp .ne (.var 1) (.tup .nil)) (.cons (.never)
   .nil) (.nil))
   .nil))
def d_is_in : Df := .mk "is_in" false ["sheet", "place"] ["sheet", "place"] (
  .cons (.ret (.call d_is_hole_of (.cons (.var 0) (.cons (.var 1) .nil))))
   .nil)
def d_open_at : Df := .mk "open_at" true ["stack", "place"] ["stack", "place", "index", "sheet"] (
  .cons (.expr (.call d_require_stack (.cons (.var 0) .nil)))
   (.cons (.expr (.call d_require_place (.cons (.var 1) .nil)))
   (.cons (.ret (.comp true [2, 3] (.var 2) (.tp [(.nm 2), (.nm 3)]) (.enum (.var 0)) (.some (.call d_is_in (.cons (.var 3) (.cons (.var 1) .nil))))))
   .nil)))
def d__law_pool : Df := .mk "_law_pool" true ["_law_script", "_law_at"] ["_law_script", "_law_at", "_law_cell"] (
  .cons (.asg (.nm 2) (.ite (.cmp .lt (.var 1) (.prim false .len (.cons (.var 0) .nil))) (.ix (.var 0) (.var 1)) (.int 0)))
   (.cons (.ret (.lst true (.cons (.prim false .max (.cons (.int 0) (.cons (.bin false .sub (.prim false .abs (.cons (.var 2) .nil)) (.bin false .pow (.int 10) (.int 18))) .nil))) (.cons (.bin false .add (.bin false .mod (.prim false .int (.cons (.var 2) .nil)) (.bin false .add (.bin false .pow (.int 10) (.int 21)) (.int 117))) (.bin false .mul (.int 4447) (.bin false .add (.var 1) (.int 1)))) (.cons (.int 0) .nil)))))
   .nil))
def d__law_draw : Df := .mk "_law_draw" false ["_law_pool_here", "_law_top"] ["_law_pool_here", "_law_top", "_law_drawn", "_law_mixed"] (
  .cons (.ite (.cmp .gt (.ix (.var 0) (.int 0)) (.int 0)) (.cons (.asg (.nm 2) (.bin false .mod (.prim false .int (.cons (.ix (.var 0) (.int 0)) .nil)) (.var 1)))
   (.cons (.setix (.var 0) (.int 0) (.bin false .fdiv (.ix (.var 0) (.int 0)) (.var 1)))
   (.cons (.ret (.var 2))
   .nil))) (.nil))
   (.cons (.setix (.var 0) (.int 2) (.bin false .add (.ix (.var 0) (.int 2)) (.int 1)))
   (.cons (.asg (.nm 3) (.bin false .mod (.prim false .int (.cons (.bin false .pow (.bin false .add (.ix (.var 0) (.int 1)) (.bin false .mul (.int 524287) (.ix (.var 0) (.int 2)))) (.int 3)) .nil)) (.bin false .add (.bin false .pow (.int 10) (.int 44)) (.int 31))))
   (.cons (.asg (.nm 3) (.bin false .mod (.prim false .int (.cons (.bin false .pow (.bin false .add (.var 3) (.bin false .mul (.int 6700417) (.ix (.var 0) (.int 2)))) (.int 3)) .nil)) (.bin false .add (.bin false .pow (.int 10) (.int 50)) (.int 151))))
   (.cons (.ret (.bin false .mod (.prim false .int (.cons (.bin false .fdiv (.var 3) (.int 131071)) .nil)) (.var 1)))
   .nil)))))
def d__law_by : Df := .mk "_law_by" false ["_law_one", "_law_other"] ["_law_one", "_law_other"] (
  .cons (.asg (.tp [(.nm 0), (.nm 1)]) (.tup (.cons (.prim false .abs (.cons (.var 0) .nil)) (.cons (.prim false .abs (.cons (.var 1) .nil)) .nil))))
   (.cons (.whl (.cmp .gt (.var 1) (.int 0)) (.cons (.asg (.tp [(.nm 0), (.nm 1)]) (.tup (.cons (.var 1) (.cons (.bin false .mod (.prim false .int (.cons (.var 0) .nil)) (.var 1)) .nil))))
   .nil))
   (.cons (.ret (.var 0))
   .nil)))
def d__law_spot : Df := .mk "_law_spot" false ["_law_x", "_law_y", "_law_part"] ["_law_x", "_law_y", "_law_part", "_law_by_here"] (
  .cons (.asg (.nm 3) (.call d__law_by (.cons (.call d__law_by (.cons (.var 0) (.cons (.var 1) .nil))) (.cons (.var 2) .nil))))
   (.cons (.ite (.cmp .lt (.var 2) (.int 0)) (.cons (.asg (.nm 3) (.bin false .sub (.int 0) (.var 3)))
   .nil) (.nil))
   (.cons (.ret (.tup (.cons (.bin false .fdiv (.var 0) (.var 3)) (.cons (.bin false .fdiv (.var 1) (.var 3)) (.cons (.bin false .fdiv (.var 2) (.var 3)) .nil)))))
   .nil)))
def d__law_sum : Df := .mk "_law_sum" false ["_law_one", "_law_two"] ["_law_one", "_law_two"] (
  .cons (.ret (.call d__law_spot (.cons (.bin false .add (.bin false .mul (.ix (.var 0) (.int 0)) (.ix (.var 1) (.int 2))) (.bin false .mul (.ix (.var 1) (.int 0)) (.ix (.var 0) (.int 2)))) (.cons (.bin false .add (.bin false .mul (.ix (.var 0) (.int 1)) (.ix (.var 1) (.int 2))) (.bin false .mul (.ix (.var 1) (.int 1)) (.ix (.var 0) (.int 2)))) (.cons (.bin false .mul (.ix (.var 0) (.int 2)) (.ix (.var 1) (.int 2))) .nil)))))
   .nil)
def d__law_times : Df := .mk "_law_times" false ["_law_one", "_law_two"] ["_law_one", "_law_two", "_law_right_here"] (
  .cons (.asg (.nm 2) (.bin false .sub (.bin false .mul (.ix (.var 0) (.int 0)) (.ix (.var 1) (.int 0))) (.bin false .mul (.ix (.var 0) (.int 1)) (.ix (.var 1) (.int 1)))))
   (.cons (.ret (.call d__law_spot (.cons (.var 2) (.cons (.bin false .add (.bin false .mul (.ix (.var 0) (.int 0)) (.ix (.var 1) (.int 1))) (.bin false .mul (.ix (.var 0) (.int 1)) (.ix (.var 1) (.int 0)))) (.cons (.bin false .mul (.ix (.var 0) (.int 2)) (.ix (.var 1) (.int 2))) .nil)))))
   .nil))
def d__law_open : Df := .mk "_law_open" false ["_law_leaf_here", "_law_spot_here"] ["_law_leaf_here", "_law_spot_here", "_law_a", "_law_b", "_law_r", "_law_u", "_law_v", "_law_q", "_law_x", "_law_y", "_law_p", "_law_right_here", "_law_up", "_law_whole"] (
  .cons (.asg (.tp [(.tp [(.nm 2), (.nm 3), (.nm 4)]), (.tp [(.nm 5), (.nm 6), (.nm 7)])]) (.var 0))
   (.cons (.asg (.tp [(.nm 8), (.nm 9), (.nm 10)]) (.var 1))
   (.cons (.asg (.tp [(.nm 11), (.nm 12)]) (.tup (.cons (.bin false .sub (.bin false .mul (.var 8) (.var 7)) (.bin false .mul (.var 5) (.var 10))) (.cons (.bin false .sub (.bin false .mul (.var 9) (.var 7)) (.bin false .mul (.var 6) (.var 10))) .nil))))
   (.cons (.asg (.nm 13) (.bin false .mul (.bin false .mul (.var 10) (.var 7)) (.bin false .add (.bin false .mul (.var 2) (.var 2)) (.bin false .mul (.var 3) (.var 3)))))
   (.cons (.ite (.cmp .ne (.bin false .mod (.prim false .int (.cons (.bin false .mul (.bin false .add (.bin false .mul (.var 11) (.var 2)) (.bin false .mul (.var 12) (.var 3))) (.var 4)) .nil)) (.var 13)) (.int 0)) (.cons (.ret (.bl false))
   .nil) (.nil))
   (.cons (.ret (.cmp .eq (.bin false .mod (.prim false .int (.cons (.bin false .mul (.bin false .sub (.bin false .mul (.var 12) (.var 2)) (.bin false .mul (.var 11) (.var 3))) (.var 4)) .nil)) (.var 13)) (.int 0)))
   .nil))))))
def d__law_leaf : Df := .mk "_law_leaf" false ["_law_pool_here"] ["_law_pool_here", "_law_steps", "_law_step", "_law_unit", "_law_part", "_law_right_here", "_law_up"] (
  .cons (.asg (.nm 1) (.lst false (.cons (.tup (.cons (.int 1) (.cons (.int 0) (.cons (.int 1) .nil)))) (.cons (.tup (.cons (.int 1) (.cons (.int 1) (.cons (.int 1) .nil)))) (.cons (.tup (.cons (.int 2) (.cons (.int 0) (.cons (.int 1) .nil)))) (.cons (.tup (.cons (.int 2) (.cons (.int 1) (.cons (.int 1) .nil)))) (.cons (.tup (.cons (.int 1) (.cons (.int 2) (.cons (.int 1) .nil)))) (.cons (.tup (.cons (.int 3) (.cons (.int 1) (.cons (.int 1) .nil)))) (.cons (.tup (.cons (.int 1) (.cons (.int 0) (.cons (.int 2) .nil)))) (.cons (.tup (.cons (.int 1) (.cons (.int 1) (.cons (.int 2) .nil)))) (.cons (.tup (.cons (.int 3) (.cons (.int 4) (.cons (.int 5) .nil)))) .nil)))))))))))
   (.cons (.asg (.nm 1) (.bin false .add (.var 1) (.lst false (.cons (.tup (.cons (.int 4) (.cons (.int 3) (.cons (.int 5) .nil)))) (.cons (.tup (.cons (.int 2) (.cons (.int 1) (.cons (.int 5) .nil)))) (.cons (.tup (.cons (.int 1) (.cons (.int 3) (.cons (.int 1) .nil)))) (.cons (.tup (.cons (.int 3) (.cons (.neg (.int 1)) (.cons (.int 1) .nil)))) (.cons (.tup (.cons (.int 5) (.cons (.int 0) (.cons (.int 1) .nil)))) (.cons (.tup (.cons (.int 3) (.cons (.int 1) (.cons (.int 2) .nil)))) (.cons (.tup (.cons (.int 5) (.cons (.int 5) (.cons (.int 1) .nil)))) .nil))))))))))
   (.cons (.asg (.tp [(.nm 2), (.nm 3)]) (.tup (.cons (.ix (.var 1) (.call d__law_draw (.cons (.var 0) (.cons (.int 16) .nil)))) (.cons (.ix (.lst false (.cons (.tup (.cons (.int 1) (.cons (.int 0) (.cons (.int 1) .nil)))) (.cons (.tup (.cons (.int 0) (.cons (.int 1) (.cons (.int 1) .nil)))) (.cons (.tup (.cons (.neg (.int 1)) (.cons (.int 0) (.cons (.int 1) .nil)))) (.cons (.tup (.cons (.int 0) (.cons (.neg (.int 1)) (.cons (.int 1) .nil)))) .nil))))) (.call d__law_draw (.cons (.var 0) (.cons (.int 4) .nil)))) .nil))))
   (.cons (.asg (.nm 4) (.ix (.lst false (.cons (.int 1) (.cons (.int 1) (.cons (.int 2) (.cons (.int 5) .nil))))) (.call d__law_draw (.cons (.var 0) (.cons (.int 4) .nil)))))
   (.cons (.asg (.tp [(.nm 5), (.nm 6)]) (.tup (.cons (.call d__law_draw (.cons (.var 0) (.cons (.bin false .mul (.int 10) (.var 4)) .nil))) (.cons (.call d__law_draw (.cons (.var 0) (.cons (.bin false .mul (.int 10) (.var 4)) .nil))) .nil))))
   (.cons (.ite (.cmp .eq (.call d__law_draw (.cons (.var 0) (.cons (.int 4) .nil))) (.int 0)) (.cons (.asg (.tp [(.nm 5), (.nm 6)]) (.tup (.cons (.bin false .add (.var 5) (.bin false .mul (.bin false .pow (.int 10) (.int 18)) (.var 4))) (.cons (.bin false .sub (.var 6) (.bin false .mul (.bin false .pow (.int 10) (.int 17)) (.var 4))) .nil))))
   .nil) (.nil))
   (.cons (.ret (.tup (.cons (.call d__law_times (.cons (.var 2) (.cons (.var 3) .nil))) (.cons (.call d__law_spot (.cons (.var 5) (.cons (.var 6) (.cons (.var 4) .nil)))) .nil))))
   .nil)))))))
def d__law_pile : Df := .mk "_law_pile" false ["_law_pool_here", "_law_most"] ["_law_pool_here", "_law_most", "_law_found", "_law_turn", "_law_step", "_law_base"] (
  .cons (.asg (.nm 2) (.comp true [3] (.call d__law_leaf (.cons (.var 0) .nil)) (.nm 3) (.range1 (.bin false .add (.int 1) (.call d__law_draw (.cons (.var 0) (.cons (.var 1) .nil))))) .none))
   (.cons (.ite (.and (.cmp .lt (.prim false .len (.cons (.var 2) .nil)) (.var 1)) (.cmp .eq (.call d__law_draw (.cons (.var 0) (.cons (.int 4) .nil))) (.int 0))) (.cons (.asg (.tp [(.nm 4), (.nm 5)]) (.ix (.var 2) (.call d__law_draw (.cons (.var 0) (.cons (.prim false .len (.cons (.var 2) .nil)) .nil)))))
   (.cons (.expr (.meth .append (.var 2) (.cons (.tup (.cons (.call d__law_times (.cons (.var 4) (.cons (.tup (.cons (.int 0) (.cons (.int 1) (.cons (.int 1) .nil)))) .nil))) (.cons (.call d__law_sum (.cons (.var 5) (.cons (.call d__law_times (.cons (.var 4) (.cons (.tup (.cons (.int 2) (.cons (.neg (.int 3)) (.cons (.int 1) .nil)))) .nil))) .nil))) .nil))) .nil)))
   .nil)) (.nil))
   (.cons (.ret (.var 2))
   .nil)))
def d__law_marks : Df := .mk "_law_marks" false ["_law_leaf_here"] ["_law_leaf_here", "_law_a", "_law_b", "_law_r", "_law_u", "_law_v", "_law_q", "_law_first", "_law_found", "_law_rows", "_law_x", "_law_y", "_law_spot_here"] (
  .cons (.asg (.tp [(.tp [(.nm 1), (.nm 2), (.nm 3)]), (.tp [(.nm 4), (.nm 5), (.nm 6)])]) (.var 0))
   (.cons (.asg (.nm 7) (.tup (.cons (.bin false .mod (.prim false .int (.cons (.bin false .mul (.var 4) (.bin false .fdiv (.int 10) (.var 6))) .nil)) (.int 100)) (.cons (.bin false .mod (.prim false .int (.cons (.bin false .mul (.var 5) (.bin false .fdiv (.int 10) (.var 6))) .nil)) (.int 100)) .nil))))
   (.cons (.asg (.tp [(.nm 1), (.nm 2)]) (.tup (.cons (.bin false .mul (.var 1) (.bin false .fdiv (.int 10) (.var 3))) (.cons (.bin false .mul (.var 2) (.bin false .fdiv (.int 10) (.var 3))) .nil))))
   (.cons (.never)
   (.cons (.whl (.cmp .ne (.var 9) (.lst false .nil)) (.cons (.asg (.tp [(.nm 10), (.nm 11)]) (.meth .pop (.var 9) .nil))
   (.cons (.for (.nm 12) (.of (.tup (.cons (.tup (.cons (.bin false .mod (.prim false .int (.cons (.bin false .add (.var 10) (.var 1)) .nil)) (.int 100)) (.cons (.bin false .mod (.prim false .int (.cons (.bin false .add (.var 11) (.var 2)) .nil)) (.int 100)) .nil))) (.cons (.tup (.cons (.bin false .mod (.prim false .int (.cons (.bin false .sub (.var 10) (.var 2)) .nil)) (.int 100)) (.cons (.bin false .mod (.prim false .int (.cons (.bin false .add (.var 11) (.var 1)) .nil)) (.int 100)) .nil))) .nil)))) (.cons (.ite (.nin (.var 12) (.var 8)) (.cons (.setix (.var 8) (.var 12) (.bl true))
   (.cons (.expr (.meth .append (.var 9) (.cons (.var 12) .nil)))
   .nil)) (.nil))
   .nil))
   .nil)))
   (.cons (.ret (.prim false .list (.cons (.var 8) .nil)))
   .nil))))))
def d__law_crowd : Df := .mk "_law_crowd" false ["_law_pile_here"] ["_law_pile_here", "_law_found", "_law_k", "_law_leaf_here", "_law_spot_here", "_law_row"] (
  .cons (.never)
   (.cons (.for (.tp [(.nm 2), (.nm 3)]) (.enum (.var 0)) (.cons (.for (.nm 4) (.of (.call d__law_marks (.cons (.var 3) .nil))) (.cons (.asg (.nm 5) (.never))
   (.cons (.expr (.meth .append (.var 5) (.cons (.var 2) .nil)))
   .nil)))
   .nil))
   (.cons (.ret (.var 1))
   .nil)))
def d__law_great : Df := .mk "_law_great" false ["_law_pool_here"] ["_law_pool_here", "_law_far", "_law_part", "_law_x", "_law_y", "_law_u", "_law_v"] (
  .cons (.asg (.tp [(.nm 1), (.nm 2)]) (.tup (.cons (.ix (.lst false (.cons (.int 10) (.cons (.bin false .pow (.int 10) (.int 9)) (.cons (.bin false .pow (.int 10) (.int 18)) .nil)))) (.call d__law_draw (.cons (.var 0) (.cons (.int 3) .nil)))) (.cons (.bin false .add (.int 1) (.call d__law_draw (.cons (.var 0) (.cons (.ix (.lst false (.cons (.int 4) (.cons (.bin false .pow (.int 10) (.int 19)) .nil))) (.call d__law_draw (.cons (.var 0) (.cons (.int 2) .nil)))) .nil)))) .nil))))
   (.cons (.asg (.tp [(.nm 3), (.nm 4)]) (.tup (.cons (.bin false .sub (.call d__law_draw (.cons (.var 0) (.cons (.bin false .mul (.int 2) (.var 1)) .nil))) (.var 1)) (.cons (.bin false .add (.int 1) (.call d__law_draw (.cons (.var 0) (.cons (.var 1) .nil)))) .nil))))
   (.cons (.asg (.tp [(.nm 5), (.nm 6)]) (.tup (.cons (.call d__law_draw (.cons (.var 0) (.cons (.bin false .pow (.int 10) (.int 19)) .nil))) (.cons (.call d__law_draw (.cons (.var 0) (.cons (.bin false .pow (.int 10) (.int 19)) .nil))) .nil))))
   (.cons (.ret (.tup (.cons (.call d__law_spot (.cons (.var 3) (.cons (.var 4) (.cons (.var 2) .nil)))) (.cons (.call d__law_spot (.cons (.var 5) (.cons (.bin false .sub (.int 0) (.var 6)) (.cons (.var 2) .nil)))) .nil))))
   .nil))))
def d__law_right : Df := .mk "_law_right" false ["_law_pile_here", "_law_spot_here"] ["_law_pile_here", "_law_spot_here", "_law_kept", "_law_due", "_law_k", "_law_leaf_here", "_law_told"] (
  .cons (.asg (.tp [(.nm 2), (.nm 3)]) (.tup (.cons (.prim false .repr (.cons (.lst false (.cons (.var 0) (.cons (.var 1) .nil))) .nil)) (.cons (.comp false [4, 5] (.var 4) (.tp [(.nm 4), (.nm 5)]) (.enum (.var 0)) (.some (.call d__law_open (.cons (.var 5) (.cons (.var 1) .nil))))) .nil))))
   (.cons (.asg (.nm 6) (.callk d_open_at .nil ["stack", "place"] (.cons (.var 0) (.cons (.var 1) .nil))))
   (.cons (.ite (.or (.cmp .ne (.prim false .repr (.cons (.lst false (.cons (.var 6) (.cons (.call d_open_at (.cons (.var 0) (.cons (.var 1) .nil))) .nil))) .nil)) (.prim false .repr (.cons (.lst false (.cons (.var 3) (.cons (.var 3) .nil))) .nil))) (.cmp .ne (.prim false .repr (.cons (.lst false (.cons (.var 0) (.cons (.var 1) .nil))) .nil)) (.var 2))) (.cons (.ret (.bl false))
   .nil) (.nil))
   (.cons (.expr (.meth .append (.var 6) (.cons (.int 9) .nil)))
   (.cons (.ret (.cmp .eq (.prim false .repr (.cons (.call d_open_at (.cons (.var 0) (.cons (.var 1) .nil))) .nil)) (.prim false .repr (.cons (.var 3) .nil))))
   .nil)))))
def d_law : Df := .mk "law" false ["_law_script"] ["_law_script", "_law_at", "_law_pool_here", "_law_turn", "_law_pile_here", "_law_one", "_law_again", "_law_step", "_law_base", "_law_way", "_law_spot_here", "_law_near", "_law_plain", "_law_turned", "_law_net", "_law_told"] (
  .cons (.for (.nm 1) (.range1 (.prim false .max (.cons (.int 1) (.cons (.prim false .min (.cons (.int 4) (.cons (.prim false .len (.cons (.var 0) .nil)) .nil))) .nil)))) (.cons (.asg (.nm 2) (.call d__law_pool (.cons (.var 0) (.cons (.var 1) .nil))))
   (.cons (.for (.nm 3) (.range1 (.int 4)) (.cons (.ite (.cmp .lt (.var 3) (.int 2)) (.cons (.asg (.nm 4) (.call d__law_pile (.cons (.var 2) (.cons (.int 6) .nil))))
   .nil) (.cons (.asg (.nm 4) (.comp false [5] (.call d__law_great (.cons (.var 2) .nil)) (.nm 5) (.range1 (.bin false .add (.int 1) (.call d__law_draw (.cons (.var 2) (.cons (.int 6) .nil))))) .none))
   .nil))
   (.cons (.for (.nm 6) (.range1 (.int 6)) (.cons (.asg (.tp [(.nm 7), (.nm 8)]) (.ix (.var 4) (.call d__law_draw (.cons (.var 2) (.cons (.prim false .len (.cons (.var 4) .nil)) .nil)))))
   (.cons (.asg (.nm 9) (.tup (.cons (.bin false .sub (.call d__law_draw (.cons (.var 2) (.cons (.int 41) .nil))) (.int 20)) (.cons (.bin false .sub (.call d__law_draw (.cons (.var 2) (.cons (.int 41) .nil))) (.int 20)) (.cons (.int 1) .nil)))))
   (.cons (.asg (.nm 10) (.call d__law_sum (.cons (.var 8) (.cons (.call d__law_times (.cons (.var 7) (.cons (.var 9) .nil))) .nil))))
   (.cons (.ite (.cmp .gt (.var 6) (.int 3)) (.cons (.asg (.nm 11) (.tup (.cons (.call d__law_draw (.cons (.var 2) (.cons (.int 3) .nil))) (.cons (.bin false .sub (.int 1) (.call d__law_draw (.cons (.var 2) (.cons (.int 3) .nil)))) .nil))))
   (.cons (.asg (.nm 10) (.call d__law_spot (.cons (.bin false .add (.ix (.var 10) (.int 0)) (.ix (.var 11) (.int 0))) (.cons (.bin false .add (.ix (.var 10) (.int 1)) (.ix (.var 11) (.int 1))) (.cons (.ix (.var 10) (.int 2)) .nil)))))
   .nil)) (.nil))
   (.cons (.ite (.not (.call d__law_right (.cons (.var 4) (.cons (.var 10) .nil)))) (.cons (.ret (.bl false))
   .nil) (.nil))
   .nil))))))
   .nil)))
   .nil)))
   (.cons (.asg (.tp [(.nm 12), (.nm 13), (.nm 14)]) (.tup (.cons (.tup (.cons (.tup (.cons (.int 1) (.cons (.int 0) (.cons (.int 1) .nil)))) (.cons (.tup (.cons (.int 0) (.cons (.int 0) (.cons (.int 1) .nil)))) .nil))) (.cons (.tup (.cons (.tup (.cons (.int 3) (.cons (.int 4) (.cons (.int 5) .nil)))) (.cons (.tup (.cons (.int 0) (.cons (.int 0) (.cons (.int 1) .nil)))) .nil))) (.cons (.tup (.cons (.tup (.cons (.int 2) (.cons (.int 1) (.cons (.int 1) .nil)))) (.cons (.tup (.cons (.int 0) (.cons (.int 0) (.cons (.int 1) .nil)))) .nil))) .nil)))))
   (.cons (.asg (.nm 15) (.comp false [10] (.call d_open_at (.cons (.lst false (.cons (.var 12) (.cons (.var 13) (.cons (.var 14) .nil)))) (.cons (.var 10) .nil))) (.nm 10) (.of (.tup (.cons (.tup (.cons (.int 2) (.cons (.int 1) (.cons (.int 1) .nil)))) (.cons (.tup (.cons (.int 1) (.cons (.int 0) (.cons (.int 1) .nil)))) (.cons (.tup (.cons (.int 3) (.cons (.int 4) (.cons (.int 5) .nil)))) (.cons (.tup (.cons (.int 1) (.cons (.int 0) (.cons (.int 2) .nil)))) .nil)))))) .none))
   (.cons (.ret (.cmp .eq (.var 15) (.lst false (.cons (.lst false (.cons (.int 0) (.cons (.int 1) (.cons (.int 2) .nil)))) (.cons (.lst false (.cons (.int 0) .nil)) (.cons (.lst false (.cons (.int 1) .nil)) (.cons (.lst false .nil) .nil)))))))
   .nil))))
theorem c_is_integer : defB d_is_integer (top 6) = true := by decide +kernel
theorem p_is_integer : Plain d_is_integer.name d_is_integer.ps (top 6) := fun _ _ _ _ _ _ us hl => match us, hl with | [_], _ => rfl
theorem c_common_divisor : defB d_common_divisor (top 7) = true := by decide +kernel
theorem p_common_divisor : Plain d_common_divisor.name d_common_divisor.ps (top 7) := fun _ _ _ _ _ _ us hl => match us, hl with | [_, _], _ => rfl
theorem c_are_integers : defB d_are_integers (top 8) = true := by decide +kernel
theorem p_are_integers : Plain d_are_integers.name d_are_integers.ps (top 8) := fun _ _ _ _ _ _ us hl => match us, hl with | [_, _], _ => rfl
theorem c_is_place_value : defB d_is_place_value (top 9) = true := by decide +kernel
theorem p_is_place_value : Plain d_is_place_value.name d_is_place_value.ps (top 9) := fun _ _ _ _ _ _ us hl => match us, hl with | [_], _ => rfl
theorem c_is_sheet_value : defB d_is_sheet_value (top 10) = true := by decide +kernel
theorem p_is_sheet_value : Plain d_is_sheet_value.name d_is_sheet_value.ps (top 10) := fun _ _ _ _ _ _ us hl => match us, hl with | [_], _ => rfl
theorem c_first_wrong : defB d_first_wrong (top 11) = true := by decide +kernel
theorem p_first_wrong : Plain d_first_wrong.name d_first_wrong.ps (top 11) := fun _ _ _ _ _ _ us hl => match us, hl with | [_], _ => rfl
theorem c_are_some : defB d_are_some (top 12) = true := by decide +kernel
theorem p_are_some : Plain d_are_some.name d_are_some.ps (top 12) := fun _ _ _ _ _ _ us hl => match us, hl with | [_, _, _], _ => rfl
theorem c_stack_fault : defB d_stack_fault (top 13) = true := by decide +kernel
theorem p_stack_fault : Plain d_stack_fault.name d_stack_fault.ps (top 13) := fun _ _ _ _ _ _ us hl => match us, hl with | [_], _ => rfl
theorem c_is_hole_of : defB d_is_hole_of (top 14) = true := by decide +kernel
theorem p_is_hole_of : Plain d_is_hole_of.name d_is_hole_of.ps (top 14) := fun _ _ _ _ _ _ us hl => match us, hl with | [_, _], _ => rfl
theorem c_require_place : defB d_require_place (top 15) = true := by decide +kernel
theorem p_require_place : Plain d_require_place.name d_require_place.ps (top 15) := fun _ _ _ _ _ _ us hl => match us, hl with | [_], _ => rfl
theorem c_require_stack : defB d_require_stack (top 16) = true := by decide +kernel
theorem p_require_stack : Plain d_require_stack.name d_require_stack.ps (top 16) := fun _ _ _ _ _ _ us hl => match us, hl with | [_], _ => rfl
theorem c_is_in : defB d_is_in (top 18) = true := by decide +kernel
theorem p_is_in : Plain d_is_in.name d_is_in.ps (top 18) := fun _ _ _ _ _ _ us hl => match us, hl with | [_, _], _ => rfl
theorem c_open_at : defB d_open_at (top 20) = true := by decide +kernel
theorem p_open_at : Plain d_open_at.name d_open_at.ps (top 20) := fun _ _ _ _ _ _ us hl => match us, hl with | [_, _], _ => rfl
theorem c__law_pool : defB d__law_pool (top 22) = true := by decide +kernel
theorem p__law_pool : Plain d__law_pool.name d__law_pool.ps (top 22) := fun _ _ _ _ _ _ us hl => match us, hl with | [_, _], _ => rfl
theorem c__law_draw : defB d__law_draw (top 23) = true := by decide +kernel
theorem p__law_draw : Plain d__law_draw.name d__law_draw.ps (top 23) := fun _ _ _ _ _ _ us hl => match us, hl with | [_, _], _ => rfl
theorem c__law_by : defB d__law_by (top 24) = true := by decide +kernel
theorem p__law_by : Plain d__law_by.name d__law_by.ps (top 24) := fun _ _ _ _ _ _ us hl => match us, hl with | [_, _], _ => rfl
theorem c__law_spot : defB d__law_spot (top 25) = true := by decide +kernel
theorem p__law_spot : Plain d__law_spot.name d__law_spot.ps (top 25) := fun _ _ _ _ _ _ us hl => match us, hl with | [_, _, _], _ => rfl
theorem c__law_sum : defB d__law_sum (top 26) = true := by decide +kernel
theorem p__law_sum : Plain d__law_sum.name d__law_sum.ps (top 26) := fun _ _ _ _ _ _ us hl => match us, hl with | [_, _], _ => rfl
theorem c__law_times : defB d__law_times (top 27) = true := by decide +kernel
theorem p__law_times : Plain d__law_times.name d__law_times.ps (top 27) := fun _ _ _ _ _ _ us hl => match us, hl with | [_, _], _ => rfl
theorem c__law_open : defB d__law_open (top 28) = true := by decide +kernel
theorem p__law_open : Plain d__law_open.name d__law_open.ps (top 28) := fun _ _ _ _ _ _ us hl => match us, hl with | [_, _], _ => rfl
theorem c__law_leaf : defB d__law_leaf (top 29) = true := by decide +kernel
theorem p__law_leaf : Plain d__law_leaf.name d__law_leaf.ps (top 29) := fun _ _ _ _ _ _ us hl => match us, hl with | [_], _ => rfl
theorem c__law_pile : defB d__law_pile (top 30) = true := by decide +kernel
theorem p__law_pile : Plain d__law_pile.name d__law_pile.ps (top 30) := fun _ _ _ _ _ _ us hl => match us, hl with | [_, _], _ => rfl
theorem c__law_marks : defB d__law_marks (top 31) = true := by decide +kernel
theorem p__law_marks : Plain d__law_marks.name d__law_marks.ps (top 31) := fun _ _ _ _ _ _ us hl => match us, hl with | [_], _ => rfl
theorem c__law_crowd : defB d__law_crowd (top 32) = true := by decide +kernel
theorem p__law_crowd : Plain d__law_crowd.name d__law_crowd.ps (top 32) := fun _ _ _ _ _ _ us hl => match us, hl with | [_], _ => rfl
theorem c__law_great : defB d__law_great (top 33) = true := by decide +kernel
theorem p__law_great : Plain d__law_great.name d__law_great.ps (top 33) := fun _ _ _ _ _ _ us hl => match us, hl with | [_], _ => rfl
theorem c__law_right : defB d__law_right (top 34) = true := by decide +kernel
theorem p__law_right : Plain d__law_right.name d__law_right.ps (top 34) := fun _ _ _ _ _ _ us hl => match us, hl with | [_, _], _ => rfl
theorem c_law : defB d_law (top 35) = true := by decide +kernel
theorem p_law : Plain d_law.name d_law.ps (top 35) := fun _ _ _ _ _ _ us hl => match us, hl with | [_], _ => rfl
theorem q_open_at_0 : Keyed d_open_at.name d_open_at.ps (top 20) 0 ["stack", "place"] := fun _ _ _ _ _ _ us ws h1 h2 => match us, ws, h1, h2 with | [], [_, _], _, _ => rfl
theorem kw_q_open_at_0 {v0 v1 : D} : kwVals d_open_at.ps [] ["stack", "place"] [v0, v1] = some [v0, v1] := id rfl
section
variable {P : Program} {w : World} {K : PySem.W.Frag} {mg : Str → Option Value} {h : Heap}
theorem free_ (KX : K.In h) (G : h.Ns mainGlobals mg) (c : He.SaysD fa fn K) : ∀ y ∈ bNames, mg y = none := fun y hy => by
  obtain ⟨i, hi, e⟩ := List.mem_iff_getElem.mp hy
  have hf : fa[27 + i]? = some (He.Fa.free y) := by
    have z : ∀ j : Fin bNames.length, fa[27 + j.val]? = some (He.Fa.free bNames[j.val]) := by
      intro j
      match j with
      | ⟨0, _⟩ => rfl
      | ⟨1, _⟩ => rfl
      | ⟨2, _⟩ => rfl
      | ⟨3, _⟩ => rfl
      | ⟨4, _⟩ => rfl
      | ⟨5, _⟩ => rfl
      | ⟨6, _⟩ => rfl
      | ⟨7, _⟩ => rfl
      | ⟨8, _⟩ => rfl
      | ⟨9, _⟩ => rfl
      | ⟨10, _⟩ => rfl
      | ⟨11, _⟩ => rfl
      | ⟨12, _⟩ => rfl
      | ⟨13, _⟩ => rfl
      | ⟨14, _⟩ => rfl
      | ⟨15, _⟩ => rfl
      | ⟨16, _⟩ => rfl
      | ⟨17, _⟩ => rfl
      | ⟨k + 18, hk⟩ => exact absurd hk (by simp [bNames])
    rw [← e]; exact z ⟨i, hi⟩
  exact He.free_ok KX G (c.fact _ hf)
theorem r_is_integer (KX : K.In h) (G : h.Ns mainGlobals mg) (c : He.SaysD fa fn K) : Row K mg d_is_integer (top 6) := by
  obtain ⟨fd, F⟩ := c.def_ 0 (d := mkD "is_integer" 6) rfl
  exact ⟨_, fd, He.glo_ok KX G (c.fact 0 (f := .glo "is_integer") rfl), F⟩
theorem r_common_divisor (KX : K.In h) (G : h.Ns mainGlobals mg) (c : He.SaysD fa fn K) : Row K mg d_common_divisor (top 7) := by
  obtain ⟨fd, F⟩ := c.def_ 1 (d := mkD "common_divisor" 7) rfl
  exact ⟨_, fd, He.glo_ok KX G (c.fact 1 (f := .glo "common_divisor") rfl), F⟩
theorem r_are_integers (KX : K.In h) (G : h.Ns mainGlobals mg) (c : He.SaysD fa fn K) : Row K mg d_are_integers (top 8) := by
  obtain ⟨fd, F⟩ := c.def_ 2 (d := mkD "are_integers" 8) rfl
  exact ⟨_, fd, He.glo_ok KX G (c.fact 2 (f := .glo "are_integers") rfl), F⟩
theorem r_is_place_value (KX : K.In h) (G : h.Ns mainGlobals mg) (c : He.SaysD fa fn K) : Row K mg d_is_place_value (top 9) := by
  obtain ⟨fd, F⟩ := c.def_ 3 (d := mkD "is_place_value" 9) rfl
  exact ⟨_, fd, He.glo_ok KX G (c.fact 3 (f := .glo "is_place_value") rfl), F⟩
theorem r_is_sheet_value (KX : K.In h) (G : h.Ns mainGlobals mg) (c : He.SaysD fa fn K) : Row K mg d_is_sheet_value (top 10) := by
  obtain ⟨fd, F⟩ := c.def_ 4 (d := mkD "is_sheet_value" 10) rfl
  exact ⟨_, fd, He.glo_ok KX G (c.fact 4 (f := .glo "is_sheet_value") rfl), F⟩
theorem r_first_wrong (KX : K.In h) (G : h.Ns mainGlobals mg) (c : He.SaysD fa fn K) : Row K mg d_first_wrong (top 11) := by
  obtain ⟨fd, F⟩ := c.def_ 5 (d := mkD "first_wrong" 11) rfl
  exact ⟨_, fd, He.glo_ok KX G (c.fact 5 (f := .glo "first_wrong") rfl), F⟩
theorem r_are_some (KX : K.In h) (G : h.Ns mainGlobals mg) (c : He.SaysD fa fn K) : Row K mg d_are_some (top 12) := by
  obtain ⟨fd, F⟩ := c.def_ 6 (d := mkD "are_some" 12) rfl
  exact ⟨_, fd, He.glo_ok KX G (c.fact 6 (f := .glo "are_some") rfl), F⟩
theorem r_stack_fault (KX : K.In h) (G : h.Ns mainGlobals mg) (c : He.SaysD fa fn K) : Row K mg d_stack_fault (top 13) := by
  obtain ⟨fd, F⟩ := c.def_ 7 (d := mkD "stack_fault" 13) rfl
  exact ⟨_, fd, He.glo_ok KX G (c.fact 7 (f := .glo "stack_fault") rfl), F⟩
theorem r_is_hole_of (KX : K.In h) (G : h.Ns mainGlobals mg) (c : He.SaysD fa fn K) : Row K mg d_is_hole_of (top 14) := by
  obtain ⟨fd, F⟩ := c.def_ 8 (d := mkD "is_hole_of" 14) rfl
  exact ⟨_, fd, He.glo_ok KX G (c.fact 8 (f := .glo "is_hole_of") rfl), F⟩
theorem r_require_place (KX : K.In h) (G : h.Ns mainGlobals mg) (c : He.SaysD fa fn K) : Row K mg d_require_place (top 15) := by
  obtain ⟨fd, F⟩ := c.def_ 9 (d := mkD "require_place" 15) rfl
  exact ⟨_, fd, He.glo_ok KX G (c.fact 9 (f := .glo "require_place") rfl), F⟩
theorem r_require_stack (KX : K.In h) (G : h.Ns mainGlobals mg) (c : He.SaysD fa fn K) : Row K mg d_require_stack (top 16) := by
  obtain ⟨fd, F⟩ := c.def_ 10 (d := mkD "require_stack" 16) rfl
  exact ⟨_, fd, He.glo_ok KX G (c.fact 10 (f := .glo "require_stack") rfl), F⟩
theorem r_is_in (KX : K.In h) (G : h.Ns mainGlobals mg) (c : He.SaysD fa fn K) : Row K mg d_is_in (top 18) := by
  obtain ⟨fd, F⟩ := c.def_ 11 (d := mkD "is_in" 18) rfl
  exact ⟨_, fd, He.glo_ok KX G (c.fact 11 (f := .glo "is_in") rfl), F⟩
theorem r_open_at (KX : K.In h) (G : h.Ns mainGlobals mg) (c : He.SaysD fa fn K) : Row K mg d_open_at (top 20) := by
  obtain ⟨fd, F⟩ := c.def_ 12 (d := mkD "open_at" 20) rfl
  exact ⟨_, fd, He.glo_ok KX G (c.fact 12 (f := .glo "open_at") rfl), F⟩
theorem r__law_pool (KX : K.In h) (G : h.Ns mainGlobals mg) (c : He.SaysD fa fn K) : Row K mg d__law_pool (top 22) := by
  obtain ⟨fd, F⟩ := c.def_ 13 (d := mkD "_law_pool" 22) rfl
  exact ⟨_, fd, He.glo_ok KX G (c.fact 13 (f := .glo "_law_pool") rfl), F⟩
theorem r__law_draw (KX : K.In h) (G : h.Ns mainGlobals mg) (c : He.SaysD fa fn K) : Row K mg d__law_draw (top 23) := by
  obtain ⟨fd, F⟩ := c.def_ 14 (d := mkD "_law_draw" 23) rfl
  exact ⟨_, fd, He.glo_ok KX G (c.fact 14 (f := .glo "_law_draw") rfl), F⟩
theorem r__law_by (KX : K.In h) (G : h.Ns mainGlobals mg) (c : He.SaysD fa fn K) : Row K mg d__law_by (top 24) := by
  obtain ⟨fd, F⟩ := c.def_ 15 (d := mkD "_law_by" 24) rfl
  exact ⟨_, fd, He.glo_ok KX G (c.fact 15 (f := .glo "_law_by") rfl), F⟩
theorem r__law_spot (KX : K.In h) (G : h.Ns mainGlobals mg) (c : He.SaysD fa fn K) : Row K mg d__law_spot (top 25) := by
  obtain ⟨fd, F⟩ := c.def_ 16 (d := mkD "_law_spot" 25) rfl
  exact ⟨_, fd, He.glo_ok KX G (c.fact 16 (f := .glo "_law_spot") rfl), F⟩
theorem r__law_sum (KX : K.In h) (G : h.Ns mainGlobals mg) (c : He.SaysD fa fn K) : Row K mg d__law_sum (top 26) := by
  obtain ⟨fd, F⟩ := c.def_ 17 (d := mkD "_law_sum" 26) rfl
  exact ⟨_, fd, He.glo_ok KX G (c.fact 17 (f := .glo "_law_sum") rfl), F⟩
theorem r__law_times (KX : K.In h) (G : h.Ns mainGlobals mg) (c : He.SaysD fa fn K) : Row K mg d__law_times (top 27) := by
  obtain ⟨fd, F⟩ := c.def_ 18 (d := mkD "_law_times" 27) rfl
  exact ⟨_, fd, He.glo_ok KX G (c.fact 18 (f := .glo "_law_times") rfl), F⟩
theorem r__law_open (KX : K.In h) (G : h.Ns mainGlobals mg) (c : He.SaysD fa fn K) : Row K mg d__law_open (top 28) := by
  obtain ⟨fd, F⟩ := c.def_ 19 (d := mkD "_law_open" 28) rfl
  exact ⟨_, fd, He.glo_ok KX G (c.fact 19 (f := .glo "_law_open") rfl), F⟩
theorem r__law_leaf (KX : K.In h) (G : h.Ns mainGlobals mg) (c : He.SaysD fa fn K) : Row K mg d__law_leaf (top 29) := by
  obtain ⟨fd, F⟩ := c.def_ 20 (d := mkD "_law_leaf" 29) rfl
  exact ⟨_, fd, He.glo_ok KX G (c.fact 20 (f := .glo "_law_leaf") rfl), F⟩
theorem r__law_pile (KX : K.In h) (G : h.Ns mainGlobals mg) (c : He.SaysD fa fn K) : Row K mg d__law_pile (top 30) := by
  obtain ⟨fd, F⟩ := c.def_ 21 (d := mkD "_law_pile" 30) rfl
  exact ⟨_, fd, He.glo_ok KX G (c.fact 21 (f := .glo "_law_pile") rfl), F⟩
theorem r__law_marks (KX : K.In h) (G : h.Ns mainGlobals mg) (c : He.SaysD fa fn K) : Row K mg d__law_marks (top 31) := by
  obtain ⟨fd, F⟩ := c.def_ 22 (d := mkD "_law_marks" 31) rfl
  exact ⟨_, fd, He.glo_ok KX G (c.fact 22 (f := .glo "_law_marks") rfl), F⟩
theorem r__law_crowd (KX : K.In h) (G : h.Ns mainGlobals mg) (c : He.SaysD fa fn K) : Row K mg d__law_crowd (top 32) := by
  obtain ⟨fd, F⟩ := c.def_ 23 (d := mkD "_law_crowd" 32) rfl
  exact ⟨_, fd, He.glo_ok KX G (c.fact 23 (f := .glo "_law_crowd") rfl), F⟩
theorem r__law_great (KX : K.In h) (G : h.Ns mainGlobals mg) (c : He.SaysD fa fn K) : Row K mg d__law_great (top 33) := by
  obtain ⟨fd, F⟩ := c.def_ 24 (d := mkD "_law_great" 33) rfl
  exact ⟨_, fd, He.glo_ok KX G (c.fact 24 (f := .glo "_law_great") rfl), F⟩
theorem r__law_right (KX : K.In h) (G : h.Ns mainGlobals mg) (c : He.SaysD fa fn K) : Row K mg d__law_right (top 34) := by
  obtain ⟨fd, F⟩ := c.def_ 25 (d := mkD "_law_right" 34) rfl
  exact ⟨_, fd, He.glo_ok KX G (c.fact 25 (f := .glo "_law_right") rfl), F⟩
theorem r_law (KX : K.In h) (G : h.Ns mainGlobals mg) (c : He.SaysD fa fn K) : Row K mg d_law (top 35) := by
  obtain ⟨fd, F⟩ := c.def_ 26 (d := mkD "law" 35) rfl
  exact ⟨_, fd, He.glo_ok KX G (c.fact 26 (f := .glo "law") rfl), F⟩
theorem law_ok (n : Nat) {base : Heap} (KX : K.In h) (G : h.Ns mainGlobals mg) (c : He.SaysD fa fn K) : ∃ (fd : FuncData), FunD K "law" "law" (defArgs (top 35)) (defBody (top 35)) (defScope (top 35)) [] [] (He.ga K "law") fd ∧ FnG P w K mg base 9 (He.ga K "law") fd d_law.ps (spD K n d_law) := by
  have hb := free_ KX G c
  have O_is_integer := (⟨trivial, trivial, trivial⟩ : OkAll P w K mg base n 0 d_is_integer.body)
  have K_is_integer : KnD P w K mg base n 1 d_is_integer := knD_row (r_is_integer KX G c) c_is_integer p_is_integer hb O_is_integer
  have O_common_divisor := (⟨trivial, trivial, trivial⟩ : OkAll P w K mg base n 0 d_common_divisor.body)
  have K_common_divisor : KnD P w K mg base n 1 d_common_divisor := knD_row (r_common_divisor KX G c) c_common_divisor p_common_divisor hb O_common_divisor
  have O_are_integers := (⟨⟨K_is_integer.mono (by decide), trivial⟩, trivial, trivial⟩ : OkAll P w K mg base n 1 d_are_integers.body)
  have K_are_integers : KnD P w K mg base n 2 d_are_integers := knD_row (r_are_integers KX G c) c_are_integers p_are_integers hb O_are_integers
  have O_is_place_value := (⟨⟨K_are_integers.mono (by decide), K_common_divisor.mono (by decide), K_common_divisor.mono (by decide), trivial⟩, trivial, trivial⟩ : OkAll P w K mg base n 2 d_is_place_value.body)
  have K_is_place_value : KnD P w K mg base n 3 d_is_place_value := knD_row (r_is_place_value KX G c) c_is_place_value p_is_place_value hb O_is_place_value
  have O_is_sheet_value := (⟨⟨K_is_place_value.mono (by decide), trivial⟩, trivial, trivial⟩ : OkAll P w K mg base n 3 d_is_sheet_value.body)
  have K_is_sheet_value : KnD P w K mg base n 4 d_is_sheet_value := knD_row (r_is_sheet_value KX G c) c_is_sheet_value p_is_sheet_value hb O_is_sheet_value
  have O_first_wrong := (⟨trivial, trivial, trivial⟩ : OkAll P w K mg base n 0 d_first_wrong.body)
  have K_first_wrong : KnD P w K mg base n 1 d_first_wrong := knD_row (r_first_wrong KX G c) c_first_wrong p_first_wrong hb O_first_wrong
  have O_are_some := (⟨trivial, trivial, trivial⟩ : OkAll P w K mg base n 0 d_are_some.body)
  have K_are_some : KnD P w K mg base n 1 d_are_some := knD_row (r_are_some KX G c) c_are_some p_are_some hb O_are_some
  have O_stack_fault := (⟨⟨K_are_some.mono (by decide), K_first_wrong.mono (by decide), K_is_sheet_value.mono (by decide), trivial⟩, trivial, ⟨GV.int (He.int_ok KX G (c.fact 45 (f := .int "MOST_SHEETS" 6) rfl)), trivial⟩⟩ : OkAll P w K mg base n 4 d_stack_fault.body)
  have K_stack_fault : KnD P w K mg base n 5 d_stack_fault := knD_row (r_stack_fault KX G c) c_stack_fault p_stack_fault hb O_stack_fault
  have O_is_hole_of := (⟨trivial, trivial, trivial⟩ : OkAll P w K mg base n 0 d_is_hole_of.body)
  have K_is_hole_of : KnD P w K mg base n 1 d_is_hole_of := knD_row (r_is_hole_of KX G c) c_is_hole_of p_is_hole_of hb O_is_hole_of
  have O_require_place := (⟨⟨K_is_place_value.mono (by decide), trivial⟩, trivial, trivial⟩ : OkAll P w K mg base n 3 d_require_place.body)
  have K_require_place : KnD P w K mg base n 4 d_require_place := knD_row (r_require_place KX G c) c_require_place p_require_place hb O_require_place
  have O_require_stack := (⟨⟨K_stack_fault.mono (by decide), trivial⟩, trivial, trivial⟩ : OkAll P w K mg base n 5 d_require_stack.body)
  have K_require_stack : KnD P w K mg base n 6 d_require_stack := knD_row (r_require_stack KX G c) c_require_stack p_require_stack hb O_require_stack
  have O_is_in := (⟨⟨K_is_hole_of.mono (by decide), trivial⟩, trivial, trivial⟩ : OkAll P w K mg base n 1 d_is_in.body)
  have K_is_in : KnD P w K mg base n 2 d_is_in := knD_row (r_is_in KX G c) c_is_in p_is_in hb O_is_in
  have O_open_at := (⟨⟨K_require_stack.mono (by decide), K_require_place.mono (by decide), K_is_in.mono (by decide), trivial⟩, trivial, trivial⟩ : OkAll P w K mg base n 6 d_open_at.body)
  have K_open_at : KnD P w K mg base n 7 d_open_at := knD_row (r_open_at KX G c) c_open_at p_open_at hb O_open_at
  have J_q_open_at_0 : KnK P w K mg base n 7 d_open_at 0 ["stack", "place"] := knK_row (r_open_at KX G c) c_open_at q_open_at_0 hb O_open_at
  have O__law_pool := (⟨trivial, trivial, trivial⟩ : OkAll P w K mg base n 0 d__law_pool.body)
  have K__law_pool : KnD P w K mg base n 1 d__law_pool := knD_row (r__law_pool KX G c) c__law_pool p__law_pool hb O__law_pool
  have O__law_draw := (⟨trivial, trivial, trivial⟩ : OkAll P w K mg base n 0 d__law_draw.body)
  have K__law_draw : KnD P w K mg base n 1 d__law_draw := knD_row (r__law_draw KX G c) c__law_draw p__law_draw hb O__law_draw
  have O__law_by := (⟨trivial, trivial, trivial⟩ : OkAll P w K mg base n 0 d__law_by.body)
  have K__law_by : KnD P w K mg base n 1 d__law_by := knD_row (r__law_by KX G c) c__law_by p__law_by hb O__law_by
  have O__law_spot := (⟨⟨K__law_by.mono (by decide), K__law_by.mono (by decide), trivial⟩, trivial, trivial⟩ : OkAll P w K mg base n 1 d__law_spot.body)
  have K__law_spot : KnD P w K mg base n 2 d__law_spot := knD_row (r__law_spot KX G c) c__law_spot p__law_spot hb O__law_spot
  have O__law_sum := (⟨⟨K__law_spot.mono (by decide), trivial⟩, trivial, trivial⟩ : OkAll P w K mg base n 2 d__law_sum.body)
  have K__law_sum : KnD P w K mg base n 3 d__law_sum := knD_row (r__law_sum KX G c) c__law_sum p__law_sum hb O__law_sum
  have O__law_times := (⟨⟨K__law_spot.mono (by decide), trivial⟩, trivial, trivial⟩ : OkAll P w K mg base n 2 d__law_times.body)
  have K__law_times : KnD P w K mg base n 3 d__law_times := knD_row (r__law_times KX G c) c__law_times p__law_times hb O__law_times
  have O__law_open := (⟨trivial, trivial, trivial⟩ : OkAll P w K mg base n 0 d__law_open.body)
  have K__law_open : KnD P w K mg base n 1 d__law_open := knD_row (r__law_open KX G c) c__law_open p__law_open hb O__law_open
  have O__law_leaf := (⟨⟨K__law_draw.mono (by decide), K__law_draw.mono (by decide), K__law_draw.mono (by decide), K__law_draw.mono (by decide), K__law_draw.mono (by decide), K__law_draw.mono (by decide), K__law_times.mono (by decide), K__law_spot.mono (by decide), trivial⟩, trivial, trivial⟩ : OkAll P w K mg base n 3 d__law_leaf.body)
  have K__law_leaf : KnD P w K mg base n 4 d__law_leaf := knD_row (r__law_leaf KX G c) c__law_leaf p__law_leaf hb O__law_leaf
  have O__law_pile := (⟨⟨K__law_draw.mono (by decide), K__law_leaf.mono (by decide), K__law_draw.mono (by decide), K__law_draw.mono (by decide), K__law_times.mono (by decide), K__law_sum.mono (by decide), K__law_times.mono (by decide), trivial⟩, trivial, trivial⟩ : OkAll P w K mg base n 4 d__law_pile.body)
  have K__law_pile : KnD P w K mg base n 5 d__law_pile := knD_row (r__law_pile KX G c) c__law_pile p__law_pile hb O__law_pile
  have O__law_great := (⟨⟨K__law_draw.mono (by decide), K__law_draw.mono (by decide), K__law_draw.mono (by decide), K__law_draw.mono (by decide), K__law_draw.mono (by decide), K__law_draw.mono (by decide), K__law_draw.mono (by decide), K__law_spot.mono (by decide), K__law_spot.mono (by decide), trivial⟩, trivial, trivial⟩ : OkAll P w K mg base n 2 d__law_great.body)
  have K__law_great : KnD P w K mg base n 3 d__law_great := knD_row (r__law_great KX G c) c__law_great p__law_great hb O__law_great
  have O__law_right := (⟨⟨K__law_open.mono (by decide), K_open_at.mono (by decide), K_open_at.mono (by decide), trivial⟩, ⟨J_q_open_at_0.mono (by decide), trivial⟩, trivial⟩ : OkAll P w K mg base n 7 d__law_right.body)
  have K__law_right : KnD P w K mg base n 8 d__law_right := knD_row (r__law_right KX G c) c__law_right p__law_right hb O__law_right
  obtain ⟨fd, F⟩ := c.def_ 26 (d := mkD "law" 35) rfl
  exact ⟨fd, F, fnG_row c_law hb (⟨⟨K__law_pool.mono (by decide), K__law_pile.mono (by decide), K__law_draw.mono (by decide), K__law_great.mono (by decide), K__law_draw.mono (by decide), K__law_draw.mono (by decide), K__law_draw.mono (by decide), K__law_sum.mono (by decide), K__law_times.mono (by decide), K__law_draw.mono (by decide), K__law_draw.mono (by decide), K__law_spot.mono (by decide), K__law_right.mono (by decide), K_open_at.mono (by decide), trivial⟩, trivial, trivial⟩ : OkAll P w K mg base n 8 d_law.body) F⟩
end
section
open PySem.W PySem.Calls HandSHeadRun
abbrev QQ := PySem.W.view R.prog [35]
theorem h_e : opening R.prog = plainProg R.prog.main.scope.names := by kernel_rfl
theorem h_f : ∀ s, fenceModules? R.prog s = some s := fun s => by kernel_rfl
theorem h_def : defOf QQ R.name = some (HandSHeadRun.topDef R.prog 35, []) := by kernel_rfl
theorem h_p : R.prog.theDef R.name = some ((HandSHeadRun.topDef R.prog 35).params, (HandSHeadRun.topDef R.prog 35).body, (HandSHeadRun.topDef R.prog 35).scope) := by kernel_rfl
theorem h_k : kwWritten? (HandSHeadRun.topDef R.prog 35).params.kwonlyargs (HandSHeadRun.topDef R.prog 35).params.kw_defaults = some [] := by kernel_rfl
theorem h_k1 : R.wellSaid = true := by decide +kernel
theorem h_b : R.prog.bare := ⟨rfl, rfl, rfl, rfl, rfl, by decide +kernel⟩
theorem h_ok : (chainsOk QQ && opensWell R.prog && (frees R.toRowW && R.within.isEmpty)) = true := by decide +kernel
end
theorem holds_of (ev : ∀ ns : List Int, ns.length ≤ 63 → (∀ k ∈ ns, Builtin.Int.intBits k ≤ 1048576) → ∃ n, callD n d_law [.scr (ns.map D.int)] [] = .ok (.bl true) []) : PySem.Challenge.rw_sunsheets_k26_open_ones.Holds := by
  w_on; o_law
  refine HandSHeadRun.head_any (r := R) (q := QQ) (H := hk) (ob := ob) (M := 3000) (loose := loose) (d := HandSHeadRun.topDef R.prog 35) (kwd := []) ob_eq
    h_e h_f run h_def h_p h_k (by rfl) h_k1 h_ok h_b ?hw ?hc
  case hw => w_witness2
  case hc =>
    refine sn_walk (l := PySem.Challenge.rw_sunsheets_k26_open_ones) (most := 63) (lv := 9) (x := "_law_script") (law := d_law) rfl (by decide) (by kernel_rfl) ⟨rfl, by decide, by decide⟩ rfl ?F ev
    intro w mg fa h Y G hmg0
    obtain ⟨K, KX, c⟩ := Y
    have hmg : mg ("law" : PySem.Str) = some (.ref fa) := by
      have e : (HandSHeadRun.topDef R.prog 35).name = ("law" : PySem.Str) := by kernel_rfl
      rw [← e]
      exact hmg0
    have hga := hmg.symm.trans (He.glo_ok KX G (c.fact 26 (f := .glo "law") rfl))
    cases hga
    obtain ⟨fd, F⟩ := c.def_ 26 (d := mkD "law" 35) rfl
    have hbd := FunD.bindsA (ps := ["_law_script"]) F p_law
    refine ⟨K, fd, KX, fun s u => hbd s [u] rfl, fun n base kb nb => ?_⟩
    obtain ⟨fd2, F2, G2⟩ := law_ok (P := PySem.Challenge.rw_sunsheets_k26_open_ones.prog) (w := w) (mg := mg) (h := base) (base := base) n kb nb c
    have e : fd = fd2 := funD_unique F F2
    subst e
    exact G2
end My
/-! Sn, part P: what programs compute, by rewriting. -/
namespace Sn
open PySem

/-! ### steps: the part behind a step is not looked into before the step is done -/
def TT {α β : Type} (f : α → Mem → Res β) : Type := Res β
def bndT {α β : Type} (r : Res α) (f : α → Mem → Res β) : TT f := r.bind f
def out {α β : Type} {f : α → Mem → Res β} (x : TT f) : Res β := x
theorem bnd_ok {α β : Type} {a : α} {M : Mem} {f : α → Mem → Res β} : (out (bndT (Res.ok a M) f)) = f a M := id rfl
theorem bnd_no {α β : Type} {f : α → Mem → Res β} : (out (bndT (Res.no : Res α) f)) = .no := id rfl
theorem bnd_ite {α β : Type} {c : Prop} [Decidable c] {r s : Res α} {f : α → Mem → Res β} : (out (bndT (if c then r else s) f)) = if c then (out (bndT r f)) else (out (bndT s f)) := by
  split <;> rfl
theorem ofO_some {α : Type} {a : α} {M : Mem} : ofO (some a) M = .ok a M := id rfl
def TO {α : Type} (f : Slots → Mem → α) : Type := Res Out
def outS {α : Type} {f : Slots → Mem → α} (x : TO f) : Res Out := x
/-- one statement, then the others -/
def seqT (r : Res Out) (f : Slots → Mem → Res Out) : TO f := match r with
  | .ok (.nx env) M => f env M
  | r => r
theorem seqR_nx {env : Slots} {M : Mem} {f : Slots → Mem → Res Out} : (outS (seqT (.ok (.nx env) M) f)) = f env M := id rfl
theorem seqR_rt {d : D} {M : Mem} {f : Slots → Mem → Res Out} : (outS (seqT (.ok (.rt d) M) f)) = .ok (.rt d) M := id rfl
theorem seqR_bk {env : Slots} {M : Mem} {f : Slots → Mem → Res Out} : (outS (seqT (.ok (.bk env) M) f)) = .ok (.bk env) M := id rfl
theorem seqR_ite {c : Prop} [Decidable c] {r s : Res Out} {f : Slots → Mem → Res Out} : (outS (seqT (if c then r else s) f)) = if c then (outS (seqT r f)) else (outS (seqT s f)) := by
  split <;> rfl
def TP {α : Type} (f g : Mem → Res α) : Type := Res α
def outP {α : Type} {f g : Mem → Res α} (x : TP f g) : Res α := x
/-- a choice by a bool -/
def pickT {α : Type} (d : D) (M : Mem) (f g : Mem → Res α) : TP f g := match d with
  | .bl true => f M
  | .bl false => g M
  | _ => Res.no
theorem pick_t {M : Mem} {α : Type} {f g : Mem → Res α} : (outP (pickT (.bl true) M f g)) = f M := id rfl
theorem pick_f {M : Mem} {α : Type} {f g : Mem → Res α} : (outP (pickT (.bl false) M f g)) = g M := id rfl
theorem pick_d {M : Mem} {α : Type} {c : Prop} [Decidable c] {f g : Mem → Res α} : (outP (pickT (.bl (decide c)) M f g)) = if c then f M else g M := by
  by_cases h : c
  · rw [if_pos h, decide_eq_true h]; rfl
  · rw [if_neg h, decide_eq_false h]; rfl
theorem pick_nd {M : Mem} {α : Type} {c : Prop} [Decidable c] {f g : Mem → Res α} : (outP (pickT (.bl (!decide c)) M f g)) = if c then g M else f M := by
  by_cases h : c
  · rw [if_pos h, decide_eq_true h]; rfl
  · rw [if_neg h, decide_eq_false h]; rfl
theorem pick_b {M : Mem} {α : Type} {b : Bool} {f g : Mem → Res α} : (outP (pickT (.bl b) M f g)) = if b = true then f M else g M := by
  cases b <;> rfl
def isB (d : D) (M : Mem) : Res D := match d with
  | .bl b => .ok (.bl b) M
  | _ => .no
theorem isB_b {b : Bool} {M : Mem} : isB (.bl b) M = .ok (.bl b) M := id rfl
def negD (d : D) (M : Mem) : Res D := match d with
  | .int i => .ok (.int (-i)) M
  | _ => .no
def notD (d : D) (M : Mem) : Res D := match d with
  | .bl i => .ok (.bl (!i)) M
  | _ => .no
def isnD (d : D) (M : Mem) : Res D := match d with
  | .non => .ok (.bl true) M
  | _ => .ok (.bl false) M
def notnD (d : D) (M : Mem) : Res D := match d with
  | .non => .ok (.bl false) M
  | _ => .ok (.bl true) M
def ixD (x k : D) (M : Mem) : Res D := match k with
  | .int j => ofO (ixop x j M) M
  | _ => .no
def loD (x : D) (M : Mem) : Res (Option Int) := match x with
  | .int i => .ok (some i) M
  | _ => .no
def rtD (d : D) (M : Mem) : Res Out := .ok (.rt d) M
def nxD (env : Slots) (M : Mem) : Res Out := .ok (.nx env) M
def setD (env : Slots) (v x k : D) (M : Mem) : Res Out := match k with
  | .int j => match setop x j v M with
    | some M4 => .ok (.nx env) M4
    | none => .no
  | _ => .no
section
variable {n : Nat} {env : Slots} {M : Mem}
theorem ev_var {i : Nat} : evE n (.var i) env M = ofO (env[i]?).join M := by rw [evE]
theorem ev_int {i : Int} : evE n (.int i) env M = .ok (.int i) M := by rw [evE]
theorem ev_str {x : Str} : evE n (.str x) env M = .ok (.str x) M := by rw [evE]
theorem ev_bl {b : Bool} : evE n (.bl b) env M = .ok (.bl b) M := by rw [evE]
theorem ev_non : evE n .non env M = .ok .non M := by rw [evE]
theorem ev_gint {x : Str} {i : Int} : evE n (.gint x i) env M = .ok (.int i) M := by rw [evE]
theorem ev_gcon {x : Str} {d : D} : evE n (.gcon x d) env M = .ok d M := by rw [evE]
theorem ev_bin {m : Bool} {op : Bop} {a b : E} : evE n (.bin m op a b) env M = (out (bndT (evE n a env M) fun x M1 => (out (bndT (evE n b env M1) fun y M2 => binop m op x y M2)))) := by rw [evE]; rfl
theorem ev_neg {a : E} : evE n (.neg a) env M = (out (bndT (evE n a env M) negD)) := by
  rw [evE]
  show Res.bind _ _ = Res.bind _ _
  congr 1
theorem ev_not {a : E} : evE n (.not a) env M = (out (bndT (evE n a env M) notD)) := by
  rw [evE]
  show Res.bind _ _ = Res.bind _ _
  congr 1
theorem ev_and {a b : E} : evE n (.and a b) env M = (out (bndT (evE n a env M) fun x M1 => (outP (pickT x M1 (fun M => (out (bndT (evE n b env M) isB))) (fun M => .ok (.bl false) M))))) := by
  rw [evE]
  show Res.bind _ _ = Res.bind _ _
  congr 1
theorem ev_or {a b : E} : evE n (.or a b) env M = (out (bndT (evE n a env M) fun x M1 => (outP (pickT x M1 (fun M => .ok (.bl true) M) (fun M => (out (bndT (evE n b env M) isB))))))) := by
  rw [evE]
  show Res.bind _ _ = Res.bind _ _
  congr 1
  funext x M1
  cases x with
  | bl b => cases b <;> rfl
  | _ => rfl
theorem ev_cmp {op : Cop} {a b : E} : evE n (.cmp op a b) env M = (out (bndT (evE n a env M) fun x M1 => (out (bndT (evE n b env M1) fun y M2 => (out (bndT (ofO (cmpop op x y M2) M2) fun c M3 => .ok (.bl c) M3)))))) := by rw [evE]; rfl
theorem ev_isn {a : E} : evE n (.isn a) env M = (out (bndT (evE n a env M) isnD)) := by
  rw [evE]
  show Res.bind _ _ = Res.bind _ _
  congr 1
theorem ev_notn {a : E} : evE n (.notn a) env M = (out (bndT (evE n a env M) notnD)) := by
  rw [evE]
  show Res.bind _ _ = Res.bind _ _
  congr 1
theorem ev_inn {a b : E} : evE n (.inn a b) env M = (out (bndT (evE n a env M) fun x M1 => (out (bndT (evE n b env M1) fun y M2 => (out (bndT (ofO (inop x y M2) M2) fun c M3 => .ok (.bl c) M3)))))) := by rw [evE]; rfl
theorem ev_nin {a b : E} : evE n (.nin a b) env M = (out (bndT (evE n a env M) fun x M1 => (out (bndT (evE n b env M1) fun y M2 => (out (bndT (ofO (inop x y M2) M2) fun c M3 => .ok (.bl (!c)) M3)))))) := by rw [evE]; rfl
theorem ev_iteE {c a b : E} : evE n (.ite c a b) env M = (out (bndT (evE n c env M) fun x M1 => (outP (pickT x M1 (fun M => evE n a env M) (fun M => evE n b env M))))) := by
  rw [evE]
  show Res.bind _ _ = Res.bind _ _
  congr 1
theorem ev_tup {es : Es} : evE n (.tup es) env M = (out (bndT (evEs n es env M) newT)) := by rw [evE]; rfl
theorem ev_lst {m : Bool} {es : Es} : evE n (.lst m es) env M = (out (bndT (evEs n es env M) (newL m))) := by rw [evE]; rfl
theorem ev_ix {a i : E} : evE n (.ix a i) env M = (out (bndT (evE n a env M) fun x M1 => (out (bndT (evE n i env M1) (ixD x))))) := by
  rw [evE]
  show Res.bind _ _ = Res.bind _ _
  congr 1
theorem ev_sl {m : Bool} {a : E} {lo hi : Eo} : evE n (.sl m a lo hi) env M = (out (bndT (evE n a env M) fun x M1 => (out (bndT (evEo n lo env M1) fun l M2 => (out (bndT (evEo n hi env M2) fun h M3 => slop m x l h M3)))))) := by rw [evE]; rfl
theorem ev_rev {m : Bool} {a : E} : evE n (.rev m a) env M = (out (bndT (evE n a env M) (revop m))) := by rw [evE]; rfl
theorem ev_isb {b pos : Bool} {a : E} : evE n (.isb b pos a) env M = (out (bndT (evE n a env M) (isbop b pos))) := by rw [evE]; rfl
theorem ev_tups {is : Is} : evE n (.tups is) env M = (out (bndT (evIs n is env M) newT)) := by rw [evE]; rfl
theorem ev_lsts {m : Bool} {is : Is} : evE n (.lsts m is) env M = (out (bndT (evIs n is env M) (newL m))) := by rw [evE]; rfl
theorem evIs_nil : evIs n .nil env M = .ok [] M := by rw [evIs]
theorem evIs_cons {e : E} {is : Is} : evIs n (.cons e is) env M = (out (bndT (evE n e env M) fun x M1 => (out (bndT (evIs n is env M1) fun xs M2 => .ok (x :: xs) M2)))) := by rw [evIs]; rfl
theorem evIs_star {e : E} {is : Is} : evIs n (.star e is) env M = (out (bndT (evE n e env M) fun x M1 => (out (bndT (ofO (itemsS M1 x) M1) fun ys M1 => (out (bndT (evIs n is env M1) fun xs M2 => .ok (ys ++ xs) M2)))))) := by rw [evIs]; rfl
theorem isb_tt {c : Bool} : isbop true true (.bl c) M = .ok (.bl c) M := by cases c <;> rfl
theorem isb_tf {c : Bool} : isbop true false (.bl c) M = .ok (.bl (!c)) M := by cases c <;> rfl
theorem isb_ft {c : Bool} : isbop false true (.bl c) M = .ok (.bl (!c)) M := by cases c <;> rfl
theorem isb_ff {c : Bool} : isbop false false (.bl c) M = .ok (.bl c) M := by cases c <;> rfl
theorem ev_call {d : Df} {es : Es} : evE n (.call d es) env M = (out (bndT (evEs n es env M) (callD n d))) := by rw [evE]; rfl
theorem ev_callk {d : Df} {es kes : Es} {ks : List Str} : evE n (.callk d es ks kes) env M = (out (bndT (evEs n es env M) fun xs M1 => (out (bndT (evEs n kes env M1) fun ys M2 => (out (bndT (ofO (kwVals d.ps xs ks ys) M2) (callD n d))))))) := by rw [evE]; rfl
theorem ev_prim {m : Bool} {p : Prim} {es : Es} : evE n (.prim m p es) env M = (out (bndT (evEs n es env M) (primop m p))) := by rw [evE]; rfl
theorem ev_isi {k : Kind} {a : E} : evE n (.isi k a) env M = (out (bndT (evE n a env M) fun x M1 => guard (live x M1) (.ok (.bl (isKind k x)) M1))) := by rw [evE]; rfl
theorem ev_meth {m : Meth} {o : E} {es : Es} : evE n (.meth m o es) env M = (out (bndT (evE n o env M) fun x M1 => guard (live x M1) (out (bndT (evEs n es env M1) (methop m x))))) := by rw [evE]; rfl
theorem evEs_nil : evEs n .nil env M = .ok [] M := by rw [evEs]
theorem evEs_cons {e : E} {es : Es} : evEs n (.cons e es) env M = (out (bndT (evE n e env M) fun x M1 => (out (bndT (evEs n es env M1) fun xs M2 => .ok (x :: xs) M2)))) := by rw [evEs]; rfl
theorem evEo_none : evEo n .none env M = .ok none M := by rw [evEo]
theorem evEo_some {e : E} : evEo n (.some e) env M = (out (bndT (evE n e env M) loD)) := by
  rw [evEo]
  show Res.bind _ _ = Res.bind _ _
  congr 1
theorem evSs_cons {s : S} {ss : Ss} : evSs n (.cons s ss) env M = (outS (seqT (evS n s env M) (fun env' M' => evSs n ss env' M'))) := by
  rw [evSs]
  cases evS n s env M with
  | no => rfl
  | ok o M1 => cases o <;> rfl
theorem evSs_nil : evSs n .nil env M = .ok (.nx env) M := by rw [evSs]
theorem es_ite {c : E} {a b : Ss} : evS n (.ite c a b) env M = (out (bndT (evE n c env M) fun x M1 => (outP (pickT x M1 (fun M => evSs n a env M) (fun M => evSs n b env M))))) := by
  rw [evS]
  show Res.bind _ _ = Res.bind _ _
  congr 1
theorem es_asg {t : Tg} {e : E} : evS n (.asg t e) env M = (out (bndT (evE n e env M) fun x M1 => (out (bndT (ofO (t.put x env) M1) nxD)))) := by rw [evS]; rfl
theorem es_setix {o i e : E} : evS n (.setix o i e) env M = (out (bndT (evE n e env M) fun v M1 => (out (bndT (evE n o env M1) fun x M2 => (out (bndT (evE n i env M2) (setD env v x))))))) := by
  rw [evS]
  show Res.bind _ _ = Res.bind _ _
  congr 1
theorem es_ret {e : E} : evS n (.ret e) env M = (out (bndT (evE n e env M) rtD)) := by rw [evS]; rfl
theorem es_retn : evS n .retn env M = .ok (.rt .non) M := by rw [evS]
theorem es_expr {e : E} : evS n (.expr e) env M = (out (bndT (evE n e env M) fun _ M1 => nxD env M1)) := by rw [evS]; rfl
theorem es_whl {c : E} {b : Ss} : evS n (.whl c b) env M = whileL (evE n c) (evSs n b) n env M := by rw [evS]
theorem es_pass : evS n .pass env M = .ok (.nx env) M := by rw [evS]
theorem es_brk : evS n .brk env M = .ok (.bk env) M := by rw [evS]
end
/-- a body's slots at its entry -/
def fill : List Str → List D → Slots
  | [], _ => []
  | _ :: N, [] => none :: fill N []
  | _ :: N, d :: ds => some d :: fill N ds
theorem fill_nil {ds : List D} : fill [] ds = [] := by cases ds <;> rfl
theorem fill_no {x : Str} {N : List Str} : fill (x :: N) [] = none :: fill N [] := id rfl
theorem fill_so {x : Str} {N : List Str} {d : D} {ds : List D} : fill (x :: N) (d :: ds) = some d :: fill N ds := id rfl
theorem fill_eq : ∀ {N : List Str} {ds : List D}, ds.length ≤ N.length → ds.map some ++ List.replicate (N.length - ds.length) none = fill N ds
  | [], [], _ => rfl
  | [], _ :: _, h => absurd h (by simp)
  | x :: N, [], _ => by
    have := fill_eq (N := N) (ds := []) (by simp)
    simp only [List.map_nil, List.nil_append, List.length_cons, List.length_nil, Nat.sub_zero, List.replicate_succ] at this ⊢
    rw [this]; rfl
  | x :: N, d :: ds, h => by
    have := fill_eq (N := N) (ds := ds) (by simpa using h)
    simp only [List.map_cons, List.cons_append, List.length_cons, Nat.add_sub_add_right]
    rw [this]; rfl
/-- one turn of a while -/
def TW {α : Type} (f : Slots → Mem → α) : Type := Res Out
def outW {α : Type} {f : Slots → Mem → α} (x : TW f) : Res Out := x
def turnT (r : Res Out) (f : Slots → Mem → Res Out) : TW f := match r with
  | .ok (.nx env) M => f env M
  | .ok (.bk env) M => Res.ok (.nx env) M
  | r => r
theorem turn_nx {env : Slots} {M : Mem} {f : Slots → Mem → Res Out} : outW (turnT (.ok (.nx env) M) f) = f env M := id rfl
theorem turn_bk {env : Slots} {M : Mem} {f : Slots → Mem → Res Out} : outW (turnT (.ok (.bk env) M) f) = .ok (.nx env) M := id rfl
theorem turn_rt {d : D} {M : Mem} {f : Slots → Mem → Res Out} : outW (turnT (.ok (.rt d) M) f) = .ok (.rt d) M := id rfl
theorem turn_ite {c : Prop} [Decidable c] {r s : Res Out} {f : Slots → Mem → Res Out} : outW (turnT (if c then r else s) f) = if c then outW (turnT r f) else outW (turnT s f) := by
  split <;> rfl
theorem while_s {c : Slots → Mem → Res D} {b : Slots → Mem → Res Out} {m : Nat} {env : Slots} {M : Mem} : whileL c b (m + 1) env M = out (bndT (c env M) fun x M1 => outP (pickT x M1 (fun M => outW (turnT (b env M) (whileL c b m))) (fun M => .ok (.nx env) M))) := by
  rw [whileL]
  cases c env M with
  | no => rfl
  | ok d M1 =>
    cases d with
    | bl k =>
      cases k with
      | true =>
        show (match b env M1 with | .ok (.nx env') M2 => _ | .ok (.bk env') M2 => _ | r => r) = outW (turnT (b env M1) (whileL c b m))
        cases b env M1 with
        | no => rfl
        | ok o M2 => cases o <;> rfl
      | false => rfl
    | _ => rfl
/-- every list that there is holds plain things -/
def MP (M : Mem) : Prop := ∀ xs, some xs ∈ M → pures xs = true
theorem MP.closed {M : Mem} (h : MP M) (k : Nat) : closed k M = true := by
  unfold Sn.closed
  refine List.all_eq_true.mpr fun o ho => ?_
  cases o with
  | none => rfl
  | some xs => exact h xs (List.mem_of_mem_take ho)
mutual
theorem shut_pure {k : Nat} {M : Mem} : ∀ {d : D}, d.pure = true → d.shut k M = some d
  | .non, _ => by simp [D.shut]
  | .bl _, _ => by simp [D.shut]
  | .int _, _ => by simp [D.shut]
  | .str _, _ => by simp [D.shut]
  | .tup xs, h => by simp only [D.shut]; rw [shuts_pure (by simpa [D.pure] using h)]; rfl
  | .lst xs, h => by simp only [D.shut]; rw [shuts_pure (by simpa [D.pure] using h)]; rfl
  | .scr xs, h => by simp only [D.shut]; rw [if_pos (by simpa [D.pure] using h)]
  | .ref _, h => by simp [D.pure] at h
theorem shuts_pure {k : Nat} {M : Mem} : ∀ {ds : List D}, pures ds = true → shuts k M ds = some ds
  | [], _ => by simp [shuts]
  | d :: ds, h => by
    have h' : d.pure = true ∧ pures ds = true := by simpa [pures] using h
    simp only [shuts]
    rw [shut_pure h'.1, shuts_pure h'.2]
end
/-- a call that hands back something plain and leaves as many lists as there were -/
theorem call_to {n : Nat} {name : Str} {ps N : List Str} {body : Ss} {ds : List D} {M M' : Mem} {d : D} (hl : ds.length = ps.length ∧ ps.length ≤ N.length)
    (hb : evSs n body (fill N ds) M = .ok (.rt d) M') (hp : d.pure = true) (hM : MP M') (hs : M'.length = M.length) : callD n (.mk name false ps N body) ds M = .ok d M' := by
  rw [callD, if_pos hl, fill_eq (by omega), hb]
  dsimp only
  rw [shut_pure hp, hM.closed, ← hs, List.take_length]
  rfl
theorem call_keeps {n : Nat} {name : Str} {ps N : List Str} {body : Ss} {ds : List D} {M M' : Mem} {d : D} (hl : ds.length = ps.length ∧ ps.length ≤ N.length)
    (hb : evSs n body (fill N ds) M = .ok (.rt d) M') : callD n (.mk name true ps N body) ds M = .ok d M' := by
  rw [callD, if_pos hl, fill_eq (by omega), hb]
  rfl
/-- .. nothing (its end is reached) -/
theorem call_nx {n : Nat} {name : Str} {ps N : List Str} {body : Ss} {ds : List D} {M M' : Mem} {env : Slots} (hl : ds.length = ps.length ∧ ps.length ≤ N.length)
    (hb : evSs n body (fill N ds) M = .ok (.nx env) M') (hM : MP M') (hs : M'.length = M.length) : callD n (.mk name false ps N body) ds M = .ok .non M' := by
  rw [callD, if_pos hl, fill_eq (by omega), hb]
  dsimp only
  rw [hM.closed, ← hs, List.take_length]
  rfl
/-- .. with lists of its own, that go -/
theorem call_tmp {n : Nat} {name : Str} {ps N : List Str} {body : Ss} {ds : List D} {M M' : Mem} {d d' : D} (hl : ds.length = ps.length ∧ ps.length ≤ N.length)
    (hb : evSs n body (fill N ds) M = .ok (.rt d) M') (hp : d.shut M.length M' = some d') (hM : closed M.length M' = true) : callD n (.mk name false ps N body) ds M = .ok d' (M'.take M.length) := by
  rw [callD, if_pos hl, fill_eq (by omega), hb]
  dsimp only
  rw [hp, hM]
  rfl

end Sn
/-! Sn, part Q: sizes, and the rules of the steps. -/
namespace Sn
open PySem

/-! ### sizes of ints -/
class Sz (i : Int) (k : outParam Nat) : Prop where
  lt : i.natAbs < 2 ^ k
theorem Sz.of {i : Int} {k : Nat} (h : i.natAbs < 2 ^ k) : Sz i k := ⟨h⟩
theorem Sz.mono {j k : Nat} {i : Int} (h : Sz i j) (l : j ≤ k) : Sz i k := ⟨Nat.lt_of_lt_of_le h.lt (Nat.pow_le_pow_right (by decide) l)⟩
theorem Sz.log {k : Nat} {i : Int} (h : Sz i k) : i.natAbs.log2 < k + 1 := by
  by_cases h0 : i.natAbs = 0
  · rw [h0]; simp
  · exact (Nat.log2_lt h0).mpr (h.mono (Nat.le_succ k)).lt
instance Sz.lit {n : Nat} : Sz (no_index (@OfNat.ofNat Int n instOfNat)) (n.log2 + 1) := ⟨Nat.lt_log2_self⟩
instance Sz.add {j k : Nat} {a b : Int} [h : Sz a j] [g : Sz b k] : Sz (a + b) (max j k + 1) := by
  have h' := (h.mono (Nat.le_max_left j k)).lt
  have g' := (g.mono (Nat.le_max_right j k)).lt
  refine ⟨?_⟩
  rw [Nat.pow_succ]
  omega
instance Sz.neg {j : Nat} {a : Int} [h : Sz a j] : Sz (-a) j := by
  refine ⟨?_⟩
  rw [Int.natAbs_neg]; exact h.lt
instance Sz.sub {j k : Nat} {a b : Int} [h : Sz a j] [g : Sz b k] : Sz (a - b) (max j k + 1) := by
  rw [Int.sub_eq_add_neg]
  exact Sz.add
instance Sz.mul {j k : Nat} {a b : Int} [h : Sz a j] [g : Sz b k] : Sz (a * b) (j + k) := by
  refine ⟨?_⟩
  rw [Int.natAbs_mul, Nat.pow_add]
  exact Nat.mul_lt_mul'' h.lt g.lt
instance Sz.pow {j : Nat} {a : Int} {k : Nat} [h : Sz a j] : Sz (a ^ k) (j * k + 1) := by
  refine ⟨?_⟩
  rw [Int.natAbs_pow, Nat.pow_succ, Nat.pow_mul]
  have : a.natAbs ^ k ≤ (2 ^ j) ^ k := Nat.pow_le_pow_left (Nat.le_of_lt h.lt) k
  have : 0 < (2 ^ j) ^ k := Nat.pow_pos (Nat.pow_pos (by decide))
  omega
instance Sz.fdiv {j : Nat} {a b : Int} [h : Sz a j] : Sz (a.fdiv b) (j + 1) := by
  have hl := h.lt
  refine ⟨?_⟩
  have : (a.fdiv b).natAbs ≤ a.natAbs + 1 := by
    have key : ∀ (a b : Int), 0 < b → (a / b).natAbs ≤ a.natAbs + 1 := fun a b hb => by
      have := Int.natAbs_ediv_le_natAbs a b
      omega
    rcases Int.lt_trichotomy b 0 with hb | hb | hb
    · have e : a.fdiv b = (-a).fdiv (-b) := by rw [Int.neg_fdiv_neg]
      rw [e, Int.fdiv_eq_ediv_of_nonneg _ (by omega)]
      have := key (-a) (-b) (by omega)
      rw [Int.natAbs_neg] at this
      exact this
    · subst hb; simp
    · rw [Int.fdiv_eq_ediv_of_nonneg _ (by omega)]
      exact key a b hb
  rw [Nat.pow_succ]
  have : 0 < 2 ^ j := Nat.pow_pos (by decide)
  omega
theorem mulOk_sz {j k : Nat} {a b : Int} [h : Sz a j] [g : Sz b k] (l : j + k + 2 ≤ 1000000) : mulOk a b = true := by
  unfold mulOk
  rw [decide_eq_true_eq]
  have h1 := h.log
  have h2 := g.log
  omega
theorem divOk_sz {k : Nat} {b : Int} (h0 : b ≠ 0) [g : Sz b k] (l : k + 1 ≤ 9000) : divOk b = true := by
  unfold divOk
  rw [Bool.and_eq_true, decide_eq_true_eq, decide_eq_true_eq]
  have h2 := g.log
  exact ⟨h0, by omega⟩
theorem powOk_sz {k : Nat} {a : Int} {e : Nat} [g : Sz a k] (l : (k + 2) * e ≤ 2 ^ 27) : powOk a (e : Int) = true := by
  unfold powOk
  rw [Bool.and_eq_true, decide_eq_true_eq, decide_eq_true_eq]
  have h2 := g.log
  refine ⟨Int.natCast_nonneg e, ?_⟩
  have : (a.natAbs.log2 + 1) * e ≤ 2 ^ 27 := Nat.le_trans (Nat.mul_le_mul_right e (by omega)) l
  exact_mod_cast this
theorem show_sz {k : Nat} {a : Int} [g : Sz a k] (l : k < 1920) : a.natAbs.log2 < 1920 := by
  have h2 := g.log
  omega

/-! ### the steps -/
section
variable {m : Bool} {M : Mem} {a b : Int} {j k : Nat}
theorem b_add : binop m .add (.int a) (.int b) M = .ok (.int (a + b)) M := id rfl
theorem b_sub : binop m .sub (.int a) (.int b) M = .ok (.int (a - b)) M := id rfl
theorem b_mul [Sz a j] [Sz b k] (l : j + k + 2 ≤ 1000000) : binop m .mul (.int a) (.int b) M = .ok (.int (a * b)) M := by
  show guard (mulOk a b) _ = _
  rw [mulOk_sz l]; rfl
theorem b_fdiv (h0 : b ≠ 0) [Sz b k] (l : k + 1 ≤ 9000) : binop m .fdiv (.int a) (.int b) M = .ok (.int (a.fdiv b)) M := by
  show guard (divOk b) _ = _
  rw [divOk_sz h0 l]; rfl
theorem b_mod (h0 : b ≠ 0) : binop m .mod (.int a) (.int b) M = .ok (.int (a.fmod b)) M := by
  show guard (decide (b ≠ 0)) _ = _
  rw [decide_eq_true h0]; rfl
theorem b_pow {e : Nat} [Sz a k] (l : (k + 2) * e ≤ 2 ^ 27) : binop m .pow (.int a) (.int (no_index (@OfNat.ofNat Int e instOfNat))) M = .ok (.int (a ^ (@OfNat.ofNat Nat e (instOfNatNat e)))) M := by
  show guard (powOk a (e : Int)) _ = _
  rw [powOk_sz l]
  show Res.ok (D.int (a ^ ((e : Int).toNat))) M = _
  rw [Int.toNat_natCast]
  rfl
theorem c_lt : cmpop .lt (.int a) (.int b) M = some (decide (a < b)) := id rfl
theorem c_le : cmpop .le (.int a) (.int b) M = some (decide (a ≤ b)) := id rfl
theorem c_gt : cmpop .gt (.int a) (.int b) M = some (decide (b < a)) := id rfl
theorem c_ge : cmpop .ge (.int a) (.int b) M = some (decide (b ≤ a)) := id rfl
theorem c_eqi : cmpop .eq (.int a) (.int b) M = some (decide (a = b)) := by
  unfold cmpop eqop
  simp only [D.py, D.py0]
  rfl
theorem c_nei : cmpop .ne (.int a) (.int b) M = some (!decide (a = b)) := by
  unfold cmpop eqop
  simp only [D.py, D.py0]
  rfl
theorem p_abs : primop m .abs [.int a] M = .ok (.int (a.natAbs : Int)) M := id rfl
theorem p_int : primop m .int [.int a] M = .ok (.int a) M := id rfl
theorem p_max : primop m .max [.int a, .int b] M = .ok (.int (if b > a then b else a)) M := id rfl
theorem p_min : primop m .min [.int a, .int b] M = .ok (.int (if b < a then b else a)) M := id rfl
theorem put_0 {d : D} {o : Option D} {env : Slots} : Tg.put (.nm 0) d (o :: env) = some (some d :: env) := by
  simp [Tg.put]
theorem put_s {d : D} {o : Option D} {env : Slots} {i : Nat} : Tg.put (.nm (i + 1)) d (o :: env) = (Tg.put (.nm i) d env).map (o :: ·) := by
  simp only [Tg.put, List.length_cons, Nat.add_lt_add_iff_right, List.set_cons_succ]
  split <;> rfl
theorem put_tp {ts : List Tg} {xs : List D} {env : Slots} : Tg.put (.tp ts) (.tup xs) env = tgPuts ts xs env := by simp [Tg.put]
theorem puts_nil {env : Slots} : tgPuts [] [] env = some env := by simp [tgPuts]
theorem puts_cons {t : Tg} {ts : List Tg} {x : D} {xs : List D} {env : Slots} : tgPuts (t :: ts) (x :: xs) env = (t.put x env).bind (tgPuts ts xs) := by
  simp only [tgPuts]
  cases Tg.put t x env <;> rfl
theorem newT_of {xs : List D} (h : xs.length ≤ sizeLine) : newT xs M = .ok (.tup xs) M := by
  unfold newT; rw [if_pos h]
theorem newL_f {xs : List D} (h : xs.length ≤ sizeLine) : newL false xs M = .ok (.lst xs) M := by
  unfold newL; rw [if_pos h]; rfl
theorem newL_t {xs : List D} (h : xs.length ≤ sizeLine) : newL true xs M = .ok (.ref M.length) (M ++ [some xs]) := by
  unfold newL; rw [if_pos h]; rfl
theorem size_small {k : Nat} (h : k ≤ 1000) : k ≤ sizeLine := Nat.le_trans h (by decide)
theorem atI_cast {α : Type} {xs : List α} {n : Nat} : L2.atI xs (n : Int) = xs[n]? := by
  unfold L2.atI L2.ixN
  rw [if_pos (Int.natCast_nonneg n)]
  by_cases h : n < xs.length
  · rw [if_pos (by exact_mod_cast h)]; rfl
  · rw [if_neg (by exact_mod_cast h), List.getElem?_eq_none (by omega)]; rfl
theorem atI_nat {α : Type} {xs : List α} {n : Nat} : L2.atI xs (no_index (@OfNat.ofNat Int n instOfNat)) = xs[n]? := atI_cast
theorem ix_tup {xs : List D} {i : Int} : ixop (.tup xs) i M = L2.atI xs i := by simp [ixop, itemsS]
theorem ix_lst {xs : List D} {i : Int} : ixop (.lst xs) i M = L2.atI xs i := by simp [ixop, itemsS, itemsL, itemsC]
theorem ix_scr {xs : List D} {i : Int} : ixop (.scr xs) i M = L2.atI xs i := by simp [ixop, itemsS, itemsL]
theorem ix_ref {r : Nat} {xs : List D} {i : Int} (h : Mem.cont M r = some xs) : ixop (.ref r) i M = L2.atI xs i := by simp [ixop, itemsS, itemsL, itemsC, h]
end
end Sn
/-! Sn, part R: repr of data without texts. -/
namespace Sn
open PySem PyProof.Rows

def Asc (x : Str) : Prop := ∀ c ∈ x.cps.toList, c < 128
theorem Asc.app {x y : Str} (h : Asc x) (g : Asc y) : Asc (x ++ y) := fun c hc => by
  rcases mem_cps_append.mp hc with z | z
  · exact h c z
  · exact g c z
theorem asc_lit {x : Str} (h : (x.cps.toList.all fun c => Nat.blt c 128) = true) : Asc x := fun c hc => by
  have := List.all_eq_true.mp h c hc
  have := Nat.le_of_ble_eq_true this
  omega
theorem Asc.ok {x : Str} (h : Asc x) : PyData.strOk x = true := by
  unfold PyData.strOk
  rw [Array.all_eq_true_iff_forall_mem]
  intro c hc
  have := h c (by simpa using hc)
  simp
  omega
theorem asc_int (i : Int) : Asc ((toString i : String) : Str) := fun c hc => by
  by_cases h : c < 128
  · exact h
  · exact absurd hc (int_text_free' c ⟨by omega, .inr (by omega)⟩ i)
theorem asc_text : ∀ (ts : List Str) (k : Nat) (acc : Str), Asc acc → (∀ t ∈ ts, Asc t) → Asc (textFrom k acc ts)
  | [], _, _, h, _ => h
  | t :: ts, k, acc, h, g => asc_text ts (k + 1) _ ((h.app (by split <;> exact asc_lit rfl)).app (g t (by simp))) fun u hu => g u (by simp [hu])
theorem asc_join : ∀ (ts : List Str), (∀ t ∈ ts, Asc t) → Asc (Str.join ", " ts)
  | [], _ => asc_lit rfl
  | [x], h => h x (by simp)
  | x :: y :: r, h => ((h x (by simp)).app (asc_lit rfl)).app (asc_join (y :: r) fun t ht => h t (by simp [List.mem_cons.mp ht]))
theorem text_le : ∀ (ts : List Str) (k : Nat) (acc : Str), (textFrom k acc ts).length ≤ acc.length + piled ts
  | [], k, acc => by show acc.length ≤ _; omega
  | t :: r, k, acc => by
    have h := text_le r (k + 1) (acc ++ (if k > 0 then ", " else "" : String) ++ t)
    rw [strLen_append, strLen_append] at h
    rw [piled_cons]
    have : (((if k > 0 then ", " else "" : String) : Str)).length ≤ 2 := by split <;> decide
    show (textFrom (k + 1) _ r).length ≤ _
    omega
mutual
/-- no text, no dict within -/
def bare : PyData → Bool
  | .none => true
  | .bool _ => true
  | .int _ => true
  | .str _ => false
  | .list xs => bares xs
  | .tuple xs => bares xs
  | .dict _ => false
def bares : List PyData → Bool
  | [] => true
  | x :: xs => bare x && bares xs
end
mutual
/-- a bound of the repr's length -/
def cost : PyData → Nat
  | .none => 4
  | .bool _ => 5
  | .int _ => 1921
  | .str _ => 0
  | .list xs => costs xs + 2
  | .tuple xs => costs xs + 3
  | .dict _ => 0
def costs : List PyData → Nat
  | [] => 0
  | x :: xs => cost x + 2 + costs xs
end
mutual
theorem shown_asc : ∀ {p : PyData}, bare p = true → Asc p.shown
  | .none, _ => by simp only [PyData.shown]; exact asc_lit rfl
  | .bool b, _ => by simp only [PyData.shown]; cases b <;> exact asc_lit rfl
  | .int i, _ => by simp only [PyData.shown]; exact asc_int i
  | .str _, h => by simp [bare] at h
  | .list xs, h => by
    simp only [PyData.shown]
    unfold listText
    exact (asc_text _ _ _ (asc_lit rfl) (showns_asc (by simpa [bare] using h))).app (asc_lit rfl)
  | .tuple xs, h => by
    simp only [PyData.shown]
    unfold tupleText
    refine ((asc_lit rfl).app (asc_join _ (showns_asc (by simpa [bare] using h)))).app ?_
    split <;> exact asc_lit rfl
  | .dict _, h => by simp [bare] at h
theorem showns_asc : ∀ {ps : List PyData}, bares ps = true → ∀ t ∈ PyData.shownAll ps, Asc t
  | [], _, t, ht => by simp [PyData.shownAll] at ht
  | p :: ps, h, t, ht => by
    have h' : bare p = true ∧ bares ps = true := by simpa [bares] using h
    simp only [PyData.shownAll, List.mem_cons] at ht
    rcases ht with rfl | ht
    · exact shown_asc h'.1
    · exact showns_asc h'.2 t ht
end
theorem piled_nil : piled [] = 0 := rfl
mutual
theorem shown_le : ∀ {p : PyData}, bare p = true → p.showable = true → p.shown.length ≤ cost p
  | .none, _, _ => by simp only [PyData.shown, cost]; decide
  | .bool b, _, _ => by simp only [PyData.shown, cost]; cases b <;> decide
  | .int i, _, h => by
    simp only [PyData.shown, cost]
    exact int_text_len_1921 (by simpa [PyData.showable] using h)
  | .str _, h, _ => by simp [bare] at h
  | .list xs, h, g => by
    simp only [PyData.shown, cost]
    unfold listText
    have h1 := showns_le (ps := xs) (by simpa [bare] using h) (by simpa [PyData.showable] using g)
    have h2 := text_le (PyData.shownAll xs) 0 "["
    rw [strLen_append]
    have e1 : (("[" : String) : Str).length = 1 := rfl
    have e2 : (("]" : String) : Str).length = 1 := rfl
    omega
  | .tuple xs, h, g => by
    simp only [PyData.shown, cost]
    unfold tupleText
    have h1 := showns_le (ps := xs) (by simpa [bare] using h) (by simpa [PyData.showable] using g)
    rw [strLen_append, strLen_append]
    have e1 : (("(" : String) : Str).length = 1 := rfl
    have e2 : (((if (PyData.shownAll xs).length == 1 then ",)" else ")" : String) : Str)).length ≤ 2 := by split <;> decide
    by_cases he : PyData.shownAll xs = []
    · rw [he] at e2 ⊢
      have e3 : (Str.join ", " []).length = 0 := rfl
      omega
    · have := join_length_add _ he
      omega
  | .dict _, h, _ => by simp [bare] at h
theorem showns_le : ∀ {ps : List PyData}, bares ps = true → PyData.showableAll ps = true → piled (PyData.shownAll ps) ≤ costs ps
  | [], _, _ => by simp only [PyData.shownAll, costs, piled_nil]; exact Nat.le_refl 0
  | p :: ps, h, g => by
    have h' : bare p = true ∧ bares ps = true := by simpa [bares] using h
    have g' : p.showable = true ∧ PyData.showableAll ps = true := by simpa [PyData.showableAll] using g
    have h1 := shown_le h'.1 g'.1
    have h2 := showns_le h'.2 g'.2
    simp only [PyData.shownAll, costs, piled_cons]
    omega
end
mutual
theorem bare_lay : ∀ {p : PyData}, bare p = true → p.canLay0 = true
  | .none, _ => by simp [PyData.canLay0]
  | .bool _, _ => by simp [PyData.canLay0]
  | .int _, _ => by simp [PyData.canLay0]
  | .str _, h => by simp [bare] at h
  | .list xs, h => by simp only [PyData.canLay0]; exact bares_lay (by simpa [bare] using h)
  | .tuple xs, h => by simp only [PyData.canLay0]; exact bares_lay (by simpa [bare] using h)
  | .dict _, h => by simp [bare] at h
theorem bares_lay : ∀ {ps : List PyData}, bares ps = true → PyData.canLayAll0 ps = true
  | [], _ => by simp [PyData.canLayAll0]
  | p :: ps, h => by
    have h' : bare p = true ∧ bares ps = true := by simpa [bares] using h
    simp only [PyData.canLayAll0, Bool.and_eq_true]
    exact ⟨bare_lay h'.1, bares_lay h'.2⟩
end
mutual
theorem eqv_same : ∀ {p : PyData}, p.canLay0 = true → PyData.eqv p p = true
  | .none, _ => by simp [PyData.eqv]
  | .bool b, _ => by simp [PyData.eqv]
  | .int i, _ => by simp [PyData.eqv]
  | .str x, _ => by
    simp only [PyData.eqv]
    exact beq_self_eq_true x
  | .list xs, h => by simp only [PyData.eqv]; exact eqvs_same (by simpa [PyData.canLay0] using h)
  | .tuple xs, h => by simp only [PyData.eqv]; exact eqvs_same (by simpa [PyData.canLay0] using h)
  | .dict _, h => by simp [PyData.canLay0] at h
theorem eqvs_same : ∀ {ps : List PyData}, PyData.canLayAll0 ps = true → PyData.eqvAll ps ps = true
  | [], _ => by simp [PyData.eqvAll]
  | p :: ps, h => by
    have h' : p.canLay0 = true ∧ PyData.canLayAll0 ps = true := by simpa [PyData.canLayAll0] using h
    simp only [PyData.eqvAll, Bool.and_eq_true]
    exact ⟨eqv_same h'.1, eqvs_same h'.2⟩
end
mutual
theorem py0_pyN {M : Mem} : ∀ {d : D} {p : PyData}, d.py0 = some p → d.pyN M = some p
  | .non, _, h => h
  | .bl _, _, h => h
  | .int _, _, h => h
  | .str _, _, h => h
  | .tup xs, _, h => by
    simp only [D.py0, Option.map_eq_some_iff] at h
    obtain ⟨ps, e, rfl⟩ := h
    simp only [D.pyN, py0s_pysN e, Option.map_some]
  | .lst xs, _, h => by
    simp only [D.py0, Option.map_eq_some_iff] at h
    obtain ⟨ps, e, rfl⟩ := h
    simp only [D.pyN, py0s_pysN e, Option.map_some]
  | .scr xs, _, h => by
    simp only [D.py0, Option.map_eq_some_iff] at h
    obtain ⟨ps, e, rfl⟩ := h
    simp only [D.pyN, py0s_pysN e, Option.map_some]
  | .ref _, _, h => by simp [D.py0] at h
theorem py0s_pysN {M : Mem} : ∀ {ds : List D} {ps : List PyData}, py0s ds = some ps → pysN M ds = some ps
  | [], _, h => by
    simp only [py0s, Option.some.injEq] at h
    subst h
    simp only [pysN]
  | d :: ds, _, h => by
    simp only [py0s] at h
    split at h
    · rename_i p ps e1 e2
      cases h
      simp only [pysN, py0_pyN e1, py0s_pysN e2]
    · cases h
end
theorem py_pyN {M : Mem} {d : D} {p : PyData} (h : d.py M = some p) : d.pyN M = some p := by
  cases d with
  | ref n => exact h
  | _ => exact py0_pyN h
section
variable {m : Bool} {M : Mem} {d : D} {p : PyData}
theorem p_reprN (e : d.pyN M = some p) (hb : bare p = true) (hs : p.showable = true) (hd : p.depth ≤ 60) (hc : cost p ≤ sizeLine) : primop m .repr [d] M = .ok (.str p.shown) M := by
  have h1 := Nat.le_trans (shown_le hb hs) hc
  simp only [primop]
  cases q : d.py M with
  | none =>
    simp only [e]
    unfold guard
    rw [if_pos (by simp [hs, hd, h1])]
  | some p' =>
    have := py_pyN q
    rw [e] at this
    cases this
    dsimp only
    unfold guard
    rw [if_pos (by simp [hs, hd, h1])]
theorem eqop_some {x y : D} {q : PyData} (e1 : x.py M = some p) (e2 : y.py M = some q) : eqop x y M = if SeqAt.shaped p && SeqAt.shaped q then some (PyData.eqv p q) else none := by
  unfold eqop
  rw [e1, e2]
theorem eqop_pyN {x y : D} {q : PyData} (e1 : x.pyN M = some p) (e2 : y.pyN M = some q) : eqop x y M = if SeqAt.shaped p && SeqAt.shaped q then some (PyData.eqv p q) else none := by
  unfold eqop
  split
  · rename_i p' q' h1 h2
    have a1 := py_pyN h1
    have a2 := py_pyN h2
    rw [e1] at a1
    rw [e2] at a2
    cases a1
    cases a2
    rfl
  · unfold eqopN
    rw [e1, e2]
theorem p_repr (e : d.py M = some p) (hb : bare p = true) (hs : p.showable = true) (hd : p.depth ≤ 60) (hc : cost p ≤ sizeLine) : primop m .repr [d] M = .ok (.str p.shown) M := by
  simp only [primop, e]
  have h1 := Nat.le_trans (shown_le hb hs) hc
  unfold guard
  rw [if_pos (by simp [hs, hd, h1])]
theorem shaped_str (hb : bare p = true) : SeqAt.shaped (.str p.shown) = true := by
  unfold SeqAt.shaped
  rw [Bool.and_eq_true]
  exact ⟨by simp only [PyData.canLay0]; exact (shown_asc hb).ok, by simp [PyData.depth]⟩
theorem c_ne_shown (hb : bare p = true) : cmpop .ne (.str p.shown) (.str p.shown) M = some false := by
  have h := shaped_str hb
  unfold cmpop eqop
  simp only [D.py, D.py0, h, Bool.and_self, if_true, PyData.eqv]
  simp
theorem c_eq_shown (hb : bare p = true) : cmpop .eq (.str p.shown) (.str p.shown) M = some true := by
  have h := shaped_str hb
  unfold cmpop eqop
  simp only [D.py, D.py0, h, Bool.and_self, if_true, PyData.eqv]
  simp
theorem c_eq_same (e : d.py M = some p) (hb : bare p = true) (hd : p.depth ≤ 60) : cmpop .eq d d M = some true := by
  have h : SeqAt.shaped p = true := by
    unfold SeqAt.shaped
    rw [Bool.and_eq_true]
    exact ⟨bare_lay hb, by simp; omega⟩
  unfold cmpop eqop
  simp only [e, h, Bool.and_self, if_true, eqv_same (bare_lay hb)]
theorem c_ne_same (e : d.py M = some p) (hb : bare p = true) (hd : p.depth ≤ 60) : cmpop .ne d d M = some false := by
  have h : eqop d d M = some true := c_eq_same e hb hd
  show (eqop d d M).map (!·) = some false
  rw [h]
  rfl
end
end Sn
/-! Sn, part S: places in lowest terms; the memory's lists. -/
namespace Sn
open PySem
abbrev pl (a b p : Int) : D := .tup [.int a, .int b, .int p]
def g3 (x y p : Int) : Nat := Int.gcd ((Int.gcd x y : Nat) : Int) p
def dv (x y p : Int) : Int := if p < 0 then -((g3 x y p : Nat) : Int) else ((g3 x y p : Nat) : Int)
def low (x y p : Int) : D := pl (x.fdiv (dv x y p)) (y.fdiv (dv x y p)) (p.fdiv (dv x y p))
structure Norm (a b p : Int) : Prop where
  pos : 0 < p
  one : g3 a b p = 1
theorem g3_mul (x y p d : Int) : g3 (d * x) (d * y) (d * p) = d.natAbs * g3 x y p := by
  unfold g3
  rw [Int.gcd_mul_left]
  show Nat.gcd (d.natAbs * Int.gcd x y) (d * p).natAbs = _
  rw [Int.natAbs_mul, Nat.gcd_mul_left]
  rfl
theorem g3_dvd {x y p : Int} : ((g3 x y p : Nat) : Int) ∣ x ∧ ((g3 x y p : Nat) : Int) ∣ y ∧ ((g3 x y p : Nat) : Int) ∣ p := by
  unfold g3
  have h1 : ((Int.gcd ((Int.gcd x y : Nat) : Int) p : Nat) : Int) ∣ ((Int.gcd x y : Nat) : Int) := Int.gcd_dvd_left ..
  exact ⟨Int.dvd_trans h1 (Int.gcd_dvd_left ..), Int.dvd_trans h1 (Int.gcd_dvd_right ..), Int.gcd_dvd_right ..⟩
theorem dvd_g3 {x y p k : Int} (h1 : k ∣ x) (h2 : k ∣ y) (h3 : k ∣ p) : k ∣ ((g3 x y p : Nat) : Int) := Int.dvd_coe_gcd (Int.dvd_coe_gcd h1 h2) h3
theorem g3_pos {x y p : Int} (h : p ≠ 0) : 0 < g3 x y p := Int.gcd_pos_of_ne_zero_right _ h
theorem dv_ne {x y p : Int} (h : p ≠ 0) : dv x y p ≠ 0 := by
  have := g3_pos (x := x) (y := y) h
  unfold dv
  split <;> omega
theorem dv_abs {x y p : Int} : (dv x y p).natAbs = g3 x y p := by
  unfold dv
  split <;> omega
theorem dv_dvd {x y p z : Int} (h : ((g3 x y p : Nat) : Int) ∣ z) : dv x y p ∣ z := by
  unfold dv
  split
  · exact Int.neg_dvd.mpr h
  · exact h
theorem low_out {x y p : Int} (hp : p ≠ 0) : ∃ a b c, low x y p = pl a b c ∧ Norm a b c ∧ a * p = x * c ∧ b * p = y * c ∧ a.natAbs ≤ x.natAbs ∧ b.natAbs ≤ y.natAbs ∧ c.natAbs ≤ p.natAbs := by
  obtain ⟨h1, h2, h3⟩ := g3_dvd (x := x) (y := y) (p := p)
  obtain ⟨a, ea⟩ := dv_dvd h1
  obtain ⟨b, eb⟩ := dv_dvd h2
  obtain ⟨c, ec⟩ := dv_dvd h3
  have hd := dv_ne (x := x) (y := y) hp
  have hda := dv_abs (x := x) (y := y) (p := p)
  have hg := g3_pos (x := x) (y := y) hp
  have hs : (dv x y p < 0) ↔ p < 0 := by
    unfold dv
    split <;> omega
  revert hd hda hs ea eb ec
  generalize ed : dv x y p = d
  intro ea eb ec hd hda hs
  have f : ∀ z : Int, (d * z).fdiv d = z := fun z => Int.mul_fdiv_cancel_left z hd
  have abs : ∀ z : Int, z.natAbs ≤ (d * z).natAbs := fun z => by
    rw [Int.natAbs_mul]
    exact Nat.le_mul_of_pos_left _ (by omega)
  refine ⟨a, b, c, ?_, ⟨?_, ?_⟩, ?_, ?_, by rw [ea]; exact abs a, by rw [eb]; exact abs b, ?_⟩
  · unfold low
    rw [ed]
    have fa : x.fdiv d = a := by rw [ea]; exact f a
    have fb : y.fdiv d = b := by rw [eb]; exact f b
    have fc : p.fdiv d = c := by rw [ec]; exact f c
    rw [fa, fb, fc]
  · rcases Int.lt_trichotomy c 0 with hc | hc | hc
    · by_cases hn : p < 0
      · have := Int.mul_pos_of_neg_of_neg (hs.mpr hn) hc
        omega
      · have hd' : 0 < d := by have := mt hs.mp hn; omega
        have := Int.mul_neg_of_pos_of_neg hd' hc
        omega
    · subst hc; simp at ec; exact absurd ec hp
    · exact hc
  · have hm := g3_mul a b c d
    rw [← ea, ← eb, ← ec, hda] at hm
    exact (Nat.eq_of_mul_eq_mul_left hg (by rw [Nat.mul_one]; exact hm)).symm
  · rw [ea, ec]; grind
  · rw [eb, ec]; grind
  · rw [ec]; exact abs c
theorem norm_dvd {a b c a' b' c' : Int} (h : Norm a b c) (e1 : a * c' = a' * c) (e2 : b * c' = b' * c) : c ∣ c' := by
  have h1 : c ∣ c' * a := ⟨a', by grind⟩
  have h2 : c ∣ c' * b := ⟨b', by grind⟩
  have h3 : c ∣ c' * c := ⟨c', by grind⟩
  have := dvd_g3 h1 h2 h3
  rw [g3_mul, h.one, Nat.mul_one] at this
  exact Int.dvd_natAbs.mp this
theorem norm_eq {a b c a' b' c' : Int} (h : Norm a b c) (h' : Norm a' b' c') (e1 : a * c' = a' * c) (e2 : b * c' = b' * c) : a = a' ∧ b = b' ∧ c = c' := by
  have d1 := norm_dvd h e1 e2
  have d2 := norm_dvd h' e1.symm e2.symm
  have ec : c = c' := Int.dvd_antisymm (Int.le_of_lt h.pos) (Int.le_of_lt h'.pos) d1 d2
  subst ec
  exact ⟨Int.eq_of_mul_eq_mul_right (by have := h.pos; omega) e1, Int.eq_of_mul_eq_mul_right (by have := h.pos; omega) e2, rfl⟩
theorem low_is {a b c x y q : Int} (h : Norm a b c) (hq : q ≠ 0) (e1 : a * q = x * c) (e2 : b * q = y * c) : low x y q = pl a b c := by
  obtain ⟨a', b', c', e, h', f1, f2, _⟩ := low_out (x := x) (y := y) hq
  have k1 : a * c' = a' * c := Int.eq_of_mul_eq_mul_right hq (by grind)
  have k2 : b * c' = b' * c := Int.eq_of_mul_eq_mul_right hq (by grind)
  obtain ⟨rfl, rfl, rfl⟩ := norm_eq h h' k1 k2
  exact e
theorem low_eq {x y p z w q : Int} (hp : p ≠ 0) (hq : q ≠ 0) (e1 : x * q = z * p) (e2 : y * q = w * p) : low x y p = low z w q := by
  obtain ⟨a, b, c, e, h, f1, f2, _⟩ := low_out (x := z) (y := w) hq
  rw [e]
  refine low_is h hp (Int.eq_of_mul_eq_mul_right hq ?_) (Int.eq_of_mul_eq_mul_right hq ?_)
  · grind
  · grind
theorem low_norm {a b c : Int} (h : Norm a b c) : low a b c = pl a b c := low_is h (by have := h.pos; omega) rfl rfl
theorem Norm.ne {a b c : Int} (h : Norm a b c) : c ≠ 0 := by have := h.pos; omega
theorem Sz.le {a b : Int} {k : Nat} (h : Sz b k) (l : a.natAbs ≤ b.natAbs) : Sz a k := ⟨Nat.lt_of_le_of_lt l h.lt⟩
theorem Sz.low {x y p : Int} {j k l : Nat} [hx : Sz x j] [hy : Sz y k] [hp : Sz p l] (h0 : p ≠ 0) : ∃ a b c, low x y p = pl a b c ∧ Norm a b c ∧ a * p = x * c ∧ b * p = y * c ∧ Sz a j ∧ Sz b k ∧ Sz c l := by
  obtain ⟨a, b, c, e, h, f1, f2, z1, z2, z3⟩ := low_out (x := x) (y := y) h0
  exact ⟨a, b, c, e, h, f1, f2, hx.le z1, hy.le z2, hp.le z3⟩

def fr (x p : Int) : D := .tup [.int (x.fdiv ((Int.gcd x p : Nat) : Int)), .int (p.fdiv ((Int.gcd x p : Nat) : Int))]
theorem dv_0 {x p : Int} (h : 0 < p) : dv x 0 p = ((Int.gcd x p : Nat) : Int) := by
  unfold dv g3
  rw [if_neg (by omega), Int.gcd_zero_right, Int.gcd_eq_natAbs_gcd_natAbs, Int.gcd_eq_natAbs_gcd_natAbs, Int.natAbs_natCast]
theorem low_0 {x p : Int} (h : 0 < p) : low x 0 p = pl (x.fdiv ((Int.gcd x p : Nat) : Int)) 0 (p.fdiv ((Int.gcd x p : Nat) : Int)) := by
  unfold low
  rw [dv_0 h, Int.zero_fdiv]
theorem pl_inj {a b c x y z : Int} (h : pl a b c = pl x y z) : a = x ∧ b = y ∧ c = z := by
  unfold pl at h
  injection h with h
  injection h with h1 h
  injection h with h2 h
  injection h with h3 _
  injection h1 with h1
  injection h2 with h2
  injection h3 with h3
  exact ⟨h1, h2, h3⟩
theorem fr_eq {x p z q : Int} (hp : 0 < p) (hq : 0 < q) (e : x * q = z * p) : fr x p = fr z q := by
  have h := low_eq (x := x) (y := 0) (p := p) (z := z) (w := 0) (q := q) (by omega) (by omega) e (by simp)
  rw [low_0 hp, low_0 hq] at h
  obtain ⟨h1, _, h3⟩ := pl_inj h
  unfold fr
  rw [h1, h3]
theorem fr_out {x p : Int} {j k : Nat} [hx : Sz x j] [hy : Sz p k] (hp : 0 < p) : ∃ t u, fr x p = .tup [.int t, .int u] ∧ 0 < u ∧ Norm t 0 u ∧ t * p = x * u ∧ Sz t j ∧ Sz u k := by
  obtain ⟨a, b, c, e, h, f1, f2, z1, z2, z3⟩ := low_out (x := x) (y := 0) (p := p) (by omega)
  rw [low_0 hp] at e
  obtain ⟨h1, h2, h3⟩ := pl_inj e
  subst h2
  exact ⟨a, c, by unfold fr; rw [h1, h3], h.pos, h, f1, hx.le z1, hy.le z3⟩
theorem norm_sq {c d q : Int} (h : Norm c d q) (hn : ¬ (c = 0 ∧ d = 0 ∧ q = 1)) : 0 < c * c + d * d := by
  have h1 : 0 ≤ c * c := by
    rcases Int.le_total 0 c with z | z
    · exact Int.mul_nonneg z z
    · exact Int.mul_nonneg_of_nonpos_of_nonpos z z
  have h2 : 0 ≤ d * d := by
    rcases Int.le_total 0 d with z | z
    · exact Int.mul_nonneg z z
    · exact Int.mul_nonneg_of_nonpos_of_nonpos z z
  rcases Int.lt_or_eq_of_le (show 0 ≤ c * c + d * d by omega) with z | z
  · exact z
  · have c0 : c = 0 := by
      have : c * c = 0 := by omega
      rcases Int.mul_eq_zero.mp this with w | w <;> exact w
    have d0 : d = 0 := by
      have : d * d = 0 := by omega
      rcases Int.mul_eq_zero.mp this with w | w <;> exact w
    subst c0 d0
    have e := h.one
    have := h.pos
    unfold g3 at e
    simp at e
    exact absurd ⟨rfl, rfl, by omega⟩ hn

/-! ### lists in the memory -/
theorem len_of_cont {M : Mem} {r : Nat} {xs : List D} (e : Mem.cont M r = some xs) : r < M.length := cont_lt e
theorem cont_put {M : Mem} {r : Nat} {xs ys : List D} (e : Mem.cont M r = some ys) : Mem.cont (M.set r (some xs)) r = some xs := (cont_set (cont_lt e)).mpr (.inl ⟨rfl, rfl⟩)
theorem MP.put {M : Mem} (h : MP M) {xs : List D} (p : pures xs = true) (r : Nat) : MP (M.set r (some xs)) := fun ys hy => by
  rcases List.mem_or_eq_of_mem_set hy with z | z
  · exact h ys z
  · cases z; exact p
theorem MP.nil : MP [] := fun _ h => by simp at h
theorem MP.push {M : Mem} (h : MP M) {xs : List D} (p : pures xs = true) : MP (M ++ [some xs]) := fun ys hy => by
  rcases List.mem_append.mp hy with z | z
  · exact h ys z
  · simp at z; subst z; exact p
theorem set_at {M : Mem} {r j : Nat} {xs : List D} {i : Int} {v : D} (e : Mem.cont M r = some xs) (hj : L2.ixN xs.length i = some j) : setop (.ref r) i v M = some (M.set r (some (xs.set j v))) := by
  simp only [setop, e, hj]
end Sn
/-! Sn, part U: loops and comprehensions by rewriting; lists of ints. -/
namespace Sn
open PySem
open Classical in
theorem for_ix {refs : List Nat} {M0 : Mem} {body : D → Slots → Mem → Res Out} (I : Nat → Slots → Mem → Prop) : ∀ (xs : List D) (k : Nat), (∀ i x, xs[i]? = some x → ∀ env M, I (k + i) env M → ∃ env' M', body x env M = .ok (.nx env') M' ∧ stays refs M0 M' ∧ I (k + i + 1) env' M') →
    ∀ env M, I k env M → ∃ env' M', forL refs M0 body xs env M = .ok (.nx env') M' ∧ I (k + xs.length) env' M'
  | [], k, _, env, M, h => ⟨env, M, by rw [forL], h⟩
  | x :: xs, k, hb, env, M, h => by
    obtain ⟨env1, M1, e1, st, h1⟩ := hb 0 x rfl env M h
    obtain ⟨env2, M2, e2, h2⟩ := for_ix I xs (k + 1) (fun i y hy env M hi => by
      have e : k + 1 + i = k + (i + 1) := by omega
      rw [e] at hi ⊢
      exact hb (i + 1) y hy env M hi) env1 M1 h1
    refine ⟨env2, M2, ?_, ?_⟩
    · rw [forL, e1]
      dsimp only
      rw [if_pos st, e2]
    · have e : k + (x :: xs).length = k + 1 + xs.length := by rw [List.length_cons]; omega
      rw [e]; exact h2
open Classical in
/-- a comprehension whose turns change nothing -/
theorem compL_map {refs : List Nat} {M : Mem} {turn : D → Mem → Res (Option D)} {f : D → D} : ∀ (xs acc : List D), (∀ x ∈ xs, turn x M = .ok (some (f x)) M) → acc.length + xs.length ≤ sizeLine → compL refs M turn xs acc M = .ok (acc ++ xs.map f) M
  | [], acc, _, _ => by rw [compL]; simp
  | x :: xs, acc, h, l => by
    rw [compL, h x (by simp)]
    dsimp only
    rw [List.length_cons] at l
    rw [if_pos ⟨fun _ _ => rfl, by omega⟩, compL_map xs (acc ++ [f x]) (fun y hy => h y (by simp [hy])) (by rw [List.length_append]; simp; omega)]
    simp
theorem comp_map {n : Nat} {env : Slots} {M : Mem} {own : List Nat} {elt : E} {tg : Tg} {it : Src} {w : Wk} (f : D → D) (hi : evIt n it env M = .ok w M) (h : ∀ x ∈ w.items, ∃ env2, tg.put x (wipes env own) = some env2 ∧ evE n elt env2 M = .ok (f x) M) (l : w.items.length ≤ sizeLine) :
    evE n (.comp false own elt tg it .none) env M = .ok (.lst (w.items.map f)) M := by
  rw [evE, hi]
  show Res.bind (compL w.refs M _ w.items [] M) _ = _
  rw [compL_map (f := f) w.items [] (fun x hx => by
    obtain ⟨env2, e1, e2⟩ := h x hx
    rw [e1]
    show ((evC n .none env2 M).bind fun b M4 => if b = true then (evE n elt env2 M4).bind fun y M5 => Res.ok (some y) M5 else Res.ok none M4) = Res.ok (some (f x)) M
    rw [evC]
    show ((evE n elt env2 M).bind fun y M5 => Res.ok (some y) M5) = Res.ok (some (f x)) M
    rw [e2]
    rfl) (by simpa using l)]
  show newL false ([] ++ w.items.map f) M = _
  rw [List.nil_append, newL_f (by rw [List.length_map]; exact l)]
open Classical in
/-- .. with a test -/
theorem compL_filter {refs : List Nat} {M : Mem} {turn : D → Mem → Res (Option D)} {f : D → Option D} : ∀ (xs acc : List D), (∀ x ∈ xs, turn x M = .ok (f x) M) → acc.length + xs.length ≤ sizeLine → compL refs M turn xs acc M = .ok (acc ++ xs.filterMap f) M
  | [], acc, _, _ => by rw [compL]; simp
  | x :: xs, acc, h, l => by
    rw [List.length_cons] at l
    rw [compL, h x (by simp)]
    cases e : f x with
    | none =>
      dsimp only
      rw [if_pos (show stays refs M M from fun _ _ => rfl), compL_filter xs acc (fun y hy => h y (by simp [hy])) (by omega), List.filterMap_cons, e]
    | some y =>
      dsimp only
      rw [if_pos ⟨fun _ _ => rfl, by omega⟩, compL_filter xs (acc ++ [y]) (fun y hy => h y (by simp [hy])) (by rw [List.length_append]; simp; omega), List.filterMap_cons, e]
      simp
theorem comp_filter {n : Nat} {env : Slots} {M : Mem} {own : List Nat} {elt c : E} {tg : Tg} {it : Src} {w : Wk} (f : D → Option D) (hi : evIt n it env M = .ok w M)
    (h : ∀ x ∈ w.items, ∃ env2 b, tg.put x (wipes env own) = some env2 ∧ evE n c env2 M = .ok (.bl b) M ∧ (b = true → ∃ y, f x = some y ∧ evE n elt env2 M = .ok y M) ∧ (b = false → f x = none)) (l : w.items.length ≤ sizeLine) :
    evE n (.comp false own elt tg it (.some c)) env M = .ok (.lst (w.items.filterMap f)) M := by
  rw [evE, hi]
  show Res.bind (compL w.refs M _ w.items [] M) _ = _
  rw [compL_filter (f := f) w.items [] (fun x hx => by
    obtain ⟨env2, b, e1, e2, e3, e4⟩ := h x hx
    rw [e1]
    show ((evC n (.some c) env2 M).bind fun b M4 => if b = true then (evE n elt env2 M4).bind fun y M5 => Res.ok (some y) M5 else Res.ok none M4) = Res.ok (f x) M
    rw [evC, e2]
    show (if b = true then (evE n elt env2 M).bind fun y M5 => Res.ok (some y) M5 else Res.ok none M) = Res.ok (f x) M
    cases b with
    | true =>
      obtain ⟨y, e5, e6⟩ := e3 rfl
      rw [if_pos rfl, e6, e5]
      rfl
    | false =>
      rw [if_neg Bool.false_ne_true, e4 rfl]) (by simpa using l)]
  show newL false ([] ++ w.items.filterMap f) M = _
  rw [List.nil_append, newL_f (Nat.le_trans (List.length_filterMap_le ..) l)]
theorem it_of {n : Nat} {env : Slots} {M M1 : Mem} {e : E} {d : D} {xs : List D} (h : evE n e env M = .ok d M1) (g : itemsS M1 d = some xs) : evIt n (.of e) env M = .ok ⟨xs, refsOf d⟩ M1 := by
  rw [evIt, h]
  show Res.bind (ofO (itemsS M1 d) M1) _ = _
  rw [g]
  rfl
theorem it_range {n : Nat} {env : Slots} {M M1 : Mem} {e : E} {i : Int} (h : evE n e env M = .ok (.int i) M1) (g : rngOk i = true) : evIt n (.range1 e) env M = .ok ⟨rangeD 0 i.toNat, []⟩ M1 := by
  rw [evIt, h]
  show guard (rngOk i) _ = _
  rw [g]
  rfl
theorem es_for {n : Nat} {env : Slots} {M M1 : Mem} {t : Tg} {it : Src} {b : Ss} {w : Wk} (h : evIt n it env M = .ok w M1) : evS n (.for t it b) env M = forL w.refs M1 (fun x env2 M2 => (ofO (t.put x env2) M2).bind fun env3 M3 => evSs n b env3 M3) w.items env M1 := by
  rw [evS, h]
  rfl
theorem stays_nil {M M' : Mem} : stays [] M M' := fun _ h => by simp at h
/-- an item of a list of ints at a drawn place -/
theorem atI_mem {xs : List D} {v : Int} (h0 : 0 ≤ v) (h1 : v < xs.length) : ∃ d, L2.atI xs v = some d ∧ d ∈ xs := by
  obtain ⟨k, rfl⟩ := Int.eq_ofNat_of_zero_le h0
  have hk : k < xs.length := by omega
  exact ⟨xs[k], by rw [atI_cast, List.getElem?_eq_getElem hk], List.getElem_mem hk⟩
theorem Sz.nat {v m : Int} {k : Nat} (h0 : 0 ≤ v) (h1 : v < m) (h : Sz m k) : Sz v k := h.le (by omega)

theorem cmp_eq {x y : D} {M : Mem} : cmpop .eq x y M = eqop x y M := id rfl
theorem cmp_ne {x y : D} {M : Mem} : cmpop .ne x y M = (eqop x y M).map (!·) := id rfl
/-! ### comparisons of tuples of ints, of lists of ints -/
theorem shaped_ints2 {a b : Int} : SeqAt.shaped (.tuple [.int a, .int b]) = true := by
  simp [SeqAt.shaped, PyData.canLay0, PyData.canLayAll0, PyData.depth, PyData.depthAll]
theorem shaped_ints3 {a b c : Int} : SeqAt.shaped (.tuple [.int a, .int b, .int c]) = true := by
  simp [SeqAt.shaped, PyData.canLay0, PyData.canLayAll0, PyData.depth, PyData.depthAll]
theorem c_eq3 {a b c x y z : Int} {M : Mem} : cmpop .eq (.tup [.int a, .int b, .int c]) (.tup [.int x, .int y, .int z]) M = some (decide (a = x ∧ b = y ∧ c = z)) := by
  rw [cmp_eq]
  simp only [eqop, D.py, D.py0, py0s, Option.map_some, shaped_ints3, Bool.and_self, if_true, PyData.eqv, PyData.eqvAll]
  congr 1
  by_cases h1 : a = x <;> by_cases h2 : b = y <;> by_cases h3 : c = z <;> simp [h1, h2, h3]
theorem c_ne3 {a b c x y z : Int} {M : Mem} : cmpop .ne (.tup [.int a, .int b, .int c]) (.tup [.int x, .int y, .int z]) M = some (!decide (a = x ∧ b = y ∧ c = z)) := by
  have h : eqop (.tup [.int a, .int b, .int c]) (.tup [.int x, .int y, .int z]) M = some (decide (a = x ∧ b = y ∧ c = z)) := c_eq3 (M := M)
  rw [cmp_ne, h]
  rfl
theorem c_eq2 {a b x y : Int} {M : Mem} : cmpop .eq (.tup [.int a, .int b]) (.tup [.int x, .int y]) M = some (decide (a = x ∧ b = y)) := by
  rw [cmp_eq]
  simp only [eqop, D.py, D.py0, py0s, Option.map_some, shaped_ints2, Bool.and_self, if_true, PyData.eqv, PyData.eqvAll]
  congr 1
  by_cases h1 : a = x <;> by_cases h2 : b = y <;> simp [h1, h2]
theorem c_ne2 {a b x y : Int} {M : Mem} : cmpop .ne (.tup [.int a, .int b]) (.tup [.int x, .int y]) M = some (!decide (a = x ∧ b = y)) := by
  have h : eqop (.tup [.int a, .int b]) (.tup [.int x, .int y]) M = some (decide (a = x ∧ b = y)) := c_eq2 (M := M)
  rw [cmp_ne, h]
  rfl
theorem ints_py : ∀ (ns : List Int), py0s (ns.map D.int) = some (ns.map PyData.int)
  | [] => by simp [py0s]
  | n :: ns => by simp [py0s, ints_py ns, D.py0]
theorem ints_lay : ∀ (ns : List Int), PyData.canLayAll0 (ns.map PyData.int) = true ∧ PyData.depthAll (ns.map PyData.int) = 0
  | [] => by simp [PyData.canLayAll0, PyData.depthAll]
  | n :: ns => by
    have := ints_lay ns
    simp [PyData.canLayAll0, PyData.depthAll, PyData.canLay0, PyData.depth, this]
theorem scr_empty {ns : List Int} {M : Mem} : cmpop .eq (.scr (ns.map D.int)) (.lst []) M = some (decide (ns = [])) := by
  have h1 : SeqAt.shaped (.list (ns.map PyData.int)) = true := by
    simp [SeqAt.shaped, PyData.canLay0, PyData.depth, ints_lay ns]
  have h2 : SeqAt.shaped (.list []) = true := by simp [SeqAt.shaped, PyData.canLay0, PyData.canLayAll0, PyData.depth, PyData.depthAll]
  rw [cmp_eq]
  simp only [eqop, D.py, D.py0, ints_py, py0s, Option.map_some, h1, h2, Bool.and_self, if_true, PyData.eqv]
  cases ns with
  | nil => simp [PyData.eqvAll]
  | cons n ns => simp [PyData.eqvAll]
theorem p_intb {m : Bool} {M : Mem} {b : Bool} : primop m .int [.bl b] M = .ok (.int (if b then 1 else 0)) M := id rfl
theorem p_len2 {m : Bool} {M : Mem} {x y : D} : primop m .len [.tup [x, y]] M = .ok (.int 2) M := id rfl
theorem p_len3 {m : Bool} {M : Mem} {x y z : D} : primop m .len [.tup [x, y, z]] M = .ok (.int 3) M := id rfl
theorem ix_r0 {M : Mem} {r : Nat} {x y z : D} (e : Mem.cont M r = some [x, y, z]) : ixop (.ref r) 0 M = some x := by rw [ix_ref e]; rfl
theorem ix_r1 {M : Mem} {r : Nat} {x y z : D} (e : Mem.cont M r = some [x, y, z]) : ixop (.ref r) 1 M = some y := by rw [ix_ref e]; rfl
theorem ix_r2 {M : Mem} {r : Nat} {x y z : D} (e : Mem.cont M r = some [x, y, z]) : ixop (.ref r) 2 M = some z := by rw [ix_ref e]; rfl
theorem st_r0 {M : Mem} {r : Nat} {x y z v : D} (e : Mem.cont M r = some [x, y, z]) : setop (.ref r) 0 v M = some (M.set r (some [v, y, z])) := set_at (i := 0) (j := 0) e rfl
theorem st_r1 {M : Mem} {r : Nat} {x y z v : D} (e : Mem.cont M r = some [x, y, z]) : setop (.ref r) 1 v M = some (M.set r (some [x, v, z])) := set_at (i := 1) (j := 1) e rfl
theorem st_r2 {M : Mem} {r : Nat} {x y z v : D} (e : Mem.cont M r = some [x, y, z]) : setop (.ref r) 2 v M = some (M.set r (some [x, y, v])) := set_at (i := 2) (j := 2) e rfl
/-- a bag of draws at r; at most t were drawn -/
structure Bag (M : Mem) (r t : Nat) : Prop where
  mp : MP M
  at_ : ∃ a b c : Int, Mem.cont M r = some [.int a, .int b, .int c] ∧ 0 ≤ a ∧ Sz b 200 ∧ 0 ≤ c ∧ c ≤ t
theorem Bag.more {M : Mem} {r t u : Nat} (h : Bag M r t) (l : t ≤ u) : Bag M r u := ⟨h.mp, by
  obtain ⟨a, b, c, e, h1, h2, h3, h4⟩ := h.at_
  exact ⟨a, b, c, e, h1, h2, h3, by omega⟩⟩
/-- script[:k] + [0] * int(script == []) -/
def cells (ns : List Int) (k : Nat) : List Int := ns.take k ++ (if ns = [] then [0] else [])
end Sn
/-! Sn, part V: data without texts, its repr and its equality, by the class Bd. -/
namespace Sn
open PySem
instance (priority := high) Sz.l0 : Sz (no_index 0) 0 := ⟨by decide⟩
instance (priority := high) Sz.l1 : Sz (no_index 1) 1 := ⟨by decide⟩
instance (priority := high) Sz.l2 : Sz (no_index 2) 2 := ⟨by decide⟩
instance (priority := high) Sz.l3 : Sz (no_index 3) 2 := ⟨by decide⟩
instance (priority := high) Sz.l4 : Sz (no_index 4) 3 := ⟨by decide⟩
instance (priority := high) Sz.l5 : Sz (no_index 5) 3 := ⟨by decide⟩
instance (priority := high) Sz.sub0 {j : Nat} {a : Int} [h : Sz a j] : Sz (0 - a) j := by
  rw [Int.zero_sub]; exact Sz.neg
mutual
def toPy : D → PyData
  | .non => .none
  | .bl b => .bool b
  | .int i => .int i
  | .str x => .str x
  | .tup xs => .tuple (toPys xs)
  | .lst xs => .list (toPys xs)
  | .scr xs => .list (toPys xs)
  | .ref _ => .none
def toPys : List D → List PyData
  | [] => []
  | x :: xs => toPy x :: toPys xs
end
/-- data without texts: its ints below 2 ^ k, its text's length, its depth -/
class Bd (d : D) (k n m : outParam Nat) : Prop where
  py : d.py0 = some (toPy d)
  nr : ∀ M, d.py M = d.py0
  bare : bare (toPy d) = true
  shw : k < 1920 → (toPy d).showable = true
  cost : cost (toPy d) ≤ n
  dep : (toPy d).depth ≤ m
class Bds (xs : List D) (k n m : outParam Nat) : Prop where
  py : py0s xs = some (toPys xs)
  bare : bares (toPys xs) = true
  shw : k < 1920 → PyData.showableAll (toPys xs) = true
  cost : costs (toPys xs) ≤ n
  dep : PyData.depthAll (toPys xs) ≤ m
instance Bd.non : Bd .non 0 4 0 := ⟨by simp [D.py0, toPy], fun _ => rfl, by simp [toPy, Sn.bare], fun _ => by simp [toPy, PyData.showable], by simp [toPy, Sn.cost], by simp [toPy, PyData.depth]⟩
instance Bd.bl {b : Bool} : Bd (.bl b) 0 5 0 := ⟨by simp [D.py0, toPy], fun _ => rfl, by simp [toPy, Sn.bare], fun _ => by simp [toPy, PyData.showable], by simp [toPy, Sn.cost], by simp [toPy, PyData.depth]⟩
instance Bd.int {i : Int} {k : Nat} [h : Sz i k] : Bd (.int i) k 1921 0 := ⟨by simp [D.py0, toPy], fun _ => rfl, by simp [toPy, Sn.bare], fun l => by simp only [toPy, PyData.showable]; exact decide_eq_true (show_sz l), by simp [toPy, Sn.cost], by simp [toPy, PyData.depth]⟩
instance Bds.nil : Bds [] 0 0 0 := ⟨by simp [py0s, toPys], by simp [toPys, bares], fun _ => by simp [toPys, PyData.showableAll], by simp [toPys, costs], by simp [toPys, PyData.depthAll]⟩
instance Bds.cons {x : D} {xs : List D} {k n m k1 n1 m1 : Nat} [h : Bd x k n m] [g : Bds xs k1 n1 m1] : Bds (x :: xs) (max k k1) (n + n1 + 2) (max m m1) := ⟨by simp [py0s, toPys, h.py, g.py], by simp [toPys, bares, h.bare, g.bare], fun l => by simp [toPys, PyData.showableAll, h.shw (by omega), g.shw (by omega)], by
  have := h.cost
  have := g.cost
  simp only [toPys, costs]; omega, by
  have := h.dep
  have := g.dep
  simp only [toPys, PyData.depthAll]; omega⟩
instance Bd.tup {xs : List D} {k n m : Nat} [h : Bds xs k n m] : Bd (.tup xs) k (n + 3) (m + 1) := ⟨by simp [D.py0, toPy, h.py], fun _ => rfl, by simp [toPy, Sn.bare, h.bare], fun l => by simp [toPy, PyData.showable, h.shw l], by
  have := h.cost
  simp only [toPy, Sn.cost]; omega, by
  have := h.dep
  simp only [toPy, PyData.depth]; omega⟩
instance Bd.lst {xs : List D} {k n m : Nat} [h : Bds xs k n m] : Bd (.lst xs) k (n + 3) (m + 1) := ⟨by simp [D.py0, toPy, h.py], fun _ => rfl, by simp [toPy, Sn.bare, h.bare], fun l => by simp [toPy, PyData.showable, h.shw l], by
  have := h.cost
  simp only [toPy, Sn.cost]; omega, by
  have := h.dep
  simp only [toPy, PyData.depth]; omega⟩
section
variable {d : D} {k n m : Nat} {M : Mem} {fl : Bool}
theorem p_reprB [h : Bd d k n m] (l1 : k < 1920) (l2 : n ≤ sizeLine) (l3 : m ≤ 60) : primop fl .repr [d] M = .ok (.str (toPy d).shown) M :=
  p_repr ((h.nr M).trans h.py) h.bare (h.shw l1) (Nat.le_trans h.dep l3) (Nat.le_trans h.cost l2)
theorem c_ne_shownB [h : Bd d k n m] : cmpop .ne (.str (toPy d).shown) (.str (toPy d).shown) M = some false := c_ne_shown h.bare
theorem c_eq_shownB [h : Bd d k n m] : cmpop .eq (.str (toPy d).shown) (.str (toPy d).shown) M = some true := c_eq_shown h.bare
theorem c_eqB [h : Bd d k n m] (l3 : m ≤ 60) : cmpop .eq d d M = some true := c_eq_same ((h.nr M).trans h.py) h.bare (Nat.le_trans h.dep l3)
theorem c_neB [h : Bd d k n m] (l3 : m ≤ 60) : cmpop .ne d d M = some false := c_ne_same ((h.nr M).trans h.py) h.bare (Nat.le_trans h.dep l3)
end
/-- a list of one thing some times -/
theorem b_rep {m : Bool} {M : Mem} {xs : List D} {k : Nat} (l : xs.length * k ≤ sizeLine) (l2 : k ≤ 1000000) : binop m .mul (.lst xs) (.int (no_index (@OfNat.ofNat Int k instOfNat))) M = newL m (List.replicate k xs).flatten M := by
  show mulop m (.lst xs) (.int (k : Int)) M = _
  simp only [mulop, itemsC]
  rw [Int.toNat_natCast]
  have h1 : decide (-(2 ^ 63) ≤ (k : Int)) = true := decide_eq_true (by omega)
  have h2 : decide ((k : Int) < 2 ^ 63) = true := decide_eq_true (by omega)
  have h3 : decide (xs.length * k ≤ sizeLine) = true := decide_eq_true l
  rw [h1, h2, h3]
  rfl
end Sn
/-! Sn, part W: what holds behind statements; the first cells of a script. -/
namespace Sn
open PySem
def Pst (r : Res Out) (Q : Out → Mem → Prop) : Prop := ∃ o M, r = .ok o M ∧ Q o M
theorem pst_ok {o : Out} {M : Mem} {Q : Out → Mem → Prop} (h : Q o M) : Pst (.ok o M) Q := ⟨o, M, rfl, h⟩
theorem Pst.mono {r : Res Out} {Q R : Out → Mem → Prop} (h : Pst r Q) (g : ∀ o M, Q o M → R o M) : Pst r R := by
  obtain ⟨o, M, e, q⟩ := h
  exact ⟨o, M, e, g o M q⟩
theorem wp_seq {r : Res Out} {f : Slots → Mem → Res Out} {Q : Out → Mem → Prop} (h : Pst r fun o M => match o with
    | .nx env => Pst (f env M) Q
    | o => Q o M) : Pst (outS (seqT r f)) Q := by
  obtain ⟨o, M, e, q⟩ := h
  subst e
  cases o with
  | nx env => exact q
  | rt d => exact ⟨_, _, rfl, q⟩
  | bk env => exact ⟨_, _, rfl, q⟩
theorem wp_for {n : Nat} {t : Tg} {it : Src} {b : Ss} {f : Slots → Mem → Res Out} {env : Slots} {M M1 : Mem} {w : Wk} {Q : Out → Mem → Prop} (I : Nat → Slots → Mem → Prop) (hi : evIt n it env M = .ok w M1) (h0 : I 0 env M1)
    (hb : ∀ i x, w.items[i]? = some x → ∀ env M, I i env M → ∃ env2, t.put x env = some env2 ∧ Pst (evSs n b env2 M) fun o M' => ∃ env', o = .nx env' ∧ stays w.refs M1 M' ∧ I (i + 1) env' M')
    (hr : ∀ env M, I w.items.length env M → Pst (f env M) Q) : Pst (outS (seqT (evS n (.for t it b) env M) f)) Q := by
  rw [es_for hi]
  obtain ⟨env', M', e, h⟩ := for_ix (refs := w.refs) (M0 := M1) (body := fun x env2 M2 => (ofO (t.put x env2) M2).bind fun env3 M3 => evSs n b env3 M3) I w.items 0 (fun i x hx env M hI => by
    rw [Nat.zero_add] at hI ⊢
    obtain ⟨env2, e2, o, M', e3, env', rfl, st, h⟩ := hb i x hx env M hI
    refine ⟨env', M', ?_, st, h⟩
    rw [e2]
    exact e3) env M1 h0
  rw [e]
  rw [Nat.zero_add] at h
  exact hr env' M' h
theorem call_pst {n : Nat} {name : Str} {ps N : List Str} {body : Ss} {ds : List D} {d : D} (hl : ds.length = ps.length ∧ ps.length ≤ N.length)
    (hb : Pst (evSs n body (fill N ds) []) fun o _ => o = .rt d) (hp : d.pure = true) : callD n (.mk name false ps N body) ds [] = .ok d [] := by
  obtain ⟨o, M', e, rfl⟩ := hb
  have := call_tmp (name := name) (M := []) hl e (shut_pure hp) (by simp [closed])
  simpa using this
theorem cut_to {xs : List D} {k : Nat} : cut xs none (some (k : Int)) = xs.take k := by
  unfold cut
  have h0 : HT.sIx xs.length 0 none = 0 := by simp [HT.sIx]
  rw [h0, List.drop_zero, Nat.sub_zero]
  have : HT.sIx xs.length xs.length (some (k : Int)) = min k xs.length := by
    simp only [HT.sIx]
    rw [if_neg (by omega)]
    omega
  rw [this, ← List.take_eq_take_min]
theorem sl_scr {m : Bool} {xs : List D} {k : Nat} {M : Mem} (hl : xs.length ≤ sizeLine) : slop m (.scr xs) none (some (k : Int)) M = newL m (xs.take k) M := by
  simp only [slop, itemsL, cut_to]
theorem cells_ev {n : Nat} {env : Slots} {M : Mem} {ns : List Int} {k : Nat} (h0 : (env[0]?).join = some (.scr (ns.map D.int))) (hl : ns.length ≤ 63) :
    evE n (.bin false .add (.sl false (.var 0) .none (.some (.int (no_index (k : Int))))) (.bin false .mul (.lst false (.cons (.int 0) .nil)) (.prim false .int (.cons (.cmp .eq (.var 0) (.lst false .nil)) .nil)))) env M = .ok (.lst ((cells ns k).map D.int)) M := by
  have hs : ∀ j : Nat, j ≤ 1000 → j ≤ sizeLine := fun j h => size_small h
  have h1 : ((ns.map D.int).take k).length ≤ sizeLine := hs _ (by rw [List.length_take, List.length_map]; omega)
  have e1 : evE n (.sl false (.var 0) .none (.some (.int (k : Int)))) env M = .ok (.lst ((ns.take k).map D.int)) M := by
    rw [ev_sl, ev_var, h0, ofO_some, bnd_ok, evEo_none, bnd_ok, evEo_some, ev_int, bnd_ok]
    show out (bndT (Res.ok (some (k : Int)) M) _) = _
    rw [bnd_ok, sl_scr (hs _ (by rw [List.length_map]; omega)), newL_f h1, List.map_take]
  have e2 : evE n (.bin false .mul (.lst false (.cons (.int 0) .nil)) (.prim false .int (.cons (.cmp .eq (.var 0) (.lst false .nil)) .nil))) env M = .ok (.lst ((if ns = [] then [0] else []).map D.int)) M := by
    rw [ev_bin, ev_lst, evEs_cons, ev_int, bnd_ok, evEs_nil, bnd_ok, bnd_ok, newL_f (hs _ (by simp)), bnd_ok, ev_prim, evEs_cons, ev_cmp, ev_var, h0, ofO_some, bnd_ok, ev_lst, evEs_nil, bnd_ok, newL_f (hs _ (by simp)), bnd_ok, scr_empty, ofO_some, bnd_ok, bnd_ok, evEs_nil, bnd_ok, bnd_ok, p_intb, bnd_ok]
    by_cases h : ns = []
    · subst h
      show binop false .mul _ (.int 1) M = _
      rw [b_rep (by simp; exact hs _ (by decide)) (by decide)]
      exact newL_f (hs _ (by simp))
    · rw [if_neg h, decide_eq_false h]
      show binop false .mul _ (.int 0) M = _
      rw [b_rep (by simp) (by decide)]
      exact newL_f (hs _ (by simp))
  rw [ev_bin, e1, bnd_ok, e2, bnd_ok]
  show addop false (.lst _) (.lst _) M = _
  have h3 : ((ns.take k).map D.int ++ (if ns = [] then [(0 : Int)] else []).map D.int).length ≤ sizeLine := hs _ (by
    rw [List.length_append, List.length_map, List.length_map, List.length_take]
    split
    · simp; omega
    · simp; omega)
  show newL false ((ns.take k).map D.int ++ (if ns = [] then [(0 : Int)] else []).map D.int) M = _
  rw [newL_f h3, ← List.map_append]
  rfl
theorem stays_push {M : Mem} {xs : List D} : stays [] M (M ++ [some xs]) := fun _ h => by simp at h
end Sn
/-! Sn, part X: the numbers of the plane, a field. -/
namespace Sn
open PySem
structure G where
  re : Rat
  im : Rat
namespace G
theorem ext {z w : G} (h : z.re = w.re) (g : z.im = w.im) : z = w := by cases z; cases w; simp at h g; simp [h, g]
def add (z w : G) : G := ⟨z.re + w.re, z.im + w.im⟩
def mul (z w : G) : G := ⟨z.re * w.re - z.im * w.im, z.re * w.im + z.im * w.re⟩
def neg (z : G) : G := ⟨-z.re, -z.im⟩
def sub (z w : G) : G := ⟨z.re - w.re, z.im - w.im⟩
def nrm (z : G) : Rat := z.re * z.re + z.im * z.im
def conj (z : G) : G := ⟨z.re, -z.im⟩
def inv (z : G) : G := ⟨z.re / z.nrm, -z.im / z.nrm⟩
instance : Add G := ⟨add⟩
instance : Mul G := ⟨mul⟩
instance : Neg G := ⟨neg⟩
instance : Sub G := ⟨sub⟩
instance : Inv G := ⟨inv⟩
instance : Div G := ⟨fun z w => z * w⁻¹⟩
instance : NatCast G := ⟨fun n => ⟨n, 0⟩⟩
instance : IntCast G := ⟨fun n => ⟨n, 0⟩⟩
instance {n : Nat} : OfNat G n := ⟨⟨n, 0⟩⟩
def npow (z : G) : Nat → G
  | 0 => 1
  | n + 1 => npow z n * z
instance : HPow G Nat G := ⟨npow⟩
instance : SMul Nat G := ⟨fun n z => (n : G) * z⟩
instance : SMul Int G := ⟨fun n z => (n : G) * z⟩
def zpow (z : G) : Int → G
  | .ofNat n => z ^ n
  | .negSucc n => (z ^ (n + 1))⁻¹
instance : HPow G Int G := ⟨zpow⟩
section
variable {z w : G}
theorem add_re : (z + w).re = z.re + w.re := rfl
theorem add_im : (z + w).im = z.im + w.im := rfl
theorem mul_re : (z * w).re = z.re * w.re - z.im * w.im := rfl
theorem mul_im : (z * w).im = z.re * w.im + z.im * w.re := rfl
theorem neg_re : (-z).re = -z.re := rfl
theorem neg_im : (-z).im = -z.im := rfl
theorem sub_re : (z - w).re = z.re - w.re := rfl
theorem sub_im : (z - w).im = z.im - w.im := rfl
theorem inv_re : z⁻¹.re = z.re / z.nrm := rfl
theorem inv_im : z⁻¹.im = -z.im / z.nrm := rfl
theorem zero_re : (0 : G).re = 0 := rfl
theorem zero_im : (0 : G).im = 0 := rfl
theorem one_re : (1 : G).re = 1 := rfl
theorem one_im : (1 : G).im = 0 := rfl
theorem nat_re {n : Nat} : (n : G).re = n := rfl
theorem nat_im {n : Nat} : (n : G).im = 0 := rfl
theorem int_re {n : Int} : (n : G).re = n := rfl
theorem int_im {n : Int} : (n : G).im = 0 := rfl
theorem lit_re {n : Nat} : (OfNat.ofNat n : G).re = n := rfl
theorem lit_im {n : Nat} : (OfNat.ofNat n : G).im = 0 := rfl
theorem div_def : z / w = z * w⁻¹ := rfl
end
theorem sq_nonneg (r : Rat) : 0 ≤ r * r := by
  rcases Rat.le_total (a := 0) (b := r) with h | h
  · exact Rat.mul_nonneg h h
  · have : 0 ≤ (-r) * (-r) := Rat.mul_nonneg (by grind) (by grind)
    grind
theorem nrm_nonneg (z : G) : 0 ≤ z.nrm := by
  have := sq_nonneg z.re
  have := sq_nonneg z.im
  unfold nrm; grind
theorem nrm_eq_zero {z : G} (h : z.nrm = 0) : z = 0 := by
  have h1 := sq_nonneg z.re
  have h2 := sq_nonneg z.im
  unfold nrm at h
  have a : z.re * z.re = 0 := by grind
  have b : z.im * z.im = 0 := by grind
  refine ext ?_ ?_
  · show z.re = 0
    rcases Rat.mul_eq_zero.mp a with h | h <;> exact h
  · show z.im = 0
    rcases Rat.mul_eq_zero.mp b with h | h <;> exact h
theorem nrm_ne {z : G} (h : z ≠ 0) : z.nrm ≠ 0 := fun e => h (nrm_eq_zero e)
theorem nrm_pos {z : G} (h : z ≠ 0) : 0 < z.nrm := by
  have := nrm_nonneg z
  have := nrm_ne h
  grind
theorem natCast_succ (n : Nat) : ((n + 1 : Nat) : G) = (n : G) + 1 := ext (by show ((n + 1 : Nat) : Rat) = (n : Rat) + 1; exact Rat.natCast_add n 1) (by show (0 : Rat) = 0 + 0; grind)
instance : Lean.Grind.Field G where
  add_zero z := ext (by simp only [add_re, zero_re]; grind) (by simp only [add_im, zero_im]; grind)
  add_comm z w := ext (by simp only [add_re]; grind) (by simp only [add_im]; grind)
  add_assoc z w v := ext (by simp only [add_re]; grind) (by simp only [add_im]; grind)
  mul_assoc z w v := ext (by simp only [mul_re, mul_im]; grind) (by simp only [mul_re, mul_im]; grind)
  mul_one z := ext (by simp only [mul_re, one_re, one_im]; grind) (by simp only [mul_im, one_re, one_im]; grind)
  one_mul z := ext (by simp only [mul_re, one_re, one_im]; grind) (by simp only [mul_im, one_re, one_im]; grind)
  left_distrib z w v := ext (by simp only [mul_re, add_re, add_im]; grind) (by simp only [mul_im, add_re, add_im]; grind)
  right_distrib z w v := ext (by simp only [mul_re, add_re, add_im]; grind) (by simp only [mul_im, add_re, add_im]; grind)
  zero_mul z := ext (by simp only [mul_re, zero_re, zero_im]; grind) (by simp only [mul_im, zero_re, zero_im]; grind)
  mul_zero z := ext (by simp only [mul_re, zero_re, zero_im]; grind) (by simp only [mul_im, zero_re, zero_im]; grind)
  pow_zero z := rfl
  pow_succ z n := rfl
  ofNat_succ n := natCast_succ n
  ofNat_eq_natCast n := rfl
  nsmul_eq_natCast_mul n z := rfl
  neg_add_cancel z := ext (by simp only [add_re, neg_re, zero_re]; grind) (by simp only [add_im, neg_im, zero_im]; grind)
  sub_eq_add_neg z w := ext (by simp only [add_re, neg_re, sub_re]; grind) (by simp only [add_im, neg_im, sub_im]; grind)
  neg_zsmul i z := ext (by show ((-i : Int) : Rat) * z.re - 0 * z.im = -((i : Rat) * z.re - 0 * z.im); rw [Rat.intCast_neg]; grind) (by show ((-i : Int) : Rat) * z.im + 0 * z.re = -((i : Rat) * z.im + 0 * z.re); rw [Rat.intCast_neg]; grind)
  zsmul_natCast_eq_nsmul n z := rfl
  intCast_ofNat n := rfl
  intCast_neg i := ext (by show ((-i : Int) : Rat) = -(i : Rat); exact Rat.intCast_neg i) (by show (0 : Rat) = -0; grind)
  mul_comm z w := ext (by simp only [mul_re]; grind) (by simp only [mul_im]; grind)
  div_eq_mul_inv z w := rfl
  zero_ne_one := fun h => by
    have := congrArg G.re h
    rw [zero_re, one_re] at this
    grind
  inv_zero := ext (by rw [inv_re, zero_re]; grind) (by rw [inv_im, zero_im]; grind)
  mul_inv_cancel {z} h := by
    have hn := nrm_ne h
    unfold nrm at hn
    refine ext ?_ ?_
    · simp only [mul_re, inv_re, inv_im, one_re]
      unfold nrm
      grind
    · simp only [mul_im, inv_re, inv_im, one_im]
      unfold nrm
      grind
  zpow_zero z := rfl
  zpow_succ z n := rfl
  zpow_neg z n := by
    cases n with
    | ofNat n =>
      cases n with
      | zero =>
        show (1 : G) = (1 : G)⁻¹
        exact ext (by show (1 : Rat) = 1 / (1 * 1 + 0 * 0); grind) (by show (0 : Rat) = -0 / (1 * 1 + 0 * 0); grind)
      | succ n => rfl
    | negSucc n =>
      show z ^ (n + 1) = ((z ^ (n + 1))⁻¹)⁻¹
      generalize z ^ (n + 1) = w
      have key : w = w⁻¹⁻¹ := by
        by_cases h : w = 0
        · subst h
          exact ext (by rw [inv_re, inv_re, zero_re]; grind) (by rw [inv_im, inv_im, zero_im]; grind)
        · have hn := nrm_ne h
          refine ext ?_ ?_
          · rw [inv_re, inv_re]
            have e : w⁻¹.nrm = 1 / w.nrm := by
              show (w.re / w.nrm) * (w.re / w.nrm) + (-w.im / w.nrm) * (-w.im / w.nrm) = 1 / w.nrm
              unfold nrm at hn ⊢
              grind
            rw [e]; grind
          · rw [inv_im, inv_im]
            have e : w⁻¹.nrm = 1 / w.nrm := by
              show (w.re / w.nrm) * (w.re / w.nrm) + (-w.im / w.nrm) * (-w.im / w.nrm) = 1 / w.nrm
              unfold nrm at hn ⊢
              grind
            rw [e]; grind
      exact key
instance : Lean.Grind.IsCharP G 0 where
  ofNat_ext_iff {x y} := by
    constructor
    · intro h
      have h' : ((x : Nat) : Rat) = ((y : Nat) : Rat) := congrArg G.re h
      have := Rat.natCast_inj.mp h'
      simpa using this
    · intro h
      have : x = y := by simpa using h
      rw [this]
example (a b c : G) (h : b ≠ 0) : a * c / b = c * (a / b) := by grind
example (a b : G) (h : b ≠ 0) : (2 * a) / (2 * b) = a / b := by grind
end G
end Sn
/-! Sn, part Y: places as numbers of the plane. -/
namespace Sn
open PySem
theorem rat_ne {p : Int} (h : p ≠ 0) : (p : Rat) ≠ 0 := fun e => h (by
  have := congrArg Rat.num e
  simpa using this)
theorem rat_inj {p q : Int} (h : (p : Rat) = (q : Rat)) : p = q := by
  have := congrArg Rat.num h
  simpa using this
def gz (a b p : Int) : G := ⟨(a : Rat) / (p : Rat), (b : Rat) / (p : Rat)⟩
theorem gz_eq {a b p x y q : Int} (hp : p ≠ 0) (hq : q ≠ 0) (e1 : a * q = x * p) (e2 : b * q = y * p) : gz a b p = gz x y q := by
  have hp' := rat_ne hp
  have hq' := rat_ne hq
  have e1' : (a : Rat) * q = x * p := by rw [← Rat.intCast_mul, ← Rat.intCast_mul, e1]
  have e2' : (b : Rat) * q = y * p := by rw [← Rat.intCast_mul, ← Rat.intCast_mul, e2]
  exact G.ext (by show (a : Rat) / p = x / q; grind) (by show (b : Rat) / p = y / q; grind)
theorem gz_inj {a b p x y q : Int} (hp : p ≠ 0) (hq : q ≠ 0) (e : gz a b p = gz x y q) : a * q = x * p ∧ b * q = y * p := by
  have hp' := rat_ne hp
  have hq' := rat_ne hq
  have e1 : (a : Rat) / p = x / q := congrArg G.re e
  have e2 : (b : Rat) / p = y / q := congrArg G.im e
  exact ⟨rat_inj (by rw [Rat.intCast_mul, Rat.intCast_mul]; grind), rat_inj (by rw [Rat.intCast_mul, Rat.intCast_mul]; grind)⟩
theorem gz_low {x y p : Int} (hp : p ≠ 0) : ∃ a b c, low x y p = pl a b c ∧ Norm a b c ∧ gz x y p = gz a b c ∧ a.natAbs ≤ x.natAbs ∧ b.natAbs ≤ y.natAbs ∧ c.natAbs ≤ p.natAbs := by
  obtain ⟨a, b, c, e, h, f1, f2, z1, z2, z3⟩ := low_out (x := x) (y := y) hp
  exact ⟨a, b, c, e, h, gz_eq hp h.ne f1.symm f2.symm, z1, z2, z3⟩
theorem norm_of (z : G) : ∃ a b c, Norm a b c ∧ z = gz a b c := by
  have h1 : (z.re.den : Int) ≠ 0 := by have := z.re.den_nz; omega
  have h2 : (z.im.den : Int) ≠ 0 := by have := z.im.den_nz; omega
  obtain ⟨a, b, c, e, h, f, _⟩ := gz_low (x := z.re.num * z.im.den) (y := z.im.num * z.re.den) (p := z.re.den * z.im.den) (Int.mul_ne_zero h1 h2)
  refine ⟨a, b, c, h, ?_⟩
  rw [← f]
  have h1' := rat_ne h1
  have h2' := rat_ne h2
  have e1 : z.re = (z.re.num : Rat) / ((z.re.den : Int) : Rat) := by
    have := Rat.num_divInt_den z.re
    rw [Rat.divInt_eq_div] at this
    exact this.symm
  have e2 : z.im = (z.im.num : Rat) / ((z.im.den : Int) : Rat) := by
    have := Rat.num_divInt_den z.im
    rw [Rat.divInt_eq_div] at this
    exact this.symm
  refine G.ext ?_ ?_
  · show z.re = ((z.re.num * z.im.den : Int) : Rat) / ((z.re.den * z.im.den : Int) : Rat)
    rw [Rat.intCast_mul, Rat.intCast_mul]
    grind
  · show z.im = ((z.im.num * z.re.den : Int) : Rat) / ((z.re.den * z.im.den : Int) : Rat)
    rw [Rat.intCast_mul, Rat.intCast_mul]
    grind
noncomputable def gx (z : G) : Int := Classical.choose (norm_of z)
noncomputable def gy (z : G) : Int := Classical.choose (Classical.choose_spec (norm_of z))
noncomputable def gp (z : G) : Int := Classical.choose (Classical.choose_spec (Classical.choose_spec (norm_of z)))
theorem gz_norm (z : G) : Norm (gx z) (gy z) (gp z) := (Classical.choose_spec (Classical.choose_spec (Classical.choose_spec (norm_of z)))).1
theorem gz_out (z : G) : gz (gx z) (gy z) (gp z) = z := (Classical.choose_spec (Classical.choose_spec (Classical.choose_spec (norm_of z)))).2.symm
theorem gp_pos (z : G) : 0 < gp z := (gz_norm z).pos
theorem gp_ne (z : G) : gp z ≠ 0 := (gz_norm z).ne
theorem gz_is {a b c : Int} (h : Norm a b c) : gx (gz a b c) = a ∧ gy (gz a b c) = b ∧ gp (gz a b c) = c := by
  have e := gz_out (gz a b c)
  obtain ⟨e1, e2⟩ := gz_inj (gp_ne _) h.ne e
  exact norm_eq (gz_norm _) h e1 e2
noncomputable def nf (z : G) : D := .tup [.int (gx z), .int (gy z), .int (gp z)]
theorem pl_nf {a b c : Int} (h : Norm a b c) : pl a b c = nf (gz a b c) := by
  obtain ⟨h1, h2, h3⟩ := gz_is h
  unfold nf
  rw [h1, h2, h3]
theorem low_nf {x y p : Int} (hp : p ≠ 0) : low x y p = nf (gz x y p) := by
  obtain ⟨a, b, c, e, h, f, _⟩ := gz_low (x := x) (y := y) hp
  rw [e, f, pl_nf h]
theorem nf_pl (z : G) : nf z = pl (gx z) (gy z) (gp z) := rfl
theorem nf_inj {z w : G} (h : nf z = nf w) : z = w := by
  obtain ⟨h1, h2, h3⟩ := pl_inj h
  rw [← gz_out z, ← gz_out w, h1, h2, h3]
/-- what a place's three integers are -/
theorem nf_of {z : G} {a b c : Int} (h : Norm a b c) (e : z = gz a b c) : gx z = a ∧ gy z = b ∧ gp z = c := by
  subst e; exact gz_is h

/-! ### heights -/
class Hz (z : G) (k : outParam Nat) : Prop where
  out : ∃ a b c : Int, 0 < c ∧ z = gz a b c ∧ a.natAbs < 2 ^ k ∧ b.natAbs < 2 ^ k ∧ c.natAbs < 2 ^ k
theorem Hz.mono {z : G} {j k : Nat} (h : Hz z j) (l : j ≤ k) : Hz z k := by
  obtain ⟨a, b, c, h0, e, h1, h2, h3⟩ := h.out
  have := Nat.pow_le_pow_right (n := 2) (by decide) l
  exact ⟨a, b, c, h0, e, by omega, by omega, by omega⟩
theorem Hz.all {z : G} {k : Nat} (h : Hz z k) : (gx z).natAbs < 2 ^ k ∧ (gy z).natAbs < 2 ^ k ∧ (gp z).natAbs < 2 ^ k := by
  obtain ⟨a, b, c, h0, e, h1, h2, h3⟩ := h.out
  obtain ⟨x, y, p, _, hN, f, z1, z2, z3⟩ := gz_low (x := a) (y := b) (p := c) (by omega)
  obtain ⟨e1, e2, e3⟩ := nf_of hN (e.trans f)
  rw [e1, e2, e3]
  omega
instance Hz.sx {z : G} {k : Nat} [h : Hz z k] : Sz (gx z) k := ⟨h.all.1⟩
instance Hz.sy {z : G} {k : Nat} [h : Hz z k] : Sz (gy z) k := ⟨h.all.2.1⟩
instance Hz.sp {z : G} {k : Nat} [h : Hz z k] : Sz (gp z) k := ⟨h.all.2.2⟩
theorem Hz.pos {z : G} {k : Nat} (h : Hz z k) : 1 ≤ k := by
  obtain ⟨a, b, c, h0, e, h1, h2, h3⟩ := h.out
  cases k with
  | zero => simp at h3; omega
  | succ k => omega
theorem Hz.of {a b c : Int} {k : Nat} (h0 : c ≠ 0) (h1 : a.natAbs < 2 ^ k) (h2 : b.natAbs < 2 ^ k) (h3 : c.natAbs < 2 ^ k) : Hz (gz a b c) k := by
  by_cases h : 0 < c
  · exact ⟨a, b, c, h, rfl, h1, h2, h3⟩
  · exact ⟨-a, -b, -c, by omega, gz_eq h0 (by omega) (by grind) (by grind), by omega, by omega, by omega⟩
theorem gz_add {a b p c d q : Int} (hp : p ≠ 0) (hq : q ≠ 0) : gz a b p + gz c d q = gz (a * q + c * p) (b * q + d * p) (p * q) := by
  have hp' := rat_ne hp
  have hq' := rat_ne hq
  refine G.ext ?_ ?_
  · show (a : Rat) / p + c / q = ((a * q + c * p : Int) : Rat) / ((p * q : Int) : Rat)
    rw [Rat.intCast_add, Rat.intCast_mul, Rat.intCast_mul, Rat.intCast_mul]
    grind
  · show (b : Rat) / p + d / q = ((b * q + d * p : Int) : Rat) / ((p * q : Int) : Rat)
    rw [Rat.intCast_add, Rat.intCast_mul, Rat.intCast_mul, Rat.intCast_mul]
    grind
theorem gz_neg {a b p : Int} : -gz a b p = gz (-a) (-b) p := by
  refine G.ext ?_ ?_
  · show -((a : Rat) / p) = ((-a : Int) : Rat) / (p : Rat)
    rw [Rat.intCast_neg]; grind
  · show -((b : Rat) / p) = ((-b : Int) : Rat) / (p : Rat)
    rw [Rat.intCast_neg]; grind
theorem gz_mul {a b p c d q : Int} (hp : p ≠ 0) (hq : q ≠ 0) : gz a b p * gz c d q = gz (a * c - b * d) (a * d + b * c) (p * q) := by
  have hp' := rat_ne hp
  have hq' := rat_ne hq
  refine G.ext ?_ ?_
  · show (a : Rat) / p * (c / q) - b / p * (d / q) = ((a * c - b * d : Int) : Rat) / ((p * q : Int) : Rat)
    rw [Rat.intCast_sub, Rat.intCast_mul, Rat.intCast_mul, Rat.intCast_mul]
    grind
  · show (a : Rat) / p * (d / q) + b / p * (c / q) = ((a * d + b * c : Int) : Rat) / ((p * q : Int) : Rat)
    rw [Rat.intCast_add, Rat.intCast_mul, Rat.intCast_mul, Rat.intCast_mul]
    grind
theorem gz_zero {a b p : Int} (hp : p ≠ 0) : gz a b p = 0 ↔ a = 0 ∧ b = 0 := by
  have e : (0 : G) = gz 0 0 1 := G.ext (by show (0 : Rat) = 0 / 1; grind) (by show (0 : Rat) = 0 / 1; grind)
  constructor
  · intro h
    rw [e] at h
    obtain ⟨h1, h2⟩ := gz_inj hp (by decide) h
    exact ⟨by omega, by omega⟩
  · rintro ⟨rfl, rfl⟩
    rw [e]
    exact gz_eq hp (by decide) (by omega) (by omega)
theorem gz0 : gz 0 0 1 = 0 := (gz_zero (by decide)).mpr ⟨rfl, rfl⟩
theorem gz1 : gz 1 0 1 = 1 := G.ext (by show (1 : Rat) / 1 = 1; grind) (by show (0 : Rat) / 1 = 0; grind)
theorem gz_int (n : Int) : gz n 0 1 = (n : G) := G.ext (by show (n : Rat) / 1 = n; grind) (by show (0 : Rat) / 1 = 0; grind)
theorem gz_inv {c d q : Int} (hq : q ≠ 0) (h : c * c + d * d ≠ 0) : (gz c d q)⁻¹ = gz (c * q) (-(d * q)) (c * c + d * d) := by
  have hq' := rat_ne hq
  have hS := rat_ne h
  rw [Rat.intCast_add, Rat.intCast_mul, Rat.intCast_mul] at hS
  have hz : gz c d q ≠ 0 := fun e => by
    obtain ⟨rfl, rfl⟩ := (gz_zero hq).mp e
    simp at h
  have key : gz c d q * gz (c * q) (-(d * q)) (c * c + d * d) = 1 := by
    rw [gz_mul hq h, ← gz1]
    exact gz_eq (Int.mul_ne_zero hq h) (by decide) (by grind) (by grind)
  have h1 := Lean.Grind.Field.mul_inv_cancel hz
  grind
theorem gz_div {a b p c d q : Int} (hp : p ≠ 0) (hq : q ≠ 0) (h : c * c + d * d ≠ 0) : gz a b p / gz c d q = gz ((a * c + b * d) * q) ((b * c - a * d) * q) (p * (c * c + d * d)) := by
  show gz a b p * (gz c d q)⁻¹ = _
  rw [gz_inv hq h, gz_mul hp h]
  congr 1 <;> grind
theorem sq_pos {c d : Int} (h : ¬ (c = 0 ∧ d = 0)) : 0 < c * c + d * d := by
  have h1 : 0 ≤ c * c := by
    rcases Int.le_total 0 c with z | z
    · exact Int.mul_nonneg z z
    · exact Int.mul_nonneg_of_nonpos_of_nonpos z z
  have h2 : 0 ≤ d * d := by
    rcases Int.le_total 0 d with z | z
    · exact Int.mul_nonneg z z
    · exact Int.mul_nonneg_of_nonpos_of_nonpos z z
  rcases Int.lt_or_eq_of_le (show 0 ≤ c * c + d * d by omega) with z | z
  · exact z
  · have c0 : c * c = 0 := by omega
    have d0 : d * d = 0 := by omega
    exact absurd ⟨by rcases Int.mul_eq_zero.mp c0 with w | w <;> exact w, by rcases Int.mul_eq_zero.mp d0 with w | w <;> exact w⟩ h
theorem nz_sq {z : G} (h : z ≠ 0) : 0 < gx z * gx z + gy z * gy z := sq_pos fun ⟨h1, h2⟩ => h (by rw [← gz_out z, h1, h2]; exact (gz_zero (gp_ne z)).mpr ⟨rfl, rfl⟩)
theorem nf_add (z w : G) : gz (gx z * gp w + gx w * gp z) (gy z * gp w + gy w * gp z) (gp z * gp w) = z + w := by
  rw [← gz_add (gp_ne z) (gp_ne w), gz_out, gz_out]
theorem nf_mul (z w : G) : gz (gx z * gx w - gy z * gy w) (gx z * gy w + gy z * gx w) (gp z * gp w) = z * w := by
  rw [← gz_mul (gp_ne z) (gp_ne w), gz_out, gz_out]
theorem nf_div (z : G) {w : G} (h : w ≠ 0) : gz ((gx z * gx w + gy z * gy w) * gp w) ((gy z * gx w - gx z * gy w) * gp w) (gp z * (gx w * gx w + gy w * gy w)) = z / w := by
  rw [← gz_div (gp_ne z) (gp_ne w) (by have := nz_sq h; omega), gz_out, gz_out]
theorem norm_neg {a b p : Int} (h : Norm a b p) : Norm a (-b) p := ⟨h.pos, by have := h.one; unfold g3 at *; rwa [Int.gcd_neg]⟩
theorem norm_swap {a b p : Int} (h : Norm a b p) : Norm b a p := ⟨h.pos, by have := h.one; unfold g3 at *; rwa [Int.gcd_comm b a]⟩
theorem neg_parts (z : G) : gx (-z) = -gx z ∧ gy (-z) = -gy z ∧ gp (-z) = gp z :=
  nf_of (norm_swap (norm_neg (norm_swap (norm_neg (gz_norm z))))) (by rw [← gz_neg, gz_out])
def gi : G := ⟨0, 1⟩
theorem gi_sq : gi * gi = -1 := G.ext (by show (0 : Rat) * 0 - 1 * 1 = -1; grind) (by show (0 : Rat) * 1 + 1 * 0 = -0; grind)
theorem gz_gi : gz 0 1 1 = gi := G.ext (by show (0 : Rat) / 1 = 0; grind) (by show (1 : Rat) / 1 = 1; grind)
theorem gi_mul {a b p : Int} (hp : p ≠ 0) : gi * gz a b p = gz (-b) a p := by
  rw [← gz_gi, gz_mul (by decide) hp]
  congr 1 <;> grind
theorem gi_parts (z : G) : gx (gi * z) = -gy z ∧ gy (gi * z) = gx z ∧ gp (gi * z) = gp z :=
  nf_of (norm_swap (norm_neg (gz_norm z))) (by rw [← gi_mul (gp_ne z), gz_out])
theorem gz_conj {a b p : Int} : (gz a b p).conj = gz a (-b) p := G.ext rfl (by show -((b : Rat) / p) = ((-b : Int) : Rat) / (p : Rat); rw [Rat.intCast_neg]; grind)
theorem conj_parts (z : G) : gx z.conj = gx z ∧ gy z.conj = -gy z ∧ gp z.conj = gp z :=
  nf_of (norm_neg (gz_norm z)) (by rw [← gz_conj, gz_out])

instance Hz.z0 : Hz 0 1 := ⟨0, 0, 1, by decide, gz0.symm, by decide, by decide, by decide⟩
instance Hz.z1 : Hz 1 1 := ⟨1, 0, 1, by decide, gz1.symm, by decide, by decide, by decide⟩
instance Hz.zi : Hz gi 1 := ⟨0, 1, 1, by decide, gz_gi.symm, by decide, by decide, by decide⟩
theorem natAbs_add_lt {a b : Int} {k : Nat} (h : a.natAbs < 2 ^ k) (g : b.natAbs < 2 ^ k) : (a + b).natAbs < 2 ^ (k + 1) := by rw [Nat.pow_succ]; omega
theorem natAbs_mul_lt {a b : Int} {j k : Nat} (h : a.natAbs < 2 ^ j) (g : b.natAbs < 2 ^ k) : (a * b).natAbs < 2 ^ (j + k) := by
  rw [Int.natAbs_mul, Nat.pow_add]; exact Nat.mul_lt_mul'' h g
theorem pow_up {j k x : Nat} (h : x < 2 ^ j) (l : j ≤ k) : x < 2 ^ k := Nat.lt_of_lt_of_le h (Nat.pow_le_pow_right (by decide) l)
instance Hz.add {z w : G} {j k : Nat} [h : Hz z j] [g : Hz w k] : Hz (z + w) (j + k + 1) := by
  rw [← nf_add]
  obtain ⟨h1, h2, h3⟩ := h.all
  obtain ⟨g1, g2, g3⟩ := g.all
  refine Hz.of (Int.mul_ne_zero (gp_ne z) (gp_ne w)) (natAbs_add_lt (natAbs_mul_lt h1 g3) (pow_up (natAbs_mul_lt g1 h3) (by omega))) (natAbs_add_lt (natAbs_mul_lt h2 g3) (pow_up (natAbs_mul_lt g2 h3) (by omega))) (pow_up (natAbs_mul_lt h3 g3) (by omega))
instance Hz.neg {z : G} {j : Nat} [h : Hz z j] : Hz (-z) j := by
  obtain ⟨h1, h2, h3⟩ := h.all
  rw [← gz_out z, gz_neg]
  exact Hz.of (gp_ne z) (by omega) (by omega) h3
instance Hz.sub {z w : G} {j k : Nat} [h : Hz z j] [g : Hz w k] : Hz (z - w) (j + k + 1) := by
  have e : z - w = z + -w := by grind
  rw [e]
  exact Hz.add
instance Hz.mul {z w : G} {j k : Nat} [h : Hz z j] [g : Hz w k] : Hz (z * w) (j + k + 1) := by
  rw [← nf_mul]
  obtain ⟨h1, h2, h3⟩ := h.all
  obtain ⟨g1, g2, g3⟩ := g.all
  have e : gx z * gx w - gy z * gy w = gx z * gx w + (-gy z) * gy w := by grind
  rw [e]
  exact Hz.of (Int.mul_ne_zero (gp_ne z) (gp_ne w)) (natAbs_add_lt (natAbs_mul_lt h1 g1) (natAbs_mul_lt (by omega) g2)) (natAbs_add_lt (natAbs_mul_lt h1 g2) (natAbs_mul_lt h2 g1)) (pow_up (natAbs_mul_lt h3 g3) (by omega))
instance Hz.cj {z : G} {j : Nat} [h : Hz z j] : Hz z.conj j := by
  obtain ⟨h1, h2, h3⟩ := h.all
  rw [← gz_out z, gz_conj]
  exact Hz.of (gp_ne z) h1 (by omega) h3
theorem zinv0 : (0 : G)⁻¹ = 0 := Lean.Grind.Field.inv_zero
instance Hz.inv {w : G} {k : Nat} [g : Hz w k] : Hz w⁻¹ (k + k + 1) := by
  by_cases h : w = 0
  · subst h
    rw [zinv0]
    exact Hz.mono inferInstance (by omega)
  · obtain ⟨g1, g2, g3⟩ := g.all
    have hs := nz_sq h
    rw [← gz_out w, gz_inv (gp_ne w) (by omega)]
    have := natAbs_mul_lt g2 g3
    exact Hz.of (by omega) (pow_up (natAbs_mul_lt g1 g3) (by omega)) (by rw [Int.natAbs_neg]; exact pow_up this (by omega)) (natAbs_add_lt (natAbs_mul_lt g1 g1) (natAbs_mul_lt g2 g2))
instance Hz.div {z w : G} {j k : Nat} [h : Hz z j] [g : Hz w k] : Hz (z / w) (j + k + k + 1) := by
  by_cases h0 : w = 0
  · subst h0
    have e : z / 0 = 0 := by
      show z * (0 : G)⁻¹ = 0
      rw [zinv0]; grind
    rw [e]
    exact Hz.mono inferInstance (by omega)
  · rw [← nf_div z h0]
    obtain ⟨h1, h2, h3⟩ := h.all
    obtain ⟨g1, g2, g3⟩ := g.all
    have hs := nz_sq h0
    have e : gy z * gx w - gx z * gy w = gy z * gx w + (-gx z) * gy w := by grind
    rw [e]
    have l1 := natAbs_mul_lt (natAbs_add_lt (natAbs_mul_lt h1 g1) (natAbs_mul_lt h2 g2)) g3
    have l2 := natAbs_mul_lt (natAbs_add_lt (natAbs_mul_lt h2 g1) (natAbs_mul_lt (a := -gx z) (by omega) g2)) g3
    have l3 := natAbs_mul_lt h3 (natAbs_add_lt (natAbs_mul_lt g1 g1) (natAbs_mul_lt g2 g2))
    exact Hz.of (Int.mul_ne_zero (gp_ne z) (by omega)) (pow_up l1 (by omega)) (pow_up l2 (by omega)) (pow_up l3 (by omega))
theorem Hz.mk3 {a b c : Int} {i j k : Nat} [h1 : Sz a i] [h2 : Sz b j] [h3 : Sz c k] (h0 : c ≠ 0) : Hz (gz a b c) (max (max i j) k) :=
  Hz.of h0 (h1.mono (by omega)).lt (h2.mono (by omega)).lt (h3.mono (by omega)).lt

/-! ### steps -/
section
variable {z w : G} {M : Mem} {env : Slots} {m : Bool}
theorem ix_nf0 : ixop (nf z) 0 M = some (.int (gx z)) := by unfold nf; rw [ix_tup]; rfl
theorem ix_nf1 : ixop (nf z) 1 M = some (.int (gy z)) := by unfold nf; rw [ix_tup]; rfl
theorem ix_nf2 : ixop (nf z) 2 M = some (.int (gp z)) := by unfold nf; rw [ix_tup]; rfl
theorem put_nf {ts : List Tg} : Tg.put (.tp ts) (nf z) env = tgPuts ts [.int (gx z), .int (gy z), .int (gp z)] env := by unfold nf; rw [put_tp]
theorem p_len_nf : primop m .len [nf z] M = .ok (.int 3) M := by unfold nf; exact p_len3
theorem kind_nf : isKind .tuple (nf z) = true := rfl
theorem live_nf : live (nf z) M = true := rfl
theorem pure_nf : (nf z).pure = true := rfl
open Classical in
theorem c_eq_nf : cmpop .eq (nf z) (nf w) M = some (decide (z = w)) := by
  unfold nf
  rw [c_eq3]
  congr 1
  by_cases h : z = w
  · subst h; simp
  · rw [decide_eq_false h, decide_eq_false]
    rintro ⟨h1, h2, h3⟩
    exact h (nf_inj (by unfold nf; rw [h1, h2, h3]))
open Classical in
theorem c_ne_nf : cmpop .ne (nf z) (nf w) M = some (!decide (z = w)) := by
  have h : eqop (nf z) (nf w) M = some (decide (z = w)) := c_eq_nf (M := M)
  rw [cmp_ne, h]
  rfl
instance Bd.ofnf {k : Nat} [h : Hz z k] : Bd (nf z) (max k (max k (max k 0))) (1921 + (1921 + (1921 + 0 + 2) + 2) + 2 + 3) (max 0 (max 0 (max 0 0)) + 1) := by
  unfold Sn.nf
  exact inferInstance
end
theorem nf_l0 : (.tup [.int 0, .int 0, .int 1] : D) = nf 0 := (pl_nf (a := 0) (b := 0) (c := 1) ⟨by decide, by decide⟩).trans (by rw [gz0])
theorem nf_l1 : (.tup [.int 1, .int 0, .int 1] : D) = nf 1 := (pl_nf (a := 1) (b := 0) (c := 1) ⟨by decide, by decide⟩).trans (by rw [gz1])
theorem nf_conj (z : G) : (.tup [.int (gx z), .int (-gy z), .int (gp z)] : D) = nf z.conj := by
  obtain ⟨h1, h2, h3⟩ := conj_parts z
  unfold nf; rw [h1, h2, h3]

/-! ### fractions -/
def qf (r : Rat) : D := .tup [.int r.num, .int (r.den : Int)]
theorem qf_inj {r s : Rat} (h : qf r = qf s) : r = s := by
  unfold qf at h
  injection h with h
  injection h with h1 h
  injection h with h2 _
  injection h1 with h1
  injection h2 with h2
  exact Rat.ext h1 (by omega)
theorem fr_qf {x p : Int} (hp : 0 < p) : fr x p = qf ((x : Rat) / p) := by
  have h1 : ((x : Rat) / p).num * p = x * ((x : Rat) / p).den := by
    have hd : (((x : Rat) / p).den : Int) ≠ 0 := by have := ((x : Rat) / p).den_nz; omega
    have e : ((x : Rat) / p) = (((x : Rat) / p).num : Rat) / ((((x : Rat) / p).den : Int) : Rat) := by
      have := Rat.num_divInt_den ((x : Rat) / p)
      rw [Rat.divInt_eq_div] at this
      exact this.symm
    have hp' := rat_ne (show p ≠ 0 by omega)
    have hd' := rat_ne hd
    apply rat_inj
    rw [Rat.intCast_mul, Rat.intCast_mul]
    grind
  have hd : 0 < (((x : Rat) / p).den : Int) := by have := ((x : Rat) / p).den_nz; omega
  have h2 : fr x p = fr ((x : Rat) / p).num (((x : Rat) / p).den : Int) := fr_eq hp hd h1.symm
  rw [h2]
  generalize (x : Rat) / p = r
  have hr : Int.gcd r.num (r.den : Int) = 1 := by
    have := r.reduced
    rw [Int.gcd_eq_natAbs_gcd_natAbs]
    simpa using this
  unfold fr qf
  rw [hr]
  simp
class Hq (r : Rat) (k : outParam Nat) : Prop where
  out : ∃ a c : Int, 0 < c ∧ r = (a : Rat) / c ∧ a.natAbs < 2 ^ k ∧ c.natAbs < 2 ^ k
theorem Hq.mono {r : Rat} {j k : Nat} (h : Hq r j) (l : j ≤ k) : Hq r k := by
  obtain ⟨a, c, h0, e, h1, h3⟩ := h.out
  have := Nat.pow_le_pow_right (n := 2) (by decide) l
  exact ⟨a, c, h0, e, by omega, by omega⟩
theorem Hq.all {r : Rat} {k : Nat} (h : Hq r k) : r.num.natAbs < 2 ^ k ∧ r.den < 2 ^ k := by
  obtain ⟨a, c, h0, e, h1, h3⟩ := h.out
  have hf := fr_qf (x := a) h0
  rw [← e] at hf
  obtain ⟨t, u, et, hu, _, _, zt, zu⟩ := fr_out (x := a) (p := c) (j := k) (k := k) (hx := ⟨h1⟩) (hy := ⟨h3⟩) h0
  rw [et] at hf
  unfold qf at hf
  injection hf with hf
  injection hf with h4 hf
  injection hf with h5 _
  injection h4 with h4
  injection h5 with h5
  have := zt.lt
  have := zu.lt
  rw [← h4]
  omega
instance Hq.snum {r : Rat} {k : Nat} [h : Hq r k] : Sz r.num k := ⟨h.all.1⟩
instance Hq.sden {r : Rat} {k : Nat} [h : Hq r k] : Sz (r.den : Int) k := ⟨by have := h.all.2; omega⟩
theorem nrm_gz (a b p : Int) : (gz a b p).nrm = ((a * a + b * b : Int) : Rat) / ((p * p : Int) : Rat) := by
  show (a : Rat) / p * (a / p) + b / p * (b / p) = _
  rw [Rat.intCast_add, Rat.intCast_mul, Rat.intCast_mul, Rat.intCast_mul]
  by_cases hp : p = 0
  · subst hp
    show (a : Rat) / 0 * (a / 0) + b / 0 * (b / 0) = (a * a + b * b) / (0 * 0)
    grind
  · have := rat_ne hp
    grind
theorem nf_nrm (z : G) : ((gx z * gx z + gy z * gy z : Int) : Rat) / ((gp z * gp z : Int) : Rat) = z.nrm := by
  rw [← nrm_gz, gz_out]
instance Hq.ofnrm {z : G} {k : Nat} [h : Hz z k] : Hq z.nrm (k + k + 1) := by
  obtain ⟨h1, h2, h3⟩ := h.all
  exact ⟨_, _, Int.mul_pos (gp_pos z) (gp_pos z), (nf_nrm z).symm, natAbs_add_lt (natAbs_mul_lt h1 h1) (natAbs_mul_lt h2 h2), pow_up (natAbs_mul_lt h3 h3) (by omega)⟩
section
variable {r s : Rat} {M : Mem} {env : Slots} {m : Bool}
theorem ix_qf0 : ixop (qf r) 0 M = some (.int r.num) := by unfold qf; rw [ix_tup]; rfl
theorem ix_qf1 : ixop (qf r) 1 M = some (.int r.den) := by unfold qf; rw [ix_tup]; rfl
theorem put_qf {ts : List Tg} : Tg.put (.tp ts) (qf r) env = tgPuts ts [.int r.num, .int r.den] env := by unfold qf; rw [put_tp]
theorem c_eq_qf : cmpop .eq (qf r) (qf s) M = some (decide (r = s)) := by
  unfold qf
  rw [c_eq2]
  congr 1
  by_cases h : r = s
  · subst h; simp
  · rw [decide_eq_false h, decide_eq_false]
    rintro ⟨h1, h2⟩
    exact h (Rat.ext h1 (by omega))
theorem c_ne_qf : cmpop .ne (qf r) (qf s) M = some (!decide (r = s)) := by
  have h : eqop (qf r) (qf s) M = some (decide (r = s)) := c_eq_qf (M := M)
  rw [cmp_ne, h]
  rfl
instance Bd.ofqf {k : Nat} [h : Hq r k] : Bd (qf r) (max k (max k 0)) (1921 + (1921 + 0 + 2) + 2 + 3) (max 0 (max 0 0) + 1) := by
  unfold Sn.qf
  exact inferInstance
end
theorem G.nrm_mul (z w : G) : (z * w).nrm = z.nrm * w.nrm := by
  show (z.re * w.re - z.im * w.im) * (z.re * w.re - z.im * w.im) + (z.re * w.im + z.im * w.re) * (z.re * w.im + z.im * w.re) = (z.re * z.re + z.im * z.im) * (w.re * w.re + w.im * w.im)
  grind
theorem G.nrm_conj (z : G) : z.conj.nrm = z.nrm := by
  show z.re * z.re + -z.im * -z.im = z.re * z.re + z.im * z.im
  grind
theorem G.nrm_div (z : G) {w : G} (h : w ≠ 0) : (z / w).nrm = z.nrm / w.nrm := by
  have e : z = z / w * w := by grind
  have h1 := G.nrm_mul (z / w) w
  rw [← e] at h1
  have := G.nrm_ne h
  grind
theorem G.mul_conj (z : G) : z * z.conj = ⟨z.nrm, 0⟩ := G.ext (by show z.re * z.re - z.im * -z.im = z.re * z.re + z.im * z.im; grind) (by show z.re * -z.im + z.im * z.re = 0; grind)
end Sn
/-! Sn, part Z: fuel; fractions of any sign; comprehensions with effects. -/
namespace Sn
open PySem
/-- fuel enough -/
def big : Nat := 2 ^ 20000
theorem fuel_ok {n : Nat} {b : Int} {k : Nat} (hn : big ≤ n) [hb : Sz b k] (l : k ≤ 20000) : b.natAbs < n := Nat.lt_of_lt_of_le (hb.mono l).lt hn
/-- the fraction's divisor: the greatest common one with the bottom's sign -/
def dq (x p : Int) : Int := if p < 0 then -((Int.gcd x p : Nat) : Int) else ((Int.gcd x p : Nat) : Int)
theorem dq_ne {x p : Int} (h : p ≠ 0) : dq x p ≠ 0 := by
  have := Int.gcd_pos_of_ne_zero_right x h
  unfold dq; split <;> omega
theorem dq_sz {x p : Int} {k : Nat} (h0 : p ≠ 0) (h : Sz p k) : Sz (dq x p) k := h.le (by
  have h1 : Int.gcd x p ≤ p.natAbs := Nat.le_of_dvd (by omega) (by simpa using Int.natAbs_dvd_natAbs.mpr (Int.gcd_dvd_right x p))
  unfold dq; split <;> omega)
theorem dq_qf {x p : Int} (h : p ≠ 0) : (.tup [.int (x.fdiv (dq x p)), .int (p.fdiv (dq x p))] : D) = qf ((x : Rat) / p) := by
  by_cases h0 : p < 0
  · have e : dq x p = -((Int.gcd x p : Nat) : Int) := if_pos h0
    have e2 : ((x : Rat) / p) = ((-x : Int) : Rat) / ((-p : Int) : Rat) := by
      have := rat_ne h
      rw [Rat.intCast_neg, Rat.intCast_neg]; grind
    rw [e, e2, ← fr_qf (by omega)]
    unfold fr
    have e3 : Int.gcd (-x) (-p) = Int.gcd x p := by rw [Int.gcd_neg, Int.neg_gcd]
    rw [e3]
    have f : ∀ z : Int, z.fdiv (-((Int.gcd x p : Nat) : Int)) = (-z).fdiv ((Int.gcd x p : Nat) : Int) := fun z => by
      have := Int.neg_fdiv_neg (-z) ((Int.gcd x p : Nat) : Int)
      rw [Int.neg_neg] at this
      exact this
    rw [f x, f p]
  · have e : dq x p = ((Int.gcd x p : Nat) : Int) := if_neg h0
    rw [e, ← fr_qf (by omega)]
    rfl
theorem Hq.mk2 {x p : Int} {j k : Nat} [h : Sz x j] [g : Sz p k] (h0 : p ≠ 0) : Hq ((x : Rat) / p) (max j k) := by
  by_cases hp : 0 < p
  · exact ⟨x, p, hp, rfl, (h.mono (by omega)).lt, (g.mono (by omega)).lt⟩
  · refine ⟨-x, -p, by omega, ?_, by rw [Int.natAbs_neg]; exact (h.mono (by omega)).lt, by rw [Int.natAbs_neg]; exact (g.mono (by omega)).lt⟩
    have := rat_ne h0
    rw [Rat.intCast_neg, Rat.intCast_neg]; grind
open Classical in
theorem compL_eff {refs : List Nat} {M0 : Mem} {turn : D → Mem → Res (Option D)} (I : Nat → List D → Mem → Prop) : ∀ (xs acc : List D) (k : Nat) (M : Mem), (∀ i x, xs[i]? = some x → ∀ acc M, I (k + i) acc M → ∃ y M', turn x M = .ok (some y) M' ∧ stays refs M0 M' ∧ I (k + i + 1) (acc ++ [y]) M') → acc.length + xs.length ≤ sizeLine → I k acc M →
    ∃ ys M', compL refs M0 turn xs acc M = .ok ys M' ∧ ys.length = acc.length + xs.length ∧ I (k + xs.length) ys M'
  | [], acc, k, M, _, _, h => ⟨acc, M, by rw [compL], by simp, h⟩
  | x :: xs, acc, k, M, hb, l, h => by
    obtain ⟨y, M1, e1, st, h1⟩ := hb 0 x rfl acc M h
    rw [List.length_cons] at l
    obtain ⟨ys, M2, e2, l2, h2⟩ := compL_eff I xs (acc ++ [y]) (k + 1) M1 (fun i z hz acc M hi => by
      have e : k + 1 + i = k + (i + 1) := by omega
      rw [e] at hi ⊢
      exact hb (i + 1) z hz acc M hi) (by rw [List.length_append]; simp; omega) h1
    refine ⟨ys, M2, ?_, ?_, ?_⟩
    · rw [compL, e1]
      dsimp only
      rw [if_pos ⟨st, by omega⟩, e2]
    · rw [l2, List.length_append, List.length_cons]; simp; omega
    · have e : k + (x :: xs).length = k + 1 + xs.length := by rw [List.length_cons]; omega
      rw [e]; exact h2
/-- a comprehension whose turns do things -/
theorem comp_eff {n : Nat} {env : Slots} {M M1 : Mem} {own : List Nat} {elt : E} {tg : Tg} {it : Src} {w : Wk} (I : Nat → List D → Mem → Prop) (hi : evIt n it env M = .ok w M1) (h0 : I 0 [] M1)
    (hb : ∀ i x, w.items[i]? = some x → ∀ acc M, I i acc M → ∃ env2 y M', tg.put x (wipes env own) = some env2 ∧ evE n elt env2 M = .ok y M' ∧ stays w.refs M1 M' ∧ I (i + 1) (acc ++ [y]) M') (l : w.items.length ≤ sizeLine) :
    ∃ ys M', evE n (.comp false own elt tg it .none) env M = .ok (.lst ys) M' ∧ ys.length = w.items.length ∧ I w.items.length ys M' := by
  obtain ⟨ys, M', e, l2, h⟩ := compL_eff (refs := w.refs) (M0 := M1) (turn := fun x M2 => (ofO (tg.put x (wipes env own)) M2).bind fun env2 M3 => (evC n .none env2 M3).bind fun b M4 => if b = true then (evE n elt env2 M4).bind fun y M5 => Res.ok (some y) M5 else Res.ok none M4) I w.items [] 0 M1 (fun i x hx acc M hI => by
    rw [Nat.zero_add] at hI ⊢
    obtain ⟨env2, y, M', e1, e2, st, h⟩ := hb i x hx acc M hI
    refine ⟨y, M', ?_, st, h⟩
    rw [e1]
    show ((evC n .none env2 M).bind fun b M4 => if b = true then (evE n elt env2 M4).bind fun y M5 => Res.ok (some y) M5 else Res.ok none M4) = Res.ok (some y) M'
    rw [evC]
    show ((evE n elt env2 M).bind fun y M5 => Res.ok (some y) M5) = Res.ok (some y) M'
    rw [e2]
    rfl) (by simpa using l) h0
  refine ⟨ys, M', ?_, by simpa using l2, by simpa using h⟩
  rw [evE, hi]
  show Res.bind (compL w.refs M1 _ w.items [] M1) _ = _
  rw [e]
  show newL false ys M' = _
  rw [newL_f (by simp at l2; omega)]
theorem Bag.take {M : Mem} {r t k : Nat} (h : Bag M r t) (l : r < k) : Bag (M.take k) r t := by
  obtain ⟨a, b, c, e, h1, h2, h3, h4⟩ := h.at_
  refine ⟨fun xs hx => h.mp xs (List.mem_of_mem_take hx), a, b, c, ?_, h1, h2, h3, h4⟩
  unfold Mem.cont at e ⊢
  rw [List.getElem?_take, if_pos l]
  exact e
theorem Bag.lt {M : Mem} {r t : Nat} (h : Bag M r t) : r < M.length := by
  obtain ⟨a, b, c, e, _⟩ := h.at_
  exact cont_lt e
end Sn
namespace Sn
open PySem
section
variable {z w : G} {r : Rat} {M : Mem}
theorem isn_nf : isnD (nf z) M = .ok (.bl false) M := id rfl
theorem notn_nf : notnD (nf z) M = .ok (.bl true) M := id rfl
theorem kind_nf_int : isKind .int (nf z) = false := id rfl
theorem kind_nf_bool : isKind .bool (nf z) = false := id rfl
theorem kind_nf_list : isKind .list (nf z) = false := id rfl
theorem kind_nf_str : isKind .str (nf z) = false := id rfl
theorem kind_qf : isKind .tuple (qf r) = true := id rfl
theorem live_qf : live (qf r) M = true := id rfl
theorem isn_qf : isnD (qf r) M = .ok (.bl false) M := id rfl
theorem notn_qf : notnD (qf r) M = .ok (.bl true) M := id rfl
theorem p_len_qf {m : Bool} : primop m .len [qf r] M = .ok (.int 2) M := by unfold qf; exact p_len2
theorem pure_qf : (qf r).pure = true := id rfl
end
theorem nf_neg (z : G) : (.tup [.int (-gx z), .int (-gy z), .int (gp z)] : D) = nf (-z) := by
  obtain ⟨h1, h2, h3⟩ := neg_parts z
  unfold nf; rw [h1, h2, h3]
theorem nf_gi (z : G) : (.tup [.int (-gy z), .int (gx z), .int (gp z)] : D) = nf (gi * z) := by
  obtain ⟨h1, h2, h3⟩ := gi_parts z
  unfold nf; rw [h1, h2, h3]
theorem nf_gi3 (z : G) : (.tup [.int (gy z), .int (-gx z), .int (gp z)] : D) = nf (-(gi * z)) := by
  obtain ⟨h1, h2, h3⟩ := gi_parts z
  obtain ⟨g1, g2, g3⟩ := neg_parts (gi * z)
  unfold nf; rw [g1, g2, g3, h1, h2, h3, Int.neg_neg]
end Sn
namespace Sn
open PySem
/-! ### own lists behind a memory -/
section
variable {M L : Mem} {xs : List D} {i : Nat} {v : D} {fl : Bool}
theorem cont_loc : Mem.cont (M ++ L) (M.length + i) = (L[i]?).join := by
  unfold Mem.cont
  rw [List.getElem?_append_right (by omega), Nat.add_sub_cancel_left]
theorem set_loc {o : Option (List D)} : (M ++ L).set (M.length + i) o = M ++ L.set i o := by
  rw [List.set_append_right _ _ (by omega), Nat.add_sub_cancel_left]
theorem newL_loc (h : xs.length ≤ sizeLine) : newL true xs (M ++ L) = .ok (.ref (M.length + L.length)) (M ++ (L ++ [some xs])) := by
  rw [newL_t h, List.length_append, List.append_assoc]
theorem newL_loc0 (h : xs.length ≤ sizeLine) : newL true xs M = .ok (.ref (M.length + 0)) (M ++ [some xs]) := newL_t h
theorem m_append {r : Nat} (e : Mem.cont M r = some xs) (l : xs.length < sizeLine) : methop .append (.ref r) [v] M = .ok .non (M.set r (some (xs ++ [v]))) := by
  simp only [methop, e]
  unfold guard
  rw [if_pos (decide_eq_true l)]
theorem m_append_loc (e : (L[i]?).join = some xs) (l : xs.length < sizeLine) : methop .append (.ref (M.length + i)) [v] (M ++ L) = .ok .non (M ++ L.set i (some (xs ++ [v]))) := by
  rw [m_append (cont_loc.trans e) l, set_loc]
theorem m_append_0 {q : Nat} (hq : M.length = q) {L' : Mem} (l : xs.length + 1 ≤ sizeLine) : methop .append (.ref (q + 0)) [v] (M ++ some xs :: L') = .ok .non (M ++ some (xs ++ [v]) :: L') := by subst hq; exact m_append_loc (L := some xs :: L') (i := 0) rfl l
theorem m_append_1 {q : Nat} (hq : M.length = q) {L' : Mem} {a : Option (List D)} (l : xs.length + 1 ≤ sizeLine) : methop .append (.ref (q + 1)) [v] (M ++ a :: some xs :: L') = .ok .non (M ++ a :: some (xs ++ [v]) :: L') := by subst hq; exact m_append_loc (L := a :: some xs :: L') (i := 1) rfl l
theorem m_append_2 {q : Nat} (hq : M.length = q) {L' : Mem} {a b : Option (List D)} (l : xs.length + 1 ≤ sizeLine) : methop .append (.ref (q + 2)) [v] (M ++ a :: b :: some xs :: L') = .ok .non (M ++ a :: b :: some (xs ++ [v]) :: L') := by subst hq; exact m_append_loc (L := a :: b :: some xs :: L') (i := 2) rfl l
theorem live_of {r : Nat} (e : Mem.cont M r = some xs) : live (.ref r) M = true := by
  show (Mem.cont M r).isSome = true
  rw [e]; rfl
theorem live_0 {q : Nat} (hq : M.length = q) {L' : Mem} : live (.ref (q + 0)) (M ++ some xs :: L') = true := by subst hq; exact live_of (xs := xs) (cont_loc.trans rfl)
theorem live_1 {q : Nat} (hq : M.length = q) {L' : Mem} {a : Option (List D)} : live (.ref (q + 1)) (M ++ a :: some xs :: L') = true := by subst hq; exact live_of (xs := xs) (cont_loc.trans rfl)
theorem live_2 {q : Nat} (hq : M.length = q) {L' : Mem} {a b : Option (List D)} : live (.ref (q + 2)) (M ++ a :: b :: some xs :: L') = true := by subst hq; exact live_of (xs := xs) (cont_loc.trans rfl)
theorem ix_0 {q : Nat} (hq : M.length = q) {L' : Mem} {j : Int} : ixop (.ref (q + 0)) j (M ++ some xs :: L') = L2.atI xs j := by subst hq; exact ix_ref (cont_loc.trans rfl)
theorem ix_1 {q : Nat} (hq : M.length = q) {L' : Mem} {a : Option (List D)} {j : Int} : ixop (.ref (q + 1)) j (M ++ a :: some xs :: L') = L2.atI xs j := by subst hq; exact ix_ref (cont_loc.trans rfl)
theorem ix_2 {q : Nat} (hq : M.length = q) {L' : Mem} {a b : Option (List D)} {j : Int} : ixop (.ref (q + 2)) j (M ++ a :: b :: some xs :: L') = L2.atI xs j := by subst hq; exact ix_ref (cont_loc.trans rfl)
theorem p_repr_of {r : Nat} {k n m : Nat} (e : Mem.cont M r = some xs) [h : Bds xs k n m] (l1 : k < 1920) (l2 : n + 3 ≤ sizeLine) (l3 : m + 1 ≤ 60) : primop fl .repr [.ref r] M = .ok (.str (toPy (.lst xs)).shown) M := by
  have g : Bd (.lst xs) k (n + 3) (m + 1) := inferInstance
  refine p_repr (p := toPy (.lst xs)) ?_ g.bare (g.shw l1) (Nat.le_trans g.dep l3) (Nat.le_trans g.cost l2)
  simp only [D.py, e]
  rw [h.py]
  simp [toPy]
theorem p_repr_0 {q : Nat} (hq : M.length = q) {L' : Mem} {k n m : Nat} [h : Bds xs k n m] (l1 : k < 1920) (l2 : n + 3 ≤ sizeLine) (l3 : m + 1 ≤ 60) : primop fl .repr [.ref (q + 0)] (M ++ some xs :: L') = .ok (.str (toPy (.lst xs)).shown) (M ++ some xs :: L') := by subst hq; exact p_repr_of (cont_loc.trans rfl) l1 l2 l3
theorem p_repr_1 {q : Nat} (hq : M.length = q) {L' : Mem} {a : Option (List D)} {k n m : Nat} [h : Bds xs k n m] (l1 : k < 1920) (l2 : n + 3 ≤ sizeLine) (l3 : m + 1 ≤ 60) : primop fl .repr [.ref (q + 1)] (M ++ a :: some xs :: L') = .ok (.str (toPy (.lst xs)).shown) (M ++ a :: some xs :: L') := by subst hq; exact p_repr_of (cont_loc.trans rfl) l1 l2 l3
theorem eqop_ref {r : Nat} {y : D} {k n m : Nat} (e : Mem.cont M r = some xs) [h : Bds xs k n m] : eqop (.ref r) y M = eqop (.lst xs) y M := by
  have a1 : D.py M (.ref r) = some (.list (toPys xs)) := by simp [D.py, e, h.py]
  have a2 : D.py M (.lst xs) = some (.list (toPys xs)) := by simp [D.py, D.py0, h.py]
  have b1 := py_pyN a1
  have b2 := py_pyN a2
  unfold eqop eqopN
  rw [a1, a2, b1, b2]
theorem py_ref {r : Nat} (e : Mem.cont M r = some xs) : D.py M (.ref r) = D.py M (.lst xs) := by
  simp [D.py, e, D.py0]
end
def mpB (L : Mem) : Bool := L.all fun o => match o with
  | some xs => pures xs
  | none => true
theorem MP.loc {M L : Mem} (h : MP M) (p : mpB L = true) : MP (M ++ L) := fun xs hx => by
  rcases List.mem_append.mp hx with z | z
  · exact h xs z
  · exact List.all_eq_true.mp p (some xs) z
section
variable {M : Mem}
theorem live_non : live .non M = true := id rfl
theorem live_int {i : Int} : live (.int i) M = true := id rfl
theorem live_bl {i : Bool} : live (.bl i) M = true := id rfl
theorem live_str {i : Str} : live (.str i) M = true := id rfl
theorem live_tup {xs : List D} : live (.tup xs) M = true := id rfl
theorem live_lst {xs : List D} : live (.lst xs) M = true := id rfl
theorem live_scr {xs : List D} : live (.scr xs) M = true := id rfl
end
theorem closed_loc {M L : Mem} (h : MP M) : closed M.length (M ++ L) = true := by
  unfold closed
  rw [List.take_left']
  · refine List.all_eq_true.mpr fun o ho => ?_
    cases o with
    | none => rfl
    | some xs => exact h xs ho
  · rfl
/-- a call whose own lists lie behind the memory, and go -/
theorem call_loc {n : Nat} {name : Str} {ps N : List Str} {body : Ss} {ds : List D} {M M1 : Mem} {d : D} (hl : ds.length = ps.length ∧ ps.length ≤ N.length)
    (hb : ∃ L, evSs n body (fill N ds) (M ++ []) = .ok (.rt d) (M1 ++ L)) (hp : d.pure = true) (hM : MP M1) (hs : M1.length = M.length) : callD n (.mk name false ps N body) ds M = .ok d M1 := by
  obtain ⟨L, hb⟩ := hb
  rw [List.append_nil] at hb
  have := call_tmp (name := name) hl hb (shut_pure hp) (by rw [← hs]; exact closed_loc hM)
  rw [this, ← hs, List.take_left']
  rfl
end Sn
/-! Sn, part Za: comprehensions, loops over lists that are written out. -/
namespace Sn
open PySem
/-- the turns' end: the walked lists stay -/
noncomputable def stG {α : Type} (refs : List Nat) (M0 M : Mem) (r : Res α) : Res α := open Classical in if stays refs M0 M then r else .no
theorem stG_same {α : Type} {refs : List Nat} {M : Mem} {r : Res α} : stG refs M M r = r := by
  unfold stG; exact if_pos fun _ _ => rfl
theorem stG_nil {α : Type} {M0 M : Mem} {r : Res α} : stG [] M0 M r = r := by
  unfold stG; exact if_pos stays_nil
def asBD (d : D) (M : Mem) : Res Bool := match d with
  | .bl b => .ok b M
  | _ => .no
theorem asBD_bl {b : Bool} {M : Mem} : asBD (.bl b) M = .ok b M := id rfl
noncomputable def turnC (n : Nat) (own : List Nat) (elt : E) (tg : Tg) (cnd : Eo) (env : Slots) (x : D) (M2 : Mem) : Res (Option D) := (ofO (tg.put x (wipes env own)) M2).bind fun env2 M3 => (evC n cnd env2 M3).bind fun b M4 => if b = true then (evE n elt env2 M4).bind fun y M5 => Res.ok (some y) M5 else Res.ok none M4
noncomputable def cmpU (n : Nat) (own : List Nat) (elt : E) (tg : Tg) (cnd : Eo) (env : Slots) (refs : List Nat) (M0 : Mem) (xs acc : List D) (M : Mem) : Res (List D) := compL refs M0 (turnC n own elt tg cnd env) xs acc M
noncomputable def compW (n : Nat) (own : List Nat) (elt : E) (tg : Tg) (cnd : Eo) (env : Slots) (m : Bool) (w : Wk) (M : Mem) : Res D := out (bndT (cmpU n own elt tg cnd env w.refs M w.items [] M) (newL m))
section
variable {n : Nat} {env : Slots} {M M0 : Mem} {own : List Nat} {elt c : E} {tg : Tg} {it : Src} {cnd : Eo} {m : Bool} {refs : List Nat} {x : D} {xs acc : List D}
theorem ev_comp : evE n (.comp m own elt tg it cnd) env M = out (bndT (evIt n it env M) (compW n own elt tg cnd env m)) := by rw [evE]; rfl
theorem compW_mk : compW n own elt tg cnd env m ⟨xs, refs⟩ M = out (bndT (cmpU n own elt tg cnd env refs M xs [] M) (newL m)) := id rfl
theorem cmpU_nil : cmpU n own elt tg cnd env refs M0 [] acc M = .ok acc M := by unfold cmpU; rw [compL]
theorem evC_none : evC n .none env M = .ok true M := by rw [evC]
theorem evC_some : evC n (.some c) env M = out (bndT (evE n c env M) asBD) := by
  rw [evC]
  show Res.bind _ _ = Res.bind _ _
  congr 1
  funext d M1
  cases d <;> rfl
def TB {α : Type} (f g : Mem → Res α) : Type := Res α
def outB {α : Type} {f g : Mem → Res α} (x : TB f g) : Res α := x
def ifB {α : Type} (b : Bool) (M : Mem) (f g : Mem → Res α) : TB f g := if b = true then f M else g M
theorem ifB_t {α : Type} {f g : Mem → Res α} : outB (ifB true M f g) = f M := id rfl
theorem ifB_f {α : Type} {f g : Mem → Res α} : outB (ifB false M f g) = g M := id rfl
theorem ifB_d {α : Type} {q : Prop} [Decidable q] {f g : Mem → Res α} : outB (ifB (decide q) M f g) = if q then f M else g M := by
  by_cases h : q
  · rw [if_pos h, decide_eq_true h]; rfl
  · rw [if_neg h, decide_eq_false h]; rfl
theorem ifB_nd {α : Type} {q : Prop} [Decidable q] {f g : Mem → Res α} : outB (ifB (!decide q) M f g) = if q then g M else f M := by
  by_cases h : q
  · rw [if_pos h, decide_eq_true h]; rfl
  · rw [if_neg h, decide_eq_false h]; rfl
open Classical in
theorem cmpU_cons (l : acc.length + 1 ≤ sizeLine) : cmpU n own elt tg cnd env refs M0 (x :: xs) acc M =
    out (bndT (ofO (tg.put x (wipes env own)) M) fun env2 M3 => out (bndT (evC n cnd env2 M3) fun b M4 => outB (ifB b M4
      (fun M4 => out (bndT (evE n elt env2 M4) fun y M5 => stG refs M0 M5 (cmpU n own elt tg cnd env refs M0 xs (acc ++ [y]) M5)))
      (fun M4 => stG refs M0 M4 (cmpU n own elt tg cnd env refs M0 xs acc M4))))) := by
  unfold cmpU
  rw [compL]
  cases hp : Tg.put tg x (wipes env own) with
  | none =>
    have e : turnC n own elt tg cnd env x M = .no := by unfold turnC; rw [hp]; rfl
    rw [e]; rfl
  | some env2 =>
    cases hc : evC n cnd env2 M with
    | no =>
      have e : turnC n own elt tg cnd env x M = .no := by
        unfold turnC; rw [hp]
        show Res.bind (evC n cnd env2 M) _ = _
        rw [hc]; rfl
      rw [e]
      show _ = Res.bind (evC n cnd env2 M) _
      rw [hc]; rfl
    | ok b M4 =>
      cases b with
      | false =>
        have e : turnC n own elt tg cnd env x M = .ok none M4 := by
          unfold turnC; rw [hp]
          show Res.bind (evC n cnd env2 M) _ = _
          rw [hc]; rfl
        rw [e]
        show _ = Res.bind (evC n cnd env2 M) _
        rw [hc]; rfl
      | true =>
        have e : turnC n own elt tg cnd env x M = (evE n elt env2 M4).bind fun y M5 => Res.ok (some y) M5 := by
          unfold turnC; rw [hp]
          show Res.bind (evC n cnd env2 M) _ = _
          rw [hc]; rfl
        rw [e]
        show _ = Res.bind (evC n cnd env2 M) _
        rw [hc]
        show _ = Res.bind (evE n elt env2 M4) _
        cases evE n elt env2 M4 with
        | no => rfl
        | ok y M5 =>
          show (if stays refs M0 M5 ∧ acc.length < sizeLine then _ else _) = stG _ _ _ _
          unfold stG
          by_cases h : stays refs M0 M5
          · rw [if_pos h, if_pos ⟨h, by omega⟩]
          · rw [if_neg h, if_neg fun q => h q.1]
theorem wipes_nil : wipes env [] = env := by rw [wipes]
theorem wipes_cons {v : Nat} {vs : List Nat} : wipes env (v :: vs) = (wipes env vs).set v none := by rw [wipes]
end
/-! ### what is walked -/
def itD (x : D) (M : Mem) : Res Wk := out (bndT (ofO (itemsS M x) M) fun xs M2 => .ok ⟨xs, refsOf x⟩ M2)
def itR (x : D) (M : Mem) : Res Wk := match x with
  | .int i => Sn.guard (rngOk i) (.ok ⟨rangeD 0 i.toNat, []⟩ M)
  | _ => .no
def itR2 (x y : D) (M : Mem) : Res Wk := match x, y with
  | .int i, .int j => Sn.guard (rngOk i && rngOk j) (.ok ⟨rangeD i (j - i).toNat, []⟩ M)
  | _, _ => .no
def itE (x : D) (M : Mem) : Res Wk := out (bndT (ofO (itemsL M x) M) fun xs M2 => .ok ⟨enumD xs, refsOf x⟩ M2)
def itZ (x y : D) (M : Mem) : Res Wk := match x, y with
  | .tup xs, .tup ys => .ok ⟨zipD xs ys, []⟩ M
  | x, y => match itemsL M x, itemsL M y with
    | some xs, some ys => .ok ⟨zipD xs ys, refsOf x ++ refsOf y⟩ M
    | _, _ => .no
section
variable {n : Nat} {env : Slots} {M L' : Mem} {a b : E} {xs ys : List D} {z : G}
theorem evIt_of : evIt n (.of a) env M = out (bndT (evE n a env M) itD) := by rw [evIt]; rfl
theorem evIt_range1 : evIt n (.range1 a) env M = out (bndT (evE n a env M) itR) := by
  rw [evIt]
  show Res.bind _ _ = Res.bind _ _
  congr 1
theorem evIt_range2 : evIt n (.range2 a b) env M = out (bndT (evE n a env M) fun x M1 => out (bndT (evE n b env M1) (itR2 x))) := by
  rw [evIt]
  show Res.bind _ _ = Res.bind _ _
  congr 1
theorem evIt_enum : evIt n (.enum a) env M = out (bndT (evE n a env M) itE) := by rw [evIt]; rfl
theorem evIt_zip : evIt n (.zip a b) env M = out (bndT (evE n a env M) fun x M1 => out (bndT (evE n b env M1) (itZ x))) := by
  rw [evIt]
  show Res.bind _ _ = Res.bind _ _
  congr 1
theorem itD_lst : itD (.lst xs) M = .ok ⟨xs, []⟩ M := id rfl
theorem itD_tup : itD (.tup xs) M = .ok ⟨xs, []⟩ M := id rfl
theorem itD_scr : itD (.scr xs) M = .ok ⟨xs, []⟩ M := id rfl
theorem itD_nf : itD (nf z) M = .ok ⟨[.int (gx z), .int (gy z), .int (gp z)], []⟩ M := id rfl
theorem itD_of {r : Nat} (e : Mem.cont M r = some xs) : itD (.ref r) M = .ok ⟨xs, [r]⟩ M := by
  unfold itD
  simp only [itemsS, itemsL, itemsC, e]
  rfl
theorem itD_0 {q : Nat} (hq : M.length = q) : itD (.ref (q + 0)) (M ++ some xs :: L') = .ok ⟨xs, [q + 0]⟩ (M ++ some xs :: L') := by subst hq; exact itD_of (cont_loc.trans rfl)
theorem itD_1 {q : Nat} (hq : M.length = q) {o1 : Option (List D)} : itD (.ref (q + 1)) (M ++ o1 :: some xs :: L') = .ok ⟨xs, [q + 1]⟩ (M ++ o1 :: some xs :: L') := by subst hq; exact itD_of (cont_loc.trans rfl)
theorem itE_lst : itE (.lst xs) M = .ok ⟨enumD xs, []⟩ M := id rfl
theorem itZ_tup : itZ (.tup xs) (.tup ys) M = .ok ⟨zipD xs ys, []⟩ M := id rfl
theorem itZ_lst : itZ (.lst xs) (.lst ys) M = .ok ⟨zipD xs ys, []⟩ M := id rfl
theorem itR_2 : itR (.int 2) M = .ok ⟨[.int 0, .int 1], []⟩ M := id rfl
theorem itR_3 : itR (.int 3) M = .ok ⟨[.int 0, .int 1, .int 2], []⟩ M := id rfl
theorem itR_4 : itR (.int 4) M = .ok ⟨[.int 0, .int 1, .int 2, .int 3], []⟩ M := id rfl
theorem zipD_cons {x y : D} : zipD (x :: xs) (y :: ys) = .tup [x, y] :: zipD xs ys := id rfl
theorem zipD_nil : zipD [] ys = [] := id rfl
theorem zipD_nil2 : zipD xs [] = [] := by cases xs <;> rfl
def enumK (k : Nat) (xs : List D) : List D := (xs.zipIdx k).map fun p => .tup [.int (p.2 : Nat), p.1]
theorem enumD_k : enumD xs = enumK 0 xs := id rfl
theorem enumK_cons {x : D} {k : Nat} : enumK k (x :: xs) = .tup [.int ((k : Nat) : Int), x] :: enumK (k + 1) xs := by simp [enumK]
theorem enumK_nil {k : Nat} : enumK k [] = [] := id rfl
end
/-! ### all, any, sum of lists written out -/
def allD : List D → Option Bool
  | [] => some true
  | .bl b :: r => (allD r).map (b && ·)
  | _ :: _ => none
theorem allD_eq : ∀ {xs : List D}, allD xs = (boolsL xs).map fun bs => bs.all id
  | [] => by simp [allD, boolsL]
  | x :: xs => by
    cases x <;> simp only [allD, boolsL, Option.map_none]
    rw [allD_eq]
    cases boolsL xs <;> simp
def anyD : List D → Option Bool
  | [] => some false
  | .bl b :: r => (anyD r).map (b || ·)
  | _ :: _ => none
theorem anyD_eq : ∀ {xs : List D}, anyD xs = (boolsL xs).map fun bs => bs.any id
  | [] => by simp [anyD, boolsL]
  | x :: xs => by
    cases x <;> simp only [anyD, boolsL, Option.map_none]
    rw [anyD_eq]
    cases boolsL xs <;> simp
section
variable {M : Mem} {m : Bool} {xs : List D} {b : Bool}
theorem p_all_lst : primop m .all [.lst xs] M = out (bndT (ofO (allD xs) M) fun b M => .ok (.bl b) M) := by
  rw [allD_eq]
  simp only [primop, itemsL, itemsC]
  cases boolsL xs <;> rfl
theorem p_any_lst : primop m .any [.lst xs] M = out (bndT (ofO (anyD xs) M) fun b M => .ok (.bl b) M) := by
  rw [anyD_eq]
  simp only [primop, itemsL, itemsC]
  cases boolsL xs <;> rfl
theorem allD_nil : allD [] = some true := id rfl
theorem allD_cons : allD (.bl b :: xs) = (allD xs).map (b && ·) := id rfl
theorem anyD_nil : anyD [] = some false := id rfl
theorem anyD_cons : anyD (.bl b :: xs) = (anyD xs).map (b || ·) := id rfl
theorem p_tuple_lst (l : xs.length ≤ sizeLine) : primop m .tuple [.lst xs] M = .ok (.tup xs) M := by
  show newT xs M = _
  exact newT_of l
theorem p_tuple_tup (l : xs.length ≤ sizeLine) : primop m .tuple [.tup xs] M = .ok (.tup xs) M := by
  show newT xs M = _
  exact newT_of l
theorem p_list_lst (l : xs.length ≤ sizeLine) : primop false .list [.lst xs] M = .ok (.lst xs) M := by
  show newL false xs M = _
  exact newL_f l
theorem p_list_tup (l : xs.length ≤ sizeLine) : primop false .list [.tup xs] M = .ok (.lst xs) M := by
  show newL false xs M = _
  exact newL_f l
theorem b_addL {ys : List D} : binop m .add (.lst xs) (.lst ys) M = newL m (xs ++ ys) M := id rfl
theorem b_addT {ys : List D} (l : (xs ++ ys).length ≤ sizeLine) : binop m .add (.tup xs) (.tup ys) M = .ok (.tup (xs ++ ys)) M := newT_of l
end
/-! ### for loops over lists written out -/
noncomputable def forU (n : Nat) (t : Tg) (b : Ss) (refs : List Nat) (M0 : Mem) (xs : List D) (env : Slots) (M : Mem) : Res Out :=
  forL refs M0 (fun x env2 M2 => (ofO (t.put x env2) M2).bind fun env3 M3 => evSs n b env3 M3) xs env M
noncomputable def forW (n : Nat) (t : Tg) (b : Ss) (env : Slots) (w : Wk) (M : Mem) : Res Out := forU n t b w.refs M w.items env M
section
variable {n : Nat} {env : Slots} {M M0 : Mem} {t : Tg} {it : Src} {b : Ss} {refs : List Nat} {x : D} {xs : List D}
theorem es_forU : evS n (.for t it b) env M = out (bndT (evIt n it env M) (forW n t b env)) := by rw [evS]; rfl
theorem forW_mk : forW n t b env ⟨xs, refs⟩ M = forU n t b refs M xs env M := id rfl
theorem forU_nil : forU n t b refs M0 [] env M = .ok (.nx env) M := by unfold forU; rw [forL]
open Classical in
theorem forU_cons : forU n t b refs M0 (x :: xs) env M = out (bndT (ofO (t.put x env) M) fun env3 M3 => outW (turnT (evSs n b env3 M3) fun env' M' => stG refs M0 M' (forU n t b refs M0 xs env' M'))) := by
  unfold forU
  rw [forL]
  cases hp : t.put x env with
  | none => rfl
  | some env3 =>
    show _ = outW (turnT (evSs n b env3 M) _)
    have e : ((ofO (some env3) M).bind fun env3 M3 => evSs n b env3 M3) = evSs n b env3 M := rfl
    rw [e]
    cases evSs n b env3 M with
    | no => rfl
    | ok o M1 => cases o <;> rfl
end
theorem put_tpl {ts : List Tg} {xs : List D} {env : Slots} : Tg.put (.tp ts) (.lst xs) env = tgPuts ts xs env := by simp [Tg.put]
/-- call_loc where the memory changes first -/
theorem call_loc2 {n : Nat} {name : Str} {ps N : List Str} {body : Ss} {ds : List D} {M M1 : Mem} {d : D} (hl : ds.length = ps.length ∧ ps.length ≤ N.length)
    (hb : ∃ L, evSs n body (fill N ds) M = .ok (.rt d) (M1 ++ L)) (hp : d.pure = true) (hM : MP M1) (hs : M1.length = M.length) : callD n (.mk name false ps N body) ds M = .ok d M1 :=
  call_loc hl (by rw [List.append_nil]; exact hb) hp hM hs
end Sn
/-! Sn, part Zb: whole pairs. -/
namespace Sn
open PySem
structure Z2 where
  x : Int
  y : Int
namespace Z2
theorem ext {z w : Z2} (h : z.x = w.x) (g : z.y = w.y) : z = w := by cases z; cases w; simp at h g; simp [h, g]
instance : Add Z2 := ⟨fun z w => ⟨z.x + w.x, z.y + w.y⟩⟩
instance : Mul Z2 := ⟨fun z w => ⟨z.x * w.x - z.y * w.y, z.x * w.y + z.y * w.x⟩⟩
instance : Neg Z2 := ⟨fun z => ⟨-z.x, -z.y⟩⟩
instance : Sub Z2 := ⟨fun z w => ⟨z.x - w.x, z.y - w.y⟩⟩
instance : NatCast Z2 := ⟨fun n => ⟨n, 0⟩⟩
instance : IntCast Z2 := ⟨fun n => ⟨n, 0⟩⟩
instance {n : Nat} : OfNat Z2 n := ⟨⟨n, 0⟩⟩
def npow (z : Z2) : Nat → Z2
  | 0 => 1
  | n + 1 => npow z n * z
instance : HPow Z2 Nat Z2 := ⟨npow⟩
instance : SMul Nat Z2 := ⟨fun n z => (n : Z2) * z⟩
instance : SMul Int Z2 := ⟨fun n z => (n : Z2) * z⟩
section
variable {z w : Z2}
theorem add_x : (z + w).x = z.x + w.x := rfl
theorem add_y : (z + w).y = z.y + w.y := rfl
theorem mul_x : (z * w).x = z.x * w.x - z.y * w.y := rfl
theorem mul_y : (z * w).y = z.x * w.y + z.y * w.x := rfl
theorem neg_x : (-z).x = -z.x := rfl
theorem neg_y : (-z).y = -z.y := rfl
theorem sub_x : (z - w).x = z.x - w.x := rfl
theorem sub_y : (z - w).y = z.y - w.y := rfl
theorem zero_x : (0 : Z2).x = 0 := rfl
theorem zero_y : (0 : Z2).y = 0 := rfl
theorem one_x : (1 : Z2).x = 1 := rfl
theorem one_y : (1 : Z2).y = 0 := rfl
end
instance : Lean.Grind.CommRing Z2 where
  add_zero z := ext (by simp only [add_x, zero_x]; grind) (by simp only [add_y, zero_y]; grind)
  add_comm z w := ext (by simp only [add_x]; grind) (by simp only [add_y]; grind)
  add_assoc z w v := ext (by simp only [add_x]; grind) (by simp only [add_y]; grind)
  mul_assoc z w v := ext (by simp only [mul_x, mul_y]; grind) (by simp only [mul_x, mul_y]; grind)
  mul_one z := ext (by simp only [mul_x, one_x, one_y]; grind) (by simp only [mul_y, one_x, one_y]; grind)
  one_mul z := ext (by simp only [mul_x, one_x, one_y]; grind) (by simp only [mul_y, one_x, one_y]; grind)
  left_distrib z w v := ext (by simp only [mul_x, add_x, add_y]; grind) (by simp only [mul_y, add_x, add_y]; grind)
  right_distrib z w v := ext (by simp only [mul_x, add_x, add_y]; grind) (by simp only [mul_y, add_x, add_y]; grind)
  zero_mul z := ext (by simp only [mul_x, zero_x, zero_y]; grind) (by simp only [mul_y, zero_x, zero_y]; grind)
  mul_zero z := ext (by simp only [mul_x, zero_x, zero_y]; grind) (by simp only [mul_y, zero_x, zero_y]; grind)
  pow_zero z := rfl
  pow_succ z n := rfl
  ofNat_succ n := ext (by show ((n + 1 : Nat) : Int) = (n : Int) + 1; omega) rfl
  ofNat_eq_natCast n := rfl
  nsmul_eq_natCast_mul n z := rfl
  neg_add_cancel z := ext (by simp only [add_x, neg_x, zero_x]; omega) (by simp only [add_y, neg_y, zero_y]; omega)
  sub_eq_add_neg z w := ext (by simp only [add_x, neg_x, sub_x]; omega) (by simp only [add_y, neg_y, sub_y]; omega)
  neg_zsmul i z := ext (by show (-i) * z.x - 0 * z.y = -(i * z.x - 0 * z.y); grind) (by show (-i) * z.y + 0 * z.x = -(i * z.y + 0 * z.x); grind)
  zsmul_natCast_eq_nsmul n z := rfl
  intCast_ofNat n := rfl
  intCast_neg i := ext rfl (by show (0 : Int) = -0; rfl)
  mul_comm z w := ext (by simp only [mul_x]; grind) (by simp only [mul_y]; grind)
/-- the norm -/
def n (z : Z2) : Int := z.x * z.x + z.y * z.y
theorem sq0 (a : Int) : 0 ≤ a * a := by
  rcases Int.le_total 0 a with z | z
  · exact Int.mul_nonneg z z
  · exact Int.mul_nonneg_of_nonpos_of_nonpos z z
theorem n0 (z : Z2) : 0 ≤ z.n := by have := sq0 z.x; have := sq0 z.y; unfold n; omega
theorem n_zero {z : Z2} (h : z.n = 0) : z = 0 := by
  have h1 := sq0 z.x
  have h2 := sq0 z.y
  unfold n at h
  have a : z.x * z.x = 0 := by omega
  have b : z.y * z.y = 0 := by omega
  exact ext (by rcases Int.mul_eq_zero.mp a with h | h <;> exact h) (by rcases Int.mul_eq_zero.mp b with h | h <;> exact h)
theorem n_pos {z : Z2} (h : z ≠ 0) : 0 < z.n := by
  have := n0 z
  have : z.n ≠ 0 := fun e => h (n_zero e)
  omega
theorem n_mul (z w : Z2) : (z * w).n = z.n * w.n := by
  show (z.x * w.x - z.y * w.y) * (z.x * w.x - z.y * w.y) + (z.x * w.y + z.y * w.x) * (z.x * w.y + z.y * w.x) = (z.x * z.x + z.y * z.y) * (w.x * w.x + w.y * w.y)
  grind
theorem mul_zero' {z w : Z2} (h : z * w = 0) : z = 0 ∨ w = 0 := by
  have h1 := n_mul z w
  rw [h] at h1
  have h2 : z.n * w.n = 0 := h1.symm
  rcases Int.mul_eq_zero.mp h2 with h | h
  · exact .inl (n_zero h)
  · exact .inr (n_zero h)
theorem cancel {z w v : Z2} (h : v ≠ 0) (e : z * v = w * v) : z = w := by
  have : (z - w) * v = 0 := by grind
  rcases mul_zero' this with h1 | h1
  · grind
  · exact absurd h1 h
/-- 2 N(u + v) ≤ 6 N(u) + 3 N(v) -/
theorem n_add (u v : Z2) : 2 * (u + v).n ≤ 6 * u.n + 3 * v.n := by
  have h1 := sq0 (2 * u.x - v.x)
  have h2 := sq0 (2 * u.y - v.y)
  have e : 6 * u.n + 3 * v.n - 2 * (u + v).n = (2 * u.x - v.x) * (2 * u.x - v.x) + (2 * u.y - v.y) * (2 * u.y - v.y) := by
    show 6 * (u.x * u.x + u.y * u.y) + 3 * (v.x * v.x + v.y * v.y) - 2 * ((u.x + v.x) * (u.x + v.x) + (u.y + v.y) * (u.y + v.y)) = _
    grind
  omega
theorem n_neg (u : Z2) : (-u).n = u.n := by
  show -u.x * -u.x + -u.y * -u.y = u.x * u.x + u.y * u.y
  grind
/-- the rest by a nearest quotient -/
def nq (a b : Z2) : Z2 := ⟨(2 * (a.x * b.x + a.y * b.y) + b.n).fdiv (2 * b.n), (2 * (a.y * b.x - a.x * b.y) + b.n).fdiv (2 * b.n)⟩
theorem near {x m : Int} (h : 0 < m) : 4 * ((x - (2 * x + m).fdiv (2 * m) * m) * (x - (2 * x + m).fdiv (2 * m) * m)) ≤ m * m := by
  have h1 := Int.mul_fdiv_add_fmod (2 * x + m) (2 * m)
  have h2 := Int.fmod_nonneg_of_pos (2 * x + m) (show 0 < 2 * m by omega)
  have h3 := Int.fmod_lt_of_pos (2 * x + m) (show 0 < 2 * m by omega)
  generalize (2 * x + m).fdiv (2 * m) = q at *
  generalize (2 * x + m).fmod (2 * m) = r at *
  have e : 2 * (x - q * m) = r - m := by grind
  generalize x - q * m = d at e ⊢
  have hd : 0 ≤ (m - 2 * d) * (m + 2 * d) := Int.mul_nonneg (by omega) (by omega)
  have : (m - 2 * d) * (m + 2 * d) = m * m - 4 * (d * d) := by grind
  omega
theorem nq_rest (a : Z2) {b : Z2} (h : b ≠ 0) : 2 * (a - nq a b * b).n ≤ b.n := by
  have hp := n_pos h
  have h1 := near (x := a.x * b.x + a.y * b.y) hp
  have h2 := near (x := a.y * b.x - a.x * b.y) hp
  have e : (a - nq a b * b).n * b.n = (a.x * b.x + a.y * b.y - (nq a b).x * b.n) * (a.x * b.x + a.y * b.y - (nq a b).x * b.n) + (a.y * b.x - a.x * b.y - (nq a b).y * b.n) * (a.y * b.x - a.x * b.y - (nq a b).y * b.n) := by
    generalize nq a b = q
    show ((a.x - (q.x * b.x - q.y * b.y)) * (a.x - (q.x * b.x - q.y * b.y)) + (a.y - (q.x * b.y + q.y * b.x)) * (a.y - (q.x * b.y + q.y * b.x))) * b.n = _
    unfold n
    grind
  have h1' : 4 * ((a.x * b.x + a.y * b.y - (nq a b).x * b.n) * (a.x * b.x + a.y * b.y - (nq a b).x * b.n)) ≤ b.n * b.n := h1
  have h2' : 4 * ((a.y * b.x - a.x * b.y - (nq a b).y * b.n) * (a.y * b.x - a.x * b.y - (nq a b).y * b.n)) ≤ b.n * b.n := h2
  have h3 : 2 * (a - nq a b * b).n * b.n ≤ b.n * b.n := by
    have : 2 * (a - nq a b * b).n * b.n = 2 * ((a - nq a b * b).n * b.n) := by grind
    omega
  exact Int.le_of_mul_le_mul_right h3 hp
/-- the sizes of the factors stay: the step -/
theorem grow {r1 r2 o l1 l2 : Z2} (h0 : r1 ≠ 0) (hr : 2 * r2.n ≤ r1.n) (hl : l1.n ≤ 16 * o.n) (e : r1 * l2 = o + r2 * l1) : l2.n ≤ 16 * o.n := by
  have hp := n_pos h0
  have ho := n0 o
  have h1 := n_add o (r2 * l1)
  rw [← e, n_mul, n_mul] at h1
  have h2 : r2.n * l1.n ≤ r2.n * (16 * o.n) := Int.mul_le_mul_of_nonneg_left hl (n0 r2)
  have h3 : 2 * r2.n * (16 * o.n) ≤ r1.n * (16 * o.n) := Int.mul_le_mul_of_nonneg_right hr (by omega)
  have h4 : o.n ≤ r1.n * o.n := by
    have := Int.mul_le_mul_of_nonneg_right (show 1 ≤ r1.n by omega) ho
    omega
  have h5 : r1.n * l2.n ≤ r1.n * (16 * o.n) := by
    have e1 : 2 * r2.n * (16 * o.n) = 2 * (r2.n * (16 * o.n)) := by grind
    have e2 : r1.n * (16 * o.n) = 16 * (r1.n * o.n) := by grind
    omega
  exact Int.le_of_mul_le_mul_left h5 hp
/-- the state of the great loop: two rests with their factors -/
structure St (a b r0 l0 m0 r1 l1 m1 : Z2) : Prop where
  here : r0 = a * l0 + b * m0
  later : r1 = a * l1 + b * m1
  back : ∃ u v : Z2, a = r0 * u + r1 * v ∧ ∃ u' v' : Z2, b = r0 * u' + r1 * v'
  det : (r0 * l1 - r1 * l0 = b ∧ r0 * m1 - r1 * m0 = -a) ∨ (r0 * l1 - r1 * l0 = -b ∧ r0 * m1 - r1 * m0 = a)
  lb : (l0.n ≤ 16 * b.n ∧ l1.n ≤ 16 * b.n ∧ m0.n ≤ 16 * a.n ∧ m1.n ≤ 16 * a.n)
theorem St.init {a b : Z2} (ha : a ≠ 0) (hb : b ≠ 0) : St a b a 1 0 b 0 1 := by
  have h1 := n_pos ha
  have h2 := n_pos hb
  have e1 : (1 : Z2).n = 1 := rfl
  have e0 : (0 : Z2).n = 0 := rfl
  exact ⟨by grind, by grind, ⟨1, 0, by grind, 0, 1, by grind⟩, .inr ⟨by grind, by grind⟩, by omega, by omega, by omega, by omega⟩
theorem St.step {a b r0 l0 m0 r1 l1 m1 q : Z2} (h : St a b r0 l0 m0 r1 l1 m1) (h0 : r1 ≠ 0) (hq : 2 * (r0 - q * r1).n ≤ r1.n) : St a b r1 l1 m1 (r0 - q * r1) (l0 - q * l1) (m0 - q * m1) := by
  obtain ⟨h1, h2, ⟨u, v, e1, u', v', e2⟩, h4, h5, h6, h7, h8⟩ := h
  have hdet : (r1 * (l0 - q * l1) - (r0 - q * r1) * l1 = b ∧ r1 * (m0 - q * m1) - (r0 - q * r1) * m1 = -a) ∨ (r1 * (l0 - q * l1) - (r0 - q * r1) * l1 = -b ∧ r1 * (m0 - q * m1) - (r0 - q * r1) * m1 = a) := by
    rcases h4 with ⟨d1, d2⟩ | ⟨d1, d2⟩
    · exact .inr ⟨by grind, by grind⟩
    · exact .inl ⟨by grind, by grind⟩
  refine ⟨h2, by grind, ⟨q * u + v, u, by grind, q * u' + v', u', by grind⟩, hdet, h6, ?_, h8, ?_⟩
  · rcases hdet with ⟨d1, d2⟩ | ⟨d1, d2⟩
    · exact grow (l1 := l1) h0 hq h6 (by grind)
    · have := grow (o := -b) (l1 := l1) h0 hq (by rw [n_neg]; exact h6) (l2 := l0 - q * l1) (by grind)
      rwa [n_neg] at this
  · rcases hdet with ⟨d1, d2⟩ | ⟨d1, d2⟩
    · have := grow (o := -a) (l1 := m1) h0 hq (by rw [n_neg]; exact h8) (l2 := m0 - q * m1) (by grind)
      rwa [n_neg] at this
    · exact grow (l1 := m1) h0 hq h8 (by grind)
theorem comp_lt {z : Z2} {k : Nat} {B : Int} (h : z.n ≤ B) (hB : B ≤ (2 ^ k) * (2 ^ k)) (hk : 1 ≤ k) : z.x.natAbs ≤ 2 ^ k ∧ z.y.natAbs ≤ 2 ^ k := by
  have h1 := sq0 z.x
  have h2 := sq0 z.y
  unfold n at h
  have key : ∀ a : Int, a * a ≤ (2 ^ k) * (2 ^ k) → a.natAbs ≤ 2 ^ k := fun a ha => by
    have e : ((a.natAbs * a.natAbs : Nat) : Int) = a * a := Int.natAbs_mul_self
    have h3 : a.natAbs * a.natAbs ≤ 2 ^ k * 2 ^ k := by
      have : ((a.natAbs * a.natAbs : Nat) : Int) ≤ ((2 ^ k * 2 ^ k : Nat) : Int) := by
        rw [e]; simpa using ha
      exact_mod_cast this
    exact Nat.mul_self_le_mul_self_iff.mp h3
  exact ⟨key _ (by omega), key _ (by omega)⟩
end Z2
def pr (z : Z2) : D := .tup [.int z.x, .int z.y]
end Sn
/-! Sn, part Zc: whole places, quarter turns, common steps, forms. -/
namespace Sn
open PySem
def gw (w : Z2) : G := gz w.x w.y 1
theorem gw_add (u v : Z2) : gw (u + v) = gw u + gw v := by
  unfold gw
  rw [gz_add (by decide) (by decide)]
  show gz (u.x + v.x) (u.y + v.y) 1 = _
  congr 1 <;> omega
theorem gw_mul (u v : Z2) : gw (u * v) = gw u * gw v := by
  unfold gw
  rw [gz_mul (by decide) (by decide)]
  rfl
theorem gw_neg (u : Z2) : gw (-u) = -gw u := by
  unfold gw
  rw [gz_neg]
  rfl
theorem gw_sub (u v : Z2) : gw (u - v) = gw u - gw v := by
  have e : u - v = u + -v := by grind
  rw [e, gw_add, gw_neg]; grind
theorem gw0 : gw 0 = 0 := gz0
theorem gw1 : gw 1 = 1 := gz1
theorem gw_inj {u v : Z2} (h : gw u = gw v) : u = v := by
  obtain ⟨h1, h2⟩ := gz_inj (by decide) (by decide) h
  exact Z2.ext (by omega) (by omega)
theorem gw_ne {u : Z2} (h : u ≠ 0) : gw u ≠ 0 := fun e => h (gw_inj (e.trans gw0.symm))
/-- whole places -/
def Zi (z : G) : Prop := ∃ w : Z2, z = gw w
theorem Zi.add {z w : G} (h : Zi z) (g : Zi w) : Zi (z + w) := by
  obtain ⟨u, rfl⟩ := h; obtain ⟨v, rfl⟩ := g; exact ⟨u + v, (gw_add u v).symm⟩
theorem Zi.mul {z w : G} (h : Zi z) (g : Zi w) : Zi (z * w) := by
  obtain ⟨u, rfl⟩ := h; obtain ⟨v, rfl⟩ := g; exact ⟨u * v, (gw_mul u v).symm⟩
theorem Zi.neg {z : G} (h : Zi z) : Zi (-z) := by
  obtain ⟨u, rfl⟩ := h; exact ⟨-u, (gw_neg u).symm⟩
theorem Zi.sub {z w : G} (h : Zi z) (g : Zi w) : Zi (z - w) := by
  obtain ⟨u, rfl⟩ := h; obtain ⟨v, rfl⟩ := g; exact ⟨u - v, (gw_sub u v).symm⟩
theorem Zi.zero : Zi 0 := ⟨0, gw0.symm⟩
theorem Zi.one : Zi 1 := ⟨1, gw1.symm⟩
theorem Zi.gw (u : Z2) : Zi (gw u) := ⟨u, rfl⟩
theorem gw_i : Sn.gw ⟨0, 1⟩ = gi := gz_gi
theorem Zi.gi : Zi gi := ⟨⟨0, 1⟩, gw_i.symm⟩
theorem norm_w (u : Z2) : Norm u.x u.y 1 := ⟨by decide, by unfold g3; rw [Int.gcd_one_right]⟩
theorem gp_one {z : G} : gp z = 1 ↔ Zi z := by
  constructor
  · intro h
    have e := gz_out z
    rw [h] at e
    exact ⟨⟨gx z, gy z⟩, e.symm⟩
  · rintro ⟨u, rfl⟩
    exact (gz_is (norm_w u)).2.2
theorem gw_parts (u : Z2) : gx (gw u) = u.x ∧ gy (gw u) = u.y ∧ gp (gw u) = 1 := gz_is (norm_w u)
/-! ### units -/
def Un (e : G) : Prop := e = 1 ∨ e = gi ∨ e = -1 ∨ e = -gi
theorem Un.zi {e : G} (h : Un e) : Zi e := by
  rcases h with rfl | rfl | rfl | rfl
  · exact .one
  · exact .gi
  · exact .neg .one
  · exact .neg .gi
theorem gi_ne : gi ≠ 0 := fun h => by
  have := gi_sq
  rw [h] at this
  have h2 : (0 : G) * 0 = 0 := by grind
  rw [h2] at this
  have h3 := congrArg G.re this
  have h4 : (0 : Rat) = -1 := h3
  grind
theorem one_ne : (1 : G) ≠ 0 := fun h => Lean.Grind.Field.zero_ne_one h.symm
theorem Un.ne {e : G} (h : Un e) : e ≠ 0 := by
  have h1 := gi_ne
  have h2 := one_ne
  rcases h with rfl | rfl | rfl | rfl
  · exact h2
  · exact h1
  · grind
  · grind
theorem Un.inv {e : G} (h : Un e) : Un (1 / e) := by
  have h1 := gi_ne
  have h2 := gi_sq
  have h3 := one_ne
  rcases h with rfl | rfl | rfl | rfl
  · exact .inl (by grind)
  · exact .inr (.inr (.inr (by grind)))
  · exact .inr (.inr (.inl (by grind)))
  · exact .inr (.inl (by grind))
theorem Un.mul {e f : G} (h : Un e) (g : Un f) : Un (e * f) := by
  have h2 := gi_sq
  rcases h with rfl | rfl | rfl | rfl <;> rcases g with rfl | rfl | rfl | rfl
  · exact .inl (by grind)
  · exact .inr (.inl (by grind))
  · exact .inr (.inr (.inl (by grind)))
  · exact .inr (.inr (.inr (by grind)))
  · exact .inr (.inl (by grind))
  · exact .inr (.inr (.inl (by grind)))
  · exact .inr (.inr (.inr (by grind)))
  · exact .inl (by grind)
  · exact .inr (.inr (.inl (by grind)))
  · exact .inr (.inr (.inr (by grind)))
  · exact .inl (by grind)
  · exact .inr (.inl (by grind))
  · exact .inr (.inr (.inr (by grind)))
  · exact .inl (by grind)
  · exact .inr (.inl (by grind))
  · exact .inr (.inr (.inl (by grind)))
/-- a whole place with a whole inverse is a unit -/
theorem un_of {e : G} (h : Zi e) (h0 : e ≠ 0) (g : Zi (1 / e)) : Un e := by
  obtain ⟨u, rfl⟩ := h
  obtain ⟨v, hv⟩ := g
  have e1 : gw u * gw v = 1 := by rw [← hv]; grind
  rw [← gw_mul, ← gw1] at e1
  have e2 := gw_inj e1
  have e3 : u.n * v.n = 1 := by rw [← Z2.n_mul, e2]; rfl
  have e4 : u.n = 1 := by
    have h1 := Z2.n0 u
    have h2 := Z2.n0 v
    have h3 : u.n ∣ 1 := ⟨v.n, e3.symm⟩
    have := Int.le_of_dvd (by decide) h3
    have : u.n ≠ 0 := fun z => by rw [z] at e3; simp at e3
    omega
  have hx := Z2.sq0 u.x
  have hy := Z2.sq0 u.y
  have key : ∀ a : Int, a * a ≤ 1 → a = 0 ∨ a = 1 ∨ a = -1 := fun a ha => by
    rcases Int.lt_trichotomy a 0 with h | h | h
    · by_cases h2 : a ≤ -2
      · have : 4 ≤ a * a := by
          have : 0 ≤ (-a - 2) * (-a + 2) := Int.mul_nonneg (by omega) (by omega)
          grind
        omega
      · omega
    · exact .inl h
    · by_cases h2 : 2 ≤ a
      · have : 4 ≤ a * a := by
          have : 0 ≤ (a - 2) * (a + 2) := Int.mul_nonneg (by omega) (by omega)
          grind
        omega
      · omega
  have hn : u.x * u.x + u.y * u.y = 1 := e4
  obtain ⟨a, b⟩ := u
  simp only at hx hy hn
  rcases key a (by omega) with rfl | rfl | rfl <;> rcases key b (by omega) with rfl | rfl | rfl
  · simp at hn
  · exact .inr (.inl gw_i)
  · refine .inr (.inr (.inr ?_))
    rw [← gw_i, ← gw_neg]; rfl
  · exact .inl gw1
  · simp at hn
  · simp at hn
  · refine .inr (.inr (.inl ?_))
    rw [← gw1, ← gw_neg]; rfl
  · simp at hn
  · simp at hn
/-! ### the quarter turn to the right -/
def Q1 (z : G) : Prop := 0 < gx z ∧ 0 ≤ gy z
open Classical in
noncomputable def qt (z : G) : G := if Q1 z then z else if Q1 (gi * z) then gi * z else if Q1 (-z) then -z else -(gi * z)
theorem qt_un (z : G) : ∃ e, Un e ∧ qt z = e * z := by
  unfold qt
  split
  · exact ⟨1, .inl rfl, by grind⟩
  · split
    · exact ⟨gi, .inr (.inl rfl), rfl⟩
    · split
      · exact ⟨-1, .inr (.inr (.inl rfl)), by grind⟩
      · exact ⟨-gi, .inr (.inr (.inr rfl)), by grind⟩
theorem nz_parts {z : G} (h : z ≠ 0) : ¬ (gx z = 0 ∧ gy z = 0) := fun ⟨h1, h2⟩ => h (by rw [← gz_out z, h1, h2]; exact (gz_zero (gp_ne z)).mpr ⟨rfl, rfl⟩)
theorem qt_q1 {z : G} (h : z ≠ 0) : Q1 (qt z) := by
  have h0 := nz_parts h
  obtain ⟨a1, a2, _⟩ := gi_parts z
  obtain ⟨b1, b2, _⟩ := neg_parts z
  obtain ⟨c1, c2, _⟩ := neg_parts (gi * z)
  unfold qt
  split
  · assumption
  · rename_i n1
    split
    · assumption
    · rename_i n2
      split
      · assumption
      · rename_i n3
        unfold Q1 at *
        rw [a1, a2] at n2
        rw [b1, b2] at n3
        rw [c1, c2, a1, a2]
        omega
theorem q1_un {z e : G} (h : Q1 z) (hu : Un e) (g : Q1 (e * z)) : e = 1 := by
  obtain ⟨a1, a2, _⟩ := gi_parts z
  obtain ⟨b1, b2, _⟩ := neg_parts z
  obtain ⟨c1, c2, _⟩ := neg_parts (gi * z)
  unfold Q1 at h g
  rcases hu with rfl | rfl | rfl | rfl
  · rfl
  · rw [a1, a2] at g; omega
  · have e : -1 * z = -z := by grind
    rw [e, b1, b2] at g; omega
  · have e : -gi * z = -(gi * z) := by grind
    rw [e, c1, c2, a1, a2] at g; omega
theorem Q1.ne {z : G} (h : Q1 z) : z ≠ 0 := fun e => by
  have h1 : gx z = 0 := by
    rw [e, ← gz0]
    exact (gz_is ⟨by decide, by decide⟩).1
  unfold Q1 at h; omega
theorem qt_ne {z : G} (h : z ≠ 0) : qt z ≠ 0 := (qt_q1 h).ne
theorem qt_of_q1 {z : G} (h : Q1 z) : qt z = z := by unfold qt; rw [if_pos h]
theorem qt_is {z e : G} (hu : Un e) (h : Q1 (e * z)) : qt z = e * z := by
  have hz : z ≠ 0 := fun h0 => by
    have := h.ne
    rw [h0] at this
    exact this (by grind)
  obtain ⟨f, hf, e1⟩ := qt_un z
  have h2 := qt_q1 hz
  have e2 : qt z = (f * (1 / e)) * (e * z) := by
    have := hu.ne
    rw [e1]; grind
  rw [e2] at h2
  have := q1_un h (hf.mul hu.inv) h2
  rw [e2, this]; grind
theorem qt_mul {z e : G} (hz : z ≠ 0) (hu : Un e) : qt (e * z) = qt z := by
  obtain ⟨f, hf, e1⟩ := qt_un z
  have h2 := qt_q1 hz
  have he := hu.ne
  have e2 : qt z = (f * (1 / e)) * (e * z) := by rw [e1]; grind
  rw [e2] at h2 ⊢
  exact qt_is (hf.mul hu.inv) h2
theorem qt_qt {z : G} (hz : z ≠ 0) : qt (qt z) = qt z := qt_of_q1 (qt_q1 hz)
instance Hz.qtz {z : G} {k : Nat} [h : Hz z k] : Hz (qt z) k := by
  have h1 : Hz (gi * z) k := by
    obtain ⟨a1, a2, a3⟩ := gi_parts z
    obtain ⟨h1, h2, h3⟩ := h.all
    rw [← gz_out (gi * z), a1, a2, a3]
    exact Hz.of (gp_ne z) (by omega) h1 h3
  unfold Sn.qt
  split
  · exact h
  · split
    · exact h1
    · split
      · exact inferInstance
      · exact Hz.neg
theorem un_nrm {e : G} (h : Un e) : e.nrm = 1 := by
  rcases h with rfl | rfl | rfl | rfl
  · show (1 : Rat) * 1 + 0 * 0 = 1; grind
  · show (0 : Rat) * 0 + 1 * 1 = 1; grind
  · show (-1 : Rat) * -1 + -0 * -0 = 1; grind
  · show (-0 : Rat) * -0 + -1 * -1 = 1; grind
theorem qt_nrm (z : G) : (qt z).nrm = z.nrm := by
  obtain ⟨e, hu, h⟩ := qt_un z
  rw [h, G.nrm_mul, un_nrm hu]; grind
/-! ### common steps -/
structure IsCm (c s t : G) : Prop where
  ne : c ≠ 0
  one : Zi (s / c)
  two : Zi (t / c)
  back : ∃ l m : Z2, c = s * gw l + t * gw m
theorem IsCm.un {c c' s t : G} (h : IsCm c s t) (g : IsCm c' s t) : Un (c' / c) := by
  obtain ⟨n1, a1, b1, l1, m1, e1⟩ := h
  obtain ⟨n2, a2, b2, l2, m2, e2⟩ := g
  refine un_of ?_ (by grind) ?_
  · have e : c' / c = (s / c) * gw l2 + (t / c) * gw m2 := by rw [e2]; grind
    rw [e]
    exact (a1.mul (.gw _)).add (b1.mul (.gw _))
  · have e : 1 / (c' / c) = (s / c') * gw l1 + (t / c') * gw m1 := by
      have e3 : 1 / (c' / c) = c / c' := by grind
      rw [e3]
      have e4 : c / c' = (s * gw l1 + t * gw m1) / c' := by rw [← e1]
      rw [e4]; grind
    rw [e]
    exact (a2.mul (.gw _)).add (b2.mul (.gw _))
theorem IsCm.mul_un {c s t e : G} (h : IsCm c s t) (hu : Un e) : IsCm (e * c) s t := by
  obtain ⟨n1, a1, b1, l1, m1, e1⟩ := h
  have he := hu.ne
  obtain ⟨v, hv⟩ := hu.zi
  refine ⟨by grind, ?_, ?_, v * l1, v * m1, ?_⟩
  · have e2 : s / (e * c) = (1 / e) * (s / c) := by grind
    rw [e2]; exact hu.inv.zi.mul a1
  · have e2 : t / (e * c) = (1 / e) * (t / c) := by grind
    rw [e2]; exact hu.inv.zi.mul b1
  · rw [gw_mul, gw_mul, ← hv]
    have e3 : e * c = e * (s * gw l1 + t * gw m1) := by rw [← e1]
    rw [e3]; grind
theorem IsCm.qt_eq {c c' s t : G} (h : IsCm c s t) (g : IsCm c' s t) : qt c' = qt c := by
  have hu := h.un g
  have e : c' = (c' / c) * c := by have := h.ne; grind
  rw [e, qt_mul h.ne hu]
theorem IsCm.symm {c s t : G} (h : IsCm c s t) : IsCm c t s := by
  obtain ⟨n1, a1, b1, l1, m1, e1⟩ := h
  exact ⟨n1, b1, a1, m1, l1, by rw [e1]; grind⟩
open Classical in
noncomputable def cm (s t : G) : G := if h : ∃ c, IsCm c s t then qt (choose h) else 0
theorem IsCm.cm_eq {c s t : G} (h : IsCm c s t) : cm s t = qt c := by
  unfold cm
  have h' : ∃ c, IsCm c s t := ⟨c, h⟩
  rw [dif_pos h']
  exact h.qt_eq (Classical.choose_spec h')
theorem IsCm.cm {c s t : G} (h : IsCm c s t) : IsCm (cm s t) s t := by
  rw [h.cm_eq]
  obtain ⟨e, hu, he⟩ := qt_un c
  rw [he]
  exact h.mul_un hu
end Sn
/-! Sn, part Zd: common steps are there; forms; meetings. -/
namespace Sn
open PySem
theorem gz_over {a b p : Int} (h : p ≠ 0) : gz a b p = gw ⟨a, b⟩ / gz p 0 1 := by
  unfold gw
  have h1 : gz p 0 1 ≠ 0 := fun e => h ((gz_zero (by decide)).mp e).1
  have h2 : gz a b p * gz p 0 1 = gz a b 1 := by
    rw [gz_mul h (by decide)]
    exact gz_eq (by omega) (by decide) (by grind) (by grind)
  show _ = gz a b 1 / _
  rw [← h2]; grind
theorem gzp_ne {p : Int} (h : p ≠ 0) : gz p 0 1 ≠ 0 := fun e => h ((gz_zero (by decide)).mp e).1
/-- two steps over one bottom -/
noncomputable def za (s t : G) : Z2 := ⟨gx s * gp t, gy s * gp t⟩
noncomputable def zb (s t : G) : Z2 := ⟨gx t * gp s, gy t * gp s⟩
noncomputable def zp (s t : G) : G := gz (gp s * gp t) 0 1
theorem zp_ne (s t : G) : zp s t ≠ 0 := gzp_ne (Int.mul_ne_zero (gp_ne s) (gp_ne t))
theorem za_eq (s t : G) : s = gw (za s t) / zp s t := by
  have h := gz_over (a := gx s * gp t) (b := gy s * gp t) (Int.mul_ne_zero (gp_ne s) (gp_ne t))
  refine Eq.trans ?_ h
  have e := gz_out s
  have : gz (gx s * gp t) (gy s * gp t) (gp s * gp t) = gz (gx s) (gy s) (gp s) := gz_eq (Int.mul_ne_zero (gp_ne s) (gp_ne t)) (gp_ne s) (by grind) (by grind)
  rw [this, e]
theorem zb_eq (s t : G) : t = gw (zb s t) / zp s t := by
  have h := gz_over (a := gx t * gp s) (b := gy t * gp s) (Int.mul_ne_zero (gp_ne s) (gp_ne t))
  refine Eq.trans ?_ h
  have e := gz_out t
  have : gz (gx t * gp s) (gy t * gp s) (gp s * gp t) = gz (gx t) (gy t) (gp t) := gz_eq (Int.mul_ne_zero (gp_ne s) (gp_ne t)) (gp_ne t) (by grind) (by grind)
  rw [this, e]
theorem za_ne {s t : G} (h : s ≠ 0) : za s t ≠ 0 := fun e => h (by
  have := za_eq s t
  rw [e, gw0] at this
  rw [this]; grind)
theorem zb_ne {s t : G} (h : t ≠ 0) : zb s t ≠ 0 := fun e => h (by
  have := zb_eq s t
  rw [e, gw0] at this
  rw [this]; grind)
theorem iscm_of {s t : G} {g l m u v : Z2} (h0 : g ≠ 0) (e : g = za s t * l + zb s t * m) (e1 : za s t = g * u) (e2 : zb s t = g * v) : IsCm (gw g / zp s t) s t ∧ gw g / zp s t = s * gw l + t * gw m := by
  have hp := zp_ne s t
  have hg := gw_ne h0
  have a1 := za_eq s t
  have a2 := zb_eq s t
  have e3 : gw g / zp s t = s * gw l + t * gw m := by
    have : gw g = gw (za s t) * gw l + gw (zb s t) * gw m := by rw [← gw_mul, ← gw_mul, ← gw_add, ← e]
    grind
  refine ⟨⟨by grind, ⟨u, ?_⟩, ⟨v, ?_⟩, l, m, e3⟩, e3⟩
  · have : gw (za s t) = gw g * gw u := by rw [← gw_mul, ← e1]
    grind
  · have : gw (zb s t) = gw g * gw v := by rw [← gw_mul, ← e2]
    grind
theorem gcd_ex : ∀ (m : Nat) (a b : Z2), b.n < m → ∃ g l k u v : Z2, g = a * l + b * k ∧ a = g * u ∧ b = g * v
  | 0, _, b, h => by have := Z2.n0 b; omega
  | m + 1, a, b, h => by
    by_cases hb : b = 0
    · subst hb
      exact ⟨a, 1, 0, 1, 0, by grind, by grind, by grind⟩
    · have h1 := Z2.nq_rest a hb
      have h2 := Z2.n_pos hb
      obtain ⟨g, l, k, u, v, e1, e2, e3⟩ := gcd_ex m b (a - Z2.nq a b * b) (by omega)
      exact ⟨g, k, l - Z2.nq a b * k, v + Z2.nq a b * u, u, by grind, by grind, by grind⟩
theorem cm_ex {s t : G} (h : s ≠ 0) : IsCm (cm s t) s t := by
  obtain ⟨g, l, k, u, v, e1, e2, e3⟩ := gcd_ex ((zb s t).n.toNat + 1) (za s t) (zb s t) (by have := Z2.n0 (zb s t); omega)
  have hg : g ≠ 0 := fun e => za_ne (t := t) h (by rw [e2, e]; grind)
  exact (iscm_of hg e1 e2 e3).1.cm
theorem cm_ne {s t : G} (h : s ≠ 0) : cm s t ≠ 0 := (cm_ex h).ne
theorem cm_qt {s t : G} (h : s ≠ 0) : qt (cm s t) = cm s t := by
  have h1 := (cm_ex (t := t) h)
  exact h1.cm_eq.symm
theorem cm_comm {s t : G} (h : s ≠ 0) : cm s t = cm t s := by
  have h1 := cm_ex (t := t) h
  rw [h1.symm.cm_eq, cm_qt h]
theorem dvd_n {g u a : Z2} (h : a ≠ 0) (e : a = g * u) : g.n ≤ a.n := by
  have h1 := Z2.n_mul g u
  rw [← e] at h1
  have h2 := Z2.n_pos h
  have h3 : g.n ∣ a.n := ⟨u.n, h1⟩
  exact Int.le_of_dvd h2 h3
theorem z2_lt {z : Z2} {k : Nat} {B : Int} (h : z.n ≤ B) (hB : B < (2 ^ k) * (2 ^ k)) : z.x.natAbs < 2 ^ k ∧ z.y.natAbs < 2 ^ k := by
  have h1 := Z2.sq0 z.x
  have h2 := Z2.sq0 z.y
  unfold Z2.n at h
  have key : ∀ a : Int, a * a < (2 ^ k) * (2 ^ k) → a.natAbs < 2 ^ k := fun a ha => by
    have e : ((a.natAbs * a.natAbs : Nat) : Int) = a * a := Int.natAbs_mul_self
    have h3 : a.natAbs * a.natAbs < 2 ^ k * 2 ^ k := by
      have : ((a.natAbs * a.natAbs : Nat) : Int) < ((2 ^ k * 2 ^ k : Nat) : Int) := by
        rw [e]; simpa using ha
      exact_mod_cast this
    exact Nat.mul_self_lt_mul_self_iff.mp h3
  exact ⟨key _ (by omega), key _ (by omega)⟩
theorem n_lt {z : Z2} {k : Nat} (h1 : z.x.natAbs < 2 ^ k) (h2 : z.y.natAbs < 2 ^ k) : z.n < 2 * ((2 ^ k) * (2 ^ k)) := by
  have key : ∀ a : Int, a.natAbs < 2 ^ k → a * a < (2 ^ k) * (2 ^ k) := fun a ha => by
    have e : ((a.natAbs * a.natAbs : Nat) : Int) = a * a := Int.natAbs_mul_self
    have h3 : a.natAbs * a.natAbs < 2 ^ k * 2 ^ k := Nat.mul_self_lt_mul_self_iff.mpr ha
    rw [← e]
    have : ((a.natAbs * a.natAbs : Nat) : Int) < ((2 ^ k * 2 ^ k : Nat) : Int) := by exact_mod_cast h3
    simpa using this
  have a1 := key _ h1
  have a2 := key _ h2
  unfold Z2.n
  omega
theorem n_lt' {z : Z2} {k : Nat} (h1 : z.x.natAbs < 2 ^ k) (h2 : z.y.natAbs < 2 ^ k) : z.n < (2 ^ (k + 1)) * (2 ^ (k + 1)) := by
  have := n_lt h1 h2
  have e : ((2 : Int) ^ (k + 1)) * (2 ^ (k + 1)) = 4 * ((2 ^ k) * (2 ^ k)) := by rw [Int.pow_succ]; grind
  have h0 : (0 : Int) ≤ (2 ^ k) * (2 ^ k) := Z2.sq0 _
  omega
theorem za_sz {s t : G} {j k : Nat} [hs : Hz s j] [ht : Hz t k] : (za s t).x.natAbs < 2 ^ (j + k) ∧ (za s t).y.natAbs < 2 ^ (j + k) := by
  obtain ⟨h1, h2, h3⟩ := hs.all
  obtain ⟨g1, g2, g3⟩ := ht.all
  exact ⟨natAbs_mul_lt h1 g3, natAbs_mul_lt h2 g3⟩
theorem zb_sz {s t : G} {j k : Nat} [hs : Hz s j] [ht : Hz t k] : (zb s t).x.natAbs < 2 ^ (j + k) ∧ (zb s t).y.natAbs < 2 ^ (j + k) := by
  obtain ⟨h1, h2, h3⟩ := hs.all
  obtain ⟨g1, g2, g3⟩ := ht.all
  rw [Nat.add_comm]
  exact ⟨natAbs_mul_lt g1 h3, natAbs_mul_lt g2 h3⟩
theorem Hz.over {g : Z2} {s t : G} {j k : Nat} [hs : Hz s j] [ht : Hz t k] (h0 : s ≠ 0) {u : Z2} (e : za s t = g * u) : Hz (gw g / zp s t) (j + k + 1) := by
  have h1 := dvd_n (za_ne (t := t) h0) e
  obtain ⟨a1, a2⟩ := za_sz (s := s) (t := t)
  obtain ⟨b1, b2⟩ := z2_lt h1 (n_lt' a1 a2)
  obtain ⟨_, _, h3⟩ := hs.all
  obtain ⟨_, _, g3⟩ := ht.all
  have := gz_over (a := g.x) (b := g.y) (Int.mul_ne_zero (gp_ne s) (gp_ne t))
  show Hz (gw ⟨g.x, g.y⟩ / gz (gp s * gp t) 0 1) _
  rw [← this]
  exact Hz.of (Int.mul_ne_zero (gp_ne s) (gp_ne t)) b1 b2 (pow_up (natAbs_mul_lt h3 g3) (by omega))
theorem Hz.cmz {s t : G} {j k : Nat} [hs : Hz s j] [ht : Hz t k] (h : s ≠ 0) : Hz (cm s t) (j + k + 1) := by
  obtain ⟨g, l, m, u, v, e1, e2, e3⟩ := gcd_ex ((zb s t).n.toNat + 1) (za s t) (zb s t) (by have := Z2.n0 (zb s t); omega)
  have hg : g ≠ 0 := fun e => za_ne (t := t) h (by rw [e2, e]; grind)
  have h1 := (iscm_of hg e1 e2 e3).1
  rw [h1.cm_eq]
  have := Hz.over (s := s) (t := t) h e2
  exact inferInstance
/-- the joint step -/
noncomputable def jt (s t : G) : G := qt (s * t / cm s t)
theorem jt_of {c s t : G} (h : IsCm c s t) (hs : s ≠ 0) (ht : t ≠ 0) : qt (s * t / c) = jt s t := by
  unfold jt
  have h1 := cm_ex (t := t) hs
  have hu := h.un h1
  have h0 := h.ne
  have h2 := h1.ne
  have e : s * t / c = (cm s t / c) * (s * t / cm s t) := by grind
  rw [e, qt_mul (by grind) hu]
theorem jt_comm {s t : G} (hs : s ≠ 0) : jt s t = jt t s := by
  unfold jt
  rw [cm_comm hs]
  congr 2
  grind
theorem jt_ne {s t : G} (hs : s ≠ 0) (ht : t ≠ 0) : jt s t ≠ 0 := by
  have := cm_ne (t := t) hs
  exact qt_ne (by grind)
theorem jt_qt {s t : G} (hs : s ≠ 0) (ht : t ≠ 0) : qt (jt s t) = jt s t := by
  have := cm_ne (t := t) hs
  exact qt_qt (by grind)
theorem Hz.jtz {s t : G} {j k : Nat} [hs : Hz s j] [ht : Hz t k] (h1 : s ≠ 0) (h2 : t ≠ 0) : Hz (jt s t) (j + k + k + 1) := by
  obtain ⟨g, l, m, u, v, e1, e2, e3⟩ := gcd_ex ((zb s t).n.toNat + 1) (za s t) (zb s t) (by have := Z2.n0 (zb s t); omega)
  have hg : g ≠ 0 := fun e => za_ne (t := t) h1 (by rw [e2, e]; grind)
  have hc := (iscm_of hg e1 e2 e3).1
  rw [← jt_of hc h1 h2]
  have hgw := gw_ne hg
  have hp := zp_ne s t
  -- s * t / c = u * B / q
  have hq := gp_ne t
  have e4 : s * t / (gw g / zp s t) = gw (u * ⟨gx t, gy t⟩) / gz (gp t) 0 1 := by
    have a1 := za_eq s t
    have a2 : gw (za s t) = gw g * gw u := by rw [← gw_mul, ← e2]
    have a3 : t = gw ⟨gx t, gy t⟩ / gz (gp t) 0 1 := by rw [← gz_over hq, gz_out]
    have a4 := gzp_ne hq
    rw [gw_mul]
    have a5 : s * t / (gw g / zp s t) = gw u * t := by
      have : s = gw g * gw u / zp s t := by rw [← a2]; exact a1
      grind
    rw [a5]
    have : gw u * t = gw u * (gw ⟨gx t, gy t⟩ / gz (gp t) 0 1) := by rw [← a3]
    rw [this]; grind
  rw [e4]
  have hun : u.n ≤ (za s t).n := by
    refine dvd_n (u := g) (za_ne (t := t) h1) ?_
    rw [e2]; grind
  obtain ⟨b1, b2⟩ := za_sz (s := s) (t := t)
  obtain ⟨c1, c2, c3⟩ := ht.all
  have hB : (⟨gx t, gy t⟩ : Z2).n < 2 * ((2 ^ k) * (2 ^ k)) := n_lt c1 c2
  have hA := n_lt b1 b2
  have hn : (u * ⟨gx t, gy t⟩).n < (2 ^ (j + k + k + 1)) * (2 ^ (j + k + k + 1)) := by
    rw [Z2.n_mul]
    have k1 : u.n * (⟨gx t, gy t⟩ : Z2).n ≤ (2 * ((2 ^ (j + k)) * (2 ^ (j + k)))) * (⟨gx t, gy t⟩ : Z2).n := Int.mul_le_mul_of_nonneg_right (by omega) (Z2.n0 _)
    have k2 : (0 : Int) < 2 * ((2 ^ (j + k)) * (2 ^ (j + k))) := by
      have : (0 : Int) < 2 ^ (j + k) := Int.pow_pos (by decide)
      have := Int.mul_pos this this
      omega
    have k3 := Int.mul_lt_mul_of_pos_left hB k2
    have k4 : (2 * ((2 ^ (j + k)) * (2 ^ (j + k)))) * (2 * ((2 ^ k) * (2 ^ k))) = ((2 : Int) ^ (j + k + k + 1)) * (2 ^ (j + k + k + 1)) := by
      rw [Int.pow_succ, Int.pow_add 2 (j + k) k]; grind
    omega
  obtain ⟨d1, d2⟩ := z2_lt (Int.le_refl _) hn
  have hz : Hz (gw (u * ⟨gx t, gy t⟩) / gz (gp t) 0 1) (j + k + k + 1) := by
    show Hz (gw ⟨(u * ⟨gx t, gy t⟩).x, (u * ⟨gx t, gy t⟩).y⟩ / _) _
    rw [← gz_over hq]
    exact Hz.of hq d1 d2 (pow_up c3 (by omega))
  exact inferInstance

/-! ### forms -/
/-- the gap between rows, the width of a row -/
noncomputable def gq (s : G) : Rat := (((Int.gcd (gx s) (gy s) : Nat) : Int) : Rat) / (gp s : Rat)
noncomputable def wq (s : G) : Rat := s.nrm / gq s
structure InD (s b : G) : Prop where
  up0 : 0 ≤ b.im
  up1 : b.im < gq s
  rt0 : 0 ≤ b.re
  rt1 : b.re < wq s
theorem rat_lt {a b : Int} (h : (a : Rat) < (b : Rat)) : a < b := Rat.intCast_lt_intCast.mp h
theorem lt_rat {a b : Int} (h : a < b) : (a : Rat) < (b : Rat) := Rat.intCast_lt_intCast.mpr h
theorem le_rat {a b : Int} (h : a ≤ b) : (a : Rat) ≤ (b : Rat) := Rat.intCast_le_intCast.mpr h
theorem gcd_parts {x y : Int} (h : ¬ (x = 0 ∧ y = 0)) : ∃ g x' y' : Int, 0 < g ∧ g = ((Int.gcd x y : Nat) : Int) ∧ x = g * x' ∧ y = g * y' ∧ ∃ l r : Int, y * l + x * r = g := by
  have h0 : 0 < Int.gcd x y := by
    rcases Nat.eq_zero_or_pos (Int.gcd x y) with z | z
    · rw [Int.gcd_eq_zero_iff] at z
      exact absurd z h
    · exact z
  obtain ⟨x', hx⟩ := Int.gcd_dvd_left x y
  obtain ⟨y', hy⟩ := Int.gcd_dvd_right x y
  refine ⟨_, x', y', by omega, rfl, hx, hy, ?_⟩
  -- Bezout by the whole pairs' own gcd
  obtain ⟨g, l, k, u, v, e1, e2, e3⟩ : ∃ g l k u v : Int, g = x * l + y * k ∧ x = g * u ∧ y = g * v := by
    have key : ∀ (m : Nat) (a b : Int), b.natAbs < m → ∃ g l k u v : Int, g = a * l + b * k ∧ a = g * u ∧ b = g * v := by
      intro m
      induction m with
      | zero => intro a b h; omega
      | succ m ih =>
        intro a b h
        by_cases hb : b = 0
        · subst hb
          exact ⟨a, 1, 0, 1, 0, by grind, by grind, by grind⟩
        · have h1 := Int.emod_nonneg a hb
          have h2 := Int.emod_lt a hb
          have h3 := Int.mul_ediv_add_emod a b
          obtain ⟨g, l, k, u, v, e1, e2, e3⟩ := ih b (a % b) (by omega)
          exact ⟨g, k, l - a / b * k, v + a / b * u, u, by grind, by grind, by grind⟩
    exact key (y.natAbs + 1) x y (by omega)
  have d1 : g ∣ ((Int.gcd x y : Nat) : Int) := Int.dvd_coe_gcd ⟨u, e2⟩ ⟨v, e3⟩
  obtain ⟨w, hw⟩ := d1
  exact ⟨w * k, w * l, by grind⟩
/-- base of the form: what the program computes -/
theorem form_math {x y p g W l r bx by_ f k : Int} (hx : 0 < x) (hp : 0 < p) (hf : 0 < f) (hg : 0 < g) (h1 : y * l + x * r = g) (x' y' : Int) (ex : x = g * x') (ey : y = g * y') (hW : W * g = x * x + y * y)
    (q : Int) (hq : q = (by_ * p).fdiv (f * g)) (t : Int) (ht : t = (bx * p + -q * (x * l - y * r - k * W) * f).fdiv (W * f)) :
    0 ≤ by_ * p + -q * g * f ∧ by_ * p + -q * g * f < g * f ∧ 0 ≤ (bx * p + -q * (x * l - y * r - k * W) * f).fmod (W * f) ∧ (bx * p + -q * (x * l - y * r - k * W) * f).fmod (W * f) < W * f ∧
      gz ((bx * p + -q * (x * l - y * r - k * W) * f).fmod (W * f)) (by_ * p + -q * g * f) (f * p) - gz bx by_ f = gz x y p * gw ⟨-q * l + (q * k - t) * x', -q * r - (q * k - t) * y'⟩ := by
  have hfg : 0 < f * g := Int.mul_pos hf hg
  have hW0 : 0 < W := by
    have : 0 < x * x := Int.mul_pos hx hx
    have : 0 ≤ y * y := Z2.sq0 y
    exact Int.pos_of_mul_pos_left (show 0 < W * g by omega) hg
  have hWf : 0 < W * f := Int.mul_pos hW0 hf
  have a1 := Int.mul_fdiv_add_fmod (by_ * p) (f * g)
  have a2 := Int.fmod_nonneg_of_pos (by_ * p) hfg
  have a3 := Int.fmod_lt_of_pos (by_ * p) hfg
  rw [← hq] at a1
  have b1 := Int.mul_fdiv_add_fmod (bx * p + -q * (x * l - y * r - k * W) * f) (W * f)
  have b2 := Int.fmod_nonneg_of_pos (bx * p + -q * (x * l - y * r - k * W) * f) hWf
  have b3 := Int.fmod_lt_of_pos (bx * p + -q * (x * l - y * r - k * W) * f) hWf
  rw [← ht] at b1
  have e1 : by_ * p + -q * g * f = (by_ * p).fmod (f * g) := by grind
  refine ⟨by omega, by rw [e1]; have : g * f = f * g := Int.mul_comm .. ; omega, b2, b3, ?_⟩
  have c1 : (bx * p + -q * (x * l - y * r - k * W) * f).fmod (W * f) = bx * p + -q * (x * l - y * r - k * W) * f - W * f * t := by omega
  rw [c1]
  have e2 : gz (bx * p + -q * (x * l - y * r - k * W) * f - W * f * t) (by_ * p + -q * g * f) (f * p) - gz bx by_ f = gz (-q * (x * l - y * r - k * W) - W * t) (-q * g) p := by
    have : gz (bx * p + -q * (x * l - y * r - k * W) * f - W * f * t) (by_ * p + -q * g * f) (f * p) = gz bx by_ f + gz (-q * (x * l - y * r - k * W) - W * t) (-q * g) p := by
      rw [gz_add (by omega) (by omega)]
      congr 1 <;> grind
    rw [this]; grind
  rw [e2]
  unfold gw
  rw [gz_mul (by omega) (by decide)]
  have hW' : W = x * x' + y * y' := by
    have : W * g = (x * x' + y * y') * g := by rw [hW]; rw [ex, ey]; grind
    exact Int.eq_of_mul_eq_mul_right (by omega) this
  have k1 : -q * (x * l - y * r - k * W) - W * t = x * (-q * l + (q * k - t) * x') - y * (-q * r - (q * k - t) * y') := by rw [hW']; grind
  have k2 : -q * g = x * (-q * r - (q * k - t) * y') + y * (-q * l + (q * k - t) * x') := by
    have : x * y' = y * x' := by rw [ex, ey]; grind
    rw [← h1]; grind
  rw [k1, k2]
  congr 1 <;> grind
theorem wq_eq {s : G} {g W : Int} (hg : 0 < g) (e : g = ((Int.gcd (gx s) (gy s) : Nat) : Int)) (hW : W * g = gx s * gx s + gy s * gy s) : wq s = (W : Rat) / (gp s : Rat) := by
  unfold wq gq
  rw [← e, ← nf_nrm, ← hW, Rat.intCast_mul, Rat.intCast_mul]
  have h1 := rat_ne (show g ≠ 0 by omega)
  have h2 := rat_ne (gp_ne s)
  grind
theorem ind_of {s : G} {g W a b f : Int} (hg : 0 < g) (e : g = ((Int.gcd (gx s) (gy s) : Nat) : Int)) (hW : W * g = gx s * gx s + gy s * gy s) (hf : 0 < f) :
    InD s (gz a b (f * gp s)) ↔ 0 ≤ b ∧ b < g * f ∧ 0 ≤ a ∧ a < W * f := by
  have hp := gp_pos s
  have hfp : 0 < f * gp s := Int.mul_pos hf hp
  have hp' : (0 : Rat) < (gp s : Rat) := Rat.intCast_pos.mpr hp
  have hf' : (0 : Rat) < (f : Rat) := Rat.intCast_pos.mpr hf
  have hfp' : (0 : Rat) < ((f * gp s : Int) : Rat) := Rat.intCast_pos.mpr hfp
  have key0 : ∀ c : Int, 0 ≤ (c : Rat) / ((f * gp s : Int) : Rat) ↔ 0 ≤ c := fun c => by
    constructor
    · intro h
      have h1 := Rat.mul_nonneg h (Rat.le_of_lt hfp')
      rw [Rat.div_mul_cancel (Rat.ne_of_gt hfp')] at h1
      exact Rat.intCast_nonneg.mp h1
    · intro h
      rw [Rat.div_def]
      exact Rat.mul_nonneg (Rat.intCast_nonneg.mpr h) (Rat.le_of_lt (Rat.inv_pos.mpr hfp'))
  have key1 : ∀ c d : Int, (c : Rat) / ((f * gp s : Int) : Rat) < (d : Rat) / (gp s : Rat) ↔ c < d * f := fun c d => by
    rw [Rat.div_lt_iff hfp']
    have : (d : Rat) / (gp s : Rat) * ((f * gp s : Int) : Rat) = ((d * f : Int) : Rat) := by
      have := Rat.ne_of_gt hp'
      rw [Rat.intCast_mul, Rat.intCast_mul]; grind
    rw [this]
    exact Rat.intCast_lt_intCast
  constructor
  · rintro ⟨h1, h2, h3, h4⟩
    have h2' : (b : Rat) / ((f * gp s : Int) : Rat) < (g : Rat) / (gp s : Rat) := by
      have := h2; unfold gq at this; rw [← e] at this; exact this
    rw [wq_eq hg e hW] at h4
    exact ⟨(key0 b).mp h1, (key1 b g).mp h2', (key0 a).mp h3, (key1 a W).mp h4⟩
  · rintro ⟨h1, h2, h3, h4⟩
    refine ⟨(key0 b).mpr h1, ?_, (key0 a).mpr h3, ?_⟩
    · unfold gq; rw [← e]; exact (key1 b g).mpr h2
    · rw [wq_eq hg e hW]; exact (key1 a W).mpr h4
theorem zi_div {z s : G} (h : s ≠ 0) : Zi (z / s) ↔ ∃ w, z = s * gw w := by
  constructor
  · rintro ⟨w, hw⟩; exact ⟨w, by rw [← hw]; grind⟩
  · rintro ⟨w, hw⟩; exact ⟨w, by rw [hw]; grind⟩
theorem ind_unique {s b1 b2 : G} (hs : s ≠ 0) (h1 : InD s b1) (h2 : InD s b2) (h : Zi ((b2 - b1) / s)) : b1 = b2 := by
  obtain ⟨w, hw⟩ := (zi_div hs).mp h
  obtain ⟨g, x', y', hg, eg, ex, ey, l, r, hb⟩ := gcd_parts (nz_parts hs)
  have hp := gp_pos s
  have hp' : (0 : Rat) < (gp s : Rat) := Rat.intCast_pos.mpr hp
  have hpn := Rat.ne_of_gt hp'
  have e1 : b2 - b1 = gz (gx s * w.x - gy s * w.y) (gx s * w.y + gy s * w.x) (gp s) := by
    rw [hw]
    have h0 := gz_mul (a := gx s) (b := gy s) (p := gp s) (c := w.x) (d := w.y) (q := 1) (gp_ne s) (by decide)
    rw [gz_out] at h0
    unfold gw
    rw [h0]
    congr 1; omega
  have i1 : b2.im - b1.im = ((gx s * w.y + gy s * w.x : Int) : Rat) / (gp s : Rat) := congrArg G.im e1
  have r1 : b2.re - b1.re = ((gx s * w.x - gy s * w.y : Int) : Rat) / (gp s : Rat) := congrArg G.re e1
  have lt_of : ∀ {c d : Int}, (c : Rat) / (gp s : Rat) < (d : Rat) / (gp s : Rat) → c < d := fun {c d} h => by
    rw [Rat.div_lt_iff hp', Rat.div_mul_cancel hpn] at h
    exact rat_lt h
  have neg_div : ∀ {c : Int}, ((-c : Int) : Rat) / (gp s : Rat) = -((c : Rat) / (gp s : Rat)) := fun {c} => by
    rw [Rat.intCast_neg]; grind
  have hgq : gq s = (g : Rat) / (gp s : Rat) := by unfold gq; rw [eg]
  obtain ⟨a1, a2, a3, a4⟩ := h1
  obtain ⟨c1, c2, c3, c4⟩ := h2
  rw [hgq] at a2 c2
  have hv : gx s * w.y + gy s * w.x = 0 := by
    have k1 : gx s * w.y + gy s * w.x < g := lt_of (by rw [← i1]; grind)
    have k2 : -(gx s * w.y + gy s * w.x) < g := lt_of (by rw [neg_div, ← i1]; grind)
    have k3 : g ∣ gx s * w.y + gy s * w.x := ⟨x' * w.y + y' * w.x, by
      have : gx s * w.y + gy s * w.x = g * x' * w.y + g * y' * w.x := by rw [← ex, ← ey]
      rw [this]; grind⟩
    obtain ⟨m, hm⟩ := k3
    have k4 : m < 1 := Int.lt_of_mul_lt_mul_left (show g * m < g * 1 by omega) (by omega)
    have k6 : g * -m = -(g * m) := by grind
    have k5 : -m < 1 := Int.lt_of_mul_lt_mul_left (show g * -m < g * 1 by omega) (by omega)
    have : m = 0 := by omega
    rw [hm, this]; omega
  -- the row
  have hb' : y' * l + x' * r = 1 := by
    have : g * (y' * l + x' * r) = g * 1 := by
      have h5 : gy s * l + gx s * r = g * y' * l + g * x' * r := by rw [← ex, ← ey]
      grind
    exact Int.eq_of_mul_eq_mul_left (by omega) this
  have hv' : x' * w.y + y' * w.x = 0 := by
    have : g * (x' * w.y + y' * w.x) = g * 0 := by
      have h5 : gx s * w.y + gy s * w.x = g * x' * w.y + g * y' * w.x := by rw [← ex, ← ey]
      grind
    exact Int.eq_of_mul_eq_mul_left (by omega) this
  have hW : (g * (x' * x' + y' * y')) * g = gx s * gx s + gy s * gy s := by
    have : gx s * gx s + gy s * gy s = g * x' * (g * x') + g * y' * (g * y') := by rw [← ex, ← ey]
    rw [this]; grind
  have hwq := wq_eq hg eg hW
  rw [hwq] at a4 c4
  have ht : gx s * w.x - gy s * w.y = g * (x' * x' + y' * y') * (w.x * r - w.y * l) := by
    have h5 : gx s * w.x - gy s * w.y = g * x' * w.x - g * y' * w.y := by rw [← ex, ← ey]
    rw [h5]
    have u1 : w.x = x' * (w.x * r - w.y * l) := by grind
    have u2 : w.y = -(y' * (w.x * r - w.y * l)) := by grind
    generalize w.x * r - w.y * l = t at *
    rw [u1, u2]; grind
  have hz : gx s * w.x - gy s * w.y = 0 := by
    have k1 : gx s * w.x - gy s * w.y < g * (x' * x' + y' * y') := lt_of (by rw [← r1]; grind)
    have k2 : -(gx s * w.x - gy s * w.y) < g * (x' * x' + y' * y') := lt_of (by rw [neg_div, ← r1]; grind)
    have hW0 : 0 < g * (x' * x' + y' * y') := by
      have := Z2.sq0 x'
      have := Z2.sq0 y'
      have hn : 0 < gx s * gx s + gy s * gy s := nz_sq hs
      rw [← hW] at hn
      exact Int.pos_of_mul_pos_left hn hg
    generalize g * (x' * x' + y' * y') = W at *
    generalize w.x * r - w.y * l = m at *
    have k4 : m < 1 := Int.lt_of_mul_lt_mul_left (show W * m < W * 1 by omega) (by omega)
    have k6 : W * -m = -(W * m) := by grind
    have k5 : -m < 1 := Int.lt_of_mul_lt_mul_left (show W * -m < W * 1 by omega) (by omega)
    have : m = 0 := by omega
    rw [ht, this]; omega
  have e2 : b2 - b1 = 0 := by rw [e1, hv, hz]; exact (gz_zero (gp_ne s)).mpr ⟨rfl, rfl⟩
  grind
end Sn
/-! Sn, part Ze: the base of a form; meetings. -/
namespace Sn
open PySem
theorem gz_mul_out (s : G) (u v : Int) : gz (gx s) (gy s) (gp s) * gw ⟨u, v⟩ = s * gw ⟨u, v⟩ := by rw [gz_out]
/-- what the program computes is a base -/
theorem prog_base {σ : G} (hq : Q1 σ) {g W l r k bx by_ f : Int} (hf : 0 < f) (hg : g = ((Int.gcd (gx σ) (gy σ) : Nat) : Int)) (h1 : gy σ * l + gx σ * r = g) (hW : W * g = gx σ * gx σ + gy σ * gy σ) :
    InD σ (gz ((bx * gp σ + -(by_ * gp σ).fdiv (f * g) * (gx σ * l - gy σ * r - k * W) * f).fmod (W * f)) (by_ * gp σ + -(by_ * gp σ).fdiv (f * g) * g * f) (f * gp σ)) ∧
      Zi ((gz ((bx * gp σ + -(by_ * gp σ).fdiv (f * g) * (gx σ * l - gy σ * r - k * W) * f).fmod (W * f)) (by_ * gp σ + -(by_ * gp σ).fdiv (f * g) * g * f) (f * gp σ) - gz bx by_ f) / σ) := by
  have hs := hq.ne
  obtain ⟨g', x', y', hg', eg, ex, ey, _⟩ := gcd_parts (nz_parts hs)
  have e : g' = g := by rw [eg, hg]
  subst e
  obtain ⟨a1, a2, a3, a4, a5⟩ := form_math (bx := bx) (by_ := by_) (k := k) hq.1 (gp_pos σ) hf hg' h1 x' y' ex ey hW _ rfl _ rfl
  refine ⟨(ind_of hg' hg hW hf).mpr ⟨a1, a2, a3, a4⟩, ?_⟩
  rw [a5, gz_mul_out]
  exact (zi_div hs).mpr ⟨_, rfl⟩
theorem base_ex {s : G} (hs : s ≠ 0) (b : G) : ∃ b', InD (qt s) b' ∧ Zi ((b' - b) / s) := by
  have hq := qt_q1 hs
  have hn := hq.ne
  obtain ⟨g, x', y', hg, eg, ex, ey, l, r, h1⟩ := gcd_parts (nz_parts hn)
  have hW : (g * (x' * x' + y' * y')) * g = gx (qt s) * gx (qt s) + gy (qt s) * gy (qt s) := by
    have : gx (qt s) * gx (qt s) + gy (qt s) * gy (qt s) = g * x' * (g * x') + g * y' * (g * y') := by rw [← ex, ← ey]
    rw [this]; grind
  obtain ⟨h2, h3⟩ := prog_base hq (k := 0) (bx := gx b) (by_ := gy b) (gp_pos b) eg h1 hW
  refine ⟨_, h2, ?_⟩
  rw [gz_out] at h3
  obtain ⟨e, hu, he⟩ := qt_un s
  have h4 := hu.zi.mul h3
  have := hu.ne
  rw [he] at h4 ⊢
  have e2 : ∀ d : G, e * (d / (e * s)) = d / s := fun d => by grind
  rw [e2] at h4
  exact h4
open Classical in
noncomputable def fb (s b : G) : G := if h : ∃ b', InD (qt s) b' ∧ Zi ((b' - b) / s) then choose h else b
theorem fb_ex {s : G} (hs : s ≠ 0) (b : G) : InD (qt s) (fb s b) ∧ Zi ((fb s b - b) / s) := by
  unfold fb
  rw [dif_pos (base_ex hs b)]
  exact Classical.choose_spec (base_ex hs b)
theorem zi_unit {e d s : G} (hu : Un e) (hs : s ≠ 0) : Zi (d / (e * s)) ↔ Zi (d / s) := by
  have h0 := hu.ne
  constructor
  · intro h
    have := hu.zi.mul h
    have e2 : e * (d / (e * s)) = d / s := by grind
    rwa [e2] at this
  · intro h
    have := hu.inv.zi.mul h
    have e2 : 1 / e * (d / s) = d / (e * s) := by grind
    rwa [e2] at this
theorem zi_qt {d s : G} (hs : s ≠ 0) : Zi (d / qt s) ↔ Zi (d / s) := by
  obtain ⟨e, hu, he⟩ := qt_un s
  rw [he]; exact zi_unit hu hs
theorem fb_is {s b b' : G} (hs : s ≠ 0) (h1 : InD (qt s) b') (h2 : Zi ((b' - b) / s)) : fb s b = b' := by
  obtain ⟨g1, g2⟩ := fb_ex hs b
  refine ind_unique (qt_ne hs) g1 h1 ((zi_qt hs).mpr ?_)
  have e : (b' - fb s b) / s = (b' - b) / s - (fb s b - b) / s := by grind
  rw [e]
  exact h2.sub g2
theorem fb_congr {s b b' : G} (hs : s ≠ 0) (h : Zi ((b - b') / s)) : fb s b = fb s b' := by
  obtain ⟨g1, g2⟩ := fb_ex hs b'
  refine fb_is hs g1 ?_
  have e : (fb s b' - b) / s = (fb s b' - b') / s - (b - b') / s := by grind
  rw [e]
  exact g2.sub h
theorem fb_un {s b e : G} (hs : s ≠ 0) (hu : Un e) : fb (e * s) b = fb s b := by
  obtain ⟨g1, g2⟩ := fb_ex hs b
  have h0 := hu.ne
  exact fb_is (by grind) (by rw [qt_mul hs hu]; exact g1) ((zi_unit hu hs).mpr g2)
theorem fb_qt {s b : G} (hs : s ≠ 0) : fb (qt s) b = fb s b := by
  obtain ⟨e, hu, he⟩ := qt_un s
  rw [he]; exact fb_un hs hu
theorem fb_prog {s b : G} (hs : s ≠ 0) {g W l r k : Int} (hg : g = ((Int.gcd (gx (qt s)) (gy (qt s)) : Nat) : Int)) (h1 : gy (qt s) * l + gx (qt s) * r = g) (hW : W * g = gx (qt s) * gx (qt s) + gy (qt s) * gy (qt s)) :
    gz ((gx b * gp (qt s) + -(gy b * gp (qt s)).fdiv (gp b * g) * (gx (qt s) * l - gy (qt s) * r - k * W) * gp b).fmod (W * gp b)) (gy b * gp (qt s) + -(gy b * gp (qt s)).fdiv (gp b * g) * g * gp b) (gp b * gp (qt s)) = fb s b := by
  obtain ⟨h2, h3⟩ := prog_base (qt_q1 hs) (k := k) (bx := gx b) (by_ := gy b) (gp_pos b) hg h1 hW
  rw [gz_out] at h3
  exact (fb_is hs h2 ((zi_qt hs).mp h3)).symm
instance Hz.fbz {s b : G} {j k : Nat} [hs : Hz s j] [hb : Hz b k] : Hz (fb s b) (j + j + k + 1) := by
  by_cases h0 : s = 0
  · subst h0
    have e : fb 0 b = b ∨ ∃ b', fb 0 b = b' ∧ InD (qt 0) b' := by
      unfold fb
      split
      · rename_i h
        exact .inr ⟨_, rfl, (Classical.choose_spec h).1⟩
      · exact .inl rfl
    rcases e with e | ⟨b', e, h⟩
    · rw [e]; exact hb.mono (by omega)
    · exfalso
      have h1 : gq (qt 0) = 0 := by
        have : qt (0 : G) = 0 := by
          obtain ⟨u, _, he⟩ := qt_un 0
          rw [he]; grind
        rw [this]
        have h2 : gx (0 : G) = 0 ∧ gy (0 : G) = 0 := by
          have := gz_is (a := 0) (b := 0) (c := 1) ⟨by decide, by decide⟩
          rw [gz0] at this
          exact ⟨this.1, this.2.1⟩
        unfold gq
        rw [h2.1, h2.2]
        show ((0 : Int) : Rat) / _ = 0
        rw [Rat.intCast_zero]; grind
      have := h.up0
      have := h.up1
      rw [h1] at this
      grind
  · have hq := qt_q1 h0
    have hn := hq.ne
    have hqs : Hz (qt s) j := inferInstance
    obtain ⟨g, x', y', hg, eg, ex, ey, l, r, h1⟩ := gcd_parts (nz_parts hn)
    have hW : (g * (x' * x' + y' * y')) * g = gx (qt s) * gx (qt s) + gy (qt s) * gy (qt s) := by
      have : gx (qt s) * gx (qt s) + gy (qt s) * gy (qt s) = g * x' * (g * x') + g * y' * (g * y') := by rw [← ex, ← ey]
      rw [this]; grind
    have hk := fb_prog (b := b) (k := 0) h0 eg h1 hW
    rw [← hk]
    obtain ⟨a1, a2, a3, a4, _⟩ := form_math (bx := gx b) (by_ := gy b) (k := 0) hq.1 (gp_pos (qt s)) (gp_pos b) hg h1 x' y' ex ey hW _ rfl _ rfl
    obtain ⟨b1, b2, b3⟩ := hqs.all
    obtain ⟨c1, c2, c3⟩ := hb.all
    have hN := n_lt (z := ⟨gx (qt s), gy (qt s)⟩) b1 b2
    have hN' : gx (qt s) * gx (qt s) + gy (qt s) * gy (qt s) < 2 * ((2 ^ j) * (2 ^ j)) := hN
    have hWl : g * (x' * x' + y' * y') ≤ gx (qt s) * gx (qt s) + gy (qt s) * gy (qt s) := by
      have hn0 : 0 ≤ g * (x' * x' + y' * y') := Int.mul_nonneg (by omega) (by have := Z2.sq0 x'; have := Z2.sq0 y'; omega)
      have := Int.mul_le_mul_of_nonneg_left (show 1 ≤ g by omega) hn0
      rw [hW] at this
      omega
    have hgl : g ≤ gx (qt s) := by
      have hx := hq.1
      exact Int.le_of_dvd hx ⟨x', ex⟩
    generalize g * (x' * x' + y' * y') = W at *
    have hpb := gp_pos b
    have hp3 : (gp b).natAbs < 2 ^ k := c3
    have e1 : ((2 : Int) ^ k) = ((2 ^ k : Nat) : Int) := by simp
    have hWf : W * gp b < 2 ^ (j + j + k + 1) := by
      have k1 : W * gp b ≤ (2 * ((2 ^ j) * (2 ^ j))) * gp b := Int.mul_le_mul_of_nonneg_right (by omega) (by omega)
      have k2 : (0 : Int) < 2 * ((2 ^ j) * (2 ^ j)) := by
        have : (0 : Int) < 2 ^ j := Int.pow_pos (by decide)
        have := Int.mul_pos this this
        omega
      have k3 : gp b < 2 ^ k := by rw [e1]; omega
      have k4 := Int.mul_lt_mul_of_pos_left k3 k2
      have k5 : (2 * ((2 ^ j) * (2 ^ j))) * (2 : Int) ^ k = 2 ^ (j + j + k + 1) := by
        rw [Int.pow_succ, Int.pow_add, Int.pow_add]; grind
      omega
    have hgf : g * gp b < 2 ^ (j + j + k + 1) := by
      have : g * gp b ≤ W * gp b := by
        refine Int.mul_le_mul_of_nonneg_right ?_ (by omega)
        have h5 : g * g ≤ W * g := by
          rw [hW]
          have hx : g * g ≤ gx (qt s) * gx (qt s) := Int.mul_le_mul hgl hgl (by omega) (by have := hq.1; omega)
          have := Z2.sq0 (gy (qt s))
          omega
        exact Int.le_of_mul_le_mul_right h5 hg
      omega
    have e2 : ((2 : Int) ^ (j + j + k + 1)) = ((2 ^ (j + j + k + 1) : Nat) : Int) := by simp
    have hfp : (gp b * gp (qt s)).natAbs < 2 ^ (j + j + k + 1) := pow_up (natAbs_mul_lt c3 b3) (by omega)
    refine Hz.of (Int.mul_ne_zero (gp_ne b) (gp_ne (qt s))) ?_ ?_ hfp
    · omega
    · omega
/-- z is a hole of the sheet -/
def On (s b z : G) : Prop := Zi ((z - b) / s)
theorem on_base {s b : G} (hs : s ≠ 0) : On s b b := by
  unfold On
  have e : (b - b) / s = 0 := by grind
  rw [e]; exact .zero
theorem on_fb {s b z : G} (hs : s ≠ 0) : On (qt s) (fb s b) z ↔ On s b z := by
  unfold On
  rw [zi_qt hs]
  obtain ⟨_, h⟩ := fb_ex hs b
  have e1 : (z - b) / s = (z - fb s b) / s + (fb s b - b) / s := by grind
  have e2 : (z - fb s b) / s = (z - b) / s - (fb s b - b) / s := by grind
  constructor
  · intro h1; rw [e1]; exact h1.add h
  · intro h1; rw [e2]; exact h1.sub h
theorem fb_on {s b z : G} (hs : s ≠ 0) (h : On s b z) : fb s z = fb s b := fb_congr hs h
theorem ind_fb {s : G} (hs : s ≠ 0) (b : G) : InD (qt s) (fb s b) := (fb_ex hs b).1
theorem fb_fb {s : G} (hs : s ≠ 0) (b : G) : fb s (fb s b) = fb s b := fb_congr hs (fb_ex hs b).2
/-! ### meetings -/
def Meet (s b t c : G) : Prop := Zi ((c - b) / cm s t)
theorem meet_of {s b t c z : G} (hs : s ≠ 0) (ht : t ≠ 0) (h1 : On s b z) (h2 : On t c z) : Meet s b t c := by
  have hc := cm_ex (t := t) hs
  have h0 := hc.ne
  unfold Meet On at *
  have e : (c - b) / cm s t = (z - b) / s * (s / cm s t) - (z - c) / t * (t / cm s t) := by grind
  rw [e]
  exact (h1.mul hc.one).sub (h2.mul hc.two)
/-- a common hole by the factors of the common step -/
theorem meet_hole {s b t c d : G} {l m : G} (hs : s ≠ 0) (ht : t ≠ 0) (hd : d ≠ 0) (hl : Zi l) (hm : Zi m) (e : d = s * l + t * m) (h : Zi ((c - b) / d)) : On s b (b + s * (l * ((c - b) / d))) ∧ On t c (b + s * (l * ((c - b) / d))) := by
  unfold On
  constructor
  · have e1 : (b + s * (l * ((c - b) / d)) - b) / s = l * ((c - b) / d) := by grind
    rw [e1]; exact hl.mul h
  · have e2 : (b + s * (l * ((c - b) / d)) - c) / t = -(m * ((c - b) / d)) := by
      have e3 : c - b = (s * l + t * m) * ((c - b) / d) := by rw [← e]; grind
      generalize (c - b) / d = q at *
      grind
    rw [e2]; exact (hm.mul h).neg
theorem on_both {s t z w b c : G} (hs : s ≠ 0) (ht : t ≠ 0) (h1 : On s b z) (h2 : On t c z) (g1 : On s b w) (g2 : On t c w) : Zi ((w - z) / jt s t) := by
  have hc := cm_ex (t := t) hs
  obtain ⟨n0, a1, a2, l, m, e⟩ := hc
  unfold jt
  rw [zi_qt (by grind)]
  unfold On at *
  have e1 : (w - z) / (s * t / cm s t) = ((w - c) / t - (z - c) / t) * gw l + ((w - b) / s - (z - b) / s) * gw m := by
    have : (w - z) / (s * t / cm s t) = (w - z) / (s * t) * cm s t := by grind
    rw [this, e]; grind
  rw [e1]
  exact ((g2.sub h2).mul (.gw _)).add ((g1.sub h1).mul (.gw _))
theorem jt_on {s t z w b : G} (hs : s ≠ 0) (ht : t ≠ 0) (h1 : On s b z) (h : Zi ((w - z) / jt s t)) : On s b w := by
  have hc := cm_ex (t := t) hs
  have h0 := hc.ne
  unfold jt at h
  rw [zi_qt (by grind)] at h
  unfold On at *
  have e : (w - b) / s = (w - z) / (s * t / cm s t) * (t / cm s t) + (z - b) / s := by grind
  rw [e]
  exact (h.mul hc.two).add h1
open Classical in
noncomputable def mb (s b t c : G) : G := if h : ∃ z, On s b z ∧ On t c z then fb (jt s t) (choose h) else b
theorem mb_of {s b t c z : G} (hs : s ≠ 0) (ht : t ≠ 0) (h1 : On s b z) (h2 : On t c z) : mb s b t c = fb (jt s t) z := by
  have h : ∃ z, On s b z ∧ On t c z := ⟨z, h1, h2⟩
  unfold mb
  rw [dif_pos h]
  obtain ⟨g1, g2⟩ := Classical.choose_spec h
  exact fb_congr (jt_ne hs ht) (on_both hs ht h1 h2 g1 g2)
theorem meet_iff {s b t c : G} (hs : s ≠ 0) (ht : t ≠ 0) : Meet s b t c ↔ ∃ z, On s b z ∧ On t c z := by
  constructor
  · intro h
    obtain ⟨n0, a1, a2, l, m, e⟩ := cm_ex (t := t) hs
    exact ⟨_, meet_hole hs ht n0 (.gw l) (.gw m) e h⟩
  · rintro ⟨z, h1, h2⟩; exact meet_of hs ht h1 h2
theorem on_meet {s b t c z : G} (hs : s ≠ 0) (ht : t ≠ 0) (h : Meet s b t c) : On (jt s t) (mb s b t c) z ↔ On s b z ∧ On t c z := by
  obtain ⟨w, h1, h2⟩ := (meet_iff hs ht).mp h
  have hj := jt_ne hs ht
  rw [mb_of hs ht h1 h2]
  have h3 := on_fb (s := jt s t) (b := w) (z := z) hj
  rw [jt_qt hs ht] at h3
  rw [h3]
  constructor
  · intro h4
    refine ⟨jt_on hs ht h1 h4, ?_⟩
    rw [jt_comm hs] at h4
    exact jt_on ht hs h2 h4
  · rintro ⟨g1, g2⟩
    exact on_both hs ht h1 h2 g1 g2
theorem meet_symm {s b t c : G} (hs : s ≠ 0) : Meet s b t c ↔ Meet t c s b := by
  unfold Meet
  rw [cm_comm hs]
  have e1 : (c - b) / cm t s = -((b - c) / cm t s) := by grind
  have e2 : (b - c) / cm t s = -((c - b) / cm t s) := by grind
  constructor
  · intro h; rw [e2]; exact h.neg
  · intro h; rw [e1]; exact h.neg
theorem mb_symm {s b t c : G} (hs : s ≠ 0) (ht : t ≠ 0) (h : Meet s b t c) : mb s b t c = mb t c s b := by
  obtain ⟨w, h1, h2⟩ := (meet_iff hs ht).mp h
  rw [mb_of hs ht h1 h2, mb_of ht hs h2 h1, jt_comm hs]
/-! ### sizes of the factors -/
theorem gcd_st : ∀ (m : Nat) {a b r0 l0 m0 r1 l1 m1 : Z2}, r1.n < m → Z2.St a b r0 l0 m0 r1 l1 m1 → ∃ g l m u v : Z2, g = a * l + b * m ∧ a = g * u ∧ b = g * v ∧ l.n ≤ 16 * b.n ∧ m.n ≤ 16 * a.n
  | 0, _, _, _, _, _, r1, _, _, h, _ => by have := Z2.n0 r1; omega
  | m + 1, a, b, r0, l0, m0, r1, l1, m1, h, st => by
    by_cases h0 : r1 = 0
    · subst h0
      obtain ⟨u, v, e1, u', v', e2⟩ := st.back
      exact ⟨r0, l0, m0, u, u', st.here, by grind, by grind, st.lb.1, st.lb.2.2.1⟩
    · have h1 := Z2.nq_rest r0 h0
      have h2 := Z2.n_pos h0
      exact gcd_st m (by omega) (st.step h0 h1)
theorem fac_sz {s t : G} {j k : Nat} [hs : Hz s j] [ht : Hz t k] {l : Z2} (h : l.n ≤ 16 * (zb s t).n) : Hz (gw l) (j + k + 3) ∧ l.x.natAbs < 2 ^ (j + k + 3) ∧ l.y.natAbs < 2 ^ (j + k + 3) := by
  obtain ⟨b1, b2⟩ := zb_sz (s := s) (t := t)
  have h1 := n_lt b1 b2
  have h2 : l.n < (2 ^ (j + k + 3)) * (2 ^ (j + k + 3)) := by
    have e : ((2 : Int) ^ (j + k + 3)) * (2 ^ (j + k + 3)) = 64 * ((2 ^ (j + k)) * (2 ^ (j + k))) := by rw [Int.pow_add]; grind
    have h0 : (0 : Int) ≤ (2 ^ (j + k)) * (2 ^ (j + k)) := Z2.sq0 _
    omega
  obtain ⟨c1, c2⟩ := z2_lt (Int.le_refl _) h2
  exact ⟨Hz.of (by decide) c1 c2 (Nat.one_lt_two_pow (by omega)), c1, c2⟩
theorem Hz.mbz {s b t c : G} {j1 k1 j2 k2 : Nat} [hs : Hz s j1] [hb : Hz b k1] [ht : Hz t j2] [hc : Hz c k2] (h1 : s ≠ 0) (h2 : t ≠ 0) (h : Meet s b t c) :
    Hz (mb s b t c) ((j1 + j2 + j2 + 1) + (j1 + j2 + j2 + 1) + (k1 + (j1 + ((j1 + j2 + 3) + ((k2 + k1 + 1) + (j1 + j2 + 1) + (j1 + j2 + 1) + 1) + 1) + 1) + 1) + 1) := by
  obtain ⟨g, l, m, u, v, e1, e2, e3, hl, hm⟩ := gcd_st ((zb s t).n.toNat + 1) (by have := Z2.n0 (zb s t); omega) (Z2.St.init (za_ne (t := t) h1) (zb_ne (s := s) h2))
  have hg : g ≠ 0 := fun e => za_ne (t := t) h1 (by rw [e2, e]; grind)
  obtain ⟨hcm, e4⟩ := iscm_of hg e1 e2 e3
  have hz1 := Hz.over (s := s) (t := t) h1 e2
  obtain ⟨hz2, _⟩ := fac_sz (s := s) (t := t) hl
  have hun := hcm.un (cm_ex (t := t) h1)
  have hd := hcm.ne
  have hm' : Zi ((c - b) / (gw g / zp s t)) := by
    have := hun.zi.mul h
    have e5 : (cm s t / (gw g / zp s t)) * ((c - b) / cm s t) = (c - b) / (gw g / zp s t) := by
      have := cm_ne (t := t) h1
      grind
    rwa [e5] at this
  obtain ⟨q1, q2⟩ := meet_hole h1 h2 hd (.gw l) (.gw m) e4 hm'
  rw [mb_of h1 h2 q1 q2]
  have := Hz.jtz (s := s) (t := t) h1 h2
  exact inferInstance
end Sn
/-! Sn, part Zf: whole pairs in the language; the integers' great loop. -/
namespace Sn
open PySem
class Sw (z : Z2) (k : outParam Nat) : Prop where
  x : z.x.natAbs < 2 ^ k
  y : z.y.natAbs < 2 ^ k
instance Sw.sx {z : Z2} {k : Nat} [h : Sw z k] : Sz z.x k := ⟨h.x⟩
instance Sw.sy {z : Z2} {k : Nat} [h : Sw z k] : Sz z.y k := ⟨h.y⟩
theorem Sw.mono {z : Z2} {j k : Nat} (h : Sw z j) (l : j ≤ k) : Sw z k := ⟨pow_up h.x l, pow_up h.y l⟩
instance Sw.mul {z w : Z2} {j k : Nat} [h : Sw z j] [g : Sw w k] : Sw (z * w) (j + k + 1) := ⟨by
  show (z.x * w.x - z.y * w.y).natAbs < _
  have e : z.x * w.x - z.y * w.y = z.x * w.x + (-z.y) * w.y := by grind
  rw [e]
  exact natAbs_add_lt (natAbs_mul_lt h.x g.x) (natAbs_mul_lt (by have := h.y; omega) g.y), by
  show (z.x * w.y + z.y * w.x).natAbs < _
  exact natAbs_add_lt (natAbs_mul_lt h.x g.y) (natAbs_mul_lt h.y g.x)⟩
instance Sw.sub {z w : Z2} {j k : Nat} [h : Sw z j] [g : Sw w k] : Sw (z - w) (max j k + 1) := ⟨by
  show (z.x - w.x).natAbs < _
  have h1 := pow_up h.x (Nat.le_max_left j k)
  have h2 := pow_up g.x (Nat.le_max_right j k)
  rw [Nat.pow_succ]; omega, by
  show (z.y - w.y).natAbs < _
  have h1 := pow_up h.y (Nat.le_max_left j k)
  have h2 := pow_up g.y (Nat.le_max_right j k)
  rw [Nat.pow_succ]; omega⟩
instance Sw.z0 : Sw 0 0 := ⟨by decide, by decide⟩
instance Sw.z1 : Sw 1 1 := ⟨by decide, by decide⟩
theorem Sw.hz {z : Z2} {k : Nat} (h : Sw z k) (hk : 1 ≤ k) : Hz (gw z) k := Hz.of (by decide) h.x h.y (Nat.one_lt_two_pow (by omega))
theorem Sw.of_n {z : Z2} {k : Nat} {B : Int} (h : z.n ≤ B) (hB : B < (2 ^ k) * (2 ^ k)) : Sw z k := by
  obtain ⟨a, b⟩ := z2_lt h hB
  exact ⟨a, b⟩
theorem Sw.n_lt {z : Z2} {k : Nat} (h : Sw z k) : z.n < 2 * ((2 ^ k) * (2 ^ k)) := Sn.n_lt h.x h.y
theorem Hz.whole {w : Z2} {k : Nat} (h : Hz (gw w) k) : Sw w k := by
  obtain ⟨a, b, _⟩ := h.all
  obtain ⟨e1, e2, _⟩ := gw_parts w
  rw [e1] at a
  rw [e2] at b
  exact ⟨a, b⟩
section
variable {z w : Z2} {M : Mem} {env : Slots} {m : Bool}
theorem ix_pr0 : ixop (pr z) 0 M = some (.int z.x) := by unfold pr; rw [ix_tup]; rfl
theorem ix_pr1 : ixop (pr z) 1 M = some (.int z.y) := by unfold pr; rw [ix_tup]; rfl
theorem put_pr {ts : List Tg} : Tg.put (.tp ts) (pr z) env = tgPuts ts [.int z.x, .int z.y] env := by unfold pr; rw [put_tp]
theorem pr_l0 : (.tup [.int 0, .int 0] : D) = pr 0 := id rfl
theorem pr_l1 : (.tup [.int 1, .int 0] : D) = pr 1 := id rfl
open Classical in
theorem c_ne_pr : cmpop .ne (pr z) (pr w) M = some (!decide (z = w)) := by
  unfold pr
  rw [c_ne2]
  congr 2
  by_cases h : z = w
  · subst h; simp
  · rw [decide_eq_false h, decide_eq_false]
    rintro ⟨h1, h2⟩
    exact h (Z2.ext h1 h2)
theorem pr_of {a b : Int} : (.tup [.int a, .int b] : D) = pr ⟨a, b⟩ := id rfl
end
/-! ### the integers' loop -/
structure IS (a b r0 l0 m0 r1 l1 m1 : Int) : Prop where
  n0 : 0 ≤ r0
  n1 : 0 ≤ r1
  here : r0 = a * l0 + b * m0
  later : r1 = a * l1 + b * m1
  gc : Int.gcd r0 r1 = Int.gcd a b
  det : (r0 * l1 - r1 * l0 = b ∧ r0 * m1 - r1 * m0 = -a) ∨ (r0 * l1 - r1 * l0 = -b ∧ r0 * m1 - r1 * m0 = a)
  bl0 : -(max b 1) ≤ l0 ∧ l0 ≤ max b 1
  bl1 : -(max b 1) ≤ l1 ∧ l1 ≤ max b 1
  bm0 : -(max a 1) ≤ m0 ∧ m0 ≤ max a 1
  bm1 : -(max a 1) ≤ m1 ∧ m1 ≤ max a 1
  br0 : r0 ≤ max a b
  br1 : r1 ≤ max a b
theorem IS.init {a b : Int} (ha : 0 ≤ a) (hb : 0 ≤ b) : IS a b a 1 0 b 0 1 :=
  ⟨ha, hb, by omega, by omega, rfl, .inr ⟨by omega, by omega⟩, by omega, by omega, by omega, by omega, by omega, by omega⟩
theorem igrow {r1 r2 l1 l2 c B : Int} (h0 : 0 < r1) (h2 : 0 ≤ r2) (h3 : r2 < r1) (hB : 1 ≤ B) (hl : -B ≤ l1 ∧ l1 ≤ B) (hc : -B ≤ c ∧ c ≤ B) (e : r1 * l2 = c + r2 * l1) : -B ≤ l2 ∧ l2 ≤ B := by
  have k1 : r2 * l1 ≤ r2 * B := Int.mul_le_mul_of_nonneg_left hl.2 h2
  have k2 : r2 * (-B) ≤ r2 * l1 := Int.mul_le_mul_of_nonneg_left hl.1 h2
  have k3 : (r2 + 1) * B ≤ r1 * B := Int.mul_le_mul_of_nonneg_right (by omega) (by omega)
  have k4 : (r2 + 1) * B = r2 * B + B := by grind
  have k5 : r2 * (-B) = -(r2 * B) := by grind
  constructor
  · exact Int.le_of_mul_le_mul_left (a := r1) (by have : r1 * -B = -(r1 * B) := by grind
                                                  omega) h0
  · exact Int.le_of_mul_le_mul_left (a := r1) (by omega) h0
theorem IS.step {a b r0 l0 m0 r1 l1 m1 : Int} (ha : 0 ≤ a) (hb : 0 ≤ b) (h : IS a b r0 l0 m0 r1 l1 m1) (h0 : r1 ≠ 0) :
    IS a b r1 l1 m1 (r0 - r0.fdiv r1 * r1) (l0 - r0.fdiv r1 * l1) (m0 - r0.fdiv r1 * m1) ∧ r0 - r0.fdiv r1 * r1 < r1 := by
  obtain ⟨n0, n1, h1, h2, hg, hd, b1, b2, b3, b4, b5, b6⟩ := h
  have hp : 0 < r1 := by omega
  have a1 := Int.mul_fdiv_add_fmod r0 r1
  have a2 := Int.fmod_nonneg_of_pos r0 hp
  have a3 := Int.fmod_lt_of_pos r0 hp
  have e : r0 - r0.fdiv r1 * r1 = r0.fmod r1 := by grind
  have hdet : (r1 * (l0 - r0.fdiv r1 * l1) - (r0 - r0.fdiv r1 * r1) * l1 = b ∧ r1 * (m0 - r0.fdiv r1 * m1) - (r0 - r0.fdiv r1 * r1) * m1 = -a) ∨ (r1 * (l0 - r0.fdiv r1 * l1) - (r0 - r0.fdiv r1 * r1) * l1 = -b ∧ r1 * (m0 - r0.fdiv r1 * m1) - (r0 - r0.fdiv r1 * r1) * m1 = a) := by
    rcases hd with ⟨d1, d2⟩ | ⟨d1, d2⟩
    · exact .inr ⟨by grind, by grind⟩
    · exact .inl ⟨by grind, by grind⟩
  refine ⟨⟨n1, by omega, h2, by grind, ?_, hdet, b2, ?_, b4, ?_, b6, by omega⟩, by omega⟩
  · rw [← hg, Int.gcd_sub_mul_right_right, Int.gcd_comm]
  · rcases hdet with ⟨d1, d2⟩ | ⟨d1, d2⟩
    · exact igrow (c := b) hp (by omega) (by omega) (by omega) b2 (by omega) (r2 := r0 - r0.fdiv r1 * r1) (by omega)
    · exact igrow (c := -b) hp (by omega) (by omega) (by omega) b2 (by omega) (r2 := r0 - r0.fdiv r1 * r1) (by omega)
  · rcases hdet with ⟨d1, d2⟩ | ⟨d1, d2⟩
    · exact igrow (c := -a) hp (by omega) (by omega) (by omega) b4 (by omega) (r2 := r0 - r0.fdiv r1 * r1) (by omega)
    · exact igrow (c := a) hp (by omega) (by omega) (by omega) b4 (by omega) (r2 := r0 - r0.fdiv r1 * r1) (by omega)
theorem isz {x B : Int} {k : Nat} (h : -(max B 1) ≤ x ∧ x ≤ max B 1) (hB : B < 2 ^ k) (hk : 1 ≤ k) : Sz x k := ⟨by
  have e : ((2 : Int) ^ k) = ((2 ^ k : Nat) : Int) := by simp
  have : 1 < 2 ^ k := Nat.one_lt_two_pow (by omega)
  omega⟩
end Sn
namespace Sn
theorem d_lt_t {a b : Int} (h : a < b) : decide (a < b) = true := decide_eq_true h
theorem d_lt_f {a b : Int} (h : b ≤ a) : decide (a < b) = false := decide_eq_false (by omega)
theorem d_le_t {a b : Int} (h : a ≤ b) : decide (a ≤ b) = true := decide_eq_true h
theorem d_le_f {a b : Int} (h : b < a) : decide (a ≤ b) = false := decide_eq_false (by omega)
theorem d_eq_t {a b : Int} (h : a = b) : decide (a = b) = true := decide_eq_true h
theorem d_eq_f {a b : Int} (h : a ≠ b) : decide (a = b) = false := decide_eq_false h
end Sn
namespace Sn
instance Sz.fmod {j k : Nat} {a b : Int} [h : Sz a j] [g : Sz b k] : Sz (a.fmod b) (max j k) := by
  have h1 := pow_up h.lt (Nat.le_max_left j k)
  have h2 := pow_up g.lt (Nat.le_max_right j k)
  refine ⟨?_⟩
  rcases Int.lt_trichotomy b 0 with hb | hb | hb
  · have e : a.fmod b = -((-a).fmod (-b)) := by
      have h3 := Int.mul_fdiv_add_fmod a b
      have h4 := Int.mul_fdiv_add_fmod (-a) (-b)
      rw [Int.neg_fdiv_neg] at h4
      grind
    have h5 := Int.fmod_nonneg_of_pos (-a) (show 0 < -b by omega)
    have h6 := Int.fmod_lt_of_pos (-a) (show 0 < -b by omega)
    omega
  · subst hb
    rw [Int.fmod_zero]
    exact h1
  · have h5 := Int.fmod_nonneg_of_pos a hb
    have h6 := Int.fmod_lt_of_pos a hb
    omega
end Sn
namespace Sn
open PySem
theorem ev_chain {n : Nat} {env : Slots} {M : Mem} {op1 op2 : Cop} {a b c : E} : evE n (.chain op1 op2 a b c) env M = out (bndT (evE n a env M) fun x M1 => out (bndT (evE n b env M1) fun y M2 => out (bndT (ofO (cmpop op1 x y M2) M2) fun k M3 => outB (ifB k M3
    (fun M3 => out (bndT (evE n c env M3) fun z M4 => out (bndT (ofO (cmpop op2 y z M4) M4) fun k2 M5 => .ok (.bl k2) M5))) (fun M3 => .ok (.bl false) M3))))) := by
  rw [evE]
  show Res.bind _ _ = Res.bind _ _
  congr 1
  funext x M1
  show Res.bind _ _ = Res.bind _ _
  congr 1
  funext y M2
  show Res.bind _ _ = Res.bind _ _
  congr 1
  funext k M3
  cases k <;> rfl
section
variable {M : Mem} {m : Bool} {z : G} {x y w : D} {xs : List D} {i j k : Int}
theorem sl_nf : slop m (nf z) none (some 2) M = .ok (.tup [.int (gx z), .int (gy z)]) M := id rfl
theorem sl_t3 : slop m (.tup [x, y, w]) none (some 2) M = .ok (.tup [x, y]) M := id rfl
theorem p_len_scr : primop m .len [.scr xs] M = .ok (.int (xs.length : Nat)) M := id rfl
theorem p_len_lst : primop m .len [.lst xs] M = .ok (.int (xs.length : Nat)) M := id rfl
theorem p_max3 : primop m .max [.int i, .int j, .int k] M = .ok (.int (if k > (if j > i then j else i) then k else (if j > i then j else i))) M := id rfl
theorem p_min3 : primop m .min [.int i, .int j, .int k] M = .ok (.int (if k < (if j < i then j else i) then k else (if j < i then j else i))) M := id rfl
end
end Sn
/-! Sn, part Zg: loops over the first cells; facts of joint steps. -/
namespace Sn
open PySem
theorem jt_zi1 {s t : G} (hs : s ≠ 0) (ht : t ≠ 0) : Zi (jt s t / s) := by
  have hc := cm_ex (t := t) hs
  have h0 := hc.ne
  unfold jt
  obtain ⟨e, hu, he⟩ := qt_un (s * t / cm s t)
  rw [he]
  have e1 : e * (s * t / cm s t) / s = e * (t / cm s t) := by grind
  rw [e1]
  exact hu.zi.mul hc.two
theorem jt_zi2 {s t : G} (hs : s ≠ 0) (ht : t ≠ 0) : Zi (jt s t / t) := by
  rw [jt_comm hs]; exact jt_zi1 ht hs
theorem first_ev {n : Nat} {env : Slots} {M : Mem} {ns : List Int} {k : Nat} (h0 : (env[0]?).join = some (.scr (ns.map D.int))) (hk : 1 ≤ k) (hk2 : k ≤ 63) :
    ∃ v : Nat, evE n (.prim false .max (.cons (.int 1) (.cons (.prim false .min (.cons (.int (no_index (k : Int))) (.cons (.prim false .len (.cons (.var 0) .nil)) .nil))) .nil))) env M = .ok (.int v) M ∧ v ≤ k ∧ 1 ≤ v := by
  have e : evE n (.prim false .max (.cons (.int 1) (.cons (.prim false .min (.cons (.int (k : Int)) (.cons (.prim false .len (.cons (.var 0) .nil)) .nil))) .nil))) env M =
      .ok (.int (if (if (((ns.map D.int).length : Nat) : Int) < (k : Int) then (((ns.map D.int).length : Nat) : Int) else (k : Int)) > 1 then (if (((ns.map D.int).length : Nat) : Int) < (k : Int) then (((ns.map D.int).length : Nat) : Int) else (k : Int)) else 1)) M := by
    rw [ev_prim, evEs_cons, ev_int, bnd_ok, evEs_cons, ev_prim, evEs_cons, ev_int, bnd_ok, evEs_cons, ev_prim, evEs_cons, ev_var, h0, ofO_some, bnd_ok, evEs_nil, bnd_ok, bnd_ok, p_len_scr, bnd_ok, evEs_nil, bnd_ok, bnd_ok, bnd_ok, p_min, bnd_ok, evEs_nil, bnd_ok, bnd_ok, bnd_ok, p_max]
  rw [e]
  refine ⟨((if (if (((ns.map D.int).length : Nat) : Int) < (k : Int) then (((ns.map D.int).length : Nat) : Int) else (k : Int)) > 1 then (if (((ns.map D.int).length : Nat) : Int) < (k : Int) then (((ns.map D.int).length : Nat) : Int) else (k : Int)) else 1)).toNat, ?_, ?_, ?_⟩
  · congr 2
    split <;> split <;> omega
  · split <;> split <;> omega
  · split <;> split <;> omega
theorem range_at {lo : Int} {N i : Nat} {x : D} (h : (rangeD lo N)[i]? = some x) : x = .int (lo + (i : Int)) ∧ i < N := by
  unfold rangeD at h
  rw [List.getElem?_map] at h
  obtain ⟨hi, _⟩ : i < N ∧ True := by
    refine ⟨?_, trivial⟩
    by_cases hi : i < N
    · exact hi
    · rw [List.getElem?_eq_none (by simpa using hi)] at h
      cases h
  rw [List.getElem?_range hi] at h
  simp only [Option.map_some, Option.some.injEq] at h
  exact ⟨h.symm, hi⟩
theorem range0_at {N i : Nat} {x : D} (h : (rangeD 0 N)[i]? = some x) : x = .int (i : Int) ∧ i < N := by
  obtain ⟨h1, h2⟩ := range_at h
  rw [Int.zero_add] at h1
  exact ⟨h1, h2⟩
theorem rng_small {v : Nat} (h : v ≤ 1000) : rngOk (v : Int) = true := by
  unfold rngOk
  rw [Bool.and_eq_true, decide_eq_true_eq, decide_eq_true_eq]
  omega
theorem it_first {n : Nat} {env : Slots} {M : Mem} {ns : List Int} {k : Nat} (h0 : (env[0]?).join = some (.scr (ns.map D.int))) (hk : 1 ≤ k) (hk2 : k ≤ 63) :
    ∃ v : Nat, evIt n (.range1 (.prim false .max (.cons (.int 1) (.cons (.prim false .min (.cons (.int (no_index (k : Int))) (.cons (.prim false .len (.cons (.var 0) .nil)) .nil))) .nil)))) env M = .ok ⟨rangeD 0 v, []⟩ M ∧ v ≤ k ∧ 1 ≤ v := by
  obtain ⟨v, e, h1, h2⟩ := first_ev (n := n) (M := M) h0 hk hk2
  refine ⟨v, ?_, h1, h2⟩
  have := it_range (i := (v : Int)) e (rng_small (by omega))
  rw [this]; rfl
/-- a common step that is told -/
theorem cm_is {c s t : G} (h : IsCm c s t) (hq : Q1 c) : cm s t = c := by
  rw [h.cm_eq, qt_of_q1 hq]
theorem q1_gz {a b p : Int} (h : Norm a b p) (h1 : 0 < a) (h2 : 0 ≤ b) : Q1 (gz a b p) := by
  obtain ⟨e1, e2, _⟩ := gz_is h
  unfold Q1
  rw [e1, e2]
  exact ⟨h1, h2⟩
theorem zi_gz {a b : Int} : Zi (gz a b 1) := ⟨⟨a, b⟩, rfl⟩
theorem gz_ne {a b p : Int} (hp : p ≠ 0) (h : ¬ (a = 0 ∧ b = 0)) : gz a b p ≠ 0 := fun e => h ((gz_zero hp).mp e)
end Sn
namespace Sn
open PySem
/-- all lists but one stay -/
def Same (r : Nat) (M M' : Mem) : Prop := ∀ q, q ≠ r → M'[q]? = M[q]?
theorem Same.refl {r : Nat} {M : Mem} : Same r M M := fun _ _ => rfl
theorem Same.trans {r : Nat} {M M' M'' : Mem} (h : Same r M M') (g : Same r M' M'') : Same r M M'' := fun q hq => (g q hq).trans (h q hq)
theorem Same.set {r : Nat} {M : Mem} {o : Option (List D)} : Same r M (M.set r o) := fun q hq => List.getElem?_set_ne (fun e => hq e.symm)
theorem Bag.loc {M L : Mem} {r t : Nat} (h : Bag M r t) (hL : mpB L = true) : Bag (M ++ L) r t := by
  have hr := h.lt
  obtain ⟨hM, a, b, c, e, h1, h2, h3, h4⟩ := h
  refine ⟨hM.loc hL, a, b, c, ?_, h1, h2, h3, h4⟩
  unfold Mem.cont at e ⊢
  rw [List.getElem?_append_left hr]
  exact e
theorem unloc {M L M' : Mem} {r t : Nat} (hr : r < M.length) (hB : Bag M' r t) (h : M'.length = (M ++ L).length ∧ Same r (M ++ L) M') : ∃ M1, M' = M1 ++ L ∧ Bag M1 r t ∧ M1.length = M.length ∧ Same r M M1 := by
  obtain ⟨hl, hs⟩ := h
  rw [List.length_append] at hl
  have e : M' = M'.take M.length ++ L := by
    conv => lhs; rw [← List.take_append_drop M.length M']
    congr 1
    refine List.ext_getElem? fun i => ?_
    rw [List.getElem?_drop, hs _ (by omega), List.getElem?_append_right (by omega), Nat.add_sub_cancel_left]
  have hl1 : (M'.take M.length).length = M.length := by rw [List.length_take]; omega
  refine ⟨M'.take M.length, e, hB.take hr, hl1, fun q hq => ?_⟩
  rw [List.getElem?_take]
  by_cases hq2 : q < M.length
  · rw [if_pos hq2, hs q hq, List.getElem?_append_left hq2]
  · rw [if_neg hq2, List.getElem?_eq_none (by omega)]
end Sn
namespace Sn
open PySem
theorem iscm_l {s c : G} (hs : s ≠ 0) (h : Zi (c / s)) : IsCm s c s := ⟨hs, h, ⟨1, by rw [gw1]; grind⟩, 0, 1, by rw [gw0, gw1]; grind⟩
theorem cm_jt1 {s t : G} (hs : s ≠ 0) (ht : t ≠ 0) : cm (jt s t) s = qt s := (iscm_l hs (jt_zi1 hs ht)).cm_eq
theorem cm_jt2 {s t : G} (hs : s ≠ 0) (ht : t ≠ 0) : cm (jt s t) t = qt t := (iscm_l ht (jt_zi2 hs ht)).cm_eq
theorem jt_jt1 {s t : G} (hs : s ≠ 0) (ht : t ≠ 0) : jt s (jt s t) = jt s t := by
  have h0 := jt_ne hs ht
  rw [← jt_of (iscm_l hs (jt_zi1 hs ht)).symm hs h0]
  have : s * jt s t / s = jt s t := by grind
  rw [this, jt_qt hs ht]
theorem jt_jt2 {s t : G} (hs : s ≠ 0) (ht : t ≠ 0) : jt t (jt s t) = jt s t := by
  rw [jt_comm hs]; exact jt_jt1 ht hs
/-- moved aside by a part of the common step that is no whole place -/
theorem no_meet {s b t c d w : G} (hs : s ≠ 0) (hd : IsCm d s t) (hm : Meet s b t c) (hw : ¬ Zi w) : ¬ Meet s b t (c + d * w) := fun h => by
  have hc := cm_ex (t := t) hs
  have hu := hc.un hd
  have h0 := hc.ne
  unfold Meet at *
  have e : (c + d * w - b) / cm s t - (c - b) / cm s t = (d / cm s t) * w := by grind
  have h1 := h.sub hm
  rw [e] at h1
  have h2 := hu.inv.zi.mul h1
  have h3 := hu.ne
  have e2 : 1 / (d / cm s t) * (d / cm s t * w) = w := by grind
  rw [e2] at h2
  exact hw h2
theorem not_zi {a b p : Int} (h : Norm a b p) (hp : p ≠ 1) : ¬ Zi (gz a b p) := fun z => by
  have := gp_one.mpr z
  rw [(gz_is h).2.2] at this
  exact hp this
theorem on_at {s z w : G} (hs : s ≠ 0) (h : Zi w) : On s (z + s * w) z := by
  unfold On
  have e : (z - (z + s * w)) / s = -w := by grind
  rw [e]; exact h.neg
/-- a place nearly whole: (a, b, 1) -/
theorem pl_gw {a b : Int} : (.tup [.int a, .int b, .int 1] : D) = nf (gw ⟨a, b⟩) := pl_nf (norm_w ⟨a, b⟩)
theorem q_eq0 : (.tup [.int 0, .int 1] : D) = qf 0 := id rfl
end Sn
namespace Sn
open PySem
theorem Hq.pos {r : Rat} {k : Nat} (h : Hq r k) : 1 ≤ k := by
  obtain ⟨a, c, h0, _, _, h3⟩ := h.out
  cases k with
  | zero => simp at h3; omega
  | succ k => omega
instance Hq.mul {r s : Rat} {j k : Nat} [h : Hq r j] [g : Hq s k] : Hq (r * s) (j + k) := by
  obtain ⟨a, c, h0, e1, h1, h3⟩ := h.out
  obtain ⟨b, d, g0, e2, g1, g3⟩ := g.out
  refine ⟨a * b, c * d, Int.mul_pos h0 g0, ?_, natAbs_mul_lt h1 g1, natAbs_mul_lt h3 g3⟩
  have := rat_ne (show c ≠ 0 by omega)
  have := rat_ne (show d ≠ 0 by omega)
  rw [e1, e2, Rat.intCast_mul, Rat.intCast_mul]
  grind
instance Hq.div {r s : Rat} {j k : Nat} [h : Hq r j] [g : Hq s k] : Hq (r / s) (j + k) := by
  have hj := h.pos
  obtain ⟨a, c, h0, e1, h1, h3⟩ := h.out
  obtain ⟨b, d, g0, e2, g1, g3⟩ := g.out
  have hc := rat_ne (show c ≠ 0 by omega)
  have hd := rat_ne (show d ≠ 0 by omega)
  have p1 : 1 < 2 ^ (j + k) := Nat.one_lt_two_pow (by omega)
  by_cases hb : b = 0
  · refine ⟨0, 1, by decide, ?_, by omega, by omega⟩
    rw [e1, e2, hb, Rat.intCast_zero]
    have : (0 : Rat) / d = 0 := by grind
    rw [this]
    grind
  · have hb' := rat_ne hb
    have e : r / s = ((a * d : Int) : Rat) / ((c * b : Int) : Rat) := by
      rw [e1, e2, Rat.intCast_mul, Rat.intCast_mul]; grind
    have e' : r / s = ((-(a * d) : Int) : Rat) / ((-(c * b) : Int) : Rat) := by
      rw [e, Rat.intCast_neg, Rat.intCast_neg]
      have := rat_ne (Int.mul_ne_zero (show c ≠ 0 by omega) hb)
      grind
    have z1 := natAbs_mul_lt h1 g3
    have z2 := natAbs_mul_lt h3 g1
    rcases Int.lt_or_gt_of_ne hb with hn | hp
    · exact ⟨-(a * d), -(c * b), by have := Int.mul_neg_of_pos_of_neg h0 hn; omega, e', by rw [Int.natAbs_neg]; exact z1, by rw [Int.natAbs_neg]; exact z2⟩
    · exact ⟨a * d, c * b, Int.mul_pos h0 hp, e, z1, z2⟩
end Sn
namespace Sn
section
variable {M : Mem} {i : Int} {b : Bool} {x : PySem.Str} {xs : List D} {r : Nat}
theorem isn_non : isnD .non M = .ok (.bl true) M := id rfl
theorem isn_int : isnD (.int i) M = .ok (.bl false) M := id rfl
theorem isn_bl : isnD (.bl b) M = .ok (.bl false) M := id rfl
theorem isn_str : isnD (.str x) M = .ok (.bl false) M := id rfl
theorem isn_tup : isnD (.tup xs) M = .ok (.bl false) M := id rfl
theorem isn_lst : isnD (.lst xs) M = .ok (.bl false) M := id rfl
theorem isn_ref : isnD (.ref r) M = .ok (.bl false) M := id rfl
theorem notn_non : notnD .non M = .ok (.bl false) M := id rfl
theorem notn_int : notnD (.int i) M = .ok (.bl true) M := id rfl
theorem notn_bl : notnD (.bl b) M = .ok (.bl true) M := id rfl
theorem notn_str : notnD (.str x) M = .ok (.bl true) M := id rfl
theorem notn_tup : notnD (.tup xs) M = .ok (.bl true) M := id rfl
theorem notn_lst : notnD (.lst xs) M = .ok (.bl true) M := id rfl
theorem notn_ref : notnD (.ref r) M = .ok (.bl true) M := id rfl
theorem c_neb {a c : Bool} : cmpop .ne (.bl a) (.bl c) M = some (a != c) := by cases a <;> cases c <;> rfl
theorem c_eqb {a c : Bool} : cmpop .eq (.bl a) (.bl c) M = some (a == c) := by cases a <;> cases c <;> rfl
end
end Sn
/-! Sn, part Zh: moved, turned, mirrored sheets. -/
namespace Sn
open PySem
theorem ind_iff {s b : G} (hs : s ≠ 0) : InD s b ↔ 0 ≤ gy b ∧ gy b * gp s < ((Int.gcd (gx s) (gy s) : Nat) : Int) * gp b ∧ 0 ≤ gx b ∧ gx b * ((Int.gcd (gx s) (gy s) : Nat) : Int) * gp s < (gx s * gx s + gy s * gy s) * gp b := by
  obtain ⟨g, x', y', hg, eg, ex, ey, _⟩ := gcd_parts (nz_parts hs)
  have hW : (g * (x' * x' + y' * y')) * g = gx s * gx s + gy s * gy s := by
    have : gx s * gx s + gy s * gy s = g * x' * (g * x') + g * y' * (g * y') := by rw [← ex, ← ey]
    rw [this]; grind
  have e : gz (gx b * gp s) (gy b * gp s) (gp b * gp s) = b := by
    have := gz_eq (a := gx b * gp s) (b := gy b * gp s) (p := gp b * gp s) (x := gx b) (y := gy b) (q := gp b) (Int.mul_ne_zero (gp_ne b) (gp_ne s)) (gp_ne b) (by grind) (by grind)
    rw [this, gz_out]
  have h := ind_of (s := s) (a := gx b * gp s) (b := gy b * gp s) hg eg hW (gp_pos b)
  rw [e] at h
  rw [h, ← eg, ← hW]
  generalize g * (x' * x' + y' * y') = W
  have hp := gp_pos s
  have k1 : 0 ≤ gy b * gp s ↔ 0 ≤ gy b := ⟨fun h => Int.le_of_mul_le_mul_right (a := gp s) (by omega) hp, fun h => Int.mul_nonneg h (by omega)⟩
  have k2 : 0 ≤ gx b * gp s ↔ 0 ≤ gx b := ⟨fun h => Int.le_of_mul_le_mul_right (a := gp s) (by omega) hp, fun h => Int.mul_nonneg h (by omega)⟩
  have k3 : gx b * g * gp s < W * g * gp b ↔ gx b * gp s < W * gp b := by
    have e1 : gx b * g * gp s = (gx b * gp s) * g := by grind
    have e2 : W * g * gp b = (W * gp b) * g := by grind
    rw [e1, e2]
    exact ⟨fun h => Int.lt_of_mul_lt_mul_right h (by omega), fun h => Int.mul_lt_mul_of_pos_right h hg⟩
  rw [k1, k2, k3]
theorem ind_lit {a b p x y q : Int} (h : Norm a b p) (h' : Norm x y q) (h0 : ¬ (a = 0 ∧ b = 0)) : InD (gz a b p) (gz x y q) ↔ 0 ≤ y ∧ y * p < ((Int.gcd a b : Nat) : Int) * q ∧ 0 ≤ x ∧ x * ((Int.gcd a b : Nat) : Int) * p < (a * a + b * b) * q := by
  obtain ⟨e1, e2, e3⟩ := gz_is h
  obtain ⟨f1, f2, f3⟩ := gz_is h'
  rw [ind_iff (gz_ne h.ne h0), e1, e2, e3, f1, f2, f3]
theorem conj_mul (z w : G) : (z * w).conj = z.conj * w.conj := G.ext (by show z.re * w.re - z.im * w.im = z.re * w.re - -z.im * -w.im; grind) (by show -(z.re * w.im + z.im * w.re) = z.re * -w.im + -z.im * w.re; grind)
theorem conj_sub (z w : G) : (z - w).conj = z.conj - w.conj := G.ext rfl (by show -(z.im - w.im) = -z.im - -w.im; grind)
theorem conj_conj (z : G) : z.conj.conj = z := G.ext rfl (by show - -z.im = z.im; grind)
theorem conj0 : (0 : G).conj = 0 := G.ext rfl (by show -(0 : Rat) = 0; grind)
theorem conj_ne {z : G} (h : z ≠ 0) : z.conj ≠ 0 := fun e => h (by rw [← conj_conj z, e, conj0])
theorem Zi.conj {z : G} (h : Zi z) : Zi z.conj := by
  obtain ⟨w, rfl⟩ := h
  exact ⟨⟨w.x, -w.y⟩, gz_conj⟩
theorem Un.conj {e : G} (h : Un e) : Un e.conj := by
  rcases h with rfl | rfl | rfl | rfl
  · exact .inl (G.ext rfl (by show -(0 : Rat) = 0; grind))
  · exact .inr (.inr (.inr (G.ext (by show (0 : Rat) = -0; grind) rfl)))
  · exact .inr (.inr (.inl (G.ext rfl (by show - -(0 : Rat) = -0; grind))))
  · exact .inr (.inl (G.ext (by show -(0 : Rat) = 0; grind) (by show - -(1 : Rat) = 1; grind)))
/-- moved, then moved on -/
theorem fb_move {s b a : G} (hs : s ≠ 0) : fb (qt s) (fb s b + a) = fb s (b + a) := by
  rw [fb_qt hs]
  refine fb_congr hs ?_
  have h := (fb_ex hs b).2
  have e : (fb s b + a - (b + a)) / s = (fb s b - b) / s := by grind
  rw [e]; exact h
theorem qt_turn {s w : G} (hs : s ≠ 0) (hw : w ≠ 0) : qt (qt s * w) = qt (s * w) := by
  obtain ⟨e, hu, he⟩ := qt_un s
  have : qt s * w = e * (s * w) := by rw [he]; grind
  rw [this, qt_mul (by grind) hu]
/-- turned, then turned on -/
theorem fb_turn {s b w m : G} (hs : s ≠ 0) (hw : w ≠ 0) : fb (qt s * w) (m + w * (fb s b - m)) = fb (s * w) (m + w * (b - m)) := by
  obtain ⟨e, hu, he⟩ := qt_un s
  have h1 : qt s * w = e * (s * w) := by rw [he]; grind
  have h2 : s * w ≠ 0 := by grind
  rw [h1, fb_un h2 hu]
  refine fb_congr h2 ?_
  have h := (fb_ex hs b).2
  have e2 : (m + w * (fb s b - m) - (m + w * (b - m))) / (s * w) = (fb s b - b) / s := by grind
  rw [e2]; exact h
theorem qt_flip {s : G} (hs : s ≠ 0) : qt (qt s.conj).conj = qt s := by
  obtain ⟨e, hu, he⟩ := qt_un s.conj
  rw [he, conj_mul, conj_conj, qt_mul hs hu.conj]
theorem fb_flip {s b : G} (hs : s ≠ 0) : fb (qt s.conj).conj (fb s.conj b.conj).conj = fb s b := by
  have hc := conj_ne hs
  obtain ⟨e, hu, he⟩ := qt_un s.conj
  rw [he, conj_mul, conj_conj, fb_un hs hu.conj]
  refine fb_congr hs ?_
  obtain ⟨w, hw⟩ := (zi_div hc).mp (fb_ex hc b.conj).2
  refine (zi_div hs).mpr ?_
  obtain ⟨v, hv⟩ : ∃ v, (gw w).conj = gw v := (Zi.gw w).conj
  refine ⟨v, ?_⟩
  have := congrArg G.conj hw
  rw [conj_sub, conj_conj, conj_mul, conj_conj, hv] at this
  exact this
theorem zi_un {e : G} (h : Un e) : Zi e := h.zi
theorem zi_qt1 {s : G} (hs : s ≠ 0) : Zi (qt s / s) := by
  obtain ⟨e, hu, he⟩ := qt_un s
  rw [he]
  have : e * s / s = e := by grind
  rw [this]; exact hu.zi
theorem zi_qt2 {s : G} (hs : s ≠ 0) : Zi (s / qt s) := by
  obtain ⟨e, hu, he⟩ := qt_un s
  have := hu.ne
  rw [he]
  have : s / (e * s) = 1 / e := by grind
  rw [this]; exact hu.inv.zi
end Sn
namespace Sn
section
variable {b : Bool} {i : Int} {x : PySem.Str} {xs : List D} {r : Nat}
theorem kd_int_non : isKind .int .non = false := id rfl
theorem kd_int_bl : isKind .int (.bl b) = true := id rfl
theorem kd_int_int : isKind .int (.int i) = true := id rfl
theorem kd_int_str : isKind .int (.str x) = false := id rfl
theorem kd_int_tup : isKind .int (.tup xs) = false := id rfl
theorem kd_int_lst : isKind .int (.lst xs) = false := id rfl
theorem kd_int_ref : isKind .int (.ref r) = false := id rfl
theorem kd_int_scr : isKind .int (.scr xs) = false := id rfl
theorem kd_bool_non : isKind .bool .non = false := id rfl
theorem kd_bool_bl : isKind .bool (.bl b) = true := id rfl
theorem kd_bool_int : isKind .bool (.int i) = false := id rfl
theorem kd_bool_str : isKind .bool (.str x) = false := id rfl
theorem kd_bool_tup : isKind .bool (.tup xs) = false := id rfl
theorem kd_bool_lst : isKind .bool (.lst xs) = false := id rfl
theorem kd_bool_ref : isKind .bool (.ref r) = false := id rfl
theorem kd_bool_scr : isKind .bool (.scr xs) = false := id rfl
theorem kd_str_non : isKind .str .non = false := id rfl
theorem kd_str_bl : isKind .str (.bl b) = false := id rfl
theorem kd_str_int : isKind .str (.int i) = false := id rfl
theorem kd_str_str : isKind .str (.str x) = true := id rfl
theorem kd_str_tup : isKind .str (.tup xs) = false := id rfl
theorem kd_str_lst : isKind .str (.lst xs) = false := id rfl
theorem kd_str_ref : isKind .str (.ref r) = false := id rfl
theorem kd_str_scr : isKind .str (.scr xs) = false := id rfl
theorem kd_list_non : isKind .list .non = false := id rfl
theorem kd_list_bl : isKind .list (.bl b) = false := id rfl
theorem kd_list_int : isKind .list (.int i) = false := id rfl
theorem kd_list_str : isKind .list (.str x) = false := id rfl
theorem kd_list_tup : isKind .list (.tup xs) = false := id rfl
theorem kd_list_lst : isKind .list (.lst xs) = true := id rfl
theorem kd_list_ref : isKind .list (.ref r) = true := id rfl
theorem kd_list_scr : isKind .list (.scr xs) = true := id rfl
theorem kd_tuple_non : isKind .tuple .non = false := id rfl
theorem kd_tuple_bl : isKind .tuple (.bl b) = false := id rfl
theorem kd_tuple_int : isKind .tuple (.int i) = false := id rfl
theorem kd_tuple_str : isKind .tuple (.str x) = false := id rfl
theorem kd_tuple_tup : isKind .tuple (.tup xs) = true := id rfl
theorem kd_tuple_lst : isKind .tuple (.lst xs) = false := id rfl
theorem kd_tuple_ref : isKind .tuple (.ref r) = false := id rfl
theorem kd_tuple_scr : isKind .tuple (.scr xs) = false := id rfl
end
end Sn
namespace Sn
open PySem
section
variable {M L' : Mem} {xs : List D} {q : Nat} {k n m : Nat}
theorem c_eq_ref {r : Nat} (e : Mem.cont M r = some xs) [h : Bds xs k n m] (l3 : m + 1 ≤ 60) : cmpop .eq (.ref r) (.lst xs) M = some true := by
  rw [cmp_eq]
  rw [eqop_ref (k := k) (n := n) (m := m) e]
  exact c_eqB (d := .lst xs) l3
theorem c_ne_ref {r : Nat} (e : Mem.cont M r = some xs) [h : Bds xs k n m] (l3 : m + 1 ≤ 60) : cmpop .ne (.ref r) (.lst xs) M = some false := by
  rw [cmp_ne]
  rw [eqop_ref (k := k) (n := n) (m := m) e]
  exact c_neB (d := .lst xs) l3
theorem c_eq_r0 (hq : M.length = q) [h : Bds xs k n m] (l3 : m + 1 ≤ 60) : cmpop .eq (.ref (q + 0)) (.lst xs) (M ++ some xs :: L') = some true := by subst hq; exact c_eq_ref (cont_loc.trans rfl) l3
theorem c_ne_r0 (hq : M.length = q) [h : Bds xs k n m] (l3 : m + 1 ≤ 60) : cmpop .ne (.ref (q + 0)) (.lst xs) (M ++ some xs :: L') = some false := by subst hq; exact c_ne_ref (cont_loc.trans rfl) l3
theorem c_eq_r1 {o : Option (List D)} (hq : M.length = q) [h : Bds xs k n m] (l3 : m + 1 ≤ 60) : cmpop .eq (.ref (q + 1)) (.lst xs) (M ++ o :: some xs :: L') = some true := by subst hq; exact c_eq_ref (cont_loc.trans rfl) l3
theorem c_ne_r1 {o : Option (List D)} (hq : M.length = q) [h : Bds xs k n m] (l3 : m + 1 ≤ 60) : cmpop .ne (.ref (q + 1)) (.lst xs) (M ++ o :: some xs :: L') = some false := by subst hq; exact c_ne_ref (cont_loc.trans rfl) l3
end
end Sn
/-! Sn, part Zi: the bottoms' sizes; sharper heights of forms. -/
namespace Sn
open PySem
class Dn (z : G) (k : outParam Nat) : Prop where
  lt : (gp z).natAbs < 2 ^ k
theorem Dn.mono {z : G} {j k : Nat} (h : Dn z j) (l : j ≤ k) : Dn z k := ⟨pow_up h.lt l⟩
theorem Hz.dn {z : G} {k : Nat} (h : Hz z k) : Dn z k := ⟨h.all.2.2⟩
theorem gp_dvd {z : G} {a b c : Int} (hc : c ≠ 0) (e : z = gz a b c) : gp z ∣ c := by
  have h := gz_out z
  rw [e] at h
  obtain ⟨e1, e2⟩ := gz_inj (gp_ne _) hc h
  rw [e]
  exact norm_dvd (gz_norm _) e1 e2
theorem Dn.of {z : G} {a b c : Int} {k : Nat} (hc : c ≠ 0) (e : z = gz a b c) (h : c.natAbs < 2 ^ k) : Dn z k := ⟨by
  have h1 := gp_dvd hc e
  have h2 : (gp z).natAbs ≤ c.natAbs := Nat.le_of_dvd (by omega) (Int.natAbs_dvd_natAbs.mpr h1)
  omega⟩
theorem Dn.add {z w : G} {j k : Nat} (h : Dn z j) (g : Dn w k) : Dn (z + w) (j + k) :=
  Dn.of (Int.mul_ne_zero (gp_ne z) (gp_ne w)) (nf_add z w).symm (natAbs_mul_lt h.lt g.lt)
theorem Dn.mulw {s : G} {w : Z2} {j : Nat} (h : Dn s j) : Dn (s * gw w) j := by
  refine Dn.of (a := gx s * w.x - gy s * w.y) (b := gx s * w.y + gy s * w.x) (c := gp s * 1) (by have := gp_ne s; omega) ?_ (by rw [Int.mul_one]; exact h.lt)
  have := gz_mul (a := gx s) (b := gy s) (p := gp s) (c := w.x) (d := w.y) (q := 1) (gp_ne s) (by decide)
  rw [gz_out] at this
  exact this
theorem Dn.un {z e : G} {j : Nat} (hu : Un e) (h : Dn z j) : Dn (e * z) j := by
  obtain ⟨w, hw⟩ := hu.zi
  have : e * z = z * gw w := by rw [hw]; grind
  rw [this]; exact h.mulw
theorem Dn.qt {z : G} {j : Nat} (h : Dn z j) : Dn (qt z) j := by
  obtain ⟨e, hu, he⟩ := qt_un z
  rw [he]; exact h.un hu
theorem Dn.jt {s t : G} {k : Nat} (h1 : s ≠ 0) (h2 : t ≠ 0) (ht : Dn t k) : Dn (jt s t) k := by
  have hc := cm_ex (t := t) h1
  obtain ⟨w, hw⟩ := hc.one
  have h0 := hc.ne
  unfold Sn.jt
  refine Dn.qt ?_
  have : s * t / cm s t = t * gw w := by rw [← hw]; grind
  rw [this]; exact ht.mulw
theorem fb_shape {s : G} (h0 : s ≠ 0) (b : G) : ∃ a c : Int, fb s b = gz a c (gp b * gp (qt s)) ∧ ∀ j k : Nat, Hz s j → Dn b k → a.natAbs < 2 ^ (j + j + k + 1) ∧ c.natAbs < 2 ^ (j + j + k + 1) := by
  have hq := qt_q1 h0
  have hn := hq.ne
  obtain ⟨g, x', y', hg, eg, ex, ey, l, r, h1⟩ := gcd_parts (nz_parts hn)
  have hW : (g * (x' * x' + y' * y')) * g = gx (qt s) * gx (qt s) + gy (qt s) * gy (qt s) := by
    have : gx (qt s) * gx (qt s) + gy (qt s) * gy (qt s) = g * x' * (g * x') + g * y' * (g * y') := by rw [← ex, ← ey]
    rw [this]; grind
  have hk := fb_prog (b := b) (k := 0) h0 eg h1 hW
  refine ⟨_, _, hk.symm, fun j k hs hb => ?_⟩
  have hqs : Hz (Sn.qt s) j := inferInstance
  obtain ⟨a1, a2, a3, a4, _⟩ := form_math (bx := gx b) (by_ := gy b) (k := 0) hq.1 (gp_pos (Sn.qt s)) (gp_pos b) hg h1 x' y' ex ey hW _ rfl _ rfl
  obtain ⟨b1, b2, b3⟩ := hqs.all
  have c3 := hb.lt
  have hN := n_lt (z := ⟨gx (Sn.qt s), gy (Sn.qt s)⟩) b1 b2
  have hN' : gx (Sn.qt s) * gx (Sn.qt s) + gy (Sn.qt s) * gy (Sn.qt s) < 2 * ((2 ^ j) * (2 ^ j)) := hN
  have hWl : g * (x' * x' + y' * y') ≤ gx (Sn.qt s) * gx (Sn.qt s) + gy (Sn.qt s) * gy (Sn.qt s) := by
    have hn0 : 0 ≤ g * (x' * x' + y' * y') := Int.mul_nonneg (by omega) (by have := Z2.sq0 x'; have := Z2.sq0 y'; omega)
    have := Int.mul_le_mul_of_nonneg_left (show 1 ≤ g by omega) hn0
    rw [hW] at this
    omega
  have hgl : g ≤ gx (Sn.qt s) := by
    have hx := hq.1
    exact Int.le_of_dvd hx ⟨x', ex⟩
  generalize g * (x' * x' + y' * y') = W at *
  have hpb := gp_pos b
  have e1 : ((2 : Int) ^ k) = ((2 ^ k : Nat) : Int) := by simp
  have hWf : W * gp b < 2 ^ (j + j + k + 1) := by
    have k1 : W * gp b ≤ (2 * ((2 ^ j) * (2 ^ j))) * gp b := Int.mul_le_mul_of_nonneg_right (by omega) (by omega)
    have k2 : (0 : Int) < 2 * ((2 ^ j) * (2 ^ j)) := by
      have : (0 : Int) < 2 ^ j := Int.pow_pos (by decide)
      have := Int.mul_pos this this
      omega
    have k3 : gp b < 2 ^ k := by rw [e1]; omega
    have k4 := Int.mul_lt_mul_of_pos_left k3 k2
    have k5 : (2 * ((2 ^ j) * (2 ^ j))) * (2 : Int) ^ k = 2 ^ (j + j + k + 1) := by
      rw [Int.pow_succ, Int.pow_add, Int.pow_add]; grind
    omega
  have hgf : g * gp b < 2 ^ (j + j + k + 1) := by
    have : g * gp b ≤ W * gp b := by
      refine Int.mul_le_mul_of_nonneg_right ?_ (by omega)
      have h5 : g * g ≤ W * g := by
        rw [hW]
        have hx : g * g ≤ gx (Sn.qt s) * gx (Sn.qt s) := Int.mul_le_mul hgl hgl (by omega) (by have := hq.1; omega)
        have := Z2.sq0 (gy (Sn.qt s))
        omega
      exact Int.le_of_mul_le_mul_right h5 hg
    omega
  have e2 : ((2 : Int) ^ (j + j + k + 1)) = ((2 ^ (j + j + k + 1) : Nat) : Int) := by simp
  constructor
  · omega
  · omega
theorem Dn.fb {s b : G} {j k : Nat} (h0 : s ≠ 0) (hs : Dn s j) (hb : Dn b k) : Dn (fb s b) (k + j) := by
  obtain ⟨a, c, e, _⟩ := fb_shape h0 b
  exact Dn.of (Int.mul_ne_zero (gp_ne b) (gp_ne _)) e (natAbs_mul_lt hb.lt hs.qt.lt)
theorem Hz.fb2 {s b : G} {j k : Nat} (h0 : s ≠ 0) (hs : Hz s j) (hb : Dn b k) : Hz (Sn.fb s b) (j + j + k + 1) := by
  obtain ⟨a, c, e, h⟩ := fb_shape h0 b
  obtain ⟨h1, h2⟩ := h j k hs hb
  have hqs : Hz (Sn.qt s) j := inferInstance
  rw [e]
  exact Hz.of (Int.mul_ne_zero (gp_ne b) (gp_ne _)) h1 h2 (pow_up (natAbs_mul_lt hb.lt hqs.dn.lt) (by omega))
theorem on_shape {s b z : G} (h0 : s ≠ 0) (h : On s b z) : ∃ w, z = b + s * gw w := by
  obtain ⟨w, hw⟩ := (zi_div h0).mp h
  exact ⟨w, by rw [← hw]; grind⟩
theorem mb_small {s b t c : G} {j1 d1 e1 j2 d2 : Nat} (h1 : s ≠ 0) (h2 : t ≠ 0) (h : Meet s b t c) (hs : Hz s j1) (hsd : Dn s d1) (hb : Dn b e1) (ht : Hz t j2) (htd : Dn t d2) :
    Hz (mb s b t c) ((j1 + j2 + j2 + 1) + (j1 + j2 + j2 + 1) + (e1 + d1) + 1) ∧ Dn (mb s b t c) (e1 + d1 + d2) := by
  obtain ⟨z, o1, o2⟩ := (meet_iff h1 h2).mp h
  rw [mb_of h1 h2 o1 o2]
  obtain ⟨w, hw⟩ := on_shape h1 o1
  have hz : Dn z (e1 + d1) := by rw [hw]; exact hb.add hsd.mulw
  have hj := Hz.jtz (s := s) (t := t) h1 h2
  exact ⟨Hz.fb2 (jt_ne h1 h2) hj hz, Dn.fb (jt_ne h1 h2) (Dn.jt h1 h2 htd) hz⟩
end Sn
/-! Sn, part Zj: stacks: each two meet, then all meet; the light of a list of sheets. -/
namespace Sn
open PySem
theorem dd {a b c : G} (hb : b ≠ 0) : a / c = (a / b) * (b / c) := by grind
theorem dq1 {a c J h e : G} (hc : c ≠ 0) (hJ : J ≠ 0) (hh : h ≠ 0) (he : e ≠ 0) : a / (h * e) = (a / c / J) * (J / h) * (c / e) := by grind
theorem dq2 {a b h e : G} (hh : h ≠ 0) (he : e ≠ 0) : a * b / (h * e) = (b / h) * (a / e) := by grind
theorem dq3 {a b h e : G} (hh : h ≠ 0) (he : e ≠ 0) : a * b / (h * e) = (a / h) * (b / e) := by grind
theorem dq4 {g1 g2 s1 s2 t x : G} {l1 m1 l2 m2 : G} (e1 : g1 = s1 * l1 + t * m1) (e2 : g2 = s2 * l2 + t * m2) (hx : x ≠ 0) : g1 * g2 / x = (s1 * s2 / x) * (l1 * l2) + (s1 * t / x) * (l1 * m2) + (t * s2 / x) * (m1 * l2) + (t * t / x) * (m1 * m2) := by
  subst e1 e2; grind
theorem dq5 {d e g1 g2 l m : G} (h1 : g1 ≠ 0) (h2 : g2 ≠ 0) (he : e = g1 * l + g2 * m) : d * e / (g1 * g2) = (d / g2) * l + (d / g1) * m := by
  subst he; grind
theorem dq6 {d h e g1 g2 : G} (h1 : g1 ≠ 0) (h2 : g2 ≠ 0) (he : e ≠ 0) (hh : h ≠ 0) : d / h = (d * e / (g1 * g2)) * (g1 * g2 / (h * e)) := by grind
theorem dq7 {s1 s2 c e g1 g2 l m : G} (h1 : g1 ≠ 0) (h2 : g2 ≠ 0) (he : e ≠ 0) (hc : c = s1 * l + s2 * m) : c / e = (s1 / g1) * (g1 / e) * l + (s2 / g2) * (g2 / e) * m := by
  subst hc; grind
/-- d is a multiple of both common steps with t: so it is one of the common step of t and the joint step -/
theorem cm_split {s1 s2 t d : G} (h1 : s1 ≠ 0) (h2 : s2 ≠ 0) (ht : t ≠ 0) (a1 : Zi (d / cm s1 t)) (a2 : Zi (d / cm s2 t)) : Zi (d / cm (jt s1 s2) t) := by
  have hj := jt_ne h1 h2
  obtain ⟨c0, c1, c2, lc, mc, ec⟩ := cm_ex (t := s2) h1
  obtain ⟨g10, g11, g12, l1, m1, e1⟩ := cm_ex (t := t) h1
  obtain ⟨g20, g21, g22, l2, m2, e2⟩ := cm_ex (t := t) h2
  obtain ⟨h0, h11, h12, l3, m3, e3⟩ := cm_ex (s := jt s1 s2) (t := t) hj
  -- e: the common step of both common steps
  obtain ⟨k0, k1, k2, l4, m4, e4⟩ := cm_ex (s := cm s1 t) (t := cm s2 t) g10
  generalize cm s1 s2 = c at *
  generalize cm s1 t = g1 at *
  generalize cm s2 t = g2 at *
  generalize cm g1 g2 = e at *
  have hjc : ∃ u, Un u ∧ jt s1 s2 = u * (s1 * s2 / cm s1 s2) := qt_un _
  have hjd : Zi (s1 * s2 / c / jt s1 s2) := by
    obtain ⟨q0, q1, q2, l5, m5, e5⟩ := cm_ex (t := s2) h1
    have hcm' : IsCm c s1 s2 := ⟨c0, c1, c2, lc, mc, ec⟩
    have := jt_of hcm' h1 h2
    rw [← this]
    exact zi_qt2 (by grind)
  generalize jt s1 s2 = J at *
  generalize cm J t = h at *
  -- h * e divides g1 * g2
  have dc : Zi (c / e) := by
    have : c / e = (s1 / g1) * (g1 / e) * gw lc + (s2 / g2) * (g2 / e) * gw mc := dq7 g10 g20 k0 ec
    rw [this]
    exact ((g11.mul k1).mul (.gw _)).add ((g21.mul k2).mul (.gw _))
  have dt : Zi (t / e) := by
    have : t / e = (t / g1) * (g1 / e) := dd g10
    rw [this]; exact g12.mul k1
  have ds1 : Zi (s1 / e) := by
    have : s1 / e = (s1 / g1) * (g1 / e) := dd g10
    rw [this]; exact g11.mul k1
  have ds2 : Zi (s2 / e) := by
    have : s2 / e = (s2 / g2) * (g2 / e) := dd g20
    rw [this]; exact g21.mul k2
  -- the four products over h * e
  have p1 : Zi (s1 * s2 / (h * e)) := by
    have : s1 * s2 / (h * e) = (s1 * s2 / c / J) * (J / h) * (c / e) := dq1 c0 hj h0 k0
    rw [this]; exact (hjd.mul h11).mul dc
  have p2 : Zi (s1 * t / (h * e)) := by
    have : s1 * t / (h * e) = (t / h) * (s1 / e) := dq2 h0 k0
    rw [this]; exact h12.mul ds1
  have p3 : Zi (t * s2 / (h * e)) := by
    have : t * s2 / (h * e) = (t / h) * (s2 / e) := dq3 h0 k0
    rw [this]; exact h12.mul ds2
  have p4 : Zi (t * t / (h * e)) := by
    have : t * t / (h * e) = (t / h) * (t / e) := dq3 h0 k0
    rw [this]; exact h12.mul dt
  have pg : Zi (g1 * g2 / (h * e)) := by
    have : g1 * g2 / (h * e) = (s1 * s2 / (h * e)) * (gw l1 * gw l2) + (s1 * t / (h * e)) * (gw l1 * gw m2) + (t * s2 / (h * e)) * (gw m1 * gw l2) + (t * t / (h * e)) * (gw m1 * gw m2) := dq4 e1 e2 (by grind)
    rw [this]
    have m : ∀ a b : Z2, Zi (gw a * gw b) := fun a b => (Zi.gw a).mul (.gw b)
    exact (((p1.mul (m _ _)).add (p2.mul (m _ _))).add (p3.mul (m _ _))).add (p4.mul (m _ _))
  -- d * e is a multiple of g1 * g2
  have pd : Zi (d * e / (g1 * g2)) := by
    have : d * e / (g1 * g2) = (d / g2) * gw l4 + (d / g1) * gw m4 := dq5 g10 g20 e4
    rw [this]
    exact (a2.mul (.gw _)).add (a1.mul (.gw _))
  have : d / h = (d * e / (g1 * g2)) * (g1 * g2 / (h * e)) := dq6 g10 g20 k0 h0
  rw [this]
  exact pd.mul pg
/-- if a sheet meets both of two that meet, it meets their meeting -/
theorem meet_both {s b t c u e : G} (hs : s ≠ 0) (ht : t ≠ 0) (hu : u ≠ 0) (h : Meet s b t c) (h1 : Meet s b u e) (h2 : Meet t c u e) : Meet (jt s t) (mb s b t c) u e := by
  obtain ⟨z, o1, o2⟩ := (meet_iff hs ht).mp h
  have hj := jt_ne hs ht
  have a1 : Zi ((e - z) / cm s u) := by
    have hc := cm_ex (t := u) hs
    have h0 := hc.ne
    unfold Meet On at *
    have : (e - z) / cm s u = (e - b) / cm s u - (z - b) / s * (s / cm s u) := by grind
    rw [this]
    exact h1.sub (o1.mul hc.one)
  have a2 : Zi ((e - z) / cm t u) := by
    have hc := cm_ex (t := u) ht
    have h0 := hc.ne
    unfold Meet On at *
    have : (e - z) / cm t u = (e - c) / cm t u - (z - c) / t * (t / cm t u) := by grind
    rw [this]
    exact h2.sub (o2.mul hc.one)
  have a3 := cm_split hs ht hu a1 a2
  have hc := cm_ex (t := u) hj
  have h0 := hc.ne
  have o3 : On (jt s t) (mb s b t c) z := (on_meet hs ht h).mpr ⟨o1, o2⟩
  unfold Meet On at *
  have : (e - mb s b t c) / cm (jt s t) u = (e - z) / cm (jt s t) u + (z - mb s b t c) / jt s t * (jt s t / cm (jt s t) u) := by grind
  rw [this]
  exact a3.add (o3.mul hc.one)
theorem meet_of_sub {s b t c u e : G} (hs : s ≠ 0) (ht : t ≠ 0) (hu : u ≠ 0) (h : Meet s b t c) (g : Meet (jt s t) (mb s b t c) u e) : Meet s b u e ∧ Meet t c u e := by
  have hj := jt_ne hs ht
  obtain ⟨z, o1, o2⟩ := (meet_iff hj hu).mp g
  obtain ⟨p1, p2⟩ := (on_meet hs ht h).mp o1
  exact ⟨meet_of hs hu p1 o2, meet_of ht hu p2 o2⟩
theorem on_form {s b z : G} (hs : s ≠ 0) : On (qt s) (fb s b) z ↔ On s b z := on_fb hs
theorem meet_form {s b t c : G} (hs : s ≠ 0) (ht : t ≠ 0) : Meet (qt s) (fb s b) t c ↔ Meet s b t c := by
  rw [meet_iff (qt_ne hs) ht, meet_iff hs ht]
  constructor
  · rintro ⟨z, h1, h2⟩; exact ⟨z, (on_fb hs).mp h1, h2⟩
  · rintro ⟨z, h1, h2⟩; exact ⟨z, (on_fb hs).mpr h1, h2⟩
/-! ### the light of a list -/
noncomputable def sh (p : G × G) : D := .tup [nf p.1, nf p.2]
open Classical in
noncomputable def lightF : G × G → List (G × G) → Option (G × G)
  | f, [] => some f
  | f, p :: l => if Meet f.1 f.2 p.1 p.2 then lightF (jt f.1 p.1, mb f.1 f.2 p.1 p.2) l else none
noncomputable def lightG : List (G × G) → Option (G × G)
  | [] => none
  | p :: l => lightF (qt p.1, fb p.1 p.2) l
noncomputable def shO : Option (G × G) → D
  | none => .non
  | some p => sh p
/-- steps are not nought, sizes -/
structure Good (H : Nat) (l : List (G × G)) : Prop where
  ne : ∀ p ∈ l, p.1 ≠ 0
  s : ∀ p ∈ l, Hz p.1 H
  b : ∀ p ∈ l, Hz p.2 H
theorem Good.tail {H : Nat} {p : G × G} {l : List (G × G)} (h : Good H (p :: l)) : Good H l := ⟨fun q hq => h.ne q (by simp [hq]), fun q hq => h.s q (by simp [hq]), fun q hq => h.b q (by simp [hq])⟩
/-- the holes of the light are those of all -/
theorem lightF_on : ∀ {l : List (G × G)} {f g : G × G}, f.1 ≠ 0 → (∀ p ∈ l, p.1 ≠ 0) → lightF f l = some g → g.1 ≠ 0 ∧ ∀ z, On g.1 g.2 z ↔ On f.1 f.2 z ∧ ∀ p ∈ l, On p.1 p.2 z
  | [], f, g, hf, _, h => by
    simp only [lightF, Option.some.injEq] at h
    subst h
    exact ⟨hf, fun z => by simp⟩
  | p :: l, f, g, hf, hl, h => by
    simp only [lightF] at h
    split at h
    · rename_i hm
      have hp := hl p (by simp)
      obtain ⟨h1, h2⟩ := lightF_on (l := l) (f := (jt f.1 p.1, mb f.1 f.2 p.1 p.2)) (jt_ne hf hp) (fun q hq => hl q (by simp [hq])) h
      refine ⟨h1, fun z => ?_⟩
      rw [h2 z, on_meet hf hp hm]
      constructor
      · rintro ⟨⟨a, b⟩, c⟩
        refine ⟨a, fun q hq => ?_⟩
        rcases List.mem_cons.mp hq with rfl | hq
        · exact b
        · exact c q hq
      · rintro ⟨a, b⟩
        exact ⟨⟨a, b p (by simp)⟩, fun q hq => b q (by simp [hq])⟩
    · cases h
/-- light is there just if each two meet -/
theorem lightF_some : ∀ {l : List (G × G)} {f : G × G}, f.1 ≠ 0 → (∀ p ∈ l, p.1 ≠ 0) → ((lightF f l).isSome = true ↔ (∀ p ∈ l, Meet f.1 f.2 p.1 p.2) ∧ l.Pairwise fun p q => Meet p.1 p.2 q.1 q.2)
  | [], f, _, _ => by simp [lightF]
  | p :: l, f, hf, hl => by
    have hp := hl p (by simp)
    have hl' : ∀ q ∈ l, q.1 ≠ 0 := fun q hq => hl q (by simp [hq])
    simp only [lightF]
    split
    · rename_i hm
      rw [lightF_some (l := l) (f := (jt f.1 p.1, mb f.1 f.2 p.1 p.2)) (jt_ne hf hp) hl', List.pairwise_cons]
      constructor
      · rintro ⟨a, b⟩
        refine ⟨fun q hq => ?_, fun q hq => (meet_of_sub hf hp (hl' q hq) hm (a q hq)).2, b⟩
        rcases List.mem_cons.mp hq with rfl | hq
        · exact hm
        · exact (meet_of_sub hf hp (hl' q hq) hm (a q hq)).1
      · rintro ⟨a, b, c⟩
        exact ⟨fun q hq => meet_both hf hp (hl' q hq) hm (a q (by simp [hq])) (b q hq), c⟩
    · rename_i hm
      simp only [Option.isSome_none, Bool.false_eq_true, false_iff]
      rintro ⟨a, _⟩
      exact hm (a p (by simp))
theorem lightG_some {l : List (G × G)} (h0 : l ≠ []) (hl : ∀ p ∈ l, p.1 ≠ 0) : (lightG l).isSome = true ↔ l.Pairwise fun p q => Meet p.1 p.2 q.1 q.2 := by
  cases l with
  | nil => exact absurd rfl h0
  | cons p l =>
    have hp := hl p (by simp)
    have hl' : ∀ q ∈ l, q.1 ≠ 0 := fun q hq => hl q (by simp [hq])
    show (lightF _ l).isSome = true ↔ _
    rw [lightF_some (l := l) (f := (qt p.1, fb p.1 p.2)) (qt_ne hp) hl', List.pairwise_cons]
    constructor
    · rintro ⟨a, b⟩
      exact ⟨fun q hq => (meet_form hp (hl' q hq)).mp (a q hq), b⟩
    · rintro ⟨a, b⟩
      exact ⟨fun q hq => (meet_form hp (hl' q hq)).mpr (a q hq), b⟩
theorem lightG_on {l : List (G × G)} {g : G × G} (hl : ∀ p ∈ l, p.1 ≠ 0) (h : lightG l = some g) : g.1 ≠ 0 ∧ ∀ z, On g.1 g.2 z ↔ ∀ p ∈ l, On p.1 p.2 z := by
  cases l with
  | nil => cases h
  | cons p l =>
    have hp := hl p (by simp)
    obtain ⟨h1, h2⟩ := lightF_on (l := l) (f := (qt p.1, fb p.1 p.2)) (qt_ne hp) (fun q hq => hl q (by simp [hq])) h
    refine ⟨h1, fun z => ?_⟩
    rw [h2 z, on_fb hp]
    simp
/-! ### lists, frozen or not -/
def LV (M : Mem) (d : D) (xs : List D) : Prop := d = .lst xs ∨ ∃ r, d = .ref r ∧ Mem.cont M r = some xs
theorem LV.lst {M : Mem} {xs : List D} : LV M (.lst xs) xs := .inl rfl
theorem LV.ref {M : Mem} {xs : List D} {r : Nat} (h : Mem.cont M r = some xs) : LV M (.ref r) xs := .inr ⟨r, rfl, h⟩
section
variable {M : Mem} {d : D} {xs : List D} {m : Bool}
theorem LV.live (h : LV M d xs) : live d M = true := by
  rcases h with rfl | ⟨r, rfl, e⟩
  · rfl
  · exact live_of e
theorem LV.kind (h : LV M d xs) : isKind .list d = true := by
  rcases h with rfl | ⟨r, rfl, e⟩ <;> rfl
theorem LV.itemsL (h : LV M d xs) : itemsL M d = some xs := by
  rcases h with rfl | ⟨r, rfl, e⟩
  · rfl
  · exact e
theorem LV.itemsS (h : LV M d xs) : itemsS M d = some xs := by
  rcases h with rfl | ⟨r, rfl, e⟩
  · rfl
  · exact e
theorem LV.len (h : LV M d xs) : primop m .len [d] M = .ok (.int (xs.length : Nat)) M := by
  rcases h with rfl | ⟨r, rfl, e⟩
  · rfl
  · simp only [primop, Sn.itemsS, Sn.itemsL, itemsC, e]
theorem LV.ix (h : LV M d xs) {i : Int} : ixop d i M = L2.atI xs i := by
  rcases h with rfl | ⟨r, rfl, e⟩
  · exact ix_lst
  · exact ix_ref e
theorem LV.it (h : LV M d xs) : itD d M = .ok ⟨xs, refsOf d⟩ M := by
  rcases h with rfl | ⟨r, rfl, e⟩
  · rfl
  · exact itD_of e
theorem LV.sl (h : LV M d xs) {lo hi : Option Int} : slop false d lo hi M = newL false (cut xs lo hi) M := by
  rcases h with rfl | ⟨r, rfl, e⟩
  · rfl
  · simp only [slop, Sn.itemsL, itemsC, e]
theorem LV.isn (h : LV M d xs) : isnD d M = .ok (.bl false) M := by
  rcases h with rfl | ⟨r, rfl, e⟩ <;> rfl
theorem LV.repr (h : LV M d xs) {k n w : Nat} [g : Bds xs k n w] (l1 : k < 1920) (l2 : n + 3 ≤ sizeLine) (l3 : w + 1 ≤ 60) : primop m .repr [d] M = .ok (.str (toPy (.lst xs)).shown) M := by
  rcases h with rfl | ⟨r, rfl, e⟩
  · exact p_reprB (d := .lst xs) l1 l2 l3
  · exact p_repr_of e l1 l2 l3
end
/-- no False among truths -/
theorem inop_true {M : Mem} : ∀ {k : Nat}, inop (.bl false) (.lst (List.replicate k (.bl true))) M = some false := by
  intro k
  have e1 : ∀ k, py0s (List.replicate k (.bl true)) = some (List.replicate k (.bool true)) := fun k => by
    induction k with
    | zero => simp [py0s]
    | succ k ih => simp [List.replicate_succ, py0s, ih, D.py0]
  have e2 : ∀ k, PyData.canLayAll0 (List.replicate k (.bool true)) = true ∧ PyData.depthAll (List.replicate k (.bool true)) = 0 := fun k => by
    induction k with
    | zero => simp [PyData.canLayAll0, PyData.depthAll]
    | succ k ih => simp [List.replicate_succ, PyData.canLayAll0, PyData.depthAll, PyData.canLay0, PyData.depth, ih]
  have e3 : ∀ k, (List.replicate k (PyData.bool true)).any (fun q => PyData.eqv q (.bool false)) = false := fun k => by
    induction k with
    | zero => rfl
    | succ k ih => rw [List.replicate_succ, List.any_cons, ih]; rfl
  obtain ⟨c1, c2⟩ := e2 k
  have h1 : SeqAt.shaped (.bool false) = true := by simp [SeqAt.shaped, PyData.canLay0, PyData.depth]
  have h2 : SeqAt.shaped (.list (List.replicate k (.bool true))) = true := by simp [SeqAt.shaped, PyData.canLay0, PyData.depth, c1, c2]
  simp only [inop, D.py, D.py0, Sn.itemsL, itemsC, e1, h1, h2, Bool.and_self, if_true, e3]
end Sn
namespace Sn
open PySem
/-- sizes on the way to the light -/
structure Siz (j e k : Nat) (H : Nat) (f : G × G) : Prop where
  ne : f.1 ≠ 0
  s : Hz f.1 j
  sd : Dn f.1 H
  bd : Dn f.2 e
  b : Hz f.2 k
theorem Siz.step {j e k H : Nat} {f p : G × G} (h : Siz j e k H f) (hp : p.1 ≠ 0) (ps : Hz p.1 H) (pb : Hz p.2 H) (hm : Meet f.1 f.2 p.1 p.2) :
    Siz (j + H + H + 1) (e + H + H) ((j + H + H + 1) + (j + H + H + 1) + (e + H) + 1) H (jt f.1 p.1, mb f.1 f.2 p.1 p.2) := by
  obtain ⟨m1, m2⟩ := mb_small h.ne hp hm h.s h.sd h.bd ps ps.dn
  have hs := h.s
  exact ⟨jt_ne h.ne hp, Hz.jtz h.ne hp, Dn.jt h.ne hp ps.dn, m2, m1⟩
/-- a sheet told as the form -/
def Fm (f : G × G) : Prop := Q1 f.1 ∧ InD f.1 f.2
theorem fm_mb {s b t c : G} (hs : s ≠ 0) (ht : t ≠ 0) (h : Meet s b t c) : Fm (jt s t, mb s b t c) := by
  have hj := jt_ne hs ht
  obtain ⟨z, o1, o2⟩ := (meet_iff hs ht).mp h
  have hq : qt (jt s t) = jt s t := jt_qt hs ht
  have h1 := qt_q1 hj
  rw [hq] at h1
  refine ⟨h1, ?_⟩
  show InD (jt s t) (mb s b t c)
  rw [mb_of hs ht o1 o2]
  have := ind_fb hj z
  rw [hq] at this
  exact this
theorem fm_fb {s b : G} (hs : s ≠ 0) : Fm (qt s, fb s b) := ⟨qt_q1 hs, ind_fb hs b⟩
theorem Fm.qt {f : G × G} (h : Fm f) : qt f.1 = f.1 := qt_of_q1 h.1
theorem Fm.fb {f : G × G} (h : Fm f) : Sn.fb f.1 f.2 = f.2 := by
  have h0 := h.1.ne
  refine fb_is h0 (by rw [h.qt]; exact h.2) ?_
  have : (f.2 - f.2) / f.1 = 0 := by grind
  rw [this]; exact .zero
/-- forms with the same holes are the same -/
theorem fm_eq {f g : G × G} (h : Fm f) (k : Fm g) (e : ∀ z, On f.1 f.2 z ↔ On g.1 g.2 z) : f = g := by
  have hf := h.1.ne
  have hg := k.1.ne
  have step : ∀ {s b t c : G}, s ≠ 0 → t ≠ 0 → (∀ z, On s b z ↔ On t c z) → Zi (s / t) := fun {s b t c} hs ht e => by
    have h1 : On t c b := (e b).mp (on_base hs)
    have h2 : On t c (b + s) := (e _).mp (by
      unfold On
      have : (b + s - b) / s = 1 := by grind
      rw [this]; exact .one)
    unfold On at h1 h2
    have : s / t = (b + s - c) / t - (b - c) / t := by grind
    rw [this]; exact h2.sub h1
  have a1 := step hf hg e
  have a2 := step hg hf (fun z => (e z).symm)
  have hu : Un (f.1 / g.1) := un_of a1 (by grind) (by
    have : 1 / (f.1 / g.1) = g.1 / f.1 := by grind
    rw [this]; exact a2)
  have e1 : f.1 = g.1 := by
    have h5 : f.1 = (f.1 / g.1) * g.1 := by grind
    have h6 := qt_mul hg hu
    rw [← h5, h.qt, k.qt] at h6
    exact h6
  have e2 : f.2 = g.2 := by
    have o1 : On g.1 g.2 f.2 := (e f.2).mp (on_base hf)
    have := fb_on hg o1
    rw [k.fb, ← e1, h.fb] at this
    exact this
  exact Prod.ext e1 e2
theorem lightF_siz {H : Nat} (hH : H ≤ 100) : ∀ {l : List (G × G)} {f g : G × G} {j e k : Nat}, Good H l → Siz j e k H f → Fm f → j + l.length * 201 ≤ 1200 → e + l.length * 200 ≤ 1200 → k ≤ 4000 → lightF f l = some g → Siz 1200 1200 4000 H g ∧ Fm g
  | [], f, g, j, e, k, _, hs, hf, l1, l2, l3, h => by
    simp only [lightF, Option.some.injEq] at h
    subst h
    exact ⟨⟨hs.ne, hs.s.mono (by omega), hs.sd, hs.bd.mono (by omega), hs.b.mono l3⟩, hf⟩
  | p :: l, f, g, j, e, k, hG, hs, hf, l1, l2, l3, h => by
    simp only [lightF] at h
    rw [List.length_cons] at l1 l2
    split at h
    · rename_i hm
      have hp := hG.ne p (by simp)
      exact lightF_siz hH hG.tail (hs.step hp (hG.s p (by simp)) (hG.b p (by simp)) hm) (fm_mb hs.ne hp hm) (by omega) (by omega) (by omega) h
    · cases h
theorem first_siz {H : Nat} {p : G × G} (h0 : p.1 ≠ 0) (hs : Hz p.1 H) (hb : Hz p.2 H) : Siz H (H + H) (H + H + H + 1) H (Sn.qt p.1, Sn.fb p.1 p.2) :=
  ⟨qt_ne h0, inferInstance, hs.dn.qt, Dn.fb h0 hs.dn hb.dn, Hz.fb2 h0 hs hb.dn⟩
theorem lightG_siz {H : Nat} (hH : H ≤ 100) {l : List (G × G)} {g : G × G} (hG : Good H l) (hl : l.length ≤ 6) (h : lightG l = some g) : Siz 1200 1200 4000 H g ∧ Fm g := by
  cases l with
  | nil => cases h
  | cons p l =>
    have hp := hG.ne p (by simp)
    rw [List.length_cons] at hl
    exact lightF_siz hH hG.tail (first_siz hp (hG.s p (by simp)) (hG.b p (by simp))) (fm_fb hp) (by omega) (by omega) (by omega) h
end Sn
/-! Sn, part Zk: rows; whether a place is a hole, by rests. -/
namespace Sn
open PySem
theorem gcd_gi (z : G) : Int.gcd (gx (gi * z)) (gy (gi * z)) = Int.gcd (gx z) (gy z) := by
  obtain ⟨a1, a2, _⟩ := gi_parts z
  rw [a1, a2, Int.neg_gcd, Int.gcd_comm]
theorem gcd_neg' (z : G) : Int.gcd (gx (-z)) (gy (-z)) = Int.gcd (gx z) (gy z) := by
  obtain ⟨a1, a2, _⟩ := neg_parts z
  rw [a1, a2, Int.neg_gcd, Int.gcd_neg]
theorem qt_parts (z : G) : Int.gcd (gx (qt z)) (gy (qt z)) = Int.gcd (gx z) (gy z) ∧ gp (qt z) = gp z := by
  obtain ⟨_, _, a3⟩ := gi_parts z
  obtain ⟨_, _, b3⟩ := neg_parts z
  obtain ⟨_, _, c3⟩ := neg_parts (gi * z)
  unfold qt
  split
  · exact ⟨rfl, rfl⟩
  · split
    · exact ⟨gcd_gi z, a3⟩
    · split
      · exact ⟨gcd_neg' z, b3⟩
      · exact ⟨(gcd_neg' _).trans (gcd_gi z), c3.trans a3⟩
theorem gq_qt (z : G) : gq (qt z) = gq z := by
  obtain ⟨h1, h2⟩ := qt_parts z
  unfold gq
  rw [h1, h2]
theorem wq_qt (z : G) : wq (qt z) = wq z := by
  unfold wq
  rw [gq_qt, qt_nrm]
/-- the slant of the rows -/
structure Slant (s : G) (r : Rat) : Prop where
  lo : 0 ≤ r
  hi : r < wq s
  on : Zi ((⟨r, gq s⟩ : G) / s)
theorem gq_pos {s : G} (h : s ≠ 0) : 0 < gq s := by
  obtain ⟨g, x', y', hg, eg, _⟩ := gcd_parts (nz_parts h)
  unfold gq
  rw [← eg, Rat.div_def]
  exact Rat.mul_pos (Rat.intCast_pos.mpr hg) (Rat.inv_pos.mpr (Rat.intCast_pos.mpr (gp_pos s)))
theorem Slant.unique {s : G} (h : s ≠ 0) {r t : Rat} (a : Slant s r) (b : Slant s t) : r = t := by
  have hp := gq_pos h
  have i1 : InD s ⟨r, 0⟩ := ⟨Rat.le_refl, hp, a.lo, a.hi⟩
  have i2 : InD s ⟨t, 0⟩ := ⟨Rat.le_refl, hp, b.lo, b.hi⟩
  have e : ((⟨t, 0⟩ : G) - ⟨r, 0⟩) / s = (⟨t, gq s⟩ : G) / s - (⟨r, gq s⟩ : G) / s := by
    have : (⟨t, 0⟩ : G) - ⟨r, 0⟩ = (⟨t, gq s⟩ : G) - ⟨r, gq s⟩ := G.ext rfl (by show (0 : Rat) - 0 = gq s - gq s; grind)
    rw [this]; grind
  have := ind_unique h i1 i2 (by rw [e]; exact b.on.sub a.on)
  exact congrArg G.re this
theorem slant_of {s : G} (h : s ≠ 0) {g W S : Int} (hg : 0 < g) (eg : g = ((Int.gcd (gx s) (gy s) : Nat) : Int)) (hW : W * g = gx s * gx s + gy s * gy s) (h0 : 0 ≤ S) (h1 : S < W) (hz : Zi (gz S g (gp s) / s)) : Slant s ((S : Rat) / (gp s : Rat)) := by
  have hp : (0 : Rat) < (gp s : Rat) := Rat.intCast_pos.mpr (gp_pos s)
  refine ⟨?_, ?_, ?_⟩
  · rw [Rat.div_def]
    exact Rat.mul_nonneg (Rat.intCast_nonneg.mpr h0) (Rat.le_of_lt (Rat.inv_pos.mpr hp))
  · rw [wq_eq hg eg hW, Rat.div_lt_iff hp, Rat.div_mul_cancel (Rat.ne_of_gt hp)]
    exact lt_rat h1
  · have : (⟨(S : Rat) / (gp s : Rat), gq s⟩ : G) = gz S g (gp s) := G.ext rfl (by show gq s = (g : Rat) / gp s; unfold gq; rw [eg])
    rw [this]; exact hz
/-- the rows' place by the integers' factors -/
theorem slant_zi {s : G} (h : s ≠ 0) {g W l r k : Int} (hg : 0 < g) (eg : g = ((Int.gcd (gx s) (gy s) : Nat) : Int)) (h1 : gy s * l + gx s * r = g) (hW : W * g = gx s * gx s + gy s * gy s) : Zi (gz (gx s * l - gy s * r - k * W) g (gp s) / s) := by
  obtain ⟨g', x', y', hg', eg', ex, ey, _⟩ := gcd_parts (nz_parts h)
  have e : g' = g := by rw [eg, eg']
  subst e
  have hW' : W = gx s * x' + gy s * y' := by
    have : W * g' = (gx s * x' + gy s * y') * g' := by
      rw [hW]
      have a1 : gx s * gx s = gx s * (g' * x') := by rw [← ex]
      have a2 : gy s * gy s = gy s * (g' * y') := by rw [← ey]
      rw [a1, a2]; grind
    exact Int.eq_of_mul_eq_mul_right (by omega) this
  refine (zi_div h).mpr ⟨⟨l - k * x', r + k * y'⟩, ?_⟩
  have := gz_mul (a := gx s) (b := gy s) (p := gp s) (c := l - k * x') (d := r + k * y') (q := 1) (gp_ne s) (by decide)
  rw [gz_out] at this
  unfold gw
  rw [this]
  have k1 : gx s * l - gy s * r - k * W = gx s * (l - k * x') - gy s * (r + k * y') := by rw [hW']; grind
  have k2 : g' = gx s * (r + k * y') + gy s * (l - k * x') := by
    have k3 : gx s * y' = gy s * x' := by
      have : g' * (gx s * y') = g' * (gy s * x') := by
        have a1 : gx s * (g' * y') = gx s * gy s := by rw [← ey]
        have a2 : gy s * (g' * x') = gy s * gx s := by rw [← ex]
        grind
      exact Int.eq_of_mul_eq_mul_left (by omega) this
    grind
  have k0 : gz (gx s * l - gy s * r - k * W) g' (gp s) = gz (gx s * (l - k * x') - gy s * (r + k * y')) (gx s * (r + k * y') + gy s * (l - k * x')) (gp s) := by rw [← k1, ← k2]
  rw [k0, Int.mul_one]
theorem slant_ex {s : G} {j : Nat} (h : s ≠ 0) (hs : Hz s j) : ∃ r, Slant s r ∧ Hq r (j + j + 1) := by
  obtain ⟨g, x', y', hg, eg, ex, ey, l, r, h1⟩ := gcd_parts (nz_parts h)
  have hW : (g * (x' * x' + y' * y')) * g = gx s * gx s + gy s * gy s := by
    have : gx s * gx s + gy s * gy s = g * x' * (g * x') + g * y' * (g * y') := by rw [← ex, ← ey]
    rw [this]; grind
  have hn := nz_sq h
  have hW0 : 0 < g * (x' * x' + y' * y') := by
    rw [← hW] at hn
    exact Int.pos_of_mul_pos_left hn hg
  obtain ⟨b1, b2, b3⟩ := hs.all
  have hN := n_lt (z := ⟨gx s, gy s⟩) b1 b2
  have hN' : gx s * gx s + gy s * gy s < 2 * ((2 ^ j) * (2 ^ j)) := hN
  have hWl : g * (x' * x' + y' * y') ≤ gx s * gx s + gy s * gy s := by
    have := Int.mul_le_mul_of_nonneg_left (show 1 ≤ g by omega) (Int.le_of_lt hW0)
    rw [hW] at this
    omega
  generalize g * (x' * x' + y' * y') = W at *
  have a1 := Int.mul_fdiv_add_fmod (gx s * l - gy s * r) W
  have a2 := Int.fmod_nonneg_of_pos (gx s * l - gy s * r) hW0
  have a3 := Int.fmod_lt_of_pos (gx s * l - gy s * r) hW0
  have em : (gx s * l - gy s * r).fmod W = gx s * l - gy s * r - (gx s * l - gy s * r).fdiv W * W := by
    have : (gx s * l - gy s * r).fdiv W * W = W * (gx s * l - gy s * r).fdiv W := Int.mul_comm ..
    omega
  have hz := slant_zi (k := (gx s * l - gy s * r).fdiv W) h hg eg h1 hW
  rw [← em] at hz
  refine ⟨_, slant_of h hg eg hW a2 a3 hz, _, _, gp_pos s, rfl, ?_, pow_up b3 (by omega)⟩
  have e2 : ((2 : Int) ^ (j + j + 1)) = 2 * ((2 ^ j) * (2 ^ j)) := by rw [Int.pow_succ, Int.pow_add]; grind
  have e3 : ((2 : Int) ^ (j + j + 1)) = ((2 ^ (j + j + 1) : Nat) : Int) := by simp
  omega
/-- a place is whole just if both rests are nought -/
theorem zi_rest {a b c : Int} (hc : 0 < c) : Zi (gz a b c) ↔ a.fmod c = 0 ∧ b.fmod c = 0 := by
  constructor
  · rintro ⟨w, hw⟩
    unfold gw at hw
    obtain ⟨h1, h2⟩ := gz_inj (by omega) (by decide) hw
    rw [Int.mul_one] at h1 h2
    rw [h1, h2]
    exact ⟨Int.mul_fmod_left .., Int.mul_fmod_left ..⟩
  · rintro ⟨h1, h2⟩
    have e1 := Int.mul_fdiv_add_fmod a c
    have e2 := Int.mul_fdiv_add_fmod b c
    refine ⟨⟨a.fdiv c, b.fdiv c⟩, ?_⟩
    unfold gw
    exact gz_eq (by omega) (by decide) (by grind) (by grind)
theorem hole_rest {s b z : G} (h : s ≠ 0) : gz (((gx z * gp b - gx b * gp z) * gx s + (gy z * gp b - gy b * gp z) * gy s) * gp s) (((gy z * gp b - gy b * gp z) * gx s - (gx z * gp b - gx b * gp z) * gy s) * gp s) (gp z * gp b * (gx s * gx s + gy s * gy s)) = (z - b) / s := by
  have hS : gx s * gx s + gy s * gy s ≠ 0 := by have := nz_sq h; omega
  have h1 : gz (gx z * gp b - gx b * gp z) (gy z * gp b - gy b * gp z) (gp z * gp b) = z - b := by
    have h2 := gz_add (a := gx z) (b := gy z) (p := gp z) (c := -gx b) (d := -gy b) (q := gp b) (gp_ne z) (gp_ne b)
    rw [← gz_neg, gz_out, gz_out] at h2
    have e : z - b = z + -b := by grind
    rw [e, h2]
    congr 1 <;> grind
  have h3 := gz_div (a := gx z * gp b - gx b * gp z) (b := gy z * gp b - gy b * gp z) (p := gp z * gp b) (c := gx s) (d := gy s) (q := gp s) (Int.mul_ne_zero (gp_ne z) (gp_ne b)) (gp_ne s) hS
  rw [h1, gz_out] at h3
  exact h3.symm
/-- the share: one by the square length -/
theorem qf_inv {r : Rat} (h : 0 < r) : (.tup [.int (r.den : Int), .int r.num] : D) = qf (1 / r) := by
  have hn : 0 < r.num := by
    have h1 : 0 ≤ r.num := Rat.num_nonneg.mpr (Rat.le_of_lt h)
    have h2 : r.num ≠ 0 := fun e => by rw [Rat.num_eq_zero] at e; rw [e] at h; exact absurd h Rat.lt_irrefl
    omega
  have e : (1 / r) = ((r.den : Int) : Rat) / (r.num : Rat) := by
    have h1 : r = (r.num : Rat) / ((r.den : Int) : Rat) := by
      have := Rat.num_divInt_den r
      rw [Rat.divInt_eq_div] at this
      exact this.symm
    have a := rat_ne (show r.num ≠ 0 by omega)
    have b := rat_ne (show (r.den : Int) ≠ 0 by have := r.den_nz; omega)
    generalize hx : (r.num : Rat) = x at *
    generalize hy : ((r.den : Int) : Rat) = y at *
    rw [h1]; grind
  rw [e, ← fr_qf hn]
  unfold fr
  have hg : Int.gcd (r.den : Int) r.num = 1 := by
    have := r.reduced
    rw [Int.gcd_comm, Int.gcd_eq_natAbs_gcd_natAbs]
    simpa using this
  rw [hg]
  simp
theorem lightF_siz' {H K : Nat} : ∀ {l : List (G × G)} {f g : G × G} {j e k : Nat}, Good H l → Siz j e k H f → Fm f → k ≤ K → 2 * (j + l.length * (H + H + 1)) + e + l.length * (H + H) + H + 1 ≤ K → lightF f l = some g → Siz (j + l.length * (H + H + 1)) (e + l.length * (H + H)) K H g ∧ Fm g
  | [], f, g, j, e, k, _, hs, hf, l1, _, h => by
    simp only [lightF, Option.some.injEq] at h
    subst h
    exact ⟨⟨hs.ne, hs.s.mono (by simp), hs.sd, hs.bd.mono (by simp), hs.b.mono l1⟩, hf⟩
  | p :: l, f, g, j, e, k, hG, hs, hf, l1, l2, h => by
    simp only [lightF] at h
    rw [List.length_cons, Nat.add_mul, Nat.add_mul, Nat.one_mul, Nat.one_mul] at l2
    split at h
    · rename_i hm
      have hp := hG.ne p (by simp)
      have h0 : 0 ≤ l.length * (H + H + 1) := Nat.zero_le _
      obtain ⟨r1, r2⟩ := lightF_siz' (K := K) hG.tail (hs.step hp (hG.s p (by simp)) (hG.b p (by simp)) hm) (fm_mb hs.ne hp hm) (by omega) (by omega) h
      refine ⟨?_, r2⟩
      rw [List.length_cons, Nat.add_mul, Nat.add_mul, Nat.one_mul, Nat.one_mul]
      exact ⟨r1.ne, r1.s.mono (by omega), r1.sd, r1.bd.mono (by omega), r1.b⟩
    · cases h
end Sn
namespace Sn
open PySem
theorem comp_filter2 {n : Nat} {env : Slots} {M M1 : Mem} {own : List Nat} {elt c : E} {tg : Tg} {it : Src} {w : Wk} (f : D → Option D) (hi : evIt n it env M = .ok w M1)
    (h : ∀ x ∈ w.items, ∃ env2 b, tg.put x (wipes env own) = some env2 ∧ evE n c env2 M1 = .ok (.bl b) M1 ∧ (b = true → ∃ y, f x = some y ∧ evE n elt env2 M1 = .ok y M1) ∧ (b = false → f x = none)) (l : w.items.length ≤ sizeLine) :
    evE n (.comp false own elt tg it (.some c)) env M = .ok (.lst (w.items.filterMap f)) M1 := by
  rw [evE, hi]
  show Res.bind (compL w.refs M1 _ w.items [] M1) _ = _
  rw [compL_filter (f := f) w.items [] (fun x hx => by
    obtain ⟨env2, b, e1, e2, e3, e4⟩ := h x hx
    rw [e1]
    show ((evC n (.some c) env2 M1).bind fun b M4 => if b = true then (evE n elt env2 M4).bind fun y M5 => Res.ok (some y) M5 else Res.ok none M4) = Res.ok (f x) M1
    rw [evC, e2]
    show (if b = true then (evE n elt env2 M1).bind fun y M5 => Res.ok (some y) M5 else Res.ok none M1) = Res.ok (f x) M1
    cases b with
    | true =>
      obtain ⟨y, e5, e6⟩ := e3 rfl
      rw [if_pos rfl, e6, e5]
      rfl
    | false =>
      rw [if_neg Bool.false_ne_true, e4 rfl]) (by simpa using l)]
  show newL false ([] ++ w.items.filterMap f) M1 = _
  rw [List.nil_append, newL_f (Nat.le_trans (List.length_filterMap_le ..) l)]
end Sn
namespace Sn
open PySem
theorem call_pst2 {n : Nat} {name : Str} {ps N : List Str} {body : Ss} {ds : List D} {M : Mem} {d : D} {R : Mem → Prop} (hl : ds.length = ps.length ∧ ps.length ≤ N.length)
    (hb : Pst (evSs n body (fill N ds) M) fun o M' => o = .rt d ∧ MP M' ∧ M'.length = M.length ∧ R M') (hp : d.pure = true) : ∃ M', callD n (.mk name false ps N body) ds M = .ok d M' ∧ M'.length = M.length ∧ R M' := by
  obtain ⟨o, M', e, rfl, h1, h2, h3⟩ := hb
  exact ⟨M', call_to hl e hp h1 h2, h2, h3⟩
theorem hz_mono {z : G} {j k : Nat} (h : Hz z j) (l : j ≤ k) : Hz z k := h.mono l
end Sn
namespace Sn
open PySem
theorem rows_lit {s : G} {a b p g W S u v : Int} (hσ : qt s = gz a b p) (hN : Norm a b p) (h0 : ¬ (a = 0 ∧ b = 0)) (hg : 0 < g) (eg : g = ((Int.gcd a b : Nat) : Int)) (hW : W * g = a * a + b * b) (h1 : 0 ≤ S) (h2 : S < W) (e1 : S * 1 = a * u - b * v) (e2 : g * 1 = a * v + b * u) :
    gq s = (g : Rat) / (p : Rat) ∧ wq s = (W : Rat) / (p : Rat) ∧ Slant (qt s) ((S : Rat) / (p : Rat)) := by
  obtain ⟨x1, x2, x3⟩ := gz_is hN
  have hn : gz a b p ≠ 0 := gz_ne hN.ne h0
  have eg' : g = ((Int.gcd (gx (gz a b p)) (gy (gz a b p)) : Nat) : Int) := by rw [x1, x2]; exact eg
  have hW' : W * g = gx (gz a b p) * gx (gz a b p) + gy (gz a b p) * gy (gz a b p) := by rw [x1, x2]; exact hW
  refine ⟨?_, ?_, ?_⟩
  · rw [← gq_qt, hσ]; unfold gq; rw [← eg', x3]
  · rw [← wq_qt, hσ, wq_eq hg eg' hW', x3]
  · rw [hσ]
    have := slant_of hn hg eg' hW' h1 h2 (by
      rw [x3]
      refine (zi_div hn).mpr ⟨⟨u, v⟩, ?_⟩
      unfold gw
      rw [gz_mul hN.ne (by decide)]
      refine gz_eq hN.ne (by have := hN.ne; omega) ?_ ?_
      · show S * (p * 1) = (a * u - b * v) * p
        rw [← e1]; grind
      · show g * (p * 1) = (a * v + b * u) * p
        rw [← e2]; grind)
    rw [x3] at this
    exact this
theorem meet_same {s t z : G} : Meet s z t z := by
  unfold Meet
  have : (z - z) / cm s t = 0 := by grind
  rw [this]; exact .zero
theorem qf_lit {r : Rat} {a b : Int} (h : r = (a : Rat) / (b : Rat)) (hb : 0 < b) (hg : Int.gcd a b = 1) : qf r = .tup [.int a, .int b] := by
  rw [h, ← fr_qf hb]
  unfold fr
  rw [hg]
  simp
end Sn
/-! Sn, part Zl: the same holes; sheets compared. -/
namespace Sn
open PySem
theorem shaped_pp {x y z u v w : Int} : SeqAt.shaped (.tuple [.tuple [.int x, .int y, .int z], .tuple [.int u, .int v, .int w]]) = true := by
  simp [SeqAt.shaped, PyData.canLay0, PyData.canLayAll0, PyData.depth, PyData.depthAll]
open Classical in
theorem c_eq_pp {a b c d : G} {M : Mem} : cmpop .eq (.tup [nf a, nf b]) (.tup [nf c, nf d]) M = some (decide (a = c ∧ b = d)) := by
  have h1 : eqop (nf a) (nf c) M = some (decide (a = c)) := c_eq_nf (M := M)
  have h2 : eqop (nf b) (nf d) M = some (decide (b = d)) := c_eq_nf (M := M)
  rw [cmp_eq]
  unfold nf at *
  simp only [eqop, D.py, D.py0, py0s, Option.map_some, shaped_ints3, shaped_pp, Bool.and_self, if_true, PyData.eqv, PyData.eqvAll, Option.some.injEq] at h1 h2 ⊢
  rw [h1, h2]
  simp
open Classical in
theorem c_ne_pp {a b c d : G} {M : Mem} : cmpop .ne (.tup [nf a, nf b]) (.tup [nf c, nf d]) M = some (!decide (a = c ∧ b = d)) := by
  have h : eqop (.tup [nf a, nf b]) (.tup [nf c, nf d]) M = some (decide (a = c ∧ b = d)) := c_eq_pp (M := M)
  rw [cmp_ne, h]
  rfl
theorem nf_is {z : G} {a b : Int} : (gx z = a ∧ gy z = b ∧ gp z = 1) ↔ z = gz a b 1 := by
  have e := pl_gw (a := a) (b := b)
  constructor
  · rintro ⟨rfl, rfl, h⟩
    have := gz_out z
    rw [h] at this
    exact this.symm
  · intro h
    have e : nf z = .tup [.int a, .int b, .int 1] := by rw [h]; exact e.symm
    unfold nf at e
    simp only [D.tup.injEq, List.cons.injEq, D.int.injEq, and_true] at e
    exact e
open Classical in
theorem in_units {z : G} {M : Mem} : inop (nf z) (.lst [nf 1, .tup [.int 0, .int 1, .int 1], .tup [.int (-1), .int 0, .int 1], .tup [.int 0, .int (-1), .int 1]]) M = some (decide (Un z)) := by
  have e1 : gz 1 0 1 = 1 := gz1
  have e2 : gz 0 1 1 = gi := gz_gi
  have e3 : gz (-1) 0 1 = -1 := by rw [← gz1, gz_neg]; rfl
  have e4 : gz 0 (-1) 1 = -gi := by rw [← gz_gi, gz_neg]; rfl
  have hl : SeqAt.shaped (.list [.tuple [.int 1, .int 0, .int 1], .tuple [.int 0, .int 1, .int 1], .tuple [.int (-1), .int 0, .int 1], .tuple [.int 0, .int (-1), .int 1]]) = true := by
    simp [SeqAt.shaped, PyData.canLay0, PyData.canLayAll0, PyData.depth, PyData.depthAll]
  rw [← nf_l1]
  unfold nf
  simp only [inop, D.py, D.py0, py0s, Sn.itemsL, itemsC, Option.map_some, shaped_ints3, hl, Bool.and_self, if_true, PyData.eqv, PyData.eqvAll, List.any_cons, List.any_nil]
  congr 1
  have k : ∀ a b : Int, ((a == gx z) && ((b == gy z) && (((1 : Int) == gp z) && true))) = decide (z = gz a b 1) := fun a b => by
    rw [Bool.eq_iff_iff]
    simp only [Bool.and_true, Bool.and_eq_true, beq_iff_eq, decide_eq_true_eq]
    rw [← nf_is]
    constructor
    · rintro ⟨a, b, c⟩; exact ⟨a.symm, b.symm, c.symm⟩
    · rintro ⟨a, b, c⟩; exact ⟨a.symm, b.symm, c.symm⟩
  rw [k, k, k, k, e1, e2, e3, e4]
  unfold Un
  simp
theorem zi_sub2 {z w : G} (h : Zi z) (g : Zi w) : Zi (z - w) := by
  have : z - w = z + -w := by grind
  rw [this]; exact h.add g.neg
theorem same_iff {s b t c : G} (hs : s ≠ 0) (ht : t ≠ 0) : (qt s = qt t ∧ fb s b = fb t c) ↔ Un (s / t) ∧ Zi ((c - b) / s) := by
  constructor
  · rintro ⟨h1, h2⟩
    obtain ⟨e, he, e1⟩ := qt_un s
    obtain ⟨f, hf, f1⟩ := qt_un t
    have hu : Un (s / t) := by
      have := hf.mul he.inv
      have h0 := he.ne
      have e2 : s / t = f * (1 / e) := by grind
      rw [e2]; exact this
    refine ⟨hu, ?_⟩
    have a1 := (fb_ex hs b).2
    have a2 := (fb_ex ht c).2
    rw [h2] at a1
    have e3 : s = s / t * t := by grind
    have a3 : Zi ((fb t c - c) / s) := by
      rw [e3]
      exact (zi_unit hu ht).mpr a2
    have e4 : (c - b) / s = (fb t c - b) / s - (fb t c - c) / s := by grind
    rw [e4]
    exact zi_sub2 a1 a3
  · rintro ⟨hu, h⟩
    have e3 : s = s / t * t := by grind
    have h1 : qt s = qt t := by
      conv => lhs; rw [e3]
      exact qt_mul ht hu
    refine ⟨h1, fb_is hs ?_ ?_⟩
    · rw [h1]; exact (fb_ex ht c).1
    · have a2 := (fb_ex ht c).2
      have a3 : Zi ((fb t c - c) / s) := by
        rw [e3]
        exact (zi_unit hu ht).mpr a2
      have e4 : (fb t c - b) / s = (fb t c - c) / s + (c - b) / s := by grind
      rw [e4]
      exact a3.add h
end Sn
namespace Sn
open PySem
open Classical in
/-- the same holes -/
noncomputable def sameB (s b t c : G) : Bool := decide (Un (s / t) ∧ Zi ((c - b) / s))
open Classical in
theorem sameB_t {s b t c : G} : sameB s b t c = true ↔ Un (s / t) ∧ Zi ((c - b) / s) := by
  unfold sameB; exact decide_eq_true_iff
theorem same_dec {s b t c : G} [Decidable (qt s = qt t ∧ fb s b = fb t c)] (hs : s ≠ 0) (ht : t ≠ 0) : decide (qt s = qt t ∧ fb s b = fb t c) = sameB s b t c := by
  rw [Bool.eq_iff_iff, sameB_t, decide_eq_true_iff]
  exact same_iff hs ht
theorem sameB_comm {s b t c : G} (hs : s ≠ 0) (ht : t ≠ 0) : sameB t c s b = sameB s b t c := by
  rw [Bool.eq_iff_iff, sameB_t, sameB_t, ← same_iff hs ht, ← same_iff ht hs]
  constructor
  · rintro ⟨a, b⟩; exact ⟨a.symm, b.symm⟩
  · rintro ⟨a, b⟩; exact ⟨a.symm, b.symm⟩
theorem same_form {s b t c : G} (hs : s ≠ 0) (ht : t ≠ 0) (h : sameB s b t c = true) : qt s = qt t ∧ fb s b = fb t c := (same_iff hs ht).mpr (sameB_t.mp h)
theorem form_form {s b : G} (hs : s ≠ 0) : qt (qt s) = qt s ∧ fb (qt s) (fb s b) = fb s b := by
  refine ⟨qt_qt hs, fb_is (qt_ne hs) ?_ ?_⟩
  · rw [qt_qt hs]; exact (fb_ex hs b).1
  · have : fb s b - fb s b = 0 := by grind
    rw [this]
    exact (zi_div (qt_ne hs)).mpr ⟨0, by rw [gw0]; grind⟩
theorem same_own {s b : G} (hs : s ≠ 0) : sameB (qt s) (fb s b) s b = true := by
  obtain ⟨h1, h2⟩ := form_form (b := b) hs
  exact sameB_t.mpr ((same_iff (qt_ne hs) hs).mp ⟨h1, h2⟩)
theorem same_twin {s b c e : G} (hs : s ≠ 0) (he : Un e) (h : Zi ((c - b) / s)) : sameB s b (e * s) c = true := by
  refine sameB_t.mpr ⟨?_, h⟩
  have h0 := he.ne
  have : s / (e * s) = 1 / e := by grind
  rw [this]; exact he.inv
end Sn
/-! Sn, part Zm: loops that may return; the first dark pair. -/
namespace Sn
open PySem
theorem for_ixR {refs : List Nat} {M0 : Mem} {body : D → Slots → Mem → Res Out} (I : Nat → Slots → Mem → Prop) (R : D → Mem → Prop) : ∀ (xs : List D) (k : Nat), (∀ i x, xs[i]? = some x → ∀ env M, I (k + i) env M → (∃ env' M', body x env M = .ok (.nx env') M' ∧ stays refs M0 M' ∧ I (k + i + 1) env' M') ∨ ∃ d M', body x env M = .ok (.rt d) M' ∧ R d M') →
    ∀ env M, I k env M → (∃ env' M', forL refs M0 body xs env M = .ok (.nx env') M' ∧ I (k + xs.length) env' M') ∨ ∃ d M', forL refs M0 body xs env M = .ok (.rt d) M' ∧ R d M'
  | [], k, _, env, M, h => .inl ⟨env, M, by rw [forL], h⟩
  | x :: xs, k, hb, env, M, h => by
    rcases hb 0 x rfl env M h with ⟨env1, M1, e1, st, h1⟩ | ⟨d, M1, e1, h1⟩
    · rcases for_ixR I R xs (k + 1) (fun i y hy env M hi => by
        have e : k + 1 + i = k + (i + 1) := by omega
        rw [e] at hi ⊢
        exact hb (i + 1) y hy env M hi) env1 M1 h1 with ⟨env2, M2, e2, h2⟩ | ⟨d, M2, e2, h2⟩
      · refine .inl ⟨env2, M2, ?_, ?_⟩
        · rw [forL, e1]
          dsimp only
          rw [if_pos st, e2]
        · have e : k + (x :: xs).length = k + 1 + xs.length := by rw [List.length_cons]; omega
          rw [e]; exact h2
      · refine .inr ⟨d, M2, ?_, h2⟩
        rw [forL, e1]
        dsimp only
        rw [if_pos st, e2]
    · refine .inr ⟨d, M1, ?_, h1⟩
      rw [forL, e1]
theorem wp_forR {n : Nat} {t : Tg} {it : Src} {b : Ss} {f : Slots → Mem → Res Out} {env : Slots} {M M1 : Mem} {w : Wk} {Q : Out → Mem → Prop} (I : Nat → Slots → Mem → Prop) (R : D → Mem → Prop) (hi : evIt n it env M = .ok w M1) (h0 : I 0 env M1)
    (hb : ∀ i x, w.items[i]? = some x → ∀ env M, I i env M → ∃ env2, t.put x env = some env2 ∧ Pst (evSs n b env2 M) fun o M' => (∃ env', o = .nx env' ∧ stays w.refs M1 M' ∧ I (i + 1) env' M') ∨ ∃ d, o = .rt d ∧ R d M')
    (hq : ∀ d M', R d M' → Q (.rt d) M')
    (hr : ∀ env M, I w.items.length env M → Pst (f env M) Q) : Pst (outS (seqT (evS n (.for t it b) env M) f)) Q := by
  rw [es_for hi]
  rcases for_ixR (refs := w.refs) (M0 := M1) (body := fun x env2 M2 => (ofO (t.put x env2) M2).bind fun env3 M3 => evSs n b env3 M3) I R w.items 0 (fun i x hx env M hI => by
    rw [Nat.zero_add] at hI ⊢
    obtain ⟨env2, e2, o, M', e3, h⟩ := hb i x hx env M hI
    rcases h with ⟨env', rfl, st, h⟩ | ⟨d, rfl, h⟩
    · refine .inl ⟨env', M', ?_, st, h⟩
      rw [e2]
      exact e3
    · refine .inr ⟨d, M', ?_, h⟩
      rw [e2]
      exact e3) env M1 h0 with ⟨env', M', e, h⟩ | ⟨d, M', e, h⟩
  · rw [e]
    rw [Nat.zero_add] at h
    exact hr env' M' h
  · rw [e]
    exact ⟨_, _, rfl, hq d M' h⟩
end Sn
/-! Sn, part Zn: the least dark pair; stacks' repr; own lists changed by place. -/
namespace Sn
open PySem
/-! ### the least pair of indices for which R does not hold -/
def IsDk (R : Nat → Nat → Prop) (m : Nat) : Option (Nat × Nat) → Prop
  | none => ∀ i j, i < j → j < m → R i j
  | some (i, j) => i < j ∧ j < m ∧ ¬ R i j ∧ ∀ i' j', i' < j' → j' < m → (i' < i ∨ i' = i ∧ j' < j) → R i' j'
theorem IsDk.uniq {R : Nat → Nat → Prop} {m : Nat} : ∀ {o o' : Option (Nat × Nat)}, IsDk R m o → IsDk R m o' → o = o'
  | none, none, _, _ => rfl
  | none, some (i, j), h, ⟨a, b, c, _⟩ => absurd (h i j a b) c
  | some (i, j), none, ⟨a, b, c, _⟩, h => absurd (h i j a b) c
  | some (i, j), some (k, l), ⟨a, b, c, d⟩, ⟨a', b', c', d'⟩ => by
    by_cases h1 : i = k
    · subst h1
      by_cases h2 : j = l
      · subst h2; rfl
      · exfalso
        by_cases h3 : j < l
        · exact c (d' i j a b (.inr ⟨rfl, h3⟩))
        · exact c' (d i l a' b' (.inr ⟨rfl, by omega⟩))
    · exfalso
      by_cases h3 : i < k
      · exact c (d' i j a b (.inl h3))
      · exact c' (d k l a' b' (.inl (by omega)))
theorem IsDk.congr {R S : Nat → Nat → Prop} {m : Nat} (e : ∀ i j, i < j → j < m → (R i j ↔ S i j)) : ∀ {o : Option (Nat × Nat)}, IsDk R m o → IsDk S m o
  | none, h => fun i j a b => (e i j a b).mp (h i j a b)
  | some (i, j), ⟨a, b, c, d⟩ => ⟨a, b, fun q => c ((e i j a b).mpr q), fun i' j' a' b' h => (e i' j' a' b').mp (d i' j' a' b' h)⟩
def dkD : Option (Nat × Nat) → D
  | none => .non
  | some (i, j) => .tup [.int (i : Nat), .int (j : Nat)]
theorem pure_dkD {o : Option (Nat × Nat)} : (dkD o).pure = true := by
  cases o with
  | none => rfl
  | some p => rfl
theorem it_range2 {n : Nat} {env : Slots} {M M1 M2 : Mem} {a b : E} {i j : Int} (h : evE n a env M = .ok (.int i) M1) (g : evE n b env M1 = .ok (.int j) M2) (r : rngOk i = true) (s : rngOk j = true) : evIt n (.range2 a b) env M = .ok ⟨rangeD i (j - i).toNat, []⟩ M2 := by
  rw [evIt, h]
  show Res.bind (evE n b env M1) _ = _
  rw [g]
  show guard (rngOk i && rngOk j) _ = _
  rw [r, s]
  rfl
theorem pairs_for {n : Nat} {c : E} {d : D} {M : Mem} {m : Nat} {R : Nat → Nat → Prop} (hlen : ∀ o1 o2, evE n (.prim false .len (.cons (.var 0) .nil)) [some d, o1, o2] M = .ok (.int (m : Nat)) M) (hm : m ≤ 1000)
    (hc : ∀ i j, i < j → j < m → ∃ b : Bool, evE n c [some d, some (.int (i : Nat)), some (.int (j : Nat))] M = .ok (.bl b) M ∧ (b = true ↔ ¬ R i j)) :
    ∃ o, IsDk R m o ∧ evSs n (.cons (.for (.nm 1) (.range1 (.prim false .len (.cons (.var 0) .nil))) (.cons (.for (.nm 2) (.range2 (.bin false .add (.var 1) (.int 1)) (.prim false .len (.cons (.var 0) .nil))) (.cons (.ite c (.cons (.ret (.tup (.cons (.var 1) (.cons (.var 2) .nil)))) .nil) (.nil)) .nil)) .nil)) (.cons (.ret (.non)) .nil)) [some d, none, none] M = .ok (.rt (dkD o)) M := by
  have main : Pst (evSs n (.cons (.for (.nm 1) (.range1 (.prim false .len (.cons (.var 0) .nil))) (.cons (.for (.nm 2) (.range2 (.bin false .add (.var 1) (.int 1)) (.prim false .len (.cons (.var 0) .nil))) (.cons (.ite c (.cons (.ret (.tup (.cons (.var 1) (.cons (.var 2) .nil)))) .nil) (.nil)) .nil)) .nil)) (.cons (.ret (.non)) .nil)) [some d, none, none] M)
      fun o M' => M' = M ∧ ∃ k, o = .rt (dkD k) ∧ IsDk R m k := by
    rw [evSs_cons]
    refine wp_forR (fun i env M' => M' = M ∧ (∃ o1 o2, env = [some d, o1, o2]) ∧ ∀ i' j', i' < i → i' < j' → j' < m → R i' j') (fun x M' => M' = M ∧ ∃ k, x = dkD k ∧ IsDk R m k) (it_range (i := (m : Int)) (hlen _ _) (rng_small hm)) ⟨rfl, ⟨_, _, rfl⟩, fun i' j' h => absurd h (by omega)⟩ ?_ ?_ ?_
    · rintro i x hx env M' ⟨rfl, ⟨o1, o2, rfl⟩, hi⟩
      obtain ⟨rfl, hi0⟩ := range0_at hx
      have him : i < m := by have : ((m : Int)).toNat = m := by omega
                             omega
      refine ⟨_, rfl, ?_⟩
      show Pst (evSs n _ [some d, some (.int (i : Nat)), o2] M') _
      rw [evSs_cons]
      have h1 : evE n (.bin false .add (.var 1) (.int 1)) [some d, some (.int (i : Nat)), o2] M' = .ok (.int ((i : Nat) + 1)) M' := by
        rw [ev_bin, ev_var]
        show out (bndT (ofO (some (D.int (i : Nat))) M') _) = _
        rw [ofO_some, bnd_ok, ev_int, bnd_ok, b_add]
      refine wp_forR (fun j env M'' => M'' = M' ∧ (∃ o2, env = [some d, some (.int (i : Nat)), o2]) ∧ ∀ j', i < j' → j' < i + 1 + j → R i j') (fun x M'' => M'' = M' ∧ ∃ k, x = dkD k ∧ IsDk R m k) (it_range2 h1 (hlen _ _) (rng_small (v := i + 1) (by omega)) (rng_small hm)) ⟨rfl, ⟨_, rfl⟩, fun j' h => (by omega)⟩ ?_ ?_ ?_
      · rintro j y hy env M'' ⟨rfl, ⟨o2', rfl⟩, hj⟩
        obtain ⟨rfl, hj0⟩ := range_at hy
        have hjm : i + 1 + j < m := by omega
        have ec : ((i : Int) + 1 + (j : Int)) = ((i + 1 + j : Nat) : Int) := by omega
        refine ⟨_, rfl, ?_⟩
        show Pst (evSs n _ [some d, some (.int (i : Nat)), some (.int ((i : Int) + 1 + (j : Int)))] M'') _
        rw [ec]
        obtain ⟨b, eb, hb⟩ := hc i (i + 1 + j) (by omega) hjm
        rw [evSs_cons, es_ite, eb, bnd_ok]
        cases b with
        | true =>
          have hn := hb.mp rfl
          rw [pick_t, evSs_cons, es_ret, ev_tup, evEs_cons, ev_var]
          show Pst (outS (seqT (outS (seqT (out (bndT (out (bndT (out (bndT (ofO (some (D.int (i : Nat))) M'') _)) _)) _)) _)) _)) _
          rw [ofO_some, bnd_ok, evEs_cons, ev_var]
          show Pst (outS (seqT (outS (seqT (out (bndT (out (bndT (out (bndT (out (bndT (ofO (some (D.int ((i + 1 + j : Nat) : Int))) M'') _)) _)) _)) _)) _)) _)) _
          rw [ofO_some, bnd_ok, evEs_nil, bnd_ok, bnd_ok, bnd_ok, newT_of (size_small (Nat.le_of_ble_eq_true rfl)), bnd_ok]
          show Pst (outS (seqT (outS (seqT (.ok (.rt _) M'') _)) _)) _
          rw [seqR_rt, seqR_rt]
          refine pst_ok (.inr ⟨_, rfl, rfl, some (i, i + 1 + j), rfl, by omega, hjm, hn, fun i' j' a1 a2 a3 => ?_⟩)
          rcases a3 with a3 | ⟨a4, a3⟩
          · exact hi i' j' a3 a1 a2
          · subst a4; exact hj j' a1 a3
        | false =>
          have hn : R i (i + 1 + j) := Classical.byContradiction fun q => by
            have := hb.mpr q
            cases this
          rw [pick_f, evSs_nil, seqR_nx, evSs_nil]
          refine pst_ok (.inl ⟨_, rfl, stays_nil, rfl, ⟨_, rfl⟩, fun j' h1 h2 => ?_⟩)
          by_cases h3 : j' < i + 1 + j
          · exact hj j' h1 h3
          · have : j' = i + 1 + j := by omega
            subst this
            exact hn
      · rintro x M'' ⟨rfl, k, rfl, hk⟩
        exact .inr ⟨_, rfl, rfl, k, rfl, hk⟩
      · rintro env M'' ⟨rfl, ⟨o2', rfl⟩, hj⟩
        have hl : (rangeD ((i : Int) + 1) (((m : Int) - ((i : Int) + 1)).toNat)).length = m - (i + 1) := by unfold rangeD; simp; omega
        have hj' : ∀ j', i < j' → j' < i + 1 + (rangeD ((i : Int) + 1) (((m : Int) - ((i : Int) + 1)).toNat)).length → R i j' := hj
        rw [hl] at hj'
        rw [evSs_nil]
        refine pst_ok (.inl ⟨_, rfl, stays_nil, rfl, ⟨_, _, rfl⟩, fun i' j' h1 h2 h3 => ?_⟩)
        by_cases h4 : i' < i
        · exact hi i' j' h4 h2 h3
        · have : i' = i := by omega
          subst this
          exact hj' j' h2 (by omega)
    · rintro x M' ⟨rfl, k, rfl, hk⟩
      exact ⟨rfl, k, rfl, hk⟩
    · rintro env M' ⟨rfl, ⟨o1, o2, rfl⟩, hi⟩
      have hl : (rangeD 0 ((m : Int)).toNat).length = m := by unfold rangeD; simp
      have hi' : ∀ i' j', i' < (rangeD 0 ((m : Int)).toNat).length → i' < j' → j' < m → R i' j' := hi
      rw [hl] at hi'
      rw [evSs_cons, es_ret, ev_non, bnd_ok]
      show Pst (outS (seqT (.ok (.rt _) M') _)) _
      rw [seqR_rt]
      exact pst_ok ⟨rfl, none, rfl, fun i' j' h1 h2 => hi' i' j' (by omega) h1 h2⟩
  obtain ⟨o, M', e, rfl, k, rfl, hk⟩ := main
  exact ⟨k, hk, e⟩
/-! ### stacks -/
/-- the sheets at two places meet -/
def MetAt (l : List (G × G)) (i j : Nat) : Prop := ∀ p q, l[i]? = some p → l[j]? = some q → Meet p.1 p.2 q.1 q.2
theorem dark_none {l : List (G × G)} {o : Option (Nat × Nat)} (h0 : l ≠ []) (hl : ∀ p ∈ l, p.1 ≠ 0) (h : IsDk (MetAt l) l.length o) : (lightG l).isSome = true ↔ o = none := by
  rw [lightG_some h0 hl, List.pairwise_iff_getElem]
  constructor
  · intro g
    cases o with
    | none => rfl
    | some p =>
      obtain ⟨i, j⟩ := p
      obtain ⟨a, b, c, _⟩ := h
      exact absurd (fun p q e1 e2 => by
        have hi : i < l.length := by omega
        rw [List.getElem?_eq_getElem hi] at e1
        rw [List.getElem?_eq_getElem b] at e2
        cases e1; cases e2
        exact g i j hi b a) c
  · rintro rfl i j hi hj hij
    exact h i j hij hj _ _ (List.getElem?_eq_getElem hi) (List.getElem?_eq_getElem hj)
theorem Bds.up {xs : List D} {k n m k' n' m' : Nat} (h : Bds xs k n m) (a : k ≤ k') (b : n ≤ n') (c : m ≤ m') : Bds xs k' n' m' := ⟨h.py, h.bare, fun l => h.shw (by omega), Nat.le_trans h.cost b, Nat.le_trans h.dep c⟩
theorem Bd.up {x : D} {k n m k' n' m' : Nat} (h : Bd x k n m) (a : k ≤ k') (b : n ≤ n') (c : m ≤ m') : Bd x k' n' m' := ⟨h.py, h.nr, h.bare, fun l => h.shw (by omega), Nat.le_trans h.cost b, Nat.le_trans h.dep c⟩
theorem bds_sh {H : Nat} : ∀ {l : List (G × G)}, Good H l → Bds (l.map sh) H (l.length * 12000) 2
  | [], _ => (inferInstance : Bds [] 0 0 0).up (by omega) (by omega) (by omega)
  | p :: l, h => by
    have g := bds_sh h.tail
    have a1 := h.s p (by simp)
    have a2 := h.b p (by simp)
    have k : Bds (sh p :: l.map sh) _ _ _ := Bds.cons (x := sh p) (xs := l.map sh) (h := (inferInstance : Bd (.tup [nf p.1, nf p.2]) _ _ _))
    rw [List.map_cons, List.length_cons]
    exact k.up (by omega) (by omega) (by omega)
theorem pures_sh : ∀ {l : List (G × G)}, pures (l.map sh) = true
  | [] => rfl
  | p :: l => by
    rw [List.map_cons]
    have : (sh p).pure = true := rfl
    simp only [pures, this, pures_sh, Bool.and_self]
theorem mpB_1 {xs : List D} (h : pures xs = true) : mpB [some xs] = true := by simp [mpB, h]
theorem Good.mono {H K : Nat} {l : List (G × G)} (h : Good H l) (i : H ≤ K) : Good K l := ⟨h.ne, fun p hp => (h.s p hp).mono i, fun p hp => (h.b p hp).mono i⟩
theorem Good.nil {H : Nat} : Good H [] := ⟨fun _ h => by simp at h, fun _ h => by simp at h, fun _ h => by simp at h⟩
theorem Good.cons {H : Nat} {p : G × G} {l : List (G × G)} (h : Good H l) (h0 : p.1 ≠ 0) (h1 : Hz p.1 H) (h2 : Hz p.2 H) : Good H (p :: l) := ⟨fun q hq => by
    rcases List.mem_cons.mp hq with rfl | hq
    · exact h0
    · exact h.ne q hq, fun q hq => by
    rcases List.mem_cons.mp hq with rfl | hq
    · exact h1
    · exact h.s q hq, fun q hq => by
    rcases List.mem_cons.mp hq with rfl | hq
    · exact h2
    · exact h.b q hq⟩
theorem Good.app {H : Nat} {l k : List (G × G)} (h : Good H l) (g : Good H k) : Good H (l ++ k) := ⟨fun q hq => (List.mem_append.mp hq).elim (h.ne q) (g.ne q), fun q hq => (List.mem_append.mp hq).elim (h.s q) (g.s q), fun q hq => (List.mem_append.mp hq).elim (h.b q) (g.b q)⟩
theorem Good.snoc {H : Nat} {p : G × G} {l : List (G × G)} (h : Good H l) (h0 : p.1 ≠ 0) (h1 : Hz p.1 H) (h2 : Hz p.2 H) : Good H (l ++ [p]) := h.app (Good.nil.cons h0 h1 h2)
theorem Good.sub {H : Nat} {l k : List (G × G)} (h : Good H l) (s : ∀ p ∈ k, p ∈ l) : Good H k := ⟨fun p hp => h.ne p (s p hp), fun p hp => h.s p (s p hp), fun p hp => h.b p (s p hp)⟩
theorem Good.set {H : Nat} {p : G × G} {l : List (G × G)} (h : Good H l) (i : Nat) (h0 : p.1 ≠ 0) (h1 : Hz p.1 H) (h2 : Hz p.2 H) : Good H (l.set i p) := (h.cons h0 h1 h2).sub fun q hq => by
  rcases List.mem_or_eq_of_mem_set hq with hq | rfl
  · simp [hq]
  · simp
/-! ### own lists by place -/
theorem ixN_nat {n j : Nat} (hj : j < n) : L2.ixN n (j : Int) = some j := by
  unfold L2.ixN
  rw [if_pos (by omega), if_pos (by omega)]
  simp
theorem set_0 {M L' : Mem} {q : Nat} (hq : M.length = q) {xs : List D} {v : D} {k : Nat} (h : k < xs.length) : setop (.ref (q + 0)) (k : Int) v (M ++ some xs :: L') = some (M ++ some (xs.set k v) :: L') := by
  subst hq
  rw [set_at (xs := xs) (j := k) (cont_loc.trans rfl) (ixN_nat h), set_loc]
  rfl
theorem sh_at {l : List (G × G)} {k : Nat} {p : G × G} (h : l[k]? = some p) : L2.atI (l.map sh) (k : Int) = some (sh p) := by
  rw [atI_cast, List.getElem?_map, h]; rfl
theorem call_own {n : Nat} {name : Str} {ps N : List Str} {body : Ss} {ds : List D} {M : Mem} {R : List D → Mem → Prop} (hl : ds.length = ps.length ∧ ps.length ≤ N.length)
    (hb : Pst (evSs n body (fill N ds) M) fun o M' => ∃ xs M1 L, o = .rt (.ref (M.length + 0)) ∧ M' = M1 ++ some xs :: L ∧ pures xs = true ∧ MP M1 ∧ M1.length = M.length ∧ R xs M1) : ∃ xs M1, callD n (.mk name false ps N body) ds M = .ok (.lst xs) M1 ∧ M1.length = M.length ∧ R xs M1 := by
  obtain ⟨o, M', e, xs, M1, L, rfl, rfl, hp, hM, hs, hr⟩ := hb
  refine ⟨xs, M1, ?_, hs, hr⟩
  have h1 : Mem.cont (M1 ++ some xs :: L) (M.length + 0) = some xs := by
    rw [← hs]; exact cont_loc.trans rfl
  have := call_tmp (name := name) hl e (d' := .lst xs) (by
    simp only [D.shut]
    rw [if_neg (by omega), h1]
    dsimp only
    rw [if_pos hp]) (by rw [← hs]; exact closed_loc hM)
  rw [this, ← hs, List.take_left']
  rfl
end Sn
/-! Sn, part Zo: shares along meetings; the first sheet told otherwise; papers. -/
namespace Sn
open PySem
theorem share_one {s t : G} (hs : s ≠ 0) (ht : t ≠ 0) : ∃ m : Int, 0 < m ∧ (m : Rat) = (jt s t).nrm / s.nrm ∧ qf (s.nrm / (jt s t).nrm) = .tup [.int 1, .int m] := by
  obtain ⟨w, hw⟩ := jt_zi1 hs ht
  have hj := jt_ne hs ht
  have h0 : jt s t / s ≠ 0 := by grind
  have h1 := G.nrm_div (jt s t) hs
  have h2 : (jt s t / s).nrm = ((w.x * w.x + w.y * w.y : Int) : Rat) := by
    rw [hw]
    have := nrm_gz w.x w.y 1
    have e : gw w = gz w.x w.y 1 := rfl
    rw [e, this]
    have : ((1 * 1 : Int) : Rat) = 1 := by simp
    rw [this]; grind
  have h3 := G.nrm_pos h0
  have h4 : 0 < w.x * w.x + w.y * w.y := by
    rw [h2] at h3
    exact_mod_cast h3
  refine ⟨w.x * w.x + w.y * w.y, h4, by rw [← h2, h1], ?_⟩
  have h5 := G.nrm_ne hs
  have h6 := G.nrm_ne hj
  refine qf_lit ?_ h4 (by simp)
  rw [← h2, h1]
  have : ((1 : Int) : Rat) = 1 := by simp
  rw [this]; grind
theorem Sz.ofhq {N : Int} {k : Nat} (h : Hq (N : Rat) k) : Sz N k := by
  obtain ⟨a, c, h0, e1, h1, h3⟩ := h.out
  refine ⟨Nat.lt_of_le_of_lt ?_ h1⟩
  have hc := rat_ne (show c ≠ 0 by omega)
  have e2 : (N * c : Int) = a := by
    have : ((N * c : Int) : Rat) = (a : Rat) := by rw [Rat.intCast_mul, e1]; grind
    exact_mod_cast this
  rw [← e2, Int.natAbs_mul]
  exact Nat.le_mul_of_pos_right _ (by omega)
/-- a sheet's form has the same meetings -/
theorem mb_form {s b t c : G} (hs : s ≠ 0) (ht : t ≠ 0) (h : Meet s b t c) : jt (qt s) t = jt s t ∧ mb (qt s) (fb s b) t c = mb s b t c := by
  have hq := qt_ne hs
  have h' := (meet_form hs ht (b := b) (c := c)).mpr h
  have := fm_eq (f := (jt (qt s) t, mb (qt s) (fb s b) t c)) (g := (jt s t, mb s b t c)) (fm_mb hq ht h') (fm_mb hs ht h) (fun z => by
    show On (jt (qt s) t) (mb (qt s) (fb s b) t c) z ↔ On (jt s t) (mb s b t c) z
    rw [on_meet hq ht h', on_meet hs ht h, on_fb hs])
  exact Prod.mk.inj this
theorem lightG_raw {p q : G × G} {l : List (G × G)} (hp : p.1 ≠ 0) (hq : q.1 ≠ 0) : lightG (p :: q :: l) = lightF p (q :: l) := by
  show lightF (qt p.1, fb p.1 p.2) (q :: l) = lightF p (q :: l)
  simp only [lightF]
  by_cases h : Meet p.1 p.2 q.1 q.2
  · obtain ⟨e1, e2⟩ := mb_form hp hq h
    rw [if_pos h, if_pos ((meet_form hp hq).mpr h), e1, e2]
  · rw [if_neg h, if_neg (fun g => h ((meet_form hp hq).mp g))]
/-! ### the least pair, found on the way -/
def IsDkR (R : Nat → Nat → Prop) (m i j : Nat) : Option (Nat × Nat) → Prop
  | none => ∀ i' j', i' < j' → j' < m → (i' < i ∨ i' = i ∧ j' < j) → R i' j'
  | some (a, b) => a < b ∧ b < m ∧ ¬ R a b ∧ ∀ i' j', i' < j' → j' < m → (i' < a ∨ i' = a ∧ j' < b) → R i' j'
theorem IsDkR.end {R : Nat → Nat → Prop} {m : Nat} : ∀ {o : Option (Nat × Nat)}, IsDkR R m m 0 o → IsDk R m o
  | none, h => fun i j a b => h i j a b (.inl (by omega))
  | some (i, j), h => h
theorem IsDkR.move {R : Nat → Nat → Prop} {m i j i' j' : Nat} (h : ∀ a b, a < b → b < m → (a < i' ∨ a = i' ∧ b < j') → (a < i ∨ a = i ∧ b < j)) : ∀ {o : Option (Nat × Nat)}, IsDkR R m i j o → IsDkR R m i' j' o
  | none, g => fun a b h1 h2 h3 => g a b h1 h2 (h a b h1 h2 h3)
  | some (a, b), g => g
theorem IsDkR.step {R : Nat → Nat → Prop} {m i j : Nat} (hij : i < j) (hj : j < m) : ∀ {o : Option (Nat × Nat)}, IsDkR R m i j o → (R i j → IsDkR R m i (j + 1) o) ∧ (¬ R i j → o = none → IsDkR R m i (j + 1) (some (i, j))) ∧ (o ≠ none → IsDkR R m i (j + 1) o)
  | none, g => ⟨fun h a b h1 h2 h3 => by
      by_cases e : a = i ∧ b = j
      · obtain ⟨rfl, rfl⟩ := e; exact h
      · exact g a b h1 h2 (by omega), fun h _ => ⟨hij, hj, h, g⟩, fun h => absurd rfl h⟩
  | some (a, b), g => ⟨fun _ => g, fun _ h => (by cases h), fun _ => g⟩
theorem dk_bd {R : Nat → Nat → Prop} {m : Nat} (hm : m ≤ 6) : ∀ {o : Option (Nat × Nat)}, IsDk R m o → Bd (dkD o) 3 4000 1
  | none, _ => Bd.non.up (by omega) (by omega) (by omega)
  | some (i, j), ⟨a, b, _⟩ => by
    have zi : Sz (i : Int) 3 := ⟨by omega⟩
    have zj : Sz (j : Int) 3 := ⟨by omega⟩
    exact (inferInstance : Bd (.tup [.int (i : Int), .int (j : Int)]) _ _ _).up (by omega) (by omega) (by omega)
theorem isn_sho {o : Option (G × G)} {M : Mem} : isnD (shO o) M = .ok (.bl o.isNone) M := by cases o <;> rfl
theorem notn_sho {o : Option (G × G)} {M : Mem} : notnD (shO o) M = .ok (.bl o.isSome) M := by cases o <;> rfl
theorem isn_dk {o : Option (Nat × Nat)} {M : Mem} : isnD (dkD o) M = .ok (.bl o.isNone) M := by cases o <;> rfl
theorem notn_dk {o : Option (Nat × Nat)} {M : Mem} : notnD (dkD o) M = .ok (.bl o.isSome) M := by cases o <;> rfl
theorem light_dark {l : List (G × G)} {o : Option (Nat × Nat)} (h0 : l ≠ []) (hl : ∀ p ∈ l, p.1 ≠ 0) (h : IsDk (MetAt l) l.length o) : (lightG l).isNone = o.isSome := by
  have hdk := dark_none h0 hl h
  cases o with
  | none =>
    have := hdk.mpr rfl
    cases e : lightG l with
    | none => rw [e] at this; cases this
    | some g => rfl
  | some p =>
    cases e : lightG l with
    | none => rfl
    | some g =>
      have := hdk.mp (by rw [e]; rfl)
      cases this
theorem cut_1 {x : D} {xs : List D} : cut (x :: xs) (some 1) none = xs := by
  have a1 : HT.sIx (x :: xs).length 0 (some 1) = 1 := by
    show HT.sIx _ 0 (some ((1 : Nat) : Int)) = 1
    simp only [HT.sIx]
    rw [if_neg (by omega)]
    simp
  have a2 : HT.sIx (x :: xs).length (x :: xs).length none = (x :: xs).length := by simp [HT.sIx]
  unfold cut
  rw [a1, a2]
  simp
theorem LV.tail {M : Mem} {d x : D} {xs : List D} (h : LV M d (x :: xs)) (l : xs.length ≤ sizeLine) : slop false d (some 1) none M = .ok (.lst xs) M := by
  rw [h.sl, cut_1, newL_f l]
theorem fm_none : ∀ {xs : List D}, xs.filterMap (fun _ => (none : Option D)) = []
  | [] => rfl
  | x :: xs => by rw [List.filterMap_cons]; exact fm_none
theorem two_of {α : Type} : ∀ {l : List α}, 2 ≤ l.length → ∃ p q l', l = p :: q :: l'
  | [], h => by simp at h
  | [_], h => by simp at h
  | p :: q :: l', _ => ⟨p, q, l', rfl⟩
theorem gp_on {s b z : G} (h : On s b z) : gp ((z - b) / s) = 1 := gp_one.mpr h
/-! ### papers -/
open Classical in
/-- v shows that two sheets have no hole in common -/
noncomputable def shB (s b t c v : G) : Bool := decide (v ≠ 0 ∧ Zi (s / v) ∧ Zi (t / v) ∧ ¬ Zi ((c - b) / v))
open Classical in
theorem shB_cm {s b t c : G} (hs : s ≠ 0) (h : ¬ Meet s b t c) : shB s b t c (cm s t) = true := by
  have hc := cm_ex (t := t) hs
  unfold shB
  exact decide_eq_true ⟨hc.ne, hc.one, hc.two, h⟩
end Sn
/-! Sn, part Zp: how far places lie (nrm below 4 ^ m); meetings that are not told as forms. -/
namespace Sn
open PySem
class Ab (z : G) (m : outParam Nat) : Prop where
  lt : z.nrm < (4 : Rat) ^ m
theorem pow4_pos (m : Nat) : (0 : Rat) < 4 ^ m := Rat.pow_pos (by decide)
theorem pow4_le {j k : Nat} (h : j ≤ k) : (4 : Rat) ^ j ≤ 4 ^ k := by
  obtain ⟨d, rfl⟩ := Nat.le.dest h
  induction d with
  | zero => exact Rat.le_refl
  | succ d ih =>
    have h1 := ih (by omega)
    have h2 := pow4_pos (j + d)
    have e : (4 : Rat) ^ (j + (d + 1)) = 4 ^ (j + d) * 4 := by rw [← Nat.add_assoc, Rat.pow_succ]
    rw [e]
    grind
theorem Ab.mono {z : G} {j k : Nat} (h : Ab z j) (l : j ≤ k) : Ab z k := ⟨by
  have h1 := h.lt
  have h2 := pow4_le l
  grind⟩
theorem G.nrm_add_le (z w : G) : (z + w).nrm ≤ 2 * (z.nrm + w.nrm) := by
  have h1 : (z + w).nrm = (z.re + w.re) * (z.re + w.re) + (z.im + w.im) * (z.im + w.im) := rfl
  have h2 : z.nrm = z.re * z.re + z.im * z.im := rfl
  have h3 : w.nrm = w.re * w.re + w.im * w.im := rfl
  have h4 : 0 ≤ (z.re - w.re) * (z.re - w.re) := G.sq_nonneg _
  have h5 : 0 ≤ (z.im - w.im) * (z.im - w.im) := G.sq_nonneg _
  rw [h1, h2, h3]
  grind
theorem Ab.add {z w : G} {j k : Nat} (h : Ab z j) (g : Ab w k) : Ab (z + w) (max j k + 1) := ⟨by
  have h0 := G.nrm_add_le z w
  have h1 := h.lt
  have h2 := g.lt
  have h3 := pow4_le (show j ≤ max j k by omega)
  have h4 := pow4_le (show k ≤ max j k by omega)
  have e : (4 : Rat) ^ (max j k + 1) = 4 ^ (max j k) * 4 := Rat.pow_succ _ _
  rw [e]
  grind⟩
theorem Ab.neg {z : G} {j : Nat} (h : Ab z j) : Ab (-z) j := ⟨by
  have : (-z).nrm = z.nrm := by
    show (-z.re) * (-z.re) + (-z.im) * (-z.im) = z.re * z.re + z.im * z.im
    grind
  rw [this]; exact h.lt⟩
theorem Ab.sub {z w : G} {j k : Nat} (h : Ab z j) (g : Ab w k) : Ab (z - w) (max j k + 1) := by
  have : z - w = z + -w := by grind
  rw [this]; exact h.add g.neg
theorem pow4_add (j k : Nat) : (4 : Rat) ^ (j + k) = 4 ^ j * 4 ^ k := by
  induction k with
  | zero => simp
  | succ k ih => rw [← Nat.add_assoc, Rat.pow_succ, ih, Rat.pow_succ]; grind
theorem Ab.mul {z w : G} {j k : Nat} (h : Ab z j) (g : Ab w k) : Ab (z * w) (j + k) := ⟨by
  rw [G.nrm_mul, pow4_add]
  have h1 := h.lt
  have h2 := g.lt
  have h3 := G.nrm_nonneg z
  have h4 := G.nrm_nonneg w
  have h5 := pow4_pos j
  by_cases h6 : z.nrm = 0
  · rw [h6]
    have := Rat.mul_pos h5 (pow4_pos k)
    grind
  · have h7 : 0 < z.nrm := by grind
    have h8 : z.nrm * w.nrm < z.nrm * 4 ^ k := (Rat.mul_lt_mul_left h7).mpr h2
    have h9 : z.nrm * 4 ^ k < 4 ^ j * 4 ^ k := (Rat.mul_lt_mul_right (pow4_pos k)).mpr h1
    grind⟩
theorem pow4_2 (k : Nat) : (4 : Rat) ^ k = (((2 : Int) ^ k * 2 ^ k : Int) : Rat) := by
  induction k with
  | zero => simp
  | succ k ih =>
    rw [Rat.pow_succ, ih, Int.pow_succ]
    have : ((2 : Int) ^ k * 2 * (2 ^ k * 2)) = ((2 : Int) ^ k * 2 ^ k) * 4 := by grind
    rw [this, Rat.intCast_mul ((2 : Int) ^ k * 2 ^ k) 4]
    rfl
theorem Hz.ab {z : G} {k : Nat} (h : Hz z k) : Ab z (k + 1) := ⟨by
  obtain ⟨h1, h2, h3⟩ := h.all
  have hp := gp_pos z
  rw [← nf_nrm z]
  have hn := n_lt (z := ⟨gx z, gy z⟩) h1 h2
  have hn' : gx z * gx z + gy z * gy z < 2 * ((2 ^ k) * (2 ^ k)) := hn
  have hpp : 1 ≤ gp z * gp z := by
    have := Int.mul_pos hp hp
    omega
  have e : (4 : Rat) ^ (k + 1) = (((2 : Int) ^ (k + 1) * 2 ^ (k + 1) : Int) : Rat) := pow4_2 _
  rw [e]
  have e2 : ((2 : Int) ^ (k + 1) * 2 ^ (k + 1)) = 4 * (2 ^ k * 2 ^ k) := by rw [Int.pow_succ]; grind
  rw [e2]
  have hc : (0 : Rat) < ((gp z * gp z : Int) : Rat) := by exact_mod_cast (show 0 < gp z * gp z by omega)
  have hpow : (0 : Int) < 2 ^ k * 2 ^ k := Int.mul_pos (Int.pow_pos (by decide)) (Int.pow_pos (by decide))
  rw [Rat.div_lt_iff hc, ← Rat.intCast_mul]
  have : gx z * gx z + gy z * gy z < 4 * (2 ^ k * 2 ^ k) * (gp z * gp z) := by
    have h5 : 4 * (2 ^ k * 2 ^ k) * 1 ≤ 4 * (2 ^ k * 2 ^ k) * (gp z * gp z) := Int.mul_le_mul_of_nonneg_left hpp (by omega)
    omega
  exact_mod_cast this⟩
theorem sq_lt {x B : Int} (hB : 0 ≤ B) (h : x * x < B * B) : x.natAbs < B.natAbs := by
  by_cases hx : x.natAbs < B.natAbs
  · exact hx
  · exfalso
    have h1 : B.natAbs ≤ x.natAbs := by omega
    have h2 : B.natAbs * B.natAbs ≤ x.natAbs * x.natAbs := Nat.mul_le_mul h1 h1
    have h3 : ((x.natAbs * x.natAbs : Nat) : Int) = x * x := by rw [Int.natCast_mul]; exact Int.natAbs_mul_self' x
    have h4 : ((B.natAbs * B.natAbs : Nat) : Int) = B * B := by rw [Int.natCast_mul]; exact Int.natAbs_mul_self' B
    omega
theorem Ab.hz {z : G} {m e : Nat} (h : Ab z m) (g : Dn z e) : Hz z (m + e) := by
  have hp := gp_pos z
  have h1 := h.lt
  rw [← nf_nrm z] at h1
  have hc : (0 : Rat) < ((gp z * gp z : Int) : Rat) := by exact_mod_cast (Int.mul_pos hp hp)
  rw [Rat.div_lt_iff hc, pow4_2, ← Rat.intCast_mul] at h1
  have h2 : gx z * gx z + gy z * gy z < (2 ^ m * gp z) * (2 ^ m * gp z) := by
    have : (2 : Int) ^ m * 2 ^ m * (gp z * gp z) = (2 ^ m * gp z) * (2 ^ m * gp z) := by grind
    rw [← this]
    exact_mod_cast h1
  have hB : 0 ≤ (2 : Int) ^ m * gp z := Int.mul_nonneg (Int.pow_nonneg (by decide)) (by omega)
  have hx := Z2.sq0 (gx z)
  have hy := Z2.sq0 (gy z)
  have a1 := sq_lt hB (show gx z * gx z < _ by omega)
  have a2 := sq_lt hB (show gy z * gy z < _ by omega)
  have hBl : ((2 : Int) ^ m * gp z).natAbs < 2 ^ (m + e) := by
    rw [Int.natAbs_mul, Nat.pow_add]
    have : ((2 : Int) ^ m).natAbs = 2 ^ m := by rw [Int.natAbs_pow]; rfl
    rw [this]
    exact Nat.mul_lt_mul_of_pos_left g.lt (Nat.two_pow_pos m)
  exact ⟨gx z, gy z, gp z, hp, (gz_out z).symm, by omega, by omega, pow_up g.lt (by omega)⟩
/-- a whole quotient by a common step -/
theorem Ab.over {s t : G} {g : Z2} {z : G} {m d1 d2 : Nat} (hg : g ≠ 0) (h : Ab z m) (ds : Dn s d1) (dt : Dn t d2) : Ab (z / (gw g / zp s t)) (m + (d1 + d2)) := ⟨by
  have hz := zp_ne s t
  have hn := gw_ne hg
  have e : z / (gw g / zp s t) = z * zp s t / gw g := by grind
  rw [e, G.nrm_div _ hn, G.nrm_mul]
  have h1 := h.lt
  have hg1 : 1 ≤ (gw g).nrm := by
    have e1 : gw g = gz g.x g.y 1 := rfl
    rw [e1, nrm_gz]
    have e2 : ((1 * 1 : Int) : Rat) = 1 := by simp
    rw [e2]
    have h2 := Z2.n_pos hg
    have h3 : (1 : Int) ≤ g.x * g.x + g.y * g.y := h2
    have h4 : ((1 : Int) : Rat) ≤ ((g.x * g.x + g.y * g.y : Int) : Rat) := by exact_mod_cast h3
    have h5 : ((1 : Int) : Rat) = 1 := by simp
    rw [h5] at h4
    have h6 : ((g.x * g.x + g.y * g.y : Int) : Rat) / 1 = ((g.x * g.x + g.y * g.y : Int) : Rat) := by grind
    rw [h6]; exact h4
  have hzp : (zp s t).nrm ≤ 4 ^ (d1 + d2) := by
    unfold zp
    rw [nrm_gz]
    have e2 : ((1 * 1 : Int) : Rat) = 1 := by simp
    rw [e2, pow4_2]
    have h6 : ∀ a : Rat, a / 1 = a := fun a => by grind
    rw [h6]
    have h7 : gp s * gp t ≤ 2 ^ (d1 + d2) := by
      have := natAbs_mul_lt ds.lt dt.lt
      have h0 := Int.mul_pos (gp_pos s) (gp_pos t)
      have e3 : ((2 : Int) ^ (d1 + d2)) = ((2 ^ (d1 + d2) : Nat) : Int) := by simp
      omega
    have h0 := Int.mul_pos (gp_pos s) (gp_pos t)
    have h8 : (gp s * gp t) * (gp s * gp t) + 0 * 0 ≤ (2 : Int) ^ (d1 + d2) * 2 ^ (d1 + d2) := by
      have := Int.mul_le_mul h7 h7 (by omega) (Int.pow_nonneg (by decide))
      omega
    exact_mod_cast h8
  have hz0 := G.nrm_pos hz
  have hpos : 0 < (gw g).nrm := by grind
  rw [Rat.div_lt_iff hpos, pow4_add]
  have hm := pow4_pos m
  have a1 : z.nrm * (zp s t).nrm < 4 ^ m * (zp s t).nrm := (Rat.mul_lt_mul_right hz0).mpr h1
  have a2 : 4 ^ m * (zp s t).nrm ≤ (4 : Rat) ^ m * 4 ^ (d1 + d2) := Rat.mul_le_mul_of_nonneg_left hzp (by grind)
  have hpp : (0 : Rat) < 4 ^ m * 4 ^ (d1 + d2) := Rat.mul_pos hm (pow4_pos _)
  have a3 : (4 : Rat) ^ m * 4 ^ (d1 + d2) * 1 ≤ 4 ^ m * 4 ^ (d1 + d2) * (gw g).nrm := Rat.mul_le_mul_of_nonneg_left hg1 (by grind)
  grind⟩
end Sn
namespace Sn
open PySem
/-- steps of H bits, bases of B bits -/
structure GoodB (H B : Nat) (l : List (G × G)) : Prop where
  ne : ∀ p ∈ l, p.1 ≠ 0
  s : ∀ p ∈ l, Hz p.1 H
  b : ∀ p ∈ l, Hz p.2 B
theorem GoodB.tail {H B : Nat} {p : G × G} {l : List (G × G)} (h : GoodB H B (p :: l)) : GoodB H B l := ⟨fun q hq => h.ne q (by simp [hq]), fun q hq => h.s q (by simp [hq]), fun q hq => h.b q (by simp [hq])⟩
theorem GoodB.mono {H B H' B' : Nat} {l : List (G × G)} (h : GoodB H B l) (a : H ≤ H') (b : B ≤ B') : GoodB H' B' l := ⟨h.ne, fun p hp => (h.s p hp).mono a, fun p hp => (h.b p hp).mono b⟩
theorem Good.gb {H : Nat} {l : List (G × G)} (h : Good H l) : GoodB H H l := ⟨h.ne, h.s, h.b⟩
theorem GoodB.good {H B : Nat} {l : List (G × G)} (h : GoodB H B l) : Good (max H B) l := ⟨h.ne, fun p hp => (h.s p hp).mono (by omega), fun p hp => (h.b p hp).mono (by omega)⟩
structure Sl (j d e m : Nat) (f : G × G) : Prop where
  ne : f.1 ≠ 0
  s : Hz f.1 j
  sd : Dn f.1 d
  bd : Dn f.2 e
  b : Ab f.2 m
theorem Sl.bz {j d e m : Nat} {f : G × G} (h : Sl j d e m f) : Hz f.2 (m + e) := h.b.hz h.bd
theorem Dn.neg {z : G} {k : Nat} (h : Dn z k) : Dn (-z) k := ⟨by rw [(neg_parts z).2.2]; exact h.lt⟩
theorem Dn.sub {z w : G} {j k : Nat} (h : Dn z j) (g : Dn w k) : Dn (z - w) (j + k) := by
  have : z - w = z + -w := by grind
  rw [this]; exact h.add g.neg
theorem gw_sub2 (z w : Z2) : gw (z - w) = gw z - gw w := by
  have e : z - w = z + -w := by grind
  have e2 : gw (-w) = -gw w := by
    have h := gz_neg (a := w.x) (b := w.y) (p := 1)
    exact h.symm
  rw [e, gw_add, e2]; grind
/-- two tellings of the same holes -/
theorem same_of_on {f g : G × G} (hf : f.1 ≠ 0) (hg : g.1 ≠ 0) (e : ∀ z, On f.1 f.2 z ↔ On g.1 g.2 z) : sameB f.1 f.2 g.1 g.2 = true := by
  have := fm_eq (f := (qt f.1, fb f.1 f.2)) (g := (qt g.1, fb g.1 g.2)) (fm_fb hf) (fm_fb hg) (fun z => by
    show On (qt f.1) (fb f.1 f.2) z ↔ On (qt g.1) (fb g.1 g.2) z
    rw [on_fb hf, on_fb hg]; exact e z)
  exact sameB_t.mpr ((same_iff hf hg).mp (Prod.mk.inj this))
def mB : Nat → Nat
  | 0 => 251 | 1 => 421 | 2 => 721 | 3 => 1151 | 4 => 1711 | _ => 2401
theorem mB_s : ∀ i, i ≤ 4 → mB (i + 1) = mB i + 2 * (32 + 65 * i) + 106 ∧ 251 ≤ mB i ∧ mB i ≤ 1711
  | 0, _ => by decide
  | 1, _ => by decide
  | 2, _ => by decide
  | 3, _ => by decide
  | 4, _ => by decide
  | n + 5, h => by omega
theorem mB_le : ∀ i, mB i ≤ 2401
  | 0 => by decide
  | 1 => by decide
  | 2 => by decide
  | 3 => by decide
  | 4 => by decide
  | n + 5 => by show 2401 ≤ 2401; omega
theorem c_eq_nil {xs : List D} {M : Mem} {k n m : Nat} [h : Bds xs k n m] (l : m + 1 ≤ 60) : cmpop .eq (.lst xs) (.lst []) M = some xs.isEmpty := by
  have hs : SeqAt.shaped (.list (toPys xs)) = true := by
    unfold SeqAt.shaped
    rw [Bool.and_eq_true]
    refine ⟨by simp only [PyData.canLay0]; exact bares_lay h.bare, ?_⟩
    have := h.dep
    simp only [PyData.depth]
    simp; omega
  have h0 : SeqAt.shaped (.list []) = true := by simp [SeqAt.shaped, PyData.canLay0, PyData.canLayAll0, PyData.depth, PyData.depthAll]
  rw [cmp_eq]
  simp only [eqop, D.py, D.py0, h.py, py0s, Option.map_some, hs, h0, Bool.and_self, if_true, PyData.eqv]
  cases xs with
  | nil => simp [toPys, PyData.eqvAll]
  | cons x xs => simp [toPys, PyData.eqvAll]
theorem c_ne_nil {xs : List D} {M : Mem} {k n m : Nat} [h : Bds xs k n m] (l : m + 1 ≤ 60) : cmpop .ne (.lst xs) (.lst []) M = some (!xs.isEmpty) := by
  have : eqop (.lst xs) (.lst []) M = some xs.isEmpty := c_eq_nil (M := M) l
  rw [cmp_ne, this]; rfl
theorem bds_shB {H B : Nat} {l : List (G × G)} (h : GoodB H B l) : Bds (l.map sh) (max H B) (l.length * 12000) 2 := bds_sh h.good
end Sn
namespace Sn
open PySem
theorem sh_inj {p q : G × G} (h : sh p = sh q) : p = q := by
  unfold sh at h
  simp only [D.tup.injEq, List.cons.injEq, and_true] at h
  exact Prod.ext (nf_inj h.1) (nf_inj h.2)
open Classical in
theorem fm_sh {P : G × G → Prop} [DecidablePred P] {f : D → Option D} : ∀ {l : List (G × G)}, (∀ p ∈ l, f (sh p) = if P p then some (sh p) else none) → (l.map sh).filterMap f = (l.filter fun p => decide (P p)).map sh
  | [], _ => rfl
  | p :: l, h => by
    have ih := fm_sh (l := l) fun q hq => h q (by simp [hq])
    rw [List.map_cons, List.filterMap_cons, h p (by simp), List.filter_cons]
    by_cases hp : P p
    · rw [if_pos hp, if_pos (by simp [hp]), List.map_cons]
      exact congrArg _ ih
    · rw [if_neg hp, if_neg (by simp [hp])]
      exact ih
theorem Hz.un {e z : G} {k : Nat} (hu : Un e) (h : Hz z k) : Hz (e * z) k := by
  have hgi : Hz (gi * z) k := by
    obtain ⟨a1, a2, a3⟩ := gi_parts z
    obtain ⟨b1, b2, b3⟩ := h.all
    exact ⟨_, _, _, gp_pos _, (gz_out (gi * z)).symm, by rw [a1]; omega, by rw [a2]; exact b1, by rw [a3]; exact b3⟩
  rcases hu with h1 | h1 | h1 | h1
  · rw [h1]
    have : (1 : G) * z = z := by grind
    rw [this]; exact h
  · rw [h1]; exact hgi
  · rw [h1]
    have : (-1 : G) * z = -z := by grind
    rw [this]; exact inferInstance
  · rw [h1]
    have : (-gi : G) * z = -(gi * z) := by grind
    rw [this]; exact inferInstance
end Sn
namespace Sn
open PySem
theorem Siz.stepB {j e k H : Nat} {f p : G × G} (h : Siz j e k H f) (hp : p.1 ≠ 0) (ps : Hz p.1 H) (hm : Meet f.1 f.2 p.1 p.2) :
    Siz (j + H + H + 1) (e + H + H) ((j + H + H + 1) + (j + H + H + 1) + (e + H) + 1) H (jt f.1 p.1, mb f.1 f.2 p.1 p.2) := by
  obtain ⟨m1, m2⟩ := mb_small h.ne hp hm h.s h.sd h.bd ps ps.dn
  have hs := h.s
  exact ⟨jt_ne h.ne hp, Hz.jtz h.ne hp, Dn.jt h.ne hp ps.dn, m2, m1⟩
theorem first_sizB {H B : Nat} {p : G × G} (h0 : p.1 ≠ 0) (hs : Hz p.1 H) (hb : Hz p.2 B) : Siz H (B + H) (H + H + B + 1) H (Sn.qt p.1, Sn.fb p.1 p.2) :=
  ⟨qt_ne h0, inferInstance, hs.dn.qt, Dn.fb h0 hs.dn hb.dn, Hz.fb2 h0 hs hb.dn⟩
theorem lightF_sizB : ∀ {l : List (G × G)} {f g : G × G} {j e k : Nat}, GoodB 32 250 l → Siz j e k 32 f → Fm f → j + l.length * 65 ≤ 357 → e + l.length * 64 ≤ 602 → k ≤ 1400 → lightF f l = some g → Siz 357 602 1400 32 g ∧ Fm g
  | [], f, g, j, e, k, _, hs, hf, l1, l2, l3, h => by
    simp only [lightF, Option.some.injEq] at h
    subst h
    exact ⟨⟨hs.ne, hs.s.mono (by omega), hs.sd, hs.bd.mono (by omega), hs.b.mono l3⟩, hf⟩
  | p :: l, f, g, j, e, k, hG, hs, hf, l1, l2, l3, h => by
    simp only [lightF] at h
    rw [List.length_cons] at l1 l2
    split at h
    · rename_i hm
      have hp := hG.ne p (by simp)
      exact lightF_sizB hG.tail (hs.stepB hp (hG.s p (by simp)) hm) (fm_mb hs.ne hp hm) (by omega) (by omega) (by omega) h
    · cases h
theorem lightG_sizB {l : List (G × G)} {g : G × G} (hG : GoodB 32 250 l) (hl : l.length ≤ 6) (h : lightG l = some g) : Siz 357 602 1400 32 g ∧ Fm g := by
  cases l with
  | nil => cases h
  | cons p l =>
    have hp := hG.ne p (by simp)
    rw [List.length_cons] at hl
    exact lightF_sizB hG.tail (first_sizB hp (hG.s p (by simp)) (hG.b p (by simp))) (fm_fb hp) (by omega) (by omega) (by omega) h
theorem nrm_same {s b t c : G} (hs : s ≠ 0) (ht : t ≠ 0) (h : sameB s b t c = true) : s.nrm = t.nrm := by
  have hu := (sameB_t.mp h).1
  have e : s = s / t * t := by grind
  rw [e, G.nrm_mul, un_nrm hu]; grind
/-- not all of the sheets are open at a place if they have no light -/
theorem no_light {l : List (G × G)} {z : G} (h0 : l ≠ []) (hl : ∀ p ∈ l, p.1 ≠ 0) (h : lightG l = none) : ¬ ∀ p ∈ l, On p.1 p.2 z := fun hall => by
  have : (lightG l).isSome = true := (lightG_some h0 hl).mpr (by
    refine List.pairwise_iff_getElem.mpr fun i j hi hj _ => ?_
    exact meet_of (hl _ (List.getElem_mem hi)) (hl _ (List.getElem_mem hj)) (hall _ (List.getElem_mem hi)) (hall _ (List.getElem_mem hj)))
  rw [h] at this
  cases this
theorem bd_sho {o : Option (G × G)} {k : Nat} (h : ∀ g, o = some g → Hz g.1 k ∧ Hz g.2 k) : Bd (shO o) k 12000 2 := by
  cases o with
  | none => exact Bd.non.up (by omega) (by omega) (by omega)
  | some g =>
    obtain ⟨h1, h2⟩ := h g rfl
    exact (inferInstance : Bd (.tup [nf g.1, nf g.2]) _ _ _).up (by omega) (by omega) (by omega)
theorem pure_sho {o : Option (G × G)} : (shO o).pure = true := by cases o <;> rfl
end Sn
/-! Sn, part Zq: calls with own lists, by what holds behind. -/
namespace Sn
open PySem
theorem call_locP {n : Nat} {name : Str} {ps N : List Str} {body : Ss} {ds : List D} {M : Mem} {d : D} {R : Mem → Prop} (hl : ds.length = ps.length ∧ ps.length ≤ N.length)
    (hb : Pst (evSs n body (fill N ds) M) fun o M' => ∃ M1 L, o = .rt d ∧ M' = M1 ++ L ∧ MP M1 ∧ M1.length = M.length ∧ R M1) (hp : d.pure = true) : ∃ M1, callD n (.mk name false ps N body) ds M = .ok d M1 ∧ M1.length = M.length ∧ R M1 := by
  obtain ⟨o, M', e, M1, L, rfl, rfl, hM, hs, hr⟩ := hb
  refine ⟨M1, ?_, hs, hr⟩
  have := call_tmp (name := name) hl e (shut_pure hp) (by rw [← hs]; exact closed_loc hM)
  rw [this, ← hs, List.take_left']
  rfl
theorem add_ref {M : Mem} {r : Nat} {xs ys : List D} (h : Mem.cont M r = some xs) (l : (xs ++ ys).length ≤ sizeLine) : binop true .add (.ref r) (.lst ys) M = .ok (.ref M.length) (M ++ [some (xs ++ ys)]) := by
  show addop true (.ref r) (.lst ys) M = _
  have : addop true (.ref r) (.lst ys) M = newL true (xs ++ ys) M := by
    simp only [addop, itemsC, h]
  rw [this, newL_t l]
theorem pures_nf : ∀ {zs : List G}, pures (zs.map nf) = true
  | [] => rfl
  | z :: zs => by
    rw [List.map_cons]
    have : (nf z).pure = true := rfl
    simp only [pures, this, pures_nf, Bool.and_self]
theorem mpB_2 {xs ys : List D} (h : pures xs = true) (g : pures ys = true) : mpB [some xs, some ys] = true := by simp [mpB, h, g]
theorem cont_1 {M L' : Mem} {q : Nat} (hq : M.length = q) {xs : List D} : Mem.cont (M ++ some xs :: L') (q + 0) = some xs := by subst hq; exact cont_loc.trans rfl
theorem cont_2 {M L' : Mem} {q : Nat} (hq : M.length = q) {a : Option (List D)} {xs : List D} : Mem.cont (M ++ a :: some xs :: L') (q + 1) = some xs := by subst hq; exact cont_loc.trans rfl
end Sn
namespace Sn
open PySem
section
variable {H B : Nat} {p : G × G} {l k : List (G × G)}
theorem GoodB.nil : GoodB H B [] := ⟨fun _ h => by simp at h, fun _ h => by simp at h, fun _ h => by simp at h⟩
theorem GoodB.cons (h : GoodB H B l) (h0 : p.1 ≠ 0) (h1 : Hz p.1 H) (h2 : Hz p.2 B) : GoodB H B (p :: l) := ⟨fun q hq => by
    rcases List.mem_cons.mp hq with rfl | hq
    · exact h0
    · exact h.ne q hq, fun q hq => by
    rcases List.mem_cons.mp hq with rfl | hq
    · exact h1
    · exact h.s q hq, fun q hq => by
    rcases List.mem_cons.mp hq with rfl | hq
    · exact h2
    · exact h.b q hq⟩
theorem GoodB.app (h : GoodB H B l) (g : GoodB H B k) : GoodB H B (l ++ k) := ⟨fun q hq => (List.mem_append.mp hq).elim (h.ne q) (g.ne q), fun q hq => (List.mem_append.mp hq).elim (h.s q) (g.s q), fun q hq => (List.mem_append.mp hq).elim (h.b q) (g.b q)⟩
theorem GoodB.snoc (h : GoodB H B l) (h0 : p.1 ≠ 0) (h1 : Hz p.1 H) (h2 : Hz p.2 B) : GoodB H B (l ++ [p]) := h.app (GoodB.nil.cons h0 h1 h2)
theorem GoodB.sub (h : GoodB H B l) (s : ∀ p ∈ k, p ∈ l) : GoodB H B k := ⟨fun p hp => h.ne p (s p hp), fun p hp => h.s p (s p hp), fun p hp => h.b p (s p hp)⟩
theorem GoodB.set (h : GoodB H B l) (i : Nat) (h0 : p.1 ≠ 0) (h1 : Hz p.1 H) (h2 : Hz p.2 B) : GoodB H B (l.set i p) := (h.cons h0 h1 h2).sub fun q hq => by
  rcases List.mem_or_eq_of_mem_set hq with hq | rfl
  · simp [hq]
  · simp
end
/-! ### heights, raised sheets -/
/-- a height as a place -/
def ofR (r : Rat) : G := ⟨r, 0⟩
theorem nf_ofR (r : Rat) : (.tup [.int r.num, .int 0, .int (r.den : Int)] : D) = nf (ofR r) := by
  have hd := r.den_nz
  have hN : Norm r.num 0 (r.den : Int) := ⟨by omega, by
    unfold g3
    have : Int.gcd r.num 0 = r.num.natAbs := Int.gcd_zero_right _
    rw [this]
    have h := r.reduced
    unfold Nat.Coprime at h
    rw [Int.gcd_eq_natAbs_gcd_natAbs]
    simpa using h⟩
  have e : gz r.num 0 (r.den : Int) = ofR r := by
    have h1 := Rat.num_divInt_den r
    rw [Rat.divInt_eq_div] at h1
    exact G.ext (by show (r.num : Rat) / ((r.den : Int) : Rat) = r; exact h1) (by show ((0 : Int) : Rat) / ((r.den : Int) : Rat) = 0; rw [Rat.intCast_zero]; grind)
  rw [← e]; exact pl_nf hN
theorem Hq.hz {r : Rat} {k : Nat} (h : Hq r k) : Hz (ofR r) k := by
  obtain ⟨a, c, h0, e1, h1, h3⟩ := h.out
  have e : ofR r = gz a 0 c := G.ext (by show r = (a : Rat) / (c : Rat); exact e1) (by show (0 : Rat) = ((0 : Int) : Rat) / (c : Rat); rw [Rat.intCast_zero]; grind)
  rw [e]
  exact Hz.of (by omega) h1 (by simpa using Nat.two_pow_pos k) h3
abbrev RI := Rat × (G × G)
noncomputable def rs (x : RI) : D := .tup [qf x.1, sh x.2]
/-- the sheets as they are seen with a sun -/
noncomputable def seen (sun : G) (l : List RI) : List (G × G) := l.map fun x => (x.2.1, x.2.2 - ofR x.1 * sun)
structure GoodR (J H B : Nat) (l : List RI) : Prop where
  ne : ∀ x ∈ l, x.2.1 ≠ 0
  h : ∀ x ∈ l, Hq x.1 J
  s : ∀ x ∈ l, Hz x.2.1 H
  b : ∀ x ∈ l, Hz x.2.2 B
theorem GoodR.tail {J H B : Nat} {x : RI} {l : List RI} (h : GoodR J H B (x :: l)) : GoodR J H B l := ⟨fun q hq => h.ne q (by simp [hq]), fun q hq => h.h q (by simp [hq]), fun q hq => h.s q (by simp [hq]), fun q hq => h.b q (by simp [hq])⟩
theorem GoodR.nil {J H B : Nat} : GoodR J H B [] := ⟨fun _ h => by simp at h, fun _ h => by simp at h, fun _ h => by simp at h, fun _ h => by simp at h⟩
theorem GoodR.mono {J H B J' H' B' : Nat} {l : List RI} (h : GoodR J H B l) (a : J ≤ J') (b : H ≤ H') (c : B ≤ B') : GoodR J' H' B' l := ⟨h.ne, fun x hx => (h.h x hx).mono a, fun x hx => (h.s x hx).mono b, fun x hx => (h.b x hx).mono c⟩
theorem GoodR.snoc {J H B : Nat} {x : RI} {l : List RI} (h : GoodR J H B l) (h0 : x.2.1 ≠ 0) (h1 : Hq x.1 J) (h2 : Hz x.2.1 H) (h3 : Hz x.2.2 B) : GoodR J H B (l ++ [x]) :=
  ⟨fun q hq => (List.mem_append.mp hq).elim (h.ne q) fun z => by rw [List.mem_singleton.mp z]; exact h0, fun q hq => (List.mem_append.mp hq).elim (h.h q) fun z => by rw [List.mem_singleton.mp z]; exact h1, fun q hq => (List.mem_append.mp hq).elim (h.s q) fun z => by rw [List.mem_singleton.mp z]; exact h2, fun q hq => (List.mem_append.mp hq).elim (h.b q) fun z => by rw [List.mem_singleton.mp z]; exact h3⟩
theorem GoodR.seen {J H B K : Nat} {l : List RI} {z : G} (h : GoodR J H B l) (hz : Hz z K) : GoodB H (B + (J + K + 1) + 1) (seen z l) := by
  refine ⟨fun p hp => ?_, fun p hp => ?_, fun p hp => ?_⟩
  all_goals
    obtain ⟨x, hx, rfl⟩ := List.mem_map.mp hp
  · exact h.ne x hx
  · exact h.s x hx
  · have h1 := (h.h x hx).hz
    have h2 := h.b x hx
    show Hz (x.2.2 - ofR x.1 * z) _
    exact inferInstance
theorem seen_len {l : List RI} {z : G} : (seen z l).length = l.length := List.length_map ..
theorem pure_rs {x : RI} : (rs x).pure = true := rfl
theorem pures_rs : ∀ {l : List RI}, pures (l.map rs) = true
  | [] => rfl
  | p :: l => by
    rw [List.map_cons]
    simp only [pures, pure_rs, pures_rs, Bool.and_self]
theorem bds_rs {J H B : Nat} : ∀ {l : List RI}, GoodR J H B l → Bds (l.map rs) (max J (max H B)) (l.length * 18000) 3
  | [], _ => (inferInstance : Bds [] 0 0 0).up (by omega) (by omega) (by omega)
  | p :: l, h => by
    have g := bds_rs h.tail
    have a0 := h.h p (by simp)
    have a1 := h.s p (by simp)
    have a2 := h.b p (by simp)
    have k : Bds (rs p :: l.map rs) _ _ _ := Bds.cons (x := rs p) (xs := l.map rs) (h := (inferInstance : Bd (.tup [qf p.1, .tup [nf p.2.1, nf p.2.2]]) _ _ _))
    rw [List.map_cons, List.length_cons]
    exact k.up (by omega) (by omega) (by omega)
theorem rs_at {l : List RI} {k : Nat} {x : RI} (h : l[k]? = some x) : L2.atI (l.map rs) (k : Int) = some (rs x) := by
  rw [atI_cast, List.getElem?_map, h]; rfl
end Sn
namespace Sn
open PySem
theorem comp_effM {n : Nat} {env : Slots} {M M1 : Mem} {own : List Nat} {elt : E} {tg : Tg} {it : Src} {w : Wk} (I : Nat → List D → Mem → Prop) (hi : evIt n it env M = .ok w M1) (h0 : I 0 [] M1)
    (hb : ∀ i x, w.items[i]? = some x → ∀ acc M, I i acc M → ∃ env2 y M', tg.put x (wipes env own) = some env2 ∧ evE n elt env2 M = .ok y M' ∧ stays w.refs M1 M' ∧ I (i + 1) (acc ++ [y]) M') (l : w.items.length ≤ sizeLine) :
    ∃ ys M', evE n (.comp true own elt tg it .none) env M = .ok (.ref M'.length) (M' ++ [some ys]) ∧ ys.length = w.items.length ∧ I w.items.length ys M' := by
  obtain ⟨ys, M', e, l2, h⟩ := compL_eff (refs := w.refs) (M0 := M1) (turn := fun x M2 => (ofO (tg.put x (wipes env own)) M2).bind fun env2 M3 => (evC n .none env2 M3).bind fun b M4 => if b = true then (evE n elt env2 M4).bind fun y M5 => Res.ok (some y) M5 else Res.ok none M4) I w.items [] 0 M1 (fun i x hx acc M hI => by
    rw [Nat.zero_add] at hI ⊢
    obtain ⟨env2, y, M', e1, e2, st, h⟩ := hb i x hx acc M hI
    refine ⟨y, M', ?_, st, h⟩
    rw [e1]
    show ((evC n .none env2 M).bind fun b M4 => if b = true then (evE n elt env2 M4).bind fun y M5 => Res.ok (some y) M5 else Res.ok none M4) = Res.ok (some y) M'
    rw [evC]
    show ((evE n elt env2 M).bind fun y M5 => Res.ok (some y) M5) = Res.ok (some y) M'
    rw [e2]
    rfl) (by simpa using l) h0
  refine ⟨ys, M', ?_, by simpa using l2, by simpa using h⟩
  rw [evE, hi]
  show Res.bind (compL w.refs M1 _ w.items [] M1) _ = _
  rw [e]
  show newL true ys M' = _
  rw [newL_t (by simp at l2; omega)]
theorem call_own2 {n : Nat} {name : Str} {ps N : List Str} {body : Ss} {ds : List D} {M : Mem} {a : D} {q : Nat} {R : List D → Mem → Prop} (hl : ds.length = ps.length ∧ ps.length ≤ N.length)
    (hb : Pst (evSs n body (fill N ds) M) fun o M' => ∃ xs M1 L, o = .rt (.tup [a, .ref q]) ∧ M' = M1 ++ L ∧ M.length ≤ q ∧ Mem.cont (M1 ++ L) q = some xs ∧ pures xs = true ∧ MP M1 ∧ M1.length = M.length ∧ R xs M1) (ha : a.pure = true) :
    ∃ xs M1, callD n (.mk name false ps N body) ds M = .ok (.tup [a, .lst xs]) M1 ∧ M1.length = M.length ∧ R xs M1 := by
  obtain ⟨o, M', e, xs, M1, L, rfl, rfl, hq, hc, hp, hM, hs, hr⟩ := hb
  refine ⟨xs, M1, ?_, hs, hr⟩
  have := call_tmp (name := name) hl e (d' := .tup [a, .lst xs]) (by
    simp only [D.shut, shuts, shut_pure ha]
    rw [if_neg (by omega), hc]
    dsimp only
    rw [if_pos hp]
    rfl) (by rw [← hs]; exact closed_loc hM)
  rw [this, ← hs, List.take_left']
  rfl
theorem it_zip {n : Nat} {env : Slots} {M M1 M2 : Mem} {a b : E} {x y : D} {xs ys : List D} (h : evE n a env M = .ok x M1) (g : evE n b env M1 = .ok y M2) (hx : LV M2 x xs) (hy : LV M2 y ys) : evIt n (.zip a b) env M = .ok ⟨zipD xs ys, refsOf x ++ refsOf y⟩ M2 := by
  rw [evIt_zip, h, bnd_ok, g, bnd_ok]
  have h1 := hx.itemsL
  have h2 := hy.itemsL
  have nt : ∀ zs, x ≠ .tup zs := fun zs e => by rcases hx with rfl | ⟨r, rfl, _⟩ <;> cases e
  unfold itZ
  split
  · rename_i zs _
    exact absurd rfl (nt zs)
  · rw [h1, h2]
theorem set_1 {M L' : Mem} {q : Nat} (hq : M.length = q) {a : Option (List D)} {xs : List D} {v : D} {k : Nat} (h : k < xs.length) : setop (.ref (q + 1)) (k : Int) v (M ++ a :: some xs :: L') = some (M ++ a :: some (xs.set k v) :: L') := by
  subst hq
  rw [set_at (xs := xs) (j := k) (cont_loc.trans rfl) (ixN_nat h), set_loc]
  rfl
theorem pures_qf : ∀ {hs : List Rat}, pures (hs.map qf) = true
  | [] => rfl
  | z :: zs => by
    rw [List.map_cons]
    have : (qf z).pure = true := rfl
    simp only [pures, this, pures_qf, Bool.and_self]
theorem qf_at {l : List Rat} {k : Nat} {x : Rat} (h : l[k]? = some x) : L2.atI (l.map qf) (k : Int) = some (qf x) := by
  rw [atI_cast, List.getElem?_map, h]; rfl
theorem ix_rs0 {x : RI} {M : Mem} : ixop (rs x) 0 M = some (qf x.1) := (ix_tup).trans rfl
theorem ix_rs1 {x : RI} {M : Mem} : ixop (rs x) 1 M = some (sh x.2) := (ix_tup).trans rfl
theorem ix_sh0 {x : G × G} {M : Mem} : ixop (sh x) 0 M = some (nf x.1) := (ix_tup).trans rfl
theorem ix_sh1 {x : G × G} {M : Mem} : ixop (sh x) 1 M = some (nf x.2) := (ix_tup).trans rfl
theorem put_rs {ts : List Tg} {x : RI} {env : Slots} : Tg.put (.tp ts) (rs x) env = tgPuts ts [qf x.1, sh x.2] env := by unfold rs; rw [put_tp]
theorem put_sh {ts : List Tg} {x : G × G} {env : Slots} : Tg.put (.tp ts) (sh x) env = tgPuts ts [nf x.1, nf x.2] env := by unfold sh; rw [put_tp]
end Sn
namespace Sn
open PySem
theorem gz_ofR (r : Rat) : gz r.num 0 (r.den : Int) = ofR r := by
  have h1 := Rat.num_divInt_den r
  rw [Rat.divInt_eq_div] at h1
  exact G.ext (by show (r.num : Rat) / ((r.den : Int) : Rat) = r; exact h1) (by show ((0 : Int) : Rat) / ((r.den : Int) : Rat) = 0; rw [Rat.intCast_zero]; grind)
theorem zip_at {hs : List Rat} {ns : List (G × G)} {i : Nat} {x : D} (h : (zipD (hs.map qf) (ns.map sh))[i]? = some x) : ∃ r p, hs[i]? = some r ∧ ns[i]? = some p ∧ x = .tup [qf r, sh p] := by
  unfold zipD at h
  rw [List.getElem?_map] at h
  obtain ⟨p, ep, rfl⟩ := Option.map_eq_some_iff.mp h
  obtain ⟨q1, q2⟩ := List.getElem?_zip_eq_some.mp ep
  rw [List.getElem?_map] at q1 q2
  obtain ⟨r, e1, e2⟩ := Option.map_eq_some_iff.mp q1
  obtain ⟨s, f1, f2⟩ := Option.map_eq_some_iff.mp q2
  exact ⟨r, s, e1, f1, by rw [e2, f2]⟩
end Sn
/-! Sn, part Zr: suns; double comprehensions; lights of up to fifteen sheets. -/
namespace Sn
open PySem
open Classical in
theorem compL2_map {refs : List Nat} {M : Mem} {turn : List D → D → Mem → Res (List D)} {f : D → List D} : ∀ (xs acc : List D), (∀ x ∈ xs, ∀ acc, acc.length + (f x).length ≤ sizeLine → turn acc x M = .ok (acc ++ f x) M) → acc.length + (xs.flatMap f).length ≤ sizeLine → compL2 refs M turn xs acc M = .ok (acc ++ xs.flatMap f) M
  | [], acc, _, _ => by rw [compL2]; simp
  | x :: xs, acc, h, l => by
    rw [List.flatMap_cons, List.length_append] at l
    rw [compL2, h x (by simp) acc (by omega)]
    dsimp only
    rw [if_pos (show stays refs M M from fun _ _ => rfl), compL2_map xs (acc ++ f x) (fun y hy => h y (by simp [hy])) (by rw [List.length_append]; omega), List.flatMap_cons, List.append_assoc]
theorem comp2_map {n : Nat} {env : Slots} {M : Mem} {own own1 : List Nat} {elt : E} {tg tg1 : Tg} {it it1 : Src} {w : Wk} (f : D → List D) (hi : evIt n it env M = .ok w M)
    (h : ∀ x ∈ w.items, ∃ env2 w1 g, tg.put x (wipes env own) = some env2 ∧ evIt n it1 env2 M = .ok w1 M ∧ f x = w1.items.map g ∧ ∀ y ∈ w1.items, ∃ env3, tg1.put y (wipes env2 own1) = some env3 ∧ evE n elt env3 M = .ok (g y) M) (l : (w.items.flatMap f).length ≤ sizeLine) :
    evE n (.comp2 false own own1 elt tg it tg1 it1) env M = .ok (.lst (w.items.flatMap f)) M := by
  rw [evE, hi]
  show Res.bind (compL2 w.refs M _ w.items [] M) _ = _
  rw [compL2_map (f := f) w.items [] (fun x hx acc la => by
    obtain ⟨env2, w1, g, e1, e2, e3, e4⟩ := h x hx
    rw [e1]
    show ((evIt n it1 env2 M).bind fun w1 M4 => compL w1.refs M4 _ w1.items acc M4) = _
    rw [e2]
    show compL w1.refs M _ w1.items acc M = _
    rw [compL_map (f := g) w1.items acc (fun y hy => by
      obtain ⟨env3, e5, e6⟩ := e4 y hy
      rw [e5]
      show ((evE n elt env3 M).bind fun y M7 => Res.ok (some y) M7) = _
      rw [e6]; rfl) (by rw [e3, List.length_map] at la; exact la), e3]) (by simpa using l)]
  show newL false ([] ++ w.items.flatMap f) M = _
  rw [List.nil_append, newL_f l]
/-- pairs of indices, the first below the second -/
def couples (m : Nat) : List (Nat × Nat) := (List.range m).flatMap fun s => (List.range s).map fun f => (f, s)
theorem mem_couples {m : Nat} {p : Nat × Nat} : p ∈ couples m ↔ p.1 < p.2 ∧ p.2 < m := by
  unfold couples
  rw [List.mem_flatMap]
  constructor
  · rintro ⟨s, hs, hp⟩
    obtain ⟨f, hf, rfl⟩ := List.mem_map.mp hp
    exact ⟨List.mem_range.mp hf, List.mem_range.mp hs⟩
  · rintro ⟨h1, h2⟩
    exact ⟨p.2, List.mem_range.mpr h2, List.mem_map.mpr ⟨p.1, List.mem_range.mpr h1, rfl⟩⟩
theorem couples_len {m : Nat} (h : m ≤ 6) : (couples m).length ≤ 15 := by
  have : m = 0 ∨ m = 1 ∨ m = 2 ∨ m = 3 ∨ m = 4 ∨ m = 5 ∨ m = 6 := by omega
  rcases this with rfl | rfl | rfl | rfl | rfl | rfl | rfl <;> decide
def cpD (p : Nat × Nat) : D := .tup [.int (p.1 : Nat), .int (p.2 : Nat)]
theorem ix_cp0 {p : Nat × Nat} {M : Mem} : ixop (cpD p) 0 M = some (.int (p.1 : Nat)) := (ix_tup).trans rfl
theorem ix_cp1 {p : Nat × Nat} {M : Mem} : ixop (cpD p) 1 M = some (.int (p.2 : Nat)) := (ix_tup).trans rfl
/-! ### suns -/
def PW (z : G) (l : List RI) : Prop := (seen z l).Pairwise fun p q => Meet p.1 p.2 q.1 q.2
noncomputable def two (x y : RI) : G × G := (cm x.2.1 y.2.1 / ofR (x.1 - y.1), (x.2.2 - y.2.2) / ofR (x.1 - y.1))
theorem ofR_sub (a b : Rat) : ofR (a - b) = ofR a - ofR b := G.ext (by show a - b = a - b; rfl) (by show (0 : Rat) = 0 - 0; grind)
theorem ofR_add (a b : Rat) : ofR (a + b) = ofR a + ofR b := G.ext (by show a + b = a + b; rfl) (by show (0 : Rat) = 0 + 0; grind)
theorem ofR_mul (a b : Rat) : ofR (a * b) = ofR a * ofR b := G.ext (by show a * b = a * b - 0 * 0; grind) (by show (0 : Rat) = a * 0 + 0 * b; grind)
theorem ofR_ne {a : Rat} (h : a ≠ 0) : ofR a ≠ 0 := fun e => h (congrArg G.re e)
theorem ofR_conj (a : Rat) : (ofR a).conj = ofR a := G.ext rfl (by show -(0 : Rat) = 0; grind)
theorem two_on {x y : RI} {z : G} (hx : x.2.1 ≠ 0) (hd : x.1 ≠ y.1) : On (two x y).1 (two x y).2 z ↔ Meet x.2.1 (x.2.2 - ofR x.1 * z) y.2.1 (y.2.2 - ofR y.1 * z) := by
  have hc := cm_ne (t := y.2.1) hx
  have ha : ofR (x.1 - y.1) ≠ 0 := ofR_ne (by grind)
  rw [ofR_sub] at ha
  unfold On Meet two
  rw [ofR_sub]
  generalize ofR x.1 = a at *
  generalize ofR y.1 = b at *
  generalize cm x.2.1 y.2.1 = c at *
  have e : (z - (x.2.2 - y.2.2) / (a - b)) / (c / (a - b)) = (y.2.2 - b * z - (x.2.2 - a * z)) / c := by grind
  show Zi ((z - (x.2.2 - y.2.2) / (a - b)) / (c / (a - b))) ↔ _
  rw [e]
theorem level_on {x y : RI} {z : G} (hd : x.1 = y.1) : Meet x.2.1 (x.2.2 - ofR x.1 * z) y.2.1 (y.2.2 - ofR y.1 * z) ↔ Meet x.2.1 x.2.2 y.2.1 y.2.2 := by
  unfold Meet
  rw [hd]
  have e : y.2.2 - ofR y.1 * z - (x.2.2 - ofR y.1 * z) = y.2.2 - x.2.2 := by grind
  rw [e]
theorem pw_iff {z : G} {l : List RI} (hn : ∀ x ∈ l, x.2.1 ≠ 0) : PW z l ↔ ∀ (i j : Nat) (x y : RI), i < j → l[i]? = some x → l[j]? = some y → (x.1 = y.1 → Meet x.2.1 x.2.2 y.2.1 y.2.2) ∧ (x.1 ≠ y.1 → On (two x y).1 (two x y).2 z) := by
  unfold PW
  rw [List.pairwise_iff_getElem]
  have key : ∀ i j (hi : i < l.length) (hj : j < l.length), (Meet ((seen z l)[i]'(by rw [seen_len]; exact hi)).1 ((seen z l)[i]'(by rw [seen_len]; exact hi)).2 ((seen z l)[j]'(by rw [seen_len]; exact hj)).1 ((seen z l)[j]'(by rw [seen_len]; exact hj)).2) ↔ Meet l[i].2.1 (l[i].2.2 - ofR l[i].1 * z) l[j].2.1 (l[j].2.2 - ofR l[j].1 * z) := fun i j hi hj => by
    unfold seen
    rw [List.getElem_map, List.getElem_map]
  constructor
  · intro h i j x y hij hx hy
    obtain ⟨hi, rfl⟩ := List.getElem?_eq_some_iff.mp hx
    obtain ⟨hj, rfl⟩ := List.getElem?_eq_some_iff.mp hy
    have h1 := (key i j hi hj).mp (h i j _ _ hij)
    exact ⟨fun e => (level_on e).mp h1, fun e => (two_on (hn _ (List.getElem_mem hi)) e).mpr h1⟩
  · intro h i j hi hj hij
    rw [seen_len] at hi hj
    refine (key i j hi hj).mpr ?_
    obtain ⟨h1, h2⟩ := h i j _ _ hij (List.getElem?_eq_getElem hi) (List.getElem?_eq_getElem hj)
    by_cases e : l[i].1 = l[j].1
    · exact (level_on e).mpr (h1 e)
    · exact (two_on (hn _ (List.getElem_mem hi)) e).mp (h2 e)
/-- the sheet of the suns -/
def SunsOf (l : List RI) : Option (G × G) → Prop
  | none => ∀ z, ¬ PW z l
  | some f => Fm f ∧ ∀ z, On f.1 f.2 z ↔ PW z l
theorem SunsOf.uniq {l : List RI} : ∀ {o o' : Option (G × G)}, SunsOf l o → SunsOf l o' → o = o'
  | none, none, _, _ => rfl
  | none, some f, h, ⟨h1, h2⟩ => absurd ((h2 f.2).mp (on_base h1.1.ne)) (h _)
  | some f, none, ⟨h1, h2⟩, h => absurd ((h2 f.2).mp (on_base h1.1.ne)) (h _)
  | some f, some g, ⟨h1, h2⟩, ⟨g1, g2⟩ => congrArg some (fm_eq h1 g1 fun z => by rw [h2 z, g2 z])
/-- .. of the same raised sheets seen otherwise: φ leads suns to suns -/
theorem SunsOf.led {l k : List RI} {φ ψ : G → G} (hp : ∀ z, PW (φ z) k ↔ PW z l) (h1 : ∀ z, φ (ψ z) = z) : ∀ {o o' : Option (G × G)}, SunsOf l o → SunsOf k o' → (o = none ↔ o' = none) ∧ ∀ f f', o = some f → o' = some f' → ∀ z, On f'.1 f'.2 (φ z) ↔ On f.1 f.2 z
  | none, none, _, _ => ⟨by simp, fun _ _ h => (by cases h)⟩
  | none, some f, h, ⟨g1, g2⟩ => by
    exfalso
    have := (g2 f.2).mp (on_base g1.1.ne)
    rw [← h1 f.2, hp] at this
    exact h _ this
  | some f, none, ⟨g1, g2⟩, h => by
    exfalso
    have := (g2 f.2).mp (on_base g1.1.ne)
    rw [← hp] at this
    exact h _ this
  | some f, some g, ⟨f1, f2⟩, ⟨g1, g2⟩ => ⟨by simp, fun _ _ e e' z => by cases e; cases e'; rw [g2, f2, hp]⟩
/-! ### lights of up to fifteen sheets -/
theorem lightF_sizC : ∀ {l : List (G × G)} {f g : G × G} {j e k : Nat}, GoodB 40 300 l → Siz j e k 40 f → Fm f → j + l.length * 81 ≤ 1174 → e + l.length * 80 ≤ 1460 → k ≤ 3900 → lightF f l = some g → Siz 1174 1460 3900 40 g ∧ Fm g
  | [], f, g, j, e, k, _, hs, hf, l1, l2, l3, h => by
    simp only [lightF, Option.some.injEq] at h
    subst h
    exact ⟨⟨hs.ne, hs.s.mono (by omega), hs.sd, hs.bd.mono (by omega), hs.b.mono l3⟩, hf⟩
  | p :: l, f, g, j, e, k, hG, hs, hf, l1, l2, l3, h => by
    simp only [lightF] at h
    rw [List.length_cons] at l1 l2
    split at h
    · rename_i hm
      have hp := hG.ne p (by simp)
      exact lightF_sizC hG.tail (hs.stepB hp (hG.s p (by simp)) hm) (fm_mb hs.ne hp hm) (by omega) (by omega) (by omega) h
    · cases h
theorem lightG_sizC {l : List (G × G)} {g : G × G} (hG : GoodB 40 300 l) (hl : l.length ≤ 15) (h : lightG l = some g) : Siz 1174 1460 3900 40 g ∧ Fm g := by
  cases l with
  | nil => cases h
  | cons p l =>
    have hp := hG.ne p (by simp)
    rw [List.length_cons] at hl
    exact lightF_sizC hG.tail (first_sizB hp (hG.s p (by simp)) (hG.b p (by simp))) (fm_fb hp) (by omega) (by omega) (by omega) h
theorem boolsL_map : ∀ {bs : List Bool}, boolsL (bs.map D.bl) = some bs
  | [] => rfl
  | b :: bs => by rw [List.map_cons]; simp only [boolsL, boolsL_map, Option.map_some]
theorem p_all_map {m : Bool} {M : Mem} {bs : List Bool} : primop m .all [.lst (bs.map D.bl)] M = .ok (.bl (bs.all id)) M := by
  simp only [primop, itemsL, itemsC, boolsL_map]
end Sn
namespace Sn
open PySem
theorem cpD_inj {p q : Nat × Nat} (h : cpD p = cpD q) : p = q := by
  unfold cpD at h
  simp only [D.tup.injEq, List.cons.injEq, D.int.injEq, and_true] at h
  exact Prod.ext (by omega) (by omega)
theorem pures_cp (l : List (Nat × Nat)) : (D.lst (l.map cpD)).pure = true := by
  have : ∀ l : List (Nat × Nat), pures (l.map cpD) = true := fun l => by
    induction l with
    | nil => rfl
    | cons p l ih =>
      rw [List.map_cons]
      have : (cpD p).pure = true := rfl
      simp only [pures, this, ih, Bool.and_self]
  exact this l
theorem pures_cps (l : List ((Nat × Nat) × (G × G))) : (D.lst (l.map fun q => .tup [cpD q.1, sh q.2])).pure = true := by
  have : ∀ l : List ((Nat × Nat) × (G × G)), pures (l.map fun q => .tup [cpD q.1, sh q.2]) = true := fun l => by
    induction l with
    | nil => rfl
    | cons p l ih =>
      rw [List.map_cons]
      have : (D.tup [cpD p.1, sh p.2]).pure = true := rfl
      simp only [pures, this, ih, Bool.and_self]
  exact this l
def cpF : D → List D
  | .int i => (List.range i.toNat).map fun f => .tup [.int (f : Nat), .int i]
  | _ => []
theorem cp_flat {m : Nat} : List.flatMap cpF (rangeD 0 ((m : Int)).toNat) = (couples m).map cpD := by
  unfold rangeD couples
  rw [List.map_flatMap, List.flatMap_map]
  have : ((m : Int)).toNat = m := by omega
  rw [this]
  congr 1
  funext s
  show (List.range (0 + (s : Int)).toNat).map (fun f => D.tup [.int (f : Nat), .int (0 + (s : Int))]) = ((List.range s).map fun f => (f, s)).map cpD
  rw [Int.zero_add, List.map_map]
  rfl
open Classical in
theorem fm_cp {P : Nat × Nat → Prop} {f : D → Option D} : ∀ {l : List (Nat × Nat)}, (∀ p ∈ l, f (cpD p) = if P p then some (cpD p) else none) → (l.map cpD).filterMap f = (l.filter fun p => decide (P p)).map cpD
  | [], _ => rfl
  | p :: l, h => by
    have ih := fm_cp (l := l) fun q hq => h q (by simp [hq])
    rw [List.map_cons, List.filterMap_cons, h p (by simp), List.filter_cons]
    by_cases hp : P p
    · rw [if_pos hp, if_pos (by simp [hp]), List.map_cons]
      exact congrArg _ ih
    · rw [if_neg hp, if_neg (by simp [hp])]
      exact ih
theorem rat_iff {a b : Rat} : a = b ↔ a.num = b.num ∧ (a.den : Int) = (b.den : Int) := by
  constructor
  · rintro rfl; exact ⟨rfl, rfl⟩
  · rintro ⟨h1, h2⟩
    exact Rat.ext h1 (by omega)
end Sn
/-! Sn, part Zs: lights of led sheets. -/
namespace Sn
open PySem
/-- φ leads the holes of o to those of o' -/
def Led (φ : G → G) (o o' : Option (G × G)) : Prop := (o = none ↔ o' = none) ∧ ∀ f f', o = some f → o' = some f' → ∀ z, On f'.1 f'.2 (φ z) ↔ On f.1 f.2 z
theorem Led.eq {φ ψ : G → G} (h1 : ∀ z, φ (ψ z) = z) {o o' : Option (G × G)} (h : Led φ o o') (hf' : ∀ f', o' = some f' → Fm f') (F : G × G → G × G) (hF : ∀ f, o = some f → Fm (F f) ∧ ∀ z, On (F f).1 (F f).2 (φ z) ↔ On f.1 f.2 z) : o' = o.map F := by
  cases o with
  | none => exact h.1.mp rfl
  | some f =>
    cases o' with
    | none => exact absurd (h.1.mpr rfl) (by simp)
    | some f' =>
      obtain ⟨a, b⟩ := hF f rfl
      refine congrArg some (fm_eq (hf' f' rfl) a fun z => ?_)
      rw [← h1 z, h.2 f f' rfl rfl, b]
theorem meet_led {φ ψ : G → G} (h1 : ∀ z, φ (ψ z) = z) {p q p' q' : G × G} (n1 : p.1 ≠ 0) (n2 : q.1 ≠ 0) (n3 : p'.1 ≠ 0) (n4 : q'.1 ≠ 0) (hp : ∀ z, On p'.1 p'.2 (φ z) ↔ On p.1 p.2 z) (hq : ∀ z, On q'.1 q'.2 (φ z) ↔ On q.1 q.2 z) : Meet p'.1 p'.2 q'.1 q'.2 ↔ Meet p.1 p.2 q.1 q.2 := by
  rw [meet_iff n3 n4, meet_iff n1 n2]
  constructor
  · rintro ⟨z, a, b⟩
    rw [← h1 z] at a b
    exact ⟨ψ z, (hp _).mp a, (hq _).mp b⟩
  · rintro ⟨z, a, b⟩
    exact ⟨φ z, (hp z).mpr a, (hq z).mpr b⟩
theorem pair_led {α : Type} {φ ψ : G → G} (h1 : ∀ z, φ (ψ z) = z) {l : List α} {f f' : α → G × G} (n : ∀ x ∈ l, (f x).1 ≠ 0) (n' : ∀ x ∈ l, (f' x).1 ≠ 0) (h : ∀ x ∈ l, ∀ z, On (f' x).1 (f' x).2 (φ z) ↔ On (f x).1 (f x).2 z) :
    ((l.map f').Pairwise fun p q => Meet p.1 p.2 q.1 q.2) ↔ (l.map f).Pairwise fun p q => Meet p.1 p.2 q.1 q.2 := by
  rw [List.pairwise_map, List.pairwise_map]
  constructor
  · intro g
    refine g.imp_of_mem fun hx hy k => ?_
    exact (meet_led h1 (n _ hx) (n _ hy) (n' _ hx) (n' _ hy) (h _ hx) (h _ hy)).mp k
  · intro g
    refine g.imp_of_mem fun hx hy k => ?_
    exact (meet_led h1 (n _ hx) (n _ hy) (n' _ hx) (n' _ hy) (h _ hx) (h _ hy)).mpr k
theorem light_led {α : Type} {φ ψ : G → G} (h1 : ∀ z, φ (ψ z) = z) {l : List α} {f f' : α → G × G} (hl : l ≠ []) (n : ∀ x ∈ l, (f x).1 ≠ 0) (n' : ∀ x ∈ l, (f' x).1 ≠ 0) (h : ∀ x ∈ l, ∀ z, On (f' x).1 (f' x).2 (φ z) ↔ On (f x).1 (f x).2 z) :
    Led φ (lightG (l.map f)) (lightG (l.map f')) := by
  have hn : ∀ p ∈ l.map f, p.1 ≠ 0 := fun p hp => by
    obtain ⟨x, hx, rfl⟩ := List.mem_map.mp hp
    exact n x hx
  have hn' : ∀ p ∈ l.map f', p.1 ≠ 0 := fun p hp => by
    obtain ⟨x, hx, rfl⟩ := List.mem_map.mp hp
    exact n' x hx
  have e0 : l.map f ≠ [] := fun e => hl (List.map_eq_nil_iff.mp e)
  have e0' : l.map f' ≠ [] := fun e => hl (List.map_eq_nil_iff.mp e)
  have key := pair_led h1 n n' h
  rw [← lightG_some e0 hn, ← lightG_some e0' hn'] at key
  refine ⟨?_, fun g g' hg hg' z => ?_⟩
  · cases a : lightG (l.map f) with
    | none =>
      cases b : lightG (l.map f') with
      | none => simp
      | some g => rw [a, b] at key; simp at key
    | some g =>
      cases b : lightG (l.map f') with
      | none => rw [a, b] at key; simp at key
      | some g => simp
  · rw [(lightG_on hn hg).2, (lightG_on hn' hg').2]
    constructor
    · intro k p hp
      obtain ⟨x, hx, rfl⟩ := List.mem_map.mp hp
      exact (h x hx z).mp (k _ (List.mem_map.mpr ⟨x, hx, rfl⟩))
    · intro k p hp
      obtain ⟨x, hx, rfl⟩ := List.mem_map.mp hp
      exact (h x hx z).mpr (k _ (List.mem_map.mpr ⟨x, hx, rfl⟩))
theorem comp_mapM {n : Nat} {env : Slots} {M : Mem} {own : List Nat} {elt : E} {tg : Tg} {it : Src} {w : Wk} (f : D → D) (hi : evIt n it env M = .ok w M) (h : ∀ x ∈ w.items, ∃ env2, tg.put x (wipes env own) = some env2 ∧ evE n elt env2 M = .ok (f x) M) (l : w.items.length ≤ sizeLine) :
    evE n (.comp true own elt tg it .none) env M = .ok (.ref M.length) (M ++ [some (w.items.map f)]) := by
  rw [evE, hi]
  show Res.bind (compL w.refs M _ w.items [] M) _ = _
  rw [compL_map (f := f) w.items [] (fun x hx => by
    obtain ⟨env2, e1, e2⟩ := h x hx
    rw [e1]
    show ((evC n .none env2 M).bind fun b M4 => if b = true then (evE n elt env2 M4).bind fun y M5 => Res.ok (some y) M5 else Res.ok none M4) = Res.ok (some (f x)) M
    rw [evC]
    show ((evE n elt env2 M).bind fun y M5 => Res.ok (some y) M5) = Res.ok (some (f x)) M
    rw [e2]
    rfl) (by simpa using l)]
  show newL true ([] ++ w.items.map f) M = _
  rw [List.nil_append, newL_t (by rw [List.length_map]; exact l)]
theorem Hq.add {a b : Rat} {j k : Nat} (h : Hq a j) (g : Hq b k) : Hq (a + b) (j + k + 1) := by
  obtain ⟨x, y, h0, e1, h1, h3⟩ := h.out
  obtain ⟨z, w, g0, e2, g1, g3⟩ := g.out
  refine ⟨x * w + z * y, y * w, Int.mul_pos h0 g0, ?_, natAbs_add_lt (natAbs_mul_lt h1 g3) (Nat.lt_of_lt_of_le (natAbs_mul_lt g1 h3) (Nat.pow_le_pow_right (by decide) (by omega))), pow_up (natAbs_mul_lt h3 g3) (by omega)⟩
  have := rat_ne (show y ≠ 0 by omega)
  have := rat_ne (show w ≠ 0 by omega)
  rw [e1, e2, Rat.intCast_add, Rat.intCast_mul, Rat.intCast_mul, Rat.intCast_mul]
  grind
/-! ### the five ways -/
noncomputable def mvG (a : G) (f : G × G) : G × G := (qt f.1, fb f.1 (f.2 + a))
noncomputable def tnG (w : G) (f : G × G) : G × G := (qt (f.1 * w), fb (f.1 * w) (0 + w * (f.2 - 0)))
noncomputable def mrG (f : G × G) : G × G := (qt f.1.conj, fb f.1.conj f.2.conj)
theorem mvG_on {f : G × G} {a z : G} (h : f.1 ≠ 0) : On (mvG a f).1 (mvG a f).2 (z + a) ↔ On f.1 f.2 z := by
  refine (on_fb h).trans ?_
  unfold On
  have : (z + a - (f.2 + a)) / f.1 = (z - f.2) / f.1 := by grind
  rw [this]
theorem tnG_on {f : G × G} {w z : G} (h : f.1 ≠ 0) (hw : w ≠ 0) : On (tnG w f).1 (tnG w f).2 (z * w) ↔ On f.1 f.2 z := by
  have h2 : f.1 * w ≠ 0 := by grind
  refine (on_fb h2).trans ?_
  unfold On
  have : (z * w - (0 + w * (f.2 - 0))) / (f.1 * w) = (z - f.2) / f.1 := by grind
  rw [this]
theorem zi_conj {z : G} : Zi z.conj ↔ Zi z := ⟨fun h => by have := h.conj; rwa [conj_conj] at this, fun h => h.conj⟩
theorem conj_div {z w : G} (hw : w ≠ 0) : (z / w).conj = z.conj / w.conj := by
  have h := conj_mul (z / w) w
  have e : z / w * w = z := by grind
  rw [e] at h
  have := conj_ne hw
  grind
theorem mrG_on {f : G × G} {z : G} (h : f.1 ≠ 0) : On (mrG f).1 (mrG f).2 z.conj ↔ On f.1 f.2 z := by
  have h2 := conj_ne h
  refine (on_fb h2).trans ?_
  unfold On
  rw [← conj_sub, ← conj_div h]
  exact zi_conj
theorem mvG_fm {f : G × G} {a : G} (h : f.1 ≠ 0) : Fm (mvG a f) := fm_fb h
theorem tnG_fm {f : G × G} {w : G} (h : f.1 ≠ 0) (hw : w ≠ 0) : Fm (tnG w f) := fm_fb (show f.1 * w ≠ 0 by grind)
theorem mrG_fm {f : G × G} (h : f.1 ≠ 0) : Fm (mrG f) := fm_fb (conj_ne h)
theorem on_shift {s b z c : G} : On s (b - c) z ↔ On s b (z + c) := by
  unfold On
  have : (z - (b - c)) / s = (z + c - b) / s := by grind
  rw [this]
theorem seen_map {l : List RI} {z : G} {m : RI → RI} : seen z (l.map m) = l.map fun x => ((m x).2.1, (m x).2.2 - ofR (m x).1 * z) := by
  unfold seen
  rw [List.map_map]
  rfl
/-- raised sheets led by m: with a sun led by φ, the holes led by χ -/
theorem pw_led {l : List RI} {m : RI → RI} {z z' : G} {χ ψ : G → G} (h1 : ∀ y, χ (ψ y) = y) (n : ∀ x ∈ l, x.2.1 ≠ 0) (n' : ∀ x ∈ l, (m x).2.1 ≠ 0) (h : ∀ x ∈ l, ∀ y, On (m x).2.1 ((m x).2.2 - ofR (m x).1 * z') (χ y) ↔ On x.2.1 (x.2.2 - ofR x.1 * z) y) : PW z' (l.map m) ↔ PW z l := by
  unfold PW
  rw [seen_map]
  exact pair_led (f := fun x : RI => (x.2.1, x.2.2 - ofR x.1 * z)) h1 n n' h
theorem seen_led {l : List RI} {m : RI → RI} {z z' : G} {χ ψ : G → G} (h1 : ∀ y, χ (ψ y) = y) (hl : l ≠ []) (n : ∀ x ∈ l, x.2.1 ≠ 0) (n' : ∀ x ∈ l, (m x).2.1 ≠ 0) (h : ∀ x ∈ l, ∀ y, On (m x).2.1 ((m x).2.2 - ofR (m x).1 * z') (χ y) ↔ On x.2.1 (x.2.2 - ofR x.1 * z) y) : Led χ (lightG (seen z l)) (lightG (seen z' (l.map m))) := by
  rw [seen_map]
  exact light_led (f := fun x : RI => (x.2.1, x.2.2 - ofR x.1 * z)) h1 hl n n' h
theorem suns_led {l : List RI} {m : RI → RI} {φ ψ : G → G} (h1 : ∀ z, φ (ψ z) = z) (hp : ∀ z, PW (φ z) (l.map m) ↔ PW z l) {o o' : Option (G × G)} (h : SunsOf l o) (h' : SunsOf (l.map m) o') : Led φ o o' := SunsOf.led hp h1 h h'
theorem SunsOf.fm {l : List RI} {o : Option (G × G)} (h : SunsOf l o) : ∀ f, o = some f → Fm f := fun f e => by subst e; exact h.1
end Sn
/-! Sn, part Zt: rays. -/
namespace Sn
open PySem
/-- numbers above 0 by which a ray comes to holes: the first one and how much further each next one is -/
def RayOf (α β : G) : Option (Rat × Rat) → Prop
  | none => ∀ t : Rat, ¬ Zi (ofR t * α - β)
  | some o => 0 < o.1 ∧ o.1 ≤ o.2 ∧ ∀ t : Rat, Zi (ofR t * α - β) ↔ ∃ k : Int, t = o.1 + (k : Rat) * o.2
theorem RayOf.at {α β : G} {o : Rat × Rat} (h : RayOf α β (some o)) : Zi (ofR o.1 * α - β) := (h.2.2 o.1).mpr ⟨0, by rw [Rat.intCast_zero]; grind⟩
theorem int_rat_lt {a b : Int} : (a : Rat) < (b : Rat) ↔ a < b := Rat.intCast_lt_intCast
/-- the least one above 0 is one alone -/
theorem ray_first {a g t : Rat} {k : Int} (ha : 0 < a) (hg : a ≤ g) (e : t = a + (k : Rat) * g) (ht : 0 < t) : a ≤ t := by
  rcases Int.lt_or_le k 0 with h | h
  · exfalso
    have h1 : (k : Rat) ≤ -1 := by
      have := Rat.intCast_le_intCast.mpr (show k ≤ -1 by omega)
      simpa using this
    have h2 : (k : Rat) * g ≤ -1 * g := Rat.mul_le_mul_of_nonneg_right h1 (by grind)
    grind
  · have h1 : (0 : Rat) ≤ (k : Rat) := by
      have := Rat.intCast_le_intCast.mpr h
      simpa using this
    have h2 : 0 ≤ (k : Rat) * g := Rat.mul_nonneg h1 (by grind)
    grind
theorem RayOf.uniq {α β : G} : ∀ {o o' : Option (Rat × Rat)}, RayOf α β o → RayOf α β o' → o = o'
  | none, none, _, _ => rfl
  | none, some f, h, g => absurd g.at (h _)
  | some f, none, g, h => absurd g.at (h _)
  | some (a, g), some (a', g'), h, h' => by
    obtain ⟨h1, h2, h3⟩ := h
    obtain ⟨k1, k2, k3⟩ := h'
    dsimp only at *
    have e1 : a' = a := by
      obtain ⟨k, ek⟩ := (h3 a').mp ((k3 a').mpr ⟨0, by rw [Rat.intCast_zero]; grind⟩)
      obtain ⟨l, el⟩ := (k3 a).mp ((h3 a).mpr ⟨0, by rw [Rat.intCast_zero]; grind⟩)
      exact Rat.le_antisymm (ray_first k1 k2 el h1) (ray_first h1 h2 ek k1)
    subst e1
    have e2 : g' = g := by
      obtain ⟨k, ek⟩ := (h3 (a' + g')).mp ((k3 _).mpr ⟨1, by rw [Rat.intCast_one]; grind⟩)
      obtain ⟨l, el⟩ := (k3 (a' + g)).mp ((h3 _).mpr ⟨1, by rw [Rat.intCast_one]; grind⟩)
      have e3 : g' = (k : Rat) * g := by grind
      have e4 : g = (l : Rat) * g' := by grind
      have p1 := ray_first (a := g) (g := g) (k := k - 1) (t := g') (by grind) (by grind) (by rw [Rat.intCast_sub, Rat.intCast_one]; grind) (by grind)
      have p2 := ray_first (a := g') (g := g') (k := l - 1) (t := g) (by grind) (by grind) (by rw [Rat.intCast_sub, Rat.intCast_one]; grind) (by grind)
      exact Rat.le_antisymm p2 p1
    rw [e2]
theorem zi_re {z : G} : Zi z ↔ ∃ m n : Int, z.re = (m : Rat) ∧ z.im = (n : Rat) := by
  constructor
  · rintro ⟨w, rfl⟩
    refine ⟨w.x, w.y, ?_, ?_⟩
    · show (w.x : Rat) / ((1 : Int) : Rat) = _
      rw [Rat.intCast_one]; grind
    · show (w.y : Rat) / ((1 : Int) : Rat) = _
      rw [Rat.intCast_one]; grind
  · rintro ⟨m, n, h1, h2⟩
    refine ⟨⟨m, n⟩, G.ext ?_ ?_⟩
    · show z.re = (m : Rat) / ((1 : Int) : Rat)
      rw [Rat.intCast_one, h1]; grind
    · show z.im = (n : Rat) / ((1 : Int) : Rat)
      rw [Rat.intCast_one, h2]; grind
theorem ray_zi {c t : Rat} {p q x y d : Int} : Zi (ofR t * (ofR c * gw ⟨p, q⟩) - gz x y d) ↔ ∃ m n : Int, t * c * p - (x : Rat) / d = m ∧ t * c * q - (y : Rat) / d = n := by
  rw [zi_re]
  have e : ofR t * (ofR c * gw ⟨p, q⟩) - gz x y d = ⟨t * c * p - (x : Rat) / d, t * c * q - (y : Rat) / d⟩ := by
    have e1 : gw ⟨p, q⟩ = ⟨(p : Rat), (q : Rat)⟩ := G.ext (by show (p : Rat) / ((1 : Int) : Rat) = p; rw [Rat.intCast_one]; grind) (by show (q : Rat) / ((1 : Int) : Rat) = q; rw [Rat.intCast_one]; grind)
    rw [e1]
    refine G.ext ?_ ?_
    · show t * (c * p - 0 * q) - 0 * (c * q + 0 * p) - (x : Rat) / d = _
      grind
    · show t * (c * q + 0 * p) + 0 * (c * p - 0 * q) - (y : Rat) / d = _
      grind
  rw [e]
/-- a ray by whole coprime parts: no hole -/
theorem ray_no {c : Rat} {p q x y d : Int} (hd : 0 < d) (h : ¬ d ∣ q * x - p * y) : RayOf (ofR c * gw ⟨p, q⟩) (gz x y d) none := fun t hz => by
  obtain ⟨m, n, h1, h2⟩ := ray_zi.mp hz
  have d0 := rat_ne (show d ≠ 0 by omega)
  refine h ⟨p * n - q * m, ?_⟩
  have : ((q * x - p * y : Int) : Rat) = ((d * (p * n - q * m) : Int) : Rat) := by
    rw [Rat.intCast_sub, Rat.intCast_mul, Rat.intCast_mul, Rat.intCast_mul, Rat.intCast_sub, Rat.intCast_mul, Rat.intCast_mul, ← h1, ← h2]
    grind
  exact Rat.intCast_inj.mp this
theorem rat_a {M T L D c : Rat} (hD : D ≠ 0) (hc : c ≠ 0) : (M + (T - D * L) / D) / c = T / (D * c) + (M - L) * (1 / c) := by grind
theorem rat_b {S L D c k : Rat} (hD : D ≠ 0) (hc : c ≠ 0) : ((S + D * L) / (D * c) + k * (1 / c)) * c = S / D + (k + L) := by grind
theorem rat_c {p u q v x y d K : Rat} (hd : d ≠ 0) (h : p * u = 1 - q * v) : ((u * x + v * y) / d + K) * p - x / d = K * p - v * ((q * x - p * y) / d) := by grind
theorem rat_d {p u q v x y d K : Rat} (hd : d ≠ 0) (h : q * v = 1 - p * u) : ((u * x + v * y) / d + K) * q - y / d = K * q + u * ((q * x - p * y) / d) := by grind
theorem ray_yes {c : Rat} {p q u v x y d top : Int} (hc : 0 < c) (hd : 0 < d) (hb : p * u + q * v = 1) (h : d ∣ q * x - p * y) (h1 : 0 < top) (h2 : top ≤ d) (h3 : d ∣ top - (u * x + v * y)) : RayOf (ofR c * gw ⟨p, q⟩) (gz x y d) (some ((top : Rat) / (d * c), 1 / c)) := by
  have d0 := rat_ne (show d ≠ 0 by omega)
  have c0 : c ≠ 0 := fun e => by rw [e] at hc; exact absurd hc (by decide)
  have hdp : (0 : Rat) < d := Rat.intCast_pos.mpr hd
  have htp : (0 : Rat) < top := Rat.intCast_pos.mpr h1
  have htd : (top : Rat) ≤ d := Rat.intCast_le_intCast.mpr h2
  obtain ⟨j, hj⟩ := h
  obtain ⟨l, hl⟩ := h3
  have hj' : (q : Rat) * x - p * y = d * j := by
    have := congrArg (fun z : Int => (z : Rat)) hj
    simpa [Rat.intCast_sub, Rat.intCast_mul] using this
  have hl' : (top : Rat) - (u * x + v * y) = d * l := by
    have := congrArg (fun z : Int => (z : Rat)) hl
    simpa [Rat.intCast_sub, Rat.intCast_mul, Rat.intCast_add] using this
  have hb' : (p : Rat) * u + q * v = 1 := by
    have := congrArg (fun z : Int => (z : Rat)) hb
    simpa [Rat.intCast_mul, Rat.intCast_add] using this
  have hdc : 0 < (d : Rat) * c := Rat.mul_pos hdp hc
  refine ⟨?_, ?_, fun t => ?_⟩
  · show 0 < (top : Rat) / (d * c)
    rw [Rat.div_def]
    exact Rat.mul_pos htp (Rat.inv_pos.mpr hdc)
  · show (top : Rat) / (d * c) ≤ 1 / c
    have e : (1 : Rat) / c = d / (d * c) := by grind
    rw [e, Rat.div_def, Rat.div_def]
    exact Rat.mul_le_mul_of_nonneg_right htd (Rat.le_of_lt (Rat.inv_pos.mpr hdc))
  · show Zi _ ↔ ∃ k : Int, t = (top : Rat) / (d * c) + k * (1 / c)
    rw [ray_zi]
    constructor
    · rintro ⟨m, n, e1, e2⟩
      refine ⟨m * u + n * v - l, ?_⟩
      rw [Rat.intCast_sub, Rat.intCast_add, Rat.intCast_mul, Rat.intCast_mul]
      have e3 : t * c = (m : Rat) * u + n * v + (u * x + v * y) / d := by
        have : t * c = t * c * ((p : Rat) * u + q * v) := by rw [hb']; grind
        rw [this, ← e1, ← e2]
        grind
      have e4 : (u : Rat) * x + v * y = top - d * l := by grind
      have : t = t * c / c := by grind
      rw [this, e3, e4]
      exact rat_a d0 c0
    · rintro ⟨k, e⟩
      have e3 : t * c = (u * x + v * y) / d + (k + l) := by
        have e4 : (top : Rat) = (u * x + v * y) + d * l := by grind
        rw [e, e4]
        exact rat_b d0 c0
      refine ⟨(k + l) * p - v * j, (k + l) * q + u * j, ?_, ?_⟩
      · rw [Rat.intCast_sub, Rat.intCast_mul, Rat.intCast_mul, Rat.intCast_add, e3]
        have e5 : (j : Rat) = (q * x - p * y) / d := by grind
        rw [e5]
        exact rat_c d0 (by grind)
      · rw [Rat.intCast_add, Rat.intCast_mul, Rat.intCast_mul, Rat.intCast_add, e3]
        have e5 : (j : Rat) = (q * x - p * y) / d := by grind
        rw [e5]
        exact rat_d d0 (by grind)
theorem RayOf.shift {α β γ : G} {o : Option (Rat × Rat)} (hγ : Zi γ) (h : RayOf α β o) : RayOf α (β - γ) o := by
  have key : ∀ t : Rat, Zi (ofR t * α - (β - γ)) ↔ Zi (ofR t * α - β) := fun t => by
    constructor
    · intro k
      have e : ofR t * α - β = ofR t * α - (β - γ) - γ := by grind
      rw [e]; exact k.sub hγ
    · intro k
      have e : ofR t * α - (β - γ) = ofR t * α - β + γ := by grind
      rw [e]; exact k.add hγ
  cases o with
  | none => exact fun t k => h t ((key t).mp k)
  | some f => exact ⟨h.1, h.2.1, fun t => (key t).trans (h.2.2 t)⟩
theorem RayOf.half {α β : G} {o : Option (Rat × Rat)} (h : RayOf α β o) : RayOf (α * ofR 2) β (o.map fun f => (f.1 / 2, f.2 / 2)) := by
  have key : ∀ t : Rat, Zi (ofR t * (α * ofR 2) - β) ↔ Zi (ofR (t * 2) * α - β) := fun t => by
    have e : ofR t * (α * ofR 2) = ofR (t * 2) * α := by rw [ofR_mul]; grind
    rw [e]
  cases o with
  | none => exact fun t k => h _ ((key t).mp k)
  | some f =>
    obtain ⟨h1, h2, h3⟩ := h
    refine ⟨?_, ?_, fun t => ?_⟩
    · show 0 < f.1 / 2
      grind
    · show f.1 / 2 ≤ f.2 / 2
      grind
    · rw [key, h3]
      constructor
      · rintro ⟨k, e⟩
        exact ⟨k, by show t = f.1 / 2 + k * (f.2 / 2); grind⟩
      · rintro ⟨k, e⟩
        have e : t = f.1 / 2 + k * (f.2 / 2) := e
        exact ⟨k, by grind⟩
end Sn
namespace Sn
open PySem
noncomputable def rayD : Option (Rat × Rat) → D
  | none => .non
  | some f => .tup [qf f.1, qf f.2]
theorem pure_ray {o : Option (Rat × Rat)} : (rayD o).pure = true := by cases o <;> rfl
theorem isn_ray {o : Option (Rat × Rat)} {M : Mem} : isnD (rayD o) M = .ok (.bl o.isNone) M := by cases o <;> rfl
/-- a place as a fraction times whole coprime parts -/
theorem ray_parts {α : G} (h : α ≠ 0) : ∃ g p q : Int, 0 < g ∧ g = ((Int.gcd (gx α) (gy α) : Nat) : Int) ∧ gx α = g * p ∧ gy α = g * q ∧ Int.gcd p q = 1 ∧ α = ofR ((g : Rat) / (gp α : Rat)) * gw ⟨p, q⟩ := by
  obtain ⟨g, p, q, g0, eg, ex, ey, l, r, hb⟩ := gcd_parts (nz_parts h)
  refine ⟨g, p, q, g0, eg, ex, ey, ?_, ?_⟩
  · have h1 : q * l + p * r = 1 := by
      refine Int.eq_of_mul_eq_mul_left (show g ≠ 0 by omega) ?_
      rw [ex, ey] at hb
      grind
    have h2 : ((Int.gcd p q : Nat) : Int) ∣ 1 := by
      rw [← h1]
      exact Int.dvd_add (Int.dvd_mul_of_dvd_left (Int.gcd_dvd_right p q)) (Int.dvd_mul_of_dvd_left (Int.gcd_dvd_left p q))
    have h3 : (Int.gcd p q) ∣ 1 := by exact Int.natCast_dvd_natCast.mp (by simpa using h2)
    exact Nat.dvd_one.mp h3
  · have e : α = gz (gx α) (gy α) (gp α) := (gz_out α).symm
    have e1 : gz (gx α) (gy α) (gp α) = ofR ((g : Rat) / (gp α : Rat)) * gw ⟨p, q⟩ := by
      have e2 : gw ⟨p, q⟩ = ⟨(p : Rat), (q : Rat)⟩ := G.ext (by show (p : Rat) / ((1 : Int) : Rat) = p; rw [Rat.intCast_one]; grind) (by show (q : Rat) / ((1 : Int) : Rat) = q; rw [Rat.intCast_one]; grind)
      rw [e2]
      refine G.ext ?_ ?_
      · show ((gx α : Int) : Rat) / ((gp α : Int) : Rat) = (g : Rat) / (gp α : Rat) * p - 0 * q
        rw [ex, Rat.intCast_mul]; grind
      · show ((gy α : Int) : Rat) / ((gp α : Int) : Rat) = (g : Rat) / (gp α : Rat) * q + 0 * p
        rw [ey, Rat.intCast_mul]; grind
    rw [← e1]; exact e
end Sn
namespace Sn
open PySem
noncomputable def onD : Option G → D
  | none => .non
  | some z => nf z
theorem pure_onD {o : Option G} : (onD o).pure = true := by cases o <;> rfl
end Sn
namespace Sn
open PySem
/-- a loop that may break -/
theorem for_ixB {refs : List Nat} {M0 : Mem} {body : D → Slots → Mem → Res Out} (I : Nat → Slots → Mem → Prop) (B : Slots → Mem → Prop) : ∀ (xs : List D) (k : Nat), (∀ i x, xs[i]? = some x → ∀ env M, I (k + i) env M → (∃ env' M', body x env M = .ok (.nx env') M' ∧ stays refs M0 M' ∧ I (k + i + 1) env' M') ∨ ∃ env' M', body x env M = .ok (.bk env') M' ∧ B env' M') →
    ∀ env M, I k env M → (∃ env' M', forL refs M0 body xs env M = .ok (.nx env') M' ∧ (I (k + xs.length) env' M' ∨ B env' M'))
  | [], k, _, env, M, h => ⟨env, M, by rw [forL], .inl h⟩
  | x :: xs, k, hb, env, M, h => by
    rcases hb 0 x rfl env M h with ⟨env1, M1, e1, st, h1⟩ | ⟨env1, M1, e1, h1⟩
    · obtain ⟨env2, M2, e2, h2⟩ := for_ixB I B xs (k + 1) (fun i y hy env M hi => by
        have e : k + 1 + i = k + (i + 1) := by omega
        rw [e] at hi ⊢
        exact hb (i + 1) y hy env M hi) env1 M1 h1
      refine ⟨env2, M2, ?_, ?_⟩
      · rw [forL, e1]
        dsimp only
        rw [if_pos st, e2]
      · have e : k + (x :: xs).length = k + 1 + xs.length := by rw [List.length_cons]; omega
        rw [e]; exact h2
    · refine ⟨env1, M1, ?_, .inr h1⟩
      rw [forL, e1]
theorem wp_forB {n : Nat} {t : Tg} {it : Src} {b : Ss} {f : Slots → Mem → Res Out} {env : Slots} {M M1 : Mem} {w : Wk} {Q : Out → Mem → Prop} (I : Nat → Slots → Mem → Prop) (B : Slots → Mem → Prop) (hi : evIt n it env M = .ok w M1) (h0 : I 0 env M1)
    (hb : ∀ i x, w.items[i]? = some x → ∀ env M, I i env M → ∃ env2, t.put x env = some env2 ∧ Pst (evSs n b env2 M) fun o M' => (∃ env', o = .nx env' ∧ stays w.refs M1 M' ∧ I (i + 1) env' M') ∨ ∃ env', o = .bk env' ∧ B env' M')
    (hr : ∀ env M, I w.items.length env M ∨ B env M → Pst (f env M) Q) : Pst (outS (seqT (evS n (.for t it b) env M) f)) Q := by
  rw [es_for hi]
  obtain ⟨env', M', e, h⟩ := for_ixB (refs := w.refs) (M0 := M1) (body := fun x env2 M2 => (ofO (t.put x env2) M2).bind fun env3 M3 => evSs n b env3 M3) I B w.items 0 (fun i x hx env M hI => by
    rw [Nat.zero_add] at hI ⊢
    obtain ⟨env2, e2, o, M', e3, h⟩ := hb i x hx env M hI
    rcases h with ⟨env', rfl, st, h⟩ | ⟨env', rfl, h⟩
    · refine .inl ⟨env', M', ?_, st, h⟩
      rw [e2]
      exact e3
    · refine .inr ⟨env', M', ?_, h⟩
      rw [e2]
      exact e3) env M1 h0
  rw [e]
  rw [Nat.zero_add] at h
  exact hr env' M' h
theorem of_mul_lt {a b : Int} {δ : Rat} (hδ : 0 < δ) (h : (a : Rat) * δ < (b : Rat) * δ) : a < b := by
  rcases Int.lt_or_le a b with k | k
  · exact k
  · have := Rat.mul_le_mul_of_nonneg_right (Rat.intCast_le_intCast.mpr k) (Rat.le_of_lt hδ)
    grind
theorem of_mul_eq {a b : Int} {δ : Rat} (hδ : 0 < δ) (h : (a : Rat) * δ = (b : Rat) * δ) : a = b := by
  rcases Int.lt_trichotomy a b with k | k | k
  · have := of_mul_lt (a := b) (b := a + 1) hδ (by rw [Rat.intCast_add, Rat.intCast_one]; grind)
    omega
  · exact k
  · have := of_mul_lt (a := a) (b := b + 1) hδ (by rw [Rat.intCast_add, Rat.intCast_one]; grind)
    omega
theorem ray_lines {α β : G} {t1 g T0 δ : Rat} {N : Nat} (ho : RayOf α β (some (t1, g))) (hδ : 0 < δ) (hT : T0 ≤ 0) (hT2 : -δ < T0) (h1 : ∀ t : Rat, Zi (ofR t * α - β) → ∃ m : Int, t = T0 + (m : Rat) * δ) (hN : 0 < N) (h2 : Zi (ofR ((N : Int) * δ) * α)) :
    ∃ n1 n2 : Nat, 1 ≤ n1 ∧ n1 < n2 ∧ n2 ≤ 2 * N ∧ T0 + ((n1 : Int) : Rat) * δ = t1 ∧ T0 + ((n2 : Int) : Rat) * δ = t1 + g ∧ ∀ n : Nat, 0 < T0 + ((n : Int) : Rat) * δ → Zi (ofR (T0 + ((n : Int) : Rat) * δ) * α - β) → n = n1 ∨ n2 ≤ n := by
  obtain ⟨p1, p2, p3⟩ := ho
  dsimp only at p1 p2 p3
  obtain ⟨m, hm⟩ := h1 t1 ((p3 t1).mpr ⟨0, by rw [Rat.intCast_zero]; grind⟩)
  obtain ⟨m2, hm2⟩ := h1 (t1 + g) ((p3 _).mpr ⟨1, by rw [Rat.intCast_one]; grind⟩)
  have m0 : 0 < m := of_mul_lt hδ (by rw [Rat.intCast_zero]; grind)
  have hg : g = ((m2 - m : Int) : Rat) * δ := by rw [Rat.intCast_sub]; grind
  have g0 : 0 < g := by grind
  have P0 : 0 < m2 - m := of_mul_lt hδ (by rw [← hg, Rat.intCast_zero]; grind)
  have hF : Zi (ofR (t1 + (N : Int) * δ) * α - β) := by
    have e : ofR (t1 + (N : Int) * δ) * α - β = (ofR t1 * α - β) + ofR ((N : Int) * δ) * α := by rw [ofR_add]; grind
    rw [e]
    exact ((p3 t1).mpr ⟨0, by rw [Rat.intCast_zero]; grind⟩).add h2
  obtain ⟨k, hk⟩ := (p3 _).mp hF
  have eN : (((N : Int) : Int) : Rat) * δ = ((k * (m2 - m) : Int) : Rat) * δ := by rw [Rat.intCast_mul, Rat.mul_assoc, ← hg]; grind
  have eN := of_mul_eq hδ eN
  have k0 : 0 < k := by
    refine Int.not_le.mp fun h => ?_
    have := Int.mul_nonneg (show 0 ≤ -k by omega) (show 0 ≤ m2 - m by omega)
    have e : -k * (m2 - m) = -(k * (m2 - m)) := by grind
    omega
  have PN : m2 - m ≤ (N : Int) := by
    rw [eN]
    have := Int.mul_le_mul_of_nonneg_right (show 1 ≤ k by omega) (show 0 ≤ m2 - m by omega)
    omega
  have mP : m - 1 < m2 - m := of_mul_lt hδ (by rw [← hg, Rat.intCast_sub, Rat.intCast_one]; grind)
  refine ⟨m.toNat, m2.toNat, by omega, by omega, by omega, ?_, ?_, fun n hn hz => ?_⟩
  · rw [show ((m.toNat : Nat) : Int) = m by omega]; exact hm.symm
  · rw [show ((m2.toNat : Nat) : Int) = m2 by omega]; exact hm2.symm
  · obtain ⟨j, hj⟩ := (p3 _).mp hz
    have e : ((n : Int) : Rat) * δ = ((m + j * (m2 - m) : Int) : Rat) * δ := by
      rw [Rat.intCast_add, Rat.intCast_mul]
      have : ((j : Rat) * ((m2 - m : Int) : Rat)) * δ = j * g := by rw [hg]; grind
      have e2 : ((m : Rat) + (j : Rat) * ((m2 - m : Int) : Rat)) * δ = (m : Rat) * δ + j * g := by rw [← this]; grind
      rw [e2]; grind
    have e := of_mul_eq hδ e
    have j0 : 0 ≤ j := by
      refine Int.not_lt.mp fun h => ?_
      have h3 := Rat.mul_le_mul_of_nonneg_right (Rat.intCast_le_intCast.mpr (show j ≤ -1 by omega)) (Rat.le_of_lt g0)
      have h4 : ((-1 : Int) : Rat) = -1 := by simp
      rw [h4] at h3
      grind
    by_cases hj0 : j = 0
    · left; rw [hj0] at e; omega
    · right
      have := Int.mul_le_mul_of_nonneg_right (show 1 ≤ j by omega) (show 0 ≤ m2 - m by omega)
      omega
end Sn
/-! Sn, part Zu: while loops by what holds; += of own lists; a light by its holes alone; the lists of indices, level by level. -/
namespace Sn
open PySem
theorem whl_pst {n : Nat} {c : E} {b : Ss} (I : Nat → Slots → Mem → Prop) (m : Nat) (R : D → Mem → Prop)
    (hs : ∀ k, k < m → ∀ env M, I k env M → evE n c env M = .ok (.bl true) M ∧ Pst (evSs n b env M) fun o M' => (∃ env', o = .nx env' ∧ I (k + 1) env' M') ∨ ∃ d, o = .rt d ∧ R d M')
    (he : ∀ env M, I m env M → evE n c env M = .ok (.bl false) M) : ∀ (j k : Nat), k + j = m → ∀ (fuel : Nat), j < fuel → ∀ env M, I k env M → Pst (whileL (evE n c) (evSs n b) fuel env M) fun o M' => (∃ env', o = .nx env' ∧ I m env' M') ∨ ∃ d, o = .rt d ∧ R d M'
  | 0, k, hk, fuel + 1, _, env, M, h => by
    have hk : k = m := by omega
    subst hk
    rw [while_s, he env M h]
    exact ⟨_, _, rfl, .inl ⟨env, rfl, h⟩⟩
  | j + 1, k, hk, fuel + 1, hf, env, M, h => by
    obtain ⟨e1, o, M', e2, h2⟩ := hs k (by omega) env M h
    rw [while_s, e1]
    show Pst (outW (turnT (evSs n b env M) _)) _
    rw [e2]
    rcases h2 with ⟨env', rfl, h2⟩ | ⟨d, rfl, h2⟩
    · rw [turn_nx]
      exact whl_pst I m R hs he j (k + 1) (by omega) fuel (by omega) env' M' h2
    · exact ⟨_, _, rfl, .inr ⟨d, rfl, h2⟩⟩
  | _, _, _, 0, hf, _, _, _ => by omega
/-- a while of m turns that ends by its condition, or returns -/
theorem wp_whlR {n : Nat} {c : E} {b : Ss} {f : Slots → Mem → Res Out} {env : Slots} {M : Mem} {Q : Out → Mem → Prop} (I : Nat → Slots → Mem → Prop) (m : Nat) (R : D → Mem → Prop) (hm : m < n) (h0 : I 0 env M)
    (hs : ∀ k, k < m → ∀ env M, I k env M → evE n c env M = .ok (.bl true) M ∧ Pst (evSs n b env M) fun o M' => (∃ env', o = .nx env' ∧ I (k + 1) env' M') ∨ ∃ d, o = .rt d ∧ R d M')
    (he : ∀ env M, I m env M → evE n c env M = .ok (.bl false) M) (hr : ∀ env M, I m env M → Pst (f env M) Q) (hR : ∀ d M, R d M → Q (.rt d) M) : Pst (outS (seqT (evS n (.whl c b) env M) f)) Q := by
  refine wp_seq ?_
  rw [es_whl]
  refine (whl_pst I m R hs he m 0 (by omega) n hm env M h0).mono fun o M' h => ?_
  rcases h with ⟨env', rfl, h⟩ | ⟨d, rfl, h⟩
  · exact hr env' M' h
  · exact hR d M' h
theorem wp_whl {n : Nat} {c : E} {b : Ss} {f : Slots → Mem → Res Out} {env : Slots} {M : Mem} {Q : Out → Mem → Prop} (I : Nat → Slots → Mem → Prop) (m : Nat) (hm : m < n) (h0 : I 0 env M)
    (hs : ∀ k, k < m → ∀ env M, I k env M → evE n c env M = .ok (.bl true) M ∧ Pst (evSs n b env M) fun o M' => ∃ env', o = .nx env' ∧ I (k + 1) env' M')
    (he : ∀ env M, I m env M → evE n c env M = .ok (.bl false) M) (hr : ∀ env M, I m env M → Pst (f env M) Q) : Pst (outS (seqT (evS n (.whl c b) env M) f)) Q :=
  wp_whlR I m (fun _ _ => False) hm h0 (fun k hk env M h => ⟨(hs k hk env M h).1, (hs k hk env M h).2.mono fun o M' h => .inl h⟩) he hr fun _ _ h => h.elim
theorem aug_ref {n i : Nat} {e : E} {env : Slots} {M M1 : Mem} {k : Nat} {xs ys : List D} {y : D} (h1 : (env[i]?).join = some (.ref k)) (h2 : evE n e env M = .ok y M1) (h3 : Mem.cont M1 k = some xs) (h4 : itemsC M1 y = some ys) (l : xs.length + ys.length ≤ sizeLine) :
    evS n (.aug i .add e) env M = .ok (.nx env) (M1.set k (some (xs ++ ys))) := by
  rw [evS, h1]
  show (evE n e env M).bind _ = _
  rw [h2]
  cases y <;> simp only [ofO, Res.bind, h3, h4, Sn.guard, decide_eq_true l, if_true]
theorem aug_int {n i : Nat} {op : Bop} {e : E} {env : Slots} {M M1 : Mem} {a b : Int} {z : D} (h1 : (env[i]?).join = some (.int a)) (h2 : evE n e env M = .ok (.int b) M1) (h3 : binop false op (.int a) (.int b) M1 = .ok z M1) :
    evS n (.aug i op e) env M = .ok (.nx (env.set i (some z))) M1 := by
  rw [evS, h1]
  show (evE n e env M).bind _ = _
  rw [h2]
  show (binop false op (.int a) (.int b) M1).bind _ = _
  rw [h3]
  rfl
/-! ### a light by its holes alone -/
open Classical in
noncomputable def meetO (f p : G × G) : Option (G × G) := if Meet f.1 f.2 p.1 p.2 then some (jt f.1 p.1, mb f.1 f.2 p.1 p.2) else none
theorem lightF_snoc {p : G × G} : ∀ {l : List (G × G)} {f : G × G}, lightF f (l ++ [p]) = (lightF f l).bind fun g => meetO g p
  | [], f => by
    show lightF f [p] = meetO f p
    unfold meetO
    simp only [lightF]
  | q :: l, f => by
    show lightF f (q :: (l ++ [p])) = _
    simp only [lightF]
    split
    · rw [lightF_snoc]
    · rfl
theorem lightG_snoc {p : G × G} {l : List (G × G)} (h : l ≠ []) : lightG (l ++ [p]) = (lightG l).bind fun g => meetO g p := by
  cases l with
  | nil => exact absurd rfl h
  | cons q l => exact lightF_snoc
def LightOf (l : List (G × G)) : Option (G × G) → Prop
  | none => ∀ z, ¬ ∀ p ∈ l, On p.1 p.2 z
  | some g => Fm g ∧ ∀ z, On g.1 g.2 z ↔ ∀ p ∈ l, On p.1 p.2 z
theorem LightOf.uniq {l k : List (G × G)} (e : ∀ z, (∀ p ∈ l, On p.1 p.2 z) ↔ ∀ p ∈ k, On p.1 p.2 z) : ∀ {o o' : Option (G × G)}, LightOf l o → LightOf k o' → o = o'
  | none, none, _, _ => rfl
  | none, some g, h, k => absurd ((e g.2).mpr ((k.2 g.2).mp (on_base k.1.1.ne))) (h g.2)
  | some g, none, h, k => absurd ((e g.2).mp ((h.2 g.2).mp (on_base h.1.1.ne))) (k g.2)
  | some f, some g, h, k => congrArg some (fm_eq h.1 k.1 fun z => (h.2 z).trans ((e z).trans (k.2 z).symm))
theorem lightF_fm : ∀ {l : List (G × G)} {f g : G × G}, (∀ p ∈ l, p.1 ≠ 0) → Fm f → lightF f l = some g → Fm g
  | [], f, g, _, hf, h => by
    simp only [lightF, Option.some.injEq] at h
    subst h
    exact hf
  | p :: l, f, g, hl, hf, h => by
    simp only [lightF] at h
    split at h
    · rename_i hm
      exact lightF_fm (fun q hq => hl q (by simp [hq])) (fm_mb hf.1.ne (hl p (by simp)) hm) h
    · cases h
theorem lightG_fm {l : List (G × G)} {g : G × G} (hl : ∀ p ∈ l, p.1 ≠ 0) (h : lightG l = some g) : Fm g := by
  cases l with
  | nil => cases h
  | cons p l => exact lightF_fm (fun q hq => hl q (by simp [hq])) (fm_fb (hl p (by simp))) h
theorem lightOf_G {l : List (G × G)} (h0 : l ≠ []) (hl : ∀ p ∈ l, p.1 ≠ 0) : LightOf l (lightG l) := by
  cases h : lightG l with
  | none => exact fun z => no_light h0 hl h
  | some g => exact ⟨lightG_fm hl h, (lightG_on hl h).2⟩
theorem lightOf_meet {f p : G × G} (hf : f.1 ≠ 0) (hp : p.1 ≠ 0) : LightOf [f, p] (meetO f p) := by
  unfold meetO
  split
  · rename_i hm
    exact ⟨fm_mb hf hp hm, fun z => by rw [on_meet hf hp hm]; simp⟩
  · rename_i hm
    intro z h
    exact hm ((meet_iff hf hp).mpr ⟨z, h f (by simp), h p (by simp)⟩)
/-- the light of a list is that of another one with the same holes -/
theorem light_same {l k : List (G × G)} (h0 : l ≠ []) (k0 : k ≠ []) (hl : ∀ p ∈ l, p.1 ≠ 0) (hk : ∀ p ∈ k, p.1 ≠ 0) (e : ∀ z, (∀ p ∈ l, On p.1 p.2 z) ↔ ∀ p ∈ k, On p.1 p.2 z) : lightG l = lightG k := (lightOf_G h0 hl).uniq e (lightOf_G k0 hk)
/-! ### lists of indices -/
def pick {α : Type} (l : List α) (is : List Nat) : List α := is.filterMap (l[·]?)
theorem pick_snoc {α : Type} {l : List α} {is : List Nat} {i : Nat} {p : α} (h : l[i]? = some p) : pick l (is ++ [i]) = pick l is ++ [p] := by
  unfold pick
  rw [List.filterMap_append]
  simp [h]
theorem pick_mem {α : Type} {l : List α} {is : List Nat} {p : α} : p ∈ pick l is ↔ ∃ i ∈ is, l[i]? = some p := by
  unfold pick
  rw [List.mem_filterMap]
theorem pick_ne {α : Type} {l : List α} {is : List Nat} (h : is ≠ []) (hb : ∀ i ∈ is, i < l.length) : pick l is ≠ [] := by
  cases is with
  | nil => exact absurd rfl h
  | cons i is =>
    intro e
    have hi : i < l.length := hb i (by simp)
    have : l[i]? = some l[i] := List.getElem?_eq_getElem hi
    have m : l[i] ∈ pick l (i :: is) := pick_mem.mpr ⟨i, by simp, this⟩
    rw [e] at m
    cases m
/-- the lists with one more index -/
def nxt (m : Nat) (is : List Nat) : List (List Nat) := (List.range (m - (is.getLast?.getD 0 + 1))).map fun j => is ++ [is.getLast?.getD 0 + 1 + j]
def lev (m : Nat) : Nat → List (List Nat)
  | 0 => (List.range m).map fun i => [i]
  | k + 1 => (lev m k).flatMap (nxt m)
def levs (m : Nat) : Nat → List (List Nat)
  | 0 => []
  | k + 1 => levs m k ++ lev m k
def ascB (m : Nat) : List Nat → Bool
  | [] => true
  | [i] => decide (i < m)
  | i :: j :: is => decide (i < j) && ascB m (j :: is)
def levOk (m : Nat) : Bool := (lev m m).isEmpty && ((List.range m).all fun k => !(lev m k).isEmpty && (lev m k).all fun is => ascB m is && decide (is.length = k + 1)) && decide (lev m (m - 1) = [List.range m]) && decide ((levs m m).length ≤ 63) && decide ((levs m m).getLast? = some (List.range m)) && (levs m m).all (fun is => ascB m is && decide (is ≠ []))
theorem levOk_1 : levOk 1 = true := by decide +kernel
theorem levOk_2 : levOk 2 = true := by decide +kernel
theorem levOk_3 : levOk 3 = true := by decide +kernel
theorem levOk_4 : levOk 4 = true := by decide +kernel
theorem levOk_5 : levOk 5 = true := by decide +kernel
theorem levOk_6 : levOk 6 = true := by decide +kernel
theorem levOk_of {m : Nat} (h1 : 1 ≤ m) (h2 : m ≤ 6) : levOk m = true := by
  match m, h1, h2 with
  | 1, _, _ => exact levOk_1
  | 2, _, _ => exact levOk_2
  | 3, _, _ => exact levOk_3
  | 4, _, _ => exact levOk_4
  | 5, _, _ => exact levOk_5
  | 6, _, _ => exact levOk_6
theorem asc_bd {m : Nat} : ∀ {is : List Nat}, ascB m is = true → ∀ i ∈ is, i < m
  | [], _, _, h => by cases h
  | [i], h, j, hj => by
    rw [List.mem_singleton.mp hj]
    exact of_decide_eq_true h
  | i :: j :: is, h, k, hk => by
    simp only [ascB, Bool.and_eq_true, decide_eq_true_eq] at h
    have ih := asc_bd (m := m) h.2
    rcases List.mem_cons.mp hk with rfl | hk
    · have := ih j (by simp)
      omega
    · exact ih k hk
structure LevOk (m : Nat) : Prop where
  stop : lev m m = []
  go : ∀ k, k < m → lev m k ≠ []
  asc : ∀ k, k < m → ∀ is ∈ lev m k, ascB m is = true ∧ is.length = k + 1
  len : (levs m m).length ≤ 63
  last : (levs m m).getLast? = some (List.range m)
  all : ∀ is ∈ levs m m, ascB m is = true ∧ is ≠ []
theorem levOk_is {m : Nat} (h1 : 1 ≤ m) (h2 : m ≤ 6) : LevOk m := by
  have h := levOk_of h1 h2
  unfold levOk at h
  simp only [Bool.and_eq_true, List.isEmpty_iff, List.all_eq_true, decide_eq_true_eq, Bool.not_eq_true', List.mem_range] at h
  obtain ⟨⟨⟨⟨⟨a, b⟩, c⟩, d⟩, e⟩, f⟩ := h
  refine ⟨a, fun k hk => ?_, fun k hk => (b k hk).2, d, e, f⟩
  have := (b k hk).1
  intro z
  rw [z] at this
  cases this
theorem levs_len {m : Nat} : ∀ {j k : Nat}, j ≤ k → (levs m j).length ≤ (levs m k).length
  | j, 0, h => by
    have : j = 0 := by omega
    subst this
    exact Nat.le_refl _
  | j, k + 1, h => by
    rcases Nat.lt_or_ge k j with g | g
    · have : j = k + 1 := by omega
      subst this
      exact Nat.le_refl _
    · have := levs_len (m := m) g
      show _ ≤ (levs m k ++ lev m k).length
      rw [List.length_append]
      omega
theorem lev_len {m k : Nat} (h : LevOk m) (hk : k ≤ m) : (levs m k).length + (lev m k).length ≤ 63 := by
  rcases Nat.lt_or_ge k m with g | g
  · have := levs_len (m := m) (show k + 1 ≤ m from g)
    have e : (levs m (k + 1)).length = (levs m k).length + (lev m k).length := by
      show (levs m k ++ lev m k).length = _
      rw [List.length_append]
    have := h.len
    omega
  · have : k = m := by omega
    subst this
    rw [h.stop]
    have := h.len
    simpa using this
/-- a level is there before it is done -/
theorem lev_mem {m : Nat} : ∀ {j k : Nat}, j < k → ∀ is ∈ lev m j, is ∈ levs m k
  | j, 0, h, _, _ => by omega
  | j, k + 1, h, is, hi => by
    show is ∈ levs m k ++ lev m k
    rcases Nat.lt_or_ge j k with g | g
    · exact List.mem_append_left _ (lev_mem g is hi)
    · have : j = k := by omega
      subst this
      exact List.mem_append_right _ hi
/-! ### as data -/
def natD (is : List Nat) : List D := is.map fun i => D.int ((i : Nat) : Int)
noncomputable def rowD (l : List (G × G)) (is : List Nat) : D := .tup [.lst (natD is), shO (lightG (pick l is))]
theorem pures_nat : ∀ {is : List Nat}, pures (natD is) = true
  | [] => rfl
  | i :: is => by
    have := pures_nat (is := is)
    unfold natD at *
    rw [List.map_cons]
    simp only [pures, D.pure, this, Bool.and_self]
theorem pures_row {l : List (G × G)} : ∀ {ls : List (List Nat)}, pures (ls.map (rowD l)) = true
  | [] => rfl
  | is :: ls => by
    rw [List.map_cons]
    have h := pures_nat (is := is)
    have : (rowD l is).pure = true := by
      unfold rowD
      simp only [D.pure, pures, h, pure_sho, Bool.and_self]
    simp only [pures, this, pures_row, Bool.and_self]
theorem natD_snoc {is : List Nat} {i : Nat} : natD is ++ [.int ((i : Nat) : Int)] = natD (is ++ [i]) := by unfold natD; rw [List.map_append]; rfl
theorem natD_last {is : List Nat} (h : is ≠ []) : L2.atI (natD is) (-1) = some (.int ((is.getLast?.getD 0 : Nat) : Int)) := by
  have hl : (natD is).length = is.length := List.length_map ..
  have h1 : 1 ≤ is.length := by
    cases is with
    | nil => exact absurd rfl h
    | cons _ _ => simp
  unfold L2.atI L2.ixN
  rw [if_neg (by decide), if_pos (by rw [hl]; omega), hl]
  show (natD is)[((-1 : Int) + (is.length : Nat)).toNat]? = _
  have e : ((-1 : Int) + (is.length : Nat)).toNat = is.length - 1 := by omega
  rw [e]
  unfold natD
  rw [List.getElem?_map, ← List.getLast?_eq_getElem?]
  cases hg : is.getLast? with
  | none => rw [List.getLast?_eq_none_iff] at hg; exact absurd hg h
  | some j => rfl
instance bds_nat0 : Bds (natD []) 3 0 0 := ⟨by simp [natD, py0s, toPys], by simp [natD, toPys, bares], fun _ => by simp [natD, toPys, PyData.showableAll], by simp [natD, toPys, costs], by simp [natD, toPys, PyData.depthAll]⟩
theorem bds_nat : ∀ {is : List Nat}, (∀ i ∈ is, i < 8) → Bds (natD is) 3 (is.length * 2000) 0
  | [], _ => Bds.up bds_nat0 (by omega) (by omega) (by omega)
  | i :: is, h => by
    have g := bds_nat (is := is) (fun j hj => h j (by simp [hj]))
    have z : Sz ((i : Nat) : Int) 3 := ⟨by have := h i (by simp); omega⟩
    have : Bds (.int ((i : Nat) : Int) :: natD is) _ _ _ := Bds.cons (h := Bd.int (h := z)) (g := g)
    show Bds (.int ((i : Nat) : Int) :: natD is) _ _ _
    exact this.up (by omega) (by rw [List.length_cons]; omega) (by omega)
/-! ### comprehensions, place by place -/
open Classical in
theorem compL_at {refs : List Nat} {M : Mem} {turn : D → Mem → Res (Option D)} : ∀ (xs ys acc : List D), xs.length = ys.length → (∀ (i : Nat) (x y : D), xs[i]? = some x → ys[i]? = some y → turn x M = .ok (some y) M) → acc.length + xs.length ≤ sizeLine → compL refs M turn xs acc M = .ok (acc ++ ys) M
  | [], [], acc, _, _, _ => by rw [compL, List.append_nil]
  | [], _ :: _, _, h, _, _ => by simp at h
  | _ :: _, [], _, h, _, _ => by simp at h
  | x :: xs, y :: ys, acc, hl, h, hs => by
    rw [List.length_cons] at hs
    rw [compL, h 0 x y rfl rfl]
    dsimp only
    rw [if_pos ⟨fun _ _ => rfl, by omega⟩, compL_at xs ys (acc ++ [y]) (by simpa using hl) (fun i a b ha hb => h (i + 1) a b (by simpa using ha) (by simpa using hb)) (by rw [List.length_append, List.length_singleton]; omega), List.append_assoc]
    rfl
theorem comp_at {n : Nat} {env : Slots} {M : Mem} {own : List Nat} {elt : E} {tg : Tg} {it : Src} {w : Wk} (ys : List D) (hi : evIt n it env M = .ok w M) (hl : w.items.length = ys.length)
    (h : ∀ (i : Nat) (x y : D), w.items[i]? = some x → ys[i]? = some y → ∃ env2, tg.put x (wipes env own) = some env2 ∧ evE n elt env2 M = .ok y M) (l : w.items.length ≤ sizeLine) :
    evE n (.comp false own elt tg it .none) env M = .ok (.lst ys) M := by
  rw [evE, hi]
  show Res.bind (compL w.refs M _ w.items [] M) _ = _
  rw [compL_at w.items ys [] hl (fun i x y hx hy => by
    obtain ⟨env2, e1, e2⟩ := h i x y hx hy
    rw [e1]
    show ((evC n .none env2 M).bind fun b M4 => if b = true then (evE n elt env2 M4).bind fun y M5 => Res.ok (some y) M5 else Res.ok none M4) = Res.ok (some y) M
    rw [evC]
    show ((evE n elt env2 M).bind fun y M5 => Res.ok (some y) M5) = Res.ok (some y) M
    rw [e2]
    rfl) (by simpa using l)]
  show newL false ([] ++ ys) M = _
  rw [List.nil_append, newL_f (by omega)]
theorem it_enum {n : Nat} {env : Slots} {M M1 : Mem} {e : E} {d : D} {xs : List D} (h : evE n e env M = .ok d M1) (g : itemsL M1 d = some xs) : evIt n (.enum e) env M = .ok ⟨enumD xs, refsOf d⟩ M1 := by
  rw [evIt, h]
  show (ofO (itemsL M1 d) M1).bind _ = _
  rw [g]
  rfl
theorem enum_at {xs : List D} {i : Nat} {x : D} (h : (enumD xs)[i]? = some x) : ∃ y, xs[i]? = some y ∧ x = .tup [.int ((i : Nat) : Int), y] := by
  unfold enumD at h
  rw [List.getElem?_map, List.getElem?_zipIdx] at h
  cases q : xs[i]? with
  | none => rw [q] at h; cases h
  | some z =>
    rw [q] at h
    simp only [Option.map_some, Option.some.injEq, Nat.zero_add] at h
    exact ⟨z, rfl, h.symm⟩
theorem enum_len {xs : List D} : (enumD xs).length = xs.length := by unfold enumD; simp
theorem LV.lt {M : Mem} {d : D} {xs : List D} (h : LV M d xs) : ∀ r ∈ refsOf d, r < M.length := fun r hr => by
  rcases h with rfl | ⟨q, rfl, e⟩
  · cases hr
  · rw [List.mem_singleton.mp hr]; exact cont_lt e
theorem LV.app {M L : Mem} {d : D} {xs : List D} (h : LV M d xs) : LV (M ++ L) d xs := by
  rcases h with rfl | ⟨q, rfl, e⟩
  · exact .inl rfl
  · refine .inr ⟨q, rfl, ?_⟩
    have := cont_lt e
    unfold Mem.cont at *
    rw [List.getElem?_append_left this]
    exact e
theorem stays_app {refs : List Nat} {M L L' : Mem} (h : ∀ r ∈ refs, r < M.length) : stays refs (M ++ L) (M ++ L') := fun r hr => by
  rw [List.getElem?_append_left (h r hr), List.getElem?_append_left (h r hr)]
theorem p_any_map {m : Bool} {M : Mem} {bs : List Bool} : primop m .any [.lst (bs.map D.bl)] M = .ok (.bl (bs.any id)) M := by
  simp only [primop, Sn.itemsL, Sn.itemsC, boolsL_map]
theorem LV.py {M : Mem} {d : D} {xs : List D} (h : LV M d xs) : d.py M = (D.lst xs).py M := by
  rcases h with rfl | ⟨q, rfl, e⟩
  · rfl
  · exact py_ref e
theorem LV.itemsC {M : Mem} {d : D} {xs : List D} (h : LV M d xs) : itemsC M d = some xs := by
  rcases h with rfl | ⟨q, rfl, e⟩
  · rfl
  · exact e
theorem LV.ne_nil {M : Mem} {d : D} {xs : List D} (h : LV M d xs) {k n m : Nat} (g : Bds xs k n m) (l : m + 1 ≤ 60) : cmpop .ne d (.lst []) M = some (!xs.isEmpty) := by
  have := c_ne_nil (M := M) (h := g) l
  rw [← this]
  show (eqop d (.lst []) M).map _ = (eqop (.lst xs) (.lst []) M).map _
  have e1 : (D.lst xs).py M = some (.list (toPys xs)) := by simp [D.py, D.py0, g.py]
  have e2 : (D.lst []).py M = some (.list []) := by simp [D.py, D.py0, py0s]
  rw [eqop_some (h.py.trans e1) e2, eqop_some e1 e2]
theorem LV.eq_nil {M : Mem} {d : D} {xs : List D} (h : LV M d xs) {k n m : Nat} (g : Bds xs k n m) (l : m + 1 ≤ 60) : cmpop .eq d (.lst []) M = some xs.isEmpty := by
  have := c_eq_nil (M := M) (h := g) l
  rw [← this]
  show eqop d (.lst []) M = eqop (.lst xs) (.lst []) M
  have e1 : (D.lst xs).py M = some (.list (toPys xs)) := by simp [D.py, D.py0, g.py]
  have e2 : (D.lst []).py M = some (.list []) := by simp [D.py, D.py0, py0s]
  rw [eqop_some (h.py.trans e1) e2, eqop_some e1 e2]
theorem shaped_non : SeqAt.shaped .none = true := by simp [SeqAt.shaped, PyData.canLay0, PyData.depth]
open Classical in
theorem c_eq_sho {a b : Option (G × G)} {M : Mem} : cmpop .eq (shO a) (shO b) M = some (decide (a = b)) := by
  cases a with
  | none =>
    cases b with
    | none => simp only [decide_true]; rfl
    | some g =>
      have : ¬ ((none : Option (G × G)) = some g) := nofun
      rw [decide_eq_false this]
      show eqop .non (.tup [nf g.1, nf g.2]) M = _
      simp only [eqop, D.py, D.py0, py0s, nf, shaped_non, shaped_pp, Option.map_some, Bool.and_self, if_true]
      rfl
  | some f =>
    cases b with
    | none =>
      have : ¬ (some f = (none : Option (G × G))) := nofun
      rw [decide_eq_false this]
      show eqop (.tup [nf f.1, nf f.2]) .non M = _
      simp only [eqop, D.py, D.py0, py0s, nf, shaped_non, shaped_pp, Option.map_some, Bool.and_self, if_true]
      rfl
    | some g =>
      show cmpop .eq (.tup [nf f.1, nf f.2]) (.tup [nf g.1, nf g.2]) M = _
      rw [c_eq_pp]
      have : (f.1 = g.1 ∧ f.2 = g.2) ↔ some f = some g := ⟨fun h => congrArg some (Prod.ext h.1 h.2), fun h => by cases h; exact ⟨rfl, rfl⟩⟩
      congr 1
      simp only [this]
open Classical in
theorem c_ne_sho {a b : Option (G × G)} {M : Mem} : cmpop .ne (shO a) (shO b) M = some (!decide (a = b)) := by
  show (eqop (shO a) (shO b) M).map _ = _
  rw [← cmp_eq, c_eq_sho]
  rfl
theorem nat_py : ∀ {is : List Nat}, py0s (natD is) = some (is.map fun i => PyData.int (i : Nat))
  | [] => rfl
  | i :: is => by
    have := nat_py (is := is)
    unfold natD at *
    rw [List.map_cons, List.map_cons]
    simp only [py0s, D.py0, this]
theorem in_nat {is : List Nat} {i : Nat} {M : Mem} : inop (.int ((i : Nat) : Int)) (.lst (natD is)) M = some (decide (i ∈ is)) := by
  have h1 : SeqAt.shaped (.int ((i : Nat) : Int)) = true := by simp [SeqAt.shaped, PyData.canLay0, PyData.depth]
  have h3 : ∀ js : List Nat, PyData.canLayAll0 (js.map fun i => PyData.int (i : Nat)) = true ∧ PyData.depthAll (js.map fun i => PyData.int (i : Nat)) = 0 := fun js => by
    induction js with
    | nil => simp [PyData.canLayAll0, PyData.depthAll]
    | cons j js ih => simp [PyData.canLayAll0, PyData.depthAll, PyData.canLay0, PyData.depth, ih]
  have h2 : SeqAt.shaped (.list (is.map fun i => PyData.int (i : Nat))) = true := by simp [SeqAt.shaped, PyData.canLay0, PyData.depth, (h3 is).1, (h3 is).2]
  have h4 : ∀ js : List Nat, ((js.map fun i => PyData.int (i : Nat)).any fun q => PyData.eqv q (.int ((i : Nat) : Int))) = decide (i ∈ js) := fun js => by
    induction js with
    | nil => rfl
    | cons j js ih =>
      rw [List.map_cons, List.any_cons, ih]
      have : PyData.eqv (.int ((j : Nat) : Int)) (.int ((i : Nat) : Int)) = decide ((j : Int) = (i : Int)) := by
        rw [Bool.eq_iff_iff]; simp [PyData.eqv]
      rw [this, Bool.eq_iff_iff]
      simp only [Bool.or_eq_true, decide_eq_true_eq, List.mem_cons]
      constructor
      · rintro (h | h)
        · exact .inl (by omega)
        · exact .inr h
      · rintro (h | h)
        · exact .inl (by omega)
        · exact .inr h
  simp only [inop, D.py, D.py0, Sn.itemsL, Sn.itemsC, nat_py, h1, h2, Bool.and_self, if_true, h4]
/-- the least lists, one behind the other -/
def leastF (P : List Nat → Bool) : List (List Nat) → List (List Nat) → List (List Nat)
  | [], acc => acc
  | is :: r, acc => leastF P r (if P is && !(acc.any fun a => a.all fun i => decide (i ∈ is)) then acc ++ [is] else acc)
def listsD (ls : List (List Nat)) : List D := ls.map fun is => .lst (natD is)
theorem pures_lists : ∀ {ls : List (List Nat)}, pures (listsD ls) = true
  | [] => rfl
  | is :: ls => by
    have h := pures_nat (is := is)
    have h2 := pures_lists (ls := ls)
    unfold listsD at *
    rw [List.map_cons]
    simp only [pures, D.pure, h, h2, Bool.and_self]
theorem cut_from {xs : List D} {k : Nat} : cut xs (some (k : Int)) none = xs.drop k := by
  have a1 : HT.sIx xs.length 0 (some (k : Int)) = min k xs.length := by
    simp only [HT.sIx]
    rw [if_neg (by omega)]
    simp
  have a2 : HT.sIx xs.length xs.length none = xs.length := by simp [HT.sIx]
  unfold cut
  rw [a1, a2]
  by_cases h : k ≤ xs.length
  · rw [Nat.min_eq_left h]
    exact List.take_of_length_le (by rw [List.length_drop]; omega)
  · rw [Nat.min_eq_right (by omega), List.drop_of_length_le (Nat.le_refl _), List.drop_of_length_le (by omega)]
    simp
theorem asc_len {m : Nat} : ∀ {is : List Nat} {i : Nat}, ascB m (i :: is) = true → i + is.length < m
  | [], i, h => by simpa [ascB] using h
  | j :: is, i, h => by
    simp only [ascB, Bool.and_eq_true, decide_eq_true_eq] at h
    have := asc_len (is := is) (i := j) h.2
    rw [List.length_cons]
    omega
theorem asc_le {m : Nat} {is : List Nat} (h : ascB m is = true) : is.length ≤ m := by
  cases is with
  | nil => exact Nat.zero_le _
  | cons i is =>
    have := asc_len h
    rw [List.length_cons]
    omega
theorem lay_ints : ∀ (is : List Nat), PyData.canLayAll0 (is.map fun i => PyData.int ((i : Nat) : Int)) = true ∧ PyData.depthAll (is.map fun i => PyData.int ((i : Nat) : Int)) = 0
  | [] => by simp [PyData.canLayAll0, PyData.depthAll]
  | i :: is => by
    have := lay_ints is
    simp [PyData.canLayAll0, PyData.depthAll, PyData.canLay0, PyData.depth, this]
theorem lay_lists : ∀ (ls : List (List Nat)), PyData.canLayAll0 (ls.map fun is => PyData.list (is.map fun i => PyData.int ((i : Nat) : Int))) = true ∧ PyData.depthAll (ls.map fun is => PyData.list (is.map fun i => PyData.int ((i : Nat) : Int))) ≤ 1
  | [] => by simp [PyData.canLayAll0, PyData.depthAll]
  | is :: ls => by
    have h1 := lay_ints is
    have h2 := lay_lists ls
    constructor
    · simp [PyData.canLayAll0, PyData.canLay0, h1, h2]
    · simp only [List.map_cons, PyData.depthAll, PyData.depth, h1]; omega
theorem lists_py : ∀ {ls : List (List Nat)}, py0s (listsD ls) = some (ls.map fun is => PyData.list (is.map fun i => PyData.int ((i : Nat) : Int)))
  | [] => rfl
  | is :: ls => by
    have h := lists_py (ls := ls)
    have h2 := nat_py (is := is)
    unfold listsD at *
    rw [List.map_cons, List.map_cons]
    simp only [py0s, D.py0, h2, Option.map_some, h]
theorem eqv_nats : ∀ {a b : List Nat}, PyData.eqvAll (a.map fun i => PyData.int ((i : Nat) : Int)) (b.map fun i => PyData.int ((i : Nat) : Int)) = decide (a = b)
  | [], [] => by simp [PyData.eqvAll]
  | [], _ :: _ => by simp [PyData.eqvAll]
  | _ :: _, [] => by simp [PyData.eqvAll]
  | i :: a, j :: b => by
    have ih := eqv_nats (a := a) (b := b)
    rw [List.map_cons, List.map_cons, PyData.eqvAll, ih, Bool.eq_iff_iff]
    simp [PyData.eqv]
    omega
theorem in_lists {ls : List (List Nat)} {a : List Nat} {M : Mem} : inop (.lst (natD a)) (.lst (listsD ls)) M = some (decide (a ∈ ls)) := by
  have h1 : SeqAt.shaped (.list (a.map fun i => PyData.int ((i : Nat) : Int))) = true := by simp [SeqAt.shaped, PyData.canLay0, PyData.depth, lay_ints a]
  have h2 : SeqAt.shaped (.list (ls.map fun is => PyData.list (is.map fun i => PyData.int ((i : Nat) : Int)))) = true := by
    obtain ⟨c1, c2⟩ := lay_lists ls
    simp [SeqAt.shaped, PyData.canLay0, PyData.depth, c1]
    omega
  have h4 : ∀ js : List (List Nat), ((js.map fun is => PyData.list (is.map fun i => PyData.int ((i : Nat) : Int))).any fun q => PyData.eqv q (.list (a.map fun i => PyData.int ((i : Nat) : Int)))) = decide (a ∈ js) := fun js => by
    induction js with
    | nil => rfl
    | cons j js ih =>
      rw [List.map_cons, List.any_cons, ih]
      have : PyData.eqv (.list (j.map fun i => PyData.int ((i : Nat) : Int))) (.list (a.map fun i => PyData.int ((i : Nat) : Int))) = decide (j = a) := by
        simp only [PyData.eqv]; exact eqv_nats
      rw [this, Bool.eq_iff_iff]
      simp only [Bool.or_eq_true, decide_eq_true_eq, List.mem_cons]
      constructor
      · rintro (h | h)
        · exact .inl h.symm
        · exact .inr h
      · rintro (h | h)
        · exact .inl h.symm
        · exact .inr h
  simp only [inop, D.py, D.py0, Sn.itemsL, Sn.itemsC, nat_py, lists_py, Option.map_some, h1, h2, Bool.and_self, if_true, h4]
theorem leastF_keeps {P : List Nat → Bool} {a : List Nat} : ∀ {ls acc : List (List Nat)}, a ∈ acc → a ∈ leastF P ls acc
  | [], _, h => h
  | is :: r, acc, h => by
    unfold leastF
    split
    · exact leastF_keeps (List.mem_append_left _ h)
    · exact leastF_keeps h
theorem leastF_one {P : List Nat → Bool} {k : Nat} (hk : P [k] = true) {r : List (List Nat)} : ∀ (c s : Nat) (acc : List (List Nat)), s ≤ k → k < s + c → (∀ a ∈ acc, ∃ i, i < s ∧ a = [i]) → [k] ∈ leastF P (((List.range' s c).map fun i => [i]) ++ r) acc
  | 0, s, acc, h1, h2, _ => by omega
  | c + 1, s, acc, h1, h2, h => by
    rw [List.range'_succ, List.map_cons, List.cons_append]
    unfold leastF
    have h0 : (acc.any fun a => a.all fun i => decide (i ∈ [s])) = false := by
      rw [List.any_eq_false]
      intro a ha
      obtain ⟨i, hi, rfl⟩ := h a ha
      simp; omega
    rw [h0]
    by_cases e : s = k
    · subst e
      rw [hk]
      exact leastF_keeps (by simp)
    · split
      · refine leastF_one hk c (s + 1) _ (by omega) (by omega) ?_
        intro a ha
        rcases List.mem_append.mp ha with q | q
        · obtain ⟨i, hi, rfl⟩ := h a q
          exact ⟨i, by omega, rfl⟩
        · exact ⟨s, by omega, List.mem_singleton.mp q⟩
      · refine leastF_one hk c (s + 1) _ (by omega) (by omega) ?_
        intro a ha
        obtain ⟨i, hi, rfl⟩ := h a ha
        exact ⟨i, by omega, rfl⟩
theorem levs_first {m : Nat} : ∀ k, ∃ r, levs m (k + 1) = lev m 0 ++ r
  | 0 => ⟨[], by show [] ++ lev m 0 = _; simp⟩
  | k + 1 => by
    obtain ⟨r, e⟩ := levs_first (m := m) k
    exact ⟨r ++ lev m (k + 1), by show levs m (k + 1) ++ lev m (k + 1) = _; rw [e, List.append_assoc]⟩
theorem least_has {P : List Nat → Bool} {k m : Nat} (hk : P [k] = true) (h : k < m) : [k] ∈ leastF P (levs m m) [] := by
  obtain ⟨j, rfl⟩ : ∃ j, m = j + 1 := ⟨m - 1, by omega⟩
  obtain ⟨r, e⟩ := levs_first (m := j + 1) j
  rw [e]
  have : lev (j + 1) 0 = (List.range' 0 (j + 1)).map fun i => [i] := by
    show (List.range (j + 1)).map _ = _
    rw [List.range_eq_range']
  rw [this]
  exact leastF_one hk (j + 1) 0 [] (by omega) (by omega) fun a ha => by cases ha
end Sn
/-! Sn, part Zv: turns: places of the square length 1, their parts. -/
namespace Sn
open PySem
theorem conj_add (z w : G) : (z + w).conj = z.conj + w.conj := G.ext rfl (by show -(z.im + w.im) = -z.im + -w.im; grind)
theorem conj1 : (1 : G).conj = 1 := G.ext rfl (by show -(0 : Rat) = 0; grind)
theorem gw_nrm (w : Z2) : (gw w).nrm = ((w.x * w.x + w.y * w.y : Int) : Rat) := by
  unfold gw
  rw [nrm_gz]
  show ((w.x * w.x + w.y * w.y : Int) : Rat) / ((1 * 1 : Int) : Rat) = _
  rw [show ((1 * 1 : Int) : Rat) = 1 from rfl]
  grind
theorem gw_real (n : Int) : gw ⟨n, 0⟩ = ⟨(n : Rat), 0⟩ := by
  unfold gw
  rw [gz_int]
  rfl
theorem alg1 {D D' E E' L M : G} (h1 : D * L + E * M = 1) (h2 : E * E' = D * D') : E' = D * (L * E' + D' * M) := by grind
theorem alg2 {D E F L M N : G} (h1 : D * L + E * M = 1) (h2 : N * E = D * F) : N = D * (N * L + F * M) := by grind
theorem alg3 {D D' E U' K K' L M N : G} (h1 : D * L + E * M = 1) (h2 : E = D' * U') (h3 : N = D * K) (h4 : N = D' * K') : N = D * D' * (K' * L + K * U' * M) := by grind
/-- the common step of 1 and a turn -/
theorem cm_turn {T : G} (h : T.nrm = 1) : (cm 1 T).nrm = 1 / (gp T : Rat) := by
  have hc := cm_ex (s := 1) (t := T) one_ne
  obtain ⟨c0, ⟨d, hd⟩, ⟨e, he⟩, l, m, ec⟩ := hc
  generalize cm 1 T = c at *
  have hd0 : gw d ≠ 0 := by rw [← hd]; grind
  have hN := G.nrm_pos hd0
  have e1 : gw d * gw l + gw e * gw m = 1 := by rw [← hd, ← he]; grind
  have e2 : gw e = T * gw d := by rw [← he, ← hd]; grind
  have n2 : (gw e).nrm = (gw d).nrm := by rw [e2, G.nrm_mul, h]; grind
  have e3 : gw e * (gw e).conj = gw d * (gw d).conj := by rw [G.mul_conj, G.mul_conj, n2]
  -- the part divides the square length
  have hT : T = gw e / gw d := by rw [e2]; grind
  have zc : ∀ w : Z2, ∃ w', (gw w).conj = gw w' := fun w => (Zi.gw w).conj
  obtain ⟨d', hd'⟩ := zc d
  have a1 : T = gw (e * d') / (⟨((d.x * d.x + d.y * d.y : Int) : Rat), 0⟩ : G) := by
    have q : gw d * gw d' = (⟨((d.x * d.x + d.y * d.y : Int) : Rat), 0⟩ : G) := by rw [← hd', G.mul_conj, gw_nrm]
    have hd0' : gw d' ≠ 0 := by rw [← hd']; exact conj_ne hd0
    rw [gw_mul, ← q, hT]
    grind
  have hN' : (0 : Rat) < ((d.x * d.x + d.y * d.y : Int) : Rat) := by rw [← gw_nrm]; exact hN
  have hNi : 0 < d.x * d.x + d.y * d.y := Rat.intCast_pos.mp hN'
  have p1 : gp T ∣ d.x * d.x + d.y * d.y := by
    refine gp_dvd (a := (e * d').x) (b := (e * d').y) (by omega) ?_
    rw [a1]
    have := gz_over (a := (e * d').x) (b := (e * d').y) (p := d.x * d.x + d.y * d.y) (by omega)
    rw [this]
    have q : gz (d.x * d.x + d.y * d.y) 0 1 = (⟨((d.x * d.x + d.y * d.y : Int) : Rat), 0⟩ : G) := by rw [gz_int]; rfl
    rw [q]
  -- the square length divides the part
  have p2 : d.x * d.x + d.y * d.y ∣ gp T := by
    obtain ⟨u', hu'⟩ : ∃ u', (gw l * (gw e).conj + (gw d).conj * gw m).conj = gw u' := (((Zi.gw l).mul (Zi.gw e).conj).add ((Zi.gw d).conj.mul (Zi.gw m))).conj
    have f1 := alg1 e1 e3
    have f2 : gw e = (gw d).conj * gw u' := by
      have := congrArg G.conj f1
      rw [conj_conj, conj_mul, hu'] at this
      exact this
    have f3 : gw ⟨gp T, 0⟩ * gw e = gw d * gw ⟨gx T, gy T⟩ := by
      have q : gw ⟨gx T, gy T⟩ = gw ⟨gp T, 0⟩ * T := by
        have := gz_over (a := gx T) (b := gy T) (p := gp T) (gp_ne T)
        rw [gz_out] at this
        have q2 : gz (gp T) 0 1 = gw ⟨gp T, 0⟩ := rfl
        rw [q2] at this
        have q3 : gw ⟨gp T, 0⟩ ≠ 0 := by rw [← q2]; exact gzp_ne (gp_ne T)
        have := this
        generalize gw ⟨gx T, gy T⟩ = x at *
        generalize gw ⟨gp T, 0⟩ = y at *
        rw [this]
        grind
      rw [q, e2]
      grind
    have f4 := alg2 e1 f3
    obtain ⟨k, hk⟩ : ∃ k, gw ⟨gp T, 0⟩ * gw l + gw ⟨gx T, gy T⟩ * gw m = gw k := ((Zi.gw _).mul (Zi.gw _)).add ((Zi.gw _).mul (Zi.gw _))
    rw [hk] at f4
    have f5 : gw ⟨gp T, 0⟩ = (gw d).conj * (gw k).conj := by
      have := congrArg G.conj f4
      rw [conj_mul] at this
      rw [← this, gw_real]
      exact G.ext rfl (by show (0 : Rat) = -0; grind)
    have f6 := alg3 e1 f2 f4 f5
    obtain ⟨w, hw⟩ : ∃ w, (gw k).conj * gw l + gw k * gw u' * gw m = gw w := (((Zi.gw _).conj.mul (Zi.gw _)).add (((Zi.gw _).mul (Zi.gw _)).mul (Zi.gw _)))
    rw [hw, G.mul_conj, gw_nrm, ← gw_real, ← gw_mul] at f6
    have := congrArg Z2.x (gw_inj f6)
    refine ⟨w.x, ?_⟩
    have q : ((⟨d.x * d.x + d.y * d.y, 0⟩ : Z2) * w).x = (d.x * d.x + d.y * d.y) * w.x - 0 * w.y := rfl
    rw [q] at this
    have this : gp T = (d.x * d.x + d.y * d.y) * w.x - 0 * w.y := this
    rw [this]
    grind
  have key : gp T = d.x * d.x + d.y * d.y := Int.dvd_antisymm (Int.le_of_lt (gp_pos T)) (Int.le_of_lt hNi) p1 p2
  have hc1 : c.nrm * (gw d).nrm = 1 := by
    rw [← G.nrm_mul, ← hd]
    have : c * (1 / c) = 1 := by grind
    rw [this]
    show (1 : Rat) * 1 + 0 * 0 = 1
    grind
  rw [key, ← gw_nrm]
  have hne : (gw d).nrm ≠ 0 := Rat.ne_of_gt hN
  generalize (gw d).nrm = x at *
  generalize c.nrm = y at *
  grind
theorem IsCm.scale {c s t r : G} (h : IsCm c s t) (hr : r ≠ 0) : IsCm (r * c) (r * s) (r * t) := by
  obtain ⟨h0, h1, h2, l, m, e⟩ := h
  refine ⟨by grind, ?_, ?_, l, m, by rw [e]; grind⟩
  · have : r * s / (r * c) = s / c := by grind
    rw [this]; exact h1
  · have : r * t / (r * c) = t / c := by grind
    rw [this]; exact h2
theorem cm_led {s T : G} (hs : s ≠ 0) (h : T.nrm = 1) : (cm s (s * T)).nrm = s.nrm / (gp T : Rat) := by
  have h1 := (cm_ex (s := 1) (t := T) one_ne).scale hs
  have e : s * 1 = s := by grind
  rw [e] at h1
  rw [h1.cm_eq, qt_nrm, G.nrm_mul, cm_turn h]
  grind
theorem jt_led {s T : G} (hs : s ≠ 0) (h : T.nrm = 1) : (jt s (s * T)).nrm = s.nrm * (gp T : Rat) := by
  have hn : (s * T).nrm = s.nrm := by rw [G.nrm_mul, h]; grind
  have hc := cm_ne (t := s * T) hs
  unfold jt
  rw [qt_nrm, G.nrm_div _ hc, G.nrm_mul, hn, cm_led hs h]
  have a := G.nrm_ne hs
  have b : ((gp T : Int) : Rat) ≠ 0 := rat_ne (gp_ne T)
  generalize s.nrm = x at *
  generalize ((gp T : Int) : Rat) = y at *
  grind
/-! ### parts of products -/
theorem gp_dvd_of {z : G} {m : Int} (h : Zi (z * gw ⟨m, 0⟩)) (hm : m ≠ 0) : gp z ∣ m := by
  obtain ⟨w, hw⟩ := h
  refine gp_dvd (a := w.x) (b := w.y) hm ?_
  have := gz_over (a := w.x) (b := w.y) (p := m) hm
  rw [this]
  have q : gz m 0 1 = gw ⟨m, 0⟩ := rfl
  have q0 : gw ⟨m, 0⟩ ≠ 0 := by rw [← q]; exact gzp_ne hm
  rw [q]
  have hw : z * gw ⟨m, 0⟩ = gw w := hw
  rw [show gw ⟨w.x, w.y⟩ = gw w from rfl, ← hw]
  generalize gw ⟨m, 0⟩ = y at *
  grind
theorem zi_gp (z : G) : Zi (z * gw ⟨gp z, 0⟩) := by
  refine ⟨⟨gx z, gy z⟩, ?_⟩
  have := gz_over (a := gx z) (b := gy z) (p := gp z) (gp_ne z)
  rw [gz_out] at this
  have q : gz (gp z) 0 1 = gw ⟨gp z, 0⟩ := rfl
  have q0 : gw ⟨gp z, 0⟩ ≠ 0 := by rw [← q]; exact gzp_ne (gp_ne z)
  rw [q] at this
  generalize gw ⟨gp z, 0⟩ = y at *
  generalize gw ⟨gx z, gy z⟩ = x at *
  rw [this]
  grind
theorem gw_int_mul (a b : Int) : gw ⟨a * b, 0⟩ = gw ⟨a, 0⟩ * gw ⟨b, 0⟩ := by
  rw [← gw_mul]
  congr 1
  show (⟨a * b, 0⟩ : Z2) = ⟨a * b - 0 * 0, a * 0 + 0 * b⟩
  congr 1 <;> grind
theorem turn_conj {T : G} (h : T.nrm = 1) : T * T.conj = 1 := by
  rw [G.mul_conj, h]; rfl
theorem int_cop {a b c : Int} (h : a ∣ b * c) (g : Int.gcd a b = 1) : a ∣ c := by
  rw [← Int.natAbs_dvd_natAbs] at h ⊢
  rw [Int.natAbs_mul] at h
  exact Nat.Coprime.dvd_of_dvd_mul_left (k := a.natAbs) (m := b.natAbs) g h
theorem gp_turns {T S : G} (hT : T.nrm = 1) (hS : S.nrm = 1) (hc : Int.gcd (gp T) (gp S) = 1) : gp (T * S) = gp T * gp S := by
  have pT := gp_pos T
  have pS := gp_pos S
  have pm := gp_pos (T * S)
  have h1 : gp (T * S) ∣ gp T * gp S := by
    refine gp_dvd_of ?_ (Int.mul_ne_zero (gp_ne T) (gp_ne S))
    have : T * S * gw ⟨gp T * gp S, 0⟩ = (T * gw ⟨gp T, 0⟩) * (S * gw ⟨gp S, 0⟩) := by rw [gw_int_mul]; grind
    rw [this]
    exact (zi_gp T).mul (zi_gp S)
  have side : ∀ {A B : G}, B.nrm = 1 → Int.gcd (gp A) (gp B) = 1 → gp A ∣ gp (A * B) := fun {A B} hB hg => by
    have h2 : gp A ∣ gp (A * B) * gp B := by
      refine gp_dvd_of ?_ (Int.mul_ne_zero (gp_ne _) (gp_ne B))
      have hcj := (conj_parts B).2.2
      have z := zi_gp B.conj
      rw [hcj] at z
      have e : A * gw ⟨gp (A * B) * gp B, 0⟩ = (A * B * gw ⟨gp (A * B), 0⟩) * (B.conj * gw ⟨gp B, 0⟩) := by
        have := turn_conj hB
        rw [gw_int_mul]
        grind
      rw [e]
      exact (zi_gp (A * B)).mul z
    exact int_cop (b := gp B) (by rw [Int.mul_comm] at h2; exact h2) hg
  have h2 := side hS hc
  have h3 := side (A := S) (B := T) hT (by rw [Int.gcd_comm]; exact hc)
  rw [show S * T = T * S by grind] at h3
  have h4 : gp T * gp S ∣ gp (T * S) := by
    obtain ⟨a, ha⟩ := h2
    rw [ha] at h3 ⊢
    exact Int.mul_dvd_mul_left _ (int_cop h3 (by rw [Int.gcd_comm]; exact hc))
  exact Int.dvd_antisymm (Int.le_of_lt pm) (Int.le_of_lt (Int.mul_pos pT pS)) h1 h4
end Sn
namespace Sn
open PySem
theorem ilt (a b : Int) : a < b ∨ a ≥ b := by omega
/-! ### powers -/
theorem gpow0 (z : G) : z ^ 0 = 1 := rfl
theorem gpow_s (z : G) (k : Nat) : z ^ (k + 1) = z ^ k * z := rfl
theorem gpow_1 (z : G) : z ^ 1 = z := by rw [gpow_s, gpow0]; grind
theorem gpow_sq (z : G) : ∀ k : Nat, (z * z) ^ k = z ^ (2 * k)
  | 0 => rfl
  | k + 1 => by rw [gpow_s, gpow_sq z k, show 2 * (k + 1) = 2 * k + 1 + 1 by omega, gpow_s, gpow_s]; grind
theorem gpow_nrm {z : G} (h : z.nrm = 1) : ∀ k : Nat, (z ^ k).nrm = 1
  | 0 => by rw [gpow0]; show (1 : Rat) * 1 + 0 * 0 = 1; grind
  | k + 1 => by rw [gpow_s, G.nrm_mul, gpow_nrm h k, h]; grind
theorem gpow_conj (z : G) : ∀ k : Nat, (z ^ k).conj = z.conj ^ k
  | 0 => conj1
  | k + 1 => by rw [gpow_s, gpow_s, conj_mul, gpow_conj z k]
/-- done so often, below 0 mirrored -/
noncomputable def zp1 (z : G) (k : Int) : G := if 0 ≤ k then z ^ k.natAbs else z.conj ^ k.natAbs
theorem zp1_nrm {z : G} (h : z.nrm = 1) (k : Int) : (zp1 z k).nrm = 1 := by
  unfold zp1
  split
  · exact gpow_nrm h _
  · exact gpow_nrm (by rw [G.nrm_conj]; exact h) _
theorem zp1_gp (z : G) (k : Int) : gp (zp1 z k) = gp (z ^ k.natAbs) := by
  unfold zp1
  split
  · rfl
  · rw [← gpow_conj]; exact (conj_parts _).2.2
/-- two squares of a prime, the only ones -/
structure TsOk (p : Int) (ab : Int × Int) : Prop where
  b : 1 ≤ ab.2
  lt : ab.2 < ab.1
  sum : ab.1 * ab.1 + ab.2 * ab.2 = p
  one : ∀ l h : Int, 1 ≤ l → l ≤ ab.2 → l * l + h * h = p → l = ab.2
  nm : Norm (ab.1 * ab.1 - ab.2 * ab.2) (2 * ab.1 * ab.2) p
/-- a prime that is 1 more than a multiple of 4 -/
structure TpOk (p : Int) : Prop where
  lo : 5 ≤ p
  hi : p ≤ 9999
  four : p.fmod 4 = 1
  none : ∀ k : Nat, (2 * (k : Int) + 3) * (2 * (k : Int) + 3) ≤ p → p.fmod (2 * (k : Int) + 3) ≠ 0
def pt (p : Int) (ab : Int × Int) : G := gz (ab.1 * ab.1 - ab.2 * ab.2) (2 * ab.1 * ab.2) p
theorem pt_nrm {p : Int} {ab : Int × Int} (h : TsOk p ab) : (pt p ab).nrm = 1 := by
  unfold pt
  rw [nrm_gz]
  have hp : p * p ≠ 0 := Int.mul_ne_zero h.nm.ne h.nm.ne
  have e : (ab.1 * ab.1 - ab.2 * ab.2) * (ab.1 * ab.1 - ab.2 * ab.2) + 2 * ab.1 * ab.2 * (2 * ab.1 * ab.2) = p * p := by
    rw [← h.sum]; grind
  rw [e]
  have := rat_ne hp
  generalize ((p * p : Int) : Rat) = x at *
  grind
theorem pt_hz {p : Int} {ab : Int × Int} (h : TsOk p ab) (hp : p ≤ 9999) : Hz (pt p ab) 14 := by
  have hb := h.b
  have hl := h.lt
  have hs := h.sum
  have h0 := h.nm.pos
  have e1 : ab.2 * ab.2 ≤ ab.1 * ab.1 := Int.mul_le_mul (by omega) (by omega) (by omega) (by omega)
  have e2 : 0 ≤ ab.2 * ab.2 := Int.mul_nonneg (by omega) (by omega)
  have e3 : 0 ≤ ab.1 * ab.2 := Int.mul_nonneg (by omega) (by omega)
  have e4 : 0 ≤ (ab.1 - ab.2) * (ab.1 - ab.2) := Int.mul_nonneg (by omega) (by omega)
  have e5 : (ab.1 - ab.2) * (ab.1 - ab.2) = ab.1 * ab.1 + ab.2 * ab.2 - 2 * (ab.1 * ab.2) := by grind
  have e6 : 2 * ab.1 * ab.2 = 2 * (ab.1 * ab.2) := by grind
  unfold pt
  exact Hz.of h.nm.ne (by omega) (by rw [e6]; omega) (by omega)
def partD (r : Int × Int) : D := .tup [.int r.1, .int r.2]
/-- the turn of parts -/
noncomputable def tnF (ts : Int → Int × Int) : G → List (Int × Int) → G
  | z, [] => z
  | z, r :: l => tnF ts (z * zp1 (pt r.1 (ts r.1)) r.2) l
theorem tnF_snoc {ts : Int → Int × Int} {r : Int × Int} : ∀ {l : List (Int × Int)} {z : G}, tnF ts z (l ++ [r]) = tnF ts z l * zp1 (pt r.1 (ts r.1)) r.2
  | [], z => rfl
  | q :: l, z => tnF_snoc (l := l)
/-- parts as the package takes them -/
structure PartsOk (ts : Int → Int × Int) (l : List (Int × Int)) : Prop where
  tp : ∀ r ∈ l, TpOk r.1
  ts : ∀ r ∈ l, TsOk r.1 (ts r.1)
  k0 : ∀ r ∈ l, r.2 ≠ 0
  k6 : ∀ r ∈ l, r.2.natAbs ≤ 60
  up : l.Pairwise fun r q => r.1 < q.1
end Sn
/-! Sn, part Zw: some primes, their turns; lists of parts and their products. -/
namespace Sn
open PySem
def tsq (p : Int) : Int × Int := if p = 5 then (2, 1) else if p = 13 then (3, 2) else if p = 17 then (4, 1) else if p = 29 then (5, 2) else if p = 37 then (6, 1) else if p = 41 then (5, 4) else if p = 53 then (7, 2) else if p = 1009 then (28, 15) else (82, 57)
structure PrOk (p : Int) : Prop where
  tp : TpOk p
  ts : TsOk p (tsq p)
  gk : ∀ k : Nat, 1 ≤ k → k ≤ 3 → gp (pt p (tsq p) ^ k) = p ^ k
def nm3 (x y p : Int) : Bool := decide (0 < p) && decide (g3 x y p = 1)
theorem nm3_ok {x y p : Int} (h : nm3 x y p = true) : Norm x y p := by
  unfold nm3 at h
  simp only [Bool.and_eq_true, decide_eq_true_eq] at h
  exact ⟨h.1, h.2⟩
def prB (p a b : Int) : Bool := decide (5 ≤ p) && decide (p ≤ 9999) && decide (p.fmod 4 = 1) && ((List.range 50).all fun k => decide (p < (2 * (k : Int) + 3) * (2 * (k : Int) + 3)) || decide (p.fmod (2 * (k : Int) + 3) ≠ 0)) &&
  (decide (1 ≤ b) && decide (b < a) && decide (a * a + b * b = p)) && ((List.range b.toNat).all fun l => decide (l = 0) || (List.range 101).all fun h => decide ((l : Int) * l + (h : Int) * h ≠ p)) &&
  (nm3 (a * a - b * b) (2 * a * b) p && nm3 ((a * a - b * b) * (a * a - b * b) - 2 * a * b * (2 * a * b)) ((a * a - b * b) * (2 * a * b) + 2 * a * b * (a * a - b * b)) (p * p) &&
   nm3 (((a * a - b * b) * (a * a - b * b) - 2 * a * b * (2 * a * b)) * (a * a - b * b) - ((a * a - b * b) * (2 * a * b) + 2 * a * b * (a * a - b * b)) * (2 * a * b)) (((a * a - b * b) * (a * a - b * b) - 2 * a * b * (2 * a * b)) * (2 * a * b) + ((a * a - b * b) * (2 * a * b) + 2 * a * b * (a * a - b * b)) * (a * a - b * b)) (p * p * p))
theorem prOk_of {p a b : Int} (ht : tsq p = (a, b)) (h : prB p a b = true) : PrOk p := by
  unfold prB at h
  simp only [Bool.and_eq_true, decide_eq_true_eq, List.all_eq_true, List.mem_range, Bool.or_eq_true] at h
  obtain ⟨⟨⟨⟨⟨⟨h1, h2⟩, h3⟩, h4⟩, ⟨h5, h6⟩, h7⟩, h8⟩, ⟨n1, n2⟩, n3⟩ := h
  have n1 := nm3_ok n1
  have n2 := nm3_ok n2
  have n3 := nm3_ok n3
  have ha : a ≤ 100 := by
    rcases ilt 100 a with g | g
    · have e1 : 101 * 101 ≤ a * a := Int.mul_le_mul (by omega) (by omega) (by omega) (by omega)
      have e2 : 0 ≤ b * b := Int.mul_nonneg (by omega) (by omega)
      omega
    · exact g
  refine ⟨⟨h1, h2, h3, fun k hk => ?_⟩, ?_, fun k k1 k3 => ?_⟩
  · rcases Nat.lt_or_ge k 50 with g | g
    · rcases h4 k g with q | q
      · omega
      · exact q
    · have : (103 : Int) * 103 ≤ (2 * (k : Int) + 3) * (2 * (k : Int) + 3) := Int.mul_le_mul (by omega) (by omega) (by omega) (by omega)
      omega
  · rw [ht]
    refine ⟨h5, h6, h7, fun l h l1 lb e => ?_, n1⟩
    have l1 : 1 ≤ l := l1
    have lb : l ≤ b := lb
    show l = b
    rcases ilt l b with g | g
    · exfalso
      obtain ⟨l, rfl⟩ : ∃ j : Nat, l = (j : Int) := ⟨l.toNat, by omega⟩
      rcases h8 l (by omega) with q | q
      · omega
      · have hh : h * h = (h.natAbs : Int) * (h.natAbs : Int) := by
          rw [← Int.natCast_mul, Int.natAbs_mul_self]
        rw [hh] at e
        have hb : h.natAbs < 101 := by
          rcases Nat.lt_or_ge h.natAbs 101 with g | g
          · exact g
          · have e1 : (101 : Int) * 101 ≤ (h.natAbs : Int) * (h.natAbs : Int) := Int.mul_le_mul (by omega) (by omega) (by omega) (by omega)
            have e2 : 0 ≤ (l : Int) * l := Int.mul_nonneg (by omega) (by omega)
            omega
        exact q _ hb e
    · omega
  · rw [ht]
    have p0 := n1.ne
    have g1 : pt p (a, b) = gz (a * a - b * b) (2 * a * b) p := rfl
    have hk : k = 1 ∨ k = 2 ∨ k = 3 := by omega
    rcases hk with rfl | rfl | rfl
    · rw [gpow_1, g1, (gz_is n1).2.2, Int.pow_succ, Int.pow_zero, Int.one_mul]
    · rw [gpow_s, gpow_1, g1, gz_mul p0 p0, (gz_is n2).2.2, Int.pow_succ, Int.pow_succ, Int.pow_zero, Int.one_mul]
    · rw [gpow_s, gpow_s, gpow_1, g1, gz_mul p0 p0, gz_mul (Int.mul_ne_zero p0 p0) p0, (gz_is n3).2.2, Int.pow_succ, Int.pow_succ, Int.pow_succ, Int.pow_zero, Int.one_mul]
theorem pr5 : PrOk 5 := prOk_of (a := 2) (b := 1) rfl (by decide +kernel)
theorem pr13 : PrOk 13 := prOk_of (a := 3) (b := 2) rfl (by decide +kernel)
theorem pr17 : PrOk 17 := prOk_of (a := 4) (b := 1) rfl (by decide +kernel)
theorem pr29 : PrOk 29 := prOk_of (a := 5) (b := 2) rfl (by decide +kernel)
theorem pr37 : PrOk 37 := prOk_of (a := 6) (b := 1) rfl (by decide +kernel)
theorem pr41 : PrOk 41 := prOk_of (a := 5) (b := 4) rfl (by decide +kernel)
theorem pr53 : PrOk 53 := prOk_of (a := 7) (b := 2) rfl (by decide +kernel)
theorem pr1009 : PrOk 1009 := prOk_of (a := 28) (b := 15) rfl (by decide +kernel)
theorem pr9973 : PrOk 9973 := prOk_of (a := 82) (b := 57) rfl (by decide +kernel)
theorem gcd_pow {a b : Int} (h : Int.gcd a b = 1) (k : Nat) : Int.gcd a (b ^ k) = 1 := by
  have : (a.natAbs ^ 1).Coprime (b.natAbs ^ k) := Nat.Coprime.pow 1 k h
  rw [Nat.pow_one] at this
  show Nat.gcd a.natAbs (b ^ k).natAbs = 1
  rw [Int.natAbs_pow]
  exact this
theorem gcd_mul1 {a b c : Int} (h : Int.gcd a c = 1) (g : Int.gcd b c = 1) : Int.gcd (a * b) c = 1 := by
  have : (a.natAbs * b.natAbs).Coprime c.natAbs := Nat.Coprime.mul_left h g
  show Nat.gcd (a * b).natAbs c.natAbs = 1
  rw [Int.natAbs_mul]
  exact this
/-- rows of primes out of ps, with a product -/
structure RwOk (ps : List Int) (l : List (Int × Int)) (m : Int) : Prop where
  pr : ∀ r ∈ l, PrOk r.1
  mem : ∀ r ∈ l, r.1 ∈ ps
  k0 : ∀ r ∈ l, r.2 ≠ 0
  k3 : ∀ r ∈ l, r.2.natAbs ≤ 3
  up : l.Pairwise fun r q => r.1 < q.1
  nrm : (tnF tsq 1 l).nrm = 1
  part : gp (tnF tsq 1 l) = m
  cop : ∀ q : Int, (∀ p ∈ ps, Int.gcd p q = 1) → Int.gcd m q = 1
theorem RwOk.nil : RwOk [] [] 1 := by
  refine ⟨fun r h => (by cases h), fun r h => (by cases h), fun r h => (by cases h), fun r h => (by cases h), .nil, ?_, ?_, fun q _ => ?_⟩
  · show (1 : Rat) * 1 + 0 * 0 = 1
    grind
  · exact gp_one.mpr .one
  · rw [Int.gcd_comm, Int.gcd_one_right]
theorem RwOk.more {ps : List Int} {l : List (Int × Int)} {m p : Int} (h : RwOk ps l m) : RwOk (ps ++ [p]) l m :=
  ⟨h.pr, fun r hr => List.mem_append_left _ (h.mem r hr), h.k0, h.k3, h.up, h.nrm, h.part, fun q hq => h.cop q fun p hp => hq p (List.mem_append_left _ hp)⟩
theorem RwOk.step {ps : List Int} {l : List (Int × Int)} {m p k : Int} (h : RwOk ps l m) (hp : PrOk p) (hlt : ∀ q ∈ ps, q < p) (hc : ∀ q ∈ ps, Int.gcd q p = 1) (k0 : k ≠ 0) (k3 : k.natAbs ≤ 3) : RwOk (ps ++ [p]) (l ++ [(p, k)]) (m * p ^ k.natAbs) := by
  have n2 := zp1_nrm (pt_nrm hp.ts) k
  have g2 : gp (zp1 (pt p (tsq p)) k) = p ^ k.natAbs := by rw [zp1_gp, hp.gk _ (by omega) k3]
  have app : ∀ {P : Int × Int → Prop}, (∀ r ∈ l, P r) → P (p, k) → ∀ r ∈ l ++ [(p, k)], P r := fun a b r hr => by
    rcases List.mem_append.mp hr with q | q
    · exact a r q
    · rw [List.mem_singleton.mp q]; exact b
  refine ⟨app h.pr hp, app (fun r hr => List.mem_append_left _ (h.mem r hr)) (by simp), app h.k0 k0, app h.k3 k3, ?_, ?_, ?_, fun q hq => ?_⟩
  · rw [List.pairwise_append]
    refine ⟨h.up, List.pairwise_singleton _ _, fun a ha b hb => ?_⟩
    rw [List.mem_singleton.mp hb]
    exact hlt _ (h.mem a ha)
  · rw [tnF_snoc, G.nrm_mul, h.nrm, n2]; grind
  · rw [tnF_snoc, gp_turns h.nrm n2 (by rw [h.part, g2]; exact gcd_pow (h.cop p hc) _), h.part, g2]
  · refine gcd_mul1 (h.cop q fun r hr => hq r (List.mem_append_left _ hr)) ?_
    rw [Int.gcd_comm]
    exact gcd_pow (by rw [Int.gcd_comm]; exact hq p (by simp)) _
theorem RwOk.parts {ps : List Int} {l : List (Int × Int)} {m : Int} (h : RwOk ps l m) : PartsOk tsq l :=
  ⟨fun r hr => (h.pr r hr).tp, fun r hr => (h.pr r hr).ts, h.k0, fun r hr => by have := h.k3 r hr; omega, h.up⟩
/-- a turn's numbers are no greater than its part -/
theorem turn_hz {T : G} {k : Nat} (h : T.nrm = 1) (hp : (gp T).natAbs < 2 ^ k) : Hz T k := by
  have e : gx T * gx T + gy T * gy T = gp T * gp T := by
    have := nf_nrm T
    rw [h] at this
    have hp : gp T * gp T ≠ 0 := Int.mul_ne_zero (gp_ne T) (gp_ne T)
    have h2 := rat_ne hp
    generalize hX : (gx T * gx T + gy T * gy T) = X at *
    generalize hY : (gp T * gp T) = Y at *
    have : (X : Rat) = (Y : Rat) := by
      generalize (X : Rat) = x at *
      generalize (Y : Rat) = y at *
      grind
    exact rat_inj this
  have sq : ∀ a b : Int, a * a ≤ b * b → a.natAbs ≤ b.natAbs := fun a b hab => by
    rcases Nat.lt_or_ge b.natAbs a.natAbs with g | g
    · exfalso
      have : b.natAbs * b.natAbs < a.natAbs * a.natAbs := Nat.mul_self_lt_mul_self g
      have e1 : a * a = ((a.natAbs * a.natAbs : Nat) : Int) := (Int.natAbs_mul_self).symm
      have e2 : b * b = ((b.natAbs * b.natAbs : Nat) : Int) := (Int.natAbs_mul_self).symm
      omega
    · exact g
  have nx : 0 ≤ gx T * gx T := by
    rw [show gx T * gx T = ((gx T).natAbs * (gx T).natAbs : Nat) from (Int.natAbs_mul_self).symm]; omega
  have ny : 0 ≤ gy T * gy T := by
    rw [show gy T * gy T = ((gy T).natAbs * (gy T).natAbs : Nat) from (Int.natAbs_mul_self).symm]; omega
  have a1 := sq (gx T) (gp T) (by omega)
  have a2 := sq (gy T) (gp T) (by omega)
  have := Hz.of (a := gx T) (b := gy T) (c := gp T) (k := k) (gp_ne T) (by omega) (by omega) hp
  rw [gz_out] at this
  exact this
theorem gp_un {e z : G} (h : Un e) : gp (e * z) = gp z := by
  obtain ⟨_, _, a⟩ := gi_parts z
  obtain ⟨_, _, b⟩ := neg_parts z
  obtain ⟨_, _, c⟩ := neg_parts (gi * z)
  rcases h with rfl | rfl | rfl | rfl
  · rw [show (1 : G) * z = z by grind]
  · exact a
  · rw [show (-1 : G) * z = -z by grind]; exact b
  · rw [show -gi * z = -(gi * z) by grind]; exact c.trans a
theorem tnF_mul {ts : Int → Int × Int} : ∀ {l : List (Int × Int)} {z w : G}, tnF ts (w * z) l = w * tnF ts z l
  | [], z, w => rfl
  | r :: l, z, w => by
    show tnF ts (w * z * zp1 (pt r.1 (ts r.1)) r.2) l = w * tnF ts (z * zp1 (pt r.1 (ts r.1)) r.2) l
    rw [← tnF_mul]
    congr 1
    grind
end Sn
/-! Sn, part Zx: comprehensions over enumerate with a filter, lists in lists. -/
namespace Sn
open PySem
theorem enum_filter {P : Nat → Bool} (f : D → Option D) (hf : ∀ (i : Nat) y, f (.tup [.int ((i : Nat) : Int), y]) = if P i then some (.int ((i : Nat) : Int)) else none) : ∀ (xs : List D) (k : Nat), ((xs.zipIdx k).map fun p => D.tup [.int ((p.2 : Nat) : Int), p.1]).filterMap f = natD ((List.range' k xs.length).filter P)
  | [], k => rfl
  | x :: xs, k => by
    rw [List.zipIdx_cons, List.map_cons, List.filterMap_cons, hf, enum_filter f hf xs (k + 1), List.length_cons, List.range'_succ, List.filter_cons]
    by_cases h : P k = true
    · rw [if_pos h, if_pos h]; rfl
    · rw [if_neg h, if_neg h]
theorem enum_filter0 {P : Nat → Bool} (f : D → Option D) (hf : ∀ (i : Nat) y, f (.tup [.int ((i : Nat) : Int), y]) = if P i then some (.int ((i : Nat) : Int)) else none) (xs : List D) : (enumD xs).filterMap f = natD ((List.range xs.length).filter P) := by
  rw [List.range_eq_range']
  exact enum_filter f hf xs 0
/-- [i for i, y in enumerate(xs) if ..] -/
theorem comp_enum {n : Nat} {m : Bool} {env : Slots} {M M1 : Mem} {own : List Nat} {elt c : E} {tg : Tg} {it : Src} {xs : List D} {rs : List Nat} (P : Nat → Bool) (hi : evIt n it env M = .ok ⟨enumD xs, rs⟩ M1)
    (h : ∀ (i : Nat) y, xs[i]? = some y → ∃ env2, tg.put (.tup [.int ((i : Nat) : Int), y]) (wipes env own) = some env2 ∧ evE n c env2 M1 = .ok (.bl (P i)) M1 ∧ evE n elt env2 M1 = .ok (.int ((i : Nat) : Int)) M1) (l : xs.length ≤ sizeLine) :
    evE n (.comp m own elt tg it (.some c)) env M = newL m (natD ((List.range xs.length).filter P)) M1 := by
  obtain ⟨f, hf⟩ : ∃ f : D → Option D, ∀ (i : Nat) y, f (.tup [.int ((i : Nat) : Int), y]) = if P i then some (.int ((i : Nat) : Int)) else none := ⟨fun x => match x with | .tup [.int i, _] => if P i.toNat then some (.int i) else none | _ => none, fun i y => by
    show (if P (((i : Nat) : Int)).toNat then some (D.int ((i : Nat) : Int)) else none) = _
    rw [Int.toNat_natCast]⟩
  rw [evE, hi]
  show Res.bind (compL rs M1 _ (enumD xs) [] M1) _ = _
  rw [compL_filter (f := f) (enumD xs) [] (fun x hx => by
    obtain ⟨i, hi⟩ := List.mem_iff_getElem?.mp hx
    obtain ⟨y, hy, rfl⟩ := enum_at hi
    obtain ⟨env2, e1, e2, e3⟩ := h i y hy
    rw [e1]
    show ((evC n (.some c) env2 M1).bind fun b M4 => if b = true then (evE n elt env2 M4).bind fun y M5 => Res.ok (some y) M5 else Res.ok none M4) = Res.ok (f (.tup [.int ((i : Nat) : Int), y])) M1
    rw [evC, e2, hf i y]
    show (if P i = true then (evE n elt env2 M1).bind fun y M5 => Res.ok (some y) M5 else Res.ok none M1) = _
    by_cases hp : P i = true
    · rw [if_pos hp, if_pos hp, e3]; rfl
    · rw [if_neg hp, if_neg hp]) (by rw [enum_len]; simpa using l)]
  show newL m ([] ++ (enumD xs).filterMap f) M1 = _
  rw [List.nil_append, enum_filter0 f hf]
section
variable {M : Mem} {d e : D} {xs ys : List D} {m : Bool}
theorem Bd.pyN {k n w : Nat} [h : Bd d k n w] : d.pyN M = some (toPy d) := py0_pyN h.py
theorem LV.pyN (h : LV M d xs) {k n w : Nat} [g : Bds xs k n w] : d.pyN M = some (toPy (.lst xs)) := by
  refine py_pyN (h.py.trans ?_)
  simp [D.py, D.py0, g.py, toPy]
theorem LV.repr2 (h : LV M d xs) (h' : LV M e ys) {k n w k' n' w' : Nat} [g : Bds xs k n w] [g' : Bds ys k' n' w'] (l1 : max k k' < 1920) (l2 : n + n' + 14 ≤ sizeLine) (l3 : max w w' + 2 ≤ 60) : primop m .repr [.lst [d, e]] M = .ok (.str (toPy (.lst [.lst xs, .lst ys])).shown) M := by
  have B : Bd (.lst [.lst xs, .lst ys]) _ _ _ := inferInstance
  refine p_reprN (p := toPy (.lst [.lst xs, .lst ys])) ?_ B.bare (B.shw (by omega)) (Nat.le_trans B.dep (by omega)) (Nat.le_trans B.cost (by omega))
  simp only [D.pyN, pysN, h.pyN, h'.pyN, Option.map_some, toPy, toPys]
theorem LV.reprB (h : LV M d xs) {k n w k' n' w' : Nat} [g : Bds xs k n w] [g' : Bd e k' n' w'] (l1 : max k k' < 1920) (l2 : n + n' + 14 ≤ sizeLine) (l3 : max w w' + 2 ≤ 60) : primop m .repr [.lst [d, e]] M = .ok (.str (toPy (.lst [.lst xs, e])).shown) M := by
  have B : Bd (.lst [.lst xs, e]) _ _ _ := inferInstance
  refine p_reprN (p := toPy (.lst [.lst xs, e])) ?_ B.bare (B.shw (by omega)) (Nat.le_trans B.dep (by omega)) (Nat.le_trans B.cost (by omega))
  simp only [D.pyN, pysN, h.pyN, Bd.pyN, Option.map_some, toPy, toPys]
end
/-- the sheets that are open at a place -/
noncomputable def isOpen (l : List (G × G)) (z : G) (i : Nat) : Bool := match l[i]? with
  | some p => decide (gp ((z - p.2) / p.1) = 1)
  | none => false
noncomputable def opens (l : List (G × G)) (z : G) : List Nat := (List.range l.length).filter (isOpen l z)
theorem isOpen_at {l : List (G × G)} {z : G} {i : Nat} {p : G × G} (h : l[i]? = some p) : isOpen l z i = decide (gp ((z - p.2) / p.1) = 1) := by
  unfold isOpen; rw [h]
theorem opens_lt {l : List (G × G)} {z : G} (h : l.length ≤ 8) : ∀ i ∈ opens l z, i < 8 := fun i hi => by
  unfold opens at hi
  have := List.mem_range.mp (List.mem_filter.mp hi).1
  omega
theorem opens_len {l : List (G × G)} {z : G} : (opens l z).length ≤ l.length := by
  unfold opens
  exact Nat.le_trans (List.length_filter_le ..) (by simp)
theorem lv_0 {M L' : Mem} {q : Nat} (hq : M.length = q) {xs : List D} : LV (M ++ some xs :: L') (.ref (q + 0)) xs := .ref (cont_1 hq)
theorem lv_1 {M L' : Mem} {q : Nat} (hq : M.length = q) {a : Option (List D)} {xs : List D} : LV (M ++ a :: some xs :: L') (.ref (q + 1)) xs := .ref (cont_2 hq)
end Sn
set_option exponentiation.threshold 30000
namespace My
open Sn PySem
section
variable {n : Nat} (hn : big ≤ n) {M : Mem} (hM : MP M)
include hM in
theorem s_is_integer {i : Int} : callD n d_is_integer [.int i] M = .ok (.bl true) M := by
  refine call_to ⟨rfl, by decide⟩ ?_ rfl hM rfl
  simp (dsimp := false) (disch := first | assumption | exact Nat.le_of_ble_eq_true rfl | exact MP.loc (by assumption) rfl | omega) only [bnd_ok, bnd_no, turn_nx, turn_bk, turn_rt, ofO_some, seqR_nx, seqR_rt, seqR_bk, pick_t, pick_f, pick_d, pick_nd, pick_b, isB_b, ev_var, ev_int, ev_str, ev_bl, ev_non, ev_gint, ev_gcon, ev_rev, ev_isb, ev_tups, ev_lsts, evIs_nil, evIs_cons, evIs_star, isb_tt, isb_tf, isb_ft, isb_ff, ev_bin, ev_neg, ev_not, ev_and, ev_or, ev_cmp, ev_isn, ev_notn, ev_inn, ev_nin, ev_iteE, ev_tup, ev_lst, ev_ix, ev_sl, ev_call, ev_callk, ev_prim, ev_isi, ev_meth, evEs_nil, evEs_cons, evEo_none, evEo_some, evSs_cons, evSs_nil, es_ite, es_asg, es_setix, es_ret, es_retn, es_expr, es_pass, es_brk, es_whl, negD, notD, isn_non, isn_int, isn_bl, isn_str, isn_tup, isn_lst, isn_ref, notn_non, notn_int, notn_bl, notn_str, notn_tup, notn_lst, notn_ref, ixD, loD, rtD, nxD, setD, List.getElem?_cons_zero, List.getElem?_cons_succ, Option.join_some, b_add, b_sub, c_lt, c_le, c_gt, c_ge, c_eqi, c_nei, p_abs, p_int, p_max, p_min, put_0, put_s, put_tp, puts_nil, puts_cons, Option.map_some, Option.bind_some, fill_nil, fill_no, fill_so, ix_tup, ix_lst, atI_nat, live_non, live_int, live_bl, live_str, live_tup, live_lst, live_scr, kd_int_non, kd_int_bl, kd_int_int, kd_int_str, kd_int_tup, kd_int_lst, kd_int_ref, kd_int_scr, kd_bool_non, kd_bool_bl, kd_bool_int, kd_bool_str, kd_bool_tup, kd_bool_lst, kd_bool_ref, kd_bool_scr, kd_str_non, kd_str_bl, kd_str_int, kd_str_str, kd_str_tup, kd_str_lst, kd_str_ref, kd_str_scr, kd_list_non, kd_list_bl, kd_list_int, kd_list_str, kd_list_tup, kd_list_lst, kd_list_ref, kd_list_scr, kd_tuple_non, kd_tuple_bl, kd_tuple_int, kd_tuple_str, kd_tuple_tup, kd_tuple_lst, kd_tuple_ref, kd_tuple_scr, Sn.guard, if_true, if_false, Bool.not_true, Bool.not_false, decide_eq_true_eq, Bool.not_eq_true', decide_eq_false_iff_not, Bool.true_eq_false, Bool.false_eq_true, if_true, if_false, newT_of, newL_f, b_mod, b_fdiv, b_mul, b_pow, p_len2, p_len3, eq_self, and_self, decide_true, decide_false, reduceIte, p_reprB, c_ne_shownB, c_eq_shownB, c_eqB, c_neB, b_rep, List.replicate, List.flatten_cons, List.flatten_nil, List.cons_append, List.nil_append, List.set_cons_zero, List.set_cons_succ]
theorem gcd_loop : ∀ (m x y : Nat), y < m → whileL (evE n (.cmp .gt (.var 1) (.int 0))) (evSs n (.cons (.asg (.tp [(.nm 0), (.nm 1)]) (.tup (.cons (.var 1) (.cons (.bin false .mod (.var 0) (.var 1)) .nil)))) .nil)) m [some (.int x), some (.int y)] M = .ok (.nx [some (.int (Nat.gcd x y : Nat)), some (.int 0)]) M
  | 0, _, _, h => absurd h (by omega)
  | m + 1, x, y, h => by
    rw [while_s]
    by_cases h0 : y = 0
    · subst h0
      simp (dsimp := false) (disch := first | assumption | exact Nat.le_of_ble_eq_true rfl | exact MP.loc (by assumption) rfl | omega) only [bnd_ok, bnd_no, turn_nx, turn_bk, turn_rt, ofO_some, seqR_nx, seqR_rt, seqR_bk, pick_t, pick_f, pick_d, pick_nd, pick_b, isB_b, ev_var, ev_int, ev_str, ev_bl, ev_non, ev_gint, ev_gcon, ev_rev, ev_isb, ev_tups, ev_lsts, evIs_nil, evIs_cons, evIs_star, isb_tt, isb_tf, isb_ft, isb_ff, ev_bin, ev_neg, ev_not, ev_and, ev_or, ev_cmp, ev_isn, ev_notn, ev_inn, ev_nin, ev_iteE, ev_tup, ev_lst, ev_ix, ev_sl, ev_call, ev_callk, ev_prim, ev_isi, ev_meth, evEs_nil, evEs_cons, evEo_none, evEo_some, evSs_cons, evSs_nil, es_ite, es_asg, es_setix, es_ret, es_retn, es_expr, es_pass, es_brk, es_whl, negD, notD, isn_non, isn_int, isn_bl, isn_str, isn_tup, isn_lst, isn_ref, notn_non, notn_int, notn_bl, notn_str, notn_tup, notn_lst, notn_ref, ixD, loD, rtD, nxD, setD, List.getElem?_cons_zero, List.getElem?_cons_succ, Option.join_some, b_add, b_sub, c_lt, c_le, c_gt, c_ge, c_eqi, c_nei, p_abs, p_int, p_max, p_min, put_0, put_s, put_tp, puts_nil, puts_cons, Option.map_some, Option.bind_some, fill_nil, fill_no, fill_so, ix_tup, ix_lst, atI_nat, live_non, live_int, live_bl, live_str, live_tup, live_lst, live_scr, kd_int_non, kd_int_bl, kd_int_int, kd_int_str, kd_int_tup, kd_int_lst, kd_int_ref, kd_int_scr, kd_bool_non, kd_bool_bl, kd_bool_int, kd_bool_str, kd_bool_tup, kd_bool_lst, kd_bool_ref, kd_bool_scr, kd_str_non, kd_str_bl, kd_str_int, kd_str_str, kd_str_tup, kd_str_lst, kd_str_ref, kd_str_scr, kd_list_non, kd_list_bl, kd_list_int, kd_list_str, kd_list_tup, kd_list_lst, kd_list_ref, kd_list_scr, kd_tuple_non, kd_tuple_bl, kd_tuple_int, kd_tuple_str, kd_tuple_tup, kd_tuple_lst, kd_tuple_ref, kd_tuple_scr, Sn.guard, if_true, if_false, Bool.not_true, Bool.not_false, decide_eq_true_eq, Bool.not_eq_true', decide_eq_false_iff_not, Bool.true_eq_false, Bool.false_eq_true, if_true, if_false, newT_of, newL_f, b_mod, b_fdiv, b_mul, b_pow, p_len2, p_len3, eq_self, and_self, decide_true, decide_false, reduceIte, p_reprB, c_ne_shownB, c_eq_shownB, c_eqB, c_neB, b_rep, List.replicate, List.flatten_cons, List.flatten_nil, List.cons_append, List.nil_append, List.set_cons_zero, List.set_cons_succ]
      simp
    · have hy : (0 : Int) < (y : Int) := by omega
      have h1 : (y : Int) ≠ 0 := by omega
      have e : Int.fmod (x : Int) (y : Int) = ((x % y : Nat) : Int) := by
        rw [Int.fmod_eq_emod_of_nonneg _ (by omega)]; rfl
      simp (dsimp := false) (disch := first | assumption | exact Nat.le_of_ble_eq_true rfl | exact MP.loc (by assumption) rfl | omega) only [bnd_ok, bnd_no, turn_nx, turn_bk, turn_rt, ofO_some, seqR_nx, seqR_rt, seqR_bk, pick_t, pick_f, pick_d, pick_nd, pick_b, isB_b, ev_var, ev_int, ev_str, ev_bl, ev_non, ev_gint, ev_gcon, ev_rev, ev_isb, ev_tups, ev_lsts, evIs_nil, evIs_cons, evIs_star, isb_tt, isb_tf, isb_ft, isb_ff, ev_bin, ev_neg, ev_not, ev_and, ev_or, ev_cmp, ev_isn, ev_notn, ev_inn, ev_nin, ev_iteE, ev_tup, ev_lst, ev_ix, ev_sl, ev_call, ev_callk, ev_prim, ev_isi, ev_meth, evEs_nil, evEs_cons, evEo_none, evEo_some, evSs_cons, evSs_nil, es_ite, es_asg, es_setix, es_ret, es_retn, es_expr, es_pass, es_brk, es_whl, negD, notD, isn_non, isn_int, isn_bl, isn_str, isn_tup, isn_lst, isn_ref, notn_non, notn_int, notn_bl, notn_str, notn_tup, notn_lst, notn_ref, ixD, loD, rtD, nxD, setD, List.getElem?_cons_zero, List.getElem?_cons_succ, Option.join_some, b_add, b_sub, c_lt, c_le, c_gt, c_ge, c_eqi, c_nei, p_abs, p_int, p_max, p_min, put_0, put_s, put_tp, puts_nil, puts_cons, Option.map_some, Option.bind_some, fill_nil, fill_no, fill_so, ix_tup, ix_lst, atI_nat, live_non, live_int, live_bl, live_str, live_tup, live_lst, live_scr, kd_int_non, kd_int_bl, kd_int_int, kd_int_str, kd_int_tup, kd_int_lst, kd_int_ref, kd_int_scr, kd_bool_non, kd_bool_bl, kd_bool_int, kd_bool_str, kd_bool_tup, kd_bool_lst, kd_bool_ref, kd_bool_scr, kd_str_non, kd_str_bl, kd_str_int, kd_str_str, kd_str_tup, kd_str_lst, kd_str_ref, kd_str_scr, kd_list_non, kd_list_bl, kd_list_int, kd_list_str, kd_list_tup, kd_list_lst, kd_list_ref, kd_list_scr, kd_tuple_non, kd_tuple_bl, kd_tuple_int, kd_tuple_str, kd_tuple_tup, kd_tuple_lst, kd_tuple_ref, kd_tuple_scr, Sn.guard, if_true, if_false, Bool.not_true, Bool.not_false, decide_eq_true_eq, Bool.not_eq_true', decide_eq_false_iff_not, Bool.true_eq_false, Bool.false_eq_true, if_true, if_false, newT_of, newL_f, b_mod, b_fdiv, b_mul, b_pow, p_len2, p_len3, eq_self, and_self, decide_true, decide_false, reduceIte, p_reprB, c_ne_shownB, c_eq_shownB, c_eqB, c_neB, b_rep, List.replicate, List.flatten_cons, List.flatten_nil, List.cons_append, List.nil_append, List.set_cons_zero, List.set_cons_succ, hy, e]
      rw [gcd_loop m y (x % y) (by have := Nat.mod_lt x (show 0 < y by omega); omega)]
      rw [Nat.gcd_comm x y, Nat.gcd_rec y x, Nat.gcd_comm]
include hn hM in
theorem s_common_divisor {a b : Int} {k : Nat} [hb : Sz b k] (l : k ≤ 20000) : callD n d_common_divisor [.int a, .int b] M = .ok (.int (Int.gcd a b : Nat)) M := by
  refine call_to ⟨rfl, by decide⟩ ?_ rfl hM rfl
  simp (dsimp := false) (disch := first | assumption | exact Nat.le_of_ble_eq_true rfl | exact MP.loc (by assumption) rfl | omega) only [bnd_ok, bnd_no, turn_nx, turn_bk, turn_rt, ofO_some, seqR_nx, seqR_rt, seqR_bk, pick_t, pick_f, pick_d, pick_nd, pick_b, isB_b, ev_var, ev_int, ev_str, ev_bl, ev_non, ev_gint, ev_gcon, ev_rev, ev_isb, ev_tups, ev_lsts, evIs_nil, evIs_cons, evIs_star, isb_tt, isb_tf, isb_ft, isb_ff, ev_bin, ev_neg, ev_not, ev_and, ev_or, ev_cmp, ev_isn, ev_notn, ev_inn, ev_nin, ev_iteE, ev_tup, ev_lst, ev_ix, ev_sl, ev_call, ev_callk, ev_prim, ev_isi, ev_meth, evEs_nil, evEs_cons, evEo_none, evEo_some, evSs_cons, evSs_nil, es_ite, es_asg, es_setix, es_ret, es_retn, es_expr, es_pass, es_brk, es_whl, negD, notD, isn_non, isn_int, isn_bl, isn_str, isn_tup, isn_lst, isn_ref, notn_non, notn_int, notn_bl, notn_str, notn_tup, notn_lst, notn_ref, ixD, loD, rtD, nxD, setD, List.getElem?_cons_zero, List.getElem?_cons_succ, Option.join_some, b_add, b_sub, c_lt, c_le, c_gt, c_ge, c_eqi, c_nei, p_abs, p_int, p_max, p_min, put_0, put_s, put_tp, puts_nil, puts_cons, Option.map_some, Option.bind_some, fill_nil, fill_no, fill_so, ix_tup, ix_lst, atI_nat, live_non, live_int, live_bl, live_str, live_tup, live_lst, live_scr, kd_int_non, kd_int_bl, kd_int_int, kd_int_str, kd_int_tup, kd_int_lst, kd_int_ref, kd_int_scr, kd_bool_non, kd_bool_bl, kd_bool_int, kd_bool_str, kd_bool_tup, kd_bool_lst, kd_bool_ref, kd_bool_scr, kd_str_non, kd_str_bl, kd_str_int, kd_str_str, kd_str_tup, kd_str_lst, kd_str_ref, kd_str_scr, kd_list_non, kd_list_bl, kd_list_int, kd_list_str, kd_list_tup, kd_list_lst, kd_list_ref, kd_list_scr, kd_tuple_non, kd_tuple_bl, kd_tuple_int, kd_tuple_str, kd_tuple_tup, kd_tuple_lst, kd_tuple_ref, kd_tuple_scr, Sn.guard, if_true, if_false, Bool.not_true, Bool.not_false, decide_eq_true_eq, Bool.not_eq_true', decide_eq_false_iff_not, Bool.true_eq_false, Bool.false_eq_true, if_true, if_false, newT_of, newL_f, b_mod, b_fdiv, b_mul, b_pow, p_len2, p_len3, eq_self, and_self, decide_true, decide_false, reduceIte, p_reprB, c_ne_shownB, c_eq_shownB, c_eqB, c_neB, b_rep, List.replicate, List.flatten_cons, List.flatten_nil, List.cons_append, List.nil_append, List.set_cons_zero, List.set_cons_succ, es_whl, gcd_loop n a.natAbs b.natAbs (fuel_ok hn l)]
  rfl
include hM in
theorem s_are_integers {z : G} : callD n d_are_integers [nf z, .int 3] M = .ok (.bl true) M := by
  unfold nf
  generalize gx z = a
  generalize gy z = b
  generalize gp z = c
  refine call_to ⟨rfl, by decide⟩ ?_ rfl hM rfl
  simp (dsimp := false) (disch := first | assumption | exact Nat.le_of_ble_eq_true rfl | exact MP.loc (by assumption) rfl | omega) only [bnd_ok, bnd_no, turn_nx, turn_bk, turn_rt, ofO_some, seqR_nx, seqR_rt, seqR_bk, pick_t, pick_f, pick_d, pick_nd, pick_b, isB_b, ev_var, ev_int, ev_str, ev_bl, ev_non, ev_gint, ev_gcon, ev_rev, ev_isb, ev_tups, ev_lsts, evIs_nil, evIs_cons, evIs_star, isb_tt, isb_tf, isb_ft, isb_ff, ev_bin, ev_neg, ev_not, ev_and, ev_or, ev_cmp, ev_isn, ev_notn, ev_inn, ev_nin, ev_iteE, ev_tup, ev_lst, ev_ix, ev_sl, ev_call, ev_callk, ev_prim, ev_isi, ev_meth, evEs_nil, evEs_cons, evEo_none, evEo_some, evSs_cons, evSs_nil, es_ite, es_asg, es_setix, es_ret, es_retn, es_expr, es_pass, es_brk, es_whl, negD, notD, isn_non, isn_int, isn_bl, isn_str, isn_tup, isn_lst, isn_ref, notn_non, notn_int, notn_bl, notn_str, notn_tup, notn_lst, notn_ref, ixD, loD, rtD, nxD, setD, List.getElem?_cons_zero, List.getElem?_cons_succ, Option.join_some, b_add, b_sub, c_lt, c_le, c_gt, c_ge, c_eqi, c_nei, p_abs, p_int, p_max, p_min, put_0, put_s, put_tp, puts_nil, puts_cons, Option.map_some, Option.bind_some, fill_nil, fill_no, fill_so, ix_tup, ix_lst, atI_nat, live_non, live_int, live_bl, live_str, live_tup, live_lst, live_scr, kd_int_non, kd_int_bl, kd_int_int, kd_int_str, kd_int_tup, kd_int_lst, kd_int_ref, kd_int_scr, kd_bool_non, kd_bool_bl, kd_bool_int, kd_bool_str, kd_bool_tup, kd_bool_lst, kd_bool_ref, kd_bool_scr, kd_str_non, kd_str_bl, kd_str_int, kd_str_str, kd_str_tup, kd_str_lst, kd_str_ref, kd_str_scr, kd_list_non, kd_list_bl, kd_list_int, kd_list_str, kd_list_tup, kd_list_lst, kd_list_ref, kd_list_scr, kd_tuple_non, kd_tuple_bl, kd_tuple_int, kd_tuple_str, kd_tuple_tup, kd_tuple_lst, kd_tuple_ref, kd_tuple_scr, Sn.guard, if_true, if_false, Bool.not_true, Bool.not_false, decide_eq_true_eq, Bool.not_eq_true', decide_eq_false_iff_not, Bool.true_eq_false, Bool.false_eq_true, if_true, if_false, newT_of, newL_f, b_mod, b_fdiv, b_mul, b_pow, p_len2, p_len3, eq_self, and_self, decide_true, decide_false, reduceIte, p_reprB, c_ne_shownB, c_eq_shownB, c_eqB, c_neB, b_rep, List.replicate, List.flatten_cons, List.flatten_nil, List.cons_append, List.nil_append, List.set_cons_zero, List.set_cons_succ]
  rw [comp_map (n := n) (M := M) (env := [some (.tup [.int a, .int b, .int c]), some (.int 3), none]) (w := ⟨[.int a, .int b, .int c], []⟩) (fun _ => .bl true) (it_of (d := .tup [.int a, .int b, .int c]) (by simp (dsimp := false) (disch := first | assumption | exact Nat.le_of_ble_eq_true rfl | exact MP.loc (by assumption) rfl | omega) only [bnd_ok, bnd_no, turn_nx, turn_bk, turn_rt, ofO_some, seqR_nx, seqR_rt, seqR_bk, pick_t, pick_f, pick_d, pick_nd, pick_b, isB_b, ev_var, ev_int, ev_str, ev_bl, ev_non, ev_gint, ev_gcon, ev_rev, ev_isb, ev_tups, ev_lsts, evIs_nil, evIs_cons, evIs_star, isb_tt, isb_tf, isb_ft, isb_ff, ev_bin, ev_neg, ev_not, ev_and, ev_or, ev_cmp, ev_isn, ev_notn, ev_inn, ev_nin, ev_iteE, ev_tup, ev_lst, ev_ix, ev_sl, ev_call, ev_callk, ev_prim, ev_isi, ev_meth, evEs_nil, evEs_cons, evEo_none, evEo_some, evSs_cons, evSs_nil, es_ite, es_asg, es_setix, es_ret, es_retn, es_expr, es_pass, es_brk, es_whl, negD, notD, isn_non, isn_int, isn_bl, isn_str, isn_tup, isn_lst, isn_ref, notn_non, notn_int, notn_bl, notn_str, notn_tup, notn_lst, notn_ref, ixD, loD, rtD, nxD, setD, List.getElem?_cons_zero, List.getElem?_cons_succ, Option.join_some, b_add, b_sub, c_lt, c_le, c_gt, c_ge, c_eqi, c_nei, p_abs, p_int, p_max, p_min, put_0, put_s, put_tp, puts_nil, puts_cons, Option.map_some, Option.bind_some, fill_nil, fill_no, fill_so, ix_tup, ix_lst, atI_nat, live_non, live_int, live_bl, live_str, live_tup, live_lst, live_scr, kd_int_non, kd_int_bl, kd_int_int, kd_int_str, kd_int_tup, kd_int_lst, kd_int_ref, kd_int_scr, kd_bool_non, kd_bool_bl, kd_bool_int, kd_bool_str, kd_bool_tup, kd_bool_lst, kd_bool_ref, kd_bool_scr, kd_str_non, kd_str_bl, kd_str_int, kd_str_str, kd_str_tup, kd_str_lst, kd_str_ref, kd_str_scr, kd_list_non, kd_list_bl, kd_list_int, kd_list_str, kd_list_tup, kd_list_lst, kd_list_ref, kd_list_scr, kd_tuple_non, kd_tuple_bl, kd_tuple_int, kd_tuple_str, kd_tuple_tup, kd_tuple_lst, kd_tuple_ref, kd_tuple_scr, Sn.guard, if_true, if_false, Bool.not_true, Bool.not_false, decide_eq_true_eq, Bool.not_eq_true', decide_eq_false_iff_not, Bool.true_eq_false, Bool.false_eq_true, if_true, if_false, newT_of, newL_f, b_mod, b_fdiv, b_mul, b_pow, p_len2, p_len3, eq_self, and_self, decide_true, decide_false, reduceIte, p_reprB, c_ne_shownB, c_eq_shownB, c_eqB, c_neB, b_rep, List.replicate, List.flatten_cons, List.flatten_nil, List.cons_append, List.nil_append, List.set_cons_zero, List.set_cons_succ]) rfl) (fun x hx => by
    obtain ⟨i, rfl⟩ : ∃ i, x = .int i := by
      rcases List.mem_cons.mp hx with h | hx
      · exact ⟨_, h⟩
      · rcases List.mem_cons.mp hx with h | hx
        · exact ⟨_, h⟩
        · exact ⟨_, by simpa using hx⟩
    exact ⟨[some (.tup [.int a, .int b, .int c]), some (.int 3), some (.int i)], rfl, by simp (dsimp := false) (disch := first | assumption | exact Nat.le_of_ble_eq_true rfl | exact MP.loc (by assumption) rfl | omega) only [bnd_ok, bnd_no, turn_nx, turn_bk, turn_rt, ofO_some, seqR_nx, seqR_rt, seqR_bk, pick_t, pick_f, pick_d, pick_nd, pick_b, isB_b, ev_var, ev_int, ev_str, ev_bl, ev_non, ev_gint, ev_gcon, ev_rev, ev_isb, ev_tups, ev_lsts, evIs_nil, evIs_cons, evIs_star, isb_tt, isb_tf, isb_ft, isb_ff, ev_bin, ev_neg, ev_not, ev_and, ev_or, ev_cmp, ev_isn, ev_notn, ev_inn, ev_nin, ev_iteE, ev_tup, ev_lst, ev_ix, ev_sl, ev_call, ev_callk, ev_prim, ev_isi, ev_meth, evEs_nil, evEs_cons, evEo_none, evEo_some, evSs_cons, evSs_nil, es_ite, es_asg, es_setix, es_ret, es_retn, es_expr, es_pass, es_brk, es_whl, negD, notD, isn_non, isn_int, isn_bl, isn_str, isn_tup, isn_lst, isn_ref, notn_non, notn_int, notn_bl, notn_str, notn_tup, notn_lst, notn_ref, ixD, loD, rtD, nxD, setD, List.getElem?_cons_zero, List.getElem?_cons_succ, Option.join_some, b_add, b_sub, c_lt, c_le, c_gt, c_ge, c_eqi, c_nei, p_abs, p_int, p_max, p_min, put_0, put_s, put_tp, puts_nil, puts_cons, Option.map_some, Option.bind_some, fill_nil, fill_no, fill_so, ix_tup, ix_lst, atI_nat, live_non, live_int, live_bl, live_str, live_tup, live_lst, live_scr, kd_int_non, kd_int_bl, kd_int_int, kd_int_str, kd_int_tup, kd_int_lst, kd_int_ref, kd_int_scr, kd_bool_non, kd_bool_bl, kd_bool_int, kd_bool_str, kd_bool_tup, kd_bool_lst, kd_bool_ref, kd_bool_scr, kd_str_non, kd_str_bl, kd_str_int, kd_str_str, kd_str_tup, kd_str_lst, kd_str_ref, kd_str_scr, kd_list_non, kd_list_bl, kd_list_int, kd_list_str, kd_list_tup, kd_list_lst, kd_list_ref, kd_list_scr, kd_tuple_non, kd_tuple_bl, kd_tuple_int, kd_tuple_str, kd_tuple_tup, kd_tuple_lst, kd_tuple_ref, kd_tuple_scr, Sn.guard, if_true, if_false, Bool.not_true, Bool.not_false, decide_eq_true_eq, Bool.not_eq_true', decide_eq_false_iff_not, Bool.true_eq_false, Bool.false_eq_true, if_true, if_false, newT_of, newL_f, b_mod, b_fdiv, b_mul, b_pow, p_len2, p_len3, eq_self, and_self, decide_true, decide_false, reduceIte, p_reprB, c_ne_shownB, c_eq_shownB, c_eqB, c_neB, b_rep, List.replicate, List.flatten_cons, List.flatten_nil, List.cons_append, List.nil_append, List.set_cons_zero, List.set_cons_succ, s_is_integer hM]⟩) (size_small (Nat.le_of_ble_eq_true rfl))]
  simp (dsimp := false) (disch := first | assumption | exact Nat.le_of_ble_eq_true rfl | exact MP.loc (by assumption) rfl | omega) only [bnd_ok, bnd_no, turn_nx, turn_bk, turn_rt, ofO_some, seqR_nx, seqR_rt, seqR_bk, pick_t, pick_f, pick_d, pick_nd, pick_b, isB_b, ev_var, ev_int, ev_str, ev_bl, ev_non, ev_gint, ev_gcon, ev_rev, ev_isb, ev_tups, ev_lsts, evIs_nil, evIs_cons, evIs_star, isb_tt, isb_tf, isb_ft, isb_ff, ev_bin, ev_neg, ev_not, ev_and, ev_or, ev_cmp, ev_isn, ev_notn, ev_inn, ev_nin, ev_iteE, ev_tup, ev_lst, ev_ix, ev_sl, ev_call, ev_callk, ev_prim, ev_isi, ev_meth, evEs_nil, evEs_cons, evEo_none, evEo_some, evSs_cons, evSs_nil, es_ite, es_asg, es_setix, es_ret, es_retn, es_expr, es_pass, es_brk, es_whl, negD, notD, isn_non, isn_int, isn_bl, isn_str, isn_tup, isn_lst, isn_ref, notn_non, notn_int, notn_bl, notn_str, notn_tup, notn_lst, notn_ref, ixD, loD, rtD, nxD, setD, List.getElem?_cons_zero, List.getElem?_cons_succ, Option.join_some, b_add, b_sub, c_lt, c_le, c_gt, c_ge, c_eqi, c_nei, p_abs, p_int, p_max, p_min, put_0, put_s, put_tp, puts_nil, puts_cons, Option.map_some, Option.bind_some, fill_nil, fill_no, fill_so, ix_tup, ix_lst, atI_nat, live_non, live_int, live_bl, live_str, live_tup, live_lst, live_scr, kd_int_non, kd_int_bl, kd_int_int, kd_int_str, kd_int_tup, kd_int_lst, kd_int_ref, kd_int_scr, kd_bool_non, kd_bool_bl, kd_bool_int, kd_bool_str, kd_bool_tup, kd_bool_lst, kd_bool_ref, kd_bool_scr, kd_str_non, kd_str_bl, kd_str_int, kd_str_str, kd_str_tup, kd_str_lst, kd_str_ref, kd_str_scr, kd_list_non, kd_list_bl, kd_list_int, kd_list_str, kd_list_tup, kd_list_lst, kd_list_ref, kd_list_scr, kd_tuple_non, kd_tuple_bl, kd_tuple_int, kd_tuple_str, kd_tuple_tup, kd_tuple_lst, kd_tuple_ref, kd_tuple_scr, Sn.guard, if_true, if_false, Bool.not_true, Bool.not_false, decide_eq_true_eq, Bool.not_eq_true', decide_eq_false_iff_not, Bool.true_eq_false, Bool.false_eq_true, if_true, if_false, newT_of, newL_f, b_mod, b_fdiv, b_mul, b_pow, p_len2, p_len3, eq_self, and_self, decide_true, decide_false, reduceIte, p_reprB, c_ne_shownB, c_eq_shownB, c_eqB, c_neB, b_rep, List.replicate, List.flatten_cons, List.flatten_nil, List.cons_append, List.nil_append, List.set_cons_zero, List.set_cons_succ]
  rfl
include hM in
theorem s_are_integers2 {r : Rat} : callD n d_are_integers [qf r, .int 2] M = .ok (.bl true) M := by
  unfold qf
  generalize r.num = a
  generalize (r.den : Int) = b
  refine call_to ⟨rfl, by decide⟩ ?_ rfl hM rfl
  simp (dsimp := false) (disch := first | assumption | exact Nat.le_of_ble_eq_true rfl | exact MP.loc (by assumption) rfl | omega) only [bnd_ok, bnd_no, turn_nx, turn_bk, turn_rt, ofO_some, seqR_nx, seqR_rt, seqR_bk, pick_t, pick_f, pick_d, pick_nd, pick_b, isB_b, ev_var, ev_int, ev_str, ev_bl, ev_non, ev_gint, ev_gcon, ev_rev, ev_isb, ev_tups, ev_lsts, evIs_nil, evIs_cons, evIs_star, isb_tt, isb_tf, isb_ft, isb_ff, ev_bin, ev_neg, ev_not, ev_and, ev_or, ev_cmp, ev_isn, ev_notn, ev_inn, ev_nin, ev_iteE, ev_tup, ev_lst, ev_ix, ev_sl, ev_call, ev_callk, ev_prim, ev_isi, ev_meth, evEs_nil, evEs_cons, evEo_none, evEo_some, evSs_cons, evSs_nil, es_ite, es_asg, es_setix, es_ret, es_retn, es_expr, es_pass, es_brk, es_whl, negD, notD, isn_non, isn_int, isn_bl, isn_str, isn_tup, isn_lst, isn_ref, notn_non, notn_int, notn_bl, notn_str, notn_tup, notn_lst, notn_ref, ixD, loD, rtD, nxD, setD, List.getElem?_cons_zero, List.getElem?_cons_succ, Option.join_some, b_add, b_sub, c_lt, c_le, c_gt, c_ge, c_eqi, c_nei, p_abs, p_int, p_max, p_min, put_0, put_s, put_tp, puts_nil, puts_cons, Option.map_some, Option.bind_some, fill_nil, fill_no, fill_so, ix_tup, ix_lst, atI_nat, live_non, live_int, live_bl, live_str, live_tup, live_lst, live_scr, kd_int_non, kd_int_bl, kd_int_int, kd_int_str, kd_int_tup, kd_int_lst, kd_int_ref, kd_int_scr, kd_bool_non, kd_bool_bl, kd_bool_int, kd_bool_str, kd_bool_tup, kd_bool_lst, kd_bool_ref, kd_bool_scr, kd_str_non, kd_str_bl, kd_str_int, kd_str_str, kd_str_tup, kd_str_lst, kd_str_ref, kd_str_scr, kd_list_non, kd_list_bl, kd_list_int, kd_list_str, kd_list_tup, kd_list_lst, kd_list_ref, kd_list_scr, kd_tuple_non, kd_tuple_bl, kd_tuple_int, kd_tuple_str, kd_tuple_tup, kd_tuple_lst, kd_tuple_ref, kd_tuple_scr, Sn.guard, if_true, if_false, Bool.not_true, Bool.not_false, decide_eq_true_eq, Bool.not_eq_true', decide_eq_false_iff_not, Bool.true_eq_false, Bool.false_eq_true, if_true, if_false, newT_of, newL_f, b_mod, b_fdiv, b_mul, b_pow, p_len2, p_len3, eq_self, and_self, decide_true, decide_false, reduceIte, p_reprB, c_ne_shownB, c_eq_shownB, c_eqB, c_neB, b_rep, List.replicate, List.flatten_cons, List.flatten_nil, List.cons_append, List.nil_append, List.set_cons_zero, List.set_cons_succ]
  rw [comp_map (n := n) (M := M) (env := [some (.tup [.int a, .int b]), some (.int 2), none]) (w := ⟨[.int a, .int b], []⟩) (fun _ => .bl true) (it_of (d := .tup [.int a, .int b]) (by simp (dsimp := false) (disch := first | assumption | exact Nat.le_of_ble_eq_true rfl | exact MP.loc (by assumption) rfl | omega) only [bnd_ok, bnd_no, turn_nx, turn_bk, turn_rt, ofO_some, seqR_nx, seqR_rt, seqR_bk, pick_t, pick_f, pick_d, pick_nd, pick_b, isB_b, ev_var, ev_int, ev_str, ev_bl, ev_non, ev_gint, ev_gcon, ev_rev, ev_isb, ev_tups, ev_lsts, evIs_nil, evIs_cons, evIs_star, isb_tt, isb_tf, isb_ft, isb_ff, ev_bin, ev_neg, ev_not, ev_and, ev_or, ev_cmp, ev_isn, ev_notn, ev_inn, ev_nin, ev_iteE, ev_tup, ev_lst, ev_ix, ev_sl, ev_call, ev_callk, ev_prim, ev_isi, ev_meth, evEs_nil, evEs_cons, evEo_none, evEo_some, evSs_cons, evSs_nil, es_ite, es_asg, es_setix, es_ret, es_retn, es_expr, es_pass, es_brk, es_whl, negD, notD, isn_non, isn_int, isn_bl, isn_str, isn_tup, isn_lst, isn_ref, notn_non, notn_int, notn_bl, notn_str, notn_tup, notn_lst, notn_ref, ixD, loD, rtD, nxD, setD, List.getElem?_cons_zero, List.getElem?_cons_succ, Option.join_some, b_add, b_sub, c_lt, c_le, c_gt, c_ge, c_eqi, c_nei, p_abs, p_int, p_max, p_min, put_0, put_s, put_tp, puts_nil, puts_cons, Option.map_some, Option.bind_some, fill_nil, fill_no, fill_so, ix_tup, ix_lst, atI_nat, live_non, live_int, live_bl, live_str, live_tup, live_lst, live_scr, kd_int_non, kd_int_bl, kd_int_int, kd_int_str, kd_int_tup, kd_int_lst, kd_int_ref, kd_int_scr, kd_bool_non, kd_bool_bl, kd_bool_int, kd_bool_str, kd_bool_tup, kd_bool_lst, kd_bool_ref, kd_bool_scr, kd_str_non, kd_str_bl, kd_str_int, kd_str_str, kd_str_tup, kd_str_lst, kd_str_ref, kd_str_scr, kd_list_non, kd_list_bl, kd_list_int, kd_list_str, kd_list_tup, kd_list_lst, kd_list_ref, kd_list_scr, kd_tuple_non, kd_tuple_bl, kd_tuple_int, kd_tuple_str, kd_tuple_tup, kd_tuple_lst, kd_tuple_ref, kd_tuple_scr, Sn.guard, if_true, if_false, Bool.not_true, Bool.not_false, decide_eq_true_eq, Bool.not_eq_true', decide_eq_false_iff_not, Bool.true_eq_false, Bool.false_eq_true, if_true, if_false, newT_of, newL_f, b_mod, b_fdiv, b_mul, b_pow, p_len2, p_len3, eq_self, and_self, decide_true, decide_false, reduceIte, p_reprB, c_ne_shownB, c_eq_shownB, c_eqB, c_neB, b_rep, List.replicate, List.flatten_cons, List.flatten_nil, List.cons_append, List.nil_append, List.set_cons_zero, List.set_cons_succ]) rfl) (fun x hx => by
    obtain ⟨i, rfl⟩ : ∃ i, x = .int i := by
      rcases List.mem_cons.mp hx with h | hx
      · exact ⟨_, h⟩
      · exact ⟨_, by simpa using hx⟩
    exact ⟨[some (.tup [.int a, .int b]), some (.int 2), some (.int i)], rfl, by simp (dsimp := false) (disch := first | assumption | exact Nat.le_of_ble_eq_true rfl | exact MP.loc (by assumption) rfl | omega) only [bnd_ok, bnd_no, turn_nx, turn_bk, turn_rt, ofO_some, seqR_nx, seqR_rt, seqR_bk, pick_t, pick_f, pick_d, pick_nd, pick_b, isB_b, ev_var, ev_int, ev_str, ev_bl, ev_non, ev_gint, ev_gcon, ev_rev, ev_isb, ev_tups, ev_lsts, evIs_nil, evIs_cons, evIs_star, isb_tt, isb_tf, isb_ft, isb_ff, ev_bin, ev_neg, ev_not, ev_and, ev_or, ev_cmp, ev_isn, ev_notn, ev_inn, ev_nin, ev_iteE, ev_tup, ev_lst, ev_ix, ev_sl, ev_call, ev_callk, ev_prim, ev_isi, ev_meth, evEs_nil, evEs_cons, evEo_none, evEo_some, evSs_cons, evSs_nil, es_ite, es_asg, es_setix, es_ret, es_retn, es_expr, es_pass, es_brk, es_whl, negD, notD, isn_non, isn_int, isn_bl, isn_str, isn_tup, isn_lst, isn_ref, notn_non, notn_int, notn_bl, notn_str, notn_tup, notn_lst, notn_ref, ixD, loD, rtD, nxD, setD, List.getElem?_cons_zero, List.getElem?_cons_succ, Option.join_some, b_add, b_sub, c_lt, c_le, c_gt, c_ge, c_eqi, c_nei, p_abs, p_int, p_max, p_min, put_0, put_s, put_tp, puts_nil, puts_cons, Option.map_some, Option.bind_some, fill_nil, fill_no, fill_so, ix_tup, ix_lst, atI_nat, live_non, live_int, live_bl, live_str, live_tup, live_lst, live_scr, kd_int_non, kd_int_bl, kd_int_int, kd_int_str, kd_int_tup, kd_int_lst, kd_int_ref, kd_int_scr, kd_bool_non, kd_bool_bl, kd_bool_int, kd_bool_str, kd_bool_tup, kd_bool_lst, kd_bool_ref, kd_bool_scr, kd_str_non, kd_str_bl, kd_str_int, kd_str_str, kd_str_tup, kd_str_lst, kd_str_ref, kd_str_scr, kd_list_non, kd_list_bl, kd_list_int, kd_list_str, kd_list_tup, kd_list_lst, kd_list_ref, kd_list_scr, kd_tuple_non, kd_tuple_bl, kd_tuple_int, kd_tuple_str, kd_tuple_tup, kd_tuple_lst, kd_tuple_ref, kd_tuple_scr, Sn.guard, if_true, if_false, Bool.not_true, Bool.not_false, decide_eq_true_eq, Bool.not_eq_true', decide_eq_false_iff_not, Bool.true_eq_false, Bool.false_eq_true, if_true, if_false, newT_of, newL_f, b_mod, b_fdiv, b_mul, b_pow, p_len2, p_len3, eq_self, and_self, decide_true, decide_false, reduceIte, p_reprB, c_ne_shownB, c_eq_shownB, c_eqB, c_neB, b_rep, List.replicate, List.flatten_cons, List.flatten_nil, List.cons_append, List.nil_append, List.set_cons_zero, List.set_cons_succ, s_is_integer hM]⟩) (size_small (Nat.le_of_ble_eq_true rfl))]
  simp (dsimp := false) (disch := first | assumption | exact Nat.le_of_ble_eq_true rfl | exact MP.loc (by assumption) rfl | omega) only [bnd_ok, bnd_no, turn_nx, turn_bk, turn_rt, ofO_some, seqR_nx, seqR_rt, seqR_bk, pick_t, pick_f, pick_d, pick_nd, pick_b, isB_b, ev_var, ev_int, ev_str, ev_bl, ev_non, ev_gint, ev_gcon, ev_rev, ev_isb, ev_tups, ev_lsts, evIs_nil, evIs_cons, evIs_star, isb_tt, isb_tf, isb_ft, isb_ff, ev_bin, ev_neg, ev_not, ev_and, ev_or, ev_cmp, ev_isn, ev_notn, ev_inn, ev_nin, ev_iteE, ev_tup, ev_lst, ev_ix, ev_sl, ev_call, ev_callk, ev_prim, ev_isi, ev_meth, evEs_nil, evEs_cons, evEo_none, evEo_some, evSs_cons, evSs_nil, es_ite, es_asg, es_setix, es_ret, es_retn, es_expr, es_pass, es_brk, es_whl, negD, notD, isn_non, isn_int, isn_bl, isn_str, isn_tup, isn_lst, isn_ref, notn_non, notn_int, notn_bl, notn_str, notn_tup, notn_lst, notn_ref, ixD, loD, rtD, nxD, setD, List.getElem?_cons_zero, List.getElem?_cons_succ, Option.join_some, b_add, b_sub, c_lt, c_le, c_gt, c_ge, c_eqi, c_nei, p_abs, p_int, p_max, p_min, put_0, put_s, put_tp, puts_nil, puts_cons, Option.map_some, Option.bind_some, fill_nil, fill_no, fill_so, ix_tup, ix_lst, atI_nat, live_non, live_int, live_bl, live_str, live_tup, live_lst, live_scr, kd_int_non, kd_int_bl, kd_int_int, kd_int_str, kd_int_tup, kd_int_lst, kd_int_ref, kd_int_scr, kd_bool_non, kd_bool_bl, kd_bool_int, kd_bool_str, kd_bool_tup, kd_bool_lst, kd_bool_ref, kd_bool_scr, kd_str_non, kd_str_bl, kd_str_int, kd_str_str, kd_str_tup, kd_str_lst, kd_str_ref, kd_str_scr, kd_list_non, kd_list_bl, kd_list_int, kd_list_str, kd_list_tup, kd_list_lst, kd_list_ref, kd_list_scr, kd_tuple_non, kd_tuple_bl, kd_tuple_int, kd_tuple_str, kd_tuple_tup, kd_tuple_lst, kd_tuple_ref, kd_tuple_scr, Sn.guard, if_true, if_false, Bool.not_true, Bool.not_false, decide_eq_true_eq, Bool.not_eq_true', decide_eq_false_iff_not, Bool.true_eq_false, Bool.false_eq_true, if_true, if_false, newT_of, newL_f, b_mod, b_fdiv, b_mul, b_pow, p_len2, p_len3, eq_self, and_self, decide_true, decide_false, reduceIte, p_reprB, c_ne_shownB, c_eq_shownB, c_eqB, c_neB, b_rep, List.replicate, List.flatten_cons, List.flatten_nil, List.cons_append, List.nil_append, List.set_cons_zero, List.set_cons_succ]
  rfl
include hn hM in
theorem s_is_place_value {z : G} {k : Nat} [Hz z k] (l : k ≤ 8000) : callD n d_is_place_value [nf z] M = .ok (.bl true) M := by
  refine call_to ⟨rfl, by decide⟩ ?_ rfl hM rfl
  have h := gz_norm z
  have hp : ¬ (gp z < 1) := by have := h.pos; omega
  have ho : ((Int.gcd ((Int.gcd (gx z) (gy z) : Nat) : Int) (gp z) : Nat) : Int) = 1 := by have := h.one; unfold g3 at this; omega
  simp (dsimp := false) (disch := first | assumption | exact Nat.le_of_ble_eq_true rfl | exact MP.loc (by assumption) rfl | omega) only [bnd_ok, bnd_no, turn_nx, turn_bk, turn_rt, ofO_some, seqR_nx, seqR_rt, seqR_bk, pick_t, pick_f, pick_d, pick_nd, pick_b, isB_b, ev_var, ev_int, ev_str, ev_bl, ev_non, ev_gint, ev_gcon, ev_rev, ev_isb, ev_tups, ev_lsts, evIs_nil, evIs_cons, evIs_star, isb_tt, isb_tf, isb_ft, isb_ff, ev_bin, ev_neg, ev_not, ev_and, ev_or, ev_cmp, ev_isn, ev_notn, ev_inn, ev_nin, ev_iteE, ev_tup, ev_lst, ev_ix, ev_sl, ev_call, ev_callk, ev_prim, ev_isi, ev_meth, evEs_nil, evEs_cons, evEo_none, evEo_some, evSs_cons, evSs_nil, es_ite, es_asg, es_setix, es_ret, es_retn, es_expr, es_pass, es_brk, es_whl, negD, notD, isn_non, isn_int, isn_bl, isn_str, isn_tup, isn_lst, isn_ref, notn_non, notn_int, notn_bl, notn_str, notn_tup, notn_lst, notn_ref, ixD, loD, rtD, nxD, setD, List.getElem?_cons_zero, List.getElem?_cons_succ, Option.join_some, b_add, b_sub, c_lt, c_le, c_gt, c_ge, c_eqi, c_nei, p_abs, p_int, p_max, p_min, put_0, put_s, put_tp, puts_nil, puts_cons, Option.map_some, Option.bind_some, fill_nil, fill_no, fill_so, ix_tup, ix_lst, atI_nat, live_non, live_int, live_bl, live_str, live_tup, live_lst, live_scr, kd_int_non, kd_int_bl, kd_int_int, kd_int_str, kd_int_tup, kd_int_lst, kd_int_ref, kd_int_scr, kd_bool_non, kd_bool_bl, kd_bool_int, kd_bool_str, kd_bool_tup, kd_bool_lst, kd_bool_ref, kd_bool_scr, kd_str_non, kd_str_bl, kd_str_int, kd_str_str, kd_str_tup, kd_str_lst, kd_str_ref, kd_str_scr, kd_list_non, kd_list_bl, kd_list_int, kd_list_str, kd_list_tup, kd_list_lst, kd_list_ref, kd_list_scr, kd_tuple_non, kd_tuple_bl, kd_tuple_int, kd_tuple_str, kd_tuple_tup, kd_tuple_lst, kd_tuple_ref, kd_tuple_scr, Sn.guard, if_true, if_false, Bool.not_true, Bool.not_false, decide_eq_true_eq, Bool.not_eq_true', decide_eq_false_iff_not, Bool.true_eq_false, Bool.false_eq_true, if_true, if_false, newT_of, newL_f, b_mod, b_fdiv, b_mul, b_pow, p_len2, p_len3, eq_self, and_self, decide_true, decide_false, reduceIte, p_reprB, c_ne_shownB, c_eq_shownB, c_eqB, c_neB, b_rep, List.replicate, List.flatten_cons, List.flatten_nil, List.cons_append, List.nil_append, List.set_cons_zero, List.set_cons_succ, c_neb, c_eqb, bne_self_eq_false, beq_self_eq_true, ev_chain, ifB_t, ifB_f, ifB_d, ifB_nd, sl_nf, sl_t3, p_len_scr, p_max3, p_min3, ix_pr0, ix_pr1, put_pr, pr_l0, pr_l1, c_ne_pr, ix_nf0, ix_nf1, ix_nf2, put_nf, p_len_nf, kind_nf, live_nf, isn_nf, notn_nf, kind_nf_int, kind_nf_bool, kind_nf_list, kind_nf_str, nf_l0, nf_l1, ix_qf0, ix_qf1, put_qf, kind_qf, live_qf, isn_qf, notn_qf, p_len_qf, c_eq_nf, c_ne_nf, c_eq_qf, c_ne_qf, s_are_integers hM, hp, s_common_divisor hn hM (a := gx z) (b := gy z) (by omega), s_common_divisor hn hM (b := gp z) (by omega), ho]
include hn hM in
theorem s_is_sheet_value {s b : G} {j k : Nat} [Hz s j] [Hz b k] (h0 : s ≠ 0) (l1 : j ≤ 8000) (l2 : k ≤ 8000) : callD n d_is_sheet_value [.tup [nf s, nf b]] M = .ok (.bl true) M := by
  refine call_to ⟨rfl, by decide⟩ ?_ rfl hM rfl
  simp (dsimp := false) (disch := first | assumption | exact Nat.le_of_ble_eq_true rfl | exact MP.loc (by assumption) rfl | omega) only [bnd_ok, bnd_no, turn_nx, turn_bk, turn_rt, ofO_some, seqR_nx, seqR_rt, seqR_bk, pick_t, pick_f, pick_d, pick_nd, pick_b, isB_b, ev_var, ev_int, ev_str, ev_bl, ev_non, ev_gint, ev_gcon, ev_rev, ev_isb, ev_tups, ev_lsts, evIs_nil, evIs_cons, evIs_star, isb_tt, isb_tf, isb_ft, isb_ff, ev_bin, ev_neg, ev_not, ev_and, ev_or, ev_cmp, ev_isn, ev_notn, ev_inn, ev_nin, ev_iteE, ev_tup, ev_lst, ev_ix, ev_sl, ev_call, ev_callk, ev_prim, ev_isi, ev_meth, evEs_nil, evEs_cons, evEo_none, evEo_some, evSs_cons, evSs_nil, es_ite, es_asg, es_setix, es_ret, es_retn, es_expr, es_pass, es_brk, es_whl, negD, notD, isn_non, isn_int, isn_bl, isn_str, isn_tup, isn_lst, isn_ref, notn_non, notn_int, notn_bl, notn_str, notn_tup, notn_lst, notn_ref, ixD, loD, rtD, nxD, setD, List.getElem?_cons_zero, List.getElem?_cons_succ, Option.join_some, b_add, b_sub, c_lt, c_le, c_gt, c_ge, c_eqi, c_nei, p_abs, p_int, p_max, p_min, put_0, put_s, put_tp, puts_nil, puts_cons, Option.map_some, Option.bind_some, fill_nil, fill_no, fill_so, ix_tup, ix_lst, atI_nat, live_non, live_int, live_bl, live_str, live_tup, live_lst, live_scr, kd_int_non, kd_int_bl, kd_int_int, kd_int_str, kd_int_tup, kd_int_lst, kd_int_ref, kd_int_scr, kd_bool_non, kd_bool_bl, kd_bool_int, kd_bool_str, kd_bool_tup, kd_bool_lst, kd_bool_ref, kd_bool_scr, kd_str_non, kd_str_bl, kd_str_int, kd_str_str, kd_str_tup, kd_str_lst, kd_str_ref, kd_str_scr, kd_list_non, kd_list_bl, kd_list_int, kd_list_str, kd_list_tup, kd_list_lst, kd_list_ref, kd_list_scr, kd_tuple_non, kd_tuple_bl, kd_tuple_int, kd_tuple_str, kd_tuple_tup, kd_tuple_lst, kd_tuple_ref, kd_tuple_scr, Sn.guard, if_true, if_false, Bool.not_true, Bool.not_false, decide_eq_true_eq, Bool.not_eq_true', decide_eq_false_iff_not, Bool.true_eq_false, Bool.false_eq_true, if_true, if_false, newT_of, newL_f, b_mod, b_fdiv, b_mul, b_pow, p_len2, p_len3, eq_self, and_self, decide_true, decide_false, reduceIte, p_reprB, c_ne_shownB, c_eq_shownB, c_eqB, c_neB, b_rep, List.replicate, List.flatten_cons, List.flatten_nil, List.cons_append, List.nil_append, List.set_cons_zero, List.set_cons_succ, c_neb, c_eqb, bne_self_eq_false, beq_self_eq_true, ev_chain, ifB_t, ifB_f, ifB_d, ifB_nd, sl_nf, sl_t3, p_len_scr, p_max3, p_min3, ix_pr0, ix_pr1, put_pr, pr_l0, pr_l1, c_ne_pr, ix_nf0, ix_nf1, ix_nf2, put_nf, p_len_nf, kind_nf, live_nf, isn_nf, notn_nf, kind_nf_int, kind_nf_bool, kind_nf_list, kind_nf_str, nf_l0, nf_l1, ix_qf0, ix_qf1, put_qf, kind_qf, live_qf, isn_qf, notn_qf, p_len_qf, c_eq_nf, c_ne_nf, c_eq_qf, c_ne_qf]
  rw [comp_map (n := n) (M := M) (env := [some (.tup [nf s, nf b]), none]) (w := ⟨[nf s, nf b], []⟩) (fun _ => .bl true) (it_of (d := .tup [nf s, nf b]) (by simp (dsimp := false) (disch := first | assumption | exact Nat.le_of_ble_eq_true rfl | exact MP.loc (by assumption) rfl | omega) only [bnd_ok, bnd_no, turn_nx, turn_bk, turn_rt, ofO_some, seqR_nx, seqR_rt, seqR_bk, pick_t, pick_f, pick_d, pick_nd, pick_b, isB_b, ev_var, ev_int, ev_str, ev_bl, ev_non, ev_gint, ev_gcon, ev_rev, ev_isb, ev_tups, ev_lsts, evIs_nil, evIs_cons, evIs_star, isb_tt, isb_tf, isb_ft, isb_ff, ev_bin, ev_neg, ev_not, ev_and, ev_or, ev_cmp, ev_isn, ev_notn, ev_inn, ev_nin, ev_iteE, ev_tup, ev_lst, ev_ix, ev_sl, ev_call, ev_callk, ev_prim, ev_isi, ev_meth, evEs_nil, evEs_cons, evEo_none, evEo_some, evSs_cons, evSs_nil, es_ite, es_asg, es_setix, es_ret, es_retn, es_expr, es_pass, es_brk, es_whl, negD, notD, isn_non, isn_int, isn_bl, isn_str, isn_tup, isn_lst, isn_ref, notn_non, notn_int, notn_bl, notn_str, notn_tup, notn_lst, notn_ref, ixD, loD, rtD, nxD, setD, List.getElem?_cons_zero, List.getElem?_cons_succ, Option.join_some, b_add, b_sub, c_lt, c_le, c_gt, c_ge, c_eqi, c_nei, p_abs, p_int, p_max, p_min, put_0, put_s, put_tp, puts_nil, puts_cons, Option.map_some, Option.bind_some, fill_nil, fill_no, fill_so, ix_tup, ix_lst, atI_nat, live_non, live_int, live_bl, live_str, live_tup, live_lst, live_scr, kd_int_non, kd_int_bl, kd_int_int, kd_int_str, kd_int_tup, kd_int_lst, kd_int_ref, kd_int_scr, kd_bool_non, kd_bool_bl, kd_bool_int, kd_bool_str, kd_bool_tup, kd_bool_lst, kd_bool_ref, kd_bool_scr, kd_str_non, kd_str_bl, kd_str_int, kd_str_str, kd_str_tup, kd_str_lst, kd_str_ref, kd_str_scr, kd_list_non, kd_list_bl, kd_list_int, kd_list_str, kd_list_tup, kd_list_lst, kd_list_ref, kd_list_scr, kd_tuple_non, kd_tuple_bl, kd_tuple_int, kd_tuple_str, kd_tuple_tup, kd_tuple_lst, kd_tuple_ref, kd_tuple_scr, Sn.guard, if_true, if_false, Bool.not_true, Bool.not_false, decide_eq_true_eq, Bool.not_eq_true', decide_eq_false_iff_not, Bool.true_eq_false, Bool.false_eq_true, if_true, if_false, newT_of, newL_f, b_mod, b_fdiv, b_mul, b_pow, p_len2, p_len3, eq_self, and_self, decide_true, decide_false, reduceIte, p_reprB, c_ne_shownB, c_eq_shownB, c_eqB, c_neB, b_rep, List.replicate, List.flatten_cons, List.flatten_nil, List.cons_append, List.nil_append, List.set_cons_zero, List.set_cons_succ]) rfl) (fun x hx => by
    rcases List.mem_cons.mp hx with rfl | hx
    · exact ⟨[some (.tup [nf s, nf b]), some (nf s)], rfl, by simp (dsimp := false) (disch := first | assumption | exact Nat.le_of_ble_eq_true rfl | exact MP.loc (by assumption) rfl | omega) only [bnd_ok, bnd_no, turn_nx, turn_bk, turn_rt, ofO_some, seqR_nx, seqR_rt, seqR_bk, pick_t, pick_f, pick_d, pick_nd, pick_b, isB_b, ev_var, ev_int, ev_str, ev_bl, ev_non, ev_gint, ev_gcon, ev_rev, ev_isb, ev_tups, ev_lsts, evIs_nil, evIs_cons, evIs_star, isb_tt, isb_tf, isb_ft, isb_ff, ev_bin, ev_neg, ev_not, ev_and, ev_or, ev_cmp, ev_isn, ev_notn, ev_inn, ev_nin, ev_iteE, ev_tup, ev_lst, ev_ix, ev_sl, ev_call, ev_callk, ev_prim, ev_isi, ev_meth, evEs_nil, evEs_cons, evEo_none, evEo_some, evSs_cons, evSs_nil, es_ite, es_asg, es_setix, es_ret, es_retn, es_expr, es_pass, es_brk, es_whl, negD, notD, isn_non, isn_int, isn_bl, isn_str, isn_tup, isn_lst, isn_ref, notn_non, notn_int, notn_bl, notn_str, notn_tup, notn_lst, notn_ref, ixD, loD, rtD, nxD, setD, List.getElem?_cons_zero, List.getElem?_cons_succ, Option.join_some, b_add, b_sub, c_lt, c_le, c_gt, c_ge, c_eqi, c_nei, p_abs, p_int, p_max, p_min, put_0, put_s, put_tp, puts_nil, puts_cons, Option.map_some, Option.bind_some, fill_nil, fill_no, fill_so, ix_tup, ix_lst, atI_nat, live_non, live_int, live_bl, live_str, live_tup, live_lst, live_scr, kd_int_non, kd_int_bl, kd_int_int, kd_int_str, kd_int_tup, kd_int_lst, kd_int_ref, kd_int_scr, kd_bool_non, kd_bool_bl, kd_bool_int, kd_bool_str, kd_bool_tup, kd_bool_lst, kd_bool_ref, kd_bool_scr, kd_str_non, kd_str_bl, kd_str_int, kd_str_str, kd_str_tup, kd_str_lst, kd_str_ref, kd_str_scr, kd_list_non, kd_list_bl, kd_list_int, kd_list_str, kd_list_tup, kd_list_lst, kd_list_ref, kd_list_scr, kd_tuple_non, kd_tuple_bl, kd_tuple_int, kd_tuple_str, kd_tuple_tup, kd_tuple_lst, kd_tuple_ref, kd_tuple_scr, Sn.guard, if_true, if_false, Bool.not_true, Bool.not_false, decide_eq_true_eq, Bool.not_eq_true', decide_eq_false_iff_not, Bool.true_eq_false, Bool.false_eq_true, if_true, if_false, newT_of, newL_f, b_mod, b_fdiv, b_mul, b_pow, p_len2, p_len3, eq_self, and_self, decide_true, decide_false, reduceIte, p_reprB, c_ne_shownB, c_eq_shownB, c_eqB, c_neB, b_rep, List.replicate, List.flatten_cons, List.flatten_nil, List.cons_append, List.nil_append, List.set_cons_zero, List.set_cons_succ, s_is_place_value hn hM l1]⟩
    · obtain rfl : x = nf b := by simpa using hx
      exact ⟨[some (.tup [nf s, nf b]), some (nf b)], rfl, by simp (dsimp := false) (disch := first | assumption | exact Nat.le_of_ble_eq_true rfl | exact MP.loc (by assumption) rfl | omega) only [bnd_ok, bnd_no, turn_nx, turn_bk, turn_rt, ofO_some, seqR_nx, seqR_rt, seqR_bk, pick_t, pick_f, pick_d, pick_nd, pick_b, isB_b, ev_var, ev_int, ev_str, ev_bl, ev_non, ev_gint, ev_gcon, ev_rev, ev_isb, ev_tups, ev_lsts, evIs_nil, evIs_cons, evIs_star, isb_tt, isb_tf, isb_ft, isb_ff, ev_bin, ev_neg, ev_not, ev_and, ev_or, ev_cmp, ev_isn, ev_notn, ev_inn, ev_nin, ev_iteE, ev_tup, ev_lst, ev_ix, ev_sl, ev_call, ev_callk, ev_prim, ev_isi, ev_meth, evEs_nil, evEs_cons, evEo_none, evEo_some, evSs_cons, evSs_nil, es_ite, es_asg, es_setix, es_ret, es_retn, es_expr, es_pass, es_brk, es_whl, negD, notD, isn_non, isn_int, isn_bl, isn_str, isn_tup, isn_lst, isn_ref, notn_non, notn_int, notn_bl, notn_str, notn_tup, notn_lst, notn_ref, ixD, loD, rtD, nxD, setD, List.getElem?_cons_zero, List.getElem?_cons_succ, Option.join_some, b_add, b_sub, c_lt, c_le, c_gt, c_ge, c_eqi, c_nei, p_abs, p_int, p_max, p_min, put_0, put_s, put_tp, puts_nil, puts_cons, Option.map_some, Option.bind_some, fill_nil, fill_no, fill_so, ix_tup, ix_lst, atI_nat, live_non, live_int, live_bl, live_str, live_tup, live_lst, live_scr, kd_int_non, kd_int_bl, kd_int_int, kd_int_str, kd_int_tup, kd_int_lst, kd_int_ref, kd_int_scr, kd_bool_non, kd_bool_bl, kd_bool_int, kd_bool_str, kd_bool_tup, kd_bool_lst, kd_bool_ref, kd_bool_scr, kd_str_non, kd_str_bl, kd_str_int, kd_str_str, kd_str_tup, kd_str_lst, kd_str_ref, kd_str_scr, kd_list_non, kd_list_bl, kd_list_int, kd_list_str, kd_list_tup, kd_list_lst, kd_list_ref, kd_list_scr, kd_tuple_non, kd_tuple_bl, kd_tuple_int, kd_tuple_str, kd_tuple_tup, kd_tuple_lst, kd_tuple_ref, kd_tuple_scr, Sn.guard, if_true, if_false, Bool.not_true, Bool.not_false, decide_eq_true_eq, Bool.not_eq_true', decide_eq_false_iff_not, Bool.true_eq_false, Bool.false_eq_true, if_true, if_false, newT_of, newL_f, b_mod, b_fdiv, b_mul, b_pow, p_len2, p_len3, eq_self, and_self, decide_true, decide_false, reduceIte, p_reprB, c_ne_shownB, c_eq_shownB, c_eqB, c_neB, b_rep, List.replicate, List.flatten_cons, List.flatten_nil, List.cons_append, List.nil_append, List.set_cons_zero, List.set_cons_succ, s_is_place_value hn hM l2]⟩) (size_small (Nat.le_of_ble_eq_true rfl))]
  have e : ∀ m : Bool, primop m .all [.lst (([nf s, nf b] : List D).map fun _ => D.bl true)] M = .ok (.bl true) M := fun m => id rfl
  simp (dsimp := false) (disch := first | assumption | exact Nat.le_of_ble_eq_true rfl | exact MP.loc (by assumption) rfl | omega) only [bnd_ok, bnd_no, turn_nx, turn_bk, turn_rt, ofO_some, seqR_nx, seqR_rt, seqR_bk, pick_t, pick_f, pick_d, pick_nd, pick_b, isB_b, ev_var, ev_int, ev_str, ev_bl, ev_non, ev_gint, ev_gcon, ev_rev, ev_isb, ev_tups, ev_lsts, evIs_nil, evIs_cons, evIs_star, isb_tt, isb_tf, isb_ft, isb_ff, ev_bin, ev_neg, ev_not, ev_and, ev_or, ev_cmp, ev_isn, ev_notn, ev_inn, ev_nin, ev_iteE, ev_tup, ev_lst, ev_ix, ev_sl, ev_call, ev_callk, ev_prim, ev_isi, ev_meth, evEs_nil, evEs_cons, evEo_none, evEo_some, evSs_cons, evSs_nil, es_ite, es_asg, es_setix, es_ret, es_retn, es_expr, es_pass, es_brk, es_whl, negD, notD, isn_non, isn_int, isn_bl, isn_str, isn_tup, isn_lst, isn_ref, notn_non, notn_int, notn_bl, notn_str, notn_tup, notn_lst, notn_ref, ixD, loD, rtD, nxD, setD, List.getElem?_cons_zero, List.getElem?_cons_succ, Option.join_some, b_add, b_sub, c_lt, c_le, c_gt, c_ge, c_eqi, c_nei, p_abs, p_int, p_max, p_min, put_0, put_s, put_tp, puts_nil, puts_cons, Option.map_some, Option.bind_some, fill_nil, fill_no, fill_so, ix_tup, ix_lst, atI_nat, live_non, live_int, live_bl, live_str, live_tup, live_lst, live_scr, kd_int_non, kd_int_bl, kd_int_int, kd_int_str, kd_int_tup, kd_int_lst, kd_int_ref, kd_int_scr, kd_bool_non, kd_bool_bl, kd_bool_int, kd_bool_str, kd_bool_tup, kd_bool_lst, kd_bool_ref, kd_bool_scr, kd_str_non, kd_str_bl, kd_str_int, kd_str_str, kd_str_tup, kd_str_lst, kd_str_ref, kd_str_scr, kd_list_non, kd_list_bl, kd_list_int, kd_list_str, kd_list_tup, kd_list_lst, kd_list_ref, kd_list_scr, kd_tuple_non, kd_tuple_bl, kd_tuple_int, kd_tuple_str, kd_tuple_tup, kd_tuple_lst, kd_tuple_ref, kd_tuple_scr, Sn.guard, if_true, if_false, Bool.not_true, Bool.not_false, decide_eq_true_eq, Bool.not_eq_true', decide_eq_false_iff_not, Bool.true_eq_false, Bool.false_eq_true, if_true, if_false, newT_of, newL_f, b_mod, b_fdiv, b_mul, b_pow, p_len2, p_len3, eq_self, and_self, decide_true, decide_false, reduceIte, p_reprB, c_ne_shownB, c_eq_shownB, c_eqB, c_neB, b_rep, List.replicate, List.flatten_cons, List.flatten_nil, List.cons_append, List.nil_append, List.set_cons_zero, List.set_cons_succ, c_neb, c_eqb, bne_self_eq_false, beq_self_eq_true, ev_chain, ifB_t, ifB_f, ifB_d, ifB_nd, sl_nf, sl_t3, p_len_scr, p_max3, p_min3, ix_pr0, ix_pr1, put_pr, pr_l0, pr_l1, c_ne_pr, ix_nf0, ix_nf1, ix_nf2, put_nf, p_len_nf, kind_nf, live_nf, isn_nf, notn_nf, kind_nf_int, kind_nf_bool, kind_nf_list, kind_nf_str, nf_l0, nf_l1, ix_qf0, ix_qf1, put_qf, kind_qf, live_qf, isn_qf, notn_qf, p_len_qf, c_eq_nf, c_ne_nf, c_eq_qf, c_ne_qf, e, h0]
include hM in
theorem s_first_wrong {k : Nat} : callD n d_first_wrong [.lst (List.replicate k (.bl true))] M = .ok (.tup []) M := by
  refine call_to ⟨rfl, by decide⟩ ?_ rfl hM rfl
  have := inop_true (M := M) (k := k)
  generalize List.replicate k (D.bl true) = xs at *
  simp (dsimp := false) (disch := first | assumption | exact Nat.le_of_ble_eq_true rfl | exact MP.loc (by assumption) rfl | omega) only [bnd_ok, bnd_no, turn_nx, turn_bk, turn_rt, ofO_some, seqR_nx, seqR_rt, seqR_bk, pick_t, pick_f, pick_d, pick_nd, pick_b, isB_b, ev_var, ev_int, ev_str, ev_bl, ev_non, ev_gint, ev_gcon, ev_rev, ev_isb, ev_tups, ev_lsts, evIs_nil, evIs_cons, evIs_star, isb_tt, isb_tf, isb_ft, isb_ff, ev_bin, ev_neg, ev_not, ev_and, ev_or, ev_cmp, ev_isn, ev_notn, ev_inn, ev_nin, ev_iteE, ev_tup, ev_lst, ev_ix, ev_sl, ev_call, ev_callk, ev_prim, ev_isi, ev_meth, evEs_nil, evEs_cons, evEo_none, evEo_some, evSs_cons, evSs_nil, es_ite, es_asg, es_setix, es_ret, es_retn, es_expr, es_pass, es_brk, es_whl, negD, notD, isn_non, isn_int, isn_bl, isn_str, isn_tup, isn_lst, isn_ref, notn_non, notn_int, notn_bl, notn_str, notn_tup, notn_lst, notn_ref, ixD, loD, rtD, nxD, setD, List.getElem?_cons_zero, List.getElem?_cons_succ, Option.join_some, b_add, b_sub, c_lt, c_le, c_gt, c_ge, c_eqi, c_nei, p_abs, p_int, p_max, p_min, put_0, put_s, put_tp, puts_nil, puts_cons, Option.map_some, Option.bind_some, fill_nil, fill_no, fill_so, ix_tup, ix_lst, atI_nat, live_non, live_int, live_bl, live_str, live_tup, live_lst, live_scr, kd_int_non, kd_int_bl, kd_int_int, kd_int_str, kd_int_tup, kd_int_lst, kd_int_ref, kd_int_scr, kd_bool_non, kd_bool_bl, kd_bool_int, kd_bool_str, kd_bool_tup, kd_bool_lst, kd_bool_ref, kd_bool_scr, kd_str_non, kd_str_bl, kd_str_int, kd_str_str, kd_str_tup, kd_str_lst, kd_str_ref, kd_str_scr, kd_list_non, kd_list_bl, kd_list_int, kd_list_str, kd_list_tup, kd_list_lst, kd_list_ref, kd_list_scr, kd_tuple_non, kd_tuple_bl, kd_tuple_int, kd_tuple_str, kd_tuple_tup, kd_tuple_lst, kd_tuple_ref, kd_tuple_scr, Sn.guard, if_true, if_false, Bool.not_true, Bool.not_false, decide_eq_true_eq, Bool.not_eq_true', decide_eq_false_iff_not, Bool.true_eq_false, Bool.false_eq_true, if_true, if_false, newT_of, newL_f, b_mod, b_fdiv, b_mul, b_pow, p_len2, p_len3, eq_self, and_self, decide_true, decide_false, reduceIte, p_reprB, c_ne_shownB, c_eq_shownB, c_eqB, c_neB, b_rep, List.replicate, List.flatten_cons, List.flatten_nil, List.cons_append, List.nil_append, List.set_cons_zero, List.set_cons_succ, this]
include hM in
theorem s_are_some {d : D} {xs : List D} {lo hi : Int} (hd : LV M d xs) (h1 : lo ≤ (xs.length : Nat)) (h2 : ((xs.length : Nat) : Int) ≤ hi) : callD n d_are_some [d, .int lo, .int hi] M = .ok (.bl true) M := by
  have f1 := hd.live
  have f2 := hd.kind
  have f3 := hd.len (m := false)
  refine call_to ⟨rfl, by decide⟩ ?_ rfl hM rfl
  simp (dsimp := false) (disch := first | assumption | exact Nat.le_of_ble_eq_true rfl | exact MP.loc (by assumption) rfl | omega) only [bnd_ok, bnd_no, turn_nx, turn_bk, turn_rt, ofO_some, seqR_nx, seqR_rt, seqR_bk, pick_t, pick_f, pick_d, pick_nd, pick_b, isB_b, ev_var, ev_int, ev_str, ev_bl, ev_non, ev_gint, ev_gcon, ev_rev, ev_isb, ev_tups, ev_lsts, evIs_nil, evIs_cons, evIs_star, isb_tt, isb_tf, isb_ft, isb_ff, ev_bin, ev_neg, ev_not, ev_and, ev_or, ev_cmp, ev_isn, ev_notn, ev_inn, ev_nin, ev_iteE, ev_tup, ev_lst, ev_ix, ev_sl, ev_call, ev_callk, ev_prim, ev_isi, ev_meth, evEs_nil, evEs_cons, evEo_none, evEo_some, evSs_cons, evSs_nil, es_ite, es_asg, es_setix, es_ret, es_retn, es_expr, es_pass, es_brk, es_whl, negD, notD, isn_non, isn_int, isn_bl, isn_str, isn_tup, isn_lst, isn_ref, notn_non, notn_int, notn_bl, notn_str, notn_tup, notn_lst, notn_ref, ixD, loD, rtD, nxD, setD, List.getElem?_cons_zero, List.getElem?_cons_succ, Option.join_some, b_add, b_sub, c_lt, c_le, c_gt, c_ge, c_eqi, c_nei, p_abs, p_int, p_max, p_min, put_0, put_s, put_tp, puts_nil, puts_cons, Option.map_some, Option.bind_some, fill_nil, fill_no, fill_so, ix_tup, ix_lst, atI_nat, live_non, live_int, live_bl, live_str, live_tup, live_lst, live_scr, kd_int_non, kd_int_bl, kd_int_int, kd_int_str, kd_int_tup, kd_int_lst, kd_int_ref, kd_int_scr, kd_bool_non, kd_bool_bl, kd_bool_int, kd_bool_str, kd_bool_tup, kd_bool_lst, kd_bool_ref, kd_bool_scr, kd_str_non, kd_str_bl, kd_str_int, kd_str_str, kd_str_tup, kd_str_lst, kd_str_ref, kd_str_scr, kd_list_non, kd_list_bl, kd_list_int, kd_list_str, kd_list_tup, kd_list_lst, kd_list_ref, kd_list_scr, kd_tuple_non, kd_tuple_bl, kd_tuple_int, kd_tuple_str, kd_tuple_tup, kd_tuple_lst, kd_tuple_ref, kd_tuple_scr, Sn.guard, if_true, if_false, Bool.not_true, Bool.not_false, decide_eq_true_eq, Bool.not_eq_true', decide_eq_false_iff_not, Bool.true_eq_false, Bool.false_eq_true, if_true, if_false, newT_of, newL_f, b_mod, b_fdiv, b_mul, b_pow, p_len2, p_len3, eq_self, and_self, decide_true, decide_false, reduceIte, p_reprB, c_ne_shownB, c_eq_shownB, c_eqB, c_neB, b_rep, List.replicate, List.flatten_cons, List.flatten_nil, List.cons_append, List.nil_append, List.set_cons_zero, List.set_cons_succ, c_neb, c_eqb, bne_self_eq_false, beq_self_eq_true, ev_chain, ifB_t, ifB_f, ifB_d, ifB_nd, sl_nf, sl_t3, p_len_scr, p_max3, p_min3, ix_pr0, ix_pr1, put_pr, pr_l0, pr_l1, c_ne_pr, ix_nf0, ix_nf1, ix_nf2, put_nf, p_len_nf, kind_nf, live_nf, isn_nf, notn_nf, kind_nf_int, kind_nf_bool, kind_nf_list, kind_nf_str, nf_l0, nf_l1, ix_qf0, ix_qf1, put_qf, kind_qf, live_qf, isn_qf, notn_qf, p_len_qf, c_eq_nf, c_ne_nf, c_eq_qf, c_ne_qf, f1, f2, f3, h1, h2]
include hn hM in
theorem s_stack_fault {d : D} {l : List (G × G)} {H : Nat} (hd : LV M d (l.map sh)) (hG : Good H l) (hH : H ≤ 8000) (h1 : 1 ≤ l.length) (h2 : l.length ≤ 6) : callD n d_stack_fault [d] M = .ok (.tup []) M := by
  have hc : evE n (.comp false [1] (.call d_is_sheet_value (.cons (.var 1) .nil)) (.nm 1) (.of (.var 0)) .none) [some d, none] M = .ok (.lst (List.replicate l.length (.bl true))) M := by
    have := comp_map (n := n) (M := M) (env := [some d, none]) (own := [1]) (elt := .call d_is_sheet_value (.cons (.var 1) .nil)) (tg := .nm 1) (it := .of (.var 0)) (w := ⟨l.map sh, refsOf d⟩) (fun _ => .bl true) (it_of (d := d) (by simp (dsimp := false) (disch := first | assumption | exact Nat.le_of_ble_eq_true rfl | exact MP.loc (by assumption) rfl | omega) only [bnd_ok, bnd_no, turn_nx, turn_bk, turn_rt, ofO_some, seqR_nx, seqR_rt, seqR_bk, pick_t, pick_f, pick_d, pick_nd, pick_b, isB_b, ev_var, ev_int, ev_str, ev_bl, ev_non, ev_gint, ev_gcon, ev_rev, ev_isb, ev_tups, ev_lsts, evIs_nil, evIs_cons, evIs_star, isb_tt, isb_tf, isb_ft, isb_ff, ev_bin, ev_neg, ev_not, ev_and, ev_or, ev_cmp, ev_isn, ev_notn, ev_inn, ev_nin, ev_iteE, ev_tup, ev_lst, ev_ix, ev_sl, ev_call, ev_callk, ev_prim, ev_isi, ev_meth, evEs_nil, evEs_cons, evEo_none, evEo_some, evSs_cons, evSs_nil, es_ite, es_asg, es_setix, es_ret, es_retn, es_expr, es_pass, es_brk, es_whl, negD, notD, isn_non, isn_int, isn_bl, isn_str, isn_tup, isn_lst, isn_ref, notn_non, notn_int, notn_bl, notn_str, notn_tup, notn_lst, notn_ref, ixD, loD, rtD, nxD, setD, List.getElem?_cons_zero, List.getElem?_cons_succ, Option.join_some, b_add, b_sub, c_lt, c_le, c_gt, c_ge, c_eqi, c_nei, p_abs, p_int, p_max, p_min, put_0, put_s, put_tp, puts_nil, puts_cons, Option.map_some, Option.bind_some, fill_nil, fill_no, fill_so, ix_tup, ix_lst, atI_nat, live_non, live_int, live_bl, live_str, live_tup, live_lst, live_scr, kd_int_non, kd_int_bl, kd_int_int, kd_int_str, kd_int_tup, kd_int_lst, kd_int_ref, kd_int_scr, kd_bool_non, kd_bool_bl, kd_bool_int, kd_bool_str, kd_bool_tup, kd_bool_lst, kd_bool_ref, kd_bool_scr, kd_str_non, kd_str_bl, kd_str_int, kd_str_str, kd_str_tup, kd_str_lst, kd_str_ref, kd_str_scr, kd_list_non, kd_list_bl, kd_list_int, kd_list_str, kd_list_tup, kd_list_lst, kd_list_ref, kd_list_scr, kd_tuple_non, kd_tuple_bl, kd_tuple_int, kd_tuple_str, kd_tuple_tup, kd_tuple_lst, kd_tuple_ref, kd_tuple_scr, Sn.guard, if_true, if_false, Bool.not_true, Bool.not_false, decide_eq_true_eq, Bool.not_eq_true', decide_eq_false_iff_not, Bool.true_eq_false, Bool.false_eq_true, if_true, if_false, newT_of, newL_f, b_mod, b_fdiv, b_mul, b_pow, p_len2, p_len3, eq_self, and_self, decide_true, decide_false, reduceIte, p_reprB, c_ne_shownB, c_eq_shownB, c_eqB, c_neB, b_rep, List.replicate, List.flatten_cons, List.flatten_nil, List.cons_append, List.nil_append, List.set_cons_zero, List.set_cons_succ]) hd.itemsS) (fun x hx => by
      obtain ⟨p, hp, rfl⟩ := List.mem_map.mp hx
      have a1 := hG.ne p hp
      have a2 := hG.s p hp
      have a3 := hG.b p hp
      have e := s_is_sheet_value (n := n) (M := M) hn hM (s := p.1) (b := p.2) a1 hH hH
      have e' : callD n d_is_sheet_value [sh p] M = .ok (.bl true) M := e
      exact ⟨[some d, some (sh p)], rfl, by simp (dsimp := false) (disch := first | assumption | exact Nat.le_of_ble_eq_true rfl | exact MP.loc (by assumption) rfl | omega) only [bnd_ok, bnd_no, turn_nx, turn_bk, turn_rt, ofO_some, seqR_nx, seqR_rt, seqR_bk, pick_t, pick_f, pick_d, pick_nd, pick_b, isB_b, ev_var, ev_int, ev_str, ev_bl, ev_non, ev_gint, ev_gcon, ev_rev, ev_isb, ev_tups, ev_lsts, evIs_nil, evIs_cons, evIs_star, isb_tt, isb_tf, isb_ft, isb_ff, ev_bin, ev_neg, ev_not, ev_and, ev_or, ev_cmp, ev_isn, ev_notn, ev_inn, ev_nin, ev_iteE, ev_tup, ev_lst, ev_ix, ev_sl, ev_call, ev_callk, ev_prim, ev_isi, ev_meth, evEs_nil, evEs_cons, evEo_none, evEo_some, evSs_cons, evSs_nil, es_ite, es_asg, es_setix, es_ret, es_retn, es_expr, es_pass, es_brk, es_whl, negD, notD, isn_non, isn_int, isn_bl, isn_str, isn_tup, isn_lst, isn_ref, notn_non, notn_int, notn_bl, notn_str, notn_tup, notn_lst, notn_ref, ixD, loD, rtD, nxD, setD, List.getElem?_cons_zero, List.getElem?_cons_succ, Option.join_some, b_add, b_sub, c_lt, c_le, c_gt, c_ge, c_eqi, c_nei, p_abs, p_int, p_max, p_min, put_0, put_s, put_tp, puts_nil, puts_cons, Option.map_some, Option.bind_some, fill_nil, fill_no, fill_so, ix_tup, ix_lst, atI_nat, live_non, live_int, live_bl, live_str, live_tup, live_lst, live_scr, kd_int_non, kd_int_bl, kd_int_int, kd_int_str, kd_int_tup, kd_int_lst, kd_int_ref, kd_int_scr, kd_bool_non, kd_bool_bl, kd_bool_int, kd_bool_str, kd_bool_tup, kd_bool_lst, kd_bool_ref, kd_bool_scr, kd_str_non, kd_str_bl, kd_str_int, kd_str_str, kd_str_tup, kd_str_lst, kd_str_ref, kd_str_scr, kd_list_non, kd_list_bl, kd_list_int, kd_list_str, kd_list_tup, kd_list_lst, kd_list_ref, kd_list_scr, kd_tuple_non, kd_tuple_bl, kd_tuple_int, kd_tuple_str, kd_tuple_tup, kd_tuple_lst, kd_tuple_ref, kd_tuple_scr, Sn.guard, if_true, if_false, Bool.not_true, Bool.not_false, decide_eq_true_eq, Bool.not_eq_true', decide_eq_false_iff_not, Bool.true_eq_false, Bool.false_eq_true, if_true, if_false, newT_of, newL_f, b_mod, b_fdiv, b_mul, b_pow, p_len2, p_len3, eq_self, and_self, decide_true, decide_false, reduceIte, p_reprB, c_ne_shownB, c_eq_shownB, c_eqB, c_neB, b_rep, List.replicate, List.flatten_cons, List.flatten_nil, List.cons_append, List.nil_append, List.set_cons_zero, List.set_cons_succ, e']⟩) (size_small (by rw [List.length_map]; omega))
    rw [this]
    congr 2
    show (l.map sh).map (fun _ => D.bl true) = _
    rw [List.map_const', List.length_map]
  have hl : (l.map sh).length = l.length := List.length_map ..
  have e1 := s_are_some (n := n) (M := M) hM (lo := 1) (hi := 6) hd (by rw [hl]; omega) (by rw [hl]; omega)
  refine call_to ⟨rfl, by decide⟩ ?_ rfl hM rfl
  simp (dsimp := false) (disch := first | assumption | exact Nat.le_of_ble_eq_true rfl | exact MP.loc (by assumption) rfl | omega) only [bnd_ok, bnd_no, turn_nx, turn_bk, turn_rt, ofO_some, seqR_nx, seqR_rt, seqR_bk, pick_t, pick_f, pick_d, pick_nd, pick_b, isB_b, ev_var, ev_int, ev_str, ev_bl, ev_non, ev_gint, ev_gcon, ev_rev, ev_isb, ev_tups, ev_lsts, evIs_nil, evIs_cons, evIs_star, isb_tt, isb_tf, isb_ft, isb_ff, ev_bin, ev_neg, ev_not, ev_and, ev_or, ev_cmp, ev_isn, ev_notn, ev_inn, ev_nin, ev_iteE, ev_tup, ev_lst, ev_ix, ev_sl, ev_call, ev_callk, ev_prim, ev_isi, ev_meth, evEs_nil, evEs_cons, evEo_none, evEo_some, evSs_cons, evSs_nil, es_ite, es_asg, es_setix, es_ret, es_retn, es_expr, es_pass, es_brk, es_whl, negD, notD, isn_non, isn_int, isn_bl, isn_str, isn_tup, isn_lst, isn_ref, notn_non, notn_int, notn_bl, notn_str, notn_tup, notn_lst, notn_ref, ixD, loD, rtD, nxD, setD, List.getElem?_cons_zero, List.getElem?_cons_succ, Option.join_some, b_add, b_sub, c_lt, c_le, c_gt, c_ge, c_eqi, c_nei, p_abs, p_int, p_max, p_min, put_0, put_s, put_tp, puts_nil, puts_cons, Option.map_some, Option.bind_some, fill_nil, fill_no, fill_so, ix_tup, ix_lst, atI_nat, live_non, live_int, live_bl, live_str, live_tup, live_lst, live_scr, kd_int_non, kd_int_bl, kd_int_int, kd_int_str, kd_int_tup, kd_int_lst, kd_int_ref, kd_int_scr, kd_bool_non, kd_bool_bl, kd_bool_int, kd_bool_str, kd_bool_tup, kd_bool_lst, kd_bool_ref, kd_bool_scr, kd_str_non, kd_str_bl, kd_str_int, kd_str_str, kd_str_tup, kd_str_lst, kd_str_ref, kd_str_scr, kd_list_non, kd_list_bl, kd_list_int, kd_list_str, kd_list_tup, kd_list_lst, kd_list_ref, kd_list_scr, kd_tuple_non, kd_tuple_bl, kd_tuple_int, kd_tuple_str, kd_tuple_tup, kd_tuple_lst, kd_tuple_ref, kd_tuple_scr, Sn.guard, if_true, if_false, Bool.not_true, Bool.not_false, decide_eq_true_eq, Bool.not_eq_true', decide_eq_false_iff_not, Bool.true_eq_false, Bool.false_eq_true, if_true, if_false, newT_of, newL_f, b_mod, b_fdiv, b_mul, b_pow, p_len2, p_len3, eq_self, and_self, decide_true, decide_false, reduceIte, p_reprB, c_ne_shownB, c_eq_shownB, c_eqB, c_neB, b_rep, List.replicate, List.flatten_cons, List.flatten_nil, List.cons_append, List.nil_append, List.set_cons_zero, List.set_cons_succ, e1, hc, s_first_wrong (n := n) hM]
include hM in
theorem s_is_hole_of {s b z : G} {i j k : Nat} [Hz s i] [Hz b j] [Hz z k] (h : s ≠ 0) (l1 : i ≤ 100000) (l2 : j ≤ 100000) (l3 : k ≤ 100000) : callD n d_is_hole_of [.tup [nf s, nf b], nf z] M = .ok (.bl (decide (gp ((z - b) / s) = 1))) M := by
  have hS := nz_sq h
  have hc : 0 < gp z * gp b * (gx s * gx s + gy s * gy s) := Int.mul_pos (Int.mul_pos (gp_pos z) (gp_pos b)) hS
  have hc0 : gp z * gp b * (gx s * gx s + gy s * gy s) ≠ 0 := by omega
  have hr := zi_rest (a := ((gx z * gp b - gx b * gp z) * gx s + (gy z * gp b - gy b * gp z) * gy s) * gp s) (b := ((gy z * gp b - gy b * gp z) * gx s - (gx z * gp b - gx b * gp z) * gy s) * gp s) hc
  rw [hole_rest h] at hr
  refine call_to ⟨rfl, by decide⟩ ?_ rfl hM rfl
  by_cases h1 : (((gx z * gp b - gx b * gp z) * gx s + (gy z * gp b - gy b * gp z) * gy s) * gp s).fmod (gp z * gp b * (gx s * gx s + gy s * gy s)) = 0
  · by_cases h2 : (((gy z * gp b - gy b * gp z) * gx s - (gx z * gp b - gx b * gp z) * gy s) * gp s).fmod (gp z * gp b * (gx s * gx s + gy s * gy s)) = 0
    · have e : gp ((z - b) / s) = 1 := gp_one.mpr (hr.mpr ⟨h1, h2⟩)
      simp (dsimp := false) (disch := first | assumption | exact Nat.le_of_ble_eq_true rfl | exact MP.loc (by assumption) rfl | omega) only [bnd_ok, bnd_no, turn_nx, turn_bk, turn_rt, ofO_some, seqR_nx, seqR_rt, seqR_bk, pick_t, pick_f, pick_d, pick_nd, pick_b, isB_b, ev_var, ev_int, ev_str, ev_bl, ev_non, ev_gint, ev_gcon, ev_rev, ev_isb, ev_tups, ev_lsts, evIs_nil, evIs_cons, evIs_star, isb_tt, isb_tf, isb_ft, isb_ff, ev_bin, ev_neg, ev_not, ev_and, ev_or, ev_cmp, ev_isn, ev_notn, ev_inn, ev_nin, ev_iteE, ev_tup, ev_lst, ev_ix, ev_sl, ev_call, ev_callk, ev_prim, ev_isi, ev_meth, evEs_nil, evEs_cons, evEo_none, evEo_some, evSs_cons, evSs_nil, es_ite, es_asg, es_setix, es_ret, es_retn, es_expr, es_pass, es_brk, es_whl, negD, notD, isn_non, isn_int, isn_bl, isn_str, isn_tup, isn_lst, isn_ref, notn_non, notn_int, notn_bl, notn_str, notn_tup, notn_lst, notn_ref, ixD, loD, rtD, nxD, setD, List.getElem?_cons_zero, List.getElem?_cons_succ, Option.join_some, b_add, b_sub, c_lt, c_le, c_gt, c_ge, c_eqi, c_nei, p_abs, p_int, p_max, p_min, put_0, put_s, put_tp, puts_nil, puts_cons, Option.map_some, Option.bind_some, fill_nil, fill_no, fill_so, ix_tup, ix_lst, atI_nat, live_non, live_int, live_bl, live_str, live_tup, live_lst, live_scr, kd_int_non, kd_int_bl, kd_int_int, kd_int_str, kd_int_tup, kd_int_lst, kd_int_ref, kd_int_scr, kd_bool_non, kd_bool_bl, kd_bool_int, kd_bool_str, kd_bool_tup, kd_bool_lst, kd_bool_ref, kd_bool_scr, kd_str_non, kd_str_bl, kd_str_int, kd_str_str, kd_str_tup, kd_str_lst, kd_str_ref, kd_str_scr, kd_list_non, kd_list_bl, kd_list_int, kd_list_str, kd_list_tup, kd_list_lst, kd_list_ref, kd_list_scr, kd_tuple_non, kd_tuple_bl, kd_tuple_int, kd_tuple_str, kd_tuple_tup, kd_tuple_lst, kd_tuple_ref, kd_tuple_scr, Sn.guard, if_true, if_false, Bool.not_true, Bool.not_false, decide_eq_true_eq, Bool.not_eq_true', decide_eq_false_iff_not, Bool.true_eq_false, Bool.false_eq_true, if_true, if_false, newT_of, newL_f, b_mod, b_fdiv, b_mul, b_pow, p_len2, p_len3, eq_self, and_self, decide_true, decide_false, reduceIte, p_reprB, c_ne_shownB, c_eq_shownB, c_eqB, c_neB, b_rep, List.replicate, List.flatten_cons, List.flatten_nil, List.cons_append, List.nil_append, List.set_cons_zero, List.set_cons_succ, c_neb, c_eqb, bne_self_eq_false, beq_self_eq_true, ev_chain, ifB_t, ifB_f, ifB_d, ifB_nd, sl_nf, sl_t3, p_len_scr, p_max3, p_min3, ix_pr0, ix_pr1, put_pr, pr_l0, pr_l1, c_ne_pr, ix_nf0, ix_nf1, ix_nf2, put_nf, p_len_nf, kind_nf, live_nf, isn_nf, notn_nf, kind_nf_int, kind_nf_bool, kind_nf_list, kind_nf_str, nf_l0, nf_l1, ix_qf0, ix_qf1, put_qf, kind_qf, live_qf, isn_qf, notn_qf, p_len_qf, c_eq_nf, c_ne_nf, c_eq_qf, c_ne_qf, h1, h2, e]
    · have e : ¬ gp ((z - b) / s) = 1 := fun q => h2 (hr.mp (gp_one.mp q)).2
      have h3 : ¬ (0 : Int) = (((gy z * gp b - gy b * gp z) * gx s - (gx z * gp b - gx b * gp z) * gy s) * gp s).fmod (gp z * gp b * (gx s * gx s + gy s * gy s)) := fun q => h2 q.symm
      simp (dsimp := false) (disch := first | assumption | exact Nat.le_of_ble_eq_true rfl | exact MP.loc (by assumption) rfl | omega) only [bnd_ok, bnd_no, turn_nx, turn_bk, turn_rt, ofO_some, seqR_nx, seqR_rt, seqR_bk, pick_t, pick_f, pick_d, pick_nd, pick_b, isB_b, ev_var, ev_int, ev_str, ev_bl, ev_non, ev_gint, ev_gcon, ev_rev, ev_isb, ev_tups, ev_lsts, evIs_nil, evIs_cons, evIs_star, isb_tt, isb_tf, isb_ft, isb_ff, ev_bin, ev_neg, ev_not, ev_and, ev_or, ev_cmp, ev_isn, ev_notn, ev_inn, ev_nin, ev_iteE, ev_tup, ev_lst, ev_ix, ev_sl, ev_call, ev_callk, ev_prim, ev_isi, ev_meth, evEs_nil, evEs_cons, evEo_none, evEo_some, evSs_cons, evSs_nil, es_ite, es_asg, es_setix, es_ret, es_retn, es_expr, es_pass, es_brk, es_whl, negD, notD, isn_non, isn_int, isn_bl, isn_str, isn_tup, isn_lst, isn_ref, notn_non, notn_int, notn_bl, notn_str, notn_tup, notn_lst, notn_ref, ixD, loD, rtD, nxD, setD, List.getElem?_cons_zero, List.getElem?_cons_succ, Option.join_some, b_add, b_sub, c_lt, c_le, c_gt, c_ge, c_eqi, c_nei, p_abs, p_int, p_max, p_min, put_0, put_s, put_tp, puts_nil, puts_cons, Option.map_some, Option.bind_some, fill_nil, fill_no, fill_so, ix_tup, ix_lst, atI_nat, live_non, live_int, live_bl, live_str, live_tup, live_lst, live_scr, kd_int_non, kd_int_bl, kd_int_int, kd_int_str, kd_int_tup, kd_int_lst, kd_int_ref, kd_int_scr, kd_bool_non, kd_bool_bl, kd_bool_int, kd_bool_str, kd_bool_tup, kd_bool_lst, kd_bool_ref, kd_bool_scr, kd_str_non, kd_str_bl, kd_str_int, kd_str_str, kd_str_tup, kd_str_lst, kd_str_ref, kd_str_scr, kd_list_non, kd_list_bl, kd_list_int, kd_list_str, kd_list_tup, kd_list_lst, kd_list_ref, kd_list_scr, kd_tuple_non, kd_tuple_bl, kd_tuple_int, kd_tuple_str, kd_tuple_tup, kd_tuple_lst, kd_tuple_ref, kd_tuple_scr, Sn.guard, if_true, if_false, Bool.not_true, Bool.not_false, decide_eq_true_eq, Bool.not_eq_true', decide_eq_false_iff_not, Bool.true_eq_false, Bool.false_eq_true, if_true, if_false, newT_of, newL_f, b_mod, b_fdiv, b_mul, b_pow, p_len2, p_len3, eq_self, and_self, decide_true, decide_false, reduceIte, p_reprB, c_ne_shownB, c_eq_shownB, c_eqB, c_neB, b_rep, List.replicate, List.flatten_cons, List.flatten_nil, List.cons_append, List.nil_append, List.set_cons_zero, List.set_cons_succ, c_neb, c_eqb, bne_self_eq_false, beq_self_eq_true, ev_chain, ifB_t, ifB_f, ifB_d, ifB_nd, sl_nf, sl_t3, p_len_scr, p_max3, p_min3, ix_pr0, ix_pr1, put_pr, pr_l0, pr_l1, c_ne_pr, ix_nf0, ix_nf1, ix_nf2, put_nf, p_len_nf, kind_nf, live_nf, isn_nf, notn_nf, kind_nf_int, kind_nf_bool, kind_nf_list, kind_nf_str, nf_l0, nf_l1, ix_qf0, ix_qf1, put_qf, kind_qf, live_qf, isn_qf, notn_qf, p_len_qf, c_eq_nf, c_ne_nf, c_eq_qf, c_ne_qf, h1, h3, e]
  · have e : ¬ gp ((z - b) / s) = 1 := fun q => h1 (hr.mp (gp_one.mp q)).1
    simp (dsimp := false) (disch := first | assumption | exact Nat.le_of_ble_eq_true rfl | exact MP.loc (by assumption) rfl | omega) only [bnd_ok, bnd_no, turn_nx, turn_bk, turn_rt, ofO_some, seqR_nx, seqR_rt, seqR_bk, pick_t, pick_f, pick_d, pick_nd, pick_b, isB_b, ev_var, ev_int, ev_str, ev_bl, ev_non, ev_gint, ev_gcon, ev_rev, ev_isb, ev_tups, ev_lsts, evIs_nil, evIs_cons, evIs_star, isb_tt, isb_tf, isb_ft, isb_ff, ev_bin, ev_neg, ev_not, ev_and, ev_or, ev_cmp, ev_isn, ev_notn, ev_inn, ev_nin, ev_iteE, ev_tup, ev_lst, ev_ix, ev_sl, ev_call, ev_callk, ev_prim, ev_isi, ev_meth, evEs_nil, evEs_cons, evEo_none, evEo_some, evSs_cons, evSs_nil, es_ite, es_asg, es_setix, es_ret, es_retn, es_expr, es_pass, es_brk, es_whl, negD, notD, isn_non, isn_int, isn_bl, isn_str, isn_tup, isn_lst, isn_ref, notn_non, notn_int, notn_bl, notn_str, notn_tup, notn_lst, notn_ref, ixD, loD, rtD, nxD, setD, List.getElem?_cons_zero, List.getElem?_cons_succ, Option.join_some, b_add, b_sub, c_lt, c_le, c_gt, c_ge, c_eqi, c_nei, p_abs, p_int, p_max, p_min, put_0, put_s, put_tp, puts_nil, puts_cons, Option.map_some, Option.bind_some, fill_nil, fill_no, fill_so, ix_tup, ix_lst, atI_nat, live_non, live_int, live_bl, live_str, live_tup, live_lst, live_scr, kd_int_non, kd_int_bl, kd_int_int, kd_int_str, kd_int_tup, kd_int_lst, kd_int_ref, kd_int_scr, kd_bool_non, kd_bool_bl, kd_bool_int, kd_bool_str, kd_bool_tup, kd_bool_lst, kd_bool_ref, kd_bool_scr, kd_str_non, kd_str_bl, kd_str_int, kd_str_str, kd_str_tup, kd_str_lst, kd_str_ref, kd_str_scr, kd_list_non, kd_list_bl, kd_list_int, kd_list_str, kd_list_tup, kd_list_lst, kd_list_ref, kd_list_scr, kd_tuple_non, kd_tuple_bl, kd_tuple_int, kd_tuple_str, kd_tuple_tup, kd_tuple_lst, kd_tuple_ref, kd_tuple_scr, Sn.guard, if_true, if_false, Bool.not_true, Bool.not_false, decide_eq_true_eq, Bool.not_eq_true', decide_eq_false_iff_not, Bool.true_eq_false, Bool.false_eq_true, if_true, if_false, newT_of, newL_f, b_mod, b_fdiv, b_mul, b_pow, p_len2, p_len3, eq_self, and_self, decide_true, decide_false, reduceIte, p_reprB, c_ne_shownB, c_eq_shownB, c_eqB, c_neB, b_rep, List.replicate, List.flatten_cons, List.flatten_nil, List.cons_append, List.nil_append, List.set_cons_zero, List.set_cons_succ, c_neb, c_eqb, bne_self_eq_false, beq_self_eq_true, ev_chain, ifB_t, ifB_f, ifB_d, ifB_nd, sl_nf, sl_t3, p_len_scr, p_max3, p_min3, ix_pr0, ix_pr1, put_pr, pr_l0, pr_l1, c_ne_pr, ix_nf0, ix_nf1, ix_nf2, put_nf, p_len_nf, kind_nf, live_nf, isn_nf, notn_nf, kind_nf_int, kind_nf_bool, kind_nf_list, kind_nf_str, nf_l0, nf_l1, ix_qf0, ix_qf1, put_qf, kind_qf, live_qf, isn_qf, notn_qf, p_len_qf, c_eq_nf, c_ne_nf, c_eq_qf, c_ne_qf, h1, e]
include hn hM in
theorem s_require_place {z : G} {k : Nat} [Hz z k] (l : k ≤ 8000) : callD n d_require_place [nf z] M = .ok .non M := by
  refine call_nx (env := [some (nf z)]) ⟨rfl, by decide⟩ ?_ hM rfl
  simp (dsimp := false) (disch := first | assumption | exact Nat.le_of_ble_eq_true rfl | exact MP.loc (by assumption) rfl | omega) only [bnd_ok, bnd_no, turn_nx, turn_bk, turn_rt, ofO_some, seqR_nx, seqR_rt, seqR_bk, pick_t, pick_f, pick_d, pick_nd, pick_b, isB_b, ev_var, ev_int, ev_str, ev_bl, ev_non, ev_gint, ev_gcon, ev_rev, ev_isb, ev_tups, ev_lsts, evIs_nil, evIs_cons, evIs_star, isb_tt, isb_tf, isb_ft, isb_ff, ev_bin, ev_neg, ev_not, ev_and, ev_or, ev_cmp, ev_isn, ev_notn, ev_inn, ev_nin, ev_iteE, ev_tup, ev_lst, ev_ix, ev_sl, ev_call, ev_callk, ev_prim, ev_isi, ev_meth, evEs_nil, evEs_cons, evEo_none, evEo_some, evSs_cons, evSs_nil, es_ite, es_asg, es_setix, es_ret, es_retn, es_expr, es_pass, es_brk, es_whl, negD, notD, isn_non, isn_int, isn_bl, isn_str, isn_tup, isn_lst, isn_ref, notn_non, notn_int, notn_bl, notn_str, notn_tup, notn_lst, notn_ref, ixD, loD, rtD, nxD, setD, List.getElem?_cons_zero, List.getElem?_cons_succ, Option.join_some, b_add, b_sub, c_lt, c_le, c_gt, c_ge, c_eqi, c_nei, p_abs, p_int, p_max, p_min, put_0, put_s, put_tp, puts_nil, puts_cons, Option.map_some, Option.bind_some, fill_nil, fill_no, fill_so, ix_tup, ix_lst, atI_nat, live_non, live_int, live_bl, live_str, live_tup, live_lst, live_scr, kd_int_non, kd_int_bl, kd_int_int, kd_int_str, kd_int_tup, kd_int_lst, kd_int_ref, kd_int_scr, kd_bool_non, kd_bool_bl, kd_bool_int, kd_bool_str, kd_bool_tup, kd_bool_lst, kd_bool_ref, kd_bool_scr, kd_str_non, kd_str_bl, kd_str_int, kd_str_str, kd_str_tup, kd_str_lst, kd_str_ref, kd_str_scr, kd_list_non, kd_list_bl, kd_list_int, kd_list_str, kd_list_tup, kd_list_lst, kd_list_ref, kd_list_scr, kd_tuple_non, kd_tuple_bl, kd_tuple_int, kd_tuple_str, kd_tuple_tup, kd_tuple_lst, kd_tuple_ref, kd_tuple_scr, Sn.guard, if_true, if_false, Bool.not_true, Bool.not_false, decide_eq_true_eq, Bool.not_eq_true', decide_eq_false_iff_not, Bool.true_eq_false, Bool.false_eq_true, if_true, if_false, newT_of, newL_f, b_mod, b_fdiv, b_mul, b_pow, p_len2, p_len3, eq_self, and_self, decide_true, decide_false, reduceIte, p_reprB, c_ne_shownB, c_eq_shownB, c_eqB, c_neB, b_rep, List.replicate, List.flatten_cons, List.flatten_nil, List.cons_append, List.nil_append, List.set_cons_zero, List.set_cons_succ, s_is_place_value hn hM l]
include hn hM in
theorem s_require_stack {d : D} {l : List (G × G)} {H : Nat} (hd : LV M d (l.map sh)) (hG : Good H l) (hH : H ≤ 8000) (h1 : 1 ≤ l.length) (h2 : l.length ≤ 6) : callD n d_require_stack [d] M = .ok .non M := by
  refine call_nx (env := [some d, some (.tup [])]) ⟨rfl, by decide⟩ ?_ hM rfl
  simp (dsimp := false) (disch := first | assumption | exact Nat.le_of_ble_eq_true rfl | exact MP.loc (by assumption) rfl | omega) only [bnd_ok, bnd_no, turn_nx, turn_bk, turn_rt, ofO_some, seqR_nx, seqR_rt, seqR_bk, pick_t, pick_f, pick_d, pick_nd, pick_b, isB_b, ev_var, ev_int, ev_str, ev_bl, ev_non, ev_gint, ev_gcon, ev_rev, ev_isb, ev_tups, ev_lsts, evIs_nil, evIs_cons, evIs_star, isb_tt, isb_tf, isb_ft, isb_ff, ev_bin, ev_neg, ev_not, ev_and, ev_or, ev_cmp, ev_isn, ev_notn, ev_inn, ev_nin, ev_iteE, ev_tup, ev_lst, ev_ix, ev_sl, ev_call, ev_callk, ev_prim, ev_isi, ev_meth, evEs_nil, evEs_cons, evEo_none, evEo_some, evSs_cons, evSs_nil, es_ite, es_asg, es_setix, es_ret, es_retn, es_expr, es_pass, es_brk, es_whl, negD, notD, isn_non, isn_int, isn_bl, isn_str, isn_tup, isn_lst, isn_ref, notn_non, notn_int, notn_bl, notn_str, notn_tup, notn_lst, notn_ref, ixD, loD, rtD, nxD, setD, List.getElem?_cons_zero, List.getElem?_cons_succ, Option.join_some, b_add, b_sub, c_lt, c_le, c_gt, c_ge, c_eqi, c_nei, p_abs, p_int, p_max, p_min, put_0, put_s, put_tp, puts_nil, puts_cons, Option.map_some, Option.bind_some, fill_nil, fill_no, fill_so, ix_tup, ix_lst, atI_nat, live_non, live_int, live_bl, live_str, live_tup, live_lst, live_scr, kd_int_non, kd_int_bl, kd_int_int, kd_int_str, kd_int_tup, kd_int_lst, kd_int_ref, kd_int_scr, kd_bool_non, kd_bool_bl, kd_bool_int, kd_bool_str, kd_bool_tup, kd_bool_lst, kd_bool_ref, kd_bool_scr, kd_str_non, kd_str_bl, kd_str_int, kd_str_str, kd_str_tup, kd_str_lst, kd_str_ref, kd_str_scr, kd_list_non, kd_list_bl, kd_list_int, kd_list_str, kd_list_tup, kd_list_lst, kd_list_ref, kd_list_scr, kd_tuple_non, kd_tuple_bl, kd_tuple_int, kd_tuple_str, kd_tuple_tup, kd_tuple_lst, kd_tuple_ref, kd_tuple_scr, Sn.guard, if_true, if_false, Bool.not_true, Bool.not_false, decide_eq_true_eq, Bool.not_eq_true', decide_eq_false_iff_not, Bool.true_eq_false, Bool.false_eq_true, if_true, if_false, newT_of, newL_f, b_mod, b_fdiv, b_mul, b_pow, p_len2, p_len3, eq_self, and_self, decide_true, decide_false, reduceIte, p_reprB, c_ne_shownB, c_eq_shownB, c_eqB, c_neB, b_rep, List.replicate, List.flatten_cons, List.flatten_nil, List.cons_append, List.nil_append, List.set_cons_zero, List.set_cons_succ, s_stack_fault hn hM hd hG hH h1 h2]
include hM in
theorem s_is_in {s b z : G} {i j k : Nat} [Hz s i] [Hz b j] [Hz z k] (h : s ≠ 0) (l1 : i ≤ 100000) (l2 : j ≤ 100000) (l3 : k ≤ 100000) : callD n d_is_in [.tup [nf s, nf b], nf z] M = .ok (.bl (decide (gp ((z - b) / s) = 1))) M := by
  refine call_to ⟨rfl, by decide⟩ ?_ rfl hM rfl
  simp (dsimp := false) (disch := first | assumption | exact Nat.le_of_ble_eq_true rfl | exact MP.loc (by assumption) rfl | omega) only [bnd_ok, bnd_no, turn_nx, turn_bk, turn_rt, ofO_some, seqR_nx, seqR_rt, seqR_bk, pick_t, pick_f, pick_d, pick_nd, pick_b, isB_b, ev_var, ev_int, ev_str, ev_bl, ev_non, ev_gint, ev_gcon, ev_rev, ev_isb, ev_tups, ev_lsts, evIs_nil, evIs_cons, evIs_star, isb_tt, isb_tf, isb_ft, isb_ff, ev_bin, ev_neg, ev_not, ev_and, ev_or, ev_cmp, ev_isn, ev_notn, ev_inn, ev_nin, ev_iteE, ev_tup, ev_lst, ev_ix, ev_sl, ev_call, ev_callk, ev_prim, ev_isi, ev_meth, evEs_nil, evEs_cons, evEo_none, evEo_some, evSs_cons, evSs_nil, es_ite, es_asg, es_setix, es_ret, es_retn, es_expr, es_pass, es_brk, es_whl, negD, notD, isn_non, isn_int, isn_bl, isn_str, isn_tup, isn_lst, isn_ref, notn_non, notn_int, notn_bl, notn_str, notn_tup, notn_lst, notn_ref, ixD, loD, rtD, nxD, setD, List.getElem?_cons_zero, List.getElem?_cons_succ, Option.join_some, b_add, b_sub, c_lt, c_le, c_gt, c_ge, c_eqi, c_nei, p_abs, p_int, p_max, p_min, put_0, put_s, put_tp, puts_nil, puts_cons, Option.map_some, Option.bind_some, fill_nil, fill_no, fill_so, ix_tup, ix_lst, atI_nat, live_non, live_int, live_bl, live_str, live_tup, live_lst, live_scr, kd_int_non, kd_int_bl, kd_int_int, kd_int_str, kd_int_tup, kd_int_lst, kd_int_ref, kd_int_scr, kd_bool_non, kd_bool_bl, kd_bool_int, kd_bool_str, kd_bool_tup, kd_bool_lst, kd_bool_ref, kd_bool_scr, kd_str_non, kd_str_bl, kd_str_int, kd_str_str, kd_str_tup, kd_str_lst, kd_str_ref, kd_str_scr, kd_list_non, kd_list_bl, kd_list_int, kd_list_str, kd_list_tup, kd_list_lst, kd_list_ref, kd_list_scr, kd_tuple_non, kd_tuple_bl, kd_tuple_int, kd_tuple_str, kd_tuple_tup, kd_tuple_lst, kd_tuple_ref, kd_tuple_scr, Sn.guard, if_true, if_false, Bool.not_true, Bool.not_false, decide_eq_true_eq, Bool.not_eq_true', decide_eq_false_iff_not, Bool.true_eq_false, Bool.false_eq_true, if_true, if_false, newT_of, newL_f, b_mod, b_fdiv, b_mul, b_pow, p_len2, p_len3, eq_self, and_self, decide_true, decide_false, reduceIte, p_reprB, c_ne_shownB, c_eq_shownB, c_eqB, c_neB, b_rep, List.replicate, List.flatten_cons, List.flatten_nil, List.cons_append, List.nil_append, List.set_cons_zero, List.set_cons_succ, s_is_hole_of (n := n)]
include hn hM in
theorem s_open_at {d : D} {l : List (G × G)} {z : G} {H k : Nat} [hz : Hz z k] (hd : LV M d (l.map sh)) (hG : Good H l) (hH : H ≤ 8000) (hk : k ≤ 8000) (h1 : 1 ≤ l.length) (h2 : l.length ≤ 6) : callD n d_open_at [d, nf z] M = .ok (.ref M.length) (M ++ [some (natD (opens l z))]) := by
  have hl : (l.map sh).length = l.length := List.length_map ..
  have hc : evE n (.comp true [2, 3] (.var 2) (.tp [(.nm 2), (.nm 3)]) (.enum (.var 0)) (.some (.call d_is_in (.cons (.var 3) (.cons (.var 1) .nil))))) [some d, some (nf z), none, none] M = .ok (.ref M.length) (M ++ [some (natD (opens l z))]) := by
    have := comp_enum (n := n) (m := true) (M := M) (M1 := M) (env := [some d, some (nf z), none, none]) (own := [2, 3]) (elt := .var 2) (c := .call d_is_in (.cons (.var 3) (.cons (.var 1) .nil))) (tg := .tp [(.nm 2), (.nm 3)]) (it := .enum (.var 0)) (xs := l.map sh) (rs := refsOf d) (isOpen l z) (it_enum (d := d) (by rw [ev_var]; rfl) hd.itemsL) (fun i y hy => by
      rw [List.getElem?_map] at hy
      obtain ⟨p, hp, rfl⟩ := Option.map_eq_some_iff.mp hy
      have hm := List.mem_of_getElem? hp
      have a1 := hG.ne p hm
      have a2 := hG.s p hm
      have a3 := hG.b p hm
      have e : callD n d_is_in [sh p, nf z] M = .ok (.bl (decide (gp ((z - p.2) / p.1) = 1))) M := s_is_in (n := n) hM a1 (by omega) (by omega) (by omega)
      refine ⟨[some d, some (nf z), some (.int ((i : Nat) : Int)), some (sh p)], rfl, ?_, by rw [ev_var]; rfl⟩
      rw [isOpen_at hp]
      simp (dsimp := false) (disch := first | assumption | exact Nat.le_of_ble_eq_true rfl | exact MP.loc (by assumption) rfl | omega) only [bnd_ok, bnd_no, turn_nx, turn_bk, turn_rt, ofO_some, seqR_nx, seqR_rt, seqR_bk, pick_t, pick_f, pick_d, pick_nd, pick_b, isB_b, ev_var, ev_int, ev_str, ev_bl, ev_non, ev_gint, ev_gcon, ev_rev, ev_isb, ev_tups, ev_lsts, evIs_nil, evIs_cons, evIs_star, isb_tt, isb_tf, isb_ft, isb_ff, ev_bin, ev_neg, ev_not, ev_and, ev_or, ev_cmp, ev_isn, ev_notn, ev_inn, ev_nin, ev_iteE, ev_tup, ev_lst, ev_ix, ev_sl, ev_call, ev_callk, ev_prim, ev_isi, ev_meth, evEs_nil, evEs_cons, evEo_none, evEo_some, evSs_cons, evSs_nil, es_ite, es_asg, es_setix, es_ret, es_retn, es_expr, es_pass, es_brk, es_whl, negD, notD, isn_non, isn_int, isn_bl, isn_str, isn_tup, isn_lst, isn_ref, notn_non, notn_int, notn_bl, notn_str, notn_tup, notn_lst, notn_ref, ixD, loD, rtD, nxD, setD, List.getElem?_cons_zero, List.getElem?_cons_succ, Option.join_some, b_add, b_sub, c_lt, c_le, c_gt, c_ge, c_eqi, c_nei, p_abs, p_int, p_max, p_min, put_0, put_s, put_tp, puts_nil, puts_cons, Option.map_some, Option.bind_some, fill_nil, fill_no, fill_so, ix_tup, ix_lst, atI_nat, live_non, live_int, live_bl, live_str, live_tup, live_lst, live_scr, kd_int_non, kd_int_bl, kd_int_int, kd_int_str, kd_int_tup, kd_int_lst, kd_int_ref, kd_int_scr, kd_bool_non, kd_bool_bl, kd_bool_int, kd_bool_str, kd_bool_tup, kd_bool_lst, kd_bool_ref, kd_bool_scr, kd_str_non, kd_str_bl, kd_str_int, kd_str_str, kd_str_tup, kd_str_lst, kd_str_ref, kd_str_scr, kd_list_non, kd_list_bl, kd_list_int, kd_list_str, kd_list_tup, kd_list_lst, kd_list_ref, kd_list_scr, kd_tuple_non, kd_tuple_bl, kd_tuple_int, kd_tuple_str, kd_tuple_tup, kd_tuple_lst, kd_tuple_ref, kd_tuple_scr, Sn.guard, if_true, if_false, Bool.not_true, Bool.not_false, decide_eq_true_eq, Bool.not_eq_true', decide_eq_false_iff_not, Bool.true_eq_false, Bool.false_eq_true, if_true, if_false, newT_of, newL_f, b_mod, b_fdiv, b_mul, b_pow, p_len2, p_len3, eq_self, and_self, decide_true, decide_false, reduceIte, p_reprB, c_ne_shownB, c_eq_shownB, c_eqB, c_neB, b_rep, List.replicate, List.flatten_cons, List.flatten_nil, List.cons_append, List.nil_append, List.set_cons_zero, List.set_cons_succ, e]) (size_small (by rw [hl]; omega))
    rw [this, newL_t (size_small (by
      have := opens_len (l := l) (z := z)
      rw [hl]
      show (natD (opens l z)).length ≤ _
      unfold natD
      rw [List.length_map]; omega)), hl]
    rfl
  refine call_keeps ⟨rfl, by decide⟩ ?_
  simp (dsimp := false) (disch := first | assumption | exact Nat.le_of_ble_eq_true rfl | exact MP.loc (by assumption) rfl | omega) only [bnd_ok, bnd_no, turn_nx, turn_bk, turn_rt, ofO_some, seqR_nx, seqR_rt, seqR_bk, pick_t, pick_f, pick_d, pick_nd, pick_b, isB_b, ev_var, ev_int, ev_str, ev_bl, ev_non, ev_gint, ev_gcon, ev_rev, ev_isb, ev_tups, ev_lsts, evIs_nil, evIs_cons, evIs_star, isb_tt, isb_tf, isb_ft, isb_ff, ev_bin, ev_neg, ev_not, ev_and, ev_or, ev_cmp, ev_isn, ev_notn, ev_inn, ev_nin, ev_iteE, ev_tup, ev_lst, ev_ix, ev_sl, ev_call, ev_callk, ev_prim, ev_isi, ev_meth, evEs_nil, evEs_cons, evEo_none, evEo_some, evSs_cons, evSs_nil, es_ite, es_asg, es_setix, es_ret, es_retn, es_expr, es_pass, es_brk, es_whl, negD, notD, isn_non, isn_int, isn_bl, isn_str, isn_tup, isn_lst, isn_ref, notn_non, notn_int, notn_bl, notn_str, notn_tup, notn_lst, notn_ref, ixD, loD, rtD, nxD, setD, List.getElem?_cons_zero, List.getElem?_cons_succ, Option.join_some, b_add, b_sub, c_lt, c_le, c_gt, c_ge, c_eqi, c_nei, p_abs, p_int, p_max, p_min, put_0, put_s, put_tp, puts_nil, puts_cons, Option.map_some, Option.bind_some, fill_nil, fill_no, fill_so, ix_tup, ix_lst, atI_nat, live_non, live_int, live_bl, live_str, live_tup, live_lst, live_scr, kd_int_non, kd_int_bl, kd_int_int, kd_int_str, kd_int_tup, kd_int_lst, kd_int_ref, kd_int_scr, kd_bool_non, kd_bool_bl, kd_bool_int, kd_bool_str, kd_bool_tup, kd_bool_lst, kd_bool_ref, kd_bool_scr, kd_str_non, kd_str_bl, kd_str_int, kd_str_str, kd_str_tup, kd_str_lst, kd_str_ref, kd_str_scr, kd_list_non, kd_list_bl, kd_list_int, kd_list_str, kd_list_tup, kd_list_lst, kd_list_ref, kd_list_scr, kd_tuple_non, kd_tuple_bl, kd_tuple_int, kd_tuple_str, kd_tuple_tup, kd_tuple_lst, kd_tuple_ref, kd_tuple_scr, Sn.guard, if_true, if_false, Bool.not_true, Bool.not_false, decide_eq_true_eq, Bool.not_eq_true', decide_eq_false_iff_not, Bool.true_eq_false, Bool.false_eq_true, if_true, if_false, newT_of, newL_f, b_mod, b_fdiv, b_mul, b_pow, p_len2, p_len3, eq_self, and_self, decide_true, decide_false, reduceIte, p_reprB, c_ne_shownB, c_eq_shownB, c_eqB, c_neB, b_rep, List.replicate, List.flatten_cons, List.flatten_nil, List.cons_append, List.nil_append, List.set_cons_zero, List.set_cons_succ, s_require_stack hn hM hd hG hH h1 h2, s_require_place hn, hc]
include hM in
theorem s__law_pool {ns : List Int} {at_ : Int} (h0 : 0 ≤ at_) (h1 : at_ ≤ 63) : ∃ M', callD n d__law_pool [.scr (ns.map D.int), .int at_] M = .ok (.ref M.length) M' ∧ Bag M' M.length 0 ∧ M'.length = M.length + 1 := by
  have key : ∃ x : Int, evE n (.ite (.cmp .lt (.var 1) (.prim false .len (.cons (.var 0) .nil))) (.ix (.var 0) (.var 1)) (.int 0)) [some (.scr (ns.map D.int)), some (.int at_), none] M = .ok (.int x) M := by
    by_cases h : at_ < ((ns.map D.int).length : Nat)
    · obtain ⟨d, e1, e2⟩ := atI_mem (xs := ns.map D.int) h0 h
      obtain ⟨v, _, rfl⟩ := List.mem_map.mp e2
      refine ⟨v, ?_⟩
      simp (dsimp := false) (disch := first | assumption | exact Nat.le_of_ble_eq_true rfl | exact MP.loc (by assumption) rfl | omega) only [bnd_ok, bnd_no, turn_nx, turn_bk, turn_rt, ofO_some, seqR_nx, seqR_rt, seqR_bk, pick_t, pick_f, pick_d, pick_nd, pick_b, isB_b, ev_var, ev_int, ev_str, ev_bl, ev_non, ev_gint, ev_gcon, ev_rev, ev_isb, ev_tups, ev_lsts, evIs_nil, evIs_cons, evIs_star, isb_tt, isb_tf, isb_ft, isb_ff, ev_bin, ev_neg, ev_not, ev_and, ev_or, ev_cmp, ev_isn, ev_notn, ev_inn, ev_nin, ev_iteE, ev_tup, ev_lst, ev_ix, ev_sl, ev_call, ev_callk, ev_prim, ev_isi, ev_meth, evEs_nil, evEs_cons, evEo_none, evEo_some, evSs_cons, evSs_nil, es_ite, es_asg, es_setix, es_ret, es_retn, es_expr, es_pass, es_brk, es_whl, negD, notD, isn_non, isn_int, isn_bl, isn_str, isn_tup, isn_lst, isn_ref, notn_non, notn_int, notn_bl, notn_str, notn_tup, notn_lst, notn_ref, ixD, loD, rtD, nxD, setD, List.getElem?_cons_zero, List.getElem?_cons_succ, Option.join_some, b_add, b_sub, c_lt, c_le, c_gt, c_ge, c_eqi, c_nei, p_abs, p_int, p_max, p_min, put_0, put_s, put_tp, puts_nil, puts_cons, Option.map_some, Option.bind_some, fill_nil, fill_no, fill_so, ix_tup, ix_lst, atI_nat, live_non, live_int, live_bl, live_str, live_tup, live_lst, live_scr, kd_int_non, kd_int_bl, kd_int_int, kd_int_str, kd_int_tup, kd_int_lst, kd_int_ref, kd_int_scr, kd_bool_non, kd_bool_bl, kd_bool_int, kd_bool_str, kd_bool_tup, kd_bool_lst, kd_bool_ref, kd_bool_scr, kd_str_non, kd_str_bl, kd_str_int, kd_str_str, kd_str_tup, kd_str_lst, kd_str_ref, kd_str_scr, kd_list_non, kd_list_bl, kd_list_int, kd_list_str, kd_list_tup, kd_list_lst, kd_list_ref, kd_list_scr, kd_tuple_non, kd_tuple_bl, kd_tuple_int, kd_tuple_str, kd_tuple_tup, kd_tuple_lst, kd_tuple_ref, kd_tuple_scr, Sn.guard, if_true, if_false, Bool.not_true, Bool.not_false, decide_eq_true_eq, Bool.not_eq_true', decide_eq_false_iff_not, Bool.true_eq_false, Bool.false_eq_true, if_true, if_false, newT_of, newL_f, b_mod, b_fdiv, b_mul, b_pow, p_len2, p_len3, eq_self, and_self, decide_true, decide_false, reduceIte, p_reprB, c_ne_shownB, c_eq_shownB, c_eqB, c_neB, b_rep, List.replicate, List.flatten_cons, List.flatten_nil, List.cons_append, List.nil_append, List.set_cons_zero, List.set_cons_succ, c_neb, c_eqb, bne_self_eq_false, beq_self_eq_true, ev_chain, ifB_t, ifB_f, ifB_d, ifB_nd, sl_nf, sl_t3, p_len_scr, p_max3, p_min3, ix_pr0, ix_pr1, put_pr, pr_l0, pr_l1, c_ne_pr, ix_nf0, ix_nf1, ix_nf2, put_nf, p_len_nf, kind_nf, live_nf, isn_nf, notn_nf, kind_nf_int, kind_nf_bool, kind_nf_list, kind_nf_str, nf_l0, nf_l1, ix_qf0, ix_qf1, put_qf, kind_qf, live_qf, isn_qf, notn_qf, p_len_qf, c_eq_nf, c_ne_nf, c_eq_qf, c_ne_qf, h, ix_scr, e1]
    · refine ⟨0, ?_⟩
      simp (dsimp := false) (disch := first | assumption | exact Nat.le_of_ble_eq_true rfl | exact MP.loc (by assumption) rfl | omega) only [bnd_ok, bnd_no, turn_nx, turn_bk, turn_rt, ofO_some, seqR_nx, seqR_rt, seqR_bk, pick_t, pick_f, pick_d, pick_nd, pick_b, isB_b, ev_var, ev_int, ev_str, ev_bl, ev_non, ev_gint, ev_gcon, ev_rev, ev_isb, ev_tups, ev_lsts, evIs_nil, evIs_cons, evIs_star, isb_tt, isb_tf, isb_ft, isb_ff, ev_bin, ev_neg, ev_not, ev_and, ev_or, ev_cmp, ev_isn, ev_notn, ev_inn, ev_nin, ev_iteE, ev_tup, ev_lst, ev_ix, ev_sl, ev_call, ev_callk, ev_prim, ev_isi, ev_meth, evEs_nil, evEs_cons, evEo_none, evEo_some, evSs_cons, evSs_nil, es_ite, es_asg, es_setix, es_ret, es_retn, es_expr, es_pass, es_brk, es_whl, negD, notD, isn_non, isn_int, isn_bl, isn_str, isn_tup, isn_lst, isn_ref, notn_non, notn_int, notn_bl, notn_str, notn_tup, notn_lst, notn_ref, ixD, loD, rtD, nxD, setD, List.getElem?_cons_zero, List.getElem?_cons_succ, Option.join_some, b_add, b_sub, c_lt, c_le, c_gt, c_ge, c_eqi, c_nei, p_abs, p_int, p_max, p_min, put_0, put_s, put_tp, puts_nil, puts_cons, Option.map_some, Option.bind_some, fill_nil, fill_no, fill_so, ix_tup, ix_lst, atI_nat, live_non, live_int, live_bl, live_str, live_tup, live_lst, live_scr, kd_int_non, kd_int_bl, kd_int_int, kd_int_str, kd_int_tup, kd_int_lst, kd_int_ref, kd_int_scr, kd_bool_non, kd_bool_bl, kd_bool_int, kd_bool_str, kd_bool_tup, kd_bool_lst, kd_bool_ref, kd_bool_scr, kd_str_non, kd_str_bl, kd_str_int, kd_str_str, kd_str_tup, kd_str_lst, kd_str_ref, kd_str_scr, kd_list_non, kd_list_bl, kd_list_int, kd_list_str, kd_list_tup, kd_list_lst, kd_list_ref, kd_list_scr, kd_tuple_non, kd_tuple_bl, kd_tuple_int, kd_tuple_str, kd_tuple_tup, kd_tuple_lst, kd_tuple_ref, kd_tuple_scr, Sn.guard, if_true, if_false, Bool.not_true, Bool.not_false, decide_eq_true_eq, Bool.not_eq_true', decide_eq_false_iff_not, Bool.true_eq_false, Bool.false_eq_true, if_true, if_false, newT_of, newL_f, b_mod, b_fdiv, b_mul, b_pow, p_len2, p_len3, eq_self, and_self, decide_true, decide_false, reduceIte, p_reprB, c_ne_shownB, c_eq_shownB, c_eqB, c_neB, b_rep, List.replicate, List.flatten_cons, List.flatten_nil, List.cons_append, List.nil_append, List.set_cons_zero, List.set_cons_succ, c_neb, c_eqb, bne_self_eq_false, beq_self_eq_true, ev_chain, ifB_t, ifB_f, ifB_d, ifB_nd, sl_nf, sl_t3, p_len_scr, p_max3, p_min3, ix_pr0, ix_pr1, put_pr, pr_l0, pr_l1, c_ne_pr, ix_nf0, ix_nf1, ix_nf2, put_nf, p_len_nf, kind_nf, live_nf, isn_nf, notn_nf, kind_nf_int, kind_nf_bool, kind_nf_list, kind_nf_str, nf_l0, nf_l1, ix_qf0, ix_qf1, put_qf, kind_qf, live_qf, isn_qf, notn_qf, p_len_qf, c_eq_nf, c_ne_nf, c_eq_qf, c_ne_qf, h]
  obtain ⟨x, key⟩ := key
  have n0 : (10 : Int) ^ 21 + 117 ≠ 0 := by simp
  refine ⟨M ++ [some [.int (if ((x.natAbs : Nat) : Int) - 10 ^ 18 > 0 then ((x.natAbs : Nat) : Int) - 10 ^ 18 else 0), .int (x.fmod (10 ^ 21 + 117) + 4447 * (at_ + 1)), .int 0]], call_keeps ⟨rfl, by decide⟩ ?_, ⟨hM.push (by simp [pures, D.pure]), _, _, _, cont_push.mpr (.inr ⟨rfl, rfl⟩), ?_, ?_, by omega, by omega⟩, by simp⟩
  · rw [show fill ["_law_script", "_law_at", "_law_cell"] [.scr (ns.map D.int), .int at_] = [some (.scr (ns.map D.int)), some (.int at_), none] from rfl]
    rw [evSs_cons, es_asg, key]
    have hs : Sz (at_ + 1) 7 := ⟨by omega⟩
    simp (dsimp := false) (disch := first | assumption | exact Nat.le_of_ble_eq_true rfl | exact MP.loc (by assumption) rfl | omega) only [bnd_ok, bnd_no, turn_nx, turn_bk, turn_rt, ofO_some, seqR_nx, seqR_rt, seqR_bk, pick_t, pick_f, pick_d, pick_nd, pick_b, isB_b, ev_var, ev_int, ev_str, ev_bl, ev_non, ev_gint, ev_gcon, ev_rev, ev_isb, ev_tups, ev_lsts, evIs_nil, evIs_cons, evIs_star, isb_tt, isb_tf, isb_ft, isb_ff, ev_bin, ev_neg, ev_not, ev_and, ev_or, ev_cmp, ev_isn, ev_notn, ev_inn, ev_nin, ev_iteE, ev_tup, ev_lst, ev_ix, ev_sl, ev_call, ev_callk, ev_prim, ev_isi, ev_meth, evEs_nil, evEs_cons, evEo_none, evEo_some, evSs_cons, evSs_nil, es_ite, es_asg, es_setix, es_ret, es_retn, es_expr, es_pass, es_brk, es_whl, negD, notD, isn_non, isn_int, isn_bl, isn_str, isn_tup, isn_lst, isn_ref, notn_non, notn_int, notn_bl, notn_str, notn_tup, notn_lst, notn_ref, ixD, loD, rtD, nxD, setD, List.getElem?_cons_zero, List.getElem?_cons_succ, Option.join_some, b_add, b_sub, c_lt, c_le, c_gt, c_ge, c_eqi, c_nei, p_abs, p_int, p_max, p_min, put_0, put_s, put_tp, puts_nil, puts_cons, Option.map_some, Option.bind_some, fill_nil, fill_no, fill_so, ix_tup, ix_lst, atI_nat, live_non, live_int, live_bl, live_str, live_tup, live_lst, live_scr, kd_int_non, kd_int_bl, kd_int_int, kd_int_str, kd_int_tup, kd_int_lst, kd_int_ref, kd_int_scr, kd_bool_non, kd_bool_bl, kd_bool_int, kd_bool_str, kd_bool_tup, kd_bool_lst, kd_bool_ref, kd_bool_scr, kd_str_non, kd_str_bl, kd_str_int, kd_str_str, kd_str_tup, kd_str_lst, kd_str_ref, kd_str_scr, kd_list_non, kd_list_bl, kd_list_int, kd_list_str, kd_list_tup, kd_list_lst, kd_list_ref, kd_list_scr, kd_tuple_non, kd_tuple_bl, kd_tuple_int, kd_tuple_str, kd_tuple_tup, kd_tuple_lst, kd_tuple_ref, kd_tuple_scr, Sn.guard, if_true, if_false, Bool.not_true, Bool.not_false, decide_eq_true_eq, Bool.not_eq_true', decide_eq_false_iff_not, Bool.true_eq_false, Bool.false_eq_true, if_true, if_false, newT_of, newL_f, b_mod, b_fdiv, b_mul, b_pow, p_len2, p_len3, eq_self, and_self, decide_true, decide_false, reduceIte, p_reprB, c_ne_shownB, c_eq_shownB, c_eqB, c_neB, b_rep, List.replicate, List.flatten_cons, List.flatten_nil, List.cons_append, List.nil_append, List.set_cons_zero, List.set_cons_succ, newL_t]
  · split <;> omega
  · have h1 := Int.fmod_nonneg_of_pos x (show (0 : Int) < 10 ^ 21 + 117 by simp)
    have h2 := Int.fmod_lt_of_pos x (show (0 : Int) < 10 ^ 21 + 117 by simp)
    refine ⟨?_⟩
    omega
theorem s__law_draw {r t : Nat} (hB : Bag M r t) (ht : t < 2 ^ 60) {m : Int} {k : Nat} (hm : 0 < m) [hk : Sz m k] (l : k ≤ 8000) : ∃ v M', callD n d__law_draw [.ref r, .int m] M = .ok (.int v) M' ∧ 0 ≤ v ∧ v < m ∧ Bag M' r (t + 1) ∧ M'.length = M.length ∧ Same r M M' := by
  obtain ⟨hM, a, b, c, e, ha, hb, hc, hct⟩ := hB
  have m0 : m ≠ 0 := by omega
  by_cases ha0 : 0 < a
  · refine ⟨a.fmod m, M.set r (some [.int (a.fdiv m), .int b, .int c]), call_to ⟨rfl, by decide⟩ ?_ rfl (hM.put rfl r) (List.length_set), Int.fmod_nonneg_of_pos a hm, Int.fmod_lt_of_pos a hm, ⟨hM.put rfl r, _, _, _, cont_put e, ?_, hb, hc, by omega⟩, List.length_set, Same.set⟩
    · simp (dsimp := false) (disch := first | assumption | exact Nat.le_of_ble_eq_true rfl | exact MP.loc (by assumption) rfl | omega) only [bnd_ok, bnd_no, turn_nx, turn_bk, turn_rt, ofO_some, seqR_nx, seqR_rt, seqR_bk, pick_t, pick_f, pick_d, pick_nd, pick_b, isB_b, ev_var, ev_int, ev_str, ev_bl, ev_non, ev_gint, ev_gcon, ev_rev, ev_isb, ev_tups, ev_lsts, evIs_nil, evIs_cons, evIs_star, isb_tt, isb_tf, isb_ft, isb_ff, ev_bin, ev_neg, ev_not, ev_and, ev_or, ev_cmp, ev_isn, ev_notn, ev_inn, ev_nin, ev_iteE, ev_tup, ev_lst, ev_ix, ev_sl, ev_call, ev_callk, ev_prim, ev_isi, ev_meth, evEs_nil, evEs_cons, evEo_none, evEo_some, evSs_cons, evSs_nil, es_ite, es_asg, es_setix, es_ret, es_retn, es_expr, es_pass, es_brk, es_whl, negD, notD, isn_non, isn_int, isn_bl, isn_str, isn_tup, isn_lst, isn_ref, notn_non, notn_int, notn_bl, notn_str, notn_tup, notn_lst, notn_ref, ixD, loD, rtD, nxD, setD, List.getElem?_cons_zero, List.getElem?_cons_succ, Option.join_some, b_add, b_sub, c_lt, c_le, c_gt, c_ge, c_eqi, c_nei, p_abs, p_int, p_max, p_min, put_0, put_s, put_tp, puts_nil, puts_cons, Option.map_some, Option.bind_some, fill_nil, fill_no, fill_so, ix_tup, ix_lst, atI_nat, live_non, live_int, live_bl, live_str, live_tup, live_lst, live_scr, kd_int_non, kd_int_bl, kd_int_int, kd_int_str, kd_int_tup, kd_int_lst, kd_int_ref, kd_int_scr, kd_bool_non, kd_bool_bl, kd_bool_int, kd_bool_str, kd_bool_tup, kd_bool_lst, kd_bool_ref, kd_bool_scr, kd_str_non, kd_str_bl, kd_str_int, kd_str_str, kd_str_tup, kd_str_lst, kd_str_ref, kd_str_scr, kd_list_non, kd_list_bl, kd_list_int, kd_list_str, kd_list_tup, kd_list_lst, kd_list_ref, kd_list_scr, kd_tuple_non, kd_tuple_bl, kd_tuple_int, kd_tuple_str, kd_tuple_tup, kd_tuple_lst, kd_tuple_ref, kd_tuple_scr, Sn.guard, if_true, if_false, Bool.not_true, Bool.not_false, decide_eq_true_eq, Bool.not_eq_true', decide_eq_false_iff_not, Bool.true_eq_false, Bool.false_eq_true, if_true, if_false, newT_of, newL_f, b_mod, b_fdiv, b_mul, b_pow, p_len2, p_len3, eq_self, and_self, decide_true, decide_false, reduceIte, p_reprB, c_ne_shownB, c_eq_shownB, c_eqB, c_neB, b_rep, List.replicate, List.flatten_cons, List.flatten_nil, List.cons_append, List.nil_append, List.set_cons_zero, List.set_cons_succ, ix_r0 e, ha0, st_r0 e]
    · rw [Int.fdiv_eq_ediv_of_nonneg _ (by omega)]
      exact Int.ediv_nonneg ha (by omega)
  · have hs : Sz c 60 := ⟨by omega⟩
    have hs1 : Sz (c + 1) 61 := ⟨by omega⟩
    have e1 : Mem.cont (M.set r (some [.int a, .int b, .int (c + 1)])) r = some [.int a, .int b, .int (c + 1)] := cont_put e
    have n1 : (10 : Int) ^ 44 + 31 ≠ 0 := by simp
    have n2 : (10 : Int) ^ 50 + 151 ≠ 0 := by simp
    have n3 : (131071 : Int) ≠ 0 := by decide
    have z1 : Sz (((b + 524287 * (c + 1)) ^ 3).fmod (10 ^ 44 + 31)) 220 := Sz.nat (Int.fmod_nonneg_of_pos _ (by simp)) (Int.fmod_lt_of_pos _ (by simp)) ⟨by simp⟩
    refine ⟨(Int.fdiv (Int.fmod ((Int.fmod ((b + 524287 * (c + 1)) ^ 3) (10 ^ 44 + 31) + 6700417 * (c + 1)) ^ 3) (10 ^ 50 + 151)) 131071).fmod m, M.set r (some [.int a, .int b, .int (c + 1)]), call_to ⟨rfl, by decide⟩ ?_ rfl (hM.put rfl r) (List.length_set), Int.fmod_nonneg_of_pos _ hm, Int.fmod_lt_of_pos _ hm, ⟨hM.put rfl r, _, _, _, e1, ha, hb, by omega, by omega⟩, List.length_set, Same.set⟩
    · simp (dsimp := false) (disch := first | assumption | exact Nat.le_of_ble_eq_true rfl | exact MP.loc (by assumption) rfl | omega) only [bnd_ok, bnd_no, turn_nx, turn_bk, turn_rt, ofO_some, seqR_nx, seqR_rt, seqR_bk, pick_t, pick_f, pick_d, pick_nd, pick_b, isB_b, ev_var, ev_int, ev_str, ev_bl, ev_non, ev_gint, ev_gcon, ev_rev, ev_isb, ev_tups, ev_lsts, evIs_nil, evIs_cons, evIs_star, isb_tt, isb_tf, isb_ft, isb_ff, ev_bin, ev_neg, ev_not, ev_and, ev_or, ev_cmp, ev_isn, ev_notn, ev_inn, ev_nin, ev_iteE, ev_tup, ev_lst, ev_ix, ev_sl, ev_call, ev_callk, ev_prim, ev_isi, ev_meth, evEs_nil, evEs_cons, evEo_none, evEo_some, evSs_cons, evSs_nil, es_ite, es_asg, es_setix, es_ret, es_retn, es_expr, es_pass, es_brk, es_whl, negD, notD, isn_non, isn_int, isn_bl, isn_str, isn_tup, isn_lst, isn_ref, notn_non, notn_int, notn_bl, notn_str, notn_tup, notn_lst, notn_ref, ixD, loD, rtD, nxD, setD, List.getElem?_cons_zero, List.getElem?_cons_succ, Option.join_some, b_add, b_sub, c_lt, c_le, c_gt, c_ge, c_eqi, c_nei, p_abs, p_int, p_max, p_min, put_0, put_s, put_tp, puts_nil, puts_cons, Option.map_some, Option.bind_some, fill_nil, fill_no, fill_so, ix_tup, ix_lst, atI_nat, live_non, live_int, live_bl, live_str, live_tup, live_lst, live_scr, kd_int_non, kd_int_bl, kd_int_int, kd_int_str, kd_int_tup, kd_int_lst, kd_int_ref, kd_int_scr, kd_bool_non, kd_bool_bl, kd_bool_int, kd_bool_str, kd_bool_tup, kd_bool_lst, kd_bool_ref, kd_bool_scr, kd_str_non, kd_str_bl, kd_str_int, kd_str_str, kd_str_tup, kd_str_lst, kd_str_ref, kd_str_scr, kd_list_non, kd_list_bl, kd_list_int, kd_list_str, kd_list_tup, kd_list_lst, kd_list_ref, kd_list_scr, kd_tuple_non, kd_tuple_bl, kd_tuple_int, kd_tuple_str, kd_tuple_tup, kd_tuple_lst, kd_tuple_ref, kd_tuple_scr, Sn.guard, if_true, if_false, Bool.not_true, Bool.not_false, decide_eq_true_eq, Bool.not_eq_true', decide_eq_false_iff_not, Bool.true_eq_false, Bool.false_eq_true, if_true, if_false, newT_of, newL_f, b_mod, b_fdiv, b_mul, b_pow, p_len2, p_len3, eq_self, and_self, decide_true, decide_false, reduceIte, p_reprB, c_ne_shownB, c_eq_shownB, c_eqB, c_neB, b_rep, List.replicate, List.flatten_cons, List.flatten_nil, List.cons_append, List.nil_append, List.set_cons_zero, List.set_cons_succ, ix_r0 e, ix_r1 e, ix_r2 e, ha0, st_r2 e, ix_r1 e1, ix_r2 e1]
theorem by_loop : ∀ (m x y : Nat), y < m → whileL (evE n (.cmp .gt (.var 1) (.int 0))) (evSs n (.cons (.asg (.tp [(.nm 0), (.nm 1)]) (.tup (.cons (.var 1) (.cons (.bin false .mod (.prim false .int (.cons (.var 0) .nil)) (.var 1)) .nil)))) .nil)) m [some (.int x), some (.int y)] M = .ok (.nx [some (.int (Nat.gcd x y : Nat)), some (.int 0)]) M
  | 0, _, _, h => absurd h (by omega)
  | m + 1, x, y, h => by
    rw [while_s]
    by_cases h0 : y = 0
    · subst h0
      simp (dsimp := false) (disch := first | assumption | exact Nat.le_of_ble_eq_true rfl | exact MP.loc (by assumption) rfl | omega) only [bnd_ok, bnd_no, turn_nx, turn_bk, turn_rt, ofO_some, seqR_nx, seqR_rt, seqR_bk, pick_t, pick_f, pick_d, pick_nd, pick_b, isB_b, ev_var, ev_int, ev_str, ev_bl, ev_non, ev_gint, ev_gcon, ev_rev, ev_isb, ev_tups, ev_lsts, evIs_nil, evIs_cons, evIs_star, isb_tt, isb_tf, isb_ft, isb_ff, ev_bin, ev_neg, ev_not, ev_and, ev_or, ev_cmp, ev_isn, ev_notn, ev_inn, ev_nin, ev_iteE, ev_tup, ev_lst, ev_ix, ev_sl, ev_call, ev_callk, ev_prim, ev_isi, ev_meth, evEs_nil, evEs_cons, evEo_none, evEo_some, evSs_cons, evSs_nil, es_ite, es_asg, es_setix, es_ret, es_retn, es_expr, es_pass, es_brk, es_whl, negD, notD, isn_non, isn_int, isn_bl, isn_str, isn_tup, isn_lst, isn_ref, notn_non, notn_int, notn_bl, notn_str, notn_tup, notn_lst, notn_ref, ixD, loD, rtD, nxD, setD, List.getElem?_cons_zero, List.getElem?_cons_succ, Option.join_some, b_add, b_sub, c_lt, c_le, c_gt, c_ge, c_eqi, c_nei, p_abs, p_int, p_max, p_min, put_0, put_s, put_tp, puts_nil, puts_cons, Option.map_some, Option.bind_some, fill_nil, fill_no, fill_so, ix_tup, ix_lst, atI_nat, live_non, live_int, live_bl, live_str, live_tup, live_lst, live_scr, kd_int_non, kd_int_bl, kd_int_int, kd_int_str, kd_int_tup, kd_int_lst, kd_int_ref, kd_int_scr, kd_bool_non, kd_bool_bl, kd_bool_int, kd_bool_str, kd_bool_tup, kd_bool_lst, kd_bool_ref, kd_bool_scr, kd_str_non, kd_str_bl, kd_str_int, kd_str_str, kd_str_tup, kd_str_lst, kd_str_ref, kd_str_scr, kd_list_non, kd_list_bl, kd_list_int, kd_list_str, kd_list_tup, kd_list_lst, kd_list_ref, kd_list_scr, kd_tuple_non, kd_tuple_bl, kd_tuple_int, kd_tuple_str, kd_tuple_tup, kd_tuple_lst, kd_tuple_ref, kd_tuple_scr, Sn.guard, if_true, if_false, Bool.not_true, Bool.not_false, decide_eq_true_eq, Bool.not_eq_true', decide_eq_false_iff_not, Bool.true_eq_false, Bool.false_eq_true, if_true, if_false, newT_of, newL_f, b_mod, b_fdiv, b_mul, b_pow, p_len2, p_len3, eq_self, and_self, decide_true, decide_false, reduceIte, p_reprB, c_ne_shownB, c_eq_shownB, c_eqB, c_neB, b_rep, List.replicate, List.flatten_cons, List.flatten_nil, List.cons_append, List.nil_append, List.set_cons_zero, List.set_cons_succ]
      simp
    · have hy : (0 : Int) < (y : Int) := by omega
      have h1 : (y : Int) ≠ 0 := by omega
      have e : Int.fmod (x : Int) (y : Int) = ((x % y : Nat) : Int) := by
        rw [Int.fmod_eq_emod_of_nonneg _ (by omega)]; rfl
      simp (dsimp := false) (disch := first | assumption | exact Nat.le_of_ble_eq_true rfl | exact MP.loc (by assumption) rfl | omega) only [bnd_ok, bnd_no, turn_nx, turn_bk, turn_rt, ofO_some, seqR_nx, seqR_rt, seqR_bk, pick_t, pick_f, pick_d, pick_nd, pick_b, isB_b, ev_var, ev_int, ev_str, ev_bl, ev_non, ev_gint, ev_gcon, ev_rev, ev_isb, ev_tups, ev_lsts, evIs_nil, evIs_cons, evIs_star, isb_tt, isb_tf, isb_ft, isb_ff, ev_bin, ev_neg, ev_not, ev_and, ev_or, ev_cmp, ev_isn, ev_notn, ev_inn, ev_nin, ev_iteE, ev_tup, ev_lst, ev_ix, ev_sl, ev_call, ev_callk, ev_prim, ev_isi, ev_meth, evEs_nil, evEs_cons, evEo_none, evEo_some, evSs_cons, evSs_nil, es_ite, es_asg, es_setix, es_ret, es_retn, es_expr, es_pass, es_brk, es_whl, negD, notD, isn_non, isn_int, isn_bl, isn_str, isn_tup, isn_lst, isn_ref, notn_non, notn_int, notn_bl, notn_str, notn_tup, notn_lst, notn_ref, ixD, loD, rtD, nxD, setD, List.getElem?_cons_zero, List.getElem?_cons_succ, Option.join_some, b_add, b_sub, c_lt, c_le, c_gt, c_ge, c_eqi, c_nei, p_abs, p_int, p_max, p_min, put_0, put_s, put_tp, puts_nil, puts_cons, Option.map_some, Option.bind_some, fill_nil, fill_no, fill_so, ix_tup, ix_lst, atI_nat, live_non, live_int, live_bl, live_str, live_tup, live_lst, live_scr, kd_int_non, kd_int_bl, kd_int_int, kd_int_str, kd_int_tup, kd_int_lst, kd_int_ref, kd_int_scr, kd_bool_non, kd_bool_bl, kd_bool_int, kd_bool_str, kd_bool_tup, kd_bool_lst, kd_bool_ref, kd_bool_scr, kd_str_non, kd_str_bl, kd_str_int, kd_str_str, kd_str_tup, kd_str_lst, kd_str_ref, kd_str_scr, kd_list_non, kd_list_bl, kd_list_int, kd_list_str, kd_list_tup, kd_list_lst, kd_list_ref, kd_list_scr, kd_tuple_non, kd_tuple_bl, kd_tuple_int, kd_tuple_str, kd_tuple_tup, kd_tuple_lst, kd_tuple_ref, kd_tuple_scr, Sn.guard, if_true, if_false, Bool.not_true, Bool.not_false, decide_eq_true_eq, Bool.not_eq_true', decide_eq_false_iff_not, Bool.true_eq_false, Bool.false_eq_true, if_true, if_false, newT_of, newL_f, b_mod, b_fdiv, b_mul, b_pow, p_len2, p_len3, eq_self, and_self, decide_true, decide_false, reduceIte, p_reprB, c_ne_shownB, c_eq_shownB, c_eqB, c_neB, b_rep, List.replicate, List.flatten_cons, List.flatten_nil, List.cons_append, List.nil_append, List.set_cons_zero, List.set_cons_succ, hy, e]
      rw [by_loop m y (x % y) (by have := Nat.mod_lt x (show 0 < y by omega); omega)]
      rw [Nat.gcd_comm x y, Nat.gcd_rec y x, Nat.gcd_comm]
include hn hM in
theorem s__law_by {a b : Int} {k : Nat} [hb : Sz b k] (l : k ≤ 20000) : callD n d__law_by [.int a, .int b] M = .ok (.int (Int.gcd a b : Nat)) M := by
  refine call_to ⟨rfl, by decide⟩ ?_ rfl hM rfl
  simp (dsimp := false) (disch := first | assumption | exact Nat.le_of_ble_eq_true rfl | exact MP.loc (by assumption) rfl | omega) only [bnd_ok, bnd_no, turn_nx, turn_bk, turn_rt, ofO_some, seqR_nx, seqR_rt, seqR_bk, pick_t, pick_f, pick_d, pick_nd, pick_b, isB_b, ev_var, ev_int, ev_str, ev_bl, ev_non, ev_gint, ev_gcon, ev_rev, ev_isb, ev_tups, ev_lsts, evIs_nil, evIs_cons, evIs_star, isb_tt, isb_tf, isb_ft, isb_ff, ev_bin, ev_neg, ev_not, ev_and, ev_or, ev_cmp, ev_isn, ev_notn, ev_inn, ev_nin, ev_iteE, ev_tup, ev_lst, ev_ix, ev_sl, ev_call, ev_callk, ev_prim, ev_isi, ev_meth, evEs_nil, evEs_cons, evEo_none, evEo_some, evSs_cons, evSs_nil, es_ite, es_asg, es_setix, es_ret, es_retn, es_expr, es_pass, es_brk, es_whl, negD, notD, isn_non, isn_int, isn_bl, isn_str, isn_tup, isn_lst, isn_ref, notn_non, notn_int, notn_bl, notn_str, notn_tup, notn_lst, notn_ref, ixD, loD, rtD, nxD, setD, List.getElem?_cons_zero, List.getElem?_cons_succ, Option.join_some, b_add, b_sub, c_lt, c_le, c_gt, c_ge, c_eqi, c_nei, p_abs, p_int, p_max, p_min, put_0, put_s, put_tp, puts_nil, puts_cons, Option.map_some, Option.bind_some, fill_nil, fill_no, fill_so, ix_tup, ix_lst, atI_nat, live_non, live_int, live_bl, live_str, live_tup, live_lst, live_scr, kd_int_non, kd_int_bl, kd_int_int, kd_int_str, kd_int_tup, kd_int_lst, kd_int_ref, kd_int_scr, kd_bool_non, kd_bool_bl, kd_bool_int, kd_bool_str, kd_bool_tup, kd_bool_lst, kd_bool_ref, kd_bool_scr, kd_str_non, kd_str_bl, kd_str_int, kd_str_str, kd_str_tup, kd_str_lst, kd_str_ref, kd_str_scr, kd_list_non, kd_list_bl, kd_list_int, kd_list_str, kd_list_tup, kd_list_lst, kd_list_ref, kd_list_scr, kd_tuple_non, kd_tuple_bl, kd_tuple_int, kd_tuple_str, kd_tuple_tup, kd_tuple_lst, kd_tuple_ref, kd_tuple_scr, Sn.guard, if_true, if_false, Bool.not_true, Bool.not_false, decide_eq_true_eq, Bool.not_eq_true', decide_eq_false_iff_not, Bool.true_eq_false, Bool.false_eq_true, if_true, if_false, newT_of, newL_f, b_mod, b_fdiv, b_mul, b_pow, p_len2, p_len3, eq_self, and_self, decide_true, decide_false, reduceIte, p_reprB, c_ne_shownB, c_eq_shownB, c_eqB, c_neB, b_rep, List.replicate, List.flatten_cons, List.flatten_nil, List.cons_append, List.nil_append, List.set_cons_zero, List.set_cons_succ, es_whl, by_loop n a.natAbs b.natAbs (fuel_ok hn l)]
  rfl
include hn hM in
theorem s__law_spot {x y p : Int} {j k l : Nat} [hx : Sz x j] [hy : Sz y k] [hp : Sz p l] (hp0 : p ≠ 0) (h1 : k ≤ 8000) (h2 : l ≤ 8000) : callD n d__law_spot [.int x, .int y, .int p] M = .ok (nf (gz x y p)) M := by
  have d0 := dv_ne (x := x) (y := y) hp0
  have hs : Sz (dv x y p) l := hp.le (by rw [dv_abs]; exact Nat.le_of_dvd (by omega) (Int.natAbs_dvd_natAbs.mpr (by simpa using (g3_dvd (x := x) (y := y) (p := p)).2.2)))
  rw [← low_nf hp0]
  refine call_to ⟨rfl, by decide⟩ ?_ rfl hM rfl
  by_cases hn0 : p < 0
  · have e : 0 - ((Int.gcd ((Int.gcd x y : Nat) : Int) p : Nat) : Int) = dv x y p := by
      have : dv x y p = -((Int.gcd ((Int.gcd x y : Nat) : Int) p : Nat) : Int) := if_pos hn0
      omega
    simp (dsimp := false) (disch := first | assumption | exact Nat.le_of_ble_eq_true rfl | exact MP.loc (by assumption) rfl | omega) only [bnd_ok, bnd_no, turn_nx, turn_bk, turn_rt, ofO_some, seqR_nx, seqR_rt, seqR_bk, pick_t, pick_f, pick_d, pick_nd, pick_b, isB_b, ev_var, ev_int, ev_str, ev_bl, ev_non, ev_gint, ev_gcon, ev_rev, ev_isb, ev_tups, ev_lsts, evIs_nil, evIs_cons, evIs_star, isb_tt, isb_tf, isb_ft, isb_ff, ev_bin, ev_neg, ev_not, ev_and, ev_or, ev_cmp, ev_isn, ev_notn, ev_inn, ev_nin, ev_iteE, ev_tup, ev_lst, ev_ix, ev_sl, ev_call, ev_callk, ev_prim, ev_isi, ev_meth, evEs_nil, evEs_cons, evEo_none, evEo_some, evSs_cons, evSs_nil, es_ite, es_asg, es_setix, es_ret, es_retn, es_expr, es_pass, es_brk, es_whl, negD, notD, isn_non, isn_int, isn_bl, isn_str, isn_tup, isn_lst, isn_ref, notn_non, notn_int, notn_bl, notn_str, notn_tup, notn_lst, notn_ref, ixD, loD, rtD, nxD, setD, List.getElem?_cons_zero, List.getElem?_cons_succ, Option.join_some, b_add, b_sub, c_lt, c_le, c_gt, c_ge, c_eqi, c_nei, p_abs, p_int, p_max, p_min, put_0, put_s, put_tp, puts_nil, puts_cons, Option.map_some, Option.bind_some, fill_nil, fill_no, fill_so, ix_tup, ix_lst, atI_nat, live_non, live_int, live_bl, live_str, live_tup, live_lst, live_scr, kd_int_non, kd_int_bl, kd_int_int, kd_int_str, kd_int_tup, kd_int_lst, kd_int_ref, kd_int_scr, kd_bool_non, kd_bool_bl, kd_bool_int, kd_bool_str, kd_bool_tup, kd_bool_lst, kd_bool_ref, kd_bool_scr, kd_str_non, kd_str_bl, kd_str_int, kd_str_str, kd_str_tup, kd_str_lst, kd_str_ref, kd_str_scr, kd_list_non, kd_list_bl, kd_list_int, kd_list_str, kd_list_tup, kd_list_lst, kd_list_ref, kd_list_scr, kd_tuple_non, kd_tuple_bl, kd_tuple_int, kd_tuple_str, kd_tuple_tup, kd_tuple_lst, kd_tuple_ref, kd_tuple_scr, Sn.guard, if_true, if_false, Bool.not_true, Bool.not_false, decide_eq_true_eq, Bool.not_eq_true', decide_eq_false_iff_not, Bool.true_eq_false, Bool.false_eq_true, if_true, if_false, newT_of, newL_f, b_mod, b_fdiv, b_mul, b_pow, p_len2, p_len3, eq_self, and_self, decide_true, decide_false, reduceIte, p_reprB, c_ne_shownB, c_eq_shownB, c_eqB, c_neB, b_rep, List.replicate, List.flatten_cons, List.flatten_nil, List.cons_append, List.nil_append, List.set_cons_zero, List.set_cons_succ, s__law_by hn hM (a := x) (b := y) (by omega), s__law_by hn hM (b := p) (by omega), hn0, e]
    rfl
  · have e : dv x y p = ((Int.gcd ((Int.gcd x y : Nat) : Int) p : Nat) : Int) := if_neg hn0
    simp (dsimp := false) (disch := first | assumption | exact Nat.le_of_ble_eq_true rfl | exact MP.loc (by assumption) rfl | omega) only [bnd_ok, bnd_no, turn_nx, turn_bk, turn_rt, ofO_some, seqR_nx, seqR_rt, seqR_bk, pick_t, pick_f, pick_d, pick_nd, pick_b, isB_b, ev_var, ev_int, ev_str, ev_bl, ev_non, ev_gint, ev_gcon, ev_rev, ev_isb, ev_tups, ev_lsts, evIs_nil, evIs_cons, evIs_star, isb_tt, isb_tf, isb_ft, isb_ff, ev_bin, ev_neg, ev_not, ev_and, ev_or, ev_cmp, ev_isn, ev_notn, ev_inn, ev_nin, ev_iteE, ev_tup, ev_lst, ev_ix, ev_sl, ev_call, ev_callk, ev_prim, ev_isi, ev_meth, evEs_nil, evEs_cons, evEo_none, evEo_some, evSs_cons, evSs_nil, es_ite, es_asg, es_setix, es_ret, es_retn, es_expr, es_pass, es_brk, es_whl, negD, notD, isn_non, isn_int, isn_bl, isn_str, isn_tup, isn_lst, isn_ref, notn_non, notn_int, notn_bl, notn_str, notn_tup, notn_lst, notn_ref, ixD, loD, rtD, nxD, setD, List.getElem?_cons_zero, List.getElem?_cons_succ, Option.join_some, b_add, b_sub, c_lt, c_le, c_gt, c_ge, c_eqi, c_nei, p_abs, p_int, p_max, p_min, put_0, put_s, put_tp, puts_nil, puts_cons, Option.map_some, Option.bind_some, fill_nil, fill_no, fill_so, ix_tup, ix_lst, atI_nat, live_non, live_int, live_bl, live_str, live_tup, live_lst, live_scr, kd_int_non, kd_int_bl, kd_int_int, kd_int_str, kd_int_tup, kd_int_lst, kd_int_ref, kd_int_scr, kd_bool_non, kd_bool_bl, kd_bool_int, kd_bool_str, kd_bool_tup, kd_bool_lst, kd_bool_ref, kd_bool_scr, kd_str_non, kd_str_bl, kd_str_int, kd_str_str, kd_str_tup, kd_str_lst, kd_str_ref, kd_str_scr, kd_list_non, kd_list_bl, kd_list_int, kd_list_str, kd_list_tup, kd_list_lst, kd_list_ref, kd_list_scr, kd_tuple_non, kd_tuple_bl, kd_tuple_int, kd_tuple_str, kd_tuple_tup, kd_tuple_lst, kd_tuple_ref, kd_tuple_scr, Sn.guard, if_true, if_false, Bool.not_true, Bool.not_false, decide_eq_true_eq, Bool.not_eq_true', decide_eq_false_iff_not, Bool.true_eq_false, Bool.false_eq_true, if_true, if_false, newT_of, newL_f, b_mod, b_fdiv, b_mul, b_pow, p_len2, p_len3, eq_self, and_self, decide_true, decide_false, reduceIte, p_reprB, c_ne_shownB, c_eq_shownB, c_eqB, c_neB, b_rep, List.replicate, List.flatten_cons, List.flatten_nil, List.cons_append, List.nil_append, List.set_cons_zero, List.set_cons_succ, s__law_by hn hM (a := x) (b := y) (by omega), s__law_by hn hM (b := p) (by omega), hn0, ← e]
    rfl
include hn hM in
theorem s__law_sum {z w : G} {j k : Nat} [Hz z j] [Hz w k] (l : j + k ≤ 7990) : callD n d__law_sum [nf z, nf w] M = .ok (nf (z + w)) M := by
  refine call_to ⟨rfl, by decide⟩ ?_ rfl hM rfl
  have h0 : gp z * gp w ≠ 0 := Int.mul_ne_zero (gp_ne z) (gp_ne w)
  simp (dsimp := false) (disch := first | assumption | exact Nat.le_of_ble_eq_true rfl | exact MP.loc (by assumption) rfl | omega) only [bnd_ok, bnd_no, turn_nx, turn_bk, turn_rt, ofO_some, seqR_nx, seqR_rt, seqR_bk, pick_t, pick_f, pick_d, pick_nd, pick_b, isB_b, ev_var, ev_int, ev_str, ev_bl, ev_non, ev_gint, ev_gcon, ev_rev, ev_isb, ev_tups, ev_lsts, evIs_nil, evIs_cons, evIs_star, isb_tt, isb_tf, isb_ft, isb_ff, ev_bin, ev_neg, ev_not, ev_and, ev_or, ev_cmp, ev_isn, ev_notn, ev_inn, ev_nin, ev_iteE, ev_tup, ev_lst, ev_ix, ev_sl, ev_call, ev_callk, ev_prim, ev_isi, ev_meth, evEs_nil, evEs_cons, evEo_none, evEo_some, evSs_cons, evSs_nil, es_ite, es_asg, es_setix, es_ret, es_retn, es_expr, es_pass, es_brk, es_whl, negD, notD, isn_non, isn_int, isn_bl, isn_str, isn_tup, isn_lst, isn_ref, notn_non, notn_int, notn_bl, notn_str, notn_tup, notn_lst, notn_ref, ixD, loD, rtD, nxD, setD, List.getElem?_cons_zero, List.getElem?_cons_succ, Option.join_some, b_add, b_sub, c_lt, c_le, c_gt, c_ge, c_eqi, c_nei, p_abs, p_int, p_max, p_min, put_0, put_s, put_tp, puts_nil, puts_cons, Option.map_some, Option.bind_some, fill_nil, fill_no, fill_so, ix_tup, ix_lst, atI_nat, live_non, live_int, live_bl, live_str, live_tup, live_lst, live_scr, kd_int_non, kd_int_bl, kd_int_int, kd_int_str, kd_int_tup, kd_int_lst, kd_int_ref, kd_int_scr, kd_bool_non, kd_bool_bl, kd_bool_int, kd_bool_str, kd_bool_tup, kd_bool_lst, kd_bool_ref, kd_bool_scr, kd_str_non, kd_str_bl, kd_str_int, kd_str_str, kd_str_tup, kd_str_lst, kd_str_ref, kd_str_scr, kd_list_non, kd_list_bl, kd_list_int, kd_list_str, kd_list_tup, kd_list_lst, kd_list_ref, kd_list_scr, kd_tuple_non, kd_tuple_bl, kd_tuple_int, kd_tuple_str, kd_tuple_tup, kd_tuple_lst, kd_tuple_ref, kd_tuple_scr, Sn.guard, if_true, if_false, Bool.not_true, Bool.not_false, decide_eq_true_eq, Bool.not_eq_true', decide_eq_false_iff_not, Bool.true_eq_false, Bool.false_eq_true, if_true, if_false, newT_of, newL_f, b_mod, b_fdiv, b_mul, b_pow, p_len2, p_len3, eq_self, and_self, decide_true, decide_false, reduceIte, p_reprB, c_ne_shownB, c_eq_shownB, c_eqB, c_neB, b_rep, List.replicate, List.flatten_cons, List.flatten_nil, List.cons_append, List.nil_append, List.set_cons_zero, List.set_cons_succ, c_neb, c_eqb, bne_self_eq_false, beq_self_eq_true, ev_chain, ifB_t, ifB_f, ifB_d, ifB_nd, sl_nf, sl_t3, p_len_scr, p_max3, p_min3, ix_pr0, ix_pr1, put_pr, pr_l0, pr_l1, c_ne_pr, ix_nf0, ix_nf1, ix_nf2, put_nf, p_len_nf, kind_nf, live_nf, isn_nf, notn_nf, kind_nf_int, kind_nf_bool, kind_nf_list, kind_nf_str, nf_l0, nf_l1, ix_qf0, ix_qf1, put_qf, kind_qf, live_qf, isn_qf, notn_qf, p_len_qf, c_eq_nf, c_ne_nf, c_eq_qf, c_ne_qf, s__law_spot hn, nf_add]
include hn hM in
theorem s__law_times {z w : G} {j k : Nat} [Hz z j] [Hz w k] (l : j + k ≤ 7990) : callD n d__law_times [nf z, nf w] M = .ok (nf (z * w)) M := by
  refine call_to ⟨rfl, by decide⟩ ?_ rfl hM rfl
  have h0 : gp z * gp w ≠ 0 := Int.mul_ne_zero (gp_ne z) (gp_ne w)
  simp (dsimp := false) (disch := first | assumption | exact Nat.le_of_ble_eq_true rfl | exact MP.loc (by assumption) rfl | omega) only [bnd_ok, bnd_no, turn_nx, turn_bk, turn_rt, ofO_some, seqR_nx, seqR_rt, seqR_bk, pick_t, pick_f, pick_d, pick_nd, pick_b, isB_b, ev_var, ev_int, ev_str, ev_bl, ev_non, ev_gint, ev_gcon, ev_rev, ev_isb, ev_tups, ev_lsts, evIs_nil, evIs_cons, evIs_star, isb_tt, isb_tf, isb_ft, isb_ff, ev_bin, ev_neg, ev_not, ev_and, ev_or, ev_cmp, ev_isn, ev_notn, ev_inn, ev_nin, ev_iteE, ev_tup, ev_lst, ev_ix, ev_sl, ev_call, ev_callk, ev_prim, ev_isi, ev_meth, evEs_nil, evEs_cons, evEo_none, evEo_some, evSs_cons, evSs_nil, es_ite, es_asg, es_setix, es_ret, es_retn, es_expr, es_pass, es_brk, es_whl, negD, notD, isn_non, isn_int, isn_bl, isn_str, isn_tup, isn_lst, isn_ref, notn_non, notn_int, notn_bl, notn_str, notn_tup, notn_lst, notn_ref, ixD, loD, rtD, nxD, setD, List.getElem?_cons_zero, List.getElem?_cons_succ, Option.join_some, b_add, b_sub, c_lt, c_le, c_gt, c_ge, c_eqi, c_nei, p_abs, p_int, p_max, p_min, put_0, put_s, put_tp, puts_nil, puts_cons, Option.map_some, Option.bind_some, fill_nil, fill_no, fill_so, ix_tup, ix_lst, atI_nat, live_non, live_int, live_bl, live_str, live_tup, live_lst, live_scr, kd_int_non, kd_int_bl, kd_int_int, kd_int_str, kd_int_tup, kd_int_lst, kd_int_ref, kd_int_scr, kd_bool_non, kd_bool_bl, kd_bool_int, kd_bool_str, kd_bool_tup, kd_bool_lst, kd_bool_ref, kd_bool_scr, kd_str_non, kd_str_bl, kd_str_int, kd_str_str, kd_str_tup, kd_str_lst, kd_str_ref, kd_str_scr, kd_list_non, kd_list_bl, kd_list_int, kd_list_str, kd_list_tup, kd_list_lst, kd_list_ref, kd_list_scr, kd_tuple_non, kd_tuple_bl, kd_tuple_int, kd_tuple_str, kd_tuple_tup, kd_tuple_lst, kd_tuple_ref, kd_tuple_scr, Sn.guard, if_true, if_false, Bool.not_true, Bool.not_false, decide_eq_true_eq, Bool.not_eq_true', decide_eq_false_iff_not, Bool.true_eq_false, Bool.false_eq_true, if_true, if_false, newT_of, newL_f, b_mod, b_fdiv, b_mul, b_pow, p_len2, p_len3, eq_self, and_self, decide_true, decide_false, reduceIte, p_reprB, c_ne_shownB, c_eq_shownB, c_eqB, c_neB, b_rep, List.replicate, List.flatten_cons, List.flatten_nil, List.cons_append, List.nil_append, List.set_cons_zero, List.set_cons_succ, c_neb, c_eqb, bne_self_eq_false, beq_self_eq_true, ev_chain, ifB_t, ifB_f, ifB_d, ifB_nd, sl_nf, sl_t3, p_len_scr, p_max3, p_min3, ix_pr0, ix_pr1, put_pr, pr_l0, pr_l1, c_ne_pr, ix_nf0, ix_nf1, ix_nf2, put_nf, p_len_nf, kind_nf, live_nf, isn_nf, notn_nf, kind_nf_int, kind_nf_bool, kind_nf_list, kind_nf_str, nf_l0, nf_l1, ix_qf0, ix_qf1, put_qf, kind_qf, live_qf, isn_qf, notn_qf, p_len_qf, c_eq_nf, c_ne_nf, c_eq_qf, c_ne_qf, s__law_spot hn, nf_mul]
include hM in
theorem s__law_open {s b z : G} {i j k : Nat} [Hz s i] [Hz b j] [Hz z k] (h : s ≠ 0) (l1 : i ≤ 20000) (l2 : j ≤ 20000) (l3 : k ≤ 20000) : callD n d__law_open [.tup [nf s, nf b], nf z] M = .ok (.bl (decide (gp ((z - b) / s) = 1))) M := by
  have hS := nz_sq h
  have hc : 0 < gp z * gp b * (gx s * gx s + gy s * gy s) := Int.mul_pos (Int.mul_pos (gp_pos z) (gp_pos b)) hS
  have hc0 : gp z * gp b * (gx s * gx s + gy s * gy s) ≠ 0 := by omega
  have hr := zi_rest (a := ((gx z * gp b - gx b * gp z) * gx s + (gy z * gp b - gy b * gp z) * gy s) * gp s) (b := ((gy z * gp b - gy b * gp z) * gx s - (gx z * gp b - gx b * gp z) * gy s) * gp s) hc
  rw [hole_rest h] at hr
  refine call_to ⟨rfl, by decide⟩ ?_ rfl hM rfl
  by_cases h1 : (((gx z * gp b - gx b * gp z) * gx s + (gy z * gp b - gy b * gp z) * gy s) * gp s).fmod (gp z * gp b * (gx s * gx s + gy s * gy s)) = 0
  · by_cases h2 : (((gy z * gp b - gy b * gp z) * gx s - (gx z * gp b - gx b * gp z) * gy s) * gp s).fmod (gp z * gp b * (gx s * gx s + gy s * gy s)) = 0
    · have e : gp ((z - b) / s) = 1 := gp_one.mpr (hr.mpr ⟨h1, h2⟩)
      simp (dsimp := false) (disch := first | assumption | exact Nat.le_of_ble_eq_true rfl | exact MP.loc (by assumption) rfl | omega) only [bnd_ok, bnd_no, turn_nx, turn_bk, turn_rt, ofO_some, seqR_nx, seqR_rt, seqR_bk, pick_t, pick_f, pick_d, pick_nd, pick_b, isB_b, ev_var, ev_int, ev_str, ev_bl, ev_non, ev_gint, ev_gcon, ev_rev, ev_isb, ev_tups, ev_lsts, evIs_nil, evIs_cons, evIs_star, isb_tt, isb_tf, isb_ft, isb_ff, ev_bin, ev_neg, ev_not, ev_and, ev_or, ev_cmp, ev_isn, ev_notn, ev_inn, ev_nin, ev_iteE, ev_tup, ev_lst, ev_ix, ev_sl, ev_call, ev_callk, ev_prim, ev_isi, ev_meth, evEs_nil, evEs_cons, evEo_none, evEo_some, evSs_cons, evSs_nil, es_ite, es_asg, es_setix, es_ret, es_retn, es_expr, es_pass, es_brk, es_whl, negD, notD, isn_non, isn_int, isn_bl, isn_str, isn_tup, isn_lst, isn_ref, notn_non, notn_int, notn_bl, notn_str, notn_tup, notn_lst, notn_ref, ixD, loD, rtD, nxD, setD, List.getElem?_cons_zero, List.getElem?_cons_succ, Option.join_some, b_add, b_sub, c_lt, c_le, c_gt, c_ge, c_eqi, c_nei, p_abs, p_int, p_max, p_min, put_0, put_s, put_tp, puts_nil, puts_cons, Option.map_some, Option.bind_some, fill_nil, fill_no, fill_so, ix_tup, ix_lst, atI_nat, live_non, live_int, live_bl, live_str, live_tup, live_lst, live_scr, kd_int_non, kd_int_bl, kd_int_int, kd_int_str, kd_int_tup, kd_int_lst, kd_int_ref, kd_int_scr, kd_bool_non, kd_bool_bl, kd_bool_int, kd_bool_str, kd_bool_tup, kd_bool_lst, kd_bool_ref, kd_bool_scr, kd_str_non, kd_str_bl, kd_str_int, kd_str_str, kd_str_tup, kd_str_lst, kd_str_ref, kd_str_scr, kd_list_non, kd_list_bl, kd_list_int, kd_list_str, kd_list_tup, kd_list_lst, kd_list_ref, kd_list_scr, kd_tuple_non, kd_tuple_bl, kd_tuple_int, kd_tuple_str, kd_tuple_tup, kd_tuple_lst, kd_tuple_ref, kd_tuple_scr, Sn.guard, if_true, if_false, Bool.not_true, Bool.not_false, decide_eq_true_eq, Bool.not_eq_true', decide_eq_false_iff_not, Bool.true_eq_false, Bool.false_eq_true, if_true, if_false, newT_of, newL_f, b_mod, b_fdiv, b_mul, b_pow, p_len2, p_len3, eq_self, and_self, decide_true, decide_false, reduceIte, p_reprB, c_ne_shownB, c_eq_shownB, c_eqB, c_neB, b_rep, List.replicate, List.flatten_cons, List.flatten_nil, List.cons_append, List.nil_append, List.set_cons_zero, List.set_cons_succ, c_neb, c_eqb, bne_self_eq_false, beq_self_eq_true, ev_chain, ifB_t, ifB_f, ifB_d, ifB_nd, sl_nf, sl_t3, p_len_scr, p_max3, p_min3, ix_pr0, ix_pr1, put_pr, pr_l0, pr_l1, c_ne_pr, ix_nf0, ix_nf1, ix_nf2, put_nf, p_len_nf, kind_nf, live_nf, isn_nf, notn_nf, kind_nf_int, kind_nf_bool, kind_nf_list, kind_nf_str, nf_l0, nf_l1, ix_qf0, ix_qf1, put_qf, kind_qf, live_qf, isn_qf, notn_qf, p_len_qf, c_eq_nf, c_ne_nf, c_eq_qf, c_ne_qf, h1, h2, e]
    · have e : ¬ gp ((z - b) / s) = 1 := fun q => h2 (hr.mp (gp_one.mp q)).2
      simp (dsimp := false) (disch := first | assumption | exact Nat.le_of_ble_eq_true rfl | exact MP.loc (by assumption) rfl | omega) only [bnd_ok, bnd_no, turn_nx, turn_bk, turn_rt, ofO_some, seqR_nx, seqR_rt, seqR_bk, pick_t, pick_f, pick_d, pick_nd, pick_b, isB_b, ev_var, ev_int, ev_str, ev_bl, ev_non, ev_gint, ev_gcon, ev_rev, ev_isb, ev_tups, ev_lsts, evIs_nil, evIs_cons, evIs_star, isb_tt, isb_tf, isb_ft, isb_ff, ev_bin, ev_neg, ev_not, ev_and, ev_or, ev_cmp, ev_isn, ev_notn, ev_inn, ev_nin, ev_iteE, ev_tup, ev_lst, ev_ix, ev_sl, ev_call, ev_callk, ev_prim, ev_isi, ev_meth, evEs_nil, evEs_cons, evEo_none, evEo_some, evSs_cons, evSs_nil, es_ite, es_asg, es_setix, es_ret, es_retn, es_expr, es_pass, es_brk, es_whl, negD, notD, isn_non, isn_int, isn_bl, isn_str, isn_tup, isn_lst, isn_ref, notn_non, notn_int, notn_bl, notn_str, notn_tup, notn_lst, notn_ref, ixD, loD, rtD, nxD, setD, List.getElem?_cons_zero, List.getElem?_cons_succ, Option.join_some, b_add, b_sub, c_lt, c_le, c_gt, c_ge, c_eqi, c_nei, p_abs, p_int, p_max, p_min, put_0, put_s, put_tp, puts_nil, puts_cons, Option.map_some, Option.bind_some, fill_nil, fill_no, fill_so, ix_tup, ix_lst, atI_nat, live_non, live_int, live_bl, live_str, live_tup, live_lst, live_scr, kd_int_non, kd_int_bl, kd_int_int, kd_int_str, kd_int_tup, kd_int_lst, kd_int_ref, kd_int_scr, kd_bool_non, kd_bool_bl, kd_bool_int, kd_bool_str, kd_bool_tup, kd_bool_lst, kd_bool_ref, kd_bool_scr, kd_str_non, kd_str_bl, kd_str_int, kd_str_str, kd_str_tup, kd_str_lst, kd_str_ref, kd_str_scr, kd_list_non, kd_list_bl, kd_list_int, kd_list_str, kd_list_tup, kd_list_lst, kd_list_ref, kd_list_scr, kd_tuple_non, kd_tuple_bl, kd_tuple_int, kd_tuple_str, kd_tuple_tup, kd_tuple_lst, kd_tuple_ref, kd_tuple_scr, Sn.guard, if_true, if_false, Bool.not_true, Bool.not_false, decide_eq_true_eq, Bool.not_eq_true', decide_eq_false_iff_not, Bool.true_eq_false, Bool.false_eq_true, if_true, if_false, newT_of, newL_f, b_mod, b_fdiv, b_mul, b_pow, p_len2, p_len3, eq_self, and_self, decide_true, decide_false, reduceIte, p_reprB, c_ne_shownB, c_eq_shownB, c_eqB, c_neB, b_rep, List.replicate, List.flatten_cons, List.flatten_nil, List.cons_append, List.nil_append, List.set_cons_zero, List.set_cons_succ, c_neb, c_eqb, bne_self_eq_false, beq_self_eq_true, ev_chain, ifB_t, ifB_f, ifB_d, ifB_nd, sl_nf, sl_t3, p_len_scr, p_max3, p_min3, ix_pr0, ix_pr1, put_pr, pr_l0, pr_l1, c_ne_pr, ix_nf0, ix_nf1, ix_nf2, put_nf, p_len_nf, kind_nf, live_nf, isn_nf, notn_nf, kind_nf_int, kind_nf_bool, kind_nf_list, kind_nf_str, nf_l0, nf_l1, ix_qf0, ix_qf1, put_qf, kind_qf, live_qf, isn_qf, notn_qf, p_len_qf, c_eq_nf, c_ne_nf, c_eq_qf, c_ne_qf, h1, h2, e]
  · have e : ¬ gp ((z - b) / s) = 1 := fun q => h1 (hr.mp (gp_one.mp q)).1
    simp (dsimp := false) (disch := first | assumption | exact Nat.le_of_ble_eq_true rfl | exact MP.loc (by assumption) rfl | omega) only [bnd_ok, bnd_no, turn_nx, turn_bk, turn_rt, ofO_some, seqR_nx, seqR_rt, seqR_bk, pick_t, pick_f, pick_d, pick_nd, pick_b, isB_b, ev_var, ev_int, ev_str, ev_bl, ev_non, ev_gint, ev_gcon, ev_rev, ev_isb, ev_tups, ev_lsts, evIs_nil, evIs_cons, evIs_star, isb_tt, isb_tf, isb_ft, isb_ff, ev_bin, ev_neg, ev_not, ev_and, ev_or, ev_cmp, ev_isn, ev_notn, ev_inn, ev_nin, ev_iteE, ev_tup, ev_lst, ev_ix, ev_sl, ev_call, ev_callk, ev_prim, ev_isi, ev_meth, evEs_nil, evEs_cons, evEo_none, evEo_some, evSs_cons, evSs_nil, es_ite, es_asg, es_setix, es_ret, es_retn, es_expr, es_pass, es_brk, es_whl, negD, notD, isn_non, isn_int, isn_bl, isn_str, isn_tup, isn_lst, isn_ref, notn_non, notn_int, notn_bl, notn_str, notn_tup, notn_lst, notn_ref, ixD, loD, rtD, nxD, setD, List.getElem?_cons_zero, List.getElem?_cons_succ, Option.join_some, b_add, b_sub, c_lt, c_le, c_gt, c_ge, c_eqi, c_nei, p_abs, p_int, p_max, p_min, put_0, put_s, put_tp, puts_nil, puts_cons, Option.map_some, Option.bind_some, fill_nil, fill_no, fill_so, ix_tup, ix_lst, atI_nat, live_non, live_int, live_bl, live_str, live_tup, live_lst, live_scr, kd_int_non, kd_int_bl, kd_int_int, kd_int_str, kd_int_tup, kd_int_lst, kd_int_ref, kd_int_scr, kd_bool_non, kd_bool_bl, kd_bool_int, kd_bool_str, kd_bool_tup, kd_bool_lst, kd_bool_ref, kd_bool_scr, kd_str_non, kd_str_bl, kd_str_int, kd_str_str, kd_str_tup, kd_str_lst, kd_str_ref, kd_str_scr, kd_list_non, kd_list_bl, kd_list_int, kd_list_str, kd_list_tup, kd_list_lst, kd_list_ref, kd_list_scr, kd_tuple_non, kd_tuple_bl, kd_tuple_int, kd_tuple_str, kd_tuple_tup, kd_tuple_lst, kd_tuple_ref, kd_tuple_scr, Sn.guard, if_true, if_false, Bool.not_true, Bool.not_false, decide_eq_true_eq, Bool.not_eq_true', decide_eq_false_iff_not, Bool.true_eq_false, Bool.false_eq_true, if_true, if_false, newT_of, newL_f, b_mod, b_fdiv, b_mul, b_pow, p_len2, p_len3, eq_self, and_self, decide_true, decide_false, reduceIte, p_reprB, c_ne_shownB, c_eq_shownB, c_eqB, c_neB, b_rep, List.replicate, List.flatten_cons, List.flatten_nil, List.cons_append, List.nil_append, List.set_cons_zero, List.set_cons_succ, c_neb, c_eqb, bne_self_eq_false, beq_self_eq_true, ev_chain, ifB_t, ifB_f, ifB_d, ifB_nd, sl_nf, sl_t3, p_len_scr, p_max3, p_min3, ix_pr0, ix_pr1, put_pr, pr_l0, pr_l1, c_ne_pr, ix_nf0, ix_nf1, ix_nf2, put_nf, p_len_nf, kind_nf, live_nf, isn_nf, notn_nf, kind_nf_int, kind_nf_bool, kind_nf_list, kind_nf_str, nf_l0, nf_l1, ix_qf0, ix_qf1, put_qf, kind_qf, live_qf, isn_qf, notn_qf, p_len_qf, c_eq_nf, c_ne_nf, c_eq_qf, c_ne_qf, h1, e]
include hn in
theorem s__law_leaf {r t : Nat} (hB : Bag M r t) (ht : t < 2 ^ 50) : ∃ s b M', callD n d__law_leaf [.ref r] M = .ok (.tup [nf s, nf b]) M' ∧ s ≠ 0 ∧ Hz s 20 ∧ Hz b 70 ∧ Bag M' r (t + 6) ∧ M'.length = M.length ∧ Same r M M' := by
  obtain ⟨w, M1, e1, w0, w1, B1, l1, S1⟩ := s__law_draw (n := n) hB (by omega) (m := 16) (by omega) (by decide)
  obtain ⟨u, M2, e2, u0, u1, B2, l2, S2⟩ := s__law_draw (n := n) B1 (by omega) (m := 4) (by omega) (by decide)
  obtain ⟨v, M3, e3, v0, v1, B3, l3, S3⟩ := s__law_draw (n := n) B2 (by omega) (m := 4) (by omega) (by decide)
  obtain ⟨st, hst, st0, zst⟩ : ∃ s : G, L2.atI [(.tup [.int 1, .int 0, .int 1] : D), .tup [.int 1, .int 1, .int 1], .tup [.int 2, .int 0, .int 1], .tup [.int 2, .int 1, .int 1], .tup [.int 1, .int 2, .int 1], .tup [.int 3, .int 1, .int 1], .tup [.int 1, .int 0, .int 2], .tup [.int 1, .int 1, .int 2], .tup [.int 3, .int 4, .int 5], .tup [.int 4, .int 3, .int 5], .tup [.int 2, .int 1, .int 5], .tup [.int 1, .int 3, .int 1], .tup [.int 3, .int (-1), .int 1], .tup [.int 5, .int 0, .int 1], .tup [.int 3, .int 1, .int 2], .tup [.int 5, .int 5, .int 1]] w = some (nf s) ∧ s ≠ 0 ∧ Hz s 4 := by
    have hw : w = 0 ∨ w = 1 ∨ w = 2 ∨ w = 3 ∨ w = 4 ∨ w = 5 ∨ w = 6 ∨ w = 7 ∨ w = 8 ∨ w = 9 ∨ w = 10 ∨ w = 11 ∨ w = 12 ∨ w = 13 ∨ w = 14 ∨ w = 15 := by omega
    have key : ∀ (a b c : Int), Norm a b c → ¬ (a = 0 ∧ b = 0) → a.natAbs < 2 ^ 4 → b.natAbs < 2 ^ 4 → c.natAbs < 2 ^ 4 → ∃ s : G, some (.tup [.int a, .int b, .int c] : D) = some (nf s) ∧ s ≠ 0 ∧ Hz s 4 := fun a b c h h0 h1 h2 h3 => ⟨gz a b c, congrArg some (pl_nf h), gz_ne h.ne h0, Hz.of h.ne h1 h2 h3⟩
    rcases hw with rfl | rfl | rfl | rfl | rfl | rfl | rfl | rfl | rfl | rfl | rfl | rfl | rfl | rfl | rfl | rfl
    all_goals exact key _ _ _ ⟨by decide, by decide⟩ (by decide) (by decide) (by decide) (by decide)
  obtain ⟨un, hun, un0, zun⟩ : ∃ s : G, L2.atI [(.tup [.int 1, .int 0, .int 1] : D), .tup [.int 0, .int 1, .int 1], .tup [.int (-1), .int 0, .int 1], .tup [.int 0, .int (-1), .int 1]] u = some (nf s) ∧ s ≠ 0 ∧ Hz s 1 := by
    have hw : u = 0 ∨ u = 1 ∨ u = 2 ∨ u = 3 := by omega
    have key : ∀ (a b c : Int), Norm a b c → ¬ (a = 0 ∧ b = 0) → a.natAbs < 2 ^ 1 → b.natAbs < 2 ^ 1 → c.natAbs < 2 ^ 1 → ∃ s : G, some (.tup [.int a, .int b, .int c] : D) = some (nf s) ∧ s ≠ 0 ∧ Hz s 1 := fun a b c h h0 h1 h2 h3 => ⟨gz a b c, congrArg some (pl_nf h), gz_ne h.ne h0, Hz.of h.ne h1 h2 h3⟩
    rcases hw with rfl | rfl | rfl | rfl
    all_goals exact key _ _ _ ⟨by decide, by decide⟩ (by decide) (by decide) (by decide) (by decide)
  obtain ⟨q, hq, q1, q5⟩ : ∃ q : Int, L2.atI [(.int 1 : D), .int 1, .int 2, .int 5] v = some (.int q) ∧ 1 ≤ q ∧ q ≤ 5 := by
    have hw : v = 0 ∨ v = 1 ∨ v = 2 ∨ v = 3 := by omega
    rcases hw with rfl | rfl | rfl | rfl
    all_goals exact ⟨_, rfl, by decide, by decide⟩
  have zq : Sz q 3 := ⟨by omega⟩
  have q0 : q ≠ 0 := by omega
  obtain ⟨x, M4, e4, x0, x1, B4, l4, S4⟩ := s__law_draw (n := n) B3 (by omega) (m := 10 * q) (by omega) (by decide)
  obtain ⟨y, M5, e5, y0, y1, B5, l5, S5⟩ := s__law_draw (n := n) B4 (by omega) (m := 10 * q) (by omega) (by decide)
  obtain ⟨f, M6, e6, f0, f1, B6, l6, S6⟩ := s__law_draw (n := n) B5 (by omega) (m := 4) (by omega) (by decide)
  have zx : Sz x 6 := ⟨by omega⟩
  have zy : Sz y 6 := ⟨by omega⟩
  have S := ((((S1.trans S2).trans S3).trans S4).trans S5).trans S6
  have hM6 := B6.mp
  have s0 : st * un ≠ 0 := by grind
  have zs : Hz (st * un) 20 := (inferInstance : Hz (st * un) (4 + 1 + 1)).mono (by decide)
  have add : ∀ N, binop false .add (.lst [(.tup [.int 1, .int 0, .int 1] : D), .tup [.int 1, .int 1, .int 1], .tup [.int 2, .int 0, .int 1], .tup [.int 2, .int 1, .int 1], .tup [.int 1, .int 2, .int 1], .tup [.int 3, .int 1, .int 1], .tup [.int 1, .int 0, .int 2], .tup [.int 1, .int 1, .int 2], .tup [.int 3, .int 4, .int 5]]) (.lst [.tup [.int 4, .int 3, .int 5], .tup [.int 2, .int 1, .int 5], .tup [.int 1, .int 3, .int 1], .tup [.int 3, .int (-1), .int 1], .tup [.int 5, .int 0, .int 1], .tup [.int 3, .int 1, .int 2], .tup [.int 5, .int 5, .int 1]]) N = .ok (.lst [(.tup [.int 1, .int 0, .int 1] : D), .tup [.int 1, .int 1, .int 1], .tup [.int 2, .int 0, .int 1], .tup [.int 2, .int 1, .int 1], .tup [.int 1, .int 2, .int 1], .tup [.int 3, .int 1, .int 1], .tup [.int 1, .int 0, .int 2], .tup [.int 1, .int 1, .int 2], .tup [.int 3, .int 4, .int 5], .tup [.int 4, .int 3, .int 5], .tup [.int 2, .int 1, .int 5], .tup [.int 1, .int 3, .int 1], .tup [.int 3, .int (-1), .int 1], .tup [.int 5, .int 0, .int 1], .tup [.int 3, .int 1, .int 2], .tup [.int 5, .int 5, .int 1]]) N := fun N => by
    rw [b_addL]; exact newL_f (size_small (by decide))
  by_cases hf : f = 0
  · refine ⟨st * un, gz (x + 10 ^ 18 * q) (y - 10 ^ 17 * q) q, M6, call_to ⟨rfl, by decide⟩ ?_ rfl hM6 (by omega), s0, zs, Hz.of q0 (by omega) (by omega) (by omega), B6, by omega, S⟩
    simp (dsimp := false) (disch := first | assumption | exact Nat.le_of_ble_eq_true rfl | exact MP.loc (by assumption) rfl | omega) only [bnd_ok, bnd_no, turn_nx, turn_bk, turn_rt, ofO_some, seqR_nx, seqR_rt, seqR_bk, pick_t, pick_f, pick_d, pick_nd, pick_b, isB_b, ev_var, ev_int, ev_str, ev_bl, ev_non, ev_gint, ev_gcon, ev_rev, ev_isb, ev_tups, ev_lsts, evIs_nil, evIs_cons, evIs_star, isb_tt, isb_tf, isb_ft, isb_ff, ev_bin, ev_neg, ev_not, ev_and, ev_or, ev_cmp, ev_isn, ev_notn, ev_inn, ev_nin, ev_iteE, ev_tup, ev_lst, ev_ix, ev_sl, ev_call, ev_callk, ev_prim, ev_isi, ev_meth, evEs_nil, evEs_cons, evEo_none, evEo_some, evSs_cons, evSs_nil, es_ite, es_asg, es_setix, es_ret, es_retn, es_expr, es_pass, es_brk, es_whl, negD, notD, isn_non, isn_int, isn_bl, isn_str, isn_tup, isn_lst, isn_ref, notn_non, notn_int, notn_bl, notn_str, notn_tup, notn_lst, notn_ref, ixD, loD, rtD, nxD, setD, List.getElem?_cons_zero, List.getElem?_cons_succ, Option.join_some, b_add, b_sub, c_lt, c_le, c_gt, c_ge, c_eqi, c_nei, p_abs, p_int, p_max, p_min, put_0, put_s, put_tp, puts_nil, puts_cons, Option.map_some, Option.bind_some, fill_nil, fill_no, fill_so, ix_tup, ix_lst, atI_nat, live_non, live_int, live_bl, live_str, live_tup, live_lst, live_scr, kd_int_non, kd_int_bl, kd_int_int, kd_int_str, kd_int_tup, kd_int_lst, kd_int_ref, kd_int_scr, kd_bool_non, kd_bool_bl, kd_bool_int, kd_bool_str, kd_bool_tup, kd_bool_lst, kd_bool_ref, kd_bool_scr, kd_str_non, kd_str_bl, kd_str_int, kd_str_str, kd_str_tup, kd_str_lst, kd_str_ref, kd_str_scr, kd_list_non, kd_list_bl, kd_list_int, kd_list_str, kd_list_tup, kd_list_lst, kd_list_ref, kd_list_scr, kd_tuple_non, kd_tuple_bl, kd_tuple_int, kd_tuple_str, kd_tuple_tup, kd_tuple_lst, kd_tuple_ref, kd_tuple_scr, Sn.guard, if_true, if_false, Bool.not_true, Bool.not_false, decide_eq_true_eq, Bool.not_eq_true', decide_eq_false_iff_not, Bool.true_eq_false, Bool.false_eq_true, if_true, if_false, newT_of, newL_f, b_mod, b_fdiv, b_mul, b_pow, p_len2, p_len3, eq_self, and_self, decide_true, decide_false, reduceIte, p_reprB, c_ne_shownB, c_eq_shownB, c_eqB, c_neB, b_rep, List.replicate, List.flatten_cons, List.flatten_nil, List.cons_append, List.nil_append, List.set_cons_zero, List.set_cons_succ, add, ix_lst, e1, hst, e2, hun, e3, hq, e4, e5, e6, eq_true hf, s__law_times hn, s__law_spot hn]
  · refine ⟨st * un, gz x y q, M6, call_to ⟨rfl, by decide⟩ ?_ rfl hM6 (by omega), s0, zs, Hz.of q0 (by omega) (by omega) (by omega), B6, by omega, S⟩
    simp (dsimp := false) (disch := first | assumption | exact Nat.le_of_ble_eq_true rfl | exact MP.loc (by assumption) rfl | omega) only [bnd_ok, bnd_no, turn_nx, turn_bk, turn_rt, ofO_some, seqR_nx, seqR_rt, seqR_bk, pick_t, pick_f, pick_d, pick_nd, pick_b, isB_b, ev_var, ev_int, ev_str, ev_bl, ev_non, ev_gint, ev_gcon, ev_rev, ev_isb, ev_tups, ev_lsts, evIs_nil, evIs_cons, evIs_star, isb_tt, isb_tf, isb_ft, isb_ff, ev_bin, ev_neg, ev_not, ev_and, ev_or, ev_cmp, ev_isn, ev_notn, ev_inn, ev_nin, ev_iteE, ev_tup, ev_lst, ev_ix, ev_sl, ev_call, ev_callk, ev_prim, ev_isi, ev_meth, evEs_nil, evEs_cons, evEo_none, evEo_some, evSs_cons, evSs_nil, es_ite, es_asg, es_setix, es_ret, es_retn, es_expr, es_pass, es_brk, es_whl, negD, notD, isn_non, isn_int, isn_bl, isn_str, isn_tup, isn_lst, isn_ref, notn_non, notn_int, notn_bl, notn_str, notn_tup, notn_lst, notn_ref, ixD, loD, rtD, nxD, setD, List.getElem?_cons_zero, List.getElem?_cons_succ, Option.join_some, b_add, b_sub, c_lt, c_le, c_gt, c_ge, c_eqi, c_nei, p_abs, p_int, p_max, p_min, put_0, put_s, put_tp, puts_nil, puts_cons, Option.map_some, Option.bind_some, fill_nil, fill_no, fill_so, ix_tup, ix_lst, atI_nat, live_non, live_int, live_bl, live_str, live_tup, live_lst, live_scr, kd_int_non, kd_int_bl, kd_int_int, kd_int_str, kd_int_tup, kd_int_lst, kd_int_ref, kd_int_scr, kd_bool_non, kd_bool_bl, kd_bool_int, kd_bool_str, kd_bool_tup, kd_bool_lst, kd_bool_ref, kd_bool_scr, kd_str_non, kd_str_bl, kd_str_int, kd_str_str, kd_str_tup, kd_str_lst, kd_str_ref, kd_str_scr, kd_list_non, kd_list_bl, kd_list_int, kd_list_str, kd_list_tup, kd_list_lst, kd_list_ref, kd_list_scr, kd_tuple_non, kd_tuple_bl, kd_tuple_int, kd_tuple_str, kd_tuple_tup, kd_tuple_lst, kd_tuple_ref, kd_tuple_scr, Sn.guard, if_true, if_false, Bool.not_true, Bool.not_false, decide_eq_true_eq, Bool.not_eq_true', decide_eq_false_iff_not, Bool.true_eq_false, Bool.false_eq_true, if_true, if_false, newT_of, newL_f, b_mod, b_fdiv, b_mul, b_pow, p_len2, p_len3, eq_self, and_self, decide_true, decide_false, reduceIte, p_reprB, c_ne_shownB, c_eq_shownB, c_eqB, c_neB, b_rep, List.replicate, List.flatten_cons, List.flatten_nil, List.cons_append, List.nil_append, List.set_cons_zero, List.set_cons_succ, add, ix_lst, e1, hst, e2, hun, e3, hq, e4, e5, e6, hf, s__law_times hn, s__law_spot hn]
include hn in
theorem s__law_pile {r t : Nat} (hB : Bag M r t) (ht : t < 2 ^ 40) {m : Nat} (m1 : 1 ≤ m) (m6 : m ≤ 60) : ∃ l M', callD n d__law_pile [.ref r, .int (m : Nat)] M = .ok (.lst (l.map sh)) M' ∧ 1 ≤ l.length ∧ l.length ≤ m ∧ GoodB 30 120 l ∧ Bag M' r (t + 1000) ∧ M'.length = M.length ∧ Same r M M' := by
  have hr := hB.lt
  have zm : Sz ((m : Nat) : Int) 7 := ⟨by omega⟩
  obtain ⟨w, M1, e1, w0, w1, B1, l1, S1⟩ := s__law_draw (n := n) hB (by omega) (m := ((m : Nat) : Int)) (by omega) (by decide)
  obtain ⟨w, rfl⟩ := Int.eq_ofNat_of_zero_le w0
  have zw : Sz ((w : Nat) : Int) 7 := ⟨by omega⟩
  have key : ∃ xs M', callD n d__law_pile [.ref r, .int (m : Nat)] M = .ok (.lst xs) M' ∧ M'.length = M.length ∧ (∃ l, xs = l.map sh ∧ 1 ≤ l.length ∧ l.length ≤ m ∧ GoodB 30 120 l ∧ Bag M' r (t + 1000) ∧ Same r M M') := by
    refine call_own (R := fun xs M' => ∃ l, xs = l.map sh ∧ 1 ≤ l.length ∧ l.length ≤ m ∧ GoodB 30 120 l ∧ Bag M' r (t + 1000) ∧ Same r M M') ⟨rfl, by decide⟩ ?_
    obtain ⟨ys, M2, ec, hl2, l, rfl, B2, l2, S2, hG⟩ : ∃ ys M2, evE n (.comp true [3] (.call d__law_leaf (.cons (.var 0) .nil)) (.nm 3) (.range1 (.bin false .add (.int 1) (.call d__law_draw (.cons (.var 0) (.cons (.var 1) .nil))))) .none) [some (.ref r), some (.int (m : Nat)), none, none, none, none] M = .ok (.ref (M.length + 0)) (M2 ++ [some ys]) ∧ ys.length = 1 + w ∧ ∃ l, ys = l.map sh ∧ Bag M2 r (t + 1 + 6 * (1 + w)) ∧ M2.length = M.length ∧ Same r M M2 ∧ GoodB 20 70 l := by
      have hq : (1 + ((w : Nat) : Int)).toNat = 1 + w := by omega
      obtain ⟨ys, M2, e, hl, h⟩ := comp_effM (n := n) (M := M) (M1 := M1) (env := [some (.ref r), some (.int (m : Nat)), none, none, none, none]) (own := [3]) (elt := .call d__law_leaf (.cons (.var 0) .nil)) (tg := .nm 3) (it := .range1 (.bin false .add (.int 1) (.call d__law_draw (.cons (.var 0) (.cons (.var 1) .nil))))) (w := ⟨rangeD 0 (1 + ((w : Nat) : Int)).toNat, []⟩)
        (fun i acc N => ∃ l, acc = l.map sh ∧ Bag N r (t + 1 + 6 * i) ∧ N.length = M.length ∧ Same r M N ∧ GoodB 20 70 l) (it_range (i := 1 + ((w : Nat) : Int)) (by simp (dsimp := false) (disch := first | assumption | exact Nat.le_of_ble_eq_true rfl | exact MP.loc (by assumption) rfl | omega) only [bnd_ok, bnd_no, turn_nx, turn_bk, turn_rt, ofO_some, seqR_nx, seqR_rt, seqR_bk, pick_t, pick_f, pick_d, pick_nd, pick_b, isB_b, ev_var, ev_int, ev_str, ev_bl, ev_non, ev_gint, ev_gcon, ev_rev, ev_isb, ev_tups, ev_lsts, evIs_nil, evIs_cons, evIs_star, isb_tt, isb_tf, isb_ft, isb_ff, ev_bin, ev_neg, ev_not, ev_and, ev_or, ev_cmp, ev_isn, ev_notn, ev_inn, ev_nin, ev_iteE, ev_tup, ev_lst, ev_ix, ev_sl, ev_call, ev_callk, ev_prim, ev_isi, ev_meth, evEs_nil, evEs_cons, evEo_none, evEo_some, evSs_cons, evSs_nil, es_ite, es_asg, es_setix, es_ret, es_retn, es_expr, es_pass, es_brk, es_whl, negD, notD, isn_non, isn_int, isn_bl, isn_str, isn_tup, isn_lst, isn_ref, notn_non, notn_int, notn_bl, notn_str, notn_tup, notn_lst, notn_ref, ixD, loD, rtD, nxD, setD, List.getElem?_cons_zero, List.getElem?_cons_succ, Option.join_some, b_add, b_sub, c_lt, c_le, c_gt, c_ge, c_eqi, c_nei, p_abs, p_int, p_max, p_min, put_0, put_s, put_tp, puts_nil, puts_cons, Option.map_some, Option.bind_some, fill_nil, fill_no, fill_so, ix_tup, ix_lst, atI_nat, live_non, live_int, live_bl, live_str, live_tup, live_lst, live_scr, kd_int_non, kd_int_bl, kd_int_int, kd_int_str, kd_int_tup, kd_int_lst, kd_int_ref, kd_int_scr, kd_bool_non, kd_bool_bl, kd_bool_int, kd_bool_str, kd_bool_tup, kd_bool_lst, kd_bool_ref, kd_bool_scr, kd_str_non, kd_str_bl, kd_str_int, kd_str_str, kd_str_tup, kd_str_lst, kd_str_ref, kd_str_scr, kd_list_non, kd_list_bl, kd_list_int, kd_list_str, kd_list_tup, kd_list_lst, kd_list_ref, kd_list_scr, kd_tuple_non, kd_tuple_bl, kd_tuple_int, kd_tuple_str, kd_tuple_tup, kd_tuple_lst, kd_tuple_ref, kd_tuple_scr, Sn.guard, if_true, if_false, Bool.not_true, Bool.not_false, decide_eq_true_eq, Bool.not_eq_true', decide_eq_false_iff_not, Bool.true_eq_false, Bool.false_eq_true, if_true, if_false, newT_of, newL_f, b_mod, b_fdiv, b_mul, b_pow, p_len2, p_len3, eq_self, and_self, decide_true, decide_false, reduceIte, p_reprB, c_ne_shownB, c_eq_shownB, c_eqB, c_neB, b_rep, List.replicate, List.flatten_cons, List.flatten_nil, List.cons_append, List.nil_append, List.set_cons_zero, List.set_cons_succ, e1]) (by
          have : (1 + ((w : Nat) : Int)) = ((1 + w : Nat) : Int) := by omega
          rw [this]; exact rng_small (by omega))) ⟨[], rfl, B1, by omega, S1, .nil⟩ (fun i x hx acc N ⟨l, ha, BN, lN, SN, hG⟩ => by
        obtain ⟨rfl, hi⟩ := range0_at hx
        have hi : i < 1 + w := by omega
        obtain ⟨s, b, N', eh, s0, zs, zb, BN', lN', SN'⟩ := s__law_leaf hn BN (by omega)
        refine ⟨[some (.ref r), some (.int (m : Nat)), none, some (.int (i : Nat)), none, none], .tup [nf s, nf b], N', rfl, by simp (dsimp := false) (disch := first | assumption | exact Nat.le_of_ble_eq_true rfl | exact MP.loc (by assumption) rfl | omega) only [bnd_ok, bnd_no, turn_nx, turn_bk, turn_rt, ofO_some, seqR_nx, seqR_rt, seqR_bk, pick_t, pick_f, pick_d, pick_nd, pick_b, isB_b, ev_var, ev_int, ev_str, ev_bl, ev_non, ev_gint, ev_gcon, ev_rev, ev_isb, ev_tups, ev_lsts, evIs_nil, evIs_cons, evIs_star, isb_tt, isb_tf, isb_ft, isb_ff, ev_bin, ev_neg, ev_not, ev_and, ev_or, ev_cmp, ev_isn, ev_notn, ev_inn, ev_nin, ev_iteE, ev_tup, ev_lst, ev_ix, ev_sl, ev_call, ev_callk, ev_prim, ev_isi, ev_meth, evEs_nil, evEs_cons, evEo_none, evEo_some, evSs_cons, evSs_nil, es_ite, es_asg, es_setix, es_ret, es_retn, es_expr, es_pass, es_brk, es_whl, negD, notD, isn_non, isn_int, isn_bl, isn_str, isn_tup, isn_lst, isn_ref, notn_non, notn_int, notn_bl, notn_str, notn_tup, notn_lst, notn_ref, ixD, loD, rtD, nxD, setD, List.getElem?_cons_zero, List.getElem?_cons_succ, Option.join_some, b_add, b_sub, c_lt, c_le, c_gt, c_ge, c_eqi, c_nei, p_abs, p_int, p_max, p_min, put_0, put_s, put_tp, puts_nil, puts_cons, Option.map_some, Option.bind_some, fill_nil, fill_no, fill_so, ix_tup, ix_lst, atI_nat, live_non, live_int, live_bl, live_str, live_tup, live_lst, live_scr, kd_int_non, kd_int_bl, kd_int_int, kd_int_str, kd_int_tup, kd_int_lst, kd_int_ref, kd_int_scr, kd_bool_non, kd_bool_bl, kd_bool_int, kd_bool_str, kd_bool_tup, kd_bool_lst, kd_bool_ref, kd_bool_scr, kd_str_non, kd_str_bl, kd_str_int, kd_str_str, kd_str_tup, kd_str_lst, kd_str_ref, kd_str_scr, kd_list_non, kd_list_bl, kd_list_int, kd_list_str, kd_list_tup, kd_list_lst, kd_list_ref, kd_list_scr, kd_tuple_non, kd_tuple_bl, kd_tuple_int, kd_tuple_str, kd_tuple_tup, kd_tuple_lst, kd_tuple_ref, kd_tuple_scr, Sn.guard, if_true, if_false, Bool.not_true, Bool.not_false, decide_eq_true_eq, Bool.not_eq_true', decide_eq_false_iff_not, Bool.true_eq_false, Bool.false_eq_true, if_true, if_false, newT_of, newL_f, b_mod, b_fdiv, b_mul, b_pow, p_len2, p_len3, eq_self, and_self, decide_true, decide_false, reduceIte, p_reprB, c_ne_shownB, c_eq_shownB, c_eqB, c_neB, b_rep, List.replicate, List.flatten_cons, List.flatten_nil, List.cons_append, List.nil_append, List.set_cons_zero, List.set_cons_succ, eh], stays_nil, l ++ [(s, b)], by rw [ha, List.map_append]; rfl, BN'.more (by omega), by omega, SN.trans SN', hG.snoc s0 zs zb⟩) (by show (rangeD 0 (1 + ((w : Nat) : Int)).toNat).length ≤ sizeLine; unfold rangeD; rw [List.length_map, List.length_range]; exact size_small (by omega))
      have hlm : (rangeD 0 (1 + ((w : Nat) : Int)).toNat).length = 1 + w := by unfold rangeD; rw [List.length_map, List.length_range]; exact hq
      obtain ⟨l, ha, BN, lN, SN, hG⟩ := h
      have BN : Bag M2 r (t + 1 + 6 * (rangeD 0 (1 + ((w : Nat) : Int)).toNat).length) := BN
      rw [hlm] at BN
      exact ⟨ys, M2, by rw [e, lN]; rfl, hl.trans hlm, l, ha, BN, lN, SN, hG⟩
    have hll : l.length = 1 + w := by rw [List.length_map] at hl2; exact hl2
    have zl : Sz ((l.length : Nat) : Int) 7 := ⟨by omega⟩
    have hlen : primop false .len [.ref (M.length + 0)] (M2 ++ [some (l.map sh)]) = .ok (.int (l.length : Nat)) (M2 ++ [some (l.map sh)]) := by
      have := (lv_0 (L' := []) (xs := l.map sh) l2).len (m := false)
      rw [List.length_map] at this
      exact this
    obtain ⟨a, N3, e3, a0, a1, B3, c3⟩ := s__law_draw (n := n) (B2.loc (mpB_1 (pures_sh (l := l)))) (by omega) (m := 4) (by omega) (by decide)
    obtain ⟨M3, rfl, B3, l3, S3⟩ := unloc (by omega) B3 c3
    have q3 : M3.length = M.length := by omega
    by_cases hlt : ((l.length : Nat) : Int) < ((m : Nat) : Int)
    · by_cases ha : a = 0
      · have hlen3 : primop false .len [.ref (M.length + 0)] (M3 ++ [some (l.map sh)]) = .ok (.int (l.length : Nat)) (M3 ++ [some (l.map sh)]) := by
          have := (lv_0 (L' := []) (xs := l.map sh) q3).len (m := false)
          rw [List.length_map] at this
          exact this
        obtain ⟨c, N4, e4, c0, c1, B4, c4⟩ := s__law_draw (n := n) (B3.loc (mpB_1 (pures_sh (l := l)))) (by omega) (m := ((l.length : Nat) : Int)) (by omega) (by decide)
        obtain ⟨M4, rfl, B4, l4, S4⟩ := unloc (by omega) B4 c4
        have q4 : M4.length = M.length := by omega
        obtain ⟨c, rfl⟩ := Int.eq_ofNat_of_zero_le c0
        have hc : c < l.length := by omega
        have hpc := List.getElem?_eq_getElem hc
        have hmec := List.getElem_mem hc
        generalize l[c] = p at hpc hmec
        have ia := ix_0 (M := M4) (L' := []) (xs := l.map sh) (j := (c : Int)) q4
        rw [sh_at hpc] at ia
        have p0 := hG.ne p hmec
        have ps := hG.s p hmec
        have pb := hG.b p hmec
        have k1 : (.tup [.int 0, .int 1, .int 1] : D) = nf (gz 0 1 1) := pl_nf ⟨by decide, by decide⟩
        have k2 : (.tup [.int 2, .int (-3), .int 1] : D) = nf (gz 2 (-3) 1) := pl_nf ⟨by decide, by decide⟩
        have z1 : Hz (gz 0 1 1) 1 := Hz.of (by decide) (by decide) (by decide) (by decide)
        have z2 : Hz (gz 2 (-3) 1) 2 := Hz.of (by decide) (by decide) (by decide) (by decide)
        have n1 : gz 0 1 1 ≠ 0 := gz_ne (by decide) (by decide)
        have s0 : p.1 * gz 0 1 1 ≠ 0 := by
          generalize gz 0 1 1 = i at n1
          grind
        have zs : Hz (p.1 * gz 0 1 1) 30 := (inferInstance : Hz (p.1 * gz 0 1 1) (20 + 1 + 1)).mono (by decide)
        have zb : Hz (p.2 + p.1 * gz 2 (-3) 1) 120 := (inferInstance : Hz (p.2 + p.1 * gz 2 (-3) 1) (70 + (20 + 2 + 1) + 1)).mono (by decide)
        have hM4 : MP (M4 ++ [some (l.map sh)]) := B4.mp.loc (mpB_1 pures_sh)
        have ap := m_append_0 (M := M4) (L' := []) (v := .tup [nf (p.1 * gz 0 1 1), nf (p.2 + p.1 * gz 2 (-3) 1)]) (xs := l.map sh) q4 (size_small (by rw [List.length_map]; omega))
        have lv := live_0 (M := M4) (L' := []) (xs := l.map sh) q4
        have ia : ixop (.ref (M.length + 0)) (c : Int) (M4 ++ [some (l.map sh)]) = some (.tup [nf p.1, nf p.2]) := ia
        have hlt' : l.length < m := by omega
        simp (dsimp := false) (disch := first | assumption | exact Nat.le_of_ble_eq_true rfl | exact MP.loc (by assumption) rfl | omega) only [bnd_ok, bnd_no, turn_nx, turn_bk, turn_rt, ofO_some, seqR_nx, seqR_rt, seqR_bk, pick_t, pick_f, pick_d, pick_nd, pick_b, isB_b, ev_var, ev_int, ev_str, ev_bl, ev_non, ev_gint, ev_gcon, ev_rev, ev_isb, ev_tups, ev_lsts, evIs_nil, evIs_cons, evIs_star, isb_tt, isb_tf, isb_ft, isb_ff, ev_bin, ev_neg, ev_not, ev_and, ev_or, ev_cmp, ev_isn, ev_notn, ev_inn, ev_nin, ev_iteE, ev_tup, ev_lst, ev_ix, ev_sl, ev_call, ev_callk, ev_prim, ev_isi, ev_meth, evEs_nil, evEs_cons, evEo_none, evEo_some, evSs_cons, evSs_nil, es_ite, es_asg, es_setix, es_ret, es_retn, es_expr, es_pass, es_brk, es_whl, negD, notD, isn_non, isn_int, isn_bl, isn_str, isn_tup, isn_lst, isn_ref, notn_non, notn_int, notn_bl, notn_str, notn_tup, notn_lst, notn_ref, ixD, loD, rtD, nxD, setD, List.getElem?_cons_zero, List.getElem?_cons_succ, Option.join_some, b_add, b_sub, c_lt, c_le, c_gt, c_ge, c_eqi, c_nei, p_abs, p_int, p_max, p_min, put_0, put_s, put_tp, puts_nil, puts_cons, Option.map_some, Option.bind_some, fill_nil, fill_no, fill_so, ix_tup, ix_lst, atI_nat, live_non, live_int, live_bl, live_str, live_tup, live_lst, live_scr, kd_int_non, kd_int_bl, kd_int_int, kd_int_str, kd_int_tup, kd_int_lst, kd_int_ref, kd_int_scr, kd_bool_non, kd_bool_bl, kd_bool_int, kd_bool_str, kd_bool_tup, kd_bool_lst, kd_bool_ref, kd_bool_scr, kd_str_non, kd_str_bl, kd_str_int, kd_str_str, kd_str_tup, kd_str_lst, kd_str_ref, kd_str_scr, kd_list_non, kd_list_bl, kd_list_int, kd_list_str, kd_list_tup, kd_list_lst, kd_list_ref, kd_list_scr, kd_tuple_non, kd_tuple_bl, kd_tuple_int, kd_tuple_str, kd_tuple_tup, kd_tuple_lst, kd_tuple_ref, kd_tuple_scr, Sn.guard, if_true, if_false, Bool.not_true, Bool.not_false, decide_eq_true_eq, Bool.not_eq_true', decide_eq_false_iff_not, Bool.true_eq_false, Bool.false_eq_true, if_true, if_false, newT_of, newL_f, b_mod, b_fdiv, b_mul, b_pow, p_len2, p_len3, eq_self, and_self, decide_true, decide_false, reduceIte, p_reprB, c_ne_shownB, c_eq_shownB, c_eqB, c_neB, b_rep, List.replicate, List.flatten_cons, List.flatten_nil, List.cons_append, List.nil_append, List.set_cons_zero, List.set_cons_succ, c_neb, c_eqb, bne_self_eq_false, beq_self_eq_true, ev_chain, ifB_t, ifB_f, ifB_d, ifB_nd, sl_nf, sl_t3, p_len_scr, p_max3, p_min3, ix_pr0, ix_pr1, put_pr, pr_l0, pr_l1, c_ne_pr, ix_nf0, ix_nf1, ix_nf2, put_nf, p_len_nf, kind_nf, live_nf, isn_nf, notn_nf, kind_nf_int, kind_nf_bool, kind_nf_list, kind_nf_str, nf_l0, nf_l1, ix_qf0, ix_qf1, put_qf, kind_qf, live_qf, isn_qf, notn_qf, p_len_qf, c_eq_nf, c_ne_nf, c_eq_qf, c_ne_qf, ec, hlen, eq_true hlt, e3, eq_true ha, hlen3, e4, ia, k1, k2, s__law_times hn, s__law_sum hn, ap, lv]
        refine pst_ok ⟨_, M4, [], rfl, rfl, ?_, B4.mp, q4, l ++ [(p.1 * gz 0 1 1, p.2 + p.1 * gz 2 (-3) 1)], ?_, ?_, ?_, (hG.mono (by decide) (by decide)).snoc s0 zs zb, B4.more (by omega), (S2.trans S3).trans S4⟩
        · have : l.map sh ++ [.tup [nf (p.1 * gz 0 1 1), nf (p.2 + p.1 * gz 2 (-3) 1)]] = (l ++ [(p.1 * gz 0 1 1, p.2 + p.1 * gz 2 (-3) 1)]).map sh := by rw [List.map_append]; rfl
          rw [this]; exact pures_sh
        · rw [List.map_append]; rfl
        · rw [List.length_append]; simp
        · rw [List.length_append, List.length_singleton]; omega
      · simp (dsimp := false) (disch := first | assumption | exact Nat.le_of_ble_eq_true rfl | exact MP.loc (by assumption) rfl | omega) only [bnd_ok, bnd_no, turn_nx, turn_bk, turn_rt, ofO_some, seqR_nx, seqR_rt, seqR_bk, pick_t, pick_f, pick_d, pick_nd, pick_b, isB_b, ev_var, ev_int, ev_str, ev_bl, ev_non, ev_gint, ev_gcon, ev_rev, ev_isb, ev_tups, ev_lsts, evIs_nil, evIs_cons, evIs_star, isb_tt, isb_tf, isb_ft, isb_ff, ev_bin, ev_neg, ev_not, ev_and, ev_or, ev_cmp, ev_isn, ev_notn, ev_inn, ev_nin, ev_iteE, ev_tup, ev_lst, ev_ix, ev_sl, ev_call, ev_callk, ev_prim, ev_isi, ev_meth, evEs_nil, evEs_cons, evEo_none, evEo_some, evSs_cons, evSs_nil, es_ite, es_asg, es_setix, es_ret, es_retn, es_expr, es_pass, es_brk, es_whl, negD, notD, isn_non, isn_int, isn_bl, isn_str, isn_tup, isn_lst, isn_ref, notn_non, notn_int, notn_bl, notn_str, notn_tup, notn_lst, notn_ref, ixD, loD, rtD, nxD, setD, List.getElem?_cons_zero, List.getElem?_cons_succ, Option.join_some, b_add, b_sub, c_lt, c_le, c_gt, c_ge, c_eqi, c_nei, p_abs, p_int, p_max, p_min, put_0, put_s, put_tp, puts_nil, puts_cons, Option.map_some, Option.bind_some, fill_nil, fill_no, fill_so, ix_tup, ix_lst, atI_nat, live_non, live_int, live_bl, live_str, live_tup, live_lst, live_scr, kd_int_non, kd_int_bl, kd_int_int, kd_int_str, kd_int_tup, kd_int_lst, kd_int_ref, kd_int_scr, kd_bool_non, kd_bool_bl, kd_bool_int, kd_bool_str, kd_bool_tup, kd_bool_lst, kd_bool_ref, kd_bool_scr, kd_str_non, kd_str_bl, kd_str_int, kd_str_str, kd_str_tup, kd_str_lst, kd_str_ref, kd_str_scr, kd_list_non, kd_list_bl, kd_list_int, kd_list_str, kd_list_tup, kd_list_lst, kd_list_ref, kd_list_scr, kd_tuple_non, kd_tuple_bl, kd_tuple_int, kd_tuple_str, kd_tuple_tup, kd_tuple_lst, kd_tuple_ref, kd_tuple_scr, Sn.guard, if_true, if_false, Bool.not_true, Bool.not_false, decide_eq_true_eq, Bool.not_eq_true', decide_eq_false_iff_not, Bool.true_eq_false, Bool.false_eq_true, if_true, if_false, newT_of, newL_f, b_mod, b_fdiv, b_mul, b_pow, p_len2, p_len3, eq_self, and_self, decide_true, decide_false, reduceIte, p_reprB, c_ne_shownB, c_eq_shownB, c_eqB, c_neB, b_rep, List.replicate, List.flatten_cons, List.flatten_nil, List.cons_append, List.nil_append, List.set_cons_zero, List.set_cons_succ, c_neb, c_eqb, bne_self_eq_false, beq_self_eq_true, ev_chain, ifB_t, ifB_f, ifB_d, ifB_nd, sl_nf, sl_t3, p_len_scr, p_max3, p_min3, ix_pr0, ix_pr1, put_pr, pr_l0, pr_l1, c_ne_pr, ix_nf0, ix_nf1, ix_nf2, put_nf, p_len_nf, kind_nf, live_nf, isn_nf, notn_nf, kind_nf_int, kind_nf_bool, kind_nf_list, kind_nf_str, nf_l0, nf_l1, ix_qf0, ix_qf1, put_qf, kind_qf, live_qf, isn_qf, notn_qf, p_len_qf, c_eq_nf, c_ne_nf, c_eq_qf, c_ne_qf, ec, hlen, eq_true hlt, e3, ha]
        exact pst_ok ⟨_, M3, [], rfl, rfl, pures_sh, B3.mp, q3, l, rfl, by omega, by omega, hG.mono (by decide) (by decide), B3.more (by omega), S2.trans S3⟩
    · simp (dsimp := false) (disch := first | assumption | exact Nat.le_of_ble_eq_true rfl | exact MP.loc (by assumption) rfl | omega) only [bnd_ok, bnd_no, turn_nx, turn_bk, turn_rt, ofO_some, seqR_nx, seqR_rt, seqR_bk, pick_t, pick_f, pick_d, pick_nd, pick_b, isB_b, ev_var, ev_int, ev_str, ev_bl, ev_non, ev_gint, ev_gcon, ev_rev, ev_isb, ev_tups, ev_lsts, evIs_nil, evIs_cons, evIs_star, isb_tt, isb_tf, isb_ft, isb_ff, ev_bin, ev_neg, ev_not, ev_and, ev_or, ev_cmp, ev_isn, ev_notn, ev_inn, ev_nin, ev_iteE, ev_tup, ev_lst, ev_ix, ev_sl, ev_call, ev_callk, ev_prim, ev_isi, ev_meth, evEs_nil, evEs_cons, evEo_none, evEo_some, evSs_cons, evSs_nil, es_ite, es_asg, es_setix, es_ret, es_retn, es_expr, es_pass, es_brk, es_whl, negD, notD, isn_non, isn_int, isn_bl, isn_str, isn_tup, isn_lst, isn_ref, notn_non, notn_int, notn_bl, notn_str, notn_tup, notn_lst, notn_ref, ixD, loD, rtD, nxD, setD, List.getElem?_cons_zero, List.getElem?_cons_succ, Option.join_some, b_add, b_sub, c_lt, c_le, c_gt, c_ge, c_eqi, c_nei, p_abs, p_int, p_max, p_min, put_0, put_s, put_tp, puts_nil, puts_cons, Option.map_some, Option.bind_some, fill_nil, fill_no, fill_so, ix_tup, ix_lst, atI_nat, live_non, live_int, live_bl, live_str, live_tup, live_lst, live_scr, kd_int_non, kd_int_bl, kd_int_int, kd_int_str, kd_int_tup, kd_int_lst, kd_int_ref, kd_int_scr, kd_bool_non, kd_bool_bl, kd_bool_int, kd_bool_str, kd_bool_tup, kd_bool_lst, kd_bool_ref, kd_bool_scr, kd_str_non, kd_str_bl, kd_str_int, kd_str_str, kd_str_tup, kd_str_lst, kd_str_ref, kd_str_scr, kd_list_non, kd_list_bl, kd_list_int, kd_list_str, kd_list_tup, kd_list_lst, kd_list_ref, kd_list_scr, kd_tuple_non, kd_tuple_bl, kd_tuple_int, kd_tuple_str, kd_tuple_tup, kd_tuple_lst, kd_tuple_ref, kd_tuple_scr, Sn.guard, if_true, if_false, Bool.not_true, Bool.not_false, decide_eq_true_eq, Bool.not_eq_true', decide_eq_false_iff_not, Bool.true_eq_false, Bool.false_eq_true, if_true, if_false, newT_of, newL_f, b_mod, b_fdiv, b_mul, b_pow, p_len2, p_len3, eq_self, and_self, decide_true, decide_false, reduceIte, p_reprB, c_ne_shownB, c_eq_shownB, c_eqB, c_neB, b_rep, List.replicate, List.flatten_cons, List.flatten_nil, List.cons_append, List.nil_append, List.set_cons_zero, List.set_cons_succ, c_neb, c_eqb, bne_self_eq_false, beq_self_eq_true, ev_chain, ifB_t, ifB_f, ifB_d, ifB_nd, sl_nf, sl_t3, p_len_scr, p_max3, p_min3, ix_pr0, ix_pr1, put_pr, pr_l0, pr_l1, c_ne_pr, ix_nf0, ix_nf1, ix_nf2, put_nf, p_len_nf, kind_nf, live_nf, isn_nf, notn_nf, kind_nf_int, kind_nf_bool, kind_nf_list, kind_nf_str, nf_l0, nf_l1, ix_qf0, ix_qf1, put_qf, kind_qf, live_qf, isn_qf, notn_qf, p_len_qf, c_eq_nf, c_ne_nf, c_eq_qf, c_ne_qf, ec, hlen, hlt]
      exact pst_ok ⟨_, M2, [], rfl, rfl, pures_sh, B2.mp, l2, l, rfl, by omega, by omega, hG.mono (by decide) (by decide), B2.more (by omega), S2⟩
  obtain ⟨xs, M', e, hl, l, rfl, h1, h2, h3, h4, h5⟩ := key
  exact ⟨l, M', e, h1, h2, h3, h4, hl, h5⟩
include hn in
theorem s__law_great {r t : Nat} (hB : Bag M r t) (ht : t < 2 ^ 50) : ∃ s b M', callD n d__law_great [.ref r] M = .ok (.tup [nf s, nf b]) M' ∧ s ≠ 0 ∧ Hz s 70 ∧ Hz b 70 ∧ Bag M' r (t + 7) ∧ M'.length = M.length ∧ Same r M M' := by
  obtain ⟨w, M1, e1, w0, w1, B1, l1, S1⟩ := s__law_draw (n := n) hB (by omega) (m := 3) (by omega) (by decide)
  obtain ⟨far, hfar, f1, f2⟩ : ∃ q : Int, L2.atI [(.int 10 : D), .int (10 ^ 9), .int (10 ^ 18)] w = some (.int q) ∧ 1 ≤ q ∧ q ≤ 10 ^ 18 := by
    have hw : w = 0 ∨ w = 1 ∨ w = 2 := by omega
    rcases hw with rfl | rfl | rfl
    all_goals exact ⟨_, rfl, by decide, by decide⟩
  obtain ⟨u, M2, e2, u0, u1, B2, l2, S2⟩ := s__law_draw (n := n) B1 (by omega) (m := 2) (by omega) (by decide)
  obtain ⟨g, hg, g1, g2⟩ : ∃ q : Int, L2.atI [(.int 4 : D), .int (10 ^ 19)] u = some (.int q) ∧ 1 ≤ q ∧ q ≤ 10 ^ 19 := by
    have hw : u = 0 ∨ u = 1 := by omega
    rcases hw with rfl | rfl
    all_goals exact ⟨_, rfl, by decide, by decide⟩
  have zf : Sz far 60 := ⟨by omega⟩
  have zg : Sz g 64 := ⟨by omega⟩
  obtain ⟨q, M3, e3, q0, q1, B3, l3, S3⟩ := s__law_draw (n := n) B2 (by omega) (m := g) (by omega) (by decide)
  obtain ⟨x, M4, e4, x0, x1, B4, l4, S4⟩ := s__law_draw (n := n) B3 (by omega) (m := 2 * far) (by omega) (by decide)
  obtain ⟨y, M5, e5, y0, y1, B5, l5, S5⟩ := s__law_draw (n := n) B4 (by omega) (m := far) (by omega) (by decide)
  have z19 : Sz ((10 : Int) ^ 19) 64 := ⟨by simp⟩
  obtain ⟨a, M6, e6, a0, a1, B6, l6, S6⟩ := s__law_draw (n := n) B5 (by omega) (m := 10 ^ 19) (by omega) (by decide)
  obtain ⟨b, M7, e7, b0, b1, B7, l7, S7⟩ := s__law_draw (n := n) B6 (by omega) (m := 10 ^ 19) (by omega) (by decide)
  have hM7 := B7.mp
  have zq : Sz q 64 := ⟨by omega⟩
  have zx : Sz x 64 := ⟨by omega⟩
  have zy : Sz y 64 := ⟨by omega⟩
  have za : Sz a 64 := ⟨by omega⟩
  have zb : Sz b 64 := ⟨by omega⟩
  have q2 : 1 + q ≠ 0 := by omega
  refine ⟨gz (x - far) (1 + y) (1 + q), gz a (0 - b) (1 + q), M7, call_to ⟨rfl, by decide⟩ ?_ rfl hM7 (by omega), gz_ne q2 (by omega), Hz.of q2 (by omega) (by omega) (by omega), Hz.of q2 (by omega) (by omega) (by omega), B7, by omega, (((((S1.trans S2).trans S3).trans S4).trans S5).trans S6).trans S7⟩
  simp (dsimp := false) (disch := first | assumption | exact Nat.le_of_ble_eq_true rfl | exact MP.loc (by assumption) rfl | omega) only [bnd_ok, bnd_no, turn_nx, turn_bk, turn_rt, ofO_some, seqR_nx, seqR_rt, seqR_bk, pick_t, pick_f, pick_d, pick_nd, pick_b, isB_b, ev_var, ev_int, ev_str, ev_bl, ev_non, ev_gint, ev_gcon, ev_rev, ev_isb, ev_tups, ev_lsts, evIs_nil, evIs_cons, evIs_star, isb_tt, isb_tf, isb_ft, isb_ff, ev_bin, ev_neg, ev_not, ev_and, ev_or, ev_cmp, ev_isn, ev_notn, ev_inn, ev_nin, ev_iteE, ev_tup, ev_lst, ev_ix, ev_sl, ev_call, ev_callk, ev_prim, ev_isi, ev_meth, evEs_nil, evEs_cons, evEo_none, evEo_some, evSs_cons, evSs_nil, es_ite, es_asg, es_setix, es_ret, es_retn, es_expr, es_pass, es_brk, es_whl, negD, notD, isn_non, isn_int, isn_bl, isn_str, isn_tup, isn_lst, isn_ref, notn_non, notn_int, notn_bl, notn_str, notn_tup, notn_lst, notn_ref, ixD, loD, rtD, nxD, setD, List.getElem?_cons_zero, List.getElem?_cons_succ, Option.join_some, b_add, b_sub, c_lt, c_le, c_gt, c_ge, c_eqi, c_nei, p_abs, p_int, p_max, p_min, put_0, put_s, put_tp, puts_nil, puts_cons, Option.map_some, Option.bind_some, fill_nil, fill_no, fill_so, ix_tup, ix_lst, atI_nat, live_non, live_int, live_bl, live_str, live_tup, live_lst, live_scr, kd_int_non, kd_int_bl, kd_int_int, kd_int_str, kd_int_tup, kd_int_lst, kd_int_ref, kd_int_scr, kd_bool_non, kd_bool_bl, kd_bool_int, kd_bool_str, kd_bool_tup, kd_bool_lst, kd_bool_ref, kd_bool_scr, kd_str_non, kd_str_bl, kd_str_int, kd_str_str, kd_str_tup, kd_str_lst, kd_str_ref, kd_str_scr, kd_list_non, kd_list_bl, kd_list_int, kd_list_str, kd_list_tup, kd_list_lst, kd_list_ref, kd_list_scr, kd_tuple_non, kd_tuple_bl, kd_tuple_int, kd_tuple_str, kd_tuple_tup, kd_tuple_lst, kd_tuple_ref, kd_tuple_scr, Sn.guard, if_true, if_false, Bool.not_true, Bool.not_false, decide_eq_true_eq, Bool.not_eq_true', decide_eq_false_iff_not, Bool.true_eq_false, Bool.false_eq_true, if_true, if_false, newT_of, newL_f, b_mod, b_fdiv, b_mul, b_pow, p_len2, p_len3, eq_self, and_self, decide_true, decide_false, reduceIte, p_reprB, c_ne_shownB, c_eq_shownB, c_eqB, c_neB, b_rep, List.replicate, List.flatten_cons, List.flatten_nil, List.cons_append, List.nil_append, List.set_cons_zero, List.set_cons_succ, c_neb, c_eqb, bne_self_eq_false, beq_self_eq_true, ev_chain, ifB_t, ifB_f, ifB_d, ifB_nd, sl_nf, sl_t3, p_len_scr, p_max3, p_min3, ix_pr0, ix_pr1, put_pr, pr_l0, pr_l1, c_ne_pr, ix_nf0, ix_nf1, ix_nf2, put_nf, p_len_nf, kind_nf, live_nf, isn_nf, notn_nf, kind_nf_int, kind_nf_bool, kind_nf_list, kind_nf_str, nf_l0, nf_l1, ix_qf0, ix_qf1, put_qf, kind_qf, live_qf, isn_qf, notn_qf, p_len_qf, c_eq_nf, c_ne_nf, c_eq_qf, c_ne_qf, e1, hfar, e2, hg, e3, e4, e5, e6, e7, s__law_spot hn]
end
end My
namespace My
open Sn PySem
theorem szL {k : Nat} (h : k ≤ 1000000) : k ≤ sizeLine := Nat.le_trans h (by decide)
theorem open_lit {a b c x y p : Int} (h : Norm a b c) (h0 : ¬ (a = 0 ∧ b = 0)) (g : Norm x y p) :
    decide (gp ((gz x y p - 0) / gz a b c) = 1) = (decide (((x * a + y * b) * c).fmod (p * (a * a + b * b)) = 0) && decide (((y * a - x * b) * c).fmod (p * (a * a + b * b)) = 0)) := by
  have s0 : gz a b c ≠ 0 := gz_ne h.ne h0
  have e0 := gz_is (show Norm 0 0 1 from ⟨by decide, by decide⟩)
  rw [gz0] at e0
  have hS := nz_sq s0
  have hc : 0 < gp (gz x y p) * gp (0 : G) * (gx (gz a b c) * gx (gz a b c) + gy (gz a b c) * gy (gz a b c)) := Int.mul_pos (Int.mul_pos (gp_pos _) (gp_pos _)) hS
  have hr := zi_rest (a := ((gx (gz x y p) * gp (0 : G) - gx (0 : G) * gp (gz x y p)) * gx (gz a b c) + (gy (gz x y p) * gp (0 : G) - gy (0 : G) * gp (gz x y p)) * gy (gz a b c)) * gp (gz a b c)) (b := ((gy (gz x y p) * gp (0 : G) - gy (0 : G) * gp (gz x y p)) * gx (gz a b c) - (gx (gz x y p) * gp (0 : G) - gx (0 : G) * gp (gz x y p)) * gy (gz a b c)) * gp (gz a b c)) hc
  rw [hole_rest s0] at hr
  have ea := gz_is h
  have ez := gz_is g
  rw [ea.1, ea.2.1, ea.2.2, ez.1, ez.2.1, ez.2.2, e0.1, e0.2.1, e0.2.2] at hr
  simp only [Int.mul_one, Int.zero_mul, Int.sub_zero] at hr
  rw [← Bool.decide_and]
  exact decide_eq_decide.mpr (gp_one.trans hr)
section
variable {n : Nat} (hn : big ≤ n)
include hn
theorem s__law_right {M : Mem} (hM : MP M) {l : List (G × G)} {z : G} {k : Nat} [hz : Hz z k] (hG : Good 200 l) (hk : k ≤ 400) (h1 : 1 ≤ l.length) (h2 : l.length ≤ 6) : callD n d__law_right [.lst (l.map sh), nf z] M = .ok (.bl true) M := by
  have hb := bds_sh hG
  have hl : (l.map sh).length = l.length := List.length_map ..
  have ol := opens_len (l := l) (z := z)
  have ho : Bds (natD (opens l z)) 3 ((opens l z).length * 2000) 0 := bds_nat (opens_lt (by omega))
  have B1 : Bd (.lst [.lst (l.map sh), nf z]) _ _ _ := inferInstance
  have B2 : Bd (.lst (natD (opens l z))) _ _ _ := inferInstance
  have B3 : Bd (.lst [.lst (natD (opens l z)), .lst (natD (opens l z))]) _ _ _ := inferInstance
  have hc : evE n (.comp false [4, 5] (.var 4) (.tp [(.nm 4), (.nm 5)]) (.enum (.var 0)) (.some (.call d__law_open (.cons (.var 5) (.cons (.var 1) .nil))))) [some (.lst (l.map sh)), some (nf z), none, none, none, none, none] M = .ok (.lst (natD (opens l z))) M := by
    have := comp_enum (n := n) (m := false) (M := M) (M1 := M) (env := [some (.lst (l.map sh)), some (nf z), none, none, none, none, none]) (own := [4, 5]) (elt := .var 4) (c := .call d__law_open (.cons (.var 5) (.cons (.var 1) .nil))) (tg := .tp [(.nm 4), (.nm 5)]) (it := .enum (.var 0)) (xs := l.map sh) (rs := []) (isOpen l z) (it_enum (d := .lst (l.map sh)) (by rw [ev_var]; rfl) rfl) (fun i y hy => by
      rw [List.getElem?_map] at hy
      obtain ⟨p, hp, rfl⟩ := Option.map_eq_some_iff.mp hy
      have hm := List.mem_of_getElem? hp
      have a1 := hG.ne p hm
      have a2 := hG.s p hm
      have a3 := hG.b p hm
      have e : callD n d__law_open [sh p, nf z] M = .ok (.bl (decide (gp ((z - p.2) / p.1) = 1))) M := s__law_open (n := n) hM a1 (by omega) (by omega) (by omega)
      refine ⟨[some (.lst (l.map sh)), some (nf z), none, none, some (.int ((i : Nat) : Int)), some (sh p), none], rfl, ?_, by rw [ev_var]; rfl⟩
      rw [isOpen_at hp]
      generalize l.map sh = xl at *
      simp (dsimp := false) (disch := first | assumption | exact Nat.le_of_ble_eq_true rfl | exact MP.loc (by assumption) rfl | omega) only [bnd_ok, bnd_no, turn_nx, turn_bk, turn_rt, ofO_some, seqR_nx, seqR_rt, seqR_bk, pick_t, pick_f, pick_d, pick_nd, pick_b, isB_b, ev_var, ev_int, ev_str, ev_bl, ev_non, ev_gint, ev_gcon, ev_rev, ev_isb, ev_tups, ev_lsts, evIs_nil, evIs_cons, evIs_star, isb_tt, isb_tf, isb_ft, isb_ff, ev_bin, ev_neg, ev_not, ev_and, ev_or, ev_cmp, ev_isn, ev_notn, ev_inn, ev_nin, ev_iteE, ev_tup, ev_lst, ev_ix, ev_sl, ev_call, ev_callk, ev_prim, ev_isi, ev_meth, evEs_nil, evEs_cons, evEo_none, evEo_some, evSs_cons, evSs_nil, es_ite, es_asg, es_setix, es_ret, es_retn, es_expr, es_pass, es_brk, es_whl, negD, notD, isn_non, isn_int, isn_bl, isn_str, isn_tup, isn_lst, isn_ref, notn_non, notn_int, notn_bl, notn_str, notn_tup, notn_lst, notn_ref, ixD, loD, rtD, nxD, setD, List.getElem?_cons_zero, List.getElem?_cons_succ, Option.join_some, b_add, b_sub, c_lt, c_le, c_gt, c_ge, c_eqi, c_nei, p_abs, p_int, p_max, p_min, put_0, put_s, put_tp, puts_nil, puts_cons, Option.map_some, Option.bind_some, fill_nil, fill_no, fill_so, ix_tup, ix_lst, atI_nat, live_non, live_int, live_bl, live_str, live_tup, live_lst, live_scr, kd_int_non, kd_int_bl, kd_int_int, kd_int_str, kd_int_tup, kd_int_lst, kd_int_ref, kd_int_scr, kd_bool_non, kd_bool_bl, kd_bool_int, kd_bool_str, kd_bool_tup, kd_bool_lst, kd_bool_ref, kd_bool_scr, kd_str_non, kd_str_bl, kd_str_int, kd_str_str, kd_str_tup, kd_str_lst, kd_str_ref, kd_str_scr, kd_list_non, kd_list_bl, kd_list_int, kd_list_str, kd_list_tup, kd_list_lst, kd_list_ref, kd_list_scr, kd_tuple_non, kd_tuple_bl, kd_tuple_int, kd_tuple_str, kd_tuple_tup, kd_tuple_lst, kd_tuple_ref, kd_tuple_scr, Sn.guard, if_true, if_false, Bool.not_true, Bool.not_false, decide_eq_true_eq, Bool.not_eq_true', decide_eq_false_iff_not, Bool.true_eq_false, Bool.false_eq_true, if_true, if_false, newT_of, newL_f, b_mod, b_fdiv, b_mul, b_pow, p_len2, p_len3, eq_self, and_self, decide_true, decide_false, reduceIte, p_reprB, c_ne_shownB, c_eq_shownB, c_eqB, c_neB, b_rep, List.replicate, List.flatten_cons, List.flatten_nil, List.cons_append, List.nil_append, List.set_cons_zero, List.set_cons_succ, e]) (size_small (by rw [hl]; omega))
    rw [this, newL_f (size_small (by
      rw [hl]
      show (natD (opens l z)).length ≤ _
      unfold natD
      rw [List.length_map]; omega)), hl]
    rfl
  have oo : ∀ N, MP N → callD n d_open_at [.lst (l.map sh), nf z] N = .ok (.ref N.length) (N ++ [some (natD (opens l z))]) := fun N hN => s_open_at hn hN LV.lst hG (by omega) (by omega) h1 h2
  have hp := pures_nat (is := opens l z)
  have nlen : (natD (opens l z)).length ≤ 6 := by unfold natD; rw [List.length_map]; omega
  have r1 : ∀ N, primop false .repr [.lst [.lst (l.map sh), nf z]] N = .ok (.str (toPy (.lst [.lst (l.map sh), nf z])).shown) N := fun N => p_reprB (by omega) (szL (by omega)) (by omega)
  have r2 : ∀ N, primop false .repr [.lst (natD (opens l z))] N = .ok (.str (toPy (.lst (natD (opens l z)))).shown) N := fun N => p_reprB (by omega) (szL (by omega)) (by omega)
  have r3 : ∀ N, primop false .repr [.lst [.lst (natD (opens l z)), .lst (natD (opens l z))]] N = .ok (.str (toPy (.lst [.lst (natD (opens l z)), .lst (natD (opens l z))])).shown) N := fun N => p_reprB (by omega) (szL (by omega)) (by omega)
  have c1 : ∀ N, cmpop .ne (.str (toPy (.lst [.lst (l.map sh), nf z])).shown) (.str (toPy (.lst [.lst (l.map sh), nf z])).shown) N = some false := fun N => c_ne_shownB
  have c2 : ∀ N, cmpop .eq (.str (toPy (.lst (natD (opens l z)))).shown) (.str (toPy (.lst (natD (opens l z)))).shown) N = some true := fun N => c_eq_shownB
  have c3 : ∀ N, cmpop .ne (.str (toPy (.lst [.lst (natD (opens l z)), .lst (natD (opens l z))])).shown) (.str (toPy (.lst [.lst (natD (opens l z)), .lst (natD (opens l z))])).shown) N = some false := fun N => c_ne_shownB
  have r4 : primop false .repr [.lst [.ref (M.length + 0), .ref (M.length + 1)]] (M ++ [some (natD (opens l z)), some (natD (opens l z))]) = .ok (.str (toPy (.lst [.lst (natD (opens l z)), .lst (natD (opens l z))])).shown) (M ++ [some (natD (opens l z)), some (natD (opens l z))]) :=
    (lv_0 rfl).repr2 (lv_1 rfl) (by omega) (szL (by omega)) (by omega)
  generalize toPy (.lst [.lst (l.map sh), nf z]) = p1 at *
  generalize toPy (.lst [.lst (natD (opens l z)), .lst (natD (opens l z))]) = p3 at *
  have r5 : primop false .repr [.ref (M.length + 2)] (M ++ [some (natD (opens l z) ++ [.int 9]), some (natD (opens l z)), some (natD (opens l z))]) = .ok (.str (toPy (.lst (natD (opens l z)))).shown) (M ++ [some (natD (opens l z) ++ [.int 9]), some (natD (opens l z)), some (natD (opens l z))]) :=
    p_repr_of (by unfold Mem.cont; rw [List.getElem?_append_right (by omega)]; simp) (by omega) (szL (by omega)) (by omega)
  generalize toPy (.lst (natD (opens l z))) = p2 at *
  have m1 : MP (M ++ [some (natD (opens l z))]) := hM.loc (mpB_1 hp)
  have hp9 : pures (natD (opens l z) ++ [.int 9]) = true := by
    have : natD (opens l z) ++ [.int 9] = natD (opens l z ++ [9]) := natD_snoc
    rw [this]; exact pures_nat
  have m2 : MP (M ++ [some (natD (opens l z) ++ [.int 9]), some (natD (opens l z))]) := hM.loc (mpB_2 hp9 hp)
  have o1 : callD n d_open_at [.lst (l.map sh), nf z] M = .ok (.ref (M.length + 0)) (M ++ [some (natD (opens l z))]) := oo M hM
  have o2 : callD n d_open_at [.lst (l.map sh), nf z] (M ++ [some (natD (opens l z))]) = .ok (.ref (M.length + 1)) (M ++ [some (natD (opens l z)), some (natD (opens l z))]) := by
    rw [oo _ m1, List.length_append, List.append_assoc]; rfl
  have o3 : callD n d_open_at [.lst (l.map sh), nf z] (M ++ [some (natD (opens l z) ++ [.int 9]), some (natD (opens l z))]) = .ok (.ref (M.length + 2)) (M ++ [some (natD (opens l z) ++ [.int 9]), some (natD (opens l z)), some (natD (opens l z))]) := by
    rw [oo _ m2, List.length_append, List.append_assoc]; rfl
  have ap := m_append_0 (M := M) (L' := [some (natD (opens l z))]) (v := .int 9) (xs := natD (opens l z)) rfl (size_small (by omega))
  have lv := live_0 (M := M) (L' := [some (natD (opens l z))]) (xs := natD (opens l z)) rfl
  clear B1 B2 B3 ho hb oo
  generalize l.map sh = xl at *
  generalize natD (opens l z) = os at *
  have key : ∃ M1, callD n d__law_right [.lst xl, nf z] M = .ok (.bl true) M1 ∧ M1.length = M.length ∧ M1 = M := by
    refine call_locP (R := (· = M)) ⟨rfl, by decide⟩ ?_ rfl
    simp (dsimp := false) (disch := first | assumption | exact Nat.le_of_ble_eq_true rfl | exact MP.loc (by assumption) rfl | omega) only [bnd_ok, bnd_no, turn_nx, turn_bk, turn_rt, ofO_some, seqR_nx, seqR_rt, seqR_bk, pick_t, pick_f, pick_d, pick_nd, pick_b, isB_b, ev_var, ev_int, ev_str, ev_bl, ev_non, ev_gint, ev_gcon, ev_rev, ev_isb, ev_tups, ev_lsts, evIs_nil, evIs_cons, evIs_star, isb_tt, isb_tf, isb_ft, isb_ff, ev_bin, ev_neg, ev_not, ev_and, ev_or, ev_cmp, ev_isn, ev_notn, ev_inn, ev_nin, ev_iteE, ev_tup, ev_lst, ev_ix, ev_sl, ev_call, ev_callk, ev_prim, ev_isi, ev_meth, evEs_nil, evEs_cons, evEo_none, evEo_some, evSs_cons, evSs_nil, es_ite, es_asg, es_setix, es_ret, es_retn, es_expr, es_pass, es_brk, es_whl, negD, notD, isn_non, isn_int, isn_bl, isn_str, isn_tup, isn_lst, isn_ref, notn_non, notn_int, notn_bl, notn_str, notn_tup, notn_lst, notn_ref, ixD, loD, rtD, nxD, setD, List.getElem?_cons_zero, List.getElem?_cons_succ, Option.join_some, b_add, b_sub, c_lt, c_le, c_gt, c_ge, c_eqi, c_nei, p_abs, p_int, p_max, p_min, put_0, put_s, put_tp, puts_nil, puts_cons, Option.map_some, Option.bind_some, fill_nil, fill_no, fill_so, ix_tup, ix_lst, atI_nat, live_non, live_int, live_bl, live_str, live_tup, live_lst, live_scr, kd_int_non, kd_int_bl, kd_int_int, kd_int_str, kd_int_tup, kd_int_lst, kd_int_ref, kd_int_scr, kd_bool_non, kd_bool_bl, kd_bool_int, kd_bool_str, kd_bool_tup, kd_bool_lst, kd_bool_ref, kd_bool_scr, kd_str_non, kd_str_bl, kd_str_int, kd_str_str, kd_str_tup, kd_str_lst, kd_str_ref, kd_str_scr, kd_list_non, kd_list_bl, kd_list_int, kd_list_str, kd_list_tup, kd_list_lst, kd_list_ref, kd_list_scr, kd_tuple_non, kd_tuple_bl, kd_tuple_int, kd_tuple_str, kd_tuple_tup, kd_tuple_lst, kd_tuple_ref, kd_tuple_scr, Sn.guard, if_true, if_false, Bool.not_true, Bool.not_false, decide_eq_true_eq, Bool.not_eq_true', decide_eq_false_iff_not, Bool.true_eq_false, Bool.false_eq_true, if_true, if_false, newT_of, newL_f, b_mod, b_fdiv, b_mul, b_pow, p_len2, p_len3, eq_self, and_self, decide_true, decide_false, reduceIte, p_reprB, c_ne_shownB, c_eq_shownB, c_eqB, c_neB, b_rep, List.replicate, List.flatten_cons, List.flatten_nil, List.cons_append, List.nil_append, List.set_cons_zero, List.set_cons_succ, r1, hc, kw_q_open_at_0, o1, o2, r4, r3, c3, c1, ap, lv, o3, r5, r2, c2]
    exact pst_ok ⟨M, _, rfl, rfl, hM, rfl, rfl⟩
  obtain ⟨M1, e, _, rfl⟩ := key
  exact e
theorem s_again {M : Mem} {r t : Nat} (hB : Bag M r t) (ht : t < 2 ^ 50) {l : List (G × G)} (hG : GoodB 70 120 l) (h1 : 1 ≤ l.length) (h2 : l.length ≤ 6) {o0 o1 o3 o5 o7 o8 o9 o10 o11 p12 p13 p14 p15 : Option D} {i : Nat} :
    Pst (evSs n (.cons (.asg (.tp [(.nm 7), (.nm 8)]) (.ix (.var 4) (.call d__law_draw (.cons (.var 2) (.cons (.prim false .len (.cons (.var 4) .nil)) .nil)))))
   (.cons (.asg (.nm 9) (.tup (.cons (.bin false .sub (.call d__law_draw (.cons (.var 2) (.cons (.int 41) .nil))) (.int 20)) (.cons (.bin false .sub (.call d__law_draw (.cons (.var 2) (.cons (.int 41) .nil))) (.int 20)) (.cons (.int 1) .nil)))))
   (.cons (.asg (.nm 10) (.call d__law_sum (.cons (.var 8) (.cons (.call d__law_times (.cons (.var 7) (.cons (.var 9) .nil))) .nil))))
   (.cons (.ite (.cmp .gt (.var 6) (.int 3)) (.cons (.asg (.nm 11) (.tup (.cons (.call d__law_draw (.cons (.var 2) (.cons (.int 3) .nil))) (.cons (.bin false .sub (.int 1) (.call d__law_draw (.cons (.var 2) (.cons (.int 3) .nil)))) .nil))))
   (.cons (.asg (.nm 10) (.call d__law_spot (.cons (.bin false .add (.ix (.var 10) (.int 0)) (.ix (.var 11) (.int 0))) (.cons (.bin false .add (.ix (.var 10) (.int 1)) (.ix (.var 11) (.int 1))) (.cons (.ix (.var 10) (.int 2)) .nil)))))
   .nil)) (.nil))
   (.cons (.ite (.not (.call d__law_right (.cons (.var 4) (.cons (.var 10) .nil)))) (.cons (.ret (.bl false))
   .nil) (.nil))
   .nil))))) [o0, o1, some (.ref r), o3, some (.lst (l.map sh)), o5, some (.int ((i : Nat) : Int)), o7, o8, o9, o10, o11, p12, p13, p14, p15] M) fun o M' => ∃ e7 e8 e9 e10 e11, o = .nx [o0, o1, some (.ref r), o3, some (.lst (l.map sh)), o5, some (.int ((i : Nat) : Int)), e7, e8, e9, e10, e11, p12, p13, p14, p15] ∧ Bag M' r (t + 6) := by
  have hlen : ∀ N, primop false .len [.lst (l.map sh)] N = .ok (.int (l.length : Nat)) N := fun N => by
    have := (LV.lst (M := N) (xs := l.map sh)).len (m := false)
    rw [List.length_map] at this
    exact this
  have zl : Sz ((l.length : Nat) : Int) 7 := ⟨by omega⟩
  obtain ⟨c, M1, e1, c0, c1, B1, _⟩ := s__law_draw (n := n) hB (by omega) (m := ((l.length : Nat) : Int)) (by omega) (by decide)
  obtain ⟨c, rfl⟩ := Int.eq_ofNat_of_zero_le c0
  have hc : c < l.length := by omega
  have hpc := List.getElem?_eq_getElem hc
  have hmec := List.getElem_mem hc
  generalize l[c] = p at hpc hmec
  have ia : ∀ N : Mem, ixop (.lst (l.map sh)) (c : Int) N = some (.tup [nf p.1, nf p.2]) := fun N => by rw [ix_lst, sh_at hpc]; rfl
  have p0 := hG.ne p hmec
  have ps := hG.s p hmec
  have pb := hG.b p hmec
  obtain ⟨u, M2, e2, u0, u1, B2, _⟩ := s__law_draw (n := n) B1 (by omega) (m := 41) (by omega) (by decide)
  obtain ⟨v, M3, e3, v0, v1, B3, _⟩ := s__law_draw (n := n) B2 (by omega) (m := 41) (by omega) (by decide)
  have q1 : (.tup [.int (u - 20), .int (v - 20), .int 1] : D) = nf (gw ⟨u - 20, v - 20⟩) := pl_gw
  have ww : Sw ⟨u - 20, v - 20⟩ 6 := ⟨by show (u - 20).natAbs < _; omega, by show (v - 20).natAbs < _; omega⟩
  have zw := ww.hz (by decide)
  have zz : Hz (p.2 + p.1 * gw ⟨u - 20, v - 20⟩) (120 + (70 + 6 + 1) + 1) := inferInstance
  have hM3 := B3.mp
  have gG : Good 200 l := (hG.mono (H' := 200) (B' := 200) (by decide) (by decide)).good
  by_cases hi : (i : Int) > 3
  · obtain ⟨a, M4, e4, a0, a1, B4, _⟩ := s__law_draw (n := n) B3 (by omega) (m := 3) (by omega) (by decide)
    obtain ⟨b, M5, e5, b0, b1, B5, _⟩ := s__law_draw (n := n) B4 (by omega) (m := 3) (by omega) (by decide)
    have hM5 := B5.mp
    have t1 := s__law_times (n := n) hn hM3 (z := p.1) (w := gw ⟨u - 20, v - 20⟩) (by omega)
    have t2 := s__law_sum (n := n) hn hM3 (z := p.2) (w := p.1 * gw ⟨u - 20, v - 20⟩) (by omega)
    generalize p.2 + p.1 * gw ⟨u - 20, v - 20⟩ = z at *
    obtain ⟨zx, zy, zp⟩ := zz.all
    have hp := gp_ne z
    have sx : Sz (gx z + a) 200 := ⟨by omega⟩
    have sy : Sz (gy z + (1 - b)) 200 := ⟨by omega⟩
    have z2 : Hz (gz (gx z + a) (gy z + (1 - b)) (gp z)) 200 := Hz.of hp sx.lt sy.lt (by omega)
    have t3 := s__law_spot (n := n) hn hM5 (x := gx z + a) (y := gy z + (1 - b)) (p := gp z) hp (by omega) (by omega)
    have t4 := s__law_right hn hM5 (z := gz (gx z + a) (gy z + (1 - b)) (gp z)) gG (by omega) h1 h2
    generalize l.map sh = xl at *
    simp (dsimp := false) (disch := first | assumption | exact Nat.le_of_ble_eq_true rfl | exact MP.loc (by assumption) rfl | omega) only [bnd_ok, bnd_no, turn_nx, turn_bk, turn_rt, ofO_some, seqR_nx, seqR_rt, seqR_bk, pick_t, pick_f, pick_d, pick_nd, pick_b, isB_b, ev_var, ev_int, ev_str, ev_bl, ev_non, ev_gint, ev_gcon, ev_rev, ev_isb, ev_tups, ev_lsts, evIs_nil, evIs_cons, evIs_star, isb_tt, isb_tf, isb_ft, isb_ff, ev_bin, ev_neg, ev_not, ev_and, ev_or, ev_cmp, ev_isn, ev_notn, ev_inn, ev_nin, ev_iteE, ev_tup, ev_lst, ev_ix, ev_sl, ev_call, ev_callk, ev_prim, ev_isi, ev_meth, evEs_nil, evEs_cons, evEo_none, evEo_some, evSs_cons, evSs_nil, es_ite, es_asg, es_setix, es_ret, es_retn, es_expr, es_pass, es_brk, es_whl, negD, notD, isn_non, isn_int, isn_bl, isn_str, isn_tup, isn_lst, isn_ref, notn_non, notn_int, notn_bl, notn_str, notn_tup, notn_lst, notn_ref, ixD, loD, rtD, nxD, setD, List.getElem?_cons_zero, List.getElem?_cons_succ, Option.join_some, b_add, b_sub, c_lt, c_le, c_gt, c_ge, c_eqi, c_nei, p_abs, p_int, p_max, p_min, put_0, put_s, put_tp, puts_nil, puts_cons, Option.map_some, Option.bind_some, fill_nil, fill_no, fill_so, ix_tup, ix_lst, atI_nat, live_non, live_int, live_bl, live_str, live_tup, live_lst, live_scr, kd_int_non, kd_int_bl, kd_int_int, kd_int_str, kd_int_tup, kd_int_lst, kd_int_ref, kd_int_scr, kd_bool_non, kd_bool_bl, kd_bool_int, kd_bool_str, kd_bool_tup, kd_bool_lst, kd_bool_ref, kd_bool_scr, kd_str_non, kd_str_bl, kd_str_int, kd_str_str, kd_str_tup, kd_str_lst, kd_str_ref, kd_str_scr, kd_list_non, kd_list_bl, kd_list_int, kd_list_str, kd_list_tup, kd_list_lst, kd_list_ref, kd_list_scr, kd_tuple_non, kd_tuple_bl, kd_tuple_int, kd_tuple_str, kd_tuple_tup, kd_tuple_lst, kd_tuple_ref, kd_tuple_scr, Sn.guard, if_true, if_false, Bool.not_true, Bool.not_false, decide_eq_true_eq, Bool.not_eq_true', decide_eq_false_iff_not, Bool.true_eq_false, Bool.false_eq_true, if_true, if_false, newT_of, newL_f, b_mod, b_fdiv, b_mul, b_pow, p_len2, p_len3, eq_self, and_self, decide_true, decide_false, reduceIte, p_reprB, c_ne_shownB, c_eq_shownB, c_eqB, c_neB, b_rep, List.replicate, List.flatten_cons, List.flatten_nil, List.cons_append, List.nil_append, List.set_cons_zero, List.set_cons_succ, c_neb, c_eqb, bne_self_eq_false, beq_self_eq_true, ev_chain, ifB_t, ifB_f, ifB_d, ifB_nd, sl_nf, sl_t3, p_len_scr, p_max3, p_min3, ix_pr0, ix_pr1, put_pr, pr_l0, pr_l1, c_ne_pr, ix_nf0, ix_nf1, ix_nf2, put_nf, p_len_nf, kind_nf, live_nf, isn_nf, notn_nf, kind_nf_int, kind_nf_bool, kind_nf_list, kind_nf_str, nf_l0, nf_l1, ix_qf0, ix_qf1, put_qf, kind_qf, live_qf, isn_qf, notn_qf, p_len_qf, c_eq_nf, c_ne_nf, c_eq_qf, c_ne_qf, hlen, e1, ia, e2, e3, q1, t1, t2, hi, e4, e5, t3, t4]
    exact pst_ok ⟨_, _, _, _, _, rfl, B5.more (by omega)⟩
  · have t1 := s__law_times (n := n) hn hM3 (z := p.1) (w := gw ⟨u - 20, v - 20⟩) (by omega)
    have t2 := s__law_sum (n := n) hn hM3 (z := p.2) (w := p.1 * gw ⟨u - 20, v - 20⟩) (by omega)
    have t4 := s__law_right hn hM3 (z := p.2 + p.1 * gw ⟨u - 20, v - 20⟩) gG (by omega) h1 h2
    generalize l.map sh = xl at *
    simp (dsimp := false) (disch := first | assumption | exact Nat.le_of_ble_eq_true rfl | exact MP.loc (by assumption) rfl | omega) only [bnd_ok, bnd_no, turn_nx, turn_bk, turn_rt, ofO_some, seqR_nx, seqR_rt, seqR_bk, pick_t, pick_f, pick_d, pick_nd, pick_b, isB_b, ev_var, ev_int, ev_str, ev_bl, ev_non, ev_gint, ev_gcon, ev_rev, ev_isb, ev_tups, ev_lsts, evIs_nil, evIs_cons, evIs_star, isb_tt, isb_tf, isb_ft, isb_ff, ev_bin, ev_neg, ev_not, ev_and, ev_or, ev_cmp, ev_isn, ev_notn, ev_inn, ev_nin, ev_iteE, ev_tup, ev_lst, ev_ix, ev_sl, ev_call, ev_callk, ev_prim, ev_isi, ev_meth, evEs_nil, evEs_cons, evEo_none, evEo_some, evSs_cons, evSs_nil, es_ite, es_asg, es_setix, es_ret, es_retn, es_expr, es_pass, es_brk, es_whl, negD, notD, isn_non, isn_int, isn_bl, isn_str, isn_tup, isn_lst, isn_ref, notn_non, notn_int, notn_bl, notn_str, notn_tup, notn_lst, notn_ref, ixD, loD, rtD, nxD, setD, List.getElem?_cons_zero, List.getElem?_cons_succ, Option.join_some, b_add, b_sub, c_lt, c_le, c_gt, c_ge, c_eqi, c_nei, p_abs, p_int, p_max, p_min, put_0, put_s, put_tp, puts_nil, puts_cons, Option.map_some, Option.bind_some, fill_nil, fill_no, fill_so, ix_tup, ix_lst, atI_nat, live_non, live_int, live_bl, live_str, live_tup, live_lst, live_scr, kd_int_non, kd_int_bl, kd_int_int, kd_int_str, kd_int_tup, kd_int_lst, kd_int_ref, kd_int_scr, kd_bool_non, kd_bool_bl, kd_bool_int, kd_bool_str, kd_bool_tup, kd_bool_lst, kd_bool_ref, kd_bool_scr, kd_str_non, kd_str_bl, kd_str_int, kd_str_str, kd_str_tup, kd_str_lst, kd_str_ref, kd_str_scr, kd_list_non, kd_list_bl, kd_list_int, kd_list_str, kd_list_tup, kd_list_lst, kd_list_ref, kd_list_scr, kd_tuple_non, kd_tuple_bl, kd_tuple_int, kd_tuple_str, kd_tuple_tup, kd_tuple_lst, kd_tuple_ref, kd_tuple_scr, Sn.guard, if_true, if_false, Bool.not_true, Bool.not_false, decide_eq_true_eq, Bool.not_eq_true', decide_eq_false_iff_not, Bool.true_eq_false, Bool.false_eq_true, if_true, if_false, newT_of, newL_f, b_mod, b_fdiv, b_mul, b_pow, p_len2, p_len3, eq_self, and_self, decide_true, decide_false, reduceIte, p_reprB, c_ne_shownB, c_eq_shownB, c_eqB, c_neB, b_rep, List.replicate, List.flatten_cons, List.flatten_nil, List.cons_append, List.nil_append, List.set_cons_zero, List.set_cons_succ, c_neb, c_eqb, bne_self_eq_false, beq_self_eq_true, ev_chain, ifB_t, ifB_f, ifB_d, ifB_nd, sl_nf, sl_t3, p_len_scr, p_max3, p_min3, ix_pr0, ix_pr1, put_pr, pr_l0, pr_l1, c_ne_pr, ix_nf0, ix_nf1, ix_nf2, put_nf, p_len_nf, kind_nf, live_nf, isn_nf, notn_nf, kind_nf_int, kind_nf_bool, kind_nf_list, kind_nf_str, nf_l0, nf_l1, ix_qf0, ix_qf1, put_qf, kind_qf, live_qf, isn_qf, notn_qf, p_len_qf, c_eq_nf, c_ne_nf, c_eq_qf, c_ne_qf, hlen, e1, ia, e2, e3, q1, t1, t2, hi, t4]
    exact pst_ok ⟨_, _, _, _, _, rfl, B3.more (by omega)⟩
theorem s_law {ns : List Int} (hl : ns.length ≤ 63) : callD n d_law [.scr (ns.map D.int)] [] = .ok (.bl true) [] := by
  refine call_pst ⟨rfl, by decide⟩ ?_ rfl
  rw [evSs_cons]
  obtain ⟨v, hit, hv, _⟩ := it_first (n := n) (M := ([] : Mem)) (env := [some (.scr (ns.map D.int)), none, none, none, none, none, none, none, none, none, none, none, none, none, none, none]) (ns := ns) (k := 4) rfl (by decide) (by decide)
  refine wp_for (fun k env M => MP M ∧ ∃ o1 o2 o3 o4 o5 o6 o7 o8 o9 o10 o11, env = [some (.scr (ns.map D.int)), o1, o2, o3, o4, o5, o6, o7, o8, o9, o10, o11, none, none, none, none]) hit ⟨MP.nil, _, _, _, _, _, _, _, _, _, _, _, rfl⟩ ?_ ?_
  · rintro i x hx env M ⟨hM, o1, o2, o3, o4, o5, o6, o7, o8, o9, o10, o11, rfl⟩
    obtain ⟨rfl, hi⟩ := range0_at hx
    refine ⟨_, rfl, ?_⟩
    obtain ⟨M1, eb, hB, _⟩ := s__law_pool (n := n) (M := M) hM (ns := ns) (at_ := (i : Int)) (by omega) (by omega)
    generalize M.length = r at eb hB
    simp (dsimp := false) (disch := first | assumption | exact Nat.le_of_ble_eq_true rfl | exact MP.loc (by assumption) rfl | omega) only [bnd_ok, bnd_no, turn_nx, turn_bk, turn_rt, ofO_some, seqR_nx, seqR_rt, seqR_bk, pick_t, pick_f, pick_d, pick_nd, pick_b, isB_b, ev_var, ev_int, ev_str, ev_bl, ev_non, ev_gint, ev_gcon, ev_rev, ev_isb, ev_tups, ev_lsts, evIs_nil, evIs_cons, evIs_star, isb_tt, isb_tf, isb_ft, isb_ff, ev_bin, ev_neg, ev_not, ev_and, ev_or, ev_cmp, ev_isn, ev_notn, ev_inn, ev_nin, ev_iteE, ev_tup, ev_lst, ev_ix, ev_sl, ev_call, ev_callk, ev_prim, ev_isi, ev_meth, evEs_nil, evEs_cons, evEo_none, evEo_some, evSs_cons, evSs_nil, es_ite, es_asg, es_setix, es_ret, es_retn, es_expr, es_pass, es_brk, es_whl, negD, notD, isn_non, isn_int, isn_bl, isn_str, isn_tup, isn_lst, isn_ref, notn_non, notn_int, notn_bl, notn_str, notn_tup, notn_lst, notn_ref, ixD, loD, rtD, nxD, setD, List.getElem?_cons_zero, List.getElem?_cons_succ, Option.join_some, b_add, b_sub, c_lt, c_le, c_gt, c_ge, c_eqi, c_nei, p_abs, p_int, p_max, p_min, put_0, put_s, put_tp, puts_nil, puts_cons, Option.map_some, Option.bind_some, fill_nil, fill_no, fill_so, ix_tup, ix_lst, atI_nat, live_non, live_int, live_bl, live_str, live_tup, live_lst, live_scr, kd_int_non, kd_int_bl, kd_int_int, kd_int_str, kd_int_tup, kd_int_lst, kd_int_ref, kd_int_scr, kd_bool_non, kd_bool_bl, kd_bool_int, kd_bool_str, kd_bool_tup, kd_bool_lst, kd_bool_ref, kd_bool_scr, kd_str_non, kd_str_bl, kd_str_int, kd_str_str, kd_str_tup, kd_str_lst, kd_str_ref, kd_str_scr, kd_list_non, kd_list_bl, kd_list_int, kd_list_str, kd_list_tup, kd_list_lst, kd_list_ref, kd_list_scr, kd_tuple_non, kd_tuple_bl, kd_tuple_int, kd_tuple_str, kd_tuple_tup, kd_tuple_lst, kd_tuple_ref, kd_tuple_scr, Sn.guard, if_true, if_false, Bool.not_true, Bool.not_false, decide_eq_true_eq, Bool.not_eq_true', decide_eq_false_iff_not, Bool.true_eq_false, Bool.false_eq_true, if_true, if_false, newT_of, newL_f, b_mod, b_fdiv, b_mul, b_pow, p_len2, p_len3, eq_self, and_self, decide_true, decide_false, reduceIte, p_reprB, c_ne_shownB, c_eq_shownB, c_eqB, c_neB, b_rep, List.replicate, List.flatten_cons, List.flatten_nil, List.cons_append, List.nil_append, List.set_cons_zero, List.set_cons_succ, eb]
    refine wp_for (fun k env M => Bag M r (2000 * k) ∧ ∃ o3 o4 o5 o6 o7 o8 o9 o10 o11, env = [some (.scr (ns.map D.int)), some (.int i), some (.ref r), o3, o4, o5, o6, o7, o8, o9, o10, o11, none, none, none, none]) (it_range (i := 4) (by simp (dsimp := false) (disch := first | assumption | exact Nat.le_of_ble_eq_true rfl | exact MP.loc (by assumption) rfl | omega) only [bnd_ok, bnd_no, turn_nx, turn_bk, turn_rt, ofO_some, seqR_nx, seqR_rt, seqR_bk, pick_t, pick_f, pick_d, pick_nd, pick_b, isB_b, ev_var, ev_int, ev_str, ev_bl, ev_non, ev_gint, ev_gcon, ev_rev, ev_isb, ev_tups, ev_lsts, evIs_nil, evIs_cons, evIs_star, isb_tt, isb_tf, isb_ft, isb_ff, ev_bin, ev_neg, ev_not, ev_and, ev_or, ev_cmp, ev_isn, ev_notn, ev_inn, ev_nin, ev_iteE, ev_tup, ev_lst, ev_ix, ev_sl, ev_call, ev_callk, ev_prim, ev_isi, ev_meth, evEs_nil, evEs_cons, evEo_none, evEo_some, evSs_cons, evSs_nil, es_ite, es_asg, es_setix, es_ret, es_retn, es_expr, es_pass, es_brk, es_whl, negD, notD, isn_non, isn_int, isn_bl, isn_str, isn_tup, isn_lst, isn_ref, notn_non, notn_int, notn_bl, notn_str, notn_tup, notn_lst, notn_ref, ixD, loD, rtD, nxD, setD, List.getElem?_cons_zero, List.getElem?_cons_succ, Option.join_some, b_add, b_sub, c_lt, c_le, c_gt, c_ge, c_eqi, c_nei, p_abs, p_int, p_max, p_min, put_0, put_s, put_tp, puts_nil, puts_cons, Option.map_some, Option.bind_some, fill_nil, fill_no, fill_so, ix_tup, ix_lst, atI_nat, live_non, live_int, live_bl, live_str, live_tup, live_lst, live_scr, kd_int_non, kd_int_bl, kd_int_int, kd_int_str, kd_int_tup, kd_int_lst, kd_int_ref, kd_int_scr, kd_bool_non, kd_bool_bl, kd_bool_int, kd_bool_str, kd_bool_tup, kd_bool_lst, kd_bool_ref, kd_bool_scr, kd_str_non, kd_str_bl, kd_str_int, kd_str_str, kd_str_tup, kd_str_lst, kd_str_ref, kd_str_scr, kd_list_non, kd_list_bl, kd_list_int, kd_list_str, kd_list_tup, kd_list_lst, kd_list_ref, kd_list_scr, kd_tuple_non, kd_tuple_bl, kd_tuple_int, kd_tuple_str, kd_tuple_tup, kd_tuple_lst, kd_tuple_ref, kd_tuple_scr, Sn.guard, if_true, if_false, Bool.not_true, Bool.not_false, decide_eq_true_eq, Bool.not_eq_true', decide_eq_false_iff_not, Bool.true_eq_false, Bool.false_eq_true, if_true, if_false, newT_of, newL_f, b_mod, b_fdiv, b_mul, b_pow, p_len2, p_len3, eq_self, and_self, decide_true, decide_false, reduceIte, p_reprB, c_ne_shownB, c_eq_shownB, c_eqB, c_neB, b_rep, List.replicate, List.flatten_cons, List.flatten_nil, List.cons_append, List.nil_append, List.set_cons_zero, List.set_cons_succ]) rfl) ⟨hB, _, _, _, _, _, _, _, _, _, rfl⟩ ?_ ?_
    · rintro j y hy env M ⟨hB, o3, o4, o5, o6, o7, o8, o9, o10, o11, rfl⟩
      obtain ⟨rfl, hj⟩ := range0_at hy
      have hj : j < 4 := hj
      refine ⟨_, rfl, ?_⟩
      by_cases h2 : (j : Int) < 2
      · obtain ⟨l, M2, e2, a1, a6, hG, B2, l2, S2⟩ := s__law_pile hn hB (by omega) (m := 6) (by decide) (by decide)
        have e2 : callD n d__law_pile [.ref r, .int 6] M = .ok (.lst (l.map sh)) M2 := e2
        simp (dsimp := false) (disch := first | assumption | exact Nat.le_of_ble_eq_true rfl | exact MP.loc (by assumption) rfl | omega) only [bnd_ok, bnd_no, turn_nx, turn_bk, turn_rt, ofO_some, seqR_nx, seqR_rt, seqR_bk, pick_t, pick_f, pick_d, pick_nd, pick_b, isB_b, ev_var, ev_int, ev_str, ev_bl, ev_non, ev_gint, ev_gcon, ev_rev, ev_isb, ev_tups, ev_lsts, evIs_nil, evIs_cons, evIs_star, isb_tt, isb_tf, isb_ft, isb_ff, ev_bin, ev_neg, ev_not, ev_and, ev_or, ev_cmp, ev_isn, ev_notn, ev_inn, ev_nin, ev_iteE, ev_tup, ev_lst, ev_ix, ev_sl, ev_call, ev_callk, ev_prim, ev_isi, ev_meth, evEs_nil, evEs_cons, evEo_none, evEo_some, evSs_cons, evSs_nil, es_ite, es_asg, es_setix, es_ret, es_retn, es_expr, es_pass, es_brk, es_whl, negD, notD, isn_non, isn_int, isn_bl, isn_str, isn_tup, isn_lst, isn_ref, notn_non, notn_int, notn_bl, notn_str, notn_tup, notn_lst, notn_ref, ixD, loD, rtD, nxD, setD, List.getElem?_cons_zero, List.getElem?_cons_succ, Option.join_some, b_add, b_sub, c_lt, c_le, c_gt, c_ge, c_eqi, c_nei, p_abs, p_int, p_max, p_min, put_0, put_s, put_tp, puts_nil, puts_cons, Option.map_some, Option.bind_some, fill_nil, fill_no, fill_so, ix_tup, ix_lst, atI_nat, live_non, live_int, live_bl, live_str, live_tup, live_lst, live_scr, kd_int_non, kd_int_bl, kd_int_int, kd_int_str, kd_int_tup, kd_int_lst, kd_int_ref, kd_int_scr, kd_bool_non, kd_bool_bl, kd_bool_int, kd_bool_str, kd_bool_tup, kd_bool_lst, kd_bool_ref, kd_bool_scr, kd_str_non, kd_str_bl, kd_str_int, kd_str_str, kd_str_tup, kd_str_lst, kd_str_ref, kd_str_scr, kd_list_non, kd_list_bl, kd_list_int, kd_list_str, kd_list_tup, kd_list_lst, kd_list_ref, kd_list_scr, kd_tuple_non, kd_tuple_bl, kd_tuple_int, kd_tuple_str, kd_tuple_tup, kd_tuple_lst, kd_tuple_ref, kd_tuple_scr, Sn.guard, if_true, if_false, Bool.not_true, Bool.not_false, decide_eq_true_eq, Bool.not_eq_true', decide_eq_false_iff_not, Bool.true_eq_false, Bool.false_eq_true, if_true, if_false, newT_of, newL_f, b_mod, b_fdiv, b_mul, b_pow, p_len2, p_len3, eq_self, and_self, decide_true, decide_false, reduceIte, p_reprB, c_ne_shownB, c_eq_shownB, c_eqB, c_neB, b_rep, List.replicate, List.flatten_cons, List.flatten_nil, List.cons_append, List.nil_append, List.set_cons_zero, List.set_cons_succ, h2, e2]
        refine wp_for (fun k env M => Bag M r (2000 * j + 1000 + 6 * k) ∧ ∃ o6 o7 o8 o9 o10 o11, env = [some (.scr (ns.map D.int)), some (.int i), some (.ref r), some (.int j), some (.lst (l.map sh)), o5, o6, o7, o8, o9, o10, o11, none, none, none, none]) (it_range (i := 6) (by simp (dsimp := false) (disch := first | assumption | exact Nat.le_of_ble_eq_true rfl | exact MP.loc (by assumption) rfl | omega) only [bnd_ok, bnd_no, turn_nx, turn_bk, turn_rt, ofO_some, seqR_nx, seqR_rt, seqR_bk, pick_t, pick_f, pick_d, pick_nd, pick_b, isB_b, ev_var, ev_int, ev_str, ev_bl, ev_non, ev_gint, ev_gcon, ev_rev, ev_isb, ev_tups, ev_lsts, evIs_nil, evIs_cons, evIs_star, isb_tt, isb_tf, isb_ft, isb_ff, ev_bin, ev_neg, ev_not, ev_and, ev_or, ev_cmp, ev_isn, ev_notn, ev_inn, ev_nin, ev_iteE, ev_tup, ev_lst, ev_ix, ev_sl, ev_call, ev_callk, ev_prim, ev_isi, ev_meth, evEs_nil, evEs_cons, evEo_none, evEo_some, evSs_cons, evSs_nil, es_ite, es_asg, es_setix, es_ret, es_retn, es_expr, es_pass, es_brk, es_whl, negD, notD, isn_non, isn_int, isn_bl, isn_str, isn_tup, isn_lst, isn_ref, notn_non, notn_int, notn_bl, notn_str, notn_tup, notn_lst, notn_ref, ixD, loD, rtD, nxD, setD, List.getElem?_cons_zero, List.getElem?_cons_succ, Option.join_some, b_add, b_sub, c_lt, c_le, c_gt, c_ge, c_eqi, c_nei, p_abs, p_int, p_max, p_min, put_0, put_s, put_tp, puts_nil, puts_cons, Option.map_some, Option.bind_some, fill_nil, fill_no, fill_so, ix_tup, ix_lst, atI_nat, live_non, live_int, live_bl, live_str, live_tup, live_lst, live_scr, kd_int_non, kd_int_bl, kd_int_int, kd_int_str, kd_int_tup, kd_int_lst, kd_int_ref, kd_int_scr, kd_bool_non, kd_bool_bl, kd_bool_int, kd_bool_str, kd_bool_tup, kd_bool_lst, kd_bool_ref, kd_bool_scr, kd_str_non, kd_str_bl, kd_str_int, kd_str_str, kd_str_tup, kd_str_lst, kd_str_ref, kd_str_scr, kd_list_non, kd_list_bl, kd_list_int, kd_list_str, kd_list_tup, kd_list_lst, kd_list_ref, kd_list_scr, kd_tuple_non, kd_tuple_bl, kd_tuple_int, kd_tuple_str, kd_tuple_tup, kd_tuple_lst, kd_tuple_ref, kd_tuple_scr, Sn.guard, if_true, if_false, Bool.not_true, Bool.not_false, decide_eq_true_eq, Bool.not_eq_true', decide_eq_false_iff_not, Bool.true_eq_false, Bool.false_eq_true, if_true, if_false, newT_of, newL_f, b_mod, b_fdiv, b_mul, b_pow, p_len2, p_len3, eq_self, and_self, decide_true, decide_false, reduceIte, p_reprB, c_ne_shownB, c_eq_shownB, c_eqB, c_neB, b_rep, List.replicate, List.flatten_cons, List.flatten_nil, List.cons_append, List.nil_append, List.set_cons_zero, List.set_cons_succ]) rfl) ⟨B2, _, _, _, _, _, _, rfl⟩ ?_ ?_
        · rintro g w hw env M ⟨hB, o6, o7, o8, o9, o10, o11, rfl⟩
          obtain ⟨rfl, hg⟩ := range0_at hw
          have hg : g < 6 := hg
          refine ⟨_, rfl, ?_⟩
          exact (s_again hn hB (by omega) (hG.mono (by decide) (by decide)) a1 a6).mono fun o M' ⟨e7, e8, e9, e10, e11, h, B⟩ => ⟨_, h, stays_nil, B.more (by omega), _, _, _, _, _, _, rfl⟩
        · rintro env M ⟨hB, o6, o7, o8, o9, o10, o11, rfl⟩
          have hB : Bag M r (2000 * j + 1000 + 6 * 6) := hB
          simp (dsimp := false) (disch := first | assumption | exact Nat.le_of_ble_eq_true rfl | exact MP.loc (by assumption) rfl | omega) only [bnd_ok, bnd_no, turn_nx, turn_bk, turn_rt, ofO_some, seqR_nx, seqR_rt, seqR_bk, pick_t, pick_f, pick_d, pick_nd, pick_b, isB_b, ev_var, ev_int, ev_str, ev_bl, ev_non, ev_gint, ev_gcon, ev_rev, ev_isb, ev_tups, ev_lsts, evIs_nil, evIs_cons, evIs_star, isb_tt, isb_tf, isb_ft, isb_ff, ev_bin, ev_neg, ev_not, ev_and, ev_or, ev_cmp, ev_isn, ev_notn, ev_inn, ev_nin, ev_iteE, ev_tup, ev_lst, ev_ix, ev_sl, ev_call, ev_callk, ev_prim, ev_isi, ev_meth, evEs_nil, evEs_cons, evEo_none, evEo_some, evSs_cons, evSs_nil, es_ite, es_asg, es_setix, es_ret, es_retn, es_expr, es_pass, es_brk, es_whl, negD, notD, isn_non, isn_int, isn_bl, isn_str, isn_tup, isn_lst, isn_ref, notn_non, notn_int, notn_bl, notn_str, notn_tup, notn_lst, notn_ref, ixD, loD, rtD, nxD, setD, List.getElem?_cons_zero, List.getElem?_cons_succ, Option.join_some, b_add, b_sub, c_lt, c_le, c_gt, c_ge, c_eqi, c_nei, p_abs, p_int, p_max, p_min, put_0, put_s, put_tp, puts_nil, puts_cons, Option.map_some, Option.bind_some, fill_nil, fill_no, fill_so, ix_tup, ix_lst, atI_nat, live_non, live_int, live_bl, live_str, live_tup, live_lst, live_scr, kd_int_non, kd_int_bl, kd_int_int, kd_int_str, kd_int_tup, kd_int_lst, kd_int_ref, kd_int_scr, kd_bool_non, kd_bool_bl, kd_bool_int, kd_bool_str, kd_bool_tup, kd_bool_lst, kd_bool_ref, kd_bool_scr, kd_str_non, kd_str_bl, kd_str_int, kd_str_str, kd_str_tup, kd_str_lst, kd_str_ref, kd_str_scr, kd_list_non, kd_list_bl, kd_list_int, kd_list_str, kd_list_tup, kd_list_lst, kd_list_ref, kd_list_scr, kd_tuple_non, kd_tuple_bl, kd_tuple_int, kd_tuple_str, kd_tuple_tup, kd_tuple_lst, kd_tuple_ref, kd_tuple_scr, Sn.guard, if_true, if_false, Bool.not_true, Bool.not_false, decide_eq_true_eq, Bool.not_eq_true', decide_eq_false_iff_not, Bool.true_eq_false, Bool.false_eq_true, if_true, if_false, newT_of, newL_f, b_mod, b_fdiv, b_mul, b_pow, p_len2, p_len3, eq_self, and_self, decide_true, decide_false, reduceIte, p_reprB, c_ne_shownB, c_eq_shownB, c_eqB, c_neB, b_rep, List.replicate, List.flatten_cons, List.flatten_nil, List.cons_append, List.nil_append, List.set_cons_zero, List.set_cons_succ]
          exact pst_ok ⟨_, rfl, stays_nil, hB.more (by omega), _, _, _, _, _, _, _, _, _, rfl⟩
      · obtain ⟨c, M1, e1, c0, c1, B1, _⟩ := s__law_draw (n := n) hB (by omega) (m := 6) (by omega) (by decide)
        obtain ⟨c, rfl⟩ := Int.eq_ofNat_of_zero_le c0
        obtain ⟨l, M2, e2, a1, a6, hG, B2⟩ : ∃ l M2, evE n (.comp false [5] (.call d__law_great (.cons (.var 2) .nil)) (.nm 5) (.range1 (.bin false .add (.int 1) (.call d__law_draw (.cons (.var 2) (.cons (.int 6) .nil))))) .none) [some (.scr (ns.map D.int)), some (.int i), some (.ref r), some (.int j), o4, o5, o6, o7, o8, o9, o10, o11, none, none, none, none] M = .ok (.lst (l.map sh)) M2 ∧ 1 ≤ l.length ∧ l.length ≤ 6 ∧ GoodB 70 70 l ∧ Bag M2 r (2000 * j + 100) := by
          have zc : Sz ((c : Nat) : Int) 7 := ⟨by omega⟩
          obtain ⟨ys, M2, e, hl, l, ha, BN, hG⟩ := comp_eff (n := n) (M := M) (M1 := M1) (env := [some (.scr (ns.map D.int)), some (.int i), some (.ref r), some (.int j), o4, o5, o6, o7, o8, o9, o10, o11, none, none, none, none]) (own := [5]) (elt := .call d__law_great (.cons (.var 2) .nil)) (tg := .nm 5) (it := .range1 (.bin false .add (.int 1) (.call d__law_draw (.cons (.var 2) (.cons (.int 6) .nil))))) (w := ⟨rangeD 0 (1 + ((c : Nat) : Int)).toNat, []⟩)
            (fun i acc N => ∃ l, acc = l.map sh ∧ Bag N r (2000 * j + 1 + 7 * i) ∧ GoodB 70 70 l) (it_range (i := 1 + ((c : Nat) : Int)) (by simp (dsimp := false) (disch := first | assumption | exact Nat.le_of_ble_eq_true rfl | exact MP.loc (by assumption) rfl | omega) only [bnd_ok, bnd_no, turn_nx, turn_bk, turn_rt, ofO_some, seqR_nx, seqR_rt, seqR_bk, pick_t, pick_f, pick_d, pick_nd, pick_b, isB_b, ev_var, ev_int, ev_str, ev_bl, ev_non, ev_gint, ev_gcon, ev_rev, ev_isb, ev_tups, ev_lsts, evIs_nil, evIs_cons, evIs_star, isb_tt, isb_tf, isb_ft, isb_ff, ev_bin, ev_neg, ev_not, ev_and, ev_or, ev_cmp, ev_isn, ev_notn, ev_inn, ev_nin, ev_iteE, ev_tup, ev_lst, ev_ix, ev_sl, ev_call, ev_callk, ev_prim, ev_isi, ev_meth, evEs_nil, evEs_cons, evEo_none, evEo_some, evSs_cons, evSs_nil, es_ite, es_asg, es_setix, es_ret, es_retn, es_expr, es_pass, es_brk, es_whl, negD, notD, isn_non, isn_int, isn_bl, isn_str, isn_tup, isn_lst, isn_ref, notn_non, notn_int, notn_bl, notn_str, notn_tup, notn_lst, notn_ref, ixD, loD, rtD, nxD, setD, List.getElem?_cons_zero, List.getElem?_cons_succ, Option.join_some, b_add, b_sub, c_lt, c_le, c_gt, c_ge, c_eqi, c_nei, p_abs, p_int, p_max, p_min, put_0, put_s, put_tp, puts_nil, puts_cons, Option.map_some, Option.bind_some, fill_nil, fill_no, fill_so, ix_tup, ix_lst, atI_nat, live_non, live_int, live_bl, live_str, live_tup, live_lst, live_scr, kd_int_non, kd_int_bl, kd_int_int, kd_int_str, kd_int_tup, kd_int_lst, kd_int_ref, kd_int_scr, kd_bool_non, kd_bool_bl, kd_bool_int, kd_bool_str, kd_bool_tup, kd_bool_lst, kd_bool_ref, kd_bool_scr, kd_str_non, kd_str_bl, kd_str_int, kd_str_str, kd_str_tup, kd_str_lst, kd_str_ref, kd_str_scr, kd_list_non, kd_list_bl, kd_list_int, kd_list_str, kd_list_tup, kd_list_lst, kd_list_ref, kd_list_scr, kd_tuple_non, kd_tuple_bl, kd_tuple_int, kd_tuple_str, kd_tuple_tup, kd_tuple_lst, kd_tuple_ref, kd_tuple_scr, Sn.guard, if_true, if_false, Bool.not_true, Bool.not_false, decide_eq_true_eq, Bool.not_eq_true', decide_eq_false_iff_not, Bool.true_eq_false, Bool.false_eq_true, if_true, if_false, newT_of, newL_f, b_mod, b_fdiv, b_mul, b_pow, p_len2, p_len3, eq_self, and_self, decide_true, decide_false, reduceIte, p_reprB, c_ne_shownB, c_eq_shownB, c_eqB, c_neB, b_rep, List.replicate, List.flatten_cons, List.flatten_nil, List.cons_append, List.nil_append, List.set_cons_zero, List.set_cons_succ, e1]) (by
              have : (1 + ((c : Nat) : Int)) = ((1 + c : Nat) : Int) := by omega
              rw [this]; exact rng_small (by omega))) ⟨[], rfl, B1, .nil⟩ (fun g x hx acc N ⟨l, ha, BN, hG⟩ => by
            obtain ⟨rfl, hg⟩ := range0_at hx
            have hg : g < 1 + c := by omega
            obtain ⟨s, b, N', eh, s0, zs, zb, BN', _⟩ := s__law_great hn BN (by omega)
            exact ⟨[some (.scr (ns.map D.int)), some (.int i), some (.ref r), some (.int j), o4, some (.int (g : Nat)), o6, o7, o8, o9, o10, o11, none, none, none, none], .tup [nf s, nf b], N', rfl, by simp (dsimp := false) (disch := first | assumption | exact Nat.le_of_ble_eq_true rfl | exact MP.loc (by assumption) rfl | omega) only [bnd_ok, bnd_no, turn_nx, turn_bk, turn_rt, ofO_some, seqR_nx, seqR_rt, seqR_bk, pick_t, pick_f, pick_d, pick_nd, pick_b, isB_b, ev_var, ev_int, ev_str, ev_bl, ev_non, ev_gint, ev_gcon, ev_rev, ev_isb, ev_tups, ev_lsts, evIs_nil, evIs_cons, evIs_star, isb_tt, isb_tf, isb_ft, isb_ff, ev_bin, ev_neg, ev_not, ev_and, ev_or, ev_cmp, ev_isn, ev_notn, ev_inn, ev_nin, ev_iteE, ev_tup, ev_lst, ev_ix, ev_sl, ev_call, ev_callk, ev_prim, ev_isi, ev_meth, evEs_nil, evEs_cons, evEo_none, evEo_some, evSs_cons, evSs_nil, es_ite, es_asg, es_setix, es_ret, es_retn, es_expr, es_pass, es_brk, es_whl, negD, notD, isn_non, isn_int, isn_bl, isn_str, isn_tup, isn_lst, isn_ref, notn_non, notn_int, notn_bl, notn_str, notn_tup, notn_lst, notn_ref, ixD, loD, rtD, nxD, setD, List.getElem?_cons_zero, List.getElem?_cons_succ, Option.join_some, b_add, b_sub, c_lt, c_le, c_gt, c_ge, c_eqi, c_nei, p_abs, p_int, p_max, p_min, put_0, put_s, put_tp, puts_nil, puts_cons, Option.map_some, Option.bind_some, fill_nil, fill_no, fill_so, ix_tup, ix_lst, atI_nat, live_non, live_int, live_bl, live_str, live_tup, live_lst, live_scr, kd_int_non, kd_int_bl, kd_int_int, kd_int_str, kd_int_tup, kd_int_lst, kd_int_ref, kd_int_scr, kd_bool_non, kd_bool_bl, kd_bool_int, kd_bool_str, kd_bool_tup, kd_bool_lst, kd_bool_ref, kd_bool_scr, kd_str_non, kd_str_bl, kd_str_int, kd_str_str, kd_str_tup, kd_str_lst, kd_str_ref, kd_str_scr, kd_list_non, kd_list_bl, kd_list_int, kd_list_str, kd_list_tup, kd_list_lst, kd_list_ref, kd_list_scr, kd_tuple_non, kd_tuple_bl, kd_tuple_int, kd_tuple_str, kd_tuple_tup, kd_tuple_lst, kd_tuple_ref, kd_tuple_scr, Sn.guard, if_true, if_false, Bool.not_true, Bool.not_false, decide_eq_true_eq, Bool.not_eq_true', decide_eq_false_iff_not, Bool.true_eq_false, Bool.false_eq_true, if_true, if_false, newT_of, newL_f, b_mod, b_fdiv, b_mul, b_pow, p_len2, p_len3, eq_self, and_self, decide_true, decide_false, reduceIte, p_reprB, c_ne_shownB, c_eq_shownB, c_eqB, c_neB, b_rep, List.replicate, List.flatten_cons, List.flatten_nil, List.cons_append, List.nil_append, List.set_cons_zero, List.set_cons_succ, eh], stays_nil, l ++ [(s, b)], by rw [ha, List.map_append]; rfl, BN'.more (by omega), hG.snoc s0 zs zb⟩) (by show (rangeD 0 (1 + ((c : Nat) : Int)).toNat).length ≤ sizeLine; unfold rangeD; rw [List.length_map, List.length_range]; exact size_small (by omega))
          have hlm : (rangeD 0 (1 + ((c : Nat) : Int)).toNat).length = 1 + c := by unfold rangeD; rw [List.length_map, List.length_range]; omega
          have BN : Bag M2 r (2000 * j + 1 + 7 * (rangeD 0 (1 + ((c : Nat) : Int)).toNat).length) := BN
          rw [hlm] at BN
          have hl := hl.trans hlm
          subst ha
          rw [List.length_map] at hl
          exact ⟨l, M2, e, by omega, by omega, hG, BN.more (by omega)⟩
        simp (dsimp := false) (disch := first | assumption | exact Nat.le_of_ble_eq_true rfl | exact MP.loc (by assumption) rfl | omega) only [bnd_ok, bnd_no, turn_nx, turn_bk, turn_rt, ofO_some, seqR_nx, seqR_rt, seqR_bk, pick_t, pick_f, pick_d, pick_nd, pick_b, isB_b, ev_var, ev_int, ev_str, ev_bl, ev_non, ev_gint, ev_gcon, ev_rev, ev_isb, ev_tups, ev_lsts, evIs_nil, evIs_cons, evIs_star, isb_tt, isb_tf, isb_ft, isb_ff, ev_bin, ev_neg, ev_not, ev_and, ev_or, ev_cmp, ev_isn, ev_notn, ev_inn, ev_nin, ev_iteE, ev_tup, ev_lst, ev_ix, ev_sl, ev_call, ev_callk, ev_prim, ev_isi, ev_meth, evEs_nil, evEs_cons, evEo_none, evEo_some, evSs_cons, evSs_nil, es_ite, es_asg, es_setix, es_ret, es_retn, es_expr, es_pass, es_brk, es_whl, negD, notD, isn_non, isn_int, isn_bl, isn_str, isn_tup, isn_lst, isn_ref, notn_non, notn_int, notn_bl, notn_str, notn_tup, notn_lst, notn_ref, ixD, loD, rtD, nxD, setD, List.getElem?_cons_zero, List.getElem?_cons_succ, Option.join_some, b_add, b_sub, c_lt, c_le, c_gt, c_ge, c_eqi, c_nei, p_abs, p_int, p_max, p_min, put_0, put_s, put_tp, puts_nil, puts_cons, Option.map_some, Option.bind_some, fill_nil, fill_no, fill_so, ix_tup, ix_lst, atI_nat, live_non, live_int, live_bl, live_str, live_tup, live_lst, live_scr, kd_int_non, kd_int_bl, kd_int_int, kd_int_str, kd_int_tup, kd_int_lst, kd_int_ref, kd_int_scr, kd_bool_non, kd_bool_bl, kd_bool_int, kd_bool_str, kd_bool_tup, kd_bool_lst, kd_bool_ref, kd_bool_scr, kd_str_non, kd_str_bl, kd_str_int, kd_str_str, kd_str_tup, kd_str_lst, kd_str_ref, kd_str_scr, kd_list_non, kd_list_bl, kd_list_int, kd_list_str, kd_list_tup, kd_list_lst, kd_list_ref, kd_list_scr, kd_tuple_non, kd_tuple_bl, kd_tuple_int, kd_tuple_str, kd_tuple_tup, kd_tuple_lst, kd_tuple_ref, kd_tuple_scr, Sn.guard, if_true, if_false, Bool.not_true, Bool.not_false, decide_eq_true_eq, Bool.not_eq_true', decide_eq_false_iff_not, Bool.true_eq_false, Bool.false_eq_true, if_true, if_false, newT_of, newL_f, b_mod, b_fdiv, b_mul, b_pow, p_len2, p_len3, eq_self, and_self, decide_true, decide_false, reduceIte, p_reprB, c_ne_shownB, c_eq_shownB, c_eqB, c_neB, b_rep, List.replicate, List.flatten_cons, List.flatten_nil, List.cons_append, List.nil_append, List.set_cons_zero, List.set_cons_succ, h2, e2]
        refine wp_for (fun k env M => Bag M r (2000 * j + 100 + 6 * k) ∧ ∃ o6 o7 o8 o9 o10 o11, env = [some (.scr (ns.map D.int)), some (.int i), some (.ref r), some (.int j), some (.lst (l.map sh)), o5, o6, o7, o8, o9, o10, o11, none, none, none, none]) (it_range (i := 6) (by simp (dsimp := false) (disch := first | assumption | exact Nat.le_of_ble_eq_true rfl | exact MP.loc (by assumption) rfl | omega) only [bnd_ok, bnd_no, turn_nx, turn_bk, turn_rt, ofO_some, seqR_nx, seqR_rt, seqR_bk, pick_t, pick_f, pick_d, pick_nd, pick_b, isB_b, ev_var, ev_int, ev_str, ev_bl, ev_non, ev_gint, ev_gcon, ev_rev, ev_isb, ev_tups, ev_lsts, evIs_nil, evIs_cons, evIs_star, isb_tt, isb_tf, isb_ft, isb_ff, ev_bin, ev_neg, ev_not, ev_and, ev_or, ev_cmp, ev_isn, ev_notn, ev_inn, ev_nin, ev_iteE, ev_tup, ev_lst, ev_ix, ev_sl, ev_call, ev_callk, ev_prim, ev_isi, ev_meth, evEs_nil, evEs_cons, evEo_none, evEo_some, evSs_cons, evSs_nil, es_ite, es_asg, es_setix, es_ret, es_retn, es_expr, es_pass, es_brk, es_whl, negD, notD, isn_non, isn_int, isn_bl, isn_str, isn_tup, isn_lst, isn_ref, notn_non, notn_int, notn_bl, notn_str, notn_tup, notn_lst, notn_ref, ixD, loD, rtD, nxD, setD, List.getElem?_cons_zero, List.getElem?_cons_succ, Option.join_some, b_add, b_sub, c_lt, c_le, c_gt, c_ge, c_eqi, c_nei, p_abs, p_int, p_max, p_min, put_0, put_s, put_tp, puts_nil, puts_cons, Option.map_some, Option.bind_some, fill_nil, fill_no, fill_so, ix_tup, ix_lst, atI_nat, live_non, live_int, live_bl, live_str, live_tup, live_lst, live_scr, kd_int_non, kd_int_bl, kd_int_int, kd_int_str, kd_int_tup, kd_int_lst, kd_int_ref, kd_int_scr, kd_bool_non, kd_bool_bl, kd_bool_int, kd_bool_str, kd_bool_tup, kd_bool_lst, kd_bool_ref, kd_bool_scr, kd_str_non, kd_str_bl, kd_str_int, kd_str_str, kd_str_tup, kd_str_lst, kd_str_ref, kd_str_scr, kd_list_non, kd_list_bl, kd_list_int, kd_list_str, kd_list_tup, kd_list_lst, kd_list_ref, kd_list_scr, kd_tuple_non, kd_tuple_bl, kd_tuple_int, kd_tuple_str, kd_tuple_tup, kd_tuple_lst, kd_tuple_ref, kd_tuple_scr, Sn.guard, if_true, if_false, Bool.not_true, Bool.not_false, decide_eq_true_eq, Bool.not_eq_true', decide_eq_false_iff_not, Bool.true_eq_false, Bool.false_eq_true, if_true, if_false, newT_of, newL_f, b_mod, b_fdiv, b_mul, b_pow, p_len2, p_len3, eq_self, and_self, decide_true, decide_false, reduceIte, p_reprB, c_ne_shownB, c_eq_shownB, c_eqB, c_neB, b_rep, List.replicate, List.flatten_cons, List.flatten_nil, List.cons_append, List.nil_append, List.set_cons_zero, List.set_cons_succ]) rfl) ⟨B2, _, _, _, _, _, _, rfl⟩ ?_ ?_
        · rintro g w hw env M ⟨hB, o6, o7, o8, o9, o10, o11, rfl⟩
          obtain ⟨rfl, hg⟩ := range0_at hw
          have hg : g < 6 := hg
          refine ⟨_, rfl, ?_⟩
          exact (s_again hn hB (by omega) (hG.mono (by decide) (by decide)) a1 a6).mono fun o M' ⟨e7, e8, e9, e10, e11, h, B⟩ => ⟨_, h, stays_nil, B.more (by omega), _, _, _, _, _, _, rfl⟩
        · rintro env M ⟨hB, o6, o7, o8, o9, o10, o11, rfl⟩
          have hB : Bag M r (2000 * j + 100 + 6 * 6) := hB
          simp (dsimp := false) (disch := first | assumption | exact Nat.le_of_ble_eq_true rfl | exact MP.loc (by assumption) rfl | omega) only [bnd_ok, bnd_no, turn_nx, turn_bk, turn_rt, ofO_some, seqR_nx, seqR_rt, seqR_bk, pick_t, pick_f, pick_d, pick_nd, pick_b, isB_b, ev_var, ev_int, ev_str, ev_bl, ev_non, ev_gint, ev_gcon, ev_rev, ev_isb, ev_tups, ev_lsts, evIs_nil, evIs_cons, evIs_star, isb_tt, isb_tf, isb_ft, isb_ff, ev_bin, ev_neg, ev_not, ev_and, ev_or, ev_cmp, ev_isn, ev_notn, ev_inn, ev_nin, ev_iteE, ev_tup, ev_lst, ev_ix, ev_sl, ev_call, ev_callk, ev_prim, ev_isi, ev_meth, evEs_nil, evEs_cons, evEo_none, evEo_some, evSs_cons, evSs_nil, es_ite, es_asg, es_setix, es_ret, es_retn, es_expr, es_pass, es_brk, es_whl, negD, notD, isn_non, isn_int, isn_bl, isn_str, isn_tup, isn_lst, isn_ref, notn_non, notn_int, notn_bl, notn_str, notn_tup, notn_lst, notn_ref, ixD, loD, rtD, nxD, setD, List.getElem?_cons_zero, List.getElem?_cons_succ, Option.join_some, b_add, b_sub, c_lt, c_le, c_gt, c_ge, c_eqi, c_nei, p_abs, p_int, p_max, p_min, put_0, put_s, put_tp, puts_nil, puts_cons, Option.map_some, Option.bind_some, fill_nil, fill_no, fill_so, ix_tup, ix_lst, atI_nat, live_non, live_int, live_bl, live_str, live_tup, live_lst, live_scr, kd_int_non, kd_int_bl, kd_int_int, kd_int_str, kd_int_tup, kd_int_lst, kd_int_ref, kd_int_scr, kd_bool_non, kd_bool_bl, kd_bool_int, kd_bool_str, kd_bool_tup, kd_bool_lst, kd_bool_ref, kd_bool_scr, kd_str_non, kd_str_bl, kd_str_int, kd_str_str, kd_str_tup, kd_str_lst, kd_str_ref, kd_str_scr, kd_list_non, kd_list_bl, kd_list_int, kd_list_str, kd_list_tup, kd_list_lst, kd_list_ref, kd_list_scr, kd_tuple_non, kd_tuple_bl, kd_tuple_int, kd_tuple_str, kd_tuple_tup, kd_tuple_lst, kd_tuple_ref, kd_tuple_scr, Sn.guard, if_true, if_false, Bool.not_true, Bool.not_false, decide_eq_true_eq, Bool.not_eq_true', decide_eq_false_iff_not, Bool.true_eq_false, Bool.false_eq_true, if_true, if_false, newT_of, newL_f, b_mod, b_fdiv, b_mul, b_pow, p_len2, p_len3, eq_self, and_self, decide_true, decide_false, reduceIte, p_reprB, c_ne_shownB, c_eq_shownB, c_eqB, c_neB, b_rep, List.replicate, List.flatten_cons, List.flatten_nil, List.cons_append, List.nil_append, List.set_cons_zero, List.set_cons_succ]
          exact pst_ok ⟨_, rfl, stays_nil, hB.more (by omega), _, _, _, _, _, _, _, _, _, rfl⟩
    · rintro env M ⟨hB, o3, o4, o5, o6, o7, o8, o9, o10, o11, rfl⟩
      simp (dsimp := false) (disch := first | assumption | exact Nat.le_of_ble_eq_true rfl | exact MP.loc (by assumption) rfl | omega) only [bnd_ok, bnd_no, turn_nx, turn_bk, turn_rt, ofO_some, seqR_nx, seqR_rt, seqR_bk, pick_t, pick_f, pick_d, pick_nd, pick_b, isB_b, ev_var, ev_int, ev_str, ev_bl, ev_non, ev_gint, ev_gcon, ev_rev, ev_isb, ev_tups, ev_lsts, evIs_nil, evIs_cons, evIs_star, isb_tt, isb_tf, isb_ft, isb_ff, ev_bin, ev_neg, ev_not, ev_and, ev_or, ev_cmp, ev_isn, ev_notn, ev_inn, ev_nin, ev_iteE, ev_tup, ev_lst, ev_ix, ev_sl, ev_call, ev_callk, ev_prim, ev_isi, ev_meth, evEs_nil, evEs_cons, evEo_none, evEo_some, evSs_cons, evSs_nil, es_ite, es_asg, es_setix, es_ret, es_retn, es_expr, es_pass, es_brk, es_whl, negD, notD, isn_non, isn_int, isn_bl, isn_str, isn_tup, isn_lst, isn_ref, notn_non, notn_int, notn_bl, notn_str, notn_tup, notn_lst, notn_ref, ixD, loD, rtD, nxD, setD, List.getElem?_cons_zero, List.getElem?_cons_succ, Option.join_some, b_add, b_sub, c_lt, c_le, c_gt, c_ge, c_eqi, c_nei, p_abs, p_int, p_max, p_min, put_0, put_s, put_tp, puts_nil, puts_cons, Option.map_some, Option.bind_some, fill_nil, fill_no, fill_so, ix_tup, ix_lst, atI_nat, live_non, live_int, live_bl, live_str, live_tup, live_lst, live_scr, kd_int_non, kd_int_bl, kd_int_int, kd_int_str, kd_int_tup, kd_int_lst, kd_int_ref, kd_int_scr, kd_bool_non, kd_bool_bl, kd_bool_int, kd_bool_str, kd_bool_tup, kd_bool_lst, kd_bool_ref, kd_bool_scr, kd_str_non, kd_str_bl, kd_str_int, kd_str_str, kd_str_tup, kd_str_lst, kd_str_ref, kd_str_scr, kd_list_non, kd_list_bl, kd_list_int, kd_list_str, kd_list_tup, kd_list_lst, kd_list_ref, kd_list_scr, kd_tuple_non, kd_tuple_bl, kd_tuple_int, kd_tuple_str, kd_tuple_tup, kd_tuple_lst, kd_tuple_ref, kd_tuple_scr, Sn.guard, if_true, if_false, Bool.not_true, Bool.not_false, decide_eq_true_eq, Bool.not_eq_true', decide_eq_false_iff_not, Bool.true_eq_false, Bool.false_eq_true, if_true, if_false, newT_of, newL_f, b_mod, b_fdiv, b_mul, b_pow, p_len2, p_len3, eq_self, and_self, decide_true, decide_false, reduceIte, p_reprB, c_ne_shownB, c_eq_shownB, c_eqB, c_neB, b_rep, List.replicate, List.flatten_cons, List.flatten_nil, List.cons_append, List.nil_append, List.set_cons_zero, List.set_cons_succ]
      exact pst_ok ⟨_, rfl, stays_nil, hB.mp, _, _, _, _, _, _, _, _, _, _, _, rfl⟩
  · rintro env M ⟨hM, o1, o2, o3, o4, o5, o6, o7, o8, o9, o10, o11, rfl⟩
    have N0 : Norm 1 0 1 := ⟨by decide, by decide⟩
    have N1 : Norm 3 4 5 := ⟨by decide, by decide⟩
    have N2 : Norm 2 1 1 := ⟨by decide, by decide⟩
    have N3 : Norm 1 0 2 := ⟨by decide, by decide⟩
    have k0 : (.tup [.int 0, .int 0, .int 1] : D) = nf 0 := nf_l0
    have k1 : (.tup [.int 1, .int 0, .int 1] : D) = nf (gz 1 0 1) := pl_nf N0
    have k2 : (.tup [.int 3, .int 4, .int 5] : D) = nf (gz 3 4 5) := pl_nf N1
    have k3 : (.tup [.int 2, .int 1, .int 1] : D) = nf (gz 2 1 1) := pl_nf N2
    have k4 : (.tup [.int 1, .int 0, .int 2] : D) = nf (gz 1 0 2) := pl_nf N3
    have hz : ∀ a b c : Int, c ≠ 0 → a.natAbs < 2 ^ 9 → b.natAbs < 2 ^ 9 → c.natAbs < 2 ^ 9 → Hz (gz a b c) 9 := fun a b c h0 h1 h2 h3 => Hz.of h0 h1 h2 h3
    have z1 := hz 1 0 1 (by decide) (by decide) (by decide) (by decide)
    have z2 := hz 3 4 5 (by decide) (by decide) (by decide) (by decide)
    have z3 := hz 2 1 1 (by decide) (by decide) (by decide) (by decide)
    have z4 := hz 1 0 2 (by decide) (by decide) (by decide) (by decide)
    have n1 : gz 1 0 1 ≠ 0 := gz_ne (by decide) (by decide)
    have n2 : gz 3 4 5 ≠ 0 := gz_ne (by decide) (by decide)
    have n3 : gz 2 1 1 ≠ 0 := gz_ne (by decide) (by decide)
    have hG : Good 9 [(gz 1 0 1, (0 : G)), (gz 3 4 5, 0), (gz 2 1 1, 0)] := by
      have a0 : Hz (0 : G) 9 := (inferInstance : Hz (0 : G) 1).mono (by decide)
      refine ⟨fun p hp => ?_, fun p hp => ?_, fun p hp => ?_⟩
      all_goals
        simp only [List.mem_cons, List.not_mem_nil, or_false] at hp
        rcases hp with rfl | rfl | rfl <;> assumption
    have io : ∀ (x y p : Int) (b1 b2 b3 : Bool), Norm x y p → (decide (((x * 1 + y * 0) * 1).fmod (p * (1 * 1 + 0 * 0)) = 0) && decide (((y * 1 - x * 0) * 1).fmod (p * (1 * 1 + 0 * 0)) = 0)) = b1 →
        (decide (((x * 3 + y * 4) * 5).fmod (p * (3 * 3 + 4 * 4)) = 0) && decide (((y * 3 - x * 4) * 5).fmod (p * (3 * 3 + 4 * 4)) = 0)) = b2 →
        (decide (((x * 2 + y * 1) * 1).fmod (p * (2 * 2 + 1 * 1)) = 0) && decide (((y * 2 - x * 1) * 1).fmod (p * (2 * 2 + 1 * 1)) = 0)) = b3 →
        opens [(gz 1 0 1, (0 : G)), (gz 3 4 5, 0), (gz 2 1 1, 0)] (gz x y p) = (if b1 then [0] else []) ++ (if b2 then [1] else []) ++ (if b3 then [2] else []) := fun x y p b1 b2 b3 hN h1 h2 h3 => by
      have e1 : isOpen [(gz 1 0 1, (0 : G)), (gz 3 4 5, 0), (gz 2 1 1, 0)] (gz x y p) 0 = b1 := (isOpen_at rfl).trans ((open_lit N0 (by decide) hN).trans h1)
      have e2 : isOpen [(gz 1 0 1, (0 : G)), (gz 3 4 5, 0), (gz 2 1 1, 0)] (gz x y p) 1 = b2 := (isOpen_at rfl).trans ((open_lit N1 (by decide) hN).trans h2)
      have e3 : isOpen [(gz 1 0 1, (0 : G)), (gz 3 4 5, 0), (gz 2 1 1, 0)] (gz x y p) 2 = b3 := (isOpen_at rfl).trans ((open_lit N2 (by decide) hN).trans h3)
      show [0, 1, 2].filter (isOpen _ _) = _
      rw [List.filter_cons, List.filter_cons, List.filter_cons, List.filter_nil, e1, e2, e3]
      cases b1 <;> cases b2 <;> cases b3 <;> rfl
    have oo : ∀ (N : Mem) (q : Nat) (z : G) (os : List Nat), opens [(gz 1 0 1, (0 : G)), (gz 3 4 5, 0), (gz 2 1 1, 0)] z = os → Hz z 9 → MP N → N.length = q → callD n d_open_at [.lst [.tup [nf (gz 1 0 1), nf 0], .tup [nf (gz 3 4 5), nf 0], .tup [nf (gz 2 1 1), nf 0]], nf z] N = .ok (.ref q) (N ++ [some (natD os)]) := fun N q z os ho hz hN hq => by
      subst hq
      have := s_open_at (n := n) hn hN (d := .lst ([(gz 1 0 1, (0 : G)), (gz 3 4 5, 0), (gz 2 1 1, 0)].map sh)) (z := z) LV.lst hG (by decide) (by decide) (by decide) (by decide)
      rw [ho] at this
      exact this
    have p1 : opens [(gz 1 0 1, (0 : G)), (gz 3 4 5, 0), (gz 2 1 1, 0)] (gz 2 1 1) = [0, 1, 2] := io 2 1 1 true true true N2 (by decide) (by decide) (by decide)
    have p2 : opens [(gz 1 0 1, (0 : G)), (gz 3 4 5, 0), (gz 2 1 1, 0)] (gz 1 0 1) = [0] := io 1 0 1 true false false N0 (by decide) (by decide) (by decide)
    have p3 : opens [(gz 1 0 1, (0 : G)), (gz 3 4 5, 0), (gz 2 1 1, 0)] (gz 3 4 5) = [1] := io 3 4 5 false true false N1 (by decide) (by decide) (by decide)
    have p4 : opens [(gz 1 0 1, (0 : G)), (gz 3 4 5, 0), (gz 2 1 1, 0)] (gz 1 0 2) = [] := io 1 0 2 false false false N3 (by decide) (by decide) (by decide)
    have ml : ∀ L : List (List Nat), MP (M ++ L.map fun is => some (natD is)) := fun L => hM.loc (by
      unfold mpB
      induction L with
      | nil => rfl
      | cons a L ih => simp only [List.map_cons, List.all_cons, pures_nat, ih, Bool.and_self])
    have f1 := oo M (M.length + 0) _ _ p1 z3 hM rfl
    have f2 := oo (M ++ [some (natD [0, 1, 2])]) (M.length + 1) _ _ p2 z1 (ml [[0, 1, 2]]) (by simp)
    have f3 := oo (M ++ [some (natD [0, 1, 2]), some (natD [0])]) (M.length + 2) _ _ p3 z2 (ml [[0, 1, 2], [0]]) (by simp)
    have f4 := oo (M ++ [some (natD [0, 1, 2]), some (natD [0]), some (natD [1])]) (M.length + 3) _ _ p4 z4 (ml [[0, 1, 2], [0], [1]]) (by simp)
    rw [List.append_assoc] at f2 f3 f4
    have c1 : cmpop .eq (.lst [.ref (M.length + 0), .ref (M.length + 1), .ref (M.length + 2), .ref (M.length + 3)]) (.lst [.lst [.int 0, .int 1, .int 2], .lst [.int 0], .lst [.int 1], .lst []]) (M ++ [some (natD [0, 1, 2]), some (natD [0]), some (natD [1]), some (natD [])]) = some true := by
      have B : Bd (.lst [.lst [.int 0, .int 1, .int 2], .lst [.int 0], .lst [.int 1], .lst []]) _ _ _ := inferInstance
      have e := c_eqB (M := M ++ [some (natD [0, 1, 2]), some (natD [0]), some (natD [1]), some (natD [])]) (d := .lst [.lst [.int 0, .int 1, .int 2], .lst [.int 0], .lst [.int 1], .lst []]) (by decide)
      rw [cmp_eq, eqop_pyN Bd.pyN Bd.pyN] at e
      rw [cmp_eq, eqop_pyN (q := toPy (.lst [.lst [.int 0, .int 1, .int 2], .lst [.int 0], .lst [.int 1], .lst []])) (p := toPy (.lst [.lst [.int 0, .int 1, .int 2], .lst [.int 0], .lst [.int 1], .lst []])) ?_ Bd.pyN]
      · exact e
      · have g : ∀ i xs, [some (natD [0, 1, 2]), some (natD [0]), some (natD [1]), some (natD [])][i]? = some (some xs) → Mem.cont (M ++ [some (natD [0, 1, 2]), some (natD [0]), some (natD [1]), some (natD [])]) (M.length + i) = some xs := fun i xs h => by
          unfold Mem.cont
          rw [List.getElem?_append_right (by omega), Nat.add_sub_cancel_left, h]
          rfl
        simp only [D.pyN, pysN, g 0 _ rfl, g 1 _ rfl, g 2 _ rfl, g 3 _ rfl]
        rfl
    clear oo ml io
    simp (dsimp := false) (disch := first | assumption | exact Nat.le_of_ble_eq_true rfl | exact MP.loc (by assumption) rfl | omega) only [bnd_ok, bnd_no, turn_nx, turn_bk, turn_rt, ofO_some, seqR_nx, seqR_rt, seqR_bk, pick_t, pick_f, pick_d, pick_nd, pick_b, isB_b, ev_var, ev_int, ev_str, ev_bl, ev_non, ev_gint, ev_gcon, ev_rev, ev_isb, ev_tups, ev_lsts, evIs_nil, evIs_cons, evIs_star, isb_tt, isb_tf, isb_ft, isb_ff, ev_bin, ev_neg, ev_not, ev_and, ev_or, ev_cmp, ev_isn, ev_notn, ev_inn, ev_nin, ev_iteE, ev_tup, ev_lst, ev_ix, ev_sl, ev_call, ev_callk, ev_prim, ev_isi, ev_meth, evEs_nil, evEs_cons, evEo_none, evEo_some, evSs_cons, evSs_nil, es_ite, es_asg, es_setix, es_ret, es_retn, es_expr, es_pass, es_brk, es_whl, negD, notD, isn_non, isn_int, isn_bl, isn_str, isn_tup, isn_lst, isn_ref, notn_non, notn_int, notn_bl, notn_str, notn_tup, notn_lst, notn_ref, ixD, loD, rtD, nxD, setD, List.getElem?_cons_zero, List.getElem?_cons_succ, Option.join_some, b_add, b_sub, c_lt, c_le, c_gt, c_ge, c_eqi, c_nei, p_abs, p_int, p_max, p_min, put_0, put_s, put_tp, puts_nil, puts_cons, Option.map_some, Option.bind_some, fill_nil, fill_no, fill_so, ix_tup, ix_lst, atI_nat, live_non, live_int, live_bl, live_str, live_tup, live_lst, live_scr, kd_int_non, kd_int_bl, kd_int_int, kd_int_str, kd_int_tup, kd_int_lst, kd_int_ref, kd_int_scr, kd_bool_non, kd_bool_bl, kd_bool_int, kd_bool_str, kd_bool_tup, kd_bool_lst, kd_bool_ref, kd_bool_scr, kd_str_non, kd_str_bl, kd_str_int, kd_str_str, kd_str_tup, kd_str_lst, kd_str_ref, kd_str_scr, kd_list_non, kd_list_bl, kd_list_int, kd_list_str, kd_list_tup, kd_list_lst, kd_list_ref, kd_list_scr, kd_tuple_non, kd_tuple_bl, kd_tuple_int, kd_tuple_str, kd_tuple_tup, kd_tuple_lst, kd_tuple_ref, kd_tuple_scr, Sn.guard, if_true, if_false, Bool.not_true, Bool.not_false, decide_eq_true_eq, Bool.not_eq_true', decide_eq_false_iff_not, Bool.true_eq_false, Bool.false_eq_true, if_true, if_false, newT_of, newL_f, b_mod, b_fdiv, b_mul, b_pow, p_len2, p_len3, eq_self, and_self, decide_true, decide_false, reduceIte, p_reprB, c_ne_shownB, c_eq_shownB, c_eqB, c_neB, b_rep, List.replicate, List.flatten_cons, List.flatten_nil, List.cons_append, List.nil_append, List.set_cons_zero, List.set_cons_succ, c_neb, c_eqb, bne_self_eq_false, beq_self_eq_true, ev_chain, ifB_t, ifB_f, ifB_d, ifB_nd, sl_nf, sl_t3, p_len_scr, p_max3, p_min3, ix_pr0, ix_pr1, put_pr, pr_l0, pr_l1, c_ne_pr, ix_nf0, ix_nf1, ix_nf2, put_nf, p_len_nf, kind_nf, live_nf, isn_nf, notn_nf, kind_nf_int, kind_nf_bool, kind_nf_list, kind_nf_str, nf_l0, nf_l1, ix_qf0, ix_qf1, put_qf, kind_qf, live_qf, isn_qf, notn_qf, p_len_qf, c_eq_nf, c_ne_nf, c_eq_qf, c_ne_qf, newL_loc, c_eq_r0, c_ne_r0, c_eq_r1, c_ne_r1, m_append_0, m_append_1, m_append_2, live_0, live_1, live_2, ix_0, ix_1, ix_2, p_repr_0, p_repr_1, List.length_cons, List.length_nil, Nat.reduceAdd, List.append_eq, put_tpl, ev_comp, compW_mk, cmpU_nil, cmpU_cons, evC_none, evC_some, asBD_bl, ifB_t, ifB_f, ifB_d, ifB_nd, wipes_nil, wipes_cons, stG_same, stG_nil, evIt_of, evIt_range1, evIt_range2, evIt_enum, evIt_zip, itD_lst, itD_tup, itD_scr, itD_nf, itD_0, itD_1, itE_lst, itZ_tup, itZ_lst, itR_2, itR_3, itR_4, zipD_cons, zipD_nil, zipD_nil2, enumD_k, enumK_cons, enumK_nil, p_all_lst, p_any_lst, allD_nil, allD_cons, anyD_nil, anyD_cons, p_tuple_lst, p_tuple_tup, p_list_lst, p_list_tup, b_addL, b_addT, es_forU, forW_mk, forU_nil, forU_cons, Bool.and_true, Bool.true_and, Bool.and_false, Bool.false_and, Bool.or_true, Bool.true_or, Bool.or_false, Bool.false_or, d_lt_t, d_lt_f, d_le_t, d_le_f, d_eq_t, d_eq_f, k0, k1, k2, k3, k4, f1, f2, f3, f4, c1]
    exact pst_ok rfl
end
theorem all_ok : PySem.Challenge.rw_sunsheets_k26_open_ones.Holds := holds_of fun ns hl _ => ⟨big, s_law (Nat.le_refl _) hl⟩
end My
theorem PySem.Challenge.cw_sunsheets_k26_open_ones_holds : PySem.Challenge.rw_sunsheets_k26_open_ones.Holds :=
  My.all_ok
