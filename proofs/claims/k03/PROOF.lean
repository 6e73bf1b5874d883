import PyProof.Rows.All
import Wide.All
import OpenK.AllK
import Wide.FinOn
import HandS.Base
import HandS.Call
import HandS.List
import HandS.Comp
import HandS.Iter
import HandS.Exc
import HandS.TryOnly
import HandS.ExcOwn
import HandS.ExcIs
import HandS.IsInst
import HandS.Wide
import HandS.TupAny
import HandS.Deep
import HandS.Style
import HandS.Words
import HandS.WordsExc
import HandS.Ends
import PySem.Challenge.RW_freshsheet_k03_whole_numbers_by_turns
set_option Elab.async false
set_option linter.all false
set_option maxRecDepth 100000
/-! FS: a small deterministic evaluator over plain data, and the hand layer's promise from it. Part 1: data, syntax, evaluation. -/
namespace FS
open PySem PySem.Spec PyProof.Rows L2

/-- plain data: tuples are values; lists, exceptions are places of the store -/
inductive D where
  | non | bl (b : Bool) | int (i : Int) | str (s : Str) | tup (xs : List D) | loc (n : Nat)
  deriving Inhabited

inductive Ob where
  | lst (xs : List D)
  | fro (xs : List D)
  | exc (c : Str)
  deriving Inhabited
abbrev M := List Ob

inductive Ty where
  | non | int | bool | str | tuple | list | dict | valueError
  deriving DecidableEq
inductive Cl where
  | ty (t : Ty) | own (c : Str)
  deriving DecidableEq

inductive Bop where
  | add | sub | mul | fdiv | mod | pow | shl | shr
  deriving DecidableEq
inductive Cop where
  | eq | ne | lt | le | gt | ge | isin | notin | is | isnot
  deriving DecidableEq
/-- built-in functions -/
inductive Bf where
  | len | abs | min2 | max2 | int | str | bool | tuple | list | sum | all
  deriving DecidableEq
/-- methods of built-in types -/
inductive Mf where
  | append | pop | extend | clear
  deriving DecidableEq

inductive Tg where
  | nm (i : Nat) | tp (is : List Nat)
mutual
inductive E where
  | var (i : Nat) | con (d : D) | gv (x : Str)
  | bin (o : Bop) (a b : E) | neg (a : E)
  | cmp (o : Cop) (a b : E) | chain (o p : Cop) (a b c : E)
  | and (a b : E) | or (a b : E) | not (a : E) | ite (c : T) (a b : E)
  | tup (es : Es) | lst (es : Es)
  | call (f : Str) (es : Es) | bcl (f : Bf) (es : Es) | mth (m : Mf) (a : E) (es : Es)
  | idx (a i : E) | slc (a : E) (lo hi : Option E)
  | isi (a : E) (c : Cl) | isis (a : E) (cs : List Cl)
  | comp (it : It) (tg : Tg) (own : List Nat) (c : Option T) (e : E)
inductive Es where
  | nil | cons (e : E) (es : Es)
inductive It where
  | seq (e : E) | rng1 (a : E) | rng2 (a b : E)
/-- tests -/
inductive T where
  | and (a b : T) | or (a b : T) | not (a : T) | val (e : E) | tst (e : E)
end
mutual
inductive S where
  | set (i : Nat) (e : E)
  | par (i j : Nat) (a b : E)
  | unp (is : List Nat) (e : E)
  | put (a i e : E)
  | expr (e : E) | ret (e : E) | ret0
  | cond (c : T) (a b : Ss)
  | loop (c : T) (b : Ss)
  | iter (it : It) (tg : Tg) (b : Ss)
  | raise (c : Str)
  | tryas (b : Ss) (c : Str) (i : Nat) (h : Ss)
  | pass | brk | cont
inductive Ss where
  | nil | cons (s : S) (ss : Ss)
end
structure Fn where
  np : Nat
  nv : Nat
  body : Ss

/-! ### results -/
inductive R (α : Type) where
  | ok (a : α) (m : M)
  | exc (c : Str) (m : M)
  | stuck
def R.bind {α β : Type} (r : R α) (f : α → M → R β) : R β := match r with
  | .ok a m => f a m
  | .exc c m => .exc c m
  | .stuck => .stuck
abbrev Sl := List (Option D)
inductive Fl where
  | nx (σ : Sl) | rt (d : D) | bk (σ : Sl) | ct (σ : Sl)
inductive RS where
  | ok (f : Fl) (m : M)
  | exc (c : Str) (σ : Sl) (m : M)
  | stuck
def R.to {α : Type} (r : R α) (σ : Sl) (f : α → M → RS) : RS := match r with
  | .ok a m => f a m
  | .exc c m => .exc c σ m
  | .stuck => .stuck
def RS.andThen (r : RS) (f : Sl → M → RS) : RS := match r with
  | .ok (.nx σ) m => f σ m
  | r => r

/-- what the evaluator is handed: calls of defs, module constants, subclasses -/
structure Cn where
  call : Str → List D → M → R D
  glob : Str → Option D
  sub : Str → Cl → Option Bool

/-! ### == -/
mutual
def toPd (rec : Nat → Option PyData) : D → Option PyData
  | .non => some .none
  | .bl b => some (.bool b)
  | .int i => some (.int i)
  | .str s => some (.str s)
  | .tup xs => (toPds rec xs).map .tuple
  | .loc n => rec n
def toPds (rec : Nat → Option PyData) : List D → Option (List PyData)
  | [] => some []
  | d :: ds => (toPd rec d).bind fun x => (toPds rec ds).map fun xs => x :: xs
end
def items (m : M) (n : Nat) : Option (List D) := match m[n]? with
  | some (.lst xs) => some xs
  | some (.fro xs) => some xs
  | _ => none
def lpd (m : M) : Nat → Nat → Option PyData
  | 0, _ => none
  | f + 1, n => (items m n).bind fun xs => (toPds (lpd m f) xs).map .list
def scEq : D → D → Option Bool
  | .non, .non => some true
  | .non, .int _ => some false
  | .non, .str _ => some false
  | .non, .bl _ => some false
  | .int _, .non => some false
  | .str _, .non => some false
  | .bl _, .non => some false
  | .int i, .int j => some (decide (i = j))
  | .str i, .str j => some (decide (i = j))
  | .bl i, .bl j => some (decide (i = j))
  | .int _, .str _ => some false
  | .str _, .int _ => some false
  | .bl _, .str _ => some false
  | .str _, .bl _ => some false
  | _, _ => none
def eqD (m : M) (x y : D) : Option Bool := match scEq x y with
  | some b => some b
  | none => (toPd (lpd m 8) x).bind fun p => (toPd (lpd m 8) y).bind fun q => if SeqAt.shaped p && SeqAt.shaped q then some (PyData.eqv p q) else none

/-! ### operators -/
def small (n : Nat) : Prop := n ≤ 16777216
instance (n : Nat) : Decidable (small n) := inferInstanceAs (Decidable (n ≤ 16777216))
def mulOk (i j : Int) : Prop := CMulW i j
instance (i j : Int) : Decidable (mulOk i j) := inferInstanceAs (Decidable (i.natAbs.log2 + j.natAbs.log2 < 1000000))
def divOk (j : Int) : Prop := j ≠ 0 ∧ j.natAbs.log2 < 9000
instance (j : Int) : Decidable (divOk j) := inferInstanceAs (Decidable (_ ∧ _))
def powOk (i j : Int) : Prop := CPow i j
instance (i j : Int) : Decidable (powOk i j) := inferInstanceAs (Decidable (0 ≤ j ∧ j ≤ 1000000 ∧ i.natAbs < 2 ^ 64))

def binF : Bop → D → D → M → R D
  | .add, .int i, .int j, m => .ok (.int (i + j)) m
  | .sub, .int i, .int j, m => .ok (.int (i - j)) m
  | .mul, .int i, .int j, m => if mulOk i j then .ok (.int (i * j)) m else .stuck
  | .fdiv, .int i, .int j, m => if divOk j then .ok (.int (i.fdiv j)) m else .stuck
  | .mod, .int i, .int j, m => if j ≠ 0 then .ok (.int (i.fmod j)) m else .stuck
  | .pow, .int i, .int j, m => if powOk i j then .ok (.int (i ^ j.toNat)) m else .stuck
  | .shl, .int i, .int j, m => if powOk i j then .ok (.int (i * 2 ^ j.toNat)) m else .stuck
  | .shr, .int i, .int j, m => if 0 ≤ j then .ok (.int (i / 2 ^ j.toNat)) m else .stuck
  | .add, .str x, .str y, m => if small (x.length + y.length) then .ok (.str (x ++ y)) m else .stuck
  | .add, .tup x, .tup y, m => if small (x.length + y.length) then .ok (.tup (x ++ y)) m else .stuck
  | .add, .loc x, .loc y, m => match m[x]?, m[y]? with
    | some (.lst xs), some (.lst ys) => if small (xs.length + ys.length) then .ok (.loc m.length) (m ++ [.lst (xs ++ ys)]) else .stuck
    | _, _ => .stuck
  | _, _, _, _ => .stuck
def negF : D → M → R D
  | .int i, m => .ok (.int (-i)) m
  | _, _ => .stuck
def strLt (x y : Str) : Bool := decide (x.cps.toList < y.cps.toList)
def inStr (x y : Str) : Bool := !(Builtin.Str.occurrences y x 0 y.length 1).isEmpty
def flatD : D → Bool
  | .non => true
  | .bl _ => true
  | .int _ => true
  | .str _ => true
  | _ => false
def flV : D → V
  | .bl b => .bl b
  | .int i => .int i
  | .str x => .str x
  | _ => .non
/-- x in a list, a tuple of flat things -/
def inFlat (x : D) (ys : List D) : Option Bool := if flatD x && ys.all flatD then some (inV (flV x) (ys.map flV)) else none
/-- x in a list of things of any depth -/
def inDeep (m : M) (x : D) (ys : List D) : Option Bool :=
  (toPd (lpd m 8) x).bind fun p => (toPds (lpd m 8) ys).bind fun qs => if SeqAt.shaped p && SeqAt.shaped (.list qs) then some (qs.any fun z => PyData.eqv z p) else none
def memF (m : M) : D → D → Option Bool
  | .str x, .str y => some (inStr x y)
  | x, .tup ys => inFlat x ys
  | x, .loc n => (items m n).bind fun ys => if flatD x && ys.all flatD then some (inV (flV x) (ys.map flV)) else inDeep m x ys
  | _, _ => none
def isF : D → D → Option Bool
  | .non, .non => some true
  | .bl a, .bl b => some (decide (a = b))
  | _, .non => some false
  | _, _ => none
def b2r (o : Option Bool) (m : M) : R D := match o with
  | some b => .ok (.bl b) m
  | none => .stuck
def cmpF : Cop → D → D → M → R D
  | .eq, x, y, m => b2r (eqD m x y) m
  | .ne, x, y, m => b2r ((eqD m x y).map (!·)) m
  | .lt, .int i, .int j, m => .ok (.bl (decide (i < j))) m
  | .le, .int i, .int j, m => .ok (.bl (decide (i ≤ j))) m
  | .gt, .int i, .int j, m => .ok (.bl (decide (j < i))) m
  | .ge, .int i, .int j, m => .ok (.bl (decide (j ≤ i))) m
  | .lt, .str x, .str y, m => .ok (.bl (strLt x y)) m
  | .isin, x, y, m => b2r (memF m x y) m
  | .notin, x, y, m => b2r ((memF m x y).map (!·)) m
  | .is, x, y, m => b2r (isF x y) m
  | .isnot, x, y, m => b2r ((isF x y).map (!·)) m
  | _, _, _, _ => .stuck

/-- truth of a value -/
def truth (m : M) : D → Option Bool
  | .bl b => some b
  | .non => some false
  | .int i => some (i != 0)
  | .str x => if small x.length then some ((x.length : Int) != 0) else none
  | .tup xs => some (!xs.isEmpty)
  | .loc n => (items m n).map fun xs => !xs.isEmpty

/-! ### built-ins -/
def bcF : Bf → List D → M → R D
  | .len, [.str x], m => if small x.length then .ok (.int x.length) m else .stuck
  | .len, [.tup x], m => .ok (.int x.length) m
  | .len, [.loc n], m => match items m n with
    | some xs => .ok (.int xs.length) m
    | none => .stuck
  | .abs, [.int i], m => .ok (.int (if i < 0 then -i else i)) m
  | .min2, [.int i, .int j], m => .ok (.int (if j < i then j else i)) m
  | .max2, [.int i, .int j], m => .ok (.int (if j > i then j else i)) m
  | .int, [.int i], m => .ok (.int i) m
  | .int, [.bl b], m => .ok (.int (if b then 1 else 0)) m
  | .str, [.int i], m => if i.natAbs.log2 < 1920 then .ok (.str (toString i : String)) m else .stuck
  | .tuple, [.tup x], m => .ok (.tup x) m
  | .tuple, [.loc n], m => match items m n with
    | some xs => .ok (.tup xs) m
    | none => .stuck
  | .list, [.tup x], m => .ok (.loc m.length) (m ++ [.lst x])
  | .list, [.loc n], m => match items m n with
    | some xs => .ok (.loc m.length) (m ++ [.lst xs])
    | none => .stuck
  | _, _, _ => .stuck
def mtF : Mf → D → List D → M → R D
  | .append, .loc n, [d], m => match m[n]? with
    | some (.lst xs) => if xs.length < 16777216 then .ok .non (m.set n (.lst (xs ++ [d]))) else .stuck
    | _ => .stuck
  | .clear, .loc n, [], m => match m[n]? with
    | some (.lst _) => .ok .non (m.set n (.lst []))
    | _ => .stuck
  | _, _, _, _ => .stuck
def ixF : D → D → M → R D
  | .tup xs, .int i, m => match atI xs i with
    | some d => .ok d m
    | none => .stuck
  | .loc n, .int i, m => match (items m n).bind fun xs => atI xs i with
    | some d => .ok d m
    | none => .stuck
  | .str x, .int i, m => if small x.length then (match atI x.cps.toList i with
    | some c => .ok (.str ⟨#[c]⟩) m
    | none => .stuck) else .stuck
  | _, _, _ => .stuck
def cut {α : Type} (xs : List α) (lo hi : Option Int) : List α := (xs.drop (HT.sIx xs.length 0 lo)).take (HT.sIx xs.length xs.length hi - HT.sIx xs.length 0 lo)
def bnd {α : Type} (r : R D) (f : Option Int → M → R α) : R α := r.bind fun d m => match d with
  | .int i => f (some i) m
  | _ => .stuck
def slF : D → Option Int → Option Int → M → R D
  | .tup xs, lo, hi, m => .ok (.tup (cut xs lo hi)) m
  | .loc n, lo, hi, m => match items m n with
    | some xs => .ok (.loc m.length) (m ++ [.lst (cut xs lo hi)])
    | none => .stuck
  | _, _, _, _ => .stuck
def putF : D → D → D → M → Option M
  | .loc n, .int i, d, m => match m[n]? with
    | some (.lst xs) => (ixN xs.length i).map fun j => m.set n (.lst (xs.set j d))
    | _ => none
  | _, _, _, _ => none

/-! ### classes -/
def tyOf (m : M) : D → Option Cl
  | .non => some (.ty .non)
  | .bl _ => some (.ty .bool)
  | .int _ => some (.ty .int)
  | .str _ => some (.ty .str)
  | .tup _ => some (.ty .tuple)
  | .loc n => match m[n]? with
    | some (.lst _) => some (.ty .list)
    | some (.fro _) => some (.ty .list)
    | some (.exc c) => some (.own c)
    | none => none
def tySub : Ty → Ty → Bool
  | .bool, .int => true
  | a, b => decide (a = b)
def isiF (sub : Str → Cl → Option Bool) : Cl → Cl → Option Bool
  | .ty a, .ty b => some (tySub a b)
  | .own c, k => sub c k
  | _, _ => none
def isisF (sub : Str → Cl → Option Bool) (t : Cl) : List Cl → Option Bool
  | [] => some false
  | c :: cs => match isiF sub t c with
    | some true => some true
    | some false => isisF sub t cs
    | none => none

/-! ### targets, loops -/
def setAll : List Nat → List D → Sl → Option Sl
  | [], [], σ => some σ
  | i :: is, d :: ds, σ => setAll is ds (σ.set i (some d))
  | _, _, _ => none
def unpk (m : M) : D → Option (List D)
  | .tup xs => some xs
  | .loc n => items m n
  | _ => none
def asgF : Tg → D → Sl → Option Sl
  | .nm i, d, σ => some (σ.set i (some d))
  | .tp is, .tup xs, σ => setAll is xs σ
  | _, _, _ => none
def wipeD (σ : Sl) : List Nat → Sl
  | [] => σ
  | i :: is => (wipeD σ is).set i none
/-- what a loop walks: the items, and what must stay so -/
structure Walk where
  ds : List D
  stay : M → Prop
open Classical in
noncomputable def loopF (st : M → Prop) (tg : Tg) (b : Sl → M → RS) : List D → Sl → M → RS
  | [], σ, m => if st m then .ok (.nx σ) m else .stuck
  | d :: ds, σ, m => if st m then (match asgF tg d σ with
    | none => .stuck
    | some σ1 => match b σ1 m with
      | .ok (.nx σ2) m2 => loopF st tg b ds σ2 m2
      | .ok (.ct σ2) m2 => loopF st tg b ds σ2 m2
      | .ok (.bk σ2) m2 => .ok (.nx σ2) m2
      | r => r) else .stuck
def whileF (c : Sl → M → R Bool) (b : Sl → M → RS) : Nat → Sl → M → RS
  | 0, _, _ => .stuck
  | n + 1, σ, m => (c σ m).to σ fun t m1 => if t then (match b σ m1 with
      | .ok (.nx σ2) m2 => whileF c b n σ2 m2
      | .ok (.ct σ2) m2 => whileF c b n σ2 m2
      | .ok (.bk σ2) m2 => .ok (.nx σ2) m2
      | r => r) else .ok (.nx σ) m1
def strIts (x : Str) : List D := x.cps.toList.map fun c => .str ⟨#[c]⟩
def seqF (m : M) : D → Option Walk
  | .tup xs => some ⟨xs, fun _ => True⟩
  | .loc n => (items m n).map fun xs => ⟨xs, fun m' => items m' n = some xs⟩
  | .str x => some ⟨strIts x, fun _ => True⟩
  | _ => none
def inRng (i : Int) : Prop := -(2 ^ 62) ≤ i ∧ i < 2 ^ 62
instance (i : Int) : Decidable (inRng i) := inferInstanceAs (Decidable (_ ∧ _))
def rng (lo : Int) (n : Nat) : List D := (List.range n).map fun (i : Nat) => .int (lo + i)
open Classical in
noncomputable def compF (st : M → Prop) (tg : Tg) (own : List Nat) (σ : Sl) (c : Sl → M → R Bool) (e : Sl → M → R D) (n : Nat) : List D → List D → M → R D
  | [], _, m => if st m then .ok (.loc n) m else .stuck
  | d :: ds, acc, m => if st m then (match asgF tg d (wipeD σ own) with
    | none => .stuck
    | some σ1 => match c σ1 m with
      | .ok true m1 => (match e σ1 m1 with
        | .ok v m2 => if m2[n]? = some (.lst acc) ∧ acc.length < 16777216 then compF st tg own σ c e n ds (acc ++ [v]) (m2.set n (.lst (acc ++ [v]))) else .stuck
        | _ => .stuck)
      | .ok false m1 => if m1[n]? = some (.lst acc) then compF st tg own σ c e n ds acc m1 else .stuck
      | _ => .stuck) else .stuck

def fuel : Nat := 2 ^ 64

/-! ### evaluation -/
mutual
noncomputable def ev (x : Cn) : E → Sl → M → R D
  | .var i, σ, m => match σ[i]? with
    | some (some d) => .ok d m
    | _ => .stuck
  | .con d, _, m => .ok d m
  | .gv g, _, m => match x.glob g with
    | some d => .ok d m
    | none => .stuck
  | .bin o a b, σ, m => (ev x a σ m).bind fun d m1 => (ev x b σ m1).bind fun e m2 => binF o d e m2
  | .neg a, σ, m => (ev x a σ m).bind fun d m1 => negF d m1
  | .cmp o a b, σ, m => (ev x a σ m).bind fun d m1 => (ev x b σ m1).bind fun e m2 => cmpF o d e m2
  | .chain o p a b c, σ, m => (ev x a σ m).bind fun d m1 => (ev x b σ m1).bind fun e m2 => (cmpF o d e m2).bind fun t m3 => match t with
    | .bl true => (ev x c σ m3).bind fun f m4 => cmpF p e f m4
    | .bl false => .ok (.bl false) m3
    | _ => .stuck
  | .and a b, σ, m => (ev x a σ m).bind fun d m1 => match d with
    | .bl true => ev x b σ m1
    | .bl false => .ok (.bl false) m1
    | _ => .stuck
  | .or a b, σ, m => (ev x a σ m).bind fun d m1 => match d with
    | .bl true => .ok (.bl true) m1
    | .bl false => ev x b σ m1
    | _ => .stuck
  | .not a, σ, m => (ev x a σ m).bind fun d m1 => match d with
    | .bl t => .ok (.bl (!t)) m1
    | _ => .stuck
  | .ite c a b, σ, m => (evT x c σ m).bind fun t m1 => if t then ev x a σ m1 else ev x b σ m1
  | .tup es, σ, m => (evs x es σ m).bind fun ds m1 => if small ds.length then .ok (.tup ds) m1 else .stuck
  | .lst es, σ, m => (evs x es σ m).bind fun ds m1 => if small ds.length then .ok (.loc m1.length) (m1 ++ [.lst ds]) else .stuck
  | .call f es, σ, m => (evs x es σ m).bind fun ds m1 => x.call f ds m1
  | .bcl f es, σ, m => (evs x es σ m).bind fun ds m1 => bcF f ds m1
  | .mth f a es, σ, m => (ev x a σ m).bind fun d m1 => (evs x es σ m1).bind fun ds m2 => mtF f d ds m2
  | .idx a i, σ, m => (ev x a σ m).bind fun d m1 => (ev x i σ m1).bind fun e m2 => ixF d e m2
  | .slc a none none, σ, m => (ev x a σ m).bind fun d m1 => slF d none none m1
  | .slc a (some l) none, σ, m => (ev x a σ m).bind fun d m1 => bnd (ev x l σ m1) fun i m2 => slF d i none m2
  | .slc a none (some h), σ, m => (ev x a σ m).bind fun d m1 => bnd (ev x h σ m1) fun i m2 => slF d none i m2
  | .slc a (some l) (some h), σ, m => (ev x a σ m).bind fun d m1 => bnd (ev x l σ m1) fun i m2 => bnd (ev x h σ m2) fun j m3 => slF d i j m3
  | .isi a c, σ, m => (ev x a σ m).bind fun d m1 => b2r ((tyOf m1 d).bind fun t => isiF x.sub t c) m1
  | .isis a cs, σ, m => (ev x a σ m).bind fun d m1 => b2r ((tyOf m1 d).bind fun t => isisF x.sub t cs) m1
  | .comp it tg own none e, σ, m => (evI x it σ m).bind fun w m1 => compF w.stay tg own σ (fun _ m => .ok true m) (fun σ' m' => ev x e σ' m') m1.length w.ds [] (m1 ++ [.lst []])
  | .comp it tg own (some c) e, σ, m => (evI x it σ m).bind fun w m1 => compF w.stay tg own σ (fun σ' m' => evT x c σ' m') (fun σ' m' => ev x e σ' m') m1.length w.ds [] (m1 ++ [.lst []])
noncomputable def evT (x : Cn) : T → Sl → M → R Bool
  | .and a b, σ, m => (evT x a σ m).bind fun t m1 => if t then evT x b σ m1 else .ok false m1
  | .or a b, σ, m => (evT x a σ m).bind fun t m1 => if t then .ok true m1 else evT x b σ m1
  | .not a, σ, m => (evT x a σ m).bind fun t m1 => .ok (!t) m1
  | .val e, σ, m => (ev x e σ m).bind fun d m1 => match truth m1 d with
    | some b => .ok b m1
    | none => .stuck
  | .tst e, σ, m => (ev x e σ m).bind fun d m1 => match d with
    | .bl b => .ok b m1
    | _ => .stuck
noncomputable def evs (x : Cn) : Es → Sl → M → R (List D)
  | .nil, _, m => .ok [] m
  | .cons e es, σ, m => (ev x e σ m).bind fun d m1 => (evs x es σ m1).bind fun ds m2 => .ok (d :: ds) m2
noncomputable def evI (x : Cn) : It → Sl → M → R Walk
  | .seq e, σ, m => (ev x e σ m).bind fun d m1 => match seqF m1 d with
    | some w => .ok w m1
    | none => .stuck
  | .rng1 a, σ, m => (ev x a σ m).bind fun d m1 => match d with
    | .int n => if inRng n then .ok ⟨rng 0 n.toNat, fun _ => True⟩ m1 else .stuck
    | _ => .stuck
  | .rng2 a b, σ, m => (ev x a σ m).bind fun d m1 => (ev x b σ m1).bind fun e m2 => match d, e with
    | .int i, .int j => if inRng i ∧ inRng j then .ok ⟨rng i (j - i).toNat, fun _ => True⟩ m2 else .stuck
    | _, _ => .stuck
end

def RS.undo (i : Nat) : RS → RS
  | .ok (.nx σ) m => .ok (.nx (σ.set i none)) m
  | .ok (.bk σ) m => .ok (.bk (σ.set i none)) m
  | .ok (.ct σ) m => .ok (.ct (σ.set i none)) m
  | .ok (.rt d) m => .ok (.rt d) m
  | _ => .stuck
mutual
noncomputable def exS (x : Cn) : S → Sl → M → RS
  | .set i e, σ, m => (ev x e σ m).to σ fun d m1 => .ok (.nx (σ.set i (some d))) m1
  | .par i j a b, σ, m => (ev x a σ m).to σ fun d m1 => (ev x b σ m1).to σ fun e m2 => .ok (.nx ((σ.set i (some d)).set j (some e))) m2
  | .unp is e, σ, m => (ev x e σ m).to σ fun d m1 => match (unpk m1 d).bind fun ds => setAll is ds σ with
    | some σ' => .ok (.nx σ') m1
    | none => .stuck
  | .put a i e, σ, m => (ev x e σ m).to σ fun d m1 => (ev x a σ m1).to σ fun l m2 => (ev x i σ m2).to σ fun k m3 => match putF l k d m3 with
    | some m4 => .ok (.nx σ) m4
    | none => .stuck
  | .expr e, σ, m => (ev x e σ m).to σ fun _ m1 => .ok (.nx σ) m1
  | .ret e, σ, m => (ev x e σ m).to σ fun d m1 => .ok (.rt d) m1
  | .ret0, _, m => .ok (.rt .non) m
  | .cond c a b, σ, m => (evT x c σ m).to σ fun t m1 => if t then exSs x a σ m1 else exSs x b σ m1
  | .loop c b, σ, m => whileF (fun σ' m' => evT x c σ' m') (fun σ' m' => exSs x b σ' m') fuel σ m
  | .iter it tg b, σ, m => (evI x it σ m).to σ fun w m1 => loopF w.stay tg (fun σ' m' => exSs x b σ' m') w.ds σ m1
  | .raise c, σ, m => .exc c σ m
  | .tryas b c i h, σ, m => match exSs x b σ m with
    | .exc c' σ' m' => (match x.sub c' (.own c) with
      | some true => (exSs x h (σ'.set i (some (.loc m'.length))) (m' ++ [.exc c'])).undo i
      | some false => .exc c' σ' m'
      | none => .stuck)
    | r => r
  | .pass, σ, m => .ok (.nx σ) m
  | .brk, σ, m => .ok (.bk σ) m
  | .cont, σ, m => .ok (.ct σ) m
noncomputable def exSs (x : Cn) : Ss → Sl → M → RS
  | .nil, σ, m => .ok (.nx σ) m
  | .cons s ss, σ, m => (exS x s σ m).andThen fun σ' m' => exSs x ss σ' m'
end

/-! ### what a call leaves: only what is reached -/
mutual
def locs : D → List Nat
  | .tup xs => locss xs
  | .loc n => [n]
  | _ => []
def locss : List D → List Nat
  | [] => []
  | d :: ds => locs d ++ locss ds
end
def Ob.locs : Ob → List Nat
  | .lst xs => locss xs
  | .fro xs => locss xs
  | .exc _ => []
mutual
def ren (ρ : Nat → Nat) : D → D
  | .tup xs => .tup (rens ρ xs)
  | .loc n => .loc (ρ n)
  | d => d
def rens (ρ : Nat → Nat) : List D → List D
  | [] => []
  | d :: ds => ren ρ d :: rens ρ ds
end
def Ob.ren (ρ : Nat → Nat) : Ob → Ob
  | .lst xs => .lst (rens ρ xs)
  | .fro xs => .fro (rens ρ xs)
  | .exc c => .exc c
def visit (n : Nat) (m : M) : Nat → List Nat → List Nat → List Nat
  | 0, _, seen => seen
  | _ + 1, [], seen => seen
  | f + 1, l :: todo, seen => if seen.contains l then visit n m f todo seen else
    visit n m f ((match m[l]? with | some o => o.locs.filter (n ≤ ·) | none => []) ++ todo) (seen ++ [l])
def reach (n : Nat) (d : D) (m : M) : List Nat := visit n m (m.length + 1) (((locs d ++ (m.take n).flatMap Ob.locs)).filter (n ≤ ·)) []
structure GcOk (n : Nat) (ls : List Nat) (d : D) (m : M) : Prop where
  nd : ls.Nodup
  le : n ≤ m.length
  at_ : ∀ l ∈ ls, n ≤ l ∧ l < m.length
  d : ∀ l ∈ locs d, l < n ∨ l ∈ ls
  old : ∀ (i : Nat) (o : Ob), i < n → m[i]? = some o → ∀ l ∈ o.locs, l < n ∨ l ∈ ls
  new : ∀ (i : Nat) (o : Ob), i ∈ ls → m[i]? = some o → ∀ l ∈ o.locs, l < n ∨ l ∈ ls
def rho (n : Nat) (ls : List Nat) (l : Nat) : Nat := if l < n then l else n + ls.idxOf l
open Classical in
noncomputable def gc (n : Nat) (d : D) (m : M) : D × M :=
  if GcOk n (reach n d m) d m then (ren (rho n (reach n d m)) d, (m.take n).map (Ob.ren (rho n (reach n d m))) ++ (reach n d m).filterMap fun l => (m[l]?).map (Ob.ren (rho n (reach n d m)))) else (d, m)

noncomputable def endF (n : Nat) : RS → R D
  | .ok (.rt d) m => .ok (gc n d m).1 (gc n d m).2
  | .ok (.nx _) m => .ok (gc n .non m).1 (gc n .non m).2
  | .exc c _ m => .exc c (gc n .non m).2
  | _ => .stuck
/-- what is given of a program -/
structure Pg where
  fn : Str → Option Fn
  glob : Str → Option D
  sub : Str → Cl → Option Bool
noncomputable def callF (p : Pg) : Nat → Str → List D → M → R D
  | 0, _, _, _ => .stuck
  | k + 1, f, ds, m => match p.fn f with
    | some fn => if ds.length = fn.np then endF m.length (exSs ⟨callF p k, p.glob, p.sub⟩ fn.body (ds.map some ++ List.replicate (fn.nv - fn.np) none) m) else .stuck
    | none => .stuck
noncomputable abbrev cn (p : Pg) (k : Nat) : Cn := ⟨callF p k, p.glob, p.sub⟩
end FS

set_option Elab.async false
set_option linter.all false
set_option maxRecDepth 100000
/-! FS: part 2: how data stand in the abstract heap. -/
namespace FS
open PySem PySem.Spec PyProof.Rows L2
abbrev St := L2.St

mutual
def VR (K : PySem.W.Frag) (ι : List Addr) (H : Hp) : D → V → Prop
  | .non, v => v = .non
  | .bl b, v => v = .bl b
  | .int i, v => v = .int i
  | .str s, v => v = .str s
  | .tup ds, v => ∃ a vs, v = .ref a ∧ SqT K H a vs ∧ VRs K ι H ds vs
  | .loc n, v => ∃ a, ι[n]? = some a ∧ v = .ref a
def VRs (K : PySem.W.Frag) (ι : List Addr) (H : Hp) : List D → List V → Prop
  | [], vs => vs = []
  | d :: ds, vs => ∃ v r, vs = v :: r ∧ VR K ι H d v ∧ VRs K ι H ds r
end
structure Ext (K : PySem.W.Frag) (ι : List Addr) (H : Hp) (ι' : List Addr) (H' : Hp) : Prop where
  pre : ∀ (n : Nat) a, ι[n]? = some a → ι'[n]? = some a
  tup : ∀ a vs, SqT K H a vs → SqT K H' a vs
/-- a locked list, or one of the module's -/
def FroL (K : PySem.W.Frag) (H : Hp) (a : Addr) (xs : List V) : Prop :=
  (∃ o, H a = some (.frz o (.lst xs))) ∨
    ∃ (o : Obj) (its : Array Value) (n : Nat), K.lookup a = some o ∧ o.cls = .type "list" ∧ o.dict = none ∧ o.data = .seq its n ∧ its.size ≤ sizeLine ∧ Vals xs its.toList
theorem FroL.seq {K : PySem.W.Frag} {H : Hp} {a : Addr} {xs : List V} (h : FroL K H a xs) : SqL K H a xs := h.elim (fun h => .inl (.inr h)) .inr
/-- a caught exception -/
def ExcO (cls : Value) (a : Addr) : HO := .ext fun h => ∃ oe vs, h.get? a = some oe ∧ Zc cls none oe ∧ oe.data = .fields vs

section
variable (K : PySem.W.Frag) (mg : Str → Option Value)
def OR (ι : List Addr) (H : Hp) : Ob → Addr → Prop
  | .lst ds, a => ∃ vs, H a = some (.lst vs) ∧ VRs K ι H ds vs
  | .fro ds, a => ∃ vs, FroL K H a vs ∧ VRs K ι H ds vs
  | .exc c, a => ∃ cls, mg c = some cls ∧ H a = some (ExcO cls a)
def Ob.mut : Ob → Bool
  | .fro _ => false
  | _ => true
structure HR (ι : List Addr) (m : M) (H : Hp) : Prop where
  len : ι.length = m.length
  nd : ∀ (i j : Nat) a o o', ι[i]? = some a → ι[j]? = some a → m[i]? = some o → m[j]? = some o' → o.mut = true → o'.mut = true → i = j
  ob : ∀ (i : Nat) a o, ι[i]? = some a → m[i]? = some o → OR K mg ι H o a
/-- the slots -/
structure SR (ι : List Addr) (H : Hp) (δ : Sl) (σ : St) : Prop where
  len : δ.length = σ.length
  at_ : ∀ (i : Nat) d, δ[i]? = some (some d) → ∃ v, σ[i]? = some (some v) ∧ VR K ι H d v
end

section
variable {K : PySem.W.Frag} {mg : Str → Option Value} {ι ι' ι2 : List Addr} {H H' H2 : Hp} {m m' : M}
theorem Ext.refl : Ext K ι H ι H := ⟨fun _ _ h => h, fun _ _ h => h⟩
theorem Ext.trans (a : Ext K ι H ι' H') (b : Ext K ι' H' ι2 H2) : Ext K ι H ι2 H2 := ⟨fun n x h => b.pre n x (a.pre n x h), fun x v h => b.tup x v (a.tup x v h)⟩
mutual
theorem VR.mono (e : Ext K ι H ι' H') : ∀ (d : D) (v : V), VR K ι H d v → VR K ι' H' d v
  | .non, _, h => by simpa only [VR] using h
  | .bl _, _, h => by simpa only [VR] using h
  | .int _, _, h => by simpa only [VR] using h
  | .str _, _, h => by simpa only [VR] using h
  | .tup ds, v, h => by
    simp only [VR] at h ⊢
    obtain ⟨a, vs, h1, h2, h3⟩ := h
    exact ⟨a, vs, h1, e.tup a vs h2, VRs.mono e ds vs h3⟩
  | .loc n, v, h => by
    simp only [VR] at h ⊢
    obtain ⟨a, h1, h2⟩ := h
    exact ⟨a, e.pre n a h1, h2⟩
theorem VRs.mono (e : Ext K ι H ι' H') : ∀ (ds : List D) (vs : List V), VRs K ι H ds vs → VRs K ι' H' ds vs
  | [], _, h => by simpa only [VRs] using h
  | d :: ds, vs, h => by
    simp only [VRs] at h ⊢
    obtain ⟨v, r, h1, h2, h3⟩ := h
    exact ⟨v, r, h1, VR.mono e d v h2, VRs.mono e ds r h3⟩
end
theorem VRs.length : ∀ {ds : List D} {vs : List V}, VRs K ι H ds vs → ds.length = vs.length
  | [], _, h => by simp only [VRs] at h; subst h; rfl
  | d :: ds, vs, h => by
    simp only [VRs] at h
    obtain ⟨v, r, rfl, _, h3⟩ := h
    simp only [List.length_cons, VRs.length h3]
theorem VRs.get : ∀ {ds : List D} {vs : List V} {i : Nat} {d : D}, VRs K ι H ds vs → ds[i]? = some d → ∃ v, vs[i]? = some v ∧ VR K ι H d v
  | [], _, _, _, _, e => by simp at e
  | x :: ds, vs, 0, d, h, e => by
    simp only [VRs] at h
    obtain ⟨v, r, rfl, h2, h3⟩ := h
    simp at e; subst e
    exact ⟨v, by simp, h2⟩
  | x :: ds, vs, i + 1, d, h, e => by
    simp only [VRs] at h
    obtain ⟨v, r, rfl, h2, h3⟩ := h
    simp at e
    obtain ⟨w, h4, h5⟩ := VRs.get h3 e
    exact ⟨w, by simpa using h4, h5⟩
theorem VRs.append : ∀ {ds es : List D} {vs us : List V}, VRs K ι H ds vs → VRs K ι H es us → VRs K ι H (ds ++ es) (vs ++ us)
  | [], _, _, _, h, h' => by simp only [VRs] at h; subst h; exact h'
  | d :: ds, es, vs, us, h, h' => by
    simp only [VRs] at h
    obtain ⟨v, r, rfl, h2, h3⟩ := h
    show VRs K ι H (d :: (ds ++ es)) (v :: (r ++ us))
    simp only [VRs]
    exact ⟨v, _, rfl, h2, VRs.append h3 h'⟩
theorem VRs.one {d : D} {v : V} (h : VR K ι H d v) : VRs K ι H [d] [v] := by simp only [VRs]; exact ⟨v, [], rfl, h, rfl⟩
theorem VRs.cons {d : D} {v : V} {ds : List D} {vs : List V} (h : VR K ι H d v) (h' : VRs K ι H ds vs) : VRs K ι H (d :: ds) (v :: vs) := by simp only [VRs]; exact ⟨v, vs, rfl, h, h'⟩
theorem VRs.nil : VRs K ι H [] [] := by simp only [VRs]
theorem VRs.take : ∀ {ds : List D} {vs : List V} (n : Nat), VRs K ι H ds vs → VRs K ι H (ds.take n) (vs.take n)
  | [], _, n, h => by simp only [VRs] at h; subst h; simp only [List.take_nil]; exact VRs.nil
  | d :: ds, vs, 0, h => by simp only [List.take_zero]; exact VRs.nil
  | d :: ds, vs, n + 1, h => by
    simp only [VRs] at h
    obtain ⟨v, r, rfl, h2, h3⟩ := h
    exact VRs.cons h2 (VRs.take n h3)
theorem VRs.drop : ∀ {ds : List D} {vs : List V} (n : Nat), VRs K ι H ds vs → VRs K ι H (ds.drop n) (vs.drop n)
  | [], _, n, h => by simp only [VRs] at h; subst h; simp only [List.drop_nil]; exact VRs.nil
  | d :: ds, vs, 0, h => h
  | d :: ds, vs, n + 1, h => by
    simp only [VRs] at h
    obtain ⟨v, r, rfl, h2, h3⟩ := h
    exact VRs.drop n h3
theorem VRs.set : ∀ {ds : List D} {vs : List V} {d : D} {v : V} (j : Nat), VRs K ι H ds vs → VR K ι H d v → VRs K ι H (ds.set j d) (vs.set j v)
  | [], _, _, _, j, h, _ => by simp only [VRs] at h; subst h; simp only [List.set_nil]; exact VRs.nil
  | x :: ds, vs, d, v, 0, h, h' => by
    simp only [VRs] at h
    obtain ⟨w, r, rfl, h2, h3⟩ := h
    exact VRs.cons h' h3
  | x :: ds, vs, d, v, j + 1, h, h' => by
    simp only [VRs] at h
    obtain ⟨w, r, rfl, h2, h3⟩ := h
    exact VRs.cons h2 (VRs.set j h3 h')
/-! ### slots -/
theorem SR.mono {δ : Sl} {σ : St} (s : SR K ι H δ σ) (e : Ext K ι H ι' H') : SR K ι' H' δ σ := ⟨s.len, fun i d h => let ⟨v, h1, h2⟩ := s.at_ i d h; ⟨v, h1, VR.mono e d v h2⟩⟩
theorem SR.set {δ : Sl} {σ : St} {d : D} {v : V} (s : SR K ι H δ σ) (i : Nat) (h : VR K ι H d v) : SR K ι H (δ.set i (some d)) (σ.set i (some v)) := by
  refine ⟨by simp only [List.length_set, s.len], fun j e he => ?_⟩
  by_cases hj : i = j
  · subst hj
    rw [List.getElem?_set_self'] at he ⊢
    cases q : δ[i]? with
    | none => rw [q] at he; cases he
    | some o =>
      rw [q] at he
      have he' : some (some d) = some (some e) := he
      cases he'
      have hl : i < σ.length := by rw [← s.len]; exact (List.getElem?_eq_some_iff.mp q).1
      rw [List.getElem?_eq_getElem hl]
      exact ⟨v, rfl, h⟩
  · rw [List.getElem?_set_ne hj] at he ⊢
    exact s.at_ j e he
theorem SR.unset {δ : Sl} {σ : St} (s : SR K ι H δ σ) (i : Nat) : SR K ι H (δ.set i none) (σ.set i none) := by
  refine ⟨by simp only [List.length_set, s.len], fun j e he => ?_⟩
  by_cases hj : i = j
  · subst hj
    rw [List.getElem?_set_self'] at he
    cases q : δ[i]? with
    | none => rw [q] at he; cases he
    | some o => rw [q] at he; cases (show some none = some (some e) from he)
  · rw [List.getElem?_set_ne hj] at he ⊢
    exact s.at_ j e he
theorem SR.wipe : ∀ {δ : Sl} {σ : St} (vs : List Nat), SR K ι H δ σ → SR K ι H (wipeD δ vs) (wipe σ vs)
  | _, _, [], s => s
  | _, _, i :: vs, s => (SR.wipe vs s).unset i

/-! ### the abstract heap grows, changes -/
theorem sqT_new {a p : Addr} {vs : List V} {o : HO} (hp : H p = none) (h : SqT K H a vs) : SqT K (upd H p o) a vs := by
  rcases h with (h | ⟨ob, h⟩) | h
  · exact .inl (.inl (by rw [upd_ne (ne_of_none h hp)]; exact h))
  · exact .inl (.inr ⟨ob, by rw [upd_ne (ne_of_none h hp)]; exact h⟩)
  · exact .inr h
theorem FroL.new {a p : Addr} {vs : List V} {o : HO} (hp : H p = none) (h : FroL K H a vs) : FroL K (upd H p o) a vs := by
  rcases h with ⟨ob, h⟩ | h
  · exact .inl ⟨ob, by rw [upd_ne (ne_of_none h hp)]; exact h⟩
  · exact .inr h
def plainO : HO → Bool
  | .tup _ => false
  | .frz _ _ => false
  | _ => true
theorem sqT_wr {a p : Addr} {vs : List V} {o o' : HO} (hp : H p = some o') (po : plainO o' = true) (h : SqT K H a vs) : SqT K (upd H p o) a vs := by
  have ne : ∀ u, H a = some u → plainO u = false → a ≠ p := fun u hu hf z => by
    subst z; rw [hu] at hp; cases hp; rw [hf] at po; cases po
  rcases h with (h | ⟨ob, h⟩) | h
  · exact .inl (.inl (by rw [upd_ne (ne _ h rfl)]; exact h))
  · exact .inl (.inr ⟨ob, by rw [upd_ne (ne _ h rfl)]; exact h⟩)
  · exact .inr h
theorem FroL.wr {a p : Addr} {vs : List V} {o o' : HO} (hp : H p = some o') (po : plainO o' = true) (h : FroL K H a vs) : FroL K (upd H p o) a vs := by
  have ne : ∀ u, H a = some u → plainO u = false → a ≠ p := fun u hu hf z => by
    subst z; rw [hu] at hp; cases hp; rw [hf] at po; cases po
  rcases h with ⟨ob, h⟩ | h
  · exact .inl ⟨ob, by rw [upd_ne (ne _ h rfl)]; exact h⟩
  · exact .inr h
theorem Ext.new {p : Addr} {o : HO} (hp : H p = none) : Ext K ι H ι (upd H p o) := ⟨fun _ _ h => h, fun _ _ h => sqT_new hp h⟩
theorem Ext.push (ι : List Addr) (p : Addr) : Ext K ι H (ι ++ [p]) H := ⟨fun n a h => by
  rw [List.getElem?_append_left (List.getElem?_eq_some_iff.mp h).1]; exact h, fun _ _ h => h⟩
theorem Ext.wr {p : Addr} {o o' : HO} (hp : H p = some o') (po : plainO o' = true) : Ext K ι H ι (upd H p o) := ⟨fun _ _ h => h, fun _ _ h => sqT_wr hp po h⟩
/-- an object that nobody writes stands as it stood -/
theorem OR.keep {o : Ob} {a : Addr} (e : Ext K ι H ι' H') (hf : ∀ vs, FroL K H a vs → FroL K H' a vs) (ha : o.mut = true → H' a = H a) (h : OR K mg ι H o a) : OR K mg ι' H' o a := by
  cases o with
  | lst ds =>
    obtain ⟨vs, h1, h2⟩ := h
    exact ⟨vs, (ha rfl).trans h1, h2.mono e⟩
  | fro ds =>
    obtain ⟨vs, h1, h2⟩ := h
    exact ⟨vs, hf vs h1, h2.mono e⟩
  | exc c =>
    obtain ⟨cls, h1, h2⟩ := h
    exact ⟨cls, h1, (ha rfl).trans h2⟩
theorem OR.there {o : Ob} {a : Addr} (h : OR K mg ι H o a) (hm : o.mut = true) : ∃ u, H a = some u ∧ plainO u = true := by
  cases o with
  | lst ds => obtain ⟨vs, h1, _⟩ := h; exact ⟨_, h1, rfl⟩
  | fro ds => cases hm
  | exc c => obtain ⟨cls, _, h2⟩ := h; exact ⟨_, h2, rfl⟩
/-- something new that is no object of the store (a tuple) -/
theorem HR.new {p : Addr} {o : HO} (h : HR K mg ι m H) (hp : H p = none) : HR K mg ι m (upd H p o) :=
  ⟨h.len, h.nd, fun i a ob h1 h2 => by
    have q := h.ob i a ob h1 h2
    refine q.keep (Ext.new hp) (fun vs => FroL.new hp) fun hm => ?_
    obtain ⟨u, hu, _⟩ := q.there hm
    exact upd_ne (ne_of_none hu hp)⟩
/-- a new object of the store -/
theorem HR.push {p : Addr} {o : Ob} {u : HO} (h : HR K mg ι m H) (hp : H p = none) (ho : OR K mg (ι ++ [p]) (upd H p u) o p) : HR K mg (ι ++ [p]) (m ++ [o]) (upd H p u) := by
  have e : Ext K ι H (ι ++ [p]) (upd H p u) := (Ext.push ι p).trans (Ext.new hp)
  have atp : ∀ (i : Nat) a ob, (ι ++ [p])[i]? = some a → (m ++ [o])[i]? = some ob → (ι[i]? = some a ∧ m[i]? = some ob ∧ i < m.length) ∨ (i = m.length ∧ a = p ∧ ob = o) := fun i a ob h1 h2 => by
    by_cases hi : i < m.length
    · rw [List.getElem?_append_left hi] at h2
      rw [List.getElem?_append_left (by rw [h.len]; exact hi)] at h1
      exact .inl ⟨h1, h2, hi⟩
    · rw [List.getElem?_append_right (by omega)] at h2
      rw [List.getElem?_append_right (by rw [h.len]; omega)] at h1
      have l2 := (List.getElem?_eq_some_iff.mp h2).1
      have hi' : i = m.length := by simp at l2; omega
      subst hi'
      rw [h.len] at h1
      simp at h1 h2
      exact .inr ⟨rfl, h1.symm, h2.symm⟩
  refine ⟨by simp [h.len], fun i j a o1 o2 h1 h2 h3 h4 m1 m2 => ?_, fun i a ob h1 h2 => ?_⟩
  · rcases atp i a o1 h1 h3 with ⟨x1, x2, x3⟩ | ⟨x1, x2, x3⟩
    · rcases atp j a o2 h2 h4 with ⟨y1, y2, y3⟩ | ⟨y1, y2, y3⟩
      · exact h.nd i j a o1 o2 x1 y1 x2 y2 m1 m2
      · obtain ⟨u', hu, _⟩ := (h.ob i a o1 x1 x2).there m1
        rw [y2, hp] at hu; cases hu
    · rcases atp j a o2 h2 h4 with ⟨y1, y2, y3⟩ | ⟨y1, y2, y3⟩
      · obtain ⟨u', hu, _⟩ := (h.ob j a o2 y1 y2).there m2
        rw [x2, hp] at hu; cases hu
      · rw [x1, y1]
  · rcases atp i a ob h1 h2 with ⟨x1, x2, x3⟩ | ⟨x1, x2, x3⟩
    · have q := h.ob i a ob x1 x2
      refine q.keep e (fun vs => FroL.new hp) fun hm => ?_
      obtain ⟨u', hu, _⟩ := q.there hm
      exact upd_ne (ne_of_none hu hp)
    · subst x2 x3
      exact ho
/-- an object of the store is written -/
theorem HR.wr {n : Nat} {p : Addr} {o o' : Ob} {u : HO} (h : HR K mg ι m H) (h1 : ι[n]? = some p) (h2 : m[n]? = some o) (m1 : o.mut = true) (ho : OR K mg ι (upd H p u) o' p) (m2 : o'.mut = true) :
    HR K mg ι (m.set n o') (upd H p u) := by
  obtain ⟨u', hu, pu⟩ := (h.ob n p o h1 h2).there m1
  have e : Ext K ι H ι (upd H p u) := Ext.wr hu pu
  have hn : n < m.length := (List.getElem?_eq_some_iff.mp h2).1
  have back : ∀ (i : Nat) ob, (m.set n o')[i]? = some ob → (i = n ∧ ob = o') ∨ (i ≠ n ∧ m[i]? = some ob) := fun i ob q => by
    by_cases hi : n = i
    · subst hi
      rw [List.getElem?_set_self hn] at q
      exact .inl ⟨rfl, (Option.some.inj q).symm⟩
    · rw [List.getElem?_set_ne hi] at q
      exact .inr ⟨Ne.symm hi, q⟩
  refine ⟨by simp [h.len], fun i j a o1 o2 q1 q2 q3 q4 n1 n2 => ?_, fun i a ob q1 q2 => ?_⟩
  · rcases back i o1 q3 with ⟨x1, x2⟩ | ⟨x1, x2⟩
    · rcases back j o2 q4 with ⟨y1, y2⟩ | ⟨y1, y2⟩
      · rw [x1, y1]
      · exact h.nd i j a o o2 q1 q2 (by rw [x1]; exact h2) y2 m1 n2
    · rcases back j o2 q4 with ⟨y1, y2⟩ | ⟨y1, y2⟩
      · exact h.nd i j a o1 o q1 q2 x2 (by rw [y1]; exact h2) n1 m1
      · exact h.nd i j a o1 o2 q1 q2 x2 y2 n1 n2
  · rcases back i ob q2 with ⟨x1, x2⟩ | ⟨x1, x2⟩
    · subst x1 x2
      rw [h1] at q1; cases q1
      exact ho
    · have q := h.ob i a ob q1 x2
      refine q.keep e (fun vs => FroL.wr hu pu) fun hm => upd_ne fun z => ?_
      subst z
      exact x1 (h.nd i n a ob o q1 h1 x2 h2 hm m1)
end
end FS

set_option Elab.async false
set_option linter.all false
set_option maxRecDepth 100000
/-! FS: part 3: the operators' answers are the model's. -/
namespace FS
open PySem PySem.Spec PyProof.Rows L2

/-- what a result asks of what follows -/
def QR {α β : Type} (K : PySem.W.Frag) (mg : Str → Option Value) (rel : List Addr → Hp → α → β → Prop) (ι : List Addr) (H : Hp) (Q : β → Hp → Prop) (W : Value → Option Addr → Hp → Prop) : R α → Prop
  | .ok a m => ∀ ι' H' b, Ext K ι H ι' H' → HR K mg ι' m H' → rel ι' H' a b → Q b H'
  | .exc c m => ∀ ι' H' cls, Ext K ι H ι' H' → HR K mg ι' m H' → mg c = some cls → W cls none H'
  | .stuck => False
abbrev WF : Value → Option Addr → Hp → Prop := fun _ _ _ => False
def R.noexc {α : Type} : R α → Prop
  | .exc _ _ => False
  | _ => True
section
variable {α β γ δ : Type} {K : PySem.W.Frag} {mg : Str → Option Value} {rel : List Addr → Hp → α → β → Prop} {rel2 : List Addr → Hp → γ → δ → Prop} {ι ι' : List Addr} {H H' : Hp} {Q Q' : β → Hp → Prop} {W W' : Value → Option Addr → Hp → Prop} {r : R α} {m : M}
theorem QR.mono (e : Ext K ι H ι' H') (h : QR K mg rel ι H Q W r) : QR K mg rel ι' H' Q W r := by
  cases r with
  | ok a m => exact fun ι2 H2 b x => h ι2 H2 b (e.trans x)
  | exc c m => exact fun ι2 H2 b x => h ι2 H2 b (e.trans x)
  | stuck => exact h
theorem QR.imp (h : QR K mg rel ι H Q W r) (q : ∀ b H', Q b H' → Q' b H') : QR K mg rel ι H Q' W r := by
  cases r with
  | ok a m => exact fun ι2 H2 b x y z => q b H2 (h ι2 H2 b x y z)
  | exc c m => exact h
  | stuck => exact h
theorem QR.wish (h : QR K mg rel ι H Q W r) (n : r.noexc) : QR K mg rel ι H Q W' r := by
  cases r with
  | ok a m => exact h
  | exc c m => exact n.elim
  | stuck => exact h
theorem QR.bind {f : α → M → R γ} {Q2 : δ → Hp → Prop} (h : QR K mg rel2 ι H Q2 W (r.bind f)) :
    QR K mg rel ι H (fun b H1 => ∃ ι1 m1 a, r = .ok a m1 ∧ Ext K ι H ι1 H1 ∧ HR K mg ι1 m1 H1 ∧ rel ι1 H1 a b ∧ QR K mg rel2 ι1 H1 Q2 W (f a m1)) W r := by
  cases r with
  | ok a m => exact fun ι2 H2 b x y z => ⟨ι2, m, a, rfl, x, y, z, QR.mono x h⟩
  | exc c m => exact h
  | stuck => exact h
theorem QR.get (h : QR K mg rel ι H Q W (.ok a m)) (hr : HR K mg ι m H) {b : β} (hb : rel ι H a b) : Q b H := h ι H b Ext.refl hr hb
end
abbrev QD (K : PySem.W.Frag) (mg : Str → Option Value) := QR (α := D) (β := V) K mg (fun ι H => VR K ι H)
/-- two values in, by a function on data -/
def rB (K : PySem.W.Frag) (mg : Str → Option Value) (f : D → D → M → R D) : R2 := fun x y H Q => ∃ ι m d e, HR K mg ι m H ∧ VR K ι H d x ∧ VR K ι H e y ∧ QD K mg ι H Q WF (f d e m)
def rU1 (K : PySem.W.Frag) (mg : Str → Option Value) (f : D → M → R D) : V → Hp → VK → Prop := fun x H Q => ∃ ι m d, HR K mg ι m H ∧ VR K ι H d x ∧ QD K mg ι H Q WF (f d m)
def rL (K : PySem.W.Frag) (mg : Str → Option Value) (f : List D → M → R D) : List V → Hp → VK → Prop := fun xs H Q => ∃ ι m ds, HR K mg ι m H ∧ VRs K ι H ds xs ∧ QD K mg ι H Q WF (f ds m)
def bopA : Bop → Operator
  | .add => .Add | .sub => .Sub | .mul => .Mult | .fdiv => .FloorDiv | .mod => .Mod | .pow => .Pow | .shl => .LShift | .shr => .RShift
def copA : Cop → CmpOp
  | .eq => .Eq | .ne => .NotEq | .lt => .Lt | .le => .LtE | .gt => .Gt | .ge => .GtE | .isin => .In | .notin => .NotIn | .is => .Is | .isnot => .IsNot

/-- never an exception -/
theorem b2r_noexc {o : Option Bool} {m : M} : (b2r o m).noexc := by cases o <;> trivial
theorem binF_noexc (o : Bop) (d e : D) (m : M) : (binF o d e m).noexc := by
  unfold binF
  (repeat' split) <;> trivial
theorem cmpF_noexc (o : Cop) (d e : D) (m : M) : (cmpF o d e m).noexc := by
  unfold cmpF
  split <;> first | exact b2r_noexc | trivial
theorem negF_noexc (d : D) (m : M) : (negF d m).noexc := by
  unfold negF
  split <;> trivial
theorem bcF_noexc (f : Bf) (ds : List D) (m : M) : (bcF f ds m).noexc := by
  unfold bcF
  (repeat' split) <;> trivial
theorem mtF_noexc (f : Mf) (d : D) (ds : List D) (m : M) : (mtF f d ds m).noexc := by
  unfold mtF
  (repeat' split) <;> trivial
theorem ixF_noexc (d e : D) (m : M) : (ixF d e m).noexc := by
  unfold ixF
  (repeat' split) <;> trivial
theorem slF_noexc (d : D) (l h : Option Int) (m : M) : (slF d l h m).noexc := by
  unfold slF
  (repeat' split) <;> trivial

section
variable {X : Cx} {K : PySem.W.Frag} {mg : Str → Option Value} {ι : List Addr} {H : Hp} {m : M}
theorem op_fdivA : OpR X (binaryOp .FloorDiv) (rI (fun _ j => divOk j) fun i j => .int (i.fdiv j)) := opI fun i j _ _ _ _ _ hc q => floordiv_int hc.1 q (.inl (PyProof.noPylong_of_log2 hc.2))

theorem lstAt {n : Nat} {a : Addr} {xs : List D} (hr : HR K mg ι m H) (h1 : ι[n]? = some a) (h2 : m[n]? = some (.lst xs)) : ∃ vs, H a = some (.lst vs) ∧ VRs K ι H xs vs := hr.ob n a _ h1 h2
theorem itemsAt {n : Nat} {a : Addr} {xs : List D} (hr : HR K mg ι m H) (h1 : ι[n]? = some a) (h2 : items m n = some xs) : ∃ vs, SqL K H a vs ∧ VRs K ι H xs vs := by
  unfold items at h2
  split at h2
  · rename_i ys e
    cases h2
    obtain ⟨vs, q1, q2⟩ := hr.ob n a _ h1 e
    exact ⟨vs, .inl (.inl q1), q2⟩
  · rename_i ys e
    cases h2
    obtain ⟨vs, q1, q2⟩ := hr.ob n a _ h1 e
    exact ⟨vs, q1.seq, q2⟩
  · cases h2
/-- a new list -/
theorem newLst {ds : List D} {vs : List V} {Q : VK} (hr : HR K mg ι m H) (hv : VRs K ι H ds vs) (q : QD K mg ι H Q WF (.ok (.loc m.length) (m ++ [.lst ds]))) : ∀ p, H p = none → Q (.ref p) (upd H p (.lst vs)) := fun p hp => by
  have e : Ext K ι H (ι ++ [p]) (upd H p (.lst vs)) := (Ext.push ι p).trans (Ext.new hp)
  refine q (ι ++ [p]) _ _ e (hr.push hp ⟨vs, upd_same, hv.mono e⟩) ?_
  simp only [VR]
  exact ⟨p, by rw [← hr.len]; simp, rfl⟩
/-- a new tuple -/
theorem newTup {ds : List D} {vs : List V} {Q : VK} (hr : HR K mg ι m H) (hv : VRs K ι H ds vs) (q : QD K mg ι H Q WF (.ok (.tup ds) m)) : ∀ p, H p = none → Q (.ref p) (upd H p (.tup vs)) := fun p hp => by
  refine q ι _ _ (Ext.new hp) (hr.new hp) ?_
  simp only [VR]
  exact ⟨p, vs, rfl, .inl (.inl upd_same), hv.mono (Ext.new hp)⟩
theorem small_line {n : Nat} (h : small n) : n ≤ sizeLine := by rw [sizeLine_eq]; exact h

theorem op_bin (o : Bop) : OpR X (binaryOp (bopA o)) (rB X.K X.mg (binF o)) := by
  intro pins s σ H x y v u Q I rx ry ⟨ι, m, d, e, hr, hd, he, q⟩
  unfold binF at q
  split at q
  · simp only [VR] at hd he; subst hd he
    exact op_add pins s σ H _ _ v u Q I rx ry ⟨_, _, rfl, rfl, q.get hr (by simp only [VR])⟩
  · simp only [VR] at hd he; subst hd he
    exact op_sub pins s σ H _ _ v u Q I rx ry ⟨_, _, rfl, rfl, q.get hr (by simp only [VR])⟩
  · simp only [VR] at hd he; subst hd he
    split at q
    · exact op_mulW pins s σ H _ _ v u Q I rx ry ⟨_, _, rfl, rfl, (by assumption), q.get hr (by simp only [VR])⟩
    · exact q.elim
  · simp only [VR] at hd he; subst hd he
    split at q
    · exact op_fdivA pins s σ H _ _ v u Q I rx ry ⟨_, _, rfl, rfl, (by assumption), q.get hr (by simp only [VR])⟩
    · exact q.elim
  · simp only [VR] at hd he; subst hd he
    split at q
    · exact op_modN pins s σ H _ _ v u Q I rx ry ⟨_, _, rfl, rfl, (by assumption), q.get hr (by simp only [VR])⟩
    · exact q.elim
  · simp only [VR] at hd he; subst hd he
    split at q
    · exact op_pow pins s σ H _ _ v u Q I rx ry ⟨_, _, rfl, rfl, (by assumption), q.get hr (by simp only [VR])⟩
    · exact q.elim
  · simp only [VR] at hd he; subst hd he
    split at q
    · exact op_shl pins s σ H _ _ v u Q I rx ry ⟨_, _, rfl, rfl, (by assumption), q.get hr (by simp only [VR])⟩
    · exact q.elim
  · simp only [VR] at hd he; subst hd he
    split at q
    · exact op_shr pins s σ H _ _ v u Q I rx ry ⟨_, _, rfl, rfl, (by assumption), q.get hr (by simp only [VR])⟩
    · exact q.elim
  · simp only [VR] at hd he; subst hd he
    split at q
    · exact op_add_str pins s σ H _ _ v u Q I rx ry ⟨_, _, rfl, rfl, small_line (by assumption), q.get hr (by simp only [VR])⟩
    · exact q.elim
  · rename_i ds es
    simp only [VR] at hd he
    obtain ⟨a, vs, rfl, hA, hv⟩ := hd
    obtain ⟨b, us, rfl, hB, hu⟩ := he
    split at q
    · rename_i hs
      refine op_catA pins s σ H _ _ v u Q I rx ry ⟨a, b, vs, us, rfl, rfl, hA, hB, ?_, fun e => ?_, fun e1 e2 => ?_, fun _ _ => newTup hr (hv.append hu) q⟩
      · rw [← hv.length, ← hu.length]; exact small_line hs
      · subst e
        have : ds = [] := by cases ds with | nil => rfl | cons d ds => have := hv.length; simp at this
        subst this
        exact q.get hr (by simp only [VR]; exact ⟨b, us, rfl, hB, hu⟩)
      · subst e2
        have : es = [] := by cases es with | nil => rfl | cons d ds => have := hu.length; simp at this
        subst this
        exact q.get hr (by simp only [VR]; exact ⟨a, vs, rfl, hA, by rw [List.append_nil]; exact hv⟩)
    · exact q.elim
  · simp only [VR] at hd he
    obtain ⟨a, ha, rfl⟩ := hd
    obtain ⟨b, hb, rfl⟩ := he
    split at q
    · rename_i xs ys e1 e2
      obtain ⟨vs, hA, hv⟩ := lstAt hr ha e1
      obtain ⟨us, hB, hu⟩ := lstAt hr hb e2
      split at q
      · rename_i hs
        refine op_cat pins s σ H _ _ v u Q I rx ry ⟨a, b, vs, us, rfl, rfl, hA, hB, ?_, newLst hr (hv.append hu) q⟩
        rw [← hv.length, ← hu.length]; exact small_line hs
      · exact q.elim
    · exact q.elim
  · exact q.elim
theorem un_negF : UnR X (unaryOp .USub) (rU1 X.K X.mg negF) := by
  intro pins s σ H x v Q I rx ⟨ι, m, d, hr, hd, q⟩
  unfold negF at q
  split at q
  · simp only [VR] at hd; subst hd
    exact un_neg pins s σ H _ v Q I rx ⟨_, rfl, q.get hr (by simp only [VR])⟩
  · exact q.elim

/-! ### == -/
mutual
theorem pd_of (hr : HR K mg ι m H) {rec : Nat → Option PyData} (hrec : ∀ n p a, rec n = some p → ι[n]? = some a → Dp K H (.ref a) p) :
    ∀ (d : D) (v : V) (p : PyData), toPd rec d = some p → VR K ι H d v → Dp K H v p
  | .non, v, p, h, r => by simp only [toPd, VR] at h r; cases h; subst r; exact .non
  | .bl b, v, p, h, r => by simp only [toPd, VR] at h r; cases h; subst r; exact .bl b
  | .int i, v, p, h, r => by simp only [toPd, VR] at h r; cases h; subst r; exact .int i
  | .str x, v, p, h, r => by simp only [toPd, VR] at h r; cases h; subst r; exact .str x
  | .tup ds, v, p, h, r => by
    simp only [toPd, VR] at h r
    obtain ⟨a, vs, rfl, hA, hv⟩ := r
    cases e : toPds rec ds with
    | none => rw [e] at h; cases h
    | some ps =>
      rw [e] at h
      cases h
      exact .tup hA (pds_of hr hrec ds vs ps e hv)
  | .loc n, v, p, h, r => by
    simp only [toPd, VR] at h r
    obtain ⟨a, ha, rfl⟩ := r
    exact hrec n p a h ha
theorem pds_of (hr : HR K mg ι m H) {rec : Nat → Option PyData} (hrec : ∀ n p a, rec n = some p → ι[n]? = some a → Dp K H (.ref a) p) :
    ∀ (ds : List D) (vs : List V) (ps : List PyData), toPds rec ds = some ps → VRs K ι H ds vs → DpAll K H vs ps
  | [], vs, ps, h, r => by simp only [toPds, VRs] at h r; cases h; subst r; exact .nil
  | d :: ds, vs, ps, h, r => by
    simp only [toPds, VRs] at h r
    obtain ⟨v, us, rfl, h1, h2⟩ := r
    cases e : toPd rec d with
    | none => rw [e] at h; cases h
    | some p =>
      rw [e] at h
      cases e2 : toPds rec ds with
      | none => rw [e2] at h; cases h
      | some qs =>
        rw [e2] at h
        cases h
        exact .cons (pd_of hr hrec d v p e h1) (pds_of hr hrec ds us qs e2 h2)
end
theorem lpd_of (hr : HR K mg ι m H) : ∀ (f n : Nat) (p : PyData) (a : Addr), lpd m f n = some p → ι[n]? = some a → Dp K H (.ref a) p
  | 0, _, _, _, h, _ => by simp [lpd] at h
  | f + 1, n, p, a, h, ha => by
    simp only [lpd] at h
    cases e : items m n with
    | none => rw [e] at h; cases h
    | some xs =>
      rw [e] at h
      obtain ⟨vs, hA, hv⟩ := itemsAt hr ha e
      cases e2 : toPds (lpd m f) xs with
      | none => simp only [Option.bind_some, e2] at h; cases h
      | some ps =>
        simp only [Option.bind_some, e2, Option.map_some] at h
        cases h
        exact .lst hA (pds_of hr (lpd_of hr f) xs vs ps e2 hv)
theorem dp_of (hr : HR K mg ι m H) {d : D} {v : V} {p : PyData} (h : toPd (lpd m 8) d = some p) (r : VR K ι H d v) : Dp K H v p := pd_of hr (lpd_of hr 8) d v p h r

theorem eq_ok {hu : X.A.units + 64 < cLine} {x y : V} {v u : Value} {Q : VK} {pins : List (Addr × Obj)} {s : Shared} {σ : L2.St} {d e : D} {b : Bool} (I : Inv X pins σ H s) (rx : RelV x v) (ry : RelV y u)
    (hr : HR X.K X.mg ι m H) (hd : VR X.K ι H d x) (he : VR X.K ι H e y) (h : eqD m d e = some b) :
    (Q (.bl b) H → wpAny (model X.prog X.w) X.A (compareOp .Eq v u) (EP X pins σ Q) X.xe s) ∧ (Q (.bl (!b)) H → wpAny (model X.prog X.w) X.A (compareOp .NotEq v u) (EP X pins σ Q) X.xe s) := by
  unfold eqD at h
  split at h
  · rename_i k hk
    cases h
    have sc : scal x y = true ∧ decide (x = y) = b := by
      unfold scEq at hk
      split at hk <;> first | (cases hk; done) | (simp only [VR] at hd he; subst hd he; cases hk; refine ⟨rfl, ?_⟩; first | rfl | (simp; done))
    exact ⟨fun q => op_eq pins s σ H x y v u Q I rx ry ⟨sc.1, by rw [sc.2]; exact q⟩, fun q => op_ne pins s σ H x y v u Q I rx ry ⟨sc.1, by rw [sc.2]; exact q⟩⟩
  · cases e1 : toPd (lpd m 8) d with
    | none => rw [e1] at h; cases h
    | some p =>
      cases e2 : toPd (lpd m 8) e with
      | none => simp only [e1, e2, Option.bind_some] at h; cases h
      | some q =>
        simp only [e1, e2, Option.bind_some] at h
        split at h
        · rename_i hs
          cases h
          simp only [Bool.and_eq_true] at hs
          have h1 := dp_of hr e1 hd
          have h2 := dp_of hr e2 he
          exact ⟨fun z => op_eqD hu pins s σ H x y v u Q I rx ry ⟨p, q, h1, h2, hs.1, hs.2, z⟩, fun z => op_neD hu pins s σ H x y v u Q I rx ry ⟨p, q, h1, h2, hs.1, hs.2, z⟩⟩
        · cases h

/-! ### in -/
theorem fl_of {d : D} {v : V} (f : flatD d = true) (h : VR K ι H d v) : v = flV d ∧ flatV v = true := by
  cases d <;> first | (cases f; done) | (simp only [VR] at h; subst h; exact ⟨rfl, rfl⟩)
theorem fls_of : ∀ {ds : List D} {vs : List V}, ds.all flatD = true → VRs K ι H ds vs → vs = ds.map flV ∧ vs.all flatV = true
  | [], vs, _, h => by simp only [VRs] at h; subst h; exact ⟨rfl, rfl⟩
  | d :: ds, vs, f, h => by
    simp only [VRs] at h
    obtain ⟨v, r, rfl, h1, h2⟩ := h
    simp only [List.all_cons, Bool.and_eq_true] at f
    obtain ⟨e1, e2⟩ := fl_of f.1 h1
    obtain ⟨e3, e4⟩ := fls_of f.2 h2
    exact ⟨by rw [e1, e3]; rfl, by simp only [List.all_cons, e2, e4, Bool.and_self]⟩
theorem mem_ok {hu : X.A.units + 65 < cLine} {x y : V} {v u : Value} {Q : VK} {pins : List (Addr × Obj)} {s : Shared} {σ : L2.St} {d e : D} {b : Bool} (I : Inv X pins σ H s) (rx : RelV x v) (ry : RelV y u)
    (hr : HR X.K X.mg ι m H) (hd : VR X.K ι H d x) (he : VR X.K ι H e y) (h : memF m d e = some b) :
    (Q (.bl b) H → wpAny (model X.prog X.w) X.A (compareOp .In v u) (EP X pins σ Q) X.xe s) ∧ (Q (.bl (!b)) H → wpAny (model X.prog X.w) X.A (compareOp .NotIn v u) (EP X pins σ Q) X.xe s) := by
  have flat : ∀ {a : Addr} {ys : List D} {vs : List V}, y = .ref a → (SqL X.K H a vs ∨ SqT X.K H a vs) → VRs X.K ι H ys vs → inFlat d ys = some b →
      (Q (.bl b) H → wpAny (model X.prog X.w) X.A (compareOp .In v u) (EP X pins σ Q) X.xe s) ∧ (Q (.bl (!b)) H → wpAny (model X.prog X.w) X.A (compareOp .NotIn v u) (EP X pins σ Q) X.xe s) := fun {a ys vs} hy hS hv hb => by
    unfold inFlat at hb
    split at hb
    · rename_i hf
      simp only [Bool.and_eq_true] at hf
      obtain ⟨e1, f1⟩ := fl_of hf.1 hd
      obtain ⟨e2, f2⟩ := fls_of hf.2 hv
      cases hb
      rw [← e1, ← e2]
      exact ⟨fun q => op_in_seq pins s σ H x y v u Q I rx ry ⟨a, vs, hy, hS, f1, f2, q⟩, fun q => op_notIn_seq pins s σ H x y v u Q I rx ry ⟨a, vs, hy, hS, f1, f2, q⟩⟩
    · cases hb
  unfold memF at h
  split at h
  · cases h
    simp only [VR] at hd he; subst hd he
    exact ⟨fun q => op_in_str pins s σ H _ _ v u Q I rx ry ⟨_, _, rfl, rfl, q⟩, fun q => op_notIn_str pins s σ H _ _ v u Q I rx ry ⟨_, _, rfl, rfl, q⟩⟩
  · simp only [VR] at he
    obtain ⟨a, vs, hy, hA, hv⟩ := he
    exact flat hy (.inr hA) hv h
  · simp only [VR] at he
    obtain ⟨a, ha, hy⟩ := he
    rename_i n
    cases e1 : items m n with
    | none => rw [e1] at h; cases h
    | some ys =>
      simp only [e1, Option.bind_some] at h
      obtain ⟨vs, hA, hv⟩ := itemsAt hr ha e1
      split at h
      · rename_i hf
        refine flat hy (.inl hA) hv ?_
        unfold inFlat
        rw [if_pos hf]
        exact h
      · unfold inDeep at h
        cases e2 : toPd (lpd m 8) d with
        | none => rw [e2] at h; cases h
        | some p =>
          cases e3 : toPds (lpd m 8) ys with
          | none => simp only [e2, e3, Option.bind_some] at h; cases h
          | some qs =>
            simp only [e2, e3, Option.bind_some] at h
            split at h
            · rename_i hs
              cases h
              simp only [Bool.and_eq_true] at hs
              have h1 := dp_of hr e2 hd
              have h2 : Dp X.K H y (.list qs) := by rw [hy]; exact .lst hA (pds_of hr (lpd_of hr 8) ys vs qs e3 hv)
              exact ⟨fun z => op_inD hu pins s σ H x y v u Q I rx ry ⟨p, qs, h1, h2, hs.1, hs.2, z⟩, fun z => op_notInD hu pins s σ H x y v u Q I rx ry ⟨p, qs, h1, h2, hs.1, hs.2, z⟩⟩
            · cases h
  · cases h
theorem is_ok {x y : V} {v u : Value} {Q : VK} {pins : List (Addr × Obj)} {s : Shared} {σ : L2.St} {d : D} {e : D} {b : Bool} (I : Inv X pins σ H s) (rx : RelV x v) (ry : RelV y u)
    (hd : VR X.K ι H d x) (he : VR X.K ι H e y) (ne : e = .non ∨ ∃ k, e = .bl k) (h : isF d e = some b) :
    (Q (.bl b) H → wpAny (model X.prog X.w) X.A (compareOp .Is v u) (EP X pins σ Q) X.xe s) ∧ (Q (.bl (!b)) H → wpAny (model X.prog X.w) X.A (compareOp .IsNot v u) (EP X pins σ Q) X.xe s) := by
  rcases ne with rfl | ⟨k, rfl⟩
  · simp only [VR] at he; subst he
    have hb : decide (x = V.non) = b := by
      cases d <;> simp only [VR] at hd <;> first | (subst hd; cases h; rfl) | (obtain ⟨a, vs, rfl, _⟩ := hd; cases h; rfl) | (obtain ⟨a, _, rfl⟩ := hd; cases h; rfl)
    exact ⟨fun q => op_isN pins s σ H _ _ v u Q I rx ry ⟨rfl, by rw [hb]; exact q⟩, fun q => op_notN pins s σ H _ _ v u Q I rx ry ⟨rfl, by rw [hb]; exact q⟩⟩
  · simp only [VR] at he; subst he
    cases d <;> first | (cases h; done) | skip
    · simp only [VR] at hd; subst hd
      cases h
      exact ⟨fun q => op_isBl pins s σ H _ _ v u Q I rx ry ⟨_, _, rfl, rfl, q⟩, fun q => op_notBl pins s σ H _ _ v u Q I rx ry ⟨_, _, rfl, rfl, q⟩⟩
end
end FS

set_option Elab.async false
set_option linter.all false
set_option maxRecDepth 100000
/-! FS: part 4: comparisons, built-ins, methods, subscripts. -/
namespace FS
open PySem PySem.Spec PyProof.Rows L2
section
variable {X : Cx} {K : PySem.W.Frag} {mg : Str → Option Value} {ι : List Addr} {H : Hp} {m : M}
theorem is_ok' {x y : V} {v u : Value} {Q : VK} {pins : List (Addr × Obj)} {s : Shared} {σ : L2.St} {d e : D} {b : Bool} (I : Inv X pins σ H s) (rx : RelV x v) (ry : RelV y u)
    (hd : VR X.K ι H d x) (he : VR X.K ι H e y) (h : isF d e = some b) :
    (Q (.bl b) H → wpAny (model X.prog X.w) X.A (compareOp .Is v u) (EP X pins σ Q) X.xe s) ∧ (Q (.bl (!b)) H → wpAny (model X.prog X.w) X.A (compareOp .IsNot v u) (EP X pins σ Q) X.xe s) := by
  refine is_ok I rx ry hd he ?_ h
  cases d <;> cases e <;> first | exact .inl rfl | exact .inr ⟨_, rfl⟩ | (cases h; done)
theorem b2r_get {o : Option Bool} {Q : VK} (q : QD K mg ι H Q WF (b2r o m)) (hr : HR K mg ι m H) : ∃ b, o = some b ∧ Q (.bl b) H := by
  cases o with
  | none => exact q.elim
  | some b => exact ⟨b, rfl, q.get hr (by simp only [VR])⟩
theorem op_cmp (hu : X.A.units + 65 < cLine) (o : Cop) : OpR X (compareOp (copA o)) (rB X.K X.mg (cmpF o)) := by
  intro pins s σ H x y v u Q I rx ry ⟨ι, m, d, e, hr, hd, he, q⟩
  have hu' : X.A.units + 64 < cLine := by omega
  unfold cmpF at q
  split at q
  · obtain ⟨b, h, q⟩ := b2r_get q hr
    exact (eq_ok (hu := hu') I rx ry hr hd he h).1 q
  · obtain ⟨b, h, q⟩ := b2r_get q hr
    obtain ⟨c, hc, e⟩ := Option.map_eq_some_iff.mp h
    exact (eq_ok (hu := hu') I rx ry hr hd he hc).2 (by rw [e]; exact q)
  · simp only [VR] at hd he; subst hd he
    exact op_lt pins s σ H _ _ v u Q I rx ry ⟨_, _, rfl, rfl, q.get hr (by simp only [VR])⟩
  · simp only [VR] at hd he; subst hd he
    exact op_le pins s σ H _ _ v u Q I rx ry ⟨_, _, rfl, rfl, q.get hr (by simp only [VR])⟩
  · simp only [VR] at hd he; subst hd he
    exact op_gt pins s σ H _ _ v u Q I rx ry ⟨_, _, rfl, rfl, q.get hr (by simp only [VR])⟩
  · simp only [VR] at hd he; subst hd he
    exact op_ge pins s σ H _ _ v u Q I rx ry ⟨_, _, rfl, rfl, q.get hr (by simp only [VR])⟩
  · simp only [VR] at hd he; subst hd he
    exact op_lt_str pins s σ H _ _ v u Q I rx ry ⟨_, _, rfl, rfl, q.get hr (by simp only [VR, strLt])⟩
  · obtain ⟨b, h, q⟩ := b2r_get q hr
    exact (mem_ok (hu := hu) I rx ry hr hd he h).1 q
  · obtain ⟨b, h, q⟩ := b2r_get q hr
    obtain ⟨c, hc, e⟩ := Option.map_eq_some_iff.mp h
    exact (mem_ok (hu := hu) I rx ry hr hd he hc).2 (by rw [e]; exact q)
  · obtain ⟨b, h, q⟩ := b2r_get q hr
    exact (is_ok' I rx ry hd he h).1 q
  · obtain ⟨b, h, q⟩ := b2r_get q hr
    obtain ⟨c, hc, e⟩ := Option.map_eq_some_iff.mp h
    exact (is_ok' I rx ry hd he hc).2 (by rw [e]; exact q)
  · exact q.elim

/-! ### built-in functions, by their names -/
def bfN : Bf → Str
  | .len => "len" | .abs => "abs" | .min2 => "min" | .max2 => "max" | .int => "int" | .str => "str" | .bool => "bool" | .tuple => "tuple" | .list => "list" | .sum => "sum" | .all => "all"
/-- a built-in function, or a built-in type -/
def bfV : Bf → Value
  | .len => .builtin "len" | .abs => .builtin "abs" | .min2 => .builtin "min" | .max2 => .builtin "max" | .int => .type "int" | .str => .type "str" | .bool => .type "bool" | .tuple => .type "tuple"
  | .list => .type "list" | .sum => .builtin "sum" | .all => .builtin "all"
theorem bf_boot (f : Bf) : bootBuiltins (bfN f) = some (bfV f) := by cases f <;> decide +kernel
theorem vrs1 {d : D} {xs : List V} (h : VRs K ι H [d] xs) : ∃ v, xs = [v] ∧ VR K ι H d v := by
  simp only [VRs] at h
  obtain ⟨v, r, rfl, h1, rfl⟩ := h
  exact ⟨v, rfl, h1⟩
theorem vrs2 {d e : D} {xs : List V} (h : VRs K ι H [d, e] xs) : ∃ v u, xs = [v, u] ∧ VR K ι H d v ∧ VR K ι H e u := by
  simp only [VRs] at h
  obtain ⟨v, r, rfl, h1, u, r2, rfl, h2, rfl⟩ := h
  exact ⟨v, u, rfl, h1, h2⟩
theorem call_bf (hc : X.calm = true) (f : Bf) : CallR X (bfV f) (rL X.K X.mg (bcF f)) := by
  intro pins s σ H xs us Q I r ⟨ι, m, ds, hr, hv, q⟩
  unfold bcF at q
  split at q
  · obtain ⟨x, rfl, hx⟩ := vrs1 hv
    simp only [VR] at hx; subst hx
    split at q
    · exact call_len pins s σ H _ us Q I r ⟨_, _, rfl, ⟨small_line (by assumption), rfl⟩, q.get hr (by simp only [VR])⟩
    · exact q.elim
  · obtain ⟨x, rfl, hx⟩ := vrs1 hv
    simp only [VR] at hx
    obtain ⟨a, vs, rfl, hA, hv'⟩ := hx
    exact call_len pins s σ H _ us Q I r ⟨_, _, rfl, .inr ⟨vs, hA, rfl⟩, q.get hr (by simp only [VR, hv'.length])⟩
  · obtain ⟨x, rfl, hx⟩ := vrs1 hv
    simp only [VR] at hx
    obtain ⟨a, ha, rfl⟩ := hx
    split at q
    · rename_i ys e
      obtain ⟨vs, hA, hv'⟩ := itemsAt hr ha e
      exact call_len pins s σ H _ us Q I r ⟨_, _, rfl, .inl ⟨vs, hA, rfl⟩, q.get hr (by simp only [VR, hv'.length])⟩
    · exact q.elim
  · obtain ⟨x, rfl, hx⟩ := vrs1 hv
    simp only [VR] at hx; subst hx
    exact call_abs pins s σ H _ us Q I r ⟨_, rfl, q.get hr (by simp only [VR])⟩
  · obtain ⟨x, y, rfl, hx, hy⟩ := vrs2 hv
    simp only [VR] at hx hy; subst hx hy
    exact call_min2 hc pins s σ H _ us Q I r ⟨_, _, rfl, q.get hr (by simp only [VR])⟩
  · obtain ⟨x, y, rfl, hx, hy⟩ := vrs2 hv
    simp only [VR] at hx hy; subst hx hy
    exact call_max2 hc pins s σ H _ us Q I r ⟨_, _, rfl, q.get hr (by simp only [VR])⟩
  · obtain ⟨x, rfl, hx⟩ := vrs1 hv
    simp only [VR] at hx; subst hx
    exact call_int1 pins s σ H _ us Q I r (.inl ⟨_, rfl, q.get hr (by simp only [VR])⟩)
  · obtain ⟨x, rfl, hx⟩ := vrs1 hv
    simp only [VR] at hx; subst hx
    exact call_int1 pins s σ H _ us Q I r (.inr ⟨_, rfl, q.get hr (by simp only [VR])⟩)
  · obtain ⟨x, rfl, hx⟩ := vrs1 hv
    simp only [VR] at hx; subst hx
    split at q
    · exact call_str_int pins s σ H _ us Q I r ⟨_, rfl, (by assumption), q.get hr (by simp only [VR])⟩
    · exact q.elim
  · obtain ⟨x, rfl, hx⟩ := vrs1 hv
    simp only [VR] at hx
    obtain ⟨a, vs, rfl, hA, hv'⟩ := hx
    exact call_tuple_of pins s σ H _ us Q I r ⟨a, vs, rfl, .inr ⟨hA, q.get hr (by simp only [VR]; exact ⟨a, vs, rfl, hA, hv'⟩)⟩⟩
  · obtain ⟨x, rfl, hx⟩ := vrs1 hv
    simp only [VR] at hx
    obtain ⟨a, ha, rfl⟩ := hx
    split at q
    · rename_i ys e
      obtain ⟨vs, hA, hv'⟩ := itemsAt hr ha e
      exact call_tuple_of pins s σ H _ us Q I r ⟨a, vs, rfl, .inl ⟨hA, newTup hr hv' q⟩⟩
    · exact q.elim
  · obtain ⟨x, rfl, hx⟩ := vrs1 hv
    simp only [VR] at hx
    obtain ⟨a, vs, rfl, hA, hv'⟩ := hx
    exact call_list_of pins s σ H _ us Q I r ⟨a, vs, rfl, .inr hA, newLst hr hv' q⟩
  · obtain ⟨x, rfl, hx⟩ := vrs1 hv
    simp only [VR] at hx
    obtain ⟨a, ha, rfl⟩ := hx
    split at q
    · rename_i ys e
      obtain ⟨vs, hA, hv'⟩ := itemsAt hr ha e
      exact call_list_of pins s σ H _ us Q I r ⟨a, vs, rfl, .inl hA, newLst hr hv' q⟩
    · exact q.elim
  · exact q.elim

/-! ### subscripts -/
theorem atI_vr {ds : List D} {vs : List V} {i : Int} {d : D} (h : VRs K ι H ds vs) (e : atI ds i = some d) : ∃ v, atI vs i = some v ∧ VR K ι H d v := by
  unfold atI at e ⊢
  rw [← h.length]
  cases q : ixN ds.length i with
  | none => rw [q] at e; cases e
  | some j =>
    rw [q] at e
    simp only [Option.bind_some] at e ⊢
    exact h.get e
theorem ix_F : IxR X (rB X.K X.mg ixF) := by
  intro value slice pins s σ H x y v u Q I rx ry ⟨ι, m, d, e, hr, hd, he, q⟩ hpl
  unfold ixF at q
  split at q
  · simp only [VR] at hd he; subst he
    obtain ⟨a, vs, rfl, hA, hv⟩ := hd
    split at q
    · rename_i d' e'
      obtain ⟨w, h1, h2⟩ := atI_vr hv e'
      exact ix_tup value slice pins s σ H _ _ v u Q I rx ry ⟨a, vs, _, w, rfl, rfl, hA, h1, q.get hr h2⟩ hpl
    · exact q.elim
  · simp only [VR] at hd he; subst he
    obtain ⟨a, ha, rfl⟩ := hd
    rename_i n i
    cases e1 : items m n with
    | none => simp only [e1, Option.bind_none] at q; exact q.elim
    | some ys =>
      simp only [e1, Option.bind_some] at q
      obtain ⟨vs, hA, hv⟩ := itemsAt hr ha e1
      split at q
      · rename_i d' e'
        obtain ⟨w, h1, h2⟩ := atI_vr hv e'
        exact ix_list value slice pins s σ H _ _ v u Q I rx ry ⟨a, vs, _, w, rfl, rfl, hA, h1, q.get hr h2⟩ hpl
      · exact q.elim
  · simp only [VR] at hd he; subst hd he
    split at q
    · rename_i hs
      split at q
      · rename_i c e'
        exact ix_str value slice pins s σ H _ _ v u Q I rx ry ⟨_, _, c, rfl, rfl, small_line hs, e', q.get hr (by simp only [VR])⟩ hpl
      · exact q.elim
    · exact q.elim
  · exact q.elim
theorem cut_vr {ds : List D} {vs : List V} {lo hi : Option Int} (h : VRs K ι H ds vs) : VRs K ι H (cut ds lo hi) (cutV vs lo hi) := by
  unfold cut cutV
  rw [h.length]
  exact (h.drop _).take _
/-- o[lo:hi] by values -/
def rSl (K : PySem.W.Frag) (mg : Str → Option Value) : V → Option Int → Option Int → Hp → VK → Prop := fun x lo hi H Q => ∃ ι m d, HR K mg ι m H ∧ VR K ι H d x ∧ QD K mg ι H Q WF (slF d lo hi m)
theorem sl_F : SlR X (rSl X.K X.mg) := by
  intro pins s σ H x v vl vu lo hi sl Q I rx hs pl pu ⟨ι, m, d, hr, hd, q⟩
  unfold slF at q
  split at q
  · simp only [VR] at hd
    obtain ⟨a, vs, rfl, hA, hv⟩ := hd
    refine sl_tupA pins s σ H _ v vl vu lo hi sl Q I rx hs pl pu ⟨a, vs, rfl, hA, fun hw => ?_, fun _ => newTup hr (cut_vr hv) q⟩
    refine q.get hr ?_
    simp only [VR]
    refine ⟨a, vs, rfl, hA, ?_⟩
    have e : cutV vs lo hi = vs := by
      unfold cutV
      rw [hw.1, hw.2]
      simp
    have z := cut_vr (lo := lo) (hi := hi) hv
    rw [e] at z
    exact z
  · simp only [VR] at hd
    obtain ⟨a, ha, rfl⟩ := hd
    split at q
    · rename_i ys e
      obtain ⟨vs, hA, hv⟩ := itemsAt hr ha e
      exact sl_list pins s σ H _ v vl vu lo hi sl Q I rx hs pl pu ⟨a, vs, rfl, hA, newLst hr (cut_vr hv) q⟩
    · exact q.elim
  · exact q.elim
/-- o[i] = d -/
def rPut (K : PySem.W.Frag) (mg : Str → Option Value) : V → V → V → Hp → (Hp → Prop) → Prop := fun o i v H Q => ∃ ι m d e f m', HR K mg ι m H ∧ VR K ι H d o ∧ VR K ι H e i ∧ VR K ι H f v ∧ putF d e f m = some m' ∧
  ∀ H', Ext K ι H ι H' → HR K mg ι m' H' → Q H'
theorem set_F : PSet X (rPut X.K X.mg) := by
  intro pins s σ H o i v ov iv u Q I ro ri rv ⟨ι, m, d, e, f, m', hr, hd, he, hf, h, q⟩
  unfold putF at h
  split at h
  · rename_i n k
    simp only [VR] at hd he; subst he
    obtain ⟨a, ha, rfl⟩ := hd
    split at h
    · rename_i xs e1
      obtain ⟨vs, hA, hv⟩ := lstAt hr ha e1
      obtain ⟨j, hj, rfl⟩ := Option.map_eq_some_iff.mp h
      refine set_list pins s σ H _ _ _ ov iv u Q I ro ri rv ⟨a, vs, k, j, rfl, rfl, hA, by rw [← hv.length]; exact hj, ?_⟩
      have ex : Ext X.K ι H ι (upd H a (.lst (vs.set j v))) := Ext.wr hA rfl
      exact q _ ex (hr.wr ha e1 rfl ⟨_, upd_same, (hv.set j hf).mono ex⟩ rfl)
    · cases h
  · cases h

/-! ### methods of built-in types -/
def rMt (K : PySem.W.Frag) (mg : Str → Option Value) (f : Mf) : V → List V → Hp → VK → Prop := fun x xs H Q => ∃ ι m d ds, HR K mg ι m H ∧ VR K ι H d x ∧ VRs K ι H ds xs ∧ QD K mg ι H Q WF (mtF f d ds m)
end
end FS

set_option Elab.async false
set_option linter.all false
set_option maxRecDepth 100000
/-! FS: part 5: from the model's syntax to ours. -/
namespace FS
open PySem PySem.Spec PyProof.Rows L2

/-- what is known of the text's top -/
structure Tb where
  fns : List Str
  cls : List Str
  gls : List Str
  blt : List Str
  rcl : List Str
/-- the names where an expression stands -/
structure Gm where
  N : List Str
  sc : Scope
  oc : List Str
def slot (N : List Str) (x : Str) : Option Nat := N.findIdx? fun y => decide (y = x)
def vis (sc : Scope) (x : Str) : Bool := match sc.names.lookup x with
  | some .local => true
  | some .cell => true
  | some .free => true
  | _ => false
def isGl (sc : Scope) (x : Str) : Bool := match sc.names.lookup x with
  | some .globalImplicit => true
  | _ => false
def tgt (g : Gm) (x : Str) : Option Nat := match g.sc.names.lookup x with
  | some .local => slot g.N x
  | some .cell => if x ∈ g.oc then slot g.N x else none
  | _ => none
def tgts (g : Gm) : List Expr → Option (List Nat)
  | [] => some []
  | .Name x _ :: es => (tgt g x).bind fun i => (tgts g es).map fun is => i :: is
  | _ => none
def trTg (g : Gm) : Expr → Option Tg
  | .Name x _ => (tgt g x).map .nm
  | .Tuple es _ _ => (tgts g es).map .tp
  | _ => none
def Tg.slots : Tg → List Nat
  | .nm i => [i]
  | .tp is => is
def tgNames : Expr → List Str
  | .Name x _ => [x]
  | .Tuple es _ _ => es.filterMap fun | .Name x _ => some x | _ => none
  | _ => []
def bopOf : Operator → Option Bop
  | .Add => some .add | .Sub => some .sub | .Mult => some .mul | .FloorDiv => some .fdiv | .Mod => some .mod | .Pow => some .pow | .LShift => some .shl | .RShift => some .shr
  | _ => none
def copOf : CmpOp → Cop
  | .Eq => .eq | .NotEq => .ne | .Lt => .lt | .LtE => .le | .Gt => .gt | .GtE => .ge | .In => .isin | .NotIn => .notin | .Is => .is | .IsNot => .isnot
theorem bopA_of {o : Operator} {b : Bop} (h : bopOf o = some b) : bopA b = o := by cases o <;> cases h <;> rfl
theorem copA_of (o : CmpOp) : copA (copOf o) = o := by cases o <;> rfl
def bfAll : List (Bf × Nat) := [(.len, 1), (.abs, 1), (.min2, 2), (.max2, 2), (.int, 1), (.str, 1), (.bool, 1), (.tuple, 1), (.list, 1), (.sum, 1), (.all, 1)]
def bfOf (x : Str) (n : Nat) : Option Bf := (bfAll.find? fun p => decide (bfN p.1 = x) && decide (p.2 = n)).map (·.1)
def tyN : Ty → String
  | .non => "NoneType" | .int => "int" | .bool => "bool" | .str => "str" | .tuple => "tuple" | .list => "list" | .dict => "dict" | .valueError => "ValueError"
def tyOfN (x : Str) : Option Ty := [Ty.int, .bool, .str, .tuple, .list, .dict, .valueError].find? fun t => decide ((tyN t : Str) = x)
def clOf (t : Tb) (g : Gm) (x : Str) : Option Cl := if isGl g.sc x then (if x ∈ t.cls then some (.own x) else if x ∈ t.blt then (tyOfN x).map .ty else none) else none
def clsOf (t : Tb) (g : Gm) : List Expr → Option (List Cl)
  | [] => some []
  | .Name x _ :: es => (clOf t g x).bind fun c => (clsOf t g es).map fun cs => c :: cs
  | _ => none
def lits : Const → Option D
  | .none => some .non
  | .bool b => some (.bl b)
  | .int i => some (.int i)
  | .str s => some (.str s)
  | _ => none

mutual
def trE (t : Tb) : Nat → Gm → Expr → Option E
  | 0, _, _ => none
  | n + 1, g, e => match e with
    | .Name x _ => if vis g.sc x then (slot g.N x).map .var else if isGl g.sc x && decide (x ∈ t.gls) then some (.gv x) else none
    | .Constant c _ _ => (lits c).map .con
    | .BinOp a o b _ => (bopOf o).bind fun o' => (trE t n g a).bind fun a' => (trE t n g b).map fun b' => .bin o' a' b'
    | .UnaryOp .USub a _ => (trE t n g a).map .neg
    | .UnaryOp .Not a _ => (trE t n g a).map .not
    | .Compare a [o] [b] _ => (trE t n g a).bind fun a' => (trE t n g b).map fun b' => .cmp (copOf o) a' b'
    | .Compare a [o, p] [b, c] _ => (trE t n g a).bind fun a' => (trE t n g b).bind fun b' => (trE t n g c).map fun c' => .chain (copOf o) (copOf p) a' b' c'
    | .BoolOp o es _ => trB t n g o es
    | .IfExp c a b _ => (trT t n g c).bind fun c' => (trE t n g a).bind fun a' => (trE t n g b).map fun b' => .ite c' a' b'
    | .Tuple es _ _ => (trEs t n g es).map .tup
    | .List es _ => (trEs t n g es).map .lst
    | .Subscript a (.Slice lo hi none _) _ => (trE t n g a).bind fun a' => match lo, hi with
      | none, none => some (.slc a' none none)
      | some l, none => (trE t n g l).map fun l' => .slc a' (some l') none
      | none, some h => (trE t n g h).map fun h' => .slc a' none (some h')
      | some l, some h => (trE t n g l).bind fun l' => (trE t n g h).map fun h' => .slc a' (some l') (some h')
    | .Subscript a i _ => (trE t n g a).bind fun a' => (trE t n g i).map fun i' => .idx a' i'
    | .Call (.Name f _) es [] _ => if isGl g.sc f then (if f ∈ t.fns then (trEs t n g es).map (.call f) else if f ∈ t.blt then (
        if f = "isinstance" then (match es with
          | [a, .Name c _] => (trE t n g a).bind fun a' => (clOf t g c).map fun c' => .isi a' c'
          | [a, .Tuple cs _ _] => (trE t n g a).bind fun a' => (clsOf t g cs).bind fun cs' => if cs'.isEmpty || decide (1000 < cs'.length) then none else some (.isis a' cs')
          | _ => none)
        else match es with
          | [] => none
          | e1 :: r => (bfOf f (e1 :: r).length).bind fun b => (trEs t n g (e1 :: r)).map (.bcl b)) else none) else none
    | .ListComp elt [⟨tg, iter, ifs, asy⟩] scope _ => if asy ≠ 0 then none else
      (trTg ⟨g.N, relS scope g.sc, (scope.names.filter fun y => match y.2 with | .cell => true | _ => false).map (·.1)⟩ tg).bind fun tg' =>
        if blkC g.N g.sc scope ((tgNames tg).zip tg'.slots) && tg'.slots.all (fun i => ((tgNames tg).zip tg'.slots).any fun p => p.2 == i) then
        (trI t n g iter).bind fun it => (trE t n ⟨g.N, relS scope g.sc, (scope.names.filter fun y => match y.2 with | .cell => true | _ => false).map (·.1)⟩ elt).bind fun e' => match ifs with
          | [] => some (.comp it tg' (((tgNames tg).zip tg'.slots).map (·.2)) none e')
          | [c] => (trT t n ⟨g.N, relS scope g.sc, (scope.names.filter fun y => match y.2 with | .cell => true | _ => false).map (·.1)⟩ c).map fun c' => .comp it tg' (((tgNames tg).zip tg'.slots).map (·.2)) (some c') e'
          | _ => none
        else none
    | _ => none
def trEs (t : Tb) : Nat → Gm → List Expr → Option Es
  | 0, _, _ => none
  | n + 1, g, [] => some .nil
  | n + 1, g, e :: es => (trE t n g e).bind fun e' => (trEs t n g es).map fun es' => .cons e' es'
def trB (t : Tb) : Nat → Gm → BoolOp → List Expr → Option E
  | 0, _, _, _ => none
  | n + 1, g, _, [] => none
  | n + 1, g, o, [e] => trE t n g e
  | n + 1, g, o, e :: f :: es => (trE t n g e).bind fun e' => (trB t n g o (f :: es)).map fun es' => match o with
    | .And => .and e' es'
    | .Or => .or e' es'
def trT (t : Tb) : Nat → Gm → Expr → Option T
  | 0, _, _ => none
  | n + 1, g, e => match e with
    | .UnaryOp .Not a _ => (trT t n g a).map .not
    | .BoolOp o es _ => trTB t n g o es
    | .IfExp _ _ _ _ => none
    | .Compare a ops bs p => (trE t n g (.Compare a ops bs p)).map .tst
    | e => (trE t n g e).map .val
def trTB (t : Tb) : Nat → Gm → BoolOp → List Expr → Option T
  | 0, _, _, _ => none
  | n + 1, g, _, [] => none
  | n + 1, g, o, [e] => trT t n g e
  | n + 1, g, o, e :: f :: es => (trT t n g e).bind fun e' => (trTB t n g o (f :: es)).map fun es' => match o with
    | .And => .and e' es'
    | .Or => .or e' es'
def trI (t : Tb) : Nat → Gm → Expr → Option It
  | 0, _, _ => none
  | n + 1, g, e => match e with
    | .Call (.Name f _) [a] [] _ => if isGl g.sc f && decide (f = "range") && decide (f ∈ t.blt) then (trE t n g a).map .rng1 else (trE t n g e).map .seq
    | .Call (.Name f _) [a, b] [] _ => if isGl g.sc f && decide (f = "range") && decide (f ∈ t.blt) then (trE t n g a).bind fun a' => (trE t n g b).map fun b' => .rng2 a' b' else (trE t n g e).map .seq
    | e => (trE t n g e).map .seq
end

/-- statements; q: within an except suite -/
def isComp : Expr → Bool
  | .ListComp _ _ _ _ => true
  | .SetComp _ _ _ _ => true
  | .DictComp _ _ _ _ _ => true
  | _ => false
def rsOf : Option Expr → Option Expr → Option Str
  | some (.Call (.Name c _) [.Constant (.str _) _ _] [] _), none => some c
  | _, _ => none
def tyOf2 : List ExceptHandler → Option (Str × Str × Stmt × List Stmt)
  | [.ExceptHandler (some (.Name c _)) (some x) (s :: ss) _] => some (c, x, s, ss)
  | _ => none
def asName : List Expr → Option (Str × Pos)
  | [.Name x p] => some (x, p)
  | _ => none
def asPair : List Expr → Expr → Option (Str × Pos × Str × Pos × Expr × Expr)
  | [.Tuple [.Name x px, .Name y py] _ _], .Tuple [a, b] _ _ => some (x, px, y, py, a, b)
  | _, _ => none
def asTup : List Expr → Option (List Expr)
  | [.Tuple es _ _] => some es
  | _ => none
def asSub : List Expr → Option (Expr × Expr)
  | [.Subscript a i _] => some (a, i)
  | _ => none
def isTup : Expr → Bool
  | .Tuple _ _ _ => true
  | _ => false
def lcOf : Expr → Option (Scope × Pos)
  | .ListComp _ _ scope q => some (scope, q)
  | _ => none
def isLoc (sc : Scope) (x : Str) : Bool := match sc.names.lookup x with
  | some .local => true
  | _ => false
mutual
def trS (t : Tb) : Nat → Gm → Stmt → Option S
  | 0, _, _ => none
  | n + 1, g, s => match s with
    | .Assign ts e _ => match asName ts with
      | some (x, p) => (match lcOf e with
        | some (scope, q) => if p.line == q.line && isLoc g.sc x && !(scope.names.any fun (n, k) => n == x && (k == .local || k == .cell)) then (tgt g x).bind fun i => (trE t n g e).map fun e' => .set i e' else none
        | none => if isComp e then none else (tgt g x).bind fun i => (trE t n g e).map fun e' => .set i e')
      | none => match asPair ts e with
        | some (x, px, y, py, a, b) => if px.line == py.line && isLoc g.sc x && isLoc g.sc y && !([a, b].all (foldedForSure 8)) && !([a, b].all (constantsAlone 8)) then
            (tgt g x).bind fun i => (tgt g y).bind fun j => (trE t n g a).bind fun a' => (trE t n g b).bind fun b' => if i = j then none else some (.par i j a' b')
          else none
        | none => match asTup ts with
          | some es => if isTup e then none else (tgts g es).bind fun is => (trE t n g e).map fun e' => .unp is e'
          | none => match asSub ts with
            | some (a, i) => (trE t n g e).bind fun e' => (trE t n g a).bind fun a' => (trE t n g i).map fun i' => .put a' i' e'
            | none => none
    | .Expr e _ => if isComp e then none else (trE t n g e).map .expr
    | .Return (some e) _ => (trE t n g e).map .ret
    | .Return none _ => some .ret0
    | .If c a b _ => (trT t n g c).bind fun c' => (trSs t n g a).bind fun a' => (trSs t n g b).map fun b' => .cond c' a' b'
    | .While c b [] _ => (trT t n g c).bind fun c' => (trSs t n g b).map fun b' => .loop c' b'
    | .For tg it b [] _ => (trI t n g it).bind fun it' => (trTg g tg).bind fun tg' => (trSs t n g b).map fun b' => .iter it' tg' b'
    | .Raise e c _ => (rsOf e c).bind fun c => if isGl g.sc c && decide (c ∈ t.rcl) then some (.raise c) else none
    | .Try b hs [] [] _ => (tyOf2 hs).bind fun (c, x, h1, hr) => if isGl g.sc c && decide (c ∈ t.cls) && isLoc g.sc x then
        (trSs t n g b).bind fun b' => (slot g.N x).bind fun i => (trH t n g (h1 :: hr)).map fun h' => .tryas b' c i h' else none
    | .Pass _ => some .pass
    | .Break _ => some .brk
    | .Continue _ => some .cont
    | _ => none
def trSs (t : Tb) : Nat → Gm → List Stmt → Option Ss
  | 0, _, _ => none
  | n + 1, g, [] => some .nil
  | n + 1, g, s :: ss => (trS t n g s).bind fun s' => (trSs t n g ss).map fun ss' => .cons s' ss'
/-- an except suite: names given names or constants -/
def trH (t : Tb) : Nat → Gm → List Stmt → Option Ss
  | 0, _, _ => none
  | n + 1, g, [] => some .nil
  | n + 1, g, .Assign [.Name x _] (.Name y _) _ :: ss => if vis g.sc y then (tgt g x).bind fun i => (slot g.N y).bind fun j => (trH t n g ss).map fun ss' => .cons (.set i (.var j)) ss' else none
  | n + 1, g, .Assign [.Name x _] (.Constant c _ _) _ :: ss => (tgt g x).bind fun i => (lits c).bind fun d => (trH t n g ss).map fun ss' => .cons (.set i (.con d)) ss'
  | n + 1, g, _ => none
end
/-- the statements of a def, without its docstring -/
def trF (t : Tb) (N : List Str) (st : Stmt) (np : Nat) : Option Fn := match st with
  | .FunctionDef _ _ b _ _ _ sc _ _ _ => (trSs t 200 ⟨N, sc, N⟩ b).map fun b' => ⟨np, N.length, b'⟩
  | _ => none
end FS

set_option Elab.async false
set_option linter.all false
set_option maxRecDepth 100000
/-! FS: part 6: expressions: what the evaluator answers, the model does. -/
namespace FS
open PySem PySem.Spec PyProof.Rows L2

/-! ### readings -/
/-- the wish about exceptions at the slots σ -/
abbrev At (W : WX) (σ : St) : Value → Option Addr → Hp → Prop := fun c d H => W c d σ H
def tE (K : PySem.W.Frag) (mg : Str → Option Value) (x : Cn) (W : WX) (e : E) : TE := fun σ H Q => ∃ ι m δ, HR K mg ι m H ∧ SR K ι H δ σ ∧ QD K mg ι H Q (At W σ) (ev x e δ m)
def tT (K : PySem.W.Frag) (mg : Str → Option Value) (x : Cn) (W : WX) (e : T) : TT := fun σ H Q => ∃ ι m δ, HR K mg ι m H ∧ SR K ι H δ σ ∧ QR K mg (fun _ _ (a b : Bool) => a = b) ι H Q (At W σ) (evT x e δ m)
def tA (K : PySem.W.Frag) (mg : Str → Option Value) (x : Cn) (W : WX) (es : Es) : TA := fun σ H Q => ∃ ι m δ, HR K mg ι m H ∧ SR K ι H δ σ ∧ QR K mg (fun ι H => VRs K ι H) ι H Q (At W σ) (evs x es δ m)
/-- a walk of items, and the iterator that walks them -/
def WR (K : PySem.W.Frag) (mg : Str → Option Value) (ι0 : List Addr) (H0 : Hp) (w : Walk) (J : L2.It) : Prop := ∀ (i : Nat) ι m H, Ext K ι0 H0 ι H → HR K mg ι m H → w.stay m →
  (i = w.ds.length → J.stop i H) ∧ ∀ d, w.ds[i]? = some d → J.go i H ∧ ∀ v H', J.yld i H v H' → ∃ ι', Ext K ι H ι' H' ∧ HR K mg ι' m H' ∧ VR K ι' H' d v
def tI (K : PySem.W.Frag) (mg : Str → Option Value) (x : Cn) (W : WX) (it : It) : TI := fun σ H R => ∃ ι m δ, HR K mg ι m H ∧ SR K ι H δ σ ∧ QR K mg (fun ι H => WR K mg ι H) ι H R (At W σ) (evI x it δ m)

section
variable {X : Cx} {e : Expr}
theorem PE.imp {t t' : TE} (h : PE X e t) (q : ∀ σ H Q, t' σ H Q → t σ H Q) : PE X e t' := ⟨fun pins s σ H Q I z => h.run pins s σ H Q I (q σ H Q z)⟩
theorem PT.imp {t t' : TT} (h : PT X e t) (q : ∀ σ H Q, t' σ H Q → t σ H Q) : PT X e t' := ⟨fun pins s σ H Q I z => h.run pins s σ H Q I (q σ H Q z)⟩
theorem PW.imp {t t' : TT} (h : PW X e t) (q : ∀ σ H Q, t' σ H Q → t σ H Q) : PW X e t' := ⟨fun wh pins s σ H Q I z => h.run wh pins s σ H Q I (q σ H Q z)⟩
theorem PA.imp {es : List Expr} {t t' : TA} (h : PA X es t) (q : ∀ σ H Q, t' σ H Q → t σ H Q) : PA X es t' := ⟨fun p pins s σ H Q I z => h.run p pins s σ H Q I (q σ H Q z)⟩
theorem PI.imp {tg : Expr} {t t' : TI} (h : PI X tg e t) (q : ∀ σ H Q, t' σ H Q → t σ H Q) : PI X tg e t' := ⟨fun pins s σ H Q I z => h.run pins s σ H Q I (q σ H Q z)⟩
end

/-! ### the context -/
/-- a def's promise: what the evaluator answers -/
def spF (K : PySem.W.Frag) (mg : Str → Option Value) (np : Nat) (call : List D → M → R D) : Sp := fun vs H Q E => vs.length = np ∧ ∃ ι m ds, HR K mg ι m H ∧ VRs K ι H ds vs ∧ QD K mg ι H Q E (call ds m)
structure CallOk (X : Cx) (x : Cn) (f : Str) (fa : Addr) (fd : FuncData) (ps : List Str) (k : Nat) : Prop where
  fn : FnOk X.prog X.w X.K X.mg X.base (L2.CX X.prog X.w) k fa fd ps (spF X.K X.mg ps.length (x.call f))
  np : ∀ ds m, ds.length ≠ ps.length → x.call f ds m = .stuck
  rm : Room k X.A
  mg : X.mg f = some (.ref fa)
  kp : PySem.W.keepIn X.K (.ref fa) = true
  bd : Binds X.K fd ps []
def clV (mg : Str → Option Value) : Cl → Option Value
  | .ty t => some (.type (tyN t))
  | .own c => mg c
structure SubOk (K : PySem.W.Frag) (mg : Str → Option Value) (c : Str) (k : Cl) (b : Bool) : Prop where
  is : ∃ C cv, mg c = some (.ref C) ∧ clV mg k = some cv ∧ ExcC K C ∧ PySem.W.kitOne K (.ref C) cv = some b
  ex : ∀ c', k = .own c' → ∃ C cv, mg c = some (.ref C) ∧ mg c' = some cv ∧ PySem.W.exmOne K (.ref C) cv = some b
structure ClsOk (X : Cx) (c : Str) : Prop where
  ex : ∃ (C : Addr) (B newId initId : String) (bmB : List Value), X.mg c = some (.ref C) ∧ ExcBaseFacts B newId initId bmB ∧ PySem.W.excIn X.K C bmB newId = true ∧ PySem.W.keepIn X.K (.ref C) = true ∧ Raises X (.ref C)
/-- three names that are none of ours -/
def okName (y : Str) : Bool := !(y == ("__debug__" : Str)) && !(y == ("__classdict__" : Str)) && !(y == ("__name__" : Str))
structure Gd (t : Tb) (x : Cn) (g : Gm) (X : Cx) : Prop where
  N : X.N = g.N
  nd : g.N.Nodup
  sc : X.env.scope = g.sc
  oc : ∀ y ∈ g.oc, X.fn y = true
  calm : X.calm = true
  un : X.A.units + 65 < cLine
  call : ∀ f ∈ t.fns, ∃ fa fd ps k, CallOk X x f fa fd ps k
  glob : ∀ y ∈ t.gls, ∀ d, x.glob y = some d → ∃ u v, X.mg y = some u ∧ RelV v u ∧ ∀ ι H, VR X.K ι H d v
  blt : ∀ y ∈ t.blt, X.mg y = none
  sub : ∀ c k b, x.sub c k = some b → SubOk X.K X.mg c k b
  cls : ∀ c ∈ t.cls, ∃ C, X.mg c = some (.ref C)
  rcl : ∀ c ∈ t.rcl, ClsOk X c
  nmN : ∀ y ∈ g.N, okName y = true
  nmF : ∀ y ∈ t.fns ++ t.cls ++ t.gls ++ t.blt ++ t.rcl, okName y = true

section
variable {t : Tb} {x : Cn} {g : Gm} {X : Cx}
theorem Gd.gl (G : Gd t x g X) {y : Str} (h : isGl g.sc y = true) : Gl X y := by
  unfold isGl at h
  show X.env.scope.names.lookup y = some .globalImplicit
  rw [G.sc]
  split at h
  · assumption
  · cases h
theorem Gd.vis (G : Gd t x g X) {y : Str} (h : vis g.sc y = true) : Vis X.env.scope y := by
  unfold FS.vis at h
  unfold Vis
  rw [G.sc]
  split at h
  · exact .inl (by assumption)
  · exact .inr (.inl (by assumption))
  · exact .inr (.inr (by assumption))
  · cases h
theorem slot_at {N : List Str} {y : Str} {i : Nat} (h : slot N y = some i) : N[i]? = some y := by
  unfold slot at h
  rw [List.findIdx?_eq_some_iff_getElem] at h
  obtain ⟨h1, h2, _⟩ := h
  rw [List.getElem?_eq_getElem h1, of_decide_eq_true h2]
theorem Gd.slot (G : Gd t x g X) {y : Str} {i : Nat} (h : slot g.N y = some i) : X.N[i]? = some y := by rw [G.N]; exact slot_at h
theorem Gd.ndX (G : Gd t x g X) : X.N.Nodup := by rw [G.N]; exact G.nd
theorem Gd.tgt (G : Gd t x g X) {y : Str} {i : Nat} (h : tgt g y = some i) : X.N[i]? = some y ∧ L2.Loc X.env.scope y ∧ (X.fn y = true ∨ X.env.scope.names.lookup y = some .local) := by
  unfold FS.tgt at h
  unfold L2.Loc
  rw [G.sc]
  split at h
  · exact ⟨G.slot h, .inl (by assumption), .inr (by assumption)⟩
  · split at h
    · exact ⟨G.slot h, .inr (by assumption), .inl (G.oc _ (by assumption))⟩
    · cases h
  · cases h

theorem ok_dbg {y : Str} (h : okName y = true) : (y == ("__debug__" : Str)) = false := by
  unfold okName at h
  simp only [Bool.and_eq_true, Bool.not_eq_true'] at h
  exact h.1.1
theorem ok_cd {y : Str} (h : okName y = true) : (y == ("__classdict__" : Str)) = false := by
  unfold okName at h
  simp only [Bool.and_eq_true, Bool.not_eq_true'] at h
  exact h.1.2
theorem ok_nm {y : Str} (h : okName y = true) : y ≠ "__name__" := by
  unfold okName at h
  simp only [Bool.and_eq_true, Bool.not_eq_true'] at h
  exact fun e => by rw [e] at h; simp at h
theorem Gd.okN (G : Gd t x g X) {y : Str} {i : Nat} (h : FS.slot g.N y = some i) : okName y = true := G.nmN y (List.mem_of_getElem? (slot_at h))
theorem Gd.okF (G : Gd t x g X) {y : Str} (h : y ∈ t.fns) : okName y = true := G.nmF y (by simp [h])
theorem Gd.okC (G : Gd t x g X) {y : Str} (h : y ∈ t.cls) : okName y = true := G.nmF y (by simp [h])
theorem Gd.okG (G : Gd t x g X) {y : Str} (h : y ∈ t.gls) : okName y = true := G.nmF y (by simp [h])
theorem Gd.okR (G : Gd t x g X) {y : Str} (h : y ∈ t.rcl) : okName y = true := G.nmF y (by simp [h])
theorem Gd.okB (G : Gd t x g X) {y : Str} (h : y ∈ t.blt) : okName y = true := G.nmF y (by simp [h])

/-! ### forms -/
theorem star_of {n : Nat} {e : Expr} {ir : E} {es : List Expr} {env : Env} (h : trE t n g e = some ir) : starEach (e :: es) env = (false, eval e env) :: starEach es env := by
  cases n with
  | zero => simp [trE] at h
  | succ n => cases e <;> first | rfl | (simp [trE] at h)
theorem stars_of : ∀ {n : Nat} {es : List Expr} {ir : Es} {env : Env} {pos : Pos}, trEs t n g es = some ir → (backTo pos (starEach es env)).any (·.1) = false
  | 0, _, _, _, _, h => by simp [trEs] at h
  | n + 1, [], _, _, _, h => rfl
  | n + 1, e :: es, ir, env, pos, h => by
    simp only [trEs] at h
    cases h1 : trE t n g e with
    | none => rw [h1] at h; cases h
    | some e' =>
      rw [h1] at h
      cases h2 : trEs t n g es with
      | none => simp only [Option.bind_some, h2] at h; cases h
      | some es' =>
        rw [star_of h1]
        have ih := stars_of (env := env) (pos := pos) h2
        show (false || (backTo pos (starEach es env)).any (·.1)) = false
        rw [ih]; rfl
theorem ix_of {n : Nat} {e : Expr} {ir : E} (h : trE t n g e = some ir) : PlainIx e := by
  cases n with
  | zero => simp [trE] at h
  | succ n => cases e <;> first | exact fun _ _ => rfl | (simp [trE] at h)
theorem fold_of {n : Nat} {e : Expr} {ir : It} {env : Env} (h : trI t n g e = some ir) : ∀ v, foldedSetIterable e env v = pure v := by
  cases n with
  | zero => simp [trI] at h
  | succ n =>
    cases e <;> first | exact fun _ => rfl | skip
    simp only [trI] at h
    cases n with
    | zero => simp [trE] at h
    | succ n => simp [trE] at h
theorem mark_of {n : Nat} {e : Expr} {ir : E} {op : CmpOp} (h : trE t n g e = some ir) : behindInMarks op e = false := by
  cases n with
  | zero => simp [trE] at h
  | succ n => cases e <;> first | rfl | (simp [trE] at h)
end
end FS

set_option Elab.async false
set_option linter.all false
set_option maxRecDepth 100000
/-! FS: part 7: the expressions' theorem. -/
namespace FS
open PySem PySem.Spec PyProof.Rows L2

section
variable {t : Tb} {x : Cn} {g : Gm} {X : Cx} {W : WX} {K : PySem.W.Frag} {mg : Str → Option Value} {ι : List Addr} {H : Hp} {m : M} {σ : St} {δ : Sl}

theorem two {a b : E} {f : D → D → M → R D} {Q : VK} (nf : ∀ d e m, (f d e m).noexc) (hr : HR K mg ι m H) (hs : SR K ι H δ σ)
    (q : QD K mg ι H Q (At W σ) ((ev x a δ m).bind fun d m1 => (ev x b δ m1).bind fun e m2 => f d e m2)) : tOp (rB K mg f) (tE K mg x W a) (tE K mg x W b) σ H Q :=
  ⟨ι, m, δ, hr, hs, (QR.bind q).imp fun v H1 ⟨ι1, m1, d, e1, x1, hr1, r1, q1⟩ => ⟨ι1, m1, δ, hr1, hs.mono x1, (QR.bind q1).imp fun u H2 ⟨ι2, m2, e, _, x2, hr2, r2, q2⟩ =>
    ⟨ι2, m2, d, e, hr2, VR.mono x2 _ _ r1, r2, q2.wish (nf _ _ _)⟩⟩⟩
/-- a builtin of the world -/
theorem Gd.bmg (G : Gd t x g X) {y : Str} (h : y ∈ t.blt) : X.mg y = none := G.blt y h

/-- what the induction hands on, up to n -/
structure Snd (t : Tb) (n : Nat) : Prop where
  e : ∀ {g : Gm} {e : Expr} {ir : E} {X : Cx} {x : Cn} {W : WX}, trE t n g e = some ir → Gd t x g X → Takes X W → PE X e (tE X.K X.mg x W ir)
  es : ∀ {g : Gm} {es : List Expr} {ir : Es} {X : Cx} {x : Cn} {W : WX}, trEs t n g es = some ir → Gd t x g X → Takes X W → PA X es (tA X.K X.mg x W ir)
  b : ∀ {g : Gm} {o : BoolOp} {es : List Expr} {ir : E} {X : Cx} {x : Cn} {W : WX} {pos : Pos}, trB t n g o es = some ir → Gd t x g X → Takes X W → PE X (.BoolOp o es pos) (tE X.K X.mg x W ir)
  tt : ∀ {g : Gm} {e : Expr} {ir : T} {X : Cx} {x : Cn} {W : WX}, trT t n g e = some ir → Gd t x g X → Takes X W → PT X e (tT X.K X.mg x W ir)
  tb : ∀ {g : Gm} {o : BoolOp} {es : List Expr} {ir : T} {X : Cx} {x : Cn} {W : WX} {pos : Pos}, trTB t n g o es = some ir → Gd t x g X → Takes X W → PW X (.BoolOp o es pos) (tT X.K X.mg x W ir)
  i : ∀ {g : Gm} {e : Expr} {ir : It} {X : Cx} {x : Cn} {W : WX} (tg : Expr), trI t n g e = some ir → Gd t x g X → Takes X W → PI X tg e (tI X.K X.mg x W ir)

theorem VRs.emp : ∀ {ds : List D} {vs : List V}, VRs K ι H ds vs → (!ds.isEmpty) = !vs.isEmpty
  | [], _, h => by simp only [VRs] at h; subst h; rfl
  | d :: ds, vs, h => by simp only [VRs] at h; obtain ⟨v, r, rfl, _⟩ := h; rfl
theorem val_E {e : E} {Q : Bool → Hp → Prop} (h : tT K mg x W (.val e) σ H Q) : tE K mg x W e σ H fun v H1 => ∃ k, TruV K v H1 k ∧ Q k H1 := by
  obtain ⟨ι, m, δ, hr, hs, q⟩ := h
  simp only [evT] at q
  refine ⟨ι, m, δ, hr, hs, (QR.bind q).imp fun v H1 ⟨ι1, m1, d, _, x1, hr1, r1, q1⟩ => ?_⟩
  split at q1
  · rename_i b hb
    refine ⟨b, ?_, q1.get hr1 rfl⟩
    unfold truth at hb
    split at hb
    · simp only [VR] at r1; subst r1; cases hb; rfl
    · simp only [VR] at r1; subst r1; cases hb; rfl
    · simp only [VR] at r1; subst r1; cases hb; rfl
    · simp only [VR] at r1; subst r1
      split at hb
      · cases hb
        exact ⟨small_line (by assumption), rfl⟩
      · cases hb
    · simp only [VR] at r1
      obtain ⟨a, vs, rfl, hA, hv⟩ := r1
      cases hb
      exact .inr (.inl ⟨vs, hA, hv.emp⟩)
    · simp only [VR] at r1
      obtain ⟨a, ha, rfl⟩ := r1
      obtain ⟨xs, e1, rfl⟩ := Option.map_eq_some_iff.mp hb
      obtain ⟨vs, hA, hv⟩ := itemsAt hr1 ha e1
      exact .inl ⟨vs, hA, hv.emp⟩
  · exact q1.elim
theorem tst_E {e : E} {Q : Bool → Hp → Prop} (h : tT K mg x W (.tst e) σ H Q) : tE K mg x W e σ H fun v H1 => ∃ k, v = .bl k ∧ Q k H1 := by
  obtain ⟨ι, m, δ, hr, hs, q⟩ := h
  simp only [evT] at q
  refine ⟨ι, m, δ, hr, hs, (QR.bind q).imp fun v H1 ⟨ι1, m1, d, _, x1, hr1, r1, q1⟩ => ?_⟩
  split at q1
  · simp only [VR] at r1
    exact ⟨_, r1, q1.get hr1 rfl⟩
  · exact q1.elim

/-- the call of a def without arguments -/
theorem pe_callS0 {CX : CXT} {k : Nat} {f : Addr} {fd : FuncData} {ps : List Str} {sp : Sp} {E : St → XK} {y : Str} {p pos : Pos} (F : FnOk X.prog X.w X.K X.mg X.base CX k f fd ps sp) (hr : Room k X.A) (hg : Gl X y) (hm : X.mg y = some (.ref f)) (hk : PySem.W.keepIn X.K (.ref f) = true)
    (hb : Binds X.K fd ps []) (hx : ∀ σ, PassesAt CX X σ (E σ)) (hdb : (y == ("__debug__" : Str)) = false) : PE X (.Call (.Name y p) [] [] pos) (tCallS sp E tNil) := by
  refine ⟨fun pins s σ H Q I h => ?_⟩
  refine wpAny_Call_Name_kw (ld_glob I hg hm ?_ hdb)
  exact PySem.W.callWith_K0 I.kIn hk (run_fnS (us := []) F hr hb (hx σ) I .nil h)

/-! ### isinstance -/
theorem ty_ok (t : Ty) : tySub .non t = (kitB "NoneType" (tyN t)).getD true := by cases t <;> decide +kernel
theorem kitB_ok (a b : Ty) : kitB (tyN a) (tyN b) = some (tySub a b) := by cases a <;> cases b <;> decide +kernel
/-- the value's class, as isinstance takes it -/
theorem kit_D {pins : List (Addr × Obj)} {s : Shared} (hsub : ∀ c k b, x.sub c k = some b → SubOk X.K X.mg c k b) (I : Inv X pins σ H s) {d : D} {v : V} {u : Value} {c : Cl} (hr : HR X.K X.mg ι m H) (hd : VR X.K ι H d v) (rv : RelV v u) (ht : tyOf m d = some c)
    (hex : ∀ y, c = .own y → ∃ C, X.mg y = some (.ref C) ∧ ExcC X.K C) : ∃ tv P, clV X.mg c = some tv ∧ PySem.W.KitX X.K u tv P ∧ P s.heap ∧ u ≠ .builtin "__main__.__loader__#opaque" := by
  have base : ∀ {t : Value}, TyX X.K H v t → ∃ P : Heap → Prop, PySem.W.KitX X.K u t P ∧ P s.heap ∧ u ≠ .builtin "__main__.__loader__#opaque" := fun ty => kit_of I rv ty
  unfold tyOf at ht
  split at ht
  · cases ht; simp only [VR] at hd; subst hd
    obtain ⟨P, h⟩ := base (.base .non); exact ⟨_, P, rfl, h⟩
  · cases ht; simp only [VR] at hd; subst hd
    obtain ⟨P, h⟩ := base (.base (.bl _)); exact ⟨_, P, rfl, h⟩
  · cases ht; simp only [VR] at hd; subst hd
    obtain ⟨P, h⟩ := base (.base (.int _)); exact ⟨_, P, rfl, h⟩
  · cases ht; simp only [VR] at hd; subst hd
    obtain ⟨P, h⟩ := base (.base (.str _)); exact ⟨_, P, rfl, h⟩
  · cases ht; simp only [VR] at hd
    obtain ⟨a, vs, rfl, hA, _⟩ := hd
    rcases hA with (hA | ⟨o, hA⟩) | ⟨o, its, n, hk, hc, _⟩
    · obtain ⟨P, h⟩ := base (.base (.tup hA)); exact ⟨_, P, rfl, h⟩
    · obtain ⟨P, h⟩ := base (.fTuple hA); exact ⟨_, P, rfl, h⟩
    · obtain ⟨P, h⟩ := base (.kTuple hk hc); exact ⟨_, P, rfl, h⟩
  · simp only [VR] at hd
    obtain ⟨a, ha, rfl⟩ := hd
    split at ht
    · cases ht
      rename_i e1
      obtain ⟨vs, q1, _⟩ := hr.ob _ a _ ha e1
      obtain ⟨P, h⟩ := base (.base (.lst q1)); exact ⟨_, P, rfl, h⟩
    · cases ht
      rename_i e1
      obtain ⟨vs, q1, _⟩ := hr.ob _ a _ ha e1
      rcases q1 with ⟨o, q1⟩ | ⟨o, its, n, hk, hc, _⟩
      · obtain ⟨P, h⟩ := base (.base (.frz q1)); exact ⟨_, P, rfl, h⟩
      · obtain ⟨P, h⟩ := base (.kList hk hc); exact ⟨_, P, rfl, h⟩
    · cases ht
      rename_i c e1
      obtain ⟨cls, hc, q1⟩ := hr.ob _ a _ ha e1
      obtain ⟨C, hC, EC⟩ := hex c rfl
      rw [hC] at hc
      cases hc
      cases (show u = Value.ref a from rv)
      obtain ⟨⟨oe, vs, he, hz, hv⟩, _⟩ := I.hok a _ q1
      refine ⟨.ref C, _, hC, PySem.W.handS_kitx_exc (ox := oe) EC.hg EC.hk EC.hs EC.hd EC.ha EC.hn EC.ht EC.hm, ?_, fun z => nomatch z⟩
      obtain ⟨oc, od, oda, osl⟩ := oe
      obtain ⟨h1, h2⟩ := hz
      dsimp only at h1 h2 hv
      subst h1 h2 hv
      exact ⟨he, rfl, rfl, trivial⟩
    · cases ht
theorem isi_kit (hsub : ∀ c k b, x.sub c k = some b → SubOk X.K X.mg c k b) {c k : Cl} {b : Bool} (h : isiF x.sub c k = some b) :
    (∀ y, c = .own y → ∃ C, X.mg y = some (.ref C) ∧ ExcC X.K C) ∧ ∀ tv, clV X.mg c = some tv → ∃ cv, clV X.mg k = some cv ∧ PySem.W.kitOne X.K tv cv = some b := by
  unfold isiF at h
  split at h
  · cases h
    refine ⟨fun y e => (nomatch e), fun tv e => ?_⟩
    cases e
    exact ⟨_, rfl, kit_ty (kitB_ok _ _)⟩
  · obtain ⟨C, cv, h1, h2, h3, h4⟩ := (hsub _ _ _ h).is
    refine ⟨fun y e => ?_, fun tv e => ?_⟩
    · cases e; exact ⟨C, h1, h3⟩
    · have e' : X.mg _ = some tv := e
      rw [h1] at e'; cases e'
      exact ⟨cv, h2, h4⟩
  · cases h
theorem isis_kit (hsub : ∀ c k b, x.sub c k = some b → SubOk X.K X.mg c k b) {c : Cl} : ∀ {ks : List Cl} {b : Bool} {tv : Value}, clV X.mg c = some tv → isisF x.sub c ks = some b → ∀ {vs : List Value}, Paired (fun k v => clV X.mg k = some v) ks vs → PySem.W.kitAny X.K tv vs = some b
  | [], b, tv, ht, h, _, .nil => by cases h; rfl
  | k :: ks, b, tv, ht, h, _, .cons p ps => by
    unfold isisF at h
    split at h
    · rename_i hk
      obtain ⟨cv, h1, h2⟩ := (isi_kit hsub hk).2 tv ht
      rw [p] at h1; cases h1
      exact kitAny_cons h2 (fun z => nomatch z) fun _ => by cases h; rfl
    · rename_i hk
      obtain ⟨cv, h1, h2⟩ := (isi_kit hsub hk).2 tv ht
      rw [p] at h1; cases h1
      exact kitAny_cons h2 (fun _ => isis_kit hsub ht h ps) fun z => nomatch z
    · cases h
theorem isis_own (hsub : ∀ c k b, x.sub c k = some b → SubOk X.K X.mg c k b) {c : Cl} {k : Cl} {ks : List Cl} {b : Bool} (h : isisF x.sub c (k :: ks) = some b) : ∀ y, c = .own y → ∃ C, X.mg y = some (.ref C) ∧ ExcC X.K C := by
  unfold isisF at h
  split at h
  · rename_i hk; exact (isi_kit hsub hk).1
  · rename_i hk; exact (isi_kit hsub hk).1
  · cases h
/-- a class's name as an expression -/
theorem cl_pe (G : Gd t x g X) {y : Str} {c : Cl} {p : Pos} (h : clOf t g y = some c) : ∃ cv v, clV X.mg c = some cv ∧ ClsV v cv ∧ RelV v cv ∧ PE X (.Name y p) (tC v) := by
  unfold clOf at h
  split at h
  · rename_i hg
    split at h
    · rename_i hc
      cases h
      obtain ⟨C, h1⟩ := G.cls y hc
      exact ⟨.ref C, .ref C, h1, .own C, rfl, pe_glob (G.gl hg) h1 rfl (ok_dbg (G.okC hc))⟩
    · split at h
      · rename_i hb
        obtain ⟨ty, h1, rfl⟩ := Option.map_eq_some_iff.mp h
        have h2 : ((tyN ty : String) : Str) = y := by
          have := List.find?_some h1
          exact of_decide_eq_true this
        have h3 : bootBuiltins y = some (.type (tyN ty)) := by
          have hm := List.mem_of_find?_eq_some h1
          rw [← h2]
          simp only [List.mem_cons, List.not_mem_nil, or_false] at hm
          rcases hm with rfl | rfl | rfl | rfl | rfl | rfl | rfl <;> decide +kernel
        exact ⟨_, .ty (tyN ty), rfl, .ty _, rfl, pe_bltn (G.gl hg) (G.bmg hb) h3 rfl (ok_nm (G.okB hb)) (ok_dbg (G.okB hb))⟩
      · cases h
  · cases h
theorem cls_pa (G : Gd t x g X) : ∀ {es : List Expr} {cs : List Cl}, clsOf t g es = some cs → ∃ cvs vs, Paired (fun k v => clV X.mg k = some v) cs cvs ∧ Paired ClsV vs cvs ∧ PA X es (fun _ H Q => Q vs H)
  | [], cs, h => by
    cases h
    exact ⟨[], [], .nil, .nil, pa_nil⟩
  | .Name y p :: es, cs, h => by
    simp only [clsOf] at h
    cases h1 : clOf t g y with
    | none => rw [h1] at h; cases h
    | some c =>
      rw [h1] at h
      obtain ⟨cs', h2, rfl⟩ := Option.map_eq_some_iff.mp h
      obtain ⟨cv, v, q1, q2, q3, q4⟩ := cl_pe G (p := p) h1
      obtain ⟨cvs, vs, r1, r2, r3⟩ := cls_pa G h2
      exact ⟨cv :: cvs, v :: vs, .cons q1 r1, .cons q2 r2, pa_cons q4 r3⟩
  | .BoolOp .. :: _, _, h | .NamedExpr .. :: _, _, h | .BinOp .. :: _, _, h | .UnaryOp .. :: _, _, h | .Lambda .. :: _, _, h | .IfExp .. :: _, _, h | .Dict .. :: _, _, h | .Set .. :: _, _, h | .ListComp .. :: _, _, h
  | .SetComp .. :: _, _, h | .DictComp .. :: _, _, h | .GeneratorExp .. :: _, _, h | .Await .. :: _, _, h | .Yield .. :: _, _, h | .YieldFrom .. :: _, _, h | .Compare .. :: _, _, h | .Call .. :: _, _, h
  | .FormattedValue .. :: _, _, h | .JoinedStr .. :: _, _, h | .Constant .. :: _, _, h | .Attribute .. :: _, _, h | .Subscript .. :: _, _, h | .Starred .. :: _, _, h | .List .. :: _, _, h | .Tuple .. :: _, _, h | .Slice .. :: _, _, h => by simp [clsOf] at h
theorem boot_isi : bootBuiltins ("isinstance" : Str) = some (.builtin "isinstance") := by decide +kernel
end
end FS

set_option Elab.async false
set_option linter.all false
set_option maxRecDepth 100000
/-! FS: part 8: the expressions' theorem, by induction. -/
namespace FS
open PySem PySem.Spec PyProof.Rows L2

section
variable {t : Tb} {n : Nat} {x : Cn} {g : Gm} {X : Cx} {W : WX}

theorem bnd2 {α β : Type} {o : Option α} {f : α → Option β} {b : β} (h : o.bind f = some b) : ∃ a, o = some a ∧ f a = some b := Option.bind_eq_some_iff.mp h
theorem mp2 {α β : Type} {o : Option α} {f : α → β} {b : β} (h : o.map f = some b) : ∃ a, o = some a ∧ f a = b := Option.map_eq_some_iff.mp h

theorem snd_name {y : Str} {p : Pos} {ir : E} (h : trE t (n + 1) g (.Name y p) = some ir) (G : Gd t x g X) (tk : Takes X W) : PE X (.Name y p) (tE X.K X.mg x W ir) := by
  simp only [trE] at h
  split at h
  · rename_i hv
    obtain ⟨i, hi, rfl⟩ := mp2 h
    refine PE.imp (pe_var (i := i) (G.slot hi) (G.vis hv) (ok_dbg (G.okN hi)) (ok_cd (G.okN hi))) ?_
    rintro σ H Q ⟨ι, m, δ, hr, hs, q⟩
    simp only [ev] at q
    split at q
    · rename_i d e1
      obtain ⟨v, h1, h2⟩ := hs.at_ i d e1
      exact ⟨v, h1, q.get hr h2⟩
    · exact q.elim
  · split at h
    · rename_i hg
      cases h
      simp only [Bool.and_eq_true, decide_eq_true_eq] at hg
      cases e1 : x.glob y with
      | none =>
        refine ⟨fun pins s σ H Q I h => ?_⟩
        obtain ⟨ι, m, δ, hr, hs, q⟩ := h
        simp only [ev, e1] at q
        exact q.elim
      | some d =>
        obtain ⟨u, v, h1, h2, h3⟩ := G.glob y hg.2 d e1
        refine PE.imp (pe_glob (v := v) (G.gl hg.1) h1 h2 (ok_dbg (G.okG hg.2))) ?_
        rintro σ H Q ⟨ι, m, δ, hr, hs, q⟩
        simp only [ev, e1] at q
        exact q.get hr (h3 ι H)
    · cases h
theorem snd_const {c : Const} {k : Nat} {p : Pos} {ir : E} (h : trE t (n + 1) g (.Constant c k p) = some ir) (G : Gd t x g X) (tk : Takes X W) : PE X (.Constant c k p) (tE X.K X.mg x W ir) := by
  simp only [trE] at h
  obtain ⟨d, hd, rfl⟩ := mp2 h
  have go : ∀ {v : V}, (∀ ι H, VR X.K ι H d v) → ∀ σ H Q, tE X.K X.mg x W (.con d) σ H Q → tC v σ H Q := fun {v} hv σ H Q ⟨ι, m, δ, hr, hs, q⟩ => by
    simp only [ev] at q
    exact q.get hr (hv ι H)
  cases c with
  | none => cases hd; exact PE.imp pe_non (go fun _ _ => by simp only [VR])
  | bool b => cases hd; exact PE.imp pe_bl (go fun _ _ => by simp only [VR])
  | int b => cases hd; exact PE.imp pe_int (go fun _ _ => by simp only [VR])
  | str b => cases hd; exact PE.imp pe_str (go fun _ _ => by simp only [VR])
  | _ => cases hd
theorem snd_bin (ih : Snd t n) {a b : Expr} {o : Operator} {p : Pos} {ir : E} (h : trE t (n + 1) g (.BinOp a o b p) = some ir) (G : Gd t x g X) (tk : Takes X W) : PE X (.BinOp a o b p) (tE X.K X.mg x W ir) := by
  simp only [trE] at h
  obtain ⟨o', ho, h⟩ := bnd2 h
  obtain ⟨a', ha, h⟩ := bnd2 h
  obtain ⟨b', hb, rfl⟩ := mp2 h
  have e := bopA_of ho
  subst e
  refine PE.imp (pe_op (op_bin o') (ih.e ha G tk) (ih.e hb G tk)) ?_
  rintro σ H Q ⟨ι, m, δ, hr, hs, q⟩
  simp only [ev] at q
  exact two (binF_noexc o') hr hs q
theorem snd_un (ih : Snd t n) {a : Expr} {o : UnaryOp} {p : Pos} {ir : E} (h : trE t (n + 1) g (.UnaryOp o a p) = some ir) (G : Gd t x g X) (tk : Takes X W) : PE X (.UnaryOp o a p) (tE X.K X.mg x W ir) := by
  cases o with
  | USub =>
    simp only [trE] at h
    obtain ⟨a', ha, rfl⟩ := mp2 h
    refine PE.imp (pe_un un_negF (ih.e ha G tk)) ?_
    rintro σ H Q ⟨ι, m, δ, hr, hs, q⟩
    simp only [ev] at q
    exact ⟨ι, m, δ, hr, hs, (QR.bind q).imp fun v H1 ⟨ι1, m1, d, _, x1, hr1, r1, q1⟩ => ⟨ι1, m1, d, hr1, r1, q1.wish (negF_noexc _ _)⟩⟩
  | Not =>
    simp only [trE] at h
    obtain ⟨a', ha, rfl⟩ := mp2 h
    refine PE.imp (pe_not (ih.e ha G tk)) ?_
    rintro σ H Q ⟨ι, m, δ, hr, hs, q⟩
    simp only [ev] at q
    refine ⟨ι, m, δ, hr, hs, (QR.bind q).imp fun v H1 ⟨ι1, m1, d, _, x1, hr1, r1, q1⟩ => ?_⟩
    split at q1
    · simp only [VR] at r1
      exact ⟨_, r1, q1.get hr1 (by simp only [VR])⟩
    · exact q1.elim
  | _ => simp [trE] at h
theorem cop_ok (G : Gd t x g X) (o : CmpOp) : OpR X (compareOp o) (rB X.K X.mg (cmpF (copOf o))) := by
  have := op_cmp (X := X) G.un (copOf o)
  rw [copA_of] at this
  exact this
theorem chain_rd {a' b' c' : E} {o o2 : Cop} {K : PySem.W.Frag} {mg : Str → Option Value} {σ : St} {H : Hp} {Q : VK} (q : tE K mg x W (.chain o o2 a' b' c') σ H Q) : tChain (rB K mg (cmpF o)) (rB K mg (cmpF o2)) (tE K mg x W a') (tE K mg x W b') (tE K mg x W c') σ H Q := by
  obtain ⟨ι, m, δ, hr, hs, q⟩ := q
  simp only [ev] at q
  refine ⟨ι, m, δ, hr, hs, (QR.bind q).imp fun v H1 ⟨ι1, m1, d, _, x1, hr1, r1, q1⟩ => ⟨ι1, m1, δ, hr1, hs.mono x1, (QR.bind q1).imp fun u H2 ⟨ι2, m2, e, _, x2, hr2, r2, q2⟩ => ?_⟩⟩
  refine ⟨ι2, m2, d, e, hr2, VR.mono x2 _ _ r1, r2, ?_⟩
  refine ((QR.bind (rel := fun ι H => VR K ι H) q2).imp fun z H3 ⟨ι3, m3, k, _, x3, hr3, r3, q3⟩ => ?_).wish (cmpF_noexc _ _ _ _)
  split at q3
  · simp only [VR] at r3
    refine ⟨true, r3, ?_⟩
    rw [if_pos rfl]
    exact ⟨ι3, m3, δ, hr3, ((hs.mono x1).mono x2).mono x3, (QR.bind q3).imp fun w' H4 ⟨ι4, m4, f, _, x4, hr4, r4, q4⟩ => ⟨ι4, m4, e, f, hr4, VR.mono x4 _ _ (VR.mono x3 _ _ r2), r4, q4.wish (cmpF_noexc _ _ _ _)⟩⟩
  · simp only [VR] at r3
    refine ⟨false, r3, ?_⟩
    rw [if_neg Bool.false_ne_true]
    exact q3.get hr3 (by simp only [VR])
  · exact q3.elim
/-- a comparison, and what it is as a test -/
theorem snd_cmp (ih : Snd t n) {a : Expr} {os : List CmpOp} {bs : List Expr} {p : Pos} {ir : E} (h : trE t (n + 1) g (.Compare a os bs p) = some ir) (G : Gd t x g X) (tk : Takes X W) :
    PE X (.Compare a os bs p) (tE X.K X.mg x W ir) ∧ PT X (.Compare a os bs p) fun σ H Q => tE X.K X.mg x W ir σ H fun v H1 => ∃ k, v = .bl k ∧ Q k H1 := by
  match os, bs, h with
  | [o], [b], h =>
    simp only [trE] at h
    obtain ⟨a', ha, h⟩ := bnd2 h
    obtain ⟨b', hb, rfl⟩ := mp2 h
    have rd : ∀ σ H Q, tE X.K X.mg x W (.cmp (copOf o) a' b') σ H Q → tOp (rB X.K X.mg (cmpF (copOf o))) (tE X.K X.mg x W a') (tE X.K X.mg x W b') σ H Q := by
      rintro σ H Q ⟨ι, m, δ, hr, hs, q⟩
      simp only [ev] at q
      exact two (cmpF_noexc _) hr hs q
    exact ⟨PE.imp (pe_cmpR (cop_ok G o) (ih.e ha G tk) (ih.e hb G tk) (mark_of hb)) rd, PT.imp (pt_cmpR (cop_ok G o) (ih.e ha G tk) (ih.e hb G tk) (mark_of hb)) fun σ H Q q => rd σ H _ q⟩
  | [o, o2], [b, c], h =>
    simp only [trE] at h
    obtain ⟨a', ha, h⟩ := bnd2 h
    obtain ⟨b', hb, h⟩ := bnd2 h
    obtain ⟨c', hc, rfl⟩ := mp2 h
    exact ⟨PE.imp (pe_chain (cop_ok G o) (cop_ok G o2) (ih.e ha G tk) (ih.e hb G tk) (ih.e hc G tk) (by show behindInMarks o2 c = false; exact mark_of hc)) fun σ H Q q => chain_rd q,
      PT.imp (pt_chain (cop_ok G o) (cop_ok G o2) (ih.e ha G tk) (ih.e hb G tk) (ih.e hc G tk) (by show behindInMarks o2 c = false; exact mark_of hc)) fun σ H Q q => chain_rd q⟩
  | [], _, h => simp [trE] at h
  | [_], [], h => simp [trE] at h
  | [_], _ :: _ :: _, h => simp [trE] at h
  | [_, _], [], h => simp [trE] at h
  | [_, _], [_], h => simp [trE] at h
  | [_, _], _ :: _ :: _ :: _, h => simp [trE] at h
  | _ :: _ :: _ :: _, _, h => simp [trE] at h
theorem snd_if (ih : Snd t n) {c a b : Expr} {p : Pos} {ir : E} (h : trE t (n + 1) g (.IfExp c a b p) = some ir) (G : Gd t x g X) (tk : Takes X W) : PE X (.IfExp c a b p) (tE X.K X.mg x W ir) := by
  simp only [trE] at h
  obtain ⟨c', hc, h⟩ := bnd2 h
  obtain ⟨a', ha, h⟩ := bnd2 h
  obtain ⟨b', hb, rfl⟩ := mp2 h
  refine PE.imp (pe_ifExp (ih.tt hc G tk) (ih.e ha G tk) (ih.e hb G tk)) ?_
  rintro σ H Q ⟨ι, m, δ, hr, hs, q⟩
  simp only [ev] at q
  refine ⟨ι, m, δ, hr, hs, (QR.bind q).imp fun v H1 ⟨ι1, m1, d, _, x1, hr1, r1, q1⟩ => ?_⟩
  subst r1
  cases d with
  | true => rw [if_pos rfl] at q1 ⊢; exact ⟨ι1, m1, δ, hr1, hs.mono x1, q1⟩
  | false => rw [if_neg Bool.false_ne_true] at q1 ⊢; exact ⟨ι1, m1, δ, hr1, hs.mono x1, q1⟩
theorem snd_tup (ih : Snd t n) {es : List Expr} {k : Nat} {p : Pos} {ir : E} (h : trE t (n + 1) g (.Tuple es k p) = some ir) (G : Gd t x g X) (tk : Takes X W) : PE X (.Tuple es k p) (tE X.K X.mg x W ir) := by
  simp only [trE] at h
  obtain ⟨es', he, rfl⟩ := mp2 h
  refine PE.imp (pe_tup (ih.es he G tk)) ?_
  rintro σ H Q ⟨ι, m, δ, hr, hs, q⟩
  simp only [ev] at q
  refine ⟨ι, m, δ, hr, hs, (QR.bind q).imp fun vs H1 ⟨ι1, m1, ds, _, x1, hr1, r1, q1⟩ => ?_⟩
  split at q1
  · rename_i hl
    exact ⟨by rw [← r1.length]; exact small_line hl, newTup hr1 r1 q1⟩
  · exact q1.elim
theorem snd_lst (ih : Snd t n) {es : List Expr} {p : Pos} {ir : E} (h : trE t (n + 1) g (.List es p) = some ir) (G : Gd t x g X) (tk : Takes X W) : PE X (.List es p) (tE X.K X.mg x W ir) := by
  simp only [trE] at h
  obtain ⟨es', he, rfl⟩ := mp2 h
  refine PE.imp (pe_lst (ih.es he G tk)) ?_
  rintro σ H Q ⟨ι, m, δ, hr, hs, q⟩
  simp only [ev] at q
  refine ⟨ι, m, δ, hr, hs, (QR.bind q).imp fun vs H1 ⟨ι1, m1, ds, _, x1, hr1, r1, q1⟩ => ?_⟩
  split at q1
  · rename_i hl
    exact ⟨by rw [← r1.length]; exact small_line hl, newLst hr1 r1 q1⟩
  · exact q1.elim
/-- a slice's part -/
theorem part_ok {a : E} {Q : Option Int → Hp → Prop} {α β : Type} {rel : List Addr → Hp → α → β → Prop} {Q2 : β → Hp → Prop} {f : Option Int → M → R α} {ι : List Addr} {m : M} {δ : Sl} {σ : St} {H : Hp} {K : PySem.W.Frag} {mg : Str → Option Value}
    (hr : HR K mg ι m H) (hs : SR K ι H δ σ) (q : QR K mg rel ι H Q2 (At W σ) (bnd (ev x a δ m) f)) (go : ∀ i ι1 m1 H1, Ext K ι H ι1 H1 → HR K mg ι1 m1 H1 → QR K mg rel ι1 H1 Q2 (At W σ) (f (some i) m1) → Q (some i) H1) : tPart (tE K mg x W a) σ H Q := by
  unfold bnd at q
  refine ⟨ι, m, δ, hr, hs, (QR.bind q).imp fun v H1 ⟨ι1, m1, d, _, x1, hr1, r1, q1⟩ => ?_⟩
  split at q1
  · simp only [VR] at r1
    exact ⟨_, r1, go _ ι1 m1 H1 x1 hr1 q1⟩
  · exact q1.elim
theorem snd_sub (ih : Snd t n) {a i : Expr} {p : Pos} {ir : E} (h : trE t (n + 1) g (.Subscript a i p) = some ir) (G : Gd t x g X) (tk : Takes X W) : PE X (.Subscript a i p) (tE X.K X.mg x W ir) := by
  have plain : ∀ {i : Expr}, (∃ a', trE t n g a = some a' ∧ ∃ i', trE t n g i = some i' ∧ E.idx a' i' = ir) → PE X (.Subscript a i p) (tE X.K X.mg x W ir) := fun {i} ⟨a', ha, i', hi, e⟩ => by
    subst e
    refine PE.imp (pe_ix ix_F (ih.e ha G tk) (ih.e hi G tk) (ix_of hi)) ?_
    rintro σ H Q ⟨ι, m, δ, hr, hs, q⟩
    simp only [ev] at q
    exact two ixF_noexc hr hs q
  by_cases hsl : ∃ lo hi p2, i = .Slice lo hi none p2
  · obtain ⟨lo, hi, p2, rfl⟩ := hsl
    simp only [trE] at h
    obtain ⟨a', ha, h⟩ := bnd2 h
    cases lo with
    | none =>
      cases hi with
      | none =>
        cases h
        refine PE.imp (pe_slice sl_F (ih.e ha G tk) po_none po_none) ?_
        rintro σ H Q ⟨ι, m, δ, hr, hs, q⟩
        simp only [ev] at q
        exact ⟨ι, m, δ, hr, hs, (QR.bind q).imp fun v H1 ⟨ι1, m1, d, _, x1, hr1, r1, q1⟩ => ⟨ι1, m1, d, hr1, r1, q1.wish (slF_noexc _ _ _ _)⟩⟩
      | some hi =>
        obtain ⟨h', hh, rfl⟩ := mp2 h
        refine PE.imp (pe_slice sl_F (ih.e ha G tk) po_none (po_some (ih.e hh G tk))) ?_
        rintro σ H Q ⟨ι, m, δ, hr, hs, q⟩
        simp only [ev] at q
        exact ⟨ι, m, δ, hr, hs, (QR.bind q).imp fun v H1 ⟨ι1, m1, d, _, x1, hr1, r1, q1⟩ => show tPart (tE X.K X.mg x W h') σ H1 (fun u H3 => rSl X.K X.mg v none u H3 Q) from part_ok hr1 (hs.mono x1) q1 fun j ι2 m2 H2 x2 hr2 q2 => ⟨ι2, m2, d, hr2, VR.mono x2 _ _ r1, q2.wish (slF_noexc _ _ _ _)⟩⟩
    | some lo =>
      cases hi with
      | none =>
        obtain ⟨l', hl, rfl⟩ := mp2 h
        refine PE.imp (pe_slice sl_F (ih.e ha G tk) (po_some (ih.e hl G tk)) po_none) ?_
        rintro σ H Q ⟨ι, m, δ, hr, hs, q⟩
        simp only [ev] at q
        exact ⟨ι, m, δ, hr, hs, (QR.bind q).imp fun v H1 ⟨ι1, m1, d, _, x1, hr1, r1, q1⟩ => part_ok hr1 (hs.mono x1) q1 fun j ι2 m2 H2 x2 hr2 q2 => ⟨ι2, m2, d, hr2, VR.mono x2 _ _ r1, q2.wish (slF_noexc _ _ _ _)⟩⟩
      | some hi =>
        obtain ⟨l', hl, h⟩ := bnd2 h
        obtain ⟨h', hh, rfl⟩ := mp2 h
        refine PE.imp (pe_slice sl_F (ih.e ha G tk) (po_some (ih.e hl G tk)) (po_some (ih.e hh G tk))) ?_
        rintro σ H Q ⟨ι, m, δ, hr, hs, q⟩
        simp only [ev] at q
        exact ⟨ι, m, δ, hr, hs, (QR.bind q).imp fun v H1 ⟨ι1, m1, d, _, x1, hr1, r1, q1⟩ => part_ok hr1 (hs.mono x1) q1 fun j ι2 m2 H2 x2 hr2 q2 => part_ok hr2 ((hs.mono x1).mono x2) q2 fun j2 ι3 m3 H3 x3 hr3 q3 =>
          ⟨ι3, m3, d, hr3, VR.mono x3 _ _ (VR.mono x2 _ _ r1), q3.wish (slF_noexc _ _ _ _)⟩⟩
  · have h2 : (trE t n g a).bind (fun a' => (trE t n g i).map fun i' => E.idx a' i') = some ir := by
      cases i with
      | Slice lo hi st p2 =>
        cases st with
        | none => exact absurd ⟨lo, hi, p2, rfl⟩ hsl
        | some st => simpa only [trE] using h
      | _ => simpa only [trE] using h
    obtain ⟨a', ha, h2⟩ := bnd2 h2
    obtain ⟨i', hi, e⟩ := mp2 h2
    exact plain ⟨a', ha, i', hi, e⟩
end
end FS

set_option Elab.async false
set_option linter.all false
set_option maxRecDepth 100000
/-! FS: part 9: calls, comprehensions, walks, tests. -/
namespace FS
open PySem PySem.Spec PyProof.Rows L2

section
variable {t : Tb} {n : Nat} {x : Cn} {g : Gm} {X : Cx} {W : WX}

/-! ### calls -/
theorem bf_of {y : Str} {k : Nat} {b : Bf} (h : bfOf y k = some b) : bfN b = y := by
  unfold bfOf at h
  obtain ⟨p, hp, rfl⟩ := mp2 h
  have := List.find?_some hp
  simp only [Bool.and_eq_true, decide_eq_true_eq] at this
  exact this.1
theorem es_cons {e : Expr} {es : List Expr} {ir : Es} (h : trEs t n g (e :: es) = some ir) : ∃ k e' , n = k + 1 ∧ trE t k g e = some e' ∧ ∃ es', trEs t k g es = some es' := by
  cases n with
  | zero => simp [trEs] at h
  | succ k =>
    simp only [trEs] at h
    obtain ⟨e', h1, h⟩ := bnd2 h
    obtain ⟨es', h2, _⟩ := mp2 h
    exact ⟨k, e', rfl, h1, es', h2⟩
theorem snd_call (ih : Snd t n) {f : Str} {fp p : Pos} {es : List Expr} {ir : E} (h : trE t (n + 1) g (.Call (.Name f fp) es [] p) = some ir) (G : Gd t x g X) (tk : Takes X W) : PE X (.Call (.Name f fp) es [] p) (tE X.K X.mg x W ir) := by
  simp only [trE] at h
  split at h
  · rename_i hg
    split at h
    · rename_i hf
      obtain ⟨es', he, rfl⟩ := mp2 h
      obtain ⟨fa, fd, ps, k, C⟩ := G.call f hf
      have fin : ∀ (σ : St) (H : Hp) (Q : VK), tE X.K X.mg x W (.call f es') σ H Q → tA X.K X.mg x W es' σ H (fun vs H1 => spF X.K X.mg ps.length (x.call f) vs H1 Q (WE W σ)) := by
        rintro σ H Q ⟨ι, m, δ, hr, hs, q⟩
        simp only [ev] at q
        refine ⟨ι, m, δ, hr, hs, (QR.bind q).imp fun vs H1 ⟨ι1, m1, ds, _, x1, hr1, r1, q1⟩ => ?_⟩
        refine ⟨?_, ι1, m1, ds, hr1, r1, q1⟩
        by_cases hl : ds.length = ps.length
        · rw [← r1.length, hl]
        · rw [C.np ds m1 hl] at q1
          exact q1.elim
      cases es with
      | nil =>
        refine PE.imp (pe_callS0 C.fn C.rm (G.gl hg) C.mg C.kp C.bd (E := WE W) (passAt tk) (ok_dbg (G.okF hf))) ?_
        intro σ H Q hq
        have := fin σ H Q hq
        cases n with
        | zero => simp [trEs] at he
        | succ n =>
          simp only [trEs] at he
          cases he
          obtain ⟨ι, m, δ, hr, hs, q⟩ := this
          simp only [evs] at q
          exact q.get hr (by simp only [VRs])
      | cons e es =>
        obtain ⟨k', e', rfl, h1, es1, h2⟩ := es_cons he
        refine PE.imp (pe_callS C.fn C.rm (G.gl hg) C.mg C.kp C.bd (E := WE W) (passAt tk) (ih.es he G tk) (ok_dbg (G.okF hf)) (star_of h1) (stars_of h2)) ?_
        intro σ H Q hq
        exact fin σ H Q hq
    · split at h
      · rename_i hb
        split at h
        · rename_i hi
          subst hi
          split at h
          · rename_i a c cp
            obtain ⟨a', ha, h⟩ := bnd2 h
            obtain ⟨c', hc, rfl⟩ := mp2 h
            obtain ⟨cv, v, h1, h2, h3, h4⟩ := cl_pe G (p := cp) hc
            have CR : CallR X (.builtin "isinstance") (fun xs H Q => ∃ u, xs = [u, v] ∧ ∃ ι m d, HR X.K X.mg ι m H ∧ VR X.K ι H d u ∧ QD X.K X.mg ι H Q WF (b2r ((tyOf m d).bind fun k => isiF x.sub k c') m)) := by
              intro pins s σ H xs us Q I r ⟨u, ex, ι, m, d, hr, hd, q⟩
              subst ex
              obtain ⟨u1, u2, rfl, r1, r2⟩ := vals2 r
              have e2 := h2.eq r2
              subst e2
              obtain ⟨b, hb', q⟩ := b2r_get q hr
              obtain ⟨k, hk, hi⟩ := bnd2 hb'
              obtain ⟨own, kit⟩ := isi_kit G.sub hi
              obtain ⟨tv, P, ht, Z, hP, hx⟩ := kit_D G.sub I hr hd r1 hk own
              obtain ⟨cv', e3, e4⟩ := kit tv ht
              rw [h1] at e3; cases e3
              exact PySem.W.kia_one Z I.kIn hP e4 hx fun tk => ⟨.bl b, H, I.tok tk, rfl, q⟩
            refine PE.imp (pe_callB CR (G.gl hg) (G.bmg hb) boot_isi (pa_cons (ih.e ha G tk) (pa_cons h4 pa_nil) (star_of ha)) (ok_nm (G.okB hb)) (ok_dbg (G.okB hb)) (star_of ha) rfl) ?_
            rintro σ H Q ⟨ι, m, δ, hr, hs, q⟩
            simp only [ev] at q
            refine ⟨ι, m, δ, hr, hs, (QR.bind q).imp fun u H1 ⟨ι1, m1, d, _, x1, hr1, r1, q1⟩ => ?_⟩
            exact ⟨u, rfl, ι1, m1, d, hr1, r1, q1.wish b2r_noexc⟩
          · rename_i a cs kk cp
            obtain ⟨a', ha, h⟩ := bnd2 h
            obtain ⟨cs', hc, h⟩ := bnd2 h
            split at h
            · cases h
            rename_i hne
            cases h
            simp only [Bool.or_eq_true, decide_eq_true_eq, not_or] at hne
            obtain ⟨cvs, vs, h1, h2, h3⟩ := cls_pa G hc
            have CR : CallR X (.builtin "isinstance") (fun xs H Q => ∃ u tp, xs = [u, .ref tp] ∧ H tp = some (.tup vs) ∧ ∃ ι m d, HR X.K X.mg ι m H ∧ VR X.K ι H d u ∧ QD X.K X.mg ι H Q WF (b2r ((tyOf m d).bind fun k => isisF x.sub k cs') m)) := by
              intro pins s σ H xs us Q I r ⟨u, tp, ex, hT, ι, m, d, hr, hd, q⟩
              subst ex
              obtain ⟨u1, u2, rfl, r1, r2⟩ := vals2 r
              cases (show u2 = Value.ref tp from r2)
              obtain ⟨b, hb', q⟩ := b2r_get q hr
              obtain ⟨k, hk, hi⟩ := bnd2 hb'
              have own : ∀ y, k = .own y → ∃ C, X.mg y = some (.ref C) ∧ ExcC X.K C := fun y e => by
                cases cs' with
                | nil => exact absurd rfl hne.1
                | cons c cs' => exact isis_own G.sub hi y e
              obtain ⟨tv, P, ht, Z, hP, hx⟩ := kit_D G.sub I hr hd r1 hk own
              have e4 := isis_kit G.sub ht hi h1
              obtain ⟨_, its, rv, o, g1, g2, nn, g3⟩ := (show ObjOk X.prog X.w H s.heap tp (.tup vs) from I.hok tp _ hT)
              have e5 := ClsV.all h2 rv
              subst e5
              obtain ⟨oc, od, dt, sl⟩ := o
              simp only at g2 g3
              subst g2 g3
              exact PySem.W.kia_tup Z I.kIn hP g1 e4 hx fun tk => ⟨.bl b, H, I.tok tk, rfl, q⟩
            refine PE.imp (pe_callB CR (G.gl hg) (G.bmg hb) boot_isi (pa_cons (ih.e ha G tk) (pa_cons (pe_tup h3) pa_nil) (star_of ha)) (ok_nm (G.okB hb)) (ok_dbg (G.okB hb)) (star_of ha) rfl) ?_
            rintro σ H Q ⟨ι, m, δ, hr, hs, q⟩
            simp only [ev] at q
            refine ⟨ι, m, δ, hr, hs, (QR.bind q).imp fun u H1 ⟨ι1, m1, d, _, x1, hr1, r1, q1⟩ => ?_⟩
            refine ⟨?_, fun p hp => ⟨u, p, rfl, upd_same, ι1, m1, d, hr1.new hp, VR.mono (Ext.new hp) _ _ r1, QR.mono (Ext.new hp) (q1.wish b2r_noexc)⟩⟩
            have l1 : cs'.length = cvs.length := Paired.length h1
            have l2 : vs.length = cvs.length := Paired.length h2
            rw [sizeLine_eq]
            omega
          · cases h
        · cases es with
          | nil => cases h
          | cons e1 r =>
            obtain ⟨b, hbf, h⟩ := bnd2 h
            obtain ⟨es', he, rfl⟩ := mp2 h
            have hN := bf_of hbf
            obtain ⟨k', e', rfl, h1, es1, h2⟩ := es_cons he
            have fin : ∀ (σ : St) (H : Hp) (Q : VK), tE X.K X.mg x W (.bcl b es') σ H Q → tCB (rL X.K X.mg (bcF b)) (tA X.K X.mg x W es') σ H Q := by
              rintro σ H Q ⟨ι, m, δ, hr, hs, q⟩
              simp only [ev] at q
              exact ⟨ι, m, δ, hr, hs, (QR.bind q).imp fun vs H1 ⟨ι1, m1, ds, _, x1, hr1, r1, q1⟩ => ⟨ι1, m1, ds, hr1, r1, q1.wish (bcF_noexc _ _ _)⟩⟩
            have hboot := bf_boot b
            rw [hN] at hboot
            have CR := call_bf (X := X) G.calm b
            cases hv : bfV b with
            | builtin id =>
              rw [hv] at hboot CR
              exact PE.imp (pe_callB CR (G.gl hg) (G.bmg hb) hboot (ih.es he G tk) (ok_nm (G.okB hb)) (ok_dbg (G.okB hb)) (star_of h1) (stars_of h2)) fin
            | type T =>
              rw [hv] at hboot CR
              exact PE.imp (pe_callTy CR (G.gl hg) (G.bmg hb) hboot (ih.es he G tk) (ok_nm (G.okB hb)) (ok_dbg (G.okB hb)) (star_of h1) (stars_of h2)) fin
            | _ => cases b <;> cases hv
      · cases h
  · cases h

/-! ### arguments -/
theorem snd_es (ih : Snd t n) {es : List Expr} {ir : Es} (h : trEs t (n + 1) g es = some ir) (G : Gd t x g X) (tk : Takes X W) : PA X es (tA X.K X.mg x W ir) := by
  cases es with
  | nil =>
    simp only [trEs] at h; cases h
    refine PA.imp pa_nil ?_
    rintro σ H Q ⟨ι, m, δ, hr, hs, q⟩
    simp only [evs] at q
    exact q.get hr (by simp only [VRs])
  | cons e es =>
    simp only [trEs] at h
    obtain ⟨e', h1, h⟩ := bnd2 h
    obtain ⟨es', h2, rfl⟩ := mp2 h
    refine PA.imp (pa_cons (ih.e h1 G tk) (ih.es h2 G tk) (star_of h1)) ?_
    rintro σ H Q ⟨ι, m, δ, hr, hs, q⟩
    simp only [evs] at q
    exact ⟨ι, m, δ, hr, hs, (QR.bind q).imp fun v H1 ⟨ι1, m1, d, _, x1, hr1, r1, q1⟩ => ⟨ι1, m1, δ, hr1, hs.mono x1, (QR.bind q1).imp fun vs H2 ⟨ι2, m2, ds, _, x2, hr2, r2, q2⟩ => q2.get hr2 ((VRs.cons (VR.mono x2 _ _ r1) r2))⟩⟩

/-! ### and, or -/
theorem snd_b (ih : Snd t n) {o : BoolOp} {es : List Expr} {ir : E} {pos : Pos} (h : trB t (n + 1) g o es = some ir) (G : Gd t x g X) (tk : Takes X W) : PE X (.BoolOp o es pos) (tE X.K X.mg x W ir) := by
  match es, h with
  | [], h => simp [trB] at h
  | [e], h => simp only [trB] at h; exact pe_one (ih.e h G tk)
  | e :: f :: es, h =>
    simp only [trB] at h
    obtain ⟨e', h1, h⟩ := bnd2 h
    obtain ⟨es', h2, h⟩ := mp2 h
    cases o with
    | And =>
      subst h
      refine PE.imp (pe_and (ih.e h1 G tk) (ih.b h2 G tk)) ?_
      rintro σ H Q ⟨ι, m, δ, hr, hs, q⟩
      simp only [ev] at q
      refine ⟨ι, m, δ, hr, hs, (QR.bind q).imp fun v H1 ⟨ι1, m1, d, _, x1, hr1, r1, q1⟩ => ?_⟩
      split at q1
      · simp only [VR] at r1
        refine ⟨true, r1, ?_⟩
        rw [if_pos rfl]
        exact ⟨ι1, m1, δ, hr1, hs.mono x1, q1⟩
      · simp only [VR] at r1
        refine ⟨false, r1, ?_⟩
        rw [if_neg Bool.false_ne_true]
        exact q1.get hr1 (by simp only [VR])
      · exact q1.elim
    | Or =>
      subst h
      refine PE.imp (pe_or (ih.e h1 G tk) (ih.b h2 G tk)) ?_
      rintro σ H Q ⟨ι, m, δ, hr, hs, q⟩
      simp only [ev] at q
      refine ⟨ι, m, δ, hr, hs, (QR.bind q).imp fun v H1 ⟨ι1, m1, d, _, x1, hr1, r1, q1⟩ => ?_⟩
      split at q1
      · simp only [VR] at r1
        refine ⟨true, r1, ?_⟩
        rw [if_pos rfl]
        exact q1.get hr1 (by simp only [VR])
      · simp only [VR] at r1
        refine ⟨false, r1, ?_⟩
        rw [if_neg Bool.false_ne_true]
        exact ⟨ι1, m1, δ, hr1, hs.mono x1, q1⟩
      · exact q1.elim
theorem snd_tb (ih : Snd t n) {o : BoolOp} {es : List Expr} {ir : T} {pos : Pos} (h : trTB t (n + 1) g o es = some ir) (G : Gd t x g X) (tk : Takes X W) : PW X (.BoolOp o es pos) (tT X.K X.mg x W ir) := by
  match es, h with
  | [], h => simp [trTB] at h
  | [e], h =>
    have h1 : trT t n g e = some ir := by simpa only [trTB] using h
    cases o with
    | And => exact pw_and1 (ih.tt h1 G tk)
    | Or => exact pw_or1 (ih.tt h1 G tk)
  | e :: f :: es, h =>
    simp only [trTB] at h
    obtain ⟨e', h1, h⟩ := bnd2 h
    obtain ⟨es', h2, h⟩ := mp2 h
    cases o with
    | And =>
      subst h
      refine PW.imp (pw_and (ih.tt h1 G tk) (ih.tb h2 G tk)) ?_
      rintro σ H Q ⟨ι, m, δ, hr, hs, q⟩
      simp only [evT] at q
      refine ⟨ι, m, δ, hr, hs, (QR.bind q).imp fun v H1 ⟨ι1, m1, d, _, x1, hr1, r1, q1⟩ => ?_⟩
      subst r1
      cases d with
      | true => rw [if_pos rfl] at q1 ⊢; exact ⟨ι1, m1, δ, hr1, hs.mono x1, q1⟩
      | false => rw [if_neg Bool.false_ne_true] at q1 ⊢; exact q1.get hr1 rfl
    | Or =>
      subst h
      refine PW.imp (pw_or (ih.tt h1 G tk) (ih.tb h2 G tk)) ?_
      rintro σ H Q ⟨ι, m, δ, hr, hs, q⟩
      simp only [evT] at q
      refine ⟨ι, m, δ, hr, hs, (QR.bind q).imp fun v H1 ⟨ι1, m1, d, _, x1, hr1, r1, q1⟩ => ?_⟩
      subst r1
      cases d with
      | true => rw [if_pos rfl] at q1 ⊢; exact q1.get hr1 rfl
      | false => rw [if_neg Bool.false_ne_true] at q1 ⊢; exact ⟨ι1, m1, δ, hr1, hs.mono x1, q1⟩
theorem snd_t (ih : Snd t n) (ih' : ∀ k, n = k + 1 → Snd t k) {e : Expr} {ir : T} (h : trT t (n + 1) g e = some ir) (G : Gd t x g X) (tk : Takes X W) : PT X e (tT X.K X.mg x W ir) := by
  have plain : ∀ {e : Expr}, (∃ e', trE t n g e = some e' ∧ T.val e' = ir) → (∀ whole, isTrue e X.env whole = (do let v ← whole; standAt e.pos; holding [v] (truthy v))) → PT X e (tT X.K X.mg x W ir) := fun {e} ⟨e', h1, h2⟩ hi => by
    subst h2
    exact PT.imp (pt_truth (ih.e h1 G tk) hi) fun σ H Q q => val_E q
  cases e with
  | UnaryOp o a p =>
    cases o with
    | Not =>
      simp only [trT] at h
      obtain ⟨a', h1, rfl⟩ := mp2 h
      refine PT.imp (pt_not (ih.tt h1 G tk)) ?_
      rintro σ H Q ⟨ι, m, δ, hr, hs, q⟩
      simp only [evT] at q
      refine ⟨ι, m, δ, hr, hs, (QR.bind q).imp fun v H1 ⟨ι1, m1, d, _, x1, hr1, r1, q1⟩ => ?_⟩
      subst r1
      exact q1.get hr1 rfl
    | _ => simp only [trT] at h; exact plain (mp2 h) fun _ => rfl
  | BoolOp o es p => simp only [trT] at h; exact (ih.tb h G tk).pt
  | IfExp c a b p => simp [trT] at h
  | Compare a os bs p =>
    simp only [trT] at h
    obtain ⟨e', h1, rfl⟩ := mp2 h
    cases n with
    | zero => simp [trE] at h1
    | succ n => exact PT.imp (snd_cmp (ih' n rfl) h1 G tk).2 fun σ H Q q => tst_E q
  | _ => simp only [trT] at h; exact plain (mp2 h) fun _ => rfl
end
end FS

set_option Elab.async false
set_option linter.all false
set_option maxRecDepth 100000
/-! FS: part 10: walks, targets, comprehensions. -/
namespace FS
open PySem PySem.Spec PyProof.Rows L2

section
variable {t : Tb} {n : Nat} {x : Cn} {g : Gm} {X : Cx} {W : WX} {K : PySem.W.Frag} {mg : Str → Option Value}

/-! ### what is walked -/
theorem PI.or {tg e : Expr} {w1 w2 : TI} (h1 : PI X tg e w1) (h2 : PI X tg e w2) : PI X tg e fun σ H R => w1 σ H R ∨ w2 σ H R :=
  ⟨fun pins s σ H R I h => h.elim (h1.run pins s σ H R I) (h2.run pins s σ H R I)⟩
theorem wr_list {ι : List Addr} {H : Hp} {k : Nat} {a : Addr} {ds : List D} (ha : ι[k]? = some a) : WR K mg ι H ⟨ds, fun m' => items m' k = some ds⟩ (Itl K a) := by
  intro i ι' m H' ext hr st
  obtain ⟨vs, hA, hv⟩ := itemsAt hr (ext.pre k a ha) st
  refine ⟨fun hi => ⟨vs, hA, by rw [← hv.length]; exact Nat.le_of_eq hi.symm⟩, fun d hd => ?_⟩
  obtain ⟨v, h1, h2⟩ := hv.get hd
  refine ⟨⟨vs, v, hA, h1⟩, fun u H2 ⟨e, hu⟩ => ?_⟩
  subst e
  have := hu vs hA
  rw [h1] at this
  cases this
  exact ⟨ι', Ext.refl, hr, h2⟩
theorem wr_tup {ι : List Addr} {H : Hp} {a : Addr} {ds : List D} {vs : List V} (hA : SqT K H a vs) (hv : VRs K ι H ds vs) : WR K mg ι H ⟨ds, fun _ => True⟩ (Itt K a) := by
  intro i ι' m H' ext hr st
  have hA := ext.tup a vs hA
  have hv := hv.mono ext
  refine ⟨fun hi => ⟨vs, hA, by rw [← hv.length]; exact Nat.le_of_eq hi.symm⟩, fun d hd => ?_⟩
  obtain ⟨v, h1, h2⟩ := hv.get hd
  refine ⟨⟨vs, v, hA, h1⟩, fun u H2 ⟨e, hu⟩ => ?_⟩
  subst e
  have := hu vs hA
  rw [h1] at this
  cases this
  exact ⟨ι', Ext.refl, hr, h2⟩
theorem wr_str {ι : List Addr} {H : Hp} {y : Str} : WR K mg ι H ⟨strIts y, fun _ => True⟩ (Its y) := by
  intro i ι' m H' ext hr st
  refine ⟨fun hi => ?_, fun d hd => ?_⟩
  · show y.cps.size ≤ i
    rw [hi]
    show y.cps.size ≤ (strIts y).length
    simp [strIts]
  · have hd' : (strIts y)[i]? = some d := hd
    simp only [strIts, List.getElem?_map, Array.getElem?_toList] at hd'
    obtain ⟨c, h1, h2⟩ := Option.map_eq_some_iff.mp hd'
    refine ⟨(Array.getElem?_eq_some_iff.mp h1).1, fun u H2 ⟨e, c', hc, hu⟩ => ?_⟩
    subst e hu h2
    rw [h1] at hc; cases hc
    exact ⟨ι', Ext.refl, hr, by simp only [VR]⟩
theorem wr_rng {ι : List Addr} {H : Hp} {lo : Int} {k : Nat} : WR K mg ι H ⟨rng lo k, fun _ => True⟩ (Itr lo k) := by
  intro i ι' m H' ext hr st
  refine ⟨fun hi => ?_, fun d hd => ?_⟩
  · show k ≤ i
    rw [hi]
    show k ≤ (rng lo k).length
    simp [rng]
  · have hd' : (rng lo k)[i]? = some d := hd
    simp only [rng, List.getElem?_map] at hd'
    obtain ⟨j, h1, h2⟩ := Option.map_eq_some_iff.mp hd'
    obtain ⟨h3, h4⟩ := List.getElem?_eq_some_iff.mp h1
    simp at h3 h4
    subst h4
    refine ⟨h3, fun u H2 ⟨e, hu⟩ => ?_⟩
    subst e hu h2
    exact ⟨ι', Ext.refl, hr, by simp only [VR]⟩
theorem snd_seq (ih : Snd t n) {e : Expr} {e' : E} (tg : Expr) (h : trE t n g e = some e') (G : Gd t x g X) (tk : Takes X W) : PI X tg e (tI X.K X.mg x W (.seq e')) := by
  have pe := ih.e h G tk
  refine PI.imp (PI.or (pi_list pe) (PI.or (pi_tup pe) (pi_str pe))) ?_
  rintro σ H R ⟨ι, m, δ, hr, hs, q⟩
  simp only [evI] at q
  have q' := QR.bind (rel := fun ι H => VR X.K ι H) q
  cases hev : ev x e' δ m with
  | stuck => rw [hev] at q; exact q.elim
  | exc c m1 =>
    refine .inl ⟨ι, m, δ, hr, hs, q'.imp fun v H1 ⟨ι1, m1, d, e1, _⟩ => ?_⟩
    rw [hev] at e1; cases e1
  | ok d m1 =>
    cases d with
    | loc k =>
      refine .inl ⟨ι, m, δ, hr, hs, q'.imp fun v H1 ⟨ι1, m1', d, e1, x1, hr1, r1, q1⟩ => ?_⟩
      rw [hev] at e1; cases e1
      simp only [VR] at r1
      obtain ⟨a, ha, rfl⟩ := r1
      simp only [seqF] at q1
      cases e2 : items m1 k with
      | none => rw [e2] at q1; exact q1.elim
      | some ds =>
        rw [e2] at q1
        obtain ⟨vs, hA, _⟩ := itemsAt hr1 ha e2
        exact ⟨a, rfl, ⟨vs, hA⟩, q1.get hr1 (wr_list ha)⟩
    | tup ds =>
      refine .inr (.inl ⟨ι, m, δ, hr, hs, q'.imp fun v H1 ⟨ι1, m1', d, e1, x1, hr1, r1, q1⟩ => ?_⟩)
      rw [hev] at e1; cases e1
      simp only [VR] at r1
      obtain ⟨a, vs, rfl, hA, hv⟩ := r1
      exact ⟨a, rfl, ⟨vs, hA⟩, q1.get hr1 (wr_tup hA hv)⟩
    | str y =>
      refine .inr (.inr ⟨ι, m, δ, hr, hs, q'.imp fun v H1 ⟨ι1, m1', d, e1, x1, hr1, r1, q1⟩ => ?_⟩)
      rw [hev] at e1; cases e1
      simp only [VR] at r1
      exact ⟨y, r1, q1.get hr1 wr_str⟩
    | _ => rw [hev] at q; exact q.elim
theorem snd_i (ih : Snd t n) {e : Expr} {ir : It} (tg : Expr) (h : trI t (n + 1) g e = some ir) (G : Gd t x g X) (tk : Takes X W) : PI X tg e (tI X.K X.mg x W ir) := by
  have sq : ∀ {e : Expr}, (trE t n g e).map It.seq = some ir → PI X tg e (tI X.K X.mg x W ir) := fun {e} h => by
    obtain ⟨e', h1, rfl⟩ := mp2 h
    exact snd_seq ih tg h1 G tk
  by_cases hc : ∃ f fp es p, e = .Call (.Name f fp) es [] p ∧ (∃ a, es = [a] ∨ ∃ b, es = [a, b])
  · obtain ⟨f, fp, es, p, rfl, a, rfl | ⟨b, rfl⟩⟩ := hc
    · simp only [trI] at h
      split at h
      · rename_i hg
        simp only [Bool.and_eq_true, decide_eq_true_eq] at hg
        obtain ⟨⟨h1, rfl⟩, h3⟩ := hg
        obtain ⟨a', ha, rfl⟩ := mp2 h
        have hst : starEach [a] X.env = [(false, eval a X.env)] := star_of (es := []) ha
        refine PI.imp (pi_range1 (G.gl h1) (G.bmg h3) (pa_cons (ih.e ha G tk) pa_nil (star_of ha)) hst) ?_
        rintro σ H R ⟨ι, m, δ, hr, hs, q⟩
        simp only [evI] at q
        refine ⟨ι, m, δ, hr, hs, (QR.bind (rel := fun ι H => VR X.K ι H) q).imp fun v H1 ⟨ι1, m1, d, e1, x1, hr1, r1, q1⟩ => ?_⟩
        split at q1
        · split at q1
          · rename_i hb
            simp only [VR] at r1
            subst r1
            exact ⟨_, rfl, hb.1, hb.2, q1.get hr1 wr_rng⟩
          · exact q1.elim
        · exact q1.elim
      · exact sq h
    · simp only [trI] at h
      split at h
      · rename_i hg
        simp only [Bool.and_eq_true, decide_eq_true_eq] at hg
        obtain ⟨⟨h1, rfl⟩, h3⟩ := hg
        obtain ⟨a', ha, h⟩ := bnd2 h
        obtain ⟨b', hb, rfl⟩ := mp2 h
        have hst2 : starEach [b] X.env = [(false, eval b X.env)] := star_of (es := []) hb
        have hst : starEach [a, b] X.env = [(false, eval a X.env), (false, eval b X.env)] := by rw [star_of ha, hst2]
        refine PI.imp (pi_range2 (G.gl h1) (G.bmg h3) (pa_cons (ih.e ha G tk) (pa_cons (ih.e hb G tk) pa_nil (star_of hb)) (star_of ha)) hst hst2) ?_
        rintro σ H R ⟨ι, m, δ, hr, hs, q⟩
        simp only [evI] at q
        refine ⟨ι, m, δ, hr, hs, (QR.bind (rel := fun ι H => VR X.K ι H) q).imp fun v H1 ⟨ι1, m1, d, e1, x1, hr1, r1, q1⟩ => ⟨ι1, m1, δ, hr1, hs.mono x1, (QR.bind (rel := fun ι H => VR X.K ι H) q1).imp fun u H2 ⟨ι2, m2, d2, e2, x2, hr2, r2, q2⟩ => ?_⟩⟩
        split at q2
        · split at q2
          · rename_i hb
            simp only [VR] at r1 r2
            subst r1 r2
            exact ⟨_, _, rfl, ⟨hb.1.1, hb.1.2, hb.2.1, hb.2.2⟩, q2.get hr2 wr_rng⟩
          · exact q2.elim
        · exact q2.elim
      · exact sq h
  · refine sq ?_
    cases e with
    | Call f es kw p =>
      cases f with
      | Name f fp =>
        match es, kw, h, hc with
        | [a], [], h, hc => exact absurd ⟨f, fp, [a], p, rfl, a, .inl rfl⟩ hc
        | [a, b], [], h, hc => exact absurd ⟨f, fp, [a, b], p, rfl, a, .inr ⟨b, rfl⟩⟩ hc
        | [], _, h, _ => simpa only [trI] using h
        | [_], _ :: _, h, _ => simpa only [trI] using h
        | [_, _], _ :: _, h, _ => simpa only [trI] using h
        | _ :: _ :: _ :: _, _, h, _ => simpa only [trI] using h
      | _ => simpa only [trI] using h
    | _ => simpa only [trI] using h

/-! ### targets -/
def gNs : List Nat → TGs
  | [] => gNil
  | i :: is => gCons (gName i) (gNs is)
def gT (K : PySem.W.Frag) : Tg → TG
  | .nm i => gName i
  | .tp is => gTup K is.length (gNs is)
theorem pgs_of (G : Gd t x g X) : ∀ {es : List Expr} {is : List Nat}, tgts g es = some is → PGs X es (gNs is) ∧ (assignEach es X.env).length = is.length ∧ (assignEach es X.env).findIdx? (·.1) = none
  | [], is, h => by simp only [tgts] at h; cases h; exact ⟨pgs_nil, rfl, rfl⟩
  | .Name y p :: es, is, h => by
    simp only [tgts] at h
    obtain ⟨i, hi, h⟩ := bnd2 h
    obtain ⟨is', hs, rfl⟩ := mp2 h
    obtain ⟨h1, h2, h3⟩ := G.tgt hi
    obtain ⟨q1, q2, q3⟩ := pgs_of G hs
    refine ⟨pgs_cons (pg_name G.ndX h1 h2 h3) q1, ?_, ?_⟩
    · show (assignEach es X.env).length + 1 = _
      rw [q2]; rfl
    · show List.findIdx? (·.1) ((false, assign (.Name y p) X.env) :: assignEach es X.env) = none
      rw [List.findIdx?_cons, q3]; rfl
  | .BoolOp .. :: _, _, h | .NamedExpr .. :: _, _, h | .BinOp .. :: _, _, h | .UnaryOp .. :: _, _, h | .Lambda .. :: _, _, h | .IfExp .. :: _, _, h | .Dict .. :: _, _, h | .Set .. :: _, _, h | .ListComp .. :: _, _, h
  | .SetComp .. :: _, _, h | .DictComp .. :: _, _, h | .GeneratorExp .. :: _, _, h | .Await .. :: _, _, h | .Yield .. :: _, _, h | .YieldFrom .. :: _, _, h | .Compare .. :: _, _, h | .Call .. :: _, _, h
  | .FormattedValue .. :: _, _, h | .JoinedStr .. :: _, _, h | .Constant .. :: _, _, h | .Attribute .. :: _, _, h | .Subscript .. :: _, _, h | .Starred .. :: _, _, h | .List .. :: _, _, h | .Tuple .. :: _, _, h | .Slice .. :: _, _, h => by simp [tgts] at h
theorem pg_of (G : Gd t x g X) {e : Expr} {tg : Tg} (h : trTg g e = some tg) : PG X e (gT X.K tg) := by
  cases e with
  | Name y p =>
    simp only [trTg] at h
    obtain ⟨i, hi, rfl⟩ := mp2 h
    obtain ⟨h1, h2, h3⟩ := G.tgt hi
    exact pg_name G.ndX h1 h2 h3
  | Tuple es k p =>
    simp only [trTg] at h
    obtain ⟨is, hi, rfl⟩ := mp2 h
    obtain ⟨q1, q2, q3⟩ := pgs_of G hi
    exact pg_tup G.calm q1 q2 q3
  | _ => simp [trTg] at h
/-- the slots behind a store at given slots -/
structure Stored (is : List Nat) (σ σ' : St) : Prop where
  len : σ'.length = σ.length
  out : ∀ j, j ∉ is → σ'[j]? = σ[j]?
theorem gNs_of {ι : List Addr} {H : Hp} : ∀ {is : List Nat} {ds : List D} {vs : List V} {δ δ' : Sl} {σ : St} {Q : St → Hp → Prop}, setAll is ds δ = some δ' → VRs K ι H ds vs → SR K ι H δ σ →
    (∀ σ', SR K ι H δ' σ' → Stored is σ σ' → Q σ' H) → gNs is vs σ H Q ∧ vs.length = is.length
  | [], [], vs, δ, δ', σ, Q, h, hv, hs, q => by
    simp only [setAll] at h; cases h
    simp only [VRs] at hv; subst hv
    exact ⟨⟨rfl, q σ hs ⟨rfl, fun _ _ => rfl⟩⟩, rfl⟩
  | i :: is, d :: ds, vs, δ, δ', σ, Q, h, hv, hs, q => by
    simp only [setAll] at h
    simp only [VRs] at hv
    obtain ⟨v, r, rfl, h1, h2⟩ := hv
    obtain ⟨q1, q2⟩ := gNs_of (Q := Q) h h2 (hs.set i h1) fun σ' s' st => q σ' s' ⟨by rw [st.len, List.length_set], fun j hj => by
      simp only [List.mem_cons, not_or] at hj
      rw [st.out j hj.2, List.getElem?_set_ne (Ne.symm hj.1)]⟩
    exact ⟨⟨v, r, rfl, q1⟩, by rw [List.length_cons, List.length_cons, q2]⟩
  | [], _ :: _, _, _, _, _, _, h, _, _, _ => by simp [setAll] at h
  | _ :: _, [], _, _, _, _, _, h, _, _, _ => by simp [setAll] at h
theorem gT_of {ι : List Addr} {H : Hp} {tg : Tg} {d : D} {v : V} {δ δ' : Sl} {σ : St} {Q : St → Hp → Prop} (h : asgF tg d δ = some δ') (hv : VR K ι H d v) (hs : SR K ι H δ σ) (q : ∀ σ', SR K ι H δ' σ' → Stored tg.slots σ σ' → Q σ' H) : gT K tg v σ H Q := by
  cases tg with
  | nm i =>
    simp only [asgF] at h; cases h
    exact q _ (hs.set i hv) ⟨by rw [List.length_set], fun j hj => by
      have : j ≠ i := fun e => hj (by simp [Tg.slots, e])
      rw [List.getElem?_set_ne (Ne.symm this)]⟩
  | tp is =>
    cases d with
    | tup ds =>
      simp only [asgF] at h
      simp only [VR] at hv
      obtain ⟨a, vs, rfl, hA, hv⟩ := hv
      obtain ⟨q1, q2⟩ := gNs_of h hv hs q
      exact ⟨a, vs, rfl, hA, q2, q1⟩
    | _ => simp [asgF] at h
theorem wipe_in {σ : St} {j : Nat} : ∀ {vs : List Nat}, j ∈ vs → (wipe σ vs)[j]? = if j < σ.length then some none else none
  | [], h => by simp at h
  | v :: vs, h => by
    unfold wipe
    by_cases e : v = j
    · subst e
      rw [List.getElem?_set_self']
      by_cases hl : v < σ.length
      · rw [if_pos hl, List.getElem?_eq_getElem (by rw [wipe_length]; exact hl)]
        rfl
      · rw [if_neg hl, List.getElem?_eq_none (by rw [wipe_length]; omega)]
        rfl
    · rw [List.getElem?_set_ne e]
      exact wipe_in (by simpa [Ne.symm e] using h)
theorem wipe_stored {σ σ' : St} {is vs : List Nat} (h : Stored is (wipe σ vs) σ') (hi : ∀ i ∈ is, i ∈ vs) : wipe σ' vs = wipe σ vs := by
  refine List.ext_getElem? fun j => ?_
  by_cases hj : j ∈ vs
  · rw [wipe_in hj, wipe_in hj, h.len, wipe_length]
  · rw [wipe_out hj, h.out j fun z => hj (hi j z)]
end
end FS

set_option Elab.async false
set_option linter.all false
set_option maxRecDepth 100000
/-! FS: part 11: comprehensions; the induction. -/
namespace FS
open PySem PySem.Spec PyProof.Rows L2

section
variable {t : Tb} {n : Nat} {x : Cn} {g : Gm} {X : Cx} {W : WX} {K : PySem.W.Frag} {mg : Str → Option Value}
abbrev W0 : WX := fun _ _ _ _ => False
abbrev gBlk (g : Gm) (scope : Scope) : Gm := ⟨g.N, relS scope g.sc, (scope.names.filter fun y => match y.2 with | .cell => true | _ => false).map (·.1)⟩
theorem Gd.blk (G : Gd t x g X) {scope : Scope} (hu : ∀ y ∈ scope.names, scope.names.lookup y.1 = some y.2) (s : Shared) (H : Hp) (C : Addr) (cl : List (Str × Addr)) (fp : List Addr) :
    Gd t x (gBlk g scope) (X.blk s H scope (compEnvC scope cl C X.env) fp) where
  N := G.N
  nd := G.nd
  sc := by
    show relS scope X.env.scope = relS scope g.sc
    rw [G.sc]
  oc := fun y hy => by
    obtain ⟨z, hz, rfl⟩ := List.mem_map.mp hy
    obtain ⟨h1, h2⟩ := List.mem_filter.mp hz
    have h3 := hu z h1
    show (scope.names.lookup z.1 == some .cell) = true
    rw [h3]
    split at h2
    · rename_i e; rw [e]; rfl
    · cases h2
  calm := G.calm
  un := G.un
  call := fun f hf => let ⟨fa, fd, ps, k, C⟩ := G.call f hf; ⟨fa, fd, ps, k, ⟨C.fn, C.np, C.rm, C.mg, C.kp, C.bd⟩⟩
  glob := G.glob
  blt := G.blt
  sub := G.sub
  cls := G.cls
  rcl := fun c hc => ⟨(G.rcl c hc).ex⟩
  nmN := G.nmN
  nmF := G.nmF
theorem takes_blk {s : Shared} {H : Hp} {scope : Scope} {env : Env} {fp : List Addr} : Takes (X.blk s H scope env fp) W0 := fun u s' z => by
  obtain ⟨_, _, _, _, _, _, _, _, _, _, _, _, _, _, _, _, z⟩ := z
  exact z.elim

/-- the comprehension's reading, from the evaluator's answer -/
theorem comp_rd {it : It} {tg : Tg} {vs : List Nat} {e : E} {c : Sl → M → R Bool} {tt : TT} {ir : E} {σ : St} {H : Hp} {Q : VK} (hsl : ∀ i ∈ tg.slots, i ∈ vs)
    (hev : ∀ δ m, ev x ir δ m = (evI x it δ m).bind fun w m1 => compF w.stay tg vs δ c (fun σ' m' => ev x e σ' m') m1.length w.ds [] (m1 ++ [.lst []]))
    (htt : ∀ σ H (Q : Bool → Hp → Prop) ι m δ, HR K mg ι m H → SR K ι H δ σ → QR K mg (fun _ _ (a b : Bool) => a = b) ι H Q (At W0 σ) (c δ m) → tt σ H Q)
    (h : tE K mg x W ir σ H Q) : tLc (tI K mg x W it) (gT K tg) tt (tE K mg x W0 e) vs σ H Q := by
  obtain ⟨ι, m, δ, hr, hs, q⟩ := h
  rw [hev] at q
  refine ⟨ι, m, δ, hr, hs, (QR.bind (rel := fun ι H => WR K mg ι H) q).imp fun J H1 ⟨ι1, m1, w, _, x1, hr1, wr, q1⟩ => ?_⟩
  intro D hD
  have xD : Ext K ι1 H1 (ι1 ++ [D]) (upd H1 D (.lst [])) := (Ext.push ι1 D).trans (Ext.new hD)
  have hrD : HR K mg (ι1 ++ [D]) (m1 ++ [.lst []]) (upd H1 D (.lst [])) := hr1.push hD ⟨[], upd_same, VRs.nil⟩
  have hnD : (ι1 ++ [D])[m1.length]? = some D := by rw [← hr1.len]; simp
  refine ⟨fun i k H2 => k = w.ds.length - i ∧ i ≤ w.ds.length ∧ ∃ ι2 m2 acc, Ext K (ι1 ++ [D]) (upd H1 D (.lst [])) ι2 H2 ∧ HR K mg ι2 m2 H2 ∧
    QD K mg ι2 H2 Q (At W σ) (compF w.stay tg vs δ c (fun σ' m' => ev x e σ' m') m1.length (w.ds.drop i) acc m2), ⟨w.ds.length, by omega, Nat.zero_le _, ι1 ++ [D], m1 ++ [.lst []], [], Ext.refl, hrD, ?_⟩, ?_⟩
  · rw [List.drop_zero]
    exact QR.mono xD q1
  rintro i k H2 ⟨rfl, hi, ι2, m2, acc, x2, hr2, q2⟩
  have xa : Ext K ι1 H1 ι2 H2 := xD.trans x2
  by_cases hlt : i < w.ds.length
  · have e1 : w.ds.drop i = w.ds[i] :: w.ds.drop (i + 1) := List.drop_eq_getElem_cons hlt
    rw [e1] at q2
    simp only [compF] at q2
    split at q2
    · rename_i hst
      cases ha : asgF tg w.ds[i] (wipeD δ vs) with
      | none => rw [ha] at q2; exact q2.elim
      | some δ1 =>
        rw [ha] at q2
        simp only at q2
        obtain ⟨_, hit⟩ := wr i ι2 m2 H2 xa hr2 hst
        obtain ⟨go, hy⟩ := hit w.ds[i] (List.getElem?_eq_getElem hlt)
        refine .inr ⟨go, fun H' => ∃ ι3 m3 acc', Ext K (ι1 ++ [D]) (upd H1 D (.lst [])) ι3 H' ∧ HR K mg ι3 m3 H' ∧ QD K mg ι3 H' Q (At W σ) (compF w.stay tg vs δ c (fun σ' m' => ev x e σ' m') m1.length (w.ds.drop (i + 1)) acc' m3),
          fun H' ⟨ι3, m3, acc', z1, z2, z3⟩ => ⟨w.ds.length - (i + 1), by omega, rfl, hlt, ι3, m3, acc', z1, z2, z3⟩, fun v H' yv => ?_⟩
        obtain ⟨ι', xe, hr', hv⟩ := hy v H' yv
        have hsw : SR K ι' H' (wipeD δ vs) (wipe σ vs) := SR.wipe vs (((hs.mono x1).mono xa).mono xe)
        refine gT_of ha hv hsw fun σ2 hs2 st2 => ⟨wipe_stored st2 hsl, ?_⟩
        refine htt σ2 H' _ ι' m2 δ1 hr' hs2 ?_
        cases hc : c δ1 m2 with
        | stuck => rw [hc] at q2; exact q2.elim
        | exc cc mm => rw [hc] at q2; exact q2.elim
        | ok b m3 =>
          rw [hc] at q2
          intro ι3 H3 b' x3 hr3 hb
          subst hb
          have xb : Ext K (ι1 ++ [D]) (upd H1 D (.lst [])) ι3 H3 := (x2.trans xe).trans x3
          cases b with
          | false =>
            rw [if_neg Bool.false_ne_true]
            simp only at q2
            split at q2
            · exact ⟨ι3, m3, acc, xb, hr3, QR.mono (xe.trans x3) q2⟩
            · exact q2.elim
          | true =>
            rw [if_pos rfl]
            simp only at q2
            refine ⟨ι3, m3, δ1, hr3, hs2.mono x3, ?_⟩
            cases he : ev x e δ1 m3 with
            | stuck => rw [he] at q2; exact q2.elim
            | exc cc mm => rw [he] at q2; exact q2.elim
            | ok d m4 =>
              rw [he] at q2
              simp only at q2
              intro ι4 H4 y x4 hr4 hy4
              split at q2
              · rename_i hz
                obtain ⟨hz1, hz2⟩ := hz
                have hD4 : ι4[m1.length]? = some D := (xb.trans x4).pre _ _ hnD
                obtain ⟨us, h5, h6⟩ := lstAt hr4 hD4 hz1
                have ex : Ext K ι4 H4 ι4 (upd H4 D (.lst (us ++ [y]))) := Ext.wr h5 rfl
                refine ⟨us, h5, by rw [← h6.length, sizeLine_eq]; exact hz2, ι4, m4.set m1.length (.lst (acc ++ [d])), acc ++ [d], (xb.trans x4).trans ex, hr4.wr (o' := .lst (acc ++ [d])) hD4 hz1 rfl ⟨_, upd_same, (h6.append (VRs.one hy4)).mono ex⟩ rfl, QR.mono (((xe.trans x3).trans x4).trans ex) q2⟩
              · exact q2.elim
    · exact q2.elim
  · have e1 : i = w.ds.length := by omega
    rw [List.drop_of_length_le (by omega)] at q2
    simp only [compF] at q2
    split at q2
    · rename_i hst
      obtain ⟨hstop, _⟩ := wr i ι2 m2 H2 xa hr2 hst
      exact .inl ⟨hstop e1, q2.get hr2 (by simp only [VR]; exact ⟨D, x2.pre _ _ hnD, rfl⟩)⟩
    · exact q2.elim
/-- the parts of a comprehension, wherever it stands -/
theorem comp_parts {elt : Expr} {gs : List Comprehension} {scope : Scope} {p : Pos} {ir : E} (h : trE t (n + 1) g (.ListComp elt gs scope p) = some ir) :
    ∃ tg iter ifs tg' it e', gs = [⟨tg, iter, ifs, 0⟩] ∧ trTg (gBlk g scope) tg = some tg' ∧ blkC g.N g.sc scope ((tgNames tg).zip tg'.slots) = true ∧ (∀ i ∈ tg'.slots, i ∈ ((tgNames tg).zip tg'.slots).map (·.2)) ∧
      trI t n g iter = some it ∧ trE t n (gBlk g scope) elt = some e' ∧ ((ifs = [] ∧ ir = .comp it tg' (((tgNames tg).zip tg'.slots).map (·.2)) none e') ∨ ∃ c c', ifs = [c] ∧ trT t n (gBlk g scope) c = some c' ∧ ir = .comp it tg' (((tgNames tg).zip tg'.slots).map (·.2)) (some c') e') := by
  match gs, h with
  | [⟨tg, iter, ifs, asy⟩], h =>
    simp only [trE] at h
    split at h
    · cases h
    rename_i hasy
    have hasy : asy = 0 := by simpa using hasy
    subst hasy
    obtain ⟨tg', h1, h⟩ := bnd2 h
    split at h
    · rename_i hc
      simp only [Bool.and_eq_true, List.all_eq_true, List.any_eq_true] at hc
      obtain ⟨it, h2, h⟩ := bnd2 h
      obtain ⟨e', h3, h⟩ := bnd2 h
      have hsl : ∀ i ∈ tg'.slots, i ∈ ((tgNames tg).zip tg'.slots).map (·.2) := fun i hi => by
        obtain ⟨p, hp, e⟩ := hc.2 i hi
        exact List.mem_map.mpr ⟨p, hp, beq_iff_eq.mp e⟩
      split at h
      · cases h
        exact ⟨tg, iter, [], tg', it, e', rfl, h1, hc.1, hsl, h2, h3, .inl ⟨rfl, rfl⟩⟩
      · obtain ⟨c', h4, rfl⟩ := mp2 h
        exact ⟨tg, iter, _, tg', it, e', rfl, h1, hc.1, hsl, h2, h3, .inr ⟨_, c', rfl, h4, rfl⟩⟩
      · cases h
    · cases h
  | [], h => simp [trE] at h
  | _ :: _ :: _, h => simp [trE] at h
theorem blk_uniq {N : List Str} {sc scope : Scope} {own : List (Str × Nat)} (h : blkC N sc scope own = true) : ∀ y ∈ scope.names, scope.names.lookup y.1 = some y.2 := (blkOk_by h).uniq
/-- all that a rule for a comprehension wants -/
theorem snd_comp0 (ih : Snd t n) {elt : Expr} {gs : List Comprehension} {scope : Scope} {p : Pos} {ir : E} (h : trE t (n + 1) g (.ListComp elt gs scope p) = some ir) (G : Gd t x g X) (tk : Takes X W) :
    ∃ tg iter ifs wi gg tt te own, gs = [⟨tg, iter, ifs, 0⟩] ∧ PI X tg iter wi ∧ BlkOk X.N X.env.scope scope own ∧
      (∀ (s : Shared) (H : Hp) (C : Addr) (cl : List (Str × Addr)) (fp : List Addr), PG (X.blk s H scope (compEnvC scope cl C X.env) fp) tg gg) ∧ (∀ (s : Shared) (H : Hp) (C : Addr) (cl : List (Str × Addr)) (fp : List Addr), PTs (X.blk s H scope (compEnvC scope cl C X.env) fp) ifs tt) ∧
      (∀ (s : Shared) (H : Hp) (C : Addr) (cl : List (Str × Addr)) (fp : List Addr), PE (X.blk s H scope (compEnvC scope cl C X.env) fp) elt te) ∧ (∀ v, foldedSetIterable iter X.env v = pure v) ∧ ∀ σ H Q, tE X.K X.mg x W ir σ H Q → tLc wi gg tt te (own.map (·.2)) σ H Q := by
  obtain ⟨tg, iter, ifs, tg', it, e', rfl, h1, h2, h3, h4, h5, h6⟩ := comp_parts h
  have hu := blk_uniq h2
  have ok : BlkOk X.N X.env.scope scope ((tgNames tg).zip tg'.slots) := by
    rw [G.N, G.sc]
    exact blkOk_by h2
  have he : ∀ (s : Shared) (H : Hp) (C : Addr) (cl : List (Str × Addr)) (fp : List Addr), PE (X.blk s H scope (compEnvC scope cl C X.env) fp) elt (tE X.K X.mg x W0 e') := fun s H C cl fp => ih.e h5 (G.blk hu s H C cl fp) takes_blk
  have hg : ∀ (s : Shared) (H : Hp) (C : Addr) (cl : List (Str × Addr)) (fp : List Addr), PG (X.blk s H scope (compEnvC scope cl C X.env) fp) tg (gT X.K tg') := fun s H C cl fp => pg_of (G.blk hu s H C cl fp) h1
  rcases h6 with ⟨rfl, rfl⟩ | ⟨c, c', rfl, h7, rfl⟩
  · refine ⟨tg, iter, [], _, _, tYes, _, _, rfl, ih.i tg h4 G tk, ok, hg, fun _ _ _ _ _ => pts_nil, he, fold_of h4, fun σ H Q q => comp_rd (c := fun _ m => .ok true m) h3 (fun δ m => by simp only [ev]) ?_ q⟩
    intro σ H Q ι m δ hr hs q
    exact q.get hr rfl
  · refine ⟨tg, iter, [c], _, _, tT X.K X.mg x W0 c', _, _, rfl, ih.i tg h4 G tk, ok, hg, fun s H C cl fp => pts_one (ih.tt h7 (G.blk hu s H C cl fp) takes_blk), he, fold_of h4, fun σ H Q q => comp_rd (c := fun σ' m' => evT x c' σ' m') h3 (fun δ m => by simp only [ev]) ?_ q⟩
    intro σ H Q ι m δ hr hs q
    exact ⟨ι, m, δ, hr, hs, q⟩
theorem snd_comp (ih : Snd t n) {elt : Expr} {gs : List Comprehension} {scope : Scope} {p : Pos} {ir : E} (h : trE t (n + 1) g (.ListComp elt gs scope p) = some ir) (G : Gd t x g X) (tk : Takes X W) : PE X (.ListComp elt gs scope p) (tE X.K X.mg x W ir) := by
  obtain ⟨tg, iter, ifs, wi, gg, tt, te, own, rfl, hi, ok, hg, ht, he, hs, rd⟩ := snd_comp0 ih h G tk
  exact PE.imp (pe_lc G.calm G.ndX hi ok hg ht he hs) rd

/-! ### the induction -/
theorem snd_e (ih : Snd t n) {e : Expr} {ir : E} (h : trE t (n + 1) g e = some ir) (G : Gd t x g X) (tk : Takes X W) : PE X e (tE X.K X.mg x W ir) := by
  cases e with
  | Name y p => exact snd_name h G tk
  | Constant c k p => exact snd_const h G tk
  | BinOp a o b p => exact snd_bin ih h G tk
  | UnaryOp o a p => exact snd_un ih h G tk
  | Compare a os bs p => exact (snd_cmp ih h G tk).1
  | BoolOp o es p => simp only [trE] at h; exact ih.b h G tk
  | IfExp c a b p => exact snd_if ih h G tk
  | Tuple es k p => exact snd_tup ih h G tk
  | List es p => exact snd_lst ih h G tk
  | Subscript a i p => exact snd_sub ih h G tk
  | ListComp elt gs scope p => exact snd_comp ih h G tk
  | Call f es kw p =>
    cases f with
    | Name f fp =>
      cases kw with
      | nil => exact snd_call ih h G tk
      | cons k kw => simp [trE] at h
    | _ => simp [trE] at h
  | _ => simp [trE] at h
theorem snd_zero : Snd t 0 where
  e := fun h => by simp [trE] at h
  es := fun h => by simp [trEs] at h
  b := fun h => by simp [trB] at h
  tt := fun h => by simp [trT] at h
  tb := fun h => by simp [trTB] at h
  i := fun _ h => by simp [trI] at h
theorem snd_all (t : Tb) : ∀ n, Snd t n ∧ ∀ k, n = k + 1 → Snd t k
  | 0 => ⟨snd_zero, fun _ h => by omega⟩
  | n + 1 => by
    obtain ⟨ih, ih'⟩ := snd_all t n
    exact ⟨⟨fun h G tk => snd_e ih h G tk, fun h G tk => snd_es ih h G tk, fun h G tk => snd_b ih h G tk, fun h G tk => snd_t ih ih' h G tk, fun h G tk => snd_tb ih h G tk, fun tg h G tk => snd_i ih tg h G tk⟩,
      fun k e => by cases e; exact ih⟩
theorem snd (t : Tb) (n : Nat) : Snd t n := (snd_all t n).1
end
end FS

set_option Elab.async false
set_option linter.all false
set_option maxRecDepth 100000
/-! FS: part 12: a caught exception, kept as a value. -/
namespace L2
open PySem PySem.Spec PyProof.Rows
section
variable {X : Cx} {pins : List (Addr × Obj)} {σ : St} {H : Hp} {s : Shared}
/-- the exception that was caught is tracked from then on -/
theorem Inv.suiteT (I : Inv X pins σ H s) {a : Addr} {o : HO} (na : H a = none) (nL : a ≠ X.env.locals) (n0 : X.s_0.heap.get? a = none) (nP : ∀ p ∈ X.pn ++ pins, p.1 ≠ a) (nC : ∀ x c, X.env.cells.lookup x = some c → c ≠ a)
    (new : ObjOk X.prog X.w (upd H a o) s.heap a o) : Inv (X.suite a (X.pn ++ pins)) [] σ (upd H a o) s := by
  have ne : ∀ b, b ≠ a → upd H a o b = H b := fun b hb => upd_ne hb
  have nt : ∀ {b u}, H b = some u → b ≠ a := fun {b u} h => ne_of_none h na
  refine ⟨I.ok.suite _ _, I.os, I.bare, ⟨I.base.keep, I.base.slot, fun b u e n hx => ?_, I.base.there, fun b xs e => ?_, fun b u xs e => ?_, fun b ps e => ?_⟩, I.loc, I.cell, ?_, fun x c e => ?_, fun p hp => ?_, fun b u e => ?_, I.len⟩
  · rw [ne b fun z => ?_]
    · exact I.base.free b u e n hx
    · subst z
      have e' : X.s_0.heap.get? b = some u := e
      rw [n0] at e'; cases e'
  · have q := I.base.tups b xs e
    rw [ne b (nt q)]; exact q
  · have q := I.base.frzs b u xs e
    rw [ne b (nt q)]; exact q
  · obtain ⟨more, q⟩ := I.base.tbls b ps e
    exact ⟨more, by rw [ne b (nt q)]; exact q⟩
  · show upd H a o X.env.locals = none
    rw [ne _ (Ne.symm nL)]; exact I.free
  · rw [ne c (nC x c e)]; exact I.freeC x c e
  · rw [List.append_nil] at hp
    obtain ⟨h1, h2, h3, h4, h5⟩ := I.pin p hp
    exact ⟨h1, by rw [ne _ (nP p hp)]; exact h2, h3, h4, h5⟩
  · by_cases hb : b = a
    · subst hb; rw [upd_same] at e; cases e; exact new
    · rw [upd_ne hb] at e
      exact (I.hok b u e).stay (fun c v _ q => q) (fun c q => by rw [ne c (nt q)]; exact q) fun c xs q => by rw [ne c (nt q)]; exact q
theorem Inv.unsuiteT {a : Addr} {pn' : List (Addr × Obj)} (I : Inv (X.suite a (X.pn ++ pins)) pn' σ H s) (ok : X.Ok) : Inv X pins σ H s :=
  ⟨ok, I.os, I.bare, I.base, I.loc, I.cell, I.free, I.freeC, fun p hp => I.pin p (List.mem_append_left _ hp), I.hok, I.len⟩
end
section
variable {X : Cx}
/-- a flow in the try's context is one in the context around it -/
theorem SP.back {pins pn' : List (Addr × Obj)} {xe : Value → Shared → Prop} {D : Ends} {fl : Flow} {z : Shared} (ok : X.Ok) (q : SP (X.tr (X.pn ++ pins) xe) pn' D fl z) : SP X pins D fl z := by
  cases fl with
  | ret u => exact let ⟨v1, σ1, H1, J, r, w⟩ := q; ⟨v1, σ1, H1, J.ofTry ok, r, w⟩
  | next => exact let ⟨σ1, H1, J, w⟩ := q; ⟨σ1, H1, J.ofTry ok, w⟩
  | brk => exact let ⟨σ1, H1, J, w⟩ := q; ⟨σ1, H1, J.ofTry ok, w⟩
  | cont => exact let ⟨σ1, H1, J, w⟩ := q; ⟨σ1, H1, J.ofTry ok, w⟩
/-- what is undone behind the suite, by its flow -/
abbrev unD (i : Nat) (D : Ends) : Ends := { nx := fun a b => D.nx (a.set i none) b, rt := D.rt, bk := fun a b => D.bk (a.set i none) b, ct := fun a b => D.ct (a.set i none) b }
/-- the clause 'except x as n' that keeps its exception: what it wishes of one -/
def wTrk (K : PySem.W.Frag) (c : Value) (i : Nat) (ts : TS) (Wout : WX) (D : Ends) : WX := fun k d σ H => ∃ b, PySem.W.exmOne K k c = some b ∧
  (b = true → d = none ∧ ∀ a, H a = none → ts (unD i D) (σ.set i (some (.ref a))) (upd H a (FS.ExcO k a))) ∧ (b = false → Wout k d σ H)
/-- where an exception that is in the air stands apart from all that was ahead of it -/
theorem apart_of {a : Addr} {B : Heap} {sI : Shared} {pins : List (Addr × Obj)} {σ : St} {H : Hp} (J : Inv X pins σ H sI) (hex : X.ex = []) (below : ∀ b o, sI.heap.get? b = some o → b ∉ frs X.stack → B.get? b = some o) (out : a ∉ frs X.stack) (gone : B.get? a = none) :
    X.s_0.heap.get? a = none ∧ (∀ p ∈ X.pn ++ pins, p.1 ≠ a) ∧ ∀ y c, X.env.cells.lookup y = some c → c ≠ a := by
  have nI : sI.heap.get? a = none := Option.eq_none_iff_forall_not_mem.mpr fun o q => by
    have z := below a o q out
    rw [gone] at z
    cases z
  refine ⟨Option.eq_none_iff_forall_not_mem.mpr fun o q => ?_, fun p hp z => ?_, fun y c e z => ?_⟩
  · obtain ⟨u, w⟩ := J.base.there a o q (by rw [hex]; exact List.not_mem_nil)
    rw [nI] at w
    cases w
  · have w := (J.pin p hp).1
    rw [z, nI] at w
    cases w
  · obtain ⟨_, u, w, _⟩ := J.cell y c e
    rw [z, nI] at w
    cases w
theorem ps_try_trk {nm ex : Str} {c : Value} {i : Nat} {body rest : List Stmt} {fst : Stmt} {p1 p2 p3 : Pos} {tb : WX → TS} {ts : TS} {Wout : WX} (hs : X.stack = X.env :: X.outer) (hf : X.env.frame = some X.env.locals) (hex : X.ex = []) (hN : X.N.Nodup)
    (hi : X.N[i]? = some nm) (hl : X.env.kindOf nm = some .local) (hc : Names X ex c) (tk : Takes X Wout)
    (hb : ∀ W pn xe, Takes (X.tr pn xe) W → PassesOwn (model X.prog X.w) X.A X.env xe → PSs (X.tr pn xe) body (tb W)) (hsu : ∀ a pn, PSs (X.suite a pn) (fst :: rest) ts) :
    PS X (.Try body [.ExceptHandler (some (.Name ex p1)) (some nm) (fst :: rest) p2] [] [] p3) (fun D σ H => tb (wTrk X.K c i ts Wout D) D σ H) := by
  refine ⟨fun pins s σ H D I hyp => ?_⟩
  have ok : X.Ok := I.ok
  have fr1 : X.A.frames = some (X.env :: X.outer) := ok.frames.trans (congrArg some hs)
  have thrown : ∀ u z, XE (X.tr (X.pn ++ pins) fun e z1 => wpAny (model X.prog X.w) X.A (noteFrame e X.env) (fun _ z2 => wpAny (model X.prog X.w) X.A (setFlight e none) (fun _ z3 => wpAny (model X.prog X.w) X.A (handleBy e X.env [.ExceptHandler (some (.Name ex p1)) (some nm) (fst :: rest) p2]) (SP X pins D) X.xe z3) X.xe z2) X.xe z1) (wTrk X.K c i ts Wout D) u z →
      wpAny (model X.prog X.w) X.A (noteFrame u X.env) (fun _ z2 => wpAny (model X.prog X.w) X.A (setFlight u none) (fun _ z3 => wpAny (model X.prog X.w) X.A (handleBy u X.env [.ExceptHandler (some (.Name ex p1)) (some nm) (fst :: rest) p2]) (SP X pins D) X.xe z3) X.xe z2) X.xe z := by
    rintro u z ⟨a, B, sI, pins1, σ1, H1, k, d, rfl, J0, below, up, sky, na, os, ag, b, hb1, yes, no⟩
    have J : Inv X pins σ1 H1 sI := J0.ofTry ok
    have sky1 : Sky B (X.env :: X.outer) a (Zc k d) X.env.locals z.heap := hs ▸ sky
    refine Sky.land Zc.steady fr1 hf sky1 fun hA flA upA => ?_
    have JA : Inv X pins σ1 H1 { z with heap := hA } := J.landed below flA.1 (up.trans upA) os ag
    obtain ⟨oA, vA, getA, zA, dA⟩ := flA.there
    have outF : a ∉ frs (X.env :: X.outer) := fun hm => by
      obtain ⟨_, o', w, nf⟩ := flA.2.2.1.mem hm
      rw [getA] at w
      cases w
      exact nf _ dA
    have outS : a ∉ frs X.stack := by rw [hs]; exact outF
    have nL : a ≠ X.env.locals := fun e => outF (List.mem_filterMap.mpr ⟨X.env, List.mem_cons_self, by rw [hf, e]⟩)
    have nF : a ∉ X.fs := fun hm => let ⟨e, he, w⟩ := List.mem_filterMap.mp hm; outF (List.mem_filterMap.mpr ⟨e, List.mem_cons_of_mem _ he, w⟩)
    obtain ⟨n0, nP, nC⟩ := apart_of J hex below outS flA.2.1
    have SA := JA.suite getA dA na nL nF
    refine wpAny_handleBy_cons (codeAny_handlers_test ?_) fun q => nomatch q
    have cls : PySem.W.Looks (model X.prog X.w) hA (typeOf (.ref a)) k := fun _ _ _ _ kk q => wpAny_typeOf_ref (kk _ _ getA) (zA.1.symm ▸ q)
    have known : ∀ {Q : Value → Shared → Prop} {E : Value → Shared → Prop}, Q c { z with heap := hA } → wpAny (model X.prog X.w) (X.A.mark (some (.ref a))) (eval (.Name ex p1) X.env) Q E { z with heap := hA } := fun {Q E} q => by
      rcases hc with ⟨g1, g2, g3 | ⟨g3, g4, g5⟩⟩
      · exact ld_glob (X := X.suite a ((a, oA) :: (X.pn ++ pins))) SA g1 g3 q g2
      · exact ld_blt (X := X.suite a ((a, oA) :: (X.pn ++ pins))) SA g1 g3 g4 q g5 g2
    refine known ((PySem.W.exm_one (M := model X.prog X.w) JA.kIn cls hb1).here ?_)
    rcases b with _ | _
    · show wpAny _ X.A (handleBy (.ref a) X.env []) _ _ _
      refine wpAny_handleBy_nil ?_
      have fly : wpAny (model X.prog X.w) X.A (setFlight (.ref a) X.env.frame) (fun _ z4 => wpAny (model X.prog X.w) X.A (throw (.ref a) : Sem Flow) (SP X pins D) X.xe z4) X.xe { z with heap := hA } := by
        rw [hf]
        refine HandSPX.setFlight_upZ flA fun hB hhB upB => wpAny_throw (tk _ _ ?_)
        exact ⟨a, B, sI, pins, σ1, H1, k, d, rfl, J, below, (up.trans upA).trans upB, .inr (.inr (by rw [hs]; exact hhB)), na, os, ag, no rfl⟩
      obtain ⟨_, _, _, oe, vs, T, _, _, w1, _, w2, w3, _⟩ := id flA
      unfold PySem.passOn
      refine wpAny_bind (wpAny_field w1 w2 w3 ?_)
      rw [if_neg (by simp : ¬ ((Value.ref T == Value.none) = true))]
      first | exact wpAny_bind (wpAny_pure (wpAny_bind fly)) | exact wpAny_bind fly
    · obtain ⟨hd1, yes1⟩ := yes rfl
      subst hd1
      refine codeAny_handlers_suite_as (HandSPX.lands_againZ flA fun hB flB upB => ?_)
      have JB : Inv X pins σ1 H1 { z with heap := hB } := J.landed below flB.1 ((up.trans upA).trans upB) os ag
      obtain ⟨oB, vB, getB, zB, dB⟩ := flB.there
      have SB : Inv (X.suite a (X.pn ++ pins)) [] σ1 (upd H1 a (FS.ExcO k a)) { z with heap := hB } :=
        JB.suiteT na nL n0 nP nC ⟨⟨oB, vB, getB, zB, dB⟩, ⟨_, getB⟩, fun _ _ ⟨o1, v1, g1, g2, g3⟩ kk => ⟨o1, v1, kk _ g1, g2, g3⟩⟩
      refine store_ok (X := X.suite a (X.pn ++ pins)) (v := .ref a) SB hN hi (.inl hl) rfl (fun z5 S5 => ?_) (.inr hl)
      refine wpAny_mono ((hsu a (X.pn ++ pins)).run [] z5 _ _ _ S5 (yes1 a na)) (fun fl z6 q => ?_) fun _ _ e => e.elim
      have gone : ∀ {σ6 : St} {H6 : Hp} {Q : Shared → Prop}, Inv (X.suite a (X.pn ++ pins)) [] σ6 H6 z6 → (∀ z7, Inv X pins (σ6.set i none) H6 z7 → Q z7) →
          wpAny (model X.prog X.w) X.A (do bindName X.env nm .none; unbindBehindTheSuite X.env nm p2) (fun _ z7 => Q z7) X.xe z6 := fun S6 hq => gone_ok (S6.unsuiteT ok) hN hi hl hq
      cases fl with
      | ret u => exact let ⟨_, _, _, S6, r, w⟩ := q; gone S6 fun z7 J7 => ⟨_, _, _, J7, r, w⟩
      | next => exact let ⟨_, _, S6, w⟩ := q; gone S6 fun z7 J7 => ⟨_, _, J7, w⟩
      | brk => exact let ⟨_, _, S6, w⟩ := q; gone S6 fun z7 J7 => ⟨_, _, J7, w⟩
      | cont => exact let ⟨_, _, S6, w⟩ := q; gone S6 fun z7 J7 => ⟨_, _, J7, w⟩
  refine wpAny_Try_except (wpAny_mono ((hb (wTrk X.K c i ts Wout D) (X.pn ++ pins) _ thrown PassesOwn.looking).run [] s σ H D (I.toTry _) hyp) (fun fl z q => ?_) fun _ _ e => e)
  have q1 := SP.back ok q
  cases fl
  · exact wpAny_execs_nil q1
  · exact q1
  · exact q1
  · exact q1
end
end L2

set_option Elab.async false
set_option linter.all false
set_option maxRecDepth 100000
/-! FS: part 13: statements. -/
namespace FS
open PySem PySem.Spec PyProof.Rows L2

def QS (K : PySem.W.Frag) (mg : Str → Option Value) (ι : List Addr) (H : Hp) (D : Ends) (W : WX) : RS → Prop
  | .ok (.nx δ) m => ∀ ι' H' σ', Ext K ι H ι' H' → HR K mg ι' m H' → SR K ι' H' δ σ' → D.nx σ' H'
  | .ok (.rt d) m => ∀ ι' H' v, Ext K ι H ι' H' → HR K mg ι' m H' → VR K ι' H' d v → D.rt v H'
  | .ok (.bk δ) m => ∀ ι' H' σ', Ext K ι H ι' H' → HR K mg ι' m H' → SR K ι' H' δ σ' → D.bk σ' H'
  | .ok (.ct δ) m => ∀ ι' H' σ', Ext K ι H ι' H' → HR K mg ι' m H' → SR K ι' H' δ σ' → D.ct σ' H'
  | .exc c δ m => ∀ ι' H' σ' cls, Ext K ι H ι' H' → HR K mg ι' m H' → SR K ι' H' δ σ' → mg c = some cls → W cls none σ' H'
  | .stuck => False
def tS (K : PySem.W.Frag) (mg : Str → Option Value) (x : Cn) (W : WX) (s : S) : TS := fun D σ H => ∃ ι m δ, HR K mg ι m H ∧ SR K ι H δ σ ∧ QS K mg ι H D W (exS x s δ m)
def tSs (K : PySem.W.Frag) (mg : Str → Option Value) (x : Cn) (W : WX) (s : Ss) : TS := fun D σ H => ∃ ι m δ, HR K mg ι m H ∧ SR K ι H δ σ ∧ QS K mg ι H D W (exSs x s δ m)

section
variable {K : PySem.W.Frag} {mg : Str → Option Value} {ι ι' : List Addr} {H H' : Hp} {D : Ends} {W : WX} {r : RS} {m : M} {δ : Sl} {σ : St}
theorem QS.mono (e : Ext K ι H ι' H') (h : QS K mg ι H D W r) : QS K mg ι' H' D W r := by
  cases r with
  | ok f m => cases f <;> exact fun a b c z => h a b c (e.trans z)
  | exc c δ m => exact fun a b c d z => h a b c d (e.trans z)
  | stuck => exact h
theorem QS.to {α β : Type} {rel : List Addr → Hp → α → β → Prop} {q : R α} {f : α → M → RS} (hs : SR K ι H δ σ) (h : QS K mg ι H D W (q.to δ f)) :
    QR K mg rel ι H (fun b H1 => ∃ ι1 m1 a, q = .ok a m1 ∧ Ext K ι H ι1 H1 ∧ HR K mg ι1 m1 H1 ∧ rel ι1 H1 a b ∧ QS K mg ι1 H1 D W (f a m1)) (At W σ) q := by
  cases q with
  | ok a m => exact fun ι2 H2 b x y z => ⟨ι2, m, a, rfl, x, y, z, QS.mono x h⟩
  | exc c m => exact fun ι2 H2 cls x y z => h ι2 H2 σ cls x y (hs.mono x) z
  | stuck => exact h
end

section
variable {t : Tb} {n : Nat} {x : Cn} {g : Gm} {X : Cx} {W : WX}
/-- .. of a statement's context -/
structure Gs (t : Tb) (x : Cn) (g : Gm) (X : Cx) : Prop where
  d : Gd t x g X
  po : PassesOwn (model X.prog X.w) X.A X.env X.xe
  stk : X.stack = X.env :: X.outer
  fr : X.env.frame = some X.env.locals
  ex : X.ex = []
  kind : X.env.scope.kind = .function
  oc : g.oc = g.N
theorem Gs.tr (G : Gs t x g X) {pn : List (Addr × Obj)} {xe : Value → Shared → Prop} (po : PassesOwn (model X.prog X.w) X.A X.env xe) : Gs t x g (X.tr pn xe) :=
  ⟨⟨G.d.N, G.d.nd, G.d.sc, G.d.oc, G.d.calm, G.d.un, fun f hf => let ⟨fa, fd, ps, k, C⟩ := G.d.call f hf; ⟨fa, fd, ps, k, ⟨C.fn, C.np, C.rm, C.mg, C.kp, C.bd⟩⟩, G.d.glob, G.d.blt, G.d.sub,
    G.d.cls, fun c hc => ⟨(G.d.rcl c hc).ex⟩, G.d.nmN, G.d.nmF⟩, po, G.stk, G.fr, G.ex, G.kind, G.oc⟩
theorem PS.imp {s : Stmt} {t t' : TS} (h : PS X s t) (q : ∀ D σ H, t' D σ H → t D σ H) : PS X s t' := ⟨fun pins z σ H D I w => h.run pins z σ H D I (q D σ H w)⟩
theorem PSs.imp {s : List Stmt} {t t' : TS} (h : PSs X s t) (q : ∀ D σ H, t' D σ H → t D σ H) : PSs X s t' := ⟨fun pins z σ H D I w => h.run pins z σ H D I (q D σ H w)⟩
theorem PG.or {e : Expr} {g1 g2 : TG} (h1 : PG X e g1) (h2 : PG X e g2) : PG X e fun v σ H Q => g1 v σ H Q ∨ g2 v σ H Q := ⟨fun pins s σ H v u Q I r h => h.elim (h1.run pins s σ H v u Q I r) (h2.run pins s σ H v u Q I r)⟩

theorem sw_of {e : Expr} (h : isComp e = false) (tg : Option Expr) (l : Nat) (env : Env) : swapsWith e tg l env = pure false := by
  cases e <;> first | rfl | (cases h)
theorem sw_tr {k : Nat} {e : Expr} {ir : E} (h : trE t k g e = some ir) {es : List Expr} {k2 : Nat} {p : Pos} (l : Nat) (env : Env) : swapsWithSole [.Tuple es k2 p] e l env = pure false := by
  cases k with
  | zero => simp [trE] at h
  | succ k => cases e <;> first | rfl | (simp [trE] at h)
theorem sw_tr2 {k : Nat} {e : Expr} {ir : E} (h : trE t k g e = some ir) {a i : Expr} {p : Pos} (l : Nat) (env : Env) : swapsWithSole [.Subscript a i p] e l env = pure false := by
  cases k with
  | zero => simp [trE] at h
  | succ k => cases e <;> first | rfl | (simp [trE] at h)
theorem stores_of {e : Expr} (h : ∀ es k p, e ≠ .Tuple es k p) (es : List Expr) (k : Nat) (p : Pos) (env : Env) : swappedStores [.Tuple es k p] e env = pure none := by
  cases e <;> first | rfl | exact absurd rfl (h _ _ _)
theorem stores_sub (a i e : Expr) (p : Pos) (env : Env) : swappedStores [.Subscript a i p] e env = pure none := rfl

/-! ### stores -/
theorem set_rd {e : E} {i : Nat} {D : Ends} {σ : St} {H : Hp} {K : PySem.W.Frag} {mg : Str → Option Value} (h : tS K mg x W (.set i e) D σ H) : tAsg (tE K mg x W e) (gName i) D σ H := by
  obtain ⟨ι, m, δ, hr, hs, q⟩ := h
  simp only [exS] at q
  exact ⟨ι, m, δ, hr, hs, (QS.to hs q).imp fun v H1 ⟨ι1, m1, d, _, x1, hr1, r1, q1⟩ => q1 ι1 H1 _ Ext.refl hr1 ((hs.mono x1).set i r1)⟩
theorem ps_name (ihe : Snd t n) {y : Str} {py p : Pos} {e : Expr} {i : Nat} {e' : E} (hi : tgt g y = some i) (he : trE t n g e = some e') (hc : isComp e = false) (G : Gs t x g X) (tk : Takes X W) : PS X (.Assign [.Name y py] e p) (tS X.K X.mg x W (.set i e')) := by
  obtain ⟨h1, h2, h3⟩ := G.d.tgt hi
  exact PS.imp (ps_set G.d.ndX h1 h2 (ihe.e he G.d tk) (sw_of hc _ _ _) h3) fun D σ H q => set_rd q
theorem ps_comp (ih : ∀ k, Snd t k) {y : Str} {py sp q : Pos} {elt : Expr} {gs : List Comprehension} {scope : Scope} {i : Nat} {e' : E} (hi : tgt g y = some i) (he : trE t n g (.ListComp elt gs scope q) = some e') (hl : (py.line == q.line) = true)
    (hy : g.sc.names.lookup y = some .local) (ha : (scope.names.any fun (n, k) => n == y && (k == .local || k == .cell)) = false) (G : Gs t x g X) (tk : Takes X W) : PS X (.Assign [.Name y py] (.ListComp elt gs scope q) sp) (tS X.K X.mg x W (.set i e')) := by
  cases n with
  | zero => simp [trE] at he
  | succ n =>
    obtain ⟨tg, iter, ifs, wi, gg, tt, te, own, rfl, hit, ok, hg, ht, hel, hs, rd⟩ := snd_comp0 (ih n) he G.d tk
    obtain ⟨h1, h2, h3⟩ := G.d.tgt hi
    have hyl : X.env.scope.names.lookup y = some .local := by rw [G.d.sc]; exact hy
    refine PS.imp (ps_setLc (i := i) G.d.calm G.d.ndX h1 hyl (sw_true G.kind hyl hl ha) hit ok hg ht hel hs) fun D σ H q => ?_
    exact rd σ H _ (set_rd q)
theorem ps_unp (ihe : Snd t n) {es : List Expr} {k : Nat} {pt p : Pos} {e : Expr} {is : List Nat} {e' : E} (hi : tgts g es = some is) (he : trE t n g e = some e') (hne : ∀ es k p, e ≠ .Tuple es k p) (G : Gs t x g X) (tk : Takes X W) :
    PS X (.Assign [.Tuple es k pt] e p) (tS X.K X.mg x W (.unp is e')) := by
  obtain ⟨q1, q2, q3⟩ := pgs_of G.d hi
  refine PS.imp (ps_asg (ihe.e he G.d tk) (PG.or (pg_tup G.d.calm q1 q2 q3) (pg_lst G.d.calm q1 q2 q3)) (sw_tr he _ _) (stores_of hne _ _ _ _)) fun D σ H h => ?_
  obtain ⟨ι, m, δ, hr, hs, q⟩ := h
  simp only [exS] at q
  refine ⟨ι, m, δ, hr, hs, (QS.to hs q).imp fun v H1 ⟨ι1, m1, d, _, x1, hr1, r1, q1⟩ => ?_⟩
  cases e1 : unpk m1 d with
  | none => rw [e1] at q1; exact q1.elim
  | some ds =>
    simp only [e1, Option.bind_some] at q1
    cases e2 : setAll is ds δ with
    | none => rw [e2] at q1; exact q1.elim
    | some δ' =>
      rw [e2] at q1
      have fin : ∀ {vs : List V}, VRs X.K ι1 H1 ds vs → gNs is vs σ H1 D.nx ∧ vs.length = is.length := fun hv => gNs_of e2 hv (hs.mono x1) fun σ' s' _ => q1 ι1 H1 σ' Ext.refl hr1 s'
      cases d with
      | tup xs =>
        simp only [unpk] at e1; cases e1
        simp only [VR] at r1
        obtain ⟨a, vs, rfl, hA, hv⟩ := r1
        obtain ⟨z1, z2⟩ := fin hv
        exact .inl ⟨a, vs, rfl, hA, z2, z1⟩
      | loc j =>
        simp only [unpk] at e1
        simp only [VR] at r1
        obtain ⟨a, ha, rfl⟩ := r1
        obtain ⟨vs, hA, hv⟩ := itemsAt hr1 ha e1
        obtain ⟨z1, z2⟩ := fin hv
        exact .inr ⟨a, vs, rfl, hA, z2, z1⟩
      | _ => simp [unpk] at e1
theorem ps_putF (ihe : Snd t n) {a i e : Expr} {ps p : Pos} {a' i' e' : E} (he : trE t n g e = some e') (ha : trE t n g a = some a') (hi : trE t n g i = some i') (G : Gs t x g X) (tk : Takes X W) :
    PS X (.Assign [.Subscript a i ps] e p) (tS X.K X.mg x W (.put a' i' e')) := by
  have hasg : ∀ v, assign (.Subscript a i ps) X.env v = (do
      let ov ← holding [v] (eval a X.env)
      let iv ← holding [v, ov] (eval i X.env)
      standAt ps
      holding [v, ov, iv] (setItem ov iv v)
      release [v, ov, iv] []) := by
    intro v
    cases n with
    | zero => simp [trE] at hi
    | succ n => cases i <;> first | rfl | (simp [trE] at hi)
  refine PS.imp (ps_asg (ihe.e he G.d tk) (pg_sub (ihe.e ha G.d tk) (ihe.e hi G.d tk) set_F hasg) (sw_tr2 he _ _) (stores_sub _ _ _ _ _)) fun D σ H h => ?_
  obtain ⟨ι, m, δ, hr, hs, q⟩ := h
  simp only [exS] at q
  refine ⟨ι, m, δ, hr, hs, (QS.to hs q).imp fun v H1 ⟨ι1, m1, d, _, x1, hr1, r1, q1⟩ => ⟨ι1, m1, δ, hr1, hs.mono x1, (QS.to (hs.mono x1) q1).imp fun o H2 ⟨ι2, m2, l, _, x2, hr2, r2, q2⟩ =>
    ⟨ι2, m2, δ, hr2, (hs.mono x1).mono x2, (QS.to ((hs.mono x1).mono x2) q2).imp fun k H3 ⟨ι3, m3, j, _, x3, hr3, r3, q3⟩ => ?_⟩⟩⟩
  split at q3
  · rename_i m4 e4
    exact ⟨ι3, m3, l, j, d, m4, hr3, VR.mono x3 _ _ r2, r3, VR.mono x3 _ _ (VR.mono x2 _ _ r1), e4, fun H4 x4 hr4 => q3 ι3 H4 σ x4 hr4 ((((hs.mono x1).mono x2).mono x3).mono x4)⟩
  · exact q3.elim
theorem nb_of {k : Nat} {e : Expr} {ir : E} (h : trE t k g e = some ir) : ∀ v p, e ≠ .Starred v p := by
  cases k with
  | zero => simp [trE] at h
  | succ k => cases e <;> first | (intro _ _ z; cases z; done) | (simp [trE] at h)
theorem ps_two (ihe : Snd t n) {y z : Str} {px py pt pt2 p : Pos} {kt k2 : Nat} {a b : Expr} {i j : Nat} {a' b' : E} (hi : tgt g y = some i) (hj : tgt g z = some j) (hij : i ≠ j) (ha : trE t n g a = some a') (hb : trE t n g b = some b') (hl : (px.line == py.line) = true)
    (hy : g.sc.names.lookup y = some .local) (hz : g.sc.names.lookup z = some .local) (hf : [a, b].all (foldedForSure 8) = false) (hk : [a, b].all (constantsAlone 8) = false) (G : Gs t x g X) (tk : Takes X W) :
    PS X (.Assign [.Tuple [.Name y px, .Name z py] kt pt] (.Tuple [a, b] k2 pt2) p) (tS X.K X.mg x W (.par i j a' b')) := by
  obtain ⟨h1, _, _⟩ := G.d.tgt hi
  obtain ⟨h4, _, _⟩ := G.d.tgt hj
  have hyl : X.env.scope.names.lookup y = some .local := by rw [G.d.sc]; exact hy
  have hzl : X.env.scope.names.lookup z = some .local := by rw [G.d.sc]; exact hz
  have hyz : y ≠ z := fun e => by
    subst e
    rw [hi] at hj
    exact hij (Option.some.inj hj)
  have ky : X.env.kindOf y = some .local := hyl
  have kz : X.env.kindOf z = some .local := hzl
  have bk : X.env.blockKind = .function := by unfold Env.blockKind; rw [G.kind]; rfl
  have hw : swappedStores [.Tuple [.Name y px, .Name z py] kt pt] (.Tuple [a, b] k2 pt2) X.env = pure (some [y, z]) := by
    unfold swappedStores
    have hlz : (py.line == px.line) = true := by rw [beq_iff_eq] at hl ⊢; exact hl.symm
    have ed : [y, z].eraseDups = [y, z] := by
      have hzy : (z == y) = false := beq_eq_false_iff_ne.mpr (Ne.symm hyz)
      simp [List.eraseDups_cons, hzy]
    simp only [Expr.pos, List.filterMap_cons, List.filterMap_nil, ky, kz, List.head?_cons, Option.map_some, Option.getD_some, bk, hf, hk, hlz]
    simp [ed]
    intro hh
    exfalso
    have st : ∀ e : Expr, (match e with | .Starred .. => true | _ => false) = true → ∃ v p, e = .Starred v p := fun e => by
      cases e <;> first | (intro z; cases z; done) | exact fun _ => ⟨_, _, rfl⟩
    rcases hh with hh | hh
    · obtain ⟨v, p, e⟩ := st a hh
      exact nb_of ha v p e
    · obtain ⟨v, p, e⟩ := st b hh
      exact nb_of hb v p e
  refine PS.imp (ps_par G.d.calm G.d.ndX h1 h4 hij hyl hzl (pa_cons (ihe.e ha G.d tk) (pa_cons (ihe.e hb G.d tk) pa_nil (star_of hb)) (star_of ha)) hw) fun D σ H h => ?_
  obtain ⟨ι, m, δ, hr, hs, q⟩ := h
  simp only [exS] at q
  exact ⟨ι, m, δ, hr, hs, (QS.to hs q).imp fun v H1 ⟨ι1, m1, d, _, x1, hr1, r1, q1⟩ => ⟨ι1, m1, δ, hr1, hs.mono x1, (QS.to (hs.mono x1) q1).imp fun u H2 ⟨ι2, m2, e, _, x2, hr2, r2, q2⟩ =>
    ⟨v, u, rfl, q2 ι2 H2 _ Ext.refl hr2 ((((hs.mono x1).mono x2).set i (VR.mono x2 _ _ r1)).set j r2)⟩⟩⟩
end
end FS

set_option Elab.async false
set_option linter.all false
set_option maxRecDepth 100000
/-! FS: part 14: statements, by induction. -/
namespace FS
open PySem PySem.Spec PyProof.Rows L2

section
variable {t : Tb} {n : Nat} {x : Cn} {g : Gm} {X : Cx} {W : WX} {K : PySem.W.Frag} {mg : Str → Option Value}

theorem QS.andThen {ι : List Addr} {H : Hp} {D : Ends} {r : RS} {f : Sl → M → RS} (h : QS K mg ι H D W (r.andThen f)) :
    QS K mg ι H { D with nx := fun σ' H' => ∃ ι' m δ, Ext K ι H ι' H' ∧ HR K mg ι' m H' ∧ SR K ι' H' δ σ' ∧ QS K mg ι' H' D W (f δ m) } W r := by
  cases r with
  | ok fl m =>
    cases fl with
    | nx δ => exact fun ι' H' σ' e hr hs => ⟨ι', m, δ, e, hr, hs, QS.mono e h⟩
    | rt d => exact h
    | bk δ => exact h
    | ct δ => exact h
  | exc c δ m => exact h
  | stuck => exact h
/-- suites of an except clause -/
theorem snd_h : ∀ {n : Nat} {g : Gm} {ss : List Stmt} {ir : Ss} {X : Cx}, trH t n g ss = some ir → X.N = g.N → g.N.Nodup → X.env.scope = g.sc → (∀ y ∈ g.oc, X.fn y = true) → (∀ y ∈ g.N, okName y = true) → PSs X ss (tSs X.K X.mg x W ir)
  | 0, _, _, _, _, h, _, _, _, _, _ => by simp [trH] at h
  | n + 1, g, [], ir, X, h, _, _, _, _, _ => by
    simp only [trH] at h; cases h
    refine PSs.imp pss_nil ?_
    rintro D σ H ⟨ι, m, δ, hr, hs, q⟩
    simp only [exSs] at q
    exact q ι H σ Ext.refl hr hs
  | n + 1, g, s :: ss, ir, X, h, hN, nd, hsc, hoc, hnm => by
    have tg : ∀ {y i}, tgt g y = some i → X.N[i]? = some y ∧ L2.Loc X.env.scope y ∧ (X.fn y = true ∨ X.env.scope.names.lookup y = some .local) := fun {y i} h => by
      unfold FS.tgt at h
      unfold L2.Loc
      rw [hsc, hN]
      split at h
      · exact ⟨slot_at h, .inl (by assumption), .inr (by assumption)⟩
      · split at h
        · exact ⟨slot_at h, .inr (by assumption), .inl (hoc _ (by assumption))⟩
        · cases h
      · cases h
    have ndX : X.N.Nodup := by rw [hN]; exact nd
    have fin : ∀ {i : Nat} {e : E} {ss' : Ss} {s : Stmt}, PS X s (tS X.K X.mg x W (.set i e)) → PSs X ss (tSs X.K X.mg x W ss') → PSs X (s :: ss) (tSs X.K X.mg x W (.cons (.set i e) ss')) := fun {i e ss' s} h1 h2 => by
      refine PSs.imp (pss_cons h1 h2) ?_
      rintro D σ H ⟨ι, m, δ, hr, hs, q⟩
      simp only [exSs] at q
      refine ⟨ι, m, δ, hr, hs, ?_⟩
      have := QS.andThen q
      revert this
      cases exS x (S.set i e) δ m with
      | ok fl m =>
        cases fl with
        | nx δ => exact fun q ι' H' σ' e hr hs => let ⟨ι2, m2, δ2, _, a, b, c⟩ := q ι' H' σ' e hr hs; ⟨ι2, m2, δ2, a, b, c⟩
        | rt d => exact id
        | bk δ => exact id
        | ct δ => exact id
      | exc c δ m => exact id
      | stuck => exact id
    by_cases h1 : ∃ y py z pz p, s = .Assign [.Name y py] (.Name z pz) p
    · obtain ⟨y, py, z, pz, p, rfl⟩ := h1
      simp only [trH] at h
      split at h
      · rename_i hv
        obtain ⟨i, hi, h⟩ := bnd2 h
        obtain ⟨j, hj, h⟩ := bnd2 h
        obtain ⟨ss', hs, rfl⟩ := mp2 h
        obtain ⟨q1, q2, q3⟩ := tg hi
        have hvz : Vis X.env.scope z := by
          unfold FS.vis at hv
          unfold Vis
          rw [hsc]
          split at hv
          · exact .inl (by assumption)
          · exact .inr (.inl (by assumption))
          · exact .inr (.inr (by assumption))
          · cases hv
        have okz := hnm z (List.mem_of_getElem? (slot_at hj))
        refine fin (PS.imp (ps_set ndX q1 q2 (pe_var (i := j) (by rw [hN]; exact slot_at hj) hvz (ok_dbg okz) (ok_cd okz)) rfl q3) ?_) (snd_h hs hN nd hsc hoc hnm)
        rintro D σ H ⟨ι, m, δ, hr, hs, q⟩
        simp only [exS, ev] at q
        cases e1 : δ[j]? with
        | none => rw [e1] at q; exact q.elim
        | some o =>
          rw [e1] at q
          cases o with
          | none => exact q.elim
          | some d =>
            obtain ⟨v, r1, r2⟩ := hs.at_ j d e1
            exact ⟨v, r1, q ι H _ Ext.refl hr (hs.set i r2)⟩
      · cases h
    · by_cases h2 : ∃ y py c k pc p, s = .Assign [.Name y py] (.Constant c k pc) p
      · obtain ⟨y, py, c, k, pc, p, rfl⟩ := h2
        simp only [trH] at h
        obtain ⟨i, hi, h⟩ := bnd2 h
        obtain ⟨d, hd, h⟩ := bnd2 h
        obtain ⟨ss', hs, rfl⟩ := mp2 h
        obtain ⟨q1, q2, q3⟩ := tg hi
        have go : ∀ {v : V} {te : TE}, PE X (.Constant c k pc) te → te = tC v → (∀ ι H, VR X.K ι H d v) → PSs X (.Assign [.Name y py] (.Constant c k pc) p :: ss) (tSs X.K X.mg x W (.cons (.set i (.con d)) ss')) := fun {v te} pe et hv => by
          subst et
          refine fin (PS.imp (ps_set ndX q1 q2 pe rfl q3) ?_) (snd_h hs hN nd hsc hoc hnm)
          rintro D σ H ⟨ι, m, δ, hr, hs, q⟩
          simp only [exS, ev] at q
          exact q ι H _ Ext.refl hr (hs.set i (hv ι H))
        cases c with
        | none => cases hd; exact go pe_non rfl fun _ _ => by simp only [VR]
        | bool b => cases hd; exact go pe_bl rfl fun _ _ => by simp only [VR]
        | int b => cases hd; exact go pe_int rfl fun _ _ => by simp only [VR]
        | str b => cases hd; exact go pe_str rfl fun _ _ => by simp only [VR]
        | _ => cases hd
      · exfalso
        cases s with
        | Assign ts e p =>
          match ts, e, h, h1, h2 with
          | [.Name y py], .Name z pz, _, h1, _ => exact h1 ⟨y, py, z, pz, p, rfl⟩
          | [.Name y py], .Constant c k pc, _, _, h2 => exact h2 ⟨y, py, c, k, pc, p, rfl⟩
          | [], e, h, _, _ => simp [trH] at h
          | a :: b :: r, e, h, _, _ => simp [trH] at h
          | [a], e, h, h1, h2 =>
            cases a <;> first | (simp [trH] at h; done) | skip
            cases e <;> first | (simp [trH] at h; done) | skip
            · exact h2 ⟨_, _, _, _, _, _, rfl⟩
            · exact h1 ⟨_, _, _, _, _, rfl⟩
        | _ => simp [trH] at h

/-! ### loops -/
theorem while_rd {c : T} {b : Ss} {D : Ends} {σ : St} {H : Hp} (h : tS K mg x W (.loop c b) D σ H) : tWhile (tT K mg x W c) (tSs K mg x W b) D σ H := by
  obtain ⟨ι, m, δ, hr, hs, q⟩ := h
  simp only [exS] at q
  refine ⟨fun k σ H => ∃ ι m δ, HR K mg ι m H ∧ SR K ι H δ σ ∧ QS K mg ι H D W (whileF (fun σ' m' => evT x c σ' m') (fun σ' m' => exSs x b σ' m') k δ m), ⟨fuel, ι, m, δ, hr, hs, q⟩, ?_⟩
  rintro k σ H ⟨ι, m, δ, hr, hs, q⟩
  cases k with
  | zero => exact q.elim
  | succ k =>
    simp only [whileF] at q
    refine ⟨ι, m, δ, hr, hs, (QS.to hs q).imp fun t H1 ⟨ι1, m1, t', _, x1, hr1, r1, q1⟩ => ?_⟩
    subst r1
    cases t' with
    | false =>
      rw [if_neg Bool.false_ne_true] at q1 ⊢
      exact q1 ι1 H1 σ Ext.refl hr1 (hs.mono x1)
    | true =>
      rw [if_pos rfl] at q1 ⊢
      refine ⟨fun σ' H' => ∃ ι m δ, HR K mg ι m H' ∧ SR K ι H' δ σ' ∧ QS K mg ι H' D W (whileF (fun σ' m' => evT x c σ' m') (fun σ' m' => exSs x b σ' m') k δ m), fun σ' H' z => ⟨k, Nat.lt_succ_self k, z⟩, ι1, m1, δ, hr1, hs.mono x1, ?_⟩
      cases e : exSs x b δ m1 with
      | stuck => rw [e] at q1; exact q1.elim
      | exc c δ2 m2 => rw [e] at q1; exact q1
      | ok f m2 =>
        rw [e] at q1
        cases f with
        | nx δ2 => exact fun ι' H' σ' e hr hs => ⟨ι', m2, δ2, hr, hs, QS.mono e q1⟩
        | ct δ2 => exact fun ι' H' σ' e hr hs => ⟨ι', m2, δ2, hr, hs, QS.mono e q1⟩
        | bk δ2 => exact q1
        | rt d => exact q1
theorem for_rd {it : It} {tg : Tg} {b : Ss} {D : Ends} {σ : St} {H : Hp} (h : tS K mg x W (.iter it tg b) D σ H) : tFor (tI K mg x W it) (gT K tg) (tSs K mg x W b) D σ H := by
  obtain ⟨ι, m, δ, hr, hs, q⟩ := h
  simp only [exS] at q
  refine ⟨ι, m, δ, hr, hs, (QS.to (rel := fun ι H => WR K mg ι H) hs q).imp fun J H1 ⟨ι1, m1, w, _, x1, hr1, wr, q1⟩ => ?_⟩
  refine ⟨fun i k σ H => k = w.ds.length - i ∧ i ≤ w.ds.length ∧ ∃ ι m δ, Ext K ι1 H1 ι H ∧ HR K mg ι m H ∧ SR K ι H δ σ ∧ QS K mg ι H D W (loopF w.stay tg (fun σ' m' => exSs x b σ' m') (w.ds.drop i) δ m),
    ⟨w.ds.length, by omega, Nat.zero_le _, ι1, m1, δ, Ext.refl, hr1, hs.mono x1, by rw [List.drop_zero]; exact q1⟩, ?_⟩
  rintro i k σ H ⟨rfl, hi, ι, m, δ, xa, hr, hs, q⟩
  by_cases hlt : i < w.ds.length
  · have e1 : w.ds.drop i = w.ds[i] :: w.ds.drop (i + 1) := List.drop_eq_getElem_cons hlt
    rw [e1] at q
    simp only [loopF] at q
    split at q
    · rename_i hst
      cases ha : asgF tg w.ds[i] δ with
      | none => rw [ha] at q; exact q.elim
      | some δ1 =>
        rw [ha] at q
        simp only at q
        obtain ⟨_, hit⟩ := wr i ι m H xa hr hst
        obtain ⟨go, hy⟩ := hit w.ds[i] (List.getElem?_eq_getElem hlt)
        refine .inr ⟨go, fun σ' H' => ∃ ι m δ, Ext K ι1 H1 ι H' ∧ HR K mg ι m H' ∧ SR K ι H' δ σ' ∧ QS K mg ι H' D W (loopF w.stay tg (fun σ' m' => exSs x b σ' m') (w.ds.drop (i + 1)) δ m),
          fun σ' H' z => ⟨w.ds.length - (i + 1), by omega, rfl, hlt, z⟩, fun v H' yv => ?_⟩
        obtain ⟨ι', xe, hr', hv⟩ := hy v H' yv
        refine gT_of ha hv (hs.mono xe) fun σ2 hs2 _ => ⟨ι', m, δ1, hr', hs2, ?_⟩
        have q := QS.mono xe q
        cases e : exSs x b δ1 m with
        | stuck => rw [e] at q; exact q.elim
        | exc c δ2 m2 => rw [e] at q; exact q
        | ok f m2 =>
          rw [e] at q
          cases f with
          | nx δ2 => exact fun ι2 H2 σ' e hr hs => ⟨ι2, m2, δ2, (xa.trans xe).trans e, hr, hs, QS.mono e q⟩
          | ct δ2 => exact fun ι2 H2 σ' e hr hs => ⟨ι2, m2, δ2, (xa.trans xe).trans e, hr, hs, QS.mono e q⟩
          | bk δ2 => exact q
          | rt d => exact q
    · exact q.elim
  · have e1 : i = w.ds.length := by omega
    rw [List.drop_of_length_le (by omega)] at q
    simp only [loopF] at q
    split at q
    · rename_i hst
      obtain ⟨hstop, _⟩ := wr i ι m H xa hr hst
      exact .inl ⟨hstop e1, q ι H σ Ext.refl hr hs⟩
    · exact q.elim
end
end FS

set_option Elab.async false
set_option linter.all false
set_option maxRecDepth 100000
/-! FS: part 15: statements: the theorem. -/
namespace FS
open PySem PySem.Spec PyProof.Rows L2

section
variable {t : Tb} {n : Nat} {x : Cn} {g : Gm} {X : Cx} {W : WX} {K : PySem.W.Frag} {mg : Str → Option Value}

structure SndS (t : Tb) (n : Nat) : Prop where
  s : ∀ {g : Gm} {s : Stmt} {ir : S} {X : Cx} {x : Cn} {W : WX}, trS t n g s = some ir → Gs t x g X → Takes X W → PS X s (tS X.K X.mg x W ir)
  ss : ∀ {g : Gm} {s : List Stmt} {ir : Ss} {X : Cx} {x : Cn} {W : WX}, trSs t n g s = some ir → Gs t x g X → Takes X W → PSs X s (tSs X.K X.mg x W ir)

theorem snd_ss (ih : SndS t n) {ss : List Stmt} {ir : Ss} (h : trSs t (n + 1) g ss = some ir) (G : Gs t x g X) (tk : Takes X W) : PSs X ss (tSs X.K X.mg x W ir) := by
  cases ss with
  | nil =>
    simp only [trSs] at h; cases h
    refine PSs.imp pss_nil ?_
    rintro D σ H ⟨ι, m, δ, hr, hs, q⟩
    simp only [exSs] at q
    exact q ι H σ Ext.refl hr hs
  | cons s ss =>
    simp only [trSs] at h
    obtain ⟨s', h1, h⟩ := bnd2 h
    obtain ⟨ss', h2, rfl⟩ := mp2 h
    refine PSs.imp (pss_cons (ih.s h1 G tk) (ih.ss h2 G tk)) ?_
    rintro D σ H ⟨ι, m, δ, hr, hs, q⟩
    simp only [exSs] at q
    refine ⟨ι, m, δ, hr, hs, ?_⟩
    have := QS.andThen q
    revert this
    cases exS x s' δ m with
    | ok fl m =>
      cases fl with
      | nx δ => exact fun q ι' H' σ' e hr hs => let ⟨ι2, m2, δ2, _, a, b, c⟩ := q ι' H' σ' e hr hs; ⟨ι2, m2, δ2, a, b, c⟩
      | rt d => exact id
      | bk δ => exact id
      | ct δ => exact id
    | exc c δ m => exact id
    | stuck => exact id

theorem undo_QS {ι : List Addr} {H : Hp} {i : Nat} {D : Ends} {r : RS} (h : QS K mg ι H D W (r.undo i)) : QS K mg ι H (unD i D) W0 r := by
  cases r with
  | ok f m =>
    cases f with
    | nx δ => exact fun ι' H' σ' e hr hs => h ι' H' _ e hr (hs.unset i)
    | bk δ => exact fun ι' H' σ' e hr hs => h ι' H' _ e hr (hs.unset i)
    | ct δ => exact fun ι' H' σ' e hr hs => h ι' H' _ e hr (hs.unset i)
    | rt d => exact h
  | exc c δ m => exact h.elim
  | stuck => exact h.elim
theorem snd_raise {c : Str} {m : Str} {fp p1 p2 p : Pos} {k : Nat} (hg : isGl g.sc c = true) (hc : c ∈ t.rcl) (G : Gs t x g X) (tk : Takes X W) :
    PS X (.Raise (some (.Call (.Name c fp) [.Constant (.str m) k p1] [] p2)) none p) (tS X.K X.mg x W (.raise c)) := by
  obtain ⟨C, B, newId, initId, bmB, h1, h2, h3, h4, h5⟩ := (G.d.rcl c hc).ex
  refine PS.imp (ps_raise G.d.calm tk (pmk_own h2 h3 h1 h4 h5 (G.d.gl hg) (ok_dbg (G.d.okR hc)))) ?_
  rintro D σ H ⟨ι, m, δ, hr, hs, q⟩
  simp only [exS] at q
  exact q ι H σ _ Ext.refl hr hs h1
theorem snd_try (ih : SndS t n) {b : List Stmt} {hs : List ExceptHandler} {p : Pos} {ir : S} (h : trS t (n + 1) g (.Try b hs [] [] p) = some ir) (G : Gs t x g X) (tk : Takes X W) :
    PS X (.Try b hs [] [] p) (tS X.K X.mg x W ir) := by
  simp only [trS] at h
  obtain ⟨⟨c, y, b0, r0⟩, hq, h2⟩ := bnd2 h
  clear h
  have h := h2
  clear h2
  obtain ⟨p1, p2, rfl⟩ : ∃ p1 p2, hs = [.ExceptHandler (some (.Name c p1)) (some y) (b0 :: r0) p2] := by
    unfold tyOf2 at hq
    split at hq
    · cases hq; exact ⟨_, _, rfl⟩
    · cases hq
  split at h
  · rename_i hg
    simp only [Bool.and_eq_true, decide_eq_true_eq] at hg
    obtain ⟨⟨g1, g2⟩, g3⟩ := hg
    obtain ⟨b', hb, h⟩ := bnd2 h
    obtain ⟨i, hi, h⟩ := bnd2 h
    obtain ⟨h', hh, rfl⟩ := mp2 h
    have hy : g.sc.names.lookup y = some .local := by
      unfold isLoc at g3
      split at g3
      · assumption
      · cases g3
    have ky : X.env.kindOf y = some .local := by
      show X.env.scope.names.lookup y = _
      rw [G.d.sc]; exact hy
    obtain ⟨C, h1⟩ := G.d.cls c g2
    refine PS.imp (ps_try_trk (ts := tSs X.K X.mg x W0 h') (tb := fun W' => tSs X.K X.mg x W' b') G.stk G.fr G.ex G.d.ndX (G.d.slot hi) ky ⟨G.d.gl g1, ok_dbg (G.d.okC g2), .inl h1⟩ tk (fun W' pn xe tk' po => ih.ss hb (G.tr po) tk')
      (fun a pn => snd_h (X := X.suite a pn) hh G.d.N G.d.nd G.d.sc G.d.oc G.d.nmN)) ?_
    rintro D σ H ⟨ι, m, δ, hr, hs, q⟩
    refine ⟨ι, m, δ, hr, hs, ?_⟩
    simp only [exS] at q
    cases e : exSs x b' δ m with
    | ok f m2 => rw [e] at q; cases f <;> exact q
    | stuck => rw [e] at q; exact q.elim
    | exc c' δ' m2 =>
      rw [e] at q
      simp only at q
      intro ι2 H2 σ2 cls x2 hr2 hs2 hcls
      cases es : x.sub c' (.own c) with
      | none => rw [es] at q; exact q.elim
      | some bb =>
        rw [es] at q
        obtain ⟨C', cv, z1, z2, z3⟩ := (G.d.sub _ _ _ es).ex c rfl
        rw [z1] at hcls; cases hcls
        rw [h1] at z2; cases z2
        refine ⟨bb, z3, fun hb => ?_, fun hb => ?_⟩
        · subst hb
          refine ⟨rfl, fun a ha => ?_⟩
          simp only at q
          have xp : Ext X.K ι2 H2 (ι2 ++ [a]) (upd H2 a (ExcO (.ref C') a)) := (Ext.push ι2 a).trans (Ext.new ha)
          have hr3 : HR X.K X.mg (ι2 ++ [a]) (m2 ++ [.exc c']) (upd H2 a (ExcO (.ref C') a)) := hr2.push ha ⟨_, z1, upd_same⟩
          refine ⟨ι2 ++ [a], m2 ++ [.exc c'], δ'.set i (some (.loc m2.length)), hr3, (hs2.mono xp).set i ?_, ?_⟩
          · simp only [VR]
            exact ⟨a, by rw [← hr2.len]; simp, rfl⟩
          · exact undo_QS (QS.mono (x2.trans xp) q)
        · subst hb
          exact q ι2 H2 σ2 _ x2 hr2 hs2 z1
  · cases h
theorem loc_of {sc : Scope} {y : Str} (h : isLoc sc y = true) : sc.names.lookup y = some .local := by
  unfold isLoc at h
  split at h
  · assumption
  · cases h
theorem snd_asg {ts : List Expr} {e : Expr} {p : Pos} {ir : S} (h : trS t (n + 1) g (.Assign ts e p) = some ir) (G : Gs t x g X) (tk : Takes X W) : PS X (.Assign ts e p) (tS X.K X.mg x W ir) := by
  have ihe := snd t n
  simp only [trS] at h
  split at h
  · rename_i y py hq
    obtain rfl : ts = [.Name y py] := by
      unfold asName at hq
      split at hq
      · cases hq; rfl
      · cases hq
    split at h
    · rename_i scope q hl
      obtain ⟨elt, gs, rfl⟩ : ∃ elt gs, e = .ListComp elt gs scope q := by
        unfold lcOf at hl
        split at hl
        · cases hl; exact ⟨_, _, rfl⟩
        · cases hl
      split at h
      · rename_i hc
        simp only [Bool.and_eq_true, Bool.not_eq_true'] at hc
        obtain ⟨⟨c1, c2⟩, c3⟩ := hc
        obtain ⟨i, hi, h⟩ := bnd2 h
        obtain ⟨e', he, rfl⟩ := mp2 h
        exact ps_comp (fun k => snd t k) hi he c1 (loc_of c2) c3 G tk
      · cases h
    · split at h
      · cases h
      · rename_i hc
        obtain ⟨i, hi, h⟩ := bnd2 h
        obtain ⟨e', he, rfl⟩ := mp2 h
        exact ps_name ihe hi he (by simpa using hc) G tk
  · split at h
    · rename_i y py z pz a b hq
      obtain ⟨kt, pt, k2, pt2, rfl, rfl⟩ : ∃ kt pt k2 pt2, ts = [.Tuple [.Name y py, .Name z pz] kt pt] ∧ e = .Tuple [a, b] k2 pt2 := by
        unfold asPair at hq
        split at hq
        · cases hq; exact ⟨_, _, _, _, rfl, rfl⟩
        · cases hq
      split at h
      · rename_i hc
        simp only [Bool.and_eq_true, Bool.not_eq_true'] at hc
        obtain ⟨⟨⟨⟨c1, c2⟩, c3⟩, c4⟩, c5⟩ := hc
        obtain ⟨i, hi, h⟩ := bnd2 h
        obtain ⟨j, hj, h⟩ := bnd2 h
        obtain ⟨a', ha, h⟩ := bnd2 h
        obtain ⟨b', hb, h⟩ := bnd2 h
        split at h
        · cases h
        · rename_i hij
          cases h
          exact ps_two ihe hi hj hij ha hb c1 (loc_of c2) (loc_of c3) c4 c5 G tk
      · cases h
    · split at h
      · rename_i es hq
        obtain ⟨k, pt, rfl⟩ : ∃ k pt, ts = [.Tuple es k pt] := by
          unfold asTup at hq
          split at hq
          · cases hq; exact ⟨_, _, rfl⟩
          · cases hq
        split at h
        · cases h
        · rename_i hc
          obtain ⟨is, hi, h⟩ := bnd2 h
          obtain ⟨e', he, rfl⟩ := mp2 h
          exact ps_unp ihe hi he (fun es k p z => hc (by rw [z]; rfl)) G tk
      · split at h
        · rename_i a i hq
          obtain ⟨ps, rfl⟩ : ∃ ps, ts = [.Subscript a i ps] := by
            unfold asSub at hq
            split at hq
            · cases hq; exact ⟨_, rfl⟩
            · cases hq
          obtain ⟨e', he, h⟩ := bnd2 h
          obtain ⟨a', ha, h⟩ := bnd2 h
          obtain ⟨i', hi, rfl⟩ := mp2 h
          exact ps_putF ihe he ha hi G tk
        · cases h
theorem snd_s (ih : SndS t n) {s : Stmt} {ir : S} (h : trS t (n + 1) g s = some ir) (G : Gs t x g X) (tk : Takes X W) : PS X s (tS X.K X.mg x W ir) := by
  have ihe := snd t n
  cases s with
  | Pass p =>
    simp only [trS] at h; cases h
    refine PS.imp ps_pass ?_
    rintro D σ H ⟨ι, m, δ, hr, hs, q⟩
    simp only [exS] at q
    exact q ι H σ Ext.refl hr hs
  | Break p =>
    simp only [trS] at h; cases h
    refine PS.imp ps_break ?_
    rintro D σ H ⟨ι, m, δ, hr, hs, q⟩
    simp only [exS] at q
    exact q ι H σ Ext.refl hr hs
  | Continue p =>
    simp only [trS] at h; cases h
    refine PS.imp ps_continue ?_
    rintro D σ H ⟨ι, m, δ, hr, hs, q⟩
    simp only [exS] at q
    exact q ι H σ Ext.refl hr hs
  | Return e p =>
    cases e with
    | none =>
      simp only [trS] at h; cases h
      refine PS.imp ps_retN ?_
      rintro D σ H ⟨ι, m, δ, hr, hs, q⟩
      simp only [exS] at q
      exact q ι H .non Ext.refl hr (by simp only [VR])
    | some e =>
      simp only [trS] at h
      obtain ⟨e', h1, rfl⟩ := mp2 h
      refine PS.imp (ps_ret (ihe.e h1 G.d tk)) ?_
      rintro D σ H ⟨ι, m, δ, hr, hs, q⟩
      simp only [exS] at q
      exact ⟨ι, m, δ, hr, hs, (QS.to hs q).imp fun v H1 ⟨ι1, m1, d, _, x1, hr1, r1, q1⟩ => q1 ι1 H1 v Ext.refl hr1 r1⟩
  | Expr e p =>
    simp only [trS] at h
    split at h
    · cases h
    · rename_i hc
      obtain ⟨e', h1, rfl⟩ := mp2 h
      refine PS.imp (ps_expr (ihe.e h1 G.d tk) (sw_of (by simpa using hc) _ _ _)) ?_
      rintro D σ H ⟨ι, m, δ, hr, hs, q⟩
      simp only [exS] at q
      exact ⟨ι, m, δ, hr, hs, (QS.to (rel := fun ι H => VR X.K ι H) hs q).imp fun v H1 ⟨ι1, m1, d, _, x1, hr1, r1, q1⟩ => q1 ι1 H1 σ Ext.refl hr1 (hs.mono x1)⟩
  | If c a b p =>
    simp only [trS] at h
    obtain ⟨c', h1, h⟩ := bnd2 h
    obtain ⟨a', h2, h⟩ := bnd2 h
    obtain ⟨b', h3, rfl⟩ := mp2 h
    refine PS.imp (ps_if (ihe.tt h1 G.d tk) (ih.ss h2 G tk) (ih.ss h3 G tk)) ?_
    rintro D σ H ⟨ι, m, δ, hr, hs, q⟩
    simp only [exS] at q
    refine ⟨ι, m, δ, hr, hs, (QS.to hs q).imp fun v H1 ⟨ι1, m1, d, _, x1, hr1, r1, q1⟩ => ?_⟩
    subst r1
    cases d with
    | true => rw [if_pos rfl] at q1 ⊢; exact ⟨ι1, m1, δ, hr1, hs.mono x1, q1⟩
    | false => rw [if_neg Bool.false_ne_true] at q1 ⊢; exact ⟨ι1, m1, δ, hr1, hs.mono x1, q1⟩
  | While c b e p =>
    cases e with
    | nil =>
      simp only [trS] at h
      obtain ⟨c', h1, h⟩ := bnd2 h
      obtain ⟨b', h2, rfl⟩ := mp2 h
      exact PS.imp (ps_while G.po (ihe.tt h1 G.d tk) (ih.ss h2 G tk)) fun D σ H q => while_rd q
    | cons _ _ => simp [trS] at h
  | For tg it b e p =>
    cases e with
    | nil =>
      simp only [trS] at h
      obtain ⟨it', h1, h⟩ := bnd2 h
      obtain ⟨tg', h2, h⟩ := bnd2 h
      obtain ⟨b', h3, rfl⟩ := mp2 h
      exact PS.imp (ps_for G.po G.d.calm (ihe.i tg h1 G.d tk) (pg_of G.d h2) (ih.ss h3 G tk) (fold_of h1)) fun D σ H q => for_rd q
    | cons _ _ => simp [trS] at h
  | Raise e c p =>
    simp only [trS] at h
    obtain ⟨y, hq, h2⟩ := bnd2 h
    clear h
    obtain ⟨fp, m, k, p1, p2, rfl, rfl⟩ : ∃ fp m k p1 p2, e = some (.Call (.Name y fp) [.Constant (.str m) k p1] [] p2) ∧ c = none := by
      unfold rsOf at hq
      split at hq
      · cases hq; exact ⟨_, _, _, _, _, rfl, rfl⟩
      · cases hq
    split at h2
    · rename_i hg
      simp only [Bool.and_eq_true, decide_eq_true_eq] at hg
      cases h2
      exact snd_raise hg.1 hg.2 G tk
    · cases h2
  | Try b hs o f p =>
    cases o with
    | cons _ _ => simp [trS] at h
    | nil =>
      cases f with
      | cons _ _ => simp [trS] at h
      | nil => exact snd_try ih h G tk
  | Assign ts e p => exact snd_asg h G tk
  | _ => simp [trS] at h
theorem sndS (t : Tb) : ∀ n, SndS t n
  | 0 => ⟨fun h => by simp [trS] at h, fun h => by simp [trSs] at h⟩
  | n + 1 => ⟨fun h G tk => snd_s (sndS t n) h G tk, fun h G tk => snd_ss (sndS t n) h G tk⟩
end
end FS

set_option Elab.async false
set_option linter.all false
set_option maxRecDepth 100000
/-! FS: part 16: what a call leaves; defs; the law. -/
namespace FS
open PySem PySem.Spec PyProof.Rows L2

section
variable {K : PySem.W.Frag} {mg : Str → Option Value} {ι ι' : List Addr} {H : Hp} {m : M}
mutual
theorem ren_VR {ρ : Nat → Nat} : ∀ {d : D} {v : V}, (∀ l ∈ locs d, ∀ a, ι[l]? = some a → ι'[ρ l]? = some a) → VR K ι H d v → VR K ι' H (ren ρ d) v
  | .non, _, _, h => by simpa only [ren, VR] using h
  | .bl _, _, _, h => by simpa only [ren, VR] using h
  | .int _, _, _, h => by simpa only [ren, VR] using h
  | .str _, _, _, h => by simpa only [ren, VR] using h
  | .tup ds, v, hl, h => by
    simp only [ren, VR] at h ⊢
    obtain ⟨a, vs, h1, h2, h3⟩ := h
    exact ⟨a, vs, h1, h2, rens_VR (fun l hm => hl l (by simpa only [locs] using hm)) h3⟩
  | .loc n, v, hl, h => by
    simp only [ren, VR] at h ⊢
    obtain ⟨a, h1, h2⟩ := h
    exact ⟨a, hl n (by simp [locs]) a h1, h2⟩
theorem rens_VR {ρ : Nat → Nat} : ∀ {ds : List D} {vs : List V}, (∀ l ∈ locss ds, ∀ a, ι[l]? = some a → ι'[ρ l]? = some a) → VRs K ι H ds vs → VRs K ι' H (rens ρ ds) vs
  | [], _, _, h => by simpa only [rens, VRs] using h
  | d :: ds, vs, hl, h => by
    simp only [rens, VRs] at h ⊢
    obtain ⟨v, r, h1, h2, h3⟩ := h
    exact ⟨v, r, h1, ren_VR (fun l hm => hl l (by simp [locss, hm])) h2, rens_VR (fun l hm => hl l (by simp [locss, hm])) h3⟩
end
theorem ren_OR {ρ : Nat → Nat} {o : Ob} {a : Addr} (hl : ∀ l ∈ o.locs, ∀ a, ι[l]? = some a → ι'[ρ l]? = some a) (h : OR K mg ι H o a) : OR K mg ι' H (o.ren ρ) a := by
  cases o with
  | lst ds => obtain ⟨vs, h1, h2⟩ := h; exact ⟨vs, h1, rens_VR hl h2⟩
  | fro ds => obtain ⟨vs, h1, h2⟩ := h; exact ⟨vs, h1, rens_VR hl h2⟩
  | exc c => exact h
theorem ren_mut {ρ : Nat → Nat} {o : Ob} : (o.ren ρ).mut = o.mut := by cases o <;> rfl
/-- the places that are kept, as one list -/
def keptL (n : Nat) (ls : List Nat) : List Nat := List.range n ++ ls
theorem getD_some {α : Type} {l : List α} {i : Nat} {d : α} (h : i < l.length) : l[i]? = some (l.getD i d) := by
  rw [List.getElem?_eq_getElem h, List.getD_eq_getElem?_getD, List.getElem?_eq_getElem h]; rfl
theorem gc_list {n : Nat} {ls : List Nat} {m : M} {ρ : Nat → Nat} (hle : n ≤ m.length) (hat : ∀ l ∈ ls, n ≤ l ∧ l < m.length) :
    (m.take n).map (Ob.ren ρ) ++ ls.filterMap (fun l => (m[l]?).map (Ob.ren ρ)) = (keptL n ls).map fun l => (m.getD l default).ren ρ := by
  unfold keptL
  rw [List.map_append]
  congr 1
  · refine List.ext_getElem? fun i => ?_
    rw [List.getElem?_map, List.getElem?_map, List.getElem?_take]
    by_cases hi : i < n
    · rw [if_pos hi, getD_some (d := default) (show i < m.length by omega), List.getElem?_range hi]
      rfl
    · rw [if_neg hi, List.getElem?_eq_none (by simpa using hi)]
      rfl
  · induction ls with
    | nil => rfl
    | cons l ls ih =>
      rw [List.filterMap_cons, getD_some (d := default) (hat l (by simp)).2, List.map_cons]
      simp only [Option.map_some]
      rw [ih fun x hx => hat x (by simp [hx])]
theorem gc_ok {n : Nat} {d : D} {v : V} {H0 : Hp} {ι0 : List Addr} (hr : HR K mg ι m H) (hv : VR K ι H d v) (ext : Ext K ι0 H0 ι H) (hl : ι0.length = n) :
    ∃ ι', Ext K ι0 H0 ι' H ∧ HR K mg ι' (gc n d m).2 H ∧ VR K ι' H (gc n d m).1 v := by
  unfold gc
  split
  · rename_i ok
    generalize hls : reach n d m = ls at ok
    dsimp only
    rw [gc_list ok.le ok.at_]
    -- the addresses that are kept
    have hlen := hr.len
    have lt : ∀ {i l : Nat}, (keptL n ls)[i]? = some l → l < m.length ∧ i = rho n ls l ∧ (l < n ∨ l ∈ ls) := fun {i l} h => by
      unfold keptL at h
      by_cases hi : i < n
      · rw [List.getElem?_append_left (by simpa using hi), List.getElem?_range hi] at h
        cases h
        exact ⟨Nat.lt_of_lt_of_le hi ok.le, by unfold rho; rw [if_pos hi], .inl hi⟩
      · rw [List.getElem?_append_right (by simpa using hi), List.length_range] at h
        have hm := List.mem_of_getElem? h
        obtain ⟨h1, h2⟩ := ok.at_ l hm
        refine ⟨h2, ?_, .inr hm⟩
        unfold rho
        rw [if_neg (by omega)]
        obtain ⟨h3, h4⟩ := List.getElem?_eq_some_iff.mp h
        have : ls.idxOf l = i - n := by rw [← h4]; exact ok.nd.idxOf_getElem _ _
        omega
    have at_ : ∀ l, (l < n ∨ l ∈ ls) → (keptL n ls)[rho n ls l]? = some l := fun l h => by
      unfold keptL rho
      by_cases hi : l < n
      · rw [if_pos hi, List.getElem?_append_left (by simpa using hi), List.getElem?_range hi]
      · rw [if_neg hi, List.getElem?_append_right (by simp), List.length_range, Nat.add_sub_cancel_left]
        rcases h with h | h
        · exact absurd h hi
        · rw [List.getElem?_eq_getElem (List.idxOf_lt_length_of_mem h)]
          exact congrArg some (List.getElem_idxOf _)
    have nw : ∀ l, (l < n ∨ l ∈ ls) → ∀ a, ι[l]? = some a → ((keptL n ls).map fun l => ι.getD l 0)[rho n ls l]? = some a := fun l h a ha => by
      rw [List.getElem?_map, at_ l h]
      have hl : l < ι.length := (List.getElem?_eq_some_iff.mp ha).1
      rw [getD_some (d := 0) hl] at ha
      simp only [Option.map_some]
      exact ha
    refine ⟨(keptL n ls).map fun l => ι.getD l 0, ⟨fun i a hi => ?_, ext.tup⟩, ⟨by simp, fun i j a o o' h1 h2 h3 h4 m1 m2 => ?_, fun i a o h1 h2 => ?_⟩, ren_VR (fun l hm => nw l (ok.d l hm)) hv⟩
    · have hlt : i < n := by rw [← hl]; exact (List.getElem?_eq_some_iff.mp hi).1
      have := nw i (.inl hlt) a (ext.pre i a hi)
      rwa [show rho n ls i = i by unfold rho; rw [if_pos hlt]] at this
    · rw [List.getElem?_map] at h1 h2 h3 h4
      obtain ⟨l1, e1, rfl⟩ := Option.map_eq_some_iff.mp h1
      obtain ⟨l2, e2, q2⟩ := Option.map_eq_some_iff.mp h2
      rw [e1] at h3; rw [e2] at h4
      simp only [Option.map_some, Option.some.injEq] at h3 h4
      subst h3 h4
      obtain ⟨z1, z2, z3⟩ := lt e1
      obtain ⟨w1, w2, w3⟩ := lt e2
      have : l1 = l2 := hr.nd l1 l2 _ _ _ (getD_some (by rw [hlen]; exact z1)) (by rw [← q2]; exact getD_some (by rw [hlen]; exact w1)) (getD_some z1) (getD_some w1) (by rw [← m1, ren_mut]) (by rw [← m2, ren_mut])
      rw [z2, w2, this]
    · rw [List.getElem?_map] at h1 h2
      obtain ⟨l1, e1, rfl⟩ := Option.map_eq_some_iff.mp h1
      rw [e1] at h2
      simp only [Option.map_some, Option.some.injEq] at h2
      subst h2
      obtain ⟨z1, z2, z3⟩ := lt e1
      refine ren_OR (fun l hm a ha => nw l ?_ a ha) (hr.ob l1 _ _ (getD_some (by rw [hlen]; exact z1)) (getD_some z1))
      rcases z3 with z3 | z3
      · exact ok.old l1 _ z3 (getD_some z1) l hm
      · exact ok.new l1 _ z3 (getD_some z1) l hm
  · exact ⟨ι, ext, hr, hv⟩
end

/-! ### defs -/
section
variable {P : Program} {w : World} {K : PySem.W.Frag} {mg : Str → Option Value} {base : Heap}
/-- what is known of a def -/
structure DefOk (P : Program) (w : World) (K : PySem.W.Frag) (mg : Str → Option Value) (t : Tb) (p : Pg) (f : Str) : Prop where
  ex : ∃ (fa : Addr) (fd : FuncData) (st : Stmt) (N ps : List Str) (fn : Fn), Fun K f f st fa fd ∧ mg f = some (.ref fa) ∧ FnScope N ps (defScope st) ∧ trF t N st ps.length = some fn ∧ p.fn f = some fn ∧ Binds K fd ps [] ∧ ∀ y ∈ N, okName y = true
/-- what is known of the top -/
structure TopOk (P : Program) (w : World) (K : PySem.W.Frag) (mg : Str → Option Value) (t : Tb) (p : Pg) : Prop where
  fns : ∀ f ∈ t.fns, DefOk P w K mg t p f
  glob : ∀ y ∈ t.gls, ∀ d, p.glob y = some d → ∃ u v, mg y = some u ∧ RelV v u ∧ ∀ ι H, VR K ι H d v
  blt : ∀ y ∈ t.blt, mg y = none
  sub : ∀ c k b, p.sub c k = some b → SubOk K mg c k b
  cls : ∀ c ∈ t.cls, ∃ C, mg c = some (.ref C)
  rcl : ∀ c ∈ t.rcl, ∃ (C : Addr) (B newId initId : String) (bmB : List Value), mg c = some (.ref C) ∧ ExcBaseFacts B newId initId bmB ∧ PySem.W.excIn K C bmB newId = true ∧ PySem.W.keepIn K (.ref C) = true ∧
    PySem.W.subIn K (.ref C) (.type "BaseException") = some true ∧ PySem.W.typeIn K (.ref C) = some (.type "type")
  nm : ∀ y ∈ t.fns ++ t.cls ++ t.gls ++ t.blt ++ t.rcl, okName y = true
theorem np_of {p : Pg} {k : Nat} {f : Str} {fn : Fn} (h : p.fn f = some fn) {ds : List D} {m : M} (hl : ds.length ≠ fn.np) : callF p k f ds m = .stuck := by
  cases k with
  | zero => rfl
  | succ k => simp only [callF, h, if_neg hl]
theorem np_trF {t : Tb} {N : List Str} {st : Stmt} {np : Nat} {fn : Fn} (h : trF t N st np = some fn) : fn.np = np ∧ fn.nv = N.length ∧ ∃ k, trSs t k ⟨N, defScope st, N⟩ (defBody st) = some fn.body := by
  unfold trF at h
  split at h
  · obtain ⟨b', h1, rfl⟩ := mp2 h
    exact ⟨rfl, rfl, 200, h1⟩
  · cases h
theorem start_SR {ι : List Addr} {H : Hp} {N : List Str} {ds : List D} {vs : List V} (h : VRs K ι H ds vs) : SR K ι H (ds.map some ++ List.replicate (N.length - ds.length) none) (L2.start N vs) := by
  unfold L2.start
  refine ⟨by simp [h.length], fun i d e => ?_⟩
  by_cases hi : i < ds.length
  · rw [List.getElem?_append_left (by simpa using hi), List.getElem?_map] at e
    obtain ⟨d', e1, e2⟩ := Option.map_eq_some_iff.mp e
    cases e2
    obtain ⟨v, h1, h2⟩ := h.get e1
    refine ⟨v, ?_, h2⟩
    rw [List.getElem?_append_left (by rw [List.length_map, ← h.length]; exact hi), List.getElem?_map, h1]
    rfl
  · rw [List.getElem?_append_right (by simpa using hi), List.getElem?_replicate] at e
    split at e <;> cases e
theorem end_QS {ι : List Addr} {m : M} {H : Hp} {Q : VK} {E : XK} {r : RS} (hr : HR K mg ι m H) (h : QD K mg ι H Q E (endF m.length r)) :
    QS K mg ι H { nx := fun _ H' => Q .non H', rt := Q } (fun cls d _ H' => E cls d H') r := by
  have hl := hr.len
  cases r with
  | stuck => exact h.elim
  | exc c δ m' =>
    intro ι' H' σ' cls e hr' _ hc
    obtain ⟨ι2, e2, hr2, _⟩ := gc_ok (d := .non) (v := .non) hr' (by simp only [VR]) e hl
    exact h ι2 H' cls e2 hr2 hc
  | ok f m' =>
    cases f with
    | bk δ => exact h.elim
    | ct δ => exact h.elim
    | rt d =>
      intro ι' H' v e hr' hv
      obtain ⟨ι2, e2, hr2, hv2⟩ := gc_ok hr' hv e hl
      exact h ι2 H' v e2 hr2 hv2
    | nx δ =>
      intro ι' H' σ' e hr' _
      obtain ⟨ι2, e2, hr2, hv2⟩ := gc_ok (d := .non) (v := .non) hr' (by simp only [VR]) e hl
      exact h ι2 H' .non e2 hr2 hv2
/-- what the induction knows of the callees -/
def Callees (P : Program) (w : World) (K : PySem.W.Frag) (mg : Str → Option Value) (base : Heap) (t : Tb) (p : Pg) (k : Nat) : Prop := ∀ f ∈ t.fns, ∃ fa fd ps, FnOk P w K mg base (L2.CX P w) k fa fd ps (spF K mg ps.length (callF p k f)) ∧
  (∀ ds m, ds.length ≠ ps.length → callF p k f ds m = .stuck) ∧ mg f = some (.ref fa) ∧ PySem.W.keepIn K (.ref fa) = true ∧ Binds K fd ps []
theorem fn_step {t : Tb} {p : Pg} (T : TopOk P w K mg t p) {k : Nat} (ih : Callees P w K mg base t p k) {f : Str} {fa : Addr} {fd : FuncData} {st : Stmt} {N ps : List Str} {fn : Fn} (F : Fun K f f st fa fd) (S : FnScope N ps (defScope st))
    (ht : trF t N st ps.length = some fn) (hp : p.fn f = some fn) (hn : ∀ y ∈ N, okName y = true) : FnOk P w K mg base (L2.CX P w) (k + 1) fa fd ps (spF K mg ps.length (callF p (k + 1) f)) := by
  obtain ⟨e1, e2, kk, e3⟩ := np_trF ht
  refine F.okX S (fun vs H Q E h => h.1) fun cdv A outer s H vs Q E hr h => ?_
  have tk : Takes (cxOf (L2.CX P w) P w K mg base N f (defScope st) fa cdv A outer s H E) (fun cls d _ H' => E cls d H') := takes_of rfl rfl rfl rfl
  have G : Gs t (cn p k) ⟨N, defScope st, N⟩ (cxOf (L2.CX P w) P w K mg base N f (defScope st) fa cdv A outer s H E) :=
    ⟨⟨rfl, S.nd, rfl, fun _ _ => rfl, rfl, by have := hr.un; show (A.deeper _).units + 65 < cLine; omega, fun y hy => by
        obtain ⟨fa', fd', ps', q1, q2, q3, q4, q5⟩ := ih y hy
        exact ⟨fa', fd', ps', k, ⟨q1, q2, hr, q3, q4, q5⟩⟩, T.glob, T.blt, T.sub, T.cls, fun c hc => by
        obtain ⟨C, B, n1, n2, bm, h1, h2, h3, h4, h5, h6⟩ := T.rcl c hc
        exact ⟨⟨C, B, n1, n2, bm, h1, h2, h3, h4, raises_own h5 h6⟩⟩, hn, T.nm⟩, passes_of rfl, rfl, rfl, rfl, S.kind, rfl⟩
  refine ⟨_, (sndS t kk).ss e3 G tk, ?_⟩
  obtain ⟨hl, ι, m, ds, hr', hv, q⟩ := h
  have hlen : ds.length = fn.np := by rw [e1, hv.length]; exact hl
  simp only [callF, hp, if_pos hlen] at q
  refine ⟨ι, m, _, hr', start_SR hv, ?_⟩
  rw [e2] at q
  have : fn.np = ds.length := hlen.symm
  rw [this] at q
  exact end_QS hr' q
theorem fns_ok {t : Tb} {p : Pg} (T : TopOk P w K mg t p) : ∀ k, Callees P w K mg base t p k
  | 0, f, hf => by
    obtain ⟨fa, fd, st, N, ps, fn, F, hm, S, ht, hp, hb, hn⟩ := (T.fns f hf).ex
    obtain ⟨e1, e2, k, e3⟩ := np_trF ht
    exact ⟨fa, fd, ps, ⟨fun vs H Q E h => h.1, fun A outer s H args us vs Q E _ _ _ _ ⟨_, _, _, _, _, _, q⟩ => q.elim⟩, fun ds m hl => np_of hp (by rw [e1]; exact hl), hm, F.kp, hb⟩
  | k + 1, f, hf => by
    obtain ⟨fa, fd, st, N, ps, fn, F, hm, S, ht, hp, hb, hn⟩ := (T.fns f hf).ex
    obtain ⟨e1, e2, kk, e3⟩ := np_trF ht
    exact ⟨fa, fd, ps, fn_step T (fns_ok T k) F S ht hp hn, fun ds m hl => np_of hp (by rw [e1]; exact hl), hm, F.kp, hb⟩
/-- of a def's text alone -/
structure DefS (t : Tb) (st : Stmt) (f : Str) (N ps : List Str) (fn : Fn) : Prop where
  sc : FnScope N ps (defScope st)
  tr : trF t N st ps.length = some fn
  nm : (N.all okName) = true
  bd : ∀ (kV doc pm : Value) (an : Option Addr) (cdv ct : Value) (us : List Value), us.length = ps.length → bindArgs (PySem.W.fnOf f f (defArgs st) (defBody st) (defScope st) .none kV doc pm an cdv ct) ⟨us, []⟩ = pure (ps.zip us)
theorem defOk_mk {t : Tb} {p : Pg} {f : Str} {st : Stmt} {N ps : List Str} {fn : Fn} (D : DefS t st f N ps fn) (hp : p.fn f = some fn) {fa : Addr} {h : Heap} (X : K.In h) (G : h.Ns mainGlobals mg)
    {oc : Value} {od an : Option Addr} {osl : Array (Option Value)} {kV doc pm cdv ct : Value} (a : PySem.W.nsIn K mainGlobals f = some (some (.ref fa))) (l : K.lookup fa = some ⟨oc, od, .func (PySem.W.fnOf f f (defArgs st) (defBody st) (defScope st) .none kV doc pm an cdv ct), osl⟩)
    (c : PySem.W.codeIn K cdv f = true) (k : PySem.W.keepIn K (.ref fa) = true) : DefOk P w K mg t p f := by
  have F := fun_mk (st := st) l c k
  exact ⟨fa, _, st, N, ps, fn, F, PySem.W.mg_of X G a, D.sc, D.tr, hp, F.binds D.bd, fun y hy => List.all_eq_true.mp D.nm y hy⟩
/-- the law's promise -/
def spLaw (K : PySem.W.Frag) : Sp := fun vs H Q _ => ∃ (a : Addr) (ns : List Int), vs = [.ref a] ∧ FroL K H a (ns.map V.int) ∧ ns.length ≤ 63 ∧ ∀ H', Q (.bl true) H'
theorem ints_VRs {ι : List Addr} {H : Hp} : ∀ ns : List Int, VRs K ι H (ns.map D.int) (ns.map V.int)
  | [] => VRs.nil
  | n :: ns => VRs.cons (by simp only [VR]) (ints_VRs ns)
theorem fro_of {a : Addr} {H : Hp} {xs : List V} (hO : L2.Only H) (h : SqL K H a xs) : FroL K H a xs := by
  rcases h with (h | h) | h
  · rcases hO a with z | ⟨o, ys, z⟩
    · rw [h] at z; cases z
    · rw [h] at z; cases z
  · exact .inl h
  · exact .inr h
theorem law_ok {t : Tb} {p : Pg} (T : TopOk P w K mg t p) {k : Nat} {f : Str} {fa : Addr} {fd : FuncData} {st : Stmt} {N : List Str} {x : Str} {fn : Fn} (F : Fun K f f st fa fd) (D : DefS t st f N [x] fn) (hp : p.fn f = some fn)
    (hlaw : ∀ ns : List Int, ns.length ≤ 63 → ∃ m', callF p (k + 1) f [.loc 0] [.fro (ns.map .int)] = .ok (.bl true) m') : FnOk P w K mg base (L2.CX P w) (k + 1) fa fd [x] (spLaw K) := by
  refine (fn_step T (fns_ok T k) F D.sc D.tr hp fun y hy => List.all_eq_true.mp D.nm y hy).imp fun vs H Q E ⟨a, ns, e, hF, hl, q⟩ => ?_
  subst e
  obtain ⟨m', hm⟩ := hlaw ns hl
  refine ⟨rfl, [a], [.fro (ns.map .int)], [.loc 0], ⟨rfl, fun i j b o o' h1 h2 h3 h4 m1 m2 => ?_, fun i b o h1 h2 => ?_⟩, VRs.one (by simp only [VR]; exact ⟨a, rfl, rfl⟩), ?_⟩
  · cases i with
    | zero => cases h3; cases m1
    | succ i => simp at h3
  · cases i with
    | zero =>
      cases h1; cases h2
      exact ⟨_, hF, ints_VRs ns⟩
    | succ i => simp at h2
  · rw [hm]
    intro ι' H' b _ _ hb
    simp only [VR] at hb
    subst hb
    exact q H'
/-- no exception leaves the law -/
theorem no_exc {H : Hp} {s s' : Shared} {e : Value} (h : L2.CX P w [] H s (fun _ _ _ => False) e s') : False := by
  obtain ⟨_, _, _, _, _, _, _, _, _, _, _, _, z⟩ := h
  exact z

/-! ### classes -/
structure ExcFacts (K : PySem.W.Frag) (C : Addr) : Prop where
  c : ExcC K C
  i : (PySem.W.clsIn K C).isSome = true
  t : PySem.W.typeIn K (.ref C) = some (.type "type")
theorem excFacts_mk {C : Addr} (h1 : PySem.W.findIn K (.ref C) "__getattribute__" = some (some (.builtin "BaseException.__getattribute__"))) (h2 : PySem.W.findIn K (.ref C) "__getattr__" = some none) (h3 : PySem.W.subIn K (.ref C) (.type "BaseException") = some true)
    (h4 : PySem.W.hasDictIn K C = true) (h5 : PySem.W.findIn K (.ref C) "__class__" = some (some (.builtin "object.__class__"))) (h6 : PySem.W.specialIn K (.builtin "object.__class__") "__get__" = some (some (.builtin "getset_descriptor.__get__")))
    (h7 : PySem.W.takesIn K (.builtin "object.__class__") = some true) (h8 : PySem.W.mroIn K C (.type "object") = some true) (h9 : PySem.W.isClsIn K C = true) (h10 : PySem.W.typeIn K (.ref C) = some (.type "type")) : ExcFacts K C :=
  ⟨⟨h1, h2, h3, h4, h5, h6, h7, h8⟩, h9, h10⟩
theorem kit_own {C D : Addr} {b : Bool} (F : ExcFacts K D) (h : PySem.W.subIn K (.ref C) (.ref D) = some b) (hb : C = D → b = true) : PySem.W.kitOne K (.ref C) (.ref D) = some b := by
  unfold PySem.W.kitOne
  split
  · rename_i e
    have : C = D := Value.ref.inj (beq_iff_eq.mp e)
    rw [hb this]
  · unfold PySem.W.kitCls
    dsimp only
    rw [if_pos (by rw [F.i, F.t]; rfl)]
    exact h
theorem sub_own {c d : Str} {C D : Addr} {b : Bool} (FC : ExcFacts K C) (FD : ExcFacts K D) (hc : mg c = some (.ref C)) (hd : mg d = some (.ref D)) (h : PySem.W.subIn K (.ref C) (.ref D) = some b) (hb : C = D → b = true) : SubOk K mg c (.own d) b := by
  refine ⟨⟨C, .ref D, hc, hd, FC.c, kit_own FD h hb⟩, fun c' e => ?_⟩
  cases e
  refine ⟨C, .ref D, hc, hd, ?_⟩
  exact PySem.W.exm_ref FD.c.hs FD.c.hd FD.t h
theorem kit_val {C : Addr} {b : Bool} (h : PySem.W.subIn K (.ref C) (.type "ValueError") = some b) : PySem.W.kitOne K (.ref C) (.type "ValueError") = some b := by
  unfold PySem.W.kitOne
  rw [if_neg (by simp)]
  unfold PySem.W.kitCls
  dsimp only
  rw [if_pos (by decide +kernel)]
  exact h
theorem sub_val {c : Str} {C : Addr} {b : Bool} (FC : ExcFacts K C) (hc : mg c = some (.ref C)) (h : PySem.W.subIn K (.ref C) (.type "ValueError") = some b) : SubOk K mg c (.ty .valueError) b :=
  ⟨⟨C, _, hc, rfl, FC.c, kit_val h⟩, fun c' e => nomatch e⟩
end
theorem mem_lookup2 {α β : Type} [BEq α] [LawfulBEq α] : ∀ {l : List (α × β)} {a : α} {b : β}, l.lookup a = some b → (a, b) ∈ l
  | [], _, _, h => by cases h
  | (x, y) :: l, a, b, h => by
    rw [List.lookup_cons] at h
    split at h
    · rename_i e
      cases h
      rw [eq_of_beq e]
      exact List.mem_cons_self
    · exact List.mem_cons_of_mem _ (mem_lookup2 h)
end FS

set_option Elab.async false
set_option linter.all false
set_option maxRecDepth 100000
/-! FSL: how a law's plain side is worked out: what a call leaves, loops, sizes. -/
namespace FS
open PySem PySem.Spec PyProof.Rows L2

@[simp] theorem R.bind_ok {α β : Type} (a : α) (m : M) (f : α → M → R β) : (R.ok a m).bind f = f a m := (rfl)
@[simp] theorem R.bind_exc {α β : Type} (c : Str) (m : M) (f : α → M → R β) : (R.exc c m : R α).bind f = .exc c m := (rfl)
@[simp] theorem R.bind_stuck {α β : Type} (f : α → M → R β) : (R.stuck : R α).bind f = .stuck := (rfl)
@[simp] theorem R.to_ok {α : Type} (a : α) (m : M) (σ : Sl) (f : α → M → RS) : (R.ok a m).to σ f = f a m := (rfl)
@[simp] theorem R.to_exc {α : Type} (c : Str) (m : M) (σ : Sl) (f : α → M → RS) : (R.exc c m : R α).to σ f = .exc c σ m := (rfl)
@[simp] theorem R.to_stuck {α : Type} (σ : Sl) (f : α → M → RS) : (R.stuck : R α).to σ f = .stuck := (rfl)
@[simp] theorem RS.then_nx (σ : Sl) (m : M) (f : Sl → M → RS) : (RS.ok (.nx σ) m).andThen f = f σ m := (rfl)
@[simp] theorem RS.then_rt (d : D) (m : M) (f : Sl → M → RS) : (RS.ok (.rt d) m).andThen f = .ok (.rt d) m := (rfl)
@[simp] theorem RS.then_bk (σ : Sl) (m : M) (f : Sl → M → RS) : (RS.ok (.bk σ) m).andThen f = .ok (.bk σ) m := (rfl)
@[simp] theorem RS.then_ct (σ : Sl) (m : M) (f : Sl → M → RS) : (RS.ok (.ct σ) m).andThen f = .ok (.ct σ) m := (rfl)
@[simp] theorem RS.then_exc (c : Str) (σ : Sl) (m : M) (f : Sl → M → RS) : (RS.exc c σ m).andThen f = .exc c σ m := (rfl)
theorem R.bind_congr1 {α β : Type} {r r' : R α} {f : α → M → R β} (h : r = r') : r.bind f = r'.bind f := by rw [h]
theorem R.to_congr1 {α : Type} {r r' : R α} {σ : Sl} {f : α → M → RS} (h : r = r') : r.to σ f = r'.to σ f := by rw [h]
theorem RS.then_congr1 {r r' : RS} {f : Sl → M → RS} (h : r = r') : r.andThen f = r'.andThen f := by rw [h]

/-! ### what a call leaves -/
/-- the store's first n things point below n -/
def Cl1 (n : Nat) (m : M) : Prop := ∀ (i : Nat) (o : Ob), i < n → m[i]? = some o → ∀ l ∈ o.locs, l < n
/-- a store that points nowhere out of itself -/
abbrev Wf (m : M) : Prop := Cl1 m.length m
theorem filter_ge_nil {n : Nat} : ∀ {ls : List Nat}, (∀ l ∈ ls, l < n) → ls.filter (n ≤ ·) = []
  | [], _ => rfl
  | a :: ls, h => by
    have := h a (by simp)
    rw [List.filter_cons_of_neg (by simp; omega)]
    exact filter_ge_nil fun l hl => h l (List.mem_cons_of_mem _ hl)
theorem mem_take_get {m : M} {n : Nat} {o : Ob} (h : o ∈ m.take n) : ∃ i, i < n ∧ m[i]? = some o := by
  obtain ⟨i, hi, e⟩ := List.mem_iff_getElem.mp h
  have hi' : i < n ∧ i < m.length := by simpa [List.length_take, Nat.lt_min] using hi
  exact ⟨i, hi'.1, by rw [List.getElem?_eq_getElem hi'.2, ← e]; simp⟩
theorem old_nil {n : Nat} {m : M} (h : Cl1 n m) : ∀ l ∈ (m.take n).flatMap Ob.locs, l < n := by
  intro l hl
  obtain ⟨o, ho, hl⟩ := List.mem_flatMap.mp hl
  obtain ⟨i, hi, e⟩ := mem_take_get ho
  exact h i o hi e l hl
theorem visit_nil (n : Nat) (m : M) (f : Nat) (seen : List Nat) : visit n m f [] seen = seen := by cases f <;> rfl
mutual
theorem ren_id {ρ : Nat → Nat} : (d : D) → (∀ l ∈ locs d, ρ l = l) → ren ρ d = d
  | .tup xs, h => by rw [ren, rens_id xs (by simpa [locs] using h)]
  | .loc n, h => by rw [ren, h n (by simp [locs])]
  | .non, _ => by rw [ren] <;> simp
  | .bl _, _ => by rw [ren] <;> simp
  | .int _, _ => by rw [ren] <;> simp
  | .str _, _ => by rw [ren] <;> simp
theorem rens_id {ρ : Nat → Nat} : (ds : List D) → (∀ l ∈ locss ds, ρ l = l) → rens ρ ds = ds
  | [], _ => by rw [rens]
  | d :: ds, h => by
    rw [rens, ren_id d (fun l hl => h l (by simp [locss, hl])), rens_id ds (fun l hl => h l (by simp [locss, hl]))]
end
theorem Ob.ren_id {ρ : Nat → Nat} (o : Ob) (h : ∀ l ∈ o.locs, ρ l = l) : o.ren ρ = o := by
  cases o with
  | lst xs => simp only [Ob.ren]; rw [rens_id xs h]
  | fro xs => simp only [Ob.ren]; rw [rens_id xs h]
  | exc c => rfl
theorem map_ren_id {ρ : Nat → Nat} {m : M} (h : ∀ o ∈ m, ∀ l ∈ Ob.locs o, ρ l = l) : m.map (Ob.ren ρ) = m := by
  have : m.map (Ob.ren ρ) = m.map id := List.map_congr_left fun o ho => Ob.ren_id o (h o ho)
  rw [this, List.map_id]
theorem rho_lt {n : Nat} {ls : List Nat} {l : Nat} (h : l < n) : rho n ls l = l := by rw [rho, if_pos h]
/-- a result that reaches nothing new -/
theorem gc_old {n : Nat} {d : D} {m : M} (h1 : n ≤ m.length) (h2 : Cl1 n m) (h3 : ∀ l ∈ locs d, l < n) : gc n d m = (d, m.take n) := by
  have hr : reach n d m = [] := by
    rw [reach, filter_ge_nil, visit_nil]
    intro l hl
    rcases List.mem_append.mp hl with h | h
    · exact h3 l h
    · exact old_nil h2 l h
  have G : GcOk n (reach n d m) d m := by
    rw [hr]
    exact ⟨List.nodup_nil, h1, nofun, fun l hl => .inl (h3 l hl), fun i o hi e l hl => .inl (h2 i o hi e l hl), nofun⟩
  rw [gc, if_pos G, hr, ren_id d (fun l hl => rho_lt (h3 l hl)), map_ren_id]
  · simp
  · intro o ho l hl
    obtain ⟨i, hi, e⟩ := mem_take_get ho
    exact rho_lt (h2 i o hi e l hl)
/-- a new thing is answered, that reaches nothing new -/
theorem gc_new {n p : Nat} {m : M} {o : Ob} (hp : n ≤ p) (ho : m[p]? = some o) (h2 : Cl1 n m) (h3 : ∀ l ∈ o.locs, l < n) : gc n (.loc p) m = (.loc n, m.take n ++ [o]) := by
  obtain ⟨hl, hg⟩ := List.getElem?_eq_some_iff.mp ho
  have hr : reach n (.loc p) m = [p] := by
    rw [reach, List.filter_append, filter_ge_nil (old_nil h2)]
    have : (locs (.loc p)).filter (n ≤ ·) = [p] := by simp [locs, hp]
    rw [this]
    obtain ⟨q, hq⟩ : ∃ q, m.length = q + 1 := ⟨m.length - 1, by omega⟩
    rw [hq]
    simp only [List.append_nil, visit, List.contains_nil, Bool.false_eq_true, if_false, ho]
    rw [filter_ge_nil h3]
    simp [visit_nil]
  have G : GcOk n (reach n (.loc p) m) (.loc p) m := by
    rw [hr]
    refine ⟨by simp, by omega, ?_, ?_, fun i o hi e l hl => .inl (h2 i o hi e l hl), ?_⟩
    · intro l hl'
      simp at hl'
      subst hl'
      exact ⟨hp, hl⟩
    · intro l hl'
      simp [locs] at hl'
      subst hl'
      exact .inr (by simp)
    · intro i o' hi e l hl'
      simp at hi
      subst hi
      rw [ho] at e
      cases e
      exact .inl (h3 l hl')
  rw [gc, if_pos G, hr, map_ren_id]
  · have : rho n [p] p = n := by rw [rho, if_neg (by omega)]; simp
    simp only [ren, this, List.filterMap_cons, ho, Option.map_some, List.filterMap_nil]
    rw [Ob.ren_id o fun l hl => rho_lt (h3 l hl)]
  · intro o' ho' l hl'
    obtain ⟨i, hi, e⟩ := mem_take_get ho'
    exact rho_lt (h2 i o' hi e l hl')

theorem gc_all {d : D} {m : M} (h2 : Wf m) (h3 : ∀ l ∈ locs d, l < m.length) : gc m.length d m = (d, m) := by
  rw [gc_old (Nat.le_refl _) h2 h3, List.take_length]
theorem Cl1.app {n : Nat} {m m' : M} (h : Cl1 n m) (hn : n ≤ m.length) : Cl1 n (m ++ m') := by
  intro i o hi e
  rw [List.getElem?_append_left (by omega)] at e
  exact h i o hi e
theorem Cl1.set {n p : Nat} {m : M} {o : Ob} (h : Cl1 n m) (ho : ∀ l ∈ o.locs, l < n) : Cl1 n (m.set p o) := by
  intro i o' hi e
  rw [List.getElem?_set] at e
  split at e
  · split at e
    · cases e; exact ho
    · cases e
  · exact h i o' hi e
theorem Wf.set {p : Nat} {m : M} {o : Ob} (h : Wf m) (ho : ∀ l ∈ o.locs, l < m.length) : Wf (m.set p o) := by
  rw [Wf, List.length_set]
  exact Cl1.set h ho
theorem Wf.push {m : M} {o : Ob} (h : Wf m) (ho : ∀ l ∈ o.locs, l < m.length) : Wf (m ++ [o]) := by
  intro i o' hi e l hl
  rw [List.length_append]
  by_cases c : i < m.length
  · rw [List.getElem?_append_left c] at e
    have := h i o' c e l hl
    simp; omega
  · have : i = m.length := by simp at hi; omega
    subst this
    simp at e
    subst e
    have := ho l hl
    simp; omega
theorem locss_ints : ∀ (xs : List Int), locss (xs.map .int) = []
  | [] => rfl
  | x :: xs => by rw [List.map_cons, locss, locss_ints xs]; rfl

/-! ### sizes -/
theorem log2_lt {a n : Nat} (h : a < 2 ^ n) (hn : 0 < n) : a.log2 < n := by
  rcases Nat.eq_zero_or_pos a with h0 | h0
  · subst h0; simpa using hn
  · exact (Nat.log2_lt (by omega)).mpr h
theorem mulOk_of {i j : Int} (hi : i.natAbs < 2 ^ 1000) (hj : j.natAbs < 2 ^ 1000) : mulOk i j := by
  have a := log2_lt hi (by decide)
  have b := log2_lt hj (by decide)
  show i.natAbs.log2 + j.natAbs.log2 < 1000000
  omega
theorem divOk_of {j : Int} (h : j ≠ 0) (hj : j.natAbs < 2 ^ 1000) : divOk j := by
  have b := log2_lt hj (by decide)
  exact ⟨h, by omega⟩
theorem fmod_pos (i : Int) {j : Int} (h : 0 < j) : i.fmod j = i % j := Int.fmod_eq_emod_of_nonneg _ (by omega)
theorem fdiv_pos (i : Int) {j : Int} (h : 0 < j) : i.fdiv j = i / j := Int.fdiv_eq_ediv_of_nonneg _ (by omega)

/-! ### while -/
theorem while_rule {c : Sl → M → R Bool} {b : Sl → M → RS} (I : Nat → Sl → M → Prop) (Q : RS → Prop)
    (step : ∀ n σ m, I n σ m → (∃ m1, c σ m = .ok false m1 ∧ Q (.ok (.nx σ) m1)) ∨
      (∃ m1, c σ m = .ok true m1 ∧ ((∃ σ2 m2 n2, (b σ m1 = .ok (.nx σ2) m2 ∨ b σ m1 = .ok (.ct σ2) m2) ∧ n2 < n ∧ I n2 σ2 m2) ∨
        (∃ σ2 m2, b σ m1 = .ok (.bk σ2) m2 ∧ Q (.ok (.nx σ2) m2)) ∨ (∃ d m2, b σ m1 = .ok (.rt d) m2 ∧ Q (.ok (.rt d) m2)) ∨
        (∃ x σ2 m2, b σ m1 = .exc x σ2 m2 ∧ Q (.exc x σ2 m2))))) :
    ∀ (f n : Nat) (σ : Sl) (m : M), I n σ m → n < f → Q (whileF c b f σ m)
  | 0, _, _, _, _, h => absurd h (Nat.not_lt_zero _)
  | f + 1, n, σ, m, hI, hn => by
    rw [whileF]
    rcases step n σ m hI with ⟨m1, hc, hq⟩ | ⟨m1, hc, h⟩
    · rw [hc]; simpa using hq
    · rw [hc]
      simp only [R.to_ok, if_true]
      rcases h with ⟨σ2, m2, n2, hb, hlt, hI2⟩ | ⟨σ2, m2, hb, hq⟩ | ⟨d, m2, hb, hq⟩ | ⟨x, σ2, m2, hb, hq⟩
      · have := while_rule I Q step f n2 σ2 m2 hI2 (by omega)
        rcases hb with hb | hb <;> rw [hb] <;> exact this
      · rw [hb]; exact hq
      · rw [hb]; exact hq
      · rw [hb]; exact hq
/-! ### the evaluator's equations, as rewriting rules -/
noncomputable def boF (x : Cn) (b : Ss) : Sl → M → RS := fun σ m => exSs x b σ m
noncomputable def tsF (x : Cn) (c : T) : Sl → M → R Bool := fun σ m => evT x c σ m
noncomputable def vaF (x : Cn) (e : E) : Sl → M → R D := fun σ m => ev x e σ m
def yesF : Sl → M → R Bool := fun _ m => .ok true m
def varF (o : Option (Option D)) (m : M) : R D := match o with
  | some (some d) => .ok d m
  | _ => .stuck
@[simp] theorem varF_some (d : D) (m : M) : varF (some (some d)) m = .ok d m := (rfl)
def optF (o : Option D) (m : M) : R D := match o with
  | some d => .ok d m
  | none => .stuck
@[simp] theorem optF_some (d : D) (m : M) : optF (some d) m = .ok d m := (rfl)
def obF (o : Option Bool) (m : M) : R Bool := match o with
  | some d => .ok d m
  | none => .stuck
@[simp] theorem obF_some (d : Bool) (m : M) : obF (some d) m = .ok d m := (rfl)
@[simp] theorem b2r_some (b : Bool) (m : M) : b2r (some b) m = .ok (.bl b) m := (rfl)
def andF (d : D) (r s : R D) : R D := match d with
  | .bl true => r
  | .bl false => s
  | _ => .stuck
@[simp] theorem andF_bl (b : Bool) (r s : R D) : andF (.bl b) r s = if b then r else s := by cases b <;> rfl
def tstF (d : D) (m : M) : R Bool := match d with
  | .bl b => .ok b m
  | _ => .stuck
@[simp] theorem tstF_bl (b : Bool) (m : M) : tstF (.bl b) m = .ok b m := (rfl)
def walF (o : Option Walk) (m : M) : R Walk := match o with
  | some w => .ok w m
  | none => .stuck
@[simp] theorem walF_some (w : Walk) (m : M) : walF (some w) m = .ok w m := (rfl)
def unF (o : Option Sl) (m : M) : RS := match o with
  | some σ' => .ok (.nx σ') m
  | none => .stuck
@[simp] theorem unF_some (σ : Sl) (m : M) : unF (some σ) m = .ok (.nx σ) m := (rfl)
def puF (o : Option M) (σ : Sl) : RS := match o with
  | some m4 => .ok (.nx σ) m4
  | none => .stuck
@[simp] theorem puF_some (σ : Sl) (m : M) : puF (some m) σ = .ok (.nx σ) m := (rfl)
@[simp] theorem bnd_int {α : Type} (i : Int) (m : M) (f : Option Int → M → R α) : bnd (.ok (.int i) m) f = f (some i) m := (rfl)
theorem bnd_congr1 {α : Type} {r r' : R D} {f : Option Int → M → R α} (h : r = r') : bnd r f = bnd r' f := by rw [h]

section
variable (x : Cn) (σ : Sl) (m : M)
@[simp] theorem ev_var (i : Nat) : ev x (.var i) σ m = varF σ[i]? m := by rw [ev]; rfl
@[simp] theorem ev_con (d : D) : ev x (.con d) σ m = .ok d m := by rw [ev]
@[simp] theorem ev_gv (g : Str) : ev x (.gv g) σ m = optF (x.glob g) m := by rw [ev]; rfl
@[simp] theorem ev_bin (o : Bop) (a b : E) : ev x (.bin o a b) σ m = (ev x a σ m).bind fun d m1 => (ev x b σ m1).bind fun e m2 => binF o d e m2 := by rw [ev]
@[simp] theorem ev_neg (a : E) : ev x (.neg a) σ m = (ev x a σ m).bind fun d m1 => negF d m1 := by rw [ev]
@[simp] theorem ev_cmp (o : Cop) (a b : E) : ev x (.cmp o a b) σ m = (ev x a σ m).bind fun d m1 => (ev x b σ m1).bind fun e m2 => cmpF o d e m2 := by rw [ev]
@[simp] theorem ev_chain (o p : Cop) (a b c : E) : ev x (.chain o p a b c) σ m = (ev x a σ m).bind fun d m1 => (ev x b σ m1).bind fun e m2 => (cmpF o d e m2).bind fun t m3 => andF t ((ev x c σ m3).bind fun f m4 => cmpF p e f m4) (.ok (.bl false) m3) := by
  rw [ev]; rfl
@[simp] theorem ev_and (a b : E) : ev x (.and a b) σ m = (ev x a σ m).bind fun d m1 => andF d (ev x b σ m1) (.ok (.bl false) m1) := by rw [ev]; rfl
@[simp] theorem ev_or (a b : E) : ev x (.or a b) σ m = (ev x a σ m).bind fun d m1 => andF d (.ok (.bl true) m1) (ev x b σ m1) := by rw [ev]; rfl
@[simp] theorem ev_not (a : E) : ev x (.not a) σ m = (ev x a σ m).bind fun d m1 => andF d (.ok (.bl false) m1) (.ok (.bl true) m1) := by
  rw [ev]
  cases ev x a σ m with
  | ok d m1 => cases d <;> first | rfl | (rename_i b; cases b <;> rfl)
  | _ => rfl
@[simp] theorem ev_ite (c : T) (a b : E) : ev x (.ite c a b) σ m = (evT x c σ m).bind fun t m1 => if t then ev x a σ m1 else ev x b σ m1 := by rw [ev]
def tupF (ds : List D) (m : M) : R D := if small ds.length then .ok (.tup ds) m else .stuck
def lstF (ds : List D) (m : M) : R D := if small ds.length then .ok (.loc m.length) (m ++ [.lst ds]) else .stuck
@[simp] theorem tupF_ok {ds : List D} {m : M} (h : ds.length ≤ 16777216) : tupF ds m = .ok (.tup ds) m := if_pos h
@[simp] theorem lstF_ok {ds : List D} {m : M} (h : ds.length ≤ 16777216) : lstF ds m = .ok (.loc m.length) (m ++ [.lst ds]) := if_pos h
@[simp] theorem ev_tup (es : Es) : ev x (.tup es) σ m = (evs x es σ m).bind fun ds m1 => tupF ds m1 := by rw [ev]; rfl
@[simp] theorem ev_lst (es : Es) : ev x (.lst es) σ m = (evs x es σ m).bind fun ds m1 => lstF ds m1 := by rw [ev]; rfl
@[simp] theorem ev_call (f : Str) (es : Es) : ev x (.call f es) σ m = (evs x es σ m).bind fun ds m1 => x.call f ds m1 := by rw [ev]
@[simp] theorem ev_bcl (f : Bf) (es : Es) : ev x (.bcl f es) σ m = (evs x es σ m).bind fun ds m1 => bcF f ds m1 := by rw [ev]
@[simp] theorem ev_idx (a i : E) : ev x (.idx a i) σ m = (ev x a σ m).bind fun d m1 => (ev x i σ m1).bind fun e m2 => ixF d e m2 := by rw [ev]
@[simp] theorem ev_slc0 (a : E) : ev x (.slc a none none) σ m = (ev x a σ m).bind fun d m1 => slF d none none m1 := by rw [ev]
@[simp] theorem ev_slc1 (a l : E) : ev x (.slc a (some l) none) σ m = (ev x a σ m).bind fun d m1 => bnd (ev x l σ m1) fun i m2 => slF d i none m2 := by rw [ev]
@[simp] theorem ev_slc2 (a h : E) : ev x (.slc a none (some h)) σ m = (ev x a σ m).bind fun d m1 => bnd (ev x h σ m1) fun i m2 => slF d none i m2 := by rw [ev]
@[simp] theorem ev_slc3 (a l h : E) : ev x (.slc a (some l) (some h)) σ m = (ev x a σ m).bind fun d m1 => bnd (ev x l σ m1) fun i m2 => bnd (ev x h σ m2) fun j m3 => slF d i j m3 := by rw [ev]
@[simp] theorem ev_isi (a : E) (c : Cl) : ev x (.isi a c) σ m = (ev x a σ m).bind fun d m1 => b2r ((tyOf m1 d).bind fun t => isiF x.sub t c) m1 := by rw [ev]
@[simp] theorem ev_isis (a : E) (cs : List Cl) : ev x (.isis a cs) σ m = (ev x a σ m).bind fun d m1 => b2r ((tyOf m1 d).bind fun t => isisF x.sub t cs) m1 := by rw [ev]
@[simp] theorem ev_comp0 (it : It) (tg : Tg) (own : List Nat) (e : E) : ev x (.comp it tg own none e) σ m = (evI x it σ m).bind fun w m1 => compF w.stay tg own σ yesF (vaF x e) m1.length w.ds [] (m1 ++ [.lst []]) := by rw [ev]; rfl
@[simp] theorem ev_comp1 (it : It) (tg : Tg) (own : List Nat) (c : T) (e : E) : ev x (.comp it tg own (some c) e) σ m = (evI x it σ m).bind fun w m1 => compF w.stay tg own σ (tsF x c) (vaF x e) m1.length w.ds [] (m1 ++ [.lst []]) := by rw [ev]; rfl
@[simp] theorem evT_and (a b : T) : evT x (.and a b) σ m = (evT x a σ m).bind fun t m1 => if t then evT x b σ m1 else .ok false m1 := by rw [evT]
@[simp] theorem evT_or (a b : T) : evT x (.or a b) σ m = (evT x a σ m).bind fun t m1 => if t then .ok true m1 else evT x b σ m1 := by rw [evT]
@[simp] theorem evT_not (a : T) : evT x (.not a) σ m = (evT x a σ m).bind fun t m1 => .ok (!t) m1 := by rw [evT]
@[simp] theorem evT_val (e : E) : evT x (.val e) σ m = (ev x e σ m).bind fun d m1 => obF (truth m1 d) m1 := by rw [evT]; rfl
@[simp] theorem evT_tst (e : E) : evT x (.tst e) σ m = (ev x e σ m).bind fun d m1 => tstF d m1 := by rw [evT]; rfl
@[simp] theorem evs_nil : evs x .nil σ m = .ok [] m := by rw [evs]
@[simp] theorem evs_cons (e : E) (es : Es) : evs x (.cons e es) σ m = (ev x e σ m).bind fun d m1 => (evs x es σ m1).bind fun ds m2 => .ok (d :: ds) m2 := by rw [evs]
@[simp] theorem evI_seq (e : E) : evI x (.seq e) σ m = (ev x e σ m).bind fun d m1 => walF (seqF m1 d) m1 := by rw [evI]; rfl
def rn1F (d : D) (m : M) : R Walk := match d with
  | .int n => if inRng n then .ok ⟨rng 0 n.toNat, fun _ => True⟩ m else .stuck
  | _ => .stuck
def rn2F (d e : D) (m : M) : R Walk := match d, e with
  | .int i, .int j => if inRng i ∧ inRng j then .ok ⟨rng i (j - i).toNat, fun _ => True⟩ m else .stuck
  | _, _ => .stuck
@[simp] theorem evI_rng1 (a : E) : evI x (.rng1 a) σ m = (ev x a σ m).bind fun d m1 => rn1F d m1 := by rw [evI]; rfl
@[simp] theorem evI_rng2 (a b : E) : evI x (.rng2 a b) σ m = (ev x a σ m).bind fun d m1 => (ev x b σ m1).bind fun e m2 => rn2F d e m2 := by rw [evI]; rfl
theorem rn1F_int {n : Int} (h : 0 ≤ n ∧ n < 2 ^ 60) : rn1F (.int n) m = .ok ⟨rng 0 n.toNat, fun _ => True⟩ m := by
  show (if inRng n then _ else _) = _
  rw [if_pos]
  exact ⟨by omega, by omega⟩
theorem rn2F_int {i j : Int} (h : (-(2 ^ 60) < i ∧ i < 2 ^ 60) ∧ (-(2 ^ 60) < j ∧ j < 2 ^ 60)) : rn2F (.int i) (.int j) m = .ok ⟨rng i (j - i).toNat, fun _ => True⟩ m := by
  show (if inRng i ∧ inRng j then _ else _) = _
  rw [if_pos]
  exact ⟨⟨by omega, by omega⟩, by omega, by omega⟩
@[simp] theorem exS_set (i : Nat) (e : E) : exS x (.set i e) σ m = (ev x e σ m).to σ fun d m1 => .ok (.nx (σ.set i (some d))) m1 := by rw [exS]
@[simp] theorem exS_par (i j : Nat) (a b : E) : exS x (.par i j a b) σ m = (ev x a σ m).to σ fun d m1 => (ev x b σ m1).to σ fun e m2 => .ok (.nx ((σ.set i (some d)).set j (some e))) m2 := by rw [exS]
@[simp] theorem exS_unp (is : List Nat) (e : E) : exS x (.unp is e) σ m = (ev x e σ m).to σ fun d m1 => unF ((unpk m1 d).bind fun ds => setAll is ds σ) m1 := by rw [exS]; rfl
@[simp] theorem exS_put (a i e : E) : exS x (.put a i e) σ m = (ev x e σ m).to σ fun d m1 => (ev x a σ m1).to σ fun l m2 => (ev x i σ m2).to σ fun k m3 => puF (putF l k d m3) σ := by rw [exS]; rfl
@[simp] theorem exS_expr (e : E) : exS x (.expr e) σ m = (ev x e σ m).to σ fun _ m1 => .ok (.nx σ) m1 := by rw [exS]
@[simp] theorem exS_ret (e : E) : exS x (.ret e) σ m = (ev x e σ m).to σ fun d m1 => .ok (.rt d) m1 := by rw [exS]
@[simp] theorem exS_ret0 : exS x .ret0 σ m = .ok (.rt .non) m := by rw [exS]
@[simp] theorem exS_cond (c : T) (a b : Ss) : exS x (.cond c a b) σ m = (evT x c σ m).to σ fun t m1 => if t then exSs x a σ m1 else exSs x b σ m1 := by rw [exS]
@[simp] theorem exS_loop (c : T) (b : Ss) : exS x (.loop c b) σ m = whileF (tsF x c) (boF x b) fuel σ m := by rw [exS]; rfl
@[simp] theorem exS_iter (it : It) (tg : Tg) (b : Ss) : exS x (.iter it tg b) σ m = (evI x it σ m).to σ fun w m1 => loopF w.stay tg (boF x b) w.ds σ m1 := by rw [exS]; rfl
@[simp] theorem exS_raise (c : Str) : exS x (.raise c) σ m = .exc c σ m := by rw [exS]
noncomputable def tryF (x : Cn) (c : Str) (i : Nat) (h : Ss) (r : RS) : RS := match r with
    | .exc c' σ' m' => (match x.sub c' (.own c) with
      | some true => (exSs x h (σ'.set i (some (.loc m'.length))) (m' ++ [.exc c'])).undo i
      | some false => .exc c' σ' m'
      | none => .stuck)
    | r => r
@[simp] theorem tryF_ok (c : Str) (i : Nat) (h : Ss) (f : Fl) : tryF x c i h (.ok f m) = .ok f m := (rfl)
theorem tryF_yes (c : Str) (i : Nat) (h : Ss) (c' : Str) (hs : x.sub c' (.own c) = some true) : tryF x c i h (.exc c' σ m) = (exSs x h (σ.set i (some (.loc m.length))) (m ++ [.exc c'])).undo i := by
  simp only [tryF, hs]
@[simp] theorem exS_try (b : Ss) (c : Str) (i : Nat) (h : Ss) : exS x (.tryas b c i h) σ m = tryF x c i h (exSs x b σ m) := by rw [exS]; rfl
@[simp] theorem exS_pass : exS x .pass σ m = .ok (.nx σ) m := by rw [exS]
@[simp] theorem exS_brk : exS x .brk σ m = .ok (.bk σ) m := by rw [exS]
@[simp] theorem exS_cont : exS x .cont σ m = .ok (.ct σ) m := by rw [exS]
@[simp] theorem exSs_nil : exSs x .nil σ m = .ok (.nx σ) m := by rw [exSs]
@[simp] theorem exSs_cons (s : S) (ss : Ss) : exSs x (.cons s ss) σ m = (exS x s σ m).andThen fun σ' m' => exSs x ss σ' m' := by rw [exSs]
@[simp] theorem undo_nx (i : Nat) : (RS.ok (.nx σ) m).undo i = .ok (.nx (σ.set i none)) m := (rfl)
end
theorem call_eq {P : Pg} {f : Str} {F : Fn} (hP : P.fn f = some F) (k : Nat) {ds : List D} (m : M) (h : ds.length = F.np) :
    callF P (k + 1) f ds m = endF m.length (exSs (cn P k) F.body (ds.map some ++ List.replicate (F.nv - F.np) none) m) := by
  rw [callF, hP]
  simp only [h, if_true]
theorem end_rt {n : Nat} {d : D} {m : M} : endF n (.ok (.rt d) m) = .ok (gc n d m).1 (gc n d m).2 := rfl
theorem end_nx {n : Nat} {σ : Sl} {m : M} : endF n (.ok (.nx σ) m) = .ok (gc n .non m).1 (gc n .non m).2 := rfl
theorem end_exc {n : Nat} {σ : Sl} {m : M} {c : Str} : endF n (.exc c σ m) = .exc c (gc n .non m).2 := rfl
/-- a call that answers a plain value -/
theorem end_old {n : Nat} {d : D} {m : M} (h1 : n ≤ m.length) (h2 : Cl1 n m) (h3 : ∀ l ∈ locs d, l < n) : endF n (.ok (.rt d) m) = .ok d (m.take n) := by
  rw [end_rt, gc_old h1 h2 h3]
theorem end_all {n : Nat} {d : D} {m : M} (hn : m.length = n) (h2 : Wf m) (h3 : ∀ l ∈ locs d, l < n) : endF n (.ok (.rt d) m) = .ok d m := by
  subst hn
  rw [end_rt, gc_all h2 h3]
theorem end_excall {n : Nat} {σ : Sl} {c : Str} {m : M} (hn : m.length = n) (h2 : Wf m) : endF n (.exc c σ m) = .exc c m := by
  subst hn
  rw [end_exc, gc_all h2 (by simp [locs])]

/-! ### numbers -/
section
variable (m : M) (i j : Int)
@[simp] theorem bin_add : binF .add (.int i) (.int j) m = .ok (.int (i + j)) m := (rfl)
@[simp] theorem bin_sub : binF .sub (.int i) (.int j) m = .ok (.int (i - j)) m := (rfl)
def Mid (i : Int) : Prop := -(10 ^ 250) < i ∧ i < 10 ^ 250
theorem Mid.log {i : Int} (h : Mid i) : i.natAbs.log2 < 1000 := by
  apply log2_lt _ (by decide)
  have : i.natAbs < 10 ^ 250 := by have := h.1; have := h.2; omega
  exact Nat.lt_trans this (by decide +kernel)
theorem bin_mul (h1 : -(10 ^ 250) < i) (h2 : i < 10 ^ 250) (h3 : -(10 ^ 250) < j) (h4 : j < 10 ^ 250) : binF .mul (.int i) (.int j) m = .ok (.int (i * j)) m := by
  have hi : Mid i := ⟨h1, h2⟩
  have hj : Mid j := ⟨h3, h4⟩
  show (if mulOk i j then _ else _) = _
  rw [if_pos]
  have := hi.log
  have := hj.log
  show i.natAbs.log2 + j.natAbs.log2 < 1000000
  omega
theorem bin_fdiv (h : 0 < j) (hj : j < 10 ^ 250) : binF .fdiv (.int i) (.int j) m = .ok (.int (i / j)) m := by
  show (if divOk j then _ else _) = _
  have : Mid j := ⟨by omega, hj⟩
  have := this.log
  rw [if_pos ⟨by omega, by omega⟩, fdiv_pos _ h]
theorem bin_mod (h : 0 < j) : binF .mod (.int i) (.int j) m = .ok (.int (i % j)) m := by
  show (if j ≠ 0 then _ else _) = _
  rw [if_pos (by omega), fmod_pos _ h]
theorem bin_pow {n : Nat} (hn : n ≤ 1000000) (hi : i.natAbs < 2 ^ 64) : binF .pow (.int i) (.int n) m = .ok (.int (i ^ n)) m := by
  show (if powOk i n then _ else _) = _
  rw [if_pos]
  · rw [Int.toNat_natCast]
  · exact ⟨by omega, by omega, hi⟩
theorem bin_pw (h0 : 0 ≤ j) (h1 : j ≤ 1000000) (h2 : -1000000 < i) (h3 : i < 1000000) : binF .pow (.int i) (.int j) m = .ok (.int (i ^ j.toNat)) m := by
  show (if powOk i j then _ else _) = _
  rw [if_pos]
  exact ⟨by omega, by omega, by omega⟩
@[simp] theorem neg_int : negF (.int i) m = .ok (.int (-i)) m := (rfl)
@[simp] theorem cmp_lt : cmpF .lt (.int i) (.int j) m = .ok (.bl (decide (i < j))) m := (rfl)
@[simp] theorem cmp_le : cmpF .le (.int i) (.int j) m = .ok (.bl (decide (i ≤ j))) m := (rfl)
@[simp] theorem cmp_gt : cmpF .gt (.int i) (.int j) m = .ok (.bl (decide (j < i))) m := (rfl)
@[simp] theorem cmp_ge : cmpF .ge (.int i) (.int j) m = .ok (.bl (decide (j ≤ i))) m := (rfl)
@[simp] theorem cmp_eq (x y : D) : cmpF .eq x y m = b2r (eqD m x y) m := by cases x <;> cases y <;> rfl
@[simp] theorem cmp_ne (x y : D) : cmpF .ne x y m = b2r ((eqD m x y).map (!·)) m := by cases x <;> cases y <;> rfl
@[simp] theorem eq_ints : eqD m (.int i) (.int j) = some (decide (i = j)) := (rfl)
@[simp] theorem bc_abs : bcF .abs [.int i] m = .ok (.int i.natAbs) m := by
  show R.ok (D.int (if i < 0 then -i else i)) m = _
  have : (if i < 0 then -i else i) = (i.natAbs : Int) := by split <;> omega
  rw [this]
@[simp] theorem bc_min : bcF .min2 [.int i, .int j] m = .ok (.int (if j < i then j else i)) m := (rfl)
@[simp] theorem bc_max : bcF .max2 [.int i, .int j] m = .ok (.int (if j > i then j else i)) m := (rfl)
end
@[simp] theorem truth_bl (m : M) (b : Bool) : truth m (.bl b) = some b := (rfl)
@[simp] theorem bc_len_tup (m : M) (xs : List D) : bcF .len [.tup xs] m = .ok (.int xs.length) m := (rfl)
theorem bc_len_loc {m : M} {n : Nat} {xs : List D} (h : items m n = some xs) : bcF .len [.loc n] m = .ok (.int xs.length) m := by
  simp only [bcF, h]
theorem ix_loc {m : M} {n : Nat} {xs : List D} {i : Int} {d : D} (h : items m n = some xs) (hi : atI xs i = some d) : ixF (.loc n) (.int i) m = .ok d m := by
  simp only [ixF, h, Option.bind_some, hi]
theorem ix_tup {m : M} {xs : List D} {i : Int} {d : D} (hi : atI xs i = some d) : ixF (.tup xs) (.int i) m = .ok d m := by
  simp only [ixF, hi]
theorem items_lst {m : M} {n : Nat} {xs : List D} (h : m[n]? = some (.lst xs)) : items m n = some xs := by simp only [items, h]
theorem items_fro {m : M} {n : Nat} {xs : List D} (h : m[n]? = some (.fro xs)) : items m n = some xs := by simp only [items, h]

/-! ### for -/
theorem loop_rule {st : M → Prop} {tg : Tg} {b : Sl → M → RS} (I : List D → Sl → M → Prop) (Q : RS → Prop) 
    (hst : ∀ ds σ m, I ds σ m → st m)
    (step : ∀ d ds σ m, I (d :: ds) σ m → ∃ σ1, asgF tg d σ = some σ1 ∧
      ((∃ σ2 m2, (b σ1 m = .ok (.nx σ2) m2 ∨ b σ1 m = .ok (.ct σ2) m2) ∧ I ds σ2 m2) ∨
        (∃ σ2 m2, b σ1 m = .ok (.bk σ2) m2 ∧ Q (.ok (.nx σ2) m2)) ∨ (∃ d m2, b σ1 m = .ok (.rt d) m2 ∧ Q (.ok (.rt d) m2)) ∨
        (∃ x σ2 m2, b σ1 m = .exc x σ2 m2 ∧ Q (.exc x σ2 m2))))
    (done : ∀ σ m, I [] σ m → Q (.ok (.nx σ) m)) :
    ∀ (ds : List D) (σ : Sl) (m : M), I ds σ m → Q (loopF st tg b ds σ m)
  | [], σ, m, hI => by rw [loopF, if_pos (hst _ _ _ hI)]; exact done σ m hI
  | d :: ds, σ, m, hI => by
    rw [loopF, if_pos (hst _ _ _ hI)]
    obtain ⟨σ1, ha, h⟩ := step d ds σ m hI
    rw [ha]
    simp only
    rcases h with ⟨σ2, m2, hb, hI2⟩ | ⟨σ2, m2, hb, hq⟩ | ⟨d, m2, hb, hq⟩ | ⟨x, σ2, m2, hb, hq⟩
    · have := loop_rule I Q hst step done ds σ2 m2 hI2
      rcases hb with hb | hb <;> rw [hb] <;> exact this
    · rw [hb]; exact hq
    · rw [hb]; exact hq
    · rw [hb]; exact hq
theorem rng_cons (i : Int) (n : Nat) : rng i (n + 1) = .int i :: rng (i + 1) n := by
  simp only [rng, List.range_succ_eq_map, List.map_cons, List.map_map]
  congr 1
  · simp
  · apply List.map_congr_left
    intro a _
    simp only [Function.comp]
    congr 1
    omega
@[simp] theorem rng_zero (i : Int) : rng i 0 = [] := (rfl)
end FS

namespace FS
open PySem PySem.Spec PyProof.Rows L2
def fn_greatest_divisor : Fn := ⟨2, 3, (.cons (.set 0 (.bcl .abs (.cons (.var 0) .nil))) (.cons (.set 1 (.bcl .abs (.cons (.var 1) .nil))) (.cons (.loop (.tst (.cmp .gt (.var 1) (.con (.int 0)))) (.cons (.set 2 (.bin .mod (.var 0) (.var 1))) (.cons (.set 0 (.var 1)) (.cons (.set 1 (.var 2)) .nil)))) (.cons (.ret (.var 0)) .nil))))⟩
def fn_number_of : Fn := ⟨2, 3, (.cons (.cond (.tst (.cmp .eq (.var 1) (.con (.int 0)))) (.cons (.raise "NoNumber") .nil) .nil) (.cons (.set 2 (.call "greatest_divisor" (.cons (.var 0) (.cons (.var 1) .nil)))) (.cons (.cond (.tst (.cmp .lt (.var 1) (.con (.int 0)))) (.cons (.set 2 (.bin .sub (.con (.int 0)) (.var 2))) .nil) .nil) (.cons (.ret (.tup (.cons (.bin .fdiv (.var 0) (.var 2)) (.cons (.bin .fdiv (.var 1) (.var 2)) .nil)))) .nil))))⟩
def fn_sum_of : Fn := ⟨2, 2, (.cons (.ret (.call "number_of" (.cons (.bin .add (.bin .mul (.idx (.var 0) (.con (.int 0))) (.idx (.var 1) (.con (.int 1)))) (.bin .mul (.idx (.var 1) (.con (.int 0))) (.idx (.var 0) (.con (.int 1))))) (.cons (.bin .mul (.idx (.var 0) (.con (.int 1))) (.idx (.var 1) (.con (.int 1)))) .nil)))) .nil)⟩
def fn_difference_of : Fn := ⟨2, 2, (.cons (.ret (.call "number_of" (.cons (.bin .sub (.bin .mul (.idx (.var 0) (.con (.int 0))) (.idx (.var 1) (.con (.int 1)))) (.bin .mul (.idx (.var 1) (.con (.int 0))) (.idx (.var 0) (.con (.int 1))))) (.cons (.bin .mul (.idx (.var 0) (.con (.int 1))) (.idx (.var 1) (.con (.int 1)))) .nil)))) .nil)⟩
def fn_product_of : Fn := ⟨2, 2, (.cons (.ret (.call "number_of" (.cons (.bin .mul (.idx (.var 0) (.con (.int 0))) (.idx (.var 1) (.con (.int 0)))) (.cons (.bin .mul (.idx (.var 0) (.con (.int 1))) (.idx (.var 1) (.con (.int 1)))) .nil)))) .nil)⟩
def fn_quotient_of : Fn := ⟨2, 2, (.cons (.ret (.call "number_of" (.cons (.bin .mul (.idx (.var 0) (.con (.int 0))) (.idx (.var 1) (.con (.int 1)))) (.cons (.bin .mul (.idx (.var 0) (.con (.int 1))) (.idx (.var 1) (.con (.int 0)))) .nil)))) .nil)⟩
def fn_is_less : Fn := ⟨2, 2, (.cons (.ret (.cmp .lt (.bin .mul (.idx (.var 0) (.con (.int 0))) (.idx (.var 1) (.con (.int 1)))) (.bin .mul (.idx (.var 1) (.con (.int 0))) (.idx (.var 0) (.con (.int 1)))))) .nil)⟩
def fn_law_pen : Fn := ⟨2, 3, (.cons (.set 2 (.bin .add (.bin .mul (.var 1) (.con (.int 7919))) (.con (.int 5)))) (.cons (.cond (.tst (.cmp .lt (.var 1) (.bcl .len (.cons (.var 0) .nil)))) (.cons (.set 2 (.idx (.var 0) (.var 1))) .nil) (.cons (.cond (.tst (.cmp .gt (.bcl .len (.cons (.var 0) .nil)) (.con (.int 0)))) (.cons (.set 2 (.bin .add (.var 2) (.bin .mul (.bin .mod (.idx (.var 0) (.bin .mod (.var 1) (.bcl .len (.cons (.var 0) .nil)))) (.con (.int 2147483629))) (.con (.int 69621))))) .nil) .nil) .nil)) (.cons (.ret (.lst (.cons (.bin .fdiv (.var 2) (.con (.int 2))) (.cons (.bin .mod (.var 2) (.con (.int 2))) (.cons (.con (.int 0)) .nil))))) .nil)))⟩
def fn_law_take : Fn := ⟨2, 4, (.cons (.put (.var 0) (.con (.int 2)) (.bin .add (.idx (.var 0) (.con (.int 2))) (.con (.int 1)))) (.cons (.cond (.tst (.cmp .eq (.idx (.var 0) (.con (.int 1))) (.con (.int 0)))) (.cons (.set 3 (.bin .mod (.idx (.var 0) (.con (.int 0))) (.var 1))) (.cons (.put (.var 0) (.con (.int 0)) (.bin .fdiv (.idx (.var 0) (.con (.int 0))) (.var 1))) (.cons (.ret (.var 3)) .nil))) .nil) (.cons (.set 2 (.bin .mod (.bin .add (.bin .add (.bin .mod (.idx (.var 0) (.con (.int 0))) (.con (.int 2147483629))) (.bin .mul (.con (.int 48271)) (.idx (.var 0) (.con (.int 2))))) (.con (.int 11))) (.con (.int 2147483629)))) (.cons (.set 2 (.bin .add (.bin .mod (.bin .mul (.var 2) (.var 2)) (.con (.int 2147483587))) (.bin .mul (.con (.int 7919)) (.idx (.var 0) (.con (.int 2)))))) (.cons (.set 2 (.bin .mod (.bin .mul (.var 2) (.var 2)) (.con (.int 2147483629)))) (.cons (.ret (.bin .mod (.bin .fdiv (.var 2) (.con (.int 7))) (.var 1))) .nil))))))⟩
def fn_law_lowest : Fn := ⟨2, 4, (.cons (.set 2 (.bcl .abs (.cons (.var 0) .nil))) (.cons (.set 3 (.bcl .abs (.cons (.var 1) .nil))) (.cons (.loop (.tst (.cmp .gt (.var 3) (.con (.int 0)))) (.cons (.par 2 3 (.var 3) (.bin .mod (.var 2) (.var 3))) .nil)) (.cons (.cond (.tst (.cmp .lt (.var 1) (.con (.int 0)))) (.cons (.set 2 (.bin .sub (.con (.int 0)) (.var 2))) .nil) .nil) (.cons (.ret (.tup (.cons (.bin .fdiv (.var 0) (.var 2)) (.cons (.bin .fdiv (.var 1) (.var 2)) .nil)))) .nil)))))⟩
def fn_law_number : Fn := ⟨1, 3, (.cons (.set 1 (.bin .sub (.call "_law_take" (.cons (.var 0) (.cons (.con (.int 21)) .nil))) (.con (.int 10)))) (.cons (.cond (.tst (.cmp .eq (.call "_law_take" (.cons (.var 0) (.cons (.con (.int 3)) .nil))) (.con (.int 0)))) (.cons (.set 1 (.bin .sub (.call "_law_take" (.cons (.var 0) (.cons (.bin .pow (.con (.int 10)) (.con (.int 9))) .nil))) (.bin .mul (.con (.int 5)) (.bin .pow (.con (.int 10)) (.con (.int 8)))))) .nil) .nil) (.cons (.set 2 (.bin .add (.con (.int 1)) (.call "_law_take" (.cons (.var 0) (.cons (.con (.int 12)) .nil))))) (.cons (.cond (.tst (.cmp .eq (.call "_law_take" (.cons (.var 0) (.cons (.con (.int 3)) .nil))) (.con (.int 0)))) (.cons (.set 2 (.bin .add (.con (.int 1)) (.call "_law_take" (.cons (.var 0) (.cons (.con (.int 9999)) .nil))))) .nil) .nil) (.cons (.ret (.call "_law_lowest" (.cons (.var 1) (.cons (.var 2) .nil)))) .nil)))))⟩
def fn_law_in_turn : Fn := ⟨3, 4, (.cons (.cond (.or (.tst (.cmp .ne (.call "sum_of" (.cons (.var 0) (.cons (.var 1) .nil))) (.call "sum_of" (.cons (.var 1) (.cons (.var 0) .nil))))) (.tst (.cmp .ne (.call "product_of" (.cons (.var 0) (.cons (.var 1) .nil))) (.call "product_of" (.cons (.var 1) (.cons (.var 0) .nil)))))) (.cons (.ret (.con (.bl false))) .nil) .nil) (.cons (.cond (.tst (.cmp .ne (.call "sum_of" (.cons (.call "sum_of" (.cons (.var 0) (.cons (.var 1) .nil))) (.cons (.var 2) .nil))) (.call "sum_of" (.cons (.var 0) (.cons (.call "sum_of" (.cons (.var 1) (.cons (.var 2) .nil))) .nil))))) (.cons (.ret (.con (.bl false))) .nil) .nil) (.cons (.cond (.tst (.cmp .ne (.call "product_of" (.cons (.call "product_of" (.cons (.var 0) (.cons (.var 1) .nil))) (.cons (.var 2) .nil))) (.call "product_of" (.cons (.var 0) (.cons (.call "product_of" (.cons (.var 1) (.cons (.var 2) .nil))) .nil))))) (.cons (.ret (.con (.bl false))) .nil) .nil) (.cons (.set 3 (.call "sum_of" (.cons (.call "product_of" (.cons (.var 0) (.cons (.var 1) .nil))) (.cons (.call "product_of" (.cons (.var 0) (.cons (.var 2) .nil))) .nil)))) (.cons (.ret (.cmp .eq (.call "product_of" (.cons (.var 0) (.cons (.call "sum_of" (.cons (.var 1) (.cons (.var 2) .nil))) .nil))) (.var 3))) .nil)))))⟩
def fn_law_back : Fn := ⟨2, 2, (.cons (.cond (.or (.tst (.cmp .ne (.call "difference_of" (.cons (.call "sum_of" (.cons (.var 0) (.cons (.var 1) .nil))) (.cons (.var 1) .nil))) (.var 0))) (.tst (.cmp .ne (.call "difference_of" (.cons (.var 0) (.cons (.var 0) .nil))) (.tup (.cons (.con (.int 0)) (.cons (.con (.int 1)) .nil)))))) (.cons (.ret (.con (.bl false))) .nil) .nil) (.cons (.cond (.and (.tst (.cmp .ne (.idx (.var 1) (.con (.int 0))) (.con (.int 0)))) (.tst (.cmp .ne (.call "quotient_of" (.cons (.call "product_of" (.cons (.var 0) (.cons (.var 1) .nil))) (.cons (.var 1) .nil))) (.var 0)))) (.cons (.ret (.con (.bl false))) .nil) .nil) (.cons (.ret (.and (.cmp .eq (.call "sum_of" (.cons (.var 0) (.cons (.tup (.cons (.con (.int 0)) (.cons (.con (.int 1)) .nil))) .nil))) (.var 0)) (.cmp .eq (.call "product_of" (.cons (.var 0) (.cons (.tup (.cons (.con (.int 1)) (.cons (.con (.int 1)) .nil))) .nil))) (.var 0)))) .nil)))⟩
def fn_law_order : Fn := ⟨3, 4, (.cons (.set 3 (.call "is_less" (.cons (.var 0) (.cons (.var 1) .nil)))) (.cons (.cond (.or (.tst (.cmp .ne (.var 3) (.call "is_less" (.cons (.call "difference_of" (.cons (.var 0) (.cons (.var 1) .nil))) (.cons (.tup (.cons (.con (.int 0)) (.cons (.con (.int 1)) .nil))) .nil))))) (.val (.call "is_less" (.cons (.var 0) (.cons (.var 0) .nil))))) (.cons (.ret (.con (.bl false))) .nil) .nil) (.cons (.cond (.and (.tst (.cmp .ne (.var 0) (.var 1))) (.tst (.cmp .eq (.var 3) (.call "is_less" (.cons (.var 1) (.cons (.var 0) .nil)))))) (.cons (.ret (.con (.bl false))) .nil) .nil) (.cons (.ret (.cmp .eq (.var 3) (.call "is_less" (.cons (.call "sum_of" (.cons (.var 0) (.cons (.var 2) .nil))) (.cons (.call "sum_of" (.cons (.var 1) (.cons (.var 2) .nil))) .nil))))) .nil))))⟩
def fn_law : Fn := ⟨1, 7, (.cons (.iter (.rng1 (.bin .add (.con (.int 1)) (.bcl .len (.cons (.slc (.var 0) none (some (.con (.int 5)))) .nil)))) (.nm 1) (.cons (.set 2 (.call "_law_pen" (.cons (.var 0) (.cons (.var 1) .nil)))) (.cons (.unp [3, 4, 5] (.comp (.rng1 (.con (.int 3))) (.nm 6) [6] none (.call "_law_number" (.cons (.var 2) .nil)))) (.cons (.cond (.or (.not (.val (.call "_law_in_turn" (.cons (.var 3) (.cons (.var 4) (.cons (.var 5) .nil)))))) (.or (.not (.val (.call "_law_back" (.cons (.var 3) (.cons (.var 4) .nil))))) (.not (.val (.call "_law_back" (.cons (.var 4) (.cons (.var 5) .nil))))))) (.cons (.ret (.con (.bl false))) .nil) .nil) (.cons (.cond (.or (.not (.val (.call "_law_order" (.cons (.var 3) (.cons (.var 4) (.cons (.var 5) .nil)))))) (.or (.not (.val (.call "_law_order" (.cons (.var 4) (.cons (.var 5) (.cons (.var 3) .nil)))))) (.not (.val (.call "_law_order" (.cons (.var 3) (.cons (.var 3) (.cons (.var 4) .nil)))))))) (.cons (.ret (.con (.bl false))) .nil) .nil) .nil))))) (.cons (.ret (.con (.bl true))) .nil))⟩
def subT : List ((Str × Cl) × Bool) := []
def fnT : List (Str × Fn) := [("greatest_divisor", fn_greatest_divisor), ("number_of", fn_number_of), ("sum_of", fn_sum_of), ("difference_of", fn_difference_of), ("product_of", fn_product_of), ("quotient_of", fn_quotient_of), ("is_less", fn_is_less), ("_law_pen", fn_law_pen), ("_law_take", fn_law_take), ("_law_lowest", fn_law_lowest), ("_law_number", fn_law_number), ("_law_in_turn", fn_law_in_turn), ("_law_back", fn_law_back), ("_law_order", fn_law_order), ("law", fn_law)]
def glT : List (Str × D) := []
def pg : Pg := ⟨fun f => fnT.lookup f, fun y => glT.lookup y, fun c k => subT.lookup (c, k)⟩
theorem p_greatest_divisor : pg.fn "greatest_divisor" = some fn_greatest_divisor := by kernel_rfl
theorem p_number_of : pg.fn "number_of" = some fn_number_of := by kernel_rfl
theorem p_sum_of : pg.fn "sum_of" = some fn_sum_of := by kernel_rfl
theorem p_difference_of : pg.fn "difference_of" = some fn_difference_of := by kernel_rfl
theorem p_product_of : pg.fn "product_of" = some fn_product_of := by kernel_rfl
theorem p_quotient_of : pg.fn "quotient_of" = some fn_quotient_of := by kernel_rfl
theorem p_is_less : pg.fn "is_less" = some fn_is_less := by kernel_rfl
theorem p_law_pen : pg.fn "_law_pen" = some fn_law_pen := by kernel_rfl
theorem p_law_take : pg.fn "_law_take" = some fn_law_take := by kernel_rfl
theorem p_law_lowest : pg.fn "_law_lowest" = some fn_law_lowest := by kernel_rfl
theorem p_law_number : pg.fn "_law_number" = some fn_law_number := by kernel_rfl
theorem p_law_in_turn : pg.fn "_law_in_turn" = some fn_law_in_turn := by kernel_rfl
theorem p_law_back : pg.fn "_law_back" = some fn_law_back := by kernel_rfl
theorem p_law_order : pg.fn "_law_order" = some fn_law_order := by kernel_rfl
theorem p_law : pg.fn "law" = some fn_law := by kernel_rfl
end FS

set_option Elab.async false
set_option linter.all false
set_option maxRecDepth 100000
namespace FS
open PySem PySem.Spec PyProof.Rows L2

theorem gcd_mod {x y : Int} (hx : 0 ≤ x) (hy : 0 ≤ y) : Int.gcd y (x % y) = Int.gcd x y := by
  obtain ⟨a, rfl⟩ := Int.eq_ofNat_of_zero_le hx
  obtain ⟨b, rfl⟩ := Int.eq_ofNat_of_zero_le hy
  rw [← Int.natCast_emod]
  show Nat.gcd b (a % b) = Nat.gcd a b
  rw [Nat.gcd_comm b, ← Nat.gcd_rec, Nat.gcd_comm]
/-- Euclid's walk as the code does it: rest = one % other; one = other; other = rest -/
theorem gcd_while (c : Sl → M → R Bool) (b : Sl → M → RS) (mk : Int → Int → Sl → Prop) (m : M)
    (hc : ∀ x y σ, mk x y σ → c σ m = .ok (decide (0 < y)) m)
    (hb : ∀ x y σ, mk x y σ → 0 < y → ∃ σ', b σ m = .ok (.nx σ') m ∧ mk y (x % y) σ') :
    ∀ (t : Nat) (j : Nat) (x y : Int) (σ : Sl), 0 ≤ x → 0 ≤ y → y < 2 ^ t → mk x y σ →
      ∃ σ', whileF c b (2 * t + 1 + j) σ m = .ok (.nx σ') m ∧ mk (Int.gcd x y) 0 σ'
  | 0, j, x, y, σ, hx, hy, ht, hs => by
    have : y = 0 := by have : y < 1 := by simpa using ht
                       omega
    subst this
    refine ⟨σ, ?_, ?_⟩
    · rw [show 2 * 0 + 1 + j = j + 1 by omega, whileF, hc _ _ _ hs]; simp
    · rw [Int.gcd_zero_right, Int.natAbs_of_nonneg hx]; exact hs
  | t + 1, j, x, y, σ, hx, hy, ht, hs => by
    by_cases h0 : 0 < y
    · obtain ⟨σ1, hb1, hs1⟩ := hb _ _ _ hs h0
      have e1 : 0 ≤ x % y := Int.emod_nonneg _ (by omega)
      have e2 : x % y < y := Int.emod_lt_of_pos _ h0
      have g1 : Int.gcd y (x % y) = Int.gcd x y := gcd_mod hx hy
      by_cases h1 : 0 < x % y
      · obtain ⟨σ2, hb2, hs2⟩ := hb _ _ _ hs1 h1
        have f1 : 0 ≤ y % (x % y) := Int.emod_nonneg _ (by omega)
        have f2 : y % (x % y) < x % y := Int.emod_lt_of_pos _ h1
        have f3 : 2 * (y % (x % y)) < y := by
          have := Int.mul_ediv_add_emod y (x % y)
          have q : 1 ≤ y / (x % y) := Int.le_ediv_of_mul_le h1 (by omega)
          have := Int.mul_le_mul_of_nonneg_left q (show 0 ≤ x % y by omega)
          omega
        have g2 : Int.gcd (x % y) (y % (x % y)) = Int.gcd y (x % y) := gcd_mod hy (by omega)
        obtain ⟨σ3, hw, hs3⟩ := gcd_while c b mk m hc hb t j (x % y) (y % (x % y)) σ2 e1 f1 (by rw [Int.pow_succ] at ht; omega) hs2
        refine ⟨σ3, ?_, ?_⟩
        · rw [show 2 * (t + 1) + 1 + j = (2 * t + 1 + j) + 1 + 1 by omega, whileF, hc _ _ _ hs]
          simp only [R.to_ok, h0, decide_true, if_true, hb1]
          rw [whileF, hc _ _ _ hs1]
          simp only [R.to_ok, h1, decide_true, if_true, hb2]
          exact hw
        · rw [← g1, ← g2]; exact hs3
      · refine ⟨σ1, ?_, ?_⟩
        · rw [show 2 * (t + 1) + 1 + j = (2 * t + 1 + j) + 1 + 1 by omega, whileF, hc _ _ _ hs]
          simp only [R.to_ok, h0, decide_true, if_true, hb1]
          rw [whileF, hc _ _ _ hs1]
          simp [h1]
        · have : x % y = 0 := by omega
          rw [← g1, this, Int.gcd_zero_right, Int.natAbs_of_nonneg hy]
          rw [this] at hs1
          exact hs1
    · have : y = 0 := by omega
      subst this
      refine ⟨σ, ?_, ?_⟩
      · rw [show 2 * (t + 1) + 1 + j = (2 * t + 2 + j) + 1 by omega, whileF, hc _ _ _ hs]; simp
      · rw [Int.gcd_zero_right, Int.natAbs_of_nonneg hx]; exact hs


theorem s_greatest_divisor (k : Nat) (m : M) (hw : Wf m) (x y : Int) (hy : Mid y) :
    callF pg (k + 1) "greatest_divisor" [.int x, .int y] m = .ok (.int (Int.gcd x y)) m := by
  rw [call_eq p_greatest_divisor k m rfl]
  simp [fn_greatest_divisor]
  obtain ⟨σ', hW, r, rfl⟩ := gcd_while (tsF (cn pg k) (.tst (.cmp .gt (.var 1) (.con (.int 0))))) (boF (cn pg k) (.cons (.set 2 (.bin .mod (.var 0) (.var 1))) (.cons (.set 0 (.var 1)) (.cons (.set 1 (.var 2)) .nil))))
    (fun x y σ => ∃ r, σ = [some (.int x), some (.int y), r]) m
    (by
      rintro x y σ ⟨r, rfl⟩
      simp [tsF])
    (by
      rintro x y σ ⟨r, rfl⟩ h
      refine ⟨[some (.int y), some (.int (x % y)), some (.int (x % y))], ?_, ⟨_, rfl⟩⟩
      simp [boF, bin_mod _ _ _ h])
    1000 (2 ^ 64 - 2001) x.natAbs y.natAbs [some (.int x.natAbs), some (.int y.natAbs), none] (by omega) (by omega) (Int.lt_trans (by have := hy.1; have := hy.2; omega : (y.natAbs : Int) < 10 ^ 250) (by decide +kernel)) ⟨_, rfl⟩
  rw [show fuel = 2 * 1000 + 1 + (2 ^ 64 - 2001) by decide, hW]
  simp
  rw [end_all rfl hw (by simp [locs])]
  simp [Int.gcd]

theorem eq_tt (m : M) (a b c d : Int) : eqD m (.tup [.int a, .int b]) (.tup [.int c, .int d]) = some (decide (a = c) && decide (b = d)) := by
  have h1 : SeqAt.shaped (.tuple [.int a, .int b]) = true := rfl
  have h2 : SeqAt.shaped (.tuple [.int c, .int d]) = true := rfl
  simp [eqD, scEq, toPd, toPds, h1, h2, PyData.eqv, PyData.eqvAll]
  rfl
theorem bin_fdiv_dvd {m : M} {i j : Int} (h : j ≠ 0) (hj : Mid j) (hd : j ∣ i) : binF .fdiv (.int i) (.int j) m = .ok (.int (i / j)) m := by
  show (if divOk j then _ else _) = _
  have := hj.log
  rw [if_pos ⟨by omega, by omega⟩, Int.fdiv_eq_ediv_of_dvd hd]
/-- what both numbers are divided by -/
def bys (t b : Int) : Int := if b < 0 then -(Int.gcd t b : Int) else Int.gcd t b
def low (t b : Int) : D := .tup [.int (t / bys t b), .int (b / bys t b)]
theorem gcd_le {t b : Int} (hb : b ≠ 0) : 0 < Int.gcd t b ∧ Int.gcd t b ≤ b.natAbs := by
  have h : 0 < Int.gcd t b := by
    rcases Nat.eq_zero_or_pos (Int.gcd t b) with h | h
    · exact absurd (Int.gcd_eq_zero_iff.mp h).2 hb
    · exact h
  exact ⟨h, Nat.le_of_dvd (by omega) (Int.natAbs_dvd_natAbs.mpr (Int.gcd_dvd_right t b))⟩
theorem bys_ok {t b : Int} (hb : b ≠ 0) (hB : Mid b) : bys t b ≠ 0 ∧ Mid (bys t b) ∧ bys t b ∣ t ∧ bys t b ∣ b ∧ 0 < b / bys t b := by
  have ⟨h1, h2⟩ := gcd_le (t := t) hb
  have d1 : (Int.gcd t b : Int) ∣ t := Int.gcd_dvd_left t b
  have d2 : (Int.gcd t b : Int) ∣ b := Int.gcd_dvd_right t b
  have := hB.1
  have := hB.2
  unfold bys
  split
  · refine ⟨by omega, ⟨by omega, by omega⟩, Int.neg_dvd.mpr d1, Int.neg_dvd.mpr d2, ?_⟩
    rw [Int.ediv_neg]
    obtain ⟨q, hq⟩ := d2
    have hq' : b / (Int.gcd t b : Int) = q := Int.ediv_eq_of_eq_mul_right (by omega) hq
    rw [hq']
    have : ¬ 0 ≤ q := fun c => by
      have := Int.mul_nonneg (show (0:Int) ≤ (Int.gcd t b : Int) by omega) c
      omega
    omega
  · refine ⟨by omega, ⟨by omega, by omega⟩, d1, d2, ?_⟩
    obtain ⟨q, hq⟩ := d2
    have hq' : b / (Int.gcd t b : Int) = q := Int.ediv_eq_of_eq_mul_right (by omega) hq
    rw [hq']
    have : ¬ q ≤ 0 := fun c => by
      have := Int.mul_nonneg (show (0:Int) ≤ (Int.gcd t b : Int) by omega) (show 0 ≤ -q by omega)
      rw [Int.mul_neg] at this
      omega
    omega

theorem s_number_of (k : Nat) (m : M) (hw : Wf m) (t b : Int) (hb : b ≠ 0) (hB : Mid b) : callF pg (k + 2) "number_of" [.int t, .int b] m = .ok (low t b) m := by
  rw [call_eq p_number_of (k + 1) m rfl]
  have ⟨h1, h2, h3, h4, _⟩ := bys_ok (t := t) hb hB
  unfold low
  by_cases hn : b < 0
  · have e : bys t b = -(Int.gcd t b : Int) := if_pos hn
    rw [e] at h1 h2 h3 h4 ⊢
    simp [fn_number_of, hb, s_greatest_divisor k m hw t b hB, hn, bin_fdiv_dvd h1 h2 h3, bin_fdiv_dvd h1 h2 h4]
    rw [end_all rfl hw (by simp [locs, locss])]
  · have e : bys t b = (Int.gcd t b : Int) := if_neg hn
    rw [e] at h1 h2 h3 h4 ⊢
    simp [fn_number_of, hb, s_greatest_divisor k m hw t b hB, hn, bin_fdiv_dvd h1 h2 h3, bin_fdiv_dvd h1 h2 h4]
    rw [end_all rfl hw (by simp [locs, locss])]
theorem s_number_of_0 (k : Nat) (m : M) (hw : Wf m) (t : Int) : callF pg (k + 1) "number_of" [.int t, .int 0] m = .exc "NoNumber" m := by
  rw [call_eq p_number_of k m rfl]
  simp [fn_number_of]
  rw [end_excall rfl hw]
end FS

set_option Elab.async false
set_option linter.all false
set_option maxRecDepth 100000
namespace FS
open PySem PySem.Spec PyProof.Rows L2
theorem s_law_lowest (k : Nat) (m : M) (hw : Wf m) (t b : Int) (hb : b ≠ 0) (hB : Mid b) : callF pg (k + 1) "_law_lowest" [.int t, .int b] m = .ok (low t b) m := by
  rw [call_eq p_law_lowest k m rfl]
  have ⟨h1, h2, h3, h4, _⟩ := bys_ok (t := t) hb hB
  simp [fn_law_lowest]
  obtain ⟨σ', hW, rfl⟩ := gcd_while (tsF (cn pg k) (.tst (.cmp .gt (.var 3) (.con (.int 0))))) (boF (cn pg k) (.cons (.par 2 3 (.var 3) (.bin .mod (.var 2) (.var 3))) .nil))
    (fun x y σ => σ = [some (.int t), some (.int b), some (.int x), some (.int y)]) m
    (by
      rintro x y σ rfl
      simp [tsF])
    (by
      rintro x y σ rfl h
      refine ⟨_, ?_, rfl⟩
      simp [boF, bin_mod _ _ _ h])
    1000 (2 ^ 64 - 2001) t.natAbs b.natAbs [some (.int t), some (.int b), some (.int t.natAbs), some (.int b.natAbs)] (by omega) (by omega) (Int.lt_trans (by have := hB.1; have := hB.2; omega : (b.natAbs : Int) < 10 ^ 250) (by decide +kernel)) rfl
  rw [show fuel = 2 * 1000 + 1 + (2 ^ 64 - 2001) by decide, hW]
  have hg : (((t.natAbs : Int).gcd (b.natAbs : Int) : Nat) : Int) = (Int.gcd t b : Int) := by simp [Int.gcd]
  rw [hg]
  unfold low
  by_cases hn : b < 0
  · have e : bys t b = -(Int.gcd t b : Int) := if_pos hn
    rw [e] at h1 h2 h3 h4 ⊢
    simp [hn, bin_fdiv_dvd h1 h2 h3, bin_fdiv_dvd h1 h2 h4]
    rw [end_all rfl hw (by simp [locs, locss])]
  · have e : bys t b = (Int.gcd t b : Int) := if_neg hn
    rw [e] at h1 h2 h3 h4 ⊢
    simp [hn, bin_fdiv_dvd h1 h2 h3, bin_fdiv_dvd h1 h2 h4]
    rw [end_all rfl hw (by simp [locs, locss])]

end FS

set_option Elab.async false
set_option linter.all false
set_option maxRecDepth 100000
namespace FS
open PySem PySem.Spec PyProof.Rows L2
/-- a pen -/
def pn (a b c : Int) : Ob := .lst [.int a, .int b, .int c]
theorem atI_nat {α : Type} (xs : List α) (i : Int) (h : 0 ≤ i) (hi : i < xs.length) : atI xs i = xs[i.toNat]? := by
  simp only [atI, ixN, if_pos h, if_pos hi, Option.bind_some]
theorem at_pn {m : M} {n : Nat} (hn : n < m.length) (o : Ob) : (m.set n o)[n]? = some o := by
  rw [List.getElem?_set_self hn]
theorem ix_pn0 {m : M} {n : Nat} (hn : n < m.length) (a b c : Int) : ixF (.loc n) (.int 0) (m.set n (pn a b c)) = .ok (.int a) (m.set n (pn a b c)) := ix_loc (items_lst (at_pn hn _)) rfl
theorem ix_pn1 {m : M} {n : Nat} (hn : n < m.length) (a b c : Int) : ixF (.loc n) (.int 1) (m.set n (pn a b c)) = .ok (.int b) (m.set n (pn a b c)) := ix_loc (items_lst (at_pn hn _)) rfl
theorem ix_pn2 {m : M} {n : Nat} (hn : n < m.length) (a b c : Int) : ixF (.loc n) (.int 2) (m.set n (pn a b c)) = .ok (.int c) (m.set n (pn a b c)) := ix_loc (items_lst (at_pn hn _)) rfl
theorem put_pn0 {m : M} {n : Nat} (hn : n < m.length) (a b c x : Int) : putF (.loc n) (.int 0) (.int x) (m.set n (pn a b c)) = some (m.set n (pn x b c)) := by
  simp only [putF, at_pn hn, pn]
  show some ((m.set n _).set n _) = _
  rw [List.set_set]; rfl
theorem put_pn2 {m : M} {n : Nat} (hn : n < m.length) (a b c x : Int) : putF (.loc n) (.int 2) (.int x) (m.set n (pn a b c)) = some (m.set n (pn a b x)) := by
  simp only [putF, at_pn hn, pn]
  show some ((m.set n _).set n _) = _
  rw [List.set_set]; rfl
theorem wf_pn {m : M} {n : Nat} (hw : Wf m) (a b c : Int) : Wf (m.set n (pn a b c)) := hw.set (by simp [pn, Ob.locs, locss, locs])


def tk2 (a c : Int) : Int :=
  ((((a % 2147483629 + 48271 * c + 11) % 2147483629) * ((a % 2147483629 + 48271 * c + 11) % 2147483629) % 2147483587 + 7919 * c) *
    (((a % 2147483629 + 48271 * c + 11) % 2147483629) * ((a % 2147483629 + 48271 * c + 11) % 2147483629) % 2147483587 + 7919 * c) % 2147483629) / 7
theorem s_take (k : Nat) {m : M} {n : Nat} (hn : n < m.length) (hw : Wf m) (a b c most : Int) (h1 : 0 < most) (h2 : most < 10 ^ 250) (hc : 0 ≤ c ∧ c < 2 ^ 60) :
    ∃ r a', callF pg (k + 1) "_law_take" [.loc n, .int most] (m.set n (pn a b c)) = .ok (.int r) (m.set n (pn a' b (c + 1))) ∧ 0 ≤ r ∧ r < most := by
  obtain ⟨hc1, hc2⟩ := hc
  by_cases hb : b = 0
  · subst hb
    refine ⟨a % most, a / most, ?_, Int.emod_nonneg _ (by omega), Int.emod_lt_of_pos _ h1⟩
    rw [call_eq p_law_take k _ rfl]
    simp [fn_law_take, ix_pn0 hn, ix_pn1 hn, ix_pn2 hn, put_pn0 hn, put_pn2 hn, bin_mod _ _ _ h1, bin_fdiv _ _ _ h1 h2]
    rw [end_all (by simp) (wf_pn hw _ _ _) (by simp [locs])]
  · refine ⟨tk2 a (c + 1) % most, a, ?_, Int.emod_nonneg _ (by omega), Int.emod_lt_of_pos _ h1⟩
    rw [call_eq p_law_take k _ rfl]
    simp [fn_law_take, ix_pn0 hn, ix_pn1 hn, ix_pn2 hn, put_pn0 hn, put_pn2 hn, hb, bin_mod]
    rw [bin_mul] <;> try omega
    simp [bin_mod, ix_pn2 hn]
    rw [bin_mul] <;> try omega
    simp [bin_mod, ix_pn2 hn]
    rw [bin_mul] <;> try omega
    simp
    rw [bin_mul] <;> try omega
    simp [bin_mod, bin_fdiv, bin_mod _ _ _ h1]
    rw [end_all (by simp) (wf_pn hw _ _ _) (by simp [locs])]
    rfl
theorem s_pen (k : Nat) {m : M} {ns : List Int} (h0 : m[0]? = some (.fro (ns.map .int))) (hl : ns.length < 2 ^ 40) (hw : Wf m) (a : Int) (ha : 0 ≤ a ∧ a < 2 ^ 40) :
    ∃ x y, callF pg (k + 1) "_law_pen" [.loc 0, .int a] m = .ok (.loc m.length) (m ++ [pn x y 0]) := by
  obtain ⟨ha1, ha2⟩ := ha
  have hI := items_fro h0
  have hL := bc_len_loc hI
  have hlen : (ns.map D.int).length = ns.length := List.length_map _
  rw [hlen] at hL
  have fin : ∀ (x : Int) (m' : M), m' = m ++ [pn (x / 2) (x % 2) 0] → ∃ x y, endF m.length (.ok (.rt (.loc m.length)) m') = .ok (.loc m.length) (m ++ [pn x y 0]) := by
    intro x m' e
    subst e
    refine ⟨x / 2, x % 2, ?_⟩
    rw [end_rt, gc_new (Nat.le_refl _) (o := pn (x / 2) (x % 2) 0) (by simp) (hw.app (Nat.le_refl _)) (by simp [pn, Ob.locs, locss, locs])]
    simp
  rw [call_eq p_law_pen k _ rfl]
  have hpos : 0 < m.length := by
    rcases Nat.eq_zero_or_pos m.length with h | h
    · have : m = [] := List.length_eq_zero_iff.mp h
      subst this; simp at h0
    · exact h
  by_cases h1 : a < ns.length
  · obtain ⟨v, hv⟩ : ∃ v, ns[a.toNat]? = some v := ⟨_, List.getElem?_eq_getElem (by omega)⟩
    have hx := ix_loc (m := m) hI (i := a) (d := .int v) (by rw [atI_nat _ _ ha1 (by rw [hlen]; omega), List.getElem?_map, hv]; rfl)
    simp [fn_law_pen]
    rw [bin_mul] <;> try omega
    simp [hL, h1, hx, bin_fdiv, bin_mod]
    exact fin v _ rfl
  · by_cases h2 : 0 < ns.length
    · obtain ⟨v, hv⟩ : ∃ v, ns[(a % ns.length).toNat]? = some v := ⟨_, List.getElem?_eq_getElem (by have := Int.emod_lt_of_pos a (show 0 < (ns.length : Int) by omega); have := Int.emod_nonneg a (show (ns.length : Int) ≠ 0 by omega); omega)⟩
      have hx := ix_loc (m := m) hI (i := a % ns.length) (d := .int v) (by rw [atI_nat _ _ (Int.emod_nonneg a (by omega)) (by rw [hlen]; exact Int.emod_lt_of_pos a (by omega)), List.getElem?_map, hv]; rfl)
      simp [fn_law_pen]
      rw [bin_mul] <;> try omega
      simp [hL, h1, h2, bin_mod _ _ _ (show 0 < (ns.length : Int) by omega), hx]
      simp [bin_mod]
      rw [bin_mul] <;> try omega
      simp [bin_fdiv, bin_mod]
      exact fin _ _ rfl
    · have : (ns.length : Int) = 0 := by omega
      rw [this] at hL
      simp [fn_law_pen]
      rw [bin_mul] <;> try omega
      simp [hL, bin_fdiv, bin_mod, show ¬ a < 0 by omega]
      exact fin _ _ rfl
end FS

set_option Elab.async false
set_option linter.all false
set_option maxRecDepth 100000
namespace FS
open PySem PySem.Spec PyProof.Rows L2
theorem low_low {t b : Int} (hb : b ≠ 0) (hB : Mid b) : low (t / bys t b) (b / bys t b) = low t b := by
  have ⟨h1, _, h3, h4, h5⟩ := bys_ok (t := t) hb hB
  have hg : Int.gcd (t / bys t b) (b / bys t b) = 1 := by
    have hp : 0 < Int.gcd t b := (gcd_le hb).1
    have d1 : (Int.gcd t b : Int) ∣ t := Int.gcd_dvd_left t b
    have d2 : (Int.gcd t b : Int) ∣ b := Int.gcd_dvd_right t b
    have this : Int.gcd (t / (Int.gcd t b : Int)) (b / (Int.gcd t b : Int)) = 1 := by
      rw [Int.gcd, Int.natAbs_ediv_of_dvd d1, Int.natAbs_ediv_of_dvd d2, Int.natAbs_natCast]
      exact (Nat.gcd_div (Nat.gcd_dvd_left _ _) (Nat.gcd_dvd_right _ _)).trans (Nat.div_self hp)
    unfold bys
    split
    · rw [Int.ediv_neg, Int.ediv_neg, Int.gcd_neg, Int.neg_gcd]; exact this
    · exact this
  have : bys (t / bys t b) (b / bys t b) = 1 := by
    rw [bys, if_neg (by omega), hg]; rfl
  rw [low, this, Int.ediv_one, Int.ediv_one]
  rfl
theorem cross {t b g : Int} (h1 : g ≠ 0) (h3 : g ∣ t) (h4 : g ∣ b) : t / g * b = t * (b / g) := by
  obtain ⟨p, rfl⟩ := h3
  obtain ⟨q, rfl⟩ := h4
  rw [Int.mul_ediv_cancel_left _ h1, Int.mul_ediv_cancel_left _ h1, Int.mul_left_comm, Int.mul_assoc]

/-! ### sizes in figures -/
def Sz (n : Nat) (i : Int) : Prop := i.natAbs < 10 ^ n
theorem Sz.mul {p q : Nat} {i j : Int} (h : Sz p i) (k : Sz q j) : Sz (p + q) (i * j) := by
  unfold Sz at *
  rw [Int.natAbs_mul, Nat.pow_add]
  exact Nat.mul_lt_mul_of_lt_of_le h (Nat.le_of_lt k) (Nat.pos_of_ne_zero (by omega))
theorem Sz.mono {p q : Nat} {i : Int} (h : Sz p i) (k : p ≤ q) : Sz q i := Nat.lt_of_lt_of_le h (Nat.pow_le_pow_right (by omega) k)
theorem Sz.add {p : Nat} {i j : Int} (h : Sz p i) (k : Sz p j) : Sz (p + 1) (i + j) := by
  unfold Sz at *
  rw [Nat.pow_succ]
  omega
theorem Sz.sub {p : Nat} {i j : Int} (h : Sz p i) (k : Sz p j) : Sz (p + 1) (i - j) := by
  unfold Sz at *
  rw [Nat.pow_succ]
  omega
theorem Sz.mid {p : Nat} {i : Int} (h : Sz p i) (k : p ≤ 250) : Mid i := by
  have := Sz.mono h k
  unfold Sz at this
  exact ⟨by omega, by omega⟩
theorem bin_mulS {m : M} {p q : Nat} {i j : Int} (h : Sz p i) (k : Sz q j) (hp : p ≤ 250) (hq : q ≤ 250) : binF .mul (.int i) (.int j) m = .ok (.int (i * j)) m :=
  bin_mul m i j (h.mid hp).1 (h.mid hp).2 (k.mid hq).1 (k.mid hq).2

/-! ### numbers in lowest terms -/
theorem low_parts {t b : Int} (hb : b ≠ 0) {p q : Nat} (ht : Sz p t) (hB : Sz q b) (hq : q ≤ 250) :
    ∃ u v, low t b = .tup [.int u, .int v] ∧ 0 < v ∧ u * b = t * v ∧ Sz p u ∧ Sz q v ∧ low u v = low t b := by
  have ⟨h1, _, h3, h4, h5⟩ := bys_ok (t := t) hb (hB.mid hq)
  refine ⟨t / bys t b, b / bys t b, rfl, h5, cross h1 h3 h4, ?_, ?_, low_low hb (hB.mid hq)⟩
  · exact Nat.lt_of_le_of_lt (Int.natAbs_ediv_le_natAbs _ _) ht
  · exact Nat.lt_of_le_of_lt (Int.natAbs_ediv_le_natAbs _ _) hB
theorem dvd_cop {v u w : Int} (h : v ∣ u * w) (g : Int.gcd u v = 1) : v ∣ w := by
  rw [← Int.natAbs_dvd_natAbs] at h ⊢
  rw [Int.natAbs_mul] at h
  exact Nat.Coprime.dvd_of_dvd_mul_left (Nat.Coprime.symm g) h
theorem coprime_eq {u v u' v' : Int} (hv : 0 < v) (hv' : 0 < v') (g : Int.gcd u v = 1) (g' : Int.gcd u' v' = 1) (h : u * v' = u' * v) : u = u' ∧ v = v' := by
  have d1 : v ∣ v' := by
    have : v ∣ u * v' := ⟨u', by rw [h, Int.mul_comm]⟩
    exact dvd_cop this g
  have d2 : v' ∣ v := by
    have : v' ∣ u' * v := ⟨u, by rw [← h, Int.mul_comm]⟩
    exact dvd_cop this g'
  have e : v = v' := Int.dvd_antisymm (by omega) (by omega) d1 d2
  subst e
  exact ⟨Int.eq_of_mul_eq_mul_right (by omega) h, rfl⟩
theorem gcd_low {t b : Int} (hb : b ≠ 0) : Int.gcd (t / bys t b) (b / bys t b) = 1 := by
  have hp : 0 < Int.gcd t b := (gcd_le hb).1
  have d1 : (Int.gcd t b : Int) ∣ t := Int.gcd_dvd_left t b
  have d2 : (Int.gcd t b : Int) ∣ b := Int.gcd_dvd_right t b
  have this : Int.gcd (t / (Int.gcd t b : Int)) (b / (Int.gcd t b : Int)) = 1 := by
    rw [Int.gcd, Int.natAbs_ediv_of_dvd d1, Int.natAbs_ediv_of_dvd d2, Int.natAbs_natCast]
    exact (Nat.gcd_div (Nat.gcd_dvd_left _ _) (Nat.gcd_dvd_right _ _)).trans (Nat.div_self hp)
  unfold bys
  split
  · rw [Int.ediv_neg, Int.ediv_neg, Int.gcd_neg, Int.neg_gcd]; exact this
  · exact this
theorem low_eq {t b t' b' : Int} (hb : b ≠ 0) (hB : Mid b) (hb' : b' ≠ 0) (hB' : Mid b') (h : t * b' = t' * b) : low t b = low t' b' := by
  have ⟨h1, _, h3, h4, h5⟩ := bys_ok (t := t) hb hB
  have ⟨i1, _, i3, i4, i5⟩ := bys_ok (t := t') hb' hB'
  have c1 := cross h1 h3 h4
  have c2 := cross i1 i3 i4
  have hx : (t / bys t b) * (b' / bys t' b') = (t' / bys t' b') * (b / bys t b) := by
    apply Int.eq_of_mul_eq_mul_right (a := b * b') (Int.mul_ne_zero hb hb')
    generalize t / bys t b = u at *
    generalize b / bys t b = v at *
    generalize t' / bys t' b' = u' at *
    generalize b' / bys t' b' = v' at *
    grind
  have := coprime_eq h5 i5 (gcd_low hb) (gcd_low hb') hx
  rw [low, low, this.1, this.2]
theorem low_ne {t b t' b' : Int} (hb : b ≠ 0) (hB : Mid b) (hb' : b' ≠ 0) (hB' : Mid b') (h : low t b = low t' b') : t * b' = t' * b := by
  have ⟨h1, _, h3, h4, h5⟩ := bys_ok (t := t) hb hB
  have ⟨i1, _, i3, i4, i5⟩ := bys_ok (t := t') hb' hB'
  have c1 := cross h1 h3 h4
  have c2 := cross i1 i3 i4
  simp only [low, D.tup.injEq, List.cons.injEq, D.int.injEq, and_true] at h
  obtain ⟨e1, e2⟩ := h
  rw [← e1, ← e2] at c2
  generalize t / bys t b = u at *
  generalize b / bys t b = v at *
  apply Int.eq_of_mul_eq_mul_right (a := v) (by omega)
  grind
@[simp] theorem ix_t20 (a b : D) (m : M) : ixF (.tup [a, b]) (.int 0) m = .ok a m := (rfl)
@[simp] theorem ix_t21 (a b : D) (m : M) : ixF (.tup [a, b]) (.int 1) m = .ok b m := (rfl)
end FS

set_option Elab.async false
set_option linter.all false
set_option maxRecDepth 100000
namespace FS
open PySem PySem.Spec PyProof.Rows L2
theorem s_sum (k : Nat) {m : M} (hw : Wf m) {x y z w : Int} (hx : Sz 100 x) (hy : Sz 100 y) (hz : Sz 100 z) (hv : Sz 100 w) (h1 : y ≠ 0) (h2 : w ≠ 0) :
    callF pg (k + 3) "sum_of" [.tup [.int x, .int y], .tup [.int z, .int w]] m = .ok (low (x * w + z * y) (y * w)) m := by
  rw [call_eq p_sum_of (k + 2) _ rfl]
  simp [fn_sum_of, bin_mulS hx hv, bin_mulS hz hy, bin_mulS hy hv, bin_mulS hx hz, s_number_of k m hw (x * w + z * y) (y * w) (Int.mul_ne_zero h1 h2) ((hy.mul hv).mid (by omega))]
  rw [end_all rfl hw (by simp [low, locs, locss])]
theorem s_diff (k : Nat) {m : M} (hw : Wf m) {x y z w : Int} (hx : Sz 100 x) (hy : Sz 100 y) (hz : Sz 100 z) (hv : Sz 100 w) (h1 : y ≠ 0) (h2 : w ≠ 0) :
    callF pg (k + 3) "difference_of" [.tup [.int x, .int y], .tup [.int z, .int w]] m = .ok (low (x * w - z * y) (y * w)) m := by
  rw [call_eq p_difference_of (k + 2) _ rfl]
  simp [fn_difference_of, bin_mulS hx hv, bin_mulS hz hy, bin_mulS hy hv, bin_mulS hx hz, s_number_of k m hw (x * w - z * y) (y * w) (Int.mul_ne_zero h1 h2) ((hy.mul hv).mid (by omega))]
  rw [end_all rfl hw (by simp [low, locs, locss])]
theorem s_prod (k : Nat) {m : M} (hw : Wf m) {x y z w : Int} (hx : Sz 100 x) (hy : Sz 100 y) (hz : Sz 100 z) (hv : Sz 100 w) (h1 : y ≠ 0) (h2 : w ≠ 0) :
    callF pg (k + 3) "product_of" [.tup [.int x, .int y], .tup [.int z, .int w]] m = .ok (low (x * z) (y * w)) m := by
  rw [call_eq p_product_of (k + 2) _ rfl]
  simp [fn_product_of, bin_mulS hx hv, bin_mulS hz hy, bin_mulS hy hv, bin_mulS hx hz, s_number_of k m hw (x * z) (y * w) (Int.mul_ne_zero h1 h2) ((hy.mul hv).mid (by omega))]
  rw [end_all rfl hw (by simp [low, locs, locss])]
theorem s_quot (k : Nat) {m : M} (hw : Wf m) {x y z w : Int} (hx : Sz 100 x) (hy : Sz 100 y) (hz : Sz 100 z) (hv : Sz 100 w) (h1 : y ≠ 0) (h2 : z ≠ 0) :
    callF pg (k + 3) "quotient_of" [.tup [.int x, .int y], .tup [.int z, .int w]] m = .ok (low (x * w) (y * z)) m := by
  rw [call_eq p_quotient_of (k + 2) _ rfl]
  simp [fn_quotient_of, bin_mulS hx hv, bin_mulS hy hz, s_number_of k m hw (x * w) (y * z) (Int.mul_ne_zero h1 h2) ((hy.mul hz).mid (by omega))]
  rw [end_all rfl hw (by simp [low, locs, locss])]
theorem s_quot0 (k : Nat) {m : M} (hw : Wf m) {x y w : Int} (hx : Sz 100 x) (hy : Sz 100 y) (hv : Sz 100 w) :
    callF pg (k + 3) "quotient_of" [.tup [.int x, .int y], .tup [.int 0, .int w]] m = .exc "NoNumber" m := by
  rw [call_eq p_quotient_of (k + 2) _ rfl]
  have hz : Sz 100 0 := by unfold Sz; omega
  simp [fn_quotient_of, bin_mulS hx hv, bin_mulS hy hz, s_number_of_0 (k + 1) m hw (x * w)]
  rw [end_excall rfl hw]
theorem s_less (k : Nat) {m : M} (hw : Wf m) {x y z w : Int} (hx : Sz 100 x) (hy : Sz 100 y) (hz : Sz 100 z) (hv : Sz 100 w) :
    callF pg (k + 3) "is_less" [.tup [.int x, .int y], .tup [.int z, .int w]] m = .ok (.bl (decide (x * w < z * y))) m := by
  rw [call_eq p_is_less (k + 2) _ rfl]
  simp [fn_is_less, bin_mulS hx hv, bin_mulS hz hy]
  rw [end_all rfl hw (by simp [locs, locss])]
end FS

set_option Elab.async false
set_option linter.all false
set_option maxRecDepth 100000
namespace FS
open PySem PySem.Spec PyProof.Rows L2

theorem mem_rng {lo : Int} {n : Nat} {d : D} (h : d ∈ rng lo n) : ∃ a : Int, d = .int a ∧ lo ≤ a ∧ a < lo + n := by
  simp only [rng, List.mem_map, List.mem_range] at h
  obtain ⟨i, hi, rfl⟩ := h
  exact ⟨_, rfl, by omega, by omega⟩
def bodyOf : Ss → Ss
  | .cons (.iter _ _ b) _ => b
  | _ => .nil
/-- what a law's round keeps: the script at 0 -/
def Keep (ns : List Int) (q : Nat) (σ : Sl) (m : M) : Prop := (∃ τ, σ = some (.loc 0) :: τ ∧ τ.length = q) ∧ m[0]? = some (.fro (ns.map .int)) ∧ Wf m
theorem loop_keep {x : Cn} {b : Ss} {ns : List Int} {q : Nat} 
    (step : ∀ (a : Int) (y : Option D) (τ : Sl) (m : M), 0 ≤ a → a < 2 ^ 40 → Keep ns (q + 1) (some (.loc 0) :: y :: τ) m → ∃ σ' m', boF x b (some (.loc 0) :: some (.int a) :: τ) m = .ok (.nx σ') m' ∧ Keep ns (q + 1) σ' m') :
    ∀ (ds : List D) (σ : Sl) (m : M), (∀ d ∈ ds, ∃ a : Int, d = .int a ∧ 0 ≤ a ∧ a < 2 ^ 40) → Keep ns (q + 1) σ m →
      ∃ σ' m', loopF (fun _ => True) (.nm 1) (boF x b) ds σ m = .ok (.nx σ') m' ∧ Keep ns (q + 1) σ' m' := by
  intro ds σ m hd hk
  exact loop_rule (st := fun _ => True) (tg := .nm 1) (b := boF x b)
    (fun ds σ m => (∀ d ∈ ds, ∃ a : Int, d = .int a ∧ 0 ≤ a ∧ a < 2 ^ 40) ∧ Keep ns (q + 1) σ m)
    (fun r => ∃ σ' m', r = .ok (.nx σ') m' ∧ Keep ns (q + 1) σ' m')
    (fun _ _ _ _ => trivial)
    (by
      rintro d ds σ m ⟨hd, hk⟩
      obtain ⟨a, rfl, h1, h2⟩ := hd d (by simp)
      obtain ⟨⟨τ, rfl, hl⟩, hr⟩ := hk
      match τ, hl with
      | y :: τ, hl =>
        obtain ⟨σ', m', e, hk'⟩ := step a y τ m h1 h2 ⟨⟨_, rfl, hl⟩, hr⟩
        exact ⟨_, rfl, .inl ⟨_, _, .inl e, fun d hd' => hd d (List.mem_cons_of_mem _ hd'), hk'⟩⟩)
    (by
      rintro σ m ⟨_, hk⟩
      exact ⟨_, m, rfl, hk⟩)
    ds σ m ⟨hd, hk⟩
/-- range(1 + len(script[:n])) -/
theorem head_loop (ns : List Int) (hns : ns.length ≤ 63) (n : Int) : ∃ cc : List D, slF (.loc 0) none (some n) [.fro (ns.map .int)] = .ok (.loc 1) [.fro (ns.map .int), .lst cc] ∧
    bcF .len [.loc 1] [.fro (ns.map .int), .lst cc] = .ok (.int cc.length) [.fro (ns.map .int), .lst cc] ∧ Wf [.fro (ns.map .int), .lst cc] ∧ cc.length ≤ 63 := by
  have hw0 : Wf [Ob.fro (ns.map .int)] := by
    intro i o hi e
    have : i = 0 := by simp at hi; omega
    subst this
    cases e
    simp [Ob.locs, locss_ints]
  refine ⟨cut (ns.map D.int) none (some n), rfl, rfl, ?_, ?_⟩
  · refine hw0.push (o := .lst (cut (ns.map D.int) none (some n))) ?_
    have : cut (ns.map D.int) none (some n) = (((ns.drop (HT.sIx (ns.map D.int).length 0 none)).take (HT.sIx (ns.map D.int).length (ns.map D.int).length (some n) - HT.sIx (ns.map D.int).length 0 none))).map .int := by
      rw [cut, List.map_take, List.map_drop]
    rw [this]
    intro l hl
    rw [Ob.locs, locss_ints] at hl
    cases hl
  · rw [cut, List.length_take, List.length_drop, List.length_map]
    omega
theorem end_law {ns : List Int} {m : M} {d : D} (h : m[0]? = some (.fro (ns.map .int))) (hd : locs d = []) : ∃ m', endF 1 (.ok (.rt d) m) = .ok d m' := by
  have h1 : Cl1 1 m := by
    intro i o hi e
    have : i = 0 := by omega
    subst this
    rw [h] at e
    cases e
    simp [Ob.locs, locss_ints]
  rw [end_rt, gc_old (List.getElem?_eq_some_iff.mp h).1 h1 (by simp [hd])]
  exact ⟨_, rfl⟩
theorem get0_app {m : M} {o p : Ob} (h : m[0]? = some o) : (m ++ [p])[0]? = some o := by
  obtain ⟨h', _⟩ := List.getElem?_eq_some_iff.mp h
  rw [List.getElem?_append_left h']; exact h
theorem comp_nil {st : M → Prop} {tg : Tg} {own : List Nat} {σ : Sl} {c : Sl → M → R Bool} {e : Sl → M → R D} {n : Nat} {acc : List D} {m : M} (h : st m) : compF st tg own σ c e n [] acc m = .ok (.loc n) m := by
  rw [compF, if_pos h]
theorem comp_cons {st : M → Prop} {tg : Tg} {own : List Nat} {σ σ1 : Sl} {c : Sl → M → R Bool} {e : Sl → M → R D} {n : Nat} {d v : D} {ds acc : List D} {m m1 m2 : M}
    (h : st m) (ha : asgF tg d (wipeD σ own) = some σ1) (hc : c σ1 m = .ok true m1) (he : e σ1 m1 = .ok v m2) (hm : m2[n]? = some (.lst acc)) (hl : acc.length < 16777216) :
    compF st tg own σ c e n (d :: ds) acc m = compF st tg own σ c e n ds (acc ++ [v]) (m2.set n (.lst (acc ++ [v]))) := by
  rw [compF, if_pos h, ha]
  simp only [hc, he, hm, hl, and_self, if_true]
theorem comp_skip {st : M → Prop} {tg : Tg} {own : List Nat} {σ σ1 : Sl} {c : Sl → M → R Bool} {e : Sl → M → R D} {n : Nat} {d : D} {ds acc : List D} {m m1 : M}
    (h : st m) (ha : asgF tg d (wipeD σ own) = some σ1) (hc : c σ1 m = .ok false m1) (hm : m1[n]? = some (.lst acc)) :
    compF st tg own σ c e n (d :: ds) acc m = compF st tg own σ c e n ds acc m1 := by
  rw [compF, if_pos h, ha]
  simp only [hc, hm, if_true]
end FS

set_option Elab.async false
set_option linter.all false
set_option maxRecDepth 100000
namespace FS
open PySem PySem.Spec PyProof.Rows L2
theorem eq_bls (m : M) (a b : Bool) : eqD m (.bl a) (.bl b) = some (decide (a = b)) := rfl
theorem low01 : D.tup [.int 0, .int 1] = low 0 1 := by simp [low, bys]
theorem low11 : D.tup [.int 1, .int 1] = low 1 1 := by simp [low, bys]
/-- sizes of a number's two parts, the lower above 0 -/
structure Nb (p : Nat) (t b : Int) : Prop where
  szt : Sz p t
  szb : Sz p b
  pos : 0 < b
theorem Nb.mono {p q : Nat} {t b : Int} (h : Nb p t b) (k : p ≤ q) : Nb q t b := ⟨h.szt.mono k, h.szb.mono k, h.pos⟩
theorem Nb.ne {p : Nat} {t b : Int} (h : Nb p t b) : b ≠ 0 := by have := h.pos; omega
theorem Nb.sum {p : Nat} {a b c d : Int} (h : Nb p a b) (k : Nb p c d) : Nb (p + p + 1) (a * d + c * b) (b * d) :=
  ⟨(h.szt.mul k.szb).add (k.szt.mul h.szb), (h.szb.mul k.szb).mono (by omega), Int.mul_pos h.pos k.pos⟩
theorem Nb.diff {p : Nat} {a b c d : Int} (h : Nb p a b) (k : Nb p c d) : Nb (p + p + 1) (a * d - c * b) (b * d) :=
  ⟨(h.szt.mul k.szb).sub (k.szt.mul h.szb), (h.szb.mul k.szb).mono (by omega), Int.mul_pos h.pos k.pos⟩
theorem Nb.prod {p : Nat} {a b c d : Int} (h : Nb p a b) (k : Nb p c d) : Nb (p + p + 1) (a * c) (b * d) :=
  ⟨(h.szt.mul k.szt).mono (by omega), (h.szb.mul k.szb).mono (by omega), Int.mul_pos h.pos k.pos⟩
section
variable (k : Nat) {m : M} (hw : Wf m) {a b c d : Int} {p q : Nat} (hx : Nb p a b) (hy : Nb q c d) (hp : p ≤ 60) (hq : q ≤ 60)
include hw hx hy hp hq
theorem s_sumL : callF pg (k + 3) "sum_of" [low a b, low c d] m = .ok (low (a * d + c * b) (b * d)) m := by
  obtain ⟨u, v, e, v0, h, hu, hv, _⟩ := low_parts hx.ne hx.szt hx.szb (by omega)
  obtain ⟨u', v', e', v0', h', hu', hv', _⟩ := low_parts hy.ne hy.szt hy.szb (by omega)
  rw [e, e', s_sum k hw (hu.mono (by omega)) (hv.mono (by omega)) (hu'.mono (by omega)) (hv'.mono (by omega)) (by omega) (by omega)]
  rw [low_eq (Int.mul_ne_zero (by omega) (by omega)) ((hv.mul hv').mid (by omega)) (Int.mul_ne_zero hx.ne hy.ne) ((hx.szb.mul hy.szb).mid (by omega)) (t' := a * d + c * b)]
  clear e e'
  grind
theorem s_diffL : callF pg (k + 3) "difference_of" [low a b, low c d] m = .ok (low (a * d - c * b) (b * d)) m := by
  obtain ⟨u, v, e, v0, h, hu, hv, _⟩ := low_parts hx.ne hx.szt hx.szb (by omega)
  obtain ⟨u', v', e', v0', h', hu', hv', _⟩ := low_parts hy.ne hy.szt hy.szb (by omega)
  rw [e, e', s_diff k hw (hu.mono (by omega)) (hv.mono (by omega)) (hu'.mono (by omega)) (hv'.mono (by omega)) (by omega) (by omega)]
  rw [low_eq (Int.mul_ne_zero (by omega) (by omega)) ((hv.mul hv').mid (by omega)) (Int.mul_ne_zero hx.ne hy.ne) ((hx.szb.mul hy.szb).mid (by omega)) (t' := a * d - c * b)]
  clear e e'
  grind
theorem s_prodL : callF pg (k + 3) "product_of" [low a b, low c d] m = .ok (low (a * c) (b * d)) m := by
  obtain ⟨u, v, e, v0, h, hu, hv, _⟩ := low_parts hx.ne hx.szt hx.szb (by omega)
  obtain ⟨u', v', e', v0', h', hu', hv', _⟩ := low_parts hy.ne hy.szt hy.szb (by omega)
  rw [e, e', s_prod k hw (hu.mono (by omega)) (hv.mono (by omega)) (hu'.mono (by omega)) (hv'.mono (by omega)) (by omega) (by omega)]
  rw [low_eq (Int.mul_ne_zero (by omega) (by omega)) ((hv.mul hv').mid (by omega)) (Int.mul_ne_zero hx.ne hy.ne) ((hx.szb.mul hy.szb).mid (by omega)) (t' := a * c)]
  clear e e'
  grind
theorem s_quotL (hc : c ≠ 0) : callF pg (k + 3) "quotient_of" [low a b, low c d] m = .ok (low (a * d) (b * c)) m := by
  obtain ⟨u, v, e, v0, h, hu, hv, _⟩ := low_parts hx.ne hx.szt hx.szb (by omega)
  obtain ⟨u', v', e', v0', h', hu', hv', _⟩ := low_parts hy.ne hy.szt hy.szb (by omega)
  have hu0 : u' ≠ 0 := fun c0 => by
    rw [c0] at h'
    have := Int.mul_ne_zero hc (show v' ≠ 0 by omega)
    omega
  rw [e, e', s_quot k hw (hu.mono (by omega)) (hv.mono (by omega)) (hu'.mono (by omega)) (hv'.mono (by omega)) (by omega) hu0]
  rw [low_eq (Int.mul_ne_zero (by omega) hu0) ((hv.mul hu').mid (by omega)) (Int.mul_ne_zero hx.ne hc) ((hx.szb.mul hy.szt).mid (by omega)) (t' := a * d)]
  clear e e'
  grind
theorem s_lessL : callF pg (k + 3) "is_less" [low a b, low c d] m = .ok (.bl (decide (a * d < c * b))) m := by
  obtain ⟨u, v, e, v0, h, hu, hv, _⟩ := low_parts hx.ne hx.szt hx.szb (by omega)
  obtain ⟨u', v', e', v0', h', hu', hv', _⟩ := low_parts hy.ne hy.szt hy.szb (by omega)
  rw [e, e', s_less k hw (hu.mono (by omega)) (hv.mono (by omega)) (hu'.mono (by omega)) (hv'.mono (by omega))]
  have e1 : u * v' * (b * d) = a * d * (v * v') := by clear e e'; grind
  have e2 : u' * v * (b * d) = c * b * (v * v') := by clear e e'; grind
  have hbd : 0 < b * d := Int.mul_pos hx.pos hy.pos
  have hvv : 0 < v * v' := Int.mul_pos v0 v0'
  have : (u * v' < u' * v) ↔ (a * d < c * b) := by
    rw [← Int.mul_lt_mul_right hbd, e1, e2, Int.mul_lt_mul_right hvv]
  simp only [this]
omit hw
theorem eq_low : eqD m (low a b) (low c d) = some (decide (a * d = c * b)) := by
  by_cases h : a * d = c * b
  · rw [low_eq hx.ne (hx.szb.mid (by omega)) hy.ne (hy.szb.mid (by omega)) h, low, eq_tt]
    simp [h]
  · have : low a b ≠ low c d := fun e => h (low_ne hx.ne (hx.szb.mid (by omega)) hy.ne (hy.szb.mid (by omega)) e)
    rw [low, low, eq_tt]
    simp only [h, decide_false, Option.some.injEq]
    rw [← Bool.decide_and, decide_eq_false_iff_not]
    rintro ⟨e1, e2⟩
    exact this (by rw [low, low, e1, e2])
end
theorem s_in_turn (k : Nat) {m : M} (hw : Wf m) {a b c d e f : Int} (h1 : Nb 10 a b) (h2 : Nb 10 c d) (h3 : Nb 10 e f) :
    callF pg (k + 4) "_law_in_turn" [low a b, low c d, low e f] m = .ok (.bl true) m := by
  rw [call_eq p_law_in_turn (k + 3) _ rfl]
  have s12 := s_sumL k hw h1 h2 (by omega) (by omega)
  have s21 := s_sumL k hw h2 h1 (by omega) (by omega)
  have s23 := s_sumL k hw h2 h3 (by omega) (by omega)
  have p12 := s_prodL k hw h1 h2 (by omega) (by omega)
  have p21 := s_prodL k hw h2 h1 (by omega) (by omega)
  have p13 := s_prodL k hw h1 h3 (by omega) (by omega)
  have p23 := s_prodL k hw h2 h3 (by omega) (by omega)
  have t1 := s_sumL k hw (h1.sum h2) h3 (by omega) (by omega)
  have t2 := s_sumL k hw h1 (h2.sum h3) (by omega) (by omega)
  have t3 := s_prodL k hw (h1.prod h2) h3 (by omega) (by omega)
  have t4 := s_prodL k hw h1 (h2.prod h3) (by omega) (by omega)
  have t5 := s_sumL k hw (h1.prod h2) (h1.prod h3) (by omega) (by omega)
  have t6 := s_prodL k hw h1 (h2.sum h3) (by omega) (by omega)
  have q1 := eq_low (m := m) (h1.sum h2) (h2.sum h1) (by omega) (by omega)
  have q2 := eq_low (m := m) (h1.prod h2) (h2.prod h1) (by omega) (by omega)
  have q3 := eq_low (m := m) ((((h1.sum h2)).sum (h3.mono (show 10 ≤ 21 by omega)))) (((h1.mono (show 10 ≤ 21 by omega)).sum (h2.sum h3))) (by omega) (by omega)
  have q4 := eq_low (m := m) ((((h1.prod h2)).prod (h3.mono (show 10 ≤ 21 by omega)))) (((h1.mono (show 10 ≤ 21 by omega)).prod (h2.prod h3))) (by omega) (by omega)
  have q5 := eq_low (m := m) (((h1.mono (show 10 ≤ 21 by omega)).prod (h2.sum h3))) ((((h1.prod h2)).sum (h1.prod h3))) (by omega) (by omega)
  rw [decide_eq_true (by grind)] at q1 q2 q3 q4 q5
  simp [fn_law_in_turn, s12, s21, s23, p12, p21, p13, p23, t1, t2, t3, t4, t5, t6, q1, q2, q3, q4, q5]
  rw [end_all rfl hw (by simp [locs])]
end FS

set_option Elab.async false
set_option linter.all false
set_option maxRecDepth 100000
namespace FS
open PySem PySem.Spec PyProof.Rows L2
theorem nb01 : Nb 10 0 1 := ⟨by unfold Sz; omega, by unfold Sz; omega, by omega⟩
theorem nb11 : Nb 10 1 1 := ⟨by unfold Sz; omega, by unfold Sz; omega, by omega⟩
theorem ix_low0 {m : M} {a b : Int} {p : Nat} (h : Nb p a b) (hp : p ≤ 60) : ∃ u, ixF (low a b) (.int 0) m = .ok (.int u) m ∧ (u = 0 ↔ a = 0) := by
  obtain ⟨u, v, e, v0, h', hu, hv, _⟩ := low_parts h.ne h.szt h.szb (by omega)
  refine ⟨u, by rw [e]; simp, ?_⟩
  have hb := h.pos
  constructor
  · intro c
    rw [c, Int.zero_mul] at h'
    rcases Int.mul_eq_zero.mp h'.symm with h | h <;> omega
  · intro c
    rw [c, Int.zero_mul] at h'
    rcases Int.mul_eq_zero.mp h' with h | h <;> omega
theorem s_back (k : Nat) {m : M} (hw : Wf m) {a b c d : Int} (h1 : Nb 10 a b) (h2 : Nb 10 c d) :
    callF pg (k + 4) "_law_back" [low a b, low c d] m = .ok (.bl true) m := by
  rw [call_eq p_law_back (k + 3) _ rfl]
  have s12 := s_sumL k hw h1 h2 (by omega) (by omega)
  have p12 := s_prodL k hw h1 h2 (by omega) (by omega)
  have t1 := s_diffL k hw (h1.sum h2) h2 (by omega) (by omega)
  have t2 := s_diffL k hw h1 h1 (by omega) (by omega)
  have t4 := s_sumL k hw h1 nb01 (by omega) (by omega)
  have t5 := s_prodL k hw h1 nb11 (by omega) (by omega)
  have q1 := eq_low (m := m) ((h1.sum h2).diff (h2.mono (show 10 ≤ 21 by omega))) h1 (by omega) (by omega)
  have q2 := eq_low (m := m) (h1.diff h1) nb01 (by omega) (by omega)
  have q4 := eq_low (m := m) (h1.sum nb01) h1 (by omega) (by omega)
  have q5 := eq_low (m := m) (h1.prod nb11) h1 (by omega) (by omega)
  rw [decide_eq_true (by grind)] at q1 q2 q4 q5
  obtain ⟨D1, t1, q1⟩ : ∃ D, callF pg (k + 3) "difference_of" [low (a * d + c * b) (b * d), low c d] m = .ok D m ∧ eqD m D (low a b) = some true := ⟨_, t1, q1⟩
  obtain ⟨D2, t2, q2⟩ : ∃ D, callF pg (k + 3) "difference_of" [low a b, low a b] m = .ok D m ∧ eqD m D (low 0 1) = some true := ⟨_, t2, q2⟩
  obtain ⟨D4, t4, q4⟩ : ∃ D, callF pg (k + 3) "sum_of" [low a b, low 0 1] m = .ok D m ∧ eqD m D (low a b) = some true := ⟨_, t4, q4⟩
  obtain ⟨D5, t5, q5⟩ : ∃ D, callF pg (k + 3) "product_of" [low a b, low 1 1] m = .ok D m ∧ eqD m D (low a b) = some true := ⟨_, t5, q5⟩
  obtain ⟨u, x0, hu⟩ := ix_low0 (m := m) h2 (by omega)
  by_cases hc : c = 0
  · have hu0 := hu.mpr hc
    rw [hu0] at x0
    simp [fn_law_back, low01, low11, s12, p12, t1, t2, t4, t5, q1, q2, q4, q5, x0]
    rw [end_all rfl hw (by simp [locs])]
  · have hu0 : ¬ u = 0 := fun e => hc (hu.mp e)
    have t3 := s_quotL k hw (h1.prod h2) h2 (by omega) (by omega) hc
    have q3 : eqD m (low (a * c * d) (b * d * c)) (low a b) = some true := by
      rw [low_eq (t' := a) (b' := b) (Int.mul_ne_zero (Int.mul_ne_zero h1.ne h2.ne) hc) (((h1.szb.mul h2.szb).mul h2.szt).mid (by omega)) h1.ne (h1.szb.mid (by omega)) (by grind), eq_low h1 h1 (by omega) (by omega)]
      simp
    simp [fn_law_back, low01, low11, s12, p12, t1, t2, t3, t4, t5, q1, q2, q3, q4, q5, x0, hu0]
    rw [end_all rfl hw (by simp [locs])]
theorem s_order (k : Nat) {m : M} (hw : Wf m) {a b c d e f : Int} (h1 : Nb 10 a b) (h2 : Nb 10 c d) (h3 : Nb 10 e f) :
    callF pg (k + 4) "_law_order" [low a b, low c d, low e f] m = .ok (.bl true) m := by
  rw [call_eq p_law_order (k + 3) _ rfl]
  have l12 := s_lessL k hw h1 h2 (by omega) (by omega)
  have l21 := s_lessL k hw h2 h1 (by omega) (by omega)
  have l11 := s_lessL k hw h1 h1 (by omega) (by omega)
  have d12 := s_diffL k hw h1 h2 (by omega) (by omega)
  have s13 := s_sumL k hw h1 h3 (by omega) (by omega)
  have s23 := s_sumL k hw h2 h3 (by omega) (by omega)
  have ld := s_lessL k hw (h1.diff h2) nb01 (by omega) (by omega)
  have ls := s_lessL k hw (h1.sum h3) (h2.sum h3) (by omega) (by omega)
  have q := eq_low (m := m) h1 h2 (by omega) (by omega)
  have e1 : ((a * d - c * b) * 1 < 0 * (b * d)) ↔ (a * d < c * b) := by omega
  have e2 : ((a * f + e * b) * (d * f) < (c * f + e * d) * (b * f)) ↔ (a * d < c * b) := by
    have hp : 0 < f * f := Int.mul_pos h3.pos h3.pos
    rw [← Int.mul_lt_mul_right hp (b := a * d)]
    have : (c * f + e * d) * (b * f) - (a * f + e * b) * (d * f) = c * b * (f * f) - a * d * (f * f) := by grind
    omega
  simp only [e1] at ld
  simp only [e2] at ls
  have l11' : callF pg (k + 3) "is_less" [low a b, low a b] m = .ok (.bl false) m := by rw [l11]; simp
  clear l11
  obtain ⟨D1, d12, ld⟩ : ∃ D, callF pg (k + 3) "difference_of" [low a b, low c d] m = .ok D m ∧ callF pg (k + 3) "is_less" [D, low 0 1] m = .ok (.bl (decide (a * d < c * b))) m := ⟨_, d12, ld⟩
  clear e1 e2
  by_cases hlt : a * d < c * b
  · have hne : ¬ a * d = c * b := by omega
    have hgt : ¬ c * b < a * d := by omega
    simp only [hlt, hne, hgt, decide_true, decide_false] at *
    simp [fn_law_order, low01, l12, l21, l11', d12, s13, s23, ld, ls, q, eq_bls]
    rw [end_all rfl hw (by simp [locs])]
  · by_cases hne : a * d = c * b
    · have g1 : decide (a * d < c * b) = false := by simp [hlt]
      have g2 : decide (c * b < a * d) = false := by simp; omega
      have g3 : decide (a * d = c * b) = true := by simp [hne]
      rw [g1] at l12 ld ls
      rw [g2] at l21
      rw [g3] at q
      simp [fn_law_order, low01, l12, l21, l11', d12, s13, s23, ld, ls, q, eq_bls]
      rw [end_all rfl hw (by simp [locs])]
    · have hgt : c * b < a * d := by omega
      simp only [hlt, hne, hgt, decide_true, decide_false] at *
      simp [fn_law_order, low01, l12, l21, l11', d12, s13, s23, ld, ls, q, eq_bls]
      rw [end_all rfl hw (by simp [locs])]
end FS

set_option Elab.async false
set_option linter.all false
set_option maxRecDepth 100000
namespace FS
open PySem PySem.Spec PyProof.Rows L2
theorem s_number (k : Nat) {m : M} {n : Nat} (hn : n < m.length) (hw : Wf m) (a b c : Int) (hc : 0 ≤ c ∧ c < 2 ^ 40) :
    ∃ t d a' c', callF pg (k + 3) "_law_number" [.loc n] (m.set n (pn a b c)) = .ok (low t d) (m.set n (pn a' b c')) ∧ (c ≤ c' ∧ c' ≤ c + 20) ∧ Nb 10 t d := by
  obtain ⟨hc1, hc2⟩ := hc
  rw [call_eq p_law_number (k + 2) _ rfl]
  obtain ⟨w, a1, e1, w0, w5⟩ := s_take (k + 1) hn hw a b c 21 (by omega) (by omega) (by omega)
  obtain ⟨v, a2, e2, v0, v5⟩ := s_take (k + 1) hn hw a1 b (c + 1) 3 (by omega) (by omega) (by omega)
  -- the top
  obtain ⟨t, a3, c3, ht, hc3, E⟩ : ∃ t a3 c3, (-(5 * 10 ^ 8) ≤ t ∧ t ≤ 5 * 10 ^ 8) ∧ (c ≤ c3 ∧ c3 ≤ c + 3) ∧
      ((v = 0 ∧ ∃ r, callF pg (k + 2) "_law_take" [.loc n, .int 1000000000] (m.set n (pn a2 b (c + 1 + 1))) = .ok (.int r) (m.set n (pn a3 b c3)) ∧ t = r - 500000000) ∨ (v ≠ 0 ∧ a3 = a2 ∧ c3 = c + 1 + 1 ∧ t = w - 10)) := by
    by_cases hv : v = 0
    · obtain ⟨r, a3, e3, r0, r5⟩ := s_take (k + 1) hn hw a2 b (c + 1 + 1) 1000000000 (by omega) (by omega) (by omega)
      exact ⟨r - 500000000, a3, c + 1 + 1 + 1, by omega, by omega, .inl ⟨hv, r, e3, rfl⟩⟩
    · exact ⟨w - 10, a2, c + 1 + 1, by omega, by omega, .inr ⟨hv, rfl, rfl, rfl⟩⟩
  obtain ⟨u, a4, e4, u0, u5⟩ := s_take (k + 1) hn hw a3 b c3 12 (by omega) (by omega) (by omega)
  obtain ⟨z, a5, e5, z0, z5⟩ := s_take (k + 1) hn hw a4 b (c3 + 1) 3 (by omega) (by omega) (by omega)
  obtain ⟨d, a6, c6, hd, hc6, F⟩ : ∃ d a6 c6, (0 < d ∧ d ≤ 9999) ∧ (c ≤ c6 ∧ c6 ≤ c + 6) ∧
      ((z = 0 ∧ ∃ r, callF pg (k + 2) "_law_take" [.loc n, .int 9999] (m.set n (pn a5 b (c3 + 1 + 1))) = .ok (.int r) (m.set n (pn a6 b c6)) ∧ d = 1 + r) ∨ (z ≠ 0 ∧ a6 = a5 ∧ c6 = c3 + 1 + 1 ∧ d = 1 + u)) := by
    by_cases hz : z = 0
    · obtain ⟨r, a3, e3, r0, r5⟩ := s_take (k + 1) hn hw a5 b (c3 + 1 + 1) 9999 (by omega) (by omega) (by omega)
      exact ⟨1 + r, a3, c3 + 1 + 1 + 1, by omega, by omega, .inl ⟨hz, r, e3, rfl⟩⟩
    · exact ⟨1 + u, a5, c3 + 1 + 1, by omega, by omega, .inr ⟨hz, rfl, rfl, rfl⟩⟩
  have hN : Nb 10 t d := ⟨by unfold Sz; omega, by unfold Sz; omega, by omega⟩
  refine ⟨t, d, a6, c6, ?_, by omega, hN⟩
  have L := s_law_lowest (k + 1) (m.set n (pn a6 b c6)) (wf_pn hw _ _ _) t d hN.ne (hN.szb.mid (by omega))
  have fin : endF (m.set n (pn a b c)).length (.ok (.rt (low t d)) (m.set n (pn a6 b c6))) = .ok (low t d) (m.set n (pn a6 b c6)) := by
    rw [end_all (by simp) (wf_pn hw _ _ _) (by simp [low, FS.locs, locss])]
  rw [List.length_set] at fin
  rcases E with ⟨hv, r, e3, rfl⟩ | ⟨hv, rfl, rfl, rfl⟩ <;> rcases F with ⟨hz, s, e6, rfl⟩ | ⟨hz, rfl, rfl, rfl⟩
  · simp [fn_law_number, e1, e2, hv, bin_pw, bin_mul, e3, e4, e5, hz, e6, L, fin]
  · simp [fn_law_number, e1, e2, hv, bin_pw, bin_mul, e3, e4, e5, hz, L, fin]
  · simp [fn_law_number, e1, e2, hv, bin_pw, bin_mul, e4, e5, hz, e6, L, fin]
  · simp [fn_law_number, e1, e2, hv, bin_pw, bin_mul, e4, e5, hz, L, fin]
end FS

set_option Elab.async false
set_option linter.all false
set_option maxRecDepth 100000
namespace FS
open PySem PySem.Spec PyProof.Rows L2
theorem law_step {ns : List Int} (hns : ns.length ≤ 63) (a : Int) (y : Option D) (τ : Sl) (m : M) (h1 : 0 ≤ a) (h2 : a < 2 ^ 40) (hk : Keep ns 6 (some (.loc 0) :: y :: τ) m) :
    ∃ σ' m', boF (cn pg 7) (bodyOf fn_law.body) (some (.loc 0) :: some (.int a) :: τ) m = .ok (.nx σ') m' ∧ Keep ns 6 σ' m' := by
  obtain ⟨⟨τ', e, hl⟩, hm0, hw⟩ := hk
  cases e
  match τ, hl with
  | [x2, x3, x4, x5, x6], _ =>
  obtain ⟨x, y, e1⟩ := s_pen 6 hm0 (by omega) hw a ⟨h1, h2⟩
  have hw2 (a b c : Int) : Wf (m ++ [pn a b c]) := hw.push (by simp [pn, Ob.locs, locss, locs])
  have hm2 (a b c : Int) : (m ++ [pn a b c])[0]? = some (.fro (ns.map .int)) := get0_app hm0
  have hX (a' b' c' : Int) (X : List D) (h : locss X = []) : Wf (m ++ [pn a' b' c'] ++ [.lst X]) := (hw2 a' b' c').push (by simp [Ob.locs, h])
  have hmX (a' b' c' : Int) (X : Ob) : (m ++ [pn a' b' c'] ++ [X])[0]? = some (.fro (ns.map .int)) := get0_app (hm2 a' b' c')
  have hEX (a' b' c' a'' b'' c'' : Int) (X : Ob) : (m ++ [pn a' b' c'] ++ [X]).set m.length (pn a'' b'' c'') = m ++ [pn a'' b'' c''] ++ [X] := by
    rw [List.set_append_left _ _ (by simp)]
    simp
  have hS (a' b' c' : Int) (X Y : Ob) : (m ++ [pn a' b' c'] ++ [X]).set (m.length + 1) Y = m ++ [pn a' b' c'] ++ [Y] := by
    rw [List.set_append_right _ _ (by simp)]
    simp
  have hG (a' b' c' : Int) (X : Ob) : (m ++ [pn a' b' c'] ++ [X])[m.length + 1]? = some X := by
    rw [show m.length + 1 = (m ++ [pn a' b' c']).length by simp, List.getElem?_concat_length]
  have hnX (a' b' c' : Int) (X : Ob) : m.length < (m ++ [pn a' b' c'] ++ [X]).length := by simp only [List.length_append, List.length_cons, List.length_nil]; omega
  have hl (t d : Int) : locs (low t d) = [] := by simp [low, locs, locss]
  obtain ⟨t1, d1, a1, c1, f1, g1, N1⟩ := s_number 4 (hnX x y 0 (.lst [])) (hX _ _ _ _ rfl) x y 0 (by omega)
  rw [hEX, hEX] at f1
  obtain ⟨t2, d2, a2, c2, f2, g2, N2⟩ := s_number 4 (hnX a1 y c1 (.lst [low t1 d1])) (hX _ _ _ _ (by simp [locss, hl])) a1 y c1 (by omega)
  rw [hEX, hEX] at f2
  obtain ⟨t3, d3, a3, c3, f3, g3, N3⟩ := s_number 4 (hnX a2 y c2 (.lst [low t1 d1, low t2 d2])) (hX _ _ _ _ (by simp [locss, hl])) a2 y c2 (by omega)
  rw [hEX, hEX] at f3
  have hw3 := hX a3 y c3 [low t1 d1, low t2 d2, low t3 d3] (by simp [locss, hl])
  have hm3 := hmX a3 y c3 (.lst [low t1 d1, low t2 d2, low t3 d3])
  have hi := items_lst (hG a3 y c3 (.lst [low t1 d1, low t2 d2, low t3 d3]))
  have C : compF (fun _ => True) (.nm 6) [6] [some (.loc 0), some (.int a), some (.loc m.length), x3, x4, x5, x6] yesF (vaF (cn pg 7) (.call "_law_number" (.cons (.var 2) .nil))) (m.length + 1) [.int 0, .int 1, .int 2] [] (m ++ [pn x y 0] ++ [.lst []]) =
      .ok (.loc (m.length + 1)) (m ++ [pn a3 y c3] ++ [.lst [low t1 d1, low t2 d2, low t3 d3]]) := by
    rw [comp_cons (v := low t1 d1) (m1 := m ++ [pn x y 0] ++ [.lst []]) (m2 := m ++ [pn a1 y c1] ++ [.lst []]) trivial rfl rfl (by simp [vaF] at f1 ⊢; exact f1) (hG _ _ _ _) (by simp), hS]
    simp only [List.nil_append]
    rw [comp_cons (v := low t2 d2) (m1 := m ++ [pn a1 y c1] ++ [.lst [low t1 d1]]) (m2 := m ++ [pn a2 y c2] ++ [.lst [low t1 d1]]) trivial rfl rfl (by simp [vaF] at f2 ⊢; exact f2) (hG _ _ _ _) (by simp), hS]
    simp only [List.cons_append, List.nil_append]
    rw [comp_cons (v := low t3 d3) (m1 := m ++ [pn a2 y c2] ++ [.lst [low t1 d1, low t2 d2]]) (m2 := m ++ [pn a3 y c3] ++ [.lst [low t1 d1, low t2 d2]]) trivial rfl rfl (by simp [vaF] at f3 ⊢; exact f3) (hG _ _ _ _) (by simp), hS]
    rw [comp_nil trivial]
    rfl
  generalize m ++ [pn a3 y c3] ++ [.lst [low t1 d1, low t2 d2, low t3 d3]] = m3 at *
  have A1 := s_in_turn 3 hw3 N1 N2 N3
  have A2 := s_back 3 hw3 N1 N2
  have A3 := s_back 3 hw3 N2 N3
  have A4 := s_order 3 hw3 N1 N2 N3
  have A5 := s_order 3 hw3 N2 N3 N1
  have A6 := s_order 3 hw3 N1 N1 N2
  have hr : rng 0 (3 : Int).toNat = [.int 0, .int 1, .int 2] := rfl
  refine ⟨[some (.loc 0), some (.int a), some (.loc m.length), some (low t1 d1), some (low t2 d2), some (low t3 d3), x6], m3, ?_, ⟨_, rfl, rfl⟩, hm3, hw3⟩
  simp only [boF, bodyOf, fn_law]
  simp [e1]
  rw [rn1F_int _ (by omega)]
  simp only [R.bind_ok, hr]
  simp at C
  simp [C, unpk, hi, setAll, A1, A2, A3, A4, A5, A6]
theorem law_true : ∀ ns : List Int, ns.length ≤ 63 → ∃ m', callF pg 8 "law" [.loc 0] [.fro (ns.map .int)] = .ok (.bl true) m' := by
  intro ns hns
  rw [call_eq p_law 7 _ rfl]
  obtain ⟨cc, hs, hlen, hw1, hl⟩ := head_loop ns hns 5
  obtain ⟨σ', m', hL, ⟨τ, rfl, hτ⟩, hm', hw'⟩ := loop_keep (ns := ns) (q := 5) (law_step hns) (rng 0 (1 + (cc.length : Int)).toNat) [some (.loc 0), none, none, none, none, none, none] [.fro (ns.map .int), .lst cc] (fun d hd => by obtain ⟨a, rfl, h1, h2⟩ := mem_rng hd; exact ⟨a, rfl, by omega, by omega⟩) ⟨⟨_, rfl, rfl⟩, rfl, hw1⟩
  simp only [bodyOf, fn_law] at hL
  simp [fn_law, hs, hlen]
  rw [rn1F_int _ (by omega)]
  simp
  rw [hL]
  simp
  exact end_law hm' (by simp [FS.locs])
end FS

namespace FS
open PySem PySem.Spec PyProof.Rows L2
def topS (i : Nat) : Stmt := PySem.Challenge.pw_freshsheet_k03_whole_numbers_by_turns.main.body.getD i (.Pass ⟨0, 0, 0, 0⟩)
def tb : Tb := ⟨["greatest_divisor", "number_of", "sum_of", "difference_of", "product_of", "quotient_of", "is_less", "_law_pen", "_law_take", "_law_lowest", "_law_number", "_law_in_turn", "_law_back", "_law_order", "law"], ["SheetError", "NoNumber"], [], ["abs", "len", "range"], ["NoNumber"]⟩
theorem d_greatest_divisor : DefS tb (topS 4) "greatest_divisor" ["one", "other", "rest"] ["one", "other"] fn_greatest_divisor :=
  ⟨⟨rfl, rfl, rfl, by decide +kernel, rfl, by decide +kernel, by decide +kernel⟩, by kernel_rfl, by decide +kernel, fun _ _ _ _ _ _ us hl => match us, hl with | [_, _], _ => rfl⟩
theorem d_number_of : DefS tb (topS 5) "number_of" ["top", "bottom", "by"] ["top", "bottom"] fn_number_of :=
  ⟨⟨rfl, rfl, rfl, by decide +kernel, rfl, by decide +kernel, by decide +kernel⟩, by kernel_rfl, by decide +kernel, fun _ _ _ _ _ _ us hl => match us, hl with | [_, _], _ => rfl⟩
theorem d_sum_of : DefS tb (topS 6) "sum_of" ["one", "other"] ["one", "other"] fn_sum_of :=
  ⟨⟨rfl, rfl, rfl, by decide +kernel, rfl, by decide +kernel, by decide +kernel⟩, by kernel_rfl, by decide +kernel, fun _ _ _ _ _ _ us hl => match us, hl with | [_, _], _ => rfl⟩
theorem d_difference_of : DefS tb (topS 7) "difference_of" ["one", "other"] ["one", "other"] fn_difference_of :=
  ⟨⟨rfl, rfl, rfl, by decide +kernel, rfl, by decide +kernel, by decide +kernel⟩, by kernel_rfl, by decide +kernel, fun _ _ _ _ _ _ us hl => match us, hl with | [_, _], _ => rfl⟩
theorem d_product_of : DefS tb (topS 8) "product_of" ["one", "other"] ["one", "other"] fn_product_of :=
  ⟨⟨rfl, rfl, rfl, by decide +kernel, rfl, by decide +kernel, by decide +kernel⟩, by kernel_rfl, by decide +kernel, fun _ _ _ _ _ _ us hl => match us, hl with | [_, _], _ => rfl⟩
theorem d_quotient_of : DefS tb (topS 9) "quotient_of" ["one", "other"] ["one", "other"] fn_quotient_of :=
  ⟨⟨rfl, rfl, rfl, by decide +kernel, rfl, by decide +kernel, by decide +kernel⟩, by kernel_rfl, by decide +kernel, fun _ _ _ _ _ _ us hl => match us, hl with | [_, _], _ => rfl⟩
theorem d_is_less : DefS tb (topS 10) "is_less" ["one", "other"] ["one", "other"] fn_is_less :=
  ⟨⟨rfl, rfl, rfl, by decide +kernel, rfl, by decide +kernel, by decide +kernel⟩, by kernel_rfl, by decide +kernel, fun _ _ _ _ _ _ us hl => match us, hl with | [_, _], _ => rfl⟩
theorem d_law_pen : DefS tb (topS 12) "_law_pen" ["script", "at", "cell"] ["script", "at"] fn_law_pen :=
  ⟨⟨rfl, rfl, rfl, by decide +kernel, rfl, by decide +kernel, by decide +kernel⟩, by kernel_rfl, by decide +kernel, fun _ _ _ _ _ _ us hl => match us, hl with | [_, _], _ => rfl⟩
theorem d_law_take : DefS tb (topS 13) "_law_take" ["pen", "most", "number", "found"] ["pen", "most"] fn_law_take :=
  ⟨⟨rfl, rfl, rfl, by decide +kernel, rfl, by decide +kernel, by decide +kernel⟩, by kernel_rfl, by decide +kernel, fun _ _ _ _ _ _ us hl => match us, hl with | [_, _], _ => rfl⟩
theorem d_law_lowest : DefS tb (topS 14) "_law_lowest" ["top", "bottom", "one", "other"] ["top", "bottom"] fn_law_lowest :=
  ⟨⟨rfl, rfl, rfl, by decide +kernel, rfl, by decide +kernel, by decide +kernel⟩, by kernel_rfl, by decide +kernel, fun _ _ _ _ _ _ us hl => match us, hl with | [_, _], _ => rfl⟩
theorem d_law_number : DefS tb (topS 15) "_law_number" ["pen", "top", "bottom"] ["pen"] fn_law_number :=
  ⟨⟨rfl, rfl, rfl, by decide +kernel, rfl, by decide +kernel, by decide +kernel⟩, by kernel_rfl, by decide +kernel, fun _ _ _ _ _ _ us hl => match us, hl with | [_], _ => rfl⟩
theorem d_law_in_turn : DefS tb (topS 16) "_law_in_turn" ["one", "two", "three", "both"] ["one", "two", "three"] fn_law_in_turn :=
  ⟨⟨rfl, rfl, rfl, by decide +kernel, rfl, by decide +kernel, by decide +kernel⟩, by kernel_rfl, by decide +kernel, fun _ _ _ _ _ _ us hl => match us, hl with | [_, _, _], _ => rfl⟩
theorem d_law_back : DefS tb (topS 17) "_law_back" ["one", "two"] ["one", "two"] fn_law_back :=
  ⟨⟨rfl, rfl, rfl, by decide +kernel, rfl, by decide +kernel, by decide +kernel⟩, by kernel_rfl, by decide +kernel, fun _ _ _ _ _ _ us hl => match us, hl with | [_, _], _ => rfl⟩
theorem d_law_order : DefS tb (topS 18) "_law_order" ["one", "two", "three", "told"] ["one", "two", "three"] fn_law_order :=
  ⟨⟨rfl, rfl, rfl, by decide +kernel, rfl, by decide +kernel, by decide +kernel⟩, by kernel_rfl, by decide +kernel, fun _ _ _ _ _ _ us hl => match us, hl with | [_, _, _], _ => rfl⟩
theorem d_law : DefS tb (topS 19) "law" ["script", "k", "pen", "one", "two", "three", "j"] ["script"] fn_law :=
  ⟨⟨rfl, rfl, rfl, by decide +kernel, rfl, by decide +kernel, by decide +kernel⟩, by kernel_rfl, by decide +kernel, fun _ _ _ _ _ _ us hl => match us, hl with | [_], _ => rfl⟩
theorem top_mk {P : Program} {w : World} {K : PySem.W.Frag} {h : Heap} {mg : Str → Option Value} (X : K.In h) (G : h.Ns mainGlobals mg)
    {f0 : Addr} {od0 an0 : Option Addr} {sl0 : Array (Option Value)} {oc0 kV0 dc0 pm0 cd0 ct0 : Value}
    {f1 : Addr} {od1 an1 : Option Addr} {sl1 : Array (Option Value)} {oc1 kV1 dc1 pm1 cd1 ct1 : Value}
    {f2 : Addr} {od2 an2 : Option Addr} {sl2 : Array (Option Value)} {oc2 kV2 dc2 pm2 cd2 ct2 : Value}
    {f3 : Addr} {od3 an3 : Option Addr} {sl3 : Array (Option Value)} {oc3 kV3 dc3 pm3 cd3 ct3 : Value}
    {f4 : Addr} {od4 an4 : Option Addr} {sl4 : Array (Option Value)} {oc4 kV4 dc4 pm4 cd4 ct4 : Value}
    {f5 : Addr} {od5 an5 : Option Addr} {sl5 : Array (Option Value)} {oc5 kV5 dc5 pm5 cd5 ct5 : Value}
    {f6 : Addr} {od6 an6 : Option Addr} {sl6 : Array (Option Value)} {oc6 kV6 dc6 pm6 cd6 ct6 : Value}
    {f7 : Addr} {od7 an7 : Option Addr} {sl7 : Array (Option Value)} {oc7 kV7 dc7 pm7 cd7 ct7 : Value}
    {f8 : Addr} {od8 an8 : Option Addr} {sl8 : Array (Option Value)} {oc8 kV8 dc8 pm8 cd8 ct8 : Value}
    {f9 : Addr} {od9 an9 : Option Addr} {sl9 : Array (Option Value)} {oc9 kV9 dc9 pm9 cd9 ct9 : Value}
    {f10 : Addr} {od10 an10 : Option Addr} {sl10 : Array (Option Value)} {oc10 kV10 dc10 pm10 cd10 ct10 : Value}
    {f11 : Addr} {od11 an11 : Option Addr} {sl11 : Array (Option Value)} {oc11 kV11 dc11 pm11 cd11 ct11 : Value}
    {f12 : Addr} {od12 an12 : Option Addr} {sl12 : Array (Option Value)} {oc12 kV12 dc12 pm12 cd12 ct12 : Value}
    {f13 : Addr} {od13 an13 : Option Addr} {sl13 : Array (Option Value)} {oc13 kV13 dc13 pm13 cd13 ct13 : Value}
    {f14 : Addr} {od14 an14 : Option Addr} {sl14 : Array (Option Value)} {oc14 kV14 dc14 pm14 cd14 ct14 : Value}
    {C0 : Addr}
    {C1 : Addr}
    (a0 : PySem.W.nsIn K mainGlobals "greatest_divisor" = some (some (.ref f0)))
    (l0 : K.lookup f0 = some ⟨oc0, od0, .func (PySem.W.fnOf "greatest_divisor" "greatest_divisor" (defArgs (topS 4)) (defBody (topS 4)) (defScope (topS 4)) .none kV0 dc0 pm0 an0 cd0 ct0), sl0⟩)
    (c0 : PySem.W.codeIn K cd0 "greatest_divisor" = true)
    (k0 : PySem.W.keepIn K (.ref f0) = true)
    (a1 : PySem.W.nsIn K mainGlobals "number_of" = some (some (.ref f1)))
    (l1 : K.lookup f1 = some ⟨oc1, od1, .func (PySem.W.fnOf "number_of" "number_of" (defArgs (topS 5)) (defBody (topS 5)) (defScope (topS 5)) .none kV1 dc1 pm1 an1 cd1 ct1), sl1⟩)
    (c1 : PySem.W.codeIn K cd1 "number_of" = true)
    (k1 : PySem.W.keepIn K (.ref f1) = true)
    (a2 : PySem.W.nsIn K mainGlobals "sum_of" = some (some (.ref f2)))
    (l2 : K.lookup f2 = some ⟨oc2, od2, .func (PySem.W.fnOf "sum_of" "sum_of" (defArgs (topS 6)) (defBody (topS 6)) (defScope (topS 6)) .none kV2 dc2 pm2 an2 cd2 ct2), sl2⟩)
    (c2 : PySem.W.codeIn K cd2 "sum_of" = true)
    (k2 : PySem.W.keepIn K (.ref f2) = true)
    (a3 : PySem.W.nsIn K mainGlobals "difference_of" = some (some (.ref f3)))
    (l3 : K.lookup f3 = some ⟨oc3, od3, .func (PySem.W.fnOf "difference_of" "difference_of" (defArgs (topS 7)) (defBody (topS 7)) (defScope (topS 7)) .none kV3 dc3 pm3 an3 cd3 ct3), sl3⟩)
    (c3 : PySem.W.codeIn K cd3 "difference_of" = true)
    (k3 : PySem.W.keepIn K (.ref f3) = true)
    (a4 : PySem.W.nsIn K mainGlobals "product_of" = some (some (.ref f4)))
    (l4 : K.lookup f4 = some ⟨oc4, od4, .func (PySem.W.fnOf "product_of" "product_of" (defArgs (topS 8)) (defBody (topS 8)) (defScope (topS 8)) .none kV4 dc4 pm4 an4 cd4 ct4), sl4⟩)
    (c4 : PySem.W.codeIn K cd4 "product_of" = true)
    (k4 : PySem.W.keepIn K (.ref f4) = true)
    (a5 : PySem.W.nsIn K mainGlobals "quotient_of" = some (some (.ref f5)))
    (l5 : K.lookup f5 = some ⟨oc5, od5, .func (PySem.W.fnOf "quotient_of" "quotient_of" (defArgs (topS 9)) (defBody (topS 9)) (defScope (topS 9)) .none kV5 dc5 pm5 an5 cd5 ct5), sl5⟩)
    (c5 : PySem.W.codeIn K cd5 "quotient_of" = true)
    (k5 : PySem.W.keepIn K (.ref f5) = true)
    (a6 : PySem.W.nsIn K mainGlobals "is_less" = some (some (.ref f6)))
    (l6 : K.lookup f6 = some ⟨oc6, od6, .func (PySem.W.fnOf "is_less" "is_less" (defArgs (topS 10)) (defBody (topS 10)) (defScope (topS 10)) .none kV6 dc6 pm6 an6 cd6 ct6), sl6⟩)
    (c6 : PySem.W.codeIn K cd6 "is_less" = true)
    (k6 : PySem.W.keepIn K (.ref f6) = true)
    (a7 : PySem.W.nsIn K mainGlobals "_law_pen" = some (some (.ref f7)))
    (l7 : K.lookup f7 = some ⟨oc7, od7, .func (PySem.W.fnOf "_law_pen" "_law_pen" (defArgs (topS 12)) (defBody (topS 12)) (defScope (topS 12)) .none kV7 dc7 pm7 an7 cd7 ct7), sl7⟩)
    (c7 : PySem.W.codeIn K cd7 "_law_pen" = true)
    (k7 : PySem.W.keepIn K (.ref f7) = true)
    (a8 : PySem.W.nsIn K mainGlobals "_law_take" = some (some (.ref f8)))
    (l8 : K.lookup f8 = some ⟨oc8, od8, .func (PySem.W.fnOf "_law_take" "_law_take" (defArgs (topS 13)) (defBody (topS 13)) (defScope (topS 13)) .none kV8 dc8 pm8 an8 cd8 ct8), sl8⟩)
    (c8 : PySem.W.codeIn K cd8 "_law_take" = true)
    (k8 : PySem.W.keepIn K (.ref f8) = true)
    (a9 : PySem.W.nsIn K mainGlobals "_law_lowest" = some (some (.ref f9)))
    (l9 : K.lookup f9 = some ⟨oc9, od9, .func (PySem.W.fnOf "_law_lowest" "_law_lowest" (defArgs (topS 14)) (defBody (topS 14)) (defScope (topS 14)) .none kV9 dc9 pm9 an9 cd9 ct9), sl9⟩)
    (c9 : PySem.W.codeIn K cd9 "_law_lowest" = true)
    (k9 : PySem.W.keepIn K (.ref f9) = true)
    (a10 : PySem.W.nsIn K mainGlobals "_law_number" = some (some (.ref f10)))
    (l10 : K.lookup f10 = some ⟨oc10, od10, .func (PySem.W.fnOf "_law_number" "_law_number" (defArgs (topS 15)) (defBody (topS 15)) (defScope (topS 15)) .none kV10 dc10 pm10 an10 cd10 ct10), sl10⟩)
    (c10 : PySem.W.codeIn K cd10 "_law_number" = true)
    (k10 : PySem.W.keepIn K (.ref f10) = true)
    (a11 : PySem.W.nsIn K mainGlobals "_law_in_turn" = some (some (.ref f11)))
    (l11 : K.lookup f11 = some ⟨oc11, od11, .func (PySem.W.fnOf "_law_in_turn" "_law_in_turn" (defArgs (topS 16)) (defBody (topS 16)) (defScope (topS 16)) .none kV11 dc11 pm11 an11 cd11 ct11), sl11⟩)
    (c11 : PySem.W.codeIn K cd11 "_law_in_turn" = true)
    (k11 : PySem.W.keepIn K (.ref f11) = true)
    (a12 : PySem.W.nsIn K mainGlobals "_law_back" = some (some (.ref f12)))
    (l12 : K.lookup f12 = some ⟨oc12, od12, .func (PySem.W.fnOf "_law_back" "_law_back" (defArgs (topS 17)) (defBody (topS 17)) (defScope (topS 17)) .none kV12 dc12 pm12 an12 cd12 ct12), sl12⟩)
    (c12 : PySem.W.codeIn K cd12 "_law_back" = true)
    (k12 : PySem.W.keepIn K (.ref f12) = true)
    (a13 : PySem.W.nsIn K mainGlobals "_law_order" = some (some (.ref f13)))
    (l13 : K.lookup f13 = some ⟨oc13, od13, .func (PySem.W.fnOf "_law_order" "_law_order" (defArgs (topS 18)) (defBody (topS 18)) (defScope (topS 18)) .none kV13 dc13 pm13 an13 cd13 ct13), sl13⟩)
    (c13 : PySem.W.codeIn K cd13 "_law_order" = true)
    (k13 : PySem.W.keepIn K (.ref f13) = true)
    (a14 : PySem.W.nsIn K mainGlobals "law" = some (some (.ref f14)))
    (l14 : K.lookup f14 = some ⟨oc14, od14, .func (PySem.W.fnOf "law" "law" (defArgs (topS 19)) (defBody (topS 19)) (defScope (topS 19)) .none kV14 dc14 pm14 an14 cd14 ct14), sl14⟩)
    (c14 : PySem.W.codeIn K cd14 "law" = true)
    (k14 : PySem.W.keepIn K (.ref f14) = true)
    (z0 : PySem.W.nsIn K mainGlobals "abs" = some none)
    (z1 : PySem.W.nsIn K mainGlobals "len" = some none)
    (z2 : PySem.W.nsIn K mainGlobals "range" = some none)
    (g0 : PySem.W.nsIn K mainGlobals "SheetError" = some (some (.ref C0)))
    (g1 : PySem.W.nsIn K mainGlobals "NoNumber" = some (some (.ref C1)))
    (e0_0 : PySem.W.findIn K (.ref C0) "__getattribute__" = some (some (.builtin "BaseException.__getattribute__")))
    (e0_1 : PySem.W.findIn K (.ref C0) "__getattr__" = some none)
    (e0_2 : PySem.W.subIn K (.ref C0) (.type "BaseException") = some true)
    (e0_3 : PySem.W.hasDictIn K C0 = true)
    (e0_4 : PySem.W.findIn K (.ref C0) "__class__" = some (some (.builtin "object.__class__")))
    (e0_7 : PySem.W.mroIn K C0 (.type "object") = some true)
    (e0_8 : PySem.W.isClsIn K C0 = true)
    (e0_9 : PySem.W.typeIn K (.ref C0) = some (.type "type"))
    (e1_0 : PySem.W.findIn K (.ref C1) "__getattribute__" = some (some (.builtin "BaseException.__getattribute__")))
    (e1_1 : PySem.W.findIn K (.ref C1) "__getattr__" = some none)
    (e1_2 : PySem.W.subIn K (.ref C1) (.type "BaseException") = some true)
    (e1_3 : PySem.W.hasDictIn K C1 = true)
    (e1_4 : PySem.W.findIn K (.ref C1) "__class__" = some (some (.builtin "object.__class__")))
    (e1_7 : PySem.W.mroIn K C1 (.type "object") = some true)
    (e1_8 : PySem.W.isClsIn K C1 = true)
    (e1_9 : PySem.W.typeIn K (.ref C1) = some (.type "type"))
    (x1 : PySem.W.excIn K C1 [.type "ValueError", .type "Exception", .type "BaseException", .type "object"] "ValueError.__new__" = true)
    (y1 : PySem.W.keepIn K (.ref C1) = true)
    (e_5 : PySem.W.specialIn K (.builtin "object.__class__") "__get__" = some (some (.builtin "getset_descriptor.__get__")))
    (e_6 : PySem.W.takesIn K (.builtin "object.__class__") = some true)
    : TopOk P w K mg tb pg := by
  have E0 : ExcFacts K C0 := excFacts_mk e0_0 e0_1 e0_2 e0_3 e0_4 e_5 e_6 e0_7 e0_8 e0_9
  have M0 := PySem.W.mg_of X G g0
  have E1 : ExcFacts K C1 := excFacts_mk e1_0 e1_1 e1_2 e1_3 e1_4 e_5 e_6 e1_7 e1_8 e1_9
  have M1 := PySem.W.mg_of X G g1
  refine ⟨?_, ?_, ?_, ?_, ?_, ?_, by decide +kernel⟩
  · intro f hf
    simp only [tb, List.mem_cons, List.not_mem_nil, or_false] at hf
    rcases hf with rfl | rfl | rfl | rfl | rfl | rfl | rfl | rfl | rfl | rfl | rfl | rfl | rfl | rfl | rfl
    · exact defOk_mk d_greatest_divisor p_greatest_divisor X G a0 l0 c0 k0
    · exact defOk_mk d_number_of p_number_of X G a1 l1 c1 k1
    · exact defOk_mk d_sum_of p_sum_of X G a2 l2 c2 k2
    · exact defOk_mk d_difference_of p_difference_of X G a3 l3 c3 k3
    · exact defOk_mk d_product_of p_product_of X G a4 l4 c4 k4
    · exact defOk_mk d_quotient_of p_quotient_of X G a5 l5 c5 k5
    · exact defOk_mk d_is_less p_is_less X G a6 l6 c6 k6
    · exact defOk_mk d_law_pen p_law_pen X G a7 l7 c7 k7
    · exact defOk_mk d_law_take p_law_take X G a8 l8 c8 k8
    · exact defOk_mk d_law_lowest p_law_lowest X G a9 l9 c9 k9
    · exact defOk_mk d_law_number p_law_number X G a10 l10 c10 k10
    · exact defOk_mk d_law_in_turn p_law_in_turn X G a11 l11 c11 k11
    · exact defOk_mk d_law_back p_law_back X G a12 l12 c12 k12
    · exact defOk_mk d_law_order p_law_order X G a13 l13 c13 k13
    · exact defOk_mk d_law p_law X G a14 l14 c14 k14
  · intro y hy
    simp [tb] at hy
  · intro y hy
    simp only [tb, List.mem_cons, List.not_mem_nil, or_false] at hy
    rcases hy with rfl | rfl | rfl
    · exact PySem.W.mg_none_of X G z0
    · exact PySem.W.mg_none_of X G z1
    · exact PySem.W.mg_none_of X G z2
  · intro c k b hs
    have hm := mem_lookup2 hs
    simp only [subT, List.mem_cons, List.not_mem_nil, or_false, Prod.mk.injEq] at hm
  · intro c hc
    simp only [tb, List.mem_cons, List.not_mem_nil, or_false] at hc
    rcases hc with rfl | rfl
    · exact ⟨C0, M0⟩
    · exact ⟨C1, M1⟩
  · intro c hc
    simp only [tb, List.mem_cons, List.not_mem_nil, or_false] at hc
    rcases hc with rfl
    · exact ⟨C1, _, _, _, _, M1, PySem.F.excBase_ValueError, x1, y1, e1_2, e1_9⟩
theorem all_mk {l : PySem.W.OpenLaw} {w : World} {K : PySem.W.Frag} {h : Heap} {mg : Str → Option Value} {fa : Addr} (X : K.In h) (G : h.Ns mainGlobals mg) (hfa : mg "law" = some (.ref fa))
    {f0 : Addr} {od0 an0 : Option Addr} {sl0 : Array (Option Value)} {oc0 kV0 dc0 pm0 cd0 ct0 : Value}
    {f1 : Addr} {od1 an1 : Option Addr} {sl1 : Array (Option Value)} {oc1 kV1 dc1 pm1 cd1 ct1 : Value}
    {f2 : Addr} {od2 an2 : Option Addr} {sl2 : Array (Option Value)} {oc2 kV2 dc2 pm2 cd2 ct2 : Value}
    {f3 : Addr} {od3 an3 : Option Addr} {sl3 : Array (Option Value)} {oc3 kV3 dc3 pm3 cd3 ct3 : Value}
    {f4 : Addr} {od4 an4 : Option Addr} {sl4 : Array (Option Value)} {oc4 kV4 dc4 pm4 cd4 ct4 : Value}
    {f5 : Addr} {od5 an5 : Option Addr} {sl5 : Array (Option Value)} {oc5 kV5 dc5 pm5 cd5 ct5 : Value}
    {f6 : Addr} {od6 an6 : Option Addr} {sl6 : Array (Option Value)} {oc6 kV6 dc6 pm6 cd6 ct6 : Value}
    {f7 : Addr} {od7 an7 : Option Addr} {sl7 : Array (Option Value)} {oc7 kV7 dc7 pm7 cd7 ct7 : Value}
    {f8 : Addr} {od8 an8 : Option Addr} {sl8 : Array (Option Value)} {oc8 kV8 dc8 pm8 cd8 ct8 : Value}
    {f9 : Addr} {od9 an9 : Option Addr} {sl9 : Array (Option Value)} {oc9 kV9 dc9 pm9 cd9 ct9 : Value}
    {f10 : Addr} {od10 an10 : Option Addr} {sl10 : Array (Option Value)} {oc10 kV10 dc10 pm10 cd10 ct10 : Value}
    {f11 : Addr} {od11 an11 : Option Addr} {sl11 : Array (Option Value)} {oc11 kV11 dc11 pm11 cd11 ct11 : Value}
    {f12 : Addr} {od12 an12 : Option Addr} {sl12 : Array (Option Value)} {oc12 kV12 dc12 pm12 cd12 ct12 : Value}
    {f13 : Addr} {od13 an13 : Option Addr} {sl13 : Array (Option Value)} {oc13 kV13 dc13 pm13 cd13 ct13 : Value}
    {f14 : Addr} {od14 an14 : Option Addr} {sl14 : Array (Option Value)} {oc14 kV14 dc14 pm14 cd14 ct14 : Value}
    {C0 : Addr}
    {C1 : Addr}
    (a0 : PySem.W.nsIn K mainGlobals "greatest_divisor" = some (some (.ref f0)))
    (l0 : K.lookup f0 = some ⟨oc0, od0, .func (PySem.W.fnOf "greatest_divisor" "greatest_divisor" (defArgs (topS 4)) (defBody (topS 4)) (defScope (topS 4)) .none kV0 dc0 pm0 an0 cd0 ct0), sl0⟩)
    (c0 : PySem.W.codeIn K cd0 "greatest_divisor" = true)
    (k0 : PySem.W.keepIn K (.ref f0) = true)
    (a1 : PySem.W.nsIn K mainGlobals "number_of" = some (some (.ref f1)))
    (l1 : K.lookup f1 = some ⟨oc1, od1, .func (PySem.W.fnOf "number_of" "number_of" (defArgs (topS 5)) (defBody (topS 5)) (defScope (topS 5)) .none kV1 dc1 pm1 an1 cd1 ct1), sl1⟩)
    (c1 : PySem.W.codeIn K cd1 "number_of" = true)
    (k1 : PySem.W.keepIn K (.ref f1) = true)
    (a2 : PySem.W.nsIn K mainGlobals "sum_of" = some (some (.ref f2)))
    (l2 : K.lookup f2 = some ⟨oc2, od2, .func (PySem.W.fnOf "sum_of" "sum_of" (defArgs (topS 6)) (defBody (topS 6)) (defScope (topS 6)) .none kV2 dc2 pm2 an2 cd2 ct2), sl2⟩)
    (c2 : PySem.W.codeIn K cd2 "sum_of" = true)
    (k2 : PySem.W.keepIn K (.ref f2) = true)
    (a3 : PySem.W.nsIn K mainGlobals "difference_of" = some (some (.ref f3)))
    (l3 : K.lookup f3 = some ⟨oc3, od3, .func (PySem.W.fnOf "difference_of" "difference_of" (defArgs (topS 7)) (defBody (topS 7)) (defScope (topS 7)) .none kV3 dc3 pm3 an3 cd3 ct3), sl3⟩)
    (c3 : PySem.W.codeIn K cd3 "difference_of" = true)
    (k3 : PySem.W.keepIn K (.ref f3) = true)
    (a4 : PySem.W.nsIn K mainGlobals "product_of" = some (some (.ref f4)))
    (l4 : K.lookup f4 = some ⟨oc4, od4, .func (PySem.W.fnOf "product_of" "product_of" (defArgs (topS 8)) (defBody (topS 8)) (defScope (topS 8)) .none kV4 dc4 pm4 an4 cd4 ct4), sl4⟩)
    (c4 : PySem.W.codeIn K cd4 "product_of" = true)
    (k4 : PySem.W.keepIn K (.ref f4) = true)
    (a5 : PySem.W.nsIn K mainGlobals "quotient_of" = some (some (.ref f5)))
    (l5 : K.lookup f5 = some ⟨oc5, od5, .func (PySem.W.fnOf "quotient_of" "quotient_of" (defArgs (topS 9)) (defBody (topS 9)) (defScope (topS 9)) .none kV5 dc5 pm5 an5 cd5 ct5), sl5⟩)
    (c5 : PySem.W.codeIn K cd5 "quotient_of" = true)
    (k5 : PySem.W.keepIn K (.ref f5) = true)
    (a6 : PySem.W.nsIn K mainGlobals "is_less" = some (some (.ref f6)))
    (l6 : K.lookup f6 = some ⟨oc6, od6, .func (PySem.W.fnOf "is_less" "is_less" (defArgs (topS 10)) (defBody (topS 10)) (defScope (topS 10)) .none kV6 dc6 pm6 an6 cd6 ct6), sl6⟩)
    (c6 : PySem.W.codeIn K cd6 "is_less" = true)
    (k6 : PySem.W.keepIn K (.ref f6) = true)
    (a7 : PySem.W.nsIn K mainGlobals "_law_pen" = some (some (.ref f7)))
    (l7 : K.lookup f7 = some ⟨oc7, od7, .func (PySem.W.fnOf "_law_pen" "_law_pen" (defArgs (topS 12)) (defBody (topS 12)) (defScope (topS 12)) .none kV7 dc7 pm7 an7 cd7 ct7), sl7⟩)
    (c7 : PySem.W.codeIn K cd7 "_law_pen" = true)
    (k7 : PySem.W.keepIn K (.ref f7) = true)
    (a8 : PySem.W.nsIn K mainGlobals "_law_take" = some (some (.ref f8)))
    (l8 : K.lookup f8 = some ⟨oc8, od8, .func (PySem.W.fnOf "_law_take" "_law_take" (defArgs (topS 13)) (defBody (topS 13)) (defScope (topS 13)) .none kV8 dc8 pm8 an8 cd8 ct8), sl8⟩)
    (c8 : PySem.W.codeIn K cd8 "_law_take" = true)
    (k8 : PySem.W.keepIn K (.ref f8) = true)
    (a9 : PySem.W.nsIn K mainGlobals "_law_lowest" = some (some (.ref f9)))
    (l9 : K.lookup f9 = some ⟨oc9, od9, .func (PySem.W.fnOf "_law_lowest" "_law_lowest" (defArgs (topS 14)) (defBody (topS 14)) (defScope (topS 14)) .none kV9 dc9 pm9 an9 cd9 ct9), sl9⟩)
    (c9 : PySem.W.codeIn K cd9 "_law_lowest" = true)
    (k9 : PySem.W.keepIn K (.ref f9) = true)
    (a10 : PySem.W.nsIn K mainGlobals "_law_number" = some (some (.ref f10)))
    (l10 : K.lookup f10 = some ⟨oc10, od10, .func (PySem.W.fnOf "_law_number" "_law_number" (defArgs (topS 15)) (defBody (topS 15)) (defScope (topS 15)) .none kV10 dc10 pm10 an10 cd10 ct10), sl10⟩)
    (c10 : PySem.W.codeIn K cd10 "_law_number" = true)
    (k10 : PySem.W.keepIn K (.ref f10) = true)
    (a11 : PySem.W.nsIn K mainGlobals "_law_in_turn" = some (some (.ref f11)))
    (l11 : K.lookup f11 = some ⟨oc11, od11, .func (PySem.W.fnOf "_law_in_turn" "_law_in_turn" (defArgs (topS 16)) (defBody (topS 16)) (defScope (topS 16)) .none kV11 dc11 pm11 an11 cd11 ct11), sl11⟩)
    (c11 : PySem.W.codeIn K cd11 "_law_in_turn" = true)
    (k11 : PySem.W.keepIn K (.ref f11) = true)
    (a12 : PySem.W.nsIn K mainGlobals "_law_back" = some (some (.ref f12)))
    (l12 : K.lookup f12 = some ⟨oc12, od12, .func (PySem.W.fnOf "_law_back" "_law_back" (defArgs (topS 17)) (defBody (topS 17)) (defScope (topS 17)) .none kV12 dc12 pm12 an12 cd12 ct12), sl12⟩)
    (c12 : PySem.W.codeIn K cd12 "_law_back" = true)
    (k12 : PySem.W.keepIn K (.ref f12) = true)
    (a13 : PySem.W.nsIn K mainGlobals "_law_order" = some (some (.ref f13)))
    (l13 : K.lookup f13 = some ⟨oc13, od13, .func (PySem.W.fnOf "_law_order" "_law_order" (defArgs (topS 18)) (defBody (topS 18)) (defScope (topS 18)) .none kV13 dc13 pm13 an13 cd13 ct13), sl13⟩)
    (c13 : PySem.W.codeIn K cd13 "_law_order" = true)
    (k13 : PySem.W.keepIn K (.ref f13) = true)
    (a14 : PySem.W.nsIn K mainGlobals "law" = some (some (.ref f14)))
    (l14 : K.lookup f14 = some ⟨oc14, od14, .func (PySem.W.fnOf "law" "law" (defArgs (topS 19)) (defBody (topS 19)) (defScope (topS 19)) .none kV14 dc14 pm14 an14 cd14 ct14), sl14⟩)
    (c14 : PySem.W.codeIn K cd14 "law" = true)
    (k14 : PySem.W.keepIn K (.ref f14) = true)
    (z0 : PySem.W.nsIn K mainGlobals "abs" = some none)
    (z1 : PySem.W.nsIn K mainGlobals "len" = some none)
    (z2 : PySem.W.nsIn K mainGlobals "range" = some none)
    (g0 : PySem.W.nsIn K mainGlobals "SheetError" = some (some (.ref C0)))
    (g1 : PySem.W.nsIn K mainGlobals "NoNumber" = some (some (.ref C1)))
    (e0_0 : PySem.W.findIn K (.ref C0) "__getattribute__" = some (some (.builtin "BaseException.__getattribute__")))
    (e0_1 : PySem.W.findIn K (.ref C0) "__getattr__" = some none)
    (e0_2 : PySem.W.subIn K (.ref C0) (.type "BaseException") = some true)
    (e0_3 : PySem.W.hasDictIn K C0 = true)
    (e0_4 : PySem.W.findIn K (.ref C0) "__class__" = some (some (.builtin "object.__class__")))
    (e0_7 : PySem.W.mroIn K C0 (.type "object") = some true)
    (e0_8 : PySem.W.isClsIn K C0 = true)
    (e0_9 : PySem.W.typeIn K (.ref C0) = some (.type "type"))
    (e1_0 : PySem.W.findIn K (.ref C1) "__getattribute__" = some (some (.builtin "BaseException.__getattribute__")))
    (e1_1 : PySem.W.findIn K (.ref C1) "__getattr__" = some none)
    (e1_2 : PySem.W.subIn K (.ref C1) (.type "BaseException") = some true)
    (e1_3 : PySem.W.hasDictIn K C1 = true)
    (e1_4 : PySem.W.findIn K (.ref C1) "__class__" = some (some (.builtin "object.__class__")))
    (e1_7 : PySem.W.mroIn K C1 (.type "object") = some true)
    (e1_8 : PySem.W.isClsIn K C1 = true)
    (e1_9 : PySem.W.typeIn K (.ref C1) = some (.type "type"))
    (x1 : PySem.W.excIn K C1 [.type "ValueError", .type "Exception", .type "BaseException", .type "object"] "ValueError.__new__" = true)
    (y1 : PySem.W.keepIn K (.ref C1) = true)
    (e_5 : PySem.W.specialIn K (.builtin "object.__class__") "__get__" = some (some (.builtin "getset_descriptor.__get__")))
    (e_6 : PySem.W.takesIn K (.builtin "object.__class__") = some true)
    : ∃ fd : FuncData, (∀ (s : Shared) (v : Value), BindsTo s fd ⟨[v], []⟩ [("script", v)]) ∧ ∀ base : Heap, K.In base → base.Ns mainGlobals mg → FnOk l.prog w K mg base (L2.CX l.prog w) 8 fa fd ["script"] (spLaw K) := by
  have e := hfa.symm.trans (PySem.W.mg_of X G a14)
  cases e
  have T : TopOk l.prog w K mg tb pg := top_mk X G a0 l0 c0 k0 a1 l1 c1 k1 a2 l2 c2 k2 a3 l3 c3 k3 a4 l4 c4 k4 a5 l5 c5 k5 a6 l6 c6 k6 a7 l7 c7 k7 a8 l8 c8 k8 a9 l9 c9 k9 a10 l10 c10 k10 a11 l11 c11 k11 a12 l12 c12 k12 a13 l13 c13 k13 a14 l14 c14 k14 z0 z1 z2 g0 g1 e0_0 e0_1 e0_2 e0_3 e0_4 e0_7 e0_8 e0_9 e1_0 e1_1 e1_2 e1_3 e1_4 e1_7 e1_8 e1_9 x1 y1 e_5 e_6
  have F := fun_mk (st := topS 19) l14 c14 k14
  exact ⟨_, fun s v => .of_eq rfl, fun base _ _ => law_ok T F d_law p_law law_true⟩
end FS
open PySem PySem.W PyProof.Rows
set_option maxHeartbeats 0 in
theorem PySem.Challenge.cw_freshsheet_k03_whole_numbers_by_turns_holds : PySem.Challenge.rw_freshsheet_k03_whole_numbers_by_turns.Holds := by
  w_on; o_law; k_head; (case hw => w_witness2)
  k_fill
  refine L2.walk_of (l := PySem.Challenge.rw_freshsheet_k03_whole_numbers_by_turns) (n := 63) (k := 8) (x := "script") (CX := fun w => L2.CX PySem.Challenge.rw_freshsheet_k03_whole_numbers_by_turns.prog w) (sp := fun w => FS.spLaw _) rfl (by decide) rfl ⟨rfl, by decide, by decide⟩ (fun w h Y => PySem.W.kIn_of Y) ?F (fun _ _ a ns hl hO hS => ⟨a, ns, rfl, FS.fro_of hO hS, hl, fun _ => rfl⟩) (fun _ _ _ _ _ h => FS.no_exc h)
  case F =>
    intro w mg fa h KX G hmg
    refine' FS.all_mk KX G hmg ?fsa0 ?fsl0 ?fsc0 ?fsk0 ?fsa1 ?fsl1 ?fsc1 ?fsk1 ?fsa2 ?fsl2 ?fsc2 ?fsk2 ?fsa3 ?fsl3 ?fsc3 ?fsk3 ?fsa4 ?fsl4 ?fsc4 ?fsk4 ?fsa5 ?fsl5 ?fsc5 ?fsk5 ?fsa6 ?fsl6 ?fsc6 ?fsk6 ?fsa7 ?fsl7 ?fsc7 ?fsk7 ?fsa8 ?fsl8 ?fsc8 ?fsk8 ?fsa9 ?fsl9 ?fsc9 ?fsk9 ?fsa10 ?fsl10 ?fsc10 ?fsk10 ?fsa11 ?fsl11 ?fsc11 ?fsk11 ?fsa12 ?fsl12 ?fsc12 ?fsk12 ?fsa13 ?fsl13 ?fsc13 ?fsk13 ?fsa14 ?fsl14 ?fsc14 ?fsk14 ?fsz0 ?fsz1 ?fsz2 ?fsg0 ?fsg1 ?fse0_0 ?fse0_1 ?fse0_2 ?fse0_3 ?fse0_4 ?fse0_7 ?fse0_8 ?fse0_9 ?fse1_0 ?fse1_1 ?fse1_2 ?fse1_3 ?fse1_4 ?fse1_7 ?fse1_8 ?fse1_9 ?fsx1 ?fsy1 ?fse_5 ?fse_6
    (case fsa0 => k_is)
    (case fsl0 => k_is)
    (case fsc0 => k_is)
    (case fsk0 => k_is)
    (case fsa1 => k_is)
    (case fsl1 => k_is)
    (case fsc1 => k_is)
    (case fsk1 => k_is)
    (case fsa2 => k_is)
    (case fsl2 => k_is)
    (case fsc2 => k_is)
    (case fsk2 => k_is)
    (case fsa3 => k_is)
    (case fsl3 => k_is)
    (case fsc3 => k_is)
    (case fsk3 => k_is)
    (case fsa4 => k_is)
    (case fsl4 => k_is)
    (case fsc4 => k_is)
    (case fsk4 => k_is)
    (case fsa5 => k_is)
    (case fsl5 => k_is)
    (case fsc5 => k_is)
    (case fsk5 => k_is)
    (case fsa6 => k_is)
    (case fsl6 => k_is)
    (case fsc6 => k_is)
    (case fsk6 => k_is)
    (case fsa7 => k_is)
    (case fsl7 => k_is)
    (case fsc7 => k_is)
    (case fsk7 => k_is)
    (case fsa8 => k_is)
    (case fsl8 => k_is)
    (case fsc8 => k_is)
    (case fsk8 => k_is)
    (case fsa9 => k_is)
    (case fsl9 => k_is)
    (case fsc9 => k_is)
    (case fsk9 => k_is)
    (case fsa10 => k_is)
    (case fsl10 => k_is)
    (case fsc10 => k_is)
    (case fsk10 => k_is)
    (case fsa11 => k_is)
    (case fsl11 => k_is)
    (case fsc11 => k_is)
    (case fsk11 => k_is)
    (case fsa12 => k_is)
    (case fsl12 => k_is)
    (case fsc12 => k_is)
    (case fsk12 => k_is)
    (case fsa13 => k_is)
    (case fsl13 => k_is)
    (case fsc13 => k_is)
    (case fsk13 => k_is)
    (case fsa14 => k_is)
    (case fsl14 => k_is)
    (case fsc14 => k_is)
    (case fsk14 => k_is)
    (case fsz0 => k_is)
    (case fsz1 => k_is)
    (case fsz2 => k_is)
    (case fsg0 => k_is)
    (case fsg1 => k_is)
    (case fse0_0 => k_is)
    (case fse0_1 => k_is)
    (case fse0_2 => k_is)
    (case fse0_3 => k_is)
    (case fse0_4 => k_is)
    (case fse0_7 => k_is)
    (case fse0_8 => k_is)
    (case fse0_9 => k_is)
    (case fse1_0 => k_is)
    (case fse1_1 => k_is)
    (case fse1_2 => k_is)
    (case fse1_3 => k_is)
    (case fse1_4 => k_is)
    (case fse1_7 => k_is)
    (case fse1_8 => k_is)
    (case fse1_9 => k_is)
    (case fsx1 => k_exc)
    (case fsy1 => k_is)
    (case fse_5 => k_is)
    (case fse_6 => k_is)

