import PyProof.Rows.All
import HandS.ForMost
import HandS.StrMore
import HandS.Replace
import Wide.All
import OpenK.AllK
import Wide.FinOn
import HandS.Exc
import HandS.ExcOwn
import HandS.WordsExc
import HandS.CallSlots
import HandS.Star
import HandS.Style
import HandS.FStr
import HandS.TupAny
import HandS.Wide
import HandS.TryOnly
import HandS.TryMany
import HandS.Conv
import HandS.Defaults
import KE.KDictKeyed
import HandS.Deep
import HandS.ExcCtx
import KE.GoesEnum
import KE.GoesMore
import HandS.Zip
import HandS.DictComp
import HandS.IsInst
import HandS.Small
import HandS.ExcInit
import HandS.Hot
import HandS.HotCalls
import HandS.ExcField
import HandS.ExcIs
import KE.KStateDown
import HandS.More
import HandS.Words
import HandS.Head0
import HandS.Head1
import HandS.Head2
import HandS.HeadEnd
import HandS.HeadHook1
import HandS.HeadHook2
import HandS.Codes
import PySem.Challenge.RW_onehold_k01_books_checked
set_option Elab.async false
set_option linter.all false
section
set_option Elab.async false
set_option linter.all false
set_option autoImplicit false
/-! Dl0: plain data D, the small language CE, CS of the programs, and what it computes. No heap here. -/
namespace DL

/-- plain data; obj n: the n-th cell of the store; own i: the list or dict that the slot i alone holds -/
inductive D where
  | non | bl (b : Bool) | int (i : Int) | str (s : List Nat) | tup (xs : List D) | lst (xs : List D) | dic (ks vs : List D)
  | obj (n : Nat) | own (i : Nat)
  deriving Inhabited

/-- what stands in a cell -/
inductive MO where
  | lst (xs : List D) | dic (ks vs : List D) | dead
  deriving Inhabited
/-- what a slot holds -/
inductive Sl where
  | none | val (d : D) | own (m : MO) | exc (c : Nat) (as : List D)
  deriving Inhabited
structure DS where
  sl : List Sl
  st : List MO
  deriving Inhabited

inductive Res (α σ : Type) where
  | ok (a : α) (s : σ) | exc (c : Nat) (as : List D) (s : σ) | stuck
namespace Res
variable {α β σ : Type}
def bind (r : Res α σ) (f : α → σ → Res β σ) : Res β σ := match r with
  | .ok a s => f a s
  | .exc c as s => .exc c as s
  | .stuck => .stuck
@[simp] theorem bind_ok (a : α) (s : σ) (f : α → σ → Res β σ) : (Res.ok a s).bind f = f a s := rfl
@[simp] theorem bind_exc (c : Nat) (as : List D) (s : σ) (f : α → σ → Res β σ) : (Res.exc c as s : Res α σ).bind f = .exc c as s := rfl
@[simp] theorem bind_stuck (f : α → σ → Res β σ) : (Res.stuck : Res α σ).bind f = .stuck := rfl
def lift (o : Option α) (s : σ) : Res α σ := match o with
  | some a => .ok a s
  | none => .stuck
@[simp] theorem lift_some (a : α) (s : σ) : lift (some a) s = .ok a s := rfl
@[simp] theorem lift_none (s : σ) : lift (none : Option α) s = .stuck := rfl
end Res
abbrev DF := List D → List MO → Res D (List MO)

/-! ### values -/
/-- sizes that are never passed -/
def big : Nat := 1000000

mutual
/-- Python's == on data, where it is defined here -/
def eqD : D → D → Bool
  | .non, .non => true
  | .bl a, .bl b => a == b
  | .bl a, .int j => (if a then 1 else 0) == j
  | .int i, .bl b => i == (if b then 1 else 0)
  | .int i, .int j => i == j
  | .str x, .str y => x == y
  | .lst xs, .lst ys => eqDs xs ys
  | .tup xs, .tup ys => eqDs xs ys
  | _, _ => false
def eqDs : List D → List D → Bool
  | [], [] => true
  | x :: xs, y :: ys => eqD x y && eqDs xs ys
  | _, _ => false
end
mutual
/-- data that == is asked of: no dict, no cell -/
def plainD : D → Bool
  | .non | .bl _ | .int _ => true
  | .str x => x.all (· < 1114112)
  | .tup xs | .lst xs => plainDs xs
  | _ => false
def plainDs : List D → Bool
  | [] => true
  | x :: xs => plainD x && plainDs xs
end
mutual
/-- how deep lists and tuples stand in each other -/
def depD : D → Nat
  | .tup xs | .lst xs => depDs xs + 1
  | _ => 0
def depDs : List D → Nat
  | [] => 0
  | x :: xs => max (depD x) (depDs xs)
end
def okD (d : D) : Bool := plainD d && decide (depD d ≤ 60)

def moV (d : D) : MO → D
  | .lst xs => .lst xs
  | .dic ks vs => .dic ks vs
  | .dead => d
/-- keys of dicts -/
def isKey : D → Bool
  | .int _ | .str _ => true
  | _ => false
def deref (s : DS) : D → D
  | .own i => match s.sl[i]? with
    | some (.own m) => moV (.own i) m
    | _ => .own i
  | .obj n => match s.st[n]? with
    | some m => moV (.obj n) m
    | none => .obj n
  | d => d
/-- a value that is kept elsewhere: what a slot alone held is its own no more -/
def esc (s : DS) : D → Res D DS
  | .own i => match s.sl[i]? with
    | some (.own (.lst xs)) => .ok (.lst xs) { s with sl := s.sl.set i (.val (.lst xs)) }
    | some (.own (.dic ks vs)) => .ok (.dic ks vs) { s with sl := s.sl.set i (.val (.dic ks vs)) }
    | _ => .stuck
  | d => .ok d s

inductive BinO where
  | add | sub | mul | fdiv | mod | pow | and
  deriving DecidableEq
inductive CmpO where
  | eq | ne | lt | le | gt | ge | isn | nis | isin | nin
  deriving DecidableEq

def bitsOk (i : Int) : Bool := decide (i.natAbs.log2 < 400000)
def binD : BinO → D → D → Option D
  | .add, .int i, .int j => some (.int (i + j))
  | .add, .str x, .str y => if x.length + y.length ≤ big then some (.str (x ++ y)) else none
  | .add, .lst x, .lst y => if x.length + y.length ≤ big then some (.lst (x ++ y)) else none
  | .add, .tup x, .tup y => if x.length + y.length ≤ big then some (.tup (x ++ y)) else none
  | .sub, .int i, .int j => some (.int (i - j))
  | .mul, .int i, .int j => if i.natAbs.log2 + j.natAbs.log2 < 1000000 then some (.int (i * j)) else none
  | .fdiv, .int i, .int j => if 0 < j ∧ j.natAbs.log2 < 9000 then some (.int (i / j)) else none
  | .mod, .int i, .int j => if 0 < j then some (.int (i % j)) else none
  | .pow, .int i, .int j => if 0 ≤ j ∧ j ≤ 100 ∧ i.natAbs.log2 < 1000 then some (.int (i ^ j.toNat)) else none
  | .and, .int i, .int j => some (.int (PySem.Builtin.bitAnd i j))
  | _, _, _ => none

/-- y is among xs -/
def memD (y : D) : List D → Bool
  | [] => false
  | x :: xs => eqD x y || memD y xs
def ltStr : List Nat → List Nat → Bool
  | _, [] => false
  | [], _ :: _ => true
  | a :: x, b :: y => if a = b then ltStr x y else decide (a < b)
def inD (x : D) : D → Option Bool
  | .lst ys | .tup ys => if okD x && ys.all okD then some (memD x ys) else none
  | .str y => match x with
    | .str [c] => some (y.contains c)
    | _ => none
  | .dic ks _ => if isKey x then some (memD x ks) else none
  | _ => none
def isNonD : D → Bool
  | .non => true
  | _ => false
/-- comparisons -/
def cmpD : CmpO → D → D → Option Bool
  | .eq, x, y => if okD x && okD y then some (eqD x y) else none
  | .ne, x, y => if okD x && okD y then some (!eqD x y) else none
  | .lt, .int i, .int j => some (decide (i < j))
  | .le, .int i, .int j => some (decide (i ≤ j))
  | .gt, .int i, .int j => some (decide (i > j))
  | .ge, .int i, .int j => some (decide (i ≥ j))
  | .isn, x, .non => some (isNonD x)
  | .nis, x, .non => some (!isNonD x)
  | .isin, x, y => inD x y
  | .nin, x, y => (inD x y).map (!·)
  | _, _, _ => none

def lookD (k : D) : List D → List D → Option D
  | x :: ks, v :: vs => if eqD x k then some v else lookD k ks vs
  | _, _ => none
def idxD : D → D → Option D
  | .lst xs, .int i | .tup xs, .int i => L2.atI xs i
  | .str xs, .int i => if xs.length ≤ big then (L2.atI xs i).map fun c => .str [c] else none
  | .dic ks vs, k => if isKey k then lookD k ks vs else none
  | _, _ => none
/-- a slice -/
def cutL {α : Type} (xs : List α) (lo hi : Option Int) : List α := (xs.drop (HT.sIx xs.length 0 lo)).take (HT.sIx xs.length xs.length hi - HT.sIx xs.length 0 lo)
def sliD (d : D) (lo hi : Option Int) : Option D := match d with
  | .lst xs => some (.lst (cutL xs lo hi))
  | .tup xs => some (.tup (cutL xs lo hi))
  | .str xs => if xs.length ≤ big then some (.str (cutL xs lo hi)) else none
  | _ => none
def revD : D → Option D
  | .lst xs => some (.lst xs.reverse)
  | .tup xs => some (.tup xs.reverse)
  | _ => none
/-- a new list of two lists -/
def catD : D → D → Option D
  | .lst x, .lst y => if x.length + y.length ≤ big then some (.lst (x ++ y)) else none
  | _, _ => none
/-- a dict's store -/
def repD (k v : D) : List D → List D → List D
  | x :: ks, y :: vs => (if eqD x k then v else y) :: repD k v ks vs
  | _, _ => []
def putD (k v : D) (ks vs : List D) : List D × List D := if memD k ks then (ks, repD k v ks vs) else (ks ++ [k], vs ++ [v])

def dctD : List D → List D → List D → List D → List D × List D
  | k :: ks, v :: vs, xs, ys => let p := putD k v xs ys; dctD ks vs p.1 p.2
  | _, _, xs, ys => (xs, ys)
inductive Bi where
  | len | abs | max2 | min2 | int1 | all | any | tuple | list | sorted
  deriving DecidableEq
inductive Me where
  | partition | startswith | join | split | find
  deriving DecidableEq

/-- kinds that isinstance asks of: 0 bool, 1 int, 2 str, 3 list, 4 tuple; others: the program's classes -/
def kindD : D → Nat → Bool
  | .bl _, 0 => true
  | .bl _, 1 => true
  | .int _, 1 => true
  | .str _, 2 => true
  | .lst _, 3 => true
  | .tup _, 4 => true
  | _, _ => false
def boolsD : List D → Option (List Bool)
  | [] => some []
  | .bl b :: r => (boolsD r).map (b :: ·)
  | _ => none
def biD : Bi → List D → Option D
  | .len, [.lst xs] | .len, [.tup xs] => some (.int xs.length)
  | .len, [.dic ks _] => some (.int ks.length)
  | .len, [.str xs] => if xs.length ≤ big then some (.int xs.length) else none
  | .abs, [.int i] => some (.int (if i < 0 then -i else i))
  | .max2, [.int i, .int j] => some (.int (if j > i then j else i))
  | .min2, [.int i, .int j] => some (.int (if j < i then j else i))
  | .int1, [.int i] => some (.int i)
  | .all, [.lst xs] => (boolsD xs).map fun bs => .bl (bs.all id)
  | .any, [.lst xs] => (boolsD xs).map fun bs => .bl (bs.any id)
  | .tuple, [.lst xs] | .tuple, [.tup xs] => some (.tup xs)
  | .list, [.lst xs] | .list, [.tup xs] => some (.lst xs)
  | _, _ => none

def sv (s : List Nat) : PySem.Str := ⟨s.toArray⟩
def ofS (x : PySem.Str) : D := .str x.cps.toList
def strsD : List D → Option (List (List Nat))
  | [] => some []
  | .str s :: r => (strsD r).map (s :: ·)
  | _ => none
/-- joined texts -/
def joinS (y : List Nat) (zs : List (List Nat)) : List Nat := (PySem.Txt.join (sv y) (zs.map sv)).cps.toList
def joinOk (y : List Nat) (zs : List (List Nat)) : Bool := decide ((zs.map (·.length)).sum + zs.length * y.length ≤ big)
/-- a text's method of one argument -/
def meD : Me → List Nat → D → Option D
  | .partition, x, .str y => if y.isEmpty || decide (big < x.length) then none else
    let r := PySem.Txt.partition (sv x) (sv y)
    some (.tup [ofS r.1, ofS r.2.1, ofS r.2.2])
  | .startswith, x, .str y => some (.bl (PySem.Txt.startswith (sv x) (sv y)))
  | .find, x, .str y => some (.int (PySem.Txt.find (sv x) (sv y)))
  | .join, y, .lst xs | .join, y, .tup xs => (strsD xs).bind fun zs => if joinOk y zs then some (.str (joinS y zs)) else none
  | .split, x, .str y => if y.isEmpty || decide (big < x.length) then none else some (.lst ((PySem.Txt.split (sv x) (sv y)).map ofS))
  | _, _, _ => none

/-! ### the language -/
inductive CT where
  | nm (i : Nat) | tp (t : List CT)

mutual
inductive CE where
  | var (i : Nat)
  | lit (d : D)
  | glo (x : List Nat) (d : D)
  | bin (o : BinO) (a b : CE)
  | neg (a : CE)
  | cmp (o : CmpO) (a b : CE)
  | chn (o p : CmpO) (a b c : CE)
  | and (as : CEs) | or (as : CEs)
  | nt (a : CE)
  | ite (t a b : CE)
  | tup (as : CAs) | lst (as : CAs)
  | call (k : Nat) (as : CAs)
  | callk (k : Nat) (as bs : CAs) (pm : List Nat)
  | bi (b : Bi) (as : CEs)
  | me (m : Me) (o a : CE)
  | idx (a i : CE)
  | sli (a : CE) (lo hi : CO)
  | rev (a : CE)
  | cat (a b : CE)
  | lc (vs : List Nat) (t : CT) (it : CI) (c : CO) (e : CE)
  | dc (vs : List Nat) (t : CT) (it : CI) (k v : CE)
  | fst (as : CEs)
  | fld (i c j : Nat)
  | pop (i : Nat)
  | get (a k e : CE)
  | rep (as : CAs) (e : CE)
  | dct (ks vs : CEs)
  | xis (i : Nat) (cs : List Nat)
  | isi (e : CE) (cs : List Nat)
inductive CEs where
  | nil | cons (e : CE) (r : CEs)
inductive CAs where
  | nil | cons (star : Bool) (e : CE) (r : CAs)
inductive CO where
  | none | some (e : CE)
inductive CI where
  | seq (e : CE) | rng1 (e : CE) | rng2 (a b : CE) | enum (e : CE) | zip (a b : CE)
end

/-- a list of expressions as arguments without stars -/
def asA : CEs → CAs
  | .nil => .nil
  | .cons e r => .cons false e (asA r)
/-- what a body leans on: the defs that it calls, the order of the exceptions' classes -/
structure Ev where
  fs : List DF
  sub : Nat → Nat → Bool
/-! ### what it computes -/
def wipe (sl : List Sl) : List Nat → List Sl
  | [] => sl
  | i :: r => wipe (sl.set i .none) r
mutual
def putT : CT → D → DS → Option DS
  | .nm i, d, s => some { s with sl := s.sl.set i (.val d) }
  | .tp ts, d, s => match d with
    | .tup ds | .lst ds => putTs ts ds s
    | _ => none
def putTs : List CT → List D → DS → Option DS
  | [], [], s => some s
  | t :: ts, d :: ds, s => (putT t d s).bind (putTs ts ds)
  | _, _, _ => none
end
def seqD : D → Option (List D)
  | .lst xs | .tup xs => some xs
  | .str xs => some (xs.map fun c => .str [c])
  | _ => none
def rngD (lo n : Int) : List D := (List.range (n - lo).toNat).map fun (i : Nat) => .int (lo + i)
def enumD : Nat → List D → List D
  | _, [] => []
  | n, x :: r => .tup [.int n, x] :: enumD (n + 1) r
def zipD : List D → List D → List D
  | x :: xs, y :: ys => .tup [x, y] :: zipD xs ys
  | _, _ => []
def strOf : D → Option (List Nat)
  | .str s => some s
  | _ => none
def asB (r : Res D DS) : Res Bool DS := r.bind fun d s => match d with
  | .bl b => .ok b s
  | _ => .stuck
@[simp] theorem asB_bl (b : Bool) (s : DS) : asB (.ok (.bl b) s) = .ok b s := rfl
@[simp] theorem asB_exc (c : Nat) (as : List D) (s : DS) : asB (.exc c as s) = .exc c as s := rfl
@[simp] theorem asB_stuck : asB .stuck = .stuck := rfl

/-- arguments put in the parameters' order -/
def pmL (pm : List Nat) (ds : List D) : List D := pm.map fun i => ds.getD i .non
/-- no error leaves -/
def noX {α : Type} (r : Res α DS) : Res α DS := match r with
  | .exc _ _ _ => .stuck
  | r => r
@[simp] theorem noX_ok {α : Type} (a : α) (s : DS) : noX (.ok a s) = .ok a s := rfl
/-- a comprehension's turns -/
def lcL (vs : List Nat) (t : CT) (c : DS → Res Bool DS) (e : DS → Res D DS) : List D → DS → Res (List D) DS
  | [], s => .ok [] { s with sl := wipe s.sl vs }
  | d :: r, s => match putT t d { s with sl := wipe s.sl vs } with
    | none => .stuck
    | some s => (noX (c s)).bind fun b s => if b then (noX (e s)).bind fun v s => (esc s v).bind fun v s => (lcL vs t c e r s).bind fun ws s => .ok (v :: ws) s else lcL vs t c e r s
def dcL (vs : List Nat) (t : CT) (k v : DS → Res D DS) : List D → List D → List D → DS → Res D DS
  | [], ks, ws, s => .ok (.dic ks ws) { s with sl := wipe s.sl vs }
  | d :: r, ks, ws, s => match putT t d { s with sl := wipe s.sl vs } with
    | none => .stuck
    | some s => (noX (k s)).bind fun x s => (esc s x).bind fun x s => (noX (v s)).bind fun y s => (esc s y).bind fun y s => if isKey x then let p := putD x y ks ws; dcL vs t k v r p.1 p.2 s else .stuck

mutual
def evE (Φ : Ev) : CE → DS → Res D DS
  | .var i, s => match s.sl[i]? with
    | some (.val d) => .ok d s
    | some (.own _) => .ok (.own i) s
    | _ => .stuck
  | .lit d, s => .ok d s
  | .glo _ d, s => .ok d s
  | .bin o a b, s => (evE Φ a s).bind fun x s => (evE Φ b s).bind fun y s => .lift (binD o (deref s x) (deref s y)) s
  | .neg a, s => (evE Φ a s).bind fun x s => match x with
    | .int i => .ok (.int (-i)) s
    | _ => .stuck
  | .cmp o a b, s => (evE Φ a s).bind fun x s => (evE Φ b s).bind fun y s => .lift ((cmpD o (deref s x) (deref s y)).map .bl) s
  | .chn o p a b c, s => (evE Φ a s).bind fun x s => (evE Φ b s).bind fun y s => (Res.lift (cmpD o (deref s x) (deref s y)) s).bind fun k s =>
    if k then (evE Φ c s).bind fun z s => .lift ((cmpD p (deref s y) (deref s z)).map .bl) s else .ok (.bl false) s
  | .and as, s => evAnd Φ as s
  | .or as, s => evOr Φ as s
  | .nt a, s => (asB (evE Φ a s)).bind fun b s => .ok (.bl (!b)) s
  | .ite t a b, s => (asB (evE Φ t s)).bind fun k s => if k then evE Φ a s else evE Φ b s
  | .tup as, s => (evA Φ as s).bind fun ds s => if ds.length ≤ big then .ok (.tup ds) s else .stuck
  | .lst as, s => (evA Φ as s).bind fun ds s => if ds.length ≤ big then .ok (.lst ds) s else .stuck
  | .call k as, s => (evA Φ as s).bind fun ds s => match Φ.fs[k]? with
    | none => .stuck
    | some F => match F ds s.st with
      | .ok d st => .ok d { s with st := st }
      | .exc c as st => .exc c as { s with st := st }
      | .stuck => .stuck
  | .callk k as bs pm, s => (evA Φ as s).bind fun ds s => (evA Φ bs s).bind fun es s => match Φ.fs[k]? with
    | none => .stuck
    | some F => match F (pmL pm (ds ++ es)) s.st with
      | .ok d st => .ok d { s with st := st }
      | .exc c as st => .exc c as { s with st := st }
      | .stuck => .stuck
  | .bi b as, s => (evEs Φ as s).bind fun ds s => .lift (biD b (ds.map (deref s))) s
  | .me m o a, s => (evE Φ o s).bind fun x s => match x with
    | .str z => (evE Φ a s).bind fun y s => .lift (meD m z (deref s y)) s
    | _ => .stuck
  | .idx a i, s => (evE Φ a s).bind fun x s => (evE Φ i s).bind fun y s => .lift (idxD (deref s x) (deref s y)) s
  | .sli a lo hi, s => (evE Φ a s).bind fun x s => (evO Φ lo s).bind fun l s => (evO Φ hi s).bind fun h s => .lift (sliD (deref s x) l h) s
  | .rev a, s => (evE Φ a s).bind fun x s => .lift (revD (deref s x)) s
  | .cat a b, s => (evE Φ a s).bind fun x s => (evE Φ b s).bind fun y s => .lift (catD (deref s x) (deref s y)) s
  | .lc vs t it c e, s => (evI Φ it s).bind fun ds s => if ds.length ≤ big then (lcL vs t (evC Φ c) (evE Φ e) ds s).bind fun ws s => .ok (.lst ws) s else .stuck
  | .dc vs t it k v, s => (evI Φ it s).bind fun ds s => if ds.length ≤ big then dcL vs t (evE Φ k) (evE Φ v) ds [] [] s else .stuck
  | .fst as, s => evF Φ as [] s
  | .fld i c j, s => match s.sl[i]? with
    | some (.exc k as) => if k = c then .lift as[j]? s else .stuck
    | _ => .stuck
  | .pop i, s => match s.sl[i]? with
    | some (.own (.lst xs)) => match xs.getLast? with
      | some x => .ok x { s with sl := s.sl.set i (.own (.lst xs.dropLast)) }
      | none => .stuck
    | _ => .stuck
  | .get a k e, s => (evE Φ a s).bind fun x s => match deref s x with
    | .dic _ _ => (evE Φ k s).bind fun y s => (evE Φ e s).bind fun z s => (esc s z).bind fun z s => match deref s x with
      | .dic ks vs => if isKey y then .ok ((lookD y ks vs).getD z) s else .stuck
      | _ => .stuck
    | _ => .stuck
  | .rep as e, s => (evA Φ as s).bind fun ds s => if ds.length ≤ 1000 then (evE Φ e s).bind fun x s => match x with
    | .int j => if 0 ≤ j ∧ j ≤ 1000 then .ok (.lst (List.replicate j.toNat ds).flatten) s else .stuck
    | _ => .stuck
    else .stuck
  | .dct ks vs, s => (evEs Φ ks s).bind fun xs s => (evEs Φ vs s).bind fun ys s => if xs.all isKey && decide (xs.length ≤ 15) then let p := dctD xs ys [] []; .ok (.dic p.1 p.2) s else .stuck
  | .isi e cs, s => (evE Φ e s).bind fun x s => match deref s x with
    | .obj _ | .own _ => .stuck
    | d => .ok (.bl (cs.any (kindD d))) s
  | .xis i cs, s => match s.sl[i]? with
    | some (.exc c _) => .ok (.bl (cs.any (Φ.sub c))) s
    | _ => .stuck
def evAnd (Φ : Ev) : CEs → DS → Res D DS
  | .nil, _ => .stuck
  | .cons a .nil, s => (asB (evE Φ a s)).bind fun b s => .ok (.bl b) s
  | .cons a r, s => (asB (evE Φ a s)).bind fun b s => if b then evAnd Φ r s else .ok (.bl false) s
def evOr (Φ : Ev) : CEs → DS → Res D DS
  | .nil, _ => .stuck
  | .cons a .nil, s => (asB (evE Φ a s)).bind fun b s => .ok (.bl b) s
  | .cons a r, s => (asB (evE Φ a s)).bind fun b s => if b then .ok (.bl true) s else evOr Φ r s
def evF (Φ : Ev) : CEs → List Nat → DS → Res D DS
  | .nil, acc, s => .ok (.str acc) s
  | .cons a r, acc, s => (evE Φ a s).bind fun x s => match x with
    | .str y => if (acc ++ y).length ≤ big then evF Φ r (acc ++ y) s else .stuck
    | _ => .stuck
def evEs (Φ : Ev) : CEs → DS → Res (List D) DS
  | .nil, s => .ok [] s
  | .cons a r, s => (evE Φ a s).bind fun x s => (evEs Φ r s).bind fun xs s => .ok (x :: xs) s
def evA (Φ : Ev) : CAs → DS → Res (List D) DS
  | .nil, s => .ok [] s
  | .cons star a r, s => (evE Φ a s).bind fun x s => if star then (match deref s x with
      | .lst ys | .tup ys => (evA Φ r s).bind fun xs s => .ok (ys ++ xs) s
      | _ => .stuck) else (esc s x).bind fun x s => (evA Φ r s).bind fun xs s => .ok (x :: xs) s
def evO (Φ : Ev) : CO → DS → Res (Option Int) DS
  | .none, s => .ok none s
  | .some e, s => (evE Φ e s).bind fun x s => match x with
    | .int i => .ok (some i) s
    | _ => .stuck
def evC (Φ : Ev) : CO → DS → Res Bool DS
  | .none, s => .ok true s
  | .some e, s => asB (evE Φ e s)
def evI (Φ : Ev) : CI → DS → Res (List D) DS
  | .seq e, s => (evE Φ e s).bind fun x s => (esc s x).bind fun x s => .lift (seqD x) s
  | .rng1 e, s => (evE Φ e s).bind fun x s => match x with
    | .int n => if -big ≤ n ∧ n ≤ big then .ok (rngD 0 n) s else .stuck
    | _ => .stuck
  | .rng2 a b, s => (evE Φ a s).bind fun x s => (evE Φ b s).bind fun y s => match x, y with
    | .int lo, .int n => if -big ≤ lo ∧ lo ≤ big ∧ -big ≤ n ∧ n ≤ big then .ok (rngD lo n) s else .stuck
    | _, _ => .stuck
  | .enum e, s => (evE Φ e s).bind fun x s => (esc s x).bind fun x s => match x with
    | .lst xs | .tup xs => .ok (enumD 0 xs) s
    | _ => .stuck
  | .zip a b, s => (evE Φ a s).bind fun x s => (esc s x).bind fun x s => (evE Φ b s).bind fun y s => (esc s y).bind fun y s => match x, y with
    | .lst xs, .lst ys | .tup xs, .tup ys => .ok (zipD xs ys) s
    | _, _ => .stuck
end

/-! ### statements -/
inductive Fl where
  | nx | bk | ct | ret (d : D)
mutual
inductive CS where
  | asg (t : CT) (e : CE)
  | own (i : Nat) (e : CE)
  | glb (i : Nat) (e : CE)
  | par (ks : List (Nat × Bool)) (es : CEs)
  | app (o e : CE)
  | ins (o k e : CE)
  | sti (o k e : CE)
  | aug (i : Nat) (e : CE)
  | ex (e : CE)
  | ret (e : CE) | retN | retG (e : CE)
  | ife (t : CE) (a b : CSs)
  | whl (n : Nat) (t : CE) (b : CSs)
  | for_ (t : CT) (it : CI) (b : CSs)
  | brk | cnt | pas
  | rai (c : Nat) (as : CEs)
  | tri (b : CSs) (hs : CHs)
inductive CSs where
  | nil | cons (a : CS) (r : CSs)
inductive CHs where
  | nil | cons (cs : List Nat) (i : Nat) (b : CSs) (r : CHs)
end
def clr1 : Sl → Sl
  | .exc _ _ => .none
  | x => x
/-- behind a suite: its error is let go -/
def clrX (i : Nat) (s : DS) : DS := { s with sl := (s.sl.map clr1).set i .none }
def putS (i : Nat) (x : Sl) (s : DS) : DS := { s with sl := s.sl.set i x }
/-- a new list or dict -/
def moD : D → Option MO
  | .lst xs => some (.lst xs)
  | .dic ks vs => some (.dic ks vs)
  | _ => none
def mutD (f : MO → Option MO) : D → DS → Res Fl DS
  | .own i, s => match s.sl[i]? with
    | some (.own m) => match f m with
      | some m => .ok .nx (putS i (.own m) s)
      | none => .stuck
    | _ => .stuck
  | .obj n, s => match s.st[n]? with
    | some m => match f m with
      | some m => .ok .nx { s with st := s.st.set n m }
      | none => .stuck
    | none => .stuck
  | _, _ => .stuck
def appM (d : D) : MO → Option MO
  | .lst xs => if xs.length < big then some (.lst (xs ++ [d])) else none
  | _ => none
def insM (k d : D) : MO → Option MO
  | .lst xs => match k with
    | .int i => if 0 ≤ i ∧ xs.length < big then some (.lst (xs.take i.toNat ++ [d] ++ xs.drop i.toNat)) else none
    | _ => none
  | _ => none
def stiM (k d : D) : MO → Option MO
  | .lst xs => match k with
    | .int i => (L2.ixN xs.length i).map fun j => .lst (xs.set j d)
    | _ => none
  | .dic ks vs => if isKey k && decide (ks.length < big) then let p := putD k d ks vs; some (.dic p.1 p.2) else none
  | _ => none
def parL : List (Nat × Bool) → List D → DS → Res Fl DS
  | [], [], s => .ok .nx s
  | (i, k) :: r, d :: ds, s => if k then (match moD d with
      | some m => parL r ds (putS i (.own m) s)
      | none => .stuck) else parL r ds (putS i (.val d) s)
  | _, _, _ => .stuck
def whlL (t : DS → Res Bool DS) (b : DS → Res Fl DS) : Nat → DS → Res Fl DS
  | 0, _ => .stuck
  | n + 1, s => (t s).bind fun k s => if k then (b s).bind fun f s => match f with
      | .nx => whlL t b n s
      | .ct => whlL t b n s
      | .bk => .ok .nx s
      | .ret d => .ok (.ret d) s
    else .ok .nx s
def forL (t : CT) (b : DS → Res Fl DS) : List D → DS → Res Fl DS
  | [], s => .ok .nx s
  | d :: r, s => match putT t d s with
    | none => .stuck
    | some s => (b s).bind fun f s => match f with
      | .nx => forL t b r s
      | .ct => forL t b r s
      | .bk => .ok .nx s
      | .ret d => .ok (.ret d) s
mutual
def exS (Φ : Ev) : CS → DS → Res Fl DS
  | .asg t e, s => (evE Φ e s).bind fun x s => (esc s x).bind fun x s => match putT t x s with
    | some s => .ok .nx s
    | none => .stuck
  | .own i e, s => (evE Φ e s).bind fun x s => match moD x with
    | some m => .ok .nx (putS i (.own m) s)
    | none => .stuck
  | .glb i e, s => (evE Φ e s).bind fun x s => match moD x with
    | some m => .ok .nx { sl := s.sl.set i (.val (.obj s.st.length)), st := s.st ++ [m] }
    | none => .stuck
  | .par ks es, s => (evA Φ (asA es) s).bind fun ds s => parL ks ds s
  | .app o e, s => (evE Φ o s).bind fun y s => match deref s y with
    | .lst _ => (evE Φ e s).bind fun x s => (esc s x).bind fun x s => mutD (appM x) y s
    | _ => .stuck
  | .ins o k e, s => (evE Φ o s).bind fun y s => (evE Φ k s).bind fun z s => (evE Φ e s).bind fun x s => (esc s x).bind fun x s => mutD (insM z x) y s
  | .sti o k e, s => (evE Φ e s).bind fun x s => (esc s x).bind fun x s => (evE Φ o s).bind fun y s => (evE Φ k s).bind fun z s => mutD (stiM z x) y s
  | .aug i e, s => match s.sl[i]? with
    | some (.val x) => (evE Φ e s).bind fun y s => match x, y with
      | .int a, .int b => .ok .nx (putS i (.val (.int (a + b))) s)
      | _, _ => .stuck
    | _ => .stuck
  | .ex e, s => (evE Φ e s).bind fun _ s => .ok .nx s
  | .ret e, s => (evE Φ e s).bind fun x s => (esc s x).bind fun x s => .ok (.ret x) s
  | .retN, s => .ok (.ret .non) s
  | .retG e, s => (evE Φ e s).bind fun x s => match moD x with
    | some m => .ok (.ret (.obj s.st.length)) { s with st := s.st ++ [m] }
    | none => .stuck
  | .ife t a b, s => (asB (evE Φ t s)).bind fun k s => if k then exSs Φ a s else exSs Φ b s
  | .whl n t b, s => whlL (fun s => asB (evE Φ t s)) (exSs Φ b) n s
  | .for_ t it b, s => (evI Φ it s).bind fun ds s => if ds.length ≤ big then forL t (exSs Φ b) ds s else .stuck
  | .brk, s => .ok .bk s
  | .cnt, s => .ok .ct s
  | .pas, s => .ok .nx s
  | .rai c as, s => (evA Φ (asA as) s).bind fun ds s => .exc c ds s
  | .tri b hs, s => match exSs Φ b s with
    | .exc c as s => exH Φ c as hs s
    | r => r
def exSs (Φ : Ev) : CSs → DS → Res Fl DS
  | .nil, s => .ok .nx s
  | .cons a r, s => (exS Φ a s).bind fun f s => match f with
    | .nx => exSs Φ r s
    | f => .ok f s
def exH (Φ : Ev) (c : Nat) (as : List D) : CHs → DS → Res Fl DS
  | .nil, s => .exc c as s
  | .cons cs i b r, s => if cs.any (Φ.sub c) then (noX (exSs Φ b (putS i (.exc c as) s))).bind fun f s => .ok f (clrX i s) else exH Φ c as r s
end
/-- a def: how many parameters, how many names, its body -/
def fnD (Φ : Ev) (np n : Nat) (b : CSs) : DF := fun ds st => if ds.length = np then
    match exSs Φ b { sl := ds.map .val ++ List.replicate (n - np) .none, st := st } with
    | .ok f s => match f with
      | .ret d => .ok d s.st
      | .nx => .ok .non s.st
      | _ => .stuck
    | .exc c as s => .exc c as s.st
    | .stuck => .stuck
  else .stuck
end DL
end

section
set_option Elab.async false
set_option linter.all false
set_option autoImplicit false
set_option maxRecDepth 100000
/-! Dl1: how plain data lies in the heap; what an expression's meaning promises. -/
namespace DL
open PySem L2
abbrev St := L2.St

def Ex (H H' : Hp) : Prop := ∀ a o, H a = some o → H' a = some o
theorem Ex.refl (H : Hp) : Ex H H := fun _ _ h => h
theorem Ex.trans {H H1 H2 : Hp} (a : Ex H H1) (b : Ex H1 H2) : Ex H H2 := fun x o h => b x o (a x o h)
theorem Ex.new {H : Hp} {p : Addr} {o : HO} (h : H p = none) : Ex H (upd H p o) := fun a u e => by
  rw [upd_ne (ne_of_none e h)]
  exact e
theorem Ex.none {H H' : Hp} {p : Addr} (e : Ex H H') (h : H' p = none) : H p = none := by
  cases q : H p with
  | none => rfl
  | some o => rw [e p o q] at h; cases h
theorem Ex.rd {H H' : Hp} {a : Addr} {u : HO} (e : Ex H H') (h : Rd H a u) : Rd H' a u := by
  rcases h with h | ⟨o, h⟩
  · exact Or.inl (e a _ h)
  · exact Or.inr ⟨o, e a _ h⟩
theorem Ex.sl {K : PySem.W.Frag} {H H' : Hp} {a : Addr} {xs : List V} (e : Ex H H') (h : SqL K H a xs) : SqL K H' a xs := by
  rcases h with h | h
  · exact Or.inl (e.rd h)
  · exact Or.inr h
theorem Ex.st {K : PySem.W.Frag} {H H' : Hp} {a : Addr} {xs : List V} (e : Ex H H') (h : SqT K H a xs) : SqT K H' a xs := by
  rcases h with h | h
  · exact Or.inl (e.rd h)
  · exact Or.inr h
/-- one list is the beginning of the other -/
abbrev Pre (L L' : List Addr) : Prop := L <+: L'
theorem Pre.at {L L' : List Addr} (h : Pre L L') {n : Nat} {a : Addr} (e : L[n]? = some a) : L'[n]? = some a := by
  obtain ⟨t, rfl⟩ := h
  rw [List.getElem?_append_left (List.getElem?_eq_some_iff.mp e).1]
  exact e

/-- the exact object at a -/
def isO (a : Addr) (o : Obj) : HO := .ext fun h => h.get? a = some o

/-- a key as data -/
def keyD : Key → D
  | .inl i => .int i
  | .inr x => .str x.cps.toList
mutual
/-- how plain data lies in the part G of the heap that never changes any more, the cells of the store at L -/
inductive Rp (w : World) (K : PySem.W.Frag) (G : Hp) (L : List Addr) : V → D → Prop
  | non : Rp w K G L .non .non
  | bl (b : Bool) : Rp w K G L (.bl b) (.bl b)
  | int (i : Int) : Rp w K G L (.int i) (.int i)
  | str (x : Str) : Rp w K G L (.str x) (.str x.cps.toList)
  | tup {a : Addr} {xs : List V} {ds : List D} : SqT K G a xs → Rps w K G L xs ds → Rp w K G L (.ref a) (.tup ds)
  | lst {a : Addr} {xs : List V} {ds : List D} : SqL K G a xs → Rps w K G L xs ds → Rp w K G L (.ref a) (.lst ds)
  | obj {n : Nat} {a : Addr} : L[n]? = some a → Rp w K G L (.ref a) (.obj n)
  | dic {a : Addr} {kvs : List (Key × V)} {ds : List D} : G a = some (.dK kvs) → Rps w K G L (kvs.map (·.2)) ds → Rp w K G L (.ref a) (.dic (kvs.map fun p => keyD p.1) ds)
inductive Rps (w : World) (K : PySem.W.Frag) (G : Hp) (L : List Addr) : List V → List D → Prop
  | nil : Rps w K G L [] []
  | cons {v : V} {vs : List V} {d : D} {ds : List D} : Rp w K G L v d → Rps w K G L vs ds → Rps w K G L (v :: vs) (d :: ds)
end
section
variable {w : World} {K : PySem.W.Frag} {G G' : Hp} {L L' : List Addr}
mutual
theorem Rp.mono (e : Ex G G') (l : Pre L L') : ∀ {v : V} {d : D}, Rp w K G L v d → Rp w K G' L' v d
  | _, _, .non => .non
  | _, _, .bl b => .bl b
  | _, _, .int i => .int i
  | _, _, .str x => .str x
  | _, _, .tup h r => .tup (e.st h) (Rps.mono e l r)
  | _, _, .lst h r => .lst (e.sl h) (Rps.mono e l r)
  | _, _, .obj h => .obj (l.at h)
  | _, _, .dic h r => .dic (e _ _ h) (Rps.mono e l r)
theorem Rps.mono (e : Ex G G') (l : Pre L L') : ∀ {vs : List V} {ds : List D}, Rps w K G L vs ds → Rps w K G' L' vs ds
  | _, _, .nil => .nil
  | _, _, .cons h r => .cons (Rp.mono e l h) (Rps.mono e l r)
end
theorem Rps.length : ∀ {vs : List V} {ds : List D}, Rps w K G L vs ds → vs.length = ds.length
  | _, _, .nil => rfl
  | _, _, .cons _ r => by rw [List.length_cons, List.length_cons, Rps.length r]
theorem Rps.at : ∀ {vs : List V} {ds : List D} {i : Nat} {d : D}, Rps w K G L vs ds → ds[i]? = some d → ∃ v, vs[i]? = some v ∧ Rp w K G L v d
  | _, _, _, _, .nil, e => by simp at e
  | _, _, 0, _, .cons h _, e => by simp at e; subst e; exact ⟨_, rfl, h⟩
  | _, _, i + 1, _, .cons _ r, e => by
    obtain ⟨v, a, b⟩ := Rps.at (i := i) r (by simpa using e)
    exact ⟨v, by simpa using a, b⟩
theorem Rps.atV : ∀ {vs : List V} {ds : List D} {i : Nat} {v : V}, Rps w K G L vs ds → vs[i]? = some v → ∃ d, ds[i]? = some d ∧ Rp w K G L v d
  | _, _, _, _, .nil, e => by simp at e
  | _, _, 0, _, .cons h _, e => by simp at e; subst e; exact ⟨_, rfl, h⟩
  | _, _, i + 1, _, .cons _ r, e => by
    obtain ⟨v, a, b⟩ := Rps.atV (i := i) r (by simpa using e)
    exact ⟨v, by simpa using a, b⟩
theorem Rps.append : ∀ {vs us : List V} {ds es : List D}, Rps w K G L vs ds → Rps w K G L us es → Rps w K G L (vs ++ us) (ds ++ es)
  | _, _, _, _, .nil, s => s
  | _, _, _, _, .cons h r, s => .cons h (Rps.append r s)
theorem Rps.take : ∀ {vs : List V} {ds : List D} (n : Nat), Rps w K G L vs ds → Rps w K G L (vs.take n) (ds.take n)
  | _, _, 0, _ => .nil
  | _, _, _ + 1, .nil => .nil
  | _, _, n + 1, .cons h r => .cons h (Rps.take n r)
theorem Rps.drop : ∀ {vs : List V} {ds : List D} (n : Nat), Rps w K G L vs ds → Rps w K G L (vs.drop n) (ds.drop n)
  | _, _, 0, r => r
  | _, _, _ + 1, .nil => .nil
  | _, _, n + 1, .cons _ r => Rps.drop n r
theorem Rps.set {v : V} {d : D} (h : Rp w K G L v d) : ∀ {vs : List V} {ds : List D} (i : Nat), Rps w K G L vs ds → Rps w K G L (vs.set i v) (ds.set i d)
  | _, _, _, .nil => .nil
  | _, _, 0, .cons _ r => .cons h r
  | _, _, i + 1, .cons q r => .cons q (Rps.set h i r)
theorem Rps.reverse : ∀ {vs : List V} {ds : List D}, Rps w K G L vs ds → Rps w K G L vs.reverse ds.reverse
  | _, _, .nil => .nil
  | _, _, .cons h r => by
    rw [List.reverse_cons, List.reverse_cons]
    exact Rps.append (Rps.reverse r) (.cons h .nil)
end

/-! ### cells, slots, states -/
/-- a cell's content at a -/
def MoAt (w : World) (K : PySem.W.Frag) (G : Hp) (L : List Addr) (H : Hp) (a : Addr) : MO → Prop
  | .lst xs => ∃ vs, H a = some (.lst vs) ∧ Rps w K G L vs xs
  | .dic ks xs => ∃ kvs, H a = some (.dK kvs) ∧ ks = kvs.map (fun p => keyD p.1) ∧ Rps w K G L (kvs.map (·.2)) xs
  | .dead => False
section
variable {w : World} {K : PySem.W.Frag} {G G' H H' : Hp} {L L' : List Addr} {a : Addr} {m : MO}
theorem MoAt.mono (h : MoAt w K G L H a m) (e : Ex G G') (l : Pre L L') (k : ∀ o, H a = some o → H' a = some o) : MoAt w K G' L' H' a m := by
  cases m with
  | lst xs => obtain ⟨vs, h, r⟩ := h; exact ⟨vs, k _ h, r.mono e l⟩
  | dic ks xs => obtain ⟨kvs, h, z, r⟩ := h; exact ⟨kvs, k _ h, z, r.mono e l⟩
  | dead => exact h
theorem MoAt.there (h : MoAt w K G L H a m) : ∃ o, H a = some o := by
  cases m with
  | lst xs => obtain ⟨vs, h, r⟩ := h; exact ⟨_, h⟩
  | dic ks xs => obtain ⟨kvs, h, _⟩ := h; exact ⟨_, h⟩
  | dead => exact h.elim
end
/-- the slot i alone holds the list or dict at a -/
def OwnA (σ : St) (sl : List Sl) (i : Nat) (a : Addr) : Prop := (∃ m, sl[i]? = some (.own m)) ∧ σ[i]? = some (some (.ref a))
/-- what is fixed through a body: what must stay as it is; the cells and the frozen part at its entry -/
structure Fx where
  FR : Hp
  Le : List Addr
  Ge : Hp
/-- what a suite knows: what stays in the heap; the handled error's place, its class, its fields -/
structure Bk where
  fr : Hp
  ex : Option (Addr × Nat × List V)
structure Rel (w : World) (K : PySem.W.Frag) (B : Bk) (φ : Fx) (L : List Addr) (G : Hp) (s : DS) (σ : St) (H : Hp) : Prop where
  le : Pre φ.Le L
  ge : Ex φ.Ge G
  sub : Ex G H
  len : s.sl.length = σ.length
  val : ∀ (i : Nat) (d : D), s.sl[i]? = some (.val d) → ∃ v, σ[i]? = some (some v) ∧ Rp w K G L v d
  own : ∀ (i : Nat) (m : MO), s.sl[i]? = some (.own m) → ∃ a, σ[i]? = some (some (.ref a)) ∧ G a = none ∧ a ∉ L ∧ MoAt w K G L H a m
  inj : ∀ (i j : Nat) (a : Addr), OwnA σ s.sl i a → OwnA σ s.sl j a → i = j
  stl : L.length = s.st.length
  sto : ∀ (n : Nat) (m : MO) (a : Addr), s.st[n]? = some m → L[n]? = some a → G a = none ∧ MoAt w K G L H a m
  nod : L.Nodup
  frm : ∀ (a : Addr) (o : HO), φ.FR a = some o → H a = some o ∧ G a = none ∧ a ∉ L ∧ ∀ i, ¬ OwnA σ s.sl i a
  fr0 : ∀ (a : Addr) (o : HO), B.fr a = some o → φ.FR a = some o
  exc : ∀ (i : Nat) (c : Nat) (as : List D), s.sl[i]? = some (.exc c as) → ∃ a vs, B.ex = some (a, c, vs) ∧ σ[i]? = some (some (.ref a)) ∧ Rps w K G L vs as
section
variable {w : World} {K : PySem.W.Frag} {B : Bk} {φ : Fx} {L : List Addr} {G H : Hp} {s : DS} {σ : St} {p : Addr} {o : HO}
theorem Rel.inL (R : Rel w K B φ L G s σ H) {a : Addr} (h : a ∈ L) : ∃ o, H a = some o := by
  obtain ⟨n, hn, e⟩ := List.getElem_of_mem h
  have hs : n < s.st.length := by rw [← R.stl]; exact hn
  exact (R.sto n _ a (List.getElem?_eq_getElem hs) (by rw [List.getElem?_eq_getElem hn, e])).2.there
theorem Rel.inO (R : Rel w K B φ L G s σ H) {i : Nat} {a : Addr} (h : OwnA σ s.sl i a) : G a = none ∧ a ∉ L ∧ ∃ o, H a = some o := by
  obtain ⟨⟨m, h1⟩, h2⟩ := h
  obtain ⟨b, e1, e2, e3, e4⟩ := R.own i m h1
  rw [h2] at e1
  have e : a = b := by simpa using e1
  subst e
  exact ⟨e2, e3, e4.there⟩
/-- a new object that the data does not know (yet) -/
theorem Rel.alloc (R : Rel w K B φ L G s σ H) (hp : H p = none) : Rel w K B φ L G s σ (upd H p o) :=
  have x : Ex H (upd H p o) := Ex.new hp
  { R with
    sub := R.sub.trans x
    own := fun i m e => by
      obtain ⟨a, e1, e2, e3, e4⟩ := R.own i m e
      exact ⟨a, e1, e2, e3, e4.mono (Ex.refl _) (List.prefix_refl _) fun _ q => x _ _ q⟩
    sto := fun n m a e1 e2 => ⟨(R.sto n m a e1 e2).1, (R.sto n m a e1 e2).2.mono (Ex.refl _) (List.prefix_refl _) fun _ q => x _ _ q⟩
    frm := fun a o e => ⟨x _ _ (R.frm a o e).1, (R.frm a o e).2⟩ }
/-- an object that nobody alone holds is frozen -/
theorem Rel.freeze (R : Rel w K B φ L G s σ H) (hp : H p = some o) (hg : G p = none) (hL : p ∉ L) (hO : ∀ i, ¬ OwnA σ s.sl i p) (hF : φ.FR p = none) : Rel w K B φ L (upd G p o) s σ H :=
  have x : Ex G (upd G p o) := Ex.new hg
  { R with
    ge := R.ge.trans x
    sub := fun a u e => by
      by_cases h : a = p
      · subst h; rw [upd_same] at e; cases e; exact hp
      · rw [upd_ne h] at e; exact R.sub a u e
    val := fun i d e => by
      obtain ⟨v, a, b⟩ := R.val i d e
      exact ⟨v, a, b.mono x (List.prefix_refl _)⟩
    own := fun i m e => by
      obtain ⟨a, e1, e2, e3, e4⟩ := R.own i m e
      have ne : a ≠ p := fun z => hO i ⟨⟨m, e⟩, by rw [← z]; exact e1⟩
      exact ⟨a, e1, by rw [upd_ne ne]; exact e2, e3, e4.mono x (List.prefix_refl _) fun _ q => q⟩
    sto := fun n m a e1 e2 => by
      have ne : a ≠ p := fun z => hL (by rw [← z]; exact List.mem_of_getElem? e2)
      exact ⟨by rw [upd_ne ne]; exact (R.sto n m a e1 e2).1, (R.sto n m a e1 e2).2.mono x (List.prefix_refl _) fun _ q => q⟩
    frm := fun a u e => by
      have ne : a ≠ p := fun z => by rw [z, hF] at e; cases e
      exact ⟨(R.frm a u e).1, by rw [upd_ne ne]; exact (R.frm a u e).2.1, (R.frm a u e).2.2⟩
    exc := fun i c as h => by
      obtain ⟨a, vs, h1, h2, h3⟩ := R.exc i c as h
      exact ⟨a, vs, h1, h2, h3.mono x (List.prefix_refl _)⟩ }
theorem Rel.fresh (R : Rel w K B φ L G s σ H) (hp : H p = none) : G p = none ∧ p ∉ L ∧ (∀ i, ¬ OwnA σ s.sl i p) ∧ φ.FR p = none := by
  refine ⟨R.sub.none hp, fun h => ?_, fun i h => ?_, ?_⟩
  · obtain ⟨o, e⟩ := R.inL h; rw [hp] at e; cases e
  · obtain ⟨_, _, o, e⟩ := R.inO h; rw [hp] at e; cases e
  · cases q : φ.FR p with
    | none => rfl
    | some u => have := (R.frm p u q).1; rw [hp] at this; cases this
/-- a new object, frozen at once -/
theorem Rel.laid (R : Rel w K B φ L G s σ H) (hp : H p = none) : Rel w K B φ L (upd G p o) s σ (upd H p o) := by
  obtain ⟨h1, h2, h3, h4⟩ := R.fresh hp
  exact (R.alloc hp).freeze upd_same h1 h2 h3 h4
theorem own_set {sl : List Sl} {σ : St} {i j : Nat} {a : Addr} {d : D} {v : V} (h : OwnA (σ.set i (some v)) (sl.set i (.val d)) j a) : OwnA σ sl j a ∧ j ≠ i := by
  obtain ⟨⟨m, h1⟩, h2⟩ := h
  by_cases e : i = j
  · subst e
    rw [List.getElem?_set_self'] at h1
    cases q : sl[i]? with
    | none => rw [q] at h1; simp at h1
    | some z => rw [q] at h1; simp at h1
  · rw [List.getElem?_set_ne e] at h1 h2
    exact ⟨⟨⟨m, h1⟩, h2⟩, Ne.symm e⟩
/-- a slot is stored -/
theorem Rel.put (R : Rel w K B φ L G s σ H) {i : Nat} {v : V} {d : D} (h : Rp w K G L v d) : Rel w K B φ L G { s with sl := s.sl.set i (.val d) } (σ.set i (some v)) H :=
  { R with
    len := by simpa using R.len
    val := fun j e hj => by
      by_cases q : i = j
      · subst q
        rw [List.getElem?_set_self'] at hj
        cases z : s.sl[i]? with
        | none => rw [z] at hj; simp at hj
        | some y =>
          rw [z] at hj
          have e1 : d = e := by simpa using hj
          subst e1
          have lt : i < σ.length := by rw [← R.len]; exact (List.getElem?_eq_some_iff.mp z).1
          exact ⟨v, List.getElem?_set_self lt, h⟩
      · rw [List.getElem?_set_ne q] at hj ⊢
        exact R.val j e hj
    own := fun j m hj => by
      by_cases q : i = j
      · subst q
        rw [List.getElem?_set_self'] at hj
        cases z : s.sl[i]? with
        | none => rw [z] at hj; simp at hj
        | some y => rw [z] at hj; simp at hj
      · rw [List.getElem?_set_ne q] at hj ⊢
        exact R.own j m hj
    inj := fun a b c h1 h2 => R.inj a b c (own_set h1).1 (own_set h2).1
    frm := fun a o e => ⟨(R.frm a o e).1, (R.frm a o e).2.1, (R.frm a o e).2.2.1, fun j h => (R.frm a o e).2.2.2 j (own_set h).1⟩
    exc := fun j c as hj => by
      by_cases q : i = j
      · subst q
        rw [List.getElem?_set_self'] at hj
        cases z : s.sl[i]? with
        | none => rw [z] at hj; simp at hj
        | some y => rw [z] at hj; simp at hj
      · rw [List.getElem?_set_ne q] at hj ⊢
        exact R.exc j c as hj }
/-- what a slot held alone is given away -/
theorem Rel.gone (R : Rel w K B φ L G s σ H) {i : Nat} {m : MO} (hi : s.sl[i]? = some (.own m)) {x : Sl} (hx : ∀ m, x ≠ .own m) (hx2 : ∀ c as, x ≠ .exc c as) (hv : ∀ d, x = .val d → ∃ v, σ[i]? = some (some v) ∧ Rp w K G L v d) :
    Rel w K B φ L G { s with sl := s.sl.set i x } σ H :=
  have lt : i < s.sl.length := (List.getElem?_eq_some_iff.mp hi).1
  have own' : ∀ j a, OwnA σ (s.sl.set i x) j a → OwnA σ s.sl j a ∧ i ≠ j := fun j a ⟨⟨m, h1⟩, h2⟩ => by
    by_cases q : i = j
    · subst q
      rw [List.getElem?_set_self lt] at h1
      exact (hx m (by simpa using h1)).elim
    · rw [List.getElem?_set_ne q] at h1
      exact ⟨⟨⟨m, h1⟩, h2⟩, q⟩
  { R with
    len := by simpa using R.len
    val := fun j e hj => by
      by_cases q : i = j
      · subst q
        rw [List.getElem?_set_self lt] at hj
        exact hv e (by simpa using hj)
      · rw [List.getElem?_set_ne q] at hj
        exact R.val j e hj
    own := fun j m hj => by
      by_cases q : i = j
      · subst q
        rw [List.getElem?_set_self lt] at hj
        exact (hx m (by simpa using hj)).elim
      · rw [List.getElem?_set_ne q] at hj
        exact R.own j m hj
    inj := fun a b c h1 h2 => R.inj a b c (own' _ _ h1).1 (own' _ _ h2).1
    frm := fun a o e => ⟨(R.frm a o e).1, (R.frm a o e).2.1, (R.frm a o e).2.2.1, fun j h => (R.frm a o e).2.2.2 j (own' _ _ h).1⟩
    exc := fun j c as hj => by
      by_cases q : i = j
      · subst q
        rw [List.getElem?_set_self lt] at hj
        exact (hx2 c as (by simpa using hj)).elim
      · rw [List.getElem?_set_ne q] at hj
        exact R.exc j c as hj }
end
end DL
end

section
set_option Elab.async false
set_option linter.all false
set_option autoImplicit false
set_option maxRecDepth 100000
/-! Dl2: what an expression's meaning promises; operators, comparisons, subscripts. -/
namespace DL
open PySem L2

theorem PE.imp {X : Cx} {e : Expr} {t u : TE} (h : PE X e t) (k : ∀ σ H Q, u σ H Q → t σ H Q) : PE X e u := ⟨fun pins s σ H Q I q => h.run pins s σ H Q I (k σ H Q q)⟩
theorem PT.imp {X : Cx} {e : Expr} {t u : TT} (h : PT X e t) (k : ∀ σ H Q, u σ H Q → t σ H Q) : PT X e u := ⟨fun pins s σ H Q I q => h.run pins s σ H Q I (k σ H Q q)⟩
theorem PW.imp {X : Cx} {e : Expr} {t u : TT} (h : PW X e t) (k : ∀ σ H Q, u σ H Q → t σ H Q) : PW X e u := ⟨fun wh pins s σ H Q I q => h.run wh pins s σ H Q I (k σ H Q q)⟩
theorem PA.imp {X : Cx} {es : List Expr} {t u : TA} (h : PA X es t) (k : ∀ σ H Q, u σ H Q → t σ H Q) : PA X es u := ⟨fun pos pins s σ H Q I q => h.run pos pins s σ H Q I (k σ H Q q)⟩
theorem PS.imp {X : Cx} {st : Stmt} {t u : TS} (h : PS X st t) (k : ∀ D σ H, u D σ H → t D σ H) : PS X st u := ⟨fun pins s σ H D I q => h.run pins s σ H D I (k D σ H q)⟩
theorem PSs.imp {X : Cx} {st : List Stmt} {t u : TS} (h : PSs X st t) (k : ∀ D σ H, u D σ H → t D σ H) : PSs X st u := ⟨fun pins s σ H D I q => h.run pins s σ H D I (k D σ H q)⟩

/-- what is fixed: the world, the written part, the program's classes of errors -/
structure Om where
  w : World
  K : PySem.W.Frag
  ad : Nat → Addr
  fl : Nat → List Str
  B : Bk

variable {Ω : Om} {W : WX} {φ : Fx} {L L' : List Addr} {G G' H H' : Hp} {s : DS} {σ : St}

/-- a raised error of the class c with the fields as -/
def XAt (Ω : Om) (G : Hp) (L : List Addr) (H : Hp) (c : Nat) (as : List D) (cls : Value) (dd : Option Addr) : Prop :=
  cls = .ref (Ω.ad c) ∧ ((as = [] ∧ dd = none) ∨ ∃ d vs, dd = some d ∧ as.length = (Ω.fl c).length ∧ H d = some (.xd ((Ω.fl c).zip vs).reverse) ∧ G d = none ∧ Rps Ω.w Ω.K G L vs as)
abbrev RelO (Ω : Om) (φ : Fx) (L : List Addr) (G : Hp) (s : DS) (σ : St) (H : Hp) : Prop := Rel Ω.w Ω.K Ω.B φ L G s σ H
/-- a meaning's outcome, from the state (L, G) on -/
def okE {α : Type} (Ω : Om) (W : WX) (φ : Fx) (σ : St) (L : List Addr) (G : Hp) (r : Res α DS) (P : α → DS → List Addr → Hp → Hp → Prop) : Prop := match r with
  | .ok d s' => ∀ L' G' H', Pre L L' → Ex G G' → RelO Ω φ L' G' s' σ H' → P d s' L' G' H'
  | .exc c as s' => ∀ L' G' H' cls dd, Pre L L' → Ex G G' → RelO Ω φ L' G' s' σ H' → XAt Ω G' L' H' c as cls dd → W cls dd σ H'
  | .stuck => False
section
variable {α β : Type} {r : Res α DS} {f : α → DS → Res β DS} {P P' : α → DS → List Addr → Hp → Hp → Prop} {Q : β → DS → List Addr → Hp → Hp → Prop}
theorem okE.mono (h : okE Ω W φ σ L G r P) (l : Pre L L') (e : Ex G G') : okE Ω W φ σ L' G' r P := by
  cases r with
  | ok d s' => exact fun L2 G2 H2 a b c => h L2 G2 H2 (l.trans a) (e.trans b) c
  | exc c as s' => exact fun L2 G2 H2 cls dd a b c x => h L2 G2 H2 cls dd (l.trans a) (e.trans b) c x
  | stuck => exact h
theorem okE.bnd (h : okE Ω W φ σ L G (r.bind f) Q) : okE Ω W φ σ L G r (fun d s' L' G' _ => okE Ω W φ σ L' G' (f d s') Q) := by
  cases r with
  | ok d s' => exact fun L2 G2 H2 a b c => okE.mono (show okE Ω W φ σ L G (f d s') Q from h) a b
  | exc c as s' => exact h
  | stuck => exact h
theorem okE.imp (h : okE Ω W φ σ L G r P) (k : ∀ d s' L' G' H', Pre L L' → Ex G G' → RelO Ω φ L' G' s' σ H' → P d s' L' G' H' → P' d s' L' G' H') : okE Ω W φ σ L G r P' := by
  cases r with
  | ok d s' => exact fun L2 G2 H2 a b c => k _ _ _ _ _ a b c (h L2 G2 H2 a b c)
  | exc c as s' => exact h
  | stuck => exact h
/-- bind, then what is done with the first outcome -/
theorem okE.go (h : okE Ω W φ σ L G (r.bind f) Q) (k : ∀ d s' L' G' H', Pre L L' → Ex G G' → RelO Ω φ L' G' s' σ H' → okE Ω W φ σ L' G' (f d s') Q → P d s' L' G' H') : okE Ω W φ σ L G r P := h.bnd.imp k
theorem okE.ok {d : α} (h : okE Ω W φ σ L G (.ok d s) P) (R : RelO Ω φ L' G' s σ H') (l : Pre L L') (e : Ex G G') : P d s L' G' H' := h L' G' H' l e R
end
/-- the value itself, or what a slot alone holds -/
def RpT (w : World) (K : PySem.W.Frag) (G : Hp) (L : List Addr) (σ : St) (v : V) (d : D) : Prop := Rp w K G L v d ∨ ∃ (i : Nat) (a : Addr), d = .own i ∧ v = .ref a ∧ σ[i]? = some (some (.ref a))
theorem RpT.mono {v : V} {d : D} (h : RpT Ω.w Ω.K G L σ v d) (e : Ex G G') (l : Pre L L') : RpT Ω.w Ω.K G' L' σ v d := h.imp (fun q => q.mono e l) fun q => q
inductive RpTs (w : World) (K : PySem.W.Frag) (G : Hp) (L : List Addr) (σ : St) : List V → List D → Prop
  | nil : RpTs w K G L σ [] []
  | cons {v : V} {vs : List V} {d : D} {ds : List D} : RpT w K G L σ v d → RpTs w K G L σ vs ds → RpTs w K G L σ (v :: vs) (d :: ds)
theorem RpTs.mono (e : Ex G G') (l : Pre L L') : ∀ {vs : List V} {ds : List D}, RpTs Ω.w Ω.K G L σ vs ds → RpTs Ω.w Ω.K G' L' σ vs ds
  | _, _, .nil => .nil
  | _, _, .cons h r => .cons (h.mono e l) (RpTs.mono e l r)

def tE (Ω : Om) (W : WX) (r : DS → Res D DS) : TE := fun σ H Q => ∃ φ L G s, RelO Ω φ L G s σ H ∧ okE Ω W φ σ L G (r s) fun d _ L' G' H' => ∀ v, RpT Ω.w Ω.K G' L' σ v d → Q v H'
def tT (Ω : Om) (W : WX) (r : DS → Res Bool DS) : TT := fun σ H Q => ∃ φ L G s, RelO Ω φ L G s σ H ∧ okE Ω W φ σ L G (r s) fun d _ _ _ H' => Q d H'
/-- arguments of a built-in, of a def -/
def tB (Ω : Om) (W : WX) (r : DS → Res (List D) DS) : TA := fun σ H Q => ∃ φ L G s, RelO Ω φ L G s σ H ∧ okE Ω W φ σ L G (r s) fun ds _ L' G' H' => ∀ vs, RpTs Ω.w Ω.K G' L' σ vs ds → Q vs H'
def tA (Ω : Om) (W : WX) (r : DS → Res (List D) DS) : TA := fun σ H Q => ∃ φ L G s, RelO Ω φ L G s σ H ∧ okE Ω W φ σ L G (r s) fun ds _ L' G' H' => ∀ vs, Rps Ω.w Ω.K G' L' vs ds → Q vs H'

/-- a value as an operation sees it: what stands in its cell now -/
inductive RpH (w : World) (K : PySem.W.Frag) (G : Hp) (L : List Addr) (H : Hp) : V → D → Prop
  | non : RpH w K G L H .non .non
  | bl (b : Bool) : RpH w K G L H (.bl b) (.bl b)
  | int (i : Int) : RpH w K G L H (.int i) (.int i)
  | str (x : Str) : RpH w K G L H (.str x) (.str x.cps.toList)
  | tup {a : Addr} {xs : List V} {ds : List D} : SqT K G a xs → Rps w K G L xs ds → RpH w K G L H (.ref a) (.tup ds)
  | lst {a : Addr} {xs : List V} {ds : List D} : SqL K H a xs → Rps w K G L xs ds → RpH w K G L H (.ref a) (.lst ds)
  | dic {a : Addr} {kvs : List (Key × V)} {ds : List D} : H a = some (.dK kvs) → Rps w K G L (kvs.map (·.2)) ds → RpH w K G L H (.ref a) (.dic (kvs.map fun p => keyD p.1) ds)
/-- not seen through -/
def Blank : D → Prop
  | .obj _ => True
  | .own _ => True
  | _ => False
theorem deref_of {v : V} {d : D} (h : RpT Ω.w Ω.K G L σ v d) (R : RelO Ω φ L G s σ H) : RpH Ω.w Ω.K G L H v (deref s d) ∨ Blank (deref s d) := by
  rcases h with h | ⟨i, a, rfl, rfl, hs⟩
  · cases h with
    | non => exact .inl .non
    | bl b => exact .inl (.bl b)
    | int i => exact .inl (.int i)
    | str x => exact .inl (.str x)
    | tup h r => exact .inl (.tup h r)
    | lst h r => exact .inl (.lst (R.sub.sl h) r)
    | dic h r => exact .inl (.dic (R.sub _ _ h) r)
    | @obj n a h =>
      have lt : n < s.st.length := by rw [← R.stl]; exact (List.getElem?_eq_some_iff.mp h).1
      simp only [deref, List.getElem?_eq_getElem lt]
      have q := (R.sto n _ a (List.getElem?_eq_getElem lt) h).2
      generalize s.st[n] = m at q
      cases m with
      | lst xs => obtain ⟨vs, e, r⟩ := q; exact .inl (.lst (SqL.of e) r)
      | dic ks xs => obtain ⟨kvs, e, rfl, r⟩ := q; exact .inl (.dic e r)
      | dead => exact q.elim
  · cases e : s.sl[i]? with
    | none => simp only [deref, e]; exact .inr trivial
    | some x =>
      cases x with
      | none => simp only [deref, e]; exact .inr trivial
      | val d => simp only [deref, e]; exact .inr trivial
      | exc _ _ => simp only [deref, e]; exact .inr trivial
      | own m =>
        simp only [deref, e]
        obtain ⟨b, e1, e2, e3, q⟩ := R.own i m e
        rw [hs] at e1
        have eb : a = b := by simpa using e1
        subst eb
        cases m with
        | lst xs => obtain ⟨vs, e, r⟩ := q; exact .inl (.lst (SqL.of e) r)
        | dic ks xs => obtain ⟨kvs, e5, rfl, r⟩ := q; exact .inl (.dic e5 r)
        | dead => exact q.elim

/-! ### results -/
theorem big_ok {n : Nat} (h : n ≤ big) : n ≤ sizeLine := Nat.le_trans h (by decide)
/-- the outcome of an operation that makes nothing -/
def Val1 (Ω : Om) (v : V) (d : D) : Prop := ∀ G L, Rp Ω.w Ω.K G L v d

/-- a reading by values: what is asked of d, e (as they stand) gives z -/
def rD (Ω : Om) (W : WX) (g : D → D → Option D) : R2 := fun x y H Q => ∃ φ L G s σ d e, RelO Ω φ L G s σ H ∧ RpT Ω.w Ω.K G L σ x d ∧ RpT Ω.w Ω.K G L σ y e ∧
  okE Ω W φ σ L G (.lift (g (deref s d) (deref s e)) s) fun z _ L' G' H' => ∀ v, RpT Ω.w Ω.K G' L' σ v z → Q v H'
theorem tOp_of {ra rb : DS → Res D DS} {g : D → D → Option D} {Q : VK}
    (h : tE Ω W (fun s => (ra s).bind fun x s => (rb s).bind fun y s => .lift (g (deref s x) (deref s y)) s) σ H Q) : tOp (rD Ω W g) (tE Ω W ra) (tE Ω W rb) σ H Q := by
  obtain ⟨φ, L, G, s, R, h⟩ := h
  refine ⟨φ, L, G, s, R, h.go fun d s1 L1 G1 H1 l1 e1 R1 h1 v hv => ⟨φ, L1, G1, s1, R1, h1.go fun e s2 L2 G2 H2 l2 e2 R2 h2 u hu => ?_⟩⟩
  exact ⟨φ, L2, G2, s2, σ, d, e, R2, hv.mono e2 l2, hu, h2⟩

section
variable {X : Cx} {f : Value → Value → Sem Value} {g : D → D → Option D}
/-- what is shown of an operation: by the values as they stand -/
theorem opD (k : ∀ (pins : List (Addr × Obj)) (sh : Shared) (σ : St) (G : Hp) (L : List Addr) (H : Hp) (x y : V) (d e z : D) (v u : Value) (Q : VK), Inv X pins σ H sh → RelV x v → RelV y u → Ex G H →
      RpH Ω.w Ω.K G L H x d → RpH Ω.w Ω.K G L H y e → g d e = some z →
      ((∀ t, Rp Ω.w Ω.K G L t z → Q t H) ∧ (∀ p o t, H p = none → Rp Ω.w Ω.K (upd G p o) L t z → Q t (upd H p o))) → wpAny (model X.prog X.w) X.A (f v u) (EP X pins σ Q) X.xe sh)
    (hb : ∀ d e, (Blank d ∨ Blank e) → g d e = none) : OpR X f (rD Ω W g) := by
  intro pins sh σ0 H x y v u Q I rx ry h
  obtain ⟨φ, L, G, s, σ, d, e, R, hd, he, h⟩ := h
  cases hg : g (deref s d) (deref s e) with
  | none => rw [hg] at h; exact h.elim
  | some z =>
    rw [hg] at h
    have hd' := deref_of hd R
    have he' := deref_of he R
    have nb : ¬ (Blank (deref s d) ∨ Blank (deref s e)) := fun q => by rw [hb _ _ q] at hg; cases hg
    have hx := hd'.resolve_right fun q => nb (.inl q)
    have hy := he'.resolve_right fun q => nb (.inr q)
    refine k pins sh σ0 G L H x y _ _ z v u Q I rx ry R.sub hx hy hg ⟨fun t ht => h L G H (List.prefix_refl _) (Ex.refl _) R t (.inl ht), fun p o t hp ht => ?_⟩
    exact h L _ _ (List.prefix_refl _) (Ex.new (R.sub.none hp)) (R.laid hp) t (.inl ht)
end
end DL
end

section
set_option Elab.async false
set_option linter.all false
set_option autoImplicit false
set_option maxRecDepth 100000
/-! Dl3: operators, comparisons, by values. -/
namespace DL
open PySem L2
variable {Ω : Om} {W : WX} {φ : Fx} {L L' : List Addr} {G G' H H' : Hp} {s : DS} {σ : St}

/-! ### data as the library's data -/
mutual
def toPy : D → PyData
  | .non => .none
  | .bl b => .bool b
  | .int i => .int i
  | .str x => .str ⟨x.toArray⟩
  | .tup xs => .tuple (toPys xs)
  | .lst xs => .list (toPys xs)
  | _ => .none
def toPys : List D → List PyData
  | [] => []
  | x :: xs => toPy x :: toPys xs
end
mutual
theorem toPy_lay : ∀ d : D, plainD d = true → (toPy d).canLay0 = true
  | .non, _ | .bl _, _ | .int _, _ => by simp [toPy, PyData.canLay0]
  | .str x, h => by
    have h' : x.all (fun c => decide (c < 1114112)) = true := by simpa [plainD] using h
    simpa [toPy, PyData.canLay0, PyData.strOk, List.all_eq_true] using h'
  | .tup xs, h => by
    have := toPys_lay xs (by simpa [plainD] using h)
    simpa [toPy, PyData.canLay0] using this
  | .lst xs, h => by
    have := toPys_lay xs (by simpa [plainD] using h)
    simpa [toPy, PyData.canLay0] using this
  | .dic _ _, h | .obj _, h | .own _, h => by simp [plainD] at h
theorem toPys_lay : ∀ ds : List D, plainDs ds = true → PyData.canLayAll0 (toPys ds) = true
  | [], _ => by simp [toPys, PyData.canLayAll0]
  | d :: ds, h => by
    have h' : plainD d = true ∧ plainDs ds = true := by simpa [plainDs] using h
    simp [toPys, PyData.canLayAll0, toPy_lay d h'.1, toPys_lay ds h'.2]
end
mutual
theorem toPy_dep : ∀ d : D, (toPy d).depth = depD d
  | .non | .bl _ | .int _ | .str _ => by simp [toPy, PyData.depth, depD]
  | .tup xs | .lst xs => by simp [toPy, PyData.depth, depD, toPys_dep xs]; try omega
  | .dic _ _ | .obj _ | .own _ => by simp [toPy, PyData.depth, depD]
theorem toPys_dep : ∀ ds : List D, PyData.depthAll (toPys ds) = depDs ds
  | [] => by simp [toPys, PyData.depthAll, depDs]
  | d :: ds => by simp [toPys, PyData.depthAll, depDs, toPy_dep d, toPys_dep ds]
end
theorem toPy_shaped {d : D} (h : okD d = true) : SeqAt.shaped (toPy d) = true := by
  have h' : plainD d = true ∧ depD d ≤ 60 := by simpa [okD] using h
  simp [SeqAt.shaped, toPy_lay d h'.1, toPy_dep]
  omega
theorem str_beq (x y : List Nat) : ((⟨x.toArray⟩ : Str) == ⟨y.toArray⟩) = (x == y) := by
  rw [Bool.eq_iff_iff]
  simp
mutual
theorem eqv_toPy : ∀ d e : D, plainD d = true → plainD e = true → PyData.eqv (toPy d) (toPy e) = eqD d e
  | .non, e, _, he | .bl _, e, _, he | .int _, e, _, he | .str _, e, _, he => by
    cases e <;> simp_all [toPy, PyData.eqv, eqD, plainD, str_beq]
  | .tup xs, .tup ys, hd, he => by simp [toPy, PyData.eqv, eqD, eqvs_toPy xs ys (by simpa [plainD] using hd) (by simpa [plainD] using he)]
  | .lst xs, .lst ys, hd, he => by simp [toPy, PyData.eqv, eqD, eqvs_toPy xs ys (by simpa [plainD] using hd) (by simpa [plainD] using he)]
  | .tup _, .non, _, _ | .tup _, .bl _, _, _ | .tup _, .int _, _, _ | .tup _, .str _, _, _ | .tup _, .lst _, _, _ => by simp [toPy, PyData.eqv, eqD]
  | .lst _, .non, _, _ | .lst _, .bl _, _, _ | .lst _, .int _, _, _ | .lst _, .str _, _, _ | .lst _, .tup _, _, _ => by simp [toPy, PyData.eqv, eqD]
  | .tup _, .dic _ _, _, h | .tup _, .obj _, _, h | .tup _, .own _, _, h | .lst _, .dic _ _, _, h | .lst _, .obj _, _, h | .lst _, .own _, _, h => by simp [plainD] at h
  | .dic _ _, _, h, _ | .obj _, _, h, _ | .own _, _, h, _ => by simp [plainD] at h
theorem eqvs_toPy : ∀ ds es : List D, plainDs ds = true → plainDs es = true → PyData.eqvAll (toPys ds) (toPys es) = eqDs ds es
  | [], [], _, _ => by simp [toPys, PyData.eqvAll, eqDs]
  | [], _ :: _, _, _ => by simp [toPys, PyData.eqvAll, eqDs]
  | _ :: _, [], _, _ => by simp [toPys, PyData.eqvAll, eqDs]
  | d :: ds, e :: es, hd, he => by
    have h1 : plainD d = true ∧ plainDs ds = true := by simpa [plainDs] using hd
    have h2 : plainD e = true ∧ plainDs es = true := by simpa [plainDs] using he
    simp [toPys, PyData.eqvAll, eqDs, eqv_toPy d e h1.1 h2.1, eqvs_toPy ds es h1.2 h2.2]
end
theorem str_mk (x : Str) : (⟨x.cps.toList.toArray⟩ : Str) = x := by cases x; simp
mutual
theorem Rp.dp (e : Ex G H) : ∀ {v : V} {d : D}, Rp Ω.w Ω.K G L v d → plainD d = true → Dp Ω.K H v (toPy d)
  | _, _, .non, _ => .non
  | _, _, .bl b, _ => .bl b
  | _, _, .int i, _ => .int i
  | _, _, .str x, _ => by
    have h := Dp.str (K := Ω.K) (H := H) x
    simp only [toPy, str_mk]
    exact h
  | _, _, .tup h r, p => .tup (e.st h) (Rps.dp e r (by simpa [plainD] using p))
  | _, _, .lst h r, p => .lst (e.sl h) (Rps.dp e r (by simpa [plainD] using p))
  | _, _, .obj h, p => by simp [plainD] at p
  | _, _, .dic h r, p => by simp [plainD] at p
theorem Rps.dp (e : Ex G H) : ∀ {vs : List V} {ds : List D}, Rps Ω.w Ω.K G L vs ds → plainDs ds = true → DpAll Ω.K H vs (toPys ds)
  | _, _, .nil, _ => .nil
  | _, _, .cons h r, p => by
    have p' := Bool.and_eq_true_iff.mp (show (_ && _) = true by simpa [plainDs] using p)
    exact .cons (Rp.dp e h p'.1) (Rps.dp e r p'.2)
end
theorem RpH.dp (e : Ex G H) {v : V} {d : D} (h : RpH Ω.w Ω.K G L H v d) (p : plainD d = true) : Dp Ω.K H v (toPy d) := by
  cases h with
  | non => exact .non
  | bl b => exact .bl b
  | int i => exact .int i
  | str x =>
    have h := Dp.str (K := Ω.K) (H := H) x
    simp only [toPy, str_mk]
    exact h
  | tup h r => exact .tup (e.st h) (Rps.dp e r (by simpa [plainD] using p))
  | lst h r => exact .lst h (Rps.dp e r (by simpa [plainD] using p))
  | dic h r => simp [plainD] at p

/-! ### operators -/
def binOp : BinO → Operator
  | .add => .Add | .sub => .Sub | .mul => .Mult | .fdiv => .FloorDiv | .mod => .Mod | .pow => .Pow | .and => .BitAnd
theorem binD_blank (o : BinO) (d e : D) (h : Blank d ∨ Blank e) : binD o d e = none := by
  rcases h with h | h
  · cases d <;> first | exact h.elim | (cases o <;> cases e <;> rfl)
  · cases e <;> first | exact h.elim | (cases o <;> cases d <;> rfl)
section
variable {X : Cx}
/-- lists of any standing -/
def rCatG (K : PySem.W.Frag) : R2 := fun x y H Q => ∃ l b xs zs, x = .ref l ∧ y = .ref b ∧ SqL K H l xs ∧ SqL K H b zs ∧ xs.length + zs.length ≤ sizeLine ∧ ∀ p, H p = none → Q (.ref p) (upd H p (.lst (xs ++ zs)))
theorem op_catG : OpR X (binaryOp .Add) (rCatG X.K) := by
  intro pins s σ H x y v u Q I rx ry h
  obtain ⟨l, b, xs, zs, rfl, rfl, hH, hB, hz, q⟩ := h
  cases rx
  cases ry
  obtain ⟨its, r, ⟨⟨cls, dd, data, sl⟩, n, ho, hc, hdn, hd⟩, hl⟩ := I.list hH
  obtain ⟨its2, r2, ⟨⟨cls2, dd2, data2, sl2⟩, n2, ho2, hc2, hdn2, hd2⟩, hl2⟩ := I.list hB
  simp only at hc hd hc2 hd2
  subst hc hd hc2 hd2
  have e1 := r.length
  have e2 := r2.length
  refine concat_meets ⟨_, ho, rfl⟩ ⟨_, ho2, rfl⟩ noFill_list_add seq_list_add PySem.F.slot_list_add PySem.F.entry_list_add (PySem.F.args_list_add_2 _ _) (PyProof.Rows.list_addW l b its.toArray its2.toArray n n2 dd dd2 sl sl2 (by simp only [List.size_toArray]; omega)) ⟨ho, ho2, ?_⟩
  have ea : its.toArray ++ its2.toArray = (its ++ its2).toArray := by simp
  rw [ea]
  exact ⟨.ref _, _, I.lnew (t' := s.toks) (r.append r2) (by rw [List.length_append]; omega), rfl, q _ I.fresh⟩
theorem op_powW : OpR X (binaryOp .Pow) (rI (fun i j => 0 ≤ j ∧ j ≤ 100 ∧ i.natAbs.log2 < 1000) fun i j => .int (i ^ j.toNat)) := opI fun i j _ _ _ _ _ hc q => by
  obtain ⟨h1, h2, h3⟩ := hc
  refine PyProof.Rows.pow_int h1 ?_ q
  have hb : (Builtin.Int.intBits i : Int) ≤ 1000 := by
    unfold Builtin.Int.intBits
    split <;> omega
  have : (Builtin.Int.intBits i : Int) * j ≤ 1000 * 100 := Int.mul_le_mul hb h2 h1 (by omega)
  omega
theorem rp_new {vs : List V} {ds : List D} {p : Addr} (hp : H p = none) (e : Ex G H) (r : Rps Ω.w Ω.K G L vs ds) : Rp Ω.w Ω.K (upd G p (.lst vs)) L (.ref p) (.lst ds) :=
  .lst (SqL.of upd_same) (r.mono (Ex.new (e.none hp)) (List.prefix_refl _))
theorem rp_newT {vs : List V} {ds : List D} {p : Addr} (hp : H p = none) (e : Ex G H) (r : Rps Ω.w Ω.K G L vs ds) : Rp Ω.w Ω.K (upd G p (.tup vs)) L (.ref p) (.tup ds) :=
  .tup (SqT.of upd_same) (r.mono (Ex.new (e.none hp)) (List.prefix_refl _))
theorem rps_rep {vs : List V} {ds : List D} (r : Rps Ω.w Ω.K G L vs ds) : ∀ n, Rps Ω.w Ω.K G L (List.replicate n vs).flatten (List.replicate n ds).flatten
  | 0 => .nil
  | n + 1 => by
    rw [List.replicate_succ, List.replicate_succ, List.flatten_cons, List.flatten_cons]
    exact r.append (rps_rep r n)
theorem rp_str {s : List Nat} : Rp Ω.w Ω.K G L (.str ⟨s.toArray⟩) (.str s) := by
  have h := Rp.str (w := Ω.w) (K := Ω.K) (G := G) (L := L) ⟨s.toArray⟩
  simpa using h
theorem str_app (x y : Str) : (x ++ y).cps.toList = x.cps.toList ++ y.cps.toList := by
  cases x; cases y
  show (Array.append _ _).toList = _
  simp
theorem str_len (x : Str) : x.length = x.cps.toList.length := by cases x; simp [Str.length]
theorem op_bin (hK : Ω.K = X.K) (o : BinO) : OpR X (binaryOp (binOp o)) (rD Ω W (binD o)) := by
  refine opD (fun pins sh σ G L H x y d e z v u Q I rx ry ex hx hy hg hQ => ?_) fun d e => binD_blank o d e
  obtain ⟨q1, q2⟩ := hQ
  cases hx with
  | non => cases o <;> exact nomatch hg
  | bl b => cases o <;> exact nomatch hg
  | int i =>
    cases hy with
    | int j =>
      cases o with
      | add => cases hg; exact op_add pins sh σ H _ _ v u Q I rx ry ⟨i, j, rfl, rfl, q1 _ (.int _)⟩
      | sub => cases hg; exact op_sub pins sh σ H _ _ v u Q I rx ry ⟨i, j, rfl, rfl, q1 _ (.int _)⟩
      | mul =>
        simp only [binD] at hg
        split at hg
        · rename_i hc; cases hg; exact op_mulW pins sh σ H _ _ v u Q I rx ry ⟨i, j, rfl, rfl, hc, q1 _ (.int _)⟩
        · cases hg
      | fdiv =>
        simp only [binD] at hg
        split at hg
        · rename_i hc; cases hg; exact op_fdivW pins sh σ H _ _ v u Q I rx ry ⟨i, j, rfl, rfl, hc, q1 _ (.int _)⟩
        · cases hg
      | mod =>
        simp only [binD] at hg
        split at hg
        · rename_i hc; cases hg; exact op_mod pins sh σ H _ _ v u Q I rx ry ⟨i, j, rfl, rfl, hc, q1 _ (.int _)⟩
        · cases hg
      | pow =>
        simp only [binD] at hg
        split at hg
        · rename_i hc; cases hg; exact op_powW pins sh σ H _ _ v u Q I rx ry ⟨i, j, rfl, rfl, hc, q1 _ (.int _)⟩
        · cases hg
      | and => cases hg; exact op_and pins sh σ H _ _ v u Q I rx ry ⟨i, j, rfl, rfl, q1 _ (.int _)⟩
    | _ => cases o <;> exact nomatch hg
  | str a =>
    cases hy with
    | str b =>
      cases o with
      | add =>
        simp only [binD] at hg
        split at hg
        · rename_i hc
          cases hg
          refine op_add_str pins sh σ H _ _ v u Q I rx ry ⟨a, b, rfl, rfl, ?_, q1 _ ?_⟩
          · rw [str_len, str_len]; exact big_ok hc
          · have h := Rp.str (w := Ω.w) (K := Ω.K) (G := G) (L := L) (a ++ b)
            rw [str_app] at h
            exact h
        · cases hg
      | _ => exact nomatch hg
    | _ => cases o <;> exact nomatch hg
  | @tup a xs ds hA rA =>
    cases hy with
    | @tup b ys es hB rB =>
      cases o with
      | add =>
        simp only [binD] at hg
        split at hg
        · rename_i hc
          cases hg
          have e1 := rA.length
          have e2 := rB.length
          rw [hK] at hA hB
          refine op_catA pins sh σ H _ _ v u Q I rx ry ⟨a, b, xs, ys, rfl, rfl, ex.st hA, ex.st hB, by rw [e1, e2]; exact big_ok hc, fun z => ?_, fun z1 z2 => ?_, fun z1 z2 p hp => q2 p _ _ hp (rp_newT hp ex (rA.append rB))⟩
          · subst z
            cases rA
            rw [List.nil_append] at q1
            rw [← hK] at hB
            exact q1 _ (.tup hB rB)
          · subst z2
            cases rB
            rw [List.append_nil] at q1
            rw [← hK] at hA
            exact q1 _ (.tup hA rA)
        · cases hg
      | _ => exact nomatch hg
    | _ => cases o <;> exact nomatch hg
  | @lst a xs ds hA rA =>
    cases hy with
    | @lst b ys es hB rB =>
      cases o with
      | add =>
        simp only [binD] at hg
        split at hg
        · rename_i hc
          cases hg
          have e1 := rA.length
          have e2 := rB.length
          rw [hK] at hA hB
          exact op_catG pins sh σ H _ _ v u Q I rx ry ⟨a, b, xs, ys, rfl, rfl, hA, hB, by rw [e1, e2]; exact big_ok hc, fun p hp => q2 p _ _ hp (rp_new hp ex (rA.append rB))⟩
        · cases hg
      | _ => exact nomatch hg
    | _ => cases o <;> exact nomatch hg
  | dic h r => cases o <;> exact nomatch hg
/-! ### comparisons -/
def cmpOp : CmpO → CmpOp
  | .eq => .Eq | .ne => .NotEq | .lt => .Lt | .le => .LtE | .gt => .Gt | .ge => .GtE | .isn => .Is | .nis => .IsNot | .isin => .In | .nin => .NotIn
theorem okD_blank {d : D} (h : Blank d) : okD d = false := by
  cases d <;> first | exact h.elim | rfl
theorem blank_plain {d : D} (h : Blank d) : plainD d = false := by
  cases d <;> first | exact h.elim | rfl
abbrev cmpN (o : CmpO) (d e : D) : Option Bool := cmpD o d e
theorem cmpN_blank (o : CmpO) (d e : D) (h : Blank d ∨ Blank e) : (o = .isn ∨ o = .nis) ∨ cmpN o d e = none := by
  rcases h with h | h
  · have p := okD_blank h
    cases o with
    | isn => exact .inl (.inl rfl)
    | nis => exact .inl (.inr rfl)
    | eq => right; cases e <;> simp [cmpN, cmpD, p]
    | ne => right; cases e <;> simp [cmpN, cmpD, p]
    | isin => right; cases e <;> first | rfl | (simp [cmpN, cmpD, inD, p]; done) | (cases d <;> first | exact h.elim | rfl | (simp [cmpN, cmpD, inD, isKey]; done))
    | nin => right; cases e <;> first | rfl | (simp [cmpN, cmpD, inD, p]; done) | (cases d <;> first | exact h.elim | rfl | (simp [cmpN, cmpD, inD, isKey]; done))
    | _ => right; cases e <;> cases d <;> first | exact h.elim | rfl
  · right
    cases e with
    | obj n => cases o <;> cases d <;> simp [cmpN, cmpD, okD, plainD, inD]
    | own n => cases o <;> cases d <;> simp [cmpN, cmpD, okD, plainD, inD]
    | _ => exact h.elim
theorem okDs {xs : List D} (h : xs.all okD = true) : okD (.lst xs) = true ∨ okD (.lst xs) = false := by cases okD (.lst xs) <;> simp
theorem plainDs_of : ∀ {xs : List D}, xs.all okD = true → plainDs xs = true
  | [], _ => rfl
  | d :: xs, h => by
    have h' : okD d = true ∧ xs.all okD = true := by simpa using h
    have h1 : plainD d = true ∧ depD d ≤ 60 := by simpa [okD] using h'.1
    simp [plainDs, h1.1, plainDs_of h'.2]
theorem depDs_of : ∀ {xs : List D}, xs.all okD = true → depDs xs ≤ 60
  | [], _ => by simp [depDs]
  | d :: xs, h => by
    have h' : okD d = true ∧ xs.all okD = true := by simpa using h
    have h1 : plainD d = true ∧ depD d ≤ 60 := by simpa [okD] using h'.1
    have h2 := depDs_of h'.2
    simp only [depDs]
    omega
theorem shaped_lst {xs : List D} (h : xs.all okD = true) : SeqAt.shaped (.list (toPys xs)) = true := by
  have h1 := plainDs_of h
  have h2 := depDs_of h
  have e : PyData.list (toPys xs) = toPy (.lst xs) := by simp [toPy]
  rw [e]
  simp [SeqAt.shaped, toPy_lay (.lst xs) (by simpa [plainD] using h1), toPy_dep, depD]
  omega
theorem mem_toPys {d : D} (hd : plainD d = true) : ∀ xs : List D, plainDs xs = true → ((toPys xs).any fun z => PyData.eqv z (toPy d)) = memD d xs
  | [], _ => by simp [toPys, memD]
  | x :: xs, h => by
    have h' : plainD x = true ∧ plainDs xs = true := by simpa [plainDs] using h
    simp [toPys, memD, eqv_toPy x d h'.1 hd, mem_toPys hd xs h'.2]
end
end DL
end

section
set_option Elab.async false
set_option linter.all false
set_option autoImplicit false
set_option maxRecDepth 100000
/-! Dl3b: dicts whose keys are ints and texts. -/
namespace DL
open PySem L2
variable {Ω : Om} {G : Hp} {L : List Addr} {H : Hp}

abbrev KD (kvs : List (Key × V)) : List D := kvs.map fun p => keyD p.1
abbrev VD (kvs : List (Key × V)) : List V := kvs.map (·.2)
theorem str_inj {x y : Str} (h : x.cps.toList = y.cps.toList) : x = y := by
  cases x; cases y
  simp at h
  simp [h]
theorem keyD_eq (a b : Key) : eqD (keyD a) (keyD b) = decide (a = b) := by
  rcases a with i | x <;> rcases b with j | y
  · simp only [keyD, eqD, key_ll]
  · simp [keyD, eqD]
  · simp [keyD, eqD]
  · rw [key_rr]
    simp only [keyD, eqD]
    rw [Bool.eq_iff_iff]
    simp only [beq_iff_eq, decide_eq_true_eq]
    exact ⟨str_inj, fun h => by rw [h]⟩
theorem mem_KD (k : Key) : ∀ kvs : List (Key × V), memD (keyD k) (KD kvs) = (valV kvs k).isSome
  | [] => rfl
  | p :: kvs => by
    simp only [KD, List.map_cons, memD, keyD_eq]
    by_cases e : p.1 = k
    · rw [valV_pos e]; simp [e]
    · rw [valV_neg e]
      have := mem_KD k kvs
      simp only [KD] at this
      simp [e, this]
theorem look_KD {k : Key} {z : D} : ∀ {kvs : List (Key × V)} {ds : List D}, Rps Ω.w Ω.K G L (VD kvs) ds → lookD (keyD k) (KD kvs) ds = some z → ∃ v, valV kvs k = some v ∧ Rp Ω.w Ω.K G L v z
  | [], _, _, h => by simp [KD, lookD] at h
  | p :: kvs, [], r, h => by simp [KD, lookD] at h
  | p :: kvs, d :: ds, r, h => by
    cases r with
    | cons r0 r =>
      simp only [KD, List.map_cons, lookD, keyD_eq] at h
      by_cases e : p.1 = k
      · rw [valV_pos e]
        simp [e] at h
        subst h
        exact ⟨_, rfl, r0⟩
      · rw [valV_neg e]
        simp [e] at h
        exact look_KD r h
theorem look_none {k : Key} : ∀ {kvs : List (Key × V)} {ds : List D}, Rps Ω.w Ω.K G L (VD kvs) ds → lookD (keyD k) (KD kvs) ds = none → valV kvs k = none
  | [], _, _, h => rfl
  | p :: kvs, d :: ds, r, h => by
    cases r with
    | cons r0 r =>
      simp only [KD, List.map_cons, lookD, keyD_eq] at h
      by_cases e : p.1 = k
      · simp [e] at h
      · rw [valV_neg e]
        simp [e] at h
        exact look_none r h
theorem rep_KD {k : Key} {v : V} {z : D} (rv : Rp Ω.w Ω.K G L v z) : ∀ {kvs : List (Key × V)} {ds : List D}, Rps Ω.w Ω.K G L (VD kvs) ds → Rps Ω.w Ω.K G L (VD (kvs.map fun kv => if kv.1 = k then (kv.1, v) else kv)) (repD (keyD k) z (KD kvs) ds)
  | [], _, r => by cases r; exact .nil
  | p :: kvs, _, .cons (d := d) (ds := ds) r0 r => by
    simp only [KD, VD, List.map_cons, repD, keyD_eq]
    refine .cons ?_ (rep_KD rv r)
    by_cases e : p.1 = k
    · simp [e]; exact rv
    · simp [e]; exact r0
theorem put_KD {k : Key} {v : V} {z : D} {kvs : List (Key × V)} {ds : List D} (rv : Rp Ω.w Ω.K G L v z) (r : Rps Ω.w Ω.K G L (VD kvs) ds) :
    (putD (keyD k) z (KD kvs) ds).1 = KD (putK kvs k v) ∧ Rps Ω.w Ω.K G L (VD (putK kvs k v)) (putD (keyD k) z (KD kvs) ds).2 := by
  unfold putD putK
  rw [mem_KD, ← valV_any]
  by_cases e : (kvs.any fun kv => decide (kv.1 = k)) = true
  · rw [if_pos e, if_pos e]
    refine ⟨?_, rep_KD rv r⟩
    simp only [KD, List.map_map]
    apply List.map_congr_left
    intro p hp
    simp only [Function.comp]
    split <;> rfl
  · rw [if_neg e, if_neg e]
    refine ⟨by simp [KD], ?_⟩
    simp only [VD, List.map_append, List.map_cons, List.map_nil]
    exact r.append (.cons rv .nil)
theorem key_RpH {y : V} {e : D} (h : RpH Ω.w Ω.K G L H y e) (k : isKey e = true) : ∃ k, y = kV k ∧ e = keyD k := by
  cases h with
  | int i => exact ⟨.inl i, rfl, rfl⟩
  | str x => exact ⟨.inr x, rfl, rfl⟩
  | _ => cases k
theorem key_RpT {σ : St} {y : V} {e : D} (h : RpT Ω.w Ω.K G L σ y e) (k : isKey e = true) : ∃ k, y = kV k ∧ e = keyD k := by
  rcases h with h | ⟨i, a, rfl, _⟩
  · cases h with
    | int i => exact ⟨.inl i, rfl, rfl⟩
    | str x => exact ⟨.inr x, rfl, rfl⟩
    | _ => cases k
  · cases k
end DL
end

section
set_option Elab.async false
set_option linter.all false
set_option autoImplicit false
set_option maxRecDepth 100000
/-! Dl4: comparisons. -/
namespace DL
open PySem L2
variable {Ω : Om} {W : WX} {φ : Fx} {L L' : List Addr} {G G' H H' : Hp} {s : DS} {σ : St} {X : Cx}

theorem isE_bl {pins : List (Addr × Obj)} {sh : Shared} {Q : VK} {b c : Bool} (I : Inv X pins σ H sh) (q : ∀ t, Rp Ω.w Ω.K G L t (.bl b) → Q t H) (e : c = b) : Q (.bl c) H := by
  subst e; exact q _ (.bl _)
theorem inSeq {x y : V} {d : D} {es : List D} {tup : Bool} {pins : List (Addr × Obj)} {sh : Shared} {v u : Value} {Q : VK} {neg : Bool} (hu : X.A.units + 65 < cLine) (I : Inv X pins σ H sh) (rx : RelV x v) (ry : RelV y u)
    (hd : Dp X.K H x (toPy d)) (he : Dp X.K H y (if tup then .tuple (toPys es) else .list (toPys es))) (od : okD d = true) (oe : es.all okD = true) (q : Q (.bl (if neg then !memD d es else memD d es)) H) :
    wpAny (model X.prog X.w) X.A (compareOp (if neg then .NotIn else .In) v u) (EP X pins σ Q) X.xe sh := by
  have pd : plainD d = true := (Bool.and_eq_true_iff.mp od).1
  have pe := plainDs_of oe
  obtain ⟨as, r1⟩ := Dp.reads I _ x v hd rx
  obtain ⟨bs, r2⟩ := Dp.reads I _ y u he ry
  have em := mem_toPys pd es pe
  have room : X.A.units + 1 + min (PyData.depthAll (toPys es)) (toPy d).depth < cLine := by
    have h1 : min (PyData.depthAll (toPys es)) (toPy d).depth ≤ (toPy d).depth := Nat.min_le_right _ _
    have h2 : depD d ≤ 60 := of_decide_eq_true (Bool.and_eq_true_iff.mp od).2
    rw [toPy_dep] at h1 ⊢
    omega
  cases tup with
  | true =>
    cases neg with
    | true => exact SeqAt.notIn_tuple_reads r2 r1 (toPys_lay _ pe) (toPy_lay _ pd) room ⟨.bl _, H, I, rfl, by rw [em]; exact q⟩
    | false => exact SeqAt.in_tuple_reads r2 r1 (toPys_lay _ pe) (toPy_lay _ pd) room ⟨.bl _, H, I, rfl, by rw [em]; exact q⟩
  | false =>
    cases neg with
    | true => exact SeqAt.notIn_list_reads r2 r1 (toPys_lay _ pe) (toPy_lay _ pd) room ⟨.bl _, H, I, rfl, by rw [em]; exact q⟩
    | false => exact SeqAt.in_list_reads r2 r1 (toPys_lay _ pe) (toPy_lay _ pd) room ⟨.bl _, H, I, rfl, by rw [em]; exact q⟩

theorem op_cmpIn (hK : Ω.K = X.K) (hu : X.A.units + 65 < cLine) (neg : Bool) : OpR X (compareOp (if neg then .NotIn else .In)) (rD Ω W (fun d e => (cmpN (if neg then .nin else .isin) d e).map .bl)) := by
  refine opD (fun pins sh σ G L H x y d e z v u Q I rx ry ex hx hy hg hQ => ?_) fun d e h => by
    rcases cmpN_blank (if neg then .nin else .isin) d e h with q | q
    · cases neg <;> rcases q with q | q <;> cases q
    · rw [q]; rfl
  obtain ⟨q1, _⟩ := hQ
  have seq : ∀ (es : List D) (tup : Bool), RpH Ω.w Ω.K G L H y (if tup then .tup es else .lst es) → (if okD d && es.all okD then some (memD d es) else none).map (fun b => D.bl (if neg then !b else b)) = some z →
      wpAny (model X.prog X.w) X.A (compareOp (if neg then .NotIn else .In) v u) (EP X pins σ Q) X.xe sh := fun es tup hy hg => by
    cases hc : (okD d && es.all okD) with
    | false => rw [hc] at hg; cases hg
    | true =>
      rw [hc] at hg
      cases hg
      have hc' := Bool.and_eq_true_iff.mp hc
      have pd : plainD d = true := (Bool.and_eq_true_iff.mp hc'.1).1
      have h1 := hx.dp ex pd
      have h2 := hy.dp ex (d := if tup then .tup es else .lst es) (by cases tup <;> simpa [plainD] using plainDs_of hc'.2)
      rw [hK] at h1 h2
      refine inSeq (tup := tup) hu I rx ry h1 (by cases tup <;> simpa [toPy] using h2) hc'.1 hc'.2 (q1 _ (.bl _))
  cases hy with
  | @tup a xs es h r => exact seq es true (.tup h r) (by cases neg <;> simpa [cmpN, cmpD, inD, Function.comp_def] using hg)
  | @lst a xs es h r => exact seq es false (.lst h r) (by cases neg <;> simpa [cmpN, cmpD, inD, Function.comp_def] using hg)
  | str b =>
    cases hx with
    | str a =>
      obtain ⟨ac⟩ := a
      have hg' : ∃ c, ac.toList = [c] ∧ z = .bl (if neg then !(b.cps.toList.contains c) else b.cps.toList.contains c) := by
        cases hl : ac.toList with
        | nil => rw [hl] at hg; cases neg <;> simp [cmpN, cmpD, inD] at hg
        | cons c r =>
          cases r with
          | nil =>
            rw [hl] at hg
            refine ⟨c, rfl, ?_⟩
            cases neg <;> simp [cmpN, cmpD, inD] at hg <;> simp [hg]
          | cons c' r' => rw [hl] at hg; cases neg <;> simp [cmpN, cmpD, inD] at hg
      obtain ⟨c, hl, rfl⟩ := hg'
      have ea : ac = #[c] := by rw [← hl]
      subst ea
      have ec : ∀ k : Bool, decide (c ∈ b.cps.toList) = b.cps.toList.contains c := fun _ => by
        rw [Bool.eq_iff_iff]; simp
      cases neg with
      | true => exact op_notIn_sign pins sh σ H _ _ v u Q I rx ry ⟨c, b, rfl, rfl, by rw [ec true]; exact q1 _ (.bl _)⟩
      | false => exact op_in_sign pins sh σ H _ _ v u Q I rx ry ⟨c, b, rfl, rfl, by rw [ec true]; exact q1 _ (.bl _)⟩
    | _ => cases neg <;> simp [cmpN, cmpD, inD] at hg
  | @dic a kvs ds h r =>
    have hk : isKey d = true ∧ z = .bl (if neg then !memD d (KD kvs) else memD d (KD kvs)) := by
      cases hk : isKey d with
      | false => cases neg <;> simp [cmpN, cmpD, inD, hk] at hg
      | true => cases neg <;> simp [cmpN, cmpD, inD, hk] at hg <;> simp [KD, ← hg]
    obtain ⟨hk, rfl⟩ := hk
    obtain ⟨k, rfl, rfl⟩ := key_RpH hx hk
    rw [mem_KD] at q1
    cases (show u = Value.ref a from ry)
    cases neg with
    | true => exact d_notIn (by omega) I (DGet.k h) rx fun s3 I3 => ⟨.bl (!(valV kvs k).isSome), H, I3, rfl, q1 _ (.bl _)⟩
    | false => exact d_in (by omega) I (DGet.k h) rx fun s3 I3 => ⟨.bl (valV kvs k).isSome, H, I3, rfl, q1 _ (.bl _)⟩
  | _ => cases neg <;> cases hx <;> simp [cmpN, cmpD, inD] at hg

theorem op_cmpEq (hK : Ω.K = X.K) (hu : X.A.units + 65 < cLine) (neg : Bool) : OpR X (compareOp (if neg then .NotEq else .Eq)) (rD Ω W (fun d e => (cmpN (if neg then .ne else .eq) d e).map .bl)) := by
  refine opD (fun pins sh σ G L H x y d e z v u Q I rx ry ex hx hy hg hQ => ?_) fun d e h => by
    rcases cmpN_blank (if neg then .ne else .eq) d e h with q | q
    · cases neg <;> rcases q with q | q <;> cases q
    · rw [q]; rfl
  obtain ⟨q1, _⟩ := hQ
  have hg : (if okD d && okD e then some (if neg then !eqD d e else eqD d e) else none).map D.bl = some z := by
    cases neg <;> cases e <;> simpa [cmpN, cmpD, okD, plainD] using hg
  cases hc : (okD d && okD e) with
  | false => rw [hc] at hg; cases hg
  | true =>
    rw [hc] at hg
    cases hg
    have hc' := Bool.and_eq_true_iff.mp hc
    have pd : plainD d = true := (Bool.and_eq_true_iff.mp hc'.1).1
    have pe : plainD e = true := (Bool.and_eq_true_iff.mp hc'.2).1
    have h1 := hx.dp ex pd
    have h2 := hy.dp ex pe
    rw [hK] at h1 h2
    have ee := eqv_toPy d e pd pe
    cases neg with
    | true => exact op_neD (by omega) pins sh σ H _ _ v u Q I rx ry ⟨_, _, h1, h2, toPy_shaped hc'.1, toPy_shaped hc'.2, by rw [ee]; exact q1 _ (.bl _)⟩
    | false => exact op_eqD (by omega) pins sh σ H _ _ v u Q I rx ry ⟨_, _, h1, h2, toPy_shaped hc'.1, toPy_shaped hc'.2, by rw [ee]; exact q1 _ (.bl _)⟩

/-- the orders of ints -/
def isOrd : CmpO → Bool
  | .lt | .le | .gt | .ge => true
  | _ => false
theorem op_cmpOrd (o : CmpO) (ho : isOrd o = true) : OpR X (compareOp (cmpOp o)) (rD Ω W (fun d e => (cmpN o d e).map .bl)) := by
  refine opD (fun pins sh σ G L H x y d e z v u Q I rx ry ex hx hy hg hQ => ?_) fun d e h => by
    rcases cmpN_blank o d e h with q | q
    · rcases q with q | q <;> subst q <;> cases ho
    · rw [q]; rfl
  obtain ⟨q1, _⟩ := hQ
  cases hx with
  | int i =>
    cases hy with
    | int j =>
      cases o with
      | lt => cases hg; exact op_lt pins sh σ H _ _ v u Q I rx ry ⟨i, j, rfl, rfl, q1 _ (.bl _)⟩
      | le => cases hg; exact op_le pins sh σ H _ _ v u Q I rx ry ⟨i, j, rfl, rfl, q1 _ (.bl _)⟩
      | gt => cases hg; exact op_gt pins sh σ H _ _ v u Q I rx ry ⟨i, j, rfl, rfl, q1 _ (.bl _)⟩
      | ge => cases hg; exact op_ge pins sh σ H _ _ v u Q I rx ry ⟨i, j, rfl, rfl, q1 _ (.bl _)⟩
      | _ => cases ho
    | _ => cases o <;> first | (simp [cmpN, cmpD] at hg; done) | (simp [isOrd] at ho; done)
  | _ => cases hy <;> cases o <;> first | (simp [cmpN, cmpD] at hg; done) | (simp [isOrd] at ho; done)
end DL
end

section
set_option Elab.async false
set_option linter.all false
set_option autoImplicit false
set_option maxRecDepth 100000
/-! Dl5: rules for expressions. -/
namespace DL
open PySem L2
variable {Ω : Om} {W : WX} {φ : Fx} {L L' : List Addr} {G G' H H' : Hp} {s : DS} {σ : St} {X : Cx}
variable {a b c e : Expr} {ra rb rc : DS → Res D DS} {pos : Pos}

/-! ### names, constants -/
theorem r_var {i : Nat} {x : Str} (Φ : Ev) (hN : X.N[i]? = some x) (hv : Vis X.env.scope x) (hd : (x == ("__debug__" : Str)) = false) (hcd : (x == ("__classdict__" : Str)) = false) : PE X (.Name x pos) (tE Ω W (evE Φ (.var i))) :=
  PE.imp (pe_var (i := i) hN hv hd hcd) fun σ H Q h => by
    obtain ⟨φ, L, G, s, R, h⟩ := h
    simp only [evE] at h
    cases q : s.sl[i]? with
    | none => rw [q] at h; exact h.elim
    | some x =>
      rw [q] at h
      cases x with
      | none => exact h.elim
      | exc _ _ => exact h.elim
      | val d =>
        obtain ⟨v, e1, r⟩ := R.val i d q
        exact ⟨v, e1, okE.ok h R (List.prefix_refl _) (Ex.refl _) v (.inl r)⟩
      | own m =>
        obtain ⟨v, e1, r⟩ := R.own i m q
        exact ⟨.ref v, e1, okE.ok h R (List.prefix_refl _) (Ex.refl _) _ (.inr ⟨i, v, rfl, rfl, e1⟩)⟩
/-- a constant's value -/
theorem r_con {v : V} {d : D} (h : PE X e (tC v)) (r : ∀ G L, Rp Ω.w Ω.K G L v d) : PE X e (tE Ω W (fun s => .ok d s)) := PE.imp h fun σ H Q h => by
  obtain ⟨φ, L, G, s, R, h⟩ := h
  exact okE.ok h R (List.prefix_refl _) (Ex.refl _) v (.inl (r _ _))

/-! ### operators -/
theorem r_op {g : D → D → Option D} {op : Operator} (ho : OpR X (binaryOp op) (rD Ω W g)) (ha : PE X a (tE Ω W ra)) (hb : PE X b (tE Ω W rb)) :
    PE X (.BinOp a op b pos) (tE Ω W (fun s => (ra s).bind fun x s => (rb s).bind fun y s => .lift (g (deref s x) (deref s y)) s)) := PE.imp (pe_op ho ha hb) fun σ H Q h => tOp_of h
theorem r_cmp {g : D → D → Option D} {op : CmpOp} (ho : OpR X (compareOp op) (rD Ω W g)) (ha : PE X a (tE Ω W ra)) (hb : PE X b (tE Ω W rb)) (hm : behindInMarks op b = false) :
    PE X (.Compare a [op] [b] pos) (tE Ω W (fun s => (ra s).bind fun x s => (rb s).bind fun y s => .lift (g (deref s x) (deref s y)) s)) := PE.imp (pe_cmpR ho ha hb hm) fun σ H Q h => tOp_of h
/-- a test from the value -/
theorem tT_of {r : DS → Res D DS} {Q : Bool → Hp → Prop} (h : tT Ω W (fun s => asB (r s)) σ H Q) : tE Ω W r σ H (fun x H1 => ∃ k, x = .bl k ∧ Q k H1) := by
  obtain ⟨φ, L, G, s, R, h⟩ := h
  simp only [asB] at h
  refine ⟨φ, L, G, s, R, h.go fun d s1 L1 G1 H1 l1 e1 R1 h1 v hv => ?_⟩
  cases d with
  | bl b =>
    rcases hv with hv | ⟨i, a, z, _⟩
    · cases hv
      exact ⟨b, rfl, okE.ok h1 R1 (List.prefix_refl _) (Ex.refl _)⟩
    · cases z
  | _ => exact h1.elim
theorem r_cmpT {g : D → D → Option D} {op : CmpOp} (ho : OpR X (compareOp op) (rD Ω W g)) (ha : PE X a (tE Ω W ra)) (hb : PE X b (tE Ω W rb)) (hm : behindInMarks op b = false) :
    PT X (.Compare a [op] [b] pos) (tT Ω W (fun s => asB ((ra s).bind fun x s => (rb s).bind fun y s => .lift (g (deref s x) (deref s y)) s))) := PT.imp (pt_cmpR ho ha hb hm) fun σ H Q h =>
  tOp_of (tT_of h)
/-- is None, is not None -/
def gNon (neg : Bool) (d e : D) : Option D := (cmpD (if neg then .nis else .isn) d e).map .bl
theorem RpT.non_iff {v : V} {d : D} (h : RpT Ω.w Ω.K G L σ v d) : isNonD d = decide (v = .non) := by
  rcases h with h | ⟨i, a, rfl, rfl, _⟩
  · cases h <;> rfl
  · rfl
theorem deref_non (s : DS) (d : D) : isNonD (deref s d) = isNonD d := by
  cases d with
  | own i =>
    simp only [deref]
    cases s.sl[i]? with
    | none => rfl
    | some x => cases x with
      | own m => cases m <;> rfl
      | _ => rfl
  | obj n =>
    simp only [deref]
    cases s.st[n]? with
    | none => rfl
    | some m => cases m <;> rfl
  | _ => rfl
theorem gNon_at {neg : Bool} {s : DS} {d e z : D} (h : gNon neg (deref s d) (deref s e) = some z) : e = .non ∧ z = .bl (if neg then !isNonD d else isNonD d) := by
  have q : isNonD (deref s e) = isNonD e := deref_non s e
  have q2 := deref_non s d
  generalize deref s e = e' at h q
  generalize deref s d = d' at h q2
  cases e' with
  | non =>
    have he : e = .non := by cases e <;> first | rfl | (simp [isNonD] at q; done)
    refine ⟨he, ?_⟩
    cases neg <;> simp [gNon, cmpD] at h <;> rw [← h, ← q2] <;> rfl
  | _ => cases neg <;> cases d' <;> simp [gNon, cmpD] at h
theorem op_non (neg : Bool) : OpR X (compareOp (if neg then .IsNot else .Is)) (rD Ω W (gNon neg)) := by
  intro pins sh σ0 H x y v u Q I rx ry h
  obtain ⟨φ, L, G, s, σ, d, e, R, hd, he, h⟩ := h
  cases hg : gNon neg (deref s d) (deref s e) with
  | none => rw [hg] at h; exact h.elim
  | some z =>
    rw [hg] at h
    obtain ⟨rfl, rfl⟩ := gNon_at hg
    rw [hd.non_iff] at h
    have q := fun t ht => okE.ok (show okE Ω W φ σ L G (.ok _ s) _ from h) R (List.prefix_refl _) (Ex.refl _) t (.inl ht)
    have ey : y = .non := by
      rcases he with he | ⟨i, a, z, _⟩
      · cases he; rfl
      · cases z
    cases neg with
    | true => exact op_notN pins sh σ0 H x y v u Q I rx ry ⟨ey, q _ (.bl _)⟩
    | false => exact op_isN pins sh σ0 H x y v u Q I rx ry ⟨ey, q _ (.bl _)⟩
theorem r_neg (ha : PE X a (tE Ω W ra)) : PE X (.UnaryOp .USub a pos) (tE Ω W (fun s => (ra s).bind fun x s => match x with
    | .int i => .ok (.int (-i)) s
    | _ => .stuck)) := PE.imp (pe_un un_neg ha) fun σ H Q h => by
  obtain ⟨φ, L, G, s, R, h⟩ := h
  refine ⟨φ, L, G, s, R, h.go fun d s1 L1 G1 H1 l1 e1 R1 h1 v hv => ?_⟩
  cases d with
  | int i =>
    rcases hv with hv | ⟨i, a, z, _⟩
    · cases hv
      exact ⟨i, rfl, okE.ok h1 R1 (List.prefix_refl _) (Ex.refl _) _ (.inl (.int _))⟩
    · cases z
  | _ => exact h1.elim
/-- a < b < c -/
theorem chn_of {g g' : D → D → Option D} {Q : VK} (hg : ∀ d e z, g d e = some z → ∃ k, z = .bl k)
    (h : tE Ω W (fun s => (ra s).bind fun x s => (rb s).bind fun y s => (Res.lift (g (deref s x) (deref s y)) s).bind fun k s => match k with
      | .bl true => (rc s).bind fun z s => .lift (g' (deref s y) (deref s z)) s
      | .bl false => .ok (.bl false) s
      | _ => .stuck) σ H Q) : tChain (rD Ω W g) (rD Ω W g') (tE Ω W ra) (tE Ω W rb) (tE Ω W rc) σ H Q := by
  obtain ⟨φ, L, G, s, R, h⟩ := h
  refine ⟨φ, L, G, s, R, h.go fun d s1 L1 G1 H1 l1 e1 R1 h1 v hv => ⟨φ, L1, G1, s1, R1, h1.go fun e s2 L2 G2 H2 l2 e2 R2 h2 u hu => ?_⟩⟩
  refine ⟨φ, L2, G2, s2, σ, d, e, R2, hv.mono e2 l2, hu, h2.go fun z s3 L3 G3 H3 l3 e3 R3 h3 t ht => ?_⟩
  cases z with
  | bl k =>
    rcases ht with ht | ⟨i, a, z, _⟩
    · cases ht
      refine ⟨k, rfl, ?_⟩
      cases k with
      | true => exact ⟨φ, L3, G3, s3, R3, h3.go fun x s4 L4 G4 H4 l4 e4 R4 h4 w hw => ⟨φ, L4, G4, s4, σ, e, x, R4, (hu.mono e3 l3).mono e4 l4, hw, h4⟩⟩
      | false => exact okE.ok h3 R3 (List.prefix_refl _) (Ex.refl _) _ (.inl (.bl _))
    · cases z
  | _ => exact h3.elim

/-! ### and, or, not, if -/
theorem asB_asB {r : DS → Res D DS} (s : DS) : asB ((asB (r s)).bind fun b s => .ok (.bl b) s) = asB (r s) := by
  unfold asB
  cases r s with
  | ok d s => cases d <;> rfl
  | exc _ _ _ => rfl
  | stuck => rfl
variable {rt ru : DS → Res Bool DS} {rest : List Expr}
theorem bl_of {r : DS → Res D DS} {Q : Bool → Hp → Prop} (h : tT Ω W (fun s => asB (r s)) σ H Q) : tE Ω W r σ H (fun x H1 => ∃ c, x = .bl c ∧ Q c H1) := tT_of h
theorem r_val (h : PE X e (tE Ω W ra)) (he : ∀ whole, isTrue e X.env whole = (do let v ← whole; standAt e.pos; holding [v] (truthy v))) : PT X e (tT Ω W (fun s => asB (ra s))) := PT.imp (pt_val h he) fun σ H Q h => tT_of h
theorem and_of {Q : Bool → Hp → Prop} (h : tT Ω W (fun s => (rt s).bind fun b s => if b then ru s else .ok false s) σ H Q) : tAnd (tT Ω W rt) (tT Ω W ru) σ H Q := by
  obtain ⟨φ, L, G, s, R, h⟩ := h
  refine ⟨φ, L, G, s, R, h.go fun k s1 L1 G1 H1 l1 e1 R1 h1 => ?_⟩
  cases k with
  | true =>
    rw [if_pos rfl] at h1 ⊢
    exact ⟨φ, L1, G1, s1, R1, h1⟩
  | false => exact okE.ok h1 R1 (List.prefix_refl _) (Ex.refl _)
theorem or_of {Q : Bool → Hp → Prop} (h : tT Ω W (fun s => (rt s).bind fun b s => if b then .ok true s else ru s) σ H Q) : tOr (tT Ω W rt) (tT Ω W ru) σ H Q := by
  obtain ⟨φ, L, G, s, R, h⟩ := h
  refine ⟨φ, L, G, s, R, h.go fun k s1 L1 G1 H1 l1 e1 R1 h1 => ?_⟩
  cases k with
  | false => exact ⟨φ, L1, G1, s1, R1, h1⟩
  | true => exact okE.ok h1 R1 (List.prefix_refl _) (Ex.refl _)
theorem not_of {Q : Bool → Hp → Prop} (h : tT Ω W (fun s => (rt s).bind fun b s => .ok (!b) s) σ H Q) : tNot (tT Ω W rt) σ H Q := by
  obtain ⟨φ, L, G, s, R, h⟩ := h
  exact ⟨φ, L, G, s, R, h.go fun k s1 L1 G1 H1 l1 e1 R1 h1 => okE.ok h1 R1 (List.prefix_refl _) (Ex.refl _)⟩
theorem andV_of {Q : VK} (h : tE Ω W (fun s => (asB (ra s)).bind fun b s => if b then rb s else .ok (.bl false) s) σ H Q) : tAndV (tE Ω W ra) (tE Ω W rb) σ H Q := by
  obtain ⟨φ, L, G, s, R, h⟩ := h
  have z : tT Ω W (fun s => asB (ra s)) σ H (fun c H1 => if c = true then tE Ω W rb σ H1 Q else Q (.bl false) H1) := ⟨φ, L, G, s, R, h.go fun k s1 L1 G1 H1 l1 e1 R1 h1 => by
    cases k with
    | true => rw [if_pos rfl] at h1 ⊢; exact ⟨φ, L1, G1, s1, R1, h1⟩
    | false => exact okE.ok h1 R1 (List.prefix_refl _) (Ex.refl _) _ (.inl (.bl _))⟩
  exact tT_of z
theorem orV_of {Q : VK} (h : tE Ω W (fun s => (asB (ra s)).bind fun b s => if b then .ok (.bl true) s else rb s) σ H Q) : tOrV (tE Ω W ra) (tE Ω W rb) σ H Q := by
  obtain ⟨φ, L, G, s, R, h⟩ := h
  have z : tT Ω W (fun s => asB (ra s)) σ H (fun c H1 => if c = true then Q (.bl true) H1 else tE Ω W rb σ H1 Q) := ⟨φ, L, G, s, R, h.go fun k s1 L1 G1 H1 l1 e1 R1 h1 => by
    cases k with
    | false => exact ⟨φ, L1, G1, s1, R1, h1⟩
    | true => exact okE.ok h1 R1 (List.prefix_refl _) (Ex.refl _) _ (.inl (.bl _))⟩
  exact tT_of z
theorem notV_of {Q : VK} (h : tE Ω W (fun s => (asB (ra s)).bind fun b s => .ok (.bl (!b)) s) σ H Q) : tNotV (tE Ω W ra) σ H Q := by
  obtain ⟨φ, L, G, s, R, h⟩ := h
  have z : tT Ω W (fun s => asB (ra s)) σ H (fun c H1 => Q (.bl (!c)) H1) := ⟨φ, L, G, s, R, h.go fun k s1 L1 G1 H1 l1 e1 R1 h1 => okE.ok h1 R1 (List.prefix_refl _) (Ex.refl _) _ (.inl (.bl _))⟩
  exact tT_of z
theorem ite_of {Q : VK} (h : tE Ω W (fun s => (rt s).bind fun b s => if b then ra s else rb s) σ H Q) : tIf (tT Ω W rt) (tE Ω W ra) (tE Ω W rb) σ H Q := by
  obtain ⟨φ, L, G, s, R, h⟩ := h
  refine ⟨φ, L, G, s, R, h.go fun k s1 L1 G1 H1 l1 e1 R1 h1 => ?_⟩
  cases k with
  | true => rw [if_pos rfl] at h1 ⊢; exact ⟨φ, L1, G1, s1, R1, h1⟩
  | false => exact ⟨φ, L1, G1, s1, R1, h1⟩

/-! ### arguments -/
variable {es : List Expr} {rs : DS → Res (List D) DS}
theorem nilB_of {Q : List V → Hp → Prop} (h : tB Ω W (fun s => .ok [] s) σ H Q) : tNil σ H Q := by
  obtain ⟨φ, L, G, s, R, h⟩ := h
  exact okE.ok h R (List.prefix_refl _) (Ex.refl _) _ .nil
theorem consB_of {Q : List V → Hp → Prop} (h : tB Ω W (fun s => (ra s).bind fun x s => (rs s).bind fun xs s => .ok (x :: xs) s) σ H Q) : tCons (tE Ω W ra) (tB Ω W rs) σ H Q := by
  obtain ⟨φ, L, G, s, R, h⟩ := h
  exact ⟨φ, L, G, s, R, h.go fun d s1 L1 G1 H1 l1 e1 R1 h1 v hv => ⟨φ, L1, G1, s1, R1, h1.go fun ds s2 L2 G2 H2 l2 e2 R2 h2 vs hvs =>
    okE.ok h2 R2 (List.prefix_refl _) (Ex.refl _) _ (.cons (hv.mono e2 l2) hvs)⟩⟩
theorem nilA_of {Q : List V → Hp → Prop} (h : tA Ω W (fun s => .ok [] s) σ H Q) : tNil σ H Q := by
  obtain ⟨φ, L, G, s, R, h⟩ := h
  exact okE.ok h R (List.prefix_refl _) (Ex.refl _) _ .nil
/-- what a slot alone held is frozen -/
theorem Rel.escape (R : RelO Ω φ L G s σ H) {i : Nat} {m : MO} {a : Addr} {o : HO} {d : D} (q : s.sl[i]? = some (.own m)) (hs : σ[i]? = some (some (.ref a))) (hH : H a = some o) (g1 : G a = none) (l1 : a ∉ L)
    (rp : Rp Ω.w Ω.K (upd G a o) L (.ref a) d) : RelO Ω φ L (upd G a o) { s with sl := s.sl.set i (.val d) } σ H := by
  have fr : φ.FR a = none := by
    cases z : φ.FR a with
    | none => rfl
    | some o => exact absurd ⟨⟨_, q⟩, hs⟩ ((R.frm a o z).2.2.2 i)
  -- first the slot lets go, then the object is frozen
  have R1 : RelO Ω φ L G { s with sl := s.sl.set i .none } σ H := R.gone q (fun m z => by cases z) (fun c as z => by cases z) (fun d z => by cases z)
  have lt : i < s.sl.length := (List.getElem?_eq_some_iff.mp q).1
  have no : ∀ j, ¬ OwnA σ (s.sl.set i .none) j a := fun j ⟨⟨m, h1⟩, h2⟩ => by
    by_cases z : i = j
    · subst z; rw [List.getElem?_set_self lt] at h1; cases h1
    · rw [List.getElem?_set_ne z] at h1
      exact z (R.inj i j a ⟨⟨_, q⟩, hs⟩ ⟨⟨m, h1⟩, h2⟩)
  have R2 : RelO Ω φ L (upd G a o) { s with sl := s.sl.set i .none } σ H := R1.freeze hH g1 l1 no fr
  have R3 := R2.put (i := i) (v := .ref a) (d := d) rp
  have es : σ.set i (some (.ref a)) = σ := by
    apply List.ext_getElem?
    intro j
    by_cases z : i = j
    · subst z
      have ls : i < σ.length := (List.getElem?_eq_some_iff.mp hs).1
      rw [List.getElem?_set_self ls, hs]
    · rw [List.getElem?_set_ne z]
  rw [es] at R3
  have e2 : (s.sl.set i .none).set i (.val d) = s.sl.set i (.val d) := List.set_set ..
  simp only [e2] at R3
  exact R3
/-- a value that is kept: what a slot alone held is frozen -/
theorem esc_of {α : Type} {W : WX} {φ2 : Fx} {σ2 : St} {f : D → DS → Res α DS} {P : α → DS → List Addr → Hp → Hp → Prop} {d : D} {v : V} (R : RelO Ω φ L G s σ H) (hv : RpT Ω.w Ω.K G L σ v d) (h : okE Ω W φ2 σ2 L G ((esc s d).bind f) P) :
    ∃ d' s' G', Ex G G' ∧ RelO Ω φ L G' s' σ H ∧ Rp Ω.w Ω.K G' L v d' ∧ okE Ω W φ2 σ2 L G' (f d' s') P := by
  rcases hv with hv | ⟨i, a, rfl, rfl, hs⟩
  · refine ⟨d, s, G, Ex.refl _, R, hv, ?_⟩
    cases hv <;> exact h
  · simp only [esc] at h
    cases q : s.sl[i]? with
    | none => rw [q] at h; exact h.elim
    | some x =>
      rw [q] at h
      cases x with
      | none => exact h.elim
      | val d => exact h.elim
      | exc _ _ => exact h.elim
      | own m =>
        obtain ⟨b, e1, g1, l1, m1⟩ := R.own i m q
        rw [hs] at e1
        have eb : a = b := by simpa using e1
        subst eb
        cases m with
        | lst xs =>
          obtain ⟨vs, hH, r⟩ := m1
          have x1 : Ex G (upd G a (.lst vs)) := Ex.new g1
          have rp : Rp Ω.w Ω.K (upd G a (.lst vs)) L (.ref a) (.lst xs) := .lst (SqL.of upd_same) (r.mono x1 (List.prefix_refl _))
          exact ⟨.lst xs, _, _, x1, R.escape q hs hH g1 l1 rp, rp, okE.mono (show okE Ω W φ2 σ2 L G (f (.lst xs) { s with sl := s.sl.set i (.val (.lst xs)) }) P from h) (List.prefix_refl _) x1⟩
        | dic ks xs =>
          obtain ⟨kvs, hH, rfl, r⟩ := m1
          have x1 : Ex G (upd G a (.dK kvs)) := Ex.new g1
          have rp : Rp Ω.w Ω.K (upd G a (.dK kvs)) L (.ref a) (.dic (KD kvs) xs) := .dic upd_same (r.mono x1 (List.prefix_refl _))
          exact ⟨.dic (KD kvs) xs, _, _, x1, R.escape q hs hH g1 l1 rp, rp, okE.mono (show okE Ω W φ2 σ2 L G (f (.dic (KD kvs) xs) { s with sl := s.sl.set i (.val (.dic (KD kvs) xs)) }) P from h) (List.prefix_refl _) x1⟩
        | dead => exact m1.elim
theorem consA_of {Q : List V → Hp → Prop} (h : tA Ω W (fun s => (ra s).bind fun x s => (esc s x).bind fun x s => (rs s).bind fun xs s => .ok (x :: xs) s) σ H Q) : tCons (tE Ω W ra) (tA Ω W rs) σ H Q := by
  obtain ⟨φ, L, G, s, R, h⟩ := h
  refine ⟨φ, L, G, s, R, h.go fun d s1 L1 G1 H1 l1 e1 R1 h1 v hv => ?_⟩
  obtain ⟨d', s', G', x, R2, rv, h2⟩ := esc_of R1 hv h1
  exact ⟨φ, L1, G', s', R2, h2.go fun ds s2 L2 G2 H2 l2 e2 R3 h3 vs hvs => okE.ok h3 R3 (List.prefix_refl _) (Ex.refl _) _ (.cons (rv.mono e2 l2) hvs)⟩
theorem starA_of (hK : Ω.K = X.K) {Q : List V → Hp → Prop} (h : tA Ω W (fun s => (ra s).bind fun x s => match deref s x with
      | .lst ys | .tup ys => (rs s).bind fun xs s => .ok (ys ++ xs) s
      | _ => .stuck) σ H Q) : StX.tStar X.K (tE Ω W ra) (tA Ω W rs) σ H Q := by
  obtain ⟨φ, L, G, s, R, h⟩ := h
  refine ⟨φ, L, G, s, R, h.go fun d s1 L1 G1 H1 l1 e1 R1 h1 v hv => ?_⟩
  have hd := deref_of hv R1
  generalize deref s1 d = z at h1 hd
  have go : ∀ {a : Addr} {vs : List V} {ys : List D}, (SqT X.K H1 a vs ∨ SqL X.K H1 a vs) → Rps Ω.w Ω.K G1 L1 vs ys → v = .ref a →
      okE Ω W φ σ L1 G1 ((rs s1).bind fun xs s => .ok (ys ++ xs) s) (fun ds _ L' G' H' => ∀ vs, Rps Ω.w Ω.K G' L' vs ds → Q vs H') →
      ∃ p xs, v = V.ref p ∧ (SqT X.K H1 p xs ∨ SqL X.K H1 p xs) ∧ tA Ω W rs σ H1 fun ys H2 => Q (xs ++ ys) H2 := fun {a vs ys} hq r ev h2 =>
    ⟨a, vs, ev, hq, φ, L1, G1, s1, R1, h2.go fun ds s2 L2 G2 H2 l2 e2 R3 h3 us hus => okE.ok h3 R3 (List.prefix_refl _) (Ex.refl _) _ ((r.mono e2 l2).append hus)⟩
  rcases hd with hd | hd
  · cases hd with
    | tup hq r => rw [hK] at hq; exact go (.inl (R1.sub.st hq)) r rfl h1
    | lst hq r => rw [hK] at hq; exact go (.inr hq) r rfl h1
    | _ => exact h1.elim
  · cases z <;> first | exact h1.elim | exact hd.elim
theorem tup_of {Q : VK} (h : tE Ω W (fun s => (rs s).bind fun ds s => if ds.length ≤ big then .ok (.tup ds) s else .stuck) σ H Q) : tTup (tA Ω W rs) σ H Q := by
  obtain ⟨φ, L, G, s, R, h⟩ := h
  refine ⟨φ, L, G, s, R, h.go fun ds s1 L1 G1 H1 l1 e1 R1 h1 vs hvs => ?_⟩
  by_cases z : ds.length ≤ big
  · rw [if_pos z] at h1
    refine ⟨by rw [hvs.length]; exact big_ok z, fun p hp => h1 L1 _ _ (List.prefix_refl _) (Ex.new (R1.sub.none hp)) (R1.laid hp) _ (.inl (rp_newT hp R1.sub hvs))⟩
  · rw [if_neg z] at h1
    exact h1.elim
theorem lst_of {Q : VK} (h : tE Ω W (fun s => (rs s).bind fun ds s => if ds.length ≤ big then .ok (.lst ds) s else .stuck) σ H Q) : tLst (tA Ω W rs) σ H Q := by
  obtain ⟨φ, L, G, s, R, h⟩ := h
  refine ⟨φ, L, G, s, R, h.go fun ds s1 L1 G1 H1 l1 e1 R1 h1 vs hvs => ?_⟩
  by_cases z : ds.length ≤ big
  · rw [if_pos z] at h1
    refine ⟨by rw [hvs.length]; exact big_ok z, fun p hp => h1 L1 _ _ (List.prefix_refl _) (Ex.new (R1.sub.none hp)) (R1.laid hp) _ (.inl (rp_new hp R1.sub hvs))⟩
  · rw [if_neg z] at h1
    exact h1.elim
end DL
end

section
set_option Elab.async false
set_option linter.all false
set_option autoImplicit false
set_option maxRecDepth 100000
/-! Dl6: the promise of a def; calls. -/
namespace DL
open PySem L2
variable {Ω : Om} {W : WX} {φ : Fx} {L L' : List Addr} {G G' H H' : Hp} {s : DS} {σ : St} {X : Cx}

/-- the store's cells lie at L -/
structure Sto (w : World) (K : PySem.W.Frag) (L : List Addr) (st : List MO) (G H : Hp) : Prop where
  len : L.length = st.length
  nod : L.Nodup
  cell : ∀ (n : Nat) (m : MO) (a : Addr), st[n]? = some m → L[n]? = some a → G a = none ∧ MoAt w K G L H a m
/-- what must stay as it is -/
def Frm (FR G : Hp) (L : List Addr) (H : Hp) : Prop := ∀ a o, FR a = some o → H a = some o ∧ G a = none ∧ a ∉ L
/-- THE PROMISE of a def whose meaning is F -/
def spD (Ω : Om) (F : DF) : Sp := fun vs H Q E => ∃ (L : List Addr) (G FR : Hp) (ds : List D) (st : List MO), Rps Ω.w Ω.K G L vs ds ∧ Ex G H ∧ Sto Ω.w Ω.K L st G H ∧ Frm FR G L H ∧
  match F ds st with
  | .ok d st' => ∀ L' G' H' v, Pre L L' → Ex G G' → Ex G' H' → Sto Ω.w Ω.K L' st' G' H' → Frm FR G' L' H' → Rp Ω.w Ω.K G' L' v d → Q v H'
  | .exc c as st' => ∀ L' G' H' cls dd, Pre L L' → Ex G G' → Ex G' H' → Sto Ω.w Ω.K L' st' G' H' → Frm FR G' L' H' → XAt Ω G' L' H' c as cls dd → E cls dd H'
  | .stuck => False

open Classical in
/-- what a callee must leave as it is -/
noncomputable def below (φ : Fx) (s : DS) (σ : St) (H : Hp) : Hp := fun a => if (∃ i, OwnA σ s.sl i a) ∨ (φ.FR a).isSome = true then H a else none
theorem Rel.sto' (R : RelO Ω φ L G s σ H) : Sto Ω.w Ω.K L s.st G H := ⟨R.stl, R.nod, R.sto⟩
theorem Rel.below (R : RelO Ω φ L G s σ H) : Frm (below φ s σ H) G L H := fun a o e => by
  unfold DL.below at e
  split at e
  · rename_i h
    rcases h with ⟨i, h⟩ | h
    · obtain ⟨g, l, _⟩ := R.inO h; exact ⟨e, g, l⟩
    · obtain ⟨u, hu⟩ := Option.isSome_iff_exists.mp h
      obtain ⟨h1, h2, h3, _⟩ := R.frm a u hu
      exact ⟨e, h2, h3⟩
  · cases e
theorem Rel.back (R : RelO Ω φ L G s σ H) {st' : List MO} (l : Pre L L') (e : Ex G G') (sub : Ex G' H') (S : Sto Ω.w Ω.K L' st' G' H') (F : Frm (DL.below φ s σ H) G' L' H') : RelO Ω φ L' G' { s with st := st' } σ H' := by
  have own : ∀ i a, OwnA σ s.sl i a → ∀ o, H a = some o → DL.below φ s σ H a = some o := fun i a h o ho => by
    unfold DL.below
    rw [if_pos (.inl ⟨i, h⟩)]
    exact ho
  exact {
    le := R.le.trans l
    ge := R.ge.trans e
    sub := sub
    len := R.len
    val := fun i d h => by
      obtain ⟨v, a, b⟩ := R.val i d h
      exact ⟨v, a, b.mono e l⟩
    own := fun i m h => by
      obtain ⟨a, e1, e2, e3, e4⟩ := R.own i m h
      have k : ∀ o, H a = some o → H' a = some o ∧ G' a = none ∧ a ∉ L' := fun o ho => F a o (own i a ⟨⟨m, h⟩, e1⟩ o ho)
      obtain ⟨o, ho⟩ := e4.there
      exact ⟨a, e1, (k o ho).2.1, (k o ho).2.2, e4.mono e l fun o ho => (k o ho).1⟩
    inj := R.inj
    stl := S.len
    sto := S.cell
    nod := S.nod
    frm := fun a o h => by
      obtain ⟨h1, h2, h3, h4⟩ := R.frm a o h
      have : DL.below φ s σ H a = some o := by
        unfold DL.below
        rw [if_pos (.inr (by rw [h]; rfl))]
        exact h1
      obtain ⟨k1, k2, k3⟩ := F a o this
      exact ⟨k1, k2, k3, h4⟩
    fr0 := R.fr0
    exc := fun i c as h => by
      obtain ⟨a, vs, h1, h2, h3⟩ := R.exc i c as h
      exact ⟨a, vs, h1, h2, h3.mono e l⟩ }
/-- a call, by the meaning of the def -/
def callR (F : DF) (rs : DS → Res (List D) DS) : DS → Res D DS := fun s => (rs s).bind fun ds s => match F ds s.st with
  | .ok d st => .ok d { s with st := st }
  | .exc c as st => .exc c as { s with st := st }
  | .stuck => .stuck
theorem call_of {F F0 : DF} {dvs : List V} {dd : List D} {rs : DS → Res (List D) DS} {Q : VK} (hF : ∀ ds st, F ds st = F0 (ds ++ dd) st) (hd : ∀ G L, Rps Ω.w Ω.K G L dvs dd) (h : tE Ω W (callR F rs) σ H Q) :
    tCallSD (spD Ω F0) dvs (fun σ => WE W σ) (tA Ω W rs) σ H Q := by
  obtain ⟨φ, L, G, s, R, h⟩ := h
  refine ⟨φ, L, G, s, R, h.go fun ds s1 L1 G1 H1 l1 e1 R1 h1 vs hvs => ?_⟩
  show spD Ω F0 (vs ++ dvs) H1 Q (WE W σ)
  refine ⟨L1, G1, DL.below φ s1 σ H1, ds ++ dd, s1.st, hvs.append (hd _ _), R1.sub, R1.sto', R1.below, ?_⟩
  rw [hF] at h1
  cases q : F0 (ds ++ dd) s1.st with
  | ok d st =>
    simp only [q] at h1
    exact fun L' G' H' v l e sub S Fr r => h1 L' G' H' l e (R1.back l e sub S Fr) v (.inl r)
  | exc c as st =>
    simp only [q] at h1
    exact fun L' G' H' cls dd l e sub S Fr x => h1 L' G' H' cls dd l e (R1.back l e sub S Fr) x
  | stuck =>
    simp only [q] at h1
    exact h1

/-- what is known of a def that is called (with its defaults): it keeps the promise of its meaning -/
structure CallOk (Ω : Om) (X : Cx) (x : Str) (F : DF) : Prop where
  ex : ∃ (f : Addr) (k : Nat) (fd : FuncData) (ps : List Str) (F0 : DF) (ds : List Value) (dvs : List V) (dd : List D), X.mg x = some (.ref f) ∧ PySem.W.keepIn X.K (.ref f) = true ∧
    FnOk X.prog X.w X.K X.mg X.base (L2N.CX X.prog X.w) k f fd ps (spD Ω F0) ∧ Binds X.K fd ps ds ∧ Vals dvs ds ∧ (∀ G L, Rps Ω.w Ω.K G L dvs dd) ∧ (∀ ds st, F ds st = F0 (ds ++ dd) st) ∧ Room k X.A
theorem r_call {x : Str} {F : DF} {e : Expr} {es : List Expr} {p pos : Pos} {rs : DS → Res (List D) DS} (C : CallOk Ω X x F) (tk : L2N.Takes X W) (hg : Gl X x) (ha : PA X (e :: es) (tA Ω W rs)) (hdb : (x == ("__debug__" : Str)) = false)
    (he : starEach (e :: es) X.env = (false, eval e X.env) :: starEach es X.env) (hpl : (backTo pos (starEach es X.env)).any (·.1) = false) : PE X (.Call (.Name x p) (e :: es) [] pos) (tE Ω W (callR F rs)) := by
  obtain ⟨f, k, fd, ps, F0, ds, dvs, dd, hm, hk, hF, hb, hd, hr, hE, hR⟩ := C.ex
  exact PE.imp (pe_callSD hF hR hg hm hk hb hd (fun σ => L2N.passAt tk σ) ha hdb he hpl) fun σ H Q h => call_of hE hr h
theorem r_call0 {x : Str} {F : DF} {p pos : Pos} (C : CallOk Ω X x F) (tk : L2N.Takes X W) (hg : Gl X x) (hdb : (x == ("__debug__" : Str)) = false) : PE X (.Call (.Name x p) [] [] pos) (tE Ω W (callR F fun s => .ok [] s)) := by
  obtain ⟨f, k, fd, ps, F0, ds, dvs, dd, hm, hk, hF, hb, hd, hr, hE, hR⟩ := C.ex
  refine PE.imp (t := tCallSD (spD Ω F0) dvs (fun σ => WE W σ) tNil) ⟨fun pins s σ H Q I h => ?_⟩ fun σ H Q h => ?_
  · refine wpAny_Call_Name_kw (ld_glob I hg hm ?_ hdb)
    exact PySem.W.callWith_K0 I.kIn hk (run_fnSD (us := []) (vs := []) hF hR hb hd (L2N.passAt tk σ) I .nil h)
  · have h2 := call_of (rs := fun s => .ok [] s) hE hr h
    exact nilA_of h2
end DL
end

section
set_option Elab.async false
set_option linter.all false
set_option autoImplicit false
set_option maxRecDepth 100000
/-! Dl7: built-in functions, methods, subscripts, texts. -/
namespace DL
open PySem L2
variable {Ω : Om} {W : WX} {φ : Fx} {L L' : List Addr} {G G' H H' : Hp} {s : DS} {σ : St} {X : Cx}

inductive RpHs (w : World) (K : PySem.W.Frag) (G : Hp) (L : List Addr) (H : Hp) : List V → List D → Prop
  | nil : RpHs w K G L H [] []
  | cons {v : V} {vs : List V} {d : D} {ds : List D} : (RpH w K G L H v d ∨ Blank d) → RpHs w K G L H vs ds → RpHs w K G L H (v :: vs) (d :: ds)
theorem derefs_of (R : RelO Ω φ L G s σ H) : ∀ {vs : List V} {ds : List D}, RpTs Ω.w Ω.K G L σ vs ds → RpHs Ω.w Ω.K G L H vs (ds.map (deref s))
  | _, _, .nil => .nil
  | _, _, .cons h r => .cons (deref_of h R) (derefs_of R r)
/-- an outcome of values: nothing made, or one new object -/
def Gives (Ω : Om) (G : Hp) (L : List Addr) (H : Hp) (z : D) (Q : VK) : Prop := (∀ t, Rp Ω.w Ω.K G L t z → Q t H) ∧ (∀ p o t, H p = none → Rp Ω.w Ω.K (upd G p o) L t z → Q t (upd H p o))
theorem gives {z : D} {Q : VK} (R : RelO Ω φ L G s σ H) (h : okE Ω W φ σ L G (.ok z s) fun z _ L' G' H' => ∀ v, RpT Ω.w Ω.K G' L' σ v z → Q v H') : Gives Ω G L H z Q :=
  ⟨fun t ht => h L G H (List.prefix_refl _) (Ex.refl _) R t (.inl ht), fun p o t hp ht => h L _ _ (List.prefix_refl _) (Ex.new (R.sub.none hp)) (R.laid hp) t (.inl ht)⟩
def rBi (Ω : Om) (W : WX) (g : List D → Option D) : List V → Hp → VK → Prop := fun xs H Q => ∃ φ L G s σ ds, RelO Ω φ L G s σ H ∧ RpTs Ω.w Ω.K G L σ xs ds ∧
  okE Ω W φ σ L G (.lift (g (ds.map (deref s))) s) fun z _ L' G' H' => ∀ v, RpT Ω.w Ω.K G' L' σ v z → Q v H'
theorem bi_of {g : List D → Option D} {rs : DS → Res (List D) DS} {Q : VK} (h : tE Ω W (fun s => (rs s).bind fun ds s => .lift (g (ds.map (deref s))) s) σ H Q) : tCB (rBi Ω W g) (tB Ω W rs) σ H Q := by
  obtain ⟨φ, L, G, s, R, h⟩ := h
  exact ⟨φ, L, G, s, R, h.go fun ds s1 L1 G1 H1 l1 e1 R1 h1 vs hvs => ⟨φ, L1, G1, s1, σ, ds, R1, hvs, h1⟩⟩
/-- what is shown of a built-in: by the values as they stand -/
theorem biR {f : Value} {g : List D → Option D} (k : ∀ (pins : List (Addr × Obj)) (sh : Shared) (σ : St) (G : Hp) (L : List Addr) (H : Hp) (xs : List V) (ds : List D) (z : D) (us : List Value) (Q : VK), Inv X pins σ H sh → Vals xs us → Ex G H →
      RpHs Ω.w Ω.K G L H xs ds → g ds = some z → Gives Ω G L H z Q → wpAny (model X.prog X.w) X.A (call f us) (EP X pins σ Q) X.xe sh) : CallR X f (rBi Ω W g) := by
  intro pins sh σ0 H xs us Q I rs h
  obtain ⟨φ, L, G, s, σ, ds, R, hd, h⟩ := h
  cases hg : g (ds.map (deref s)) with
  | none => rw [hg] at h; exact h.elim
  | some z =>
    rw [hg] at h
    exact k pins sh σ0 G L H xs _ z us Q I rs R.sub (derefs_of R hd) hg (gives R h)

theorem op_len (hK : Ω.K = X.K) : CallR X (.builtin "len") (rBi Ω W (biD .len)) := biR fun pins sh σ G L H xs ds z us Q I rs ex hs hg hQ => by
  cases hs with
  | nil => cases hg
  | @cons v vs d r h hr =>
    cases hr with
    | cons => simp [biD] at hg
    | nil =>
      rcases h with h | h
      · cases h with
        | @tup a xs ds h r =>
          have ez : z = .int (xs.length : Int) := by rw [r.length]; simpa [biD] using hg.symm
          subst ez
          rw [hK] at h
          exact call_len_seq pins sh σ H _ us Q I rs ⟨a, xs, rfl, .inr (ex.st h), hQ.1 _ (.int _)⟩
        | @lst a xs ds h r =>
          have ez : z = .int (xs.length : Int) := by rw [r.length]; simpa [biD] using hg.symm
          subst ez
          rw [hK] at h
          exact call_len_seq pins sh σ H _ us Q I rs ⟨a, xs, rfl, .inl h, hQ.1 _ (.int _)⟩
        | @dic a kvs ds h r =>
          have ez : z = .int (kvs.length : Int) := by simpa [biD] using hg.symm
          subst ez
          cases rs with
          | cons r0 rr =>
            cases rr
            cases r0
            exact d_len I (.inl h) fun t s' I' => ⟨.int kvs.length, H, I', ⟨t, rfl⟩, hQ.1 _ (.int _)⟩
        | str x =>
          simp only [biD] at hg
          split at hg
          · rename_i hc
            have ez : z = .int (x.length : Int) := by rw [str_len]; simpa using hg.symm
            subst ez
            exact call_len_str pins sh σ H _ us Q I rs ⟨x, rfl, by rw [str_len]; exact big_ok hc, hQ.1 _ (.int _)⟩
          · cases hg
        | _ => simp [biD] at hg
      · cases d <;> first | exact h.elim | (simp [biD] at hg; done)
theorem op_abs : CallR X (.builtin "abs") (rBi Ω W (biD .abs)) := biR fun pins sh σ G L H xs ds z us Q I rs ex hs hg hQ => by
  cases hs with
  | nil => cases hg
  | @cons v vs d r h hr =>
    cases hr with
    | cons => simp [biD] at hg
    | nil =>
      rcases h with h | h
      · cases h with
        | int i => cases hg; exact call_abs pins sh σ H _ us Q I rs ⟨i, rfl, hQ.1 _ (.int _)⟩
        | _ => simp [biD] at hg
      · cases d <;> first | exact h.elim | (simp [biD] at hg; done)
theorem op_int1 : CallR X (.type "int") (rBi Ω W (biD .int1)) := biR fun pins sh σ G L H xs ds z us Q I rs ex hs hg hQ => by
  cases hs with
  | nil => cases hg
  | @cons v vs d r h hr =>
    cases hr with
    | cons => simp [biD] at hg
    | nil =>
      rcases h with h | h
      · cases h with
        | int i => cases hg; exact call_int1 pins sh σ H _ us Q I rs (.inl ⟨i, rfl, hQ.1 _ (.int _)⟩)
        | _ => simp [biD] at hg
      · cases d <;> first | exact h.elim | (simp [biD] at hg; done)
theorem op_mm (mx : Bool) (hc : X.calm = true) : CallR X (.builtin (if mx then "max" else "min")) (rBi Ω W (biD (if mx then .max2 else .min2))) := biR fun pins sh σ G L H xs ds z us Q I rs ex hs hg hQ => by
  cases hs with
  | nil => cases mx <;> cases hg
  | @cons v vs d r h hr =>
    cases hr with
    | nil => cases mx <;> simp [biD] at hg
    | @cons v2 vs2 d2 r2 h2 hr2 =>
      cases hr2 with
      | cons => cases mx <;> simp [biD] at hg
      | nil =>
        rcases h with h | h
        · cases h with
          | int i =>
            rcases h2 with h2 | h2
            · cases h2 with
              | int j =>
                cases mx with
                | true => cases hg; exact call_max2 hc pins sh σ H _ us Q I rs ⟨i, j, rfl, hQ.1 _ (.int _)⟩
                | false => cases hg; exact call_min2 hc pins sh σ H _ us Q I rs ⟨i, j, rfl, hQ.1 _ (.int _)⟩
              | _ => cases mx <;> simp [biD] at hg
            · cases d2 <;> first | exact h2.elim | (cases mx <;> simp [biD] at hg; done)
          | _ => cases mx <;> simp [biD] at hg
        · cases d <;> first | exact h.elim | (cases mx <;> simp [biD] at hg; done)
theorem bools_of : ∀ {vs : List V} {ds : List D} {bs : List Bool}, Rps Ω.w Ω.K G L vs ds → boolsD ds = some bs → vs = bs.map V.bl
  | _, _, _, .nil, h => by cases h; rfl
  | _, _, _, .cons (v := v) (d := d) h r, hb => by
    cases h with
    | bl b =>
      simp only [boolsD, Option.map_eq_some_iff] at hb
      obtain ⟨bs', h1, rfl⟩ := hb
      rw [List.map_cons, bools_of r h1]
    | _ => simp [boolsD] at hb
theorem op_aa (al : Bool) (hK : Ω.K = X.K) (hc : X.calm = true) : CallR X (.builtin (if al then "all" else "any")) (rBi Ω W (biD (if al then .all else .any))) := biR fun pins sh σ G L H xs ds z us Q I rs ex hs hg hQ => by
  cases hs with
  | nil => cases al <;> cases hg
  | @cons v vs d r h hr =>
    cases hr with
    | cons => cases al <;> simp [biD] at hg
    | nil =>
      rcases h with h | h
      · cases h with
        | @lst a xs ds h r =>
          rw [hK] at h
          cases al with
          | true =>
            simp only [biD, Option.map_eq_some_iff, if_true] at hg
            obtain ⟨bs, hb, rfl⟩ := hg
            have e := bools_of r hb
            subst e
            exact cr_all hc pins sh σ H _ us Q I rs ⟨a, bs, rfl, h, hQ.1 _ (.bl _)⟩
          | false =>
            simp only [biD, Option.map_eq_some_iff, Bool.false_eq_true, if_false] at hg
            obtain ⟨bs, hb, rfl⟩ := hg
            have e := bools_of r hb
            subst e
            exact cr_any hc pins sh σ H _ us Q I rs ⟨a, bs, rfl, h, hQ.1 _ (.bl _)⟩
        | _ => cases al <;> simp [biD] at hg
      · cases d <;> first | exact h.elim | (cases al <;> simp [biD] at hg; done)
theorem op_tuple (hK : Ω.K = X.K) : CallR X (.type "tuple") (rBi Ω W (biD .tuple)) := biR fun pins sh σ G L H xs ds z us Q I rs ex hs hg hQ => by
  cases hs with
  | nil => cases hg
  | @cons v vs d r h hr =>
    cases hr with
    | cons => simp [biD] at hg
    | nil =>
      rcases h with h | h
      · cases h with
        | @tup a xs ds h r =>
          cases hg
          have h' := h
          rw [hK] at h'
          exact call_tuple_of pins sh σ H _ us Q I rs ⟨a, xs, rfl, .inr ⟨ex.st h', hQ.1 _ (.tup h r)⟩⟩
        | @lst a xs ds h r =>
          cases hg
          rw [hK] at h
          exact call_tuple_of pins sh σ H _ us Q I rs ⟨a, xs, rfl, .inl ⟨h, fun p hp => hQ.2 p _ _ hp (rp_newT hp ex r)⟩⟩
        | _ => simp [biD] at hg
      · cases d <;> first | exact h.elim | (simp [biD] at hg; done)
theorem op_list (hK : Ω.K = X.K) : CallR X (.type "list") (rBi Ω W (biD .list)) := biR fun pins sh σ G L H xs ds z us Q I rs ex hs hg hQ => by
  cases hs with
  | nil => cases hg
  | @cons v vs d r h hr =>
    cases hr with
    | cons => simp [biD] at hg
    | nil =>
      rcases h with h | h
      · cases h with
        | @tup a xs ds h r =>
          cases hg
          rw [hK] at h
          exact call_list_of pins sh σ H _ us Q I rs ⟨a, xs, rfl, .inr (ex.st h), fun p hp => hQ.2 p _ _ hp (rp_new hp ex r)⟩
        | @lst a xs ds h r =>
          cases hg
          rw [hK] at h
          exact call_list_of pins sh σ H _ us Q I rs ⟨a, xs, rfl, .inl h, fun p hp => hQ.2 p _ _ hp (rp_new hp ex r)⟩
        | _ => simp [biD] at hg
      · cases d <;> first | exact h.elim | (simp [biD] at hg; done)
end DL
end

section
set_option Elab.async false
set_option linter.all false
set_option autoImplicit false
set_option maxRecDepth 100000
/-! Dl7b: t[::-1] of a tuple. -/
namespace DL
open PySem PySem.Spec PyProof.Rows L2
section
variable {prog : Program} {w : World} {A : Around} {E : Value → Shared → Prop} {s : Shared}
theorem places_back (n : Nat) : Builtin.Slice.slicePlaces ((n : Int) - 1) (-1) (-1) = n := by
  unfold Builtin.Slice.slicePlaces
  rw [if_neg (show ¬ ((-1 : Int) > 0) by decide)]
  by_cases h : (n : Int) - 1 > -1
  · rw [if_pos h, show (-(-1) : Int) = 1 from rfl, Int.ediv_one]; omega
  · rw [if_neg h]; omega
theorem applied_back {sl : Addr} {vl vu vs : Value} {n : Nat} {Q : Int × Int × Nat → Shared → Prop}
    (hs : s.heap.IsSliceOf sl vl vu vs) (pl : IsPart vl none) (pu : IsPart vu none) (ps : IsPart vs (some (-1)))
    (h : Q ((n : Int) - 1, -1, n) s) : wpAny (model prog w) A (Builtin.Slice.sliceApplied (.ref sl) (pure (n : Int))) Q E s := by
  obtain ⟨o, ho, hc, hd⟩ := id hs
  unfold Builtin.Slice.sliceApplied
  unfold Builtin.Slice.sliceFields
  refine wpAny_bind (wpAny_bind (wpAny_field ho hd (x := vl) rfl ?_))
  refine wpAny_bind (wpAny_field ho hd (x := vu) rfl ?_)
  refine wpAny_bind (wpAny_field ho hd (x := vs) rfl (wpAny_pure ?_))
  refine wpAny_bind (HT.slicePart_ ps ?_)
  show wpAny _ _ (if ((-1 : Int) == 0) = true then _ else _) _ _ s
  rw [if_neg (show ¬ (((-1 : Int) == 0) = true) by decide)]
  refine wpAny_bind (HT.slicePart_ pl ?_)
  refine wpAny_bind (HT.slicePart_ pu ?_)
  refine wpAny_bind (wpAny_pure ?_)
  show wpAny _ _ (pure ((n : Int) - 1, (-1 : Int), Builtin.Slice.slicePlaces ((n : Int) - 1) (-1) (-1))) _ _ s
  rw [places_back]
  exact wpAny_pure h
theorem pick_back (xs : Array Value) : ((List.range xs.size).filterMap fun (m : Nat) => xs[(((xs.size : Int) - 1) + (m : Int) * (-1)).toNat]?).toArray = xs.toList.reverse.toArray := by
  have e : ∀ l : List Nat, (∀ m ∈ l, m < xs.size) → (l.filterMap fun (m : Nat) => xs[(((xs.size : Int) - 1) + (m : Int) * (-1)).toNat]?) = (l.map fun k => xs.size - 1 - k).filterMap (xs[·]?) := by
    intro l hl
    induction l with
    | nil => rfl
    | cons m l ih =>
      have hm := hl m (List.mem_cons_self ..)
      have h1 : (((xs.size : Int) - 1) + (m : Int) * (-1)).toNat = xs.size - 1 - m := by omega
      rw [List.map_cons, List.filterMap_cons, List.filterMap_cons, h1, ih fun k hk => hl k (List.mem_cons_of_mem _ hk)]
  rw [e _ fun m hm => List.mem_range.mp hm, PySem.W.krv_range, List.filterMap_reverse, PySem.W.krv_all]
theorem get_back {t sl : Addr} {items : Array Value} {vl vu vs : Value} {Q : Value → Shared → Prop} (ht : IsTup s.heap t items)
    (hs : s.heap.IsSliceOf sl vl vu vs) (pl : IsPart vl none) (pu : IsPart vu none) (ps : IsPart vs (some (-1)))
    (h : Q (.ref s.heap.objs.size) { s with heap := s.heap.push { cls := .type "tuple", data := .seq items.toList.reverse.toArray } })
    (hsz : items.size ≤ sizeLine) : wpAny (model prog w) A (getItem (.ref t) (.ref sl)) Q E s := by
  have hok : sizeOk (.seq items.toList.reverse.toArray) := by
    show items.toList.reverse.toArray.size ≤ sizeLine
    rw [List.size_toArray, List.length_reverse, Array.length_toList]; exact hsz
  obtain ⟨o, ho, hc, hd⟩ := id hs
  have hT : s.TypeIs (.ref sl) "slice" := ⟨o, ho, hc⟩
  unfold getItem
  try with_reducible refine wpAny_holding ?_
  try refine wpAny_bind (wpAny_pure ?_)
  refine wpAny_bind (wpAny_sequenceKey ht.typeIs (by decide) ?_)
  refine wpAny_bind (wpAny_callSpecial?_slot (name := Str.ofString "__getitem__") ht.typeIs slot_tuple_getitem ?_)
  refine wpAny_call_entry slot_tuple_getitem ht.typeIs entry_tuple_getitem ?_ (args_tuple_getitem _ _)
  show wpAny _ _ (Builtin.Tuple.tupleItemsOf (.ref t) >>= _) _ _ s
  refine wpAny_bind (PyProof.Rows.tupleItemsOf_ ht ?_)
  refine wpAny_bind (wpAny_typeOf hT ?_)
  rw [if_pos (by decide)]
  refine wpAny_bind (applied_back hs pl pu ps ?_)
  have hno : ¬ (((((items.size : Nat) : Int) - 1) == 0 && (-1 : Int) == 1 && items.size == items.size) = true) := by
    rw [show ((-1 : Int) == 1) = false from rfl, Bool.and_false, Bool.false_and]; exact Bool.false_ne_true
  show wpAny _ _ (if ((((items.size : Nat) : Int) - 1) == 0 && (-1 : Int) == 1 && items.size == items.size) = true then _ else _) _ _ s
  rw [if_neg hno, pick_back]
  first
    | exact wpAny_bind (m := Builtin.Tuple.tupleExact _) (wpAny_newObj_type (wpAny_pure ⟨_, rfl, wpAny_pure h⟩) hok)
    | exact wpAny_bind (m := Builtin.Tuple.tupleExact _) (wpAny_newObj_type (wpAny_bind (wpAny_pure (wpAny_pure ⟨_, rfl, wpAny_pure h⟩))) hok)
    | exact wpAny_bind (wpAny_bind (m := Builtin.Tuple.tupleExact _) (wpAny_newObj_type (wpAny_pure (wpAny_pure ⟨_, rfl, wpAny_pure h⟩)) hok))
    | exact wpAny_bind (wpAny_bind (m := Builtin.Tuple.tupleExact _) (wpAny_newObj_type (wpAny_pure ⟨_, rfl, wpAny_pure h⟩) hok))
end
section
variable {X : Cx}
/-- xs[::-1] of a list or of a tuple -/
def tBack (K : PySem.W.Frag) (te : TE) : TE := fun σ H Q => te σ H fun x H1 => ∃ a xs, x = .ref a ∧
  ((SqL K H1 a xs ∧ ∀ p, H1 p = none → Q (.ref p) (upd H1 p (.lst xs.reverse))) ∨ (SqT K H1 a xs ∧ ∀ p, H1 p = none → Q (.ref p) (upd H1 p (.tup xs.reverse))))
theorem pe_back {e : Expr} {te : TE} {k : Nat} {p1 p2 p3 pos : Pos} (he : PE X e te) : PE X (.Subscript e (.Slice none none (some (.UnaryOp .USub (.Constant (.int 1) k p1) p2)) p3) pos) (tBack X.K te) := by
  refine ⟨fun pins s σ H Q I h => ?_⟩
  refine Subscript_ (thn (he.run pins s σ H _ I h) fun v s1 q0 => ?_)
  obtain ⟨x, H1, I1, r1, a, xs, ex, q⟩ := q0
  subst ex
  cases r1
  have hst : PO X (some (.UnaryOp .USub (.Constant (.int 1) k p1) p2)) (tPart (tUn (rU fun i => .int (-i)) (tC (.int 1)))) :=
    po_some (pe_un un_neg pe_int)
  refine wpAny_Slice (thn (po_none.run pins s1 σ H1 (fun o H2 => o = none ∧ H2 = H1) I1 ⟨rfl, rfl⟩) fun vl s2 g => ?_)
  obtain ⟨l, H2, I2, pl, el, e2⟩ := g
  subst el; subst e2
  refine thn (po_none.run pins s2 σ H2 (fun o H3 => o = none ∧ H3 = H2) I2 ⟨rfl, rfl⟩) fun vu s3 g => ?_
  obtain ⟨u, H3, I3, pu, eu, e3⟩ := g
  subst eu; subst e3
  refine thn (hst.run pins s3 σ H3 (fun o H4 => o = some (-1) ∧ H4 = H3) I3 ⟨1, rfl, -1, rfl, rfl, rfl⟩) fun vs s4 g => ?_
  obtain ⟨o, H4, I4, ps, eo, e4⟩ := g
  subst eo; subst e4
  have I5 : Inv X pins σ H4 { s4 with heap := s4.heap.push { cls := .type "slice", data := .fields #[vl, vu, vs] } } :=
    I4.kept (t' := s4.toks) fun b ob q => Heap.get?_push_of_some _ q
  show wpAny (model X.prog X.w) X.A (subscriptTail e (.Slice none none (some (.UnaryOp .USub (.Constant (.int 1) k p1) p2)) p3) (.ref a) (.ref s4.heap.objs.size))
    (EP X pins σ Q) X.xe { s4 with heap := s4.heap.push { cls := .type "slice", data := .fields #[vl, vu, vs] } }
  rcases q with ⟨hx, q⟩ | ⟨hx, q⟩
  · obtain ⟨its, r, ht, hz⟩ := I5.list hx
    have hlen := r.length
    refine tail_any (ops := [.ref a, .ref s4.heap.objs.size]) ht.isList.typeIs (PySem.slot_list_getitem.lookup) ?_ (by with_unfolding_all rfl)
    refine wpAny_getItem_list_slice ht.isList (Heap.IsSliceOf.new _ vl vu vs) pl pu ps (by decide) ?_ (by rw [List.size_toArray]; omega)
    rw [PySem.W.krv_pick]
    have I6 := I5.laid (t' := s4.toks) (o := .lst xs.reverse) (fun b ob q => Heap.get?_push_of_some _ q) (Nat.le_refl _)
      ⟨by rw [List.length_reverse]; exact hz, _, 0, r.reverse, Heap.get?_push_size _ rfl⟩
    exact ⟨.ref _, _, I6, rfl, q _ (I5.hok.fresh (Nat.le_refl _))⟩
  · obtain ⟨its, r, ht, hz⟩ := I5.tuple hx
    have hlen := r.length
    refine tail_any (ops := [.ref a, .ref s4.heap.objs.size]) ht.typeIs (slot_tuple_getitem.lookup) ?_ (by with_unfolding_all rfl)
    refine get_back ht (Heap.IsSliceOf.new _ vl vu vs) pl pu ps ?_ (by rw [List.size_toArray]; omega)
    have I6 := I5.laid (t' := s4.toks) (o := .tup xs.reverse) (fun b ob q => Heap.get?_push_of_some _ q) (Nat.le_refl _)
      ⟨by rw [List.length_reverse]; exact hz, _, r.reverse, IsTup.new _ _⟩
    exact ⟨.ref _, _, I6, rfl, q _ (I5.hok.fresh (Nat.le_refl _))⟩
end
end DL
end

section
set_option Elab.async false
set_option linter.all false
set_option autoImplicit false
set_option maxRecDepth 100000
/-! Dl8: methods of texts, subscripts, slices, f-strings. -/
namespace DL
open PySem PySem.Spec PyProof.Rows L2
variable {Ω : Om} {W : WX} {φ : Fx} {L L' : List Addr} {G G' H H' : Hp} {s : DS} {σ : St} {X : Cx}
variable {a b e : Expr} {ra rb : DS → Res D DS} {pos apos : Pos}

/-! ### subscripts -/
theorem atI_rp {vs : List V} {ds : List D} {i : Int} {z : D} (r : Rps Ω.w Ω.K G L vs ds) (h : L2.atI ds i = some z) : ∃ v, L2.atI vs i = some v ∧ Rp Ω.w Ω.K G L v z := by
  unfold L2.atI at h ⊢
  rw [r.length]
  cases q : ixN ds.length i with
  | none => rw [q] at h; cases h
  | some j =>
    rw [q] at h
    obtain ⟨v, h1, h2⟩ := r.at (i := j) h
    exact ⟨v, h1, h2⟩
theorem ix_dic {value slice : Expr} {pins : List (Addr × Obj)} {s : Shared} {σ : St} {H : Hp} {a : Addr} {kvs : List (Key × V)} {k : Key} {w : V} {u : Value} {Q : VK} (hu : X.A.units + 1 < cLine) (I : Inv X pins σ H s) (h : H a = some (.dK kvs)) (hw : valV kvs k = some w) (ry : RelV (kV k) u) (q : Q w H)
    (hs : subscripted slice false (.ref a) u = operate [.ref a, u] (getItem (.ref a) u)) : wpAny (model X.prog X.w) X.A (subscriptTail value slice (.ref a) u) (EP X pins σ Q) X.xe s := by
  have g : DGet H a (kV k) (some w) := by rw [← hw]; exact DGet.k h
  have hT : s.TypeIs (.ref a) "dict" := dict_typeIs I g
  unfold subscriptTail
  refine wpAny_bind ?_
  rw [getitemInPython_of_ne hT.not_modules]
  refine wpAny_bind (wpAny_specialOf hT PySem.F.slot_dict_getitem.lookup ?_)
  have fin : wpAny (model X.prog X.w) X.A (subscripted slice false (.ref a) u) (fun r s₃ => wpAny (model X.prog X.w) X.A (letTemporaryGo value (.ref a) r >>= fun _ => pure r) (EP X pins σ Q) X.xe s₃) X.xe s := by
    rw [hs]
    exact wpAny_operating (d_getItem hu I g ry fun w' s3 I3 rw' => wpAny_bind (wpAny_letTemporaryGo (wpAny_pure ⟨w, H, I3, rw', q⟩)))
  first
    | exact wpAny_pure (wpAny_bind fin)
    | exact wpAny_bind (wpAny_pure (wpAny_bind fin))
    | exact wpAny_bind fin
theorem ixD (hu : X.A.units + 65 < cLine) (hK : Ω.K = X.K) : IxR X (rD Ω W idxD) := by
  intro value slice pins sh σ0 H x y v u Q I rx ry h hs
  obtain ⟨φ, L, G, s, σ, d, e, R, hd, he, h⟩ := h
  have hx := deref_of hd R
  have hy := deref_of he R
  generalize deref s d = d' at h hx
  generalize deref s e = e' at h hy
  cases hg : idxD d' e' with
  | none => rw [hg] at h; exact h.elim
  | some z =>
    rw [hg] at h
    have hQ := gives R h
    have dic : ∀ {a : Addr} {kvs : List (Key × V)} {ds : List D}, x = .ref a → d' = .dic (KD kvs) ds → H a = some (.dK kvs) → Rps Ω.w Ω.K G L (VD kvs) ds → RpH Ω.w Ω.K G L H y e' → wpAny (model X.prog X.w) X.A (subscriptTail value slice v u) (EP X pins σ0 Q) X.xe sh := fun {a kvs ds} ex ed hA r hy => by
      subst ex ed
      have hg' : isKey e' = true ∧ lookD e' (KD kvs) ds = some z := by
        cases hk : isKey e' with
        | false => simp [idxD, hk] at hg
        | true => simpa [idxD, hk] using hg
      obtain ⟨k, rfl, rfl⟩ := key_RpH hy hg'.1
      obtain ⟨w, hw, rw'⟩ := look_KD r hg'.2
      cases rx
      exact ix_dic (by omega) I hA hw ry (hQ.1 _ rw') hs
    rcases hx with hx | hx
    · rcases hy with hy | hy
      · cases hy with
        | int i =>
          cases hx with
          | @dic a kvs ds hA r => exact dic rfl rfl hA r (.int i)
          | @tup a xs ds hA r =>
            obtain ⟨w, h1, h2⟩ := atI_rp r (show L2.atI ds i = some z from hg)
            rw [hK] at hA
            exact ix_tup value slice pins sh σ0 H _ _ v u Q I rx ry ⟨a, xs, i, w, rfl, rfl, R.sub.st hA, h1, hQ.1 _ h2⟩ hs
          | @lst a xs ds hA r =>
            obtain ⟨w, h1, h2⟩ := atI_rp r (show L2.atI ds i = some z from hg)
            rw [hK] at hA
            exact ix_list value slice pins sh σ0 H _ _ v u Q I rx ry ⟨a, xs, i, w, rfl, rfl, hA, h1, hQ.1 _ h2⟩ hs
          | str x =>
            simp only [idxD] at hg
            split at hg
            · rename_i hc
              obtain ⟨c, h1, rfl⟩ := Option.map_eq_some_iff.mp hg
              exact ix_str value slice pins sh σ0 H _ _ v u Q I rx ry ⟨x, i, c, rfl, rfl, by rw [str_len]; exact big_ok hc, h1, hQ.1 _ (rp_str (s := [c]))⟩ hs
            · cases hg
          | _ => simp [idxD] at hg
        | str y =>
          cases hx with
          | @dic a kvs ds hA r => exact dic rfl rfl hA r (.str y)
          | _ => simp [idxD] at hg
        | _ => cases hx <;> simp [idxD, isKey] at hg
      · cases e' <;> first | exact hy.elim | (cases hx <;> simp [idxD, isKey] at hg; done)
    · cases d' <;> first | exact hx.elim | (simp [idxD] at hg; done)
theorem r_idx (hu : X.A.units + 65 < cLine) (hK : Ω.K = X.K) (ha : PE X a (tE Ω W ra)) (hb : PE X b (tE Ω W rb)) (hs : PlainIx b) :
    PE X (.Subscript a b pos) (tE Ω W (fun s => (ra s).bind fun x s => (rb s).bind fun y s => .lift (idxD (deref s x) (deref s y)) s)) := PE.imp (pe_ix (ixD hu hK) ha hb hs) fun σ H Q h => tOp_of h

/-! ### slices -/
def tO (Ω : Om) (W : WX) (r : DS → Res (Option Int) DS) : TO := fun σ H Q => ∃ φ L G s, RelO Ω φ L G s σ H ∧ okE Ω W φ σ L G (r s) fun o _ _ _ H' => Q o H'
theorem noPart_of {Q : Option Int → Hp → Prop} (h : tO Ω W (fun s => .ok none s) σ H Q) : tNoPart σ H Q := by
  obtain ⟨φ, L, G, s, R, h⟩ := h
  exact okE.ok h R (List.prefix_refl _) (Ex.refl _)
theorem part_of {Q : Option Int → Hp → Prop} (h : tO Ω W (fun s => (ra s).bind fun x s => match x with
    | .int i => .ok (some i) s
    | _ => .stuck) σ H Q) : tPart (tE Ω W ra) σ H Q := by
  obtain ⟨φ, L, G, s, R, h⟩ := h
  refine ⟨φ, L, G, s, R, h.go fun d s1 L1 G1 H1 l1 e1 R1 h1 v hv => ?_⟩
  cases d with
  | int i =>
    rcases hv with hv | ⟨i, a, z, _⟩
    · cases hv
      exact ⟨i, rfl, okE.ok h1 R1 (List.prefix_refl _) (Ex.refl _)⟩
    · cases z
  | _ => exact h1.elim
theorem PO.imp {X : Cx} {e : Option Expr} {t u : TO} (h : PO X e t) (k : ∀ σ H Q, u σ H Q → t σ H Q) : PO X e u := ⟨fun pins s σ H Q I q => h.run pins s σ H Q I (k σ H Q q)⟩
def rSl (Ω : Om) (W : WX) : V → Option Int → Option Int → Hp → VK → Prop := fun x lo hi H Q => ∃ φ L G s σ d, RelO Ω φ L G s σ H ∧ RpT Ω.w Ω.K G L σ x d ∧
  okE Ω W φ σ L G (.lift (sliD (deref s d) lo hi) s) fun z _ L' G' H' => ∀ v, RpT Ω.w Ω.K G' L' σ v z → Q v H'
theorem cutL_rp {vs : List V} {ds : List D} {lo hi : Option Int} (r : Rps Ω.w Ω.K G L vs ds) : Rps Ω.w Ω.K G L (cutV vs lo hi) (cutL ds lo hi) := by
  unfold cutV cutL
  rw [r.length]
  exact (r.drop _).take _
theorem cutL_whole {ds : List D} {lo hi : Option Int} (h : HT.sIx ds.length 0 lo = 0 ∧ HT.sIx ds.length ds.length hi = ds.length) : cutL ds lo hi = ds := by
  unfold cutL
  rw [h.1, h.2]
  simp
theorem slD (hK : Ω.K = X.K) : SlR X (rSl Ω W) := by
  intro pins sh σ0 H x v vl vu lo hi sl Q I rx hs pl pu h
  obtain ⟨φ, L, G, s, σ, d, R, hd, h⟩ := h
  have hx := deref_of hd R
  generalize deref s d = d' at h hx
  cases hg : sliD d' lo hi with
  | none => rw [hg] at h; exact h.elim
  | some z =>
    rw [hg] at h
    have hQ := gives R h
    rcases hx with hx | hx
    · cases hx with
      | @tup a xs ds hA r =>
        cases hg
        have hA' := hA
        rw [hK] at hA'
        refine sl_tupA pins sh σ0 H _ v vl vu lo hi sl Q I rx hs pl pu ⟨a, xs, rfl, R.sub.st hA', fun hw => ?_, fun _ p hp => hQ.2 p _ _ hp (rp_newT hp R.sub (cutL_rp r))⟩
        rw [r.length] at hw
        have q := hQ.1
        rw [cutL_whole hw] at q
        exact q _ (.tup hA r)
      | @lst a xs ds hA r =>
        cases hg
        rw [hK] at hA
        exact sl_list pins sh σ0 H _ v vl vu lo hi sl Q I rx hs pl pu ⟨a, xs, rfl, hA, fun p hp => hQ.2 p _ _ hp (rp_new hp R.sub (cutL_rp r))⟩
      | str x =>
        simp only [sliD] at hg
        split at hg
        · rename_i hc
          cases hg
          refine sl_str pins sh σ0 H _ v vl vu lo hi sl Q I rx hs pl pu ⟨x, rfl, by rw [str_len]; exact big_ok hc, ?_⟩
          refine hQ.1 _ ?_
          have e : cutS x lo hi = ⟨(cutL x.cps.toList lo hi).toArray⟩ := by
            unfold cutS cutL
            rw [str_len]
          rw [e]
          exact rp_str
        · cases hg
      | _ => simp [sliD] at hg
    · cases d' <;> first | exact hx.elim | (simp [sliD] at hg; done)
theorem r_sli (hK : Ω.K = X.K) {lo hi : Option Expr} {p2 : Pos} {rl rh : DS → Res (Option Int) DS} (ha : PE X a (tE Ω W ra)) (hl : PO X lo (tO Ω W rl)) (hh : PO X hi (tO Ω W rh)) :
    PE X (.Subscript a (.Slice lo hi none p2) pos) (tE Ω W (fun s => (ra s).bind fun x s => (rl s).bind fun l s => (rh s).bind fun h s => .lift (sliD (deref s x) l h) s)) :=
  PE.imp (pe_slice (slD hK) ha hl hh) fun σ H Q h => by
    obtain ⟨φ, L, G, s, R, h⟩ := h
    exact ⟨φ, L, G, s, R, h.go fun d s1 L1 G1 H1 l1 e1 R1 h1 v hv => ⟨φ, L1, G1, s1, R1, h1.go fun o s2 L2 G2 H2 l2 e2 R2 h2 => ⟨φ, L2, G2, s2, R2, h2.go fun o2 s3 L3 G3 H3 l3 e3 R3 h3 =>
      ⟨φ, L3, G3, s3, σ, d, R3, (hv.mono e2 l2).mono e3 l3, h3⟩⟩⟩⟩
theorem r_rev (hK : Ω.K = X.K) {k : Nat} {p1 p2 p3 : Pos} (ha : PE X a (tE Ω W ra)) : PE X (.Subscript a (.Slice none none (some (.UnaryOp .USub (.Constant (.int 1) k p1) p2)) p3) pos) (tE Ω W (fun s => (ra s).bind fun x s => .lift (revD (deref s x)) s)) :=
  PE.imp (pe_back ha) fun σ H Q h => by
    obtain ⟨φ, L, G, s, R, h⟩ := h
    refine ⟨φ, L, G, s, R, h.go fun d s1 L1 G1 H1 l1 e1 R1 h1 v hv => ?_⟩
    have hd := deref_of hv R1
    generalize deref s1 d = d' at h1 hd
    rcases hd with hd | hd
    · cases hd with
      | @lst a xs ds hA r =>
        rw [hK] at hA
        exact ⟨a, xs, rfl, .inl ⟨hA, fun p hp => (gives R1 h1).2 p _ _ hp (rp_new hp R1.sub r.reverse)⟩⟩
      | @tup a xs ds hA r =>
        rw [hK] at hA
        exact ⟨a, xs, rfl, .inr ⟨R1.sub.st hA, fun p hp => (gives R1 h1).2 p _ _ hp (rp_newT hp R1.sub r.reverse)⟩⟩
      | _ => exact h1.elim
    · cases d' <;> first | exact hd.elim | exact h1.elim

/-! ### methods of texts -/
def rMe (Ω : Om) (W : WX) (m : Me) : V → List V → Hp → VK → Prop := fun x xs H Q => ∃ φ L G s σ z d v, RelO Ω φ L G s σ H ∧ x = .str (sv z) ∧ xs = [v] ∧ RpT Ω.w Ω.K G L σ v d ∧
  okE Ω W φ σ L G (.lift (meD m z (deref s d)) s) fun z _ L' G' H' => ∀ v, RpT Ω.w Ω.K G' L' σ v z → Q v H'
theorem sv_toList (x : Str) : sv x.cps.toList = x := by cases x; simp [sv]
theorem me_of {m : Me} {Q : VK} (h : tE Ω W (fun s => (ra s).bind fun x s => match x with
    | .str z => (rb s).bind fun y s => .lift (meD m z (deref s y)) s
    | _ => .stuck) σ H Q) : tM1 (rMe Ω W m) (tE Ω W ra) (tE Ω W rb) σ H Q := by
  obtain ⟨φ, L, G, s, R, h⟩ := h
  refine ⟨φ, L, G, s, R, h.go fun d s1 L1 G1 H1 l1 e1 R1 h1 v hv => ?_⟩
  cases d with
  | str z =>
    have hv' : v = .str (sv z) := by
      rcases hv with hv | ⟨i, a, q, _⟩
      · cases hv; rw [sv_toList]
      · cases q
    subst hv'
    exact ⟨⟨_, rfl⟩, φ, L1, G1, s1, R1, h1.go fun d s2 L2 G2 H2 l2 e2 R2 h2 u hu => ⟨φ, L2, G2, s2, σ, z, d, u, R2, rfl, rfl, hu, h2⟩⟩
  | _ => exact h1.elim
def meId : Me → String
  | .partition => "str.partition" | .startswith => "str.startswith" | .join => "str.join" | .split => "str.split" | .find => "str.find"
def meName : Me → Str
  | .partition => "partition" | .startswith => "startswith" | .join => "join" | .split => "split" | .find => "find"
theorem meSlot (m : Me) : Slot "str" (meName m) (meId m) := by
  cases m
  · exact F.slot_str_partition
  · exact F.slot_str_startswith
  · exact F.slot_str_join
  · exact F.slot_str_split
  · exact F.slot_str_find
theorem meType (m : Me) : typeOf (.builtin (meId m)) = pure (.type "method_descriptor") := by
  cases m
  · exact F.type_str_partition
  · exact F.type_str_startswith
  · exact F.type_str_join
  · exact F.type_str_split
  · exact F.type_str_find
theorem strs_of : ∀ {vs : List V} {ds : List D} {zs : List (List Nat)}, Rps Ω.w Ω.K G L vs ds → strsD ds = some zs → vs = (zs.map sv).map V.str
  | _, _, _, .nil, h => by cases h; rfl
  | _, _, _, .cons (v := v) (d := d) h r, hb => by
    cases h with
    | str b =>
      simp only [strsD, Option.map_eq_some_iff] at hb
      obtain ⟨bs', h1, rfl⟩ := hb
      rw [List.map_cons, List.map_cons, strs_of r h1, sv_toList]
    | _ => simp [strsD] at hb
theorem sv_len (z : List Nat) : (sv z).length = z.length := by simp [sv, Str.length]
theorem rp_ofS (x : Str) : Rp Ω.w Ω.K G L (.str x) (ofS x) := .str x
theorem mtD (hK : Ω.K = X.K) (m : Me) : MtR X (meId m) (rMe Ω W m) := by
  intro pins sh σ0 H x xs v us Q I rx rs h
  obtain ⟨φ, L, G, s, σ, z, d, t, R, rfl, rfl, hd, h⟩ := h
  have hy := deref_of hd R
  generalize deref s d = d' at h hy
  cases hg : meD m z d' with
  | none => rw [hg] at h; exact h.elim
  | some o =>
    rw [hg] at h
    have hQ := gives R h
    have join : ∀ {a : Addr} {vs : List V} {ds : List D}, m = .join → Rps Ω.w Ω.K G L vs ds → (SqL X.K H a vs ∨ SqT X.K H a vs) → t = .ref a → ((strsD ds).bind fun zs => if joinOk z zs then some (D.str (joinS z zs)) else none) = some o →
        wpAny (model X.prog X.w) X.A (call (.builtin (meId m)) (v :: us)) (EP X pins σ0 Q) X.xe sh := fun {a vs ds} em r hS et hj => by
      subst em et
      obtain ⟨zs, h1, h2⟩ := Option.bind_eq_some_iff.mp hj
      split at h2
      · rename_i hc
        cases h2
        have hc' : (zs.map (·.length)).sum + zs.length * z.length ≤ big := of_decide_eq_true hc
        have ev := strs_of r h1
        subst ev
        refine mt_join pins sh σ0 H _ _ v us Q I rx rs ⟨sv z, a, zs.map sv, rfl, rfl, hS, ?_, ?_⟩
        · rw [List.length_map, List.map_map, sv_len]
          have e : (Str.length ∘ sv) = (fun y : List Nat => y.length) := by funext y; exact sv_len y
          rw [e]
          exact big_ok hc'
        · refine hQ.1 _ ?_
          unfold joinS
          exact .str _
      · cases h2
    rcases hy with hy | hy
    · cases hy with
      | str y =>
        cases m with
        | partition =>
          simp only [meD] at hg
          split at hg
          · cases hg
          · rename_i hc
            have hc' : y.cps.toList.isEmpty = false ∧ ¬ big < z.length := by simpa using hc
            cases hg
            rw [sv_toList] at hQ
            refine mt_partition pins sh σ0 H _ _ v us Q I rx rs ⟨sv z, y, rfl, rfl, ?_, by rw [sv_len]; exact big_ok (by omega), fun p hp => ?_⟩
            · rw [str_len]
              cases q : y.cps.toList with
              | nil => rw [q] at hc'; simp at hc'
              | cons => simp
            · exact hQ.2 p _ _ hp (rp_newT hp R.sub (.cons (rp_ofS _) (.cons (rp_ofS _) (.cons (rp_ofS _) .nil))))
        | startswith =>
          cases hg
          rw [sv_toList] at hQ
          exact mt_startswith pins sh σ0 H _ _ v us Q I rx rs ⟨sv z, y, rfl, rfl, hQ.1 _ (.bl _)⟩
        | find =>
          cases hg
          rw [sv_toList] at hQ
          exact mt_find pins sh σ0 H _ _ v us Q I rx rs ⟨sv z, y, rfl, rfl, hQ.1 _ (.int _)⟩
        | split =>
          simp only [meD] at hg
          split at hg
          · cases hg
          · rename_i hc
            have hc' : y.cps.toList.isEmpty = false ∧ ¬ big < z.length := by simpa using hc
            cases hg
            rw [sv_toList] at hQ
            refine mt_split pins sh σ0 H _ _ v us Q I rx rs ⟨sv z, y, rfl, rfl, ?_, ?_, fun p hp => ?_⟩
            · rw [str_len]
              cases q : y.cps.toList with
              | nil => rw [q] at hc'; simp at hc'
              | cons => simp
            · rw [sv_len]
              have := hc'.2
              have h1 : big = 1000000 := rfl
              have h2 : sizeLine = 16777216 := by decide
              omega
            · refine hQ.2 p _ _ hp (rp_new hp R.sub ?_)
              have : ∀ ys : List Str, Rps Ω.w Ω.K G L (ys.map V.str) (ys.map ofS) := fun ys => by
                induction ys with
                | nil => exact .nil
                | cons y ys ih => exact .cons (rp_ofS y) ih
              exact this _
        | join => simp [meD] at hg
      | @tup a vs ds hA r =>
        cases m with
        | join => rw [hK] at hA; exact join rfl r (.inr (R.sub.st hA)) rfl hg
        | _ => simp [meD] at hg
      | @lst a vs ds hA r =>
        cases m with
        | join => rw [hK] at hA; exact join rfl r (.inl hA) rfl hg
        | _ => simp [meD] at hg
      | _ => cases m <;> simp [meD] at hg
    · cases d' <;> first | exact hy.elim | (cases m <;> simp [meD] at hg; done)
theorem r_me (hK : Ω.K = X.K) {m : Me} (ha : PE X a (tE Ω W ra)) (hb : PE X b (tE Ω W rb)) (hs : starEach [b] X.env = [(false, eval b X.env)]) (hbase : attributeBase a (meName m) X.env (eval a X.env) = eval a X.env) (hline : (apos.endLine == pos.line) = true) :
    PE X (.Call (.Attribute a (meName m) apos) [b] [] pos) (tE Ω W (fun s => (ra s).bind fun x s => match x with
      | .str z => (rb s).bind fun y s => .lift (meD m z (deref s y)) s
      | _ => .stuck)) := PE.imp (pe_m1 (meSlot m) (meType m) (mtD hK m) ha hb hs hbase hline) fun σ H Q h => me_of h
end DL
end

section
set_option Elab.async false
set_option linter.all false
set_option autoImplicit false
set_option maxRecDepth 100000
/-! Dl9: targets, what is walked, list comprehensions. -/
namespace DL
open PySem L2
variable {Ω : Om} {W : WX} {φ : Fx} {L L' : List Addr} {G G' H H' : Hp} {s : DS} {σ : St} {X : Cx}

/-! ### targets -/
mutual
/-- the slots of a target -/
def tIx : CT → List Nat
  | .nm i => [i]
  | .tp ts => tIxs ts
def tIxs : List CT → List Nat
  | [] => []
  | t :: ts => tIx t ++ tIxs ts
end
/-- alike but at some slots -/
structure Alike (is : List Nat) (σ σ' : St) : Prop where
  len : σ'.length = σ.length
  at_ : ∀ j, j ∉ is → σ'[j]? = σ[j]?
theorem Alike.refl (is : List Nat) (σ : St) : Alike is σ σ := ⟨rfl, fun _ _ => rfl⟩
theorem Alike.trans {is js : List Nat} {σ σ1 σ2 : St} (a : Alike is σ σ1) (b : Alike js σ1 σ2) : Alike (is ++ js) σ σ2 :=
  ⟨b.len.trans a.len, fun j h => by
    rw [List.mem_append] at h
    exact (b.at_ j fun q => h (.inr q)).trans (a.at_ j fun q => h (.inl q))⟩
theorem Alike.set {i : Nat} {v : Option V} : Alike [i] σ (σ.set i v) := ⟨List.length_set, fun j h => by
  rw [List.getElem?_set_ne]
  intro e
  exact h (by simp [e])⟩
def tGt (Ω : Om) (t : CT) : TG := fun v σ H Q => ∃ φ L G s d s', RelO Ω φ L G s σ H ∧ Rp Ω.w Ω.K G L v d ∧ putT t d s = some s' ∧ ∀ σ', Alike (tIx t) σ σ' → RelO Ω φ L G s' σ' H → Q σ' H
def tGts (Ω : Om) (ts : List CT) : TGs := fun vs σ H Q => ∃ φ L G s ds s', RelO Ω φ L G s σ H ∧ Rps Ω.w Ω.K G L vs ds ∧ putTs ts ds s = some s' ∧ ∀ σ', Alike (tIxs ts) σ σ' → RelO Ω φ L G s' σ' H → Q σ' H
theorem PG.imp {X : Cx} {e : Expr} {t u : TG} (h : PG X e t) (k : ∀ v σ H Q, u v σ H Q → t v σ H Q) : PG X e u := ⟨fun pins s σ H v w Q I r q => h.run pins s σ H v w Q I r (k v σ H Q q)⟩
theorem PGs.imp {X : Cx} {es : List Expr} {t u : TGs} (h : PGs X es t) (k : ∀ v σ H Q, u v σ H Q → t v σ H Q) : PGs X es u := ⟨fun pins s σ H v w Q I r q => h.run pins s σ H v w Q I r (k v σ H Q q)⟩
theorem g_name {i : Nat} {x : Str} {pos : Pos} (hN : X.N.Nodup) (hi : X.N[i]? = some x) (hx : Loc X.env.scope x) (hf : X.fn x = true ∨ X.env.scope.names.lookup x = some .local) : PG X (.Name x pos) (tGt Ω (.nm i)) :=
  PG.imp (pg_name hN hi hx hf) fun v σ H Q h => by
    obtain ⟨φ, L, G, s, d, s', R, r, e, q⟩ := h
    cases e
    exact q _ Alike.set (R.put r)
theorem g_nil : PGs X [] (tGts Ω []) := PGs.imp pgs_nil fun v σ H Q h => by
  obtain ⟨φ, L, G, s, ds, s', R, r, e, q⟩ := h
  cases r with
  | nil => cases e; exact ⟨rfl, q _ (Alike.refl _ _) R⟩
  | cons => simp [putTs] at e
theorem g_cons {e : Expr} {es : List Expr} {t : CT} {ts : List CT} (h1 : PG X e (tGt Ω t)) (h2 : PGs X es (tGts Ω ts)) (hs : (assignEach (e :: es) X.env).map (·.2) = assign e X.env :: (assignEach es X.env).map (·.2)) : PGs X (e :: es) (tGts Ω (t :: ts)) :=
  PGs.imp (pgs_cons h1 h2 hs) fun v σ H Q h => by
    obtain ⟨φ, L, G, s, ds, s', R, r, e, q⟩ := h
    cases r with
    | nil => simp [putTs] at e
    | @cons v vs d ds hv hvs =>
      simp only [putTs, Option.bind_eq_some_iff] at e
      obtain ⟨s1, e1, e2⟩ := e
      exact ⟨v, vs, rfl, φ, L, G, s, d, s1, R, hv, e1, fun σ1 a1 R1 => ⟨φ, L, G, s1, ds, s', R1, hvs, e2, fun σ2 a2 R2 => q σ2 (by simpa [tIxs] using a1.trans a2) R2⟩⟩
theorem g_tup (hK : Ω.K = X.K) {es : List Expr} {ts : List CT} {k n : Nat} {pos : Pos} (hc : X.calm = true) (h : PGs X es (tGts Ω ts)) (hn : (assignEach es X.env).length = n) (hst : (assignEach es X.env).findIdx? (·.1) = none) (hl : ts.length = n) :
    PG X (.Tuple es k pos) (tGt Ω (.tp ts)) := by
  refine PG.imp (t := fun v σ H Q => gTup X.K n (tGts Ω ts) v σ H Q ∨ gLst X.K n (tGts Ω ts) v σ H Q) ⟨fun pins s σ H v u Q I r q => ?_⟩ fun v σ H Q h => ?_
  · rcases q with q | q
    · exact (pg_tup hc h hn hst).run pins s σ H v u Q I r q
    · exact (pg_lst hc h hn hst).run pins s σ H v u Q I r q
  · obtain ⟨φ, L, G, s, d, s', R, r, e, q⟩ := h
    have len : ∀ {ts : List CT} {ds : List D} {s s' : DS}, putTs ts ds s = some s' → ds.length = ts.length := fun {ts} => by
      induction ts with
      | nil => intro ds s s' e; cases ds with
        | nil => rfl
        | cons => simp [putTs] at e
      | cons t ts ih => intro ds s s' e; cases ds with
        | nil => simp [putTs] at e
        | cons d ds =>
          simp only [putTs, Option.bind_eq_some_iff] at e
          obtain ⟨s1, _, e2⟩ := e
          simp [ih e2]
    cases r with
    | @tup a xs ds hA r =>
      simp only [putT] at e
      rw [hK] at hA
      exact .inl ⟨a, xs, rfl, R.sub.st hA, by rw [r.length, len e, hl], φ, L, G, s, ds, s', R, r, e, q⟩
    | @lst a xs ds hA r =>
      simp only [putT] at e
      rw [hK] at hA
      exact .inr ⟨a, xs, rfl, R.sub.sl hA, by rw [r.length, len e, hl], φ, L, G, s, ds, s', R, r, e, q⟩
    | _ => simp [putT] at e

/-! ### what is walked -/
/-- a turn's item: it stands already, or in a new object -/
def Yl (Ω : Om) (G : Hp) (L : List Addr) (H : Hp) (x : V) (d : D) (H2 : Hp) : Prop := (H2 = H ∧ Rp Ω.w Ω.K G L x d) ∨ ∃ p o, H p = none ∧ H2 = upd H p o ∧ Rp Ω.w Ω.K (upd G p o) L x d
/-- the walk J gives the items ds, wherever the frozen part is at least G -/
structure ItD (Ω : Om) (G : Hp) (L : List Addr) (J : It) (ds : List D) : Prop where
  go : ∀ (G' : Hp) (L' : List Addr) (H' : Hp), Ex G G' → Pre L L' → Ex G' H' → ∀ (i : Nat) (d : D), ds[i]? = some d → J.go i H' ∧ ∀ x H2, J.yld i H' x H2 → Yl Ω G' L' H' x d H2
  stop : ∀ (G' H' : Hp), Ex G G' → Ex G' H' → ∀ i, ds.length ≤ i → J.stop i H'
def tI (Ω : Om) (W : WX) (r : DS → Res (List D) DS) : TI := fun σ H R => ∃ φ L G s, RelO Ω φ L G s σ H ∧ okE Ω W φ σ L G (r s) fun ds _ L' G' H' => ∀ J, ItD Ω G' L' J ds → R J H'
theorem PI.imp {X : Cx} {tg e : Expr} {t u : TI} (h : PI X tg e t) (k : ∀ σ H R, u σ H R → t σ H R) : PI X tg e u := ⟨fun pins s σ H R I q => h.run pins s σ H R I (k σ H R q)⟩
theorem itd_list {a : Addr} {vs : List V} {ds : List D} (h : SqL Ω.K G a vs) (r : Rps Ω.w Ω.K G L vs ds) : ItD Ω G L (Itl Ω.K a) ds where
  go := fun G' L' H' e l e' i d hd => by
    obtain ⟨v, hv, rv⟩ := r.at hd
    have hq := e'.sl (e.sl h)
    exact ⟨⟨vs, v, hq, hv⟩, fun x H2 y => .inl ⟨y.1, by
      have := (y.2 vs hq).symm.trans hv
      cases this
      exact rv.mono e l⟩⟩
  stop := fun G' H' e e' i hi => ⟨vs, e'.sl (e.sl h), by rw [r.length]; exact hi⟩
theorem itd_tup {a : Addr} {vs : List V} {ds : List D} (h : SqT Ω.K G a vs) (r : Rps Ω.w Ω.K G L vs ds) : ItD Ω G L (Itt Ω.K a) ds where
  go := fun G' L' H' e l e' i d hd => by
    obtain ⟨v, hv, rv⟩ := r.at hd
    have hq := e'.st (e.st h)
    exact ⟨⟨vs, v, hq, hv⟩, fun x H2 y => .inl ⟨y.1, by
      have := (y.2 vs hq).symm.trans hv
      cases this
      exact rv.mono e l⟩⟩
  stop := fun G' H' e e' i hi => ⟨vs, e'.st (e.st h), by rw [r.length]; exact hi⟩
theorem itd_str {x : Str} : ItD Ω G L (Its x) (x.cps.toList.map fun c => .str [c]) where
  go := fun G' L' H' e l e' i d hd => by
    rw [List.getElem?_map, Option.map_eq_some_iff] at hd
    obtain ⟨c, hc, rfl⟩ := hd
    have hi : i < x.cps.size := by simpa using (List.getElem?_eq_some_iff.mp hc).1
    refine ⟨hi, fun y H2 z => .inl ⟨z.1, ?_⟩⟩
    obtain ⟨_, c', h1, rfl⟩ := z
    have : c' = c := by
      have h2 : x.cps.toList[i]? = x.cps[i]? := by simp
      rw [h2, h1] at hc
      exact Option.some.inj hc
    subst this
    exact rp_str (s := [c'])
  stop := fun G' H' e e' i hi => by
    show x.cps.size ≤ i
    simpa using hi
theorem itd_rng {lo n : Int} : ItD Ω G L (Itr lo (n - lo).toNat) (rngD lo n) where
  go := fun G' L' H' e l e' i d hd => by
    unfold rngD at hd
    rw [List.getElem?_map, Option.map_eq_some_iff] at hd
    obtain ⟨k, hk, rfl⟩ := hd
    obtain ⟨h1, h2⟩ := List.getElem?_eq_some_iff.mp hk
    rw [List.length_range] at h1
    rw [List.getElem_range] at h2
    subst h2
    exact ⟨h1, fun x H2 z => .inl ⟨z.1, by rw [z.2]; exact .int _⟩⟩
  stop := fun G' H' e e' i hi => by
    show (n - lo).toNat ≤ i
    unfold rngD at hi
    simpa using hi
/-- a list, a tuple, a text as it comes -/
def iSeq (K : PySem.W.Frag) (te : TE) : TI := fun σ H R => te σ H fun x H1 => (∃ a, x = .ref a ∧ ((∃ xs, SqL K H1 a xs) ∧ R (Itl K a) H1 ∨ (∃ xs, SqT K H1 a xs) ∧ R (Itt K a) H1)) ∨ ∃ z, x = .str z ∧ R (Its z) H1
theorem pi_seq {tg e : Expr} {te : TE} (he : PE X e te) : PI X tg e (iSeq X.K te) := by
  refine ⟨fun pins s σ H R I h => ?_⟩
  refine thn (he.run pins s σ H _ I h) fun v s1 ⟨x, H1, I1, r1, q1⟩ => ?_
  rcases q1 with ⟨a, rfl, q | q⟩ | ⟨z, rfl, q⟩
  · obtain ⟨⟨xs, hq⟩, q⟩ := q
    cases r1
    obtain ⟨its, rv, p, hz⟩ := I1.list hq
    refine wpAny_pyIter_list p.isList ?_
    refine ⟨s1.heap.objs.size, [s1.heap.objs.size], _, _, H1, rfl, I1.kept (t' := s1.toks) fun b o e => Heap.get?_push_of_some _ e, turn_list a _, ⟨_, Heap.get?_push_size _ rfl, rfl, rfl⟩, fun b hb => ?_, q⟩
    have e : b = s1.heap.objs.size := by simpa using hb
    subst e
    exact I1.fpOk (Nat.le_refl _) (I1.hok.fresh (Nat.le_refl _))
  · obtain ⟨⟨xs, hq⟩, q⟩ := q
    cases r1
    obtain ⟨its, rv, p, hz⟩ := I1.tuple hq
    refine wpAny_pyIter_tuple (show s1.heap.IsTuple a its.toArray from p) ?_
    refine ⟨s1.heap.objs.size, [s1.heap.objs.size], _, _, H1, rfl, I1.kept (t' := s1.toks) fun b o e => Heap.get?_push_of_some _ e, turn_tuple a _, ⟨_, Heap.get?_push_size _ rfl, rfl, rfl⟩, fun b hb => ?_, q⟩
    have e : b = s1.heap.objs.size := by simpa using hb
    subst e
    exact I1.fpOk (Nat.le_refl _) (I1.hok.fresh (Nat.le_refl _))
  · obtain ⟨t, rfl⟩ := r1
    cases ha : z.cps.all (· < 128)
    · exact wpAny_pyIter_wide ha (pi_one (tk := s1.toks) I1 _ (turn_str _ z t "str_iterator" (.inr rfl)) ⟨_, Heap.get?_push_size _ rfl, rfl, rfl⟩ q)
    · exact wpAny_pyIter_ascii ha (pi_one (tk := s1.toks) I1 _ (turn_str _ z t "str_ascii_iterator" (.inl rfl)) ⟨_, Heap.get?_push_size _ rfl, rfl, rfl⟩ q)
end DL
end

section
set_option Elab.async false
set_option linter.all false
set_option autoImplicit false
set_option maxRecDepth 100000
/-! Dl10: list comprehensions. -/
namespace DL
open PySem L2
variable {Ω : Om} {W : WX} {φ : Fx} {L L' : List Addr} {G G' H H' : Hp} {s : DS} {σ : St} {X : Cx}

/-- nothing is let out -/
def WF : WX := fun _ _ _ _ => False
theorem tIxs_sub {t : CT} {ts : List CT} {vs : List Nat} (h : ∀ i ∈ tIxs (t :: ts), i ∈ vs) : (∀ i ∈ tIx t, i ∈ vs) ∧ ∀ i ∈ tIxs ts, i ∈ vs :=
  ⟨fun i hi => h i (by simp [tIxs, hi]), fun i hi => h i (by simp [tIxs, hi])⟩
theorem wipeS_len : ∀ (vs : List Nat) (sl : List Sl), (DL.wipe sl vs).length = sl.length
  | [], _ => rfl
  | i :: vs, sl => by unfold DL.wipe; rw [wipeS_len vs]; simp
theorem wipeS_get {x : Sl} {j : Nat} : ∀ {vs : List Nat} {sl : List Sl}, (DL.wipe sl vs)[j]? = some x → x = .none ∨ (j ∉ vs ∧ sl[j]? = some x)
  | [], _, h => .inr ⟨by simp, h⟩
  | i :: vs, sl, h => by
    unfold DL.wipe at h
    rcases wipeS_get h with e | ⟨e1, e2⟩
    · exact .inl e
    · by_cases q : i = j
      · subst q
        rw [List.getElem?_set_self'] at e2
        cases z : sl[i]? with
        | none => rw [z] at e2; simp at e2
        | some y => rw [z] at e2; left; simpa using e2.symm
      · rw [List.getElem?_set_ne q] at e2
        exact .inr ⟨by simp only [List.mem_cons, not_or]; exact ⟨fun e => q e.symm, e1⟩, e2⟩
theorem own_wipe {vs : List Nat} {sl : List Sl} {σ σ' : St} {i : Nat} {a : Addr} (ha : ∀ j, j ∉ vs → σ'[j]? = σ[j]?) (h : OwnA σ' (DL.wipe sl vs) i a) : OwnA σ sl i a ∧ i ∉ vs := by
  obtain ⟨⟨m, h1⟩, h2⟩ := h
  rcases wipeS_get h1 with e | ⟨e1, e2⟩
  · cases e
  · exact ⟨⟨⟨m, e2⟩, (ha i e1).symm.trans h2⟩, e1⟩
/-- some slots are forgotten; the values there are anything -/
theorem Rel.wipe (R : RelO Ω φ L G s σ H) {σ' : St} {vs : List Nat} (hl : σ'.length = σ.length) (ha : ∀ j, j ∉ vs → σ'[j]? = σ[j]?) : RelO Ω φ L G { s with sl := DL.wipe s.sl vs } σ' H :=
  { R with
    len := by rw [hl, ← R.len]; exact wipeS_len _ _
    val := fun i d h => by
      rcases wipeS_get h with e | ⟨e1, e2⟩
      · cases e
      · rw [ha i e1]; exact R.val i d e2
    own := fun i m h => by
      rcases wipeS_get h with e | ⟨e1, e2⟩
      · cases e
      · rw [ha i e1]; exact R.own i m e2
    inj := fun i j a h1 h2 => R.inj i j a (own_wipe ha h1).1 (own_wipe ha h2).1
    frm := fun a o h => ⟨(R.frm a o h).1, (R.frm a o h).2.1, (R.frm a o h).2.2.1, fun i q => (R.frm a o h).2.2.2 i (own_wipe ha q).1⟩
    exc := fun i c as h => by
      rcases wipeS_get h with e | ⟨e1, e2⟩
      · cases e
      · rw [ha i e1]; exact R.exc i c as e2 }
/-- the list being made is kept from the block's deeds -/
theorem Rel.prot (R : RelO Ω φ L G s σ H) {D : Addr} {o : HO} (hf : φ.FR D = none) (hD : H D = some o) (hg : G D = none) (hl : D ∉ L) (ho : ∀ i, ¬ OwnA σ s.sl i D) : RelO Ω { φ with FR := upd φ.FR D o } L G s σ H :=
  { R with
    frm := fun a u h => by
      by_cases e : a = D
      · subst e
        have h : upd φ.FR a o a = some u := h
        rw [upd_same] at h
        cases h
        exact ⟨hD, hg, hl, ho⟩
      · have h : upd φ.FR D o a = some u := h
        rw [upd_ne e] at h
        exact R.frm a u h
    fr0 := fun a u h => by
      have q := R.fr0 a u h
      have ne : a ≠ D := fun e => by rw [e, hf] at q; cases q
      show upd φ.FR D o a = some u
      rw [upd_ne ne]
      exact q }
/-- .. and changed by the block alone -/
theorem Rel.unprot {D : Addr} {o o' : HO} (R : RelO Ω { φ with FR := upd φ.FR D o } L G s σ H) (hf : φ.FR D = none) (hB : ∀ a u, Ω.B.fr a = some u → φ.FR a = some u) : (H D = some o ∧ G D = none ∧ D ∉ L ∧ ∀ i, ¬ OwnA σ s.sl i D) ∧ RelO Ω φ L G s σ (upd H D o') := by
  have hD := R.frm D o (show upd φ.FR D o D = some o from upd_same)
  have keep : ∀ a, a ≠ D → ∀ u, H a = some u → upd H D o' a = some u := fun a ne u h => by rw [upd_ne ne]; exact h
  refine ⟨hD, { R with
    sub := fun a u h => ?_
    own := fun i m h => ?_
    sto := fun n m a h1 h2 => ?_
    frm := fun a u h => ?_
    fr0 := hB }⟩
  · have ne : a ≠ D := fun e => by rw [e, hD.2.1] at h; cases h
    exact keep a ne u (R.sub a u h)
  · obtain ⟨a, e1, e2, e3, e4⟩ := R.own i m h
    have ne : a ≠ D := fun e => hD.2.2.2 i ⟨⟨m, h⟩, by rw [← e]; exact e1⟩
    exact ⟨a, e1, e2, e3, e4.mono (Ex.refl _) (List.prefix_refl _) (keep a ne)⟩
  · have ne : a ≠ D := fun e => hD.2.2.1 (by rw [← e]; exact List.mem_of_getElem? h2)
    exact ⟨(R.sto n m a h1 h2).1, (R.sto n m a h1 h2).2.mono (Ex.refl _) (List.prefix_refl _) (keep a ne)⟩
  · have ne : a ≠ D := fun e => by rw [e, hf] at h; cases h
    have q := R.frm a u (show upd φ.FR D o a = some u by rw [upd_ne ne]; exact h)
    exact ⟨keep a ne u q.1, q.2⟩
theorem Rel.unprot' {D : Addr} {o : HO} (R : RelO Ω { φ with FR := upd φ.FR D o } L G s σ H) (hf : φ.FR D = none) (hB : ∀ a u, Ω.B.fr a = some u → φ.FR a = some u) : (H D = some o ∧ G D = none ∧ D ∉ L ∧ ∀ i, ¬ OwnA σ s.sl i D) ∧ RelO Ω φ L G s σ H := by
  have q := Rel.unprot (o' := o) R hf hB
  have e : upd H D o = H := by
    funext a
    by_cases h : a = D
    · subst h; rw [upd_same, q.1.1]
    · rw [upd_ne h]
  rw [e] at q
  exact q
theorem wipe_at {vs : List Nat} {i : Nat} : ∀ {σ : St}, i ∈ vs → i < σ.length → (L2.wipe σ vs)[i]? = some none := by
  induction vs with
  | nil => intro σ h; cases h
  | cons v vs ih =>
    intro σ h hl
    unfold L2.wipe
    by_cases e : v = i
    · subst e
      rw [List.getElem?_set_self (by rw [wipe_length]; exact hl)]
    · rw [List.getElem?_set_ne e]
      rcases List.mem_cons.mp h with q | q
      · exact (e q.symm).elim
      · exact ih q hl
theorem wipe_alike {is vs : List Nat} {σ σ' : St} (h : Alike is (L2.wipe σ vs) σ') (hs : ∀ i ∈ is, i ∈ vs) : L2.wipe σ' vs = L2.wipe σ vs := by
  have hl : σ'.length = σ.length := h.len.trans (wipe_length σ vs)
  apply List.ext_getElem?
  intro j
  by_cases q : j ∈ vs
  · by_cases z : j < σ.length
    · rw [wipe_at q z, wipe_at q (by omega)]
    · rw [List.getElem?_eq_none (by rw [wipe_length]; omega), List.getElem?_eq_none (by rw [wipe_length]; omega)]
  · rw [wipe_out q, h.at_ j fun e => q (hs j e)]
theorem noX_ok_of {α β : Type} {r : Res α DS} {f : α → DS → Res β DS} {P : β → DS → List Addr → Hp → Hp → Prop} (h : okE Ω W φ σ L G ((noX r).bind f) P) : ∃ d s', r = .ok d s' ∧ okE Ω W φ σ L G (f d s') P := by
  cases r with
  | ok d s' => exact ⟨d, s', rfl, h⟩
  | exc c as s' => exact h.elim
  | stuck => exact h.elim
theorem wipeS_at {vs : List Nat} {i : Nat} : ∀ {sl : List Sl}, i ∈ vs → i < sl.length → (DL.wipe sl vs)[i]? = some .none := by
  induction vs with
  | nil => intro sl h; cases h
  | cons v vs ih =>
    intro sl h hl
    unfold DL.wipe
    by_cases q : i ∈ vs
    · exact ih q (by simpa using hl)
    · have e : i = v := (List.mem_cons.mp h).resolve_right q
      subst e
      have hl' : i < (DL.wipe (sl.set i .none) vs).length := by rw [wipeS_len]; simpa using hl
      rw [List.getElem?_eq_getElem hl']
      rcases wipeS_get (List.getElem?_eq_getElem hl') with z | ⟨_, z⟩
      · rw [z]
      · rw [List.getElem?_set_self hl] at z
        rw [← z]
theorem wipeS_out {vs : List Nat} {i : Nat} : ∀ {sl : List Sl}, i ∉ vs → (DL.wipe sl vs)[i]? = sl[i]? := by
  induction vs with
  | nil => intro sl _; rfl
  | cons v vs ih =>
    intro sl h
    unfold DL.wipe
    rw [ih fun e => h (List.mem_cons_of_mem _ e), List.getElem?_set_ne fun e => h (by rw [← e]; exact List.mem_cons_self)]
theorem wipeS_two (sl : List Sl) (vs : List Nat) : DL.wipe (DL.wipe sl vs) vs = DL.wipe sl vs := by
  apply List.ext_getElem?
  intro j
  by_cases q : j ∈ vs
  · by_cases z : j < sl.length
    · rw [wipeS_at q (by rw [wipeS_len]; exact z), wipeS_at q z]
    · rw [List.getElem?_eq_none (by rw [wipeS_len, wipeS_len]; omega), List.getElem?_eq_none (by rw [wipeS_len]; omega)]
  · rw [wipeS_out q]
/-- what the turns of a comprehension leave -/
def LcI (Ω : Om) (W : WX) (φ : Fx) (vs : List Nat) (σ : St) (L1 : List Addr) (G1 : Hp) (A : Addr) (Q : List D → DS → List Addr → Hp → Hp → Prop) (t : CT) (rc : DS → Res Bool DS) (re : DS → Res D DS) (ds : List D) (i : Nat) (H : Hp) : Prop :=
  ∃ (L : List Addr) (G : Hp) (s : DS) (acc : List V) (ws : List D), Pre L1 L ∧ Ex G1 G ∧ RelO Ω φ L G { s with sl := DL.wipe s.sl vs } (L2.wipe σ vs) H ∧ H A = some (.lst acc) ∧ Rps Ω.w Ω.K G L acc ws ∧ acc.length ≤ i ∧
    G A = none ∧ A ∉ L ∧ (∀ j, ¬ OwnA (L2.wipe σ vs) (DL.wipe s.sl vs) j A) ∧ okE Ω W φ σ L G (lcL vs t rc re (ds.drop i) s) fun us s L' G' H' => Q (ws ++ us) s L' G' H'
theorem tLc_gen {ri : DS → Res (List D) DS} {rc : DS → Res Bool DS} {re : DS → Res D DS} {t : CT} {vs : List Nat} {Q : VK} (hvs : ∀ i ∈ tIx t, i ∈ vs) {P : Fx → D → DS → List Addr → Hp → Hp → Prop}
    (h : ∃ φ L G s, RelO Ω φ L G s σ H ∧ okE Ω W φ σ L G ((ri s).bind fun ds s => if ds.length ≤ big then (lcL vs t rc re ds s).bind fun ws s => .ok (.lst ws) s else .stuck) (P φ))
    (fin : ∀ (φ : Fx) (L : List Addr) (G : Hp) (s : DS) (H : Hp) (A : Addr) (acc : List V) (ws : List D), RelO Ω φ L G s σ H → H A = some (.lst acc) → G A = none → A ∉ L → (∀ i, ¬ OwnA σ s.sl i A) → φ.FR A = none → Rps Ω.w Ω.K G L acc ws → okE Ω W φ σ L G (.ok (.lst ws) s) (P φ) → Q (.ref A) H) :
    tLc (tI Ω W ri) (tGt Ω t) (tT Ω WF rc) (tE Ω WF re) vs σ H Q := by
  obtain ⟨φ, L, G, s, R, h⟩ := h
  refine ⟨φ, L, G, s, R, h.go fun ds s1 L1 G1 H1 l1 e1 R1 h1 J hJ A hA => ?_⟩
  split at h1
  case isFalse => exact h1.elim
  rename_i hlen
  obtain ⟨f1, f2, f3, f4⟩ := R1.fresh hA
  let Qd : List D → DS → List Addr → Hp → Hp → Prop := fun ws s' L' G' _ => okE Ω W φ σ L' G' (.ok (.lst ws) s') (P φ)
  refine ⟨fun i m H => m = ds.length - i ∧ i ≤ ds.length ∧ LcI Ω W φ vs σ L1 G1 A Qd t rc re ds i H, ⟨ds.length, rfl, Nat.zero_le _, L1, G1, s1, [], [], List.prefix_refl _, Ex.refl _, (R1.alloc hA).wipe (wipe_length _ _) (fun j hj => wipe_out hj), upd_same, .nil, Nat.le_refl _, f1, f2,
    fun j q => f3 j (own_wipe (fun j hj => wipe_out hj) q).1, h1.bnd⟩, ?_⟩
  rintro i m H2 ⟨rfl, hi, Lb, G2, s2, acc, ws, l2, e2, R2, a2, r2, n2, g2, ll2, o2, h2⟩
  by_cases lt : i < ds.length
  · have go := hJ.go G2 Lb H2 e2 l2 R2.sub i ds[i] (List.getElem?_eq_getElem lt)
    refine .inr ⟨go.1, fun H' => LcI Ω W φ vs σ L1 G1 A Qd t rc re ds (i + 1) H', fun H' p => ⟨_, by omega, rfl, lt, p⟩, fun x H' y => ?_⟩
    -- the item, where it lies now
    have it : ∃ G', Ex G2 G' ∧ RelO Ω φ Lb G' { s2 with sl := DL.wipe s2.sl vs } (L2.wipe σ vs) H' ∧ Rp Ω.w Ω.K G' Lb x ds[i] ∧ H' A = some (.lst acc) ∧ G' A = none := by
      rcases go.2 x H' y with ⟨rfl, r⟩ | ⟨p, o, hp, rfl, r⟩
      · exact ⟨G2, Ex.refl _, R2, r, a2, g2⟩
      · have ne : A ≠ p := fun e => by rw [← e, a2] at hp; cases hp
        exact ⟨upd G2 p o, Ex.new (R2.sub.none hp), R2.laid hp, r, by rw [upd_ne ne]; exact a2, by rw [upd_ne ne]; exact g2⟩
    obtain ⟨G3, x3, R3, r3, a3, g3⟩ := it
    have P3 := R3.prot f4 a3 g3 ll2 o2
    rw [List.drop_eq_getElem_cons lt] at h2
    simp only [lcL] at h2
    cases hp : putT t ds[i] { s2 with sl := DL.wipe s2.sl vs } with
    | none => rw [hp] at h2; exact h2.elim
    | some s4 =>
      rw [hp] at h2
      refine ⟨_, Lb, G3, _, ds[i], s4, P3, r3, hp, fun σ2 al R4 => ⟨wipe_alike al hvs, ?_⟩⟩
      have wa := wipe_alike al hvs
      have wo : ∀ j, j ∉ vs → (L2.wipe σ vs)[j]? = σ2[j]? := fun j hj => by rw [← wa, wipe_out hj]
      have wl : (L2.wipe σ vs).length = σ2.length := by rw [← wa, wipe_length]
      obtain ⟨b, s5, hc, h5⟩ := noX_ok_of h2
      refine ⟨_, Lb, G3, s4, R4, ?_⟩
      rw [hc]
      intro L5 G5 H5 l5 e5 R5
      cases b with
      | false =>
        obtain ⟨⟨a6, g6, ll6, o6⟩, R6⟩ := R5.unprot' f4 R1.fr0
        exact ⟨L5, G5, s5, acc, ws, l2.trans l5, e2.trans (x3.trans e5), R6.wipe wl wo, a6, r2.mono (x3.trans e5) l5, Nat.le_succ_of_le n2, g6, ll6, fun j q => o6 j (own_wipe wo q).1, h5.mono l5 (x3.trans e5)⟩
      | true =>
        rw [if_pos rfl] at h5
        obtain ⟨v, s6, he, h6⟩ := noX_ok_of h5
        refine ⟨_, L5, G5, s5, R5, ?_⟩
        rw [he]
        intro L6 G6 H6 l6 e6 R6 y hy
        obtain ⟨d', s7, G7, x7, R7, r7, h7⟩ := esc_of R6 hy (h6.mono (l5.trans l6) (x3.trans (e5.trans e6)))
        obtain ⟨⟨a8, g8, ll8, o8⟩, R8⟩ := Rel.unprot (o' := .lst (acc ++ [y])) R7 f4 R1.fr0
        have xx : Ex G2 G7 := x3.trans (e5.trans (e6.trans x7))
        refine ⟨acc, a8, ?_, L6, G7, s7, acc ++ [y], ws ++ [d'], l2.trans (l5.trans l6), e2.trans xx, R8.wipe wl wo, upd_same, (r2.mono xx (l5.trans l6)).append (.cons r7 .nil), by simp; omega, g8, ll8, fun j q => o8 j (own_wipe wo q).1, ?_⟩
        · exact Nat.lt_of_lt_of_le (Nat.lt_of_le_of_lt n2 lt) (big_ok hlen)
        · refine okE.imp h7.bnd fun us s9 L9 G9 H9 l9 e9 R9 h9 => ?_
          have z := okE.ok h9 R9 (List.prefix_refl _) (Ex.refl _)
          have e : ws ++ [d'] ++ us = ws ++ d' :: us := by simp
          rw [e]
          exact z
  · have e : i = ds.length := by omega
    subst e
    refine .inl ⟨hJ.stop G2 H2 e2 R2.sub _ (Nat.le_refl _), ?_⟩
    rw [List.drop_length] at h2
    have R3 : RelO Ω φ Lb G2 { s2 with sl := DL.wipe s2.sl vs } σ H2 := by
      have q := R2.wipe (σ' := σ) (vs := vs) (wipe_length _ _).symm (fun j hj => (wipe_out hj).symm)
      simp only [wipeS_two] at q
      exact q
    have o3 : ∀ j, ¬ OwnA σ (DL.wipe s2.sl vs) j A := fun j ⟨⟨m, q1⟩, q2⟩ => o2 j ⟨⟨m, q1⟩, by
      rcases wipeS_get q1 with z | ⟨z, _⟩
      · cases z
      · rw [wipe_out z]; exact q2⟩
    have h4 := okE.ok h2 R3 (List.prefix_refl _) (Ex.refl _)
    rw [List.append_nil] at h4
    exact fin φ Lb G2 _ H2 A acc ws R3 a2 g2 ll2 o3 f4 r2 h4
theorem tLc_of {ri : DS → Res (List D) DS} {rc : DS → Res Bool DS} {re : DS → Res D DS} {t : CT} {vs : List Nat} {Q : VK} (hvs : ∀ i ∈ tIx t, i ∈ vs)
    (h : tE Ω W (fun s => (ri s).bind fun ds s => if ds.length ≤ big then (lcL vs t rc re ds s).bind fun ws s => .ok (.lst ws) s else .stuck) σ H Q) : tLc (tI Ω W ri) (tGt Ω t) (tT Ω WF rc) (tE Ω WF re) vs σ H Q :=
  tLc_gen (P := fun _ z _ L' G' H' => ∀ v, RpT Ω.w Ω.K G' L' σ v z → Q v H') hvs h fun φ L G s H A acc ws R a2 g2 l2 o2 f2 r2 h2 => by
    have R4 := R.freeze a2 g2 l2 o2 f2
    have x4 : Ex G (upd G A (.lst acc)) := Ex.new g2
    exact okE.ok h2 R4 (List.prefix_refl _) x4 _ (.inl (.lst (SqL.of upd_same) (r2.mono x4 (List.prefix_refl _))))
end DL
end

section
set_option Elab.async false
set_option linter.all false
set_option autoImplicit false
set_option maxRecDepth 100000
/-! Dl11: enumerate over a tuple; enumerate, zip, range as what is walked. -/
namespace DL
open PySem PySem.Spec PyProof.Rows L2

set_option maxHeartbeats 1000000 in
theorem meets_enum1 {v : Value} {o : Obj} {H : Heap → Prop} (B : Begins v o H) :
    Meets (Builtin.«enumerate.__new__» ⟨[.type "enumerate", v], []⟩) (fun _ R s => H s.heap ∧
      R (.ok (.ret (.ref (s.heap.push o).objs.size))) { s with heap := (s.heap.push o).push { cls := .type "enumerate", data := .fields #[.none, .bool false, .ref s.heap.objs.size, rawInt 0, .none, .none] } }) :=
  .of_wp fun prog w A R s h => by
    obtain ⟨hp, g, d, tk, os⟩ := s; obtain ⟨h1, h⟩ := h
    have hsub := sub_enumerate
    have q1 : ∀ {A' : Around} {E : Value → Shared → Prop} {Q : Value → Shared → Prop}, Q (.ref hp.objs.size) ⟨hp.push o, g, d, tk, os⟩ → wpAny (model prog w) A' (pyIter v) Q E ⟨hp, g, d, tk, os⟩ :=
      fun q => B.iter prog w _ _ ⟨hp, g, d, tk, os⟩ _ h1 q
    wp_walk using q1
    refine wpAny_stack_any fun st => wpAny_pure ?_
    split
    · rename_i c _ _ _ _ _
      cases (c == Value.type "enumerate")
      · wp_walk using q1
        exact ⟨_, rfl, h⟩
      · wp_walk using q1
        exact ⟨_, rfl, h⟩
    · wp_walk using q1
      exact ⟨_, rfl, h⟩
theorem call_enum1 {prog : Program} {w : World} {A : Around} {E : Value → Shared → Prop} {s : Shared} {v : Value} {o : Obj} {H : Heap → Prop} {Q : Value → Shared → Prop} (B : Begins v o H) (h1 : H s.heap)
    (h : ∀ h', IsEnum h' (s.heap.objs.size + 1) s.heap.objs.size 0 .none → h'.get? s.heap.objs.size = some o → h'.objs.size = s.heap.objs.size + 2 →
      (∀ b o, s.heap.get? b = some o → h'.get? b = some o) → Q (.ref (s.heap.objs.size + 1)) { s with heap := h' }) :
    wpAny (model prog w) A (call (.type "enumerate") [v]) Q E s := by
  refine callType_new F.called_enumerate (by decide) (F.typeCall_enumerate_1 _) (F.newCall_enumerate_1 _) (fun obj => F.args_object_init_2 obj _) F.entry_enumerate_new
    (meets_enum1 B) ⟨h1, ?_⟩
  have hz : (s.heap.push o).objs.size = s.heap.objs.size + 1 := Heap.size_push ..
  show _ ∧ _
  rw [hz]
  have he : IsEnum ((s.heap.push o).push { cls := .type "enumerate", data := .fields #[.none, .bool false, .ref s.heap.objs.size, rawInt 0, .none, .none] }) (s.heap.objs.size + 1) s.heap.objs.size 0 .none := by
    have := Heap.get?_push_size (s.heap.push o) (o := { cls := .type "enumerate", data := .fields #[.none, .bool false, .ref s.heap.objs.size, rawInt 0, .none, .none] }) rfl
    rw [hz] at this; exact this
  refine ⟨⟨_, he, rfl⟩, h _ he (Heap.get?_push_of_some _ (Heap.get?_push_size _ B.free)) (by rw [Heap.size_push, hz]) fun b o x => Heap.get?_push_of_some _ (Heap.get?_push_of_some _ x)⟩

/-- the tuple at a, of n items, each in a new pair -/
def IteT (K : PySem.W.Frag) (a : Addr) (n : Nat) : It :=
  ⟨fun i H => ∃ (xs : List V) (x : V), SqT K H a xs ∧ xs[i]? = some x ∧ xs.length = n, fun i H v H' => ∃ T x, v = .ref T ∧ H T = none ∧ H' = upd H T (.tup [.int (i : Nat), x]) ∧ ∀ xs, SqT K H a xs → xs[i]? = some x, fun i H => ∃ xs : List V, SqT K H a xs ∧ xs.length ≤ i ∧ xs.length = n⟩
theorem turn_enumT {P : Program} {w : World} {K : PySem.W.Frag} {elts : List Expr} {kk : Nat} {tpos : Pos} (a e it : Addr) (n : Nat) :
    Turn P w K (.Tuple elts kk tpos) (IteT K a n) [e, it] e (fun i h => (∃ old, IsEnum h e it ((i : Nat) : Int) old) ∧ h.IsTupleIter it a i ∧ (e ≠ it ∧ a ≠ e ∧ a ≠ it) ∧ i ≤ n) where
  mem := by simp
  obj := fun i h st b hb => by
    obtain ⟨⟨old, he⟩, ⟨o, ho, hc, hd⟩, _⟩ := st
    have e' : b = e ∨ b = it := by simpa using hb
    rcases e' with z | z
    · rw [z]; exact ⟨_, he, fun v q => nomatch q⟩
    · rw [z]; exact ⟨o, ho, fun v q => by rw [hd] at q; cases q⟩
  keep := fun i h h' st k => let ⟨⟨old, he⟩, hi, hne⟩ := st; ⟨⟨old, k e (by simp) _ he⟩, hi.at fun o q => k it (by simp) o q, hne⟩
  item := by
    intro X hP hw hK hc i pins s σ H E I hf st hg
    subst hP hw hK
    obtain ⟨⟨old, he⟩, hit, ⟨hne, hae, hai⟩, hin⟩ := st
    obtain ⟨xs, x, hq, hx, hxl⟩ := hg
    obtain ⟨its, rv, p, hz⟩ := I.tuple hq
    obtain ⟨u, hu, ru⟩ := rv.get hx
    have hel : e < s.heap.objs.size := Heap.lt_size he
    have hil : it < s.heap.objs.size := by obtain ⟨_, q, _⟩ := hit; exact Heap.lt_size q
    have hlt : i < its.toArray.size := by
      have := (List.getElem?_eq_some_iff.mp hu).1
      simpa using this
    have hh : X.A.in1.handled = none := by
      have := I.ok.hd hc
      simpa using this
    refine wpAny_pyNext_enum_itemD (Draws.tuple hh it a hai its.toArray) he ⟨hit, show s.heap.IsTuple a its.toArray from p⟩ hlt hne (by simp; exact ⟨hne, fun q => hae q.symm⟩) fun y h' tk hy ho hit' hT hsz hk => ?_
    have ey : y = u := by
      have h1 : its.toArray[i]? = some u := by simpa using hu
      rw [hy] at h1
      exact Option.some.inj h1
    subst ey
    refine ⟨_, rfl, wpAny_letOwnedTupleGo_enum (s := { s with heap := h', toks := tk + 1 }) ho fun h'' he' sb => ?_⟩
    have hT2 : h''.get? s.heap.objs.size = some { cls := .type "tuple", data := .seq #[.int i tk, y] } := (sb.2 _ (Nat.ne_of_gt hel)).trans hT
    have new : ObjOk X.prog X.w (upd H s.heap.objs.size (.tup [.int (i : Nat), x])) h'' s.heap.objs.size (.tup [.int (i : Nat), x]) :=
      ⟨by show 2 ≤ sizeLine; decide, [.int i tk, y], .cons ⟨_, rfl⟩ (.cons ru .nil), ⟨_, hT2, rfl, _, rfl⟩⟩
    have I1 : Inv X pins σ (upd H s.heap.objs.size (.tup [.int (i : Nat), x])) { s with heap := h'', toks := tk + 1 } :=
      I.turnedNew (ch := [e, it]) (fun b ob hb q => (sb.2 b (fun z => hb (by simp [z]))).trans (hk b ob (fun z => hb (by simp [z])) (fun z => hb (by simp [z])) q)) hf (Nat.le_refl _) new
    refine ⟨.ref s.heap.objs.size, _, I1, rfl, ⟨_, x, rfl, I.hok.fresh (Nat.le_refl _), rfl, fun ys hy => by rw [I.tuple_inj hy hq]; exact hx⟩, ⟨⟨y, ?_⟩, hit'.1.at fun o q => (sb.2 it (Ne.symm hne)).trans q, ⟨hne, hae, hai⟩, by
      have := (List.getElem?_eq_some_iff.mp hx).1
      omega⟩, fun b hb => ?_⟩
    · have e1 : ((i + 1 : Nat) : Int) = (i : Int) + 1 := by omega
      rw [e1]; exact he'
    · have hb' : b < s.heap.objs.size := by
        have e' : b = e ∨ b = it := by simpa using hb
        rcases e' with z | z
        · rw [z]; exact hel
        · rw [z]; exact hil
      rw [upd_ne (Nat.ne_of_lt hb')]
      exact (hf b hb).1
  done := by
    intro X hP hw hK hc i pins s σ H E I hf st hg
    subst hP hw hK
    obtain ⟨⟨old, he⟩, hit, ⟨hne, hae, hai⟩, hin⟩ := st
    obtain ⟨xs, hq, hx, hxl⟩ := hg
    obtain ⟨its, rv, p, hz⟩ := I.tuple hq
    obtain ⟨f0, f1, f2, f3, f4, f5⟩ := hf it (by simp)
    have hl := rv.length
    have hi : i = its.toArray.size := by simp; omega
    have hh : X.A.in1.handled = none := by
      have := I.ok.hd hc
      simpa using this
    exact wpAny_pyNext_enum_endD (Draws.tuple hh it a hai its.toArray) he ⟨by rw [← hi]; exact hit, show s.heap.IsTuple a its.toArray from p⟩ fun h' eb => ⟨rfl, I.turned (t' := s.toks) (fun b o hb q => eb b o hb q) f0 f1 f3 f4 f5⟩
  self := fun A i s Q E st h => let ⟨⟨_, he⟩, _⟩ := st; wpAny_pyIter_enum he h
def iEnumA (K : PySem.W.Frag) (ta : TA) : TI := fun σ H R => ta σ H fun vs H1 => ∃ a xs, vs = [.ref a] ∧ ((SqL K H1 a xs ∧ R (Ite K a) H1) ∨ (SqT K H1 a xs ∧ R (IteT K a xs.length) H1))
theorem pi_enumA {X : Cx} {e : Expr} {ta : TA} {p pos tpos : Pos} {elts : List Expr} {kk : Nat} (hg : Gl X "enumerate") (hm : X.mg "enumerate" = none) (ha : PA X [e] ta) (hs : starEach [e] X.env = [(false, eval e X.env)]) :
    PI X (.Tuple elts kk tpos) (.Call (.Name "enumerate" p) [e] [] pos) (iEnumA X.K ta) := by
  refine ⟨fun pins s σ H R I h => ?_⟩
  refine Call_ (ld_blt I hg hm boot_enumerate (PyProof.Rows.callWith_type1 (thn (ha.run pos pins s σ H _ I h) fun us s1 ⟨vs, H1, I1, r1, q1⟩ => ?_) hs rfl))
  obtain ⟨a, xs, ex, q1⟩ := q1
  subst ex
  cases r1 with
  | cons r rr =>
    cases rr
    cases r
    have fr : ∀ b ∈ [s1.heap.objs.size + 1, s1.heap.objs.size], FpOk X pins H1 b := fun b hb => by
      have e' : b = s1.heap.objs.size + 1 ∨ b = s1.heap.objs.size := by simpa using hb
      have hle : s1.heap.objs.size ≤ b := by
        rcases e' with z | z
        · rw [z]; exact Nat.le_add_right _ _
        · rw [z]; exact Nat.le_refl _
      exact I1.fpOk hle (I1.hok.fresh hle)
    rcases q1 with ⟨hq, q⟩ | ⟨hq, q⟩
    · obtain ⟨its, rv, p', hz⟩ := I1.list hq
      refine call_enumerate_list p'.isList fun h' he hit hsz hk => wpAny_pyIter_enum he ?_
      have I2 : Inv X pins σ H1 { s1 with heap := h' } := I1.kept (t' := s1.toks) hk
      exact ⟨s1.heap.objs.size + 1, [s1.heap.objs.size + 1, s1.heap.objs.size], _, _, H1, rfl, I2, turn_enum a (s1.heap.objs.size + 1) s1.heap.objs.size, ⟨⟨.none, he⟩, hit, Nat.succ_ne_self _⟩, fr, q⟩
    · obtain ⟨its, rv, p', hz⟩ := I1.tuple hq
      have hal : a < s1.heap.objs.size := by
        obtain ⟨o, ho, _⟩ := id (show s1.heap.IsTuple a its.toArray from p')
        exact Heap.lt_size ho
      refine call_enum1 (begins_tuple a its.toArray) (show s1.heap.IsTuple a its.toArray from p') fun h' he hit hsz hk => wpAny_pyIter_enum he ?_
      have I2 : Inv X pins σ H1 { s1 with heap := h' } := I1.kept (t' := s1.toks) hk
      exact ⟨s1.heap.objs.size + 1, [s1.heap.objs.size + 1, s1.heap.objs.size], _, _, H1, rfl, I2, turn_enumT a (s1.heap.objs.size + 1) s1.heap.objs.size xs.length, ⟨⟨.none, he⟩, ⟨_, hit, rfl, rfl⟩, ⟨Nat.succ_ne_self _, Nat.ne_of_lt (Nat.lt_succ_of_lt hal), Nat.ne_of_lt hal⟩, Nat.zero_le _⟩, fr, q⟩
end DL
end

section
set_option Elab.async false
set_option linter.all false
set_option autoImplicit false
set_option maxRecDepth 100000
/-! Dl12: what is walked; comprehensions. -/
namespace DL
open PySem L2
variable {Ω : Om} {W : WX} {φ : Fx} {L L' : List Addr} {G G' H H' : Hp} {s : DS} {σ : St} {X : Cx}
variable {e e2 tg : Expr} {re rf : DS → Res D DS} {pos : Pos}

theorem i_seq (hK : Ω.K = X.K) (he : PE X e (tE Ω W re)) : PI X tg e (tI Ω W (fun s => (re s).bind fun x s => (esc s x).bind fun x s => .lift (seqD x) s)) :=
  PI.imp (pi_seq he) fun σ H R h => by
    obtain ⟨φ, L, G, s, R0, h⟩ := h
    refine ⟨φ, L, G, s, R0, h.go fun d s1 L1 G1 H1 l1 e1 R1 h1 v hv => ?_⟩
    obtain ⟨d', s', G', x, R2, rv, h2⟩ := esc_of R1 hv h1
    rw [← hK]
    cases rv with
    | @tup a xs ds h r => exact .inl ⟨a, rfl, .inr ⟨⟨xs, R2.sub.st h⟩, okE.ok h2 R2 (List.prefix_refl _) (Ex.refl _) _ (itd_tup h r)⟩⟩
    | @lst a xs ds h r => exact .inl ⟨a, rfl, .inl ⟨⟨xs, R2.sub.sl h⟩, okE.ok h2 R2 (List.prefix_refl _) (Ex.refl _) _ (itd_list h r)⟩⟩
    | str x => exact .inr ⟨x, rfl, okE.ok h2 R2 (List.prefix_refl _) (Ex.refl _) _ itd_str⟩
    | _ => exact h2.elim
theorem int_of {v : V} {d : D} {i : Int} (h : RpT Ω.w Ω.K G L σ v d) (e : d = .int i) : v = .int i := by
  subst e
  rcases h with h | ⟨_, _, z, _⟩
  · cases h; rfl
  · cases z
theorem i_rng1 {p : Pos} (hg : Gl X "range") (hm : X.mg "range" = none) (he : PE X e (tE Ω W re)) (hs : starEach [e] X.env = [(false, eval e X.env)]) : PI X tg (.Call (.Name "range" p) [e] [] pos) (tI Ω W (fun s => (re s).bind fun x s => match x with
    | .int n => if -big ≤ n ∧ n ≤ big then .ok (rngD 0 n) s else .stuck
    | _ => .stuck)) :=
  PI.imp (pi_range1 hg hm (pa_cons he pa_nil hs) hs) fun σ H R h => by
    obtain ⟨φ, L, G, s, R0, h⟩ := h
    refine ⟨φ, L, G, s, R0, h.go fun d s1 L1 G1 H1 l1 e1 R1 h1 v hv => ?_⟩
    cases d with
    | int n =>
      have ev := int_of hv rfl
      subst ev
      simp only at h1
      split at h1
      case isFalse => exact h1.elim
      rename_i hb
      have b1 : (big : Int) = 1000000 := rfl
      refine ⟨n, rfl, by omega, by omega, ?_⟩
      have q := okE.ok h1 R1 (List.prefix_refl _) (Ex.refl _) _ itd_rng
      have e0 : (n - 0).toNat = n.toNat := by rw [Int.sub_zero]
      rw [e0] at q
      exact q
    | _ => exact h1.elim
theorem i_rng2 {p : Pos} (hg : Gl X "range") (hm : X.mg "range" = none) (he : PE X e (tE Ω W re)) (hf : PE X e2 (tE Ω W rf)) (hs : starEach [e, e2] X.env = (false, eval e X.env) :: starEach [e2] X.env) (hs2 : starEach [e2] X.env = [(false, eval e2 X.env)]) :
    PI X tg (.Call (.Name "range" p) [e, e2] [] pos) (tI Ω W (fun s => (re s).bind fun x s => (rf s).bind fun y s => match x, y with
    | .int lo, .int n => if -big ≤ lo ∧ lo ≤ big ∧ -big ≤ n ∧ n ≤ big then .ok (rngD lo n) s else .stuck
    | _, _ => .stuck)) :=
  PI.imp (pi_range2 hg hm (pa_cons he (pa_cons hf pa_nil hs2) hs) (by rw [hs, hs2]) hs2) fun σ H R h => by
    obtain ⟨φ, L, G, s, R0, h⟩ := h
    refine ⟨φ, L, G, s, R0, h.go fun d s1 L1 G1 H1 l1 e1 R1 h1 v hv => ⟨φ, L1, G1, s1, R1, h1.go fun d2 s2 L2 G2 H2 l2 e2 R2 h2 v2 hv2 => ?_⟩⟩
    cases d with
    | int lo =>
      cases d2 with
      | int n =>
        have ev := int_of hv rfl
        have ev2 := int_of hv2 rfl
        subst ev ev2
        simp only at h2
        split at h2
        case isFalse => exact h2.elim
        rename_i hb
        have b1 : (big : Int) = 1000000 := rfl
        exact ⟨lo, n, rfl, ⟨by omega, by omega, by omega, by omega⟩, okE.ok h2 R2 (List.prefix_refl _) (Ex.refl _) _ itd_rng⟩
      | _ => exact h2.elim
    | _ => cases d2 <;> exact h2.elim

/-! ### enumerate, zip -/
theorem enumD_at : ∀ {xs : List D} {n i : Nat} {d : D}, (enumD n xs)[i]? = some d → ∃ x, xs[i]? = some x ∧ d = .tup [.int ((n + i : Nat) : Int), x]
  | [], _, _, _, h => by simp [enumD] at h
  | x :: xs, n, 0, d, h => by simp [enumD] at h; exact ⟨x, by simp, by simp [← h]⟩
  | x :: xs, n, i + 1, d, h => by
    obtain ⟨y, h1, h2⟩ := enumD_at (xs := xs) (n := n + 1) (i := i) (d := d) (by simpa [enumD] using h)
    refine ⟨y, by simpa using h1, ?_⟩
    rw [h2]
    have e : n + 1 + i = n + (i + 1) := by omega
    rw [e]
theorem enumD_len : ∀ (xs : List D) (n : Nat), (enumD n xs).length = xs.length
  | [], _ => rfl
  | x :: xs, n => by simp [enumD, enumD_len xs]
theorem itd_enum {a : Addr} {vs : List V} {ds : List D} (h : SqL Ω.K G a vs) (r : Rps Ω.w Ω.K G L vs ds) : ItD Ω G L (Ite Ω.K a) (enumD 0 ds) where
  go := fun G' L' H' e l e' i d hd => by
    obtain ⟨x, hx, rfl⟩ := enumD_at hd
    obtain ⟨v, hv, rv⟩ := r.at hx
    have hq := e'.sl (e.sl h)
    refine ⟨⟨vs, v, hq, hv⟩, fun u H2 y => .inr ?_⟩
    obtain ⟨T, x', rfl, hT, rfl, hy⟩ := y
    have := (hy vs hq).symm.trans hv
    cases this
    rw [Nat.zero_add]
    exact ⟨T, _, hT, rfl, rp_newT hT e' (.cons (.int _) (.cons (rv.mono e l) .nil))⟩
  stop := fun G' H' e e' i hi => ⟨vs, e'.sl (e.sl h), by rw [r.length, ← enumD_len ds 0]; exact hi⟩
theorem itd_enumT {a : Addr} {vs : List V} {ds : List D} (h : SqT Ω.K G a vs) (r : Rps Ω.w Ω.K G L vs ds) : ItD Ω G L (IteT Ω.K a vs.length) (enumD 0 ds) where
  go := fun G' L' H' e l e' i d hd => by
    obtain ⟨x, hx, rfl⟩ := enumD_at hd
    obtain ⟨v, hv, rv⟩ := r.at hx
    have hq := e'.st (e.st h)
    refine ⟨⟨vs, v, hq, hv, rfl⟩, fun u H2 y => .inr ?_⟩
    obtain ⟨T, x', rfl, hT, rfl, hy⟩ := y
    have := (hy vs hq).symm.trans hv
    cases this
    rw [Nat.zero_add]
    exact ⟨T, _, hT, rfl, rp_newT hT e' (.cons (.int _) (.cons (rv.mono e l) .nil))⟩
  stop := fun G' H' e e' i hi => ⟨vs, e'.st (e.st h), by rw [r.length, ← enumD_len ds 0]; exact hi, rfl⟩
theorem i_enum (hK : Ω.K = X.K) {p tpos : Pos} {elts : List Expr} {kk : Nat} (hg : Gl X "enumerate") (hm : X.mg "enumerate" = none) (he : PE X e (tE Ω W re)) (hs : starEach [e] X.env = [(false, eval e X.env)]) :
    PI X (.Tuple elts kk tpos) (.Call (.Name "enumerate" p) [e] [] pos) (tI Ω W (fun s => (re s).bind fun x s => (esc s x).bind fun x s => match x with
      | .lst xs | .tup xs => .ok (enumD 0 xs) s
      | _ => .stuck)) :=
  PI.imp (pi_enumA hg hm (pa_cons he pa_nil hs) hs) fun σ H R h => by
    obtain ⟨φ, L, G, s, R0, h⟩ := h
    refine ⟨φ, L, G, s, R0, h.go fun d s1 L1 G1 H1 l1 e1 R1 h1 v hv => ?_⟩
    obtain ⟨d', s', G', x, R2, rv, h2⟩ := esc_of R1 hv h1
    rw [← hK]
    cases rv with
    | @tup a xs ds h r => exact ⟨a, xs, rfl, .inr ⟨R2.sub.st h, okE.ok h2 R2 (List.prefix_refl _) (Ex.refl _) _ (itd_enumT h r)⟩⟩
    | @lst a xs ds h r => exact ⟨a, xs, rfl, .inl ⟨R2.sub.sl h, okE.ok h2 R2 (List.prefix_refl _) (Ex.refl _) _ (itd_enum h r)⟩⟩
    | _ => exact h2.elim
theorem zipD_at : ∀ {xs ys : List D} {i : Nat} {d : D}, (zipD xs ys)[i]? = some d → ∃ x y, xs[i]? = some x ∧ ys[i]? = some y ∧ d = .tup [x, y]
  | [], ys, _, _, h => by simp [zipD] at h
  | x :: xs, [], _, _, h => by simp [zipD] at h
  | x :: xs, y :: ys, 0, d, h => by simp [zipD] at h; exact ⟨x, y, by simp, by simp, h.symm⟩
  | x :: xs, y :: ys, i + 1, d, h => by
    obtain ⟨u, v, h1, h2, h3⟩ := zipD_at (xs := xs) (ys := ys) (i := i) (d := d) (by simpa [zipD] using h)
    exact ⟨u, v, by simpa using h1, by simpa using h2, h3⟩
theorem zipD_len : ∀ (xs ys : List D) (i : Nat), (zipD xs ys).length ≤ i → xs.length ≤ i ∨ ys.length ≤ i
  | [], ys, i, _ => .inl (Nat.zero_le _)
  | x :: xs, [], i, _ => .inr (Nat.zero_le _)
  | x :: xs, y :: ys, 0, h => by simp [zipD] at h
  | x :: xs, y :: ys, i + 1, h => by
    have := zipD_len xs ys i (by simpa [zipD] using h)
    simpa using this
theorem itd_zip {a b : Addr} {vs us : List V} {ds es : List D} (h : SqL Ω.K G a vs) (r : Rps Ω.w Ω.K G L vs ds) (h2 : SqL Ω.K G b us) (r2 : Rps Ω.w Ω.K G L us es) : ItD Ω G L (Itz Ω.K a b) (zipD ds es) where
  go := fun G' L' H' e l e' i d hd => by
    obtain ⟨x, y, hx, hy, rfl⟩ := zipD_at hd
    obtain ⟨v, hv, rv⟩ := r.at hx
    obtain ⟨u, hu, ru⟩ := r2.at hy
    have hq := e'.sl (e.sl h)
    have hq2 := e'.sl (e.sl h2)
    refine ⟨⟨vs, us, v, u, hq, hq2, hv, hu⟩, fun z H2 y => .inr ?_⟩
    obtain ⟨T, x', y', rfl, hT, rfl, h3, h4⟩ := y
    have e1 := (h3 vs hq).symm.trans hv
    have e2 := (h4 us hq2).symm.trans hu
    cases e1
    cases e2
    exact ⟨T, _, hT, rfl, rp_newT hT e' (.cons (rv.mono e l) (.cons (ru.mono e l) .nil))⟩
  stop := fun G' H' e e' i hi => ⟨vs, us, e'.sl (e.sl h), e'.sl (e.sl h2), by rw [r.length, r2.length]; exact zipD_len _ _ _ hi⟩
theorem itd_zipT {a b : Addr} {vs us : List V} {ds es : List D} (h : SqT Ω.K G a vs) (r : Rps Ω.w Ω.K G L vs ds) (h2 : SqT Ω.K G b us) (r2 : Rps Ω.w Ω.K G L us es) : ItD Ω G L (RZ.ItzT Ω.K a b) (zipD ds es) where
  go := fun G' L' H' e l e' i d hd => by
    obtain ⟨x, y, hx, hy, rfl⟩ := zipD_at hd
    obtain ⟨v, hv, rv⟩ := r.at hx
    obtain ⟨u, hu, ru⟩ := r2.at hy
    have hq := e'.st (e.st h)
    have hq2 := e'.st (e.st h2)
    refine ⟨⟨vs, us, v, u, hq, hq2, hv, hu⟩, fun z H2 y => .inr ?_⟩
    obtain ⟨T, x', y', rfl, hT, rfl, h3, h4⟩ := y
    have e1 := (h3 vs hq).symm.trans hv
    have e2 := (h4 us hq2).symm.trans hu
    cases e1
    cases e2
    exact ⟨T, _, hT, rfl, rp_newT hT e' (.cons (rv.mono e l) (.cons (ru.mono e l) .nil))⟩
  stop := fun G' H' e e' i hi => ⟨vs, us, e'.st (e.st h), e'.st (e.st h2), by rw [r.length, r2.length]; exact zipD_len _ _ _ hi⟩
theorem i_zip (hK : Ω.K = X.K) {p tpos : Pos} {elts : List Expr} {kk : Nat} (hg : Gl X "zip") (hm : X.mg "zip" = none) (he : PE X e (tE Ω W re)) (hf : PE X e2 (tE Ω W rf)) (hs : starEach [e, e2] X.env = (false, eval e X.env) :: starEach [e2] X.env) (hs2 : starEach [e2] X.env = [(false, eval e2 X.env)]) :
    PI X (.Tuple elts kk tpos) (.Call (.Name "zip" p) [e, e2] [] pos) (tI Ω W (fun s => (re s).bind fun x s => (esc s x).bind fun x s => (rf s).bind fun y s => (esc s y).bind fun y s => match x, y with
      | .lst xs, .lst ys | .tup xs, .tup ys => .ok (zipD xs ys) s
      | _, _ => .stuck)) :=
  PI.imp (RZ.pi_zipA hg hm (pa_cons he (pa_cons hf pa_nil hs2) hs) hs (by rw [hs2]; rfl)) fun σ H R h => by
    obtain ⟨φ, L, G, s, R0, h⟩ := h
    refine ⟨φ, L, G, s, R0, h.go fun d s1 L1 G1 H1 l1 e1 R1 h1 v hv => ?_⟩
    obtain ⟨d', s', G', x, R2, rv, h2⟩ := esc_of R1 hv h1
    refine ⟨φ, L1, G', s', R2, h2.go fun d2 s3 L3 G3 H3 l3 e3 R3 h3 v2 hv2 => ?_⟩
    obtain ⟨d4, s4, G4, x4, R4, rv4, h4⟩ := esc_of R3 hv2 h3
    have rv' := rv.mono (e3.trans x4) l3
    rw [← hK]
    cases rv' with
    | @tup a xs ds h r =>
      cases rv4 with
      | @tup b ys es hb rb => exact ⟨a, b, xs, ys, rfl, .inr ⟨R4.sub.st h, R4.sub.st hb, okE.ok h4 R4 (List.prefix_refl _) (Ex.refl _) _ (itd_zipT h r hb rb)⟩⟩
      | _ => exact h4.elim
    | @lst a xs ds h r =>
      cases rv4 with
      | @lst b ys es hb rb => exact ⟨a, b, xs, ys, rfl, .inl ⟨R4.sub.sl h, R4.sub.sl hb, okE.ok h4 R4 (List.prefix_refl _) (Ex.refl _) _ (itd_zip h r hb rb)⟩⟩
      | _ => exact h4.elim
    | _ => cases rv4 <;> exact h4.elim

/-! ### comprehensions -/
theorem PTs.imp {X : Cx} {es : List Expr} {t u : TT} (h : PTs X es t) (k : ∀ σ H Q, u σ H Q → t σ H Q) : PTs X es u := ⟨fun pins s σ H Q I q => h.run pins s σ H Q I (k σ H Q q)⟩
theorem ts_nil : PTs X [] (tT Ω W (fun s => .ok true s)) := PTs.imp pts_nil fun σ H Q h => by
  obtain ⟨φ, L, G, s, R, h⟩ := h
  exact okE.ok h R (List.prefix_refl _) (Ex.refl _)
section
variable {elt kx vx iter : Expr} {ifs : List Expr} {scope : Scope} {own : List (Str × Nat)} {vs : List Nat} {t : CT} {ri : DS → Res (List D) DS} {rc : DS → Res Bool DS} {rk rv : DS → Res D DS}
theorem r_lc (hc : X.calm = true) (hN : X.N.Nodup) (hi : PI X tg iter (tI Ω W ri)) (ok : BlkOk X.N X.env.scope scope own)
    (hg : ∀ (s : Shared) (H : Hp) (C : Addr) (cl : List (Str × Addr)) (fp : List Addr), PG (X.blk s H scope (compEnvC scope cl C X.env) fp) tg (tGt Ω t)) (ht : ∀ (s : Shared) (H : Hp) (C : Addr) (cl : List (Str × Addr)) (fp : List Addr), PTs (X.blk s H scope (compEnvC scope cl C X.env) fp) ifs (tT Ω WF rc))
    (he : ∀ (s : Shared) (H : Hp) (C : Addr) (cl : List (Str × Addr)) (fp : List Addr), PE (X.blk s H scope (compEnvC scope cl C X.env) fp) elt (tE Ω WF re)) (hs : ∀ x, foldedSetIterable iter X.env x = pure x) (hv : own.map (·.2) = vs) (ht2 : ∀ i ∈ tIx t, i ∈ vs) :
    PE X (.ListComp elt [⟨tg, iter, ifs, 0⟩] scope pos) (tE Ω W (fun s => (ri s).bind fun ds s => if ds.length ≤ big then (lcL vs t rc re ds s).bind fun ws s => .ok (.lst ws) s else .stuck)) :=
  PE.imp (pe_lc hc hN hi ok hg ht he hs) fun σ H Q h => by
    subst hv
    exact tLc_of ht2 h
end
end DL
end

section
set_option Elab.async false
set_option linter.all false
set_option autoImplicit false
set_option maxRecDepth 100000
/-! Dl13: dict comprehensions. -/
namespace DL
open PySem L2
variable {Ω : Om} {W : WX} {φ : Fx} {L L' : List Addr} {G G' H H' : Hp} {s : DS} {σ : St} {X : Cx}

def DcI (Ω : Om) (W : WX) (φ : Fx) (vs : List Nat) (σ : St) (L1 : List Addr) (G1 : Hp) (A : Addr) (P : D → DS → List Addr → Hp → Hp → Prop) (t : CT) (rk rv : DS → Res D DS) (ds : List D) (i : Nat) (H : Hp) : Prop :=
  ∃ (L : List Addr) (G : Hp) (s : DS) (kvs : List (Key × V)) (ws : List D), Pre L1 L ∧ Ex G1 G ∧ RelO Ω φ L G { s with sl := DL.wipe s.sl vs } (L2.wipe σ vs) H ∧ H A = some (.dK kvs) ∧ Rps Ω.w Ω.K G L (VD kvs) ws ∧ kvs.length ≤ i ∧
    G A = none ∧ A ∉ L ∧ (∀ j, ¬ OwnA (L2.wipe σ vs) (DL.wipe s.sl vs) j A) ∧ okE Ω W φ σ L G (dcL vs t rk rv (ds.drop i) (KD kvs) ws s) P
theorem tDc_of {ri : DS → Res (List D) DS} {rk rv : DS → Res D DS} {t : CT} {vs : List Nat} {Q : VK} (hvs : ∀ i ∈ tIx t, i ∈ vs)
    (h : tE Ω W (fun s => (ri s).bind fun ds s => if ds.length ≤ big then dcL vs t rk rv ds [] [] s else .stuck) σ H Q) : tDc (tI Ω W ri) (tGt Ω t) tYes (tE Ω WF rk) (tE Ω WF rv) vs σ H Q := by
  obtain ⟨φ, L, G, s, R, h⟩ := h
  refine ⟨φ, L, G, s, R, h.go fun ds s1 L1 G1 H1 l1 e1 R1 h1 J hJ A hA => ?_⟩
  split at h1
  case isFalse => exact h1.elim
  rename_i hlen
  obtain ⟨f1, f2, f3, f4⟩ := R1.fresh hA
  let P : D → DS → List Addr → Hp → Hp → Prop := fun z _ L' G' H' => ∀ v, RpT Ω.w Ω.K G' L' σ v z → Q v H'
  refine ⟨fun i m H => m = ds.length - i ∧ i ≤ ds.length ∧ DcI Ω W φ vs σ L1 G1 A P t rk rv ds i H, ⟨ds.length, rfl, Nat.zero_le _, L1, G1, s1, [], [], List.prefix_refl _, Ex.refl _, (R1.alloc hA).wipe (wipe_length _ _) (fun j hj => wipe_out hj), upd_same, .nil, Nat.le_refl _, f1, f2,
    fun j q => f3 j (own_wipe (fun j hj => wipe_out hj) q).1, h1⟩, ?_⟩
  rintro i m H2 ⟨rfl, hi, Lb, G2, s2, kvs, ws, l2, e2, R2, a2, r2, n2, g2, ll2, o2, h2⟩
  by_cases lt : i < ds.length
  · have go := hJ.go G2 Lb H2 e2 l2 R2.sub i ds[i] (List.getElem?_eq_getElem lt)
    refine .inr ⟨go.1, fun H' => DcI Ω W φ vs σ L1 G1 A P t rk rv ds (i + 1) H', fun H' p => ⟨_, by omega, rfl, lt, p⟩, fun x H' y => ?_⟩
    -- the item, where it lies now
    have it : ∃ G', Ex G2 G' ∧ RelO Ω φ Lb G' { s2 with sl := DL.wipe s2.sl vs } (L2.wipe σ vs) H' ∧ Rp Ω.w Ω.K G' Lb x ds[i] ∧ H' A = some (.dK kvs) ∧ G' A = none := by
      rcases go.2 x H' y with ⟨rfl, r⟩ | ⟨p, o, hp, rfl, r⟩
      · exact ⟨G2, Ex.refl _, R2, r, a2, g2⟩
      · have ne : A ≠ p := fun e => by rw [← e, a2] at hp; cases hp
        exact ⟨upd G2 p o, Ex.new (R2.sub.none hp), R2.laid hp, r, by rw [upd_ne ne]; exact a2, by rw [upd_ne ne]; exact g2⟩
    obtain ⟨G3, x3, R3, r3, a3, g3⟩ := it
    have P3 := R3.prot f4 a3 g3 ll2 o2
    rw [List.drop_eq_getElem_cons lt] at h2
    simp only [dcL] at h2
    cases hp : putT t ds[i] { s2 with sl := DL.wipe s2.sl vs } with
    | none => rw [hp] at h2; exact h2.elim
    | some s4 =>
      rw [hp] at h2
      refine ⟨_, Lb, G3, _, ds[i], s4, P3, r3, hp, fun σ2 al R4 => ⟨wipe_alike al hvs, ?_⟩⟩
      have wa := wipe_alike al hvs
      have wo : ∀ j, j ∉ vs → (L2.wipe σ vs)[j]? = σ2[j]? := fun j hj => by rw [← wa, wipe_out hj]
      have wl : (L2.wipe σ vs).length = σ2.length := by rw [← wa, wipe_length]
      obtain ⟨kd, s5, hc, h5⟩ := noX_ok_of h2
      show tE Ω WF rk σ2 H' _
      refine ⟨_, Lb, G3, s4, R4, ?_⟩
      rw [hc]
      intro L5 G5 H5 l5 e5 R5 ky hky
      obtain ⟨kd', s6, G6, x6, R6, r6, h6⟩ := esc_of R5 hky (h5.mono l5 (x3.trans e5))
      obtain ⟨vd, s7, hv, h7⟩ := noX_ok_of h6
      refine ⟨_, L5, G6, s6, R6, ?_⟩
      rw [hv]
      intro L8 G8 H8 l8 e8 R8 vy hvy
      obtain ⟨vd', s9, G9, x9, R9, r9, h9⟩ := esc_of R8 hvy (h7.mono l8 e8)
      split at h9
      case isFalse => exact h9.elim
      rename_i hk
      obtain ⟨k, rfl, rfl⟩ := key_RpT (σ := σ) (.inl r6) hk
      obtain ⟨⟨a8, g8, ll8, o8⟩, Ra⟩ := Rel.unprot (o' := .dK (putK kvs k vy)) R9 f4 R1.fr0
      have xx : Ex G2 G9 := x3.trans (e5.trans (x6.trans (e8.trans x9)))
      have rr := r2.mono xx (l5.trans l8)
      obtain ⟨pk, pv⟩ := put_KD (k := k) r9 rr
      refine ⟨kvs, k, rfl, a8, ?_, L8, G9, s9, putK kvs k vy, _, l2.trans (l5.trans l8), e2.trans xx, Ra.wipe wl wo, upd_same, pv, ?_, g8, ll8, fun j q => o8 j (own_wipe wo q).1, ?_⟩
      · exact Nat.lt_of_lt_of_le (Nat.lt_of_le_of_lt n2 lt) (big_ok hlen)
      · have := length_putK kvs k vy
        omega
      · rw [← pk]
        exact h9
  · have e : i = ds.length := by omega
    subst e
    refine .inl ⟨hJ.stop G2 H2 e2 R2.sub _ (Nat.le_refl _), ?_⟩
    rw [List.drop_length] at h2
    have R3 : RelO Ω φ Lb G2 { s2 with sl := DL.wipe s2.sl vs } σ H2 := by
      have q := R2.wipe (σ' := σ) (vs := vs) (wipe_length _ _).symm (fun j hj => (wipe_out hj).symm)
      simp only [wipeS_two] at q
      exact q
    have o3 : ∀ j, ¬ OwnA σ (DL.wipe s2.sl vs) j A := fun j ⟨⟨m, q1⟩, q2⟩ => o2 j ⟨⟨m, q1⟩, by
      rcases wipeS_get q1 with z | ⟨z, _⟩
      · cases z
      · rw [wipe_out z]; exact q2⟩
    have R4 := R3.freeze a2 g2 ll2 o3 f4
    have x4 : Ex G2 (upd G2 A (.dK kvs)) := Ex.new g2
    exact okE.ok h2 R4 (List.prefix_refl _) x4 _ (.inl (.dic upd_same (r2.mono x4 (List.prefix_refl _))))
section
variable {tg kx vx iter : Expr} {scope : Scope} {own : List (Str × Nat)} {vs : List Nat} {t : CT} {ri : DS → Res (List D) DS} {rk rv : DS → Res D DS} {pos : Pos}
theorem r_dc (hc : X.calm = true) (hN : X.N.Nodup) (hi : PI X tg iter (tI Ω W ri)) (ok : BlkOk X.N X.env.scope scope own)
    (hg : ∀ (s : Shared) (H : Hp) (C : Addr) (cl : List (Str × Addr)) (fp : List Addr), PG (X.blk s H scope (compEnvC scope cl C X.env) fp) tg (tGt Ω t))
    (hk : ∀ (s : Shared) (H : Hp) (C : Addr) (cl : List (Str × Addr)) (fp : List Addr), PE (X.blk s H scope (compEnvC scope cl C X.env) fp) kx (tE Ω WF rk))
    (he : ∀ (s : Shared) (H : Hp) (C : Addr) (cl : List (Str × Addr)) (fp : List Addr), PE (X.blk s H scope (compEnvC scope cl C X.env) fp) vx (tE Ω WF rv)) (hs : ∀ x, foldedSetIterable iter X.env x = pure x) (hv : own.map (·.2) = vs) (ht2 : ∀ i ∈ tIx t, i ∈ vs) :
    PE X (.DictComp kx vx [⟨tg, iter, [], 0⟩] scope pos) (tE Ω W (fun s => (ri s).bind fun ds s => if ds.length ≤ big then dcL vs t rk rv ds [] [] s else .stuck)) :=
  PE.imp (pe_dc hc hN hi ok hg (fun _ _ _ _ _ => pts_nil) hk he hs) fun σ H Q h => by
    subst hv
    exact tDc_of ht2 h
end
end DL
end

section
set_option Elab.async false
set_option linter.all false
set_option autoImplicit false
set_option maxRecDepth 100000
/-! Dl14: f-strings, isinstance, a list many times, get. -/
namespace DL
open PySem PySem.Spec PyProof.Rows L2
variable {Ω : Om} {W : WX} {φ : Fx} {L L' : List Addr} {G G' H H' : Hp} {s : DS} {σ : St} {X : Cx}
variable {e e2 : Expr} {es : List Expr} {re rf : DS → Res D DS} {pos : Pos}

/-! ### f-strings -/
def PF (Ω : Om) (W : WX) (X : Cx) (es : List Expr) (rf : List Nat → DS → Res D DS) : Prop := ∃ ts, PJ X es ts ∧ ∀ (acc : Str) (σ : St) (H : Hp) (Q : VK),
  (∃ φ L G s, RelO Ω φ L G s σ H ∧ okE Ω W φ σ L G (rf acc.cps.toList s) fun d _ L' G' H' => ∀ v, RpT Ω.w Ω.K G' L' σ v d → Q v H') → tJs ts acc σ H fun out H1 => Q (.str out) H1
theorem f_nil : PF Ω W X [] (fun acc s => .ok (.str acc) s) := ⟨[], .nil, fun acc σ H Q h => by
  obtain ⟨φ, L, G, s, R, h⟩ := h
  exact okE.ok h R (List.prefix_refl _) (Ex.refl _) _ (.inl (.str acc))⟩
theorem str_of {v : V} {d : D} {y : List Nat} (h : RpT Ω.w Ω.K G L σ v d) (e : d = .str y) : v = .str (sv y) := by
  subst e
  rcases h with h | ⟨_, _, z, _⟩
  · cases h; rw [sv_toList]
  · cases z
theorem sv_app (acc : Str) (y : List Nat) : (acc ++ sv y).cps.toList = acc.cps.toList ++ y := by
  rw [str_app]
  simp [sv]
theorem f_cons {fmt : Bool} {rr : List Nat → DS → Res D DS} (he : PE X e (tE Ω W re)) (hr : PF Ω W X es rr) {p : Pos} (hp : (if fmt then Expr.FormattedValue e (-1) none p else e) = e2) :
    PF Ω W X (e2 :: es) (fun acc s => (re s).bind fun x s => match x with
      | .str y => if (acc ++ y).length ≤ big then rr (acc ++ y) s else .stuck
      | _ => .stuck) := by
  subst hp
  obtain ⟨ts, J, k⟩ := hr
  have step : ∀ (acc : Str) (σ : St) (H : Hp) (Q : VK), (∃ φ L G s, RelO Ω φ L G s σ H ∧ okE Ω W φ σ L G ((re s).bind fun x s => match x with
      | .str y => if (acc.cps.toList ++ y).length ≤ big then rr (acc.cps.toList ++ y) s else .stuck
      | _ => .stuck) fun d _ L' G' H' => ∀ v, RpT Ω.w Ω.K G' L' σ v d → Q v H') → tE Ω W re σ H fun x H1 => ∃ y : Str, x = .str y ∧ (acc ++ y).length ≤ sizeLine ∧ y.length ≤ sizeLine ∧ tJs ts (acc ++ y) σ H1 fun out H1 => Q (.str out) H1 := fun acc σ H Q h => by
    obtain ⟨φ, L, G, s, R, h⟩ := h
    refine ⟨φ, L, G, s, R, h.go fun d s1 L1 G1 H1 l1 e1 R1 h1 v hv => ?_⟩
    cases d with
    | str y =>
      have ev := str_of hv rfl
      subst ev
      simp only at h1
      split at h1
      case isFalse => exact h1.elim
      rename_i hb
      have hl : (acc ++ sv y).length ≤ big := by rw [str_len, sv_app]; exact hb
      refine ⟨sv y, rfl, big_ok hl, ?_, k _ _ _ Q ⟨φ, L1, G1, s1, R1, by rw [sv_app]; exact h1⟩⟩
      have : (sv y).length ≤ big := by
        rw [sv_len]
        rw [List.length_append] at hb
        omega
      exact big_ok this
    | _ => exact h1.elim
  cases fmt with
  | true =>
    refine ⟨_ :: ts, .cons (pe_fmt he) J, fun acc σ H Q h => ?_⟩
    have z := step acc σ H Q h
    obtain ⟨φ, L, G, s, R, z⟩ := z
    refine ⟨φ, L, G, s, R, z.imp fun d s1 L1 G1 H1 l1 e1 R1 q v hv => ?_⟩
    obtain ⟨y, rfl, b1, b2, q⟩ := q v hv
    exact .inl ⟨y, rfl, b2, y, rfl, b1, q⟩
  | false =>
    refine ⟨_ :: ts, .cons he J, fun acc σ H Q h => ?_⟩
    have z := step acc σ H Q h
    obtain ⟨φ, L, G, s, R, z⟩ := z
    refine ⟨φ, L, G, s, R, z.imp fun d s1 L1 G1 H1 l1 e1 R1 q v hv => ?_⟩
    obtain ⟨y, rfl, b1, b2, q⟩ := q v hv
    exact ⟨y, rfl, b1, q⟩
theorem r_fst {v1 v2 : Expr} {rr : List Nat → DS → Res D DS} (h : PF Ω W X (v1 :: v2 :: es) rr) : PE X (.JoinedStr (v1 :: v2 :: es) pos) (tE Ω W (rr [])) := by
  obtain ⟨ts, J, k⟩ := h
  exact PE.imp (pe_joined J) fun σ H Q h => k Str.empty σ H Q h

/-! ### isinstance -/
def tyOf : D → String
  | .non => "NoneType" | .bl _ => "bool" | .int _ => "int" | .str _ => "str" | .lst _ => "list" | .tup _ => "tuple" | _ => "dict"
def tyN : Nat → String
  | 0 => "bool" | 1 => "int" | 2 => "str" | 3 => "list" | _ => "tuple"
theorem tyx_of {v : V} {d : D} (h : RpH Ω.w Ω.K G L H v d) (ex : Ex G H) : TyX Ω.K H v (.type (tyOf d)) := by
  cases h with
  | non => exact .base .non
  | bl b => exact .base (.bl b)
  | int i => exact .base (.int i)
  | str x => exact .base (.str x)
  | @tup a xs ds h r =>
    rcases ex.st h with h | ⟨o, its, n, h1, h2, _⟩
    · rcases h with h | ⟨o, h⟩
      · exact .base (.tup h)
      · exact .fTuple h
    · exact .kTuple h1 h2
  | @lst a xs ds h r =>
    rcases h with h | ⟨o, its, n, h1, h2, _⟩
    · rcases h with h | ⟨o, h⟩
      · exact .base (.lst h)
      · exact .base (.frz h)
    · exact .kList h1 h2
  | dic h r => exact .base (.dK h)
def tyI : D → Nat
  | .non => 0 | .bl _ => 1 | .int _ => 2 | .str _ => 3 | .lst _ => 4 | .tup _ => 5 | _ => 6
def tyS : Nat → String
  | 0 => "NoneType" | 1 => "bool" | 2 => "int" | 3 => "str" | 4 => "list" | 5 => "tuple" | _ => "dict"
def kindT : Nat → Nat → Bool
  | 1, 0 => true | 1, 1 => true | 2, 1 => true | 3, 2 => true | 4, 3 => true | 5, 4 => true | _, _ => false
theorem kit_tab : ∀ i < 7, ∀ j < 5, kitB (tyS i) (tyN j) = some (kindT i j) := by decide +kernel
theorem kit_one {d : D} {n : Nat} (hn : n < 5) (hb : ¬ Blank d) : PySem.W.kitOne Ω.K (.type (tyOf d)) (.type (tyN n)) = some (kindD d n) := by
  refine kit_ty ?_
  have h := kit_tab (tyI d) (by cases d <;> simp [tyI]) n hn
  have e1 : tyS (tyI d) = tyOf d := by cases d <;> rfl
  have e2 : kindT (tyI d) n = kindD d n := by
    rcases n with _ | _ | _ | _ | _ | n
    all_goals first | (exfalso; omega) | (cases d <;> rfl)
  rw [e1, e2] at h
  exact h
theorem kit_any {d : D} (hb : ¬ Blank d) : ∀ {ns : List Nat}, (∀ n ∈ ns, n < 5) → PySem.W.kitAny Ω.K (.type (tyOf d)) (ns.map fun n => .type (tyN n)) = some (ns.any (kindD d))
  | [], _ => rfl
  | n :: ns, h => by
    rw [List.map_cons, List.any_cons]
    exact kitAny_cons (kit_one (h n (by simp)) hb) (fun e => by rw [e, Bool.false_or]; exact kit_any hb fun m hm => h m (by simp [hm])) (fun e => by rw [e, Bool.true_or])
def isiR (re : DS → Res D DS) (ns : List Nat) : DS → Res D DS := fun s => (re s).bind fun x s => match deref s x with
  | .obj _ | .own _ => .stuck
  | d => .ok (.bl (ns.any (kindD d))) s
theorem isiR_ok {P : D → DS → List Addr → Hp → Hp → Prop} {d : D} {ns : List Nat} (h : okE Ω W φ σ L G (match d with
  | .obj _ | .own _ => .stuck
  | d => .ok (.bl (ns.any (kindD d))) s) P) : ¬ Blank d ∧ okE Ω W φ σ L G (.ok (.bl (ns.any (kindD d))) s) P := by
  cases d <;> first | exact h.elim | exact ⟨id, h⟩
theorem r_isi1 (hK : Ω.K = X.K) {T : Str} {n : Nat} {p p2 : Pos} (hn : n < 5) (hg : Gl X "isinstance") (hm : X.mg "isinstance" = none) (he : PE X e (tE Ω W re)) (hgT : Gl X T) (hmT : X.mg T = none) (hvT : bootBuiltins T = some (.type (tyN n))) (hnT : T ≠ "__name__") (hdT : (T == ("__debug__" : Str)) = false)
    (hs : starEach [e, .Name T p2] X.env = (false, eval e X.env) :: starEach [.Name T p2] X.env) : PE X (.Call (.Name "isinstance" p) [e, .Name T p2] [] pos) (tE Ω W (isiR re [n])) :=
  PE.imp (pe_callB call_isi hg hm PyProof.Rows.boot_isinstance (pa_cons he (pa_cons (pe_bltn (v := .ty (tyN n)) hgT hmT hvT rfl hnT hdT) pa_nil rfl) hs) (by decide) (by decide) hs rfl) fun σ H Q h => by
    obtain ⟨φ, L, G, s, R, h⟩ := h
    refine ⟨φ, L, G, s, R, h.go fun d s1 L1 G1 H1 l1 e1 R1 h1 v hv => ?_⟩
    obtain ⟨nb, h2⟩ := isiR_ok h1
    have hx := (deref_of hv R1).resolve_right nb
    have ty := tyx_of hx R1.sub
    have k := kit_one (Ω := Ω) hn nb
    rw [hK] at ty k
    refine ⟨v, .ty (tyN n), _, _, _, rfl, .ty _, ty, k, ?_⟩
    have q := okE.ok h2 R1 (List.prefix_refl _) (Ex.refl _) _ (.inl (.bl _))
    simpa using q
theorem RpH.mono {v : V} {d : D} (h : RpH Ω.w Ω.K G L H v d) (e : Ex H H') : RpH Ω.w Ω.K G L H' v d := by
  cases h with
  | non => exact .non
  | bl b => exact .bl b
  | int i => exact .int i
  | str x => exact .str x
  | tup h r => exact .tup h r
  | lst h r => exact .lst (e.sl h) r
  | dic h r => exact .dic (e _ _ h) r
theorem r_isi2 (hK : Ω.K = X.K) {T U : Str} {n m k : Nat} {p p2 p3 p4 : Pos} (hn : n < 5) (hm5 : m < 5) (hg : Gl X "isinstance") (hm : X.mg "isinstance" = none) (he : PE X e (tE Ω W re)) (hgT : Gl X T) (hmT : X.mg T = none) (hvT : bootBuiltins T = some (.type (tyN n))) (hnT : T ≠ "__name__") (hdT : (T == ("__debug__" : Str)) = false)
    (hgU : Gl X U) (hmU : X.mg U = none) (hvU : bootBuiltins U = some (.type (tyN m))) (hnU : U ≠ "__name__") (hdU : (U == ("__debug__" : Str)) = false)
    (hs : starEach [e, .Tuple [.Name T p2, .Name U p3] k p4] X.env = (false, eval e X.env) :: starEach [.Tuple [.Name T p2, .Name U p3] k p4] X.env) :
    PE X (.Call (.Name "isinstance" p) [e, .Tuple [.Name T p2, .Name U p3] k p4] [] pos) (tE Ω W (isiR re [n, m])) :=
  PE.imp (pe_callB call_isiT hg hm PyProof.Rows.boot_isinstance (pa_cons he (pa_cons (pe_tup (pa_cons (pe_bltn (v := .ty (tyN n)) hgT hmT hvT rfl hnT hdT) (pa_cons (pe_bltn (v := .ty (tyN m)) hgU hmU hvU rfl hnU hdU) pa_nil rfl) rfl)) pa_nil rfl) hs) (by decide) (by decide) hs rfl) fun σ H Q h => by
    obtain ⟨φ, L, G, s, R, h⟩ := h
    refine ⟨φ, L, G, s, R, h.go fun d s1 L1 G1 H1 l1 e1 R1 h1 v hv => ?_⟩
    obtain ⟨nb, h2⟩ := isiR_ok h1
    refine ⟨by show 2 ≤ sizeLine; decide, fun q hq => ?_⟩
    have R2 := R1.alloc (o := .tup [.ty (tyN n), .ty (tyN m)]) hq
    have hx := ((deref_of hv R1).resolve_right nb).mono (Ex.new (o := .tup [.ty (tyN n), .ty (tyN m)]) hq)
    have ty := tyx_of hx R2.sub
    have k := kit_any (Ω := Ω) nb (ns := [n, m]) (by intro z hz; simp at hz; omega)
    rw [hK] at ty k
    refine ⟨v, q, _, _, _, _, rfl, upd_same, .cons (.ty _) (.cons (.ty _) .nil), ty, k, ?_⟩
    exact okE.ok h2 R2 (List.prefix_refl _) (Ex.refl _) _ (.inl (.bl _))

/-! ### a list many times -/
def repR (ra : DS → Res (List D) DS) (re : DS → Res D DS) : DS → Res D DS := fun s => (ra s).bind fun ds s => if ds.length ≤ 1000 then (re s).bind fun x s => match x with
    | .int j => if 0 ≤ j ∧ j ≤ 1000 then .ok (.lst (List.replicate j.toNat ds).flatten) s else .stuck
    | _ => .stuck
    else .stuck
theorem Rps.flat {vs : List V} {ds : List D} (h : Rps Ω.w Ω.K G L vs ds) : ∀ n : Nat, Rps Ω.w Ω.K G L (List.replicate n vs).flatten (List.replicate n ds).flatten
  | 0 => .nil
  | n + 1 => by
    rw [List.replicate_succ, List.replicate_succ, List.flatten_cons, List.flatten_cons]
    exact h.append (Rps.flat h n)
theorem len_flat {α : Type} (xs : List α) : ∀ n : Nat, (List.replicate n xs).flatten.length = n * xs.length
  | 0 => by simp
  | n + 1 => by
    rw [List.replicate_succ, List.flatten_cons, List.length_append, len_flat xs n, Nat.succ_mul, Nat.add_comm]
theorem r_rep {ra : DS → Res (List D) DS} {p : Pos} (ha : PA X es (tA Ω W ra)) (he : PE X e (tE Ω W re)) : PE X (.BinOp (.List es p) .Mult e pos) (tE Ω W (repR ra re)) :=
  PE.imp (pe_op op_rep (pe_lst ha) he) fun σ H Q h => by
    obtain ⟨φ, L, G, s, R, h⟩ := h
    refine ⟨φ, L, G, s, R, h.go fun ds s1 L1 G1 H1 l1 e1 R1 h1 vs hvs => ?_⟩
    split at h1
    case isFalse => exact h1.elim
    rename_i hb
    refine ⟨by rw [hvs.length]; exact Nat.le_trans hb (by decide), fun q hq => ?_⟩
    have x1 : Ex G1 (upd G1 q (.lst vs)) := Ex.new (R1.sub.none hq)
    refine ⟨φ, L1, _, s1, R1.laid hq, (h1.mono (List.prefix_refl _) x1).go fun d s2 L2 G2 H2 l2 e2 R2 h2 v hv => ?_⟩
    cases d with
    | int j =>
      have ev := int_of hv rfl
      subst ev
      simp only at h2
      split at h2
      case isFalse => exact h2.elim
      rename_i hj
      have ll : vs.length = ds.length := hvs.length
      refine ⟨q, j, vs, rfl, rfl, R2.sub _ _ (e2 _ _ upd_same), by omega, by omega, ?_, fun p2 hp2 => ?_⟩
      · have h1 : j.toNat ≤ 1000 := by omega
        have h2 : vs.length * j.toNat ≤ 1000 * 1000 := Nat.mul_le_mul (by omega) h1
        exact Nat.le_trans h2 (by decide)
      · exact (gives R2 h2).2 p2 _ _ hp2 (rp_new hp2 R2.sub ((hvs.mono (x1.trans e2) l2).flat _))
    | _ => exact h2.elim

/-! ### d.get(k, x) -/
theorem isD_of {v : V} {ks vs : List D} (h : RpH Ω.w Ω.K G L H v (.dic ks vs)) : ∃ a kvs, v = .ref a ∧ H a = some (.dK kvs) ∧ ks = KD kvs ∧ Rps Ω.w Ω.K G L (VD kvs) vs := by
  generalize hd : D.dic ks vs = d at h
  cases h with
  | @dic a kvs ds h r => cases hd; exact ⟨a, kvs, rfl, h, rfl, r⟩
  | _ => cases hd
def getR (ra rk re : DS → Res D DS) : DS → Res D DS := fun s => (ra s).bind fun x s => match deref s x with
    | .dic _ _ => (rk s).bind fun y s => (re s).bind fun z s => (esc s z).bind fun z s => match deref s x with
      | .dic ks vs => if isKey y then .ok ((lookD y ks vs).getD z) s else .stuck
      | _ => .stuck
    | _ => .stuck
theorem r_get {a k e : Expr} {ra rk re : DS → Res D DS} {apos : Pos} (hu : X.A.units + 65 < cLine) (ha : PE X a (tE Ω W ra)) (hk : PE X k (tE Ω W rk)) (he : PE X e (tE Ω W re)) (m : M2 X a "get" apos k e pos) :
    PE X (.Call (.Attribute a "get" apos) [k, e] [] pos) (tE Ω W (getR ra rk re)) := PE.imp (pe_dget2 (by omega) ha hk he m) fun σ H Q h => by
  obtain ⟨φ, L, G, s, R, h⟩ := h
  refine ⟨φ, L, G, s, R, h.go fun d s1 L1 G1 H1 l1 e1 R1 h1 v hv => ?_⟩
  have h0 : ∃ ks vs, deref s1 d = .dic ks vs := by
    generalize deref s1 d = d' at h1
    cases d' with
    | dic ks vs => exact ⟨ks, vs, rfl⟩
    | _ => exact h1.elim
  obtain ⟨ks, vs, hd⟩ := h0
  rw [hd] at h1
  have hx := deref_of hv R1
  rw [hd] at hx
  obtain ⟨p, kvs, rfl, hH, _, _⟩ := isD_of (hx.resolve_right id)
  refine ⟨p, rfl, .inl ⟨kvs, .inl hH⟩, φ, L1, G1, s1, R1, h1.go fun y s2 L2' G2 H2 l2 e2 R2 h2 vy hy => ⟨φ, L2', G2, s2, R2, h2.go fun z s3 L3 G3 H3 l3 e3 R3 h3 vz hz => ?_⟩⟩
  obtain ⟨z', s4, G4, x4, R4, rz, h4⟩ := esc_of R3 hz h3
  have hv4 : RpT Ω.w Ω.K G4 L3 σ (.ref p) d := ((hv.mono e2 l2).mono e3 l3).mono x4 (List.prefix_refl _)
  have hx4 := deref_of hv4 R4
  generalize deref s4 d = d' at h4 hx4
  cases d' with
  | dic ks' vs' =>
    obtain ⟨p', kvs', ep, hH', rfl, r'⟩ := isD_of (hx4.resolve_right id)
    cases ep
    simp only at h4
    split at h4
    case isFalse => exact h4.elim
    rename_i hky
    obtain ⟨k, rfl, rfl⟩ := key_RpT hy hky
    refine ⟨_, DGet.k hH', ?_⟩
    refine okE.ok h4 R4 (List.prefix_refl _) (Ex.refl _) _ (.inl ?_)
    cases ql : lookD (keyD k) (KD kvs') vs' with
    | none => rw [look_none r' ql]; exact rz
    | some w =>
      obtain ⟨u, hu, ru⟩ := look_KD r' ql
      rw [hu]
      exact ru
  | _ => exact h4.elim
end DL
end

section
set_option Elab.async false
set_option linter.all false
set_option autoImplicit false
set_option maxRecDepth 100000
/-! Dl15: statements. -/
namespace DL
open PySem L2
variable {Ω : Om} {W : WX} {φ : Fx} {L L' : List Addr} {G G' H H' : Hp} {s : DS} {σ : St} {X : Cx}

/-! ### what a statement's meaning promises -/
def okS {α : Type} (Ω : Om) (W : WX) (φ : Fx) (L : List Addr) (G : Hp) (r : Res α DS) (P : α → DS → List Addr → Hp → St → Hp → Prop) : Prop := match r with
  | .ok d s' => ∀ L' G' σ' H', Pre L L' → Ex G G' → RelO Ω φ L' G' s' σ' H' → P d s' L' G' σ' H'
  | .exc c as s' => ∀ L' G' σ' H' cls dd, Pre L L' → Ex G G' → RelO Ω φ L' G' s' σ' H' → XAt Ω G' L' H' c as cls dd → W cls dd σ' H'
  | .stuck => False
section
variable {α β : Type} {r : Res α DS} {f : α → DS → Res β DS} {P P' : α → DS → List Addr → Hp → St → Hp → Prop} {Q : β → DS → List Addr → Hp → St → Hp → Prop}
theorem okS.mono (h : okS Ω W φ L G r P) (l : Pre L L') (e : Ex G G') : okS Ω W φ L' G' r P := by
  cases r with
  | ok d s' => exact fun L2 G2 σ2 H2 a b c => h L2 G2 σ2 H2 (l.trans a) (e.trans b) c
  | exc c as s' => exact fun L2 G2 σ2 H2 cls dd a b c x => h L2 G2 σ2 H2 cls dd (l.trans a) (e.trans b) c x
  | stuck => exact h
theorem okS.ok {d : α} (h : okS Ω W φ L G (.ok d s) P) (R : RelO Ω φ L' G' s σ H') (l : Pre L L') (e : Ex G G') : P d s L' G' σ H' := h L' G' σ H' l e R
/-- the first part's outcome, statement by statement -/
theorem okS.bnd (h : okS Ω W φ L G (r.bind f) Q) : okS Ω W φ L G r (fun d s' L' G' _ _ => okS Ω W φ L' G' (f d s') Q) := by
  cases r with
  | ok d s' => exact fun L2 G2 σ2 H2 a b c => okS.mono (show okS Ω W φ L G (f d s') Q from h) a b
  | exc c as s' => exact h
  | stuck => exact h
theorem okS.imp (h : okS Ω W φ L G r P) (k : ∀ d s' L' G' σ' H', Pre L L' → Ex G G' → RelO Ω φ L' G' s' σ' H' → P d s' L' G' σ' H' → P' d s' L' G' σ' H') : okS Ω W φ L G r P' := by
  cases r with
  | ok d s' => exact fun L2 G2 σ2 H2 a b c => k _ _ _ _ _ _ a b c (h L2 G2 σ2 H2 a b c)
  | exc c as s' => exact h
  | stuck => exact h
/-- the first part is an expression -/
theorem okS.e (h : okS Ω W φ L G (r.bind f) Q) : okE Ω W φ σ L G r (fun d s' L' G' _ => okS Ω W φ L' G' (f d s') Q) := by
  cases r with
  | ok d s' => exact fun L2 G2 H2 a b c => okS.mono (show okS Ω W φ L G (f d s') Q from h) a b
  | exc c as s' => exact fun L2 G2 H2 cls dd a b c x => h L2 G2 σ H2 cls dd a b c x
  | stuck => exact h
end
theorem okS.goE {α β : Type} {r : Res α DS} {f : α → DS → Res β DS} {Q : β → DS → List Addr → Hp → St → Hp → Prop} {P : α → DS → List Addr → Hp → Hp → Prop} (h : okS Ω W φ L G (r.bind f) Q)
    (k : ∀ d s' L' G' H', Pre L L' → Ex G G' → RelO Ω φ L' G' s' σ H' → okS Ω W φ L' G' (f d s') Q → P d s' L' G' H') : okE Ω W φ σ L G r P := okE.imp (okS.e h) k
/-- esc, told by its outcome -/
theorem esc_eq {d : D} {v : V} (R : RelO Ω φ L G s σ H) (hv : RpT Ω.w Ω.K G L σ v d) : esc s d = .stuck ∨ ∃ d' s' G', esc s d = .ok d' s' ∧ Ex G G' ∧ RelO Ω φ L G' s' σ H ∧ Rp Ω.w Ω.K G' L v d' := by
  classical
  cases q : esc s d with
  | stuck => exact .inl rfl
  | exc c as s' =>
    exfalso
    have : okE Ω (fun _ _ _ _ => True) φ σ L G ((esc s d).bind fun d s => (.stuck : Res D DS)) (fun _ _ _ _ _ => True) := by
      rw [q]
      exact fun _ _ _ _ _ _ _ _ _ => trivial
    obtain ⟨_, _, _, _, _, _, h⟩ := esc_of R hv this
    exact h
  | ok d' s' =>
    have : okE Ω (fun _ _ _ _ => True) φ σ L G ((esc s d).bind fun e t => if e = d' ∧ t = s' then (.ok e t : Res D DS) else .stuck) (fun _ _ _ _ _ => True) := by
      rw [q]
      simp only [Res.bind_ok]
      rw [if_pos ⟨trivial, trivial⟩]
      exact fun _ _ _ _ _ _ => trivial
    obtain ⟨e, t, G', x, R', r, h⟩ := esc_of R hv this
    by_cases z : e = d' ∧ t = s'
    · obtain ⟨rfl, rfl⟩ := z
      exact .inr ⟨e, t, G', rfl, x, R', r⟩
    · rw [if_neg z] at h
      exact h.elim
theorem esc_ofS {α : Type} {f : D → DS → Res α DS} {P : α → DS → List Addr → Hp → St → Hp → Prop} {d : D} {v : V} (R : RelO Ω φ L G s σ H) (hv : RpT Ω.w Ω.K G L σ v d) (h : okS Ω W φ L G ((esc s d).bind f) P) :
    ∃ d' s' G', Ex G G' ∧ RelO Ω φ L G' s' σ H ∧ Rp Ω.w Ω.K G' L v d' ∧ okS Ω W φ L G' (f d' s') P := by
  rcases esc_eq R hv with e | ⟨d', s', G', e, x, R', r⟩
  · rw [e] at h; exact h.elim
  · rw [e] at h
    exact ⟨d', s', G', x, R', r, okS.mono (show okS Ω W φ L G (f d' s') P from h) (List.prefix_refl _) x⟩
/-- what is asked behind a statement -/
def endD (Ω : Om) (D : Ends) (f : Fl) (G : Hp) (L : List Addr) (σ : St) (H : Hp) : Prop := match f with
  | .nx => D.nx σ H
  | .bk => D.bk σ H
  | .ct => D.ct σ H
  | .ret d => ∀ v, Rp Ω.w Ω.K G L v d → D.rt v H
def tS (Ω : Om) (W : WX) (r : DS → Res Fl DS) : TS := fun D σ H => ∃ φ L G s, RelO Ω φ L G s σ H ∧ okS Ω W φ L G (r s) fun f _ L' G' σ' H' => endD Ω D f G' L' σ' H'
section
variable {st : Stmt} {rest : List Stmt} {e t : Expr} {pos : Pos} {re rt : DS → Res D DS} {ra rb : DS → Res Fl DS}
theorem s_nil : PSs X [] (tS Ω W (fun s => .ok .nx s)) := PSs.imp pss_nil fun D σ H h => by
  obtain ⟨φ, L, G, s, R, h⟩ := h
  exact okS.ok h R (List.prefix_refl _) (Ex.refl _)
theorem s_cons (h1 : PS X st (tS Ω W ra)) (h2 : PSs X rest (tS Ω W rb)) : PSs X (st :: rest) (tS Ω W (fun s => (ra s).bind fun f s => match f with
    | .nx => rb s
    | f => .ok f s)) := PSs.imp (pss_cons h1 h2) fun D σ H h => by
  obtain ⟨φ, L, G, s, R, h⟩ := h
  refine ⟨φ, L, G, s, R, okS.imp h.bnd fun f s1 L1 G1 σ1 H1 l1 e1 R1 h1 => ?_⟩
  cases f with
  | nx => exact ⟨φ, L1, G1, s1, R1, h1⟩
  | bk => exact okS.ok h1 R1 (List.prefix_refl _) (Ex.refl _)
  | ct => exact okS.ok h1 R1 (List.prefix_refl _) (Ex.refl _)
  | ret d => exact okS.ok h1 R1 (List.prefix_refl _) (Ex.refl _)
theorem s_one (h1 : PS X st (tS Ω W ra)) : PSs X [st] (tS Ω W ra) := PSs.imp (pss_one h1) fun D σ H h => h
theorem s_ret (he : PE X e (tE Ω W re)) : PS X (.Return (some e) pos) (tS Ω W (fun s => (re s).bind fun x s => (esc s x).bind fun x s => .ok (.ret x) s)) := PS.imp (ps_ret he) fun D σ H h => by
  obtain ⟨φ, L, G, s, R, h⟩ := h
  refine ⟨φ, L, G, s, R, h.goE fun d s1 L1 G1 H1 l1 e1 R1 h1 v hv => ?_⟩
  obtain ⟨d', s', G', x, R2, r, h2⟩ := esc_ofS R1 hv h1
  exact okS.ok h2 R2 (List.prefix_refl _) (Ex.refl _) v r
theorem s_retN : PS X (.Return none pos) (tS Ω W (fun s => .ok (.ret .non) s)) := PS.imp ps_retN fun D σ H h => by
  obtain ⟨φ, L, G, s, R, h⟩ := h
  exact okS.ok h R (List.prefix_refl _) (Ex.refl _) .non .non
theorem s_pas : PS X (.Pass pos) (tS Ω W (fun s => .ok .nx s)) := PS.imp ps_pass fun D σ H h => by
  obtain ⟨φ, L, G, s, R, h⟩ := h
  exact okS.ok h R (List.prefix_refl _) (Ex.refl _)
theorem s_brk : PS X (.Break pos) (tS Ω W (fun s => .ok .bk s)) := PS.imp ps_break fun D σ H h => by
  obtain ⟨φ, L, G, s, R, h⟩ := h
  exact okS.ok h R (List.prefix_refl _) (Ex.refl _)
theorem s_cnt : PS X (.Continue pos) (tS Ω W (fun s => .ok .ct s)) := PS.imp ps_continue fun D σ H h => by
  obtain ⟨φ, L, G, s, R, h⟩ := h
  exact okS.ok h R (List.prefix_refl _) (Ex.refl _)
theorem s_ex (he : PE X e (tE Ω W re)) (hs : swapsWith e none pos.line X.env = pure false) : PS X (.Expr e pos) (tS Ω W (fun s => (re s).bind fun _ s => .ok .nx s)) := PS.imp (ps_expr he hs) fun D σ H h => by
  obtain ⟨φ, L, G, s, R, h⟩ := h
  exact ⟨φ, L, G, s, R, h.goE fun d s1 L1 G1 H1 l1 e1 R1 h1 v hv => okS.ok h1 R1 (List.prefix_refl _) (Ex.refl _)⟩
theorem s_ife {a b : List Stmt} (hc : PT X e (tT Ω W (fun s => asB (re s)))) (ha : PSs X a (tS Ω W ra)) (hb : PSs X b (tS Ω W rb)) : PS X (.If e a b pos) (tS Ω W (fun s => (asB (re s)).bind fun k s => if k then ra s else rb s)) :=
  PS.imp (ps_if hc ha hb) fun D σ H h => by
    obtain ⟨φ, L, G, s, R, h⟩ := h
    refine ⟨φ, L, G, s, R, h.goE fun k s1 L1 G1 H1 l1 e1 R1 h1 => ?_⟩
    cases k with
    | true => rw [if_pos rfl] at h1 ⊢; exact ⟨φ, L1, G1, s1, R1, h1⟩
    | false => exact ⟨φ, L1, G1, s1, R1, h1⟩
/-- a store -/
theorem s_asg {tg : Expr} {ct : CT} (he : PE X e (tE Ω W re)) (hg : PG X tg (tGt Ω ct)) (hs : swapsWithSole [tg] e pos.line X.env = pure false) (hw : swappedStores [tg] e X.env = pure none) (h1 : (assignEach [tg] X.env).map (·.2) = [assign tg X.env]) :
    PS X (.Assign [tg] e pos) (tS Ω W (fun s => (re s).bind fun x s => (esc s x).bind fun x s => match putT ct x s with
      | some s => .ok .nx s
      | none => .stuck)) := PS.imp (ps_asg he hg hs hw h1) fun D σ H h => by
  obtain ⟨φ, L, G, s, R, h⟩ := h
  refine ⟨φ, L, G, s, R, h.goE fun d s1 L1 G1 H1 l1 e1 R1 h1 v hv => ?_⟩
  obtain ⟨d', s', G', x, R2, r, h2⟩ := esc_ofS R1 hv h1
  cases hp : putT ct d' s' with
  | none => rw [hp] at h2; exact h2.elim
  | some s3 =>
    rw [hp] at h2
    exact ⟨φ, L1, G', s', d', s3, R2, r, hp, fun σ' al R3 => okS.ok h2 R3 (List.prefix_refl _) (Ex.refl _)⟩
/-- the same for the reading of a comprehension that is stored at once -/
theorem asg_of {i : Nat} {te : TE} {D : Ends} (hte : ∀ σ H Q, tE Ω W re σ H Q → te σ H Q) (h : tS Ω W (fun s => (re s).bind fun x s => (esc s x).bind fun x s => match putT (.nm i) x s with
      | some s => .ok .nx s
      | none => .stuck) D σ H) : tAsg te (gName i) D σ H := by
  obtain ⟨φ, L, G, s, R, h⟩ := h
  refine hte _ _ _ ⟨φ, L, G, s, R, h.goE fun d s1 L1 G1 H1 l1 e1 R1 h1 v hv => ?_⟩
  obtain ⟨d', s', G', x, R2, r, h2⟩ := esc_ofS R1 hv h1
  simp only [putT] at h2
  exact okS.ok h2 (R2.put (i := i) r) (List.prefix_refl _) (Ex.refl _)
section
variable {elt tg iter : Expr} {ifs : List Expr} {scope : Scope} {own : List (Str × Nat)} {vs : List Nat} {t : CT} {ri : DS → Res (List D) DS} {rc : DS → Res Bool DS} {i : Nat} {y : Str} {py spos : Pos}
theorem s_asgLc (hc : X.calm = true) (hN : X.N.Nodup) (hy : X.N[i]? = some y) (hyl : X.env.scope.names.lookup y = some .local) (hsw : swapsWith (.ListComp elt [⟨tg, iter, ifs, 0⟩] scope pos) (some (.Name y py)) spos.line X.env = pure true)
    (hi : PI X tg iter (tI Ω W ri)) (ok : BlkOk X.N X.env.scope scope own)
    (hg : ∀ (s : Shared) (H : Hp) (C : Addr) (cl : List (Str × Addr)) (fp : List Addr), PG (X.blk s H scope (compEnvC scope cl C X.env) fp) tg (tGt Ω t)) (ht : ∀ (s : Shared) (H : Hp) (C : Addr) (cl : List (Str × Addr)) (fp : List Addr), PTs (X.blk s H scope (compEnvC scope cl C X.env) fp) ifs (tT Ω WF rc))
    (he : ∀ (s : Shared) (H : Hp) (C : Addr) (cl : List (Str × Addr)) (fp : List Addr), PE (X.blk s H scope (compEnvC scope cl C X.env) fp) elt (tE Ω WF re)) (hs : ∀ x, foldedSetIterable iter X.env x = pure x) (hv : own.map (·.2) = vs) (ht2 : ∀ i ∈ tIx t, i ∈ vs) :
    PS X (.Assign [.Name y py] (.ListComp elt [⟨tg, iter, ifs, 0⟩] scope pos) spos) (tS Ω W (fun s => ((ri s).bind fun ds s => if ds.length ≤ big then (lcL vs t rc re ds s).bind fun ws s => .ok (.lst ws) s else .stuck).bind fun x s => (esc s x).bind fun x s => match putT (.nm i) x s with
      | some s => .ok .nx s
      | none => .stuck)) :=
  PS.imp (ps_setLc hc hN hy hyl hsw hi ok hg ht he hs) fun D σ H h => by
    subst hv
    exact asg_of (fun σ H Q h => tLc_of ht2 h) h
end
/-! ### loops -/
theorem s_whl {b : List Stmt} {n : Nat} (hp : PassesOwn (model X.prog X.w) X.A X.env X.xe) (hc : PT X e (tT Ω W (fun s => asB (re s)))) (hb : PSs X b (tS Ω W rb)) : PS X (.While e b [] pos) (tS Ω W (whlL (fun s => asB (re s)) rb n)) :=
  PS.imp (ps_while hp hc hb) fun D σ H h => by
    obtain ⟨φ, L, G, s, R, h⟩ := h
    refine ⟨fun m σ H => ∃ L1 G1 s, Pre L L1 ∧ Ex G G1 ∧ RelO Ω φ L1 G1 s σ H ∧ okS Ω W φ L1 G1 (whlL (fun s => asB (re s)) rb m s) fun f _ L' G' σ' H' => endD Ω D f G' L' σ' H', ⟨n, L, G, s, List.prefix_refl _, Ex.refl _, R, h⟩, ?_⟩
    rintro m σ H ⟨L1, G1, s1, l1, e1, R1, h1⟩
    cases m with
    | zero => exact h1.elim
    | succ m =>
      refine ⟨φ, L1, G1, s1, R1, okS.goE (show okS Ω W φ L1 G1 ((asB (re s1)).bind _) _ from h1) fun k s2 L2 G2 H2 l2 e2 R2 h2 => ?_⟩
      cases k with
      | false => exact okS.ok h2 R2 (List.prefix_refl _) (Ex.refl _)
      | true =>
        rw [if_pos rfl] at h2 ⊢
        refine ⟨fun σ' H' => ∃ L3 G3 s3, Pre L L3 ∧ Ex G G3 ∧ RelO Ω φ L3 G3 s3 σ' H' ∧ okS Ω W φ L3 G3 (whlL (fun s => asB (re s)) rb m s3) fun f _ L' G' σ' H' => endD Ω D f G' L' σ' H', fun σ' H' q => ⟨m, Nat.lt_succ_self _, q⟩, φ, L2, G2, s2, R2, okS.imp h2.bnd fun f s3 L3 G3 σ3 H3 l3 e3 R3 h3 => ?_⟩
        cases f with
        | nx => exact ⟨L3, G3, s3, l1.trans (l2.trans l3), e1.trans (e2.trans e3), R3, h3⟩
        | ct => exact ⟨L3, G3, s3, l1.trans (l2.trans l3), e1.trans (e2.trans e3), R3, h3⟩
        | bk => exact okS.ok h3 R3 (List.prefix_refl _) (Ex.refl _)
        | ret d => exact okS.ok h3 R3 (List.prefix_refl _) (Ex.refl _)
theorem s_for {tg iter : Expr} {b : List Stmt} {t : CT} {ri : DS → Res (List D) DS} (hp : PassesOwn (model X.prog X.w) X.A X.env X.xe) (hc : X.calm = true) (hi : PI X tg iter (tI Ω W ri)) (hg : PG X tg (tGt Ω t)) (hb : PSs X b (tS Ω W rb)) (hs : ∀ x, foldedSetIterable iter X.env x = pure x) :
    PS X (.For tg iter b [] pos) (tS Ω W (fun s => (ri s).bind fun ds s => if ds.length ≤ big then forL t rb ds s else .stuck)) :=
  PS.imp (ps_for hp hc hi hg hb hs) fun D σ H h => by
    obtain ⟨φ, L, G, s, R, h⟩ := h
    refine ⟨φ, L, G, s, R, h.goE fun ds s1 L1 G1 H1 l1 e1 R1 h1 J hJ => ?_⟩
    split at h1
    case isFalse => exact h1.elim
    refine ⟨fun i m σ H => m = ds.length - i ∧ i ≤ ds.length ∧ ∃ L2 G2 s, Pre L1 L2 ∧ Ex G1 G2 ∧ RelO Ω φ L2 G2 s σ H ∧ okS Ω W φ L2 G2 (forL t rb (ds.drop i) s) fun f _ L' G' σ' H' => endD Ω D f G' L' σ' H', ⟨ds.length, rfl, Nat.zero_le _, L1, G1, s1, List.prefix_refl _, Ex.refl _, R1, h1⟩, ?_⟩
    rintro i m σ H ⟨rfl, hi, L2, G2, s2, l2, e2, R2, h2⟩
    by_cases lt : i < ds.length
    · have go := hJ.go G2 L2 H e2 l2 R2.sub i ds[i] (List.getElem?_eq_getElem lt)
      refine .inr ⟨go.1, fun σ' H' => i + 1 ≤ ds.length ∧ ∃ L3 G3 s3, Pre L1 L3 ∧ Ex G1 G3 ∧ RelO Ω φ L3 G3 s3 σ' H' ∧ okS Ω W φ L3 G3 (forL t rb (ds.drop (i + 1)) s3) fun f _ L' G' σ' H' => endD Ω D f G' L' σ' H', fun σ' H' q => ⟨ds.length - (i + 1), by omega, rfl, q.1, q.2⟩, fun x H' y => ?_⟩
      have it : ∃ G', Ex G2 G' ∧ RelO Ω φ L2 G' s2 σ H' ∧ Rp Ω.w Ω.K G' L2 x ds[i] := by
        rcases go.2 x H' y with ⟨rfl, r⟩ | ⟨p, o, hp, rfl, r⟩
        · exact ⟨G2, Ex.refl _, R2, r⟩
        · exact ⟨upd G2 p o, Ex.new (R2.sub.none hp), R2.laid hp, r⟩
      obtain ⟨G3, x3, R3, r3⟩ := it
      rw [List.drop_eq_getElem_cons lt] at h2
      simp only [forL] at h2
      cases hp : putT t ds[i] s2 with
      | none => rw [hp] at h2; exact h2.elim
      | some s4 =>
        rw [hp] at h2
        refine ⟨_, L2, G3, _, ds[i], s4, R3, r3, hp, fun σ2 al R4 => ?_⟩
        refine ⟨φ, L2, G3, s4, R4, okS.imp (okS.bnd (h2.mono (List.prefix_refl _) x3)) fun f s5 L5 G5 σ5 H5 l5 e5 R5 h5 => ?_⟩
        cases f with
        | nx => exact ⟨lt, L5, G5, s5, l2.trans l5, e2.trans (x3.trans e5), R5, h5⟩
        | ct => exact ⟨lt, L5, G5, s5, l2.trans l5, e2.trans (x3.trans e5), R5, h5⟩
        | bk => exact okS.ok h5 R5 (List.prefix_refl _) (Ex.refl _)
        | ret d => exact okS.ok h5 R5 (List.prefix_refl _) (Ex.refl _)
    · have e : i = ds.length := by omega
      subst e
      rw [List.drop_length] at h2
      exact .inl ⟨hJ.stop G2 H e2 R2.sub _ (Nat.le_refl _), okS.ok h2 R2 (List.prefix_refl _) (Ex.refl _)⟩
end
end DL
end

section
set_option Elab.async false
set_option linter.all false
set_option autoImplicit false
set_option maxRecDepth 100000
/-! Dl16: new lists and dicts that a slot or a cell of the store holds; what changes them. -/
namespace DL
open PySem L2
variable {Ω : Om} {W : WX} {φ : Fx} {L L' : List Addr} {G G' H H' : Hp} {s : DS} {σ : St} {X : Cx}

/-- the object at a is new: nobody knows it -/
structure Fr (Ω : Om) (φ : Fx) (L : List Addr) (G : Hp) (s : DS) (σ : St) (H : Hp) (a : Addr) (m : MO) : Prop where
  g : G a = none
  l : a ∉ L
  o : ∀ i, ¬ OwnA σ s.sl i a
  f : φ.FR a = none
  at_ : MoAt Ω.w Ω.K G L H a m
theorem set_at {α : Type} {xs : List α} {i j : Nat} {x y : α} (h : (xs.set i x)[j]? = some y) : (i = j ∧ x = y) ∨ (i ≠ j ∧ xs[j]? = some y) := by
  by_cases q : i = j
  · subst q
    rw [List.getElem?_set_self'] at h
    cases z : xs[i]? with
    | none => rw [z] at h; simp at h
    | some w => rw [z] at h; left; exact ⟨rfl, by simpa using h⟩
  · rw [List.getElem?_set_ne q] at h
    exact .inr ⟨q, h⟩
theorem set_lt {α : Type} {xs : List α} {i : Nat} {x y : α} (h : (xs.set i x)[i]? = some y) : i < xs.length := by
  have := (List.getElem?_eq_some_iff.mp h).1
  simpa using this
/-- a slot takes a new object -/
theorem Rel.putOwn (R : RelO Ω φ L G s σ H) {i : Nat} {a : Addr} {m : MO} (F : Fr Ω φ L G s σ H a m) : RelO Ω φ L G (putS i (.own m) s) (σ.set i (some (.ref a))) H := by
  have own' : ∀ j b, OwnA (σ.set i (some (.ref a))) (s.sl.set i (.own m)) j b → (i = j ∧ b = a) ∨ (i ≠ j ∧ OwnA σ s.sl j b) := fun j b ⟨⟨m', h1⟩, h2⟩ => by
    rcases set_at h1 with ⟨e, _⟩ | ⟨e, h1⟩
    · subst e
      rcases set_at h2 with ⟨_, q⟩ | ⟨q, _⟩
      · exact .inl ⟨rfl, by simpa using q.symm⟩
      · exact absurd rfl q
    · rw [List.getElem?_set_ne e] at h2
      exact .inr ⟨e, ⟨m', h1⟩, h2⟩
  exact { R with
    len := by simp [putS, R.len]
    val := fun j d h => by
      rcases set_at h with ⟨_, q⟩ | ⟨e, h⟩
      · cases q
      · rw [List.getElem?_set_ne e]
        exact R.val j d h
    own := fun j m' h => by
      rcases set_at h with ⟨e, q⟩ | ⟨e, h'⟩
      · subst e
        cases q
        have lt : i < σ.length := by rw [← R.len]; exact set_lt h
        exact ⟨a, List.getElem?_set_self lt, F.g, F.l, F.at_⟩
      · rw [List.getElem?_set_ne e]
        exact R.own j m' h'
    inj := fun j k b h1 h2 => by
      rcases own' j b h1 with ⟨e1, q1⟩ | ⟨e1, q1⟩ <;> rcases own' k b h2 with ⟨e2, q2⟩ | ⟨e2, q2⟩
      · rw [← e1, ← e2]
      · subst q1; exact absurd q2 (F.o k)
      · subst q2; exact absurd q1 (F.o j)
      · exact R.inj j k b q1 q2
    frm := fun b o h => ⟨(R.frm b o h).1, (R.frm b o h).2.1, (R.frm b o h).2.2.1, fun j q => by
      rcases own' j b q with ⟨_, q1⟩ | ⟨_, q1⟩
      · subst q1; rw [F.f] at h; cases h
      · exact (R.frm b o h).2.2.2 j q1⟩
    exc := fun j c as h => by
      rcases set_at h with ⟨_, q⟩ | ⟨e, h⟩
      · cases q
      · rw [List.getElem?_set_ne e]
        exact R.exc j c as h }
/-- the store takes a new object -/
theorem Rel.cell (R : RelO Ω φ L G s σ H) {a : Addr} {m : MO} (F : Fr Ω φ L G s σ H a m) : RelO Ω φ (L ++ [a]) G { s with st := s.st ++ [m] } σ H := by
  have l : Pre L (L ++ [a]) := List.prefix_append _ _
  exact { R with
    le := R.le.trans l
    val := fun j d h => by
      obtain ⟨v, h1, h2⟩ := R.val j d h
      exact ⟨v, h1, h2.mono (Ex.refl _) l⟩
    own := fun j m' h => by
      obtain ⟨b, h1, h2, h3, h4⟩ := R.own j m' h
      refine ⟨b, h1, h2, ?_, h4.mono (Ex.refl _) l fun _ q => q⟩
      rw [List.mem_append, List.mem_singleton]
      rintro (z | rfl)
      · exact h3 z
      · exact F.o j ⟨⟨m', h⟩, h1⟩
    stl := by simp [R.stl]
    sto := fun n m' b h1 h2 => by
      by_cases q : n < s.st.length
      · rw [List.getElem?_append_left q] at h1
        rw [List.getElem?_append_left (by rw [R.stl]; exact q)] at h2
        have z := R.sto n m' b h1 h2
        exact ⟨z.1, z.2.mono (Ex.refl _) l fun _ q => q⟩
      · have e : n = s.st.length := by
          have := (List.getElem?_eq_some_iff.mp h1).1
          simp at this
          omega
        subst e
        rw [List.getElem?_append_right (Nat.le_refl _)] at h1
        rw [← R.stl, List.getElem?_append_right (Nat.le_refl _)] at h2
        simp at h1 h2
        subst h1 h2
        exact ⟨F.g, F.at_.mono (Ex.refl _) l fun _ q => q⟩
    nod := by
      rw [List.nodup_append]
      exact ⟨R.nod, by simp, fun x hx y hy => by simp at hy; subst hy; exact fun e => F.l (e ▸ hx)⟩
    frm := fun b o h => by
      obtain ⟨h1, h2, h3, h4⟩ := R.frm b o h
      refine ⟨h1, h2, ?_, h4⟩
      rw [List.mem_append, List.mem_singleton]
      rintro (z | rfl)
      · exact h3 z
      · rw [F.f] at h; cases h
    exc := fun i c as h => by
      obtain ⟨b, vs, h1, h2, h3⟩ := R.exc i c as h
      exact ⟨b, vs, h1, h2, h3.mono (Ex.refl _) l⟩ }
theorem Rel.mutOwn (R : RelO Ω φ L G s σ H) {i : Nat} {a : Addr} {m m' : MO} {o' : HO} (q : s.sl[i]? = some (.own m)) (hs : σ[i]? = some (some (.ref a))) (hm : MoAt Ω.w Ω.K G L (upd H a o') a m') : RelO Ω φ L G (putS i (.own m') s) σ (upd H a o') := by
  obtain ⟨b, e1, g1, l1, m1⟩ := R.own i m q
  rw [hs] at e1
  have eb : a = b := by simpa using e1
  subst eb
  have keep : ∀ b, b ≠ a → ∀ u, H b = some u → upd H a o' b = some u := fun b ne u h => by rw [upd_ne ne]; exact h
  have own' : ∀ j b, OwnA σ (s.sl.set i (.own m')) j b → OwnA σ s.sl j b := fun j b ⟨⟨m2, h1⟩, h2⟩ => by
    rcases set_at h1 with ⟨e, _⟩ | ⟨e, h1⟩
    · subst e; exact ⟨⟨m, q⟩, h2⟩
    · exact ⟨⟨m2, h1⟩, h2⟩
  exact { R with
    sub := fun b u h => keep b (fun e => by subst e; rw [g1] at h; cases h) u (R.sub b u h)
    len := by simp [putS, R.len]
    val := fun j d h => by
      rcases set_at h with ⟨_, z⟩ | ⟨e, h⟩
      · cases z
      · exact R.val j d h
    own := fun j m2 h => by
      rcases set_at h with ⟨e, z⟩ | ⟨e, h'⟩
      · subst e
        cases z
        exact ⟨a, hs, g1, l1, hm⟩
      · obtain ⟨b, h1, h2, h3, h4⟩ := R.own j m2 h'
        have ne : b ≠ a := fun z => e (R.inj i j a ⟨⟨m, q⟩, hs⟩ ⟨⟨m2, h'⟩, by rw [← z]; exact h1⟩)
        exact ⟨b, h1, h2, h3, h4.mono (Ex.refl _) (List.prefix_refl _) (keep b ne)⟩
    inj := fun j k b h1 h2 => R.inj j k b (own' j b h1) (own' k b h2)
    sto := fun n m2 b h1 h2 => by
      have ne : b ≠ a := fun z => l1 (by rw [← z]; exact List.mem_of_getElem? h2)
      exact ⟨(R.sto n m2 b h1 h2).1, (R.sto n m2 b h1 h2).2.mono (Ex.refl _) (List.prefix_refl _) (keep b ne)⟩
    frm := fun b o h => by
      obtain ⟨h1, h2, h3, h4⟩ := R.frm b o h
      have ne : b ≠ a := fun z => h4 i ⟨⟨m, q⟩, by rw [z]; exact hs⟩
      exact ⟨keep b ne o h1, h2, h3, fun j z => h4 j (own' j b z)⟩
    exc := fun j c as h => by
      rcases set_at h with ⟨_, z⟩ | ⟨e, h⟩
      · cases z
      · exact R.exc j c as h }
theorem Rel.mutObj (R : RelO Ω φ L G s σ H) {n : Nat} {a : Addr} {m m' : MO} {o' : HO} (q : s.st[n]? = some m) (hl : L[n]? = some a) (hm : MoAt Ω.w Ω.K G L (upd H a o') a m') : RelO Ω φ L G { s with st := s.st.set n m' } σ (upd H a o') := by
  obtain ⟨g1, m1⟩ := R.sto n m a q hl
  have la : a ∈ L := List.mem_of_getElem? hl
  have keep : ∀ b, b ≠ a → ∀ u, H b = some u → upd H a o' b = some u := fun b ne u h => by rw [upd_ne ne]; exact h
  exact { R with
    sub := fun b u h => keep b (fun e => by subst e; rw [g1] at h; cases h) u (R.sub b u h)
    own := fun j m2 h => by
      obtain ⟨b, h1, h2, h3, h4⟩ := R.own j m2 h
      have ne : b ≠ a := fun z => h3 (by rw [z]; exact la)
      exact ⟨b, h1, h2, h3, h4.mono (Ex.refl _) (List.prefix_refl _) (keep b ne)⟩
    stl := by simp [R.stl]
    sto := fun k m2 b h1 h2 => by
      rcases set_at h1 with ⟨e, z⟩ | ⟨e, h1⟩
      · subst e
        subst z
        rw [hl] at h2
        cases h2
        exact ⟨g1, hm⟩
      · have ne : b ≠ a := fun z => by
          subst z
          exact e ((List.getElem?_inj (List.getElem?_eq_some_iff.mp hl).1 R.nod).mp (hl.trans h2.symm))
        exact ⟨(R.sto k m2 b h1 h2).1, (R.sto k m2 b h1 h2).2.mono (Ex.refl _) (List.prefix_refl _) (keep b ne)⟩
    frm := fun b o h => by
      obtain ⟨h1, h2, h3, h4⟩ := R.frm b o h
      have ne : b ≠ a := fun z => h3 (by rw [z]; exact la)
      exact ⟨keep b ne o h1, h2, h3, h4⟩ }
/-- a change of what a slot or a cell holds -/
theorem mutD_of {f : MO → Option MO} {y : V} {d : D} {P : Fl → DS → List Addr → Hp → St → Hp → Prop} (R : RelO Ω φ L G s σ H) (hy : RpT Ω.w Ω.K G L σ y d) (h : okS Ω W φ L G (mutD f d s) P) :
    ∃ a m m', y = .ref a ∧ MoAt Ω.w Ω.K G L H a m ∧ f m = some m' ∧ ∀ o', MoAt Ω.w Ω.K G L (upd H a o') a m' → ∃ s', RelO Ω φ L G s' σ (upd H a o') ∧ P .nx s' L G σ (upd H a o') := by
  rcases hy with hy | ⟨i, a, rfl, rfl, hs⟩
  · cases hy with
    | @obj n a hl =>
      simp only [mutD] at h
      cases q : s.st[n]? with
      | none => rw [q] at h; exact h.elim
      | some m =>
        rw [q] at h
        simp only at h
        cases q2 : f m with
        | none => rw [q2] at h; exact h.elim
        | some m' =>
          rw [q2] at h
          exact ⟨a, m, m', rfl, (R.sto n m a q hl).2, q2, fun o' ho => ⟨_, R.mutObj q hl ho, okS.ok h (R.mutObj q hl ho) (List.prefix_refl _) (Ex.refl _)⟩⟩
    | _ => exact h.elim
  · simp only [mutD] at h
    cases q : s.sl[i]? with
    | none => rw [q] at h; exact h.elim
    | some x =>
      rw [q] at h
      cases x with
      | own m =>
        simp only at h
        cases q2 : f m with
        | none => rw [q2] at h; exact h.elim
        | some m' =>
          rw [q2] at h
          obtain ⟨b, e1, g1, l1, m1⟩ := R.own i m q
          rw [hs] at e1
          have eb : a = b := by simpa using e1
          subst eb
          exact ⟨a, m, m', rfl, m1, q2, fun o' ho => ⟨_, R.mutOwn q hs ho, okS.ok h (R.mutOwn q hs ho) (List.prefix_refl _) (Ex.refl _)⟩⟩
      | _ => exact h.elim

/-! ### new values -/
def tN (Ω : Om) (W : WX) (r : DS → Res D DS) : TE := fun σ H Q => ∃ φ L G s, RelO Ω φ L G s σ H ∧ okE Ω W φ σ L G (r s) fun d s' L' G' _ => ∀ a H'' m, moD d = some m → RelO Ω φ L' G' s' σ H'' → Fr Ω φ L' G' s' σ H'' a m → Q (.ref a) H''
theorem Fr.new (R : RelO Ω φ L G s σ H) {p : Addr} {o : HO} {m : MO} (hp : H p = none) (h : MoAt Ω.w Ω.K G L (upd H p o) p m) : Fr Ω φ L G s σ (upd H p o) p m := by
  obtain ⟨h1, h2, h3, h4⟩ := R.fresh hp
  exact ⟨h1, h2, h3, h4, h⟩
section
variable {es : List Expr} {e : Expr} {pos : Pos} {ra : DS → Res (List D) DS} {re : DS → Res D DS}
def lstR (ra : DS → Res (List D) DS) : DS → Res D DS := fun s => (ra s).bind fun ds s => if ds.length ≤ big then .ok (.lst ds) s else .stuck
theorem n_lst (h : PA X es (tA Ω W ra)) : PE X (.List es pos) (tN Ω W (lstR ra)) := PE.imp (pe_lst h) fun σ H Q h => by
  obtain ⟨φ, L, G, s, R, h⟩ := h
  refine ⟨φ, L, G, s, R, h.go fun ds s1 L1 G1 H1 l1 e1 R1 h1 vs hvs => ?_⟩
  split at h1
  case isFalse => exact h1.elim
  rename_i hb
  refine ⟨by rw [hvs.length]; exact big_ok hb, fun p hp => ?_⟩
  exact okE.ok h1 R1 (List.prefix_refl _) (Ex.refl _) p _ _ rfl (R1.alloc hp) (Fr.new R1 hp ⟨vs, upd_same, hvs⟩)
def rNw (Ω : Om) (W : WX) : R2 := fun x y H Q => ∃ φ L G s σ d e, RelO Ω φ L G s σ H ∧ RpT Ω.w Ω.K G L σ x d ∧ RpT Ω.w Ω.K G L σ y e ∧
  okE Ω W φ σ L G (.lift (catD (deref s d) (deref s e)) s) fun z s' L' G' _ => ∀ a H'' m, moD z = some m → RelO Ω φ L' G' s' σ H'' → Fr Ω φ L' G' s' σ H'' a m → Q (.ref a) H''
def catR (ra rb : DS → Res D DS) : DS → Res D DS := fun s => (ra s).bind fun x s => (rb s).bind fun y s => .lift (catD (deref s x) (deref s y)) s
theorem tOpN_of {rx ry : DS → Res D DS} {Q : VK} (h : tN Ω W (catR rx ry) σ H Q) : tOp (rNw Ω W) (tE Ω W rx) (tE Ω W ry) σ H Q := by
  obtain ⟨φ, L, G, s, R, h⟩ := h
  refine ⟨φ, L, G, s, R, h.go fun d s1 L1 G1 H1 l1 e1 R1 h1 v hv => ⟨φ, L1, G1, s1, R1, h1.go fun e s2 L2 G2 H2 l2 e2 R2 h2 u hu => ?_⟩⟩
  exact ⟨φ, L2, G2, s2, σ, d, e, R2, hv.mono e2 l2, hu, h2⟩
theorem op_catN (hK : Ω.K = X.K) : OpR X (binaryOp .Add) (rNw Ω W) := by
  intro pins sh σ0 H x y v u Q I rx ry h
  obtain ⟨φ, L, G, s, σ, d, e, R, hd, he, h⟩ := h
  have hx := deref_of hd R
  have hy := deref_of he R
  generalize deref s d = d' at h hx
  generalize deref s e = e' at h hy
  have key : ∀ xs ys, d' = .lst xs → e' = .lst ys → _ := fun xs ys h1 h2 => (⟨h1, h2⟩ : d' = .lst xs ∧ e' = .lst ys)
  rcases hx with hx | hx
  · cases hx with
    | @lst a xs ds hA r =>
      rcases hy with hy | hy
      · cases hy with
        | @lst b ys es hB r2 =>
          simp only [catD] at h
          split at h
          · rename_i hc
            rw [hK] at hA hB
            have e1 := r.length
            have e2 := r2.length
            exact op_catG pins sh σ0 H _ _ v u Q I rx ry ⟨a, b, xs, ys, rfl, rfl, hA, hB, by rw [e1, e2]; exact big_ok hc,
              fun p hp => okE.ok h R (List.prefix_refl _) (Ex.refl _) p _ _ rfl (R.alloc hp) (Fr.new R hp ⟨xs ++ ys, upd_same, r.append r2⟩)⟩
          · exact h.elim
        | _ => exact h.elim
      · cases e' <;> first | exact hy.elim | exact h.elim
    | _ => exact h.elim
  · cases d' <;> first | exact hx.elim | exact h.elim
theorem n_cat {a b : Expr} {rx ry : DS → Res D DS} (hK : Ω.K = X.K) (ha : PE X a (tE Ω W rx)) (hb : PE X b (tE Ω W ry)) : PE X (.BinOp a .Add b pos) (tN Ω W (catR rx ry)) :=
  PE.imp (pe_op (op_catN hK) ha hb) fun σ H Q h => tOpN_of h
theorem n_dic : PE X (.Dict [] [] pos) (tN Ω W (fun s => .ok (.dic [] []) s)) := PE.imp pe_dnewK fun σ H Q h => by
  obtain ⟨φ, L, G, s, R, h⟩ := h
  intro p hp
  exact okE.ok h R (List.prefix_refl _) (Ex.refl _) p _ _ rfl (R.alloc hp) (Fr.new R hp ⟨[], upd_same, rfl, .nil⟩)
section
variable {elt tg iter : Expr} {ifs : List Expr} {scope : Scope} {own : List (Str × Nat)} {vs : List Nat} {t : CT} {ri : DS → Res (List D) DS} {rc : DS → Res Bool DS} {i : Nat} {y : Str} {py spos : Pos}
def lcR (vs : List Nat) (t : CT) (ri : DS → Res (List D) DS) (rc : DS → Res Bool DS) (re : DS → Res D DS) : DS → Res D DS := fun s => (ri s).bind fun ds s => if ds.length ≤ big then (lcL vs t rc re ds s).bind fun ws s => .ok (.lst ws) s else .stuck
theorem tLcN_of {Q : VK} (hvs : ∀ i ∈ tIx t, i ∈ vs) (h : tN Ω W (lcR vs t ri rc re) σ H Q) : tLc (tI Ω W ri) (tGt Ω t) (tT Ω WF rc) (tE Ω WF re) vs σ H Q :=
  tLc_gen hvs h fun φ L G s H A acc ws R a2 g2 l2 o2 f2 r2 h2 => okE.ok h2 R (List.prefix_refl _) (Ex.refl _) A H _ rfl R ⟨g2, l2, o2, f2, acc, a2, r2⟩
theorem n_lc (hc : X.calm = true) (hN : X.N.Nodup) (hi : PI X tg iter (tI Ω W ri)) (ok : BlkOk X.N X.env.scope scope own)
    (hg : ∀ (s : Shared) (H : Hp) (C : Addr) (cl : List (Str × Addr)) (fp : List Addr), PG (X.blk s H scope (compEnvC scope cl C X.env) fp) tg (tGt Ω t)) (ht : ∀ (s : Shared) (H : Hp) (C : Addr) (cl : List (Str × Addr)) (fp : List Addr), PTs (X.blk s H scope (compEnvC scope cl C X.env) fp) ifs (tT Ω WF rc))
    (he : ∀ (s : Shared) (H : Hp) (C : Addr) (cl : List (Str × Addr)) (fp : List Addr), PE (X.blk s H scope (compEnvC scope cl C X.env) fp) elt (tE Ω WF re)) (hs : ∀ x, foldedSetIterable iter X.env x = pure x) (hv : own.map (·.2) = vs) (ht2 : ∀ i ∈ tIx t, i ∈ vs) :
    PE X (.ListComp elt [⟨tg, iter, ifs, 0⟩] scope pos) (tN Ω W (lcR vs t ri rc re)) :=
  PE.imp (pe_lc hc hN hi ok hg ht he hs) fun σ H Q h => by
    subst hv
    exact tLcN_of ht2 h
/-! ### where they go -/
def ownR (i : Nat) (re : DS → Res D DS) : DS → Res Fl DS := fun s => (re s).bind fun x s => match moD x with
    | some m => .ok .nx (putS i (.own m) s)
    | none => .stuck
theorem own_of {te : TE} {D : Ends} (hte : ∀ σ H Q, tN Ω W re σ H Q → te σ H Q) (h : tS Ω W (ownR i re) D σ H) : tAsg te (gName i) D σ H := by
  obtain ⟨φ, L, G, s, R, h⟩ := h
  refine hte _ _ _ ⟨φ, L, G, s, R, h.goE fun d s1 L1 G1 H1 l1 e1 R1 h1 a H2 m hm R2 F => ?_⟩
  rw [hm] at h1
  exact okS.ok h1 (R2.putOwn (i := i) F) (List.prefix_refl _) (Ex.refl _)
def glbR (i : Nat) (re : DS → Res D DS) : DS → Res Fl DS := fun s => (re s).bind fun x s => match moD x with
    | some m => .ok .nx { sl := s.sl.set i (.val (.obj s.st.length)), st := s.st ++ [m] }
    | none => .stuck
theorem glb_of {te : TE} {D : Ends} (hte : ∀ σ H Q, tN Ω W re σ H Q → te σ H Q) (h : tS Ω W (glbR i re) D σ H) : tAsg te (gName i) D σ H := by
  obtain ⟨φ, L, G, s, R, h⟩ := h
  refine hte _ _ _ ⟨φ, L, G, s, R, h.goE fun d s1 L1 G1 H1 l1 e1 R1 h1 a H2 m hm R2 F => ?_⟩
  rw [hm] at h1
  have R3 := R2.cell F
  have rp : Rp Ω.w Ω.K G1 (L1 ++ [a]) (.ref a) (.obj s1.st.length) := .obj (by rw [← R2.stl]; simp)
  exact okS.ok h1 (R3.put (i := i) rp) (List.prefix_append _ _) (Ex.refl _)
theorem s_own (hN : X.N.Nodup) (hi : X.N[i]? = some y) (hx : Loc X.env.scope y) (he : PE X e (tN Ω W re)) (hs : swapsWith e (some (.Name y py)) pos.line X.env = pure false) (hf : X.fn y = true ∨ X.env.scope.names.lookup y = some .local) :
    PS X (.Assign [.Name y py] e pos) (tS Ω W (ownR i re)) := PS.imp (ps_set hN hi hx he hs hf) fun D σ H h => own_of (fun _ _ _ q => q) h
theorem s_glb (hN : X.N.Nodup) (hi : X.N[i]? = some y) (hx : Loc X.env.scope y) (he : PE X e (tN Ω W re)) (hs : swapsWith e (some (.Name y py)) pos.line X.env = pure false) (hf : X.fn y = true ∨ X.env.scope.names.lookup y = some .local) :
    PS X (.Assign [.Name y py] e pos) (tS Ω W (glbR i re)) := PS.imp (ps_set hN hi hx he hs hf) fun D σ H h => glb_of (fun _ _ _ q => q) h
theorem s_retG (he : PE X e (tN Ω W re)) : PS X (.Return (some e) pos) (tS Ω W (fun s => (re s).bind fun x s => match moD x with
    | some m => .ok (.ret (.obj s.st.length)) { s with st := s.st ++ [m] }
    | none => .stuck)) := PS.imp (ps_ret he) fun D σ H h => by
  obtain ⟨φ, L, G, s, R, h⟩ := h
  refine ⟨φ, L, G, s, R, h.goE fun d s1 L1 G1 H1 l1 e1 R1 h1 a H2 m hm R2 F => ?_⟩
  rw [hm] at h1
  exact okS.ok h1 (R2.cell F) (List.prefix_append _ _) (Ex.refl _) _ (.obj (by rw [← R2.stl]; simp))
theorem s_ownLc (hc : X.calm = true) (hN : X.N.Nodup) (hy : X.N[i]? = some y) (hyl : X.env.scope.names.lookup y = some .local) (hsw : swapsWith (.ListComp elt [⟨tg, iter, ifs, 0⟩] scope pos) (some (.Name y py)) spos.line X.env = pure true)
    (hi : PI X tg iter (tI Ω W ri)) (ok : BlkOk X.N X.env.scope scope own)
    (hg : ∀ (s : Shared) (H : Hp) (C : Addr) (cl : List (Str × Addr)) (fp : List Addr), PG (X.blk s H scope (compEnvC scope cl C X.env) fp) tg (tGt Ω t)) (ht : ∀ (s : Shared) (H : Hp) (C : Addr) (cl : List (Str × Addr)) (fp : List Addr), PTs (X.blk s H scope (compEnvC scope cl C X.env) fp) ifs (tT Ω WF rc))
    (he : ∀ (s : Shared) (H : Hp) (C : Addr) (cl : List (Str × Addr)) (fp : List Addr), PE (X.blk s H scope (compEnvC scope cl C X.env) fp) elt (tE Ω WF re)) (hs : ∀ x, foldedSetIterable iter X.env x = pure x) (hv : own.map (·.2) = vs) (ht2 : ∀ i ∈ tIx t, i ∈ vs) :
    PS X (.Assign [.Name y py] (.ListComp elt [⟨tg, iter, ifs, 0⟩] scope pos) spos) (tS Ω W (ownR i (lcR vs t ri rc re))) :=
  PS.imp (ps_setLc hc hN hy hyl hsw hi ok hg ht he hs) fun D σ H h => by
    subst hv
    exact own_of (fun σ H Q h => tLcN_of ht2 h) h
end
end
end DL
end

section
set_option Elab.async false
set_option linter.all false
set_option autoImplicit false
set_option maxRecDepth 100000
/-! Dl17: append, o[k] = v, a, b = x, y. -/
namespace DL
open PySem L2
variable {Ω : Om} {W : WX} {φ : Fx} {L L' : List Addr} {G G' H H' : Hp} {s : DS} {σ : St} {X : Cx}
variable {es : List Expr} {e o k : Expr} {pos apos cpos : Pos} {ra : DS → Res (List D) DS} {re ro rk : DS → Res D DS}

def appR (ro re : DS → Res D DS) : DS → Res Fl DS := fun s => (ro s).bind fun y s => match deref s y with
    | .lst _ => (re s).bind fun x s => (esc s x).bind fun x s => mutD (appM x) y s
    | _ => .stuck
theorem s_app (hK : Ω.K = X.K) (ho : PE X o (tE Ω W ro)) (he : PE X e (tE Ω W re)) (hbase : attributeBase o "append" X.env (eval o X.env) = eval o X.env) (hline : (apos.endLine == cpos.line) = true)
    (hfew : ((backTo cpos (starEach [e] X.env)).all (fun x => !x.1) && (backToKw cpos (keywordEach [] X.env)).all (fun x => x.1.isSome) && decide (([e] : List Expr).length + ([] : List Keyword).length + (if ([] : List Keyword).isEmpty then 0 else 1) < 30)) = true)
    (hs : starEach [e] X.env = (false, eval e X.env) :: starEach [] X.env) (hw : swapsWith (.Call (.Attribute o "append" apos) [e] [] cpos) none pos.line X.env = pure false) :
    PS X (.Expr (.Call (.Attribute o "append" apos) [e] [] cpos) pos) (tS Ω W (appR ro re)) :=
  PS.imp (ps_expr (pe_bm F.plainAttrs_list F.slot_list_append F.type_list_append mt_append ho (pa_cons he pa_nil hs) hbase hfew hline hs rfl) hw) fun D σ H h => by
    obtain ⟨φ, L, G, s, R, h⟩ := h
    refine ⟨φ, L, G, s, R, h.goE fun d s1 L1 G1 H1 l1 e1 R1 h1 v hv => ?_⟩
    have h0 : ∃ ds, deref s1 d = .lst ds := by
      generalize deref s1 d = d' at h1
      cases d' with
      | lst ds => exact ⟨ds, rfl⟩
      | _ => exact h1.elim
    obtain ⟨ds, hd⟩ := h0
    have hx := deref_of hv R1
    rw [hd] at h1 hx
    have ty : tyV X.K "list" v H1 := by
      rcases hx with hx | hx
      · generalize hq : DL.D.lst ds = d' at hx
        cases hx with
        | @lst a xs ds' hA r => rw [hK] at hA; exact .inl ⟨rfl, xs, hA⟩
        | _ => cases hq
      · exact hx.elim
    refine ⟨ty, φ, L1, G1, s1, R1, h1.goE fun d2 s2 L2 G2 H2 l2 e2 R2 h2 w hw => ?_⟩
    obtain ⟨d3, s3, G3, x3, R3, r3, h3⟩ := esc_ofS R2 hw h2
    obtain ⟨a, m, m', rfl, hm, hf, go⟩ := mutD_of R3 ((hv.mono e2 l2).mono x3 (List.prefix_refl _)) h3
    cases m with
    | lst xs =>
      obtain ⟨vs, hH, hr⟩ := hm
      simp only [appM] at hf
      split at hf
      · rename_i hb
        cases hf
        refine ⟨a, vs, w, rfl, rfl, hH, by rw [hr.length]; exact Nat.lt_of_lt_of_le hb (big_ok (Nat.le_refl _)), ?_⟩
        obtain ⟨s4, R4, q⟩ := go (.lst (vs ++ [w])) ⟨_, upd_same, hr.append (.cons r3 .nil)⟩
        exact q
      · cases hf
    | _ => cases hf

/-! ### o[k] = v -/
def setA : TSet := fun o i v H Q => rSetL o i v H Q ∨ rSetD o i v H Q
theorem set_any (hu : X.A.units + 65 < cLine) : PSet X setA := fun pins s σ H o i v ov iv u Q I ro ri rv h => by
  rcases h with h | h
  · exact set_list pins s σ H o i v ov iv u Q I ro ri rv h
  · exact set_dict (by omega) pins s σ H o i v ov iv u Q I ro ri rv h
def stiR (ro rk re : DS → Res D DS) : DS → Res Fl DS := fun s => (re s).bind fun x s => (esc s x).bind fun x s => (ro s).bind fun y s => (rk s).bind fun z s => mutD (stiM z x) y s
theorem s_sti (hu : X.A.units + 65 < cLine) {tpos : Pos} (ho : PE X o (tE Ω W ro)) (hk : PE X k (tE Ω W rk)) (he : PE X e (tE Ω W re))
    (ha : ∀ v, assign (.Subscript o k tpos) X.env v = (do
      let ov ← holding [v] (eval o X.env)
      let iv ← holding [v, ov] (eval k X.env)
      standAt tpos
      holding [v, ov, iv] (setItem ov iv v)
      release [v, ov, iv] [])) (hs : swapsWithSole [.Subscript o k tpos] e pos.line X.env = pure false) (hw : swappedStores [.Subscript o k tpos] e X.env = pure none) (h1 : (assignEach [.Subscript o k tpos] X.env).map (·.2) = [assign (.Subscript o k tpos) X.env]) :
    PS X (.Assign [.Subscript o k tpos] e pos) (tS Ω W (stiR ro rk re)) := PS.imp (ps_asg he (pg_sub ho hk (set_any hu) ha) hs hw h1) fun D σ H h => by
  obtain ⟨φ, L, G, s, R, h⟩ := h
  refine ⟨φ, L, G, s, R, h.goE fun d s1 L1 G1 H1 l1 e1 R1 h1 v hv => ?_⟩
  obtain ⟨d', s', G', x, R2, r, h2⟩ := esc_ofS R1 hv h1
  refine ⟨φ, L1, G', s', R2, h2.goE fun y s3 L3 G3 H3 l3 e3 R3 h3 vo hvo => ⟨φ, L3, G3, s3, R3, h3.goE fun z s4 L4 G4 H4 l4 e4 R4 h4 vk hvk => ?_⟩⟩
  obtain ⟨a, m, m', rfl, hm, hf, go⟩ := mutD_of R4 (hvo.mono e4 l4) h4
  have r4 := (r.mono e3 l3).mono e4 l4
  cases m with
  | lst xs =>
    obtain ⟨vs, hH, hr⟩ := hm
    cases z with
    | int i =>
      have ev := int_of hvk rfl
      subst ev
      simp only [stiM, Option.map_eq_some_iff] at hf
      obtain ⟨j, hj, rfl⟩ := hf
      obtain ⟨s5, R5, q⟩ := go (.lst (vs.set j v)) ⟨_, upd_same, Rps.set r4 j hr⟩
      exact .inl ⟨a, vs, i, j, rfl, rfl, hH, by rw [hr.length]; exact hj, q⟩
    | _ => simp [stiM] at hf
  | dic ks xs =>
    obtain ⟨kvs, hH, rfl, hr⟩ := hm
    simp only [stiM] at hf
    split at hf
    · rename_i hc
      cases hf
      have hc' := Bool.and_eq_true_iff.mp hc
      obtain ⟨k, rfl, rfl⟩ := key_RpT hvk hc'.1
      obtain ⟨p1, p2⟩ := put_KD (k := k) r4 hr
      obtain ⟨s5, R5, q⟩ := go (.dK (putK kvs k v)) ⟨_, upd_same, p1, p2⟩
      have hl : kvs.length < big := by
        have := of_decide_eq_true hc'.2
        simpa [KD] using this
      exact .inr ⟨a, _, rfl, DPut.k hH (Nat.lt_of_lt_of_le hl (big_ok (Nat.le_refl _))), q⟩
    · cases hf
  | dead => exact hm.elim

/-! ### a, b = x, y -/
/-- arguments of which the last one is new -/
def tAN (Ω : Om) (W : WX) (r : DS → Res (List D) DS) : TA := fun σ H Q => ∃ φ L G s, RelO Ω φ L G s σ H ∧ okE Ω W φ σ L G (r s) fun ds s' L' G' _ => ∀ vs ds0 d m a H'', ds = ds0 ++ [d] → moD d = some m → Rps Ω.w Ω.K G' L' vs ds0 → RelO Ω φ L' G' s' σ H'' → Fr Ω φ L' G' s' σ H'' a m → Q (vs ++ [.ref a]) H''
theorem esc_new {d : D} {m : MO} (h : moD d = some m) (s : DS) : esc s d = .ok d s := by
  cases d <;> first | rfl | (simp [moD] at h; done)
theorem lastN_of {Q : List V → Hp → Prop} (h : tAN Ω W (fun s => (re s).bind fun x s => (esc s x).bind fun x s => (Res.ok [] s : Res (List D) DS).bind fun xs s => .ok (x :: xs) s) σ H Q) : tCons (tN Ω W re) tNil σ H Q := by
  obtain ⟨φ, L, G, s, R, h⟩ := h
  refine ⟨φ, L, G, s, R, h.go fun d s1 L1 G1 H1 l1 e1 R1 h1 a H2 m hm R2 F => ?_⟩
  rw [esc_new hm] at h1
  exact okE.ok (show okE Ω W φ σ L1 G1 (.ok [d] s1) _ from h1) R2 (List.prefix_refl _) (Ex.refl _) [] [] d m a H2 rfl hm .nil R2 F
theorem consN_of {rs : DS → Res (List D) DS} {Q : List V → Hp → Prop} (hne : ∀ s ds s', rs s = .ok ds s' → ds ≠ []) (h : tAN Ω W (fun s => (re s).bind fun x s => (esc s x).bind fun x s => (rs s).bind fun xs s => .ok (x :: xs) s) σ H Q) : tCons (tE Ω W re) (tAN Ω W rs) σ H Q := by
  obtain ⟨φ, L, G, s, R, h⟩ := h
  refine ⟨φ, L, G, s, R, h.go fun d s1 L1 G1 H1 l1 e1 R1 h1 v hv => ?_⟩
  obtain ⟨d', s', G', x, R2, rv, h2⟩ := esc_of R1 hv h1
  refine ⟨φ, L1, G', s', R2, h2.go fun ds s2 L2 G2 H2 l2 e2 R3 h3 vs ds0 dl m a H3 hds hm hr R4 F => ?_⟩
  subst hds
  exact okE.ok h3 R4 (List.prefix_refl _) (Ex.refl _) (v :: vs) (d' :: ds0) dl m a H3 (by simp) hm (.cons (rv.mono e2 l2) hr) R4 F
def par2R (i j : Nat) (k : Bool) (ra : DS → Res (List D) DS) : DS → Res Fl DS := fun s => (ra s).bind fun ds s => parL [(i, false), (j, k)] ds s
def par3R (i j l : Nat) (k : Bool) (ra : DS → Res (List D) DS) : DS → Res Fl DS := fun s => (ra s).bind fun ds s => parL [(i, false), (j, false), (l, k)] ds s
theorem par2_of {i j : Nat} {D : Ends} (h : tS Ω W (par2R i j false ra) D σ H) : tPar i j (tA Ω W ra) D σ H := by
  obtain ⟨φ, L, G, s, R, h⟩ := h
  refine ⟨φ, L, G, s, R, h.goE fun ds s1 L1 G1 H1 l1 e1 R1 h1 vs hvs => ?_⟩
  cases hvs with
  | nil => exact h1.elim
  | cons r1 hvs =>
    cases hvs with
    | nil => exact h1.elim
    | cons r2 hvs =>
      cases hvs with
      | cons => exact h1.elim
      | nil => exact ⟨_, _, rfl, okS.ok h1 ((R1.put (i := i) r1).put (i := j) r2) (List.prefix_refl _) (Ex.refl _)⟩
theorem Fr.put {i : Nat} {v : V} {d : DL.D} {a : Addr} {m : MO} (F : Fr Ω φ L G s σ H a m) : Fr Ω φ L G { s with sl := s.sl.set i (.val d) } (σ.set i (some v)) H a m :=
  ⟨F.g, F.l, fun j q => F.o j (own_set q).1, F.f, F.at_⟩
theorem par2N_of {i j : Nat} {D : Ends} (h : tS Ω W (par2R i j true ra) D σ H) : tPar i j (tAN Ω W ra) D σ H := by
  obtain ⟨φ, L, G, s, R, h⟩ := h
  refine ⟨φ, L, G, s, R, h.goE fun ds s1 L1 G1 H1 l1 e1 R1 h1 vs ds0 d m a H2 hds hm hvs R2 F => ?_⟩
  subst hds
  cases hvs with
  | nil => exact h1.elim
  | @cons v _ d1 _ r1 hvs =>
    cases hvs with
    | cons _ r =>
      exfalso
      cases r <;> simp only [List.cons_append, List.nil_append, parL, Bool.false_eq_true, if_false, if_true] at h1
      all_goals (generalize moD _ = z at h1; cases z <;> exact h1.elim)
    | nil =>
      simp only [List.nil_append, List.cons_append, parL, Bool.false_eq_true, if_false, if_true, hm] at h1
      exact ⟨_, _, rfl, okS.ok h1 ((R2.put (i := i) r1).putOwn (i := j) F.put) (List.prefix_refl _) (Ex.refl _)⟩
theorem par3_of {i j l : Nat} {D : Ends} (h : tS Ω W (par3R i j l false ra) D σ H) : tPar3 i j l (tA Ω W ra) D σ H := by
  obtain ⟨φ, L, G, s, R, h⟩ := h
  refine ⟨φ, L, G, s, R, h.goE fun ds s1 L1 G1 H1 l1 e1 R1 h1 vs hvs => ?_⟩
  cases hvs with
  | nil => exact h1.elim
  | cons r1 hvs =>
    cases hvs with
    | nil => exact h1.elim
    | cons r2 hvs =>
      cases hvs with
      | nil => exact h1.elim
      | cons r3 hvs =>
        cases hvs with
        | cons => exact h1.elim
        | nil => exact ⟨_, _, _, rfl, okS.ok h1 (((R1.put (i := i) r1).put (i := j) r2).put (i := l) r3) (List.prefix_refl _) (Ex.refl _)⟩
theorem par3N_of {i j l : Nat} {D : Ends} (h : tS Ω W (par3R i j l true ra) D σ H) : tPar3 i j l (tAN Ω W ra) D σ H := by
  obtain ⟨φ, L, G, s, R, h⟩ := h
  refine ⟨φ, L, G, s, R, h.goE fun ds s1 L1 G1 H1 l1 e1 R1 h1 vs ds0 d m a H2 hds hm hvs R2 F => ?_⟩
  subst hds
  cases hvs with
  | nil => exact h1.elim
  | cons r1 hvs =>
    cases hvs with
    | nil => exact h1.elim
    | cons r2 hvs =>
      cases hvs with
      | cons _ r =>
        exfalso
        cases r <;> simp only [List.cons_append, List.nil_append, parL, Bool.false_eq_true, if_false, if_true] at h1
        all_goals (generalize moD _ = z at h1; cases z <;> exact h1.elim)
      | nil =>
        simp only [List.nil_append, List.cons_append, parL, Bool.false_eq_true, if_false, if_true, hm] at h1
        exact ⟨_, _, _, rfl, okS.ok h1 (((R2.put (i := i) r1).put (i := j) r2).putOwn (i := l) F.put.put) (List.prefix_refl _) (Ex.refl _)⟩
end DL
end

section
set_option Elab.async false
set_option linter.all false
set_option autoImplicit false
set_option maxRecDepth 100000
/-! Dl18: raise; the __init__ of an own class of errors. -/
namespace DL
open PySem PySem.Spec PyProof.Rows L2
variable {Ω : Om} {W : WX} {φ : Fx} {L L' : List Addr} {G G' H H' : Hp} {s : DS} {σ : L2.St} {X : Cx}

/-- C0.__init__ read off the class: the base's -/
structure IniB (K : PySem.W.Frag) (C0 : Addr) : Prop where
  rd : PySem.W.readsIn K C0 (.type "type") = true
  ga : PySem.W.specialIn K (.ref C0) "__getattribute__" = some (some (.builtin "type.__getattribute__"))
  at_ : PySem.W.findCls K (.ref C0) (.type "type") "__init__" = some (.val (.builtin "ValueError.__init__"))
theorem pe_hinit {C0 : Addr} {x : Str} {e : Expr} {es : List Expr} {ta : TA} {pl : Sem Bool} {p1 p2 pos : Pos} (hg : Gl X x) (hm : X.mg x = some (.ref C0)) (hdb : (x == ("__debug__" : Str)) = false) (B : IniB X.K C0) (ha : PA X (e :: es) ta)
    (hc : eval (.Call (.Attribute (.Name x p1) "__init__" p2) (e :: es) [] pos) X.env = (do
      let ov ← eval (.Name x p1) X.env
      standAt p2.atName
      let (f, first) ← holding [ov] (getMethod ov "__init__" pl)
      callWith pos f first (backTo pos (starEach (e :: es) X.env)) (backToKw pos (keywordEach [] X.env))))
    (he : starEach (e :: es) X.env = (false, eval e X.env) :: starEach es X.env) (hpl : (backTo pos (starEach es X.env)).any (·.1) = false) :
    PE X (.Call (.Attribute (.Name x p1) "__init__" p2) (e :: es) [] pos) (tVeI X.K ta) := by
  refine ⟨fun pins s σ H Q I h => ?_⟩
  refine PySem.W.methodCall_KW (ld_glob I hg hm ?_ hdb) hc
  refine PySem.W.method_cls I.kIn B.ga (PySem.W.cls_value I.kIn B.rd B.at_ (by decide +kernel) ?_)
  show wpAny _ _ (callWith pos (Value.builtin "ValueError.__init__") [] (backTo pos (starEach (e :: es) X.env)) []) _ _ _
  refine PyProof.Rows.callWith_method1 (thn (ha.run pos pins _ σ H _ (I.tok _) h) fun us s1 ⟨vs, H1, I1, r1, a, C, ws, ev, hl, T, ea, q⟩ => ?_) he hpl
  subst ev
  cases r1 with
  | @cons _ u0 _ ur ra rw' =>
    obtain rfl : u0 = Value.ref a := ra
    have hlen : ur.length ≤ sizeLine := by
      rw [← Paired.length rw', sizeLine_eq]
      omega
    exact oinit_ok T I1 ea hlen fun s' J => ⟨.non, H1, J, rfl, q⟩

/-- what the __init__ of the class c does -/
def spI (Ω : Om) (c : Nat) : Sp := fun vs H Q _ => ∃ (a : Addr) (ws : List V), vs = .ref a :: ws ∧ ws.length = (Ω.fl c).length ∧ H a = some (exo a (Ω.ad c) none) ∧
  ∀ d, H d = none → d ≠ a → Q .non (upd (upd H d (exd d ((Ω.fl c).zip ws).reverse)) a (exo a (Ω.ad c) (some d)))
/-- what the written part tells of the class c -/
structure ExcK (Ω : Om) (c : Nat) : Prop where
  oex : OexC Ω.K (Ω.ad c)
  no : ∀ f ∈ Ω.fl c, PySem.W.findIn Ω.K (.ref (Ω.ad c)) f = some none
theorem upd_swap {H : Hp} {a b : Addr} {o u : HO} (h : a ≠ b) : upd (upd H a o) b u = upd (upd H b u) a o := by
  funext z
  by_cases e1 : z = a
  · subst e1
    rw [upd_same, upd_ne h, upd_same]
  · by_cases e2 : z = b
    · subst e2
      rw [upd_same, upd_ne e1, upd_same]
    · rw [upd_ne e2, upd_ne e1, upd_ne e1, upd_ne e2]
theorem upd_upd {H : Hp} {a : Addr} {o u : HO} : upd (upd H a o) a u = upd H a u := by
  funext z
  by_cases e : z = a
  · subst e; rw [upd_same, upd_same]
  · rw [upd_ne e, upd_ne e, upd_ne e]
/-- self.f = the parameter -/
def tI1 (K : PySem.W.Frag) (m f : Str) : TS := tSeq (tDrop (tVeI K (tCons (tVar 0) (tCons (tC (.str m)) tNil)))) (tOst K f (tVar 0) (tVar 1))
def tI2 (K : PySem.W.Frag) (m f g : Str) : TS := tSeq (tDrop (tVeI K (tCons (tVar 0) (tCons (tC (.str m)) tNil)))) (tSeq (tOst K f (tVar 0) (tVar 1)) (tOst K g (tVar 0) (tVar 2)))
theorem ini1_ok {c : Nat} {m f : Str} {vs : List V} {Q : VK} {E : XK} (E0 : ExcK Ω c) (hf : Ω.fl c = [f]) (h : spI Ω c vs H Q E) : tI1 Ω.K m f { nx := fun _ H' => Q .non H', rt := Q } (start ["self", f] vs) H := by
  obtain ⟨a, ws, rfl, hl, ha, hq⟩ := h
  rw [hf] at hl hq
  match ws, hl with
  | [w], _ =>
    refine ⟨.ref a, rfl, a, Ω.ad c, [.str m], rfl, by show 1 ≤ 1000; omega, E0.oex, ha, w, rfl, .ref a, rfl, a, Ω.ad c, rfl, E0.oex, E0.no f (by rw [hf]; simp), .inl ⟨ha, fun dx h1 h2 => hq dx h1 h2⟩⟩
theorem ini2_ok {c : Nat} {m f g : Str} {vs : List V} {Q : VK} {E : XK} (E0 : ExcK Ω c) (hf : Ω.fl c = [f, g]) (h : spI Ω c vs H Q E) : tI2 Ω.K m f g { nx := fun _ H' => Q .non H', rt := Q } (start ["self", f, g] vs) H := by
  obtain ⟨a, ws, rfl, hl, ha, hq⟩ := h
  rw [hf] at hl hq
  match ws, hl with
  | [w, w2], _ =>
    refine ⟨.ref a, rfl, a, Ω.ad c, [.str m], rfl, by show 1 ≤ 1000; omega, E0.oex, ha, w, rfl, .ref a, rfl, a, Ω.ad c, rfl, E0.oex, E0.no f (by rw [hf]; simp), .inl ⟨ha, fun dx h1 h2 => ?_⟩⟩
    refine ⟨w2, rfl, .ref a, rfl, a, Ω.ad c, rfl, E0.oex, E0.no g (by rw [hf]; simp), .inr ⟨dx, [(f, w)], upd_same, by rw [upd_ne h2, upd_same], by show 1 ≤ 900; omega, ?_⟩⟩
    have q := hq dx h1 h2
    have e : upd (upd (upd H dx (exd dx [(f, w)])) a (exo a (Ω.ad c) (some dx))) dx (exd dx ((g, w2) :: [(f, w)])) = upd (upd H dx (exd dx (([f, g].zip [w, w2]).reverse))) a (exo a (Ω.ad c) (some dx)) := by
      rw [upd_swap h2.symm, upd_upd]
      rfl
    rw [← e] at q
    exact q
/-- C(e, ..), C's own __init__ keeping sp; the context of the new error is None -/
theorem pmk_oexN {CX : CXT} {x : Str} {e : Expr} {es : List Expr} {ta : TA} {p pos : Pos} {C fI : Addr} {k : Nat} {fd : FuncData} {ps : List Str} {sp : Sp} (T : OexC X.K C) (iC : PySem.W.findIn X.K (.ref C) "__init__" = some (some (.ref fI))) (tI : PySem.W.typeIn X.K (.ref fI) = some (.type "function"))
    (F1 : FnOk X.prog X.w X.K X.mg X.base CX k fI fd ps sp) (hr : Room (k + 1) X.A) (hb : Binds X.K fd ps []) (hx : Passes CX X (fun _ _ _ => False)) (hg : Gl X x) (hm : X.mg x = some (.ref C)) (ha : PA X (e :: es) ta)
    (hdb : (x == ("__debug__" : Str)) = false) (he : starEach (e :: es) X.env = (false, eval e X.env) :: starEach es X.env) (hpl : (backTo pos (starEach es X.env)).any (·.1) = false) :
    L2N.PMk X (.Call (.Name x p) (e :: es) [] pos) (tMkO C sp [] ta) := by
  intro pins s σ H Q I h
  obtain ⟨nm, q, N, bs, bm, sn, sub, ab, col, dd, k0, k1, k2, k3, k5, hC, hbm⟩ := T.cls
  refine wpAny_Call_Name_kw (ld_glob I hg hm ?_ hdb)
  refine PySem.W.callWith_K (h₀ := X.base) I.ok.mod.kin T.kC (thn (ha.run pos pins s σ H _ I h) fun us s1 ⟨vs, H1, I1, r1, hz, q1⟩ => ⟨I1.kIn, ?_⟩) he hpl
  show wpAny _ _ (call (.ref C) us) _ _ _
  obtain ⟨hp, g, dr, tk, os⟩ := s1
  have hsz : hp.objs.size ≤ hp.objs.size + 1 := Nat.le_succ _
  have hn : H1 (hp.objs.size + 1) = none := I1.hok.fresh hsz
  have hq := q1 (hp.objs.size + 1) hn
  rw [List.append_nil] at hq
  have kk : ∀ b o, hp.get? b = some o → ((hp.push (PySem.W.kdv_tup us)).push (PySem.HandSPX.excO C hp.objs.size)).get? b = some o := fun b o e => Heap.get?_push_of_some _ (Heap.get?_push_of_some _ e)
  have hget : ((hp.push (PySem.W.kdv_tup us)).push (PySem.HandSPX.excO C hp.objs.size)).get? (hp.objs.size + 1) = some (PySem.HandSPX.excO C hp.objs.size) := by heap_get
  have I2 : Inv X pins σ (upd H1 (hp.objs.size + 1) (exo (hp.objs.size + 1) C none)) ⟨(hp.push (PySem.W.kdv_tup us)).push (PySem.HandSPX.excO C hp.objs.size), g, dr, tk, os⟩ :=
    I1.laid (t' := tk) (a := hp.objs.size + 1) (o := exo (hp.objs.size + 1) C none) (h' := (hp.push (PySem.W.kdv_tup us)).push (PySem.HandSPX.excO C hp.objs.size)) kk hsz (exo_ok hget)
  have r2 : Vals (V.ref (hp.objs.size + 1) :: vs) (Value.ref (hp.objs.size + 1) :: us) := .cons rfl r1
  have hl : (Value.ref (hp.objs.size + 1) :: us ++ []).length = ps.length := by
    have e := r2.length
    rw [F1.len _ _ _ _ hq] at e
    rw [List.append_nil]
    exact e.symm
  have hus : us.length ≤ sizeLine := by
    rw [← Paired.length r1, sizeLine_eq]
    omega
  have b2 := hb _ (Value.ref (hp.objs.size + 1) :: us) I2.kIn hl
  rw [List.append_nil] at b2
  refine wpAny_call (PySem.HandSPX.call_own F.excBase_ValueError (fun Y => PySem.HandSPX.refsVE_contains Y bm hbm) (I1.kIn _ _ hC) (PySem.W.looks_findIn I1.kIn iC) (fun self => PySem.W.bind_fn I1.kIn self tI) hus
    (codeAny_mono (F1.run _ X.stack _ _ ⟨Value.ref (hp.objs.size + 1) :: us, []⟩ (Value.ref (hp.objs.size + 1) :: us) _ _ (fun _ _ _ => False) (hr.make C us []) (I2.env0.make C us []) b2 r2 hq) fun r s' hq' => ?_))
  cases r with
  | error er => exact hx pins σ _ _ er s' I2 hq'
  | ok fl =>
    cases fl with
    | ret u =>
      obtain ⟨v, H2, os2, bare2, un2, hok2, rv, ev, d, fs, ea, ed, hd1, q2⟩ := hq'
      subst ev
      obtain ⟨h2, g2, d2, t2, os'⟩ := s'
      obtain ⟨t0, G, J, kG, ge, hoe, na⟩ := mk_end0 (d2 := d2) (t2 := t2) I1 hsz kk un2 hok2 os2 bare2 ea ed hd1
      refine ⟨rv, ⟨hp.objs.size + 1, _, _, ⟨G, g2, d2, t2, os'⟩, _, .ref C, some d, rfl, J, kG, ge, hoe, ⟨rfl, rfl, fun vs hv => ?_⟩, rfl, rfl, na, rfl, bare2, raises_own T.exC T.tyC, q2⟩⟩
      cases hv
      rfl
    | next => exact False.elim hq'
    | brk => exact False.elim hq'
    | cont => exact False.elim hq'
/-- what a raise asks of the class c, named x -/
structure RaiOk (Ω : Om) (X : Cx) (x : Str) (c : Nat) : Prop where
  gl : X.mg x = some (.ref (Ω.ad c))
  rs : Raises X (.ref (Ω.ad c))
  kp : PySem.W.keepIn X.K (.ref (Ω.ad c)) = true
  wa : Ω.fl c ≠ [] → ∃ (fI : Addr) (k : Nat) (fd : FuncData) (ps : List Str), OexC X.K (Ω.ad c) ∧ PySem.W.findIn X.K (.ref (Ω.ad c)) "__init__" = some (some (.ref fI)) ∧ PySem.W.typeIn X.K (.ref fI) = some (.type "function") ∧
    FnOk X.prog X.w X.K X.mg X.base (L2N.CX X.prog X.w) k fI fd ps (spI Ω c) ∧ Room (k + 1) X.A ∧ Binds X.K fd ps []
  w0 : Ω.fl c = [] → ∃ (B newId initId : String) (bmB : List Value), ∃ (_ : ExcBaseFacts B newId initId bmB), PySem.W.excIn X.K (Ω.ad c) bmB newId = true
def raiR (c : Nat) (ra : DS → Res (List D) DS) : DS → Res Fl DS := fun s => (ra s).bind fun ds s => .exc c ds s
section
variable {x : Str} {c : Nat} {e : Expr} {es : List Expr} {p pos pos' : Pos} {ra : DS → Res (List D) DS}
theorem s_rai (hc : X.calm = true) (tk : L2N.Takes X W) (C : RaiOk Ω X x c) (hne : Ω.fl c ≠ []) (hn : ∀ s ds s', ra s = .ok ds s' → ds.length = (Ω.fl c).length ∧ ds.length ≤ 1000) (hg : Gl X x) (hdb : (x == ("__debug__" : Str)) = false) (ha : PA X (e :: es) (tA Ω W ra))
    (he : starEach (e :: es) X.env = (false, eval e X.env) :: starEach es X.env) (hpl : (backTo pos (starEach es X.env)).any (·.1) = false) : PS X (.Raise (some (.Call (.Name x p) (e :: es) [] pos)) none pos') (tS Ω W (raiR c ra)) := by
  obtain ⟨fI, k, fd, ps, T, iC, tI, F, hr, hb⟩ := C.wa hne
  refine PS.imp (L2N.ps_raise hc tk (pmk_oexN T iC tI F hr hb (fun _ _ _ _ _ _ _ h => by
    obtain ⟨_, _, _, _, _, _, _, _, _, _, _, _, z⟩ := h
    exact z.elim) hg C.gl ha hdb he hpl)) fun D σ H h => ?_
  obtain ⟨φ, L, G, s, R, h⟩ := h
  unfold raiR at h
  have h' : okE Ω W φ σ L G (ra s) fun ds s' L' G' H' => ds.length = (Ω.fl c).length ∧ ds.length ≤ 1000 ∧ okS Ω W φ L' G' (.exc c ds s' : Res Fl DS) fun f _ L' G' σ' H' => endD Ω D f G' L' σ' H' := by
    have z : okE Ω W φ σ L G (ra s) _ := okS.e h
    cases q : ra s with
    | ok ds s' =>
      rw [q] at z
      exact fun L2 G2 H2 a b c => ⟨(hn _ _ _ q).1, (hn _ _ _ q).2, z L2 G2 H2 a b c⟩
    | exc c2 as2 s2 => rw [q] at z; exact z
    | stuck => rw [q] at z; exact z
  refine ⟨φ, L, G, s, R, h'.imp fun ds s1 L1 G1 H1 l1 e1 R1 h1 vs hvs => ?_⟩
  obtain ⟨n1, n2, h1⟩ := h1
  refine ⟨by rw [hvs.length]; exact n2, fun a ha => ?_⟩
  refine ⟨a, vs ++ [], rfl, by rw [List.append_nil, hvs.length]; exact n1, upd_same, fun d hd hda => ?_⟩
  have hd1 : H1 d = none := by rw [upd_ne hda] at hd; exact hd
  refine ⟨rfl, d, _, upd_same, by rw [upd_ne hda, upd_same], hd1, ?_⟩
  have eh : upd (del (upd (upd (upd H1 a (exo a (Ω.ad c) none)) d (exd d ((Ω.fl c).zip (vs ++ [])).reverse)) a (exo a (Ω.ad c) (some d))) a) d (.xd ((Ω.fl c).zip (vs ++ [])).reverse) = upd H1 d (.xd ((Ω.fl c).zip vs).reverse) := by
    funext z
    by_cases q1 : z = d
    · subst q1; rw [upd_same, upd_same, List.append_nil]
    · rw [upd_ne q1, upd_ne q1]
      by_cases q2 : z = a
      · subst q2; rw [del_same, ha]
      · rw [del_ne q2, upd_ne q2, upd_ne q1, upd_ne q2]
  rw [eh]
  have R2 := R1.alloc (o := .xd ((Ω.fl c).zip vs).reverse) hd1
  exact h1 L1 G1 σ _ _ _ (List.prefix_refl _) (Ex.refl _) R2 ⟨rfl, .inr ⟨d, vs, rfl, n1, upd_same, (R1.fresh hd1).1, hvs⟩⟩
end
end DL
end

section
set_option Elab.async false
set_option linter.all false
set_option autoImplicit false
set_option maxRecDepth 100000
/-! Dl19: while an error is handled: a, b = x, y; e.f; isinstance(e, C); try with several named clauses. -/
namespace DL
open PySem PySem.Spec PyProof.Rows L2 HotX

section
variable {prog : Program} {w : World} {A : Around} {E : Value → Shared → Prop} {s : Shared}
theorem next_tuple_end_hot {it t x1 : Addr} {i : Nat} {items : Array Value} {Q : Option Value → Shared → Prop} (hot : HotAt A x1 s.heap) (hne : x1 ≠ it)
    (hit : IsTupIter s.heap it t i) (ht : IsTup s.heap t items) (hx : items[i]? = none)
    (hQ : ∀ h', Heap.ExtBut it s.heap h' → Q none { s with heap := h' }) : wpAny (model prog w) A (pyNext (.ref it)) Q E s := by
  obtain ⟨o, ho, hc, hd⟩ := id hit
  obtain ⟨ol, hol, _, nl, hdl⟩ := ht
  obtain ⟨hh, o1, vs1, h1, d1, c1⟩ := hot
  unfold pyNext
  refine wpAny_bind (wpAny_attempt (wpAny_callSpecial?_slot (name := Str.ofString "__next__") hit.typeIs slot_tupleiter_next
    (wpAny_call_entry slot_tupleiter_next hit.typeIs entry_tupleiter_next ?_ (args_tupleiter_next _))))
  show wpAny _ _ (field (.ref it) 0 >>= _) _ _ s
  refine wpAny_bind (wpAny_field ho hd (x := .ref t) rfl ?_)
  show wpAny _ _ (if (Value.ref t == Value.none) = true then _ else _) _ _ s
  rw [if_neg (show ¬ ((Value.ref t == Value.none) = true) from Bool.false_ne_true)]
  show wpAny _ _ (field (.ref it) 1 >>= _) _ _ s
  refine wpAny_bind (wpAny_field ho hd (x := .int i 0) rfl ?_)
  show wpAny _ _ (seqItems? (.ref t) >>= _) _ _ s
  refine wpAny_bind (wpAny_seqItems hol hdl ?_)
  simp only [Int.toNat_natCast, hx]
  refine wpAny_bind (wpAny_rule (wpAny_bind (wpAny_setField ho hd (by simp) ?_)))
  show wpAny _ _ (newExc (.type "StopIteration") [] >>= _) _ _ _
  refine wpAny_bind ?_
  simp only [newExc, newTuple]
  refine wpAny_bind (wpAny_newObj_type ?_ (by size_fits))
  refine wpAny_bind (m := firstArgMember _ _) (wpAny_of_eq (a := Value.none) (by first | rfl | (simp only [firstArgMember]; rfl)) ?_)
  refine wpAny_newObj_type ?_ (by size_fits)
  have k1 : ∀ {h : Heap}, Heap.SameBut it s.heap h → h.get? x1 = some o1 := fun sb => (sb.2 _ hne).trans h1
  refine raiseNew_hot (x1 := x1) ⟨hh, o1, vs1, Heap.get?_push_of_some _ (Heap.get?_push_of_some _ (k1 (Heap.SameBut.update ..))), d1, c1⟩ (Nat.ne_of_lt (Heap.lt_size (Heap.get?_push_of_some _ (k1 (Heap.SameBut.update ..))))) (Heap.get?_push_size _ rfl) rfl (by first | (simp; done) | (simp; omega) | (simp only [Array.size_append]; simp; omega)) ?_
  refine wpAny_bind (wpAny_isInstance (T := "StopIteration") (b := true) ⟨_, Heap.get?_update_self _ (Heap.get?_push_size _ rfl) rfl, rfl⟩ isSubtype_stop ?_)
  refine wpAny_pure (hQ _ fun b o hb e => ?_)
  have kk : ∀ {h : Heap}, Heap.SameBut it s.heap h → h.get? b = some o := fun sb => (sb.2 b hb).trans e
  rw [Heap.get?_update_other _ _ (Nat.ne_of_gt (Heap.lt_size (Heap.get?_push_of_some _ (kk (Heap.SameBut.update ..)))))]
  exact Heap.get?_push_of_some _ (Heap.get?_push_of_some _ (kk (Heap.SameBut.update ..)))
theorem unpackItems_hot {t x1 : Addr} {items : Array Value} {Q : List Value → Shared → Prop} (hot : HotAt A x1 s.heap) (ht : IsTup s.heap t items)
    (hQ : ∀ h', Heap.ExtBut s.heap.objs.size s.heap h' → Q items.toList { s with heap := h' }) : wpAny (model prog w) A (unpackItems (.ref t) items.size none) Q E s := by
  have hlt : t ≠ s.heap.objs.size := by obtain ⟨o, ho, _⟩ := ht; exact Nat.ne_of_lt (Heap.lt_size ho)
  have hx1 : x1 ≠ s.heap.objs.size := by obtain ⟨_, o, _, ho, _⟩ := hot; exact Nat.ne_of_lt (Heap.lt_size ho)
  unfold unpackItems
  refine wpAny_bind ?_
  · unfold notIterableAtAll
    refine wpAny_bind (wpAny_specialOf ht.typeIs slot_tuple_iter.lookup ?_)
    refine wpAny_pure ?_
    simp only [Bool.false_eq_true, if_false]
    refine wpAny_bind (wpAny_holding (iter_tuple ht ?_))
    refine wpAny_bind (wpAny_holding (draw_tuple hlt items.size 0 _ _ ⟨_, Heap.get?_push_size _ rfl, rfl, rfl⟩ (ht.push _) (by omega) fun h₁ hit₁ hs₁ => ?_))
    have hall : List.take items.size (List.drop 0 items.toList) = items.toList := by
      rw [List.drop_zero]; exact List.take_of_length_le (by simp)
    rw [hall]
    rw [if_neg (by simp)]
    have ht₁ : IsTup h₁ t items := (ht.push _).extBut hs₁.extBut hlt
    have hot1 : HotAt A x1 h₁ := by
      obtain ⟨hh, o, vs, ho, d, c⟩ := hot
      exact ⟨hh, o, vs, (hs₁.2 x1 hx1).trans (Heap.get?_push_of_some _ ho), d, c⟩
    refine wpAny_bind (wpAny_holding (next_tuple_end_hot hot1 hx1 hit₁ ht₁ (by simp) fun h₂ he₂ => ?_))
    simp only [Option.isSome_none, Bool.false_eq_true, if_false]
    refine wpAny_pure (hQ h₂ fun b o hb e => he₂ b o hb (hs₁.extBut b o hb (Heap.get?_push_of_some _ e)))
end
section
variable {X : Cx} {pos : Pos}
theorem ps_parH {i j : Nat} {x y : Str} {a b : Expr} {ta : TA} {px py pt : Pos} {kt k2 pt2} (hc : L2H.HotC X) (hN : X.N.Nodup) (hi : X.N[i]? = some x) (hj : X.N[j]? = some y) (hij : i ≠ j)
    (hx : X.env.scope.names.lookup x = some .local) (hy : X.env.scope.names.lookup y = some .local) (ha : PA X [a, b] ta)
    (hw : swappedStores [.Tuple [.Name x px, .Name y py] kt pt] (.Tuple [a, b] k2 pt2) X.env = pure (some [x, y]))
    (hs : swapsWithSole [.Tuple [.Name x px, .Name y py] kt pt] (.Tuple [a, b] k2 pt2) pos.line X.env = pure false := by rfl) :
    PS X (.Assign [.Tuple [.Name x px, .Name y py] kt pt] (.Tuple [a, b] k2 pt2) pos) (tPar i j ta) := by
  refine ⟨fun pins s σ H D I h => ?_⟩
  rw [exec_Assign_arm]
  refine wpAny_bind (wpAny_standAt ?_)
  rw [hs]
  refine wpAny_bind (wpAny_pure ?_)
  rw [if_neg (by decide)]
  refine wpAny_bind (Tuple_ (thn (ha.run _ pins s σ H _ I h) fun us s1 ⟨vs, H1, I1, r1, q1⟩ => ?_))
  obtain ⟨v, w, e1, q1⟩ := q1
  subst e1
  obtain ⟨u1, u2, rfl, rv, rw'⟩ : ∃ u1 u2, us = [u1, u2] ∧ RelV v u1 ∧ RelV w u2 := by
    cases r1 with
    | cons p q =>
      cases q with
      | cons p' q' =>
        cases q'
        exact ⟨_, _, rfl, p, p'⟩
  refine wpAny_newObj_type ?_ (by show 2 ≤ sizeLine; decide)
  have I2 : Inv X pins σ H1 { s1 with heap := s1.heap.push { cls := .type "tuple", data := .seq [u1, u2].toArray } } := I1.kept (t' := s1.toks) fun b o e => Heap.get?_push_of_some _ e
  rw [hw]
  refine wpAny_bind (wpAny_pure ?_)
  show wpAny (model X.prog X.w) X.A (do rule "assign.swapped-stores"; let items ← unpackItems (.ref s1.heap.objs.size) 2 none; assignInOrder [fun v => bindName X.env y v, fun v => bindName X.env x v] items.reverse; pure Flow.next) _ _ _
  obtain ⟨x1, hot⟩ := hc.at I2
  refine wpAny_bind (wpAny_rule (wpAny_bind (unpackItems_hot (items := #[u1, u2]) hot (IsTup.new s1.heap _) fun h' hx' => ?_)))
  have I3 := I2.kept (h' := h') (t' := s1.toks) fun b o e => hx' b o (Nat.ne_of_lt (Heap.lt_size e)) e
  show wpAny _ _ (assignInOrder [fun v => bindName X.env y v, fun v => bindName X.env x v] [u2, u1] >>= fun _ => pure Flow.next) _ _ _
  refine wpAny_bind (assignInOrder_cons (wpAny_bindName (store_ok I3 hN hj (.inl hy) rw' (fun s2 I4 => ?_) (.inr hy))))
  refine assignInOrder_cons (wpAny_bindName (store_ok I4 hN hi (.inl hx) rv (fun s3 I5 => assignInOrder_nil (wpAny_pure ?_)) (.inr hx)))
  rw [List.set_comm _ _ (Ne.symm hij)] at I5
  exact ⟨_, H1, I5, q1⟩
end
/-- what the clauses wish of an error of the body, one after the other; slot i is the clause's name -/
def wN (K : PySem.W.Frag) (Wout : WX) (D : Ends) : List (Value × Nat × (Addr → Value → Option Addr → TS)) → WX
  | [] => Wout
  | (c, i, ts) :: r => fun cls d σ H => ∃ b, PySem.W.exmOne K cls c = some b ∧ (b = true → ∀ a, H a = none → ts a cls d { nx := fun σ' H' => D.nx (σ'.set i none) H', rt := D.rt, bk := fun σ' H' => D.bk (σ'.set i none) H', ct := fun σ' H' => D.ct (σ'.set i none) H' } (σ.set i (some (.ref a))) H) ∧ (b = false → wN K Wout D r cls d σ H)
inductive HdsN (X : Cx) : List ExceptHandler → List (Value × Nat × (Addr → Value → Option Addr → TS)) → Prop
  | nil : HdsN X [] []
  | cons {x n : Str} {c : Value} {i : Nat} {ts : Addr → Value → Option Addr → TS} {b₀ : Stmt} {suite : List Stmt} {np pos' : Pos} {hds : List ExceptHandler} {l : List (Value × Nat × (Addr → Value → Option Addr → TS))} (hi : X.N[i]? = some n) (hln : X.env.kindOf n = some .local) (hc : Names X x c)
      (hsu : ∀ (a : Addr) (oe : Obj) (cls : Value) (d : Option Addr) (pn : List (Addr × Obj)), L2N.Zn cls d oe → (∃ vs, oe.data = .fields vs) → PSs (X.suite a ((a, oe) :: pn)) (b₀ :: suite) (ts a cls d)) (r : HdsN X hds l) :
      HdsN X (.ExceptHandler (some (.Name x np)) (some n) (b₀ :: suite) pos' :: hds) ((c, i, ts) :: l)
open L2N in
section
variable {X : Cx} {body : List Stmt} {h₀ : ExceptHandler} {hds : List ExceptHandler} {l : List (Value × Nat × (Addr → Value → Option Addr → TS))} {pos : Pos} {tb : WX → TS} {Wout : WX}
theorem ps_try_named (hs : X.stack = X.env :: X.outer) (hN : X.N.Nodup) (hf : X.env.frame = some X.env.locals) (tk : L2N.Takes X Wout)
    (hb : ∀ (W : WX) (pn : List (Addr × Obj)) (xe : Value → Shared → Prop), L2N.Takes (X.tr pn xe) W → PassesOwn (model X.prog X.w) X.A X.env xe → PSs (X.tr pn xe) body (tb W))
    (hh : HdsN X (h₀ :: hds) l) : PS X (.Try body (h₀ :: hds) [] [] pos) (fun D σ H => tb (wN X.K Wout D l) D σ H) := by
  refine ⟨fun pins s σ H D I h => ?_⟩
  have ok := I.ok
  have hfr : X.A.frames = some (X.env :: X.outer) := by rw [ok.frames, hs]
  refine wpAny_Try_except ?_
  refine wpAny_mono ((hb (wN X.K Wout D l) (X.pn ++ pins) (fun e s₁ => wpAny (model X.prog X.w) X.A (noteFrame e X.env) (fun _ s₂ => wpAny (model X.prog X.w) X.A (setFlight e none) (fun _ s₃ =>
    wpAny (model X.prog X.w) X.A (handleBy e X.env (h₀ :: hds)) (SP X pins D) X.xe s₃) X.xe s₂) X.xe s₁) (fun u s' xx => ?_) PassesOwn.looking).run [] s σ H D (I.toTry _) h) (fun f s1 hsp => ?_) (fun e s1 he => he)
  · -- the catch
    obtain ⟨a, B, sI, pins', σ', H', cls, d, rfl, J', nb, up, sky, na, os, ag, w⟩ := xx
    have J : Inv X pins σ' H' sI := J'.ofTry ok
    have sky' : Sky B (X.env :: X.outer) a (Zn cls d) X.env.locals s'.heap := by rw [← hs]; exact sky
    show wpAny (model X.prog X.w) X.A (noteFrame (.ref a) X.env) _ _ _
    refine Sky.land Zn.steady hfr hf sky' fun h3 fl3 up3 => ?_
    have J3 : Inv X pins σ' H' { s' with heap := h3 } := J.landed nb fl3.1 (up.trans up3) os ag
    obtain ⟨oe3, vs3, he3, hz3, hd3⟩ := fl3.there
    have notFr : ∀ {h : Heap} {o : Obj} {vs : Array Value}, h.FunFrames B (X.env :: X.outer) → h.get? a = some o → o.data = .fields vs → a ∉ frs (X.env :: X.outer) := fun {h o vs} ff e dd hm => by
      obtain ⟨_, o', e', hnf⟩ := ff.mem hm
      rw [e] at e'; cases e'
      exact hnf _ dd
    have nfr := notFr fl3.2.2.1 he3 hd3
    have nL : a ≠ X.env.locals := fun z => nfr (List.mem_filterMap.mpr ⟨X.env, List.mem_cons_self, by rw [hf, z]⟩)
    have nF : a ∉ X.fs := fun hm => by
      obtain ⟨e, he, q⟩ := List.mem_filterMap.mp hm
      exact nfr (List.mem_filterMap.mpr ⟨e, List.mem_cons_of_mem _ he, q⟩)
    have S3 := J3.suite he3 hd3 na nL nF
    have go : ∀ {hds' : List ExceptHandler} {l' : List (Value × Nat × (Addr → Value → Option Addr → TS))}, HdsN X hds' l' → wN X.K Wout D l' cls d σ' H' →
        wpAny (model X.prog X.w) X.A (handleBy (.ref a) X.env hds') (SP X pins D) X.xe { s' with heap := h3 } := by
      intro hds' l' hk
      induction hk with
      | nil =>
        intro w
        refine wpAny_handleBy_nil ?_
        obtain ⟨k1, k2, k3, oe, vs, T, oT, ts', he, hz, hd, h1, hr⟩ := id fl3
        unfold PySem.passOn
        refine wpAny_bind (wpAny_field he hd h1 ?_)
        rw [if_neg (show ¬ ((Value.ref T == Value.none) = true) from by simp)]
        have fin : wpAny (model X.prog X.w) X.A (setFlight (.ref a) X.env.frame) (fun _ s4 => wpAny (model X.prog X.w) X.A (throw (.ref a) : Sem Flow) (SP X pins D) X.xe s4) X.xe { s' with heap := h3 } := by
          rw [hf]
          refine HandSPX.setFlight_upZ fl3 fun h4 hh4 up4 => wpAny_throw (tk _ _ ?_)
          exact ⟨a, B, sI, pins, σ', H', cls, d, rfl, J, nb, (up.trans up3).trans up4, .inr (.inr (by rw [hs]; exact hh4)), na, os, ag, w⟩
        first
          | exact wpAny_bind (wpAny_pure (wpAny_bind fin))
          | exact wpAny_bind fin
      | @cons x n c i ts b₀ suite np pos' hds2 l2 hi hln hc hsu r ih =>
        intro w
        obtain ⟨b, hb1, hyes, hno⟩ := w
        refine wpAny_handleBy_cons (codeAny_handlers_test ?_) (by intro q; cases q)
        have LT : PySem.W.Looks (model X.prog X.w) h3 (typeOf (.ref a)) cls := fun A Q E s k q => wpAny_typeOf_ref (k _ _ he3) (by rw [hz3.1]; exact q)
        have LM := PySem.W.exm_one (M := model X.prog X.w) (J3.kIn) LT hb1
        have test : ∀ {Q : Value → Shared → Prop} {E : Value → Shared → Prop}, Q c { s' with heap := h3 } → wpAny (model X.prog X.w) (X.A.mark (some (.ref a))) (eval (.Name x np) X.env) Q E { s' with heap := h3 } := fun {Q E} q => by
          obtain ⟨hg, hdbg, hm | ⟨hm, hv, hnn⟩⟩ := hc
          · exact ld_glob (X := X.suite a ((a, oe3) :: (X.pn ++ pins))) S3 hg hm q hdbg
          · exact ld_blt (X := X.suite a ((a, oe3) :: (X.pn ++ pins))) S3 hg hm hv q hnn hdbg
        refine test (LM.here ?_)
        cases b with
        | true =>
          refine codeAny_handlers_suite_as ?_
          refine HandSPX.lands_againZ fl3 fun h4 fl4 up4 => ?_
          have J4 : Inv X pins σ' H' { s' with heap := h4 } := J.landed nb fl4.1 ((up.trans up3).trans up4) os ag
          obtain ⟨oe4, vs4, he4, hz4, hd4⟩ := fl4.there
          have S4 := J4.suite he4 hd4 na nL nF
          refine store_ok (X := X.suite a ((a, oe4) :: (X.pn ++ pins))) (v := .ref a) S4 hN hi (.inl hln) rfl (fun s5 S5 => ?_) (.inr hln)
          refine wpAny_mono ((hsu a oe4 cls d (X.pn ++ pins) hz4 ⟨_, hd4⟩).run [] s5 _ H' _ S5 (hyes rfl a na)) (fun f s6 hsp => ?_) (fun _ _ z => False.elim z)
          have end_ : ∀ {σ6 : St} {H6 : Hp} {Q : Shared → Prop}, Inv (X.suite a ((a, oe4) :: (X.pn ++ pins))) [] σ6 H6 s6 → (∀ s7, Inv X pins (σ6.set i none) H6 s7 → Q s7) →
              wpAny (model X.prog X.w) X.A (do bindName X.env n .none; unbindBehindTheSuite X.env n pos') (fun _ s7 => Q s7) X.xe s6 := fun {σ6 H6 Q} S6 hq => gone_ok (S6.unsuite ok) hN hi hln hq
          cases f with
          | next =>
            obtain ⟨σ6, H6, S6, q6⟩ := hsp
            exact end_ S6 fun s7 J7 => ⟨_, _, J7, q6⟩
          | brk =>
            obtain ⟨σ6, H6, S6, q6⟩ := hsp
            exact end_ S6 fun s7 J7 => ⟨_, _, J7, q6⟩
          | cont =>
            obtain ⟨σ6, H6, S6, q6⟩ := hsp
            exact end_ S6 fun s7 J7 => ⟨_, _, J7, q6⟩
          | ret u =>
            obtain ⟨v6, σ6, H6, S6, r6, q6⟩ := hsp
            exact end_ S6 fun s7 J7 => ⟨_, _, _, J7, r6, q6⟩
        | false =>
          show wpAny _ X.A (handleBy (.ref a) X.env hds2) _ _ _
          exact ih (hno rfl)
    exact go hh w
  · cases f with
    | next =>
      obtain ⟨σ', H', J', q⟩ := hsp
      exact wpAny_execs_nil ⟨σ', H', J'.ofTry ok, q⟩
    | brk =>
      obtain ⟨σ', H', J', q⟩ := hsp
      exact ⟨σ', H', J'.ofTry ok, q⟩
    | cont =>
      obtain ⟨σ', H', J', q⟩ := hsp
      exact ⟨σ', H', J'.ofTry ok, q⟩
    | ret u =>
      obtain ⟨v, σ', H', J', r, q⟩ := hsp
      exact ⟨v, σ', H', J'.ofTry ok, r, q⟩
end
end DL
end

section
set_option Elab.async false
set_option linter.all false
set_option autoImplicit false
set_option maxRecDepth 100000
/-! Dl20: what an except suite says: e.f, isinstance(e, C); try. -/
namespace DLX
open PySem PySem.Spec PySem.Calls PyProof.Rows PySem.W
section
variable {prog : Program} {w : World} {A : Around} {E : Value → Shared → Prop} {s : Shared} {K : Frag} {x D : Addr} {ox : Obj}
theorem findObj_dataG {C : Addr} {od : Option Obj} {name : Str} {a g : Value} (hc : (clsIn K C).isSome = true) (ha : findIn K (.ref C) name = some (some a)) (hg : specialIn K a "__get__" = some (some g)) (ht : takesIn K a = some true) : findObj K C od name = some (.bind g a) := by
  obtain ⟨cd, hc⟩ := Option.isSome_iff_exists.mp hc
  unfold findObj
  rw [hc, Option.bind_some, ha, Option.bind_some]
  simp [hg, ht]
theorem kin_classG {Q : Option Value → Shared → Prop} {od : Option Obj} (hga : findIn K (.ref D) "__getattribute__" = some (some (.builtin "BaseException.__getattribute__"))) (hgt : findIn K (.ref D) "__getattr__" = some none) (hsub : subIn K (.ref D) (.type "BaseException") = some true)
    (hdct : hasDictIn K D = true) (ha : findIn K (.ref D) "__class__" = some (some (.builtin "object.__class__")))
    (hn : specialIn K (.builtin "object.__class__") "__get__" = some (some (.builtin "getset_descriptor.__get__"))) (htk : takesIn K (.builtin "object.__class__") = some true) (hm : mroIn K D (.type "object") = some true)
    (X : K.In s.heap) (I : InstAt s.heap x ox D od) (h : Q (some (.ref D)) { s with toks := s.toks + 1 }) : wpAny (model prog w) A (getAttr? (.ref x) "__class__") Q E s := by
  have hf : findObj K D od "__class__" = some (.bind (.builtin "getset_descriptor.__get__") (.builtin "object.__class__")) := findObj_dataG (by obtain ⟨cd, hc, _⟩ := any_some hdct; rw [hc]; rfl) ha hn htk
  obtain ⟨hp, g, d, t, os⟩ := s
  have L0 := I.type (M := model prog w)
  have L1 := looks_findIn (M := model prog w) X hga
  have L2 := looks_findIn (M := model prog w) X hgt
  have L3 := looks_find (M := model prog w) X I hf
  have sub : Looks (model prog w) hp (isInstance (.ref x) (.type "BaseException")) true := L0.andThen (looks_subIn X hsub)
  have hx0 : (false && onTheHeap (Value.builtin "BaseException.__getattribute__")) = false := rfl
  have hx2 : (Value.builtin "BaseException.__getattribute__" == Value.builtin "object.__getattribute__") = false := by decide +kernel
  have hx1 : (onTheHeap (Value.ref D) && Value.builtin "BaseException.__getattribute__" == Value.builtin "object.__getattribute__") = false := by rw [hx2]; rfl
  unfold getAttr? getAttrBy? getAttrBy
  refine wpAny_bind (wpAny_mkText (wpAny_bind (wpAny_attempt (wpAny_holding (wpAny_bind (L0.at (wpAny_bind (L1.at ?_))))))))
  show wpAny _ _ (if (onTheHeap (Value.ref D) && Value.builtin "BaseException.__getattribute__" == Value.builtin "object.__getattribute__") = true then _ else _) _ _ _
  rw [hx1, if_neg Bool.false_ne_true]
  unfold getAttrByItsOwn hookBefore
  refine wpAny_bind ?_
  rw [if_pos (show onTheHeap (Value.ref D) = true from rfl)]
  refine L2.at ?_
  refine wpAny_bind (wpAny_attempt (wpAny_holding ?_))
  unfold callGetattribute
  rw [hx0, if_neg Bool.false_ne_true]
  unfold boundAndCalled
  rw [PySem.F.excAttr_ValueError.ga.bind (.ref x)]
  refine wpAny_bind (wpAny_pure ?_)
  show wpAny _ _ (call (.builtin "BaseException.__getattribute__") [.ref x, .str "__class__" t]) _ _ _
  refine wpAny_call (codeAny_call_builtin PySem.F.excAttr_ValueError.ga.plain PySem.F.entry_bexc_ga ?_)
  refine @check_slot (model prog w) _ _ ⟨hp, g, d, t + 1, os⟩ "BaseException.__getattribute__" "BaseException" "__getattribute__" (.ref x) [.str "__class__" t] [] _ (by decide +kernel) (by decide +kernel) sub (PySem.F.args_bexc_ga (.ref x) (.str "__class__" t)) ?_
  unfold Builtin.«object.__getattribute__»
  refine wpAny_bind (wpAny_of_eq (a := ((Value.ref x : Value), [Value.str "__class__" t])) (by first | rfl | (simp only [slotArgs]; rfl)) ?_)
  refine wpAny_bind (wpAny_pure (wpAny_bind (L0.at (wpAny_bind (L3.at ?_)))))
  show wpAny _ _ (holding [Value.builtin "object.__class__"] (call (.builtin "getset_descriptor.__get__") [.builtin "object.__class__", .ref x, .ref D]) >>= ret) _ _ _
  refine wpAny_bind (wpAny_holding (wpAny_call (class_get (s := ⟨hp, g, d, t + 1, os⟩) (ox := ox) (od := od) X I hm ?_)))
  refine wpAny_pure ?_
  show wpAny _ _ (handedOut (.ref D)) _ _ _
  rw [handedOut_of (v := .ref D) rfl]
  first
    | exact wpAny_pure (wpAny_pure h)
    | exact wpAny_pure h
    | exact wpAny_pure (wpAny_bind (wpAny_pure (wpAny_pure h)))
theorem kitx_excG {od : Option Obj} (hga : findIn K (.ref D) "__getattribute__" = some (some (.builtin "BaseException.__getattribute__"))) (hgt : findIn K (.ref D) "__getattr__" = some none) (hsub : subIn K (.ref D) (.type "BaseException") = some true) (hdct : hasDictIn K D = true) (ha : findIn K (.ref D) "__class__" = some (some (.builtin "object.__class__")))
    (hn : specialIn K (.builtin "object.__class__") "__get__" = some (some (.builtin "getset_descriptor.__get__"))) (htk : takesIn K (.builtin "object.__class__") = some true) (hm : mroIn K D (.type "object") = some true) :
    KitX K (.ref x) (.ref D) (fun h => InstAt h x ox D od) where
  ty := fun _ _ _ I => I.type
  it := fun _ _ X _ => by
    obtain ⟨cdD, hcD, _⟩ := any_some hdct
    unfold clsIn at hcD
    split at hcD
    · rename_i c' d' cd' sl' ho
      intro A' Q' E' s' k q
      unfold isType loadHead
      exact wpAny_bind (wpAny_loadPart (k _ _ (X _ _ ho)) (wpAny_pure q))
    · cases hcD
  ne := fun h tp dd its n sl X htp => by
    obtain ⟨cdD, hcD, _⟩ := any_some hdct
    refine Bool.eq_false_iff.mpr fun q => ?_
    have e : D = tp := Value.ref.inj (beq_iff_eq.mp q)
    subst e
    unfold clsIn at hcD
    split at hcD
    · rename_i c' d' cd' sl' ho
      have z := (X _ _ ho).symm.trans htp
      cases z
    · cases hcD
  ca := fun X I k => kin_classG hga hgt hsub hdct ha hn htk hm X I k
end
end DLX
namespace DL
open PySem PySem.Spec PyProof.Rows L2
variable {Ω : Om} {W : WX} {φ : Fx} {L L' : List Addr} {G G' H H' : Hp} {s : DS} {σ : L2.St} {X : Cx}

/-- what a suite's context knows of the error that it handles: class c, fields vs, at a; d its dict -/
structure Hnd (Ω : Om) (X : Cx) (a : Addr) (oe : Obj) (cls : Value) (d : Option Addr) (c : Nat) (vs : List V) : Prop where
  ex : Ω.B.ex = some (a, c, vs)
  cl : cls = .ref (Ω.ad c)
  ze : L2N.Zn cls d oe
  da : ∃ ws, oe.data = .fields ws
  fs : (d = none ∧ vs = []) ∨ ∃ dx, d = some dx ∧ Ω.B.fr dx = some (.xd ((Ω.fl c).zip vs).reverse)
theorem exc_at {i c k : Nat} {as : List D} {vs : List V} {a : Addr} (R : RelO Ω φ L G s σ H) (hx : Ω.B.ex = some (a, c, vs)) (h : s.sl[i]? = some (.exc k as)) : k = c ∧ σ[i]? = some (some (.ref a)) ∧ Rps Ω.w Ω.K G L vs as := by
  obtain ⟨b, ws, e1, e2, e3⟩ := R.exc i k as h
  rw [hx] at e1
  cases e1
  exact ⟨rfl, e2, e3⟩
theorem lookup_app {α β : Type} [BEq α] {x : α} : ∀ {l m : List (α × β)}, (l ++ m).lookup x = (l.lookup x).or (m.lookup x)
  | [], m => by simp
  | (y, z) :: l, m => by
    rw [List.cons_append, List.lookup_cons, List.lookup_cons]
    cases x == y with
    | true => rfl
    | false => exact lookup_app
theorem lookup_none {n : Str} : ∀ {fl : List Str} {vs : List V}, n ∉ fl → ((fl.zip vs).reverse).lookup n = none
  | [], _, _ => rfl
  | f :: fl, [], _ => rfl
  | f :: fl, v :: vs, h => by
    simp only [List.mem_cons, not_or] at h
    rw [List.zip_cons_cons, List.reverse_cons, lookup_app, lookup_none h.2]
    have e : (n == f) = false := beq_eq_false_iff_ne.mpr h.1
    simp [List.lookup_cons, e]
theorem lookup_zip {n : Str} {v : V} : ∀ {fl : List Str} {vs : List V} {j : Nat}, fl.Nodup → fl[j]? = some n → vs[j]? = some v → ((fl.zip vs).reverse).lookup n = some v
  | [], _, j, _, h, _ => by simp at h
  | f :: fl, [], j, _, _, h => by simp at h
  | f :: fl, w :: vs, 0, hn, h1, h2 => by
    simp at h1 h2
    subst h1 h2
    rw [List.zip_cons_cons, List.reverse_cons, lookup_app, lookup_none (List.nodup_cons.mp hn).1]
    simp [List.lookup_cons]
  | f :: fl, w :: vs, j + 1, hn, h1, h2 => by
    rw [List.zip_cons_cons, List.reverse_cons, lookup_app, lookup_zip (List.nodup_cons.mp hn).2 (by simpa using h1) (by simpa using h2)]
    rfl
section
variable {a : Addr} {oe : Obj} {cls : Value} {d : Option Addr} {c k : Nat} {vs : List V} {pn : List (Addr × Obj)} {pos np : Pos}
/-- e.f -/
theorem r_fld (Φ : Ev) {i j : Nat} {x n : Str} (N : Hnd Ω X a oe cls d c vs) (T : XfC X.K (Ω.ad k)) (hno : PySem.W.findIn X.K (.ref (Ω.ad k)) n = some none) (hj : (Ω.fl k)[j]? = some n) (hnd : (Ω.fl k).Nodup)
    (hN : X.N[i]? = some x) (hv : Vis X.env.scope x) (hd : (x == ("__debug__" : Str)) = false) (hcd : (x == ("__classdict__" : Str)) = false) (hb : attributeBase (.Name x np) n X.env (eval (.Name x np) X.env) = eval (.Name x np) X.env) :
    PE (X.suite a ((a, oe) :: pn)) (.Attribute (.Name x np) n pos) (tE Ω WF (evE Φ (.fld i k j))) :=
  PE.imp (pe_xf (X := X) (C := Ω.ad k) (cls := cls) (d := d) T hno N.ze.zc N.da (pe_var (X := X.suite a ((a, oe) :: pn)) (i := i) hN hv hd hcd) hb) fun σ H Q h => by
    obtain ⟨φ, L, G, s, R, h⟩ := h
    simp only [evE] at h
    cases q : s.sl[i]? with
    | none => rw [q] at h; exact h.elim
    | some y =>
      rw [q] at h
      cases y with
      | exc k' as =>
        obtain ⟨rfl, hs, hr⟩ := exc_at R N.ex q
        simp only at h
        split at h
        case isFalse => exact h.elim
        rename_i hk
        subst hk
        cases qz : as[j]? with
        | none => rw [qz] at h; exact h.elim
        | some z =>
          rw [qz] at h
          obtain ⟨v, hv1, hv2⟩ := hr.at qz
          rcases N.fs with ⟨_, e⟩ | ⟨dx, e1, e2⟩
          · subst e; simp at hv1
          · exact ⟨.ref a, hs, rfl, N.cl, dx, _, v, e1, (R.frm dx _ (R.fr0 dx _ e2)).1, lookup_zip hnd hj hv1, okE.ok h R (List.prefix_refl _) (Ex.refl _) v (.inl hv2)⟩
      | _ => exact h.elim
/-- isinstance(e, C) -/
def rXi (K : PySem.W.Frag) (a C : Addr) (d : Option Addr) : List V → Hp → VK → Prop := fun xs H Q => ∃ (c : V) (cv : Value) (b : Bool), xs = [.ref a, c] ∧ (∀ u, RelV c u → u = cv) ∧ PySem.W.kitOne K (.ref C) cv = some b ∧ (∀ dx, d = some dx → ∃ fs, H dx = some (.xd fs)) ∧ Q (.bl b) H
theorem call_xi {C : Addr} (T : ExcC X.K C) (hz : Zc (.ref C) d oe) (hf : ∃ ws, oe.data = .fields ws) : CallR (X.suite a ((a, oe) :: pn)) (.builtin "isinstance") (rXi X.K a C d) := by
  intro pins s σ H xs us Q I r h
  obtain ⟨c, cv, b, rfl, hcv, e, hdx, q⟩ := h
  cases r with
  | cons rx rr =>
    cases rr with
    | cons rt rr =>
      cases rr
      cases rx
      have ec := hcv _ rt
      subst ec
      obtain ⟨hget, _⟩ := I.pin (a, oe) (List.mem_append.mpr (.inl List.mem_cons_self))
      obtain ⟨ws, hv⟩ := hf
      have J : ∃ od, PySem.W.InstAt s.heap a oe C od := by
        cases hd : d with
        | none =>
          refine ⟨none, hget, hz.1, by unfold PySem.W.notCls; rw [hv] <;> rfl, ?_⟩
          rw [hz.2, hd]
          trivial
        | some dx =>
          obtain ⟨fs, hfs⟩ := hdx dx hd
          have hx : ObjOk X.prog X.w H s.heap dx (.xd fs) := I.hok dx _ hfs
          obtain ⟨mA, hns, hr⟩ := hx
          obtain ⟨od, ho, hl⟩ := lookIn_ns hns
          exact ⟨some od, hget, hz.1, by unfold PySem.W.notCls; rw [hv] <;> rfl, by rw [hz.2, hd]; exact ho⟩
      obtain ⟨od, J⟩ := J
      exact PySem.W.kia_one (DLX.kitx_excG (od := od) T.hg T.hk T.hs T.hd T.ha T.hn T.ht T.hm) I.kIn J e (fun z => nomatch z) fun tk => ⟨.bl b, H, I.kept (t' := tk) fun _ _ z => z, rfl, q⟩
theorem r_xis (Φ : Ev) {i m : Nat} {x : Str} {tT : Expr} {cvV : V} {cv : Value} {ip : Pos} (N : Hnd Ω X a oe cls d c vs) (T : ExcC X.K (Ω.ad c)) (hsub : PySem.W.kitOne X.K (.ref (Ω.ad c)) cv = some (Φ.sub c m)) (hT : PE (X.suite a ((a, oe) :: pn)) tT (tC cvV)) (hcv : ∀ u, RelV cvV u → u = cv)
    (hg : Gl X "isinstance") (hm : X.mg "isinstance" = none) (hN : X.N[i]? = some x) (hv : Vis X.env.scope x) (hd : (x == ("__debug__" : Str)) = false) (hcd : (x == ("__classdict__" : Str)) = false)
    (hs2 : starEach [tT] X.env = (false, eval tT X.env) :: starEach [] X.env) : PE (X.suite a ((a, oe) :: pn)) (.Call (.Name "isinstance" ip) [.Name x np, tT] [] pos) (tE Ω WF (evE Φ (.xis i [m]))) :=
  PE.imp (pe_callB (X := X.suite a ((a, oe) :: pn)) (call_xi (C := Ω.ad c) (d := d) T (by have := N.ze.zc; rw [N.cl] at this; exact this) N.da) hg hm PyProof.Rows.boot_isinstance (pa_cons (pe_var (X := X.suite a ((a, oe) :: pn)) (i := i) hN hv hd hcd) (pa_cons hT pa_nil hs2) rfl) (by decide) (by decide) rfl (by
    show (backTo pos (starEach [tT] X.env)).any (·.1) = false
    rw [hs2]
    rfl)) fun σ H Q h => by
    obtain ⟨φ, L, G, s, R, h⟩ := h
    simp only [evE] at h
    cases q : s.sl[i]? with
    | none => rw [q] at h; exact h.elim
    | some y =>
      rw [q] at h
      cases y with
      | exc k' as =>
        obtain ⟨ek, hs, hr⟩ := exc_at R N.ex q
        rw [ek] at h
        refine ⟨.ref a, hs, cvV, cv, _, rfl, hcv, hsub, fun dx e => ?_, ?_⟩
        · rcases N.fs with ⟨e1, _⟩ | ⟨dx', e1, e2⟩
          · rw [e1] at e; cases e
          · rw [e1] at e; cases e
            exact ⟨_, (R.frm dx _ (R.fr0 dx _ e2)).1⟩
        · have z := okE.ok h R (List.prefix_refl _) (Ex.refl _) _ (.inl (.bl _))
          simpa using z
      | _ => exact h.elim
/-- two names at once, in a suite -/
theorem hot_of {ws : Array Value} (N : L2N.Zn cls d oe) (hd : oe.data = .fields ws) : L2H.HotC (X.suite a ((a, oe) :: pn)) := ⟨(a, oe), ⟨rfl, ws, hd, N.2.2 ws hd⟩, List.mem_cons_self⟩
end

/-! ### try -/
theorem map_at {sl : List Sl} {i j : Nat} {x : Sl} (h : ((sl.map clr1).set i .none)[j]? = some x) : x = .none ∨ (i ≠ j ∧ sl[j]? = some x ∧ ∀ c as, x ≠ .exc c as) := by
  rcases set_at h with ⟨_, e⟩ | ⟨e, h⟩
  · exact .inl e.symm
  · rw [List.getElem?_map, Option.map_eq_some_iff] at h
    obtain ⟨y, h1, rfl⟩ := h
    cases y with
    | exc c as => exact .inl rfl
    | none => exact .inl rfl
    | val d => exact .inr ⟨e, h1, fun _ _ z => by cases z⟩
    | own m => exact .inr ⟨e, h1, fun _ _ z => by cases z⟩
def B0 : Bk := ⟨fun _ => none, none⟩
/-- behind a suite -/
theorem Rel.leave {B : Bk} {φ' : Fx} {i : Nat} (R : RelO { Ω with B := B } φ' L G s σ H) (hB : Ω.B = B0) (le : φ'.Le = φ.Le) (ge : φ'.Ge = φ.Ge) (hF : ∀ a o, φ.FR a = some o → φ'.FR a = some o) : RelO Ω φ L G (clrX i s) (σ.set i none) H :=
  { le := le ▸ R.le
    ge := ge ▸ R.ge
    sub := R.sub
    len := by simp [clrX, R.len]
    val := fun j d h => by
      rcases map_at h with e | ⟨e, h, _⟩
      · cases e
      · rw [List.getElem?_set_ne e]; exact R.val j d h
    own := fun j m h => by
      rcases map_at h with e | ⟨e, h, _⟩
      · cases e
      · rw [List.getElem?_set_ne e]; exact R.own j m h
    inj := fun j k b h1 h2 => by
      have z : ∀ j b, OwnA (σ.set i none) (clrX i s).sl j b → OwnA σ s.sl j b := fun j b ⟨⟨m, h1⟩, h2⟩ => by
        rcases map_at h1 with e | ⟨e, h, _⟩
        · cases e
        · rw [List.getElem?_set_ne e] at h2; exact ⟨⟨m, h⟩, h2⟩
      exact R.inj j k b (z j b h1) (z k b h2)
    stl := R.stl
    sto := R.sto
    nod := R.nod
    frm := fun a o h => by
      obtain ⟨h1, h2, h3, h4⟩ := R.frm a o (hF a o h)
      refine ⟨h1, h2, h3, fun j ⟨⟨m, q1⟩, q2⟩ => ?_⟩
      rcases map_at q1 with e | ⟨e, q, _⟩
      · cases e
      · rw [List.getElem?_set_ne e] at q2; exact h4 j ⟨⟨m, q⟩, q2⟩
    fr0 := fun a o h => by rw [hB] at h; cases h
    exc := fun j c as h => by
      rcases map_at h with e | ⟨_, _, e⟩
      · cases e
      · exact (e c as rfl).elim }
/-- into a suite -/
theorem Rel.enter {i c : Nat} {as : List D} {vs : List V} {a : Addr} {fr : Hp} (R : RelO Ω φ L G s σ H) (hr : Rps Ω.w Ω.K G L vs as) (hf : ∀ z o, fr z = some o → (∃ fs, o = .xd fs) ∧ H z = some o ∧ G z = none) (hB : Ω.B = B0) :
    RelO { Ω with B := ⟨fr, some (a, c, vs)⟩ } { φ with FR := fun z => (fr z).or (φ.FR z) } L G (putS i (.exc c as) s) (σ.set i (some (.ref a))) H := by
  have own' : ∀ j b, OwnA (σ.set i (some (.ref a))) (s.sl.set i (.exc c as)) j b → OwnA σ s.sl j b := fun j b ⟨⟨m, h1⟩, h2⟩ => by
    rcases set_at h1 with ⟨_, e⟩ | ⟨e, h1⟩
    · cases e
    · rw [List.getElem?_set_ne e] at h2; exact ⟨⟨m, h1⟩, h2⟩
  have nx : ∀ {b : Addr} {m : MO} {fs : List (Str × V)}, MoAt Ω.w Ω.K G L H b m → H b = some (.xd fs) → False := fun {b m fs} h1 h2 => by
    cases m with
    | lst xs => obtain ⟨ws, e, _⟩ := h1; rw [h2] at e; cases e
    | dic ks xs => obtain ⟨kvs, e, _⟩ := h1; rw [h2] at e; cases e
    | dead => exact h1
  exact {
    le := R.le
    ge := R.ge
    sub := R.sub
    len := by simp [putS, R.len]
    val := fun j d h => by
      rcases set_at h with ⟨_, e⟩ | ⟨e, h⟩
      · cases e
      · rw [List.getElem?_set_ne e]; exact R.val j d h
    own := fun j m h => by
      rcases set_at h with ⟨_, e⟩ | ⟨e, h⟩
      · cases e
      · rw [List.getElem?_set_ne e]; exact R.own j m h
    inj := fun j k b h1 h2 => R.inj j k b (own' j b h1) (own' k b h2)
    stl := R.stl
    sto := R.sto
    nod := R.nod
    frm := fun b o h => by
      have h : (fr b).or (φ.FR b) = some o := h
      cases q : fr b with
      | none =>
        rw [q] at h
        obtain ⟨h1, h2, h3, h4⟩ := R.frm b o (by simpa using h)
        exact ⟨h1, h2, h3, fun j z => h4 j (own' j b z)⟩
      | some u =>
        rw [q] at h
        have e : u = o := by simpa using h
        subst e
        obtain ⟨⟨fs, rfl⟩, h1, h2⟩ := hf b _ q
        refine ⟨h1, h2, fun hl => ?_, fun j z => ?_⟩
        · obtain ⟨n, hn⟩ := List.mem_iff_getElem?.mp hl
          have lt : n < s.st.length := by rw [← R.stl]; exact (List.getElem?_eq_some_iff.mp hn).1
          exact nx (R.sto n _ b (List.getElem?_eq_getElem lt) hn).2 h1
        · obtain ⟨⟨m, q1⟩, q2⟩ := own' j b z
          obtain ⟨b', e1, _, _, hm⟩ := R.own j m q1
          rw [q2] at e1
          have eb : b = b' := by simpa using e1
          subst eb
          exact nx hm h1
    fr0 := fun b o h => by
      show (fr b).or (φ.FR b) = some o
      rw [show fr b = some o from h]
      rfl
    exc := fun j k as' h => by
      rcases set_at h with ⟨e, q⟩ | ⟨e, h⟩
      · subst e
        cases q
        have lt : i < σ.length := by rw [← R.len]; exact set_lt h
        exact ⟨a, vs, rfl, List.getElem?_set_self lt, hr⟩
      · obtain ⟨_, _, e, _⟩ := R.exc j k as' h
        rw [hB] at e
        cases e }
/-- a suite's reading, from the class of the error on -/
def tsOf (Ω : Om) (r : DS → Res Fl DS) : Addr → Value → Option Addr → TS := fun a cls d D σ H => ∃ (fr : Hp) (c : Nat) (vs : List V), cls = .ref (Ω.ad c) ∧ ((d = none ∧ vs = []) ∨ ∃ dx, d = some dx ∧ fr dx = some (.xd ((Ω.fl c).zip vs).reverse)) ∧
  tS { Ω with B := ⟨fr, some (a, c, vs)⟩ } WF r D σ H
/-- the clauses of a try -/
inductive HdT (Ω : Om) (Φ : Ev) (X : Cx) : List ExceptHandler → CHs → List (Value × Nat × (Addr → Value → Option Addr → TS)) → Prop
  | nil : HdT Ω Φ X [] .nil []
  | cons {x n : Str} {cv : Value} {i m : Nat} {b : CSs} {b₀ : Stmt} {suite : List Stmt} {np pos' : Pos} {hds : List ExceptHandler} {chs : CHs} {l : List (Value × Nat × (Addr → Value → Option Addr → TS))} (hi : X.N[i]? = some n) (hln : X.env.kindOf n = some .local) (hc : Names X x cv)
      (exm : ∀ c, PySem.W.exmOne X.K (.ref (Ω.ad c)) cv = some (Φ.sub c m))
      (hsu : ∀ (a : Addr) (oe : Obj) (cls : Value) (d : Option Addr) (c : Nat) (vs : List V) (fr : Hp) (pn : List (Addr × Obj)), Hnd { Ω with B := ⟨fr, some (a, c, vs)⟩ } X a oe cls d c vs → PSs (X.suite a ((a, oe) :: pn)) (b₀ :: suite) (tS { Ω with B := ⟨fr, some (a, c, vs)⟩ } WF (exSs Φ b)))
      (r : HdT Ω Φ X hds chs l) : HdT Ω Φ X (.ExceptHandler (some (.Name x np)) (some n) (b₀ :: suite) pos' :: hds) (.cons [m] i b chs) ((cv, i, tsOf Ω (exSs Φ b)) :: l)
theorem HdT.ok {Φ : Ev} {hds : List ExceptHandler} {chs : CHs} {l : List (Value × Nat × (Addr → Value → Option Addr → TS))} (h : HdT Ω Φ X hds chs l) : HdsN X hds l := by
  induction h with
  | nil => exact .nil
  | cons hi hln hc exm hsu r ih =>
    refine .cons hi hln hc (fun a oe cls d pn hz hd => ⟨fun pins s σ H D I h => ?_⟩) ih
    obtain ⟨fr, c, vs, e, hf, h⟩ := h
    exact (hsu a oe cls d c vs fr pn ⟨rfl, e, hz, hd, hf⟩).run pins s σ H D I h
theorem noX_okS {α β : Type} {r : Res α DS} {f : α → DS → Res β DS} {P : β → DS → List Addr → Hp → St → Hp → Prop} (h : okS Ω W φ L G ((noX r).bind f) P) : ∃ d s', r = .ok d s' ∧ okS Ω W φ L G (f d s') P := by
  cases r with
  | ok d s' => exact ⟨d, s', rfl, h⟩
  | exc c as s' => exact h.elim
  | stuck => exact h.elim
theorem HdT.wish {Φ : Ev} {hds : List ExceptHandler} {chs : CHs} {l : List (Value × Nat × (Addr → Value → Option Addr → TS))} (h : HdT Ω Φ X hds chs l) (hB : Ω.B = B0) {D : Ends} {c : Nat} {as : List DL.D} {s1 : DS}
    (hk : okS Ω W φ L G (exH Φ c as chs s1) fun f _ L' G' σ' H' => endD Ω D f G' L' σ' H') {cls : Value} {dd : Option Addr} (R : RelO Ω φ L G s1 σ H) (xa : XAt Ω G L H c as cls dd) : wN X.K W D l cls dd σ H := by
  induction h with
  | nil => exact hk L G σ H cls dd (List.prefix_refl _) (Ex.refl _) R xa
  | @cons x n cv i m b b₀ suite np pos' hds chs l hi hln hc exm hsu r ih =>
    simp only [exH, List.any_cons, List.any_nil, Bool.or_false] at hk
    refine ⟨Φ.sub c m, by rw [xa.1]; exact exm c, fun hb a ha => ?_, fun hb => ?_⟩
    · rw [hb] at hk
      rw [if_pos rfl] at hk
      obtain ⟨f, s3, he, h3⟩ := noX_okS hk
      have go : ∀ (fr : Hp) (vs : List V), (∀ z o, fr z = some o → (∃ fs, o = .xd fs) ∧ H z = some o ∧ G z = none) → Rps Ω.w Ω.K G L vs as → ((dd = none ∧ vs = []) ∨ ∃ dx, dd = some dx ∧ fr dx = some (.xd ((Ω.fl c).zip vs).reverse)) →
          tsOf Ω (exSs Φ b) a cls dd { nx := fun σ' H' => D.nx (σ'.set i none) H', rt := D.rt, bk := fun σ' H' => D.bk (σ'.set i none) H', ct := fun σ' H' => D.ct (σ'.set i none) H' } (σ.set i (some (.ref a))) H := fun fr vs hf hr hd => by
        refine ⟨fr, c, vs, xa.1, hd, _, L, G, _, R.enter hr hf hB, ?_⟩
        rw [he]
        intro L4 G4 σ4 H4 l4 e4 R4
        have R5 : RelO Ω φ L4 G4 (clrX i s3) (σ4.set i none) H4 := Rel.leave (φ := φ) R4 hB rfl rfl fun z o h => by
          show (fr z).or (φ.FR z) = some o
          cases q : fr z with
          | none => simpa using h
          | some u =>
            have h1 := (R.frm z o h).1
            have h2 := (hf z u q).2.1
            rw [h1] at h2
            cases h2
            rfl
        have z := h3 L4 G4 _ H4 l4 e4 R5
        cases f with
        | nx => exact z
        | bk => exact z
        | ct => exact z
        | ret d => exact z
      rcases xa.2 with ⟨rfl, rfl⟩ | ⟨d, vs, rfl, hl, hd, hg, hr⟩
      · exact go (fun _ => none) [] (fun z o h => by cases h) .nil (.inl ⟨rfl, rfl⟩)
      · refine go (upd (fun _ => none) d (.xd ((Ω.fl c).zip vs).reverse)) vs (fun z o h => ?_) hr (.inr ⟨d, rfl, upd_same⟩)
        by_cases e : z = d
        · subst e
          rw [upd_same] at h
          cases h
          exact ⟨⟨_, rfl⟩, hd, hg⟩
        · rw [upd_ne e] at h
          cases h
    · rw [hb] at hk
      exact ih (by simpa using hk)
theorem s_tri {Φ : Ev} {body : List Stmt} {h₀ : ExceptHandler} {hds : List ExceptHandler} {chs : CHs} {l : List (Value × Nat × (Addr → Value → Option Addr → TS))} {rb : DS → Res Fl DS} {pos : Pos} (hB : Ω.B = B0) (hs : X.stack = X.env :: X.outer) (hN : X.N.Nodup) (hf : X.env.frame = some X.env.locals) (tk : L2N.Takes X W)
    (hb : ∀ (W : WX) (pn : List (Addr × Obj)) (xe : Value → Shared → Prop), L2N.Takes (X.tr pn xe) W → PassesOwn (model X.prog X.w) X.A X.env xe → PSs (X.tr pn xe) body (tS Ω W rb))
    (hh : HdT Ω Φ X (h₀ :: hds) chs l) : PS X (.Try body (h₀ :: hds) [] [] pos) (tS Ω W (fun s => match rb s with
      | .exc c as s => exH Φ c as chs s
      | r => r)) :=
  PS.imp (ps_try_named hs hN hf tk hb hh.ok) fun D σ H h => by
    obtain ⟨φ, L, G, s, R, h⟩ := h
    refine ⟨φ, L, G, s, R, ?_⟩
    dsimp only at h
    cases q : rb s with
    | ok f s1 => rw [q] at h; exact h
    | stuck => rw [q] at h; exact h
    | exc c as s1 =>
      rw [q] at h
      exact fun L1 G1 σ1 H1 cls dd l1 e1 R1 x => hh.wish hB (okS.mono h l1 e1) R1 x
end DL
end

section
set_option Elab.async false
set_option linter.all false
set_option autoImplicit false
set_option maxRecDepth 100000
/-! Dl20b: calls with keywords. -/
namespace DL
open PySem L2
variable {Ω : Om} {W : WX} {φ : Fx} {L L' : List Addr} {G G' H H' : Hp} {s : DS} {σ : St} {X : Cx}
def pmV (pm : List Nat) (vs : List V) : List V := pm.map fun i => vs.getD i .non
theorem Rps.pm {vs : List V} {ds : List D} (h : Rps Ω.w Ω.K G L vs ds) : ∀ pm : List Nat, Rps Ω.w Ω.K G L (pmV pm vs) (pmL pm ds)
  | [] => .nil
  | i :: pm => by
    refine .cons (show Rp Ω.w Ω.K G L (vs.getD i .non) (ds.getD i .non) from ?_) (Rps.pm h pm)
    by_cases q : i < ds.length
    · obtain ⟨v, h1, h2⟩ := h.at (List.getElem?_eq_getElem q)
      have e1 : vs.getD i .non = v := by rw [List.getD_eq_getElem?_getD, h1]; rfl
      have e2 : ds.getD i .non = ds[i] := by rw [List.getD_eq_getElem?_getD, List.getElem?_eq_getElem q]; rfl
      rw [e1, e2]
      exact h2
    · have q2 : vs[i]? = none := List.getElem?_eq_none (by rw [h.length]; omega)
      have q1 : ds[i]? = none := List.getElem?_eq_none (by omega)
      rw [List.getD_eq_getElem?_getD, List.getD_eq_getElem?_getD, q1, q2]
      exact .non
theorem run_kw {CX : CXT} {k n : Nat} {f : Addr} {fd : FuncData} {ps ks : List Str} {sp : Sp} {E : XK} {g : List Value → List Value → List Value} {gV : List V → List V → List V} {pins : List (Addr × Obj)} {s : Shared} {Q : VK} {us ws : List Value} {vs zs : List V}
    (F : FnOk X.prog X.w X.K X.mg X.base CX k f fd ps sp) (hr : Room k X.A) (hb : KBn X.K fd ps n ks g gV) (hx : PassesAt CX X σ E)
    (I : Inv X pins σ H s) (r : Vals vs us) (rz : Vals zs ws) (l1 : vs.length = n) (l2 : zs.length = ks.length) (h : sp (gV vs zs) H Q E) : wpAny (model X.prog X.w) X.A (call (.ref f) us (ks.zip ws)) (EP X pins σ Q) X.xe s := by
  have r2 := hb.rel r rz
  refine wpAny_call (codeAny_mono (F.run X.A X.stack s H ⟨us, ks.zip ws⟩ (g us ws) (gV vs zs) Q E hr I.env0 (hb.to s us ws I.kIn (r.length.symm.trans l1) (rz.length.symm.trans l2)) r2 h) fun r s' hq => ?_)
  cases r with
  | error e => exact hx pins H s e s' I hq
  | ok fl =>
    cases fl with
    | ret u => exact I.after hq
    | next => exact False.elim hq
    | brk => exact False.elim hq
    | cont => exact False.elim hq
structure KwOk (Ω : Om) (X : Cx) (x : Str) (n : Nat) (ks : List Str) (pm : List Nat) (F : DF) : Prop where
  ex : ∃ (f : Addr) (k : Nat) (fd : FuncData) (ps : List Str) (g : List Value → List Value → List Value), X.mg x = some (.ref f) ∧ PySem.W.keepIn X.K (.ref f) = true ∧
    FnOk X.prog X.w X.K X.mg X.base (L2N.CX X.prog X.w) k f fd ps (spD Ω F) ∧ KBn X.K fd ps n ks g (fun vs zs => pmV pm (vs ++ zs)) ∧ Room k X.A
def callkR (F : DF) (pm : List Nat) (ra rb : DS → Res (List D) DS) : DS → Res D DS := fun s => (ra s).bind fun ds s => (rb s).bind fun es s => match F (pmL pm (ds ++ es)) s.st with
  | .ok d st => .ok d { s with st := st }
  | .exc c as st => .exc c as { s with st := st }
  | .stuck => .stuck
theorem kw_of {F : DF} {pm : List Nat} {ra rb : DS → Res (List D) DS} {n m : Nat} {Q : VK} (ha : ∀ s ds s', ra s = .ok ds s' → ds.length = n) (hb : ∀ s ds s', rb s = .ok ds s' → ds.length = m) (h : tE Ω W (callkR F pm ra rb) σ H Q) :
    tA Ω W ra σ H fun vs H1 => tA Ω W rb σ H1 fun zs H2 => vs.length = n ∧ zs.length = m ∧ spD Ω F (pmV pm (vs ++ zs)) H2 Q (WE W σ) := by
  obtain ⟨φ, L, G, s, R, h⟩ := h
  have lenE : ∀ {r : DS → Res (List D) DS} {k : Nat} {s : DS} {L : List Addr} {G : Hp} {P : List D → DS → List Addr → Hp → Hp → Prop}, (∀ s ds s', r s = .ok ds s' → ds.length = k) → okE Ω W φ σ L G (r s) P → okE Ω W φ σ L G (r s) fun ds s' L' G' H' => ds.length = k ∧ P ds s' L' G' H' := fun {r k s L G P} hl hz => by
    cases q : r s with
    | ok ds s' => rw [q] at hz; exact fun L' G' H' a b c => ⟨hl _ _ _ q, hz L' G' H' a b c⟩
    | exc c as s' => rw [q] at hz; exact hz
    | stuck => rw [q] at hz; exact hz
  refine ⟨φ, L, G, s, R, (lenE ha h.bnd).imp fun ds s1 L1 G1 H1 l1 e1 R1 h1 vs hvs => ?_⟩
  obtain ⟨n1, h1⟩ := h1
  refine ⟨φ, L1, G1, s1, R1, (lenE hb h1.bnd).imp fun es s2 L2 G2 H2 l2 e2 R2 h2 zs hzs => ?_⟩
  obtain ⟨n2, h2⟩ := h2
  refine ⟨by rw [hvs.length]; exact n1, by rw [hzs.length]; exact n2, L2, G2, DL.below φ s2 σ H2, pmL pm (ds ++ es), s2.st, ((hvs.mono e2 l2).append hzs).pm pm, R2.sub, R2.sto', R2.below, ?_⟩
  cases q : F (pmL pm (ds ++ es)) s2.st with
  | ok d st =>
    simp only [q] at h2
    exact fun L' G' H' v l e sub S Fr r => h2 L' G' H' l e (R2.back l e sub S Fr) v (.inl r)
  | exc c as st =>
    simp only [q] at h2
    exact fun L' G' H' cls dd l e sub S Fr x => h2 L' G' H' cls dd l e (R2.back l e sub S Fr) x
  | stuck =>
    simp only [q] at h2
    exact h2
section
variable {x : Str} {n : Nat} {ks : List Str} {pm : List Nat} {F : DF} {e : Expr} {es : List Expr} {kws : List Keyword} {p pos : Pos} {ra rb : DS → Res (List D) DS}
theorem r_callk (C : KwOk Ω X x n ks pm F) (tk : L2N.Takes X W) (hg : Gl X x) (ha : PA X (e :: es) (tA Ω W ra)) (hk : PK X kws (tA Ω W rb)) (la : ∀ s ds s', ra s = .ok ds s' → ds.length = n) (lb : ∀ s ds s', rb s = .ok ds s' → ds.length = ks.length)
    (hall : (backToKw pos (keywordEach kws X.env)).all (·.1.isSome) = true) (hks : (backToKw pos (keywordEach kws X.env)).filterMap (·.1) = ks)
    (hdb : (x == ("__debug__" : Str)) = false) (he : starEach (e :: es) X.env = (false, eval e X.env) :: starEach es X.env)
    (hpl : ((backTo pos (starEach (e :: es) X.env)).any (·.1) || (backToKw pos (keywordEach kws X.env)).any (·.1.isNone)) = false) : PE X (.Call (.Name x p) (e :: es) kws pos) (tE Ω W (callkR F pm ra rb)) := by
  obtain ⟨f, k, fd, ps, g, hm, hkp, hF, hb, hr⟩ := C.ex
  refine ⟨fun pins s σ H Q I h => ?_⟩
  refine wpAny_Call_Name_kw (ld_glob I hg hm ?_ hdb)
  refine PySem.W.callWith_KW (h₀ := X.base) I.ok.mod.kin hkp hall (thn (ha.run pos pins s σ H _ I (kw_of la lb h)) fun us s1 ⟨vs, H1, I1, r, q⟩ => ?_) hpl he
  refine thn (hk.run pos pins s1 σ H1 _ I1 q) fun ws s2 ⟨zs, H2, I2, rz, l1, l2, q2⟩ => ⟨I2.kIn, ?_⟩
  rw [hks]
  exact run_kw hF hr hb (L2N.passAt tk σ) I2 r rz l1 l2 q2
theorem r_callk0 (C : KwOk Ω X x 0 ks pm F) (tk : L2N.Takes X W) (hg : Gl X x) (hk : PK X kws (tA Ω W rb)) (lb : ∀ s ds s', rb s = .ok ds s' → ds.length = ks.length)
    (hall : (backToKw pos (keywordEach kws X.env)).all (·.1.isSome) = true) (hks : (backToKw pos (keywordEach kws X.env)).filterMap (·.1) = ks)
    (hdb : (x == ("__debug__" : Str)) = false) (hpl : ((backTo pos (starEach [] X.env)).any (·.1) || (backToKw pos (keywordEach kws X.env)).any (·.1.isNone)) = false) : PE X (.Call (.Name x p) [] kws pos) (tE Ω W (callkR F pm (fun s => .ok [] s) rb)) := by
  obtain ⟨f, k, fd, ps, g, hm, hkp, hF, hb, hr⟩ := C.ex
  refine ⟨fun pins s σ H Q I h => ?_⟩
  have h1 := kw_of (n := 0) (ra := fun s => .ok [] s) (fun s ds s' q => by cases q; rfl) lb h
  have h2 := nilA_of h1
  refine wpAny_Call_Name_kw (ld_glob I hg hm ?_ hdb)
  refine PySem.W.callWith_KW0 (h₀ := X.base) I.ok.mod.kin hkp hall ?_ hpl
  refine thn (hk.run pos pins s σ H _ I h2) fun ws s2 ⟨zs, H2, I2, rz, l1, l2, q2⟩ => ⟨I2.kIn, ?_⟩
  rw [hks]
  exact run_kw (us := []) (vs := []) hF hr hb (L2N.passAt tk σ) I2 .nil rz rfl l2 q2
end
end DL
end

section
set_option Elab.async false
set_option linter.all false
set_option autoImplicit false
set_option maxRecDepth 100000
/-! Dl21: the context of a body; the rules, each for its own form of the small language. -/
namespace DL
open PySem L2

/-- names of a def's text -/
structure Tab where
  free : List Str
  con : List (Str × D)
  dfs : List Str
  rai : List (Nat × Str × Nat)
  cls : List (Nat × List Str)
  kdf : List (Str × Nat × List Str × List Nat × Nat)
  hdl : List (Nat × Str)
structure Cz (Ω : Om) (X : Cx) (W : WX) (Φ : Ev) (N : List Str) (sc : Scope) (cl : List Str) (T : Tab) : Prop where
  hK : Ω.K = X.K
  hu : X.A.units + 65 < cLine
  hN : X.N = N
  hsc : X.env.scope = sc
  nd : X.N.Nodup
  tk : L2N.Takes X W
  fn : ∀ x ∈ cl, X.fn x = true
  free : ∀ x ∈ T.free, X.mg x = none
  con : ∀ x d, (x, d) ∈ T.con → ∃ u v, X.mg x = some u ∧ RelV v u ∧ ∀ G L, Rp Ω.w Ω.K G L v d
  call : ∀ (k : Nat) (x : Str), T.dfs[k]? = some x → ∃ F, Φ.fs[k]? = some F ∧ CallOk Ω X x F
  kw : ∀ x n ks pm k, (x, n, ks, pm, k) ∈ T.kdf → ∃ F, Φ.fs[k]? = some F ∧ KwOk Ω X x n ks pm F
/-- what a def's own body has besides -/
structure Cd (Ω : Om) (X : Cx) (Φ : Ev) (T : Tab) : Prop where
  calm : X.calm = true
  own : PassesOwn (model X.prog X.w) X.A X.env X.xe
  rai : ∀ c x n, (c, x, n) ∈ T.rai → RaiOk Ω X x c ∧ (Ω.fl c).length = n
  stk : X.stack = X.env :: X.outer
  fr : X.env.frame = some X.env.locals
  b0 : Ω.B = B0
  xf : ∀ k fs, (k, fs) ∈ T.cls → Ω.fl k = fs ∧ XfC X.K (Ω.ad k) ∧ ∀ f ∈ fs, PySem.W.findIn X.K (.ref (Ω.ad k)) f = some none
  xc : ∀ c, ExcC X.K (Ω.ad c)
  hx : ∀ m x, (m, x) ∈ T.hdl → ∃ v cv, (X.mg x = some cv ∨ (X.mg x = none ∧ bootBuiltins x = some cv)) ∧ RelV v cv ∧ (∀ u, RelV v u → u = cv) ∧ ∀ c, PySem.W.exmOne X.K (.ref (Ω.ad c)) cv = some (Φ.sub c m) ∧ PySem.W.kitOne X.K (.ref (Ω.ad c)) cv = some (Φ.sub c m)
variable {Ω : Om} {W : WX} {X : Cx} {Φ : Ev} {N : List Str} {sc : Scope} {cl : List Str} {T : Tab}

/-! ### what is checked of names -/
def lookC (sc : Scope) (x : Str) (ks : List NameKind) : Bool := match sc.names.lookup x with
  | some k => ks.contains k
  | none => false
def plainN (x : Str) : Bool := !(x == ("__debug__" : Str)) && !(x == ("__classdict__" : Str)) && !(x == ("__name__" : Str))
def varC (N : List Str) (sc : Scope) (i : Nat) (x : Str) : Bool := decide (N[i]? = some x) && (match sc.names.lookup x with
  | some .local => true
  | some .cell => true
  | some .free => true
  | _ => false) && plainN x
def tgtC (N : List Str) (sc : Scope) (cl : List Str) (i : Nat) (x : Str) : Bool := decide (N[i]? = some x) && (match sc.names.lookup x with
  | some .local => true
  | some .cell => decide (x ∈ cl)
  | _ => false)
def gloC (sc : Scope) (x : Str) : Bool := decide (sc.names.lookup x = some .globalImplicit) && plainN x
def freeC (T : Tab) (sc : Scope) (x : Str) : Bool := gloC sc x && decide (x ∈ T.free)
theorem plainN_ok {x : Str} (h : plainN x = true) : (x == ("__debug__" : Str)) = false ∧ (x == ("__classdict__" : Str)) = false ∧ x ≠ "__name__" := by
  simp only [plainN, Bool.and_eq_true, Bool.not_eq_true'] at h
  exact ⟨h.1.1, h.1.2, fun e => by rw [e] at h; simp at h⟩
theorem varC_ok {i : Nat} {x : Str} (C : Cz Ω X W Φ N sc cl T) (h : varC N sc i x = true) : X.N[i]? = some x ∧ Vis X.env.scope x ∧ (x == ("__debug__" : Str)) = false ∧ (x == ("__classdict__" : Str)) = false := by
  simp only [varC, Bool.and_eq_true, decide_eq_true_eq] at h
  obtain ⟨⟨h1, h2⟩, h3⟩ := h
  refine ⟨by rw [C.hN]; exact h1, ?_, (plainN_ok h3).1, (plainN_ok h3).2.1⟩
  rw [C.hsc]
  unfold Vis
  split at h2
  · exact .inl (by assumption)
  · exact .inr (.inl (by assumption))
  · exact .inr (.inr (by assumption))
  · cases h2
theorem tgtC_ok {i : Nat} {x : Str} (C : Cz Ω X W Φ N sc cl T) (h : tgtC N sc cl i x = true) : X.N[i]? = some x ∧ L2.Loc X.env.scope x ∧ (X.fn x = true ∨ X.env.scope.names.lookup x = some .local) := by
  simp only [tgtC, Bool.and_eq_true, decide_eq_true_eq] at h
  obtain ⟨h1, h2⟩ := h
  refine ⟨by rw [C.hN]; exact h1, ?_⟩
  rw [C.hsc]
  unfold L2.Loc
  split at h2
  · rename_i e
    exact ⟨.inl e, .inr e⟩
  · rename_i e
    exact ⟨.inr e, .inl (C.fn x (of_decide_eq_true h2))⟩
  · cases h2
theorem gloC_ok {x : Str} (C : Cz Ω X W Φ N sc cl T) (h : gloC sc x = true) : Gl X x ∧ (x == ("__debug__" : Str)) = false ∧ x ≠ "__name__" := by
  simp only [gloC, Bool.and_eq_true, decide_eq_true_eq] at h
  exact ⟨by unfold Gl Env.kindOf; rw [C.hsc]; exact h.1, (plainN_ok h.2).1, (plainN_ok h.2).2.2⟩
theorem freeC_ok {x : Str} (C : Cz Ω X W Φ N sc cl T) (h : freeC T sc x = true) : Gl X x ∧ X.mg x = none ∧ (x == ("__debug__" : Str)) = false ∧ x ≠ "__name__" := by
  simp only [freeC, Bool.and_eq_true, decide_eq_true_eq] at h
  obtain ⟨h1, h2, h3⟩ := gloC_ok C h.1
  exact ⟨h1, C.free x h.2, h2, h3⟩

/-! ### blocks of comprehensions -/
def cellsOf (sc : Scope) : List Str := (sc.names.map (·.1)).filter fun x => sc.names.lookup x == some .cell
theorem Cz.blk (C : Cz Ω X W Φ N sc cl T) (s : Shared) (H : Hp) (scope : Scope) (cs : List (Str × Addr)) (Ca : Addr) (fp : List Addr) : Cz Ω (X.blk s H scope (compEnvC scope cs Ca X.env) fp) WF Φ N (relS scope sc) (cellsOf scope) T where
  hK := C.hK
  hu := C.hu
  hN := C.hN
  hsc := by
    show relabel scope X.env = relS scope sc
    rw [← C.hsc]
    rfl
  nd := C.nd
  tk := fun _ _ x => by
    obtain ⟨_, _, _, _, _, _, _, _, _, _, _, _, _, _, _, _, z⟩ := x
    exact z.elim
  fn := fun x h => (List.mem_filter.mp h).2
  free := C.free
  con := C.con
  call := fun k x h => by
    obtain ⟨F, h1, h2⟩ := C.call k x h
    exact ⟨F, h1, ⟨h2.ex⟩⟩
  kw := fun x n ks pm k h => by
    obtain ⟨F, h1, h2⟩ := C.kw x n ks pm k h
    exact ⟨F, h1, ⟨h2.ex⟩⟩
end DL
end

section
set_option Elab.async false
set_option linter.all false
set_option autoImplicit false
set_option maxRecDepth 100000
/-! Dl22: the rules, each for its own form of the small language. -/
namespace DL
open PySem L2
variable {Ω : Om} {W : WX} {X : Cx} {Φ : Ev} {N : List Str} {sc : Scope} {cl : List Str} {T : Tab}
variable {a b c e : Expr} {es : List Expr} {ca cb cc ce : CE} {cs : CAs} {cz : CEs} {pos p p2 p3 p4 : Pos}

/-- an expression, by its form -/
abbrev XE (Ω : Om) (W : WX) (X : Cx) (Φ : Ev) (e : Expr) (ce : CE) : Prop := PE X e (tE Ω W (evE Φ ce))
abbrev XT (Ω : Om) (W : WX) (X : Cx) (Φ : Ev) (e : Expr) (ce : CE) : Prop := PT X e (tT Ω W (fun s => asB (evE Φ ce s)))
abbrev XA (Ω : Om) (W : WX) (X : Cx) (Φ : Ev) (es : List Expr) (cs : CAs) : Prop := PA X es (tA Ω W (evA Φ cs))
abbrev XB (Ω : Om) (W : WX) (X : Cx) (Φ : Ev) (es : List Expr) (cs : CEs) : Prop := PA X es (tB Ω W (evEs Φ cs))
abbrev XO (Ω : Om) (W : WX) (X : Cx) (Φ : Ev) (e : Option Expr) (co : CO) : Prop := PO X e (tO Ω W (evO Φ co))
abbrev XN (Ω : Om) (W : WX) (X : Cx) (Φ : Ev) (e : Expr) (ce : CE) : Prop := PE X e (tN Ω W (evE Φ ce))
abbrev XI (Ω : Om) (W : WX) (X : Cx) (Φ : Ev) (tg e : Expr) (ci : CI) : Prop := PI X tg e (tI Ω W (evI Φ ci))
abbrev XG (Ω : Om) (X : Cx) (e : Expr) (ct : CT) : Prop := PG X e (tGt Ω ct)

/-! ### names, constants -/
theorem x_var {i : Nat} {x : Str} (C : Cz Ω X W Φ N sc cl T) (h : varC N sc i x = true) : XE Ω W X Φ (.Name x pos) (.var i) := by
  obtain ⟨h1, h2, h3, h4⟩ := varC_ok C h
  exact r_var Φ h1 h2 h3 h4
theorem x_int {i : Int} {j : Nat} : XE Ω W X Φ (.Constant (.int i) j pos) (.lit (.int i)) := r_con pe_int fun _ _ => .int i
theorem x_bl {k : Bool} {j : Nat} : XE Ω W X Φ (.Constant (.bool k) j pos) (.lit (.bl k)) := r_con pe_bl fun _ _ => .bl k
theorem x_non {j : Nat} : XE Ω W X Φ (.Constant .none j pos) (.lit .non) := r_con pe_non fun _ _ => .non
theorem x_str {x : Str} {s : List Nat} {j : Nat} (h : (s == x.cps.toList) = true) : XE Ω W X Φ (.Constant (.str x) j pos) (.lit (.str s)) := by
  have e := eq_of_beq h
  subst e
  exact r_con pe_str fun _ _ => .str x
theorem x_glo {x : Str} {y : List Nat} {d : D} (C : Cz Ω X W Φ N sc cl T) (h : gloC sc x = true) (hc : (x, d) ∈ T.con) : XE Ω W X Φ (.Name x pos) (.glo y d) := by
  obtain ⟨h1, h2, h3⟩ := gloC_ok C h
  obtain ⟨u, v, e, r, k⟩ := C.con x d hc
  exact r_con (pe_glob h1 e r h2) k

/-! ### operators -/
theorem x_bin {o : BinO} {op : Operator} (C : Cz Ω X W Φ N sc cl T) (hop : binOp o = op) (ha : XE Ω W X Φ a ca) (hb : XE Ω W X Φ b cb) : XE Ω W X Φ (.BinOp a op b pos) (.bin o ca cb) := by
  subst hop
  exact r_op (op_bin C.hK o) ha hb
theorem x_neg (ha : XE Ω W X Φ a ca) : XE Ω W X Φ (.UnaryOp .USub a pos) (.neg ca) := r_neg ha
/-- a comparison's rule -/
theorem cmpR (C : Cz Ω X W Φ N sc cl T) : ∀ o : CmpO, OpR X (compareOp (cmpOp o)) (rD Ω W (fun d e => (cmpD o d e).map .bl))
  | .eq => op_cmpEq C.hK C.hu false
  | .ne => op_cmpEq C.hK C.hu true
  | .lt => op_cmpOrd .lt rfl
  | .le => op_cmpOrd .le rfl
  | .gt => op_cmpOrd .gt rfl
  | .ge => op_cmpOrd .ge rfl
  | .isn => op_non false
  | .nis => op_non true
  | .isin => op_cmpIn C.hK C.hu false
  | .nin => op_cmpIn C.hK C.hu true
theorem x_cmp {o : CmpO} {op : CmpOp} (C : Cz Ω X W Φ N sc cl T) (hop : cmpOp o = op) (ha : XE Ω W X Φ a ca) (hb : XE Ω W X Φ b cb) (hm : behindInMarks op b = false) : XE Ω W X Φ (.Compare a [op] [b] pos) (.cmp o ca cb) := by
  subst hop
  exact r_cmp (cmpR C o) ha hb hm
theorem t_cmp {o : CmpO} {op : CmpOp} (C : Cz Ω X W Φ N sc cl T) (hop : cmpOp o = op) (ha : XE Ω W X Φ a ca) (hb : XE Ω W X Φ b cb) (hm : behindInMarks op b = false) : XT Ω W X Φ (.Compare a [op] [b] pos) (.cmp o ca cb) := by
  subst hop
  exact r_cmpT (cmpR C o) ha hb hm
theorem chn_eq {o o' : CmpO} (s : DS) : evE Φ (.chn o o' ca cb cc) s = (evE Φ ca s).bind fun x s => (evE Φ cb s).bind fun y s => (Res.lift ((cmpD o (deref s x) (deref s y)).map D.bl) s).bind fun k s => match k with
      | D.bl true => (evE Φ cc s).bind fun z s => .lift ((cmpD o' (deref s y) (deref s z)).map D.bl) s
      | D.bl false => .ok (.bl false) s
      | _ => .stuck := by
  simp only [evE]
  cases evE Φ ca s with
  | ok x s =>
    simp only [Res.bind_ok]
    cases evE Φ cb s with
    | ok y s =>
      simp only [Res.bind_ok]
      cases cmpD o (deref s x) (deref s y) with
      | none => rfl
      | some k => cases k <;> rfl
    | exc _ _ _ => rfl
    | stuck => rfl
  | exc _ _ _ => rfl
  | stuck => rfl
theorem x_chn {o o' : CmpO} {op op' : CmpOp} (C : Cz Ω X W Φ N sc cl T) (hop : cmpOp o = op) (hop' : cmpOp o' = op') (ha : XE Ω W X Φ a ca) (hb : XE Ω W X Φ b cb) (hc : XE Ω W X Φ c cc) (hm : lastMarks [op, op'] [b, c] = false) : XE Ω W X Φ (.Compare a [op, op'] [b, c] pos) (.chn o o' ca cb cc) := by
  subst hop hop'
  refine PE.imp (pe_chain (cmpR C o) (cmpR C o') ha hb hc hm) fun σ H Q h => chn_of (fun d e z hz => ?_) ?_
  · obtain ⟨k, _, rfl⟩ := Option.map_eq_some_iff.mp hz
    exact ⟨k, rfl⟩
  · have e : evE Φ (.chn o o' ca cb cc) = _ := funext chn_eq
    rw [e] at h
    exact h
theorem t_chn {o o' : CmpO} {op op' : CmpOp} (C : Cz Ω X W Φ N sc cl T) (hop : cmpOp o = op) (hop' : cmpOp o' = op') (ha : XE Ω W X Φ a ca) (hb : XE Ω W X Φ b cb) (hc : XE Ω W X Φ c cc) (hm : lastMarks [op, op'] [b, c] = false) : XT Ω W X Φ (.Compare a [op, op'] [b, c] pos) (.chn o o' ca cb cc) := by
  subst hop hop'
  refine PT.imp (pt_chain (cmpR C o) (cmpR C o') ha hb hc hm) fun σ H Q h => ?_
  have h2 := tT_of h
  refine chn_of (fun d e z hz => ?_) ?_
  · obtain ⟨k, _, rfl⟩ := Option.map_eq_some_iff.mp hz
    exact ⟨k, rfl⟩
  · have e : evE Φ (.chn o o' ca cb cc) = _ := funext chn_eq
    rw [e] at h2
    exact h2

/-! ### and, or, not, if -/
theorem asB_and2 {r : CEs} (s : DS) : asB (evAnd Φ (.cons ca (.cons cb r)) s) = (asB (evE Φ ca s)).bind fun k s => if k then asB (evAnd Φ (.cons cb r) s) else .ok false s := by
  simp only [evAnd]
  cases asB (evE Φ ca s) with
  | ok k s => cases k <;> rfl
  | exc _ _ _ => rfl
  | stuck => rfl
theorem asB_or2 {r : CEs} (s : DS) : asB (evOr Φ (.cons ca (.cons cb r)) s) = (asB (evE Φ ca s)).bind fun k s => if k then .ok true s else asB (evOr Φ (.cons cb r) s) := by
  simp only [evOr]
  cases asB (evE Φ ca s) with
  | ok k s => cases k <;> rfl
  | exc _ _ _ => rfl
  | stuck => rfl
theorem asB_nt (s : DS) : asB (evE Φ (.nt ca) s) = (asB (evE Φ ca s)).bind fun k s => .ok (!k) s := by
  simp only [evE]
  cases asB (evE Φ ca s) <;> rfl
theorem w_and1 (ha : XT Ω W X Φ a ca) : PW X (.BoolOp .And [a] pos) (tT Ω W (fun s => asB (evE Φ (.and (.cons ca .nil)) s))) := PW.imp (pw_and1 ha) fun σ H Q h => by
  have e : (fun s => asB (evE Φ (.and (.cons ca .nil)) s)) = fun s => asB (evE Φ ca s) := by funext s; simp only [evE, evAnd, asB_asB (r := evE Φ ca)]
  rw [e] at h
  exact h
theorem w_and {d : Expr} {rest : List Expr} {r : CEs} (ha : XT Ω W X Φ a ca) (hb : PW X (.BoolOp .And (d :: rest) pos) (tT Ω W (fun s => asB (evE Φ (.and (.cons cb r)) s)))) : PW X (.BoolOp .And (a :: d :: rest) pos) (tT Ω W (fun s => asB (evE Φ (.and (.cons ca (.cons cb r))) s))) :=
  PW.imp (pw_and ha hb) fun σ H Q h => by
    have e : (fun s => asB (evE Φ (.and (.cons ca (.cons cb r))) s)) = fun s => (asB (evE Φ ca s)).bind fun k s => if k then asB (evE Φ (.and (.cons cb r)) s) else .ok false s := by funext s; simp only [evE]; exact asB_and2 s
    rw [e] at h
    exact and_of h
theorem w_or1 (ha : XT Ω W X Φ a ca) : PW X (.BoolOp .Or [a] pos) (tT Ω W (fun s => asB (evE Φ (.or (.cons ca .nil)) s))) := PW.imp (pw_or1 ha) fun σ H Q h => by
  have e : (fun s => asB (evE Φ (.or (.cons ca .nil)) s)) = fun s => asB (evE Φ ca s) := by funext s; simp only [evE, evOr, asB_asB (r := evE Φ ca)]
  rw [e] at h
  exact h
theorem w_or {d : Expr} {rest : List Expr} {r : CEs} (ha : XT Ω W X Φ a ca) (hb : PW X (.BoolOp .Or (d :: rest) pos) (tT Ω W (fun s => asB (evE Φ (.or (.cons cb r)) s)))) : PW X (.BoolOp .Or (a :: d :: rest) pos) (tT Ω W (fun s => asB (evE Φ (.or (.cons ca (.cons cb r))) s))) :=
  PW.imp (pw_or ha hb) fun σ H Q h => by
    have e : (fun s => asB (evE Φ (.or (.cons ca (.cons cb r))) s)) = fun s => (asB (evE Φ ca s)).bind fun k s => if k then .ok true s else asB (evE Φ (.or (.cons cb r)) s) := by funext s; simp only [evE]; exact asB_or2 s
    rw [e] at h
    exact or_of h
theorem t_bop {op : BoolOp} {cd : CE} (h : PW X (.BoolOp op es pos) (tT Ω W (fun s => asB (evE Φ cd s)))) : XT Ω W X Φ (.BoolOp op es pos) cd := h.pt
theorem t_nt (ha : XT Ω W X Φ a ca) : XT Ω W X Φ (.UnaryOp .Not a pos) (.nt ca) := PT.imp (pt_not ha) fun σ H Q h => by
  have e : (fun s => asB (evE Φ (.nt ca) s)) = fun s => (asB (evE Φ ca s)).bind fun k s => .ok (!k) s := funext asB_nt
  rw [e] at h
  exact not_of h
theorem t_val (h : XE Ω W X Φ a ca) (he : ∀ whole, isTrue a X.env whole = (do let v ← whole; standAt a.pos; holding [v] (truthy v))) : XT Ω W X Φ a ca := r_val h he
theorem and1_eq (s : DS) : evAnd Φ (.cons ca .nil) s = (asB (evE Φ ca s)).bind fun k s => .ok (.bl k) s := by simp only [evAnd]
/-- the last of several, as a value: a bool -/
theorem x_and1 (ha : XE Ω W X Φ a ca) : PE X (.BoolOp .And [a] pos) (tE Ω W (evE Φ (.and (.cons ca .nil)))) := PE.imp (pe_one ha) fun σ H Q h => by
  obtain ⟨φ, L, G, s, R, h⟩ := h
  refine ⟨φ, L, G, s, R, ?_⟩
  simp only [evE, evAnd] at h
  unfold asB at h
  cases q : evE Φ ca s with
  | ok d s1 =>
    rw [q] at h
    cases d with
    | bl k => exact h
    | _ => exact h.elim
  | exc _ _ _ => rw [q] at h; exact h
  | stuck => rw [q] at h; exact h
theorem x_or1 (ha : XE Ω W X Φ a ca) : PE X (.BoolOp .Or [a] pos) (tE Ω W (evE Φ (.or (.cons ca .nil)))) := PE.imp (pe_one ha) fun σ H Q h => by
  obtain ⟨φ, L, G, s, R, h⟩ := h
  refine ⟨φ, L, G, s, R, ?_⟩
  simp only [evE, evOr] at h
  unfold asB at h
  cases q : evE Φ ca s with
  | ok d s1 =>
    rw [q] at h
    cases d with
    | bl k => exact h
    | _ => exact h.elim
  | exc _ _ _ => rw [q] at h; exact h
  | stuck => rw [q] at h; exact h
theorem x_and {d : Expr} {rest : List Expr} {r : CEs} (ha : XE Ω W X Φ a ca) (hb : XE Ω W X Φ (.BoolOp .And (d :: rest) pos) (.and (.cons cb r))) : XE Ω W X Φ (.BoolOp .And (a :: d :: rest) pos) (.and (.cons ca (.cons cb r))) :=
  PE.imp (pe_and ha hb) fun σ H Q h => andV_of (by
    have e : evE Φ (.and (.cons ca (.cons cb r))) = fun s => (asB (evE Φ ca s)).bind fun k s => if k then evE Φ (.and (.cons cb r)) s else .ok (.bl false) s := by funext s; simp only [evE, evAnd]
    rw [e] at h
    exact h)
theorem x_or {d : Expr} {rest : List Expr} {r : CEs} (ha : XE Ω W X Φ a ca) (hb : XE Ω W X Φ (.BoolOp .Or (d :: rest) pos) (.or (.cons cb r))) : XE Ω W X Φ (.BoolOp .Or (a :: d :: rest) pos) (.or (.cons ca (.cons cb r))) :=
  PE.imp (pe_or ha hb) fun σ H Q h => orV_of (by
    have e : evE Φ (.or (.cons ca (.cons cb r))) = fun s => (asB (evE Φ ca s)).bind fun k s => if k then .ok (.bl true) s else evE Φ (.or (.cons cb r)) s := by funext s; simp only [evE, evOr]
    rw [e] at h
    exact h)
theorem x_nt (ha : XE Ω W X Φ a ca) : XE Ω W X Φ (.UnaryOp .Not a pos) (.nt ca) := PE.imp (pe_not ha) fun σ H Q h => notV_of (by
  have e : evE Φ (.nt ca) = fun s => (asB (evE Φ ca s)).bind fun k s => .ok (.bl (!k)) s := by funext s; simp only [evE]
  rw [e] at h
  exact h)
theorem x_ite (hc : XT Ω W X Φ c cc) (ha : XE Ω W X Φ a ca) (hb : XE Ω W X Φ b cb) : XE Ω W X Φ (.IfExp c a b pos) (.ite cc ca cb) := PE.imp (pe_ifExp hc ha hb) fun σ H Q h => ite_of (by
  have e : evE Φ (.ite cc ca cb) = fun s => (asB (evE Φ cc s)).bind fun k s => if k then evE Φ ca s else evE Φ cb s := by funext s; simp only [evE]
  rw [e] at h
  exact h)

/-! ### arguments, displays -/
theorem a_nil : XA Ω W X Φ [] .nil := PA.imp pa_nil fun σ H Q h => nilA_of h
theorem a_cons (ha : XE Ω W X Φ a ca) (hr : XA Ω W X Φ es cs) (hs : starEach (a :: es) X.env = (false, eval a X.env) :: starEach es X.env) : XA Ω W X Φ (a :: es) (.cons false ca cs) :=
  PA.imp (pa_cons ha hr hs) fun σ H Q h => consA_of (by
    have e : evA Φ (.cons false ca cs) = fun s => (evE Φ ca s).bind fun x s => (esc s x).bind fun x s => (evA Φ cs s).bind fun xs s => .ok (x :: xs) s := by funext s; simp [evA]
    rw [e] at h
    exact h)
theorem a_star (C : Cz Ω X W Φ N sc cl T) (ha : XE Ω W X Φ a ca) (hr : XA Ω W X Φ es cs) (hs : starEach (.Starred a p :: es) X.env = (true, eval a X.env) :: starEach es X.env) : XA Ω W X Φ (.Starred a p :: es) (.cons true ca cs) :=
  PA.imp (StX.pa_star ha hr hs) fun σ H Q h => starA_of C.hK (by
    have e : evA Φ (.cons true ca cs) = fun s => (evE Φ ca s).bind fun x s => match deref s x with
      | .lst ys | .tup ys => (evA Φ cs s).bind fun xs s => .ok (ys ++ xs) s
      | _ => .stuck := by funext s; simp [evA] <;> rfl
    rw [e] at h
    exact h)
theorem b_nil : XB Ω W X Φ [] .nil := PA.imp pa_nil fun σ H Q h => nilB_of h
theorem b_cons (ha : XE Ω W X Φ a ca) (hr : XB Ω W X Φ es cz) (hs : starEach (a :: es) X.env = (false, eval a X.env) :: starEach es X.env) : XB Ω W X Φ (a :: es) (.cons ca cz) := PA.imp (pa_cons ha hr hs) fun σ H Q h => consB_of h
theorem x_tup {k : Nat} (h : XA Ω W X Φ es cs) : XE Ω W X Φ (.Tuple es k pos) (.tup cs) := PE.imp (pe_tup h) fun σ H Q h => tup_of h
theorem x_lst (h : XA Ω W X Φ es cs) : XE Ω W X Φ (.List es pos) (.lst cs) := PE.imp (pe_lst h) fun σ H Q h => lst_of h
theorem y_lst (h : XA Ω W X Φ es cs) : XN Ω W X Φ (.List es pos) (.lst cs) := n_lst h
theorem y_cat (C : Cz Ω X W Φ N sc cl T) (ha : XE Ω W X Φ a ca) (hb : XE Ω W X Φ b cb) : XN Ω W X Φ (.BinOp a .Add b pos) (.cat ca cb) := n_cat C.hK ha hb
theorem y_dic : XN Ω W X Φ (.Dict [] [] pos) (.dct .nil .nil) := PE.imp n_dic fun σ H Q h => by
  have e : evE Φ (.dct .nil .nil) = fun s => .ok (.dic [] []) s := by funext s; simp [evE, evEs, dctD]
  rw [e] at h
  exact h

/-! ### calls -/
theorem x_call {x : Str} {k : Nat} (C : Cz Ω X W Φ N sc cl T) (h : gloC sc x = true) (hk : T.dfs[k]? = some x) (ha : XA Ω W X Φ (e :: es) cs)
    (he : starEach (e :: es) X.env = (false, eval e X.env) :: starEach es X.env) (hpl : (backTo pos (starEach es X.env)).any (·.1) = false) : XE Ω W X Φ (.Call (.Name x p) (e :: es) [] pos) (.call k cs) := by
  obtain ⟨h1, h2, h3⟩ := gloC_ok C h
  obtain ⟨F, hF, hC⟩ := C.call k x hk
  refine PE.imp (r_call hC C.tk h1 ha h2 he hpl) fun σ H Q h => ?_
  have e : evE Φ (.call k cs) = callR F (evA Φ cs) := by funext s; simp only [evE, hF, callR] <;> rfl
  rw [e] at h
  exact h
theorem x_call0 {x : Str} {k : Nat} (C : Cz Ω X W Φ N sc cl T) (h : gloC sc x = true) (hk : T.dfs[k]? = some x) : XE Ω W X Φ (.Call (.Name x p) [] [] pos) (.call k .nil) := by
  obtain ⟨h1, h2, h3⟩ := gloC_ok C h
  obtain ⟨F, hF, hC⟩ := C.call k x hk
  refine PE.imp (r_call0 hC C.tk h1 h2) fun σ H Q h => ?_
  have e : evE Φ (.call k .nil) = callR F (fun s => .ok [] s) := by funext s; simp only [evE, evA, hF, callR] <;> rfl
  rw [e] at h
  exact h
/-- built-in functions and types, by name -/
theorem bi_eq {bi : Bi} : evE Φ (.bi bi cz) = fun s => (evEs Φ cz s).bind fun ds s => .lift (biD bi (ds.map (deref s))) s := by funext s; simp only [evE]
theorem x_len (C : Cz Ω X W Φ N sc cl T) (h : freeC T sc "len" = true) (ha : XB Ω W X Φ (e :: es) cz) (he : starEach (e :: es) X.env = (false, eval e X.env) :: starEach es X.env) (hpl : (backTo pos (starEach es X.env)).any (·.1) = false) : XE Ω W X Φ (.Call (.Name "len" p) (e :: es) [] pos) (.bi .len cz) := by
  obtain ⟨h1, h2, h3, h4⟩ := freeC_ok C h
  exact PE.imp (pe_callB (op_len C.hK) h1 h2 boot_len ha h4 h3 he hpl) fun σ H Q h => bi_of (by rw [bi_eq] at h; exact h)
theorem x_abs (C : Cz Ω X W Φ N sc cl T) (h : freeC T sc "abs" = true) (ha : XB Ω W X Φ (e :: es) cz) (he : starEach (e :: es) X.env = (false, eval e X.env) :: starEach es X.env) (hpl : (backTo pos (starEach es X.env)).any (·.1) = false) : XE Ω W X Φ (.Call (.Name "abs" p) (e :: es) [] pos) (.bi .abs cz) := by
  obtain ⟨h1, h2, h3, h4⟩ := freeC_ok C h
  exact PE.imp (pe_callB op_abs h1 h2 PyProof.Rows.boot_abs ha h4 h3 he hpl) fun σ H Q h => bi_of (by rw [bi_eq] at h; exact h)
theorem x_max (C : Cz Ω X W Φ N sc cl T) (hc : X.calm = true) (h : freeC T sc "max" = true) (ha : XB Ω W X Φ (e :: es) cz) (he : starEach (e :: es) X.env = (false, eval e X.env) :: starEach es X.env) (hpl : (backTo pos (starEach es X.env)).any (·.1) = false) : XE Ω W X Φ (.Call (.Name "max" p) (e :: es) [] pos) (.bi .max2 cz) := by
  obtain ⟨h1, h2, h3, h4⟩ := freeC_ok C h
  exact PE.imp (pe_callB (op_mm true hc) h1 h2 PyProof.Rows.boot_max ha h4 h3 he hpl) fun σ H Q h => bi_of (by rw [bi_eq] at h; exact h)
theorem x_min (C : Cz Ω X W Φ N sc cl T) (hc : X.calm = true) (h : freeC T sc "min" = true) (ha : XB Ω W X Φ (e :: es) cz) (he : starEach (e :: es) X.env = (false, eval e X.env) :: starEach es X.env) (hpl : (backTo pos (starEach es X.env)).any (·.1) = false) : XE Ω W X Φ (.Call (.Name "min" p) (e :: es) [] pos) (.bi .min2 cz) := by
  obtain ⟨h1, h2, h3, h4⟩ := freeC_ok C h
  exact PE.imp (pe_callB (op_mm false hc) h1 h2 PyProof.Rows.boot_min ha h4 h3 he hpl) fun σ H Q h => bi_of (by rw [bi_eq] at h; exact h)
theorem x_all (C : Cz Ω X W Φ N sc cl T) (hc : X.calm = true) (h : freeC T sc "all" = true) (ha : XB Ω W X Φ (e :: es) cz) (he : starEach (e :: es) X.env = (false, eval e X.env) :: starEach es X.env) (hpl : (backTo pos (starEach es X.env)).any (·.1) = false) : XE Ω W X Φ (.Call (.Name "all" p) (e :: es) [] pos) (.bi .all cz) := by
  obtain ⟨h1, h2, h3, h4⟩ := freeC_ok C h
  exact PE.imp (pe_callB (op_aa true C.hK hc) h1 h2 PyProof.Rows.boot_all ha h4 h3 he hpl) fun σ H Q h => bi_of (by rw [bi_eq] at h; exact h)
theorem x_any (C : Cz Ω X W Φ N sc cl T) (hc : X.calm = true) (h : freeC T sc "any" = true) (ha : XB Ω W X Φ (e :: es) cz) (he : starEach (e :: es) X.env = (false, eval e X.env) :: starEach es X.env) (hpl : (backTo pos (starEach es X.env)).any (·.1) = false) : XE Ω W X Φ (.Call (.Name "any" p) (e :: es) [] pos) (.bi .any cz) := by
  obtain ⟨h1, h2, h3, h4⟩ := freeC_ok C h
  exact PE.imp (pe_callB (op_aa false C.hK hc) h1 h2 PyProof.Rows.boot_any ha h4 h3 he hpl) fun σ H Q h => bi_of (by rw [bi_eq] at h; exact h)
theorem x_intC (C : Cz Ω X W Φ N sc cl T) (h : freeC T sc "int" = true) (ha : XB Ω W X Φ (e :: es) cz) (he : starEach (e :: es) X.env = (false, eval e X.env) :: starEach es X.env) (hpl : (backTo pos (starEach es X.env)).any (·.1) = false) : XE Ω W X Φ (.Call (.Name "int" p) (e :: es) [] pos) (.bi .int1 cz) := by
  obtain ⟨h1, h2, h3, h4⟩ := freeC_ok C h
  exact PE.imp (pe_callTy op_int1 h1 h2 PyProof.Rows.boot_int ha h4 h3 he hpl) fun σ H Q h => bi_of (by rw [bi_eq] at h; exact h)
theorem x_tuple (C : Cz Ω X W Φ N sc cl T) (h : freeC T sc "tuple" = true) (ha : XB Ω W X Φ (e :: es) cz) (he : starEach (e :: es) X.env = (false, eval e X.env) :: starEach es X.env) (hpl : (backTo pos (starEach es X.env)).any (·.1) = false) : XE Ω W X Φ (.Call (.Name "tuple" p) (e :: es) [] pos) (.bi .tuple cz) := by
  obtain ⟨h1, h2, h3, h4⟩ := freeC_ok C h
  exact PE.imp (pe_callTy (op_tuple C.hK) h1 h2 PyProof.Rows.boot_tuple ha h4 h3 he hpl) fun σ H Q h => bi_of (by rw [bi_eq] at h; exact h)
theorem x_list (C : Cz Ω X W Φ N sc cl T) (h : freeC T sc "list" = true) (ha : XB Ω W X Φ (e :: es) cz) (he : starEach (e :: es) X.env = (false, eval e X.env) :: starEach es X.env) (hpl : (backTo pos (starEach es X.env)).any (·.1) = false) : XE Ω W X Φ (.Call (.Name "list" p) (e :: es) [] pos) (.bi .list cz) := by
  obtain ⟨h1, h2, h3, h4⟩ := freeC_ok C h
  exact PE.imp (pe_callTy (op_list C.hK) h1 h2 PyProof.Rows.boot_list ha h4 h3 he hpl) fun σ H Q h => bi_of (by rw [bi_eq] at h; exact h)
theorem x_me {m : Me} {n : Str} (C : Cz Ω X W Φ N sc cl T) (hn : meName m = n) (ha : XE Ω W X Φ a ca) (hb : XE Ω W X Φ b cb) (hs : starEach [b] X.env = [(false, eval b X.env)]) (hbase : attributeBase a n X.env (eval a X.env) = eval a X.env) (hline : (p.endLine == pos.line) = true) : XE Ω W X Φ (.Call (.Attribute a n p) [b] [] pos) (.me m ca cb) := by
  subst hn
  exact r_me C.hK ha hb hs hbase hline
theorem x_get (C : Cz Ω X W Φ N sc cl T) (ha : XE Ω W X Φ a ca) (hb : XE Ω W X Φ b cb) (hc : XE Ω W X Φ c cc) (hbase : attributeBase a "get" X.env (eval a X.env) = eval a X.env) (hfew : ((backTo pos (starEach [b, c] X.env)).all (fun x => !x.1) && (backToKw pos (keywordEach [] X.env)).all (fun x => x.1.isSome) && decide (([b, c] : List Expr).length + ([] : List Keyword).length + (if ([] : List Keyword).isEmpty then 0 else 1) < 30)) = true)
    (hline : (p.endLine == pos.line) = true) (ht : backTo pos (starEach [b, c] X.env) = [(false, eval b X.env), (false, eval c X.env)]) : XE Ω W X Φ (.Call (.Attribute a "get" p) [b, c] [] pos) (.get ca cb cc) := r_get C.hu ha hb hc ⟨hbase, hfew, hline, ht⟩

/-! ### subscripts -/
theorem x_idx (C : Cz Ω X W Φ N sc cl T) (ha : XE Ω W X Φ a ca) (hb : XE Ω W X Φ b cb) (hs : PlainIx b) : XE Ω W X Φ (.Subscript a b pos) (.idx ca cb) := r_idx C.hu C.hK ha hb hs
theorem o_none : XO Ω W X Φ none .none := PO.imp po_none fun σ H Q h => noPart_of h
theorem o_some (ha : XE Ω W X Φ a ca) : XO Ω W X Φ (some a) (.some ca) := PO.imp (po_some ha) fun σ H Q h => part_of h
theorem x_sli {lo hi : Option Expr} {cl' ch : CO} (C : Cz Ω X W Φ N sc cl T) (ha : XE Ω W X Φ a ca) (hl : XO Ω W X Φ lo cl') (hh : XO Ω W X Φ hi ch) : XE Ω W X Φ (.Subscript a (.Slice lo hi none p) pos) (.sli ca cl' ch) := r_sli C.hK ha hl hh
theorem x_rev {k : Nat} (C : Cz Ω X W Φ N sc cl T) (ha : XE Ω W X Φ a ca) : XE Ω W X Φ (.Subscript a (.Slice none none (some (.UnaryOp .USub (.Constant (.int 1) k p) p2)) p3) pos) (.rev ca) := r_rev C.hK ha
theorem x_rep (ha : XA Ω W X Φ es cs) (he : XE Ω W X Φ e ce) : XE Ω W X Φ (.BinOp (.List es p) .Mult e pos) (.rep cs ce) := r_rep ha he
theorem x_isi1 {t : Str} {n : Nat} (C : Cz Ω X W Φ N sc cl T) (hn : decide (n < 5) = true) (h : freeC T sc "isinstance" = true) (ha : XE Ω W X Φ a ca) (ht : freeC T sc t = true) (hv : bootBuiltins t = some (.type (tyN n)))
    (hs : starEach [a, .Name t p2] X.env = (false, eval a X.env) :: starEach [.Name t p2] X.env) : XE Ω W X Φ (.Call (.Name "isinstance" p) [a, .Name t p2] [] pos) (.isi ca [n]) := by
  obtain ⟨h1, h2, h3, h4⟩ := freeC_ok C h
  obtain ⟨g1, g2, g3, g4⟩ := freeC_ok C ht
  exact r_isi1 C.hK (of_decide_eq_true hn) h1 h2 ha g1 g2 hv g4 g3 hs
theorem x_isi2 {t u : Str} {n m k : Nat} (C : Cz Ω X W Φ N sc cl T) (hn : decide (n < 5) = true) (hm : decide (m < 5) = true) (h : freeC T sc "isinstance" = true) (ha : XE Ω W X Φ a ca) (ht : freeC T sc t = true) (hv : bootBuiltins t = some (.type (tyN n))) (hu : freeC T sc u = true) (hw : bootBuiltins u = some (.type (tyN m)))
    (hs : starEach [a, .Tuple [.Name t p2, .Name u p3] k p4] X.env = (false, eval a X.env) :: starEach [.Tuple [.Name t p2, .Name u p3] k p4] X.env) : XE Ω W X Φ (.Call (.Name "isinstance" p) [a, .Tuple [.Name t p2, .Name u p3] k p4] [] pos) (.isi ca [n, m]) := by
  obtain ⟨h1, h2, h3, h4⟩ := freeC_ok C h
  obtain ⟨g1, g2, g3, g4⟩ := freeC_ok C ht
  obtain ⟨u1, u2, u3, u4⟩ := freeC_ok C hu
  exact r_isi2 C.hK (of_decide_eq_true hn) (of_decide_eq_true hm) h1 h2 ha g1 g2 hv g4 g3 u1 u2 hw u4 u3 hs
/-! ### f-strings -/
abbrev XF (Ω : Om) (W : WX) (X : Cx) (Φ : Ev) (es : List Expr) (cs : CEs) : Prop := PF Ω W X es (evF Φ cs)
theorem f0 : XF Ω W X Φ [] .nil := by
  have e : evF Φ .nil = fun acc s => .ok (.str acc) s := by funext acc s; simp only [evF]
  unfold XF
  rw [e]
  exact f_nil
theorem f_eq : evF Φ (.cons ca cz) = fun acc s => (evE Φ ca s).bind fun x s => match x with
      | .str y => if (acc ++ y).length ≤ big then evF Φ cz (acc ++ y) s else .stuck
      | _ => .stuck := by funext acc s; simp only [evF] <;> rfl
theorem f1 (ha : XE Ω W X Φ a ca) (hr : XF Ω W X Φ es cz) : XF Ω W X Φ (.FormattedValue a (-1) none p :: es) (.cons ca cz) := by
  unfold XF
  rw [f_eq]
  exact f_cons (fmt := true) (p := p) ha hr rfl
theorem f2 (ha : XE Ω W X Φ a ca) (hr : XF Ω W X Φ es cz) : XF Ω W X Φ (a :: es) (.cons ca cz) := by
  unfold XF
  rw [f_eq]
  exact f_cons (fmt := false) (p := ⟨0, 0, 0, 0⟩) ha hr rfl
theorem x_fst (h : XF Ω W X Φ (a :: b :: es) cz) : XE Ω W X Φ (.JoinedStr (a :: b :: es) pos) (.fst cz) := by
  have e : evE Φ (.fst cz) = evF Φ cz [] := by funext s; simp only [evE]
  unfold XE
  rw [e]
  exact r_fst h
end DL
end

section
set_option Elab.async false
set_option linter.all false
set_option autoImplicit false
set_option maxRecDepth 100000
/-! Dl23: the rules for what is walked, comprehensions, targets, statements. -/
namespace DL
open PySem L2
variable {Ω : Om} {W : WX} {X : Cx} {Φ : Ev} {N : List Str} {sc : Scope} {cl : List Str} {T : Tab}
variable {a b c e tg : Expr} {es : List Expr} {ca cb cc ce : CE} {cs : CAs} {cz : CEs} {pos p p2 p3 p4 : Pos}

/-! ### what is walked -/
theorem i_seqC (C : Cz Ω X W Φ N sc cl T) (h : XE Ω W X Φ a ca) : XI Ω W X Φ tg a (.seq ca) := PI.imp (i_seq C.hK h) fun σ H R h => by
  have e : evI Φ (.seq ca) = fun s => (evE Φ ca s).bind fun x s => (esc s x).bind fun x s => .lift (seqD x) s := by funext s; simp only [evI]
  rw [e] at h
  exact h
theorem i_rng1C (C : Cz Ω X W Φ N sc cl T) (hf : freeC T sc "range" = true) (h : XE Ω W X Φ a ca) (hs : starEach [a] X.env = [(false, eval a X.env)]) : XI Ω W X Φ tg (.Call (.Name "range" p) [a] [] pos) (.rng1 ca) := by
  obtain ⟨h1, h2, h3, h4⟩ := freeC_ok C hf
  refine PI.imp (i_rng1 h1 h2 h hs) fun σ H R h => ?_
  have e : evI Φ (.rng1 ca) = fun s => (evE Φ ca s).bind fun x s => match x with
    | .int n => if -big ≤ n ∧ n ≤ big then .ok (rngD 0 n) s else .stuck
    | _ => .stuck := by funext s; simp only [evI] <;> rfl
  rw [e] at h
  exact h
theorem i_rng2C (C : Cz Ω X W Φ N sc cl T) (hf : freeC T sc "range" = true) (h : XE Ω W X Φ a ca) (h' : XE Ω W X Φ b cb) (hs : starEach [a, b] X.env = (false, eval a X.env) :: starEach [b] X.env) (hs2 : starEach [b] X.env = [(false, eval b X.env)]) :
    XI Ω W X Φ tg (.Call (.Name "range" p) [a, b] [] pos) (.rng2 ca cb) := by
  obtain ⟨h1, h2, h3, h4⟩ := freeC_ok C hf
  refine PI.imp (i_rng2 h1 h2 h h' hs hs2) fun σ H R h => ?_
  have e : evI Φ (.rng2 ca cb) = fun s => (evE Φ ca s).bind fun x s => (evE Φ cb s).bind fun y s => match x, y with
    | .int lo, .int n => if -big ≤ lo ∧ lo ≤ big ∧ -big ≤ n ∧ n ≤ big then .ok (rngD lo n) s else .stuck
    | _, _ => .stuck := by funext s; simp only [evI] <;> rfl
  rw [e] at h
  exact h
theorem i_enumC {elts : List Expr} {kk : Nat} {tpos : Pos} (C : Cz Ω X W Φ N sc cl T) (hf : freeC T sc "enumerate" = true) (h : XE Ω W X Φ a ca) (hs : starEach [a] X.env = [(false, eval a X.env)]) : XI Ω W X Φ (.Tuple elts kk tpos) (.Call (.Name "enumerate" p) [a] [] pos) (.enum ca) := by
  obtain ⟨h1, h2, h3, h4⟩ := freeC_ok C hf
  refine PI.imp (i_enum C.hK h1 h2 h hs) fun σ H R h => ?_
  have e : evI Φ (.enum ca) = fun s => (evE Φ ca s).bind fun x s => (esc s x).bind fun x s => match x with
      | .lst xs | .tup xs => .ok (enumD 0 xs) s
      | _ => .stuck := by funext s; simp only [evI] <;> rfl
  rw [e] at h
  exact h
theorem i_zipC {elts : List Expr} {kk : Nat} {tpos : Pos} (C : Cz Ω X W Φ N sc cl T) (hf : freeC T sc "zip" = true) (h : XE Ω W X Φ a ca) (h' : XE Ω W X Φ b cb) (hs : starEach [a, b] X.env = (false, eval a X.env) :: starEach [b] X.env) (hs2 : starEach [b] X.env = [(false, eval b X.env)]) :
    XI Ω W X Φ (.Tuple elts kk tpos) (.Call (.Name "zip" p) [a, b] [] pos) (.zip ca cb) := by
  obtain ⟨h1, h2, h3, h4⟩ := freeC_ok C hf
  refine PI.imp (i_zip C.hK h1 h2 h h' hs hs2) fun σ H R h => ?_
  have e : evI Φ (.zip ca cb) = fun s => (evE Φ ca s).bind fun x s => (esc s x).bind fun x s => (evE Φ cb s).bind fun y s => (esc s y).bind fun y s => match x, y with
      | .lst xs, .lst ys | .tup xs, .tup ys => .ok (zipD xs ys) s
      | _, _ => .stuck := by funext s; simp only [evI] <;> rfl
  rw [e] at h
  exact h

/-! ### targets -/
abbrev XGs (Ω : Om) (X : Cx) (es : List Expr) (ts : List CT) : Prop := PGs X es (tGts Ω ts)
theorem g_nm {i : Nat} {x : Str} (C : Cz Ω X W Φ N sc cl T) (h : tgtC N sc cl i x = true) : XG Ω X (.Name x pos) (.nm i) := by
  obtain ⟨h1, h2, h3⟩ := tgtC_ok C h
  exact g_name C.nd h1 h2 h3
theorem gs0 : XGs Ω X [] [] := g_nil
theorem gs1 {t : CT} {ts : List CT} (h1 : XG Ω X e t) (h2 : XGs Ω X es ts) (hs : (assignEach (e :: es) X.env).map (·.2) = assign e X.env :: (assignEach es X.env).map (·.2)) : XGs Ω X (e :: es) (t :: ts) := g_cons h1 h2 hs
theorem g_tp {ts : List CT} {k : Nat} (C : Cz Ω X W Φ N sc cl T) (hc : X.calm = true) (h : XGs Ω X es ts) (hn : (assignEach es X.env).length = ts.length) (hst : (assignEach es X.env).findIdx? (·.1) = none) : XG Ω X (.Tuple es k pos) (.tp ts) := g_tup C.hK hc h hn hst rfl

/-! ### comprehensions -/
def ownC (N : List Str) (sc scope : Scope) (vs : List Nat) : Bool := blkC N sc scope (vs.map fun i => (N.getD i Str.empty, i))
theorem blk_of {vs : List Nat} {scope : Scope} (C : Cz Ω X W Φ N sc cl T) (h : ownC N sc scope vs = true) : BlkOk X.N X.env.scope scope (vs.map fun i => (N.getD i Str.empty, i)) := by
  rw [C.hN, C.hsc]
  exact blkOk_by h
theorem own_snd (vs : List Nat) : (vs.map fun i => (N.getD i Str.empty, i)).map (·.2) = vs := by
  rw [List.map_map]
  exact List.map_id' vs
def subC (t : CT) (vs : List Nat) : Bool := (tIx t).all fun i => vs.contains i
theorem subC_ok {t : CT} {vs : List Nat} (h : subC t vs = true) : ∀ i ∈ tIx t, i ∈ vs := fun i hi => by
  have := List.all_eq_true.mp h i hi
  simpa using this
abbrev XTs (Ω : Om) (W : WX) (X : Cx) (Φ : Ev) (es : List Expr) (co : CO) : Prop := PTs X es (tT Ω W (evC Φ co))
theorem ts0 : XTs Ω W X Φ [] .none := by
  have e : evC Φ .none = fun s => .ok true s := by funext s; simp only [evC]
  unfold XTs
  rw [e]
  exact ts_nil
theorem ts1 (h : XT Ω W X Φ a ca) : XTs Ω W X Φ [a] (.some ca) := by
  have e : evC Φ (.some ca) = fun s => asB (evE Φ ca s) := by funext s; simp only [evC]
  unfold XTs
  rw [e]
  exact pts_one h
theorem lc_eq {vs : List Nat} {t : CT} {ci : CI} {co : CO} : evE Φ (.lc vs t ci co ce) = lcR vs t (evI Φ ci) (evC Φ co) (evE Φ ce) := by funext s; simp only [evE, lcR]
/-- what a block's parts are shown in -/
def InB (X : Cx) (scope : Scope) (Y : Cx) : Prop := ∃ (s : Shared) (H : Hp) (C : Addr) (cs : List (Str × Addr)) (fp : List Addr), Y = X.blk s H scope (compEnvC scope cs C X.env) fp
section
variable {elt kx vx iter : Expr} {ifs : List Expr} {scope : Scope} {vs : List Nat} {t : CT} {ci : CI} {co : CO} {ck cv : CE} {i : Nat} {y : Str} {py spos : Pos}
theorem x_lc (C : Cz Ω X W Φ N sc cl T) (hc : X.calm = true) (ok : ownC N sc scope vs = true) (ht2 : subC t vs = true) (hi : XI Ω W X Φ tg iter ci)
    (hg : ∀ Y, Y.calm = true → Cz Ω Y WF Φ N (relS scope sc) (cellsOf scope) T → XG Ω Y tg t) (ht : ∀ Y, Y.calm = true → Cz Ω Y WF Φ N (relS scope sc) (cellsOf scope) T → XTs Ω WF Y Φ ifs co)
    (he : ∀ Y, Y.calm = true → Cz Ω Y WF Φ N (relS scope sc) (cellsOf scope) T → XE Ω WF Y Φ elt ce) (hs : ∀ x, foldedSetIterable iter X.env x = pure x) : XE Ω W X Φ (.ListComp elt [⟨tg, iter, ifs, 0⟩] scope pos) (.lc vs t ci co ce) := by
  unfold XE
  rw [lc_eq]
  exact r_lc hc C.nd hi (blk_of C ok) (fun s H Ca cs fp => hg _ hc (C.blk s H scope cs Ca fp)) (fun s H Ca cs fp => ht _ hc (C.blk s H scope cs Ca fp)) (fun s H Ca cs fp => he _ hc (C.blk s H scope cs Ca fp)) hs (own_snd vs) (subC_ok ht2)
theorem y_lc (C : Cz Ω X W Φ N sc cl T) (hc : X.calm = true) (ok : ownC N sc scope vs = true) (ht2 : subC t vs = true) (hi : XI Ω W X Φ tg iter ci)
    (hg : ∀ Y, Y.calm = true → Cz Ω Y WF Φ N (relS scope sc) (cellsOf scope) T → XG Ω Y tg t) (ht : ∀ Y, Y.calm = true → Cz Ω Y WF Φ N (relS scope sc) (cellsOf scope) T → XTs Ω WF Y Φ ifs co)
    (he : ∀ Y, Y.calm = true → Cz Ω Y WF Φ N (relS scope sc) (cellsOf scope) T → XE Ω WF Y Φ elt ce) (hs : ∀ x, foldedSetIterable iter X.env x = pure x) : XN Ω W X Φ (.ListComp elt [⟨tg, iter, ifs, 0⟩] scope pos) (.lc vs t ci co ce) := by
  unfold XN
  rw [lc_eq]
  exact n_lc hc C.nd hi (blk_of C ok) (fun s H Ca cs fp => hg _ hc (C.blk s H scope cs Ca fp)) (fun s H Ca cs fp => ht _ hc (C.blk s H scope cs Ca fp)) (fun s H Ca cs fp => he _ hc (C.blk s H scope cs Ca fp)) hs (own_snd vs) (subC_ok ht2)
theorem x_dc (C : Cz Ω X W Φ N sc cl T) (hc : X.calm = true) (ok : ownC N sc scope vs = true) (ht2 : subC t vs = true) (hi : XI Ω W X Φ tg iter ci)
    (hg : ∀ Y, Y.calm = true → Cz Ω Y WF Φ N (relS scope sc) (cellsOf scope) T → XG Ω Y tg t) (hk : ∀ Y, Y.calm = true → Cz Ω Y WF Φ N (relS scope sc) (cellsOf scope) T → XE Ω WF Y Φ kx ck)
    (he : ∀ Y, Y.calm = true → Cz Ω Y WF Φ N (relS scope sc) (cellsOf scope) T → XE Ω WF Y Φ vx cv) (hs : ∀ x, foldedSetIterable iter X.env x = pure x) : XE Ω W X Φ (.DictComp kx vx [⟨tg, iter, [], 0⟩] scope pos) (.dc vs t ci ck cv) := by
  have e : evE Φ (.dc vs t ci ck cv) = fun s => (evI Φ ci s).bind fun ds s => if ds.length ≤ big then dcL vs t (evE Φ ck) (evE Φ cv) ds [] [] s else .stuck := by funext s; simp only [evE]
  unfold XE
  rw [e]
  exact r_dc hc C.nd hi (blk_of C ok) (fun s H Ca cs fp => hg _ hc (C.blk s H scope cs Ca fp)) (fun s H Ca cs fp => hk _ hc (C.blk s H scope cs Ca fp)) (fun s H Ca cs fp => he _ hc (C.blk s H scope cs Ca fp)) hs (own_snd vs) (subC_ok ht2)

/-! ### statements -/
abbrev XS (Ω : Om) (W : WX) (X : Cx) (Φ : Ev) (st : Stmt) (cs : CS) : Prop := PS X st (tS Ω W (exS Φ cs))
abbrev XSs (Ω : Om) (W : WX) (X : Cx) (Φ : Ev) (sts : List Stmt) (cs : CSs) : Prop := PSs X sts (tS Ω W (exSs Φ cs))
theorem PS.eq {st : Stmt} {r r' : DS → Res Fl DS} (h : PS X st (tS Ω W r)) (e : r' = r) : PS X st (tS Ω W r') := by rw [e]; exact h
theorem PSs.eq {sts : List Stmt} {r r' : DS → Res Fl DS} (h : PSs X sts (tS Ω W r)) (e : r' = r) : PSs X sts (tS Ω W r') := by rw [e]; exact h
theorem ss0 : XSs Ω W X Φ [] .nil := PSs.eq s_nil (by funext s; simp only [exSs])
theorem ss1 {st : Stmt} {rest : List Stmt} {c1 : CS} {c2 : CSs} (h1 : XS Ω W X Φ st c1) (h2 : XSs Ω W X Φ rest c2) : XSs Ω W X Φ (st :: rest) (.cons c1 c2) := PSs.eq (s_cons h1 h2) (by funext s; simp only [exSs] <;> rfl)
theorem s_retC (h : XE Ω W X Φ a ca) : XS Ω W X Φ (.Return (some a) pos) (.ret ca) := PS.eq (s_ret h) (by funext s; simp only [exS])
theorem s_retNC : XS Ω W X Φ (.Return none pos) .retN := PS.eq s_retN (by funext s; simp only [exS])
theorem s_retGC (h : XN Ω W X Φ a ca) : XS Ω W X Φ (.Return (some a) pos) (.retG ca) := PS.eq (s_retG h) (by funext s; simp only [exS] <;> rfl)
theorem s_pasC : XS Ω W X Φ (.Pass pos) .pas := PS.eq s_pas (by funext s; simp only [exS])
theorem s_brkC : XS Ω W X Φ (.Break pos) .brk := PS.eq s_brk (by funext s; simp only [exS])
theorem s_cntC : XS Ω W X Φ (.Continue pos) .cnt := PS.eq s_cnt (by funext s; simp only [exS])
theorem s_exC (h : XE Ω W X Φ a ca) (hs : swapsWith a none pos.line X.env = pure false) : XS Ω W X Φ (.Expr a pos) (.ex ca) := PS.eq (s_ex h hs) (by funext s; simp only [exS])
theorem s_ifeC {sa sb : List Stmt} {c1 c2 : CSs} (hc : XT Ω W X Φ a ca) (h1 : XSs Ω W X Φ sa c1) (h2 : XSs Ω W X Φ sb c2) : XS Ω W X Φ (.If a sa sb pos) (.ife ca c1 c2) := PS.eq (s_ife hc h1 h2) (by funext s; simp only [exS])
theorem s_whlC {sb : List Stmt} {c1 : CSs} {n : Nat} (hp : PassesOwn (model X.prog X.w) X.A X.env X.xe) (hc : XT Ω W X Φ a ca) (h1 : XSs Ω W X Φ sb c1) : XS Ω W X Φ (.While a sb [] pos) (.whl n ca c1) := PS.eq (s_whl (n := n) hp hc h1) (by funext s; simp only [exS])
theorem s_forC {sb : List Stmt} {c1 : CSs} (hp : PassesOwn (model X.prog X.w) X.A X.env X.xe) (hc : X.calm = true) (hi : XI Ω W X Φ tg iter ci) (hg : XG Ω X tg t) (h1 : XSs Ω W X Φ sb c1) (hs : ∀ x, foldedSetIterable iter X.env x = pure x) :
    XS Ω W X Φ (.For tg iter sb [] pos) (.for_ t ci c1) := PS.eq (s_for hp hc hi hg h1 hs) (by funext s; simp only [exS])
theorem asg_eq {t : CT} : exS Φ (.asg t ca) = fun s => (evE Φ ca s).bind fun x s => (esc s x).bind fun x s => match putT t x s with
      | some s => .ok .nx s
      | none => .stuck := by funext s; simp only [exS] <;> rfl
theorem s_asgC (h : XE Ω W X Φ a ca) (hg : XG Ω X tg t) (hs : swapsWithSole [tg] a pos.line X.env = pure false) (hw : swappedStores [tg] a X.env = pure none) (h1 : (assignEach [tg] X.env).map (·.2) = [assign tg X.env]) : XS Ω W X Φ (.Assign [tg] a pos) (.asg t ca) := PS.eq (s_asg h hg hs hw h1) asg_eq
/-- y = [..] on one line, y a plain local name -/
def oneL (sc scope : Scope) (y : Str) (py pos : Pos) : Bool := decide (sc.kind = .function) && decide (sc.names.lookup y = some .local) && (py.line == pos.line) && !(scope.names.any fun (n, k) => n == y && (k == .local || k == .cell))
theorem oneL_ok {spos : Pos} (C : Cz Ω X W Φ N sc cl T) (h : oneL sc scope y py pos = true) : X.env.scope.names.lookup y = some .local ∧ swapsWith (.ListComp elt [⟨tg, iter, ifs, 0⟩] scope pos) (some (.Name y py)) spos.line X.env = pure true := by
  simp only [oneL, Bool.and_eq_true, decide_eq_true_eq, Bool.not_eq_true'] at h
  obtain ⟨⟨⟨h1, h2⟩, h3⟩, h4⟩ := h
  have e1 : X.env.scope.names.lookup y = some .local := by rw [C.hsc]; exact h2
  exact ⟨e1, sw_true (by rw [C.hsc]; exact h1) e1 h3 h4⟩
theorem s_asgLcC (C : Cz Ω X W Φ N sc cl T) (hc : X.calm = true) (hv : tgtC N sc cl i y = true) (h1 : oneL sc scope y py pos = true) (ok : ownC N sc scope vs = true) (ht2 : subC t vs = true) (hi : XI Ω W X Φ tg iter ci)
    (hg : ∀ Y, Y.calm = true → Cz Ω Y WF Φ N (relS scope sc) (cellsOf scope) T → XG Ω Y tg t) (ht : ∀ Y, Y.calm = true → Cz Ω Y WF Φ N (relS scope sc) (cellsOf scope) T → XTs Ω WF Y Φ ifs co)
    (he : ∀ Y, Y.calm = true → Cz Ω Y WF Φ N (relS scope sc) (cellsOf scope) T → XE Ω WF Y Φ elt ce) (hs : ∀ x, foldedSetIterable iter X.env x = pure x) : XS Ω W X Φ (.Assign [.Name y py] (.ListComp elt [⟨tg, iter, ifs, 0⟩] scope pos) spos) (.asg (.nm i) (.lc vs t ci co ce)) := by
  obtain ⟨q1, q2⟩ := oneL_ok (tg := tg) (iter := iter) (ifs := ifs) (elt := elt) (spos := spos) C h1
  refine PS.eq (s_asgLc hc C.nd (tgtC_ok C hv).1 q1 q2 hi (blk_of C ok) (fun s H Ca cs fp => hg _ hc (C.blk s H scope cs Ca fp)) (fun s H Ca cs fp => ht _ hc (C.blk s H scope cs Ca fp)) (fun s H Ca cs fp => he _ hc (C.blk s H scope cs Ca fp)) hs (own_snd vs) (subC_ok ht2)) ?_
  rw [asg_eq, lc_eq]
  rfl
theorem own_eq : exS Φ (.own i ca) = ownR i (evE Φ ca) := by funext s; simp only [exS]; rfl
theorem s_ownLcC (C : Cz Ω X W Φ N sc cl T) (hc : X.calm = true) (hv : tgtC N sc cl i y = true) (h1 : oneL sc scope y py pos = true) (ok : ownC N sc scope vs = true) (ht2 : subC t vs = true) (hi : XI Ω W X Φ tg iter ci)
    (hg : ∀ Y, Y.calm = true → Cz Ω Y WF Φ N (relS scope sc) (cellsOf scope) T → XG Ω Y tg t) (ht : ∀ Y, Y.calm = true → Cz Ω Y WF Φ N (relS scope sc) (cellsOf scope) T → XTs Ω WF Y Φ ifs co)
    (he : ∀ Y, Y.calm = true → Cz Ω Y WF Φ N (relS scope sc) (cellsOf scope) T → XE Ω WF Y Φ elt ce) (hs : ∀ x, foldedSetIterable iter X.env x = pure x) : XS Ω W X Φ (.Assign [.Name y py] (.ListComp elt [⟨tg, iter, ifs, 0⟩] scope pos) spos) (.own i (.lc vs t ci co ce)) := by
  obtain ⟨q1, q2⟩ := oneL_ok (tg := tg) (iter := iter) (ifs := ifs) (elt := elt) (spos := spos) C h1
  refine PS.eq (s_ownLc hc C.nd (tgtC_ok C hv).1 q1 q2 hi (blk_of C ok) (fun s H Ca cs fp => hg _ hc (C.blk s H scope cs Ca fp)) (fun s H Ca cs fp => ht _ hc (C.blk s H scope cs Ca fp)) (fun s H Ca cs fp => he _ hc (C.blk s H scope cs Ca fp)) hs (own_snd vs) (subC_ok ht2)) ?_
  rw [own_eq, lc_eq]
theorem s_ownC (C : Cz Ω X W Φ N sc cl T) (hv : tgtC N sc cl i y = true) (h : XN Ω W X Φ a ca) (hs : swapsWith a (some (.Name y py)) pos.line X.env = pure false) : XS Ω W X Φ (.Assign [.Name y py] a pos) (.own i ca) := by
  obtain ⟨h1, h2, h3⟩ := tgtC_ok C hv
  exact PS.eq (s_own C.nd h1 h2 h hs h3) own_eq
theorem s_glbC (C : Cz Ω X W Φ N sc cl T) (hv : tgtC N sc cl i y = true) (h : XN Ω W X Φ a ca) (hs : swapsWith a (some (.Name y py)) pos.line X.env = pure false) : XS Ω W X Φ (.Assign [.Name y py] a pos) (.glb i ca) := by
  obtain ⟨h1, h2, h3⟩ := tgtC_ok C hv
  exact PS.eq (s_glb C.nd h1 h2 h hs h3) (by funext s; simp only [exS]; rfl)
theorem s_appC {apos cpos : Pos} (C : Cz Ω X W Φ N sc cl T) (ho : XE Ω W X Φ b cb) (h : XE Ω W X Φ a ca) (hbase : attributeBase b "append" X.env (eval b X.env) = eval b X.env) (hline : (apos.endLine == cpos.line) = true)
    (hfew : ((backTo cpos (starEach [a] X.env)).all (fun x => !x.1) && (backToKw cpos (keywordEach [] X.env)).all (fun x => x.1.isSome) && decide (([a] : List Expr).length + ([] : List Keyword).length + (if ([] : List Keyword).isEmpty then 0 else 1) < 30)) = true)
    (hs : starEach [a] X.env = (false, eval a X.env) :: starEach [] X.env) (hw : swapsWith (.Call (.Attribute b "append" apos) [a] [] cpos) none pos.line X.env = pure false) : XS Ω W X Φ (.Expr (.Call (.Attribute b "append" apos) [a] [] cpos) pos) (.app cb ca) :=
  PS.eq (s_app C.hK ho h hbase hline hfew hs hw) (by funext s; simp only [exS]; rfl)
theorem s_stiC {tpos : Pos} (C : Cz Ω X W Φ N sc cl T) (ho : XE Ω W X Φ b cb) (hk : XE Ω W X Φ c cc) (h : XE Ω W X Φ a ca)
    (ha : ∀ v, assign (.Subscript b c tpos) X.env v = (do
      let ov ← holding [v] (eval b X.env)
      let iv ← holding [v, ov] (eval c X.env)
      standAt tpos
      holding [v, ov, iv] (setItem ov iv v)
      release [v, ov, iv] [])) (hs : swapsWithSole [.Subscript b c tpos] a pos.line X.env = pure false) (hw : swappedStores [.Subscript b c tpos] a X.env = pure none) (h1 : (assignEach [.Subscript b c tpos] X.env).map (·.2) = [assign (.Subscript b c tpos) X.env]) :
    XS Ω W X Φ (.Assign [.Subscript b c tpos] a pos) (.sti cb cc ca) := PS.eq (s_sti C.hu ho hk h ha hs hw h1) (by funext s; simp only [exS]; rfl)
end
end DL
end

section
set_option Elab.async false
set_option linter.all false
set_option autoImplicit false
set_option maxRecDepth 100000
/-! Dl24: paired stores, raise, try, by form. -/
namespace DL
open PySem L2
variable {Ω : Om} {W : WX} {X : Cx} {Φ : Ev} {N : List Str} {sc : Scope} {cl : List Str} {T : Tab}
variable {a b c e tg : Expr} {es : List Expr} {ca cb cc ce : CE} {cs : CAs} {cz : CEs} {pos p p2 p3 p4 : Pos}

/-! ### a, b = x, y -/
abbrev XL (Ω : Om) (W : WX) (X : Cx) (Φ : Ev) (es : List Expr) (cs : CAs) : Prop := PA X es (tAN Ω W (evA Φ cs))
theorem l_one (h : XN Ω W X Φ a ca) (hs : starEach [a] X.env = (false, eval a X.env) :: starEach [] X.env) : XL Ω W X Φ [a] (.cons false ca .nil) := PA.imp (pa_cons h pa_nil hs) fun σ H Q h => lastN_of (by
  have e : evA Φ (.cons false ca .nil) = fun s => (evE Φ ca s).bind fun x s => (esc s x).bind fun x s => (Res.ok [] s : Res (List D) DS).bind fun xs s => .ok (x :: xs) s := by funext s; simp [evA]
  rw [e] at h
  exact h)
theorem evA_ne {st : Bool} {s s' : DS} {ds : List D} (h : evA Φ (.cons false ca cs) s = .ok ds s') : ds ≠ [] := by
  intro e
  subst e
  simp only [evA, Bool.false_eq_true, if_false] at h
  cases q1 : evE Φ ca s with
  | ok x s1 =>
    rw [q1] at h
    simp only [Res.bind_ok] at h
    cases q2 : esc s1 x with
    | ok y s2 =>
      rw [q2] at h
      simp only [Res.bind_ok] at h
      cases q3 : evA Φ cs s2 with
      | ok zs s3 => rw [q3] at h; cases h
      | exc _ _ _ => rw [q3] at h; cases h
      | stuck => rw [q3] at h; cases h
    | exc _ _ _ => rw [q2] at h; cases h
    | stuck => rw [q2] at h; cases h
  | exc _ _ _ => rw [q1] at h; cases h
  | stuck => rw [q1] at h; cases h
theorem l_cons (h : XE Ω W X Φ a ca) (hr : XL Ω W X Φ (b :: es) (.cons false cb cs)) (hs : starEach (a :: b :: es) X.env = (false, eval a X.env) :: starEach (b :: es) X.env) : XL Ω W X Φ (a :: b :: es) (.cons false ca (.cons false cb cs)) :=
  PA.imp (pa_cons h hr hs) fun σ H Q h => consN_of (fun s ds s' q => evA_ne (st := false) q) (by
    have e : evA Φ (.cons false ca (.cons false cb cs)) = fun s => (evE Φ ca s).bind fun x s => (esc s x).bind fun x s => (evA Φ (.cons false cb cs) s).bind fun xs s => .ok (x :: xs) s := by funext s; rw [evA]; simp
    rw [e] at h
    exact h)
def parC (N : List Str) (sc : Scope) (i : Nat) (x : Str) : Bool := decide (N[i]? = some x) && decide (sc.names.lookup x = some .local)
theorem parC_ok {i : Nat} {x : Str} (C : Cz Ω X W Φ N sc cl T) (h : parC N sc i x = true) : X.N[i]? = some x ∧ X.env.scope.names.lookup x = some .local := by
  simp only [parC, Bool.and_eq_true, decide_eq_true_eq] at h
  exact ⟨by rw [C.hN]; exact h.1, by rw [C.hsc]; exact h.2⟩
theorem env_of (C : Cz Ω X W Φ N sc cl T) : X.env = { X.env with scope := sc } := by
  have h := C.hsc
  cases q : X.env
  rw [q] at h
  simp only at h
  subst h
  rfl
theorem par2_eq {i j : Nat} {k : Bool} : exS Φ (.par [(i, false), (j, k)] cz) = par2R i j k (evA Φ (asA cz)) := by funext s; simp only [exS, par2R]
theorem par3_eq {i j l : Nat} {k : Bool} : exS Φ (.par [(i, false), (j, false), (l, k)] cz) = par3R i j l k (evA Φ (asA cz)) := by funext s; simp only [exS, par3R]
section
variable {i j l : Nat} {x y z : Str} {px py pz pt pt2 : Pos} {kt k2 : Nat}
theorem s_par2 (C : Cz Ω X W Φ N sc cl T) (hc : X.calm = true) (h1 : parC N sc i x = true) (h2 : parC N sc j y = true) (hij : decide (i ≠ j) = true) (ha : XA Ω W X Φ [a, b] (asA cz))
    (hw : ∀ E : Env, swappedStores [.Tuple [.Name x px, .Name y py] kt pt] (.Tuple [a, b] k2 pt2) { E with scope := sc } = pure (some [x, y])) (hs : swapsWithSole [.Tuple [.Name x px, .Name y py] kt pt] (.Tuple [a, b] k2 pt2) pos.line X.env = pure false) :
    XS Ω W X Φ (.Assign [.Tuple [.Name x px, .Name y py] kt pt] (.Tuple [a, b] k2 pt2) pos) (.par [(i, false), (j, false)] cz) :=
  PS.eq (PS.imp (ps_par hc C.nd (parC_ok C h1).1 (parC_ok C h2).1 (of_decide_eq_true hij) (parC_ok C h1).2 (parC_ok C h2).2 ha (by rw [env_of C]; exact hw _) hs) fun D σ H h => par2_of h) par2_eq
theorem s_par2N (C : Cz Ω X W Φ N sc cl T) (hc : X.calm = true) (h1 : parC N sc i x = true) (h2 : parC N sc j y = true) (hij : decide (i ≠ j) = true) (ha : XL Ω W X Φ [a, b] (asA cz))
    (hw : ∀ E : Env, swappedStores [.Tuple [.Name x px, .Name y py] kt pt] (.Tuple [a, b] k2 pt2) { E with scope := sc } = pure (some [x, y])) (hs : swapsWithSole [.Tuple [.Name x px, .Name y py] kt pt] (.Tuple [a, b] k2 pt2) pos.line X.env = pure false) :
    XS Ω W X Φ (.Assign [.Tuple [.Name x px, .Name y py] kt pt] (.Tuple [a, b] k2 pt2) pos) (.par [(i, false), (j, true)] cz) :=
  PS.eq (PS.imp (ps_par hc C.nd (parC_ok C h1).1 (parC_ok C h2).1 (of_decide_eq_true hij) (parC_ok C h1).2 (parC_ok C h2).2 ha (by rw [env_of C]; exact hw _) hs) fun D σ H h => par2N_of h) par2_eq
theorem s_par3 (C : Cz Ω X W Φ N sc cl T) (hc : X.calm = true) (h1 : parC N sc i x = true) (h2 : parC N sc j y = true) (h3 : parC N sc l z = true) (hij : decide (i ≠ j) = true) (hil : decide (i ≠ l) = true) (hjl : decide (j ≠ l) = true) (ha : XA Ω W X Φ [a, b, c] (asA cz))
    (hw : ∀ E : Env, swappedStores [.Tuple [.Name x px, .Name y py, .Name z pz] kt pt] (.Tuple [a, b, c] k2 pt2) { E with scope := sc } = pure (some [x, y, z])) (hs : swapsWithSole [.Tuple [.Name x px, .Name y py, .Name z pz] kt pt] (.Tuple [a, b, c] k2 pt2) pos.line X.env = pure false) :
    XS Ω W X Φ (.Assign [.Tuple [.Name x px, .Name y py, .Name z pz] kt pt] (.Tuple [a, b, c] k2 pt2) pos) (.par [(i, false), (j, false), (l, false)] cz) :=
  PS.eq (PS.imp (ps_par3 hc C.nd (parC_ok C h1).1 (parC_ok C h2).1 (parC_ok C h3).1 (of_decide_eq_true hij) (of_decide_eq_true hil) (of_decide_eq_true hjl) (parC_ok C h1).2 (parC_ok C h2).2 (parC_ok C h3).2 ha (by rw [env_of C]; exact hw _) hs) fun D σ H h => par3_of h) par3_eq
theorem s_par3N (C : Cz Ω X W Φ N sc cl T) (hc : X.calm = true) (h1 : parC N sc i x = true) (h2 : parC N sc j y = true) (h3 : parC N sc l z = true) (hij : decide (i ≠ j) = true) (hil : decide (i ≠ l) = true) (hjl : decide (j ≠ l) = true) (ha : XL Ω W X Φ [a, b, c] (asA cz))
    (hw : ∀ E : Env, swappedStores [.Tuple [.Name x px, .Name y py, .Name z pz] kt pt] (.Tuple [a, b, c] k2 pt2) { E with scope := sc } = pure (some [x, y, z])) (hs : swapsWithSole [.Tuple [.Name x px, .Name y py, .Name z pz] kt pt] (.Tuple [a, b, c] k2 pt2) pos.line X.env = pure false) :
    XS Ω W X Φ (.Assign [.Tuple [.Name x px, .Name y py, .Name z pz] kt pt] (.Tuple [a, b, c] k2 pt2) pos) (.par [(i, false), (j, false), (l, true)] cz) :=
  PS.eq (PS.imp (ps_par3 hc C.nd (parC_ok C h1).1 (parC_ok C h2).1 (parC_ok C h3).1 (of_decide_eq_true hij) (of_decide_eq_true hil) (of_decide_eq_true hjl) (parC_ok C h1).2 (parC_ok C h2).2 (parC_ok C h3).2 ha (by rw [env_of C]; exact hw _) hs) fun D σ H h => par3N_of h) par3_eq
/-- .. while an error is handled -/
theorem s_par2H (C : Cz Ω X W Φ N sc cl T) (hc : L2H.HotC X) (h1 : parC N sc i x = true) (h2 : parC N sc j y = true) (hij : decide (i ≠ j) = true) (ha : XA Ω W X Φ [a, b] (asA cz))
    (hw : ∀ E : Env, swappedStores [.Tuple [.Name x px, .Name y py] kt pt] (.Tuple [a, b] k2 pt2) { E with scope := sc } = pure (some [x, y])) (hs : swapsWithSole [.Tuple [.Name x px, .Name y py] kt pt] (.Tuple [a, b] k2 pt2) pos.line X.env = pure false) :
    XS Ω W X Φ (.Assign [.Tuple [.Name x px, .Name y py] kt pt] (.Tuple [a, b] k2 pt2) pos) (.par [(i, false), (j, false)] cz) :=
  PS.eq (PS.imp (ps_parH hc C.nd (parC_ok C h1).1 (parC_ok C h2).1 (of_decide_eq_true hij) (parC_ok C h1).2 (parC_ok C h2).2 ha (by rw [env_of C]; exact hw _) hs) fun D σ H h => par2_of h) par2_eq
end

/-! ### .. by a tuple that is unpacked -/
theorem par2T_of {i j : Nat} {D : Ends} {K : PySem.W.Frag} {ra : DS → Res (List DL.D) DS} {σ : St} {H : Hp} (h : tS Ω W (par2R i j false ra) D σ H) : tAsg (tTup (tA Ω W ra)) (gTup K 2 (gCons (gName i) (gCons (gName j) gNil))) D σ H := by
  obtain ⟨φ, L, G, s, R, h⟩ := h
  refine ⟨φ, L, G, s, R, h.goE fun ds s1 L1 G1 H1 l1 e1 R1 h1 vs hvs => ?_⟩
  cases hvs with
  | nil => exact h1.elim
  | cons r1 hvs =>
    cases hvs with
    | nil => exact h1.elim
    | cons r2 hvs =>
      cases hvs with
      | cons => exact h1.elim
      | nil => exact ⟨by show 2 ≤ sizeLine; decide, fun p hp => ⟨p, _, rfl, .inl (.inl upd_same), rfl, _, _, rfl, _, _, rfl, rfl, okS.ok h1 (((R1.alloc hp).put (i := i) r1).put (i := j) r2) (List.prefix_refl _) (Ex.refl _)⟩⟩
theorem Fr.alloc {φ : Fx} {L : List Addr} {G H : Hp} {s : DS} {σ : St} {a p : Addr} {m : MO} {o : HO} (F : Fr Ω φ L G s σ H a m) (hp : H p = none) : Fr Ω φ L G s σ (upd H p o) a m :=
  ⟨F.g, F.l, F.o, F.f, F.at_.mono (Ex.refl _) (List.prefix_refl _) fun _ q => Ex.new hp _ _ q⟩
theorem par2TN_of {i j : Nat} {D : Ends} {K : PySem.W.Frag} {ra : DS → Res (List DL.D) DS} {σ : St} {H : Hp} (h : tS Ω W (par2R i j true ra) D σ H) : tAsg (tTup (tAN Ω W ra)) (gTup K 2 (gCons (gName i) (gCons (gName j) gNil))) D σ H := by
  obtain ⟨φ, L, G, s, R, h⟩ := h
  refine ⟨φ, L, G, s, R, h.goE fun ds s1 L1 G1 H1 l1 e1 R1 h1 vs ds0 d m a H2 hds hm hvs R2 F => ?_⟩
  subst hds
  cases hvs with
  | nil => exact h1.elim
  | @cons v _ d1 _ r1 hvs =>
    cases hvs with
    | cons _ r =>
      exfalso
      cases r <;> simp only [List.cons_append, List.nil_append, parL, Bool.false_eq_true, if_false, if_true] at h1
      all_goals (generalize moD _ = z at h1; cases z <;> exact h1.elim)
    | nil =>
      simp only [List.nil_append, List.cons_append, parL, Bool.false_eq_true, if_false, if_true, hm] at h1
      exact ⟨by show 2 ≤ sizeLine; decide, fun p hp => ⟨p, _, rfl, .inl (.inl upd_same), rfl, _, _, rfl, _, _, rfl, rfl, okS.ok h1 (((R2.alloc hp).put (i := i) r1).putOwn (i := j) (F.alloc hp).put) (List.prefix_refl _) (Ex.refl _)⟩⟩
section
variable {i j l : Nat} {x y z : Str} {px py pz pt pt2 : Pos} {kt k2 : Nat}
theorem s_parT2 (C : Cz Ω X W Φ N sc cl T) (hc : X.calm = true) (h1 : tgtC N sc cl i x = true) (h2 : tgtC N sc cl j y = true) (ha : XA Ω W X Φ [a, b] (asA cz))
    (hw : ∀ E : Env, swappedStores [.Tuple [.Name x px, .Name y py] kt pt] (.Tuple [a, b] k2 pt2) { E with scope := sc } = pure none) (hs : swapsWithSole [.Tuple [.Name x px, .Name y py] kt pt] (.Tuple [a, b] k2 pt2) pos.line X.env = pure false) :
    XS Ω W X Φ (.Assign [.Tuple [.Name x px, .Name y py] kt pt] (.Tuple [a, b] k2 pt2) pos) (.par [(i, false), (j, false)] cz) :=
  PS.eq (PS.imp (ps_asg (pe_tup ha) (pg_tup hc (pgs_cons (pg_name C.nd (tgtC_ok C h1).1 (tgtC_ok C h1).2.1 (tgtC_ok C h1).2.2) (pgs_cons (pg_name C.nd (tgtC_ok C h2).1 (tgtC_ok C h2).2.1 (tgtC_ok C h2).2.2) pgs_nil rfl) rfl) (n := 2) rfl rfl) hs (by rw [env_of C]; exact hw _) rfl) fun D σ H h => par2T_of h) par2_eq
theorem s_parT2N (C : Cz Ω X W Φ N sc cl T) (hc : X.calm = true) (h1 : tgtC N sc cl i x = true) (h2 : tgtC N sc cl j y = true) (ha : XL Ω W X Φ [a, b] (asA cz))
    (hw : ∀ E : Env, swappedStores [.Tuple [.Name x px, .Name y py] kt pt] (.Tuple [a, b] k2 pt2) { E with scope := sc } = pure none) (hs : swapsWithSole [.Tuple [.Name x px, .Name y py] kt pt] (.Tuple [a, b] k2 pt2) pos.line X.env = pure false) :
    XS Ω W X Φ (.Assign [.Tuple [.Name x px, .Name y py] kt pt] (.Tuple [a, b] k2 pt2) pos) (.par [(i, false), (j, true)] cz) :=
  PS.eq (PS.imp (ps_asg (pe_tup ha) (pg_tup hc (pgs_cons (pg_name C.nd (tgtC_ok C h1).1 (tgtC_ok C h1).2.1 (tgtC_ok C h1).2.2) (pgs_cons (pg_name C.nd (tgtC_ok C h2).1 (tgtC_ok C h2).2.1 (tgtC_ok C h2).2.2) pgs_nil rfl) rfl) (n := 2) rfl rfl) hs (by rw [env_of C]; exact hw _) rfl) fun D σ H h => par2TN_of h) par2_eq
end

/-! ### raise -/
def lenEs : CEs → Nat
  | .nil => 0
  | .cons _ r => lenEs r + 1
theorem evA_len : ∀ (cz : CEs) {s s' : DS} {ds : List D}, evA Φ (asA cz) s = .ok ds s' → ds.length = lenEs cz
  | .nil, s, s', ds, h => by
    simp only [asA, evA] at h
    cases h
    rfl
  | .cons ca cz, s, s', ds, h => by
    simp only [asA, evA, Bool.false_eq_true, if_false] at h
    cases q1 : evE Φ ca s with
    | ok x s1 =>
      rw [q1] at h
      simp only [Res.bind_ok] at h
      cases q2 : esc s1 x with
      | ok y s2 =>
        rw [q2] at h
        simp only [Res.bind_ok] at h
        cases q3 : evA Φ (asA cz) s2 with
        | ok zs s3 =>
          rw [q3] at h
          cases h
          rw [List.length_cons, evA_len cz q3]
          rfl
        | exc _ _ _ => rw [q3] at h; cases h
        | stuck => rw [q3] at h; cases h
      | exc _ _ _ => rw [q2] at h; cases h
      | stuck => rw [q2] at h; cases h
    | exc _ _ _ => rw [q1] at h; cases h
    | stuck => rw [q1] at h; cases h
theorem s_raiC {x : Str} {k n : Nat} {p5 : Pos} (C : Cz Ω X W Φ N sc cl T) (K : Cd Ω X Φ T) (h : gloC sc x = true) (hk : (k, x, n) ∈ T.rai) (hn : (lenEs cz == n && decide (0 < n) && decide (n ≤ 1000)) = true) (ha : XA Ω W X Φ (e :: es) (asA cz))
    (he : starEach (e :: es) X.env = (false, eval e X.env) :: starEach es X.env) (hpl : (backTo pos (starEach es X.env)).any (·.1) = false) : XS Ω W X Φ (.Raise (some (.Call (.Name x p) (e :: es) [] pos)) none p5) (.rai k cz) := by
  obtain ⟨h1, h2, h3⟩ := gloC_ok C h
  obtain ⟨r, hl⟩ := K.rai k x n hk
  simp only [Bool.and_eq_true, decide_eq_true_eq, beq_iff_eq] at hn
  refine PS.eq (s_rai K.calm C.tk r (fun q => by rw [q] at hl; simp at hl; omega) (fun s ds s' q => ⟨by rw [evA_len cz q, hl]; exact hn.1.1, by rw [evA_len cz q]; omega⟩) h1 h2 ha he hpl) ?_
  funext s
  simp only [exS, raiR]

/-! ### calls with keywords -/
abbrev XKw (Ω : Om) (W : WX) (X : Cx) (Φ : Ev) (kws : List Keyword) (cs : CAs) : Prop := PK X kws (tA Ω W (evA Φ cs))
theorem PK.imp {X : Cx} {es : List Keyword} {t u : TA} (h : PK X es t) (k : ∀ σ H Q, u σ H Q → t σ H Q) : PK X es u := ⟨fun pos pins s σ H Q I q => h.run pos pins s σ H Q I (k σ H Q q)⟩
theorem k_nil : XKw Ω W X Φ [] .nil := PK.imp pk_nil fun σ H Q h => nilA_of h
theorem k_cons {kws : List Keyword} {nm : Option Str} {kp : Pos} (ha : XE Ω W X Φ a ca) (hr : XKw Ω W X Φ kws cs) : XKw Ω W X Φ (⟨nm, a, kp⟩ :: kws) (.cons false ca cs) := PK.imp (pk_cons ha hr) fun σ H Q h => consA_of (by
    have e : evA Φ (.cons false ca cs) = fun s => (evE Φ ca s).bind fun x s => (esc s x).bind fun x s => (evA Φ cs s).bind fun xs s => .ok (x :: xs) s := by funext s; simp [evA]
    rw [e] at h
    exact h)
theorem callk_eq {k : Nat} {c1 c2 : CAs} {pm : List Nat} {F : DF} (hF : Φ.fs[k]? = some F) : evE Φ (.callk k c1 c2 pm) = callkR F pm (evA Φ c1) (evA Φ c2) := by funext s; simp only [evE, hF, callkR] <;> rfl
theorem x_callk {x : Str} {n k : Nat} {ks : List Str} {pm : List Nat} {c1 c2 : CEs} {kws : List Keyword} (C : Cz Ω X W Φ N sc cl T) (h : gloC sc x = true) (hk : (x, n, ks, pm, k) ∈ T.kdf) (hn : (lenEs c1 == n && lenEs c2 == ks.length) = true) (ha : XA Ω W X Φ (e :: es) (asA c1)) (hb : XKw Ω W X Φ kws (asA c2))
    (hall : (backToKw pos (keywordEach kws X.env)).all (·.1.isSome) = true) (hks : (backToKw pos (keywordEach kws X.env)).filterMap (·.1) = ks) (he : starEach (e :: es) X.env = (false, eval e X.env) :: starEach es X.env)
    (hpl : ((backTo pos (starEach (e :: es) X.env)).any (·.1) || (backToKw pos (keywordEach kws X.env)).any (·.1.isNone)) = false) : XE Ω W X Φ (.Call (.Name x p) (e :: es) kws pos) (.callk k (asA c1) (asA c2) pm) := by
  obtain ⟨h1, h2, h3⟩ := gloC_ok C h
  obtain ⟨F, hF, hC⟩ := C.kw x n ks pm k hk
  simp only [Bool.and_eq_true, beq_iff_eq] at hn
  unfold XE
  rw [callk_eq hF]
  exact r_callk hC C.tk h1 ha hb (fun s ds s' q => by rw [evA_len c1 q]; exact hn.1) (fun s ds s' q => by rw [evA_len c2 q]; exact hn.2) hall hks h2 he hpl
theorem x_callk0 {x : Str} {k : Nat} {ks : List Str} {pm : List Nat} {c2 : CEs} {kws : List Keyword} (C : Cz Ω X W Φ N sc cl T) (h : gloC sc x = true) (hk : (x, 0, ks, pm, k) ∈ T.kdf) (hn : (lenEs c2 == ks.length) = true) (hb : XKw Ω W X Φ kws (asA c2))
    (hall : (backToKw pos (keywordEach kws X.env)).all (·.1.isSome) = true) (hks : (backToKw pos (keywordEach kws X.env)).filterMap (·.1) = ks)
    (hpl : ((backTo pos (starEach [] X.env)).any (·.1) || (backToKw pos (keywordEach kws X.env)).any (·.1.isNone)) = false) : XE Ω W X Φ (.Call (.Name x p) [] kws pos) (.callk k (asA .nil) (asA c2) pm) := by
  obtain ⟨h1, h2, h3⟩ := gloC_ok C h
  obtain ⟨F, hF, hC⟩ := C.kw x 0 ks pm k hk
  simp only [beq_iff_eq] at hn
  unfold XE
  rw [callk_eq hF]
  have e0 : evA Φ (asA .nil) = fun s => .ok [] s := by funext s; simp only [asA, evA]
  rw [e0]
  exact r_callk0 hC C.tk h1 hb (fun s ds s' q => by rw [evA_len c2 q]; exact hn) hall hks h2 hpl

/-! ### try -/
theorem Cz.suite {B : Bk} (C : Cz Ω X W Φ N sc cl T) (x1 : Addr) (pn : List (Addr × Obj)) : Cz { Ω with B := B } (X.suite x1 pn) WF Φ N sc cl { T with dfs := [], kdf := [] } where
  hK := C.hK
  hu := C.hu
  hN := C.hN
  hsc := C.hsc
  nd := C.nd
  tk := fun _ _ x => by
    obtain ⟨_, _, _, _, _, _, _, _, _, _, _, _, _, _, _, _, z⟩ := x
    exact z.elim
  fn := C.fn
  free := C.free
  con := C.con
  call := fun k x h => by cases h
  kw := fun x n ks pm k h => by cases h
theorem Cz.tr {W' : WX} (C : Cz Ω X W Φ N sc cl T) (pn : List (Addr × Obj)) (xe : Value → Shared → Prop) (tk : L2N.Takes (X.tr pn xe) W') : Cz Ω (X.tr pn xe) W' Φ N sc cl T where
  hK := C.hK
  hu := C.hu
  hN := C.hN
  hsc := C.hsc
  nd := C.nd
  tk := tk
  fn := C.fn
  free := C.free
  con := C.con
  call := fun k x h => by
    obtain ⟨F, h1, h2⟩ := C.call k x h
    exact ⟨F, h1, ⟨h2.ex⟩⟩
  kw := fun x n ks pm k h => by
    obtain ⟨F, h1, h2⟩ := C.kw x n ks pm k h
    exact ⟨F, h1, ⟨h2.ex⟩⟩
theorem Cd.tr (K : Cd Ω X Φ T) (pn : List (Addr × Obj)) (xe : Value → Shared → Prop) (ow : PassesOwn (model X.prog X.w) X.A X.env xe) : Cd Ω (X.tr pn xe) Φ T where
  calm := K.calm
  own := ow
  rai := fun c x n h => by
    obtain ⟨r, e⟩ := K.rai c x n h
    exact ⟨⟨r.gl, r.rs, r.kp, r.wa, r.w0⟩, e⟩
  stk := K.stk
  fr := K.fr
  b0 := K.b0
  xf := K.xf
  xc := K.xc
  hx := K.hx
/-- a clause's suite, its context -/
structure Su (Ω : Om) (Y : Cx) (X : Cx) (Φ : Ev) (a : Addr) (oe : Obj) (cls : Value) (d : Option Addr) (c : Nat) (vs : List V) (T : Tab) : Prop where
  at_ : ∃ pn, Y = X.suite a ((a, oe) :: pn)
  hnd : Hnd Ω X a oe cls d c vs
  xf : ∀ k fs, (k, fs) ∈ T.cls → Ω.fl k = fs ∧ XfC X.K (Ω.ad k) ∧ ∀ f ∈ fs, PySem.W.findIn X.K (.ref (Ω.ad k)) f = some none
  xc : ∀ c, ExcC X.K (Ω.ad c)
  hx : ∀ m x, (m, x) ∈ T.hdl → ∃ v cv, (X.mg x = some cv ∨ (X.mg x = none ∧ bootBuiltins x = some cv)) ∧ RelV v cv ∧ (∀ u, RelV v u → u = cv) ∧ ∀ c, PySem.W.exmOne X.K (.ref (Ω.ad c)) cv = some (Φ.sub c m) ∧ PySem.W.kitOne X.K (.ref (Ω.ad c)) cv = some (Φ.sub c m)
section
variable {Y : Cx} {a1 : Addr} {oe : Obj} {cls : Value} {d : Option Addr} {k1 : Nat} {vs : List V}
theorem Su.hot (S : Su Ω Y X Φ a1 oe cls d k1 vs T) : L2H.HotC Y := by
  obtain ⟨pn, rfl⟩ := S.at_
  obtain ⟨ws, hd⟩ := S.hnd.da
  exact hot_of S.hnd.ze hd
theorem x_fld {T' : Tab} {i k j : Nat} {x n : Str} {fs : List Str} {np : Pos} (S : Su Ω Y X Φ a1 oe cls d k1 vs T) (C : Cz Ω Y WF Φ N sc cl T') (hv : varC N sc i x = true) (hf : (k, fs) ∈ T.cls) (hj : (decide (fs[j]? = some n) && decide fs.Nodup && decide (n ∈ fs)) = true)
    (hb : attributeBase (.Name x np) n Y.env (eval (.Name x np) Y.env) = eval (.Name x np) Y.env) : XE Ω WF Y Φ (.Attribute (.Name x np) n pos) (.fld i k j) := by
  obtain ⟨h1, h2, h3, h4⟩ := varC_ok C hv
  obtain ⟨pn, rfl⟩ := S.at_
  obtain ⟨e1, e2, e3⟩ := S.xf k fs hf
  simp only [Bool.and_eq_true, decide_eq_true_eq] at hj
  exact r_fld Φ S.hnd e2 (e3 n hj.2) (by rw [e1]; exact hj.1.1) (by rw [e1]; exact hj.1.2) h1 h2 h3 h4 hb
theorem x_xisV {T' : Tab} {i m : Nat} {x t : Str} {np ip p5 : Pos} {v : V} {cv : Value} (S : Su Ω Y X Φ a1 oe cls d k1 vs T) (C : Cz Ω Y WF Φ N sc cl T') (hv : varC N sc i x = true) (hi : freeC T' sc "isinstance" = true) (hT : PE Y (.Name t p5) (tC v)) (hcv : ∀ u, RelV v u → u = cv)
    (hsub : PySem.W.kitOne X.K (.ref (Ω.ad k1)) cv = some (Φ.sub k1 m)) : XE Ω WF Y Φ (.Call (.Name "isinstance" ip) [.Name x np, .Name t p5] [] pos) (.xis i [m]) := by
  obtain ⟨h1, h2, h3, h4⟩ := varC_ok C hv
  obtain ⟨g1, g2, g3, g4⟩ := freeC_ok C hi
  obtain ⟨pn, rfl⟩ := S.at_
  exact r_xis Φ S.hnd (S.xc _) hsub hT hcv g1 g2 h1 h2 h3 h4 rfl
end
theorem x_xis {T' : Tab} {Y : Cx} {a1 : Addr} {oe : Obj} {cls : Value} {d : Option Addr} {k1 : Nat} {vs : List V} {i m : Nat} {x t : Str} {np ip p5 : Pos} (S : Su Ω Y X Φ a1 oe cls d k1 vs T) (C : Cz Ω Y WF Φ N sc cl T') (hv : varC N sc i x = true) (hi : freeC T' sc "isinstance" = true) (ht : gloC sc t = true) (hm : (m, t) ∈ T.hdl) :
    XE Ω WF Y Φ (.Call (.Name "isinstance" ip) [.Name x np, .Name t p5] [] pos) (.xis i [m]) := by
  obtain ⟨v, cv, hg, hr, hu, hs⟩ := S.hx m t hm
  obtain ⟨g1, g2, g3⟩ := gloC_ok C ht
  have hT : PE Y (.Name t p5) (tC v) := by
    obtain ⟨pn, rfl⟩ := S.at_
    rcases hg with e | ⟨e1, e2⟩
    · exact pe_glob g1 e hr g2
    · exact pe_bltn g1 e1 e2 hr g3 g2
  exact x_xisV S C hv hi hT hu (hs _).2
theorem h_cons {x n : Str} {i m : Nat} {b : CSs} {b₀ : Stmt} {suite : List Stmt} {np pos' : Pos} {hds : List ExceptHandler} {chs : CHs} (C : Cz Ω X W Φ N sc cl T) (K : Cd Ω X Φ T) (hv : parC N sc i n = true) (hg : gloC sc x = true) (hm : (m, x) ∈ T.hdl)
    (hsu : ∀ (Ω' : Om) (Y : Cx) (a : Addr) (oe : Obj) (cls : Value) (d : Option Addr) (c : Nat) (vs : List V), Cz Ω' Y WF Φ N sc cl { T with dfs := [], kdf := [] } → Su Ω' Y X Φ a oe cls d c vs T → XSs Ω' WF Y Φ (b₀ :: suite) b)
    (r : ∃ l, HdT Ω Φ X hds chs l) : ∃ l, HdT Ω Φ X (.ExceptHandler (some (.Name x np)) (some n) (b₀ :: suite) pos' :: hds) (.cons [m] i b chs) l := by
  obtain ⟨l, r⟩ := r
  obtain ⟨v, cv, hgx, hr, hu, hs⟩ := K.hx m x hm
  obtain ⟨g1, g2, g3⟩ := gloC_ok C hg
  obtain ⟨p1, p2⟩ := parC_ok C hv
  refine ⟨_, .cons (cv := cv) p1 p2 ⟨g1, g2, hgx.imp id fun q => ⟨q.1, q.2, g3⟩⟩ (fun c => (hs c).1) (fun a oe cls d c vs fr pn Hn => ?_) r⟩
  exact hsu _ _ a oe cls d c vs (C.suite (B := ⟨fr, some (a, c, vs)⟩) a ((a, oe) :: pn)) ⟨⟨pn, rfl⟩, Hn, K.xf, K.xc, K.hx⟩
theorem h_nil : ∃ l, HdT Ω Φ X [] .nil l := ⟨[], .nil⟩
theorem s_triC {body : List Stmt} {h₀ : ExceptHandler} {hds : List ExceptHandler} {chs : CHs} {c1 : CSs} (C : Cz Ω X W Φ N sc cl T) (K : Cd Ω X Φ T) (hb : ∀ W' Y, Y.calm = true → Cz Ω Y W' Φ N sc cl T → Cd Ω Y Φ T → XSs Ω W' Y Φ body c1) (hh : ∃ l, HdT Ω Φ X (h₀ :: hds) chs l) :
    XS Ω W X Φ (.Try body (h₀ :: hds) [] [] pos) (.tri c1 chs) :=
  let ⟨_, hh⟩ := hh
  PS.eq (s_tri K.b0 K.stk C.nd K.fr C.tk (fun W' pn xe tk ow => hb W' _ K.calm (C.tr pn xe tk) (K.tr pn xe ow)) hh) (by funext s; simp only [exS] <;> rfl)
/-! ### stores whose form hangs on the scope -/
theorem s_asgE {ct : CT} (C : Cz Ω X W Φ N sc cl T) (h : XE Ω W X Φ a ca) (hg : XG Ω X tg ct) (hs : ∀ E : Env, swapsWithSole [tg] a pos.line { E with scope := sc } = pure false) (hw : ∀ E : Env, swappedStores [tg] a { E with scope := sc } = pure none) (h1 : (assignEach [tg] X.env).map (·.2) = [assign tg X.env]) : XS Ω W X Φ (.Assign [tg] a pos) (.asg ct ca) :=
  s_asgC h hg (by rw [env_of C]; exact hs _) (by rw [env_of C]; exact hw _) h1
theorem s_ownE {i : Nat} {y : Str} {py : Pos} (C : Cz Ω X W Φ N sc cl T) (hv : tgtC N sc cl i y = true) (h : XN Ω W X Φ a ca) (hs : ∀ E : Env, swapsWith a (some (.Name y py)) pos.line { E with scope := sc } = pure false) : XS Ω W X Φ (.Assign [.Name y py] a pos) (.own i ca) :=
  s_ownC C hv h (by rw [env_of C]; exact hs _)
end DL
end

section
set_option Elab.async false
set_option linter.all false
set_option autoImplicit false
set_option maxRecDepth 100000
/-! Dl25: a def keeps the promise of its meaning; all defs of a text. -/
namespace DL
open PySem L2
variable {Ω : Om} {Φ : Ev}

theorem start_at {N : List Str} {vs : List V} {i : Nat} {v : V} (h : vs[i]? = some v) : (start N vs)[i]? = some (some v) := by
  unfold L2.start
  rw [List.getElem?_append_left (by rw [List.length_map]; exact (List.getElem?_eq_some_iff.mp h).1), List.getElem?_map, h]
  rfl
/-- the state at a def's entry -/
def ds0 (n : Nat) (ds : List D) (st : List MO) : DS := { sl := ds.map .val ++ List.replicate (n - ds.length) .none, st := st }
theorem ds0_at {n : Nat} {ds : List D} {st : List MO} {i : Nat} {x : Sl} (h : (ds0 n ds st).sl[i]? = some x) : x = .none ∨ ∃ d, x = .val d ∧ ds[i]? = some d := by
  unfold ds0 at h
  simp only at h
  by_cases q : i < ds.length
  · rw [List.getElem?_append_left (by simpa using q), List.getElem?_map, Option.map_eq_some_iff] at h
    obtain ⟨d, h1, h2⟩ := h
    exact .inr ⟨d, h2.symm, h1⟩
  · rw [List.getElem?_append_right (by simpa using q)] at h
    have := List.mem_of_getElem? h
    rw [List.mem_replicate] at this
    exact .inl this.2
theorem rel_start {L : List Addr} {G FR H : Hp} {ds : List D} {st : List MO} {vs : List V} {N : List Str} (hB : Ω.B = B0) (hr : Rps Ω.w Ω.K G L vs ds) (hG : Ex G H) (S : Sto Ω.w Ω.K L st G H) (F : Frm FR G L H) (hl : vs.length ≤ N.length) :
    RelO Ω ⟨FR, L, G⟩ L G (ds0 N.length ds st) (start N vs) H := by
  have no : ∀ i a, ¬ OwnA (start N vs) (ds0 N.length ds st).sl i a := fun i a ⟨⟨m, h⟩, _⟩ => by
    rcases ds0_at h with e | ⟨d, e, _⟩ <;> cases e
  exact {
    le := List.prefix_refl _
    ge := Ex.refl _
    sub := hG
    len := by
      have := hr.length
      unfold ds0 L2.start
      simp
      omega
    val := fun i d h => by
      rcases ds0_at h with e | ⟨d', e, h'⟩
      · cases e
      · cases e
        obtain ⟨v, h1, h2⟩ := hr.at h'
        exact ⟨v, start_at h1, h2⟩
    own := fun i m h => by rcases ds0_at h with e | ⟨d', e, _⟩ <;> cases e
    inj := fun i j a h _ => (no i a h).elim
    stl := S.len
    sto := S.cell
    nod := S.nod
    frm := fun a o h => ⟨(F a o h).1, (F a o h).2.1, (F a o h).2.2, fun i => no i a⟩
    fr0 := fun a o h => by rw [hB] at h; cases h
    exc := fun i c as h => by rcases ds0_at h with e | ⟨d', e, _⟩ <;> cases e }
theorem spD_len {F : DF} {np : Nat} {vs : List V} {H : Hp} {Q : VK} {E : XK} (hF : ∀ ds st, ds.length ≠ np → F ds st = .stuck) (h : spD Ω F vs H Q E) : vs.length = np := by
  obtain ⟨L, G, FR, ds, st, hr, _, _, _, h⟩ := h
  rw [hr.length]
  by_cases q : ds.length = np
  · exact q
  · rw [hF ds st q] at h
    exact h.elim
theorem fnD_len {np n : Nat} {cs : CSs} (ds : List D) (st : List MO) (h : ds.length ≠ np) : fnD Φ np n cs ds st = .stuck := by
  unfold fnD
  rw [if_neg h]
/-- what is known of the module: constants, free names, defs with their promises at depth k -/
structure Md (Ω : Om) (P : Program) (w : World) (K : PySem.W.Frag) (mg : Str → Option Value) (base : Heap) (Φ : Ev) (T : Tab) (k : Nat) : Prop where
  hK : Ω.K = K
  b0 : Ω.B = B0
  free : ∀ x ∈ T.free, mg x = none
  con : ∀ x d, (x, d) ∈ T.con → ∃ u v, mg x = some u ∧ RelV v u ∧ ∀ G L, Rp Ω.w Ω.K G L v d
  call : ∀ (i : Nat) (x : Str), T.dfs[i]? = some x → ∃ F, Φ.fs[i]? = some F ∧ ∃ (f : Addr) (fd : FuncData) (ps : List Str) (F0 : DF) (ds : List Value) (dvs : List V) (dd : List D), mg x = some (.ref f) ∧ PySem.W.keepIn K (.ref f) = true ∧
    FnOk P w K mg base (L2N.CX P w) k f fd ps (spD Ω F0) ∧ Binds K fd ps ds ∧ Vals dvs ds ∧ (∀ G L, Rps Ω.w Ω.K G L dvs dd) ∧ (∀ ds st, F ds st = F0 (ds ++ dd) st)
  kw : ∀ x n ks pm i, (x, n, ks, pm, i) ∈ T.kdf → ∃ F, Φ.fs[i]? = some F ∧ ∃ (f : Addr) (fd : FuncData) (ps : List Str) (g : List Value → List Value → List Value), mg x = some (.ref f) ∧ PySem.W.keepIn K (.ref f) = true ∧
    FnOk P w K mg base (L2N.CX P w) k f fd ps (spD Ω F) ∧ KBn K fd ps n ks g (fun vs zs => pmV pm (vs ++ zs))
  rai : ∀ c x n, (c, x, n) ∈ T.rai → (Ω.fl c).length = n ∧ mg x = some (.ref (Ω.ad c)) ∧ PySem.W.keepIn K (.ref (Ω.ad c)) = true ∧
    (Ω.fl c ≠ [] → ∃ (fI : Addr) (fd : FuncData) (ps : List Str), OexC K (Ω.ad c) ∧ PySem.W.findIn K (.ref (Ω.ad c)) "__init__" = some (some (.ref fI)) ∧ PySem.W.typeIn K (.ref fI) = some (.type "function") ∧ FnOk P w K mg base (L2N.CX P w) 1 fI fd ps (spI Ω c) ∧ Binds K fd ps []) ∧
    PySem.W.subIn K (.ref (Ω.ad c)) (.type "BaseException") = some true ∧ PySem.W.typeIn K (.ref (Ω.ad c)) = some (.type "type") ∧
    (Ω.fl c = [] → ∃ (B newId initId : String) (bmB : List Value), ∃ (_ : ExcBaseFacts B newId initId bmB), PySem.W.excIn K (Ω.ad c) bmB newId = true)
  xf : ∀ k fs, (k, fs) ∈ T.cls → Ω.fl k = fs ∧ XfC K (Ω.ad k) ∧ ∀ f ∈ fs, PySem.W.findIn K (.ref (Ω.ad k)) f = some none
  xc : ∀ c, ExcC K (Ω.ad c)
  hx : ∀ m x, (m, x) ∈ T.hdl → ∃ v cv, (mg x = some cv ∨ (mg x = none ∧ bootBuiltins x = some cv)) ∧ RelV v cv ∧ (∀ u, RelV v u → u = cv) ∧ ∀ c, PySem.W.exmOne K (.ref (Ω.ad c)) cv = some (Φ.sub c m) ∧ PySem.W.kitOne K (.ref (Ω.ad c)) cv = some (Φ.sub c m)
  k2 : 2 ≤ k
section
variable {P : Program} {w : World} {K : PySem.W.Frag} {mg : Str → Option Value} {base : Heap} {T : Tab} {x qual : Str} {params : Arguments} {body : List Stmt} {scope : Scope} {dvs : List V} {kws : List (Str × V)} {f : Addr} {fd : FuncData} {N ps : List Str} {k : Nat} {cs : CSs}
theorem def_ok (M : Md Ω P w K mg base Φ T k) (FD : FunD K x qual params body scope dvs kws f fd) (S : FnScope N ps scope) (hnp : ps.length ≤ N.length)
    (hb : ∀ X W, X.K = K → Cz Ω X W Φ N scope (cellsOf scope) T → Cd Ω X Φ T → XSs Ω W X Φ body cs) : FnOk P w K mg base (L2N.CX P w) (k + 1) f fd ps (spD Ω (fnD Φ ps.length N.length cs)) := by
  refine FD.ok S (fun vs H Q E h => spD_len (fun ds st q => fnD_len ds st q) h) (fun cdv A outer s H vs Q E hr h => ⟨tS Ω (fun cls dd _ H' => E cls dd H') (exSs Φ cs), ?_, ?_⟩)
  · -- the body's context
    refine hb _ (fun cls dd _ H' => E cls dd H') rfl ⟨M.hK, ?_, rfl, rfl, S.nd, L2N.takes_of (E := E) rfl rfl rfl rfl, fun _ _ => rfl, M.free, M.con, fun i y hy => ?_, fun y n ks pm i hy => ?_⟩ ⟨rfl, passes_of rfl, fun c y n hy => ?_, rfl, rfl, M.b0, M.xf, M.xc, M.hx⟩
    · have := hr.un
      show (A.deeper _).units + 65 < cLine
      omega
    · obtain ⟨F, h1, f', fd', ps', F0, ds, dvs', dd, h2, h3, h4, h5, h6, h7, h8⟩ := M.call i y hy
      exact ⟨F, h1, ⟨f', k, fd', ps', F0, ds, dvs', dd, h2, h3, h4, h5, h6, h7, h8, hr⟩⟩
    · obtain ⟨F, h1, f', fd', ps', g, h2, h3, h4, h5⟩ := M.kw y n ks pm i hy
      exact ⟨F, h1, ⟨f', k, fd', ps', g, h2, h3, h4, h5, hr⟩⟩
    · obtain ⟨h1, h2, h3, h4, h5, h6, h7⟩ := M.rai c y n hy
      refine ⟨⟨h2, raises_own h5 h6, h3, fun q => ?_, h7⟩, h1⟩
      obtain ⟨fI, fd', ps', g1, g2, g3, g4, g5⟩ := h4 q
      exact ⟨fI, 1, fd', ps', g1, g2, g3, g4, hr.mono (by have := M.k2; omega), g5⟩
  · -- its meaning
    have hvl := spD_len (fun ds st q => fnD_len (n := N.length) (cs := cs) ds st q) h
    obtain ⟨L, G, FR, ds, st, hrp, hG, hS, hF, h⟩ := h
    have hdl : ds.length = ps.length := by rw [← hrp.length]; exact hvl
    refine ⟨⟨FR, L, G⟩, L, G, ds0 N.length ds st, rel_start M.b0 hrp hG hS hF (by rw [hvl]; exact hnp), ?_⟩
    unfold fnD at h
    rw [if_pos hdl] at h
    have e0 : ({ sl := ds.map .val ++ List.replicate (N.length - ps.length) .none, st := st } : DS) = ds0 N.length ds st := by unfold ds0; rw [hdl]
    rw [e0] at h
    have fr : ∀ {L' : List Addr} {G' H' : Hp} {s' : DS} {σ' : St}, RelO Ω ⟨FR, L, G⟩ L' G' s' σ' H' → Frm FR G' L' H' := fun {L' G' H' s' σ'} R a o q => ⟨(R.frm a o q).1, (R.frm a o q).2.1, (R.frm a o q).2.2.1⟩
    cases q : exSs Φ cs (ds0 N.length ds st) with
    | ok fl s' =>
      rw [q] at h
      intro L' G' σ' H' l e R
      cases fl with
      | nx => exact h L' G' H' .non l e R.sub R.sto' (fr R) .non
      | ret d => exact fun v hv => h L' G' H' v l e R.sub R.sto' (fr R) hv
      | bk => exact h.elim
      | ct => exact h.elim
    | exc c as s' =>
      rw [q] at h
      exact fun L' G' σ' H' cls dd l e R xa => h L' G' H' cls dd l e R.sub R.sto' (fr R) xa
    | stuck => rw [q] at h; exact h
end

/-! ### all defs -/
/-- a def as the text has it: how many parameters, how many names, its body -/
abbrev Pg : Type := List (Nat × Nat × CSs)
/-- the meanings, calls at most n deep -/
def runs (Ds : Pg) (sub : Nat → Nat → Bool) : Nat → List DF
  | 0 => Ds.map fun _ => fun _ _ => .stuck
  | n + 1 => Ds.map fun d => fnD ⟨runs Ds sub n, sub⟩ d.1 d.2.1 d.2.2
end DL
end

section
set_option Elab.async false
set_option linter.all false
set_option autoImplicit false
set_option maxRecDepth 100000
/-! Dl26: the walk: a def's body by the rules, each rule chosen by the two forms. -/
namespace DL
open PySem L2
theorem mem_look {α β : Type} [BEq α] [LawfulBEq α] {x : α} {d : β} : ∀ {l : List (α × β)}, l.lookup x = some d → (x, d) ∈ l
  | [], h => by simp at h
  | (y, e) :: l, h => by
    rw [List.lookup_cons] at h
    cases q : x == y with
    | true =>
      rw [q] at h
      have e1 := eq_of_beq q
      subst e1
      cases h
      exact List.mem_cons_self
    | false =>
      rw [q] at h
      exact List.mem_cons_of_mem _ (mem_look h)
theorem x_glo' {Ω : Om} {W : WX} {X : Cx} {Φ : Ev} {N : List Str} {sc : Scope} {cl : List Str} {T : Tab} {pos : Pos} {x : Str} {y : List Nat} {d : D} (C : Cz Ω X W Φ N sc cl T) (h : gloC sc x = true) (hc : T.con.lookup x = some d) : XE Ω W X Φ (.Name x pos) (.glo y d) := x_glo C h (mem_look hc)
end DL
end

section
set_option Elab.async false
set_option linter.all false
set_option autoImplicit false
set_option maxRecDepth 100000
/-! Dl27: all defs of a text keep the promises of their meanings, at every depth. -/
namespace DL
open PySem L2
structure Dfn where
  x : Str
  params : Arguments
  body : List Stmt
  scope : Scope
  N : List Str
  ps : List Str
  cs : CSs
def pg (Ds : List Dfn) : Pg := Ds.map fun d => (d.ps.length, d.N.length, d.cs)
/-- what is known of a text -/
structure Txt (Ω : Om) (P : Program) (w : World) (K : PySem.W.Frag) (mg : Str → Option Value) (base : Heap) (sub : Nat → Nat → Bool) (T : Tab) (Ds : List Dfn) : Prop where
  hK : Ω.K = K
  b0 : Ω.B = B0
  free : ∀ x ∈ T.free, mg x = none
  con : ∀ x d, (x, d) ∈ T.con → ∃ u v, mg x = some u ∧ RelV v u ∧ ∀ G L, Rp Ω.w Ω.K G L v d
  rai : ∀ c x n, (c, x, n) ∈ T.rai → (Ω.fl c).length = n ∧ mg x = some (.ref (Ω.ad c)) ∧ PySem.W.keepIn K (.ref (Ω.ad c)) = true ∧
    (Ω.fl c ≠ [] → ∃ (fI : Addr) (fd : FuncData) (ps : List Str), OexC K (Ω.ad c) ∧ PySem.W.findIn K (.ref (Ω.ad c)) "__init__" = some (some (.ref fI)) ∧ PySem.W.typeIn K (.ref fI) = some (.type "function") ∧ FnOk P w K mg base (L2N.CX P w) 1 fI fd ps (spI Ω c) ∧ Binds K fd ps []) ∧
    PySem.W.subIn K (.ref (Ω.ad c)) (.type "BaseException") = some true ∧ PySem.W.typeIn K (.ref (Ω.ad c)) = some (.type "type") ∧
    (Ω.fl c = [] → ∃ (B newId initId : String) (bmB : List Value), ∃ (_ : ExcBaseFacts B newId initId bmB), PySem.W.excIn K (Ω.ad c) bmB newId = true)
  xf : ∀ k fs, (k, fs) ∈ T.cls → Ω.fl k = fs ∧ XfC K (Ω.ad k) ∧ ∀ f ∈ fs, PySem.W.findIn K (.ref (Ω.ad k)) f = some none
  xc : ∀ c, ExcC K (Ω.ad c)
  hx : ∀ m x, (m, x) ∈ T.hdl → ∃ v cv, (mg x = some cv ∨ (mg x = none ∧ bootBuiltins x = some cv)) ∧ RelV v cv ∧ (∀ u, RelV v u → u = cv) ∧ ∀ c, PySem.W.exmOne K (.ref (Ω.ad c)) cv = some (sub c m) ∧ PySem.W.kitOne K (.ref (Ω.ad c)) cv = some (sub c m)
  dfs : T.dfs = Ds.map (·.x)
  fd : ∀ (i : Nat) (d : Dfn), Ds[i]? = some d → ∃ (f : Addr) (fd : FuncData) (dvs : List V) (kws : List (Str × V)), mg d.x = some (.ref f) ∧ PySem.W.keepIn K (.ref f) = true ∧ FunD K d.x d.x d.params d.body d.scope dvs kws f fd ∧ Binds K fd d.ps [] ∧
    ∀ n ks pm, (d.x, n, ks, pm, i) ∈ T.kdf → ∃ g, KBn K fd d.ps n ks g (fun vs zs => pmV pm (vs ++ zs))
  sc : ∀ (i : Nat) (d : Dfn), Ds[i]? = some d → FnScope d.N d.ps d.scope ∧ d.ps.length ≤ d.N.length
  kd : ∀ x n ks pm i, (x, n, ks, pm, i) ∈ T.kdf → ∃ d : Dfn, Ds[i]? = some d ∧ d.x = x
  bd : ∀ (i : Nat) (d : Dfn), Ds[i]? = some d → ∀ (Ω : Om) (X : Cx) (W : WX) (Φ : Ev), Cz Ω X W Φ d.N d.scope (cellsOf d.scope) T → Cd Ω X Φ T → XSs Ω W X Φ d.body d.cs
section
variable {Ω : Om} {P : Program} {w : World} {K : PySem.W.Frag} {mg : Str → Option Value} {base : Heap} {sub : Nat → Nat → Bool} {T : Tab} {Ds : List Dfn}
theorem runs_at {i n : Nat} {d : Dfn} (h : Ds[i]? = some d) : ∃ F, (runs (pg Ds) sub n)[i]? = some F := by
  have lt : i < (runs (pg Ds) sub n).length := by
    have := (List.getElem?_eq_some_iff.mp h).1
    cases n <;> simpa [runs, pg] using this
  exact ⟨_, List.getElem?_eq_getElem lt⟩
theorem runs_succ {i n : Nat} {d : Dfn} (h : Ds[i]? = some d) : (runs (pg Ds) sub (n + 1))[i]? = some (fnD ⟨runs (pg Ds) sub n, sub⟩ d.ps.length d.N.length d.cs) := by
  simp only [runs, pg, List.map_map, List.getElem?_map, h]
  rfl
theorem runs_zero {i : Nat} {d : Dfn} (h : Ds[i]? = some d) : (runs (pg Ds) sub 0)[i]? = some (fun _ _ => .stuck) := by
  simp only [runs, pg, List.map_map, List.getElem?_map, h]
  rfl
theorem stuck_ok {k : Nat} {f : Addr} {fd : FuncData} {ps : List Str} : FnOk P w K mg base (L2N.CX P w) k f fd ps (spD Ω fun _ _ => .stuck) where
  len := fun vs H Q E h => by
    obtain ⟨_, _, _, _, _, _, _, _, _, h⟩ := h
    exact h.elim
  run := fun A outer s H args us vs Q E _ _ _ _ h => by
    obtain ⟨_, _, _, _, _, _, _, _, _, h⟩ := h
    exact h.elim
theorem txt_md (t : Txt Ω P w K mg base sub T Ds) : ∀ n, Md Ω P w K mg base ⟨runs (pg Ds) sub n, sub⟩ T (n + 2) := by
  intro n
  induction n with
  | zero =>
    refine ⟨t.hK, t.b0, t.free, t.con, fun i x h => ?_, fun x n ks pm i h => ?_, t.rai, t.xf, t.xc, t.hx, Nat.le_refl _⟩
    · rw [t.dfs, List.getElem?_map, Option.map_eq_some_iff] at h
      obtain ⟨d, h1, rfl⟩ := h
      obtain ⟨f, fd, dvs, kws, e1, e2, e3, e4, _⟩ := t.fd i d h1
      exact ⟨_, runs_zero (sub := sub) h1, f, fd, d.ps, _, [], [], [], e1, e2, stuck_ok, e4, .nil, fun _ _ => .nil, fun ds st => rfl⟩
    · obtain ⟨d, h1, rfl⟩ := t.kd x n ks pm i h
      obtain ⟨f, fd, dvs, kws, e1, e2, e3, e4, e5⟩ := t.fd i d h1
      obtain ⟨g, hg⟩ := e5 n ks pm h
      exact ⟨_, runs_zero (sub := sub) h1, f, fd, d.ps, g, e1, e2, stuck_ok, hg⟩
  | succ n ih =>
    have go : ∀ {i : Nat} {d : Dfn} {f : Addr} {fd : FuncData} {dvs : List V} {kws : List (Str × V)}, Ds[i]? = some d → FunD K d.x d.x d.params d.body d.scope dvs kws f fd → FnOk P w K mg base (L2N.CX P w) (n + 1 + 2) f fd d.ps (spD Ω (fnD ⟨runs (pg Ds) sub n, sub⟩ d.ps.length d.N.length d.cs)) := fun {i d f fd dvs kws} h1 e3 =>
      def_ok ih e3 (t.sc i d h1).1 (t.sc i d h1).2 fun X W _ C D => t.bd i d h1 Ω X W _ C D
    refine ⟨t.hK, t.b0, t.free, t.con, fun i x h => ?_, fun x m ks pm i h => ?_, t.rai, t.xf, t.xc, t.hx, by omega⟩
    · rw [t.dfs, List.getElem?_map, Option.map_eq_some_iff] at h
      obtain ⟨d, h1, rfl⟩ := h
      obtain ⟨f, fd, dvs, kws, e1, e2, e3, e4, _⟩ := t.fd i d h1
      exact ⟨_, runs_succ (sub := sub) h1, f, fd, d.ps, _, [], [], [], e1, e2, go h1 e3, e4, .nil, fun _ _ => .nil, fun ds st => by rw [List.append_nil]⟩
    · obtain ⟨d, h1, rfl⟩ := t.kd x m ks pm i h
      obtain ⟨f, fd, dvs, kws, e1, e2, e3, e4, e5⟩ := t.fd i d h1
      obtain ⟨g, hg⟩ := e5 m ks pm h
      exact ⟨_, runs_succ (sub := sub) h1, f, fd, d.ps, g, e1, e2, go h1 e3, hg⟩
/-- THE END: the def i of the text, calls n deep -/
theorem txt_ok (t : Txt Ω P w K mg base sub T Ds) (n : Nat) {i : Nat} {d : Dfn} (h : Ds[i]? = some d) : ∃ (f : Addr) (fd : FuncData), mg d.x = some (.ref f) ∧ Binds K fd d.ps [] ∧ FnOk P w K mg base (L2N.CX P w) (n + 3) f fd d.ps (spD Ω (fnD ⟨runs (pg Ds) sub n, sub⟩ d.ps.length d.N.length d.cs)) := by
  obtain ⟨f, fd, dvs, kws, e1, e2, e3, e4, _⟩ := t.fd i d h
  exact ⟨f, fd, e1, e4, def_ok (txt_md t n) e3 (t.sc i d h).1 (t.sc i d h).2 fun X W _ C D => t.bd i d h Ω X W _ C D⟩
end
end DL
end

section
set_option Elab.async false
set_option linter.all false
set_option autoImplicit false
set_option maxRecDepth 100000
/-! Dl28: what is read off the heap behind the top: constants, free names, classes of errors, defs. From it: Txt. -/
namespace DL
open PySem PySem.Spec PyProof.Rows L2

/-! ### constants -/
mutual
def vD (K : PySem.W.Frag) : D → Value → Bool
  | .non, .none => true
  | .bl b, .bool c => b == c
  | .int i, .int j _ => decide (j = i)
  | .str x, .str y _ => decide (y.cps.toList = x)
  | .tup ds, .ref a => match K.lookup a with
    | some ⟨.type c, _, .seq its _, _⟩ => decide (c = "tuple") && (decide (its.size ≤ sizeLine) && vDs K ds its.toList)
    | _ => false
  | _, _ => false
def vDs (K : PySem.W.Frag) : List D → List Value → Bool
  | [], [] => true
  | d :: ds, v :: vs => vD K d v && vDs K ds vs
  | _, _ => false
end
section
variable {w : World} {K : PySem.W.Frag}
mutual
theorem vD_ok : ∀ (d : D) (v : Value), vD K d v = true → ∃ u : V, RelV u v ∧ ∀ G L, Rp w K G L u d
  | .non, .none, _ => ⟨.non, rfl, fun _ _ => .non⟩
  | .bl b, .bool c, h => ⟨.bl c, rfl, fun _ _ => by
      have e : b = c := eq_of_beq (show (b == c) = true from h)
      rw [e]
      exact .bl c⟩
  | .int i, .int j t, h => ⟨.int i, ⟨t, by rw [of_decide_eq_true (show decide (j = i) = true from h)]⟩, fun _ _ => .int i⟩
  | .str x, .str y t, h => ⟨.str y, ⟨t, rfl⟩, fun _ _ => by
      have e := of_decide_eq_true (show decide (y.cps.toList = x) = true from h)
      rw [← e]
      exact .str y⟩
  | .tup ds, .ref a, h => by
    cases q : K.lookup a with
    | none => simp only [vD, q] at h; cases h
    | some o =>
      obtain ⟨oc, od, dt, osl⟩ := o
      cases oc with
      | type c =>
        cases dt with
        | seq its n =>
          simp only [vD, q] at h
          obtain ⟨h1, h2⟩ := He.ba h
          obtain ⟨h3, h4⟩ := He.ba h2
          obtain ⟨us, r, k⟩ := vDs_ok ds its.toList h4
          exact ⟨.ref a, rfl, fun G L => .tup (.inr ⟨_, its, n, q, congrArg Value.type (of_decide_eq_true h1), rfl, of_decide_eq_true h3, r⟩) (k G L)⟩
        | _ => simp only [vD, q] at h; cases h
      | _ => simp only [vD, q] at h; cases h
theorem vDs_ok : ∀ (ds : List D) (vs : List Value), vDs K ds vs = true → ∃ us : List V, Vals us vs ∧ ∀ G L, Rps w K G L us ds
  | [], [], _ => ⟨[], .nil, fun _ _ => .nil⟩
  | d :: ds, v :: vs, h => by
    obtain ⟨h1, h2⟩ := He.ba (show (vD K d v && vDs K ds vs) = true from h)
    obtain ⟨u, r, k⟩ := vD_ok d v h1
    obtain ⟨us, rs, ks⟩ := vDs_ok ds vs h2
    exact ⟨u :: us, .cons r rs, fun G L => .cons (k G L) (ks G L)⟩
  | [], _ :: _, h => by cases h
  | _ :: _, [], h => by cases h
end
end

/-! ### classes of errors -/
abbrev tyB : Value := .type "BaseException"
def oexB (K : PySem.W.Frag) (C : Addr) : Bool := (match K.lookup C with
  | some ⟨.type "type", _, .cls cd, sl⟩ => (match cd.mro, sl.toList with
    | .ref C' :: bm, [_, _, _, _, some (.builtin n), _] => C' == C && (n == "ValueError.__new__" && (!cd.hasDel && (cd.hasDict && PySem.HandSPX.refsVE bm)))
    | _, _ => false)
  | _ => false) && (decide (PySem.W.findIn K (.ref C) "__setattr__" = some (some (.builtin "object.__setattr__"))) && (decide (PySem.W.subIn K (.ref C) tyB = some true) && (decide (PySem.W.typeIn K (.ref C) = some (.type "type")) && PySem.W.keepIn K (.ref C))))
theorem oexB_ok {K : PySem.W.Frag} {C : Addr} (h : oexB K C = true) : OexC K C := by
  obtain ⟨q, h⟩ := He.ba h
  obtain ⟨h1, h⟩ := He.ba h
  obtain ⟨h2, h⟩ := He.ba h
  obtain ⟨h3, h4⟩ := He.ba h
  refine ⟨?_, of_decide_eq_true h1, of_decide_eq_true h2, of_decide_eq_true h3, h4⟩
  split at q
  · rename_i dd cd sl ho
    split at q
    · rename_i C' bm k0 k1 k2 k3 n k5 hm hs
      simp only [Bool.and_eq_true, beq_iff_eq, Bool.not_eq_true'] at q
      obtain ⟨rfl, rfl, hdel, hdi, ht⟩ := q
      obtain ⟨nm, bs, mro, ns, qn, hd, sn, sub, ab, col, del⟩ := cd
      dsimp only at hm hdel hdi
      subst hm hdel hdi
      have hsl : sl = #[k0, k1, k2, k3, some (.builtin "ValueError.__new__"), k5] := by
        obtain ⟨l⟩ := sl
        simp only at hs
        rw [hs]
      subst hsl
      exact ⟨nm, qn, ns, bs, bm, sn, sub, ab, col, dd, k0, k1, k2, k3, k5, ho, ht⟩
    · cases q
  · cases q
def exCB (K : PySem.W.Frag) (C : Addr) : Bool :=
  decide (PySem.W.findIn K (.ref C) "__getattribute__" = some (some (.builtin "BaseException.__getattribute__"))) && (decide (PySem.W.findIn K (.ref C) "__getattr__" = some none) && (decide (PySem.W.subIn K (.ref C) tyB = some true) && (PySem.W.hasDictIn K C &&
  (decide (PySem.W.findIn K (.ref C) "__class__" = some (some (.builtin "object.__class__"))) && (decide (PySem.W.specialIn K (.builtin "object.__class__") "__get__" = some (some (.builtin "getset_descriptor.__get__"))) &&
  (decide (PySem.W.takesIn K (.builtin "object.__class__") = some true) && decide (PySem.W.mroIn K C (.type "object") = some true)))))))
theorem exCB_ok {K : PySem.W.Frag} {C : Addr} (h : exCB K C = true) : ExcC K C := by
  obtain ⟨h1, h⟩ := He.ba h
  obtain ⟨h2, h⟩ := He.ba h
  obtain ⟨h3, h⟩ := He.ba h
  obtain ⟨h4, h⟩ := He.ba h
  obtain ⟨h5, h⟩ := He.ba h
  obtain ⟨h6, h⟩ := He.ba h
  obtain ⟨h7, h8⟩ := He.ba h
  exact ⟨of_decide_eq_true h1, of_decide_eq_true h2, of_decide_eq_true h3, h4, of_decide_eq_true h5, of_decide_eq_true h6, of_decide_eq_true h7, of_decide_eq_true h8⟩
def inBB (K : PySem.W.Frag) (C : Addr) : Bool := PySem.W.readsIn K C (.type "type") && (decide (PySem.W.specialIn K (.ref C) "__getattribute__" = some (some (.builtin "type.__getattribute__"))) && (match PySem.W.findCls K (.ref C) (.type "type") "__init__" with
  | some (.val (.builtin n)) => n == "ValueError.__init__"
  | _ => false))
theorem inBB_ok {K : PySem.W.Frag} {C : Addr} (h : inBB K C = true) : IniB K C := by
  obtain ⟨h1, h⟩ := He.ba h
  obtain ⟨h2, h3⟩ := He.ba h
  refine ⟨h1, of_decide_eq_true h2, ?_⟩
  split at h3
  · rename_i n q
    rw [q, eq_of_beq h3]
  · cases h3
end DL
end

section
set_option Elab.async false
set_option linter.all false
set_option autoImplicit false
set_option maxRecDepth 100000
/-! Dl29: __init__ of the classes of errors; the Hook; Txt from what the Hook says. -/
namespace DL
open PySem PySem.Spec PyProof.Rows L2
/-- a class's statement -/
def clsBody (s : Stmt) : List Stmt := match s with
  | .ClassDef _ _ _ b _ _ _ _ _ _ _ => b
  | _ => []
def locC (sc : Scope) (x : Str) : Bool := decide (sc.names.lookup x = some .local) && plainN x
section
variable {Ω : Om} {P : Program} {w : World} {K : PySem.W.Frag} {mg : Str → Option Value} {base : Heap} {c : Nat} {C0 : Addr} {f g m : Str} {qual : Str} {params : Arguments} {scope : Scope} {fI : Addr} {fd : FuncData} {j : Nat} {p1 p2 p3 p4 p5 p6 p7 p8 p9 p10 q7 q8 q9 q10 : Pos}
/-- HoldError.__init__(self, m): how its call is looked up -/
def HcOk (qual : Str) (scope : Scope) (m : Str) (j : Nat) (p1 p2 p3 p4 p5 : Pos) : Prop := ∀ (a fI : Addr) (cdv : Value), ∃ pl : Sem Bool, eval (.Call (.Attribute (.Name "HoldError" p1) "__init__" p2) [.Name "self" p3, .Constant (.str m) j p4] [] p5) (envOfC qual scope a fI cdv) = (do
      let ov ← eval (.Name "HoldError" p1) (envOfC qual scope a fI cdv)
      standAt p2.atName
      let (f, first) ← holding [ov] (getMethod ov "__init__" pl)
      callWith p5 f first (backTo p5 (starEach [.Name "self" p3, .Constant (.str m) j p4] (envOfC qual scope a fI cdv))) (backToKw p5 (keywordEach [] (envOfC qual scope a fI cdv))))
theorem ini_fn1 (hc : HcOk qual scope m j p1 p2 p3 p4 p5) (E0 : ExcK Ω c) (hK : Ω.K = K) (hf : Ω.fl c = [f]) (B : IniB K C0) (hm : mg "HoldError" = some (.ref C0))
    (FD : FunD K "__init__" qual params [.Expr (.Call (.Attribute (.Name "HoldError" p1) "__init__" p2) [.Name "self" p3, .Constant (.str m) j p4] [] p5) p6, .Assign [.Attribute (.Name "self" p7) f p8] (.Name f p9) p10] scope [] [] fI fd)
    (S : FnScope ["self", f] ["self", f] scope) (hg : gloC scope "HoldError" = true) (h0 : locC scope "self" = true) (h1 : locC scope f = true) : FnOk P w K mg base (L2N.CX P w) 1 fI fd ["self", f] (spI Ω c) := by
  subst hK
  simp only [locC, Bool.and_eq_true, decide_eq_true_eq] at h0 h1
  simp only [gloC, Bool.and_eq_true, decide_eq_true_eq] at hg
  refine FD.ok S (fun vs H Q E h => ?_) (fun cdv A outer s H vs Q E hr h => ⟨tI1 Ω.K m f, ?_, ini1_ok E0 hf h⟩)
  · obtain ⟨a, ws, rfl, hl, _⟩ := h
    rw [hf] at hl
    simp at hl ⊢
    exact hl
  · obtain ⟨pl, hc⟩ := hc s.heap.objs.size fI cdv
    refine pss_cons (ps_expr (pe_hinit (C0 := C0) hg.1 hm (plainN_ok hg.2).1 B (pa_cons (pe_var rfl (.inl h0.1)) (pa_cons pe_str pa_nil)) hc rfl rfl)) (pss_one (ps_ost (pe_var rfl (.inl h0.1)) (pe_var (i := 1) rfl (.inl h1.1) (plainN_ok h1.2).1 (plainN_ok h1.2).2.1)))
theorem ini_fn2 (hc : HcOk qual scope m j p1 p2 p3 p4 p5) (E0 : ExcK Ω c) (hK : Ω.K = K) (hf : Ω.fl c = [f, g]) (B : IniB K C0) (hm : mg "HoldError" = some (.ref C0))
    (FD : FunD K "__init__" qual params [.Expr (.Call (.Attribute (.Name "HoldError" p1) "__init__" p2) [.Name "self" p3, .Constant (.str m) j p4] [] p5) p6, .Assign [.Attribute (.Name "self" p7) f p8] (.Name f p9) p10,
      .Assign [.Attribute (.Name "self" q7) g q8] (.Name g q9) q10] scope [] [] fI fd)
    (S : FnScope ["self", f, g] ["self", f, g] scope) (hg : gloC scope "HoldError" = true) (h0 : locC scope "self" = true) (h1 : locC scope f = true) (h2 : locC scope g = true) : FnOk P w K mg base (L2N.CX P w) 1 fI fd ["self", f, g] (spI Ω c) := by
  subst hK
  simp only [locC, Bool.and_eq_true, decide_eq_true_eq] at h0 h1 h2
  simp only [gloC, Bool.and_eq_true, decide_eq_true_eq] at hg
  refine FD.ok S (fun vs H Q E h => ?_) (fun cdv A outer s H vs Q E hr h => ⟨tI2 Ω.K m f g, ?_, ini2_ok E0 hf h⟩)
  · obtain ⟨a, ws, rfl, hl, _⟩ := h
    rw [hf] at hl
    simp at hl ⊢
    exact hl
  · obtain ⟨pl, hc⟩ := hc s.heap.objs.size fI cdv
    refine pss_cons (ps_expr (pe_hinit (C0 := C0) hg.1 hm (plainN_ok hg.2).1 B (pa_cons (pe_var rfl (.inl h0.1)) (pa_cons pe_str pa_nil)) hc rfl rfl)) (pss_cons (ps_ost (pe_var rfl (.inl h0.1)) (pe_var (i := 1) rfl (.inl h1.1) (plainN_ok h1.2).1 (plainN_ok h1.2).2.1))
      (pss_one (ps_ost (pe_var rfl (.inl h0.1)) (pe_var (i := 2) rfl (.inl h2.1) (plainN_ok h2.2).1 (plainN_ok h2.2).2.1))))
end

/-! ### keywords bind -/
theorem Vals.pm {vs : List V} {us : List Value} (h : Vals vs us) : ∀ pm : List Nat, Vals (pmV pm vs) (pm.map fun i => us.getD i .none)
  | [] => .nil
  | i :: r => by
    refine .cons ?_ (Vals.pm h r)
    have gen : ∀ {vs : List V} {us : List Value} (i : Nat), Vals vs us → RelV (vs.getD i .non) (us.getD i .none) := by
      intro vs us i h
      induction h generalizing i with
      | nil => exact rfl
      | cons a _ ih => cases i with
        | zero => exact a
        | succ i => exact ih i
    exact gen i h
theorem kb_plain {K : PySem.W.Frag} {x qual : Str} {params : Arguments} {body : List Stmt} {scope : Scope} {f : Addr} {fd : FuncData} {ps ks : List Str} {n : Nat} {pm : List Nat} (F : FunD K x qual params body scope [] [] f fd)
    (h : ∀ (kV doc pm' : Value) (an : Option Addr) (cdv ct : Value) (us ws : List Value), us.length = n → ws.length = ks.length →
      bindArgs (PySem.W.fnOf x qual params body scope .none kV doc pm' an cdv ct) ⟨us, ks.zip ws⟩ = pure (ps.zip (pm.map fun i => (us ++ ws).getD i .none))) :
    KBn K fd ps n ks (fun us ws => pm.map fun i => (us ++ ws).getD i .none) (fun vs zs => pmV pm (vs ++ zs)) := by
  obtain ⟨oc, od, dV, kV, doc, pm', an, cdv, ct, osl, rfl, lk, hcd, hD, hK⟩ := F.ex
  rcases hD with ⟨_, rfl⟩ | ⟨e, _⟩
  · refine ⟨fun s us ws _ hu hw => BindsTo.of_looks fun M => .of_pure (h kV doc pm' an cdv ct us ws hu hw), fun {vs us zs ws} r1 r2 => Vals.pm (r1.append r2) pm⟩
  · exact absurd rfl e

/-! ### the Hook -/
def obsX (fa : List He.Fa) (fn : List He.DefD) (mb : PySem.W.Frag → Bool) (K : PySem.W.Frag) : He.AlD × Bool := (He.obsD fa fn K, mb K)
def hookX (n : Nat) (fa : List He.Fa) (fn : List He.DefD) (mb : PySem.W.Frag → Bool) : PySem.W.Hook where
  α := He.AlD × Bool
  obs := fun s => obsX fa fn mb (He.frG s.heap.get? (cStatics :: He.asD s.heap.get? n))
  val := fun _ => (He.valD fn, true)
  says := fun _ h => ∃ K : PySem.W.Frag, K.In h ∧ He.SaysD fa fn K ∧ mb K = true
  of := fun _ _ e => ⟨_, He.frG_in, (Prod.mk.inj e).1, (Prod.mk.inj e).2⟩
  keeps := fun _ _ _ ⟨K, hK, c⟩ k => ⟨K, PySem.W.Frag.In.keeps hK k, c⟩
def obX (n : Nat) (fa : List He.Fa) (fn : List He.DefD) (mb : PySem.W.Frag → Bool) (g : Addr → Option Obj) : He.AlD × Bool := obsX fa fn mb (He.frG g (cStatics :: He.asD g n))
theorem obX_eq {n : Nat} {fa : List He.Fa} {fn : List He.DefD} {mb : PySem.W.Frag → Bool} {g : Addr → Option Obj} {s : Shared} (h : ∀ a, g a = s.heap.get? a) : obX n fa fn mb g = (hookX n fa fn mb).obs s := by
  have e : g = s.heap.get? := funext h
  rw [e] <;> rfl

/-! ### what is read -/
abbrev Cls : Type := List (Str × List Str)
def cnm (cs : Cls) (c : Nat) : Str := match cs[c]? with
  | some p => p.1
  | none => match cs with
    | p :: _ => p.1
    | [] => ""
def cfl (cs : Cls) (c : Nat) : List Str := match cs[c]? with
  | some p => p.2
  | none => []
def subB (tb : List (List Bool)) (c m : Nat) : Bool := match tb[c]? with
  | some r => r.getD m false
  | none => match tb with
    | r :: _ => r.getD m false
    | [] => false
def mkOm (w : World) (K : PySem.W.Frag) (cs : Cls) : Om := ⟨w, K, fun c => He.ga K (cnm cs c), cfl cs, B0⟩
/-- a handler's class by name -/
def hvB (K : PySem.W.Frag) (x : Str) : Option (V × Value) := match PySem.W.nsIn K mainGlobals x with
  | some (some (.ref a)) => some (.ref a, .ref a)
  | some none => (match bootBuiltins x with
    | some (.type n) => some (.ty n, .type n)
    | _ => none)
  | _ => none
def clsB (K : PySem.W.Frag) (p : Str × List Str) : Bool :=
  He.eqO (PySem.W.nsIn K mainGlobals p.1) (some (some (.ref (He.ga K p.1)))) && (oexB K (He.ga K p.1) && (exCB K (He.ga K p.1) && (xfB K (He.ga K p.1) &&
    ((p.2.all fun f => decide (PySem.W.findIn K (.ref (He.ga K p.1)) f = some none)) && (p.2.isEmpty || (decide (PySem.W.findIn K (.ref (He.ga K p.1)) "__init__" = some (some (.ref (He.ma K (He.ga K p.1) "__init__")))) && decide (PySem.W.typeIn K (.ref (He.ma K (He.ga K p.1) "__init__")) = some (.type "function"))))))))
def hdB (K : PySem.W.Frag) (tb : List (List Bool)) (cs : Cls) (q : Nat × Str) : Bool := match hvB K q.2 with
  | some (_, cv) => (List.range cs.length).all fun c => decide (PySem.W.exmOne K (.ref (He.ga K (cnm cs c))) cv = some (subB tb c q.1)) && decide (PySem.W.kitOne K (.ref (He.ga K (cnm cs c))) cv = some (subB tb c q.1))
  | none => false
def mbX (T : Tab) (cs : Cls) (tb : List (List Bool)) (base : Str) (K : PySem.W.Frag) : Bool :=
  (T.free.all fun x => He.eqO (PySem.W.nsIn K mainGlobals x) (some none)) && ((T.con.all fun p => match PySem.W.nsIn K mainGlobals p.1 with
    | some (some v) => vD K p.2 v
    | _ => false) && ((cs.all fun p => clsB K p) && ((T.hdl.all fun q => hdB K tb cs q) && (inBB K (He.ga K base) && He.eqO (PySem.W.nsIn K mainGlobals base) (some (some (.ref (He.ga K base))))))))
end DL
end

section
set_option Elab.async false
set_option linter.all false
set_option autoImplicit false
set_option maxRecDepth 100000
/-! Dl30: Txt from what the Hook says. -/
namespace DL
open PySem PySem.Spec PyProof.Rows L2
def Dfn.he (d : Dfn) : He.DefD := ⟨(d.x, none), d.x, d.x, d.params, d.body, d.scope, [], []⟩
/-- __init__ of a class of errors -/
structure Ini where
  x : Str
  qual : Str
  params : Arguments
  body : List Stmt
  scope : Scope
  ps : List Str
def Ini.he (d : Ini) : He.DefD := ⟨(d.x, some "__init__"), "__init__", d.qual, d.params, d.body, d.scope, [], []⟩
def fnX (Ds : List Dfn) (Is : List Ini) : List He.DefD := Ds.map Dfn.he ++ Is.map Ini.he
def faX (Ds : List Dfn) : List He.Fa := Ds.map fun d => .glo d.x
/-- p of each, with its place -/
def AllI {α : Type} (p : Nat → α → Prop) : Nat → List α → Prop
  | _, [] => True
  | i, a :: r => p i a ∧ AllI p (i + 1) r
theorem AllI.at {α : Type} {p : Nat → α → Prop} : ∀ {l : List α} {k i : Nat} {a : α}, AllI p k l → l[i]? = some a → p (k + i) a
  | [], _, _, _, _, e => by simp at e
  | b :: r, k, 0, a, h, e => by
    have z : b = a := by simpa using e
    subst z
    exact h.1
  | b :: r, k, i + 1, a, h, e => by
    have q := AllI.at (i := i) h.2 (by simpa using e)
    rw [show k + (i + 1) = k + 1 + i by omega]
    exact q
/-- what is bound -/
def BiOk (x qual : Str) (params : Arguments) (body : List Stmt) (scope : Scope) (ps : List Str) : Prop := ∀ (kV doc pm : Value) (an : Option Addr) (cdv ct : Value) (us : List Value), us.length = ps.length → bindArgs (PySem.W.fnOf x qual params body scope .none kV doc pm an cdv ct) ⟨us, []⟩ = pure (ps.zip us)
def KwBi (d : Dfn) (n : Nat) (ks : List Str) (pm : List Nat) : Prop := ∀ (kV doc pm' : Value) (an : Option Addr) (cdv ct : Value) (us ws : List Value), us.length = n → ws.length = ks.length →
  bindArgs (PySem.W.fnOf d.x d.x d.params d.body d.scope .none kV doc pm' an cdv ct) ⟨us, ks.zip ws⟩ = pure (d.ps.zip (pm.map fun i => (us ++ ws).getD i .none))
/-- the __init__ keeps its promise -/
def IniOk (cs : Cls) (I : Ini) (c : Nat) : Prop := ∀ (P : Program) (w : World) (K : PySem.W.Frag) (mg : Str → Option Value) (base : Heap) (fI : Addr) (fd : FuncData), ExcK (mkOm w K cs) c → IniB K (He.ga K "HoldError") → mg "HoldError" = some (.ref (He.ga K "HoldError")) →
  FunD K "__init__" I.qual I.params I.body I.scope [] [] fI fd → FnOk P w K mg base (L2N.CX P w) 1 fI fd I.ps (spI (mkOm w K cs) c)
/-- what is shown of a text, no heap in sight -/
structure TxtH (T : Tab) (Ds : List Dfn) (Is : List Ini) (cs : Cls) (tb : List (List Bool)) : Prop where
  ne : cs ≠ []
  tl : tb.length = cs.length
  dfs : T.dfs = Ds.map (·.x)
  sc : AllI (fun _ (d : Dfn) => FnScope d.N d.ps d.scope ∧ d.ps.length ≤ d.N.length) 0 Ds
  bi : AllI (fun _ (d : Dfn) => BiOk d.x d.x d.params d.body d.scope d.ps) 0 Ds
  bd : AllI (fun _ (d : Dfn) => ∀ (Ω : Om) (X : Cx) (W : WX) (Φ : Ev), Cz Ω X W Φ d.N d.scope (cellsOf d.scope) T → Cd Ω X Φ T → XSs Ω W X Φ d.body d.cs) 0 Ds
  kw : AllI (fun _ (q : Str × Nat × List Str × List Nat × Nat) => ∃ d, Ds[q.2.2.2.2]? = some d ∧ d.x = q.1 ∧ KwBi d q.2.1 q.2.2.1 q.2.2.2.1) 0 T.kdf
  rai : AllI (fun _ (q : Nat × Str × Nat) => ∃ fs, cs[q.1]? = some (q.2.1, fs) ∧ fs.length = q.2.2 ∧ fs ≠ [] ∧ ∃ (k : Nat) (I : Ini), Is[k]? = some I ∧ I.x = q.2.1 ∧ IniOk cs I q.1 ∧ BiOk "__init__" I.qual I.params I.body I.scope I.ps) 0 T.rai
  cls : AllI (fun _ (q : Nat × List Str) => ∃ x, cs[q.1]? = some (x, q.2)) 0 T.cls
theorem mem_at {α : Type} {a : α} {l : List α} (h : a ∈ l) : ∃ i : Nat, l[i]? = some a := by
  obtain ⟨i, hi, e⟩ := List.getElem_of_mem h
  exact ⟨i, by rw [List.getElem?_eq_getElem hi, e]⟩
theorem AllI.mem {α : Type} {p : α → Prop} {l : List α} {a : α} (h : AllI (fun _ => p) 0 l) (m : a ∈ l) : p a := by
  obtain ⟨i, e⟩ := mem_at m
  have q := h.at e
  exact q
section
variable {T : Tab} {Ds : List Dfn} {Is : List Ini} {cs : Cls} {tb : List (List Bool)} {P : Program} {w : World} {K : PySem.W.Frag} {h base : Heap} {mg : Str → Option Value}
theorem cnm_mem (hne : cs ≠ []) (c : Nat) : ∃ p ∈ cs, p.1 = cnm cs c := by
  unfold cnm
  cases e : cs[c]? with
  | some p => exact ⟨p, List.mem_of_getElem? e, rfl⟩
  | none =>
    cases cs with
    | nil => exact absurd rfl hne
    | cons p r => exact ⟨p, List.mem_cons_self .., rfl⟩
theorem cnm_low (htl : tb.length = cs.length) (hne : cs ≠ []) (c : Nat) : ∃ c', c' < cs.length ∧ cnm cs c = cnm cs c' ∧ ∀ m, subB tb c m = subB tb c' m := by
  by_cases q : c < cs.length
  · exact ⟨c, q, rfl, fun _ => rfl⟩
  · cases cs with
    | nil => exact absurd rfl hne
    | cons p r =>
      cases tb with
      | nil => simp at htl
      | cons t u =>
        have e1 : (p :: r)[c]? = none := List.getElem?_eq_none (by omega)
        have e2 : (t :: u)[c]? = none := List.getElem?_eq_none (by omega)
        refine ⟨0, Nat.succ_pos _, ?_, fun m => ?_⟩
        · unfold cnm; rw [e1]; rfl
        · unfold subB; rw [e2]; rfl
theorem cnm_at {c : Nat} {p : Str × List Str} (h : cs[c]? = some p) : cnm cs c = p.1 ∧ cfl cs c = p.2 := by
  unfold cnm cfl
  rw [h]
  exact ⟨rfl, rfl⟩
structure ClsF (K : PySem.W.Frag) (p : Str × List Str) : Prop where
  at_ : PySem.W.nsIn K mainGlobals p.1 = some (some (.ref (He.ga K p.1)))
  oex : OexC K (He.ga K p.1)
  exc : ExcC K (He.ga K p.1)
  xf : XfC K (He.ga K p.1)
  no : ∀ f ∈ p.2, PySem.W.findIn K (.ref (He.ga K p.1)) f = some none
  ini : p.2 ≠ [] → PySem.W.findIn K (.ref (He.ga K p.1)) "__init__" = some (some (.ref (He.ma K (He.ga K p.1) "__init__"))) ∧ PySem.W.typeIn K (.ref (He.ma K (He.ga K p.1) "__init__")) = some (.type "function")
theorem clsB_ok {p : Str × List Str} (h : clsB K p = true) : ClsF K p := by
  obtain ⟨h1, h⟩ := He.ba h
  obtain ⟨h2, h⟩ := He.ba h
  obtain ⟨h3, h⟩ := He.ba h
  obtain ⟨h4, h⟩ := He.ba h
  obtain ⟨h5, h6⟩ := He.ba h
  refine ⟨He.eqO_ok h1, oexB_ok h2, exCB_ok h3, xfB_ok h4, fun f hf => of_decide_eq_true (List.all_eq_true.mp h5 f hf), fun hne => ?_⟩
  rcases Bool.or_eq_true_iff.mp h6 with e | e
  · exact absurd (List.isEmpty_iff.mp e) hne
  · obtain ⟨e1, e2⟩ := He.ba e
    exact ⟨of_decide_eq_true e1, of_decide_eq_true e2⟩
theorem hvB_ok {x : Str} {v : V} {cv : Value} (X : K.In h) (G : h.Ns mainGlobals mg) (e : hvB K x = some (v, cv)) : (mg x = some cv ∨ (mg x = none ∧ bootBuiltins x = some cv)) ∧ RelV v cv ∧ ∀ u, RelV v u → u = cv := by
  unfold hvB at e
  split at e
  · rename_i a q
    cases e
    exact ⟨.inl (PySem.W.mg_of X G q), rfl, fun u hu => hu⟩
  · rename_i q
    split at e
    · rename_i n q2
      cases e
      exact ⟨.inr ⟨PySem.W.mg_none_of X G q, q2⟩, rfl, fun u hu => hu⟩
    · cases e
  · cases e
theorem says_glo {i : Nat} {d : Dfn} (c : He.SaysD (faX Ds) (fnX Ds Is) K) (X : K.In h) (G : h.Ns mainGlobals mg) (e : Ds[i]? = some d) : mg d.x = some (.ref (He.ga K d.x)) :=
  He.glo_ok X G (c.fact i (f := .glo d.x) (by unfold faX; rw [List.getElem?_map, e]; rfl))
theorem says_def {i : Nat} {d : Dfn} (c : He.SaysD (faX Ds) (fnX Ds Is) K) (e : Ds[i]? = some d) : ∃ fd, FunD K d.x d.x d.params d.body d.scope [] [] (He.ga K d.x) fd :=
  c.def_ i (d := d.he) (by unfold fnX; rw [List.getElem?_append_left (by rw [List.length_map]; exact (List.getElem?_eq_some_iff.mp e).1), List.getElem?_map, e]; rfl)
theorem says_ini {i : Nat} {d : Ini} (c : He.SaysD (faX Ds) (fnX Ds Is) K) (e : Is[i]? = some d) : ∃ fd, FunD K "__init__" d.qual d.params d.body d.scope [] [] (He.ma K (He.ga K d.x) "__init__") fd :=
  c.def_ (Ds.length + i) (d := d.he) (by unfold fnX; rw [List.getElem?_append_right (by rw [List.length_map]; omega), List.length_map, Nat.add_sub_cancel_left, List.getElem?_map, e]; rfl)
/-- THE TEXT, from what the Hook says -/
theorem txt_of (t : TxtH T Ds Is cs tb) (X : K.In h) (G : h.Ns mainGlobals mg) (c : He.SaysD (faX Ds) (fnX Ds Is) K) (m : mbX T cs tb "HoldError" K = true) : Txt (mkOm w K cs) P w K mg base (subB tb) T Ds := by
  obtain ⟨m1, m⟩ := He.ba m
  obtain ⟨m2, m⟩ := He.ba m
  obtain ⟨m3, m⟩ := He.ba m
  obtain ⟨m4, m⟩ := He.ba m
  obtain ⟨m5, m6⟩ := He.ba m
  have hB := inBB_ok m5
  have hH : mg "HoldError" = some (.ref (He.ga K "HoldError")) := PySem.W.mg_of X G (He.eqO_ok m6)
  have CF : ∀ p ∈ cs, ClsF K p := fun p hp => clsB_ok (List.all_eq_true.mp m3 p hp)
  refine {
    hK := rfl
    b0 := rfl
    free := fun x hx => PySem.W.mg_none_of X G (He.eqO_ok (List.all_eq_true.mp m1 x hx))
    con := fun x d hd => ?_
    rai := fun k x n hq => ?_
    xf := fun k fs hq => ?_
    xc := fun k => ?_
    hx := fun k x hq => ?_
    dfs := t.dfs
    fd := fun i d e => ?_
    sc := fun i d e => t.sc.at e
    kd := fun x n ks pm i hq => ?_
    bd := fun i d e => t.bd.at e }
  · have z := List.all_eq_true.mp m2 (x, d) hd
    cases q : PySem.W.nsIn K mainGlobals x with
    | none => simp only [q] at z; cases z
    | some o =>
      cases o with
      | none => simp only [q] at z; cases z
      | some v =>
        simp only [q] at z
        obtain ⟨u, r, k⟩ := vD_ok (w := w) d v z
        exact ⟨v, u, PySem.W.mg_of X G q, r, k⟩
  · obtain ⟨fs, e1, e2, e3, j, I, e4, e5, e6, e7⟩ := t.rai.mem hq
    obtain ⟨n1, n2⟩ := cnm_at e1
    have C := CF _ (List.mem_of_getElem? e1)
    dsimp only at e1 e2 e3 e5 e6 n1 n2 C
    have ha : (mkOm w K cs).ad k = He.ga K x := congrArg (He.ga K) n1
    have hf : (mkOm w K cs).fl k = fs := n2
    obtain ⟨fd, F⟩ := says_ini c e4
    rw [e5] at F
    have C2 := C.ini e3
    have EK : ExcK (mkOm w K cs) k := ⟨by rw [ha]; exact C.oex, fun f hff => by rw [ha]; rw [hf] at hff; exact C.no f hff⟩
    refine ⟨by rw [hf]; exact e2, by rw [ha]; exact PySem.W.mg_of X G C.at_, by rw [ha]; exact C.oex.kC, fun _ => ?_, by rw [ha]; exact C.oex.exC, by rw [ha]; exact C.oex.tyC, fun q => absurd (hf.symm.trans q) e3⟩
    rw [ha]
    exact ⟨_, fd, I.ps, C.oex, C2.1, C2.2, e6 P w K mg base _ fd EK hB hH F, F.bindsN e7⟩
  · obtain ⟨x, e1⟩ := t.cls.mem hq
    obtain ⟨n1, n2⟩ := cnm_at e1
    have C := CF _ (List.mem_of_getElem? e1)
    dsimp only at n1 n2 C
    have ha : (mkOm w K cs).ad k = He.ga K x := congrArg (He.ga K) n1
    refine ⟨n2, by rw [ha]; exact C.xf, fun f hf => by rw [ha]; exact C.no f hf⟩
  · obtain ⟨p, hp, e⟩ := cnm_mem t.ne k
    have C := CF p hp
    show ExcC K (He.ga K (cnm cs k))
    rw [← e]
    exact C.exc
  · have z : hdB K tb cs (k, x) = true := List.all_eq_true.mp m4 _ hq
    unfold hdB at z
    dsimp only at z
    split at z
    · rename_i v cv e
      obtain ⟨a1, a2, a3⟩ := hvB_ok X G e
      refine ⟨v, cv, a1, a2, a3, fun i => ?_⟩
      obtain ⟨i', hi, g1, g2⟩ := cnm_low t.tl t.ne i
      have y := List.all_eq_true.mp z i' (List.mem_range.mpr hi)
      obtain ⟨y1, y2⟩ := He.ba y
      show PySem.W.exmOne K (.ref (He.ga K (cnm cs i))) cv = some (subB tb i k) ∧ PySem.W.kitOne K (.ref (He.ga K (cnm cs i))) cv = some (subB tb i k)
      rw [g1, g2]
      exact ⟨of_decide_eq_true y1, of_decide_eq_true y2⟩
    · cases z
  · obtain ⟨fd, F⟩ := says_def c e
    refine ⟨_, fd, [], [], says_glo c X G e, F.kp, F, F.bindsN (t.bi.at e), fun n ks pm hq => ?_⟩
    obtain ⟨d', e1, e2, e3⟩ := t.kw.mem hq
    dsimp only at e1 e2 e3
    rw [e] at e1
    cases e1
    exact ⟨_, kb_plain F e3⟩
  · obtain ⟨d, e1, e2, _⟩ := t.kw.mem hq
    exact ⟨d, e1, e2⟩
end
end DL
end

section
set_option Elab.async false
set_option linter.all false
set_option autoImplicit false
set_option maxRecDepth 100000
/-! Dl31: the law's end. -/
namespace DL
open PySem PySem.Spec PyProof.Rows L2
/-- what is left to show of the law: its meaning is True at every script -/
def LawD (F : DF) : Prop := ∀ ns : List Int, ns.length ≤ 63 → ∃ st, F [.lst (ns.map .int)] [] = .ok (.bl true) st
theorem rps_ints {w : World} {K : PySem.W.Frag} {G : Hp} {L : List Addr} : ∀ ns : List Int, Rps w K G L (ns.map V.int) (ns.map D.int)
  | [] => .nil
  | i :: r => .cons (.int i) (rps_ints r)
theorem law_sp {Ω : Om} {F : DF} (h : LawD F) {H : Hp} {a : Addr} {ns : List Int} (hl : ns.length ≤ 63) (hS : SqL Ω.K H a (ns.map V.int)) : spD Ω F [.ref a] H (fun v _ => v = .bl true) (fun _ _ _ => False) := by
  obtain ⟨st, e⟩ := h ns hl
  refine ⟨[], H, fun _ => none, [.lst (ns.map .int)], [], .cons (.lst hS (rps_ints ns)) .nil, Ex.refl _, ⟨rfl, .nil, fun n m a h => by simp at h⟩, ?_, ?_⟩
  · intro a o h
    have z : (none : Option HO) = some o := h
    cases z
  rw [e]
  intro L' G' H' v _ _ _ _ _ hv
  cases hv
  rfl
theorem law_end {l : PySem.W.OpenLaw} {q : Program} {loose : List Str} {XP : (Str → Option Value) → Heap → Prop} {d : DefRec} {T : Tab} {Ds : List Dfn} {Is : List Ini} {cs : Cls} {tb : List (List Bool)} {m n i : Nat} {x : Str} {df : Dfn}
    (hn : l.most = some 63) (hdf : d.params.defaults = []) (t : TxtH T Ds Is cs tb) (hi : Ds[i]? = some df) (hx : df.x = d.name) (hps : df.ps = [x]) (hr : Room (n + 3) callerA)
    (hlaw : LawD (fnD ⟨runs (pg Ds) (subB tb) n, subB tb⟩ df.ps.length df.N.length df.cs)) :
    PySem.W.WalkO q loose XP (hookX m (faX Ds) (fnX Ds Is) (mbX T cs tb "HoldError")).says l.row.toRowW d [] (fun f vs => PySem.call f vs) := by
  refine Att.attach_call hn hdf fun w s0 s1 mg mb fa o pm cd doc a vs ns Gd Y ho hd hcd hmg hobj hints hlen hgens => ?_
  obtain ⟨K, KX, c, hm⟩ := Y
  have ga : fa = He.ga K df.x := by
    have z := says_glo c KX Gd.T.g hi
    rw [hx] at z
    have z2 := hmg.symm.trans z
    rw [hx]
    simpa using z2
  obtain ⟨fd, F⟩ := says_def c hi
  have bb := F.bindsA (t.bi.at hi)
  rw [hps] at bb
  refine law_call (CX := L2N.CX l.prog w) (k := n + 3) (sp := spD (mkOm w K cs) _) KX Gd.T.g Gd.T.b Gd.T.builtins Gd.T.nolimit hgens hobj hints (Nat.le_trans hlen (by decide)) hr (fun base hK hM => ?_) (fun s u => bb s [u] rfl) (fun H _ hS => law_sp hlaw hlen hS) ?_
  · have tx := txt_of (P := l.prog) (w := w) (base := base) t hK hM c hm
    have r := def_ok (txt_md tx n) F (t.sc.at hi).1 (t.sc.at hi).2 fun X W _ C D => t.bd.at hi (mkOm w K cs) X W _ C D
    rw [hps] at r
    rw [ga]
    rw [hps]
    exact r
  · rintro H e s' ⟨_, _, _, _, _, _, _, _, _, _, _, _, z⟩
    exact z
end DL
end

section
set_option Elab.async false
set_option linter.all false
set_option autoImplicit true
/-! Dl40: the small language's meaning, step by step, as equations for simp; what comes after a step is a named constant. -/
namespace DM
open DL
variable {Φ : Ev} {s : DS} {sl : List Sl} {st : List MO}

def rdV (i : Nat) (s : DS) : Option Sl → Res D DS
  | some (.val d) => .ok d s
  | some (.own _) => .ok (.own i) s
  | _ => .stuck
theorem rdV_val {d : D} : rdV i s (some (.val d)) = .ok d s := rfl
theorem rdV_own {m : MO} : rdV i s (some (.own m)) = .ok (.own i) s := rfl
def callR (s : DS) : Res D (List MO) → Res D DS
  | .ok d st => .ok d { s with st := st }
  | .exc c as st => .exc c as { s with st := st }
  | .stuck => .stuck
theorem callR_ok {d : D} : callR s (.ok d st) = .ok d ⟨s.sl, st⟩ := rfl
theorem callR_exc : callR s (.exc c as st) = .exc c as ⟨s.sl, st⟩ := rfl
theorem callR_stuck : callR s .stuck = .stuck := rfl
theorem callR_ite {p : Prop} {inst : Decidable p} {x y : Res D (List MO)} : callR s (if p then x else y) = if p then callR s x else callR s y := by split <;> rfl
def callF (Φ : Ev) (k : Nat) (ds : List D) (s : DS) : Res D DS := match Φ.fs[k]? with
  | none => .stuck
  | some F => callR s (F ds s.st)
/-! what comes after a step -/
def kB2 (o : BinO) (x : D) (y : D) (s : DS) : Res D DS := .lift (binD o (deref s x) (deref s y)) s
def kB1 (Φ : Ev) (o : BinO) (b : CE) (x : D) (s : DS) : Res D DS := (evE Φ b s).bind (kB2 o x)
def kNeg : D → DS → Res D DS
  | .int i, s => .ok (.int (-i)) s
  | _, _ => .stuck
def kC2 (o : CmpO) (x : D) (y : D) (s : DS) : Res D DS := .lift ((cmpD o (deref s x) (deref s y)).map .bl) s
def kC1 (Φ : Ev) (o : CmpO) (b : CE) (x : D) (s : DS) : Res D DS := (evE Φ b s).bind (kC2 o x)
def kH4 (p : CmpO) (y z : D) (s : DS) : Res D DS := .lift ((cmpD p (deref s y) (deref s z)).map .bl) s
def kH3 (Φ : Ev) (p : CmpO) (c : CE) (y : D) (k : Bool) (s : DS) : Res D DS := if k then (evE Φ c s).bind (kH4 p y) else .ok (.bl false) s
def kH2 (Φ : Ev) (o p : CmpO) (c : CE) (x y : D) (s : DS) : Res D DS := (Res.lift (cmpD o (deref s x) (deref s y)) s).bind (kH3 Φ p c y)
def kH1 (Φ : Ev) (o p : CmpO) (b c : CE) (x : D) (s : DS) : Res D DS := (evE Φ b s).bind (kH2 Φ o p c x)
def kNt (b : Bool) (s : DS) : Res D DS := .ok (.bl (!b)) s
def kBl (b : Bool) (s : DS) : Res D DS := .ok (.bl b) s
def kIte (Φ : Ev) (a b : CE) (k : Bool) (s : DS) : Res D DS := if k then evE Φ a s else evE Φ b s
def kTup (ds : List D) (s : DS) : Res D DS := if ds.length ≤ big then .ok (.tup ds) s else .stuck
def kLst (ds : List D) (s : DS) : Res D DS := if ds.length ≤ big then .ok (.lst ds) s else .stuck
def kK2 (Φ : Ev) (k : Nat) (pm : List Nat) (ds es : List D) (s : DS) : Res D DS := callF Φ k (pmL pm (ds ++ es)) s
def kK1 (Φ : Ev) (k : Nat) (bs : CAs) (pm : List Nat) (ds : List D) (s : DS) : Res D DS := (evA Φ bs s).bind (kK2 Φ k pm ds)
def kBi (b : Bi) (ds : List D) (s : DS) : Res D DS := .lift (biD b (ds.map (deref s))) s
def kM2 (m : Me) (z : List Nat) (y : D) (s : DS) : Res D DS := .lift (meD m z (deref s y)) s
def kM1 (Φ : Ev) (m : Me) (a : CE) : D → DS → Res D DS
  | .str z, s => (evE Φ a s).bind (kM2 m z)
  | _, _ => .stuck
def kX2 (x y : D) (s : DS) : Res D DS := .lift (idxD (deref s x) (deref s y)) s
def kX1 (Φ : Ev) (i : CE) (x : D) (s : DS) : Res D DS := (evE Φ i s).bind (kX2 x)
def kS3 (x : D) (l h : Option Int) (s : DS) : Res D DS := .lift (sliD (deref s x) l h) s
def kS2 (Φ : Ev) (hi : CO) (x : D) (l : Option Int) (s : DS) : Res D DS := (evO Φ hi s).bind (kS3 x l)
def kS1 (Φ : Ev) (lo hi : CO) (x : D) (s : DS) : Res D DS := (evO Φ lo s).bind (kS2 Φ hi x)
def kRev (x : D) (s : DS) : Res D DS := .lift (revD (deref s x)) s
def kCat2 (x y : D) (s : DS) : Res D DS := .lift (catD (deref s x) (deref s y)) s
def kCat1 (Φ : Ev) (b : CE) (x : D) (s : DS) : Res D DS := (evE Φ b s).bind (kCat2 x)
def kL2 (ws : List D) (s : DS) : Res D DS := .ok (.lst ws) s
def kL1 (Φ : Ev) (vs : List Nat) (t : CT) (c : CO) (e : CE) (ds : List D) (s : DS) : Res D DS := if ds.length ≤ big then (lcL vs t (evC Φ c) (evE Φ e) ds s).bind kL2 else .stuck
def kD1 (Φ : Ev) (vs : List Nat) (t : CT) (k v : CE) (ds : List D) (s : DS) : Res D DS := if ds.length ≤ big then dcL vs t (evE Φ k) (evE Φ v) ds [] [] s else .stuck
def fldR (c j : Nat) (s : DS) : Option Sl → Res D DS
  | some (.exc k as) => if k = c then .lift as[j]? s else .stuck
  | _ => .stuck
theorem fldR_exc : fldR c j s (some (.exc c as)) = .lift as[j]? s := if_pos rfl
def kR2 (ds : List D) : D → DS → Res D DS
  | .int j, s => if 0 ≤ j ∧ j ≤ 1000 then .ok (.lst (List.replicate j.toNat ds).flatten) s else .stuck
  | _, _ => .stuck
def kR1 (Φ : Ev) (e : CE) (ds : List D) (s : DS) : Res D DS := if ds.length ≤ 1000 then (evE Φ e s).bind (kR2 ds) else .stuck
def isiR (cs : List Nat) (s : DS) : D → Res D DS
  | .obj _ | .own _ => .stuck
  | d => .ok (.bl (cs.any (kindD d))) s
def kIs (cs : List Nat) (x : D) (s : DS) : Res D DS := isiR cs s (deref s x)
def xisR (Φ : Ev) (cs : List Nat) (s : DS) : Option Sl → Res D DS
  | some (.exc c _) => .ok (.bl (cs.any (Φ.sub c))) s
  | _ => .stuck
theorem xisR_exc : xisR Φ cs s (some (.exc c as)) = .ok (.bl (cs.any (Φ.sub c))) s := rfl
theorem isi_non : isiR cs s .non = .ok (.bl (cs.any (kindD .non))) s := rfl
theorem isi_bl : isiR cs s (.bl b) = .ok (.bl (cs.any (kindD (.bl b)))) s := rfl
theorem isi_int : isiR cs s (.int b) = .ok (.bl (cs.any (kindD (.int b)))) s := rfl
theorem isi_str : isiR cs s (.str b) = .ok (.bl (cs.any (kindD (.str b)))) s := rfl
theorem isi_tup : isiR cs s (.tup b) = .ok (.bl (cs.any (kindD (.tup b)))) s := rfl
theorem isi_lst : isiR cs s (.lst b) = .ok (.bl (cs.any (kindD (.lst b)))) s := rfl
def kAnd (Φ : Ev) (r : CEs) (k : Bool) (s : DS) : Res D DS := if k then evAnd Φ r s else .ok (.bl false) s
def kOr (Φ : Ev) (r : CEs) (k : Bool) (s : DS) : Res D DS := if k then .ok (.bl true) s else evOr Φ r s
def kF (Φ : Ev) (r : CEs) (acc : List Nat) : D → DS → Res D DS
  | .str y, s => if (acc ++ y).length ≤ big then evF Φ r (acc ++ y) s else .stuck
  | _, _ => .stuck
def kE2 (x : D) (xs : List D) (s : DS) : Res (List D) DS := .ok (x :: xs) s
def kE1 (Φ : Ev) (r : CEs) (x : D) (s : DS) : Res (List D) DS := (evEs Φ r s).bind (kE2 x)
def kA2 (Φ : Ev) (r : CAs) (x : D) (s : DS) : Res (List D) DS := (evA Φ r s).bind (kE2 x)
def kA1 (Φ : Ev) (r : CAs) (x : D) (s : DS) : Res (List D) DS := (esc s x).bind (kA2 Φ r)
def kA4 (ys xs : List D) (s : DS) : Res (List D) DS := .ok (ys ++ xs) s
def starR (Φ : Ev) (r : CAs) (s : DS) : D → Res (List D) DS
  | .lst ys => (evA Φ r s).bind (kA4 ys)
  | .tup ys => (evA Φ r s).bind (kA4 ys)
  | _ => .stuck
theorem star_lst {ys : List D} {r : CAs} : starR Φ r s (.lst ys) = (evA Φ r s).bind (kA4 ys) := rfl
theorem star_tup {ys : List D} {r : CAs} : starR Φ r s (.tup ys) = (evA Φ r s).bind (kA4 ys) := rfl
def kA3 (Φ : Ev) (r : CAs) (x : D) (s : DS) : Res (List D) DS := starR Φ r s (deref s x)
def kO : D → DS → Res (Option Int) DS
  | .int i, s => .ok (some i) s
  | _, _ => .stuck
def kQ2 (x : D) (s : DS) : Res (List D) DS := .lift (seqD x) s
def kQ1 (x : D) (s : DS) : Res (List D) DS := (esc s x).bind kQ2
def kRn : D → DS → Res (List D) DS
  | .int n, s => if -big ≤ n ∧ n ≤ big then .ok (rngD 0 n) s else .stuck
  | _, _ => .stuck
def kEn2 : D → DS → Res (List D) DS
  | .lst xs, s => .ok (enumD 0 xs) s
  | .tup xs, s => .ok (enumD 0 xs) s
  | _, _ => .stuck
def kEn1 (x : D) (s : DS) : Res (List D) DS := (esc s x).bind kEn2

theorem j_B2 : kB2 o x y s = .lift (binD o (deref s x) (deref s y)) s := rfl
theorem j_B1 : kB1 Φ o b x s = (evE Φ b s).bind (kB2 o x) := rfl
theorem j_Neg : kNeg (.int i) s = .ok (.int (-i)) s := rfl
theorem j_C2 : kC2 o x y s = .lift ((cmpD o (deref s x) (deref s y)).map .bl) s := rfl
theorem j_C1 : kC1 Φ o b x s = (evE Φ b s).bind (kC2 o x) := rfl
theorem j_H4 : kH4 p y z s = .lift ((cmpD p (deref s y) (deref s z)).map .bl) s := rfl
theorem j_H3 : kH3 Φ p c y k s = if k then (evE Φ c s).bind (kH4 p y) else .ok (.bl false) s := rfl
theorem j_H2 : kH2 Φ o p c x y s = (Res.lift (cmpD o (deref s x) (deref s y)) s).bind (kH3 Φ p c y) := rfl
theorem j_H1 : kH1 Φ o p b c x s = (evE Φ b s).bind (kH2 Φ o p c x) := rfl
theorem j_Nt : kNt b s = .ok (.bl (!b)) s := rfl
theorem j_Bl : kBl b s = .ok (.bl b) s := rfl
theorem j_Ite : kIte Φ a b k s = if k then evE Φ a s else evE Φ b s := rfl
theorem j_Tup : kTup ds s = if ds.length ≤ big then .ok (.tup ds) s else .stuck := rfl
theorem j_Lst : kLst ds s = if ds.length ≤ big then .ok (.lst ds) s else .stuck := rfl
theorem j_K2 : kK2 Φ k pm ds es s = callF Φ k (pmL pm (ds ++ es)) s := rfl
theorem j_K1 : kK1 Φ k bs pm ds s = (evA Φ bs s).bind (kK2 Φ k pm ds) := rfl
theorem j_Bi : kBi b ds s = .lift (biD b (ds.map (deref s))) s := rfl
theorem j_M2 : kM2 m z y s = .lift (meD m z (deref s y)) s := rfl
theorem j_M1 : kM1 Φ m a (.str z) s = (evE Φ a s).bind (kM2 m z) := rfl
theorem j_X2 : kX2 x y s = .lift (idxD (deref s x) (deref s y)) s := rfl
theorem j_X1 : kX1 Φ i x s = (evE Φ i s).bind (kX2 x) := rfl
theorem j_S3 : kS3 x l h s = .lift (sliD (deref s x) l h) s := rfl
theorem j_S2 : kS2 Φ hi x l s = (evO Φ hi s).bind (kS3 x l) := rfl
theorem j_S1 : kS1 Φ lo hi x s = (evO Φ lo s).bind (kS2 Φ hi x) := rfl
theorem j_Rev : kRev x s = .lift (revD (deref s x)) s := rfl
theorem j_Cat2 : kCat2 x y s = .lift (catD (deref s x) (deref s y)) s := rfl
theorem j_Cat1 : kCat1 Φ b x s = (evE Φ b s).bind (kCat2 x) := rfl
theorem j_L2 : kL2 ws s = .ok (.lst ws) s := rfl
theorem j_L1 : kL1 Φ vs t c e ds s = if ds.length ≤ big then (lcL vs t (evC Φ c) (evE Φ e) ds s).bind kL2 else .stuck := rfl
theorem j_D1 : kD1 Φ vs t k v ds s = if ds.length ≤ big then dcL vs t (evE Φ k) (evE Φ v) ds [] [] s else .stuck := rfl
theorem j_R2 : kR2 ds (.int j) s = if 0 ≤ j ∧ j ≤ 1000 then .ok (.lst (List.replicate j.toNat ds).flatten) s else .stuck := rfl
theorem j_R1 : kR1 Φ e ds s = if ds.length ≤ 1000 then (evE Φ e s).bind (kR2 ds) else .stuck := rfl
theorem j_Is : kIs cs x s = isiR cs s (deref s x) := rfl
theorem j_And : kAnd Φ r k s = if k then evAnd Φ r s else .ok (.bl false) s := rfl
theorem j_Or : kOr Φ r k s = if k then .ok (.bl true) s else evOr Φ r s := rfl
theorem j_F : kF Φ r acc (.str y) s = if (acc ++ y).length ≤ big then evF Φ r (acc ++ y) s else .stuck := rfl
theorem j_E2 : kE2 x xs s = .ok (x :: xs) s := rfl
theorem j_E1 : kE1 Φ r x s = (evEs Φ r s).bind (kE2 x) := rfl
theorem j_A2 : kA2 Φ r x s = (evA Φ r s).bind (kE2 x) := rfl
theorem j_A1 : kA1 Φ r x s = (esc s x).bind (kA2 Φ r) := rfl
theorem j_A4 : kA4 ys xs s = .ok (ys ++ xs) s := rfl
theorem j_A3 : kA3 Φ r x s = starR Φ r s (deref s x) := rfl
theorem j_O : kO (.int i) s = .ok (some i) s := rfl
theorem j_Q2 : kQ2 x s = .lift (seqD x) s := rfl
theorem j_Q1 : kQ1 x s = (esc s x).bind kQ2 := rfl
theorem j_Rn : kRn (.int n) s = if -big ≤ n ∧ n ≤ big then .ok (rngD 0 n) s else .stuck := rfl
theorem j_En2l : kEn2 (.lst xs) s = .ok (enumD 0 xs) s := rfl
theorem j_En2t : kEn2 (.tup xs) s = .ok (enumD 0 xs) s := rfl
theorem j_En1 : kEn1 x s = (esc s x).bind kEn2 := rfl

theorem e_var : evE Φ (.var i) s = rdV i s s.sl[i]? := by
  simp only [evE]; generalize s.sl[i]? = o; unfold rdV; rcases o with _ | (_ | _ | _ | _) <;> rfl
theorem e_lit : evE Φ (.lit d) s = .ok d s := rfl
theorem e_glo : evE Φ (.glo x d) s = .ok d s := rfl
theorem e_bin : evE Φ (.bin o a b) s = (evE Φ a s).bind (kB1 Φ o b) := rfl
theorem e_neg : evE Φ (.neg a) s = (evE Φ a s).bind kNeg := by
  simp only [evE]; congr 1; funext x s; cases x <;> rfl
theorem e_cmp : evE Φ (.cmp o a b) s = (evE Φ a s).bind (kC1 Φ o b) := rfl
theorem e_chn : evE Φ (.chn o p a b c) s = (evE Φ a s).bind (kH1 Φ o p b c) := rfl
theorem e_and : evE Φ (.and as) s = evAnd Φ as s := rfl
theorem e_or : evE Φ (.or as) s = evOr Φ as s := rfl
theorem e_nt : evE Φ (.nt a) s = (asB (evE Φ a s)).bind kNt := rfl
theorem e_ite : evE Φ (.ite t a b) s = (asB (evE Φ t s)).bind (kIte Φ a b) := rfl
theorem e_tup : evE Φ (.tup as) s = (evA Φ as s).bind kTup := rfl
theorem e_lst : evE Φ (.lst as) s = (evA Φ as s).bind kLst := rfl
theorem e_call : evE Φ (.call k as) s = (evA Φ as s).bind (callF Φ k) := by
  simp only [evE]; congr 1
theorem e_callk : evE Φ (.callk k as bs pm) s = (evA Φ as s).bind (kK1 Φ k bs pm) := by
  simp only [evE]; congr 1
theorem e_bi : evE Φ (.bi b as) s = (evEs Φ as s).bind (kBi b) := rfl
theorem e_me : evE Φ (.me m o a) s = (evE Φ o s).bind (kM1 Φ m a) := by
  simp only [evE]; congr 1; funext x s; cases x <;> rfl
theorem e_idx : evE Φ (.idx a i) s = (evE Φ a s).bind (kX1 Φ i) := rfl
theorem e_sli : evE Φ (.sli a lo hi) s = (evE Φ a s).bind (kS1 Φ lo hi) := rfl
theorem e_rev : evE Φ (.rev a) s = (evE Φ a s).bind kRev := rfl
theorem e_cat : evE Φ (.cat a b) s = (evE Φ a s).bind (kCat1 Φ b) := rfl
theorem cat_lst : catD (.lst x) (.lst y) = if x.length + y.length ≤ big then some (.lst (x ++ y)) else none := rfl
theorem rev_tup : revD (.tup x) = some (.tup x.reverse) := rfl
theorem rev_lst : revD (.lst x) = some (.lst x.reverse) := rfl
theorem e_lc : evE Φ (.lc vs t it c e) s = (evI Φ it s).bind (kL1 Φ vs t c e) := rfl
theorem e_dc : evE Φ (.dc vs t it k v) s = (evI Φ it s).bind (kD1 Φ vs t k v) := rfl
theorem e_fst : evE Φ (.fst as) s = evF Φ as [] s := rfl
theorem e_fld : evE Φ (.fld i c j) s = fldR c j s s.sl[i]? := by
  simp only [evE]; generalize s.sl[i]? = o; unfold fldR; rcases o with _ | (_ | _ | _ | _) <;> rfl
theorem e_rep : evE Φ (.rep as e) s = (evA Φ as s).bind (kR1 Φ e) := by
  simp only [evE]; congr 1; funext ds s; unfold kR1; split
  · congr 1; funext x s; cases x <;> rfl
  · rfl
theorem e_isi : evE Φ (.isi e cs) s = (evE Φ e s).bind (kIs cs) := by
  simp only [evE]; congr 1
theorem e_xis : evE Φ (.xis i cs) s = xisR Φ cs s s.sl[i]? := by
  simp only [evE]; generalize s.sl[i]? = o; unfold xisR; rcases o with _ | (_ | _ | _ | _) <;> rfl

theorem and_one : evAnd Φ (.cons a .nil) s = (asB (evE Φ a s)).bind kBl := rfl
theorem and_cons : evAnd Φ (.cons a (.cons b r)) s = (asB (evE Φ a s)).bind (kAnd Φ (.cons b r)) := rfl
theorem or_one : evOr Φ (.cons a .nil) s = (asB (evE Φ a s)).bind kBl := rfl
theorem or_cons : evOr Φ (.cons a (.cons b r)) s = (asB (evE Φ a s)).bind (kOr Φ (.cons b r)) := rfl
theorem f_nil : evF Φ .nil acc s = .ok (.str acc) s := rfl
theorem f_cons : evF Φ (.cons a r) acc s = (evE Φ a s).bind (kF Φ r acc) := by
  simp only [evF]; congr 1; funext x s; cases x <;> rfl
theorem es_nil : evEs Φ .nil s = .ok [] s := rfl
theorem es_cons : evEs Φ (.cons a r) s = (evE Φ a s).bind (kE1 Φ r) := rfl
theorem a_nil : evA Φ .nil s = .ok [] s := rfl
theorem a_cons : evA Φ (.cons false a r) s = (evE Φ a s).bind (kA1 Φ r) := rfl
theorem a_star : evA Φ (.cons true a r) s = (evE Φ a s).bind (kA3 Φ r) := by
  simp only [evA]; congr 1
theorem asA_nil : asA .nil = .nil := rfl
theorem asA_cons : asA (.cons e r) = .cons false e (asA r) := rfl
theorem o_none : evO Φ .none s = .ok none s := rfl
theorem o_some : evO Φ (.some e) s = (evE Φ e s).bind kO := by
  simp only [evO]; congr 1; funext x s; cases x <;> rfl
theorem c_none : evC Φ .none s = .ok true s := rfl
theorem c_some : evC Φ (.some e) s = asB (evE Φ e s) := rfl
theorem i_seq : evI Φ (.seq e) s = (evE Φ e s).bind kQ1 := rfl
theorem i_rng1 : evI Φ (.rng1 e) s = (evE Φ e s).bind kRn := by
  simp only [evI]; congr 1; funext x s; cases x <;> rfl
theorem i_enum : evI Φ (.enum e) s = (evE Φ e s).bind kEn1 := by
  simp only [evI]; congr 1; funext x s; unfold kEn1; congr 1; funext x s; cases x <;> rfl

/-- a row of statements -/
def seqR (Φ : Ev) (r : CSs) (x : Res Fl DS) : Res Fl DS := x.bind fun f s => match f with
  | .nx => exSs Φ r s
  | f => .ok f s
theorem seq_nx : seqR Φ r (.ok .nx s) = exSs Φ r s := rfl
theorem seq_ret : seqR Φ r (.ok (.ret d) s) = .ok (.ret d) s := rfl
theorem seq_bk : seqR Φ r (.ok .bk s) = .ok .bk s := rfl
theorem seq_ct : seqR Φ r (.ok .ct s) = .ok .ct s := rfl
theorem seq_exc : seqR Φ r (.exc c as s) = .exc c as s := rfl
theorem seq_stuck : seqR Φ r .stuck = .stuck := rfl
theorem seq_ite {p : Prop} {inst : Decidable p} {x y : Res Fl DS} : seqR Φ r (if p then x else y) = if p then seqR Φ r x else seqR Φ r y := by split <;> rfl
theorem ss_nil : exSs Φ .nil s = .ok .nx s := rfl
theorem ss_cons : exSs Φ (.cons a r) s = seqR Φ r (exS Φ a s) := rfl
def asgR : Option DS → Res Fl DS
  | some s => .ok .nx s
  | none => .stuck
theorem asgR_some : asgR (some s) = .ok .nx s := rfl
def kG2 (t : CT) (x : D) (s : DS) : Res Fl DS := asgR (putT t x s)
def kG1 (t : CT) (x : D) (s : DS) : Res Fl DS := (esc s x).bind (kG2 t)
theorem j_G2 : kG2 t x s = asgR (putT t x s) := rfl
theorem j_G1 : kG1 t x s = (esc s x).bind (kG2 t) := rfl
theorem s_asg : exS Φ (.asg t e) s = (evE Φ e s).bind (kG1 t) := rfl
def ownR (i : Nat) (s : DS) : Option MO → Res Fl DS
  | some m => .ok .nx (putS i (.own m) s)
  | none => .stuck
theorem ownR_some : ownR i s (some m) = .ok .nx (putS i (.own m) s) := rfl
def kW (i : Nat) (x : D) (s : DS) : Res Fl DS := ownR i s (moD x)
theorem j_W : kW i x s = ownR i s (moD x) := rfl
theorem s_own : exS Φ (.own i e) s = (evE Φ e s).bind (kW i) := rfl
def glbR (i : Nat) (s : DS) : Option MO → Res Fl DS
  | some m => .ok .nx { sl := s.sl.set i (.val (.obj s.st.length)), st := s.st ++ [m] }
  | none => .stuck
theorem glbR_some : glbR i s (some m) = .ok .nx ⟨s.sl.set i (.val (.obj s.st.length)), s.st ++ [m]⟩ := rfl
def kGl (i : Nat) (x : D) (s : DS) : Res Fl DS := glbR i s (moD x)
theorem j_Gl : kGl i x s = glbR i s (moD x) := rfl
theorem s_glb : exS Φ (.glb i e) s = (evE Φ e s).bind (kGl i) := rfl
theorem s_par : exS Φ (.par ks es) s = (evA Φ (asA es) s).bind (parL ks) := rfl
theorem par_nil : parL [] [] s = .ok .nx s := rfl
theorem par_val : parL ((i, false) :: r) (d :: ds) s = parL r ds (putS i (.val d) s) := rfl
theorem par_own : parL ((i, true) :: r) (.lst xs :: ds) s = parL r ds (putS i (.own (.lst xs)) s) := rfl
def kP3 (y x : D) (s : DS) : Res Fl DS := mutD (appM x) y s
def kP2 (y x : D) (s : DS) : Res Fl DS := (esc s x).bind (kP3 y)
def appR (Φ : Ev) (e : CE) (y : D) (s : DS) : D → Res Fl DS
  | .lst _ => (evE Φ e s).bind (kP2 y)
  | _ => .stuck
theorem appR_lst : appR Φ e y s (.lst xs) = (evE Φ e s).bind (kP2 y) := rfl
def kP1 (Φ : Ev) (e : CE) (y : D) (s : DS) : Res Fl DS := appR Φ e y s (deref s y)
theorem j_P3 : kP3 y x s = mutD (appM x) y s := rfl
theorem j_P2 : kP2 y x s = (esc s x).bind (kP3 y) := rfl
theorem j_P1 : kP1 Φ e y s = appR Φ e y s (deref s y) := rfl
theorem s_app : exS Φ (.app o e) s = (evE Φ o s).bind (kP1 Φ e) := by
  simp only [exS]; congr 1
def kT4 (x y z : D) (s : DS) : Res Fl DS := mutD (stiM z x) y s
def kT3 (Φ : Ev) (k : CE) (x y : D) (s : DS) : Res Fl DS := (evE Φ k s).bind (kT4 x y)
def kT2 (Φ : Ev) (o k : CE) (x : D) (s : DS) : Res Fl DS := (evE Φ o s).bind (kT3 Φ k x)
def kT1 (Φ : Ev) (o k : CE) (x : D) (s : DS) : Res Fl DS := (esc s x).bind (kT2 Φ o k)
theorem j_T4 : kT4 x y z s = mutD (stiM z x) y s := rfl
theorem j_T3 : kT3 Φ k x y s = (evE Φ k s).bind (kT4 x y) := rfl
theorem j_T2 : kT2 Φ o k x s = (evE Φ o s).bind (kT3 Φ k x) := rfl
theorem j_T1 : kT1 Φ o k x s = (esc s x).bind (kT2 Φ o k) := rfl
theorem s_sti : exS Φ (.sti o k e) s = (evE Φ e s).bind (kT1 Φ o k) := rfl
def mutO (i : Nat) (f : MO → Option MO) (s : DS) : Option Sl → Res Fl DS
  | some (.own m) => ownR i s (f m)
  | _ => .stuck
theorem mutO_own : mutO i f s (some (.own m)) = ownR i s (f m) := rfl
def celR (n : Nat) (s : DS) : Option MO → Res Fl DS
  | some m => .ok .nx { s with st := s.st.set n m }
  | none => .stuck
theorem celR_some : celR n s (some m) = .ok .nx ⟨s.sl, s.st.set n m⟩ := rfl
def mutC (n : Nat) (f : MO → Option MO) (s : DS) : Option MO → Res Fl DS
  | some m => celR n s (f m)
  | none => .stuck
theorem mutC_some : mutC i f s (some m) = celR i s (f m) := rfl
theorem mut_own : mutD f (.own i) s = mutO i f s s.sl[i]? := rfl
theorem mut_obj : mutD f (.obj i) s = mutC i f s s.st[i]? := rfl
theorem appM_lst : appM d (.lst xs) = if xs.length < big then some (.lst (xs ++ [d])) else none := rfl
theorem stiM_lst : stiM (.int i) d (.lst xs) = (L2.ixN xs.length i).map fun j => .lst (xs.set j d) := rfl
def kEx (_ : D) (s : DS) : Res Fl DS := .ok .nx s
theorem j_Ex : kEx x s = .ok .nx s := rfl
theorem s_ex : exS Φ (.ex e) s = (evE Φ e s).bind kEx := rfl
def kRt2 (x : D) (s : DS) : Res Fl DS := .ok (.ret x) s
def kRt1 (x : D) (s : DS) : Res Fl DS := (esc s x).bind kRt2
theorem j_Rt2 : kRt2 x s = .ok (.ret x) s := rfl
theorem j_Rt1 : kRt1 x s = (esc s x).bind kRt2 := rfl
theorem s_ret : exS Φ (.ret e) s = (evE Φ e s).bind kRt1 := rfl
theorem s_retN : exS Φ .retN s = .ok (.ret .non) s := rfl
def retGR (s : DS) : Option MO → Res Fl DS
  | some m => .ok (.ret (.obj s.st.length)) { s with st := s.st ++ [m] }
  | none => .stuck
theorem retGR_some : retGR s (some m) = .ok (.ret (.obj s.st.length)) ⟨s.sl, s.st ++ [m]⟩ := rfl
def kRg (x : D) (s : DS) : Res Fl DS := retGR s (moD x)
theorem j_Rg : kRg x s = retGR s (moD x) := rfl
theorem s_retG : exS Φ (.retG e) s = (evE Φ e s).bind kRg := rfl
def kIf (Φ : Ev) (a b : CSs) (k : Bool) (s : DS) : Res Fl DS := if k then exSs Φ a s else exSs Φ b s
theorem j_If : kIf Φ a b k s = if k then exSs Φ a s else exSs Φ b s := rfl
theorem s_ife : exS Φ (.ife t a b) s = (asB (evE Φ t s)).bind (kIf Φ a b) := rfl
def kFr (Φ : Ev) (t : CT) (b : CSs) (ds : List D) (s : DS) : Res Fl DS := if ds.length ≤ big then forL t (exSs Φ b) ds s else .stuck
theorem j_Fr : kFr Φ t b ds s = if ds.length ≤ big then forL t (exSs Φ b) ds s else .stuck := rfl
theorem s_for : exS Φ (.for_ t it b) s = (evI Φ it s).bind (kFr Φ t b) := rfl
theorem s_pas : exS Φ .pas s = .ok .nx s := rfl
theorem s_brk : exS Φ .brk s = .ok .bk s := rfl
theorem s_cnt : exS Φ .cnt s = .ok .ct s := rfl
def kRa (c : Nat) (ds : List D) (s : DS) : Res Fl DS := .exc c ds s
theorem j_Ra : kRa c ds s = .exc c ds s := rfl
theorem s_rai : exS Φ (.rai c as) s = (evA Φ (asA as) s).bind (kRa c) := rfl
def triR (Φ : Ev) (hs : CHs) (x : Res Fl DS) : Res Fl DS := match x with
  | .exc c as s => exH Φ c as hs s
  | r => r
theorem tri_ok : triR Φ hs (.ok f s) = .ok f s := rfl
theorem tri_exc : triR Φ hs (.exc c as s) = exH Φ c as hs s := rfl
theorem s_tri : exS Φ (.tri b hs) s = triR Φ hs (exSs Φ b s) := rfl
theorem h_nil : exH Φ c as .nil s = .exc c as s := rfl
def kHx (i : Nat) (f : Fl) (s : DS) : Res Fl DS := .ok f (clrX i s)
theorem j_Hx : kHx i f s = .ok f (clrX i s) := rfl
theorem h_cons : exH Φ c as (.cons cs i b r) s = if cs.any (Φ.sub c) then (noX (exSs Φ b (putS i (.exc c as) s))).bind (kHx i) else exH Φ c as r s := rfl
theorem clrX_mk : clrX i ⟨sl, st⟩ = ⟨(sl.map clr1).set i .none, st⟩ := rfl
theorem clr1_none : clr1 .none = .none := rfl
theorem clr1_val : clr1 (.val d) = .val d := rfl
theorem clr1_own : clr1 (.own d) = .own d := rfl
theorem clr1_exc : clr1 (.exc c as) = .none := rfl

def fnR : Res Fl DS → Res D (List MO)
  | .ok (.ret d) s => .ok d s.st
  | .ok .nx s => .ok .non s.st
  | .ok _ _ => .stuck
  | .exc c as s => .exc c as s.st
  | .stuck => .stuck
theorem fnR_ret : fnR (.ok (.ret d) s) = .ok d s.st := rfl
theorem fnR_nx : fnR (.ok .nx s) = .ok .non s.st := rfl
theorem fnR_exc : fnR (.exc c as s) = .exc c as s.st := rfl
theorem fnR_stuck : fnR .stuck = .stuck := rfl
theorem lift_none' {α σ : Type} {s : σ} : Res.lift (none : Option α) s = .stuck := rfl
theorem fnR_ite {p : Prop} {inst : Decidable p} {x y : Res Fl DS} : fnR (if p then x else y) = if p then fnR x else fnR y := by split <;> rfl
theorem fn_run {ds : List D} {np n : Nat} {b : CSs} (h : ds.length = np) : fnD Φ np n b ds st = fnR (exSs Φ b ⟨ds.map .val ++ List.replicate (n - np) .none, st⟩) := by
  unfold fnD fnR
  rw [if_pos h]
  split
  · rename_i f s e
    cases f <;> simp only [e]
  · rename_i e; simp only [e]
  · rename_i e; simp only [e]

/-! values -/
theorem putS_mk : putS i x ⟨sl, st⟩ = ⟨sl.set i x, st⟩ := rfl
theorem wipe_nil : wipe sl [] = sl := rfl
theorem wipe_cons : wipe sl (i :: r) = wipe (sl.set i .none) r := rfl
theorem put_nm : putT (.nm i) d ⟨sl, st⟩ = some ⟨sl.set i (.val d), st⟩ := rfl
theorem put_tp : putT (.tp ts) (.tup ds) s = putTs ts ds s := rfl
theorem put_tpl : putT (.tp ts) (.lst ds) s = putTs ts ds s := rfl
theorem puts_nil : putTs [] [] s = some s := rfl
theorem puts_cons : putTs (t :: ts) (d :: ds) s = (putT t d s).bind (putTs ts ds) := rfl
theorem obind_some {f : α → Option β} {a : α} : (some a).bind f = f a := rfl
theorem omap_some {f : α → β} {a : α} : (some a).map f = some (f a) := rfl
theorem esc_non : esc s .non = .ok .non s := rfl
theorem esc_bl : esc s (.bl b) = .ok (.bl b) s := rfl
theorem esc_int : esc s (.int b) = .ok (.int b) s := rfl
theorem esc_str : esc s (.str b) = .ok (.str b) s := rfl
theorem esc_tup : esc s (.tup b) = .ok (.tup b) s := rfl
theorem esc_lst : esc s (.lst b) = .ok (.lst b) s := rfl
theorem esc_obj : esc s (.obj b) = .ok (.obj b) s := rfl
theorem esc_dic : esc s (.dic a b) = .ok (.dic a b) s := rfl
def escO (i : Nat) (s : DS) : Option Sl → Res D DS
  | some (.own (.lst xs)) => .ok (.lst xs) { s with sl := s.sl.set i (.val (.lst xs)) }
  | some (.own (.dic ks vs)) => .ok (.dic ks vs) { s with sl := s.sl.set i (.val (.dic ks vs)) }
  | _ => .stuck
theorem esc_own : esc s (.own i) = escO i s s.sl[i]? := rfl
theorem escO_lst : escO i s (some (.own (.lst xs))) = .ok (.lst xs) ⟨s.sl.set i (.val (.lst xs)), s.st⟩ := rfl
theorem de_non : deref s .non = .non := rfl
theorem de_bl : deref s (.bl b) = .bl b := rfl
theorem de_int : deref s (.int b) = .int b := rfl
theorem de_str : deref s (.str b) = .str b := rfl
theorem de_tup : deref s (.tup b) = .tup b := rfl
theorem de_lst : deref s (.lst b) = .lst b := rfl
theorem de_dic : deref s (.dic a b) = .dic a b := rfl
def deO (i : Nat) : Option Sl → D
  | some (.own m) => moV (.own i) m
  | _ => .own i
def deC (i : Nat) : Option MO → D
  | some m => moV (.obj i) m
  | none => .obj i
theorem de_own : deref s (.own i) = deO i s.sl[i]? := rfl
theorem de_obj : deref s (.obj i) = deC i s.st[i]? := rfl
theorem deO_own : deO i (some (.own (.lst xs))) = .lst xs := rfl
theorem deC_lst : deC i (some (.lst xs)) = .lst xs := rfl
theorem moD_lst : moD (.lst xs) = some (.lst xs) := rfl
theorem seqD_lst : seqD (.lst xs) = some xs := rfl
theorem seqD_tup : seqD (.tup xs) = some xs := rfl
theorem seqD_str : seqD (.str xs) = some (xs.map fun c => .str [c]) := rfl
theorem ite_ok {σ : Type} {p : Prop} {inst : Decidable p} {x y : D} {s : σ} : (if p then Res.ok x s else Res.ok y s) = Res.ok (if p then x else y) s := by split <;> rfl
theorem ite_okb {σ : Type} {p : Prop} {inst : Decidable p} {x y : Bool} {s : σ} : (if p then Res.ok x s else Res.ok y s) = Res.ok (if p then x else y) s := by split <;> rfl
theorem ite_oko {σ : Type} {p : Prop} {inst : Decidable p} {x y : Option D} {s : σ} : (if p then Res.ok x s else Res.ok y s) = Res.ok (if p then x else y) s := by split <;> rfl
theorem ite_bl {p : Prop} {inst : Decidable p} : (if p then D.bl x else D.bl y) = D.bl (if p then x else y) := by split <;> rfl
theorem ite_int {p : Prop} {inst : Decidable p} : (if p then D.int x else D.int y) = D.int (if p then x else y) := by split <;> rfl
theorem ite_str {p : Prop} {inst : Decidable p} : (if p then D.str x else D.str y) = D.str (if p then x else y) := by split <;> rfl
theorem ite_lst {p : Prop} {inst : Decidable p} : (if p then D.lst x else D.lst y) = D.lst (if p then x else y) := by split <;> rfl
theorem ite_tup {p : Prop} {inst : Decidable p} : (if p then D.tup x else D.tup y) = D.tup (if p then x else y) := by split <;> rfl
theorem ite_ret {p : Prop} {inst : Decidable p} : (if p then Fl.ret x else Fl.ret y) = Fl.ret (if p then x else y) := by split <;> rfl
theorem if_and {b x : Bool} : (if b = true then x else false) = (b && x) := by cases b <;> rfl
theorem if_or {b x : Bool} : (if b = true then true else x) = (b || x) := by cases b <;> rfl
theorem ifp_and {p : Prop} {inst : Decidable p} {x : Bool} : (if p then x else false) = (decide p && x) := by split <;> simp [*]
theorem ifp_or {p : Prop} {inst : Decidable p} {x : Bool} : (if p then true else x) = (decide p || x) := by split <;> simp [*]
theorem bind_ite {α β σ : Type} {p : Prop} {inst : Decidable p} {x y : Res α σ} {f : α → σ → Res β σ} : (if p then x else y).bind f = if p then x.bind f else y.bind f := by split <;> rfl
end DM
namespace DM
open DL
theorem guard_res {α σ : Type} {p : Prop} {inst : Decidable p} {x : Res α σ} (h : p) : (if p then x else Res.stuck) = x := if_pos h
theorem guard_opt {α : Type} {p : Prop} {inst : Decidable p} {x : α} (h : p) : (if p then some x else none) = some x := if_pos h
/-! sizes and data that == is asked of -/
abbrev W := List Nat
def WB (k : Nat) (w : W) : Bool := decide (w.length ≤ k) && w.all (fun c => decide (c < 1114112))
def okn (n : Nat) (d : D) : Bool := plainD d && decide (depD d ≤ n)
theorem okD_n (d : D) : okD d = okn 60 d := rfl
def WC (w : W) : Bool := w.all (fun c => decide (c < 1114112))
theorem WC_of (h : WB k w = true) : WC w = true := by
  simp only [WB, Bool.and_eq_true] at h
  exact h.2
theorem WCs_of {ws : List W} (h : ws.all (WB k) = true) : ws.all WC = true := by
  rw [List.all_eq_true] at *; exact fun x hx => WC_of (h x hx)
theorem okn_str (h : WC w = true) : okn n (.str w) = true := by
  simp only [okn, plainD, depD, Nat.zero_le, decide_true, Bool.and_true]; exact h
theorem okn_all (xs : List D) : (plainDs xs && decide (depDs xs ≤ n)) = xs.all (okn n) := by
  induction xs with
  | nil => simp [plainDs, depDs]
  | cons x xs ih =>
    simp only [plainDs, depDs, List.all_cons, ← ih, okn]
    by_cases h1 : depD x ≤ n <;> by_cases h2 : depDs xs ≤ n <;> simp [h1, h2, Nat.max_le, Bool.and_assoc]
theorem okn_tup (xs : List D) : okn (n + 1) (.tup xs) = xs.all (okn n) := by
  rw [← okn_all]; simp [okn, plainD, depD]
theorem okn_lst (xs : List D) : okn (n + 1) (.lst xs) = xs.all (okn n) := by
  rw [← okn_all]; simp [okn, plainD, depD]
theorem okn_int : okn n (.int i) = true := by simp [okn, plainD, depD]
theorem okn_bl : okn n (.bl i) = true := by simp [okn, plainD, depD]
theorem okn_non : okn n .non = true := by simp [okn, plainD, depD]
theorem okn_strs (ws : List W) (h : ws.all WC = true) : (ws.map D.str).all (okn n) = true := by
  simp only [List.all_map, List.all_eq_true] at *
  exact fun x hx => okn_str (h x hx)
theorem memD_strs (w : W) (ws : List W) : memD (.str w) (ws.map .str) = ws.contains w := by
  induction ws with
  | nil => rfl
  | cons x ws ih =>
    simp only [List.map_cons, memD, eqD, ih, List.contains_cons]
    congr 1
    exact Bool.beq_comm
end DM
end

section
set_option Elab.async false
set_option linter.all false
set_option autoImplicit true
/-! Dl41: loops and comprehensions, in one step each. -/
namespace DM
open DL
/-- one turn of a comprehension -/
def lcO (vs : List Nat) (c : DS → Res Bool DS) (e : DS → Res D DS) : Option DS → Res (Option D) DS
  | none => .stuck
  | some s => (c s).bind fun b s => if b then (e s).bind fun v s => (esc s v).bind fun v s => .ok (some v) s else .ok none s
def lcW (vs : List Nat) (r : Res (Option D) DS) : Res (Option D) DS := r.bind fun v s => .ok v ⟨wipe s.sl vs, s.st⟩
theorem lcW_ok {v : Option D} : lcW vs (.ok v s) = .ok v ⟨wipe s.sl vs, s.st⟩ := rfl
def lcT (vs : List Nat) (t : CT) (c : DS → Res Bool DS) (e : DS → Res D DS) (d : D) (s : DS) : Res (Option D) DS := lcW vs (lcO vs c e (putT t d s))
theorem lcT_eq : lcT vs t c e d s = lcW vs (lcO vs c e (putT t d s)) := rfl
def kV3 (v : D) (s : DS) : Res (Option D) DS := .ok (some v) s
def kV2 (v : D) (s : DS) : Res (Option D) DS := (esc s v).bind kV3
def kV1 (e : DS → Res D DS) (b : Bool) (s : DS) : Res (Option D) DS := if b then (e s).bind kV2 else .ok none s
theorem j_V3 : kV3 v s = .ok (some v) s := rfl
theorem j_V2 : kV2 v s = (esc s v).bind kV3 := rfl
theorem j_V1 : kV1 e b s = if b then (e s).bind kV2 else .ok none s := rfl
theorem lcO_some : lcO vs c e (some s) = (c s).bind (kV1 e) := rfl
theorem lcT_step {vs : List Nat} {t : CT} {c : DS → Res Bool DS} {e : DS → Res D DS} {d : D} {r : List D} {s s' : DS} {o : Option D}
    (hw : wipe s.sl vs = s.sl) (h : lcT vs t c e d s = .ok o s') (hw' : wipe s'.sl vs = s'.sl) :
    lcL vs t c e (d :: r) s = (lcL vs t c e r s').bind fun ws s => .ok (o.toList ++ ws) s := by
  have key : ∀ z : DS, lcL vs t c e r z = lcL vs t c e r ⟨wipe z.sl vs, z.st⟩ ∨ True := fun _ => .inr trivial
  have wsame : ∀ z : DS, (wipe (wipe z.sl vs) vs) = wipe z.sl vs := by
    have h1 : ∀ (vs : List Nat) (l : List Sl) (i : Nat), wipe (l.set i .none) vs = (wipe l vs).set i .none := by
      intro vs
      induction vs with
      | nil => intros; rfl
      | cons j vs ih => intro l i; simp only [wipe]; rw [← ih]; congr 1; by_cases hij : j = i
                        · subst hij; rfl
                        · exact List.set_comm _ _ (by omega)
    have h2 : ∀ (vs : List Nat) (l : List Sl), wipe (wipe l vs) vs = wipe l vs := by
      intro vs
      induction vs with
      | nil => intros; rfl
      | cons j vs ih => intro l; simp only [wipe]; rw [h1 vs l, List.set_set, h1, ih]
    exact fun z => h2 vs z.sl
  have lw : ∀ z : DS, lcL vs t c e r z = lcL vs t c e r ⟨wipe z.sl vs, z.st⟩ := by
    intro z
    cases r with
    | nil => simp only [lcL, wsame]
    | cons x r => simp only [lcL, wsame]
  have hs : (⟨wipe s.sl vs, s.st⟩ : DS) = s := by rw [hw]
  simp only [lcL]
  rw [hs]
  simp only [lcT] at h
  cases hp : putT t d s with
  | none => rw [hp] at h; simp [lcW, lcO] at h
  | some s1 =>
    rw [hp] at h
    simp only [lcW, lcO] at h ⊢
    cases hc : c s1 with
    | stuck => rw [hc] at h; simp at h
    | exc _ _ _ => rw [hc] at h; simp at h
    | ok b s2 =>
      rw [hc] at h
      simp only [Res.bind_ok, noX_ok] at h ⊢
      cases b with
      | false =>
        simp only [Bool.false_eq_true, if_false, Res.bind_ok] at h ⊢
        injection h with h1 h2
        subst h1
        rw [lw s2, h2]
        cases lcL vs t c e r s' <;> rfl
      | true =>
        simp only [if_true] at h ⊢
        cases he : e s2 with
        | stuck => rw [he] at h; simp at h
        | exc _ _ _ => rw [he] at h; simp at h
        | ok v s3 =>
          rw [he] at h
          simp only [Res.bind_ok, noX_ok] at h ⊢
          cases hv : esc s3 v with
          | stuck => rw [hv] at h; simp at h
          | exc _ _ _ => rw [hv] at h; simp at h
          | ok v s4 =>
            rw [hv] at h
            simp only [Res.bind_ok] at h ⊢
            injection h with h1 h2
            subst h1
            rw [lw s4, h2]
            rfl
theorem lcL_pure {α : Type} {vs : List Nat} {t : CT} {c : DS → Res Bool DS} {e : DS → Res D DS} {f : α → D} (p : α → Bool) (g : α → D) {xs : List α} {s : DS}
    (hw : wipe s.sl vs = s.sl) (h : ∀ x ∈ xs, lcT vs t c e (f x) s = .ok (if p x then some (g x) else none) s) :
    lcL vs t c e (xs.map f) s = .ok ((xs.filter p).map g) s := by
  induction xs with
  | nil => simp only [List.map_nil, List.filter_nil, lcL, hw]
  | cons x xs ih =>
    rw [List.map_cons, lcT_step hw (h x (List.mem_cons_self ..)) hw, ih fun y hy => h y (List.mem_cons_of_mem _ hy)]
    cases hp : p x <;> simp [hp]
theorem lcL_map {α : Type} {vs : List Nat} {t : CT} {c : DS → Res Bool DS} {e : DS → Res D DS} {f : α → D} (g : α → D) {xs : List α} {s : DS}
    (hw : wipe s.sl vs = s.sl) (h : ∀ x ∈ xs, lcT vs t c e (f x) s = .ok (some (g x)) s) :
    lcL vs t c e (xs.map f) s = .ok (xs.map g) s := by
  rw [lcL_pure (fun _ => true) g hw (by simpa using h), List.filter_eq_self.mpr (by simp)]
/-- a comprehension that draws -/
theorem lcL_rel {α : Type} {vs : List Nat} {t : CT} {c : DS → Res Bool DS} {e : DS → Res D DS} {f : α → D} (P : List D → Nat → DS → Prop) {xs : List α}
    (hw : ∀ a n s, P a n s → wipe s.sl vs = s.sl) (h : ∀ x ∈ xs, ∀ a n s, P a (n + 1) s → ∃ v s', lcT vs t c e (f x) s = .ok (some v) s' ∧ P (a ++ [v]) n s') :
    ∀ a s, P a xs.length s → ∃ ws s', lcL vs t c e (xs.map f) s = .ok ws s' ∧ P (a ++ ws) 0 s' := by
  induction xs with
  | nil => intro a s hp; exact ⟨[], s, by simp only [List.map_nil, lcL, hw _ _ _ hp], by simpa using hp⟩
  | cons x xs ih =>
    intro a s hp
    obtain ⟨v, s1, e1, h1⟩ := h x (List.mem_cons_self ..) a xs.length s hp
    obtain ⟨ws, s2, e2, h2⟩ := ih (fun y hy => h y (List.mem_cons_of_mem _ hy)) _ _ h1
    refine ⟨v :: ws, s2, ?_, by simpa using h2⟩
    rw [List.map_cons, lcT_step (hw _ _ _ hp) e1 (hw _ _ _ h1), e2]
    rfl

/-- one turn of a loop -/
def forO (b : DS → Res Fl DS) : Option DS → Res Fl DS
  | none => .stuck
  | some s => b s
theorem forO_some {b : DS → Res Fl DS} : forO b (some s) = b s := rfl
def forT (t : CT) (b : DS → Res Fl DS) (d : D) (s : DS) : Res Fl DS := forO b (putT t d s)
theorem forT_eq {b : DS → Res Fl DS} : forT t b d s = forO b (putT t d s) := rfl
def fLoop (t : CT) (b : DS → Res Fl DS) (r : List D) : Res Fl DS → Res Fl DS := fun x => x.bind fun f s => match f with
  | .nx => forL t b r s
  | .ct => forL t b r s
  | .bk => .ok .nx s
  | .ret d => .ok (.ret d) s
theorem forL_cons {b : DS → Res Fl DS} : forL t b (d :: r) s = fLoop t b r (forT t b d s) := by
  simp only [forL, fLoop, forT, forO]
  cases putT t d s <;> rfl
/-- ends that leave a loop -/
inductive Stop : Res Fl DS → Prop
  | ret (d : D) (s : DS) : Stop (.ok (.ret d) s)
  | exc (c : Nat) (as : List D) (s : DS) : Stop (.exc c as s)
theorem stop_loop {b : DS → Res Fl DS} {X : Res Fl DS} (h : Stop X) : fLoop t b r X = X := by cases h <;> rfl
theorem forL_first {α β : Type} {t : CT} {b : DS → Res Fl DS} {f : α → D} (stop : α → Option β) (out : β → DS → Res Fl DS) (hout : ∀ b s, Stop (out b s)) (P : DS → Prop) {xs : List α}
    (h : ∀ x ∈ xs, ∀ s, P s → match stop x with
      | none => ∃ s2, forT t b (f x) s = .ok .nx s2 ∧ P s2
      | some r => ∃ s2, forT t b (f x) s = out r s2 ∧ P s2) :
    ∀ s, P s → match xs.findSome? stop with
      | none => ∃ s2, forL t b (xs.map f) s = .ok .nx s2 ∧ P s2
      | some r => ∃ s2, forL t b (xs.map f) s = out r s2 ∧ P s2 := by
  induction xs with
  | nil => intro s hp; exact ⟨s, rfl, hp⟩
  | cons x xs ih =>
    intro s hp
    have h1 := h x (List.mem_cons_self ..) s hp
    have ih := ih fun y hy => h y (List.mem_cons_of_mem _ hy)
    simp only [List.findSome?_cons, List.map_cons, forL_cons]
    cases hs : stop x with
    | none =>
      rw [hs] at h1
      obtain ⟨s2, e2, h2⟩ := h1
      rw [e2]
      exact ih s2 h2
    | some r =>
      rw [hs] at h1
      obtain ⟨s2, e2, h2⟩ := h1
      exact ⟨s2, by rw [e2, stop_loop (hout ..)], h2⟩
theorem forL_inv {α : Type} {t : CT} {b : DS → Res Fl DS} {f : α → D} (P : List α → DS → Prop) {xs : List α}
    (h : ∀ x r s, x ∈ xs → P (x :: r) s → ∃ s2, forT t b (f x) s = .ok .nx s2 ∧ P r s2) :
    ∀ s, P xs s → ∃ s2, forL t b (xs.map f) s = .ok .nx s2 ∧ P [] s2 := by
  have key : ∀ ys : List α, (∀ y ∈ ys, y ∈ xs) → ∀ s, P ys s → ∃ s2, forL t b (ys.map f) s = .ok .nx s2 ∧ P [] s2 := by
    intro ys
    induction ys with
    | nil => intro _ s hp; exact ⟨s, rfl, hp⟩
    | cons x ys ih =>
      intro hm s hp
      obtain ⟨s2, e2, h2⟩ := h x ys s (hm x (List.mem_cons_self ..)) hp
      rw [List.map_cons, forL_cons, e2]
      exact ih (fun y hy => hm y (List.mem_cons_of_mem _ hy)) s2 h2
  exact key xs fun _ h => h
theorem enumD_zip {α : Type} (f : α → D) (xs : List α) (n : Nat) : enumD n (xs.map f) = (xs.zipIdx n).map fun p => .tup [.int p.2, f p.1] := by
  induction xs generalizing n with
  | nil => rfl
  | cons x xs ih => simp only [List.map_cons, enumD, List.zipIdx_cons, ih]
theorem zip_snd {α : Type} (xs : List α) (n : Nat) : (xs.zipIdx n).map Prod.snd = List.range' n xs.length := by
  induction xs generalizing n with
  | nil => rfl
  | cons x xs ih => simp only [List.zipIdx_cons, List.map_cons, ih, List.length_cons, List.range'_succ]
theorem rngD_zip {α : Type} (xs : List α) : rngD 0 xs.length = (xs.zipIdx 0).map fun p => .int (p.2 : Int) := by
  have h := zip_snd xs 0
  have : (xs.zipIdx 0).map (fun p => D.int (p.2 : Int)) = ((xs.zipIdx 0).map Prod.snd).map fun n => .int (n : Int) := by
    rw [List.map_map]; rfl
  rw [this, h, rngD, List.range_eq_range']
  simp
theorem rngD_nat (n : Nat) : rngD 0 (n : Int) = (List.range n).map fun k => .int (k : Int) := by
  simp [rngD]
end DM
end

section
set_option Elab.async false
set_option linter.all false
set_option autoImplicit true
set_option maxRecDepth 100000
/-! Dl42: the step: one simp with these equations. -/
namespace DM
open DL
theorem b_addi : binD .add (.int i) (.int j) = some (.int (i + j)) := rfl
theorem b_adds : binD .add (.str x) (.str y) = if x.length + y.length ≤ big then some (.str (x ++ y)) else none := rfl
theorem b_addl : binD .add (.lst x) (.lst y) = if x.length + y.length ≤ big then some (.lst (x ++ y)) else none := rfl
theorem b_addt : binD .add (.tup x) (.tup y) = if x.length + y.length ≤ big then some (.tup (x ++ y)) else none := rfl
theorem b_sub : binD .sub (.int i) (.int j) = some (.int (i - j)) := rfl
theorem b_mul : binD .mul (.int i) (.int j) = if i.natAbs.log2 + j.natAbs.log2 < 1000000 then some (.int (i * j)) else none := rfl
theorem b_fdiv : binD .fdiv (.int i) (.int j) = if 0 < j ∧ j.natAbs.log2 < 9000 then some (.int (i / j)) else none := rfl
theorem b_mod : binD .mod (.int i) (.int j) = if 0 < j then some (.int (i % j)) else none := rfl
theorem b_pow : binD .pow (.int i) (.int j) = if 0 ≤ j ∧ j ≤ 100 ∧ i.natAbs.log2 < 1000 then some (.int (i ^ j.toNat)) else none := rfl
theorem b_and : binD .and (.int i) (.int j) = some (.int (PySem.Builtin.bitAnd i j)) := rfl
theorem k_eq : cmpD .eq x y = if okD x && okD y then some (eqD x y) else none := by cases x <;> cases y <;> rfl
theorem k_ne : cmpD .ne x y = if okD x && okD y then some (!eqD x y) else none := by cases x <;> cases y <;> rfl
theorem k_lt : cmpD .lt (.int i) (.int j) = some (decide (i < j)) := rfl
theorem k_le : cmpD .le (.int i) (.int j) = some (decide (i ≤ j)) := rfl
theorem k_gt : cmpD .gt (.int i) (.int j) = some (decide (i > j)) := rfl
theorem k_ge : cmpD .ge (.int i) (.int j) = some (decide (i ≥ j)) := rfl
theorem k_isn : cmpD .isn x .non = some (isNonD x) := by cases x <;> rfl
theorem k_nis : cmpD .nis x .non = some (!isNonD x) := by cases x <;> rfl
theorem k_in : cmpD .isin x y = inD x y := by cases x <;> cases y <;> rfl
theorem k_nin : cmpD .nin x y = (inD x y).map (!·) := by cases x <;> cases y <;> rfl
theorem in_lst : inD x (.lst ys) = if okD x && ys.all okD then some (memD x ys) else none := rfl
theorem in_tup : inD x (.tup ys) = if okD x && ys.all okD then some (memD x ys) else none := rfl
theorem in_str : inD (.str [c]) (.str y) = some (y.contains c) := rfl
theorem nn_non : isNonD .non = true := rfl
theorem nn_bl : isNonD (.bl i) = false := rfl
theorem nn_int : isNonD (.int i) = false := rfl
theorem nn_str : isNonD (.str i) = false := rfl
theorem nn_tup : isNonD (.tup i) = false := rfl
theorem nn_lst : isNonD (.lst i) = false := rfl
theorem nn_obj : isNonD (.obj i) = false := rfl
theorem eq_str : eqD (.str x) (.str y) = (x == y) := by simp [eqD]
theorem eq_int : eqD (.int x) (.int y) = (x == y) := by simp [eqD]
theorem eq_bl : eqD (.bl x) (.bl y) = (x == y) := by simp [eqD]
theorem eq_tup : eqD (.tup x) (.tup y) = eqDs x y := by simp [eqD]
theorem eq_lst : eqD (.lst x) (.lst y) = eqDs x y := by simp [eqD]
theorem eqs_nil : eqDs x [] = x.isEmpty := by cases x <;> simp [eqDs]
theorem x_lst : idxD (.lst xs) (.int i) = L2.atI xs i := rfl
theorem x_tup : idxD (.tup xs) (.int i) = L2.atI xs i := rfl
theorem x_str : idxD (.str xs) (.int i) = if xs.length ≤ big then (L2.atI xs i).map fun c => .str [c] else none := rfl
theorem sl_lst : sliD (.lst xs) lo hi = some (.lst (cutL xs lo hi)) := rfl
theorem sl_tup : sliD (.tup xs) lo hi = some (.tup (cutL xs lo hi)) := rfl
theorem sl_str : sliD (.str xs) lo hi = if xs.length ≤ big then some (.str (cutL xs lo hi)) else none := rfl
theorem u_lenl : biD .len [.lst xs] = some (.int xs.length) := rfl
theorem u_lent : biD .len [.tup xs] = some (.int xs.length) := rfl
theorem u_lend : biD .len [.dic xs ys] = some (.int xs.length) := rfl
theorem u_lens : biD .len [.str xs] = if xs.length ≤ big then some (.int xs.length) else none := rfl
theorem u_abs : biD .abs [.int i] = some (.int (if i < 0 then -i else i)) := rfl
theorem u_max : biD .max2 [.int i, .int j] = some (.int (if j > i then j else i)) := rfl
theorem u_min : biD .min2 [.int i, .int j] = some (.int (if j < i then j else i)) := rfl
theorem u_int : biD .int1 [.int i] = some (.int i) := rfl
theorem u_all : biD .all [.lst xs] = (boolsD xs).map fun bs => .bl (bs.all id) := rfl
theorem u_any : biD .any [.lst xs] = (boolsD xs).map fun bs => .bl (bs.any id) := rfl
theorem u_tupl : biD .tuple [.lst xs] = some (.tup xs) := rfl
theorem u_tupt : biD .tuple [.tup xs] = some (.tup xs) := rfl
theorem u_lstl : biD .list [.lst xs] = some (.lst xs) := rfl
theorem u_lstt : biD .list [.tup xs] = some (.lst xs) := rfl
theorem bools_map {α : Type} (f : α → Bool) (xs : List α) : boolsD (xs.map fun x => .bl (f x)) = some (xs.map f) := by
  induction xs with
  | nil => rfl
  | cons x xs ih => simp only [List.map_cons, boolsD, ih]; rfl
theorem mapde_cons {s : DS} : List.map (deref s) (x :: r) = deref s x :: List.map (deref s) r := rfl
theorem mapde_nil {s : DS} : List.map (deref s) [] = [] := rfl
theorem esc_ite {s : DS} {p : Prop} {inst : Decidable p} {x y : D} : esc s (if p then x else y) = if p then esc s x else esc s y := by split <;> rfl
theorem lift_ite {α σ : Type} {p : Prop} {inst : Decidable p} {x y : α} {s : σ} : (Res.lift (if p then some x else some y) s) = Res.ok (if p then x else y) s := by split <;> rfl
theorem okD_str (h : WB k w = true) : okD (.str w) = true := okn_str (WC_of h)
theorem okD_lst (xs : List D) : okD (.lst xs) = xs.all (okn 59) := okn_lst xs
theorem okD_tup (xs : List D) : okD (.tup xs) = xs.all (okn 59) := okn_tup xs
theorem okD_int : okD (.int i) = true := okn_int
theorem okD_bl : okD (.bl i) = true := okn_bl
theorem okD_non : okD .non = true := okn_non
theorem okf : okD = okn 60 := rfl
theorem mem_all {α : Type} {p : α → Bool} {xs : List α} (h : xs.all p = true) {x : α} (hx : x ∈ xs) : p x = true := List.all_eq_true.mp h x hx
theorem WB_len (h : WB k w = true) : w.length ≤ k := by simp only [WB, Bool.and_eq_true, decide_eq_true_eq] at h; exact h.1
theorem WB_all (h : WB k w = true) : w.all (fun c => decide (c < 1114112)) = true := by simp only [WB, Bool.and_eq_true] at h; exact h.2
theorem WB_mk (h : w.length ≤ k) (h2 : w.all (fun c => decide (c < 1114112)) = true) : WB k w = true := by simp only [WB, Bool.and_eq_true, decide_eq_true_eq]; exact ⟨h, h2⟩
theorem WB_up (h : WB k w = true) (hk : k ≤ m) : WB m w = true := WB_mk (by have := WB_len h; omega) (WB_all h)
theorem WB_app (h : WB k w = true) (h2 : WB m v = true) (hk : k + m ≤ n) : WB n (w ++ v) = true := WB_mk (by have := WB_len h; have := WB_len h2; simp only [List.length_append]; omega) (by rw [List.all_append, WB_all h, WB_all h2]; rfl)
theorem all_app {α : Type} {p : α → Bool} {xs ys : List α} (h : xs.all p = true) (h2 : ys.all p = true) : (xs ++ ys).all p = true := by rw [List.all_append, h, h2]; rfl
theorem WB_ups {ws : List W} (h : ws.all (WB k) = true) (hk : k ≤ m) : ws.all (WB m) = true := by
  rw [List.all_eq_true] at *; exact fun w hw => WB_up (h w hw) hk
theorem WB_pre {ws : List W} {v : W} (h : ws.all (WB k) = true) (h2 : WB m v = true) (hk : m + k ≤ n) : (ws.map (v ++ ·)).all (WB n) = true := by
  rw [List.all_eq_true] at *
  intro x hx
  obtain ⟨w, hw, rfl⟩ := List.mem_map.mp hx
  exact WB_app h2 (h w hw) hk
theorem triR_ite {Φ : Ev} {r : CHs} {x y : Res Fl DS} {p : Prop} {inst : Decidable p} : triR Φ r (if p then x else y) = if p then triR Φ r x else triR Φ r y := by split <;> rfl
theorem lcL_mem {α : Type} {vs : List Nat} {t : CT} {c : DS → Res Bool DS} {e : DS → Res D DS} {f : α → D} {xs : List α} {s : DS} (o : α → Option D)
    (hw : wipe s.sl vs = s.sl) (h : ∀ x, x ∈ xs → lcT vs t c e (f x) s = .ok (o x) s) :
    lcL vs t c e (xs.map f) s = .ok (xs.filterMap o) s := by
  induction xs with
  | nil => simp only [List.map_nil, List.filterMap_nil, lcL, hw]
  | cons x xs ih =>
    rw [List.map_cons, lcT_step hw (h x (List.mem_cons_self ..)) hw, ih fun y hy => h y (List.mem_cons_of_mem _ hy)]
    cases hp : o x <;> simp [hp]
theorem fm_some {α : Type} {g : α → D} {xs : List α} : xs.filterMap (fun x => some (g x)) = xs.map g := by
  simp [List.filterMap_eq_map']
theorem fm_str {α : Type} {g : α → W} {xs : List α} : xs.filterMap (fun x => some (D.str (g x))) = (xs.map g).map D.str := by
  simp [List.filterMap_eq_map']
theorem fm_ite {α : Type} {p : α → Bool} {g : α → D} {xs : List α} : xs.filterMap (fun x => if p x = true then some (g x) else none) = (xs.filter p).map g := by
  induction xs with
  | nil => rfl
  | cons x xs ih => cases h : p x <;> simp [h, ih]
theorem fm_itestr {α : Type} {p : α → Bool} {g : α → W} {xs : List α} : xs.filterMap (fun x => if p x = true then some (D.str (g x)) else none) = ((xs.filter p).map g).map D.str := by
  rw [fm_ite (g := fun x => D.str (g x)), List.map_map]; rfl
theorem cn_ite {p : Prop} {inst : Decidable p} {α β : Type} {f : α → β} {x y : List α} : (if p then x.map f else y.map f) = (if p then x else y).map f := by split <;> rfl
theorem cn_ite1 {p : Prop} {inst : Decidable p} {α β : Type} {f : α → β} {y : List α} : (if p then [] else y.map f) = (if p then [] else y).map f := by split <;> rfl
theorem cn_ite2 {p : Prop} {inst : Decidable p} {α β : Type} {f : α → β} {x : List α} : (if p then x.map f else []) = (if p then x else []).map f := by split <;> rfl
theorem cn_app {α β : Type} {f : α → β} {x y : List α} : x.map f ++ y.map f = (x ++ y).map f := List.map_append.symm
theorem cn_lst {a : W} {x : List W} : D.lst (.str a :: x.map .str) = .lst ((a :: x).map .str) := rfl
theorem cn_tup {a : W} {x : List W} : D.tup (.str a :: x.map .str) = .tup ((a :: x).map .str) := rfl
theorem cn_lc {vs : List Nat} {t : CT} {c : DS → Res Bool DS} {e : DS → Res D DS} {s : DS} {a : W} {x : List W} : lcL vs t c e (.str a :: x.map .str) s = lcL vs t c e ((a :: x).map .str) s := rfl
theorem consD_app {x : D} {xs ys : List D} : x :: xs ++ ys = x :: (xs ++ ys) := rfl
theorem cl1 {a0 : W} : D.lst [.str a0] = .lst (List.map .str [a0]) := rfl
theorem ct1 {a0 : W} : D.tup [.str a0] = .tup (List.map .str [a0]) := rfl
theorem ca1 {x : List W} {a0 : W} : x.map D.str ++ [.str a0] = (x ++ [a0]).map D.str := by simp
theorem cl2 {a0 a1 : W} : D.lst [.str a0, .str a1] = .lst (List.map .str [a0, a1]) := rfl
theorem ct2 {a0 a1 : W} : D.tup [.str a0, .str a1] = .tup (List.map .str [a0, a1]) := rfl
theorem ca2 {x : List W} {a0 a1 : W} : x.map D.str ++ [.str a0, .str a1] = (x ++ [a0, a1]).map D.str := by simp
theorem cl3 {a0 a1 a2 : W} : D.lst [.str a0, .str a1, .str a2] = .lst (List.map .str [a0, a1, a2]) := rfl
theorem ct3 {a0 a1 a2 : W} : D.tup [.str a0, .str a1, .str a2] = .tup (List.map .str [a0, a1, a2]) := rfl
theorem ca3 {x : List W} {a0 a1 a2 : W} : x.map D.str ++ [.str a0, .str a1, .str a2] = (x ++ [a0, a1, a2]).map D.str := by simp
theorem cl4 {a0 a1 a2 a3 : W} : D.lst [.str a0, .str a1, .str a2, .str a3] = .lst (List.map .str [a0, a1, a2, a3]) := rfl
theorem ct4 {a0 a1 a2 a3 : W} : D.tup [.str a0, .str a1, .str a2, .str a3] = .tup (List.map .str [a0, a1, a2, a3]) := rfl
theorem ca4 {x : List W} {a0 a1 a2 a3 : W} : x.map D.str ++ [.str a0, .str a1, .str a2, .str a3] = (x ++ [a0, a1, a2, a3]).map D.str := by simp
theorem cl5 {a0 a1 a2 a3 a4 : W} : D.lst [.str a0, .str a1, .str a2, .str a3, .str a4] = .lst (List.map .str [a0, a1, a2, a3, a4]) := rfl
theorem ct5 {a0 a1 a2 a3 a4 : W} : D.tup [.str a0, .str a1, .str a2, .str a3, .str a4] = .tup (List.map .str [a0, a1, a2, a3, a4]) := rfl
theorem ca5 {x : List W} {a0 a1 a2 a3 a4 : W} : x.map D.str ++ [.str a0, .str a1, .str a2, .str a3, .str a4] = (x ++ [a0, a1, a2, a3, a4]).map D.str := by simp
theorem cl6 {a0 a1 a2 a3 a4 a5 : W} : D.lst [.str a0, .str a1, .str a2, .str a3, .str a4, .str a5] = .lst (List.map .str [a0, a1, a2, a3, a4, a5]) := rfl
theorem ct6 {a0 a1 a2 a3 a4 a5 : W} : D.tup [.str a0, .str a1, .str a2, .str a3, .str a4, .str a5] = .tup (List.map .str [a0, a1, a2, a3, a4, a5]) := rfl
theorem ca6 {x : List W} {a0 a1 a2 a3 a4 a5 : W} : x.map D.str ++ [.str a0, .str a1, .str a2, .str a3, .str a4, .str a5] = (x ++ [a0, a1, a2, a3, a4, a5]).map D.str := by simp
theorem cl7 {a0 a1 a2 a3 a4 a5 a6 : W} : D.lst [.str a0, .str a1, .str a2, .str a3, .str a4, .str a5, .str a6] = .lst (List.map .str [a0, a1, a2, a3, a4, a5, a6]) := rfl
theorem ca7 {x : List W} {a0 a1 a2 a3 a4 a5 a6 : W} : x.map D.str ++ [.str a0, .str a1, .str a2, .str a3, .str a4, .str a5, .str a6] = (x ++ [a0, a1, a2, a3, a4, a5, a6]).map D.str := by simp
theorem cl8 {a0 a1 a2 a3 a4 a5 a6 a7 : W} : D.lst [.str a0, .str a1, .str a2, .str a3, .str a4, .str a5, .str a6, .str a7] = .lst (List.map .str [a0, a1, a2, a3, a4, a5, a6, a7]) := rfl
theorem ca8 {x : List W} {a0 a1 a2 a3 a4 a5 a6 a7 : W} : x.map D.str ++ [.str a0, .str a1, .str a2, .str a3, .str a4, .str a5, .str a6, .str a7] = (x ++ [a0, a1, a2, a3, a4, a5, a6, a7]).map D.str := by simp
theorem cl9 {a0 a1 a2 a3 a4 a5 a6 a7 a8 : W} : D.lst [.str a0, .str a1, .str a2, .str a3, .str a4, .str a5, .str a6, .str a7, .str a8] = .lst (List.map .str [a0, a1, a2, a3, a4, a5, a6, a7, a8]) := rfl
theorem cl10 {a0 a1 a2 a3 a4 a5 a6 a7 a8 a9 : W} : D.lst [.str a0, .str a1, .str a2, .str a3, .str a4, .str a5, .str a6, .str a7, .str a8, .str a9] = .lst (List.map .str [a0, a1, a2, a3, a4, a5, a6, a7, a8, a9]) := rfl
theorem cl11 {a0 a1 a2 a3 a4 a5 a6 a7 a8 a9 a10 : W} : D.lst [.str a0, .str a1, .str a2, .str a3, .str a4, .str a5, .str a6, .str a7, .str a8, .str a9, .str a10] = .lst (List.map .str [a0, a1, a2, a3, a4, a5, a6, a7, a8, a9, a10]) := rfl
theorem cl12 {a0 a1 a2 a3 a4 a5 a6 a7 a8 a9 a10 a11 : W} : D.lst [.str a0, .str a1, .str a2, .str a3, .str a4, .str a5, .str a6, .str a7, .str a8, .str a9, .str a10, .str a11] = .lst (List.map .str [a0, a1, a2, a3, a4, a5, a6, a7, a8, a9, a10, a11]) := rfl
theorem cl13 {a0 a1 a2 a3 a4 a5 a6 a7 a8 a9 a10 a11 a12 : W} : D.lst [.str a0, .str a1, .str a2, .str a3, .str a4, .str a5, .str a6, .str a7, .str a8, .str a9, .str a10, .str a11, .str a12] = .lst (List.map .str [a0, a1, a2, a3, a4, a5, a6, a7, a8, a9, a10, a11, a12]) := rfl
theorem cl14 {a0 a1 a2 a3 a4 a5 a6 a7 a8 a9 a10 a11 a12 a13 : W} : D.lst [.str a0, .str a1, .str a2, .str a3, .str a4, .str a5, .str a6, .str a7, .str a8, .str a9, .str a10, .str a11, .str a12, .str a13] = .lst (List.map .str [a0, a1, a2, a3, a4, a5, a6, a7, a8, a9, a10, a11, a12, a13]) := rfl
theorem fm_itp {α : Type} {p : α → Prop} {inst : DecidablePred p} {g : α → D} {xs : List α} : xs.filterMap (fun x => if p x then some (g x) else none) = (xs.filter fun x => decide (p x)).map g := by
  induction xs with
  | nil => rfl
  | cons x xs ih => by_cases h : p x <;> simp [h, ih]
theorem mem_zip {α : Type} {xs : List α} {p : α × Nat} (h : p ∈ xs.zipIdx) : xs[p.2]? = some p.1 ∧ p.1 ∈ xs := by
  have := List.mem_zipIdx_iff_getElem?.mp h
  exact ⟨this, List.mem_of_getElem? this⟩

theorem all_take {α : Type} {p : α → Bool} {xs : List α} {k : Nat} (h : xs.all p = true) : (xs.take k).all p = true := by
  rw [List.all_eq_true] at *; exact fun x hx => h x (List.mem_of_mem_take hx)
theorem all_drop {α : Type} {p : α → Bool} {xs : List α} {k : Nat} (h : xs.all p = true) : (xs.drop k).all p = true := by
  rw [List.all_eq_true] at *; exact fun x hx => h x (List.mem_of_mem_drop hx)
theorem WB_take {w : W} (h : WB m w = true) : WB m (w.take k) = true := WB_mk (by have := WB_len h; simp only [List.length_take]; omega) (all_take (WB_all h))

theorem all_filter {α : Type} {p q : α → Bool} {xs : List α} (h : xs.all p = true) : (xs.filter q).all p = true := by
  rw [List.all_eq_true] at *; exact fun x hx => h x (List.mem_filter.mp hx).1
theorem all_cons' {α : Type} {p : α → Bool} {x : α} {xs : List α} (h : p x = true) (h2 : xs.all p = true) : (x :: xs).all p = true := by rw [List.all_cons, h, h2]; rfl
theorem all_map' {α β : Type} {p : β → Bool} {f : α → β} {xs : List α} (h : ∀ x ∈ xs, p (f x) = true) : (xs.map f).all p = true := by
  rw [List.all_map, List.all_eq_true]; exact h
theorem sing_app {a : W} {x : List W} : [a] ++ x = a :: x := rfl
theorem all_get {α : Type} {p : α → Bool} {xs : List α} {k : Nat} {x : α} (h : xs.all p = true) (hx : xs[k]? = some x) : p x = true := mem_all h (List.mem_of_getElem? hx)
theorem okn_ints {α : Type} {xs : List α} {g : α → Int} : (xs.map fun p => D.int (g p)).all (okn n) = true := by
  rw [List.all_map, List.all_eq_true]; exact fun x _ => okn_int
theorem okn_bls {α : Type} {xs : List α} {g : α → Bool} : (xs.map fun p => D.bl (g p)).all (okn n) = true := by
  rw [List.all_map, List.all_eq_true]; exact fun x _ => okn_bl
theorem wipe_is {sl r : List Sl} {vs : List Nat} (h : wipe sl vs = r) : wipe sl vs = r := h
theorem lc_auto {α : Type} {vs : List Nat} {t : CT} {c : DS → Res Bool DS} {e : DS → Res D DS} {f : α → D} {xs : List α} {s : DS} {o : α → Option D}
    (hw : wipe s.sl vs = s.sl) (h : ∀ x, x ∈ xs → lcT vs t c e (f x) s = .ok (o x) s) : lcL vs t c e (xs.map f) s = .ok (xs.filterMap o) s := lcL_mem o hw h
end DM
end

section
set_option Elab.async false
set_option linter.all false
set_option autoImplicit true
/-! Dl43: places, pieces, loops that end early. -/
namespace DM
open DL
theorem at_map {α β : Type} {f : α → β} {xs : List α} {i : Int} : L2.atI (xs.map f) i = (L2.atI xs i).map f := by
  unfold L2.atI
  rw [List.length_map]
  cases L2.ixN xs.length i <;> simp
theorem at_nat {α : Type} {xs : List α} {k : Nat} : L2.atI xs (k : Int) = xs[k]? := by
  by_cases h : k < xs.length
  · rw [L2.atI_nat (List.getElem?_eq_getElem h), List.getElem?_eq_getElem h]
  · rw [List.getElem?_eq_none (by omega)]
    unfold L2.atI L2.ixN
    rw [if_pos (by omega), if_neg (by omega)]; rfl
theorem at_0 {α : Type} {a : α} {xs : List α} : L2.atI (a :: xs) 0 = some a := at_nat (k := 0)
theorem at_1 {α : Type} {a b : α} {xs : List α} : L2.atI (a :: b :: xs) 1 = some b := at_nat (k := 1)
theorem at_2 {α : Type} {a b c : α} {xs : List α} : L2.atI (a :: b :: c :: xs) 2 = some c := at_nat (k := 2)
theorem at_3 {α : Type} {a b c d : α} {xs : List α} : L2.atI (a :: b :: c :: d :: xs) 3 = some d := at_nat (k := 3)
theorem at_4 {α : Type} {a b c d e : α} {xs : List α} : L2.atI (a :: b :: c :: d :: e :: xs) 4 = some e := at_nat (k := 4)
theorem cut_map {α β : Type} {f : α → β} {xs : List α} {lo hi : Option Int} : cutL (xs.map f) lo hi = (cutL xs lo hi).map f := by
  unfold cutL; rw [List.length_map, List.map_take, List.map_drop]
theorem cut_take {α : Type} {xs : List α} {k : Nat} : cutL xs none (some (k : Int)) = xs.take k := by
  unfold cutL
  rw [HT.sIx_nat, HT.sIx_none, List.drop_zero, Nat.sub_zero]
  by_cases h : k ≤ xs.length
  · rw [Nat.min_eq_left h]
  · rw [Nat.min_eq_right (by omega), List.take_of_length_le (by omega), List.take_of_length_le (by omega)]
theorem cut_drop {α : Type} {xs : List α} {k : Nat} : cutL xs (some (k : Int)) none = xs.drop k := by
  unfold cutL
  rw [HT.sIx_nat, HT.sIx_none]
  by_cases h : k ≤ xs.length
  · rw [Nat.min_eq_left h, List.take_of_length_le (by simp)]
  · rw [Nat.min_eq_right (by omega), List.drop_of_length_le (Nat.le_refl _), List.drop_of_length_le (by omega), List.take_nil]
theorem cut_take1 {α : Type} {xs : List α} : cutL xs none (some 1) = xs.take 1 := cut_take (k := 1)
theorem cut_take10 {α : Type} {xs : List α} : cutL xs none (some 10) = xs.take 10 := cut_take (k := 10)
theorem cut_take11 {α : Type} {xs : List α} : cutL xs none (some 11) = xs.take 11 := cut_take (k := 11)
theorem cut_drop1 {α : Type} {xs : List α} : cutL xs (some 1) none = xs.drop 1 := cut_drop (k := 1)
theorem take_map {α β : Type} {f : α → β} {xs : List α} {k : Nat} : (xs.map f).take k = (xs.take k).map f := by rw [List.map_take]
theorem drop_map {α β : Type} {f : α → β} {xs : List α} {k : Nat} : (xs.map f).drop k = (xs.drop k).map f := by rw [List.map_drop]
/-- the end of a turn -/
def stopR {β : Type} (out : β → DS → Res Fl DS) : Option β → DS → Res Fl DS
  | none, s => .ok .nx s
  | some v, s => out v s
/-- v, if c -/
def onB {β : Type} (c : Bool) (v : β) : Option β := match c with
  | true => some v
  | false => none
theorem stop_ite {β : Type} {out : β → DS → Res Fl DS} {c : Bool} {v : β} {s : DS} : stopR out (onB c v) s = if c = true then out v s else .ok .nx s := by cases c <;> rfl
theorem onB_some {β : Type} {c : Bool} {v w : β} : onB c v = some w ↔ c = true ∧ v = w := by cases c <;> simp [onB]
theorem onB_none {β : Type} {c : Bool} {v : β} : onB c v = none ↔ c = false := by cases c <;> simp [onB]
theorem forL_stop {α β : Type} {t : CT} {b : DS → Res Fl DS} {f : α → D} {stop : α → Option β} {out : β → DS → Res Fl DS} (hout : ∀ b s, Stop (out b s)) {P : DS → Prop} {xs : List α}
    (h : ∀ x ∈ xs, ∀ s, P s → ∃ s2, forT t b (f x) s = stopR out (stop x) s2 ∧ P s2) {s : DS} (hs : P s) :
    ∃ s2, forL t b (xs.map f) s = stopR out (xs.findSome? stop) s2 ∧ P s2 := by
  have := forL_first (f := f) stop out hout P (t := t) (b := b) (xs := xs) (fun x hx s hs => by
    obtain ⟨s2, e, h2⟩ := h x hx s hs
    cases hst : stop x <;> rw [hst] at e <;> exact ⟨s2, e, h2⟩) s hs
  revert this
  cases xs.findSome? stop <;> exact fun h => h
theorem for_go {α β : Type} {Φ : Ev} {r : CSs} {t : CT} {b : DS → Res Fl DS} {f : α → D} {xs : List α} {s : DS} {R : Res D (List MO)} {stop : α → Option β} {out : β → DS → Res Fl DS} {P : DS → Prop}
    (hout : ∀ b s, Stop (out b s)) (hs : P s) (h : ∀ x ∈ xs, ∀ s, P s → ∃ s2, forT t b (f x) s = stopR out (stop x) s2 ∧ P s2)
    (hn : ∀ s2, P s2 → xs.findSome? stop = none → fnR (exSs Φ r s2) = R)
    (hr : ∀ s2 v, P s2 → xs.findSome? stop = some v → fnR (out v s2) = R) : fnR (seqR Φ r (forL t b (xs.map f) s)) = R := by
  obtain ⟨s2, e, h2⟩ := forL_stop hout h hs
  rw [e]
  cases hst : xs.findSome? stop with
  | none => exact hn s2 h2 hst
  | some v =>
    have := hr s2 v h2 hst
    simp only [stopR]
    have ho := hout v s2
    revert this
    generalize out v s2 = X at ho
    cases ho <;> exact fun h => h
/-- the texts, each one once, in order -/
def ded : List W → List W → List W
  | acc, [] => acc
  | acc, w :: ws => ded (if acc.contains w then acc else acc ++ [w]) ws
theorem ded_len (ws : List W) : ∀ acc : List W, acc.Nodup → (ded acc ws).length ≤ acc.length + ws.length ∧ ((ded acc ws).length = acc.length + ws.length ↔ (acc ++ ws).Nodup) := by
  induction ws with
  | nil => intro acc h; simp [ded, h]
  | cons w ws ih =>
    intro acc h
    simp only [ded]
    by_cases hc : acc.contains w = true
    · rw [if_pos hc]
      obtain ⟨h1, h2⟩ := ih acc h
      refine ⟨by simp only [List.length_cons]; omega, ⟨fun e => by simp only [List.length_cons] at e; omega, fun hn => ?_⟩⟩
      rw [List.nodup_append] at hn
      exact absurd rfl (hn.2.2 w (by simpa using hc) w (List.mem_cons_self ..))
    · rw [if_neg hc]
      have hw : w ∉ acc := by simpa using hc
      have hn : (acc ++ [w]).Nodup := by
        rw [List.nodup_append]
        refine ⟨h, by simp, ?_⟩
        intro a ha b hb e
        rw [List.mem_singleton] at hb
        subst hb; subst e; exact hw ha
      obtain ⟨h1, h2⟩ := ih (acc ++ [w]) hn
      rw [List.length_append, List.length_singleton] at h1 h2
      refine ⟨by simp only [List.length_cons]; omega, ?_⟩
      rw [List.append_assoc, List.singleton_append] at h2
      rw [← h2, List.length_cons]; omega
theorem isKey_str : isKey (.str w) = true := rfl
theorem putD_len {k v : D} {ks vs : List D} : (putD k v ks vs).1 = if memD k ks then ks else ks ++ [k] := by
  unfold putD; split <;> simp [*]
theorem dc_ded {Φ : Ev} {a : Sl} {st : List MO} (ws : List W) : ∀ (acc : List W) (vs : List D) (u : Sl), ∃ vs2,
    dcL [1] (.nm 1) (evE Φ (.var 1)) (evE Φ (.lit (.bl true))) (ws.map .str) (acc.map .str) vs ⟨[a, u], st⟩ = .ok (.dic ((ded acc ws).map .str) vs2) ⟨[a, .none], st⟩ := by
  induction ws with
  | nil => intro acc vs u; exact ⟨vs, rfl⟩
  | cons w ws ih =>
    intro acc vs u
    have hk : (putD (.str w) (.bl true) (acc.map .str) vs).1 = (if acc.contains w then acc else acc ++ [w]).map .str := by
      rw [putD_len, memD_strs]
      split <;> simp
    obtain ⟨vs2, e⟩ := ih (if acc.contains w then acc else acc ++ [w]) (putD (.str w) (.bl true) (acc.map .str) vs).2 (.val (.str w))
    refine ⟨vs2, ?_⟩
    simp only [ded]
    rw [← e, ← hk]
    rfl

theorem cut_dropS {α : Type} {xs : List α} {k : Nat} : cutL xs (some ((k : Int) + 1)) none = xs.drop (k + 1) := cut_drop (k := k + 1)
theorem rev_map {α β : Type} {f : α → β} {xs : List α} : (xs.map f).reverse = xs.reverse.map f := by rw [List.map_reverse]
end DM
end

section
set_option Elab.async false
set_option linter.all false
set_option autoImplicit true
/-! Dl44: loops and comprehensions that change the store. -/
namespace DM
open DL
theorem loop_inv {α : Type} {t : CT} {b : DS → Res Fl DS} {f : α → D} {xs : List α} {s : DS} {X : Res Fl DS} (hX : forL t b (xs.map f) s = X) (P : List α → DS → Prop) (hs : P xs s)
    (h : ∀ x r s, x ∈ xs → P (x :: r) s → ∃ s2, forT t b (f x) s = .ok .nx s2 ∧ P r s2) : ∃ s2, X = .ok .nx s2 ∧ P [] s2 := by
  obtain ⟨s2, e, h2⟩ := forL_inv P h s hs
  exact ⟨s2, hX.symm.trans e, h2⟩
theorem lc_rel {α : Type} {vs : List Nat} {t : CT} {c : DS → Res Bool DS} {e : DS → Res D DS} {f : α → D} {xs : List α} {s : DS} {X : Res (List D) DS} (hX : lcL vs t c e (xs.map f) s = X) (P : List D → Nat → DS → Prop)
    (hs : P [] xs.length s) (hw : ∀ a n s, P a n s → wipe s.sl vs = s.sl) (h : ∀ x ∈ xs, ∀ a n s, P a (n + 1) s → ∃ v s', lcT vs t c e (f x) s = .ok (some v) s' ∧ P (a ++ [v]) n s') :
    ∃ ws s', X = .ok ws s' ∧ P ws 0 s' := by
  obtain ⟨ws, s', e, h2⟩ := lcL_rel P hw h [] s hs
  exact ⟨ws, s', hX.symm.trans e, h2⟩
theorem lcL_rel2 {α : Type} {vs : List Nat} {t : CT} {c : DS → Res Bool DS} {e : DS → Res D DS} {f : α → D} (P : List D → List α → DS → Prop) {xs : List α}
    (hw : ∀ a r s, P a r s → wipe s.sl vs = s.sl) (h : ∀ x r a s, P a (x :: r) s → ∃ v s', lcT vs t c e (f x) s = .ok (some v) s' ∧ P (a ++ [v]) r s') :
    ∀ a s, P a xs s → ∃ ws s', lcL vs t c e (xs.map f) s = .ok ws s' ∧ P (a ++ ws) [] s' := by
  induction xs with
  | nil => intro a s hp; exact ⟨[], s, by simp only [List.map_nil, lcL, hw _ _ _ hp], by simpa using hp⟩
  | cons x xs ih =>
    intro a s hp
    obtain ⟨v, s1, e1, h1⟩ := h x xs a s hp
    obtain ⟨ws, s2, e2, h2⟩ := ih _ _ h1
    refine ⟨v :: ws, s2, ?_, by simpa using h2⟩
    rw [List.map_cons, lcT_step (hw _ _ _ hp) e1 (hw _ _ _ h1), e2]
    rfl
theorem lc_use2 {α : Type} {G : Prop} {vs : List Nat} {t : CT} {c : DS → Res Bool DS} {e : DS → Res D DS} {f : α → D} {xs : List α} {s : DS} {X : Res (List D) DS} (hX : lcL vs t c e (xs.map f) s = X) (P : List D → List α → DS → Prop)
    (hs : P [] xs s) (hw : ∀ a r s, P a r s → wipe s.sl vs = s.sl) (h : ∀ x r a s, P a (x :: r) s → ∃ v s', lcT vs t c e (f x) s = .ok (some v) s' ∧ P (a ++ [v]) r s')
    (k : ∀ ws s', X = .ok ws s' → P ws [] s' → G) : G := by
  obtain ⟨ws, s', e, h2⟩ := lcL_rel2 P hw h [] s hs
  exact k ws s' (hX.symm.trans e) h2
/-- the r-th -/
def gt {α : Type} [Inhabited α] (xs : List α) (r : Nat) : α := xs.getD r default
theorem gt_of {α : Type} [Inhabited α] {xs : List α} {r : Nat} (h : r < xs.length) : xs[r]? = some (gt xs r) := by
  unfold gt; rw [List.getD_eq_getElem?_getD, List.getElem?_eq_getElem h]; rfl
theorem gt_mem {α : Type} [Inhabited α] {xs : List α} {r : Nat} (h : r < xs.length) : gt xs r ∈ xs := List.mem_of_getElem? (gt_of h)
theorem gt_all {α : Type} [Inhabited α] {xs : List α} {r : Nat} {p : α → Bool} (h : xs.all p = true) (hr : r < xs.length) : p (gt xs r) = true := mem_all h (gt_mem hr)
theorem me_join {y : List Nat} {xs : List D} : meD .join y (.lst xs) = (strsD xs).bind fun zs => if joinOk y zs then some (.str (joinS y zs)) else none := rfl
theorem strs_map {ws : List W} : strsD (ws.map .str) = some ws := by
  induction ws with
  | nil => rfl
  | cons w ws ih => simp only [List.map_cons, strsD, ih]; rfl
theorem joinL_nil {zs : List W} : TL.joinL [] zs = zs.flatten := by
  induction zs with
  | nil => rfl
  | cons p r ih => cases r with
    | nil => simp [TL.joinL]
    | cons q r => simp only [TL.joinL, List.nil_append, ih, List.flatten_cons]
theorem join_fl {zs : List W} : joinS [] zs = zs.flatten := by
  unfold joinS
  have e : PySem.Txt.join (sv []) (zs.map sv) = SX.S (TL.joinL [] zs) := SX.join_S [] zs
  rw [e, joinL_nil]
theorem loop_use {α : Type} {G : Prop} {t : CT} {b : DS → Res Fl DS} {f : α → D} {xs : List α} {s : DS} {X : Res Fl DS} (hX : forL t b (xs.map f) s = X) (P : List α → DS → Prop) (hs : P xs s)
    (h : ∀ x r s, x ∈ xs → P (x :: r) s → ∃ s2, forT t b (f x) s = .ok .nx s2 ∧ P r s2) (k : ∀ s2, X = .ok .nx s2 → P [] s2 → G) : G := by
  obtain ⟨s2, e, h2⟩ := loop_inv hX P hs h
  exact k s2 e h2
theorem lc_use {α : Type} {G : Prop} {vs : List Nat} {t : CT} {c : DS → Res Bool DS} {e : DS → Res D DS} {f : α → D} {xs : List α} {s : DS} {X : Res (List D) DS} (hX : lcL vs t c e (xs.map f) s = X) (P : List D → Nat → DS → Prop)
    (hs : P [] xs.length s) (hw : ∀ a n s, P a n s → wipe s.sl vs = s.sl) (h : ∀ x ∈ xs, ∀ a n s, P a (n + 1) s → ∃ v s', lcT vs t c e (f x) s = .ok (some v) s' ∧ P (a ++ [v]) n s')
    (k : ∀ ws s', X = .ok ws s' → P ws 0 s' → G) : G := by
  obtain ⟨ws, s', e, h2⟩ := lc_rel hX P hs hw h
  exact k ws s' e h2
/-- a stop between two statements -/
theorem seq_mid {Φ : Ev} {r : CSs} {X : Res Fl DS} {G : DS → Prop} (M : DS → Prop) (h1 : ∃ s, X = .ok .nx s ∧ M s) (h2 : ∀ s, M s → ∃ s2, exSs Φ r s = .ok .nx s2 ∧ G s2) : ∃ s2, seqR Φ r X = .ok .nx s2 ∧ G s2 := by
  obtain ⟨s, e, hm⟩ := h1
  obtain ⟨s2, e2, hg⟩ := h2 s hm
  exact ⟨s2, by rw [e]; exact e2, hg⟩
theorem mid_use {Φ : Ev} {r : CSs} {X Y : Res Fl DS} {G : Prop} (hX : seqR Φ r Y = X) (M : DS → Prop) (h1 : ∃ s, Y = .ok .nx s ∧ M s) (h2 : ∀ s, exSs Φ r s = X → M s → G) : G := by
  obtain ⟨s, e, hm⟩ := h1
  rw [e] at hX
  exact h2 s hX hm
theorem at_last1 {α : Type} {xs : List α} {v : α} : L2.atI (xs ++ [v]) (-1) = some v := L2.atI_last xs v
theorem rng_26 : rngD 0 26 = (List.range 26).map fun k => .int (k : Int) := rngD_nat 26
theorem rng_12 : rngD 0 12 = (List.range 12).map fun k => .int (k : Int) := rngD_nat 12
theorem rng_4 : rngD 0 4 = (List.range 4).map fun k => .int (k : Int) := rngD_nat 4
theorem neg_one : -(1 : Int) = -1 := rfl
theorem fl_chr {cs : W} : (cs.map fun c => [c]).flatten = cs := by
  induction cs with
  | nil => rfl
  | cons c cs ih => simp [ih]
end DM
end

section
set_option Elab.async false
set_option linter.all false
set_option autoImplicit false
set_option maxRecDepth 100000
set_option maxHeartbeats 0
namespace DL
open PySem L2
def top (i : Nat) : Stmt := PySem.Challenge.pw_onehold_k01_books_checked.main.body.getD i (.Pass ⟨0, 0, 0, 0⟩)
abbrev z_abcdefghijklmnopqrstuvwxyz : List Nat := [97, 98, 99, 100, 101, 102, 103, 104, 105, 106, 107, 108, 109, 110, 111, 112, 113, 114, 115, 116, 117, 118, 119, 120, 121, 122]
abbrev z_others_ : List Nat := [111, 116, 104, 101, 114, 115, 32]
abbrev z_my_ : List Nat := [109, 121, 32]
abbrev z_free : List Nat := [102, 114, 101, 101]
abbrev z_running : List Nat := [114, 117, 110, 110, 105, 110, 103]
abbrev z_over : List Nat := [111, 118, 101, 114]
abbrev z_unpaid : List Nat := [117, 110, 112, 97, 105, 100]
abbrev z_paid : List Nat := [112, 97, 105, 100]
abbrev z_mine : List Nat := [109, 105, 110, 101]
abbrev z_other : List Nat := [111, 116, 104, 101, 114]
abbrev z_same : List Nat := [115, 97, 109, 101]
abbrev z_still : List Nat := [115, 116, 105, 108, 108]
abbrev z_not_ : List Nat := [110, 111, 116, 32]
abbrev z_at_ : List Nat := [97, 116, 32]
abbrev z_time : List Nat := [116, 105, 109, 101]
abbrev z_move_ : List Nat := [109, 111, 118, 101, 32]
abbrev z_ : List Nat := []
abbrev z_take_ : List Nat := [116, 97, 107, 101, 32]
abbrev z_keep : List Nat := [107, 101, 101, 112]
abbrev z_new : List Nat := [110, 101, 119]
abbrev z_refund : List Nat := [114, 101, 102, 117, 110, 100]
abbrev z_marks : List Nat := [109, 97, 114, 107, 115]
abbrev z_deed : List Nat := [100, 101, 101, 100]
abbrev z_looks : List Nat := [108, 111, 111, 107, 115]
abbrev z_shown : List Nat := [115, 104, 111, 119, 110]
abbrev z_name : List Nat := [110, 97, 109, 101]
abbrev z_timed : List Nat := [116, 105, 109, 101, 100]
abbrev z__ : List Nat := [32]
abbrev z_sold : List Nat := [115, 111, 108, 100]
abbrev z_states_3a_ : List Nat := [115, 116, 97, 116, 101, 115, 58, 32]
abbrev z__2c_ : List Nat := [44, 32]
abbrev z___21 : List Nat := [32, 33]
abbrev z___3f : List Nat := [32, 63]
abbrev z__3a : List Nat := [58]
abbrev z__a : List Nat := [10]
abbrev z_held : List Nat := [104, 101, 108, 100]
abbrev z_at_held : List Nat := [97, 116, 32, 104, 101, 108, 100]
abbrev z_lapse : List Nat := [108, 97, 112, 115, 101]
abbrev z_my_sold : List Nat := [109, 121, 32, 115, 111, 108, 100]
abbrev z_my_held : List Nat := [109, 121, 32, 104, 101, 108, 100]
abbrev z_letgo : List Nat := [108, 101, 116, 103, 111]
abbrev z_longer : List Nat := [108, 111, 110, 103, 101, 114]
abbrev z_take_held : List Nat := [116, 97, 107, 101, 32, 104, 101, 108, 100]
abbrev z_others_held : List Nat := [111, 116, 104, 101, 114, 115, 32, 104, 101, 108, 100]
abbrev z_again : List Nat := [97, 103, 97, 105, 110]
abbrev z_take_sold : List Nat := [116, 97, 107, 101, 32, 115, 111, 108, 100]
abbrev z_pay : List Nat := [112, 97, 121]
abbrev z_at_free : List Nat := [97, 116, 32, 102, 114, 101, 101]
abbrev z_hold : List Nat := [104, 111, 108, 100]
abbrev z_row : List Nat := [114, 111, 119]
abbrev z_states : List Nat := [115, 116, 97, 116, 101, 115]
abbrev z_a : List Nat := [97]
abbrev z__21_22_23_24_26_27_28_29_2a__65324 : List Nat := [33, 34, 35, 36, 38, 39, 40, 41, 42, 43, 44, 45, 46, 47, 48, 49, 50, 51, 52, 53, 54, 55, 56, 58, 59, 60, 61, 62, 63, 64, 65, 66, 67, 88, 89, 90, 91, 93, 94, 95, 123, 125]
abbrev z_b : List Nat := [98]
abbrev z__free : List Nat := [32, 102, 114, 101, 101]
abbrev z_paid_2c : List Nat := [112, 97, 105, 100, 44]
abbrev z_take_held_held : List Nat := [116, 97, 107, 101, 32, 104, 101, 108, 100, 32, 104, 101, 108, 100]
abbrev z_at_held_held : List Nat := [97, 116, 32, 104, 101, 108, 100, 32, 104, 101, 108, 100]
abbrev z_my_held_held : List Nat := [109, 121, 32, 104, 101, 108, 100, 32, 104, 101, 108, 100]
abbrev z__60a : List Nat := [96, 97]
abbrev z_on_7c : List Nat := [111, 110, 124]
abbrev z_a_7bb : List Nat := [97, 123, 98]
abbrev z_x_7e : List Nat := [120, 126]
abbrev z_let_5fgo : List Nat := [108, 101, 116, 95, 103, 111]
abbrev z_take_free : List Nat := [116, 97, 107, 101, 32, 102, 114, 101, 101]
abbrev z_move_free : List Nat := [109, 111, 118, 101, 32, 102, 114, 101, 101]
abbrev z_others_free : List Nat := [111, 116, 104, 101, 114, 115, 32, 102, 114, 101, 101]
abbrev z_my_free : List Nat := [109, 121, 32, 102, 114, 101, 101]
abbrev z_my : List Nat := [109, 121]
abbrev z_at : List Nat := [97, 116]
abbrev z_abcdefghijklm : List Nat := [97, 98, 99, 100, 101, 102, 103, 104, 105, 106, 107, 108, 109]
abbrev z_a1 : List Nat := [97, 49]
abbrev z_aB : List Nat := [97, 66]
abbrev z_a_b : List Nat := [97, 32, 98]
abbrev z_odd : List Nat := [111, 100, 100]
abbrev z_fine : List Nat := [102, 105, 110, 101]
abbrev z_none : List Nat := [110, 111, 110, 101]
def Tfree : List PySem.Str := (["len", "abs", "max", "min", "all", "any", "int", "tuple", "list", "isinstance", "range", "enumerate", "bool", "str"] : List PySem.Str)
def Tcon : List (PySem.Str × D) := ([("FREE", (.str z_free)), ("TIMED", (.str z_timed)), ("SOLD", (.str z_sold)), ("TAKE", (.str z_take_)), ("MOVE", (.str z_move_)), ("TIME", (.str z_time)), ("NEW", (.str z_new)), ("REFUND", (.str z_refund))] : List (PySem.Str × D)) ++ ([("KEEP", (.str z_keep)), ("MARKS", (.tup [(.str z_new), (.str z_refund), (.str z_keep)])), ("MY", (.str z_my_)), ("OTHERS", (.str z_others_)), ("LETTERS", (.str z_abcdefghijklmnopqrstuvwxyz)), ("LONGEST", (.int 12)), ("SENDER_LOOKS", (.tup [(.str z_mine), (.str z_other), (.str z_same), (.str z_still)])), ("SEAT_LOOKS", (.tup [(.str z_running), (.str z_over), (.str z_unpaid), (.str z_paid)]))] : List (PySem.Str × D)) ++ ([("HEAD", (.str z_states_3a_))] : List (PySem.Str × D))
def Tdfs : List PySem.Str := (["is_word", "words_of", "view_words", "looks_of", "deeds_of", "is_each_once", "wrong_state", "are_marks", "wrong_part", "check_rows", "check_book", "looks_for", "state_text", "states_text", "listed", "row_text", "book_text", "show_book", "_law_vault", "_law_heave"] : List PySem.Str) ++ (["_law_agree", "_law_call_words", "_law_drawn_states", "_law_all_looks", "_law_all_views", "_law_some", "_law_drawn_row", "_law_drawn_book", "_law_shop_book", "_law_is_term", "_law_once", "_law_first_part", "_law_fault", "_law_bent_book", "_law_told", "law", "looks_of", "looks_for"] : List PySem.Str)
def T : Tab := ⟨Tfree, Tcon, Tdfs, [(1, "InvalidStates", 1), (2, "InvalidRow", 2)], [(1, ["index"]), (2, ["index", "part"])], [("check_book", 0, ["book"], [0], 10), ("show_book", 0, ["book"], [0], 17), ("looks_for", 0, ["book"], [0], 11)], [(0, "HoldError"), (1, "InvalidStates"), (2, "InvalidRow"), (3, "ValueError")]⟩
def nm_is_word : List PySem.Str := ["text", "letter"]
def ps_is_word : List PySem.Str := ["text"]
def cs_is_word : CSs := (.cons (.ret (.and (.cons (.chn .lt .le (.lit (.int 0)) (.bi .len (.cons (.var 0) .nil)) (.glo [76, 79, 78, 71, 69, 83, 84] (.int 12))) (.cons (.bi .all (.cons (.lc [1] (.nm 1) (.seq (.var 0)) .none (.cmp .isin (.var 1) (.glo [76, 69, 84, 84, 69, 82, 83] (.str z_abcdefghijklmnopqrstuvwxyz)))) .nil)) .nil))))
  .nil)
abbrev df_is_word : Dfn := ⟨"is_word", defArgs (top 22), defBody (top 22), defScope (top 22), nm_is_word, ps_is_word, cs_is_word⟩
def nm_words_of : List PySem.Str := ["states", "word", "timed", "sold"]
def ps_words_of : List PySem.Str := ["states"]
def cs_words_of : CSs := (.cons (.ret (.bi .tuple (.cons (.lc [1, 2, 3] (.tp [(.nm 1), (.nm 2), (.nm 3)]) (.seq (.var 0)) .none (.var 1)) .nil)))
  .nil)
abbrev df_words_of : Dfn := ⟨"words_of", defArgs (top 23), defBody (top 23), defScope (top 23), nm_words_of, ps_words_of, cs_words_of⟩
def nm_view_words : List PySem.Str := ["states", "words", "word"]
def ps_view_words : List PySem.Str := ["states"]
def cs_view_words : CSs := (.cons (.asg (.nm 1) (.call 1 (.cons false (.var 0) .nil)))
  (.cons (.ret (.lst (.cons false (.glo [70, 82, 69, 69] (.str z_free)) (.cons true (.lc [2] (.nm 2) (.seq (.var 1)) .none (.bin .add (.glo [77, 89] (.str z_my_)) (.var 2))) (.cons true (.lc [2] (.nm 2) (.seq (.var 1)) .none (.bin .add (.glo [79, 84, 72, 69, 82, 83] (.str z_others_)) (.var 2))) .nil)))))
  .nil))
abbrev df_view_words : Dfn := ⟨"view_words", defArgs (top 24), defBody (top 24), defScope (top 24), nm_view_words, ps_view_words, cs_view_words⟩
def nm_looks_of : List PySem.Str := ["states", "words", "at", "word"]
def ps_looks_of : List PySem.Str := ["states"]
def cs_looks_of : CSs := (.cons (.asg (.nm 1) (.tup (.cons false (.glo [70, 82, 69, 69] (.str z_free)) (.cons true (.call 1 (.cons false (.var 0) .nil)) .nil))))
  (.cons (.asg (.nm 2) (.lc [3] (.nm 3) (.seq (.var 1)) .none (.bin .add (.lit (.str z_at_)) (.var 3))))
  (.cons (.ret (.lst (.cons true (.var 2) (.cons true (.lc [3] (.nm 3) (.seq (.var 1)) .none (.bin .add (.lit (.str z_not_)) (.var 3))) (.cons true (.glo [83, 69, 78, 68, 69, 82, 95, 76, 79, 79, 75, 83] (.tup [(.str z_mine), (.str z_other), (.str z_same), (.str z_still)])) (.cons true (.glo [83, 69, 65, 84, 95, 76, 79, 79, 75, 83] (.tup [(.str z_running), (.str z_over), (.str z_unpaid), (.str z_paid)])) .nil))))))
  .nil)))
abbrev df_looks_of : Dfn := ⟨"looks_of", defArgs (top 25), defBody (top 25), defScope (top 25), nm_looks_of, ps_looks_of, cs_looks_of⟩
def nm_deeds_of : List PySem.Str := ["states", "is_sweep", "words", "takes", "word"]
def ps_deeds_of : List PySem.Str := ["states", "is_sweep"]
def cs_deeds_of : CSs := (.cons (.asg (.nm 2) (.call 1 (.cons false (.var 0) .nil)))
  (.cons (.asg (.nm 3) (.ite (.var 1) (.lst .nil) (.lc [4] (.nm 4) (.seq (.var 2)) .none (.bin .add (.glo [84, 65, 75, 69] (.str z_take_)) (.var 4)))))
  (.cons (.ret (.lst (.cons false (.lit (.str z_)) (.cons true (.var 3) (.cons true (.lc [4] (.nm 4) (.seq (.var 2)) .none (.bin .add (.glo [77, 79, 86, 69] (.str z_move_)) (.var 4))) (.cons false (.glo [70, 82, 69, 69] (.str z_free)) (.cons false (.glo [84, 73, 77, 69] (.str z_time)) .nil)))))))
  .nil)))
abbrev df_deeds_of : Dfn := ⟨"deeds_of", defArgs (top 26), defBody (top 26), defScope (top 26), nm_deeds_of, ps_deeds_of, cs_deeds_of⟩
def nm_is_each_once : List PySem.Str := ["values", "value"]
def ps_is_each_once : List PySem.Str := ["values"]
def cs_is_each_once : CSs := (.cons (.ret (.cmp .eq (.bi .len (.cons (.dc [1] (.nm 1) (.seq (.var 0)) (.var 1) (.lit (.bl true))) .nil)) (.bi .len (.cons (.var 0) .nil))))
  .nil)
abbrev df_is_each_once : Dfn := ⟨"is_each_once", defArgs (top 27), defBody (top 27), defScope (top 27), nm_is_each_once, ps_is_each_once, cs_is_each_once⟩
def nm_wrong_state : List PySem.Str := ["states", "index", "word", "timed", "sold"]
def ps_wrong_state : List PySem.Str := ["states"]
def cs_wrong_state : CSs := (.cons (.for_ (.tp [(.nm 1), (.tp [(.nm 2), (.nm 3), (.nm 4)])]) (.enum (.var 0)) (.cons (.ife (.or (.cons (.nt (.call 0 (.cons false (.var 2) .nil))) (.cons (.cmp .eq (.var 2) (.glo [70, 82, 69, 69] (.str z_free))) (.cons (.and (.cons (.var 3) (.cons (.var 4) .nil))) (.cons (.cmp .isin (.var 2) (.call 1 (.cons false (.sli (.var 0) .none (.some (.var 1))) .nil))) .nil))))) (.cons (.ret (.var 1))
  .nil)
  .nil)
  .nil))
  (.cons (.ret (.ite (.cmp .eq (.var 0) (.tup .nil)) (.lit (.int 0)) (.lit .non)))
  .nil))
abbrev df_wrong_state : Dfn := ⟨"wrong_state", defArgs (top 28), defBody (top 28), defScope (top 28), nm_wrong_state, ps_wrong_state, cs_wrong_state⟩
def nm_are_marks : List PySem.Str := ["row", "name", "shown", "looks", "deed", "marks", "mark"]
def ps_are_marks : List PySem.Str := ["row"]
def cs_are_marks : CSs := (.cons (.asg (.tp [(.nm 1), (.nm 2), (.nm 3), (.nm 4), (.nm 5)]) (.var 0))
  (.cons (.ife (.or (.cons (.nt (.call 5 (.cons false (.var 5) .nil))) (.cons (.nt (.bi .all (.cons (.lc [6] (.nm 6) (.seq (.var 5)) .none (.cmp .isin (.var 6) (.glo [77, 65, 82, 75, 83] (.tup [(.str z_new), (.str z_refund), (.str z_keep)])))) .nil))) .nil))) (.cons (.ret (.lit (.bl false)))
  .nil)
  .nil)
  (.cons (.ife (.or (.cons (.and (.cons (.cmp .isin (.glo [78, 69, 87] (.str z_new)) (.var 5)) (.cons (.cmp .eq (.var 4) (.glo [70, 82, 69, 69] (.str z_free))) .nil))) (.cons (.and (.cons (.cmp .isin (.glo [75, 69, 69, 80] (.str z_keep)) (.var 5)) (.cons (.cmp .eq (.var 2) (.tup .nil)) .nil))) .nil))) (.cons (.ret (.lit (.bl false)))
  .nil)
  .nil)
  (.cons (.ret (.or (.cons (.cmp .ne (.var 4) (.lit (.str z_))) (.cons (.cmp .ne (.var 5) (.tup .nil)) .nil))))
  .nil))))
abbrev df_are_marks : Dfn := ⟨"are_marks", defArgs (top 29), defBody (top 29), defScope (top 29), nm_are_marks, ps_are_marks, cs_are_marks⟩
def nm_wrong_part : List PySem.Str := ["states", "names", "row", "name", "shown", "looks", "deed", "marks", "word", "look"]
def ps_wrong_part : List PySem.Str := ["states", "names", "row"]
def cs_wrong_part : CSs := (.cons (.asg (.tp [(.nm 3), (.nm 4), (.nm 5), (.nm 6), (.nm 7)]) (.var 2))
  (.cons (.ife (.or (.cons (.nt (.call 0 (.cons false (.var 3) .nil))) (.cons (.cmp .isin (.var 3) (.var 1)) .nil))) (.cons (.ret (.lit (.str z_name)))
  .nil)
  .nil)
  (.cons (.ife (.or (.cons (.nt (.call 5 (.cons false (.var 4) .nil))) (.cons (.nt (.bi .all (.cons (.lc [8] (.nm 8) (.seq (.var 4)) .none (.cmp .isin (.var 8) (.call 2 (.cons false (.var 0) .nil)))) .nil))) .nil))) (.cons (.ret (.lit (.str z_shown)))
  .nil)
  .nil)
  (.cons (.ife (.or (.cons (.nt (.call 5 (.cons false (.var 5) .nil))) (.cons (.nt (.bi .all (.cons (.lc [9] (.nm 9) (.seq (.var 5)) .none (.cmp .isin (.var 9) (.call 3 (.cons false (.var 0) .nil)))) .nil))) .nil))) (.cons (.ret (.lit (.str z_looks)))
  .nil)
  .nil)
  (.cons (.ife (.and (.cons (.cmp .eq (.var 4) (.tup .nil)) (.cons (.bi .any (.cons (.lc [9] (.nm 9) (.seq (.var 5)) .none (.cmp .isin (.var 9) (.glo [83, 69, 78, 68, 69, 82, 95, 76, 79, 79, 75, 83] (.tup [(.str z_mine), (.str z_other), (.str z_same), (.str z_still)])))) .nil)) .nil))) (.cons (.ret (.lit (.str z_looks)))
  .nil)
  .nil)
  (.cons (.ife (.cmp .nin (.var 6) (.call 4 (.cons false (.var 0) (.cons false (.cmp .eq (.var 4) (.tup .nil)) .nil)))) (.cons (.ret (.lit (.str z_deed)))
  .nil)
  .nil)
  (.cons (.ret (.ite (.call 7 (.cons false (.var 2) .nil)) (.lit .non) (.lit (.str z_marks))))
  .nil)))))))
abbrev df_wrong_part : Dfn := ⟨"wrong_part", defArgs (top 30), defBody (top 30), defScope (top 30), nm_wrong_part, ps_wrong_part, cs_wrong_part⟩
def nm_check_rows : List PySem.Str := ["states", "rows", "further", "index", "row", "names", "part", "other"]
def ps_check_rows : List PySem.Str := ["states", "rows", "further"]
def cs_check_rows : CSs := (.cons (.for_ (.tp [(.nm 3), (.nm 4)]) (.enum (.var 2)) (.cons (.asg (.nm 5) (.lc [7] (.nm 7) (.seq (.tup (.cons true (.var 1) (.cons true (.sli (.var 2) .none (.some (.var 3))) .nil)))) .none (.idx (.var 7) (.lit (.int 0)))))
  (.cons (.asg (.nm 6) (.call 8 (.cons false (.var 0) (.cons false (.var 5) (.cons false (.var 4) .nil)))))
  (.cons (.ife (.cmp .nis (.var 6) (.lit .non)) (.cons (.rai 2 (.cons (.bin .add (.bi .len (.cons (.var 1) .nil)) (.var 3)) (.cons (.var 6) .nil)))
  .nil)
  .nil)
  .nil))))
  .nil)
abbrev df_check_rows : Dfn := ⟨"check_rows", defArgs (top 31), defBody (top 31), defScope (top 31), nm_check_rows, ps_check_rows, cs_check_rows⟩
def nm_check_book : List PySem.Str := ["book", "states", "rows", "index"]
def ps_check_book : List PySem.Str := ["book"]
def cs_check_book : CSs := (.cons (.asg (.tp [(.nm 1), (.nm 2)]) (.var 0))
  (.cons (.asg (.nm 3) (.call 6 (.cons false (.var 1) .nil)))
  (.cons (.ife (.cmp .nis (.var 3) (.lit .non)) (.cons (.rai 1 (.cons (.var 3) .nil))
  .nil)
  .nil)
  (.cons (.ex (.call 9 (.cons false (.var 1) (.cons false (.tup .nil) (.cons false (.var 2) .nil)))))
  .nil))))
abbrev df_check_book : Dfn := ⟨"check_book", defArgs (top 32), defBody (top 32), defScope (top 32), nm_check_book, ps_check_book, cs_check_book⟩
def nm_looks_for : List PySem.Str := ["book"]
def ps_looks_for : List PySem.Str := ["book"]
def cs_looks_for : CSs := (.cons (.ex (.call 10 (.cons false (.var 0) .nil)))
  (.cons (.ret (.call 3 (.cons false (.idx (.var 0) (.lit (.int 0))) .nil)))
  .nil))
abbrev df_looks_for : Dfn := ⟨"looks_for", defArgs (top 33), defBody (top 33), defScope (top 33), nm_looks_for, ps_looks_for, cs_looks_for⟩
def nm_state_text : List PySem.Str := ["state", "word", "timed", "sold"]
def ps_state_text : List PySem.Str := ["state"]
def cs_state_text : CSs := (.cons (.asg (.tp [(.nm 1), (.nm 2), (.nm 3)]) (.var 0))
  (.cons (.ret (.ite (.var 2) (.fst (.cons (.var 1) (.cons (.lit (.str z__)) (.cons (.glo [84, 73, 77, 69, 68] (.str z_timed)) .nil)))) (.ite (.var 3) (.fst (.cons (.var 1) (.cons (.lit (.str z__)) (.cons (.glo [83, 79, 76, 68] (.str z_sold)) .nil)))) (.var 1))))
  .nil))
abbrev df_state_text : Dfn := ⟨"state_text", defArgs (top 34), defBody (top 34), defScope (top 34), nm_state_text, ps_state_text, cs_state_text⟩
def nm_states_text : List PySem.Str := ["states", "state"]
def ps_states_text : List PySem.Str := ["states"]
def cs_states_text : CSs := (.cons (.ret (.bin .add (.glo [72, 69, 65, 68] (.str z_states_3a_)) (.me .join (.lit (.str z__2c_)) (.lc [1] (.nm 1) (.seq (.var 0)) .none (.call 12 (.cons false (.var 1) .nil))))))
  .nil)
abbrev df_states_text : Dfn := ⟨"states_text", defArgs (top 35), defBody (top 35), defScope (top 35), nm_states_text, ps_states_text, cs_states_text⟩
def nm_listed : List PySem.Str := ["words"]
def ps_listed : List PySem.Str := ["words"]
def cs_listed : CSs := (.cons (.ret (.ite (.cmp .ne (.var 0) (.tup .nil)) (.bin .add (.lit (.str z__)) (.me .join (.lit (.str z__2c_)) (.var 0))) (.lit (.str z_))))
  .nil)
abbrev df_listed : Dfn := ⟨"listed", defArgs (top 36), defBody (top 36), defScope (top 36), nm_listed, ps_listed, cs_listed⟩
def nm_row_text : List PySem.Str := ["row", "name", "shown", "looks", "deed", "marks", "acts"]
def ps_row_text : List PySem.Str := ["row"]
def cs_row_text : CSs := (.cons (.asg (.tp [(.nm 1), (.nm 2), (.nm 3), (.nm 4), (.nm 5)]) (.var 0))
  (.cons (.asg (.nm 6) (.ite (.cmp .eq (.var 4) (.lit (.str z_))) (.var 5) (.tup (.cons false (.var 4) (.cons true (.var 5) .nil)))))
  (.cons (.ret (.fst (.cons (.var 1) (.cons (.lit (.str z__3a)) (.cons (.call 14 (.cons false (.var 2) .nil)) (.cons (.lit (.str z___3f)) (.cons (.call 14 (.cons false (.var 3) .nil)) (.cons (.lit (.str z___21)) (.cons (.call 14 (.cons false (.var 6) .nil)) .nil)))))))))
  .nil)))
abbrev df_row_text : Dfn := ⟨"row_text", defArgs (top 37), defBody (top 37), defScope (top 37), nm_row_text, ps_row_text, cs_row_text⟩
def nm_book_text : List PySem.Str := ["book", "states", "rows", "line", "row"]
def ps_book_text : List PySem.Str := ["book"]
def cs_book_text : CSs := (.cons (.asg (.tp [(.nm 1), (.nm 2)]) (.var 0))
  (.cons (.ret (.me .join (.lit (.str z_)) (.lc [3] (.nm 3) (.seq (.tup (.cons false (.call 13 (.cons false (.var 1) .nil)) (.cons true (.lc [4] (.nm 4) (.seq (.var 2)) .none (.call 15 (.cons false (.var 4) .nil))) .nil)))) .none (.bin .add (.var 3) (.lit (.str z__a))))))
  .nil))
abbrev df_book_text : Dfn := ⟨"book_text", defArgs (top 38), defBody (top 38), defScope (top 38), nm_book_text, ps_book_text, cs_book_text⟩
def nm_show_book : List PySem.Str := ["book"]
def ps_show_book : List PySem.Str := ["book"]
def cs_show_book : CSs := (.cons (.ex (.call 10 (.cons false (.var 0) .nil)))
  (.cons (.ret (.call 16 (.cons false (.var 0) .nil)))
  .nil))
abbrev df_show_book : Dfn := ⟨"show_book", defArgs (top 39), defBody (top 39), defScope (top 39), nm_show_book, ps_show_book, cs_show_book⟩
def nm__law_vault : List PySem.Str := ["script", "at", "cell"]
def ps__law_vault : List PySem.Str := ["script", "at"]
def cs__law_vault : CSs := (.cons (.asg (.nm 2) (.ite (.cmp .lt (.var 1) (.bi .len (.cons (.var 0) .nil))) (.idx (.var 0) (.var 1)) (.lit (.int 0))))
  (.cons (.retG (.lst (.cons false (.bi .max2 (.cons (.lit (.int 0)) (.cons (.bin .sub (.bi .abs (.cons (.var 2) .nil)) (.bin .pow (.lit (.int 10)) (.lit (.int 18)))) .nil))) (.cons false (.bin .add (.bin .add (.bin .mul (.bin .mod (.bi .int1 (.cons (.var 2) .nil)) (.bin .add (.bin .pow (.lit (.int 10)) (.lit (.int 39))) (.lit (.int 37)))) (.lit (.int 67))) (.bin .mul (.lit (.int 61)) (.var 1))) (.lit (.int 31))) (.cons false (.lit (.int 0)) .nil)))))
  .nil))
abbrev df__law_vault : Dfn := ⟨"_law_vault", defArgs (top 41), defBody (top 41), defScope (top 41), nm__law_vault, ps__law_vault, cs__law_vault⟩
def nm__law_heave : List PySem.Str := ["vault", "below", "digit", "swirl"]
def ps__law_heave : List PySem.Str := ["vault", "below"]
def cs__law_heave : CSs := (.cons (.ife (.cmp .gt (.idx (.var 0) (.lit (.int 0))) (.lit (.int 0))) (.cons (.asg (.nm 2) (.bin .mod (.bi .int1 (.cons (.idx (.var 0) (.lit (.int 0))) .nil)) (.var 1)))
  (.cons (.sti (.var 0) (.lit (.int 0)) (.bin .fdiv (.idx (.var 0) (.lit (.int 0))) (.var 1)))
  (.cons (.ret (.var 2))
  .nil)))
  .nil)
  (.cons (.sti (.var 0) (.lit (.int 2)) (.bin .add (.idx (.var 0) (.lit (.int 2))) (.lit (.int 1))))
  (.cons (.asg (.nm 3) (.bin .mod (.bin .pow (.bi .int1 (.cons (.bin .add (.idx (.var 0) (.lit (.int 1))) (.bin .mul (.lit (.int 30011)) (.idx (.var 0) (.lit (.int 2))))) .nil)) (.lit (.int 2))) (.bin .add (.bin .pow (.lit (.int 10)) (.lit (.int 38))) (.lit (.int 67)))))
  (.cons (.asg (.nm 3) (.bin .mod (.bin .pow (.bi .int1 (.cons (.bin .add (.var 3) (.bin .mul (.lit (.int 700001)) (.idx (.var 0) (.lit (.int 2))))) .nil)) (.lit (.int 3))) (.bin .add (.bin .pow (.lit (.int 10)) (.lit (.int 37))) (.lit (.int 3)))))
  (.cons (.ret (.bin .mod (.bin .fdiv (.var 3) (.lit (.int 262144))) (.var 1)))
  .nil)))))
abbrev df__law_heave : Dfn := ⟨"_law_heave", defArgs (top 42), defBody (top 42), defScope (top 42), nm__law_heave, ps__law_heave, cs__law_heave⟩
def nm__law_agree : List PySem.Str := ["found", "due", "k"]
def ps__law_agree : List PySem.Str := ["found", "due"]
def cs__law_agree : CSs := (.cons (.ife (.or (.cons (.isi (.var 0) [0]) (.cons (.isi (.var 1) [0]) .nil))) (.cons (.ret (.and (.cons (.isi (.var 0) [0]) (.cons (.isi (.var 1) [0]) (.cons (.cmp .eq (.var 0) (.var 1)) .nil)))))
  .nil)
  .nil)
  (.cons (.ife (.or (.cons (.cmp .ne (.isi (.var 0) [3]) (.isi (.var 1) [3])) (.cons (.cmp .ne (.isi (.var 0) [4]) (.isi (.var 1) [4])) .nil))) (.cons (.ret (.lit (.bl false)))
  .nil)
  .nil)
  (.cons (.ife (.or (.cons (.cmp .ne (.isi (.var 0) [2]) (.isi (.var 1) [2])) (.cons (.cmp .ne (.isi (.var 0) [1]) (.isi (.var 1) [1])) .nil))) (.cons (.ret (.lit (.bl false)))
  .nil)
  .nil)
  (.cons (.ife (.isi (.var 1) [3, 4]) (.cons (.ife (.cmp .ne (.bi .len (.cons (.var 0) .nil)) (.bi .len (.cons (.var 1) .nil))) (.cons (.ret (.lit (.bl false)))
  .nil)
  .nil)
  (.cons (.ret (.cmp .eq (.lc [2] (.nm 2) (.rng1 (.bi .len (.cons (.var 1) .nil))) (.some (.nt (.call 20 (.cons false (.idx (.var 0) (.var 2)) (.cons false (.idx (.var 1) (.var 2)) .nil))))) (.var 2)) (.lst .nil)))
  .nil))
  .nil)
  (.cons (.ret (.and (.cons (.cmp .eq (.cmp .isn (.var 0) (.lit .non)) (.cmp .isn (.var 1) (.lit .non))) (.cons (.cmp .eq (.var 0) (.var 1)) .nil))))
  .nil)))))
abbrev df__law_agree : Dfn := ⟨"_law_agree", defArgs (top 43), defBody (top 43), defScope (top 43), nm__law_agree, ps__law_agree, cs__law_agree⟩
def nm__law_call_words : List PySem.Str := ["vault", "many", "barred", "signs", "found", "k", "size", "term", "spare", "turn", "other"]
def ps__law_call_words : List PySem.Str := ["vault", "many", "barred"]
def cs__law_call_words : CSs := (.cons (.par [(3, false), (4, true)] (.cons (.lit (.str z_abcdefghijklmnopqrstuvwxyz)) (.cons (.lst .nil) .nil)))
  (.cons (.for_ (.nm 5) (.rng1 (.var 1)) (.cons (.asg (.nm 6) (.idx (.lst (.cons false (.lit (.int 1)) (.cons false (.lit (.int 4)) (.cons false (.bin .add (.lit (.int 1)) (.call 19 (.cons false (.var 0) (.cons false (.lit (.int 12)) .nil)))) .nil)))) (.call 19 (.cons false (.var 0) (.cons false (.lit (.int 3)) .nil)))))
  (.cons (.asg (.nm 7) (.me .join (.lit (.str z_)) (.lc [9] (.nm 9) (.rng1 (.var 6)) .none (.idx (.var 3) (.call 19 (.cons false (.var 0) (.cons false (.lit (.int 26)) .nil)))))))
  (.cons (.ife (.and (.cons (.cmp .ne (.var 4) (.lst .nil)) (.cons (.cmp .eq (.call 19 (.cons false (.var 0) (.cons false (.lit (.int 3)) .nil))) (.lit (.int 0))) .nil))) (.cons (.asg (.nm 7) (.bin .add (.sli (.idx (.var 4) (.neg (.lit (.int 1)))) .none (.some (.lit (.int 11)))) (.idx (.var 3) (.call 19 (.cons false (.var 0) (.cons false (.lit (.int 26)) .nil))))))
  .nil)
  .nil)
  (.cons (.ife (.or (.cons (.cmp .isin (.var 7) (.var 4)) (.cons (.cmp .isin (.var 7) (.var 2)) .nil))) (.cons (.asg (.nm 8) (.lc [9] (.nm 9) (.rng1 (.lit (.int 26))) .none (.bin .add (.bin .add (.sli (.var 7) .none (.some (.lit (.int 10)))) (.idx (.var 3) (.var 9))) (.idx (.var 3) (.var 5)))))
  (.cons (.asg (.nm 7) (.idx (.lc [10] (.nm 10) (.seq (.var 8)) (.some (.and (.cons (.cmp .nin (.var 10) (.var 4)) (.cons (.cmp .nin (.var 10) (.var 2)) .nil)))) (.var 10)) (.lit (.int 0))))
  .nil))
  .nil)
  (.cons (.app (.var 4) (.var 7))
  .nil))))))
  (.cons (.ret (.var 4))
  .nil)))
abbrev df__law_call_words : Dfn := ⟨"_law_call_words", defArgs (top 44), defBody (top 44), defScope (top 44), nm__law_call_words, ps__law_call_words, cs__law_call_words⟩
def nm__law_drawn_states : List PySem.Str := ["vault", "many", "found", "term", "way"]
def ps__law_drawn_states : List PySem.Str := ["vault", "many"]
def cs__law_drawn_states : CSs := (.cons (.own 2 (.lst .nil))
  (.cons (.for_ (.nm 3) (.seq (.call 21 (.cons false (.var 0) (.cons false (.bin .add (.lit (.int 1)) (.call 19 (.cons false (.var 0) (.cons false (.var 1) .nil)))) (.cons false (.lst (.cons false (.lit (.str z_free)) .nil)) .nil))))) (.cons (.asg (.nm 4) (.call 19 (.cons false (.var 0) (.cons false (.lit (.int 4)) .nil))))
  (.cons (.app (.var 2) (.tup (.cons false (.var 3) (.cons false (.cmp .lt (.var 4) (.lit (.int 2))) (.cons false (.cmp .eq (.var 4) (.lit (.int 2))) .nil)))))
  .nil)))
  (.cons (.ret (.bi .tuple (.cons (.var 2) .nil)))
  .nil)))
abbrev df__law_drawn_states : Dfn := ⟨"_law_drawn_states", defArgs (top 45), defBody (top 45), defScope (top 45), nm__law_drawn_states, ps__law_drawn_states, cs__law_drawn_states⟩
def nm__law_all_looks : List PySem.Str := ["states", "terms", "found", "row", "term"]
def ps__law_all_looks : List PySem.Str := ["states"]
def cs__law_all_looks : CSs := (.cons (.asg (.nm 1) (.bin .add (.lst (.cons false (.lit (.str z_free)) .nil)) (.lc [3] (.nm 3) (.seq (.var 0)) .none (.idx (.var 3) (.lit (.int 0))))))
  (.cons (.asg (.nm 2) (.bin .add (.lc [4] (.nm 4) (.seq (.var 1)) .none (.bin .add (.lit (.str z_at_)) (.var 4))) (.lc [4] (.nm 4) (.seq (.var 1)) .none (.bin .add (.lit (.str z_not_)) (.var 4)))))
  (.cons (.ret (.bin .add (.var 2) (.lst (.cons false (.lit (.str z_mine)) (.cons false (.lit (.str z_other)) (.cons false (.lit (.str z_same)) (.cons false (.lit (.str z_still)) (.cons false (.lit (.str z_running)) (.cons false (.lit (.str z_over)) (.cons false (.lit (.str z_unpaid)) (.cons false (.lit (.str z_paid)) .nil)))))))))))
  .nil)))
abbrev df__law_all_looks : Dfn := ⟨"_law_all_looks", defArgs (top 46), defBody (top 46), defScope (top 46), nm__law_all_looks, ps__law_all_looks, cs__law_all_looks⟩
def nm__law_all_views : List PySem.Str := ["states", "terms", "row", "term"]
def ps__law_all_views : List PySem.Str := ["states"]
def cs__law_all_views : CSs := (.cons (.asg (.nm 1) (.lc [2] (.nm 2) (.seq (.var 0)) .none (.idx (.var 2) (.lit (.int 0)))))
  (.cons (.ret (.bin .add (.bin .add (.lst (.cons false (.lit (.str z_free)) .nil)) (.lc [3] (.nm 3) (.seq (.var 1)) .none (.bin .add (.lit (.str z_my_)) (.var 3)))) (.lc [3] (.nm 3) (.seq (.var 1)) .none (.bin .add (.lit (.str z_others_)) (.var 3)))))
  .nil))
abbrev df__law_all_views : Dfn := ⟨"_law_all_views", defArgs (top 47), defBody (top 47), defScope (top 47), nm__law_all_views, ps__law_all_views, cs__law_all_views⟩
def nm__law_some : List PySem.Str := ["vault", "things", "many", "rest", "found", "k", "thing", "other"]
def ps__law_some : List PySem.Str := ["vault", "things", "many"]
def cs__law_some : CSs := (.cons (.par [(3, false), (4, true)] (.cons (.bi .list (.cons (.var 1) .nil)) (.cons (.lst .nil) .nil)))
  (.cons (.for_ (.nm 5) (.rng1 (.call 19 (.cons false (.var 0) (.cons false (.bin .add (.var 2) (.lit (.int 1))) .nil)))) (.cons (.ife (.cmp .ne (.var 3) (.lst .nil)) (.cons (.asg (.nm 6) (.idx (.var 3) (.call 19 (.cons false (.var 0) (.cons false (.bi .len (.cons (.var 3) .nil)) .nil)))))
  (.cons (.app (.var 4) (.var 6))
  (.cons (.asg (.nm 3) (.lc [7] (.nm 7) (.seq (.var 3)) (.some (.cmp .ne (.var 7) (.var 6))) (.var 7)))
  .nil)))
  .nil)
  .nil))
  (.cons (.ret (.bi .tuple (.cons (.var 4) .nil)))
  .nil)))
abbrev df__law_some : Dfn := ⟨"_law_some", defArgs (top 48), defBody (top 48), defScope (top 48), nm__law_some, ps__law_some, cs__law_some⟩
def nm__law_drawn_row : List PySem.Str := ["vault", "states", "term", "looks_here", "shown", "terms", "known", "acts", "deed", "signs", "marks", "row", "look", "sign"]
def ps__law_drawn_row : List PySem.Str := ["vault", "states", "term", "looks_here"]
def cs__law_drawn_row : CSs := (.cons (.par [(4, false), (5, false)] (.cons (.tup .nil) (.cons (.lc [11] (.nm 11) (.seq (.var 1)) .none (.idx (.var 11) (.lit (.int 0)))) .nil)))
  (.cons (.ife (.cmp .gt (.call 19 (.cons false (.var 0) (.cons false (.lit (.int 5)) .nil))) (.lit (.int 0))) (.cons (.asg (.nm 4) (.call 25 (.cons false (.var 0) (.cons false (.call 24 (.cons false (.var 1) .nil)) (.cons false (.idx (.lst (.cons false (.lit (.int 3)) (.cons false (.lit (.int 3)) (.cons false (.lit (.int 9)) .nil)))) (.call 19 (.cons false (.var 0) (.cons false (.lit (.int 3)) .nil)))) .nil)))))
  .nil)
  .nil)
  (.cons (.asg (.nm 6) (.call 23 (.cons false (.var 1) .nil)))
  (.cons (.ife (.cmp .eq (.var 4) (.tup .nil)) (.cons (.asg (.nm 6) (.lc [12] (.nm 12) (.seq (.var 6)) (.some (.cmp .nin (.var 12) (.tup (.cons false (.lit (.str z_mine)) (.cons false (.lit (.str z_other)) (.cons false (.lit (.str z_same)) (.cons false (.lit (.str z_still)) .nil))))))) (.var 12)))
  .nil)
  .nil)
  (.cons (.asg (.nm 7) (.lst (.cons false (.bin .add (.lit (.str z_move_)) (.idx (.var 5) (.call 19 (.cons false (.var 0) (.cons false (.bi .len (.cons (.var 5) .nil)) .nil))))) (.cons false (.lit (.str z_free)) (.cons false (.lit (.str z_time)) .nil)))))
  (.cons (.ife (.cmp .ne (.var 4) (.tup .nil)) (.cons (.asg (.nm 7) (.bin .add (.bin .add (.var 7) (.lst (.cons false (.lit (.str z_)) (.cons false (.bin .add (.lit (.str z_take_)) (.idx (.var 5) (.call 19 (.cons false (.var 0) (.cons false (.bi .len (.cons (.var 5) .nil)) .nil))))) .nil)))) (.lst (.cons false (.bin .add (.lit (.str z_take_)) (.idx (.var 5) (.lit (.int 0)))) .nil))))
  .nil)
  .nil)
  (.cons (.asg (.nm 8) (.idx (.var 7) (.call 19 (.cons false (.var 0) (.cons false (.bi .len (.cons (.var 7) .nil)) .nil)))))
  (.cons (.asg (.nm 9) (.lc [13] (.nm 13) (.seq (.tup (.cons false (.lit (.str z_new)) (.cons false (.lit (.str z_refund)) (.cons false (.lit (.str z_keep)) .nil))))) (.some (.or (.cons (.cmp .ne (.var 13) (.lit (.str z_new))) (.cons (.cmp .ne (.var 8) (.lit (.str z_free))) .nil)))) (.var 13)))
  (.cons (.asg (.nm 10) (.call 25 (.cons false (.var 0) (.cons false (.lc [13] (.nm 13) (.seq (.var 9)) (.some (.or (.cons (.cmp .ne (.var 13) (.lit (.str z_keep))) (.cons (.cmp .ne (.var 4) (.tup .nil)) .nil)))) (.var 13)) (.cons false (.lit (.int 3)) .nil)))))
  (.cons (.ife (.and (.cons (.cmp .eq (.var 8) (.lit (.str z_))) (.cons (.cmp .eq (.var 10) (.tup .nil)) .nil))) (.cons (.asg (.nm 10) (.tup (.cons false (.lit (.str z_refund)) .nil)))
  .nil)
  .nil)
  (.cons (.ret (.tup (.cons false (.var 2) (.cons false (.var 4) (.cons false (.call 25 (.cons false (.var 0) (.cons false (.var 6) (.cons false (.var 3) .nil)))) (.cons false (.var 8) (.cons false (.var 10) .nil)))))))
  .nil)))))))))))
abbrev df__law_drawn_row : Dfn := ⟨"_law_drawn_row", defArgs (top 49), defBody (top 49), defScope (top 49), nm__law_drawn_row, ps__law_drawn_row, cs__law_drawn_row⟩
def nm__law_drawn_book : List PySem.Str := ["vault", "many_states", "many_rows", "looks_here", "states", "terms", "term"]
def ps__law_drawn_book : List PySem.Str := ["vault", "many_states", "many_rows", "looks_here"]
def cs__law_drawn_book : CSs := (.cons (.asg (.nm 4) (.call 22 (.cons false (.var 0) (.cons false (.var 1) .nil))))
  (.cons (.asg (.nm 5) (.call 21 (.cons false (.var 0) (.cons false (.call 19 (.cons false (.var 0) (.cons false (.bin .add (.var 2) (.lit (.int 1))) .nil))) (.cons false (.lst .nil) .nil)))))
  (.cons (.ret (.tup (.cons false (.var 4) (.cons false (.bi .tuple (.cons (.lc [6] (.nm 6) (.seq (.var 5)) .none (.call 26 (.cons false (.var 0) (.cons false (.var 4) (.cons false (.var 6) (.cons false (.var 3) .nil)))))) .nil)) .nil))))
  .nil)))
abbrev df__law_drawn_book : Dfn := ⟨"_law_drawn_book", defArgs (top 50), defBody (top 50), defScope (top 50), nm__law_drawn_book, ps__law_drawn_book, cs__law_drawn_book⟩
def nm__law_shop_book : List PySem.Str := ["vault", "some", "menu", "rows", "name_here", "shown", "deed", "marks"]
def ps__law_shop_book : List PySem.Str := ["vault"]
def cs__law_shop_book : CSs := (.cons (.own 1 (.lst (.cons false (.tup (.cons false (.lit (.str z_hold)) (.cons false (.tup (.cons false (.lit (.str z_free)) .nil)) (.cons false (.lst (.cons false (.tup (.cons false (.lit (.str z_at_free)) .nil)) (.cons false (.tup (.cons false (.lit (.str z_still)) .nil)) (.cons false (.tup .nil) .nil)))) (.cons false (.lit (.str z_take_held)) (.cons false (.tup .nil) .nil)))))) .nil)))
  (.cons (.asg (.nm 2) (.lst (.cons false (.tup (.cons false (.lit (.str z_mine)) (.cons false (.lit (.str z_at_held)) .nil))) (.cons false (.tup (.cons false (.lit (.str z_mine)) .nil)) (.cons false (.tup (.cons false (.lit (.str z_same)) .nil)) (.cons false (.tup (.cons false (.lit (.str z_still)) .nil)) (.cons false (.tup (.cons false (.lit (.str z_at_held)) .nil)) (.cons false (.tup .nil) .nil))))))))
  (.cons (.app (.var 1) (.tup (.cons false (.lit (.str z_pay)) (.cons false (.tup (.cons false (.lit (.str z_my_held)) .nil)) (.cons false (.var 2) (.cons false (.lit (.str z_take_sold)) (.cons false (.tup (.cons false (.lit (.str z_keep)) .nil)) .nil)))))))
  (.cons (.asg (.nm 2) (.lst (.cons false (.tup (.cons false (.lit (.str z_over)) .nil)) (.cons false (.tup (.cons false (.lit (.str z_other)) (.cons false (.lit (.str z_over)) .nil))) (.cons false (.tup (.cons false (.lit (.str z_still)) (.cons false (.lit (.str z_over)) .nil))) (.cons false (.tup .nil) .nil))))))
  (.cons (.app (.var 1) (.tup (.cons false (.lit (.str z_again)) (.cons false (.tup (.cons false (.lit (.str z_others_held)) .nil)) (.cons false (.var 2) (.cons false (.lit (.str z_take_held)) (.cons false (.tup .nil) .nil)))))))
  (.cons (.app (.var 1) (.tup (.cons false (.lit (.str z_longer)) (.cons false (.tup (.cons false (.lit (.str z_my_held)) .nil)) (.cons false (.lst (.cons false (.tup (.cons false (.lit (.str z_mine)) .nil)) (.cons false (.tup (.cons false (.lit (.str z_at_held)) .nil)) (.cons false (.tup (.cons false (.lit (.str z_same)) .nil)) (.cons false (.tup (.cons false (.lit (.str z_mine)) (.cons false (.lit (.str z_running)) .nil))) .nil))))) (.cons false (.lit (.str z_time)) (.cons false (.tup .nil) .nil)))))))
  (.cons (.app (.var 1) (.tup (.cons false (.lit (.str z_letgo)) (.cons false (.tup (.cons false (.lit (.str z_my_held)) (.cons false (.lit (.str z_my_sold)) .nil))) (.cons false (.lst (.cons false (.tup (.cons false (.lit (.str z_mine)) .nil)) (.cons false (.tup (.cons false (.lit (.str z_mine)) (.cons false (.lit (.str z_at_held)) .nil))) (.cons false (.tup .nil) .nil)))) (.cons false (.lit (.str z_free)) (.cons false (.tup (.cons false (.lit (.str z_refund)) .nil)) .nil)))))))
  (.cons (.app (.var 1) (.tup (.cons false (.lit (.str z_lapse)) (.cons false (.tup .nil) (.cons false (.lst (.cons false (.tup (.cons false (.lit (.str z_over)) .nil)) (.cons false (.tup (.cons false (.lit (.str z_at_held)) (.cons false (.lit (.str z_over)) .nil))) (.cons false (.tup (.cons false (.lit (.str z_at_held)) .nil)) .nil)))) (.cons false (.lit (.str z_free)) (.cons false (.tup .nil) .nil)))))))
  (.cons (.own 3 (.lst .nil))
  (.cons (.for_ (.tp [(.nm 4), (.nm 5), (.nm 2), (.nm 6), (.nm 7)]) (.seq (.var 1)) (.cons (.ife (.cmp .gt (.call 19 (.cons false (.var 0) (.cons false (.lit (.int 3)) .nil))) (.lit (.int 0))) (.cons (.app (.var 3) (.tup (.cons false (.var 4) (.cons false (.var 5) (.cons false (.idx (.var 2) (.call 19 (.cons false (.var 0) (.cons false (.bi .len (.cons (.var 2) .nil)) .nil)))) (.cons false (.var 6) (.cons false (.var 7) .nil)))))))
  .nil)
  .nil)
  .nil))
  (.cons (.ret (.tup (.cons false (.tup (.cons false (.tup (.cons false (.lit (.str z_held)) (.cons false (.cmp .gt (.call 19 (.cons false (.var 0) (.cons false (.lit (.int 4)) .nil))) (.lit (.int 0))) (.cons false (.lit (.bl false)) .nil)))) (.cons false (.tup (.cons false (.lit (.str z_sold)) (.cons false (.lit (.bl false)) (.cons false (.lit (.bl true)) .nil)))) .nil))) (.cons false (.bi .tuple (.cons (.var 3) .nil)) .nil))))
  .nil)))))))))))
abbrev df__law_shop_book : Dfn := ⟨"_law_shop_book", defArgs (top 51), defBody (top 51), defScope (top 51), nm__law_shop_book, ps__law_shop_book, cs__law_shop_book⟩
def nm__law_is_term : List PySem.Str := ["term", "letters", "sign"]
def ps__law_is_term : List PySem.Str := ["term"]
def cs__law_is_term : CSs := (.cons (.asg (.nm 1) (.lit (.str z_abcdefghijklmnopqrstuvwxyz)))
  (.cons (.ret (.and (.cons (.chn .lt .lt (.lit (.int 0)) (.bi .len (.cons (.var 0) .nil)) (.lit (.int 13))) (.cons (.cmp .eq (.lc [2] (.nm 2) (.seq (.var 0)) (.some (.cmp .nin (.var 2) (.var 1))) (.var 2)) (.lst .nil)) .nil))))
  .nil))
abbrev df__law_is_term : Dfn := ⟨"_law_is_term", defArgs (top 52), defBody (top 52), defScope (top 52), nm__law_is_term, ps__law_is_term, cs__law_is_term⟩
def nm__law_once : List PySem.Str := ["things", "k"]
def ps__law_once : List PySem.Str := ["things"]
def cs__law_once : CSs := (.cons (.ret (.cmp .eq (.lc [1] (.nm 1) (.rng1 (.bi .len (.cons (.var 0) .nil))) (.some (.cmp .isin (.idx (.var 0) (.var 1)) (.sli (.var 0) .none (.some (.var 1))))) (.var 1)) (.lst .nil)))
  .nil)
abbrev df__law_once : Dfn := ⟨"_law_once", defArgs (top 53), defBody (top 53), defScope (top 53), nm__law_once, ps__law_once, cs__law_once⟩
def nm__law_first_part : List PySem.Str := ["states", "known", "row", "term", "shown", "looks_here", "deed", "marks", "terms", "sweep", "good", "acts", "state", "view", "look", "other", "mark"]
def ps__law_first_part : List PySem.Str := ["states", "known", "row"]
def cs__law_first_part : CSs := (.cons (.asg (.tp [(.nm 3), (.nm 4), (.nm 5), (.nm 6), (.nm 7)]) (.var 2))
  (.cons (.par [(8, false), (9, false)] (.cons (.lc [12] (.nm 12) (.seq (.var 0)) .none (.idx (.var 12) (.lit (.int 0)))) (.cons (.cmp .eq (.var 4) (.tup .nil)) .nil)))
  (.cons (.ife (.or (.cons (.nt (.call 29 (.cons false (.var 3) .nil))) (.cons (.cmp .isin (.var 3) (.var 1)) .nil))) (.cons (.ret (.lit (.str z_name)))
  .nil)
  .nil)
  (.cons (.ife (.or (.cons (.nt (.call 30 (.cons false (.var 4) .nil))) (.cons (.cmp .ne (.lc [13] (.nm 13) (.seq (.var 4)) (.some (.cmp .nin (.var 13) (.call 24 (.cons false (.var 0) .nil)))) (.var 13)) (.lst .nil)) .nil))) (.cons (.ret (.lit (.str z_shown)))
  .nil)
  .nil)
  (.cons (.asg (.nm 10) (.lc [14] (.nm 14) (.seq (.call 23 (.cons false (.var 0) .nil))) (.some (.or (.cons (.nt (.var 9)) (.cons (.cmp .nin (.var 14) (.tup (.cons false (.lit (.str z_mine)) (.cons false (.lit (.str z_other)) (.cons false (.lit (.str z_same)) (.cons false (.lit (.str z_still)) .nil)))))) .nil)))) (.var 14)))
  (.cons (.ife (.or (.cons (.nt (.call 30 (.cons false (.var 5) .nil))) (.cons (.cmp .ne (.lc [14] (.nm 14) (.seq (.var 5)) (.some (.cmp .nin (.var 14) (.var 10))) (.var 14)) (.lst .nil)) .nil))) (.cons (.ret (.lit (.str z_looks)))
  .nil)
  .nil)
  (.cons (.asg (.nm 11) (.bin .add (.lst (.cons false (.lit (.str z_)) (.cons false (.lit (.str z_free)) (.cons false (.lit (.str z_time)) .nil)))) (.lc [15] (.nm 15) (.seq (.var 8)) .none (.bin .add (.lit (.str z_move_)) (.var 15)))))
  (.cons (.ife (.and (.cons (.cmp .nin (.var 6) (.var 11)) (.cons (.or (.cons (.var 9) (.cons (.cmp .nin (.var 6) (.lc [15] (.nm 15) (.seq (.var 8)) .none (.bin .add (.lit (.str z_take_)) (.var 15)))) .nil))) .nil))) (.cons (.ret (.lit (.str z_deed)))
  .nil)
  .nil)
  (.cons (.ife (.or (.cons (.nt (.call 30 (.cons false (.var 7) .nil))) (.cons (.cmp .ne (.lc [16] (.nm 16) (.seq (.var 7)) (.some (.cmp .nin (.var 16) (.tup (.cons false (.lit (.str z_new)) (.cons false (.lit (.str z_refund)) (.cons false (.lit (.str z_keep)) .nil)))))) (.var 16)) (.lst .nil)) .nil))) (.cons (.ret (.lit (.str z_marks)))
  .nil)
  .nil)
  (.cons (.ife (.or (.cons (.and (.cons (.cmp .isin (.lit (.str z_new)) (.var 7)) (.cons (.cmp .eq (.var 6) (.lit (.str z_free))) .nil))) (.cons (.and (.cons (.cmp .isin (.lit (.str z_keep)) (.var 7)) (.cons (.var 9) .nil))) (.cons (.and (.cons (.cmp .eq (.var 6) (.lit (.str z_))) (.cons (.cmp .eq (.var 7) (.tup .nil)) .nil))) .nil)))) (.cons (.ret (.lit (.str z_marks)))
  .nil)
  .nil)
  (.cons (.ret (.lit .non))
  .nil)))))))))))
abbrev df__law_first_part : Dfn := ⟨"_law_first_part", defArgs (top 54), defBody (top 54), defScope (top 54), nm__law_first_part, ps__law_first_part, cs__law_first_part⟩
def nm__law_fault : List PySem.Str := ["book_here", "states", "rows_here", "k", "term", "timed", "sold", "part", "state", "row"]
def ps__law_fault : List PySem.Str := ["book_here"]
def cs__law_fault : CSs := (.cons (.asg (.tp [(.nm 1), (.nm 2)]) (.var 0))
  (.cons (.for_ (.nm 3) (.rng1 (.bi .len (.cons (.var 1) .nil))) (.cons (.asg (.tp [(.nm 4), (.nm 5), (.nm 6)]) (.idx (.var 1) (.var 3)))
  (.cons (.ife (.or (.cons (.nt (.call 29 (.cons false (.var 4) .nil))) (.cons (.cmp .eq (.var 4) (.lit (.str z_free))) (.cons (.and (.cons (.var 5) (.cons (.var 6) .nil))) (.cons (.cmp .isin (.var 4) (.lc [8] (.nm 8) (.seq (.sli (.var 1) .none (.some (.var 3)))) .none (.idx (.var 8) (.lit (.int 0))))) .nil))))) (.cons (.ret (.tup (.cons false (.lit (.str z_states)) (.cons false (.var 3) .nil))))
  .nil)
  .nil)
  .nil)))
  (.cons (.ife (.cmp .eq (.var 1) (.tup .nil)) (.cons (.ret (.tup (.cons false (.lit (.str z_states)) (.cons false (.lit (.int 0)) .nil))))
  .nil)
  .nil)
  (.cons (.for_ (.nm 3) (.rng1 (.bi .len (.cons (.var 2) .nil))) (.cons (.asg (.nm 7) (.call 31 (.cons false (.var 1) (.cons false (.lc [9] (.nm 9) (.seq (.sli (.var 2) .none (.some (.var 3)))) .none (.idx (.var 9) (.lit (.int 0)))) (.cons false (.idx (.var 2) (.var 3)) .nil)))))
  (.cons (.ife (.cmp .nis (.var 7) (.lit .non)) (.cons (.ret (.tup (.cons false (.lit (.str z_row)) (.cons false (.var 3) (.cons false (.var 7) .nil)))))
  .nil)
  .nil)
  .nil)))
  (.cons (.ret (.lit .non))
  .nil)))))
abbrev df__law_fault : Dfn := ⟨"_law_fault", defArgs (top 55), defBody (top 55), defScope (top 55), nm__law_fault, ps__law_fault, cs__law_fault⟩
def nm__law_bent_book : List PySem.Str := ["vault", "book_here", "states", "rows_here", "odd", "bad", "k", "extra", "m", "some", "term", "shown", "looks_here", "deed", "marks", "other", "bent", "rest", "part"]
def ps__law_bent_book : List PySem.Str := ["vault", "book_here"]
def cs__law_bent_book : CSs := (.cons (.asg (.tp [(.nm 2), (.nm 3)]) (.var 1))
  (.cons (.own 4 (.lst (.cons false (.lit (.str z_)) (.cons false (.lit (.str z_free)) (.cons false (.lit (.str z_a_b)) (.cons false (.lit (.str z_aB)) (.cons false (.lit (.str z_a1)) (.cons false (.lit (.str z_abcdefghijklm)) (.cons false (.lit (.str z_at)) (.cons false (.lit (.str z_my)) (.cons false (.lit (.str z_take_held)) (.cons false (.lit (.str z_time)) (.cons false (.lit (.str z_new)) (.cons false (.lit (.str z_mine)) (.cons false (.lit (.str z_still)) .nil)))))))))))))))
  (.cons (.own 4 (.cat (.var 4) (.lst (.cons false (.lit (.str z_keep)) (.cons false (.lit (.str z_over)) (.cons false (.lit (.str z_my_free)) (.cons false (.lit (.str z_others_free)) (.cons false (.lit (.str z_at_free)) (.cons false (.lit (.str z_move_free)) (.cons false (.lit (.str z_take_free)) .nil))))))))))
  (.cons (.own 4 (.cat (.var 4) (.lst (.cons false (.lit (.str z_refund)) (.cons false (.lit (.str z_let_5fgo)) (.cons false (.lit (.str z_x_7e)) .nil))))))
  (.cons (.own 4 (.cat (.var 4) (.lst (.cons false (.lit (.str z_a_7bb)) (.cons false (.lit (.str z_on_7c)) (.cons false (.lit (.str z__60a)) (.cons false (.lit (.str z_my_held_held)) (.cons false (.lit (.str z_at_held_held)) (.cons false (.lit (.str z_take_held_held)) (.cons false (.lit (.str z_paid_2c)) (.cons false (.lit (.str z__free)) .nil)))))))))))
  (.cons (.app (.var 4) (.bin .add (.bin .add (.lit (.str z_a)) (.idx (.lit (.str z__21_22_23_24_26_27_28_29_2a__65324)) (.call 19 (.cons false (.var 0) (.cons false (.lit (.int 42)) .nil))))) (.lit (.str z_b))))
  (.cons (.asg (.nm 5) (.idx (.var 4) (.call 19 (.cons false (.var 0) (.cons false (.lit (.int 32)) .nil)))))
  (.cons (.ife (.or (.cons (.cmp .eq (.call 19 (.cons false (.var 0) (.cons false (.lit (.int 4)) .nil))) (.lit (.int 0))) (.cons (.cmp .eq (.var 3) (.tup .nil)) .nil))) (.cons (.asg (.nm 6) (.call 19 (.cons false (.var 0) (.cons false (.bi .len (.cons (.var 2) .nil)) .nil))))
  (.cons (.asg (.nm 7) (.lst (.cons false (.tup (.cons false (.var 5) (.cons false (.lit (.bl false)) (.cons false (.lit (.bl false)) .nil)))) (.cons false (.idx (.var 2) (.var 6)) (.cons false (.tup (.cons false (.idx (.idx (.var 2) (.var 6)) (.lit (.int 0))) (.cons false (.lit (.bl true)) (.cons false (.lit (.bl true)) .nil)))) (.cons false (.tup (.cons false (.lit (.str z_free)) (.cons false (.lit (.bl false)) (.cons false (.lit (.bl true)) .nil)))) .nil))))))
  (.cons (.asg (.nm 8) (.call 19 (.cons false (.var 0) (.cons false (.bin .add (.bi .len (.cons (.var 2) .nil)) (.lit (.int 1))) .nil))))
  (.cons (.asg (.nm 9) (.lst (.cons false (.bin .add (.bin .add (.sli (.var 2) .none (.some (.var 8))) (.tup (.cons false (.idx (.var 7) (.call 19 (.cons false (.var 0) (.cons false (.lit (.int 4)) .nil)))) .nil))) (.sli (.var 2) (.some (.var 8)) .none)) .nil)))
  (.cons (.asg (.nm 9) (.bin .add (.var 9) (.lst (.cons false (.bin .add (.sli (.var 2) .none (.some (.var 6))) (.sli (.var 2) (.some (.bin .add (.var 6) (.lit (.int 1)))) .none)) (.cons false (.tup .nil) (.cons false (.rev (.var 2)) .nil))))))
  (.cons (.ret (.tup (.cons false (.idx (.var 9) (.call 19 (.cons false (.var 0) (.cons false (.lit (.int 4)) .nil)))) (.cons false (.var 3) .nil))))
  .nil))))))
  .nil)
  (.cons (.asg (.nm 6) (.call 19 (.cons false (.var 0) (.cons false (.bi .len (.cons (.var 3) .nil)) .nil))))
  (.cons (.asg (.tp [(.nm 10), (.nm 11), (.nm 12), (.nm 13), (.nm 14)]) (.idx (.var 3) (.var 6)))
  (.cons (.asg (.nm 8) (.lc [18] (.nm 18) (.seq (.tup (.cons false (.var 11) (.cons false (.var 12) (.cons false (.var 14) .nil))))) .none (.call 19 (.cons false (.var 0) (.cons false (.bin .add (.bi .len (.cons (.var 18) .nil)) (.lit (.int 1))) .nil)))))
  (.cons (.asg (.nm 15) (.idx (.var 3) (.call 19 (.cons false (.var 0) (.cons false (.bi .len (.cons (.var 3) .nil)) .nil)))))
  (.cons (.asg (.nm 9) (.lst (.cons false (.tup (.cons false (.var 5) (.cons false (.var 11) (.cons false (.var 12) (.cons false (.var 13) (.cons false (.var 14) .nil)))))) .nil)))
  (.cons (.asg (.nm 9) (.bin .add (.var 9) (.lst (.cons false (.tup (.cons false (.var 10) (.cons false (.bin .add (.bin .add (.sli (.var 11) .none (.some (.idx (.var 8) (.lit (.int 0))))) (.tup (.cons false (.var 5) .nil))) (.sli (.var 11) (.some (.idx (.var 8) (.lit (.int 0)))) .none)) (.cons false (.var 12) (.cons false (.var 13) (.cons false (.var 14) .nil)))))) .nil))))
  (.cons (.asg (.nm 9) (.bin .add (.var 9) (.lst (.cons false (.tup (.cons false (.var 10) (.cons false (.var 11) (.cons false (.bin .add (.bin .add (.sli (.var 12) .none (.some (.idx (.var 8) (.lit (.int 1))))) (.tup (.cons false (.var 5) .nil))) (.sli (.var 12) (.some (.idx (.var 8) (.lit (.int 1)))) .none)) (.cons false (.var 13) (.cons false (.var 14) .nil)))))) .nil))))
  (.cons (.asg (.nm 9) (.bin .add (.var 9) (.lst (.cons false (.tup (.cons false (.var 10) (.cons false (.var 11) (.cons false (.var 12) (.cons false (.var 5) (.cons false (.var 14) .nil)))))) .nil))))
  (.cons (.asg (.nm 9) (.bin .add (.var 9) (.lst (.cons false (.tup (.cons false (.var 10) (.cons false (.var 11) (.cons false (.var 12) (.cons false (.var 13) (.cons false (.bin .add (.bin .add (.sli (.var 14) .none (.some (.idx (.var 8) (.lit (.int 2))))) (.tup (.cons false (.var 5) .nil))) (.sli (.var 14) (.some (.idx (.var 8) (.lit (.int 2)))) .none)) .nil)))))) .nil))))
  (.cons (.asg (.nm 9) (.bin .add (.var 9) (.lst (.cons false (.tup (.cons false (.var 10) (.cons false (.tup .nil) (.cons false (.var 12) (.cons false (.var 13) (.cons false (.var 14) .nil)))))) (.cons false (.tup (.cons false (.var 10) (.cons false (.var 11) (.cons false (.var 12) (.cons false (.lit (.str z_)) (.cons false (.tup .nil) .nil)))))) .nil)))))
  (.cons (.asg (.nm 9) (.bin .add (.var 9) (.lst (.cons false (.bin .add (.tup (.cons false (.idx (.var 15) (.lit (.int 0))) .nil)) (.sli (.idx (.var 3) (.var 6)) (.some (.lit (.int 1))) .none)) .nil))))
  (.cons (.asg (.nm 9) (.bin .add (.var 9) (.lst (.cons false (.tup (.cons false (.var 10) (.cons false (.bin .add (.var 11) (.sli (.var 11) .none (.some (.lit (.int 1))))) (.cons false (.var 12) (.cons false (.var 13) (.cons false (.var 14) .nil)))))) (.cons false (.tup (.cons false (.var 10) (.cons false (.var 11) (.cons false (.idx (.var 15) (.lit (.int 2))) (.cons false (.var 13) (.cons false (.var 14) .nil)))))) .nil)))))
  (.cons (.asg (.nm 9) (.bin .add (.var 9) (.lst (.cons false (.tup (.cons false (.var 10) (.cons false (.var 11) (.cons false (.var 12) (.cons false (.idx (.var 15) (.lit (.int 3))) (.cons false (.var 14) .nil)))))) (.cons false (.tup (.cons false (.var 10) (.cons false (.var 11) (.cons false (.var 12) (.cons false (.var 13) (.cons false (.bin .add (.idx (.var 15) (.lit (.int 4))) (.var 14)) .nil)))))) .nil)))))
  (.cons (.asg (.nm 16) (.idx (.var 9) (.call 19 (.cons false (.var 0) (.cons false (.bi .len (.cons (.var 9) .nil)) .nil)))))
  (.cons (.asg (.nm 17) (.lst (.cons false (.bin .add (.bin .add (.sli (.var 3) .none (.some (.var 6))) (.tup (.cons false (.var 16) .nil))) (.sli (.var 3) (.some (.bin .add (.var 6) (.lit (.int 1)))) .none)) (.cons false (.bin .add (.bin .add (.sli (.var 3) .none (.some (.var 6))) (.tup (.cons false (.var 16) .nil))) (.sli (.var 3) (.some (.var 6)) .none)) .nil))))
  (.cons (.ret (.tup (.cons false (.var 2) (.cons false (.idx (.var 17) (.call 19 (.cons false (.var 0) (.cons false (.lit (.int 2)) .nil)))) .nil))))
  .nil))))))))))))))))))))))))
abbrev df__law_bent_book : Dfn := ⟨"_law_bent_book", defArgs (top 56), defBody (top 56), defScope (top 56), nm__law_bent_book, ps__law_bent_book, cs__law_bent_book⟩
def nm__law_told : List PySem.Str := ["way", "thing", "found", "marks", "fault", "e"]
def ps__law_told : List PySem.Str := ["way", "thing"]
def cs__law_told : CSs := (.cons (.par [(2, false), (3, false), (4, false)] (.cons (.lit .non) (.cons (.lst .nil) (.cons (.lit .non) .nil))))
  (.cons (.tri (.cons (.ife (.cmp .eq (.var 0) (.lit (.int 0))) (.cons (.asg (.nm 2) (.call 10 (.cons false (.var 1) .nil)))
  .nil)
  (.cons (.ife (.cmp .eq (.var 0) (.lit (.int 1))) (.cons (.asg (.nm 2) (.callk 10 (asA .nil) (asA (.cons (.var 1) .nil)) [0]))
  .nil)
  (.cons (.ife (.cmp .eq (.var 0) (.lit (.int 2))) (.cons (.asg (.nm 2) (.call 37 (.cons false (.var 1) .nil)))
  .nil)
  (.cons (.asg (.nm 2) (.callk 17 (asA .nil) (asA (.cons (.var 1) .nil)) [0]))
  .nil))
  .nil))
  .nil))
  .nil)
  (.cons [1] 5 (.cons (.par [(4, false), (3, false)] (.cons (.tup (.cons false (.lit (.str z_states)) (.cons false (.fld 5 1 0) .nil))) (.cons (.lst (.cons false (.xis 5 [0]) (.cons false (.xis 5 [3]) .nil))) .nil)))
  .nil)
  (.cons [2] 5 (.cons (.par [(4, false), (3, false)] (.cons (.tup (.cons false (.lit (.str z_row)) (.cons false (.fld 5 2 0) (.cons false (.fld 5 2 1) .nil)))) (.cons (.lst (.cons false (.xis 5 [0]) (.cons false (.xis 5 [3]) .nil))) .nil)))
  .nil)
  .nil)))
  (.cons (.ife (.cmp .eq (.var 3) (.lst .nil)) (.cons (.ret (.tup (.cons false (.lit (.str z_fine)) (.cons false (.var 2) .nil))))
  .nil)
  .nil)
  (.cons (.ret (.ite (.cmp .eq (.var 3) (.lst (.cons false (.lit (.bl true)) (.cons false (.lit (.bl true)) .nil)))) (.var 4) (.tup (.cons false (.lit (.str z_odd)) .nil))))
  .nil))))
abbrev df__law_told : Dfn := ⟨"_law_told", defArgs (top 57), defBody (top 57), defScope (top 57), nm__law_told, ps__law_told, cs__law_told⟩
def nm_law : List PySem.Str := ["script", "at", "vault", "turn", "book_here", "due", "heard", "trial", "bent", "fault", "way"]
def ps_law : List PySem.Str := ["script"]
def cs_law : CSs := (.cons (.for_ (.nm 1) (.rng1 (.bi .max2 (.cons (.lit (.int 1)) (.cons (.bi .min2 (.cons (.lit (.int 5)) (.cons (.bi .len (.cons (.var 0) .nil)) .nil))) .nil)))) (.cons (.asg (.nm 2) (.call 18 (.cons false (.var 0) (.cons false (.var 1) .nil))))
  (.cons (.for_ (.nm 3) (.rng1 (.lit (.int 4))) (.cons (.asg (.nm 4) (.ite (.cmp .eq (.bin .and (.var 3) (.lit (.int 1))) (.lit (.int 0))) (.call 27 (.cons false (.var 2) (.cons false (.lit (.int 4)) (.cons false (.lit (.int 8)) (.cons false (.lit (.int 8)) .nil))))) (.call 28 (.cons false (.var 2) .nil))))
  (.cons (.asg (.nm 5) (.call 23 (.cons false (.idx (.var 4) (.lit (.int 0))) .nil)))
  (.cons (.asg (.nm 6) (.lst (.cons false (.call 34 (.cons false (.lit (.int 0)) (.cons false (.var 4) .nil))) (.cons false (.call 34 (.cons false (.lit (.int 1)) (.cons false (.var 4) .nil))) (.cons false (.call 34 (.cons false (.lit (.int 0)) (.cons false (.var 4) .nil))) .nil)))))
  (.cons (.asg (.nm 6) (.bin .add (.var 6) (.lst (.cons false (.call 34 (.cons false (.lit (.int 2)) (.cons false (.var 4) .nil))) .nil))))
  (.cons (.ife (.nt (.call 20 (.cons false (.var 6) (.cons false (.bin .add (.rep (.cons false (.tup (.cons false (.lit (.str z_fine)) (.cons false (.lit .non) .nil))) .nil) (.lit (.int 3))) (.lst (.cons false (.tup (.cons false (.lit (.str z_fine)) (.cons false (.var 5) .nil))) .nil))) .nil)))) (.cons (.ret (.lit (.bl false)))
  .nil)
  .nil)
  (.cons (.app (.idx (.idx (.var 6) (.lit (.int 3))) (.lit (.int 1))) (.lit (.str z_none)))
  (.cons (.ife (.nt (.call 20 (.cons false (.callk 11 (asA .nil) (asA (.cons (.var 4) .nil)) [0]) (.cons false (.var 5) .nil)))) (.cons (.ret (.lit (.bl false)))
  .nil)
  .nil)
  (.cons (.for_ (.nm 7) (.rng1 (.lit (.int 12))) (.cons (.asg (.nm 8) (.call 33 (.cons false (.var 2) (.cons false (.var 4) .nil))))
  (.cons (.ife (.and (.cons (.cmp .eq (.call 19 (.cons false (.var 2) (.cons false (.lit (.int 4)) .nil))) (.lit (.int 0))) (.cons (.cmp .ne (.idx (.var 8) (.lit (.int 0))) (.tup .nil)) (.cons (.cmp .isn (.call 32 (.cons false (.tup (.cons false (.idx (.var 8) (.lit (.int 0))) (.cons false (.tup .nil) .nil))) .nil)) (.lit .non)) .nil)))) (.cons (.asg (.nm 8) (.call 33 (.cons false (.var 2) (.cons false (.var 8) .nil))))
  .nil)
  .nil)
  (.cons (.asg (.nm 9) (.call 32 (.cons false (.var 8) .nil)))
  (.cons (.for_ (.nm 10) (.rng1 (.lit (.int 4))) (.cons (.asg (.nm 6) (.call 34 (.cons false (.var 10) (.cons false (.var 8) .nil))))
  (.cons (.ife (.or (.cons (.and (.cons (.cmp .isn (.var 9) (.lit .non)) (.cons (.cmp .ne (.idx (.var 6) (.lit (.int 0))) (.lit (.str z_fine))) .nil))) (.cons (.and (.cons (.cmp .nis (.var 9) (.lit .non)) (.cons (.nt (.call 20 (.cons false (.var 6) (.cons false (.var 9) .nil)))) .nil))) .nil))) (.cons (.ret (.lit (.bl false)))
  .nil)
  .nil)
  .nil)))
  .nil)))))
  .nil)))))))))
  .nil)))
  (.cons (.ret (.and (.cons (.cmp .eq (.call 34 (.cons false (.lit (.int 0)) (.cons false (.tup (.cons false (.tup .nil) (.cons false (.tup .nil) .nil))) .nil))) (.tup (.cons false (.lit (.str z_states)) (.cons false (.lit (.int 0)) .nil)))) (.cons (.cmp .eq (.call 34 (.cons false (.lit (.int 1)) (.cons false (.tup (.cons false (.tup (.cons false (.tup (.cons false (.lit (.str z_a)) (.cons false (.lit (.bl false)) (.cons false (.lit (.bl false)) .nil)))) .nil)) (.cons false (.tup .nil) .nil))) .nil))) (.tup (.cons false (.lit (.str z_fine)) (.cons false (.lit .non) .nil)))) .nil))))
  .nil))
abbrev df_law : Dfn := ⟨"law", defArgs (top 58), defBody (top 58), defScope (top 58), nm_law, ps_law, cs_law⟩
def nm_looks_of_g : List PySem.Str := ["states", "words", "at", "word"]
def ps_looks_of_g : List PySem.Str := ["states"]
def cs_looks_of_g : CSs := (.cons (.asg (.nm 1) (.tup (.cons false (.glo [70, 82, 69, 69] (.str z_free)) (.cons true (.call 1 (.cons false (.var 0) .nil)) .nil))))
  (.cons (.asg (.nm 2) (.lc [3] (.nm 3) (.seq (.var 1)) .none (.bin .add (.lit (.str z_at_)) (.var 3))))
  (.cons (.retG (.lst (.cons true (.var 2) (.cons true (.lc [3] (.nm 3) (.seq (.var 1)) .none (.bin .add (.lit (.str z_not_)) (.var 3))) (.cons true (.glo [83, 69, 78, 68, 69, 82, 95, 76, 79, 79, 75, 83] (.tup [(.str z_mine), (.str z_other), (.str z_same), (.str z_still)])) (.cons true (.glo [83, 69, 65, 84, 95, 76, 79, 79, 75, 83] (.tup [(.str z_running), (.str z_over), (.str z_unpaid), (.str z_paid)])) .nil))))))
  .nil)))
abbrev df_looks_of_g : Dfn := ⟨"looks_of", defArgs (top 25), defBody (top 25), defScope (top 25), nm_looks_of_g, ps_looks_of_g, cs_looks_of_g⟩
def nm_looks_for_g : List PySem.Str := ["book"]
def ps_looks_for_g : List PySem.Str := ["book"]
def cs_looks_for_g : CSs := (.cons (.ex (.call 10 (.cons false (.var 0) .nil)))
  (.cons (.ret (.call 36 (.cons false (.idx (.var 0) (.lit (.int 0))) .nil)))
  .nil))
abbrev df_looks_for_g : Dfn := ⟨"looks_for", defArgs (top 33), defBody (top 33), defScope (top 33), nm_looks_for_g, ps_looks_for_g, cs_looks_for_g⟩
def Ds : List Dfn := ([df_is_word, df_words_of, df_view_words, df_looks_of, df_deeds_of, df_is_each_once, df_wrong_state, df_are_marks, df_wrong_part, df_check_rows, df_check_book, df_looks_for, df_state_text, df_states_text, df_listed, df_row_text, df_book_text, df_show_book, df__law_vault, df__law_heave] : List Dfn) ++ ([df__law_agree, df__law_call_words, df__law_drawn_states, df__law_all_looks, df__law_all_views, df__law_some, df__law_drawn_row, df__law_drawn_book, df__law_shop_book, df__law_is_term, df__law_once, df__law_first_part, df__law_fault, df__law_bent_book, df__law_told, df_law, df_looks_of_g, df_looks_for_g] : List Dfn)
def ini1 : Ini := ⟨"InvalidStates", "InvalidStates.__init__", defArgs ((clsBody (top 2)).getD 0 (.Pass ⟨0, 0, 0, 0⟩)), defBody ((clsBody (top 2)).getD 0 (.Pass ⟨0, 0, 0, 0⟩)), defScope ((clsBody (top 2)).getD 0 (.Pass ⟨0, 0, 0, 0⟩)), ["self", "index"]⟩
def ini2 : Ini := ⟨"InvalidRow", "InvalidRow.__init__", defArgs ((clsBody (top 3)).getD 0 (.Pass ⟨0, 0, 0, 0⟩)), defBody ((clsBody (top 3)).getD 0 (.Pass ⟨0, 0, 0, 0⟩)), defScope ((clsBody (top 3)).getD 0 (.Pass ⟨0, 0, 0, 0⟩)), ["self", "index", "part"]⟩
def Is : List Ini := [ini1, ini2]
def cs : Cls := [("HoldError", []), ("InvalidStates", ["index"]), ("InvalidRow", ["index", "part"])]
def tb : List (List Bool) := [[true, false, false, true], [true, true, false, true], [true, false, true, true]]
/-! the meanings -/
def Φd (n : Nat) : Ev := ⟨runs (pg Ds) (subB tb) n, subB tb⟩
def F_is_word (n : Nat) : DF := fnD (Φd n) 1 2 cs_is_word
def F_words_of (n : Nat) : DF := fnD (Φd n) 1 4 cs_words_of
def F_view_words (n : Nat) : DF := fnD (Φd n) 1 3 cs_view_words
def F_looks_of (n : Nat) : DF := fnD (Φd n) 1 4 cs_looks_of
def F_deeds_of (n : Nat) : DF := fnD (Φd n) 2 5 cs_deeds_of
def F_is_each_once (n : Nat) : DF := fnD (Φd n) 1 2 cs_is_each_once
def F_wrong_state (n : Nat) : DF := fnD (Φd n) 1 5 cs_wrong_state
def F_are_marks (n : Nat) : DF := fnD (Φd n) 1 7 cs_are_marks
def F_wrong_part (n : Nat) : DF := fnD (Φd n) 3 10 cs_wrong_part
def F_check_rows (n : Nat) : DF := fnD (Φd n) 3 8 cs_check_rows
def F_check_book (n : Nat) : DF := fnD (Φd n) 1 4 cs_check_book
def F_looks_for (n : Nat) : DF := fnD (Φd n) 1 1 cs_looks_for
def F_state_text (n : Nat) : DF := fnD (Φd n) 1 4 cs_state_text
def F_states_text (n : Nat) : DF := fnD (Φd n) 1 2 cs_states_text
def F_listed (n : Nat) : DF := fnD (Φd n) 1 1 cs_listed
def F_row_text (n : Nat) : DF := fnD (Φd n) 1 7 cs_row_text
def F_book_text (n : Nat) : DF := fnD (Φd n) 1 5 cs_book_text
def F_show_book (n : Nat) : DF := fnD (Φd n) 1 1 cs_show_book
def F__law_vault (n : Nat) : DF := fnD (Φd n) 2 3 cs__law_vault
def F__law_heave (n : Nat) : DF := fnD (Φd n) 2 4 cs__law_heave
def F__law_agree (n : Nat) : DF := fnD (Φd n) 2 3 cs__law_agree
def F__law_call_words (n : Nat) : DF := fnD (Φd n) 3 11 cs__law_call_words
def F__law_drawn_states (n : Nat) : DF := fnD (Φd n) 2 5 cs__law_drawn_states
def F__law_all_looks (n : Nat) : DF := fnD (Φd n) 1 5 cs__law_all_looks
def F__law_all_views (n : Nat) : DF := fnD (Φd n) 1 4 cs__law_all_views
def F__law_some (n : Nat) : DF := fnD (Φd n) 3 8 cs__law_some
def F__law_drawn_row (n : Nat) : DF := fnD (Φd n) 4 14 cs__law_drawn_row
def F__law_drawn_book (n : Nat) : DF := fnD (Φd n) 4 7 cs__law_drawn_book
def F__law_shop_book (n : Nat) : DF := fnD (Φd n) 1 8 cs__law_shop_book
def F__law_is_term (n : Nat) : DF := fnD (Φd n) 1 3 cs__law_is_term
def F__law_once (n : Nat) : DF := fnD (Φd n) 1 2 cs__law_once
def F__law_first_part (n : Nat) : DF := fnD (Φd n) 3 17 cs__law_first_part
def F__law_fault (n : Nat) : DF := fnD (Φd n) 1 10 cs__law_fault
def F__law_bent_book (n : Nat) : DF := fnD (Φd n) 2 19 cs__law_bent_book
def F__law_told (n : Nat) : DF := fnD (Φd n) 2 6 cs__law_told
def F_law (n : Nat) : DF := fnD (Φd n) 1 11 cs_law
def F_looks_of_g (n : Nat) : DF := fnD (Φd n) 1 4 cs_looks_of_g
def F_looks_for_g (n : Nat) : DF := fnD (Φd n) 1 1 cs_looks_for_g
end DL
end

section
set_option Elab.async false
set_option linter.all false
set_option autoImplicit false
set_option maxRecDepth 100000
set_option maxHeartbeats 0
namespace DL
open PySem PySem.Spec PyProof.Rows L2
local macro_rules | `(tactic| walk_at "mem") => `(tactic| first | exact List.Mem.head _ | (refine List.Mem.tail _ ?_; walk_at "mem"))
local macro_rules | `(tactic| walk_at "E.var") => `(tactic| exact x_var (by assumption) (by kernel_rfl))
local macro_rules | `(tactic| walk_at "E.glo") => `(tactic| exact x_glo' (by assumption) (by kernel_rfl) (by rfl))
local macro_rules | `(tactic| walk_at "E.Const") => `(tactic| first | exact x_int | exact x_str (by kernel_rfl) | exact x_bl | exact x_non)
local macro_rules | `(tactic| walk_at "E.rep") => `(tactic| refine x_rep ?_ ?_)
local macro_rules | `(tactic| walk_at "E.bin") => `(tactic| refine x_bin (by assumption) rfl ?_ ?_)
local macro_rules | `(tactic| walk_at "E.cmp") => `(tactic| refine x_cmp (by assumption) rfl ?_ ?_ rfl)
local macro_rules | `(tactic| walk_at "E.chn") => `(tactic| refine x_chn (by assumption) rfl rfl ?_ ?_ ?_ rfl)
local macro_rules | `(tactic| walk_at "E.and") => `(tactic| first | refine x_and1 ?_ | refine x_and ?_ ?_)
local macro_rules | `(tactic| walk_at "E.or") => `(tactic| first | refine x_or1 ?_ | refine x_or ?_ ?_)
local macro_rules | `(tactic| walk_at "E.nt") => `(tactic| refine x_nt ?_)
local macro_rules | `(tactic| walk_at "E.neg") => `(tactic| refine x_neg ?_)
local macro_rules | `(tactic| walk_at "E.ite") => `(tactic| refine x_ite ?_ ?_ ?_)
local macro_rules | `(tactic| walk_at "E.tup") => `(tactic| refine x_tup ?_)
local macro_rules | `(tactic| walk_at "E.lst") => `(tactic| refine x_lst ?_)
local macro_rules | `(tactic| walk_at "E.rev") => `(tactic| refine x_rev (by assumption) ?_)
local macro_rules | `(tactic| walk_at "E.sli") => `(tactic| refine x_sli (by assumption) ?_ ?_ ?_)
local macro_rules | `(tactic| walk_at "E.idx") => `(tactic| refine x_idx (by assumption) ?_ ?_ (fun _ _ => rfl))
local macro_rules | `(tactic| walk_at "E.call") => `(tactic| first | refine x_call (by assumption) (by kernel_rfl) rfl ?_ rfl rfl | exact x_call0 (by assumption) (by kernel_rfl) rfl)
local macro_rules | `(tactic| walk_at "E.bi.len") => `(tactic| refine x_len (by assumption) (by kernel_rfl) ?_ rfl rfl)
local macro_rules | `(tactic| walk_at "E.bi.abs") => `(tactic| refine x_abs (by assumption) (by kernel_rfl) ?_ rfl rfl)
local macro_rules | `(tactic| walk_at "E.bi.max2") => `(tactic| refine x_max (by assumption) (by assumption) (by kernel_rfl) ?_ rfl rfl)
local macro_rules | `(tactic| walk_at "E.bi.min2") => `(tactic| refine x_min (by assumption) (by assumption) (by kernel_rfl) ?_ rfl rfl)
local macro_rules | `(tactic| walk_at "E.bi.all") => `(tactic| refine x_all (by assumption) (by assumption) (by kernel_rfl) ?_ rfl rfl)
local macro_rules | `(tactic| walk_at "E.bi.any") => `(tactic| refine x_any (by assumption) (by assumption) (by kernel_rfl) ?_ rfl rfl)
local macro_rules | `(tactic| walk_at "E.bi.int1") => `(tactic| refine x_intC (by assumption) (by kernel_rfl) ?_ rfl rfl)
local macro_rules | `(tactic| walk_at "E.bi.tuple") => `(tactic| refine x_tuple (by assumption) (by kernel_rfl) ?_ rfl rfl)
local macro_rules | `(tactic| walk_at "E.bi.list") => `(tactic| refine x_list (by assumption) (by kernel_rfl) ?_ rfl rfl)
local macro_rules | `(tactic| walk_at "E.isi") => `(tactic| first
      | refine x_isi1 (by assumption) rfl (by kernel_rfl) ?_ (by kernel_rfl) (by first | exact PyProof.Rows.boot_bool | exact PyProof.Rows.boot_int | exact PyProof.Rows.boot_str | exact PyProof.Rows.boot_list | exact PyProof.Rows.boot_tuple) rfl
      | refine x_isi2 (by assumption) rfl rfl (by kernel_rfl) ?_ (by kernel_rfl) (by first | exact PyProof.Rows.boot_list | exact PyProof.Rows.boot_tuple) (by kernel_rfl) (by first | exact PyProof.Rows.boot_list | exact PyProof.Rows.boot_tuple) rfl)
local macro_rules | `(tactic| walk_at "E.me") => `(tactic| refine x_me (by assumption) rfl ?_ ?_ rfl rfl rfl)
local macro_rules | `(tactic| walk_at "E.get") => `(tactic| refine x_get (by assumption) ?_ ?_ ?_ rfl rfl rfl rfl)
local macro_rules | `(tactic| walk_at "E.fst") => `(tactic| refine x_fst ?_)
local macro_rules | `(tactic| walk_at "E.callk") => `(tactic| first | refine x_callk0 (by assumption) (by kernel_rfl) (by walk_at "mem") rfl ?_ rfl rfl rfl | refine x_callk (by assumption) (by kernel_rfl) (by walk_at "mem") rfl ?_ ?_ rfl rfl rfl rfl)
local macro_rules | `(tactic| walk_at "E.lc") => `(tactic| refine x_lc (by assumption) (by assumption) (by kernel_rfl) (by kernel_rfl) ?_ ?_ ?_ ?_ (fun _ => rfl))
local macro_rules | `(tactic| walk_at "E.dc") => `(tactic| refine x_dc (by assumption) (by assumption) (by kernel_rfl) (by kernel_rfl) ?_ ?_ ?_ ?_ (fun _ => rfl))
local macro_rules | `(tactic| walk_at "E.xis") => `(tactic| exact x_xis (by assumption) (by assumption) (by kernel_rfl) (by kernel_rfl) (by kernel_rfl) (by walk_at "mem"))
local macro_rules | `(tactic| walk_at "E.fld") => `(tactic| exact x_fld (by assumption) (by assumption) (by kernel_rfl) (by walk_at "mem") (by kernel_rfl) rfl)
local macro_rules | `(tactic| walk_at "T.cmp") => `(tactic| refine t_cmp (by assumption) rfl ?_ ?_ rfl)
local macro_rules | `(tactic| walk_at "T.chn") => `(tactic| refine t_chn (by assumption) rfl rfl ?_ ?_ ?_ rfl)
local macro_rules | `(tactic| walk_at "T.nt") => `(tactic| refine t_nt ?_)
local macro_rules | `(tactic| walk_at "T.and") => `(tactic| refine t_bop ?_)
local macro_rules | `(tactic| walk_at "T.or") => `(tactic| refine t_bop ?_)
local macro_rules | `(tactic| walk_at "T.any") => `(tactic| refine t_val ?_ (fun _ => rfl))
local macro_rules | `(tactic| walk_at "W.and") => `(tactic| first | refine w_and1 ?_ | refine w_and ?_ ?_)
local macro_rules | `(tactic| walk_at "W.or") => `(tactic| first | refine w_or1 ?_ | refine w_or ?_ ?_)
local macro_rules | `(tactic| walk_at "A.nil") => `(tactic| exact a_nil)
local macro_rules | `(tactic| walk_at "A.any") => `(tactic| first | refine a_cons ?_ ?_ rfl | refine a_star (by assumption) ?_ ?_ rfl)
local macro_rules | `(tactic| walk_at "B.nil") => `(tactic| exact b_nil)
local macro_rules | `(tactic| walk_at "B.any") => `(tactic| refine b_cons ?_ ?_ rfl)
local macro_rules | `(tactic| walk_at "K.nil") => `(tactic| exact k_nil)
local macro_rules | `(tactic| walk_at "K.any") => `(tactic| refine k_cons ?_ ?_)
local macro_rules | `(tactic| walk_at "L.any") => `(tactic| first | refine l_one ?_ rfl | refine l_cons ?_ ?_ rfl)
local macro_rules | `(tactic| walk_at "O.none") => `(tactic| exact o_none)
local macro_rules | `(tactic| walk_at "O.any") => `(tactic| refine o_some ?_)
local macro_rules | `(tactic| walk_at "F.nil") => `(tactic| exact f0)
local macro_rules | `(tactic| walk_at "F.any") => `(tactic| first | refine f1 ?_ ?_ | refine f2 ?_ ?_)
local macro_rules | `(tactic| walk_at "I.rng1") => `(tactic| refine i_rng1C (by assumption) (by kernel_rfl) ?_ rfl)
local macro_rules | `(tactic| walk_at "I.rng2") => `(tactic| refine i_rng2C (by assumption) (by kernel_rfl) ?_ ?_ rfl rfl)
local macro_rules | `(tactic| walk_at "I.enum") => `(tactic| refine i_enumC (by assumption) (by kernel_rfl) ?_ rfl)
local macro_rules | `(tactic| walk_at "I.zip") => `(tactic| refine i_zipC (by assumption) (by kernel_rfl) ?_ ?_ rfl rfl)
local macro_rules | `(tactic| walk_at "I.seq") => `(tactic| refine i_seqC (by assumption) ?_)
local macro_rules | `(tactic| walk_at "G.nm") => `(tactic| exact g_nm (by assumption) (by kernel_rfl))
local macro_rules | `(tactic| walk_at "G.tp") => `(tactic| refine g_tp (by assumption) (by assumption) ?_ rfl rfl)
local macro_rules | `(tactic| walk_at "Gs.nil") => `(tactic| exact gs0)
local macro_rules | `(tactic| walk_at "Gs.any") => `(tactic| refine gs1 ?_ ?_ rfl)
local macro_rules | `(tactic| walk_at "Ts.nil") => `(tactic| exact ts0)
local macro_rules | `(tactic| walk_at "Ts.any") => `(tactic| refine ts1 ?_)
local macro_rules | `(tactic| walk_at "N.lst") => `(tactic| refine y_lst ?_)
local macro_rules | `(tactic| walk_at "N.cat") => `(tactic| refine y_cat (by assumption) ?_ ?_)
local macro_rules | `(tactic| walk_at "N.dct") => `(tactic| exact y_dic)
local macro_rules | `(tactic| walk_at "N.lc") => `(tactic| refine y_lc (by assumption) (by assumption) (by kernel_rfl) (by kernel_rfl) ?_ ?_ ?_ ?_ (fun _ => rfl))
local macro_rules | `(tactic| walk_at "Ss.nil") => `(tactic| exact ss0)
local macro_rules | `(tactic| walk_at "Ss.any") => `(tactic| refine ss1 ?_ ?_)
local macro_rules | `(tactic| walk_at "S.asg") => `(tactic| first
      | refine s_asgLcC (by assumption) (by assumption) (by kernel_rfl) (by decide +kernel) (by kernel_rfl) (by kernel_rfl) ?_ ?_ ?_ ?_ (fun _ => rfl)
      | refine s_asgC ?_ ?_ rfl rfl rfl
      | refine s_asgE (by assumption) ?_ ?_ (fun _ => rfl) (fun _ => rfl) rfl)
local macro_rules | `(tactic| walk_at "S.own") => `(tactic| first
      | refine s_ownLcC (by assumption) (by assumption) (by kernel_rfl) (by decide +kernel) (by kernel_rfl) (by kernel_rfl) ?_ ?_ ?_ ?_ (fun _ => rfl)
      | refine s_ownC (by assumption) (by kernel_rfl) ?_ rfl
      | refine s_ownE (by assumption) (by kernel_rfl) ?_ (fun _ => rfl))
local macro_rules | `(tactic| walk_at "S.glb") => `(tactic| refine s_glbC (by assumption) (by kernel_rfl) ?_ rfl)
local macro_rules | `(tactic| walk_at "S.ret") => `(tactic| refine s_retC ?_)
local macro_rules | `(tactic| walk_at "S.retN") => `(tactic| exact s_retNC)
local macro_rules | `(tactic| walk_at "S.retG") => `(tactic| refine s_retGC ?_)
local macro_rules | `(tactic| walk_at "S.ife") => `(tactic| refine s_ifeC ?_ ?_ ?_)
local macro_rules | `(tactic| walk_at "S.whl") => `(tactic| refine s_whlC (by assumption) ?_ ?_)
local macro_rules | `(tactic| walk_at "S.for_") => `(tactic| refine s_forC (by assumption) (by assumption) ?_ ?_ ?_ (fun _ => rfl))
local macro_rules | `(tactic| walk_at "S.brk") => `(tactic| exact s_brkC)
local macro_rules | `(tactic| walk_at "S.cnt") => `(tactic| exact s_cntC)
local macro_rules | `(tactic| walk_at "S.pas") => `(tactic| exact s_pasC)
local macro_rules | `(tactic| walk_at "S.app") => `(tactic| refine s_appC (by assumption) ?_ ?_ rfl rfl rfl rfl rfl)
local macro_rules | `(tactic| walk_at "S.ex") => `(tactic| refine s_exC ?_ rfl)
local macro_rules | `(tactic| walk_at "S.sti") => `(tactic| refine s_stiC (by assumption) ?_ ?_ ?_ (fun _ => rfl) rfl rfl rfl)
local macro_rules | `(tactic| walk_at "S.par") => `(tactic| first
      | refine s_par2 (by assumption) (by assumption) (by kernel_rfl) (by kernel_rfl) rfl ?_ (fun _ => rfl) rfl
      | refine s_par2N (by assumption) (by assumption) (by kernel_rfl) (by kernel_rfl) rfl ?_ (fun _ => rfl) rfl
      | refine s_par3 (by assumption) (by assumption) (by kernel_rfl) (by kernel_rfl) (by kernel_rfl) rfl rfl rfl ?_ (fun _ => rfl) rfl
      | refine s_par3N (by assumption) (by assumption) (by kernel_rfl) (by kernel_rfl) (by kernel_rfl) rfl rfl rfl ?_ (fun _ => rfl) rfl
      | refine s_par2H (by assumption) (Su.hot (by assumption)) (by kernel_rfl) (by kernel_rfl) rfl ?_ (fun _ => rfl) rfl
      | refine s_parT2 (by assumption) (by assumption) (by kernel_rfl) (by kernel_rfl) ?_ (fun _ => rfl) rfl
      | refine s_parT2N (by assumption) (by assumption) (by kernel_rfl) (by kernel_rfl) ?_ (fun _ => rfl) rfl)
local macro_rules | `(tactic| walk_at "S.tri") => `(tactic| refine s_triC (by assumption) (by assumption) ?_ ?_)
local macro_rules | `(tactic| walk_at "H.nil") => `(tactic| exact h_nil)
local macro_rules | `(tactic| walk_at "H.any") => `(tactic| refine h_cons (by assumption) (by assumption) (by kernel_rfl) (by kernel_rfl) (by walk_at "mem") ?_ ?_)
local macro_rules | `(tactic| walk_at "S.rai") => `(tactic| refine s_raiC (by assumption) (by assumption) (by kernel_rfl) (by walk_at "mem") rfl ?_ rfl rfl)
local macro_rules | `(tactic| walk_at "in") => `(tactic| (intros; try (have hq1 := Cd.own (by assumption); have hq2 := Cd.calm (by assumption))))
theorem b_is_word (Ω : Om) (X : Cx) (W : WX) (Φ : Ev) (C : Cz Ω X W Φ nm_is_word (defScope (top 22)) (cellsOf (defScope (top 22))) T) (K : Cd Ω X Φ T) : XSs Ω W X Φ (defBody (top 22)) cs_is_word := by
  have hcalm := K.calm
  have hown := K.own
  unfold cs_is_word
  walk_at "Ss.any"; walk_at "S.ret"; walk_at "E.and"; walk_at "E.chn"; walk_at "E.Const"; walk_at "E.bi.len"
  walk_at "B.any"; walk_at "E.var"; walk_at "B.nil"; walk_at "E.glo"; walk_at "E.and"; walk_at "E.bi.all"
  walk_at "B.any"; walk_at "E.lc"; walk_at "I.seq"; walk_at "E.var"; walk_at "in"; walk_at "G.nm"
  walk_at "in"; walk_at "Ts.nil"; walk_at "in"; walk_at "E.cmp"; walk_at "E.var"; walk_at "E.glo"
  walk_at "B.nil"; walk_at "Ss.nil"
theorem b_words_of (Ω : Om) (X : Cx) (W : WX) (Φ : Ev) (C : Cz Ω X W Φ nm_words_of (defScope (top 23)) (cellsOf (defScope (top 23))) T) (K : Cd Ω X Φ T) : XSs Ω W X Φ (defBody (top 23)) cs_words_of := by
  have hcalm := K.calm
  have hown := K.own
  unfold cs_words_of
  walk_at "Ss.any"; walk_at "S.ret"; walk_at "E.bi.tuple"; walk_at "B.any"; walk_at "E.lc"; walk_at "I.seq"
  walk_at "E.var"; walk_at "in"; walk_at "G.tp"; walk_at "Gs.any"; walk_at "G.nm"; walk_at "Gs.any"
  walk_at "G.nm"; walk_at "Gs.any"; walk_at "G.nm"; walk_at "Gs.nil"; walk_at "in"; walk_at "Ts.nil"
  walk_at "in"; walk_at "E.var"; walk_at "B.nil"; walk_at "Ss.nil"
theorem b_view_words (Ω : Om) (X : Cx) (W : WX) (Φ : Ev) (C : Cz Ω X W Φ nm_view_words (defScope (top 24)) (cellsOf (defScope (top 24))) T) (K : Cd Ω X Φ T) : XSs Ω W X Φ (defBody (top 24)) cs_view_words := by
  have hcalm := K.calm
  have hown := K.own
  unfold cs_view_words
  walk_at "Ss.any"; walk_at "S.asg"; walk_at "E.call"; walk_at "A.any"; walk_at "E.var"; walk_at "A.nil"
  walk_at "G.nm"; walk_at "Ss.any"; walk_at "S.ret"; walk_at "E.lst"; walk_at "A.any"; walk_at "E.glo"
  walk_at "A.any"; walk_at "E.lc"; walk_at "I.seq"; walk_at "E.var"; walk_at "in"; walk_at "G.nm"
  walk_at "in"; walk_at "Ts.nil"; walk_at "in"; walk_at "E.bin"; walk_at "E.glo"; walk_at "E.var"
  walk_at "A.any"; walk_at "E.lc"; walk_at "I.seq"; walk_at "E.var"; walk_at "in"; walk_at "G.nm"
  walk_at "in"; walk_at "Ts.nil"; walk_at "in"; walk_at "E.bin"; walk_at "E.glo"; walk_at "E.var"
  walk_at "A.nil"; walk_at "Ss.nil"
theorem b_looks_of (Ω : Om) (X : Cx) (W : WX) (Φ : Ev) (C : Cz Ω X W Φ nm_looks_of (defScope (top 25)) (cellsOf (defScope (top 25))) T) (K : Cd Ω X Φ T) : XSs Ω W X Φ (defBody (top 25)) cs_looks_of := by
  have hcalm := K.calm
  have hown := K.own
  unfold cs_looks_of
  walk_at "Ss.any"; walk_at "S.asg"; walk_at "E.tup"; walk_at "A.any"; walk_at "E.glo"; walk_at "A.any"
  walk_at "E.call"; walk_at "A.any"; walk_at "E.var"; walk_at "A.nil"; walk_at "A.nil"; walk_at "G.nm"
  walk_at "Ss.any"; walk_at "S.asg"; walk_at "I.seq"; walk_at "E.var"; walk_at "in"; walk_at "G.nm"
  walk_at "in"; walk_at "Ts.nil"; walk_at "in"; walk_at "E.bin"; walk_at "E.Const"; walk_at "E.var"
  walk_at "Ss.any"; walk_at "S.ret"; walk_at "E.lst"; walk_at "A.any"; walk_at "E.var"; walk_at "A.any"
  walk_at "E.lc"; walk_at "I.seq"; walk_at "E.var"; walk_at "in"; walk_at "G.nm"; walk_at "in"
  walk_at "Ts.nil"; walk_at "in"; walk_at "E.bin"; walk_at "E.Const"; walk_at "E.var"; walk_at "A.any"
  walk_at "E.glo"; walk_at "A.any"; walk_at "E.glo"; walk_at "A.nil"; walk_at "Ss.nil"
theorem b_deeds_of (Ω : Om) (X : Cx) (W : WX) (Φ : Ev) (C : Cz Ω X W Φ nm_deeds_of (defScope (top 26)) (cellsOf (defScope (top 26))) T) (K : Cd Ω X Φ T) : XSs Ω W X Φ (defBody (top 26)) cs_deeds_of := by
  have hcalm := K.calm
  have hown := K.own
  unfold cs_deeds_of
  walk_at "Ss.any"; walk_at "S.asg"; walk_at "E.call"; walk_at "A.any"; walk_at "E.var"; walk_at "A.nil"
  walk_at "G.nm"; walk_at "Ss.any"; walk_at "S.asg"; walk_at "E.ite"; walk_at "T.any"; walk_at "E.var"
  walk_at "E.lst"; walk_at "A.nil"; walk_at "E.lc"; walk_at "I.seq"; walk_at "E.var"; walk_at "in"
  walk_at "G.nm"; walk_at "in"; walk_at "Ts.nil"; walk_at "in"; walk_at "E.bin"; walk_at "E.glo"
  walk_at "E.var"; walk_at "G.nm"; walk_at "Ss.any"; walk_at "S.ret"; walk_at "E.lst"; walk_at "A.any"
  walk_at "E.Const"; walk_at "A.any"; walk_at "E.var"; walk_at "A.any"; walk_at "E.lc"; walk_at "I.seq"
  walk_at "E.var"; walk_at "in"; walk_at "G.nm"; walk_at "in"; walk_at "Ts.nil"; walk_at "in"
  walk_at "E.bin"; walk_at "E.glo"; walk_at "E.var"; walk_at "A.any"; walk_at "E.glo"; walk_at "A.any"
  walk_at "E.glo"; walk_at "A.nil"; walk_at "Ss.nil"
theorem b_is_each_once (Ω : Om) (X : Cx) (W : WX) (Φ : Ev) (C : Cz Ω X W Φ nm_is_each_once (defScope (top 27)) (cellsOf (defScope (top 27))) T) (K : Cd Ω X Φ T) : XSs Ω W X Φ (defBody (top 27)) cs_is_each_once := by
  have hcalm := K.calm
  have hown := K.own
  unfold cs_is_each_once
  walk_at "Ss.any"; walk_at "S.ret"; walk_at "E.cmp"; walk_at "E.bi.len"; walk_at "B.any"; walk_at "E.dc"
  walk_at "I.seq"; walk_at "E.var"; walk_at "in"; walk_at "G.nm"; walk_at "in"; walk_at "E.var"
  walk_at "in"; walk_at "E.Const"; walk_at "B.nil"; walk_at "E.bi.len"; walk_at "B.any"; walk_at "E.var"
  walk_at "B.nil"; walk_at "Ss.nil"
theorem b_wrong_state (Ω : Om) (X : Cx) (W : WX) (Φ : Ev) (C : Cz Ω X W Φ nm_wrong_state (defScope (top 28)) (cellsOf (defScope (top 28))) T) (K : Cd Ω X Φ T) : XSs Ω W X Φ (defBody (top 28)) cs_wrong_state := by
  have hcalm := K.calm
  have hown := K.own
  unfold cs_wrong_state
  walk_at "Ss.any"; walk_at "S.for_"; walk_at "I.enum"; walk_at "E.var"; walk_at "G.tp"; walk_at "Gs.any"
  walk_at "G.nm"; walk_at "Gs.any"; walk_at "G.tp"; walk_at "Gs.any"; walk_at "G.nm"; walk_at "Gs.any"
  walk_at "G.nm"; walk_at "Gs.any"; walk_at "G.nm"; walk_at "Gs.nil"; walk_at "Gs.nil"; walk_at "Ss.any"
  walk_at "S.ife"; walk_at "T.or"; walk_at "W.or"; walk_at "T.nt"; walk_at "T.any"; walk_at "E.call"
  walk_at "A.any"; walk_at "E.var"; walk_at "A.nil"; walk_at "W.or"; walk_at "T.cmp"; walk_at "E.var"
  walk_at "E.glo"; walk_at "W.or"; walk_at "T.and"; walk_at "W.and"; walk_at "T.any"; walk_at "E.var"
  walk_at "W.and"; walk_at "T.any"; walk_at "E.var"; walk_at "W.or"; walk_at "T.cmp"; walk_at "E.var"
  walk_at "E.call"; walk_at "A.any"; walk_at "E.sli"; walk_at "E.var"; walk_at "O.none"; walk_at "O.any"
  walk_at "E.var"; walk_at "A.nil"; walk_at "Ss.any"; walk_at "S.ret"; walk_at "E.var"; walk_at "Ss.nil"
  walk_at "Ss.nil"; walk_at "Ss.nil"; walk_at "Ss.any"; walk_at "S.ret"; walk_at "E.ite"; walk_at "T.cmp"
  walk_at "E.var"; walk_at "E.tup"; walk_at "A.nil"; walk_at "E.Const"; walk_at "E.Const"; walk_at "Ss.nil"
theorem b_are_marks (Ω : Om) (X : Cx) (W : WX) (Φ : Ev) (C : Cz Ω X W Φ nm_are_marks (defScope (top 29)) (cellsOf (defScope (top 29))) T) (K : Cd Ω X Φ T) : XSs Ω W X Φ (defBody (top 29)) cs_are_marks := by
  have hcalm := K.calm
  have hown := K.own
  unfold cs_are_marks
  walk_at "Ss.any"; walk_at "S.asg"; walk_at "E.var"; walk_at "G.tp"; walk_at "Gs.any"; walk_at "G.nm"
  walk_at "Gs.any"; walk_at "G.nm"; walk_at "Gs.any"; walk_at "G.nm"; walk_at "Gs.any"; walk_at "G.nm"
  walk_at "Gs.any"; walk_at "G.nm"; walk_at "Gs.nil"; walk_at "Ss.any"; walk_at "S.ife"; walk_at "T.or"
  walk_at "W.or"; walk_at "T.nt"; walk_at "T.any"; walk_at "E.call"; walk_at "A.any"; walk_at "E.var"
  walk_at "A.nil"; walk_at "W.or"; walk_at "T.nt"; walk_at "T.any"; walk_at "E.bi.all"; walk_at "B.any"
  walk_at "E.lc"; walk_at "I.seq"; walk_at "E.var"; walk_at "in"; walk_at "G.nm"; walk_at "in"
  walk_at "Ts.nil"; walk_at "in"; walk_at "E.cmp"; walk_at "E.var"; walk_at "E.glo"; walk_at "B.nil"
  walk_at "Ss.any"; walk_at "S.ret"; walk_at "E.Const"; walk_at "Ss.nil"; walk_at "Ss.nil"; walk_at "Ss.any"
  walk_at "S.ife"; walk_at "T.or"; walk_at "W.or"; walk_at "T.and"; walk_at "W.and"; walk_at "T.cmp"
  walk_at "E.glo"; walk_at "E.var"; walk_at "W.and"; walk_at "T.cmp"; walk_at "E.var"; walk_at "E.glo"
  walk_at "W.or"; walk_at "T.and"; walk_at "W.and"; walk_at "T.cmp"; walk_at "E.glo"; walk_at "E.var"
  walk_at "W.and"; walk_at "T.cmp"; walk_at "E.var"; walk_at "E.tup"; walk_at "A.nil"; walk_at "Ss.any"
  walk_at "S.ret"; walk_at "E.Const"; walk_at "Ss.nil"; walk_at "Ss.nil"; walk_at "Ss.any"; walk_at "S.ret"
  walk_at "E.or"; walk_at "E.cmp"; walk_at "E.var"; walk_at "E.Const"; walk_at "E.or"; walk_at "E.cmp"
  walk_at "E.var"; walk_at "E.tup"; walk_at "A.nil"; walk_at "Ss.nil"
theorem b_wrong_part (Ω : Om) (X : Cx) (W : WX) (Φ : Ev) (C : Cz Ω X W Φ nm_wrong_part (defScope (top 30)) (cellsOf (defScope (top 30))) T) (K : Cd Ω X Φ T) : XSs Ω W X Φ (defBody (top 30)) cs_wrong_part := by
  have hcalm := K.calm
  have hown := K.own
  unfold cs_wrong_part
  walk_at "Ss.any"; walk_at "S.asg"; walk_at "E.var"; walk_at "G.tp"; walk_at "Gs.any"; walk_at "G.nm"
  walk_at "Gs.any"; walk_at "G.nm"; walk_at "Gs.any"; walk_at "G.nm"; walk_at "Gs.any"; walk_at "G.nm"
  walk_at "Gs.any"; walk_at "G.nm"; walk_at "Gs.nil"; walk_at "Ss.any"; walk_at "S.ife"; walk_at "T.or"
  walk_at "W.or"; walk_at "T.nt"; walk_at "T.any"; walk_at "E.call"; walk_at "A.any"; walk_at "E.var"
  walk_at "A.nil"; walk_at "W.or"; walk_at "T.cmp"; walk_at "E.var"; walk_at "E.var"; walk_at "Ss.any"
  walk_at "S.ret"; walk_at "E.Const"; walk_at "Ss.nil"; walk_at "Ss.nil"; walk_at "Ss.any"; walk_at "S.ife"
  walk_at "T.or"; walk_at "W.or"; walk_at "T.nt"; walk_at "T.any"; walk_at "E.call"; walk_at "A.any"
  walk_at "E.var"; walk_at "A.nil"; walk_at "W.or"; walk_at "T.nt"; walk_at "T.any"; walk_at "E.bi.all"
  walk_at "B.any"; walk_at "E.lc"; walk_at "I.seq"; walk_at "E.var"; walk_at "in"; walk_at "G.nm"
  walk_at "in"; walk_at "Ts.nil"; walk_at "in"; walk_at "E.cmp"; walk_at "E.var"; walk_at "E.call"
  walk_at "A.any"; walk_at "E.var"; walk_at "A.nil"; walk_at "B.nil"; walk_at "Ss.any"; walk_at "S.ret"
  walk_at "E.Const"; walk_at "Ss.nil"; walk_at "Ss.nil"; walk_at "Ss.any"; walk_at "S.ife"; walk_at "T.or"
  walk_at "W.or"; walk_at "T.nt"; walk_at "T.any"; walk_at "E.call"; walk_at "A.any"; walk_at "E.var"
  walk_at "A.nil"; walk_at "W.or"; walk_at "T.nt"; walk_at "T.any"; walk_at "E.bi.all"; walk_at "B.any"
  walk_at "E.lc"; walk_at "I.seq"; walk_at "E.var"; walk_at "in"; walk_at "G.nm"; walk_at "in"
  walk_at "Ts.nil"; walk_at "in"; walk_at "E.cmp"; walk_at "E.var"; walk_at "E.call"; walk_at "A.any"
  walk_at "E.var"; walk_at "A.nil"; walk_at "B.nil"; walk_at "Ss.any"; walk_at "S.ret"; walk_at "E.Const"
  walk_at "Ss.nil"; walk_at "Ss.nil"; walk_at "Ss.any"; walk_at "S.ife"; walk_at "T.and"; walk_at "W.and"
  walk_at "T.cmp"; walk_at "E.var"; walk_at "E.tup"; walk_at "A.nil"; walk_at "W.and"; walk_at "T.any"
  walk_at "E.bi.any"; walk_at "B.any"; walk_at "E.lc"; walk_at "I.seq"; walk_at "E.var"; walk_at "in"
  walk_at "G.nm"; walk_at "in"; walk_at "Ts.nil"; walk_at "in"; walk_at "E.cmp"; walk_at "E.var"
  walk_at "E.glo"; walk_at "B.nil"; walk_at "Ss.any"; walk_at "S.ret"; walk_at "E.Const"; walk_at "Ss.nil"
  walk_at "Ss.nil"; walk_at "Ss.any"; walk_at "S.ife"; walk_at "T.cmp"; walk_at "E.var"; walk_at "E.call"
  walk_at "A.any"; walk_at "E.var"; walk_at "A.any"; walk_at "E.cmp"; walk_at "E.var"; walk_at "E.tup"
  walk_at "A.nil"; walk_at "A.nil"; walk_at "Ss.any"; walk_at "S.ret"; walk_at "E.Const"; walk_at "Ss.nil"
  walk_at "Ss.nil"; walk_at "Ss.any"; walk_at "S.ret"; walk_at "E.ite"; walk_at "T.any"; walk_at "E.call"
  walk_at "A.any"; walk_at "E.var"; walk_at "A.nil"; walk_at "E.Const"; walk_at "E.Const"; walk_at "Ss.nil"
theorem b_check_rows (Ω : Om) (X : Cx) (W : WX) (Φ : Ev) (C : Cz Ω X W Φ nm_check_rows (defScope (top 31)) (cellsOf (defScope (top 31))) T) (K : Cd Ω X Φ T) : XSs Ω W X Φ (defBody (top 31)) cs_check_rows := by
  have hcalm := K.calm
  have hown := K.own
  unfold cs_check_rows
  walk_at "Ss.any"; walk_at "S.for_"; walk_at "I.enum"; walk_at "E.var"; walk_at "G.tp"; walk_at "Gs.any"
  walk_at "G.nm"; walk_at "Gs.any"; walk_at "G.nm"; walk_at "Gs.nil"; walk_at "Ss.any"; walk_at "S.asg"
  walk_at "I.seq"; walk_at "E.tup"; walk_at "A.any"; walk_at "E.var"; walk_at "A.any"; walk_at "E.sli"
  walk_at "E.var"; walk_at "O.none"; walk_at "O.any"; walk_at "E.var"; walk_at "A.nil"; walk_at "in"
  walk_at "G.nm"; walk_at "in"; walk_at "Ts.nil"; walk_at "in"; walk_at "E.idx"; walk_at "E.var"
  walk_at "E.Const"; walk_at "Ss.any"; walk_at "S.asg"; walk_at "E.call"; walk_at "A.any"; walk_at "E.var"
  walk_at "A.any"; walk_at "E.var"; walk_at "A.any"; walk_at "E.var"; walk_at "A.nil"; walk_at "G.nm"
  walk_at "Ss.any"; walk_at "S.ife"; walk_at "T.cmp"; walk_at "E.var"; walk_at "E.Const"; walk_at "Ss.any"
  walk_at "S.rai"; walk_at "A.any"; walk_at "E.bin"; walk_at "E.bi.len"; walk_at "B.any"; walk_at "E.var"
  walk_at "B.nil"; walk_at "E.var"; walk_at "A.any"; walk_at "E.var"; walk_at "A.nil"; walk_at "Ss.nil"
  walk_at "Ss.nil"; walk_at "Ss.nil"; walk_at "Ss.nil"
theorem b_check_book (Ω : Om) (X : Cx) (W : WX) (Φ : Ev) (C : Cz Ω X W Φ nm_check_book (defScope (top 32)) (cellsOf (defScope (top 32))) T) (K : Cd Ω X Φ T) : XSs Ω W X Φ (defBody (top 32)) cs_check_book := by
  have hcalm := K.calm
  have hown := K.own
  unfold cs_check_book
  walk_at "Ss.any"; walk_at "S.asg"; walk_at "E.var"; walk_at "G.tp"; walk_at "Gs.any"; walk_at "G.nm"
  walk_at "Gs.any"; walk_at "G.nm"; walk_at "Gs.nil"; walk_at "Ss.any"; walk_at "S.asg"; walk_at "E.call"
  walk_at "A.any"; walk_at "E.var"; walk_at "A.nil"; walk_at "G.nm"; walk_at "Ss.any"; walk_at "S.ife"
  walk_at "T.cmp"; walk_at "E.var"; walk_at "E.Const"; walk_at "Ss.any"; walk_at "S.rai"; walk_at "A.any"
  walk_at "E.var"; walk_at "A.nil"; walk_at "Ss.nil"; walk_at "Ss.nil"; walk_at "Ss.any"; walk_at "S.ex"
  walk_at "E.call"; walk_at "A.any"; walk_at "E.var"; walk_at "A.any"; walk_at "E.tup"; walk_at "A.nil"
  walk_at "A.any"; walk_at "E.var"; walk_at "A.nil"; walk_at "Ss.nil"
theorem b_looks_for (Ω : Om) (X : Cx) (W : WX) (Φ : Ev) (C : Cz Ω X W Φ nm_looks_for (defScope (top 33)) (cellsOf (defScope (top 33))) T) (K : Cd Ω X Φ T) : XSs Ω W X Φ (defBody (top 33)) cs_looks_for := by
  have hcalm := K.calm
  have hown := K.own
  unfold cs_looks_for
  walk_at "Ss.any"; walk_at "S.ex"; walk_at "E.call"; walk_at "A.any"; walk_at "E.var"; walk_at "A.nil"
  walk_at "Ss.any"; walk_at "S.ret"; walk_at "E.call"; walk_at "A.any"; walk_at "E.idx"; walk_at "E.var"
  walk_at "E.Const"; walk_at "A.nil"; walk_at "Ss.nil"
theorem b_state_text (Ω : Om) (X : Cx) (W : WX) (Φ : Ev) (C : Cz Ω X W Φ nm_state_text (defScope (top 34)) (cellsOf (defScope (top 34))) T) (K : Cd Ω X Φ T) : XSs Ω W X Φ (defBody (top 34)) cs_state_text := by
  have hcalm := K.calm
  have hown := K.own
  unfold cs_state_text
  walk_at "Ss.any"; walk_at "S.asg"; walk_at "E.var"; walk_at "G.tp"; walk_at "Gs.any"; walk_at "G.nm"
  walk_at "Gs.any"; walk_at "G.nm"; walk_at "Gs.any"; walk_at "G.nm"; walk_at "Gs.nil"; walk_at "Ss.any"
  walk_at "S.ret"; walk_at "E.ite"; walk_at "T.any"; walk_at "E.var"; walk_at "E.fst"; walk_at "F.any"
  walk_at "E.var"; walk_at "F.any"; walk_at "E.Const"; walk_at "F.any"; walk_at "E.glo"; walk_at "F.nil"
  walk_at "E.ite"; walk_at "T.any"; walk_at "E.var"; walk_at "E.fst"; walk_at "F.any"; walk_at "E.var"
  walk_at "F.any"; walk_at "E.Const"; walk_at "F.any"; walk_at "E.glo"; walk_at "F.nil"; walk_at "E.var"
  walk_at "Ss.nil"
theorem b_states_text (Ω : Om) (X : Cx) (W : WX) (Φ : Ev) (C : Cz Ω X W Φ nm_states_text (defScope (top 35)) (cellsOf (defScope (top 35))) T) (K : Cd Ω X Φ T) : XSs Ω W X Φ (defBody (top 35)) cs_states_text := by
  have hcalm := K.calm
  have hown := K.own
  unfold cs_states_text
  walk_at "Ss.any"; walk_at "S.ret"; walk_at "E.bin"; walk_at "E.glo"; walk_at "E.me"; walk_at "E.Const"
  walk_at "E.lc"; walk_at "I.seq"; walk_at "E.var"; walk_at "in"; walk_at "G.nm"; walk_at "in"
  walk_at "Ts.nil"; walk_at "in"; walk_at "E.call"; walk_at "A.any"; walk_at "E.var"; walk_at "A.nil"
  walk_at "Ss.nil"
theorem b_listed (Ω : Om) (X : Cx) (W : WX) (Φ : Ev) (C : Cz Ω X W Φ nm_listed (defScope (top 36)) (cellsOf (defScope (top 36))) T) (K : Cd Ω X Φ T) : XSs Ω W X Φ (defBody (top 36)) cs_listed := by
  have hcalm := K.calm
  have hown := K.own
  unfold cs_listed
  walk_at "Ss.any"; walk_at "S.ret"; walk_at "E.ite"; walk_at "T.cmp"; walk_at "E.var"; walk_at "E.tup"
  walk_at "A.nil"; walk_at "E.bin"; walk_at "E.Const"; walk_at "E.me"; walk_at "E.Const"; walk_at "E.var"
  walk_at "E.Const"; walk_at "Ss.nil"
theorem b_row_text (Ω : Om) (X : Cx) (W : WX) (Φ : Ev) (C : Cz Ω X W Φ nm_row_text (defScope (top 37)) (cellsOf (defScope (top 37))) T) (K : Cd Ω X Φ T) : XSs Ω W X Φ (defBody (top 37)) cs_row_text := by
  have hcalm := K.calm
  have hown := K.own
  unfold cs_row_text
  walk_at "Ss.any"; walk_at "S.asg"; walk_at "E.var"; walk_at "G.tp"; walk_at "Gs.any"; walk_at "G.nm"
  walk_at "Gs.any"; walk_at "G.nm"; walk_at "Gs.any"; walk_at "G.nm"; walk_at "Gs.any"; walk_at "G.nm"
  walk_at "Gs.any"; walk_at "G.nm"; walk_at "Gs.nil"; walk_at "Ss.any"; walk_at "S.asg"; walk_at "E.ite"
  walk_at "T.cmp"; walk_at "E.var"; walk_at "E.Const"; walk_at "E.var"; walk_at "E.tup"; walk_at "A.any"
  walk_at "E.var"; walk_at "A.any"; walk_at "E.var"; walk_at "A.nil"; walk_at "G.nm"; walk_at "Ss.any"
  walk_at "S.ret"; walk_at "E.fst"; walk_at "F.any"; walk_at "E.var"; walk_at "F.any"; walk_at "E.Const"
  walk_at "F.any"; walk_at "E.call"; walk_at "A.any"; walk_at "E.var"; walk_at "A.nil"; walk_at "F.any"
  walk_at "E.Const"; walk_at "F.any"; walk_at "E.call"; walk_at "A.any"; walk_at "E.var"; walk_at "A.nil"
  walk_at "F.any"; walk_at "E.Const"; walk_at "F.any"; walk_at "E.call"; walk_at "A.any"; walk_at "E.var"
  walk_at "A.nil"; walk_at "F.nil"; walk_at "Ss.nil"
theorem b_book_text (Ω : Om) (X : Cx) (W : WX) (Φ : Ev) (C : Cz Ω X W Φ nm_book_text (defScope (top 38)) (cellsOf (defScope (top 38))) T) (K : Cd Ω X Φ T) : XSs Ω W X Φ (defBody (top 38)) cs_book_text := by
  have hcalm := K.calm
  have hown := K.own
  unfold cs_book_text
  walk_at "Ss.any"; walk_at "S.asg"; walk_at "E.var"; walk_at "G.tp"; walk_at "Gs.any"; walk_at "G.nm"
  walk_at "Gs.any"; walk_at "G.nm"; walk_at "Gs.nil"; walk_at "Ss.any"; walk_at "S.ret"; walk_at "E.me"
  walk_at "E.Const"; walk_at "E.lc"; walk_at "I.seq"; walk_at "E.tup"; walk_at "A.any"; walk_at "E.call"
  walk_at "A.any"; walk_at "E.var"; walk_at "A.nil"; walk_at "A.any"; walk_at "E.lc"; walk_at "I.seq"
  walk_at "E.var"; walk_at "in"; walk_at "G.nm"; walk_at "in"; walk_at "Ts.nil"; walk_at "in"
  walk_at "E.call"; walk_at "A.any"; walk_at "E.var"; walk_at "A.nil"; walk_at "A.nil"; walk_at "in"
  walk_at "G.nm"; walk_at "in"; walk_at "Ts.nil"; walk_at "in"; walk_at "E.bin"; walk_at "E.var"
  walk_at "E.Const"; walk_at "Ss.nil"
theorem b_show_book (Ω : Om) (X : Cx) (W : WX) (Φ : Ev) (C : Cz Ω X W Φ nm_show_book (defScope (top 39)) (cellsOf (defScope (top 39))) T) (K : Cd Ω X Φ T) : XSs Ω W X Φ (defBody (top 39)) cs_show_book := by
  have hcalm := K.calm
  have hown := K.own
  unfold cs_show_book
  walk_at "Ss.any"; walk_at "S.ex"; walk_at "E.call"; walk_at "A.any"; walk_at "E.var"; walk_at "A.nil"
  walk_at "Ss.any"; walk_at "S.ret"; walk_at "E.call"; walk_at "A.any"; walk_at "E.var"; walk_at "A.nil"
  walk_at "Ss.nil"
theorem b__law_vault (Ω : Om) (X : Cx) (W : WX) (Φ : Ev) (C : Cz Ω X W Φ nm__law_vault (defScope (top 41)) (cellsOf (defScope (top 41))) T) (K : Cd Ω X Φ T) : XSs Ω W X Φ (defBody (top 41)) cs__law_vault := by
  have hcalm := K.calm
  have hown := K.own
  unfold cs__law_vault
  walk_at "Ss.any"; walk_at "S.asg"; walk_at "E.ite"; walk_at "T.cmp"; walk_at "E.var"; walk_at "E.bi.len"
  walk_at "B.any"; walk_at "E.var"; walk_at "B.nil"; walk_at "E.idx"; walk_at "E.var"; walk_at "E.var"
  walk_at "E.Const"; walk_at "G.nm"; walk_at "Ss.any"; walk_at "S.retG"; walk_at "N.lst"; walk_at "A.any"
  walk_at "E.bi.max2"; walk_at "B.any"; walk_at "E.Const"; walk_at "B.any"; walk_at "E.bin"; walk_at "E.bi.abs"
  walk_at "B.any"; walk_at "E.var"; walk_at "B.nil"; walk_at "E.bin"; walk_at "E.Const"; walk_at "E.Const"
  walk_at "B.nil"; walk_at "A.any"; walk_at "E.bin"; walk_at "E.bin"; walk_at "E.bin"; walk_at "E.bin"
  walk_at "E.bi.int1"; walk_at "B.any"; walk_at "E.var"; walk_at "B.nil"; walk_at "E.bin"; walk_at "E.bin"
  walk_at "E.Const"; walk_at "E.Const"; walk_at "E.Const"; walk_at "E.Const"; walk_at "E.bin"; walk_at "E.Const"
  walk_at "E.var"; walk_at "E.Const"; walk_at "A.any"; walk_at "E.Const"; walk_at "A.nil"; walk_at "Ss.nil"
theorem b__law_heave (Ω : Om) (X : Cx) (W : WX) (Φ : Ev) (C : Cz Ω X W Φ nm__law_heave (defScope (top 42)) (cellsOf (defScope (top 42))) T) (K : Cd Ω X Φ T) : XSs Ω W X Φ (defBody (top 42)) cs__law_heave := by
  have hcalm := K.calm
  have hown := K.own
  unfold cs__law_heave
  walk_at "Ss.any"; walk_at "S.ife"; walk_at "T.cmp"; walk_at "E.idx"; walk_at "E.var"; walk_at "E.Const"
  walk_at "E.Const"; walk_at "Ss.any"; walk_at "S.asg"; walk_at "E.bin"; walk_at "E.bi.int1"; walk_at "B.any"
  walk_at "E.idx"; walk_at "E.var"; walk_at "E.Const"; walk_at "B.nil"; walk_at "E.var"; walk_at "G.nm"
  walk_at "Ss.any"; walk_at "S.sti"; walk_at "E.var"; walk_at "E.Const"; walk_at "E.bin"; walk_at "E.idx"
  walk_at "E.var"; walk_at "E.Const"; walk_at "E.var"; walk_at "Ss.any"; walk_at "S.ret"; walk_at "E.var"
  walk_at "Ss.nil"; walk_at "Ss.nil"; walk_at "Ss.any"; walk_at "S.sti"; walk_at "E.var"; walk_at "E.Const"
  walk_at "E.bin"; walk_at "E.idx"; walk_at "E.var"; walk_at "E.Const"; walk_at "E.Const"; walk_at "Ss.any"
  walk_at "S.asg"; walk_at "E.bin"; walk_at "E.bin"; walk_at "E.bi.int1"; walk_at "B.any"; walk_at "E.bin"
  walk_at "E.idx"; walk_at "E.var"; walk_at "E.Const"; walk_at "E.bin"; walk_at "E.Const"; walk_at "E.idx"
  walk_at "E.var"; walk_at "E.Const"; walk_at "B.nil"; walk_at "E.Const"; walk_at "E.bin"; walk_at "E.bin"
  walk_at "E.Const"; walk_at "E.Const"; walk_at "E.Const"; walk_at "G.nm"; walk_at "Ss.any"; walk_at "S.asg"
  walk_at "E.bin"; walk_at "E.bin"; walk_at "E.bi.int1"; walk_at "B.any"; walk_at "E.bin"; walk_at "E.var"
  walk_at "E.bin"; walk_at "E.Const"; walk_at "E.idx"; walk_at "E.var"; walk_at "E.Const"; walk_at "B.nil"
  walk_at "E.Const"; walk_at "E.bin"; walk_at "E.bin"; walk_at "E.Const"; walk_at "E.Const"; walk_at "E.Const"
  walk_at "G.nm"; walk_at "Ss.any"; walk_at "S.ret"; walk_at "E.bin"; walk_at "E.bin"; walk_at "E.var"
  walk_at "E.Const"; walk_at "E.var"; walk_at "Ss.nil"
theorem b__law_agree (Ω : Om) (X : Cx) (W : WX) (Φ : Ev) (C : Cz Ω X W Φ nm__law_agree (defScope (top 43)) (cellsOf (defScope (top 43))) T) (K : Cd Ω X Φ T) : XSs Ω W X Φ (defBody (top 43)) cs__law_agree := by
  have hcalm := K.calm
  have hown := K.own
  unfold cs__law_agree
  walk_at "Ss.any"; walk_at "S.ife"; walk_at "T.or"; walk_at "W.or"; walk_at "T.any"; walk_at "E.isi"
  walk_at "E.var"; walk_at "W.or"; walk_at "T.any"; walk_at "E.isi"; walk_at "E.var"; walk_at "Ss.any"
  walk_at "S.ret"; walk_at "E.and"; walk_at "E.isi"; walk_at "E.var"; walk_at "E.and"; walk_at "E.isi"
  walk_at "E.var"; walk_at "E.and"; walk_at "E.cmp"; walk_at "E.var"; walk_at "E.var"; walk_at "Ss.nil"
  walk_at "Ss.nil"; walk_at "Ss.any"; walk_at "S.ife"; walk_at "T.or"; walk_at "W.or"; walk_at "T.cmp"
  walk_at "E.isi"; walk_at "E.var"; walk_at "E.isi"; walk_at "E.var"; walk_at "W.or"; walk_at "T.cmp"
  walk_at "E.isi"; walk_at "E.var"; walk_at "E.isi"; walk_at "E.var"; walk_at "Ss.any"; walk_at "S.ret"
  walk_at "E.Const"; walk_at "Ss.nil"; walk_at "Ss.nil"; walk_at "Ss.any"; walk_at "S.ife"; walk_at "T.or"
  walk_at "W.or"; walk_at "T.cmp"; walk_at "E.isi"; walk_at "E.var"; walk_at "E.isi"; walk_at "E.var"
  walk_at "W.or"; walk_at "T.cmp"; walk_at "E.isi"; walk_at "E.var"; walk_at "E.isi"; walk_at "E.var"
  walk_at "Ss.any"; walk_at "S.ret"; walk_at "E.Const"; walk_at "Ss.nil"; walk_at "Ss.nil"; walk_at "Ss.any"
  walk_at "S.ife"; walk_at "T.any"; walk_at "E.isi"; walk_at "E.var"; walk_at "Ss.any"; walk_at "S.ife"
  walk_at "T.cmp"; walk_at "E.bi.len"; walk_at "B.any"; walk_at "E.var"; walk_at "B.nil"; walk_at "E.bi.len"
  walk_at "B.any"; walk_at "E.var"; walk_at "B.nil"; walk_at "Ss.any"; walk_at "S.ret"; walk_at "E.Const"
  walk_at "Ss.nil"; walk_at "Ss.nil"; walk_at "Ss.any"; walk_at "S.ret"; walk_at "E.cmp"; walk_at "E.lc"
  walk_at "I.rng1"; walk_at "E.bi.len"; walk_at "B.any"; walk_at "E.var"; walk_at "B.nil"; walk_at "in"
  walk_at "G.nm"; walk_at "in"; walk_at "Ts.any"; walk_at "T.nt"; walk_at "T.any"; walk_at "E.call"
  walk_at "A.any"; walk_at "E.idx"; walk_at "E.var"; walk_at "E.var"; walk_at "A.any"; walk_at "E.idx"
  walk_at "E.var"; walk_at "E.var"; walk_at "A.nil"; walk_at "in"; walk_at "E.var"; walk_at "E.lst"
  walk_at "A.nil"; walk_at "Ss.nil"; walk_at "Ss.nil"; walk_at "Ss.any"; walk_at "S.ret"; walk_at "E.and"
  walk_at "E.cmp"; walk_at "E.cmp"; walk_at "E.var"; walk_at "E.Const"; walk_at "E.cmp"; walk_at "E.var"
  walk_at "E.Const"; walk_at "E.and"; walk_at "E.cmp"; walk_at "E.var"; walk_at "E.var"; walk_at "Ss.nil"
theorem b__law_call_words (Ω : Om) (X : Cx) (W : WX) (Φ : Ev) (C : Cz Ω X W Φ nm__law_call_words (defScope (top 44)) (cellsOf (defScope (top 44))) T) (K : Cd Ω X Φ T) : XSs Ω W X Φ (defBody (top 44)) cs__law_call_words := by
  have hcalm := K.calm
  have hown := K.own
  unfold cs__law_call_words
  walk_at "Ss.any"; walk_at "S.par"; walk_at "L.any"; walk_at "E.Const"; walk_at "L.any"; walk_at "N.lst"
  walk_at "A.nil"; walk_at "Ss.any"; walk_at "S.for_"; walk_at "I.rng1"; walk_at "E.var"; walk_at "G.nm"
  walk_at "Ss.any"; walk_at "S.asg"; walk_at "E.idx"; walk_at "E.lst"; walk_at "A.any"; walk_at "E.Const"
  walk_at "A.any"; walk_at "E.Const"; walk_at "A.any"; walk_at "E.bin"; walk_at "E.Const"; walk_at "E.call"
  walk_at "A.any"; walk_at "E.var"; walk_at "A.any"; walk_at "E.Const"; walk_at "A.nil"; walk_at "A.nil"
  walk_at "E.call"; walk_at "A.any"; walk_at "E.var"; walk_at "A.any"; walk_at "E.Const"; walk_at "A.nil"
  walk_at "G.nm"; walk_at "Ss.any"; walk_at "S.asg"; walk_at "E.me"; walk_at "E.Const"; walk_at "E.lc"
  walk_at "I.rng1"; walk_at "E.var"; walk_at "in"; walk_at "G.nm"; walk_at "in"; walk_at "Ts.nil"
  walk_at "in"; walk_at "E.idx"; walk_at "E.var"; walk_at "E.call"; walk_at "A.any"; walk_at "E.var"
  walk_at "A.any"; walk_at "E.Const"; walk_at "A.nil"; walk_at "G.nm"; walk_at "Ss.any"; walk_at "S.ife"
  walk_at "T.and"; walk_at "W.and"; walk_at "T.cmp"; walk_at "E.var"; walk_at "E.lst"; walk_at "A.nil"
  walk_at "W.and"; walk_at "T.cmp"; walk_at "E.call"; walk_at "A.any"; walk_at "E.var"; walk_at "A.any"
  walk_at "E.Const"; walk_at "A.nil"; walk_at "E.Const"; walk_at "Ss.any"; walk_at "S.asg"; walk_at "E.bin"
  walk_at "E.sli"; walk_at "E.idx"; walk_at "E.var"; walk_at "E.neg"; walk_at "E.Const"; walk_at "O.none"
  walk_at "O.any"; walk_at "E.Const"; walk_at "E.idx"; walk_at "E.var"; walk_at "E.call"; walk_at "A.any"
  walk_at "E.var"; walk_at "A.any"; walk_at "E.Const"; walk_at "A.nil"; walk_at "G.nm"; walk_at "Ss.nil"
  walk_at "Ss.nil"; walk_at "Ss.any"; walk_at "S.ife"; walk_at "T.or"; walk_at "W.or"; walk_at "T.cmp"
  walk_at "E.var"; walk_at "E.var"; walk_at "W.or"; walk_at "T.cmp"; walk_at "E.var"; walk_at "E.var"
  walk_at "Ss.any"; walk_at "S.asg"; walk_at "I.rng1"; walk_at "E.Const"; walk_at "in"; walk_at "G.nm"
  walk_at "in"; walk_at "Ts.nil"; walk_at "in"; walk_at "E.bin"; walk_at "E.bin"; walk_at "E.sli"
  walk_at "E.var"; walk_at "O.none"; walk_at "O.any"; walk_at "E.Const"; walk_at "E.idx"; walk_at "E.var"
  walk_at "E.var"; walk_at "E.idx"; walk_at "E.var"; walk_at "E.var"; walk_at "Ss.any"; walk_at "S.asg"
  walk_at "E.idx"; walk_at "E.lc"; walk_at "I.seq"; walk_at "E.var"; walk_at "in"; walk_at "G.nm"
  walk_at "in"; walk_at "Ts.any"; walk_at "T.and"; walk_at "W.and"; walk_at "T.cmp"; walk_at "E.var"
  walk_at "E.var"; walk_at "W.and"; walk_at "T.cmp"; walk_at "E.var"; walk_at "E.var"; walk_at "in"
  walk_at "E.var"; walk_at "E.Const"; walk_at "G.nm"; walk_at "Ss.nil"; walk_at "Ss.nil"; walk_at "Ss.any"
  walk_at "S.app"; walk_at "E.var"; walk_at "E.var"; walk_at "Ss.nil"; walk_at "Ss.any"; walk_at "S.ret"
  walk_at "E.var"; walk_at "Ss.nil"
theorem b__law_drawn_states (Ω : Om) (X : Cx) (W : WX) (Φ : Ev) (C : Cz Ω X W Φ nm__law_drawn_states (defScope (top 45)) (cellsOf (defScope (top 45))) T) (K : Cd Ω X Φ T) : XSs Ω W X Φ (defBody (top 45)) cs__law_drawn_states := by
  have hcalm := K.calm
  have hown := K.own
  unfold cs__law_drawn_states
  walk_at "Ss.any"; walk_at "S.own"; walk_at "N.lst"; walk_at "A.nil"; walk_at "Ss.any"; walk_at "S.for_"
  walk_at "I.seq"; walk_at "E.call"; walk_at "A.any"; walk_at "E.var"; walk_at "A.any"; walk_at "E.bin"
  walk_at "E.Const"; walk_at "E.call"; walk_at "A.any"; walk_at "E.var"; walk_at "A.any"; walk_at "E.var"
  walk_at "A.nil"; walk_at "A.any"; walk_at "E.lst"; walk_at "A.any"; walk_at "E.Const"; walk_at "A.nil"
  walk_at "A.nil"; walk_at "G.nm"; walk_at "Ss.any"; walk_at "S.asg"; walk_at "E.call"; walk_at "A.any"
  walk_at "E.var"; walk_at "A.any"; walk_at "E.Const"; walk_at "A.nil"; walk_at "G.nm"; walk_at "Ss.any"
  walk_at "S.app"; walk_at "E.var"; walk_at "E.tup"; walk_at "A.any"; walk_at "E.var"; walk_at "A.any"
  walk_at "E.cmp"; walk_at "E.var"; walk_at "E.Const"; walk_at "A.any"; walk_at "E.cmp"; walk_at "E.var"
  walk_at "E.Const"; walk_at "A.nil"; walk_at "Ss.nil"; walk_at "Ss.any"; walk_at "S.ret"; walk_at "E.bi.tuple"
  walk_at "B.any"; walk_at "E.var"; walk_at "B.nil"; walk_at "Ss.nil"
theorem b__law_all_looks (Ω : Om) (X : Cx) (W : WX) (Φ : Ev) (C : Cz Ω X W Φ nm__law_all_looks (defScope (top 46)) (cellsOf (defScope (top 46))) T) (K : Cd Ω X Φ T) : XSs Ω W X Φ (defBody (top 46)) cs__law_all_looks := by
  have hcalm := K.calm
  have hown := K.own
  unfold cs__law_all_looks
  walk_at "Ss.any"; walk_at "S.asg"; walk_at "E.bin"; walk_at "E.lst"; walk_at "A.any"; walk_at "E.Const"
  walk_at "A.nil"; walk_at "E.lc"; walk_at "I.seq"; walk_at "E.var"; walk_at "in"; walk_at "G.nm"
  walk_at "in"; walk_at "Ts.nil"; walk_at "in"; walk_at "E.idx"; walk_at "E.var"; walk_at "E.Const"
  walk_at "G.nm"; walk_at "Ss.any"; walk_at "S.asg"; walk_at "E.bin"; walk_at "E.lc"; walk_at "I.seq"
  walk_at "E.var"; walk_at "in"; walk_at "G.nm"; walk_at "in"; walk_at "Ts.nil"; walk_at "in"
  walk_at "E.bin"; walk_at "E.Const"; walk_at "E.var"; walk_at "E.lc"; walk_at "I.seq"; walk_at "E.var"
  walk_at "in"; walk_at "G.nm"; walk_at "in"; walk_at "Ts.nil"; walk_at "in"; walk_at "E.bin"
  walk_at "E.Const"; walk_at "E.var"; walk_at "G.nm"; walk_at "Ss.any"; walk_at "S.ret"; walk_at "E.bin"
  walk_at "E.var"; walk_at "E.lst"; walk_at "A.any"; walk_at "E.Const"; walk_at "A.any"; walk_at "E.Const"
  walk_at "A.any"; walk_at "E.Const"; walk_at "A.any"; walk_at "E.Const"; walk_at "A.any"; walk_at "E.Const"
  walk_at "A.any"; walk_at "E.Const"; walk_at "A.any"; walk_at "E.Const"; walk_at "A.any"; walk_at "E.Const"
  walk_at "A.nil"; walk_at "Ss.nil"
theorem b__law_all_views (Ω : Om) (X : Cx) (W : WX) (Φ : Ev) (C : Cz Ω X W Φ nm__law_all_views (defScope (top 47)) (cellsOf (defScope (top 47))) T) (K : Cd Ω X Φ T) : XSs Ω W X Φ (defBody (top 47)) cs__law_all_views := by
  have hcalm := K.calm
  have hown := K.own
  unfold cs__law_all_views
  walk_at "Ss.any"; walk_at "S.asg"; walk_at "I.seq"; walk_at "E.var"; walk_at "in"; walk_at "G.nm"
  walk_at "in"; walk_at "Ts.nil"; walk_at "in"; walk_at "E.idx"; walk_at "E.var"; walk_at "E.Const"
  walk_at "Ss.any"; walk_at "S.ret"; walk_at "E.bin"; walk_at "E.bin"; walk_at "E.lst"; walk_at "A.any"
  walk_at "E.Const"; walk_at "A.nil"; walk_at "E.lc"; walk_at "I.seq"; walk_at "E.var"; walk_at "in"
  walk_at "G.nm"; walk_at "in"; walk_at "Ts.nil"; walk_at "in"; walk_at "E.bin"; walk_at "E.Const"
  walk_at "E.var"; walk_at "E.lc"; walk_at "I.seq"; walk_at "E.var"; walk_at "in"; walk_at "G.nm"
  walk_at "in"; walk_at "Ts.nil"; walk_at "in"; walk_at "E.bin"; walk_at "E.Const"; walk_at "E.var"
  walk_at "Ss.nil"
theorem b__law_some (Ω : Om) (X : Cx) (W : WX) (Φ : Ev) (C : Cz Ω X W Φ nm__law_some (defScope (top 48)) (cellsOf (defScope (top 48))) T) (K : Cd Ω X Φ T) : XSs Ω W X Φ (defBody (top 48)) cs__law_some := by
  have hcalm := K.calm
  have hown := K.own
  unfold cs__law_some
  walk_at "Ss.any"; walk_at "S.par"; walk_at "L.any"; walk_at "E.bi.list"; walk_at "B.any"; walk_at "E.var"
  walk_at "B.nil"; walk_at "L.any"; walk_at "N.lst"; walk_at "A.nil"; walk_at "Ss.any"; walk_at "S.for_"
  walk_at "I.rng1"; walk_at "E.call"; walk_at "A.any"; walk_at "E.var"; walk_at "A.any"; walk_at "E.bin"
  walk_at "E.var"; walk_at "E.Const"; walk_at "A.nil"; walk_at "G.nm"; walk_at "Ss.any"; walk_at "S.ife"
  walk_at "T.cmp"; walk_at "E.var"; walk_at "E.lst"; walk_at "A.nil"; walk_at "Ss.any"; walk_at "S.asg"
  walk_at "E.idx"; walk_at "E.var"; walk_at "E.call"; walk_at "A.any"; walk_at "E.var"; walk_at "A.any"
  walk_at "E.bi.len"; walk_at "B.any"; walk_at "E.var"; walk_at "B.nil"; walk_at "A.nil"; walk_at "G.nm"
  walk_at "Ss.any"; walk_at "S.app"; walk_at "E.var"; walk_at "E.var"; walk_at "Ss.any"; walk_at "S.asg"
  walk_at "I.seq"; walk_at "E.var"; walk_at "in"; walk_at "G.nm"; walk_at "in"; walk_at "Ts.any"
  walk_at "T.cmp"; walk_at "E.var"; walk_at "E.var"; walk_at "in"; walk_at "E.var"; walk_at "Ss.nil"
  walk_at "Ss.nil"; walk_at "Ss.nil"; walk_at "Ss.any"; walk_at "S.ret"; walk_at "E.bi.tuple"; walk_at "B.any"
  walk_at "E.var"; walk_at "B.nil"; walk_at "Ss.nil"
theorem b__law_drawn_row (Ω : Om) (X : Cx) (W : WX) (Φ : Ev) (C : Cz Ω X W Φ nm__law_drawn_row (defScope (top 49)) (cellsOf (defScope (top 49))) T) (K : Cd Ω X Φ T) : XSs Ω W X Φ (defBody (top 49)) cs__law_drawn_row := by
  have hcalm := K.calm
  have hown := K.own
  unfold cs__law_drawn_row
  walk_at "Ss.any"; walk_at "S.par"; walk_at "A.any"; walk_at "E.tup"; walk_at "A.nil"; walk_at "A.any"
  walk_at "E.lc"; walk_at "I.seq"; walk_at "E.var"; walk_at "in"; walk_at "G.nm"; walk_at "in"
  walk_at "Ts.nil"; walk_at "in"; walk_at "E.idx"; walk_at "E.var"; walk_at "E.Const"; walk_at "A.nil"
  walk_at "Ss.any"; walk_at "S.ife"; walk_at "T.cmp"; walk_at "E.call"; walk_at "A.any"; walk_at "E.var"
  walk_at "A.any"; walk_at "E.Const"; walk_at "A.nil"; walk_at "E.Const"; walk_at "Ss.any"; walk_at "S.asg"
  walk_at "E.call"; walk_at "A.any"; walk_at "E.var"; walk_at "A.any"; walk_at "E.call"; walk_at "A.any"
  walk_at "E.var"; walk_at "A.nil"; walk_at "A.any"; walk_at "E.idx"; walk_at "E.lst"; walk_at "A.any"
  walk_at "E.Const"; walk_at "A.any"; walk_at "E.Const"; walk_at "A.any"; walk_at "E.Const"; walk_at "A.nil"
  walk_at "E.call"; walk_at "A.any"; walk_at "E.var"; walk_at "A.any"; walk_at "E.Const"; walk_at "A.nil"
  walk_at "A.nil"; walk_at "G.nm"; walk_at "Ss.nil"; walk_at "Ss.nil"; walk_at "Ss.any"; walk_at "S.asg"
  walk_at "E.call"; walk_at "A.any"; walk_at "E.var"; walk_at "A.nil"; walk_at "G.nm"; walk_at "Ss.any"
  walk_at "S.ife"; walk_at "T.cmp"; walk_at "E.var"; walk_at "E.tup"; walk_at "A.nil"; walk_at "Ss.any"
  walk_at "S.asg"; walk_at "I.seq"; walk_at "E.var"; walk_at "in"; walk_at "G.nm"; walk_at "in"
  walk_at "Ts.any"; walk_at "T.cmp"; walk_at "E.var"; walk_at "E.tup"; walk_at "A.any"; walk_at "E.Const"
  walk_at "A.any"; walk_at "E.Const"; walk_at "A.any"; walk_at "E.Const"; walk_at "A.any"; walk_at "E.Const"
  walk_at "A.nil"; walk_at "in"; walk_at "E.var"; walk_at "Ss.nil"; walk_at "Ss.nil"; walk_at "Ss.any"
  walk_at "S.asg"; walk_at "E.lst"; walk_at "A.any"; walk_at "E.bin"; walk_at "E.Const"; walk_at "E.idx"
  walk_at "E.var"; walk_at "E.call"; walk_at "A.any"; walk_at "E.var"; walk_at "A.any"; walk_at "E.bi.len"
  walk_at "B.any"; walk_at "E.var"; walk_at "B.nil"; walk_at "A.nil"; walk_at "A.any"; walk_at "E.Const"
  walk_at "A.any"; walk_at "E.Const"; walk_at "A.nil"; walk_at "G.nm"; walk_at "Ss.any"; walk_at "S.ife"
  walk_at "T.cmp"; walk_at "E.var"; walk_at "E.tup"; walk_at "A.nil"; walk_at "Ss.any"; walk_at "S.asg"
  walk_at "E.bin"; walk_at "E.bin"; walk_at "E.var"; walk_at "E.lst"; walk_at "A.any"; walk_at "E.Const"
  walk_at "A.any"; walk_at "E.bin"; walk_at "E.Const"; walk_at "E.idx"; walk_at "E.var"; walk_at "E.call"
  walk_at "A.any"; walk_at "E.var"; walk_at "A.any"; walk_at "E.bi.len"; walk_at "B.any"; walk_at "E.var"
  walk_at "B.nil"; walk_at "A.nil"; walk_at "A.nil"; walk_at "E.lst"; walk_at "A.any"; walk_at "E.bin"
  walk_at "E.Const"; walk_at "E.idx"; walk_at "E.var"; walk_at "E.Const"; walk_at "A.nil"; walk_at "G.nm"
  walk_at "Ss.nil"; walk_at "Ss.nil"; walk_at "Ss.any"; walk_at "S.asg"; walk_at "E.idx"; walk_at "E.var"
  walk_at "E.call"; walk_at "A.any"; walk_at "E.var"; walk_at "A.any"; walk_at "E.bi.len"; walk_at "B.any"
  walk_at "E.var"; walk_at "B.nil"; walk_at "A.nil"; walk_at "G.nm"; walk_at "Ss.any"; walk_at "S.asg"
  walk_at "I.seq"; walk_at "E.tup"; walk_at "A.any"; walk_at "E.Const"; walk_at "A.any"; walk_at "E.Const"
  walk_at "A.any"; walk_at "E.Const"; walk_at "A.nil"; walk_at "in"; walk_at "G.nm"; walk_at "in"
  walk_at "Ts.any"; walk_at "T.or"; walk_at "W.or"; walk_at "T.cmp"; walk_at "E.var"; walk_at "E.Const"
  walk_at "W.or"; walk_at "T.cmp"; walk_at "E.var"; walk_at "E.Const"; walk_at "in"; walk_at "E.var"
  walk_at "Ss.any"; walk_at "S.asg"; walk_at "E.call"; walk_at "A.any"; walk_at "E.var"; walk_at "A.any"
  walk_at "E.lc"; walk_at "I.seq"; walk_at "E.var"; walk_at "in"; walk_at "G.nm"; walk_at "in"
  walk_at "Ts.any"; walk_at "T.or"; walk_at "W.or"; walk_at "T.cmp"; walk_at "E.var"; walk_at "E.Const"
  walk_at "W.or"; walk_at "T.cmp"; walk_at "E.var"; walk_at "E.tup"; walk_at "A.nil"; walk_at "in"
  walk_at "E.var"; walk_at "A.any"; walk_at "E.Const"; walk_at "A.nil"; walk_at "G.nm"; walk_at "Ss.any"
  walk_at "S.ife"; walk_at "T.and"; walk_at "W.and"; walk_at "T.cmp"; walk_at "E.var"; walk_at "E.Const"
  walk_at "W.and"; walk_at "T.cmp"; walk_at "E.var"; walk_at "E.tup"; walk_at "A.nil"; walk_at "Ss.any"
  walk_at "S.asg"; walk_at "E.tup"; walk_at "A.any"; walk_at "E.Const"; walk_at "A.nil"; walk_at "G.nm"
  walk_at "Ss.nil"; walk_at "Ss.nil"; walk_at "Ss.any"; walk_at "S.ret"; walk_at "E.tup"; walk_at "A.any"
  walk_at "E.var"; walk_at "A.any"; walk_at "E.var"; walk_at "A.any"; walk_at "E.call"; walk_at "A.any"
  walk_at "E.var"; walk_at "A.any"; walk_at "E.var"; walk_at "A.any"; walk_at "E.var"; walk_at "A.nil"
  walk_at "A.any"; walk_at "E.var"; walk_at "A.any"; walk_at "E.var"; walk_at "A.nil"; walk_at "Ss.nil"
theorem b__law_drawn_book (Ω : Om) (X : Cx) (W : WX) (Φ : Ev) (C : Cz Ω X W Φ nm__law_drawn_book (defScope (top 50)) (cellsOf (defScope (top 50))) T) (K : Cd Ω X Φ T) : XSs Ω W X Φ (defBody (top 50)) cs__law_drawn_book := by
  have hcalm := K.calm
  have hown := K.own
  unfold cs__law_drawn_book
  walk_at "Ss.any"; walk_at "S.asg"; walk_at "E.call"; walk_at "A.any"; walk_at "E.var"; walk_at "A.any"
  walk_at "E.var"; walk_at "A.nil"; walk_at "G.nm"; walk_at "Ss.any"; walk_at "S.asg"; walk_at "E.call"
  walk_at "A.any"; walk_at "E.var"; walk_at "A.any"; walk_at "E.call"; walk_at "A.any"; walk_at "E.var"
  walk_at "A.any"; walk_at "E.bin"; walk_at "E.var"; walk_at "E.Const"; walk_at "A.nil"; walk_at "A.any"
  walk_at "E.lst"; walk_at "A.nil"; walk_at "A.nil"; walk_at "G.nm"; walk_at "Ss.any"; walk_at "S.ret"
  walk_at "E.tup"; walk_at "A.any"; walk_at "E.var"; walk_at "A.any"; walk_at "E.bi.tuple"; walk_at "B.any"
  walk_at "E.lc"; walk_at "I.seq"; walk_at "E.var"; walk_at "in"; walk_at "G.nm"; walk_at "in"
  walk_at "Ts.nil"; walk_at "in"; walk_at "E.call"; walk_at "A.any"; walk_at "E.var"; walk_at "A.any"
  walk_at "E.var"; walk_at "A.any"; walk_at "E.var"; walk_at "A.any"; walk_at "E.var"; walk_at "A.nil"
  walk_at "B.nil"; walk_at "A.nil"; walk_at "Ss.nil"
theorem b__law_shop_book (Ω : Om) (X : Cx) (W : WX) (Φ : Ev) (C : Cz Ω X W Φ nm__law_shop_book (defScope (top 51)) (cellsOf (defScope (top 51))) T) (K : Cd Ω X Φ T) : XSs Ω W X Φ (defBody (top 51)) cs__law_shop_book := by
  have hcalm := K.calm
  have hown := K.own
  unfold cs__law_shop_book
  walk_at "Ss.any"; walk_at "S.own"; walk_at "N.lst"; walk_at "A.any"; walk_at "E.tup"; walk_at "A.any"
  walk_at "E.Const"; walk_at "A.any"; walk_at "E.tup"; walk_at "A.any"; walk_at "E.Const"; walk_at "A.nil"
  walk_at "A.any"; walk_at "E.lst"; walk_at "A.any"; walk_at "E.tup"; walk_at "A.any"; walk_at "E.Const"
  walk_at "A.nil"; walk_at "A.any"; walk_at "E.tup"; walk_at "A.any"; walk_at "E.Const"; walk_at "A.nil"
  walk_at "A.any"; walk_at "E.tup"; walk_at "A.nil"; walk_at "A.nil"; walk_at "A.any"; walk_at "E.Const"
  walk_at "A.any"; walk_at "E.tup"; walk_at "A.nil"; walk_at "A.nil"; walk_at "A.nil"; walk_at "Ss.any"
  walk_at "S.asg"; walk_at "E.lst"; walk_at "A.any"; walk_at "E.tup"; walk_at "A.any"; walk_at "E.Const"
  walk_at "A.any"; walk_at "E.Const"; walk_at "A.nil"; walk_at "A.any"; walk_at "E.tup"; walk_at "A.any"
  walk_at "E.Const"; walk_at "A.nil"; walk_at "A.any"; walk_at "E.tup"; walk_at "A.any"; walk_at "E.Const"
  walk_at "A.nil"; walk_at "A.any"; walk_at "E.tup"; walk_at "A.any"; walk_at "E.Const"; walk_at "A.nil"
  walk_at "A.any"; walk_at "E.tup"; walk_at "A.any"; walk_at "E.Const"; walk_at "A.nil"; walk_at "A.any"
  walk_at "E.tup"; walk_at "A.nil"; walk_at "A.nil"; walk_at "G.nm"; walk_at "Ss.any"; walk_at "S.app"
  walk_at "E.var"; walk_at "E.tup"; walk_at "A.any"; walk_at "E.Const"; walk_at "A.any"; walk_at "E.tup"
  walk_at "A.any"; walk_at "E.Const"; walk_at "A.nil"; walk_at "A.any"; walk_at "E.var"; walk_at "A.any"
  walk_at "E.Const"; walk_at "A.any"; walk_at "E.tup"; walk_at "A.any"; walk_at "E.Const"; walk_at "A.nil"
  walk_at "A.nil"; walk_at "Ss.any"; walk_at "S.asg"; walk_at "E.lst"; walk_at "A.any"; walk_at "E.tup"
  walk_at "A.any"; walk_at "E.Const"; walk_at "A.nil"; walk_at "A.any"; walk_at "E.tup"; walk_at "A.any"
  walk_at "E.Const"; walk_at "A.any"; walk_at "E.Const"; walk_at "A.nil"; walk_at "A.any"; walk_at "E.tup"
  walk_at "A.any"; walk_at "E.Const"; walk_at "A.any"; walk_at "E.Const"; walk_at "A.nil"; walk_at "A.any"
  walk_at "E.tup"; walk_at "A.nil"; walk_at "A.nil"; walk_at "G.nm"; walk_at "Ss.any"; walk_at "S.app"
  walk_at "E.var"; walk_at "E.tup"; walk_at "A.any"; walk_at "E.Const"; walk_at "A.any"; walk_at "E.tup"
  walk_at "A.any"; walk_at "E.Const"; walk_at "A.nil"; walk_at "A.any"; walk_at "E.var"; walk_at "A.any"
  walk_at "E.Const"; walk_at "A.any"; walk_at "E.tup"; walk_at "A.nil"; walk_at "A.nil"; walk_at "Ss.any"
  walk_at "S.app"; walk_at "E.var"; walk_at "E.tup"; walk_at "A.any"; walk_at "E.Const"; walk_at "A.any"
  walk_at "E.tup"; walk_at "A.any"; walk_at "E.Const"; walk_at "A.nil"; walk_at "A.any"; walk_at "E.lst"
  walk_at "A.any"; walk_at "E.tup"; walk_at "A.any"; walk_at "E.Const"; walk_at "A.nil"; walk_at "A.any"
  walk_at "E.tup"; walk_at "A.any"; walk_at "E.Const"; walk_at "A.nil"; walk_at "A.any"; walk_at "E.tup"
  walk_at "A.any"; walk_at "E.Const"; walk_at "A.nil"; walk_at "A.any"; walk_at "E.tup"; walk_at "A.any"
  walk_at "E.Const"; walk_at "A.any"; walk_at "E.Const"; walk_at "A.nil"; walk_at "A.nil"; walk_at "A.any"
  walk_at "E.Const"; walk_at "A.any"; walk_at "E.tup"; walk_at "A.nil"; walk_at "A.nil"; walk_at "Ss.any"
  walk_at "S.app"; walk_at "E.var"; walk_at "E.tup"; walk_at "A.any"; walk_at "E.Const"; walk_at "A.any"
  walk_at "E.tup"; walk_at "A.any"; walk_at "E.Const"; walk_at "A.any"; walk_at "E.Const"; walk_at "A.nil"
  walk_at "A.any"; walk_at "E.lst"; walk_at "A.any"; walk_at "E.tup"; walk_at "A.any"; walk_at "E.Const"
  walk_at "A.nil"; walk_at "A.any"; walk_at "E.tup"; walk_at "A.any"; walk_at "E.Const"; walk_at "A.any"
  walk_at "E.Const"; walk_at "A.nil"; walk_at "A.any"; walk_at "E.tup"; walk_at "A.nil"; walk_at "A.nil"
  walk_at "A.any"; walk_at "E.Const"; walk_at "A.any"; walk_at "E.tup"; walk_at "A.any"; walk_at "E.Const"
  walk_at "A.nil"; walk_at "A.nil"; walk_at "Ss.any"; walk_at "S.app"; walk_at "E.var"; walk_at "E.tup"
  walk_at "A.any"; walk_at "E.Const"; walk_at "A.any"; walk_at "E.tup"; walk_at "A.nil"; walk_at "A.any"
  walk_at "E.lst"; walk_at "A.any"; walk_at "E.tup"; walk_at "A.any"; walk_at "E.Const"; walk_at "A.nil"
  walk_at "A.any"; walk_at "E.tup"; walk_at "A.any"; walk_at "E.Const"; walk_at "A.any"; walk_at "E.Const"
  walk_at "A.nil"; walk_at "A.any"; walk_at "E.tup"; walk_at "A.any"; walk_at "E.Const"; walk_at "A.nil"
  walk_at "A.nil"; walk_at "A.any"; walk_at "E.Const"; walk_at "A.any"; walk_at "E.tup"; walk_at "A.nil"
  walk_at "A.nil"; walk_at "Ss.any"; walk_at "S.own"; walk_at "N.lst"; walk_at "A.nil"; walk_at "Ss.any"
  walk_at "S.for_"; walk_at "I.seq"; walk_at "E.var"; walk_at "G.tp"; walk_at "Gs.any"; walk_at "G.nm"
  walk_at "Gs.any"; walk_at "G.nm"; walk_at "Gs.any"; walk_at "G.nm"; walk_at "Gs.any"; walk_at "G.nm"
  walk_at "Gs.any"; walk_at "G.nm"; walk_at "Gs.nil"; walk_at "Ss.any"; walk_at "S.ife"; walk_at "T.cmp"
  walk_at "E.call"; walk_at "A.any"; walk_at "E.var"; walk_at "A.any"; walk_at "E.Const"; walk_at "A.nil"
  walk_at "E.Const"; walk_at "Ss.any"; walk_at "S.app"; walk_at "E.var"; walk_at "E.tup"; walk_at "A.any"
  walk_at "E.var"; walk_at "A.any"; walk_at "E.var"; walk_at "A.any"; walk_at "E.idx"; walk_at "E.var"
  walk_at "E.call"; walk_at "A.any"; walk_at "E.var"; walk_at "A.any"; walk_at "E.bi.len"; walk_at "B.any"
  walk_at "E.var"; walk_at "B.nil"; walk_at "A.nil"; walk_at "A.any"; walk_at "E.var"; walk_at "A.any"
  walk_at "E.var"; walk_at "A.nil"; walk_at "Ss.nil"; walk_at "Ss.nil"; walk_at "Ss.nil"; walk_at "Ss.any"
  walk_at "S.ret"; walk_at "E.tup"; walk_at "A.any"; walk_at "E.tup"; walk_at "A.any"; walk_at "E.tup"
  walk_at "A.any"; walk_at "E.Const"; walk_at "A.any"; walk_at "E.cmp"; walk_at "E.call"; walk_at "A.any"
  walk_at "E.var"; walk_at "A.any"; walk_at "E.Const"; walk_at "A.nil"; walk_at "E.Const"; walk_at "A.any"
  walk_at "E.Const"; walk_at "A.nil"; walk_at "A.any"; walk_at "E.tup"; walk_at "A.any"; walk_at "E.Const"
  walk_at "A.any"; walk_at "E.Const"; walk_at "A.any"; walk_at "E.Const"; walk_at "A.nil"; walk_at "A.nil"
  walk_at "A.any"; walk_at "E.bi.tuple"; walk_at "B.any"; walk_at "E.var"; walk_at "B.nil"; walk_at "A.nil"
  walk_at "Ss.nil"
theorem b__law_is_term (Ω : Om) (X : Cx) (W : WX) (Φ : Ev) (C : Cz Ω X W Φ nm__law_is_term (defScope (top 52)) (cellsOf (defScope (top 52))) T) (K : Cd Ω X Φ T) : XSs Ω W X Φ (defBody (top 52)) cs__law_is_term := by
  have hcalm := K.calm
  have hown := K.own
  unfold cs__law_is_term
  walk_at "Ss.any"; walk_at "S.asg"; walk_at "E.Const"; walk_at "G.nm"; walk_at "Ss.any"; walk_at "S.ret"
  walk_at "E.and"; walk_at "E.chn"; walk_at "E.Const"; walk_at "E.bi.len"; walk_at "B.any"; walk_at "E.var"
  walk_at "B.nil"; walk_at "E.Const"; walk_at "E.and"; walk_at "E.cmp"; walk_at "E.lc"; walk_at "I.seq"
  walk_at "E.var"; walk_at "in"; walk_at "G.nm"; walk_at "in"; walk_at "Ts.any"; walk_at "T.cmp"
  walk_at "E.var"; walk_at "E.var"; walk_at "in"; walk_at "E.var"; walk_at "E.lst"; walk_at "A.nil"
  walk_at "Ss.nil"
theorem b__law_once (Ω : Om) (X : Cx) (W : WX) (Φ : Ev) (C : Cz Ω X W Φ nm__law_once (defScope (top 53)) (cellsOf (defScope (top 53))) T) (K : Cd Ω X Φ T) : XSs Ω W X Φ (defBody (top 53)) cs__law_once := by
  have hcalm := K.calm
  have hown := K.own
  unfold cs__law_once
  walk_at "Ss.any"; walk_at "S.ret"; walk_at "E.cmp"; walk_at "E.lc"; walk_at "I.rng1"; walk_at "E.bi.len"
  walk_at "B.any"; walk_at "E.var"; walk_at "B.nil"; walk_at "in"; walk_at "G.nm"; walk_at "in"
  walk_at "Ts.any"; walk_at "T.cmp"; walk_at "E.idx"; walk_at "E.var"; walk_at "E.var"; walk_at "E.sli"
  walk_at "E.var"; walk_at "O.none"; walk_at "O.any"; walk_at "E.var"; walk_at "in"; walk_at "E.var"
  walk_at "E.lst"; walk_at "A.nil"; walk_at "Ss.nil"
theorem b__law_first_part (Ω : Om) (X : Cx) (W : WX) (Φ : Ev) (C : Cz Ω X W Φ nm__law_first_part (defScope (top 54)) (cellsOf (defScope (top 54))) T) (K : Cd Ω X Φ T) : XSs Ω W X Φ (defBody (top 54)) cs__law_first_part := by
  have hcalm := K.calm
  have hown := K.own
  unfold cs__law_first_part
  walk_at "Ss.any"; walk_at "S.asg"; walk_at "E.var"; walk_at "G.tp"; walk_at "Gs.any"; walk_at "G.nm"
  walk_at "Gs.any"; walk_at "G.nm"; walk_at "Gs.any"; walk_at "G.nm"; walk_at "Gs.any"; walk_at "G.nm"
  walk_at "Gs.any"; walk_at "G.nm"; walk_at "Gs.nil"; walk_at "Ss.any"; walk_at "S.par"; walk_at "A.any"
  walk_at "E.lc"; walk_at "I.seq"; walk_at "E.var"; walk_at "in"; walk_at "G.nm"; walk_at "in"
  walk_at "Ts.nil"; walk_at "in"; walk_at "E.idx"; walk_at "E.var"; walk_at "E.Const"; walk_at "A.any"
  walk_at "E.cmp"; walk_at "E.var"; walk_at "E.tup"; walk_at "A.nil"; walk_at "A.nil"; walk_at "Ss.any"
  walk_at "S.ife"; walk_at "T.or"; walk_at "W.or"; walk_at "T.nt"; walk_at "T.any"; walk_at "E.call"
  walk_at "A.any"; walk_at "E.var"; walk_at "A.nil"; walk_at "W.or"; walk_at "T.cmp"; walk_at "E.var"
  walk_at "E.var"; walk_at "Ss.any"; walk_at "S.ret"; walk_at "E.Const"; walk_at "Ss.nil"; walk_at "Ss.nil"
  walk_at "Ss.any"; walk_at "S.ife"; walk_at "T.or"; walk_at "W.or"; walk_at "T.nt"; walk_at "T.any"
  walk_at "E.call"; walk_at "A.any"; walk_at "E.var"; walk_at "A.nil"; walk_at "W.or"; walk_at "T.cmp"
  walk_at "E.lc"; walk_at "I.seq"; walk_at "E.var"; walk_at "in"; walk_at "G.nm"; walk_at "in"
  walk_at "Ts.any"; walk_at "T.cmp"; walk_at "E.var"; walk_at "E.call"; walk_at "A.any"; walk_at "E.var"
  walk_at "A.nil"; walk_at "in"; walk_at "E.var"; walk_at "E.lst"; walk_at "A.nil"; walk_at "Ss.any"
  walk_at "S.ret"; walk_at "E.Const"; walk_at "Ss.nil"; walk_at "Ss.nil"; walk_at "Ss.any"; walk_at "S.asg"
  walk_at "E.lc"; walk_at "I.seq"; walk_at "E.call"; walk_at "A.any"; walk_at "E.var"; walk_at "A.nil"
  walk_at "in"; walk_at "G.nm"; walk_at "in"; walk_at "Ts.any"; walk_at "T.or"; walk_at "W.or"
  walk_at "T.nt"; walk_at "T.any"; walk_at "E.var"; walk_at "W.or"; walk_at "T.cmp"; walk_at "E.var"
  walk_at "E.tup"; walk_at "A.any"; walk_at "E.Const"; walk_at "A.any"; walk_at "E.Const"; walk_at "A.any"
  walk_at "E.Const"; walk_at "A.any"; walk_at "E.Const"; walk_at "A.nil"; walk_at "in"; walk_at "E.var"
  walk_at "G.nm"; walk_at "Ss.any"; walk_at "S.ife"; walk_at "T.or"; walk_at "W.or"; walk_at "T.nt"
  walk_at "T.any"; walk_at "E.call"; walk_at "A.any"; walk_at "E.var"; walk_at "A.nil"; walk_at "W.or"
  walk_at "T.cmp"; walk_at "E.lc"; walk_at "I.seq"; walk_at "E.var"; walk_at "in"; walk_at "G.nm"
  walk_at "in"; walk_at "Ts.any"; walk_at "T.cmp"; walk_at "E.var"; walk_at "E.var"; walk_at "in"
  walk_at "E.var"; walk_at "E.lst"; walk_at "A.nil"; walk_at "Ss.any"; walk_at "S.ret"; walk_at "E.Const"
  walk_at "Ss.nil"; walk_at "Ss.nil"; walk_at "Ss.any"; walk_at "S.asg"; walk_at "E.bin"; walk_at "E.lst"
  walk_at "A.any"; walk_at "E.Const"; walk_at "A.any"; walk_at "E.Const"; walk_at "A.any"; walk_at "E.Const"
  walk_at "A.nil"; walk_at "E.lc"; walk_at "I.seq"; walk_at "E.var"; walk_at "in"; walk_at "G.nm"
  walk_at "in"; walk_at "Ts.nil"; walk_at "in"; walk_at "E.bin"; walk_at "E.Const"; walk_at "E.var"
  walk_at "G.nm"; walk_at "Ss.any"; walk_at "S.ife"; walk_at "T.and"; walk_at "W.and"; walk_at "T.cmp"
  walk_at "E.var"; walk_at "E.var"; walk_at "W.and"; walk_at "T.or"; walk_at "W.or"; walk_at "T.any"
  walk_at "E.var"; walk_at "W.or"; walk_at "T.cmp"; walk_at "E.var"; walk_at "E.lc"; walk_at "I.seq"
  walk_at "E.var"; walk_at "in"; walk_at "G.nm"; walk_at "in"; walk_at "Ts.nil"; walk_at "in"
  walk_at "E.bin"; walk_at "E.Const"; walk_at "E.var"; walk_at "Ss.any"; walk_at "S.ret"; walk_at "E.Const"
  walk_at "Ss.nil"; walk_at "Ss.nil"; walk_at "Ss.any"; walk_at "S.ife"; walk_at "T.or"; walk_at "W.or"
  walk_at "T.nt"; walk_at "T.any"; walk_at "E.call"; walk_at "A.any"; walk_at "E.var"; walk_at "A.nil"
  walk_at "W.or"; walk_at "T.cmp"; walk_at "E.lc"; walk_at "I.seq"; walk_at "E.var"; walk_at "in"
  walk_at "G.nm"; walk_at "in"; walk_at "Ts.any"; walk_at "T.cmp"; walk_at "E.var"; walk_at "E.tup"
  walk_at "A.any"; walk_at "E.Const"; walk_at "A.any"; walk_at "E.Const"; walk_at "A.any"; walk_at "E.Const"
  walk_at "A.nil"; walk_at "in"; walk_at "E.var"; walk_at "E.lst"; walk_at "A.nil"; walk_at "Ss.any"
  walk_at "S.ret"; walk_at "E.Const"; walk_at "Ss.nil"; walk_at "Ss.nil"; walk_at "Ss.any"; walk_at "S.ife"
  walk_at "T.or"; walk_at "W.or"; walk_at "T.and"; walk_at "W.and"; walk_at "T.cmp"; walk_at "E.Const"
  walk_at "E.var"; walk_at "W.and"; walk_at "T.cmp"; walk_at "E.var"; walk_at "E.Const"; walk_at "W.or"
  walk_at "T.and"; walk_at "W.and"; walk_at "T.cmp"; walk_at "E.Const"; walk_at "E.var"; walk_at "W.and"
  walk_at "T.any"; walk_at "E.var"; walk_at "W.or"; walk_at "T.and"; walk_at "W.and"; walk_at "T.cmp"
  walk_at "E.var"; walk_at "E.Const"; walk_at "W.and"; walk_at "T.cmp"; walk_at "E.var"; walk_at "E.tup"
  walk_at "A.nil"; walk_at "Ss.any"; walk_at "S.ret"; walk_at "E.Const"; walk_at "Ss.nil"; walk_at "Ss.nil"
  walk_at "Ss.any"; walk_at "S.ret"; walk_at "E.Const"; walk_at "Ss.nil"
theorem b__law_fault (Ω : Om) (X : Cx) (W : WX) (Φ : Ev) (C : Cz Ω X W Φ nm__law_fault (defScope (top 55)) (cellsOf (defScope (top 55))) T) (K : Cd Ω X Φ T) : XSs Ω W X Φ (defBody (top 55)) cs__law_fault := by
  have hcalm := K.calm
  have hown := K.own
  unfold cs__law_fault
  walk_at "Ss.any"; walk_at "S.asg"; walk_at "E.var"; walk_at "G.tp"; walk_at "Gs.any"; walk_at "G.nm"
  walk_at "Gs.any"; walk_at "G.nm"; walk_at "Gs.nil"; walk_at "Ss.any"; walk_at "S.for_"; walk_at "I.rng1"
  walk_at "E.bi.len"; walk_at "B.any"; walk_at "E.var"; walk_at "B.nil"; walk_at "G.nm"; walk_at "Ss.any"
  walk_at "S.asg"; walk_at "E.idx"; walk_at "E.var"; walk_at "E.var"; walk_at "G.tp"; walk_at "Gs.any"
  walk_at "G.nm"; walk_at "Gs.any"; walk_at "G.nm"; walk_at "Gs.any"; walk_at "G.nm"; walk_at "Gs.nil"
  walk_at "Ss.any"; walk_at "S.ife"; walk_at "T.or"; walk_at "W.or"; walk_at "T.nt"; walk_at "T.any"
  walk_at "E.call"; walk_at "A.any"; walk_at "E.var"; walk_at "A.nil"; walk_at "W.or"; walk_at "T.cmp"
  walk_at "E.var"; walk_at "E.Const"; walk_at "W.or"; walk_at "T.and"; walk_at "W.and"; walk_at "T.any"
  walk_at "E.var"; walk_at "W.and"; walk_at "T.any"; walk_at "E.var"; walk_at "W.or"; walk_at "T.cmp"
  walk_at "E.var"; walk_at "E.lc"; walk_at "I.seq"; walk_at "E.sli"; walk_at "E.var"; walk_at "O.none"
  walk_at "O.any"; walk_at "E.var"; walk_at "in"; walk_at "G.nm"; walk_at "in"; walk_at "Ts.nil"
  walk_at "in"; walk_at "E.idx"; walk_at "E.var"; walk_at "E.Const"; walk_at "Ss.any"; walk_at "S.ret"
  walk_at "E.tup"; walk_at "A.any"; walk_at "E.Const"; walk_at "A.any"; walk_at "E.var"; walk_at "A.nil"
  walk_at "Ss.nil"; walk_at "Ss.nil"; walk_at "Ss.nil"; walk_at "Ss.any"; walk_at "S.ife"; walk_at "T.cmp"
  walk_at "E.var"; walk_at "E.tup"; walk_at "A.nil"; walk_at "Ss.any"; walk_at "S.ret"; walk_at "E.tup"
  walk_at "A.any"; walk_at "E.Const"; walk_at "A.any"; walk_at "E.Const"; walk_at "A.nil"; walk_at "Ss.nil"
  walk_at "Ss.nil"; walk_at "Ss.any"; walk_at "S.for_"; walk_at "I.rng1"; walk_at "E.bi.len"; walk_at "B.any"
  walk_at "E.var"; walk_at "B.nil"; walk_at "G.nm"; walk_at "Ss.any"; walk_at "S.asg"; walk_at "E.call"
  walk_at "A.any"; walk_at "E.var"; walk_at "A.any"; walk_at "E.lc"; walk_at "I.seq"; walk_at "E.sli"
  walk_at "E.var"; walk_at "O.none"; walk_at "O.any"; walk_at "E.var"; walk_at "in"; walk_at "G.nm"
  walk_at "in"; walk_at "Ts.nil"; walk_at "in"; walk_at "E.idx"; walk_at "E.var"; walk_at "E.Const"
  walk_at "A.any"; walk_at "E.idx"; walk_at "E.var"; walk_at "E.var"; walk_at "A.nil"; walk_at "G.nm"
  walk_at "Ss.any"; walk_at "S.ife"; walk_at "T.cmp"; walk_at "E.var"; walk_at "E.Const"; walk_at "Ss.any"
  walk_at "S.ret"; walk_at "E.tup"; walk_at "A.any"; walk_at "E.Const"; walk_at "A.any"; walk_at "E.var"
  walk_at "A.any"; walk_at "E.var"; walk_at "A.nil"; walk_at "Ss.nil"; walk_at "Ss.nil"; walk_at "Ss.nil"
  walk_at "Ss.any"; walk_at "S.ret"; walk_at "E.Const"; walk_at "Ss.nil"
theorem b__law_bent_book (Ω : Om) (X : Cx) (W : WX) (Φ : Ev) (C : Cz Ω X W Φ nm__law_bent_book (defScope (top 56)) (cellsOf (defScope (top 56))) T) (K : Cd Ω X Φ T) : XSs Ω W X Φ (defBody (top 56)) cs__law_bent_book := by
  have hcalm := K.calm
  have hown := K.own
  unfold cs__law_bent_book
  walk_at "Ss.any"; walk_at "S.asg"; walk_at "E.var"; walk_at "G.tp"; walk_at "Gs.any"; walk_at "G.nm"
  walk_at "Gs.any"; walk_at "G.nm"; walk_at "Gs.nil"; walk_at "Ss.any"; walk_at "S.own"; walk_at "N.lst"
  walk_at "A.any"; walk_at "E.Const"; walk_at "A.any"; walk_at "E.Const"; walk_at "A.any"; walk_at "E.Const"
  walk_at "A.any"; walk_at "E.Const"; walk_at "A.any"; walk_at "E.Const"; walk_at "A.any"; walk_at "E.Const"
  walk_at "A.any"; walk_at "E.Const"; walk_at "A.any"; walk_at "E.Const"; walk_at "A.any"; walk_at "E.Const"
  walk_at "A.any"; walk_at "E.Const"; walk_at "A.any"; walk_at "E.Const"; walk_at "A.any"; walk_at "E.Const"
  walk_at "A.any"; walk_at "E.Const"; walk_at "A.nil"; walk_at "Ss.any"; walk_at "S.own"; walk_at "N.cat"
  walk_at "E.var"; walk_at "E.lst"; walk_at "A.any"; walk_at "E.Const"; walk_at "A.any"; walk_at "E.Const"
  walk_at "A.any"; walk_at "E.Const"; walk_at "A.any"; walk_at "E.Const"; walk_at "A.any"; walk_at "E.Const"
  walk_at "A.any"; walk_at "E.Const"; walk_at "A.any"; walk_at "E.Const"; walk_at "A.nil"; walk_at "Ss.any"
  walk_at "S.own"; walk_at "N.cat"; walk_at "E.var"; walk_at "E.lst"; walk_at "A.any"; walk_at "E.Const"
  walk_at "A.any"; walk_at "E.Const"; walk_at "A.any"; walk_at "E.Const"; walk_at "A.nil"; walk_at "Ss.any"
  walk_at "S.own"; walk_at "N.cat"; walk_at "E.var"; walk_at "E.lst"; walk_at "A.any"; walk_at "E.Const"
  walk_at "A.any"; walk_at "E.Const"; walk_at "A.any"; walk_at "E.Const"; walk_at "A.any"; walk_at "E.Const"
  walk_at "A.any"; walk_at "E.Const"; walk_at "A.any"; walk_at "E.Const"; walk_at "A.any"; walk_at "E.Const"
  walk_at "A.any"; walk_at "E.Const"; walk_at "A.nil"; walk_at "Ss.any"; walk_at "S.app"; walk_at "E.var"
  walk_at "E.bin"; walk_at "E.bin"; walk_at "E.Const"; walk_at "E.idx"; walk_at "E.Const"; walk_at "E.call"
  walk_at "A.any"; walk_at "E.var"; walk_at "A.any"; walk_at "E.Const"; walk_at "A.nil"; walk_at "E.Const"
  walk_at "Ss.any"; walk_at "S.asg"; walk_at "E.idx"; walk_at "E.var"; walk_at "E.call"; walk_at "A.any"
  walk_at "E.var"; walk_at "A.any"; walk_at "E.Const"; walk_at "A.nil"; walk_at "G.nm"; walk_at "Ss.any"
  walk_at "S.ife"; walk_at "T.or"; walk_at "W.or"; walk_at "T.cmp"; walk_at "E.call"; walk_at "A.any"
  walk_at "E.var"; walk_at "A.any"; walk_at "E.Const"; walk_at "A.nil"; walk_at "E.Const"; walk_at "W.or"
  walk_at "T.cmp"; walk_at "E.var"; walk_at "E.tup"; walk_at "A.nil"; walk_at "Ss.any"; walk_at "S.asg"
  walk_at "E.call"; walk_at "A.any"; walk_at "E.var"; walk_at "A.any"; walk_at "E.bi.len"; walk_at "B.any"
  walk_at "E.var"; walk_at "B.nil"; walk_at "A.nil"; walk_at "G.nm"; walk_at "Ss.any"; walk_at "S.asg"
  walk_at "E.lst"; walk_at "A.any"; walk_at "E.tup"; walk_at "A.any"; walk_at "E.var"; walk_at "A.any"
  walk_at "E.Const"; walk_at "A.any"; walk_at "E.Const"; walk_at "A.nil"; walk_at "A.any"; walk_at "E.idx"
  walk_at "E.var"; walk_at "E.var"; walk_at "A.any"; walk_at "E.tup"; walk_at "A.any"; walk_at "E.idx"
  walk_at "E.idx"; walk_at "E.var"; walk_at "E.var"; walk_at "E.Const"; walk_at "A.any"; walk_at "E.Const"
  walk_at "A.any"; walk_at "E.Const"; walk_at "A.nil"; walk_at "A.any"; walk_at "E.tup"; walk_at "A.any"
  walk_at "E.Const"; walk_at "A.any"; walk_at "E.Const"; walk_at "A.any"; walk_at "E.Const"; walk_at "A.nil"
  walk_at "A.nil"; walk_at "G.nm"; walk_at "Ss.any"; walk_at "S.asg"; walk_at "E.call"; walk_at "A.any"
  walk_at "E.var"; walk_at "A.any"; walk_at "E.bin"; walk_at "E.bi.len"; walk_at "B.any"; walk_at "E.var"
  walk_at "B.nil"; walk_at "E.Const"; walk_at "A.nil"; walk_at "G.nm"; walk_at "Ss.any"; walk_at "S.asg"
  walk_at "E.lst"; walk_at "A.any"; walk_at "E.bin"; walk_at "E.bin"; walk_at "E.sli"; walk_at "E.var"
  walk_at "O.none"; walk_at "O.any"; walk_at "E.var"; walk_at "E.tup"; walk_at "A.any"; walk_at "E.idx"
  walk_at "E.var"; walk_at "E.call"; walk_at "A.any"; walk_at "E.var"; walk_at "A.any"; walk_at "E.Const"
  walk_at "A.nil"; walk_at "A.nil"; walk_at "E.sli"; walk_at "E.var"; walk_at "O.any"; walk_at "E.var"
  walk_at "O.none"; walk_at "A.nil"; walk_at "G.nm"; walk_at "Ss.any"; walk_at "S.asg"; walk_at "E.bin"
  walk_at "E.var"; walk_at "E.lst"; walk_at "A.any"; walk_at "E.bin"; walk_at "E.sli"; walk_at "E.var"
  walk_at "O.none"; walk_at "O.any"; walk_at "E.var"; walk_at "E.sli"; walk_at "E.var"; walk_at "O.any"
  walk_at "E.bin"; walk_at "E.var"; walk_at "E.Const"; walk_at "O.none"; walk_at "A.any"; walk_at "E.tup"
  walk_at "A.nil"; walk_at "A.any"; walk_at "E.rev"; walk_at "E.var"; walk_at "A.nil"; walk_at "G.nm"
  walk_at "Ss.any"; walk_at "S.ret"; walk_at "E.tup"; walk_at "A.any"; walk_at "E.idx"; walk_at "E.var"
  walk_at "E.call"; walk_at "A.any"; walk_at "E.var"; walk_at "A.any"; walk_at "E.Const"; walk_at "A.nil"
  walk_at "A.any"; walk_at "E.var"; walk_at "A.nil"; walk_at "Ss.nil"; walk_at "Ss.nil"; walk_at "Ss.any"
  walk_at "S.asg"; walk_at "E.call"; walk_at "A.any"; walk_at "E.var"; walk_at "A.any"; walk_at "E.bi.len"
  walk_at "B.any"; walk_at "E.var"; walk_at "B.nil"; walk_at "A.nil"; walk_at "G.nm"; walk_at "Ss.any"
  walk_at "S.asg"; walk_at "E.idx"; walk_at "E.var"; walk_at "E.var"; walk_at "G.tp"; walk_at "Gs.any"
  walk_at "G.nm"; walk_at "Gs.any"; walk_at "G.nm"; walk_at "Gs.any"; walk_at "G.nm"; walk_at "Gs.any"
  walk_at "G.nm"; walk_at "Gs.any"; walk_at "G.nm"; walk_at "Gs.nil"; walk_at "Ss.any"; walk_at "S.asg"
  walk_at "I.seq"; walk_at "E.tup"; walk_at "A.any"; walk_at "E.var"; walk_at "A.any"; walk_at "E.var"
  walk_at "A.any"; walk_at "E.var"; walk_at "A.nil"; walk_at "in"; walk_at "G.nm"; walk_at "in"
  walk_at "Ts.nil"; walk_at "in"; walk_at "E.call"; walk_at "A.any"; walk_at "E.var"; walk_at "A.any"
  walk_at "E.bin"; walk_at "E.bi.len"; walk_at "B.any"; walk_at "E.var"; walk_at "B.nil"; walk_at "E.Const"
  walk_at "A.nil"; walk_at "Ss.any"; walk_at "S.asg"; walk_at "E.idx"; walk_at "E.var"; walk_at "E.call"
  walk_at "A.any"; walk_at "E.var"; walk_at "A.any"; walk_at "E.bi.len"; walk_at "B.any"; walk_at "E.var"
  walk_at "B.nil"; walk_at "A.nil"; walk_at "G.nm"; walk_at "Ss.any"; walk_at "S.asg"; walk_at "E.lst"
  walk_at "A.any"; walk_at "E.tup"; walk_at "A.any"; walk_at "E.var"; walk_at "A.any"; walk_at "E.var"
  walk_at "A.any"; walk_at "E.var"; walk_at "A.any"; walk_at "E.var"; walk_at "A.any"; walk_at "E.var"
  walk_at "A.nil"; walk_at "A.nil"; walk_at "G.nm"; walk_at "Ss.any"; walk_at "S.asg"; walk_at "E.bin"
  walk_at "E.var"; walk_at "E.lst"; walk_at "A.any"; walk_at "E.tup"; walk_at "A.any"; walk_at "E.var"
  walk_at "A.any"; walk_at "E.bin"; walk_at "E.bin"; walk_at "E.sli"; walk_at "E.var"; walk_at "O.none"
  walk_at "O.any"; walk_at "E.idx"; walk_at "E.var"; walk_at "E.Const"; walk_at "E.tup"; walk_at "A.any"
  walk_at "E.var"; walk_at "A.nil"; walk_at "E.sli"; walk_at "E.var"; walk_at "O.any"; walk_at "E.idx"
  walk_at "E.var"; walk_at "E.Const"; walk_at "O.none"; walk_at "A.any"; walk_at "E.var"; walk_at "A.any"
  walk_at "E.var"; walk_at "A.any"; walk_at "E.var"; walk_at "A.nil"; walk_at "A.nil"; walk_at "G.nm"
  walk_at "Ss.any"; walk_at "S.asg"; walk_at "E.bin"; walk_at "E.var"; walk_at "E.lst"; walk_at "A.any"
  walk_at "E.tup"; walk_at "A.any"; walk_at "E.var"; walk_at "A.any"; walk_at "E.var"; walk_at "A.any"
  walk_at "E.bin"; walk_at "E.bin"; walk_at "E.sli"; walk_at "E.var"; walk_at "O.none"; walk_at "O.any"
  walk_at "E.idx"; walk_at "E.var"; walk_at "E.Const"; walk_at "E.tup"; walk_at "A.any"; walk_at "E.var"
  walk_at "A.nil"; walk_at "E.sli"; walk_at "E.var"; walk_at "O.any"; walk_at "E.idx"; walk_at "E.var"
  walk_at "E.Const"; walk_at "O.none"; walk_at "A.any"; walk_at "E.var"; walk_at "A.any"; walk_at "E.var"
  walk_at "A.nil"; walk_at "A.nil"; walk_at "G.nm"; walk_at "Ss.any"; walk_at "S.asg"; walk_at "E.bin"
  walk_at "E.var"; walk_at "E.lst"; walk_at "A.any"; walk_at "E.tup"; walk_at "A.any"; walk_at "E.var"
  walk_at "A.any"; walk_at "E.var"; walk_at "A.any"; walk_at "E.var"; walk_at "A.any"; walk_at "E.var"
  walk_at "A.any"; walk_at "E.var"; walk_at "A.nil"; walk_at "A.nil"; walk_at "G.nm"; walk_at "Ss.any"
  walk_at "S.asg"; walk_at "E.bin"; walk_at "E.var"; walk_at "E.lst"; walk_at "A.any"; walk_at "E.tup"
  walk_at "A.any"; walk_at "E.var"; walk_at "A.any"; walk_at "E.var"; walk_at "A.any"; walk_at "E.var"
  walk_at "A.any"; walk_at "E.var"; walk_at "A.any"; walk_at "E.bin"; walk_at "E.bin"; walk_at "E.sli"
  walk_at "E.var"; walk_at "O.none"; walk_at "O.any"; walk_at "E.idx"; walk_at "E.var"; walk_at "E.Const"
  walk_at "E.tup"; walk_at "A.any"; walk_at "E.var"; walk_at "A.nil"; walk_at "E.sli"; walk_at "E.var"
  walk_at "O.any"; walk_at "E.idx"; walk_at "E.var"; walk_at "E.Const"; walk_at "O.none"; walk_at "A.nil"
  walk_at "A.nil"; walk_at "G.nm"; walk_at "Ss.any"; walk_at "S.asg"; walk_at "E.bin"; walk_at "E.var"
  walk_at "E.lst"; walk_at "A.any"; walk_at "E.tup"; walk_at "A.any"; walk_at "E.var"; walk_at "A.any"
  walk_at "E.tup"; walk_at "A.nil"; walk_at "A.any"; walk_at "E.var"; walk_at "A.any"; walk_at "E.var"
  walk_at "A.any"; walk_at "E.var"; walk_at "A.nil"; walk_at "A.any"; walk_at "E.tup"; walk_at "A.any"
  walk_at "E.var"; walk_at "A.any"; walk_at "E.var"; walk_at "A.any"; walk_at "E.var"; walk_at "A.any"
  walk_at "E.Const"; walk_at "A.any"; walk_at "E.tup"; walk_at "A.nil"; walk_at "A.nil"; walk_at "A.nil"
  walk_at "G.nm"; walk_at "Ss.any"; walk_at "S.asg"; walk_at "E.bin"; walk_at "E.var"; walk_at "E.lst"
  walk_at "A.any"; walk_at "E.bin"; walk_at "E.tup"; walk_at "A.any"; walk_at "E.idx"; walk_at "E.var"
  walk_at "E.Const"; walk_at "A.nil"; walk_at "E.sli"; walk_at "E.idx"; walk_at "E.var"; walk_at "E.var"
  walk_at "O.any"; walk_at "E.Const"; walk_at "O.none"; walk_at "A.nil"; walk_at "G.nm"; walk_at "Ss.any"
  walk_at "S.asg"; walk_at "E.bin"; walk_at "E.var"; walk_at "E.lst"; walk_at "A.any"; walk_at "E.tup"
  walk_at "A.any"; walk_at "E.var"; walk_at "A.any"; walk_at "E.bin"; walk_at "E.var"; walk_at "E.sli"
  walk_at "E.var"; walk_at "O.none"; walk_at "O.any"; walk_at "E.Const"; walk_at "A.any"; walk_at "E.var"
  walk_at "A.any"; walk_at "E.var"; walk_at "A.any"; walk_at "E.var"; walk_at "A.nil"; walk_at "A.any"
  walk_at "E.tup"; walk_at "A.any"; walk_at "E.var"; walk_at "A.any"; walk_at "E.var"; walk_at "A.any"
  walk_at "E.idx"; walk_at "E.var"; walk_at "E.Const"; walk_at "A.any"; walk_at "E.var"; walk_at "A.any"
  walk_at "E.var"; walk_at "A.nil"; walk_at "A.nil"; walk_at "G.nm"; walk_at "Ss.any"; walk_at "S.asg"
  walk_at "E.bin"; walk_at "E.var"; walk_at "E.lst"; walk_at "A.any"; walk_at "E.tup"; walk_at "A.any"
  walk_at "E.var"; walk_at "A.any"; walk_at "E.var"; walk_at "A.any"; walk_at "E.var"; walk_at "A.any"
  walk_at "E.idx"; walk_at "E.var"; walk_at "E.Const"; walk_at "A.any"; walk_at "E.var"; walk_at "A.nil"
  walk_at "A.any"; walk_at "E.tup"; walk_at "A.any"; walk_at "E.var"; walk_at "A.any"; walk_at "E.var"
  walk_at "A.any"; walk_at "E.var"; walk_at "A.any"; walk_at "E.var"; walk_at "A.any"; walk_at "E.bin"
  walk_at "E.idx"; walk_at "E.var"; walk_at "E.Const"; walk_at "E.var"; walk_at "A.nil"; walk_at "A.nil"
  walk_at "G.nm"; walk_at "Ss.any"; walk_at "S.asg"; walk_at "E.idx"; walk_at "E.var"; walk_at "E.call"
  walk_at "A.any"; walk_at "E.var"; walk_at "A.any"; walk_at "E.bi.len"; walk_at "B.any"; walk_at "E.var"
  walk_at "B.nil"; walk_at "A.nil"; walk_at "G.nm"; walk_at "Ss.any"; walk_at "S.asg"; walk_at "E.lst"
  walk_at "A.any"; walk_at "E.bin"; walk_at "E.bin"; walk_at "E.sli"; walk_at "E.var"; walk_at "O.none"
  walk_at "O.any"; walk_at "E.var"; walk_at "E.tup"; walk_at "A.any"; walk_at "E.var"; walk_at "A.nil"
  walk_at "E.sli"; walk_at "E.var"; walk_at "O.any"; walk_at "E.bin"; walk_at "E.var"; walk_at "E.Const"
  walk_at "O.none"; walk_at "A.any"; walk_at "E.bin"; walk_at "E.bin"; walk_at "E.sli"; walk_at "E.var"
  walk_at "O.none"; walk_at "O.any"; walk_at "E.var"; walk_at "E.tup"; walk_at "A.any"; walk_at "E.var"
  walk_at "A.nil"; walk_at "E.sli"; walk_at "E.var"; walk_at "O.any"; walk_at "E.var"; walk_at "O.none"
  walk_at "A.nil"; walk_at "G.nm"; walk_at "Ss.any"; walk_at "S.ret"; walk_at "E.tup"; walk_at "A.any"
  walk_at "E.var"; walk_at "A.any"; walk_at "E.idx"; walk_at "E.var"; walk_at "E.call"; walk_at "A.any"
  walk_at "E.var"; walk_at "A.any"; walk_at "E.Const"; walk_at "A.nil"; walk_at "A.nil"; walk_at "Ss.nil"
theorem b__law_told (Ω : Om) (X : Cx) (W : WX) (Φ : Ev) (C : Cz Ω X W Φ nm__law_told (defScope (top 57)) (cellsOf (defScope (top 57))) T) (K : Cd Ω X Φ T) : XSs Ω W X Φ (defBody (top 57)) cs__law_told := by
  have hcalm := K.calm
  have hown := K.own
  unfold cs__law_told
  walk_at "Ss.any"; walk_at "S.par"; walk_at "A.any"; walk_at "E.Const"; walk_at "A.any"; walk_at "E.lst"
  walk_at "A.nil"; walk_at "A.any"; walk_at "E.Const"; walk_at "A.nil"; walk_at "Ss.any"; walk_at "S.tri"
  walk_at "in"; walk_at "Ss.any"; walk_at "S.ife"; walk_at "T.cmp"; walk_at "E.var"; walk_at "E.Const"
  walk_at "Ss.any"; walk_at "S.asg"; walk_at "E.call"; walk_at "A.any"; walk_at "E.var"; walk_at "A.nil"
  walk_at "G.nm"; walk_at "Ss.nil"; walk_at "Ss.any"; walk_at "S.ife"; walk_at "T.cmp"; walk_at "E.var"
  walk_at "E.Const"; walk_at "Ss.any"; walk_at "S.asg"; walk_at "E.callk"; walk_at "K.any"; walk_at "E.var"
  walk_at "K.nil"; walk_at "G.nm"; walk_at "Ss.nil"; walk_at "Ss.any"; walk_at "S.ife"; walk_at "T.cmp"
  walk_at "E.var"; walk_at "E.Const"; walk_at "Ss.any"; walk_at "S.asg"; walk_at "E.call"; walk_at "A.any"
  walk_at "E.var"; walk_at "A.nil"; walk_at "G.nm"; walk_at "Ss.nil"; walk_at "Ss.any"; walk_at "S.asg"
  walk_at "E.callk"; walk_at "K.any"; walk_at "E.var"; walk_at "K.nil"; walk_at "G.nm"; walk_at "Ss.nil"
  walk_at "Ss.nil"; walk_at "Ss.nil"; walk_at "Ss.nil"; walk_at "H.any"; walk_at "in"; walk_at "Ss.any"
  walk_at "S.par"; walk_at "A.any"; walk_at "E.tup"; walk_at "A.any"; walk_at "E.Const"; walk_at "A.any"
  walk_at "E.fld"; walk_at "A.nil"; walk_at "A.any"; walk_at "E.lst"; walk_at "A.any"; walk_at "E.xis"
  walk_at "A.any"; walk_at "E.xis"; walk_at "A.nil"; walk_at "A.nil"; walk_at "Ss.nil"; walk_at "H.any"
  walk_at "in"; walk_at "Ss.any"; walk_at "S.par"; walk_at "A.any"; walk_at "E.tup"; walk_at "A.any"
  walk_at "E.Const"; walk_at "A.any"; walk_at "E.fld"; walk_at "A.any"; walk_at "E.fld"; walk_at "A.nil"
  walk_at "A.any"; walk_at "E.lst"; walk_at "A.any"; walk_at "E.xis"; walk_at "A.any"; walk_at "E.xis"
  walk_at "A.nil"; walk_at "A.nil"; walk_at "Ss.nil"; walk_at "H.nil"; walk_at "Ss.any"; walk_at "S.ife"
  walk_at "T.cmp"; walk_at "E.var"; walk_at "E.lst"; walk_at "A.nil"; walk_at "Ss.any"; walk_at "S.ret"
  walk_at "E.tup"; walk_at "A.any"; walk_at "E.Const"; walk_at "A.any"; walk_at "E.var"; walk_at "A.nil"
  walk_at "Ss.nil"; walk_at "Ss.nil"; walk_at "Ss.any"; walk_at "S.ret"; walk_at "E.ite"; walk_at "T.cmp"
  walk_at "E.var"; walk_at "E.lst"; walk_at "A.any"; walk_at "E.Const"; walk_at "A.any"; walk_at "E.Const"
  walk_at "A.nil"; walk_at "E.var"; walk_at "E.tup"; walk_at "A.any"; walk_at "E.Const"; walk_at "A.nil"
  walk_at "Ss.nil"
theorem b_law (Ω : Om) (X : Cx) (W : WX) (Φ : Ev) (C : Cz Ω X W Φ nm_law (defScope (top 58)) (cellsOf (defScope (top 58))) T) (K : Cd Ω X Φ T) : XSs Ω W X Φ (defBody (top 58)) cs_law := by
  have hcalm := K.calm
  have hown := K.own
  unfold cs_law
  walk_at "Ss.any"; walk_at "S.for_"; walk_at "I.rng1"; walk_at "E.bi.max2"; walk_at "B.any"; walk_at "E.Const"
  walk_at "B.any"; walk_at "E.bi.min2"; walk_at "B.any"; walk_at "E.Const"; walk_at "B.any"; walk_at "E.bi.len"
  walk_at "B.any"; walk_at "E.var"; walk_at "B.nil"; walk_at "B.nil"; walk_at "B.nil"; walk_at "G.nm"
  walk_at "Ss.any"; walk_at "S.asg"; walk_at "E.call"; walk_at "A.any"; walk_at "E.var"; walk_at "A.any"
  walk_at "E.var"; walk_at "A.nil"; walk_at "G.nm"; walk_at "Ss.any"; walk_at "S.for_"; walk_at "I.rng1"
  walk_at "E.Const"; walk_at "G.nm"; walk_at "Ss.any"; walk_at "S.asg"; walk_at "E.ite"; walk_at "T.cmp"
  walk_at "E.bin"; walk_at "E.var"; walk_at "E.Const"; walk_at "E.Const"; walk_at "E.call"; walk_at "A.any"
  walk_at "E.var"; walk_at "A.any"; walk_at "E.Const"; walk_at "A.any"; walk_at "E.Const"; walk_at "A.any"
  walk_at "E.Const"; walk_at "A.nil"; walk_at "E.call"; walk_at "A.any"; walk_at "E.var"; walk_at "A.nil"
  walk_at "G.nm"; walk_at "Ss.any"; walk_at "S.asg"; walk_at "E.call"; walk_at "A.any"; walk_at "E.idx"
  walk_at "E.var"; walk_at "E.Const"; walk_at "A.nil"; walk_at "G.nm"; walk_at "Ss.any"; walk_at "S.asg"
  walk_at "E.lst"; walk_at "A.any"; walk_at "E.call"; walk_at "A.any"; walk_at "E.Const"; walk_at "A.any"
  walk_at "E.var"; walk_at "A.nil"; walk_at "A.any"; walk_at "E.call"; walk_at "A.any"; walk_at "E.Const"
  walk_at "A.any"; walk_at "E.var"; walk_at "A.nil"; walk_at "A.any"; walk_at "E.call"; walk_at "A.any"
  walk_at "E.Const"; walk_at "A.any"; walk_at "E.var"; walk_at "A.nil"; walk_at "A.nil"; walk_at "G.nm"
  walk_at "Ss.any"; walk_at "S.asg"; walk_at "E.bin"; walk_at "E.var"; walk_at "E.lst"; walk_at "A.any"
  walk_at "E.call"; walk_at "A.any"; walk_at "E.Const"; walk_at "A.any"; walk_at "E.var"; walk_at "A.nil"
  walk_at "A.nil"; walk_at "G.nm"; walk_at "Ss.any"; walk_at "S.ife"; walk_at "T.nt"; walk_at "T.any"
  walk_at "E.call"; walk_at "A.any"; walk_at "E.var"; walk_at "A.any"; walk_at "E.bin"; walk_at "E.rep"
  walk_at "A.any"; walk_at "E.tup"; walk_at "A.any"; walk_at "E.Const"; walk_at "A.any"; walk_at "E.Const"
  walk_at "A.nil"; walk_at "A.nil"; walk_at "E.Const"; walk_at "E.lst"; walk_at "A.any"; walk_at "E.tup"
  walk_at "A.any"; walk_at "E.Const"; walk_at "A.any"; walk_at "E.var"; walk_at "A.nil"; walk_at "A.nil"
  walk_at "A.nil"; walk_at "Ss.any"; walk_at "S.ret"; walk_at "E.Const"; walk_at "Ss.nil"; walk_at "Ss.nil"
  walk_at "Ss.any"; walk_at "S.app"; walk_at "E.idx"; walk_at "E.idx"; walk_at "E.var"; walk_at "E.Const"
  walk_at "E.Const"; walk_at "E.Const"; walk_at "Ss.any"; walk_at "S.ife"; walk_at "T.nt"; walk_at "T.any"
  walk_at "E.call"; walk_at "A.any"; walk_at "E.callk"; walk_at "K.any"; walk_at "E.var"; walk_at "K.nil"
  walk_at "A.any"; walk_at "E.var"; walk_at "A.nil"; walk_at "Ss.any"; walk_at "S.ret"; walk_at "E.Const"
  walk_at "Ss.nil"; walk_at "Ss.nil"; walk_at "Ss.any"; walk_at "S.for_"; walk_at "I.rng1"; walk_at "E.Const"
  walk_at "G.nm"; walk_at "Ss.any"; walk_at "S.asg"; walk_at "E.call"; walk_at "A.any"; walk_at "E.var"
  walk_at "A.any"; walk_at "E.var"; walk_at "A.nil"; walk_at "G.nm"; walk_at "Ss.any"; walk_at "S.ife"
  walk_at "T.and"; walk_at "W.and"; walk_at "T.cmp"; walk_at "E.call"; walk_at "A.any"; walk_at "E.var"
  walk_at "A.any"; walk_at "E.Const"; walk_at "A.nil"; walk_at "E.Const"; walk_at "W.and"; walk_at "T.cmp"
  walk_at "E.idx"; walk_at "E.var"; walk_at "E.Const"; walk_at "E.tup"; walk_at "A.nil"; walk_at "W.and"
  walk_at "T.cmp"; walk_at "E.call"; walk_at "A.any"; walk_at "E.tup"; walk_at "A.any"; walk_at "E.idx"
  walk_at "E.var"; walk_at "E.Const"; walk_at "A.any"; walk_at "E.tup"; walk_at "A.nil"; walk_at "A.nil"
  walk_at "A.nil"; walk_at "E.Const"; walk_at "Ss.any"; walk_at "S.asg"; walk_at "E.call"; walk_at "A.any"
  walk_at "E.var"; walk_at "A.any"; walk_at "E.var"; walk_at "A.nil"; walk_at "G.nm"; walk_at "Ss.nil"
  walk_at "Ss.nil"; walk_at "Ss.any"; walk_at "S.asg"; walk_at "E.call"; walk_at "A.any"; walk_at "E.var"
  walk_at "A.nil"; walk_at "G.nm"; walk_at "Ss.any"; walk_at "S.for_"; walk_at "I.rng1"; walk_at "E.Const"
  walk_at "G.nm"; walk_at "Ss.any"; walk_at "S.asg"; walk_at "E.call"; walk_at "A.any"; walk_at "E.var"
  walk_at "A.any"; walk_at "E.var"; walk_at "A.nil"; walk_at "G.nm"; walk_at "Ss.any"; walk_at "S.ife"
  walk_at "T.or"; walk_at "W.or"; walk_at "T.and"; walk_at "W.and"; walk_at "T.cmp"; walk_at "E.var"
  walk_at "E.Const"; walk_at "W.and"; walk_at "T.cmp"; walk_at "E.idx"; walk_at "E.var"; walk_at "E.Const"
  walk_at "E.Const"; walk_at "W.or"; walk_at "T.and"; walk_at "W.and"; walk_at "T.cmp"; walk_at "E.var"
  walk_at "E.Const"; walk_at "W.and"; walk_at "T.nt"; walk_at "T.any"; walk_at "E.call"; walk_at "A.any"
  walk_at "E.var"; walk_at "A.any"; walk_at "E.var"; walk_at "A.nil"; walk_at "Ss.any"; walk_at "S.ret"
  walk_at "E.Const"; walk_at "Ss.nil"; walk_at "Ss.nil"; walk_at "Ss.nil"; walk_at "Ss.nil"; walk_at "Ss.nil"
  walk_at "Ss.nil"; walk_at "Ss.any"; walk_at "S.ret"; walk_at "E.and"; walk_at "E.cmp"; walk_at "E.call"
  walk_at "A.any"; walk_at "E.Const"; walk_at "A.any"; walk_at "E.tup"; walk_at "A.any"; walk_at "E.tup"
  walk_at "A.nil"; walk_at "A.any"; walk_at "E.tup"; walk_at "A.nil"; walk_at "A.nil"; walk_at "A.nil"
  walk_at "E.tup"; walk_at "A.any"; walk_at "E.Const"; walk_at "A.any"; walk_at "E.Const"; walk_at "A.nil"
  walk_at "E.and"; walk_at "E.cmp"; walk_at "E.call"; walk_at "A.any"; walk_at "E.Const"; walk_at "A.any"
  walk_at "E.tup"; walk_at "A.any"; walk_at "E.tup"; walk_at "A.any"; walk_at "E.tup"; walk_at "A.any"
  walk_at "E.Const"; walk_at "A.any"; walk_at "E.Const"; walk_at "A.any"; walk_at "E.Const"; walk_at "A.nil"
  walk_at "A.nil"; walk_at "A.any"; walk_at "E.tup"; walk_at "A.nil"; walk_at "A.nil"; walk_at "A.nil"
  walk_at "E.tup"; walk_at "A.any"; walk_at "E.Const"; walk_at "A.any"; walk_at "E.Const"; walk_at "A.nil"
  walk_at "Ss.nil"
theorem b_looks_of_g (Ω : Om) (X : Cx) (W : WX) (Φ : Ev) (C : Cz Ω X W Φ nm_looks_of_g (defScope (top 25)) (cellsOf (defScope (top 25))) T) (K : Cd Ω X Φ T) : XSs Ω W X Φ (defBody (top 25)) cs_looks_of_g := by
  have hcalm := K.calm
  have hown := K.own
  unfold cs_looks_of_g
  walk_at "Ss.any"; walk_at "S.asg"; walk_at "E.tup"; walk_at "A.any"; walk_at "E.glo"; walk_at "A.any"
  walk_at "E.call"; walk_at "A.any"; walk_at "E.var"; walk_at "A.nil"; walk_at "A.nil"; walk_at "G.nm"
  walk_at "Ss.any"; walk_at "S.asg"; walk_at "I.seq"; walk_at "E.var"; walk_at "in"; walk_at "G.nm"
  walk_at "in"; walk_at "Ts.nil"; walk_at "in"; walk_at "E.bin"; walk_at "E.Const"; walk_at "E.var"
  walk_at "Ss.any"; walk_at "S.retG"; walk_at "N.lst"; walk_at "A.any"; walk_at "E.var"; walk_at "A.any"
  walk_at "E.lc"; walk_at "I.seq"; walk_at "E.var"; walk_at "in"; walk_at "G.nm"; walk_at "in"
  walk_at "Ts.nil"; walk_at "in"; walk_at "E.bin"; walk_at "E.Const"; walk_at "E.var"; walk_at "A.any"
  walk_at "E.glo"; walk_at "A.any"; walk_at "E.glo"; walk_at "A.nil"; walk_at "Ss.nil"
theorem b_looks_for_g (Ω : Om) (X : Cx) (W : WX) (Φ : Ev) (C : Cz Ω X W Φ nm_looks_for_g (defScope (top 33)) (cellsOf (defScope (top 33))) T) (K : Cd Ω X Φ T) : XSs Ω W X Φ (defBody (top 33)) cs_looks_for_g := by
  have hcalm := K.calm
  have hown := K.own
  unfold cs_looks_for_g
  walk_at "Ss.any"; walk_at "S.ex"; walk_at "E.call"; walk_at "A.any"; walk_at "E.var"; walk_at "A.nil"
  walk_at "Ss.any"; walk_at "S.ret"; walk_at "E.call"; walk_at "A.any"; walk_at "E.idx"; walk_at "E.var"
  walk_at "E.Const"; walk_at "A.nil"; walk_at "Ss.nil"
theorem sc_is_word : FnScope nm_is_word ps_is_word (defScope (top 22)) ∧ ps_is_word.length ≤ nm_is_word.length := ⟨⟨rfl, rfl, rfl, by decide +kernel, rfl, by decide +kernel, by decide +kernel⟩, by decide +kernel⟩
theorem bi_is_word : BiOk "is_word" "is_word" (defArgs (top 22)) (defBody (top 22)) (defScope (top 22)) ps_is_word := fun _ _ _ _ _ _ us hl => match us, hl with | [_], _ => rfl
theorem sc_words_of : FnScope nm_words_of ps_words_of (defScope (top 23)) ∧ ps_words_of.length ≤ nm_words_of.length := ⟨⟨rfl, rfl, rfl, by decide +kernel, rfl, by decide +kernel, by decide +kernel⟩, by decide +kernel⟩
theorem bi_words_of : BiOk "words_of" "words_of" (defArgs (top 23)) (defBody (top 23)) (defScope (top 23)) ps_words_of := fun _ _ _ _ _ _ us hl => match us, hl with | [_], _ => rfl
theorem sc_view_words : FnScope nm_view_words ps_view_words (defScope (top 24)) ∧ ps_view_words.length ≤ nm_view_words.length := ⟨⟨rfl, rfl, rfl, by decide +kernel, rfl, by decide +kernel, by decide +kernel⟩, by decide +kernel⟩
theorem bi_view_words : BiOk "view_words" "view_words" (defArgs (top 24)) (defBody (top 24)) (defScope (top 24)) ps_view_words := fun _ _ _ _ _ _ us hl => match us, hl with | [_], _ => rfl
theorem sc_looks_of : FnScope nm_looks_of ps_looks_of (defScope (top 25)) ∧ ps_looks_of.length ≤ nm_looks_of.length := ⟨⟨rfl, rfl, rfl, by decide +kernel, rfl, by decide +kernel, by decide +kernel⟩, by decide +kernel⟩
theorem bi_looks_of : BiOk "looks_of" "looks_of" (defArgs (top 25)) (defBody (top 25)) (defScope (top 25)) ps_looks_of := fun _ _ _ _ _ _ us hl => match us, hl with | [_], _ => rfl
theorem sc_deeds_of : FnScope nm_deeds_of ps_deeds_of (defScope (top 26)) ∧ ps_deeds_of.length ≤ nm_deeds_of.length := ⟨⟨rfl, rfl, rfl, by decide +kernel, rfl, by decide +kernel, by decide +kernel⟩, by decide +kernel⟩
theorem bi_deeds_of : BiOk "deeds_of" "deeds_of" (defArgs (top 26)) (defBody (top 26)) (defScope (top 26)) ps_deeds_of := fun _ _ _ _ _ _ us hl => match us, hl with | [_, _], _ => rfl
theorem sc_is_each_once : FnScope nm_is_each_once ps_is_each_once (defScope (top 27)) ∧ ps_is_each_once.length ≤ nm_is_each_once.length := ⟨⟨rfl, rfl, rfl, by decide +kernel, rfl, by decide +kernel, by decide +kernel⟩, by decide +kernel⟩
theorem bi_is_each_once : BiOk "is_each_once" "is_each_once" (defArgs (top 27)) (defBody (top 27)) (defScope (top 27)) ps_is_each_once := fun _ _ _ _ _ _ us hl => match us, hl with | [_], _ => rfl
theorem sc_wrong_state : FnScope nm_wrong_state ps_wrong_state (defScope (top 28)) ∧ ps_wrong_state.length ≤ nm_wrong_state.length := ⟨⟨rfl, rfl, rfl, by decide +kernel, rfl, by decide +kernel, by decide +kernel⟩, by decide +kernel⟩
theorem bi_wrong_state : BiOk "wrong_state" "wrong_state" (defArgs (top 28)) (defBody (top 28)) (defScope (top 28)) ps_wrong_state := fun _ _ _ _ _ _ us hl => match us, hl with | [_], _ => rfl
theorem sc_are_marks : FnScope nm_are_marks ps_are_marks (defScope (top 29)) ∧ ps_are_marks.length ≤ nm_are_marks.length := ⟨⟨rfl, rfl, rfl, by decide +kernel, rfl, by decide +kernel, by decide +kernel⟩, by decide +kernel⟩
theorem bi_are_marks : BiOk "are_marks" "are_marks" (defArgs (top 29)) (defBody (top 29)) (defScope (top 29)) ps_are_marks := fun _ _ _ _ _ _ us hl => match us, hl with | [_], _ => rfl
theorem sc_wrong_part : FnScope nm_wrong_part ps_wrong_part (defScope (top 30)) ∧ ps_wrong_part.length ≤ nm_wrong_part.length := ⟨⟨rfl, rfl, rfl, by decide +kernel, rfl, by decide +kernel, by decide +kernel⟩, by decide +kernel⟩
theorem bi_wrong_part : BiOk "wrong_part" "wrong_part" (defArgs (top 30)) (defBody (top 30)) (defScope (top 30)) ps_wrong_part := fun _ _ _ _ _ _ us hl => match us, hl with | [_, _, _], _ => rfl
theorem sc_check_rows : FnScope nm_check_rows ps_check_rows (defScope (top 31)) ∧ ps_check_rows.length ≤ nm_check_rows.length := ⟨⟨rfl, rfl, rfl, by decide +kernel, rfl, by decide +kernel, by decide +kernel⟩, by decide +kernel⟩
theorem bi_check_rows : BiOk "check_rows" "check_rows" (defArgs (top 31)) (defBody (top 31)) (defScope (top 31)) ps_check_rows := fun _ _ _ _ _ _ us hl => match us, hl with | [_, _, _], _ => rfl
theorem sc_check_book : FnScope nm_check_book ps_check_book (defScope (top 32)) ∧ ps_check_book.length ≤ nm_check_book.length := ⟨⟨rfl, rfl, rfl, by decide +kernel, rfl, by decide +kernel, by decide +kernel⟩, by decide +kernel⟩
theorem bi_check_book : BiOk "check_book" "check_book" (defArgs (top 32)) (defBody (top 32)) (defScope (top 32)) ps_check_book := fun _ _ _ _ _ _ us hl => match us, hl with | [_], _ => rfl
theorem sc_looks_for : FnScope nm_looks_for ps_looks_for (defScope (top 33)) ∧ ps_looks_for.length ≤ nm_looks_for.length := ⟨⟨rfl, rfl, rfl, by decide +kernel, rfl, by decide +kernel, by decide +kernel⟩, by decide +kernel⟩
theorem bi_looks_for : BiOk "looks_for" "looks_for" (defArgs (top 33)) (defBody (top 33)) (defScope (top 33)) ps_looks_for := fun _ _ _ _ _ _ us hl => match us, hl with | [_], _ => rfl
theorem sc_state_text : FnScope nm_state_text ps_state_text (defScope (top 34)) ∧ ps_state_text.length ≤ nm_state_text.length := ⟨⟨rfl, rfl, rfl, by decide +kernel, rfl, by decide +kernel, by decide +kernel⟩, by decide +kernel⟩
theorem bi_state_text : BiOk "state_text" "state_text" (defArgs (top 34)) (defBody (top 34)) (defScope (top 34)) ps_state_text := fun _ _ _ _ _ _ us hl => match us, hl with | [_], _ => rfl
theorem sc_states_text : FnScope nm_states_text ps_states_text (defScope (top 35)) ∧ ps_states_text.length ≤ nm_states_text.length := ⟨⟨rfl, rfl, rfl, by decide +kernel, rfl, by decide +kernel, by decide +kernel⟩, by decide +kernel⟩
theorem bi_states_text : BiOk "states_text" "states_text" (defArgs (top 35)) (defBody (top 35)) (defScope (top 35)) ps_states_text := fun _ _ _ _ _ _ us hl => match us, hl with | [_], _ => rfl
theorem sc_listed : FnScope nm_listed ps_listed (defScope (top 36)) ∧ ps_listed.length ≤ nm_listed.length := ⟨⟨rfl, rfl, rfl, by decide +kernel, rfl, by decide +kernel, by decide +kernel⟩, by decide +kernel⟩
theorem bi_listed : BiOk "listed" "listed" (defArgs (top 36)) (defBody (top 36)) (defScope (top 36)) ps_listed := fun _ _ _ _ _ _ us hl => match us, hl with | [_], _ => rfl
theorem sc_row_text : FnScope nm_row_text ps_row_text (defScope (top 37)) ∧ ps_row_text.length ≤ nm_row_text.length := ⟨⟨rfl, rfl, rfl, by decide +kernel, rfl, by decide +kernel, by decide +kernel⟩, by decide +kernel⟩
theorem bi_row_text : BiOk "row_text" "row_text" (defArgs (top 37)) (defBody (top 37)) (defScope (top 37)) ps_row_text := fun _ _ _ _ _ _ us hl => match us, hl with | [_], _ => rfl
theorem sc_book_text : FnScope nm_book_text ps_book_text (defScope (top 38)) ∧ ps_book_text.length ≤ nm_book_text.length := ⟨⟨rfl, rfl, rfl, by decide +kernel, rfl, by decide +kernel, by decide +kernel⟩, by decide +kernel⟩
theorem bi_book_text : BiOk "book_text" "book_text" (defArgs (top 38)) (defBody (top 38)) (defScope (top 38)) ps_book_text := fun _ _ _ _ _ _ us hl => match us, hl with | [_], _ => rfl
theorem sc_show_book : FnScope nm_show_book ps_show_book (defScope (top 39)) ∧ ps_show_book.length ≤ nm_show_book.length := ⟨⟨rfl, rfl, rfl, by decide +kernel, rfl, by decide +kernel, by decide +kernel⟩, by decide +kernel⟩
theorem bi_show_book : BiOk "show_book" "show_book" (defArgs (top 39)) (defBody (top 39)) (defScope (top 39)) ps_show_book := fun _ _ _ _ _ _ us hl => match us, hl with | [_], _ => rfl
theorem sc__law_vault : FnScope nm__law_vault ps__law_vault (defScope (top 41)) ∧ ps__law_vault.length ≤ nm__law_vault.length := ⟨⟨rfl, rfl, rfl, by decide +kernel, rfl, by decide +kernel, by decide +kernel⟩, by decide +kernel⟩
theorem bi__law_vault : BiOk "_law_vault" "_law_vault" (defArgs (top 41)) (defBody (top 41)) (defScope (top 41)) ps__law_vault := fun _ _ _ _ _ _ us hl => match us, hl with | [_, _], _ => rfl
theorem sc__law_heave : FnScope nm__law_heave ps__law_heave (defScope (top 42)) ∧ ps__law_heave.length ≤ nm__law_heave.length := ⟨⟨rfl, rfl, rfl, by decide +kernel, rfl, by decide +kernel, by decide +kernel⟩, by decide +kernel⟩
theorem bi__law_heave : BiOk "_law_heave" "_law_heave" (defArgs (top 42)) (defBody (top 42)) (defScope (top 42)) ps__law_heave := fun _ _ _ _ _ _ us hl => match us, hl with | [_, _], _ => rfl
theorem sc__law_agree : FnScope nm__law_agree ps__law_agree (defScope (top 43)) ∧ ps__law_agree.length ≤ nm__law_agree.length := ⟨⟨rfl, rfl, rfl, by decide +kernel, rfl, by decide +kernel, by decide +kernel⟩, by decide +kernel⟩
theorem bi__law_agree : BiOk "_law_agree" "_law_agree" (defArgs (top 43)) (defBody (top 43)) (defScope (top 43)) ps__law_agree := fun _ _ _ _ _ _ us hl => match us, hl with | [_, _], _ => rfl
theorem sc__law_call_words : FnScope nm__law_call_words ps__law_call_words (defScope (top 44)) ∧ ps__law_call_words.length ≤ nm__law_call_words.length := ⟨⟨rfl, rfl, rfl, by decide +kernel, rfl, by decide +kernel, by decide +kernel⟩, by decide +kernel⟩
theorem bi__law_call_words : BiOk "_law_call_words" "_law_call_words" (defArgs (top 44)) (defBody (top 44)) (defScope (top 44)) ps__law_call_words := fun _ _ _ _ _ _ us hl => match us, hl with | [_, _, _], _ => rfl
theorem sc__law_drawn_states : FnScope nm__law_drawn_states ps__law_drawn_states (defScope (top 45)) ∧ ps__law_drawn_states.length ≤ nm__law_drawn_states.length := ⟨⟨rfl, rfl, rfl, by decide +kernel, rfl, by decide +kernel, by decide +kernel⟩, by decide +kernel⟩
theorem bi__law_drawn_states : BiOk "_law_drawn_states" "_law_drawn_states" (defArgs (top 45)) (defBody (top 45)) (defScope (top 45)) ps__law_drawn_states := fun _ _ _ _ _ _ us hl => match us, hl with | [_, _], _ => rfl
theorem sc__law_all_looks : FnScope nm__law_all_looks ps__law_all_looks (defScope (top 46)) ∧ ps__law_all_looks.length ≤ nm__law_all_looks.length := ⟨⟨rfl, rfl, rfl, by decide +kernel, rfl, by decide +kernel, by decide +kernel⟩, by decide +kernel⟩
theorem bi__law_all_looks : BiOk "_law_all_looks" "_law_all_looks" (defArgs (top 46)) (defBody (top 46)) (defScope (top 46)) ps__law_all_looks := fun _ _ _ _ _ _ us hl => match us, hl with | [_], _ => rfl
theorem sc__law_all_views : FnScope nm__law_all_views ps__law_all_views (defScope (top 47)) ∧ ps__law_all_views.length ≤ nm__law_all_views.length := ⟨⟨rfl, rfl, rfl, by decide +kernel, rfl, by decide +kernel, by decide +kernel⟩, by decide +kernel⟩
theorem bi__law_all_views : BiOk "_law_all_views" "_law_all_views" (defArgs (top 47)) (defBody (top 47)) (defScope (top 47)) ps__law_all_views := fun _ _ _ _ _ _ us hl => match us, hl with | [_], _ => rfl
theorem sc__law_some : FnScope nm__law_some ps__law_some (defScope (top 48)) ∧ ps__law_some.length ≤ nm__law_some.length := ⟨⟨rfl, rfl, rfl, by decide +kernel, rfl, by decide +kernel, by decide +kernel⟩, by decide +kernel⟩
theorem bi__law_some : BiOk "_law_some" "_law_some" (defArgs (top 48)) (defBody (top 48)) (defScope (top 48)) ps__law_some := fun _ _ _ _ _ _ us hl => match us, hl with | [_, _, _], _ => rfl
theorem sc__law_drawn_row : FnScope nm__law_drawn_row ps__law_drawn_row (defScope (top 49)) ∧ ps__law_drawn_row.length ≤ nm__law_drawn_row.length := ⟨⟨rfl, rfl, rfl, by decide +kernel, rfl, by decide +kernel, by decide +kernel⟩, by decide +kernel⟩
theorem bi__law_drawn_row : BiOk "_law_drawn_row" "_law_drawn_row" (defArgs (top 49)) (defBody (top 49)) (defScope (top 49)) ps__law_drawn_row := fun _ _ _ _ _ _ us hl => match us, hl with | [_, _, _, _], _ => rfl
theorem sc__law_drawn_book : FnScope nm__law_drawn_book ps__law_drawn_book (defScope (top 50)) ∧ ps__law_drawn_book.length ≤ nm__law_drawn_book.length := ⟨⟨rfl, rfl, rfl, by decide +kernel, rfl, by decide +kernel, by decide +kernel⟩, by decide +kernel⟩
theorem bi__law_drawn_book : BiOk "_law_drawn_book" "_law_drawn_book" (defArgs (top 50)) (defBody (top 50)) (defScope (top 50)) ps__law_drawn_book := fun _ _ _ _ _ _ us hl => match us, hl with | [_, _, _, _], _ => rfl
theorem sc__law_shop_book : FnScope nm__law_shop_book ps__law_shop_book (defScope (top 51)) ∧ ps__law_shop_book.length ≤ nm__law_shop_book.length := ⟨⟨rfl, rfl, rfl, by decide +kernel, rfl, by decide +kernel, by decide +kernel⟩, by decide +kernel⟩
theorem bi__law_shop_book : BiOk "_law_shop_book" "_law_shop_book" (defArgs (top 51)) (defBody (top 51)) (defScope (top 51)) ps__law_shop_book := fun _ _ _ _ _ _ us hl => match us, hl with | [_], _ => rfl
theorem sc__law_is_term : FnScope nm__law_is_term ps__law_is_term (defScope (top 52)) ∧ ps__law_is_term.length ≤ nm__law_is_term.length := ⟨⟨rfl, rfl, rfl, by decide +kernel, rfl, by decide +kernel, by decide +kernel⟩, by decide +kernel⟩
theorem bi__law_is_term : BiOk "_law_is_term" "_law_is_term" (defArgs (top 52)) (defBody (top 52)) (defScope (top 52)) ps__law_is_term := fun _ _ _ _ _ _ us hl => match us, hl with | [_], _ => rfl
theorem sc__law_once : FnScope nm__law_once ps__law_once (defScope (top 53)) ∧ ps__law_once.length ≤ nm__law_once.length := ⟨⟨rfl, rfl, rfl, by decide +kernel, rfl, by decide +kernel, by decide +kernel⟩, by decide +kernel⟩
theorem bi__law_once : BiOk "_law_once" "_law_once" (defArgs (top 53)) (defBody (top 53)) (defScope (top 53)) ps__law_once := fun _ _ _ _ _ _ us hl => match us, hl with | [_], _ => rfl
theorem sc__law_first_part : FnScope nm__law_first_part ps__law_first_part (defScope (top 54)) ∧ ps__law_first_part.length ≤ nm__law_first_part.length := ⟨⟨rfl, rfl, rfl, by decide +kernel, rfl, by decide +kernel, by decide +kernel⟩, by decide +kernel⟩
theorem bi__law_first_part : BiOk "_law_first_part" "_law_first_part" (defArgs (top 54)) (defBody (top 54)) (defScope (top 54)) ps__law_first_part := fun _ _ _ _ _ _ us hl => match us, hl with | [_, _, _], _ => rfl
theorem sc__law_fault : FnScope nm__law_fault ps__law_fault (defScope (top 55)) ∧ ps__law_fault.length ≤ nm__law_fault.length := ⟨⟨rfl, rfl, rfl, by decide +kernel, rfl, by decide +kernel, by decide +kernel⟩, by decide +kernel⟩
theorem bi__law_fault : BiOk "_law_fault" "_law_fault" (defArgs (top 55)) (defBody (top 55)) (defScope (top 55)) ps__law_fault := fun _ _ _ _ _ _ us hl => match us, hl with | [_], _ => rfl
theorem sc__law_bent_book : FnScope nm__law_bent_book ps__law_bent_book (defScope (top 56)) ∧ ps__law_bent_book.length ≤ nm__law_bent_book.length := ⟨⟨rfl, rfl, rfl, by decide +kernel, rfl, by decide +kernel, by decide +kernel⟩, by decide +kernel⟩
theorem bi__law_bent_book : BiOk "_law_bent_book" "_law_bent_book" (defArgs (top 56)) (defBody (top 56)) (defScope (top 56)) ps__law_bent_book := fun _ _ _ _ _ _ us hl => match us, hl with | [_, _], _ => rfl
theorem sc__law_told : FnScope nm__law_told ps__law_told (defScope (top 57)) ∧ ps__law_told.length ≤ nm__law_told.length := ⟨⟨rfl, rfl, rfl, by decide +kernel, rfl, by decide +kernel, by decide +kernel⟩, by decide +kernel⟩
theorem bi__law_told : BiOk "_law_told" "_law_told" (defArgs (top 57)) (defBody (top 57)) (defScope (top 57)) ps__law_told := fun _ _ _ _ _ _ us hl => match us, hl with | [_, _], _ => rfl
theorem sc_law : FnScope nm_law ps_law (defScope (top 58)) ∧ ps_law.length ≤ nm_law.length := ⟨⟨rfl, rfl, rfl, by decide +kernel, rfl, by decide +kernel, by decide +kernel⟩, by decide +kernel⟩
theorem bi_law : BiOk "law" "law" (defArgs (top 58)) (defBody (top 58)) (defScope (top 58)) ps_law := fun _ _ _ _ _ _ us hl => match us, hl with | [_], _ => rfl
theorem sc_looks_of_g : FnScope nm_looks_of_g ps_looks_of_g (defScope (top 25)) ∧ ps_looks_of_g.length ≤ nm_looks_of_g.length := ⟨⟨rfl, rfl, rfl, by decide +kernel, rfl, by decide +kernel, by decide +kernel⟩, by decide +kernel⟩
theorem bi_looks_of_g : BiOk "looks_of" "looks_of" (defArgs (top 25)) (defBody (top 25)) (defScope (top 25)) ps_looks_of_g := fun _ _ _ _ _ _ us hl => match us, hl with | [_], _ => rfl
theorem sc_looks_for_g : FnScope nm_looks_for_g ps_looks_for_g (defScope (top 33)) ∧ ps_looks_for_g.length ≤ nm_looks_for_g.length := ⟨⟨rfl, rfl, rfl, by decide +kernel, rfl, by decide +kernel, by decide +kernel⟩, by decide +kernel⟩
theorem bi_looks_for_g : BiOk "looks_for" "looks_for" (defArgs (top 33)) (defBody (top 33)) (defScope (top 33)) ps_looks_for_g := fun _ _ _ _ _ _ us hl => match us, hl with | [_], _ => rfl
theorem kw0 : KwBi df_check_book 0 ["book"] [0] := fun _ _ _ _ _ _ us ws hu hw => match us, ws, hu, hw with | [], [_], _, _ => rfl
theorem kw1 : KwBi df_show_book 0 ["book"] [0] := fun _ _ _ _ _ _ us ws hu hw => match us, ws, hu, hw with | [], [_], _, _ => rfl
theorem kw2 : KwBi df_looks_for 0 ["book"] [0] := fun _ _ _ _ _ _ us ws hu hw => match us, ws, hu, hw with | [], [_], _, _ => rfl
theorem io1 : IniOk cs ini1 1 := fun P w K mg base fI fd E B hm F => ini_fn1 (j := _) (m := _) (fun _ _ _ => ⟨_, rfl⟩) E rfl rfl B hm F ⟨rfl, rfl, rfl, by decide +kernel, rfl, by decide +kernel, by decide +kernel⟩ (by decide +kernel) (by decide +kernel) (by decide +kernel)
theorem ib1 : BiOk "__init__" ini1.qual ini1.params ini1.body ini1.scope ini1.ps := fun _ _ _ _ _ _ us hl => match us, hl with | [_, _], _ => rfl
theorem io2 : IniOk cs ini2 2 := fun P w K mg base fI fd E B hm F => ini_fn2 (j := _) (m := _) (fun _ _ _ => ⟨_, rfl⟩) E rfl rfl B hm F ⟨rfl, rfl, rfl, by decide +kernel, rfl, by decide +kernel, by decide +kernel⟩ (by decide +kernel) (by decide +kernel) (by decide +kernel) (by decide +kernel)
theorem ib2 : BiOk "__init__" ini2.qual ini2.params ini2.body ini2.scope ini2.ps := fun _ _ _ _ _ _ us hl => match us, hl with | [_, _, _], _ => rfl
theorem txtH : TxtH T Ds Is cs tb where
  ne := by decide
  tl := rfl
  dfs := rfl
  sc := ⟨sc_is_word, sc_words_of, sc_view_words, sc_looks_of, sc_deeds_of, sc_is_each_once, sc_wrong_state, sc_are_marks, sc_wrong_part, sc_check_rows, sc_check_book, sc_looks_for, sc_state_text, sc_states_text, sc_listed, sc_row_text, sc_book_text, sc_show_book, sc__law_vault, sc__law_heave, sc__law_agree, sc__law_call_words, sc__law_drawn_states, sc__law_all_looks, sc__law_all_views, sc__law_some, sc__law_drawn_row, sc__law_drawn_book, sc__law_shop_book, sc__law_is_term, sc__law_once, sc__law_first_part, sc__law_fault, sc__law_bent_book, sc__law_told, sc_law, sc_looks_of_g, sc_looks_for_g, trivial⟩
  bi := ⟨bi_is_word, bi_words_of, bi_view_words, bi_looks_of, bi_deeds_of, bi_is_each_once, bi_wrong_state, bi_are_marks, bi_wrong_part, bi_check_rows, bi_check_book, bi_looks_for, bi_state_text, bi_states_text, bi_listed, bi_row_text, bi_book_text, bi_show_book, bi__law_vault, bi__law_heave, bi__law_agree, bi__law_call_words, bi__law_drawn_states, bi__law_all_looks, bi__law_all_views, bi__law_some, bi__law_drawn_row, bi__law_drawn_book, bi__law_shop_book, bi__law_is_term, bi__law_once, bi__law_first_part, bi__law_fault, bi__law_bent_book, bi__law_told, bi_law, bi_looks_of_g, bi_looks_for_g, trivial⟩
  bd := ⟨b_is_word, b_words_of, b_view_words, b_looks_of, b_deeds_of, b_is_each_once, b_wrong_state, b_are_marks, b_wrong_part, b_check_rows, b_check_book, b_looks_for, b_state_text, b_states_text, b_listed, b_row_text, b_book_text, b_show_book, b__law_vault, b__law_heave, b__law_agree, b__law_call_words, b__law_drawn_states, b__law_all_looks, b__law_all_views, b__law_some, b__law_drawn_row, b__law_drawn_book, b__law_shop_book, b__law_is_term, b__law_once, b__law_first_part, b__law_fault, b__law_bent_book, b__law_told, b_law, b_looks_of_g, b_looks_for_g, trivial⟩
  kw := ⟨⟨df_check_book, rfl, rfl, kw0⟩, ⟨df_show_book, rfl, rfl, kw1⟩, ⟨df_looks_for, rfl, rfl, kw2⟩, trivial⟩
  rai := ⟨⟨_, rfl, rfl, by decide, 0, ini1, rfl, rfl, io1, ib1⟩, ⟨_, rfl, rfl, by decide, 1, ini2, rfl, rfl, io2, ib2⟩, trivial⟩
  cls := ⟨⟨_, rfl⟩, ⟨_, rfl⟩, trivial⟩
end DL
end

section
set_option Elab.async false
set_option linter.all false
set_option autoImplicit false
set_option maxRecDepth 100000
set_option maxHeartbeats 0
namespace DL
open PySem PySem.Spec PyProof.Rows L2
abbrev R : PySem.W.OpenRow := PySem.W.OpenLaw.row PySem.Challenge.rw_onehold_k01_books_checked
abbrev hk : PySem.W.Hook := hookX 4 (faX Ds) (fnX Ds Is) (mbX T cs tb "HoldError")
def ob (s : PySem.W.SharedT) : He.AlD × Bool := obX 4 (faX Ds) (fnX Ds Is) (mbX T cs tb "HoldError") (HandSHeadRun.getT s)
theorem ob_eq (s : PySem.W.SharedT) : ob s = hk.obs s.abs := obX_eq (HandSHeadRun.getT_eq s)
def names : List PySem.Str := (["HoldError", "InvalidStates", "InvalidRow", "FREE", "TIMED", "SOLD", "TAKE", "MOVE", "TIME", "NEW", "REFUND", "KEEP", "MARKS", "MY", "OTHERS", "LETTERS", "LONGEST", "SENDER_LOOKS", "SEAT_LOOKS", "HEAD", "is_word", "words_of", "view_words", "looks_of", "deeds_of", "is_each_once", "wrong_state", "are_marks", "wrong_part", "check_rows"] : List PySem.Str) ++ (["check_book", "looks_for", "state_text", "states_text", "listed", "row_text", "book_text", "show_book", "_law_vault", "_law_heave", "_law_agree", "_law_call_words", "_law_drawn_states", "_law_all_looks", "_law_all_views", "_law_some", "_law_drawn_row", "_law_drawn_book", "_law_shop_book", "_law_is_term", "_law_once", "_law_first_part", "_law_fault", "_law_bent_book", "_law_told"] : List PySem.Str)
theorem run (w : World) : HandSHeadRun.RunEq R (PySem.W.view R.prog [58]) hk ob 4000 names w := by
  intro os
  kernel_rfl
end DL
open PySem PySem.W PySem.Calls PyProof.Rows
theorem holds_of (hl : DL.LawD (DL.F_law 60)) : PySem.Challenge.rw_onehold_k01_books_checked.Holds := by
  w_on; o_law
  refine HandSHeadRun.head_any (r := DL.R) (q := view DL.R.prog [58]) (H := DL.hk) (ob := DL.ob) (M := 4000) (loose := DL.names) (d := HandSHeadRun.topDef DL.R.prog 58) (kwd := []) DL.ob_eq
    (by kernel_rfl) (fun s => by kernel_rfl) DL.run (by kernel_rfl) (by kernel_rfl) (by kernel_rfl) (by rfl) (by first | assumption | decide +kernel) (by decide +kernel) ⟨rfl, rfl, rfl, rfl, rfl, by decide +kernel⟩ ?hw ?hc
  case hw => w_witness2
  case hc => exact DL.law_end (l := PySem.Challenge.rw_onehold_k01_books_checked) (n := 60) (i := 35) (x := "script") (df := DL.df_law) rfl (by kernel_rfl) DL.txtH rfl (by kernel_rfl) rfl ⟨rfl, by decide, by decide⟩ hl
end

section
set_option Elab.async false
set_option linter.all false
set_option autoImplicit false
namespace DM
open DL
theorem wc_z_ : WC z_ = true := by decide
theorem wc_z__ : WC z__ = true := by decide
theorem wc_z__21_22_23_24_26_27_28_29_2a__65324 : WC z__21_22_23_24_26_27_28_29_2a__65324 = true := by decide
theorem wc_z__2c_ : WC z__2c_ = true := by decide
theorem wc_z__3a : WC z__3a = true := by decide
theorem wc_z__60a : WC z__60a = true := by decide
theorem wc_z___21 : WC z___21 = true := by decide
theorem wc_z___3f : WC z___3f = true := by decide
theorem wc_z__a : WC z__a = true := by decide
theorem wc_z__free : WC z__free = true := by decide
theorem wc_z_a : WC z_a = true := by decide
theorem wc_z_a1 : WC z_a1 = true := by decide
theorem wc_z_aB : WC z_aB = true := by decide
theorem wc_z_a_7bb : WC z_a_7bb = true := by decide
theorem wc_z_a_b : WC z_a_b = true := by decide
theorem wc_z_abcdefghijklm : WC z_abcdefghijklm = true := by decide
theorem wc_z_abcdefghijklmnopqrstuvwxyz : WC z_abcdefghijklmnopqrstuvwxyz = true := by decide
theorem wc_z_again : WC z_again = true := by decide
theorem wc_z_at : WC z_at = true := by decide
theorem wc_z_at_ : WC z_at_ = true := by decide
theorem wc_z_at_free : WC z_at_free = true := by decide
theorem wc_z_at_held : WC z_at_held = true := by decide
theorem wc_z_at_held_held : WC z_at_held_held = true := by decide
theorem wc_z_b : WC z_b = true := by decide
theorem wc_z_deed : WC z_deed = true := by decide
theorem wc_z_fine : WC z_fine = true := by decide
theorem wc_z_free : WC z_free = true := by decide
theorem wc_z_held : WC z_held = true := by decide
theorem wc_z_hold : WC z_hold = true := by decide
theorem wc_z_keep : WC z_keep = true := by decide
theorem wc_z_lapse : WC z_lapse = true := by decide
theorem wc_z_let_5fgo : WC z_let_5fgo = true := by decide
theorem wc_z_letgo : WC z_letgo = true := by decide
theorem wc_z_longer : WC z_longer = true := by decide
theorem wc_z_looks : WC z_looks = true := by decide
theorem wc_z_marks : WC z_marks = true := by decide
theorem wc_z_mine : WC z_mine = true := by decide
theorem wc_z_move_ : WC z_move_ = true := by decide
theorem wc_z_move_free : WC z_move_free = true := by decide
theorem wc_z_my : WC z_my = true := by decide
theorem wc_z_my_ : WC z_my_ = true := by decide
theorem wc_z_my_free : WC z_my_free = true := by decide
theorem wc_z_my_held : WC z_my_held = true := by decide
theorem wc_z_my_held_held : WC z_my_held_held = true := by decide
theorem wc_z_my_sold : WC z_my_sold = true := by decide
theorem wc_z_name : WC z_name = true := by decide
theorem wc_z_new : WC z_new = true := by decide
theorem wc_z_none : WC z_none = true := by decide
theorem wc_z_not_ : WC z_not_ = true := by decide
theorem wc_z_odd : WC z_odd = true := by decide
theorem wc_z_on_7c : WC z_on_7c = true := by decide
theorem wc_z_other : WC z_other = true := by decide
theorem wc_z_others_ : WC z_others_ = true := by decide
theorem wc_z_others_free : WC z_others_free = true := by decide
theorem wc_z_others_held : WC z_others_held = true := by decide
theorem wc_z_over : WC z_over = true := by decide
theorem wc_z_paid : WC z_paid = true := by decide
theorem wc_z_paid_2c : WC z_paid_2c = true := by decide
theorem wc_z_pay : WC z_pay = true := by decide
theorem wc_z_refund : WC z_refund = true := by decide
theorem wc_z_row : WC z_row = true := by decide
theorem wc_z_running : WC z_running = true := by decide
theorem wc_z_same : WC z_same = true := by decide
theorem wc_z_shown : WC z_shown = true := by decide
theorem wc_z_sold : WC z_sold = true := by decide
theorem wc_z_states : WC z_states = true := by decide
theorem wc_z_states_3a_ : WC z_states_3a_ = true := by decide
theorem wc_z_still : WC z_still = true := by decide
theorem wc_z_take_ : WC z_take_ = true := by decide
theorem wc_z_take_free : WC z_take_free = true := by decide
theorem wc_z_take_held : WC z_take_held = true := by decide
theorem wc_z_take_held_held : WC z_take_held_held = true := by decide
theorem wc_z_take_sold : WC z_take_sold = true := by decide
theorem wc_z_time : WC z_time = true := by decide
theorem wc_z_timed : WC z_timed = true := by decide
theorem wc_z_unpaid : WC z_unpaid = true := by decide
theorem wc_z_x_7e : WC z_x_7e = true := by decide
theorem sub_d (n : Nat) : (Φd n).sub = subB tb := rfl
theorem c_is_word (n : Nat) (ds : List D) (s : DS) : callF (Φd (n + 1)) 0 ds s = callR s (F_is_word n ds s.st) := rfl
theorem u_is_word (n : Nat) (a0 : D) (st : List MO) : F_is_word n [a0] st = fnR (exSs (Φd n) cs_is_word ⟨[.val a0, .none], st⟩) := fn_run rfl
theorem c_words_of (n : Nat) (ds : List D) (s : DS) : callF (Φd (n + 1)) 1 ds s = callR s (F_words_of n ds s.st) := rfl
theorem u_words_of (n : Nat) (a0 : D) (st : List MO) : F_words_of n [a0] st = fnR (exSs (Φd n) cs_words_of ⟨[.val a0, .none, .none, .none], st⟩) := fn_run rfl
theorem c_view_words (n : Nat) (ds : List D) (s : DS) : callF (Φd (n + 1)) 2 ds s = callR s (F_view_words n ds s.st) := rfl
theorem u_view_words (n : Nat) (a0 : D) (st : List MO) : F_view_words n [a0] st = fnR (exSs (Φd n) cs_view_words ⟨[.val a0, .none, .none], st⟩) := fn_run rfl
theorem c_looks_of (n : Nat) (ds : List D) (s : DS) : callF (Φd (n + 1)) 3 ds s = callR s (F_looks_of n ds s.st) := rfl
theorem u_looks_of (n : Nat) (a0 : D) (st : List MO) : F_looks_of n [a0] st = fnR (exSs (Φd n) cs_looks_of ⟨[.val a0, .none, .none, .none], st⟩) := fn_run rfl
theorem c_deeds_of (n : Nat) (ds : List D) (s : DS) : callF (Φd (n + 1)) 4 ds s = callR s (F_deeds_of n ds s.st) := rfl
theorem u_deeds_of (n : Nat) (a0 a1 : D) (st : List MO) : F_deeds_of n [a0, a1] st = fnR (exSs (Φd n) cs_deeds_of ⟨[.val a0, .val a1, .none, .none, .none], st⟩) := fn_run rfl
theorem c_is_each_once (n : Nat) (ds : List D) (s : DS) : callF (Φd (n + 1)) 5 ds s = callR s (F_is_each_once n ds s.st) := rfl
theorem u_is_each_once (n : Nat) (a0 : D) (st : List MO) : F_is_each_once n [a0] st = fnR (exSs (Φd n) cs_is_each_once ⟨[.val a0, .none], st⟩) := fn_run rfl
theorem c_wrong_state (n : Nat) (ds : List D) (s : DS) : callF (Φd (n + 1)) 6 ds s = callR s (F_wrong_state n ds s.st) := rfl
theorem u_wrong_state (n : Nat) (a0 : D) (st : List MO) : F_wrong_state n [a0] st = fnR (exSs (Φd n) cs_wrong_state ⟨[.val a0, .none, .none, .none, .none], st⟩) := fn_run rfl
theorem c_are_marks (n : Nat) (ds : List D) (s : DS) : callF (Φd (n + 1)) 7 ds s = callR s (F_are_marks n ds s.st) := rfl
theorem u_are_marks (n : Nat) (a0 : D) (st : List MO) : F_are_marks n [a0] st = fnR (exSs (Φd n) cs_are_marks ⟨[.val a0, .none, .none, .none, .none, .none, .none], st⟩) := fn_run rfl
theorem c_wrong_part (n : Nat) (ds : List D) (s : DS) : callF (Φd (n + 1)) 8 ds s = callR s (F_wrong_part n ds s.st) := rfl
theorem u_wrong_part (n : Nat) (a0 a1 a2 : D) (st : List MO) : F_wrong_part n [a0, a1, a2] st = fnR (exSs (Φd n) cs_wrong_part ⟨[.val a0, .val a1, .val a2, .none, .none, .none, .none, .none, .none, .none], st⟩) := fn_run rfl
theorem c_check_rows (n : Nat) (ds : List D) (s : DS) : callF (Φd (n + 1)) 9 ds s = callR s (F_check_rows n ds s.st) := rfl
theorem u_check_rows (n : Nat) (a0 a1 a2 : D) (st : List MO) : F_check_rows n [a0, a1, a2] st = fnR (exSs (Φd n) cs_check_rows ⟨[.val a0, .val a1, .val a2, .none, .none, .none, .none, .none], st⟩) := fn_run rfl
theorem c_check_book (n : Nat) (ds : List D) (s : DS) : callF (Φd (n + 1)) 10 ds s = callR s (F_check_book n ds s.st) := rfl
theorem u_check_book (n : Nat) (a0 : D) (st : List MO) : F_check_book n [a0] st = fnR (exSs (Φd n) cs_check_book ⟨[.val a0, .none, .none, .none], st⟩) := fn_run rfl
theorem c_looks_for (n : Nat) (ds : List D) (s : DS) : callF (Φd (n + 1)) 11 ds s = callR s (F_looks_for n ds s.st) := rfl
theorem u_looks_for (n : Nat) (a0 : D) (st : List MO) : F_looks_for n [a0] st = fnR (exSs (Φd n) cs_looks_for ⟨[.val a0], st⟩) := fn_run rfl
theorem c_state_text (n : Nat) (ds : List D) (s : DS) : callF (Φd (n + 1)) 12 ds s = callR s (F_state_text n ds s.st) := rfl
theorem u_state_text (n : Nat) (a0 : D) (st : List MO) : F_state_text n [a0] st = fnR (exSs (Φd n) cs_state_text ⟨[.val a0, .none, .none, .none], st⟩) := fn_run rfl
theorem c_states_text (n : Nat) (ds : List D) (s : DS) : callF (Φd (n + 1)) 13 ds s = callR s (F_states_text n ds s.st) := rfl
theorem u_states_text (n : Nat) (a0 : D) (st : List MO) : F_states_text n [a0] st = fnR (exSs (Φd n) cs_states_text ⟨[.val a0, .none], st⟩) := fn_run rfl
theorem c_listed (n : Nat) (ds : List D) (s : DS) : callF (Φd (n + 1)) 14 ds s = callR s (F_listed n ds s.st) := rfl
theorem u_listed (n : Nat) (a0 : D) (st : List MO) : F_listed n [a0] st = fnR (exSs (Φd n) cs_listed ⟨[.val a0], st⟩) := fn_run rfl
theorem c_row_text (n : Nat) (ds : List D) (s : DS) : callF (Φd (n + 1)) 15 ds s = callR s (F_row_text n ds s.st) := rfl
theorem u_row_text (n : Nat) (a0 : D) (st : List MO) : F_row_text n [a0] st = fnR (exSs (Φd n) cs_row_text ⟨[.val a0, .none, .none, .none, .none, .none, .none], st⟩) := fn_run rfl
theorem c_book_text (n : Nat) (ds : List D) (s : DS) : callF (Φd (n + 1)) 16 ds s = callR s (F_book_text n ds s.st) := rfl
theorem u_book_text (n : Nat) (a0 : D) (st : List MO) : F_book_text n [a0] st = fnR (exSs (Φd n) cs_book_text ⟨[.val a0, .none, .none, .none, .none], st⟩) := fn_run rfl
theorem c_show_book (n : Nat) (ds : List D) (s : DS) : callF (Φd (n + 1)) 17 ds s = callR s (F_show_book n ds s.st) := rfl
theorem u_show_book (n : Nat) (a0 : D) (st : List MO) : F_show_book n [a0] st = fnR (exSs (Φd n) cs_show_book ⟨[.val a0], st⟩) := fn_run rfl
theorem c__law_vault (n : Nat) (ds : List D) (s : DS) : callF (Φd (n + 1)) 18 ds s = callR s (F__law_vault n ds s.st) := rfl
theorem u__law_vault (n : Nat) (a0 a1 : D) (st : List MO) : F__law_vault n [a0, a1] st = fnR (exSs (Φd n) cs__law_vault ⟨[.val a0, .val a1, .none], st⟩) := fn_run rfl
theorem c__law_heave (n : Nat) (ds : List D) (s : DS) : callF (Φd (n + 1)) 19 ds s = callR s (F__law_heave n ds s.st) := rfl
theorem u__law_heave (n : Nat) (a0 a1 : D) (st : List MO) : F__law_heave n [a0, a1] st = fnR (exSs (Φd n) cs__law_heave ⟨[.val a0, .val a1, .none, .none], st⟩) := fn_run rfl
theorem c__law_agree (n : Nat) (ds : List D) (s : DS) : callF (Φd (n + 1)) 20 ds s = callR s (F__law_agree n ds s.st) := rfl
theorem u__law_agree (n : Nat) (a0 a1 : D) (st : List MO) : F__law_agree n [a0, a1] st = fnR (exSs (Φd n) cs__law_agree ⟨[.val a0, .val a1, .none], st⟩) := fn_run rfl
theorem c__law_call_words (n : Nat) (ds : List D) (s : DS) : callF (Φd (n + 1)) 21 ds s = callR s (F__law_call_words n ds s.st) := rfl
theorem u__law_call_words (n : Nat) (a0 a1 a2 : D) (st : List MO) : F__law_call_words n [a0, a1, a2] st = fnR (exSs (Φd n) cs__law_call_words ⟨[.val a0, .val a1, .val a2, .none, .none, .none, .none, .none, .none, .none, .none], st⟩) := fn_run rfl
theorem c__law_drawn_states (n : Nat) (ds : List D) (s : DS) : callF (Φd (n + 1)) 22 ds s = callR s (F__law_drawn_states n ds s.st) := rfl
theorem u__law_drawn_states (n : Nat) (a0 a1 : D) (st : List MO) : F__law_drawn_states n [a0, a1] st = fnR (exSs (Φd n) cs__law_drawn_states ⟨[.val a0, .val a1, .none, .none, .none], st⟩) := fn_run rfl
theorem c__law_all_looks (n : Nat) (ds : List D) (s : DS) : callF (Φd (n + 1)) 23 ds s = callR s (F__law_all_looks n ds s.st) := rfl
theorem u__law_all_looks (n : Nat) (a0 : D) (st : List MO) : F__law_all_looks n [a0] st = fnR (exSs (Φd n) cs__law_all_looks ⟨[.val a0, .none, .none, .none, .none], st⟩) := fn_run rfl
theorem c__law_all_views (n : Nat) (ds : List D) (s : DS) : callF (Φd (n + 1)) 24 ds s = callR s (F__law_all_views n ds s.st) := rfl
theorem u__law_all_views (n : Nat) (a0 : D) (st : List MO) : F__law_all_views n [a0] st = fnR (exSs (Φd n) cs__law_all_views ⟨[.val a0, .none, .none, .none], st⟩) := fn_run rfl
theorem c__law_some (n : Nat) (ds : List D) (s : DS) : callF (Φd (n + 1)) 25 ds s = callR s (F__law_some n ds s.st) := rfl
theorem u__law_some (n : Nat) (a0 a1 a2 : D) (st : List MO) : F__law_some n [a0, a1, a2] st = fnR (exSs (Φd n) cs__law_some ⟨[.val a0, .val a1, .val a2, .none, .none, .none, .none, .none], st⟩) := fn_run rfl
theorem c__law_drawn_row (n : Nat) (ds : List D) (s : DS) : callF (Φd (n + 1)) 26 ds s = callR s (F__law_drawn_row n ds s.st) := rfl
theorem u__law_drawn_row (n : Nat) (a0 a1 a2 a3 : D) (st : List MO) : F__law_drawn_row n [a0, a1, a2, a3] st = fnR (exSs (Φd n) cs__law_drawn_row ⟨[.val a0, .val a1, .val a2, .val a3, .none, .none, .none, .none, .none, .none, .none, .none, .none, .none], st⟩) := fn_run rfl
theorem c__law_drawn_book (n : Nat) (ds : List D) (s : DS) : callF (Φd (n + 1)) 27 ds s = callR s (F__law_drawn_book n ds s.st) := rfl
theorem u__law_drawn_book (n : Nat) (a0 a1 a2 a3 : D) (st : List MO) : F__law_drawn_book n [a0, a1, a2, a3] st = fnR (exSs (Φd n) cs__law_drawn_book ⟨[.val a0, .val a1, .val a2, .val a3, .none, .none, .none], st⟩) := fn_run rfl
theorem c__law_shop_book (n : Nat) (ds : List D) (s : DS) : callF (Φd (n + 1)) 28 ds s = callR s (F__law_shop_book n ds s.st) := rfl
theorem u__law_shop_book (n : Nat) (a0 : D) (st : List MO) : F__law_shop_book n [a0] st = fnR (exSs (Φd n) cs__law_shop_book ⟨[.val a0, .none, .none, .none, .none, .none, .none, .none], st⟩) := fn_run rfl
theorem c__law_is_term (n : Nat) (ds : List D) (s : DS) : callF (Φd (n + 1)) 29 ds s = callR s (F__law_is_term n ds s.st) := rfl
theorem u__law_is_term (n : Nat) (a0 : D) (st : List MO) : F__law_is_term n [a0] st = fnR (exSs (Φd n) cs__law_is_term ⟨[.val a0, .none, .none], st⟩) := fn_run rfl
theorem c__law_once (n : Nat) (ds : List D) (s : DS) : callF (Φd (n + 1)) 30 ds s = callR s (F__law_once n ds s.st) := rfl
theorem u__law_once (n : Nat) (a0 : D) (st : List MO) : F__law_once n [a0] st = fnR (exSs (Φd n) cs__law_once ⟨[.val a0, .none], st⟩) := fn_run rfl
theorem c__law_first_part (n : Nat) (ds : List D) (s : DS) : callF (Φd (n + 1)) 31 ds s = callR s (F__law_first_part n ds s.st) := rfl
theorem u__law_first_part (n : Nat) (a0 a1 a2 : D) (st : List MO) : F__law_first_part n [a0, a1, a2] st = fnR (exSs (Φd n) cs__law_first_part ⟨[.val a0, .val a1, .val a2, .none, .none, .none, .none, .none, .none, .none, .none, .none, .none, .none, .none, .none, .none], st⟩) := fn_run rfl
theorem c__law_fault (n : Nat) (ds : List D) (s : DS) : callF (Φd (n + 1)) 32 ds s = callR s (F__law_fault n ds s.st) := rfl
theorem u__law_fault (n : Nat) (a0 : D) (st : List MO) : F__law_fault n [a0] st = fnR (exSs (Φd n) cs__law_fault ⟨[.val a0, .none, .none, .none, .none, .none, .none, .none, .none, .none], st⟩) := fn_run rfl
theorem c__law_bent_book (n : Nat) (ds : List D) (s : DS) : callF (Φd (n + 1)) 33 ds s = callR s (F__law_bent_book n ds s.st) := rfl
theorem u__law_bent_book (n : Nat) (a0 a1 : D) (st : List MO) : F__law_bent_book n [a0, a1] st = fnR (exSs (Φd n) cs__law_bent_book ⟨[.val a0, .val a1, .none, .none, .none, .none, .none, .none, .none, .none, .none, .none, .none, .none, .none, .none, .none, .none, .none], st⟩) := fn_run rfl
theorem c__law_told (n : Nat) (ds : List D) (s : DS) : callF (Φd (n + 1)) 34 ds s = callR s (F__law_told n ds s.st) := rfl
theorem u__law_told (n : Nat) (a0 a1 : D) (st : List MO) : F__law_told n [a0, a1] st = fnR (exSs (Φd n) cs__law_told ⟨[.val a0, .val a1, .none, .none, .none, .none], st⟩) := fn_run rfl
theorem c_law (n : Nat) (ds : List D) (s : DS) : callF (Φd (n + 1)) 35 ds s = callR s (F_law n ds s.st) := rfl
theorem u_law (n : Nat) (a0 : D) (st : List MO) : F_law n [a0] st = fnR (exSs (Φd n) cs_law ⟨[.val a0, .none, .none, .none, .none, .none, .none, .none, .none, .none, .none], st⟩) := fn_run rfl
theorem c_looks_of_g (n : Nat) (ds : List D) (s : DS) : callF (Φd (n + 1)) 36 ds s = callR s (F_looks_of_g n ds s.st) := rfl
theorem u_looks_of_g (n : Nat) (a0 : D) (st : List MO) : F_looks_of_g n [a0] st = fnR (exSs (Φd n) cs_looks_of_g ⟨[.val a0, .none, .none, .none], st⟩) := fn_run rfl
theorem c_looks_for_g (n : Nat) (ds : List D) (s : DS) : callF (Φd (n + 1)) 37 ds s = callR s (F_looks_for_g n ds s.st) := rfl
theorem u_looks_for_g (n : Nat) (a0 : D) (st : List MO) : F_looks_for_g n [a0] st = fnR (exSs (Φd n) cs_looks_for_g ⟨[.val a0], st⟩) := fn_run rfl
end DM
end

section
set_option Elab.async false
set_option linter.all false
set_option maxRecDepth 100000
namespace DM
open DL
local macro_rules | `(tactic| walk_at "wc") => `(tactic| (simp only [List.all_cons, List.all_nil, Bool.and_self, Bool.and_true, wc_z_, wc_z__, wc_z__21_22_23_24_26_27_28_29_2a__65324, wc_z__2c_, wc_z__3a, wc_z__60a, wc_z___21, wc_z___3f, wc_z__a, wc_z__free, wc_z_a, wc_z_a1, wc_z_aB, wc_z_a_7bb, wc_z_a_b, wc_z_abcdefghijklm, wc_z_abcdefghijklmnopqrstuvwxyz, wc_z_again, wc_z_at, wc_z_at_, wc_z_at_free, wc_z_at_held, wc_z_at_held_held, wc_z_b, wc_z_deed, wc_z_fine, wc_z_free, wc_z_held, wc_z_hold, wc_z_keep, wc_z_lapse, wc_z_let_5fgo, wc_z_letgo, wc_z_longer, wc_z_looks, wc_z_marks, wc_z_mine, wc_z_move_, wc_z_move_free, wc_z_my, wc_z_my_, wc_z_my_free, wc_z_my_held, wc_z_my_held_held, wc_z_my_sold, wc_z_name, wc_z_new, wc_z_none, wc_z_not_, wc_z_odd, wc_z_on_7c, wc_z_other, wc_z_others_, wc_z_others_free, wc_z_others_held, wc_z_over, wc_z_paid, wc_z_paid_2c, wc_z_pay, wc_z_refund, wc_z_row, wc_z_running, wc_z_same, wc_z_shown, wc_z_sold, wc_z_states, wc_z_states_3a_, wc_z_still, wc_z_take_, wc_z_take_free, wc_z_take_held, wc_z_take_held_held, wc_z_take_sold, wc_z_time, wc_z_timed, wc_z_unpaid, wc_z_x_7e] <;> done))
local macro_rules | `(tactic| walk_at "wbs") => `(tactic| first | with_reducible assumption | (apply WC_of; with_reducible assumption) | (apply WCs_of; with_reducible assumption) | walk_at "wc" | (apply all_take; walk_at "wbs") | (apply all_drop; walk_at "wbs") | (apply all_filter; walk_at "wbs") | (apply all_app <;> walk_at "wbs") | (apply all_cons' <;> walk_at "wbs") | (apply WB_take; walk_at "wbs") | fail)
local macro_rules | `(tactic| walk_at "bnd") => `(tactic| first
  | with_reducible assumption
  | (refine wipe_is ?_; with_unfolding_all rfl)
  | (simp only [List.length_append, List.length_cons, List.length_nil, List.length_map, List.length_range, List.length_zipIdx, List.length_reverse, List.length_set, List.length_take, List.length_drop, big, Nat.zero_add] <;> first | omega | (have hl1 := WB_len ‹WB _ _ = true›; omega) | (split <;> (try simp only [List.length_nil, Nat.zero_add]) <;> omega))
  | (simp only [okf, okn_tup, okn_lst, okn_int, okn_bl, okn_non, okn_ints, okn_bls, List.all_cons, List.all_nil, Bool.and_true, Bool.true_and, Bool.and_self, Bool.and_eq_true] <;> first
      | done
      | ((repeat' constructor) <;> first
         | with_reducible assumption
         | walk_at "wc"
         | (apply okn_str; walk_at "wbs")
         | (apply okn_strs; walk_at "wbs")))
  | fail)
local macro_rules | `(tactic| push_cast [$xs,*]) => `(tactic| simp -implicitDefEqProofs (maxSteps := 2000000) (disch := first
    | walk_at "bnd"
    | (intro x hx; first
        | (have hz := mem_zip hx; (try (have hm := mem_all (by with_reducible assumption) hz.2; try have hl := WB_len hm)); simp -implicitDefEqProofs (maxSteps := 2000000) (disch := walk_at "bnd") only [↓e_var, ↓e_lit, ↓e_glo, ↓e_bin, ↓e_neg, ↓e_cmp, ↓e_chn, ↓e_and, ↓e_or, ↓e_nt, ↓e_ite, ↓e_tup, ↓e_lst, ↓e_call, ↓e_callk, ↓e_bi, ↓e_me, ↓e_idx, ↓e_sli, ↓e_rev, ↓e_cat, cat_lst, rev_tup, rev_lst, ↓e_lc, ↓e_dc, ↓e_fst, ↓e_fld, ↓e_rep, ↓e_isi, ↓e_xis, rdV_val, rdV_own, callR_ok, callR_exc, callR_ite, fldR_exc, xisR_exc, isi_non, isi_bl, isi_int, isi_str, isi_tup, isi_lst, ↓and_one, ↓and_cons, ↓or_one, ↓or_cons, ↓f_nil, ↓f_cons, ↓es_nil, ↓es_cons, ↓a_nil, ↓a_cons, ↓a_star, ↓asA_nil, ↓asA_cons, ↓o_none, ↓o_some, ↓c_none, ↓c_some, ↓i_seq, ↓i_rng1, ↓i_enum, ↓seq_nx, ↓seq_ret, ↓seq_bk, ↓seq_ct, ↓seq_exc, ↓seq_stuck, ↓ss_nil, ↓ss_cons, asgR_some, ↓s_asg, ownR_some, ↓s_own, glbR_some, ↓s_glb, ↓s_par, par_nil, par_val, par_own, appR_lst, ↓s_app, ↓s_sti, mutO_own, celR_some, mutC_some, mut_own, mut_obj, appM_lst, stiM_lst, ↓s_ex, ↓s_ret, ↓s_retN, retGR_some, ↓s_retG, ↓s_ife, ↓s_for, ↓s_pas, ↓s_brk, ↓s_cnt, ↓s_rai, ↓tri_ok, ↓tri_exc, ↓s_tri, ↓h_nil, ↓h_cons, clrX_mk, clr1_none, clr1_val, clr1_own, clr1_exc, fnR_ret, fnR_nx, fnR_exc, fnR_ite, putS_mk, wipe_nil, wipe_cons, put_nm, put_tp, put_tpl, puts_nil, puts_cons, obind_some, omap_some, esc_non, esc_bl, esc_int, esc_str, esc_tup, esc_lst, esc_obj, esc_dic, esc_own, escO_lst, esc_ite, de_non, de_bl, de_int, de_str, de_tup, de_lst, de_dic, de_own, de_obj, deO_own, deC_lst, moD_lst, seqD_lst, seqD_tup, seqD_str, ite_ok, ite_okb, ite_oko, ite_bl, ite_int, ite_str, ite_lst, ite_tup, ite_ret, if_and, if_or, ifp_and, ifp_or, ↓guard_res, ↓guard_opt, guard_res, guard_opt, lift_ite, b_addi, b_adds, b_addl, b_addt, b_sub, b_mul, b_fdiv, b_mod, b_pow, b_and, k_eq, k_ne, k_lt, k_le, k_gt, k_ge, k_isn, k_nis, k_in, k_nin, in_lst, in_tup, in_str, nn_non, nn_bl, nn_int, nn_str, nn_tup, nn_lst, nn_obj, eq_str, eq_int, eq_bl, eq_tup, eq_lst, eqs_nil, x_lst, x_tup, x_str, sl_lst, sl_tup, sl_str, u_lenl, u_lent, u_lend, u_lens, u_abs, u_max, u_min, u_int, u_all, u_any, u_tupl, u_tupt, u_lstl, u_lstt, bools_map, mapde_cons, mapde_nil, memD_strs, lcT_eq, lcO_some, lcW_ok, forT_eq, forO_some, ↓Res.bind_ok, ↓Res.bind_exc, ↓Res.bind_stuck, asB_stuck, fnR_stuck, callR_stuck, lift_none', Res.lift_some, asB_bl, asB_exc, noX_ok, List.getElem?_cons_zero, List.getElem?_cons_succ, List.set_cons_zero, List.set_cons_succ, consD_app, List.nil_append, List.append_nil, Option.map_some, Bool.not_not, fm_str, fm_itestr, fm_some, fm_ite, fm_itp, cn_ite, cn_ite1, cn_ite2, cn_app, cn_lst, cn_tup, ↓cn_lc, List.isEmpty_map, List.length_map, List.map_id', if_true, if_false, Bool.false_eq_true, Bool.not_true, Bool.not_false, Bool.and_true, Bool.true_and, Bool.or_false, Bool.false_or, Bool.and_false, Bool.false_and, Bool.or_true, Bool.true_or, decide_eq_true_eq, Bool.decide_eq_true, ↓j_B2, ↓j_B1, ↓j_Neg, ↓j_C2, ↓j_C1, ↓j_H4, ↓j_H3, ↓j_H2, ↓j_H1, ↓j_Nt, ↓j_Bl, ↓j_Ite, ↓j_Tup, ↓j_Lst, ↓j_K2, ↓j_K1, ↓j_Bi, ↓j_M2, ↓j_M1, ↓j_X2, ↓j_X1, ↓j_S3, ↓j_S2, ↓j_S1, ↓j_Rev, ↓j_Cat2, ↓j_Cat1, ↓j_L2, ↓j_L1, ↓j_D1, ↓j_R2, ↓j_R1, ↓j_Is, ↓j_And, ↓j_Or, ↓j_F, ↓j_E2, ↓j_E1, ↓j_A2, ↓j_A1, ↓j_A4, ↓j_A3, ↓j_O, ↓j_Q2, ↓j_Q1, ↓j_Rn, ↓j_En2l, ↓j_En2t, ↓j_En1, ↓j_G2, ↓j_G1, ↓j_W, ↓j_Gl, ↓j_P3, ↓j_P2, ↓j_P1, ↓j_T4, ↓j_T3, ↓j_T2, ↓j_T1, ↓j_Ex, ↓j_Rt2, ↓j_Rt1, ↓j_Rg, ↓j_If, ↓j_Fr, ↓j_Ra, ↓j_Hx, ↓j_V3, ↓j_V2, ↓j_V1, star_lst, star_tup, bind_ite, lc_auto, cl1, cl2, cl3, cl4, cl5, cl6, cl7, cl8, cl9, cl10, cl11, cl12, cl13, cl14, ct1, ct2, ct3, ct4, ct5, ct6, ca1, ca2, ca3, ca4, ca5, ca6, ca7, ca8, at_map, at_nat, at_0, at_1, at_2, at_3, at_4, cut_map, cut_take, cut_drop, cut_take1, cut_take10, cut_take11, cut_drop1, cut_dropS, rev_map, take_map, drop_map, stop_ite, enumD_zip, rngD_zip, sing_app, List.getElem?_map, hz.1, $xs,*]; with_reducible rfl)
        | (have hr := List.mem_range.mp hx; simp -implicitDefEqProofs (maxSteps := 2000000) (disch := walk_at "bnd") only [↓e_var, ↓e_lit, ↓e_glo, ↓e_bin, ↓e_neg, ↓e_cmp, ↓e_chn, ↓e_and, ↓e_or, ↓e_nt, ↓e_ite, ↓e_tup, ↓e_lst, ↓e_call, ↓e_callk, ↓e_bi, ↓e_me, ↓e_idx, ↓e_sli, ↓e_rev, ↓e_cat, cat_lst, rev_tup, rev_lst, ↓e_lc, ↓e_dc, ↓e_fst, ↓e_fld, ↓e_rep, ↓e_isi, ↓e_xis, rdV_val, rdV_own, callR_ok, callR_exc, callR_ite, fldR_exc, xisR_exc, isi_non, isi_bl, isi_int, isi_str, isi_tup, isi_lst, ↓and_one, ↓and_cons, ↓or_one, ↓or_cons, ↓f_nil, ↓f_cons, ↓es_nil, ↓es_cons, ↓a_nil, ↓a_cons, ↓a_star, ↓asA_nil, ↓asA_cons, ↓o_none, ↓o_some, ↓c_none, ↓c_some, ↓i_seq, ↓i_rng1, ↓i_enum, ↓seq_nx, ↓seq_ret, ↓seq_bk, ↓seq_ct, ↓seq_exc, ↓seq_stuck, ↓ss_nil, ↓ss_cons, asgR_some, ↓s_asg, ownR_some, ↓s_own, glbR_some, ↓s_glb, ↓s_par, par_nil, par_val, par_own, appR_lst, ↓s_app, ↓s_sti, mutO_own, celR_some, mutC_some, mut_own, mut_obj, appM_lst, stiM_lst, ↓s_ex, ↓s_ret, ↓s_retN, retGR_some, ↓s_retG, ↓s_ife, ↓s_for, ↓s_pas, ↓s_brk, ↓s_cnt, ↓s_rai, ↓tri_ok, ↓tri_exc, ↓s_tri, ↓h_nil, ↓h_cons, clrX_mk, clr1_none, clr1_val, clr1_own, clr1_exc, fnR_ret, fnR_nx, fnR_exc, fnR_ite, putS_mk, wipe_nil, wipe_cons, put_nm, put_tp, put_tpl, puts_nil, puts_cons, obind_some, omap_some, esc_non, esc_bl, esc_int, esc_str, esc_tup, esc_lst, esc_obj, esc_dic, esc_own, escO_lst, esc_ite, de_non, de_bl, de_int, de_str, de_tup, de_lst, de_dic, de_own, de_obj, deO_own, deC_lst, moD_lst, seqD_lst, seqD_tup, seqD_str, ite_ok, ite_okb, ite_oko, ite_bl, ite_int, ite_str, ite_lst, ite_tup, ite_ret, if_and, if_or, ifp_and, ifp_or, ↓guard_res, ↓guard_opt, guard_res, guard_opt, lift_ite, b_addi, b_adds, b_addl, b_addt, b_sub, b_mul, b_fdiv, b_mod, b_pow, b_and, k_eq, k_ne, k_lt, k_le, k_gt, k_ge, k_isn, k_nis, k_in, k_nin, in_lst, in_tup, in_str, nn_non, nn_bl, nn_int, nn_str, nn_tup, nn_lst, nn_obj, eq_str, eq_int, eq_bl, eq_tup, eq_lst, eqs_nil, x_lst, x_tup, x_str, sl_lst, sl_tup, sl_str, u_lenl, u_lent, u_lend, u_lens, u_abs, u_max, u_min, u_int, u_all, u_any, u_tupl, u_tupt, u_lstl, u_lstt, bools_map, mapde_cons, mapde_nil, memD_strs, lcT_eq, lcO_some, lcW_ok, forT_eq, forO_some, ↓Res.bind_ok, ↓Res.bind_exc, ↓Res.bind_stuck, asB_stuck, fnR_stuck, callR_stuck, lift_none', Res.lift_some, asB_bl, asB_exc, noX_ok, List.getElem?_cons_zero, List.getElem?_cons_succ, List.set_cons_zero, List.set_cons_succ, consD_app, List.nil_append, List.append_nil, Option.map_some, Bool.not_not, fm_str, fm_itestr, fm_some, fm_ite, fm_itp, cn_ite, cn_ite1, cn_ite2, cn_app, cn_lst, cn_tup, ↓cn_lc, List.isEmpty_map, List.length_map, List.map_id', if_true, if_false, Bool.false_eq_true, Bool.not_true, Bool.not_false, Bool.and_true, Bool.true_and, Bool.or_false, Bool.false_or, Bool.and_false, Bool.false_and, Bool.or_true, Bool.true_or, decide_eq_true_eq, Bool.decide_eq_true, ↓j_B2, ↓j_B1, ↓j_Neg, ↓j_C2, ↓j_C1, ↓j_H4, ↓j_H3, ↓j_H2, ↓j_H1, ↓j_Nt, ↓j_Bl, ↓j_Ite, ↓j_Tup, ↓j_Lst, ↓j_K2, ↓j_K1, ↓j_Bi, ↓j_M2, ↓j_M1, ↓j_X2, ↓j_X1, ↓j_S3, ↓j_S2, ↓j_S1, ↓j_Rev, ↓j_Cat2, ↓j_Cat1, ↓j_L2, ↓j_L1, ↓j_D1, ↓j_R2, ↓j_R1, ↓j_Is, ↓j_And, ↓j_Or, ↓j_F, ↓j_E2, ↓j_E1, ↓j_A2, ↓j_A1, ↓j_A4, ↓j_A3, ↓j_O, ↓j_Q2, ↓j_Q1, ↓j_Rn, ↓j_En2l, ↓j_En2t, ↓j_En1, ↓j_G2, ↓j_G1, ↓j_W, ↓j_Gl, ↓j_P3, ↓j_P2, ↓j_P1, ↓j_T4, ↓j_T3, ↓j_T2, ↓j_T1, ↓j_Ex, ↓j_Rt2, ↓j_Rt1, ↓j_Rg, ↓j_If, ↓j_Fr, ↓j_Ra, ↓j_Hx, ↓j_V3, ↓j_V2, ↓j_V1, star_lst, star_tup, bind_ite, lc_auto, cl1, cl2, cl3, cl4, cl5, cl6, cl7, cl8, cl9, cl10, cl11, cl12, cl13, cl14, ct1, ct2, ct3, ct4, ct5, ct6, ca1, ca2, ca3, ca4, ca5, ca6, ca7, ca8, at_map, at_nat, at_0, at_1, at_2, at_3, at_4, cut_map, cut_take, cut_drop, cut_take1, cut_take10, cut_take11, cut_drop1, cut_dropS, rev_map, take_map, drop_map, stop_ite, enumD_zip, rngD_zip, sing_app, List.getElem?_map, $xs,*]; with_reducible rfl)
        | (have hm := mem_all (by with_reducible assumption) hx; (try have hl := WB_len hm); simp -implicitDefEqProofs (maxSteps := 2000000) (disch := walk_at "bnd") only [↓e_var, ↓e_lit, ↓e_glo, ↓e_bin, ↓e_neg, ↓e_cmp, ↓e_chn, ↓e_and, ↓e_or, ↓e_nt, ↓e_ite, ↓e_tup, ↓e_lst, ↓e_call, ↓e_callk, ↓e_bi, ↓e_me, ↓e_idx, ↓e_sli, ↓e_rev, ↓e_cat, cat_lst, rev_tup, rev_lst, ↓e_lc, ↓e_dc, ↓e_fst, ↓e_fld, ↓e_rep, ↓e_isi, ↓e_xis, rdV_val, rdV_own, callR_ok, callR_exc, callR_ite, fldR_exc, xisR_exc, isi_non, isi_bl, isi_int, isi_str, isi_tup, isi_lst, ↓and_one, ↓and_cons, ↓or_one, ↓or_cons, ↓f_nil, ↓f_cons, ↓es_nil, ↓es_cons, ↓a_nil, ↓a_cons, ↓a_star, ↓asA_nil, ↓asA_cons, ↓o_none, ↓o_some, ↓c_none, ↓c_some, ↓i_seq, ↓i_rng1, ↓i_enum, ↓seq_nx, ↓seq_ret, ↓seq_bk, ↓seq_ct, ↓seq_exc, ↓seq_stuck, ↓ss_nil, ↓ss_cons, asgR_some, ↓s_asg, ownR_some, ↓s_own, glbR_some, ↓s_glb, ↓s_par, par_nil, par_val, par_own, appR_lst, ↓s_app, ↓s_sti, mutO_own, celR_some, mutC_some, mut_own, mut_obj, appM_lst, stiM_lst, ↓s_ex, ↓s_ret, ↓s_retN, retGR_some, ↓s_retG, ↓s_ife, ↓s_for, ↓s_pas, ↓s_brk, ↓s_cnt, ↓s_rai, ↓tri_ok, ↓tri_exc, ↓s_tri, ↓h_nil, ↓h_cons, clrX_mk, clr1_none, clr1_val, clr1_own, clr1_exc, fnR_ret, fnR_nx, fnR_exc, fnR_ite, putS_mk, wipe_nil, wipe_cons, put_nm, put_tp, put_tpl, puts_nil, puts_cons, obind_some, omap_some, esc_non, esc_bl, esc_int, esc_str, esc_tup, esc_lst, esc_obj, esc_dic, esc_own, escO_lst, esc_ite, de_non, de_bl, de_int, de_str, de_tup, de_lst, de_dic, de_own, de_obj, deO_own, deC_lst, moD_lst, seqD_lst, seqD_tup, seqD_str, ite_ok, ite_okb, ite_oko, ite_bl, ite_int, ite_str, ite_lst, ite_tup, ite_ret, if_and, if_or, ifp_and, ifp_or, ↓guard_res, ↓guard_opt, guard_res, guard_opt, lift_ite, b_addi, b_adds, b_addl, b_addt, b_sub, b_mul, b_fdiv, b_mod, b_pow, b_and, k_eq, k_ne, k_lt, k_le, k_gt, k_ge, k_isn, k_nis, k_in, k_nin, in_lst, in_tup, in_str, nn_non, nn_bl, nn_int, nn_str, nn_tup, nn_lst, nn_obj, eq_str, eq_int, eq_bl, eq_tup, eq_lst, eqs_nil, x_lst, x_tup, x_str, sl_lst, sl_tup, sl_str, u_lenl, u_lent, u_lend, u_lens, u_abs, u_max, u_min, u_int, u_all, u_any, u_tupl, u_tupt, u_lstl, u_lstt, bools_map, mapde_cons, mapde_nil, memD_strs, lcT_eq, lcO_some, lcW_ok, forT_eq, forO_some, ↓Res.bind_ok, ↓Res.bind_exc, ↓Res.bind_stuck, asB_stuck, fnR_stuck, callR_stuck, lift_none', Res.lift_some, asB_bl, asB_exc, noX_ok, List.getElem?_cons_zero, List.getElem?_cons_succ, List.set_cons_zero, List.set_cons_succ, consD_app, List.nil_append, List.append_nil, Option.map_some, Bool.not_not, fm_str, fm_itestr, fm_some, fm_ite, fm_itp, cn_ite, cn_ite1, cn_ite2, cn_app, cn_lst, cn_tup, ↓cn_lc, List.isEmpty_map, List.length_map, List.map_id', if_true, if_false, Bool.false_eq_true, Bool.not_true, Bool.not_false, Bool.and_true, Bool.true_and, Bool.or_false, Bool.false_or, Bool.and_false, Bool.false_and, Bool.or_true, Bool.true_or, decide_eq_true_eq, Bool.decide_eq_true, ↓j_B2, ↓j_B1, ↓j_Neg, ↓j_C2, ↓j_C1, ↓j_H4, ↓j_H3, ↓j_H2, ↓j_H1, ↓j_Nt, ↓j_Bl, ↓j_Ite, ↓j_Tup, ↓j_Lst, ↓j_K2, ↓j_K1, ↓j_Bi, ↓j_M2, ↓j_M1, ↓j_X2, ↓j_X1, ↓j_S3, ↓j_S2, ↓j_S1, ↓j_Rev, ↓j_Cat2, ↓j_Cat1, ↓j_L2, ↓j_L1, ↓j_D1, ↓j_R2, ↓j_R1, ↓j_Is, ↓j_And, ↓j_Or, ↓j_F, ↓j_E2, ↓j_E1, ↓j_A2, ↓j_A1, ↓j_A4, ↓j_A3, ↓j_O, ↓j_Q2, ↓j_Q1, ↓j_Rn, ↓j_En2l, ↓j_En2t, ↓j_En1, ↓j_G2, ↓j_G1, ↓j_W, ↓j_Gl, ↓j_P3, ↓j_P2, ↓j_P1, ↓j_T4, ↓j_T3, ↓j_T2, ↓j_T1, ↓j_Ex, ↓j_Rt2, ↓j_Rt1, ↓j_Rg, ↓j_If, ↓j_Fr, ↓j_Ra, ↓j_Hx, ↓j_V3, ↓j_V2, ↓j_V1, star_lst, star_tup, bind_ite, lc_auto, cl1, cl2, cl3, cl4, cl5, cl6, cl7, cl8, cl9, cl10, cl11, cl12, cl13, cl14, ct1, ct2, ct3, ct4, ct5, ct6, ca1, ca2, ca3, ca4, ca5, ca6, ca7, ca8, at_map, at_nat, at_0, at_1, at_2, at_3, at_4, cut_map, cut_take, cut_drop, cut_take1, cut_take10, cut_take11, cut_drop1, cut_dropS, rev_map, take_map, drop_map, stop_ite, enumD_zip, rngD_zip, sing_app, List.getElem?_map, $xs,*]; with_reducible rfl)
        | (simp -implicitDefEqProofs (maxSteps := 2000000) (disch := walk_at "bnd") only [↓e_var, ↓e_lit, ↓e_glo, ↓e_bin, ↓e_neg, ↓e_cmp, ↓e_chn, ↓e_and, ↓e_or, ↓e_nt, ↓e_ite, ↓e_tup, ↓e_lst, ↓e_call, ↓e_callk, ↓e_bi, ↓e_me, ↓e_idx, ↓e_sli, ↓e_rev, ↓e_cat, cat_lst, rev_tup, rev_lst, ↓e_lc, ↓e_dc, ↓e_fst, ↓e_fld, ↓e_rep, ↓e_isi, ↓e_xis, rdV_val, rdV_own, callR_ok, callR_exc, callR_ite, fldR_exc, xisR_exc, isi_non, isi_bl, isi_int, isi_str, isi_tup, isi_lst, ↓and_one, ↓and_cons, ↓or_one, ↓or_cons, ↓f_nil, ↓f_cons, ↓es_nil, ↓es_cons, ↓a_nil, ↓a_cons, ↓a_star, ↓asA_nil, ↓asA_cons, ↓o_none, ↓o_some, ↓c_none, ↓c_some, ↓i_seq, ↓i_rng1, ↓i_enum, ↓seq_nx, ↓seq_ret, ↓seq_bk, ↓seq_ct, ↓seq_exc, ↓seq_stuck, ↓ss_nil, ↓ss_cons, asgR_some, ↓s_asg, ownR_some, ↓s_own, glbR_some, ↓s_glb, ↓s_par, par_nil, par_val, par_own, appR_lst, ↓s_app, ↓s_sti, mutO_own, celR_some, mutC_some, mut_own, mut_obj, appM_lst, stiM_lst, ↓s_ex, ↓s_ret, ↓s_retN, retGR_some, ↓s_retG, ↓s_ife, ↓s_for, ↓s_pas, ↓s_brk, ↓s_cnt, ↓s_rai, ↓tri_ok, ↓tri_exc, ↓s_tri, ↓h_nil, ↓h_cons, clrX_mk, clr1_none, clr1_val, clr1_own, clr1_exc, fnR_ret, fnR_nx, fnR_exc, fnR_ite, putS_mk, wipe_nil, wipe_cons, put_nm, put_tp, put_tpl, puts_nil, puts_cons, obind_some, omap_some, esc_non, esc_bl, esc_int, esc_str, esc_tup, esc_lst, esc_obj, esc_dic, esc_own, escO_lst, esc_ite, de_non, de_bl, de_int, de_str, de_tup, de_lst, de_dic, de_own, de_obj, deO_own, deC_lst, moD_lst, seqD_lst, seqD_tup, seqD_str, ite_ok, ite_okb, ite_oko, ite_bl, ite_int, ite_str, ite_lst, ite_tup, ite_ret, if_and, if_or, ifp_and, ifp_or, ↓guard_res, ↓guard_opt, guard_res, guard_opt, lift_ite, b_addi, b_adds, b_addl, b_addt, b_sub, b_mul, b_fdiv, b_mod, b_pow, b_and, k_eq, k_ne, k_lt, k_le, k_gt, k_ge, k_isn, k_nis, k_in, k_nin, in_lst, in_tup, in_str, nn_non, nn_bl, nn_int, nn_str, nn_tup, nn_lst, nn_obj, eq_str, eq_int, eq_bl, eq_tup, eq_lst, eqs_nil, x_lst, x_tup, x_str, sl_lst, sl_tup, sl_str, u_lenl, u_lent, u_lend, u_lens, u_abs, u_max, u_min, u_int, u_all, u_any, u_tupl, u_tupt, u_lstl, u_lstt, bools_map, mapde_cons, mapde_nil, memD_strs, lcT_eq, lcO_some, lcW_ok, forT_eq, forO_some, ↓Res.bind_ok, ↓Res.bind_exc, ↓Res.bind_stuck, asB_stuck, fnR_stuck, callR_stuck, lift_none', Res.lift_some, asB_bl, asB_exc, noX_ok, List.getElem?_cons_zero, List.getElem?_cons_succ, List.set_cons_zero, List.set_cons_succ, consD_app, List.nil_append, List.append_nil, Option.map_some, Bool.not_not, fm_str, fm_itestr, fm_some, fm_ite, fm_itp, cn_ite, cn_ite1, cn_ite2, cn_app, cn_lst, cn_tup, ↓cn_lc, List.isEmpty_map, List.length_map, List.map_id', if_true, if_false, Bool.false_eq_true, Bool.not_true, Bool.not_false, Bool.and_true, Bool.true_and, Bool.or_false, Bool.false_or, Bool.and_false, Bool.false_and, Bool.or_true, Bool.true_or, decide_eq_true_eq, Bool.decide_eq_true, ↓j_B2, ↓j_B1, ↓j_Neg, ↓j_C2, ↓j_C1, ↓j_H4, ↓j_H3, ↓j_H2, ↓j_H1, ↓j_Nt, ↓j_Bl, ↓j_Ite, ↓j_Tup, ↓j_Lst, ↓j_K2, ↓j_K1, ↓j_Bi, ↓j_M2, ↓j_M1, ↓j_X2, ↓j_X1, ↓j_S3, ↓j_S2, ↓j_S1, ↓j_Rev, ↓j_Cat2, ↓j_Cat1, ↓j_L2, ↓j_L1, ↓j_D1, ↓j_R2, ↓j_R1, ↓j_Is, ↓j_And, ↓j_Or, ↓j_F, ↓j_E2, ↓j_E1, ↓j_A2, ↓j_A1, ↓j_A4, ↓j_A3, ↓j_O, ↓j_Q2, ↓j_Q1, ↓j_Rn, ↓j_En2l, ↓j_En2t, ↓j_En1, ↓j_G2, ↓j_G1, ↓j_W, ↓j_Gl, ↓j_P3, ↓j_P2, ↓j_P1, ↓j_T4, ↓j_T3, ↓j_T2, ↓j_T1, ↓j_Ex, ↓j_Rt2, ↓j_Rt1, ↓j_Rg, ↓j_If, ↓j_Fr, ↓j_Ra, ↓j_Hx, ↓j_V3, ↓j_V2, ↓j_V1, star_lst, star_tup, bind_ite, lc_auto, cl1, cl2, cl3, cl4, cl5, cl6, cl7, cl8, cl9, cl10, cl11, cl12, cl13, cl14, ct1, ct2, ct3, ct4, ct5, ct6, ca1, ca2, ca3, ca4, ca5, ca6, ca7, ca8, at_map, at_nat, at_0, at_1, at_2, at_3, at_4, cut_map, cut_take, cut_drop, cut_take1, cut_take10, cut_take11, cut_drop1, cut_dropS, rev_map, take_map, drop_map, stop_ite, enumD_zip, rngD_zip, sing_app, List.getElem?_map, $xs,*]; with_reducible rfl))) only [↓e_var, ↓e_lit, ↓e_glo, ↓e_bin, ↓e_neg, ↓e_cmp, ↓e_chn, ↓e_and, ↓e_or, ↓e_nt, ↓e_ite, ↓e_tup, ↓e_lst, ↓e_call, ↓e_callk, ↓e_bi, ↓e_me, ↓e_idx, ↓e_sli, ↓e_rev, ↓e_cat, cat_lst, rev_tup, rev_lst, ↓e_lc, ↓e_dc, ↓e_fst, ↓e_fld, ↓e_rep, ↓e_isi, ↓e_xis, rdV_val, rdV_own, callR_ok, callR_exc, callR_ite, fldR_exc, xisR_exc, isi_non, isi_bl, isi_int, isi_str, isi_tup, isi_lst, ↓and_one, ↓and_cons, ↓or_one, ↓or_cons, ↓f_nil, ↓f_cons, ↓es_nil, ↓es_cons, ↓a_nil, ↓a_cons, ↓a_star, ↓asA_nil, ↓asA_cons, ↓o_none, ↓o_some, ↓c_none, ↓c_some, ↓i_seq, ↓i_rng1, ↓i_enum, ↓seq_nx, ↓seq_ret, ↓seq_bk, ↓seq_ct, ↓seq_exc, ↓seq_stuck, ↓ss_nil, ↓ss_cons, asgR_some, ↓s_asg, ownR_some, ↓s_own, glbR_some, ↓s_glb, ↓s_par, par_nil, par_val, par_own, appR_lst, ↓s_app, ↓s_sti, mutO_own, celR_some, mutC_some, mut_own, mut_obj, appM_lst, stiM_lst, ↓s_ex, ↓s_ret, ↓s_retN, retGR_some, ↓s_retG, ↓s_ife, ↓s_for, ↓s_pas, ↓s_brk, ↓s_cnt, ↓s_rai, ↓tri_ok, ↓tri_exc, ↓s_tri, ↓h_nil, ↓h_cons, clrX_mk, clr1_none, clr1_val, clr1_own, clr1_exc, fnR_ret, fnR_nx, fnR_exc, fnR_ite, putS_mk, wipe_nil, wipe_cons, put_nm, put_tp, put_tpl, puts_nil, puts_cons, obind_some, omap_some, esc_non, esc_bl, esc_int, esc_str, esc_tup, esc_lst, esc_obj, esc_dic, esc_own, escO_lst, esc_ite, de_non, de_bl, de_int, de_str, de_tup, de_lst, de_dic, de_own, de_obj, deO_own, deC_lst, moD_lst, seqD_lst, seqD_tup, seqD_str, ite_ok, ite_okb, ite_oko, ite_bl, ite_int, ite_str, ite_lst, ite_tup, ite_ret, if_and, if_or, ifp_and, ifp_or, ↓guard_res, ↓guard_opt, guard_res, guard_opt, lift_ite, b_addi, b_adds, b_addl, b_addt, b_sub, b_mul, b_fdiv, b_mod, b_pow, b_and, k_eq, k_ne, k_lt, k_le, k_gt, k_ge, k_isn, k_nis, k_in, k_nin, in_lst, in_tup, in_str, nn_non, nn_bl, nn_int, nn_str, nn_tup, nn_lst, nn_obj, eq_str, eq_int, eq_bl, eq_tup, eq_lst, eqs_nil, x_lst, x_tup, x_str, sl_lst, sl_tup, sl_str, u_lenl, u_lent, u_lend, u_lens, u_abs, u_max, u_min, u_int, u_all, u_any, u_tupl, u_tupt, u_lstl, u_lstt, bools_map, mapde_cons, mapde_nil, memD_strs, lcT_eq, lcO_some, lcW_ok, forT_eq, forO_some, ↓Res.bind_ok, ↓Res.bind_exc, ↓Res.bind_stuck, asB_stuck, fnR_stuck, callR_stuck, lift_none', Res.lift_some, asB_bl, asB_exc, noX_ok, List.getElem?_cons_zero, List.getElem?_cons_succ, List.set_cons_zero, List.set_cons_succ, consD_app, List.nil_append, List.append_nil, Option.map_some, Bool.not_not, fm_str, fm_itestr, fm_some, fm_ite, fm_itp, cn_ite, cn_ite1, cn_ite2, cn_app, cn_lst, cn_tup, ↓cn_lc, List.isEmpty_map, List.length_map, List.map_id', if_true, if_false, Bool.false_eq_true, Bool.not_true, Bool.not_false, Bool.and_true, Bool.true_and, Bool.or_false, Bool.false_or, Bool.and_false, Bool.false_and, Bool.or_true, Bool.true_or, decide_eq_true_eq, Bool.decide_eq_true, ↓j_B2, ↓j_B1, ↓j_Neg, ↓j_C2, ↓j_C1, ↓j_H4, ↓j_H3, ↓j_H2, ↓j_H1, ↓j_Nt, ↓j_Bl, ↓j_Ite, ↓j_Tup, ↓j_Lst, ↓j_K2, ↓j_K1, ↓j_Bi, ↓j_M2, ↓j_M1, ↓j_X2, ↓j_X1, ↓j_S3, ↓j_S2, ↓j_S1, ↓j_Rev, ↓j_Cat2, ↓j_Cat1, ↓j_L2, ↓j_L1, ↓j_D1, ↓j_R2, ↓j_R1, ↓j_Is, ↓j_And, ↓j_Or, ↓j_F, ↓j_E2, ↓j_E1, ↓j_A2, ↓j_A1, ↓j_A4, ↓j_A3, ↓j_O, ↓j_Q2, ↓j_Q1, ↓j_Rn, ↓j_En2l, ↓j_En2t, ↓j_En1, ↓j_G2, ↓j_G1, ↓j_W, ↓j_Gl, ↓j_P3, ↓j_P2, ↓j_P1, ↓j_T4, ↓j_T3, ↓j_T2, ↓j_T1, ↓j_Ex, ↓j_Rt2, ↓j_Rt1, ↓j_Rg, ↓j_If, ↓j_Fr, ↓j_Ra, ↓j_Hx, ↓j_V3, ↓j_V2, ↓j_V1, star_lst, star_tup, bind_ite, lc_auto, cl1, cl2, cl3, cl4, cl5, cl6, cl7, cl8, cl9, cl10, cl11, cl12, cl13, cl14, ct1, ct2, ct3, ct4, ct5, ct6, ca1, ca2, ca3, ca4, ca5, ca6, ca7, ca8, at_map, at_nat, at_0, at_1, at_2, at_3, at_4, cut_map, cut_take, cut_drop, cut_take1, cut_take10, cut_take11, cut_drop1, cut_dropS, rev_map, take_map, drop_map, stop_ite, enumD_zip, rngD_zip, sing_app, List.getElem?_map, $xs,*])
def isWord (w : W) : Bool := (decide ((0:Int) < w.length) && decide ((w.length : Int) ≤ 12)) && (w.map fun c => z_abcdefghijklmnopqrstuvwxyz.contains c).all id
abbrev StT := W × Bool × Bool
abbrev RwT := W × List W × List W × W × List W
abbrev BkT := List StT × List RwT
def stD (x : StT) : D := .tup [.str x.1, .bl x.2.1, .bl x.2.2]
def rwD (r : RwT) : D := .tup [.str r.1, .tup (r.2.1.map .str), .tup (r.2.2.1.map .str), .str r.2.2.2.1, .tup (r.2.2.2.2.map .str)]
def bkD (b : BkT) : D := .tup [.tup (b.1.map stD), .tup (b.2.map rwD)]
abbrev stB (x : StT) : Bool := WB 40 x.1
def wsB (ws : List W) : Bool := decide (ws.length ≤ 100) && ws.all (WB 40)

theorem ok_sts {n : Nat} {xs : List StT} (h : xs.all stB = true) : (xs.map stD).all (okn (n + 1)) = true := by
  simp only [List.all_map, List.all_eq_true] at *
  intro x hx
  simp only [Function.comp, stD, okn_tup, List.all_cons, List.all_nil, okn_bl, okn_str (WC_of (h x hx)), Bool.and_self]
theorem f_is_word (n : Nat) (w : W) (st : List MO) (h : WB 40 w = true) : F_is_word n [.str w] st = .ok (.bl (isWord w)) st := by
  rw [u_is_word]; unfold cs_is_word; push_cast [seq_ite, triR_ite]; rfl
def wd (xs : List StT) : List W := xs.map (·.1)
theorem wd_B {xs : List StT} (h : xs.all stB = true) : (wd xs).all (WB 40) = true := by
  rw [wd, List.all_map]; exact h
theorem wd_len {xs : List StT} : (wd xs).length = xs.length := List.length_map ..
def viewsOf (xs : List StT) : List W := z_free :: ((wd xs).map (z_my_ ++ ·) ++ (wd xs).map (z_others_ ++ ·))
def looksOf (xs : List StT) : List W := (z_free :: wd xs).map (z_at_ ++ ·) ++ ((z_free :: wd xs).map (z_not_ ++ ·) ++ ([z_mine, z_other, z_same, z_still] ++ [z_running, z_over, z_unpaid, z_paid]))
def deedsOf (xs : List StT) (b : Bool) : List W := z_ :: ((if b = true then [] else wd xs).map (z_take_ ++ ·) ++ ((wd xs).map (z_move_ ++ ·) ++ [z_free, z_time]))
theorem f_words_of (n : Nat) (xs : List StT) (st : List MO) (h : xs.all stB = true) (hn : xs.length ≤ 100) :
    F_words_of n [.tup (xs.map stD)] st = .ok (.tup ((wd xs).map .str)) st := by
  rw [u_words_of]; unfold cs_words_of; push_cast [seq_ite, triR_ite, stD]; rfl
def isOnce (ws : List W) : Bool := decide ws.Nodup
theorem f_is_each_once (n : Nat) (ws : List W) (st : List MO) (h : ws.all (WB 40) = true) (hn : ws.length ≤ 100) :
    F_is_each_once n [.tup (ws.map .str)] st = .ok (.bl (isOnce ws)) st := by
  rw [u_is_each_once]; unfold cs_is_each_once; push_cast [seq_ite, triR_ite]
  obtain ⟨vs, e⟩ := dc_ded (Φ := Φd n) (a := Sl.val (D.tup (List.map D.str ws))) (st := st) ws [] [] .none
  rw [List.map_nil] at e
  obtain ⟨l1, l2⟩ := ded_len ws [] List.nodup_nil
  simp only [List.length_nil, Nat.zero_add, List.nil_append] at l1 l2
  push_cast [seq_ite, triR_ite, ↓e]
  have : ((((ded [] ws).length : Nat) : Int) == (ws.length : Int)) = decide ws.Nodup := by
    rw [Bool.eq_iff_iff, decide_eq_true_iff, ← l2]; simp; omega
  rw [this]; rfl
theorem f_view_words (n : Nat) (xs : List StT) (st : List MO) (h : xs.all stB = true) (hn : xs.length ≤ 100) :
    F_view_words (n + 1) [.tup (xs.map stD)] st = .ok (.lst ((viewsOf xs).map .str)) st := by
  have h1 := wd_B h
  have hw : (wd xs).length ≤ 100 := by rw [wd_len]; exact hn
  rw [u_view_words]; unfold cs_view_words; push_cast [seq_ite, triR_ite, c_words_of, f_words_of]; rfl
theorem f_looks_of (n : Nat) (xs : List StT) (st : List MO) (h : xs.all stB = true) (hn : xs.length ≤ 100) :
    F_looks_of (n + 1) [.tup (xs.map stD)] st = .ok (.lst ((looksOf xs).map .str)) st := by
  have h1 := wd_B h
  have hw : (wd xs).length ≤ 100 := by rw [wd_len]; exact hn
  have h2 : (z_free :: wd xs).all (WB 40) = true := by rw [List.all_cons, h1]; rfl
  rw [u_looks_of]; unfold cs_looks_of; push_cast [seq_ite, triR_ite, c_words_of, f_words_of]; rfl
theorem f_deeds_of (n : Nat) (xs : List StT) (b : Bool) (st : List MO) (h : xs.all stB = true) (hn : xs.length ≤ 100) :
    F_deeds_of (n + 1) [.tup (xs.map stD), .bl b] st = .ok (.lst ((deedsOf xs b).map .str)) st := by
  have h1 := wd_B h
  have hw : (wd xs).length ≤ 100 := by rw [wd_len]; exact hn
  rw [u_deeds_of]; unfold cs_deeds_of; push_cast [seq_ite, triR_ite, c_words_of, f_words_of]; rfl

def badSt (xs : List StT) (p : StT × Nat) : Bool := !isWord p.1.1 || (p.1.1 == z_free || (p.1.2.1 && p.1.2.2 || (wd (xs.take p.2)).contains p.1.1))
def wrongSt (xs : List StT) : D := match xs.zipIdx.findSome? (fun p => onB (badSt xs p) p.2) with
  | some k => .int (k : Int)
  | none => if xs.isEmpty then .int 0 else .non
theorem f_wrong_state (n : Nat) (xs : List StT) (st : List MO) (h : xs.all stB = true) (hn : xs.length ≤ 100) :
    F_wrong_state (n + 2) [.tup (xs.map stD)] st = .ok (wrongSt xs) st := by
  rw [u_wrong_state]; unfold cs_wrong_state; push_cast [seq_ite, triR_ite, enumD_zip]
  refine for_go (stop := fun p => onB (badSt xs p) p.2) (out := fun k s => .ok (.ret (.int (k : Int))) s) (P := fun s => ∃ a b c d, s = ⟨[Sl.val (D.tup (List.map stD xs)), a, b, c, d], st⟩) (fun _ _ => .ret ..) ⟨_, _, _, _, rfl⟩ ?_ ?_ ?_
  · rintro ⟨⟨w, t, u⟩, k⟩ hx s ⟨a, b, c, d, rfl⟩
    obtain ⟨hx1, hx2⟩ := mem_zip hx
    have hw : WB 40 w = true := mem_all h hx2
    have ht : (xs.take k).all stB = true := all_take h
    have hl : (xs.take k).length ≤ 100 := by rw [List.length_take]; omega
    have ht2 := wd_B ht
    have hl2 : (wd (xs.take k)).length ≤ 100 := by rw [wd_len]; exact hl
    refine ⟨?_, ?_, ?_⟩
    rotate_left
    push_cast [seq_ite, triR_ite, stD, c_is_word, f_is_word, c_words_of, f_words_of, badSt]
    rfl
    exact ⟨_, _, _, _, rfl⟩
  · rintro s ⟨a, b, c, d, rfl⟩ hs
    have hk := ok_sts (n := 58) h
    push_cast [seq_ite, triR_ite]
    simp only [wrongSt, hs]
  · rintro s v ⟨a, b, c, d, rfl⟩ hs
    push_cast [seq_ite, triR_ite]
    simp only [wrongSt, hs]
abbrev rwB (r : RwT) : Prop := WB 40 r.1 = true ∧ r.2.1.length ≤ 100 ∧ r.2.1.all (WB 40) = true ∧ r.2.2.1.length ≤ 100 ∧ r.2.2.1.all (WB 40) = true ∧ WB 40 r.2.2.2.1 = true ∧ r.2.2.2.2.length ≤ 100 ∧ r.2.2.2.2.all (WB 40) = true
abbrev nmOf (r : RwT) : W := r.1
abbrev shOf (r : RwT) : List W := r.2.1
abbrev loOf (r : RwT) : List W := r.2.2.1
abbrev deOf (r : RwT) : W := r.2.2.2.1
abbrev maOf (r : RwT) : List W := r.2.2.2.2
def areMarks (r : RwT) : Bool :=
  if (!isOnce (maOf r) || !(List.map [z_new, z_refund, z_keep].contains (maOf r)).all id) = true then false
  else if ((maOf r).contains z_new && deOf r == z_free || (maOf r).contains z_keep && (shOf r).isEmpty) = true then false
  else !deOf r == z_ || !(maOf r).isEmpty
theorem f_are_marks (n : Nat) (r : RwT) (st : List MO) (h : rwB r) :
    F_are_marks (n + 2) [rwD r] st = .ok (.bl (areMarks r)) st := by
  obtain ⟨h1, h2, h3, h4, h5, h6, h7, h8⟩ := h
  rw [u_are_marks]; unfold cs_are_marks; push_cast [seq_ite, triR_ite, rwD, c_is_each_once, f_is_each_once]; rfl
theorem views_B {xs : List StT} (h : xs.all stB = true) : (viewsOf xs).all (WB 60) = true := by
  rw [viewsOf, List.all_cons, all_app (WB_pre (wd_B h) (m := 3) (by decide) (by decide)) (WB_pre (wd_B h) (m := 7) (by decide) (by decide))]; rfl
theorem looks_B {xs : List StT} (h : xs.all stB = true) : (looksOf xs).all (WB 60) = true := by
  have h2 : (z_free :: wd xs).all (WB 40) = true := by rw [List.all_cons, wd_B h]; rfl
  exact all_app (WB_pre h2 (m := 3) (by decide) (by decide)) (all_app (WB_pre h2 (m := 4) (by decide) (by decide)) (by decide))
theorem deeds_B {xs : List StT} {b : Bool} (h : xs.all stB = true) : (deedsOf xs b).all (WB 60) = true := by
  rw [deedsOf, List.all_cons, all_app (xs := (if b = true then [] else wd xs).map (z_take_ ++ ·)) (by split; rfl; exact WB_pre (wd_B h) (m := 5) (by decide) (by decide)) (all_app (WB_pre (wd_B h) (m := 5) (by decide) (by decide)) (by decide))]; rfl
def optS : Option W → D
  | some w => .str w
  | none => .non
theorem optS_ite {p : Prop} {inst : Decidable p} {w : W} {o : Option W} : (if p then D.str w else optS o) = optS (if p then some w else o) := by split <;> rfl
def wrongPart (xs : List StT) (ns : List W) (r : RwT) : Option W :=
  if (!isWord (nmOf r) || ns.contains (nmOf r)) = true then some z_name
  else if (!isOnce (shOf r) || !((shOf r).map (viewsOf xs).contains).all id) = true then some z_shown
  else if (!isOnce (loOf r) || !((loOf r).map (looksOf xs).contains).all id) = true then some z_looks
  else if ((shOf r).isEmpty && ((loOf r).map [z_mine, z_other, z_same, z_still].contains).any id) = true then some z_looks
  else if (!(deedsOf xs (shOf r).isEmpty).contains (deOf r)) = true then some z_deed
  else if areMarks r = true then none else some z_marks
theorem esc_optS {s : DS} {o : Option W} : esc s (optS o) = .ok (optS o) s := by cases o <;> rfl
theorem optS_iff {b : Bool} : (if b = true then D.non else D.str w) = optS (if b = true then none else some w) := by cases b <;> rfl
theorem f_wrong_part (n : Nat) (xs : List StT) (ns : List W) (r : RwT) (st : List MO) (h : rwB r) (hx : xs.all stB = true) (hn : xs.length ≤ 100) (hns : ns.all (WB 40) = true) :
    F_wrong_part (n + 4) [.tup (xs.map stD), .lst (ns.map .str), rwD r] st = .ok (optS (wrongPart xs ns r)) st := by
  have h0 := f_are_marks (n + 1) r st h
  simp only [rwD] at h0
  obtain ⟨h1, h2, h3, h4, h5, h6, h7, h8⟩ := h
  have hv := views_B hx
  have hl := looks_B hx
  have hd := deeds_B (b := r.snd.fst.isEmpty) hx
  rw [u_wrong_part]; unfold cs_wrong_part; push_cast [seq_ite, triR_ite, rwD, c_is_each_once, f_is_each_once, c_is_word, f_is_word, c_view_words, f_view_words, c_looks_of, f_looks_of, c_deeds_of, f_deeds_of, c_are_marks, h0, optS_iff, optS_ite, esc_optS]
  rfl
def rwsB (rs : List RwT) : Prop := ∀ r ∈ rs, rwB r
abbrev nms (rs : List RwT) : List W := rs.map (·.1)
def wrongAt (xs : List StT) (rs : List RwT) (p : RwT × Nat) : Option (Nat × W) := (wrongPart xs (nms (rs.take p.2)) p.1).map fun w => (p.2, w)
def wrongRow (xs : List StT) (rs : List RwT) : Option (Nat × W) := rs.zipIdx.findSome? (wrongAt xs rs)
def rowR (st : List MO) : Option (Nat × W) → Res D (List MO)
  | some p => .exc 2 [.int (p.1 : Int), .str p.2] st
  | none => .ok .non st
theorem f_check_rows (n : Nat) (xs : List StT) (rs : List RwT) (st : List MO) (h : rwsB rs) (hr : rs.length ≤ 100) (hx : xs.all stB = true) (hn : xs.length ≤ 100) :
    F_check_rows (n + 5) [.tup (xs.map stD), .tup [], .tup (rs.map rwD)] st = rowR st (wrongRow xs rs) := by
  rw [u_check_rows]; unfold cs_check_rows; push_cast [seq_ite, triR_ite]
  refine for_go (stop := wrongAt xs rs) (out := fun k s => .exc 2 [.int (k.1 : Int), .str k.2] s) (P := fun s => ∃ a b c d e, s = ⟨[Sl.val (D.tup (List.map stD xs)), .val (.tup []), .val (.tup (rs.map rwD)), a, b, c, d, Sl.none], st⟩) (fun _ _ => .exc ..) ⟨_, _, _, _, Sl.none, rfl⟩ ?_ ?_ ?_
  · rintro ⟨r, k⟩ hp s ⟨a, b, c, d, e, rfl⟩
    obtain ⟨hx1, hx2⟩ := mem_zip hp
    have ht : (rs.take k).length ≤ 100 := by rw [List.length_take]; omega
    have hns : (nms (rs.take k)).all (WB 40) = true := by
      rw [List.all_eq_true]; intro w hw
      obtain ⟨r, hr, rfl⟩ := List.mem_map.mp hw
      exact (h r (List.mem_of_mem_take hr)).1
    have hq := f_wrong_part n xs (nms (rs.take k)) r st (h r hx2) hx hn hns
    simp only [rwD] at hq
    cases hw : wrongPart xs (nms (rs.take k)) r with
    | none =>
      rw [hw] at hq
      refine ⟨?_, ?_, ?_⟩
      rotate_left
      push_cast [seq_ite, triR_ite, rwD, c_wrong_part, hq, wrongAt, hw, optS]
      rfl
      exact ⟨_, _, _, _, Sl.none, rfl⟩
    | some w =>
      rw [hw] at hq
      refine ⟨?_, ?_, ?_⟩
      rotate_left
      push_cast [seq_ite, triR_ite, rwD, c_wrong_part, hq, wrongAt, hw, optS, List.length_nil, Int.natCast_zero, Int.zero_add]
      rfl
      exact ⟨_, _, _, _, Sl.none, rfl⟩
  · rintro s ⟨a, b, c, d, e, rfl⟩ hs
    push_cast [seq_ite, triR_ite]
    rw [wrongRow, hs]; rfl
  · rintro s v ⟨a, b, c, d, e, rfl⟩ hs
    rw [wrongRow, hs]; rfl
/-- what a book is refused for -/
inductive Bad where
  | fine | st (k : Nat) | row (k : Nat) (w : W)
def wrongSt' (xs : List StT) : Option Nat := match xs.zipIdx.findSome? (fun p => onB (badSt xs p) p.2) with
  | some k => some k
  | none => onB xs.isEmpty 0
def optI : Option Nat → D
  | some k => .int (k : Int)
  | none => .non
theorem wrongSt_eq {xs : List StT} : wrongSt xs = optI (wrongSt' xs) := by
  unfold wrongSt wrongSt'
  split
  · rfl
  · cases xs.isEmpty <;> rfl
def badOf (b : BkT) : Bad := match wrongSt' b.1 with
  | some k => .st k
  | none => match wrongRow b.1 b.2 with
    | some p => .row p.1 p.2
    | none => .fine
def badR (st : List MO) (x : Res D (List MO)) : Bad → Res D (List MO)
  | .fine => x
  | .st k => .exc 1 [.int (k : Int)] st
  | .row k w => .exc 2 [.int (k : Int), .str w] st
structure bkB (b : BkT) : Prop where
  s : b.1.all stB = true
  sn : b.1.length ≤ 100
  r : rwsB b.2
  rn : b.2.length ≤ 100
theorem f_check_book (n : Nat) (b : BkT) (st : List MO) (h : bkB b) : F_check_book (n + 6) [bkD b] st = badR st (.ok .non st) (badOf b) := by
  have h1 := f_wrong_state (n + 3) b.1 st h.s h.sn
  have h2 := f_check_rows n b.1 b.2 st h.r h.rn h.s h.sn
  rw [u_check_book]; unfold cs_check_book; push_cast [seq_ite, triR_ite, bkD, c_wrong_state, h1, wrongSt_eq]
  unfold badOf
  cases wrongSt' b.1 with
  | some k => push_cast [seq_ite, triR_ite, optI]; rfl
  | none =>
    push_cast [seq_ite, triR_ite, optI, c_check_rows, h2]
    cases wrongRow b.1 b.2 <;> rfl
theorem f_looks_for (n : Nat) (b : BkT) (st : List MO) (h : bkB b) : F_looks_for (n + 7) [bkD b] st = badR st (.ok (.lst ((looksOf b.1).map .str)) st) (badOf b) := by
  have h1 := f_check_book n b st h
  have h2 := f_looks_of (n + 5) b.1 st h.s h.sn
  simp only [bkD] at h1
  rw [u_looks_for]; unfold cs_looks_for
  cases hb : badOf b with
  | fine => rw [hb] at h1; push_cast [seq_ite, triR_ite, badR, bkD, c_check_book, h1, c_looks_of, h2]
  | st k => rw [hb] at h1; push_cast [seq_ite, triR_ite, badR, bkD, c_check_book, h1]
  | row k w => rw [hb] at h1; push_cast [seq_ite, triR_ite, badR, bkD, c_check_book, h1]

set_option Elab.async false
set_option linter.all false
set_option maxRecDepth 100000
theorem once_zip (ws : List W) : ((ws.zipIdx).filter (fun p => (ws.take p.2).contains p.1)).isEmpty = isOnce ws := by
  rw [Bool.eq_iff_iff, isOnce, decide_eq_true_iff, List.isEmpty_iff, List.filter_eq_nil_iff, List.nodup_iff_pairwise_ne, List.pairwise_iff_getElem]
  constructor
  · intro h i j hi hj hij e
    have hm : (ws[j], j) ∈ ws.zipIdx := List.mem_zipIdx_iff_getElem?.mpr (List.getElem?_eq_getElem hj)
    refine h _ hm ?_
    simp only [List.contains_iff_mem]
    exact List.mem_of_getElem? (i := i) (by rw [List.getElem?_take_of_lt hij, List.getElem?_eq_getElem hi, e])
  · rintro h ⟨w, j⟩ hm hc
    obtain ⟨h1, h2⟩ := mem_zip hm
    simp only [List.contains_iff_mem] at hc
    obtain ⟨i, hi, e⟩ := List.mem_iff_getElem.mp hc
    rw [List.length_take] at hi
    simp only at h1
    obtain ⟨hj, e2⟩ := List.getElem?_eq_some_iff.mp h1
    refine h i j (by omega) hj (by omega) ?_
    rw [e2, ← e, List.getElem_take]
theorem fil_all {α : Type} {p : α → Bool} {xs : List α} : (xs.filter fun x => !p x).isEmpty = (xs.map p).all id := by
  induction xs with
  | nil => rfl
  | cons x xs ih => cases h : p x <;> simp [h] at ih ⊢; exact ih
theorem chr_B {w : W} {q : Nat → Bool} (h : WB 40 w = true) : ((w.filter q).map fun x => [x]).all (WB 1) = true := by
  refine all_map' fun x hx => ?_
  have := mem_all (WB_all h) (List.mem_filter.mp hx).1
  exact WB_mk (by simp) (by simpa using this)
theorem f_all_looks (n : Nat) (xs : List StT) (st : List MO) (h : xs.all stB = true) (hn : xs.length ≤ 100) :
    F__law_all_looks n [.tup (xs.map stD)] st = .ok (.lst ((looksOf xs).map .str)) st := by
  have h1 := wd_B h
  have h2 : (z_free :: wd xs).all (WB 40) = true := by rw [List.all_cons, h1]; rfl
  have hw : (wd xs).length ≤ 100 := by rw [wd_len]; exact hn
  rw [u__law_all_looks]; unfold cs__law_all_looks; push_cast [seq_ite, triR_ite, stD, show xs.map Prod.fst = wd xs from rfl]
  simp only [looksOf, List.append_assoc]; rfl
theorem f_all_views (n : Nat) (xs : List StT) (st : List MO) (h : xs.all stB = true) (hn : xs.length ≤ 100) :
    F__law_all_views n [.tup (xs.map stD)] st = .ok (.lst ((viewsOf xs).map .str)) st := by
  have h1 := wd_B h
  have h2 : (z_free :: wd xs).all (WB 40) = true := by rw [List.all_cons, h1]; rfl
  have hw : (wd xs).length ≤ 100 := by rw [wd_len]; exact hn
  rw [u__law_all_views]; unfold cs__law_all_views; push_cast [seq_ite, triR_ite, stD, show xs.map Prod.fst = wd xs from rfl]
  rfl
theorem f_is_term (n : Nat) (w : W) (st : List MO) (h : WB 40 w = true) : F__law_is_term n [.str w] st = .ok (.bl (isWord w)) st := by
  rw [u__law_is_term]; unfold cs__law_is_term
  have h2 := chr_B (q := fun x => !z_abcdefghijklmnopqrstuvwxyz.contains x) h
  push_cast [seq_ite, triR_ite]
  rw [fil_all, isWord]
  congr 4
  rw [Bool.eq_iff_iff]; simp only [decide_eq_true_eq]; omega
theorem f_once (n : Nat) (ws : List W) (st : List MO) (h : ws.all (WB 40) = true) (hn : ws.length ≤ 100) :
    F__law_once n [.tup (ws.map .str)] st = .ok (.bl (isOnce ws)) st := by
  rw [u__law_once]; unfold cs__law_once; push_cast [seq_ite, triR_ite]
  rw [once_zip]
theorem looks_len {xs : List StT} (hn : xs.length ≤ 100) : (looksOf xs).length ≤ 210 := by
  simp only [looksOf, List.length_append, List.length_map, List.length_cons, List.length_nil, wd_len]; omega
theorem views_len {xs : List StT} (hn : xs.length ≤ 100) : (viewsOf xs).length ≤ 201 := by
  simp only [viewsOf, List.length_append, List.length_map, List.length_cons, List.length_nil, wd_len]; omega
def firstPart (xs : List StT) (ns : List W) (r : RwT) : Option W :=
  if (!isWord (nmOf r) || ns.contains (nmOf r)) = true then some z_name
  else if (!isOnce (shOf r) || !((shOf r).filter fun x => !(viewsOf xs).contains x).isEmpty) = true then some z_shown
  else if (!isOnce (loOf r) || !((loOf r).filter fun x => !((looksOf xs).filter fun l => !(shOf r).isEmpty || ![z_mine, z_other, z_same, z_still].contains l).contains x).isEmpty) = true then some z_looks
  else if (!([z_, z_free, z_time] ++ (wd xs).map (z_move_ ++ ·)).contains (deOf r) && ((shOf r).isEmpty || !((wd xs).map (z_take_ ++ ·)).contains (deOf r))) = true then some z_deed
  else if (!isOnce (maOf r) || !((maOf r).filter fun x => ![z_new, z_refund, z_keep].contains x).isEmpty) = true then some z_marks
  else if ((maOf r).contains z_new && deOf r == z_free || ((maOf r).contains z_keep && (shOf r).isEmpty || deOf r == z_ && (maOf r).isEmpty)) = true then some z_marks
  else none
theorem optS_non {p : Prop} {inst : Decidable p} : (if p then D.str w else .non) = optS (if p then some w else none) := by split <;> rfl
theorem optS_some : D.str w = optS (some w) := rfl
theorem f_first_part (n : Nat) (xs : List StT) (ns : List W) (r : RwT) (st : List MO) (h : rwB r) (hx : xs.all stB = true) (hn : xs.length ≤ 100) (hns : ns.all (WB 40) = true) :
    F__law_first_part (n + 4) [.tup (xs.map stD), .lst (ns.map .str), rwD r] st = .ok (optS (firstPart xs ns r)) st := by
  obtain ⟨h1, h2, h3, h4, h5, h6, h7, h8⟩ := h
  have hv := views_B hx
  have hl := looks_B hx
  have hl2 := looks_len hn
  have hw1 := wd_B hx
  have hm := WB_pre (v := z_move_) (m := 5) (n := 60) hw1 (by decide) (by decide)
  have ht := WB_pre (v := z_take_) (m := 5) (n := 60) hw1 (by decide) (by decide)
  have hw : (wd xs).length ≤ 100 := by rw [wd_len]; exact hn
  rw [u__law_first_part]; unfold cs__law_first_part; push_cast [seq_ite, triR_ite, rwD, stD, show xs.map Prod.fst = wd xs from rfl, c__law_is_term, f_is_term, c__law_once, f_once, c__law_all_views, f_all_views, c__law_all_looks, f_all_looks]
  simp only [optS_non, optS_ite]; rfl
theorem filter_con {ls ss : List W} {x : W} : (ls.filter fun l => !ss.contains l).contains x = (ls.contains x && !ss.contains x) := by
  rw [Bool.eq_iff_iff]; simp [List.contains_iff_mem, List.mem_filter]
theorem all_and {α : Type} {xs : List α} {p q : α → Bool} : (xs.map fun x => p x && !q x).all id = ((xs.map p).all id && !(xs.map q).any id) := by
  induction xs with
  | nil => rfl
  | cons x xs ih =>
    simp only [List.map_cons, List.all_cons, List.any_cons, ih, id]
    cases p x <;> cases q x <;> simp
theorem filter_tr {α : Type} {xs : List α} : xs.filter (fun _ => true) = xs := by simp
theorem map_filter_con {ls ss xs : List W} : (xs.map (ls.filter fun l => !ss.contains l).contains).all id = ((xs.map ls.contains).all id && !(xs.map ss.contains).any id) := by
  rw [← all_and]; congr 1; apply List.map_congr_left; intro x _; exact filter_con
theorem deed_eq {wds : List W} {d : W} {s : Bool} : (!([z_, z_free, z_time] ++ wds.map (z_move_ ++ ·)).contains d && (s || !(wds.map (z_take_ ++ ·)).contains d)) = !(z_ :: ((if s = true then [] else wds).map (z_take_ ++ ·) ++ (wds.map (z_move_ ++ ·) ++ [z_free, z_time]))).contains d := by
  generalize hM : wds.map (z_move_ ++ ·) = M
  cases s
  · simp only [Bool.false_or, Bool.false_eq_true, if_false]
    generalize wds.map (z_take_ ++ ·) = K
    rw [Bool.eq_iff_iff]
    simp only [Bool.and_eq_true, Bool.not_eq_true', ← Bool.not_eq_true, List.contains_iff_mem, List.mem_append, List.mem_cons, List.not_mem_nil, or_false]
    grind
  · simp only [Bool.true_or, Bool.and_true, if_true, List.map_nil, List.nil_append]
    rw [Bool.eq_iff_iff]
    simp only [Bool.and_eq_true, Bool.not_eq_true', ← Bool.not_eq_true, List.contains_iff_mem, List.mem_append, List.mem_cons, List.not_mem_nil, or_false]
    grind
theorem marks_eq (o a nf k d m : Bool) (z : W) : (if (!o || !a) = true then some z else if (nf || (k || d && m)) = true then some z else none) = if (if (!o || !a) = true then false else if (nf || k) = true then false else !d || !m) = true then none else some z := by
  cases o <;> cases a <;> cases nf <;> cases k <;> cases d <;> cases m <;> rfl
theorem looks_eq {β : Type} (o a s y : Bool) (z e : β) : (if (!o || !(a && !y)) = true then z else e) = if (!o || !a) = true then z else if (true && y) = true then z else e := by
  cases o <;> cases a <;> cases y <;> rfl
theorem first_eq (xs : List StT) (ns : List W) (r : RwT) : firstPart xs ns r = wrongPart xs ns r := by
  unfold firstPart wrongPart areMarks deedsOf
  simp only [fil_all]
  rw [← deed_eq, ← marks_eq]
  cases hs : (shOf r).isEmpty
  · simp only [Bool.not_false, Bool.true_or, filter_tr, Bool.false_and, Bool.false_eq_true, if_false]
  · simp only [Bool.not_true, Bool.false_or, map_filter_con]
    rw [looks_eq]
    exact true
def badD : Bad → D
  | .fine => .non
  | .st k => .tup [.str z_states, .int (k : Int)]
  | .row k w => .tup [.str z_row, .int (k : Int), .str w]
theorem f_fault (n : Nat) (b : BkT) (st : List MO) (h : bkB b) : F__law_fault (n + 6) [bkD b] st = .ok (badD (badOf b)) st := by
  obtain ⟨hs, hsn, hr, hrn⟩ := h
  rw [u__law_fault]; unfold cs__law_fault; push_cast [seq_ite, triR_ite, bkD]
  refine for_go (stop := fun p => onB (badSt b.1 p) p.2) (out := fun k s => .ok (.ret (.tup [.str z_states, .int (k : Int)])) s) (P := fun s => ∃ a1 a2 a3 a4 a5, s = ⟨[Sl.val (bkD b), .val (.tup (b.1.map stD)), .val (.tup (b.2.map rwD)), a1, a2, a3, a4, a5, Sl.none, Sl.none], st⟩) (fun _ _ => .ret ..) ⟨_, _, _, _, _, rfl⟩ ?_ ?_ ?_
  · rintro ⟨⟨w, t, u⟩, k⟩ hx s ⟨a1, a2, a3, a4, a5, rfl⟩
    obtain ⟨hx1, hx2⟩ := mem_zip hx
    have hw : WB 40 w = true := mem_all hs hx2
    have ht : (b.1.take k).all stB = true := all_take hs
    have hl : (b.1.take k).length ≤ 100 := by rw [List.length_take]; omega
    have ht2 := wd_B ht
    have hl2 : (wd (b.1.take k)).length ≤ 100 := by rw [wd_len]; exact hl
    refine ⟨?_, ?_, ?_⟩
    rotate_left
    push_cast [seq_ite, triR_ite, stD, c__law_is_term, f_is_term, hx1, show (b.1.take k).map Prod.fst = wd (b.1.take k) from rfl, badSt]
    rfl
    exact ⟨_, _, _, _, _, rfl⟩
  · rintro s ⟨a1, a2, a3, a4, a5, rfl⟩ h0
    have hk := ok_sts (n := 58) hs
    push_cast [seq_ite, triR_ite]
    cases he : b.1.isEmpty with
    | true =>
      have hst : wrongSt' b.1 = some 0 := by simp only [wrongSt', h0, he]; rfl
      simp only [if_true, badOf, hst]
      rfl
    | false =>
      have hst : wrongSt' b.1 = none := by simp only [wrongSt', h0, he]; rfl
      simp only [Bool.false_eq_true, if_false]
      refine for_go (stop := wrongAt b.1 b.2) (out := fun k s => .ok (.ret (.tup [.str z_row, .int (k.1 : Int), .str k.2])) s) (P := fun s => ∃ a1 a2 a3 a4 a5, s = ⟨[Sl.val (bkD b), .val (.tup (b.1.map stD)), .val (.tup (b.2.map rwD)), a1, a2, a3, a4, a5, Sl.none, Sl.none], st⟩) (fun _ _ => .ret ..) ⟨_, _, _, _, _, rfl⟩ ?_ ?_ ?_
      · rintro ⟨r, k⟩ hp s ⟨a1, a2, a3, a4, a5, rfl⟩
        obtain ⟨hx1, hx2⟩ := mem_zip hp
        have ht : (b.2.take k).length ≤ 100 := by rw [List.length_take]; omega
        have hns : (nms (b.2.take k)).all (WB 40) = true := by
          rw [List.all_eq_true]; intro w hw
          obtain ⟨r, hr', rfl⟩ := List.mem_map.mp hw
          exact (hr r (List.mem_of_mem_take hr')).1
        have hq := f_first_part (n + 1) b.1 (nms (b.2.take k)) r st (hr r hx2) hs hsn hns
        rw [first_eq] at hq
        simp only [rwD] at hq
        cases hw : wrongPart b.1 (nms (b.2.take k)) r with
        | none =>
          rw [hw] at hq
          refine ⟨?_, ?_, ?_⟩
          rotate_left
          push_cast [seq_ite, triR_ite, rwD, hx1, c__law_first_part, hq, wrongAt, hw, optS]
          rfl
          exact ⟨_, _, _, _, _, rfl⟩
        | some w =>
          rw [hw] at hq
          refine ⟨?_, ?_, ?_⟩
          rotate_left
          push_cast [seq_ite, triR_ite, rwD, hx1, c__law_first_part, hq, wrongAt, hw, optS]
          rfl
          exact ⟨_, _, _, _, _, rfl⟩
      · rintro s ⟨a1, a2, a3, a4, a5, rfl⟩ h1
        push_cast [seq_ite, triR_ite]
        simp only [badOf, hst, wrongRow, h1]
        rfl
      · rintro s ⟨k, w⟩ ⟨a1, a2, a3, a4, a5, rfl⟩ h1
        push_cast [seq_ite, triR_ite]
        simp only [badOf, hst, wrongRow, h1]
        rfl
  · rintro s k ⟨a1, a2, a3, a4, a5, rfl⟩ h0
    push_cast [seq_ite, triR_ite]
    simp only [badOf, wrongSt', h0]
    rfl

set_option Elab.async false
set_option linter.all false
set_option maxRecDepth 100000
/-- the vault: how often it may still be asked -/
def VOk (k p : Nat) (st : List MO) : Prop := ∃ a b c : Int, st[p]? = some (.lst [.int a, .int b, .int c]) ∧ 0 ≤ a ∧ 0 ≤ b ∧ b < 10 ^ 42 ∧ 0 ≤ c ∧ c + k ≤ 10 ^ 12
theorem VOk.mono {k m p : Nat} {st : List MO} (h : VOk k p st) (hk : m ≤ k) : VOk m p st := by
  obtain ⟨a, b, c, h1, h2, h3, h4, h5, h6⟩ := h
  exact ⟨a, b, c, h1, h2, h3, h4, h5, by omega⟩
theorem VOk.app {k p : Nat} {st : List MO} {m : MO} (h : VOk k p st) : VOk k p (st ++ [m]) := by
  obtain ⟨a, b, c, h1, h2⟩ := h
  exact ⟨a, b, c, by rw [List.getElem?_append_left (List.getElem?_eq_some_iff.mp h1).1]; exact h1, h2⟩
theorem log_lt {i : Int} {k : Nat} (h0 : 0 ≤ i) (h : i < 2 ^ k) (hk : 0 < k) : i.natAbs.log2 < k := by
  by_cases hz : i.natAbs = 0
  · rw [hz]; simpa using hk
  · rw [Nat.log2_lt hz]
    have : ((i.natAbs : Nat) : Int) < ((2 ^ k : Nat) : Int) := by rw [Int.natAbs_of_nonneg h0, Int.natCast_pow]; exact h
    exact_mod_cast this
theorem ix_0 {n : Nat} : L2.ixN (n + 1) 0 = some 0 := by unfold L2.ixN; rw [if_pos (by omega), if_pos (by omega)]; rfl
theorem ix_2 {n : Nat} : L2.ixN (n + 3) 2 = some 2 := by unfold L2.ixN; rw [if_pos (by omega), if_pos (by omega)]; rfl
theorem ix30 : L2.ixN 3 0 = some 0 := ix_0 (n := 2)
theorem ix32 : L2.ixN 3 2 = some 2 := ix_2 (n := 0)
theorem len3 {a b c : D} : [a, b, c].length = 3 := rfl
theorem set_get {st : List MO} {p : Nat} {m x : MO} (h : st[p]? = some m) : (st.set p x)[p]? = some x := by
  rw [List.getElem?_set_self (List.getElem?_eq_some_iff.mp h).1]
theorem f_heave (n : Nat) {k p : Nat} {below : Int} {st : List MO} (hv : VOk (k + 1) p st) (hb : 0 < below) (hb2 : below < 2 ^ 100) :
    ∃ (r : Nat) (st' : List MO), F__law_heave n [.obj p, .int below] st = .ok (.int (r : Int)) st' ∧ (r : Int) < below ∧ VOk k p st' := by
  obtain ⟨a, b, c, h1, h2, h3, h4, h5, h6⟩ := hv
  rw [u__law_heave]; unfold cs__law_heave
  by_cases ha : 0 < a
  · refine ⟨(a % below).toNat, st.set p (.lst [.int (a / below), .int b, .int c]), ?_, ?_, ?_⟩
    · have hl : 0 < below ∧ below.natAbs.log2 < 9000 := ⟨hb, by have := log_lt (Int.le_of_lt hb) hb2 (by decide); omega⟩
      push_cast [seq_ite, triR_ite, h1, gt_iff_lt, ha, decide_true, len3, ix30]
      rw [Int.toNat_of_nonneg (Int.emod_nonneg _ (by omega))]
    · rw [Int.toNat_of_nonneg (Int.emod_nonneg _ (by omega))]; exact Int.emod_lt_of_pos _ hb
    · exact ⟨_, _, _, set_get h1, Int.ediv_nonneg h2 (by omega), h3, h4, h5, by omega⟩
  · have hl : 0 < below ∧ below.natAbs.log2 < 9000 := ⟨hb, by have := log_lt (Int.le_of_lt hb) hb2 (by decide); omega⟩
    have hc : c + 1 ≤ 10 ^ 12 := by omega
    have hm : (30011 : Int).natAbs.log2 + (c + 1).natAbs.log2 < 1000000 := by
      have := log_lt (i := c + 1) (k := 100) (by omega) (by omega) (by decide)
      have h30 : (30011 : Int).natAbs.log2 < 100 := by decide
      omega
    have hm2 : (700001 : Int).natAbs.log2 + (c + 1).natAbs.log2 < 1000000 := by
      have := log_lt (i := c + 1) (k := 100) (by omega) (by omega) (by decide)
      have h30 : (700001 : Int).natAbs.log2 < 100 := by decide
      omega
    have hp1 : (0 : Int) ≤ 2 ∧ (2 : Int) ≤ 100 ∧ (b + 30011 * (c + 1)).natAbs.log2 < 1000 := ⟨by decide, by decide, log_lt (by omega) (Int.lt_of_lt_of_le (b := 10 ^ 43) (by omega) (by decide)) (by decide)⟩
    generalize hz : (b + 30011 * (c + 1)) ^ (2 : Int).toNat % (10 ^ (38 : Int).toNat + 67) = z
    have hz0 : 0 ≤ z := by rw [← hz]; exact Int.emod_nonneg _ (by decide)
    have hz1 : z < 10 ^ 38 + 67 := by rw [← hz]; exact Int.emod_lt_of_pos _ (by decide)
    have hp2 : (0 : Int) ≤ 3 ∧ (3 : Int) ≤ 100 ∧ (z + 700001 * (c + 1)).natAbs.log2 < 1000 := ⟨by decide, by decide, log_lt (by omega) (Int.lt_of_lt_of_le (b := 10 ^ 43) (by omega) (by decide)) (by decide)⟩
    have hg : ¬ (a > 0) := by omega
    have hs := set_get (x := .lst [.int a, .int b, .int (c + 1)]) h1
    have hd1 : (0 : Int) < 10 ^ (38 : Int).toNat + 67 := by decide
    have hd2 : (0 : Int) < 10 ^ (37 : Int).toNat + 3 := by decide
    have he : ((z + 700001 * (c + 1)) ^ (3 : Int).toNat % (10 ^ (37 : Int).toNat + 3) / 262144 % below).toNat = (z + 700001 * (c + 1)) ^ (3 : Int).toNat % (10 ^ (37 : Int).toNat + 3) / 262144 % below := Int.toNat_of_nonneg (Int.emod_nonneg _ (by omega))
    have hq1 : (0 : Int) ≤ 38 ∧ (38 : Int) ≤ 100 ∧ (10 : Int).natAbs.log2 < 1000 := by decide
    have hq2 : (0 : Int) ≤ 37 ∧ (37 : Int) ≤ 100 ∧ (10 : Int).natAbs.log2 < 1000 := by decide
    have hq3 : (0 : Int) < 262144 ∧ (262144 : Int).natAbs.log2 < 9000 := by decide
    refine ⟨((z + 700001 * (c + 1)) ^ (3 : Int).toNat % (10 ^ (37 : Int).toNat + 3) / 262144 % below).toNat, st.set p (.lst [.int a, .int b, .int (c + 1)]), ?_, ?_, ?_⟩
    · push_cast [seq_ite, triR_ite, h1, hg, decide_false, len3, ix32, hs, hz]
      rw [he]
    · rw [he]; exact Int.emod_lt_of_pos _ hb
    · exact ⟨_, _, _, hs, h2, h3, h4, by omega, by omega⟩

theorem heave_of {n : Nat} {k p : Nat} {below : Int} {st : List MO} {X : Res D (List MO)} (hX : F__law_heave n [.obj p, .int below] st = X) (hv : VOk (k + 1) p st) (hb : 0 < below) (hb2 : below < 2 ^ 100) :
    ∃ (r : Nat) (st' : List MO), X = .ok (.int (r : Int)) st' ∧ (r : Int) < below ∧ VOk k p st' := by
  obtain ⟨r, st', e, h, v⟩ := f_heave n hv hb hb2
  exact ⟨r, st', hX.symm.trans e, h, v⟩

set_option Elab.async false
set_option linter.all false
set_option maxRecDepth 100000
abbrev LET : W := z_abcdefghijklmnopqrstuvwxyz
def WT (t : W) : Prop := 1 ≤ t.length ∧ t.length ≤ 12 ∧ t.all LET.contains = true
theorem LET_small {c : Nat} (h : LET.contains c = true) : c < 1114112 := by
  have : ∀ c ∈ LET, c < 1114112 := by decide
  exact this c (by simpa using h)
theorem WT_chars {t : W} (h : t.all LET.contains = true) : t.all (fun c => decide (c < 1114112)) = true := by
  rw [List.all_eq_true] at *
  exact fun c hc => by simpa using LET_small (h c hc)
theorem WT_B {t : W} (h : WT t) : WB 40 t = true := WB_mk (by have := h.2.1; omega) (WT_chars h.2.2)
theorem WT_word {t : W} : isWord t = true ↔ WT t := by
  unfold isWord WT
  simp only [Bool.and_eq_true, decide_eq_true_eq, List.all_map, List.all_eq_true, Function.comp, id]
  constructor
  · rintro ⟨⟨h1, h2⟩, h3⟩; exact ⟨by omega, by omega, h3⟩
  · rintro ⟨h1, h2, h3⟩; exact ⟨⟨by omega, by omega⟩, h3⟩
theorem gt_LET {r : Nat} (h : r < 26) : LET.contains (gt LET r) = true := by
  have := gt_mem (xs := LET) (r := r) h
  simpa using this
theorem WT_cut {t : W} {k r : Nat} (h : t.all LET.contains = true) (hk : k ≤ 11) (hr : r < 26) : WT (t.take k ++ [gt LET r]) := by
  refine ⟨by simp, by simp only [List.length_append, List.length_take, List.length_singleton]; omega, ?_⟩
  rw [List.all_append, all_take h, List.all_cons, gt_LET hr]; rfl
theorem WT_cut2 {t : W} {r j : Nat} (h : t.all LET.contains = true) (hr : r < 26) (hj : j < 26) : WT (t.take 10 ++ [gt LET r] ++ [gt LET j]) := by
  refine ⟨by simp, by simp only [List.length_append, List.length_take, List.length_singleton]; omega, ?_⟩
  rw [List.all_append, List.all_append, all_take h, List.all_cons, List.all_cons, gt_LET hr, gt_LET hj]; rfl
def spare (t : W) (j : Nat) : List W := (List.range 26).map fun r => t.take 10 ++ [gt LET r] ++ [gt LET j]
theorem spare_nd (t : W) (j : Nat) : (spare t j).Nodup := by
  unfold spare
  rw [List.nodup_iff_pairwise_ne, List.pairwise_map]
  refine List.Pairwise.imp_of_mem ?_ (List.nodup_iff_pairwise_ne.mp List.nodup_range)
  intro a b ha hb hab e
  have h1 := List.append_cancel_right e
  have h2 := List.append_cancel_left h1
  have h3 : gt LET a = gt LET b := by simpa using h2
  rw [List.mem_range] at ha hb
  have key : ∀ a, a < 26 → ∀ b, b < 26 → gt LET a = gt LET b → a = b := by decide
  exact hab (key a ha b hb h3)
theorem spare_ne (t : W) (j : Nat) {ws bs : List W} (h : ws.length + bs.length < 26) : ∃ y ys, (spare t j).filter (fun x => !ws.contains x && !bs.contains x) = y :: ys := by
  cases hf : (spare t j).filter (fun x => !ws.contains x && !bs.contains x) with
  | cons y ys => exact ⟨y, ys, rfl⟩
  | nil =>
    exfalso
    rw [List.filter_eq_nil_iff] at hf
    have hs : spare t j ⊆ ws ++ bs := by
      intro x hx
      have := hf x hx
      simp only [Bool.and_eq_true, Bool.not_eq_true', ← Bool.not_eq_true, List.contains_iff_mem] at this
      rw [List.mem_append]
      grind
    have := (spare_nd t j).length_le_of_subset hs
    simp only [List.length_append, spare, List.length_map, List.length_range] at this
    omega
theorem f_call_words (n : Nat) {k p : Nat} {many : Nat} {barred : List W} {st : List MO} (hv : VOk (k + 1000) p st) (hm : many ≤ 20) (hb : barred.all (WB 40) = true) (hbl : barred.length ≤ 2) :
    ∃ (ws : List W) (st' : List MO), F__law_call_words (n + 1) [.obj p, .int (many : Int), .lst (barred.map .str)] st = .ok (.lst (ws.map .str)) st' ∧ VOk k p st' ∧ ws.length = many ∧ ws.Nodup ∧ ∀ w ∈ ws, isWord w = true ∧ barred.contains w = false := by
  rw [u__law_call_words]; unfold cs__law_call_words
  push_cast [seq_ite, triR_ite, rngD_nat]
  generalize hX : forL _ _ _ _ = X
  refine loop_use hX (fun r s => ∃ (ws : List W) (st : List MO) (a5 a6 a7 a8 : Sl), ws.length + r.length = many ∧ ws.Nodup ∧ (∀ w ∈ ws, isWord w = true ∧ barred.contains w = false) ∧ VOk (k + 40 * r.length) p st ∧
      s = ⟨[.val (.obj p), .val (.int (many : Int)), .val (.lst (barred.map .str)), .val (.str LET), .own (.lst (ws.map .str)), a5, a6, a7, a8, .none, .none], st⟩)
    ⟨[], st, _, _, _, _, by simp, List.nodup_nil, by simp, hv.mono (by simp; omega), rfl⟩ ?_ ?_
  · rintro j r s hj ⟨ws, st, a5, a6, a7, a8, hlen, hnd, hok, hvk, rfl⟩
    have hjm : j < many := List.mem_range.mp hj
    rw [List.length_cons] at hvk hlen
    have hv0 : VOk (k + 40 * r.length + 24 + 15 + 1) p st := hvk.mono (by omega)
    clear hX
    push_cast [c__law_heave, gt_of (α := W), gt_of (α := Nat), gt_of (α := StT), gt_of (α := RwT)]
    generalize hdr : F__law_heave _ _ _ = dr
    obtain ⟨r1, st1, rfl, h1, hv1⟩ := heave_of hdr (by assumption) (by omega) (by omega)
    push_cast [c__law_heave, gt_of (α := W), gt_of (α := Nat), gt_of (α := StT), gt_of (α := RwT)]
    generalize hdr : F__law_heave _ _ _ = dr
    obtain ⟨r2, st2, rfl, h2, hv2⟩ := heave_of hdr (by assumption) (by omega) (by omega)
    push_cast [c__law_heave, gt_of (α := W), gt_of (α := Nat), gt_of (α := StT), gt_of (α := RwT)]
    obtain ⟨sz, e, hz1, hz2⟩ : ∃ sz : Nat, [D.int 1, D.int 4, D.int (1 + ↑r1)][r2]? = some (.int (sz:Int)) ∧ 1 ≤ sz ∧ sz ≤ 12 := by
      have : r2 = 0 ∨ r2 = 1 ∨ r2 = 2 := by omega
      rcases this with rfl | rfl | rfl
      · exact ⟨1, rfl, by omega, by omega⟩
      · exact ⟨4, rfl, by omega, by omega⟩
      · exact ⟨1 + r1, rfl, by omega, by omega⟩
    push_cast [c__law_heave, gt_of (α := W), gt_of (α := Nat), gt_of (α := StT), gt_of (α := RwT), e, rngD_nat]
    generalize hX : lcL _ _ _ _ _ _ = X
    refine lc_use hX (fun a n s => ∃ (cs : W) (st : List MO), a = cs.map (fun c => D.str [c]) ∧ cs.all LET.contains = true ∧ cs.length + n = sz ∧ VOk (k + 40 * r.length + 24 + n) p st ∧
        s = ⟨[.val (.obj p), .val (.int (many : Int)), .val (.lst (barred.map .str)), .val (.str LET), .own (.lst (ws.map .str)), .val (.int (j : Int)), .val (.int (sz : Int)), a7, a8, .none, .none], st⟩)
      ⟨[], _, rfl, rfl, by simp, hv2.mono (by simp; omega), rfl⟩ ?_ ?_ ?_
    · rintro a n s ⟨cs, st, rfl, h1, h2, h3, rfl⟩; rfl
    · rintro x hx a n s ⟨cs, st, rfl, h1, h2, h3, rfl⟩
      have h3' : VOk (k + 40 * r.length + 24 + n + 1) p st := h3.mono (by omega)
      push_cast [c__law_heave, gt_of (α := W), gt_of (α := Nat), gt_of (α := StT), gt_of (α := RwT)]
      generalize hdr : F__law_heave _ _ _ = dr
      obtain ⟨r3, st3, rfl, hr3, hv3⟩ := heave_of hdr (by assumption) (by omega) (by omega)
      push_cast [c__law_heave, gt_of (α := W), gt_of (α := Nat), gt_of (α := StT), gt_of (α := RwT)]
      refine ⟨_, _, rfl, cs ++ [gt LET r3], st3, by simp, ?_, by simp; omega, hv3, rfl⟩
      rw [List.all_append, h1, List.all_cons, gt_LET (by omega)]; rfl
    rintro _ _ rfl ⟨cs, st, rfl, h1, h2, h3, rfl⟩
    have hcs : WT cs := ⟨by omega, by omega, h1⟩
    have hwsB : ws.all (WB 40) = true := by rw [List.all_eq_true]; exact fun w hw => WT_B (WT_word.mp (hok w hw).1)
    have hjo : joinOk [] (cs.map fun c => [c]) = true := by
      simp only [joinOk, List.length_nil, Nat.mul_zero, Nat.add_zero, decide_eq_true_eq, List.map_map]
      have : ∀ cs : W, (cs.map (List.length ∘ fun c => [c])).sum = cs.length := by
        intro cs; induction cs with
        | nil => rfl
        | cons c cs ih => simp at ih ⊢; omega
      rw [this]; simp only [big]; omega
    have hme : meD .join z_ (.lst (cs.map fun c => D.str [c])) = some (.str cs) := by
      rw [me_join]
      have : cs.map (fun c => D.str [c]) = (cs.map fun c => [c]).map D.str := by rw [List.map_map]; rfl
      rw [this, strs_map, obind_some, if_pos hjo, join_fl, fl_chr]
    push_cast [c__law_heave, gt_of (α := W), gt_of (α := Nat), gt_of (α := StT), gt_of (α := RwT), hme]
    refine seq_mid (fun s => ∃ (t : W) (st : List MO), WT t ∧ VOk (k + 40 * r.length + 20) p st ∧
      s = ⟨[.val (.obj p), .val (.int (many : Int)), .val (.lst (barred.map .str)), .val (.str LET), .own (.lst (ws.map .str)), .val (.int (j : Int)), .val (.int (sz : Int)), .val (.str t), a8, .none, .none], st⟩) ?_ ?_
    · rcases List.eq_nil_or_concat ws with rfl | ⟨ws', w, rfl⟩
      · push_cast [c__law_heave, gt_of (α := W), gt_of (α := Nat), gt_of (α := StT), gt_of (α := RwT), List.isEmpty_nil]
        exact ⟨_, rfl, cs, st, hcs, h3.mono (by omega), rfl⟩
      · rw [List.concat_eq_append] at *
        have h3' : VOk (k + 40 * r.length + 22 + 1 + 1) p st := h3.mono (by omega)
        have hwt : WT w := WT_word.mp (hok w (by simp)).1
        have hwl := hwt.2.1
        push_cast [c__law_heave, gt_of (α := W), gt_of (α := Nat), gt_of (α := StT), gt_of (α := RwT), show (ws' ++ [w]).isEmpty = false by simp]
        generalize hdr : F__law_heave _ _ _ = dr
        obtain ⟨r4, st4, rfl, hr4, hv4⟩ := heave_of hdr (by assumption) (by omega) (by omega)
        push_cast [c__law_heave, gt_of (α := W), gt_of (α := Nat), gt_of (α := StT), gt_of (α := RwT)]
        by_cases hz : ((r4 : Int) == 0) = true
        · push_cast [c__law_heave, gt_of (α := W), gt_of (α := Nat), gt_of (α := StT), gt_of (α := RwT), hz, neg_one, at_last1]
          generalize hdr : F__law_heave _ _ _ = dr
          obtain ⟨r5, st5, rfl, hr5, hv5⟩ := heave_of hdr (by assumption) (by omega) (by omega)
          push_cast [c__law_heave, gt_of (α := W), gt_of (α := Nat), gt_of (α := StT), gt_of (α := RwT)]
          exact ⟨_, rfl, _, _, WT_cut (k := 11) (r := r5) hwt.2.2 (by decide) (by omega), hv5.mono (by omega), rfl⟩
        · simp only [Bool.not_eq_true] at hz
          push_cast [c__law_heave, gt_of (α := W), gt_of (α := Nat), gt_of (α := StT), gt_of (α := RwT), hz]
          exact ⟨_, rfl, cs, _, hcs, hv4.mono (by omega), rfl⟩
    · rintro _ ⟨t, st, ht, hvt, rfl⟩
      have htB := WT_B ht
      have htl := ht.2.1
      push_cast [c__law_heave, gt_of (α := W), gt_of (α := Nat), gt_of (α := StT), gt_of (α := RwT)]
      cases hc : (ws.contains t || barred.contains t)
      · have hc' := Bool.or_eq_false_iff.mp hc
        have hc1 : t ∉ ws := by simpa using hc'.1
        push_cast [c__law_heave, gt_of (α := W), gt_of (α := Nat), gt_of (α := StT), gt_of (α := RwT)]
        refine ⟨_, rfl, ws ++ [t], st, _, _, _, _, by simp; omega, ?_, ?_, hvt.mono (by omega), rfl⟩
        · rw [List.nodup_append]
          refine ⟨hnd, by simp, ?_⟩
          intro a ha b hb e
          rw [List.mem_singleton] at hb
          subst hb; subst e; exact hc1 ha
        · intro w hw
          rcases List.mem_append.mp hw with hw | hw
          · exact hok w hw
          · rw [List.mem_singleton] at hw; subst hw
            exact ⟨WT_word.mpr ht, hc'.2⟩
      · have hj26 : j < 26 := by omega
        obtain ⟨y, ys, hy⟩ := spare_ne t j (ws := ws) (bs := barred) (by omega)
        have hym : y ∈ (spare t j).filter (fun x => !ws.contains x && !barred.contains x) := by rw [hy]; exact List.mem_cons_self ..
        rw [List.mem_filter] at hym
        obtain ⟨hy1, hy2⟩ := hym
        simp only [Bool.and_eq_true, Bool.not_eq_true', ← Bool.not_eq_true, List.contains_iff_mem] at hy2
        have hyW : WT y := by
          obtain ⟨i, hi, rfl⟩ := List.mem_map.mp hy1
          exact WT_cut2 ht.2.2 (List.mem_range.mp hi) hj26
        have hsp : (spare t j).all (WB 40) = true := by
          refine all_map' fun i hi => WT_B (WT_cut2 ht.2.2 (List.mem_range.mp hi) hj26)
        have hspl : (spare t j).length ≤ 26 := by simp [spare]
        push_cast [c__law_heave, gt_of (α := W), gt_of (α := Nat), gt_of (α := StT), gt_of (α := RwT), rng_26, show (List.range 26).map (fun x => List.take 10 t ++ [gt LET x] ++ [gt LET j]) = spare t j from rfl, hy, at_0]
        refine ⟨_, rfl, ws ++ [y], st, _, _, _, _, by simp; omega, ?_, ?_, hvt.mono (by omega), rfl⟩
        · rw [List.nodup_append]
          refine ⟨hnd, by simp, ?_⟩
          intro a ha b hb e
          rw [List.mem_singleton] at hb
          subst hb; subst e; exact hy2.1 ha
        · intro w hw
          rcases List.mem_append.mp hw with hw | hw
          · exact hok w hw
          · rw [List.mem_singleton] at hw; subst hw
            exact ⟨WT_word.mpr hyW, by rw [← Bool.not_eq_true, List.contains_iff_mem]; exact hy2.2⟩
  · rintro s2 rfl ⟨ws, st2, a5, a6, a7, a8, hlen, hnd, hok, hvk, rfl⟩
    push_cast [seq_ite, triR_ite]
    exact ⟨ws, st2, rfl, hvk.mono (by simp), by simpa using hlen, hnd, hok⟩

set_option Elab.async false
set_option linter.all false
set_option maxRecDepth 100000
structure GSt (xs : List StT) : Prop where
  w : ∀ x ∈ xs, WT x.1
  f : z_free ∉ wd xs
  t : ∀ x ∈ xs, (x.2.1 && x.2.2) = false
  nd : (wd xs).Nodup
  ne : 0 < xs.length
  len : xs.length ≤ 20
theorem GSt.b {xs : List StT} (h : GSt xs) : xs.all stB = true := by
  rw [List.all_eq_true]; exact fun x hx => WT_B (h.w x hx)
theorem GSt.wdB {xs : List StT} (h : GSt xs) : (wd xs).all (WB 12) = true := by
  rw [List.all_eq_true]; intro w hw
  obtain ⟨x, hx, rfl⟩ := List.mem_map.mp hw
  have := h.w x hx
  exact WB_mk this.2.1 (WT_chars this.2.2)
theorem take_nd {ws : List W} {k : Nat} {w : W} (h : ws.Nodup) (hk : ws[k]? = some w) : (ws.take k).contains w = false := by
  rw [← Bool.not_eq_true, List.contains_iff_mem]
  intro hm
  obtain ⟨i, hi, e⟩ := List.mem_iff_getElem.mp hm
  rw [List.length_take] at hi
  obtain ⟨hj, e2⟩ := List.getElem?_eq_some_iff.mp hk
  rw [List.nodup_iff_pairwise_ne, List.pairwise_iff_getElem] at h
  exact h i k (by omega) hj (by omega) (by rw [e2, ← e, List.getElem_take])
theorem wd_take {xs : List StT} {k : Nat} : wd (xs.take k) = (wd xs).take k := List.map_take ..
theorem GSt.good {xs : List StT} (h : GSt xs) : wrongSt' xs = none := by
  have h0 : xs.zipIdx.findSome? (fun p => onB (badSt xs p) p.2) = none := by
    rw [List.findSome?_eq_none_iff]
    rintro ⟨⟨w, t, u⟩, k⟩ hp
    obtain ⟨h1, h2⟩ := mem_zip hp
    simp only at h1 h2
    rw [onB_none]
    have hw := h.w _ h2
    have hf : w ≠ z_free := fun e => h.f (by rw [← e]; exact List.mem_map.mpr ⟨_, h2, rfl⟩)
    have hn := take_nd (w := w) (k := k) h.nd (by unfold wd; rw [List.getElem?_map, h1]; rfl)
    have ht := h.t _ h2
    simp only at ht
    simp only [badSt, WT_word.mpr hw, wd_take, hn, ht, Bool.not_true, Bool.false_or, Bool.or_false]
    simpa using hf
  unfold wrongSt'
  rw [h0]
  have : xs.isEmpty = false := by cases xs with
    | nil => have := h.ne; simp at this
    | cons x xs => rfl
  simp only [this]; rfl
theorem f_drawn_states (n : Nat) {k p : Nat} {st : List MO} (hv : VOk (k + 1100) p st) :
    ∃ (xs : List StT) (st' : List MO), F__law_drawn_states (n + 2) [.obj p, .int 4] st = .ok (.tup (xs.map stD)) st' ∧ VOk k p st' ∧ GSt xs := by
  rw [u__law_drawn_states]; unfold cs__law_drawn_states
  have hv' : VOk (k + 1000 + 20 + 79 + 1) p st := hv.mono (by omega)
  push_cast [c__law_heave, gt_of (α := W), gt_of (α := Nat), gt_of (α := StT), gt_of (α := RwT)]
  generalize hdr : F__law_heave _ _ _ = dr
  obtain ⟨r1, st1, rfl, h1, hv1⟩ := heave_of hdr (by assumption) (by omega) (by omega)
  push_cast [c__law_heave, gt_of (α := W), gt_of (α := Nat), gt_of (α := StT), gt_of (α := RwT)]
  obtain ⟨ws, st2, e, hv2, hl, hnd, hok⟩ := f_call_words n (k := k + 50) (p := p) (many := 1 + r1) (barred := [z_free]) (hv1.mono (by omega)) (by omega) (by decide) (by decide)
  rw [show ((1 + r1 : Nat) : Int) = 1 + (r1 : Int) by omega] at e
  have hwl : ws.length ≤ 20 := by omega
  push_cast [c__law_heave, gt_of (α := W), gt_of (α := Nat), gt_of (α := StT), gt_of (α := RwT), c__law_call_words, e]
  generalize hX : forL _ _ _ _ = X
  refine loop_use hX (fun r s => ∃ (xs : List StT) (st : List MO) (a3 a4 : Sl), wd xs ++ r = ws ∧ (∀ x ∈ xs, (x.2.1 && x.2.2) = false) ∧ VOk (k + r.length) p st ∧
      s = ⟨[.val (.obj p), .val (.int 4), .own (.lst (xs.map stD)), a3, a4], st⟩)
    ⟨[], st2, _, _, rfl, by simp, hv2.mono (by omega), rfl⟩ ?_ ?_
  · rintro w r s hw ⟨xs, st, a3, a4, h2, h3, h4, rfl⟩
    rw [List.length_cons] at h4
    have h4' : VOk (k + r.length + 1) p st := h4
    have hxl : xs.length < 50 := by
      have := congrArg List.length h2
      rw [List.length_append, wd_len] at this; omega
    clear hX
    push_cast [c__law_heave, gt_of (α := W), gt_of (α := Nat), gt_of (α := StT), gt_of (α := RwT)]
    generalize hdr : F__law_heave _ _ _ = dr
    obtain ⟨r2, st3, rfl, h5, hv5⟩ := heave_of hdr (by assumption) (by omega) (by omega)
    push_cast [c__law_heave, gt_of (α := W), gt_of (α := Nat), gt_of (α := StT), gt_of (α := RwT)]
    refine ⟨_, rfl, xs ++ [(w, decide ((r2 : Int) < 2), (r2 : Int) == 2)], st3, .val (.str w), .val (.int (r2 : Int)), ?_, ?_, hv5, ?_⟩
    · rw [← h2]; simp [wd]
    · intro x hx
      rcases List.mem_append.mp hx with hx | hx
      · exact h3 x hx
      · rw [List.mem_singleton] at hx; subst hx
        simp only [Bool.and_eq_false_iff, decide_eq_false_iff_not, beq_eq_false_iff_ne]; omega
    · rw [List.map_append]; rfl
  · rintro _ rfl ⟨xs, st, a3, a4, h2, h3, h4, rfl⟩
    push_cast [c__law_heave, gt_of (α := W), gt_of (α := Nat), gt_of (α := StT), gt_of (α := RwT)]
    rw [List.append_nil] at h2
    have hx : ∀ x ∈ xs, x.1 ∈ ws := fun x hx => by rw [← h2]; exact List.mem_map.mpr ⟨x, hx, rfl⟩
    have hxl : xs.length = ws.length := by rw [← h2, wd_len]
    refine ⟨xs, st, rfl, h4, fun x h => WT_word.mp (hok _ (hx x h)).1, ?_, h3, h2 ▸ hnd, by omega, by omega⟩
    rw [h2]; intro hm
    have := (hok _ hm).2
    simp at this
theorem f_some (n : Nat) {k p : Nat} {things : List W} {many : Nat} {m : Int} {st : List MO} (hv : VOk (k + 20) p st) (hmm : m = (many : Int)) (hm : many ≤ 9) (ht : things.all (WB 60) = true) (hl : things.length ≤ 300) :
    ∃ (ws : List W) (st' : List MO), F__law_some (n + 1) [.obj p, .lst (things.map .str), .int m] st = .ok (.tup (ws.map .str)) st' ∧ VOk k p st' ∧ ws.Nodup ∧ (∀ w ∈ ws, w ∈ things) ∧ ws.length ≤ many := by
  subst hmm
  rw [u__law_some]; unfold cs__law_some
  have hv' : VOk (k + 19 + 1) p st := hv
  push_cast [c__law_heave, gt_of (α := W), gt_of (α := Nat), gt_of (α := StT), gt_of (α := RwT)]
  generalize hdr : F__law_heave _ _ _ = dr
  obtain ⟨r1, st1, rfl, h1, hv1⟩ := heave_of hdr (by assumption) (by omega) (by omega)
  push_cast [c__law_heave, gt_of (α := W), gt_of (α := Nat), gt_of (α := StT), gt_of (α := RwT), rngD_nat]
  generalize hX : forL _ _ _ _ = X
  refine loop_use hX (fun r s => ∃ (ws rest : List W) (st : List MO) (a5 a6 : Sl), ws.Nodup ∧ (∀ w ∈ ws, w ∈ things ∧ w ∉ rest) ∧ (∀ w ∈ rest, w ∈ things) ∧ rest.length ≤ 300 ∧ ws.length + r.length ≤ many ∧ VOk (k + r.length) p st ∧
      s = ⟨[.val (.obj p), .val (.lst (things.map .str)), .val (.int (many : Int)), .val (.lst (rest.map .str)), .own (.lst (ws.map .str)), a5, a6, .none], st⟩)
    ⟨[], things, st1, _, _, List.nodup_nil, by simp, fun _ h => h, hl, by simp; omega, hv1.mono (by simp; omega), rfl⟩ ?_ ?_
  · rintro j r s hj ⟨ws, rest, st, a5, a6, h2, h3, h4, h5, h6, h7, rfl⟩
    rw [List.length_cons] at h6 h7
    have h7' : VOk (k + r.length + 1) p st := h7
    clear hX
    have hrB : rest.all (WB 60) = true := by rw [List.all_eq_true] at *; exact fun w hw => ht w (h4 w hw)
    cases hr : rest.isEmpty
    · have hrl : 0 < rest.length := by cases rest with
        | nil => simp at hr
        | cons x y => simp
      push_cast [c__law_heave, gt_of (α := W), gt_of (α := Nat), gt_of (α := StT), gt_of (α := RwT), hr]
      generalize hdr : F__law_heave _ _ _ = dr
      obtain ⟨r2, st2, rfl, h8, hv8⟩ := heave_of hdr (by assumption) (by omega) (by omega)
      push_cast [c__law_heave, gt_of (α := W), gt_of (α := Nat), gt_of (α := StT), gt_of (α := RwT)]
      have hr2 : r2 < rest.length := by omega
      have hgB : WB 60 (gt rest r2) = true := gt_all hrB hr2
      have hg := gt_mem hr2
      push_cast [c__law_heave, gt_of (α := W), gt_of (α := Nat), gt_of (α := StT), gt_of (α := RwT)]
      refine ⟨_, rfl, ws ++ [gt rest r2], rest.filter (fun x => !x == gt rest r2), st2, _, _, ?_, ?_, ?_, ?_, by simp; omega, hv8, rfl⟩
      · rw [List.nodup_append]
        refine ⟨h2, by simp, ?_⟩
        intro a ha b hb e
        rw [List.mem_singleton] at hb
        subst hb; subst e; exact (h3 _ ha).2 hg
      · intro w hw
        rcases List.mem_append.mp hw with hw | hw
        · exact ⟨(h3 w hw).1, fun hm => (h3 w hw).2 (List.mem_filter.mp hm).1⟩
        · rw [List.mem_singleton] at hw; subst hw
          exact ⟨h4 _ hg, fun hm => by have := (List.mem_filter.mp hm).2; simp at this⟩
      · exact fun w hw => h4 w (List.mem_filter.mp hw).1
      · exact Nat.le_trans (List.length_filter_le ..) h5
    · push_cast [c__law_heave, gt_of (α := W), gt_of (α := Nat), gt_of (α := StT), gt_of (α := RwT), hr]
      exact ⟨_, rfl, ws, rest, st, _, _, h2, h3, h4, h5, by omega, h7.mono (by omega), rfl⟩
  · rintro _ rfl ⟨ws, rest, st, a5, a6, h2, h3, h4, h5, h6, h7, rfl⟩
    push_cast [c__law_heave, gt_of (α := W), gt_of (α := Nat), gt_of (α := StT), gt_of (α := RwT)]
    exact ⟨ws, st, rfl, h7.mono (by omega), h2, fun w hw => (h3 w hw).1, by simpa using h6⟩

set_option Elab.async false
set_option linter.all false
set_option maxRecDepth 100000
abbrev SND : List W := [z_mine, z_other, z_same, z_still]
abbrev MRK : List W := [z_new, z_refund, z_keep]
structure GRow (xs : List StT) (r : RwT) : Prop where
  w : WT r.1
  s1 : (shOf r).Nodup
  s2 : ∀ w ∈ shOf r, w ∈ viewsOf xs
  s3 : (shOf r).length ≤ 20
  l1 : (loOf r).Nodup
  l2 : ∀ w ∈ loOf r, w ∈ looksOf xs
  l3 : (loOf r).length ≤ 20
  l4 : shOf r = [] → ∀ w ∈ loOf r, w ∉ SND
  d : deOf r ∈ deedsOf xs (shOf r).isEmpty
  m1 : (maOf r).Nodup
  m2 : ∀ w ∈ maOf r, w ∈ MRK
  m3 : (maOf r).length ≤ 20
  m4 : deOf r = z_free → z_new ∉ maOf r
  m5 : shOf r = [] → z_keep ∉ maOf r
  m6 : deOf r = z_ → maOf r ≠ []
theorem vlB {xs : List StT} (h : (wd xs).all (WB 12) = true) : (viewsOf xs).all (WB 20) = true := by
  rw [viewsOf, List.all_cons, all_app (WB_pre h (m := 3) (by decide) (by decide)) (WB_pre h (m := 7) (by decide) (by decide))]; rfl
theorem llB {xs : List StT} (h : (wd xs).all (WB 12) = true) : (looksOf xs).all (WB 20) = true := by
  have h2 : (z_free :: wd xs).all (WB 12) = true := by rw [List.all_cons, h]; rfl
  exact all_app (WB_pre h2 (m := 3) (by decide) (by decide)) (all_app (WB_pre h2 (m := 4) (by decide) (by decide)) (by decide))
theorem dlB {xs : List StT} {b : Bool} (h : (wd xs).all (WB 12) = true) : (deedsOf xs b).all (WB 20) = true := by
  rw [deedsOf, List.all_cons, all_app (xs := (if b = true then [] else wd xs).map (z_take_ ++ ·)) (by split; rfl; exact WB_pre h (m := 5) (by decide) (by decide)) (all_app (WB_pre h (m := 5) (by decide) (by decide)) (by decide))]; rfl
theorem sub_B {k m : Nat} {ws vs : List W} (h : vs.all (WB k) = true) (hs : ∀ w ∈ ws, w ∈ vs) (hk : k ≤ m) : ws.all (WB m) = true := by
  rw [List.all_eq_true]; exact fun w hw => WB_up (mem_all h (hs w hw)) hk
theorem con_all {ws vs : List W} (hs : ∀ w ∈ ws, w ∈ vs) : (ws.map vs.contains).all id = true := by
  rw [List.all_map, List.all_eq_true]; intro w hw; simpa using hs w hw
theorem con_any {ws vs : List W} (hs : ∀ w ∈ ws, w ∉ vs) : (ws.map vs.contains).any id = false := by
  rw [List.any_map, List.any_eq_false]; intro w hw; simpa using hs w hw
theorem GRow.good {xs : List StT} {r : RwT} (h : GRow xs r) {ns : List W} (hn : r.1 ∉ ns) : wrongPart xs ns r = none := by
  have h1 : ns.contains (nmOf r) = false := by simpa using hn
  have hm : areMarks r = true := by
    unfold areMarks isOnce
    simp only [con_all h.m2, h.m1, decide_true, Bool.not_true, Bool.false_or, Bool.false_eq_true, if_false]
    have a1 : ((maOf r).contains z_new && deOf r == z_free) = false := by
      cases hd : deOf r == z_free
      · simp
      · simpa using h.m4 (by simpa using hd)
    have a2 : ((maOf r).contains z_keep && (shOf r).isEmpty) = false := by
      cases hd : (shOf r).isEmpty
      · simp
      · simpa using h.m5 (by simpa using hd)
    simp only [a1, a2, Bool.false_or, Bool.false_eq_true, if_false]
    cases hd : deOf r == z_
    · rfl
    · have := h.m6 (by simpa using hd)
      simpa using this
  have hd : (deedsOf xs (shOf r).isEmpty).contains (deOf r) = true := by simpa using h.d
  unfold wrongPart isOnce
  have h3 : ((shOf r).isEmpty && ((loOf r).map SND.contains).any id) = false := by
    cases hd : (shOf r).isEmpty
    · rfl
    · rw [con_any (h.l4 (by simpa using hd))]; rfl
  simp only [WT_word.mpr h.w, h1, con_all h.s2, h.s1, con_all h.l2, h.l1, hd, hm, h3, decide_true, Bool.not_true, Bool.or_false, Bool.false_eq_true, if_false, if_true]
theorem GRow.b {xs : List StT} {r : RwT} (h : GRow xs r) (hx : GSt xs) : rwB r :=
  ⟨WT_B h.w, Nat.le_trans h.s3 (by decide), sub_B (vlB hx.wdB) h.s2 (by decide), Nat.le_trans h.l3 (by decide), sub_B (llB hx.wdB) h.l2 (by decide), WB_up (mem_all (dlB hx.wdB) h.d) (by decide), Nat.le_trans h.m3 (by decide), sub_B (k := 10) (vs := MRK) (by decide) h.m2 (by decide)⟩
theorem f_drawn_row (n : Nat) {k p : Nat} {xs : List StT} {t : W} {st : List MO} (hv : VOk (k + 200) p st) (hx : GSt xs) (ht : WT t) :
    ∃ (r : RwT) (st' : List MO), F__law_drawn_row (n + 3) [.obj p, .tup (xs.map stD), .str t, .int 8] st = .ok (rwD r) st' ∧ VOk k p st' ∧ r.1 = t ∧ GRow xs r := by
  rw [u__law_drawn_row]; unfold cs__law_drawn_row
  have hv' : VOk (k + 180 + 19 + 1) p st := hv.mono (by omega)
  have hxB := hx.b
  have hxl := hx.len
  have hw12 := hx.wdB
  have hwl : (wd xs).length = xs.length := wd_len
  have hne := hx.ne
  have hxl2 : xs.length ≤ 100 := by omega
  have hvB := views_B hxB
  have hvl := views_len hxl2
  have hlB := looks_B hxB
  have hll := looks_len hxl2
  push_cast [c__law_heave, gt_of (α := W), gt_of (α := Nat), gt_of (α := StT), gt_of (α := RwT), stD, show xs.map Prod.fst = wd xs from rfl]
  generalize hdr : F__law_heave _ _ _ = dr
  obtain ⟨r1, st1, rfl, h1, hv1⟩ := heave_of hdr (by assumption) (by omega) (by omega)
  push_cast [c__law_heave, gt_of (α := W), gt_of (α := Nat), gt_of (α := StT), gt_of (α := RwT)]
  generalize hX : seqR _ _ _ = X
  refine mid_use hX (fun s => ∃ (sh : List W) (st : List MO), sh.Nodup ∧ (∀ w ∈ sh, w ∈ viewsOf xs) ∧ sh.length ≤ 9 ∧ VOk (k + 150) p st ∧
      s = ⟨[.val (.obj p), .val (.tup (xs.map stD)), .val (.str t), .val (.int 8), .val (.tup (sh.map .str)), .val (.lst ((wd xs).map .str)), .none, .none, .none, .none, .none, .none, .none, .none], st⟩) ?_ ?_
  · clear hX
    by_cases h0 : (r1 : Int) > 0
    · push_cast [c__law_heave, gt_of (α := W), gt_of (α := Nat), gt_of (α := StT), gt_of (α := RwT), h0, decide_true, c__law_all_views, f_all_views]
      generalize hdr : F__law_heave _ _ _ = dr
      obtain ⟨r2, st2, rfl, h2, hv2⟩ := heave_of hdr (by assumption) (by omega) (by omega)
      push_cast [c__law_heave, gt_of (α := W), gt_of (α := Nat), gt_of (α := StT), gt_of (α := RwT)]
      obtain ⟨m, e, hm⟩ : ∃ m : Nat, [D.int 3, D.int 3, D.int 9][r2]? = some (.int (m : Int)) ∧ m ≤ 9 := by
        have : r2 = 0 ∨ r2 = 1 ∨ r2 = 2 := by omega
        rcases this with rfl | rfl | rfl
        · exact ⟨3, rfl, by omega⟩
        · exact ⟨3, rfl, by omega⟩
        · exact ⟨9, rfl, by omega⟩
      obtain ⟨ws, st3, e2, hv3, hnd, hsub, hl⟩ := f_some (n + 1) (k := k + 150) (p := p) (things := viewsOf xs) (many := m) (m := m) (hv2.mono (by omega)) rfl hm hvB (by omega)
      push_cast [c__law_heave, gt_of (α := W), gt_of (α := Nat), gt_of (α := StT), gt_of (α := RwT), e, c__law_some, e2]
      exact ⟨_, rfl, ws, st3, hnd, hsub, by omega, hv3, rfl⟩
    · push_cast [c__law_heave, gt_of (α := W), gt_of (α := Nat), gt_of (α := StT), gt_of (α := RwT), h0, decide_false]
      exact ⟨_, rfl, [], st1, List.nodup_nil, by simp, by simp, hv1.mono (by omega), rfl⟩
  rintro _ rfl ⟨sh, st, hs1, hs2, hs3, hv2, rfl⟩
  have hshB : sh.all (WB 60) = true := sub_B hvB hs2 (by decide)
  clear hX
  push_cast [c__law_heave, gt_of (α := W), gt_of (α := Nat), gt_of (α := StT), gt_of (α := RwT), c__law_all_looks, f_all_looks]
  generalize hX : seqR _ _ _ = X
  refine mid_use hX (fun s => ∃ (kn : List W), (∀ w ∈ kn, w ∈ looksOf xs) ∧ (sh = [] → ∀ w ∈ kn, w ∉ SND) ∧ kn.length ≤ 210 ∧
      s = ⟨[.val (.obj p), .val (.tup (xs.map stD)), .val (.str t), .val (.int 8), .val (.tup (sh.map .str)), .val (.lst ((wd xs).map .str)), .val (.lst (kn.map .str)), .none, .none, .none, .none, .none, .none, .none], st⟩) ?_ ?_
  · clear hX
    cases hs : sh.isEmpty
    · exact ⟨_, rfl, looksOf xs, fun _ h => h, fun h => by rw [h] at hs; simp at hs, hll, rfl⟩
    · refine ⟨_, rfl, (looksOf xs).filter (fun x => !SND.contains x), fun w hw => (List.mem_filter.mp hw).1, fun _ w hw => ?_, Nat.le_trans (List.length_filter_le ..) hll, rfl⟩
      have := (List.mem_filter.mp hw).2
      simpa using this
  rintro _ rfl ⟨kn, hk1, hk2, hk3, rfl⟩
  have hknB : kn.all (WB 60) = true := sub_B hlB hk1 (by decide)
  clear hX
  have hv2' : VOk (k + 148 + 1 + 1) p st := hv2
  push_cast [c__law_heave, gt_of (α := W), gt_of (α := Nat), gt_of (α := StT), gt_of (α := RwT)]
  generalize hdr : F__law_heave _ _ _ = dr
  obtain ⟨r2, st2, rfl, h2, hv3⟩ := heave_of hdr (by assumption) (by omega) (by omega)
  push_cast [c__law_heave, gt_of (α := W), gt_of (α := Nat), gt_of (α := StT), gt_of (α := RwT)]
  have hr2 : r2 < (wd xs).length := by omega
  have hg2 := gt_all (p := WB 12) hw12 hr2
  have hgl2 := WB_len hg2
  have hm2 := gt_mem hr2
  push_cast [c__law_heave, gt_of (α := W), gt_of (α := Nat), gt_of (α := StT), gt_of (α := RwT)]
  generalize hX : seqR _ _ _ = X
  refine mid_use hX (fun s => ∃ (ac : List W) (st : List MO), (∀ w ∈ ac, w ∈ deedsOf xs sh.isEmpty) ∧ 0 < ac.length ∧ ac.length ≤ 10 ∧ VOk (k + 148) p st ∧
      s = ⟨[.val (.obj p), .val (.tup (xs.map stD)), .val (.str t), .val (.int 8), .val (.tup (sh.map .str)), .val (.lst ((wd xs).map .str)), .val (.lst (kn.map .str)), .val (.lst (ac.map .str)), .none, .none, .none, .none, .none, .none], st⟩) ?_ ?_
  · clear hX
    have hmv : ∀ w ∈ [z_move_ ++ gt (wd xs) r2, z_free, z_time], w ∈ deedsOf xs sh.isEmpty := by
      intro w hw
      simp only [List.mem_cons, List.not_mem_nil, or_false] at hw
      simp only [deedsOf, List.mem_cons, List.mem_append, List.mem_map, List.not_mem_nil, or_false]
      rcases hw with rfl | rfl | rfl
      · exact .inr (.inr (.inl ⟨_, hm2, rfl⟩))
      · simp
      · simp
    cases hs : sh.isEmpty
    · push_cast [c__law_heave, gt_of (α := W), gt_of (α := Nat), gt_of (α := StT), gt_of (α := RwT), hs]
      generalize hdr : F__law_heave _ _ _ = dr
      obtain ⟨r3, st3, rfl, h3, hv4⟩ := heave_of hdr (by assumption) (by omega) (by omega)
      push_cast [c__law_heave, gt_of (α := W), gt_of (α := Nat), gt_of (α := StT), gt_of (α := RwT)]
      have hr3 : r3 < (wd xs).length := by omega
      have hg3 := gt_all (p := WB 12) hw12 hr3
      have hgl3 := WB_len hg3
      have hm3 := gt_mem hr3
      obtain ⟨w0, wr, hw0⟩ : ∃ w0 wr, wd xs = w0 :: wr := by
        cases h : wd xs with
        | nil => rw [h] at hr3; simp at hr3
        | cons a b => exact ⟨a, b, rfl⟩
      have hg0 : WB 12 w0 = true := mem_all hw12 (by rw [hw0]; exact List.mem_cons_self ..)
      have hgl0 := WB_len hg0
      have ht0 : L2.atI (wd xs) 0 = some w0 := by rw [hw0]; exact at_0
      push_cast [c__law_heave, gt_of (α := W), gt_of (α := Nat), gt_of (α := StT), gt_of (α := RwT), ht0]
      refine ⟨_, rfl, [z_move_ ++ gt (wd xs) r2, z_free, z_time] ++ [z_, z_take_ ++ gt (wd xs) r3] ++ [z_take_ ++ w0], st3, ?_, by simp, by simp, hv4.mono (by omega), rfl⟩
      intro w hw
      rcases List.mem_append.mp hw with hw | hw
      · rcases List.mem_append.mp hw with hw | hw
        · rw [← hs]; exact hmv w hw
        · simp only [List.mem_cons, List.not_mem_nil, or_false] at hw
          simp only [deedsOf, List.mem_cons, List.mem_append, List.mem_map, Bool.false_eq_true, if_false]
          rcases hw with rfl | rfl
          · simp
          · exact .inr (.inl ⟨_, hm3, rfl⟩)
      · simp only [List.mem_cons, List.not_mem_nil, or_false] at hw
        subst hw
        simp only [deedsOf, List.mem_cons, List.mem_append, List.mem_map, Bool.false_eq_true, if_false]
        exact .inr (.inl ⟨w0, by rw [hw0]; exact List.mem_cons_self .., rfl⟩)
    · push_cast [c__law_heave, gt_of (α := W), gt_of (α := Nat), gt_of (α := StT), gt_of (α := RwT), hs]
      exact ⟨_, rfl, _, st2, by rw [← hs]; exact hmv, by simp, by simp, hv3.mono (by omega), rfl⟩
  rintro _ rfl ⟨ac, st3, ha1, ha2, ha3, hv4, rfl⟩
  clear hX
  have haB : ac.all (WB 20) = true := sub_B (dlB hw12) ha1 (by decide)
  have hv4' : VOk (k + 147 + 1) p st3 := hv4
  push_cast [c__law_heave, gt_of (α := W), gt_of (α := Nat), gt_of (α := StT), gt_of (α := RwT)]
  generalize hdr : F__law_heave _ _ _ = dr
  obtain ⟨r3, st4, rfl, h3, hv5⟩ := heave_of hdr (by assumption) (by omega) (by omega)
  push_cast [c__law_heave, gt_of (α := W), gt_of (α := Nat), gt_of (α := StT), gt_of (α := RwT)]
  have hr3 : r3 < ac.length := by omega
  have hd1 := gt_all haB hr3
  have hd2 := ha1 _ (gt_mem hr3)
  obtain ⟨de, hde⟩ : ∃ de, gt ac r3 = de := ⟨_, rfl⟩
  rw [hde] at hd1 hd2
  have hMB : MRK.all (WB 10) = true := by decide
  push_cast [c__law_heave, gt_of (α := W), gt_of (α := Nat), gt_of (α := StT), gt_of (α := RwT), hde]
  obtain ⟨sg, hsg⟩ : ∃ sg : List W, MRK.filter (fun x => !(x == z_new) || !(de == z_free)) = sg := ⟨_, rfl⟩
  obtain ⟨sg2, hsgg⟩ : ∃ sg2 : List W, sg.filter (fun x => !(x == z_keep) || !sh.isEmpty) = sg2 := ⟨_, rfl⟩
  have hsg2 : ∀ w ∈ sg2, w ∈ MRK ∧ (de = z_free → w ≠ z_new) ∧ (sh = [] → w ≠ z_keep) := by
    intro w hw
    rw [← hsgg] at hw
    obtain ⟨h1, h2⟩ := List.mem_filter.mp hw
    rw [← hsg] at h1
    obtain ⟨h3, h4⟩ := List.mem_filter.mp h1
    refine ⟨h3, fun e e2 => ?_, fun e e2 => ?_⟩
    · subst e e2; simp at h4
    · subst e e2; simp at h2
  have hsg2B : sg2.all (WB 60) = true := sub_B hMB (fun w hw => (hsg2 w hw).1) (by decide)
  have hsgB : sg.all (WB 60) = true := sub_B hMB (fun w hw => by rw [← hsg] at hw; exact (List.mem_filter.mp hw).1) (by decide)
  have hsgl : sg.length ≤ 3 := by rw [← hsg]; exact List.length_filter_le ..
  have hsg2l : sg2.length ≤ 3 := by rw [← hsgg]; exact Nat.le_trans (List.length_filter_le ..) hsgl
  obtain ⟨ma, st5, e5, hv6, hma1, hma2, hma3⟩ := f_some (n + 1) (k := k + 100) (p := p) (things := sg2) (many := 3) (m := 3) (hv5.mono (by omega)) rfl (by decide) hsg2B (by omega)
  have hmaB : ma.all (WB 60) = true := sub_B hsg2B hma2 (by decide)
  push_cast [c__law_heave, gt_of (α := W), gt_of (α := Nat), gt_of (α := StT), gt_of (α := RwT), hsg, hsgg, c__law_some, e5]
  generalize hX : seqR _ _ _ = X
  refine mid_use hX (fun s => ∃ (ma : List W), ma.Nodup ∧ (∀ w ∈ ma, w ∈ MRK) ∧ ma.length ≤ 3 ∧ (de = z_free → z_new ∉ ma) ∧ (sh = [] → z_keep ∉ ma) ∧ (de = z_ → ma ≠ []) ∧
      s = ⟨[.val (.obj p), .val (.tup (xs.map stD)), .val (.str t), .val (.int 8), .val (.tup (sh.map .str)), .val (.lst ((wd xs).map .str)), .val (.lst (kn.map .str)), .val (.lst (ac.map .str)), .val (.str de), .val (.lst (sg.map .str)), .val (.tup (ma.map .str)), .none, .none, .none], st5⟩) ?_ ?_
  · clear hX
    by_cases hz : (de == z_ && ma.isEmpty) = true
    · push_cast [c__law_heave, gt_of (α := W), gt_of (α := Nat), gt_of (α := StT), gt_of (α := RwT), hz]
      refine ⟨_, rfl, [z_refund], by decide, by decide, by decide, fun _ => by decide, fun _ => by decide, fun _ => by decide, rfl⟩
    · simp only [Bool.not_eq_true] at hz
      push_cast [c__law_heave, gt_of (α := W), gt_of (α := Nat), gt_of (α := StT), gt_of (α := RwT), hz]
      refine ⟨_, rfl, ma, hma1, fun w hw => (hsg2 w (hma2 w hw)).1, hma3, fun e hm => (hsg2 _ (hma2 _ hm)).2.1 e rfl, fun e hm => (hsg2 _ (hma2 _ hm)).2.2 e rfl, fun e => ?_, rfl⟩
      rintro rfl
      rw [e] at hz; simp at hz
  rintro _ rfl ⟨ma, hm1, hm2, hm3, hm4, hm5, hm6, rfl⟩
  clear hX
  obtain ⟨lo, st6, e6, hv7, hl1, hl2, hl3⟩ := f_some (n + 1) (k := k) (p := p) (things := kn) (many := 8) (m := 8) (hv6.mono (by omega)) rfl (by decide) hknB (by omega)
  push_cast [c__law_heave, gt_of (α := W), gt_of (α := Nat), gt_of (α := StT), gt_of (α := RwT), c__law_some, e6]
  refine ⟨(t, sh, lo, de, ma), st6, rfl, hv7, rfl, ?_⟩
  constructor
  · exact ht
  · exact hs1
  · exact hs2
  · exact Nat.le_trans hs3 (by decide)
  · exact hl1
  · exact fun w hw => hk1 w (hl2 w hw)
  · exact Nat.le_trans hl3 (by decide)
  · exact fun e w hw => hk2 e w (hl2 w hw)
  · exact hd2
  · exact hm1
  · exact hm2
  · exact Nat.le_trans hm3 (by decide)
  · exact hm4
  · exact hm5
  · exact hm6

set_option Elab.async false
set_option linter.all false
set_option maxRecDepth 100000
structure GBk (b : BkT) : Prop where
  s : GSt b.1
  r : ∀ r ∈ b.2, GRow b.1 r
  n : (nms b.2).Nodup
  len : b.2.length ≤ 20
theorem GBk.bk {b : BkT} (h : GBk b) : bkB b := ⟨h.s.b, by have := h.s.len; omega, fun r hr => (h.r r hr).b h.s, by have := h.len; omega⟩
theorem GBk.good {b : BkT} (h : GBk b) : badOf b = .fine := by
  have h1 := h.s.good
  have h2 : wrongRow b.1 b.2 = none := by
    unfold wrongRow
    rw [List.findSome?_eq_none_iff]
    rintro ⟨r, k⟩ hp
    obtain ⟨h1, h2⟩ := mem_zip hp
    have hn : r.1 ∉ nms (b.2.take k) := by
      have := take_nd (w := r.1) (k := k) h.n (by unfold nms; rw [List.getElem?_map, h1]; rfl)
      unfold nms at *
      rw [List.map_take]
      simpa using this
    unfold wrongAt
    rw [(h.r r h2).good hn]; rfl
  unfold badOf
  rw [h1, h2]
theorem f_drawn_book (n : Nat) {k p : Nat} {st : List MO} (hv : VOk (k + 10000) p st) :
    ∃ (b : BkT) (st' : List MO), F__law_drawn_book (n + 4) [.obj p, .int 4, .int 8, .int 8] st = .ok (bkD b) st' ∧ VOk k p st' ∧ GBk b := by
  obtain ⟨xs, st1, e1, hv1, hx⟩ := f_drawn_states (n + 1) (k := k + 8000) (p := p) (hv.mono (by omega))
  rw [u__law_drawn_book]; unfold cs__law_drawn_book
  have hv1' : VOk (k + 7900 + 99 + 1) p st1 := hv1.mono (by omega)
  push_cast [c__law_heave, gt_of (α := W), gt_of (α := Nat), gt_of (α := StT), gt_of (α := RwT), c__law_drawn_states, e1]
  generalize hdr : F__law_heave _ _ _ = dr
  obtain ⟨r1, st2, rfl, h1, hv2⟩ := heave_of hdr (by assumption) (by omega) (by omega)
  push_cast [c__law_heave, gt_of (α := W), gt_of (α := Nat), gt_of (α := StT), gt_of (α := RwT)]
  obtain ⟨ws, st3, e3, hv3, hl, hnd, hok⟩ := f_call_words (n + 2) (k := k + 6000) (p := p) (many := r1) (barred := []) (hv2.mono (by omega)) (by omega) (by decide) (by decide)
  have hwl : ws.length ≤ 20 := by omega
  rw [List.map_nil] at e3
  push_cast [c__law_heave, gt_of (α := W), gt_of (α := Nat), gt_of (α := StT), gt_of (α := RwT), c__law_call_words, e3]
  generalize hX : lcL _ _ _ _ _ _ = X
  refine lc_use2 hX (fun a r s => ∃ (rs : List RwT) (st : List MO), a = rs.map rwD ∧ nms rs ++ r = ws ∧ (∀ x ∈ rs, GRow xs x) ∧ VOk (k + 200 * r.length) p st ∧
      s = ⟨[.val (.obj p), .val (.int 4), .val (.int 8), .val (.int 8), .val (.tup (xs.map stD)), .val (.lst (ws.map .str)), .none], st⟩)
    ⟨[], st3, rfl, rfl, by simp, hv3.mono (by omega), rfl⟩ ?_ ?_ ?_
  · rintro a r s ⟨rs, st, rfl, h2, h3, h4, rfl⟩; rfl
  · rintro w r a s ⟨rs, st, rfl, h2, h3, h4, rfl⟩
    rw [List.length_cons] at h4
    have hw : w ∈ ws := by rw [← h2]; simp
    obtain ⟨rw1, st4, e4, hv4, hnm, hg⟩ := f_drawn_row n (k := k + 200 * r.length) (p := p) (xs := xs) (t := w) (h4.mono (by omega)) hx (WT_word.mp (hok w hw).1)
    clear hX
    push_cast [c__law_heave, gt_of (α := W), gt_of (α := Nat), gt_of (α := StT), gt_of (α := RwT), c__law_drawn_row, e4, show ∀ s, esc s (rwD rw1) = .ok (rwD rw1) s from fun _ => rfl]
    refine ⟨_, _, rfl, rs ++ [rw1], st4, by simp, ?_, ?_, hv4, rfl⟩
    · rw [← h2, ← hnm]; simp [nms]
    · intro x hx
      rcases List.mem_append.mp hx with hx | hx
      · exact h3 x hx
      · rw [List.mem_singleton] at hx; subst hx; exact hg
  · rintro _ _ rfl ⟨rs, st4, rfl, h2, h3, h4, rfl⟩
    clear hX
    rw [List.append_nil] at h2
    have hrl : rs.length = ws.length := by rw [← h2]; simp [nms]
    push_cast [c__law_heave, gt_of (α := W), gt_of (α := Nat), gt_of (α := StT), gt_of (α := RwT)]
    exact ⟨(xs, rs), st4, rfl, h4.mono (by omega), hx, h3, h2 ▸ hnd, by show rs.length ≤ 20; omega⟩

/-- the rows of a shop -/
abbrev ShT := W × List W × List (List W) × W × List W
def shD (x : ShT) : D := .tup [.str x.1, .tup (x.2.1.map .str), .lst (x.2.2.1.map fun m => .tup (m.map .str)), .str x.2.2.2.1, .tup (x.2.2.2.2.map .str)]
def shopL : List ShT := [
  (z_hold, [z_free], [[z_at_free], [z_still], []], z_take_held, []),
  (z_pay, [z_my_held], [[z_mine, z_at_held], [z_mine], [z_same], [z_still], [z_at_held], []], z_take_sold, [z_keep]),
  (z_again, [z_others_held], [[z_over], [z_other, z_over], [z_still, z_over], []], z_take_held, []),
  (z_longer, [z_my_held], [[z_mine], [z_at_held], [z_same], [z_mine, z_running]], z_time, []),
  (z_letgo, [z_my_held, z_my_sold], [[z_mine], [z_mine, z_at_held], []], z_free, [z_refund]),
  (z_lapse, [], [[z_over], [z_at_held, z_over], [z_at_held]], z_free, [])]
def gr (xs : List StT) (r : RwT) : Bool := isWord r.1 && (decide (shOf r).Nodup && ((shOf r).all (viewsOf xs).contains && (decide ((shOf r).length ≤ 20) && (decide (loOf r).Nodup && ((loOf r).all (looksOf xs).contains && (decide ((loOf r).length ≤ 20) &&
  ((!(shOf r).isEmpty || (loOf r).all fun w => !SND.contains w) && ((deedsOf xs (shOf r).isEmpty).contains (deOf r) && (decide (maOf r).Nodup && ((maOf r).all MRK.contains && (decide ((maOf r).length ≤ 20) &&
  ((!(deOf r == z_free) || !(maOf r).contains z_new) && ((!(shOf r).isEmpty || !(maOf r).contains z_keep) && (!(deOf r == z_) || !(maOf r).isEmpty))))))))))))))
theorem gr_of {xs : List StT} {r : RwT} (h : gr xs r = true) : GRow xs r := by
  simp only [gr, Bool.and_eq_true, decide_eq_true_eq, List.all_eq_true, Bool.or_eq_true, Bool.not_eq_true', ← Bool.not_eq_true, List.contains_iff_mem, List.isEmpty_iff, beq_iff_eq] at h
  obtain ⟨h1, h2, h3, h4, h5, h6, h7, h8, h9, h10, h11, h12, h13, h14, h15⟩ := h
  refine ⟨WT_word.mp h1, h2, h3, h4, h5, h6, h7, fun e => ?_, h9, h10, h11, h12, fun e => ?_, fun e => ?_, fun e => ?_⟩
  · rcases h8 with h8 | h8
    · exact absurd e h8
    · exact h8
  · rcases h13 with h | h
    · exact absurd e h
    · exact h
  · rcases h14 with h | h
    · exact absurd e h
    · exact h
  · rcases h15 with h | h
    · exact absurd e h
    · exact h
def shopS (b : Bool) : List StT := [(z_held, b, false), (z_sold, false, true)]
theorem shop_ok : ∀ x ∈ shopL, (0 < x.2.2.1.length ∧ x.2.2.1.length ≤ 10) ∧ ∀ m ∈ x.2.2.1, ∀ b, gr (shopS b) (x.1, x.2.1, m, x.2.2.2.1, x.2.2.2.2) = true := by decide +kernel
theorem shop_nd : (shopL.map (·.1)).Nodup := by decide +kernel
theorem f_shop_book (n : Nat) {k p : Nat} {st : List MO} (hv : VOk (k + 100) p st) :
    ∃ (b : BkT) (st' : List MO), F__law_shop_book (n + 4) [.obj p] st = .ok (bkD b) st' ∧ VOk k p st' ∧ GBk b := by
  rw [u__law_shop_book]; unfold cs__law_shop_book
  push_cast [c__law_heave, gt_of (α := W), gt_of (α := Nat), gt_of (α := StT), gt_of (α := RwT)]
  generalize hX : forL _ _ _ _ = X
  refine loop_use (f := shD) (xs := shopL) hX (fun r s => ∃ (rs : List RwT) (st : List MO) (dn : List ShT) (a1 a2 a4 a5 a6 a7 : Sl), dn ++ r = shopL ∧ (nms rs).Sublist (dn.map (·.1)) ∧ (∀ x ∈ rs, ∀ b, GRow (shopS b) x) ∧ rs.length ≤ dn.length ∧ VOk (k + 2 * r.length + 1) p st ∧
      s = ⟨[.val (.obj p), a1, a2, .own (.lst (rs.map rwD)), a4, a5, a6, a7], st⟩)
    ⟨[], st, [], _, _, _, _, _, _, rfl, List.Sublist.refl _, by simp, by simp, hv.mono (by simp [shopL]), rfl⟩ ?_ ?_
  · rintro x r s hx ⟨rs, st, dn, a1, a2, a4, a5, a6, a7, h2, h3, h4, h5, h6, rfl⟩
    rw [List.length_cons] at h6
    have hdn : dn.length ≤ 6 := by
      have := congrArg List.length h2
      simp [shopL] at this; omega
    have h6' : VOk (k + 2 * r.length + 1 + 1 + 1) p st := h6.mono (by omega)
    obtain ⟨⟨hm1, hm2⟩, hm3⟩ := shop_ok x hx
    clear hX
    push_cast [c__law_heave, gt_of (α := W), gt_of (α := Nat), gt_of (α := StT), gt_of (α := RwT), shD]
    generalize hdr : F__law_heave _ _ _ = dr
    obtain ⟨r1, st1, rfl, h1, hv1⟩ := heave_of hdr (by assumption) (by omega) (by omega)
    push_cast [c__law_heave, gt_of (α := W), gt_of (α := Nat), gt_of (α := StT), gt_of (α := RwT)]
    by_cases h0 : (r1 : Int) > 0
    · push_cast [c__law_heave, gt_of (α := W), gt_of (α := Nat), gt_of (α := StT), gt_of (α := RwT), h0, decide_true]
      generalize hdr : F__law_heave _ _ _ = dr
      obtain ⟨r2, st2, rfl, h8, hv2⟩ := heave_of hdr (by assumption) (by omega) (by omega)
      push_cast [c__law_heave, gt_of (α := W), gt_of (α := Nat), gt_of (α := StT), gt_of (α := RwT)]
      have hr2 : r2 < x.2.2.1.length := by omega
      push_cast [c__law_heave, gt_of (α := W), gt_of (α := Nat), gt_of (α := StT), gt_of (α := RwT), gt_of (α := List W)]
      refine ⟨_, rfl, rs ++ [(x.1, x.2.1, gt x.2.2.1 r2, x.2.2.2.1, x.2.2.2.2)], st2, dn ++ [x], a1, .val (.lst (x.2.2.1.map fun m => .tup (m.map .str))), .val (.str x.1), .val (.tup (x.2.1.map .str)), .val (.str x.2.2.2.1), .val (.tup (x.2.2.2.2.map .str)), by simpa using h2, ?_, ?_, by simp; omega, hv2.mono (by omega), ?_⟩
      · simp only [nms, List.map_append, List.map_cons, List.map_nil]
        exact h3.append (List.Sublist.refl _)
      · intro y hy
        rcases List.mem_append.mp hy with hy | hy
        · exact h4 y hy
        · rw [List.mem_singleton] at hy; subst hy
          exact fun b => gr_of (hm3 _ (gt_mem hr2) b)
      · rw [List.map_append]; rfl
    · push_cast [c__law_heave, gt_of (α := W), gt_of (α := Nat), gt_of (α := StT), gt_of (α := RwT), h0, decide_false]
      refine ⟨_, rfl, rs, st1, dn ++ [x], _, _, _, _, _, _, by simpa using h2, ?_, h4, by simp; omega, hv1.mono (by omega), rfl⟩
      rw [List.map_append]
      exact h3.trans (List.sublist_append_left ..)
  · rintro _ rfl ⟨rs, st, dn, a1, a2, a4, a5, a6, a7, h2, h3, h4, h5, h6, rfl⟩
    clear hX
    rw [List.append_nil] at h2
    subst h2
    have h6' : VOk (k + 1) p st := h6.mono (by omega)
    push_cast [c__law_heave, gt_of (α := W), gt_of (α := Nat), gt_of (α := StT), gt_of (α := RwT)]
    generalize hdr : F__law_heave _ _ _ = dr
    obtain ⟨r1, st1, rfl, h1, hv1⟩ := heave_of hdr (by assumption) (by omega) (by omega)
    push_cast [c__law_heave, gt_of (α := W), gt_of (α := Nat), gt_of (α := StT), gt_of (α := RwT)]
    refine ⟨(shopS (decide ((r1 : Int) > 0)), rs), st1, rfl, hv1, ?_, fun r hr => h4 r hr _, ?_, ?_⟩
    · have : ∀ b, GSt (shopS b) := by
        intro b
        constructor
        · cases b <;> intro x hx <;> simp only [shopS, List.mem_cons, List.not_mem_nil, or_false] at hx <;> rcases hx with rfl | rfl <;> exact ⟨by decide, by decide, by decide⟩
        · cases b <;> decide
        · cases b <;> decide
        · cases b <;> decide
        · cases b <;> decide
        · cases b <;> decide
      exact this _
    · exact h3.nodup shop_nd
    · exact Nat.le_trans h5 (by decide)

set_option Elab.async false
set_option linter.all false
set_option maxRecDepth 100000
structure RN (m : Nat) (r : RwT) : Prop where
  n : WB 40 r.1 = true
  sl : r.2.1.length ≤ m
  s : r.2.1.all (WB 40) = true
  ll : r.2.2.1.length ≤ m
  l : r.2.2.1.all (WB 40) = true
  d : WB 40 r.2.2.2.1 = true
  ml : r.2.2.2.2.length ≤ m
  m : r.2.2.2.2.all (WB 40) = true
structure BN (m : Nat) (b : BkT) : Prop where
  s : b.1.all stB = true
  sl : b.1.length ≤ m
  r : ∀ r ∈ b.2, RN m r
  rl : b.2.length ≤ m
theorem RN.up {m k : Nat} {r : RwT} (h : RN m r) (hk : m ≤ k) : RN k r := ⟨h.n, Nat.le_trans h.sl hk, h.s, Nat.le_trans h.ll hk, h.l, h.d, Nat.le_trans h.ml hk, h.m⟩
theorem BN.bk {m : Nat} {b : BkT} (h : BN m b) (hm : m ≤ 100) : bkB b :=
  ⟨h.s, Nat.le_trans h.sl hm, fun r hr => by have q := (h.r r hr).up hm; exact ⟨q.n, q.sl, q.s, q.ll, q.l, q.d, q.ml, q.m⟩, Nat.le_trans h.rl hm⟩
theorem GBk.bn {b : BkT} (h : GBk b) : BN 20 b := ⟨h.s.b, h.s.len, fun r hr => by
  have g := h.r r hr
  have q := g.b h.s
  exact ⟨q.1, g.s3, q.2.2.1, g.l3, q.2.2.2.2.1, q.2.2.2.2.2.1, g.m3, q.2.2.2.2.2.2.2⟩, h.len⟩
abbrev SGN : W := z__21_22_23_24_26_27_28_29_2a__65324
def oddL (r : Nat) : List W := [z_, z_free, z_a_b, z_aB, z_a1, z_abcdefghijklm, z_at, z_my, z_take_held, z_time, z_new, z_mine, z_still] ++ [z_keep, z_over, z_my_free, z_others_free, z_at_free, z_move_free, z_take_free] ++ [z_refund, z_let_5fgo, z_x_7e] ++ [z_a_7bb, z_on_7c, z__60a, z_my_held_held, z_at_held_held, z_take_held_held, z_paid_2c, z__free] ++ [z_a ++ [gt SGN r] ++ z_b]
theorem odd_ok : ∀ r, r < 42 → (oddL r).all (WB 40) = true ∧ (oddL r).length = 32 := by decide +kernel
theorem at_of {α : Type} {xs : List α} {r : Nat} (h : r < xs.length) : ∃ x, xs[r]? = some x ∧ x ∈ xs := ⟨_, List.getElem?_eq_getElem h, List.getElem_mem h⟩
theorem ok_rws {n m : Nat} {rs : List RwT} (h : ∀ r ∈ rs, RN m r) : (rs.map rwD).all (okn (n + 2)) = true := by
  simp only [List.all_map, List.all_eq_true]
  intro r hr
  have g := h r hr
  simp only [Function.comp, rwD, okn_tup, List.all_cons, List.all_nil, okn_str (WC_of g.n), okn_str (WC_of g.d), okn_strs _ (WCs_of g.s), okn_strs _ (WCs_of g.l), okn_strs _ (WCs_of g.m), Bool.and_self]
theorem st_mid {xs : List StT} {e : StT} {k : Nat} : (xs.take k).map stD ++ [stD e] ++ (xs.drop k).map stD = (xs.take k ++ [e] ++ xs.drop k).map stD := by simp
theorem rw_mid {xs : List RwT} {e : RwT} {k j : Nat} : (xs.take k).map rwD ++ [rwD e] ++ (xs.drop j).map rwD = (xs.take k ++ [e] ++ xs.drop j).map rwD := by simp
theorem f_bent_book (n : Nat) {k p m : Nat} {b : BkT} {st : List MO} (hv : VOk (k + 30) p st) (hb : BN m b) (hm : m ≤ 45) (hne : 0 < b.1.length) :
    ∃ (b' : BkT) (st' : List MO), F__law_bent_book (n + 1) [.obj p, bkD b] st = .ok (bkD b') st' ∧ VOk k p st' ∧ BN (2 * m + 1) b' := by
  rw [u__law_bent_book]; unfold cs__law_bent_book
  have hv0 : VOk (k + 29 + 1) p st := hv
  have hsB := hb.s
  have hsl := hb.sl
  have hrl := hb.rl
  have hkr := ok_rws (n := 57) hb.r
  push_cast [c__law_heave, gt_of (α := W), gt_of (α := Nat), gt_of (α := StT), gt_of (α := RwT), bkD]
  generalize hdr : F__law_heave _ _ _ = dr
  obtain ⟨r1, st1, rfl, h1, hv1⟩ := heave_of hdr (by assumption) (by omega) (by omega)
  push_cast [c__law_heave, gt_of (α := W), gt_of (α := Nat), gt_of (α := StT), gt_of (α := RwT)]
  have hr1 : r1 < SGN.length := by show r1 < 42; omega
  have hodd := odd_ok r1 (by omega)
  have hv1' : VOk (k + 28 + 1) p st1 := hv1
  generalize hdr : F__law_heave _ _ _ = dr
  obtain ⟨r2, st2, rfl, h2, hv2⟩ := heave_of hdr (by assumption) (by omega) (by omega)
  push_cast [c__law_heave, gt_of (α := W), gt_of (α := Nat), gt_of (α := StT), gt_of (α := RwT)]
  have hbadB : WB 40 (gt (oddL r1) r2) = true := gt_all hodd.1 (by rw [hodd.2]; omega)
  obtain ⟨od, hod⟩ : ∃ od, oddL r1 = od := ⟨_, rfl⟩
  rw [hod] at hbadB
  obtain ⟨bad, hbd⟩ : ∃ bad, gt od r2 = bad := ⟨_, rfl⟩
  rw [hbd] at hbadB
  unfold oddL at hod
  simp only [hod, hbd]
  have hv2' : VOk (k + 27 + 1) p st2 := hv2
  generalize hdr : F__law_heave _ _ _ = dr
  obtain ⟨r3, st3, rfl, h3, hv3⟩ := heave_of hdr (by assumption) (by omega) (by omega)
  push_cast [c__law_heave, gt_of (α := W), gt_of (α := Nat), gt_of (α := StT), gt_of (α := RwT)]
  have hv3' : VOk (k + 26 + 1) p st3 := hv3
  by_cases hc : ((r3 : Int) == 0 || b.2.isEmpty) = true
  · push_cast [c__law_heave, gt_of (α := W), gt_of (α := Nat), gt_of (α := StT), gt_of (α := RwT), hc]
    generalize hdr : F__law_heave _ _ _ = dr
    obtain ⟨r4, st4, rfl, h4, hv4⟩ := heave_of hdr (by assumption) (by omega) (by omega)
    push_cast [c__law_heave, gt_of (α := W), gt_of (α := Nat), gt_of (α := StT), gt_of (α := RwT)]
    have hr4 : r4 < b.1.length := by omega
    have hg4 : stB (gt b.1 r4) = true := gt_all hsB hr4
    push_cast [c__law_heave, gt_of (α := W), gt_of (α := Nat), gt_of (α := StT), gt_of (α := RwT), stD]
    have hv4' : VOk (k + 25 + 1) p st4 := hv4
    generalize hdr : F__law_heave _ _ _ = dr
    obtain ⟨r5, st5, rfl, h5, hv5⟩ := heave_of hdr (by assumption) (by omega) (by omega)
    push_cast [c__law_heave, gt_of (α := W), gt_of (α := Nat), gt_of (α := StT), gt_of (α := RwT)]
    have hv5' : VOk (k + 24 + 1) p st5 := hv5
    generalize hdr : F__law_heave _ _ _ = dr
    obtain ⟨r6, st6, rfl, h6, hv6⟩ := heave_of hdr (by assumption) (by omega) (by omega)
    push_cast [c__law_heave, gt_of (α := W), gt_of (α := Nat), gt_of (α := StT), gt_of (α := RwT)]
    generalize hE : ((_ : List D)[(_ : Nat)]?) = E
    obtain ⟨e, rfl, heB⟩ : ∃ e : StT, E = some (stD e) ∧ stB e = true := by
      have : r6 = 0 ∨ r6 = 1 ∨ r6 = 2 ∨ r6 = 3 := by omega
      rcases this with rfl | rfl | rfl | rfl
      · exact ⟨(bad, false, false), hE.symm, hbadB⟩
      · exact ⟨gt b.1 r4, hE.symm, hg4⟩
      · exact ⟨((gt b.1 r4).1, true, true), hE.symm, hg4⟩
      · exact ⟨(z_free, false, true), hE.symm, by decide⟩
    clear hE
    have hv6' : VOk (k + 23 + 1) p st6 := hv6
    push_cast [c__law_heave, gt_of (α := W), gt_of (α := Nat), gt_of (α := StT), gt_of (α := RwT), show ∀ s, esc s (stD e) = .ok (stD e) s from fun _ => rfl, st_mid]
    generalize hdr : F__law_heave _ _ _ = dr
    obtain ⟨r7, st7, rfl, h7, hv7⟩ := heave_of hdr (by assumption) (by omega) (by omega)
    push_cast [c__law_heave, gt_of (α := W), gt_of (α := Nat), gt_of (α := StT), gt_of (α := RwT)]
    generalize hE : ((_ : List D)[(_ : Nat)]?) = E
    obtain ⟨ys, rfl, hyB, hyl⟩ : ∃ ys : List StT, E = some (.tup (ys.map stD)) ∧ ys.all stB = true ∧ ys.length ≤ 2 * m + 1 := by
      have : r7 = 0 ∨ r7 = 1 ∨ r7 = 2 ∨ r7 = 3 := by omega
      rcases this with rfl | rfl | rfl | rfl
      · refine ⟨b.1.take r5 ++ [e] ++ b.1.drop r5, hE.symm, all_app (all_app (all_take hsB) (all_cons' heB rfl)) (all_drop hsB), ?_⟩
        simp only [List.length_append, List.length_take, List.length_drop, List.length_singleton]; omega
      · refine ⟨b.1.take r4 ++ b.1.drop (r4 + 1), hE.symm, all_app (all_take hsB) (all_drop hsB), ?_⟩
        simp only [List.length_append, List.length_take, List.length_drop]; omega
      · exact ⟨[], hE.symm, rfl, by simp⟩
      · refine ⟨b.1.reverse, hE.symm, by rw [List.all_reverse]; exact hsB, by rw [List.length_reverse]; omega⟩
    clear hE
    push_cast [c__law_heave, gt_of (α := W), gt_of (α := Nat), gt_of (α := StT), gt_of (α := RwT)]
    exact ⟨(ys, b.2), st7, rfl, hv7.mono (by omega), hyB, hyl, fun r hr => (hb.r r hr).up (by omega), by show b.2.length ≤ _; omega⟩
  · have hc' := hc
    simp only [Bool.or_eq_true, not_or] at hc'
    simp only [Bool.not_eq_true] at hc
    have hrl0 : 0 < b.2.length := by
      cases hz : b.2 with
      | nil => rw [hz] at hc'; exact absurd rfl hc'.2
      | cons x y => simp
    push_cast [c__law_heave, gt_of (α := W), gt_of (α := Nat), gt_of (α := StT), gt_of (α := RwT), hc]
    generalize hdr : F__law_heave _ _ _ = dr
    obtain ⟨r4, st4, rfl, h4, hv4⟩ := heave_of hdr (by assumption) (by omega) (by omega)
    push_cast [c__law_heave, gt_of (α := W), gt_of (α := Nat), gt_of (α := StT), gt_of (α := RwT)]
    have hr4 : r4 < b.2.length := by omega
    have hg4 := hb.r _ (gt_mem hr4)
    obtain ⟨rw4, hrw4⟩ : ∃ r, gt b.2 r4 = r := ⟨_, rfl⟩
    rw [hrw4] at hg4
    obtain ⟨g1, g2, g3, g4, g5, g6, g7, g8⟩ := hg4
    push_cast [c__law_heave, gt_of (α := W), gt_of (α := Nat), gt_of (α := StT), gt_of (α := RwT), hrw4, rwD]
    generalize hX : lcL _ _ _ _ _ _ = X
    refine lc_use2 (f := fun ws => .tup (ws.map .str)) (xs := [rw4.2.1, rw4.2.2.1, rw4.2.2.2.2]) hX (fun a r s => ∃ (is : List Nat) (st : List MO), a = is.map (fun i => .int (i : Int)) ∧ is.length + r.length = 3 ∧ (∀ x ∈ r, x.length ≤ m) ∧ VOk (k + 20 + r.length) p st ∧
        s = ⟨[.val (.obj p), .val (.tup [.tup (b.1.map stD), .tup (b.2.map rwD)]), .val (.tup (b.1.map stD)), .val (.tup (b.2.map rwD)), .own (.lst (od.map .str)), .val (.str bad), .val (.int (r4:Int)), .none, .none, .none, .val (.str rw4.1), .val (.tup (rw4.2.1.map .str)), .val (.tup (rw4.2.2.1.map .str)), .val (.str rw4.2.2.2.1), .val (.tup (rw4.2.2.2.2.map .str)), .none, .none, .none, .none], st⟩) ?_ ?_ ?_ ?_
    · refine ⟨[], st4, rfl, rfl, ?_, hv4.mono (by simp), rfl⟩
      intro x hx
      simp only [List.mem_cons, List.not_mem_nil, or_false] at hx
      rcases hx with rfl | rfl | rfl
      · exact g2
      · exact g4
      · exact g7
    · rintro a r s ⟨is, st, rfl, q1, q2, q3, rfl⟩; rfl
    · rintro x r a s ⟨is, st, rfl, q1, q2, q3, rfl⟩
      rw [List.length_cons] at q1 q3
      have hxl : x.length ≤ m := q2 x (List.mem_cons_self ..)
      have q3' : VOk (k + 20 + r.length + 1) p st := q3
      clear hX
      push_cast [c__law_heave, gt_of (α := W), gt_of (α := Nat), gt_of (α := StT), gt_of (α := RwT)]
      generalize hdr : F__law_heave _ _ _ = dr
      obtain ⟨i, si, rfl, h5, hv5⟩ := heave_of hdr (by assumption) (by omega) (by omega)
      push_cast [c__law_heave, gt_of (α := W), gt_of (α := Nat), gt_of (α := StT), gt_of (α := RwT)]
      exact ⟨_, _, rfl, is ++ [i], si, by simp, by simp; omega, fun y hy => q2 y (List.mem_cons_of_mem _ hy), hv5, rfl⟩
    rintro _ _ rfl ⟨is, st5, rfl, q1, q2, q3, rfl⟩
    clear hX
    obtain ⟨i0, i1, i2, rfl⟩ : ∃ i0 i1 i2, is = [i0, i1, i2] := by
      rcases is with _ | ⟨a, _ | ⟨b, _ | ⟨c, _ | ⟨d, r⟩⟩⟩⟩ <;> simp at q1
      exact ⟨a, b, c, rfl⟩
    have q3' : VOk (k + 19 + 1) p st5 := q3.mono (by simp)
    push_cast [c__law_heave, gt_of (α := W), gt_of (α := Nat), gt_of (α := StT), gt_of (α := RwT), List.map_cons, List.map_nil]
    generalize hdr : F__law_heave _ _ _ = dr
    obtain ⟨r5, st6, rfl, h5, hv5⟩ := heave_of hdr (by assumption) (by omega) (by omega)
    push_cast [c__law_heave, gt_of (α := W), gt_of (α := Nat), gt_of (α := StT), gt_of (α := RwT)]
    have hr5 : r5 < b.2.length := by omega
    have hg5 := hb.r _ (gt_mem hr5)
    obtain ⟨rw5, hrw5⟩ : ∃ r, gt b.2 r5 = r := ⟨_, rfl⟩
    rw [hrw5] at hg5
    obtain ⟨k1, k2, k3, k4, k5, k6, k7, k8⟩ := hg5
    push_cast [c__law_heave, gt_of (α := W), gt_of (α := Nat), gt_of (α := StT), gt_of (α := RwT), hrw4, hrw5, rwD]
    simp only [List.length_cons, List.length_nil, Nat.zero_add, Nat.reduceAdd]
    have hv5' : VOk (k + 18 + 1) p st6 := hv5
    generalize hdr : F__law_heave _ _ _ = dr
    obtain ⟨r6, st7, rfl, h6, hv6⟩ := heave_of hdr (by assumption) (by omega) (by omega)
    push_cast [c__law_heave, gt_of (α := W), gt_of (α := Nat), gt_of (α := StT), gt_of (α := RwT)]
    generalize hE : ((_ : List D)[(_ : Nat)]?) = E
    obtain ⟨e, rfl, heB⟩ : ∃ e : RwT, E = some (rwD e) ∧ RN (2 * m + 1) e := by
      have : r6 = 0 ∨ r6 = 1 ∨ r6 = 2 ∨ r6 = 3 ∨ r6 = 4 ∨ r6 = 5 ∨ r6 = 6 ∨ r6 = 7 ∨ r6 = 8 ∨ r6 = 9 ∨ r6 = 10 ∨ r6 = 11 := by omega
      have hb1 : [bad].all (WB 40) = true := all_cons' hbadB rfl
      rcases this with rfl | rfl | rfl | rfl | rfl | rfl | rfl | rfl | rfl | rfl | rfl | rfl
      · exact ⟨(bad, rw4.2.1, rw4.2.2.1, rw4.2.2.2.1, rw4.2.2.2.2), hE.symm, ⟨hbadB, by show rw4.2.1.length ≤ _; omega, g3, by show rw4.2.2.1.length ≤ _; omega, g5, g6, by show rw4.2.2.2.2.length ≤ _; omega, g8⟩⟩
      · exact ⟨(rw4.1, rw4.2.1.take i0 ++ [bad] ++ rw4.2.1.drop i0, rw4.2.2.1, rw4.2.2.2.1, rw4.2.2.2.2), hE.symm, ⟨g1, by simp only [List.length_append, List.length_take, List.length_drop, List.length_singleton]; omega, all_app (all_app (all_take g3) hb1) (all_drop g3), by show rw4.2.2.1.length ≤ _; omega, g5, g6, by show rw4.2.2.2.2.length ≤ _; omega, g8⟩⟩
      · exact ⟨(rw4.1, rw4.2.1, rw4.2.2.1.take i1 ++ [bad] ++ rw4.2.2.1.drop i1, rw4.2.2.2.1, rw4.2.2.2.2), hE.symm, ⟨g1, by show rw4.2.1.length ≤ _; omega, g3, by simp only [List.length_append, List.length_take, List.length_drop, List.length_singleton]; omega, all_app (all_app (all_take g5) hb1) (all_drop g5), g6, by show rw4.2.2.2.2.length ≤ _; omega, g8⟩⟩
      · exact ⟨(rw4.1, rw4.2.1, rw4.2.2.1, bad, rw4.2.2.2.2), hE.symm, ⟨g1, by show rw4.2.1.length ≤ _; omega, g3, by show rw4.2.2.1.length ≤ _; omega, g5, hbadB, by show rw4.2.2.2.2.length ≤ _; omega, g8⟩⟩
      · exact ⟨(rw4.1, rw4.2.1, rw4.2.2.1, rw4.2.2.2.1, rw4.2.2.2.2.take i2 ++ [bad] ++ rw4.2.2.2.2.drop i2), hE.symm, ⟨g1, by show rw4.2.1.length ≤ _; omega, g3, by show rw4.2.2.1.length ≤ _; omega, g5, g6, by simp only [List.length_append, List.length_take, List.length_drop, List.length_singleton]; omega, all_app (all_app (all_take g8) hb1) (all_drop g8)⟩⟩
      · exact ⟨(rw4.1, [], rw4.2.2.1, rw4.2.2.2.1, rw4.2.2.2.2), hE.symm, ⟨g1, Nat.zero_le _, rfl, by show rw4.2.2.1.length ≤ _; omega, g5, g6, by show rw4.2.2.2.2.length ≤ _; omega, g8⟩⟩
      · exact ⟨(rw4.1, rw4.2.1, rw4.2.2.1, z_, []), hE.symm, ⟨g1, by show rw4.2.1.length ≤ _; omega, g3, by show rw4.2.2.1.length ≤ _; omega, g5, (by show WB 40 z_ = true; decide), Nat.zero_le _, rfl⟩⟩
      · exact ⟨(rw5.1, rw4.2.1, rw4.2.2.1, rw4.2.2.2.1, rw4.2.2.2.2), hE.symm, ⟨k1, by show rw4.2.1.length ≤ _; omega, g3, by show rw4.2.2.1.length ≤ _; omega, g5, g6, by show rw4.2.2.2.2.length ≤ _; omega, g8⟩⟩
      · exact ⟨(rw4.1, rw4.2.1 ++ rw4.2.1.take 1, rw4.2.2.1, rw4.2.2.2.1, rw4.2.2.2.2), hE.symm, ⟨g1, by simp only [List.length_append, List.length_take]; omega, all_app g3 (all_take g3), by show rw4.2.2.1.length ≤ _; omega, g5, g6, by show rw4.2.2.2.2.length ≤ _; omega, g8⟩⟩
      · exact ⟨(rw4.1, rw4.2.1, rw5.2.2.1, rw4.2.2.2.1, rw4.2.2.2.2), hE.symm, ⟨g1, by show rw4.2.1.length ≤ _; omega, g3, by show rw5.2.2.1.length ≤ _; omega, k5, g6, by show rw4.2.2.2.2.length ≤ _; omega, g8⟩⟩
      · exact ⟨(rw4.1, rw4.2.1, rw4.2.2.1, rw5.2.2.2.1, rw4.2.2.2.2), hE.symm, ⟨g1, by show rw4.2.1.length ≤ _; omega, g3, by show rw4.2.2.1.length ≤ _; omega, g5, k6, by show rw4.2.2.2.2.length ≤ _; omega, g8⟩⟩
      · exact ⟨(rw4.1, rw4.2.1, rw4.2.2.1, rw4.2.2.2.1, rw5.2.2.2.2 ++ rw4.2.2.2.2), hE.symm, ⟨g1, by show rw4.2.1.length ≤ _; omega, g3, by show rw4.2.2.1.length ≤ _; omega, g5, g6, by simp only [List.length_append]; omega, all_app k8 g8⟩⟩
    clear hE
    have hv6' : VOk (k + 17 + 1) p st7 := hv6
    push_cast [c__law_heave, gt_of (α := W), gt_of (α := Nat), gt_of (α := StT), gt_of (α := RwT), show ∀ s, esc s (rwD e) = .ok (rwD e) s from fun _ => rfl, rw_mid]
    generalize hdr : F__law_heave _ _ _ = dr
    obtain ⟨r7, st8, rfl, h7, hv7⟩ := heave_of hdr (by assumption) (by omega) (by omega)
    push_cast [c__law_heave, gt_of (α := W), gt_of (α := Nat), gt_of (α := StT), gt_of (α := RwT)]
    generalize hE : ((_ : List D)[(_ : Nat)]?) = E
    have hbR : ∀ r ∈ b.2, RN (2 * m + 1) r := fun r hr => (hb.r r hr).up (by omega)
    obtain ⟨ys, rfl, hyB, hyl⟩ : ∃ ys : List RwT, E = some (.tup (ys.map rwD)) ∧ (∀ r ∈ ys, RN (2 * m + 1) r) ∧ ys.length ≤ 2 * m + 1 := by
      have : r7 = 0 ∨ r7 = 1 := by omega
      have hmem : ∀ i j, ∀ r ∈ b.2.take i ++ [e] ++ b.2.drop j, RN (2 * m + 1) r := by
        intro i j r hr
        rcases List.mem_append.mp hr with hr | hr
        · rcases List.mem_append.mp hr with hr | hr
          · exact hbR r (List.mem_of_mem_take hr)
          · rw [List.mem_singleton] at hr; subst hr; exact heB
        · exact hbR r (List.mem_of_mem_drop hr)
      rcases this with rfl | rfl
      · exact ⟨b.2.take r4 ++ [e] ++ b.2.drop (r4 + 1), hE.symm, hmem _ _, by simp only [List.length_append, List.length_take, List.length_drop, List.length_singleton]; omega⟩
      · exact ⟨b.2.take r4 ++ [e] ++ b.2.drop r4, hE.symm, hmem _ _, by simp only [List.length_append, List.length_take, List.length_drop, List.length_singleton]; omega⟩
    clear hE
    push_cast [c__law_heave, gt_of (α := W), gt_of (α := Nat), gt_of (α := StT), gt_of (α := RwT)]
    exact ⟨(b.1, ys), st8, rfl, hv7.mono (by omega), hsB, by show b.1.length ≤ _; omega, hyB, hyl⟩

set_option Elab.async false
set_option linter.all false
set_option maxRecDepth 100000
theorem joinS_L {y : W} {zs : List W} : joinS y zs = TL.joinL y zs := by
  unfold joinS
  have e : PySem.Txt.join (sv y) (zs.map sv) = SX.S (TL.joinL y zs) := SX.join_S y zs
  rw [e]
theorem WB_join {y : W} {zs : List W} {k m : Nat} (hz : zs.all (WB k) = true) (hy : WB m y = true) : WB (zs.length * (k + m)) (joinS y zs) = true := by
  rw [joinS_L]
  induction zs with
  | nil => rfl
  | cons p r ih =>
    rw [List.all_cons, Bool.and_eq_true] at hz
    cases r with
    | nil => exact WB_up hz.1 (by simp)
    | cons q r =>
      refine WB_app (m := m + (q :: r).length * (k + m)) hz.1 (WB_app hy (ih hz.2) (Nat.le_refl _)) ?_
      rw [List.length_cons (a := p), Nat.add_mul]; omega
theorem joinOk_of {y : W} {zs : List W} {k n : Nat} (hz : zs.all (WB k) = true) (hn : zs.length ≤ n) (hb : n * (k + y.length) ≤ big) : joinOk y zs = true := by
  have h : ∀ zs : List W, zs.all (WB k) = true → (zs.map (·.length)).sum ≤ zs.length * k := by
    intro zs hz
    induction zs with
    | nil => simp
    | cons z zs ih =>
      rw [List.all_cons, Bool.and_eq_true] at hz
      have := ih hz.2
      have := WB_len hz.1
      simp only [List.map_cons, List.sum_cons, List.length_cons, Nat.add_mul]; omega
  simp only [joinOk, decide_eq_true_eq]
  have h2 : zs.length * k + zs.length * y.length ≤ n * (k + y.length) := by
    rw [← Nat.mul_add]; exact Nat.mul_le_mul_right _ hn
  exact Nat.le_trans (Nat.add_le_add_right (h zs hz) _) (Nat.le_trans h2 hb)
theorem me_joinl {y : W} {ws : List W} : meD .join y (.lst (ws.map .str)) = if joinOk y ws then some (.str (joinS y ws)) else none := by
  rw [me_join, strs_map]; rfl
theorem me_joint {y : W} {ws : List W} : meD .join y (.tup (ws.map .str)) = if joinOk y ws then some (.str (joinS y ws)) else none := by
  show (strsD (ws.map .str)).bind _ = _
  rw [strs_map]; rfl
def stateText (x : StT) : W := if x.2.1 = true then x.1 ++ z__ ++ z_timed else if x.2.2 = true then x.1 ++ z__ ++ z_sold else x.1
def statesText (xs : List StT) : W := z_states_3a_ ++ joinS z__2c_ (xs.map stateText)
def listed (ws : List W) : W := if (!ws.isEmpty) = true then z__ ++ joinS z__2c_ ws else z_
def actsOf (r : RwT) : List W := if (deOf r == z_) = true then maOf r else deOf r :: maOf r
def rowText (r : RwT) : W := nmOf r ++ z__3a ++ listed (shOf r) ++ z___3f ++ listed (loOf r) ++ z___21 ++ listed (actsOf r)
def linesOf (b : BkT) : List W := statesText b.1 :: b.2.map rowText
def bookText (b : BkT) : W := joinS z_ ((linesOf b).map (· ++ z__a))
theorem stateText_B {x : StT} (h : WB 40 x.1 = true) : WB 46 (stateText x) = true := by
  unfold stateText
  split
  · exact WB_app (WB_app h (m := 1) (by decide) (Nat.le_refl _)) (m := 5) (by decide) (by decide)
  · split
    · exact WB_app (WB_app h (m := 1) (by decide) (Nat.le_refl _)) (m := 5) (by decide) (by decide)
    · exact WB_up h (by decide)
theorem states_all {xs : List StT} (h : xs.all stB = true) : (xs.map stateText).all (WB 46) = true := all_map' fun x hx => stateText_B (mem_all h hx)
theorem statesText_B {xs : List StT} (h : xs.all stB = true) (hn : xs.length ≤ 83) : WB 4000 (statesText xs) = true := by
  refine WB_app (k := 8) (by decide) (WB_join (m := 2) (states_all h) (by decide)) ?_
  rw [List.length_map]; omega
theorem listed_B {ws : List W} (h : ws.all (WB 40) = true) {n k : Nat} (hn : ws.length ≤ n) (hk : n * 42 + 1 ≤ k) : WB k (listed ws) = true := by
  unfold listed
  split
  · refine WB_app (k := 1) (by decide) (WB_join (m := 2) h (by decide)) ?_
    have := Nat.mul_le_mul_right 42 hn
    omega
  · exact WB_up (k := 0) (by decide) (Nat.zero_le _)
theorem f_state_text (n : Nat) (x : StT) (st : List MO) (h : WB 40 x.1 = true) : F_state_text n [stD x] st = .ok (.str (stateText x)) st := by
  rw [u_state_text]; unfold cs_state_text
  push_cast [c__law_heave, gt_of (α := W), gt_of (α := Nat), gt_of (α := StT), gt_of (α := RwT), stD]
  rfl
theorem f_states_text (n : Nat) (xs : List StT) (st : List MO) (h : xs.all stB = true) (hn : xs.length ≤ 100) : F_states_text (n + 1) [.tup (xs.map stD)] st = .ok (.str (statesText xs)) st := by
  have h1 := states_all h
  have hj : joinOk z__2c_ (xs.map stateText) = true := joinOk_of (n := 100) h1 (by rw [List.length_map]; exact hn) (by decide)
  have h2 := WB_join (y := z__2c_) (m := 2) h1 (by decide)
  have h3 : (xs.map stateText).length = xs.length := List.length_map ..
  have h4 : WB 4800 (joinS z__2c_ (xs.map stateText)) = true := WB_up h2 (by rw [h3]; omega)
  rw [u_states_text]; unfold cs_states_text
  push_cast [c__law_heave, gt_of (α := W), gt_of (α := Nat), gt_of (α := StT), gt_of (α := RwT), show ∀ s x, esc s (stD x) = .ok (stD x) s from fun _ _ => rfl, c_state_text, f_state_text, me_joinl]
  rfl
theorem f_listed (n : Nat) (ws : List W) (st : List MO) (h : ws.all (WB 40) = true) (hn : ws.length ≤ 110) : F_listed n [.tup (ws.map .str)] st = .ok (.str (listed ws)) st := by
  have hj : joinOk z__2c_ ws = true := joinOk_of (n := 110) h hn (by decide)
  have h2 := WB_join (y := z__2c_) (m := 2) h (by decide)
  have h4 : WB 4700 (joinS z__2c_ ws) = true := WB_up h2 (by omega)
  rw [u_listed]; unfold cs_listed
  push_cast [c__law_heave, gt_of (α := W), gt_of (α := Nat), gt_of (α := StT), gt_of (α := RwT), me_joint]
  rfl
theorem acts_B {r : RwT} {m : Nat} (h : RN m r) : (actsOf r).all (WB 40) = true ∧ (actsOf r).length ≤ m + 1 := by
  unfold actsOf
  split
  · exact ⟨h.m, Nat.le_succ_of_le h.ml⟩
  · exact ⟨all_cons' h.d h.m, Nat.succ_le_succ h.ml⟩
theorem rowText_B {r : RwT} (h : RN 83 r) : WB 10600 (rowText r) = true := by
  obtain ⟨ha, hl⟩ := acts_B h
  refine WB_app (WB_app (WB_app (WB_app (WB_app (WB_app h.n (m := 1) (by decide) (Nat.le_refl _)) (listed_B h.s h.sl (k := 3487) (by decide)) (Nat.le_refl _)) (m := 2) (by decide) (Nat.le_refl _)) (listed_B h.l h.ll (k := 3487) (by decide)) (Nat.le_refl _)) (m := 2) (by decide) (Nat.le_refl _)) (listed_B ha hl (k := 3530) (by decide)) (by decide)
theorem esc_tup2 {s : DS} {p : Prop} {inst : Decidable p} {x y : List D} : esc s (.tup (if p then x else y)) = .ok (.tup (if p then x else y)) s := rfl
theorem f_row_text (n : Nat) (r : RwT) (st : List MO) (h : RN 83 r) : F_row_text (n + 1) [rwD r] st = .ok (.str (rowText r)) st := by
  obtain ⟨ha, hal⟩ := acts_B h
  obtain ⟨h1, h2, h3, h4, h5, h6, h7, h8⟩ := h
  have q1 := listed_B h3 h2 (k := 3487) (by decide)
  have q2 := listed_B h5 h4 (k := 3487) (by decide)
  have q3 := listed_B ha hal (k := 3530) (by decide)
  have ha2 : (actsOf r).length ≤ 110 := by omega
  have h2' : r.2.1.length ≤ 110 := by omega
  have h4' : r.2.2.1.length ≤ 110 := by omega
  have hw1 := WB_len h1
  have hw2 := WB_len q1
  have hw3 := WB_len q2
  have hw4 := WB_len q3
  have ea : (if (r.2.2.2.1 == z_) = true then r.2.2.2.2 else r.2.2.2.1 :: r.2.2.2.2) = actsOf r := rfl
  rw [u_row_text]; unfold cs_row_text
  push_cast [c__law_heave, gt_of (α := W), gt_of (α := Nat), gt_of (α := StT), gt_of (α := RwT), rwD, ea, c_listed, f_listed]
  rfl
theorem lines_B {b : BkT} (h : BN 83 b) : (linesOf b).all (WB 10600) = true ∧ (linesOf b).length ≤ 84 := by
  refine ⟨all_cons' (WB_up (statesText_B h.s h.sl) (by decide)) (all_map' fun r hr => rowText_B (h.r r hr)), ?_⟩
  simp only [linesOf, List.length_cons, List.length_map]
  have := h.rl; omega
theorem f_book_text (n : Nat) (b : BkT) (st : List MO) (h : BN 83 b) : F_book_text (n + 2) [bkD b] st = .ok (.str (bookText b)) st := by
  obtain ⟨hl, hl2⟩ := lines_B h
  have hs := h.s
  have hsn : b.1.length ≤ 100 := Nat.le_trans h.sl (by decide)
  have hrl := h.rl
  have h1 : ((linesOf b).map (· ++ z__a)).all (WB 10601) = true := all_map' fun w hw => WB_app (m := 1) (mem_all hl hw) (by decide) (Nat.le_refl _)
  have hj : joinOk z_ ((linesOf b).map (· ++ z__a)) = true := joinOk_of (n := 84) h1 (by rw [List.length_map]; exact hl2) (by decide)
  have e1 : ∀ st, lcL [4] (.nm 4) (evC (Φd (n + 2)) .none) (evE (Φd (n + 2)) (.call 15 (.cons false (.var 4) .nil))) (b.2.map rwD) ⟨[.val (.tup [.tup (b.1.map stD), .tup (b.2.map rwD)]), .val (.tup (b.1.map stD)), .val (.tup (b.2.map rwD)), .none, .none], st⟩ = .ok ((b.2.map rowText).map .str) ⟨[.val (.tup [.tup (b.1.map stD), .tup (b.2.map rwD)]), .val (.tup (b.1.map stD)), .val (.tup (b.2.map rwD)), .none, .none], st⟩ := by
    intro st
    rw [List.map_map]
    refine lcL_map (fun r => .str (rowText r)) rfl fun r hr => ?_
    push_cast [c__law_heave, gt_of (α := W), gt_of (α := Nat), gt_of (α := StT), gt_of (α := RwT), show ∀ s, esc s (rwD r) = .ok (rwD r) s from fun _ => rfl, c_row_text, f_row_text n r _ (h.r r hr)]
  rw [u_book_text]; unfold cs_book_text
  push_cast [c__law_heave, gt_of (α := W), gt_of (α := Nat), gt_of (α := StT), gt_of (α := RwT), bkD, c_states_text, f_states_text, ↓e1, show statesText b.1 :: b.2.map rowText = linesOf b from rfl, me_joinl]
  rfl

set_option Elab.async false
set_option linter.all false
set_option maxRecDepth 100000
theorem f_show_book (n : Nat) (b : BkT) (st : List MO) (h : BN 83 b) : F_show_book (n + 7) [bkD b] st = badR st (.ok (.str (bookText b)) st) (badOf b) := by
  have h1 := f_check_book n b st (h.bk (by decide))
  have h2 := f_book_text (n + 4) b st h
  rw [u_show_book]; unfold cs_show_book
  have eb : ∀ s, esc s (bkD b) = .ok (bkD b) s := fun _ => rfl
  cases hb : badOf b with
  | fine => rw [hb] at h1; push_cast [seq_ite, triR_ite, badR, eb, c_check_book, h1, c_book_text, h2]
  | st k => rw [hb] at h1; push_cast [seq_ite, triR_ite, badR, eb, c_check_book, h1]
  | row k w => rw [hb] at h1; push_cast [seq_ite, triR_ite, badR, eb, c_check_book, h1]
def looksM (b : BkT) : MO := .lst ((looksOf b.1).map .str)
theorem f_looks_of_g (n : Nat) (xs : List StT) (st : List MO) (h : xs.all stB = true) (hn : xs.length ≤ 100) :
    F_looks_of_g (n + 1) [.tup (xs.map stD)] st = .ok (.obj st.length) (st ++ [.lst ((looksOf xs).map .str)]) := by
  have h1 := wd_B h
  have hw : (wd xs).length ≤ 100 := by rw [wd_len]; exact hn
  have h2 : (z_free :: wd xs).all (WB 40) = true := by rw [List.all_cons, h1]; rfl
  rw [u_looks_of_g]; unfold cs_looks_of_g; push_cast [seq_ite, triR_ite, c_words_of, f_words_of]; rfl
theorem f_looks_for_g (n : Nat) (b : BkT) (st : List MO) (h : bkB b) : F_looks_for_g (n + 7) [bkD b] st = badR st (.ok (.obj st.length) (st ++ [looksM b])) (badOf b) := by
  have h1 := f_check_book n b st h
  have h2 := f_looks_of_g (n + 5) b.1 st h.s h.sn
  simp only [bkD] at h1
  rw [u_looks_for_g]; unfold cs_looks_for_g
  cases hb : badOf b with
  | fine => rw [hb] at h1; push_cast [seq_ite, triR_ite, badR, bkD, c_check_book, h1, c_looks_of_g, h2]; rfl
  | st k => rw [hb] at h1; push_cast [seq_ite, triR_ite, badR, bkD, c_check_book, h1]
  | row k w => rw [hb] at h1; push_cast [seq_ite, triR_ite, badR, bkD, c_check_book, h1]
theorem sb11 (n : Nat) : [1].any ((Φd n).sub 1) = true := rfl
theorem sb12 (n : Nat) : [1].any ((Φd n).sub 2) = false := rfl
theorem sb22 (n : Nat) : [2].any ((Φd n).sub 2) = true := rfl
theorem sb01 (n : Nat) : [0].any ((Φd n).sub 1) = true := rfl
theorem sb31 (n : Nat) : [3].any ((Φd n).sub 1) = true := rfl
theorem sb02 (n : Nat) : [0].any ((Φd n).sub 2) = true := rfl
theorem sb32 (n : Nat) : [3].any ((Φd n).sub 2) = true := rfl
theorem mapclr_cons {x : Sl} {r : List Sl} : (x :: r).map clr1 = clr1 x :: r.map clr1 := rfl
theorem mapclr_nil : ([] : List Sl).map clr1 = [] := rfl
theorem eqs_cons {x y : D} {xs ys : List D} : eqDs (x :: xs) (y :: ys) = (eqD x y && eqDs xs ys) := by simp [eqDs]
theorem esc_badD {s : DS} {b : Bad} : esc s (badD b) = .ok (badD b) s := by cases b <;> rfl
theorem pm0 {x : D} : pmL [0] [x] = [x] := rfl
theorem q00 : ((0 : Int) == 0) = true := rfl
theorem q01 : ((0 : Int) == 1) = false := rfl
theorem q02 : ((0 : Int) == 2) = false := rfl
theorem q10 : ((1 : Int) == 0) = false := rfl
theorem q11 : ((1 : Int) == 1) = true := rfl
theorem q12 : ((1 : Int) == 2) = false := rfl
theorem q20 : ((2 : Int) == 0) = false := rfl
theorem q21 : ((2 : Int) == 1) = false := rfl
theorem q22 : ((2 : Int) == 2) = true := rfl
theorem q30 : ((3 : Int) == 0) = false := rfl
theorem q31 : ((3 : Int) == 1) = false := rfl
theorem q32 : ((3 : Int) == 2) = false := rfl
theorem tt_eq : ((true : Bool) == true) = true := rfl
theorem f_told_bad (n : Nat) (w : Int) (b : BkT) (st : List MO) (h : BN 83 b) (hw : w = 0 ∨ w = 1 ∨ w = 2 ∨ w = 3) (hb : badOf b ≠ .fine) : F__law_told (n + 8) [.int w, bkD b] st = .ok (badD (badOf b)) st := by
  have h1 := f_check_book (n + 1) b st (h.bk (by decide))
  have h2 := f_looks_for_g n b st (h.bk (by decide))
  have h3 := f_show_book n b st h
  have eb : ∀ s, esc s (bkD b) = .ok (bkD b) s := fun _ => rfl
  rw [u__law_told]; unfold cs__law_told
  cases hbb : badOf b with
  | fine => exact absurd hbb hb
  | st k =>
    rw [hbb] at h1 h2 h3
    simp only [badR] at h1 h2 h3
    rcases hw with rfl | rfl | rfl | rfl <;> push_cast [seq_ite, triR_ite, sb11, sb12, sb22, sb01, sb31, sb02, sb32, mapclr_cons, mapclr_nil, pm0, List.isEmpty_cons, List.isEmpty_nil, eqs_cons, tt_eq, q00, q01, q02, q10, q11, q12, q20, q21, q22, q30, q31, q32, eb, c_check_book, h1, c_looks_for_g, h2, c_show_book, h3] <;> rfl
  | row k v =>
    rw [hbb] at h1 h2 h3
    simp only [badR] at h1 h2 h3
    rcases hw with rfl | rfl | rfl | rfl <;> push_cast [seq_ite, triR_ite, sb11, sb12, sb22, sb01, sb31, sb02, sb32, mapclr_cons, mapclr_nil, pm0, List.isEmpty_cons, List.isEmpty_nil, eqs_cons, tt_eq, q00, q01, q02, q10, q11, q12, q20, q21, q22, q30, q31, q32, eb, c_check_book, h1, c_looks_for_g, h2, c_show_book, h3] <;> rfl
theorem f_told_01 (n : Nat) (w : Int) (b : BkT) (st : List MO) (h : BN 83 b) (hw : w = 0 ∨ w = 1) (hb : badOf b = .fine) : F__law_told (n + 8) [.int w, bkD b] st = .ok (.tup [.str z_fine, .non]) st := by
  have h1 := f_check_book (n + 1) b st (h.bk (by decide))
  have eb : ∀ s, esc s (bkD b) = .ok (bkD b) s := fun _ => rfl
  rw [u__law_told]; unfold cs__law_told
  rw [hb] at h1
  simp only [badR] at h1
  rcases hw with rfl | rfl <;> push_cast [seq_ite, triR_ite, sb11, sb12, sb22, sb01, sb31, sb02, sb32, mapclr_cons, mapclr_nil, pm0, List.isEmpty_cons, List.isEmpty_nil, eqs_cons, tt_eq, q00, q01, q02, q10, q11, q12, q20, q21, q22, q30, q31, q32, eb, c_check_book, h1]
theorem f_told_2 (n : Nat) (b : BkT) (st : List MO) (h : BN 83 b) (hb : badOf b = .fine) : F__law_told (n + 8) [.int 2, bkD b] st = .ok (.tup [.str z_fine, .obj st.length]) (st ++ [looksM b]) := by
  have h2 := f_looks_for_g n b st (h.bk (by decide))
  have eb : ∀ s, esc s (bkD b) = .ok (bkD b) s := fun _ => rfl
  rw [u__law_told]; unfold cs__law_told
  rw [hb] at h2
  simp only [badR] at h2
  push_cast [seq_ite, triR_ite, sb11, sb12, sb22, sb01, sb31, sb02, sb32, mapclr_cons, mapclr_nil, pm0, List.isEmpty_cons, List.isEmpty_nil, eqs_cons, tt_eq, q00, q01, q02, q10, q11, q12, q20, q21, q22, q30, q31, q32, eb, c_looks_for_g, h2]
theorem f_told_3 (n : Nat) (b : BkT) (st : List MO) (h : BN 83 b) (hb : badOf b = .fine) : F__law_told (n + 8) [.int 3, bkD b] st = .ok (.tup [.str z_fine, .str (bookText b)]) st := by
  have h3 := f_show_book n b st h
  have eb : ∀ s, esc s (bkD b) = .ok (bkD b) s := fun _ => rfl
  rw [u__law_told]; unfold cs__law_told
  rw [hb] at h3
  simp only [badR] at h3
  push_cast [seq_ite, triR_ite, sb11, sb12, sb22, sb01, sb31, sb02, sb32, mapclr_cons, mapclr_nil, pm0, List.isEmpty_cons, List.isEmpty_nil, eqs_cons, tt_eq, q00, q01, q02, q10, q11, q12, q20, q21, q22, q30, q31, q32, eb, c_show_book, h3]

theorem kd_lst {xs : List D} {i : Nat} : kindD (.lst xs) i = (i == 3) := by
  match i with
  | 0 => rfl | 1 => rfl | 2 => rfl | 3 => rfl | n + 4 => rfl
theorem kd_tup {xs : List D} {i : Nat} : kindD (.tup xs) i = (i == 4) := by
  match i with
  | 0 => rfl | 1 => rfl | 2 => rfl | 3 => rfl | 4 => rfl | n + 5 => rfl
theorem kd_str {x : W} {i : Nat} : kindD (.str x) i = (i == 2) := by
  match i with
  | 0 => rfl | 1 => rfl | 2 => rfl | n + 3 => rfl
theorem kd_int {x : Int} {i : Nat} : kindD (.int x) i = (i == 1) := by
  match i with
  | 0 => rfl | 1 => rfl | n + 2 => rfl
theorem kd_non {i : Nat} : kindD .non i = false := by
  match i with
  | 0 => rfl | 1 => rfl | n + 2 => rfl
theorem any1 {i : Nat} {f : Nat → Bool} : [i].any f = f i := by simp
theorem any2 {i j : Nat} {f : Nat → Bool} : [i, j].any f = (f i || f j) := by simp
theorem ag_str (n : Nat) (w : W) (st : List MO) (h : WC w = true) : F__law_agree n [.str w, .str w] st = .ok (.bl true) st := by
  rw [u__law_agree]; unfold cs__law_agree
  push_cast [seq_ite, triR_ite, any1, any2, kd_lst, kd_tup, kd_str, kd_int, kd_non, tt_eq, List.isEmpty_cons, List.isEmpty_nil, show ((3 : Nat) == 0) = false from rfl, show ((3 : Nat) == 1) = false from rfl, show ((3 : Nat) == 2) = false from rfl, show ((3 : Nat) == 3) = true from rfl, show ((3 : Nat) == 4) = false from rfl, show ((0 : Nat) == 1) = false from rfl, show ((0 : Nat) == 2) = false from rfl, show ((0 : Nat) == 3) = false from rfl, show ((0 : Nat) == 4) = false from rfl, show ((4 : Nat) == 1) = false from rfl, show ((4 : Nat) == 2) = false from rfl, show ((4 : Nat) == 3) = false from rfl, show ((4 : Nat) == 4) = true from rfl, show ((2 : Nat) == 1) = false from rfl, show ((2 : Nat) == 2) = true from rfl, show ((2 : Nat) == 3) = false from rfl, show ((2 : Nat) == 4) = false from rfl, show ((1 : Nat) == 1) = true from rfl, show ((1 : Nat) == 2) = false from rfl, show ((1 : Nat) == 3) = false from rfl, show ((1 : Nat) == 4) = false from rfl, show ((false : Bool) == false) = true from rfl, beq_self_eq_true]
theorem ag_int (n : Nat) (w : Int) (st : List MO) : F__law_agree n [.int w, .int w] st = .ok (.bl true) st := by
  rw [u__law_agree]; unfold cs__law_agree
  push_cast [seq_ite, triR_ite, any1, any2, kd_lst, kd_tup, kd_str, kd_int, kd_non, tt_eq, List.isEmpty_cons, List.isEmpty_nil, show ((3 : Nat) == 0) = false from rfl, show ((3 : Nat) == 1) = false from rfl, show ((3 : Nat) == 2) = false from rfl, show ((3 : Nat) == 3) = true from rfl, show ((3 : Nat) == 4) = false from rfl, show ((0 : Nat) == 1) = false from rfl, show ((0 : Nat) == 2) = false from rfl, show ((0 : Nat) == 3) = false from rfl, show ((0 : Nat) == 4) = false from rfl, show ((4 : Nat) == 1) = false from rfl, show ((4 : Nat) == 2) = false from rfl, show ((4 : Nat) == 3) = false from rfl, show ((4 : Nat) == 4) = true from rfl, show ((2 : Nat) == 1) = false from rfl, show ((2 : Nat) == 2) = true from rfl, show ((2 : Nat) == 3) = false from rfl, show ((2 : Nat) == 4) = false from rfl, show ((1 : Nat) == 1) = true from rfl, show ((1 : Nat) == 2) = false from rfl, show ((1 : Nat) == 3) = false from rfl, show ((1 : Nat) == 4) = false from rfl, show ((false : Bool) == false) = true from rfl, beq_self_eq_true]
theorem ag_non (n : Nat) (st : List MO) : F__law_agree n [.non, .non] st = .ok (.bl true) st := by
  rw [u__law_agree]; unfold cs__law_agree
  push_cast [seq_ite, triR_ite, any1, any2, kd_lst, kd_tup, kd_str, kd_int, kd_non, tt_eq, List.isEmpty_cons, List.isEmpty_nil, show ((3 : Nat) == 0) = false from rfl, show ((3 : Nat) == 1) = false from rfl, show ((3 : Nat) == 2) = false from rfl, show ((3 : Nat) == 3) = true from rfl, show ((3 : Nat) == 4) = false from rfl, show ((0 : Nat) == 1) = false from rfl, show ((0 : Nat) == 2) = false from rfl, show ((0 : Nat) == 3) = false from rfl, show ((0 : Nat) == 4) = false from rfl, show ((4 : Nat) == 1) = false from rfl, show ((4 : Nat) == 2) = false from rfl, show ((4 : Nat) == 3) = false from rfl, show ((4 : Nat) == 4) = true from rfl, show ((2 : Nat) == 1) = false from rfl, show ((2 : Nat) == 2) = true from rfl, show ((2 : Nat) == 3) = false from rfl, show ((2 : Nat) == 4) = false from rfl, show ((1 : Nat) == 1) = true from rfl, show ((1 : Nat) == 2) = false from rfl, show ((1 : Nat) == 3) = false from rfl, show ((1 : Nat) == 4) = false from rfl, show ((false : Bool) == false) = true from rfl, beq_self_eq_true, show eqD .non .non = true from rfl]
theorem ag_seq {n : Nat} {vx vy : D} {st : List MO} {xs ys : List D} (hx : deref ⟨[.val vx, .val vy, .none], st⟩ vx = .lst xs ∧ vy = .lst ys ∨ vx = .tup xs ∧ vy = .tup ys) (hl : xs.length = ys.length) (hn : ys.length ≤ 1000)
    (hesc : ∀ (v : D), v ∈ xs ++ ys → ∀ s, esc s v = .ok v s)
    (h : ∀ (i : Nat) x y, xs[i]? = some x → ys[i]? = some y → F__law_agree n [x, y] st = .ok (.bl true) st) (c : CE) (hc : c = .idx (.var 0) (.var 2)) :
    lcL [2] (.nm 2) (evC (Φd (n + 1)) (.some (.nt (.call 20 (.cons false (.idx (.var 0) (.var 2)) (.cons false (.idx (.var 1) (.var 2)) .nil)))))) (evE (Φd (n + 1)) (.var 2)) (ys.zipIdx.map fun p => .int (p.2 : Int)) ⟨[.val vx, .val vy, .none], st⟩ = .ok [] ⟨[.val vx, .val vy, .none], st⟩ := by
  have := lcL_pure (f := fun p : D × Nat => .int (p.2 : Int)) (xs := ys.zipIdx) (vs := [2]) (t := .nm 2) (c := evC (Φd (n + 1)) (.some (.nt (.call 20 (.cons false (.idx (.var 0) (.var 2)) (.cons false (.idx (.var 1) (.var 2)) .nil)))))) (e := evE (Φd (n + 1)) (.var 2)) (s := ⟨[.val vx, .val vy, .none], st⟩) (fun _ => false) (fun _ => .non) rfl ?_
  · rw [this]; simp
  · rintro ⟨y, i⟩ hp
    obtain ⟨h1, h2⟩ := mem_zip hp
    simp only at h1 h2
    have hi : i < xs.length := by rw [hl]; exact (List.getElem?_eq_some_iff.mp h1).1
    obtain ⟨x, h3⟩ : ∃ x, xs[i]? = some x := ⟨_, List.getElem?_eq_getElem hi⟩
    have h4 := h i x y h3 h1
    have h5 := hesc x (List.mem_append_left _ (List.mem_of_getElem? h3))
    have h6 := hesc y (List.mem_append_right _ h2)
    have h7 : idxD (deref ⟨[.val vx, .val vy, .val (.int (i : Int))], st⟩ vx) (.int (i : Int)) = some x := by
      rcases hx with ⟨e, rfl⟩ | ⟨rfl, rfl⟩
      · have e' : deref ⟨[.val vx, .val (.lst ys), .val (.int (i : Int))], st⟩ vx = .lst xs := by
          cases vx <;> first | exact e | (rename_i j; revert e; simp only [de_own]; rcases j with _ | _ | _ | j <;> simp [deO])
        rw [e', x_lst, at_nat, h3]
      · push_cast [seq_ite, triR_ite, any1, any2, kd_lst, kd_tup, kd_str, kd_int, kd_non, tt_eq, List.isEmpty_cons, List.isEmpty_nil, show ((3 : Nat) == 0) = false from rfl, show ((3 : Nat) == 1) = false from rfl, show ((3 : Nat) == 2) = false from rfl, show ((3 : Nat) == 3) = true from rfl, show ((3 : Nat) == 4) = false from rfl, show ((0 : Nat) == 1) = false from rfl, show ((0 : Nat) == 2) = false from rfl, show ((0 : Nat) == 3) = false from rfl, show ((0 : Nat) == 4) = false from rfl, show ((4 : Nat) == 1) = false from rfl, show ((4 : Nat) == 2) = false from rfl, show ((4 : Nat) == 3) = false from rfl, show ((4 : Nat) == 4) = true from rfl, show ((2 : Nat) == 1) = false from rfl, show ((2 : Nat) == 2) = true from rfl, show ((2 : Nat) == 3) = false from rfl, show ((2 : Nat) == 4) = false from rfl, show ((1 : Nat) == 1) = true from rfl, show ((1 : Nat) == 2) = false from rfl, show ((1 : Nat) == 3) = false from rfl, show ((1 : Nat) == 4) = false from rfl, show ((false : Bool) == false) = true from rfl, beq_self_eq_true, h3]
    have h8 : idxD (deref ⟨[.val vx, .val vy, .val (.int (i : Int))], st⟩ vy) (.int (i : Int)) = some y := by
      rcases hx with ⟨e, rfl⟩ | ⟨rfl, rfl⟩
      · push_cast [seq_ite, triR_ite, any1, any2, kd_lst, kd_tup, kd_str, kd_int, kd_non, tt_eq, List.isEmpty_cons, List.isEmpty_nil, show ((3 : Nat) == 0) = false from rfl, show ((3 : Nat) == 1) = false from rfl, show ((3 : Nat) == 2) = false from rfl, show ((3 : Nat) == 3) = true from rfl, show ((3 : Nat) == 4) = false from rfl, show ((0 : Nat) == 1) = false from rfl, show ((0 : Nat) == 2) = false from rfl, show ((0 : Nat) == 3) = false from rfl, show ((0 : Nat) == 4) = false from rfl, show ((4 : Nat) == 1) = false from rfl, show ((4 : Nat) == 2) = false from rfl, show ((4 : Nat) == 3) = false from rfl, show ((4 : Nat) == 4) = true from rfl, show ((2 : Nat) == 1) = false from rfl, show ((2 : Nat) == 2) = true from rfl, show ((2 : Nat) == 3) = false from rfl, show ((2 : Nat) == 4) = false from rfl, show ((1 : Nat) == 1) = true from rfl, show ((1 : Nat) == 2) = false from rfl, show ((1 : Nat) == 3) = false from rfl, show ((1 : Nat) == 4) = false from rfl, show ((false : Bool) == false) = true from rfl, beq_self_eq_true, h1]
      · push_cast [seq_ite, triR_ite, any1, any2, kd_lst, kd_tup, kd_str, kd_int, kd_non, tt_eq, List.isEmpty_cons, List.isEmpty_nil, show ((3 : Nat) == 0) = false from rfl, show ((3 : Nat) == 1) = false from rfl, show ((3 : Nat) == 2) = false from rfl, show ((3 : Nat) == 3) = true from rfl, show ((3 : Nat) == 4) = false from rfl, show ((0 : Nat) == 1) = false from rfl, show ((0 : Nat) == 2) = false from rfl, show ((0 : Nat) == 3) = false from rfl, show ((0 : Nat) == 4) = false from rfl, show ((4 : Nat) == 1) = false from rfl, show ((4 : Nat) == 2) = false from rfl, show ((4 : Nat) == 3) = false from rfl, show ((4 : Nat) == 4) = true from rfl, show ((2 : Nat) == 1) = false from rfl, show ((2 : Nat) == 2) = true from rfl, show ((2 : Nat) == 3) = false from rfl, show ((2 : Nat) == 4) = false from rfl, show ((1 : Nat) == 1) = true from rfl, show ((1 : Nat) == 2) = false from rfl, show ((1 : Nat) == 3) = false from rfl, show ((1 : Nat) == 4) = false from rfl, show ((false : Bool) == false) = true from rfl, beq_self_eq_true, h1]
    push_cast [seq_ite, triR_ite, any1, any2, kd_lst, kd_tup, kd_str, kd_int, kd_non, tt_eq, List.isEmpty_cons, List.isEmpty_nil, show ((3 : Nat) == 0) = false from rfl, show ((3 : Nat) == 1) = false from rfl, show ((3 : Nat) == 2) = false from rfl, show ((3 : Nat) == 3) = true from rfl, show ((3 : Nat) == 4) = false from rfl, show ((0 : Nat) == 1) = false from rfl, show ((0 : Nat) == 2) = false from rfl, show ((0 : Nat) == 3) = false from rfl, show ((0 : Nat) == 4) = false from rfl, show ((4 : Nat) == 1) = false from rfl, show ((4 : Nat) == 2) = false from rfl, show ((4 : Nat) == 3) = false from rfl, show ((4 : Nat) == 4) = true from rfl, show ((2 : Nat) == 1) = false from rfl, show ((2 : Nat) == 2) = true from rfl, show ((2 : Nat) == 3) = false from rfl, show ((2 : Nat) == 4) = false from rfl, show ((1 : Nat) == 1) = true from rfl, show ((1 : Nat) == 2) = false from rfl, show ((1 : Nat) == 3) = false from rfl, show ((1 : Nat) == 4) = false from rfl, show ((false : Bool) == false) = true from rfl, beq_self_eq_true, c__law_agree, h4, h5, h6, h7, h8]
theorem ag_tup {n : Nat} {xs ys : List D} {st : List MO} (hl : xs.length = ys.length) (hn : ys.length ≤ 1000) (hesc : ∀ (v : D), v ∈ xs ++ ys → ∀ s, esc s v = .ok v s)
    (h : ∀ (i : Nat) x y, xs[i]? = some x → ys[i]? = some y → F__law_agree n [x, y] st = .ok (.bl true) st) : F__law_agree (n + 1) [.tup xs, .tup ys] st = .ok (.bl true) st := by
  have k := ag_seq (vx := .tup xs) (vy := .tup ys) (.inr ⟨rfl, rfl⟩) hl hn hesc h _ rfl
  rw [u__law_agree]; unfold cs__law_agree
  push_cast [seq_ite, triR_ite, any1, any2, kd_lst, kd_tup, kd_str, kd_int, kd_non, tt_eq, List.isEmpty_cons, List.isEmpty_nil, show ((3 : Nat) == 0) = false from rfl, show ((3 : Nat) == 1) = false from rfl, show ((3 : Nat) == 2) = false from rfl, show ((3 : Nat) == 3) = true from rfl, show ((3 : Nat) == 4) = false from rfl, show ((0 : Nat) == 1) = false from rfl, show ((0 : Nat) == 2) = false from rfl, show ((0 : Nat) == 3) = false from rfl, show ((0 : Nat) == 4) = false from rfl, show ((4 : Nat) == 1) = false from rfl, show ((4 : Nat) == 2) = false from rfl, show ((4 : Nat) == 3) = false from rfl, show ((4 : Nat) == 4) = true from rfl, show ((2 : Nat) == 1) = false from rfl, show ((2 : Nat) == 2) = true from rfl, show ((2 : Nat) == 3) = false from rfl, show ((2 : Nat) == 4) = false from rfl, show ((1 : Nat) == 1) = true from rfl, show ((1 : Nat) == 2) = false from rfl, show ((1 : Nat) == 3) = false from rfl, show ((1 : Nat) == 4) = false from rfl, show ((false : Bool) == false) = true from rfl, beq_self_eq_true, ↓k, hl]
theorem ag_lst {n : Nat} {xs ys : List D} {st : List MO} (hl : xs.length = ys.length) (hn : ys.length ≤ 1000) (hesc : ∀ (v : D), v ∈ xs ++ ys → ∀ s, esc s v = .ok v s)
    (h : ∀ (i : Nat) x y, xs[i]? = some x → ys[i]? = some y → F__law_agree n [x, y] st = .ok (.bl true) st) : F__law_agree (n + 1) [.lst xs, .lst ys] st = .ok (.bl true) st := by
  have k := ag_seq (vx := .lst xs) (vy := .lst ys) (.inl ⟨rfl, rfl⟩) hl hn hesc h _ rfl
  rw [u__law_agree]; unfold cs__law_agree
  push_cast [seq_ite, triR_ite, any1, any2, kd_lst, kd_tup, kd_str, kd_int, kd_non, tt_eq, List.isEmpty_cons, List.isEmpty_nil, show ((3 : Nat) == 0) = false from rfl, show ((3 : Nat) == 1) = false from rfl, show ((3 : Nat) == 2) = false from rfl, show ((3 : Nat) == 3) = true from rfl, show ((3 : Nat) == 4) = false from rfl, show ((0 : Nat) == 1) = false from rfl, show ((0 : Nat) == 2) = false from rfl, show ((0 : Nat) == 3) = false from rfl, show ((0 : Nat) == 4) = false from rfl, show ((4 : Nat) == 1) = false from rfl, show ((4 : Nat) == 2) = false from rfl, show ((4 : Nat) == 3) = false from rfl, show ((4 : Nat) == 4) = true from rfl, show ((2 : Nat) == 1) = false from rfl, show ((2 : Nat) == 2) = true from rfl, show ((2 : Nat) == 3) = false from rfl, show ((2 : Nat) == 4) = false from rfl, show ((1 : Nat) == 1) = true from rfl, show ((1 : Nat) == 2) = false from rfl, show ((1 : Nat) == 3) = false from rfl, show ((1 : Nat) == 4) = false from rfl, show ((false : Bool) == false) = true from rfl, beq_self_eq_true, ↓k, hl]
theorem ag_obj {n q : Nat} {xs ys : List D} {st : List MO} (hq : st[q]? = some (.lst xs)) (hl : xs.length = ys.length) (hn : ys.length ≤ 1000) (hesc : ∀ (v : D), v ∈ xs ++ ys → ∀ s, esc s v = .ok v s)
    (h : ∀ (i : Nat) x y, xs[i]? = some x → ys[i]? = some y → F__law_agree n [x, y] st = .ok (.bl true) st) : F__law_agree (n + 1) [.obj q, .lst ys] st = .ok (.bl true) st := by
  have k := ag_seq (n := n) (vx := .obj q) (vy := .lst ys) (xs := xs) (st := st) (.inl ⟨by simp only [de_obj, hq]; rfl, rfl⟩) hl hn hesc h _ rfl
  rw [u__law_agree]; unfold cs__law_agree
  push_cast [seq_ite, triR_ite, any1, any2, kd_lst, kd_tup, kd_str, kd_int, kd_non, tt_eq, List.isEmpty_cons, List.isEmpty_nil, show ((3 : Nat) == 0) = false from rfl, show ((3 : Nat) == 1) = false from rfl, show ((3 : Nat) == 2) = false from rfl, show ((3 : Nat) == 3) = true from rfl, show ((3 : Nat) == 4) = false from rfl, show ((0 : Nat) == 1) = false from rfl, show ((0 : Nat) == 2) = false from rfl, show ((0 : Nat) == 3) = false from rfl, show ((0 : Nat) == 4) = false from rfl, show ((4 : Nat) == 1) = false from rfl, show ((4 : Nat) == 2) = false from rfl, show ((4 : Nat) == 3) = false from rfl, show ((4 : Nat) == 4) = true from rfl, show ((2 : Nat) == 1) = false from rfl, show ((2 : Nat) == 2) = true from rfl, show ((2 : Nat) == 3) = false from rfl, show ((2 : Nat) == 4) = false from rfl, show ((1 : Nat) == 1) = true from rfl, show ((1 : Nat) == 2) = false from rfl, show ((1 : Nat) == 3) = false from rfl, show ((1 : Nat) == 4) = false from rfl, show ((false : Bool) == false) = true from rfl, beq_self_eq_true, hq, ↓k, hl]

set_option Elab.async false
set_option linter.all false
set_option maxRecDepth 100000
theorem f_vault (n : Nat) (ns : List Int) (k : Nat) (st : List MO) (hn : ns.length ≤ 63) (hk : k < 5) :
    ∃ st', F__law_vault n [.lst (ns.map .int), .int (k : Int)] st = .ok (.obj st.length) st' ∧ VOk (10 ^ 12) st.length st' := by
  rw [u__law_vault]; unfold cs__law_vault
  have key : ∀ c : Int, ∃ st', fnR (exSs (Φd n) (.cons (.retG (.lst (.cons false (.bi .max2 (.cons (.lit (.int 0)) (.cons (.bin .sub (.bi .abs (.cons (.var 2) .nil)) (.bin .pow (.lit (.int 10)) (.lit (.int 18)))) .nil))) (.cons false (.bin .add (.bin .add (.bin .mul (.bin .mod (.bi .int1 (.cons (.var 2) .nil)) (.bin .add (.bin .pow (.lit (.int 10)) (.lit (.int 39))) (.lit (.int 37)))) (.lit (.int 67))) (.bin .mul (.lit (.int 61)) (.var 1))) (.lit (.int 31))) (.cons false (.lit (.int 0)) .nil))))) .nil)
      ⟨[.val (.lst (ns.map .int)), .val (.int (k : Int)), .val (.int c)], st⟩) = .ok (.obj st.length) st' ∧ VOk (10 ^ 12) st.length st' := by
    intro c
    generalize hz : c % (10 ^ (39 : Int).toNat + 37) = z
    have hz0 : 0 ≤ z := by rw [← hz]; exact Int.emod_nonneg _ (by decide)
    have hz1 : z < 10 ^ 39 + 37 := by rw [← hz]; exact Int.emod_lt_of_pos _ (by decide)
    have hd1 : (0 : Int) < 10 ^ (39 : Int).toNat + 37 := by decide
    have hm1 : z.natAbs.log2 + (67 : Int).natAbs.log2 < 1000000 := by
      have := log_lt (i := z) (k := 200) hz0 (by omega) (by decide)
      have h30 : (67 : Int).natAbs.log2 < 100 := by decide
      omega
    have hm2 : (61 : Int).natAbs.log2 + (k : Int).natAbs.log2 < 1000000 := by
      have := log_lt (i := (k : Int)) (k := 200) (by omega) (by omega) (by decide)
      have h30 : (61 : Int).natAbs.log2 < 100 := by decide
      omega
    have hq1 : (0 : Int) ≤ 18 ∧ (18 : Int) ≤ 100 ∧ (10 : Int).natAbs.log2 < 1000 := by decide
    have hq2 : (0 : Int) ≤ 39 ∧ (39 : Int) ≤ 100 ∧ (10 : Int).natAbs.log2 < 1000 := by decide
    push_cast [seq_ite, triR_ite, hz]
    refine ⟨_, rfl, _, _, _, List.getElem?_concat_length, ?_, ?_, ?_, by decide, by decide⟩
    · split <;> omega
    · omega
    · omega
  by_cases h : k < ns.length
  · have h1 : ((k : Int) < (ns.length : Int)) := by omega
    push_cast [seq_ite, triR_ite, h1, decide_true, List.getElem?_eq_getElem h]
    have := key ns[k]
    revert this
    push_cast [seq_ite, triR_ite]
    exact fun h => h
  · have h1 : ¬ ((k : Int) < (ns.length : Int)) := by omega
    push_cast [seq_ite, triR_ite, h1, decide_false]
    have := key 0
    revert this
    push_cast [seq_ite, triR_ite]
    exact fun h => h

set_option Elab.async false
set_option linter.all false
set_option maxRecDepth 100000
theorem VOk.set {k p q : Nat} {st : List MO} {m : MO} (h : VOk k p st) (hq : q ≠ p) : VOk k p (st.set q m) := by
  obtain ⟨a, b, c, h1, h2⟩ := h
  exact ⟨a, b, c, by rw [List.getElem?_set_ne hq]; exact h1, h2⟩
theorem VOk.lt {k p : Nat} {st : List MO} (h : VOk k p st) : p < st.length := by
  obtain ⟨a, b, c, h1, h2⟩ := h
  exact (List.getElem?_eq_some_iff.mp h1).1
def T0 : D := .tup [.str z_fine, .non]
theorem ag_T0 (n : Nat) (st : List MO) : F__law_agree (n + 1) [T0, T0] st = .ok (.bl true) st := by
  refine ag_tup rfl (by simp) ?_ ?_
  · intro v hv s
    simp only [List.mem_append, List.mem_cons, List.not_mem_nil, or_false] at hv
    rcases hv with (rfl | rfl) | (rfl | rfl) <;> rfl
  · intro i x y hx hy
    rcases i with _ | _ | i
    · simp at hx hy; subst hx; subst hy; exact ag_str _ _ _ (by decide)
    · simp at hx hy; subst hx; subst hy; exact ag_non _ _
    · simp at hx
theorem esc_strs {ws : List W} : ∀ v ∈ ws.map D.str, ∀ s, esc s v = .ok v s := by
  intro v hv s
  obtain ⟨w, _, rfl⟩ := List.mem_map.mp hv
  rfl
theorem ag_strs {n : Nat} {ws : List W} {st : List MO} (h : ws.all WC = true) : ∀ (i : Nat) x y, (ws.map D.str)[i]? = some x → (ws.map D.str)[i]? = some y → F__law_agree n [x, y] st = .ok (.bl true) st := by
  intro i x y hx hy
  rw [hx] at hy; cases hy
  obtain ⟨w, hw, rfl⟩ := List.mem_map.mp (List.mem_of_getElem? hx)
  exact ag_str _ _ _ (mem_all h hw)
theorem ag_looks {n : Nat} {ws : List W} {st : List MO} (h : ws.all WC = true) (hl : ws.length ≤ 1000) : F__law_agree (n + 1) [.lst (ws.map .str), .lst (ws.map .str)] st = .ok (.bl true) st := by
  refine ag_lst rfl (by simpa using hl) ?_ (ag_strs h)
  intro v hv s
  rcases List.mem_append.mp hv with hv | hv <;> exact esc_strs v hv s
theorem ag_heard {n q : Nat} {ws : List W} {st : List MO} (h : ws.all WC = true) (hl : ws.length ≤ 1000) (hq : st[q]? = some (.lst (ws.map .str))) :
    F__law_agree (n + 3) [.lst [T0, T0, T0, .tup [.str z_fine, .obj q]], .lst [T0, T0, T0, .tup [.str z_fine, .lst (ws.map .str)]]] st = .ok (.bl true) st := by
  refine ag_lst rfl (by simp) ?_ ?_
  · intro v hv s
    simp only [List.mem_append, List.mem_cons, List.not_mem_nil, or_false] at hv
    rcases hv with (rfl | rfl | rfl | rfl) | (rfl | rfl | rfl | rfl) <;> rfl
  · intro i x y hx hy
    rcases i with _ | _ | _ | _ | i
    · simp at hx hy; subst hx; subst hy; exact ag_T0 _ _
    · simp at hx hy; subst hx; subst hy; exact ag_T0 _ _
    · simp at hx hy; subst hx; subst hy; exact ag_T0 _ _
    · simp at hx hy; subst hx; subst hy
      refine ag_tup rfl (by simp) ?_ ?_
      · intro v hv s
        simp only [List.mem_append, List.mem_cons, List.not_mem_nil, or_false] at hv
        rcases hv with (rfl | rfl) | (rfl | rfl) <;> rfl
      · intro i x y hx hy
        rcases i with _ | _ | i
        · simp at hx hy; subst hx; subst hy; exact ag_str _ _ _ (by decide)
        · simp at hx hy; subst hx; subst hy
          refine ag_obj hq rfl (by simpa using hl) ?_ (ag_strs h)
          intro v hv s
          rcases List.mem_append.mp hv with hv | hv <;> exact esc_strs v hv s
        · simp at hx
    · simp at hx
theorem wrong_WC {xs : List StT} {rs : List RwT} {p : Nat × W} (h : wrongRow xs rs = some p) : WC p.2 = true := by
  unfold wrongRow at h
  obtain ⟨q, hq, h2⟩ := List.exists_of_findSome?_eq_some h
  unfold wrongAt at h2
  cases hw : wrongPart xs (nms (rs.take q.2)) q.1 with
  | none => rw [hw] at h2; cases h2
  | some w =>
    rw [hw] at h2
    cases h2
    unfold wrongPart at hw
    have h5 : ∀ w ∈ [z_name, z_shown, z_looks, z_deed, z_marks], WC w = true := by decide
    have : w ∈ [z_name, z_shown, z_looks, z_deed, z_marks] := by
      repeat' split at hw
      all_goals first | (cases hw; simp; done) | cases hw
    exact h5 w this
theorem ag_badD {n : Nat} {b : BkT} {st : List MO} (hb : badOf b ≠ .fine) : F__law_agree (n + 1) [badD (badOf b), badD (badOf b)] st = .ok (.bl true) st := by
  unfold badOf at hb ⊢
  cases h1 : wrongSt' b.1 with
  | some k =>
    simp only [badD]
    refine ag_tup rfl (by simp) ?_ ?_
    · intro v hv s
      simp only [List.mem_append, List.mem_cons, List.not_mem_nil, or_false] at hv
      rcases hv with (rfl | rfl) | (rfl | rfl) <;> rfl
    · intro i x y hx hy
      rcases i with _ | _ | i
      · simp at hx hy; subst hx; subst hy; exact ag_str _ _ _ (by decide)
      · simp at hx hy; subst hx; subst hy; exact ag_int _ _ _
      · simp at hx
  | none =>
    cases h2 : wrongRow b.1 b.2 with
    | none => rw [h1, h2] at hb; exact absurd rfl hb
    | some p =>
      simp only [badD]
      refine ag_tup rfl (by simp) ?_ ?_
      · intro v hv s
        simp only [List.mem_append, List.mem_cons, List.not_mem_nil, or_false] at hv
        rcases hv with (rfl | rfl | rfl) | (rfl | rfl | rfl) <;> rfl
      · intro i x y hx hy
        rcases i with _ | _ | _ | i
        · simp at hx hy; subst hx; subst hy; exact ag_str _ _ _ (by decide)
        · simp at hx hy; subst hx; subst hy; exact ag_int _ _ _
        · simp at hx hy; subst hx; subst hy; exact ag_str _ _ _ (wrong_WC h2)
        · simp at hx

set_option Elab.async false
set_option linter.all false
set_option maxRecDepth 100000
set_option maxHeartbeats 1000000
theorem BN.up {m k : Nat} {b : BkT} (h : BN m b) (hk : m ≤ k) : BN k b := ⟨h.s, Nat.le_trans h.sl hk, fun r hr => (h.r r hr).up hk, Nat.le_trans h.rl hk⟩
theorem rep3 {ds : List D} : (List.replicate (Int.toNat 3) ds).flatten = ds ++ (ds ++ (ds ++ [])) := rfl
theorem nn_bad {x : Bad} (h : x ≠ .fine) : isNonD (badD x) = false := by cases x <;> first | rfl | exact absurd rfl h
theorem nn_fine : isNonD (badD .fine) = true := rfl
theorem de_badD {s : DS} {x : Bad} : deref s (badD x) = badD x := by cases x <;> rfl
theorem f_law (n : Nat) (ns : List Int) (hn : ns.length ≤ 63) : ∃ st, F_law (n + 20) [.lst (ns.map .int)] [] = .ok (.bl true) st := by
  rw [u_law]; unfold cs_law
  obtain ⟨N, hN, hN5⟩ : ∃ N : Nat, (if (if (ns.length : Int) < 5 then (ns.length : Int) else 5) > 1 then (if (ns.length : Int) < 5 then (ns.length : Int) else 5) else 1) = (N : Int) ∧ N ≤ 5 := by
    by_cases h : ns.length < 5
    · by_cases h2 : ns.length > 1
      · exact ⟨ns.length, by rw [if_pos (by omega : (ns.length : Int) < 5), if_pos (by omega)], by omega⟩
      · exact ⟨1, by rw [if_pos (by omega : (ns.length : Int) < 5), if_neg (by omega)]; rfl, by omega⟩
    · exact ⟨5, by rw [if_neg (by omega : ¬ (ns.length : Int) < 5)]; rfl, by omega⟩
  push_cast [c__law_heave, gt_of (α := W), gt_of (α := Nat), gt_of (α := StT), gt_of (α := RwT), hN, rngD_nat]
  generalize hX : forL _ _ _ _ = X
  refine loop_use hX (fun r s => ∃ (st : List MO) (a1 a2 a3 a4 a5 a6 a7 a8 a9 a10 : Sl), (∀ x ∈ r, x < 5) ∧ s = ⟨[.val (.lst (ns.map .int)), a1, a2, a3, a4, a5, a6, a7, a8, a9, a10], st⟩) ⟨[], _, _, _, _, _, _, _, _, _, _, fun x hx => by have := List.mem_range.mp hx; omega, rfl⟩ ?_ ?_
  · rintro k r s hk ⟨st, a1, a2, a3, a4, a5, a6, a7, a8, a9, a10, hr, rfl⟩
    have hk5 : k < 5 := hr k (List.mem_cons_self ..)
    clear hX
    obtain ⟨st1, e1, hv1⟩ := f_vault (n + 19) ns k st hn hk5
    generalize hp : st.length = p at e1 hv1
    push_cast [c__law_heave, gt_of (α := W), gt_of (α := Nat), gt_of (α := StT), gt_of (α := RwT), c__law_vault, e1, rng_4]
    generalize hX : forL _ _ _ _ = X
    refine loop_use hX (fun r s => ∃ (st : List MO) (a3 a4 a5 a6 a7 a8 a9 a10 : Sl), VOk (20000 * r.length) p st ∧ s = ⟨[.val (.lst (ns.map .int)), .val (.int (k : Int)), .val (.obj p), a3, a4, a5, a6, a7, a8, a9, a10], st⟩) ⟨st1, _, _, _, _, _, _, _, _, hv1.mono (by decide), rfl⟩ ?_ ?_
    · rintro j r2 s hj ⟨st2, a3, a4, a5, a6, a7, a8, a9, a10, hv2, rfl⟩
      rw [List.length_cons] at hv2
      clear hX
      push_cast [c__law_heave, gt_of (α := W), gt_of (α := Nat), gt_of (α := StT), gt_of (α := RwT)]
      generalize hX : seqR _ _ _ = X
      refine mid_use hX (fun s => ∃ (b : BkT) (st : List MO), GBk b ∧ VOk (20000 * r2.length + 9900) p st ∧ s = ⟨[.val (.lst (ns.map .int)), .val (.int (k : Int)), .val (.obj p), .val (.int (j : Int)), .val (bkD b), a5, a6, a7, a8, a9, a10], st⟩) ?_ ?_
      · clear hX
        cases hc : (PySem.Builtin.bitAnd (j : Int) 1 == 0)
        · obtain ⟨b, st3, e3, hv3, hg⟩ := f_shop_book (n + 15) (k := 20000 * r2.length + 9900) (p := p) (st := st2) (hv2.mono (by omega))
          push_cast [c__law_heave, gt_of (α := W), gt_of (α := Nat), gt_of (α := StT), gt_of (α := RwT), c__law_shop_book, e3, show ∀ s, esc s (bkD b) = .ok (bkD b) s from fun _ => rfl]
          exact ⟨_, rfl, b, st3, hg, hv3, rfl⟩
        · obtain ⟨b, st3, e3, hv3, hg⟩ := f_drawn_book (n + 15) (k := 20000 * r2.length + 9900) (p := p) (st := st2) (hv2.mono (by omega))
          push_cast [c__law_heave, gt_of (α := W), gt_of (α := Nat), gt_of (α := StT), gt_of (α := RwT), c__law_drawn_book, e3, show ∀ s, esc s (bkD b) = .ok (bkD b) s from fun _ => rfl]
          exact ⟨_, rfl, b, st3, hg, hv3, rfl⟩
      rintro _ rfl ⟨b, st3, hg, hv3, rfl⟩
      clear hX
      have bn := hg.bn
      have bn83 := bn.up (k := 83) (by decide)
      have hgood := hg.good
      have hxs := bn.s
      have hxl : b.1.length ≤ 100 := Nat.le_trans bn.sl (by decide)
      have hlW := WCs_of (looks_B hxs)
      have hll : (looksOf b.1).length ≤ 1000 := Nat.le_trans (looks_len hxl) (by decide)
      have hpl := hv3.lt
      have t0 := f_told_01 (n + 11) 0 b st3 bn83 (.inl rfl) hgood
      have t1 := f_told_01 (n + 11) 1 b st3 bn83 (.inr rfl) hgood
      have t2 := f_told_2 (n + 11) b st3 bn83 hgood
      have hq : (st3 ++ [looksM b])[st3.length]? = some (.lst ((looksOf b.1).map .str)) := List.getElem?_concat_length
      have ha := ag_heard (n := n + 16) (q := st3.length) (ws := looksOf b.1) (st := st3 ++ [looksM b]) hlW hll hq
      simp only [T0] at ha
      have hlf := fun st => f_looks_for (n + 12) b st hg.bk
      simp only [hgood, badR] at hlf
      have ha2 := fun st => ag_looks (n := n + 18) (ws := looksOf b.1) (st := st) hlW hll
      have eb : ∀ s, esc s (bkD b) = .ok (bkD b) s := fun _ => rfl
      have db : ∀ s, deref s (bkD b) = bkD b := fun _ => rfl
      have ib : idxD (bkD b) (.int 0) = some (.tup (b.1.map stD)) := rfl
      have h31 : (0 : Int) ≤ 3 ∧ (3 : Int) ≤ 1000 := by decide
      push_cast [c__law_heave, gt_of (α := W), gt_of (α := Nat), gt_of (α := StT), gt_of (α := RwT), eb, db, ib, c__law_all_looks, f_all_looks, c__law_told, t0, t1, t2, rep3, c__law_agree, ha, hq, pm0, c_looks_for, hlf, ha2, rng_12]
      have hv4 : VOk (20000 * r2.length + 9900) p ((st3 ++ [looksM b]).set st3.length (.lst ((looksOf b.1 ++ [z_none]).map .str))) := hv3.app.set (by omega)
      generalize hX : forL _ _ _ _ = X
      refine loop_use hX (fun r s => ∃ (st : List MO) (a6 a7 a8 a9 a10 : Sl), VOk (20000 * r2.length + 700 * r.length) p st ∧ s = ⟨[.val (.lst (ns.map .int)), .val (.int (k : Int)), .val (.obj p), .val (.int (j : Int)), .val (bkD b), .val (.lst ((looksOf b.1).map .str)), a6, a7, a8, a9, a10], st⟩) ⟨_, _, _, _, _, _, hv4.mono (by simp), rfl⟩ ?_ ?_
      · rintro i r3 s hi ⟨st5, a6, a7, a8, a9, a10, hv5, rfl⟩
        rw [List.length_cons] at hv5
        clear hX
        obtain ⟨b1, st6, e6, hv6, hb1⟩ := f_bent_book (n + 18) (k := 20000 * r2.length + 700 * r3.length + 600) (p := p) (st := st5) (hv5.mono (by omega)) bn (by decide) hg.s.ne
        have eb1 : ∀ s, esc s (bkD b1) = .ok (bkD b1) s := fun _ => rfl
        have db1 : ∀ s, deref s (bkD b1) = bkD b1 := fun _ => rfl
        have ib1 : idxD (bkD b1) (.int 0) = some (.tup (b1.1.map stD)) := rfl
        have hk1 := ok_sts (n := 58) hb1.s
        have hb83 := hb1.up (k := 83) (by decide)
        have hv6' : VOk (20000 * r2.length + 700 * r3.length + 599 + 1) p st6 := hv6
        push_cast [c__law_heave, gt_of (α := W), gt_of (α := Nat), gt_of (α := StT), gt_of (α := RwT), eb, c__law_bent_book, e6, eb1]
        generalize hX : seqR _ _ _ = X
        refine mid_use hX (fun s => ∃ (b2 : BkT) (st : List MO), BN 83 b2 ∧ VOk (20000 * r2.length + 700 * r3.length) p st ∧ s = ⟨[.val (.lst (ns.map .int)), .val (.int (k : Int)), .val (.obj p), .val (.int (j : Int)), .val (bkD b), .val (.lst ((looksOf b.1).map .str)), a6, .val (.int (i : Int)), .val (bkD b2), a9, a10], st⟩) ?_ ?_
        · clear hX
          generalize hdr : F__law_heave _ _ _ = dr
          obtain ⟨r7, st7, rfl, h7, hv7⟩ := heave_of hdr (by assumption) (by omega) (by omega)
          push_cast [c__law_heave, gt_of (α := W), gt_of (α := Nat), gt_of (α := StT), gt_of (α := RwT)]
          by_cases hz : ((r7 : Int) == 0) = true
          · cases he : b1.1.isEmpty
            · have hf := f_fault (n + 13) (b1.1, []) st7 ⟨hb1.s, Nat.le_trans hb1.sl (by decide), by simp [rwsB], by simp⟩
              simp only [bkD, List.map_nil] at hf
              have hne : 0 < b1.1.length := by
                cases hx : b1.1 with
                | nil => rw [hx] at he; simp at he
                | cons x y => simp
              obtain ⟨b2, st8, e8, hv8, hb2⟩ := f_bent_book (n + 18) (k := 20000 * r2.length + 700 * r3.length) (p := p) (st := st7) (hv7.mono (by omega)) hb1 (by decide) hne
              have eb2 : ∀ s, esc s (bkD b2) = .ok (bkD b2) s := fun _ => rfl
              cases hx : badOf (b1.1, []) with
              | fine =>
                rw [hx] at hf
                push_cast [c__law_heave, gt_of (α := W), gt_of (α := Nat), gt_of (α := StT), gt_of (α := RwT), hz, he, db1, ib1, eb1, c__law_fault, hf, nn_fine, de_badD, c__law_bent_book, e8, eb2]
                exact ⟨_, rfl, b2, st8, hb2.up (by decide), hv8, rfl⟩
              | st q =>
                rw [hx] at hf
                push_cast [c__law_heave, gt_of (α := W), gt_of (α := Nat), gt_of (α := StT), gt_of (α := RwT), hz, he, db1, ib1, eb1, c__law_fault, hf, nn_bad (x := .st q) (by exact fun h => nomatch h), de_badD]
                exact ⟨_, rfl, b1, st7, hb83, hv7.mono (by omega), rfl⟩
              | row q w =>
                rw [hx] at hf
                push_cast [c__law_heave, gt_of (α := W), gt_of (α := Nat), gt_of (α := StT), gt_of (α := RwT), hz, he, db1, ib1, eb1, c__law_fault, hf, nn_bad (x := .row q w) (by exact fun h => nomatch h), de_badD]
                exact ⟨_, rfl, b1, st7, hb83, hv7.mono (by omega), rfl⟩
            · push_cast [c__law_heave, gt_of (α := W), gt_of (α := Nat), gt_of (α := StT), gt_of (α := RwT), hz, he, db1, ib1]
              exact ⟨_, rfl, b1, st7, hb83, hv7.mono (by omega), rfl⟩
          · simp only [Bool.not_eq_true] at hz
            push_cast [c__law_heave, gt_of (α := W), gt_of (α := Nat), gt_of (α := StT), gt_of (α := RwT), hz]
            exact ⟨_, rfl, b1, st7, hb83, hv7.mono (by omega), rfl⟩
        rintro _ rfl ⟨b2, st8, hb2, hv8, rfl⟩
        clear hX
        have eb2 : ∀ s, esc s (bkD b2) = .ok (bkD b2) s := fun _ => rfl
        have hf := f_fault (n + 13) b2 st8 (hb2.bk (by decide))
        push_cast [c__law_heave, gt_of (α := W), gt_of (α := Nat), gt_of (α := StT), gt_of (α := RwT), eb2, c__law_fault, hf, esc_badD, rng_4]
        generalize hX : forL _ _ _ _ = X
        refine loop_use hX (fun r s => ∃ (st : List MO) (a6 a10 : Sl), (∀ x ∈ r, x < 4) ∧ VOk (20000 * r2.length + 700 * r3.length) p st ∧ s = ⟨[.val (.lst (ns.map .int)), .val (.int (k : Int)), .val (.obj p), .val (.int (j : Int)), .val (bkD b), .val (.lst ((looksOf b.1).map .str)), a6, .val (.int (i : Int)), .val (bkD b2), .val (badD (badOf b2)), a10], st⟩) ⟨st8, _, _, fun x hx => List.mem_range.mp hx, hv8, rfl⟩ ?_ ?_
        · rintro w r4 s hw ⟨st9, a6, a10, hr4, hv9, rfl⟩
          have hw4 := hr4 w (List.mem_cons_self ..)
          clear hX
          have hr4' : ∀ x ∈ r4, x < 4 := fun x hx => hr4 x (List.mem_cons_of_mem _ hx)
          have hww : (w : Int) = 0 ∨ (w : Int) = 1 ∨ (w : Int) = 2 ∨ (w : Int) = 3 := by omega
          by_cases hbf : badOf b2 = .fine
          · have hc : (w = 0 ∨ w = 1) ∨ w = 2 ∨ w = 3 := by omega
            rw [hbf]
            rcases hc with hc | rfl | rfl
            · have ht := f_told_01 (n + 11) (w : Int) b2 st9 hb2 (by omega) hbf
              push_cast [c__law_heave, gt_of (α := W), gt_of (α := Nat), gt_of (α := StT), gt_of (α := RwT), eb2, c__law_told, ht, nn_fine, de_badD, beq_self_eq_true]
              exact ⟨_, rfl, st9, _, _, hr4', hv9, rfl⟩
            · have ht : F__law_told (n + 11 + 8) [.int ((2 : Nat) : Int), bkD b2] st9 = _ := f_told_2 (n + 11) b2 st9 hb2 hbf
              push_cast [c__law_heave, gt_of (α := W), gt_of (α := Nat), gt_of (α := StT), gt_of (α := RwT), eb2, c__law_told, ht, nn_fine, de_badD, beq_self_eq_true]
              exact ⟨_, rfl, _, _, _, hr4', hv9.app, rfl⟩
            · have ht : F__law_told (n + 11 + 8) [.int ((3 : Nat) : Int), bkD b2] st9 = _ := f_told_3 (n + 11) b2 st9 hb2 hbf
              push_cast [c__law_heave, gt_of (α := W), gt_of (α := Nat), gt_of (α := StT), gt_of (α := RwT), eb2, c__law_told, ht, nn_fine, de_badD, beq_self_eq_true]
              exact ⟨_, rfl, st9, _, _, hr4', hv9, rfl⟩
          · have ht := f_told_bad (n + 11) (w : Int) b2 st9 hb2 hww hbf
            have hag := ag_badD (n := n + 18) (b := b2) (st := st9) hbf
            push_cast [c__law_heave, gt_of (α := W), gt_of (α := Nat), gt_of (α := StT), gt_of (α := RwT), eb2, c__law_told, ht, nn_bad hbf, de_badD, esc_badD, c__law_agree, hag]
            exact ⟨_, rfl, st9, _, _, hr4', hv9, rfl⟩
        · rintro _ rfl ⟨st9, a6, a10, hr4, hv9, rfl⟩
          push_cast [c__law_heave, gt_of (α := W), gt_of (α := Nat), gt_of (α := StT), gt_of (α := RwT)]
          exact ⟨_, rfl, st9, _, _, _, _, _, hv9, rfl⟩
      · rintro _ rfl ⟨st5, a6, a7, a8, a9, a10, hv5, rfl⟩
        push_cast [c__law_heave, gt_of (α := W), gt_of (α := Nat), gt_of (α := StT), gt_of (α := RwT)]
        exact ⟨_, rfl, st5, _, _, _, _, _, _, _, _, hv5.mono (by simp), rfl⟩
    · rintro _ rfl ⟨st2, a3, a4, a5, a6, a7, a8, a9, a10, hv2, rfl⟩
      push_cast [c__law_heave, gt_of (α := W), gt_of (α := Nat), gt_of (α := StT), gt_of (α := RwT)]
      exact ⟨_, rfl, st2, _, _, _, _, _, _, _, _, _, _, fun x hx => hr x (List.mem_cons_of_mem _ hx), rfl⟩
  · rintro _ rfl ⟨st, a1, a2, a3, a4, a5, a6, a7, a8, a9, a10, hr, rfl⟩
    clear hX
    have k1 := f_told_bad (n + 11) 0 ([], []) st ⟨rfl, by simp, by simp, by simp⟩ (.inl rfl) (by rw [show badOf ([], []) = .st 0 from rfl]; exact fun h => nomatch h)
    have k2 := f_told_01 (n + 11) 1 ([(z_a, false, false)], []) st ⟨by decide, by simp, by simp, by simp⟩ (.inr rfl) rfl
    simp only [bkD, List.map_nil, List.map_cons, stD] at k1 k2
    rw [show badOf ([], []) = .st 0 from rfl] at k1
    simp only [badD] at k1
    push_cast [seq_ite, triR_ite, c__law_told, k1, k2]
    refine ⟨st, ?_⟩
    rw [show eqDs [D.str z_states, D.int ((0 : Nat) : Int)] [D.str z_states, D.int 0] = true by simp [eqDs, eqD], show eqDs [D.str z_fine, D.non] [D.str z_fine, D.non] = true by simp [eqDs, eqD]]
    rfl
theorem law_ok : LawD (F_law 60) := fun ns hn => f_law 40 ns hn

end DM
end
theorem PySem.Challenge.cw_onehold_k01_books_checked_holds : PySem.Challenge.rw_onehold_k01_books_checked.Holds :=
  holds_of DM.law_ok
