import PyProof.Rows.All
import Wide.All
import OpenK.AllK
import Wide.FinOn
import HandS.Base
import HandS.Call
import HandS.List
import HandS.Comp
import HandS.Text
import HandS.Iter
import HandS.Flow
import HandS.IsInst
import HandS.ListEq
import HandS.DictEq
import KE.KEqNest
import HandS.Dict
import HandS.More
import HandS.TupAny
import PyProof.NeKinds
import HandS.Style
import HandS.WordsDict
import HandS.RaiseMore
import KE.KIndexOf
import HandS.Walk
import HandS.Small
import HandS.Codes
import HandS.Defaults
import KE.KStateDown
import HandS.Ends
import HandS.Words
import HandS.WordsExc
import HandS.Head0
import HandS.Head1
import HandS.Head2
import HandS.HeadEnd
import HandS.HeadHook1
import HandS.HeadHook2
import PySem.Challenge.RW_loomlook_k02_what_values_come_to
set_option Elab.async false
set_option linter.all false
set_option maxRecDepth 100000
/-! Core A: the small language (IR) and its evaluator: data D, cells, expressions E, statements S. -/
namespace Lo
open PySem L2
/-- frozen data: nothing in it is ever changed again -/
inductive D where
  | non | bl (b : Bool) | int (i : Int) | str (s : Str)
  | tup (ds : List D) | lst (ds : List D) | dct (ks : List Key) (ds : List D)
  | scr (ns : List Int)                -- the script
  deriving Inhabited
/-- a value: data, a cell, a tuple that holds cells -/
inductive A where
  | val (d : D) | ref (n : Nat) | tup (as : List A)
  deriving Inhabited
/-- what a cell holds -/
inductive C where
  | lst (as : List A) | dct (ks : List Key) (as : List A) | dead
  deriving Inhabited
abbrev Hh := List C
abbrev En := List (Option A)
inductive R (α : Type) where
  | ok (a : α) (h : Hh) | exc (c : Nat) (h : Hh) | no
abbrev M (α : Type) := Hh → R α
def M.pure {α : Type} (a : α) : M α := fun h => .ok a h
def M.bind {α β : Type} (x : M α) (f : α → M β) : M β := fun h => match x h with
  | .ok a h' => f a h'
  | .exc c h' => .exc c h'
  | .no => .no
def M.no {α : Type} : M α := fun _ => .no
def M.lift {α : Type} (o : Option α) : M α := match o with
  | some a => M.pure a
  | none => M.no
def M.get : M Hh := fun h => .ok h h
/-- so it must be -/
def M.chk (b : Bool) : M Unit := fun h => match b with
  | true => .ok () h
  | false => .no
instance : Monad M where
  pure := M.pure
  bind := M.bind
/-! ### lists of values -/
def mapO {α β : Type} (f : α → Option β) : List α → Option (List β)
  | [] => some []
  | a :: r => match f a with
    | some b => (match mapO f r with
      | some bs => some (b :: bs)
      | none => none)
    | none => none
def mapM' {α β : Type} (f : α → M β) : List α → M (List β)
  | [] => M.pure []
  | a :: r => M.bind (f a) fun b => M.bind (mapM' f r) fun bs => M.pure (b :: bs)
/-! ### reading a value as it stands -/
def snap : Nat → Hh → A → Option D
  | _, _, .val d => some d
  | 0, _, _ => none
  | k + 1, h, .ref n => match h[n]? with
    | some (.lst as) => (mapO (snap k h) as).map D.lst
    | some (.dct ks as) => (mapO (snap k h) as).map (D.dct ks)
    | _ => none
  | k + 1, h, .tup as => (mapO (snap k h) as).map D.tup
def sn (a : A) : M D := fun h => match snap 3 h a with
  | some d => .ok d h
  | none => .no
/-- a value whose parts are data -/
def sf (a : A) : M D := fun h => match snap 1 h a with
  | some d => .ok d h
  | none => .no
/-! ### cells -/
def alloc (c : C) : M Nat := fun h => .ok h.length (h ++ [c])
def setC (n : Nat) (c : C) : M Unit := fun h => .ok () (h.set n c)
/-- the value is frozen; cells in it are dead behind it -/
def frz : Nat → A → M D
  | _, .val d => M.pure d
  | 0, _ => M.no
  | k + 1, .ref n => M.bind M.get fun h => match h[n]? with
    | some (.lst as) => M.bind (setC n .dead) fun _ => M.bind (mapM' (frz k) as) fun ds => M.pure (.lst ds)
    | some (.dct ks as) => M.bind (setC n .dead) fun _ => M.bind (mapM' (frz k) as) fun ds => M.pure (.dct ks ds)
    | _ => M.no
  | k + 1, .tup as => M.bind (mapM' (frz k) as) fun ds => M.pure (.tup ds)
def frzL (as : List A) : M (List D) := mapM' (frz 3) as
mutual
/-- all cells in a value stand below b -/
def A.lo (b : Nat) : A → Bool
  | .val _ => true
  | .ref n => Nat.blt n b
  | .tup as => loL b as
def loL (b : Nat) : List A → Bool
  | [] => true
  | a :: r => a.lo b && loL b r
end
/-- a may be stored into the cell n, in a frame that began at b -/
def may (b n : Nat) (a : A) : Bool := Nat.ble b n || a.lo n
/-- a new list: data, or a cell -/
def mkD (m : Bool) (d : D) : M A := match m with
  | false => M.pure (.val d)
  | true => match d with
    | .lst ds => M.bind (alloc (.lst (ds.map A.val))) fun n => M.pure (.ref n)
    | .dct ks ds => M.bind (alloc (.dct ks (ds.map A.val))) fun n => M.pure (.ref n)
    | _ => M.no
/-- the youngest list cell is frozen, with all behind it it goes -/
def topL (m : Bool) (n : Nat) : M A := match m with
  | true => M.pure (.ref n)
  | false => M.bind (frz 4 (.ref n)) fun d => fun h => .ok (.val d) (h.take n)
/-! ### operations on data -/
inductive Op where | add | sub | mul | mod | fdiv | pow
  deriving DecidableEq
inductive Cp where | eq | ne | lt | le | gt | ge | is_ | isn | in_ | nin
  deriving DecidableEq
def opD : Op → D → D → Option D
  | .add, .int i, .int j => some (.int (i + j))
  | .add, .str x, .str y => if x.length + y.length ≤ sizeLine then some (.str (x ++ y)) else none
  | .add, .lst x, .lst y => if x.length + y.length ≤ sizeLine then some (.lst (x ++ y)) else none
  | .add, .tup x, .tup y => if x.length + y.length ≤ sizeLine then some (.tup (x ++ y)) else none
  | .sub, .int i, .int j => some (.int (i - j))
  | .mul, .int i, .int j => if (-(2 ^ 64) < i ∧ i < 2 ^ 64) ∨ (-(2 ^ 64) < j ∧ j < 2 ^ 64) then some (.int (i * j)) else none
  | .mul, .lst x, .int k => if -(2 ^ 63) ≤ k ∧ k < 2 ^ 63 ∧ x.length * k.toNat ≤ sizeLine then some (.lst (List.replicate k.toNat x).flatten) else none
  | .mod, .int i, .int j => if 0 < j then some (.int (i % j)) else none
  | .fdiv, .int i, .int j => if 0 < j ∧ j < 1073741824 then some (.int (i / j)) else none
  | .pow, .int i, .int j => if 0 ≤ j ∧ j ≤ 1000000 ∧ i.natAbs < 2 ^ 64 then some (.int (i ^ j.toNat)) else none
  | _, _, _ => none
def lookK {α : Type} (k : Key) : List Key → List α → Option α
  | j :: ks, d :: ds => if j = k then some d else lookK k ks ds
  | _, _ => none
mutual
/-- plain: no dicts in it, at most n deep -/
def D.pl : D → Nat → Bool
  | .tup ds, n => (match n with
    | 0 => false
    | n + 1 => plL ds n)
  | .lst ds, n => (match n with
    | 0 => false
    | n + 1 => plL ds n)
  | .dct _ _, _ => false
  | .scr _, _ => false
  | _, _ => true
def plL : List D → Nat → Bool
  | [], _ => true
  | d :: ds, n => d.pl n && plL ds n
end
mutual
/-- two things that == is told of -/
def D.okc : D → D → Nat → Bool
  | .dct _ ds, .dct _ es, n => (match n with
    | 0 => false
    | n + 1 => plL ds n && plL es n)
  | .lst xs, .lst ys, n => (match n with
    | 0 => false
    | n + 1 => okcL xs ys n)
  | d, e, n => d.pl n && e.pl n
def okcL : List D → List D → Nat → Bool
  | x :: xs, y :: ys, n => x.okc y n && okcL xs ys n
  | _, _, _ => true
end
mutual
/-- == of data -/
def D.eqv : D → D → Bool
  | .non, .non => true
  | .bl a, .bl b => a == b
  | .bl a, .int j => (if a then 1 else 0) == j
  | .int i, .bl b => i == (if b then 1 else 0)
  | .int i, .int j => i == j
  | .str x, .str y => x == y
  | .tup x, .tup y => eqvL x y
  | .lst x, .lst y => eqvL x y
  | .dct ks ds, .dct ls es => ks.length == ls.length && eqvK ks ds ls es
  | _, _ => false
def eqvL : List D → List D → Bool
  | [], [] => true
  | x :: xs, y :: ys => x.eqv y && eqvL xs ys
  | _, _ => false
def eqvK : List Key → List D → List Key → List D → Bool
  | _, [], _, _ => true
  | [], _ :: _, _, _ => true
  | k :: ks, d :: ds, ls, es => (match lookK k ls es with
    | some e => d.eqv e
    | none => false) && eqvK ks ds ls es
end
def eqD (d e : D) : Option Bool := match d.okc e 50 with
  | true => some (d.eqv e)
  | false => none
def cmpI : Cp → Int → Int → Option Bool
  | .lt, i, j => some (decide (i < j))
  | .le, i, j => some (decide (i ≤ j))
  | .gt, i, j => some (decide (j < i))
  | .ge, i, j => some (decide (j ≤ i))
  | _, _, _ => none
def isNon : D → Bool
  | .non => true
  | _ => false
/-- one sign -/
def oneSign (s : Str) : Option Nat := match s.cps.toList with
  | [c] => some c
  | _ => none
def keyOf : D → Option Key
  | .int i => some (.inl i)
  | .str x => some (.inr x)
  | _ => none
def inD (d e : D) : Option Bool := match e with
  | .lst ds => (match d.pl 50 && plL ds 50 with
    | true => some (ds.any fun z => z.eqv d)
    | false => none)
  | .tup ds => (match d.pl 50 && plL ds 50 with
    | true => some (ds.any fun z => z.eqv d)
    | false => none)
  | .str z => (match d with
    | .str x => (oneSign x).map fun c => decide (c ∈ z.cps.toList)
    | _ => none)
  | .dct ks _ => (keyOf d).map fun k => ks.any fun j => decide (j = k)
  | _ => none
def cmpD : Cp → D → D → Option Bool
  | .eq, d, e => eqD d e
  | .ne, d, e => (match d.pl 50 && e.pl 50 with
    | true => some (!d.eqv e)
    | false => none)
  | .is_, d, .non => some (isNon d)
  | .isn, d, .non => some (!isNon d)
  | .in_, d, e => inD d e
  | .nin, d, e => (inD d e).map fun b => !b
  | c, .int i, .int j => cmpI c i j
  | _, _, _ => none
def truD : D → Option Bool
  | .non => some false
  | .bl b => some b
  | .int i => some (i != 0)
  | .str x => if x.length ≤ sizeLine then some ((x.length : Int) != 0) else none
  | .tup ds => some (!ds.isEmpty)
  | .lst ds => some (!ds.isEmpty)
  | .dct ks _ => some (!ks.isEmpty)
  | .scr ns => some (!ns.isEmpty)
def truA (a : A) : M Bool := fun h => match a with
  | .val d => (match truD d with
    | some t => .ok t h
    | none => .no)
  | .tup as => .ok (!as.isEmpty) h
  | .ref n => (match h[n]? with
    | some (.lst as) => .ok (!as.isEmpty) h
    | some (.dct ks _) => .ok (!ks.isEmpty) h
    | _ => .no)
/-- xs[i] by Python's count -/
def atP {α : Type} (xs : List α) (i : Int) : Option α := atI xs i
def idxD : D → D → Option D
  | .lst ds, .int i => atP ds i
  | .tup ds, .int i => atP ds i
  | .str x, .int i => if x.length ≤ sizeLine then (atP x.cps.toList i).map fun c => .str ⟨#[c]⟩ else none
  | .dct ks ds, e => (keyOf e).bind fun k => lookK k ks ds
  | .scr ns, .int i => (atP ns i).map D.int
  | _, _ => none
def cutL {α : Type} (xs : List α) (lo hi : Option Int) : List α := (xs.drop (HT.sIx xs.length 0 lo)).take (HT.sIx xs.length xs.length hi - HT.sIx xs.length 0 lo)
def slcD : D → Option Int → Option Int → Option D
  | .lst ds, lo, hi => some (.lst (cutL ds lo hi))
  | .scr ns, lo, hi => some (.lst ((cutL ns lo hi).map D.int))
  | .tup ds, lo, hi => some (.tup (cutL ds lo hi))
  | .str x, lo, hi => if x.length ≤ sizeLine then some (.str ⟨(cutL x.cps.toList lo hi).toArray⟩) else none
  | _, _, _ => none
def partD : D → Option Int
  | .int i => some i
  | _ => none
/-! ### the language -/
inductive Ty where | int | bool | str | tup | lst | dct
  deriving DecidableEq
inductive Bl where | len | int | abs | str | list | tuple | dict | all | any
  deriving DecidableEq
inductive B2 where | max | min
  deriving DecidableEq
inductive Mt where | index | find | upper | join | get
  deriving DecidableEq
/-- a target: a name, a tuple of names -/
inductive Tg where
  | one (i : Nat) | many (is : List Nat)
mutual
inductive E where
  | var (i : Nat) | cst (d : D) | glb (x : Str) (d : D)
  | tup (keep : Bool) (es : Es) | lst (m : Bool) (es : Es)
  | op (m : Bool) (o : Op) (a b : E) | neg (a : E)
  | cmp (o : Cp) (a b : E) | chain (o p : Cp) (a b c : E)
  | and (a b : E) | or (a b : E) | not (a : E) | ite (c a b : E)
  | idx (a b : E)
  | slL (m : Bool) (a lo : E) | slU (m : Bool) (a hi : E) | slB (m : Bool) (a lo hi : E) | rev (m : Bool) (a : E)
  | call (f : Nat) (es : Es)
  | bl1 (b : Bl) (m : Bool) (a : E) | bl2 (b : B2) (a c : E)
  | isi (a : E) (tp : Bool) (ts : List Ty)
  | mt1 (t : Mt) (m : Bool) (a b : E) | mt0 (t : Mt) (m : Bool) (a : E)
  | lc (m : Bool) (body : E) (own : List Nat) (tg : Tg) (it : It) | lcI (m : Bool) (body : E) (own : List Nat) (tg : Tg) (it : It) (c : E)
inductive Es where
  | nil | cons (e : E) (es : Es)
inductive It where
  | seq (e : E) | rng1 (a : E) | rng2 (a b : E) | enm (e : E) | zip (a b : E)
end
/-! ### the evaluator -/
def lenA (a : A) : M Nat := fun h => match a with
  | .val (.lst ds) => .ok ds.length h
  | .val (.tup ds) => .ok ds.length h
  | .val (.dct ks _) => .ok ks.length h
  | .val (.scr ns) => .ok ns.length h
  | .val (.str x) => (match decide (x.length ≤ sizeLine) with
    | true => .ok x.length h
    | false => .no)
  | .tup as => .ok as.length h
  | .ref n => (match h[n]? with
    | some (.lst as) => .ok as.length h
    | some (.dct ks _) => .ok ks.length h
    | _ => .no)
  | _ => .no
def idxA (a : A) (d : D) : M A := fun h => match a with
  | .val x => (match idxD x d with
    | some y => .ok (.val y) h
    | none => .no)
  | .tup as => (match d with
    | .int i => (match atP as i with
      | some y => .ok y h
      | none => .no)
    | _ => .no)
  | .ref n => (match h[n]? with
    | some (.lst as) => (match d with
      | .int i => (match atP as i with
        | some y => .ok y h
        | none => .no)
      | _ => .no)
    | some (.dct ks as) => (match keyOf d with
      | some k => (match lookK k ks as with
        | some y => .ok y h
        | none => .no)
      | none => .no)
    | _ => .no)
def pairsD : List D → Option (List (Key × D))
  | [] => some []
  | .tup [k, v] :: r => (match keyOf k with
    | some k => (match pairsD r with
      | some ps => some ((k, v) :: ps)
      | none => none)
    | none => none)
  | _ :: _ => none
/-- a key is given a value: at its place, or behind all -/
def putP {α : Type} (ps : List (Key × α)) (k : Key) (v : α) : List (Key × α) :=
  if (ps.any fun p => decide (p.1 = k)) = true then ps.map (fun p => if p.1 = k then (p.1, v) else p) else ps ++ [(k, v)]
def mkDict (ps : List (Key × D)) : D := let r := ps.foldl (fun acc p => putP acc p.1 p.2) []
  .dct (r.map (·.1)) (r.map (·.2))
def keyD : Key → D
  | .inl i => .int i
  | .inr x => .str x
def blsD : List D → Option (List Bool)
  | [] => some []
  | .bl b :: r => (match blsD r with
    | some bs => some (b :: bs)
    | none => none)
  | _ :: _ => none
def strsD : List D → Option (List Str)
  | [] => some []
  | .str x :: r => (match strsD r with
    | some bs => some (x :: bs)
    | none => none)
  | _ :: _ => none
def blD : Bl → D → Option D
  | .int, .bl b => some (.int (if b then 1 else 0))
  | .int, .int i => some (.int i)
  | .abs, .int i => some (.int (if i < 0 then -i else i))
  | .str, .int i => if i.natAbs.log2 < 1920 then some (.str (toString i : String)) else none
  | .str, .str x => some (.str x)
  | .list, .lst ds => some (.lst ds)
  | .list, .scr ns => some (.lst (ns.map D.int))
  | .list, .tup ds => some (.lst ds)
  | .list, .dct ks _ => some (.lst (ks.map keyD))
  | .tuple, .lst ds => some (.tup ds)
  | .tuple, .tup ds => some (.tup ds)
  | .dict, .dct ks ds => some (.dct ks ds)
  | .dict, .lst ds => (pairsD ds).map mkDict
  | .all, .lst ds => (blsD ds).map fun bs => .bl (bs.all id)
  | .any, .lst ds => (blsD ds).map fun bs => .bl (bs.any id)
  | _, _ => none
def b2D : B2 → D → D → Option D
  | .max, .int i, .int j => some (.int (if j > i then j else i))
  | .min, .int i, .int j => some (.int (if j < i then j else i))
  | _, _, _ => none
def tyD : Ty → D → Bool
  | .int, .int _ => true
  | .int, .bl _ => true
  | .bool, .bl _ => true
  | .str, .str _ => true
  | .tup, .tup _ => true
  | .lst, .lst _ => true
  | .lst, .scr _ => true
  | .dct, .dct _ _ => true
  | _, _ => false
/-- the kind alone of a value -/
def kindA (a : A) : M D := fun h => match a with
  | .val d => .ok d h
  | .tup _ => .ok (.tup []) h
  | .ref n => (match h[n]? with
    | some (.lst _) => .ok (.lst []) h
    | some (.dct _ _) => .ok (.dct [] []) h
    | _ => .no)
/-- the place of the first equal one -/
def findD (d : D) : List D → Option Nat
  | [] => none
  | z :: r => match z.eqv d with
    | true => some 0
    | false => (findD d r).map (· + 1)
def mtD : Mt → D → D → Option D
  | .index, .lst ds, e => (match e.pl 50 && plL ds 50 with
    | true => (findD e ds).map fun n => .int n
    | false => none)
  | .index, .tup ds, e => (match e.pl 50 && plL ds 50 with
    | true => (findD e ds).map fun n => .int n
    | false => none)
  | _, _, _ => none
def mt0D : Mt → D → Option D
  | _, _ => none
def wipeE (env : En) : List Nat → En
  | [] => env
  | v :: vs => (wipeE env vs).set v none
def bindMany : List Nat → List A → En → Option En
  | [], [], env => some env
  | i :: is, a :: as, env => bindMany is as (env.set i (some a))
  | _, _, _ => none
def bindT (tg : Tg) (a : A) (env : En) : Option En := match tg with
  | .one i => some (env.set i (some a))
  | .many is => match a with
    | .val (.tup ds) => bindMany is (ds.map A.val) env
    | .tup as => bindMany is as env
    | _ => none
def rngL (lo : Int) : Nat → List A
  | 0 => []
  | n + 1 => .val (.int lo) :: rngL (lo + 1) n
def itemsA (a : A) : M (List A) := fun h => match a with
  | .val (.lst ds) => .ok (ds.map A.val) h
  | .val (.tup ds) => .ok (ds.map A.val) h
  | .val (.scr ns) => .ok (ns.map fun i => .val (.int i)) h
  | .val (.str x) => .ok (x.cps.toList.map fun c => .val (.str ⟨#[c]⟩)) h
  | .tup as => .ok as h
  | .ref n => (match h[n]? with
    | some (.lst as) => .ok as (h.set n .dead)
    | _ => .no)
  | _ => .no
def small62 (i : Int) : Bool := decide (-(2 ^ 62) ≤ i) && decide (i < 2 ^ 62)
def rangeA (lo hi : D) : M (List A) := match lo, hi with
  | .int i, .int j => M.bind (M.chk (small62 i && small62 j)) fun _ => M.pure (rngL i (j - i).toNat)
  | _, _ => M.no
def enumL (i : Int) : List A → List A
  | [] => []
  | a :: r => .tup [.val (.int i), a] :: enumL (i + 1) r
def zipL : List A → List A → List A
  | a :: r, b :: q => .tup [a, b] :: zipL r q
  | _, _ => []
/-- the turns of a comprehension: the list grows in cell n -/
def pushC (n : Nat) (y : A) : M Unit := fun h => match h[n]? with
  | some (.lst as) => (match decide (as.length < sizeLine) with
    | true => .ok () (h.set n (.lst (as ++ [y])))
    | false => .no)
  | _ => .no
def turns (f : A → M Unit) : List A → M Unit
  | [] => M.pure ()
  | a :: r => M.bind (f a) fun _ => turns f r
section
variable (cf : Nat → List A → M A)
mutual
def evE : Nat → E → En → M A
  | _, .var i, env => match env[i]? with
    | some (some a) => M.pure a
    | _ => M.no
  | _, .cst d, _ => M.pure (.val d)
  | _, .glb _ d, _ => M.pure (.val d)
  | b, .tup keep es, env => M.bind (evEs b es env) fun as => match keep with
    | true => M.pure (.tup as)
    | false => M.bind (frzL as) fun ds => M.pure (.val (.tup ds))
  | b, .lst m es, env => M.bind (evEs b es env) fun as => match m with
    | true => M.bind (alloc (.lst as)) fun n => M.pure (.ref n)
    | false => M.bind (frzL as) fun ds => M.pure (.val (.lst ds))
  | b, .op m o x y, env => M.bind (evE b x env) fun x => M.bind (evE b y env) fun y => M.bind (sf x) fun d => M.bind (sf y) fun e => M.bind (M.lift (opD o d e)) (mkD m)
  | b, .neg x, env => M.bind (evE b x env) fun x => M.bind (sf x) fun d => match d with
    | .int i => M.pure (.val (.int (-i)))
    | _ => M.no
  | b, .cmp o x y, env => M.bind (evE b x env) fun x => M.bind (evE b y env) fun y => M.bind (sn x) fun d => M.bind (sn y) fun e => M.bind (M.lift (cmpD o d e)) fun r => M.pure (.val (.bl r))
  | b, .chain o p x y z, env => M.bind (evE b x env) fun x => M.bind (evE b y env) fun y => M.bind (sn x) fun d => M.bind (sn y) fun e => M.bind (M.lift (cmpD o d e)) fun r => match r with
    | true => M.bind (evE b z env) fun z => M.bind (sn y) fun e => M.bind (sn z) fun f => M.bind (M.lift (cmpD p e f)) fun r => M.pure (.val (.bl r))
    | false => M.pure (.val (.bl false))
  | b, .and x y, env => M.bind (evE b x env) fun x => M.bind (truA x) fun t => match t with
    | true => evE b y env
    | false => M.pure x
  | b, .or x y, env => M.bind (evE b x env) fun x => M.bind (truA x) fun t => match t with
    | true => M.pure x
    | false => evE b y env
  | b, .not x, env => M.bind (evE b x env) fun x => M.bind (truA x) fun t => M.pure (.val (.bl (!t)))
  | b, .ite c x y, env => M.bind (evE b c env) fun c => M.bind (truA c) fun t => match t with
    | true => evE b x env
    | false => evE b y env
  | b, .idx x y, env => M.bind (evE b x env) fun x => M.bind (evE b y env) fun y => M.bind (sf y) fun e => idxA x e
  | b, .slL m x l, env => M.bind (evE b x env) fun x => M.bind (evE b l env) fun l => M.bind (sf l) fun e => M.bind (M.lift (partD e)) fun i => M.bind (sf x) fun d => M.bind (M.lift (slcD d (some i) none)) (mkD m)
  | b, .slU m x u, env => M.bind (evE b x env) fun x => M.bind (evE b u env) fun u => M.bind (sf u) fun e => M.bind (M.lift (partD e)) fun j => M.bind (sf x) fun d => M.bind (M.lift (slcD d none (some j))) (mkD m)
  | b, .slB m x l u, env => M.bind (evE b x env) fun x => M.bind (evE b l env) fun l => M.bind (sf l) fun e => M.bind (M.lift (partD e)) fun i => M.bind (evE b u env) fun u => M.bind (sf u) fun e => M.bind (M.lift (partD e)) fun j => M.bind (sf x) fun d => M.bind (M.lift (slcD d (some i) (some j))) (mkD m)
  | b, .rev m x, env => M.bind (evE b x env) fun x => M.bind (sf x) fun d => match d with
    | .lst ds => mkD m (.lst ds.reverse)
    | _ => M.no
  | b, .call f es, env => M.bind (evEs b es env) fun as => cf f as
  | b, .bl1 .len _ x, env => M.bind (evE b x env) fun x => M.bind (lenA x) fun n => M.pure (.val (.int n))
  | b, .bl1 o m x, env => M.bind (evE b x env) fun x => M.bind (sf x) fun d => M.bind (M.lift (blD o d)) (mkD m)
  | b, .bl2 o x y, env => M.bind (evE b x env) fun x => M.bind (evE b y env) fun y => M.bind (sf x) fun d => M.bind (sf y) fun e => M.bind (M.lift (b2D o d e)) fun d => M.pure (.val d)
  | b, .isi x _ ts, env => M.bind (evE b x env) fun x => M.bind (kindA x) fun d => M.pure (.val (.bl (ts.any fun t => tyD t d)))
  | b, .mt1 o m x y, env => M.bind (evE b x env) fun x => M.bind (evE b y env) fun y => M.bind (sn x) fun d => M.bind (sn y) fun e => M.bind (M.lift (mtD o d e)) (mkD m)
  | b, .mt0 o m x, env => M.bind (evE b x env) fun x => M.bind (sf x) fun d => M.bind (M.lift (mt0D o d)) (mkD m)
  | b, .lc m body own tg it, env => M.bind (evIt b it env) fun items => M.bind (alloc (.lst [])) fun n =>
      M.bind (turns (fun a => M.bind (M.lift (bindT tg a (wipeE env own))) fun env' => M.bind (evE (n + 1) body env') fun y => pushC n y) items) fun _ => topL m n
  | b, .lcI m body own tg it c, env => M.bind (evIt b it env) fun items => M.bind (alloc (.lst [])) fun n =>
      M.bind (turns (fun a => M.bind (M.lift (bindT tg a (wipeE env own))) fun env' => M.bind (evE (n + 1) c env') fun t => M.bind (truA t) fun t => match t with
        | true => M.bind (evE (n + 1) body env') fun y => pushC n y
        | false => M.pure ()) items) fun _ => topL m n
def evEs : Nat → Es → En → M (List A)
  | _, .nil, _ => M.pure []
  | b, .cons e es, env => M.bind (evE b e env) fun a => M.bind (evEs b es env) fun as => M.pure (a :: as)
def evIt : Nat → It → En → M (List A)
  | b, .seq e, env => M.bind (evE b e env) itemsA
  | b, .rng1 x, env => M.bind (evE b x env) fun x => M.bind (sf x) fun d => rangeA (.int 0) d
  | b, .rng2 x y, env => M.bind (evE b x env) fun x => M.bind (evE b y env) fun y => M.bind (sf x) fun d => M.bind (sf y) fun e => rangeA d e
  | b, .enm e, env => M.bind (evE b e env) fun x => M.bind (itemsA x) fun as => M.pure (enumL 0 as)
  | b, .zip x y, env => M.bind (evE b x env) fun x => M.bind (evE b y env) fun y => M.bind (itemsA x) fun as => M.bind (itemsA y) fun bs => M.pure (zipL as bs)
end
end
inductive Fl where
  | nx (env : En) | rt (a : A) | bk (env : En) | ct (env : En)
mutual
inductive S where
  | set (tg : Tg) (e : E)              -- x = e; a, b = e
  | put (o i e : E)                    -- o[i] = e
  | app (o e : E)                      -- o.append(e)
  | aug (i : Nat) (o : Op) (e : E)     -- x += e, an int or a text
  | augL (i : Nat) (e : E)             -- x += e, a list
  | exp (e : E) | ret (e : E) | retN
  | ite (c : E) (a b : Ss)
  | for_ (tg : Tg) (it : It) (body : Ss) | whl (c : E) (body : Ss)
  | pass | brk | cnt
inductive Ss where
  | nil | cons (s : S) (r : Ss)
end
def storeA (b : Nat) (a : A) (d : D) (y : A) : M Unit := fun h => match a with
  | .ref n => (match may b n y with
    | true => (match h[n]? with
      | some (.lst as) => (match d with
        | .int i => (match ixN as.length i with
          | some j => .ok () (h.set n (.lst (as.set j y)))
          | none => .no)
        | _ => .no)
      | some (.dct ks as) => (match keyOf d with
        | some k => (match decide (ks.length < sizeLine) with
          | true => .ok () (h.set n (let r := putP (ks.zip as) k y; .dct (r.map (·.1)) (r.map (·.2))))
          | false => .no)
        | none => .no)
      | _ => .no)
    | false => .no)
  | _ => .no
def appA (b : Nat) (a : A) (y : A) : M Unit := match a with
  | .ref n => M.bind (M.chk (may b n y)) fun _ => pushC n y
  | _ => M.no
/-- the loops: each turn ends by a flow -/
def forL (f : A → En → M Fl) : List A → En → M Fl
  | [], env => M.pure (.nx env)
  | a :: r, env => M.bind (f a env) fun fl => match fl with
    | .nx env' => forL f r env'
    | .ct env' => forL f r env'
    | .bk env' => M.pure (.nx env')
    | .rt v => M.pure (.rt v)
def whlL (c : En → M Bool) (f : En → M Fl) : Nat → En → M Fl
  | 0, _ => M.no
  | n + 1, env => M.bind (c env) fun t => match t with
    | false => M.pure (.nx env)
    | true => M.bind (f env) fun fl => match fl with
      | .nx env' => whlL c f n env'
      | .ct env' => whlL c f n env'
      | .bk env' => M.pure (.nx env')
      | .rt v => M.pure (.rt v)
/-- the turns that a while may take -/
def most : Nat := 1000000000
section
variable (cf : Nat → List A → M A)
mutual
def evS (b : Nat) : S → En → M Fl
  | .set tg e, env => M.bind (evE cf b e env) fun a => M.bind (M.lift (bindT tg a env)) fun env' => M.pure (.nx env')
  | .put o i e, env => M.bind (evE cf b e env) fun y => M.bind (evE cf b o env) fun x => M.bind (evE cf b i env) fun i => M.bind (sf i) fun d => M.bind (storeA b x d y) fun _ => M.pure (.nx env)
  | .app o e, env => M.bind (evE cf b o env) fun x => M.bind (kindA x) fun k => M.bind (M.chk (tyD .lst k)) fun _ => M.bind (evE cf b e env) fun y => M.bind (appA b x y) fun _ => M.pure (.nx env)
  | .aug i o e, env => match env[i]? with
    | some (some x) => M.bind (evE cf b e env) fun y => M.bind (sf x) fun d => M.bind (sf y) fun e => M.bind (M.lift (match d with
        | .int _ => opD o d e
        | .str _ => opD o d e
        | _ => none)) fun z => M.pure (.nx (env.set i (some (.val z))))
    | _ => M.no
  | .augL i e, env => match env[i]? with
    | some (some x) => M.bind (evE cf b e env) fun y => M.bind (sf y) fun d => match x, d with
      | .ref n, .lst ds => M.bind (turns (fun z => pushC n z) (ds.map A.val)) fun _ => M.pure (.nx env)
      | _, _ => M.no
    | _ => M.no
  | .exp e, env => M.bind (evE cf b e env) fun _ => M.pure (.nx env)
  | .ret e, env => M.bind (evE cf b e env) fun a => M.pure (.rt a)
  | .retN, _ => M.pure (.rt (.val .non))
  | .ite c p q, env => M.bind (evE cf b c env) fun c => M.bind (truA c) fun t => match t with
    | true => evSs b p env
    | false => evSs b q env
  | .for_ tg it body, env => M.bind (evIt cf b it env) fun items => forL (fun a env => M.bind (M.lift (bindT tg a env)) fun env' => evSs b body env') items env
  | .whl c body, env => whlL (fun env => M.bind (evE cf b c env) fun c => truA c) (fun env => evSs b body env) most env
  | .pass, env => M.pure (.nx env)
  | .brk, env => M.pure (.bk env)
  | .cnt, env => M.pure (.ct env)
def evSs (b : Nat) : Ss → En → M Fl
  | .nil, env => M.pure (.nx env)
  | .cons s r, env => M.bind (evS b s env) fun fl => match fl with
    | .nx env' => evSs b r env'
    | fl => M.pure fl
end
end
/-- what becomes of a def's result: frozen (all its cells go), left as it is (all stays), a cell of its own (that alone stays) -/
inductive Rk where | frz | raw | esc
  deriving DecidableEq
structure Fn where
  name : Str
  np : Nat
  nl : Nat
  rk : Rk
  body : Ss
def finish (rk : Rk) (n : Nat) (a : A) : M A := match rk with
  | .frz => M.bind (frz 3 a) fun d => fun h => .ok (.val d) (h.take n)
  | .raw => M.pure a
  | .esc => match a with
    | .ref m => fun h => (match h[m]? with
      | some c => (match decide (n ≤ m) && (match c with
          | .lst as => loL 0 as
          | .dct _ as => loL 0 as
          | .dead => false) with
        | true => .ok (.ref n) (h.take n ++ [c])
        | false => .no)
      | none => .no)
    | _ => M.no
def runF (cf : Nat → List A → M A) (f : Fn) (as : List A) : M A := fun h =>
  M.bind (evSs cf h.length f.body (as.map some ++ List.replicate (f.nl - f.np) none)) (fun fl => match fl with
    | .nx _ => finish f.rk h.length (.val .non)
    | .rt a => finish f.rk h.length a
    | _ => M.no) h
def callF (tab : List Fn) : Nat → Nat → List A → M A
  | 0, _, _ => M.no
  | k + 1, i, as => match tab[i]? with
    | some f => (match decide (as.length = f.np) with
      | true => runF (callF tab k) f as
      | false => M.no)
    | none => M.no
end Lo
set_option maxHeartbeats 200000
/-! Core M: cells below a frame's base never come to hold cells from beyond it. -/
namespace Lo
open PySem L2
mutual
theorem A.lo_mono {b c : Nat} (hbc : b ≤ c) : ∀ a : A, a.lo b = true → a.lo c = true
  | .val _, _ => rfl
  | .ref n, h => by
    simp only [A.lo, Nat.blt_eq] at h ⊢
    omega
  | .tup as, h => loL_mono hbc as h
theorem loL_mono {b c : Nat} (hbc : b ≤ c) : ∀ as : List A, loL b as = true → loL c as = true
  | [], _ => rfl
  | a :: r, h => by
    simp only [loL, Bool.and_eq_true] at h ⊢
    exact ⟨A.lo_mono hbc a h.1, loL_mono hbc r h.2⟩
end
theorem loL_mem {b : Nat} : ∀ {as : List A}, loL b as = true ↔ ∀ a ∈ as, a.lo b = true
  | [] => by simp [loL]
  | a :: r => by simp [loL, loL_mem (as := r)]
def C.lo (b : Nat) : C → Bool
  | .lst as => loL b as
  | .dct _ as => loL b as
  | .dead => true
def Sc (n : Nat) (h : Hh) : Prop := ∀ k c, k < n → h[k]? = some c → c.lo n = true
def MonoM {α : Type} (b : Nat) (x : M α) : Prop := ∀ h a h', b ≤ h.length → x h = .ok a h' → b ≤ h'.length ∧ ∀ n, n ≤ b → Sc n h → Sc n h'
section
variable {α β : Type} {b : Nat}
theorem MonoM.pure {a : α} : MonoM b (M.pure a) := fun h a h' hb e => by cases e; exact ⟨hb, fun _ _ x => x⟩
theorem MonoM.no : MonoM b (M.no : M α) := fun h a h' hb e => by cases e
theorem MonoM.same {x : M α} (hx : ∀ h a h', x h = .ok a h' → h' = h) : MonoM b x := fun h a h' hb e => by
  rw [hx h a h' e]
  exact ⟨hb, fun _ _ x => x⟩
theorem MonoM.lift {o : Option α} : MonoM b (M.lift o) := by
  cases o with
  | none => exact .no
  | some a => exact .pure
theorem MonoM.bind {x : M α} {f : α → M β} (hx : MonoM b x) (hf : ∀ a, MonoM b (f a)) : MonoM b (M.bind x f) := fun h a h' hb e => by
  unfold M.bind at e
  cases q : x h with
  | ok c h1 =>
    rw [q] at e
    obtain ⟨l1, m1⟩ := hx h c h1 hb q
    obtain ⟨l2, m2⟩ := hf c h1 a h' l1 e
    exact ⟨l2, fun n hn s => m2 n hn (m1 n hn s)⟩
  | exc _ _ => rw [q] at e; cases e
  | no => rw [q] at e; cases e
/-- with what is known of the value -/
theorem MonoM.bindP {x : M α} {f : α → M β} (P : α → Prop) (hx : MonoM b x) (hp : ∀ h a h', b ≤ h.length → x h = .ok a h' → P a) (hf : ∀ a, P a → MonoM b (f a)) : MonoM b (M.bind x f) := fun h a h' hb e => by
  unfold M.bind at e
  cases q : x h with
  | ok c h1 =>
    rw [q] at e
    obtain ⟨l1, m1⟩ := hx h c h1 hb q
    obtain ⟨l2, m2⟩ := hf c (hp h c h1 hb q) h1 a h' l1 e
    exact ⟨l2, fun n hn s => m2 n hn (m1 n hn s)⟩
  | exc _ _ => rw [q] at e; cases e
  | no => rw [q] at e; cases e
theorem MonoM.get : MonoM b M.get := .same fun h a h' e => by cases e; rfl
theorem MonoM.chk {t : Bool} : MonoM b (M.chk t) := .same fun h a h' e => by
  cases t with
  | false => cases e
  | true => cases e; rfl
theorem MonoM.sn {a : A} : MonoM b (sn a) := .same fun h d h' e => by
  unfold Lo.sn at e
  cases q : snap 3 h a with
  | some x => rw [q] at e; cases e; rfl
  | none => rw [q] at e; cases e
theorem MonoM.sf {a : A} : MonoM b (sf a) := .same fun h d h' e => by
  unfold Lo.sf at e
  cases q : snap 1 h a with
  | some x => rw [q] at e; cases e; rfl
  | none => rw [q] at e; cases e
theorem MonoM.truA {a : A} : MonoM b (truA a) := .same fun h n h' e => by
  unfold Lo.truA at e
  repeat' split at e
  all_goals first | (cases e; rfl) | cases e
theorem MonoM.alloc {c : C} : MonoM b (alloc c) := fun h a h' hb e => by
  cases e
  refine ⟨by simp; omega, fun n hn s k c' hk e => ?_⟩
  rw [List.getElem?_append_left (by omega)] at e
  exact s k c' hk e
theorem MonoM.set {n : Nat} {c : C} (hc : n < b → c.lo n = true) : MonoM b (setC n c) := fun h a h' hb e => by
  cases e
  refine ⟨by simpa using hb, fun m hm s k c' hk e => ?_⟩
  by_cases hkn : n = k
  · subst hkn
    rw [List.getElem?_set_self (by omega)] at e
    cases e
    have q := hc (by omega)
    cases c with
    | lst as => exact loL_mono (by omega) as q
    | dct ks as => exact loL_mono (by omega) as q
    | dead => rfl
  · rw [List.getElem?_set_ne hkn] at e
    exact s k c' hk e
theorem MonoM.kill {n : Nat} : MonoM b (setC n .dead) := .set fun _ => rfl
theorem MonoM.map' {f : α → M β} (hf : ∀ a, MonoM b (f a)) : ∀ as : List α, MonoM b (mapM' f as)
  | [] => .pure
  | a :: r => .bind (hf a) fun _ => .bind (MonoM.map' hf r) fun _ => .pure
theorem MonoM.frz : ∀ (k : Nat) (a : A), MonoM b (frz k a)
  | 0, .val d => .pure
  | k + 1, .val d => .pure
  | 0, .ref n => .no
  | 0, .tup as => .no
  | k + 1, .ref n => by
    unfold Lo.frz
    refine .bind .get fun h => ?_
    split
    · exact .bind .kill fun _ => .bind (.map' (MonoM.frz k) _) fun _ => .pure
    · exact .bind .kill fun _ => .bind (.map' (MonoM.frz k) _) fun _ => .pure
    · exact .no
  | k + 1, .tup as => by
    unfold Lo.frz
    exact .bind (.map' (MonoM.frz k) _) fun _ => .pure
theorem MonoM.frzL {as : List A} : MonoM b (frzL as) := .map' (MonoM.frz 3) as
theorem MonoM.mkD {m : Bool} {d : D} : MonoM b (mkD m d) := by
  unfold Lo.mkD
  cases m with
  | false => exact .pure
  | true =>
    cases d <;> first | exact .no | exact .bind .alloc fun _ => .pure
theorem MonoM.take {n : Nat} {x : M α} (hn : b ≤ n) (hx : MonoM b x) : MonoM b (M.bind x fun a => fun h => .ok a (h.take n)) := .bind hx fun a h c h' hb e => by
  cases e
  refine ⟨by simp; omega, fun m hm s k c' hk e => ?_⟩
  rw [List.getElem?_take_of_lt (by omega)] at e
  exact s k c' hk e
theorem MonoM.cut {n : Nat} {a : α} (hn : b ≤ n) : MonoM b (fun h => .ok a (h.take n)) := fun h c h' hb e => by
  cases e
  refine ⟨by simp; omega, fun m hm s k c' hk e => ?_⟩
  rw [List.getElem?_take_of_lt (by omega)] at e
  exact s k c' hk e
theorem MonoM.topL {m : Bool} {n : Nat} (hn : b ≤ n) : MonoM b (topL m n) := by
  unfold Lo.topL
  cases m with
  | true => exact .pure
  | false => exact .bind (.frz 4 _) fun d => .cut hn
theorem MonoM.push {n : Nat} {y : A} (hy : n < b → y.lo n = true) : MonoM b (pushC n y) := fun h a h' hb e => by
  unfold pushC at e
  cases q : h[n]? with
  | none => rw [q] at e; cases e
  | some c =>
    cases c with
    | lst as =>
      rw [q] at e
      cases t : decide (as.length < sizeLine) with
      | false => simp only [t] at e; cases e
      | true =>
        simp only [t] at e
        cases e
        refine ⟨by simpa using hb, fun m hm s k c' hk e => ?_⟩
        by_cases hkn : n = k
        · subst hkn
          have hlt : n < h.length := (List.getElem?_eq_some_iff.mp q).1
          rw [List.getElem?_set_self hlt] at e
          cases e
          have s1 : loL m as = true := s n _ hk q
          have y1 := A.lo_mono (b := n) (c := m) (by omega) y (hy (by omega))
          show loL m (as ++ [y]) = true
          rw [loL_mem] at s1 ⊢
          intro z hz
          rcases List.mem_append.mp hz with hz | hz
          · exact s1 z hz
          · rw [List.mem_singleton.mp hz]
            exact y1
        · rw [List.getElem?_set_ne hkn] at e
          exact s k c' hk e
    | dct _ _ => rw [q] at e; cases e
    | dead => rw [q] at e; cases e
theorem MonoM.turns {f : A → M Unit} (hf : ∀ a, MonoM b (f a)) : ∀ as : List A, MonoM b (turns f as)
  | [] => .pure
  | a :: r => .bind (hf a) fun _ => MonoM.turns hf r
theorem MonoM.lenA {a : A} : MonoM b (lenA a) := .same fun h n h' e => by
  unfold Lo.lenA at e
  repeat' split at e
  all_goals first | (cases e; rfl) | cases e
theorem MonoM.idxA {a : A} {d : D} : MonoM b (idxA a d) := .same fun h n h' e => by
  unfold Lo.idxA at e
  repeat' split at e
  all_goals first | (cases e; rfl) | cases e
theorem MonoM.kindA {a : A} : MonoM b (kindA a) := .same fun h n h' e => by
  unfold Lo.kindA at e
  repeat' split at e
  all_goals first | (cases e; rfl) | cases e
theorem MonoM.items {a : A} : MonoM b (itemsA a) := fun h as h' hb e => by
  unfold itemsA at e
  repeat' split at e
  all_goals first
    | (cases e; exact ⟨hb, fun _ _ x => x⟩)
    | (cases e; done)
    | (cases e
       exact MonoM.kill (b := b) h () _ hb rfl)
theorem MonoM.range {d e : D} : MonoM b (rangeA d e) := by
  unfold rangeA
  split
  · exact .bind .chk fun _ => .pure
  · exact .no
theorem MonoM.mono {b c : Nat} {x : M α} (hbc : b ≤ c) (hx : ∀ h a h', c ≤ h.length → x h = .ok a h' → True) : True := trivial
end
/-- what a def's call does -/
def MonoF (cf : Nat → List A → M A) : Prop := ∀ b i as, MonoM b (cf i as)
section
variable {cf : Nat → List A → M A} (hcf : MonoF cf)
include hcf
/-- base' ≥ base: one turn of a comprehension, its list at n -/
theorem mono_lc {b n : Nat} (hn : b ≤ n) {f : A → M Unit} {items : List A} {m : Bool} (hf : ∀ a, MonoM b (f a)) : MonoM b (M.bind (turns f items) fun _ => topL m n) := .bind (.turns hf _) fun _ => .topL hn
set_option maxHeartbeats 2000000 in
mutual
theorem mono_E {b : Nat} : ∀ (b' : Nat) (e : E) (env : En), b ≤ b' → MonoM b (evE cf b' e env)
  | b', .var i, env, hb => by
    unfold evE
    split
    · exact .pure
    · exact .no
  | b', .cst d, env, hb => by unfold evE; exact .pure
  | b', .glb _ d, env, hb => by unfold evE; exact .pure
  | b', .tup keep es, env, hb => by
    unfold evE
    refine .bind (mono_Es b' es env hb) fun as => ?_
    cases keep with
    | true => exact .pure
    | false => exact .bind .frzL fun _ => .pure
  | b', .lst m es, env, hb => by
    unfold evE
    refine .bind (mono_Es b' es env hb) fun as => ?_
    cases m with
    | true => exact .bind .alloc fun _ => .pure
    | false => exact .bind .frzL fun _ => .pure
  | b', .op m o x y, env, hb => by
    unfold evE
    exact .bind (mono_E b' x env hb) fun _ => .bind (mono_E b' y env hb) fun _ => .bind .sf fun _ => .bind .sf fun _ => .bind .lift fun _ => .mkD
  | b', .neg x, env, hb => by
    unfold evE
    refine .bind (mono_E b' x env hb) fun _ => .bind .sf fun d => ?_
    split
    · exact .pure
    · exact .no
  | b', .cmp o x y, env, hb => by
    unfold evE
    exact .bind (mono_E b' x env hb) fun _ => .bind (mono_E b' y env hb) fun _ => .bind .sn fun _ => .bind .sn fun _ => .bind .lift fun _ => .pure
  | b', .chain o p x y z, env, hb => by
    unfold evE
    refine .bind (mono_E b' x env hb) fun _ => .bind (mono_E b' y env hb) fun _ => .bind .sn fun _ => .bind .sn fun _ => .bind .lift fun r => ?_
    cases r with
    | true => exact .bind (mono_E b' z env hb) fun _ => .bind .sn fun _ => .bind .sn fun _ => .bind .lift fun _ => .pure
    | false => exact .pure
  | b', .and x y, env, hb => by
    unfold evE
    refine .bind (mono_E b' x env hb) fun _ => .bind .truA fun t => ?_
    cases t with
    | true => exact mono_E b' y env hb
    | false => exact .pure
  | b', .or x y, env, hb => by
    unfold evE
    refine .bind (mono_E b' x env hb) fun _ => .bind .truA fun t => ?_
    cases t with
    | true => exact .pure
    | false => exact mono_E b' y env hb
  | b', .not x, env, hb => by
    unfold evE
    exact .bind (mono_E b' x env hb) fun _ => .bind .truA fun t => .pure
  | b', .ite c x y, env, hb => by
    unfold evE
    refine .bind (mono_E b' c env hb) fun _ => .bind .truA fun t => ?_
    cases t with
    | true => exact mono_E b' x env hb
    | false => exact mono_E b' y env hb
  | b', .idx x y, env, hb => by
    unfold evE
    exact .bind (mono_E b' x env hb) fun _ => .bind (mono_E b' y env hb) fun _ => .bind .sf fun _ => .idxA
  | b', .slL m x l, env, hb => by
    unfold evE
    exact .bind (mono_E b' x env hb) fun _ => .bind (mono_E b' l env hb) fun _ => .bind .sf fun _ => .bind .lift fun _ => .bind .sf fun _ => .bind .lift fun _ => .mkD
  | b', .slU m x l, env, hb => by
    unfold evE
    exact .bind (mono_E b' x env hb) fun _ => .bind (mono_E b' l env hb) fun _ => .bind .sf fun _ => .bind .lift fun _ => .bind .sf fun _ => .bind .lift fun _ => .mkD
  | b', .slB m x l u, env, hb => by
    unfold evE
    exact .bind (mono_E b' x env hb) fun _ => .bind (mono_E b' l env hb) fun _ => .bind .sf fun _ => .bind .lift fun _ => .bind (mono_E b' u env hb) fun _ => .bind .sf fun _ => .bind .lift fun _ => .bind .sf fun _ => .bind .lift fun _ => .mkD
  | b', .rev m x, env, hb => by
    unfold evE
    refine .bind (mono_E b' x env hb) fun _ => .bind .sf fun d => ?_
    split
    · exact .mkD
    · exact .no
  | b', .call f es, env, hb => by
    unfold evE
    exact .bind (mono_Es b' es env hb) fun as => hcf _ _ _
  | b', .bl1 o m x, env, hb => by
    cases o <;> (
      unfold evE
      first
        | exact .bind (mono_E b' x env hb) fun _ => .bind .lenA fun _ => .pure
        | exact .bind (mono_E b' x env hb) fun _ => .bind .sf fun _ => .bind .lift fun _ => .mkD)
  | b', .bl2 o x y, env, hb => by
    unfold evE
    exact .bind (mono_E b' x env hb) fun _ => .bind (mono_E b' y env hb) fun _ => .bind .sf fun _ => .bind .sf fun _ => .bind .lift fun _ => .pure
  | b', .isi x _ ts, env, hb => by
    unfold evE
    exact .bind (mono_E b' x env hb) fun _ => .bind .kindA fun _ => .pure
  | b', .mt1 o m x y, env, hb => by
    unfold evE
    exact .bind (mono_E b' x env hb) fun _ => .bind (mono_E b' y env hb) fun _ => .bind .sn fun _ => .bind .sn fun _ => .bind .lift fun _ => .mkD
  | b', .mt0 o m x, env, hb => by
    unfold evE
    exact .bind (mono_E b' x env hb) fun _ => .bind .sf fun _ => .bind .lift fun _ => .mkD
  | b', .lc m body own tg it, env, hb => by
    unfold evE
    refine .bind (mono_It b' it env hb) fun items => .bindP (fun n => b ≤ n) .alloc (fun h a h' hb e => by cases e; exact hb) fun n hn => ?_
    exact mono_lc hcf hn fun a => .bind .lift fun env' => .bind (mono_E (n + 1) body env' (by omega)) fun y => .push fun z => absurd z (by omega)
  | b', .lcI m body own tg it c, env, hb => by
    unfold evE
    refine .bind (mono_It b' it env hb) fun items => .bindP (fun n => b ≤ n) .alloc (fun h a h' hb e => by cases e; exact hb) fun n hn => ?_
    refine mono_lc hcf hn fun a => .bind .lift fun env' => .bind (mono_E (n + 1) c env' (by omega)) fun _ => .bind .truA fun t => ?_
    cases t with
    | true => exact .bind (mono_E (n + 1) body env' (by omega)) fun y => .push fun z => absurd z (by omega)
    | false => exact .pure
theorem mono_Es {b : Nat} : ∀ (b' : Nat) (es : Es) (env : En), b ≤ b' → MonoM b (evEs cf b' es env)
  | b', .nil, env, hb => by unfold evEs; exact .pure
  | b', .cons e es, env, hb => by
    unfold evEs
    exact .bind (mono_E b' e env hb) fun _ => .bind (mono_Es b' es env hb) fun _ => .pure
theorem mono_It {b : Nat} : ∀ (b' : Nat) (it : It) (env : En), b ≤ b' → MonoM b (evIt cf b' it env)
  | b', .seq e, env, hb => by
    unfold evIt
    exact .bind (mono_E b' e env hb) fun _ => .items
  | b', .rng1 e, env, hb => by
    unfold evIt
    exact .bind (mono_E b' e env hb) fun _ => .bind .sf fun _ => .range
  | b', .rng2 x y, env, hb => by
    unfold evIt
    exact .bind (mono_E b' x env hb) fun _ => .bind (mono_E b' y env hb) fun _ => .bind .sf fun _ => .bind .sf fun _ => .range
  | b', .enm e, env, hb => by
    unfold evIt
    exact .bind (mono_E b' e env hb) fun _ => .bind .items fun _ => .pure
  | b', .zip x y, env, hb => by
    unfold evIt
    exact .bind (mono_E b' x env hb) fun _ => .bind (mono_E b' y env hb) fun _ => .bind .items fun _ => .bind .items fun _ => .pure
end
theorem mono_forL {b : Nat} {f : A → En → M Fl} (hf : ∀ a env, MonoM b (f a env)) : ∀ (as : List A) (env : En), MonoM b (forL f as env)
  | [], env => .pure
  | a :: r, env => by
    unfold forL
    refine .bind (hf a env) fun fl => ?_
    cases fl with
    | nx env' => exact mono_forL hf r env'
    | ct env' => exact mono_forL hf r env'
    | bk env' => exact .pure
    | rt v => exact .pure
theorem mono_whlL {b : Nat} {c : En → M Bool} {f : En → M Fl} (hc : ∀ env, MonoM b (c env)) (hf : ∀ env, MonoM b (f env)) : ∀ (n : Nat) (env : En), MonoM b (whlL c f n env)
  | 0, env => .no
  | n + 1, env => by
    unfold whlL
    refine .bind (hc env) fun t => ?_
    cases t with
    | false => exact .pure
    | true =>
      refine .bind (hf env) fun fl => ?_
      cases fl with
      | nx env' => exact mono_whlL hc hf n env'
      | ct env' => exact mono_whlL hc hf n env'
      | bk env' => exact .pure
      | rt v => exact .pure
theorem mono_store {b b' : Nat} (hb : b ≤ b') {x y : A} {d : D} : MonoM b (storeA b' x d y) := fun h a h' hl e => by
  unfold storeA at e
  cases x with
  | val _ => cases e
  | tup _ => cases e
  | ref n =>
    cases t : may b' n y with
    | false => simp only [t] at e; cases e
    | true =>
      have hy : n < b → y.lo n = true := fun hn => by
        simp only [may, Bool.or_eq_true, Nat.ble_eq] at t
        rcases t with t | t
        · omega
        · exact t
      cases q : h[n]? with
      | none => simp only [t, q] at e; cases e
      | some c =>
        have hlt : n < h.length := (List.getElem?_eq_some_iff.mp q).1
        have key : ∀ c2 : C, (∀ m, m ≤ b → n < m → c.lo m = true → c2.lo m = true) → b ≤ (h.set n c2).length ∧ ∀ m, m ≤ b → Sc m h → Sc m (h.set n c2) := fun c2 hc2 => by
          refine ⟨by simpa using hl, fun m hm s k c' hk e => ?_⟩
          by_cases hkn : n = k
          · subst hkn
            rw [List.getElem?_set_self hlt] at e
            cases e
            exact hc2 m hm hk (s n _ hk q)
          · rw [List.getElem?_set_ne hkn] at e
            exact s k c' hk e
        cases c with
        | dead => simp only [t, q] at e; cases e
        | lst as =>
          simp only [t, q] at e
          cases d with
          | int i =>
            simp only at e
            cases r : ixN as.length i with
            | none => simp only [r] at e; cases e
            | some j =>
              simp only [r] at e
              cases e
              refine key _ fun m hm hn s1 => ?_
              have s1 : loL m as = true := s1
              show loL m (as.set j y) = true
              rw [loL_mem] at s1 ⊢
              intro z hz
              rcases List.mem_or_eq_of_mem_set hz with hz | hz
              · exact s1 z hz
              · rw [hz]
                exact A.lo_mono (by omega) y (hy (by omega))
          | _ => cases e
        | dct ks as =>
          simp only [t, q] at e
          cases r : keyOf d with
          | none => simp only [r] at e; cases e
          | some k =>
            simp only [r] at e
            cases r2 : decide (ks.length < sizeLine) with
            | false => simp only [r2] at e; cases e
            | true =>
              simp only [r2] at e
              cases e
              refine key _ fun m hm hn s1 => ?_
              have s1 : loL m as = true := s1
              have yl := A.lo_mono (b := n) (c := m) (by omega) y (hy (by omega))
              show loL m ((putP (ks.zip as) k y).map (·.2)) = true
              rw [loL_mem] at s1 ⊢
              intro z hz
              obtain ⟨p, hp, rfl⟩ := List.mem_map.mp hz
              unfold putP at hp
              split at hp
              · obtain ⟨p2, hp2, rfl⟩ := List.mem_map.mp hp
                by_cases h1 : p2.1 = k
                · rw [if_pos h1]; exact yl
                · rw [if_neg h1]; exact s1 _ (List.of_mem_zip hp2).2
              · rcases List.mem_append.mp hp with hp | hp
                · exact s1 _ (List.of_mem_zip hp).2
                · rw [List.mem_singleton.mp hp]; exact yl
theorem mono_app {b b' : Nat} (hb : b ≤ b') {x y : A} : MonoM b (appA b' x y) := by
  unfold appA
  cases x with
  | val _ => exact .no
  | tup _ => exact .no
  | ref n =>
    intro h a h' hl e
    replace e : M.bind (M.chk (may b' n y)) (fun _ => pushC n y) h = R.ok a h' := e
    cases t : may b' n y with
    | false =>
      rw [t] at e
      cases e
    | true =>
      rw [t] at e
      refine MonoM.push (b := b) (n := n) (y := y) (fun hn => ?_) h a h' hl e
      simp only [may, Bool.or_eq_true, Nat.ble_eq] at t
      rcases t with t | t
      · omega
      · exact t
theorem mono_pushes {b n : Nat} : ∀ ds : List D, MonoM b (turns (fun z => pushC n z) (ds.map A.val))
  | [] => .pure
  | d :: ds => .bind (.push fun _ => rfl) fun _ => mono_pushes ds
set_option maxHeartbeats 2000000 in
mutual
theorem mono_S {b : Nat} : ∀ (b' : Nat) (s : S) (env : En), b ≤ b' → MonoM b (evS cf b' s env)
  | b', .set tg e, env, hb => by
    unfold evS
    exact .bind (mono_E hcf b' e env hb) fun _ => .bind .lift fun _ => .pure
  | b', .put o i e, env, hb => by
    unfold evS
    exact .bind (mono_E hcf b' e env hb) fun _ => .bind (mono_E hcf b' o env hb) fun _ => .bind (mono_E hcf b' i env hb) fun _ => .bind .sf fun _ => .bind (mono_store hcf hb) fun _ => .pure
  | b', .app o e, env, hb => by
    unfold evS
    exact .bind (mono_E hcf b' o env hb) fun _ => .bind .kindA fun _ => .bind .chk fun _ => .bind (mono_E hcf b' e env hb) fun _ => .bind (mono_app hcf hb) fun _ => .pure
  | b', .aug i o e, env, hb => by
    unfold evS
    split
    · exact .bind (mono_E hcf b' e env hb) fun _ => .bind .sf fun _ => .bind .sf fun _ => .bind .lift fun _ => .pure
    · exact .no
  | b', .augL i e, env, hb => by
    unfold evS
    split
    · refine .bind (mono_E hcf b' e env hb) fun _ => .bind .sf fun _ => ?_
      split
      · exact .bind (mono_pushes hcf _) fun _ => .pure
      · exact .no
    · exact .no
  | b', .exp e, env, hb => by
    unfold evS
    exact .bind (mono_E hcf b' e env hb) fun _ => .pure
  | b', .ret e, env, hb => by
    unfold evS
    exact .bind (mono_E hcf b' e env hb) fun _ => .pure
  | b', .retN, env, hb => by unfold evS; exact .pure
  | b', .ite c p q, env, hb => by
    unfold evS
    refine .bind (mono_E hcf b' c env hb) fun _ => .bind .truA fun t => ?_
    cases t with
    | true => exact mono_Ss b' p env hb
    | false => exact mono_Ss b' q env hb
  | b', .for_ tg it body, env, hb => by
    unfold evS
    exact .bind (mono_It hcf b' it env hb) fun items => mono_forL hcf (fun a env => .bind .lift fun env' => mono_Ss b' body env' hb) _ _
  | b', .whl c body, env, hb => by
    unfold evS
    exact mono_whlL hcf (fun env => .bind (mono_E hcf b' c env hb) fun _ => .truA) (fun env => mono_Ss b' body env hb) _ _
  | b', .pass, env, hb => by unfold evS; exact .pure
  | b', .brk, env, hb => by unfold evS; exact .pure
  | b', .cnt, env, hb => by unfold evS; exact .pure
theorem mono_Ss {b : Nat} : ∀ (b' : Nat) (ss : Ss) (env : En), b ≤ b' → MonoM b (evSs cf b' ss env)
  | b', .nil, env, hb => by unfold evSs; exact .pure
  | b', .cons s r, env, hb => by
    unfold evSs
    refine .bind (mono_S b' s env hb) fun fl => ?_
    cases fl with
    | nx env' => exact mono_Ss b' r env' hb
    | rt a => exact .pure
    | bk _ => exact .pure
    | ct _ => exact .pure
end
theorem mono_finish {b n : Nat} (hn : b ≤ n) {rk : Rk} {a : A} : MonoM b (finish rk n a) := by
  unfold finish
  cases rk with
  | frz => exact .bind (.frz 3 a) fun d => .cut hn
  | raw => exact .pure
  | esc =>
    cases a with
    | val _ => exact .no
    | tup _ => exact .no
    | ref m =>
      intro h a h' hl e
      simp only at e
      cases q : h[m]? with
      | none => rw [q] at e; cases e
      | some c =>
        rw [q] at e
        simp only at e
        split at e
        · rename_i t
          cases e
          simp only [Bool.and_eq_true, decide_eq_true_eq] at t
          have hm : m < h.length := (List.getElem?_eq_some_iff.mp q).1
          have hl2 : (h.take n).length = n := by rw [List.length_take]; omega
          refine ⟨by rw [List.length_append, hl2]; omega, fun k hk s j c' hj e => ?_⟩
          rw [List.getElem?_append_left (by omega), List.getElem?_take_of_lt (by omega)] at e
          exact s j c' hj e
        · cases e
theorem mono_runF {b : Nat} {f : Fn} {as : List A} : MonoM b (runF cf f as) := fun h a h' hl e => by
  unfold runF at e
  refine MonoM.bind (mono_Ss hcf h.length f.body _ hl) (fun fl => ?_) h a h' hl e
  cases fl with
  | nx _ => exact mono_finish hcf hl
  | rt a => exact mono_finish hcf hl
  | bk _ => exact .no
  | ct _ => exact .no
end
theorem mono_callF (tab : List Fn) : ∀ k, MonoF (callF tab k)
  | 0 => fun b i as => .no
  | k + 1 => fun b i as => by
    unfold callF
    split
    · split
      · exact mono_runF (mono_callF tab k)
      · exact .no
    · exact .no
end Lo
set_option maxHeartbeats 200000
/-! Core B: data and cells in the abstract heap. -/
namespace Lo
open PySem PySem.Spec PyProof.Rows L2
/-! ### what is known stays -/
def Ex (H H' : Hp) : Prop := ∀ a o, H a = some o → H' a = some o
theorem Ex.refl (H : Hp) : Ex H H := fun _ _ h => h
theorem Ex.trans {H H1 H2 : Hp} (a : Ex H H1) (b : Ex H1 H2) : Ex H H2 := fun x o h => b x o (a x o h)
theorem Ex.new {H : Hp} {p : Addr} {o : HO} (h : H p = none) : Ex H (upd H p o) := fun a u e => by
  rw [upd_ne (ne_of_none e h)]
  exact e
theorem Ex.put {F H : Hp} {p : Addr} {o : HO} (e : Ex F H) (h : F p = none) : Ex F (upd H p o) := fun a u ha => by
  rw [upd_ne (ne_of_none ha h)]
  exact e a u ha
theorem Ex.both {F H : Hp} {p : Addr} {o : HO} (e : Ex F H) : Ex (upd F p o) (upd H p o) := fun a u ha => by
  by_cases q : a = p
  · subst q
    rw [upd_same] at ha ⊢
    exact ha
  · rw [upd_ne q] at ha ⊢
    exact e a u ha
theorem Ex.known {F H : Hp} {p : Addr} {o : HO} (e : Ex F H) (h : H p = some o) : Ex (upd F p o) H := fun a u ha => by
  by_cases q : a = p
  · subst q
    rw [upd_same] at ha
    cases ha
    exact h
  · rw [upd_ne q] at ha
    exact e a u ha
theorem Ex.none {F H : Hp} {p : Addr} (e : Ex F H) (h : H p = none) : F p = none := by
  cases q : F p with
  | none => rfl
  | some o =>
    rw [e p o q] at h
    cases h
theorem ex_rd {H H' : Hp} {a : Addr} {u : HO} (e : Ex H H') (h : Rd H a u) : Rd H' a u := by
  rcases h with h | ⟨o, h⟩
  · exact Or.inl (e a _ h)
  · exact Or.inr ⟨o, e a _ h⟩
theorem ex_l {K : PySem.W.Frag} {H H' : Hp} {a : Addr} {xs : List V} (e : Ex H H') (h : SqL K H a xs) : SqL K H' a xs := by
  rcases h with h | h
  · exact Or.inl (ex_rd e h)
  · exact Or.inr h
theorem ex_t {K : PySem.W.Frag} {H H' : Hp} {a : Addr} {xs : List V} (e : Ex H H') (h : SqT K H a xs) : SqT K H' a xs := by
  rcases h with h | h
  · exact Or.inl (ex_rd e h)
  · exact Or.inr h
theorem sl_of {K : PySem.W.Frag} {H : Hp} {a : Addr} {xs : List V} (h : H a = some (.lst xs)) : SqL K H a xs := Or.inl (Or.inl h)
theorem st_of {K : PySem.W.Frag} {H : Hp} {a : Addr} {xs : List V} (h : H a = some (.tup xs)) : SqT K H a xs := Or.inl (Or.inl h)
/-! ### data in the heap -/
section
variable (K : PySem.W.Frag)
mutual
def RepD (F : Hp) : D → V → Prop
  | .non, v => v = .non
  | .bl b, v => v = .bl b
  | .int i, v => v = .int i
  | .str x, v => v = .str x
  | .tup ds, v => ∃ a xs, v = .ref a ∧ SqT K F a xs ∧ RepL F ds xs
  | .lst ds, v => ∃ a xs, v = .ref a ∧ F a = some (.lst xs) ∧ RepL F ds xs
  | .dct ks ds, v => ∃ a kvs, v = .ref a ∧ F a = some (.dK kvs) ∧ kvs.map (·.1) = ks ∧ RepL F ds (kvs.map (·.2))
  | .scr ns, v => ∃ a, v = .ref a ∧ SqL K F a (ns.map V.int)
def RepL (F : Hp) : List D → List V → Prop
  | [], xs => xs = []
  | d :: ds, xs => ∃ x r, xs = x :: r ∧ RepD F d x ∧ RepL F ds r
end
mutual
def RepA (F : Hp) (ρ : List Addr) : A → V → Prop
  | .val d, v => RepD K F d v
  | .ref n, v => ∃ p, ρ[n]? = some p ∧ v = .ref p
  | .tup as, v => ∃ a xs, v = .ref a ∧ SqT K F a xs ∧ RepAL F ρ as xs
def RepAL (F : Hp) (ρ : List Addr) : List A → List V → Prop
  | [], xs => xs = []
  | d :: ds, xs => ∃ x r, xs = x :: r ∧ RepA F ρ d x ∧ RepAL F ρ ds r
end
def RepC (F : Hp) (ρ : List Addr) (H : Hp) (p : Addr) : C → Prop
  | .lst as => ∃ xs, H p = some (.lst xs) ∧ RepAL K F ρ as xs
  | .dct ks as => ∃ kvs, H p = some (.dK kvs) ∧ kvs.map (·.1) = ks ∧ RepAL K F ρ as (kvs.map (·.2))
  | .dead => True
structure Sim (F : Hp) (ρ : List Addr) (H : Hp) (h : Hh) : Prop where
  ex : Ex F H
  len : ρ.length = h.length
  nd : ρ.Nodup
  cell : ∀ (n : Nat) (c : C) (p : Addr), h[n]? = some c → ρ[n]? = some p → RepC K F ρ H p c ∧ H p ≠ none ∧ (c ≠ .dead → F p = none)
/-- the frame's names -/
structure EnvOk (F : Hp) (ρ : List Addr) (σ : L2.St) (env : En) : Prop where
  len : env.length = σ.length
  at_ : ∀ (i : Nat) (a : A), env[i]? = some (some a) → ∃ v, σ[i]? = some (some v) ∧ RepA K F ρ a v
end
section
variable {K : PySem.W.Frag} {F F' H H' : Hp} {ρ ρ' : List Addr} {h h' : Hh}
mutual
theorem RepD.mono (e : Ex F F') : ∀ (d : D) (v : V), RepD K F d v → RepD K F' d v
  | .non, _, r => by unfold RepD at r ⊢; exact r
  | .bl _, _, r => by unfold RepD at r ⊢; exact r
  | .int _, _, r => by unfold RepD at r ⊢; exact r
  | .str _, _, r => by unfold RepD at r ⊢; exact r
  | .tup ds, _, r => by
    unfold RepD at r ⊢
    obtain ⟨a, xs, q, s, l⟩ := r
    exact ⟨a, xs, q, ex_t e s, RepL.mono e ds xs l⟩
  | .lst ds, _, r => by
    unfold RepD at r ⊢
    obtain ⟨a, xs, q, s, l⟩ := r
    exact ⟨a, xs, q, e _ _ s, RepL.mono e ds xs l⟩
  | .scr ns, _, r => by
    unfold RepD at r ⊢
    obtain ⟨a, q, s⟩ := r
    exact ⟨a, q, ex_l e s⟩
  | .dct ks ds, _, r => by
    unfold RepD at r ⊢
    obtain ⟨a, xs, q, s, k, l⟩ := r
    exact ⟨a, xs, q, e _ _ s, k, RepL.mono e ds _ l⟩
theorem RepL.mono (e : Ex F F') : ∀ (ds : List D) (xs : List V), RepL K F ds xs → RepL K F' ds xs
  | [], _, r => by unfold RepL at r ⊢; exact r
  | d :: ds, _, r => by
    unfold RepL at r ⊢
    obtain ⟨x, r', q, s, l⟩ := r
    exact ⟨x, r', q, RepD.mono e d x s, RepL.mono e ds r' l⟩
end
theorem pre_get {α : Type} {l l' : List α} (p : l <+: l') {n : Nat} {x : α} (h : l[n]? = some x) : l'[n]? = some x := by
  obtain ⟨t, rfl⟩ := p
  rw [List.getElem?_append_left (List.getElem?_eq_some_iff.mp h).1]
  exact h
mutual
theorem RepA.mono (e : Ex F F') (p : ρ <+: ρ') : ∀ (a : A) (v : V), RepA K F ρ a v → RepA K F' ρ' a v
  | .val d, v, r => by unfold RepA at r ⊢; exact RepD.mono e d v r
  | .ref n, v, r => by
    unfold RepA at r ⊢
    obtain ⟨a, q, s⟩ := r
    exact ⟨a, pre_get p q, s⟩
  | .tup as, v, r => by
    unfold RepA at r ⊢
    obtain ⟨a, xs, q, s, l⟩ := r
    exact ⟨a, xs, q, ex_t e s, RepAL.mono e p as xs l⟩
theorem RepAL.mono (e : Ex F F') (p : ρ <+: ρ') : ∀ (as : List A) (xs : List V), RepAL K F ρ as xs → RepAL K F' ρ' as xs
  | [], _, r => by unfold RepAL at r ⊢; exact r
  | d :: ds, _, r => by
    unfold RepAL at r ⊢
    obtain ⟨x, r', q, s, l⟩ := r
    exact ⟨x, r', q, RepA.mono e p d x s, RepAL.mono e p ds r' l⟩
end
theorem EnvOk.mono {σ : L2.St} {env : En} (e : Ex F F') (p : ρ <+: ρ') (E : EnvOk K F ρ σ env) : EnvOk K F' ρ' σ env :=
  ⟨E.len, fun i a q => let ⟨v, s, r⟩ := E.at_ i a q; ⟨v, s, r.mono e p⟩⟩
theorem EnvOk.set {σ : L2.St} {env : En} {i : Nat} {a : A} {v : V} (E : EnvOk K F ρ σ env) (r : RepA K F ρ a v) : EnvOk K F ρ (σ.set i (some v)) (env.set i (some a)) := by
  refine ⟨by simp [E.len], fun j b q => ?_⟩
  by_cases hij : i = j
  · subst hij
    have hl : i < env.length := by
      have := (List.getElem?_eq_some_iff.mp q).1
      simpa using this
    rw [List.getElem?_set_self hl] at q
    cases q
    exact ⟨v, List.getElem?_set_self (by rw [← E.len]; exact hl), r⟩
  · rw [List.getElem?_set_ne hij] at q ⊢
    exact E.at_ j b q
theorem EnvOk.clear {σ : L2.St} {env : En} {i : Nat} (E : EnvOk K F ρ σ env) : EnvOk K F ρ (σ.set i none) (env.set i none) := by
  refine ⟨by simp [E.len], fun j b q => ?_⟩
  by_cases hij : i = j
  · subst hij
    have hl : i < env.length := by
      have := (List.getElem?_eq_some_iff.mp q).1
      simpa using this
    rw [List.getElem?_set_self hl] at q
    cases q
  · rw [List.getElem?_set_ne hij] at q ⊢
    exact E.at_ j b q
theorem EnvOk.wipe {σ : L2.St} {env : En} (E : EnvOk K F ρ σ env) : ∀ own : List Nat, EnvOk K F ρ (wipe σ own) (wipeE env own)
  | [] => E
  | v :: vs => (E.wipe vs).clear
theorem wipe_len (env : En) : ∀ own : List Nat, (wipeE env own).length = env.length
  | [] => rfl
  | v :: vs => by unfold wipeE; rw [List.length_set, wipe_len env vs]
/-! ### lists of representations -/
theorem RepL.length : ∀ {ds : List D} {xs : List V}, RepL K F ds xs → ds.length = xs.length
  | [], _, r => by unfold RepL at r; subst r; rfl
  | d :: ds, _, r => by
    unfold RepL at r
    obtain ⟨x, r', rfl, _, l⟩ := r
    simp [RepL.length l]
theorem RepAL.length : ∀ {as : List A} {xs : List V}, RepAL K F ρ as xs → as.length = xs.length
  | [], _, r => by unfold RepAL at r; subst r; rfl
  | d :: ds, _, r => by
    unfold RepAL at r
    obtain ⟨x, r', rfl, _, l⟩ := r
    simp [RepAL.length l]
theorem RepL.nil : RepL K F [] [] := by unfold RepL; rfl
theorem RepL.cons {d : D} {ds : List D} {x : V} {xs : List V} (h : RepD K F d x) (t : RepL K F ds xs) : RepL K F (d :: ds) (x :: xs) := by
  unfold RepL
  exact ⟨x, xs, rfl, h, t⟩
theorem RepAL.nil : RepAL K F ρ [] [] := by unfold RepAL; rfl
theorem RepAL.cons {d : A} {ds : List A} {x : V} {xs : List V} (h : RepA K F ρ d x) (t : RepAL K F ρ ds xs) : RepAL K F ρ (d :: ds) (x :: xs) := by
  unfold RepAL
  exact ⟨x, xs, rfl, h, t⟩
theorem RepL.get : ∀ {ds : List D} {xs : List V} {i : Nat} {d : D}, RepL K F ds xs → ds[i]? = some d → ∃ x, xs[i]? = some x ∧ RepD K F d x
  | [], _, _, _, _, e => by simp at e
  | c :: ds, _, 0, d, r, e => by
    unfold RepL at r
    obtain ⟨x, r', rfl, s, _⟩ := r
    simp at e
    subst e
    exact ⟨x, rfl, s⟩
  | c :: ds, _, i + 1, d, r, e => by
    unfold RepL at r
    obtain ⟨x, r', rfl, _, l⟩ := r
    simpa using RepL.get (i := i) l (by simpa using e)
theorem RepAL.get : ∀ {ds : List A} {xs : List V} {i : Nat} {d : A}, RepAL K F ρ ds xs → ds[i]? = some d → ∃ x, xs[i]? = some x ∧ RepA K F ρ d x
  | [], _, _, _, _, e => by simp at e
  | c :: ds, _, 0, d, r, e => by
    unfold RepAL at r
    obtain ⟨x, r', rfl, s, _⟩ := r
    simp at e
    subst e
    exact ⟨x, rfl, s⟩
  | c :: ds, _, i + 1, d, r, e => by
    unfold RepAL at r
    obtain ⟨x, r', rfl, _, l⟩ := r
    simpa using RepAL.get (i := i) l (by simpa using e)
theorem RepL.append : ∀ {ds es : List D} {xs ys : List V}, RepL K F ds xs → RepL K F es ys → RepL K F (ds ++ es) (xs ++ ys)
  | [], _, _, _, r, s => by unfold RepL at r; subst r; exact s
  | d :: ds, _, _, _, r, s => by
    unfold RepL at r
    obtain ⟨x, r', rfl, q, l⟩ := r
    exact .cons q (RepL.append l s)
theorem RepAL.append : ∀ {ds es : List A} {xs ys : List V}, RepAL K F ρ ds xs → RepAL K F ρ es ys → RepAL K F ρ (ds ++ es) (xs ++ ys)
  | [], _, _, _, r, s => by unfold RepAL at r; subst r; exact s
  | d :: ds, _, _, _, r, s => by
    unfold RepAL at r
    obtain ⟨x, r', rfl, q, l⟩ := r
    exact .cons q (RepAL.append l s)
theorem RepL.drop : ∀ {ds : List D} {xs : List V} (n : Nat), RepL K F ds xs → RepL K F (ds.drop n) (xs.drop n)
  | _, _, 0, r => r
  | [], _, n + 1, r => by unfold RepL at r; subst r; exact .nil
  | d :: ds, _, n + 1, r => by
    unfold RepL at r
    obtain ⟨x, r', rfl, _, l⟩ := r
    exact RepL.drop n l
theorem RepL.take : ∀ {ds : List D} {xs : List V} (n : Nat), RepL K F ds xs → RepL K F (ds.take n) (xs.take n)
  | _, _, 0, r => by simp; exact .nil
  | [], _, n + 1, r => by unfold RepL at r; subst r; exact .nil
  | d :: ds, _, n + 1, r => by
    unfold RepL at r
    obtain ⟨x, r', rfl, q, l⟩ := r
    exact .cons q (RepL.take n l)
theorem RepL.reverse : ∀ {ds : List D} {xs : List V}, RepL K F ds xs → RepL K F ds.reverse xs.reverse
  | [], _, r => by unfold RepL at r; subst r; exact .nil
  | d :: ds, _, r => by
    unfold RepL at r
    obtain ⟨x, r', rfl, q, l⟩ := r
    rw [List.reverse_cons, List.reverse_cons]
    exact RepL.append (RepL.reverse l) (.cons q .nil)
theorem RepL.rep {ds : List D} {xs : List V} (r : RepL K F ds xs) : ∀ k : Nat, RepL K F (List.replicate k ds).flatten (List.replicate k xs).flatten
  | 0 => .nil
  | k + 1 => by
    rw [List.replicate_succ, List.replicate_succ, List.flatten_cons, List.flatten_cons]
    exact RepL.append r (RepL.rep r k)
theorem RepAL.set {a : A} {v : V} (r : RepA K F ρ a v) : ∀ {as : List A} {xs : List V} (i : Nat), RepAL K F ρ as xs → RepAL K F ρ (as.set i a) (xs.set i v)
  | [], _, _, l => by unfold RepAL at l; subst l; exact .nil
  | c :: as, _, 0, l => by
    unfold RepAL at l
    obtain ⟨x, r', rfl, _, l⟩ := l
    exact .cons r l
  | c :: as, _, i + 1, l => by
    unfold RepAL at l
    obtain ⟨x, r', rfl, q, l⟩ := l
    exact .cons q (RepAL.set r i l)
theorem RepAL.of_vals : ∀ {ds : List D} {xs : List V}, RepL K F ds xs → RepAL K F ρ (ds.map A.val) xs
  | [], _, r => by unfold RepL at r; subst r; exact .nil
  | d :: ds, _, r => by
    unfold RepL at r
    obtain ⟨x, r', rfl, q, l⟩ := r
    exact .cons (by unfold RepA; exact q) (RepAL.of_vals l)
theorem RepL.nil_iff {ds : List D} {xs : List V} (r : RepL K F ds xs) : ds.isEmpty = xs.isEmpty := by
  have := r.length
  cases ds <;> cases xs <;> simp_all
theorem RepAL.nil_iff {ds : List A} {xs : List V} (r : RepAL K F ρ ds xs) : ds.isEmpty = xs.isEmpty := by
  have := r.length
  cases ds <;> cases xs <;> simp_all
/-! ### the simulation -/
theorem RepC.mono {c : C} {p : Addr} (e : Ex F F') (q : ρ <+: ρ') (hp : H' p = H p) (r : RepC K F ρ H p c) : RepC K F' ρ' H' p c := by
  cases c with
  | lst as =>
    obtain ⟨xs, s, l⟩ := r
    exact ⟨xs, hp.trans s, l.mono e q⟩
  | dct ks as =>
    obtain ⟨xs, s, k, l⟩ := r
    exact ⟨xs, hp.trans s, k, l.mono e q⟩
  | dead => trivial
theorem Sim.get (S : Sim K F ρ H h) {n : Nat} {c : C} (e : h[n]? = some c) : ∃ p, ρ[n]? = some p ∧ RepC K F ρ H p c ∧ H p ≠ none ∧ (c ≠ .dead → F p = none) := by
  have hl : n < ρ.length := by rw [S.len]; exact (List.getElem?_eq_some_iff.mp e).1
  exact ⟨ρ[n], List.getElem?_eq_getElem hl, S.cell n c _ e (List.getElem?_eq_getElem hl)⟩
theorem Sim.at_ (S : Sim K F ρ H h) {n : Nat} {p : Addr} (e : ρ[n]? = some p) : ∃ c, h[n]? = some c ∧ RepC K F ρ H p c ∧ H p ≠ none ∧ (c ≠ .dead → F p = none) := by
  have hl : n < h.length := by rw [← S.len]; exact (List.getElem?_eq_some_iff.mp e).1
  exact ⟨h[n], List.getElem?_eq_getElem hl, S.cell n _ p (List.getElem?_eq_getElem hl) e⟩
theorem nodup_ix {α : Type} {l : List α} (hN : l.Nodup) {i j : Nat} {x : α} (h1 : l[i]? = some x) (h2 : l[j]? = some x) : i = j := by
  obtain ⟨a, rfl⟩ := List.getElem?_eq_some_iff.mp h1
  obtain ⟨b, e⟩ := List.getElem?_eq_some_iff.mp h2
  exact ((List.getElem_inj hN).mp e).symm
/-- a place that no one knows is no cell -/
theorem Sim.notMem (S : Sim K F ρ H h) {p : Addr} (hp : H p = none) : p ∉ ρ := fun hm => by
  obtain ⟨n, e⟩ := List.mem_iff_getElem?.mp hm
  obtain ⟨c, _, _, hn, _⟩ := S.at_ e
  exact hn hp
/-- new frozen data -/
theorem Sim.newF (S : Sim K F ρ H h) {p : Addr} (hp : H p = none) (o : HO) : Sim K (upd F p o) ρ (upd H p o) h := by
  refine ⟨S.ex.both, S.len, S.nd, fun n c q e1 e2 => ?_⟩
  have hqp : q ≠ p := fun z => S.notMem hp (z ▸ List.mem_of_getElem? e2)
  obtain ⟨r, hn, hf⟩ := S.cell n c q e1 e2
  exact ⟨r.mono (.new (S.ex.none hp)) (List.prefix_refl _) (upd_ne hqp), by rw [upd_ne hqp]; exact hn, fun z => by rw [upd_ne hqp]; exact hf z⟩
/-- a new cell -/
theorem Sim.newC (S : Sim K F ρ H h) {p : Addr} (hp : H p = none) {o : HO} {c : C} (r : RepC K F ρ (upd H p o) p c) : Sim K F (ρ ++ [p]) (upd H p o) (h ++ [c]) := by
  have hm := S.notMem hp
  refine ⟨S.ex.put (S.ex.none hp), by simp [S.len], ?_, fun n d q e1 e2 => ?_⟩
  · rw [List.nodup_append]
    refine ⟨S.nd, by simp, fun a ha b hb => ?_⟩
    rw [List.mem_singleton.mp hb]
    exact fun z => hm (z ▸ ha)
  · by_cases hn : n < h.length
    · rw [List.getElem?_append_left hn] at e1
      rw [List.getElem?_append_left (by rw [S.len]; exact hn)] at e2
      have hqp : q ≠ p := fun z => hm (z ▸ List.mem_of_getElem? e2)
      obtain ⟨r, hn, hf⟩ := S.cell n d q e1 e2
      exact ⟨r.mono (.refl _) (List.prefix_append _ _) (upd_ne hqp), by rw [upd_ne hqp]; exact hn, hf⟩
    · have hl : n = h.length := by
        have := (List.getElem?_eq_some_iff.mp e1).1
        simp at this
        omega
      subst hl
      rw [← S.len, List.getElem?_append_right (Nat.le_refl _)] at e2
      rw [List.getElem?_append_right (Nat.le_refl _)] at e1
      simp at e1 e2
      subst e1 e2
      exact ⟨r.mono (.refl _) (List.prefix_append _ _) rfl, by rw [upd_same]; simp, fun _ => S.ex.none hp⟩
/-- a cell is written -/
theorem Sim.put (S : Sim K F ρ H h) {n : Nat} {p : Addr} {c c' : C} {o : HO} (e1 : h[n]? = some c) (e2 : ρ[n]? = some p) (hc : c ≠ .dead) (r : RepC K F ρ (upd H p o) p c') : Sim K F ρ (upd H p o) (h.set n c') := by
  obtain ⟨_, _, hf⟩ := S.cell n c p e1 e2
  refine ⟨S.ex.put (hf hc), by simp [S.len], S.nd, fun m d q f1 f2 => ?_⟩
  by_cases hmn : n = m
  · subst hmn
    rw [e2] at f2
    cases f2
    rw [List.getElem?_set_self (List.getElem?_eq_some_iff.mp e1).1] at f1
    cases f1
    exact ⟨r, by rw [upd_same]; simp, fun _ => hf hc⟩
  · rw [List.getElem?_set_ne hmn] at f1
    have hqp : q ≠ p := fun z => hmn (nodup_ix S.nd e2 (z ▸ f2))
    obtain ⟨r', hn', hf'⟩ := S.cell m d q f1 f2
    exact ⟨r'.mono (.refl _) (List.prefix_refl _) (upd_ne hqp), by rw [upd_ne hqp]; exact hn', hf'⟩
/-- a cell dies: what it holds is known from now on -/
theorem Sim.kill (S : Sim K F ρ H h) {n : Nat} {p : Addr} {o : HO} {c : C} (e1 : h[n]? = some c) (e2 : ρ[n]? = some p) (ho : H p = some o) (hc : c ≠ .dead) : Sim K (upd F p o) ρ H (h.set n .dead) ∧ Ex F (upd F p o) := by
  obtain ⟨_, _, hf⟩ := S.cell n c p e1 e2
  have ex : Ex F (upd F p o) := .new (hf hc)
  refine ⟨⟨S.ex.known ho, by simp [S.len], S.nd, fun m d q f1 f2 => ?_⟩, ex⟩
  by_cases hmn : n = m
  · subst hmn
    rw [e2] at f2
    cases f2
    rw [List.getElem?_set_self (List.getElem?_eq_some_iff.mp e1).1] at f1
    cases f1
    exact ⟨trivial, by rw [ho]; simp, fun z => absurd rfl z⟩
  · rw [List.getElem?_set_ne hmn] at f1
    have hqp : q ≠ p := fun z => hmn (nodup_ix S.nd e2 (z ▸ f2))
    obtain ⟨r', hn', hf'⟩ := S.cell m d q f1 f2
    exact ⟨r'.mono ex (List.prefix_refl _) rfl, hn', fun z => by rw [upd_ne hqp]; exact hf' z⟩
/-- values below n need the first n cells alone -/
theorem take_get {α : Type} {l : List α} {n k : Nat} (h : k < n) : (l.take n)[k]? = l[k]? := List.getElem?_take_of_lt h
mutual
theorem RepA.cut {n : Nat} : ∀ (a : A) (v : V), a.lo n = true → RepA K F ρ a v → RepA K F (ρ.take n) a v
  | .val d, v, _, r => by unfold RepA at r ⊢; exact r
  | .ref m, v, l, r => by
    unfold RepA at r ⊢
    obtain ⟨p, q, s⟩ := r
    simp only [A.lo, Nat.blt_eq] at l
    exact ⟨p, by rw [take_get l]; exact q, s⟩
  | .tup as, v, l, r => by
    unfold RepA at r ⊢
    obtain ⟨a, xs, q, s, t⟩ := r
    exact ⟨a, xs, q, s, RepAL.cut as xs l t⟩
theorem RepAL.cut {n : Nat} : ∀ (as : List A) (xs : List V), loL n as = true → RepAL K F ρ as xs → RepAL K F (ρ.take n) as xs
  | [], _, _, r => by unfold RepAL at r ⊢; exact r
  | d :: ds, _, l, r => by
    unfold RepAL at r ⊢
    obtain ⟨x, r', q, s, t⟩ := r
    simp only [loL, Bool.and_eq_true] at l
    exact ⟨x, r', q, RepA.cut d x l.1 s, RepAL.cut ds r' l.2 t⟩
end
theorem Sim.cut (S : Sim K F ρ H h) {n : Nat} (sc : Sc n h) : Sim K F (ρ.take n) H (h.take n) := by
  refine ⟨S.ex, by simp [S.len], S.nd.sublist (List.take_sublist _ _), fun m c p e1 e2 => ?_⟩
  have hm : m < n := by
    have := (List.getElem?_eq_some_iff.mp e1).1
    rw [List.length_take] at this
    omega
  rw [take_get hm] at e1 e2
  obtain ⟨r, hn, hf⟩ := S.cell m c p e1 e2
  refine ⟨?_, hn, hf⟩
  have l := sc m c hm e1
  cases c with
  | lst as =>
    obtain ⟨xs, q, t⟩ := r
    exact ⟨xs, q, t.cut as xs l⟩
  | dct ks as =>
    obtain ⟨kvs, q, k, t⟩ := r
    exact ⟨kvs, q, k, t.cut as _ l⟩
  | dead => trivial
mutual
theorem RepA.low : ∀ (a : A) (v : V), RepA K F ρ a v → a.lo ρ.length = true
  | .val d, v, _ => rfl
  | .ref m, v, r => by
    unfold RepA at r
    obtain ⟨p, q, _⟩ := r
    simp only [A.lo, Nat.blt_eq]
    exact (List.getElem?_eq_some_iff.mp q).1
  | .tup as, v, r => by
    unfold RepA at r
    obtain ⟨a, xs, _, _, t⟩ := r
    exact RepAL.low as xs t
theorem RepAL.low : ∀ (as : List A) (xs : List V), RepAL K F ρ as xs → loL ρ.length as = true
  | [], _, _ => rfl
  | d :: ds, _, r => by
    unfold RepAL at r
    obtain ⟨x, r', _, s, t⟩ := r
    simp only [loL, Bool.and_eq_true]
    exact ⟨RepA.low d x s, RepAL.low ds r' t⟩
end
/-- the cells hold no cells from beyond them all -/
theorem Sim.sc (S : Sim K F ρ H h) : Sc h.length h := fun k c hk e => by
  obtain ⟨p, q, r, _⟩ := S.get e
  rw [← S.len]
  cases c with
  | lst as => obtain ⟨xs, _, t⟩ := r; exact t.low as xs
  | dct ks as => obtain ⟨xs, _, _, t⟩ := r; exact t.low as _
  | dead => rfl
end
end Lo
set_option maxHeartbeats 200000
/-! Core C: reading and freezing; == of data. -/
namespace Lo
open PySem PySem.Spec PyProof.Rows L2
/-! ### inversions -/
section
variable {α β : Type}
theorem bind_ok {x : M α} {f : α → M β} {h h' : Hh} {b : β} (e : M.bind x f h = .ok b h') : ∃ a h1, x h = .ok a h1 ∧ f a h1 = .ok b h' := by
  unfold M.bind at e
  cases q : x h with
  | ok c h1 => rw [q] at e; exact ⟨c, h1, rfl, e⟩
  | exc _ _ => rw [q] at e; cases e
  | no => rw [q] at e; cases e
theorem pure_ok {a b : α} {h h' : Hh} (e : M.pure a h = .ok b h') : a = b ∧ h = h' := by cases e; exact ⟨rfl, rfl⟩
theorem lift_ok {o : Option α} {b : α} {h h' : Hh} (e : M.lift o h = .ok b h') : o = some b ∧ h = h' := by
  cases o with
  | none => cases e
  | some a => cases e; exact ⟨rfl, rfl⟩
theorem chk_ok {b : Bool} {u : Unit} {h h' : Hh} (e : M.chk b h = .ok u h') : b = true ∧ h = h' := by
  cases b with
  | false => cases e
  | true => cases e; exact ⟨rfl, rfl⟩
theorem get_ok {a h h' : Hh} (e : M.get h = .ok a h') : a = h ∧ h = h' := by cases e; exact ⟨rfl, rfl⟩
theorem sn_ok {a : A} {d : D} {h h' : Hh} (e : sn a h = .ok d h') : snap 3 h a = some d ∧ h = h' := by
  unfold sn at e
  cases q : snap 3 h a with
  | some x => rw [q] at e; cases e; exact ⟨rfl, rfl⟩
  | none => rw [q] at e; cases e
theorem sf_ok {a : A} {d : D} {h h' : Hh} (e : sf a h = .ok d h') : snap 1 h a = some d ∧ h = h' := by
  unfold sf at e
  cases q : snap 1 h a with
  | some x => rw [q] at e; cases e; exact ⟨rfl, rfl⟩
  | none => rw [q] at e; cases e
end
section
variable {K : PySem.W.Frag} {F H : Hp} {ρ : List Addr} {h : Hh}
/-! ### snapshots -/
theorem repA_val {d : D} {v : V} : RepA K F ρ (.val d) v ↔ RepD K F d v := by unfold RepA; exact Iff.rfl
theorem mapO_rep {α : Type} {P : α → V → Prop} {f : α → Option D} (hf : ∀ a d v, f a = some d → P a v → RepD K H d v) {Q : List α → List V → Prop} (hn : ∀ xs, Q [] xs → xs = []) (hc : ∀ a as xs, Q (a :: as) xs → ∃ x r, xs = x :: r ∧ P a x ∧ Q as r) :
    ∀ (as : List α) (ds : List D) (xs : List V), mapO f as = some ds → Q as xs → RepL K H ds xs
  | [], ds, xs, e, q => by
    unfold mapO at e
    cases e
    rw [hn xs q]
    exact .nil
  | a :: as, ds, xs, e, q => by
    unfold mapO at e
    obtain ⟨x, r, rfl, p, q⟩ := hc a as xs q
    cases e1 : f a with
    | none => rw [e1] at e; cases e
    | some d =>
      rw [e1] at e
      simp only at e
      cases e2 : mapO f as with
      | none => rw [e2] at e; cases e
      | some ds' =>
        rw [e2] at e
        cases e
        exact .cons (hf a d x e1 p) (mapO_rep hf hn hc as ds' r e2 q)
theorem repAL_nil {xs : List V} (r : RepAL K F ρ [] xs) : xs = [] := by unfold RepAL at r; exact r
theorem repAL_cons {a : A} {as : List A} {xs : List V} (r : RepAL K F ρ (a :: as) xs) : ∃ x r, xs = x :: r ∧ RepA K F ρ a x ∧ RepAL K F ρ as r := by unfold RepAL at r; exact r
theorem repL_cons {a : D} {as : List D} {xs : List V} (r : RepL K F (a :: as) xs) : ∃ x r, xs = x :: r ∧ RepD K F a x ∧ RepL K F as r := by unfold RepL at r; exact r
theorem repL_nil {xs : List V} (r : RepL K F [] xs) : xs = [] := by unfold RepL at r; exact r
theorem snap_rep (S : Sim K F ρ H h) : ∀ (k : Nat) (a : A) (d : D) (v : V), snap k h a = some d → RepA K F ρ a v → RepD K H d v
  | 0, .val _, d, v, e, r => by unfold snap at e; cases e; exact (repA_val.mp r).mono S.ex
  | k + 1, .val _, d, v, e, r => by unfold snap at e; cases e; exact (repA_val.mp r).mono S.ex
  | 0, .ref _, d, v, e, r => by unfold snap at e; cases e
  | 0, .tup _, d, v, e, r => by unfold snap at e; cases e
  | k + 1, .ref n, d, v, e, r => by
    unfold RepA at r
    obtain ⟨p, q, rfl⟩ := r
    obtain ⟨c, e1, rc, _, _⟩ := S.at_ q
    unfold snap at e
    rw [e1] at e
    cases c with
    | lst as =>
      obtain ⟨xs, hp, l⟩ := rc
      simp only [Option.map_eq_some_iff] at e
      obtain ⟨ds, e2, rfl⟩ := e
      unfold RepD
      exact ⟨p, xs, rfl, hp, mapO_rep (snap_rep S k) (fun _ => repAL_nil) (fun _ _ _ => repAL_cons) as ds xs e2 l⟩
    | dct ks as =>
      obtain ⟨kvs, hp, hk, l⟩ := rc
      simp only [Option.map_eq_some_iff] at e
      obtain ⟨ds, e2, rfl⟩ := e
      unfold RepD
      exact ⟨p, kvs, rfl, hp, hk, mapO_rep (snap_rep S k) (fun _ => repAL_nil) (fun _ _ _ => repAL_cons) as ds _ e2 l⟩
    | dead => cases e
  | k + 1, .tup as, d, v, e, r => by
    unfold RepA at r
    obtain ⟨p, xs, rfl, hp, l⟩ := r
    unfold snap at e
    simp only [Option.map_eq_some_iff] at e
    obtain ⟨ds, e2, rfl⟩ := e
    unfold RepD
    exact ⟨p, xs, rfl, ex_t S.ex hp, mapO_rep (snap_rep S k) (fun _ => repAL_nil) (fun _ _ _ => repAL_cons) as ds xs e2 l⟩
/-- the outermost object as it stands in H, its parts in F -/
def RepS (K : PySem.W.Frag) (F H : Hp) : D → V → Prop
  | .tup ds, v => ∃ a xs, v = .ref a ∧ SqT K F a xs ∧ RepL K F ds xs
  | .lst ds, v => ∃ a xs, v = .ref a ∧ H a = some (.lst xs) ∧ RepL K F ds xs
  | .dct ks ds, v => ∃ a kvs, v = .ref a ∧ H a = some (.dK kvs) ∧ kvs.map (·.1) = ks ∧ RepL K F ds (kvs.map (·.2))
  | .scr ns, v => ∃ a, v = .ref a ∧ SqL K F a (ns.map V.int)
  | .non, v => v = .non
  | .bl b, v => v = .bl b
  | .int i, v => v = .int i
  | .str x, v => v = .str x
theorem RepS.of (e : Ex F H) : ∀ {d : D} {v : V}, RepD K F d v → RepS K F H d v
  | .non, _, r => by unfold RepD at r; exact r
  | .bl _, _, r => by unfold RepD at r; exact r
  | .int _, _, r => by unfold RepD at r; exact r
  | .str _, _, r => by unfold RepD at r; exact r
  | .tup _, _, r => by unfold RepD at r; obtain ⟨a, xs, q, s, l⟩ := r; exact ⟨a, xs, q, s, l⟩
  | .lst _, _, r => by unfold RepD at r; obtain ⟨a, xs, q, s, l⟩ := r; exact ⟨a, xs, q, e _ _ s, l⟩
  | .dct _ _, _, r => by unfold RepD at r; obtain ⟨a, xs, q, s, k, l⟩ := r; exact ⟨a, xs, q, e _ _ s, k, l⟩
  | .scr _, _, r => by unfold RepD at r; obtain ⟨a, q, s⟩ := r; exact ⟨a, q, s⟩
theorem mapO_vals : ∀ (as : List A) (ds : List D) (xs : List V), mapO (snap 0 h) as = some ds → RepAL K F ρ as xs → RepL K F ds xs
  | [], ds, xs, e, q => by unfold mapO at e; cases e; rw [repAL_nil q]; exact .nil
  | a :: as, ds, xs, e, q => by
    obtain ⟨x, r, rfl, p, q2⟩ := repAL_cons q
    unfold mapO at e
    cases a with
    | val d =>
      simp only [snap] at e
      cases e2 : mapO (snap 0 h) as with
      | none => rw [e2] at e; cases e
      | some ds' =>
        rw [e2] at e
        cases e
        exact .cons (repA_val.mp p) (mapO_vals as ds' r e2 q2)
    | ref n => simp only [snap] at e; cases e
    | tup as => simp only [snap] at e; cases e
theorem sf_rep (S : Sim K F ρ H h) {a : A} {d : D} {v : V} (e : snap 1 h a = some d) (r : RepA K F ρ a v) : RepS K F H d v := by
  cases a with
  | val d' => unfold snap at e; cases e; exact RepS.of S.ex (repA_val.mp r)
  | ref n =>
    unfold RepA at r
    obtain ⟨p, q, rfl⟩ := r
    obtain ⟨c, e1, rc, _, _⟩ := S.at_ q
    unfold snap at e
    rw [e1] at e
    cases c with
    | lst as =>
      obtain ⟨xs, hp, l⟩ := rc
      simp only [Option.map_eq_some_iff] at e
      obtain ⟨ds, e2, rfl⟩ := e
      exact ⟨p, xs, rfl, hp, mapO_vals as ds xs e2 l⟩
    | dct ks as =>
      obtain ⟨kvs, hp, hk, l⟩ := rc
      simp only [Option.map_eq_some_iff] at e
      obtain ⟨ds, e2, rfl⟩ := e
      exact ⟨p, kvs, rfl, hp, hk, mapO_vals as ds _ e2 l⟩
    | dead => cases e
  | tup as =>
    unfold RepA at r
    obtain ⟨p, xs, rfl, hp, l⟩ := r
    unfold snap at e
    simp only [Option.map_eq_some_iff] at e
    obtain ⟨ds, e2, rfl⟩ := e
    exact ⟨p, xs, rfl, hp, mapO_vals as ds xs e2 l⟩
/-! ### freezing -/
theorem mapM_frz {k : Nat} (hk : ∀ (a : A) (d : D) (v : V) (F H : Hp) (h h' : Hh), Sim K F ρ H h → RepA K F ρ a v → frz k a h = .ok d h' → ∃ F', Ex F F' ∧ Sim K F' ρ H h' ∧ RepD K F' d v) :
    ∀ (as : List A) (ds : List D) (xs : List V) (F H : Hp) (h h' : Hh), Sim K F ρ H h → RepAL K F ρ as xs → mapM' (frz k) as h = .ok ds h' → ∃ F', Ex F F' ∧ Sim K F' ρ H h' ∧ RepL K F' ds xs
  | [], ds, xs, F, H, h, h', S, r, e => by
    obtain ⟨rfl, rfl⟩ := pure_ok e
    rw [repAL_nil r]
    exact ⟨F, .refl F, S, .nil⟩
  | a :: as, ds, xs, F, H, h, h', S, r, e => by
    obtain ⟨x, r', rfl, p, q⟩ := repAL_cons r
    obtain ⟨d, h1, e1, e⟩ := bind_ok e
    obtain ⟨ds', h2, e2, e⟩ := bind_ok e
    obtain ⟨rfl, rfl⟩ := pure_ok e
    obtain ⟨F1, x1, S1, r1⟩ := hk a d x F H h h1 S p e1
    obtain ⟨F2, x2, S2, r2⟩ := mapM_frz hk as ds' r' F1 H h1 h2 S1 (q.mono x1 (List.prefix_refl _)) e2
    exact ⟨F2, x1.trans x2, S2, .cons (r1.mono x2) r2⟩
theorem frz_rep : ∀ (k : Nat) (a : A) (d : D) (v : V) (F H : Hp) (h h' : Hh), Sim K F ρ H h → RepA K F ρ a v → frz k a h = .ok d h' → ∃ F', Ex F F' ∧ Sim K F' ρ H h' ∧ RepD K F' d v
  | 0, .val d, _, v, F, H, h, h', S, r, e => by obtain ⟨rfl, rfl⟩ := pure_ok e; exact ⟨F, .refl F, S, repA_val.mp r⟩
  | k + 1, .val d, _, v, F, H, h, h', S, r, e => by obtain ⟨rfl, rfl⟩ := pure_ok e; exact ⟨F, .refl F, S, repA_val.mp r⟩
  | 0, .ref _, _, v, F, H, h, h', S, r, e => by cases e
  | 0, .tup _, _, v, F, H, h, h', S, r, e => by cases e
  | k + 1, .ref n, d, v, F, H, h, h', S, r, e => by
    unfold RepA at r
    obtain ⟨p, q, rfl⟩ := r
    obtain ⟨c, e1, rc, _, _⟩ := S.at_ q
    unfold frz at e
    obtain ⟨g, h1, eg, e⟩ := bind_ok e
    obtain ⟨rfl, rfl⟩ := get_ok eg
    rw [e1] at e
    cases c with
    | lst as =>
      obtain ⟨xs, hp, l⟩ := rc
      obtain ⟨_, h2, e2, e⟩ := bind_ok e
      obtain ⟨ds, h3, e3, e⟩ := bind_ok e
      obtain ⟨rfl, rfl⟩ := pure_ok e
      cases e2
      obtain ⟨S2, x2⟩ := S.kill e1 q hp (fun z => nomatch z)
      obtain ⟨F3, x3, S3, r3⟩ := mapM_frz (frz_rep k) as ds xs _ H _ _ S2 (l.mono x2 (List.prefix_refl _)) e3
      refine ⟨F3, x2.trans x3, S3, ?_⟩
      unfold RepD
      exact ⟨p, xs, rfl, x3 _ _ upd_same, r3⟩
    | dct ks as =>
      obtain ⟨kvs, hp, hk, l⟩ := rc
      obtain ⟨_, h2, e2, e⟩ := bind_ok e
      obtain ⟨ds, h3, e3, e⟩ := bind_ok e
      obtain ⟨rfl, rfl⟩ := pure_ok e
      cases e2
      obtain ⟨S2, x2⟩ := S.kill e1 q hp (fun z => nomatch z)
      obtain ⟨F3, x3, S3, r3⟩ := mapM_frz (frz_rep k) as ds _ _ H _ _ S2 (l.mono x2 (List.prefix_refl _)) e3
      refine ⟨F3, x2.trans x3, S3, ?_⟩
      unfold RepD
      exact ⟨p, kvs, rfl, x3 _ _ upd_same, hk, r3⟩
    | dead => cases e
  | k + 1, .tup as, d, v, F, H, h, h', S, r, e => by
    unfold RepA at r
    obtain ⟨p, xs, rfl, hp, l⟩ := r
    unfold frz at e
    obtain ⟨ds, h3, e3, e⟩ := bind_ok e
    obtain ⟨rfl, rfl⟩ := pure_ok e
    obtain ⟨F3, x3, S3, r3⟩ := mapM_frz (frz_rep k) as ds xs _ H _ _ S l e3
    refine ⟨F3, x3, S3, ?_⟩
    unfold RepD
    exact ⟨p, xs, rfl, ex_t x3 hp, r3⟩
theorem frzL_rep {as : List A} {ds : List D} {xs : List V} {h' : Hh} (S : Sim K F ρ H h) (r : RepAL K F ρ as xs) (e : frzL as h = .ok ds h') : ∃ F', Ex F F' ∧ Sim K F' ρ H h' ∧ RepL K F' ds xs :=
  mapM_frz (frz_rep 3) as ds xs F H h h' S r e
end
/-! ### == of data -/
section
variable {X : Cx} {pins : List (Addr × Obj)} {σ : L2.St} {H : Hp} {s : Shared}
theorem eqvL_all : ∀ {xs ys : List D}, xs.length = ys.length → eqvL xs ys = (List.range xs.length).all fun i => ((xs[i]?).bind fun x => (ys[i]?).map fun y => x.eqv y).getD false
  | [], [], _ => rfl
  | x :: xs, y :: ys, h => by
    have ih := eqvL_all (xs := xs) (ys := ys) (by simpa using h)
    simp only [eqvL, List.length_cons, List.range_succ_eq_map, List.all_cons, List.all_map]
    rw [ih]
    simp [Function.comp_def]
  | [], _ :: _, h => by simp at h
  | _ :: _, [], h => by simp at h
theorem eqvL_len : ∀ {xs ys : List D}, xs.length ≠ ys.length → eqvL xs ys = false
  | [], [], h => absurd rfl h
  | x :: xs, y :: ys, h => by
    simp only [eqvL]
    rw [eqvL_len (xs := xs) (ys := ys) (by simpa using h)]
    simp
  | [], _ :: _, _ => rfl
  | _ :: _, [], _ => rfl
def isSeq : D → Bool
  | .tup _ => true
  | .lst _ => true
  | .dct _ _ => true
  | .scr _ => true
  | _ => false
theorem RepD.tup_of {K : PySem.W.Frag} {H : Hp} {ds : List D} {v : V} (r : RepD K H (.tup ds) v) : ∃ a xs, v = .ref a ∧ SqT K H a xs ∧ RepL K H ds xs := by unfold RepD at r; exact r
theorem RepD.lst_of {K : PySem.W.Frag} {H : Hp} {ds : List D} {v : V} (r : RepD K H (.lst ds) v) : ∃ a xs, v = .ref a ∧ H a = some (.lst xs) ∧ RepL K H ds xs := by unfold RepD at r; exact r
theorem RepD.dct_of {K : PySem.W.Frag} {H : Hp} {ks : List Key} {ds : List D} {v : V} (r : RepD K H (.dct ks ds) v) : ∃ a kvs, v = .ref a ∧ H a = some (.dK kvs) ∧ kvs.map (·.1) = ks ∧ RepL K H ds (kvs.map (·.2)) := by unfold RepD at r; exact r
/-- the same object twice -/
theorem lookK_nth {k : Key} : ∀ {ks : List Key} {ds : List D} {i : Nat} {d : D}, ks.Nodup → ks[i]? = some k → ds[i]? = some d → lookK k ks ds = some d
  | [], _, _, _, _, h, _ => by simp at h
  | _ :: _, [], _, _, _, _, h => by simp at h
  | j :: ks, e :: ds, 0, d, _, h1, h2 => by
    simp at h1 h2
    subst h1 h2
    simp [lookK]
  | j :: ks, e :: ds, i + 1, d, nd, h1, h2 => by
    simp at h1 h2
    have nm : ¬ j = k := fun z => (List.nodup_cons.mp nd).1 (z ▸ List.mem_of_getElem? h1)
    unfold lookK
    rw [if_neg nm]
    exact lookK_nth (List.nodup_cons.mp nd).2 h1 h2
theorem kv_keys {l : List (Key × V)} {vs : List (Key × Value)} (r : KV l vs) : l.map (·.1) = vs.map (·.1) := by
  unfold KV at r
  induction r with
  | nil => rfl
  | cons h _ ih =>
    rw [List.map_cons, List.map_cons, ih]
    rw [h.1]
theorem keys_nodup (I : Inv X pins σ H s) {a : Addr} {kvs : List (Key × V)} (h : H a = some (.dK kvs)) : (kvs.map (·.1)).Nodup := by
  obtain ⟨_, _, vs, r, _, _, _, _, _, _, _, _, nd⟩ := I.hok a _ h
  rw [kv_keys r]
  exact nd
theorem okcL_of {n : Nat} (ih : ∀ (d e : D), d.pl n = true → e.pl n = true → d.okc e n = true) : ∀ {ds es : List D}, plL ds n = true → plL es n = true → okcL ds es n = true
  | [], _, _, _ => by unfold okcL; rfl
  | _ :: _, [], _, _ => by unfold okcL; rfl
  | d :: ds, e :: es, h1, h2 => by
    simp only [plL, Bool.and_eq_true] at h1 h2
    unfold okcL
    simp only [Bool.and_eq_true]
    exact ⟨ih d e h1.1 h2.1, okcL_of ih h1.2 h2.2⟩
theorem okc_pl : ∀ (n : Nat) (d e : D), d.pl n = true → e.pl n = true → d.okc e n = true := by
  intro n
  induction n with
  | zero =>
    intro d e h1 h2
    cases d <;> cases e <;> first | (simp [D.pl] at h1; done) | (simp [D.pl] at h2; done) | (unfold D.okc; simp [h1, h2])
  | succ n ih =>
    intro d e h1 h2
    cases d with
    | lst ds =>
      cases e with
      | lst es =>
        unfold D.okc
        simp only [D.pl] at h1 h2
        exact okcL_of ih h1 h2
      | _ => unfold D.okc; simp [h1, h2]
    | dct _ _ => simp [D.pl] at h1
    | _ => cases e <;> (unfold D.okc; simp [h1, h2])
theorem plL_mem {n : Nat} : ∀ {ds : List D} {d : D}, plL ds n = true → d ∈ ds → d.pl n = true
  | [], _, _, h => by cases h
  | c :: ds, d, h1, h => by
    simp only [plL, Bool.and_eq_true] at h1
    rcases List.mem_cons.mp h with rfl | h
    · exact h1.1
    · exact plL_mem h1.2 h
theorem okcL_get {n : Nat} : ∀ {ds es : List D} {j : Nat}, okcL ds es n = true → (h1 : j < ds.length) → (h2 : j < es.length) → ds[j].okc es[j] n = true
  | [], _, _, _, h, _ => by simp at h
  | _ :: _, [], _, _, _, h => by simp at h
  | d :: ds, e :: es, 0, h, _, _ => by unfold okcL at h; simp only [Bool.and_eq_true] at h; exact h.1
  | d :: ds, e :: es, j + 1, h, h1, h2 => by
    unfold okcL at h
    simp only [Bool.and_eq_true] at h
    simpa using okcL_get (j := j) h.2 (by simpa using h1) (by simpa using h2)
/-- two leaves -/
theorem sc_rc {A : Around} : ∀ {d e : D} {v y : V} {u z : Value}, isSeq d = false → isSeq e = false → RepD X.K H d v → RepD X.K H e y → RelV v u → RelV y z → SeqAt.RcAt A s u z (d.eqv e) ∧ SeqAt.EqAt A s u z (d.eqv e)
  | .non, .non, v, y, u, z, _, _, r, q, rv, ry => by
    unfold RepD at r q
    subst r q
    cases (show u = Value.none from rv)
    cases (show z = Value.none from ry)
    exact ⟨SeqAt.RcAt.none_none, SeqAt.EqAt.same _⟩
  | .non, .bl b2, v, y, u, z, _, _, r, q, rv, ry => by
    unfold RepD at r q
    subst r q
    cases (show u = Value.none from rv)
    cases (show z = Value.bool b2 from ry)
    exact ⟨SeqAt.RcAt.none_bool b2, SeqAt.EqAt.none_bool b2⟩
  | .non, .int i2, v, y, u, z, _, _, r, q, rv, ry => by
    unfold RepD at r q
    subst r q
    cases (show u = Value.none from rv)
    obtain ⟨t2, rfl⟩ := ry
    exact ⟨SeqAt.RcAt.none_int i2 t2, SeqAt.EqAt.none_int i2 t2⟩
  | .non, .str x2, v, y, u, z, _, _, r, q, rv, ry => by
    unfold RepD at r q
    subst r q
    cases (show u = Value.none from rv)
    obtain ⟨t2, rfl⟩ := ry
    exact ⟨SeqAt.RcAt.none_str x2 t2, SeqAt.EqAt.none_str x2 t2⟩
  | .bl b1, .non, v, y, u, z, _, _, r, q, rv, ry => by
    unfold RepD at r q
    subst r q
    cases (show u = Value.bool b1 from rv)
    cases (show z = Value.none from ry)
    exact ⟨SeqAt.RcAt.bool_none b1, SeqAt.EqAt.bool_none b1⟩
  | .bl b1, .bl b2, v, y, u, z, _, _, r, q, rv, ry => by
    unfold RepD at r q
    subst r q
    cases (show u = Value.bool b1 from rv)
    cases (show z = Value.bool b2 from ry)
    exact ⟨SeqAt.RcAt.bool_bool b1 b2, SeqAt.EqAt.bool_bool b1 b2⟩
  | .bl b1, .int i2, v, y, u, z, _, _, r, q, rv, ry => by
    unfold RepD at r q
    subst r q
    cases (show u = Value.bool b1 from rv)
    obtain ⟨t2, rfl⟩ := ry
    exact ⟨SeqAt.RcAt.bool_int b1 i2 t2, SeqAt.EqAt.bool_int b1 i2 t2⟩
  | .bl b1, .str x2, v, y, u, z, _, _, r, q, rv, ry => by
    unfold RepD at r q
    subst r q
    cases (show u = Value.bool b1 from rv)
    obtain ⟨t2, rfl⟩ := ry
    exact ⟨SeqAt.RcAt.bool_str b1 x2 t2, SeqAt.EqAt.bool_str b1 x2 t2⟩
  | .int i1, .non, v, y, u, z, _, _, r, q, rv, ry => by
    unfold RepD at r q
    subst r q
    obtain ⟨t1, rfl⟩ := rv
    cases (show z = Value.none from ry)
    exact ⟨SeqAt.RcAt.int_none i1 t1, SeqAt.EqAt.int_none i1 t1⟩
  | .int i1, .bl b2, v, y, u, z, _, _, r, q, rv, ry => by
    unfold RepD at r q
    subst r q
    obtain ⟨t1, rfl⟩ := rv
    cases (show z = Value.bool b2 from ry)
    exact ⟨SeqAt.RcAt.int_bool i1 t1 b2, SeqAt.EqAt.int_bool i1 t1 b2⟩
  | .int i1, .int i2, v, y, u, z, _, _, r, q, rv, ry => by
    unfold RepD at r q
    subst r q
    obtain ⟨t1, rfl⟩ := rv
    obtain ⟨t2, rfl⟩ := ry
    exact ⟨SeqAt.RcAt.int_int i1 t1 i2 t2, SeqAt.EqAt.int_int i1 t1 i2 t2⟩
  | .int i1, .str x2, v, y, u, z, _, _, r, q, rv, ry => by
    unfold RepD at r q
    subst r q
    obtain ⟨t1, rfl⟩ := rv
    obtain ⟨t2, rfl⟩ := ry
    exact ⟨SeqAt.RcAt.int_str i1 t1 x2 t2, SeqAt.EqAt.int_str i1 t1 x2 t2⟩
  | .str x1, .non, v, y, u, z, _, _, r, q, rv, ry => by
    unfold RepD at r q
    subst r q
    obtain ⟨t1, rfl⟩ := rv
    cases (show z = Value.none from ry)
    exact ⟨SeqAt.RcAt.str_none x1 t1, SeqAt.EqAt.str_none x1 t1⟩
  | .str x1, .bl b2, v, y, u, z, _, _, r, q, rv, ry => by
    unfold RepD at r q
    subst r q
    obtain ⟨t1, rfl⟩ := rv
    cases (show z = Value.bool b2 from ry)
    exact ⟨SeqAt.RcAt.str_bool x1 t1 b2, SeqAt.EqAt.str_bool x1 t1 b2⟩
  | .str x1, .int i2, v, y, u, z, _, _, r, q, rv, ry => by
    unfold RepD at r q
    subst r q
    obtain ⟨t1, rfl⟩ := rv
    obtain ⟨t2, rfl⟩ := ry
    exact ⟨SeqAt.RcAt.str_int x1 t1 i2 t2, SeqAt.EqAt.str_int x1 t1 i2 t2⟩
  | .str x1, .str x2, v, y, u, z, _, _, r, q, rv, ry => by
    unfold RepD at r q
    subst r q
    obtain ⟨t1, rfl⟩ := rv
    obtain ⟨t2, rfl⟩ := ry
    exact ⟨SeqAt.RcAt.str_str x1 t1 x2 t2, SeqAt.EqAt.str_str x1 t1 x2 t2⟩
  | .tup _, _, _, _, _, _, h, _, _, _, _, _ => by cases h
  | .lst _, _, _, _, _, _, h, _, _, _, _, _ => by cases h
  | .dct _ _, _, _, _, _, _, h, _, _, _, _, _ => by cases h
  | .scr _, _, _, _, _, _, h, _, _, _, _, _ => by cases h
  | .non, .tup _, _, _, _, _, _, h, _, _, _, _ => by cases h
  | .non, .lst _, _, _, _, _, _, h, _, _, _, _ => by cases h
  | .non, .dct _ _, _, _, _, _, _, h, _, _, _, _ => by cases h
  | .non, .scr _, _, _, _, _, _, h, _, _, _, _ => by cases h
  | .bl _, .tup _, _, _, _, _, _, h, _, _, _, _ => by cases h
  | .bl _, .lst _, _, _, _, _, _, h, _, _, _, _ => by cases h
  | .bl _, .dct _ _, _, _, _, _, _, h, _, _, _, _ => by cases h
  | .bl _, .scr _, _, _, _, _, _, h, _, _, _, _ => by cases h
  | .int _, .tup _, _, _, _, _, _, h, _, _, _, _ => by cases h
  | .int _, .lst _, _, _, _, _, _, h, _, _, _, _ => by cases h
  | .int _, .dct _ _, _, _, _, _, _, h, _, _, _, _ => by cases h
  | .int _, .scr _, _, _, _, _, _, h, _, _, _, _ => by cases h
  | .str _, .tup _, _, _, _, _, _, h, _, _, _, _ => by cases h
  | .str _, .lst _, _, _, _, _, _, h, _, _, _, _ => by cases h
  | .str _, .dct _ _, _, _, _, _, _, h, _, _, _, _ => by cases h
  | .str _, .scr _, _, _, _, _, _, h, _, _, _, _ => by cases h
/-- a leaf and a list or a tuple -/
theorem sq_rc (I : Inv X pins σ H s) {A : Around} (hu : A.units < cLine) : ∀ {d e : D} {v y : V} {u z : Value} {n : Nat}, isSeq d = false → isSeq e = true → e.pl n = true → RepD X.K H d v → RepD X.K H e y → RelV v u → RelV y z →
    (SeqAt.RcAt A s u z (d.eqv e) ∧ SeqAt.EqAt A s u z (d.eqv e)) ∧ SeqAt.RcAt A s z u (e.eqv d) ∧ SeqAt.EqAt A s z u (e.eqv d)
  | .non, .tup es, v, y, u, z, n, _, _, _, r, q, rv, ry => by
    obtain ⟨a, xs, rfl, ha, _⟩ := q.tup_of
    unfold RepD at r
    subst r
    cases (show z = Value.ref a from ry)
    cases (show u = Value.none from rv)
    obtain ⟨_, _, ⟨o, o1, o2, o3, o4⟩, _⟩ := I.tuple ha
    have hl : s.heap.IsTuple a _ := ⟨o, o1, o2, o3, o4⟩
    exact ⟨⟨SeqAt.RcAt.none_tuple  hl hu, SeqAt.EqAt.none_tuple  hl hu⟩, SeqAt.RcAt.tuple_none  hl hu, SeqAt.EqAt.tuple_none  hl hu⟩
  | .non, .lst es, v, y, u, z, n, _, _, _, r, q, rv, ry => by
    obtain ⟨a, xs, rfl, ha, _⟩ := q.lst_of
    unfold RepD at r
    subst r
    cases (show z = Value.ref a from ry)
    cases (show u = Value.none from rv)
    obtain ⟨_, _, p, _⟩ := I.list (sl_of (K := X.K) ha)
    have hl := p.isList
    exact ⟨⟨SeqAt.RcAt.none_list  hl hu, SeqAt.EqAt.none_list  hl hu⟩, SeqAt.RcAt.list_none  hl hu, SeqAt.EqAt.list_none  hl hu⟩
  | .non, .dct _ _, _, _, _, _, n, _, _, h, _, _, _, _ => by simp [D.pl] at h
  | .non, .scr _, _, _, _, _, n, _, _, h, _, _, _, _ => by simp [D.pl] at h
  | .non, .non, _, _, _, _, n, _, h, _, _, _, _, _ => by cases h
  | .non, .bl _, _, _, _, _, n, _, h, _, _, _, _, _ => by cases h
  | .non, .int _, _, _, _, _, n, _, h, _, _, _, _, _ => by cases h
  | .non, .str _, _, _, _, _, n, _, h, _, _, _, _, _ => by cases h
  | .bl b1, .tup es, v, y, u, z, n, _, _, _, r, q, rv, ry => by
    obtain ⟨a, xs, rfl, ha, _⟩ := q.tup_of
    unfold RepD at r
    subst r
    cases (show z = Value.ref a from ry)
    cases (show u = Value.bool b1 from rv)
    obtain ⟨_, _, ⟨o, o1, o2, o3, o4⟩, _⟩ := I.tuple ha
    have hl : s.heap.IsTuple a _ := ⟨o, o1, o2, o3, o4⟩
    exact ⟨⟨SeqAt.RcAt.bool_tuple b1 hl hu, SeqAt.EqAt.bool_tuple b1 hl hu⟩, SeqAt.RcAt.tuple_bool b1 hl hu, SeqAt.EqAt.tuple_bool b1 hl hu⟩
  | .bl b1, .lst es, v, y, u, z, n, _, _, _, r, q, rv, ry => by
    obtain ⟨a, xs, rfl, ha, _⟩ := q.lst_of
    unfold RepD at r
    subst r
    cases (show z = Value.ref a from ry)
    cases (show u = Value.bool b1 from rv)
    obtain ⟨_, _, p, _⟩ := I.list (sl_of (K := X.K) ha)
    have hl := p.isList
    exact ⟨⟨SeqAt.RcAt.bool_list b1 hl hu, SeqAt.EqAt.bool_list b1 hl hu⟩, SeqAt.RcAt.list_bool b1 hl hu, SeqAt.EqAt.list_bool b1 hl hu⟩
  | .bl _, .dct _ _, _, _, _, _, n, _, _, h, _, _, _, _ => by simp [D.pl] at h
  | .bl _, .scr _, _, _, _, _, n, _, _, h, _, _, _, _ => by simp [D.pl] at h
  | .bl _, .non, _, _, _, _, n, _, h, _, _, _, _, _ => by cases h
  | .bl _, .bl _, _, _, _, _, n, _, h, _, _, _, _, _ => by cases h
  | .bl _, .int _, _, _, _, _, n, _, h, _, _, _, _, _ => by cases h
  | .bl _, .str _, _, _, _, _, n, _, h, _, _, _, _, _ => by cases h
  | .int i1, .tup es, v, y, u, z, n, _, _, _, r, q, rv, ry => by
    obtain ⟨a, xs, rfl, ha, _⟩ := q.tup_of
    unfold RepD at r
    subst r
    cases (show z = Value.ref a from ry)
    obtain ⟨t1, rfl⟩ := rv
    obtain ⟨_, _, ⟨o, o1, o2, o3, o4⟩, _⟩ := I.tuple ha
    have hl : s.heap.IsTuple a _ := ⟨o, o1, o2, o3, o4⟩
    exact ⟨⟨SeqAt.RcAt.int_tuple i1 t1 hl hu, SeqAt.EqAt.int_tuple i1 t1 hl hu⟩, SeqAt.RcAt.tuple_int i1 t1 hl hu, SeqAt.EqAt.tuple_int i1 t1 hl hu⟩
  | .int i1, .lst es, v, y, u, z, n, _, _, _, r, q, rv, ry => by
    obtain ⟨a, xs, rfl, ha, _⟩ := q.lst_of
    unfold RepD at r
    subst r
    cases (show z = Value.ref a from ry)
    obtain ⟨t1, rfl⟩ := rv
    obtain ⟨_, _, p, _⟩ := I.list (sl_of (K := X.K) ha)
    have hl := p.isList
    exact ⟨⟨SeqAt.RcAt.int_list i1 t1 hl hu, SeqAt.EqAt.int_list i1 t1 hl hu⟩, SeqAt.RcAt.list_int i1 t1 hl hu, SeqAt.EqAt.list_int i1 t1 hl hu⟩
  | .int _, .dct _ _, _, _, _, _, n, _, _, h, _, _, _, _ => by simp [D.pl] at h
  | .int _, .scr _, _, _, _, _, n, _, _, h, _, _, _, _ => by simp [D.pl] at h
  | .int _, .non, _, _, _, _, n, _, h, _, _, _, _, _ => by cases h
  | .int _, .bl _, _, _, _, _, n, _, h, _, _, _, _, _ => by cases h
  | .int _, .int _, _, _, _, _, n, _, h, _, _, _, _, _ => by cases h
  | .int _, .str _, _, _, _, _, n, _, h, _, _, _, _, _ => by cases h
  | .str x1, .tup es, v, y, u, z, n, _, _, _, r, q, rv, ry => by
    obtain ⟨a, xs, rfl, ha, _⟩ := q.tup_of
    unfold RepD at r
    subst r
    cases (show z = Value.ref a from ry)
    obtain ⟨t1, rfl⟩ := rv
    obtain ⟨_, _, ⟨o, o1, o2, o3, o4⟩, _⟩ := I.tuple ha
    have hl : s.heap.IsTuple a _ := ⟨o, o1, o2, o3, o4⟩
    exact ⟨⟨SeqAt.RcAt.str_tuple x1 t1 hl hu, SeqAt.EqAt.str_tuple x1 t1 hl hu⟩, SeqAt.RcAt.tuple_str x1 t1 hl hu, SeqAt.EqAt.tuple_str x1 t1 hl hu⟩
  | .str x1, .lst es, v, y, u, z, n, _, _, _, r, q, rv, ry => by
    obtain ⟨a, xs, rfl, ha, _⟩ := q.lst_of
    unfold RepD at r
    subst r
    cases (show z = Value.ref a from ry)
    obtain ⟨t1, rfl⟩ := rv
    obtain ⟨_, _, p, _⟩ := I.list (sl_of (K := X.K) ha)
    have hl := p.isList
    exact ⟨⟨SeqAt.RcAt.str_list x1 t1 hl hu, SeqAt.EqAt.str_list x1 t1 hl hu⟩, SeqAt.RcAt.list_str x1 t1 hl hu, SeqAt.EqAt.list_str x1 t1 hl hu⟩
  | .str _, .dct _ _, _, _, _, _, n, _, _, h, _, _, _, _ => by simp [D.pl] at h
  | .str _, .scr _, _, _, _, _, n, _, _, h, _, _, _, _ => by simp [D.pl] at h
  | .str _, .non, _, _, _, _, n, _, h, _, _, _, _, _ => by cases h
  | .str _, .bl _, _, _, _, _, n, _, h, _, _, _, _, _ => by cases h
  | .str _, .int _, _, _, _, _, n, _, h, _, _, _, _, _ => by cases h
  | .str _, .str _, _, _, _, _, n, _, h, _, _, _, _, _ => by cases h
  | .tup _, _, _, _, _, _, n, h, _, _, _, _, _, _ => by cases h
  | .lst _, _, _, _, _, _, n, h, _, _, _, _, _, _ => by cases h
  | .dct _ _, _, _, _, _, _, n, h, _, _, _, _, _, _ => by cases h
  | .scr _, _, _, _, _, _, n, h, _, _, _, _, _, _ => by cases h
theorem eqvK_all {ls : List Key} {es : List D} : ∀ {ks : List Key} {ds : List D}, (∀ (i : Nat) (k : Key) (d : D), ks[i]? = some k → ds[i]? = some d → ∃ e, lookK k ls es = some e ∧ d.eqv e = true) → eqvK ks ds ls es = true
  | [], [], _ => by unfold eqvK; rfl
  | _ :: _, [], _ => by unfold eqvK; rfl
  | [], _ :: _, _ => by unfold eqvK; rfl
  | k :: ks, d :: ds, h => by
    unfold eqvK
    obtain ⟨e, h1, h2⟩ := h 0 k d rfl rfl
    rw [h1]
    simp only [h2, Bool.true_and]
    exact eqvK_all fun i k d h1 h2 => h (i + 1) k d (by simpa using h1) (by simpa using h2)
mutual
theorem rep_same (I : Inv X pins σ H s) : ∀ (d e : D) (v : V) (n : Nat), d.okc e n = true → RepD X.K H d v → RepD X.K H e v → d.eqv e = true
  | .non, e, v, n, h2, r, q => by
    unfold RepD at r
    subst r
    cases e <;> first | rfl | (simp [D.okc, D.pl] at h2; done) | (unfold RepD at q; cases q; done) | (unfold RepD at q; obtain ⟨_, _, z, _⟩ := q; cases z)
  | .bl b, e, v, n, h2, r, q => by
    unfold RepD at r
    subst r
    cases e <;> first | (simp [D.okc, D.pl] at h2; done) | (unfold RepD at q; cases q; done) | (unfold RepD at q; obtain ⟨_, _, z, _⟩ := q; cases z) | (unfold RepD at q; cases q; simp [D.eqv])
  | .int i, e, v, n, h2, r, q => by
    unfold RepD at r
    subst r
    cases e <;> first | (simp [D.okc, D.pl] at h2; done) | (unfold RepD at q; cases q; done) | (unfold RepD at q; obtain ⟨_, _, z, _⟩ := q; cases z) | (unfold RepD at q; cases q; simp [D.eqv])
  | .str x, e, v, n, h2, r, q => by
    unfold RepD at r
    subst r
    cases e <;> first | (simp [D.okc, D.pl] at h2; done) | (unfold RepD at q; cases q; done) | (unfold RepD at q; obtain ⟨_, _, z, _⟩ := q; cases z) | (unfold RepD at q; cases q; simp [D.eqv])
  | .tup ds, e, v, n, h2, r, q => by
    obtain ⟨a, xs, rfl, ha, l⟩ := r.tup_of
    cases e with
    | tup es =>
      obtain ⟨b, ys, z, hb, m⟩ := q.tup_of
      cases z
      rw [I.tuple_inj hb ha] at m
      unfold D.okc at h2
      simp only [Bool.and_eq_true] at h2
      cases n with
      | zero => simp [D.pl] at h2
      | succ n =>
        simp only [D.pl] at h2
        simp only [D.eqv]
        exact reps_same I ds es xs n (okcL_of (okc_pl n) h2.1 h2.2) l m
    | lst es =>
      obtain ⟨b, ys, z, hb, m⟩ := q.lst_of
      cases z
      obtain ⟨_, _, ⟨ob, o1, o2, _⟩, _⟩ := I.tuple ha
      obtain ⟨_, _, _, _, _, o4⟩ := I.lstM hb
      rw [o1] at o4
      have z4 := Option.some.inj o4
      rw [z4] at o2
      injection o2 with z5
      exact absurd z5 (by decide)
    | dct ks es => simp [D.okc, D.pl] at h2
    | scr ns => simp [D.okc, D.pl] at h2
    | _ => unfold RepD at q; cases q
  | .lst ds, e, v, n, h2, r, q => by
    obtain ⟨a, xs, rfl, ha, l⟩ := r.lst_of
    cases e with
    | lst es =>
      obtain ⟨b, ys, z, hb, m⟩ := q.lst_of
      cases z
      rw [ha] at hb
      cases hb
      unfold D.okc at h2
      cases n with
      | zero => simp at h2
      | succ n =>
        simp only at h2
        simp only [D.eqv]
        exact reps_same I ds es xs n h2 l m
    | tup es =>
      obtain ⟨b, ys, z, hb, m⟩ := q.tup_of
      cases z
      obtain ⟨_, _, ⟨ob, o1, o2, _⟩, _⟩ := I.tuple hb
      obtain ⟨_, _, _, _, _, o4⟩ := I.lstM ha
      rw [o1] at o4
      have z4 := Option.some.inj o4
      rw [z4] at o2
      injection o2 with z5
      exact absurd z5 (by decide)
    | dct ks es => simp [D.okc, D.pl] at h2
    | scr ns => simp [D.okc, D.pl] at h2
    | _ => unfold RepD at q; cases q
  | .dct ks ds, e, v, n, h2, r, q => by
    obtain ⟨a, kvs, rfl, ha, hk, l⟩ := r.dct_of
    cases e with
    | dct ls es =>
      obtain ⟨b, kvs', z, hb, hk', m⟩ := q.dct_of
      cases z
      rw [ha] at hb
      cases hb
      rw [hk] at hk'
      subst hk'
      have nd := keys_nodup I ha
      rw [hk] at nd
      unfold D.okc at h2
      cases n with
      | zero => simp at h2
      | succ n =>
        simp only [Bool.and_eq_true] at h2
        simp only [D.eqv, beq_self_eq_true, Bool.true_and]
        refine eqvK_all fun i k d h3 h4 => ?_
        obtain ⟨x, e1, r1⟩ := l.get h4
        have hl := m.length
        have hi : i < es.length := by rw [hl]; exact (List.getElem?_eq_some_iff.mp e1).1
        obtain ⟨x', e2, r2⟩ := m.get (List.getElem?_eq_getElem hi)
        rw [e1] at e2
        cases e2
        refine ⟨_, lookK_nth nd h3 (List.getElem?_eq_getElem hi), ?_⟩
        exact reps_mem I ds d (List.mem_of_getElem? h4) _ _ n (okc_pl n _ _ (plL_mem h2.1 (List.mem_of_getElem? h4)) (plL_mem h2.2 (List.getElem_mem hi))) r1 r2
    | scr ns => simp [D.okc, D.pl] at h2
    | lst es => simp [D.okc, D.pl] at h2
    | tup es => simp [D.okc, D.pl] at h2
    | _ => unfold RepD at q; cases q
  | .scr _, e, v, n, h1, r, q => by simp [D.okc, D.pl] at h1
theorem reps_same (I : Inv X pins σ H s) : ∀ (ds es : List D) (xs : List V) (n : Nat), okcL ds es n = true → RepL X.K H ds xs → RepL X.K H es xs → eqvL ds es = true
  | [], es, xs, n, h1, r, q => by
    rw [repL_nil r] at q
    cases es with
    | nil => rfl
    | cons e es => obtain ⟨_, _, z, _⟩ := repL_cons q; cases z
  | d :: ds, es, xs, n, h1, r, q => by
    obtain ⟨x, xs', rfl, r1, r2⟩ := repL_cons r
    cases es with
    | nil => have := repL_nil q; cases this
    | cons e es =>
      obtain ⟨y, ys', z, q1, q2⟩ := repL_cons q
      cases z
      unfold okcL at h1
      simp only [Bool.and_eq_true] at h1
      simp only [eqvL, Bool.and_eq_true]
      exact ⟨rep_same I d e _ n h1.1 r1 q1, reps_same I ds es _ n h1.2 r2 q2⟩
theorem reps_mem (I : Inv X pins σ H s) : ∀ (ds : List D) (d : D), d ∈ ds → ∀ (e : D) (v : V) (n : Nat), d.okc e n = true → RepD X.K H d v → RepD X.K H e v → d.eqv e = true
  | [], _, h => by cases h
  | c :: ds, d, h => by
    intro e v n h1 r q
    rcases List.mem_cons.mp h with h | h
    · exact rep_same I c e v n (h ▸ h1) (h ▸ r) q |> fun z => h ▸ z
    · exact reps_mem I ds d h e v n h1 r q
end
/-- at the top -/
def RcD (P : Program) (w : World) (A : Around) (s : Shared) (u z : Value) (b : Bool) : Prop := ∀ (E : Value → Shared → Prop) (Q : Value → Shared → Prop), Q (.bool b) s → wpAny (model P w) A (compareOp .Eq u z) Q E s
theorem rcd_of {A : Around} {u z : Value} {b : Bool} (h : SeqAt.RcAt A s u z b) : RcD X.prog X.w A s u z b := fun E Q q => h X.prog X.w E Q q
theorem look_rel {k : Key} : ∀ {kvs : List (Key × V)} {vb : List (Key × Value)} {ls : List Key} {es : List D}, KV kvs vb → kvs.map (·.1) = ls → RepL X.K H es (kvs.map (·.2)) →
    (valueAt vb k = none ∧ lookK k ls es = none) ∨ ∃ y e x, valueAt vb k = some y ∧ lookK k ls es = some e ∧ RepD X.K H e x ∧ RelV x y ∧ e ∈ es
  | [], vb, ls, es, r, hk, l => by
    cases r
    subst hk
    refine .inl ⟨rfl, ?_⟩
    unfold lookK
    rfl
  | p :: kvs, vb, ls, es, r, hk, l => by
    cases r with
    | @cons _ q _ vb h t =>
      subst hk
      cases es with
      | nil => have := repL_nil l; cases this
      | cons e es =>
        obtain ⟨x, r', z, r1, r2⟩ := repL_cons l
        rw [List.map_cons] at z
        cases z
        by_cases hp : p.1 = k
        · refine .inr ⟨q.2, e, p.2, ?_, ?_, r1, h.2, List.mem_cons_self⟩
          · unfold valueAt
            rw [List.find?_cons_of_pos (by rw [← h.1]; simpa using hp)]
            rfl
          · rw [List.map_cons]
            unfold lookK
            rw [if_pos hp]
        · have hq : ¬ q.1 = k := by rw [← h.1]; exact hp
          have e1 : valueAt (q :: vb) k = valueAt vb k := by
            unfold valueAt
            rw [List.find?_cons_of_neg (by simpa using hq)]
          have e2 : lookK k ((p :: kvs).map (·.1)) (e :: es) = lookK k (kvs.map (·.1)) es := by
            rw [List.map_cons]
            conv => lhs; unfold lookK
            rw [if_neg hp]
          rw [e1, e2]
          rcases look_rel (k := k) t rfl r2 with h1 | ⟨y, e', x', a1, a2, a3, a4, a5⟩
          · exact .inl h1
          · exact .inr ⟨y, e', x', a1, a2, a3, a4, List.mem_cons_of_mem _ a5⟩
/-- what is shown of a thing against any other -/
def Rcs (X : Cx) (H : Hp) (s : Shared) (d : D) : Prop := ∀ (e : D) (n : Nat) (A : Around) (v y : V) (u z : Value), d.okc e n = true → A.units + n < cLine → RepD X.K H d v → RepD X.K H e y → RelV v u → RelV y z →
    RcD X.prog X.w A s u z (d.eqv e) ∧ SeqAt.EqIn X.prog X.w A s u z (d.eqv e)
theorem rck_run {ls : List Key} {es : List D} {kvs' : List (Key × V)} {vb : List (Key × Value)} {n : Nat} {A : Around} (hu : A.units + n < cLine) (rb : KV kvs' vb) (hk' : kvs'.map (·.1) = ls) (m : RepL X.K H es (kvs'.map (·.2))) (he : plL es n = true) :
    ∀ {kvs : List (Key × V)} {va : List (Key × Value)} {ks : List Key} {ds : List D}, (∀ d ∈ ds, Rcs X H s d) → plL ds n = true → KV kvs va → kvs.map (·.1) = ks → RepL X.K H ds (kvs.map (·.2)) → PySem.W.KeqHitsIn X.prog X.w A s vb va (eqvK ks ds ls es)
  | [], va, ks, ds, f, hd, ra, hk, l => by
    cases ra
    subst hk
    rw [show eqvK ([].map (fun p : Key × V => p.1)) ds ls es = true by cases ds <;> (unfold eqvK; rfl)]
    exact .nil
  | p :: kvs, va, ks, ds, f, hd, ra, hk, l => by
    cases ra with
    | @cons _ q _ va h t =>
      subst hk
      cases ds with
      | nil => have := repL_nil l; cases this
      | cons d ds =>
        obtain ⟨x, r', z, r1, r2⟩ := repL_cons l
        rw [List.map_cons] at z
        cases z
        simp only [plL, Bool.and_eq_true] at hd
        have ih := rck_run (A := A) hu rb hk' m he (fun d hd => f d (List.mem_cons_of_mem _ hd)) hd.2 t rfl r2
        rw [List.map_cons]
        unfold eqvK
        obtain ⟨key, v⟩ := q
        have h1 : p.1 = key := h.1
        subst h1
        rcases look_rel (k := p.1) rb hk' m with ⟨a1, a2⟩ | ⟨y, e, x', a1, a2, a3, a4, a5⟩
        · rw [a2]
          exact .miss a1
        · rw [a2]
          exact .hit a1 (f d List.mem_cons_self e n A p.2 x' v y (okc_pl n d e hd.1 (plL_mem he a5)) hu r1 a3 h.2 a4).2 ih
/-- item by item -/
theorem rcs_run {ds es : List D} {n : Nat} {A : Around} {xs ys : List V} {us ws : List Value} (f : ∀ d ∈ ds, Rcs X H s d) (hok : okcL ds es n = true) (hu : A.units + n < cLine) (r : RepL X.K H ds xs) (q : RepL X.K H es ys) (rv : Vals xs us) (ry : Vals ys ws)
    (j : Nat) (h1 : j < us.toArray.size) (h2 : j < ws.toArray.size) : SeqAt.EqIn X.prog X.w A s us.toArray[j] ws.toArray[j] (((ds[j]?).bind fun x => (es[j]?).map fun y => x.eqv y).getD false) := by
  have l1 := r.length
  have l2 := q.length
  have l3 := rv.length
  have l4 := ry.length
  have h1' : j < ds.length := by simp at h1; omega
  have h2' : j < es.length := by simp at h2; omega
  rw [List.getElem?_eq_getElem h1', List.getElem?_eq_getElem h2']
  obtain ⟨x, ex, rx⟩ := r.get (List.getElem?_eq_getElem h1')
  obtain ⟨y, ey, qy⟩ := q.get (List.getElem?_eq_getElem h2')
  obtain ⟨u, eu, ru⟩ := rv.get ex
  obtain ⟨z, ez, rz⟩ := ry.get ey
  have hu' : us.toArray[j] = u := by
    have := List.getElem?_eq_some_iff.mp eu
    simpa using this.2
  have hz' : ws.toArray[j] = z := by
    have := List.getElem?_eq_some_iff.mp ez
    simpa using this.2
  rw [hu', hz']
  exact (f _ (List.getElem_mem h1') _ n A x y u z (okcL_get hok h1' h2') hu rx qy ru rz).2
mutual
theorem rc_run (I : Inv X pins σ H s) : ∀ d : D, Rcs X H s d
  | .tup ds => fun e n A v y u z hok hu r q rv ry => by
    obtain ⟨a, xs, rfl, ha, l⟩ := r.tup_of
    cases (show u = Value.ref a from rv)
    unfold D.okc at hok
    obtain ⟨us, r1, ⟨o1, p1, p2, p3, p4⟩, _⟩ := I.tuple ha
    have hA : s.heap.IsTuple a us.toArray := ⟨o1, p1, p2, p3, p4⟩
    cases e with
    | tup es =>
      simp only [Bool.and_eq_true] at hok
      obtain ⟨b, ys, rfl, hb, m⟩ := q.tup_of
      cases (show z = Value.ref b from ry)
      obtain ⟨ws, r2, ⟨o2, q1, q2, q3, q4⟩, _⟩ := I.tuple hb
      have hB : s.heap.IsTuple b ws.toArray := ⟨o2, q1, q2, q3, q4⟩
      have hok0 := hok
      cases n with
      | zero => simp [D.pl] at hok
      | succ n =>
        simp only [D.pl] at hok
        have l1 := l.length
        have l2 := m.length
        have l3 := r1.length
        have l4 := r2.length
        have key : RcD X.prog X.w A s (.ref a) (.ref b) ((D.tup ds).eqv (.tup es)) := fun E Q hq => by
          refine SeqAt.rcIn_tuples hA hB (by omega) (fun j h1 h2 => rcs_run (fun d hd => rcm_run I ds d hd) (okcL_of (okc_pl n) hok.1 hok.2) (A := A.in1) (by show A.units + 1 + n < cLine; omega) l m r1 r2 j h1 h2) ?_
          have e2 : ((List.range (min us.toArray.size ws.toArray.size)).all (fun j => ((ds[j]?).bind fun x => (es[j]?).map fun y => x.eqv y).getD false) && us.toArray.size == ws.toArray.size) = (D.tup ds).eqv (.tup es) := by
            simp only [D.eqv, List.size_toArray]
            by_cases hl : ds.length = es.length
            · rw [eqvL_all hl, show min us.length ws.length = ds.length by omega, show (us.length == ws.length) = true by rw [beq_iff_eq]; omega]
              simp
            · rw [eqvL_len hl, show (us.length == ws.length) = false by rw [beq_eq_false_iff_ne]; omega]
              simp
          rw [e2]
          exact hq
        refine ⟨key, ?_⟩
        by_cases hab : a = b
        · subst hab
          have := rep_same I (.tup ds) (.tup es) (.ref a) (n + 1) (by unfold D.okc; simp [hok0]) r q
          rw [this]
          exact (SeqAt.EqAt.same _).inModel _ _
        · exact SeqAt.EqIn.of_refs hab fun E Q hq => key E Q hq
    | lst es =>
      obtain ⟨b, ys, rfl, hb, m⟩ := q.lst_of
      cases (show z = Value.ref b from ry)
      obtain ⟨_, _, pB, _⟩ := I.list (sl_of (K := X.K) hb)
      exact ⟨rcd_of (SeqAt.RcAt.tuple_list hA pB.isList (by omega)), (SeqAt.EqAt.tuple_list hA pB.isList (by omega)).inModel _ _⟩
    | dct _ _ => simp [D.pl] at hok
    | scr _ => simp [D.pl] at hok
    | _ =>
      simp only [Bool.and_eq_true] at hok
      obtain ⟨_, h1, h2⟩ := sq_rc I (A := A) (by omega) rfl rfl hok.1 q r ry (show RelV (.ref a) (.ref a) from rfl)
      exact ⟨rcd_of h1, h2.inModel _ _⟩
  | .lst ds => fun e n A v y u z hok hu r q rv ry => by
    obtain ⟨a, xs, rfl, ha, l⟩ := r.lst_of
    cases (show u = Value.ref a from rv)
    obtain ⟨us, r1, p1, _⟩ := I.list (sl_of (K := X.K) ha)
    have hA := p1.isList
    have hok0 := hok
    unfold D.okc at hok
    cases e with
    | lst es =>
      obtain ⟨b, ys, rfl, hb, m⟩ := q.lst_of
      cases (show z = Value.ref b from ry)
      obtain ⟨ws, r2, p2, _⟩ := I.list (sl_of (K := X.K) hb)
      have hB := p2.isList
      cases n with
      | zero => simp at hok
      | succ n =>
        simp only at hok
        have l1 := l.length
        have l2 := m.length
        have l3 := r1.length
        have l4 := r2.length
        have key : RcD X.prog X.w A s (.ref a) (.ref b) ((D.lst ds).eqv (.lst es)) := fun E Q hq => by
          by_cases hl : ds.length = es.length
          · refine SeqAt.rcIn_lists hA hB (by simp; omega) (by omega) (fun j h1 h2 => rcs_run (fun d hd => rcm_run I ds d hd) hok (A := A.in1) (by show A.units + 1 + n < cLine; omega) l m r1 r2 j h1 h2) ?_
            have e2 : ((List.range us.toArray.size).all (fun j => ((ds[j]?).bind fun x => (es[j]?).map fun y => x.eqv y).getD false)) = (D.lst ds).eqv (.lst es) := by
              simp only [D.eqv, List.size_toArray]
              rw [eqvL_all hl, show us.length = ds.length by omega]
            rw [e2]
            exact hq
          · refine SeqAt.RcAt.lists_lengths hA hB (by simp; omega) (by omega) X.prog X.w E Q ?_
            rw [show (D.lst ds).eqv (.lst es) = false by simp only [D.eqv]; exact eqvL_len hl] at hq
            exact hq
        refine ⟨key, ?_⟩
        by_cases hab : a = b
        · subst hab
          rw [rep_same I (.lst ds) (.lst es) (.ref a) (n + 1) hok0 r q]
          exact (SeqAt.EqAt.same _).inModel _ _
        · exact SeqAt.EqIn.of_refs hab fun E Q hq => key E Q hq
    | tup es =>
      obtain ⟨b, ys, rfl, hb, m⟩ := q.tup_of
      cases (show z = Value.ref b from ry)
      obtain ⟨_, _, ⟨o2, q1, q2, q3, q4⟩, _⟩ := I.tuple hb
      have hB : s.heap.IsTuple b _ := ⟨o2, q1, q2, q3, q4⟩
      exact ⟨rcd_of (SeqAt.RcAt.list_tuple hA hB (by omega)), (SeqAt.EqAt.list_tuple hA hB (by omega)).inModel _ _⟩
    | dct _ _ => simp [D.pl] at hok
    | scr _ => simp [D.pl] at hok
    | _ =>
      simp only [Bool.and_eq_true] at hok
      obtain ⟨_, h1, h2⟩ := sq_rc I (A := A) (by omega) rfl rfl hok.1 q r ry (show RelV (.ref a) (.ref a) from rfl)
      exact ⟨rcd_of h1, h2.inModel _ _⟩
  | .dct ks ds => fun e n A v y u z hok hu r q rv ry => by
    obtain ⟨a, kvs, rfl, ha, hk, l⟩ := r.dct_of
    cases (show u = Value.ref a from rv)
    have hok0 := hok
    unfold D.okc at hok
    cases e with
    | dct ls es =>
      obtain ⟨b, kvs', rfl, hb, hk', m⟩ := q.dct_of
      cases (show z = Value.ref b from ry)
      cases n with
      | zero => simp at hok
      | succ n =>
        simp only [Bool.and_eq_true] at hok
        obtain ⟨_, ya, va, ra, da⟩ := (show ObjOk X.prog X.w H s.heap a (.dK kvs) from I.hok a _ ha)
        obtain ⟨_, yb, vb, rb, db⟩ := (show ObjOk X.prog X.w H s.heap b (.dK kvs') from I.hok b _ hb)
        have key : RcD X.prog X.w A s (.ref a) (.ref b) ((D.dct ks ds).eqv (.dct ls es)) := fun E Q hq => by
          refine PySem.W.keq_eqIn (knd := mixKind X.prog X.w) ya yb da db (by omega) (fun _ => rck_run (A := A.in1) (by show A.units + 1 + n < cLine; omega) rb hk' m hok.2 (fun d hd => rcm_run I ds d hd) hok.1 ra hk l) ?_
          have e1 : (va.length == vb.length) = (ks.length == ls.length) := by
            have h1 := ra.length
            have h2 := rb.length
            have h3 : kvs.length = ks.length := by rw [← hk]; simp
            have h4 : kvs'.length = ls.length := by rw [← hk']; simp
            rw [← h1, ← h2, h3, h4]
          rw [e1]
          simp only [D.eqv] at hq
          exact hq
        refine ⟨key, ?_⟩
        by_cases hab : a = b
        · subst hab
          rw [rep_same I (.dct ks ds) (.dct ls es) (.ref a) (n + 1) hok0 r q]
          exact (SeqAt.EqAt.same _).inModel _ _
        · exact SeqAt.EqIn.of_refs hab fun E Q hq => key E Q hq
    | _ => simp [D.pl] at hok
  | .scr ns => fun e n A v y u z hok hu r q rv ry => by
    unfold D.okc at hok
    simp [D.pl] at hok
  | .non => fun e n A v y u z hok hu r q rv ry => by
    unfold D.okc at hok
    simp only [Bool.and_eq_true] at hok
    cases he : isSeq e with
    | true => obtain ⟨⟨h1, h2⟩, _⟩ := sq_rc I (A := A) (by omega) (d := .non) rfl he hok.2 r q rv ry; exact ⟨rcd_of h1, h2.inModel _ _⟩
    | false => obtain ⟨h1, h2⟩ := sc_rc (A := A) (s := s) (X := X) (d := .non) rfl he r q rv ry; exact ⟨rcd_of h1, h2.inModel _ _⟩
  | .bl b => fun e n A v y u z hok hu r q rv ry => by
    unfold D.okc at hok
    simp only [Bool.and_eq_true] at hok
    cases he : isSeq e with
    | true => obtain ⟨⟨h1, h2⟩, _⟩ := sq_rc I (A := A) (by omega) (d := .bl b) rfl he hok.2 r q rv ry; exact ⟨rcd_of h1, h2.inModel _ _⟩
    | false => obtain ⟨h1, h2⟩ := sc_rc (A := A) (s := s) (X := X) (d := .bl b) rfl he r q rv ry; exact ⟨rcd_of h1, h2.inModel _ _⟩
  | .int i => fun e n A v y u z hok hu r q rv ry => by
    unfold D.okc at hok
    simp only [Bool.and_eq_true] at hok
    cases he : isSeq e with
    | true => obtain ⟨⟨h1, h2⟩, _⟩ := sq_rc I (A := A) (by omega) (d := .int i) rfl he hok.2 r q rv ry; exact ⟨rcd_of h1, h2.inModel _ _⟩
    | false => obtain ⟨h1, h2⟩ := sc_rc (A := A) (s := s) (X := X) (d := .int i) rfl he r q rv ry; exact ⟨rcd_of h1, h2.inModel _ _⟩
  | .str x => fun e n A v y u z hok hu r q rv ry => by
    unfold D.okc at hok
    simp only [Bool.and_eq_true] at hok
    cases he : isSeq e with
    | true => obtain ⟨⟨h1, h2⟩, _⟩ := sq_rc I (A := A) (by omega) (d := .str x) rfl he hok.2 r q rv ry; exact ⟨rcd_of h1, h2.inModel _ _⟩
    | false => obtain ⟨h1, h2⟩ := sc_rc (A := A) (s := s) (X := X) (d := .str x) rfl he r q rv ry; exact ⟨rcd_of h1, h2.inModel _ _⟩
theorem rcm_run (I : Inv X pins σ H s) : ∀ (ds : List D) (d : D), d ∈ ds → Rcs X H s d
  | [], _, h => by cases h
  | c :: ds, d, h => by
    rcases List.mem_cons.mp h with h | h
    · rw [h]
      exact rc_run I c
    · exact rcm_run I ds d h
end
end
end Lo
set_option maxHeartbeats 200000
/-! Core D: != of plain data. -/
namespace Lo
open PySem PySem.Spec PyProof.Rows L2
section
variable {X : Cx} {pins : List (Addr × Obj)} {σ : L2.St} {H : Hp} {s : Shared}
def RcsP (X : Cx) (H : Hp) (s : Shared) (d : D) : Prop := ∀ (e : D) (n : Nat) (A : Around) (v y : V) (u z : Value), d.pl n = true → e.pl n = true → A.units + n < cLine → RepD X.K H d v → RepD X.K H e y → RelV v u → RelV y z →
    SeqAt.EqAt A s u z (d.eqv e) ∧ SeqAt.RcNeAt A s u z (!d.eqv e)
theorem rcsP_run {ds es : List D} {n : Nat} {A : Around} {xs ys : List V} {us ws : List Value} (f : ∀ d ∈ ds, RcsP X H s d) (hd : plL ds n = true) (he : plL es n = true) (hu : A.units + n < cLine) (r : RepL X.K H ds xs) (q : RepL X.K H es ys) (rv : Vals xs us) (ry : Vals ys ws)
    (j : Nat) (h1 : j < us.toArray.size) (h2 : j < ws.toArray.size) : SeqAt.EqAt A s us.toArray[j] ws.toArray[j] (((ds[j]?).bind fun x => (es[j]?).map fun y => x.eqv y).getD false) := by
  have l1 := r.length
  have l2 := q.length
  have l3 := rv.length
  have l4 := ry.length
  have h1' : j < ds.length := by simp at h1; omega
  have h2' : j < es.length := by simp at h2; omega
  rw [List.getElem?_eq_getElem h1', List.getElem?_eq_getElem h2']
  obtain ⟨x, ex, rx⟩ := r.get (List.getElem?_eq_getElem h1')
  obtain ⟨y, ey, qy⟩ := q.get (List.getElem?_eq_getElem h2')
  obtain ⟨u, eu, ru⟩ := rv.get ex
  obtain ⟨z, ez, rz⟩ := ry.get ey
  have hu' : us.toArray[j] = u := by
    have := List.getElem?_eq_some_iff.mp eu
    simpa using this.2
  have hz' : ws.toArray[j] = z := by
    have := List.getElem?_eq_some_iff.mp ez
    simpa using this.2
  rw [hu', hz']
  exact (f _ (List.getElem_mem h1') _ n A x y u z (plL_mem hd (List.getElem_mem h1')) (plL_mem he (List.getElem_mem h2')) hu rx qy ru rz).1
/-- two leaves -/
theorem sc_ne {A : Around} : ∀ {d e : D} {v y : V} {u z : Value}, isSeq d = false → isSeq e = false → RepD X.K H d v → RepD X.K H e y → RelV v u → RelV y z → SeqAt.RcNeAt A s u z (!d.eqv e)
  | .non, .non, v, y, u, z, _, _, r, q, rv, ry => by
    unfold RepD at r q
    subst r q
    cases (show u = Value.none from rv)
    cases (show z = Value.none from ry)
    exact SeqAt.RcNeAt.none_none 
  | .non, .bl b2, v, y, u, z, _, _, r, q, rv, ry => by
    unfold RepD at r q
    subst r q
    cases (show u = Value.none from rv)
    cases (show z = Value.bool b2 from ry)
    exact SeqAt.RcNeAt.none_bool b2
  | .non, .int i2, v, y, u, z, _, _, r, q, rv, ry => by
    unfold RepD at r q
    subst r q
    cases (show u = Value.none from rv)
    obtain ⟨t2, rfl⟩ := ry
    exact SeqAt.RcNeAt.none_int i2 t2
  | .non, .str x2, v, y, u, z, _, _, r, q, rv, ry => by
    unfold RepD at r q
    subst r q
    cases (show u = Value.none from rv)
    obtain ⟨t2, rfl⟩ := ry
    exact SeqAt.RcNeAt.none_str x2 t2
  | .bl b1, .non, v, y, u, z, _, _, r, q, rv, ry => by
    unfold RepD at r q
    subst r q
    cases (show u = Value.bool b1 from rv)
    cases (show z = Value.none from ry)
    exact SeqAt.RcNeAt.bool_none b1
  | .bl b1, .bl b2, v, y, u, z, _, _, r, q, rv, ry => by
    unfold RepD at r q
    subst r q
    cases (show u = Value.bool b1 from rv)
    cases (show z = Value.bool b2 from ry)
    exact SeqAt.RcNeAt.bool_bool b1 b2
  | .bl b1, .int i2, v, y, u, z, _, _, r, q, rv, ry => by
    unfold RepD at r q
    subst r q
    cases (show u = Value.bool b1 from rv)
    obtain ⟨t2, rfl⟩ := ry
    exact SeqAt.RcNeAt.bool_int b1 i2 t2
  | .bl b1, .str x2, v, y, u, z, _, _, r, q, rv, ry => by
    unfold RepD at r q
    subst r q
    cases (show u = Value.bool b1 from rv)
    obtain ⟨t2, rfl⟩ := ry
    exact SeqAt.RcNeAt.bool_str b1 x2 t2
  | .int i1, .non, v, y, u, z, _, _, r, q, rv, ry => by
    unfold RepD at r q
    subst r q
    obtain ⟨t1, rfl⟩ := rv
    cases (show z = Value.none from ry)
    exact SeqAt.RcNeAt.int_none i1 t1
  | .int i1, .bl b2, v, y, u, z, _, _, r, q, rv, ry => by
    unfold RepD at r q
    subst r q
    obtain ⟨t1, rfl⟩ := rv
    cases (show z = Value.bool b2 from ry)
    exact SeqAt.RcNeAt.int_bool i1 t1 b2
  | .int i1, .int i2, v, y, u, z, _, _, r, q, rv, ry => by
    unfold RepD at r q
    subst r q
    obtain ⟨t1, rfl⟩ := rv
    obtain ⟨t2, rfl⟩ := ry
    exact SeqAt.RcNeAt.int_int i1 t1 i2 t2
  | .int i1, .str x2, v, y, u, z, _, _, r, q, rv, ry => by
    unfold RepD at r q
    subst r q
    obtain ⟨t1, rfl⟩ := rv
    obtain ⟨t2, rfl⟩ := ry
    exact SeqAt.RcNeAt.int_str i1 t1 x2 t2
  | .str x1, .non, v, y, u, z, _, _, r, q, rv, ry => by
    unfold RepD at r q
    subst r q
    obtain ⟨t1, rfl⟩ := rv
    cases (show z = Value.none from ry)
    exact SeqAt.RcNeAt.str_none x1 t1
  | .str x1, .bl b2, v, y, u, z, _, _, r, q, rv, ry => by
    unfold RepD at r q
    subst r q
    obtain ⟨t1, rfl⟩ := rv
    cases (show z = Value.bool b2 from ry)
    exact SeqAt.RcNeAt.str_bool x1 t1 b2
  | .str x1, .int i2, v, y, u, z, _, _, r, q, rv, ry => by
    unfold RepD at r q
    subst r q
    obtain ⟨t1, rfl⟩ := rv
    obtain ⟨t2, rfl⟩ := ry
    exact SeqAt.RcNeAt.str_int x1 t1 i2 t2
  | .str x1, .str x2, v, y, u, z, _, _, r, q, rv, ry => by
    unfold RepD at r q
    subst r q
    obtain ⟨t1, rfl⟩ := rv
    obtain ⟨t2, rfl⟩ := ry
    exact SeqAt.RcNeAt.str_str x1 t1 x2 t2
  | .tup _, _, _, _, _, _, h, _, _, _, _, _ => by cases h
  | .lst _, _, _, _, _, _, h, _, _, _, _, _ => by cases h
  | .dct _ _, _, _, _, _, _, h, _, _, _, _, _ => by cases h
  | .scr _, _, _, _, _, _, h, _, _, _, _, _ => by cases h
  | .non, .tup _, _, _, _, _, _, h, _, _, _, _ => by cases h
  | .non, .lst _, _, _, _, _, _, h, _, _, _, _ => by cases h
  | .non, .dct _ _, _, _, _, _, _, h, _, _, _, _ => by cases h
  | .non, .scr _, _, _, _, _, _, h, _, _, _, _ => by cases h
  | .bl _, .tup _, _, _, _, _, _, h, _, _, _, _ => by cases h
  | .bl _, .lst _, _, _, _, _, _, h, _, _, _, _ => by cases h
  | .bl _, .dct _ _, _, _, _, _, _, h, _, _, _, _ => by cases h
  | .bl _, .scr _, _, _, _, _, _, h, _, _, _, _ => by cases h
  | .int _, .tup _, _, _, _, _, _, h, _, _, _, _ => by cases h
  | .int _, .lst _, _, _, _, _, _, h, _, _, _, _ => by cases h
  | .int _, .dct _ _, _, _, _, _, _, h, _, _, _, _ => by cases h
  | .int _, .scr _, _, _, _, _, _, h, _, _, _, _ => by cases h
  | .str _, .tup _, _, _, _, _, _, h, _, _, _, _ => by cases h
  | .str _, .lst _, _, _, _, _, _, h, _, _, _, _ => by cases h
  | .str _, .dct _ _, _, _, _, _, _, h, _, _, _, _ => by cases h
  | .str _, .scr _, _, _, _, _, _, h, _, _, _, _ => by cases h
/-- a leaf and a list or a tuple -/
theorem sq_ne (I : Inv X pins σ H s) {A : Around} (hu : A.units < cLine) : ∀ {d e : D} {v y : V} {u z : Value} {n : Nat}, isSeq d = false → isSeq e = true → e.pl n = true → RepD X.K H d v → RepD X.K H e y → RelV v u → RelV y z →
    SeqAt.RcNeAt A s u z (!d.eqv e) ∧ SeqAt.RcNeAt A s z u (!e.eqv d)
  | .non, .tup es, v, y, u, z, n, _, _, _, r, q, rv, ry => by
    obtain ⟨a, xs, rfl, ha, _⟩ := q.tup_of
    unfold RepD at r
    subst r
    cases (show z = Value.ref a from ry)
    cases (show u = Value.none from rv)
    obtain ⟨_, _, ⟨o, o1, o2, o3, o4⟩, _⟩ := I.tuple ha
    have hl : s.heap.IsTuple a _ := ⟨o, o1, o2, o3, o4⟩
    exact ⟨SeqAt.RcNeAt.none_tuple  hl hu, SeqAt.RcNeAt.tuple_none  hl hu⟩
  | .non, .lst es, v, y, u, z, n, _, _, _, r, q, rv, ry => by
    obtain ⟨a, xs, rfl, ha, _⟩ := q.lst_of
    unfold RepD at r
    subst r
    cases (show z = Value.ref a from ry)
    cases (show u = Value.none from rv)
    obtain ⟨_, _, p, _⟩ := I.list (sl_of (K := X.K) ha)
    have hl := p.isList
    exact ⟨SeqAt.RcNeAt.none_list  hl hu, SeqAt.RcNeAt.list_none  hl hu⟩
  | .non, .dct _ _, _, _, _, _, n, _, _, h, _, _, _, _ => by simp [D.pl] at h
  | .non, .scr _, _, _, _, _, n, _, _, h, _, _, _, _ => by simp [D.pl] at h
  | .non, .non, _, _, _, _, n, _, h, _, _, _, _, _ => by cases h
  | .non, .bl _, _, _, _, _, n, _, h, _, _, _, _, _ => by cases h
  | .non, .int _, _, _, _, _, n, _, h, _, _, _, _, _ => by cases h
  | .non, .str _, _, _, _, _, n, _, h, _, _, _, _, _ => by cases h
  | .bl b1, .tup es, v, y, u, z, n, _, _, _, r, q, rv, ry => by
    obtain ⟨a, xs, rfl, ha, _⟩ := q.tup_of
    unfold RepD at r
    subst r
    cases (show z = Value.ref a from ry)
    cases (show u = Value.bool b1 from rv)
    obtain ⟨_, _, ⟨o, o1, o2, o3, o4⟩, _⟩ := I.tuple ha
    have hl : s.heap.IsTuple a _ := ⟨o, o1, o2, o3, o4⟩
    exact ⟨SeqAt.RcNeAt.bool_tuple b1 hl hu, SeqAt.RcNeAt.tuple_bool b1 hl hu⟩
  | .bl b1, .lst es, v, y, u, z, n, _, _, _, r, q, rv, ry => by
    obtain ⟨a, xs, rfl, ha, _⟩ := q.lst_of
    unfold RepD at r
    subst r
    cases (show z = Value.ref a from ry)
    cases (show u = Value.bool b1 from rv)
    obtain ⟨_, _, p, _⟩ := I.list (sl_of (K := X.K) ha)
    have hl := p.isList
    exact ⟨SeqAt.RcNeAt.bool_list b1 hl hu, SeqAt.RcNeAt.list_bool b1 hl hu⟩
  | .bl _, .dct _ _, _, _, _, _, n, _, _, h, _, _, _, _ => by simp [D.pl] at h
  | .bl _, .scr _, _, _, _, _, n, _, _, h, _, _, _, _ => by simp [D.pl] at h
  | .bl _, .non, _, _, _, _, n, _, h, _, _, _, _, _ => by cases h
  | .bl _, .bl _, _, _, _, _, n, _, h, _, _, _, _, _ => by cases h
  | .bl _, .int _, _, _, _, _, n, _, h, _, _, _, _, _ => by cases h
  | .bl _, .str _, _, _, _, _, n, _, h, _, _, _, _, _ => by cases h
  | .int i1, .tup es, v, y, u, z, n, _, _, _, r, q, rv, ry => by
    obtain ⟨a, xs, rfl, ha, _⟩ := q.tup_of
    unfold RepD at r
    subst r
    cases (show z = Value.ref a from ry)
    obtain ⟨t1, rfl⟩ := rv
    obtain ⟨_, _, ⟨o, o1, o2, o3, o4⟩, _⟩ := I.tuple ha
    have hl : s.heap.IsTuple a _ := ⟨o, o1, o2, o3, o4⟩
    exact ⟨SeqAt.RcNeAt.int_tuple i1 t1 hl hu, SeqAt.RcNeAt.tuple_int i1 t1 hl hu⟩
  | .int i1, .lst es, v, y, u, z, n, _, _, _, r, q, rv, ry => by
    obtain ⟨a, xs, rfl, ha, _⟩ := q.lst_of
    unfold RepD at r
    subst r
    cases (show z = Value.ref a from ry)
    obtain ⟨t1, rfl⟩ := rv
    obtain ⟨_, _, p, _⟩ := I.list (sl_of (K := X.K) ha)
    have hl := p.isList
    exact ⟨SeqAt.RcNeAt.int_list i1 t1 hl hu, SeqAt.RcNeAt.list_int i1 t1 hl hu⟩
  | .int _, .dct _ _, _, _, _, _, n, _, _, h, _, _, _, _ => by simp [D.pl] at h
  | .int _, .scr _, _, _, _, _, n, _, _, h, _, _, _, _ => by simp [D.pl] at h
  | .int _, .non, _, _, _, _, n, _, h, _, _, _, _, _ => by cases h
  | .int _, .bl _, _, _, _, _, n, _, h, _, _, _, _, _ => by cases h
  | .int _, .int _, _, _, _, _, n, _, h, _, _, _, _, _ => by cases h
  | .int _, .str _, _, _, _, _, n, _, h, _, _, _, _, _ => by cases h
  | .str x1, .tup es, v, y, u, z, n, _, _, _, r, q, rv, ry => by
    obtain ⟨a, xs, rfl, ha, _⟩ := q.tup_of
    unfold RepD at r
    subst r
    cases (show z = Value.ref a from ry)
    obtain ⟨t1, rfl⟩ := rv
    obtain ⟨_, _, ⟨o, o1, o2, o3, o4⟩, _⟩ := I.tuple ha
    have hl : s.heap.IsTuple a _ := ⟨o, o1, o2, o3, o4⟩
    exact ⟨SeqAt.RcNeAt.str_tuple x1 t1 hl hu, SeqAt.RcNeAt.tuple_str x1 t1 hl hu⟩
  | .str x1, .lst es, v, y, u, z, n, _, _, _, r, q, rv, ry => by
    obtain ⟨a, xs, rfl, ha, _⟩ := q.lst_of
    unfold RepD at r
    subst r
    cases (show z = Value.ref a from ry)
    obtain ⟨t1, rfl⟩ := rv
    obtain ⟨_, _, p, _⟩ := I.list (sl_of (K := X.K) ha)
    have hl := p.isList
    exact ⟨SeqAt.RcNeAt.str_list x1 t1 hl hu, SeqAt.RcNeAt.list_str x1 t1 hl hu⟩
  | .str _, .dct _ _, _, _, _, _, n, _, _, h, _, _, _, _ => by simp [D.pl] at h
  | .str _, .scr _, _, _, _, _, n, _, _, h, _, _, _, _ => by simp [D.pl] at h
  | .str _, .non, _, _, _, _, n, _, h, _, _, _, _, _ => by cases h
  | .str _, .bl _, _, _, _, _, n, _, h, _, _, _, _, _ => by cases h
  | .str _, .int _, _, _, _, _, n, _, h, _, _, _, _, _ => by cases h
  | .str _, .str _, _, _, _, _, n, _, h, _, _, _, _, _ => by cases h
  | .tup _, _, _, _, _, _, n, h, _, _, _, _, _, _ => by cases h
  | .lst _, _, _, _, _, _, n, h, _, _, _, _, _, _ => by cases h
  | .dct _ _, _, _, _, _, _, n, h, _, _, _, _, _, _ => by cases h
  | .scr _, _, _, _, _, _, n, h, _, _, _, _, _, _ => by cases h
mutual
theorem at_run (I : Inv X pins σ H s) : ∀ d : D, RcsP X H s d
  | .tup ds => fun e n A v y u z hd he hu r q rv ry => by
    have hok0 := okc_pl n _ _ hd he
    obtain ⟨a, xs, rfl, ha, l⟩ := r.tup_of
    cases (show u = Value.ref a from rv)
    obtain ⟨us, r1, ⟨o1, p1, p2, p3, p4⟩, _⟩ := I.tuple ha
    have hA : s.heap.IsTuple a us.toArray := ⟨o1, p1, p2, p3, p4⟩
    cases e with
    | tup es =>
      obtain ⟨b, ys, rfl, hb, m⟩ := q.tup_of
      cases (show z = Value.ref b from ry)
      obtain ⟨ws, r2, ⟨o2, q1, q2, q3, q4⟩, _⟩ := I.tuple hb
      have hB : s.heap.IsTuple b ws.toArray := ⟨o2, q1, q2, q3, q4⟩
      cases n with
      | zero => simp [D.pl] at hd
      | succ n =>
        simp only [D.pl] at hd he
        have l1 := l.length
        have l2 := m.length
        have l3 := r1.length
        have l4 := r2.length
        have e2 : ((List.range (min us.toArray.size ws.toArray.size)).all (fun j => ((ds[j]?).bind fun x => (es[j]?).map fun y => x.eqv y).getD false) && us.toArray.size == ws.toArray.size) = (D.tup ds).eqv (.tup es) := by
          simp only [D.eqv, List.size_toArray]
          by_cases hl : ds.length = es.length
          · rw [eqvL_all hl, show min us.length ws.length = ds.length by omega, show (us.length == ws.length) = true by rw [beq_iff_eq]; omega]
            simp
          · rw [eqvL_len hl, show (us.length == ws.length) = false by rw [beq_eq_false_iff_ne]; omega]
            simp
        have its := fun j h1 h2 => rcsP_run (fun d hd => atm_run I ds d hd) hd he (A := A.in1) (by show A.units + 1 + n < cLine; omega) l m r1 r2 j h1 h2
        refine ⟨?_, ?_⟩
        · by_cases hab : a = b
          · subst hab
            rw [rep_same I (.tup ds) (.tup es) (.ref a) (n + 1) hok0 r q]
            exact SeqAt.EqAt.same _
          · rw [← e2]
            exact SeqAt.EqAt.of_refs hab (SeqAt.RcAt.tuples hA hB (by omega) its)
        · rw [← e2]
          exact SeqAt.RcNeAt.tuples hA hB (by omega) its
    | lst es =>
      obtain ⟨b, ys, rfl, hb, m⟩ := q.lst_of
      cases (show z = Value.ref b from ry)
      obtain ⟨_, _, pB, _⟩ := I.list (sl_of (K := X.K) hb)
      exact ⟨SeqAt.EqAt.tuple_list hA pB.isList (by omega), SeqAt.RcNeAt.tuple_list hA pB.isList (by omega)⟩
    | dct _ _ => simp [D.pl] at he
    | scr _ => simp [D.pl] at he
    | _ =>
      obtain ⟨_, _, h2⟩ := sq_rc I (A := A) (by omega) rfl rfl hd q r ry (show RelV (.ref a) (.ref a) from rfl)
      exact ⟨h2, (sq_ne I (A := A) (by omega) rfl rfl hd q r ry (show RelV (.ref a) (.ref a) from rfl)).2⟩
  | .lst ds => fun e n A v y u z hd he hu r q rv ry => by
    have hok0 := okc_pl n _ _ hd he
    obtain ⟨a, xs, rfl, ha, l⟩ := r.lst_of
    cases (show u = Value.ref a from rv)
    obtain ⟨us, r1, p1, _⟩ := I.list (sl_of (K := X.K) ha)
    have hA := p1.isList
    cases e with
    | lst es =>
      obtain ⟨b, ys, rfl, hb, m⟩ := q.lst_of
      cases (show z = Value.ref b from ry)
      obtain ⟨ws, r2, p2, _⟩ := I.list (sl_of (K := X.K) hb)
      have hB := p2.isList
      cases n with
      | zero => simp [D.pl] at hd
      | succ n =>
        simp only [D.pl] at hd he
        have l1 := l.length
        have l2 := m.length
        have l3 := r1.length
        have l4 := r2.length
        have its := fun j h1 h2 => rcsP_run (fun d hd => atm_run I ds d hd) hd he (A := A.in1) (by show A.units + 1 + n < cLine; omega) l m r1 r2 j h1 h2
        by_cases hl : ds.length = es.length
        · have e2 : ((List.range us.toArray.size).all (fun j => ((ds[j]?).bind fun x => (es[j]?).map fun y => x.eqv y).getD false)) = (D.lst ds).eqv (.lst es) := by
            simp only [D.eqv, List.size_toArray]
            rw [eqvL_all hl, show us.length = ds.length by omega]
          refine ⟨?_, ?_⟩
          · by_cases hab : a = b
            · subst hab
              rw [rep_same I (.lst ds) (.lst es) (.ref a) (n + 1) hok0 r q]
              exact SeqAt.EqAt.same _
            · rw [← e2]
              exact SeqAt.EqAt.of_refs hab (SeqAt.RcAt.lists hA hB (by simp; omega) (by omega) its)
          · rw [← e2]
            exact SeqAt.RcNeAt.lists hA hB (by simp; omega) (by omega) its
        · have e3 : (D.lst ds).eqv (.lst es) = false := by simp only [D.eqv]; exact eqvL_len hl
          have hab : a ≠ b := fun z => by
            subst z
            rw [ha] at hb
            cases hb
            omega
          rw [e3]
          exact ⟨SeqAt.EqAt.of_refs hab (SeqAt.RcAt.lists_lengths hA hB (by simp; omega) (by omega)), SeqAt.RcNeAt.lists_lengths hA hB (by simp; omega) (by omega)⟩
    | tup es =>
      obtain ⟨b, ys, rfl, hb, m⟩ := q.tup_of
      cases (show z = Value.ref b from ry)
      obtain ⟨_, _, ⟨o2, q1, q2, q3, q4⟩, _⟩ := I.tuple hb
      have hB : s.heap.IsTuple b _ := ⟨o2, q1, q2, q3, q4⟩
      exact ⟨SeqAt.EqAt.list_tuple hA hB (by omega), SeqAt.RcNeAt.list_tuple hA hB (by omega)⟩
    | dct _ _ => simp [D.pl] at he
    | scr _ => simp [D.pl] at he
    | _ =>
      obtain ⟨_, _, h2⟩ := sq_rc I (A := A) (by omega) rfl rfl hd q r ry (show RelV (.ref a) (.ref a) from rfl)
      exact ⟨h2, (sq_ne I (A := A) (by omega) rfl rfl hd q r ry (show RelV (.ref a) (.ref a) from rfl)).2⟩
  | .dct ks ds => fun e n A v y u z hd he hu r q rv ry => by simp [D.pl] at hd
  | .scr ns => fun e n A v y u z hd he hu r q rv ry => by simp [D.pl] at hd
  | .non => fun e n A v y u z hd hok hu r q rv ry => by
    cases he : isSeq e with
    | true =>
      obtain ⟨⟨_, h2⟩, _⟩ := sq_rc I (A := A) (by omega) (d := .non) rfl he hok r q rv ry
      exact ⟨h2, (sq_ne I (A := A) (by omega) (d := .non) rfl he hok r q rv ry).1⟩
    | false =>
      obtain ⟨_, h2⟩ := sc_rc (A := A) (s := s) (X := X) (d := .non) rfl he r q rv ry
      exact ⟨h2, sc_ne (A := A) (s := s) (X := X) (d := .non) rfl he r q rv ry⟩
  | .bl b => fun e n A v y u z hd hok hu r q rv ry => by
    cases he : isSeq e with
    | true =>
      obtain ⟨⟨_, h2⟩, _⟩ := sq_rc I (A := A) (by omega) (d := .bl b) rfl he hok r q rv ry
      exact ⟨h2, (sq_ne I (A := A) (by omega) (d := .bl b) rfl he hok r q rv ry).1⟩
    | false =>
      obtain ⟨_, h2⟩ := sc_rc (A := A) (s := s) (X := X) (d := .bl b) rfl he r q rv ry
      exact ⟨h2, sc_ne (A := A) (s := s) (X := X) (d := .bl b) rfl he r q rv ry⟩
  | .int i => fun e n A v y u z hd hok hu r q rv ry => by
    cases he : isSeq e with
    | true =>
      obtain ⟨⟨_, h2⟩, _⟩ := sq_rc I (A := A) (by omega) (d := .int i) rfl he hok r q rv ry
      exact ⟨h2, (sq_ne I (A := A) (by omega) (d := .int i) rfl he hok r q rv ry).1⟩
    | false =>
      obtain ⟨_, h2⟩ := sc_rc (A := A) (s := s) (X := X) (d := .int i) rfl he r q rv ry
      exact ⟨h2, sc_ne (A := A) (s := s) (X := X) (d := .int i) rfl he r q rv ry⟩
  | .str x => fun e n A v y u z hd hok hu r q rv ry => by
    cases he : isSeq e with
    | true =>
      obtain ⟨⟨_, h2⟩, _⟩ := sq_rc I (A := A) (by omega) (d := .str x) rfl he hok r q rv ry
      exact ⟨h2, (sq_ne I (A := A) (by omega) (d := .str x) rfl he hok r q rv ry).1⟩
    | false =>
      obtain ⟨_, h2⟩ := sc_rc (A := A) (s := s) (X := X) (d := .str x) rfl he r q rv ry
      exact ⟨h2, sc_ne (A := A) (s := s) (X := X) (d := .str x) rfl he r q rv ry⟩
theorem atm_run (I : Inv X pins σ H s) : ∀ (ds : List D) (d : D), d ∈ ds → RcsP X H s d
  | [], _, h => by cases h
  | c :: ds, d, h => by
    rcases List.mem_cons.mp h with h | h
    · rw [h]
      exact at_run I c
    · exact atm_run I ds d h
end
/-- d == e, d != e, d in es -/
def rEqX (K : PySem.W.Frag) : R2 := fun x y H Q => ∃ d e, RepD K H d x ∧ RepD K H e y ∧ d.okc e 50 = true ∧ Q (.bl (d.eqv e)) H
def rNeX (K : PySem.W.Frag) : R2 := fun x y H Q => ∃ d e, RepD K H d x ∧ RepD K H e y ∧ d.pl 50 = true ∧ e.pl 50 = true ∧ Q (.bl (!d.eqv e)) H
theorem op_eqX (hu : X.A.units + 64 < cLine) : OpR X (compareOp .Eq) (rEqX X.K) := by
  intro pins s σ H x y v u Q I rx ry ⟨d, e, r, q, hok, hq⟩
  exact (rc_run I d e 50 X.A x y v u hok (by omega) r q rx ry).1 _ _ ⟨.bl _, H, I, rfl, hq⟩
theorem op_neX (hu : X.A.units + 64 < cLine) : OpR X (compareOp .NotEq) (rNeX X.K) := by
  intro pins s σ H x y v u Q I rx ry ⟨d, e, r, q, h1, h2, hq⟩
  exact (at_run I d e 50 X.A x y v u h1 h2 (by omega) r q rx ry).2 _ _ _ _ ⟨.bl _, H, I, rfl, hq⟩
/-- x in xs, a list or a tuple of plain data -/
def rInX (K : PySem.W.Frag) (neg : Bool) : R2 := fun x y H Q => ∃ d es, RepD K H d x ∧ (RepD K H (.lst es) y ∨ RepD K H (.tup es) y) ∧ d.pl 50 = true ∧ plL es 50 = true ∧ Q (.bl (if neg then !(es.any fun z => z.eqv d) else es.any fun z => z.eqv d)) H
mutual
theorem rep_inj (I : Inv X pins σ H s) : ∀ (d e : D) (v : V) (n : Nat), d.pl n = true → e.pl n = true → RepD X.K H d v → RepD X.K H e v → d = e
  | .non, e, v, n, h1, h2, r, q => by
    unfold RepD at r
    subst r
    cases e <;> first | rfl | (simp [D.pl] at h2; done) | (unfold RepD at q; cases q; done) | (unfold RepD at q; obtain ⟨_, _, z, _⟩ := q; cases z)
  | .bl b, e, v, n, h1, h2, r, q => by
    unfold RepD at r
    subst r
    cases e <;> first | (simp [D.pl] at h2; done) | (unfold RepD at q; cases q; done) | (unfold RepD at q; obtain ⟨_, _, z, _⟩ := q; cases z) | (unfold RepD at q; cases q; rfl)
  | .int i, e, v, n, h1, h2, r, q => by
    unfold RepD at r
    subst r
    cases e <;> first | (simp [D.pl] at h2; done) | (unfold RepD at q; cases q; done) | (unfold RepD at q; obtain ⟨_, _, z, _⟩ := q; cases z) | (unfold RepD at q; cases q; rfl)
  | .str x, e, v, n, h1, h2, r, q => by
    unfold RepD at r
    subst r
    cases e <;> first | (simp [D.pl] at h2; done) | (unfold RepD at q; cases q; done) | (unfold RepD at q; obtain ⟨_, _, z, _⟩ := q; cases z) | (unfold RepD at q; cases q; rfl)
  | .tup ds, e, v, n, h1, h2, r, q => by
    obtain ⟨a, xs, rfl, ha, l⟩ := r.tup_of
    cases e with
    | tup es =>
      obtain ⟨b, ys, z, hb, m⟩ := q.tup_of
      cases z
      rw [I.tuple_inj hb ha] at m
      cases n with
      | zero => simp [D.pl] at h2
      | succ n =>
        simp only [D.pl] at h1 h2
        rw [reps_inj I ds es xs n h1 h2 l m]
    | lst es =>
      obtain ⟨b, ys, z, hb, m⟩ := q.lst_of
      cases z
      obtain ⟨_, _, ⟨ob, o1, o2, _⟩, _⟩ := I.tuple ha
      obtain ⟨_, _, _, _, _, o4⟩ := I.lstM hb
      rw [o1] at o4
      have z4 := Option.some.inj o4
      rw [z4] at o2
      injection o2 with z5
      exact absurd z5 (by decide)
    | dct ks es => simp [D.pl] at h2
    | scr ns => simp [D.pl] at h2
    | _ => unfold RepD at q; cases q
  | .lst ds, e, v, n, h1, h2, r, q => by
    obtain ⟨a, xs, rfl, ha, l⟩ := r.lst_of
    cases e with
    | lst es =>
      obtain ⟨b, ys, z, hb, m⟩ := q.lst_of
      cases z
      rw [ha] at hb
      cases hb
      cases n with
      | zero => simp [D.pl] at h2
      | succ n =>
        simp only [D.pl] at h1 h2
        rw [reps_inj I ds es xs n h1 h2 l m]
    | tup es =>
      obtain ⟨b, ys, z, hb, m⟩ := q.tup_of
      cases z
      obtain ⟨_, _, ⟨ob, o1, o2, _⟩, _⟩ := I.tuple hb
      obtain ⟨_, _, _, _, _, o4⟩ := I.lstM ha
      rw [o1] at o4
      have z4 := Option.some.inj o4
      rw [z4] at o2
      injection o2 with z5
      exact absurd z5 (by decide)
    | dct ks es => simp [D.pl] at h2
    | scr ns => simp [D.pl] at h2
    | _ => unfold RepD at q; cases q
  | .dct ks ds, e, v, n, h1, h2, r, q => by simp [D.pl] at h1
  | .scr _, e, v, n, h1, h2, r, q => by simp [D.pl] at h1
theorem reps_inj (I : Inv X pins σ H s) : ∀ (ds es : List D) (xs : List V) (n : Nat), plL ds n = true → plL es n = true → RepL X.K H ds xs → RepL X.K H es xs → ds = es
  | [], es, xs, n, h1, h2, r, q => by
    rw [repL_nil r] at q
    cases es with
    | nil => rfl
    | cons e es => obtain ⟨_, _, z, _⟩ := repL_cons q; cases z
  | d :: ds, es, xs, n, h1, h2, r, q => by
    obtain ⟨x, xs', rfl, r1, r2⟩ := repL_cons r
    cases es with
    | nil => have := repL_nil q; cases this
    | cons e es =>
      obtain ⟨y, ys', z, q1, q2⟩ := repL_cons q
      cases z
      simp only [plL, Bool.and_eq_true] at h1 h2
      rw [rep_inj I d e _ n h1.1 h2.1 r1 q1, reps_inj I ds es _ n h1.2 h2.2 r2 q2]
end
open Classical in
/-- whether a value of the machine is told equal to d: by the data that it is -/
noncomputable def eqOf (X : Cx) (H : Hp) (d : D) (u : Value) : Bool := if h : ∃ (z : D) (y : V), RepD X.K H z y ∧ RelV y u ∧ z.pl 50 = true then (Classical.choose h).eqv d else false
theorem eqOf_eq (I : Inv X pins σ H s) {d z : D} {y : V} {u : Value} (r : RepD X.K H z y) (ru : RelV y u) (hz : z.pl 50 = true) : eqOf X H d u = z.eqv d := by
  have h : ∃ (z : D) (y : V), RepD X.K H z y ∧ RelV y u ∧ z.pl 50 = true := ⟨z, y, r, ru, hz⟩
  unfold eqOf
  rw [dif_pos h]
  obtain ⟨y', r', ru', hz'⟩ := Classical.choose_spec h
  have e : y' = y := L2.RelV.inj ru' ru
  subst e
  rw [rep_inj I _ z y' 50 hz' hz r' r]
theorem memb (I : Inv X pins σ H s) {A : Around} (hu : A.units + 50 < cLine) {d : D} {x : V} {v : Value} (rd : RepD X.K H d x) (rx : RelV x v) (hd : d.pl 50 = true) : ∀ {es : List D} {xs : List V} {us : List Value}, plL es 50 = true → RepL X.K H es xs → Vals xs us →
    (∀ y, y ∈ us → SeqAt.EqAt A s y v (eqOf X H d y)) ∧ us.any (eqOf X H d) = es.any fun z => z.eqv d
  | [], xs, us, he, r, rv => by
    rw [repL_nil r] at rv
    cases rv
    exact ⟨fun y hy => absurd hy (by simp), rfl⟩
  | e :: es, xs, us, he, r, rv => by
    obtain ⟨y, xs', rfl, r1, r2⟩ := repL_cons r
    cases rv with
    | @cons _ u _ us a b =>
      simp only [plL, Bool.and_eq_true] at he
      obtain ⟨h1, h2⟩ := memb I hu rd rx hd he.2 r2 b
      have e1 := eqOf_eq I (d := d) r1 a he.1
      refine ⟨fun y' hy => ?_, by rw [List.any_cons, List.any_cons, h2, e1]⟩
      rcases List.mem_cons.mp hy with rfl | hy
      · rw [e1]
        exact (at_run I e d 50 A y x y' v he.1 hd hu r1 rd a rx).1
      · exact h1 y' hy
theorem op_inX (hu : X.A.units + 64 < cLine) : OpR X (compareOp .In) (rInX X.K false) := by
  intro pins s σ H x y v u Q I rx ry ⟨d, es, rd, rs, hd, he, hq⟩
  rcases rs with rs | rs
  · obtain ⟨a, xs, rfl, ha, l⟩ := rs.lst_of
    cases (show u = Value.ref a from ry)
    obtain ⟨us, rv, p, _⟩ := I.list (sl_of (K := X.K) ha)
    obtain ⟨m1, m2⟩ := memb I (A := X.A.in1) (by show X.A.units + 1 + 50 < cLine; omega) rd rx hd he l rv
    refine SeqAt.in_listAt (eqOf X H d) p.isList (fun y hy => m1 y (by simpa using hy)) ?_
    refine ⟨.bl _, H, I, rfl, ?_⟩
    rw [show (us.toArray.any (eqOf X H d)) = us.any (eqOf X H d) by simp, m2]
    exact hq
  · obtain ⟨a, xs, rfl, ha, l⟩ := rs.tup_of
    cases (show u = Value.ref a from ry)
    obtain ⟨us, rv, ⟨o2, q1, q2, q3, q4⟩, _⟩ := I.tuple ha
    obtain ⟨m1, m2⟩ := memb I (A := X.A.in1) (by show X.A.units + 1 + 50 < cLine; omega) rd rx hd he l rv
    refine SeqAt.in_tupleAt (eqOf X H d) ⟨o2, q1, q2, q3, q4⟩ (fun y hy => m1 y (by simpa using hy)) ?_
    refine ⟨.bl _, H, I, rfl, ?_⟩
    rw [show (us.toArray.any (eqOf X H d)) = us.any (eqOf X H d) by simp, m2]
    exact hq
theorem op_ninX (hu : X.A.units + 64 < cLine) : OpR X (compareOp .NotIn) (rInX X.K true) := by
  intro pins s σ H x y v u Q I rx ry ⟨d, es, rd, rs, hd, he, hq⟩
  rcases rs with rs | rs
  · obtain ⟨a, xs, rfl, ha, l⟩ := rs.lst_of
    cases (show u = Value.ref a from ry)
    obtain ⟨us, rv, p, _⟩ := I.list (sl_of (K := X.K) ha)
    obtain ⟨m1, m2⟩ := memb I (A := X.A.in1) (by show X.A.units + 1 + 50 < cLine; omega) rd rx hd he l rv
    refine SeqAt.notIn_listAt (eqOf X H d) p.isList (fun y hy => m1 y (by simpa using hy)) ?_
    refine ⟨.bl _, H, I, rfl, ?_⟩
    rw [show (us.toArray.any (eqOf X H d)) = us.any (eqOf X H d) by simp, m2]
    exact hq
  · obtain ⟨a, xs, rfl, ha, l⟩ := rs.tup_of
    cases (show u = Value.ref a from ry)
    obtain ⟨us, rv, ⟨o2, q1, q2, q3, q4⟩, _⟩ := I.tuple ha
    obtain ⟨m1, m2⟩ := memb I (A := X.A.in1) (by show X.A.units + 1 + 50 < cLine; omega) rd rx hd he l rv
    refine SeqAt.notIn_tupleAt (eqOf X H d) ⟨o2, q1, q2, q3, q4⟩ (fun y hy => m1 y (by simpa using hy)) ?_
    refine ⟨.bl _, H, I, rfl, ?_⟩
    rw [show (us.toArray.any (eqOf X H d)) = us.any (eqOf X H d) by simp, m2]
    exact hq
end
end Lo
set_option maxHeartbeats 200000
/-! Core E: the readings of expressions. -/
namespace Lo
open PySem PySem.Spec PyProof.Rows L2
/-! ### argument lists without stars -/
def noStar1 : Expr → Bool
  | .Starred .. => false
  | _ => true
def noStar (es : List Expr) : Bool := es.all noStar1
theorem star_cons {e : Expr} {es : List Expr} (env : Env) (h : noStar1 e = true) : starEach (e :: es) env = (false, eval e env) :: starEach es env := by
  cases e <;> first | rfl | (simp [noStar1] at h)
theorem star_any {env : Env} {pos : Pos} : ∀ {es : List Expr}, noStar es = true → (backTo pos (starEach es env)).any (·.1) = false
  | [], _ => rfl
  | e :: es, h => by
    simp only [noStar, List.all_cons, Bool.and_eq_true] at h
    rw [star_cons env h.1]
    show (false || (backTo pos (starEach es env)).any (·.1)) = false
    rw [star_any (es := es) (by simpa [noStar] using h.2)]
    rfl
theorem star_all {env : Env} {pos : Pos} : ∀ {es : List Expr}, noStar es = true → (backTo pos (starEach es env)).all (fun x => !x.1) = true
  | [], _ => rfl
  | e :: es, h => by
    simp only [noStar, List.all_cons, Bool.and_eq_true] at h
    rw [star_cons env h.1]
    show (true && (backTo pos (starEach es env)).all (fun x => !x.1)) = true
    rw [star_all (es := es) (by simpa [noStar] using h.2)]
    rfl
/-! ### readings -/
section
variable (K : PySem.W.Frag)
def Post (F : Hp) (ρ : List Addr) (h' : Hh) (a : A) (Q : VK) : Prop := ∀ v F' ρ' H', Ex F F' → ρ <+: ρ' → Sim K F' ρ' H' h' → RepA K F' ρ' a v → Q v H'
def PostL (F : Hp) (ρ : List Addr) (h' : Hh) (as : List A) (Q : List V → Hp → Prop) : Prop := ∀ vs F' ρ' H', Ex F F' → ρ <+: ρ' → Sim K F' ρ' H' h' → RepAL K F' ρ' as vs → Q vs H'
def PostT (F : Hp) (ρ : List Addr) (h' : Hh) (t : Bool) (Q : Bool → Hp → Prop) : Prop := ∀ F' ρ' H', Ex F F' → ρ <+: ρ' → Sim K F' ρ' H' h' → Q t H'
def tE (ev : Nat → En → M A) : TE := fun σ H Q => ∃ b F ρ env h a h', Sim K F ρ H h ∧ EnvOk K F ρ σ env ∧ ev b env h = .ok a h' ∧ Post K F ρ h' a Q
def tL (ev : Nat → En → M (List A)) : TA := fun σ H Q => ∃ b F ρ env h a h', Sim K F ρ H h ∧ EnvOk K F ρ σ env ∧ ev b env h = .ok a h' ∧ PostL K F ρ h' a Q
def tB1 (ev : Nat → En → M Bool) : TT := fun σ H Q => ∃ b F ρ env h a h', Sim K F ρ H h ∧ EnvOk K F ρ σ env ∧ ev b env h = .ok a h' ∧ PostT K F ρ h' a Q
end
section
variable {X : Cx}
theorem pe_imp {e : Expr} {t t' : TE} (h : PE X e t) (hi : ∀ σ H Q, t' σ H Q → t σ H Q) : PE X e t' := ⟨fun pins s σ H Q I q => h.run pins s σ H Q I (hi σ H Q q)⟩
theorem pt_imp {e : Expr} {t t' : TT} (h : PT X e t) (hi : ∀ σ H Q, t' σ H Q → t σ H Q) : PT X e t' := ⟨fun pins s σ H Q I q => h.run pins s σ H Q I (hi σ H Q q)⟩
theorem pw_imp {e : Expr} {t t' : TT} (h : PW X e t) (hi : ∀ σ H Q, t' σ H Q → t σ H Q) : PW X e t' := ⟨fun wh pins s σ H Q I q => h.run wh pins s σ H Q I (hi σ H Q q)⟩
theorem pa_imp {e : List Expr} {t t' : TA} (h : PA X e t) (hi : ∀ σ H Q, t' σ H Q → t σ H Q) : PA X e t' := ⟨fun pos pins s σ H Q I q => h.run pos pins s σ H Q I (hi σ H Q q)⟩
theorem ps_imp {e : Stmt} {t t' : TS} (h : PS X e t) (hi : ∀ D σ H, t' D σ H → t D σ H) : PS X e t' := ⟨fun pins s σ H D I q => h.run pins s σ H D I (hi D σ H q)⟩
theorem pss_imp {e : List Stmt} {t t' : TS} (h : PSs X e t) (hi : ∀ D σ H, t' D σ H → t D σ H) : PSs X e t' := ⟨fun pins s σ H D I q => h.run pins s σ H D I (hi D σ H q)⟩
variable {K : PySem.W.Frag} {F H : Hp} {ρ : List Addr} {h h' : Hh} {Q : VK}
theorem Post.here {a : A} {v : V} (q : Post K F ρ h' a Q) (S : Sim K F ρ H h') (r : RepA K F ρ a v) : Q v H := q v F ρ H (.refl F) (List.prefix_refl _) S r
theorem Post.val {d : D} {v : V} (q : Post K F ρ h' (.val d) Q) (S : Sim K F ρ H h') (r : RepD K F d v) : Q v H := q.here S (repA_val.mpr r)
theorem Post.later {a : A} {F1 : Hp} {ρ1 : List Addr} (q : Post K F ρ h' a Q) (e : Ex F F1) (p : ρ <+: ρ1) : Post K F1 ρ1 h' a Q := fun v F' ρ' H' e' p' S r => q v F' ρ' H' (e.trans e') (p.trans p') S r
theorem PostL.later {a : List A} {Q : List V → Hp → Prop} {F1 : Hp} {ρ1 : List Addr} (q : PostL K F ρ h' a Q) (e : Ex F F1) (p : ρ <+: ρ1) : PostL K F1 ρ1 h' a Q := fun v F' ρ' H' e' p' S r => q v F' ρ' H' (e.trans e') (p.trans p') S r
theorem PostT.later {a : Bool} {Q : Bool → Hp → Prop} {F1 : Hp} {ρ1 : List Addr} (q : PostT K F ρ h' a Q) (e : Ex F F1) (p : ρ <+: ρ1) : PostT K F1 ρ1 h' a Q := fun F' ρ' H' e' p' S => q F' ρ' H' (e.trans e') (p.trans p') S
theorem rep_int {i : Int} : RepD K F (.int i) (.int i) := by unfold RepD; rfl
theorem rep_bl {i : Bool} : RepD K F (.bl i) (.bl i) := by unfold RepD; rfl
theorem rep_str {i : Str} : RepD K F (.str i) (.str i) := by unfold RepD; rfl
theorem rep_non : RepD K F .non .non := by unfold RepD; rfl
/-- new things -/
theorem new_lst {m : Bool} {ds : List D} {xs : List V} {a : A} (S : Sim K F ρ H h) (r : RepL K F ds xs) (e : mkD m (.lst ds) h = .ok a h') (q : Post K F ρ h' a Q) : ∀ p, H p = none → Q (.ref p) (upd H p (.lst xs)) := fun p hp => by
  cases m with
  | false =>
    obtain ⟨rfl, rfl⟩ := pure_ok e
    have x : Ex F (upd F p (.lst xs)) := .new (S.ex.none hp)
    refine q _ (upd F p (.lst xs)) ρ _ x (List.prefix_refl _) (S.newF hp _) (repA_val.mpr ?_)
    unfold RepD
    exact ⟨p, xs, rfl, upd_same, r.mono x⟩
  | true =>
    replace e : M.bind (alloc (.lst (ds.map A.val))) (fun n => M.pure (A.ref n)) h = .ok a h' := e
    obtain ⟨n, h1, e1, e⟩ := bind_ok e
    obtain ⟨rfl, rfl⟩ := pure_ok e
    cases e1
    have S1 : Sim K F (ρ ++ [p]) (upd H p (.lst xs)) (h ++ [C.lst (ds.map A.val)]) := S.newC hp ⟨xs, upd_same, .of_vals r⟩
    refine q _ F (ρ ++ [p]) _ (.refl F) (List.prefix_append _ _) S1 ?_
    unfold RepA
    exact ⟨p, by rw [← S.len]; simp, rfl⟩
theorem new_tup {m : Bool} {ds : List D} {xs : List V} {a : A} (S : Sim K F ρ H h) (r : RepL K F ds xs) (e : mkD m (.tup ds) h = .ok a h') (q : Post K F ρ h' a Q) : ∀ p, H p = none → Q (.ref p) (upd H p (.tup xs)) := fun p hp => by
  cases m with
  | false =>
    obtain ⟨rfl, rfl⟩ := pure_ok e
    have x : Ex F (upd F p (.tup xs)) := .new (S.ex.none hp)
    refine q _ (upd F p (.tup xs)) ρ _ x (List.prefix_refl _) (S.newF hp _) (repA_val.mpr ?_)
    unfold RepD
    exact ⟨p, xs, rfl, st_of upd_same, r.mono x⟩
  | true => cases e
theorem old_tup {m : Bool} {ds : List D} {p : Addr} {xs : List V} {a : A} (S : Sim K F ρ H h) (hs : SqT K F p xs) (r : RepL K F ds xs) (e : mkD m (.tup ds) h = .ok a h') (q : Post K F ρ h' a Q) : Q (.ref p) H := by
  cases m with
  | false =>
    obtain ⟨rfl, rfl⟩ := pure_ok e
    refine q.val S ?_
    unfold RepD
    exact ⟨p, xs, rfl, hs, r⟩
  | true => cases e
theorem new_dct {m : Bool} {ks : List Key} {ds : List D} {kvs : List (Key × V)} {a : A} (S : Sim K F ρ H h) (hk : kvs.map (·.1) = ks) (r : RepL K F ds (kvs.map (·.2))) (e : mkD m (.dct ks ds) h = .ok a h') (q : Post K F ρ h' a Q) : ∀ p, H p = none → Q (.ref p) (upd H p (.dK kvs)) := fun p hp => by
  cases m with
  | false =>
    obtain ⟨rfl, rfl⟩ := pure_ok e
    have x : Ex F (upd F p (.dK kvs)) := .new (S.ex.none hp)
    refine q _ (upd F p (.dK kvs)) ρ _ x (List.prefix_refl _) (S.newF hp _) (repA_val.mpr ?_)
    unfold RepD
    exact ⟨p, kvs, rfl, upd_same, hk, r.mono x⟩
  | true =>
    replace e : M.bind (alloc (.dct ks (ds.map A.val))) (fun n => M.pure (A.ref n)) h = .ok a h' := e
    obtain ⟨n, h1, e1, e⟩ := bind_ok e
    obtain ⟨rfl, rfl⟩ := pure_ok e
    cases e1
    have S1 : Sim K F (ρ ++ [p]) (upd H p (.dK kvs)) (h ++ [C.dct ks (ds.map A.val)]) := S.newC hp ⟨kvs, upd_same, hk, .of_vals r⟩
    refine q _ F (ρ ++ [p]) _ (.refl F) (List.prefix_append _ _) S1 ?_
    unfold RepA
    exact ⟨p, by rw [← S.len]; simp, rfl⟩
/-! ### + - * // % ** -/
def opOf : Op → Operator
  | .add => .Add | .sub => .Sub | .mul => .Mult | .mod => .Mod | .fdiv => .FloorDiv | .pow => .Pow
def rOr (r r' : R2) : R2 := fun x y H Q => r x y H Q ∨ r' x y H Q
/-- what an operation asks, by the data -/
def rOp (K : PySem.W.Frag) (o : Op) : R2 := fun x y H Q => ∃ F ρ h m d e z a h', Sim K F ρ H h ∧ RepS K F H d x ∧ RepS K F H e y ∧ opD o d e = some z ∧ mkD m z h = .ok a h' ∧ Post K F ρ h' a Q
theorem mkD_int {m : Bool} {i : Int} {a : A} (S : Sim K F ρ H h) (e : mkD m (.int i) h = .ok a h') (q : Post K F ρ h' a Q) : Q (.int i) H := by
  cases m with
  | false => obtain ⟨rfl, rfl⟩ := pure_ok e; exact q.val S rep_int
  | true => cases e
theorem mkD_str {m : Bool} {i : Str} {a : A} (S : Sim K F ρ H h) (e : mkD m (.str i) h = .ok a h') (q : Post K F ρ h' a Q) : Q (.str i) H := by
  cases m with
  | false => obtain ⟨rfl, rfl⟩ := pure_ok e; exact q.val S rep_str
  | true => cases e
theorem mkD_bl {m : Bool} {i : Bool} {a : A} (S : Sim K F ρ H h) (e : mkD m (.bl i) h = .ok a h') (q : Post K F ρ h' a Q) : Q (.bl i) H := by
  cases m with
  | false => obtain ⟨rfl, rfl⟩ := pure_ok e; exact q.val S rep_bl
  | true => cases e
theorem repL_len_append {x y : List D} : (x ++ y).length = x.length + y.length := List.length_append
theorem op_X (o : Op) : OpR X (binaryOp (opOf o)) (rOp X.K o) := by
  intro pins s σ H x y v u Q I rx ry ⟨F, ρ, h, m, d, e, z, a, h', S, r1, r2, ez, em, q⟩
  cases o with
  | add =>
    cases d <;> cases e <;> simp only [opD] at ez <;> try (cases ez; done)
    · cases ez
      exact op_add pins s σ H x y v u Q I rx ry ⟨_, _, r1, r2, mkD_int S em q⟩
    · split at ez
      · cases ez
        rename_i hl
        exact op_add_str pins s σ H x y v u Q I rx ry ⟨_, _, r1, r2, hl, mkD_str S em q⟩
      · cases ez
    · split at ez
      · cases ez
        rename_i hl
        obtain ⟨p, xs, rfl, h1, l1⟩ := r1
        obtain ⟨p2, ys, rfl, h2, l2⟩ := r2
        have e1 := l1.length
        have e2 := l2.length
        refine op_catA pins s σ H _ _ v u Q I rx ry ⟨p, p2, xs, ys, rfl, rfl, ex_t S.ex h1, ex_t S.ex h2, by omega, fun z => ?_, fun _ z => ?_, fun _ _ => new_tup S (l1.append l2) em q⟩
        · subst z
          have : _ = [] := List.length_eq_zero_iff.mp e1
          subst this
          exact old_tup S h2 l2 em q
        · subst z
          have : _ = [] := List.length_eq_zero_iff.mp e2
          subst this
          rw [List.append_nil] at em
          exact old_tup S h1 l1 em q
      · cases ez
    · split at ez
      · cases ez
        rename_i hl
        obtain ⟨p, xs, rfl, h1, l1⟩ := r1
        obtain ⟨p2, ys, rfl, h2, l2⟩ := r2
        have e1 := l1.length
        have e2 := l2.length
        exact op_cat pins s σ H _ _ v u Q I rx ry ⟨p, p2, xs, ys, rfl, rfl, h1, h2, by omega, new_lst S (l1.append l2) em q⟩
      · cases ez
  | sub =>
    cases d <;> cases e <;> simp only [opD] at ez <;> try (cases ez; done)
    cases ez
    exact op_sub pins s σ H x y v u Q I rx ry ⟨_, _, r1, r2, mkD_int S em q⟩
  | mul =>
    cases d <;> cases e <;> simp only [opD] at ez <;> try (cases ez; done)
    · split at ez
      · cases ez
        rename_i hl
        exact op_mul pins s σ H x y v u Q I rx ry ⟨_, _, r1, r2, hl, mkD_int S em q⟩
      · cases ez
    · split at ez
      · cases ez
        rename_i hl
        obtain ⟨p, xs, rfl, h1, l1⟩ := r1
        have e1 := l1.length
        exact op_rep pins s σ H _ y v u Q I rx ry ⟨p, _, xs, rfl, r2, h1, hl.1, hl.2.1, by rw [← e1]; exact hl.2.2, new_lst S (l1.rep _) em q⟩
      · cases ez
  | mod =>
    cases d <;> cases e <;> simp only [opD] at ez <;> try (cases ez; done)
    split at ez
    · cases ez
      rename_i hl
      exact op_mod pins s σ H x y v u Q I rx ry ⟨_, _, r1, r2, hl, mkD_int S em q⟩
    · cases ez
  | fdiv =>
    cases d <;> cases e <;> simp only [opD] at ez <;> try (cases ez; done)
    split at ez
    · cases ez
      rename_i hl
      exact op_fdiv pins s σ H x y v u Q I rx ry ⟨_, _, r1, r2, hl, mkD_int S em q⟩
    · cases ez
  | pow =>
    cases d <;> cases e <;> simp only [opD] at ez <;> try (cases ez; done)
    split at ez
    · cases ez
      rename_i hl
      exact op_pow pins s σ H x y v u Q I rx ry ⟨_, _, r1, r2, hl, mkD_int S em q⟩
    · cases ez
/-! ### comparisons -/
def cpOf : Cp → CmpOp
  | .eq => .Eq | .ne => .NotEq | .lt => .Lt | .le => .LtE | .gt => .Gt | .ge => .GtE | .is_ => .Is | .isn => .IsNot | .in_ => .In | .nin => .NotIn
def rCmp (K : PySem.W.Frag) (o : Cp) : R2 := fun x y H Q => ∃ d e t, RepD K H d x ∧ RepD K H e y ∧ cmpD o d e = some t ∧ Q (.bl t) H
theorem isNon_rep {d : D} {v : V} (r : RepD K H d v) : isNon d = decide (v = .non) := by
  cases d <;> unfold RepD at r
  · subst r; rfl
  · subst r; rfl
  · subst r; rfl
  · subst r; rfl
  · obtain ⟨a, xs, rfl, _⟩ := r; rfl
  · obtain ⟨a, xs, rfl, _⟩ := r; rfl
  · obtain ⟨a, xs, rfl, _⟩ := r; rfl
  · obtain ⟨a, rfl, _⟩ := r; rfl
theorem keyOf_rep {d : D} {k : Key} {v : V} (e : keyOf d = some k) (r : RepD K H d v) : v = kV k := by
  cases d <;> simp only [keyOf] at e <;> try (cases e; done)
  · cases e; unfold RepD at r; exact r
  · cases e; unfold RepD at r; exact r
theorem valV_keys {k : Key} : ∀ kvs : List (Key × V), (valV kvs k).isSome = (kvs.map (·.1)).any fun j => decide (j = k)
  | [] => rfl
  | p :: r => by
    by_cases e : p.1 = k
    · rw [valV_pos e, List.map_cons, List.any_cons, decide_eq_true e]; rfl
    · rw [valV_neg e, List.map_cons, List.any_cons, decide_eq_false e, Bool.false_or]; exact valV_keys r
theorem sign_rep {x : Str} {c : Nat} (e : oneSign x = some c) : x = ⟨#[c]⟩ := by
  unfold oneSign at e
  obtain ⟨a⟩ := x
  obtain ⟨l⟩ := a
  cases l with
  | nil => cases e
  | cons a r =>
    cases r with
    | nil => cases e; rfl
    | cons _ _ => cases e
theorem cmp_X (o : Cp) (hu : X.A.units + 64 < cLine) : OpR X (compareOp (cpOf o)) (rCmp X.K o) := by
  intro pins s σ H x y v u Q I rx ry ⟨d, e, t, r1, r2, ez, q⟩
  cases o with
  | eq =>
    simp only [cmpD, eqD] at ez
    split at ez
    · cases ez
      rename_i hok
      exact op_eqX hu pins s σ H x y v u Q I rx ry ⟨d, e, r1, r2, hok, q⟩
    · cases ez
  | ne =>
    simp only [cmpD] at ez
    split at ez
    · cases ez
      rename_i hok
      simp only [Bool.and_eq_true] at hok
      exact op_neX hu pins s σ H x y v u Q I rx ry ⟨d, e, r1, r2, hok.1, hok.2, q⟩
    · cases ez
  | is_ =>
    cases e <;> simp only [cmpD] at ez <;> try (cases ez; done)
    all_goals first
      | (cases ez
         unfold RepD at r2
         subst r2
         rw [isNon_rep r1] at q
         exact op_isN pins s σ H x _ v u Q I rx ry ⟨rfl, q⟩)
      | (cases d <;> simp only [cmpD, cmpI] at ez <;> cases ez)
  | isn =>
    cases e <;> simp only [cmpD] at ez <;> try (cases ez; done)
    all_goals first
      | (cases ez
         unfold RepD at r2
         subst r2
         rw [isNon_rep r1] at q
         exact op_notN pins s σ H x _ v u Q I rx ry ⟨rfl, q⟩)
      | (cases d <;> simp only [cmpD, cmpI] at ez <;> cases ez)
  | lt =>
    cases d <;> cases e <;> simp only [cmpD, cmpI] at ez <;> try (cases ez; done)
    cases ez
    unfold RepD at r1 r2
    exact op_lt pins s σ H x y v u Q I rx ry ⟨_, _, r1, r2, q⟩
  | le =>
    cases d <;> cases e <;> simp only [cmpD, cmpI] at ez <;> try (cases ez; done)
    cases ez
    unfold RepD at r1 r2
    exact op_le pins s σ H x y v u Q I rx ry ⟨_, _, r1, r2, q⟩
  | gt =>
    cases d <;> cases e <;> simp only [cmpD, cmpI] at ez <;> try (cases ez; done)
    cases ez
    unfold RepD at r1 r2
    exact op_gt pins s σ H x y v u Q I rx ry ⟨_, _, r1, r2, q⟩
  | ge =>
    cases d <;> cases e <;> simp only [cmpD, cmpI] at ez <;> try (cases ez; done)
    cases ez
    unfold RepD at r1 r2
    exact op_ge pins s σ H x y v u Q I rx ry ⟨_, _, r1, r2, q⟩
  | in_ =>
    cases e <;> simp only [cmpD, inD] at ez <;> try (cases ez; done)
    · cases d <;> simp only at ez <;> try (cases ez; done)
      rename_i z x0
      cases es : oneSign x0 with
      | none => rw [es] at ez; cases ez
      | some c =>
        rw [es] at ez
        cases ez
        unfold RepD at r1 r2
        rw [sign_rep es] at r1
        exact op_in_sign pins s σ H x y v u Q I rx ry ⟨c, z, r1, r2, q⟩
    · split at ez
      · cases ez
        rename_i hok
        simp only [Bool.and_eq_true] at hok
        exact op_inX hu pins s σ H x y v u Q I rx ry ⟨d, _, r1, .inr r2, hok.1, hok.2, q⟩
      · cases ez
    · split at ez
      · cases ez
        rename_i hok
        simp only [Bool.and_eq_true] at hok
        exact op_inX hu pins s σ H x y v u Q I rx ry ⟨d, _, r1, .inl r2, hok.1, hok.2, q⟩
      · cases ez
    · cases ek : keyOf d with
      | none => rw [ek] at ez; cases ez
      | some k =>
        rw [ek] at ez
        cases ez
        obtain ⟨a, kvs, rfl, ha, hk, l⟩ := r2.dct_of
        rw [keyOf_rep ek r1] at rx
        cases (show u = Value.ref a from ry)
        refine d_in (by omega) I (DGet.k ha) rx fun s' I' => ⟨.bl _, H, I', rfl, ?_⟩
        rw [valV_keys, hk]
        exact q
  | nin =>
    simp only [cmpD, Option.map_eq_some_iff] at ez
    obtain ⟨b, ez, rfl⟩ := ez
    cases e <;> simp only [inD] at ez <;> try (cases ez; done)
    · cases d <;> simp only at ez <;> try (cases ez; done)
      rename_i z x0
      cases es : oneSign x0 with
      | none => rw [es] at ez; cases ez
      | some c =>
        rw [es] at ez
        cases ez
        unfold RepD at r1 r2
        rw [sign_rep es] at r1
        exact op_notIn_sign pins s σ H x y v u Q I rx ry ⟨c, z, r1, r2, q⟩
    · split at ez
      · cases ez
        rename_i hok
        simp only [Bool.and_eq_true] at hok
        exact op_ninX hu pins s σ H x y v u Q I rx ry ⟨d, _, r1, .inr r2, hok.1, hok.2, q⟩
      · cases ez
    · split at ez
      · cases ez
        rename_i hok
        simp only [Bool.and_eq_true] at hok
        exact op_ninX hu pins s σ H x y v u Q I rx ry ⟨d, _, r1, .inl r2, hok.1, hok.2, q⟩
      · cases ez
    · cases ek : keyOf d with
      | none => rw [ek] at ez; cases ez
      | some k =>
        rw [ek] at ez
        cases ez
        obtain ⟨a, kvs, rfl, ha, hk, l⟩ := r2.dct_of
        rw [keyOf_rep ek r1] at rx
        cases (show u = Value.ref a from ry)
        refine d_notIn (by omega) I (DGet.k ha) rx fun s' I' => ⟨.bl _, H, I', rfl, ?_⟩
        rw [valV_keys, hk]
        exact q
/-! ### truth -/
theorem truA_rep (S : Sim K F ρ H h) {a : A} {t : Bool} {v : V} (e : truA a h = .ok t h') (r : RepA K F ρ a v) : h = h' ∧ TruV K v H t := by
  cases a with
  | val d =>
    simp only [truA] at e
    cases et : truD d with
    | none => rw [et] at e; cases e
    | some t' =>
      rw [et] at e
      cases e
      refine ⟨rfl, ?_⟩
      have r := repA_val.mp r
      cases d <;> simp only [truD] at et <;> unfold RepD at r
      · cases et; subst r; rfl
      · cases et; subst r; rfl
      · cases et; subst r; rfl
      · split at et
        · cases et; subst r; rename_i hl; exact ⟨hl, rfl⟩
        · cases et
      · cases et
        obtain ⟨p, xs, rfl, hp, l⟩ := r
        exact .inr (.inl ⟨xs, ex_t S.ex hp, by rw [l.nil_iff]⟩)
      · cases et
        obtain ⟨p, xs, rfl, hp, l⟩ := r
        exact .inl ⟨xs, sl_of (S.ex _ _ hp), by rw [l.nil_iff]⟩
      · cases et
        obtain ⟨p, kvs, rfl, hp, hk, l⟩ := r
        refine .inr (.inr ⟨kvs, S.ex _ _ hp, ?_⟩)
        rw [← hk]
        cases kvs <;> rfl
      · cases et
        obtain ⟨p, rfl, hp⟩ := r
        refine .inl ⟨_, ex_l S.ex hp, ?_⟩
        cases ‹List Int› <;> rfl
  | tup as =>
    simp only [truA] at e
    cases e
    refine ⟨rfl, ?_⟩
    unfold RepA at r
    obtain ⟨p, xs, rfl, hp, l⟩ := r
    exact .inr (.inl ⟨xs, ex_t S.ex hp, by rw [l.nil_iff]⟩)
  | ref n =>
    simp only [truA] at e
    unfold RepA at r
    obtain ⟨p, hp, rfl⟩ := r
    obtain ⟨c, e1, rc, _, _⟩ := S.at_ hp
    rw [e1] at e
    cases c with
    | lst as =>
      cases e
      obtain ⟨xs, hx, l⟩ := rc
      exact ⟨rfl, .inl ⟨xs, sl_of hx, by rw [l.nil_iff]⟩⟩
    | dct ks as =>
      cases e
      obtain ⟨kvs, hx, hk, l⟩ := rc
      refine ⟨rfl, .inr (.inr ⟨kvs, hx, ?_⟩)⟩
      rw [← hk]
      cases kvs <;> rfl
    | dead => cases e
/-! ### a[i] -/
def rIdx (K : PySem.W.Frag) : R2 := fun x y H Q => ∃ F ρ h a d b h', Sim K F ρ H h ∧ RepA K F ρ a x ∧ RepS K F H d y ∧ idxA a d h = .ok b h' ∧ Post K F ρ h' b Q
theorem atP_rep {α : Type} {as : List α} {xs : List V} {i : Int} {b : α} {P : α → V → Prop} (hl : as.length = xs.length) (hg : ∀ (j : Nat) (c : α), as[j]? = some c → ∃ x, xs[j]? = some x ∧ P c x) (e : atP as i = some b) : ∃ x, atI xs i = some x ∧ P b x := by
  unfold atP atI at e
  unfold atI
  cases q : ixN as.length i with
  | none => rw [q] at e; cases e
  | some j =>
    rw [q] at e
    obtain ⟨x, h1, h2⟩ := hg j b e
    exact ⟨x, by rw [← hl, q]; exact h1, h2⟩
theorem ix_dict (hu : X.A.units + 1 < cLine) : IxR X (fun x y H Q => ∃ a kvs k v, x = .ref a ∧ y = kV k ∧ H a = some (.dK kvs) ∧ valV kvs k = some v ∧ Q v H) := by
  intro value slice pins s σ H x y v u Q I rx ry ⟨a, kvs, k, z, ex, ey, ha, hv, q⟩ hs
  subst ex ey
  cases (show v = Value.ref a from rx)
  obtain ⟨_, hd, vs, rel, dd⟩ := I.hok a _ ha
  obtain ⟨w', hw, rw'⟩ := RelO.some_of (v := z) (o := valueAt vs k) (by rw [← hv]; exact rel.val k)
  exact subscriptTail_builtinR (x := w') dd.typeIs PySem.F.slot_dict_getitem.lookup (wpAny_getItem_of (Q := fun r s' => r = w' ∧ EP X pins σ Q r s') (kV_is ry) dd.mapOf hw ⟨rfl, z, H, I.tok _, rw', q⟩) hs
theorem lookK_rep {α : Type} {P : α → V → Prop} {k : Key} {b : α} : ∀ {kvs : List (Key × V)} {as : List α}, as.length = kvs.length → (∀ (j : Nat) (c : α), as[j]? = some c → ∃ x, (kvs.map (·.2))[j]? = some x ∧ P c x) → lookK k (kvs.map (·.1)) as = some b → ∃ x, valV kvs k = some x ∧ P b x
  | [], as, _, _, e => by simp [lookK] at e
  | p :: kvs, [], hl, _, _ => by simp at hl
  | p :: kvs, a :: as, hl, hg, e => by
    rw [List.map_cons] at e
    unfold lookK at e
    by_cases hp : p.1 = k
    · rw [if_pos hp] at e
      cases e
      obtain ⟨x, h1, h2⟩ := hg 0 _ rfl
      simp at h1
      subst h1
      exact ⟨p.2, valV_pos hp, h2⟩
    · rw [if_neg hp] at e
      rw [valV_neg hp]
      exact lookK_rep (by simpa using hl) (fun j c hc => by simpa using hg (j + 1) c (by simpa using hc)) e
theorem ix_X (hu : X.A.units + 1 < cLine) : IxR X (rIdx X.K) := by
  intro value slice pins s σ H x y v u Q I rx ry ⟨F, ρ, h, a, d, b, h', S, ra, rd, e, q⟩ hs
  cases a with
  | val c =>
    simp only [idxA] at e
    cases ed : idxD c d with
    | none => rw [ed] at e; cases e
    | some z =>
      rw [ed] at e
      cases e
      have r := repA_val.mp ra
      cases c <;> simp only [idxD] at ed <;> try (cases ed; done)
      · cases d <;> simp only [idxD] at ed <;> try (cases ed; done)
        rename_i z0 i
        split at ed
        · rename_i hl
          simp only [Option.map_eq_some_iff] at ed
          obtain ⟨c, ec, rfl⟩ := ed
          unfold RepD at r
          exact ix_str value slice pins s σ H x y v u Q I rx ry ⟨z0, i, c, r, rd, hl, ec, q.val S rep_str⟩ hs
        · cases ed
      · cases d <;> simp only [idxD] at ed <;> try (cases ed; done)
        obtain ⟨p, xs, rfl, hp, l⟩ := r.tup_of
        obtain ⟨w, hw, rw⟩ := atP_rep (P := RepD X.K F) l.length (fun j c hc => l.get hc) ed
        exact ix_tup value slice pins s σ H _ y v u Q I rx ry ⟨p, xs, _, w, rfl, rd, ex_t S.ex hp, hw, q.val S rw⟩ hs
      · cases d <;> simp only [idxD] at ed <;> try (cases ed; done)
        obtain ⟨p, xs, rfl, hp, l⟩ := r.lst_of
        obtain ⟨w, hw, rw⟩ := atP_rep (P := RepD X.K F) l.length (fun j c hc => l.get hc) ed
        exact ix_list value slice pins s σ H _ y v u Q I rx ry ⟨p, xs, _, w, rfl, rd, sl_of (S.ex _ _ hp), hw, q.val S rw⟩ hs
      · simp only [Option.bind_eq_some_iff] at ed
        obtain ⟨k, ek, ed⟩ := ed
        obtain ⟨p, kvs, rfl, hp, hk, l⟩ := r.dct_of
        subst hk
        obtain ⟨w, hw, rw⟩ := lookK_rep (P := RepD X.K F) (by rw [l.length]; simp) (fun j c hc => l.get hc) ed
        have hy : y = kV k := by
          cases d <;> simp only [keyOf] at ek <;> try (cases ek; done)
          · cases ek; exact rd
          · cases ek; exact rd
        exact ix_dict hu value slice pins s σ H _ y v u Q I rx ry ⟨p, kvs, k, w, rfl, hy, S.ex _ _ hp, hw, q.val S rw⟩ hs
      · cases d <;> simp only [idxD] at ed <;> try (cases ed; done)
        simp only [Option.map_eq_some_iff] at ed
        obtain ⟨c, ec, rfl⟩ := ed
        rename_i ns i
        unfold RepD at r
        obtain ⟨p, rfl, hp⟩ := r
        obtain ⟨w, hw, rw⟩ := atP_rep (P := fun (c : Int) (x : V) => x = .int c) (as := ns) (xs := ns.map V.int) (by simp) (fun j c hc => ⟨.int c, by rw [List.getElem?_map, hc]; rfl, rfl⟩) ec
        subst rw
        exact ix_list value slice pins s σ H _ y v u Q I rx ry ⟨p, _, _, _, rfl, rd, ex_l S.ex hp, hw, q.val S rep_int⟩ hs
  | tup as =>
    simp only [idxA] at e
    cases d <;> simp only at e <;> try (cases e; done)
    rename_i i
    cases ea : atP as i with
    | none => rw [ea] at e; cases e
    | some z =>
      rw [ea] at e
      cases e
      unfold RepA at ra
      obtain ⟨p, xs, rfl, hp, l⟩ := ra
      obtain ⟨w, hw, rw⟩ := atP_rep (P := RepA X.K F ρ) l.length (fun j c hc => l.get hc) ea
      exact ix_tup value slice pins s σ H _ y v u Q I rx ry ⟨p, xs, _, w, rfl, rd, ex_t S.ex hp, hw, q.here S rw⟩ hs
  | ref n =>
    simp only [idxA] at e
    unfold RepA at ra
    obtain ⟨p, hp, rfl⟩ := ra
    obtain ⟨c, e1, rc, _, _⟩ := S.at_ hp
    rw [e1] at e
    cases c with
    | lst as =>
      cases d <;> simp only at e <;> try (cases e; done)
      rename_i i
      cases ea : atP as i with
      | none => rw [ea] at e; cases e
      | some z =>
        rw [ea] at e
        cases e
        obtain ⟨xs, hx, l⟩ := rc
        obtain ⟨w, hw, rw⟩ := atP_rep (P := RepA X.K F ρ) l.length (fun j c hc => l.get hc) ea
        exact ix_list value slice pins s σ H _ y v u Q I rx ry ⟨p, xs, _, w, rfl, rd, sl_of hx, hw, q.here S rw⟩ hs
    | dct ks as =>
      simp only at e
      cases ek : keyOf d with
      | none => rw [ek] at e; cases e
      | some k =>
        rw [ek] at e
        simp only at e
        cases ea : lookK k ks as with
        | none => rw [ea] at e; cases e
        | some z =>
          rw [ea] at e
          cases e
          obtain ⟨kvs, hx, hk, l⟩ := rc
          subst hk
          obtain ⟨w, hw, rw⟩ := lookK_rep (P := RepA X.K F ρ) (by rw [l.length]; simp) (fun j c hc => l.get hc) ea
          have hy : y = kV k := by
            cases d <;> simp only [keyOf] at ek <;> try (cases ek; done)
            · cases ek; exact rd
            · cases ek; exact rd
          exact ix_dict hu value slice pins s σ H _ y v u Q I rx ry ⟨p, kvs, k, w, rfl, hy, hx, hw, q.here S rw⟩ hs
    | dead => cases e
end
end Lo
set_option maxHeartbeats 200000
/-! Core F: slices, built-in functions, isinstance, index. -/
namespace Lo
open PySem PySem.Spec PyProof.Rows L2
section
variable {X : Cx} {K : PySem.W.Frag} {F H : Hp} {ρ : List Addr} {h h' : Hh} {Q : VK}
/-! ### slices -/
def rSlc (K : PySem.W.Frag) : V → Option Int → Option Int → Hp → VK → Prop := fun x lo hi H Q => ∃ F ρ h m d e a h', Sim K F ρ H h ∧ RepS K F H d x ∧ slcD d lo hi = some e ∧ mkD m e h = .ok a h' ∧ Post K F ρ h' a Q
theorem cutL_rep {ds : List D} {xs : List V} (l : RepL K F ds xs) (lo hi : Option Int) : RepL K F (cutL ds lo hi) (cutV xs lo hi) := by
  unfold cutL cutV
  rw [l.length]
  exact (l.drop _).take _
theorem ints_rep : ∀ ns : List Int, RepL K F (ns.map D.int) (ns.map V.int)
  | [] => .nil
  | n :: ns => .cons rep_int (ints_rep ns)
theorem slc_X : SlR X (rSlc X.K) := by
  intro pins s σ H x v vl vu lo hi sl Q I rx hs pl pu ⟨F, ρ, h, m, d, e, a, h', S, r, ez, em, q⟩
  cases d <;> simp only [slcD] at ez <;> try (cases ez; done)
  · split at ez
    · rename_i z hl
      cases ez
      exact sl_str pins s σ H x v vl vu lo hi sl Q I rx hs pl pu ⟨z, r, hl, mkD_str S em q⟩
    · cases ez
  · cases ez
    obtain ⟨p, xs, rfl, hp, l⟩ := r
    refine sl_tupA pins s σ H _ v vl vu lo hi sl Q I rx hs pl pu ⟨p, xs, rfl, ex_t S.ex hp, fun ⟨h1, h2⟩ => ?_, fun _ => new_tup S (cutL_rep l lo hi) em q⟩
    have e : cutL ‹List D› lo hi = ‹List D› := by
      unfold cutL
      rw [l.length, h1, h2, List.drop_zero, Nat.sub_zero, ← l.length, List.take_length]
    rw [e] at em
    exact old_tup S hp l em q
  · cases ez
    obtain ⟨p, xs, rfl, hp, l⟩ := r
    exact sl_list pins s σ H _ v vl vu lo hi sl Q I rx hs pl pu ⟨p, xs, rfl, sl_of hp, new_lst S (cutL_rep l lo hi) em q⟩
  · cases ez
    obtain ⟨p, rfl, hp⟩ := r
    refine sl_list pins s σ H _ v vl vu lo hi sl Q I rx hs pl pu ⟨p, _, rfl, ex_l S.ex hp, new_lst S ?_ em q⟩
    have e : cutV (List.map V.int ‹List Int›) lo hi = (cutL ‹List Int› lo hi).map V.int := by
      unfold cutL cutV
      rw [List.length_map, List.map_take, List.map_drop]
    rw [e]
    exact ints_rep _
/-! ### one argument -/
def rB1 (K : PySem.W.Frag) (o : Bl) : List V → Hp → VK → Prop := fun xs H Q => ∃ x F ρ h m d e a h', xs = [x] ∧ Sim K F ρ H h ∧ RepS K F H d x ∧ blD o d = some e ∧ mkD m e h = .ok a h' ∧ Post K F ρ h' a Q
theorem b1_int : CallR X (.type "int") (rB1 X.K .int) := by
  intro pins s σ H xs us Q I rv ⟨x, F, ρ, h, m, d, e, a, h', ex, S, r, ez, em, q⟩
  cases d <;> simp only [blD] at ez <;> try (cases ez; done)
  · cases ez
    exact call_int1 pins s σ H xs us Q I rv (.inr ⟨_, by rw [ex, r], mkD_int S em q⟩)
  · cases ez
    exact call_int1 pins s σ H xs us Q I rv (.inl ⟨_, by rw [ex, r], mkD_int S em q⟩)
theorem b1_abs : CallR X (.builtin "abs") (rB1 X.K .abs) := by
  intro pins s σ H xs us Q I rv ⟨x, F, ρ, h, m, d, e, a, h', ex, S, r, ez, em, q⟩
  cases d <;> simp only [blD] at ez <;> try (cases ez; done)
  cases ez
  exact call_abs pins s σ H xs us Q I rv ⟨_, by rw [ex, r], mkD_int S em q⟩
theorem b1_str : CallR X (.type "str") (rB1 X.K .str) := by
  intro pins s σ H xs us Q I rv ⟨x, F, ρ, h, m, d, e, a, h', ex, S, r, ez, em, q⟩
  cases d <;> simp only [blD] at ez <;> try (cases ez; done)
  · split at ez
    · cases ez
      rename_i hl
      exact call_str_int pins s σ H xs us Q I rv ⟨_, by rw [ex, r], hl, mkD_str S em q⟩
    · cases ez
  · cases ez
    exact SkE.call_str_str pins s σ H xs us Q I rv ⟨_, by rw [ex, r], mkD_str S em q⟩
theorem keys_rep : ∀ kvs : List (Key × V), RepL K F ((kvs.map (·.1)).map keyD) (kvs.map fun kv => kV kv.1)
  | [] => .nil
  | (k, v) :: r => by
    refine .cons ?_ (keys_rep r)
    cases k with
    | inl i => exact rep_int
    | inr i => exact rep_str
theorem b1_list (hc : X.calm = true) : CallR X (.type "list") (rB1 X.K .list) := by
  intro pins s σ H xs us Q I rv ⟨x, F, ρ, h, m, d, e, a, h', ex, S, r, ez, em, q⟩
  subst ex
  cases d <;> simp only [blD] at ez <;> try (cases ez; done)
  · cases ez
    obtain ⟨p, ys, rfl, hp, l⟩ := r
    exact call_list_of pins s σ H _ us Q I rv ⟨p, ys, rfl, .inr (ex_t S.ex hp), new_lst S l em q⟩
  · cases ez
    obtain ⟨p, ys, rfl, hp, l⟩ := r
    exact call_list_of pins s σ H _ us Q I rv ⟨p, ys, rfl, .inl (sl_of hp), new_lst S l em q⟩
  · cases ez
    obtain ⟨p, kvs, rfl, hp, hk, l⟩ := r
    subst hk
    exact call_listD hc pins s σ H _ us Q I rv ⟨p, kvs, rfl, .inl hp, new_lst S (keys_rep kvs) em q⟩
  · cases ez
    obtain ⟨p, rfl, hp⟩ := r
    exact call_list_of pins s σ H _ us Q I rv ⟨p, _, rfl, .inl (ex_l S.ex hp), new_lst S (ints_rep _) em q⟩
theorem b1_tuple : CallR X (.type "tuple") (rB1 X.K .tuple) := by
  intro pins s σ H xs us Q I rv ⟨x, F, ρ, h, m, d, e, a, h', ex, S, r, ez, em, q⟩
  subst ex
  cases d <;> simp only [blD] at ez <;> try (cases ez; done)
  · cases ez
    obtain ⟨p, ys, rfl, hp, l⟩ := r
    exact call_tuple_of pins s σ H _ us Q I rv ⟨p, ys, rfl, .inr ⟨ex_t S.ex hp, old_tup S hp l em q⟩⟩
  · cases ez
    obtain ⟨p, ys, rfl, hp, l⟩ := r
    exact call_tuple_of pins s σ H _ us Q I rv ⟨p, ys, rfl, .inl ⟨sl_of hp, new_tup S l em q⟩⟩
theorem put_rep {ps : List (Key × D)} {kvs : List (Key × V)} {k : Key} {d : D} {v : V} (hk : kvs.map (·.1) = ps.map (·.1)) (l : RepL K F (ps.map (·.2)) (kvs.map (·.2))) (r : RepD K F d v) :
    (putK kvs k v).map (·.1) = (putP ps k d).map (·.1) ∧ RepL K F ((putP ps k d).map (·.2)) ((putK kvs k v).map (·.2)) := by
  have ha : (kvs.any fun kv => decide (kv.1 = k)) = ps.any fun p => decide (p.1 = k) := by
    have e1 : (kvs.any fun kv => decide (kv.1 = k)) = (kvs.map (·.1)).any fun j => decide (j = k) := by rw [List.any_map]; rfl
    have e2 : (ps.any fun kv => decide (kv.1 = k)) = (ps.map (·.1)).any fun j => decide (j = k) := by rw [List.any_map]; rfl
    rw [e1, e2, hk]
  unfold putK putP
  rw [ha]
  by_cases hb : (ps.any fun p => decide (p.1 = k)) = true
  · rw [if_pos hb, if_pos hb]
    clear ha hb
    induction ps generalizing kvs with
    | nil =>
      cases kvs with
      | nil => exact ⟨rfl, .nil⟩
      | cons _ _ => cases hk
    | cons p ps ih =>
      cases kvs with
      | nil => cases hk
      | cons kv kvs =>
        simp only [List.map_cons, List.cons.injEq] at hk
        obtain ⟨x, r', z, r1, r2⟩ := repL_cons l
        rw [List.map_cons] at z
        cases z
        obtain ⟨i1, i2⟩ := ih hk.2 r2
        rw [List.map_cons, List.map_cons, List.map_cons, List.map_cons, List.map_cons, List.map_cons]
        by_cases hp : p.1 = k
        · rw [if_pos hp, if_pos (hk.1.trans hp)]
          exact ⟨by rw [i1]; rw [hk.1], .cons r i2⟩
        · rw [if_neg hp, if_neg (fun z => hp (hk.1.symm.trans z))]
          exact ⟨by rw [i1]; rw [hk.1], .cons r1 i2⟩
  · rw [if_neg hb, if_neg hb]
    refine ⟨by simp [hk], ?_⟩
    rw [List.map_append, List.map_append]
    exact l.append (.cons r .nil)
theorem merge_rep : ∀ {qs : List (Key × D)} {ms : List (Key × V)} {ps : List (Key × D)} {kvs : List (Key × V)}, ms.map (·.1) = qs.map (·.1) → RepL K F (qs.map (·.2)) (ms.map (·.2)) → kvs.map (·.1) = ps.map (·.1) → RepL K F (ps.map (·.2)) (kvs.map (·.2)) →
    (mergeK kvs ms).map (·.1) = (qs.foldl (fun acc p => putP acc p.1 p.2) ps).map (·.1) ∧ RepL K F ((qs.foldl (fun acc p => putP acc p.1 p.2) ps).map (·.2)) ((mergeK kvs ms).map (·.2))
  | [], [], ps, kvs, _, _, h1, h2 => ⟨h1, h2⟩
  | [], _ :: _, _, _, h, _, _, _ => by cases h
  | _ :: _, [], _, _, h, _, _, _ => by cases h
  | q :: qs, m :: ms, ps, kvs, hk, l, h1, h2 => by
    simp only [List.map_cons, List.cons.injEq] at hk
    obtain ⟨x, r', z, r1, r2⟩ := repL_cons l
    rw [List.map_cons] at z
    cases z
    obtain ⟨i1, i2⟩ := put_rep (k := q.1) h1 h2 r1
    unfold mergeK
    rw [List.foldl_cons, List.foldl_cons, hk.1]
    exact merge_rep hk.2 r2 i1 i2
theorem pairs_rep (hx : Ex F H) : ∀ {ds : List D} {ps : List (Key × D)} {xs : List V}, pairsD ds = some ps → RepL K F ds xs →
    ∃ (as : List Addr) (kvs : List (Key × V)), xs = as.map V.ref ∧ Paired (fun p kv => SqT K H p [kV kv.1, kv.2]) as kvs ∧ kvs.map (·.1) = ps.map (·.1) ∧ RepL K F (ps.map (·.2)) (kvs.map (·.2))
  | [], ps, xs, e, l => by
    unfold pairsD at e
    cases e
    rw [repL_nil l]
    exact ⟨[], [], rfl, .nil, rfl, .nil⟩
  | d :: ds, ps, xs, e, l => by
    obtain ⟨x, xs', rfl, r1, r2⟩ := repL_cons l
    unfold pairsD at e
    split at e
    · rename_i heq
      cases heq
    · rename_i k v r heq
      cases heq
      cases ek : keyOf k with
      | none => rw [ek] at e; cases e
      | some key =>
        rw [ek] at e
        simp only at e
        cases ep : pairsD ds with
        | none => rw [ep] at e; cases e
        | some qs =>
          rw [ep] at e
          cases e
          obtain ⟨as, kvs, rfl, hp, h1, h2⟩ := pairs_rep hx ep r2
          obtain ⟨p, ys, rfl, hy, m⟩ := r1.tup_of
          obtain ⟨y1, q1, rfl, m1, m2⟩ := repL_cons m
          obtain ⟨y2, q2, rfl, m3, m4⟩ := repL_cons m2
          rw [repL_nil m4] at hy
          rw [keyOf_rep ek m1] at hy
          exact ⟨p :: as, (key, y2) :: kvs, rfl, .cons (ex_t hx hy) hp, by rw [List.map_cons, List.map_cons, h1], .cons m3 h2⟩
    · cases e
theorem b1_dict (hc : X.calm = true) : CallR X (.type "dict") (rB1 X.K .dict) := by
  intro pins s σ H xs us Q I rv ⟨x, F, ρ, h, m, d, e, a, h', ex, S, r, ez, em, q⟩
  subst ex
  cases d <;> simp only [blD] at ez <;> try (cases ez; done)
  · simp only [Option.map_eq_some_iff] at ez
    obtain ⟨ps, ep, rfl⟩ := ez
    obtain ⟨p, ys, rfl, hp, l⟩ := r
    obtain ⟨as, kvs, rfl, pr, h1, h2⟩ := pairs_rep S.ex ep l
    obtain ⟨i1, i2⟩ := merge_rep (ps := []) (kvs := []) h1 h2 rfl .nil
    exact call_dictP hc pins s σ H _ us Q I rv ⟨p, as, kvs, rfl, sl_of hp, pr, new_dct S i1 i2 em q⟩
  · cases ez
    obtain ⟨p, kvs, rfl, hp, hk, l⟩ := r
    exact call_dictD pins s σ H _ us Q I rv ⟨p, kvs, rfl, .inl hp, new_dct S hk l em q⟩
theorem bls_rep : ∀ {ds : List D} {bs : List Bool} {xs : List V}, blsD ds = some bs → RepL K F ds xs → xs = bs.map V.bl
  | [], bs, xs, e, l => by unfold blsD at e; cases e; rw [repL_nil l]; rfl
  | d :: ds, bs, xs, e, l => by
    obtain ⟨x, xs', rfl, r1, r2⟩ := repL_cons l
    unfold blsD at e
    split at e
    · rename_i heq; cases heq
    · rename_i b r heq
      cases heq
      cases eb : blsD ds with
      | none => rw [eb] at e; cases e
      | some cs =>
        rw [eb] at e
        cases e
        rw [bls_rep eb r2]
        unfold RepD at r1
        rw [r1]
        rfl
    · cases e
theorem b1_all (hc : X.calm = true) : CallR X (.builtin "all") (rB1 X.K .all) := by
  intro pins s σ H xs us Q I rv ⟨x, F, ρ, h, m, d, e, a, h', ex, S, r, ez, em, q⟩
  subst ex
  cases d <;> simp only [blD] at ez <;> try (cases ez; done)
  simp only [Option.map_eq_some_iff] at ez
  obtain ⟨bs, ep, rfl⟩ := ez
  obtain ⟨p, ys, rfl, hp, l⟩ := r
  rw [bls_rep ep l] at hp
  exact cr_all hc pins s σ H _ us Q I rv ⟨p, bs, rfl, sl_of hp, mkD_bl S em q⟩
theorem b1_any (hc : X.calm = true) : CallR X (.builtin "any") (rB1 X.K .any) := by
  intro pins s σ H xs us Q I rv ⟨x, F, ρ, h, m, d, e, a, h', ex, S, r, ez, em, q⟩
  subst ex
  cases d <;> simp only [blD] at ez <;> try (cases ez; done)
  simp only [Option.map_eq_some_iff] at ez
  obtain ⟨bs, ep, rfl⟩ := ez
  obtain ⟨p, ys, rfl, hp, l⟩ := r
  rw [bls_rep ep l] at hp
  exact cr_any hc pins s σ H _ us Q I rv ⟨p, bs, rfl, sl_of hp, mkD_bl S em q⟩
/-! ### len -/
def rLn (K : PySem.W.Frag) : List V → Hp → VK → Prop := fun xs H Q => ∃ x F ρ h a n h', xs = [x] ∧ Sim K F ρ H h ∧ RepA K F ρ a x ∧ lenA a h = .ok n h' ∧ Post K F ρ h' (.val (.int n)) Q
theorem len_X : CallR X (.builtin "len") (rLn X.K) := by
  intro pins s σ H xs us Q I rv ⟨x, F, ρ, h, a, n, h', ex, S, ra, e, q⟩
  subst ex
  have fin : ∀ {n : Nat}, h = h' → LenV X.K x H n → Post X.K F ρ h' (.val (.int n)) Q → wpAny (model X.prog X.w) X.A (call (.builtin "len") us) (EP X pins σ Q) X.xe s := fun {n} eh el q => by
    subst eh
    exact call_len pins s σ H _ us Q I rv ⟨x, n, rfl, el, q.val S rep_int⟩
  cases a with
  | val d =>
    have r := repA_val.mp ra
    cases d <;> simp only [lenA] at e <;> try (cases e; done)
    · split at e
      · cases e
        rename_i hl
        unfold RepD at r
        subst r
        exact fin rfl ⟨of_decide_eq_true hl, rfl⟩ q
      · cases e
    · cases e
      obtain ⟨p, xs, rfl, hp, l⟩ := r.tup_of
      exact fin rfl (.inr ⟨xs, ex_t S.ex hp, l.length⟩) q
    · cases e
      obtain ⟨p, xs, rfl, hp, l⟩ := r.lst_of
      exact fin rfl (.inl ⟨xs, sl_of (S.ex _ _ hp), l.length⟩) q
    · cases e
      obtain ⟨p, kvs, rfl, hp, hk, l⟩ := r.dct_of
      have el : (kvs.length : Int) = (List.length ‹List Key› : Int) := by rw [← hk]; simp
      refine call_lenD pins s σ H _ us Q I rv ⟨p, kvs, rfl, S.ex _ _ hp, ?_⟩
      rw [el]
      exact q.val S rep_int
    · cases e
      unfold RepD at r
      obtain ⟨p, rfl, hp⟩ := r
      exact fin rfl (.inl ⟨_, ex_l S.ex hp, by simp⟩) q
  | tup as =>
    simp only [lenA] at e
    cases e
    unfold RepA at ra
    obtain ⟨p, xs, rfl, hp, l⟩ := ra
    exact fin rfl (.inr ⟨xs, ex_t S.ex hp, l.length⟩) q
  | ref m =>
    simp only [lenA] at e
    unfold RepA at ra
    obtain ⟨p, hp, rfl⟩ := ra
    obtain ⟨c, e1, rc, _, _⟩ := S.at_ hp
    rw [e1] at e
    cases c with
    | lst as =>
      cases e
      obtain ⟨xs, hx, l⟩ := rc
      exact fin rfl (.inl ⟨xs, sl_of hx, l.length⟩) q
    | dct ks as =>
      cases e
      obtain ⟨kvs, hx, hk, l⟩ := rc
      have el : (kvs.length : Int) = (ks.length : Int) := by rw [← hk]; simp
      refine call_lenD pins s σ H _ us Q I rv ⟨p, kvs, rfl, hx, ?_⟩
      rw [el]
      exact q.val S rep_int
    | dead => cases e
/-! ### two arguments -/
def rB2 (K : PySem.W.Frag) (o : B2) : List V → Hp → VK → Prop := fun xs H Q => ∃ x y F ρ h d e z, xs = [x, y] ∧ Sim K F ρ H h ∧ RepS K F H d x ∧ RepS K F H e y ∧ b2D o d e = some z ∧ Post K F ρ h (.val z) Q
theorem b2_max (hc : X.calm = true) : CallR X (.builtin "max") (rB2 X.K .max) := by
  intro pins s σ H xs us Q I rv ⟨x, y, F, ρ, h, d, e, z, ex, S, r1, r2, ez, q⟩
  cases d <;> cases e <;> simp only [b2D] at ez <;> try (cases ez; done)
  cases ez
  exact call_max2 hc pins s σ H xs us Q I rv ⟨_, _, by rw [ex, r1, r2], q.val S rep_int⟩
theorem b2_min (hc : X.calm = true) : CallR X (.builtin "min") (rB2 X.K .min) := by
  intro pins s σ H xs us Q I rv ⟨x, y, F, ρ, h, d, e, z, ex, S, r1, r2, ez, q⟩
  cases d <;> cases e <;> simp only [b2D] at ez <;> try (cases ez; done)
  cases ez
  exact call_min2 hc pins s σ H xs us Q I rv ⟨_, _, by rw [ex, r1, r2], q.val S rep_int⟩
/-! ### isinstance -/
def tyN : Ty → String
  | .int => "int" | .bool => "bool" | .str => "str" | .tup => "tuple" | .lst => "list" | .dct => "dict"
/-- the built-in type of a thing -/
def tyOfD : D → String
  | .non => "NoneType" | .bl _ => "bool" | .int _ => "int" | .str _ => "str" | .tup _ => "tuple" | .lst _ => "list" | .dct _ _ => "dict" | .scr _ => "list"
theorem kit_all (t : Ty) (d : D) : kitB (tyOfD d) (tyN t) = some (tyD t d) := by
  cases t <;> cases d <;> (show kitB _ _ = _; simp only [tyOfD, tyN, tyD]; decide +kernel)
theorem tyx_l {K : PySem.W.Frag} {H : Hp} {p : Addr} {xs : List V} (h : SqL K H p xs) : TyX K H (.ref p) (.type "list") := by
  rcases h with h | ⟨o, _, _, h, c, _⟩
  · rcases h with h | ⟨o, h⟩
    · exact .base (.lst h)
    · exact .base (.frz h)
  · exact .kList h c
theorem tyx_t {K : PySem.W.Frag} {H : Hp} {p : Addr} {xs : List V} (h : SqT K H p xs) : TyX K H (.ref p) (.type "tuple") := by
  rcases h with h | ⟨o, _, _, h, c, _⟩
  · rcases h with h | ⟨o, h⟩
    · exact .base (.tup h)
    · exact .fTuple h
  · exact .kTuple h c
theorem tyx_d {d : D} {v : V} (hx : Ex F H) (r : RepD K F d v) : TyX K H v (.type (tyOfD d)) := by
  cases d with
  | non => unfold RepD at r; subst r; exact .base .non
  | bl b => unfold RepD at r; subst r; exact .base (.bl b)
  | int b => unfold RepD at r; subst r; exact .base (.int b)
  | str b => unfold RepD at r; subst r; exact .base (.str b)
  | tup ds => obtain ⟨p, xs, rfl, hp, _⟩ := r.tup_of; exact tyx_t (ex_t hx hp)
  | lst ds => obtain ⟨p, xs, rfl, hp, _⟩ := r.lst_of; exact tyx_l (sl_of (hx _ _ hp))
  | dct ks ds => obtain ⟨p, xs, rfl, hp, _⟩ := r.dct_of; exact .base (.dK (hx _ _ hp))
  | scr ns => unfold RepD at r; obtain ⟨p, rfl, hp⟩ := r; exact tyx_l (ex_l hx hp)
theorem kind_ty {ρ : List Addr} {h h' : Hh} {a : A} {v : V} {d : D} (S : Sim K F ρ H h) (r : RepA K F ρ a v) (e : kindA a h = .ok d h') : h' = h ∧ TyX K H v (.type (tyOfD d)) := by
  cases a with
  | val d' =>
    simp only [kindA] at e
    cases e
    exact ⟨rfl, tyx_d S.ex (repA_val.mp r)⟩
  | tup as =>
    simp only [kindA] at e
    cases e
    unfold RepA at r
    obtain ⟨p, xs, rfl, hp, l⟩ := r
    exact ⟨rfl, tyx_t (ex_t S.ex hp)⟩
  | ref m =>
    simp only [kindA] at e
    unfold RepA at r
    obtain ⟨p, hp, rfl⟩ := r
    obtain ⟨c, e1, rc, _, _⟩ := S.at_ hp
    rw [e1] at e
    cases c with
    | lst as =>
      cases e
      obtain ⟨xs, hx, l⟩ := rc
      exact ⟨rfl, .base (.lst hx)⟩
    | dct ks as =>
      cases e
      obtain ⟨kvs, hx, hk, l⟩ := rc
      exact ⟨rfl, .base (.dK hx)⟩
    | dead => cases e
def rIs (K : PySem.W.Frag) (t : Ty) : List V → Hp → VK → Prop := fun xs H Q => ∃ x F ρ h a d h', xs = [x, V.ty (tyN t)] ∧ Sim K F ρ H h ∧ RepA K F ρ a x ∧ kindA a h = .ok d h' ∧ Post K F ρ h' (.val (.bl (tyD t d))) Q
theorem is_X (t : Ty) : CallR X (.builtin "isinstance") (rIs X.K t) := by
  intro pins s σ H xs us Q I rv ⟨x, F, ρ, h, a, d, h', ex, S, r, e, q⟩
  obtain ⟨rfl, ty⟩ := kind_ty S r e
  exact call_isi pins s σ H xs us Q I rv ⟨x, _, _, _, _, ex, .ty _, ty, kit_ty (kit_all t d), q.val S rep_bl⟩
end
end Lo
set_option maxHeartbeats 200000
/-! Core G: the contexts, targets, the readings of lists of expressions. -/
namespace Lo
open PySem PySem.Spec PyProof.Rows L2
/-- what the checker knows of a block -/
structure Gx where
  N : List Str
  sc : Scope
  st : Str → Bool
  tab : List Fn
  bl : List Str
/-- what a def promises -/
def spF (K : PySem.W.Frag) (tab : List Fn) (k i : Nat) : Sp := fun vs H Q _ => ∃ F ρ as h a h', Sim K F ρ H h ∧ RepAL K F ρ as vs ∧ callF tab k i as h = .ok a h' ∧ Post K F ρ h' a Q
structure Calls' (P : Program) (w : World) (K : PySem.W.Frag) (mg : Str → Option Value) (base : Heap) (tab : List Fn) (k : Nat) : Prop where
  at_ : ∀ i f, tab[i]? = some f → ∃ a fd ps, mg f.name = some (.ref a) ∧ PySem.W.keepIn K (.ref a) = true ∧ Binds K fd ps [] ∧ FnOk P w K mg base CX0 k a fd ps (spF K tab k i)
structure Cok (X : Cx) (g : Gx) (k : Nat) : Prop where
  N : X.N = g.N
  sc : X.env.scope = g.sc
  kd : g.sc.kind = .function
  dn : (g.N.all fun x => !(x == ("__debug__" : Str)) && !(x == ("__classdict__" : Str))) = true
  nd : X.N.Nodup
  calm : X.calm = true
  st : ∀ x, g.st x = true → X.fn x = true
  xe : X.xe = fun _ _ => False
  rm : Room k X.A
  bl : ∀ x, g.bl.contains x = true → X.mg x = none
  cs : Calls' X.prog X.w X.K X.mg X.base g.tab k
def glB (g : Gx) (x : Str) : Bool := decide (g.sc.names.lookup x = some .globalImplicit)
def visB (g : Gx) (x : Str) : Bool := match g.sc.names.lookup x with
  | some .local => true
  | some .cell => true
  | some .free => true
  | _ => false
def nmB (g : Gx) (i : Nat) (x : Str) : Bool := decide (g.N[i]? = some x) && (match g.sc.names.lookup x with
  | some .local => true
  | some .cell => g.st x
  | _ => false)
def okNms (g : Gx) : List Expr → List Nat → Bool
  | [], [] => true
  | .Name x _ :: es, i :: is => nmB g i x && okNms g es is
  | _, _ => false
def okTg (g : Gx) (e : Expr) (tg : Tg) : Bool := match tg with
  | .one i => (match e with
    | .Name x _ => nmB g i x
    | _ => false)
  | .many is => (match e with
    | .Tuple es _ _ => okNms g es is
    | _ => false)
def gNms : List Nat → TGs
  | [] => gNil
  | i :: is => gCons (gName i) (gNms is)
def tTg (K : PySem.W.Frag) : Tg → TG
  | .one i => gName i
  | .many is => gTup K is.length (gNms is)
section
variable {X : Cx} {g : Gx} {k : Nat}
theorem Cok.gl (C : Cok X g k) {x : Str} (h : glB g x = true) : Gl X x := by
  unfold Gl Env.kindOf
  rw [C.sc]
  exact of_decide_eq_true h
theorem Cok.vis (C : Cok X g k) {x : Str} (h : visB g x = true) : Vis X.env.scope x := by
  unfold Vis
  rw [C.sc]
  unfold visB at h
  split at h
  · rename_i e; exact .inl e
  · rename_i e; exact .inr (.inl e)
  · rename_i e; exact .inr (.inr e)
  · cases h
theorem Cok.nm (C : Cok X g k) {i : Nat} {x : Str} (h : nmB g i x = true) : X.N[i]? = some x ∧ L2.Loc X.env.scope x ∧ (X.fn x = true ∨ X.env.scope.names.lookup x = some .local) := by
  unfold nmB at h
  rw [Bool.and_eq_true] at h
  obtain ⟨h1, h2⟩ := h
  refine ⟨by rw [C.N]; exact of_decide_eq_true h1, ?_⟩
  unfold L2.Loc
  rw [C.sc]
  split at h2
  · rename_i e; exact ⟨.inl e, .inr e⟩
  · rename_i e; exact ⟨.inr e, .inl (C.st x h2)⟩
  · cases h2
theorem Cok.bk (C : Cok X g k) : X.env.blockKind = .function := by
  unfold Env.blockKind
  rw [C.sc, C.kd]
  rfl
theorem Cok.own (C : Cok X g k) : PassesOwn (model X.prog X.w) X.A X.env X.xe := by
  rw [C.xe]
  exact PassesOwn.never
theorem pgs_nms (C : Cok X g k) : ∀ (es : List Expr) (is : List Nat), okNms g es is = true → PGs X es (gNms is) ∧ (assignEach es X.env).length = is.length ∧ (assignEach es X.env).findIdx? (·.1) = none
  | [], [], _ => ⟨pgs_nil, rfl, rfl⟩
  | [], _ :: _, h => by simp [okNms] at h
  | e :: es, [], h => by cases e <;> simp [okNms] at h
  | e :: es, i :: is, h => by
    cases e <;> simp only [okNms, Bool.false_eq_true] at h <;> try (cases h; done)
    rw [Bool.and_eq_true] at h
    obtain ⟨h1, h2, h3⟩ := pgs_nms C es is h.2
    obtain ⟨a, b, c⟩ := C.nm h.1
    refine ⟨pgs_cons (pg_name C.nd a b c) h1 rfl, by show _ + 1 = _; rw [h2]; rfl, ?_⟩
    show List.findIdx? _ ((false, _) :: assignEach es X.env) = none
    rw [List.findIdx?_cons]
    simp only [Bool.false_eq_true, if_false]
    rw [h3]
    rfl
theorem pg_tg (C : Cok X g k) {e : Expr} {tg : Tg} (h : okTg g e tg = true) : PG X e (tTg X.K tg) := by
  unfold okTg at h
  cases tg with
  | one i =>
    cases e <;> simp only [Bool.false_eq_true] at h <;> try (cases h; done)
    obtain ⟨a, b, c⟩ := C.nm h
    exact pg_name C.nd a b c
  | many is =>
    cases e <;> simp only [Bool.false_eq_true] at h <;> try (cases h; done)
    obtain ⟨h1, h2, h3⟩ := pgs_nms C _ _ h
    exact pg_tup C.calm h1 h2 h3
end
def tgIn : Tg → List Nat → Bool
  | .one i, vs => vs.contains i
  | .many is, vs => is.all fun i => vs.contains i
theorem wipe_get (σ : L2.St) (j : Nat) : ∀ vs : List Nat, (wipe σ vs)[j]? = if j ∈ vs ∧ j < σ.length then some none else σ[j]?
  | [] => by simp [wipe]
  | v :: vs => by
    unfold wipe
    by_cases hv : v = j
    · subst hv
      by_cases hl : v < σ.length
      · rw [List.getElem?_set_self (by rw [wipe_length]; exact hl)]
        simp [hl]
      · rw [List.getElem?_eq_none (by rw [List.length_set, wipe_length]; omega)]
        simp [hl]
    · rw [List.getElem?_set_ne hv, wipe_get σ j vs]
      have : (j ∈ v :: vs) ↔ j ∈ vs := by simp [Ne.symm hv]
      simp only [this]
theorem wipe_set {σ : L2.St} {i : Nat} {v : Option V} {vs : List Nat} (hi : i ∈ vs) : wipe (σ.set i v) vs = wipe σ vs := by
  apply List.ext_getElem?
  intro j
  rw [wipe_get, wipe_get, List.length_set]
  by_cases hj : j ∈ vs ∧ j < σ.length
  · rw [if_pos hj, if_pos hj]
  · rw [if_neg hj, if_neg hj]
    by_cases hij : i = j
    · subst hij
      have hl : ¬ i < σ.length := fun z => hj ⟨hi, z⟩
      rw [List.getElem?_eq_none (by simpa using hl), List.getElem?_eq_none (by simpa using hl)]
    · rw [List.getElem?_set_ne hij]
theorem wipe_wipe (σ : L2.St) (vs : List Nat) : wipe (wipe σ vs) vs = wipe σ vs := by
  apply List.ext_getElem?
  intro j
  rw [wipe_get, wipe_get, wipe_length]
  by_cases hj : j ∈ vs ∧ j < σ.length
  · rw [if_pos hj, if_pos hj]
  · rw [if_neg hj, if_neg hj]
section
variable {K : PySem.W.Frag} {F H : Hp} {ρ : List Addr}
theorem many_len : ∀ {is : List Nat} {as : List A} {env env' : En}, bindMany is as env = some env' → is.length = as.length
  | [], [], _, _, _ => rfl
  | [], _ :: _, _, _, e => by simp [bindMany] at e
  | _ :: _, [], _, _, e => by simp [bindMany] at e
  | i :: is, a :: as, _, _, e => by unfold bindMany at e; rw [List.length_cons, List.length_cons, many_len e]
theorem many_rep : ∀ {is : List Nat} {as : List A} {xs : List V} {env env' : En} {σ : L2.St} {Q : L2.St → Hp → Prop}, bindMany is as env = some env' → EnvOk K F ρ σ env → RepAL K F ρ as xs →
    (∀ σ', EnvOk K F ρ σ' env' → (∀ vs : List Nat, (is.all fun i => vs.contains i) = true → wipe σ' vs = wipe σ vs) → Q σ' H) → gNms is xs σ H Q
  | [], [], xs, env, env', σ, Q, e, E, r, q => by
    unfold bindMany at e
    cases e
    rw [repAL_nil r]
    exact ⟨rfl, q σ E fun _ _ => rfl⟩
  | [], _ :: _, _, _, _, _, _, e, _, _, _ => by simp [bindMany] at e
  | _ :: _, [], _, _, _, _, _, e, _, _, _ => by simp [bindMany] at e
  | i :: is, a :: as, xs, env, env', σ, Q, e, E, r, q => by
    unfold bindMany at e
    obtain ⟨x, xs', rfl, r1, r2⟩ := repAL_cons r
    refine ⟨x, xs', rfl, ?_⟩
    refine many_rep e (E.set r1) r2 fun σ' E' w => q σ' E' fun vs hv => ?_
    rw [List.all_cons, Bool.and_eq_true] at hv
    rw [w vs hv.2, wipe_set (by simpa using hv.1)]
theorem bind_rep {tg : Tg} {a : A} {v : V} {env env' : En} {σ : L2.St} {Q : L2.St → Hp → Prop} (hx : Ex F H) (e : bindT tg a env = some env') (E : EnvOk K F ρ σ env) (r : RepA K F ρ a v)
    (q : ∀ σ', EnvOk K F ρ σ' env' → (∀ vs, tgIn tg vs = true → wipe σ' vs = wipe σ vs) → Q σ' H) : tTg K tg v σ H Q := by
  cases tg with
  | one i =>
    unfold bindT at e
    cases e
    exact q _ (E.set r) fun vs hv => wipe_set (by simpa [tgIn] using hv)
  | many is =>
    unfold bindT at e
    cases a with
    | val d =>
      cases d <;> simp only at e <;> try (cases e; done)
      obtain ⟨p, xs, rfl, hp, l⟩ := (repA_val.mp r).tup_of
      have l' : RepAL K F ρ (‹List D›.map A.val) xs := .of_vals l
      exact ⟨p, xs, rfl, ex_t hx hp, by rw [many_len e]; exact l'.length.symm, many_rep e E l' q⟩
    | tup as =>
      simp only at e
      unfold RepA at r
      obtain ⟨p, xs, rfl, hp, l⟩ := r
      exact ⟨p, xs, rfl, ex_t hx hp, by rw [many_len e]; exact l.length.symm, many_rep e E l q⟩
    | ref n => cases e
end
end Lo
set_option maxHeartbeats 200000
/-! Core H: what each expression asks. -/
namespace Lo
open PySem PySem.Spec PyProof.Rows L2
/-! ### a walk over known things -/
structure Wk (K : PySem.W.Frag) (J : L2.It) (F : Hp) (ρ : List Addr) (items : List A) : Prop where
  walk : Walk J items.length (fun H => Ex F H) (fun i H x H' => ∀ a, items[i]? = some a → ∀ F1 ρ1 h, Ex F F1 → ρ <+: ρ1 → Sim K F1 ρ1 H h → ∃ F2, Ex F1 F2 ∧ Sim K F2 ρ1 H' h ∧ RepA K F2 ρ1 a x)
def tI (K : PySem.W.Frag) (ev : Nat → En → M (List A)) : TI := fun σ H R => ∃ b F ρ env h items h', Sim K F ρ H h ∧ EnvOk K F ρ σ env ∧ ev b env h = .ok items h' ∧
  ∀ J F' ρ' H', Ex F F' → ρ <+: ρ' → Sim K F' ρ' H' h' → Wk K J F' ρ' items → R J H'
section
variable {X : Cx} {K : PySem.W.Frag} {F H : Hp} {ρ : List Addr} {h h' : Hh} {cf : Nat → List A → M A}
theorem repAL_at {as : List A} {xs : List V} (l : RepAL K F ρ as xs) {i : Nat} {a : A} {x : V} (e : as[i]? = some a) (e2 : xs[i]? = some x) : RepA K F ρ a x := by
  obtain ⟨y, q, r⟩ := RepAL.get l e
  rw [e2] at q
  cases q
  exact r
theorem wk_list {p : Addr} {as : List A} {xs : List V} (hp : ∀ H, Ex F H → SqL K H p xs) (l : RepAL K F ρ as xs) : Wk K (Itl K p) F ρ as := by
  refine ⟨?_⟩
  rw [l.length]
  refine (walk_list (K := K) (a := p) (xs := xs)).mono (fun H e => hp H e) fun i H x H' hi e y a ha F1 ρ1 h e1 p1 S => ?_
  obtain ⟨rfl, y⟩ := y
  exact ⟨F1, .refl _, S, (repAL_at l ha y).mono e1 p1⟩
theorem wk_tup {p : Addr} {as : List A} {xs : List V} (hp : ∀ H, Ex F H → SqT K H p xs) (l : RepAL K F ρ as xs) : Wk K (Itt K p) F ρ as := by
  refine ⟨?_⟩
  rw [l.length]
  refine (walk_tup (K := K) (a := p) (xs := xs)).mono (fun H e => hp H e) fun i H x H' hi e y a ha F1 ρ1 h e1 p1 S => ?_
  obtain ⟨rfl, y⟩ := y
  exact ⟨F1, .refl _, S, (repAL_at l ha y).mono e1 p1⟩
theorem rng_len : ∀ (n : Nat) (lo : Int), (rngL lo n).length = n
  | 0, _ => rfl
  | n + 1, lo => by unfold rngL; rw [List.length_cons, rng_len n]
theorem rng_get : ∀ (n : Nat) (lo : Int) (i : Nat), i < n → (rngL lo n)[i]? = some (.val (.int (lo + i)))
  | 0, _, _, h => by omega
  | n + 1, lo, 0, _ => by unfold rngL; simp
  | n + 1, lo, i + 1, h => by
    unfold rngL
    rw [List.getElem?_cons_succ, rng_get n (lo + 1) i (by omega)]
    congr 3
    push_cast
    omega
theorem wk_range {lo : Int} {n : Nat} : Wk K (Itr lo n) F ρ (rngL lo n) := by
  refine ⟨?_⟩
  rw [rng_len]
  refine (walk_range (lo := lo) (n := n)).mono (fun H e => trivial) fun i H x H' hi e y a ha F1 ρ1 h e1 p1 S => ?_
  obtain ⟨rfl, rfl⟩ := y
  rw [rng_get n lo i hi] at ha
  cases ha
  exact ⟨F1, .refl _, S, repA_val.mpr rep_int⟩
theorem wk_str {z : Str} : Wk K (Its z) F ρ (z.cps.toList.map fun c => A.val (.str ⟨#[c]⟩)) := by
  refine ⟨?_⟩
  have hl : (z.cps.toList.map fun c => A.val (.str ⟨#[c]⟩)).length = z.cps.size := by simp
  rw [hl]
  refine (walk_str (z := z)).mono (fun H e => trivial) fun i H x H' hi e y a ha F1 ρ1 h e1 p1 S => ?_
  obtain ⟨rfl, c, hc, rfl⟩ := y
  rw [List.getElem?_map, Array.getElem?_toList, hc] at ha
  cases ha
  exact ⟨F1, .refl _, S, repA_val.mpr rep_str⟩
theorem enum_len : ∀ (as : List A) (i : Int), (enumL i as).length = as.length
  | [], _ => rfl
  | a :: r, i => by unfold enumL; rw [List.length_cons, List.length_cons, enum_len r]
theorem enum_get : ∀ (as : List A) (j : Int) (i : Nat), (enumL j as)[i]? = as[i]?.map fun a => A.tup [.val (.int (j + i)), a]
  | [], _, _ => rfl
  | a :: r, j, 0 => by unfold enumL; simp
  | a :: r, j, i + 1 => by
    unfold enumL
    rw [List.getElem?_cons_succ, List.getElem?_cons_succ, enum_get r (j + 1) i]
    congr 1
    funext a
    congr 4
    push_cast
    omega
theorem pair_rep {T : Addr} {x y : V} {a b : A} {F1 : Hp} {ρ1 : List Addr} {H' : Hp} (S : Sim K F1 ρ1 H h) (hT : H T = none) (r1 : RepA K F1 ρ1 a x) (r2 : RepA K F1 ρ1 b y) (e : H' = upd H T (.tup [x, y])) : ∃ F2, Ex F1 F2 ∧ Sim K F2 ρ1 H' h ∧ RepA K F2 ρ1 (.tup [a, b]) (.ref T) := by
  subst e
  have ex : Ex F1 (upd F1 T (.tup [x, y])) := .new (S.ex.none hT)
  refine ⟨upd F1 T (.tup [x, y]), ex, S.newF hT _, ?_⟩
  unfold RepA
  exact ⟨T, [x, y], rfl, st_of upd_same, .cons (r1.mono ex (List.prefix_refl _)) (.cons (r2.mono ex (List.prefix_refl _)) .nil)⟩
theorem wk_enum {p : Addr} {as : List A} {xs : List V} (hp : ∀ H, Ex F H → SqL K H p xs) (l : RepAL K F ρ as xs) : Wk K (Ite K p) F ρ (enumL 0 as) := by
  refine ⟨?_⟩
  rw [enum_len, l.length]
  refine (walk_enum (K := K) (a := p) (xs := xs)).mono (fun H e => hp H e) fun i H x H' hi e y a ha F1 ρ1 h e1 p1 S => ?_
  obtain ⟨T, n, v, rfl, hT, rfl, en, ev⟩ := y
  cases en
  rw [enum_get] at ha
  cases q : as[i]? with
  | none => rw [q] at ha; cases ha
  | some c =>
    rw [q] at ha
    cases ha
    refine pair_rep S hT (repA_val.mpr ?_) ((repAL_at l q ev).mono e1 p1) rfl
    rw [Int.zero_add]
    exact rep_int
theorem zip_len : ∀ (as bs : List A), (zipL as bs).length = min as.length bs.length
  | [], _ => by simp [zipL]
  | _ :: _, [] => by simp [zipL]
  | a :: r, b :: q => by unfold zipL; rw [List.length_cons, List.length_cons, List.length_cons, zip_len r q]; omega
theorem zip_get : ∀ (as bs : List A) (i : Nat), (zipL as bs)[i]? = as[i]?.bind fun a => bs[i]?.map fun b => A.tup [a, b]
  | [], _, _ => by simp [zipL]
  | _ :: _, [], _ => by simp [zipL]
  | a :: r, b :: q, 0 => by simp [zipL]
  | a :: r, b :: q, i + 1 => by unfold zipL; simpa using zip_get r q i
theorem wk_pair {J : L2.It} {as bs : List A} {xs ys : List V} {G : Hp → Prop} (la : RepAL K F ρ as xs) (lb : RepAL K F ρ bs ys) (w : ∀ n, n = min xs.length ys.length → Walk J n G (YPair (fun i => xs[i]?) (fun i => ys[i]?))) (hG : ∀ H, Ex F H → G H) : Wk K J F ρ (zipL as bs) := by
  refine ⟨?_⟩
  rw [zip_len]
  refine (w _ (by rw [la.length, lb.length])).mono (fun H e => hG H e) fun i H x H' hi e y a ha F1 ρ1 h e1 p1 S => ?_
  obtain ⟨T, u, v, rfl, hT, rfl, eu, ev⟩ := y
  rw [zip_get] at ha
  cases q : as[i]? with
  | none => rw [q] at ha; cases ha
  | some c =>
    rw [q] at ha
    cases q2 : bs[i]? with
    | none => simp [q2] at ha
    | some c2 =>
      simp [q2] at ha
      subst ha
      exact pair_rep S hT ((repAL_at la q eu).mono e1 p1) ((repAL_at lb q2 ev).mono e1 p1) rfl
/-! ### what the pieces ask -/
variable {σ : L2.St} {Q : VK}
theorem t_var {i : Nat} (q : tE K (fun b env => evE cf b (.var i) env) σ H Q) : tVar i σ H Q := by
  obtain ⟨b, F, ρ, env, h, a, h', S, E, e, q⟩ := q
  obtain ⟨a', ha, e⟩ : ∃ a', env[i]? = some (some a') ∧ M.pure a' h = .ok a h' := by
    dsimp only at e
    unfold evE at e
    cases z : env[i]? with
    | none => rw [z] at e; cases e
    | some o =>
      rw [z] at e
      cases o with
      | none => cases e
      | some a' => exact ⟨a', rfl, e⟩
  obtain ⟨rfl, rfl⟩ := pure_ok e
  obtain ⟨v, hv, r⟩ := E.at_ i _ ha
  exact ⟨v, hv, q.here S r⟩
theorem t_cst {d : D} {v : V} (hr : ∀ F, RepD K F d v) (q : tE K (fun b env => evE cf b (.cst d) env) σ H Q) : tC v σ H Q := by
  obtain ⟨b, F, ρ, env, h, a, h', S, E, e, q⟩ := q
  unfold evE at e
  obtain ⟨rfl, rfl⟩ := pure_ok e
  exact q.val S (hr F)
theorem t_op {m : Bool} {o : Op} {x y : E} (q : tE K (fun b env => evE cf b (.op m o x y) env) σ H Q) : tOp (rOp K o) (tE K fun b env => evE cf b x env) (tE K fun b env => evE cf b y env) σ H Q := by
  obtain ⟨b, F, ρ, env, h, a, h', S, E, e, q⟩ := q
  unfold evE at e
  obtain ⟨x', h1, e1, e⟩ := bind_ok e
  obtain ⟨y', h2, e2, e⟩ := bind_ok e
  obtain ⟨d, _, e3, e⟩ := bind_ok e
  replace e3 := sf_ok e3
  obtain ⟨e3, rfl⟩ := e3
  obtain ⟨d2, _, e4, e⟩ := bind_ok e
  replace e4 := sf_ok e4
  obtain ⟨e4, rfl⟩ := e4
  obtain ⟨z, _, e5, e⟩ := bind_ok e
  replace e5 := lift_ok e5
  obtain ⟨e5, rfl⟩ := e5
  refine ⟨b, F, ρ, env, h, x', h1, S, E, e1, fun v F1 ρ1 H1 x1 p1 S1 r1 => ⟨b, F1, ρ1, env, h1, y', h2, S1, E.mono x1 p1, e2, fun w F2 ρ2 H2 x2 p2 S2 r2 => ?_⟩⟩
  exact ⟨F2, ρ2, h2, m, d, d2, z, a, h', S2, sf_rep S2 e3 (r1.mono x2 p2), sf_rep S2 e4 r2, e5, e, q.later (x1.trans x2) (p1.trans p2)⟩
def rNeg : V → Hp → VK → Prop := rU fun i => .int (-i)
theorem t_neg {x : E} (q : tE K (fun b env => evE cf b (.neg x) env) σ H Q) : tUn (rU fun i => .int (-i)) (tE K fun b env => evE cf b x env) σ H Q := by
  obtain ⟨b, F, ρ, env, h, a, h', S, E, e, q⟩ := q
  unfold evE at e
  obtain ⟨x', h1, e1, e⟩ := bind_ok e
  obtain ⟨d, _, e3, e⟩ := bind_ok e
  replace e3 := sf_ok e3
  obtain ⟨e3, rfl⟩ := e3
  split at e
  · obtain ⟨rfl, rfl⟩ := pure_ok e
    refine ⟨b, F, ρ, env, h, x', h1, S, E, e1, fun v F1 ρ1 H1 x1 p1 S1 r1 => ?_⟩
    have z := sf_rep S1 e3 r1
    exact ⟨_, z, (q.later x1 p1).val S1 rep_int⟩
  · cases e
theorem t_cmp {o : Cp} {x y : E} (q : tE K (fun b env => evE cf b (.cmp o x y) env) σ H Q) : tOp (rCmp K o) (tE K fun b env => evE cf b x env) (tE K fun b env => evE cf b y env) σ H Q := by
  obtain ⟨b, F, ρ, env, h, a, h', S, E, e, q⟩ := q
  unfold evE at e
  obtain ⟨x', h1, e1, e⟩ := bind_ok e
  obtain ⟨y', h2, e2, e⟩ := bind_ok e
  obtain ⟨d, _, e3, e⟩ := bind_ok e
  replace e3 := sn_ok e3
  obtain ⟨e3, rfl⟩ := e3
  obtain ⟨d2, _, e4, e⟩ := bind_ok e
  replace e4 := sn_ok e4
  obtain ⟨e4, rfl⟩ := e4
  obtain ⟨z, _, e5, e⟩ := bind_ok e
  replace e5 := lift_ok e5
  obtain ⟨e5, rfl⟩ := e5
  obtain ⟨rfl, rfl⟩ := pure_ok e
  refine ⟨b, F, ρ, env, h, x', h1, S, E, e1, fun v F1 ρ1 H1 x1 p1 S1 r1 => ⟨b, F1, ρ1, env, h1, y', _, S1, E.mono x1 p1, e2, fun w F2 ρ2 H2 x2 p2 S2 r2 => ?_⟩⟩
  exact ⟨d, d2, z, snap_rep S2 3 _ _ _ e3 (r1.mono x2 p2), snap_rep S2 3 _ _ _ e4 r2, e5, (q.later (x1.trans x2) (p1.trans p2)).val S2 rep_bl⟩
theorem t_chain {o o2 : Cp} {x y z : E} (q : tE K (fun b env => evE cf b (.chain o o2 x y z) env) σ H Q) : tChain (rCmp K o) (rCmp K o2) (tE K fun b env => evE cf b x env) (tE K fun b env => evE cf b y env) (tE K fun b env => evE cf b z env) σ H Q := by
  obtain ⟨b, F, ρ, env, h, a, h', S, E, e, q⟩ := q
  unfold evE at e
  obtain ⟨x', h1, e1, e⟩ := bind_ok e
  obtain ⟨y', h2, e2, e⟩ := bind_ok e
  obtain ⟨d, _, e3, e⟩ := bind_ok e
  replace e3 := sn_ok e3
  obtain ⟨e3, rfl⟩ := e3
  obtain ⟨d2, _, e4, e⟩ := bind_ok e
  replace e4 := sn_ok e4
  obtain ⟨e4, rfl⟩ := e4
  obtain ⟨t, _, e5, e⟩ := bind_ok e
  replace e5 := lift_ok e5
  obtain ⟨e5, rfl⟩ := e5
  refine ⟨b, F, ρ, env, h, x', h1, S, E, e1, fun v F1 ρ1 H1 x1 p1 S1 r1 => ⟨b, F1, ρ1, env, h1, y', _, S1, E.mono x1 p1, e2, fun w F2 ρ2 H2 x2 p2 S2 r2 => ?_⟩⟩
  refine ⟨d, d2, t, snap_rep S2 3 _ _ _ e3 (r1.mono x2 p2), snap_rep S2 3 _ _ _ e4 r2, e5, t, rfl, ?_⟩
  cases t with
  | false =>
    obtain ⟨rfl, rfl⟩ := pure_ok e
    exact (q.later (x1.trans x2) (p1.trans p2)).val S2 rep_bl
  | true =>
    obtain ⟨z', h3, e6, e⟩ := bind_ok e
    obtain ⟨d, _, e3, e⟩ := bind_ok e
    replace e3 := sn_ok e3
    obtain ⟨e3, rfl⟩ := e3
    obtain ⟨d2, _, e4, e⟩ := bind_ok e
    replace e4 := sn_ok e4
    obtain ⟨e4, rfl⟩ := e4
    obtain ⟨t, _, e5, e⟩ := bind_ok e
    replace e5 := lift_ok e5
    obtain ⟨e5, rfl⟩ := e5
    obtain ⟨rfl, rfl⟩ := pure_ok e
    refine ⟨b, F2, ρ2, env, _, z', _, S2, (E.mono x1 p1).mono x2 p2, e6, fun u F3 ρ3 H3 x3 p3 S3 r3 => ?_⟩
    exact ⟨d, d2, t, snap_rep S3 3 _ _ _ e3 (r2.mono x3 p3), snap_rep S3 3 _ _ _ e4 r3, e5, (q.later ((x1.trans x2).trans x3) ((p1.trans p2).trans p3)).val S3 rep_bl⟩
theorem t_and {x y : E} (q : tE K (fun b env => evE cf b (.and x y) env) σ H Q) : tAndT K (tE K fun b env => evE cf b x env) (tE K fun b env => evE cf b y env) σ H Q := by
  obtain ⟨b, F, ρ, env, h, a, h', S, E, e, q⟩ := q
  unfold evE at e
  obtain ⟨x', h1, e1, e⟩ := bind_ok e
  obtain ⟨t, h2, e2, e⟩ := bind_ok e
  refine ⟨b, F, ρ, env, h, x', h1, S, E, e1, fun v F1 ρ1 H1 x1 p1 S1 r1 => ?_⟩
  obtain ⟨rfl, tv⟩ := truA_rep S1 e2 r1
  refine ⟨t, tv, ?_⟩
  cases t with
  | true => exact ⟨b, F1, ρ1, env, h1, a, h', S1, E.mono x1 p1, e, q.later x1 p1⟩
  | false =>
    obtain ⟨rfl, rfl⟩ := pure_ok e
    exact (q.later x1 p1).here S1 r1
theorem t_or {x y : E} (q : tE K (fun b env => evE cf b (.or x y) env) σ H Q) : tOrT K (tE K fun b env => evE cf b x env) (tE K fun b env => evE cf b y env) σ H Q := by
  obtain ⟨b, F, ρ, env, h, a, h', S, E, e, q⟩ := q
  unfold evE at e
  obtain ⟨x', h1, e1, e⟩ := bind_ok e
  obtain ⟨t, h2, e2, e⟩ := bind_ok e
  refine ⟨b, F, ρ, env, h, x', h1, S, E, e1, fun v F1 ρ1 H1 x1 p1 S1 r1 => ?_⟩
  obtain ⟨rfl, tv⟩ := truA_rep S1 e2 r1
  refine ⟨t, tv, ?_⟩
  cases t with
  | false => exact ⟨b, F1, ρ1, env, h1, a, h', S1, E.mono x1 p1, e, q.later x1 p1⟩
  | true =>
    obtain ⟨rfl, rfl⟩ := pure_ok e
    exact (q.later x1 p1).here S1 r1
theorem t_not {x : E} (q : tE K (fun b env => evE cf b (.not x) env) σ H Q) : tNotT K (tE K fun b env => evE cf b x env) σ H Q := by
  obtain ⟨b, F, ρ, env, h, a, h', S, E, e, q⟩ := q
  unfold evE at e
  obtain ⟨x', h1, e1, e⟩ := bind_ok e
  obtain ⟨t, h2, e2, e⟩ := bind_ok e
  obtain ⟨rfl, rfl⟩ := pure_ok e
  refine ⟨b, F, ρ, env, h, x', h1, S, E, e1, fun v F1 ρ1 H1 x1 p1 S1 r1 => ?_⟩
  obtain ⟨rfl, tv⟩ := truA_rep S1 e2 r1
  exact ⟨t, tv, (q.later x1 p1).val S1 rep_bl⟩
def evT (cf : Nat → List A → M A) (x : E) : Nat → En → M Bool := fun b env => M.bind (evE cf b x env) truA
theorem t_ite {c x y : E} (q : tE K (fun b env => evE cf b (.ite c x y) env) σ H Q) : tIf (tB1 K (evT cf c)) (tE K fun b env => evE cf b x env) (tE K fun b env => evE cf b y env) σ H Q := by
  obtain ⟨b, F, ρ, env, h, a, h', S, E, e, q⟩ := q
  unfold evE at e
  obtain ⟨x', h1, e1, e⟩ := bind_ok e
  obtain ⟨t, h2, e2, e⟩ := bind_ok e
  refine ⟨b, F, ρ, env, h, t, h2, S, E, by unfold evT M.bind; rw [e1]; exact e2, fun F1 ρ1 H1 x1 p1 S1 => ?_⟩
  cases t with
  | true => exact ⟨b, F1, ρ1, env, h2, a, h', S1, E.mono x1 p1, e, q.later x1 p1⟩
  | false => exact ⟨b, F1, ρ1, env, h2, a, h', S1, E.mono x1 p1, e, q.later x1 p1⟩
theorem t_idx {x y : E} (q : tE K (fun b env => evE cf b (.idx x y) env) σ H Q) : tOp (rIdx K) (tE K fun b env => evE cf b x env) (tE K fun b env => evE cf b y env) σ H Q := by
  obtain ⟨b, F, ρ, env, h, a, h', S, E, e, q⟩ := q
  unfold evE at e
  obtain ⟨x', h1, e1, e⟩ := bind_ok e
  obtain ⟨y', h2, e2, e⟩ := bind_ok e
  obtain ⟨d, _, e3, e⟩ := bind_ok e
  replace e3 := sf_ok e3
  obtain ⟨e3, rfl⟩ := e3
  refine ⟨b, F, ρ, env, h, x', h1, S, E, e1, fun v F1 ρ1 H1 x1 p1 S1 r1 => ⟨b, F1, ρ1, env, h1, y', _, S1, E.mono x1 p1, e2, fun w F2 ρ2 H2 x2 p2 S2 r2 => ?_⟩⟩
  exact ⟨F2, ρ2, _, x', d, a, h', S2, r1.mono x2 p2, sf_rep S2 e3 r2, e, q.later (x1.trans x2) (p1.trans p2)⟩
theorem part_int {d : D} {i : Int} {v : V} (e : partD d = some i) (r : RepS K F H d v) : v = .int i := by
  cases d <;> simp only [partD] at e <;> cases e
  exact r
theorem t_slL {m : Bool} {x l : E} (q : tE K (fun b env => evE cf b (.slL m x l) env) σ H Q) : tSl (rSlc K) (tE K fun b env => evE cf b x env) (tPart (tE K fun b env => evE cf b l env)) tNoPart σ H Q := by
  obtain ⟨b, F, ρ, env, h, a, h', S, E, e, q⟩ := q
  unfold evE at e
  obtain ⟨x', h1, e1, e⟩ := bind_ok e
  obtain ⟨y', h2, e2, e⟩ := bind_ok e
  obtain ⟨d, _, e3, e⟩ := bind_ok e
  replace e3 := sf_ok e3
  obtain ⟨e3, rfl⟩ := e3
  obtain ⟨i, _, e4, e⟩ := bind_ok e
  replace e4 := lift_ok e4
  obtain ⟨e4, rfl⟩ := e4
  obtain ⟨d2, _, e5, e⟩ := bind_ok e
  replace e5 := sf_ok e5
  obtain ⟨e5, rfl⟩ := e5
  obtain ⟨z, _, e6, e⟩ := bind_ok e
  replace e6 := lift_ok e6
  obtain ⟨e6, rfl⟩ := e6
  refine ⟨b, F, ρ, env, h, x', h1, S, E, e1, fun v F1 ρ1 H1 x1 p1 S1 r1 => ⟨b, F1, ρ1, env, h1, y', h2, S1, E.mono x1 p1, e2, fun w F2 ρ2 H2 x2 p2 S2 r2 => ?_⟩⟩
  exact ⟨i, part_int e4 (sf_rep S2 e3 r2), F2, ρ2, h2, m, d2, z, a, h', S2, sf_rep S2 e5 (r1.mono x2 p2), e6, e, q.later (x1.trans x2) (p1.trans p2)⟩
theorem t_slU {m : Bool} {x u : E} (q : tE K (fun b env => evE cf b (.slU m x u) env) σ H Q) : tSl (rSlc K) (tE K fun b env => evE cf b x env) tNoPart (tPart (tE K fun b env => evE cf b u env)) σ H Q := by
  obtain ⟨b, F, ρ, env, h, a, h', S, E, e, q⟩ := q
  unfold evE at e
  obtain ⟨x', h1, e1, e⟩ := bind_ok e
  obtain ⟨y', h2, e2, e⟩ := bind_ok e
  obtain ⟨d, _, e3, e⟩ := bind_ok e
  replace e3 := sf_ok e3
  obtain ⟨e3, rfl⟩ := e3
  obtain ⟨i, _, e4, e⟩ := bind_ok e
  replace e4 := lift_ok e4
  obtain ⟨e4, rfl⟩ := e4
  obtain ⟨d2, _, e5, e⟩ := bind_ok e
  replace e5 := sf_ok e5
  obtain ⟨e5, rfl⟩ := e5
  obtain ⟨z, _, e6, e⟩ := bind_ok e
  replace e6 := lift_ok e6
  obtain ⟨e6, rfl⟩ := e6
  refine ⟨b, F, ρ, env, h, x', h1, S, E, e1, fun v F1 ρ1 H1 x1 p1 S1 r1 => ⟨b, F1, ρ1, env, h1, y', h2, S1, E.mono x1 p1, e2, fun w F2 ρ2 H2 x2 p2 S2 r2 => ?_⟩⟩
  exact ⟨i, part_int e4 (sf_rep S2 e3 r2), F2, ρ2, h2, m, d2, z, a, h', S2, sf_rep S2 e5 (r1.mono x2 p2), e6, e, q.later (x1.trans x2) (p1.trans p2)⟩
theorem t_slB {m : Bool} {x l u : E} (q : tE K (fun b env => evE cf b (.slB m x l u) env) σ H Q) : tSl (rSlc K) (tE K fun b env => evE cf b x env) (tPart (tE K fun b env => evE cf b l env)) (tPart (tE K fun b env => evE cf b u env)) σ H Q := by
  obtain ⟨b, F, ρ, env, h, a, h', S, E, e, q⟩ := q
  unfold evE at e
  obtain ⟨x', h1, e1, e⟩ := bind_ok e
  obtain ⟨y', h2, e2, e⟩ := bind_ok e
  obtain ⟨d, _, e3, e⟩ := bind_ok e
  replace e3 := sf_ok e3
  obtain ⟨e3, rfl⟩ := e3
  obtain ⟨i, _, e4, e⟩ := bind_ok e
  replace e4 := lift_ok e4
  obtain ⟨e4, rfl⟩ := e4
  obtain ⟨u', h3, e7, e⟩ := bind_ok e
  obtain ⟨d3, _, e8, e⟩ := bind_ok e
  replace e8 := sf_ok e8
  obtain ⟨e8, rfl⟩ := e8
  obtain ⟨j, _, e9, e⟩ := bind_ok e
  replace e9 := lift_ok e9
  obtain ⟨e9, rfl⟩ := e9
  obtain ⟨d2, _, e5, e⟩ := bind_ok e
  replace e5 := sf_ok e5
  obtain ⟨e5, rfl⟩ := e5
  obtain ⟨z, _, e6, e⟩ := bind_ok e
  replace e6 := lift_ok e6
  obtain ⟨e6, rfl⟩ := e6
  refine ⟨b, F, ρ, env, h, x', h1, S, E, e1, fun v F1 ρ1 H1 x1 p1 S1 r1 => ⟨b, F1, ρ1, env, h1, y', h2, S1, E.mono x1 p1, e2, fun w F2 ρ2 H2 x2 p2 S2 r2 => ?_⟩⟩
  refine ⟨i, part_int e4 (sf_rep S2 e3 r2), b, F2, ρ2, env, h2, u', h3, S2, (E.mono x1 p1).mono x2 p2, e7, fun w2 F3 ρ3 H3 x3 p3 S3 r3 => ?_⟩
  exact ⟨j, part_int e9 (sf_rep S3 e8 r3), F3, ρ3, h3, m, d2, z, a, h', S3, sf_rep S3 e5 ((r1.mono x2 p2).mono x3 p3), e6, e, q.later ((x1.trans x2).trans x3) ((p1.trans p2).trans p3)⟩
theorem t_rev {m : Bool} {x : E} (q : tE K (fun b env => evE cf b (.rev m x) env) σ H Q) : tRevL K (tE K fun b env => evE cf b x env) σ H Q := by
  obtain ⟨b, F, ρ, env, h, a, h', S, E, e, q⟩ := q
  unfold evE at e
  obtain ⟨x', h1, e1, e⟩ := bind_ok e
  obtain ⟨d, _, e3, e⟩ := bind_ok e
  replace e3 := sf_ok e3
  obtain ⟨e3, rfl⟩ := e3
  refine ⟨b, F, ρ, env, h, x', h1, S, E, e1, fun v F1 ρ1 H1 x1 p1 S1 r1 => ?_⟩
  split at e
  · obtain ⟨p, xs, rfl, hp, l⟩ := sf_rep S1 e3 r1
    exact ⟨p, xs, rfl, sl_of hp, new_lst S1 l.reverse e (q.later x1 p1)⟩
  · cases e
/-! ### lists of expressions -/
theorem t_nil {Q : List V → Hp → Prop} (q : tL K (fun b env => evEs cf b .nil env) σ H Q) : tNil σ H Q := by
  obtain ⟨b, F, ρ, env, h, a, h', S, E, e, q⟩ := q
  unfold evEs at e
  obtain ⟨rfl, rfl⟩ := pure_ok e
  exact q [] F ρ H (.refl _) (List.prefix_refl _) S .nil
theorem t_cons {x : E} {xs : Es} {Q : List V → Hp → Prop} (q : tL K (fun b env => evEs cf b (.cons x xs) env) σ H Q) : tCons (tE K fun b env => evE cf b x env) (tL K fun b env => evEs cf b xs env) σ H Q := by
  obtain ⟨b, F, ρ, env, h, a, h', S, E, e, q⟩ := q
  unfold evEs at e
  obtain ⟨x', h1, e1, e⟩ := bind_ok e
  obtain ⟨y', h2, e2, e⟩ := bind_ok e
  obtain ⟨rfl, rfl⟩ := pure_ok e
  refine ⟨b, F, ρ, env, h, x', h1, S, E, e1, fun v F1 ρ1 H1 x1 p1 S1 r1 => ⟨b, F1, ρ1, env, h1, y', _, S1, E.mono x1 p1, e2, fun w F2 ρ2 H2 x2 p2 S2 r2 => ?_⟩⟩
  exact q _ F2 ρ2 H2 (x1.trans x2) (p1.trans p2) S2 (.cons (r1.mono x2 p2) r2)
theorem t_call {tab : List Fn} {k f : Nat} {es : Es} (q : tE K (fun b env => evE (callF tab k) b (.call f es) env) σ H Q) : tCall (spF K tab k f) [] E0 (tL K fun b env => evEs (callF tab k) b es env) σ H Q := by
  obtain ⟨b, F, ρ, env, h, a, h', S, E, e, q⟩ := q
  unfold evE at e
  obtain ⟨x', h1, e1, e⟩ := bind_ok e
  refine ⟨b, F, ρ, env, h, x', h1, S, E, e1, fun v F1 ρ1 H1 x1 p1 S1 r1 => ?_⟩
  exact ⟨F1, ρ1, x', h1, a, h', S1, by rw [List.append_nil]; exact r1, e, q.later x1 p1⟩
theorem t_tup {keep : Bool} {es : Es} (hl : ∀ b env h as h', evEs cf b es env h = .ok as h' → as.length ≤ sizeLine) (q : tE K (fun b env => evE cf b (.tup keep es) env) σ H Q) : tTup (tL K fun b env => evEs cf b es env) σ H Q := by
  obtain ⟨b, F, ρ, env, h, a, h', S, E, e, q⟩ := q
  unfold evE at e
  obtain ⟨x', h1, e1, e⟩ := bind_ok e
  refine ⟨b, F, ρ, env, h, x', h1, S, E, e1, fun vs F1 ρ1 H1 x1 p1 S1 r1 => ⟨by rw [← r1.length]; exact hl _ _ _ _ _ e1, fun p hp => ?_⟩⟩
  cases keep with
  | true =>
    obtain ⟨rfl, rfl⟩ := pure_ok e
    have ex : Ex F1 (upd F1 p (.tup vs)) := .new (S1.ex.none hp)
    refine q _ _ ρ1 _ (x1.trans ex) p1 (S1.newF hp _) ?_
    unfold RepA
    exact ⟨p, vs, rfl, st_of upd_same, r1.mono ex (List.prefix_refl _)⟩
  | false =>
    obtain ⟨ds, h2, e2, e⟩ := bind_ok e
    obtain ⟨rfl, rfl⟩ := pure_ok e
    obtain ⟨F2, x2, S2, l⟩ := frzL_rep S1 r1 e2
    have ex : Ex F2 (upd F2 p (.tup vs)) := .new (S2.ex.none hp)
    refine q _ _ ρ1 _ ((x1.trans x2).trans ex) p1 (S2.newF hp _) (repA_val.mpr ?_)
    unfold RepD
    exact ⟨p, vs, rfl, st_of upd_same, l.mono ex⟩
theorem t_lst {m : Bool} {es : Es} (hl : ∀ b env h as h', evEs cf b es env h = .ok as h' → as.length ≤ sizeLine) (q : tE K (fun b env => evE cf b (.lst m es) env) σ H Q) : tLst (tL K fun b env => evEs cf b es env) σ H Q := by
  obtain ⟨b, F, ρ, env, h, a, h', S, E, e, q⟩ := q
  unfold evE at e
  obtain ⟨x', h1, e1, e⟩ := bind_ok e
  refine ⟨b, F, ρ, env, h, x', h1, S, E, e1, fun vs F1 ρ1 H1 x1 p1 S1 r1 => ⟨by rw [← r1.length]; exact hl _ _ _ _ _ e1, fun p hp => ?_⟩⟩
  cases m with
  | true =>
    obtain ⟨n, h2, e2, e⟩ := bind_ok e
    obtain ⟨rfl, rfl⟩ := pure_ok e
    cases e2
    have S2 : Sim K F1 (ρ1 ++ [p]) (upd H1 p (.lst vs)) (h1 ++ [C.lst x']) := S1.newC hp ⟨vs, upd_same, r1⟩
    refine q _ F1 (ρ1 ++ [p]) _ x1 (p1.trans (List.prefix_append _ _)) S2 ?_
    unfold RepA
    exact ⟨p, by rw [← S1.len]; simp, rfl⟩
  | false =>
    obtain ⟨ds, h2, e2, e⟩ := bind_ok e
    obtain ⟨rfl, rfl⟩ := pure_ok e
    obtain ⟨F2, x2, S2, l⟩ := frzL_rep S1 r1 e2
    have ex : Ex F2 (upd F2 p (.lst vs)) := .new (S2.ex.none hp)
    refine q _ _ ρ1 _ ((x1.trans x2).trans ex) p1 (S2.newF hp _) (repA_val.mpr ?_)
    unfold RepD
    exact ⟨p, vs, rfl, upd_same, l.mono ex⟩
/-! ### built-in calls -/
theorem t_len {m : Bool} {x : E} (q : tE K (fun b env => evE cf b (.bl1 .len m x) env) σ H Q) : tCB (rLn K) (tCons (tE K fun b env => evE cf b x env) tNil) σ H Q := by
  obtain ⟨b, F, ρ, env, h, a, h', S, E, e, q⟩ := q
  unfold evE at e
  obtain ⟨x', h1, e1, e⟩ := bind_ok e
  obtain ⟨n, h2, e2, e⟩ := bind_ok e
  obtain ⟨rfl, rfl⟩ := pure_ok e
  exact ⟨b, F, ρ, env, h, x', h1, S, E, e1, fun v F1 ρ1 H1 x1 p1 S1 r1 => ⟨v, F1, ρ1, h1, x', n, _, rfl, S1, r1, e2, q.later x1 p1⟩⟩
theorem t_bl1 {o : Bl} {m : Bool} {x : E} (ho : o ≠ .len) (q : tE K (fun b env => evE cf b (.bl1 o m x) env) σ H Q) : tCB (rB1 K o) (tCons (tE K fun b env => evE cf b x env) tNil) σ H Q := by
  obtain ⟨b, F, ρ, env, h, a, h', S, E, e, q⟩ := q
  have e : M.bind (evE cf b x env) (fun x => M.bind (sf x) fun d => M.bind (M.lift (blD o d)) (mkD m)) h = .ok a h' := by
    cases o <;> first | exact absurd rfl ho | (unfold evE at e; exact e)
  obtain ⟨x', h1, e1, e⟩ := bind_ok e
  obtain ⟨d, _, e3, e⟩ := bind_ok e
  replace e3 := sf_ok e3
  obtain ⟨e3, rfl⟩ := e3
  obtain ⟨z, _, e6, e⟩ := bind_ok e
  replace e6 := lift_ok e6
  obtain ⟨e6, rfl⟩ := e6
  exact ⟨b, F, ρ, env, h, x', h1, S, E, e1, fun v F1 ρ1 H1 x1 p1 S1 r1 => ⟨v, F1, ρ1, h1, m, d, z, a, h', rfl, S1, sf_rep S1 e3 r1, e6, e, q.later x1 p1⟩⟩
theorem t_bl2 {o : B2} {x y : E} (q : tE K (fun b env => evE cf b (.bl2 o x y) env) σ H Q) : tCB (rB2 K o) (tCons (tE K fun b env => evE cf b x env) (tCons (tE K fun b env => evE cf b y env) tNil)) σ H Q := by
  obtain ⟨b, F, ρ, env, h, a, h', S, E, e, q⟩ := q
  unfold evE at e
  obtain ⟨x', h1, e1, e⟩ := bind_ok e
  obtain ⟨y', h2, e2, e⟩ := bind_ok e
  obtain ⟨d, _, e3, e⟩ := bind_ok e
  replace e3 := sf_ok e3
  obtain ⟨e3, rfl⟩ := e3
  obtain ⟨d2, _, e4, e⟩ := bind_ok e
  replace e4 := sf_ok e4
  obtain ⟨e4, rfl⟩ := e4
  obtain ⟨z, _, e5, e⟩ := bind_ok e
  replace e5 := lift_ok e5
  obtain ⟨e5, rfl⟩ := e5
  obtain ⟨rfl, rfl⟩ := pure_ok e
  refine ⟨b, F, ρ, env, h, x', h1, S, E, e1, fun v F1 ρ1 H1 x1 p1 S1 r1 => ⟨b, F1, ρ1, env, h1, y', _, S1, E.mono x1 p1, e2, fun w F2 ρ2 H2 x2 p2 S2 r2 => ?_⟩⟩
  exact ⟨v, w, F2, ρ2, _, d, d2, z, rfl, S2, sf_rep S2 e3 (r1.mono x2 p2), sf_rep S2 e4 r2, e5, q.later (x1.trans x2) (p1.trans p2)⟩
theorem t_isi {t : Ty} {x : E} (q : tE K (fun b env => evE cf b (.isi x false [t]) env) σ H Q) : tCB (rIs K t) (tCons (tE K fun b env => evE cf b x env) (tCons (tC (.ty (tyN t))) tNil)) σ H Q := by
  obtain ⟨b, F, ρ, env, h, a, h', S, E, e, q⟩ := q
  unfold evE at e
  obtain ⟨x', h1, e1, e⟩ := bind_ok e
  obtain ⟨d, h2, e2, e⟩ := bind_ok e
  obtain ⟨rfl, rfl⟩ := pure_ok e
  refine ⟨b, F, ρ, env, h, x', h1, S, E, e1, fun v F1 ρ1 H1 x1 p1 S1 r1 => ⟨v, F1, ρ1, h1, x', d, _, rfl, S1, r1, e2, ?_⟩⟩
  have q2 := q.later x1 p1
  rw [List.any_cons, List.any_nil, Bool.or_false] at q2
  exact q2
end
end Lo
set_option maxHeartbeats 200000
/-! Core I: comprehensions, what is walked. -/
namespace Lo
open PySem PySem.Spec PyProof.Rows L2
theorem pre_len_get {ρ ρ' : List Addr} {D : Addr} (p : (ρ ++ [D]) <+: ρ') : ρ'[ρ.length]? = some D := by
  obtain ⟨t, rfl⟩ := p
  simp
theorem pre_take {ρ ρ' : List Addr} {D : Addr} (p : (ρ ++ [D]) <+: ρ') : ρ'.take ρ.length = ρ := by
  obtain ⟨t, rfl⟩ := p
  rw [List.append_assoc, List.take_left]
section
variable {X : Cx} {K : PySem.W.Frag} {F H : Hp} {ρ : List Addr} {h h' : Hh} {cf : Nat → List A → M A}
/-- one turn of a comprehension -/
def TurnOk (K : PySem.W.Frag) (g : TG) (tt : TT) (te : TE) (σ : L2.St) (vs : List Nat) (env : En) (n : Nat) (f : A → M Unit) : Prop :=
  ∀ (a : A) (F : Hp) (ρ : List Addr) (H : Hp) (hh hh2 : Hh) (v : V) (D : Addr) (P : Hp → Prop), Sim K F ρ H hh → EnvOk K F ρ (wipe σ vs) env → RepA K F ρ a v → f a hh = .ok () hh2 → ρ[n]? = some D →
    (∀ F' ρ' H', Ex F F' → ρ <+: ρ' → Sim K F' ρ' H' hh2 → P H') →
    g v (wipe σ vs) H fun σ2 H2 => wipe σ2 vs = wipe σ vs ∧ tt σ2 H2 fun b H3 => if b = true then te σ2 H3 fun y H4 => ∃ acc, H4 D = some (.lst acc) ∧ acc.length < sizeLine ∧ P (upd H4 D (.lst (acc ++ [y]))) else P H3
/-- a push into the cell n -/
theorem push_rep {n : Nat} {y : A} {v : V} {hh hh2 : Hh} {D : Addr} (S : Sim K F ρ H hh) (r : RepA K F ρ y v) (e : pushC n y hh = .ok () hh2) (hD : ρ[n]? = some D) : ∃ acc, H D = some (.lst acc) ∧ acc.length < sizeLine ∧ Sim K F ρ (upd H D (.lst (acc ++ [v]))) hh2 := by
  unfold pushC at e
  obtain ⟨c, e1, rc, _, _⟩ := S.at_ hD
  rw [e1] at e
  cases c with
  | dct ks as => cases e
  | dead => cases e
  | lst as =>
    obtain ⟨xs, hx, l⟩ := rc
    simp only at e
    split at e
    · rename_i hl
      cases e
      refine ⟨xs, hx, by rw [← l.length]; exact of_decide_eq_true hl, S.put e1 hD (by intro z; cases z) ⟨xs ++ [v], upd_same, l.append (.cons r .nil)⟩⟩
    · cases e
theorem turn_lc {σ : L2.St} {own : List Nat} {env : En} {n b : Nat} {body : E} {tg : Tg} (ht : tgIn tg own = true) :
    TurnOk K (tTg K tg) tYes (tE K fun b env => evE cf b body env) σ own env n (fun a => M.bind (M.lift (bindT tg a env)) fun env' => M.bind (evE cf b body env') fun y => pushC n y) := by
  intro a F ρ H hh hh2 v D P S E r e hD hP
  obtain ⟨env', _, e1, e⟩ := bind_ok e
  replace e1 := lift_ok e1
  obtain ⟨e1, rfl⟩ := e1
  obtain ⟨y, h1, e2, e⟩ := bind_ok e
  refine bind_rep S.ex e1 E r fun σ' E' w => ⟨(w own ht).trans (wipe_wipe σ own), ?_⟩
  simp only [tYes, if_true]
  refine ⟨b, F, ρ, env', hh, y, h1, S, E', e2, fun v1 F1 ρ1 H1 x1 p1 S1 r1 => ?_⟩
  obtain ⟨acc, a1, a2, S2⟩ := push_rep S1 r1 e (pre_get p1 hD)
  exact ⟨acc, a1, a2, hP F1 ρ1 _ x1 p1 S2⟩
theorem turn_lcI {σ : L2.St} {own : List Nat} {env : En} {n b : Nat} {body c : E} {tg : Tg} (ht : tgIn tg own = true) :
    TurnOk K (tTg K tg) (tB1 K (evT cf c)) (tE K fun b env => evE cf b body env) σ own env n (fun a => M.bind (M.lift (bindT tg a env)) fun env' => M.bind (evE cf b c env') fun t => M.bind (truA t) fun t => match t with
        | true => M.bind (evE cf b body env') fun y => pushC n y
        | false => M.pure ()) := by
  intro a F ρ H hh hh2 v D P S E r e hD hP
  obtain ⟨env', _, e1, e⟩ := bind_ok e
  replace e1 := lift_ok e1
  obtain ⟨e1, rfl⟩ := e1
  obtain ⟨z, h1, e2, e⟩ := bind_ok e
  obtain ⟨t, h2, e3, e⟩ := bind_ok e
  refine bind_rep S.ex e1 E r fun σ' E' w => ⟨(w own ht).trans (wipe_wipe σ own), ?_⟩
  refine ⟨b, F, ρ, env', hh, t, h2, S, E', by unfold evT M.bind; rw [e2]; exact e3, fun F1 ρ1 H1 x1 p1 S1 => ?_⟩
  cases t with
  | true =>
    rw [if_pos rfl]
    obtain ⟨y, h3, e4, e⟩ := bind_ok e
    refine ⟨b, F1, ρ1, env', h2, y, h3, S1, E'.mono x1 p1, e4, fun v1 F2 ρ2 H2 x2 p2 S2 r2 => ?_⟩
    obtain ⟨acc, a1, a2, S3⟩ := push_rep S2 r2 e (pre_get (p1.trans p2) hD)
    exact ⟨acc, a1, a2, hP F2 ρ2 _ (x1.trans x2) (p1.trans p2) S3⟩
  | false =>
    rw [if_neg Bool.false_ne_true]
    obtain ⟨_, rfl⟩ := pure_ok e
    exact hP F1 ρ1 _ x1 p1 S1
theorem t_lcAny {σ : L2.St} {Q : VK} {own : List Nat} {g : TG} {tt : TT} {te : TE} {it : It} {m : Bool} {ev : Nat → En → M A} (f : Nat → Nat → En → A → M Unit)
    (hev : ∀ b env, ev b env = M.bind (evIt cf b it env) fun items => M.bind (alloc (.lst [])) fun n => M.bind (turns (f b n (wipeE env own)) items) fun _ => topL m n)
    (hm : ∀ b n env a, MonoM n (f b n env a)) (hf : ∀ b n env, TurnOk K g tt te σ own env n (f b n env)) (q : tE K ev σ H Q) :
    tLc (tI K fun b env => evIt cf b it env) g tt te own σ H Q := by
  obtain ⟨b, F, ρ, env, h, a, h', S, E, e, q⟩ := q
  rw [hev] at e
  obtain ⟨items, h1, e1, e⟩ := bind_ok e
  obtain ⟨n, h2, e2, e⟩ := bind_ok e
  obtain ⟨_, h3, e3, e⟩ := bind_ok e
  refine ⟨b, F, ρ, env, h, items, h1, S, E, e1, fun J F1 ρ1 H1 x1 p1 S1 W => fun D hD => ?_⟩
  cases e2
  have hn : h1.length = ρ1.length := S1.len.symm
  refine lc_it W.walk (fun i H => ∃ F2 ρ2 hh, Ex F1 F2 ∧ (ρ1 ++ [D]) <+: ρ2 ∧ Sim K F2 ρ2 H hh ∧ EnvOk K F2 ρ2 (wipe σ own) (wipeE env own) ∧ h1.length ≤ hh.length ∧ Sc h1.length hh ∧ turns (f b h1.length (wipeE env own)) (items.drop i) hh = .ok () h3) ?_ ?_ ?_ ?_
  · have S2 : Sim K F1 (ρ1 ++ [D]) (upd H1 D (.lst [])) (h1 ++ [C.lst []]) := S1.newC hD ⟨[], upd_same, .nil⟩
    refine ⟨F1, ρ1 ++ [D], _, .refl _, List.prefix_refl _, S2, ((E.mono x1 p1).mono (.refl _) (List.prefix_append _ _)).wipe own, by simp, ?_, by rw [List.drop_zero]; exact e3⟩
    have m1 := MonoM.alloc (b := h1.length) (c := C.lst []) h1 _ _ (Nat.le_refl _) rfl
    exact m1.2 _ (Nat.le_refl _) S1.sc
  · rintro i H2 _ ⟨F2, ρ2, hh, x2, _, S2, _⟩
    exact x2.trans S2.ex
  · rintro i v H2 H3 hi ⟨F2, ρ2, hh, x2, p2, S2, E2, l2, sc2, e4⟩ y
    have ha : items[i]? = some items[i] := List.getElem?_eq_getElem hi
    obtain ⟨F3, x3, S3, r3⟩ := y _ ha F2 ρ2 hh x2 ((List.prefix_append _ _).trans p2) S2
    rw [List.drop_eq_getElem_cons hi] at e4
    obtain ⟨_, hh2, e5, e6⟩ := bind_ok e4
    have mm := hm b h1.length (wipeE env own) items[i] hh () hh2 l2 e5
    refine hf b h1.length (wipeE env own) items[i] F3 ρ2 H3 hh hh2 v D _ S3 (E2.mono x3 (List.prefix_refl _)) r3 e5 (by rw [hn]; exact pre_len_get p2) fun F4 ρ4 H4 x4 p4 S4 => ?_
    exact ⟨F4, ρ4, hh2, (x2.trans x3).trans x4, p2.trans p4, S4, (E2.mono x3 (List.prefix_refl _)).mono x4 p4, mm.1, mm.2 _ (Nat.le_refl _) sc2, e6⟩
  · rintro H2 ⟨F2, ρ2, hh, x2, p2, S2, E2, l2, sc2, e4⟩
    rw [List.drop_of_length_le (Nat.le_refl _)] at e4
    obtain ⟨_, rfl⟩ := pure_ok e4
    have hD2 : ρ2[h1.length]? = some D := by rw [hn]; exact pre_len_get p2
    have rr : RepA K F2 ρ2 (.ref h1.length) (.ref D) := by
      unfold RepA
      exact ⟨D, hD2, rfl⟩
    have pp : ρ1 <+: ρ2 := (List.prefix_append _ _).trans p2
    cases m with
    | true =>
      obtain ⟨rfl, rfl⟩ := pure_ok e
      exact q _ F2 ρ2 H2 (x1.trans x2) (p1.trans pp) S2 rr
    | false =>
      obtain ⟨d, h4, e7, e⟩ := bind_ok e
      cases e
      obtain ⟨F3, x3, S3, r3⟩ := frz_rep 4 _ _ _ _ _ _ _ S2 rr e7
      have mm := MonoM.frz (b := h1.length) 4 (.ref h1.length) _ _ _ l2 e7
      have S4 := S3.cut (n := h1.length) (mm.2 _ (Nat.le_refl _) sc2)
      have e8 : ρ2.take h1.length = ρ1 := by rw [hn]; exact pre_take p2
      rw [e8] at S4
      exact q _ F3 ρ1 H2 ((x1.trans x2).trans x3) p1 S4 (repA_val.mpr r3)
theorem t_lc {σ : L2.St} {Q : VK} {own : List Nat} {it : It} {m : Bool} {body : E} {tg : Tg} (hcf : MonoF cf) (ht : tgIn tg own = true) (q : tE K (fun b env => evE cf b (.lc m body own tg it) env) σ H Q) :
    tLc (tI K fun b env => evIt cf b it env) (tTg K tg) tYes (tE K fun b env => evE cf b body env) own σ H Q :=
  t_lcAny (m := m) (fun b n env a => M.bind (M.lift (bindT tg a env)) fun env' => M.bind (evE cf (n + 1) body env') fun y => pushC n y) (fun b env => by show evE cf b (.lc m body own tg it) env = _; rw [evE])
    (fun b n env a => .bind .lift fun env' => .bind (mono_E hcf (n + 1) body env' (by omega)) fun y => .push fun z => absurd z (by omega)) (fun b n env => turn_lc ht) q
theorem t_lcI {σ : L2.St} {Q : VK} {own : List Nat} {it : It} {m : Bool} {body c : E} {tg : Tg} (hcf : MonoF cf) (ht : tgIn tg own = true) (q : tE K (fun b env => evE cf b (.lcI m body own tg it c) env) σ H Q) :
    tLc (tI K fun b env => evIt cf b it env) (tTg K tg) (tB1 K (evT cf c)) (tE K fun b env => evE cf b body env) own σ H Q :=
  t_lcAny (m := m) (fun b n env a => M.bind (M.lift (bindT tg a env)) fun env' => M.bind (evE cf (n + 1) c env') fun t => M.bind (truA t) fun t => match t with
        | true => M.bind (evE cf (n + 1) body env') fun y => pushC n y
        | false => M.pure ()) (fun b env => by show evE cf b (.lcI m body own tg it c) env = _; rw [evE] <;> rfl)
    (fun b n env a => by
      refine .bind .lift fun env' => .bind (mono_E hcf (n + 1) c env' (by omega)) fun _ => .bind .truA fun t => ?_
      cases t with
      | true => exact .bind (mono_E hcf (n + 1) body env' (by omega)) fun y => .push fun z => absurd z (by omega)
      | false => exact .pure) (fun b n env => turn_lcI ht) q
end
/-! ### what is walked -/
section
variable {X : Cx} {cf : Nat → List A → M A} {tg : Expr}
theorem pi_seq {e : Expr} {ir : E} (he : PE X e (tE X.K fun b env => evE cf b ir env)) : PI X tg e (tI X.K fun b env => evIt cf b (.seq ir) env) := by
  refine ⟨fun pins s σ H R I q => ?_⟩
  obtain ⟨b, F, ρ, env, h, items, h', S, E, e, q⟩ := q
  unfold evIt at e
  obtain ⟨a, h1, e1, e⟩ := bind_ok e
  have lst : (∀ F1 ρ1 H1 v, Ex F F1 → ρ <+: ρ1 → Sim X.K F1 ρ1 H1 h1 → RepA X.K F1 ρ1 a v → ∃ p xs F2, v = .ref p ∧ Ex F1 F2 ∧ (∀ H, Ex F2 H → SqL X.K H p xs) ∧ Sim X.K F2 ρ1 H1 h' ∧ RepAL X.K F2 ρ1 items xs) →
      wpAny (model X.prog X.w) X.A (eval ‹Expr› X.env) (fun v s1 => wpAny (model X.prog X.w) X.A (pyIter v) (PIE X pins σ tg R) X.xe s1) X.xe s := fun hl => by
    refine (pi_list he).run pins s σ H R I ⟨b, F, ρ, env, h, a, h1, S, E, e1, fun v F1 ρ1 H1 x1 p1 S1 r1 => ?_⟩
    obtain ⟨p, xs, F2, rfl, x2, hp, S2, l⟩ := hl F1 ρ1 H1 v x1 p1 S1 r1
    exact ⟨p, rfl, ⟨xs, hp H1 S2.ex⟩, q _ F2 ρ1 H1 (x1.trans x2) p1 S2 (wk_list hp l)⟩
  have tup : (∀ F1 ρ1 H1 v, Ex F F1 → ρ <+: ρ1 → Sim X.K F1 ρ1 H1 h1 → RepA X.K F1 ρ1 a v → ∃ p xs, v = .ref p ∧ SqT X.K F1 p xs ∧ h1 = h' ∧ RepAL X.K F1 ρ1 items xs) →
      wpAny (model X.prog X.w) X.A (eval ‹Expr› X.env) (fun v s1 => wpAny (model X.prog X.w) X.A (pyIter v) (PIE X pins σ tg R) X.xe s1) X.xe s := fun hl => by
    refine (pi_tup he).run pins s σ H R I ⟨b, F, ρ, env, h, a, h1, S, E, e1, fun v F1 ρ1 H1 x1 p1 S1 r1 => ?_⟩
    obtain ⟨p, xs, rfl, hp, rfl, l⟩ := hl F1 ρ1 H1 v x1 p1 S1 r1
    exact ⟨p, rfl, ⟨xs, ex_t S1.ex hp⟩, q _ F1 ρ1 H1 x1 p1 S1 (wk_tup (fun H x => ex_t x hp) l)⟩
  cases a with
  | tup as =>
    simp only [itemsA] at e
    cases e
    refine tup fun F1 ρ1 H1 v x1 p1 S1 r1 => ?_
    unfold RepA at r1
    obtain ⟨p, xs, rfl, hp, l⟩ := r1
    exact ⟨p, xs, rfl, hp, rfl, l⟩
  | ref n =>
    simp only [itemsA] at e
    split at e
    · rename_i as hn
      cases e
      refine lst fun F1 ρ1 H1 v x1 p1 S1 r1 => ?_
      unfold RepA at r1
      obtain ⟨p, hp, rfl⟩ := r1
      obtain ⟨c, e2, rc, _, _⟩ := S1.at_ hp
      rw [hn] at e2
      cases e2
      obtain ⟨xs, hx, l⟩ := rc
      obtain ⟨S2, x2⟩ := S1.kill hn hp hx (by intro z; cases z)
      exact ⟨p, xs, _, rfl, x2, fun H z => sl_of (z _ _ upd_same), S2, l.mono x2 (List.prefix_refl _)⟩
    · cases e
  | val d =>
    cases d <;> simp only [itemsA] at e <;> try (cases e; done)
    · cases e
      refine (pi_str he).run pins s σ H R I ⟨b, F, ρ, env, h, _, _, S, E, e1, fun v F1 ρ1 H1 x1 p1 S1 r1 => ?_⟩
      have r2 := repA_val.mp r1
      unfold RepD at r2
      exact ⟨_, r2, q _ F1 ρ1 H1 x1 p1 S1 wk_str⟩
    · cases e
      refine tup fun F1 ρ1 H1 v x1 p1 S1 r1 => ?_
      obtain ⟨p, xs, rfl, hp, l⟩ := (repA_val.mp r1).tup_of
      exact ⟨p, xs, rfl, hp, rfl, .of_vals l⟩
    · cases e
      refine lst fun F1 ρ1 H1 v x1 p1 S1 r1 => ?_
      obtain ⟨p, xs, rfl, hp, l⟩ := (repA_val.mp r1).lst_of
      exact ⟨p, xs, F1, rfl, .refl _, fun H z => sl_of (z _ _ hp), S1, .of_vals l⟩
    · cases e
      refine lst fun F1 ρ1 H1 v x1 p1 S1 r1 => ?_
      have r2 := repA_val.mp r1
      unfold RepD at r2
      obtain ⟨p, rfl, hp⟩ := r2
      refine ⟨p, _, F1, rfl, .refl _, fun H z => ex_l z hp, S1, ?_⟩
      have := RepAL.of_vals (ρ := ρ1) (ints_rep (K := X.K) (F := F1) ‹List Int›)
      rw [List.map_map] at this
      exact this
theorem small_of {i : Int} (h : small62 i = true) : -(2 ^ 62) ≤ i ∧ i < 2 ^ 62 := by
  unfold small62 at h
  rw [Bool.and_eq_true, decide_eq_true_eq, decide_eq_true_eq] at h
  exact h
theorem pi_rng1 {a : Expr} {ir : E} {p pos : Pos} (hg : Gl X "range") (hm : X.mg "range" = none) (hs : noStar1 a = true) (ha : PE X a (tE X.K fun b env => evE cf b ir env)) :
    PI X tg (.Call (.Name "range" p) [a] [] pos) (tI X.K fun b env => evIt cf b (.rng1 ir) env) := by
  refine ⟨fun pins s σ H R I q => ?_⟩
  obtain ⟨b, F, ρ, env, h, items, h', S, E, e, q⟩ := q
  unfold evIt at e
  obtain ⟨x, h1, e1, e⟩ := bind_ok e
  obtain ⟨d, _, e3, e⟩ := bind_ok e
  replace e3 := sf_ok e3
  obtain ⟨e3, rfl⟩ := e3
  refine (pi_range1 (tg := tg) hg hm (pa_cons ha pa_nil (star_cons _ hs)) (star_cons _ hs)).run pins s σ H R I ⟨b, F, ρ, env, h, x, h1, S, E, e1, fun v F1 ρ1 H1 x1 p1 S1 r1 => ?_⟩
  have r2 := sf_rep S1 e3 r1
  obtain ⟨j, rfl⟩ : ∃ j, d = .int j := by
    cases d <;> simp only [rangeA] at e <;> first | (cases e; done) | exact ⟨_, rfl⟩
  simp only [rangeA] at e
  obtain ⟨_, _, e4, e⟩ := bind_ok e
  replace e4 := chk_ok e4
  obtain ⟨e4, rfl⟩ := e4
  obtain ⟨rfl, rfl⟩ := pure_ok e
  rw [Bool.and_eq_true] at e4
  have hj := small_of e4.2
  refine ⟨j, by rw [show v = V.int j from r2], hj.1, hj.2, q _ F1 ρ1 H1 x1 p1 S1 ?_⟩
  rw [Int.sub_zero]
  exact wk_range
theorem pi_rng2 {a a2 : Expr} {ir ir2 : E} {p pos : Pos} (hg : Gl X "range") (hm : X.mg "range" = none) (hs : noStar1 a = true) (hs2 : noStar1 a2 = true) (ha : PE X a (tE X.K fun b env => evE cf b ir env)) (ha2 : PE X a2 (tE X.K fun b env => evE cf b ir2 env)) :
    PI X tg (.Call (.Name "range" p) [a, a2] [] pos) (tI X.K fun b env => evIt cf b (.rng2 ir ir2) env) := by
  refine ⟨fun pins s σ H R I q => ?_⟩
  obtain ⟨b, F, ρ, env, h, items, h', S, E, e, q⟩ := q
  unfold evIt at e
  obtain ⟨x, h1, e1, e⟩ := bind_ok e
  obtain ⟨y, h2, e2, e⟩ := bind_ok e
  obtain ⟨d, _, e3, e⟩ := bind_ok e
  replace e3 := sf_ok e3
  obtain ⟨e3, rfl⟩ := e3
  obtain ⟨d2, _, e4, e⟩ := bind_ok e
  replace e4 := sf_ok e4
  obtain ⟨e4, rfl⟩ := e4
  refine (pi_range2 (tg := tg) hg hm (pa_cons ha (pa_cons ha2 pa_nil (star_cons _ hs2)) (star_cons _ hs)) (by rw [star_cons _ hs, star_cons _ hs2]; rfl) (star_cons _ hs2)).run pins s σ H R I ⟨b, F, ρ, env, h, x, h1, S, E, e1, fun v F1 ρ1 H1 x1 p1 S1 r1 => ⟨b, F1, ρ1, env, h1, y, h2, S1, E.mono x1 p1, e2, fun v2 F2 ρ2 H2 x2 p2 S2 r2 => ?_⟩⟩
  have r3 := sf_rep S2 e3 (r1.mono x2 p2)
  have r4 := sf_rep S2 e4 r2
  obtain ⟨i, j, rfl, rfl⟩ : ∃ i j, d = .int i ∧ d2 = .int j := by
    cases d <;> cases d2 <;> simp only [rangeA] at e <;> first | (cases e; done) | exact ⟨_, _, rfl, rfl⟩
  simp only [rangeA] at e
  obtain ⟨_, _, e5, e⟩ := bind_ok e
  replace e5 := chk_ok e5
  obtain ⟨e5, rfl⟩ := e5
  obtain ⟨rfl, rfl⟩ := pure_ok e
  rw [Bool.and_eq_true] at e5
  have hi := small_of e5.1
  have hj := small_of e5.2
  exact ⟨i, j, by rw [show v = V.int i from r3, show v2 = V.int j from r4], ⟨hi.1, hi.2, hj.1, hj.2⟩, q _ F2 ρ2 H2 (x1.trans x2) (p1.trans p2) S2 wk_range⟩
end
end Lo
set_option maxHeartbeats 200000
/-! Core J: the checker of expressions, and that it is sound. -/
namespace Lo
open PySem PySem.Spec PyProof.Rows L2
def blN : Bl → Str
  | .len => "len" | .int => "int" | .abs => "abs" | .str => "str" | .list => "list" | .tuple => "tuple" | .dict => "dict" | .all => "all" | .any => "any"
def b2N : B2 → Str
  | .max => "max" | .min => "min"
def bltB (g : Gx) (x : Str) : Bool := glB g x && g.bl.contains x
def cstB : Const → D → Bool
  | .none, .non => true
  | .bool a, .bl b => a == b
  | .int i, .int j => decide (i = j)
  | .str x, .str y => decide (x = y)
  | _, _ => false
def notSet : Expr → Bool
  | .Set .. => false
  | _ => true
def notSlice : Expr → Bool
  | .Slice .. => false
  | _ => true
def blkG (g : Gx) (scope : Scope) : Gx := { g with sc := relS scope g.sc, st := fun x => scope.names.lookup x == some .cell }
def ownL (N : List Str) (own : List Nat) : List (Str × Nat) := own.map fun i => (N.getD i "", i)
def okBlk (g : Gx) (scope : Scope) (own : List Nat) : Bool :=
  decide (scope.kind = .function) && scope.names.all (fun y => decide (scope.names.lookup y.1 = some y.2)) && own.all (fun i => Nat.blt i g.N.length) &&
  scope.names.all (fun y => match y.2 with
    | .free => (match g.sc.names.lookup y.1 with
      | some .cell => true
      | some .free => true
      | _ => false)
    | .local => (own.any fun i => decide (g.N[i]? = some y.1)) || !(g.N.any fun z => decide (z = y.1))
    | .cell => (own.any fun i => decide (g.N[i]? = some y.1)) || !(g.N.any fun z => decide (z = y.1))
    | _ => true)
mutual
def okE : Nat → Gx → Expr → E → Bool
  | 0, _, _, _ => false
  | n + 1, g, e, ir => match ir with
    | .var i => (match e with
      | .Name x _ => decide (g.N[i]? = some x) && visB g x
      | _ => false)
    | .cst d => (match e with
      | .Constant c _ _ => cstB c d
      | _ => false)
    | .glb _ _ => false
    | .tup _ es => (match e with
      | .Tuple xs _ _ => Nat.ble xs.length 1000 && okEs n g xs es
      | _ => false)
    | .lst _ es => (match e with
      | .List xs _ => Nat.ble xs.length 1000 && okEs n g xs es
      | _ => false)
    | .op _ o a b => (match e with
      | .BinOp x p y _ => decide (p = opOf o) && (okE n g x a && okE n g y b)
      | _ => false)
    | .neg a => (match e with
      | .UnaryOp .USub x _ => okE n g x a
      | _ => false)
    | .cmp o a b => (match e with
      | .Compare x [p] [y] _ => decide (p = cpOf o) && notSet y && (okE n g x a && okE n g y b)
      | _ => false)
    | .chain o o2 a b c => (match e with
      | .Compare x [p, q] [y, z] _ => decide (p = cpOf o) && decide (q = cpOf o2) && notSet z && (okE n g x a && (okE n g y b && okE n g z c))
      | _ => false)
    | .and a b => (match e with
      | .BoolOp .And vs _ => okBs n g true vs (.and a b)
      | _ => false)
    | .or a b => (match e with
      | .BoolOp .Or vs _ => okBs n g false vs (.or a b)
      | _ => false)
    | .not a => (match e with
      | .UnaryOp .Not x _ => okE n g x a
      | _ => false)
    | .ite c a b => (match e with
      | .IfExp x y z _ => okE n g x c && (okE n g y a && okE n g z b)
      | _ => false)
    | .idx a b => (match e with
      | .Subscript x y _ => notSlice y && (okE n g x a && okE n g y b)
      | _ => false)
    | .slL _ a l => (match e with
      | .Subscript x (.Slice (some y) none none _) _ => okE n g x a && okE n g y l
      | _ => false)
    | .slU _ a u => (match e with
      | .Subscript x (.Slice none (some y) none _) _ => okE n g x a && okE n g y u
      | _ => false)
    | .slB _ a l u => (match e with
      | .Subscript x (.Slice (some y) (some z) none _) _ => okE n g x a && (okE n g y l && okE n g z u)
      | _ => false)
    | .rev _ a => (match e with
      | .Subscript x (.Slice none none (some (.UnaryOp .USub (.Constant (.int i) _ _) _)) _) _ => decide (i = 1) && okE n g x a
      | _ => false)
    | .call f es => (match e with
      | .Call (.Name x _) xs [] _ => (match g.tab[f]? with
        | some fn => decide (fn.name = x) && glB g x && !(x == ("__debug__" : Str)) && noStar xs && okEs n g xs es
        | none => false)
      | _ => false)
    | .bl1 o _ a => (match e with
      | .Call (.Name x _) [y] [] _ => decide (x = blN o) && bltB g x && noStar1 y && okE n g y a
      | _ => false)
    | .bl2 o a b => (match e with
      | .Call (.Name x _) [y, z] [] _ => decide (x = b2N o) && bltB g x && noStar1 y && noStar1 z && (okE n g y a && okE n g z b)
      | _ => false)
    | .isi a tp ts => (match tp with
      | true => false
      | false => (match ts with
        | [t] => (match e with
          | .Call (.Name x _) [y, .Name z _] [] _ => decide (x = "isinstance") && bltB g x && decide (z = (tyN t : Str)) && bltB g z && noStar1 y && okE n g y a
          | _ => false)
        | _ => false))
    | .mt1 .. => false
    | .mt0 .. => false
    | .lc _ body own tg it => (match e with
      | .ListComp elt [⟨t, iter, [], i⟩] scope _ => decide (i = 0) && okBlk g scope own && tgIn tg own && okIt n g iter it && okTg (blkG g scope) t tg && okE n (blkG g scope) elt body
      | _ => false)
    | .lcI _ body own tg it c => (match e with
      | .ListComp elt [⟨t, iter, [ce], i⟩] scope _ => decide (i = 0) && okBlk g scope own && tgIn tg own && okIt n g iter it && okTg (blkG g scope) t tg && (okE n (blkG g scope) elt body && okE n (blkG g scope) ce c)
      | _ => false)
def okEs : Nat → Gx → List Expr → Es → Bool
  | 0, _, _, _ => false
  | n + 1, g, xs, es => match es with
    | .nil => xs.isEmpty
    | .cons i r => (match xs with
      | x :: xs => noStar1 x && okE n g x i && okEs n g xs r
      | [] => false)
def okBs : Nat → Gx → Bool → List Expr → E → Bool
  | 0, _, _, _, _ => false
  | n + 1, g, t, xs, ir => match xs with
    | [] => false
    | [x] => okE n g x ir
    | x :: y :: r => (match ir with
      | .and a b => t && okE n g x a && okBs n g t (y :: r) b
      | .or a b => !t && okE n g x a && okBs n g t (y :: r) b
      | _ => false)
def okIt : Nat → Gx → Expr → It → Bool
  | 0, _, _, _ => false
  | n + 1, g, e, it => match it with
    | .seq i => notSet e && okE n g e i
    | .rng1 a => (match e with
      | .Call (.Name x _) [y] [] _ => decide (x = "range") && bltB g x && noStar1 y && okE n g y a
      | _ => false)
    | .rng2 a b => (match e with
      | .Call (.Name x _) [y, z] [] _ => decide (x = "range") && bltB g x && noStar1 y && noStar1 z && (okE n g y a && okE n g z b)
      | _ => false)
    | .enm _ => false
    | .zip _ _ => false
end
/-! ### small things -/
def Es.len : Es → Nat
  | .nil => 0
  | .cons _ r => r.len + 1
theorem okEs_len : ∀ {n : Nat} {g : Gx} {xs : List Expr} {es : Es}, okEs n g xs es = true → es.len = xs.length
  | 0, _, _, _, h => by simp [okEs] at h
  | n + 1, g, xs, .nil, h => by
    unfold okEs at h
    cases xs with
    | nil => rfl
    | cons _ _ => cases h
  | n + 1, g, xs, .cons i r, h => by
    unfold okEs at h
    cases xs with
    | nil => cases h
    | cons x xs =>
      simp only [Bool.and_eq_true] at h
      unfold Es.len
      rw [okEs_len h.2]
      rfl
theorem evEs_len {cf : Nat → List A → M A} : ∀ {es : Es} {b : Nat} {env : En} {h h' : Hh} {as : List A}, evEs cf b es env h = .ok as h' → as.length = es.len
  | .nil, b, env, h, h', as, e => by
    rw [evEs] at e
    obtain ⟨rfl, _⟩ := pure_ok e
    rfl
  | .cons i r, b, env, h, h', as, e => by
    rw [evEs] at e
    obtain ⟨x, h1, e1, e⟩ := bind_ok e
    obtain ⟨y, h2, e2, e⟩ := bind_ok e
    obtain ⟨rfl, _⟩ := pure_ok e
    unfold Es.len
    rw [List.length_cons, evEs_len e2]
theorem bind_mk {α β : Type} {x : M α} {f : α → M β} {h h1 h' : Hh} {a : α} {b : β} (e : x h = .ok a h1) (e2 : f a h1 = .ok b h') : M.bind x f h = .ok b h' := by
  unfold M.bind
  rw [e]
  exact e2
theorem truA_same {a : A} {h h' : Hh} {t : Bool} (e : truA a h = .ok t h') : h = h' := by
  unfold truA at e
  repeat' split at e
  all_goals first | (cases e; rfl) | (cases e; done)
section
variable {K : PySem.W.Frag} {F H : Hp} {ρ : List Addr} {h h' : Hh} {cf : Nat → List A → M A} {σ : L2.St} {Q : Bool → Hp → Prop}
theorem tt_any {ir : E} (q : tB1 K (evT cf ir) σ H Q) : tE K (fun b env => evE cf b ir env) σ H fun x H' => ∃ k, TruV K x H' k ∧ Q k H' := by
  obtain ⟨b, F, ρ, env, h, t, h', S, E, e, q⟩ := q
  obtain ⟨a, h1, e1, e⟩ := bind_ok e
  refine ⟨b, F, ρ, env, h, a, h1, S, E, e1, fun v F1 ρ1 H1 x1 p1 S1 r1 => ?_⟩
  obtain ⟨rfl, tv⟩ := truA_rep S1 e r1
  exact ⟨t, tv, q F1 ρ1 H1 x1 p1 S1⟩
theorem tt_bl {ir : E} (hb : ∀ b env h a h', evE cf b ir env h = .ok a h' → ∃ c, a = .val (.bl c)) (q : tB1 K (evT cf ir) σ H Q) : tE K (fun b env => evE cf b ir env) σ H fun x H' => ∃ k, x = .bl k ∧ Q k H' := by
  obtain ⟨b, F, ρ, env, h, t, h', S, E, e, q⟩ := q
  obtain ⟨a, h1, e1, e⟩ := bind_ok e
  obtain ⟨c, rfl⟩ := hb _ _ _ _ _ e1
  refine ⟨b, F, ρ, env, h, _, h1, S, E, e1, fun v F1 ρ1 H1 x1 p1 S1 r1 => ?_⟩
  have e2 : c = t ∧ h1 = h' := by
    cases e
    exact ⟨rfl, rfl⟩
  obtain ⟨rfl, rfl⟩ := e2
  have r2 := repA_val.mp r1
  unfold RepD at r2
  exact ⟨c, r2, q F1 ρ1 H1 x1 p1 S1⟩
theorem cmp_bl {o : Cp} {x y : E} (b : Nat) (env : En) (h : Hh) (a : A) (h' : Hh) (e : evE cf b (.cmp o x y) env h = .ok a h') : ∃ c, a = .val (.bl c) := by
  rw [evE] at e
  obtain ⟨_, _, _, e⟩ := bind_ok e
  obtain ⟨_, _, _, e⟩ := bind_ok e
  obtain ⟨_, _, _, e⟩ := bind_ok e
  obtain ⟨_, _, _, e⟩ := bind_ok e
  obtain ⟨_, _, _, e⟩ := bind_ok e
  exact ⟨_, (pure_ok e).1.symm⟩
theorem chain_bl {o o2 : Cp} {x y z : E} (b : Nat) (env : En) (h : Hh) (a : A) (h' : Hh) (e : evE cf b (.chain o o2 x y z) env h = .ok a h') : ∃ c, a = .val (.bl c) := by
  rw [evE] at e
  obtain ⟨_, _, _, e⟩ := bind_ok e
  obtain ⟨_, _, _, e⟩ := bind_ok e
  obtain ⟨_, _, _, e⟩ := bind_ok e
  obtain ⟨_, _, _, e⟩ := bind_ok e
  obtain ⟨r, _, _, e⟩ := bind_ok e
  cases r with
  | false => exact ⟨_, (pure_ok e).1.symm⟩
  | true =>
    obtain ⟨_, _, _, e⟩ := bind_ok e
    obtain ⟨_, _, _, e⟩ := bind_ok e
    obtain ⟨_, _, _, e⟩ := bind_ok e
    obtain ⟨_, _, _, e⟩ := bind_ok e
    exact ⟨_, (pure_ok e).1.symm⟩
theorem tt_and {x y : E} (q : tB1 K (evT cf (.and x y)) σ H Q) : tAnd (tB1 K (evT cf x)) (tB1 K (evT cf y)) σ H Q := by
  obtain ⟨b, F, ρ, env, h, t, h', S, E, e, q⟩ := q
  obtain ⟨a, h1, e1, e⟩ := bind_ok e
  rw [evE] at e1
  obtain ⟨a1, h2, e2, e1⟩ := bind_ok e1
  obtain ⟨t1, h3, e3, e1⟩ := bind_ok e1
  refine ⟨b, F, ρ, env, h, t1, h3, S, E, bind_mk e2 e3, fun F1 ρ1 H1 x1 p1 S1 => ?_⟩
  cases t1 with
  | true =>
    rw [if_pos rfl]
    exact ⟨b, F1, ρ1, env, h3, t, h', S1, E.mono x1 p1, bind_mk e1 e, fun F2 ρ2 H2 x2 p2 S2 => q F2 ρ2 H2 (x1.trans x2) (p1.trans p2) S2⟩
  | false =>
    rw [if_neg Bool.false_ne_true]
    obtain ⟨rfl, rfl⟩ := pure_ok e1
    have z := truA_same e3
    subst z
    rw [e3] at e
    cases e
    exact q F1 ρ1 H1 x1 p1 S1
theorem tt_or {x y : E} (q : tB1 K (evT cf (.or x y)) σ H Q) : tOr (tB1 K (evT cf x)) (tB1 K (evT cf y)) σ H Q := by
  obtain ⟨b, F, ρ, env, h, t, h', S, E, e, q⟩ := q
  obtain ⟨a, h1, e1, e⟩ := bind_ok e
  rw [evE] at e1
  obtain ⟨a1, h2, e2, e1⟩ := bind_ok e1
  obtain ⟨t1, h3, e3, e1⟩ := bind_ok e1
  refine ⟨b, F, ρ, env, h, t1, h3, S, E, bind_mk e2 e3, fun F1 ρ1 H1 x1 p1 S1 => ?_⟩
  cases t1 with
  | false =>
    rw [if_neg Bool.false_ne_true]
    exact ⟨b, F1, ρ1, env, h3, t, h', S1, E.mono x1 p1, bind_mk e1 e, fun F2 ρ2 H2 x2 p2 S2 => q F2 ρ2 H2 (x1.trans x2) (p1.trans p2) S2⟩
  | true =>
    rw [if_pos rfl]
    obtain ⟨rfl, rfl⟩ := pure_ok e1
    have z := truA_same e3
    subst z
    rw [e3] at e
    cases e
    exact q F1 ρ1 H1 x1 p1 S1
theorem tt_not {x : E} (q : tB1 K (evT cf (.not x)) σ H Q) : tNot (tB1 K (evT cf x)) σ H Q := by
  obtain ⟨b, F, ρ, env, h, t, h', S, E, e, q⟩ := q
  obtain ⟨a, h1, e1, e⟩ := bind_ok e
  rw [evE] at e1
  obtain ⟨a1, h2, e2, e1⟩ := bind_ok e1
  obtain ⟨t1, h3, e3, e1⟩ := bind_ok e1
  obtain ⟨rfl, rfl⟩ := pure_ok e1
  refine ⟨b, F, ρ, env, h, t1, h3, S, E, bind_mk e2 e3, fun F1 ρ1 H1 x1 p1 S1 => ?_⟩
  cases e
  exact q F1 ρ1 H1 x1 p1 S1
def tIfT (t u v : TT) : TT := fun σ H Q => t σ H fun c H1 => if c = true then u σ H1 Q else v σ H1 Q
theorem pt_ifExp {X : Cx} {c a b : Expr} {tA tB' tC' : TT} {pos : Pos} (hc : PT X c tA) (ha : PT X a tB') (hb : PT X b tC') : PT X (.IfExp c a b pos) (tIfT tA tB' tC') := by
  refine ⟨fun pins s σ H Q I h => ?_⟩
  refine isTrue_IfExp (thn (hc.run pins s σ H _ I h) fun d s1 ⟨H1, I1, q1⟩ => ?_)
  cases d with
  | true => exact ha.run pins s1 σ H1 Q I1 q1
  | false => exact hb.run pins s1 σ H1 Q I1 q1
theorem tt_ite {c x y : E} (q : tB1 K (evT cf (.ite c x y)) σ H Q) : tIfT (tB1 K (evT cf c)) (tB1 K (evT cf x)) (tB1 K (evT cf y)) σ H Q := by
  obtain ⟨b, F, ρ, env, h, t, h', S, E, e, q⟩ := q
  obtain ⟨a, h1, e1, e⟩ := bind_ok e
  rw [evE] at e1
  obtain ⟨a1, h2, e2, e1⟩ := bind_ok e1
  obtain ⟨t1, h3, e3, e1⟩ := bind_ok e1
  refine ⟨b, F, ρ, env, h, t1, h3, S, E, bind_mk e2 e3, fun F1 ρ1 H1 x1 p1 S1 => ?_⟩
  cases t1 with
  | false =>
    rw [if_neg Bool.false_ne_true]
    exact ⟨b, F1, ρ1, env, h3, t, h', S1, E.mono x1 p1, bind_mk e1 e, fun F2 ρ2 H2 x2 p2 S2 => q F2 ρ2 H2 (x1.trans x2) (p1.trans p2) S2⟩
  | true =>
    rw [if_pos rfl]
    exact ⟨b, F1, ρ1, env, h3, t, h', S1, E.mono x1 p1, bind_mk e1 e, fun F2 ρ2 H2 x2 p2 S2 => q F2 ρ2 H2 (x1.trans x2) (p1.trans p2) S2⟩
end
def plainT : Expr → Bool
  | .UnaryOp .Not _ _ => false
  | .BoolOp .. => false
  | .IfExp .. => false
  | .Compare .. => false
  | _ => true
theorem plainT_is {e : Expr} {env : Env} (h : plainT e = true) : ∀ whole, isTrue e env whole = (do let v ← whole; standAt e.pos; holding [v] (truthy v)) := by
  cases e <;> first
    | (intro whole; rfl)
    | (cases h; done)
    | (rename_i op _ _; cases op <;> first | (cases h; done) | (intro whole; rfl))
section
variable {X : Cx} {g : Gx} {k : Nat}
theorem pt_of {cf : Nat → List A → M A} {e : Expr} {ir : E} (h : plainT e = true) (he : PE X e (tE X.K fun b env => evE cf b ir env)) : PT X e (tB1 X.K (evT cf ir)) :=
  pt_imp (pt_truth he (plainT_is h)) fun _ _ _ q => tt_any q
theorem notSet_mark {y : Expr} (h : notSet y = true) (op : CmpOp) : behindInMarks op y = false := by
  cases y <;> first | rfl | (cases h; done)
theorem notSet_iter {e : Expr} (h : notSet e = true) : ∀ x, foldedSetIterable e X.env x = pure x := by
  intro x
  cases e <;> first | rfl | (cases h; done)
theorem notSlice_ix {e : Expr} (h : notSlice e = true) : PlainIx e := by
  intro o i
  cases e <;> first | rfl | (cases h; done)
/-- the comprehension's block -/
theorem Cok.blk (C : Cok X g k) {scope : Scope} {own : List Nat} (h : okBlk g scope own = true) (s : Shared) (H : Hp) (A : Addr) (cl : List (Str × Addr)) (fp : List Addr) : Cok (X.blk s H scope (compEnvC scope cl A X.env) fp) (blkG g scope) k where
  N := C.N
  sc := by
    show relabel scope X.env = relS scope g.sc
    rw [← C.sc]
    rfl
  kd := by
    unfold okBlk at h
    simp only [Bool.and_eq_true, decide_eq_true_eq] at h
    exact h.1.1.1
  dn := C.dn
  nd := C.nd
  calm := C.calm
  st := fun x hx => hx
  xe := rfl
  rm := C.rm
  bl := C.bl
  cs := C.cs
theorem any_mem {N : List Str} {x : Str} (h : (!(N.any fun z => decide (z = x))) = true) : x ∉ N := by
  intro hm
  simp only [Bool.not_eq_true', List.any_eq_false, decide_eq_true_eq] at h
  exact h x hm rfl
theorem Cok.blkOk (C : Cok X g k) {scope : Scope} {own : List Nat} (h : okBlk g scope own = true) : BlkOk X.N X.env.scope scope (ownL g.N own) := by
  unfold okBlk at h
  simp only [Bool.and_eq_true] at h
  obtain ⟨⟨⟨h1, h2⟩, h3⟩, h4⟩ := h
  have own_ : ∀ y : Str, ((own.any fun i => decide (g.N[i]? = some y)) || !(g.N.any fun z => decide (z = y))) = true → y ∈ (ownL g.N own).map (·.1) ∨ y ∉ X.N := fun y hy => by
    rw [Bool.or_eq_true] at hy
    rcases hy with hy | hy
    · obtain ⟨i, hi, e⟩ := List.any_eq_true.mp hy
      refine .inl (List.mem_map.mpr ⟨(g.N.getD i "", i), List.mem_map.mpr ⟨i, hi, rfl⟩, ?_⟩)
      simp only [decide_eq_true_eq] at e
      rw [List.getD_eq_getElem?_getD, e]
      rfl
    · rw [C.N]
      exact .inr (any_mem hy)
  refine ⟨of_decide_eq_true h1, fun y hy => of_decide_eq_true (List.all_eq_true.mp h2 y hy), fun p hp => ?_, fun y hy e => ?_, fun y hy e => ?_⟩
  · obtain ⟨i, hi, rfl⟩ := List.mem_map.mp hp
    have hl := List.all_eq_true.mp h3 i hi
    rw [Nat.blt_eq] at hl
    rw [C.N]
    show g.N[i]? = some (g.N.getD i "")
    rw [List.getD_eq_getElem?_getD, List.getElem?_eq_getElem hl]
    rfl
  · have z := List.all_eq_true.mp h4 y hy
    rw [e] at z
    rw [C.sc]
    dsimp only at z
    split at z
    · rename_i q; exact .inl q
    · rename_i q; exact .inr q
    · cases z
  · have z := List.all_eq_true.mp h4 y hy
    rcases e with e | e <;> rw [e] at z <;> exact own_ _ z
theorem ownL_map (N : List Str) (own : List Nat) : (ownL N own).map (·.2) = own := by
  unfold ownL
  rw [List.map_map]
  exact (List.map_congr_left fun _ _ => rfl).trans (List.map_id _)
/-! ### sound -/
abbrev bop : Bool → BoolOp
  | true => .And
  | false => .Or
structure Snd (n : Nat) : Prop where
  e : ∀ {g : Gx} {k : Nat} {X : Cx}, Cok X g k → ∀ {e : Expr} {ir : E}, okE n g e ir = true → PE X e (tE X.K fun b env => evE (callF g.tab k) b ir env)
  t : ∀ {g : Gx} {k : Nat} {X : Cx}, Cok X g k → ∀ {e : Expr} {ir : E}, okE n g e ir = true → PT X e (tB1 X.K (evT (callF g.tab k) ir))
  es : ∀ {g : Gx} {k : Nat} {X : Cx}, Cok X g k → ∀ {xs : List Expr} {es : Es}, okEs n g xs es = true → PA X xs (tL X.K fun b env => evEs (callF g.tab k) b es env)
  bs : ∀ {g : Gx} {k : Nat} {X : Cx}, Cok X g k → ∀ {op : Bool} {vs : List Expr} {ir : E} {pos : Pos}, okBs n g op vs ir = true → PE X (.BoolOp (bop op) vs pos) (tE X.K fun b env => evE (callF g.tab k) b ir env) ∧ PW X (.BoolOp (bop op) vs pos) (tB1 X.K (evT (callF g.tab k) ir))
  it : ∀ {g : Gx} {k : Nat} {X : Cx}, Cok X g k → ∀ {tg e : Expr} {it : It}, okIt n g e it = true → PI X tg e (tI X.K fun b env => evIt (callF g.tab k) b it env) ∧ ∀ x, foldedSetIterable e X.env x = pure x
theorem Cok.dbg (C : Cok X g k) {i : Nat} {x : Str} (h : g.N[i]? = some x) : (x == ("__debug__" : Str)) = false ∧ (x == ("__classdict__" : Str)) = false := by
  have z := List.all_eq_true.mp C.dn x (List.mem_of_getElem? h)
  simpa using z
theorem Cok.un (C : Cok X g k) : X.A.units + 64 < cLine := C.rm.units
theorem Cok.blt (C : Cok X g k) {x : Str} (h : bltB g x = true) : Gl X x ∧ X.mg x = none := by
  unfold bltB at h
  rw [Bool.and_eq_true] at h
  exact ⟨C.gl h.1, C.bl x h.2⟩
theorem pa1 {cf : Nat → List A → M A} {y : Expr} {a : E} (hy : noStar1 y = true) (h : PE X y (tE X.K fun b env => evE cf b a env)) : PA X [y] (tCons (tE X.K fun b env => evE cf b a env) tNil) := pa_cons h pa_nil (star_cons _ hy)
theorem pa2 {cf : Nat → List A → M A} {y z : Expr} {a b : E} (hy : noStar1 y = true) (hz : noStar1 z = true) (h : PE X y (tE X.K fun b env => evE cf b a env)) (h2 : PE X z (tE X.K fun c env => evE cf c b env)) :
    PA X [y, z] (tCons (tE X.K fun b env => evE cf b a env) (tCons (tE X.K fun c env => evE cf c b env) tNil)) := pa_cons h (pa1 hz h2) (star_cons _ hy)
theorem pe_bl1 {cf : Nat → List A → M A} {o : Bl} {m : Bool} {p pos : Pos} {y : Expr} {a : E} (C : Cok X g k) (hb : bltB g (blN o) = true) (hy : noStar1 y = true) (h : PE X y (tE X.K fun b env => evE cf b a env)) :
    PE X (.Call (.Name (blN o) p) [y] [] pos) (tE X.K fun b env => evE cf b (.bl1 o m a) env) := by
  obtain ⟨hg, hm⟩ := C.blt hb
  have pl : (backTo pos (starEach ([] : List Expr) X.env)).any (·.1) = false := rfl
  cases o with
  | len => exact pe_imp (pe_callB len_X hg hm boot_len (pa1 hy h) (by decide +kernel) (by decide +kernel) (star_cons _ hy) pl) fun _ _ _ q => t_len q
  | int => exact pe_imp (pe_callTy b1_int hg hm boot_int (pa1 hy h) (by decide +kernel) (by decide +kernel) (star_cons _ hy) pl) fun _ _ _ q => t_bl1 (by decide) q
  | abs => exact pe_imp (pe_callB b1_abs hg hm boot_abs (pa1 hy h) (by decide +kernel) (by decide +kernel) (star_cons _ hy) pl) fun _ _ _ q => t_bl1 (by decide) q
  | str => exact pe_imp (pe_callTy b1_str hg hm boot_str (pa1 hy h) (by decide +kernel) (by decide +kernel) (star_cons _ hy) pl) fun _ _ _ q => t_bl1 (by decide) q
  | list => exact pe_imp (pe_callTy (b1_list C.calm) hg hm boot_list (pa1 hy h) (by decide +kernel) (by decide +kernel) (star_cons _ hy) pl) fun _ _ _ q => t_bl1 (by decide) q
  | tuple => exact pe_imp (pe_callTy b1_tuple hg hm boot_tuple (pa1 hy h) (by decide +kernel) (by decide +kernel) (star_cons _ hy) pl) fun _ _ _ q => t_bl1 (by decide) q
  | dict => exact pe_imp (pe_callTy (b1_dict C.calm) hg hm boot_dict (pa1 hy h) (by decide +kernel) (by decide +kernel) (star_cons _ hy) pl) fun _ _ _ q => t_bl1 (by decide) q
  | all => exact pe_imp (pe_callB (b1_all C.calm) hg hm boot_all (pa1 hy h) (by decide +kernel) (by decide +kernel) (star_cons _ hy) pl) fun _ _ _ q => t_bl1 (by decide) q
  | any => exact pe_imp (pe_callB (b1_any C.calm) hg hm boot_any (pa1 hy h) (by decide +kernel) (by decide +kernel) (star_cons _ hy) pl) fun _ _ _ q => t_bl1 (by decide) q
theorem pe_bl2 {cf : Nat → List A → M A} {o : B2} {p pos : Pos} {y z : Expr} {a b : E} (C : Cok X g k) (hb : bltB g (b2N o) = true) (hy : noStar1 y = true) (hz : noStar1 z = true) (h : PE X y (tE X.K fun b env => evE cf b a env)) (h2 : PE X z (tE X.K fun c env => evE cf c b env)) :
    PE X (.Call (.Name (b2N o) p) [y, z] [] pos) (tE X.K fun c env => evE cf c (.bl2 o a b) env) := by
  obtain ⟨hg, hm⟩ := C.blt hb
  have pl : (backTo pos (starEach [z] X.env)).any (·.1) = false := star_any (by show noStar [z] = true; unfold noStar; rw [List.all_cons, hz]; rfl)
  cases o with
  | max => exact pe_imp (pe_callB (b2_max C.calm) hg hm boot_max (pa2 hy hz h h2) (by decide +kernel) (by decide +kernel) (star_cons _ hy) pl) fun _ _ _ q => t_bl2 q
  | min => exact pe_imp (pe_callB (b2_min C.calm) hg hm boot_min (pa2 hy hz h h2) (by decide +kernel) (by decide +kernel) (star_cons _ hy) pl) fun _ _ _ q => t_bl2 q
theorem boot_ty (t : Ty) : bootBuiltins (tyN t : Str) = some (.type (tyN t)) := by
  cases t <;> decide +kernel
theorem ty_names (t : Ty) : (tyN t : Str) ≠ "__name__" ∧ ((tyN t : Str) == ("__debug__" : Str)) = false := by
  cases t <;> exact ⟨by decide +kernel, by decide +kernel⟩
theorem pe_isi {cf : Nat → List A → M A} {t : Ty} {p p2 pos : Pos} {y : Expr} {a : E} (C : Cok X g k) (hb : bltB g "isinstance" = true) (hb2 : bltB g (tyN t : Str) = true) (hy : noStar1 y = true) (h : PE X y (tE X.K fun b env => evE cf b a env)) :
    PE X (.Call (.Name "isinstance" p) [y, .Name (tyN t : Str) p2] [] pos) (tE X.K fun b env => evE cf b (.isi a false [t]) env) := by
  obtain ⟨hg, hm⟩ := C.blt hb
  obtain ⟨hg2, hm2⟩ := C.blt hb2
  have hn : PE X (.Name (tyN t : Str) p2) (tC (.ty (tyN t))) := pe_bltn hg2 hm2 (boot_ty t) rfl (ty_names t).1 (ty_names t).2
  exact pe_imp (pe_callB (is_X t) hg hm boot_isinstance (pa_cons h (pa_cons hn pa_nil rfl) (star_cons _ hy)) (by decide +kernel) (by decide +kernel) (star_cons _ hy) rfl) fun _ _ _ q => t_isi q
theorem pe_cst {cf : Nat → List A → M A} {c : Const} {d : D} {j : Nat} {pos : Pos} (h : cstB c d = true) : PE X (.Constant c j pos) (tE X.K fun b env => evE cf b (.cst d) env) := by
  cases c <;> cases d <;> simp only [cstB] at h <;> try (cases h; done)
  · exact pe_imp pe_non fun _ _ _ q => t_cst (fun _ => rep_non) q
  · have z := eq_of_beq h
    subst z
    exact pe_imp pe_bl fun _ _ _ q => t_cst (fun _ => rep_bl) q
  · have z := of_decide_eq_true h
    subst z
    exact pe_imp pe_int fun _ _ _ q => t_cst (fun _ => rep_int) q
  · have z := of_decide_eq_true h
    subst z
    exact pe_imp pe_str fun _ _ _ q => t_cst (fun _ => rep_str) q
end
end Lo
set_option maxHeartbeats 200000
/-! Core K: the checker of expressions is sound. -/
namespace Lo
open PySem PySem.Spec PyProof.Rows L2
theorem snd_zero : Snd 0 where
  e := fun _ _ _ h => by simp [okE] at h
  t := fun _ _ _ h => by simp [okE] at h
  es := fun _ _ _ h => by simp [okEs] at h
  bs := fun _ _ _ _ _ h => by simp [okBs] at h
  it := fun _ _ _ _ h => by simp [okIt] at h
section
variable {n : Nat} {g : Gx} {k : Nat} {X : Cx}
theorem snd_es (S : Snd n) (C : Cok X g k) {xs : List Expr} {es : Es} (h : okEs (n + 1) g xs es = true) : PA X xs (tL X.K fun b env => evEs (callF g.tab k) b es env) := by
  cases es with
  | nil =>
    unfold okEs at h
    cases xs with
    | nil => exact pa_imp pa_nil fun _ _ _ q => t_nil q
    | cons _ _ => cases h
  | cons i r =>
    unfold okEs at h
    cases xs with
    | nil => cases h
    | cons x xs =>
      simp only [Bool.and_eq_true] at h
      exact pa_imp (pa_cons (S.e C h.1.2) (S.es C h.2) (star_cons _ h.1.1)) fun _ _ _ q => t_cons q
theorem snd_bs (S : Snd n) (C : Cok X g k) {op : Bool} {vs : List Expr} {ir : E} {pos : Pos} (h : okBs (n + 1) g op vs ir = true) :
    PE X (.BoolOp (bop op) vs pos) (tE X.K fun b env => evE (callF g.tab k) b ir env) ∧ PW X (.BoolOp (bop op) vs pos) (tB1 X.K (evT (callF g.tab k) ir)) := by
  unfold okBs at h
  cases vs with
  | nil => cases h
  | cons x r =>
    cases r with
    | nil =>
      refine ⟨pe_one (S.e C h), ?_⟩
      cases op with
      | true => exact pw_and1 (S.t C h)
      | false => exact pw_or1 (S.t C h)
    | cons y r =>
      dsimp only at h
      cases ir <;> dsimp only at h <;> try (cases h; done)
      · rw [Bool.and_eq_true, Bool.and_eq_true] at h
        obtain ⟨⟨rfl, h1⟩, h2⟩ := h
        obtain ⟨p, w⟩ := S.bs C (pos := pos) h2
        exact ⟨pe_imp (pe_andT (S.e C h1) p) fun _ _ _ q => t_and q, pw_imp (pw_and (S.t C h1) w) fun _ _ _ q => tt_and q⟩
      · rw [Bool.and_eq_true, Bool.and_eq_true] at h
        obtain ⟨⟨h0, h1⟩, h2⟩ := h
        have h0 : op = false := by simpa using h0
        subst h0
        obtain ⟨p, w⟩ := S.bs C (pos := pos) h2
        exact ⟨pe_imp (pe_orT (S.e C h1) p) fun _ _ _ q => t_or q, pw_imp (pw_or (S.t C h1) w) fun _ _ _ q => tt_or q⟩
theorem snd_it (S : Snd n) (C : Cok X g k) {tg e : Expr} {it : It} (h : okIt (n + 1) g e it = true) : PI X tg e (tI X.K fun b env => evIt (callF g.tab k) b it env) ∧ ∀ x, foldedSetIterable e X.env x = pure x := by
  unfold okIt at h
  cases it with
  | seq i =>
    dsimp only at h
    rw [Bool.and_eq_true] at h
    exact ⟨pi_seq (S.e C h.2), notSet_iter h.1⟩
  | rng1 a =>
    dsimp only at h
    split at h
    · simp only [Bool.and_eq_true, decide_eq_true_eq] at h
      obtain ⟨⟨⟨rfl, h1⟩, h2⟩, h3⟩ := h
      obtain ⟨hg, hm⟩ := C.blt h1
      exact ⟨pi_rng1 hg hm h2 (S.e C h3), fun _ => rfl⟩
    · cases h
  | rng2 a b =>
    dsimp only at h
    split at h
    · simp only [Bool.and_eq_true, decide_eq_true_eq] at h
      obtain ⟨⟨⟨⟨rfl, h1⟩, h2⟩, h3⟩, h4, h5⟩ := h
      obtain ⟨hg, hm⟩ := C.blt h1
      exact ⟨pi_rng2 hg hm h2 h3 (S.e C h4) (S.e C h5), fun _ => rfl⟩
    · cases h
  | enm _ => cases h
  | zip _ _ => cases h
theorem few {n : Nat} {g : Gx} {xs : List Expr} {es : Es} (h1 : Nat.ble xs.length 1000 = true) (h2 : okEs n g xs es = true) (cf : Nat → List A → M A) : ∀ b env h as h', evEs cf b es env h = .ok as h' → as.length ≤ sizeLine := by
  intro b env h as h' e
  rw [evEs_len e, okEs_len h2]
  rw [Nat.ble_eq] at h1
  exact Nat.le_trans h1 (by decide +kernel)
/-- the parts of a comprehension -/
structure LcP (X : Cx) (elt t iter : Expr) (ifs : List Expr) (scope : Scope) (own : List (Str × Nat)) (wi : TI) (tg : TG) (tt : TT) (te : TE) : Prop where
  it : PI X t iter wi
  ok : BlkOk X.N X.env.scope scope own
  hg : ∀ (s : Shared) (H : Hp) (C : Addr) (cl : List (Str × Addr)) (fp : List Addr), PG (X.blk s H scope (compEnvC scope cl C X.env) fp) t tg
  ht : ∀ (s : Shared) (H : Hp) (C : Addr) (cl : List (Str × Addr)) (fp : List Addr), PTs (X.blk s H scope (compEnvC scope cl C X.env) fp) ifs tt
  he : ∀ (s : Shared) (H : Hp) (C : Addr) (cl : List (Str × Addr)) (fp : List Addr), PE (X.blk s H scope (compEnvC scope cl C X.env) fp) elt te
  hs : ∀ x, foldedSetIterable iter X.env x = pure x
theorem lc_parts (S : Snd n) (C : Cok X g k) {elt t iter : Expr} {scope : Scope} {body : E} {own : List Nat} {tg : Tg} {it : It} (h1 : okBlk g scope own = true) (h3 : okIt n g iter it = true) (h4 : okTg (blkG g scope) t tg = true) (h5 : okE n (blkG g scope) elt body = true) :
    LcP X elt t iter [] scope (ownL g.N own) (tI X.K fun b env => evIt (callF g.tab k) b it env) (tTg X.K tg) tYes (tE X.K fun b env => evE (callF g.tab k) b body env) :=
  ⟨(S.it C h3).1, C.blkOk h1, fun s H A cl fp => pg_tg (C.blk h1 s H A cl fp) h4, fun _ _ _ _ _ => pts_nil, fun s H A cl fp => S.e (C.blk h1 s H A cl fp) h5, (S.it (tg := t) C h3).2⟩
theorem lcI_parts (S : Snd n) (C : Cok X g k) {elt t iter ce : Expr} {scope : Scope} {body c : E} {own : List Nat} {tg : Tg} {it : It} (h1 : okBlk g scope own = true) (h3 : okIt n g iter it = true) (h4 : okTg (blkG g scope) t tg = true) (h5 : okE n (blkG g scope) elt body = true) (h6 : okE n (blkG g scope) ce c = true) :
    LcP X elt t iter [ce] scope (ownL g.N own) (tI X.K fun b env => evIt (callF g.tab k) b it env) (tTg X.K tg) (tB1 X.K (evT (callF g.tab k) c)) (tE X.K fun b env => evE (callF g.tab k) b body env) :=
  ⟨(S.it C h3).1, C.blkOk h1, fun s H A cl fp => pg_tg (C.blk h1 s H A cl fp) h4, fun s H A cl fp => pts_one (S.t (C.blk h1 s H A cl fp) h6), fun s H A cl fp => S.e (C.blk h1 s H A cl fp) h5, (S.it (tg := t) C h3).2⟩
theorem pe_callX (C : Cok X g k) {f : Nat} {fn : Fn} {x : Str} {xs : List Expr} {es : Es} {p pos : Pos} (hf : g.tab[f]? = some fn) (h0 : fn.name = x) (h1 : glB g x = true) (h2 : (x == ("__debug__" : Str)) = false) (h3 : noStar xs = true)
    (ha : PA X xs (tL X.K fun b env => evEs (callF g.tab k) b es env)) (hl : es.len = xs.length) : PE X (.Call (.Name x p) xs [] pos) (tE X.K fun b env => evE (callF g.tab k) b (.call f es) env) := by
  subst h0
  obtain ⟨a, fd, ps, hm, hk, hb, F⟩ := C.cs.at_ f fn hf
  refine pe_imp (?_ : PE X _ (tCall (spF X.K g.tab k f) [] E0 (tL X.K fun b env => evEs (callF g.tab k) b es env))) fun _ _ _ q => t_call q
  cases xs with
  | nil =>
    have z : es = .nil := by
      cases es with
      | nil => rfl
      | cons _ _ => simp [Es.len] at hl
    subst z
    refine pe_imp (pe_call0 F C.rm (C.gl h1) hm hk hb .nil pass0 h2) fun _ _ _ q => ?_
    exact t_nil q
  | cons y ys =>
    have hy : noStar1 y = true ∧ noStar ys = true := by simpa [noStar] using h3
    exact pe_call F C.rm (C.gl h1) hm hk hb .nil pass0 ha h2 (star_cons _ hy.1) (star_any hy.2)
/-- both: the value, and whether its test is its value's truth -/
theorem snd_e (S : Snd n) (C : Cok X g k) {e : Expr} {ir : E} (h : okE (n + 1) g e ir = true) :
    PE X e (tE X.K fun b env => evE (callF g.tab k) b ir env) ∧ PT X e (tB1 X.K (evT (callF g.tab k) ir)) := by
  have both : ∀ {e : Expr}, plainT e = true → PE X e (tE X.K fun b env => evE (callF g.tab k) b ir env) → PE X e (tE X.K fun b env => evE (callF g.tab k) b ir env) ∧ PT X e (tB1 X.K (evT (callF g.tab k) ir)) := fun hp he => ⟨he, pt_of hp he⟩
  unfold okE at h
  cases ir with
  | var i =>
    dsimp only at h
    split at h
    · simp only [Bool.and_eq_true, decide_eq_true_eq] at h
      exact both rfl (pe_imp (pe_var (by rw [C.N]; exact h.1) (C.vis h.2) (C.dbg h.1).1 (C.dbg h.1).2) fun _ _ _ q => t_var q)
    · cases h
  | cst d =>
    dsimp only at h
    split at h
    · exact both rfl (pe_cst h)
    · cases h
  | glb _ _ => cases h
  | tup keep es =>
    dsimp only at h
    split at h
    · rw [Bool.and_eq_true] at h
      exact both rfl (pe_imp (pe_tup (S.es C h.2)) fun _ _ _ q => t_tup (few h.1 h.2 _) q)
    · cases h
  | lst m es =>
    dsimp only at h
    split at h
    · rw [Bool.and_eq_true] at h
      exact both rfl (pe_imp (pe_lst (S.es C h.2)) fun _ _ _ q => t_lst (few h.1 h.2 _) q)
    · cases h
  | op m o a b =>
    dsimp only at h
    split at h
    · simp only [Bool.and_eq_true, decide_eq_true_eq] at h
      obtain ⟨rfl, h1, h2⟩ := h
      exact both rfl (pe_imp (pe_op (op_X o) (S.e C h1) (S.e C h2)) fun _ _ _ q => t_op q)
    · cases h
  | neg a =>
    dsimp only at h
    split at h
    · exact both rfl (pe_imp (pe_un un_neg (S.e C h)) fun _ _ _ q => t_neg q)
    · cases h
  | cmp o a b =>
    dsimp only at h
    split at h
    · simp only [Bool.and_eq_true, decide_eq_true_eq] at h
      obtain ⟨⟨rfl, h0⟩, h1, h2⟩ := h
      exact ⟨pe_imp (pe_cmpR (cmp_X o C.un) (S.e C h1) (S.e C h2) (notSet_mark h0 _)) fun _ _ _ q => t_cmp q,
        pt_imp (pt_cmpR (cmp_X o C.un) (S.e C h1) (S.e C h2) (notSet_mark h0 _)) fun _ _ _ q => t_cmp (tt_bl cmp_bl q)⟩
    · cases h
  | chain o o2 a b c =>
    dsimp only at h
    split at h
    · simp only [Bool.and_eq_true, decide_eq_true_eq] at h
      obtain ⟨⟨⟨rfl, rfl⟩, h0⟩, h1, h2, h3⟩ := h
      exact ⟨pe_imp (pe_chain (cmp_X o C.un) (cmp_X o2 C.un) (S.e C h1) (S.e C h2) (S.e C h3) (notSet_mark h0 _)) fun _ _ _ q => t_chain q,
        pt_imp (pt_chain (cmp_X o C.un) (cmp_X o2 C.un) (S.e C h1) (S.e C h2) (S.e C h3) (notSet_mark h0 _)) fun _ _ _ q => t_chain (tt_bl chain_bl q)⟩
    · cases h
  | and a b =>
    dsimp only at h
    split at h
    · obtain ⟨p, w⟩ := S.bs C (op := true) h
      exact ⟨p, w.pt⟩
    · cases h
  | or a b =>
    dsimp only at h
    split at h
    · obtain ⟨p, w⟩ := S.bs C (op := false) h
      exact ⟨p, w.pt⟩
    · cases h
  | not a =>
    dsimp only at h
    split at h
    · exact ⟨pe_imp (pe_notT (S.e C h)) fun _ _ _ q => t_not q, pt_imp (L2.pt_not (S.t C h)) fun _ _ _ q => tt_not q⟩
    · cases h
  | ite c a b =>
    dsimp only at h
    split at h
    · simp only [Bool.and_eq_true] at h
      obtain ⟨h1, h2, h3⟩ := h
      exact ⟨pe_imp (pe_ifExp (S.t C h1) (S.e C h2) (S.e C h3)) fun _ _ _ q => t_ite q, pt_imp (pt_ifExp (S.t C h1) (S.t C h2) (S.t C h3)) fun _ _ _ q => tt_ite q⟩
    · cases h
  | idx a b =>
    dsimp only at h
    split at h
    · simp only [Bool.and_eq_true] at h
      have hu := C.un
      exact both rfl (pe_imp (pe_ix (ix_X (by omega)) (S.e C h.2.1) (S.e C h.2.2) (notSlice_ix h.1)) fun _ _ _ q => t_idx q)
    · cases h
  | slL m a l =>
    dsimp only at h
    split at h
    · simp only [Bool.and_eq_true] at h
      exact both rfl (pe_imp (pe_slice slc_X (S.e C h.1) (po_some (S.e C h.2)) po_none) fun _ _ _ q => t_slL q)
    · cases h
  | slU m a u =>
    dsimp only at h
    split at h
    · simp only [Bool.and_eq_true] at h
      exact both rfl (pe_imp (pe_slice slc_X (S.e C h.1) po_none (po_some (S.e C h.2))) fun _ _ _ q => t_slU q)
    · cases h
  | slB m a l u =>
    dsimp only at h
    split at h
    · simp only [Bool.and_eq_true] at h
      exact both rfl (pe_imp (pe_slice slc_X (S.e C h.1) (po_some (S.e C h.2.1)) (po_some (S.e C h.2.2))) fun _ _ _ q => t_slB q)
    · cases h
  | rev m a =>
    dsimp only at h
    split at h
    · simp only [Bool.and_eq_true, decide_eq_true_eq] at h
      obtain ⟨rfl, h1⟩ := h
      exact both rfl (pe_imp (pe_revL (S.e C h1)) fun _ _ _ q => t_rev q)
    · cases h
  | call f es =>
    dsimp only at h
    split at h
    · split at h
      · rename_i fn hf
        simp only [Bool.and_eq_true, decide_eq_true_eq, Bool.not_eq_true'] at h
        obtain ⟨⟨⟨⟨h0, h1⟩, h2⟩, h3⟩, h4⟩ := h
        exact both rfl (pe_callX C hf h0 h1 h2 h3 (S.es C h4) (okEs_len h4))
      · cases h
    · cases h
  | bl1 o m a =>
    dsimp only at h
    split at h
    · simp only [Bool.and_eq_true, decide_eq_true_eq] at h
      obtain ⟨⟨⟨rfl, h1⟩, h2⟩, h3⟩ := h
      exact both rfl (pe_bl1 C h1 h2 (S.e C h3))
    · cases h
  | bl2 o a b =>
    dsimp only at h
    split at h
    · simp only [Bool.and_eq_true, decide_eq_true_eq] at h
      obtain ⟨⟨⟨⟨rfl, h1⟩, h2⟩, h3⟩, h4, h5⟩ := h
      exact both rfl (pe_bl2 C h1 h2 h3 (S.e C h4) (S.e C h5))
    · cases h
  | isi a tp ts =>
    dsimp only at h
    cases tp with
    | true => cases h
    | false =>
      dsimp only at h
      split at h
      · split at h
        · simp only [Bool.and_eq_true, decide_eq_true_eq] at h
          obtain ⟨⟨⟨⟨⟨rfl, h1⟩, rfl⟩, h3⟩, h4⟩, h5⟩ := h
          exact both rfl (pe_isi C h1 h3 h4 (S.e C h5))
        · cases h
      · cases h
  | mt1 _ _ _ _ => cases h
  | mt0 _ _ _ => cases h
  | lc m body own tg it =>
    dsimp only at h
    split at h
    · simp only [Bool.and_eq_true, decide_eq_true_eq] at h
      obtain ⟨⟨⟨⟨⟨rfl, h1⟩, h2⟩, h3⟩, h4⟩, h5⟩ := h
      have p := lc_parts S C h1 h3 h4 h5
      have q := pe_lc (pos := ‹Pos›) C.calm C.nd p.it p.ok p.hg p.ht p.he p.hs
      rw [ownL_map] at q
      exact both rfl (pe_imp q fun _ _ _ q => t_lc (mono_callF _ _) h2 q)
    · cases h
  | lcI m body own tg it c =>
    dsimp only at h
    split at h
    · simp only [Bool.and_eq_true, decide_eq_true_eq] at h
      obtain ⟨⟨⟨⟨⟨rfl, h1⟩, h2⟩, h3⟩, h4⟩, h5, h6⟩ := h
      have p := lcI_parts S C h1 h3 h4 h5 h6
      have q := pe_lc (pos := ‹Pos›) C.calm C.nd p.it p.ok p.hg p.ht p.he p.hs
      rw [ownL_map] at q
      exact both rfl (pe_imp q fun _ _ _ q => t_lcI (mono_callF _ _) h2 q)
    · cases h
theorem snd : ∀ n : Nat, Snd n
  | 0 => snd_zero
  | n + 1 => ⟨fun C _ _ h => (snd_e (snd n) C h).1, fun C _ _ h => (snd_e (snd n) C h).2, fun C _ _ h => snd_es (snd n) C h, fun C _ _ _ _ h => snd_bs (snd n) C h, fun C _ _ _ h => snd_it (snd n) C h⟩
end
end Lo
set_option maxHeartbeats 200000
/-! Core L: the checker of statements, and that it is sound. -/
namespace Lo
open PySem PySem.Spec PyProof.Rows L2
def PostF (K : PySem.W.Frag) (F : Hp) (ρ : List Addr) (h' : Hh) (D : Ends) : Fl → Prop
  | .nx env => ∀ σ F' ρ' H', Ex F F' → ρ <+: ρ' → Sim K F' ρ' H' h' → EnvOk K F' ρ' σ env → D.nx σ H'
  | .rt a => Post K F ρ h' a D.rt
  | .bk env => ∀ σ F' ρ' H', Ex F F' → ρ <+: ρ' → Sim K F' ρ' H' h' → EnvOk K F' ρ' σ env → D.bk σ H'
  | .ct env => ∀ σ F' ρ' H', Ex F F' → ρ <+: ρ' → Sim K F' ρ' H' h' → EnvOk K F' ρ' σ env → D.ct σ H'
def tS (K : PySem.W.Frag) (ev : Nat → En → M Fl) : TS := fun D σ H => ∃ b F ρ env h fl h', Sim K F ρ H h ∧ EnvOk K F ρ σ env ∧ ev b env h = .ok fl h' ∧ PostF K F ρ h' D fl
def notSD : Expr → Bool
  | .SetComp .. => false
  | .DictComp .. => false
  | _ => true
def notLc : Expr → Bool
  | .ListComp .. => false
  | .SetComp .. => false
  | .DictComp .. => false
  | _ => true
def notTup : Expr → Bool
  | .Tuple .. => false
  | _ => true
def notCall0 : Expr → Bool
  | .Call (.Name _ _) [] [] _ => false
  | _ => true
def swapB (g : Gx) (v : Expr) (y : Str) (py : Pos) : Bool := match v with
  | .ListComp _ _ s vp => decide (g.sc.names.lookup y = some .local) && (py.line == vp.line) && !(s.names.any fun (n, k) => n == y && (k == .local || k == .cell))
  | _ => false
mutual
def okS : Nat → Gx → Stmt → S → Bool
  | 0, _, _, _ => false
  | n + 1, g, st, ir => match ir with
    | .set tg e => (match st with
      | .Assign [t] v _ => (match tg with
        | .one i => (match t with
          | .Name y _ => nmB g i y && notSD v && okE n g v e
          | _ => false)
        | .many is => (match t with
          | .Tuple es _ _ => okNms g es is && notTup v && okE n g v e
          | _ => false))
      | _ => false)
    | .put o i e => (match st with
      | .Assign [.Subscript x y _] v _ => notSlice y && okE n g v e && (okE n g x o && okE n g y i)
      | _ => false)
    | .app o e => (match st with
      | .Expr (.Call (.Attribute x m ap) [y] [] cp) _ => decide (m = "append") && notCall0 x && noStar1 y && (ap.endLine == cp.line) && (okE n g x o && okE n g y e)
      | _ => false)
    | .aug _ _ _ => false
    | .augL _ _ => false
    | .exp e => (match st with
      | .Expr x _ => notLc x && okE n g x e
      | _ => false)
    | .ret e => (match st with
      | .Return (some x) _ => okE n g x e
      | _ => false)
    | .retN => (match st with
      | .Return none _ => true
      | _ => false)
    | .ite c a b => (match st with
      | .If x y z _ => okE n g x c && (okSs n g y a && okSs n g z b)
      | _ => false)
    | .for_ tg it body => (match st with
      | .For t i b [] _ => okTg g t tg && (okIt n g i it && okSs n g b body)
      | _ => false)
    | .whl c body => (match st with
      | .While x b [] _ => okE n g x c && okSs n g b body
      | _ => false)
    | .pass => (match st with
      | .Pass _ => true
      | _ => false)
    | .brk => (match st with
      | .Break _ => true
      | _ => false)
    | .cnt => (match st with
      | .Continue _ => true
      | _ => false)
def okSs : Nat → Gx → List Stmt → Ss → Bool
  | 0, _, _, _ => false
  | n + 1, g, sts, ir => match ir with
    | .nil => sts.isEmpty
    | .cons s r => (match sts with
      | st :: sts => okS n g st s && okSs n g sts r
      | [] => false)
end
section
variable {K : PySem.W.Frag} {F F1 H : Hp} {ρ ρ1 : List Addr} {h h' : Hh} {cf : Nat → List A → M A} {σ : L2.St} {D : Ends}
theorem PostF.later {fl : Fl} (q : PostF K F ρ h' D fl) (e : Ex F F1) (p : ρ <+: ρ1) : PostF K F1 ρ1 h' D fl := by
  cases fl with
  | nx env => exact fun σ F' ρ' H' e' p' => q σ F' ρ' H' (e.trans e') (p.trans p')
  | bk env => exact fun σ F' ρ' H' e' p' => q σ F' ρ' H' (e.trans e') (p.trans p')
  | ct env => exact fun σ F' ρ' H' e' p' => q σ F' ρ' H' (e.trans e') (p.trans p')
  | rt a => exact Post.later q e p
theorem PostF.next {env : En} (q : PostF K F ρ h' D (.nx env)) (S : Sim K F ρ H h') (E : EnvOk K F ρ σ env) : D.nx σ H := q σ F ρ H (.refl _) (List.prefix_refl _) S E
/-! ### stores -/
def rSt (K : PySem.W.Frag) : TSet := fun o i v H Q => ∃ F ρ h b a d y h', Sim K F ρ H h ∧ RepA K F ρ a o ∧ RepS K F H d i ∧ RepA K F ρ y v ∧ storeA b a d y h = .ok () h' ∧ ∀ H', Sim K F ρ H' h' → Q H'
theorem putA_rep {k : Key} {d : A} {v : V} (r : RepA K F ρ d v) : ∀ {ks : List Key} {as : List A} {kvs : List (Key × V)}, kvs.map (·.1) = ks → RepAL K F ρ as (kvs.map (·.2)) →
    (putK kvs k v).map (·.1) = (putP (ks.zip as) k d).map (·.1) ∧ RepAL K F ρ ((putP (ks.zip as) k d).map (·.2)) ((putK kvs k v).map (·.2)) := by
  intro ks as kvs hk l
  have hz : (ks.zip as).map (·.1) = ks := by
    rw [List.map_fst_zip]
    have := l.length
    rw [← hk]
    simp at this ⊢
    omega
  have hz2 : (ks.zip as).map (·.2) = as := by
    rw [List.map_snd_zip]
    have := l.length
    rw [← hk]
    simp at this ⊢
    omega
  generalize ks.zip as = ps at hz hz2
  subst hz hz2
  have ha : (kvs.any fun kv => decide (kv.1 = k)) = ps.any fun p => decide (p.1 = k) := by
    have e1 : (kvs.any fun kv => decide (kv.1 = k)) = (kvs.map (·.1)).any fun j => decide (j = k) := by rw [List.any_map]; rfl
    have e2 : (ps.any fun kv => decide (kv.1 = k)) = (ps.map (·.1)).any fun j => decide (j = k) := by rw [List.any_map]; rfl
    rw [e1, e2, hk]
  unfold putK putP
  rw [ha]
  by_cases hb : (ps.any fun p => decide (p.1 = k)) = true
  · rw [if_pos hb, if_pos hb]
    clear ha hb
    induction ps generalizing kvs with
    | nil =>
      cases kvs with
      | nil => exact ⟨rfl, .nil⟩
      | cons _ _ => cases hk
    | cons p ps ih =>
      cases kvs with
      | nil => cases hk
      | cons kv kvs =>
        simp only [List.map_cons, List.cons.injEq] at hk
        obtain ⟨x, r', z, r1, r2⟩ := repAL_cons l
        rw [List.map_cons] at z
        cases z
        obtain ⟨i1, i2⟩ := ih hk.2 r2
        rw [List.map_cons, List.map_cons, List.map_cons, List.map_cons, List.map_cons, List.map_cons]
        by_cases hp : p.1 = k
        · rw [if_pos hp, if_pos (hk.1.trans hp)]
          exact ⟨by rw [i1]; rw [hk.1], .cons r i2⟩
        · rw [if_neg hp, if_neg (fun z => hp (hk.1.symm.trans z))]
          exact ⟨by rw [i1]; rw [hk.1], .cons r1 i2⟩
  · rw [if_neg hb, if_neg hb]
    refine ⟨by simp [hk], ?_⟩
    rw [List.map_append, List.map_append]
    exact l.append (.cons r .nil)
theorem keyS_rep {d : Lo.D} {k : Key} {v : V} (e : keyOf d = some k) (r : RepS K F H d v) : v = kV k := by
  cases d <;> simp only [keyOf] at e <;> try (cases e; done)
  · cases e; exact r
  · cases e; exact r
theorem set_X {X : Cx} (hu : X.A.units + 1 < cLine) : PSet X (rSt X.K) := by
  intro pins s σ H o i v ov iv u Q I ro ri rv ⟨F, ρ, h, b, a, d, y, h', S, ra, rd, ry, e, q⟩
  unfold storeA at e
  cases a with
  | val _ => cases e
  | tup _ => cases e
  | ref n =>
    dsimp only at e
    unfold RepA at ra
    obtain ⟨p, hp, rfl⟩ := ra
    obtain ⟨c, e1, rc, _, _⟩ := S.at_ hp
    rw [e1] at e
    cases hm : may b n y with
    | false => rw [hm] at e; cases e
    | true =>
      rw [hm] at e
      cases c with
      | dead => cases e
      | lst as =>
        obtain ⟨xs, hx, l⟩ := rc
        dsimp only at e
        cases d <;> dsimp only at e <;> try (cases e; done)
        split at e
        · rename_i j hj
          cases e
          exact set_list pins s σ H _ i v ov iv u Q I ro ri rv ⟨p, xs, _, j, rfl, rd, hx, by rw [← l.length]; exact hj, q _ (S.put e1 hp (by intro z; cases z) ⟨_, upd_same, l.set ry j⟩)⟩
        · cases e
      | dct ks as =>
        obtain ⟨kvs, hx, hk, l⟩ := rc
        dsimp only at e
        cases ek : keyOf d with
        | none => rw [ek] at e; cases e
        | some key =>
          rw [ek] at e
          dsimp only at e
          cases hl : decide (ks.length < sizeLine) with
          | false => rw [hl] at e; cases e
          | true =>
            rw [hl] at e
            cases e
            obtain ⟨p1, p2⟩ := putA_rep (k := key) ry hk l
            have hl : kvs.length < sizeLine := by
              have := of_decide_eq_true hl
              rw [← hk] at this
              simpa using this
            refine set_dict hu pins s σ H _ i v ov iv u Q I ro ri rv ⟨p, _, rfl, ?_, q _ (S.put e1 hp (by intro z; cases z) ⟨putK kvs key v, upd_same, p1, p2⟩)⟩
            rw [keyS_rep ek rd]
            exact .k hx hl
/-! ### what the statements ask -/
theorem s_set {tg : Tg} {e : E} (q : tS K (fun b env => evS cf b (.set tg e) env) D σ H) : tAsg (tE K fun b env => evE cf b e env) (tTg K tg) D σ H := by
  obtain ⟨b, F, ρ, env, h, fl, h', S, E, e, q⟩ := q
  dsimp only at e
  rw [evS] at e
  obtain ⟨a, h1, e1, e⟩ := bind_ok e
  obtain ⟨env', _, e2, e⟩ := bind_ok e
  replace e2 := lift_ok e2
  obtain ⟨e2, rfl⟩ := e2
  obtain ⟨rfl, rfl⟩ := pure_ok e
  exact ⟨b, F, ρ, env, h, a, _, S, E, e1, fun v F1 ρ1 H1 x1 p1 S1 r1 => bind_rep S1.ex e2 (E.mono x1 p1) r1 fun σ' E' _ => (q.later x1 p1).next S1 E'⟩
theorem s_put {o i e : E} (q : tS K (fun b env => evS cf b (.put o i e) env) D σ H) : tAsg (tE K fun b env => evE cf b e env) (gSub (tE K fun b env => evE cf b o env) (tE K fun b env => evE cf b i env) (rSt K)) D σ H := by
  obtain ⟨b, F, ρ, env, h, fl, h', S, E, e, q⟩ := q
  dsimp only at e
  rw [evS] at e
  obtain ⟨y, h1, e1, e⟩ := bind_ok e
  obtain ⟨x, h2, e2, e⟩ := bind_ok e
  obtain ⟨j, h3, e3, e⟩ := bind_ok e
  obtain ⟨d, _, e4, e⟩ := bind_ok e
  replace e4 := sf_ok e4
  obtain ⟨e4, rfl⟩ := e4
  obtain ⟨_, h4, e5, e⟩ := bind_ok e
  obtain ⟨rfl, rfl⟩ := pure_ok e
  refine ⟨b, F, ρ, env, h, y, h1, S, E, e1, fun v F1 ρ1 H1 x1 p1 S1 r1 => ⟨b, F1, ρ1, env, h1, x, h2, S1, E.mono x1 p1, e2, fun v2 F2 ρ2 H2 x2 p2 S2 r2 => ⟨b, F2, ρ2, env, h2, j, h3, S2, (E.mono x1 p1).mono x2 p2, e3, fun v3 F3 ρ3 H3 x3 p3 S3 r3 => ?_⟩⟩⟩
  exact ⟨F3, ρ3, h3, b, x, d, y, _, S3, r2.mono x3 p3, sf_rep S3 e4 r3, (r1.mono x2 p2).mono x3 p3, e5, fun H' S' => (q.later ((x1.trans x2).trans x3) ((p1.trans p2).trans p3)).next S' (((E.mono x1 p1).mono x2 p2).mono x3 p3)⟩
theorem s_app {o e : E} (q : tS K (fun b env => evS cf b (.app o e) env) D σ H) : tDrop (tBM K "list" rAppend (tE K fun b env => evE cf b o env) (tCons (tE K fun b env => evE cf b e env) tNil)) D σ H := by
  obtain ⟨b, F, ρ, env, h, fl, h', S, E, e, q⟩ := q
  dsimp only at e
  rw [evS] at e
  obtain ⟨x, h1, e1, e⟩ := bind_ok e
  obtain ⟨kd, h2, e2, e⟩ := bind_ok e
  obtain ⟨_, _, e3, e⟩ := bind_ok e
  replace e3 := chk_ok e3
  obtain ⟨e3, rfl⟩ := e3
  obtain ⟨y, h3, e4, e⟩ := bind_ok e
  obtain ⟨_, h4, e5, e⟩ := bind_ok e
  obtain ⟨rfl, rfl⟩ := pure_ok e
  unfold appA at e5
  cases x with
  | val _ => cases e5
  | tup _ => cases e5
  | ref n =>
    obtain ⟨_, _, e6, e5⟩ := bind_ok e5
    replace e6 := chk_ok e6
    obtain ⟨e6, rfl⟩ := e6
    refine ⟨b, F, ρ, env, h, _, h1, S, E, e1, fun v F1 ρ1 H1 x1 p1 S1 r1 => ?_⟩
    unfold RepA at r1
    obtain ⟨p, hp, rfl⟩ := r1
    have e2' := e2
    simp only [kindA] at e2'
    obtain ⟨c, e7, rc, _, _⟩ := S1.at_ hp
    rw [e7] at e2'
    cases c with
    | dead => cases e2'
    | dct ks as => cases e2'; cases e3
    | lst as =>
      cases e2'
      obtain ⟨xs, hx, _⟩ := rc
      refine ⟨.inl ⟨rfl, xs, sl_of hx⟩, b, F1, ρ1, env, h1, y, h3, S1, E.mono x1 p1, e4, fun w F2 ρ2 H2 x2 p2 S2 r2 => ?_⟩
      obtain ⟨acc, a1, a2, S3⟩ := push_rep S2 r2 e5 (pre_get p2 hp)
      exact ⟨p, acc, w, rfl, rfl, a1, a2, (q.later (x1.trans x2) (p1.trans p2)).next S3 ((E.mono x1 p1).mono x2 p2)⟩
theorem s_exp {e : E} (q : tS K (fun b env => evS cf b (.exp e) env) D σ H) : tDrop (tE K fun b env => evE cf b e env) D σ H := by
  obtain ⟨b, F, ρ, env, h, fl, h', S, E, e, q⟩ := q
  dsimp only at e
  rw [evS] at e
  obtain ⟨x, h1, e1, e⟩ := bind_ok e
  obtain ⟨rfl, rfl⟩ := pure_ok e
  exact ⟨b, F, ρ, env, h, x, _, S, E, e1, fun v F1 ρ1 H1 x1 p1 S1 r1 => (q.later x1 p1).next S1 (E.mono x1 p1)⟩
theorem s_ret {e : E} (q : tS K (fun b env => evS cf b (.ret e) env) D σ H) : tRet (tE K fun b env => evE cf b e env) D σ H := by
  obtain ⟨b, F, ρ, env, h, fl, h', S, E, e, q⟩ := q
  dsimp only at e
  rw [evS] at e
  obtain ⟨x, h1, e1, e⟩ := bind_ok e
  obtain ⟨rfl, rfl⟩ := pure_ok e
  exact ⟨b, F, ρ, env, h, x, _, S, E, e1, q⟩
theorem s_retN (q : tS K (fun b env => evS cf b .retN env) D σ H) : tRetN D σ H := by
  obtain ⟨b, F, ρ, env, h, fl, h', S, E, e, q⟩ := q
  dsimp only at e
  rw [evS] at e
  obtain ⟨rfl, rfl⟩ := pure_ok e
  exact Post.val q S rep_non
theorem s_pass (q : tS K (fun b env => evS cf b .pass env) D σ H) : tNext D σ H := by
  obtain ⟨b, F, ρ, env, h, fl, h', S, E, e, q⟩ := q
  dsimp only at e
  rw [evS] at e
  obtain ⟨rfl, rfl⟩ := pure_ok e
  exact q.next S E
theorem s_brk (q : tS K (fun b env => evS cf b .brk env) D σ H) : tBreak D σ H := by
  obtain ⟨b, F, ρ, env, h, fl, h', S, E, e, q⟩ := q
  dsimp only at e
  rw [evS] at e
  obtain ⟨rfl, rfl⟩ := pure_ok e
  exact q σ F ρ H (.refl _) (List.prefix_refl _) S E
theorem s_cnt (q : tS K (fun b env => evS cf b .cnt env) D σ H) : tCont D σ H := by
  obtain ⟨b, F, ρ, env, h, fl, h', S, E, e, q⟩ := q
  dsimp only at e
  rw [evS] at e
  obtain ⟨rfl, rfl⟩ := pure_ok e
  exact q σ F ρ H (.refl _) (List.prefix_refl _) S E
theorem s_ite {c : E} {x y : Ss} (q : tS K (fun b env => evS cf b (.ite c x y) env) D σ H) : tIfS (tB1 K (evT cf c)) (tS K fun b env => evSs cf b x env) (tS K fun b env => evSs cf b y env) D σ H := by
  obtain ⟨b, F, ρ, env, h, fl, h', S, E, e, q⟩ := q
  dsimp only at e
  rw [evS] at e
  obtain ⟨a, h1, e1, e⟩ := bind_ok e
  obtain ⟨t, h2, e2, e⟩ := bind_ok e
  refine ⟨b, F, ρ, env, h, t, h2, S, E, bind_mk e1 e2, fun F1 ρ1 H1 x1 p1 S1 => ?_⟩
  cases t with
  | true =>
    rw [if_pos rfl]
    exact ⟨b, F1, ρ1, env, h2, fl, h', S1, E.mono x1 p1, e, q.later x1 p1⟩
  | false =>
    rw [if_neg Bool.false_ne_true]
    exact ⟨b, F1, ρ1, env, h2, fl, h', S1, E.mono x1 p1, e, q.later x1 p1⟩
theorem ss_nil (q : tS K (fun b env => evSs cf b .nil env) D σ H) : D.nx σ H := by
  obtain ⟨b, F, ρ, env, h, fl, h', S, E, e, q⟩ := q
  dsimp only at e
  rw [evSs] at e
  obtain ⟨rfl, rfl⟩ := pure_ok e
  exact q.next S E
theorem ss_cons {s : S} {r : Ss} (q : tS K (fun b env => evSs cf b (.cons s r) env) D σ H) : tS K (fun b env => evS cf b s env) { D with nx := fun σ' H' => tS K (fun b env => evSs cf b r env) D σ' H' } σ H := by
  obtain ⟨b, F, ρ, env, h, fl, h', S, E, e, q⟩ := q
  dsimp only at e
  rw [evSs] at e
  obtain ⟨fl1, h1, e1, e⟩ := bind_ok e
  refine ⟨b, F, ρ, env, h, fl1, h1, S, E, e1, ?_⟩
  cases fl1 with
  | nx env' => exact fun σ1 F1 ρ1 H1 x1 p1 S1 E1 => ⟨b, F1, ρ1, env', h1, fl, h', S1, E1, e, q.later x1 p1⟩
  | rt a => obtain ⟨rfl, rfl⟩ := pure_ok e; exact q
  | bk env' => obtain ⟨rfl, rfl⟩ := pure_ok e; exact q
  | ct env' => obtain ⟨rfl, rfl⟩ := pure_ok e; exact q
theorem s_for {tg : Tg} {it : It} {body : Ss} (q : tS K (fun b env => evS cf b (.for_ tg it body) env) D σ H) : tFor (tI K fun b env => evIt cf b it env) (tTg K tg) (tS K fun b env => evSs cf b body env) D σ H := by
  obtain ⟨b, F, ρ, env, h, fl, h', S, E, e, q⟩ := q
  dsimp only at e
  rw [evS] at e
  obtain ⟨items, h1, e1, e⟩ := bind_ok e
  refine ⟨b, F, ρ, env, h, items, h1, S, E, e1, fun J F1 ρ1 H1 x1 p1 S1 W => ?_⟩
  refine for_it W.walk (fun i σ H => ∃ F2 ρ2 hh env2, Ex F1 F2 ∧ ρ1 <+: ρ2 ∧ Sim K F2 ρ2 H hh ∧ EnvOk K F2 ρ2 σ env2 ∧ forL (fun a env => M.bind (M.lift (bindT tg a env)) fun env' => evSs cf b body env') (items.drop i) env2 hh = .ok fl h') ?_ ?_ ?_ ?_
  · exact ⟨F1, ρ1, h1, env, .refl _, List.prefix_refl _, S1, E.mono x1 p1, e⟩
  · rintro i σ2 H2 _ ⟨F2, ρ2, hh, env2, x2, _, S2, _⟩
    exact x2.trans S2.ex
  · rintro i v σ2 H2 H3 hi ⟨F2, ρ2, hh, env2, x2, p2, S2, E2, e2⟩ y
    have ha : items[i]? = some items[i] := List.getElem?_eq_getElem hi
    obtain ⟨F3, x3, S3, r3⟩ := y _ ha F2 ρ2 hh x2 p2 S2
    rw [List.drop_eq_getElem_cons hi] at e2
    unfold forL at e2
    obtain ⟨fl1, hh2, e3, e4⟩ := bind_ok e2
    obtain ⟨env', _, e5, e6⟩ := bind_ok e3
    replace e5 := lift_ok e5
    obtain ⟨e5, rfl⟩ := e5
    refine bind_rep S3.ex e5 (E2.mono x3 (List.prefix_refl _)) r3 fun σ3 E3 _ => ⟨b, F3, ρ2, env', hh, fl1, hh2, S3, E3, e6, ?_⟩
    cases fl1 with
    | nx env3 => exact fun σ4 F4 ρ4 H4 x4 p4 S4 E4 => ⟨F4, ρ4, hh2, env3, (x2.trans x3).trans x4, p2.trans p4, S4, E4, e4⟩
    | ct env3 => exact fun σ4 F4 ρ4 H4 x4 p4 S4 E4 => ⟨F4, ρ4, hh2, env3, (x2.trans x3).trans x4, p2.trans p4, S4, E4, e4⟩
    | bk env3 =>
      obtain ⟨rfl, rfl⟩ := pure_ok e4
      exact fun σ4 F4 ρ4 H4 x4 p4 S4 E4 => q σ4 F4 ρ4 H4 (((x1.trans x2).trans x3).trans x4) ((p1.trans p2).trans p4) S4 E4
    | rt a =>
      obtain ⟨rfl, rfl⟩ := pure_ok e4
      exact Post.later q ((x1.trans x2).trans x3) (p1.trans p2)
  · rintro σ2 H2 ⟨F2, ρ2, hh, env2, x2, p2, S2, E2, e2⟩
    rw [List.drop_of_length_le (Nat.le_refl _)] at e2
    obtain ⟨rfl, rfl⟩ := pure_ok e2
    exact q σ2 F2 ρ2 H2 (x1.trans x2) (p1.trans p2) S2 E2
theorem s_whl {c : E} {body : Ss} (q : tS K (fun b env => evS cf b (.whl c body) env) D σ H) : tWhile (tB1 K (evT cf c)) (tS K fun b env => evSs cf b body env) D σ H := by
  obtain ⟨b, F, ρ, env, h, fl, h', S, E, e, q⟩ := q
  dsimp only at e
  rw [evS] at e
  refine ⟨fun m σ H => ∃ F2 ρ2 hh env2, Ex F F2 ∧ ρ <+: ρ2 ∧ Sim K F2 ρ2 H hh ∧ EnvOk K F2 ρ2 σ env2 ∧ whlL (fun env => M.bind (evE cf b c env) fun c => truA c) (fun env => evSs cf b body env) m env2 hh = .ok fl h', ⟨most, F, ρ, h, env, .refl _, List.prefix_refl _, S, E, e⟩, ?_⟩
  rintro m σ2 H2 ⟨F2, ρ2, hh, env2, x2, p2, S2, E2, e2⟩
  cases m with
  | zero => cases e2
  | succ m =>
    rw [whlL] at e2
    obtain ⟨t, h3, e3, e4⟩ := bind_ok e2
    refine ⟨b, F2, ρ2, env2, hh, t, h3, S2, E2, e3, fun F3 ρ3 H3 x3 p3 S3 => ?_⟩
    cases t with
    | false =>
      rw [if_neg Bool.false_ne_true]
      obtain ⟨rfl, rfl⟩ := pure_ok e4
      exact q σ2 F3 ρ3 H3 (x2.trans x3) (p2.trans p3) S3 (E2.mono x3 p3)
    | true =>
      rw [if_pos rfl]
      obtain ⟨fl1, h4, e5, e6⟩ := bind_ok e4
      refine ⟨fun σ' H' => ∃ F2 ρ2 hh env2, Ex F F2 ∧ ρ <+: ρ2 ∧ Sim K F2 ρ2 H' hh ∧ EnvOk K F2 ρ2 σ' env2 ∧ whlL (fun env => M.bind (evE cf b c env) fun c => truA c) (fun env => evSs cf b body env) m env2 hh = .ok fl h', fun σ' H' z => ⟨m, Nat.lt_succ_self m, z⟩, b, F3, ρ3, env2, h3, fl1, h4, S3, E2.mono x3 p3, e5, ?_⟩
      cases fl1 with
      | nx env3 => exact fun σ4 F4 ρ4 H4 x4 p4 S4 E4 => ⟨F4, ρ4, h4, env3, (x2.trans x3).trans x4, (p2.trans p3).trans p4, S4, E4, e6⟩
      | ct env3 => exact fun σ4 F4 ρ4 H4 x4 p4 S4 E4 => ⟨F4, ρ4, h4, env3, (x2.trans x3).trans x4, (p2.trans p3).trans p4, S4, E4, e6⟩
      | bk env3 =>
        obtain ⟨rfl, rfl⟩ := pure_ok e6
        exact fun σ4 F4 ρ4 H4 x4 p4 S4 E4 => q σ4 F4 ρ4 H4 ((x2.trans x3).trans x4) ((p2.trans p3).trans p4) S4 E4
      | rt a =>
        obtain ⟨rfl, rfl⟩ := pure_ok e6
        exact Post.later q (x2.trans x3) (p2.trans p3)
end
end Lo
set_option maxHeartbeats 200000
/-! Core N: statements, defs. -/
namespace Lo
open PySem PySem.Spec PyProof.Rows L2
structure SndS (n : Nat) : Prop where
  s : ∀ {g : Gx} {k : Nat} {X : Cx}, Cok X g k → ∀ {st : Stmt} {ir : S}, okS n g st ir = true → PS X st (tS X.K fun b env => evS (callF g.tab k) b ir env)
  ss : ∀ {g : Gx} {k : Nat} {X : Cx}, Cok X g k → ∀ {sts : List Stmt} {ir : Ss}, okSs n g sts ir = true → PSs X sts (tS X.K fun b env => evSs (callF g.tab k) b ir env)
section
variable {n : Nat} {g : Gx} {k : Nat} {X : Cx}
theorem snds_ss (S : SndS n) (C : Cok X g k) {sts : List Stmt} {ir : Ss} (h : okSs (n + 1) g sts ir = true) : PSs X sts (tS X.K fun b env => evSs (callF g.tab k) b ir env) := by
  unfold okSs at h
  cases ir with
  | nil =>
    cases sts with
    | nil => exact pss_imp pss_nil fun _ _ _ q => ss_nil q
    | cons _ _ => cases h
  | cons s r =>
    cases sts with
    | nil => cases h
    | cons st sts =>
      dsimp only at h
      rw [Bool.and_eq_true] at h
      exact pss_imp (pss_cons (S.s C h.1) (S.ss C h.2)) fun _ _ _ q => ss_cons q
theorem sw_false (C : Cok X g k) {v : Expr} {y : Str} {py : Pos} {l : Nat} (h0 : notSD v = true) (h : swapB g v y py = false) : swapsWith v (some (.Name y py)) l X.env = pure false := by
  cases v <;> first | rfl | (cases h0; done) | skip
  unfold swapB at h
  unfold swapsWith
  have hk : X.env.kindOf y = g.sc.names.lookup y := by unfold Env.kindOf; rw [C.sc]
  simp only [C.bk, Expr.pos, hk]
  have e1 : (g.sc.names.lookup y == some NameKind.local) = decide (g.sc.names.lookup y = some .local) := by
    by_cases z : g.sc.names.lookup y = some .local
    · rw [z]; rfl
    · rw [decide_eq_false z]
      exact beq_false_of_ne z
  rw [e1]
  simp only [beq_self_eq_true, Bool.true_and]
  exact congrArg (fun b => (pure b : Sem Bool)) h
theorem sw_tup {v : Expr} {es : List Expr} {kk : Nat} {p : Pos} {l : Nat} {env : Env} : swapsWithSole [.Tuple es kk p] v l env = pure false := by
  show swapsWith v (some (.Tuple es kk p)) l env = pure false
  cases v <;> rfl
theorem sw_sub {v a b : Expr} {p : Pos} {l : Nat} {env : Env} : swapsWithSole [.Subscript a b p] v l env = pure false := by
  show swapsWith v (some (.Subscript a b p)) l env = pure false
  cases v <;> rfl
theorem st_tup {v : Expr} {es : List Expr} {kk : Nat} {p : Pos} {env : Env} (h : notTup v = true) : swappedStores [.Tuple es kk p] v env = pure none := by
  cases v <;> first | rfl | (cases h; done)
theorem st_sub {v a b : Expr} {p : Pos} {env : Env} : swappedStores [.Subscript a b p] v env = pure none := by
  cases v <;> rfl
theorem asg_sub {o i : Expr} {p : Pos} {env : Env} (h : notSlice i = true) : ∀ v, assign (.Subscript o i p) env v = (do
      let ov ← holding [v] (eval o env)
      let iv ← holding [v, ov] (eval i env)
      standAt p
      holding [v, ov, iv] (setItem ov iv v)
      release [v, ov, iv] []) := by
  intro v
  cases i <;> first | rfl | (cases h; done)
theorem sw_exp {v : Expr} {l : Nat} {env : Env} (h : notLc v = true) : swapsWith v none l env = pure false := by
  cases v <;> first | rfl | (cases h; done)
theorem base_X {o : Expr} {nm : Str} {env : Env} (h : notCall0 o = true) : attributeBase o nm env (eval o env) = eval o env := by
  unfold attributeBase
  split
  · cases h
  · rfl
theorem snds_lc (C : Cok X g k) {elt : Expr} {gs : List Comprehension} {scope : Scope} {vp py pos : Pos} {y : Str} {i : Nat} {e : E} (hn : nmB g i y = true) (hs : swapB g (.ListComp elt gs scope vp) y py = true) (h : okE n g (.ListComp elt gs scope vp) e = true) :
    PS X (.Assign [.Name y py] (.ListComp elt gs scope vp) pos) (tAsg (tE X.K fun b env => evE (callF g.tab k) b e env) (gName i)) := by
  unfold swapB at hs
  simp only [Bool.and_eq_true, decide_eq_true_eq, Bool.not_eq_true'] at hs
  obtain ⟨⟨hs1, hs2⟩, hs3⟩ := hs
  have hs1' : X.env.scope.names.lookup y = some .local := by rw [C.sc]; exact hs1
  have hk : X.env.scope.kind = .function := by rw [C.sc]; exact C.kd
  obtain ⟨a, _, _⟩ := C.nm hn
  cases n with
  | zero => simp [okE] at h
  | succ n =>
    unfold okE at h
    cases e <;> dsimp only at h <;> try (cases h; done)
    · rename_i tp ts
      cases tp with
      | true => cases h
      | false =>
        dsimp only at h
        split at h
        · cases h
        · cases h
    · split at h
      · rename_i heq
        cases heq
        simp only [Bool.and_eq_true, decide_eq_true_eq] at h
        obtain ⟨⟨⟨⟨⟨rfl, h1⟩, h2⟩, h3⟩, h4⟩, h5⟩ := h
        have p := lc_parts (snd n) C h1 h3 h4 h5
        have q := ps_setLc (py := py) (pos := vp) (spos := pos) C.calm C.nd a hs1' (sw_true hk hs1' hs2 hs3) p.it p.ok p.hg p.ht p.he p.hs
        rw [ownL_map] at q
        exact ps_imp q fun _ _ _ q => t_lc (mono_callF _ _) h2 q
      · cases h
    · split at h
      · rename_i heq
        cases heq
        simp only [Bool.and_eq_true, decide_eq_true_eq] at h
        obtain ⟨⟨⟨⟨⟨rfl, h1⟩, h2⟩, h3⟩, h4⟩, h5, h6⟩ := h
        have p := lcI_parts (snd n) C h1 h3 h4 h5 h6
        have q := ps_setLc (py := py) (pos := vp) (spos := pos) C.calm C.nd a hs1' (sw_true hk hs1' hs2 hs3) p.it p.ok p.hg p.ht p.he p.hs
        rw [ownL_map] at q
        exact ps_imp q fun _ _ _ q => t_lcI (mono_callF _ _) h2 q
      · cases h
theorem few1 {x : Expr} {env : Env} {cp : Pos} (h : noStar1 x = true) : ((backTo cp (starEach [x] env)).all (fun x => !x.1) && (backToKw cp (keywordEach [] env)).all (fun x => x.1.isSome)
      && decide ([x].length + ([] : List Keyword).length + (if ([] : List Keyword).isEmpty then 0 else 1) < 30)) = true := by
  rw [star_all (show noStar [x] = true by unfold noStar; rw [List.all_cons, h]; rfl)]
  rfl
theorem snds_s (S : SndS n) (C : Cok X g k) {st : Stmt} {ir : Lo.S} (h : okS (n + 1) g st ir = true) : PS X st (tS X.K fun b env => evS (callF g.tab k) b ir env) := by
  unfold okS at h
  cases ir with
  | set tg e =>
    dsimp only at h
    split at h
    · cases tg with
      | one i =>
        dsimp only at h
        split at h
        · simp only [Bool.and_eq_true] at h
          obtain ⟨⟨h1, h2⟩, h3⟩ := h
          rename_i v _ _ y py
          obtain ⟨a, b, c⟩ := C.nm h1
          cases hs : swapB g v y py with
          | false => exact ps_imp (ps_set C.nd a b ((snd n).e C h3) (sw_false C h2 hs) c) fun _ _ _ q => s_set (tg := .one i) q
          | true =>
            cases v <;> simp only [swapB, Bool.false_eq_true] at hs <;> try (cases hs; done)
            exact ps_imp (snds_lc C h1 hs h3) fun _ _ _ q => s_set (tg := .one i) q
        · cases h
      | many is =>
        dsimp only at h
        split at h
        · simp only [Bool.and_eq_true] at h
          obtain ⟨⟨h1, h2⟩, h3⟩ := h
          exact ps_imp (ps_asg ((snd n).e C h3) (pg_tg C (tg := .many is) h1) sw_tup (st_tup h2) rfl) fun _ _ _ q => s_set q
        · cases h
    · cases h
  | put o i e =>
    dsimp only at h
    split at h
    · simp only [Bool.and_eq_true] at h
      obtain ⟨⟨h1, h2⟩, h3, h4⟩ := h
      have hu := C.un
      refine ps_imp (ps_asg ((snd n).e C h2) (pg_sub ((snd n).e C h3) ((snd n).e C h4) (set_X (by omega)) ?_) sw_sub st_sub rfl) fun _ _ _ q => s_put q
      exact asg_sub h1
    · cases h
  | app o e =>
    dsimp only at h
    split at h
    · simp only [Bool.and_eq_true, decide_eq_true_eq] at h
      obtain ⟨⟨⟨⟨rfl, h1⟩, h2⟩, h3⟩, h4, h5⟩ := h
      exact ps_imp (ps_expr (pe_bm PySem.F.plainAttrs_list PySem.F.slot_list_append PySem.F.type_list_append mt_append ((snd n).e C h4) (pa1 h2 ((snd n).e C h5)) (base_X h1) (few1 h2) h3 (star_cons _ h2) rfl) (sw_exp rfl)) fun _ _ _ q => s_app q
    · cases h
  | aug _ _ _ => cases h
  | augL _ _ => cases h
  | exp e =>
    dsimp only at h
    split at h
    · rw [Bool.and_eq_true] at h
      exact ps_imp (ps_expr ((snd n).e C h.2) (sw_exp h.1)) fun _ _ _ q => s_exp q
    · cases h
  | ret e =>
    dsimp only at h
    split at h
    · exact ps_imp (ps_ret ((snd n).e C h)) fun _ _ _ q => s_ret q
    · cases h
  | retN =>
    dsimp only at h
    split at h
    · exact ps_imp ps_retN fun _ _ _ q => s_retN q
    · cases h
  | ite c a b =>
    dsimp only at h
    split at h
    · simp only [Bool.and_eq_true] at h
      exact ps_imp (ps_if ((snd n).t C h.1) (S.ss C h.2.1) (S.ss C h.2.2)) fun _ _ _ q => s_ite q
    · cases h
  | for_ tg it body =>
    dsimp only at h
    split at h
    · simp only [Bool.and_eq_true] at h
      exact ps_imp (ps_for C.own C.calm ((snd n).it C h.2.1).1 (pg_tg C h.1) (S.ss C h.2.2) ((snd n).it (tg := ‹Expr›) C h.2.1).2) fun _ _ _ q => s_for q
    · cases h
  | whl c body =>
    dsimp only at h
    split at h
    · simp only [Bool.and_eq_true] at h
      exact ps_imp (ps_while C.own ((snd n).t C h.1) (S.ss C h.2)) fun _ _ _ q => s_whl q
    · cases h
  | pass =>
    dsimp only at h
    split at h
    · exact ps_imp ps_pass fun _ _ _ q => s_pass q
    · cases h
  | brk =>
    dsimp only at h
    split at h
    · exact ps_imp ps_break fun _ _ _ q => s_brk q
    · cases h
  | cnt =>
    dsimp only at h
    split at h
    · exact ps_imp ps_continue fun _ _ _ q => s_cnt q
    · cases h
theorem sndS : ∀ n : Nat, SndS n
  | 0 => ⟨fun _ _ _ h => by simp [okS] at h, fun _ _ _ h => by simp [okSs] at h⟩
  | n + 1 => ⟨fun C _ _ h => snds_s (sndS n) C h, fun C _ _ h => snds_ss (sndS n) C h⟩
end
end Lo
set_option maxHeartbeats 200000
/-! Core O: the defs. -/
namespace Lo
open PySem PySem.Spec PyProof.Rows L2
section
variable {K : PySem.W.Frag} {F H : Hp} {ρ : List Addr} {h h' : Hh}
theorem Sim.addC (S : Sim K F ρ H h) {p : Addr} {c : C} (hm : p ∉ ρ) (r : RepC K F (ρ ++ [p]) H p c) (hn : H p ≠ none) (hf : c ≠ .dead → F p = none) : Sim K F (ρ ++ [p]) H (h ++ [c]) := by
  refine ⟨S.ex, by simp [S.len], ?_, fun n d q e1 e2 => ?_⟩
  · rw [List.nodup_append]
    refine ⟨S.nd, by simp, fun a ha b hb => ?_⟩
    rw [List.mem_singleton.mp hb]
    exact fun z => hm (z ▸ ha)
  · by_cases hl : n < h.length
    · rw [List.getElem?_append_left hl] at e1
      rw [List.getElem?_append_left (by rw [S.len]; exact hl)] at e2
      obtain ⟨r', hn', hf'⟩ := S.cell n d q e1 e2
      exact ⟨r'.mono (.refl _) (List.prefix_append _ _) rfl, hn', hf'⟩
    · have hl : n = h.length := by
        have := (List.getElem?_eq_some_iff.mp e1).1
        simp at this
        omega
      subst hl
      rw [← S.len, List.getElem?_append_right (Nat.le_refl _)] at e2
      rw [List.getElem?_append_right (Nat.le_refl _)] at e1
      simp at e1 e2
      subst e1 e2
      exact ⟨r, hn, hf⟩
theorem nil_pre (l : List Addr) : ([] : List Addr) <+: l := List.nil_prefix
theorem fin_rep {ρ0 : List Addr} {n : Nat} {rk : Rk} {a a' : A} {v : V} (hn : ρ0.length = n) (p : ρ0 <+: ρ) (S : Sim K F ρ H h) (sc : Sc n h) (ln : n ≤ h.length) (r : RepA K F ρ a v) (e : finish rk n a h = .ok a' h') :
    ∃ F' ρ', Ex F F' ∧ ρ0 <+: ρ' ∧ Sim K F' ρ' H h' ∧ RepA K F' ρ' a' v := by
  have tk : ρ.take n = ρ0 := by
    obtain ⟨t, rfl⟩ := p
    rw [← hn, List.take_left]
  unfold finish at e
  cases rk with
  | raw =>
    obtain ⟨rfl, rfl⟩ := pure_ok e
    exact ⟨F, ρ, .refl _, p, S, r⟩
  | frz =>
    obtain ⟨d, h1, e1, e⟩ := bind_ok e
    cases e
    obtain ⟨F1, x1, S1, r1⟩ := frz_rep 3 _ _ _ _ _ _ _ S r e1
    have mm := MonoM.frz (b := n) 3 a _ _ _ ln e1
    have S2 := S1.cut (n := n) (mm.2 _ (Nat.le_refl _) sc)
    rw [tk] at S2
    exact ⟨F1, ρ0, x1, List.prefix_refl _, S2, repA_val.mpr r1⟩
  | esc =>
    cases a with
    | val _ => cases e
    | tup _ => cases e
    | ref m =>
      dsimp only at e
      cases hm : h[m]? with
      | none => rw [hm] at e; cases e
      | some c =>
        rw [hm] at e
        dsimp only at e
        split at e
        · rename_i hc
          cases e
          rw [Bool.and_eq_true, decide_eq_true_eq] at hc
          obtain ⟨hc1, hc2⟩ := hc
          unfold RepA at r
          obtain ⟨q, hq, rfl⟩ := r
          have S0 := S.cut (n := n) sc
          rw [tk] at S0
          obtain ⟨rc, hn1, hf1⟩ := S.cell m c q hm hq
          have hnq : q ∉ ρ0 := fun z => by
            obtain ⟨j, hj⟩ := List.mem_iff_getElem?.mp z
            have hj2 := (List.getElem?_eq_some_iff.mp hj).1
            have := nodup_ix S.nd (pre_get p hj) hq
            omega
          have r0 : RepC K F (ρ0 ++ [q]) H q c := by
            cases c with
            | dead => cases hc2
            | lst as =>
              obtain ⟨xs, hx, l⟩ := rc
              exact ⟨xs, hx, (RepAL.cut (n := 0) as xs hc2 l).mono (.refl _) (nil_pre _)⟩
            | dct ks as =>
              obtain ⟨xs, hx, hk, l⟩ := rc
              exact ⟨xs, hx, hk, (RepAL.cut (n := 0) as _ hc2 l).mono (.refl _) (nil_pre _)⟩
          refine ⟨F, ρ0 ++ [q], .refl _, List.prefix_append _ _, S0.addC hnq r0 hn1 hf1, ?_⟩
          unfold RepA
          exact ⟨q, by rw [← hn]; simp, rfl⟩
        · cases e
theorem env_start {as : List A} {vs : List V} {N : List Str} {m : Nat} (l : RepAL K F ρ as vs) (hm : m = N.length - vs.length) : EnvOk K F ρ (L2.start N vs) (as.map some ++ List.replicate m none) := by
  subst hm
  refine ⟨by unfold L2.start; simp [l.length], fun i a e => ?_⟩
  have hi : i < as.length := by
    by_cases hi : i < as.length
    · exact hi
    · rw [List.getElem?_append_right (by simpa using hi), List.getElem?_replicate] at e
      split at e <;> cases e
  rw [List.getElem?_append_left (by simpa using hi), List.getElem?_map] at e
  cases q : as[i]? with
  | none => rw [q] at e; cases e
  | some a' =>
    rw [q] at e
    cases e
    obtain ⟨v, hv, r⟩ := RepAL.get l q
    refine ⟨v, ?_, r⟩
    unfold L2.start
    rw [List.getElem?_append_left (by rw [List.length_map, ← l.length]; exact hi), List.getElem?_map, hv]
    rfl
end
section
variable {P : Program} {w : World} {K : PySem.W.Frag} {mg : Str → Option Value} {base : Heap} {tab : List Fn} {bl : List Str}
def gxOf (N : List Str) (sc : Scope) (tab : List Fn) (bl : List Str) : Gx := ⟨N, sc, fun _ => true, tab, bl⟩
theorem spF_len {k i : Nat} {f : Fn} (ht : tab[i]? = some f) {vs : List V} {H : Hp} {Q : VK} {E : XK} (h : spF K tab k i vs H Q E) : vs.length = f.np := by
  obtain ⟨F, ρ, as, h, a, h', S, l, e, q⟩ := h
  cases k with
  | zero => cases e
  | succ k =>
    unfold callF at e
    rw [ht] at e
    dsimp only at e
    cases z : decide (as.length = f.np) with
    | false => simp only [z] at e; cases e
    | true =>
      rw [← l.length]
      exact of_decide_eq_true z
theorem fn_rule {n k i : Nat} {f : Fn} {N ps : List Str} {scope : Scope} {body : List Stmt} {args : Arguments} {x qual : Str} {a : Addr} {fd : FuncData} (hF : FunD K x qual args body scope [] [] a fd) (hs : FnScope N ps scope) (ht : tab[i]? = some f)
    (hnp : f.np = ps.length) (hnl : f.nl = N.length) (hdn : (N.all fun x => !(x == ("__debug__" : Str)) && !(x == ("__classdict__" : Str))) = true) (hok : okSs n (gxOf N scope tab bl) body f.body = true) (hbl : ∀ x, bl.contains x = true → mg x = none)
    (cs : Calls' P w K mg base tab k) : FnOk P w K mg base CX0 (k + 1) a fd ps (spF K tab (k + 1) i) := by
  refine hF.ok hs (fun vs H Q E h => by rw [spF_len ht h, hnp]) fun cdv A outer s H vs Q E hr h => ?_
  refine ⟨tS K fun b env => evSs (callF tab k) b f.body env, PSs.nox ?_, ?_⟩
  · refine (sndS n).ss (g := gxOf N scope tab bl) (k := k) (X := Cx.nox (cxOf CX0 P w K mg base N qual scope a cdv A outer s H E)) ?_ hok
    exact { N := rfl, sc := rfl, kd := hs.kind, dn := hdn, nd := hs.nd, calm := rfl, st := fun _ _ => rfl, xe := rfl, rm := hr, bl := hbl, cs := cs }
  · have hl := spF_len ht h
    obtain ⟨F, ρ, as, hh, a', h', S, l, e, q⟩ := h
    unfold callF at e
    rw [ht] at e
    dsimp only at e
    cases z : decide (as.length = f.np) with
    | false => simp only [z] at e; cases e
    | true =>
      simp only [z] at e
      unfold runF at e
      obtain ⟨fl, h1, e1, e2⟩ := bind_ok e
      have mm := mono_Ss (mono_callF tab k) (b := hh.length) hh.length f.body (as.map some ++ List.replicate (f.nl - f.np) none) (Nat.le_refl _) hh fl h1 (Nat.le_refl _) e1
      have sc1 := mm.2 _ (Nat.le_refl _) S.sc
      refine ⟨hh.length, F, ρ, as.map some ++ List.replicate (f.nl - f.np) none, hh, fl, h1, S, env_start l (by rw [hnl, hl]), e1, ?_⟩
      cases fl with
      | nx env =>
        intro σ F1 ρ1 H1 x1 p1 S1 E1
        obtain ⟨F2, ρ2, x2, p2, S2, r2⟩ := fin_rep S.len p1 S1 sc1 mm.1 (repA_val.mpr rep_non) e2
        exact q _ F2 ρ2 H1 (x1.trans x2) p2 S2 r2
      | rt a1 =>
        intro v F1 ρ1 H1 x1 p1 S1 r1
        obtain ⟨F2, ρ2, x2, p2, S2, r2⟩ := fin_rep S.len p1 S1 sc1 mm.1 r1 e2
        exact q _ F2 ρ2 H1 (x1.trans x2) p2 S2 r2
      | bk env => cases e2
      | ct env => cases e2
/-- all defs at all levels -/
theorem calls_all (h : ∀ i f, tab[i]? = some f → ∃ a fd ps, mg f.name = some (.ref a) ∧ PySem.W.keepIn K (.ref a) = true ∧ Binds K fd ps [] ∧ ∀ k, Calls' P w K mg base tab k → FnOk P w K mg base CX0 (k + 1) a fd ps (spF K tab (k + 1) i)) :
    ∀ k, Calls' P w K mg base tab k
  | 0 => ⟨fun i f hf => by
    obtain ⟨a, fd, ps, h1, h2, h3, _⟩ := h i f hf
    refine ⟨a, fd, ps, h1, h2, h3, ⟨fun vs H Q E hs => ?_, fun A outer s H args us vs Q E _ _ _ _ hs => ?_⟩⟩
    · obtain ⟨F, ρ, as, hh, a', h', S, l, e, q⟩ := hs
      cases e
    · obtain ⟨F, ρ, as, hh, a', h', S, l, e, q⟩ := hs
      cases e⟩
  | k + 1 => ⟨fun i f hf => by
    obtain ⟨a, fd, ps, h1, h2, h3, h4⟩ := h i f hf
    exact ⟨a, fd, ps, h1, h2, h3, h4 k (calls_all h k)⟩⟩
/-- the law's own promise -/
def spLaw (K : PySem.W.Frag) : Sp := fun vs H Q _ => ∃ (a : Addr) (ns : List Int), vs = [.ref a] ∧ SqL K H a (ns.map V.int) ∧ ∀ H', Q (.bl true) H'
theorem law_ok {k i : Nat} {a : Addr} {fd : FuncData} {ps : List Str} (F : FnOk P w K mg base CX0 k a fd ps (spF K tab k i)) (h : ∀ ns : List Int, ∃ h', callF tab k i [.val (.scr ns)] [] = .ok (.val (.bl true)) h') :
    FnOk P w K mg base CX0 k a fd ps (spLaw K) := by
  refine F.imp fun vs H Q E hs => ?_
  obtain ⟨p, ns, rfl, hp, q⟩ := hs
  obtain ⟨h', e⟩ := h ns
  refine ⟨H, [], [.val (.scr ns)], [], .val (.bl true), h', ⟨.refl _, rfl, List.nodup_nil, fun n c p e1 _ => by simp at e1⟩, .cons (repA_val.mpr (by unfold RepD; exact ⟨p, rfl, hp⟩)) .nil, e, fun v F' ρ' H' _ _ _ r => ?_⟩
  have r2 := repA_val.mp r
  unfold RepD at r2
  subst r2
  exact q H'
end
end Lo
set_option maxHeartbeats 200000
/-! Core P: a small logic for the evaluator, no program in sight. -/
namespace Lo
open PySem L2
def Ok {α : Type} (x : M α) (h : Hh) (Q : α → Hh → Prop) : Prop := ∃ a h', x h = .ok a h' ∧ Q a h'
section
variable {α β : Type} {h h' : Hh} {cf : Nat → List A → M A} {b : Nat} {env : En}
theorem ok_of {x : M α} {a : α} {Q : α → Hh → Prop} (e : x h = .ok a h') : Ok x h Q ↔ Q a h' := by
  constructor
  · rintro ⟨a', h2, e2, q⟩
    rw [e] at e2
    cases e2
    exact q
  · exact fun q => ⟨a, h', e, q⟩
theorem Ok.imp {x : M α} {Q Q' : α → Hh → Prop} (q : Ok x h Q) (i : ∀ a h', Q a h' → Q' a h') : Ok x h Q' := by
  obtain ⟨a, h', e, q⟩ := q
  exact ⟨a, h', e, i a h' q⟩
@[simp] theorem ok_bind {x : M α} {f : α → M β} {Q : β → Hh → Prop} : Ok (M.bind x f) h Q ↔ Ok x h fun a h1 => Ok (f a) h1 Q := by
  constructor
  · rintro ⟨c, h2, e, q⟩
    obtain ⟨a, h1, e1, e2⟩ := bind_ok e
    exact ⟨a, h1, e1, c, h2, e2, q⟩
  · rintro ⟨a, h1, e1, c, h2, e2, q⟩
    exact ⟨c, h2, bind_mk e1 e2, q⟩
@[simp] theorem ok_pure {a : α} {Q : α → Hh → Prop} : Ok (M.pure a) h Q ↔ Q a h := ok_of rfl
@[simp] theorem ok_no {Q : α → Hh → Prop} : Ok (M.no : M α) h Q ↔ False := ⟨fun ⟨_, _, e, _⟩ => (by cases e), False.elim⟩
@[simp] theorem ok_some {a : α} {Q : α → Hh → Prop} : Ok (M.lift (some a)) h Q ↔ Q a h := ok_of rfl
@[simp] theorem ok_none {Q : α → Hh → Prop} : Ok (M.lift (none : Option α)) h Q ↔ False := ⟨fun ⟨_, _, e, _⟩ => (by cases e), False.elim⟩
theorem ok_lift {o : Option α} {Q : α → Hh → Prop} : Ok (M.lift o) h Q ↔ ∃ a, o = some a ∧ Q a h := by
  cases o <;> simp
@[simp] theorem ok_liftIf {c : Prop} [Decidable c] {o : α} {Q : α → Hh → Prop} : Ok (M.lift (if c then some o else none)) h Q ↔ c ∧ Q o h := by
  by_cases hc : c <;> simp [hc]
@[simp] theorem ok_chk {t : Bool} {Q : Unit → Hh → Prop} : Ok (M.chk t) h Q ↔ t = true ∧ Q () h := by
  cases t
  · exact ⟨fun ⟨_, _, e, _⟩ => (by cases e), fun z => by cases z.1⟩
  · rw [ok_of (show M.chk true h = .ok () h from rfl)]
    simp
@[simp] theorem ok_get {Q : Hh → Hh → Prop} : Ok M.get h Q ↔ Q h h := ok_of rfl
@[simp] theorem ok_sfV {d : D} {Q : D → Hh → Prop} : Ok (sf (.val d)) h Q ↔ Q d h := ok_of rfl
@[simp] theorem ok_snV {d : D} {Q : D → Hh → Prop} : Ok (sn (.val d)) h Q ↔ Q d h := ok_of rfl
theorem ok_sf {a : A} {Q : D → Hh → Prop} : Ok (sf a) h Q ↔ ∃ d, snap 1 h a = some d ∧ Q d h := by
  constructor
  · rintro ⟨d, h2, e, q⟩
    obtain ⟨e1, rfl⟩ := sf_ok e
    exact ⟨d, e1, q⟩
  · rintro ⟨d, e, q⟩
    exact ⟨d, h, by unfold sf; rw [e], q⟩
theorem ok_sn {a : A} {Q : D → Hh → Prop} : Ok (sn a) h Q ↔ ∃ d, snap 3 h a = some d ∧ Q d h := by
  constructor
  · rintro ⟨d, h2, e, q⟩
    obtain ⟨e1, rfl⟩ := sn_ok e
    exact ⟨d, e1, q⟩
  · rintro ⟨d, e, q⟩
    exact ⟨d, h, by unfold sn; rw [e], q⟩
@[simp] theorem ok_mkF {d : D} {Q : A → Hh → Prop} : Ok (mkD false d) h Q ↔ Q (.val d) h := ok_of rfl
@[simp] theorem ok_mkL {ds : List D} {Q : A → Hh → Prop} : Ok (mkD true (.lst ds)) h Q ↔ Q (.ref h.length) (h ++ [.lst (ds.map A.val)]) := ok_of rfl
@[simp] theorem ok_mkK {ks : List Key} {ds : List D} {Q : A → Hh → Prop} : Ok (mkD true (.dct ks ds)) h Q ↔ Q (.ref h.length) (h ++ [.dct ks (ds.map A.val)]) := ok_of rfl
@[simp] theorem ok_alloc {c : C} {Q : Nat → Hh → Prop} : Ok (alloc c) h Q ↔ Q h.length (h ++ [c]) := ok_of rfl
theorem ok_truV {d : D} {Q : Bool → Hh → Prop} : Ok (truA (.val d)) h Q ↔ ∃ t, truD d = some t ∧ Q t h := by
  cases e : truD d with
  | none => exact ⟨fun ⟨_, _, e2, _⟩ => (by simp only [truA, e] at e2; cases e2), fun ⟨_, z, _⟩ => (by cases z)⟩
  | some t =>
    rw [ok_of (show truA (.val d) h = .ok t h by simp only [truA, e])]
    simp
@[simp] theorem ok_truB {t : Bool} {Q : Bool → Hh → Prop} : Ok (truA (.val (.bl t))) h Q ↔ Q t h := ok_of rfl
@[simp] theorem ok_truL {ds : List D} {Q : Bool → Hh → Prop} : Ok (truA (.val (.lst ds))) h Q ↔ Q (!ds.isEmpty) h := ok_of rfl
@[simp] theorem ok_truT {ds : List D} {Q : Bool → Hh → Prop} : Ok (truA (.val (.tup ds))) h Q ↔ Q (!ds.isEmpty) h := ok_of rfl
@[simp] theorem ok_truI {i : Int} {Q : Bool → Hh → Prop} : Ok (truA (.val (.int i))) h Q ↔ Q (i != 0) h := ok_of rfl
/-! ### frozen lists -/
theorem frz_vals : ∀ (ds : List D) (h : Hh), mapM' (frz 3) (ds.map A.val) h = .ok ds h
  | [], h => rfl
  | d :: r, h => by
    rw [List.map_cons, mapM']
    exact bind_mk rfl (bind_mk (frz_vals r h) rfl)
@[simp] theorem ok_frzNil {Q : List D → Hh → Prop} : Ok (frzL []) h Q ↔ Q [] h := ok_of rfl
@[simp] theorem ok_frzCons {d : D} {as : List A} {Q : List D → Hh → Prop} : Ok (frzL (.val d :: as)) h Q ↔ Ok (frzL as) h fun ds h1 => Q (d :: ds) h1 := by
  show Ok (M.bind (frz 3 (.val d)) fun b => M.bind (mapM' (frz 3) as) fun bs => M.pure (b :: bs)) h Q ↔ _
  rw [ok_bind, ok_of (show frz 3 (A.val d) h = .ok d h from rfl), ok_bind]
  show (Ok (mapM' (frz 3) as) h fun a h1 => Ok (M.pure (d :: a)) h1 Q) ↔ Ok (mapM' (frz 3) as) h fun ds h1 => Q (d :: ds) h1
  simp
@[simp] theorem ok_frzV {k : Nat} {d : D} {Q : D → Hh → Prop} : Ok (frz k (.val d)) h Q ↔ Q d h := by
  cases k <;> exact ok_of rfl
/-- a list cell of data is frozen -/
theorem frz_cell {k n : Nat} {ds : List D} (hn : h[n]? = some (.lst (ds.map A.val))) : frz (k + 1) (.ref n) h = .ok (.lst ds) (h.set n .dead) := by
  unfold frz
  refine bind_mk rfl ?_
  rw [hn]
  refine bind_mk rfl ?_
  have z : ∀ (ds : List D) (h : Hh), mapM' (frz k) (ds.map A.val) h = .ok ds h := by
    intro ds
    induction ds with
    | nil => intro h; rfl
    | cons d r ih =>
      intro h
      rw [List.map_cons, mapM']
      refine bind_mk (a := d) (h1 := h) ?_ (bind_mk (ih h) rfl)
      cases k <;> rfl
  exact bind_mk (z ds _) rfl
theorem frz_cellD {k n : Nat} {ks : List Key} {ds : List D} (hn : h[n]? = some (.dct ks (ds.map A.val))) : frz (k + 1) (.ref n) h = .ok (.dct ks ds) (h.set n .dead) := by
  unfold frz
  refine bind_mk rfl ?_
  rw [hn]
  refine bind_mk rfl ?_
  have z : ∀ (ds : List D) (h : Hh), mapM' (frz k) (ds.map A.val) h = .ok ds h := by
    intro ds
    induction ds with
    | nil => intro h; rfl
    | cons d r ih =>
      intro h
      rw [List.map_cons, mapM']
      refine bind_mk (a := d) (h1 := h) ?_ (bind_mk (ih h) rfl)
      cases k <;> rfl
  exact bind_mk (z ds _) rfl
/-! ### tests -/
theorem ok_matchB {t : Bool} {x y : M α} {Q : α → Hh → Prop} : Ok (match t with | true => x | false => y) h Q ↔ (t = true → Ok x h Q) ∧ (t = false → Ok y h Q) := by
  cases t <;> simp
def M.ite (t : Bool) (x y : M α) : M α := match t with
  | true => x
  | false => y
@[simp] theorem ok_ite {t : Bool} {x y : M α} {Q : α → Hh → Prop} : Ok (M.ite t x y) h Q ↔ (t = true → Ok x h Q) ∧ (t = false → Ok y h Q) := by
  cases t <;> simp [M.ite]
@[simp] theorem ite_t {x y : M α} : M.ite true x y = x := rfl
@[simp] theorem ite_f {x y : M α} : M.ite false x y = y := rfl
@[simp] theorem wipe_nil {env : En} : wipeE env [] = env := rfl
@[simp] theorem wipe_cons {env : En} {v : Nat} {vs : List Nat} : wipeE env (v :: vs) = (wipeE env vs).set v none := rfl
@[simp] theorem bind_one {i : Nat} {a : A} {env : En} : bindT (.one i) a env = some (env.set i (some a)) := rfl
/-! ### expressions -/
variable {Q : A → Hh → Prop}
@[simp] theorem ok_var {i : Nat} : Ok (evE cf b (.var i) env) h Q ↔ ∃ a, env[i]? = some (some a) ∧ Q a h := by
  rw [evE]
  cases e : env[i]? with
  | none => simp
  | some o => cases o <;> simp
@[simp] theorem ok_cst {d : D} : Ok (evE cf b (.cst d) env) h Q ↔ Q (.val d) h := by rw [evE]; simp
@[simp] theorem ok_tupT {es : Es} : Ok (evE cf b (.tup true es) env) h Q ↔ Ok (evEs cf b es env) h fun as h1 => Q (.tup as) h1 := by rw [evE]; simp
@[simp] theorem ok_tupF {es : Es} : Ok (evE cf b (.tup false es) env) h Q ↔ Ok (evEs cf b es env) h fun as h1 => Ok (frzL as) h1 fun ds h2 => Q (.val (.tup ds)) h2 := by rw [evE]; simp
@[simp] theorem ok_lstT {es : Es} : Ok (evE cf b (.lst true es) env) h Q ↔ Ok (evEs cf b es env) h fun as h1 => Q (.ref h1.length) (h1 ++ [.lst as]) := by rw [evE]; simp
@[simp] theorem ok_lstF {es : Es} : Ok (evE cf b (.lst false es) env) h Q ↔ Ok (evEs cf b es env) h fun as h1 => Ok (frzL as) h1 fun ds h2 => Q (.val (.lst ds)) h2 := by rw [evE]; simp
@[simp] theorem ok_op {m : Bool} {o : Op} {x y : E} : Ok (evE cf b (.op m o x y) env) h Q ↔ Ok (evE cf b x env) h fun a h1 => Ok (evE cf b y env) h1 fun c h2 => Ok (sf a) h2 fun d h3 => Ok (sf c) h3 fun e h4 => Ok (M.lift (opD o d e)) h4 fun z h5 => Ok (mkD m z) h5 Q := by rw [evE]; simp
@[simp] theorem ok_neg {x : E} : Ok (evE cf b (.neg x) env) h Q ↔ Ok (evE cf b x env) h fun a h1 => Ok (sf a) h1 fun d h2 => ∃ i, d = .int i ∧ Q (.val (.int (-i))) h2 := by
  rw [evE]
  simp only [ok_bind]
  constructor <;> intro q <;> refine q.imp fun a h1 q => q.imp fun d h2 q => ?_
  · cases d <;> simp at q ⊢
    exact q
  · obtain ⟨i, rfl, q⟩ := q
    simpa using q
@[simp] theorem ok_cmp {o : Cp} {x y : E} : Ok (evE cf b (.cmp o x y) env) h Q ↔ Ok (evE cf b x env) h fun a h1 => Ok (evE cf b y env) h1 fun c h2 => Ok (sn a) h2 fun d h3 => Ok (sn c) h3 fun e h4 => Ok (M.lift (cmpD o d e)) h4 fun r h5 => Q (.val (.bl r)) h5 := by rw [evE]; simp
@[simp] theorem ok_chain {o p : Cp} {x y z : E} : Ok (evE cf b (.chain o p x y z) env) h Q ↔ Ok (evE cf b x env) h fun a h1 => Ok (evE cf b y env) h1 fun c h2 => Ok (sn a) h2 fun d h3 => Ok (sn c) h3 fun e h4 => Ok (M.lift (cmpD o d e)) h4 fun r h5 =>
    Ok (M.ite r (M.bind (evE cf b z env) fun z => M.bind (sn c) fun e => M.bind (sn z) fun f => M.bind (M.lift (cmpD p e f)) fun r => M.pure (A.val (.bl r))) (M.pure (A.val (.bl false)))) h5 Q := by
  rw [evE]
  simp only [ok_bind]
  constructor <;> intro q <;> refine q.imp fun a h1 q => q.imp fun c h2 q => q.imp fun d h3 q => q.imp fun e h4 q => q.imp fun r h5 q => ?_ <;> cases r <;> exact q
@[simp] theorem ok_and {x y : E} : Ok (evE cf b (.and x y) env) h Q ↔ Ok (evE cf b x env) h fun a h1 => Ok (truA a) h1 fun t h2 => Ok (M.ite t (evE cf b y env) (M.pure a)) h2 Q := by
  rw [evE]
  simp only [ok_bind]
  constructor <;> intro q <;> refine q.imp fun a h1 q => q.imp fun t h2 q => ?_ <;> cases t <;> exact q
@[simp] theorem ok_or {x y : E} : Ok (evE cf b (.or x y) env) h Q ↔ Ok (evE cf b x env) h fun a h1 => Ok (truA a) h1 fun t h2 => Ok (M.ite t (M.pure a) (evE cf b y env)) h2 Q := by
  rw [evE]
  simp only [ok_bind]
  constructor <;> intro q <;> refine q.imp fun a h1 q => q.imp fun t h2 q => ?_ <;> cases t <;> exact q
@[simp] theorem ok_not {x : E} : Ok (evE cf b (.not x) env) h Q ↔ Ok (evE cf b x env) h fun a h1 => Ok (truA a) h1 fun t h2 => Q (.val (.bl (!t))) h2 := by rw [evE]; simp
@[simp] theorem ok_iteE {c x y : E} : Ok (evE cf b (.ite c x y) env) h Q ↔ Ok (evE cf b c env) h fun a h1 => Ok (truA a) h1 fun t h2 => Ok (M.ite t (evE cf b x env) (evE cf b y env)) h2 Q := by
  rw [evE]
  simp only [ok_bind]
  constructor <;> intro q <;> refine q.imp fun a h1 q => q.imp fun t h2 q => ?_ <;> cases t <;> exact q
@[simp] theorem ok_idx {x y : E} : Ok (evE cf b (.idx x y) env) h Q ↔ Ok (evE cf b x env) h fun a h1 => Ok (evE cf b y env) h1 fun c h2 => Ok (sf c) h2 fun e h3 => Ok (idxA a e) h3 Q := by rw [evE]; simp
@[simp] theorem ok_slL {m : Bool} {x l : E} : Ok (evE cf b (.slL m x l) env) h Q ↔ Ok (evE cf b x env) h fun a h1 => Ok (evE cf b l env) h1 fun c h2 => Ok (sf c) h2 fun e h3 => Ok (M.lift (partD e)) h3 fun i h4 => Ok (sf a) h4 fun d h5 => Ok (M.lift (slcD d (some i) none)) h5 fun z h6 => Ok (mkD m z) h6 Q := by rw [evE]; simp
@[simp] theorem ok_slU {m : Bool} {x l : E} : Ok (evE cf b (.slU m x l) env) h Q ↔ Ok (evE cf b x env) h fun a h1 => Ok (evE cf b l env) h1 fun c h2 => Ok (sf c) h2 fun e h3 => Ok (M.lift (partD e)) h3 fun i h4 => Ok (sf a) h4 fun d h5 => Ok (M.lift (slcD d none (some i))) h5 fun z h6 => Ok (mkD m z) h6 Q := by rw [evE]; simp
@[simp] theorem ok_slB {m : Bool} {x l u : E} : Ok (evE cf b (.slB m x l u) env) h Q ↔ Ok (evE cf b x env) h fun a h1 => Ok (evE cf b l env) h1 fun c h2 => Ok (sf c) h2 fun e h3 => Ok (M.lift (partD e)) h3 fun i h4 => Ok (evE cf b u env) h4 fun c2 h5 => Ok (sf c2) h5 fun e2 h6 => Ok (M.lift (partD e2)) h6 fun j h7 => Ok (sf a) h7 fun d h8 => Ok (M.lift (slcD d (some i) (some j))) h8 fun z h9 => Ok (mkD m z) h9 Q := by rw [evE]; simp
@[simp] theorem ok_callE {f : Nat} {es : Es} : Ok (evE cf b (.call f es) env) h Q ↔ Ok (evEs cf b es env) h fun as h1 => Ok (cf f as) h1 Q := by rw [evE]; simp
@[simp] theorem ok_lenE {m : Bool} {x : E} : Ok (evE cf b (.bl1 .len m x) env) h Q ↔ Ok (evE cf b x env) h fun a h1 => Ok (lenA a) h1 fun n h2 => Q (.val (.int n)) h2 := by rw [evE]; simp
theorem ok_bl1 {o : Bl} {m : Bool} {x : E} (ho : o ≠ .len) : Ok (evE cf b (.bl1 o m x) env) h Q ↔ Ok (evE cf b x env) h fun a h1 => Ok (sf a) h1 fun d h2 => Ok (M.lift (blD o d)) h2 fun z h3 => Ok (mkD m z) h3 Q := by
  cases o <;> first | exact absurd rfl ho | (rw [evE]; simp; done) | (rw [evE]; simp; intro z; cases z)
@[simp] theorem ok_intE {m : Bool} {x : E} : Ok (evE cf b (.bl1 .int m x) env) h Q ↔ Ok (evE cf b x env) h fun a h1 => Ok (sf a) h1 fun d h2 => Ok (M.lift (blD .int d)) h2 fun z h3 => Ok (mkD m z) h3 Q := ok_bl1 (by decide)
@[simp] theorem ok_absE {m : Bool} {x : E} : Ok (evE cf b (.bl1 .abs m x) env) h Q ↔ Ok (evE cf b x env) h fun a h1 => Ok (sf a) h1 fun d h2 => Ok (M.lift (blD .abs d)) h2 fun z h3 => Ok (mkD m z) h3 Q := ok_bl1 (by decide)
@[simp] theorem ok_strE {m : Bool} {x : E} : Ok (evE cf b (.bl1 .str m x) env) h Q ↔ Ok (evE cf b x env) h fun a h1 => Ok (sf a) h1 fun d h2 => Ok (M.lift (blD .str d)) h2 fun z h3 => Ok (mkD m z) h3 Q := ok_bl1 (by decide)
@[simp] theorem ok_listE {m : Bool} {x : E} : Ok (evE cf b (.bl1 .list m x) env) h Q ↔ Ok (evE cf b x env) h fun a h1 => Ok (sf a) h1 fun d h2 => Ok (M.lift (blD .list d)) h2 fun z h3 => Ok (mkD m z) h3 Q := ok_bl1 (by decide)
@[simp] theorem ok_tupleE {m : Bool} {x : E} : Ok (evE cf b (.bl1 .tuple m x) env) h Q ↔ Ok (evE cf b x env) h fun a h1 => Ok (sf a) h1 fun d h2 => Ok (M.lift (blD .tuple d)) h2 fun z h3 => Ok (mkD m z) h3 Q := ok_bl1 (by decide)
@[simp] theorem ok_dictE {m : Bool} {x : E} : Ok (evE cf b (.bl1 .dict m x) env) h Q ↔ Ok (evE cf b x env) h fun a h1 => Ok (sf a) h1 fun d h2 => Ok (M.lift (blD .dict d)) h2 fun z h3 => Ok (mkD m z) h3 Q := ok_bl1 (by decide)
@[simp] theorem ok_allE {m : Bool} {x : E} : Ok (evE cf b (.bl1 .all m x) env) h Q ↔ Ok (evE cf b x env) h fun a h1 => Ok (sf a) h1 fun d h2 => Ok (M.lift (blD .all d)) h2 fun z h3 => Ok (mkD m z) h3 Q := ok_bl1 (by decide)
@[simp] theorem ok_anyE {m : Bool} {x : E} : Ok (evE cf b (.bl1 .any m x) env) h Q ↔ Ok (evE cf b x env) h fun a h1 => Ok (sf a) h1 fun d h2 => Ok (M.lift (blD .any d)) h2 fun z h3 => Ok (mkD m z) h3 Q := ok_bl1 (by decide)
@[simp] theorem ok_bl2 {o : B2} {x y : E} : Ok (evE cf b (.bl2 o x y) env) h Q ↔ Ok (evE cf b x env) h fun a h1 => Ok (evE cf b y env) h1 fun c h2 => Ok (sf a) h2 fun d h3 => Ok (sf c) h3 fun e h4 => Ok (M.lift (b2D o d e)) h4 fun z h5 => Q (.val z) h5 := by rw [evE]; simp
@[simp] theorem ok_isi {x : E} {tp : Bool} {ts : List Ty} : Ok (evE cf b (.isi x tp ts) env) h Q ↔ Ok (evE cf b x env) h fun a h1 => Ok (kindA a) h1 fun d h2 => Q (.val (.bl (ts.any fun t => tyD t d))) h2 := by rw [evE]; simp
@[simp] theorem ok_esN {Q : List A → Hh → Prop} : Ok (evEs cf b .nil env) h Q ↔ Q [] h := by rw [evEs]; simp
@[simp] theorem ok_esC {e : E} {es : Es} {Q : List A → Hh → Prop} : Ok (evEs cf b (.cons e es) env) h Q ↔ Ok (evE cf b e env) h fun a h1 => Ok (evEs cf b es env) h1 fun as h2 => Q (a :: as) h2 := by rw [evEs]; simp
@[simp] theorem ok_seq {e : E} {Q : List A → Hh → Prop} : Ok (evIt cf b (.seq e) env) h Q ↔ Ok (evE cf b e env) h fun a h1 => Ok (itemsA a) h1 Q := by rw [evIt]; simp
@[simp] theorem ok_rng1 {x : E} {Q : List A → Hh → Prop} : Ok (evIt cf b (.rng1 x) env) h Q ↔ Ok (evE cf b x env) h fun a h1 => Ok (sf a) h1 fun d h2 => Ok (rangeA (.int 0) d) h2 Q := by rw [evIt]; simp
@[simp] theorem ok_rng2 {x y : E} {Q : List A → Hh → Prop} : Ok (evIt cf b (.rng2 x y) env) h Q ↔ Ok (evE cf b x env) h fun a h1 => Ok (evE cf b y env) h1 fun c h2 => Ok (sf a) h2 fun d h3 => Ok (sf c) h3 fun e h4 => Ok (rangeA d e) h4 Q := by rw [evIt]; simp
@[simp] theorem ok_range {i j : Int} {Q : List A → Hh → Prop} : Ok (rangeA (.int i) (.int j)) h Q ↔ (small62 i = true ∧ small62 j = true) ∧ Q (rngL i (j - i).toNat) h := by
  unfold rangeA
  simp
@[simp] theorem ok_itL {ds : List D} {Q : List A → Hh → Prop} : Ok (itemsA (.val (.lst ds))) h Q ↔ Q (ds.map A.val) h := ok_of rfl
@[simp] theorem ok_itT {ds : List D} {Q : List A → Hh → Prop} : Ok (itemsA (.val (.tup ds))) h Q ↔ Q (ds.map A.val) h := ok_of rfl
/-! ### reading -/
@[simp] theorem ok_idxV {d e : D} : Ok (idxA (.val d) e) h Q ↔ ∃ y, idxD d e = some y ∧ Q (.val y) h := by
  cases q : idxD d e with
  | none => exact ⟨fun ⟨_, _, e2, _⟩ => (by simp only [idxA, q] at e2; cases e2), fun ⟨_, z, _⟩ => (by cases z)⟩
  | some t =>
    rw [ok_of (show idxA (.val d) e h = .ok (.val t) h by simp only [idxA, q])]
    simp
theorem ok_idxL {n : Nat} {as : List A} {i : Int} (hn : h[n]? = some (.lst as)) : Ok (idxA (.ref n) (.int i)) h Q ↔ ∃ y, atP as i = some y ∧ Q y h := by
  cases q : atP as i with
  | none => exact ⟨fun ⟨_, _, e2, _⟩ => (by simp only [idxA, hn, q] at e2; cases e2), fun ⟨_, z, _⟩ => (by cases z)⟩
  | some t =>
    rw [ok_of (show idxA (.ref n) (.int i) h = .ok t h by simp only [idxA, hn, q])]
    simp
@[simp] theorem ok_lenL {ds : List D} {Q : Nat → Hh → Prop} : Ok (lenA (.val (.lst ds))) h Q ↔ Q ds.length h := ok_of rfl
@[simp] theorem ok_lenT {ds : List D} {Q : Nat → Hh → Prop} : Ok (lenA (.val (.tup ds))) h Q ↔ Q ds.length h := ok_of rfl
@[simp] theorem ok_lenS {ds : List Int} {Q : Nat → Hh → Prop} : Ok (lenA (.val (.scr ds))) h Q ↔ Q ds.length h := ok_of rfl
@[simp] theorem ok_lenD {ks : List Key} {ds : List D} {Q : Nat → Hh → Prop} : Ok (lenA (.val (.dct ks ds))) h Q ↔ Q ks.length h := ok_of rfl
theorem ok_lenR {n : Nat} {as : List A} {Q : Nat → Hh → Prop} (hn : h[n]? = some (.lst as)) : Ok (lenA (.ref n)) h Q ↔ Q as.length h := ok_of (by simp only [lenA, hn])
@[simp] theorem ok_kindV {d : D} {Q : D → Hh → Prop} : Ok (kindA (.val d)) h Q ↔ Q d h := ok_of rfl
theorem ok_kindR {n : Nat} {as : List A} {Q : D → Hh → Prop} (hn : h[n]? = some (.lst as)) : Ok (kindA (.ref n)) h Q ↔ Q (.lst []) h := ok_of (by simp only [kindA, hn])
/-! ### statements -/
def Seq (cf : Nat → List A → M A) (b : Nat) (r : Ss) (fl : Fl) (h : Hh) (Q : Fl → Hh → Prop) : Prop := match fl with
  | .nx env => Ok (evSs cf b r env) h Q
  | .rt a => Q (.rt a) h
  | .bk env => Q (.bk env) h
  | .ct env => Q (.ct env) h
variable {QF : Fl → Hh → Prop}
@[simp] theorem seq_nx {r : Ss} : Seq cf b r (.nx env) h QF ↔ Ok (evSs cf b r env) h QF := Iff.rfl
@[simp] theorem seq_rt {r : Ss} {a : A} : Seq cf b r (.rt a) h QF ↔ QF (.rt a) h := Iff.rfl
@[simp] theorem seq_bk {r : Ss} : Seq cf b r (.bk env) h QF ↔ QF (.bk env) h := Iff.rfl
@[simp] theorem seq_ct {r : Ss} : Seq cf b r (.ct env) h QF ↔ QF (.ct env) h := Iff.rfl
@[simp] theorem ok_ssN : Ok (evSs cf b .nil env) h QF ↔ QF (.nx env) h := by rw [evSs]; simp
@[simp] theorem ok_ssC {s : S} {r : Ss} : Ok (evSs cf b (.cons s r) env) h QF ↔ Ok (evS cf b s env) h fun fl h1 => Seq cf b r fl h1 QF := by
  rw [evSs]
  simp only [ok_bind]
  constructor <;> intro q <;> refine q.imp fun fl h1 q => ?_ <;> cases fl <;> simpa using q
@[simp] theorem ok_set1 {i : Nat} {e : E} : Ok (evS cf b (.set (.one i) e) env) h QF ↔ Ok (evE cf b e env) h fun a h1 => QF (.nx (env.set i (some a))) h1 := by rw [evS]; simp [bindT]
@[simp] theorem ok_setM {is : List Nat} {e : E} : Ok (evS cf b (.set (.many is) e) env) h QF ↔ Ok (evE cf b e env) h fun a h1 => ∃ env', bindT (.many is) a env = some env' ∧ QF (.nx env') h1 := by
  rw [evS]
  simp [ok_lift]
@[simp] theorem ok_put {o i e : E} : Ok (evS cf b (.put o i e) env) h QF ↔ Ok (evE cf b e env) h fun y h1 => Ok (evE cf b o env) h1 fun x h2 => Ok (evE cf b i env) h2 fun j h3 => Ok (sf j) h3 fun d h4 => Ok (storeA b x d y) h4 fun _ h5 => QF (.nx env) h5 := by rw [evS]; simp
@[simp] theorem ok_app {o e : E} : Ok (evS cf b (.app o e) env) h QF ↔ Ok (evE cf b o env) h fun x h1 => Ok (kindA x) h1 fun k h2 => tyD .lst k = true ∧ Ok (evE cf b e env) h2 fun y h3 => Ok (appA b x y) h3 fun _ h4 => QF (.nx env) h4 := by rw [evS]; simp
@[simp] theorem ok_exp {e : E} : Ok (evS cf b (.exp e) env) h QF ↔ Ok (evE cf b e env) h fun _ h1 => QF (.nx env) h1 := by rw [evS]; simp
@[simp] theorem ok_ret {e : E} : Ok (evS cf b (.ret e) env) h QF ↔ Ok (evE cf b e env) h fun a h1 => QF (.rt a) h1 := by rw [evS]; simp
@[simp] theorem ok_retN : Ok (evS cf b .retN env) h QF ↔ QF (.rt (.val .non)) h := by rw [evS]; simp
@[simp] theorem ok_iteS {c : E} {p q : Ss} : Ok (evS cf b (.ite c p q) env) h QF ↔ Ok (evE cf b c env) h fun a h1 => Ok (truA a) h1 fun t h2 => Ok (M.ite t (evSs cf b p env) (evSs cf b q env)) h2 QF := by
  rw [evS]
  simp only [ok_bind]
  constructor <;> intro z <;> refine z.imp fun a h1 z => z.imp fun t h2 z => ?_ <;> cases t <;> exact z
@[simp] theorem ok_pass : Ok (evS cf b .pass env) h QF ↔ QF (.nx env) h := by rw [evS]; simp
@[simp] theorem ok_brk : Ok (evS cf b .brk env) h QF ↔ QF (.bk env) h := by rw [evS]; simp
@[simp] theorem ok_cnt : Ok (evS cf b .cnt env) h QF ↔ QF (.ct env) h := by rw [evS]; simp
/-! ### stores -/
@[simp] theorem may_val {n : Nat} {d : D} : may b n (.val d) = true := by
  unfold may
  simp [A.lo]
theorem ok_push {n : Nat} {as : List A} {y : A} {Q : Unit → Hh → Prop} (hn : h[n]? = some (.lst as)) : Ok (pushC n y) h Q ↔ as.length < sizeLine ∧ Q () (h.set n (.lst (as ++ [y]))) := by
  cases z : decide (as.length < sizeLine) with
  | true =>
    rw [ok_of (show pushC n y h = .ok () (h.set n (.lst (as ++ [y]))) by simp only [pushC, hn, z])]
    simp [of_decide_eq_true z]
  | false => exact ⟨fun ⟨_, _, e, _⟩ => (by simp only [pushC, hn, z] at e; cases e), fun q => absurd q.1 (of_decide_eq_false z)⟩
@[simp] theorem ok_appR {n : Nat} {y : A} {Q : Unit → Hh → Prop} : Ok (appA b (.ref n) y) h Q ↔ may b n y = true ∧ Ok (pushC n y) h Q := by
  unfold appA
  simp
theorem ok_store {n : Nat} {as : List A} {i : Int} {j : Nat} {y : A} {Q : Unit → Hh → Prop} (hm : may b n y = true) (hn : h[n]? = some (.lst as)) (hj : ixN as.length i = some j) : Ok (storeA b (.ref n) (.int i) y) h Q ↔ Q () (h.set n (.lst (as.set j y))) :=
  ok_of (by simp only [storeA, hm, hn, hj])
/-! ### calls -/
def Fin' (rk : Rk) (n : Nat) (fl : Fl) (h : Hh) (Q : A → Hh → Prop) : Prop := match fl with
  | .nx _ => Ok (finish rk n (.val .non)) h Q
  | .rt a => Ok (finish rk n a) h Q
  | _ => False
@[simp] theorem fin_nx {rk : Rk} {n : Nat} : Fin' rk n (.nx env) h Q ↔ Ok (finish rk n (.val .non)) h Q := Iff.rfl
@[simp] theorem fin_rt {rk : Rk} {n : Nat} {a : A} : Fin' rk n (.rt a) h Q ↔ Ok (finish rk n a) h Q := Iff.rfl
@[simp] theorem fin_bk {rk : Rk} {n : Nat} : Fin' rk n (.bk env) h Q ↔ False := Iff.rfl
@[simp] theorem fin_ct {rk : Rk} {n : Nat} : Fin' rk n (.ct env) h Q ↔ False := Iff.rfl
@[simp] theorem ok_finF {n : Nat} {d : D} : Ok (finish .frz n (.val d)) h Q ↔ Q (.val d) (h.take n) := by
  unfold finish
  simp only [ok_bind, ok_frzV]
  exact ok_of rfl
@[simp] theorem ok_finR {n : Nat} {a : A} : Ok (finish .raw n a) h Q ↔ Q a h := by
  unfold finish
  simp
theorem ok_finL {n m : Nat} {ds : List D} (hm : h[m]? = some (.lst (ds.map A.val))) : Ok (finish .frz n (.ref m)) h Q ↔ Q (.val (.lst ds)) ((h.set m .dead).take n) := by
  unfold finish
  simp only [ok_bind]
  rw [ok_of (frz_cell hm)]
  exact ok_of rfl
theorem ok_finE {n m : Nat} {as : List A} (hm : h[m]? = some (.lst as)) (hn : n ≤ m) (hl : loL 0 as = true) : Ok (finish .esc n (.ref m)) h Q ↔ Q (.ref n) (h.take n ++ [.lst as]) := by
  refine ok_of ?_
  simp only [finish, hm, hl, decide_eq_true hn, Bool.and_true]
theorem ok_call {tab : List Fn} {k i : Nat} {f : Fn} {as : List A} (ht : tab[i]? = some f) (hl : as.length = f.np) : Ok (callF tab (k + 1) i as) h Q ↔ Ok (evSs (callF tab k) h.length f.body (as.map some ++ List.replicate (f.nl - f.np) none)) h fun fl h1 => Fin' f.rk h.length fl h1 Q := by
  have e : callF tab (k + 1) i as = runF (callF tab k) f as := by
    rw [callF, ht]
    simp only [decide_eq_true hl]
  rw [e]
  constructor
  · rintro ⟨a, h', e, q⟩
    unfold runF at e
    obtain ⟨fl, h1, e1, e2⟩ := bind_ok e
    refine ⟨fl, h1, e1, ?_⟩
    cases fl with
    | nx _ => exact ⟨a, h', e2, q⟩
    | rt _ => exact ⟨a, h', e2, q⟩
    | bk _ => cases e2
    | ct _ => cases e2
  · rintro ⟨fl, h1, e1, q⟩
    cases fl with
    | nx _ => obtain ⟨a, h', e2, q⟩ := q; exact ⟨a, h', by unfold runF; exact bind_mk e1 e2, q⟩
    | rt _ => obtain ⟨a, h', e2, q⟩ := q; exact ⟨a, h', by unfold runF; exact bind_mk e1 e2, q⟩
    | bk _ => exact False.elim q
    | ct _ => exact False.elim q
end
end Lo
set_option maxHeartbeats 200000
/-! Core Q: loops and comprehensions in the small logic; texts, numbers. -/
namespace Lo
open PySem L2
section
variable {h h1 : Hh} {cf : Nat → List A → M A} {b : Nat} {env : En}
theorem ok_top {hb : Hh} {acc : List D} {n : Nat} {Q : A → Hh → Prop} (hn : n = hb.length) : Ok (topL false n) (hb ++ [.lst (acc.map A.val)]) Q ↔ Q (.val (.lst acc)) hb := by
  subst hn
  unfold topL
  simp only [ok_bind]
  rw [ok_of (frz_cell (ds := acc) (by simp))]
  have e : ((hb ++ [C.lst (acc.map A.val)]).set hb.length .dead).take hb.length = hb := by
    rw [List.set_append_right _ _ (Nat.le_refl _), List.take_left]
  exact (ok_of rfl).trans (by rw [e])
theorem ok_topT {n : Nat} {Q : A → Hh → Prop} : Ok (topL true n) h Q ↔ Q (.ref n) h := ok_of rfl
theorem turns_ok {f : A → M Unit} {items : List A} {n : Nat} (P : List A → List D → Hh → Prop)
    (hs : ∀ done a rest acc hb, items = done ++ a :: rest → P done acc hb → hb.length = n → acc.length ≤ done.length → Ok (f a) (hb ++ [.lst (acc.map A.val)]) fun _ hh => ∃ acc' hb', hh = hb' ++ [.lst (acc'.map A.val)] ∧ hb'.length = n ∧ acc'.length ≤ acc.length + 1 ∧ P (done ++ [a]) acc' hb') :
    ∀ (rest done : List A) (acc : List D) (hb : Hh), items = done ++ rest → P done acc hb → hb.length = n → acc.length ≤ done.length → Ok (turns f rest) (hb ++ [.lst (acc.map A.val)]) fun _ hh => ∃ acc' hb', hh = hb' ++ [.lst (acc'.map A.val)] ∧ hb'.length = n ∧ P items acc' hb'
  | [], done, acc, hb, e, p, hl, _ => by
    rw [List.append_nil] at e
    subst e
    exact ⟨(), _, rfl, acc, hb, rfl, hl, p⟩
  | a :: rest, done, acc, hb, e, p, hl, hc => by
    unfold turns
    rw [ok_bind]
    refine (hs done a rest acc hb e p hl hc).imp fun _ hh ⟨acc', hb', e1, e2, e3, p'⟩ => ?_
    subst e1
    refine turns_ok P hs rest (done ++ [a]) acc' hb' (by rw [e, List.append_assoc]; rfl) p' e2 ?_
    rw [List.length_append, List.length_singleton]
    omega
/-- a comprehension whose items are data -/
theorem ok_lc {m : Bool} {body : E} {own : List Nat} {tg : Tg} {it : It} {items : List A} {Q : A → Hh → Prop} (P : List A → List D → Hh → Prop) (hit : evIt cf b it env h = .ok items h1) (hsm : items.length < sizeLine) (h0 : P [] [] h1)
    (hs : ∀ done a rest acc hb, items = done ++ a :: rest → P done acc hb → hb.length = h1.length → acc.length ≤ done.length → ∃ env', bindT tg a (wipeE env own) = some env' ∧
      Ok (evE cf (h1.length + 1) body env') (hb ++ [.lst (acc.map A.val)]) fun y hh => ∃ d hb', y = .val d ∧ hh = hb' ++ [.lst (acc.map A.val)] ∧ hb'.length = h1.length ∧ P (done ++ [a]) (acc ++ [d]) hb')
    (hd : ∀ acc hb, P items acc hb → hb.length = h1.length → Ok (topL m h1.length) (hb ++ [.lst (acc.map A.val)]) Q) : Ok (evE cf b (.lc m body own tg it) env) h Q := by
  rw [evE]
  simp only [ok_bind]
  rw [ok_of hit]
  simp only [ok_alloc]
  refine (turns_ok (items := items) (n := h1.length) P (fun done a rest acc hb e p hl hc => ?_) items [] [] h1 rfl h0 rfl (Nat.le_refl _)).imp fun _ hh ⟨acc, hb, e, hl, p⟩ => ?_
  · obtain ⟨env', eb, q⟩ := hs done a rest acc hb e p hl hc
    simp only [ok_bind, eb, ok_some]
    refine q.imp fun y hh ⟨d, hb', ey, eh, hl', p'⟩ => ?_
    subst ey eh
    have hn : (hb' ++ [C.lst (acc.map A.val)])[h1.length]? = some (.lst (acc.map A.val)) := by rw [← hl']; simp
    have hi : items.length = done.length + (rest.length + 1) := by rw [e]; simp
    rw [ok_push hn]
    refine ⟨by rw [List.length_map]; omega, acc ++ [d], hb', ?_, hl', by simp, p'⟩
    rw [← hl', List.set_append_right _ _ (Nat.le_refl _)]
    simp
  · subst e
    exact hd acc hb p hl
/-- with a test -/
theorem ok_lcI {m : Bool} {body c : E} {own : List Nat} {tg : Tg} {it : It} {items : List A} {Q : A → Hh → Prop} (P : List A → List D → Hh → Prop) (hit : evIt cf b it env h = .ok items h1) (hsm : items.length < sizeLine) (h0 : P [] [] h1)
    (hs : ∀ done a rest acc hb, items = done ++ a :: rest → P done acc hb → hb.length = h1.length → acc.length ≤ done.length → ∃ env', bindT tg a (wipeE env own) = some env' ∧
      Ok (evE cf (h1.length + 1) c env') (hb ++ [.lst (acc.map A.val)]) fun t hh => Ok (truA t) hh fun t hh =>
        (t = false → ∃ hb', hh = hb' ++ [.lst (acc.map A.val)] ∧ hb'.length = h1.length ∧ P (done ++ [a]) acc hb') ∧
        (t = true → Ok (evE cf (h1.length + 1) body env') hh fun y hh => ∃ d hb', y = .val d ∧ hh = hb' ++ [.lst (acc.map A.val)] ∧ hb'.length = h1.length ∧ P (done ++ [a]) (acc ++ [d]) hb'))
    (hd : ∀ acc hb, P items acc hb → hb.length = h1.length → Ok (topL m h1.length) (hb ++ [.lst (acc.map A.val)]) Q) : Ok (evE cf b (.lcI m body own tg it c) env) h Q := by
  rw [evE]
  simp only [ok_bind]
  rw [ok_of hit]
  simp only [ok_alloc]
  refine (turns_ok (items := items) (n := h1.length) P (fun done a rest acc hb e p hl hc => ?_) items [] [] h1 rfl h0 rfl (Nat.le_refl _)).imp fun _ hh ⟨acc, hb, e, hl, p⟩ => ?_
  · obtain ⟨env', eb, q⟩ := hs done a rest acc hb e p hl hc
    simp only [ok_bind, eb, ok_some]
    refine q.imp fun t hh q => q.imp fun t hh q => ?_
    cases t with
    | false =>
      obtain ⟨hb', eh, hl', p'⟩ := q.1 rfl
      exact ok_pure.mpr ⟨acc, hb', eh, hl', Nat.le_succ _, p'⟩
    | true =>
      refine ok_bind.mpr ((q.2 rfl).imp fun y hh ⟨d, hb', ey, eh, hl', p'⟩ => ?_)
      subst ey eh
      have hn : (hb' ++ [C.lst (acc.map A.val)])[h1.length]? = some (.lst (acc.map A.val)) := by rw [← hl']; simp
      have hi : items.length = done.length + (rest.length + 1) := by rw [e]; simp
      rw [ok_push hn]
      refine ⟨by rw [List.length_map]; omega, acc ++ [d], hb', ?_, hl', by simp, p'⟩
      rw [← hl', List.set_append_right _ _ (Nat.le_refl _)]
      simp
  · subst e
    exact hd acc hb p hl
/-- a for -/
def FlP (P : En → Hh → Prop) (QF : Fl → Hh → Prop) (fl : Fl) (h : Hh) : Prop := match fl with
  | .nx e => P e h
  | .ct e => P e h
  | .bk e => QF (.nx e) h
  | .rt v => QF (.rt v) h
@[simp] theorem flp_nx {P : En → Hh → Prop} {QF : Fl → Hh → Prop} {e : En} : FlP P QF (.nx e) h ↔ P e h := Iff.rfl
@[simp] theorem flp_ct {P : En → Hh → Prop} {QF : Fl → Hh → Prop} {e : En} : FlP P QF (.ct e) h ↔ P e h := Iff.rfl
@[simp] theorem flp_bk {P : En → Hh → Prop} {QF : Fl → Hh → Prop} {e : En} : FlP P QF (.bk e) h ↔ QF (.nx e) h := Iff.rfl
@[simp] theorem flp_rt {P : En → Hh → Prop} {QF : Fl → Hh → Prop} {v : A} : FlP P QF (.rt v) h ↔ QF (.rt v) h := Iff.rfl
theorem forL_ok {f : A → En → M Fl} {items : List A} {QF : Fl → Hh → Prop} (P : List A → En → Hh → Prop) (hs : ∀ done a rest env hb, items = done ++ a :: rest → P done env hb → Ok (f a env) hb (FlP (P (done ++ [a])) QF)) (hd : ∀ e hb, P items e hb → QF (.nx e) hb) :
    ∀ (rest done : List A) (env : En) (hb : Hh), items = done ++ rest → P done env hb → Ok (forL f rest env) hb QF
  | [], done, env, hb, e, p => by
    rw [List.append_nil] at e
    subst e
    exact ok_pure.mpr (hd _ _ p)
  | a :: rest, done, env, hb, e, p => by
    unfold forL
    rw [ok_bind]
    refine (hs done a rest env hb e p).imp fun fl hh q => ?_
    cases fl with
    | nx e' => exact forL_ok P hs hd rest (done ++ [a]) e' hh (by rw [e, List.append_assoc]; rfl) q
    | ct e' => exact forL_ok P hs hd rest (done ++ [a]) e' hh (by rw [e, List.append_assoc]; rfl) q
    | bk e' => exact ok_pure.mpr q
    | rt v => exact ok_pure.mpr q
theorem ok_for {tg : Tg} {it : It} {body : Ss} {items : List A} {QF : Fl → Hh → Prop} (P : List A → En → Hh → Prop) (hit : evIt cf b it env h = .ok items h1) (h0 : P [] env h1)
    (hs : ∀ done a rest env hb, items = done ++ a :: rest → P done env hb → ∃ env', bindT tg a env = some env' ∧ Ok (evSs cf b body env') hb (FlP (P (done ++ [a])) QF)) (hd : ∀ e hb, P items e hb → QF (.nx e) hb) :
    Ok (evS cf b (.for_ tg it body) env) h QF := by
  rw [evS]
  simp only [ok_bind]
  rw [ok_of hit]
  refine forL_ok P (fun done a rest env hb e p => ?_) hd items [] env h1 rfl h0
  obtain ⟨env', eb, q⟩ := hs done a rest env hb e p
  simp only [ok_bind, eb, ok_some]
  exact q
/-! ### texts -/
theorem ofString_inj (a b : String) : (Str.ofString a = Str.ofString b) ↔ a = b := by
  constructor
  · intro e
    rw [Str.ofString_eq_toList, Str.ofString_eq_toList] at e
    have e1 : (a.toList.map Char.toNat).toArray = (b.toList.map Char.toNat).toArray := Str.mk.inj e
    have e2 : a.toList.map Char.toNat = b.toList.map Char.toNat := by simpa using congrArg Array.toList e1
    have e3 : a.toList = b.toList := by
      refine List.map_inj_right (fun x y hxy => ?_) |>.mp e2
      exact Char.toNat_inj.mp hxy
    exact String.toList_inj.mp e3
  · rintro rfl
    rfl
@[simp] theorem eqD_int {i j : Int} : eqD (.int i) (.int j) = some (i == j) := rfl
@[simp] theorem eqD_str {i j : Str} : eqD (.str i) (.str j) = some (i == j) := rfl
@[simp] theorem eqD_bl {i j : Bool} : eqD (.bl i) (.bl j) = some (i == j) := rfl
@[simp] theorem cmp_eq {d e : D} : cmpD .eq d e = eqD d e := rfl
@[simp] theorem cmp_lt {i j : Int} : cmpD .lt (.int i) (.int j) = some (decide (i < j)) := rfl
@[simp] theorem cmp_le {i j : Int} : cmpD .le (.int i) (.int j) = some (decide (i ≤ j)) := rfl
@[simp] theorem cmp_gt {i j : Int} : cmpD .gt (.int i) (.int j) = some (decide (j < i)) := rfl
@[simp] theorem cmp_ge {i j : Int} : cmpD .ge (.int i) (.int j) = some (decide (j ≤ i)) := rfl
@[simp] theorem cmp_neI {i j : Int} : cmpD .ne (.int i) (.int j) = some (!(i == j)) := rfl
@[simp] theorem cmp_isN {d : D} : cmpD .is_ d .non = some (isNon d) := by cases d <;> rfl
@[simp] theorem cmp_isnN {d : D} : cmpD .isn d .non = some (!isNon d) := by cases d <;> rfl
@[simp] theorem op_addI {i j : Int} : opD .add (.int i) (.int j) = some (.int (i + j)) := rfl
@[simp] theorem op_subI {i j : Int} : opD .sub (.int i) (.int j) = some (.int (i - j)) := rfl
@[simp] theorem op_addL {x y : List D} : opD .add (.lst x) (.lst y) = if x.length + y.length ≤ sizeLine then some (.lst (x ++ y)) else none := rfl
@[simp] theorem op_addS {x y : Str} : opD .add (.str x) (.str y) = if x.length + y.length ≤ sizeLine then some (.str (x ++ y)) else none := rfl
@[simp] theorem op_addT {x y : List D} : opD .add (.tup x) (.tup y) = if x.length + y.length ≤ sizeLine then some (.tup (x ++ y)) else none := rfl
@[simp] theorem op_mulI {i j : Int} : opD .mul (.int i) (.int j) = if (-(2 ^ 64) < i ∧ i < 2 ^ 64) ∨ (-(2 ^ 64) < j ∧ j < 2 ^ 64) then some (.int (i * j)) else none := rfl
@[simp] theorem op_modI {i j : Int} : opD .mod (.int i) (.int j) = if 0 < j then some (.int (i % j)) else none := rfl
@[simp] theorem op_fdivI {i j : Int} : opD .fdiv (.int i) (.int j) = if 0 < j ∧ j < 1073741824 then some (.int (i / j)) else none := rfl
@[simp] theorem op_powI {i j : Int} : opD .pow (.int i) (.int j) = if 0 ≤ j ∧ j ≤ 1000000 ∧ i.natAbs < 2 ^ 64 then some (.int (i ^ j.toNat)) else none := rfl
@[simp] theorem bl_abs {i : Int} : blD .abs (.int i) = some (.int (if i < 0 then -i else i)) := rfl
@[simp] theorem bl_intB {t : Bool} : blD .int (.bl t) = some (.int (if t then 1 else 0)) := rfl
@[simp] theorem bl_intI {i : Int} : blD .int (.int i) = some (.int i) := rfl
@[simp] theorem bl_listL {ds : List D} : blD .list (.lst ds) = some (.lst ds) := rfl
@[simp] theorem bl_listT {ds : List D} : blD .list (.tup ds) = some (.lst ds) := rfl
@[simp] theorem bl_listS {ds : List Int} : blD .list (.scr ds) = some (.lst (ds.map D.int)) := rfl
@[simp] theorem bl_listD {ks : List Key} {ds : List D} : blD .list (.dct ks ds) = some (.lst (ks.map keyD)) := rfl
@[simp] theorem bl_tupL {ds : List D} : blD .tuple (.lst ds) = some (.tup ds) := rfl
@[simp] theorem bl_tupT {ds : List D} : blD .tuple (.tup ds) = some (.tup ds) := rfl
@[simp] theorem bl_dictD {ks : List Key} {ds : List D} : blD .dict (.dct ks ds) = some (.dct ks ds) := rfl
@[simp] theorem bl_dictL {ds : List D} : blD .dict (.lst ds) = (pairsD ds).map mkDict := rfl
@[simp] theorem bl_allL {ds : List D} : blD .all (.lst ds) = (blsD ds).map fun bs => .bl (bs.all id) := rfl
@[simp] theorem bl_anyL {ds : List D} : blD .any (.lst ds) = (blsD ds).map fun bs => .bl (bs.any id) := rfl
@[simp] theorem b2_maxI {i j : Int} : b2D .max (.int i) (.int j) = some (.int (if j > i then j else i)) := rfl
@[simp] theorem b2_minI {i j : Int} : b2D .min (.int i) (.int j) = some (.int (if j < i then j else i)) := rfl
@[simp] theorem ix_l {ds : List D} {i : Int} : idxD (.lst ds) (.int i) = atP ds i := rfl
@[simp] theorem ix_t {ds : List D} {i : Int} : idxD (.tup ds) (.int i) = atP ds i := rfl
@[simp] theorem ix_s {ds : List Int} {i : Int} : idxD (.scr ds) (.int i) = (atP ds i).map D.int := rfl
@[simp] theorem ix_dS {ks : List Key} {ds : List D} {s : Str} : idxD (.dct ks ds) (.str s) = lookK (.inr s) ks ds := rfl
@[simp] theorem ix_dI {ks : List Key} {ds : List D} {i : Int} : idxD (.dct ks ds) (.int i) = lookK (.inl i) ks ds := rfl
theorem atP_nat {α : Type} {xs : List α} (j : Nat) : atP xs (j : Int) = xs[j]? := by
  unfold atP atI ixN
  rw [if_pos (by omega)]
  by_cases h : j < xs.length
  · rw [if_pos (by omega)]
    simp
  · rw [if_neg (by omega), List.getElem?_eq_none (by omega)]
    rfl
@[simp] theorem at_0 {α : Type} {x : α} {xs : List α} : atP (x :: xs) 0 = some x := (atP_nat 0).trans rfl
@[simp] theorem at_1 {α : Type} {x y : α} {xs : List α} : atP (x :: y :: xs) 1 = some y := (atP_nat 1).trans rfl
@[simp] theorem at_2 {α : Type} {x y z : α} {xs : List α} : atP (x :: y :: z :: xs) 2 = some z := (atP_nat 2).trans rfl
@[simp] theorem at_3 {α : Type} {x y z w : α} {xs : List α} : atP (x :: y :: z :: w :: xs) 3 = some w := (atP_nat 3).trans rfl
@[simp] theorem sl_l {ds : List D} {lo hi : Option Int} : slcD (.lst ds) lo hi = some (.lst (cutL ds lo hi)) := rfl
@[simp] theorem sl_t {ds : List D} {lo hi : Option Int} : slcD (.tup ds) lo hi = some (.tup (cutL ds lo hi)) := rfl
@[simp] theorem part_i {i : Int} : partD (.int i) = some i := rfl
@[simp] theorem ty_int {d : D} : tyD .int d = (match d with | .int _ => true | .bl _ => true | _ => false) := by cases d <;> rfl
@[simp] theorem ty_bool {d : D} : tyD .bool d = (match d with | .bl _ => true | _ => false) := by cases d <;> rfl
@[simp] theorem ty_str {d : D} : tyD .str d = (match d with | .str _ => true | _ => false) := by cases d <;> rfl
@[simp] theorem ty_tup {d : D} : tyD .tup d = (match d with | .tup _ => true | _ => false) := by cases d <;> rfl
@[simp] theorem ty_lst {d : D} : tyD .lst d = (match d with | .lst _ => true | .scr _ => true | _ => false) := by cases d <;> rfl
@[simp] theorem ty_dct {d : D} : tyD .dct d = (match d with | .dct _ _ => true | _ => false) := by cases d <;> rfl
theorem cut_from {α : Type} {xs : List α} {i : Int} (h0 : 0 ≤ i) : cutL xs (some i) none = xs.drop i.toNat := by
  unfold cutL HT.sIx
  simp only [if_neg (show ¬ i < 0 by omega)]
  by_cases h : i.toNat ≤ xs.length
  · rw [Nat.min_eq_left h, List.take_of_length_le (by simp)]
  · rw [Nat.min_eq_right (by omega), List.drop_of_length_le (Nat.le_refl _), List.drop_of_length_le (by omega)]
    simp
theorem cut_to {α : Type} {xs : List α} {i : Int} (h0 : 0 ≤ i) : cutL xs none (some i) = xs.take i.toNat := by
  unfold cutL HT.sIx
  simp only [if_neg (show ¬ i < 0 by omega), List.drop_zero, Nat.sub_zero]
  by_cases h : i.toNat ≤ xs.length
  · rw [Nat.min_eq_left h]
  · rw [Nat.min_eq_right (by omega), List.take_of_length_le (Nat.le_refl _), List.take_of_length_le (by omega)]
/-! ### the law's own state: two numbers in a cell -/
def St (a b : Int) : C := .lst [.val (.int a), .val (.int b)]
end
end Lo
set_option maxHeartbeats 200000
/-! Core R: the laws' own drawing of numbers. -/
namespace Lo
open PySem L2
def nextIr : Ss :=
  (.cons (.ite (.cmp .gt (.idx (.var 0) (.cst (.int 1))) (.cst (.int 0))) (
    (.cons (.set (.one 2) (.op false .mod (.idx (.var 0) (.cst (.int 1))) (.var 1)))
    (.cons (.put (.var 0) (.cst (.int 1)) (.op false .fdiv (.idx (.var 0) (.cst (.int 1))) (.var 1)))
    (.cons (.ret (.var 2)) .nil)))) (.nil))
  (.cons (.put (.var 0) (.cst (.int 0)) (.op false .mod (.op false .add (.op false .mul (.idx (.var 0) (.cst (.int 0))) (.cst (.int 48271))) (.cst (.int 11))) (.cst (.int 2147483647))))
  (.cons (.ret (.op false .mod (.op false .fdiv (.idx (.var 0) (.cst (.int 0))) (.cst (.int 7))) (.var 1))) .nil)))
def nextFn (x : Str) : Fn := ⟨x, 2, 3, .frz, nextIr⟩
section
variable {tab : List Fn} {k i n : Nat} {h : Hh}
theorem idxSt {h : Hh} {n : Nat} {a b : Int} (hn : h[n]? = some (St a b)) {Q : A → Hh → Prop} : (Ok (idxA (.ref n) (.int 0)) h Q ↔ Q (.val (.int a)) h) ∧ (Ok (idxA (.ref n) (.int 1)) h Q ↔ Q (.val (.int b)) h) := by
  unfold St at hn
  constructor
  · rw [ok_idxL hn, show atP [A.val (.int a), A.val (.int b)] 0 = some (A.val (.int a)) from rfl]
    simp
  · rw [ok_idxL hn, show atP [A.val (.int a), A.val (.int b)] 1 = some (A.val (.int b)) from rfl]
    simp
theorem storeSt {h : Hh} {m n : Nat} {a b y : Int} (hn : h[n]? = some (St a b)) {Q : Unit → Hh → Prop} :
    (Ok (storeA m (.ref n) (.int 0) (.val (.int y))) h Q ↔ Q () (h.set n (St y b))) ∧ (Ok (storeA m (.ref n) (.int 1) (.val (.int y))) h Q ↔ Q () (h.set n (St a y))) := by
  unfold St at hn
  constructor
  · rw [ok_store may_val hn (show ixN _ 0 = some 0 from rfl)]
    rfl
  · rw [ok_store may_val hn (show ixN _ 1 = some 1 from rfl)]
    rfl
theorem getSt {h : Hh} {n : Nat} {c c' : C} (hn : h[n]? = some c) : (h.set n c')[n]? = some c' := by
  rw [List.getElem?_set_self (List.getElem?_eq_some_iff.mp hn).1]
theorem next_ok {x : Str} (ht : tab[i]? = some (nextFn x)) {a b size : Int} (hn : h[n]? = some (St a b)) (hs : 0 < size) (hs2 : size < 1073741824) :
    ∃ r a' b', 0 ≤ r ∧ r < size ∧ callF tab (k + 1) i [.ref n, .val (.int size)] h = .ok (.val (.int r)) (h.set n (St a' b')) := by
  have hl : n < h.length := (List.getElem?_eq_some_iff.mp hn).1
  have tk : ∀ c, (h.set n c).take h.length = h.set n c := fun c => List.take_of_length_le (by simp)
  suffices z : Ok (callF tab (k + 1) i [.ref n, .val (.int size)]) h fun a h' => ∃ r a' b', 0 ≤ r ∧ r < size ∧ a = .val (.int r) ∧ h' = h.set n (St a' b') by
    obtain ⟨v, h', e, r, a', b', q1, q2, rfl, rfl⟩ := z
    exact ⟨r, a', b', q1, q2, e⟩
  rw [ok_call ht rfl]
  simp only [nextFn, nextIr]
  have i0 := fun Q => (idxSt hn (Q := Q)).1
  have i1 := fun Q => (idxSt hn (Q := Q)).2
  have s0 := fun m y Q => (storeSt hn (m := m) (y := y) (Q := Q)).1
  have s1 := fun m y Q => (storeSt hn (m := m) (y := y) (Q := Q)).2
  have j0 := fun y z Q => (idxSt (getSt hn (c' := St y z)) (Q := Q)).1
  simp [i0, i1, s0, s1, j0, hs, hs2, tk]
  constructor
  · intro hb
    exact ⟨_, Int.emod_nonneg _ (Int.ne_of_gt hs), Int.emod_lt_of_pos _ hs, rfl, _, _, rfl⟩
  · intro hb
    exact ⟨_, Int.emod_nonneg _ (Int.ne_of_gt hs), Int.emod_lt_of_pos _ hs, rfl, _, _, rfl⟩
end
end Lo
namespace Lo
open PySem L2
section
variable {tab : List Fn} {k i n : Nat} {h : Hh} {Q : A → Hh → Prop}
theorem ok_next {x : Str} (ht : tab[i]? = some (nextFn x)) {a b size : Int} (hn : h[n]? = some (St a b)) (hs : 0 < size) (hs2 : size < 1073741824) (q : ∀ r a' b', 0 ≤ r → r < size → Q (.val (.int r)) (h.set n (St a' b'))) :
    Ok (callF tab (k + 1) i [.ref n, .val (.int size)]) h Q := by
  obtain ⟨r, a', b', h0, h1, e⟩ := next_ok (k := k) ht hn hs hs2
  exact (ok_of e).mpr (q r a' b' h0 h1)
theorem atP_ok {α : Type} {xs : List α} {i : Int} (h0 : 0 ≤ i) (h1 : i < xs.length) : ∃ x, x ∈ xs ∧ atP xs i = some x := by
  have hj : i.toNat < xs.length := by omega
  refine ⟨xs[i.toNat], List.getElem_mem hj, ?_⟩
  unfold atP atI ixN
  simp [h0, h1, hj]
end
end Lo
namespace Lo
open PySem L2
/-- a heap with the law's state at n and cells behind it -/
def HS (h : Hh) (n : Nat) (a b : Int) (l : Hh) : Hh := h.set n (St a b) ++ l
section
variable {tab : List Fn} {k i n : Nat} {h l : Hh} {a b : Int} {Q : A → Hh → Prop}
theorem hs_get (hl : n < h.length) : (HS h n a b l)[n]? = some (St a b) := by
  unfold HS
  rw [List.getElem?_append_left (by simpa using hl), List.getElem?_set_self hl]
theorem hs_set (hl : n < h.length) {a' b' : Int} : (HS h n a b l).set n (St a' b') = HS h n a' b' l := by
  unfold HS
  rw [List.set_append_left _ _ (by simpa using hl), List.set_set]
@[simp] theorem hs_len : (HS h n a b l).length = h.length + l.length := by
  unfold HS
  simp
@[simp] theorem hs_app {c : C} : HS h n a b l ++ [c] = HS h n a b (l ++ [c]) := by
  unfold HS
  simp
theorem hs_at {j : Nat} : (HS h n a b l)[h.length + j]? = l[j]? := by
  unfold HS
  rw [List.getElem?_append_right (by simp)]
  simp
theorem hs_put {j : Nat} {c : C} : (HS h n a b l).set (h.length + j) c = HS h n a b (l.set j c) := by
  unfold HS
  rw [List.set_append_right _ _ (by simp)]
  simp
@[simp] theorem hs_take : (HS h n a b l).take h.length = HS h n a b [] := by
  unfold HS
  rw [List.take_append_of_le_length (by simp), List.take_of_length_le (by simp)]
  simp
theorem hs_start (hn : h[n]? = some (St a b)) : h = HS h n a b [] := by
  unfold HS
  have hl := (List.getElem?_eq_some_iff.mp hn).1
  have : h.set n (St a b) = h := by
    rw [List.getElem?_eq_getElem hl] at hn
    rw [← Option.some.inj hn]
    exact List.set_getElem_self hl
  rw [this, List.append_nil]
theorem ok_nextH {x : Str} (ht : tab[i]? = some (nextFn x)) (hl : n < h.length) {size : Int} (hs : 0 < size) (hs2 : size < 1073741824) (q : ∀ r a' b', 0 ≤ r → r < size → Q (.val (.int r)) (HS h n a' b' l)) :
    Ok (callF tab (k + 1) i [.ref n, .val (.int size)]) (HS h n a b l) Q := by
  refine ok_next ht (hs_get hl) hs hs2 fun r a' b' h0 h1 => ?_
  rw [hs_set hl]
  exact q r a' b' h0 h1
theorem idx_str {s : Str} {i : Int} (hs : s.length ≤ sizeLine) (h0 : 0 ≤ i) (h1 : i < s.cps.toList.length) : ∃ c, idxD (.str s) (.int i) = some (.str ⟨#[c]⟩) := by
  obtain ⟨c, _, e⟩ := atP_ok h0 h1
  refine ⟨c, ?_⟩
  show (if s.length ≤ sizeLine then (atP s.cps.toList i).map fun c => D.str ⟨#[c]⟩ else none) = _
  rw [if_pos hs, e]
  rfl
theorem idx_lst {ds : List D} {i : Int} (h0 : 0 ≤ i) (h1 : i < ds.length) : ∃ d, d ∈ ds ∧ idxD (.lst ds) (.int i) = some d := by
  obtain ⟨c, hc, e⟩ := atP_ok h0 h1
  exact ⟨c, hc, e⟩
theorem of_ok {α : Type} {x : M α} {h h1 : Hh} {v : α} (q : Ok x h fun a h' => a = v ∧ h' = h1) : x h = .ok v h1 := by
  obtain ⟨a, h', e, rfl, rfl⟩ := q
  exact e
theorem line_big : 1000 ≤ sizeLine := by decide +kernel
end
end Lo
namespace Lo
open PySem L2
section
variable {h : Hh} {cf : Nat → List A → M A} {b : Nat} {env : En}
theorem ok_forX {tg : Tg} {it : It} {body : Ss} {QF : Fl → Hh → Prop} (q : Ok (evIt cf b it env) h fun items h1 => ∃ P : List A → En → Hh → Prop, P [] env h1 ∧
    (∀ done a rest env hb, items = done ++ a :: rest → P done env hb → ∃ env', bindT tg a env = some env' ∧ Ok (evSs cf b body env') hb (FlP (P (done ++ [a])) QF)) ∧ (∀ e hb, P items e hb → QF (.nx e) hb)) :
    Ok (evS cf b (.for_ tg it body) env) h QF := by
  obtain ⟨items, h1, e, P, h0, hs, hd⟩ := q
  exact ok_for P e h0 hs hd
theorem ok_lcX {m : Bool} {body : E} {own : List Nat} {tg : Tg} {it : It} {Q : A → Hh → Prop} (q : Ok (evIt cf b it env) h fun items h1 => items.length < sizeLine ∧ ∃ P : List A → List D → Hh → Prop, P [] [] h1 ∧
    (∀ done a rest acc hb, items = done ++ a :: rest → P done acc hb → hb.length = h1.length → acc.length ≤ done.length → ∃ env', bindT tg a (wipeE env own) = some env' ∧
      Ok (evE cf (h1.length + 1) body env') (hb ++ [.lst (acc.map A.val)]) fun y hh => ∃ d hb', y = .val d ∧ hh = hb' ++ [.lst (acc.map A.val)] ∧ hb'.length = h1.length ∧ P (done ++ [a]) (acc ++ [d]) hb') ∧
    (∀ acc hb, P items acc hb → hb.length = h1.length → Ok (topL m h1.length) (hb ++ [.lst (acc.map A.val)]) Q)) : Ok (evE cf b (.lc m body own tg it) env) h Q := by
  obtain ⟨items, h1, e, hsm, P, h0, hs, hd⟩ := q
  exact ok_lc P e hsm h0 hs hd
theorem ok_lcIX {m : Bool} {body c : E} {own : List Nat} {tg : Tg} {it : It} {Q : A → Hh → Prop} (q : Ok (evIt cf b it env) h fun items h1 => items.length < sizeLine ∧ ∃ P : List A → List D → Hh → Prop, P [] [] h1 ∧
    (∀ done a rest acc hb, items = done ++ a :: rest → P done acc hb → hb.length = h1.length → acc.length ≤ done.length → ∃ env', bindT tg a (wipeE env own) = some env' ∧
      Ok (evE cf (h1.length + 1) c env') (hb ++ [.lst (acc.map A.val)]) fun t hh => Ok (truA t) hh fun t hh =>
        (t = false → ∃ hb', hh = hb' ++ [.lst (acc.map A.val)] ∧ hb'.length = h1.length ∧ P (done ++ [a]) acc hb') ∧
        (t = true → Ok (evE cf (h1.length + 1) body env') hh fun y hh => ∃ d hb', y = .val d ∧ hh = hb' ++ [.lst (acc.map A.val)] ∧ hb'.length = h1.length ∧ P (done ++ [a]) (acc ++ [d]) hb')) ∧
    (∀ acc hb, P items acc hb → hb.length = h1.length → Ok (topL m h1.length) (hb ++ [.lst (acc.map A.val)]) Q)) : Ok (evE cf b (.lcI m body own tg it c) env) h Q := by
  obtain ⟨items, h1, e, hsm, P, h0, hs, hd⟩ := q
  exact ok_lcI P e hsm h0 hs hd
theorem rng_split : ∀ {n : Nat} {lo : Int} {done rest : List A} {a : A}, rngL lo n = done ++ a :: rest → a = .val (.int (lo + done.length)) ∧ done.length < n := by
  intro n lo done rest a e
  have hl : done.length < n := by
    have := congrArg List.length e
    rw [rng_len] at this
    simp at this
    omega
  have h1 := rng_get n lo done.length hl
  rw [e, List.getElem?_append_right (Nat.le_refl _)] at h1
  simp at h1
  exact ⟨h1, hl⟩
theorem map_split {α : Type} {f : α → A} {l : List α} {done rest : List A} {a : A} (e : l.map f = done ++ a :: rest) : ∃ x ∈ l, a = f x := by
  have : a ∈ l.map f := by rw [e]; simp
  obtain ⟨x, hx, rfl⟩ := List.mem_map.mp this
  exact ⟨x, hx, rfl⟩
end
end Lo
namespace Lo
open PySem L2
section
variable {h : Hh} {cf : Nat → List A → M A} {b : Nat} {env : En}
theorem mapO_val {k : Nat} : ∀ ds : List D, mapO (snap k h) (ds.map A.val) = some ds
  | [] => rfl
  | d :: r => by
    rw [List.map_cons, mapO]
    have : snap k h (.val d) = some d := by cases k <;> rfl
    rw [this, mapO_val r]
theorem snap_cell {k n : Nat} {ds : List D} (hn : h[n]? = some (.lst (ds.map A.val))) : snap (k + 1) h (.ref n) = some (.lst ds) := by
  unfold snap
  rw [hn]
  simp only [mapO_val]
  rfl
theorem ok_snL {n : Nat} {ds : List D} {Q : D → Hh → Prop} (hn : h[n]? = some (.lst (ds.map A.val))) : Ok (sn (.ref n)) h Q ↔ Q (.lst ds) h := by
  rw [ok_sn, snap_cell hn]
  simp
theorem ok_sfL {n : Nat} {ds : List D} {Q : D → Hh → Prop} (hn : h[n]? = some (.lst (ds.map A.val))) : Ok (sf (.ref n)) h Q ↔ Q (.lst ds) h := by
  rw [ok_sf, snap_cell hn]
  simp
theorem pl_strs {k : Nat} : ∀ ss : List Str, plL (ss.map D.str) k = true
  | [] => rfl
  | s :: r => by
    rw [List.map_cons, plL, pl_strs r]
    simp [D.pl]
theorem pl_ints {k : Nat} : ∀ ss : List Int, plL (ss.map D.int) k = true
  | [] => rfl
  | s :: r => by
    rw [List.map_cons, plL, pl_ints r]
    simp [D.pl]
theorem any_strs (x : Str) : ∀ ss : List Str, ((ss.map D.str).any fun z => z.eqv (.str x)) = ss.any fun s => s == x
  | [] => rfl
  | s :: r => by
    rw [List.map_cons, List.any_cons, List.any_cons, any_strs x r]
    rfl
@[simp] theorem in_strs {x : Str} {ss : List Str} : cmpD .in_ (.str x) (.lst (ss.map D.str)) = some (ss.any fun s => s == x) := by
  show (match (D.str x).pl 50 && plL (ss.map D.str) 50 with
    | true => some ((ss.map D.str).any fun z => z.eqv (.str x))
    | false => none) = _
  rw [pl_strs, any_strs]
  rfl
@[simp] theorem nin_strs {x : Str} {ss : List Str} : cmpD .nin (.str x) (.lst (ss.map D.str)) = some (!ss.any fun s => s == x) := by
  show (inD (.str x) (.lst (ss.map D.str))).map _ = _
  have : inD (.str x) (.lst (ss.map D.str)) = some (ss.any fun s => s == x) := in_strs
  rw [this]
  rfl
def isStrD : D → Bool
  | .str _ => true
  | _ => false
theorem str_of {ds : List D} {d : D} (h : ds.all isStrD = true) (hd : d ∈ ds) : ∃ s, d = .str s := by
  have := List.all_eq_true.mp h d hd
  cases d <;> first | exact ⟨_, rfl⟩ | cases this
theorem strs_val (ss : List Str) : ss.map (fun s => A.val (.str s)) = (ss.map D.str).map A.val := by
  rw [List.map_map]
  rfl
end
end Lo
namespace Lo
open PySem L2
section
variable {h : Hh} {cf : Nat → List A → M A} {b : Nat} {env : En}
/-- a comprehension that computes, and changes nothing -/
theorem ok_lcMap {body : E} {own : List Nat} {tg : Tg} {it : It} {Q : A → Hh → Prop} {ds : List D} (f : D → D) (q : Ok (evIt cf b it env) h fun items h1 => items = ds.map A.val ∧ ds.length < sizeLine ∧
    (∀ d ∈ ds, ∃ env', bindT tg (.val d) (wipeE env own) = some env' ∧ ∀ acc, Ok (evE cf (h1.length + 1) body env') (h1 ++ [.lst acc]) fun y hh => y = .val (f d) ∧ hh = h1 ++ [.lst acc]) ∧ Q (.val (.lst (ds.map f))) h1) :
    Ok (evE cf b (.lc false body own tg it) env) h Q := by
  refine ok_lcX (q.imp fun items h1 ⟨hi, hl, hs, hq⟩ => ?_)
  subst hi
  refine ⟨by rw [List.length_map]; exact hl, fun done acc hb => hb = h1 ∧ ∃ dn rs, ds = dn ++ rs ∧ done = dn.map A.val ∧ acc = dn.map f, ⟨rfl, [], ds, rfl, rfl, rfl⟩, ?_, ?_⟩
  · rintro done a rest acc hb e ⟨rfl, dn, rs, e1, rfl, rfl⟩ _ _
    rw [e1, List.map_append] at e
    have e2 := List.append_cancel_left e
    cases rs with
    | nil => cases e2
    | cons d rs =>
      simp only [List.map_cons, List.cons.injEq] at e2
      obtain ⟨rfl, _⟩ := e2
      obtain ⟨env', eb, q⟩ := hs d (by rw [e1]; simp)
      refine ⟨env', eb, (q _).imp fun y hh ⟨ey, eh⟩ => ⟨f d, hb, ey, eh, rfl, rfl, dn ++ [d], rs, by rw [e1]; simp, by simp, by simp⟩⟩
  · rintro acc hb ⟨rfl, dn, rs, e1, e2, rfl⟩ hl
    have e3 : rs = [] := by
      have := congrArg List.length e2
      rw [List.length_map, List.length_map, e1, List.length_append] at this
      exact List.length_eq_zero_iff.mp (by omega)
    rw [e3, List.append_nil] at e1
    rw [ok_top rfl, ← e1]
    exact hq
end
end Lo
namespace Lo
open PySem L2
section
variable {h : Hh} {cf : Nat → List A → M A} {b : Nat} {env : En}
inductive Two (R : D → D → Prop) : List D → List D → Prop
  | nil : Two R [] []
  | cons {d e : D} {ds es : List D} (h : R d e) (t : Two R ds es) : Two R (d :: ds) (e :: es)
theorem Two.snoc {R : D → D → Prop} {d e : D} (h : R d e) : ∀ {ds es : List D}, Two R ds es → Two R (ds ++ [d]) (es ++ [e])
  | _, _, .nil => .cons h .nil
  | _, _, .cons q t => .cons q (Two.snoc h t)
theorem Two.len {R : D → D → Prop} : ∀ {ds es : List D}, Two R ds es → es.length = ds.length
  | _, _, .nil => rfl
  | _, _, .cons _ t => by rw [List.length_cons, List.length_cons, t.len]
/-- a comprehension that changes nothing -/
theorem ok_lcRel {body : E} {own : List Nat} {tg : Tg} {it : It} {Q : A → Hh → Prop} {ds : List D} (R : D → D → Prop) (q : Ok (evIt cf b it env) h fun items h1 => items = ds.map A.val ∧ ds.length < sizeLine ∧
    (∀ d ∈ ds, ∃ env', bindT tg (.val d) (wipeE env own) = some env' ∧ ∀ acc, Ok (evE cf (h1.length + 1) body env') (h1 ++ [.lst acc]) fun y hh => ∃ e, R d e ∧ y = .val e ∧ hh = h1 ++ [.lst acc]) ∧ ∀ es, Two R ds es → Q (.val (.lst es)) h1) :
    Ok (evE cf b (.lc false body own tg it) env) h Q := by
  refine ok_lcX (q.imp fun items h1 ⟨hi, hl, hs, hq⟩ => ?_)
  subst hi
  refine ⟨by rw [List.length_map]; exact hl, fun done acc hb => hb = h1 ∧ ∃ dn rs, ds = dn ++ rs ∧ done = dn.map A.val ∧ Two R dn acc, ⟨rfl, [], ds, rfl, rfl, .nil⟩, ?_, ?_⟩
  · rintro done a rest acc hb e ⟨rfl, dn, rs, e1, rfl, t⟩ _ _
    rw [e1, List.map_append] at e
    have e2 := List.append_cancel_left e
    cases rs with
    | nil => cases e2
    | cons d rs =>
      simp only [List.map_cons, List.cons.injEq] at e2
      obtain ⟨rfl, _⟩ := e2
      obtain ⟨env', eb, q⟩ := hs d (by rw [e1]; simp)
      refine ⟨env', eb, (q _).imp fun y hh ⟨e, r, ey, eh⟩ => ⟨e, hb, ey, eh, rfl, rfl, dn ++ [d], rs, by rw [e1]; simp, by simp, t.snoc r⟩⟩
  · rintro acc hb ⟨rfl, dn, rs, e1, e2, t⟩ hl
    have e3 : rs = [] := by
      have := congrArg List.length e2
      rw [List.length_map, List.length_map, e1, List.length_append] at this
      exact List.length_eq_zero_iff.mp (by omega)
    rw [e3, List.append_nil] at e1
    rw [ok_top rfl]
    exact hq acc (by rw [e1]; exact t)
end
end Lo
namespace Lo
open PySem L2
@[simp] theorem isS_str {s : Str} : isStrD (.str s) = true := rfl
@[simp] theorem eqv_str {a b : Str} : (D.str a).eqv (.str b) = (a == b) := rfl
@[simp] theorem eqv_int {a b : Int} : (D.int a).eqv (.int b) = (a == b) := rfl
theorem plS : ∀ {ds : List D}, ds.all isStrD = true → ∀ k, plL ds k = true
  | [], _, _ => rfl
  | d :: r, h, k => by
    rw [List.all_cons, Bool.and_eq_true] at h
    rw [plL, plS h.2]
    cases d <;> first | rfl | (cases h.1; done)
@[simp] theorem in_lit {x : Str} {ds : List D} (h : ds.all isStrD = true) : cmpD .in_ (.str x) (.lst ds) = some (ds.any fun z => z.eqv (.str x)) := by
  show (match (D.str x).pl 50 && plL ds 50 with
    | true => some (ds.any fun z => z.eqv (.str x))
    | false => none) = _
  rw [plS h]
  rfl
@[simp] theorem in_litT {x : Str} {ds : List D} (h : ds.all isStrD = true) : cmpD .in_ (.str x) (.tup ds) = some (ds.any fun z => z.eqv (.str x)) := by
  show (match (D.str x).pl 50 && plL ds 50 with
    | true => some (ds.any fun z => z.eqv (.str x))
    | false => none) = _
  rw [plS h]
  rfl
end Lo
set_option maxHeartbeats 200000
set_option maxHeartbeats 0
/-! the table of law_k02_what_values_come_to, printed by gen.py -/
namespace Lo.k02
open PySem L2
/-- told_truth -/
def ir_0 : Ss := 
  (.cons (.ite (.var 0) (
    (.cons (.ret (.cst (.int 1))) .nil)) (.nil))
  (.cons (.ret (.cst (.int 0))) .nil))
def n_0 : List Str := ["truth"]
def p_0 : List Str := ["truth"]
/-- worth -/
def ir_1 : Ss := 
  (.cons (.set (.one 4) (.idx (.var 0) (.cst (.int 0))))
  (.cons (.ite (.cmp .eq (.var 4) (.cst (.str "number"))) (
    (.cons (.ret (.op false .mod (.idx (.var 0) (.cst (.int 1))) (.var 1))) .nil)) (.nil))
  (.cons (.ite (.cmp .eq (.var 4) (.cst (.str "own"))) (
    (.cons (.ret (.idx (.var 2) (.idx (.var 0) (.cst (.int 1))))) .nil)) (.nil))
  (.cons (.ite (.cmp .eq (.var 4) (.cst (.str "box"))) (
    (.cons (.ret (.idx (.var 3) (.idx (.var 0) (.cst (.int 1))))) .nil)) (.nil))
  (.cons (.set (.one 5) (.lc false (.call 1 (.cons (.var 6) (.cons (.var 1) (.cons (.var 2) (.cons (.var 3) .nil))))) [6] (.one 6) (.seq (.slL false (.var 0) (.cst (.int 1))))))
  (.cons (.ite (.cmp .eq (.var 4) (.cst (.str "plus"))) (
    (.cons (.ret (.op false .mod (.op false .add (.idx (.var 5) (.cst (.int 0))) (.idx (.var 5) (.cst (.int 1)))) (.var 1))) .nil)) (.nil))
  (.cons (.ite (.cmp .eq (.var 4) (.cst (.str "minus"))) (
    (.cons (.ret (.op false .mod (.op false .sub (.idx (.var 5) (.cst (.int 0))) (.idx (.var 5) (.cst (.int 1)))) (.var 1))) .nil)) (.nil))
  (.cons (.ite (.cmp .eq (.var 4) (.cst (.str "less"))) (
    (.cons (.ret (.call 0 (.cons (.cmp .lt (.idx (.var 5) (.cst (.int 0))) (.idx (.var 5) (.cst (.int 1)))) .nil))) .nil)) (.nil))
  (.cons (.ite (.cmp .eq (.var 4) (.cst (.str "same"))) (
    (.cons (.ret (.call 0 (.cons (.cmp .eq (.idx (.var 5) (.cst (.int 0))) (.idx (.var 5) (.cst (.int 1)))) .nil))) .nil)) (.nil))
  (.cons (.ret (.call 0 (.cons (.cmp .eq (.idx (.var 5) (.cst (.int 0))) (.cst (.int 0))) .nil))) .nil))))))))))
def n_1 : List Str := ["value", "size", "owns", "boxes", "word", "numbers", "part"]
def p_1 : List Str := ["value", "size", "owns", "boxes"]
/-- _law_cell_at -/
def ir_2 : Ss := 
  (.cons (.ite (.cmp .lt (.var 1) (.bl1 .len false (.var 0))) (
    (.cons (.ret (.idx (.var 0) (.var 1))) .nil)) (.nil))
  (.cons (.ret (.cst (.int 0))) .nil))
def n_2 : List Str := ["_law_script", "_law_k"]
def p_2 : List Str := ["_law_script", "_law_k"]
/-- _law_state -/
def ir_3 : Ss := 
  (.cons (.set (.one 2) (.op false .mod (.op false .mul (.op false .add (.var 0) (.op false .mul (.cst (.int 7919)) (.var 1))) (.cst (.int 48271))) (.cst (.int 2147483647))))
  (.cons (.ret (.lst true (.cons (.op false .mod (.op false .mul (.var 2) (.var 2)) (.cst (.int 2147483647))) (.cons (.idx (.lst false (.cons (.cst (.int 0)) (.cons (.bl1 .abs false (.var 0)) .nil))) (.bl1 .int false (.cmp .ge (.bl1 .abs false (.var 0)) (.op false .pow (.cst (.int 10)) (.cst (.int 18)))))) .nil)))) .nil))
def n_3 : List Str := ["_law_cell", "_law_k", "_law_drawn"]
def p_3 : List Str := ["_law_cell", "_law_k"]
/-- _law_next -/
def ir_4 : Ss := 
  (.cons (.ite (.cmp .gt (.idx (.var 0) (.cst (.int 1))) (.cst (.int 0))) (
    (.cons (.set (.one 2) (.op false .mod (.idx (.var 0) (.cst (.int 1))) (.var 1)))
    (.cons (.put (.var 0) (.cst (.int 1)) (.op false .fdiv (.idx (.var 0) (.cst (.int 1))) (.var 1)))
    (.cons (.ret (.var 2)) .nil)))) (.nil))
  (.cons (.put (.var 0) (.cst (.int 0)) (.op false .mod (.op false .add (.op false .mul (.idx (.var 0) (.cst (.int 0))) (.cst (.int 48271))) (.cst (.int 11))) (.cst (.int 2147483647))))
  (.cons (.ret (.op false .mod (.op false .fdiv (.idx (.var 0) (.cst (.int 0))) (.cst (.int 7))) (.var 1))) .nil)))
def n_4 : List Str := ["_law_state_here", "_law_size", "_law_found"]
def p_4 : List Str := ["_law_state_here", "_law_size"]
/-- _law_names -/
def ir_5 : Ss := 
  (.cons (.set (.one 2) (.cst (.str "abcdefghijklmnopqrstuvwxyz")))
  (.cons (.set (.one 3) (.call 4 (.cons (.var 0) (.cons (.cst (.int 26)) .nil))))
  (.cons (.set (.one 4) (.lst true .nil))
  (.cons (.for_ (.one 5) (.rng1 (.var 1)) (
    (.cons (.set (.one 6) (.idx (.var 2) (.op false .mod (.op false .add (.var 3) (.var 5)) (.cst (.int 26)))))
    (.cons (.for_ (.one 7) (.rng1 (.idx (.lst false (.cons (.cst (.int 0)) (.cons (.cst (.int 0)) (.cons (.cst (.int 1)) (.cons (.cst (.int 7)) (.cons (.call 4 (.cons (.var 0) (.cons (.cst (.int 8)) .nil))) .nil)))))) (.call 4 (.cons (.var 0) (.cons (.cst (.int 5)) .nil))))) (
      (.cons (.set (.one 6) (.op false .add (.idx (.var 2) (.call 4 (.cons (.var 0) (.cons (.cst (.int 26)) .nil)))) (.var 6))) .nil)))
    (.cons (.ite (.cmp .eq (.call 4 (.cons (.var 0) (.cons (.cst (.int 6)) .nil))) (.cst (.int 0))) (
      (.cons (.set (.one 8) (.lst false (.cons (.cst (.str "box")) (.cons (.cst (.str "own")) (.cons (.cst (.str "end")) (.cons (.cst (.str "number")) (.cons (.cst (.str "plus")) (.cons (.cst (.str "lock")) (.cons (.cst (.str "skip")) (.cons (.cst (.str "again")) (.cons (.cst (.str "program")) (.cons (.cst (.str "worker")) (.cons (.cst (.str "claim")) .nil)))))))))))))
      (.cons (.set (.one 8) (.op false .add (.var 8) (.lst false (.cons (.cst (.str "size")) (.cons (.cst (.str "set")) (.cons (.cst (.str "get")) (.cons (.cst (.str "put")) (.cons (.cst (.str "add")) (.cons (.cst (.str "take")) (.cons (.cst (.str "give")) (.cons (.cst (.str "wait")) (.cons (.cst (.str "check")) (.cons (.cst (.str "unless")) (.cons (.cst (.str "not")) .nil))))))))))))))
      (.cons (.set (.one 6) (.idx (.op false .add (.var 8) (.lst false (.cons (.cst (.str "minus")) (.cons (.cst (.str "less")) (.cons (.cst (.str "same")) .nil))))) (.call 4 (.cons (.var 0) (.cons (.cst (.int 25)) .nil))))) .nil)))) (.nil))
    (.cons (.ite (.cmp .in_ (.var 6) (.var 4)) (
      (.cons (.set (.one 6) (.idx (.var 2) (.op false .mod (.op false .add (.var 3) (.var 5)) (.cst (.int 26))))) .nil)) (.nil))
    (.cons (.app (.var 4) (.var 6)) .nil)))))))
  (.cons (.ret (.var 4)) .nil)))))
def n_5 : List Str := ["_law_state_here", "_law_amount", "_law_letters", "_law_shift", "_law_found", "_law_k", "_law_name", "_law_turn", "_law_words"]
def p_5 : List Str := ["_law_state_here", "_law_amount"]
/-- _law_value -/
def ir_6 : Ss := 
  (.cons (.set (.one 4) (.call 4 (.cons (.var 0) (.cons (.cst (.int 8)) .nil))))
  (.cons (.set (.one 5) (.op false .add (.lc false (.tup false (.cons (.cst (.str "own")) (.cons (.var 7) .nil))) [7] (.one 7) (.seq (.var 2))) (.lc false (.tup false (.cons (.cst (.str "box")) (.cons (.var 8) .nil))) [8] (.one 8) (.seq (.var 3)))))
  (.cons (.ite (.or (.cmp .lt (.var 1) (.cst (.int 2))) (.cmp .lt (.var 4) (.cst (.int 3)))) (
    (.cons (.ite (.and (.cmp .gt (.bl1 .len false (.var 5)) (.cst (.int 0))) (.cmp .gt (.call 4 (.cons (.var 0) (.cons (.cst (.int 3)) .nil))) (.cst (.int 0)))) (
      (.cons (.ret (.idx (.var 5) (.call 4 (.cons (.var 0) (.cons (.bl1 .len false (.var 5)) .nil))))) .nil)) (.nil))
    (.cons (.ret (.tup false (.cons (.cst (.str "number")) (.cons (.idx (.lst false (.cons (.call 4 (.cons (.var 0) (.cons (.cst (.int 4)) .nil))) (.cons (.call 4 (.cons (.var 0) (.cons (.cst (.int 100)) .nil))) .nil))) (.op false .fdiv (.call 4 (.cons (.var 0) (.cons (.cst (.int 6)) .nil))) (.cst (.int 5)))) .nil)))) .nil))) (.nil))
  (.cons (.set (.one 6) (.call 6 (.cons (.var 0) (.cons (.op false .sub (.var 1) (.cst (.int 1))) (.cons (.var 2) (.cons (.var 3) .nil))))))
  (.cons (.ite (.cmp .eq (.var 4) (.cst (.int 3))) (
    (.cons (.ret (.tup false (.cons (.cst (.str "not")) (.cons (.var 6) .nil)))) .nil)) (.nil))
  (.cons (.ret (.tup false (.cons (.idx (.lst false (.cons (.cst (.str "plus")) (.cons (.cst (.str "minus")) (.cons (.cst (.str "less")) (.cons (.cst (.str "same")) .nil))))) (.op false .sub (.var 4) (.cst (.int 4)))) (.cons (.var 6) (.cons (.call 6 (.cons (.var 0) (.cons (.op false .sub (.var 1) (.cst (.int 1))) (.cons (.var 2) (.cons (.var 3) .nil))))) .nil))))) .nil))))))
def n_6 : List Str := ["_law_state_here", "_law_deep", "_law_owns", "_law_boxes", "_law_kind", "_law_names_here", "_law_one", "_law_own", "_law_box"]
def p_6 : List Str := ["_law_state_here", "_law_deep", "_law_owns", "_law_boxes"]
/-- _law_comes_to -/
def ir_7 : Ss := 
  (.cons (.set (.one 4) (.idx (.var 0) (.cst (.int 0))))
  (.cons (.ite (.cmp .eq (.var 4) (.cst (.str "number"))) (
    (.cons (.ret (.op false .mod (.idx (.var 0) (.cst (.int 1))) (.var 1))) .nil)) (.nil))
  (.cons (.ite (.cmp .eq (.var 4) (.cst (.str "own"))) (
    (.cons (.ret (.idx (.var 2) (.idx (.var 0) (.cst (.int 1))))) .nil)) (.nil))
  (.cons (.ite (.cmp .eq (.var 4) (.cst (.str "box"))) (
    (.cons (.ret (.idx (.var 3) (.idx (.var 0) (.cst (.int 1))))) .nil)) (.nil))
  (.cons (.set (.one 5) (.call 7 (.cons (.idx (.var 0) (.cst (.int 1))) (.cons (.var 1) (.cons (.var 2) (.cons (.var 3) .nil))))))
  (.cons (.ite (.cmp .eq (.var 4) (.cst (.str "not"))) (
    (.cons (.ret (.bl1 .int false (.cmp .eq (.var 5) (.cst (.int 0))))) .nil)) (.nil))
  (.cons (.set (.one 6) (.call 7 (.cons (.idx (.var 0) (.cst (.int 2))) (.cons (.var 1) (.cons (.var 2) (.cons (.var 3) .nil))))))
  (.cons (.ite (.cmp .in_ (.var 4) (.lst false (.cons (.cst (.str "plus")) (.cons (.cst (.str "minus")) .nil)))) (
    (.cons (.ret (.op false .mod (.op false .add (.var 5) (.idx (.lst false (.cons (.var 6) (.cons (.neg (.var 6)) .nil))) (.bl1 .int false (.cmp .eq (.var 4) (.cst (.str "minus")))))) (.var 1))) .nil)) (.nil))
  (.cons (.ret (.bl1 .int false (.idx (.lst false (.cons (.cmp .lt (.var 5) (.var 6)) (.cons (.cmp .eq (.var 5) (.var 6)) .nil))) (.bl1 .int false (.cmp .eq (.var 4) (.cst (.str "same"))))))) .nil)))))))))
def n_7 : List Str := ["_law_value_here", "_law_size", "_law_owns", "_law_boxes", "_law_word", "_law_one", "_law_other"]
def p_7 : List Str := ["_law_value_here", "_law_size", "_law_owns", "_law_boxes"]
/-- _law_numbers -/
def ir_8 : Ss := 
  (.cons (.ret (.bl1 .dict false (.lc false (.tup false (.cons (.var 3) (.cons (.call 4 (.cons (.var 0) (.cons (.var 2) .nil))) .nil))) [3] (.one 3) (.seq (.var 1))))) .nil)
def n_8 : List Str := ["_law_state_here", "_law_names_here", "_law_size", "_law_name"]
def p_8 : List Str := ["_law_state_here", "_law_names_here", "_law_size"]
/-- law -/
def ir_9 : Ss := 
  (.cons (.set (.one 1) (.call 3 (.cons (.call 2 (.cons (.var 0) (.cons (.cst (.int 0)) .nil))) (.cons (.cst (.int 1)) .nil))))
  (.cons (.set (.one 2) (.op false .add (.cst (.int 2)) (.call 4 (.cons (.var 1) (.cons (.cst (.int 15)) .nil)))))
  (.cons (.set (.one 3) (.call 5 (.cons (.var 1) (.cons (.cst (.int 8)) .nil))))
  (.cons (.set (.one 4) (.call 8 (.cons (.var 1) (.cons (.slU false (.var 3) (.call 4 (.cons (.var 1) (.cons (.cst (.int 5)) .nil)))) (.cons (.var 2) .nil)))))
  (.cons (.set (.one 5) (.idx (.lst false (.cons (.cst (.int 4)) (.cons (.cst (.int 0)) (.cons (.cst (.int 2)) .nil)))) (.call 4 (.cons (.var 1) (.cons (.cst (.int 3)) .nil)))))
  (.cons (.set (.one 6) (.call 8 (.cons (.var 1) (.cons (.slU false (.slL false (.var 3) (.var 5)) (.call 4 (.cons (.var 1) (.cons (.cst (.int 5)) .nil)))) (.cons (.var 2) .nil)))))
  (.cons (.set (.one 1) (.call 3 (.cons (.call 2 (.cons (.var 0) (.cons (.cst (.int 1)) .nil))) (.cons (.cst (.int 2)) .nil))))
  (.cons (.set (.one 7) (.call 6 (.cons (.var 1) (.cons (.op false .add (.cst (.int 1)) (.call 4 (.cons (.var 1) (.cons (.cst (.int 5)) .nil)))) (.cons (.bl1 .list false (.var 4)) (.cons (.bl1 .list false (.var 6)) .nil))))))
  (.cons (.set (.one 8) (.lst false (.cons (.bl1 .dict false (.var 4)) (.cons (.bl1 .dict false (.var 6)) .nil))))
  (.cons (.set (.one 9) (.lcI false (.var 13) [13] (.one 13) (.seq (.slL false (.var 7) (.cst (.int 1)))) (.isi (.var 13) false [.tup])))
  (.cons (.for_ (.one 10) (.seq (.op false .add (.op false .add (.lst false (.cons (.var 7) .nil)) (.var 9)) (.lst false (.cons (.var 7) .nil)))) (
    (.cons (.set (.one 11) (.call 1 (.cons (.var 10) (.cons (.var 2) (.cons (.var 4) (.cons (.var 6) .nil))))))
    (.cons (.set (.one 12) (.call 7 (.cons (.var 10) (.cons (.var 2) (.cons (.idx (.var 8) (.cst (.int 0))) (.cons (.idx (.var 8) (.cst (.int 1))) .nil))))))
    (.cons (.ite (.or (.not (.isi (.var 11) false [.int])) (.or (.isi (.var 11) false [.bool]) (.cmp .ne (.var 11) (.var 12)))) (
      (.cons (.ret (.cst (.bl false))) .nil)) (.nil)) .nil)))))
  (.cons (.ret (.cmp .eq (.lst false (.cons (.var 4) (.cons (.var 6) .nil))) (.var 8))) .nil))))))))))))
def n_9 : List Str := ["_law_script", "_law_state_here", "_law_size", "_law_names_here", "_law_owns", "_law_shift", "_law_boxes", "_law_value_here", "_law_handed", "_law_parts", "_law_one", "_law_found", "_law_due", "_law_part"]
def p_9 : List Str := ["_law_script"]
def tab : List Fn := [⟨"told_truth", 1, 1, .frz, ir_0⟩, ⟨"worth", 4, 7, .frz, ir_1⟩, ⟨"_law_cell_at", 2, 2, .frz, ir_2⟩, ⟨"_law_state", 2, 3, .esc, ir_3⟩, ⟨"_law_next", 2, 3, .frz, ir_4⟩, ⟨"_law_names", 2, 9, .frz, ir_5⟩, ⟨"_law_value", 4, 9, .frz, ir_6⟩, ⟨"_law_comes_to", 4, 7, .frz, ir_7⟩, ⟨"_law_numbers", 3, 4, .frz, ir_8⟩, ⟨"law", 1, 14, .frz, ir_9⟩]
def bl : List Str := ["abs", "bool", "dict", "int", "isinstance", "len", "list", "range", "tuple"]
end Lo.k02
set_option maxHeartbeats 200000
set_option maxHeartbeats 1000000
namespace Lo.k02
open PySem L2
theorem cell_ok (k : Nat) (h : Hh) (ns : List Int) (j : Int) (hj : 0 ≤ j) : ∃ v, callF tab (k + 1) 2 [.val (.scr ns), .val (.int j)] h = .ok (.val (.int v)) h := by
  suffices z : Ok (callF tab (k + 1) 2 [.val (.scr ns), .val (.int j)]) h fun a h' => ∃ v, a = .val (.int v) ∧ h' = h by
    obtain ⟨_, _, e, v, rfl, rfl⟩ := z
    exact ⟨v, e⟩
  rw [ok_call (f := ⟨"_law_cell_at", 2, 2, .frz, ir_2⟩) rfl rfl]
  simp [ir_2]
  intro hlt
  obtain ⟨v, _, e⟩ := atP_ok hj hlt
  exact ⟨.int v, ⟨v, e, rfl⟩, v, rfl⟩
theorem state_ok (k : Nat) (h : Hh) (c j : Int) : ∃ a b, callF tab (k + 1) 3 [.val (.int c), .val (.int j)] h = .ok (.ref h.length) (h ++ [St a b]) := by
  suffices z : Ok (callF tab (k + 1) 3 [.val (.int c), .val (.int j)]) h fun a h' => ∃ v w, a = .ref h.length ∧ h' = h ++ [St v w] by
    obtain ⟨_, _, e, v, w, rfl, rfl⟩ := z
    exact ⟨v, w, e⟩
  rw [ok_call (f := ⟨"_law_state", 2, 3, .esc, ir_3⟩) rfl rfl]
  simp [ir_3]
  refine ⟨by omega, ?_⟩
  have z : ∀ (P : Prop) [Decidable P] (w : Int), ∃ v, atP [D.int 0, D.int w] (if P then 1 else 0) = some (.int v) := by
    intro P _ w
    split
    · exact ⟨w, at_1⟩
    · exact ⟨0, at_0⟩
  obtain ⟨v, e⟩ := z (1000000000000000000 ≤ if c < 0 then -c else c) (if c < 0 then -c else c)
  refine ⟨_, e, ?_⟩
  rw [ok_finE (as := [A.val (.int ((c + 7919 * j) * 48271 % 2147483647 * ((c + 7919 * j) * 48271 % 2147483647) % 2147483647)), A.val (.int v)]) (by simp) (Nat.le_refl _) rfl]
  refine ⟨rfl, (c + 7919 * j) * 48271 % 2147483647 * ((c + 7919 * j) * 48271 % 2147483647) % 2147483647, v, ?_⟩
  rw [List.take_left]
  rfl
theorem next_t : tab[4]? = some (nextFn "_law_next") := rfl
def letters : Str := "abcdefghijklmnopqrstuvwxyz"
theorem letters_len : letters.length ≤ sizeLine ∧ letters.cps.toList.length = 26 := by decide +kernel
/-- a letter -/
theorem letter {i : Int} (h0 : 0 ≤ i) (h1 : i < 26) : ∃ c, idxD (.str letters) (.int i) = some (.str ⟨#[c]⟩) := idx_str letters_len.1 h0 (by rw [letters_len.2]; exact h1)
theorem str_len_app (x y : Str) : (x ++ y).length = x.length + y.length := Str.length_append x y
def names_env (n : Nat) (m sh : Int) (L : Nat) (x5 : Option A) (nm : Str) (x7 x8 : Option A) : En := [some (.ref n), some (.val (.int m)), some (.val (.str letters)), some (.val (.int sh)), some (.ref L), x5, some (.val (.str nm)), x7, x8]
theorem names_ok (k n : Nat) (h : Hh) (a b m : Int) (hl : n < h.length) (hm : 0 ≤ m) (hm2 : m < 1000) : ∃ (ss : List Str) (a' b' : Int), ss.length = m.toNat ∧ callF tab (k + 2) 5 [.ref n, .val (.int m)] (HS h n a b []) = .ok (.val (.lst (ss.map D.str))) (HS h n a' b' []) := by
  suffices z : Ok (callF tab (k + 2) 5 [.ref n, .val (.int m)]) (HS h n a b []) fun v h' => ∃ (ss : List Str) (a' b' : Int), ss.length = m.toNat ∧ v = .val (.lst (ss.map D.str)) ∧ h' = HS h n a' b' [] by
    obtain ⟨_, _, e, ss, a', b', hs, rfl, rfl⟩ := z
    exact ⟨ss, a', b', hs, e⟩
  rw [ok_call (f := ⟨"_law_names", 2, 9, .frz, ir_5⟩) rfl rfl]
  simp [ir_5]
  refine ok_nextH next_t hl (by omega) (by omega) fun sh a b h0 h1 => ?_
  simp
  refine ok_forX ?_
  simp
  have hl0 := line_big
  refine ⟨by simp [small62]; omega, fun done env hb => ∃ (ss : List Str) (as : List A) (a b : Int) (x5 x6 x7 x8 : Option A), ss.length = done.length ∧ as = (ss.map D.str).map A.val ∧ hb = HS h n a b [.lst as] ∧
    env = [some (.ref n), some (.val (.int m)), some (.val (.str letters)), some (.val (.int sh)), some (.ref h.length), x5, x6, x7, x8], ⟨[], [], a, b, none, none, none, none, rfl, rfl, rfl, rfl⟩, ?_, ?_⟩
  · rintro done v rest _ _ e ⟨ss, as, a, b, x5, x6, x7, x8, hss, has, rfl, rfl⟩
    obtain ⟨rfl, hd⟩ := rng_split e
    refine ⟨_, rfl, ?_⟩
    have hc : ∀ a b, (HS h n a b [C.lst as])[h.length]? = some (C.lst ((ss.map D.str).map A.val)) := fun a b => by rw [← has]; exact hs_at (j := 0)
    have hc2 : ∀ a b, (HS h n a b [C.lst as])[h.length]? = some (C.lst as) := fun a b => hs_at (j := 0)
    have hp : ∀ a b c, (HS h n a b [C.lst as]).set h.length c = HS h n a b [c] := fun a b c => hs_put (j := 0)
    have hal : as.length < sizeLine := by rw [has]; simp; omega
    have g1 := fun a b Q => ok_snL (hc a b) (Q := Q)
    have g2 := fun a b Q => ok_kindR (hc2 a b) (Q := Q)
    have g3 := fun a b y Q => ok_push (hc2 a b) (y := y) (Q := Q)
    simp
    obtain ⟨c0, e0⟩ := letter (i := (sh + done.length) % 26) (Int.emod_nonneg _ (by omega)) (Int.emod_lt_of_pos _ (by omega))
    rw [e0]
    simp
    refine ok_forX ?_
    simp
    refine ok_nextH next_t hl (by omega) (by omega) fun r8 a b h80 h81 => ?_
    simp
    refine ok_nextH next_t hl (by omega) (by omega) fun r5 a b h50 h51 => ?_
    simp
    obtain ⟨t, ht, e1⟩ := idx_lst (ds := [.int 0, .int 0, .int 1, .int 7, .int r8]) h50 (by simpa using h51)
    have e1' : atP [D.int 0, .int 0, .int 1, .int 7, .int r8] r5 = some t := e1
    obtain ⟨tn, rfl, ht0, ht1⟩ : ∃ tn : Int, t = .int tn ∧ 0 ≤ tn ∧ tn ≤ 7 := by
      simp at ht
      rcases ht with rfl | rfl | rfl | rfl <;> exact ⟨_, rfl, by omega, by omega⟩
    rw [e1']
    simp
    refine ⟨by simp [small62]; omega, fun dn env hb => ∃ (nm : Str) (a b : Int) (x7 : Option A), nm.length ≤ 1 + dn.length ∧ hb = HS h n a b [.lst as] ∧
      env = [some (.ref n), some (.val (.int m)), some (.val (.str letters)), some (.val (.int sh)), some (.ref h.length), some (.val (.int done.length)), some (.val (.str nm)), x7, x8], ⟨⟨#[c0]⟩, a, b, x7, Nat.le_refl _, rfl, rfl⟩, ?_, ?_⟩
    · rintro dn v rest _ _ e ⟨nm, a, b, x7, hnm, rfl, rfl⟩
      obtain ⟨rfl, hd⟩ := rng_split e
      refine ⟨_, rfl, ?_⟩
      simp
      refine ok_nextH next_t hl (by omega) (by omega) fun r a b h0 h1 => ?_
      simp
      obtain ⟨c1, e2⟩ := letter h0 h1
      rw [e2]
      have hx : (⟨#[c1]⟩ : Str).length = 1 := rfl
      simp [hx]
      exact ⟨by omega, by rw [str_len_app, hx]; omega, _, _, rfl⟩
    · rintro _ _ ⟨nm, a, b, x7, hnm, rfl, rfl⟩
      simp
      refine ok_nextH next_t hl (by omega) (by omega) fun r6 a b _ _ => ?_
      simp only [ok_snV, eqD_int, ok_some]
      have fin : ∀ (nm : Str) (a b : Int), ∃ ss' : List Str, ss'.length = done.length + 1 ∧ ∃ x y, HS h n a b [C.lst (as ++ [A.val (.str nm)])] = HS h n x y [C.lst (ss'.map (A.val ∘ D.str))] := fun nm a b => ⟨ss ++ [nm], by simp [hss], a, b, by rw [has]; simp⟩
      simp only [g1, g2, in_strs, ok_some, e0, ok_appR, may_val, g3, hp, hal, true_and]
      constructor
      · intro _
        refine ⟨by omega, by omega, ?_⟩
        refine ok_nextH next_t hl (by omega) (by omega) fun rw a b hw0 hw1 => ?_
        simp only [ok_sfV]
        obtain ⟨d, hd, e3⟩ := idx_lst (i := rw) (ds := [D.str (Str.ofString "box"), D.str (Str.ofString "own"), D.str (Str.ofString "end"),
                          D.str (Str.ofString "number"), D.str (Str.ofString "plus"), D.str (Str.ofString "lock"),
                          D.str (Str.ofString "skip"), D.str (Str.ofString "again"), D.str (Str.ofString "program"),
                          D.str (Str.ofString "worker"), D.str (Str.ofString "claim"), D.str (Str.ofString "size"),
                          D.str (Str.ofString "set"), D.str (Str.ofString "get"), D.str (Str.ofString "put"),
                          D.str (Str.ofString "add"), D.str (Str.ofString "take"), D.str (Str.ofString "give"),
                          D.str (Str.ofString "wait"), D.str (Str.ofString "check"), D.str (Str.ofString "unless"),
                          D.str (Str.ofString "not"), D.str (Str.ofString "minus"), D.str (Str.ofString "less"),
                          D.str (Str.ofString "same")]) hw0 (by simpa using hw1)
        obtain ⟨nm, rfl⟩ := str_of rfl hd
        rw [e3]
        refine ⟨_, rfl, ?_⟩
        simp only [g1, g2, in_strs, ok_some, e0, ok_appR, may_val, g3, hp, hal, true_and]
        exact ⟨fun _ => ⟨_, rfl, fin _ a b⟩, fun _ => fin nm a b⟩
      · intro _
        exact ⟨fun _ => ⟨_, rfl, fin _ a b⟩, fun _ => fin nm a b⟩
  · rintro _ _ ⟨ss, as, a, b, x5, x6, x7, x8, hss, has, rfl, rfl⟩
    simp
    have hc : (HS h n a b [C.lst as])[h.length]? = some (C.lst ((ss.map D.str).map A.val)) := by rw [← has]; exact hs_at (j := 0)
    rw [ok_finL hc]
    have hp := hs_put (h := h) (n := n) (a := a) (b := b) (l := [C.lst as]) (j := 0) (c := C.dead)
    rw [show h.length = h.length + 0 from rfl, hp]
    exact ⟨ss, by rw [hss, rng_len], rfl, a, b, by simp⟩
end Lo.k02
namespace Lo.k02
open PySem L2
def ws : List Str := ["plus", "minus", "less", "same"]
/-- a value as the law draws it, at most m deep -/
inductive VT (os bs : List Str) : Nat → D → Prop
  | num {m : Nat} (i : Int) : VT os bs m (.tup [.str "number", .int i])
  | own {m : Nat} {s : Str} (h : s ∈ os) : VT os bs m (.tup [.str "own", .str s])
  | box {m : Nat} {s : Str} (h : s ∈ bs) : VT os bs m (.tup [.str "box", .str s])
  | not {m : Nat} {v : D} (h : VT os bs m v) : VT os bs (m + 1) (.tup [.str "not", v])
  | bin {m : Nat} {w : Str} {v u : D} (hw : w ∈ ws) (h1 : VT os bs m v) (h2 : VT os bs m u) : VT os bs (m + 1) (.tup [.str w, v, u])
theorem VT.of_at {os bs : List Str} {m : Nat} {d : D} (h : d ∈ (os.map D.str).map (fun d => D.tup [.str "own", d]) ++ (bs.map D.str).map (fun d => D.tup [.str "box", d])) : VT os bs m d := by
  rcases List.mem_append.mp h with h | h
  · simp at h
    obtain ⟨s, hs, rfl⟩ := h
    exact .own hs
  · simp at h
    obtain ⟨s, hs, rfl⟩ := h
    exact .box hs
theorem value_step (n : Nat) (h : Hh) (os bs : List Str) (hl : n < h.length) (ho : os.length < 500) (hb : bs.length < 500) (m k : Nat) (deep a b : Int)
    (prev : 2 ≤ deep → ∃ m', m = m' + 1 ∧ ∀ a b, ∃ (v : D) (a' b' : Int), VT os bs m' v ∧ callF tab (k + 1) 6 [.ref n, .val (.int (deep - 1)), .val (.lst (os.map D.str)), .val (.lst (bs.map D.str))] (HS h n a b []) = .ok (.val v) (HS h n a' b' [])) :
    ∃ (v : D) (a' b' : Int), VT os bs m v ∧ callF tab (k + 2) 6 [.ref n, .val (.int deep), .val (.lst (os.map D.str)), .val (.lst (bs.map D.str))] (HS h n a b []) = .ok (.val v) (HS h n a' b' []) := by
  suffices z : Ok (callF tab (k + 2) 6 [.ref n, .val (.int deep), .val (.lst (os.map D.str)), .val (.lst (bs.map D.str))]) (HS h n a b []) fun y h' => ∃ (v : D) (a' b' : Int), VT os bs m v ∧ y = .val v ∧ h' = HS h n a' b' [] by
    obtain ⟨_, _, e, v, a', b', hv, rfl, rfl⟩ := z
    exact ⟨v, a', b', hv, e⟩
  rw [ok_call (f := ⟨"_law_value", 4, 9, .frz, ir_6⟩) rfl rfl]
  simp [ir_6]
  refine ok_nextH next_t hl (by omega) (by omega) fun kind a b hk0 hk1 => ?_
  simp
  have lb := line_big
  obtain ⟨l1, h1⟩ : ∃ l1, l1 = (os.map D.str).map (fun d => D.tup [.str "own", d]) := ⟨_, rfl⟩
  obtain ⟨l2, h2⟩ : ∃ l2, l2 = (bs.map D.str).map (fun d => D.tup [.str "box", d]) := ⟨_, rfl⟩
  obtain ⟨nh, hnh⟩ : ∃ nh, nh = l1 ++ l2 := ⟨_, rfl⟩
  have hs1 : l1.length = os.length := by rw [h1]; simp
  have hs2 : l2.length = bs.length := by rw [h2]; simp
  have hnl : nh.length < 1000 := by rw [hnh, List.length_append]; omega
  have szok : l1.length + l2.length ≤ sizeLine := by omega
  have pick : ∀ r : Int, 0 ≤ r → r < nh.length → ∃ d, atP nh r = some d ∧ VT os bs m d := by
    intro r h0 h3
    obtain ⟨d, hd, e⟩ := atP_ok h0 h3
    exact ⟨d, e, .of_at (by rw [← h1, ← h2, ← hnh]; exact hd)⟩
  have num : ∀ (p q r : Int), 0 ≤ r → r < 6 → ∃ i, atP [D.int p, D.int q] (r / 5) = some (.int i) := by
    intro p q r h0 h1
    rcases (show r / 5 = 0 ∨ r / 5 = 1 by omega) with e | e <;> rw [e] <;> simp
  refine ok_lcMap (ds := os.map D.str) (fun d => .tup [.str "own", d]) ?_
  simp only [ok_seq, ok_var]
  refine ⟨_, rfl, ?_⟩
  simp only [ok_itL]
  refine ⟨trivial, by rw [List.length_map]; omega, fun d hd => by simp, ?_⟩
  rw [← h1]
  refine ok_lcMap (ds := bs.map D.str) (fun d => .tup [.str "box", d]) ?_
  simp only [ok_seq, ok_var]
  refine ⟨_, rfl, ?_⟩
  simp only [ok_itL]
  refine ⟨trivial, by rw [List.length_map]; omega, fun d hd => by simp, ?_⟩
  rw [← h2]
  have word : 3 ≤ kind → ¬kind = 3 → ∃ w, atP [D.str "plus", D.str "minus", D.str "less", D.str "same"] (kind - 4) = some (.str w) ∧ w ∈ ws := by
    intro h0 h1
    rcases (show kind - 4 = 0 ∨ kind - 4 = 1 ∨ kind - 4 = 2 ∨ kind - 4 = 3 by omega) with e | e | e | e <;> rw [e] <;> simp [ws]
  by_cases hb : 2 ≤ deep ∧ 3 ≤ kind
  · obtain ⟨hd, hk⟩ := hb
    have hd' : ¬deep < 2 := by omega
    have hk' : ¬kind < 3 := by omega
    obtain ⟨m', rfl, pv⟩ := prev hd
    simp [hd, hk, hd', hk', szok, ← hnh]
    obtain ⟨v, a, b, hv, e⟩ := pv a b
    rw [ok_of e]
    simp
    constructor
    · intro h3
      exact ⟨_, .not hv, rfl, a, b, rfl⟩
    · intro h3
      obtain ⟨w, ew, hw⟩ := word hk h3
      refine ⟨_, ew, ?_⟩
      obtain ⟨u, a, b, hu, e⟩ := pv a b
      rw [ok_of e]
      simp
      exact ⟨_, .bin hw hv hu, rfl, a, b, rfl⟩
  · have hb' : deep < 2 ∨ kind < 3 := by omega
    have h2d : deep < 2 ∨ (¬ deep < 2 ∧ 2 ≤ deep ∧ kind < 3 ∧ ¬ 3 ≤ kind) := by omega
    have fin : ∀ (a b : Int), Ok (callF tab (k + 1) 4 [A.ref n, A.val (.int 4)]) (HS h n a b []) fun a h1 => Ok (callF tab (k + 1) 4 [A.ref n, A.val (D.int 100)]) h1 fun a_2 h1 =>
                      Ok (frzL [a, a_2]) h1 fun ds h2 =>
                        Ok (callF tab (k + 1) 4 [A.ref n, A.val (D.int 6)]) h2 fun a h1 =>
                          Ok (sf a) h1 fun d h3 =>
                            Ok (M.lift (opD Op.fdiv d (D.int 5))) h3 fun e h3 =>
                              ∃ y,
                                idxD (D.lst ds) e = some y ∧
                                  ∃ v,
                                    VT os bs m v ∧
                                      D.tup [D.str (Str.ofString "number"), y] = v ∧
                                        ∃ x x_1, List.take (List.length h) h3 = HS h n x x_1 [] := by
      intro a b
      refine ok_nextH next_t hl (by omega) (by omega) fun r4 a b _ _ => ?_
      refine ok_nextH next_t hl (by omega) (by omega) fun r100 a b _ _ => ?_
      simp
      refine ok_nextH next_t hl (by omega) (by omega) fun r6 a b h60 h61 => ?_
      simp
      obtain ⟨i, e⟩ := num r4 r100 r6 h60 h61
      exact ⟨_, e, _, .num i, rfl, a, b, rfl⟩
    have many : ∀ (a b : Int), 0 < nh.length → Ok (callF tab (k + 1) 4 [A.ref n, A.val (D.int ↑nh.length)]) (HS h n a b []) fun c h2 =>
                    Ok (sf c) h2 fun e h3 =>
                      ∃ y,
                        idxD (D.lst nh) e = some y ∧
                          ∃ v, VT os bs m v ∧ y = v ∧ ∃ x x_1, List.take (List.length h) h3 = HS h n x x_1 [] := by
      intro a b hp
      refine ok_nextH next_t hl (by omega) (by omega) fun r a b h0 h1 => ?_
      simp
      obtain ⟨d, e, hv⟩ := pick r h0 h1
      exact ⟨d, e, d, hv, rfl, a, b, rfl⟩
    rcases h2d with hc | ⟨hc1, hc2, hc3, hc4⟩
    · have hc' : ¬ 2 ≤ deep := by omega
      by_cases hz : nh = []
      · simp [hc, hc', szok, ← hnh, hz]
        exact fin a b
      · have hp : 0 < nh.length := List.length_pos_iff.mpr hz
        simp [hc, hc', szok, ← hnh, hz, hp]
        refine ok_nextH next_t hl (by omega) (by omega) fun r a b h0 h1 => ?_
        simp
        exact ⟨fun _ => many a b hp, fun _ => fin a b⟩
    · by_cases hz : nh = []
      · simp [hc1, hc2, hc3, hc4, szok, ← hnh, hz]
        exact fin a b
      · have hp : 0 < nh.length := List.length_pos_iff.mpr hz
        simp [hc1, hc2, hc3, hc4, szok, ← hnh, hz, hp]
        refine ok_nextH next_t hl (by omega) (by omega) fun r a b h0 h1 => ?_
        simp
        exact ⟨fun _ => many a b hp, fun _ => fin a b⟩
theorem value_ok (n : Nat) (h : Hh) (os bs : List Str) (hl : n < h.length) (ho : os.length < 500) (hb : bs.length < 500) : ∀ (m k : Nat) (deep a b : Int), deep ≤ m + 1 →
    ∃ (v : D) (a' b' : Int), VT os bs m v ∧ callF tab (k + m + 2) 6 [.ref n, .val (.int deep), .val (.lst (os.map D.str)), .val (.lst (bs.map D.str))] (HS h n a b []) = .ok (.val v) (HS h n a' b' [])
  | 0, k, deep, a, b, hd => value_step n h os bs hl ho hb 0 k deep a b fun z => by omega
  | m + 1, k, deep, a, b, hd => by
    have := value_step n h os bs hl ho hb (m + 1) (k + m + 1) deep a b fun z => ⟨m, rfl, fun a b => value_ok n h os bs hl ho hb m k (deep - 1) a b (by omega)⟩
    exact this
end Lo.k02
namespace Lo.k02
open PySem L2
/-- a dict of numbers by name -/
def DI (ks : List Key) (ds : List D) (os : List Str) : Prop := ks = os.map Sum.inr ∧ os.Nodup ∧ ds.length = os.length ∧ ∀ d ∈ ds, ∃ i : Int, d = .int i
def PI' (ps : List (Key × D)) : Prop := (ps.map (·.1)).Nodup ∧ ∀ p ∈ ps, ∃ (s : Str) (i : Int), p = (.inr s, .int i)
theorem put_pi {ps : List (Key × D)} (h : PI' ps) (s : Str) (i : Int) : PI' (putP ps (.inr s) (.int i)) := by
  obtain ⟨h1, h2⟩ := h
  unfold putP
  by_cases hb : (ps.any fun p => decide (p.1 = .inr s)) = true
  · rw [if_pos hb]
    refine ⟨?_, fun p hp => ?_⟩
    · have e : (ps.map fun p => if p.1 = .inr s then (p.1, D.int i) else p).map (·.1) = ps.map (·.1) := by
        rw [List.map_map]
        refine List.map_congr_left fun p _ => ?_
        show (if p.1 = .inr s then (p.1, D.int i) else p).1 = p.1
        split <;> rfl
      rw [e]
      exact h1
    · obtain ⟨q, hq, rfl⟩ := List.mem_map.mp hp
      obtain ⟨s', i', rfl⟩ := h2 q hq
      split
      · exact ⟨s', i, rfl⟩
      · exact ⟨s', i', rfl⟩
  · rw [if_neg hb]
    refine ⟨?_, fun p hp => ?_⟩
    · rw [List.map_append, List.nodup_append]
      refine ⟨h1, by simp, fun x hx y hy => ?_⟩
      simp at hy
      subst hy
      intro z
      subst z
      obtain ⟨q, hq, e⟩ := List.mem_map.mp hx
      exact hb (List.any_eq_true.mpr ⟨q, hq, by simp [e]⟩)
    · rcases List.mem_append.mp hp with hp | hp
      · exact h2 p hp
      · simp at hp
        exact ⟨s, i, hp⟩
theorem fold_pi : ∀ (l : List (Str × Int)) (ps : List (Key × D)), PI' ps → PI' ((l.map fun q => ((Sum.inr q.1 : Key), D.int q.2)).foldl (fun acc p => putP acc p.1 p.2) ps)
  | [], ps, h => h
  | q :: l, ps, h => by
    rw [List.map_cons, List.foldl_cons]
    exact fold_pi l _ (put_pi h q.1 q.2)
theorem put_len {ps : List (Key × D)} {k : Key} {v : D} : (putP ps k v).length ≤ ps.length + 1 := by
  unfold putP
  split <;> simp
theorem fold_len : ∀ (l : List (Key × D)) (ps : List (Key × D)), (l.foldl (fun acc p => putP acc p.1 p.2) ps).length ≤ ps.length + l.length
  | [], ps => by simp
  | q :: l, ps => by
    rw [List.foldl_cons, List.length_cons]
    have h1 := fold_len l (putP ps q.1 q.2)
    have h2 := put_len (ps := ps) (k := q.1) (v := q.2)
    omega
theorem pi_di {ps : List (Key × D)} (h : PI' ps) : ∃ os : List Str, os.length = ps.length ∧ DI (ps.map (·.1)) (ps.map (·.2)) os := by
  obtain ⟨h1, h2⟩ := h
  have e : ∃ os : List Str, ps.map (·.1) = os.map Sum.inr := by
    clear h1
    induction ps with
    | nil => exact ⟨[], rfl⟩
    | cons p r ih =>
      obtain ⟨os, e⟩ := ih fun q hq => h2 q (List.mem_cons_of_mem _ hq)
      obtain ⟨s, i, rfl⟩ := h2 p (List.mem_cons_self)
      exact ⟨s :: os, by rw [List.map_cons, List.map_cons, e]⟩
  obtain ⟨os, e⟩ := e
  have hl : os.length = ps.length := by
    have := congrArg List.length e
    simpa using this.symm
  refine ⟨os, hl, e, ?_, by rw [List.length_map, hl], fun d hd => ?_⟩
  · rw [e] at h1
    exact List.Pairwise.of_map (f := Sum.inr) (fun a b hne e => hne (by rw [e])) h1
  · obtain ⟨p, hp, rfl⟩ := List.mem_map.mp hd
    obtain ⟨s, i, rfl⟩ := h2 p hp
    exact ⟨i, rfl⟩
theorem pairs_pi : ∀ (l : List (Str × Int)), pairsD (l.map fun q => D.tup [.str q.1, .int q.2]) = some (l.map fun q => ((Sum.inr q.1 : Key), D.int q.2))
  | [] => rfl
  | q :: l => by
    rw [List.map_cons, pairsD]
    simp only [keyOf]
    rw [pairs_pi l]
    rfl
theorem di_look {ks : List Key} {ds : List D} {os : List Str} (h : DI ks ds os) {s : Str} (hs : s ∈ os) : ∃ i : Int, lookK (.inr s) ks ds = some (.int i) := by
  obtain ⟨rfl, h1, h2, h3⟩ := h
  clear h1
  induction os generalizing ds with
  | nil => cases hs
  | cons o os ih =>
    cases ds with
    | nil => cases h2
    | cons d ds =>
      rw [List.map_cons, lookK]
      by_cases ho : o = s
      · rw [if_pos (by rw [ho])]
        obtain ⟨i, rfl⟩ := h3 d List.mem_cons_self
        exact ⟨i, rfl⟩
      · rw [if_neg (fun z => ho (Sum.inr.inj z))]
        refine ih ?_ (by simpa using h2) fun d hd => h3 d (List.mem_cons_of_mem _ hd)
        rcases List.mem_cons.mp hs with z | z
        · exact absurd z.symm ho
        · exact z
theorem numbers_ok (k n : Nat) (h : Hh) (ss : List Str) (size a b : Int) (hl : n < h.length) (hs : ss.length < 500) (h0 : 0 < size) (h1 : size < 1000) :
    ∃ (ks : List Key) (ds : List D) (os : List Str) (a' b' : Int), DI ks ds os ∧ os.length ≤ ss.length ∧ callF tab (k + 2) 8 [.ref n, .val (.lst (ss.map D.str)), .val (.int size)] (HS h n a b []) = .ok (.val (.dct ks ds)) (HS h n a' b' []) := by
  suffices z : Ok (callF tab (k + 2) 8 [.ref n, .val (.lst (ss.map D.str)), .val (.int size)]) (HS h n a b []) fun y h' => ∃ (ks : List Key) (ds : List D) (os : List Str) (a' b' : Int), DI ks ds os ∧ os.length ≤ ss.length ∧ y = .val (.dct ks ds) ∧ h' = HS h n a' b' [] by
    obtain ⟨_, _, e, ks, ds, os, a', b', hv, hle, rfl, rfl⟩ := z
    exact ⟨ks, ds, os, a', b', hv, hle, e⟩
  rw [ok_call (f := ⟨"_law_numbers", 3, 4, .frz, ir_8⟩) rfl rfl]
  simp [ir_8]
  have lb := line_big
  refine ok_lcX ?_
  simp
  refine ⟨by omega, fun done acc hb => ∃ (l : List (Str × Int)) (a b : Int), l.length = done.length ∧ acc = (l.map fun q => D.tup [.str q.1, .int q.2]) ∧ hb = HS h n a b [], ?_, ?_, ?_⟩
  · exact ⟨[], a, b, rfl, rfl, rfl⟩
  · rintro done v rest acc hb e ⟨l, a, b, hll, rfl, rfl⟩ _ _
    obtain ⟨s, hs, rfl⟩ := map_split (f := A.val ∘ D.str) e
    simp
    refine ok_nextH next_t hl h0 (by omega) fun r a b _ _ => ?_
    simp
    exact ⟨HS h n a b [], by simp, by simp, l ++ [(s, r)], by simp [hll], by simp, a, b, rfl⟩
  · rintro acc hb ⟨l, a, b, hll, rfl, rfl⟩ _
    rw [ok_top (by simp)]
    simp only [ok_sfV, bl_dictL]
    rw [pairs_pi]
    obtain ⟨os, ho, hd⟩ := pi_di (fold_pi l [] ⟨List.nodup_nil, fun _ z => nomatch z⟩)
    have hle := fold_len (l.map fun q => ((Sum.inr q.1 : Key), D.int q.2)) []
    have hol : os.length ≤ ss.length := by
      refine Nat.le_trans (Nat.le_of_eq ho) (Nat.le_trans hle ?_)
      simp at hll ⊢
      omega
    simp [mkDict]
    exact ⟨_, _, os, hd, hol, ⟨rfl, rfl⟩, a, b, rfl⟩
end Lo.k02
namespace Lo.k02
open PySem L2
theorem truth_ok (k : Nat) (h : Hh) (t : Bool) : callF tab (k + 1) 0 [.val (.bl t)] h = .ok (.val (.int (if t then 1 else 0))) h := by
  apply of_ok
  rw [ok_call (f := ⟨"told_truth", 1, 1, .frz, ir_0⟩) rfl rfl]
  cases t <;> simp [ir_0]
@[simp] theorem neStr {a b : String} : (Str.ofString a == Str.ofString b) = (a == b) := by
  by_cases h : a = b
  · subst h; simp
  · have : Str.ofString a ≠ Str.ofString b := fun z => h ((ofString_inj a b).mp z)
    rw [beq_false_of_ne this, beq_false_of_ne h]
theorem same_ok (os bs : List Str) (ks1 ks2 : List Key) (ds1 ds2 : List D) (h1 : DI ks1 ds1 os) (h2 : DI ks2 ds2 bs) (size : Int) (hs : 0 < size) : ∀ (m : Nat) (v : D), VT os bs m v →
    ∃ i : Int, ∀ (k : Nat) (h : Hh), callF tab (k + m + 2) 1 [.val v, .val (.int size), .val (.dct ks1 ds1), .val (.dct ks2 ds2)] h = .ok (.val (.int i)) h ∧ callF tab (k + m + 2) 7 [.val v, .val (.int size), .val (.dct ks1 ds1), .val (.dct ks2 ds2)] h = .ok (.val (.int i)) h := by
  intro m v hv
  have lb := line_big
  have l1 : 1 < sizeLine := by omega
  have l2 : 2 < sizeLine := by omega
  induction hv with
  | num i =>
    refine ⟨i % size, fun k h => ⟨of_ok ?_, of_ok ?_⟩⟩
    · rw [ok_call (f := ⟨"worth", 4, 7, .frz, ir_1⟩) rfl rfl]
      simp [ir_1, hs]
    · rw [ok_call (f := ⟨"_law_comes_to", 4, 7, .frz, ir_7⟩) rfl rfl]
      simp [ir_7, hs]
  | own hso =>
    obtain ⟨i, e⟩ := di_look h1 hso
    refine ⟨i, fun k h => ⟨of_ok ?_, of_ok ?_⟩⟩
    · rw [ok_call (f := ⟨"worth", 4, 7, .frz, ir_1⟩) rfl rfl]
      simp [ir_1, e]
    · rw [ok_call (f := ⟨"_law_comes_to", 4, 7, .frz, ir_7⟩) rfl rfl]
      simp [ir_7, e]
  | box hso =>
    obtain ⟨i, e⟩ := di_look h2 hso
    refine ⟨i, fun k h => ⟨of_ok ?_, of_ok ?_⟩⟩
    · rw [ok_call (f := ⟨"worth", 4, 7, .frz, ir_1⟩) rfl rfl]
      simp [ir_1, e]
    · rw [ok_call (f := ⟨"_law_comes_to", 4, 7, .frz, ir_7⟩) rfl rfl]
      simp [ir_7, e]
  | @not m v hv ih =>
    obtain ⟨i, e⟩ := ih
    refine ⟨if i = 0 then 1 else 0, fun k h => ⟨of_ok ?_, of_ok ?_⟩⟩
    · show Ok (callF tab (k + m + 1 + 2) 1 _) h _
      rw [ok_call (f := ⟨"worth", 4, 7, .frz, ir_1⟩) rfl rfl]
      simp [ir_1]
      refine ok_lcRel (ds := [v]) (fun d e => e = .int i) ?_
      simp [cut_from, l1]
      refine ⟨fun acc => (ok_of (e k _).1).mpr ⟨rfl, rfl⟩, fun es t => ?_⟩
      cases t with
      | cons r t =>
        cases t
        subst r
        simp [ok_of (truth_ok (k + m + 1) h _)]
    · show Ok (callF tab (k + m + 1 + 2) 7 _) h _
      rw [ok_call (f := ⟨"_law_comes_to", 4, 7, .frz, ir_7⟩) rfl rfl]
      simp [ir_7, ok_of (e k h).2]
  | @bin m w v u hw hv hu ihv ihu =>
    obtain ⟨i, ei⟩ := ihv
    obtain ⟨j, ej⟩ := ihu
    have key : ∀ z : Int, (∀ (k : Nat) (h : Hh), Ok (callF tab (k + m + 1 + 2) 1 [.val (.tup [.str w, v, u]), .val (.int size), .val (.dct ks1 ds1), .val (.dct ks2 ds2)]) h fun a h' => a = .val (.int z) ∧ h' = h) →
        (∀ (k : Nat) (h : Hh), Ok (callF tab (k + m + 1 + 2) 7 [.val (.tup [.str w, v, u]), .val (.int size), .val (.dct ks1 ds1), .val (.dct ks2 ds2)]) h fun a h' => a = .val (.int z) ∧ h' = h) → ∃ i : Int, ∀ (k : Nat) (h : Hh), callF tab (k + (m + 1) + 2) 1 [.val (.tup [.str w, v, u]), .val (.int size), .val (.dct ks1 ds1), .val (.dct ks2 ds2)] h = .ok (.val (.int i)) h ∧ callF tab (k + (m + 1) + 2) 7 [.val (.tup [.str w, v, u]), .val (.int size), .val (.dct ks1 ds1), .val (.dct ks2 ds2)] h = .ok (.val (.int i)) h :=
      fun z a b => ⟨z, fun k h => ⟨of_ok (a k h), of_ok (b k h)⟩⟩
    have two : ∀ (k : Nat) (h : Hh) (Q : A → Hh → Prop) (cf) (hcf : cf = callF tab (k + m + 2)) (b : Nat), Q (.val (.lst [.int i, .int j])) h →
        Ok (evE cf b (.lc false (.call 1 (.cons (.var 6) (.cons (.var 1) (.cons (.var 2) (.cons (.var 3) .nil))))) [6] (.one 6) (.seq (.slL false (.var 0) (.cst (.int 1)))))
          [some (.val (.tup [.str w, v, u])), some (.val (.int size)), some (.val (.dct ks1 ds1)), some (.val (.dct ks2 ds2)), some (.val (.str w)), none, none]) h Q := by
      intro k h Q cf hcf b q
      subst hcf
      refine ok_lcX ?_
      simp [cut_from, l2]
      refine ⟨fun done acc hb => hb = h ∧ ((done = [] ∧ acc = []) ∨ (done = [.val v] ∧ acc = [.int i]) ∨ (done = [.val v, .val u] ∧ acc = [.int i, .int j])), by simp, ?_, ?_⟩
      · rintro done a rest acc hb e ⟨rfl, ⟨rfl, rfl⟩ | ⟨rfl, rfl⟩ | ⟨rfl, rfl⟩⟩ _ _
        · simp at e
          obtain ⟨rfl, rfl⟩ := e
          simp
          exact (ok_of (ei k _).1).mpr ⟨_, rfl, by simp⟩
        · simp at e
          obtain ⟨rfl, rfl⟩ := e
          simp
          exact (ok_of (ej k _).1).mpr ⟨_, rfl, by simp⟩
        · simp at e
      · rintro acc hb ⟨rfl, ⟨e, rfl⟩ | ⟨e, rfl⟩ | ⟨e, rfl⟩⟩ _
        · simp at e
        · simp at e
        · exact (ok_top (acc := [.int i, .int j]) rfl).mpr q
    simp [ws] at hw
    rcases hw with rfl | rfl | rfl | rfl
    · refine key ((i + j) % size) (fun k h => ?_) (fun k h => ?_)
      · rw [ok_call (f := ⟨"worth", 4, 7, .frz, ir_1⟩) rfl rfl]
        simp [ir_1]
        refine two k h _ _ rfl _ ?_
        simp [hs]
      · rw [ok_call (f := ⟨"_law_comes_to", 4, 7, .frz, ir_7⟩) rfl rfl]
        simp [ir_7, ok_of (ei k h).2, ok_of (ej k h).2, hs]
    · refine key ((i - j) % size) (fun k h => ?_) (fun k h => ?_)
      · rw [ok_call (f := ⟨"worth", 4, 7, .frz, ir_1⟩) rfl rfl]
        simp [ir_1]
        refine two k h _ _ rfl _ ?_
        simp [hs]
      · rw [ok_call (f := ⟨"_law_comes_to", 4, 7, .frz, ir_7⟩) rfl rfl]
        simp [ir_7, ok_of (ei k h).2, ok_of (ej k h).2, hs]
        exact congrArg (· % size) (by omega)
    · refine key (if i < j then 1 else 0) (fun k h => ?_) (fun k h => ?_)
      · rw [ok_call (f := ⟨"worth", 4, 7, .frz, ir_1⟩) rfl rfl]
        simp [ir_1]
        refine two k h _ _ rfl _ ?_
        simp [ok_of (truth_ok (k + m + 1) h _)]
      · rw [ok_call (f := ⟨"_law_comes_to", 4, 7, .frz, ir_7⟩) rfl rfl]
        simp [ir_7, ok_of (ei k h).2, ok_of (ej k h).2, hs]
    · refine key (if i = j then 1 else 0) (fun k h => ?_) (fun k h => ?_)
      · rw [ok_call (f := ⟨"worth", 4, 7, .frz, ir_1⟩) rfl rfl]
        simp [ir_1]
        refine two k h _ _ rfl _ ?_
        simp [ok_of (truth_ok (k + m + 1) h _)]
      · rw [ok_call (f := ⟨"_law_comes_to", 4, 7, .frz, ir_7⟩) rfl rfl]
        simp [ir_7, ok_of (ei k h).2, ok_of (ej k h).2, hs]
/-! ### the law -/
theorem vt_parts {os bs : List Str} {m : Nat} {v : D} (h : VT os bs m v) : ∃ ds, v = .tup ds ∧ ds.length < 4 ∧ ∀ d ∈ ds.drop 1, (∃ s, d = .str s) ∨ (∃ i, d = .int i) ∨ (VT os bs m d ∧ ∃ es, d = .tup es) := by
  have up : ∀ {m : Nat} {v : D}, VT os bs m v → VT os bs (m + 1) v := fun {m v} h => by
    induction h with
    | num i => exact .num i
    | own h => exact .own h
    | box h => exact .box h
    | not _ ih => exact .not ih
    | bin hw _ _ i1 i2 => exact .bin hw i1 i2
  have tp : ∀ {m : Nat} {v : D}, VT os bs m v → ∃ es, v = .tup es := fun {m v} h => by
    cases h <;> exact ⟨_, rfl⟩
  cases h with
  | num i => exact ⟨_, rfl, by simp, by simp⟩
  | own h => exact ⟨_, rfl, by simp, by simp⟩
  | box h => exact ⟨_, rfl, by simp, by simp⟩
  | not h => exact ⟨_, rfl, by simp, by simp [up h, tp h]⟩
  | bin hw h1 h2 => exact ⟨_, rfl, by simp, by simp [up h1, tp h1, up h2, tp h2]⟩
theorem di_eqv {ks : List Key} {ds : List D} {os : List Str} (h : DI ks ds os) : (D.dct ks ds).eqv (.dct ks ds) = true ∧ ∀ k, plL ds k = true := by
  obtain ⟨rfl, h1, h2, h3⟩ := h
  constructor
  · unfold D.eqv
    rw [beq_self_eq_true, Bool.true_and]
    refine eqvK_all fun i k d hk hd => ⟨d, lookK_nth ?_ hk hd, ?_⟩
    · exact h1.map Sum.inr fun a b hne e => hne (Sum.inr.inj e)
    · obtain ⟨j, rfl⟩ := h3 d (List.mem_of_getElem? hd)
      simp
  · intro k
    clear h2 h1
    induction ds with
    | nil => rfl
    | cons d r ih =>
      obtain ⟨j, rfl⟩ := h3 d List.mem_cons_self
      rw [plL, ih fun d hd => h3 d (List.mem_cons_of_mem _ hd)]
      rfl
theorem keys_list (os : List Str) : (os.map (Sum.inr : Str → Key)).map keyD = os.map D.str := by
  rw [List.map_map]
  rfl
theorem pure_law : ∀ ns : List Int, ∃ h', callF tab 60 9 [.val (.scr ns)] [] = .ok (.val (.bl true)) h' := by
  intro ns
  suffices z : Ok (callF tab 60 9 [.val (.scr ns)]) [] fun a h' => a = .val (.bl true) by
    obtain ⟨_, h', e, rfl⟩ := z
    exact ⟨h', e⟩
  rw [ok_call (f := ⟨"law", 1, 14, .frz, ir_9⟩) rfl rfl]
  have lb := line_big
  obtain ⟨c0, e0⟩ := cell_ok 58 [] ns 0 (by omega)
  obtain ⟨a, b, e1⟩ := state_ok 58 [] c0 1
  have e1 : callF tab 59 3 [.val (.int c0), .val (.int 1)] [] = .ok (.ref 0) (HS [C.dead] 0 a b []) := e1
  simp [ir_9, ok_of e0]
  rw [ok_of e1]
  refine ok_nextH (h := [C.dead]) (n := 0) next_t (by decide) (by omega) (by omega) fun r15 a b h0 h1 => ?_
  simp
  obtain ⟨ss, a, b, hss, e2⟩ := names_ok 57 0 [C.dead] a b 8 (by decide) (by omega) (by omega)
  have hss : ss.length = 8 := hss
  rw [ok_of (show callF tab 59 5 _ _ = _ from e2)]
  refine ok_nextH (h := [C.dead]) (n := 0) next_t (by decide) (by omega) (by omega) fun r5 a b h50 h51 => ?_
  simp [cut_to h50]
  obtain ⟨ks1, ds1, os, a, b, d1, l1, e3⟩ := numbers_ok 57 0 [C.dead] (ss.take r5.toNat) (2 + r15) a b (by decide) (by simp; omega) (by omega) (by omega)
  have l1 : os.length ≤ 8 := by simp at l1; omega
  rw [List.map_take] at e3
  rw [ok_of (show callF tab 59 8 _ _ = _ from e3)]
  refine ok_nextH (h := [C.dead]) (n := 0) next_t (by decide) (by omega) (by omega) fun r3 a b h30 h31 => ?_
  simp
  obtain ⟨sh, hsh, e4⟩ := idx_lst (ds := [.int 4, .int 0, .int 2]) h30 (by simpa using h31)
  obtain ⟨sn, rfl, hs0⟩ : ∃ sn : Int, sh = .int sn ∧ 0 ≤ sn := by
    simp at hsh
    rcases hsh with rfl | rfl | rfl <;> exact ⟨_, rfl, by omega⟩
  have e4 : atP [D.int 4, .int 0, .int 2] r3 = some (.int sn) := e4
  rw [e4]
  simp [cut_from hs0]
  refine ok_nextH (h := [C.dead]) (n := 0) next_t (by decide) (by omega) (by omega) fun q5 a b g50 g51 => ?_
  simp [cut_to g50]
  obtain ⟨ks2, ds2, bs, a, b, d2, l2, e5⟩ := numbers_ok 57 0 [C.dead] ((ss.drop sn.toNat).take q5.toNat) (2 + r15) a b (by decide) (by simp; omega) (by omega) (by omega)
  have l2 : bs.length ≤ 8 := by simp at l2; omega
  rw [List.map_take, List.map_drop] at e5
  rw [ok_of (show callF tab 59 8 _ _ = _ from e5)]
  obtain ⟨c1, e6⟩ := cell_ok 58 (HS [C.dead] 0 a b []) ns 1 (by omega)
  rw [ok_of (show callF tab 59 2 _ _ = _ from e6)]
  obtain ⟨a', b', e7⟩ := state_ok 58 (HS [C.dead] 0 a b []) c1 2
  obtain ⟨B, hB⟩ : ∃ B, B = HS [C.dead] 0 a b [] ++ [C.dead] := ⟨_, rfl⟩
  have hBl : B.length = 2 := by rw [hB]; rfl
  have e7 : callF tab 59 3 [.val (.int c1), .val (.int 2)] (HS [C.dead] 0 a b []) = .ok (.ref 1) (HS B 1 a' b' []) := by
    have z : HS [C.dead] 0 a b [] ++ [St a' b'] = HS B 1 a' b' [] := by rw [hB]; rfl
    rw [← z]
    exact e7
  rw [ok_of e7]
  refine ok_nextH (h := B) (n := 1) next_t (by omega) (by omega) (by omega) fun rd a b hd0 hd1 => ?_
  obtain ⟨rfl, d1b⟩ : ks1 = os.map Sum.inr ∧ DI (os.map Sum.inr) ds1 os := ⟨d1.1, by rw [← d1.1]; exact d1⟩
  obtain ⟨rfl, d2b⟩ : ks2 = bs.map Sum.inr ∧ DI (bs.map Sum.inr) ds2 bs := ⟨d2.1, by rw [← d2.1]; exact d2⟩
  simp only [ok_sfV, op_addI, ok_some, bl_listD, keys_list]
  obtain ⟨v, a, b, hv, e8⟩ := value_ok 1 B os bs (by omega) (by omega) (by omega) 4 53 (1 + rd) a b (by omega)
  rw [ok_of (show callF tab 59 6 _ _ = _ from e8)]
  obtain ⟨pt, rfl, hpl, hpt⟩ := vt_parts hv
  simp only [bl_dictD, ok_some]
  refine ok_lcIX ?_
  simp [cut_from]
  refine ⟨by omega, fun done acc hb => hb = HS B 1 a b [] ∧ acc.length ≤ done.length ∧ ∀ d ∈ acc, VT os bs 4 d, ⟨rfl, Nat.le_refl _, fun _ z => nomatch z⟩, ?_, ?_⟩
  · rintro done x rest acc hb e ⟨rfl, hal, hacc⟩ hl hc
    have e' : ((pt.drop 1).map A.val) = done ++ x :: rest := by rw [← List.drop_one] at e; simpa using e
    obtain ⟨d, hd, rfl⟩ := map_split e'
    simp
    rcases hpt d hd with ⟨s, rfl⟩ | ⟨i, rfl⟩ | ⟨hvd, es, rfl⟩
    · simp
      exact ⟨HS B 1 a b [], by simp, by simp, rfl, by omega, hacc⟩
    · simp
      exact ⟨HS B 1 a b [], by simp, by simp, rfl, by omega, hacc⟩
    · simp
      refine ⟨HS B 1 a b [], by simp, by simp, rfl, by omega, ?_⟩
      intro d hd
      rcases hd with hd | rfl
      · exact hacc d hd
      · exact hvd
  · rintro acc hb ⟨rfl, hal, hacc⟩ _
    rw [ok_top (by simp)]
    have hal2 : acc.length < 4 := by
      simp at hal
      omega
    refine ok_forX ?_
    simp
    obtain ⟨e1, p1⟩ := di_eqv d1b
    obtain ⟨e2, p2⟩ := di_eqv d2b
    refine ⟨by omega, by omega, fun done env hb => hb = HS B 1 a b [] ∧ ∃ x10 x11 x12 x13, env = [some (A.val (D.scr ns)), some (A.ref 1), some (A.val (D.int (2 + r15))),
          some (A.val (D.lst (List.map D.str ss))), some (A.val (D.dct (List.map Sum.inr os) ds1)),
          some (A.val (D.int sn)), some (A.val (D.dct (List.map Sum.inr bs) ds2)), some (A.val (D.tup pt)),
          some (A.val (D.lst [D.dct (List.map Sum.inr os) ds1, D.dct (List.map Sum.inr bs) ds2])), some (A.val (D.lst acc)), x10, x11, x12, x13], ⟨rfl, none, none, none, none, rfl⟩, ?_, ?_⟩
    · rintro done x rest _ _ e ⟨rfl, x10, x11, x12, x13, rfl⟩
      have hx : ∃ d, x = .val d ∧ VT os bs 4 d := by
        have : x ∈ done ++ x :: rest := by simp
        rw [← e] at this
        simp at this
        rcases this with rfl | ⟨d, hd, rfl⟩ | rfl
        · exact ⟨_, rfl, hv⟩
        · exact ⟨_, rfl, hacc d hd⟩
        · exact ⟨_, rfl, hv⟩
      obtain ⟨d, rfl, hvd⟩ := hx
      obtain ⟨i, hi⟩ := same_ok os bs _ _ ds1 ds2 d1b d2b (2 + r15) (by omega) 4 d hvd
      simp
      rw [ok_of (show callF tab 59 1 _ _ = _ from (hi 53 _).1)]
      simp
      rw [ok_of (show callF tab 59 7 _ _ = _ from (hi 53 _).2)]
      simp
    · rintro _ _ ⟨rfl, x10, x11, x12, x13, rfl⟩
      simp
      have eo : (D.lst [D.dct (os.map Sum.inr) ds1, D.dct (bs.map Sum.inr) ds2]).okc (D.lst [D.dct (os.map Sum.inr) ds1, D.dct (bs.map Sum.inr) ds2]) 50 = true := by
        simp [D.okc, okcL, p1, p2]
      have ee : (D.lst [D.dct (os.map Sum.inr) ds1, D.dct (bs.map Sum.inr) ds2]).eqv (D.lst [D.dct (os.map Sum.inr) ds1, D.dct (bs.map Sum.inr) ds2]) = true := by
        rw [D.eqv]
        simp [eqvL, e1, e2]
      have eq : eqD (D.lst [D.dct (os.map Sum.inr) ds1, D.dct (bs.map Sum.inr) ds2]) (D.lst [D.dct (os.map Sum.inr) ds1, D.dct (bs.map Sum.inr) ds2]) = some true := by
        unfold eqD
        rw [eo]
        exact congrArg some ee
      rw [eq]
      simp
end Lo.k02
set_option maxHeartbeats 200000
set_option maxHeartbeats 0
namespace Lo.k02
open PySem PySem.Spec PyProof.Rows L2
abbrev pw := PySem.Challenge.pw_loomlook_k02_what_values_come_to
def top (i : Nat) : Stmt := pw.main.body.getD i (.Pass ⟨0, 0, 0, 0⟩)
def dd (i : Nat) (x : Str) : He.DefD := ⟨(x, none), x, x, defArgs (top i), defBody (top i), defScope (top i), [], []⟩
def fn : List He.DefD := [dd 1 "told_truth", dd 2 "worth", dd 4 "_law_cell_at", dd 5 "_law_state", dd 6 "_law_next", dd 7 "_law_names", dd 8 "_law_value", dd 9 "_law_comes_to", dd 10 "_law_numbers", dd 11 "law"]
def fa : List He.Fa := [.glo "told_truth", .glo "worth", .glo "_law_cell_at", .glo "_law_state", .glo "_law_next", .glo "_law_names", .glo "_law_value", .glo "_law_comes_to", .glo "_law_numbers", .glo "law", .free "abs", .free "bool", .free "dict", .free "int", .free "isinstance", .free "len", .free "list", .free "range", .free "tuple"]
def loose : List PySem.Str := ["told_truth", "worth", "_law_cell_at", "_law_state", "_law_next", "_law_names", "_law_value", "_law_comes_to", "_law_numbers"]
abbrev R : PySem.W.OpenRow := PySem.W.OpenLaw.row PySem.Challenge.rw_loomlook_k02_what_values_come_to
abbrev hk : PySem.W.Hook := He.hookD 4 fa fn
def ob (s : PySem.W.SharedT) : He.AlD := He.obsDG 4 fa fn (HandSHeadRun.getT s)
theorem ob_eq (s : PySem.W.SharedT) : ob s = hk.obs s.abs := He.obsDG_eq (HandSHeadRun.getT_eq s)
theorem run (w : World) : HandSHeadRun.RunEq R (PySem.W.view R.prog [11]) hk ob 400 loose w := by
  intro os
  kernel_rfl
/-! ### each def is as the table says -/
theorem sc_0 : FnScope n_0 p_0 (defScope (top 1)) := ⟨rfl, rfl, rfl, by decide +kernel, rfl, by decide +kernel, by decide +kernel⟩
theorem ck_0 : okSs 60 (gxOf n_0 (defScope (top 1)) tab bl) (defBody (top 1)) ir_0 = true := by kernel_rfl
theorem sc_1 : FnScope n_1 p_1 (defScope (top 2)) := ⟨rfl, rfl, rfl, by decide +kernel, rfl, by decide +kernel, by decide +kernel⟩
theorem ck_1 : okSs 60 (gxOf n_1 (defScope (top 2)) tab bl) (defBody (top 2)) ir_1 = true := by kernel_rfl
theorem sc_2 : FnScope n_2 p_2 (defScope (top 4)) := ⟨rfl, rfl, rfl, by decide +kernel, rfl, by decide +kernel, by decide +kernel⟩
theorem ck_2 : okSs 60 (gxOf n_2 (defScope (top 4)) tab bl) (defBody (top 4)) ir_2 = true := by kernel_rfl
theorem sc_3 : FnScope n_3 p_3 (defScope (top 5)) := ⟨rfl, rfl, rfl, by decide +kernel, rfl, by decide +kernel, by decide +kernel⟩
theorem ck_3 : okSs 60 (gxOf n_3 (defScope (top 5)) tab bl) (defBody (top 5)) ir_3 = true := by kernel_rfl
theorem sc_4 : FnScope n_4 p_4 (defScope (top 6)) := ⟨rfl, rfl, rfl, by decide +kernel, rfl, by decide +kernel, by decide +kernel⟩
theorem ck_4 : okSs 60 (gxOf n_4 (defScope (top 6)) tab bl) (defBody (top 6)) ir_4 = true := by kernel_rfl
theorem sc_5 : FnScope n_5 p_5 (defScope (top 7)) := ⟨rfl, rfl, rfl, by decide +kernel, rfl, by decide +kernel, by decide +kernel⟩
theorem ck_5 : okSs 60 (gxOf n_5 (defScope (top 7)) tab bl) (defBody (top 7)) ir_5 = true := by kernel_rfl
theorem sc_6 : FnScope n_6 p_6 (defScope (top 8)) := ⟨rfl, rfl, rfl, by decide +kernel, rfl, by decide +kernel, by decide +kernel⟩
theorem ck_6 : okSs 60 (gxOf n_6 (defScope (top 8)) tab bl) (defBody (top 8)) ir_6 = true := by kernel_rfl
theorem sc_7 : FnScope n_7 p_7 (defScope (top 9)) := ⟨rfl, rfl, rfl, by decide +kernel, rfl, by decide +kernel, by decide +kernel⟩
theorem ck_7 : okSs 60 (gxOf n_7 (defScope (top 9)) tab bl) (defBody (top 9)) ir_7 = true := by kernel_rfl
theorem sc_8 : FnScope n_8 p_8 (defScope (top 10)) := ⟨rfl, rfl, rfl, by decide +kernel, rfl, by decide +kernel, by decide +kernel⟩
theorem ck_8 : okSs 60 (gxOf n_8 (defScope (top 10)) tab bl) (defBody (top 10)) ir_8 = true := by kernel_rfl
theorem sc_9 : FnScope n_9 p_9 (defScope (top 11)) := ⟨rfl, rfl, rfl, by decide +kernel, rfl, by decide +kernel, by decide +kernel⟩
theorem ck_9 : okSs 60 (gxOf n_9 (defScope (top 11)) tab bl) (defBody (top 11)) ir_9 = true := by kernel_rfl
end Lo.k02
set_option maxHeartbeats 200000
set_option maxHeartbeats 0
namespace Lo.k02
open PySem PySem.Spec PyProof.Rows L2
section
variable {P : Program} {w : World} {K : PySem.W.Frag} {h base : Heap} {mg : Str → Option Value}
theorem free_all (X : K.In h) (G : h.Ns mainGlobals mg) (c : He.SaysD fa fn K) : ∀ x, bl.contains x = true → mg x = none := by
  have z : ∀ x ∈ bl, mg x = none := List.forall_mem_cons.mpr ⟨He.free_ok X G (c.fact 10 (f := .free "abs") rfl), List.forall_mem_cons.mpr ⟨He.free_ok X G (c.fact 11 (f := .free "bool") rfl), List.forall_mem_cons.mpr ⟨He.free_ok X G (c.fact 12 (f := .free "dict") rfl), List.forall_mem_cons.mpr ⟨He.free_ok X G (c.fact 13 (f := .free "int") rfl), List.forall_mem_cons.mpr ⟨He.free_ok X G (c.fact 14 (f := .free "isinstance") rfl), List.forall_mem_cons.mpr ⟨He.free_ok X G (c.fact 15 (f := .free "len") rfl), List.forall_mem_cons.mpr ⟨He.free_ok X G (c.fact 16 (f := .free "list") rfl), List.forall_mem_cons.mpr ⟨He.free_ok X G (c.fact 17 (f := .free "range") rfl), List.forall_mem_cons.mpr ⟨He.free_ok X G (c.fact 18 (f := .free "tuple") rfl), fun _ z => nomatch z⟩⟩⟩⟩⟩⟩⟩⟩⟩
  intro x hx
  exact z x (by simpa using hx)
theorem def_0 (X : K.In h) (G : h.Ns mainGlobals mg) (c : He.SaysD fa fn K) (hbl : ∀ x, bl.contains x = true → mg x = none) : ∃ a fd ps, mg "told_truth" = some (.ref a) ∧ PySem.W.keepIn K (.ref a) = true ∧ Binds K fd ps [] ∧ ∀ k, Calls' P w K mg base tab k → FnOk P w K mg base CX0 (k + 1) a fd ps (spF K tab (k + 1) 0) := by
  obtain ⟨fd, F⟩ := c.def_ 0 (d := dd 1 "told_truth") rfl
  exact ⟨_, fd, p_0, He.glo_ok X G (c.fact 0 (f := .glo "told_truth") rfl), F.kp, FunD.bindsN F (fun _ _ _ _ _ _ us hl => match us, hl with | [_], _ => rfl), fun k cs => fn_rule F sc_0 rfl rfl rfl (by decide +kernel) ck_0 hbl cs⟩
theorem def_1 (X : K.In h) (G : h.Ns mainGlobals mg) (c : He.SaysD fa fn K) (hbl : ∀ x, bl.contains x = true → mg x = none) : ∃ a fd ps, mg "worth" = some (.ref a) ∧ PySem.W.keepIn K (.ref a) = true ∧ Binds K fd ps [] ∧ ∀ k, Calls' P w K mg base tab k → FnOk P w K mg base CX0 (k + 1) a fd ps (spF K tab (k + 1) 1) := by
  obtain ⟨fd, F⟩ := c.def_ 1 (d := dd 2 "worth") rfl
  exact ⟨_, fd, p_1, He.glo_ok X G (c.fact 1 (f := .glo "worth") rfl), F.kp, FunD.bindsN F (fun _ _ _ _ _ _ us hl => match us, hl with | [_, _, _, _], _ => rfl), fun k cs => fn_rule F sc_1 rfl rfl rfl (by decide +kernel) ck_1 hbl cs⟩
theorem def_2 (X : K.In h) (G : h.Ns mainGlobals mg) (c : He.SaysD fa fn K) (hbl : ∀ x, bl.contains x = true → mg x = none) : ∃ a fd ps, mg "_law_cell_at" = some (.ref a) ∧ PySem.W.keepIn K (.ref a) = true ∧ Binds K fd ps [] ∧ ∀ k, Calls' P w K mg base tab k → FnOk P w K mg base CX0 (k + 1) a fd ps (spF K tab (k + 1) 2) := by
  obtain ⟨fd, F⟩ := c.def_ 2 (d := dd 4 "_law_cell_at") rfl
  exact ⟨_, fd, p_2, He.glo_ok X G (c.fact 2 (f := .glo "_law_cell_at") rfl), F.kp, FunD.bindsN F (fun _ _ _ _ _ _ us hl => match us, hl with | [_, _], _ => rfl), fun k cs => fn_rule F sc_2 rfl rfl rfl (by decide +kernel) ck_2 hbl cs⟩
theorem def_3 (X : K.In h) (G : h.Ns mainGlobals mg) (c : He.SaysD fa fn K) (hbl : ∀ x, bl.contains x = true → mg x = none) : ∃ a fd ps, mg "_law_state" = some (.ref a) ∧ PySem.W.keepIn K (.ref a) = true ∧ Binds K fd ps [] ∧ ∀ k, Calls' P w K mg base tab k → FnOk P w K mg base CX0 (k + 1) a fd ps (spF K tab (k + 1) 3) := by
  obtain ⟨fd, F⟩ := c.def_ 3 (d := dd 5 "_law_state") rfl
  exact ⟨_, fd, p_3, He.glo_ok X G (c.fact 3 (f := .glo "_law_state") rfl), F.kp, FunD.bindsN F (fun _ _ _ _ _ _ us hl => match us, hl with | [_, _], _ => rfl), fun k cs => fn_rule F sc_3 rfl rfl rfl (by decide +kernel) ck_3 hbl cs⟩
theorem def_4 (X : K.In h) (G : h.Ns mainGlobals mg) (c : He.SaysD fa fn K) (hbl : ∀ x, bl.contains x = true → mg x = none) : ∃ a fd ps, mg "_law_next" = some (.ref a) ∧ PySem.W.keepIn K (.ref a) = true ∧ Binds K fd ps [] ∧ ∀ k, Calls' P w K mg base tab k → FnOk P w K mg base CX0 (k + 1) a fd ps (spF K tab (k + 1) 4) := by
  obtain ⟨fd, F⟩ := c.def_ 4 (d := dd 6 "_law_next") rfl
  exact ⟨_, fd, p_4, He.glo_ok X G (c.fact 4 (f := .glo "_law_next") rfl), F.kp, FunD.bindsN F (fun _ _ _ _ _ _ us hl => match us, hl with | [_, _], _ => rfl), fun k cs => fn_rule F sc_4 rfl rfl rfl (by decide +kernel) ck_4 hbl cs⟩
theorem def_5 (X : K.In h) (G : h.Ns mainGlobals mg) (c : He.SaysD fa fn K) (hbl : ∀ x, bl.contains x = true → mg x = none) : ∃ a fd ps, mg "_law_names" = some (.ref a) ∧ PySem.W.keepIn K (.ref a) = true ∧ Binds K fd ps [] ∧ ∀ k, Calls' P w K mg base tab k → FnOk P w K mg base CX0 (k + 1) a fd ps (spF K tab (k + 1) 5) := by
  obtain ⟨fd, F⟩ := c.def_ 5 (d := dd 7 "_law_names") rfl
  exact ⟨_, fd, p_5, He.glo_ok X G (c.fact 5 (f := .glo "_law_names") rfl), F.kp, FunD.bindsN F (fun _ _ _ _ _ _ us hl => match us, hl with | [_, _], _ => rfl), fun k cs => fn_rule F sc_5 rfl rfl rfl (by decide +kernel) ck_5 hbl cs⟩
theorem def_6 (X : K.In h) (G : h.Ns mainGlobals mg) (c : He.SaysD fa fn K) (hbl : ∀ x, bl.contains x = true → mg x = none) : ∃ a fd ps, mg "_law_value" = some (.ref a) ∧ PySem.W.keepIn K (.ref a) = true ∧ Binds K fd ps [] ∧ ∀ k, Calls' P w K mg base tab k → FnOk P w K mg base CX0 (k + 1) a fd ps (spF K tab (k + 1) 6) := by
  obtain ⟨fd, F⟩ := c.def_ 6 (d := dd 8 "_law_value") rfl
  exact ⟨_, fd, p_6, He.glo_ok X G (c.fact 6 (f := .glo "_law_value") rfl), F.kp, FunD.bindsN F (fun _ _ _ _ _ _ us hl => match us, hl with | [_, _, _, _], _ => rfl), fun k cs => fn_rule F sc_6 rfl rfl rfl (by decide +kernel) ck_6 hbl cs⟩
theorem def_7 (X : K.In h) (G : h.Ns mainGlobals mg) (c : He.SaysD fa fn K) (hbl : ∀ x, bl.contains x = true → mg x = none) : ∃ a fd ps, mg "_law_comes_to" = some (.ref a) ∧ PySem.W.keepIn K (.ref a) = true ∧ Binds K fd ps [] ∧ ∀ k, Calls' P w K mg base tab k → FnOk P w K mg base CX0 (k + 1) a fd ps (spF K tab (k + 1) 7) := by
  obtain ⟨fd, F⟩ := c.def_ 7 (d := dd 9 "_law_comes_to") rfl
  exact ⟨_, fd, p_7, He.glo_ok X G (c.fact 7 (f := .glo "_law_comes_to") rfl), F.kp, FunD.bindsN F (fun _ _ _ _ _ _ us hl => match us, hl with | [_, _, _, _], _ => rfl), fun k cs => fn_rule F sc_7 rfl rfl rfl (by decide +kernel) ck_7 hbl cs⟩
theorem def_8 (X : K.In h) (G : h.Ns mainGlobals mg) (c : He.SaysD fa fn K) (hbl : ∀ x, bl.contains x = true → mg x = none) : ∃ a fd ps, mg "_law_numbers" = some (.ref a) ∧ PySem.W.keepIn K (.ref a) = true ∧ Binds K fd ps [] ∧ ∀ k, Calls' P w K mg base tab k → FnOk P w K mg base CX0 (k + 1) a fd ps (spF K tab (k + 1) 8) := by
  obtain ⟨fd, F⟩ := c.def_ 8 (d := dd 10 "_law_numbers") rfl
  exact ⟨_, fd, p_8, He.glo_ok X G (c.fact 8 (f := .glo "_law_numbers") rfl), F.kp, FunD.bindsN F (fun _ _ _ _ _ _ us hl => match us, hl with | [_, _, _], _ => rfl), fun k cs => fn_rule F sc_8 rfl rfl rfl (by decide +kernel) ck_8 hbl cs⟩
theorem def_9 (X : K.In h) (G : h.Ns mainGlobals mg) (c : He.SaysD fa fn K) (hbl : ∀ x, bl.contains x = true → mg x = none) : ∃ a fd ps, mg "law" = some (.ref a) ∧ PySem.W.keepIn K (.ref a) = true ∧ Binds K fd ps [] ∧ ∀ k, Calls' P w K mg base tab k → FnOk P w K mg base CX0 (k + 1) a fd ps (spF K tab (k + 1) 9) := by
  obtain ⟨fd, F⟩ := c.def_ 9 (d := dd 11 "law") rfl
  exact ⟨_, fd, p_9, He.glo_ok X G (c.fact 9 (f := .glo "law") rfl), F.kp, FunD.bindsN F (fun _ _ _ _ _ _ us hl => match us, hl with | [_], _ => rfl), fun k cs => fn_rule F sc_9 rfl rfl rfl (by decide +kernel) ck_9 hbl cs⟩
theorem defs (X : K.In h) (G : h.Ns mainGlobals mg) (c : He.SaysD fa fn K) : ∀ i f, tab[i]? = some f → ∃ a fd ps, mg f.name = some (.ref a) ∧ PySem.W.keepIn K (.ref a) = true ∧ Binds K fd ps [] ∧ ∀ k, Calls' P w K mg base tab k → FnOk P w K mg base CX0 (k + 1) a fd ps (spF K tab (k + 1) i) := by
  have hbl := free_all X G c
  intro i f hf
  match i, hf with
  | 0, hf => cases hf; exact def_0 X G c hbl
  | 1, hf => cases hf; exact def_1 X G c hbl
  | 2, hf => cases hf; exact def_2 X G c hbl
  | 3, hf => cases hf; exact def_3 X G c hbl
  | 4, hf => cases hf; exact def_4 X G c hbl
  | 5, hf => cases hf; exact def_5 X G c hbl
  | 6, hf => cases hf; exact def_6 X G c hbl
  | 7, hf => cases hf; exact def_7 X G c hbl
  | 8, hf => cases hf; exact def_8 X G c hbl
  | 9, hf => cases hf; exact def_9 X G c hbl
  | n + 10, hf => exact absurd hf (by simp [tab])
end
open PySem.W PySem.Calls in
theorem law_holds : PySem.Challenge.rw_loomlook_k02_what_values_come_to.Holds := by
  w_on; o_law
  refine HandSHeadRun.head_any (r := OpenLaw.row PySem.Challenge.rw_loomlook_k02_what_values_come_to) (q := view (OpenLaw.row PySem.Challenge.rw_loomlook_k02_what_values_come_to).prog [11]) (H := hk) (ob := ob) (M := 400) (loose := loose) (d := HandSHeadRun.topDef (OpenLaw.row PySem.Challenge.rw_loomlook_k02_what_values_come_to).prog 11) (kwd := []) ob_eq
    (by kernel_rfl) (fun s => by kernel_rfl) run (by kernel_rfl) (by kernel_rfl) (by kernel_rfl) (by rfl) (by first | assumption | decide +kernel) (by decide +kernel) ⟨rfl, rfl, rfl, rfl, rfl, by decide +kernel⟩ ?hw ?hc
  case hw => w_witness2
  case hc =>
    refine L2.walk_ofE (l := PySem.Challenge.rw_loomlook_k02_what_values_come_to) (n := 63) (k := 60) (x := "_law_script") (CX := L2.CX0) rfl (by decide) (by kernel_rfl) ⟨rfl, by decide, by decide⟩ ?F (fun _ _ _ _ z => z)
    intro w mg fa' h Y G hmg0
    obtain ⟨K, KX, c⟩ := Y
    have hmg : mg ("law" : PySem.Str) = some (.ref fa') := by
      have e : (HandSHeadRun.topDef (OpenLaw.row PySem.Challenge.rw_loomlook_k02_what_values_come_to).prog 11).name = ("law" : PySem.Str) := by kernel_rfl
      rw [← e]
      exact hmg0
    obtain ⟨fd, F⟩ := c.def_ 9 (d := dd 11 "law") rfl
    have e := hmg.symm.trans (He.glo_ok KX G (c.fact 9 (f := .glo "law") rfl))
    cases e
    have b := FunD.bindsA (ps := p_9) F fun _ _ _ _ _ _ us hl => match us, hl with | [_], _ => rfl
    refine ⟨K, fd, spLaw K, KX, fun s v => b s [v] rfl, fun H a ns hl _ hS => ⟨a, ns, rfl, hS, fun _ => rfl⟩, fun base hb1 hb2 => ?_⟩
    have cs := calls_all (P := (PySem.Challenge.rw_loomlook_k02_what_values_come_to).prog) (w := w) (K := K) (mg := mg) (base := base) (tab := tab) (defs KX G c) 59
    exact law_ok (fn_rule F sc_9 rfl rfl rfl (by decide +kernel) ck_9 (free_all KX G c) cs) pure_law
end Lo.k02
set_option maxHeartbeats 200000
theorem PySem.Challenge.cw_loomlook_k02_what_values_come_to_holds : PySem.Challenge.rw_loomlook_k02_what_values_come_to.Holds := by
  exact Lo.k02.law_holds
