import PyProof.Rows.All
import Wide.All
import OpenK.AllK
import Wide.FinOn
import HandS.Base
import HandS.Call
import HandS.List
import HandS.Words
import HandS.Comp
import HandS.Iter
import HandS.Text
import HandS.Flow
import HandS.Exc
import HandS.Wide
import HandS.WideBits
import HandS.StrMore
import HandS.TupLe
import KE.LtData
import HandS.Deep
import HandS.Style
import HandS.IsInst
import HandS.Dict
import PyProof.ReprRoads
import KE.KRevSl
import HandS.WordsDict
import PyProof.StrLaws
import PyProof.Rows.StrCut
import HandS.ExcOwn
import HandS.Defaults
import PyProof.FactsSeq
import OpenK.KMore
import HandS.Replace
import HandS.WordsExc
import HandS.Ends
import HandS.HeadEnd
import HandS.HeadHook2
import KE.KStateDown
import Lean
import HandS.More
import HandS.Head0
import HandS.Head1
import HandS.Head2
import HandS.HeadHook1
import PySem.Challenge.RW_chanceswaps_k02_whole_deeds_and_roads_an
set_option Elab.async false
set_option linter.all false
set_option maxRecDepth 100000
/-! Ev0: plain data, a small language of resolved Python, its evaluator. Own work. -/
namespace Ev
open PySem

/-- plain data; an int, a text by its signs; fn: a def of the text by its name's code; exc: an own error by its class's code, with its field -/
inductive D where
  | non | bl (b : Bool) | int (i : Int) | str (l : List Nat)
  | tup (xs : List D) | lst (xs : List D) | dic (ks vs : List D)
  | fn (n : Nat) | scr (ns : List Int) | exc (c : Nat) (v : D)

inductive Md where | fz | lk | own deriving DecidableEq
structure Sl where
  m : Md
  d : D
abbrev En := List (Option Sl)
/-- what an expression hands on: a thing that stands for ever; a new thing of one's own; what the i-th slot holds -/
inductive Vr where | v (d : D) | o (d : D) | s (i : Nat)
inductive Rs (α : Type) where
  | ok (a : α) (ρ : En) | ex (x : D) (ρ : En) | err
/-- what a call hands back: its own or not, the value, the arguments behind it -/
inductive CR where
  | ret (own : Bool) (d : D) (outs : List Sl) | ex (x : D) (outs : List Sl) | err
inductive Fl where | nx | br | ct | rt (own : Bool) (d : D)

@[inline] def Rs.bind {α β : Type} (r : Rs α) (f : α → En → Rs β) : Rs β := match r with
  | .ok a ρ => f a ρ
  | .ex x ρ => .ex x ρ
  | .err => .err

def En.get (ρ : En) (i : Nat) : Option Sl := match ρ[i]? with
  | some (some s) => some s
  | _ => none
def look (ρ : En) : Vr → Option D
  | .v d => some d
  | .o d => some d
  | .s i => match ρ.get i with
    | some s => some s.d
    | none => none
/-- to be kept elsewhere: a slot's thing is frozen -/
def keep (ρ : En) : Vr → Rs D
  | .v d => .ok d ρ
  | .o d => .ok d ρ
  | .s i => match ρ.get i with
    | some s => .ok s.d (ρ.set i (some ⟨.fz, s.d⟩))
    | none => .err
def keepAll : List Vr → En → Rs (List D)
  | [], ρ => .ok [] ρ
  | r :: rs, ρ => (keep ρ r).bind fun d ρ => (keepAll rs ρ).bind fun ds ρ => .ok (d :: ds) ρ
def lookAll (ρ : En) : List Vr → Option (List D)
  | [] => some []
  | r :: rs => match look ρ r, lookAll ρ rs with
    | some d, some ds => some (d :: ds)
    | _, _ => none
def Md.lock : Md → Md
  | .own => .lk
  | m => m
def lockS (ρ : En) : Vr → En
  | .s i => match ρ.get i with
    | some s => ρ.set i (some ⟨s.m.lock, s.d⟩)
    | none => ρ
  | _ => ρ
/-- behind a loop: r was walked, ρ0 ahead of it -/
def unlockS (ρ0 ρ : En) : Vr → En
  | .s i => match ρ0.get i, ρ.get i with
    | some s0, some s => if s.m = s0.m.lock then ρ.set i (some ⟨s0.m, s.d⟩) else ρ
    | _, _ => ρ
  | _ => ρ

def lockL (ρ : En) : List Vr → En
  | [] => ρ
  | r :: rs => lockL (lockS ρ r) rs
def unlockL (ρ0 ρ : En) : List Vr → En
  | [] => ρ
  | r :: rs => unlockS ρ0 (unlockL (lockS ρ0 r) ρ rs) r

/-! ### sizes -/
def LIM : Nat := 16777216
def B62 : Int := 4611686018427387904
def B63 : Int := 9223372036854775808

/-! ### values -/
def truth : D → Option Bool
  | .non => some false
  | .bl b => some b
  | .int i => some (!decide (i = 0))
  | .str l => some (!l.isEmpty)
  | .tup l => some (!l.isEmpty)
  | .lst l => some (!l.isEmpty)
  | .dic l _ => some (!l.isEmpty)
  | _ => none
def b2i (b : Bool) : Int := if b then 1 else 0
mutual
/-- depth at most n, nothing but None, bools, ints, texts, lists, tuples -/
def flat : Nat → D → Bool
  | _, .non => true
  | _, .bl _ => true
  | _, .int _ => true
  | _, .str _ => true
  | 0, _ => false
  | n + 1, .lst xs => flatL n xs
  | n + 1, .tup xs => flatL n xs
  | _ + 1, _ => false
def flatL : Nat → List D → Bool
  | _, [] => true
  | n, x :: xs => flat n x && flatL n xs
end
mutual
/-- Python's == of such -/
def eqD : D → D → Bool
  | .non, .non => true
  | .bl a, .bl b => a == b
  | .bl a, .int j => (if a then 1 else 0) == j
  | .int i, .bl b => i == (if b then 1 else 0)
  | .int i, .int j => i == j
  | .str x, .str y => decide (x = y)
  | .lst xs, .lst ys => eqDs xs ys
  | .tup xs, .tup ys => eqDs xs ys
  | _, _ => false
def eqDs : List D → List D → Bool
  | [], [] => true
  | x :: xs, y :: ys => eqD x y && eqDs xs ys
  | _, _ => false
end
def DEP : Nat := 60
def eqv (a b : D) : Option Bool := if flat DEP a && flat DEP b then some (eqD a b) else none

inductive Bop where | add | sub | mul | fdiv | mod | pow deriving DecidableEq
inductive Cop where | eq | ne | lt | le | gt | ge | is | isnot | isin | notin deriving DecidableEq

mutual
/-- can be compared place by place -/
def alikeD : D → D → Bool
  | .non, .non => true
  | .bl _, .bl _ => true
  | .int _, .int _ => true
  | .str _, .str _ => true
  | .lst xs, .lst ys => alikeDs xs ys
  | .tup xs, .tup ys => alikeDs xs ys
  | _, _ => false
def alikeDs : List D → List D → Bool
  | x :: xs, y :: ys => alikeD x y && alikeDs xs ys
  | _, _ => true
end
mutual
/-- Python's < of such -/
def lessD : D → D → Bool
  | .bl a, .bl b => decide (b2i a < b2i b)
  | .int a, .int b => decide (a < b)
  | .str a, .str b => decide (a < b)
  | .lst xs, .lst ys => lessDs xs ys
  | .tup xs, .tup ys => lessDs xs ys
  | _, _ => false
def lessDs : List D → List D → Bool
  | [], [] => false
  | [], _ :: _ => true
  | _ :: _, [] => false
  | x :: xs, y :: ys => if eqD x y then lessDs xs ys else lessD x y
end
def ltD (x y : D) : Option Bool := match x, y with
  | .int a, .int b => some (decide (a < b))
  | .str a, .str b => some (decide (a < b))
  | .non, _ => none
  | x, y => if flat DEP x && flat DEP y && alikeD x y then some (lessD x y) else none
def inD (x y : D) : Option Bool := match x, y with
  | .str [c], .str l => some (decide (c ∈ l))
  | x, .lst ys => if flat DEP x && flat DEP (.lst ys) then some (ys.any fun y => eqD y x) else none
  | _, _ => none
def isNonD : D → Bool
  | .non => true
  | _ => false
def cmpD (op : Cop) (x y : D) : Option Bool := match op with
  | .eq => eqv x y
  | .ne => match eqv x y with
    | some b => some (!b)
    | none => none
  | .lt => ltD x y
  | .gt => match x, y with
    | .int a, .int b => some (decide (b < a))
    | .str a, .str b => some (decide (b < a))
    | _, _ => none
  | .le => match x, y with
    | .int a, .int b => some (decide (a ≤ b))
    | .str a, .str b => some (!decide (b < a))
    | _, _ => none
  | .ge => match x, y with
    | .int a, .int b => some (decide (b ≤ a))
    | .str a, .str b => some (!decide (a < b))
    | _, _ => none
  | .is => match x, y with
    | .bl a, .bl b => some (decide (a = b))
    | x, .non => some (isNonD x)
    | _, _ => none
  | .isnot => match x, y with
    | .bl a, .bl b => some (!decide (a = b))
    | x, .non => some (!isNonD x)
    | _, _ => none
  | .isin => inD x y
  | .notin => match inD x y with
    | some b => some (!b)
    | none => none

def mulOk (a b : Int) : Bool := decide (a.natAbs.log2 + b.natAbs.log2 < 1000000)
def binD (op : Bop) (x y : D) : Option Vr := match op, x, y with
  | .add, .int a, .int b => some (.v (.int (a + b)))
  | .add, .str a, .str b => if a.length + b.length ≤ LIM then some (.v (.str (a ++ b))) else none
  | .add, .lst a, .lst b => if a.length + b.length ≤ LIM then some (.o (.lst (a ++ b))) else none
  | .sub, .int a, .int b => some (.v (.int (a - b)))
  | .mul, .int a, .int b => if mulOk a b then some (.v (.int (a * b))) else none
  | .mul, .str a, .int b => if 0 ≤ b ∧ b < 1000000 ∧ a.length * b.toNat ≤ LIM then some (.v (.str (List.replicate b.toNat a).flatten)) else none
  | .mul, .lst a, .int b => if -B63 ≤ b ∧ b < B63 ∧ a.length * b.toNat ≤ LIM then some (.o (.lst (List.replicate b.toNat a).flatten)) else none
  | .fdiv, .int a, .int b => if 0 < b ∧ b.natAbs.log2 < 9000 then some (.v (.int (a / b))) else none
  | .mod, .int a, .int b => if 0 < b then some (.v (.int (a % b))) else none
  | .pow, .int a, .int b => if 0 ≤ b ∧ b ≤ 100000 ∧ a.natAbs.log2 * b.toNat ≤ 100000 then some (.v (.int (a ^ b.toNat))) else none
  | _, _, _ => none

/-- Python's index -/
def ixN (n : Nat) (i : Int) : Option Nat := if 0 ≤ i then (if i < n then some i.toNat else none) else if -(n : Int) ≤ i then some (i + n).toNat else none
def subD (x y : D) : Option D := match x, y with
  | .scr ns, .int i => match ixN ns.length i with
    | some j => match ns[j]? with
      | some n => some (.int n)
      | none => none
    | none => none
  | .lst xs, .int i => match ixN xs.length i with
    | some j => xs[j]?
    | none => none
  | .tup xs, .int i => match ixN xs.length i with
    | some j => xs[j]?
    | none => none
  | .str l, .int i => match ixN l.length i with
    | some j => match l[j]? with
      | some c => some (.str [c])
      | none => none
    | none => none
  | _, _ => none
/-- a slice's bound -/
def sIx (n d : Nat) : Option Int → Nat
  | none => d
  | some v => if v < 0 then (v + (n : Int)).toNat else min v.toNat n
def cut {α : Type} (l : List α) (lo hi : Option Int) : List α := (l.drop (sIx l.length 0 lo)).take (sIx l.length l.length hi - sIx l.length 0 lo)
def bound (b : Bool) (d : D) : Option (Option Int) := if b then (match d with
  | .int i => some (some i)
  | _ => none) else some none
def slD (x : D) (lo hi : Option Int) : Option Vr := match x with
  | .lst xs => some (.o (.lst (cut xs lo hi)))
  | .scr ns => some (.o (.lst ((cut ns lo hi).map .int)))
  | .tup xs => if (cut xs lo hi).length < xs.length then some (.v (.tup (cut xs lo hi))) else none
  | .str l => some (.v (.str (cut l lo hi)))
  | _ => none
/-- x[::-1] -/
def revD (x st : D) : Option Vr := match st with
  | .int j => if j = -1 then (match x with
    | .lst xs => some (.o (.lst xs.reverse))
    | .str l => some (.v (.str l.reverse))
    | _ => none) else none
  | _ => none

/-! ### built-ins, methods -/
inductive Bi where | len | int | max2 | min2 | sum | list | tuple | dict | repr | isint | isbool | isstr | islist | istuple | isseq | isbox deriving DecidableEq
inductive Mt where | strip | join | bits | append | index deriving DecidableEq

mutual
def py : D → PyData
  | .non => .none
  | .bl b => .bool b
  | .int i => .int i
  | .str l => .str ⟨l.toArray⟩
  | .lst xs => .list (pys xs)
  | .tup xs => .tuple (pys xs)
  | .dic ks vs => .dict ((pys ks).zip (pys vs))
  | .fn _ => .none
  | .scr _ => .none
  | .exc _ _ => .none
def pys : List D → List PyData
  | [] => []
  | x :: xs => py x :: pys xs
end
def Dsum : List D → Int → Option Int
  | [], a => some a
  | .int i :: r, a => Dsum r (a + i)
  | _, _ => none
def stripD (cs l : List Nat) : List Nat := ((l.dropWhile fun c => cs.contains c).reverse.dropWhile fun c => cs.contains c).reverse
def strsOf : List D → Option (List (List Nat))
  | [] => some []
  | .str l :: r => match strsOf r with
    | some ls => some (l :: ls)
    | none => none
  | _ => none
def joinL (sep : List Nat) : List (List Nat) → List Nat
  | [] => []
  | [x] => x
  | x :: y :: r => x ++ sep ++ joinL sep (y :: r)
/-- dict of pairs: a key that comes again keeps its place -/
def putD (k v : D) : List D → List D → List D × List D
  | k' :: ks, v' :: vs => if eqD k' k then (k' :: ks, v :: vs) else match putD k v ks vs with
    | (a, b) => (k' :: a, v' :: b)
  | _, _ => ([k], [v])
def isKey : D → Bool
  | .int _ => true
  | .str _ => true
  | _ => false
def pairsD : List D → List D → List D → Option (List D × List D)
  | [], ks, vs => some (ks, vs)
  | .tup [k, v] :: r, ks, vs => if isKey k then match putD k v ks vs with
    | (a, b) => pairsD r a b else none
  | _, _, _ => none
def shownD (d : D) : List Nat := (PyData.shown (py d)).cps.toList
mutual
/-- can be shown: w: with lists and no dict, or with dicts and no list -/
def showD (w : Bool) : Nat → D → Bool
  | _, .non => true
  | _, .bl _ => true
  | _, .int i => decide (i.natAbs.log2 < 1920)
  | _, .str _ => true
  | 0, _ => false
  | n + 1, .lst xs => w && showDs w n xs
  | n + 1, .tup xs => showDs w n xs
  | n + 1, .dic ks vs => !w && (showDs w n ks && showDs w n vs)
  | _ + 1, _ => false
def showDs (w : Bool) : Nat → List D → Bool
  | _, [] => true
  | n, x :: xs => showD w n x && showDs w n xs
end
def biD (f : Bi) (xs : List D) : Option Vr := match f, xs with
  | .len, [.scr l] => some (.v (.int l.length))
  | .len, [.str l] => some (.v (.int l.length))
  | .len, [.lst l] => some (.v (.int l.length))
  | .len, [.tup l] => some (.v (.int l.length))
  | .len, [.dic l _] => some (.v (.int l.length))
  | .int, [.int i] => some (.v (.int i))
  | .int, [.bl b] => some (.v (.int (b2i b)))
  | .max2, [.int a, .int b] => some (.v (.int (if b > a then b else a)))
  | .min2, [.int a, .int b] => some (.v (.int (if b < a then b else a)))
  | .sum, [.lst l] => match Dsum l 0 with
    | some i => some (.v (.int i))
    | none => none
  | .list, [.lst l] => some (.o (.lst l))
  | .list, [.tup l] => some (.o (.lst l))
  | .list, [.str l] => some (.o (.lst (l.map fun c => .str [c])))
  | .tuple, [.lst l] => some (.v (.tup l))
  | .dict, [.lst l] => match pairsD l [] [] with
    | some (ks, vs) => if l.length ≤ LIM then some (.o (.dic ks vs)) else none
    | none => none
  | .repr, [d] => if (showD true DEP d || showD false DEP d) && decide ((shownD d).length ≤ LIM) then some (.v (.str (shownD d))) else none
  | .isint, [d] => match d with
    | .int _ => some (.v (.bl true))
    | .bl _ => some (.v (.bl true))
    | .fn _ => none
      | .exc _ _ => none
    | _ => some (.v (.bl false))
  | .isbool, [d] => match d with
    | .bl _ => some (.v (.bl true))
    | .fn _ => none
      | .exc _ _ => none
    | _ => some (.v (.bl false))
  | .isstr, [d] => match d with
    | .str _ => some (.v (.bl true))
    | .fn _ => none
      | .exc _ _ => none
    | _ => some (.v (.bl false))
  | .islist, [d] => match d with
    | .lst _ => some (.v (.bl true))
    | .scr _ => some (.v (.bl true))
    | .fn _ => none
      | .exc _ _ => none
    | _ => some (.v (.bl false))
  | .istuple, [d] => match d with
    | .tup _ => some (.v (.bl true))
    | .fn _ => none
      | .exc _ _ => none
    | _ => some (.v (.bl false))
  | .isseq, [d] => match d with
    | .lst _ => some (.v (.bl true))
    | .scr _ => some (.v (.bl true))
    | .tup _ => some (.v (.bl true))
    | .fn _ => none
      | .exc _ _ => none
    | _ => some (.v (.bl false))
  | .isbox, [d] => match d with
    | .lst _ => some (.v (.bl true))
    | .scr _ => some (.v (.bl true))
    | .tup _ => some (.v (.bl true))
    | .dic _ _ => some (.v (.bl true))
    | .fn _ => none
      | .exc _ _ => none
    | _ => some (.v (.bl false))
  | _, _ => none
/-- methods that change nothing -/
def mtD (m : Mt) (x : D) (xs : List D) : Option Vr := match m, x, xs with
  | .strip, .str l, [.str cs] => some (.v (.str (stripD cs l)))
  | .join, .str sep, [.lst ys] => match strsOf ys with
    | some ls => if (ls.map List.length).sum + ls.length * sep.length ≤ LIM then some (.v (.str (joinL sep ls))) else none
    | none => none
  | .index, .str l, [.str [c]] => if c ∈ l then some (.v (.int (l.idxOf c : Nat))) else none
  | .bits, .int i, [] => some (.v (.int (if i = 0 then 0 else (i.natAbs.log2 + 1 : Nat))))
  | _, _, _ => none

def mtOk : Mt → D → Bool
  | .strip, .str _ => true
  | .join, .str _ => true
  | .bits, .int _ => true
  | .index, .str _ => true
  | .append, .lst _ => true
  | _, _ => false
/-! ### the language -/
mutual
inductive E where
  | var (i : Nat) | lit (d : D)
  | bin (op : Bop) (a b : E) | cmp (op : Cop) (a b : E) | chain (o1 o2 : Cop) (a b c : E)
  | and (a b : E) | or (a b : E) | not (a : E) | ifx (t : T) (a b : E)
  | call (f : Nat) (pm : List Nat) (as ks : Es)
  | bi (f : Bi) (as : Es) | mth (m : Mt) (o : E) (as : Es)
  | sub (a b : E) | sl (bl bh : Bool) (a lo hi : E) | rev (a st : E)
  | lst (es : Es) | tup (es : Es) | dict0 | bad
  | lc (elt : E) (tg : List Nat) (it : Wk) (ts : Ts) (own : List Nat)
inductive Es where | nil | cons (e : E) (es : Es)
inductive T where | val (e : E) | and (a b : T) | or (a b : T) | not (a : T)
inductive Ts where | nil | cons (t : T) (ts : Ts)
/-- what is walked -/
inductive Wk where | seq (e : E) | rng1 (a : E) | rng2 (a b : E) | enum (a : E) | zip (a b : E) | back (a : E)
end
mutual
inductive S where
  | expr (e : E) | set (i : Nat) (e : E) | par (is : List Nat) (es : Es) | unp (is : List Nat) (e : E)
  | put (o i v : E) | ret (e : E) | iff (t : T) (a b : Ss) | for (tg : List Nat) (it : Wk) (body : Ss)
  | brk | cont | pass | raise (c : Nat) (e : E) | bad
inductive Ss where | nil | cons (s : S) (ss : Ss)
end

/-! ### the evaluator -/
abbrev Fns := Nat → List Sl → CR
def toRs (r : Option Vr) (ρ : En) : Rs Vr := match r with
  | some r => .ok r ρ
  | none => .err
def toRb (r : Option Bool) (ρ : En) : Rs Vr := match r with
  | some b => .ok (.v (.bl b)) ρ
  | none => .err
def op2 (ρ : En) (x y : Vr) (f : D → D → Rs Vr) : Rs Vr := match look ρ x, look ρ y with
  | some a, some b => f a b
  | _, _ => .err
def op1 (ρ : En) (x : Vr) (f : D → Rs α) : Rs α := match look ρ x with
  | some a => f a
  | none => .err
/-- a slot that is handed in twice is frozen -/
def frzDup : List Vr → En → En
  | [], ρ => ρ
  | .s i :: r, ρ => if r.any (fun x => match x with | .s j => i == j | _ => false) then (match ρ.get i with
      | some s => frzDup r (ρ.set i (some ⟨.fz, s.d⟩))
      | none => frzDup r ρ) else frzDup r ρ
  | _ :: r, ρ => frzDup r ρ
def argOf (ρ : En) : Vr → Option Sl
  | .v d => some ⟨.fz, d⟩
  | .o d => some ⟨.own, d⟩
  | .s i => ρ.get i
def argsOf (ρ : En) : List Vr → Option (List Sl)
  | [] => some []
  | r :: rs => match argOf ρ r, argsOf ρ rs with
    | some a, some l => some (a :: l)
    | _, _ => none
def outsTo : List Vr → List Sl → En → En
  | .s i :: r, o :: os, ρ => outsTo r os (ρ.set i (some o))
  | _ :: r, _ :: os, ρ => outsTo r os ρ
  | _, _, ρ => ρ
def callR (Φ : Fns) (f : Nat) (rs : List Vr) (ρ : En) : Rs Vr :=
  let ρ := frzDup rs ρ
  match argsOf ρ rs with
  | none => .err
  | some as => match Φ f as with
    | .ret own d outs => if outs.length = rs.length then .ok (if own then .o d else .v d) (outsTo rs outs ρ) else .err
    | .ex x outs => if outs.length = rs.length then .ex x (outsTo rs outs ρ) else .err
    | .err => .err
/-- the parameters' order -/
def pick {α : Type} : List Nat → List α → Option (List α)
  | [], _ => some []
  | i :: is, l => match l[i]?, pick is l with
    | some a, some r => some (a :: r)
    | _, _ => none
/-- a method: of a slot's list (append), or one that changes nothing -/
def mthR (m : Mt) (o : Vr) (rs : List Vr) (ρ : En) : Rs Vr := match m with
  | .append => match o, rs with
    | .s i, [r] => (keep ρ r).bind fun d ρ => match ρ.get i with
      | some ⟨.own, .lst xs⟩ => if xs.length < LIM then .ok (.v .non) (ρ.set i (some ⟨.own, .lst (xs ++ [d])⟩)) else .err
      | _ => .err
    | _, _ => .err
  | m => match look ρ o, lookAll ρ rs with
    | some x, some xs => toRs (mtD m x xs) ρ
    | _, _ => .err
def storeR (i : Nat) (r : Vr) (ρ : En) : Rs Unit := if i < ρ.length then match r with
  | .v d => .ok () (ρ.set i (some ⟨.fz, d⟩))
  | .o d => .ok () (ρ.set i (some ⟨.own, d⟩))
  | .s j => (keep ρ (.s j)).bind fun d ρ => .ok () (ρ.set i (some ⟨.fz, d⟩))
  else .err
def keepSl : List Vr → En → Rs (List Sl)
  | [], ρ => .ok [] ρ
  | r :: rs, ρ => (match r with
    | .v d => Rs.ok (⟨.fz, d⟩ : Sl) ρ
    | .o d => .ok ⟨.own, d⟩ ρ
    | .s j => (keep ρ (.s j)).bind fun d ρ => .ok ⟨.fz, d⟩ ρ).bind fun a ρ => (keepSl rs ρ).bind fun l ρ => .ok (a :: l) ρ
def setAll : List Nat → List Sl → En → Option En
  | [], [], ρ => some ρ
  | i :: is, s :: ss, ρ => if i < ρ.length then setAll is ss (ρ.set i (some s)) else none
  | _, _, _ => none
def items : D → Option (List D)
  | .scr ns => some (ns.map .int)
  | .lst xs => some xs
  | .tup xs => some xs
  | .str l => some (l.map fun c => .str [c])
  | _ => none
/-- a walk's item given to its targets -/
def assignD (tg : List Nat) (d : D) (ρ : En) : Option En := match tg with
  | [i] => if i < ρ.length then some (ρ.set i (some ⟨.fz, d⟩)) else none
  | tg => match d with
    | .tup ds => setAll tg (ds.map fun d => ⟨.fz, d⟩) ρ
    | _ => none
def wipeE (ρ : En) : List Nat → En
  | [] => ρ
  | v :: vs => (wipeE ρ vs).set v none
/-- the slots of ρ0 again -/
def backE (ρ0 ρ : En) : List Nat → En
  | [] => ρ
  | v :: vs => (backE ρ0 ρ vs).set v (match ρ0[v]? with
    | some s => s
    | none => none)
/-- nothing may be let out of a comprehension -/
def Rs.calm {α : Type} : Rs α → Rs α
  | .ex _ _ => .err
  | r => r
def lcGo (f : D → En → Rs (Option D)) : List D → En → Rs (List D)
  | [], ρ => .ok [] ρ
  | d :: ds, ρ => (f d ρ).calm.bind fun r ρ => (lcGo f ds ρ).bind fun rs ρ => .ok (match r with
    | some x => x :: rs
    | none => rs) ρ
/-- at one item of a walk -/
def withTg (tg : List Nat) (f : En → Rs Fl) : D → En → Rs Fl := fun d ρ => match assignD tg d ρ with
  | some ρ => f ρ
  | none => .err
def lcTg (tg own : List Nat) (t : En → Rs Bool) (e : En → Rs Vr) : D → En → Rs (Option D) := fun d ρ => match assignD tg d (wipeE ρ own) with
  | some ρ => (t ρ).bind fun b ρ => if b then (e ρ).bind fun x ρ => (keep ρ x).bind fun d ρ => .ok (some d) ρ else .ok none ρ
  | none => .err
def enumD (xs : List D) : List D := xs.mapIdx fun i d => .tup [.int (i : Nat), d]
def zipD (xs ys : List D) : List D := List.zipWith (fun a b => .tup [a, b]) xs ys
/-- a list's items -/
def lstOf : D → Option (List D)
  | .lst xs => some xs
  | .scr ns => some (ns.map .int)
  | _ => none
def enumOf : D → Option (List D)
  | .lst xs => some xs
  | .scr ns => some (ns.map .int)
  | .str l => some (l.map fun c => .str [c])
  | _ => none
def rngD (a b : Int) : List D := (List.range (b - a).toNat).map fun (k : Nat) => .int (a + k)

mutual
def evE (Φ : Fns) : E → En → Rs Vr
  | .var i, ρ => match ρ.get i with
    | some _ => .ok (.s i) ρ
    | none => .err
  | .lit d, ρ => .ok (.v d) ρ
  | .bin op a b, ρ => (evE Φ a ρ).bind fun x ρ => (evE Φ b ρ).bind fun y ρ => op2 ρ x y fun d e => toRs (binD op d e) ρ
  | .cmp op a b, ρ => (evE Φ a ρ).bind fun x ρ => (evE Φ b ρ).bind fun y ρ => op2 ρ x y fun d e => toRb (cmpD op d e) ρ
  | .chain o1 o2 a b c, ρ => (evE Φ a ρ).bind fun x ρ => (evE Φ b ρ).bind fun y ρ => op2 ρ x y fun d e => match cmpD o1 d e with
    | some true => (evE Φ c ρ).bind fun z ρ => op2 ρ y z fun d e => toRb (cmpD o2 d e) ρ
    | some false => .ok (.v (.bl false)) ρ
    | none => .err
  | .and a b, ρ => (evE Φ a ρ).bind fun x ρ => op1 ρ x fun d => match truth d with
    | some true => evE Φ b ρ
    | some false => .ok x ρ
    | none => .err
  | .or a b, ρ => (evE Φ a ρ).bind fun x ρ => op1 ρ x fun d => match truth d with
    | some true => .ok x ρ
    | some false => evE Φ b ρ
    | none => .err
  | .not a, ρ => (evE Φ a ρ).bind fun x ρ => op1 ρ x fun d => match truth d with
    | some b => .ok (.v (.bl (!b))) ρ
    | none => .err
  | .ifx t a b, ρ => (evT Φ t ρ).bind fun c ρ => if c then evE Φ a ρ else evE Φ b ρ
  | .call f pm as ks, ρ => (evEs Φ as ρ).bind fun rs ρ => (evEs Φ ks ρ).bind fun zs ρ => match pick pm (rs ++ zs) with
    | some rs => callR Φ f rs ρ
    | none => .err
  | .bi f as, ρ => (evEs Φ as ρ).bind fun rs ρ => match lookAll ρ rs with
    | some ds => toRs (biD f ds) ρ
    | none => .err
  | .mth m o as, ρ => (evE Φ o ρ).bind fun x ρ => op1 ρ x fun d => if mtOk m d then (evEs Φ as ρ).bind fun rs ρ => mthR m x rs ρ else .err
  | .sub a b, ρ => (evE Φ a ρ).bind fun x ρ => (evE Φ b ρ).bind fun y ρ => op2 ρ x y fun d e => match subD d e with
    | some r => .ok (.v r) ρ
    | none => .err
  | .sl bl bh a lo hi, ρ => (evE Φ a ρ).bind fun x ρ => (evE Φ lo ρ).bind fun y ρ => op1 ρ y fun l => match bound bl l with
    | none => .err
    | some l => (evE Φ hi ρ).bind fun z ρ => op1 ρ z fun h => match bound bh h with
      | none => .err
      | some h => op1 ρ x fun d => toRs (slD d l h) ρ
  | .rev a st, ρ => (evE Φ a ρ).bind fun x ρ => (evE Φ st ρ).bind fun y ρ => op2 ρ x y fun d e => match e with
    | .int _ => toRs (revD d e) ρ
    | _ => .err
  | .lst es, ρ => (evEs Φ es ρ).bind fun rs ρ => (keepAll rs ρ).bind fun ds ρ => if ds.length ≤ LIM then .ok (.o (.lst ds)) ρ else .err
  | .tup es, ρ => (evEs Φ es ρ).bind fun rs ρ => (keepAll rs ρ).bind fun ds ρ => if ds.length ≤ LIM then .ok (.v (.tup ds)) ρ else .err
  | .dict0, ρ => .ok (.o (.dic [] [])) ρ
  | .bad, _ => .err
  | .lc elt tg it ts own, ρ => (evI Φ it ρ).bind fun (rows, r) ρ1 =>
      (lcGo (lcTg tg own (evTs Φ ts) (evE Φ elt)) rows (wipeE (lockL ρ1 r) own)).bind fun ds ρ => if ds.length ≤ LIM then .ok (.o (.lst ds)) (unlockL ρ1 (backE (lockL ρ1 r) ρ own) r) else .err
def evEs (Φ : Fns) : Es → En → Rs (List Vr)
  | .nil, ρ => .ok [] ρ
  | .cons e es, ρ => (evE Φ e ρ).bind fun x ρ => (evEs Φ es ρ).bind fun xs ρ => .ok (x :: xs) ρ
def evT (Φ : Fns) : T → En → Rs Bool
  | .val e, ρ => (evE Φ e ρ).bind fun x ρ => op1 ρ x fun d => match truth d with
    | some b => .ok b ρ
    | none => .err
  | .and a b, ρ => (evT Φ a ρ).bind fun c ρ => if c then evT Φ b ρ else .ok false ρ
  | .or a b, ρ => (evT Φ a ρ).bind fun c ρ => if c then .ok true ρ else evT Φ b ρ
  | .not a, ρ => (evT Φ a ρ).bind fun c ρ => .ok (!c) ρ
def evTs (Φ : Fns) : Ts → En → Rs Bool
  | .nil, ρ => .ok true ρ
  | .cons t ts, ρ => (evT Φ t ρ).bind fun c ρ => if c then evTs Φ ts ρ else .ok false ρ
/-- the items, and what is walked -/
def evI (Φ : Fns) : Wk → En → Rs (List D × List Vr)
  | .seq e, ρ => (evE Φ e ρ).bind fun x ρ => op1 ρ x fun d => match items d with
    | some ds => .ok (ds, [x]) ρ
    | none => .err
  | .enum e, ρ => (evE Φ e ρ).bind fun x ρ => op1 ρ x fun d => match enumOf d with
    | some ds => .ok (enumD ds, [x]) ρ
    | none => .err
  | .zip a b, ρ => (evE Φ a ρ).bind fun x ρ => (evE Φ b ρ).bind fun y ρ => op1 ρ x fun d => op1 ρ y fun e => match lstOf d, lstOf e with
    | some ds, some es => .ok (zipD ds es, [x, y]) ρ
    | _, _ => .err
  | .back e, ρ => (evE Φ e ρ).bind fun x ρ => op1 ρ x fun d => match lstOf d with
    | some ds => .ok (ds.reverse, [x]) ρ
    | none => .err
  | .rng1 a, ρ => (evE Φ a ρ).bind fun x ρ => op1 ρ x fun d => match d with
    | .int j => if -B62 ≤ j ∧ j < B62 then .ok (rngD 0 j, []) ρ else .err
    | _ => .err
  | .rng2 a b, ρ => (evE Φ a ρ).bind fun x ρ => (evE Φ b ρ).bind fun y ρ => op1 ρ x fun d => op1 ρ y fun e => match d, e with
    | .int i, .int j => if -B62 ≤ i ∧ i < B62 ∧ -B62 ≤ j ∧ j < B62 then .ok (rngD i j, []) ρ else .err
    | _, _ => .err
end

def forGo (f : D → En → Rs Fl) : List D → En → Rs Fl
  | [], ρ => .ok .nx ρ
  | d :: ds, ρ => (f d ρ).bind fun c ρ => match c with
    | .nx => forGo f ds ρ
    | .ct => forGo f ds ρ
    | .br => .ok .nx ρ
    | .rt o d => .ok (.rt o d) ρ
mutual
def evS (Φ : Fns) (np : Nat) : S → En → Rs Fl
  | .expr e, ρ => (evE Φ e ρ).bind fun _ ρ => .ok .nx ρ
  | .set i e, ρ => (evE Φ e ρ).bind fun x ρ => (storeR i x ρ).bind fun _ ρ => .ok .nx ρ
  | .par is es, ρ => (evEs Φ es ρ).bind fun xs ρ => (keepSl xs ρ).bind fun ss ρ => match setAll is ss ρ with
    | some ρ => .ok .nx ρ
    | none => .err
  | .unp is e, ρ => (evE Φ e ρ).bind fun x ρ => op1 ρ x fun d => match d with
    | .tup ds => match setAll is (ds.map fun d => ⟨.fz, d⟩) ρ with
      | some ρ => .ok .nx ρ
      | none => .err
    | _ => .err
  | .put o i v, ρ => (evE Φ v ρ).bind fun z ρ => (evE Φ o ρ).bind fun x ρ => (evE Φ i ρ).bind fun y ρ => (keep ρ z).bind fun d ρ => op1 ρ y fun k => match x with
    | .s j => match ρ.get j, k with
      | some ⟨.own, .lst xs⟩, .int k => match ixN xs.length k with
        | some n => .ok .nx (ρ.set j (some ⟨.own, .lst (xs.set n d)⟩))
        | none => .err
      | _, _ => .err
    | _ => .err
  | .ret e, ρ => (evE Φ e ρ).bind fun x ρ => match x with
    | .v d => .ok (.rt false d) ρ
    | .o d => .ok (.rt true d) ρ
    | .s i => match ρ.get i with
      | some ⟨.own, d⟩ => if i < np then (keep ρ (.s i)).bind fun d ρ => .ok (.rt false d) ρ else .ok (.rt true d) ρ
      | _ => (keep ρ (.s i)).bind fun d ρ => .ok (.rt false d) ρ
  | .iff t a b, ρ => (evT Φ t ρ).bind fun c ρ => if c then evSs Φ np a ρ else evSs Φ np b ρ
  | .for tg it body, ρ => (evI Φ it ρ).bind fun (rows, r) ρ1 => (forGo (withTg tg (evSs Φ np body)) rows (lockL ρ1 r)).bind fun c ρ => .ok c (unlockL ρ1 ρ r)
  | .brk, ρ => .ok .br ρ
  | .cont, ρ => .ok .ct ρ
  | .pass, ρ => .ok .nx ρ
  | .bad, _ => .err
  | .raise c e, ρ => (evE Φ e ρ).bind fun x ρ => (keep ρ x).bind fun d ρ => .ex (.exc c d) ρ
def evSs (Φ : Fns) (np : Nat) : Ss → En → Rs Fl
  | .nil, ρ => .ok .nx ρ
  | .cons s ss, ρ => (evS Φ np s ρ).bind fun c ρ => match c with
    | .nx => evSs Φ np ss ρ
    | c => .ok c ρ
end

/-- a def: how many parameters, slots; the parameters that are set anew -/
structure Df where
  np : Nat
  ns : Nat
  reb : List Nat
  body : Ss
def allSome : List (Option Sl) → Option (List Sl)
  | [] => some []
  | some s :: r => match allSome r with
    | some l => some (s :: l)
    | none => none
  | none :: _ => none
def frzAt : List Nat → List Sl → List Sl
  | [], l => l
  | j :: js, l => match l[j]? with
    | some s => (frzAt js l).set j ⟨.fz, s.d⟩
    | none => frzAt js l
def backAt (l0 : List Sl) : List Nat → List Sl → List Sl
  | [], l => l
  | j :: js, l => match l0[j]? with
    | some s => (backAt l0 js l).set j s
    | none => backAt l0 js l
def runDf (Φ : Fns) (d : Df) (as : List Sl) : CR :=
  if as.length = d.np ∧ d.np ≤ d.ns then
    let as0 := frzAt d.reb as
    match evSs Φ d.np d.body (as0.map some ++ List.replicate (d.ns - d.np) none) with
    | .ok c ρ => match allSome (ρ.take d.np) with
      | some outs => if outs.length = d.np then match c with
        | .nx => .ret false .non (backAt as0 d.reb outs)
        | .rt o r => .ret o r (backAt as0 d.reb outs)
        | _ => .err
        else .err
      | none => .err
    | .ex x ρ => match allSome (ρ.take d.np) with
      | some outs => if outs.length = d.np then .ex x (backAt as0 d.reb outs) else .err
      | none => .err
    | .err => .err
  else .err
abbrev Tab := List (Nat × Df)
def Phi (Δ : Tab) : Nat → Fns
  | 0 => fun _ _ => .err
  | n + 1 => fun f as => match Δ.lookup f with
    | some d => runDf (Phi Δ n) d as
    | none => .err
end Ev

set_option Elab.async false
set_option linter.all false
set_option maxRecDepth 100000
set_option maxHeartbeats 1000000
/-! Ev1: how plain data lies in the abstract heap; what a step may change. Own work. -/
namespace Ev
open PySem PySem.Spec PyProof.Rows L2

abbrev St := L2.St
/-- what stands outside: the written part, where each def stands -/
structure Gi where
  K : PySem.W.Frag
  fa : Nat → Option Addr
  ca : Nat → Option Addr

def okL (l : List Nat) : Prop := l.length ≤ sizeLine ∧ ∀ c ∈ l, c < 0x110000
def keyD : Key → D
  | .inl i => .int i
  | .inr x => .str x.cps.toList
/-- the keys as they stand -/
def KsOf (kvs : List (Key × V)) (ks : List D) : Prop := ks = kvs.map (fun p => keyD p.1) ∧ ∀ l, D.str l ∈ ks → okL l
mutual
/-- v reads as d in the frozen heap -/
inductive RD (g : Gi) (F : Hp) : V → D → Prop
  | non : RD g F .non .non
  | bl (b : Bool) : RD g F (.bl b) (.bl b)
  | int (i : Int) : RD g F (.int i) (.int i)
  | str (l : List Nat) : okL l → RD g F (.str ⟨l.toArray⟩) (.str l)
  | tup {a xs ds} : SqT g.K F a xs → RDs g F xs ds → RD g F (.ref a) (.tup ds)
  | lst {a xs ds} : F a = some (.lst xs) → RDs g F xs ds → RD g F (.ref a) (.lst ds)
  | scr {a ns} : SqL g.K F a (ns.map .int) → RD g F (.ref a) (.scr ns)
  | dic {a kvs ks vs} : F a = some (.dK kvs) → (kvs.map (·.1)).Nodup → KsOf kvs ks → RDs g F (kvs.map (·.2)) vs → RD g F (.ref a) (.dic ks vs)
  | fn {a n} : g.fa n = some a → RD g F (.ref a) (.fn n)
inductive RDs (g : Gi) (F : Hp) : List V → List D → Prop
  | nil : RDs g F [] []
  | cons {v vs d ds} : RD g F v d → RDs g F vs ds → RDs g F (v :: vs) (d :: ds)
end
theorem Same.seqT {K : PySem.W.Frag} {H H' : Hp} {a : Addr} {xs : List V} (e : Same H H') (h : SqT K H a xs) : SqT K H' a xs := by
  rcases h with (h | ⟨o, h⟩) | h
  · exact .inl (.inl (e _ _ h))
  · exact .inl (.inr ⟨o, e _ _ h⟩)
  · exact .inr h
section
variable {g : Gi} {F F' : Hp}
mutual
theorem RD.mono (s : Same F F') : ∀ {v : V} {d : D}, RD g F v d → RD g F' v d
  | _, _, .non => .non
  | _, _, .bl b => .bl b
  | _, _, .int i => .int i
  | _, _, .str l h => .str l h
  | _, _, .tup h r => .tup (Same.seqT s h) (RDs.mono s r)
  | _, _, .lst h r => .lst (s _ _ h) (RDs.mono s r)
  | _, _, .scr h => .scr (Same.seq s h)
  | _, _, .dic h n e r => .dic (s _ _ h) n e (RDs.mono s r)
  | _, _, .fn h => .fn h
theorem RDs.mono (s : Same F F') : ∀ {vs : List V} {ds : List D}, RDs g F vs ds → RDs g F' vs ds
  | _, _, .nil => .nil
  | _, _, .cons h r => .cons (RD.mono s h) (RDs.mono s r)
end
theorem RDs.length : ∀ {vs : List V} {ds : List D}, RDs g F vs ds → vs.length = ds.length
  | _, _, .nil => rfl
  | _, _, .cons _ r => congrArg (· + 1) r.length
theorem RDs.append : ∀ {vs : List V} {ds : List D} {ws : List V} {es : List D}, RDs g F vs ds → RDs g F ws es → RDs g F (vs ++ ws) (ds ++ es)
  | _, _, _, _, .nil, s => s
  | _, _, _, _, .cons h r, s => .cons h (r.append s)
theorem RDs.get : ∀ {vs : List V} {ds : List D} {i : Nat} {d : D}, RDs g F vs ds → ds[i]? = some d → ∃ v, vs[i]? = some v ∧ RD g F v d
  | _, _, _, _, .nil, e => by simp at e
  | _, _, 0, _, .cons h _, e => by simp at e; subst e; exact ⟨_, rfl, h⟩
  | _, _, i + 1, d, .cons _ r, e => by
    obtain ⟨v, h1, h2⟩ := RDs.get (i := i) (d := d) r (by simpa using e)
    exact ⟨v, by simpa using h1, h2⟩
theorem RDs.getV : ∀ {vs : List V} {ds : List D} {i : Nat} {v : V}, RDs g F vs ds → vs[i]? = some v → ∃ d, ds[i]? = some d ∧ RD g F v d
  | _, _, _, _, .nil, e => by simp at e
  | _, _, 0, _, .cons h _, e => by simp at e; subst e; exact ⟨_, rfl, h⟩
  | _, _, i + 1, d, .cons _ r, e => by
    obtain ⟨v, h1, h2⟩ := RDs.getV (i := i) (v := d) r (by simpa using e)
    exact ⟨v, by simpa using h1, h2⟩
theorem RDs.set {v : V} {d : D} (h : RD g F v d) : ∀ {vs : List V} {ds : List D} (i : Nat), RDs g F vs ds → RDs g F (vs.set i v) (ds.set i d)
  | _, _, _, .nil => .nil
  | _, _, 0, .cons _ r => .cons h r
  | _, _, i + 1, .cons q r => .cons q (RDs.set h i r)
theorem RDs.drop : ∀ {vs : List V} {ds : List D} (n : Nat), RDs g F vs ds → RDs g F (vs.drop n) (ds.drop n)
  | _, _, 0, r => r
  | _, _, _ + 1, .nil => .nil
  | _, _, n + 1, .cons _ r => RDs.drop n r
theorem RDs.take : ∀ {vs : List V} {ds : List D} (n : Nat), RDs g F vs ds → RDs g F (vs.take n) (ds.take n)
  | _, _, 0, _ => .nil
  | _, _, _ + 1, .nil => .nil
  | _, _, n + 1, .cons h r => .cons h (RDs.take n r)
theorem RDs.reverse : ∀ {vs : List V} {ds : List D}, RDs g F vs ds → RDs g F vs.reverse ds.reverse
  | _, _, .nil => .nil
  | _, _, .cons h r => by
    rw [List.reverse_cons, List.reverse_cons]
    exact r.reverse.append (.cons h .nil)
theorem RDs.rep {vs : List V} {ds : List D} (h : RDs g F vs ds) : ∀ k : Nat, RDs g F (List.replicate k vs).flatten (List.replicate k ds).flatten
  | 0 => .nil
  | k + 1 => by
    rw [List.replicate_succ, List.replicate_succ, List.flatten_cons, List.flatten_cons]
    exact h.append (h.rep k)
theorem RDs.ints : ∀ {vs : List V} {ns : List Int}, RDs g F vs (ns.map .int) → vs = ns.map .int
  | _, [], .nil => rfl
  | _, _ :: _, .cons (.int _) r => by rw [r.ints]; rfl
end

/-- a thing of one's own at a: its parts are frozen -/
def Cell (g : Gi) (H F : Hp) (a : Addr) (d : D) : Prop :=
  (∃ xs ds, d = .lst ds ∧ H a = some (.lst xs) ∧ RDs g F xs ds) ∨ (∃ kvs ks vs, d = .dic ks vs ∧ H a = some (.dK kvs) ∧ (kvs.map (·.1)).Nodup ∧ KsOf kvs ks ∧ RDs g F (kvs.map (·.2)) vs)
theorem Cell.there {g : Gi} {H F : Hp} {a : Addr} {d : D} (c : Cell g H F a d) : H a ≠ none := by
  rcases c with ⟨_, _, _, e, _⟩ | ⟨_, _, _, _, e, _⟩ <;> rw [e] <;> exact fun h => nomatch h
theorem Cell.mono {g : Gi} {H H' F F' : Hp} {a : Addr} {d : D} (c : Cell g H F a d) (s : Same F F') (e : H' a = H a) : Cell g H' F' a d := by
  rcases c with ⟨xs, ds, rfl, h, r⟩ | ⟨kvs, ks, vs, rfl, h, n, k, r⟩
  · exact .inl ⟨xs, ds, rfl, e.trans h, r.mono s⟩
  · exact .inr ⟨kvs, ks, vs, rfl, e.trans h, n, k, r.mono s⟩
/-- frozen -/
theorem Cell.frozen {g : Gi} {H F : Hp} {a : Addr} {d : D} (c : Cell g H F a d) (n : F a = none) : ∃ o, H a = some o ∧ Same F (upd F a o) ∧ RD g (upd F a o) (.ref a) d := by
  have s : ∀ o, Same F (upd F a o) := fun o b u h => by rw [upd_ne (ne_of_none h n)]; exact h
  rcases c with ⟨xs, ds, rfl, h, r⟩ | ⟨kvs, ks, vs, rfl, h, nd, k, r⟩
  · exact ⟨_, h, s _, .lst upd_same (r.mono (s _))⟩
  · exact ⟨_, h, s _, .dic upd_same nd k (r.mono (s _))⟩

def SlRel (g : Gi) (H F : Hp) (s : Sl) (v : V) : Prop := match s.m with
  | .fz => RD g F v s.d
  | _ => ∃ a, v = .ref a ∧ F a = none ∧ Cell g H F a s.d
/-- the slots' plain data, in the heap -/
structure Sim (g : Gi) (ρ : En) (σ : St) (H F : Hp) : Prop where
  len : ρ.length = σ.length
  sub : Same F H
  val : ∀ i s, ρ.get i = some s → ∃ v, σ[i]? = some (some v) ∧ SlRel g H F s v
  sep : ∀ i j s t a, ρ.get i = some s → ρ.get j = some t → s.m ≠ .fz → t.m ≠ .fz → σ[i]? = some (some (.ref a)) → σ[j]? = some (some (.ref a)) → i = j
/-- may be changed; may be frozen -/
def Own (ρ : En) (σ : St) (a : Addr) : Prop := ∃ i s, ρ.get i = some s ∧ s.m = .own ∧ σ[i]? = some (some (.ref a))
def OwnL (ρ : En) (σ : St) (a : Addr) : Prop := ∃ i s, ρ.get i = some s ∧ s.m ≠ .fz ∧ σ[i]? = some (some (.ref a))
theorem Own.l {ρ : En} {σ : St} {a : Addr} (h : Own ρ σ a) : OwnL ρ σ a := by
  obtain ⟨i, s, h1, h2, h3⟩ := h
  exact ⟨i, s, h1, by rw [h2]; decide, h3⟩
theorem Sim.ownL {g : Gi} {ρ : En} {σ : St} {H F : Hp} (S : Sim g ρ σ H F) {a : Addr} (h : OwnL ρ σ a) : H a ≠ none ∧ F a = none := by
  obtain ⟨i, s, h1, h2, h3⟩ := h
  obtain ⟨v, e, r⟩ := S.val i s h1
  rw [h3] at e
  cases e
  unfold SlRel at r
  cases hm : s.m with
  | fz => exact absurd hm h2
  | lk =>
    rw [hm] at r
    obtain ⟨b, q, n, c⟩ := r
    cases q
    exact ⟨c.there, n⟩
  | own =>
    rw [hm] at r
    obtain ⟨b, q, n, c⟩ := r
    cases q
    exact ⟨c.there, n⟩
/-- slot j owns what stands at a -/
def OwnAt (ρ : En) (σ : St) (j : Nat) (a : Addr) : Prop := ∃ s, ρ.get j = some s ∧ s.m ≠ .fz ∧ σ[j]? = some (some (.ref a))
def OwnM (ρ : En) (σ : St) (j : Nat) (a : Addr) : Prop := ∃ s, ρ.get j = some s ∧ s.m = .own ∧ σ[j]? = some (some (.ref a))
/-- what a slot owns it owned before, or it is new -/
def Pv (ρ : En) (σ : St) (H : Hp) (ρ' : En) (σ' : St) : Prop := (∀ j a, OwnM ρ' σ' j a → OwnM ρ σ j a ∨ H a = none) ∧ ∀ j a, OwnAt ρ' σ' j a → OwnAt ρ σ j a ∨ H a = none
theorem Pv.refl {ρ : En} {σ : St} {H : Hp} : Pv ρ σ H ρ σ := ⟨fun _ _ z => .inl z, fun _ _ z => .inl z⟩
theorem Pv.trans {ρ ρ1 ρ2 : En} {σ σ1 σ2 : St} {H H1 : Hp} (a : Pv ρ σ H ρ1 σ1) (b : Pv ρ1 σ1 H1 ρ2 σ2) (l : ∀ b, H b ≠ none → H1 b ≠ none) : Pv ρ σ H ρ2 σ2 :=
  ⟨fun j c z => (b.1 j c z).elim (a.1 j c) fun z => .inr (Classical.byContradiction fun q => l c q z), fun j c z => (b.2 j c z).elim (a.2 j c) fun z => .inr (Classical.byContradiction fun q => l c q z)⟩
/-- from one state to a later one -/
structure Stp (ρ : En) (σ : St) (H F : Hp) (ρ' : En) (σ' : St) (H' F' : Hp) : Prop where
  fzs : Same F F'
  fzn : ∀ b, F' b ≠ none → F b ≠ none ∨ H b = none ∨ OwnL ρ σ b
  mod : ∀ b o, H b = some o → ¬ Own ρ σ b → H' b = some o
  live : ∀ b, H b ≠ none → H' b ≠ none
  own : ∀ b, Own ρ' σ' b → Own ρ σ b ∨ H b = none
  ownl : ∀ b, OwnL ρ' σ' b → OwnL ρ σ b ∨ H b = none
section
variable {ρ ρ' ρ1 ρ2 : En} {σ σ' σ1 σ2 : St} {H H' H1 H2 F F' F1 F2 : Hp}
theorem Stp.refl : Stp ρ σ H F ρ σ H F := ⟨Same.refl F, fun _ h => .inl h, fun _ _ h _ => h, fun _ h => h, fun _ h => .inl h, fun _ h => .inl h⟩
theorem Stp.trans (a : Stp ρ σ H F ρ1 σ1 H1 F1) (b : Stp ρ1 σ1 H1 F1 ρ2 σ2 H2 F2) : Stp ρ σ H F ρ2 σ2 H2 F2 where
  fzs := a.fzs.trans b.fzs
  fzn := fun c h => by
    rcases b.fzn c h with h | h | h
    · exact a.fzn c h
    · exact .inr (.inl (Classical.byContradiction fun q => a.live c q h))
    · rcases a.ownl c h with h | h
      · exact .inr (.inr h)
      · exact .inr (.inl h)
  mod := fun c o h n => by
    have h1 := a.mod c o h n
    refine b.mod c o h1 fun q => ?_
    rcases a.own c q with z | z
    · exact n z
    · rw [z] at h; cases h
  live := fun c h => b.live c (a.live c h)
  own := fun c h => by
    rcases b.own c h with h | h
    · exact a.own c h
    · exact .inr (Classical.byContradiction fun q => a.live c q h)
  ownl := fun c h => by
    rcases b.ownl c h with h | h
    · exact a.ownl c h
    · exact .inr (Classical.byContradiction fun q => a.live c q h)
end

/-- what an expression hands on, in the heap; H0: the heap ahead of it -/
def VrRel (g : Gi) (ρ : En) (σ : St) (H F H0 : Hp) (v : V) : Vr → Prop
  | .v d => RD g F v d
  | .o d => ∃ a, v = .ref a ∧ H0 a = none ∧ F a = none ∧ Cell g H F a d ∧ ¬ OwnL ρ σ a
  | .s i => σ[i]? = some (some v) ∧ (ρ.get i).isSome = true
section
variable {g : Gi} {ρ ρ' ρ1 ρ2 : En} {σ σ' σ1 σ2 : St} {H H' H0 H1 H2 F F' F1 F2 : Hp} {v : V} {r : Vr}
/-- a value held while something else runs; the slots stay set -/
theorem VrRel.keep (S : Sim g ρ σ H F) (h : VrRel g ρ σ H F H0 v r) (st : Stp ρ σ H F ρ' σ H' F') (hs : ∀ i, (ρ.get i).isSome = true → (ρ'.get i).isSome = true) : VrRel g ρ' σ H' F' H0 v r := by
  cases r with
  | v d => exact RD.mono st.fzs h
  | o d =>
    obtain ⟨a, rfl, n0, n, c, no⟩ := h
    obtain ⟨o, e⟩ := Option.ne_none_iff_exists'.mp c.there
    have e' := st.mod a o e fun z => no z.l
    have nf : F' a = none := by
      cases q : F' a with
      | none => rfl
      | some u =>
        rcases st.fzn a (by rw [q]; exact fun z => nomatch z) with z | z | z
        · exact absurd n z
        · exact absurd z c.there
        · exact absurd z no
    refine ⟨a, rfl, n0, nf, c.mono st.fzs (e'.trans e.symm), fun z => ?_⟩
    rcases st.ownl a z with z | z
    · exact no z
    · exact c.there z
  | s i => exact ⟨h.1, hs i h.2⟩
/-- .. seen from an earlier heap -/
theorem VrRel.before (h : VrRel g ρ σ H F H1 v r) (l : ∀ b, H0 b ≠ none → H1 b ≠ none) : VrRel g ρ σ H F H0 v r := by
  cases r with
  | v d => exact h
  | o d =>
    obtain ⟨a, e, n0, z⟩ := h
    exact ⟨a, e, Classical.byContradiction fun q => l a q n0, z⟩
  | s i => exact h
end

/-! ### reading what is handed on -/
section
variable {g : Gi} {ρ : En} {σ : St} {H F H0 : Hp} {v : V} {r : Vr}
/-- v reads as d in H (its own place may be of one's own) -/
def RdH (g : Gi) (H F : Hp) (v : V) (d : D) : Prop := RD g F v d ∨ ∃ a, v = .ref a ∧ Cell g H F a d
theorem VrRel.rd (S : Sim g ρ σ H F) (h : VrRel g ρ σ H F H0 v r) {d : D} (l : look ρ r = some d) : RdH g H F v d := by
  cases r with
  | v e => cases l; exact .inl h
  | o e =>
    cases l
    obtain ⟨a, e1, _, _, c, _⟩ := h
    exact .inr ⟨a, e1, c⟩
  | s i =>
    obtain ⟨h1, h2⟩ := h
    obtain ⟨s, hs⟩ := Option.isSome_iff_exists.mp h2
    have l' : s.d = d := by
      unfold look at l
      simp only [hs] at l
      exact Option.some.inj l
    obtain ⟨w, e, q⟩ := S.val i s hs
    rw [h1] at e
    cases e
    unfold SlRel at q
    cases hm : s.m with
    | fz => rw [hm] at q; rw [← l']; exact .inl q
    | lk =>
      rw [hm] at q
      obtain ⟨a, e, _, c⟩ := q
      rw [← l']; exact .inr ⟨a, e, c⟩
    | own =>
      rw [hm] at q
      obtain ⟨a, e, _, c⟩ := q
      rw [← l']; exact .inr ⟨a, e, c⟩
theorem RdH.int (h : RdH g H F v (.int i)) : v = .int i := by
  rcases h with h | ⟨a, _, c⟩
  · cases h; rfl
  · rcases c with ⟨_, _, e, _⟩ | ⟨_, _, _, e, _⟩ <;> cases e
theorem RdH.bl (h : RdH g H F v (.bl b)) : v = .bl b := by
  rcases h with h | ⟨a, _, c⟩
  · cases h; rfl
  · rcases c with ⟨_, _, e, _⟩ | ⟨_, _, _, e, _⟩ <;> cases e
theorem RdH.non (h : RdH g H F v .non) : v = .non := by
  rcases h with h | ⟨a, _, c⟩
  · cases h; rfl
  · rcases c with ⟨_, _, e, _⟩ | ⟨_, _, _, e, _⟩ <;> cases e
theorem RdH.str {l : List Nat} (h : RdH g H F v (.str l)) : v = .str ⟨l.toArray⟩ ∧ okL l := by
  rcases h with h | ⟨a, _, c⟩
  · cases h with
    | str _ h => exact ⟨rfl, h⟩
  · rcases c with ⟨_, _, e, _⟩ | ⟨_, _, _, e, _⟩ <;> cases e
theorem RdH.tup {ds : List D} (S : Same F H) (h : RdH g H F v (.tup ds)) : ∃ a xs, v = .ref a ∧ SqT g.K H a xs ∧ RDs g F xs ds := by
  rcases h with h | ⟨a, _, c⟩
  · cases h with
    | tup h r => exact ⟨_, _, rfl, Same.seqT S h, r⟩
  · rcases c with ⟨_, _, e, _⟩ | ⟨_, _, _, e, _⟩ <;> cases e
theorem RdH.lst {ds : List D} (S : Same F H) (h : RdH g H F v (.lst ds)) : ∃ a xs, v = .ref a ∧ H a = some (.lst xs) ∧ RDs g F xs ds := by
  rcases h with h | ⟨a, rfl, c⟩
  · cases h with
    | lst h r => exact ⟨_, _, rfl, S _ _ h, r⟩
  · rcases c with ⟨xs, ds', e, h, r⟩ | ⟨_, _, _, e, _⟩
    · cases e; exact ⟨a, xs, rfl, h, r⟩
    · cases e
theorem RdH.scr {ns : List Int} (S : Same F H) (h : RdH g H F v (.scr ns)) : ∃ a, v = .ref a ∧ SqL g.K H a (ns.map .int) := by
  rcases h with h | ⟨a, _, c⟩
  · cases h with
    | scr h => exact ⟨_, rfl, Same.seq S h⟩
  · rcases c with ⟨_, _, e, _⟩ | ⟨_, _, _, e, _⟩ <;> cases e
theorem RdH.dic {ks vs : List D} (S : Same F H) (h : RdH g H F v (.dic ks vs)) : ∃ a kvs, v = .ref a ∧ H a = some (.dK kvs) ∧ (kvs.map (·.1)).Nodup ∧ KsOf kvs ks ∧ RDs g F (kvs.map (·.2)) vs := by
  rcases h with h | ⟨a, rfl, c⟩
  · cases h with
    | dic h n e r => exact ⟨_, _, rfl, S _ _ h, n, e, r⟩
  · rcases c with ⟨_, _, e, _⟩ | ⟨kvs, ks', vs', e, h, n, k, r⟩
    · cases e
    · cases e; exact ⟨a, kvs, rfl, h, n, k, r⟩
end

/-! ### slots -/
section
variable {ρ : En} {i j : Nat} {s : Sl}
theorem get_set_same (h : i < ρ.length) : En.get (ρ.set i (some s)) i = some s := by
  unfold En.get
  rw [List.getElem?_set_self h]
theorem get_set_ne (h : i ≠ j) {x : Option Sl} : En.get (ρ.set i x) j = En.get ρ j := by
  unfold En.get
  rw [List.getElem?_set_ne h]
theorem get_lt (h : ρ.get i = some s) : i < ρ.length := by
  unfold En.get at h
  by_cases hi : i < ρ.length
  · exact hi
  · rw [List.getElem?_eq_none (by omega)] at h; cases h
theorem get_set_none : En.get (ρ.set i none) i = none := by
  unfold En.get
  by_cases h : i < ρ.length
  · rw [List.getElem?_set_self h]
  · rw [List.getElem?_eq_none (by simpa using h)]
theorem get_set {x : Sl} (hi : i < ρ.length) : En.get (ρ.set i (some x)) j = if i = j then some x else En.get ρ j := by
  by_cases h : i = j
  · subst h; rw [if_pos rfl, get_set_same hi]
  · rw [if_neg h, get_set_ne h]
end
section
variable {g : Gi} {ρ ρ' : En} {σ : St} {H F H0 : Hp} {v : V} {r : Vr} {d : D}
/-- a slot frozen -/
theorem Sim.freeze (S : Sim g ρ σ H F) {i : Nat} {s : Sl} (h : ρ.get i = some s) :
    ∃ F', Sim g (ρ.set i (some ⟨.fz, s.d⟩)) σ H F' ∧ Stp ρ σ H F (ρ.set i (some ⟨.fz, s.d⟩)) σ H F' ∧ (∀ v, σ[i]? = some (some v) → RD g F' v s.d) ∧ Pv ρ σ H (ρ.set i (some ⟨.fz, s.d⟩)) σ := by
  have hi := get_lt h
  obtain ⟨v, e, r⟩ := S.val i s h
  have ownl : ∀ b, OwnL (ρ.set i (some ⟨.fz, s.d⟩)) σ b → OwnL ρ σ b := fun b ⟨j, t, h1, h2, h3⟩ => by
    rw [get_set hi] at h1
    split at h1
    · cases h1; exact absurd rfl h2
    · exact ⟨j, t, h1, h2, h3⟩
  have own : ∀ b, Own (ρ.set i (some ⟨.fz, s.d⟩)) σ b → Own ρ σ b := fun b ⟨j, t, h1, h2, h3⟩ => by
    rw [get_set hi] at h1
    split at h1
    · cases h1; cases h2
    · exact ⟨j, t, h1, h2, h3⟩
  have pv : Pv ρ σ H (ρ.set i (some ⟨.fz, s.d⟩)) σ := ⟨fun j a ⟨t, h1, h2, h3⟩ => by
    rw [get_set hi] at h1
    split at h1
    · cases h1; cases h2
    · exact .inl ⟨t, h1, h2, h3⟩, fun j a ⟨t, h1, h2, h3⟩ => by
    rw [get_set hi] at h1
    split at h1
    · cases h1; exact absurd rfl h2
    · exact .inl ⟨t, h1, h2, h3⟩⟩
  have len : (ρ.set i (some ⟨.fz, s.d⟩)).length = σ.length := by rw [List.length_set]; exact S.len
  have sep : ∀ j k t u a, En.get (ρ.set i (some ⟨.fz, s.d⟩)) j = some t → En.get (ρ.set i (some ⟨.fz, s.d⟩)) k = some u → t.m ≠ .fz → u.m ≠ .fz → σ[j]? = some (some (.ref a)) → σ[k]? = some (some (.ref a)) → j = k := fun j k t u a h1 h2 m1 m2 => by
    rw [get_set hi] at h1 h2
    split at h1
    · cases h1; exact absurd rfl m1
    · split at h2
      · cases h2; exact absurd rfl m2
      · exact S.sep j k t u a h1 h2 m1 m2
  by_cases hm : s.m = .fz
  · have r' : RD g F v s.d := by unfold SlRel at r; rw [hm] at r; exact r
    refine ⟨F, ⟨len, S.sub, fun j t hj => ?_, sep⟩, ⟨Same.refl F, fun _ z => .inl z, fun _ _ z _ => z, fun _ z => z, fun b z => .inl (own b z), fun b z => .inl (ownl b z)⟩, fun w hw => by rw [e] at hw; cases hw; exact r', pv⟩
    rw [get_set hi] at hj
    split at hj
    · rename_i q
      subst q
      cases hj
      exact ⟨v, e, r'⟩
    · exact S.val j t hj
  · obtain ⟨a, rfl, n, c⟩ : ∃ a, v = .ref a ∧ F a = none ∧ Cell g H F a s.d := by
      unfold SlRel at r
      cases q : s.m with
      | fz => exact absurd q hm
      | lk => rw [q] at r; exact r
      | own => rw [q] at r; exact r
    obtain ⟨o, ho, sm, rd⟩ := c.frozen n
    refine ⟨upd F a o, ⟨len, fun b u z => ?_, fun j t hj => ?_, sep⟩, ⟨sm, fun b z => ?_, fun _ _ z _ => z, fun _ z => z, fun b z => .inl (own b z), fun b z => .inl (ownl b z)⟩, fun w hw => by rw [e] at hw; cases hw; exact rd, pv⟩
    · by_cases hb : b = a
      · subst hb; rw [upd_same] at z; cases z; exact ho
      · rw [upd_ne hb] at z; exact S.sub b u z
    · rw [get_set hi] at hj
      split at hj
      · rename_i q
        subst q
        cases hj
        exact ⟨_, e, rd⟩
      · rename_i q
        obtain ⟨w, e2, r2⟩ := S.val j t hj
        refine ⟨w, e2, ?_⟩
        unfold SlRel at r2 ⊢
        cases hq : t.m with
        | fz => rw [hq] at r2; exact r2.mono sm
        | lk =>
          rw [hq] at r2
          obtain ⟨b, rfl, nb, cb⟩ := r2
          have ne : b ≠ a := fun z => q (S.sep i j s t a h hj hm (by rw [hq]; decide) e (by rw [← z]; exact e2))
          exact ⟨b, rfl, by rw [upd_ne ne]; exact nb, cb.mono sm rfl⟩
        | own =>
          rw [hq] at r2
          obtain ⟨b, rfl, nb, cb⟩ := r2
          have ne : b ≠ a := fun z => q (S.sep i j s t a h hj hm (by rw [hq]; decide) e (by rw [← z]; exact e2))
          exact ⟨b, rfl, by rw [upd_ne ne]; exact nb, cb.mono sm rfl⟩
    · by_cases hb : b = a
      · subst hb; exact .inr (.inr ⟨i, s, h, hm, e⟩)
      · rw [upd_ne hb] at z; exact .inl z
theorem keep_s (ρ : En) (i : Nat) : keep ρ (.s i) = (match ρ.get i with
    | some s => .ok s.d (ρ.set i (some ⟨.fz, s.d⟩))
    | none => .err) := rfl
theorem keep_some (h : keep ρ r = .ok d ρ') : ∀ i, (ρ.get i).isSome = true → (ρ'.get i).isSome = true := by
  cases r with
  | v e => cases h; exact fun _ h => h
  | o e => cases h; exact fun _ h => h
  | s j =>
    rw [keep_s] at h
    cases q : ρ.get j with
    | none => rw [q] at h; cases h
    | some s =>
      rw [q] at h
      cases h
      intro i hi
      rw [get_set (get_lt q)]
      split
      · rfl
      · exact hi
/-- what is handed on, kept elsewhere -/
theorem Sim.keep (S : Sim g ρ σ H F) (h : VrRel g ρ σ H F H0 v r) (k : keep ρ r = .ok d ρ') : ∃ F', Sim g ρ' σ H F' ∧ RD g F' v d ∧ (∀ b, F' b ≠ none → F b ≠ none ∨ (∃ e, r = .o e ∧ v = .ref b) ∨ OwnL ρ σ b) ∧
    Same F F' ∧ (∀ b, Own ρ' σ b → Own ρ σ b) ∧ (∀ b, OwnL ρ' σ b → OwnL ρ σ b) ∧ Pv ρ σ H ρ' σ := by
  cases r with
  | v e => cases k; exact ⟨F, S, h, fun _ z => .inl z, Same.refl F, fun _ z => z, fun _ z => z, Pv.refl⟩
  | o e =>
    cases k
    obtain ⟨a, rfl, n0, n, c, no⟩ := h
    obtain ⟨o, ho, sm, rd⟩ := c.frozen n
    refine ⟨upd F a o, ⟨S.len, fun b u z => ?_, fun j t hj => ?_, S.sep⟩, rd, fun b z => ?_, sm, fun _ z => z, fun _ z => z, Pv.refl⟩
    · by_cases hb : b = a
      · subst hb; rw [upd_same] at z; cases z; exact ho
      · rw [upd_ne hb] at z; exact S.sub b u z
    · obtain ⟨w, e2, r2⟩ := S.val j t hj
      refine ⟨w, e2, ?_⟩
      unfold SlRel at r2 ⊢
      cases hq : t.m with
      | fz => rw [hq] at r2; exact r2.mono sm
      | lk =>
        rw [hq] at r2
        obtain ⟨b, rfl, nb, cb⟩ := r2
        have ne : b ≠ a := fun z => no ⟨j, t, hj, by rw [hq]; decide, by rw [← z]; exact e2⟩
        exact ⟨b, rfl, by rw [upd_ne ne]; exact nb, cb.mono sm rfl⟩
      | own =>
        rw [hq] at r2
        obtain ⟨b, rfl, nb, cb⟩ := r2
        have ne : b ≠ a := fun z => no ⟨j, t, hj, by rw [hq]; decide, by rw [← z]; exact e2⟩
        exact ⟨b, rfl, by rw [upd_ne ne]; exact nb, cb.mono sm rfl⟩
    · by_cases hb : b = a
      · subst hb; exact .inr (.inl ⟨_, rfl, rfl⟩)
      · rw [upd_ne hb] at z; exact .inl z
  | s i =>
    rw [keep_s] at k
    cases q : ρ.get i with
    | none => rw [q] at k; cases k
    | some s =>
      rw [q] at k
      cases k
      obtain ⟨F', S', st, rd, lo⟩ := S.freeze q
      refine ⟨F', S', rd v h.1, fun b z0 => ?_, st.fzs, fun b ⟨j, t, h1, h2, h3⟩ => ?_, fun b ⟨j, t, h1, h2, h3⟩ => ?_, lo⟩
      · rcases st.fzn b z0 with z | z | z
        · exact .inl z
        · obtain ⟨u, w⟩ := Option.ne_none_iff_exists'.mp z0
          rw [S'.sub b u w] at z; cases z
        · exact .inr (.inr z)
      · rw [get_set (get_lt q)] at h1
        split at h1
        · cases h1; cases h2
        · exact ⟨j, t, h1, h2, h3⟩
      · rw [get_set (get_lt q)] at h1
        split at h1
        · cases h1; exact absurd rfl h2
        · exact ⟨j, t, h1, h2, h3⟩
end
end Ev

set_option Elab.async false
set_option linter.all false
set_option maxRecDepth 100000
set_option maxHeartbeats 1000000
/-! Ev2: what is to be shown of expressions, tests, arguments, statements. Own work. -/
namespace Ev
open PySem PySem.Spec PyProof.Rows L2

/-! ### the widest readings -/
def DE (X : Cx) (e : Expr) : TE := fun σ H Q => ∀ pins s, Inv X pins σ H s → wpAny (model X.prog X.w) X.A (eval e X.env) (EP X pins σ Q) X.xe s
def DT (X : Cx) (e : Expr) : TT := fun σ H Q => ∀ pins s, Inv X pins σ H s → wpAny (model X.prog X.w) X.A (isTrue e X.env (eval e X.env)) (TP X pins σ Q) X.xe s
def DW (X : Cx) (e : Expr) : TT := fun σ H Q => ∀ whole pins s, Inv X pins σ H s → wpAny (model X.prog X.w) X.A (isTrue e X.env whole) (TP X pins σ Q) X.xe s
def DA (X : Cx) (es : List Expr) : TA := fun σ H Q => ∀ pos pins s, Inv X pins σ H s → wpAny (model X.prog X.w) X.A (spliced (backTo pos (starEach es X.env))) (AP X pins σ Q) X.xe s
def DS (X : Cx) (st : Stmt) : TS := fun D σ H => ∀ pins s, Inv X pins σ H s → wpAny (model X.prog X.w) X.A (exec st X.env) (SP X pins D) X.xe s
def DSs (X : Cx) (st : List Stmt) : TS := fun D σ H => ∀ pins s, Inv X pins σ H s → wpAny (model X.prog X.w) X.A (execs st X.env) (SP X pins D) X.xe s
def DI (X : Cx) (tg iter : Expr) : TI := fun σ H R => ∀ pins s, Inv X pins σ H s → wpAny (model X.prog X.w) X.A (eval iter X.env) (fun v s1 => wpAny (model X.prog X.w) X.A (pyIter v) (PIE X pins σ tg R) X.xe s1) X.xe s
def DG (X : Cx) (target : Expr) : TG := fun v σ H Q => ∀ pins s u, Inv X pins σ H s → RelV v u → wpAny (model X.prog X.w) X.A (assign target X.env u) (fun _ s' => ∃ σ' H', Inv X pins σ' H' s' ∧ Q σ' H') X.xe s
def DOp (X : Cx) (f : Value → Value → Sem Value) : R2 := fun x y H Q => ∀ pins s σ v u, Inv X pins σ H s → RelV x v → RelV y u → wpAny (model X.prog X.w) X.A (f v u) (EP X pins σ Q) X.xe s
def DCall (X : Cx) (f : Value) : List V → Hp → VK → Prop := fun xs H Q => ∀ pins s σ us, Inv X pins σ H s → Vals xs us → wpAny (model X.prog X.w) X.A (call f us) (EP X pins σ Q) X.xe s
def DMt (X : Cx) (id : String) : V → List V → Hp → VK → Prop := fun x xs H Q => ∀ pins s σ v us, Inv X pins σ H s → RelV x v → Vals xs us → wpAny (model X.prog X.w) X.A (call (.builtin id) (v :: us)) (EP X pins σ Q) X.xe s
section
variable {X : Cx} {e tg : Expr} {es : List Expr} {st : Stmt} {sts : List Stmt}
theorem pe_D : PE X e (DE X e) := ⟨fun pins s _ _ _ I h => h pins s I⟩
theorem pt_D : PT X e (DT X e) := ⟨fun pins s _ _ _ I h => h pins s I⟩
theorem pw_D : PW X e (DW X e) := ⟨fun wh pins s _ _ _ I h => h wh pins s I⟩
theorem pa_D : PA X es (DA X es) := ⟨fun pos pins s _ _ _ I h => h pos pins s I⟩
theorem ps_D : PS X st (DS X st) := ⟨fun pins s _ _ _ I h => h pins s I⟩
theorem pss_D : PSs X sts (DSs X sts) := ⟨fun pins s _ _ _ I h => h pins s I⟩
theorem pi_D : PI X tg e (DI X tg e) := ⟨fun pins s _ _ _ I h => h pins s I⟩
theorem pg_D : PG X e (DG X e) := ⟨fun pins s _ _ _ u _ I r h => h pins s u I r⟩
theorem op_D {f : Value → Value → Sem Value} : OpR X f (DOp X f) := fun pins s σ _ _ _ v u _ I r1 r2 h => h pins s σ v u I r1 r2
theorem call_D {f : Value} : CallR X f (DCall X f) := fun pins s σ _ _ us _ I r h => h pins s σ us I r
theorem mt_D {id : String} : MtR X id (DMt X id) := fun pins s σ _ _ _ v us _ I r1 r2 h => h pins s σ v us I r1 r2
theorem PE.d {t : TE} (h : PE X e t) {σ : St} {H : Hp} {Q : VK} (q : t σ H Q) : DE X e σ H Q := fun pins s I => h.run pins s σ H Q I q
theorem PT.d {t : TT} (h : PT X e t) {σ : St} {H : Hp} {Q : Bool → Hp → Prop} (q : t σ H Q) : DT X e σ H Q := fun pins s I => h.run pins s σ H Q I q
theorem PW.d {t : TT} (h : PW X e t) {σ : St} {H : Hp} {Q : Bool → Hp → Prop} (q : t σ H Q) : DW X e σ H Q := fun wh pins s I => h.run wh pins s σ H Q I q
theorem PA.d {t : TA} (h : PA X es t) {σ : St} {H : Hp} {Q : List V → Hp → Prop} (q : t σ H Q) : DA X es σ H Q := fun pos pins s I => h.run pos pins s σ H Q I q
theorem PS.d {t : TS} (h : PS X st t) {D : Ends} {σ : St} {H : Hp} (q : t D σ H) : DS X st D σ H := fun pins s I => h.run pins s σ H D I q
theorem PSs.d {t : TS} (h : PSs X sts t) {D : Ends} {σ : St} {H : Hp} (q : t D σ H) : DSs X sts D σ H := fun pins s I => h.run pins s σ H D I q
theorem PI.d {t : TI} (h : PI X tg e t) {σ : St} {H : Hp} {R : It → Hp → Prop} (q : t σ H R) : DI X tg e σ H R := fun pins s I => h.run pins s σ H R I q
theorem PG.d {t : TG} (h : PG X e t) {v : V} {σ : St} {H : Hp} {Q : St → Hp → Prop} (q : t v σ H Q) : DG X e v σ H Q := fun pins s u I r => h.run pins s σ H v u Q I r q
theorem OpR.d {f : Value → Value → Sem Value} {r : R2} (h : OpR X f r) {x y : V} {H : Hp} {Q : VK} (q : r x y H Q) : DOp X f x y H Q := fun pins s σ v u I r1 r2 => h pins s σ H x y v u Q I r1 r2 q
theorem CallR.d {f : Value} {r : List V → Hp → VK → Prop} (h : CallR X f r) {xs : List V} {H : Hp} {Q : VK} (q : r xs H Q) : DCall X f xs H Q := fun pins s σ us I r1 => h pins s σ H xs us Q I r1 q
theorem MtR.d {id : String} {r : V → List V → Hp → VK → Prop} (h : MtR X id r) {x : V} {xs : List V} {H : Hp} {Q : VK} (q : r x xs H Q) : DMt X id x xs H Q := fun pins s σ v us I r1 r2 => h pins s σ H x xs v us Q I r1 r2 q
end

/-! ### results of what changes no slot -/
/-- a new value (or one that stood), all else as it was -/
def Res (g : Gi) (H F : Hp) (r : Vr) (v : V) (H' : Hp) : Prop :=
  ∃ F', Same F F' ∧ (∀ b, F' b ≠ none → F b ≠ none ∨ H b = none) ∧ Same H H' ∧ Same F' H' ∧ match r with
    | .v d => RD g F' v d
    | .o d => ∃ a, v = .ref a ∧ H a = none ∧ F' a = none ∧ Cell g H' F' a d
    | .s _ => False
section
variable {g : Gi} {ρ : En} {σ : St} {H F H' : Hp} {v : V} {r : Vr} {d : D}
theorem Res.same (s : Same F H) (h : RD g F v d) : Res g H F (.v d) v H := ⟨F, Same.refl F, fun _ z => .inl z, Same.refl H, s, h⟩
theorem same_upd {a : Addr} {o : HO} (h : H a = none) : Same H (upd H a o) := fun b u e => by rw [upd_ne (ne_of_none e h)]; exact e
theorem free_of (s : Same F H) {a : Addr} (h : H a = none) : F a = none := by
  cases q : F a with
  | none => rfl
  | some u => rw [s a u q] at h; cases h
/-- a new tuple -/
theorem Res.tup (s : Same F H) {a : Addr} {xs : List V} {ds : List D} (h : H a = none) (r : RDs g F xs ds) : Res g H F (.v (.tup ds)) (.ref a) (upd H a (.tup xs)) := by
  have hf := free_of s h
  refine ⟨upd F a (.tup xs), same_upd hf, fun b z => ?_, same_upd h, fun b u z => ?_, .tup (.inl (.inl upd_same)) (r.mono (same_upd hf))⟩
  · by_cases hb : b = a
    · subst hb; exact .inr h
    · rw [upd_ne hb] at z; exact .inl z
  · by_cases hb : b = a
    · subst hb; rw [upd_same] at z ⊢; exact z
    · rw [upd_ne hb] at z ⊢; exact s b u z
/-- a new list -/
theorem Res.lst (s : Same F H) {a : Addr} {xs : List V} {ds : List D} (h : H a = none) (r : RDs g F xs ds) : Res g H F (.o (.lst ds)) (.ref a) (upd H a (.lst xs)) :=
  ⟨F, Same.refl F, fun b z => .inl z, same_upd h, s.trans (same_upd h), a, rfl, h, free_of s h, .inl ⟨xs, ds, rfl, upd_same, r⟩⟩
theorem Res.dic (s : Same F H) {a : Addr} {kvs : List (Key × V)} {ks vs : List D} (h : H a = none) (n : (kvs.map (·.1)).Nodup) (e : KsOf kvs ks) (r : RDs g F (kvs.map (·.2)) vs) : Res g H F (.o (.dic ks vs)) (.ref a) (upd H a (.dK kvs)) :=
  ⟨F, Same.refl F, fun b z => .inl z, same_upd h, s.trans (same_upd h), a, rfl, h, free_of s h, .inr ⟨kvs, ks, vs, rfl, upd_same, n, e, r⟩⟩
theorem SlRel.mono {F' : Hp} {s : Sl} (h : SlRel g H F s v) (f : Same F F') (e : ∀ a, s.m ≠ .fz → v = .ref a → F' a = none ∧ H' a = H a) : SlRel g H' F' s v := by
  unfold SlRel at h ⊢
  cases hm : s.m with
  | fz => rw [hm] at h; exact h.mono f
  | lk =>
    rw [hm] at h
    obtain ⟨a, rfl, n, c⟩ := h
    obtain ⟨e1, e2⟩ := e a (by rw [hm]; decide) rfl
    exact ⟨a, rfl, e1, c.mono f e2⟩
  | own =>
    rw [hm] at h
    obtain ⟨a, rfl, n, c⟩ := h
    obtain ⟨e1, e2⟩ := e a (by rw [hm]; decide) rfl
    exact ⟨a, rfl, e1, c.mono f e2⟩
theorem Sim.res (S : Sim g ρ σ H F) (h : Res g H F r v H') : ∃ F', Sim g ρ σ H' F' ∧ Stp ρ σ H F ρ σ H' F' ∧ VrRel g ρ σ H' F' H v r := by
  obtain ⟨F', f, fn, hh, fh, hr⟩ := h
  refine ⟨F', ⟨S.len, fh, fun i s hi => ?_, S.sep⟩, ⟨f, fun b z => ?_, fun b o z _ => hh b o z, fun b z => ?_, fun b z => .inl z, fun b z => .inl z⟩, ?_⟩
  · obtain ⟨w, e, q⟩ := S.val i s hi
    refine ⟨w, e, q.mono f fun a hm hw => ?_⟩
    have z := S.ownL ⟨i, s, hi, hm, by rw [e, hw]⟩
    obtain ⟨o, ho⟩ := Option.ne_none_iff_exists'.mp z.1
    refine ⟨?_, (hh a o ho).trans ho.symm⟩
    cases q : F' a with
    | none => rfl
    | some u =>
      rcases fn a (by rw [q]; exact fun z => nomatch z) with y | y
      · exact absurd z.2 y
      · exact absurd y z.1
  · rcases fn b z with y | y
    · exact .inl y
    · exact .inr (.inl y)
  · obtain ⟨o, ho⟩ := Option.ne_none_iff_exists'.mp z
    rw [hh b o ho]; exact fun y => nomatch y
  · cases r with
    | v d => exact hr
    | o d =>
      obtain ⟨a, e, n, nf, c⟩ := hr
      exact ⟨a, e, n, nf, c, fun z => (S.ownL z).1 n⟩
    | s i => exact hr.elim
end

/-! ### what is to be shown -/
def Keeps (ρ ρ' : En) : Prop := ∀ i, (ρ.get i).isSome = true → (ρ'.get i).isSome = true
theorem Keeps.refl (ρ : En) : Keeps ρ ρ := fun _ h => h
theorem Keeps.trans {ρ ρ1 ρ2 : En} (a : Keeps ρ ρ1) (b : Keeps ρ1 ρ2) : Keeps ρ ρ2 := fun i h => b i (a i h)
section
variable (g : Gi) (Φ : Fns) (X : Cx)
/-- what stands behind a step -/
structure Bh (ρ : En) (σ : St) (H F : Hp) (ρ' : En) (σ' : St) (H' F' : Hp) : Prop where
  sim : Sim g ρ' σ' H' F'
  stp : Stp ρ σ H F ρ' σ' H' F'
  kp : Keeps ρ ρ'
  pv : Pv ρ σ H ρ' σ'
/-- what flies: its class, its dict -/
def XR (F : Hp) (x : D) (cls : Value) (d : Option Addr) : Prop := ∃ c v C dd w, x = .exc c v ∧ g.ca c = some C ∧ cls = .ref C ∧ d = some dd ∧ F dd = some (.xd [(Str.ofString "value", w)]) ∧ RD g F w v
/-- a result that is good -/
def GdR {α : Type} (ρ : En) (σ : St) (H F : Hp) (r : Rs α) (Ok : α → En → Hp → Hp → Prop) (W : WX) : Prop := match r with
  | .ok a ρ' => ∀ H' F', Bh g ρ σ H F ρ' σ H' F' → Ok a ρ' H' F'
  | .ex x ρ' => ∀ cls d H' F', Bh g ρ σ H F ρ' σ H' F' → XR g F' x cls d → W cls d σ H'
  | .err => False
inductive VrRels (ρ : En) (σ : St) (H F H0 : Hp) : List V → List Vr → Prop
  | nil : VrRels ρ σ H F H0 [] []
  | cons {v vs r rs} : VrRel g ρ σ H F H0 v r → (∀ d, r = .o d → ∀ (i : Nat) (d' : D), rs[i]? = some (.o d') → vs[i]? ≠ some v) → VrRels ρ σ H F H0 vs rs → VrRels ρ σ H F H0 (v :: vs) (r :: rs)
def OkE (σ : St) (H : Hp) (Q : VK) : Vr → En → Hp → Hp → Prop := fun r ρ' H' F' => ∀ v, VrRel g ρ' σ H' F' H v r → Q v H'
def OkT (Q : Bool → Hp → Prop) : Bool → En → Hp → Hp → Prop := fun b _ H' _ => Q b H'
def OkA (σ : St) (H : Hp) (Q : List V → Hp → Prop) : List Vr → En → Hp → Hp → Prop := fun rs ρ' H' F' => ∀ vs, VrRels g ρ' σ H' F' H vs rs → Q vs H'
end
section
variable {g : Gi} {Φ : Fns} {X : Cx} {ρ ρ' ρ1 ρ2 : En} {σ σ' σ1 : St} {H F H' F' H0 H1 F1 H2 F2 : Hp}
theorem Bh.refl (S : Sim g ρ σ H F) : Bh g ρ σ H F ρ σ H F := ⟨S, Stp.refl, Keeps.refl ρ, Pv.refl⟩
theorem Bh.trans {σ2 : St} (a : Bh g ρ σ H F ρ1 σ1 H1 F1) (b : Bh g ρ1 σ1 H1 F1 ρ2 σ2 H2 F2) : Bh g ρ σ H F ρ2 σ2 H2 F2 := ⟨b.sim, a.stp.trans b.stp, a.kp.trans b.kp, a.pv.trans b.pv a.stp.live⟩
theorem VrRel.later {v : V} {r : Vr} (S : Sim g ρ σ H F) (h : VrRel g ρ σ H F H0 v r) (b : Bh g ρ σ H F ρ' σ H' F') : VrRel g ρ' σ H' F' H0 v r := h.keep S b.stp b.kp
theorem VrRels.later (S : Sim g ρ σ H F) (b : Bh g ρ σ H F ρ' σ H' F') : ∀ {vs : List V} {rs : List Vr}, VrRels g ρ σ H F H0 vs rs → VrRels g ρ' σ H' F' H0 vs rs
  | _, _, .nil => .nil
  | _, _, .cons h n r => .cons (h.later S b) n (VrRels.later S b r)
theorem VrRels.before (l : ∀ b, H0 b ≠ none → H1 b ≠ none) : ∀ {vs : List V} {rs : List Vr}, VrRels g ρ σ H F H1 vs rs → VrRels g ρ σ H F H0 vs rs
  | _, _, .nil => .nil
  | _, _, .cons h n r => .cons (h.before l) n (VrRels.before l r)
theorem VrRels.at : ∀ {vs : List V} {rs : List Vr} {i : Nat} {r : Vr}, VrRels g ρ σ H F H0 vs rs → rs[i]? = some r → ∃ v, vs[i]? = some v ∧ VrRel g ρ σ H F H0 v r
  | _, _, _, _, .nil, e => by simp at e
  | _, _, 0, _, .cons h _ _, e => by simp at e; subst e; exact ⟨_, rfl, h⟩
  | _, _, i + 1, r, .cons _ _ t, e => by
    obtain ⟨v, h1, h2⟩ := VrRels.at (i := i) (r := r) t (by simpa using e)
    exact ⟨v, by simpa using h1, h2⟩
theorem VrRels.length : ∀ {vs : List V} {rs : List Vr}, VrRels g ρ σ H F H0 vs rs → vs.length = rs.length
  | _, _, .nil => rfl
  | _, _, .cons _ _ r => congrArg (· + 1) r.length
theorem GdR.later {α : Type} {r : Rs α} {Ok : α → En → Hp → Hp → Prop} {W : WX} (h : GdR g ρ σ H F r Ok W) (b : Bh g ρ σ H F ρ1 σ H1 F1) : GdR g ρ1 σ H1 F1 r Ok W := by
  cases r with
  | ok a ρ' => exact fun H' F' b' => h H' F' (b.trans b')
  | ex x ρ' => exact fun cls d H' F' b' q => h cls d H' F' (b.trans b') q
  | err => exact h
theorem GdR.imp {α : Type} {r : Rs α} {Ok Ok' : α → En → Hp → Hp → Prop} {W : WX} (h : GdR g ρ σ H F r Ok W) (k : ∀ a ρ' H' F', Bh g ρ σ H F ρ' σ H' F' → Ok a ρ' H' F' → Ok' a ρ' H' F') : GdR g ρ σ H F r Ok' W := by
  cases r with
  | ok a ρ' => exact fun H' F' b' => k _ _ _ _ b' (h H' F' b')
  | ex x ρ' => exact h
  | err => exact h
/-- one step, then the rest -/
theorem GdR.step {α β : Type} {r : Rs α} {f : α → En → Rs β} {Ok : β → En → Hp → Hp → Prop} {W : WX} (h : GdR g ρ σ H F (r.bind f) Ok W) : GdR g ρ σ H F r (fun a ρ1 H1 F1 => GdR g ρ1 σ H1 F1 (f a ρ1) Ok W) W := by
  cases r with
  | ok a ρ' => exact fun H' F' b' => GdR.later h b'
  | ex x ρ' => exact h
  | err => exact h
theorem GdR.now {α : Type} {a : α} {Ok : α → En → Hp → Hp → Prop} {W : WX} (S : Sim g ρ σ H F) (h : GdR g ρ σ H F (.ok a ρ) Ok W) : Ok a ρ H F := h H F (Bh.refl S)
/-- results of a value rule -/
theorem res_end {v : V} {r : Vr} {Q : VK} {W : WX} (S : Sim g ρ1 σ H1 F1) (l : ∀ b, H b ≠ none → H1 b ≠ none) (G : GdR g ρ1 σ H1 F1 (.ok r ρ1) (OkE g σ H Q) W) (h : Res g H1 F1 r v H2) : Q v H2 := by
  obtain ⟨F2, S2, st, rr⟩ := S.res h
  exact G H2 F2 ⟨S2, st, Keeps.refl _, Pv.refl⟩ v (rr.before l)
end
end Ev

set_option Elab.async false
set_option linter.all false
set_option maxRecDepth 100000
set_option maxHeartbeats 1000000
/-! Ev3: the operators by values. Own work. -/
namespace Ev
open PySem PySem.Spec PyProof.Rows L2

theorem LIM_eq : LIM = sizeLine := by rw [sizeLine_eq] <;> rfl
theorem okL_append {a b : List Nat} (ha : okL a) (hb : okL b) (h : a.length + b.length ≤ sizeLine) : okL (a ++ b) := ⟨by rw [List.length_append]; exact h, fun c h => by
  rcases List.mem_append.mp h with h | h
  · exact ha.2 c h
  · exact hb.2 c h⟩
theorem okL_sub {a b : List Nat} (ha : okL a) (hl : b.length ≤ a.length) (h : ∀ c ∈ b, c ∈ a) : okL b := ⟨Nat.le_trans hl ha.1, fun c hc => ha.2 c (h c hc)⟩
theorem okL_rep {a : List Nat} (ha : okL a) (k : Nat) (h : a.length * k ≤ sizeLine) : okL (List.replicate k a).flatten := by
  refine ⟨?_, fun c hc => ?_⟩
  · rw [List.length_flatten, List.map_replicate, List.sum_replicate_nat, Nat.mul_comm]
    exact h
  · obtain ⟨l, hl, h⟩ := List.mem_flatten.mp hc
    exact ha.2 c (by rw [List.eq_of_mem_replicate hl] at h; exact h)
theorem okL_cut {a : List Nat} (ha : okL a) (lo hi : Option Int) : okL (cut a lo hi) := okL_sub ha (by
  unfold cut
  rw [List.length_take, List.length_drop]
  omega) fun c hc => List.mem_of_mem_drop (List.mem_of_mem_take hc)
theorem okL_one {a : List Nat} (ha : okL a) {c : Nat} (h : c ∈ a) : okL [c] := ⟨by rw [sizeLine_eq]; exact (by decide : 1 ≤ 16777216), fun b hb => by rw [List.mem_singleton.mp hb]; exact ha.2 c h⟩
theorem str_app (a b : List Nat) : (⟨a.toArray⟩ : Str) ++ (⟨b.toArray⟩ : Str) = ⟨(a ++ b).toArray⟩ := by
  show (⟨a.toArray ++ b.toArray⟩ : Str) = _
  simp
theorem str_len (a : List Nat) : (⟨a.toArray⟩ : Str).length = a.length := by
  show a.toArray.size = _
  simp
/-- what stands around: the context keeps room -/
structure Rm (g : Gi) (bc : Bool) (X : Cx) : Prop where
  K : X.K = g.K
  calm : X.calm = bc
  units : X.A.units + 100 < cLine
  guards : X.A.guards = some []
section
variable {g : Gi} {X : Cx} {H F : Hp} {x y v : V} {d e : D} {Q : VK}

theorem mul_rep (a : List Nat) (k : Int) (h0 : 0 ≤ k) : Txt.mul ⟨a.toArray⟩ k = ⟨(List.replicate k.toNat a).flatten.toArray⟩ := by
  unfold Txt.mul
  by_cases h1 : k < 1
  · have : k = 0 := by omega
    subst this
    rw [if_pos (by decide)]
    rfl
  · rw [if_neg h1]
    split
    · rename_i h
      rw [Bool.or_eq_true] at h
      rcases h with h | h
      · have hk : k = 1 := by simpa using h
        subst hk
        simp
      · have ha : a = [] := by
          rw [str_len] at h
          exact List.length_eq_zero_iff.mp (by simpa using h)
        subst ha
        simp
    · have f0 : ∀ (m : Nat) (acc : List Nat), List.foldl (fun x1 x2 => x1 ++ x2) acc.toArray (List.replicate m a.toArray) = (acc ++ (List.replicate m a).flatten).toArray := by
        intro m
        induction m with
        | zero => intro acc; simp
        | succ m ih =>
          intro acc
          rw [List.replicate_succ, List.foldl_cons]
          have e : acc.toArray ++ a.toArray = (acc ++ a).toArray := by simp
          rw [e, ih, List.replicate_succ, List.flatten_cons, List.append_assoc]
      have := f0 k.toNat []
      rw [List.nil_append] at this
      exact congrArg Str.mk this
theorem op_mulS : OpR X (binaryOp .Mult) (fun x y H Q => ∃ (i : Str) (k : Int), x = .str i ∧ y = .int k ∧ 0 ≤ k ∧ k < 1000000 ∧ i.length * k.toNat ≤ sizeLine ∧ Q (.str (Txt.mul i k)) H) := by
  intro pins s σ H x y v u Q I rx ry h
  obtain ⟨i, k, rfl, rfl, h0, h1, hz, q⟩ := h
  obtain ⟨t, rfl⟩ := rx
  obtain ⟨t', rfl⟩ := ry
  refine SB.mul (n := k) ⟨?_, fun h2 h3 => ?_, fun h2 h3 => ?_⟩ fun t'' tk => ⟨.str _, H, I.tok _, ⟨_, rfl⟩, q⟩
  · rw [decide_eq_false (by omega), decide_eq_false (by omega)] <;> rfl
  · have hz' : (i.length : Int) * k ≤ 16777216 := by
      rw [sizeLine_eq] at hz
      have : ((i.length * k.toNat : Nat) : Int) ≤ 16777216 := Int.ofNat_le.mpr hz
      rw [Int.natCast_mul, Int.toNat_of_nonneg h0] at this
      exact this
    intro hc
    have hk : 0 < k := by omega
    have h5 : (2 ^ 63 - 1 : Int) < (i.length : Int) * k := by
      have h7 : (2 ^ 63 - 1) / k + 1 ≤ (i.length : Int) := by omega
      have h8 : ((2 ^ 63 - 1) / k + 1) * k ≤ (i.length : Int) * k := Int.mul_le_mul_of_nonneg_right h7 (by omega)
      have h9 : (2 ^ 63 - 1 : Int) < ((2 ^ 63 - 1) / k + 1) * k := Int.lt_mul_of_ediv_lt hk (by omega)
      exact Int.lt_of_lt_of_le h9 h8
    have : (2 : Int) ^ 63 - 1 = 9223372036854775807 := by decide
    omega
  · exact decide_eq_false (Nat.not_lt.mpr hz)

def CPw (a b : Int) : Prop := 0 ≤ b ∧ b ≤ 100000 ∧ a.natAbs.log2 * b.toNat ≤ 100000
theorem op_powW : OpR X (binaryOp .Pow) (rI CPw fun i j => .int (i ^ j.toNat)) := opI fun i j _ _ _ _ _ hc q => by
  refine pow_int hc.1 ?_ q
  have h1 : Builtin.Int.intBits i ≤ i.natAbs.log2 + 1 := by
    unfold Builtin.Int.intBits
    split <;> omega
  have h2 : (i.natAbs.log2 + 1) * j.toNat ≤ 200000 := by
    have := hc.2.2
    have := hc.2.1
    rw [Nat.succ_mul]
    omega
  have h3 : Builtin.Int.intBits i * j.toNat ≤ 200000 := Nat.le_trans (Nat.mul_le_mul_right _ h1) h2
  have h4 : ((Builtin.Int.intBits i * j.toNat : Nat) : Int) ≤ 200000 := Int.ofNat_le.mpr h3
  rw [Int.natCast_mul, Int.toNat_of_nonneg hc.1] at h4
  exact Int.le_trans h4 (by decide)
/-- the operator in the text -/
def bopP : Bop → Operator
  | .add => .Add | .sub => .Sub | .mul => .Mult | .fdiv => .FloorDiv | .mod => .Mod | .pow => .Pow
theorem bin_ok {op : Bop} {r : Vr} {bc : Bool} (m : Rm g bc X) (h : binD op d e = some r) (s : Same F H) (hx : RdH g H F x d) (hy : RdH g H F y e) (k : ∀ v H', Res g H F r v H' → Q v H') : DOp X (binaryOp (bopP op)) x y H Q := by
  unfold binD at h
  split at h
  · cases h
    cases hx.int; cases hy.int
    exact OpR.d op_add ⟨_, _, rfl, rfl, k _ _ (.same s (.int _))⟩
  · split at h
    · rename_i hz
      cases h
      obtain ⟨rfl, o1⟩ := hx.str
      obtain ⟨rfl, o2⟩ := hy.str
      refine OpR.d op_add_str ⟨_, _, rfl, rfl, by rw [str_len, str_len, ← LIM_eq]; exact hz, ?_⟩
      rw [str_app]
      exact k _ _ (.same s (.str _ (okL_append o1 o2 (by rw [← LIM_eq]; exact hz))))
    · cases h
  · split at h
    · rename_i hz
      cases h
      obtain ⟨a, xs, rfl, h1, r1⟩ := hx.lst s
      obtain ⟨b, ys, rfl, h2, r2⟩ := hy.lst s
      refine OpR.d op_cat ⟨a, b, xs, ys, rfl, rfl, h1, h2, by rw [r1.length, r2.length, ← LIM_eq]; exact hz, fun p hp => k _ _ (.lst s hp (r1.append r2))⟩
    · cases h
  · cases h
    cases hx.int; cases hy.int
    exact OpR.d op_sub ⟨_, _, rfl, rfl, k _ _ (.same s (.int _))⟩
  · split at h
    · rename_i hz
      cases h
      cases hx.int; cases hy.int
      exact OpR.d op_mulW ⟨_, _, rfl, rfl, by unfold mulOk at hz; unfold CMulW; exact of_decide_eq_true hz, k _ _ (.same s (.int _))⟩
    · cases h
  · split at h
    · rename_i hz
      cases h
      obtain ⟨rfl, o1⟩ := hx.str
      cases hy.int
      refine OpR.d op_mulS ⟨_, _, rfl, rfl, hz.1, hz.2.1, by rw [str_len, ← LIM_eq]; exact hz.2.2, ?_⟩
      rw [mul_rep _ _ hz.1]
      exact k _ _ (.same s (.str _ (okL_rep o1 _ (by rw [← LIM_eq]; exact hz.2.2))))
    · cases h
  · split at h
    · rename_i hz
      cases h
      obtain ⟨a, xs, rfl, h1, r1⟩ := hx.lst s
      cases hy.int
      refine OpR.d op_rep ⟨a, _, xs, rfl, rfl, h1, hz.1, hz.2.1, by rw [r1.length, ← LIM_eq]; exact hz.2.2, fun p hp => k _ _ (.lst s hp (r1.rep _))⟩
    · cases h
  · split at h
    · rename_i hz
      cases h
      cases hx.int; cases hy.int
      exact OpR.d op_fdivW ⟨_, _, rfl, rfl, hz, k _ _ (.same s (.int _))⟩
    · cases h
  · split at h
    · rename_i hz
      cases h
      cases hx.int; cases hy.int
      exact OpR.d op_mod ⟨_, _, rfl, rfl, hz, k _ _ (.same s (.int _))⟩
    · cases h
  · split at h
    · rename_i hz
      cases h
      cases hx.int; cases hy.int
      exact OpR.d op_powW ⟨_, _, rfl, rfl, hz, k _ _ (.same s (.int _))⟩
    · cases h
  · cases h
end
end Ev

set_option Elab.async false
set_option linter.all false
set_option maxRecDepth 100000
set_option maxHeartbeats 1000000
/-! Ev3b: comparisons by values. Own work. -/
namespace Ev
open PySem PySem.Spec PyProof.Rows L2

section
variable {g : Gi} {H F : Hp}
mutual
theorem dp_of (s : Same F H) : ∀ (n : Nat) (d : D) (v : V), RD g F v d → flat n d = true → Dp g.K H v (py d)
  | _, .non, _, h, _ => by cases h; exact .non
  | _, .bl b, _, h, _ => by cases h; exact .bl b
  | _, .int i, _, h, _ => by cases h; exact .int i
  | _, .str l, _, h, _ => by cases h; exact .str _
  | 0, .lst _, _, _, f => by simp [flat] at f
  | 0, .tup _, _, _, f => by simp [flat] at f
  | n + 1, .lst ds, _, h, f => by
    cases h with
    | lst h r => exact .lst (.inl (.inl (s _ _ h))) (dps_of s n ds _ r (by simpa [flat] using f))
  | n + 1, .tup ds, _, h, f => by
    cases h with
    | tup h r => exact .tup (Same.seqT s h) (dps_of s n ds _ r (by simpa [flat] using f))
  | 0, .dic _ _, _, _, f => by simp [flat] at f
  | _ + 1, .dic _ _, _, _, f => by simp [flat] at f
  | 0, .fn _, _, _, f => by simp [flat] at f
  | _ + 1, .fn _, _, _, f => by simp [flat] at f
  | 0, .scr _, _, _, f => by simp [flat] at f
  | _ + 1, .scr _, _, _, f => by simp [flat] at f
  | 0, .exc _ _, _, _, f => by simp [flat] at f
  | _ + 1, .exc _ _, _, _, f => by simp [flat] at f
theorem dps_of (s : Same F H) : ∀ (n : Nat) (ds : List D) (vs : List V), RDs g F vs ds → flatL n ds = true → DpAll g.K H vs (pys ds)
  | _, [], _, h, _ => by cases h; exact .nil
  | n, d :: ds, _, h, f => by
    cases h with
    | cons h r =>
      rw [flatL, Bool.and_eq_true] at f
      exact .cons (dp_of s n d _ h f.1) (dps_of s n ds _ r f.2)
end
mutual
theorem lay_of : ∀ (n : Nat) (d : D) (v : V), RD g F v d → flat n d = true → (py d).canLay0 = true ∧ (py d).depth ≤ n
  | _, .non, _, h, _ => ⟨by simp [py, PyData.canLay0], by simp [py, PyData.depth]⟩
  | _, .bl b, _, h, _ => ⟨by simp [py, PyData.canLay0], by simp [py, PyData.depth]⟩
  | _, .int i, _, h, _ => ⟨by simp [py, PyData.canLay0], by simp [py, PyData.depth]⟩
  | _, .str l, _, h, _ => by
    cases h with
    | str _ o =>
      refine ⟨?_, by simp [py, PyData.depth]⟩
      simp only [py, PyData.canLay0, PyData.strOk]
      rw [List.all_toArray, List.all_eq_true]
      exact fun c hc => decide_eq_true (o.2 c hc)
  | 0, .lst _, _, _, f => by simp [flat] at f
  | 0, .tup _, _, _, f => by simp [flat] at f
  | n + 1, .lst ds, _, h, f => by
    cases h with
    | lst h r =>
      have z := lays_of n ds _ r (by simpa [flat] using f)
      exact ⟨by simp [py, PyData.canLay0, z.1], by simp only [py, PyData.depth]; omega⟩
  | n + 1, .tup ds, _, h, f => by
    cases h with
    | tup h r =>
      have z := lays_of n ds _ r (by simpa [flat] using f)
      exact ⟨by simp [py, PyData.canLay0, z.1], by simp only [py, PyData.depth]; omega⟩
  | 0, .dic _ _, _, _, f => by simp [flat] at f
  | _ + 1, .dic _ _, _, _, f => by simp [flat] at f
  | 0, .fn _, _, _, f => by simp [flat] at f
  | _ + 1, .fn _, _, _, f => by simp [flat] at f
  | 0, .scr _, _, _, f => by simp [flat] at f
  | _ + 1, .scr _, _, _, f => by simp [flat] at f
  | 0, .exc _ _, _, _, f => by simp [flat] at f
  | _ + 1, .exc _ _, _, _, f => by simp [flat] at f
theorem lays_of : ∀ (n : Nat) (ds : List D) (vs : List V), RDs g F vs ds → flatL n ds = true → PyData.canLayAll0 (pys ds) = true ∧ PyData.depthAll (pys ds) ≤ n
  | _, [], _, h, _ => ⟨by simp [pys, PyData.canLayAll0], by simp [pys, PyData.depthAll]⟩
  | n, d :: ds, _, h, f => by
    cases h with
    | cons h r =>
      rw [flatL, Bool.and_eq_true] at f
      have z := lay_of n d _ h f.1
      have y := lays_of n ds _ r f.2
      exact ⟨by simp [pys, PyData.canLayAll0, z.1, y.1], by simp only [pys, PyData.depthAll]; omega⟩
end
theorem rdh_dp {v : V} {d : D} (s : Same F H) (h : RdH g H F v d) (f : flat DEP d = true) : Dp g.K H v (py d) ∧ SeqAt.shaped (py d) = true := by
  have fin : ∀ {F' : Hp}, Same F' H → RD g F' v d → Dp g.K H v (py d) ∧ SeqAt.shaped (py d) = true := fun {F'} s' r => by
    have z := lay_of DEP d v r f
    refine ⟨dp_of s' DEP d v r f, ?_⟩
    have : (60 : Nat) ≤ 64 := by decide
    rw [SeqAt.shaped, z.1, decide_eq_true (Nat.le_trans z.2 this)] <;> rfl
  rcases h with h | ⟨a, rfl, c⟩
  · exact fin s h
  · cases q : F a with
    | none =>
      obtain ⟨o, ho, sm, r⟩ := c.frozen q
      refine fin (fun b u z => ?_) r
      by_cases hb : b = a
      · subst hb; rw [upd_same] at z; cases z; exact ho
      · rw [upd_ne hb] at z; exact s b u z
    | some u =>
      have hu := s a u q
      rcases c with ⟨xs, ds, rfl, h, r⟩ | ⟨kvs, ks, vs, rfl, h, _⟩
      · rw [hu] at h; cases h
        exact fin s (.lst q r)
      · have : flat DEP (.dic ks vs) = false := rfl
        rw [this] at f; cases f
end
theorem str_beq (a b : List Nat) : ((⟨a.toArray⟩ : Str) == ⟨b.toArray⟩) = decide (a = b) := by
  by_cases h : a = b
  · subst h; simp
  · rw [decide_eq_false h]
    refine beq_eq_false_iff_ne.mpr fun e => h ?_
    have e' : a.toArray = b.toArray := congrArg Str.cps e
    simpa using e'
mutual
theorem eqv_py : ∀ (n : Nat) (a b : D), flat n a = true → flat n b = true → PyData.eqv (py a) (py b) = eqD a b
  | 0, a, b, ha, hb => by
    cases a <;> cases b <;> first
      | (simp [flat] at ha; done)
      | (simp [flat] at hb; done)
      | (simp only [py, PyData.eqv, eqD]; exact str_beq _ _)
      | simp [py, PyData.eqv, eqD]
  | n + 1, a, b, ha, hb => by
    cases a <;> cases b <;> first
      | (simp [flat] at ha; done)
      | (simp [flat] at hb; done)
      | (simp only [py, PyData.eqv, eqD]; exact eqvs_py n _ _ (by simpa [flat] using ha) (by simpa [flat] using hb))
      | (simp only [py, PyData.eqv, eqD]; exact str_beq _ _)
      | simp [py, PyData.eqv, eqD]
theorem eqvs_py : ∀ (n : Nat) (a b : List D), flatL n a = true → flatL n b = true → PyData.eqvAll (pys a) (pys b) = eqDs a b
  | _, [], [], _, _ => by simp [pys, PyData.eqvAll, eqDs]
  | _, [], _ :: _, _, _ => by simp [pys, PyData.eqvAll, eqDs]
  | _, _ :: _, [], _, _ => by simp [pys, PyData.eqvAll, eqDs]
  | n, x :: xs, y :: ys, ha, hb => by
    rw [flatL, Bool.and_eq_true] at ha hb
    simp only [pys, PyData.eqvAll, eqDs]
    rw [eqv_py n x y ha.1 hb.1, eqvs_py n xs ys ha.2 hb.2]
end
mutual
theorem alike_py : ∀ (n : Nat) (a b : D), flat n a = true → flat n b = true → PySem.W.alike (py a) (py b) = alikeD a b
  | 0, a, b, ha, hb => by
    cases a <;> cases b <;> first
      | (simp [flat] at ha; done)
      | (simp [flat] at hb; done)
      | simp [py, PySem.W.alike, alikeD]
  | n + 1, a, b, ha, hb => by
    cases a <;> cases b <;> first
      | (simp [flat] at ha; done)
      | (simp [flat] at hb; done)
      | (simp only [py, PySem.W.alike, alikeD]; exact alikes_py n _ _ (by simpa [flat] using ha) (by simpa [flat] using hb))
      | simp [py, PySem.W.alike, alikeD]
theorem alikes_py : ∀ (n : Nat) (a b : List D), flatL n a = true → flatL n b = true → PySem.W.alikeAll (pys a) (pys b) = alikeDs a b
  | _, [], [], _, _ => by simp [pys, PySem.W.alikeAll, alikeDs]
  | _, [], _ :: _, _, _ => by simp [pys, PySem.W.alikeAll, alikeDs]
  | _, _ :: _, [], _, _ => by simp [pys, PySem.W.alikeAll, alikeDs]
  | n, x :: xs, y :: ys, ha, hb => by
    rw [flatL, Bool.and_eq_true] at ha hb
    simp only [pys, PySem.W.alikeAll, alikeDs]
    rw [alike_py n x y ha.1 hb.1, alikes_py n xs ys ha.2 hb.2]
end
open PySem.W in
mutual
theorem less_py : ∀ (n : Nat) (a b : D), flat n a = true → flat n b = true → alikeD a b = true → a ≠ .non → dataLt (py a) (py b) = lessD a b
  | 0, a, b, ha, hb, hl, hn => by
    cases a <;> cases b <;> first
      | (simp [flat] at ha; done)
      | (simp [flat] at hb; done)
      | (simp [alikeD] at hl; done)
      | exact absurd rfl hn
      | (simp only [py, lessD]; rw [dataLt_bool]; rfl)
      | (simp only [py, lessD]; rw [dataLt_int])
      | (simp only [py, lessD]; rw [dataLt_str])
  | n + 1, a, b, ha, hb, hl, hn => by
    cases a <;> cases b <;> first
      | (simp [flat] at ha; done)
      | (simp [flat] at hb; done)
      | (simp [alikeD] at hl; done)
      | exact absurd rfl hn
      | (simp only [py, lessD]; rw [dataLt_bool]; rfl)
      | (simp only [py, lessD]; rw [dataLt_int])
      | (simp only [py, lessD]; rw [dataLt_str])
      | (simp only [py, lessD]; rw [dataLt_list]; exact lesss_py n _ _ (by simpa [flat] using ha) (by simpa [flat] using hb) (by simpa [alikeD] using hl))
      | (simp only [py, lessD]; rw [dataLt_tuple]; exact lesss_py n _ _ (by simpa [flat] using ha) (by simpa [flat] using hb) (by simpa [alikeD] using hl))
theorem lesss_py : ∀ (n : Nat) (a b : List D), flatL n a = true → flatL n b = true → alikeDs a b = true → PyProof.Rows.lexLt itemOrd (keyToksAll (pys a)) (keyToksAll (pys b)) = lessDs a b
  | _, [], [], _, _, _ => by simp only [pys, lessDs]; decide
  | _, [], y :: ys, _, _, _ => by
    simp only [pys, lessDs]
    rw [toks_all_cons]
    show PyProof.Rows.lexLt itemOrd [Sum.inl 0] (Sum.inl 1 :: _) = true
    rw [lex_atom (by decide)]
    decide
  | _, x :: xs, [], _, _, _ => by
    simp only [pys, lessDs]
    rw [toks_all_cons]
    show PyProof.Rows.lexLt itemOrd (Sum.inl 1 :: _) [Sum.inl 0] = false
    rw [lex_atom (by decide)]
    decide
  | n, x :: xs, y :: ys, ha, hb, hl => by
    rw [flatL, Bool.and_eq_true] at ha hb
    rw [alikeDs, Bool.and_eq_true] at hl
    have al : alike (py x) (py y) = true := by rw [alike_py n x y ha.1 hb.1]; exact hl.1
    simp only [pys, lessDs]
    by_cases e : eqD x y = true
    · rw [if_pos e, dataLt_all_yes al (by rw [eqv_py n x y ha.1 hb.1]; exact e)]
      exact lesss_py n xs ys ha.2 hb.2 hl.2
    · rw [if_neg e, dataLt_all_no al (by rw [eqv_py n x y ha.1 hb.1]; simpa using e)]
      refine less_py n x y ha.1 hb.1 hl.1 fun z => ?_
      subst z
      cases y <;> simp [alikeD, eqD] at hl e
end

mutual
theorem flat_mono : ∀ {n m : Nat} (h : n ≤ m) (d : D), flat n d = true → flat m d = true
  | _, _, _, .non, _ => by simp [flat]
  | _, _, _, .bl _, _ => by simp [flat]
  | _, _, _, .int _, _ => by simp [flat]
  | _, _, _, .str _, _ => by simp [flat]
  | 0, _, _, .lst _, f => by simp [flat] at f
  | 0, _, _, .tup _, f => by simp [flat] at f
  | n + 1, 0, h, _, _ => by omega
  | n + 1, m + 1, h, .lst ds, f => by
    simp only [flat] at f ⊢
    exact flatL_mono (by omega) ds f
  | n + 1, m + 1, h, .tup ds, f => by
    simp only [flat] at f ⊢
    exact flatL_mono (by omega) ds f
  | 0, _, _, .dic _ _, f => by simp [flat] at f
  | _ + 1, _, _, .dic _ _, f => by simp [flat] at f
  | 0, _, _, .fn _, f => by simp [flat] at f
  | _ + 1, _, _, .fn _, f => by simp [flat] at f
  | 0, _, _, .scr _, f => by simp [flat] at f
  | _ + 1, _, _, .scr _, f => by simp [flat] at f
  | 0, _, _, .exc _ _, f => by simp [flat] at f
  | _ + 1, _, _, .exc _ _, f => by simp [flat] at f
theorem flatL_mono : ∀ {n m : Nat} (h : n ≤ m) (ds : List D), flatL n ds = true → flatL m ds = true
  | _, _, _, [], _ => by simp [flatL]
  | _, _, h, d :: ds, f => by
    rw [flatL, Bool.and_eq_true] at f ⊢
    exact ⟨flat_mono h d f.1, flatL_mono h ds f.2⟩
end
mutual
theorem depth_flat : ∀ (n : Nat) (d : D), flat n d = true → (py d).depth ≤ n
  | _, .non, _ => by simp [py, PyData.depth]
  | _, .bl b, _ => by simp [py, PyData.depth]
  | _, .int i, _ => by simp [py, PyData.depth]
  | _, .str l, _ => by simp [py, PyData.depth]
  | 0, .lst _, f => by simp [flat] at f
  | 0, .tup _, f => by simp [flat] at f
  | n + 1, .lst ds, f => by
    have z := depths_flat n ds (by simpa [flat] using f)
    simp only [py, PyData.depth]; omega
  | n + 1, .tup ds, f => by
    have z := depths_flat n ds (by simpa [flat] using f)
    simp only [py, PyData.depth]; omega
  | 0, .dic _ _, f => by simp [flat] at f
  | _ + 1, .dic _ _, f => by simp [flat] at f
  | 0, .fn _, f => by simp [flat] at f
  | _ + 1, .fn _, f => by simp [flat] at f
  | 0, .scr _, f => by simp [flat] at f
  | _ + 1, .scr _, f => by simp [flat] at f
  | 0, .exc _ _, f => by simp [flat] at f
  | _ + 1, .exc _ _, f => by simp [flat] at f
theorem depths_flat : ∀ (n : Nat) (ds : List D), flatL n ds = true → PyData.depthAll (pys ds) ≤ n
  | _, [], _ => by simp [pys, PyData.depthAll]
  | n, d :: ds, f => by
    rw [flatL, Bool.and_eq_true] at f
    have z := depth_flat n d f.1
    have y := depths_flat n ds f.2
    simp only [pys, PyData.depthAll]; omega
end
section
variable {g : Gi} {X : Cx} {H F : Hp} {x y v : V} {d e : D} {Q : VK}
theorem op_ltv (hu : X.A.units + 64 < cLine) : OpR X (compareOp .Lt) (fun x y H Q => ∃ d e, Dp X.K H x d ∧ Dp X.K H y e ∧ PySem.W.alike d e = true ∧ d ≠ .none ∧ d.depth ≤ 60 ∧ Q (.bl (PySem.W.dataLt d e)) H) := by
  intro pins s σ H x y v u Q I rx ry h
  obtain ⟨d, e, hd, he, al, hn, dp, q⟩ := h
  obtain ⟨as, r1⟩ := Dp.reads I d x v hd rx
  obtain ⟨bs, r2⟩ := Dp.reads I e y u he ry
  have := Nat.min_le_left d.depth e.depth
  exact PySem.W.rcLt_alike d e X.A s v u as bs r1 r2 al hn (by omega) X.prog X.w X.xe _ ⟨.bl _, H, I, rfl, q⟩
/-- the operator in the text -/
def copP : Cop → CmpOp
  | .eq => .Eq | .ne => .NotEq | .lt => .Lt | .le => .LtE | .gt => .Gt | .ge => .GtE | .is => .Is | .isnot => .IsNot | .isin => .In | .notin => .NotIn
theorem isN_of (hx : RdH g H F x d) : decide (x = .non) = isNonD d := by
  rcases hx with h | ⟨a, rfl, c⟩
  · cases h <;> simp [isNonD]
  · rcases c with ⟨_, _, rfl, _⟩ | ⟨_, _, _, rfl, _⟩ <;> simp [isNonD]
theorem any_py {d : D} (fd : flat DEP d = true) : ∀ (n : Nat) (hn : n ≤ DEP) (ys : List D), flatL n ys = true → ((pys ys).any fun z => PyData.eqv z (py d)) = ys.any fun y => eqD y d
  | _, _, [], _ => rfl
  | n, hn, y :: ys, h => by
    rw [flatL, Bool.and_eq_true] at h
    simp only [pys, List.any_cons]
    rw [any_py fd n hn ys h.2]
    have : flat DEP y = true := flat_mono hn y h.1
    rw [eqv_py DEP y d this fd]
theorem cmp_ok {op : Cop} {b : Bool} {bc : Bool} (m : Rm g bc X) (h : cmpD op d e = some b) (s : Same F H) (hx : RdH g H F x d) (hy : RdH g H F y e) (k : Q (.bl b) H) : DOp X (compareOp (copP op)) x y H Q := by
  have hu := m.units
  have eqk : ∀ {b : Bool}, eqv d e = some b → Dp X.K H x (py d) ∧ Dp X.K H y (py e) ∧ SeqAt.shaped (py d) = true ∧ SeqAt.shaped (py e) = true ∧ PyData.eqv (py d) (py e) = b := fun {b} h => by
    unfold eqv at h
    split at h
    · rename_i z
      rw [Bool.and_eq_true] at z
      have z1 := rdh_dp s hx z.1
      have z2 := rdh_dp s hy z.2
      rw [m.K]
      refine ⟨z1.1, z2.1, z1.2, z2.2, ?_⟩
      rw [eqv_py DEP d e z.1 z.2]
      exact Option.some.inj h
    · cases h
  have ink : ∀ {b : Bool}, inD d e = some b → (∃ (c : Nat) (l : List Nat), x = .str ⟨#[c]⟩ ∧ y = .str ⟨l.toArray⟩ ∧ decide (c ∈ l) = b) ∨
      (∃ d' ds, Dp X.K H x d' ∧ Dp X.K H y (.list ds) ∧ SeqAt.shaped d' = true ∧ SeqAt.shaped (.list ds) = true ∧ (ds.any fun z => PyData.eqv z d') = b) := fun {b} h => by
    unfold inD at h
    split at h
    · cases h
      exact .inl ⟨_, _, hx.str.1, hy.str.1, rfl⟩
    · rename_i ys _
      split at h
      · rename_i z
        rw [Bool.and_eq_true] at z
        have z1 := rdh_dp s hx z.1
        have z2 := rdh_dp s hy z.2
        rw [m.K]
        refine .inr ⟨py d, pys ys, z1.1, z2.1, z1.2, z2.2, ?_⟩
        have z3 : flatL 59 ys = true := z.2
        rw [any_py z.1 59 (by decide) ys z3]
        exact Option.some.inj h
      · cases h
    · cases h
  cases op with
  | eq =>
    obtain ⟨h1, h2, h3, h4, h5⟩ := eqk h
    exact OpR.d (op_eqD (by omega)) ⟨_, _, h1, h2, h3, h4, by rw [h5]; exact k⟩
  | ne =>
    cases q : eqv d e with
    | none => simp only [cmpD, q] at h; cases h
    | some c =>
      simp only [cmpD, q] at h
      cases h
      obtain ⟨h1, h2, h3, h4, h5⟩ := eqk q
      exact OpR.d (op_neD (by omega)) ⟨_, _, h1, h2, h3, h4, by rw [h5]; exact k⟩
  | lt =>
    simp only [cmpD] at h
    unfold ltD at h
    split at h
    · cases h; cases hx.int; cases hy.int
      exact OpR.d op_lt ⟨_, _, rfl, rfl, k⟩
    · cases h
      obtain ⟨rfl, _⟩ := hx.str
      obtain ⟨rfl, _⟩ := hy.str
      exact OpR.d op_lt_str ⟨_, _, rfl, rfl, by simpa using k⟩
    · cases h
    · rename_i hn _ _
      split at h
      · rename_i z
        rw [Bool.and_eq_true, Bool.and_eq_true] at z
        have z1 := rdh_dp s hx z.1.1
        have z2 := rdh_dp s hy z.1.2
        cases h
        have dp : (py d).depth ≤ 60 := by
          exact depth_flat DEP d z.1.1
        have dn : d ≠ .non := fun e => hn e
        refine OpR.d (op_ltv (by omega)) ⟨py d, py e, by rw [m.K]; exact z1.1, by rw [m.K]; exact z2.1, by rw [alike_py DEP d e z.1.1 z.1.2]; exact z.2, fun q => ?_, dp, ?_⟩
        · cases d <;> simp [py] at q <;> first | exact dn rfl | exact absurd (show false = true from z.1.1) (by decide)
        · rw [less_py DEP d e z.1.1 z.1.2 z.2 dn]; exact k
      · cases h
  | le =>
    simp only [cmpD] at h
    split at h
    · cases h; cases hx.int; cases hy.int
      exact OpR.d op_le ⟨_, _, rfl, rfl, k⟩
    · cases h
      obtain ⟨rfl, _⟩ := hx.str
      obtain ⟨rfl, _⟩ := hy.str
      exact OpR.d op_le_str ⟨_, _, rfl, rfl, by simpa using k⟩
    · cases h
  | gt =>
    simp only [cmpD] at h
    split at h
    · cases h; cases hx.int; cases hy.int
      exact OpR.d op_gt ⟨_, _, rfl, rfl, k⟩
    · cases h
      obtain ⟨rfl, _⟩ := hx.str
      obtain ⟨rfl, _⟩ := hy.str
      exact OpR.d op_gt_str ⟨_, _, rfl, rfl, by simpa using k⟩
    · cases h
  | ge =>
    simp only [cmpD] at h
    split at h
    · cases h; cases hx.int; cases hy.int
      exact OpR.d op_ge ⟨_, _, rfl, rfl, k⟩
    · cases h
      obtain ⟨rfl, _⟩ := hx.str
      obtain ⟨rfl, _⟩ := hy.str
      exact OpR.d op_ge_str ⟨_, _, rfl, rfl, by simpa using k⟩
    · cases h
  | is =>
    simp only [cmpD] at h
    split at h
    · cases h; cases hx.bl; cases hy.bl
      exact OpR.d op_is_bl ⟨_, _, rfl, rfl, k⟩
    · cases hy.non
      refine OpR.d op_isN ⟨rfl, ?_⟩
      rw [isN_of hx]
      cases h; exact k
    · cases h
  | isnot =>
    simp only [cmpD] at h
    split at h
    · cases h; cases hx.bl; cases hy.bl
      exact OpR.d op_isnot_bl ⟨_, _, rfl, rfl, k⟩
    · cases hy.non
      refine OpR.d op_notN ⟨rfl, ?_⟩
      rw [isN_of hx]
      cases h; exact k
    · cases h
  | isin =>
    rcases ink h with ⟨c, l, rfl, rfl, q⟩ | ⟨d', ds, h1, h2, h3, h4, q⟩
    · exact OpR.d op_in_sign ⟨c, _, rfl, rfl, by simp only [List.toList_toArray]; rw [q]; exact k⟩
    · exact OpR.d (op_inD (by omega)) ⟨d', ds, h1, h2, h3, h4, by rw [q]; exact k⟩
  | notin =>
    cases q : inD d e with
    | none => simp only [cmpD, q] at h; cases h
    | some c =>
      simp only [cmpD, q] at h
      cases h
      rcases ink q with ⟨c, l, rfl, rfl, q⟩ | ⟨d', ds, h1, h2, h3, h4, q⟩
      · exact OpR.d op_notIn_sign ⟨c, _, rfl, rfl, by simp only [List.toList_toArray]; rw [q]; exact k⟩
      · exact OpR.d (op_notInD (by omega)) ⟨d', ds, h1, h2, h3, h4, by rw [q]; exact k⟩
end
end Ev

set_option Elab.async false
set_option linter.all false
set_option maxRecDepth 100000
set_option maxHeartbeats 1000000
/-! Ev3c: subscripts, slices, truth by values. Own work. -/
namespace Ev
open PySem PySem.Spec PyProof.Rows L2
def DIx (X : Cx) : R2 := fun x y H Q => ∀ (value slice : Expr) pins s σ v u, Inv X pins σ H s → RelV x v → RelV y u → subscripted slice false v u = operate [v, u] (getItem v u) → wpAny (model X.prog X.w) X.A (subscriptTail value slice v u) (EP X pins σ Q) X.xe s
def DSl (X : Cx) : V → Option Int → Option Int → Hp → VK → Prop := fun x lo hi H Q => ∀ pins s σ v vl vu sl, Inv X pins σ H s → RelV x v → s.heap.IsSliceOf sl vl vu .none → IsPart vl lo → IsPart vu hi →
  ∃ T id, typeLookup (.type T) "__getitem__" = pure (some (.builtin id)) ∧ s.TypeIs v T ∧ wpAny (model X.prog X.w) X.A (getItem v (.ref sl)) (EP X pins σ Q) X.xe s
section
variable {g : Gi} {X : Cx} {H F : Hp} {x y v : V} {d e : D} {Q : VK}
theorem ix_D : IxR X (DIx X) := fun value slice pins s σ H x y v u Q I r1 r2 h hs => h value slice pins s σ v u I r1 r2 hs
theorem ix_use {r : R2} (h : IxR X r) (q : r x y H Q) : DIx X x y H Q := fun value slice pins s σ v u I r1 r2 hs => h value slice pins s σ H x y v u Q I r1 r2 q hs
theorem sl_D : SlR X (DSl X) := fun pins s σ H x v vl vu lo hi sl Q I r hs p1 p2 h => h pins s σ v vl vu sl I r hs p1 p2
theorem sl_use {r : V → Option Int → Option Int → Hp → VK → Prop} {lo hi : Option Int} (h : SlR X r) (q : r x lo hi H Q) : DSl X x lo hi H Q := fun pins s σ v vl vu sl I r hs p1 p2 => h pins s σ H x v vl vu lo hi sl Q I r hs p1 p2 q
theorem map_int_get {ns : List Int} {j : Nat} {n : Int} (h : ns[j]? = some n) : (ns.map V.int)[j]? = some (.int n) := by
  rw [List.getElem?_map, h] <;> rfl
theorem sub_ok {r : D} {bc : Bool} (m : Rm g bc X) (h : subD d e = some r) (s : Same F H) (hx : RdH g H F x d) (hy : RdH g H F y e) (k : ∀ v, RD g F v r → Q v H) : DIx X x y H Q := by
  unfold subD at h
  split at h
  · rename_i ns i
    obtain ⟨a, rfl, hq⟩ := hx.scr s
    cases hy.int
    cases hj : ixN ns.length i with
    | none => rw [hj] at h; cases h
    | some j =>
      rw [hj] at h
      cases hn : ns[j]? with
      | none => simp only [hn] at h; cases h
      | some n =>
        simp only [hn] at h
        cases h
        refine ix_use ix_list ⟨a, _, i, .int n, rfl, rfl, by rw [m.K]; exact hq, ?_, k _ (.int n)⟩
        show (L2.ixN (ns.map V.int).length i).bind _ = _
        rw [List.length_map]
        show (Ev.ixN ns.length i).bind _ = _
        rw [hj]
        exact map_int_get hn
  · rename_i xs i
    obtain ⟨a, ws, rfl, hq, rr⟩ := hx.lst s
    cases hy.int
    cases hj : ixN xs.length i with
    | none => rw [hj] at h; cases h
    | some j =>
      rw [hj] at h
      obtain ⟨w, hw, rw'⟩ := rr.get h
      refine ix_use ix_list ⟨a, ws, i, w, rfl, rfl, .inl (.inl hq), ?_, k _ rw'⟩
      show (L2.ixN ws.length i).bind _ = _
      rw [rr.length]
      show (Ev.ixN xs.length i).bind _ = _
      rw [hj]
      exact hw
  · rename_i xs i
    obtain ⟨a, ws, rfl, hq, rr⟩ := hx.tup s
    cases hy.int
    cases hj : ixN xs.length i with
    | none => rw [hj] at h; cases h
    | some j =>
      rw [hj] at h
      obtain ⟨w, hw, rw'⟩ := rr.get h
      refine ix_use ix_tup ⟨a, ws, i, w, rfl, rfl, by rw [m.K]; exact hq, ?_, k _ rw'⟩
      show (L2.ixN ws.length i).bind _ = _
      rw [rr.length]
      show (Ev.ixN xs.length i).bind _ = _
      rw [hj]
      exact hw
  · rename_i l i
    obtain ⟨rfl, ok⟩ := hx.str
    cases hy.int
    cases hj : ixN l.length i with
    | none => rw [hj] at h; cases h
    | some j =>
      rw [hj] at h
      cases hc : l[j]? with
      | none => simp only [hc] at h; cases h
      | some c =>
        simp only [hc] at h
        cases h
        refine ix_use ix_str ⟨_, i, c, rfl, rfl, by rw [str_len]; exact ok.1, ?_, k _ (.str [c] (okL_one ok (List.mem_of_getElem? hc)))⟩
        show (L2.ixN l.toArray.toList.length i).bind _ = _
        rw [List.toList_toArray]
        show (Ev.ixN l.length i).bind _ = _
        rw [hj]
        exact hc
  · cases h
theorem rds_ints : ∀ ns : List Int, RDs g F (ns.map .int) (ns.map .int)
  | [] => .nil
  | n :: ns => .cons (.int n) (rds_ints ns)
theorem cut_rds {xs : List V} {ds : List D} (r : RDs g F xs ds) (lo hi : Option Int) : RDs g F (cutV xs lo hi) (cut ds lo hi) := by
  unfold cutV cut
  rw [r.length]
  exact (r.drop _).take _
theorem cut_map {α β : Type} (f : α → β) (l : List α) (lo hi : Option Int) : cut (l.map f) lo hi = (cut l lo hi).map f := by
  unfold cut
  rw [List.length_map, List.map_take, List.map_drop]
theorem slice_ok {r : Vr} {lo hi : Option Int} {bc : Bool} (m : Rm g bc X) (h : slD d lo hi = some r) (s : Same F H) (hx : RdH g H F x d) (k : ∀ v H', Res g H F r v H' → Q v H') : DSl X x lo hi H Q := by
  unfold slD at h
  split at h
  · cases h
    obtain ⟨a, ws, rfl, hq, rr⟩ := hx.lst s
    exact sl_use sl_list ⟨a, ws, rfl, .inl (.inl hq), fun p hp => k _ _ (.lst s hp (cut_rds rr lo hi))⟩
  · rename_i ns
    cases h
    obtain ⟨a, rfl, hq⟩ := hx.scr s
    refine sl_use sl_list ⟨a, _, rfl, by rw [m.K]; exact hq, fun p hp => k _ _ (.lst s hp ?_)⟩
    rw [← cut_map]
    refine cut_rds ?_ lo hi
    exact rds_ints _
  · rename_i xs
    split at h
    · rename_i hz
      cases h
      obtain ⟨a, ws, rfl, hq, rr⟩ := hx.tup s
      have hl := (cut_rds rr lo hi).length
      refine sl_use sl_tup ⟨a, ws, rfl, by rw [m.K]; exact hq, fun ⟨z1, z2⟩ => ?_, fun p hp => k _ _ (.tup s hp (cut_rds rr lo hi))⟩
      have : (cutV ws lo hi).length = ws.length := by
        unfold cutV
        rw [z1, z2]
        simp
      rw [hl, rr.length] at this
      omega
    · cases h
  · cases h
    obtain ⟨rfl, ok⟩ := hx.str
    refine sl_use sl_str ⟨_, rfl, by rw [str_len]; exact ok.1, ?_⟩
    unfold cutS
    rw [str_len, List.toList_toArray]
    exact k _ _ (.same s (.str _ (okL_cut ok lo hi)))
  · cases h
/-! ### truth -/
theorem emp_of {α β : Type} {a : List α} {b : List β} (h : a.length = b.length) : (!a.isEmpty) = !b.isEmpty := by
  cases a <;> cases b <;> simp at h ⊢
theorem tru_of {k : Bool} {bc : Bool} (m : Rm g bc X) (h : truth d = some k) (s : Same F H) (hx : RdH g H F x d) : TruV X.K x H k := by
  rw [m.K]
  unfold truth at h
  split at h
  · cases h; cases hx.non; rfl
  · cases h; cases hx.bl; rfl
  · rename_i i
    cases h; cases hx.int
    show (!decide (i = 0)) = (i != 0)
    rw [bne, Bool.beq_eq_decide_eq]
  · rename_i l
    cases h
    obtain ⟨rfl, ok⟩ := hx.str
    refine ⟨by rw [str_len]; exact ok.1, ?_⟩
    rw [str_len]
    cases l with
    | nil => rfl
    | cons a l =>
      show true = _
      rw [bne, Bool.beq_eq_decide_eq, decide_eq_false (by simp only [List.length_cons]; omega)] <;> rfl
  · cases h
    obtain ⟨a, ws, rfl, hq, rr⟩ := hx.tup s
    exact .inr (.inl ⟨ws, hq, (emp_of rr.length).symm⟩)
  · cases h
    obtain ⟨a, ws, rfl, hq, rr⟩ := hx.lst s
    exact .inl ⟨ws, .inl (.inl hq), (emp_of rr.length).symm⟩
  · cases h
    obtain ⟨a, kvs, rfl, hq, n, ⟨rfl, _⟩, rr⟩ := hx.dic s
    exact .inr (.inr ⟨kvs, hq, (emp_of (by rw [List.length_map])).symm⟩)
  · cases h
end
end Ev

set_option Elab.async false
set_option linter.all false
set_option maxRecDepth 100000
set_option maxHeartbeats 1000000
/-! Ev3d: built-in functions and methods by values. Own work. -/
namespace Ev
open PySem PySem.Spec PyProof.Rows L2
section
variable {g : Gi} {X : Cx} {H F : Hp} {x y v : V} {d e : D} {Q : VK}

/-! ### [::-1] -/
def DRv (X : Cx) : V → Int → Hp → VK → Prop := fun x j H Q => ∀ (value : Expr) (se : Expr) (p : Pos) pins s σ v vs, Inv X pins σ H s → RelV x v → IsPart vs (some j) → 
  wpAny (model X.prog X.w) X.A (subscriptTail value (.Slice none none (some se) p) v (.ref s.heap.objs.size)) (EP X pins σ Q) X.xe { s with heap := s.heap.push { cls := .type "slice", data := .fields #[.none, .none, vs] } }
theorem rev_str (l : List Nat) : (PySem.Builtin.Str.strSliceIndices none none (-1) l.length).filterMap (fun i => l.toArray[i]?) = l.reverse := by
  have h1 : ¬ ((-1 : Int) > 0) := by decide
  have e : PySem.Builtin.Str.strSliceIndices none none (-1) l.length = sliceRange ((l.length : Int) - 1) (-1) (-1) := by
    unfold PySem.Builtin.Str.strSliceIndices
    simp only [h1, if_false]
  have z := PySem.W.krv_all l.toArray
  rw [List.size_toArray] at z
  rw [e, PySem.W.krv_sliceRange, PySem.W.krv_range, List.filterMap_reverse, z]
theorem rev_ok {r : Vr} {j : Int} {bc : Bool} (m : Rm g bc X) (h : revD d (.int j) = some r) (s : Same F H) (hx : RdH g H F x d) (k : ∀ v H', Res g H F r v H' → Q v H') : DRv X x j H Q := by
  unfold revD at h
  simp only at h
  split at h
  · rename_i hj
    subst hj
    split at h
    · cases h
      obtain ⟨a, ws, rfl, hq, rr⟩ := hx.lst s
      intro value se p pins s' σ v vs I r1 pk
      cases r1
      have I5 : Inv X pins σ H { s' with heap := s'.heap.push { cls := .type "slice", data := .fields #[.none, .none, vs] } } := I.kept (t' := s'.toks) fun b ob q => Heap.get?_push_of_some _ q
      obtain ⟨its, r, ht, hz⟩ := I5.list (SqL.of hq)
      have hlen := r.length
      refine tail_any (ops := [.ref a, .ref s'.heap.objs.size]) ht.isList.typeIs (PySem.slot_list_getitem.lookup) ?_ (by with_unfolding_all rfl)
      refine wpAny_getItem_list_slice ht.isList (Heap.IsSliceOf.new _ .none .none vs) .none .none pk (by decide) ?_ (by rw [List.size_toArray]; omega)
      rw [PySem.W.krv_pick]
      refine ⟨.ref _, _, I5.laid (t' := s'.toks) (o := .lst ws.reverse) (fun b ob q => Heap.get?_push_of_some _ q) (Nat.le_refl _) ?_, rfl, k _ _ (.lst s (I5.hok.fresh (Nat.le_refl _)) rr.reverse)⟩
      exact ⟨by rw [List.length_reverse]; exact hz, _, 0, r.reverse, Heap.get?_push_size _ rfl⟩
    · rename_i l
      cases h
      obtain ⟨rfl, ok⟩ := hx.str
      intro value se p pins s' σ v vs I r1 pk
      obtain ⟨t, rfl⟩ := r1
      obtain ⟨u, rfl⟩ : ∃ u, vs = partValue (some (-1, u)) := by
        obtain ⟨st, rfl, est⟩ := IsPart.raw pk
        cases st with
        | none => cases est
        | some q =>
          obtain ⟨i, u⟩ := q
          cases est
          exact ⟨u, rfl⟩
      have I5 : Inv X pins σ H { s' with heap := s'.heap.push { cls := .type "slice", data := .fields #[.none, .none, partValue (some (-1, u))] } } := I.kept (t' := s'.toks) fun b ob q => Heap.get?_push_of_some _ q
      refine tail_any (ops := [_, .ref s'.heap.objs.size]) (typeIs_str _ _ _) PySem.F.slot_str_getitem.lookup ?_ (by with_unfolding_all rfl)
      have hi : ({ s' with heap := s'.heap.push { cls := .type "slice", data := .fields #[.none, .none, partValue (some (-1, u))] } } : Shared).heap.IsSlice s'.heap.objs.size none none (some (-1, u)) := ⟨_, Heap.get?_push_size _ rfl, rfl, rfl⟩
      refine wpAny_getItem_str_slice hi rfl ?_
      have e : slicePicked ⟨l.toArray⟩ none none (some (-1, u)) = PySem.Builtin.Str.strSliceIndices none none (-1) l.length := by
        unfold slicePicked
        rw [str_len] <;> rfl
      unfold sliceMade
      rw [e, rev_str]
      show Made.post (if ((-1 : Int) == 1 && _) = true then _ else _) _ _
      rw [if_neg (by simp)]
      have ok2 : okL l.reverse := okL_sub ok (by rw [List.length_reverse]; exact Nat.le_refl _) fun c hc => List.mem_reverse.mp hc
      exact ⟨by rw [str_len]; exact ok2.1, .str _, H, I5.tok _, ⟨_, rfl⟩, k _ _ (.same s (.str _ ok2))⟩
    · cases h
  · cases h

/-! ### built-in functions -/
inductive RdHs (g : Gi) (H F : Hp) : List V → List D → Prop
  | nil : RdHs g H F [] []
  | cons {v vs d ds} : RdH g H F v d → RdHs g H F vs ds → RdHs g H F (v :: vs) (d :: ds)
theorem RdHs.one {vs : List V} {d : D} (h : RdHs g H F vs [d]) : ∃ v, vs = [v] ∧ RdH g H F v d := by
  cases h with
  | cons h r => cases r; exact ⟨_, rfl, h⟩
theorem RdHs.two {vs : List V} {d e : D} (h : RdHs g H F vs [d, e]) : ∃ v w, vs = [v, w] ∧ RdH g H F v d ∧ RdH g H F w e := by
  cases h with
  | cons h r =>
    obtain ⟨w, rfl, h2⟩ := r.one
    exact ⟨_, w, rfl, h, h2⟩
theorem RdHs.zero {vs : List V} (h : RdHs g H F vs []) : vs = [] := by cases h; rfl
theorem dsum_of : ∀ (l : List D) (a i : Int), Dsum l a = some i → ∃ ns : List Int, l = ns.map .int ∧ a + ns.sum = i
  | [], a, i, h => by cases h; exact ⟨[], rfl, by simp⟩
  | .int j :: r, a, i, h => by
    obtain ⟨ns, rfl, e⟩ := dsum_of r (a + j) i h
    exact ⟨j :: ns, rfl, by rw [List.sum_cons]; omega⟩
  | .non :: _, _, _, h => by cases h
  | .bl _ :: _, _, _, h => by cases h
  | .str _ :: _, _, _, h => by cases h
  | .tup _ :: _, _, _, h => by cases h
  | .lst _ :: _, _, _, h => by cases h
  | .dic _ _ :: _, _, _, h => by cases h
  | .fn _ :: _, _, _, h => by cases h
  | .scr _ :: _, _, _, h => by cases h
  | .exc _ _ :: _, _, _, h => by cases h
theorem len_dK : CallR X (.builtin "len") (fun xs H Q => ∃ a kvs, xs = [.ref a] ∧ H a = some (.dK kvs) ∧ Q (.int kvs.length) H) := by
  intro pins s σ H xs us Q I r h
  obtain ⟨a, kvs, rfl, hd, q⟩ := h
  exact call_lenD pins s σ H _ us Q I r ⟨a, kvs, rfl, hd, q⟩
theorem len_ok {r : Vr} {vs : List V} {ds : List D} {bc : Bool} (m : Rm g bc X) (h : biD .len ds = some r) (s : Same F H) (hx : RdHs g H F vs ds) (k : ∀ v H', Res g H F r v H' → Q v H') : DCall X (.builtin "len") vs H Q := by
  unfold biD at h
  split at h <;> first
    | (exfalso; rename_i q; exact Bi.noConfusion q)
    | (exfalso; rename_i q _; exact Bi.noConfusion q)
    | (cases h; done)
    | skip
  · cases h
    obtain ⟨v, rfl, h1⟩ := hx.one
    obtain ⟨a, rfl, hq⟩ := h1.scr s
    exact CallR.d call_len ⟨_, _, rfl, .inl ⟨_, by rw [m.K]; exact hq, rfl⟩, by rw [List.length_map]; exact k _ _ (.same s (.int _))⟩
  · cases h
    obtain ⟨v, rfl, h1⟩ := hx.one
    obtain ⟨rfl, ok⟩ := h1.str
    exact CallR.d call_len ⟨_, _, rfl, ⟨by rw [str_len]; exact ok.1, rfl⟩, by rw [str_len]; exact k _ _ (.same s (.int _))⟩
  · cases h
    obtain ⟨v, rfl, h1⟩ := hx.one
    obtain ⟨a, ws, rfl, hq, rr⟩ := h1.lst s
    exact CallR.d call_len ⟨_, _, rfl, .inl ⟨_, .inl (.inl hq), rfl⟩, by rw [rr.length]; exact k _ _ (.same s (.int _))⟩
  · cases h
    obtain ⟨v, rfl, h1⟩ := hx.one
    obtain ⟨a, ws, rfl, hq, rr⟩ := h1.tup s
    exact CallR.d call_len ⟨_, _, rfl, .inr ⟨_, by rw [m.K]; exact hq, rfl⟩, by rw [rr.length]; exact k _ _ (.same s (.int _))⟩
  · cases h
    obtain ⟨v, rfl, h1⟩ := hx.one
    obtain ⟨a, kvs, rfl, hq, n, ⟨rfl, _⟩, rr⟩ := h1.dic s
    exact CallR.d len_dK ⟨a, kvs, rfl, hq, by rw [List.length_map] at k; exact k _ _ (.same s (.int _))⟩
theorem int_ok {r : Vr} {vs : List V} {ds : List D} {bc : Bool} (m : Rm g bc X) (h : biD .int ds = some r) (s : Same F H) (hx : RdHs g H F vs ds) (k : ∀ v H', Res g H F r v H' → Q v H') : DCall X (.type "int") vs H Q := by
  unfold biD at h
  split at h <;> first
    | (exfalso; rename_i q; exact Bi.noConfusion q)
    | (exfalso; rename_i q _; exact Bi.noConfusion q)
    | (cases h; done)
    | skip
  · cases h
    obtain ⟨v, rfl, h1⟩ := hx.one
    cases h1.int
    exact CallR.d call_int1 (.inl ⟨_, rfl, k _ _ (.same s (.int _))⟩)
  · cases h
    obtain ⟨v, rfl, h1⟩ := hx.one
    cases h1.bl
    exact CallR.d call_int1 (.inr ⟨_, rfl, k _ _ (.same s (.int _))⟩)
theorem max_ok {r : Vr} {vs : List V} {ds : List D} (m : Rm g true X) (h : biD .max2 ds = some r) (s : Same F H) (hx : RdHs g H F vs ds) (k : ∀ v H', Res g H F r v H' → Q v H') : DCall X (.builtin "max") vs H Q := by
  unfold biD at h
  split at h <;> first
    | (exfalso; rename_i q; exact Bi.noConfusion q)
    | (exfalso; rename_i q _; exact Bi.noConfusion q)
    | (cases h; done)
    | skip
  cases h
  obtain ⟨v, w, rfl, h1, h2⟩ := hx.two
  cases h1.int; cases h2.int
  exact CallR.d (call_max2 m.calm) ⟨_, _, rfl, k _ _ (.same s (.int _))⟩
theorem min_ok {r : Vr} {vs : List V} {ds : List D} (m : Rm g true X) (h : biD .min2 ds = some r) (s : Same F H) (hx : RdHs g H F vs ds) (k : ∀ v H', Res g H F r v H' → Q v H') : DCall X (.builtin "min") vs H Q := by
  unfold biD at h
  split at h <;> first
    | (exfalso; rename_i q; exact Bi.noConfusion q)
    | (exfalso; rename_i q _; exact Bi.noConfusion q)
    | (cases h; done)
    | skip
  cases h
  obtain ⟨v, w, rfl, h1, h2⟩ := hx.two
  cases h1.int; cases h2.int
  exact CallR.d (call_min2 m.calm) ⟨_, _, rfl, k _ _ (.same s (.int _))⟩
theorem sum_ok {r : Vr} {vs : List V} {ds : List D} (m : Rm g true X) (h : biD .sum ds = some r) (s : Same F H) (hx : RdHs g H F vs ds) (k : ∀ v H', Res g H F r v H' → Q v H') : DCall X (.builtin "sum") vs H Q := by
  unfold biD at h
  split at h <;> first
    | (exfalso; rename_i q; exact Bi.noConfusion q)
    | (exfalso; rename_i q _; exact Bi.noConfusion q)
    | (cases h; done)
    | skip
  rename_i l _
  cases hs : Dsum l 0 with
  | none => rw [hs] at h; cases h
  | some i =>
    rw [hs] at h
    cases h
    obtain ⟨ns, rfl, e⟩ := dsum_of _ _ _ hs
    obtain ⟨v, rfl, h1⟩ := hx.one
    obtain ⟨a, ws, rfl, hq, rr⟩ := h1.lst s
    cases rr.ints
    refine CallR.d (cr_sum m.calm) ⟨a, ns, rfl, .inl (.inl hq), ?_⟩
    rw [show ns.sum = i by omega]
    exact k _ _ (.same s (.int _))
theorem list_str (hc : X.calm = true) : CallR X (.type "list") (fun xs H Q => ∃ l : List Nat, xs = [V.str ⟨l.toArray⟩] ∧ l.length ≤ sizeLine ∧ ∀ p, H p = none → Q (.ref p) (upd H p (.lst (l.map fun c => (V.str ⟨#[c]⟩ : V))))) := by
  intro pins s σ H xs us Q I r h
  obtain ⟨l, rfl, hz, q⟩ := h
  obtain ⟨u, rfl, t, rfl⟩ := vals1 r
  refine call_list_str (I.ok.hd hc) _ t (fun h' tk acc c' hk e it => ?_) (by simpa using hz)
  have hv : Vals (l.map fun c => V.str ⟨#[c]⟩) acc.toList := by
    have hs : acc.size = l.length := by rw [it.1]; simp
    have : ∀ (a : List Value) (b : List Nat), a.length = b.length → (∀ (j : Nat) (v : Value), a[j]? = some v → ∃ (c : Nat) (u : Tok), b[j]? = some c ∧ v = Value.str ⟨#[c]⟩ u) → Vals (b.map fun c => V.str ⟨#[c]⟩) a := by
      intro a
      induction a with
      | nil => intro b hb _; cases b with
        | nil => exact .nil
        | cons _ _ => cases hb
      | cons v a ih =>
        intro b hb hj
        cases b with
        | nil => cases hb
        | cons c b =>
          obtain ⟨c', u, e1, e2⟩ := hj 0 v rfl
          cases e1
          exact .cons ⟨u, e2⟩ (ih b (by simpa using hb) fun j v e => hj (j + 1) v (by simpa using e))
    refine this _ _ (by simpa using hs) fun j v e => ?_
    obtain ⟨c, u, e1, e2⟩ := it.2 j v (by simpa using e)
    exact ⟨c, u, by simpa using e1, e2⟩
  refine ⟨.ref s.heap.objs.size, _, I.laid (t' := tk) (o := .lst (l.map fun c => V.str ⟨#[c]⟩)) hk (Nat.le_refl _) ?_, rfl, q _ (I.hok.fresh (Nat.le_refl _))⟩
  exact ⟨by rw [List.length_map]; exact hz, acc.toList, c', hv, by simpa using e⟩
theorem rds_signs (ok : okL l) : RDs g F (l.map fun c => V.str ⟨#[c]⟩) (l.map fun c => .str [c]) := by
  have : ∀ l' : List Nat, (∀ c ∈ l', c ∈ l) → RDs g F (l'.map fun c => V.str ⟨#[c]⟩) (l'.map fun c => .str [c]) := by
    intro l'
    induction l' with
    | nil => intro _; exact .nil
    | cons c l' ih => intro h; exact .cons (.str [c] (okL_one ok (h c List.mem_cons_self))) (ih fun b hb => h b (List.mem_cons_of_mem _ hb))
  exact this l fun _ h => h
theorem list_ok {r : Vr} {vs : List V} {ds : List D} (m : Rm g true X) (h : biD .list ds = some r) (s : Same F H) (hx : RdHs g H F vs ds) (k : ∀ v H', Res g H F r v H' → Q v H') : DCall X (.type "list") vs H Q := by
  unfold biD at h
  split at h <;> first
    | (exfalso; rename_i q; exact Bi.noConfusion q)
    | (exfalso; rename_i q _; exact Bi.noConfusion q)
    | (cases h; done)
    | skip
  · cases h
    obtain ⟨v, rfl, h1⟩ := hx.one
    obtain ⟨a, ws, rfl, hq, rr⟩ := h1.lst s
    exact CallR.d call_list_of ⟨a, ws, rfl, .inl (.inl (.inl hq)), fun p hp => k _ _ (.lst s hp rr)⟩
  · cases h
    obtain ⟨v, rfl, h1⟩ := hx.one
    obtain ⟨a, ws, rfl, hq, rr⟩ := h1.tup s
    exact CallR.d call_list_of ⟨a, ws, rfl, .inr (by rw [m.K]; exact hq), fun p hp => k _ _ (.lst s hp rr)⟩
  · cases h
    obtain ⟨v, rfl, h1⟩ := hx.one
    obtain ⟨rfl, ok⟩ := h1.str
    exact CallR.d (list_str m.calm) ⟨_, rfl, ok.1, fun p hp => k _ _ (.lst s hp (rds_signs ok))⟩
theorem tuple_ok {r : Vr} {vs : List V} {ds : List D} {bc : Bool} (m : Rm g bc X) (h : biD .tuple ds = some r) (s : Same F H) (hx : RdHs g H F vs ds) (k : ∀ v H', Res g H F r v H' → Q v H') : DCall X (.type "tuple") vs H Q := by
  unfold biD at h
  split at h <;> first
    | (exfalso; rename_i q; exact Bi.noConfusion q)
    | (exfalso; rename_i q _; exact Bi.noConfusion q)
    | (cases h; done)
    | skip
  · cases h
    obtain ⟨v, rfl, h1⟩ := hx.one
    obtain ⟨a, ws, rfl, hq, rr⟩ := h1.lst s
    exact CallR.d call_tuple_of ⟨a, ws, rfl, .inl ⟨.inl (.inl hq), fun p hp => k _ _ (.tup s hp rr)⟩⟩

/-! ### repr -/
section
variable {pins : List (Addr × Obj)} {σ : St} {t : Shared}
theorem reads_keys : ∀ {es : List DictEntry} {vs : List (Key × Value)} {kvs : List (Key × V)}, PySem.Pairs (mixKind X.prog X.w) es vs → KV kvs vs →
    ∃ as, ReadsAll t.heap (es.map (·.key)) (pys (kvs.map fun p => keyD p.1)) as ∧ as = [] := by
  intro es vs kvs p
  induction p generalizing kvs with
  | nil => intro r; cases r; exact ⟨[], .nil, rfl⟩
  | @cons e kv es vs h1 h2 _ ih =>
    intro r
    cases r with
    | @cons q _ qs _ hq r =>
      obtain ⟨as, z, rfl⟩ := ih r
      obtain ⟨e1, _⟩ := hq
      obtain ⟨qk, qv⟩ := q
      have h1 : keyIs kv.1 e.key = true := h1
      rcases keyIs_shape h1 with ⟨i, tk, a1, a2⟩ | ⟨x, tk, a1, a2⟩
      · have e1 : qk = _ := e1.trans a1
        subst e1
        refine ⟨[], ?_, rfl⟩
        rw [List.map_cons, a2]
        exact .cons (as := []) (.int i tk) z
      · have e1 : qk = _ := e1.trans a1
        subst e1
        refine ⟨[], ?_, rfl⟩
        rw [List.map_cons, a2]
        have : py (keyD (.inr x)) = .str x := rfl
        show ReadsAll _ _ (py (keyD (.inr x)) :: _) _
        rw [this]
        exact .cons (as := []) (.str x tk) z
theorem pairs_vals : ∀ {es : List DictEntry} {vs : List (Key × Value)} {kvs : List (Key × V)}, PySem.Pairs (mixKind X.prog X.w) es vs → KV kvs vs → Vals (kvs.map (·.2)) (es.map (·.val)) := by
  intro es vs kvs p
  induction p generalizing kvs with
  | nil => intro r; cases r; exact .nil
  | @cons e kv es vs h1 h2 _ ih =>
    intro r
    cases r with
    | @cons q _ qs _ hq r =>
      rw [List.map_cons, List.map_cons, h2]
      exact .cons hq.2 (ih r)
theorem pys_map {α : Type} (f : α → D) : ∀ l : List α, pys (l.map f) = l.map fun a => py (f a)
  | [] => rfl
  | a :: l => by rw [List.map_cons, pys, pys_map f l, List.map_cons]
theorem pys_eq : ∀ l : List D, pys l = l.map py
  | [] => rfl
  | a :: l => by rw [pys, pys_eq l, List.map_cons]
theorem pys_len (l : List D) : (pys l).length = l.length := by rw [pys_eq, List.length_map]
theorem keys_show {w : Bool} : ∀ (n : Nat) (ks : List Key), showDs w n (ks.map keyD) = true → PyData.showableAll (pys (ks.map keyD)) = true ∧ PyData.depthAll (pys (ks.map keyD)) = 0
  | _, [], _ => ⟨rfl, rfl⟩
  | n, k :: ks, f => by
    rw [List.map_cons, showDs, Bool.and_eq_true] at f
    obtain ⟨h1, h2⟩ := keys_show n ks f.2
    rw [List.map_cons, pys, PyData.showableAll, PyData.depthAll, h1, h2]
    cases k with
    | inl i =>
      have := f.1
      cases n <;> (simp [keyD, showD] at this; simp [keyD, py, PyData.showable, PyData.depth, this])
    | inr x => simp [keyD, py, PyData.showable, PyData.depth]
theorem zip_show : ∀ a b : List PyData, PyData.showableAll a = true → PyData.showableAll b = true → PyData.showableKv (a.zip b) = true
  | [], _, _, _ => by simp [PyData.showableKv]
  | _ :: _, [], _, _ => by simp [PyData.showableKv]
  | x :: a, y :: b, h1, h2 => by
    rw [PyData.showableAll, Bool.and_eq_true] at h1 h2
    rw [List.zip_cons_cons, PyData.showableKv, h1.1, h2.1, zip_show a b h1.2 h2.2] <;> rfl
theorem zip_depth : ∀ (a b : List PyData) (n : Nat), PyData.depthAll a ≤ n → PyData.depthAll b ≤ n → PyData.depthKv (a.zip b) ≤ n
  | [], _, _, _, _ => by simp [PyData.depthKv]
  | _ :: _, [], _, _, _ => by simp [PyData.depthKv]
  | x :: a, y :: b, n, h1, h2 => by
    rw [PyData.depthAll] at h1 h2
    have := zip_depth a b n (by omega) (by omega)
    rw [List.zip_cons_cons, PyData.depthKv]
    omega
mutual
theorem reads_of {w : Bool} {bc : Bool} (m : Rm g bc X) (I : Inv X pins σ H t) (s : Same F H) : ∀ (n : Nat) (d : D) (v : V) (u : Value), RD g F v d → RelV v u → showD w n d = true →
    ∃ as, Reads t.heap u (py d) as ∧ (py d).showable = true ∧ (py d).depth ≤ n ∧ (w = false → sysModules ∉ as) ∧ (w = true → (py d).hasDict = false)
  | _, .non, _, _, h, r, f => by cases h; cases r; exact ⟨[], .none, by simp [py, PyData.showable], by simp [py, PyData.depth], fun _ => by simp, fun _ => by simp [py, PyData.hasDict]⟩
  | _, .bl b, _, _, h, r, f => by cases h; cases r; exact ⟨[], .bool b, by simp [py, PyData.showable], by simp [py, PyData.depth], fun _ => by simp, fun _ => by simp [py, PyData.hasDict]⟩
  | _, .int i, _, _, h, r, f => by
    cases h
    obtain ⟨tk, rfl⟩ := r
    exact ⟨[], .int i tk, by simpa [py, PyData.showable, showD] using f, by simp [py, PyData.depth], fun _ => by simp, fun _ => by simp [py, PyData.hasDict]⟩
  | _, .str l, _, _, h, r, f => by
    cases h
    obtain ⟨tk, rfl⟩ := r
    exact ⟨[], .str _ tk, by simp [py, PyData.showable], by simp [py, PyData.depth], fun _ => by simp, fun _ => by simp [py, PyData.hasDict]⟩
  | 0, .lst _, _, _, _, _, f => by simp [showD] at f
  | 0, .tup _, _, _, _, _, f => by simp [showD] at f
  | 0, .dic _ _, _, _, _, _, f => by simp [showD] at f
  | n + 1, .lst ds, _, _, h, r, f => by
    cases h with
    | lst h rr =>
      cases r
      rw [showD, Bool.and_eq_true] at f
      obtain ⟨its, rv, ⟨o, q, ho, hc, _, hd⟩, _⟩ := I.list (SqL.of (s _ _ h))
      obtain ⟨as, z1, z2, z3, z4, z5⟩ := reads_ofs m I s n ds _ _ rr rv f.2
      refine ⟨_, .list ho hc hd z1, by simpa [py, PyData.showable] using z2, by simp only [py, PyData.depth]; omega, fun hw => ?_, fun hw => by simpa [py, PyData.hasDict] using z5 hw⟩
      rw [hw] at f
      exact absurd f.1 (by decide)
  | n + 1, .tup ds, _, _, h, r, f => by
    cases h with
    | tup h rr =>
      cases r
      rw [showD] at f
      obtain ⟨its, rv, ⟨o, ho, hc, q, hd⟩, _⟩ := I.tuple (by rw [m.K]; exact Same.seqT s h)
      obtain ⟨as, z1, z2, z3, z4, z5⟩ := reads_ofs m I s n ds _ _ rr rv f
      exact ⟨_, .tuple ho hc hd z1, by simpa [py, PyData.showable] using z2, by simp only [py, PyData.depth]; omega, z4, fun hw => by simpa [py, PyData.hasDict] using z5 hw⟩
  | n + 1, .dic ks vs, _, _, h, r, f => by
    cases h with
    | dic h nd ek rr =>
      cases r
      rw [showD, Bool.and_eq_true, Bool.and_eq_true] at f
      obtain ⟨hz, hm, ws, kv, o, es, ep, ho, ex, hd, hk, hp, hn⟩ := I.hok _ _ (s _ _ h)
      obtain ⟨rfl, _⟩ := ek
      obtain ⟨as1, y1, rfl⟩ := reads_keys (X := X) (t := t) hp kv
      have rv := pairs_vals hp kv
      obtain ⟨as, z1, z2, z3, z4, z5⟩ := reads_ofs m I s n vs _ _ rr rv f.2.2
      have hlen := rr.length
      rw [List.length_map] at hlen
      have ek : ∀ l : List (Key × V), l.map (fun p => keyD p.1) = (l.map (·.1)).map keyD := fun l => by rw [List.map_map]; rfl
      obtain ⟨y2, y3⟩ := keys_show n _ (by rw [← ek]; exact f.2.1)
      rw [← ek] at y2 y3
      have e1 := List.map_fst_zip (l₁ := pys (List.map (fun p : Key × V => keyD p.1) _)) (l₂ := pys vs) (by rw [pys_len, pys_len, List.length_map, hlen]; exact Nat.le_refl _)
      have e2 := List.map_snd_zip (l₁ := pys (List.map (fun p : Key × V => keyD p.1) _)) (l₂ := pys vs) (by rw [pys_len, pys_len, List.length_map, hlen]; exact Nat.le_refl _)
      refine ⟨_, .dict (kvs := (pys _).zip (pys vs)) ho ex.1 hd (by rw [e1]; exact y1) (by rw [e2]; exact z1), ?_, ?_, fun hw => ?_, fun hw => ?_⟩
      · simpa [py, PyData.showable] using zip_show _ _ y2 z2
      · simp only [py, PyData.depth]
        have := zip_depth _ _ n (by rw [y3]; omega) z3
        omega
      · rw [List.singleton_append, List.mem_cons]
        intro q
        rcases q with q | q
        · rw [← q] at hm
          exact absurd hm (by decide)
        · exact z4 hw q
      · rw [hw] at f
        exact absurd f.1 (by decide)
  | 0, .fn _, _, _, _, _, f => by simp [showD] at f
  | _ + 1, .fn _, _, _, _, _, f => by simp [showD] at f
  | 0, .scr _, _, _, _, _, f => by simp [showD] at f
  | _ + 1, .scr _, _, _, _, _, f => by simp [showD] at f
  | 0, .exc _ _, _, _, _, _, f => by simp [showD] at f
  | _ + 1, .exc _ _, _, _, _, _, f => by simp [showD] at f
theorem reads_ofs {w : Bool} {bc : Bool} (m : Rm g bc X) (I : Inv X pins σ H t) (s : Same F H) : ∀ (n : Nat) (ds : List D) (vs : List V) (us : List Value), RDs g F vs ds → Vals vs us → showDs w n ds = true →
    ∃ as, ReadsAll t.heap us (pys ds) as ∧ PyData.showableAll (pys ds) = true ∧ PyData.depthAll (pys ds) ≤ n ∧ (w = false → sysModules ∉ as) ∧ (w = true → PyData.hasDictAll (pys ds) = false)
  | _, [], _, _, h, r, _ => by cases h; cases r; exact ⟨[], .nil, by simp [pys, PyData.showableAll], by simp [pys, PyData.depthAll], fun _ => by simp, fun _ => by simp [pys, PyData.hasDictAll]⟩
  | n, d :: ds, _, _, h, r, f => by
    cases h with
    | cons h hs =>
      cases r with
      | cons r rs =>
        rw [showDs, Bool.and_eq_true] at f
        obtain ⟨as, z1, z2, z3, z4, z5⟩ := reads_of m I s n d _ _ h r f.1
        obtain ⟨bs, y1, y2, y3, y4, y5⟩ := reads_ofs m I s n ds _ _ hs rs f.2
        refine ⟨as ++ bs, .cons z1 y1, by simp [pys, PyData.showableAll, z2, y2], by simp only [pys, PyData.depthAll]; omega, fun hw => ?_, fun hw => by simp [pys, PyData.hasDictAll, z5 hw, y5 hw]⟩
        rw [List.mem_append]
        exact fun q => q.elim (z4 hw) (y4 hw)
end
end
end
end Ev

set_option Elab.async false
set_option linter.all false
set_option maxRecDepth 100000
set_option maxHeartbeats 1000000
/-! Ev3e: repr, isinstance, dict, methods by values. Own work. -/
namespace Ev
open PySem PySem.Spec PyProof.Rows L2
section
variable {g : Gi} {X : Cx} {H F : Hp} {x y v : V} {d e : D} {Q : VK}

/-! ### repr -/
/-- signs within Unicode -/
def StOk (x : Str) : Prop := ∀ c ∈ x.cps.toList, c < 0x110000
theorem StOk.of (x : String) : StOk (Str.ofString x) := by
  intro c hc
  rw [Str.ofString_eq_toList] at hc
  obtain ⟨a, _, rfl⟩ := List.mem_map.mp (by simpa using hc)
  have := a.valid
  rcases this with h | h
  · exact Nat.lt_trans h (by decide)
  · exact h.2
theorem StOk.app {x y : Str} (a : StOk x) (b : StOk y) : StOk (x ++ y) := by
  intro c hc
  have hc : c ∈ (x.cps ++ y.cps).toList := hc
  rw [Array.toList_append, List.mem_append] at hc
  exact hc.elim (a c) (b c)
theorem StOk.join {x : Str} (a : StOk x) : ∀ l : List Str, (∀ y ∈ l, StOk y) → StOk (Str.join x l)
  | [], _ => fun c hc => by simp [Str.join, Str.empty] at hc
  | [y], h => h y (by simp)
  | y :: z :: r, h => by
    show StOk (y ++ x ++ Str.join x (z :: r))
    exact ((h y (by simp)).app a).app (StOk.join a (z :: r) fun u hu => h u (List.mem_cons_of_mem _ hu))
theorem StOk.from : ∀ (l : List Str) (k : Nat) (acc : Str), StOk acc → (∀ y ∈ l, StOk y) → StOk (textFrom k acc l)
  | [], _, _, a, _ => a
  | y :: r, k, acc, a, h => by
    unfold textFrom
    refine StOk.from r _ _ ((a.app ?_).app (h y (by simp))) fun u hu => h u (List.mem_cons_of_mem _ hu)
    exact StOk.of _
theorem rch_ok {q c : Nat} (hq : q < 0x110000) (hc : c < 0x110000) : ∀ b ∈ PySem.Builtin.Str.reprChar q c, b < 0x110000 := by
  have dg : ∀ w : Nat, ∀ b ∈ List.replicate w 48 ++ (Nat.toDigits 16 c).map Char.toNat, b < 0x110000 := fun w b hb => by
    rcases List.mem_append.mp hb with hb | hb
    · rw [List.eq_of_mem_replicate hb]; decide
    · obtain ⟨a, _, rfl⟩ := List.mem_map.mp hb
      rcases a.valid with h | h
      · exact Nat.lt_trans h (by decide)
      · exact h.2
  have pre : ∀ (l m : List Nat), (∀ b ∈ l, b < 0x110000) → (∀ b ∈ m, b < 0x110000) → ∀ b ∈ l ++ m, b < 0x110000 := fun l m h1 h2 b hb => (List.mem_append.mp hb).elim (h1 b) (h2 b)
  intro b hb
  unfold PySem.Builtin.Str.reprChar at hb
  simp only at hb
  split at hb
  · rcases List.mem_cons.mp hb with rfl | hb
    · decide
    · rw [List.mem_singleton.mp hb]; exact hc
  split at hb
  · simp at hb; omega
  split at hb
  · simp at hb; omega
  split at hb
  · simp at hb; omega
  split at hb
  · rw [List.mem_singleton.mp hb]; exact hc
  split at hb
  · exact pre _ _ (by simp) (dg _) b hb
  split at hb
  · exact pre _ _ (by simp) (dg _) b hb
  · exact pre _ _ (by simp) (dg _) b hb
theorem rtx_ok {x : Str} (h : StOk x) : StOk (PySem.reprText x) := by
  have hq : PySem.reprQuote x < 0x110000 := by
    unfold PySem.reprQuote
    split <;> decide
  have : ∀ (l : List Nat) (acc : Array Nat), (∀ c ∈ l, c < 0x110000) → (∀ c ∈ acc.toList, c < 0x110000) → ∀ c ∈ (l.foldl (fun out c => out ++ (PySem.Builtin.Str.reprChar (PySem.reprQuote x) c).toArray) acc).toList, c < 0x110000 := by
    intro l
    induction l with
    | nil => intro acc _ h; exact h
    | cons a l ih =>
      intro acc h1 h2
      rw [List.foldl_cons]
      refine ih _ (fun c hc => h1 c (List.mem_cons_of_mem _ hc)) fun c hc => ?_
      rw [Array.toList_append, List.mem_append] at hc
      exact hc.elim (h2 c) fun hc => rch_ok hq (h1 a List.mem_cons_self) c (by simpa using hc)
  intro c hc
  unfold PySem.reprText at hc
  rw [Array.toList_push, List.mem_append] at hc
  rcases hc with hc | hc
  · rw [← Array.foldl_toList] at hc
    exact this _ _ h (fun c hc => by simp at hc; rw [hc]; exact hq) c hc
  · rw [List.mem_singleton.mp hc]; exact hq
theorem zip_sh : ∀ a b : List PyData, (∀ x ∈ PyData.shownAll a, StOk x) → (∀ x ∈ PyData.shownAll b, StOk x) → ∀ x ∈ PyData.shownKv (a.zip b), StOk x
  | [], _, _, _ => by simp [PyData.shownKv]
  | _ :: _, [], _, _ => by simp [PyData.shownKv]
  | p :: a, q :: b, h1, h2 => by
    rw [PyData.shownAll] at h1 h2
    rw [List.zip_cons_cons, PyData.shownKv]
    intro x hx
    rcases List.mem_cons.mp hx with rfl | hx
    · exact ((h1 _ List.mem_cons_self).app (.of _)).app (h2 _ List.mem_cons_self)
    · exact zip_sh a b (fun x hx => h1 x (List.mem_cons_of_mem _ hx)) (fun x hx => h2 x (List.mem_cons_of_mem _ hx)) x hx
mutual
def strsOk : D → Prop
  | .str l => ∀ c ∈ l, c < 0x110000
  | .tup ds => strsOks ds
  | .lst ds => strsOks ds
  | .dic ks vs => strsOks ks ∧ strsOks vs
  | _ => True
def strsOks : List D → Prop
  | [] => True
  | d :: ds => strsOk d ∧ strsOks ds
end
mutual
theorem shown_ok : ∀ d : D, strsOk d → StOk (py d).shown
  | .non, _ => by simp only [py, PyData.shown]; exact .of _
  | .bl b, _ => by simp only [py, PyData.shown]; split <;> exact .of _
  | .int i, _ => by simp only [py, PyData.shown]; exact .of _
  | .str l, h => by
    simp only [py, PyData.shown]
    refine rtx_ok fun c hc => ?_
    rw [strsOk] at h
    exact h c (by simpa using hc)
  | .tup ds, h => by
    rw [strsOk] at h
    simp only [py, PyData.shown, tupleText]
    refine ((StOk.of _).app (StOk.join (.of _) _ (shown_oks ds h))).app (.of _)
  | .lst ds, h => by
    rw [strsOk] at h
    simp only [py, PyData.shown, listText]
    exact (StOk.from _ _ _ (.of _) (shown_oks ds h)).app (.of _)
  | .dic ks vs, h => by
    rw [strsOk] at h
    simp only [py, PyData.shown, dictText]
    exact ((StOk.of _).app (StOk.join (.of _) _ (zip_sh _ _ (shown_oks ks h.1) (shown_oks vs h.2)))).app (.of _)
  | .fn _, _ => by simp only [py, PyData.shown]; exact .of _
  | .scr _, _ => by simp only [py, PyData.shown]; exact .of _
  | .exc _ _, _ => by simp only [py, PyData.shown]; exact .of _
theorem shown_oks : ∀ ds : List D, strsOks ds → ∀ x ∈ PyData.shownAll (pys ds), StOk x
  | [], _ => by simp [pys, PyData.shownAll]
  | d :: ds, h => by
    rw [strsOks] at h
    rw [pys, PyData.shownAll]
    intro x hx
    rcases List.mem_cons.mp hx with rfl | hx
    · exact shown_ok d h.1
    · exact shown_oks ds h.2 x hx
end
mutual
theorem RD.strs : ∀ {v : V} {d : D}, showD w n d = true → RD g F v d → strsOk d
  | _, _, _, .non => by simp [strsOk]
  | _, _, _, .bl b => by simp [strsOk]
  | _, _, _, .int i => by simp [strsOk]
  | _, _, _, .str l h => by rw [strsOk]; exact h.2
  | _, _, f, .tup h r => by
    rw [strsOk]
    cases n with
    | zero => simp [showD] at f
    | succ n => exact RDs.strs (w := w) (n := n) (by simpa [showD] using f) r
  | _, _, f, .lst h r => by
    rw [strsOk]
    cases n with
    | zero => simp [showD] at f
    | succ n => exact RDs.strs (w := w) (n := n) (by rw [showD, Bool.and_eq_true] at f; exact f.2) r
  | _, _, _, .scr h => by simp [strsOk]
  | _, _, f, .dic h nd e r => by
    rw [strsOk]
    cases n with
    | zero => simp [showD] at f
    | succ n =>
      rw [showD, Bool.and_eq_true, Bool.and_eq_true] at f
      refine ⟨?_, RDs.strs (w := w) (n := n) f.2.2 r⟩
      have : ∀ ks : List D, (∀ l, D.str l ∈ ks → okL l) → (∀ k ∈ ks, ∃ q, k = keyD q) → strsOks ks := by
        intro ks
        induction ks with
        | nil => intro _ _; simp [strsOks]
        | cons k ks ih =>
          intro h1 h2
          rw [strsOks]
          refine ⟨?_, ih (fun l hl => h1 l (List.mem_cons_of_mem _ hl)) fun k hk => h2 k (List.mem_cons_of_mem _ hk)⟩
          obtain ⟨q, rfl⟩ := h2 k List.mem_cons_self
          cases q with
          | inl i => simp [keyD, strsOk]
          | inr x =>
            simp only [keyD, strsOk]
            exact (h1 _ (by simp [keyD])).2
      refine this _ e.2 fun k hk => ?_
      rw [e.1] at hk
      obtain ⟨p, _, rfl⟩ := List.mem_map.mp hk
      exact ⟨_, rfl⟩
  | _, _, _, .fn h => by simp [strsOk]
theorem RDs.strs : ∀ {vs : List V} {ds : List D}, showDs w n ds = true → RDs g F vs ds → strsOks ds
  | _, _, _, .nil => by simp [strsOks]
  | _, _, f, .cons h r => by
    rw [showDs, Bool.and_eq_true] at f
    rw [strsOks]
    exact ⟨RD.strs f.1 h, RDs.strs f.2 r⟩
end
/-- .. in a frozen heap -/
theorem RdH.froz (s : Same F H) (h : RdH g H F v d) : ∃ F', Same F' H ∧ RD g F' v d := by
  rcases h with h | ⟨a, rfl, c⟩
  · exact ⟨F, s, h⟩
  · cases q : F a with
    | none =>
      obtain ⟨o, ho, sm, r⟩ := c.frozen q
      refine ⟨_, fun b u z => ?_, r⟩
      by_cases hb : b = a
      · subst hb; rw [upd_same] at z; cases z; exact ho
      · rw [upd_ne hb] at z; exact s b u z
    | some u =>
      have hu := s a u q
      rcases c with ⟨xs, ds, rfl, h, r⟩ | ⟨kvs, ks, vs, rfl, h, nd, k, r⟩
      · rw [hu] at h; cases h
        exact ⟨F, s, .lst q r⟩
      · rw [hu] at h; cases h
        exact ⟨F, s, .dic q nd k r⟩
theorem call_repr {h₀ : Heap} {A : Around} {P : Program} {w : World} {E : Value → Shared → Prop} {t : Shared} {u : Value} {pd : PyData} {as : List Addr} {R : Value → Shared → Prop} (z : Reads h₀ u pd as) (hs : pd.showable = true) (hsm : pd.hasDict = true → sysModules ∉ as)
    (hg : A.guards = some []) (hu : A.units + (pd.depth + 1) < cLine) (hk0 : h₀ = t.heap) (hz : pd.shown.length ≤ sizeLine)
    (hQ : ∀ h' (tk : Tok) (n : Nat), (∀ b o, t.heap.get? b = some o → h'.get? b = some o) → R (.str pd.shown tk) { t with heap := h', toks := n }) : wpAny (model P w) A (call (.builtin "repr") [u]) R E t := by
  have ht : t = { t with heap := t.heap, toks := t.toks } := rfl
  cases z with
  | none => exact PySem.P.repr_of_none (hQ _ _ _ fun _ _ q => q)
  | bool b => exact PySem.P.repr_of_bool (hQ _ _ _ fun _ _ q => q)
  | int i tk => exact PySem.P.repr_of_int (by simpa [PyData.showable] using hs) (hQ _ _ _ fun _ _ q => q)
  | str x tk => exact PySem.P.repr_of_str (hQ _ _ _ fun _ _ q => q) hz
  | list a b c e => exact repr_of_reads' (.list a b c e) hs hsm hg hu (fun b o q => by rw [← hk0]; exact q) (fun h' u tk hk => hQ h' u tk hk) hz
  | tuple a b c e => exact repr_of_reads' (.tuple a b c e) hs hsm hg hu (fun b o q => by rw [← hk0]; exact q) (fun h' u tk hk => hQ h' u tk hk) hz
  | dict a b c e f => exact repr_of_reads' (.dict a b c e f) hs hsm hg hu (fun b o q => by rw [← hk0]; exact q) (fun h' u tk hk => hQ h' u tk hk) hz
theorem repr_ok {r : Vr} {vs : List V} {ds : List D} {bc : Bool} (m : Rm g bc X) (h : biD .repr ds = some r) (s : Same F H) (hx : RdHs g H F vs ds) (k : ∀ v H', Res g H F r v H' → Q v H') : DCall X (.builtin "repr") vs H Q := by
  unfold biD at h
  split at h <;> first
    | (exfalso; rename_i q; exact Bi.noConfusion q)
    | (exfalso; rename_i q _; exact Bi.noConfusion q)
    | (cases h; done)
    | skip
  rename_i d _
  split at h
  case isFalse => cases h
  rename_i hc
  rw [Bool.and_eq_true, decide_eq_true_eq] at hc
  cases h
  obtain ⟨v, rfl, h1⟩ := hx.one
  obtain ⟨F', s', rd⟩ := h1.froz s
  obtain ⟨w, hw⟩ : ∃ w, showD w DEP d = true := by
    rcases Bool.or_eq_true _ _ |>.mp hc.1 with z | z
    · exact ⟨_, z⟩
    · exact ⟨_, z⟩
  have hst : ∀ x : Str, (⟨x.cps.toList.toArray⟩ : Str) = x := fun x => by simp
  have hz : (PyData.shown (py d)).length ≤ sizeLine := by
    have := hc.2
    unfold shownD at this
    rw [← LIM_eq]
    rw [Array.length_toList] at this
    exact this
  have ok : okL (shownD d) := ⟨by
    unfold shownD
    rw [Array.length_toList]
    exact hz, shown_ok d (rd.strs hw)⟩
  intro pins t σ us I rv
  obtain ⟨u, rfl, ru⟩ := rv.one
  obtain ⟨as, z1, z2, z3, z4, z5⟩ := reads_of m I s' DEP d v u rd ru hw
  have fin : ∀ h' (tk : Tok) (n : Nat), (∀ b o, t.heap.get? b = some o → h'.get? b = some o) → EP X pins σ Q (.str (py d).shown tk) { t with heap := h', toks := n } := fun h' tk n hk =>
    ⟨.str (py d).shown, H, I.kept hk, ⟨_, rfl⟩, k _ _ (by
      have := Res.same s (.str (g := g) (F := F) (shownD d) ok)
      unfold shownD at this
      rw [hst] at this
      exact this)⟩
  refine call_repr z1 z2 ?_ m.guards ?_ rfl hz fun h' tk n hk => fin h' tk n hk
  · cases w with
    | true => rw [z5 rfl]; exact fun q => nomatch q
    | false => exact fun _ => z4 rfl
  · have := m.units
    have : (py d).depth ≤ 60 := z3
    omega

/-! ### dict(pairs) -/
theorem keyD_inj {a b : Key} : eqD (keyD a) (keyD b) = decide (a = b) := by
  cases a with
  | inl i => cases b with
    | inl j =>
      show (i == j) = _
      rw [Bool.beq_eq_decide_eq]
      exact decide_eq_decide.mpr ⟨fun h => by rw [h], fun h => Sum.inl.inj h⟩
    | inr y => exact (decide_eq_false (fun h => nomatch h)).symm
  | inr x => cases b with
    | inl j => exact (decide_eq_false (fun h => nomatch h)).symm
    | inr y =>
      show decide (x.cps.toList = y.cps.toList) = _
      refine decide_eq_decide.mpr ⟨fun h => ?_, fun h => by rw [Sum.inr.inj h]⟩
      obtain ⟨a⟩ := x
      obtain ⟨b⟩ := y
      have h : a.toList = b.toList := h
      rw [Array.toList_inj.mp h]
theorem putK_keys {kvs : List (Key × V)} {k : Key} {w : V} : (k ∈ kvs.map (·.1) → (putK kvs k w).map (·.1) = kvs.map (·.1)) ∧ (k ∉ kvs.map (·.1) → (putK kvs k w).map (·.1) = kvs.map (·.1) ++ [k]) := by
  unfold putK
  have e : (kvs.any fun kv => decide (kv.1 = k)) = true ↔ k ∈ kvs.map (·.1) := by
    rw [List.any_eq_true]
    constructor
    · rintro ⟨p, hp, h⟩
      exact List.mem_map.mpr ⟨p, hp, of_decide_eq_true h⟩
    · intro h
      obtain ⟨p, hp, h⟩ := List.mem_map.mp h
      exact ⟨p, hp, decide_eq_true h⟩
  constructor
  · intro h
    rw [if_pos (e.mpr h), List.map_map]
    exact List.map_congr_left fun p _ => by
      show (if p.1 = k then (p.1, w) else p).1 = p.1
      split <;> rfl
  · intro h
    rw [if_neg (fun z => h (e.mp z)), List.map_append] <;> rfl
theorem putK_nodup {kvs : List (Key × V)} {k : Key} {w : V} (n : (kvs.map (·.1)).Nodup) : ((putK kvs k w).map (·.1)).Nodup := by
  by_cases h : k ∈ kvs.map (·.1)
  · rw [putK_keys.1 h]; exact n
  · rw [putK_keys.2 h, List.nodup_append]
    refine ⟨n, by simp, fun a ha b hb => ?_⟩
    rw [List.mem_singleton.mp hb]
    exact fun e => h (by rw [← e]; exact ha)
theorem putK_cons {p : Key × V} {kvs : List (Key × V)} {k : Key} {w : V} (n : ((p :: kvs).map (·.1)).Nodup) : putK (p :: kvs) k w = if p.1 = k then (p.1, w) :: kvs else p :: putK kvs k w := by
  unfold putK
  rw [List.any_cons]
  by_cases h : p.1 = k
  · rw [if_pos h, decide_eq_true h, Bool.true_or, if_pos rfl, List.map_cons, if_pos h]
    congr 1
    have : ∀ q ∈ kvs, ¬ q.1 = k := fun q hq e => by
      rw [List.map_cons, List.nodup_cons] at n
      exact n.1 (List.mem_map.mpr ⟨q, hq, by rw [e, h]⟩)
    exact (List.map_congr_left fun q hq => if_neg (this q hq)).trans (List.map_id' kvs)
  · rw [if_neg h, decide_eq_false h, Bool.false_or]
    split
    · rw [List.map_cons, if_neg h]
    · rfl
theorem put_ok {κ : Key} {w : V} {kd vd : D} (hk : kd = keyD κ) (hw : RD g F w vd) : ∀ {kvs : List (Key × V)} {ks vs : List D}, (kvs.map (·.1)).Nodup → ks = kvs.map (fun p => keyD p.1) → RDs g F (kvs.map (·.2)) vs →
    (putD kd vd ks vs).1 = (putK kvs κ w).map (fun p => keyD p.1) ∧ RDs g F ((putK kvs κ w).map (·.2)) (putD kd vd ks vs).2
  | [], _, _, _, rfl, r => by
    cases r
    rw [hk]
    exact ⟨rfl, .cons hw .nil⟩
  | p :: kvs, _, _, n, rfl, r => by
    rw [List.map_cons] at r
    cases r with
    | @cons _ _ vd0 vs0 h0 r =>
    rw [putK_cons n, List.map_cons, putD, hk, keyD_inj]
    by_cases h : p.1 = κ
    · rw [if_pos h, if_pos (decide_eq_true h)]
      exact ⟨rfl, .cons hw r⟩
    · rw [if_neg h, if_neg (by rw [decide_eq_false h]; exact fun q => nomatch q)]
      have n' : (kvs.map (·.1)).Nodup := by rw [List.map_cons, List.nodup_cons] at n; exact n.2
      have ih := put_ok (kd := kd) hk hw n' rfl r
      rw [← hk]
      exact ⟨by rw [List.map_cons, ← ih.1], by rw [List.map_cons]; exact .cons h0 ih.2⟩
theorem putD_mem {kd vd : D} : ∀ {ks vs : List D} {x : D}, x ∈ (putD kd vd ks vs).1 → x = kd ∨ x ∈ ks
  | [], _, x, h => .inl (by simpa [putD] using h)
  | k :: ks, [], x, h => .inl (by simpa [putD] using h)
  | k :: ks, v :: vs, x, h => by
    rw [putD] at h
    split at h
    · exact .inr h
    · rcases List.mem_cons.mp h with rfl | h
      · exact .inr List.mem_cons_self
      · rcases putD_mem (vs := vs) h with h | h
        · exact .inl h
        · exact .inr (List.mem_cons_of_mem _ h)
theorem key_of {v : V} {d : D} (h : RD g F v d) (hk : isKey d = true) : ∃ κ, v = kV κ ∧ d = keyD κ ∧ ∀ l, d = .str l → okL l := by
  cases h <;> first | (simp [isKey] at hk; done) | skip
  · exact ⟨.inl _, rfl, rfl, fun _ e => nomatch e⟩
  · rename_i l o
    exact ⟨.inr ⟨l.toArray⟩, rfl, by simp [keyD], fun l e => by cases e; exact o⟩
theorem pairs_ok (s : Same F H) : ∀ {l : List D} {ws : List V} {kvs : List (Key × V)} {ks vs ks' vs' : List D}, RDs g F ws l → pairsD l ks vs = some (ks', vs') → (kvs.map (·.1)).Nodup → KsOf kvs ks → RDs g F (kvs.map (·.2)) vs →
    ∃ (ps : List Addr) (more : List (Key × V)), ws = ps.map V.ref ∧ Paired (fun p kv => SqT g.K H p [kV kv.1, kv.2]) ps more ∧ ((mergeK kvs more).map (·.1)).Nodup ∧ KsOf (mergeK kvs more) ks' ∧ RDs g F ((mergeK kvs more).map (·.2)) vs'
  | [], ws, kvs, ks, vs, ks', vs', r, h, n, e, rv => by
    cases r
    cases h
    exact ⟨[], [], rfl, .nil, n, e, rv⟩
  | d :: l, ws, kvs, ks, vs, ks', vs', r, h, n, e, rv => by
    cases r with
    | cons hd r =>
      unfold pairsD at h
      split at h
      · rename_i q; cases q
      · rename_i q
        cases q
        split at h
        case isFalse => cases h
        rename_i hk
        cases hd with
        | tup hq rt =>
          cases rt with
          | cons r1 rt => cases rt with
            | cons r2 rt =>
              cases rt
              obtain ⟨κ, e1, e2, e3⟩ := key_of r1 hk
              have z := put_ok e2 r2 n e.1 rv
              obtain ⟨ps, more, f1, f2, f3, f4, f5⟩ := pairs_ok s r h (putK_nodup n) ⟨z.1, fun l hl => by
                rcases putD_mem hl with hl | hl
                · exact e3 l hl.symm
                · exact e.2 l hl⟩ z.2
              refine ⟨_ :: ps, (κ, _) :: more, by rw [List.map_cons, f1], .cons ?_ f2, f3, f4, f5⟩
              rw [← e1]
              exact Same.seqT s hq
      · cases h
theorem dict_ok {r : Vr} {vs : List V} {ds : List D} (m : Rm g true X) (h : biD .dict ds = some r) (s : Same F H) (hx : RdHs g H F vs ds) (k : ∀ v H', Res g H F r v H' → Q v H') : DCall X (.type "dict") vs H Q := by
  unfold biD at h
  split at h <;> first
    | (exfalso; rename_i q; exact Bi.noConfusion q)
    | (exfalso; rename_i q _; exact Bi.noConfusion q)
    | (cases h; done)
    | skip
  rename_i l _
  cases hp : pairsD l [] [] with
  | none => rw [hp] at h; cases h
  | some q =>
    obtain ⟨ks, ws⟩ := q
    rw [hp] at h
    simp only at h
    split at h
    case isFalse => cases h
    cases h
    obtain ⟨v, rfl, h1⟩ := hx.one
    obtain ⟨a, xs, rfl, hq, rr⟩ := h1.lst s
    obtain ⟨ps, more, rfl, f2, f3, f4, f5⟩ := pairs_ok (kvs := []) s rr hp .nil ⟨rfl, fun l hl => by cases hl⟩ .nil
    refine CallR.d (call_dictP m.calm) ⟨a, ps, more, rfl, .inl (.inl hq), by rw [m.K]; exact f2, fun p hp => k _ _ (.dic s hp f3 f4 f5)⟩

/-! ### isinstance -/
def tyN : D → Option String
  | .non => some "NoneType"
  | .bl _ => some "bool"
  | .int _ => some "int"
  | .str _ => some "str"
  | .tup _ => some "tuple"
  | .lst _ => some "list"
  | .scr _ => some "list"
  | .dic _ _ => some "dict"
  | _ => none
theorem ty_of {n : String} {bc : Bool} (m : Rm g bc X) (h : tyN d = some n) (s : Same F H) (hx : RdH g H F x d) : TyX X.K H x (.type n) := by
  cases d <;> simp only [tyN] at h <;> cases h
  · cases hx.non; exact .base .non
  · cases hx.bl; exact .base (.bl _)
  · cases hx.int; exact .base (.int _)
  · obtain ⟨rfl, _⟩ := hx.str; exact .base (.str _)
  · obtain ⟨a, ws, rfl, hq, _⟩ := hx.tup s
    rcases hq with (hq | ⟨o, hq⟩) | ⟨o, its, n, h1, h2, _⟩
    · exact .base (.tup hq)
    · exact .fTuple hq
    · exact .kTuple (by rw [m.K]; exact h1) h2
  · obtain ⟨a, ws, rfl, hq, _⟩ := hx.lst s
    exact .base (.lst hq)
  · obtain ⟨a, kvs, rfl, hq, _⟩ := hx.dic s
    exact .base (.dK hq)
  · obtain ⟨a, rfl, hq⟩ := hx.scr s
    rcases hq with (hq | ⟨o, hq⟩) | ⟨o, its, n, h1, h2, _⟩
    · exact .base (.lst hq)
    · exact .base (.frz hq)
    · exact .kList (by rw [m.K]; exact h1) h2
/-- isinstance(x, n) -/
theorem isi_ok {n c : String} {b : Bool} {bc : Bool} (m : Rm g bc X) (h : tyN d = some n) (hb : kitB n c = some b) (s : Same F H) (hx : RdH g H F x d) (k : ∀ v H', Res g H F (.v (.bl b)) v H' → Q v H') : DCall X (.builtin "isinstance") [x, .ty c] H Q :=
  CallR.d call_isi ⟨x, .ty c, .type n, .type c, b, rfl, .ty c, ty_of m h s hx, kit_ty hb, k _ _ (.same s (.bl b))⟩
def isiB : Bi → Bool
  | .isint => true | .isbool => true | .isstr => true | .islist => true | .istuple => true | .isseq => true | .isbox => true
  | _ => false
def isiN : Bi → Option String
  | .isint => some "int" | .isbool => some "bool" | .isstr => some "str" | .islist => some "list" | .istuple => some "tuple"
  | _ => none
theorem isi_all {f : Bi} {c : String} {r : Vr} (hf : isiN f = some c) {bc : Bool} (m : Rm g bc X) (h : biD f [d] = some r) (s : Same F H) (hx : RdH g H F x d) (k : ∀ v H', Res g H F r v H' → Q v H') : DCall X (.builtin "isinstance") [x, .ty c] H Q := by
  cases f <;> simp only [isiN] at hf <;> cases hf <;> cases d <;> simp only [biD] at h <;> cases h <;> exact isi_ok m rfl (by decide +kernel) s hx k
end
end Ev

set_option Elab.async false
set_option linter.all false
set_option maxRecDepth 100000
set_option maxHeartbeats 1000000
/-! Ev3f: methods by values. Own work. -/
namespace Ev
open PySem PySem.Spec PyProof.Rows L2
section
variable {g : Gi} {X : Cx} {H F : Hp} {x y v : V} {d e : D} {Q : VK}
theorem drop_tw {α : Type} (p : α → Bool) : ∀ l : List α, l.drop (l.takeWhile p).length = l.dropWhile p
  | [] => rfl
  | a :: l => by
    rw [List.takeWhile_cons, List.dropWhile_cons]
    cases p a with
    | true => simp only [if_true]; rw [List.length_cons, List.drop_succ_cons]; exact drop_tw p l
    | false => rfl
theorem take_tw {α : Type} (p : α → Bool) (l : List α) : l.take (l.length - (l.reverse.takeWhile p).length) = (l.reverse.dropWhile p).reverse := by
  rw [← drop_tw, List.reverse_drop, List.reverse_reverse, List.length_reverse]
theorem strip_eq (l cs : List Nat) : Txt.stripChars ⟨l.toArray⟩ ⟨cs.toArray⟩ = ⟨(stripD cs l).toArray⟩ := by
  have hc : (⟨cs.toArray⟩ : Str).cps.contains = fun c => cs.contains c := by
    funext c
    show cs.toArray.contains c = _
    simp
  unfold Txt.stripChars
  rw [stripBy_eq, hc]
  have h := PySem.StrLaws.strSub_toList ⟨l.toArray⟩ (stripLo (fun c => cs.contains c) true ⟨l.toArray⟩) (stripHi (fun c => cs.contains c) true ⟨l.toArray⟩ (stripLo (fun c => cs.contains c) true ⟨l.toArray⟩))
  have e : ((l.drop (stripLo (fun c => cs.contains c) true ⟨l.toArray⟩)).take (stripHi (fun c => cs.contains c) true ⟨l.toArray⟩ (stripLo (fun c => cs.contains c) true ⟨l.toArray⟩) - stripLo (fun c => cs.contains c) true ⟨l.toArray⟩)) = stripD cs l := by
    unfold stripHi stripLo stripD
    simp only [if_true]
    rw [str_len]
    have e1 : l.drop (l.takeWhile fun c => cs.contains c).length = l.dropWhile fun c => cs.contains c := drop_tw _ l
    have e2 : (l.takeWhile fun c => cs.contains c).length + (l.dropWhile fun c => cs.contains c).length = l.length := by
      rw [← List.length_append, List.takeWhile_append_dropWhile]
    rw [e1, ← take_tw]
    congr 1
    omega
  have h : _ = stripD cs l := h.trans e
  have : ∀ x : Str, x.cps.toList = stripD cs l → x = ⟨(stripD cs l).toArray⟩ := fun x hx => by
    obtain ⟨a⟩ := x
    rw [← hx]
  exact this _ h
theorem join_cps (sep : List Nat) : ∀ ls : List (List Nat), Str.join ⟨sep.toArray⟩ (ls.map fun l => ⟨l.toArray⟩) = ⟨(joinL sep ls).toArray⟩
  | [] => rfl
  | [x] => rfl
  | x :: y :: r => by
    show (⟨x.toArray⟩ : Str) ++ (⟨sep.toArray⟩ : Str) ++ Str.join ⟨sep.toArray⟩ ((y :: r).map fun l => ⟨l.toArray⟩) = _
    rw [join_cps sep (y :: r), str_app, str_app]
    rfl
theorem join_eq (sep : List Nat) (ls : List (List Nat)) : Txt.join ⟨sep.toArray⟩ (ls.map fun l => ⟨l.toArray⟩) = ⟨(joinL sep ls).toArray⟩ := by
  rw [← join_cps]
  exact PySem.StrLaws.glued_eq_join _ _
theorem strs_of : ∀ {ds : List D} {vs : List V} {ls : List (List Nat)}, RDs g F vs ds → strsOf ds = some ls → vs = (ls.map fun l => (⟨l.toArray⟩ : Str)).map V.str ∧ ∀ l ∈ ls, okL l
  | [], _, _, .nil, h => by cases h; exact ⟨rfl, fun _ h => nomatch h⟩
  | d :: ds, _, ls, .cons h r, e => by
    unfold strsOf at e
    split at e
    · rename_i q; cases q
    · rename_i l rr q
      cases q
      cases hs : strsOf ds with
      | none => rw [hs] at e; cases e
      | some ms =>
        rw [hs] at e
        cases e
        obtain ⟨rfl, h2⟩ := strs_of r hs
        cases h with
        | str _ o => exact ⟨rfl, fun l hl => (List.mem_cons.mp hl).elim (fun q => by rw [q]; exact o) (h2 l)⟩
    · cases e
theorem joinL_len (sep : List Nat) : ∀ ls : List (List Nat), (joinL sep ls).length ≤ (ls.map List.length).sum + ls.length * sep.length
  | [] => by simp [joinL]
  | [x] => by simp [joinL]
  | x :: y :: r => by
    have := joinL_len sep (y :: r)
    simp only [joinL, List.length_append, List.map_cons, List.sum_cons, List.length_cons] at this ⊢
    rw [Nat.succ_mul]
    omega
theorem joinL_mem (sep : List Nat) : ∀ (ls : List (List Nat)) (c : Nat), c ∈ joinL sep ls → c ∈ sep ∨ ∃ l ∈ ls, c ∈ l
  | [], c, h => by simp [joinL] at h
  | [x], c, h => .inr ⟨x, by simp, h⟩
  | x :: y :: r, c, h => by
    simp only [joinL, List.mem_append] at h
    rcases h with (h | h) | h
    · exact .inr ⟨x, by simp, h⟩
    · exact .inl h
    · rcases joinL_mem sep (y :: r) c h with h | ⟨l, hl, h⟩
      · exact .inl h
      · exact .inr ⟨l, List.mem_cons_of_mem _ hl, h⟩
/-- the method's type and name -/
def mtT : Mt → String
  | .strip => "str" | .join => "str" | .bits => "int" | .append => "list" | .index => "str"
theorem strip_ok {r : Vr} {vs : List V} {ds : List D} {bc : Bool} (m : Rm g bc X) (h : mtD .strip d ds = some r) (s : Same F H) (hx : RdH g H F x d) (ha : RdHs g H F vs ds) (k : ∀ v H', Res g H F r v H' → Q v H') : DMt X "str.strip" x vs H Q ∧ ∃ a, x = .str a := by
  unfold mtD at h
  split at h <;> first
    | (exfalso; rename_i q _ _; exact Mt.noConfusion q)
    | (exfalso; rename_i q _; exact Mt.noConfusion q)
    | (exfalso; rename_i q; exact Mt.noConfusion q)
    | (cases h; done)
    | skip
  cases h
  obtain ⟨rfl, o1⟩ := hx.str
  obtain ⟨w, rfl, h2⟩ := ha.one
  obtain ⟨rfl, o2⟩ := h2.str
  refine ⟨MtR.d mt_stripChars ⟨_, _, rfl, rfl, by rw [str_len]; exact o1.1, ?_⟩, _, rfl⟩
  rw [strip_eq]
  refine k _ _ (.same s (.str _ (okL_sub o1 ?_ fun c hc => ?_)))
  · unfold stripD
    rw [List.length_reverse]
    refine Nat.le_trans (List.dropWhile_sublist _).length_le ?_
    rw [List.length_reverse]
    exact (List.dropWhile_sublist _).length_le
  · unfold stripD at hc
    rw [List.mem_reverse] at hc
    have := (List.dropWhile_sublist _).subset hc
    rw [List.mem_reverse] at this
    exact (List.dropWhile_sublist _).subset this
theorem join_ok {r : Vr} {vs : List V} {ds : List D} {bc : Bool} (m : Rm g bc X) (h : mtD .join d ds = some r) (s : Same F H) (hx : RdH g H F x d) (ha : RdHs g H F vs ds) (k : ∀ v H', Res g H F r v H' → Q v H') : DMt X "str.join" x vs H Q ∧ ∃ a, x = .str a := by
  unfold mtD at h
  split at h <;> first
    | (exfalso; rename_i q _ _; exact Mt.noConfusion q)
    | (exfalso; rename_i q _; exact Mt.noConfusion q)
    | (exfalso; rename_i q; exact Mt.noConfusion q)
    | (cases h; done)
    | skip
  rename_i sep ys _
  cases hs : strsOf ys with
  | none => rw [hs] at h; cases h
  | some ls =>
    rw [hs] at h
    simp only at h
    split at h
    case isFalse => cases h
    rename_i hz
    cases h
    obtain ⟨rfl, o1⟩ := hx.str
    obtain ⟨w, rfl, h2⟩ := ha.one
    obtain ⟨a, ws, rfl, hq, rr⟩ := h2.lst s
    obtain ⟨rfl, h3⟩ := strs_of rr hs
    refine ⟨MtR.d mt_join ⟨_, a, _, rfl, rfl, .inl (.inl (.inl hq)), ?_, ?_⟩, _, rfl⟩
    · rw [List.map_map, List.length_map, str_len]
      have : (fun x : Str => x.length) ∘ (fun l : List Nat => (⟨l.toArray⟩ : Str)) = List.length := by
        funext l
        exact str_len l
      rw [this]
      exact hz
    · rw [join_eq]
      refine k _ _ (.same s (.str _ ⟨Nat.le_trans (joinL_len _ _) (by rw [← LIM_eq]; exact hz), fun c hc => ?_⟩))
      rcases joinL_mem _ _ c hc with hc | ⟨l, hl, hc⟩
      · exact o1.2 c hc
      · exact (h3 l hl).2 c hc
theorem bits_ok {r : Vr} {vs : List V} {ds : List D} (h : mtD .bits d ds = some r) (s : Same F H) (hx : RdH g H F x d) (ha : RdHs g H F vs ds) (k : ∀ v H', Res g H F r v H' → Q v H') : vs = [] ∧ ∃ i, x = .int i ∧ Q (.int (Builtin.Int.intBits i : Nat)) H := by
  unfold mtD at h
  split at h <;> first
    | (exfalso; rename_i q _ _; exact Mt.noConfusion q)
    | (exfalso; rename_i q _; exact Mt.noConfusion q)
    | (exfalso; rename_i q; exact Mt.noConfusion q)
    | (cases h; done)
    | skip
  rename_i i _
  cases h
  cases hx.int
  cases ha
  refine ⟨rfl, i, rfl, ?_⟩
  have : (if i = 0 then (0 : Int) else ((i.natAbs.log2 + 1 : Nat) : Int)) = ((Builtin.Int.intBits i : Nat) : Int) := by
    unfold Builtin.Int.intBits
    by_cases h : i = 0
    · rw [if_pos h, if_pos (by simpa using h)] <;> rfl
    · rw [if_neg h, if_neg (by simpa using h)]
  rw [← this]
  exact k _ _ (.same s (.int _))
end
end Ev

set_option Elab.async false
set_option linter.all false
set_option maxRecDepth 100000
set_option maxHeartbeats 1000000
/-! Ev4: things kept, handed in and handed back. Own work. -/
namespace Ev
open PySem PySem.Spec PyProof.Rows L2
section
variable {g : Gi} {X : Cx} {ρ ρ' ρ0 : En} {σ : St} {H F H0 F0 H' F' : Hp} {v : V} {r : Vr} {d : D}
theorem bind_ok {α β : Type} {r : Rs α} {f : α → En → Rs β} {b : β} {ρ' : En} (h : r.bind f = .ok b ρ') : ∃ a ρ, r = .ok a ρ ∧ f a ρ = .ok b ρ' := by
  cases r with
  | ok a ρ => exact ⟨a, ρ, rfl, h⟩
  | ex x ρ => cases h
  | err => cases h
theorem ne_some {α : Type} {x : Option α} : x ≠ none ↔ ∃ a, x = some a := Option.ne_none_iff_exists'
theorem keep_bh (b : Bh g ρ0 σ H0 F0 ρ σ H F) (h : VrRel g ρ σ H F H0 v r) (k : keep ρ r = .ok d ρ') :
    ∃ F', Bh g ρ0 σ H0 F0 ρ' σ H F' ∧ RD g F' v d ∧ Same F F' ∧ ∀ v' r', VrRel g ρ σ H F H0 v' r' → (∀ e e', r = .o e → r' = .o e' → v ≠ v') → VrRel g ρ' σ H F' H0 v' r' := by
  obtain ⟨F', S', rd, fn, sm, ow, ol, lo⟩ := b.sim.keep h k
  refine ⟨F', ⟨S', ⟨b.stp.fzs.trans sm, fun c z => ?_, b.stp.mod, b.stp.live, fun c z => b.stp.own c (ow c z), fun c z => b.stp.ownl c (ol c z)⟩, b.kp.trans (keep_some k), b.pv.trans lo b.stp.live⟩, rd, sm, fun v' r' hv ne => ?_⟩
  · rcases fn c z with z | ⟨e, rfl, rfl⟩ | z
    · exact b.stp.fzn c z
    · obtain ⟨a, e1, n0, _⟩ := h
      cases e1
      exact .inr (.inl n0)
    · rcases b.stp.ownl c z with z | z
      · exact .inr (.inr z)
      · exact .inr (.inl z)
  · cases r' with
    | v e => exact hv.mono sm
    | s i => exact ⟨hv.1, keep_some k i hv.2⟩
    | o e =>
      obtain ⟨a', rfl, n0, nf, c, no⟩ := hv
      refine ⟨a', rfl, n0, Classical.byContradiction fun q => ?_, c.mono sm rfl, fun z => no (ol _ z)⟩
      rcases fn a' q with z | ⟨e', rfl, rfl⟩ | z
      · exact z nf
      · exact ne e' e rfl rfl rfl
      · exact no z

theorem VrRels.imp {ρ1 : En} {H1 F1 : Hp} : ∀ {vs : List V} {rs : List Vr}, VrRels g ρ σ H F H0 vs rs → (∀ (i : Nat) v r, vs[i]? = some v → rs[i]? = some r → VrRel g ρ σ H F H0 v r → VrRel g ρ1 σ H1 F1 H0 v r) → VrRels g ρ1 σ H1 F1 H0 vs rs
  | _, _, .nil, _ => .nil
  | _, _, .cons h n t, k => .cons (k 0 _ _ rfl rfl h) n (t.imp fun i v r h1 h2 => k (i + 1) v r (by simpa using h1) (by simpa using h2))
theorem keepAll_bh : ∀ {rs : List Vr} {vs : List V} {ds : List D} {ρ ρ' : En} {F : Hp}, Bh g ρ0 σ H0 F0 ρ σ H F → VrRels g ρ σ H F H0 vs rs → keepAll rs ρ = .ok ds ρ' →
    ∃ F', Bh g ρ0 σ H0 F0 ρ' σ H F' ∧ RDs g F' vs ds ∧ Same F F'
  | [], _, _, _, _, _, b, .nil, k => by
    cases k
    exact ⟨_, b, .nil, Same.refl _⟩
  | r :: rs, _, _, ρ, ρ', F, b, .cons h n t, k => by
    unfold keepAll at k
    obtain ⟨d, ρ1, k1, k⟩ := bind_ok k
    obtain ⟨ds, ρ2, k2, k⟩ := bind_ok k
    cases k
    obtain ⟨F1, b1, rd, sm, nx⟩ := keep_bh b h k1
    have t1 : VrRels g ρ1 σ H F1 H0 _ rs := t.imp fun i v' r' h1 h2 hv => nx v' r' hv fun e e' e1 e2 q => by
      subst e1 e2
      exact n e rfl i e' h2 (by rw [q]; exact h1)
    obtain ⟨F2, b2, rds, sm2⟩ := keepAll_bh b1 t1 k2
    exact ⟨F2, b2, .cons (rd.mono sm2) rds, sm.trans sm2⟩
theorem lookAll_rd (S : Sim g ρ σ H F) : ∀ {rs : List Vr} {vs : List V} {ds : List D}, VrRels g ρ σ H F H0 vs rs → lookAll ρ rs = some ds → RdHs g H F vs ds
  | [], _, _, .nil, k => by cases k; exact .nil
  | r :: rs, _, _, .cons h n t, k => by
    unfold lookAll at k
    split at k
    · rename_i d ds e1 e2
      cases k
      exact .cons (h.rd S e1) (lookAll_rd S t e2)
    · cases k
/-- a slot frozen, seen from ahead -/
theorem frz_bh (b : Bh g ρ0 σ H0 F0 ρ σ H F) {i : Nat} {s : Sl} (h : ρ.get i = some s) :
    ∃ F', Bh g ρ0 σ H0 F0 (ρ.set i (some ⟨.fz, s.d⟩)) σ H F' ∧ ∀ v r, VrRel g ρ σ H F H0 v r → VrRel g (ρ.set i (some ⟨.fz, s.d⟩)) σ H F' H0 v r := by
  obtain ⟨F', S', st, rd, lo⟩ := b.sim.freeze h
  have kp : Keeps ρ (ρ.set i (some ⟨.fz, s.d⟩)) := fun j hj => by
    rw [get_set (get_lt h)]
    split
    · rfl
    · exact hj
  have b1 : Bh g ρ σ H F (ρ.set i (some ⟨.fz, s.d⟩)) σ H F' := ⟨S', st, kp, lo⟩
  exact ⟨F', b.trans b1, fun v r hv => hv.later b.sim b1⟩
/-- slots that come twice -/
def Dup (ρ : En) (l : List Vr) : Prop := ∀ (i j k : Nat), i < j → l[i]? = some (.s k) → l[j]? = some (.s k) → ∀ s, ρ.get k = some s → s.m = .fz
theorem fzs_stay {l : List Vr} : ∀ {ρ : En} {k : Nat}, (∀ s, ρ.get k = some s → s.m = .fz) → ∀ s, (frzDup l ρ).get k = some s → s.m = .fz := by
  induction l with
  | nil => exact fun h => h
  | cons r l ih =>
    intro ρ k h
    cases r with
    | v d => exact ih h
    | o d => exact ih h
    | s i =>
      unfold frzDup
      split
      · split
        · rename_i s hs
          refine ih fun t ht => ?_
          rw [get_set (get_lt hs)] at ht
          split at ht
          · cases ht; rfl
          · exact h t ht
        · exact ih h
      · exact ih h
theorem frzDup_bh {vs : List V} {rs : List Vr} : ∀ {l : List Vr} {ρ : En} {F : Hp}, Bh g ρ0 σ H0 F0 ρ σ H F → VrRels g ρ σ H F H0 vs rs →
    ∃ F', Bh g ρ0 σ H0 F0 (frzDup l ρ) σ H F' ∧ VrRels g (frzDup l ρ) σ H F' H0 vs rs ∧ Dup (frzDup l ρ) l
  | [], ρ, F, b, t => ⟨F, b, t, fun i j k _ h _ => by simp at h⟩
  | r :: l, ρ, F, b, t => by
    have go : ∀ {ρ1 : En} {F1 : Hp}, Bh g ρ0 σ H0 F0 ρ1 σ H F1 → VrRels g ρ1 σ H F1 H0 vs rs → (∀ k, r = .s k → (∃ j : Nat, l[j]? = some (.s k)) → ∀ s, ρ1.get k = some s → s.m = .fz) →
        ∃ F', Bh g ρ0 σ H0 F0 (frzDup l ρ1) σ H F' ∧ VrRels g (frzDup l ρ1) σ H F' H0 vs rs ∧ Dup (frzDup l ρ1) (r :: l) := fun b1 t1 hd => by
      obtain ⟨F', b2, t2, d2⟩ := frzDup_bh (l := l) b1 t1
      refine ⟨F', b2, t2, fun i j k hij h1 h2 => ?_⟩
      cases j with
      | zero => omega
      | succ j =>
        cases i with
        | zero => exact fzs_stay (hd k (by simpa using h1) ⟨j, by simpa using h2⟩)
        | succ i => exact d2 i j k (by omega) (by simpa using h1) (by simpa using h2)
    cases r with
    | v d => exact go b t fun k e => by cases e
    | o d => exact go b t fun k e => by cases e
    | s i =>
      unfold frzDup
      split
      · split
        · rename_i s hs
          obtain ⟨F1, b1, n1⟩ := frz_bh b hs
          refine go b1 (t.imp fun _ v r _ _ hv => n1 v r hv) fun k e _ u hu => ?_
          cases e
          rw [get_set (get_lt hs), if_pos rfl] at hu
          cases hu
          rfl
        · rename_i hs
          refine go b t fun k e _ u hu => ?_
          cases e
          rw [hs] at hu
          cases hu
      · rename_i hn
        refine go b t fun k e ⟨j, hj⟩ => ?_
        cases e
        exfalso
        apply hn
        rw [List.any_eq_true]
        exact ⟨.s i, List.mem_of_getElem? hj, by simp⟩

/-! ### the arguments as a def's slots -/
theorem get_map (l : List Sl) (i : Nat) : En.get (l.map some) i = l[i]? := by
  unfold En.get
  rw [List.getElem?_map]
  cases l[i]? <;> rfl
theorem map_at (l : List V) (i : Nat) (v : V) : (l.map some)[i]? = some (some v) ↔ l[i]? = some v := by
  rw [List.getElem?_map]
  cases l[i]? <;> simp
theorem argsOf_at : ∀ {rs : List Vr} {as : List Sl}, argsOf ρ rs = some as → as.length = rs.length ∧ ∀ (i : Nat) a, as[i]? = some a → ∃ r, rs[i]? = some r ∧ argOf ρ r = some a
  | [], as, h => by cases h; exact ⟨rfl, fun i a h => by simp at h⟩
  | r :: rs, as, h => by
    unfold argsOf at h
    split at h
    · rename_i a l e1 e2
      cases h
      obtain ⟨h1, h2⟩ := argsOf_at e2
      refine ⟨by rw [List.length_cons, List.length_cons, h1], fun i b hb => ?_⟩
      cases i with
      | zero => cases hb; exact ⟨r, rfl, e1⟩
      | succ i => exact h2 i b (by simpa using hb)
    · cases h
theorem VrRels.fresh2 : ∀ {vs : List V} {rs : List Vr}, VrRels g ρ σ H F H0 vs rs → ∀ (i j : Nat) (d d' : D) v, i < j → rs[i]? = some (.o d) → rs[j]? = some (.o d') → vs[i]? = some v → vs[j]? ≠ some v
  | _, _, .nil, i, j, d, d', v, _, h, _, _ => by simp at h
  | _, _, .cons h n t, i, j, d, d', v, hij, h1, h2, h3 => by
    cases j with
    | zero => omega
    | succ j =>
      cases i with
      | zero =>
        have e3 := Option.some.inj h3
        subst e3
        have := n d (Option.some.inj h1) j d' (by simpa using h2)
        simpa using this
      | succ i =>
        have := t.fresh2 i j d d' v (by omega) (by simpa using h1) (by simpa using h2) (by simpa using h3)
        simpa using this
theorem args_sim {vs : List V} {rs : List Vr} {as : List Sl} (S : Sim g ρ σ H F) (R : VrRels g ρ σ H F H0 vs rs) (ha : argsOf ρ rs = some as) (dup : Dup ρ rs) : Sim g (as.map some) (vs.map some) H F := by
  obtain ⟨hl, hat⟩ := argsOf_at ha
  -- a place that owns
  have own : ∀ (i : Nat) s a, as[i]? = some s → s.m ≠ .fz → vs[i]? = some (.ref a) → (∃ d, rs[i]? = some (.o d) ∧ ¬ OwnL ρ σ a) ∨ ∃ k, rs[i]? = some (.s k) ∧ ρ.get k = some s ∧ σ[k]? = some (some (.ref a)) := fun i s a h1 h2 h3 => by
    obtain ⟨r, e1, e2⟩ := hat i s h1
    obtain ⟨v, e3, q⟩ := R.at e1
    rw [h3] at e3
    cases e3
    cases r with
    | v d => cases e2; exact absurd rfl h2
    | o d =>
      obtain ⟨a', e, _, _, _, no⟩ := q
      cases e
      exact .inl ⟨d, e1, no⟩
    | s k => exact .inr ⟨k, e1, e2, q.1⟩
  have key : ∀ (i j : Nat) s t a, i < j → as[i]? = some s → as[j]? = some t → s.m ≠ .fz → t.m ≠ .fz → vs[i]? = some (.ref a) → vs[j]? = some (.ref a) → False := fun i j s t a hij h1 h2 m1 m2 v1 v2 => by
    rcases own i s a h1 m1 v1 with ⟨d, q1, n1⟩ | ⟨k, q1, g1, s1⟩
    · rcases own j t a h2 m2 v2 with ⟨d', q2, n2⟩ | ⟨k', q2, g2, s2⟩
      · exact R.fresh2 i j d d' _ hij q1 q2 v1 v2
      · exact n1 ⟨k', t, g2, m2, s2⟩
    · rcases own j t a h2 m2 v2 with ⟨d', q2, n2⟩ | ⟨k', q2, g2, s2⟩
      · exact n2 ⟨k, s, g1, m1, s1⟩
      · have e := S.sep k k' s t a g1 g2 m1 m2 s1 s2
        subst e
        exact m1 (dup i j k hij q1 q2 s g1)
  refine ⟨by rw [List.length_map, List.length_map, hl, R.length], S.sub, fun i s h => ?_, fun i j s t a h1 h2 m1 m2 v1 v2 => ?_⟩
  · rw [get_map] at h
    obtain ⟨r, e1, e2⟩ := hat i s h
    obtain ⟨v, e3, q⟩ := R.at e1
    refine ⟨v, (map_at _ _ _).mpr e3, ?_⟩
    cases r with
    | v d => cases e2; exact q
    | o d =>
      cases e2
      obtain ⟨a, e, _, n, c, _⟩ := q
      exact ⟨a, e, n, c⟩
    | s k =>
      obtain ⟨w, e4, e5⟩ := S.val k s e2
      rw [q.1] at e4
      cases e4
      exact e5
  · rw [get_map] at h1 h2
    rw [map_at] at v1 v2
    rcases Nat.lt_trichotomy i j with z | z | z
    · exact (key i j s t a z h1 h2 m1 m2 v1 v2).elim
    · exact z
    · exact (key j i t s a z h2 h1 m2 m1 v2 v1).elim
end
end Ev

set_option Elab.async false
set_option linter.all false
set_option maxRecDepth 100000
set_option maxHeartbeats 1000000
/-! Ev4b: behind a call. Own work. -/
namespace Ev
open PySem PySem.Spec PyProof.Rows L2
section
variable {g : Gi} {X : Cx} {ρ ρ' ρ0 : En} {σ : St} {H F H0 F0 H' F' : Hp} {v : V} {r : Vr} {d : D}
theorem outs_at : ∀ (rs : List Vr) (outs : List Sl) (ρ : En), (∀ (i : Nat) (k : Nat), rs[i]? = some (.s k) → k < ρ.length) → outs.length = rs.length →
    (outsTo rs outs ρ).length = ρ.length ∧ ∀ j, (∃ (i : Nat) (o : Sl), rs[i]? = some (.s j) ∧ outs[i]? = some o ∧ En.get (outsTo rs outs ρ) j = some o) ∨ ((∀ i : Nat, rs[i]? ≠ some (.s j)) ∧ En.get (outsTo rs outs ρ) j = ρ.get j)
  | [], outs, ρ, _, hl => by
    cases outs with
    | nil => exact ⟨rfl, fun j => .inr ⟨fun i => by simp, rfl⟩⟩
    | cons _ _ => cases hl
  | r :: rs, outs, ρ, hk, hl => by
    cases outs with
    | nil => cases hl
    | cons o outs =>
      have hl' : outs.length = rs.length := by simpa using hl
      have plain : (∀ k, r ≠ .s k) → outsTo (r :: rs) (o :: outs) ρ = outsTo rs outs ρ → (outsTo (r :: rs) (o :: outs) ρ).length = ρ.length ∧ ∀ j, (∃ (i : Nat) (o' : Sl), (r :: rs)[i]? = some (.s j) ∧ (o :: outs)[i]? = some o' ∧ En.get (outsTo (r :: rs) (o :: outs) ρ) j = some o') ∨ ((∀ i : Nat, (r :: rs)[i]? ≠ some (.s j)) ∧ En.get (outsTo (r :: rs) (o :: outs) ρ) j = ρ.get j) := fun hr he => by
        obtain ⟨h1, h2⟩ := outs_at rs outs ρ (fun i k h => hk (i + 1) k (by simpa using h)) hl'
        rw [he]
        refine ⟨h1, fun j => ?_⟩
        rcases h2 j with ⟨i, o', e1, e2, e3⟩ | ⟨e1, e2⟩
        · exact .inl ⟨i + 1, o', by simpa using e1, by simpa using e2, e3⟩
        · refine .inr ⟨fun i => ?_, e2⟩
          cases i with
          | zero => exact fun z => hr j (Option.some.inj z)
          | succ i => simpa using e1 i
      cases r with
      | v d => exact plain (fun k z => nomatch z) rfl
      | o d => exact plain (fun k z => nomatch z) rfl
      | s k =>
        have hkl : k < ρ.length := hk 0 k rfl
        obtain ⟨h1, h2⟩ := outs_at rs outs (ρ.set k (some o)) (fun i k h => by rw [List.length_set]; exact hk (i + 1) k (by simpa using h)) hl'
        refine ⟨h1.trans (by rw [List.length_set]), fun j => ?_⟩
        rcases h2 j with ⟨i, o', e1, e2, e3⟩ | ⟨e1, e2⟩
        · exact .inl ⟨i + 1, o', by simpa using e1, by simpa using e2, e3⟩
        · by_cases hj : k = j
          · subst hj
            exact .inl ⟨0, o, rfl, rfl, e2.trans (get_set_same hkl)⟩
          · refine .inr ⟨fun i => ?_, e2.trans (get_set_ne hj)⟩
            cases i with
            | zero => exact fun z => hj (by cases z; rfl)
            | succ i => simpa using e1 i
theorem none_back {A B : Hp} (l : ∀ b, A b ≠ none → B b ≠ none) {b : Addr} (h : B b = none) : A b = none := Classical.byContradiction fun q => l b q h
theorem outs_bh {vs : List V} {rs : List Vr} {as outs : List Sl} (b : Bh g ρ0 σ H0 F0 ρ σ H F) (R : VrRels g ρ σ H F H0 vs rs) (ha : argsOf ρ rs = some as) (hl : outs.length = rs.length)
    (C : Bh g (as.map some) (vs.map some) H F (outs.map some) (vs.map some) H' F') : Bh g ρ0 σ H0 F0 (outsTo rs outs ρ) σ H' F' ∧
      ∀ v r, VrRel g (outs.map some) (vs.map some) H' F' H v r → (∀ i, r ≠ .s i) → VrRel g (outsTo rs outs ρ) σ H' F' H0 v r := by
  obtain ⟨al, hat⟩ := argsOf_at ha
  have S := b.sim
  have hk : ∀ (i k : Nat), rs[i]? = some (.s k) → k < ρ.length ∧ ∃ v, vs[i]? = some v ∧ σ[k]? = some (some v) := fun i k h => by
    obtain ⟨v, e, q⟩ := R.at h
    obtain ⟨s, hs⟩ := Option.isSome_iff_exists.mp q.2
    exact ⟨get_lt hs, v, e, q.1⟩
  obtain ⟨ol, oat⟩ := outs_at rs outs ρ (fun i k h => (hk i k h).1) hl
  -- whose the argument places are
  have own : ∀ (i : Nat) s a, as[i]? = some s → s.m ≠ .fz → vs[i]? = some (.ref a) → (H0 a = none ∧ ¬ OwnL ρ σ a) ∨ ∃ k, rs[i]? = some (.s k) ∧ ρ.get k = some s ∧ σ[k]? = some (some (.ref a)) := fun i s a h1 h2 h3 => by
    obtain ⟨r, e1, e2⟩ := hat i s h1
    obtain ⟨v, e3, q⟩ := R.at e1
    rw [h3] at e3
    cases e3
    cases r with
    | v d => cases e2; exact absurd rfl h2
    | o d =>
      obtain ⟨a', e, n0, _, _, no⟩ := q
      cases e
      exact .inl ⟨n0, no⟩
    | s k => exact .inr ⟨k, e1, e2, q.1⟩
  have ownL : ∀ a, OwnL (as.map some) (vs.map some) a → (H0 a = none ∧ ¬ OwnL ρ σ a) ∨ ∃ (i k : Nat) (s : Sl), rs[i]? = some (.s k) ∧ ρ.get k = some s ∧ s.m ≠ .fz ∧ σ[k]? = some (some (.ref a)) := fun a ⟨i, s, h1, h2, h3⟩ => by
    rw [get_map] at h1
    rw [map_at] at h3
    rcases own i s a h1 h2 h3 with z | ⟨k, e1, e2, e3⟩
    · exact .inl z
    · exact .inr ⟨i, k, s, e1, e2, h2, e3⟩
  have ownE : ∀ a, Own (as.map some) (vs.map some) a → H0 a = none ∨ Own ρ σ a := fun a ⟨i, s, h1, h2, h3⟩ => by
    rw [get_map] at h1
    rw [map_at] at h3
    rcases own i s a h1 (by rw [h2]; decide) h3 with z | ⟨k, e1, e2, e3⟩
    · exact .inl z.1
    · exact .inr ⟨k, s, e2, h2, e3⟩
  -- an untouched slot that owns
  have untouched : ∀ j s a, (∀ i : Nat, rs[i]? ≠ some (.s j)) → ρ.get j = some s → s.m ≠ .fz → σ[j]? = some (some (.ref a)) → ¬ OwnL (as.map some) (vs.map some) a := fun j s a hn h1 h2 h3 z => by
    rcases ownL a z with z | ⟨i, k, t, e1, e2, e3, e4⟩
    · exact z.2 ⟨j, s, h1, h2, h3⟩
    · have e := S.sep j k s t a h1 e2 h2 e3 h3 e4
      subst e
      exact hn i e1
  have back : ∀ {c : Addr}, H c = none → H0 c = none := fun h => none_back b.stp.live h
  have sim : Sim g (outsTo rs outs ρ) σ H' F' := by
    refine ⟨ol.trans S.len, C.sim.sub, fun j s h => ?_, fun j k s t a h1 h2 m1 m2 v1 v2 => ?_⟩
    · rcases oat j with ⟨i, o, e1, e2, e3⟩ | ⟨e1, e2⟩
      · rw [e3] at h
        cases h
        obtain ⟨_, v, hv, hs⟩ := hk i j e1
        obtain ⟨w, e4, e5⟩ := C.sim.val i _ (by rw [get_map]; exact e2)
        rw [(map_at _ _ _).mpr hv] at e4
        cases e4
        exact ⟨v, hs, e5⟩
      · rw [e2] at h
        obtain ⟨v, hs, q⟩ := S.val j s h
        refine ⟨v, hs, q.mono C.stp.fzs fun a hm hv => ?_⟩
        subst hv
        have z := S.ownL ⟨j, s, h, hm, hs⟩
        have nO := untouched j s a e1 h hm hs
        obtain ⟨o, ho⟩ := ne_some.mp z.1
        refine ⟨Classical.byContradiction fun q => ?_, (C.stp.mod a o ho fun w => nO w.l).trans ho.symm⟩
        rcases C.stp.fzn a q with y | y | y
        · exact y z.2
        · exact z.1 y
        · exact nO y
    · have side : ∀ j s a, En.get (outsTo rs outs ρ) j = some s → s.m ≠ .fz → σ[j]? = some (some (.ref a)) → (∃ (i : Nat) (o : Sl), rs[i]? = some (.s j) ∧ outs[i]? = some o ∧ o = s ∧ vs[i]? = some (.ref a)) ∨ ((∀ i : Nat, rs[i]? ≠ some (.s j)) ∧ ρ.get j = some s) := fun j s a h hm hv => by
        rcases oat j with ⟨i, o, e1, e2, e3⟩ | ⟨e1, e2⟩
        · rw [e3] at h
          cases h
          obtain ⟨_, v, hv', hs⟩ := hk i j e1
          rw [hv] at hs
          cases hs
          exact .inl ⟨i, _, e1, e2, rfl, hv'⟩
        · exact .inr ⟨e1, by rw [← e2]; exact h⟩
      have mixed : ∀ j k s t a, (∃ (i : Nat) (o : Sl), rs[i]? = some (.s j) ∧ outs[i]? = some o ∧ o = s ∧ vs[i]? = some (.ref a)) → s.m ≠ .fz → (∀ i : Nat, rs[i]? ≠ some (.s k)) → ρ.get k = some t → t.m ≠ .fz → σ[k]? = some (some (.ref a)) → False := fun j k s t a ⟨i, o, e1, e2, e3, e4⟩ ms hn hg mt hv => by
        subst e3
        rcases C.stp.ownl a ⟨i, o, by rw [get_map]; exact e2, ms, (map_at _ _ _).mpr e4⟩ with z | z
        · exact untouched k t a hn hg mt hv z
        · exact (S.ownL ⟨k, t, hg, mt, hv⟩).1 z
      rcases side j s a h1 m1 v1 with x | x
      · rcases side k t a h2 m2 v2 with y | y
        · obtain ⟨i, o, e1, e2, e3, e4⟩ := x
          obtain ⟨i', o', f1, f2, f3, f4⟩ := y
          have e := C.sim.sep i i' o o' a (by rw [get_map]; exact e2) (by rw [get_map]; exact f2) (by rw [e3]; exact m1) (by rw [f3]; exact m2) ((map_at _ _ _).mpr e4) ((map_at _ _ _).mpr f4)
          subst e
          rw [e1] at f1
          cases f1
          rfl
        · exact (mixed j k s t a x m1 y.1 y.2 m2 v2).elim
      · rcases side k t a h2 m2 v2 with y | y
        · exact (mixed k j t s a y m2 x.1 x.2 m1 v1).elim
        · exact S.sep j k s t a x.2 y.2 m1 m2 v1 v2
  have ownl2 : ∀ c, OwnL (outsTo rs outs ρ) σ c → OwnL (outs.map some) (vs.map some) c ∨ OwnL ρ σ c := fun c ⟨j, s, h1, h2, h3⟩ => by
    rcases oat j with ⟨i, o, e1, e2, e3⟩ | ⟨e1, e2⟩
    · rw [e3] at h1
      cases h1
      obtain ⟨_, v, hv', hs⟩ := hk i j e1
      rw [h3] at hs
      cases hs
      exact .inl ⟨i, _, by rw [get_map]; exact e2, h2, (map_at _ _ _).mpr hv'⟩
    · exact .inr ⟨j, s, by rw [← e2]; exact h1, h2, h3⟩
  refine ⟨⟨sim, ⟨b.stp.fzs.trans C.stp.fzs, fun c z => ?_, fun c o h n => ?_, fun c h => C.stp.live c (b.stp.live c h), fun c h => ?_, fun c h => ?_⟩, fun i hi => ?_, ?_⟩, fun v r hv hr => ?_⟩
  · rcases C.stp.fzn c z with z | z | z
    · exact b.stp.fzn c z
    · exact .inr (.inl (back z))
    · rcases ownL c z with z | ⟨i, k, s, _, e2, e3, e4⟩
      · exact .inr (.inl z.1)
      · rcases b.stp.ownl c ⟨k, s, e2, e3, e4⟩ with z | z
        · exact .inr (.inr z)
        · exact .inr (.inl z)
  · refine C.stp.mod c o (b.stp.mod c o h n) fun z => ?_
    rcases ownE c z with z | z
    · rw [z] at h; cases h
    · rcases b.stp.own c z with z | z
      · exact n z
      · rw [z] at h; cases h
  · obtain ⟨j, s, h1, h2, h3⟩ := h
    rcases oat j with ⟨i, o, e1, e2, e3⟩ | ⟨e1, e2⟩
    · rw [e3] at h1
      cases h1
      obtain ⟨_, v, hv', hs⟩ := hk i j e1
      rw [h3] at hs
      cases hs
      rcases C.stp.own c ⟨i, _, by rw [get_map]; exact e2, h2, (map_at _ _ _).mpr hv'⟩ with z | z
      · rcases ownE c z with z | z
        · exact .inr z
        · exact b.stp.own c z
      · exact .inr (back z)
    · exact b.stp.own c ⟨j, s, by rw [← e2]; exact h1, h2, h3⟩
  · rcases ownl2 c h with z | z
    · rcases C.stp.ownl c z with z | z
      · rcases ownL c z with z | ⟨i, k, s, _, e2, e3, e4⟩
        · exact .inr z.1
        · exact b.stp.ownl c ⟨k, s, e2, e3, e4⟩
      · exact .inr (back z)
    · exact b.stp.ownl c z
  · have hi := b.kp i hi
    rcases oat i with ⟨_, o, _, _, e3⟩ | ⟨_, e2⟩
    · rw [e3] <;> rfl
    · rw [e2]; exact hi
  · have at_ : ∀ (i j : Nat) (a' : Sl), rs[i]? = some (.s j) → as[i]? = some a' → ρ.get j = some a' := fun i j a' h1 h2 => by
      obtain ⟨r', er, eo⟩ := hat i a' h2
      rw [h1] at er
      cases er
      exact eo
    refine ⟨fun j a ⟨s, h1, h2, h3⟩ => ?_, fun j a ⟨s, h1, h2, h3⟩ => ?_⟩
    · rcases oat j with ⟨i, o, e1, e2, e3⟩ | ⟨e1, e2⟩
      · rw [e3] at h1
        cases h1
        obtain ⟨_, v, hv', hs⟩ := hk i j e1
        rw [h3] at hs
        cases hs
        rcases C.pv.1 i a ⟨_, by rw [get_map]; exact e2, h2, (map_at _ _ _).mpr hv'⟩ with ⟨t, t1, t2, t3⟩ | z
        · rw [get_map] at t1
          exact b.pv.1 j a ⟨t, at_ i j t e1 t1, t2, h3⟩
        · exact .inr (back z)
      · exact b.pv.1 j a ⟨s, by rw [← e2]; exact h1, h2, h3⟩
    · rcases oat j with ⟨i, o, e1, e2, e3⟩ | ⟨e1, e2⟩
      · rw [e3] at h1
        cases h1
        obtain ⟨_, v, hv', hs⟩ := hk i j e1
        rw [h3] at hs
        cases hs
        rcases C.pv.2 i a ⟨_, by rw [get_map]; exact e2, h2, (map_at _ _ _).mpr hv'⟩ with ⟨t, t1, t2, t3⟩ | z
        · rw [get_map] at t1
          exact b.pv.2 j a ⟨t, at_ i j t e1 t1, t2, h3⟩
        · exact .inr (back z)
      · exact b.pv.2 j a ⟨s, by rw [← e2]; exact h1, h2, h3⟩
  · cases r with
    | v d => exact hv
    | s i => exact absurd rfl (hr i)
    | o d =>
      obtain ⟨a, e, n, nf, c, no⟩ := hv
      refine ⟨a, e, back n, nf, c, fun z => ?_⟩
      rcases ownl2 a z with z | z
      · exact no z
      · exact (S.ownL z).1 n
end
end Ev

set_option Elab.async false
set_option linter.all false
set_option maxRecDepth 100000
set_option maxHeartbeats 1000000
/-! Ev5: contexts, promises; expressions. Own work. -/
namespace Ev
open PySem PySem.Spec PyProof.Rows L2

/-- what a global name means -/
inductive GK where | fn (n : Nat) | free | cst (d : D)
structure Ct where
  N : List Str
  sc : Scope
  gl : List (Str × GK)
  sg : List (Nat × Nat × List Str × List Nat)
  calm : Bool
  top : Bool
  np : Nat
  reb : List Nat
  fnx : Str → Bool
/-- a call's result is good -/
def GdC (g : Gi) (as : List Sl) (vs : List V) (H F : Hp) (r : CR) (Q : VK) (E : XK) : Prop := match r with
  | .ret own d outs => outs.length = vs.length → ∀ v H' F', Bh g (as.map some) (vs.map some) H F (outs.map some) (vs.map some) H' F' → VrRel g (outs.map some) (vs.map some) H' F' H v (if own then .o d else .v d) → Q v H'
  | .ex x outs => outs.length = vs.length → ∀ cls dx H' F', Bh g (as.map some) (vs.map some) H F (outs.map some) (vs.map some) H' F' → XR g F' x cls dx → E cls dx H'
  | .err => False
/-- a def's promise: it does what Φ says -/
def FnG (P : Program) (w : World) (K : PySem.W.Frag) (mg : Str → Option Value) (base : Heap) (g : Gi) (Φ : Fns) (k : Nat) (f : Addr) (fd : FuncData) (ps : List Str) (n : Nat) : Prop :=
  ∀ (A : Around) (outer : List Env) (s : Shared) (H F : Hp) (args : Args) (us : List Value) (vs : List V) (as : List Sl) (Q : VK) (E : XK), Room k A → A.guards = some [] → Env0 P w K mg base A outer s H → BindsTo s fd args (ps.zip us) →
    Vals vs us → vs.length = ps.length → Sim g (as.map some) (vs.map some) H F → GdC g as vs H F (Φ n as) Q E →
    codeAny (model P w) A (.call (.ref f) args) (L2.CR (L2.CX P w) outer P w H s Q E) s
/-- how such a call binds: np values, keywords, the parameters' order -/
def Bnd (K : PySem.W.Frag) (fd : FuncData) (ps : List Str) (np : Nat) (ks : List Str) (pm : List Nat) : Prop :=
  pm.length = ps.length ∧ ∀ (s : Shared) (us ws as : List Value), K.In s.heap → us.length = np → ws.length = ks.length → pick pm (us ++ ws) = some as → BindsTo s fd ⟨us, ks.zip ws⟩ (ps.zip as)
def GlobOk (g : Gi) (X : Cx) (x : Str) : GK → Prop
  | .fn n => ∃ f, g.fa n = some f ∧ X.mg x = some (.ref f)
  | .free => X.mg x = none
  | .cst d => ∃ v u, X.mg x = some u ∧ RelV v u ∧ ∀ F, RD g F v d
structure XOk (g : Gi) (Φ : Fns) (k : Nat) (ct : Ct) (X : Cx) : Prop where
  N : X.N = ct.N
  nd : X.N.Nodup
  sc : X.env.scope = ct.sc
  rm : Rm g ct.calm X
  glob : ∀ x q, ct.gl.lookup x = some q → GlobOk g X x q
  room : ct.calm = true → Room k X.A
  fns : ∀ n f, g.fa n = some f → ∃ fd ps, PySem.W.keepIn X.K (.ref f) = true ∧ FnG X.prog X.w X.K X.mg X.base g Φ k f fd ps n ∧ ∀ np ks pm, (n, np, ks, pm) ∈ ct.sg → Bnd X.K fd ps np ks pm
  po : ct.top = true → PassesOwn (model X.prog X.w) X.A X.env X.xe
  fnx : ∀ x, X.fn x = ct.fnx x
section
variable (g : Gi) (Φ : Fns) (k : Nat) (ct : Ct)
def SE (e : Expr) (ir : E) : Prop := ∀ X, XOk g Φ k ct X → ∀ ρ σ H F, Sim g ρ σ H F → ∀ (Q : VK) (W : WX), Takes X W → GdR g ρ σ H F (evE Φ ir ρ) (OkE g σ H Q) W → DE X e σ H Q
def ST (e : Expr) (ir : T) : Prop := ∀ X, XOk g Φ k ct X → ∀ ρ σ H F, Sim g ρ σ H F → ∀ (Q : Bool → Hp → Prop) (W : WX), Takes X W → GdR g ρ σ H F (evT Φ ir ρ) (OkT Q) W → DT X e σ H Q
/-- .. whatever its whole is -/
def STw (e : Expr) (ir : T) : Prop := ∀ X, XOk g Φ k ct X → ∀ ρ σ H F, Sim g ρ σ H F → ∀ (Q : Bool → Hp → Prop) (W : WX), Takes X W → GdR g ρ σ H F (evT Φ ir ρ) (OkT Q) W → DW X e σ H Q
def SA (es : List Expr) (ir : Es) : Prop := ∀ X, XOk g Φ k ct X → ∀ ρ σ H F, Sim g ρ σ H F → ∀ (Q : List V → Hp → Prop) (W : WX), Takes X W → GdR g ρ σ H F (evEs Φ ir ρ) (OkA g σ H Q) W → DA X es σ H Q
end
section
variable {g : Gi} {Φ : Fns} {k : Nat} {ct : Ct} {X : Cx} {ρ ρ' ρ1 ρ2 : En} {σ σ' σ1 : St} {H F H' F' H0 H1 F1 H2 F2 : Hp} {W : WX}
/-- an expression, then the rest -/
theorem SE.go {e : Expr} {ir : E} (h : SE g Φ k ct e ir) (xo : XOk g Φ k ct X) (S : Sim g ρ σ H F) (tk : Takes X W) {β : Type} {f : Vr → En → Rs β} {Ok : β → En → Hp → Hp → Prop} (G : GdR g ρ σ H F ((evE Φ ir ρ).bind f) Ok W) {R : VK}
    (K : ∀ v r ρ1 H1 F1, Bh g ρ σ H F ρ1 σ H1 F1 → VrRel g ρ1 σ H1 F1 H v r → GdR g ρ1 σ H1 F1 (f r ρ1) Ok W → R v H1) : DE X e σ H R :=
  h X xo ρ σ H F S R W tk (G.step.imp fun r ρ1 H1 F1 b q v hv => K v r ρ1 H1 F1 b hv q)
theorem ST.go {e : Expr} {ir : T} (h : ST g Φ k ct e ir) (xo : XOk g Φ k ct X) (S : Sim g ρ σ H F) (tk : Takes X W) {β : Type} {f : Bool → En → Rs β} {Ok : β → En → Hp → Hp → Prop} (G : GdR g ρ σ H F ((evT Φ ir ρ).bind f) Ok W) {R : Bool → Hp → Prop}
    (K : ∀ b ρ1 H1 F1, Bh g ρ σ H F ρ1 σ H1 F1 → GdR g ρ1 σ H1 F1 (f b ρ1) Ok W → R b H1) : DT X e σ H R :=
  h X xo ρ σ H F S R W tk (G.step.imp fun r ρ1 H1 F1 b q => K r ρ1 H1 F1 b q)
theorem SA.go {es : List Expr} {ir : Es} (h : SA g Φ k ct es ir) (xo : XOk g Φ k ct X) (S : Sim g ρ σ H F) (tk : Takes X W) {β : Type} {f : List Vr → En → Rs β} {Ok : β → En → Hp → Hp → Prop} (G : GdR g ρ σ H F ((evEs Φ ir ρ).bind f) Ok W) {R : List V → Hp → Prop}
    (K : ∀ vs rs ρ1 H1 F1, Bh g ρ σ H F ρ1 σ H1 F1 → VrRels g ρ1 σ H1 F1 H vs rs → GdR g ρ1 σ H1 F1 (f rs ρ1) Ok W → R vs H1) : DA X es σ H R :=
  h X xo ρ σ H F S R W tk (G.step.imp fun rs ρ1 H1 F1 b q vs hv => K vs rs ρ1 H1 F1 b hv q)
theorem op2_in {x y : Vr} {f : D → D → Rs Vr} {Ok : Vr → En → Hp → Hp → Prop} (G : GdR g ρ σ H F (op2 ρ x y f) Ok W) : ∃ d e, look ρ x = some d ∧ look ρ y = some e ∧ GdR g ρ σ H F (f d e) Ok W := by
  unfold op2 at G
  split at G
  · rename_i d e h1 h2
    exact ⟨d, e, h1, h2, G⟩
  · exact G.elim
theorem op1_in {α : Type} {x : Vr} {f : D → Rs α} {Ok : α → En → Hp → Hp → Prop} (G : GdR g ρ σ H F (op1 ρ x f) Ok W) : ∃ d, look ρ x = some d ∧ GdR g ρ σ H F (f d) Ok W := by
  unfold op1 at G
  split at G
  · rename_i d h1
    exact ⟨d, h1, G⟩
  · exact G.elim
theorem toRs_in {r : Option Vr} {Ok : Vr → En → Hp → Hp → Prop} (G : GdR g ρ σ H F (toRs r ρ') Ok W) : ∃ a, r = some a ∧ GdR g ρ σ H F (.ok a ρ') Ok W := by
  cases r with
  | none => exact G.elim
  | some a => exact ⟨a, rfl, G⟩
theorem toRb_in {r : Option Bool} {Ok : Vr → En → Hp → Hp → Prop} (G : GdR g ρ σ H F (toRb r ρ') Ok W) : ∃ b, r = some b ∧ GdR g ρ σ H F (.ok (.v (.bl b)) ρ') Ok W := by
  cases r with
  | none => exact G.elim
  | some a => exact ⟨a, rfl, G⟩

/-! ### names, constants -/
def visB (sc : Scope) (x : Str) : Bool := match sc.names.lookup x with
  | some .local => true
  | some .cell => true
  | some .free => true
  | _ => false
theorem visB_ok {sc : Scope} {x : Str} (h : visB sc x = true) : Vis sc x := by
  unfold visB at h
  split at h
  · rename_i e; exact .inl e
  · rename_i e; exact .inr (.inl e)
  · rename_i e; exact .inr (.inr e)
  · cases h
def plainN (x : Str) : Bool := (x == Str.ofString "__debug__") == false && (x == Str.ofString "__classdict__") == false
theorem plainN_ok {x : Str} (h : plainN x = true) : (x == ("__debug__" : Str)) = false ∧ (x == ("__classdict__" : Str)) = false := by
  unfold plainN at h
  rw [Bool.and_eq_true, beq_iff_eq, beq_iff_eq] at h
  exact h
theorem se_var {x : Str} {pos : Pos} {i : Nat} (hN : ct.N[i]? = some x) (hv : visB ct.sc x = true) (hp : plainN x = true) : SE g Φ k ct (.Name x pos) (.var i) := by
  intro X xo ρ σ H F S Q W tk G
  unfold evE at G
  split at G
  · rename_i s hs
    obtain ⟨v, e, _⟩ := S.val i s hs
    exact PE.d (pe_var (X := X) (by rw [xo.N]; exact hN) (by rw [xo.sc]; exact visB_ok hv) (plainN_ok hp).1 (plainN_ok hp).2) ⟨v, e, G.now S v ⟨e, by rw [hs] <;> rfl⟩⟩
  · exact G.elim
theorem se_int {i : Int} {j : Nat} {pos : Pos} : SE g Φ k ct (.Constant (.int i) j pos) (.lit (.int i)) := by
  intro X xo ρ σ H F S Q W tk G
  exact PE.d (pe_int (X := X)) (G.now S _ (.int i))
theorem se_bl {b : Bool} {j : Nat} {pos : Pos} : SE g Φ k ct (.Constant (.bool b) j pos) (.lit (.bl b)) := by
  intro X xo ρ σ H F S Q W tk G
  exact PE.d (pe_bl (X := X)) (G.now S _ (.bl b))
theorem se_non {j : Nat} {pos : Pos} : SE g Φ k ct (.Constant .none j pos) (.lit .non) := by
  intro X xo ρ σ H F S Q W tk G
  exact PE.d (pe_non (X := X)) (G.now S _ .non)
def okLB (l : List Nat) : Bool := decide (l.length ≤ LIM) && l.all fun c => decide (c < 0x110000)
theorem okLB_ok {l : List Nat} (h : okLB l = true) : okL l := by
  unfold okLB at h
  rw [Bool.and_eq_true, decide_eq_true_eq, List.all_eq_true] at h
  exact ⟨by rw [← LIM_eq]; exact h.1, fun c hc => of_decide_eq_true (h.2 c hc)⟩
theorem se_str {x : Str} {j : Nat} {pos : Pos} (h : okLB x.cps.toList = true) : SE g Φ k ct (.Constant (.str x) j pos) (.lit (.str x.cps.toList)) := by
  intro X xo ρ σ H F S Q W tk G
  have e : (⟨x.cps.toList.toArray⟩ : Str) = x := by simp
  have := G.now S _ (.str x.cps.toList (okLB_ok h))
  rw [e] at this
  exact PE.d (pe_str (X := X)) this
def glB (sc : Scope) (x : Str) : Bool := match sc.names.lookup x with
  | some .globalImplicit => true
  | _ => false
theorem glB_ok (xo : XOk g Φ k ct X) {x : Str} (h : glB ct.sc x = true) : Gl X x := by
  unfold glB at h
  unfold Gl Env.kindOf
  rw [xo.sc]
  split at h
  · assumption
  · cases h
theorem se_cst {x : Str} {pos : Pos} {d : D} (hg : glB ct.sc x = true) (hl : ct.gl.lookup x = some (.cst d)) (hp : plainN x = true) : SE g Φ k ct (.Name x pos) (.lit d) := by
  intro X xo ρ σ H F S Q W tk G
  obtain ⟨v, u, h1, h2, h3⟩ := xo.glob x _ hl
  exact PE.d (pe_glob (X := X) (glB_ok xo hg) h1 h2 (plainN_ok hp).1) (G.now S v (h3 F))
theorem se_fn {x : Str} {pos : Pos} {n : Nat} (hg : glB ct.sc x = true) (hl : ct.gl.lookup x = some (.fn n)) (hp : plainN x = true) : SE g Φ k ct (.Name x pos) (.lit (.fn n)) := by
  intro X xo ρ σ H F S Q W tk G
  obtain ⟨f, h1, h2⟩ := xo.glob x _ hl
  exact PE.d (pe_glob (X := X) (v := .ref f) (glB_ok xo hg) h2 rfl (plainN_ok hp).1) (G.now S _ (.fn h1))

/-! ### operators -/
theorem se_bin {op : Bop} {a b : Expr} {ia ib : E} {pos : Pos} (ha : SE g Φ k ct a ia) (hb : SE g Φ k ct b ib) : SE g Φ k ct (.BinOp a (bopP op) b pos) (.bin op ia ib) := by
  intro X xo ρ σ H F S Q W tk G
  refine PE.d (pe_op op_D pe_D pe_D) ?_
  refine ha.go xo S tk G fun v r ρ1 H1 F1 b1 q1 G1 => ?_
  refine hb.go xo b1.sim tk G1 fun u r2 ρ2 H2 F2 b2 q2 G2 => ?_
  obtain ⟨d, e, l1, l2, G3⟩ := op2_in G2
  obtain ⟨a, hr, G4⟩ := toRs_in G3
  exact bin_ok xo.rm hr b2.sim.sub ((q1.later b1.sim b2).rd b2.sim l1) (q2.rd b2.sim l2) fun v' H' z => res_end b2.sim (fun c z => b2.stp.live c (b1.stp.live c z)) G4 z
/-- the operands, then the comparison -/
theorem cmp_core {op : Cop} {a b : Expr} {ia ib : E} (ha : SE g Φ k ct a ia) (hb : SE g Φ k ct b ib) (xo : XOk g Φ k ct X) (S : Sim g ρ σ H F) (tk : Takes X W) {Ok : Vr → En → Hp → Hp → Prop} {R : VK} (G : GdR g ρ σ H F (evE Φ (.cmp op ia ib) ρ) Ok W)
    (K : ∀ c ρ' H' F', Bh g ρ σ H F ρ' σ H' F' → Ok (.v (.bl c)) ρ' H' F' → R (.bl c) H') : DE X a σ H fun x H1 => DE X b σ H1 fun y H2 => DOp X (compareOp (copP op)) x y H2 R := by
  refine ha.go xo S tk G fun v r ρ1 H1 F1 b1 q1 G1 => ?_
  refine hb.go xo b1.sim tk G1 fun u r2 ρ2 H2 F2 b2 q2 G2 => ?_
  obtain ⟨d, e, l1, l2, G3⟩ := op2_in G2
  obtain ⟨a, hr, G4⟩ := toRb_in G3
  exact cmp_ok xo.rm hr b2.sim.sub ((q1.later b1.sim b2).rd b2.sim l1) (q2.rd b2.sim l2) (K _ _ _ _ (b1.trans b2) (G4.now b2.sim))
def markB (op : Cop) (b : Expr) : Bool := !behindInMarks (copP op) b
theorem markB_ok {op : Cop} {b : Expr} (h : markB op b = true) : behindInMarks (copP op) b = false := by
  unfold markB at h
  simpa using h
theorem se_cmp {op : Cop} {a b : Expr} {ia ib : E} {pos : Pos} (ha : SE g Φ k ct a ia) (hb : SE g Φ k ct b ib) (hm : markB op b = true) : SE g Φ k ct (.Compare a [copP op] [b] pos) (.cmp op ia ib) := by
  intro X xo ρ σ H F S Q W tk G
  refine PE.d (pe_cmpR op_D pe_D pe_D (markB_ok hm)) ?_
  exact cmp_core ha hb xo S tk G fun c ρ' H' F' _ z => z _ (.bl c)
theorem st_cmp {op : Cop} {a b : Expr} {ia ib : E} {pos : Pos} (ha : SE g Φ k ct a ia) (hb : SE g Φ k ct b ib) (hm : markB op b = true) : ST g Φ k ct (.Compare a [copP op] [b] pos) (.val (.cmp op ia ib)) := by
  intro X xo ρ σ H F S Q W tk G
  refine PT.d (pt_cmpR op_D pe_D pe_D (markB_ok hm)) ?_
  unfold evT at G
  exact cmp_core ha hb xo S tk G.step fun c ρ' H' F' b z => ⟨c, rfl, GdR.now b.sim z⟩
theorem chain_core {o1 o2 : Cop} {a b c : Expr} {ia ib ic : E} (ha : SE g Φ k ct a ia) (hb : SE g Φ k ct b ib) (hc : SE g Φ k ct c ic) (xo : XOk g Φ k ct X) (S : Sim g ρ σ H F) (tk : Takes X W) {Ok : Vr → En → Hp → Hp → Prop} {R : VK} (G : GdR g ρ σ H F (evE Φ (.chain o1 o2 ia ib ic) ρ) Ok W)
    (K : ∀ c ρ' H' F', Bh g ρ σ H F ρ' σ H' F' → Ok (.v (.bl c)) ρ' H' F' → R (.bl c) H') : tChain (DOp X (compareOp (copP o1))) (DOp X (compareOp (copP o2))) (DE X a) (DE X b) (DE X c) σ H R := by
  refine ha.go xo S tk G fun v r ρ1 H1 F1 b1 q1 G1 => ?_
  refine hb.go xo b1.sim tk G1 fun u r2 ρ2 H2 F2 b2 q2 G2 => ?_
  obtain ⟨d, e, l1, l2, G3⟩ := op2_in G2
  cases hr : cmpD o1 d e with
  | none => rw [hr] at G3; exact G3.elim
  | some t =>
    rw [hr] at G3
    refine cmp_ok xo.rm hr b2.sim.sub ((q1.later b1.sim b2).rd b2.sim l1) (q2.rd b2.sim l2) ⟨t, rfl, ?_⟩
    cases t with
    | false => exact K _ _ _ _ (b1.trans b2) (G3.now b2.sim)
    | true =>
      rw [if_pos rfl]
      refine hc.go xo b2.sim tk G3 fun w r3 ρ3 H3 F3 b3 q3 G4 => ?_
      obtain ⟨d', e', l3, l4, G5⟩ := op2_in G4
      obtain ⟨t, hr', G6⟩ := toRb_in G5
      exact cmp_ok xo.rm hr' b3.sim.sub ((q2.later b2.sim b3).rd b3.sim l3) (q3.rd b3.sim l4) (K _ _ _ _ ((b1.trans b2).trans b3) (G6.now b3.sim))
def marksB (o1 o2 : Cop) (b c : Expr) : Bool := !lastMarks [copP o1, copP o2] [b, c]
theorem marksB_ok {o1 o2 : Cop} {b c : Expr} (h : marksB o1 o2 b c = true) : lastMarks [copP o1, copP o2] [b, c] = false := by
  unfold marksB at h
  simpa using h
theorem se_chain {o1 o2 : Cop} {a b c : Expr} {ia ib ic : E} {pos : Pos} (ha : SE g Φ k ct a ia) (hb : SE g Φ k ct b ib) (hc : SE g Φ k ct c ic) (hm : marksB o1 o2 b c = true) : SE g Φ k ct (.Compare a [copP o1, copP o2] [b, c] pos) (.chain o1 o2 ia ib ic) := by
  intro X xo ρ σ H F S Q W tk G
  refine PE.d (pe_chain op_D op_D pe_D pe_D pe_D (marksB_ok hm)) ?_
  exact chain_core ha hb hc xo S tk G fun c ρ' H' F' _ z => z _ (.bl c)
theorem st_chain {o1 o2 : Cop} {a b c : Expr} {ia ib ic : E} {pos : Pos} (ha : SE g Φ k ct a ia) (hb : SE g Φ k ct b ib) (hc : SE g Φ k ct c ic) (hm : marksB o1 o2 b c = true) : ST g Φ k ct (.Compare a [copP o1, copP o2] [b, c] pos) (.val (.chain o1 o2 ia ib ic)) := by
  intro X xo ρ σ H F S Q W tk G
  refine PT.d (pt_chain op_D op_D pe_D pe_D pe_D (marksB_ok hm)) ?_
  unfold evT at G
  exact chain_core ha hb hc xo S tk G.step fun c ρ' H' F' b z => ⟨c, rfl, GdR.now b.sim z⟩
theorem se_and {a b : Expr} {rest : List Expr} {ia ib : E} {pos : Pos} (ha : SE g Φ k ct a ia) (hb : SE g Φ k ct (.BoolOp .And (b :: rest) pos) ib) : SE g Φ k ct (.BoolOp .And (a :: b :: rest) pos) (.and ia ib) := by
  intro X xo ρ σ H F S Q W tk G
  refine PE.d (pe_andT pe_D pe_D) ?_
  refine ha.go xo S tk G fun v r ρ1 H1 F1 b1 q1 G1 => ?_
  obtain ⟨d, l1, G2⟩ := op1_in G1
  cases ht : truth d with
  | none => rw [ht] at G2; exact G2.elim
  | some t =>
    rw [ht] at G2
    refine ⟨t, tru_of xo.rm ht b1.sim.sub (q1.rd b1.sim l1), ?_⟩
    cases t with
    | true =>
      rw [if_pos rfl]
      exact hb X xo ρ1 σ H1 F1 b1.sim Q W tk (G2.imp fun r ρ' H' F' _ z v hv => z v (hv.before b1.stp.live))
    | false => exact G2.now b1.sim v q1
theorem se_or {a b : Expr} {rest : List Expr} {ia ib : E} {pos : Pos} (ha : SE g Φ k ct a ia) (hb : SE g Φ k ct (.BoolOp .Or (b :: rest) pos) ib) : SE g Φ k ct (.BoolOp .Or (a :: b :: rest) pos) (.or ia ib) := by
  intro X xo ρ σ H F S Q W tk G
  refine PE.d (pe_orT pe_D pe_D) ?_
  refine ha.go xo S tk G fun v r ρ1 H1 F1 b1 q1 G1 => ?_
  obtain ⟨d, l1, G2⟩ := op1_in G1
  cases ht : truth d with
  | none => rw [ht] at G2; exact G2.elim
  | some t =>
    rw [ht] at G2
    refine ⟨t, tru_of xo.rm ht b1.sim.sub (q1.rd b1.sim l1), ?_⟩
    cases t with
    | true =>
      rw [if_pos rfl]
      exact G2.now b1.sim v q1
    | false => exact hb X xo ρ1 σ H1 F1 b1.sim Q W tk (G2.imp fun r ρ' H' F' _ z v hv => z v (hv.before b1.stp.live))
theorem se_one {op : BoolOp} {a : Expr} {ia : E} {pos : Pos} (ha : SE g Φ k ct a ia) : SE g Φ k ct (.BoolOp op [a] pos) ia := by
  intro X xo ρ σ H F S Q W tk G
  exact PE.d (pe_one pe_D) (ha X xo ρ σ H F S Q W tk G)
theorem se_not {a : Expr} {ia : E} {pos : Pos} (ha : SE g Φ k ct a ia) : SE g Φ k ct (.UnaryOp .Not a pos) (.not ia) := by
  intro X xo ρ σ H F S Q W tk G
  refine PE.d (pe_notT pe_D) ?_
  refine ha.go xo S tk G fun v r ρ1 H1 F1 b1 q1 G1 => ?_
  obtain ⟨d, l1, G2⟩ := op1_in G1
  cases ht : truth d with
  | none => rw [ht] at G2; exact G2.elim
  | some t =>
    rw [ht] at G2
    exact ⟨t, tru_of xo.rm ht b1.sim.sub (q1.rd b1.sim l1), G2.now b1.sim _ (.bl _)⟩
theorem se_ifx {c a b : Expr} {it : T} {ia ib : E} {pos : Pos} (hc : ST g Φ k ct c it) (ha : SE g Φ k ct a ia) (hb : SE g Φ k ct b ib) : SE g Φ k ct (.IfExp c a b pos) (.ifx it ia ib) := by
  intro X xo ρ σ H F S Q W tk G
  refine PE.d (pe_ifExp pt_D pe_D pe_D) ?_
  refine hc.go xo S tk G fun t ρ1 H1 F1 b1 G1 => ?_
  cases t with
  | true => exact ha X xo ρ1 σ H1 F1 b1.sim Q W tk (GdR.imp G1 fun r ρ' H' F' _ z v hv => z v (hv.before b1.stp.live))
  | false => exact hb X xo ρ1 σ H1 F1 b1.sim Q W tk (GdR.imp G1 fun r ρ' H' F' _ z v hv => z v (hv.before b1.stp.live))

/-! ### tests -/
/-- an expression that isTrue evaluates as a whole -/
def wholeB : Expr → Bool
  | .UnaryOp .Not _ _ => false
  | .BoolOp _ _ _ => false
  | .IfExp _ _ _ _ => false
  | .Compare _ _ _ _ => false
  | _ => true
theorem whole_eq {e : Expr} {env : Env} (h : wholeB e = true) : ∀ whole, isTrue e env whole = (do let v ← whole; standAt e.pos; holding [v] (truthy v)) := by
  intro whole
  cases e <;> first | (cases h; done) | rfl | skip
  rename_i op a pos
  cases op <;> first | (cases h; done) | rfl
theorem st_val {a : Expr} {ia : E} (ha : SE g Φ k ct a ia) (hw : wholeB a = true) : ST g Φ k ct a (.val ia) := by
  intro X xo ρ σ H F S Q W tk G
  refine PT.d (pt_truth pe_D (whole_eq hw)) ?_
  refine ha.go xo S tk G fun v r ρ1 H1 F1 b1 q1 G1 => ?_
  obtain ⟨d, l1, G2⟩ := op1_in G1
  cases ht : truth d with
  | none => rw [ht] at G2; exact G2.elim
  | some t =>
    rw [ht] at G2
    exact ⟨t, tru_of xo.rm ht b1.sim.sub (q1.rd b1.sim l1), G2.now b1.sim⟩
theorem st_not {a : Expr} {ia : T} {pos : Pos} (ha : ST g Φ k ct a ia) : ST g Φ k ct (.UnaryOp .Not a pos) (.not ia) := by
  intro X xo ρ σ H F S Q W tk G
  refine PT.d (pt_not pt_D) ?_
  exact ha.go xo S tk G fun t ρ1 H1 F1 b1 G1 => G1.now b1.sim
theorem stw_and {a b : Expr} {rest : List Expr} {ia ib : T} {pos : Pos} (ha : ST g Φ k ct a ia) (hb : STw g Φ k ct (.BoolOp .And (b :: rest) pos) ib) : STw g Φ k ct (.BoolOp .And (a :: b :: rest) pos) (.and ia ib) := by
  intro X xo ρ σ H F S Q W tk G
  refine PW.d (pw_and pt_D pw_D) ?_
  refine ha.go xo S tk G fun t ρ1 H1 F1 b1 G1 => ?_
  cases t with
  | true => exact hb X xo ρ1 σ H1 F1 b1.sim Q W tk G1
  | false => exact G1.now b1.sim
theorem stw_or {a b : Expr} {rest : List Expr} {ia ib : T} {pos : Pos} (ha : ST g Φ k ct a ia) (hb : STw g Φ k ct (.BoolOp .Or (b :: rest) pos) ib) : STw g Φ k ct (.BoolOp .Or (a :: b :: rest) pos) (.or ia ib) := by
  intro X xo ρ σ H F S Q W tk G
  refine PW.d (pw_or pt_D pw_D) ?_
  refine ha.go xo S tk G fun t ρ1 H1 F1 b1 G1 => ?_
  cases t with
  | true => exact G1.now b1.sim
  | false => exact hb X xo ρ1 σ H1 F1 b1.sim Q W tk G1
theorem stw_and1 {a : Expr} {ia : T} {pos : Pos} (ha : ST g Φ k ct a ia) : STw g Φ k ct (.BoolOp .And [a] pos) ia := by
  intro X xo ρ σ H F S Q W tk G
  exact PW.d (pw_and1 pt_D) (ha X xo ρ σ H F S Q W tk G)
theorem stw_or1 {a : Expr} {ia : T} {pos : Pos} (ha : ST g Φ k ct a ia) : STw g Φ k ct (.BoolOp .Or [a] pos) ia := by
  intro X xo ρ σ H F S Q W tk G
  exact PW.d (pw_or1 pt_D) (ha X xo ρ σ H F S Q W tk G)
theorem STw.st {a : Expr} {ia : T} (ha : STw g Φ k ct a ia) : ST g Φ k ct a ia := by
  intro X xo ρ σ H F S Q W tk G
  have h := ha X xo ρ σ H F S Q W tk G
  exact fun pins s I => h _ pins s I

/-! ### items, slices -/
def plainIxB : Expr → Bool
  | .Slice _ _ _ _ => false
  | _ => true
theorem plainIxB_ok {b : Expr} (h : plainIxB b = true) : PlainIx b := by
  intro o i
  cases b <;> first | (cases h; done) | rfl
theorem se_sub {a b : Expr} {ia ib : E} {pos : Pos} (ha : SE g Φ k ct a ia) (hb : SE g Φ k ct b ib) (hp : plainIxB b = true) : SE g Φ k ct (.Subscript a b pos) (.sub ia ib) := by
  intro X xo ρ σ H F S Q W tk G
  refine PE.d (pe_ix (r := DIx X) (fun value slice pins s σ H x y v u Q I r1 r2 q hs => q value slice pins s σ v u I r1 r2 hs) pe_D pe_D (plainIxB_ok hp)) ?_
  refine ha.go xo S tk G fun v r ρ1 H1 F1 b1 q1 G1 => ?_
  refine hb.go xo b1.sim tk G1 fun u r2 ρ2 H2 F2 b2 q2 G2 => ?_
  obtain ⟨d, e, l1, l2, G3⟩ := op2_in G2
  cases hr : subD d e with
  | none => rw [hr] at G3; exact G3.elim
  | some t =>
    rw [hr] at G3
    exact sub_ok xo.rm hr b2.sim.sub ((q1.later b1.sim b2).rd b2.sim l1) (q2.rd b2.sim l2) fun v hv => G3.now b2.sim v hv
end
end Ev

set_option Elab.async false
set_option linter.all false
set_option maxRecDepth 100000
set_option maxHeartbeats 1000000
/-! Ev5b: slices, displays, built-in functions and methods, calls. Own work. -/
namespace Ev
open PySem PySem.Spec PyProof.Rows L2
section
variable {g : Gi} {Φ : Fns} {k : Nat} {ct : Ct} {X : Cx} {ρ ρ' ρ1 ρ2 : En} {σ σ' σ1 : St} {H F H' F' H0 H1 F1 H2 F2 : Hp} {W : WX}
/-! ### slices -/
def tO (X : Cx) : Option Expr → TO
  | none => tNoPart
  | some e => tPart (DE X e)
theorem po_D {e : Option Expr} : PO X e (tO X e) := by
  cases e with
  | none => exact po_none
  | some e => exact po_some pe_D
inductive SO (g : Gi) (Φ : Fns) (k : Nat) (ct : Ct) : Bool → Option Expr → E → Prop
  | no : SO g Φ k ct false none (.lit .non)
  | so {e : Expr} {ir : E} : SE g Φ k ct e ir → SO g Φ k ct true (some e) ir
theorem SO.go {b : Bool} {e : Option Expr} {ir : E} (h : SO g Φ k ct b e ir) (xo : XOk g Φ k ct X) (S : Sim g ρ σ H F) (tk : Takes X W) {β : Type} {f : Option Int → En → Rs β} {Ok : β → En → Hp → Hp → Prop}
    (G : GdR g ρ σ H F ((evE Φ ir ρ).bind fun y ρ => op1 ρ y fun l => match bound b l with
    | none => .err
    | some l => f l ρ) Ok W) {R : Option Int → Hp → Prop}
    (K : ∀ l ρ1 H1 F1, Bh g ρ σ H F ρ1 σ H1 F1 → GdR g ρ1 σ H1 F1 (f l ρ1) Ok W → R l H1) : tO X e σ H R := by
  cases h with
  | no => exact K none ρ H F (Bh.refl S) G
  | so h =>
    refine h.go xo S tk G fun v r ρ1 H1 F1 b1 q1 G1 => ?_
    obtain ⟨d, l1, G2⟩ := op1_in G1
    have hv := q1.rd b1.sim l1
    cases d with
    | int i => exact ⟨i, hv.int, K (some i) ρ1 H1 F1 b1 G2⟩
    | _ => exact G2.elim
theorem se_sl {a : Expr} {lo hi : Option Expr} {bl bh : Bool} {ia il ih : E} {p2 pos : Pos} (ha : SE g Φ k ct a ia) (hl : SO g Φ k ct bl lo il) (hh : SO g Φ k ct bh hi ih) : SE g Φ k ct (.Subscript a (.Slice lo hi none p2) pos) (.sl bl bh ia il ih) := by
  intro X xo ρ σ H F S Q W tk G
  refine PE.d (pe_slice sl_D pe_D po_D po_D) ?_
  refine ha.go xo S tk G fun v r ρ1 H1 F1 b1 q1 G1 => ?_
  refine hl.go xo b1.sim tk G1 fun l ρ2 H2 F2 b2 G2 => ?_
  refine hh.go xo b2.sim tk G2 fun u ρ3 H3 F3 b3 G3 => ?_
  obtain ⟨d, l1, G4⟩ := op1_in G3
  obtain ⟨a, hr, G5⟩ := toRs_in G4
  exact slice_ok xo.rm hr b3.sim.sub (((q1.later b1.sim b2).later b2.sim b3).rd b3.sim l1) fun v' H' z => res_end b3.sim (fun c z => b3.stp.live c (b2.stp.live c (b1.stp.live c z))) G5 z
theorem de_rev {a st : Expr} {p2 pos : Pos} {Q : VK} (h : DE X a σ H fun x H1 => tO X (some st) σ H1 fun o H2 => ∃ j, o = some j ∧ DRv X x j H2 Q) : DE X (.Subscript a (.Slice none none (some st) p2) pos) σ H Q := by
  intro pins s I
  refine Subscript_ (thn (h pins s I) fun v s1 ⟨x, H1, I1, r1, q1⟩ => ?_)
  refine wpAny_Slice ?_
  rw [evalPart_none]
  refine wpAny_pure ?_
  refine wpAny_pure ?_
  refine thn (po_D.run pins s1 σ H1 _ I1 q1) fun vs s4 ⟨o, H4, I4, pj, j, e, q4⟩ => ?_
  subst e
  exact q4 a st p2 pins s4 σ v vs I4 r1 pj
theorem se_rev {a st : Expr} {ia ib : E} {p2 pos : Pos} (ha : SE g Φ k ct a ia) (hb : SE g Φ k ct st ib) : SE g Φ k ct (.Subscript a (.Slice none none (some st) p2) pos) (.rev ia ib) := by
  intro X xo ρ σ H F S Q W tk G
  refine de_rev ?_
  refine ha.go xo S tk G fun v r ρ1 H1 F1 b1 q1 G1 => ?_
  refine hb.go xo b1.sim tk G1 fun u r2 ρ2 H2 F2 b2 q2 G2 => ?_
  obtain ⟨d, e, l1, l2, G3⟩ := op2_in G2
  cases e with
  | int j =>
    obtain ⟨a, hr, G4⟩ := toRs_in G3
    exact ⟨j, (q2.rd b2.sim l2).int, j, rfl, rev_ok xo.rm hr b2.sim.sub ((q1.later b1.sim b2).rd b2.sim l1) fun v' H' z => res_end b2.sim (fun c z => b2.stp.live c (b1.stp.live c z)) G4 z⟩
  | _ => exact G3.elim

/-! ### arguments -/
def nst : Expr → Bool
  | .Starred _ _ => false
  | _ => true
theorem star_eq {e : Expr} {es : List Expr} {env : Env} (h : nst e = true) : starEach (e :: es) env = (false, eval e env) :: starEach es env := by
  cases e <;> first | (cases h; done) | rfl
theorem star_plain {pos : Pos} {env : Env} : ∀ {es : List Expr}, es.all nst = true → (backTo pos (starEach es env)).any (·.1) = false
  | [], _ => rfl
  | e :: es, h => by
    rw [List.all_cons, Bool.and_eq_true] at h
    rw [star_eq h.1]
    show (false || (backTo pos (starEach es env)).any (·.1)) = false
    rw [star_plain h.2] <;> rfl
theorem star_all {pos : Pos} {env : Env} : ∀ {es : List Expr}, es.all nst = true → (backTo pos (starEach es env)).all (fun x => !x.1) = true
  | [], _ => rfl
  | e :: es, h => by
    rw [List.all_cons, Bool.and_eq_true] at h
    rw [star_eq h.1]
    show (!false && (backTo pos (starEach es env)).all fun x => !x.1) = true
    rw [star_all h.2] <;> rfl
theorem sa_nil : SA g Φ k ct [] .nil := by
  intro X xo ρ σ H F S Q W tk G
  exact PA.d pa_nil (G.now S [] .nil)
theorem sa_cons {e : Expr} {es : List Expr} {ie : E} {is : Es} (he : SE g Φ k ct e ie) (hs : SA g Φ k ct es is) (hn : nst e = true) : SA g Φ k ct (e :: es) (.cons ie is) := by
  intro X xo ρ σ H F S Q W tk G
  refine PA.d (pa_cons pe_D pa_D (star_eq hn)) ?_
  refine he.go xo S tk G fun v r ρ1 H1 F1 b1 q1 G1 => ?_
  refine hs.go xo b1.sim tk G1 fun vs rs ρ2 H2 F2 b2 q2 G2 => ?_
  refine G2.now b2.sim _ (.cons (q1.later b1.sim b2) (fun d e i d' hi hv => ?_) (q2.before b1.stp.live))
  subst e
  obtain ⟨w, hw, q3⟩ := q2.at hi
  rw [hv] at hw
  cases hw
  obtain ⟨a, e1, n1, _⟩ := q3
  obtain ⟨a', e2, _, _, c, _⟩ := q1
  rw [e1] at e2
  cases e2
  exact c.there n1

/-! ### displays -/
theorem keepAll_in {rs : List Vr} {β : Type} {f : List D → En → Rs β} {Ok : β → En → Hp → Hp → Prop} (G : GdR g ρ σ H F ((keepAll rs ρ1).bind f) Ok W) : ∃ ds ρ', keepAll rs ρ1 = .ok ds ρ' ∧ GdR g ρ σ H F (f ds ρ') Ok W := by
  have nx : ∀ (rs : List Vr) (ρ : En) x ρ', keepAll rs ρ ≠ .ex x ρ' := by
    intro rs
    induction rs with
    | nil => intro ρ x ρ' h; cases h
    | cons r rs ih =>
      intro ρ x ρ' h
      unfold keepAll at h
      cases hk : keep ρ r with
      | ok d ρ1 =>
        rw [hk] at h
        simp only [Rs.bind] at h
        cases hk2 : keepAll rs ρ1 with
        | ok ds ρ2 => rw [hk2] at h; cases h
        | ex y ρ2 => exact ih ρ1 y ρ2 hk2
        | err => rw [hk2] at h; cases h
      | ex y ρ1 =>
        cases r with
        | v d => cases hk
        | o d => cases hk
        | s i => rw [keep_s] at hk; split at hk <;> cases hk
      | err => rw [hk] at h; cases h
  cases h : keepAll rs ρ1 with
  | ok ds ρ' => rw [h] at G; exact ⟨ds, ρ', rfl, G⟩
  | ex x ρ' => exact absurd h (nx _ _ _ _)
  | err => rw [h] at G; exact G.elim
theorem keep_in {r : Vr} {β : Type} {f : D → En → Rs β} {Ok : β → En → Hp → Hp → Prop} (G : GdR g ρ σ H F ((keep ρ1 r).bind f) Ok W) : ∃ d ρ', keep ρ1 r = .ok d ρ' ∧ GdR g ρ σ H F (f d ρ') Ok W := by
  cases h : keep ρ1 r with
  | ok d ρ' => rw [h] at G; exact ⟨d, ρ', rfl, G⟩
  | ex x ρ' =>
    cases r with
    | v d => cases h
    | o d => cases h
    | s i => rw [keep_s] at h; split at h <;> cases h
  | err => rw [h] at G; exact G.elim
/-- .. what is wanted seen from ahead -/
theorem SA.goB {es : List Expr} {ir : Es} (h : SA g Φ k ct es ir) (xo : XOk g Φ k ct X) (S : Sim g ρ σ H F) (tk : Takes X W) {β : Type} {f : List Vr → En → Rs β} {Ok : β → En → Hp → Hp → Prop} (G : GdR g ρ σ H F ((evEs Φ ir ρ).bind f) Ok W) {R : List V → Hp → Prop}
    (K : ∀ vs rs ρ1 H1 F1, Bh g ρ σ H F ρ1 σ H1 F1 → VrRels g ρ1 σ H1 F1 H vs rs → GdR g ρ σ H F (f rs ρ1) Ok W → evEs Φ ir ρ = .ok rs ρ1 → R vs H1) : DA X es σ H R := by
  refine h X xo ρ σ H F S R W tk ?_
  cases he : evEs Φ ir ρ with
  | ok rs ρ1 => rw [he] at G; exact fun H' F' b vs hv => K vs rs ρ1 H' F' b hv G he
  | ex x ρ1 => rw [he] at G; exact G
  | err => rw [he] at G; exact G
theorem SE.goB {e : Expr} {ir : E} (h : SE g Φ k ct e ir) (xo : XOk g Φ k ct X) (S : Sim g ρ σ H F) (tk : Takes X W) {β : Type} {f : Vr → En → Rs β} {Ok : β → En → Hp → Hp → Prop} (G : GdR g ρ σ H F ((evE Φ ir ρ).bind f) Ok W) {R : VK}
    (K : ∀ v r ρ1 H1 F1, Bh g ρ σ H F ρ1 σ H1 F1 → VrRel g ρ1 σ H1 F1 H v r → GdR g ρ σ H F (f r ρ1) Ok W → R v H1) : DE X e σ H R := by
  refine h X xo ρ σ H F S R W tk ?_
  cases he : evE Φ ir ρ with
  | ok r ρ1 => rw [he] at G; exact fun H' F' b v hv => K v r ρ1 H' F' b hv G
  | ex x ρ1 => rw [he] at G; exact G
  | err => rw [he] at G; exact G
/-- a new object behind what stands -/
theorem Bh.res {v : V} {r : Vr} (b : Bh g ρ σ H F ρ1 σ H1 F1) (h : Res g H1 F1 r v H2) : ∃ F2, Bh g ρ σ H F ρ1 σ H2 F2 ∧ VrRel g ρ1 σ H2 F2 H v r := by
  obtain ⟨F2, S2, st, rr⟩ := b.sim.res h
  exact ⟨F2, b.trans ⟨S2, st, Keeps.refl _, Pv.refl⟩, rr.before b.stp.live⟩
theorem se_tup {es : List Expr} {is : Es} {j : Nat} {pos : Pos} (hs : SA g Φ k ct es is) : SE g Φ k ct (.Tuple es j pos) (.tup is) := by
  intro X xo ρ σ H F S Q W tk G
  refine PE.d (pe_tup pa_D) ?_
  refine hs.goB xo S tk G fun vs rs ρ1 H1 F1 b1 q1 G1 _ => ?_
  obtain ⟨ds, ρ2, hk, G2⟩ := keepAll_in G1
  split at G2
  case isFalse => exact G2.elim
  rename_i hz
  obtain ⟨F2, b2, rd, _⟩ := keepAll_bh b1 q1 hk
  refine ⟨by rw [rd.length, ← LIM_eq]; exact hz, fun a ha => ?_⟩
  obtain ⟨F3, b3, rr⟩ := b2.res (Res.tup b2.sim.sub ha rd)
  exact G2 _ F3 b3 _ rr
theorem se_lst {es : List Expr} {is : Es} {pos : Pos} (hs : SA g Φ k ct es is) : SE g Φ k ct (.List es pos) (.lst is) := by
  intro X xo ρ σ H F S Q W tk G
  refine PE.d (pe_lst pa_D) ?_
  refine hs.goB xo S tk G fun vs rs ρ1 H1 F1 b1 q1 G1 _ => ?_
  obtain ⟨ds, ρ2, hk, G2⟩ := keepAll_in G1
  split at G2
  case isFalse => exact G2.elim
  rename_i hz
  obtain ⟨F2, b2, rd, _⟩ := keepAll_bh b1 q1 hk
  refine ⟨by rw [rd.length, ← LIM_eq]; exact hz, fun a ha => ?_⟩
  obtain ⟨F3, b3, rr⟩ := b2.res (Res.lst b2.sim.sub ha rd)
  exact G2 _ F3 b3 _ rr

/-! ### built-in functions -/
def biN : Bi → Str
  | .len => "len" | .int => "int" | .max2 => "max" | .min2 => "min" | .sum => "sum" | .list => "list" | .tuple => "tuple" | .dict => "dict" | .repr => "repr"
  | .isint => "isinstance" | .isbool => "isinstance" | .isstr => "isinstance" | .islist => "isinstance" | .istuple => "isinstance" | .isseq => "isinstance" | .isbox => "isinstance"
def biV : Bi → Value
  | .len => .builtin "len" | .int => .type "int" | .max2 => .builtin "max" | .min2 => .builtin "min" | .sum => .builtin "sum" | .list => .type "list" | .tuple => .type "tuple" | .dict => .type "dict" | .repr => .builtin "repr"
  | _ => .builtin "isinstance"
def biCalm : Bi → Bool
  | .max2 => true | .min2 => true | .sum => true | .list => true | .dict => true
  | _ => false
theorem boot_bi (f : Bi) : bootBuiltins (biN f) = some (biV f) := by cases f <;> decide +kernel
theorem biN_ok (f : Bi) : biN f ≠ ("__name__" : Str) ∧ (biN f == ("__debug__" : Str)) = false := by cases f <;> exact ⟨by decide +kernel, by decide +kernel⟩
theorem bi_ok {f : Bi} {r : Vr} {vs : List V} {ds : List D} {bc : Bool} {Q : VK} (m : Rm g bc X) (hc : biCalm f = true → bc = true) (hi : isiB f = false) (h : biD f ds = some r) (s : Same F H) (hx : RdHs g H F vs ds) (K : ∀ v H', Res g H F r v H' → Q v H') : DCall X (biV f) vs H Q := by
  cases f with
  | len => exact len_ok m h s hx K
  | int => exact int_ok m h s hx K
  | max2 => cases hc rfl; exact max_ok m h s hx K
  | min2 => cases hc rfl; exact min_ok m h s hx K
  | sum => cases hc rfl; exact sum_ok m h s hx K
  | list => cases hc rfl; exact list_ok m h s hx K
  | tuple => exact tuple_ok m h s hx K
  | dict => cases hc rfl; exact dict_ok m h s hx K
  | repr => exact repr_ok m h s hx K
  | isint => cases hi
  | isbool => cases hi
  | isstr => cases hi
  | islist => cases hi
  | istuple => cases hi
  | isseq => cases hi
  | isbox => cases hi
def isTy : Bi → Bool
  | .int => true | .list => true | .tuple => true | .dict => true
  | _ => false
theorem se_bi {f : Bi} {e : Expr} {es : List Expr} {is : Es} {p pos : Pos} (hg : glB ct.sc (biN f) = true) (hl : ct.gl.lookup (biN f) = some .free) (hi : isiB f = false) (hc : (!biCalm f || ct.calm) = true) (hn : (e :: es).all nst = true) (hs : SA g Φ k ct (e :: es) is) :
    SE g Φ k ct (.Call (.Name (biN f) p) (e :: es) [] pos) (.bi f is) := by
  intro X xo ρ σ H F S Q W tk G
  have hm : X.mg (biN f) = none := xo.glob _ _ hl
  have hc' : biCalm f = true → ct.calm = true := fun h => by rw [h] at hc; simpa using hc
  have hn1 : nst e = true := by rw [List.all_cons, Bool.and_eq_true] at hn; exact hn.1
  have hn2 : es.all nst = true := by rw [List.all_cons, Bool.and_eq_true] at hn; exact hn.2
  have main : DA X (e :: es) σ H fun vs H1 => DCall X (biV f) vs H1 Q := by
    refine hs.go xo S tk G fun vs rs ρ1 H1 F1 b1 q1 G1 => ?_
    split at G1
    · rename_i ds hd
      obtain ⟨a, hr, G2⟩ := toRs_in G1
      exact bi_ok xo.rm hc' hi hr b1.sim.sub (lookAll_rd b1.sim q1 hd) fun v' H' z => res_end b1.sim b1.stp.live G2 z
    · exact G1.elim
  have two : ∀ id, biV f = .builtin id → DE X (.Call (.Name (biN f) p) (e :: es) [] pos) σ H Q := fun id hid => by
    rw [hid] at main
    exact PE.d (pe_callB call_D (glB_ok xo hg) hm (by rw [boot_bi, hid]) pa_D (biN_ok f).1 (biN_ok f).2 (star_eq hn1) (star_plain hn2)) main
  have one : ∀ T, biV f = .type T → DE X (.Call (.Name (biN f) p) (e :: es) [] pos) σ H Q := fun id hid => by
    rw [hid] at main
    exact PE.d (pe_callTy call_D (glB_ok xo hg) hm (by rw [boot_bi, hid]) pa_D (biN_ok f).1 (biN_ok f).2 (star_eq hn1) (star_plain hn2)) main
  cases f <;> first | exact two _ rfl | exact one _ rfl | (cases hi; done)
theorem boot_ty : bootBuiltins "int" = some (.type "int") ∧ bootBuiltins "bool" = some (.type "bool") ∧ bootBuiltins "str" = some (.type "str") ∧ bootBuiltins "list" = some (.type "list") ∧ bootBuiltins "tuple" = some (.type "tuple") := ⟨by decide +kernel, by decide +kernel, by decide +kernel, by decide +kernel, by decide +kernel⟩
theorem isi_boot {f : Bi} {c : String} (h : isiN f = some c) : bootBuiltins (Str.ofString c) = some (.type c) ∧ (Str.ofString c) ≠ ("__name__" : Str) ∧ ((Str.ofString c) == ("__debug__" : Str)) = false := by
  cases f <;> simp only [isiN] at h <;> cases h <;> exact ⟨by decide +kernel, by decide +kernel, by decide +kernel⟩
theorem se_isi {f : Bi} {c : String} {e : Expr} {ie : E} {p p2 pos : Pos} (hf : isiN f = some c) (hg : glB ct.sc (Str.ofString "isinstance") = true) (hl : ct.gl.lookup (Str.ofString "isinstance") = some .free) (hg2 : glB ct.sc (Str.ofString c) = true) (hl2 : ct.gl.lookup (Str.ofString c) = some .free) (hn : nst e = true) (he : SE g Φ k ct e ie) :
    SE g Φ k ct (.Call (.Name (Str.ofString "isinstance") p) [e, .Name (Str.ofString c) p2] [] pos) (.bi f (.cons ie .nil)) := by
  intro X xo ρ σ H F S Q W tk G
  have hm : X.mg "isinstance" = none := xo.glob _ _ hl
  have hm2 : X.mg (Str.ofString c) = none := xo.glob _ _ hl2
  obtain ⟨z1, z2, z3⟩ := isi_boot hf
  refine PE.d (pe_callB call_D (glB_ok xo hg) hm (boot_bi .isint) (pa_cons pe_D (pa_cons (pe_bltn (v := .ty c) (glB_ok xo hg2) hm2 z1 rfl z2 z3) pa_nil) (star_eq hn)) (by decide +kernel) (by decide +kernel) (star_eq hn) rfl) ?_
  have G' : GdR g ρ σ H F ((evE Φ ie ρ).bind fun x ρ => match look ρ x with
    | some d => toRs (biD f [d]) ρ
    | none => .err) (OkE g σ H Q) W := by
    have e : (evE Φ (.bi f (.cons ie .nil)) ρ) = ((evE Φ ie ρ).bind fun x ρ => match look ρ x with
      | some d => toRs (biD f [d]) ρ
      | none => .err) := by
      simp only [evE, evEs]
      cases evE Φ ie ρ with
      | ok x ρ1 =>
        simp only [Rs.bind, lookAll]
        cases look ρ1 x <;> rfl
      | ex x ρ1 => rfl
      | err => rfl
    rw [← e]
    exact G
  refine he.go xo S tk G' fun v r ρ1 H1 F1 b1 q1 G1 => ?_
  split at G1
  · rename_i d hd
    obtain ⟨a, hr, G2⟩ := toRs_in G1
    exact isi_all hf xo.rm hr b1.sim.sub (q1.rd b1.sim hd) fun v' H' z => res_end b1.sim b1.stp.live G2 z
  · exact G1.elim
end
end Ev

set_option Elab.async false
set_option linter.all false
set_option maxRecDepth 100000
set_option maxHeartbeats 1000000
/-! Ev5c: methods, calls of the text's own defs. Own work. -/
namespace Ev
open PySem PySem.Spec PyProof.Rows L2
section
variable {g : Gi} {Φ : Fns} {k : Nat} {ct : Ct} {X : Cx} {ρ ρ' ρ0 ρ1 ρ2 : En} {σ σ' σ1 : St} {H F H' F' H0 F0 H1 F1 H2 F2 : Hp} {W : WX}
/-! ### methods -/
theorem own_ne : Md.own ≠ Md.fz := by decide
theorem mut_bh (S : Sim g ρ σ H F) {i : Nat} {l : Addr} {d d' : D} {o : HO} (h : ρ.get i = some ⟨.own, d⟩) (hv : σ[i]? = some (some (.ref l))) (hn : F l = none) (c : Cell g (upd H l o) F l d') : Bh g ρ σ H F (ρ.set i (some ⟨.own, d'⟩)) σ (upd H l o) F := by
  have hi := get_lt h
  have hH := (S.ownL ⟨i, _, h, own_ne, hv⟩).1
  have ownl : ∀ b, OwnL (ρ.set i (some ⟨.own, d'⟩)) σ b → OwnL ρ σ b := fun b ⟨j, t, h1, h2, h3⟩ => by
    rw [get_set hi] at h1
    split at h1
    · rename_i q; subst q; exact ⟨i, _, h, own_ne, h3⟩
    · exact ⟨j, t, h1, h2, h3⟩
  have own : ∀ b, Own (ρ.set i (some ⟨.own, d'⟩)) σ b → Own ρ σ b := fun b ⟨j, t, h1, h2, h3⟩ => by
    rw [get_set hi] at h1
    split at h1
    · rename_i q; subst q; exact ⟨i, _, h, rfl, h3⟩
    · exact ⟨j, t, h1, h2, h3⟩
  have back : ∀ j t, En.get (ρ.set i (some ⟨.own, d'⟩)) j = some t → t.m ≠ .fz → ∃ t', ρ.get j = some t' ∧ t'.m ≠ .fz := fun j t h1 m => by
    rw [get_set hi] at h1
    split at h1
    · rename_i q; subst q; exact ⟨_, h, own_ne⟩
    · exact ⟨t, h1, m⟩
  refine ⟨⟨by rw [List.length_set]; exact S.len, fun b u z => ?_, fun j t hj => ?_, fun j j' s t a h1 h2 m1 m2 v1 v2 => ?_⟩, ⟨Same.refl F, fun b z => .inl z, fun b u z n => ?_, fun b z => ?_, fun b z => .inl (own b z), fun b z => .inl (ownl b z)⟩, fun j hj => ?_, fun j a ⟨s, h1, h2, h3⟩ => .inl ?_, fun j a ⟨s, h1, h2, h3⟩ => .inl ?_⟩
  · rw [upd_ne (ne_of_none z hn)]; exact S.sub b u z
  · rw [get_set hi] at hj
    split at hj
    · rename_i q
      subst q
      cases hj
      exact ⟨_, hv, l, rfl, hn, c⟩
    · rename_i q
      obtain ⟨w, e, r⟩ := S.val j t hj
      refine ⟨w, e, r.mono (Same.refl F) fun a hm hw => ?_⟩
      subst hw
      have ne : a ≠ l := fun z => q (S.sep i j _ t l h hj (own_ne) hm hv (by rw [← z]; exact e))
      refine ⟨(S.ownL ⟨j, t, hj, hm, e⟩).2, upd_ne ne⟩
  · obtain ⟨s', g1, n1⟩ := back j s h1 m1
    obtain ⟨t', g2, n2⟩ := back j' t h2 m2
    exact S.sep j j' s' t' a g1 g2 n1 n2 v1 v2
  · rw [upd_ne fun q => n (by rw [q]; exact ⟨i, _, h, rfl, hv⟩)]; exact z
  · by_cases q : b = l
    · subst q; rw [upd_same]; exact fun z => nomatch z
    · rw [upd_ne q]; exact z
  · rw [get_set hi]
    split
    · rfl
    · exact hj
  · rw [get_set hi] at h1
    split at h1
    · rename_i q; subst q; exact ⟨_, h, rfl, h3⟩
    · exact ⟨s, h1, h2, h3⟩
  · rw [get_set hi] at h1
    split at h1
    · rename_i q; subst q; exact ⟨_, h, own_ne, h3⟩
    · exact ⟨s, h1, h2, h3⟩
def baseB : Expr → Bool
  | .Call (.Name _ _) [] [] _ => false
  | _ => true
theorem baseB_ok {o : Expr} {n : Str} {env : Env} {m : Sem Value} (h : baseB o = true) : attributeBase o n env m = m := by
  unfold attributeBase
  split
  · cases h
  · rfl
theorem few_ok {cpos : Pos} {env : Env} {e : Expr} (hn : nst e = true) : ((backTo cpos (starEach [e] env)).all (fun x => !x.1) && (backToKw cpos (keywordEach [] env)).all (fun x => x.1.isSome)
      && decide ([e].length + ([] : List Keyword).length + (if ([] : List Keyword).isEmpty then 0 else 1) < 30)) = true := by
  rw [star_all (es := [e]) (by rw [List.all_cons, hn] <;> rfl)] <;> rfl
def lineB (a p : Pos) : Bool := a.endLine == p.line
theorem nst_all {e : Expr} (h : nst e = true) : [e].all nst = true := by rw [List.all_cons, h] <;> rfl
theorem tyV_str {x : V} (h : ∃ a, x = .str a) : tyV X.K "str" x H := by obtain ⟨a, rfl⟩ := h; rfl
theorem se_strip {o e : Expr} {io : E} {is : Es} {apos cpos : Pos} (hb : baseB o = true) (hl : lineB apos cpos = true) (hn : nst e = true) (ho : SE g Φ k ct o io) (hs : SA g Φ k ct [e] is) :
    SE g Φ k ct (.Call (.Attribute o (Str.ofString "strip") apos) [e] [] cpos) (.mth .strip io is) := by
  intro X xo ρ σ H F S Q W tk G
  refine PE.d (pe_bm PySem.F.plainAttrs_str PySem.F.slot_str_strip PySem.F.type_str_strip mt_D pe_D pa_D (baseB_ok hb) (few_ok hn) hl (star_eq hn) rfl) ?_
  refine ho.go xo S tk G fun v r ρ1 H1 F1 b1 q1 G1 => ?_
  obtain ⟨d, l1, G2⟩ := op1_in G1
  split at G2
  case isFalse => exact G2.elim
  rename_i hm
  have hx := q1.rd b1.sim l1
  refine ⟨tyV_str (by cases d <;> first | (cases hm; done) | exact ⟨_, hx.str.1⟩), ?_⟩
  refine hs.go xo b1.sim tk G2 fun vs rs ρ2 H2 F2 b2 q2 G3 => ?_
  unfold mthR at G3
  simp only at G3
  split at G3
  · rename_i d' ds l2 l3
    obtain ⟨a, hr, G4⟩ := toRs_in G3
    exact (strip_ok xo.rm hr b2.sim.sub ((q1.later b1.sim b2).rd b2.sim l2) (lookAll_rd b2.sim q2 l3) fun v' H' z => res_end b2.sim (fun c z => b2.stp.live c (b1.stp.live c z)) G4 z).1
  · exact G3.elim
theorem se_join {o e : Expr} {io : E} {is : Es} {apos cpos : Pos} (hb : baseB o = true) (hl : lineB apos cpos = true) (hn : nst e = true) (ho : SE g Φ k ct o io) (hs : SA g Φ k ct [e] is) :
    SE g Φ k ct (.Call (.Attribute o (Str.ofString "join") apos) [e] [] cpos) (.mth .join io is) := by
  intro X xo ρ σ H F S Q W tk G
  refine PE.d (pe_bm PySem.F.plainAttrs_str PySem.F.slot_str_join PySem.F.type_str_join mt_D pe_D pa_D (baseB_ok hb) (few_ok hn) hl (star_eq hn) rfl) ?_
  refine ho.go xo S tk G fun v r ρ1 H1 F1 b1 q1 G1 => ?_
  obtain ⟨d, l1, G2⟩ := op1_in G1
  split at G2
  case isFalse => exact G2.elim
  rename_i hm
  have hx := q1.rd b1.sim l1
  refine ⟨tyV_str (by cases d <;> first | (cases hm; done) | exact ⟨_, hx.str.1⟩), ?_⟩
  refine hs.go xo b1.sim tk G2 fun vs rs ρ2 H2 F2 b2 q2 G3 => ?_
  unfold mthR at G3
  simp only at G3
  split at G3
  · rename_i d' ds l2 l3
    obtain ⟨a, hr, G4⟩ := toRs_in G3
    exact (join_ok xo.rm hr b2.sim.sub ((q1.later b1.sim b2).rd b2.sim l2) (lookAll_rd b2.sim q2 l3) fun v' H' z => res_end b2.sim (fun c z => b2.stp.live c (b1.stp.live c z)) G4 z).1
  · exact G3.elim
theorem se_bits {o : Expr} {io : E} {apos cpos : Pos} (hb : baseB o = true) (hl : lineB apos cpos = true) (ho : SE g Φ k ct o io) :
    SE g Φ k ct (.Call (.Attribute o (Str.ofString "bit_length") apos) [] [] cpos) (.mth .bits io .nil) := by
  intro X xo ρ σ H F S Q W tk G
  refine PE.d (pe_bits pe_D (baseB_ok hb) hl) ?_
  refine ho.go xo S tk G fun v r ρ1 H1 F1 b1 q1 G1 => ?_
  obtain ⟨d, l1, G2⟩ := op1_in G1
  split at G2
  case isFalse => exact G2.elim
  have G3 : GdR g ρ1 σ H1 F1 (mthR .bits r [] ρ1) (OkE g σ H Q) W := G2
  unfold mthR at G3
  simp only [l1, lookAll] at G3
  obtain ⟨a, hr, G4⟩ := toRs_in G3
  exact (bits_ok hr b1.sim.sub (q1.rd b1.sim l1) .nil fun v' H' z => res_end b1.sim b1.stp.live G4 z).2
theorem se_append {o e : Expr} {io : E} {is : Es} {apos cpos : Pos} (hb : baseB o = true) (hl : lineB apos cpos = true) (hn : nst e = true) (ho : SE g Φ k ct o io) (hs : SA g Φ k ct [e] is) :
    SE g Φ k ct (.Call (.Attribute o (Str.ofString "append") apos) [e] [] cpos) (.mth .append io is) := by
  intro X xo ρ σ H F S Q W tk G
  refine PE.d (pe_bm PySem.F.plainAttrs_list PySem.F.slot_list_append PySem.F.type_list_append (mt_append : MtR X "list.append" rAppend) pe_D pa_D (baseB_ok hb) (few_ok hn) hl (star_eq hn) rfl) ?_
  refine ho.go xo S tk G fun v r ρ1 H1 F1 b1 q1 G1 => ?_
  obtain ⟨d, l1, G2⟩ := op1_in G1
  split at G2
  case isFalse => exact G2.elim
  rename_i hm
  have hx := q1.rd b1.sim l1
  have hlist : ∃ a xs, v = .ref a ∧ H1 a = some (.lst xs) := by
    cases d <;> first | (cases hm; done) | skip
    obtain ⟨a, xs, e1, e2, _⟩ := hx.lst b1.sim.sub
    exact ⟨a, xs, e1, e2⟩
  refine ⟨?_, ?_⟩
  · obtain ⟨a, xs, rfl, e⟩ := hlist
    exact .inl ⟨rfl, xs, .inl (.inl e)⟩
  refine hs.goB xo b1.sim tk G2 fun vs rs ρ2 H2 F2 b2 q2 G3 _ => ?_
  cases r with
  | v d => exact G3.elim
  | o d => exact G3.elim
  | s i =>
    cases q2 with
    | nil => exact G3.elim
    | cons h n t =>
      cases t with
      | cons _ _ _ => exact G3.elim
      | nil =>
        obtain ⟨d', ρ3, hk, G4⟩ := keep_in G3
        obtain ⟨F3, b3, rd, _⟩ := keep_bh b2 h hk
        split at G4
        · rename_i xs hs
          split at G4
          case isFalse => exact G4.elim
          rename_i hz
          have hσ := q1.1
          obtain ⟨w, e1, r2⟩ := b3.sim.val i _ hs
          rw [hσ] at e1
          cases e1
          obtain ⟨l, rfl, nl, c⟩ := r2
          rcases c with ⟨ws, ds, e2, hl, rr⟩ | ⟨_, _, _, e2, _⟩
          · cases e2
            refine ⟨l, ws, _, rfl, rfl, hl, by rw [rr.length, ← LIM_eq]; exact hz, ?_⟩
            have m := mut_bh b3.sim hs hσ nl (.inl ⟨_, _, rfl, upd_same, rr.append (.cons rd .nil)⟩)
            exact G4 _ F3 (b3.trans m) _ .non
          · cases e2
        · exact G4.elim
end
end Ev

set_option Elab.async false
set_option linter.all false
set_option maxRecDepth 100000
set_option maxHeartbeats 1000000
/-! Ev5d: calls of the text's own defs. Own work. -/
namespace Ev
open PySem PySem.Spec PyProof.Rows L2
section
variable {g : Gi} {Φ : Fns} {k : Nat} {ct : Ct} {X : Cx} {ρ ρ' ρ0 ρ1 ρ2 : En} {σ σ' σ1 : St} {H F H' F' H0 F0 H1 F1 H2 F2 : Hp} {W : WX}
theorem callR_gd {n : Nat} {vs : List V} {rs : List Vr} {Q : VK} (b : Bh g ρ0 σ H0 F0 ρ σ H F) (R : VrRels g ρ σ H F H0 vs rs) (G : GdR g ρ0 σ H0 F0 (callR Φ n rs ρ) (OkE g σ H0 Q) W) :
    ∃ as F1, Sim g (as.map some) (vs.map some) H F1 ∧ GdC g as vs H F1 (Φ n as) Q (WE W σ) := by
  unfold callR at G
  simp only at G
  obtain ⟨F1, b1, R1, dup⟩ := frzDup_bh (l := rs) b R
  cases ha : argsOf (frzDup rs ρ) rs with
  | none => rw [ha] at G; exact G.elim
  | some as =>
    rw [ha] at G
    refine ⟨as, F1, args_sim b1.sim R1 ha dup, ?_⟩
    simp only at G
    unfold GdC
    cases hc : Φ n as with
    | ret own d outs =>
      rw [hc] at G
      simp only at G
      intro hl v H' F' C hv
      rw [if_pos (hl.trans R.length)] at G
      obtain ⟨b2, nx⟩ := outs_bh b1 R1 ha (hl.trans R.length) C
      refine G H' F' b2 v (nx v _ hv fun i => ?_)
      cases own <;> exact fun z => nomatch z
    | ex x outs =>
      rw [hc] at G
      simp only at G
      intro hl cls dx H' F' C xr
      rw [if_pos (hl.trans R.length)] at G
      exact G cls dx H' F' (outs_bh b1 R1 ha (hl.trans R.length) C).1 xr
    | err => rw [hc] at G; exact G.elim
/-- the callee runs -/
theorem run_g {pins : List (Addr × Obj)} {s : Shared} {f : Addr} {fd : FuncData} {ps : List Str} {n : Nat} {us : List Value} {kw : List (Str × Value)} {us' : List Value} {vs : List V} {Q : VK} {as : List Sl} (xo : XOk g Φ k ct X) (hc : ct.calm = true) (tk : Takes X W)
    (FG : FnG X.prog X.w X.K X.mg X.base g Φ k f fd ps n) (I : Inv X pins σ H s) (hb : BindsTo s fd ⟨us, kw⟩ (ps.zip us')) (r : Vals vs us') (hl : vs.length = ps.length) (S : Sim g (as.map some) (vs.map some) H F) (G : GdC g as vs H F (Φ n as) Q (WE W σ)) :
    wpAny (model X.prog X.w) X.A (call (.ref f) us kw) (EP X pins σ Q) X.xe s := by
  have cd := FG X.A X.stack s H F ⟨us, kw⟩ us' vs as Q (WE W σ) (xo.room hc) xo.rm.guards I.env0 hb r hl S G
  refine wpAny_call (codeAny_mono cd fun r s' h => ?_)
  match r, h with
  | .error e, h => exact passAt tk σ pins H s e s' I h
  | .ok (.ret u), h => exact I.after h
  | .ok .next, h => exact h.elim
  | .ok .brk, h => exact h.elim
  | .ok .cont, h => exact h.elim
/-! ### the parameters' order -/
theorem VrRels.mk : ∀ {vs : List V} {rs : List Vr}, vs.length = rs.length → (∀ (i : Nat) v r, vs[i]? = some v → rs[i]? = some r → VrRel g ρ σ H F H0 v r) →
    (∀ (i j : Nat) (d d' : D) v, i < j → rs[i]? = some (.o d) → rs[j]? = some (.o d') → vs[i]? = some v → vs[j]? ≠ some v) → VrRels g ρ σ H F H0 vs rs
  | [], [], _, _, _ => .nil
  | [], _ :: _, h, _, _ => by cases h
  | _ :: _, [], h, _, _ => by cases h
  | v :: vs, r :: rs, hl, h1, h2 => .cons (h1 0 v r rfl rfl) (fun d e i d' hi => by
      subst e
      have := h2 0 (i + 1) d d' v (by omega) rfl (by simpa using hi) rfl
      simpa using this) (VrRels.mk (by simpa using hl) (fun i v r e1 e2 => h1 (i + 1) v r (by simpa using e1) (by simpa using e2)) fun i j d d' v hij e1 e2 e3 => by
        have := h2 (i + 1) (j + 1) d d' v (by omega) (by simpa using e1) (by simpa using e2) (by simpa using e3)
        simpa using this)
theorem pick_at {α : Type} : ∀ {pm : List Nat} {l r : List α}, pick pm l = some r → r.length = pm.length ∧ ∀ (i : Nat) a, r[i]? = some a → ∃ j, pm[i]? = some j ∧ l[j]? = some a
  | [], l, r, h => by cases h; exact ⟨rfl, fun i a h => by simp at h⟩
  | p :: pm, l, r, h => by
    unfold pick at h
    split at h
    · rename_i a r' e1 e2
      cases h
      obtain ⟨h1, h2⟩ := pick_at e2
      refine ⟨by rw [List.length_cons, List.length_cons, h1], fun i b hb => ?_⟩
      cases i with
      | zero => cases hb; exact ⟨p, rfl, e1⟩
      | succ i =>
        obtain ⟨j, q1, q2⟩ := h2 i b (by simpa using hb)
        exact ⟨j, by simpa using q1, q2⟩
    · cases h
theorem pick_some {α β : Type} : ∀ {pm : List Nat} {l : List α} {m : List β} {r : List α}, l.length = m.length → pick pm l = some r → ∃ q, pick pm m = some q
  | [], l, m, r, _, h => ⟨[], rfl⟩
  | p :: pm, l, m, r, hl, h => by
    unfold pick at h
    split at h
    · rename_i a r' e1 e2
      obtain ⟨q, hq⟩ := pick_some (m := m) hl e2
      have hp : p < m.length := by rw [← hl]; exact (List.getElem?_eq_some_iff.mp e1).1
      exact ⟨m[p] :: q, by unfold pick; rw [List.getElem?_eq_getElem hp, hq]⟩
    · cases h
theorem vals_pick : ∀ {pm : List Nat} {vs : List V} {us : List Value} {vs' : List V} {us' : List Value}, Vals vs us → pick pm vs = some vs' → pick pm us = some us' → Vals vs' us'
  | [], _, _, _, _, _, h1, h2 => by cases h1; cases h2; exact .nil
  | p :: pm, vs, us, vs', us', r, h1, h2 => by
    unfold pick at h1 h2
    split at h1
    · rename_i a l e1 e2
      split at h2
      · rename_i b m f1 f2
        cases h1
        cases h2
        refine .cons ?_ (vals_pick r e2 f2)
        obtain ⟨w, e, hr⟩ := Vals.get r e1
        rw [e] at f1
        cases f1
        exact hr
      · cases h2
    · cases h1
theorem VrRels.pick {pm : List Nat} {vs : List V} {rs : List Vr} {vs' : List V} {rs' : List Vr} (nd : pm.Nodup) (R : VrRels g ρ σ H F H0 vs rs) (h1 : pick pm vs = some vs') (h2 : pick pm rs = some rs') : VrRels g ρ σ H F H0 vs' rs' := by
  obtain ⟨l1, a1⟩ := pick_at h1
  obtain ⟨l2, a2⟩ := pick_at h2
  refine .mk (l1.trans l2.symm) (fun i v r e1 e2 => ?_) fun i j d d' v hij e1 e2 e3 e4 => ?_
  · obtain ⟨j, p1, q1⟩ := a1 i v e1
    obtain ⟨j', p2, q2⟩ := a2 i r e2
    rw [p1] at p2
    cases p2
    obtain ⟨w, q3, q4⟩ := R.at q2
    rw [q1] at q3
    cases q3
    exact q4
  · obtain ⟨x, p1, q1⟩ := a2 i _ e1
    obtain ⟨y, p2, q2⟩ := a2 j _ e2
    obtain ⟨x', p3, q3⟩ := a1 i v e3
    obtain ⟨y', p4, q4⟩ := a1 j v e4
    rw [p1] at p3
    cases p3
    rw [p2] at p4
    cases p4
    have ne : x ≠ y := fun z => by
      subst z
      have hi := (List.getElem?_eq_some_iff.mp p1)
      have hj := (List.getElem?_eq_some_iff.mp p2)
      obtain ⟨hi, e⟩ := hi
      obtain ⟨hj, e'⟩ := hj
      have := (List.getElem_inj nd).mp (e.trans e'.symm)
      omega
    rcases Nat.lt_or_gt_of_ne ne with z | z
    · exact R.fresh2 x y d d' v z q1 q2 q3 q4
    · exact R.fresh2 y x d' d v z q2 q1 q4 q3
theorem VrRels.app (l : ∀ b, H0 b ≠ none → H1 b ≠ none) {ws : List V} {zs : List Vr} (R2 : VrRels g ρ2 σ H2 F2 H1 ws zs) : ∀ {vs : List V} {rs : List Vr}, VrRels g ρ2 σ H2 F2 H0 vs rs → (∀ (i : Nat) d a, rs[i]? = some (.o d) → vs[i]? = some (.ref a) → H1 a ≠ none) → VrRels g ρ2 σ H2 F2 H0 (vs ++ ws) (rs ++ zs)
  | _, _, .nil, _ => R2.before l
  | v :: vs, r :: rs, .cons h n t, hx => by
    refine VrRels.cons h (fun d e i d' hi hv => ?_) (VrRels.app l R2 t fun i d a e1 e2 => hx (i + 1) d a (by simpa using e1) (by simpa using e2))
    subst e
    have hlen := t.length
    have hi : (rs ++ zs)[i]? = some (Vr.o d') := hi
    have hv : (vs ++ ws)[i]? = some v := hv
    by_cases hi' : i < rs.length
    · rw [List.getElem?_append_left hi'] at hi
      rw [List.getElem?_append_left (by rw [hlen]; exact hi')] at hv
      exact n d rfl i d' hi hv
    · rw [List.getElem?_append_right (by omega)] at hi
      rw [List.getElem?_append_right (by omega)] at hv
      obtain ⟨w, hw, q⟩ := R2.at hi
      rw [hlen, hw] at hv
      cases hv
      obtain ⟨a, e1, n1, _⟩ := q
      subst e1
      exact hx 0 d a rfl rfl n1
theorem VrRels.held : ∀ {vs : List V} {rs : List Vr}, VrRels g ρ σ H F H0 vs rs → ∀ (i : Nat) d a, rs[i]? = some (.o d) → vs[i]? = some (.ref a) → H a ≠ none := fun R i d a e1 e2 => by
  obtain ⟨v, q1, q2⟩ := R.at e1
  rw [e2] at q1
  cases q1
  obtain ⟨b, e, _, _, c, _⟩ := q2
  cases e
  exact c.there

/-! ### keywords -/
def DK (X : Cx) (kws : List Keyword) : TA := fun σ H Q => ∀ pos pins s, Inv X pins σ H s → wpAny (model X.prog X.w) X.A (evalAll ((backToKw pos (keywordEach kws X.env)).map (·.2))) (AP X pins σ Q) X.xe s
theorem pk_D {kws : List Keyword} : PK X kws (DK X kws) := ⟨fun pos pins s _ _ _ I h => h pos pins s I⟩
def SK (g : Gi) (Φ : Fns) (k : Nat) (ct : Ct) (kws : List Keyword) (ir : Es) : Prop := ∀ X, XOk g Φ k ct X → ∀ ρ σ H F, Sim g ρ σ H F → ∀ (Q : List V → Hp → Prop) (W : WX), Takes X W → GdR g ρ σ H F (evEs Φ ir ρ) (OkA g σ H Q) W → DK X kws σ H Q
theorem sk_nil : SK g Φ k ct [] .nil := by
  intro X xo ρ σ H F S Q W tk G
  exact fun pos pins s I => pk_nil.run pos pins s σ H Q I (G.now S [] .nil)
theorem sk_cons {nm : Option Str} {kp : Pos} {e : Expr} {es : List Keyword} {ie : E} {is : Es} (he : SE g Φ k ct e ie) (hs : SK g Φ k ct es is) : SK g Φ k ct (⟨nm, e, kp⟩ :: es) (.cons ie is) := by
  intro X xo ρ σ H F S Q W tk G
  have main : tCons (DE X e) (DK X es) σ H Q := by
    refine he.go xo S tk G fun v r ρ1 H1 F1 b1 q1 G1 => ?_
    refine hs X xo ρ1 σ H1 F1 b1.sim _ W tk (G1.step.imp fun rs ρ2 H2 F2 b2 G2 vs q2 => ?_)
    refine G2.now b2.sim _ (.cons (q1.later b1.sim b2) (fun d e i d' hi hv => ?_) (q2.before b1.stp.live))
    subst e
    obtain ⟨w, hw, q3⟩ := q2.at hi
    rw [hv] at hw
    cases hw
    obtain ⟨a, e1, n1, _⟩ := q3
    obtain ⟨a', e2, _, _, c, _⟩ := q1
    rw [e1] at e2
    cases e2
    exact c.there n1
  exact fun pos pins s I => (pk_cons pe_D pk_D).run pos pins s σ H Q I main
theorem kw_names {pos : Pos} {env : Env} : ∀ {kws : List Keyword} {ks : List Str}, kws.map (·.arg) = ks.map some → (backToKw pos (keywordEach kws env)).all (·.1.isSome) = true ∧ (backToKw pos (keywordEach kws env)).filterMap (·.1) = ks ∧ (backToKw pos (keywordEach kws env)).any (·.1.isNone) = false
  | [], ks, h => by
    cases ks with
    | nil => exact ⟨rfl, rfl, rfl⟩
    | cons _ _ => cases h
  | ⟨nm, v, p⟩ :: kws, ks, h => by
    cases ks with
    | nil => cases h
    | cons x ks =>
      rw [List.map_cons, List.map_cons] at h
      injection h with h1 h2
      obtain ⟨q1, q2, q3⟩ := kw_names (pos := pos) (env := env) h2
      have h1 : nm = some x := h1
      subst h1
      refine ⟨?_, ?_, ?_⟩
      · show (true && (backToKw pos (keywordEach kws env)).all (·.1.isSome)) = true
        rw [q1] <;> rfl
      · show x :: (backToKw pos (keywordEach kws env)).filterMap (·.1) = _
        rw [q2]
      · show (false || (backToKw pos (keywordEach kws env)).any (·.1.isNone)) = false
        rw [q3] <;> rfl

/-! ### the call -/
theorem keep_fa {f : Addr} {n : Nat} (xo : XOk g Φ k ct X) (h : g.fa n = some f) {np : Nat} {ks : List Str} {pm : List Nat} (hs : (n, np, ks, pm) ∈ ct.sg) : ∃ fd ps, PySem.W.keepIn X.K (.ref f) = true ∧ FnG X.prog X.w X.K X.mg X.base g Φ k f fd ps n ∧ Bnd X.K fd ps np ks pm := by
  obtain ⟨fd, ps, h1, h2, h3⟩ := xo.fns n f h
  exact ⟨fd, ps, h1, h2, h3 np ks pm hs⟩
/-- the arguments are there, then the call -/
theorem call_end {pins : List (Addr × Obj)} {s : Shared} {f : Addr} {fd : FuncData} {ps ks : List Str} {n np : Nat} {pm : List Nat} {us ws : List Value} {vs zs : List V} {rs ts : List Vr} {Q : VK} (xo : XOk g Φ k ct X) (hc : ct.calm = true) (tk : Takes X W)
    (FG : FnG X.prog X.w X.K X.mg X.base g Φ k f fd ps n) (B : Bnd X.K fd ps np ks pm) (nd : pm.Nodup) (hnp : rs.length = np) (hks : ts.length = ks.length) (I : Inv X pins σ H2 s) (r1 : Vals vs us) (r2 : Vals zs ws) (b : Bh g ρ σ H F ρ2 σ H2 F2)
    (R : VrRels g ρ2 σ H2 F2 H (vs ++ zs) (rs ++ ts)) (lv : vs.length = rs.length) (lz : zs.length = ts.length) (G : GdR g ρ σ H F (match pick pm (rs ++ ts) with
      | some rs => callR Φ n rs ρ2
      | none => .err) (OkE g σ H Q) W) :
    wpAny (model X.prog X.w) X.A (call (.ref f) us (ks.zip ws)) (EP X pins σ Q) X.xe s := by
  cases hp : pick pm (rs ++ ts) with
  | none => rw [hp] at G; exact G.elim
  | some rs' =>
    rw [hp] at G
    obtain ⟨vs', hv⟩ := pick_some (m := vs ++ zs) R.length.symm hp
    have R' := R.pick nd hv hp
    obtain ⟨as, F3, S3, Gc⟩ := callR_gd b R' G
    have rv : Vals (vs ++ zs) (us ++ ws) := r1.append r2
    obtain ⟨us', hu⟩ := pick_some (m := us ++ ws) rv.length hv
    have hl : vs'.length = ps.length := (pick_at hv).1.trans B.1
    exact run_g xo hc tk FG I (B.2 s us ws us' I.kIn (by rw [← r1.length, lv, hnp]) (by rw [← r2.length, lz, hks]) hu) (vals_pick rv hv hu) hl S3 Gc
def esLen : Es → Nat
  | .nil => 0
  | .cons _ es => esLen es + 1
theorem evEs_len : ∀ {is : Es} {ρ ρ' : En} {rs : List Vr}, evEs Φ is ρ = .ok rs ρ' → rs.length = esLen is
  | .nil, _, _, _, h => by cases h; rfl
  | .cons e es, ρ, ρ', rs, h => by
    unfold evEs at h
    obtain ⟨x, ρ1, h1, h⟩ := bind_ok h
    obtain ⟨xs, ρ2, h2, h⟩ := bind_ok h
    cases h
    show xs.length + 1 = esLen es + 1
    rw [evEs_len h2]
theorem se_call0 {x : Str} {n : Nat} {es : List Expr} {pm : List Nat} {is : Es} {p pos : Pos} (hg : glB ct.sc x = true) (hl : ct.gl.lookup x = some (.fn n)) (hp : plainN x = true) (hc : ct.calm = true) (hsg : (n, esLen is, [], pm) ∈ ct.sg) (nd : pm.Nodup)
    (hn : es.all nst = true) (hz : es = [] → is = .nil) (hs : SA g Φ k ct es is) : SE g Φ k ct (.Call (.Name x p) es [] pos) (.call n pm is .nil) := by
  intro X xo ρ σ H F S Q W tk G
  obtain ⟨f, hf, hm⟩ := xo.glob x _ hl
  obtain ⟨fd, ps, kp, FG, B⟩ := keep_fa xo hf hsg
  have hdb := (plainN_ok hp).1
  have fin : ∀ {pins : List (Addr × Obj)} {s1 : Shared} {vs : List V} {rs : List Vr} {ρ1 : En} {H1 F1 : Hp} {us : List Value}, Bh g ρ σ H F ρ1 σ H1 F1 → VrRels g ρ1 σ H1 F1 H vs rs → GdR g ρ σ H F ((evEs Φ .nil ρ1).bind fun zs ρ => match pick pm (rs ++ zs) with
      | some rs => callR Φ n rs ρ
      | none => .err) (OkE g σ H Q) W → evEs Φ is ρ = .ok rs ρ1 → Inv X pins σ H1 s1 → Vals vs us → wpAny (model X.prog X.w) X.A (call (.ref f) us) (EP X pins σ Q) X.xe s1 := fun {pins s1 vs rs ρ1 H1 F1 us} b1 q1 G1 he I1 r => by
    have := call_end (zs := []) (ts := []) (ws := []) (ks := []) xo hc tk FG B nd (evEs_len he) rfl I1 r .nil b1 (by rw [List.append_nil, List.append_nil]; exact q1) q1.length rfl G1
    exact this
  cases es with
  | nil =>
    cases hz rfl
    intro pins s I
    refine wpAny_Call_Name_kw (ld_glob I (glB_ok xo hg) hm ?_ hdb)
    exact PySem.W.callWith_K0 I.kIn kp (fin (us := []) (Bh.refl S) .nil G rfl I .nil)
  | cons e es =>
    rw [List.all_cons, Bool.and_eq_true] at hn
    have main : DA X (e :: es) σ H fun vs H1 => ∃ rs ρ1 F1, Bh g ρ σ H F ρ1 σ H1 F1 ∧ VrRels g ρ1 σ H1 F1 H vs rs ∧ GdR g ρ σ H F ((evEs Φ .nil ρ1).bind fun zs ρ => match pick pm (rs ++ zs) with
      | some rs => callR Φ n rs ρ
      | none => .err) (OkE g σ H Q) W ∧ evEs Φ is ρ = .ok rs ρ1 := hs.goB xo S tk G fun vs rs ρ1 H1 F1 b1 q1 G1 he => ⟨rs, ρ1, F1, b1, q1, G1, he⟩
    intro pins s I
    refine wpAny_Call_Name_kw (ld_glob I (glB_ok xo hg) hm ?_ hdb)
    refine PySem.W.callWith_K (h₀ := X.base) I.ok.mod.kin kp (thn (main pos pins s I) fun us s1 ⟨vs, H1, I1, r, rs, ρ1, F1, b1, q1, G1, he⟩ => ⟨I1.kIn, ?_⟩) (star_eq hn.1) (star_plain hn.2)
    exact fin b1 q1 G1 he I1 r
theorem se_callK {x : Str} {n : Nat} {es : List Expr} {kws : List Keyword} {ks : List Str} {pm : List Nat} {is iks : Es} {p pos : Pos} (hg : glB ct.sc x = true) (hl : ct.gl.lookup x = some (.fn n)) (hp : plainN x = true) (hc : ct.calm = true) (hsg : (n, esLen is, ks, pm) ∈ ct.sg) (nd : pm.Nodup)
    (hn : es.all nst = true) (hz : es = [] → is = .nil) (hk : kws.map (·.arg) = ks.map some) (hlk : esLen iks = ks.length) (hs : SA g Φ k ct es is) (hks : SK g Φ k ct kws iks) : SE g Φ k ct (.Call (.Name x p) es kws pos) (.call n pm is iks) := by
  intro X xo ρ σ H F S Q W tk G
  obtain ⟨f, hf, hm⟩ := xo.glob x _ hl
  obtain ⟨fd, ps, kp, FG, B⟩ := keep_fa xo hf hsg
  have hdb := (plainN_ok hp).1
  obtain ⟨kn1, kn2, kn3⟩ := kw_names (pos := pos) (env := X.env) hk
  -- the keywords' part, then the call
  have kwpart : ∀ vs rs ρ1 H1 F1, Bh g ρ σ H F ρ1 σ H1 F1 → VrRels g ρ1 σ H1 F1 H vs rs → GdR g ρ σ H F ((evEs Φ iks ρ1).bind fun zs ρ => match pick pm (rs ++ zs) with
      | some rs => callR Φ n rs ρ
      | none => .err) (OkE g σ H Q) W → DK X kws σ H1 fun zs H2 => ∃ ρ2 ts F2, Bh g ρ σ H F ρ2 σ H2 F2 ∧ VrRels g ρ2 σ H2 F2 H (vs ++ zs) (rs ++ ts) ∧ zs.length = ts.length ∧ ts.length = ks.length ∧ GdR g ρ σ H F (match pick pm (rs ++ ts) with
      | some rs => callR Φ n rs ρ2
      | none => .err) (OkE g σ H Q) W := fun vs rs ρ1 H1 F1 b1 q1 G1 => by
    refine hks X xo ρ1 σ H1 F1 b1.sim _ W tk ?_
    cases he : evEs Φ iks ρ1 with
    | ok ts ρ2 =>
      rw [he] at G1
      intro H2 F2 b2 zs q2
      exact ⟨ρ2, ts, F2, b1.trans b2, VrRels.app b1.stp.live q2 (q1.later b1.sim b2) q1.held, q2.length, (evEs_len he).trans hlk, G1⟩
    | ex x ρ2 =>
      rw [he] at G1
      exact fun cls d H' F' b2 xr => G1 cls d H' F' (b1.trans b2) xr
    | err => rw [he] at G1; exact G1.elim
  cases es with
  | nil =>
    cases hz rfl
    intro pins s I
    refine wpAny_Call_Name_kw (ld_glob I (glB_ok xo hg) hm ?_ hdb)
    refine PySem.W.callWith_KW0 (h₀ := X.base) I.ok.mod.kin kp kn1 (thn (kwpart [] [] ρ H F (Bh.refl S) .nil G pos pins s I) fun ws s2 ⟨zs, H2, I2, rz, ρ2, ts, F2, b2, q2, l1, l2, G2⟩ => ⟨I2.kIn, ?_⟩) kn3
    rw [kn2]
    exact call_end (vs := []) (rs := []) (us := []) xo hc tk FG B nd rfl l2 I2 .nil rz b2 q2 rfl l1 G2
  | cons e es =>
    rw [List.all_cons, Bool.and_eq_true] at hn
    have main : DA X (e :: es) σ H fun vs H1 => ∃ rs ρ1 F1, Bh g ρ σ H F ρ1 σ H1 F1 ∧ VrRels g ρ1 σ H1 F1 H vs rs ∧ GdR g ρ σ H F ((evEs Φ iks ρ1).bind fun zs ρ => match pick pm (rs ++ zs) with
      | some rs => callR Φ n rs ρ
      | none => .err) (OkE g σ H Q) W ∧ evEs Φ is ρ = .ok rs ρ1 := hs.goB xo S tk G fun vs rs ρ1 H1 F1 b1 q1 G1 he => ⟨rs, ρ1, F1, b1, q1, G1, he⟩
    intro pins s I
    refine wpAny_Call_Name_kw (ld_glob I (glB_ok xo hg) hm ?_ hdb)
    refine PySem.W.callWith_KW (h₀ := X.base) I.ok.mod.kin kp kn1 (thn (main pos pins s I) fun us s1 ⟨vs, H1, I1, r, rs, ρ1, F1, b1, q1, G1, he⟩ => ?_) (by rw [kn3, star_plain (by rw [List.all_cons, hn.1, hn.2] <;> rfl)] <;> rfl) (star_eq hn.1)
    refine thn (kwpart vs rs ρ1 H1 F1 b1 q1 G1 pos pins s1 I1) fun ws s2 ⟨zs, H2, I2, rz, ρ2, ts, F2, b2, q2, l1, l2, G2⟩ => ⟨I2.kIn, ?_⟩
    rw [kn2]
    exact call_end xo hc tk FG B nd (evEs_len he) l2 I2 r rz b2 q2 q1.length l1 G2
end
end Ev

set_option Elab.async false
set_option linter.all false
set_option maxRecDepth 100000
set_option maxHeartbeats 1000000
/-! Ev5e: isinstance of several classes; text.index(sign). Own work. -/
namespace Ev
open PySem PySem.Spec PyProof.Rows L2
/-! ### where a sign stands first -/
open PySem.StrLaws PySem.Builtin.Str in
theorem occ_full (s sub : Str) (hi : Nat) : ∀ (l : List Nat) (st : Array Nat × Nat), st.fst.size = 1 → (forIn l st (occBody s sub hi 1)).run.fst = st.fst
  | [], _, _ => rfl
  | a :: l, st, h => by
    rw [List.forIn_cons]
    unfold occBody
    have n : ¬ (((st.fst.size < 1 ∧ st.snd ≤ a) ∧ a + sub.length ≤ hi) ∧ subAt s sub a = true) := fun z => by
      have := z.1.1.1
      omega
    rw [if_neg n]
    exact occ_full s sub hi l _ h
open PySem.StrLaws PySem.Builtin.Str in
theorem occ_at (s sub : Str) (hi i : Nat) (h : i + sub.length ≤ hi ∧ subAt s sub i = true) : ∀ (m a free : Nat), free ≤ a → a ≤ i → i < a + m → (∀ j, a ≤ j → j < i → ¬ (j + sub.length ≤ hi ∧ subAt s sub j = true)) →
    (forIn (List.range' a m) ((#[] : Array Nat), free) (occBody s sub hi 1)).run.fst = #[i]
  | 0, a, free, _, h1, h2, _ => absurd h2 (by omega)
  | m + 1, a, free, h0, h1, h2, hn => by
    rw [List.range'_succ, List.forIn_cons]
    by_cases e : a = i
    · subst e
      have c : (((((#[] : Array Nat), free).fst.size < 1 ∧ ((#[] : Array Nat), free).snd ≤ a) ∧ a + sub.length ≤ hi) ∧ subAt s sub a = true) := ⟨⟨⟨by simp, h0⟩, h.1⟩, h.2⟩
      have e : occBody s sub hi 1 a ((#[] : Array Nat), free) = pure (ForInStep.yield (#[a], a + sub.length)) := by
        unfold occBody
        rw [if_pos c] <;> rfl
      rw [e]
      exact occ_full s sub hi _ _ rfl
    · have c := hn a (Nat.le_refl _) (by omega)
      have e : occBody s sub hi 1 a ((#[] : Array Nat), free) = pure (ForInStep.yield (#[], free)) := by
        unfold occBody
        rw [if_neg fun z => c ⟨z.1.2, z.2⟩] <;> rfl
      rw [e]
      exact occ_at s sub hi i h m (a + 1) free (by omega) (by omega) (by omega) fun j q1 q2 => hn j (by omega) q2
open PySem.StrLaws PySem.Builtin.Str in
theorem occ_first {l : List Nat} {c : Nat} (h : c ∈ l) : occurrences ⟨l.toArray⟩ ⟨[c].toArray⟩ 0 (⟨l.toArray⟩ : Str).length 1 = [l.idxOf c] := by
  have hlt : l.idxOf c < l.length := List.idxOf_lt_length_of_mem h
  have hl : (⟨l.toArray⟩ : Str).length = l.length := by simp [Str.length]
  have at_ : ∀ i, (i + (⟨[c].toArray⟩ : Str).length ≤ (⟨l.toArray⟩ : Str).length ∧ subAt ⟨l.toArray⟩ ⟨[c].toArray⟩ i = true) ↔ l[i]? = some c := fun i => by
    have := subAt_one ⟨l.toArray⟩ c i
    exact this
  rw [occ_eq, occ_at (i := l.idxOf c) _ _ _ ((at_ _).mpr (by rw [List.getElem?_eq_getElem hlt, List.getElem_idxOf])) _ 0 0 (Nat.le_refl _) (Nat.zero_le _) (by rw [hl]; omega)]
  intro j _ hj q
  rw [at_] at q
  obtain ⟨hjl, e⟩ := List.getElem?_eq_some_iff.mp q
  have := List.not_of_lt_findIdx (p := (· == c)) (xs := l) hj
  simp [e] at this
section
variable {g : Gi} {Φ : Fns} {k : Nat} {ct : Ct} {X : Cx} {ρ ρ' ρ0 ρ1 ρ2 : En} {σ σ' σ1 : St} {H F H' F' H0 F0 H1 F1 H2 F2 : Hp} {W : WX} {Q : VK} {d : D} {x : V}
theorem index_ok {r : Vr} {vs : List V} {ds : List D} {bc : Bool} (m : Rm g bc X) (h : mtD .index d ds = some r) (s : Same F H) (hx : RdH g H F x d) (ha : RdHs g H F vs ds) (k : ∀ v H', Res g H F r v H' → Q v H') : DMt X "str.index" x vs H Q ∧ ∃ a, x = .str a := by
  unfold mtD at h
  split at h <;> first
    | (exfalso; rename_i q _ _; exact Mt.noConfusion q)
    | (exfalso; rename_i q _; exact Mt.noConfusion q)
    | (exfalso; rename_i q; exact Mt.noConfusion q)
    | (cases h; done)
    | skip
  split at h
  case isFalse => cases h
  rename_i hc
  cases h
  obtain ⟨rfl, o1⟩ := hx.str
  obtain ⟨w, rfl, h2⟩ := ha.one
  obtain ⟨rfl, o2⟩ := h2.str
  exact ⟨MtR.d mt_sindex ⟨_, _, _, [], rfl, rfl, occ_first hc, k _ _ (.same s (.int _))⟩, _, rfl⟩
theorem se_index {o e : Expr} {io : E} {is : Es} {apos cpos : Pos} (hb : baseB o = true) (hl : lineB apos cpos = true) (hn : nst e = true) (ho : SE g Φ k ct o io) (hs : SA g Φ k ct [e] is) :
    SE g Φ k ct (.Call (.Attribute o (Str.ofString "index") apos) [e] [] cpos) (.mth .index io is) := by
  intro X xo ρ σ H F S Q W tk G
  refine PE.d (pe_bm PySem.F.plainAttrs_str PySem.F.slot_str_index PySem.F.type_str_index mt_D pe_D pa_D (baseB_ok hb) (few_ok hn) hl (star_eq hn) rfl) ?_
  refine ho.go xo S tk G fun v r ρ1 H1 F1 b1 q1 G1 => ?_
  obtain ⟨d, l1, G2⟩ := op1_in G1
  split at G2
  case isFalse => exact G2.elim
  rename_i hm
  have hx := q1.rd b1.sim l1
  refine ⟨tyV_str (by cases d <;> first | (cases hm; done) | exact ⟨_, hx.str.1⟩), ?_⟩
  refine hs.go xo b1.sim tk G2 fun vs rs ρ2 H2 F2 b2 q2 G3 => ?_
  unfold mthR at G3
  simp only at G3
  split at G3
  · rename_i d' ds l2 l3
    obtain ⟨a, hr, G4⟩ := toRs_in G3
    exact (index_ok xo.rm hr b2.sim.sub ((q1.later b1.sim b2).rd b2.sim l2) (lookAll_rd b2.sim q2 l3) fun v' H' z => res_end b2.sim (fun c z => b2.stp.live c (b1.stp.live c z)) G4 z).1
  · exact G3.elim
/-! ### isinstance(x, (A, B)) -/
theorem RdH.up {v : V} (h : RdH g H F v d) (s : Same H H') : RdH g H' F v d := by
  rcases h with h | ⟨a, e, c⟩
  · exact .inl h
  · refine .inr ⟨a, e, c.mono (Same.refl F) ?_⟩
    obtain ⟨o, ho⟩ := Option.ne_none_iff_exists'.mp c.there
    rw [s a o ho, ho]
theorem Res.up {a : Addr} {o : HO} {v : V} {r : Vr} (h : H a = none) (s : Same F H) (q : Res g (upd H a o) F r v H') : Res g H F r v H' := by
  obtain ⟨F', q1, q2, q3, q4, q5⟩ := q
  refine ⟨F', q1, fun b z => ?_, (same_upd h).trans q3, q4, ?_⟩
  · rcases q2 b z with y | y
    · exact .inl y
    · by_cases hb : b = a
      · subst hb; exact .inr h
      · rw [upd_ne hb] at y; exact .inr y
  · cases r with
    | v d => exact q5
    | o d =>
      obtain ⟨b, e1, e2, e3⟩ := q5
      refine ⟨b, e1, ?_, e3⟩
      by_cases hb : b = a
      · subst hb; exact h
      · rw [upd_ne hb] at e2; exact e2
    | s i => exact q5
def isiTs : Bi → Option (List String)
  | .isseq => some ["list", "tuple"]
  | .isbox => some ["list", "tuple", "dict"]
  | _ => none
theorem isiT_all {f : Bi} {cs : List String} {r : Vr} {tp : Addr} (hf : isiTs f = some cs) {bc : Bool} (m : Rm g bc X) (h : biD f [d] = some r) (s : Same F H) (ht : H tp = some (.tup (cs.map .ty))) (hx : RdH g H F x d) (k : ∀ v H', Res g H F r v H' → Q v H') : DCall X (.builtin "isinstance") [x, .ref tp] H Q := by
  have main : ∀ n b, tyN d = some n → PySem.W.kitAny X.K (.type n) (cs.map .type) = some b → r = .v (.bl b) → DCall X (.builtin "isinstance") [x, .ref tp] H Q := fun n b h1 h2 h3 => by
    subst h3
    refine CallR.d call_isiT ⟨x, tp, cs.map .ty, .type n, cs.map .type, b, rfl, ht, ?_, ty_of m h1 s hx, h2, k _ _ (.same s (.bl b))⟩
    clear hf h2 ht
    induction cs with
    | nil => exact .nil
    | cons c cs ih => exact .cons (.ty c) ih
  cases f <;> simp only [isiTs] at hf <;> cases hf <;> cases d <;> simp only [biD] at h <;> cases h
  all_goals first
    | exact main _ _ rfl (kitAny_cons (kit_ty (r := false) (by decide +kernel)) (fun _ => kitAny_cons (kit_ty (r := false) (by decide +kernel)) (fun _ => kitAny_nil) (fun h => h)) (fun h => by cases h)) rfl
    | exact main _ _ rfl (kitAny_cons (kit_ty (r := true) (by decide +kernel)) (fun h => by cases h) (fun _ => rfl)) rfl
    | exact main _ _ rfl (kitAny_cons (kit_ty (r := false) (by decide +kernel)) (fun _ => kitAny_cons (kit_ty (r := true) (by decide +kernel)) (fun h => by cases h) (fun _ => rfl)) (fun h => by cases h)) rfl
    | exact main _ _ rfl (kitAny_cons (kit_ty (r := false) (by decide +kernel)) (fun _ => kitAny_cons (kit_ty (r := false) (by decide +kernel)) (fun _ => kitAny_cons (kit_ty (r := false) (by decide +kernel)) (fun _ => kitAny_nil) (fun h => h)) (fun h => h)) (fun h => by cases h)) rfl
    | exact main _ _ rfl (kitAny_cons (kit_ty (r := false) (by decide +kernel)) (fun _ => kitAny_cons (kit_ty (r := false) (by decide +kernel)) (fun _ => kitAny_cons (kit_ty (r := true) (by decide +kernel)) (fun h => by cases h) (fun _ => rfl)) (fun h => by cases h)) (fun h => by cases h)) rfl
theorem isiTs_boot {f : Bi} {cs : List String} (h : isiTs f = some cs) : cs.all (fun c => bootBuiltins (Str.ofString c) == some (.type c) && decide ((Str.ofString c) ≠ ("__name__" : Str)) && !((Str.ofString c) == ("__debug__" : Str))) = true := by
  cases f <;> simp only [isiTs] at h <;> cases h <;> decide +kernel
/-- the classes' names -/
def tyNames (ct : Ct) : List String → List Expr → Bool
  | [], [] => true
  | c :: cs, .Name y _ :: es => y == Str.ofString c && glB ct.sc (Str.ofString c) && (match ct.gl.lookup (Str.ofString c) with
    | some .free => true
    | _ => false) && tyNames ct cs es
  | _, _ => false
def tTys : List String → TA
  | [] => tNil
  | c :: cs => tCons (tC (.ty c)) (tTys cs)
theorem pa_tys (xo : XOk g Φ k ct X) : ∀ {cs : List String} {es : List Expr}, cs.all (fun c => bootBuiltins (Str.ofString c) == some (.type c) && decide ((Str.ofString c) ≠ ("__name__" : Str)) && !((Str.ofString c) == ("__debug__" : Str))) = true → tyNames ct cs es = true → PA X es (tTys cs)
  | [], [], _, _ => pa_nil
  | c :: cs, .Name y py :: es, h, hn => by
    rw [List.all_cons, Bool.and_eq_true, Bool.and_eq_true, Bool.and_eq_true, decide_eq_true_eq] at h
    unfold tyNames at hn
    rw [Bool.and_eq_true, Bool.and_eq_true, Bool.and_eq_true] at hn
    obtain ⟨⟨⟨n1, n2⟩, n3⟩, n4⟩ := hn
    have hy : y = Str.ofString c := by simpa using n1
    subst hy
    have hl : ct.gl.lookup (Str.ofString c) = some .free := by
      split at n3
      · assumption
      · cases n3
    have hm : X.mg (Str.ofString c) = none := xo.glob _ _ hl
    exact pa_cons (pe_bltn (v := .ty c) (glB_ok xo n2) hm (by simpa using h.1.1.1) rfl h.1.1.2 (by simpa using h.1.2)) (pa_tys xo h.2 n4) (star_eq rfl)
theorem tTys_go {R : List V → Hp → Prop} : ∀ {cs : List String}, R (cs.map .ty) H → tTys cs σ H R
  | [], h => h
  | c :: cs, h => by
    show tC (.ty c) σ H fun v H1 => tTys cs σ H1 fun vs H2 => R (v :: vs) H2
    exact tTys_go (cs := cs) (R := fun vs H2 => R (.ty c :: vs) H2) h
theorem se_isiT {f : Bi} {cs : List String} {e : Expr} {es : List Expr} {ie : E} {j : Nat} {p p2 pos : Pos} (hf : isiTs f = some cs) (hg : glB ct.sc (Str.ofString "isinstance") = true) (hl : ct.gl.lookup (Str.ofString "isinstance") = some .free) (ht : tyNames ct cs es = true) (hn : nst e = true) (he : SE g Φ k ct e ie) :
    SE g Φ k ct (.Call (.Name (Str.ofString "isinstance") p) [e, .Tuple es j p2] [] pos) (.bi f (.cons ie .nil)) := by
  intro X xo ρ σ H F S Q W tk G
  have hm : X.mg "isinstance" = none := xo.glob _ _ hl
  refine PE.d (pe_callB call_D (glB_ok xo hg) hm (boot_bi .isint) (pa_cons pe_D (pa_cons (pe_tup (pa_tys xo (isiTs_boot hf) ht)) pa_nil) (star_eq hn)) (by decide +kernel) (by decide +kernel) (star_eq hn) rfl) ?_
  have G' : GdR g ρ σ H F ((evE Φ ie ρ).bind fun x ρ => match look ρ x with
    | some d => toRs (biD f [d]) ρ
    | none => .err) (OkE g σ H Q) W := by
    have e : (evE Φ (.bi f (.cons ie .nil)) ρ) = ((evE Φ ie ρ).bind fun x ρ => match look ρ x with
      | some d => toRs (biD f [d]) ρ
      | none => .err) := by
      simp only [evE, evEs]
      cases evE Φ ie ρ with
      | ok x ρ1 =>
        simp only [Rs.bind, lookAll]
        cases look ρ1 x <;> rfl
      | ex x ρ1 => rfl
      | err => rfl
    rw [← e]
    exact G
  refine he.go xo S tk G' fun v r ρ1 H1 F1 b1 q1 G1 => ?_
  show tTys cs σ H1 _
  refine tTys_go ⟨by cases f <;> simp only [isiTs] at hf <;> cases hf <;> decide, fun tp htp => ?_⟩
  split at G1
  · rename_i d hd
    obtain ⟨a, hr, G2⟩ := toRs_in G1
    exact isiT_all hf xo.rm hr (b1.sim.sub.trans (same_upd htp)) upd_same ((q1.rd b1.sim hd).up (same_upd htp)) fun v' H' z => res_end b1.sim b1.stp.live G2 (Res.up htp b1.sim.sub z)
  · exact G1.elim
theorem se_neg {i : Int} {j : Nat} {p pos : Pos} : SE g Φ k ct (.UnaryOp .USub (.Constant (.int i) j p) pos) (.lit (.int (-i))) := by
  intro X xo ρ σ H F S Q W tk G
  exact PE.d (pe_un un_neg (pe_int (X := X))) ⟨i, rfl, G.now S _ (.int (-i))⟩
end
end Ev

set_option Elab.async false
set_option linter.all false
set_option maxRecDepth 100000
set_option maxHeartbeats 1000000
/-! Ev5f: enumerate(text). Own work. -/
namespace Ev
open PySem PySem.Spec PyProof.Rows L2
/-- a text's signs, each in a new pair behind its number -/
def Ites (y : Str) : It :=
  ⟨fun i _ => i < y.cps.size, fun i H v H' => ∃ T c, v = .ref T ∧ H T = none ∧ y.cps[i]? = some c ∧ H' = upd H T (.tup [.int (i : Nat), .str ⟨#[c]⟩]), fun i _ => y.cps.size ≤ i⟩
/-- how the text's own walker stands -/
def StrSt (b : Addr) (y : Str) (t : Tok) (i : Nat) (h : Heap) : Prop := h.IsStrIter b (strIterType y) y t i
theorem str_draws {P : Program} {w : World} {A : Around} (hh : A.handled = none) (b : Addr) (y : Str) (t : Tok) : Draws P w A b [b] y.cps.size (fun i v => ∃ c u, y.cps[i]? = some c ∧ v = .str ⟨#[c]⟩ u) (StrSt b y t) := by
  have e : strIterType y = "str_ascii_iterator" ∨ strIterType y = "str_iterator" := by
    unfold strIterType
    split
    · exact .inl rfl
    · exact .inr rfl
  unfold StrSt
  rcases e with e | e <;> rw [e]
  · exact Draws.strAscii hh b y t
  · exact Draws.strWide hh b y t
theorem StrSt.up {b : Addr} {y : Str} {t : Tok} {i : Nat} {h h' : Heap} (st : StrSt b y t i h) (k : ∀ o, h.get? b = some o → h'.get? b = some o) : StrSt b y t i h' := by
  obtain ⟨o, ho, rest⟩ := st
  exact ⟨o, k o ho, rest⟩
theorem StrSt.obj {b : Addr} {y : Str} {t : Tok} {i : Nat} {h : Heap} (st : StrSt b y t i h) : ∃ o, h.get? b = some o ∧ ∀ v, o.data ≠ .cell v := by
  obtain ⟨o, ho, _, dat⟩ := st
  exact ⟨o, ho, fun v z => by rw [dat] at z; cases z⟩
theorem turn_enumS {P : Program} {w : World} {K : PySem.W.Frag} {elts : List Expr} {kk : Nat} {tp : Pos} (y : Str) (t : Tok) (b c : Addr) (hbc : b ≠ c) :
    Turn P w K (.Tuple elts kk tp) (Ites y) [b, c] b (fun i h => (∃ old, IsEnum h b c ((i : Nat) : Int) old) ∧ StrSt c y t i h ∧ i ≤ y.cps.size) where
  mem := List.mem_cons_self
  obj := fun i h st d hd => by
    obtain ⟨⟨old, q1⟩, q2, _⟩ := st
    rcases List.mem_cons.mp hd with z | z
    · subst z
      exact ⟨_, q1, fun v q => nomatch q⟩
    · have z := List.mem_singleton.mp z
      subst z
      exact q2.obj
  keep := fun i h h' st k => by
    obtain ⟨⟨old, q1⟩, q2, q3⟩ := st
    exact ⟨⟨old, k b (by simp) _ q1⟩, q2.up fun o q => k c (by simp) o q, q3⟩
  item := by
    intro X e1 e2 e3 hc i pins s σ H E I hf st hg
    subst e1 e2 e3
    obtain ⟨⟨old, q1⟩, q2, _⟩ := st
    have hlt : i < y.cps.size := hg
    have lb : b < s.heap.objs.size := Heap.lt_size q1
    have lc : c < s.heap.objs.size := by
      obtain ⟨o, ho, _⟩ := q2
      exact Heap.lt_size ho
    refine wpAny_pyNext_enum_itemD (str_draws (A := X.A.in1) (I.ok.hd hc) c y t) q1 q2 hlt hbc (fun z => hbc (List.mem_singleton.mp z)) fun u h1 tk hp out st1 hT sz keep => ?_
    obtain ⟨ch, tu, hch, rfl⟩ := hp
    refine ⟨_, rfl, wpAny_letOwnedTupleGo_enum (s := { s with heap := h1, toks := tk + 1 }) out fun h2 out2 sb => ?_⟩
    have hT2 := (sb.2 _ (Nat.ne_of_gt lb)).trans hT
    have keep2 : ∀ d o, d ∉ [b, c] → s.heap.get? d = some o → h2.get? d = some o := fun d o hd q => by
      have n1 : d ≠ b := fun z => hd (by simp [z])
      have n2 : d ≠ c := fun z => hd (by simp [z])
      exact (sb.2 d n1).trans (keep d o n1 n2 q)
    have new : ObjOk X.prog X.w (upd H s.heap.objs.size (.tup [.int (i : Nat), .str ⟨#[ch]⟩])) h2 s.heap.objs.size (.tup [.int (i : Nat), .str ⟨#[ch]⟩]) := by
      refine ⟨by show 2 ≤ sizeLine; decide, _, ?_, ⟨_, hT2, rfl, ⟨_, rfl⟩⟩⟩
      exact .cons ⟨_, rfl⟩ (.cons ⟨_, rfl⟩ .nil)
    have I1 := I.turnedNew (t' := tk + 1) (ch := [b, c]) keep2 hf (Nat.le_refl _) new
    refine ⟨.ref s.heap.objs.size, _, I1, rfl, ⟨_, ch, rfl, I.hok.fresh (Nat.le_refl _), hch, rfl⟩, ⟨⟨Value.str ⟨#[ch]⟩ tu, ?_⟩, st1.up (fun o q => (sb.2 c hbc.symm).trans q), hlt⟩, fun d hd => ?_⟩
    · have e1 : ((i + 1 : Nat) : Int) = (i : Int) + 1 := by omega
      rw [e1]; exact out2
    · have ld : d < s.heap.objs.size := by
        rcases List.mem_cons.mp hd with z | z
        · rw [z]; exact lb
        · rw [List.mem_singleton.mp z]; exact lc
      rw [upd_ne (Nat.ne_of_lt ld)]
      exact (hf d hd).1
  done := by
    intro X e1 e2 e3 hc i pins s σ H E I hf st hg
    subst e1 e2 e3
    obtain ⟨⟨old, q1⟩, q2, q3⟩ := st
    have hge : y.cps.size ≤ i := hg
    have hi : i = y.cps.size := Nat.le_antisymm q3 hge
    obtain ⟨f0, f1, f2, f3, f4, f5⟩ := hf c (by simp)
    rw [hi] at q2
    exact wpAny_pyNext_enum_endD (str_draws (A := X.A.in1) (I.ok.hd hc) c y t) q1 q2 fun h1 eb => ⟨rfl, I.turned (t' := s.toks) (fun d o hd q => eb d o hd q) f0 f1 f3 f4 f5⟩
  self := fun A i s Q E st h => by
    obtain ⟨⟨_, q1⟩, _⟩ := st
    exact wpAny_pyIter_enum q1 h
def iEnumS (ta : TA) : TI := fun σ H R => ta σ H fun vs H1 => ∃ y, vs = [.str y] ∧ R (Ites y) H1
theorem pi_enumS {X : Cx} {e : Expr} {ta : TA} {p pos tp : Pos} {elts : List Expr} {kk : Nat} (g1 : Gl X "enumerate") (g2 : X.mg "enumerate" = none) (ha : PA X [e] ta) (hs : starEach [e] X.env = [(false, eval e X.env)]) :
    PI X (.Tuple elts kk tp) (.Call (.Name "enumerate" p) [e] [] pos) (iEnumS ta) := by
  refine ⟨fun pins s σ H R I h => ?_⟩
  refine Call_ (ld_blt I g1 g2 PyProof.Rows.boot_enumerate ?_)
  refine PyProof.Rows.callWith_type1 (thn (ha.run pos pins s σ H _ I h) fun us s1 ⟨vs, H1, I1, r1, q1⟩ => ?_) hs rfl
  obtain ⟨y, ey, q⟩ := q1
  subst ey
  cases r1 with
  | cons r rr =>
  cases rr
  obtain ⟨t, rfl⟩ := r
  refine call_enumerate_str fun h1 he hit hsz hk => wpAny_pyIter_enum he ?_
  have I2 : Inv X pins σ H1 { s1 with heap := h1 } := I1.kept (t' := s1.toks) hk
  have st0 : StrSt s1.heap.objs.size y t 0 h1 := hit
  refine ⟨s1.heap.objs.size + 1, [s1.heap.objs.size + 1, s1.heap.objs.size], _, _, H1, rfl, I2, turn_enumS y t (s1.heap.objs.size + 1) s1.heap.objs.size (Nat.succ_ne_self _), ⟨⟨.none, he⟩, st0, Nat.zero_le _⟩, fun d hd => ?_, q⟩
  have le : s1.heap.objs.size ≤ d := by
    rcases List.mem_cons.mp hd with z | z
    · rw [z]; exact Nat.le_succ _
    · rw [List.mem_singleton.mp z]; exact Nat.le_refl _
  exact I1.fpOk le (I1.hok.fresh le)
end Ev

set_option Elab.async false
set_option linter.all false
set_option maxRecDepth 100000
set_option maxHeartbeats 1000000
/-! Ev6: what is walked; what statements do. Own work. -/
namespace Ev
open PySem PySem.Spec PyProof.Rows L2
section
variable {g : Gi} {Φ : Fns} {k : Nat} {ct : Ct} {X : Cx} {ρ ρ' ρ0 ρ1 ρ2 : En} {σ σ' σ0 σ1 σ2 : St} {H F H' F' H0 F0 H1 F1 H2 F2 : Hp} {W : WX}
theorem Own.of {a : Addr} : Own ρ σ a ↔ ∃ i, OwnM ρ σ i a := Iff.rfl
theorem OwnL.of {a : Addr} : OwnL ρ σ a ↔ ∃ i, OwnAt ρ σ i a := Iff.rfl
/-! ### locks -/
theorem lock_ne {m : Md} : m.lock ≠ .fz ↔ m ≠ .fz := by cases m <;> decide
theorem lockS_some {j : Nat} {s : Sl} (h : ρ.get j = some s) : lockS ρ (.s j) = ρ.set j (some ⟨s.m.lock, s.d⟩) := by
  show (match ρ.get j with
    | some s => ρ.set j (some ⟨s.m.lock, s.d⟩)
    | none => ρ) = _
  rw [h]
theorem lockS_none {j : Nat} (h : ρ.get j = none) : lockS ρ (.s j) = ρ := by
  show (match ρ.get j with
    | some s => ρ.set j (some ⟨s.m.lock, s.d⟩)
    | none => ρ) = _
  rw [h]
theorem lock_get {r : Vr} : ∀ i, (lockS ρ r).get i = (ρ.get i) ∨ (∃ s, r = .s i ∧ ρ.get i = some s ∧ (lockS ρ r).get i = some ⟨s.m.lock, s.d⟩) := by
  intro i
  cases r with
  | v d => exact .inl rfl
  | o d => exact .inl rfl
  | s j =>
    cases q : ρ.get j with
    | none => rw [lockS_none q]; exact .inl rfl
    | some s =>
      rw [lockS_some q]
      by_cases h : j = i
      · subst h
        exact .inr ⟨s, rfl, q, get_set_same (get_lt q)⟩
      · exact .inl (get_set_ne h)
theorem lock_len {r : Vr} : (lockS ρ r).length = ρ.length := by
  cases r with
  | v d => rfl
  | o d => rfl
  | s j =>
    cases q : ρ.get j with
    | none => rw [lockS_none q]
    | some s => rw [lockS_some q, List.length_set]
theorem lock_own {r : Vr} {i : Nat} {s : Sl} (h : (lockS ρ r).get i = some s) : ∃ t, ρ.get i = some t ∧ t.d = s.d ∧ (s.m ≠ .fz ↔ t.m ≠ .fz) ∧ (s.m = .own → t.m = .own ∧ r ≠ .s i) := by
  cases r with
  | v d => exact ⟨s, h, rfl, Iff.rfl, fun e => ⟨e, fun z => nomatch z⟩⟩
  | o d => exact ⟨s, h, rfl, Iff.rfl, fun e => ⟨e, fun z => nomatch z⟩⟩
  | s j =>
    cases q : ρ.get j with
    | none =>
      rw [lockS_none q] at h
      exact ⟨s, h, rfl, Iff.rfl, fun e => ⟨e, fun z => by cases z; rw [q] at h; cases h⟩⟩
    | some t =>
      rw [lockS_some q] at h
      rw [get_set (get_lt q)] at h
      split at h
      · rename_i e
        subst e
        cases h
        refine ⟨t, q, rfl, lock_ne, fun e => ?_⟩
        have e : t.m.lock = .own := e
        cases hm : t.m <;> rw [hm] at e <;> cases e
      · rename_i e
        exact ⟨s, h, rfl, Iff.rfl, fun z => ⟨z, fun y => by cases y; exact e rfl⟩⟩
theorem SlRel.md {s t : Sl} {v : V} (h : SlRel g H F s v) (e : t.d = s.d) (m : t.m ≠ .fz ↔ s.m ≠ .fz) : SlRel g H F t v := by
  unfold SlRel at h ⊢
  rw [e]
  by_cases hs : s.m = .fz
  · have ht : t.m = .fz := by cases q : t.m <;> first | rfl | exact absurd hs (m.mp (by rw [q]; decide))
    rw [hs] at h
    rw [ht]
    exact h
  · have ht := m.mpr hs
    have h' : ∃ a, v = .ref a ∧ F a = none ∧ Cell g H F a s.d := by
      cases q : s.m with
      | fz => exact absurd q hs
      | lk => rw [q] at h; exact h
      | own => rw [q] at h; exact h
    cases q : t.m with
    | fz => exact absurd q ht
    | lk => exact h'
    | own => exact h'
theorem lock_bh {r : Vr} (S : Sim g ρ σ H F) : Bh g ρ σ H F (lockS ρ r) σ H F := by
  have ow : ∀ i a, OwnM (lockS ρ r) σ i a → OwnM ρ σ i a := fun i a ⟨s, h1, h2, h3⟩ => by
    obtain ⟨t, q1, _, _, q4⟩ := lock_own h1
    exact ⟨t, q1, (q4 h2).1, h3⟩
  have ol : ∀ i a, OwnAt (lockS ρ r) σ i a → OwnAt ρ σ i a := fun i a ⟨s, h1, h2, h3⟩ => by
    obtain ⟨t, q1, _, q3, _⟩ := lock_own h1
    exact ⟨t, q1, q3.mp h2, h3⟩
  refine ⟨⟨lock_len.trans S.len, S.sub, fun i s h => ?_, fun i j s t a h1 h2 m1 m2 v1 v2 => ?_⟩, ⟨Same.refl F, fun _ z => .inl z, fun _ _ z _ => z, fun _ z => z, fun b ⟨i, z⟩ => .inl ⟨i, ow i b z⟩, fun b ⟨i, z⟩ => .inl ⟨i, ol i b z⟩⟩, fun i hi => ?_, fun i a z => .inl (ow i a z), fun i a z => .inl (ol i a z)⟩
  · obtain ⟨t, q1, q2, q3, _⟩ := lock_own h
    obtain ⟨v, e, q⟩ := S.val i t q1
    exact ⟨v, e, q.md q2.symm q3⟩
  · obtain ⟨s', p1, _, p3, _⟩ := lock_own h1
    obtain ⟨t', q1, _, q3, _⟩ := lock_own h2
    exact S.sep i j s' t' a p1 q1 (p3.mp m1) (q3.mp m2) v1 v2
  · rcases lock_get (ρ := ρ) (r := r) i with h | ⟨s, _, _, h⟩
    · rw [h]; exact hi
    · rw [h] <;> rfl

/-! ### what is walked, as it is held -/
/-- a list that is walked -/
inductive HL (g : Gi) (ρ : En) (σ : St) (H F : Hp) : Addr → List V → List D → Prop
  | lst {a xs rows} : H a = some (.lst xs) → ¬ Own ρ σ a → RDs g F xs rows → HL g ρ σ H F a xs rows
  | seq {a xs rows} : SqL g.K F a xs → RDs g F xs rows → HL g ρ σ H F a xs rows
theorem HL.rd {a : Addr} {xs : List V} {rows : List D} (h : HL g ρ σ H F a xs rows) : RDs g F xs rows := by
  cases h with
  | lst _ _ r => exact r
  | seq _ r => exact r
theorem HL.sq {a : Addr} {xs : List V} {rows : List D} (h : HL g ρ σ H F a xs rows) (s : Same F H) : SqL g.K H a xs := by
  cases h with
  | lst h _ _ => exact .inl (.inl h)
  | seq h _ => exact Same.seq s h
theorem HL.step {a : Addr} {xs : List V} {rows : List D} (h : HL g ρ σ H F a xs rows) (st : Stp ρ σ H F ρ' σ' H' F') : HL g ρ' σ' H' F' a xs rows := by
  cases h with
  | lst h n r =>
    refine .lst (st.mod _ _ h n) (fun z => ?_) (r.mono st.fzs)
    rcases st.own _ z with z | z
    · exact n z
    · rw [z] at h; cases h
  | seq h r => exact .seq (Same.seq st.fzs h) (r.mono st.fzs)
inductive Held (g : Gi) (ρ : En) (σ : St) (H F : Hp) : It → List D → Prop
  | lst {a xs rows} : HL g ρ σ H F a xs rows → Held g ρ σ H F (Itl g.K a) rows
  | tup {a xs rows} : SqT g.K F a xs → RDs g F xs rows → Held g ρ σ H F (Itt g.K a) rows
  | str (l : List Nat) : okL l → Held g ρ σ H F (Its ⟨l.toArray⟩) (l.map fun c => .str [c])
  | rng (lo : Int) (n : Nat) : Held g ρ σ H F (Itr lo n) ((List.range n).map fun (k : Nat) => .int (lo + k))
  | enum {a xs rows} : HL g ρ σ H F a xs rows → Held g ρ σ H F (Ite g.K a) (enumD rows)
  | enumS (l : List Nat) : okL l → Held g ρ σ H F (Ites ⟨l.toArray⟩) (enumD (l.map fun c => .str [c]))
  | zip {a b xs ys rows rows2} : HL g ρ σ H F a xs rows → HL g ρ σ H F b ys rows2 → Held g ρ σ H F (Itz g.K a b) (zipD rows rows2)
  | back {a xs rows} : HL g ρ σ H F a xs rows → Held g ρ σ H F (Itv g.K a xs.length) rows.reverse
theorem Held.step {J : It} {rows : List D} (h : Held g ρ σ H F J rows) (st : Stp ρ σ H F ρ' σ' H' F') : Held g ρ' σ' H' F' J rows := by
  cases h with
  | lst h => exact .lst (h.step st)
  | tup h r => exact .tup (Same.seqT st.fzs h) (r.mono st.fzs)
  | str l o => exact .str l o
  | rng lo n => exact .rng lo n
  | enum h => exact .enum (h.step st)
  | enumS l o => exact .enumS l o
  | zip h h2 => exact .zip (h.step st) (h2.step st)
  | back h => exact .back (h.step st)
/-- what comes out is frozen; a new pair may have been laid -/
theorem Held.turn {J : It} {rows : List D} (h : Held g ρ σ H F J rows) (S : Sim g ρ σ H F) (i : Nat) : (rows.length ≤ i → J.stop i H) ∧ ∀ d, rows[i]? = some d → J.go i H ∧ ∀ x H', J.yld i H x H' → ∃ F', Bh g ρ σ H F ρ σ H' F' ∧ RD g F' x d := by
  have s := S.sub
  have pure : ∀ {x : V} {d : D} {H' : Hp}, H' = H → RD g F x d → ∃ F', Bh g ρ σ H F ρ σ H' F' ∧ RD g F' x d := fun e r => by
    subst e
    exact ⟨F, Bh.refl S, r⟩
  have new : ∀ {T : Addr} {x y : V} {d e : D} {H' : Hp}, H T = none → H' = upd H T (.tup [x, y]) → RD g F x d → RD g F y e → ∃ F', Bh g ρ σ H F ρ σ H' F' ∧ RD g F' (.ref T) (.tup [d, e]) := fun h1 h2 r1 r2 => by
    subst h2
    obtain ⟨F2, S2, st, rr⟩ := S.res (Res.tup s h1 (.cons r1 (.cons r2 .nil)))
    exact ⟨F2, ⟨S2, st, Keeps.refl _, Pv.refl⟩, rr⟩
  cases h with
  | @lst a xs _ hl =>
    have hq := hl.sq s
    have r := hl.rd
    refine ⟨fun z => ⟨xs, hq, by rw [r.length]; exact z⟩, fun d hd => ?_⟩
    obtain ⟨v, hv, rd⟩ := r.get hd
    refine ⟨⟨xs, v, hq, hv⟩, fun x H' ⟨e, y⟩ => pure e ?_⟩
    have := y xs hq
    rw [hv] at this
    cases this
    exact rd
  | @tup a xs _ h r =>
    have hq : SqT g.K H a xs := Same.seqT s h
    refine ⟨fun z => ⟨xs, hq, by rw [r.length]; exact z⟩, fun d hd => ?_⟩
    obtain ⟨v, hv, rd⟩ := r.get hd
    refine ⟨⟨xs, v, hq, hv⟩, fun x H' ⟨e, y⟩ => pure e ?_⟩
    have := y xs hq
    rw [hv] at this
    cases this
    exact rd
  | str l o =>
    refine ⟨fun z => ?_, fun d hd => ?_⟩
    · show l.toArray.size ≤ i
      rw [List.length_map] at z
      simpa using z
    · rw [List.getElem?_map] at hd
      cases hc : l[i]? with
      | none => rw [hc] at hd; cases hd
      | some c =>
        rw [hc] at hd
        cases hd
        have hlt := (List.getElem?_eq_some_iff.mp hc).1
        refine ⟨by show i < l.toArray.size; simpa using hlt, fun x H' ⟨e, c', h1, h2⟩ => pure e ?_⟩
        have h1 : l.toArray[i]? = some c' := h1
        rw [List.getElem?_toArray, hc] at h1
        cases h1
        rw [h2]
        exact .str [c] (okL_one o (List.mem_of_getElem? hc))
  | rng lo n =>
    refine ⟨fun z => ?_, fun d hd => ?_⟩
    · show n ≤ i
      simpa using z
    · rw [List.getElem?_map] at hd
      by_cases hi : i < n
      · rw [List.getElem?_range hi] at hd
        cases hd
        exact ⟨hi, fun x H' ⟨e, h2⟩ => pure e (by rw [h2]; exact .int _)⟩
      · rw [List.getElem?_eq_none (by rw [List.length_range]; omega)] at hd
        cases hd
  | @enum a xs rows hl =>
    have hq := hl.sq s
    have r := hl.rd
    refine ⟨fun z => ⟨xs, hq, by rw [r.length]; unfold enumD at z; rwa [List.length_mapIdx] at z⟩, fun d hd => ?_⟩
    unfold enumD at hd
    rw [List.getElem?_mapIdx] at hd
    obtain ⟨d0, hd0, rfl⟩ := Option.map_eq_some_iff.mp hd
    obtain ⟨v, hv, rd⟩ := r.get hd0
    refine ⟨⟨xs, v, hq, hv⟩, fun x H' ⟨T, x0, e1, e2, e3, y⟩ => ?_⟩
    subst e1
    have := y xs hq
    rw [hv] at this
    cases this
    exact new e2 e3 (.int _) rd
  | enumS l o =>
    refine ⟨fun z => ?_, fun d hd => ?_⟩
    · show l.toArray.size ≤ i
      unfold enumD at z
      rw [List.length_mapIdx, List.length_map] at z
      simpa using z
    · unfold enumD at hd
      rw [List.getElem?_mapIdx, List.getElem?_map] at hd
      cases hc : l[i]? with
      | none => rw [hc] at hd; cases hd
      | some c =>
        rw [hc] at hd
        cases hd
        have hlt := (List.getElem?_eq_some_iff.mp hc).1
        refine ⟨by show i < l.toArray.size; simpa using hlt, fun x H' ⟨T, c', e1, e2, h1, e3⟩ => ?_⟩
        subst e1
        have h1 : l.toArray[i]? = some c' := h1
        rw [List.getElem?_toArray, hc] at h1
        cases h1
        exact new e2 e3 (.int _) (.str [c] (okL_one o (List.mem_of_getElem? hc)))
  | @zip a b xs ys rows rows2 hl hl2 =>
    have hq := hl.sq s
    have hq2 := hl2.sq s
    have r := hl.rd
    have r2 := hl2.rd
    refine ⟨fun z => ⟨xs, ys, hq, hq2, by unfold zipD at z; rw [List.length_zipWith] at z; rw [r.length, r2.length]; omega⟩, fun d hd => ?_⟩
    unfold zipD at hd
    rw [List.getElem?_zipWith] at hd
    cases h1 : rows[i]? with
    | none => rw [h1] at hd; cases hd
    | some d1 =>
    cases h2 : rows2[i]? with
    | none => rw [h1, h2] at hd; cases hd
    | some d2 =>
    rw [h1, h2] at hd
    cases hd
    obtain ⟨v, hv, rd⟩ := r.get h1
    obtain ⟨v2, hv2, rd2⟩ := r2.get h2
    refine ⟨⟨xs, ys, v, v2, hq, hq2, hv, hv2⟩, fun x H' ⟨T, x0, y0, e1, e2, e3, y, y2⟩ => ?_⟩
    subst e1
    have t1 := y xs hq
    have t2 := y2 ys hq2
    rw [hv] at t1
    rw [hv2] at t2
    cases t1
    cases t2
    exact new e2 e3 rd rd2
  | @back a xs rows hl =>
    have hq := hl.sq s
    have r := hl.rd
    refine ⟨fun z => by rw [List.length_reverse] at z; show xs.length ≤ i; rw [r.length]; exact z, fun d hd => ?_⟩
    have hlt := (List.getElem?_eq_some_iff.mp hd).1
    rw [List.length_reverse] at hlt
    rw [List.getElem?_reverse hlt] at hd
    obtain ⟨v, hv, rd⟩ := r.get hd
    rw [← r.length] at hv hlt
    refine ⟨⟨hlt, xs, v, hq, hv⟩, fun x H' ⟨e, y⟩ => pure e ?_⟩
    have := y xs hq
    rw [hv] at this
    cases this
    exact rd
/-- a walk -/
def OkI (g : Gi) (σ : St) (R : It → Hp → Prop) : List D × List Vr → En → Hp → Hp → Prop := fun p ρ' H' F' => ∀ J, Held g (lockL ρ' p.2) σ H' F' J p.1 → R J H'
def SI (g : Gi) (Φ : Fns) (k : Nat) (ct : Ct) (tg iter : Expr) (ir : Wk) : Prop := ∀ X, XOk g Φ k ct X → ∀ ρ σ H F, Sim g ρ σ H F → ∀ (R : It → Hp → Prop) (W : WX), Takes X W → GdR g ρ σ H F (evI Φ ir ρ) (OkI g σ R) W → DI X tg iter σ H R
/-- what has no place of its own is frozen -/
theorem VrRel.rdf {v : V} {r : Vr} {d : D} (S : Sim g ρ σ H F) (h : VrRel g ρ σ H F H0 v r) (l : look ρ r = some d) (hn : (∀ xs, d ≠ .lst xs) ∧ ∀ ks vs, d ≠ .dic ks vs) : RD g F v d := by
  have nc : ∀ {a}, ¬ Cell g H F a d := fun {a} c => by
    rcases c with ⟨_, ds, e, _⟩ | ⟨_, ks, vs, e, _⟩
    · exact hn.1 _ e
    · exact hn.2 _ _ e
  cases r with
  | v e => cases l; exact h
  | o e =>
    cases l
    obtain ⟨a, _, _, _, c, _⟩ := h
    exact absurd c nc
  | s i =>
    obtain ⟨h1, h2⟩ := h
    obtain ⟨s, hs⟩ := Option.isSome_iff_exists.mp h2
    have l' : s.d = d := by
      unfold look at l
      simp only [hs] at l
      exact Option.some.inj l
    subst l'
    obtain ⟨w, e, q⟩ := S.val i s hs
    rw [h1] at e
    cases e
    unfold SlRel at q
    cases hm : s.m with
    | fz => rw [hm] at q; exact q
    | lk => rw [hm] at q; obtain ⟨a, _, _, c⟩ := q; exact absurd c nc
    | own => rw [hm] at q; obtain ⟨a, _, _, c⟩ := q; exact absurd c nc
theorem held_lst {v : V} {r : Vr} {rows : List D} (S : Sim g ρ σ H F) (h : VrRel g ρ σ H F H0 v r) (l : look ρ r = some (.lst rows)) : ∃ a xs, v = .ref a ∧ SqL g.K H a xs ∧ HL g (lockS ρ r) σ H F a xs rows := by
  have fz : RD g F v (.lst rows) → ∃ a xs, v = .ref a ∧ SqL g.K H a xs ∧ HL g (lockS ρ r) σ H F a xs rows := fun h => by
    cases h with
    | lst hl rr => exact ⟨_, _, rfl, .inl (.inl (S.sub _ _ hl)), .seq (.inl (.inl hl)) rr⟩
  have cell : ∀ a, v = .ref a → Cell g H F a (.lst rows) → ¬ Own (lockS ρ r) σ a → ∃ a xs, v = .ref a ∧ SqL g.K H a xs ∧ HL g (lockS ρ r) σ H F a xs rows := fun a e c n => by
    rcases c with ⟨xs, ds, e2, hl, rr⟩ | ⟨_, _, _, e2, _⟩
    · cases e2
      exact ⟨a, xs, e, .inl (.inl hl), .lst hl n rr⟩
    · cases e2
  cases r with
  | v e => cases l; exact fz h
  | o e =>
    cases l
    obtain ⟨a, e1, _, _, c, no⟩ := h
    exact cell a e1 c fun ⟨i, s, h1, h2, h3⟩ => no ⟨i, s, h1, by rw [h2]; decide, h3⟩
  | s j =>
    obtain ⟨h1, h2⟩ := h
    obtain ⟨s, hs⟩ := Option.isSome_iff_exists.mp h2
    have l' : s.d = .lst rows := by
      unfold look at l
      simp only [hs] at l
      exact Option.some.inj l
    obtain ⟨w, e, q⟩ := S.val j s hs
    rw [h1] at e
    cases e
    rw [← l'] at fz cell
    by_cases hm : s.m = .fz
    · unfold SlRel at q
      rw [hm] at q
      exact fz q
    · have q' : ∃ a, v = .ref a ∧ F a = none ∧ Cell g H F a s.d := by
        unfold SlRel at q
        cases hq : s.m with
        | fz => exact absurd hq hm
        | lk => rw [hq] at q; exact q
        | own => rw [hq] at q; exact q
      obtain ⟨a, e1, _, c⟩ := q'
      refine cell a e1 c fun ⟨i, t, t1, t2, t3⟩ => ?_
      obtain ⟨t', q1, _, _, q4⟩ := lock_own t1
      obtain ⟨q5, q6⟩ := q4 t2
      subst e1
      have := S.sep i j t' s a q1 hs (by rw [q5]; decide) hm t3 h1
      subst this
      exact q6 rfl
theorem fold_set {iter : Expr} {env : Env} (h : (match iter with
    | .Set _ _ _ => false
    | _ => true) = true) : ∀ x, foldedSetIterable iter env x = pure x := by
  intro x
  cases iter <;> first | (cases h; done) | rfl
theorem si_seq {tg e : Expr} {ie : E} (he : SE g Φ k ct e ie) : SI g Φ k ct tg e (.seq ie) := by
  intro X xo ρ σ H F S R W tk G
  cases hx : evE Φ ie ρ with
  | err =>
    unfold evI at G
    rw [hx] at G
    exact G.elim
  | ex x ρ1 =>
    refine PI.d (pi_list pe_D) ?_
    refine he X xo ρ σ H F S _ W tk ?_
    unfold evI at G
    rw [hx] at G ⊢
    exact G
  | ok r ρ1 =>
    unfold evI at G
    rw [hx] at G
    have G : GdR g ρ σ H F (op1 ρ1 r fun d => match items d with
      | some ds => .ok (ds, [r]) ρ1
      | none => .err) (OkI g σ R) W := G
    unfold op1 at G
    split at G
    case h_2 => exact G.elim
    rename_i d l1
    simp only at G
    split at G
    case h_2 => exact G.elim
    rename_i ds hd
    have go : ∀ {R' : VK}, (∀ v H1 F1, Bh g ρ σ H F ρ1 σ H1 F1 → VrRel g ρ1 σ H1 F1 H v r → R' v H1) → DE X e σ H R' := fun K => he X xo ρ σ H F S _ W tk (by rw [hx]; exact fun H' F' b v hv => K v H' F' b hv)
    cases d with
    | lst xs =>
      cases hd
      refine PI.d (pi_list pe_D) (go fun v H1 F1 b hv => ?_)
      rw [xo.rm.K]
      obtain ⟨a, xs, e1, h1, h2⟩ := held_lst b.sim hv l1
      exact ⟨a, e1, ⟨xs, h1⟩, G H1 F1 b _ (.lst h2)⟩
    | scr ns =>
      cases hd
      refine PI.d (pi_list pe_D) (go fun v H1 F1 b hv => ?_)
      rw [xo.rm.K]
      have rd := hv.rdf b.sim l1 ⟨fun _ z => (nomatch z), fun _ _ z => (nomatch z)⟩
      cases rd with
      | scr hq => exact ⟨_, rfl, ⟨_, Same.seq b.sim.sub hq⟩, G H1 F1 b _ (.lst (.seq hq (rds_ints _)))⟩
    | tup xs =>
      cases hd
      refine PI.d (pi_tup pe_D) (go fun v H1 F1 b hv => ?_)
      rw [xo.rm.K]
      have rd := hv.rdf b.sim l1 ⟨fun _ z => (nomatch z), fun _ _ z => (nomatch z)⟩
      cases rd with
      | tup hq rr => exact ⟨_, rfl, ⟨_, Same.seqT b.sim.sub hq⟩, G H1 F1 b _ (.tup hq rr)⟩
    | str l =>
      cases hd
      refine PI.d (pi_str pe_D) (go fun v H1 F1 b hv => ?_)
      obtain ⟨rfl, ok⟩ := (hv.rd b.sim l1).str
      exact ⟨_, rfl, G H1 F1 b _ (.str l ok)⟩
    | _ => cases hd
theorem si_rng1 {tg a : Expr} {ia : E} {p pos : Pos} (hg : glB ct.sc (Str.ofString "range") = true) (hl : ct.gl.lookup (Str.ofString "range") = some .free) (hn : nst a = true) (ha : SE g Φ k ct a ia) : SI g Φ k ct tg (.Call (.Name (Str.ofString "range") p) [a] [] pos) (.rng1 ia) := by
  intro X xo ρ σ H F S R W tk G
  refine PI.d (pi_range1 (glB_ok xo hg) (xo.glob _ _ hl) (pa_cons pe_D pa_nil (star_eq hn)) (star_eq hn)) ?_
  refine ha.go xo S tk G fun v r ρ1 H1 F1 b1 q1 G1 => ?_
  obtain ⟨d, l1, G2⟩ := op1_in G1
  cases d with
  | int j =>
    simp only at G2
    split at G2
    case isFalse => exact G2.elim
    rename_i hz
    refine ⟨j, by rw [(q1.rd b1.sim l1).int], hz.1, hz.2, G2.now b1.sim _ ?_⟩
    have e : rngD 0 j = (List.range j.toNat).map fun (k : Nat) => D.int (0 + k) := by
      unfold rngD
      rw [Int.sub_zero]
    rw [e]
    exact .rng 0 j.toNat
  | _ => exact G2.elim
theorem si_rng2 {tg a b : Expr} {ia ib : E} {p pos : Pos} (hg : glB ct.sc (Str.ofString "range") = true) (hl : ct.gl.lookup (Str.ofString "range") = some .free) (hn : nst a = true) (hn2 : nst b = true) (ha : SE g Φ k ct a ia) (hb : SE g Φ k ct b ib) : SI g Φ k ct tg (.Call (.Name (Str.ofString "range") p) [a, b] [] pos) (.rng2 ia ib) := by
  intro X xo ρ σ H F S R W tk G
  refine PI.d (pi_range2 (glB_ok xo hg) (xo.glob _ _ hl) (pa_cons pe_D (pa_cons pe_D pa_nil (star_eq hn2)) (star_eq hn)) (by rw [star_eq hn, star_eq hn2] <;> rfl) (star_eq hn2)) ?_
  refine ha.go xo S tk G fun v r ρ1 H1 F1 b1 q1 G1 => ?_
  refine hb.go xo b1.sim tk G1 fun u r2 ρ2 H2 F2 b2 q2 G2 => ?_
  obtain ⟨d, l1, G3⟩ := op1_in G2
  obtain ⟨e, l2, G4⟩ := op1_in G3
  cases d with
  | int i =>
    cases e with
    | int j =>
      simp only at G4
      split at G4
      case isFalse => exact G4.elim
      rename_i hz
      refine ⟨i, j, by rw [((q1.later b1.sim b2).rd b2.sim l1).int, (q2.rd b2.sim l2).int], ⟨hz.1, hz.2.1, hz.2.2.1, hz.2.2.2⟩, G4.now b2.sim _ ?_⟩
      exact .rng i (j - i).toNat
    | _ => exact G4.elim
  | _ => exact G4.elim
theorem held_of {v : V} {r : Vr} {d : D} {rows : List D} (S : Sim g ρ σ H F) (h : VrRel g ρ σ H F H0 v r) (l : look ρ r = some d) (e : lstOf d = some rows) : ∃ a xs, v = .ref a ∧ SqL g.K H a xs ∧ HL g (lockS ρ r) σ H F a xs rows := by
  cases d <;> simp only [lstOf] at e <;> cases e
  · exact held_lst S h l
  · have rd := h.rdf S l ⟨fun _ z => (nomatch z), fun _ _ z => (nomatch z)⟩
    cases rd with
    | scr hq => exact ⟨_, _, rfl, Same.seq S.sub hq, .seq hq (rds_ints _)⟩
theorem look_lock {r r2 : Vr} {d : D} (l : look ρ r = some d) : look (lockS ρ r2) r = some d := by
  cases r with
  | v e => exact l
  | o e => exact l
  | s i =>
    unfold look at l ⊢
    simp only at l ⊢
    rcases lock_get (ρ := ρ) (r := r2) i with h | ⟨s, _, h1, h⟩
    · rw [h]; exact l
    · rw [h1] at l
      rw [h]
      exact l
theorem si_enum {a : Expr} {ia : E} {p pos tp : Pos} {elts : List Expr} {kk : Nat} (hg : glB ct.sc (Str.ofString "enumerate") = true) (hl : ct.gl.lookup (Str.ofString "enumerate") = some .free) (hn : nst a = true) (ha : SE g Φ k ct a ia) :
    SI g Φ k ct (.Tuple elts kk tp) (.Call (.Name (Str.ofString "enumerate") p) [a] [] pos) (.enum ia) := by
  intro X xo ρ σ H F S R W tk G
  have hm : X.mg "enumerate" = none := xo.glob _ _ hl
  cases hx : evE Φ ia ρ with
  | err => unfold evI at G; rw [hx] at G; exact G.elim
  | ex x ρ1 =>
    refine PI.d (pi_enum (glB_ok xo hg) hm (pa_cons pe_D pa_nil (star_eq hn)) (star_eq hn)) ?_
    unfold evI at G
    rw [hx] at G
    exact ha X xo ρ σ H F S _ W tk (by rw [hx]; exact G)
  | ok r ρ1 =>
    unfold evI at G
    rw [hx] at G
    have G : GdR g ρ σ H F (op1 ρ1 r fun d => match enumOf d with
      | some ds => .ok (enumD ds, [r]) ρ1
      | none => .err) (OkI g σ R) W := G
    unfold op1 at G
    split at G
    case h_2 => exact G.elim
    rename_i d l1
    have G2 := G
    clear G
    cases he : enumOf d with
    | none => simp only [he] at G2; exact G2.elim
    | some ds =>
    simp only [he] at G2
    have run : ∀ {R' : VK}, (∀ v H1 F1, Bh g ρ σ H F ρ1 σ H1 F1 → VrRel g ρ1 σ H1 F1 H v r → R' v H1) → DE X a σ H R' := fun K => ha X xo ρ σ H F S _ W tk (by rw [hx]; exact fun H' F' b v hv => K v H' F' b hv)
    cases hd : lstOf d with
    | some rows =>
      have hds : ds = rows := by
        cases d <;> simp only [lstOf] at hd <;> simp only [enumOf] at he <;> cases hd <;> cases he <;> rfl
      subst hds
      refine PI.d (pi_enum (glB_ok xo hg) hm (pa_cons pe_D pa_nil (star_eq hn)) (star_eq hn)) ?_
      refine run fun v H1 F1 b hv => ?_
      obtain ⟨c, xs, e1, h1, h2⟩ := held_of b.sim hv l1 hd
      rw [xo.rm.K]
      exact ⟨c, xs, by rw [e1], h1, G2 H1 F1 b _ (.enum h2)⟩
    | none =>
      cases d <;> simp only [enumOf] at he <;> cases he <;> simp only [lstOf] at hd <;> cases hd
      refine PI.d (pi_enumS (glB_ok xo hg) hm (pa_cons pe_D pa_nil (star_eq hn)) (star_eq hn)) ?_
      refine run fun v H1 F1 b hv => ?_
      obtain ⟨rfl, ok⟩ := (hv.rd b.sim l1).str
      exact ⟨_, rfl, G2 H1 F1 b _ (.enumS _ ok)⟩
theorem si_back {tg a : Expr} {ia : E} {p pos : Pos} (hg : glB ct.sc (Str.ofString "reversed") = true) (hl : ct.gl.lookup (Str.ofString "reversed") = some .free) (hn : nst a = true) (ha : SE g Φ k ct a ia) :
    SI g Φ k ct tg (.Call (.Name (Str.ofString "reversed") p) [a] [] pos) (.back ia) := by
  intro X xo ρ σ H F S R W tk G
  have hm : X.mg "reversed" = none := xo.glob _ _ hl
  refine PI.d (pi_reversed (glB_ok xo hg) hm (pa_cons pe_D pa_nil (star_eq hn)) (star_eq hn)) ?_
  refine ha.go xo S tk G fun v r ρ1 H1 F1 b1 q1 G1 => ?_
  obtain ⟨d, l1, G2⟩ := op1_in G1
  cases he : lstOf d with
  | none => simp only [he] at G2; exact G2.elim
  | some rows =>
    simp only [he] at G2
    obtain ⟨c, xs, e1, h1, h2⟩ := held_of b1.sim q1 l1 he
    rw [xo.rm.K]
    exact ⟨c, xs, by rw [e1], h1, G2.now b1.sim _ (.back h2)⟩
theorem si_zip {a b : Expr} {ia ib : E} {p pos tp : Pos} {elts : List Expr} {kk : Nat} (hg : glB ct.sc (Str.ofString "zip") = true) (hl : ct.gl.lookup (Str.ofString "zip") = some .free) (hn : nst a = true) (hn2 : nst b = true) (ha : SE g Φ k ct a ia) (hb : SE g Φ k ct b ib) :
    SI g Φ k ct (.Tuple elts kk tp) (.Call (.Name (Str.ofString "zip") p) [a, b] [] pos) (.zip ia ib) := by
  intro X xo ρ σ H F S R W tk G
  have hm : X.mg "zip" = none := xo.glob _ _ hl
  refine PI.d (pi_zip (glB_ok xo hg) hm (pa_cons pe_D (pa_cons pe_D pa_nil (star_eq hn2)) (star_eq hn)) (star_eq hn) (by rw [star_eq hn2] <;> rfl)) ?_
  refine ha.go xo S tk G fun v r ρ1 H1 F1 b1 q1 G1 => ?_
  refine hb.go xo b1.sim tk G1 fun u r2 ρ2 H2 F2 b2 q2 G2 => ?_
  obtain ⟨d, l1, G3⟩ := op1_in G2
  obtain ⟨e, l2, G4⟩ := op1_in G3
  cases h1 : lstOf d with
  | none => simp only [h1] at G4; exact G4.elim
  | some rows =>
  cases h2 : lstOf e with
  | none => simp only [h1, h2] at G4; exact G4.elim
  | some rows2 =>
    simp only [h1, h2] at G4
    have q1' := q1.later b1.sim b2
    have lk := lock_bh (r := r) b2.sim
    obtain ⟨c, xs, e1, s1, w1⟩ := held_of b2.sim q1' l1 h1
    obtain ⟨c2, ys, e2, s2, w2⟩ := held_of lk.sim (q2.later b2.sim lk) (look_lock l2) h2
    rw [xo.rm.K]
    exact ⟨c, c2, xs, ys, by rw [e1, e2], s1, s2, G4.now b2.sim _ (.zip (w1.step (lock_bh (r := r2) lk.sim).stp) w2)⟩
end
end Ev

set_option Elab.async false
set_option linter.all false
set_option maxRecDepth 100000
set_option maxHeartbeats 1000000
/-! Ev6b: statements. Own work. -/
namespace Ev
open PySem PySem.Spec PyProof.Rows L2
/-- what stands behind a statement -/
structure Bs (g : Gi) (ct : Ct) (ρ : En) (σ : St) (H F : Hp) (ρ' : En) (σ' : St) (H' F' : Hp) : Prop where
  sim : Sim g ρ' σ' H' F'
  stp : Stp ρ σ H F ρ' σ' H' F'
  pv : Pv ρ σ H ρ' σ'
  fx : ∀ i, i < ct.np → i ∉ ct.reb → σ'[i]? = σ[i]?
/-- what is given back -/
def RtRel (g : Gi) (np : Nat) (ρ : En) (σ : St) (H : Hp) (ρ' : En) (σ' : St) (H' F' : Hp) (own : Bool) (d : D) (v : V) : Prop :=
  if own then ∃ a, v = .ref a ∧ F' a = none ∧ Cell g H' F' a d ∧ (∀ j, j < np → ¬ OwnAt ρ' σ' j a) ∧ (H a = none ∨ ∃ i, np ≤ i ∧ OwnAt ρ σ i a) else RD g F' v d
def EndOk (g : Gi) (ct : Ct) (ρ : En) (σ : St) (H : Hp) (ρ' : En) (σ' : St) (H' F' : Hp) (Z : Ends) : Fl → Prop
  | .nx => Z.nx σ' H'
  | .br => Z.bk σ' H'
  | .ct => Z.ct σ' H'
  | .rt own d => ∀ v, RtRel g ct.np ρ σ H ρ' σ' H' F' own d v → Z.rt v H'
def GdS (g : Gi) (ct : Ct) (ρ : En) (σ : St) (H F : Hp) (r : Rs Fl) (Z : Ends) (W : WX) : Prop := match r with
  | .ok c ρ' => ∀ σ' H' F', Bs g ct ρ σ H F ρ' σ' H' F' → EndOk g ct ρ σ H ρ' σ' H' F' Z c
  | .ex x ρ' => ∀ σ' cls d H' F', Bs g ct ρ σ H F ρ' σ' H' F' → XR g F' x cls d → W cls d σ' H'
  | .err => False
section
variable (g : Gi) (Φ : Fns) (k : Nat) (ct : Ct)
def SS (st : Stmt) (ir : S) : Prop := ∀ X, XOk g Φ k ct X → ∀ ρ σ H F, Sim g ρ σ H F → ∀ (Z : Ends) (W : WX), Takes X W → GdS g ct ρ σ H F (evS Φ ct.np ir ρ) Z W → DS X st Z σ H
def SSs (st : List Stmt) (ir : Ss) : Prop := ∀ X, XOk g Φ k ct X → ∀ ρ σ H F, Sim g ρ σ H F → ∀ (Z : Ends) (W : WX), Takes X W → GdS g ct ρ σ H F (evSs Φ ct.np ir ρ) Z W → DSs X st Z σ H
end
section
variable {g : Gi} {Φ : Fns} {k : Nat} {ct : Ct} {X : Cx} {ρ ρ' ρ0 ρ1 ρ2 : En} {σ σ' σ0 σ1 σ2 : St} {H F H' F' H0 F0 H1 F1 H2 F2 : Hp} {W : WX} {Z : Ends}
theorem Bh.s (b : Bh g ρ σ H F ρ' σ H' F') : Bs g ct ρ σ H F ρ' σ H' F' := ⟨b.sim, b.stp, b.pv, fun _ _ _ => rfl⟩
theorem Bs.refl (S : Sim g ρ σ H F) : Bs g ct ρ σ H F ρ σ H F := ⟨S, Stp.refl, Pv.refl, fun _ _ _ => rfl⟩
theorem Bs.trans (a : Bs g ct ρ σ H F ρ1 σ1 H1 F1) (b : Bs g ct ρ1 σ1 H1 F1 ρ2 σ2 H2 F2) : Bs g ct ρ σ H F ρ2 σ2 H2 F2 := ⟨b.sim, a.stp.trans b.stp, a.pv.trans b.pv a.stp.live, fun i h1 h2 => (b.fx i h1 h2).trans (a.fx i h1 h2)⟩
theorem RtRel.before {np : Nat} {own : Bool} {d : D} {v : V} (h : RtRel g np ρ1 σ1 H1 ρ' σ' H' F' own d v) (pv : Pv ρ σ H ρ1 σ1) (l : ∀ b, H b ≠ none → H1 b ≠ none) : RtRel g np ρ σ H ρ' σ' H' F' own d v := by
  unfold RtRel at h ⊢
  split at h
  · rename_i e
    rw [if_pos e]
    obtain ⟨a, h1, h2, h3, h4, h5⟩ := h
    refine ⟨a, h1, h2, h3, h4, ?_⟩
    rcases h5 with h5 | ⟨i, hi, h5⟩
    · exact .inl (none_back l h5)
    · rcases pv.2 i a h5 with z | z
      · exact .inr ⟨i, hi, z⟩
      · exact .inl z
  · rename_i e
    rw [if_neg e]
    exact h
theorem EndOk.later {c : Fl} (h : EndOk g ct ρ σ H ρ' σ' H' F' Z c) (pv : Pv ρ σ H ρ1 σ1) (l : ∀ b, H b ≠ none → H1 b ≠ none) : EndOk g ct ρ1 σ1 H1 ρ' σ' H' F' Z c := by
  cases c with
  | rt own d => exact fun v hv => h v (RtRel.before hv pv l)
  | _ => exact h
theorem GdS.later {r : Rs Fl} (h : GdS g ct ρ σ H F r Z W) (b : Bs g ct ρ σ H F ρ1 σ1 H1 F1) : GdS g ct ρ1 σ1 H1 F1 r Z W := by
  cases r with
  | ok c ρ' => exact fun σ' H' F' b' => (h σ' H' F' (b.trans b')).later b.pv b.stp.live
  | ex x ρ' => exact fun σ' cls d H' F' b' q => h σ' cls d H' F' (b.trans b') q
  | err => exact h
theorem SE.goS {e : Expr} {ir : E} (h : SE g Φ k ct e ir) (xo : XOk g Φ k ct X) (S : Sim g ρ σ H F) (tk : Takes X W) {f : Vr → En → Rs Fl} (G : GdS g ct ρ σ H F ((evE Φ ir ρ).bind f) Z W) {R : VK}
    (K : ∀ v r ρ1 H1 F1, Bh g ρ σ H F ρ1 σ H1 F1 → VrRel g ρ1 σ H1 F1 H v r → GdS g ct ρ σ H F (f r ρ1) Z W → R v H1) : DE X e σ H R := by
  refine h X xo ρ σ H F S R W tk ?_
  cases he : evE Φ ir ρ with
  | ok r ρ1 => rw [he] at G; exact fun H' F' b v hv => K v r ρ1 H' F' b hv G
  | ex x ρ1 => rw [he] at G; exact fun cls d H' F' b q => G σ cls d H' F' b.s q
  | err => rw [he] at G; exact G.elim
theorem ST.goS {e : Expr} {ir : T} (h : ST g Φ k ct e ir) (xo : XOk g Φ k ct X) (S : Sim g ρ σ H F) (tk : Takes X W) {f : Bool → En → Rs Fl} (G : GdS g ct ρ σ H F ((evT Φ ir ρ).bind f) Z W) {R : Bool → Hp → Prop}
    (K : ∀ b ρ1 H1 F1, Bh g ρ σ H F ρ1 σ H1 F1 → GdS g ct ρ σ H F (f b ρ1) Z W → R b H1) : DT X e σ H R := by
  refine h X xo ρ σ H F S R W tk ?_
  cases he : evT Φ ir ρ with
  | ok r ρ1 => rw [he] at G; exact fun H' F' b => K r ρ1 H' F' b G
  | ex x ρ1 => rw [he] at G; exact fun cls d H' F' b q => G σ cls d H' F' b.s q
  | err => rw [he] at G; exact G.elim
theorem SA.goS {es : List Expr} {ir : Es} (h : SA g Φ k ct es ir) (xo : XOk g Φ k ct X) (S : Sim g ρ σ H F) (tk : Takes X W) {f : List Vr → En → Rs Fl} (G : GdS g ct ρ σ H F ((evEs Φ ir ρ).bind f) Z W) {R : List V → Hp → Prop}
    (K : ∀ vs rs ρ1 H1 F1, Bh g ρ σ H F ρ1 σ H1 F1 → VrRels g ρ1 σ H1 F1 H vs rs → GdS g ct ρ σ H F (f rs ρ1) Z W → R vs H1) : DA X es σ H R := by
  refine h X xo ρ σ H F S R W tk ?_
  cases he : evEs Φ ir ρ with
  | ok r ρ1 => rw [he] at G; exact fun H' F' b v hv => K v r ρ1 H' F' b hv G
  | ex x ρ1 => rw [he] at G; exact fun cls d H' F' b q => G σ cls d H' F' b.s q
  | err => rw [he] at G; exact G.elim
theorem SI.goS {tg it : Expr} {ir : Wk} (h : SI g Φ k ct tg it ir) (xo : XOk g Φ k ct X) (S : Sim g ρ σ H F) (tk : Takes X W) {f : List D × List Vr → En → Rs Fl} (G : GdS g ct ρ σ H F ((evI Φ ir ρ).bind f) Z W) {R : It → Hp → Prop}
    (K : ∀ J p ρ1 H1 F1, Bh g ρ σ H F ρ1 σ H1 F1 → Held g (lockL ρ1 p.2) σ H1 F1 J p.1 → GdS g ct ρ σ H F (f p ρ1) Z W → R J H1) : DI X tg it σ H R := by
  refine h X xo ρ σ H F S R W tk ?_
  cases he : evI Φ ir ρ with
  | ok r ρ1 => rw [he] at G; exact fun H' F' b J hv => K J r ρ1 H' F' b hv G
  | ex x ρ1 => rw [he] at G; exact fun cls d H' F' b q => G σ cls d H' F' b.s q
  | err => rw [he] at G; exact G.elim
theorem GdS.now {c : Fl} (G : GdS g ct ρ σ H F (.ok c ρ1) Z W) (b : Bs g ct ρ σ H F ρ1 σ1 H1 F1) : EndOk g ct ρ σ H ρ1 σ1 H1 F1 Z c := G σ1 H1 F1 b

/-! ### stores -/
/-- a new content for a slot -/
def SlNew (g : Gi) (ρ : En) (σ : St) (H F H0 : Hp) (v : V) (s : Sl) : Prop := match s.m with
  | .fz => RD g F v s.d
  | .own => ∃ a, v = .ref a ∧ H0 a = none ∧ F a = none ∧ Cell g H F a s.d ∧ ¬ OwnL ρ σ a
  | .lk => False
def setB (ct : Ct) (i : Nat) : Bool := decide (ct.np ≤ i) || ct.reb.contains i
theorem set_bs {i : Nat} {s : Sl} {v : V} (b : Bs g ct ρ0 σ0 H0 F0 ρ σ H F) (hb : setB ct i = true) (hi : i < ρ.length) (n : SlNew g ρ σ H F H0 v s) : Bs g ct ρ0 σ0 H0 F0 (ρ.set i (some s)) (σ.set i (some v)) H F := by
  have S := b.sim
  have hiσ : i < σ.length := by rw [← S.len]; exact hi
  have hv : (σ.set i (some v))[i]? = some (some v) := by rw [List.getElem?_set_self hiσ]
  have hne : ∀ {j}, i ≠ j → (σ.set i (some v))[j]? = σ[j]? := fun h => List.getElem?_set_ne h
  -- what slot i owns now
  have own : ∀ a, s.m ≠ .fz → v = .ref a → H0 a = none ∧ ¬ OwnL ρ σ a := fun a hm e => by
    unfold SlNew at n
    cases q : s.m with
    | fz => exact absurd q hm
    | lk => rw [q] at n; exact n.elim
    | own =>
      rw [q] at n
      obtain ⟨a', e1, h1, _, _, h2⟩ := n
      rw [e] at e1
      cases e1
      exact ⟨h1, h2⟩
  have at_ : ∀ j a, OwnAt (ρ.set i (some s)) (σ.set i (some v)) j a → OwnAt ρ σ j a ∨ (H0 a = none ∧ ¬ OwnL ρ σ a) := fun j a ⟨t, h1, h2, h3⟩ => by
    rw [get_set hi] at h1
    split at h1
    · rename_i e
      subst e
      cases h1
      rw [hv] at h3
      exact .inr (own a h2 (Option.some.inj (Option.some.inj h3)))
    · rename_i e
      rw [hne e] at h3
      exact .inl ⟨t, h1, h2, h3⟩
  have atm : ∀ j a, OwnM (ρ.set i (some s)) (σ.set i (some v)) j a → OwnM ρ σ j a ∨ H0 a = none := fun j a ⟨t, h1, h2, h3⟩ => by
    rw [get_set hi] at h1
    split at h1
    · rename_i e
      subst e
      cases h1
      rw [hv] at h3
      exact .inr (own a (by rw [h2]; decide) (Option.some.inj (Option.some.inj h3))).1
    · rename_i e
      rw [hne e] at h3
      exact .inl ⟨t, h1, h2, h3⟩
  refine ⟨⟨by rw [List.length_set, List.length_set]; exact S.len, S.sub, fun j t h => ?_, fun j j' t t' a h1 h2 m1 m2 v1 v2 => ?_⟩, ⟨b.stp.fzs, b.stp.fzn, b.stp.mod, b.stp.live, fun c ⟨j, z⟩ => ?_, fun c ⟨j, z⟩ => ?_⟩, ⟨fun j a z => ?_, fun j a z => ?_⟩, fun j h1 h2 => ?_⟩
  · rw [get_set hi] at h
    split at h
    · rename_i e
      subst e
      cases h
      refine ⟨v, hv, ?_⟩
      unfold SlNew at n
      unfold SlRel
      cases q : s.m with
      | fz => rw [q] at n; exact n
      | lk => rw [q] at n; exact n.elim
      | own => rw [q] at n; obtain ⟨a, e, _, h2, h3, _⟩ := n; exact ⟨a, e, h2, h3⟩
    · rename_i e
      obtain ⟨w, h1, h2⟩ := S.val j t h
      exact ⟨w, by rw [hne e]; exact h1, h2⟩
  · rw [get_set hi] at h1 h2
    split at h1
    · rename_i e
      subst e
      cases h1
      rw [hv] at v1
      have nO := (own a m1 (Option.some.inj (Option.some.inj v1))).2
      split at h2
      · assumption
      · rename_i e2
        rw [hne e2] at v2
        exact absurd ⟨j', t', h2, m2, v2⟩ nO
    · rename_i e
      rw [hne e] at v1
      split at h2
      · rename_i e2
        subst e2
        cases h2
        rw [hv] at v2
        exact absurd ⟨j, t, h1, m1, v1⟩ (own a m2 (Option.some.inj (Option.some.inj v2))).2
      · rename_i e2
        rw [hne e2] at v2
        exact S.sep j j' t t' a h1 h2 m1 m2 v1 v2
  · rcases atm j c z with z | z
    · exact b.stp.own c ⟨j, z⟩
    · exact .inr z
  · rcases at_ j c z with z | z
    · exact b.stp.ownl c ⟨j, z⟩
    · exact .inr z.1
  · rcases atm j a z with z | z
    · exact b.pv.1 j a z
    · exact .inr z
  · rcases at_ j a z with z | z
    · exact b.pv.2 j a z
    · exact .inr z.1
  · have ne : i ≠ j := fun e => by
      subst e
      unfold setB at hb
      rw [Bool.or_eq_true, decide_eq_true_eq] at hb
      rcases hb with hb | hb
      · omega
      · exact h2 (by simpa using hb)
    rw [hne ne]
    exact b.fx j h1 h2
/-- another new content stays new -/
theorem SlNew.set {i : Nat} {s t : Sl} {v w : V} (hi : i < ρ.length) (hl : ρ.length = σ.length) (n : SlNew g ρ σ H F H0 w t) (ne : s.m ≠ .fz → t.m ≠ .fz → v ≠ w) : SlNew g (ρ.set i (some s)) (σ.set i (some v)) H F H0 w t := by
  unfold SlNew at n ⊢
  cases q : t.m with
  | fz => rw [q] at n; exact n
  | lk => rw [q] at n; exact n.elim
  | own =>
    rw [q] at n
    obtain ⟨a, e, h1, h2, h3, h4⟩ := n
    refine ⟨a, e, h1, h2, h3, fun ⟨j, u, u1, u2, u3⟩ => ?_⟩
    rw [get_set hi] at u1
    split at u1
    · rename_i z
      subst z
      cases u1
      rw [List.getElem?_set_self (by rw [← hl]; exact hi)] at u3
      refine ne u2 (by rw [q]; decide) ?_
      rw [e]
      exact Option.some.inj (Option.some.inj u3)
    · rename_i z
      rw [List.getElem?_set_ne z] at u3
      exact h4 ⟨j, u, u1, u2, u3⟩
end
end Ev

set_option Elab.async false
set_option linter.all false
set_option maxRecDepth 100000
set_option maxHeartbeats 1000000
/-! Ev6c: the rules of statements. Own work. -/
namespace Ev
open PySem PySem.Spec PyProof.Rows L2
section
variable {g : Gi} {Φ : Fns} {k : Nat} {ct : Ct} {X : Cx} {ρ ρ' ρ0 ρ1 ρ2 : En} {σ σ' σ0 σ1 σ2 : St} {H F H' F' H0 F0 H1 F1 H2 F2 : Hp} {W : WX} {Z : Ends}
theorem store_bs {i : Nat} {r : Vr} {v : V} {u : Unit} (b : Bh g ρ0 σ H0 F0 ρ σ H F) (hb : setB ct i = true) (hv : VrRel g ρ σ H F H0 v r) (h : storeR i r ρ = .ok u ρ') : ∃ F', Bs g ct ρ0 σ H0 F0 ρ' (σ.set i (some v)) H F' := by
  unfold storeR at h
  split at h
  case isFalse => cases h
  rename_i hi
  cases r with
  | v d =>
    cases h
    exact ⟨F, set_bs b.s hb hi hv⟩
  | o d =>
    cases h
    exact ⟨F, set_bs b.s hb hi hv⟩
  | s j =>
    obtain ⟨d, ρ1, hk, h⟩ := bind_ok h
    cases h
    obtain ⟨F1, b1, rd, _, _⟩ := keep_bh b hv hk
    refine ⟨F1, set_bs b1.s hb ?_ rd⟩
    rw [b1.sim.len, ← b.sim.len]
    exact hi
def setσ : List Nat → List V → St → St
  | i :: is, v :: vs, σ => setσ is vs (σ.set i (some v))
  | _, _, σ => σ
inductive SlNews (g : Gi) (ρ : En) (σ : St) (H F H0 : Hp) : List V → List Sl → Prop
  | nil : SlNews g ρ σ H F H0 [] []
  | cons {v vs s ss} : SlNew g ρ σ H F H0 v s → (s.m ≠ .fz → ∀ (i : Nat) (t : Sl), ss[i]? = some t → t.m ≠ .fz → vs[i]? ≠ some v) → SlNews g ρ σ H F H0 vs ss → SlNews g ρ σ H F H0 (v :: vs) (s :: ss)
theorem SlNews.imp {ρ1 : En} {σ1 : St} : ∀ {vs : List V} {ss : List Sl}, SlNews g ρ σ H F H0 vs ss → (∀ (i : Nat) w t, vs[i]? = some w → ss[i]? = some t → SlNew g ρ σ H F H0 w t → SlNew g ρ1 σ1 H F H0 w t) → SlNews g ρ1 σ1 H F H0 vs ss
  | _, _, .nil, _ => .nil
  | _, _, .cons h n t, k => .cons (k 0 _ _ rfl rfl h) n (t.imp fun i w t h1 h2 => k (i + 1) w t (by simpa using h1) (by simpa using h2))
theorem sets_bs : ∀ {is : List Nat} {vs : List V} {ss : List Sl} {ρ ρ' : En} {σ : St}, Bs g ct ρ0 σ0 H0 F0 ρ σ H F → is.all (setB ct) = true → SlNews g ρ σ H F H0 vs ss → setAll is ss ρ = some ρ' → Bs g ct ρ0 σ0 H0 F0 ρ' (setσ is vs σ) H F
  | [], vs, ss, ρ, ρ', σ, b, _, n, h => by
    cases ss with
    | nil =>
      cases h
      cases n
      exact b
    | cons _ _ => cases h
  | i :: is, vs, ss, ρ, ρ', σ, b, hb, n, h => by
    rw [List.all_cons, Bool.and_eq_true] at hb
    cases n with
    | nil => cases h
    | cons h1 hn t =>
      unfold setAll at h
      split at h
      case isFalse => cases h
      rename_i hi
      rename_i v vs s ss
      have t' : SlNews g (ρ.set i (some s)) (σ.set i (some v)) H F H0 vs ss := t.imp fun j w u e1 e2 hw => hw.set hi b.sim.len fun m1 m2 e => hn m1 j u e2 m2 (by rw [e]; exact e1)
      exact sets_bs (is := is) (set_bs b hb.1 hi h1) hb.2 t' h
theorem news_fz : ∀ {vs : List V} {ds : List D}, RDs g F vs ds → SlNews g ρ σ H F H0 vs (ds.map fun d => ⟨.fz, d⟩)
  | _, _, .nil => .nil
  | _, _, .cons h r => .cons h (fun m => absurd rfl m) (news_fz r)
theorem keepSl_bh : ∀ {rs : List Vr} {vs : List V} {ss : List Sl} {ρ ρ' : En} {F : Hp}, Bh g ρ0 σ H0 F0 ρ σ H F → VrRels g ρ σ H F H0 vs rs → keepSl rs ρ = .ok ss ρ' →
    ∃ F', Bh g ρ0 σ H0 F0 ρ' σ H F' ∧ Same F F' ∧ SlNews g ρ' σ H F' H0 vs ss ∧ (∀ (i : Nat) s, ss[i]? = some s → s.m ≠ .fz → ∃ d, rs[i]? = some (.o d)) ∧ ∀ v r, VrRel g ρ σ H F H0 v r → VrRel g ρ' σ H F' H0 v r
  | [], _, _, ρ, _, F, b, .nil, k => by
    cases k
    exact ⟨F, b, Same.refl F, .nil, fun i s h => by simp at h, fun _ _ h => h⟩
  | r :: rs, _, _, ρ, ρ', F, b, .cons h n t, k => by
    unfold keepSl at k
    obtain ⟨a, ρ1, k1, k⟩ := bind_ok k
    obtain ⟨ss, ρ2, k2, k⟩ := bind_ok k
    cases k
    cases r with
    | v d =>
      cases k1
      obtain ⟨F', b', sm, nw, ow, kp⟩ := keepSl_bh b t k2
      refine ⟨F', b', sm, .cons (RD.mono sm h) (fun m => absurd rfl m) nw, fun i s h1 h2 => ?_, kp⟩
      cases i with
      | zero => cases h1; exact absurd rfl h2
      | succ i => obtain ⟨e, he⟩ := ow i s (by simpa using h1) h2; exact ⟨e, by simpa using he⟩
    | o d =>
      cases k1
      obtain ⟨F', b', sm, nw, ow, kp⟩ := keepSl_bh b t k2
      refine ⟨F', b', sm, .cons (kp _ _ h) (fun _ i u e1 e2 => ?_) nw, fun i s h1 h2 => ?_, kp⟩
      · obtain ⟨e, he⟩ := ow i u e1 e2
        exact n d rfl i e he
      · cases i with
        | zero => exact ⟨d, rfl⟩
        | succ i => obtain ⟨e, he⟩ := ow i s (by simpa using h1) h2; exact ⟨e, by simpa using he⟩
    | s j =>
      obtain ⟨d, ρ3, k3, k1⟩ := bind_ok k1
      cases k1
      obtain ⟨F1, b1, rd, sm1, nx⟩ := keep_bh b h k3
      have t1 := t.imp fun i v' r' h1 h2 hv => nx v' r' hv fun e e' e1 => nomatch e1
      obtain ⟨F', b', sm, nw, ow, kp⟩ := keepSl_bh b1 t1 k2
      refine ⟨F', b', sm1.trans sm, .cons (RD.mono sm rd) (fun m => absurd rfl m) nw, fun i s h1 h2 => ?_, fun v' r' hv => kp v' r' (nx v' r' hv fun e e' e1 => nomatch e1)⟩
      cases i with
      | zero => cases h1; exact absurd rfl h2
      | succ i => obtain ⟨e, he⟩ := ow i s (by simpa using h1) h2; exact ⟨e, by simpa using he⟩
theorem keepSl_in {rs : List Vr} {f : List Sl → En → Rs Fl} (G : GdS g ct ρ σ H F ((keepSl rs ρ1).bind f) Z W) : ∃ ss ρ', keepSl rs ρ1 = .ok ss ρ' ∧ GdS g ct ρ σ H F (f ss ρ') Z W := by
  have nx : ∀ (rs : List Vr) (ρ : En) x ρ', keepSl rs ρ ≠ .ex x ρ' := by
    intro rs
    induction rs with
    | nil => intro ρ x ρ' h; cases h
    | cons r rs ih =>
      intro ρ x ρ' h
      have tail : ∀ (a : Sl) (ρ1 : En), ((keepSl rs ρ1).bind fun l ρ => Rs.ok (a :: l) ρ) ≠ .ex x ρ' := fun a ρ1 h => by
        cases hk : keepSl rs ρ1 with
        | ok ds ρ2 => rw [hk] at h; cases h
        | ex y ρ2 => exact ih ρ1 y ρ2 hk
        | err => rw [hk] at h; cases h
      cases r with
      | v d => exact tail _ _ h
      | o d => exact tail _ _ h
      | s j =>
        unfold keepSl at h
        dsimp only at h
        cases hk : keep ρ (.s j) with
        | ok d ρ1 => rw [hk] at h; exact tail _ _ h
        | ex y ρ1 => rw [keep_s] at hk; split at hk <;> cases hk
        | err => rw [hk] at h; cases h
  cases h : keepSl rs ρ1 with
  | ok ds ρ' => rw [h] at G; exact ⟨ds, ρ', rfl, G⟩
  | ex x ρ' => exact absurd h (nx _ _ _ _)
  | err => rw [h] at G; exact G.elim
theorem keep_inS {r : Vr} {f : D → En → Rs Fl} (G : GdS g ct ρ σ H F ((keep ρ1 r).bind f) Z W) : ∃ d ρ', keep ρ1 r = .ok d ρ' ∧ GdS g ct ρ σ H F (f d ρ') Z W := by
  cases h : keep ρ1 r with
  | ok d ρ' => rw [h] at G; exact ⟨d, ρ', rfl, G⟩
  | ex x ρ' =>
    cases r with
    | v d => cases h
    | o d => cases h
    | s i => rw [keep_s] at h; split at h <;> cases h
  | err => rw [h] at G; exact G.elim
theorem op1_inS {x : Vr} {f : D → Rs Fl} (G : GdS g ct ρ σ H F (op1 ρ1 x f) Z W) : ∃ d, look ρ1 x = some d ∧ GdS g ct ρ σ H F (f d) Z W := by
  unfold op1 at G
  split at G
  · rename_i d h1
    exact ⟨d, h1, G⟩
  · exact G.elim

/-! ### targets -/
def locB (ct : Ct) (x : Str) : Bool := match ct.sc.names.lookup x with
  | some .local => true
  | some .cell => ct.fnx x
  | _ => false
theorem locB_ok {x : Str} (h : locB ct x = true) : Loc ct.sc x := by
  unfold locB at h
  split at h
  · rename_i e; exact .inl e
  · rename_i e; exact .inr e
  · cases h
theorem locB_fn (xo : XOk g Φ k ct X) {x : Str} (h : locB ct x = true) : X.fn x = true ∨ X.env.scope.names.lookup x = some .local := by
  rw [xo.sc, xo.fnx]
  unfold locB at h
  split at h
  · rename_i e; exact .inr e
  · exact .inl h
  · cases h
def SG (g : Gi) (Φ : Fns) (k : Nat) (ct : Ct) (tg : Expr) (is : List Nat) : Prop := ∀ X, XOk g Φ k ct X → ∀ ρ0 σ0 H0 F0 ρ σ H F, Bs g ct ρ0 σ0 H0 F0 ρ σ H F → ∀ x d ρ', RD g F x d → assignD is d ρ = some ρ' →
  ∀ R : St → Hp → Prop, (∀ σ', Bs g ct ρ0 σ0 H0 F0 ρ' σ' H F → (∀ vs, (∀ i ∈ is, i ∈ vs) → wipe σ' vs = wipe σ vs) → R σ' H) → DG X tg x σ H R
theorem wipe_set {x : Option V} : ∀ {vs : List Nat} {i : Nat} {σ : St}, i ∈ vs → wipe (σ.set i x) vs = wipe σ vs
  | [], i, σ, h => by cases h
  | v :: vs, i, σ, h => by
    unfold wipe
    by_cases hi : i ∈ vs
    · rw [wipe_set hi]
    · have e : v = i := by
        rcases List.mem_cons.mp h with h | h
        · exact h.symm
        · exact absurd h hi
      subst e
      have out : ∀ {vs : List Nat} {σ : St}, v ∉ vs → wipe (σ.set v x) vs = (wipe σ vs).set v x := by
        intro vs
        induction vs with
        | nil => intro σ _; rfl
        | cons w vs ih =>
          intro σ hn
          unfold wipe
          rw [ih fun z => hn (List.mem_cons_of_mem _ z)]
          exact List.set_comm _ _ fun z => hn (by rw [z]; exact List.mem_cons_self)
      rw [out hi, List.set_set]
theorem wipe_sets : ∀ {is : List Nat} {xs : List V} {σ : St} {vs : List Nat}, (∀ i ∈ is, i ∈ vs) → wipe (setσ is xs σ) vs = wipe σ vs
  | [], _, _, _, _ => rfl
  | _ :: _, [], _, _, _ => rfl
  | i :: is, x :: xs, σ, vs, h => (wipe_sets (is := is) fun j hj => h j (List.mem_cons_of_mem _ hj)).trans (wipe_set (h i List.mem_cons_self))
theorem sg_name {x : Str} {i : Nat} {pos : Pos} (hN : ct.N[i]? = some x) (hl : locB ct x = true) (hb : setB ct i = true) : SG g Φ k ct (.Name x pos) [i] := by
  intro X xo ρ0 σ0 H0 F0 ρ σ H F b v d ρ' rd h R K
  refine PG.d (pg_name xo.nd (by rw [xo.N]; exact hN) (by rw [xo.sc]; exact locB_ok hl) (locB_fn xo hl)) ?_
  unfold assignD at h
  simp only at h
  split at h
  case isFalse => cases h
  rename_i hi
  cases h
  exact K _ (set_bs b hb hi rd) fun vs hv => wipe_set (hv i List.mem_cons_self)
/-- plain names with their slots -/
def namesB (ct : Ct) : List Expr → List Nat → Bool
  | [], [] => true
  | .Name x _ :: es, i :: is => decide (ct.N[i]? = some x) && locB ct x && setB ct i && namesB ct es is
  | _, _ => false
def gNames : List Nat → TGs
  | [] => gNil
  | i :: is => gCons (gName i) (gNames is)
theorem names_pgs (xo : XOk g Φ k ct X) : ∀ {es : List Expr} {is : List Nat}, namesB ct es is = true → PGs X es (gNames is) ∧ (assignEach es X.env).length = es.length ∧ (assignEach es X.env).findIdx? (·.1) = none ∧ es.length = is.length ∧ is.all (setB ct) = true
  | [], [], _ => ⟨pgs_nil, rfl, rfl, rfl, rfl⟩
  | [], _ :: _, h => by cases h
  | e :: es, is, h => by
    cases is with
    | nil => cases e <;> cases h
    | cons i is =>
      cases e <;> first | (cases h; done) | skip
      rename_i x p
      unfold namesB at h
      rw [Bool.and_eq_true, Bool.and_eq_true, Bool.and_eq_true, decide_eq_true_eq] at h
      obtain ⟨⟨⟨h1, h2⟩, h3⟩, h4⟩ := h
      obtain ⟨q1, q2, q3, q4, q5⟩ := names_pgs xo h4
      refine ⟨pgs_cons (pg_name xo.nd (by rw [xo.N]; exact h1) (by rw [xo.sc]; exact locB_ok h2) (locB_fn xo h2)) q1, ?_, ?_, ?_, ?_⟩
      · show (assignEach es X.env).length + 1 = es.length + 1
        rw [q2]
      · show List.findIdx? (·.1) ((false, assign (.Name x p) X.env) :: assignEach es X.env) = none
        rw [List.findIdx?_cons, q3] <;> rfl
      · rw [List.length_cons, List.length_cons, q4]
      · rw [List.all_cons, h3, q5] <;> rfl
theorem gNames_ok : ∀ {is : List Nat} {xs : List V} {σ : St} {Q : St → Hp → Prop}, xs.length = is.length → Q (setσ is xs σ) H → gNames is xs σ H Q
  | [], [], _, _, _, q => ⟨rfl, q⟩
  | [], _ :: _, _, _, h, _ => by cases h
  | _ :: _, [], _, _, h, _ => by cases h
  | i :: is, x :: xs, σ, Q, h, q => ⟨x, xs, rfl, gNames_ok (by simpa using h) q⟩
theorem setAll_len : ∀ {is : List Nat} {ss : List Sl} {ρ ρ' : En}, setAll is ss ρ = some ρ' → is.length = ss.length
  | [], [], _, _, _ => rfl
  | [], _ :: _, _, _, h => by cases h
  | _ :: _, [], _, _, h => by cases h
  | i :: is, s :: ss, ρ, ρ', h => by
    unfold setAll at h
    split at h
    · rw [List.length_cons, List.length_cons, setAll_len h]
    · cases h
theorem tup_go {es : List Expr} {is : List Nat} {j : Nat} {pos : Pos} {x : V} {ds : List D} (xo : XOk g Φ k ct X) (hc : ct.calm = true) (hn : namesB ct es is = true) (b : Bs g ct ρ0 σ0 H0 F0 ρ σ H F) (rd : RD g F x (.tup ds)) (h : setAll is (ds.map fun d => ⟨.fz, d⟩) ρ = some ρ')
    {R : St → Hp → Prop} (K : ∀ σ', Bs g ct ρ0 σ0 H0 F0 ρ' σ' H F → (∀ vs, (∀ i ∈ is, i ∈ vs) → wipe σ' vs = wipe σ vs) → R σ' H) : DG X (.Tuple es j pos) x σ H R := by
  obtain ⟨q1, q2, q3, q4, q5⟩ := names_pgs xo hn
  refine PG.d (pg_tup (xo.rm.calm.trans hc) q1 q2 q3) ?_
  cases rd with
  | tup hq rr =>
    have hl := setAll_len h
    rw [List.length_map] at hl
    refine ⟨_, _, rfl, by rw [xo.rm.K]; exact Same.seqT b.sim.sub hq, by rw [rr.length, q4, hl], gNames_ok (by rw [rr.length, hl]) (K _ (sets_bs b q5 (news_fz rr) h) fun vs hv => wipe_sets hv)⟩
theorem sg_tup {es : List Expr} {is : List Nat} {j : Nat} {pos : Pos} (hc : ct.calm = true) (hn : namesB ct es is = true) (h1 : is.length ≠ 1) : SG g Φ k ct (.Tuple es j pos) is := by
  intro X xo ρ0 σ0 H0 F0 ρ σ H F b v d ρ' rd h R K
  cases d with
  | tup ds =>
    have h' : setAll is (ds.map fun d => ⟨.fz, d⟩) ρ = some ρ' := by
      rcases is with _ | ⟨i, _ | ⟨i', is⟩⟩
      · exact h
      · exact absurd rfl h1
      · exact h
    exact tup_go xo hc hn b rd h' K
  | _ =>
    exfalso
    rcases is with _ | ⟨i, _ | ⟨i', is⟩⟩
    · cases h
    · exact h1 rfl
    · cases h
end
end Ev

set_option Elab.async false
set_option linter.all false
set_option maxRecDepth 100000
set_option maxHeartbeats 1000000
/-! Ev6d: the rules of statements, part two. Own work. -/
namespace Ev
open PySem PySem.Spec PyProof.Rows L2
section
variable {g : Gi} {Φ : Fns} {k : Nat} {ct : Ct} {X : Cx} {ρ ρ' ρ0 ρ1 ρ2 : En} {σ σ' σ0 σ1 σ2 : St} {H F H' F' H0 F0 H1 F1 H2 F2 : Hp} {W : WX} {Z : Ends}
theorem SE.goT {e : Expr} {ir : E} (h : SE g Φ k ct e ir) (xo : XOk g Φ k ct X) (b0 : Bs g ct ρ0 σ0 H0 F0 ρ σ H F) (tk : Takes X W) {f : Vr → En → Rs Fl} (G : GdS g ct ρ0 σ0 H0 F0 ((evE Φ ir ρ).bind f) Z W) {R : VK}
    (K : ∀ v r ρ1 H1 F1, Bh g ρ σ H F ρ1 σ H1 F1 → VrRel g ρ1 σ H1 F1 H v r → GdS g ct ρ0 σ0 H0 F0 (f r ρ1) Z W → R v H1) : DE X e σ H R := by
  refine h X xo ρ σ H F b0.sim R W tk ?_
  cases he : evE Φ ir ρ with
  | ok r ρ1 => rw [he] at G; exact fun H' F' b v hv => K v r ρ1 H' F' b hv G
  | ex x ρ1 => rw [he] at G; exact fun cls d H' F' b q => G σ cls d H' F' (b0.trans b.s) q
  | err => rw [he] at G; exact G.elim
theorem assign_sub {o i : Expr} {p : Pos} {env : Env} (h : plainIxB i = true) : ∀ v, assign (.Subscript o i p) env v = (do
      let ov ← holding [v] (eval o env)
      let iv ← holding [v, ov] (eval i env)
      standAt p
      holding [v, ov, iv] (setItem ov iv v)
      release [v, ov, iv] []) := by
  intro v
  cases i <;> first | (cases h; done) | rfl
/-! ### one statement -/
def noComp : Expr → Bool
  | .ListComp _ _ _ _ => false
  | .SetComp _ _ _ _ => false
  | .DictComp _ _ _ _ _ => false
  | _ => true
theorem swaps_no {e : Expr} {t : Option Expr} {l : Nat} {env : Env} (h : noComp e = true) : swapsWith e t l env = pure false := by
  cases e <;> first | (cases h; done) | rfl
theorem swaps_sole {e : Expr} {t : Expr} {l : Nat} {env : Env} (h : noComp e = true) : swapsWithSole [t] e l env = pure false := swaps_no (t := some t) h
theorem ss_expr {e : Expr} {ie : E} {pos : Pos} (hc : noComp e = true) (he : SE g Φ k ct e ie) : SS g Φ k ct (.Expr e pos) (.expr ie) := by
  intro X xo ρ σ H F S Z W tk G
  refine PS.d (ps_expr pe_D (swaps_no hc)) ?_
  exact he.goS xo S tk G fun v r ρ1 H1 F1 b q G1 => G1.now b.s
theorem ss_pass {pos : Pos} : SS g Φ k ct (.Pass pos) .pass := by
  intro X xo ρ σ H F S Z W tk G
  exact PS.d ps_pass (G.now (Bs.refl S))
theorem ss_brk {pos : Pos} : SS g Φ k ct (.Break pos) .brk := by
  intro X xo ρ σ H F S Z W tk G
  exact PS.d ps_break (G.now (Bs.refl S))
theorem ss_cont {pos : Pos} : SS g Φ k ct (.Continue pos) .cont := by
  intro X xo ρ σ H F S Z W tk G
  exact PS.d ps_continue (G.now (Bs.refl S))
theorem ss_set {x : Str} {i : Nat} {e : Expr} {ie : E} {p pos : Pos} (hc : noComp e = true) (hN : ct.N[i]? = some x) (hl : locB ct x = true) (hb : setB ct i = true) (he : SE g Φ k ct e ie) : SS g Φ k ct (.Assign [.Name x p] e pos) (.set i ie) := by
  intro X xo ρ σ H F S Z W tk G
  refine PS.d (ps_set xo.nd (by rw [xo.N]; exact hN) (by rw [xo.sc]; exact locB_ok hl) pe_D (swaps_no hc) (locB_fn xo hl)) ?_
  refine he.goS xo S tk G fun v r ρ1 H1 F1 b q G1 => ?_
  cases hs : storeR i r ρ1 with
  | ok u ρ2 =>
    rw [hs] at G1
    obtain ⟨F2, b2⟩ := store_bs b hb q hs
    exact G1.now b2
  | ex x ρ2 =>
    exfalso
    unfold storeR at hs
    split at hs
    · cases r with
      | v d => cases hs
      | o d => cases hs
      | s j =>
        dsimp only at hs
        rw [keep_s] at hs
        cases hg : ρ1.get j with
        | none => rw [hg] at hs; cases hs
        | some s => rw [hg] at hs; cases hs
    · cases hs
  | err => rw [hs] at G1; exact G1.elim
theorem ss_put {o i e : Expr} {io ii ie : E} {p pos : Pos} (hc : noComp e = true) (hp : plainIxB i = true) (ho : SE g Φ k ct o io) (hi : SE g Φ k ct i ii) (he : SE g Φ k ct e ie) : SS g Φ k ct (.Assign [.Subscript o i p] e pos) (.put io ii ie) := by
  intro X xo ρ σ H F S Z W tk G
  refine PS.d (ps_asg pe_D (pg_sub pe_D pe_D set_list (assign_sub hp)) (swaps_sole hc)) ?_
  refine he.goS xo S tk G fun z r ρ1 H1 F1 b1 q1 G1 => ?_
  refine ho.goT xo b1.s tk G1 fun x rx ρ2 H2 F2 b2 q2 G2 => ?_
  refine hi.goT xo (b1.trans b2).s tk G2 fun y ry ρ3 H3 F3 b3 q3 G3 => ?_
  have b13 := (b1.trans b2).trans b3
  obtain ⟨d, ρ4, hk, G4⟩ := keep_inS G3
  obtain ⟨F4, b4, rd, _, nx⟩ := keep_bh b13 ((q1.later b1.sim b2).later b2.sim b3) hk
  obtain ⟨kd, l1, G5⟩ := op1_inS G4
  cases rx with
  | v d => exact G5.elim
  | o d => exact G5.elim
  | s j =>
    dsimp only at G5
    split at G5
    · rename_i xs n hg
      split at G5
      case h_2 => exact G5.elim
      rename_i m hm
      -- the index
      have hy : y = .int n := by
        have q3' := nx y ry (q3.before fun c z => b2.stp.live c (b1.stp.live c z)) fun e e' e1 e2 => by
          subst e2
          unfold look at l1
          cases l1
          obtain ⟨a, _, _, _, c, _⟩ := q3
          rcases c with ⟨_, _, z, _⟩ | ⟨_, _, _, z, _⟩ <;> cases z
        exact (q3'.rd b4.sim l1).int
      have hσ := q2.1
      obtain ⟨w, e1, r2⟩ := b4.sim.val j _ hg
      rw [hσ] at e1
      cases e1
      obtain ⟨l, rfl, nl, c⟩ := r2
      rcases c with ⟨ws, ds, e2, hl, rr⟩ | ⟨_, _, _, e2, _⟩
      · cases e2
        refine ⟨l, ws, n, m, rfl, hy, hl, ?_, ?_⟩
        · rw [rr.length]
          exact hm
        · exact G5.now (b4.trans (mut_bh b4.sim hg hσ nl (.inl ⟨_, _, rfl, upd_same, rr.set rd m⟩))).s
      · cases e2
    · exact G5.elim
theorem ss_ret {e : Expr} {ie : E} {pos : Pos} (he : SE g Φ k ct e ie) : SS g Φ k ct (.Return (some e) pos) (.ret ie) := by
  intro X xo ρ σ H F S Z W tk G
  refine PS.d (ps_ret pe_D) ?_
  refine he.goS xo S tk G fun v r ρ1 H1 F1 b q G1 => ?_
  have kept : ∀ (d : D) (i : Nat) (hr : r = .s i), GdS g ct ρ σ H F ((keep ρ1 (.s i)).bind fun d ρ => .ok (.rt false d) ρ) Z W → Z.rt v H1 := fun d i hr G2 => by
    subst hr
    obtain ⟨d', ρ2, hk, G3⟩ := keep_inS G2
    obtain ⟨F2, b2, rd, _⟩ := keep_bh b q hk
    exact G3.now b2.s v rd
  cases r with
  | v d => exact G1.now b.s v q
  | o d =>
    refine G1.now b.s v ?_
    obtain ⟨a, e, n0, n, c, no⟩ := q
    exact ⟨a, e, n, c, fun j _ z => no ⟨j, z⟩, .inl n0⟩
  | s i =>
    dsimp only at G1
    split at G1
    · rename_i d hg
      split at G1
      · exact kept d i rfl G1
      · rename_i hi
        refine G1.now b.s v ?_
        obtain ⟨w, e, rr⟩ := b.sim.val i _ hg
        rw [q.1] at e
        cases e
        obtain ⟨a, e1, n, c⟩ := rr
        subst e1
        refine ⟨a, rfl, n, c, fun j hj ⟨t, t1, t2, t3⟩ => ?_, ?_⟩
        · have := b.sim.sep i j _ t a hg t1 own_ne t2 q.1 t3
          omega
        · rcases b.pv.2 i a ⟨_, hg, own_ne, q.1⟩ with z | z
          · exact .inr ⟨i, by omega, z⟩
          · exact .inl z
    · exact kept .non i rfl G1
theorem ss_iff {c : Expr} {p q : List Stmt} {ic : T} {ip iq : Ss} {pos : Pos} (hc : ST g Φ k ct c ic) (hp : SSs g Φ k ct p ip) (hq : SSs g Φ k ct q iq) : SS g Φ k ct (.If c p q pos) (.iff ic ip iq) := by
  intro X xo ρ σ H F S Z W tk G
  refine PS.d (ps_if pt_D pss_D pss_D) ?_
  refine hc.goS xo S tk G fun t ρ1 H1 F1 b G1 => ?_
  cases t with
  | true => exact hp X xo ρ1 σ H1 F1 b.sim Z W tk (G1.later b.s)
  | false => exact hq X xo ρ1 σ H1 F1 b.sim Z W tk (G1.later b.s)
theorem sss_nil : SSs g Φ k ct [] .nil := by
  intro X xo ρ σ H F S Z W tk G
  exact PSs.d pss_nil (G.now (Bs.refl S))
theorem sss_cons {s : Stmt} {ss : List Stmt} {is : S} {iss : Ss} (h1 : SS g Φ k ct s is) (h2 : SSs g Φ k ct ss iss) : SSs g Φ k ct (s :: ss) (.cons is iss) := by
  intro X xo ρ σ H F S Z W tk G
  refine PSs.d (pss_cons ps_D pss_D) ?_
  show DS X s { Z with nx := fun σ1 H1 => DSs X ss Z σ1 H1 } σ H
  refine h1 X xo ρ σ H F S _ W tk ?_
  unfold evSs at G
  cases he : evS Φ ct.np is ρ with
  | ok c ρ1 =>
    rw [he] at G
    intro σ1 H1 F1 b
    cases c with
    | nx => exact h2 X xo ρ1 σ1 H1 F1 b.sim Z W tk (GdS.later G b)
    | br => exact GdS.now (W := W) (Z := Z) G b
    | ct => exact GdS.now (W := W) (Z := Z) G b
    | rt o d => exact GdS.now (W := W) (Z := Z) G b
  | ex x ρ1 => rw [he] at G; exact G
  | err => rw [he] at G; exact G.elim
/-! ### two or three names at once -/
def swS (sc : Scope) (ts vs : List Expr) : Option (Option (List Str)) :=
  if (!(ts.length == 2 || ts.length == 3) || vs.length != ts.length) = true then some none else
  if (vs.any fun | .Starred .. => true | _ => false) = true then some none else
  let line := (ts.head?.map (·.pos.line)).getD 0
  let names := ts.filterMap fun
    | .Name id pos => if sc.names.lookup id == some .local && pos.line == line then some id else none
    | _ => none
  if (names.length != ts.length || names.eraseDups.length != names.length) = true then some none else
  if vs.all (foldedForSure 8) = true then some none else
  if vs.all (constantsAlone 8) = true then none else some (some names)
theorem swS_ok {env : Env} {ts vs : List Expr} {a b : Nat} {p q : Pos} {r : Option (List Str)} (hk : env.scope.kind = .function) (h : swS env.scope ts vs = some r) : swappedStores [.Tuple ts a p] (.Tuple vs b q) env = pure r := by
  have hb : (env.blockKind != .function) = false := by unfold Env.blockKind; rw [hk] <;> rfl
  unfold swS at h
  unfold swappedStores
  simp only [hb, Bool.or_false]
  split at h
  · rename_i e; cases h; exact if_pos e
  rename_i e1
  refine (if_neg e1).trans ?_
  split at h
  · rename_i e; cases h; exact if_pos e
  rename_i e2
  refine (if_neg e2).trans ?_
  simp only at h
  split at h
  · rename_i e; cases h; exact if_pos e
  rename_i e3
  refine (if_neg e3).trans ?_
  split at h
  · rename_i e; cases h; exact if_pos e
  rename_i e4
  refine (if_neg e4).trans ?_
  split at h
  · cases h
  rename_i e5
  refine (if_neg e5).trans ?_
  cases h
  rfl
end
end Ev

set_option Elab.async false
set_option linter.all false
set_option maxRecDepth 100000
set_option maxHeartbeats 1000000
/-! Ev6e: several names at once, loops. Own work. -/
namespace Ev
open PySem PySem.Spec PyProof.Rows L2
section
variable {g : Gi} {Φ : Fns} {k : Nat} {ct : Ct} {X : Cx} {ρ ρ' ρ0 ρ1 ρ2 : En} {σ σ' σ0 σ1 σ2 : St} {H F H' F' H0 F0 H1 F1 H2 F2 : Hp} {W : WX} {Z : Ends}
def lclB (ct : Ct) (x : Str) (i : Nat) : Bool := decide (ct.N[i]? = some x) && decide (ct.sc.names.lookup x = some .local) && setB ct i
theorem lclB_ok {x : Str} {i : Nat} (h : lclB ct x i = true) : ct.N[i]? = some x ∧ ct.sc.names.lookup x = some .local ∧ setB ct i = true := by
  unfold lclB at h
  rw [Bool.and_eq_true, Bool.and_eq_true, decide_eq_true_eq, decide_eq_true_eq] at h
  exact ⟨h.1.1, h.1.2, h.2⟩
theorem swS_ct (xo : XOk g Φ k ct X) (I : X.Ok) {ts vs : List Expr} {a b : Nat} {p q : Pos} {r : Option (List Str)} (h : swS ct.sc ts vs = some r) : swappedStores [.Tuple ts a p] (.Tuple vs b q) X.env = pure r :=
  swS_ok I.kind (by rw [xo.sc]; exact h)
theorem par_core {is : List Nat} {es : List Expr} {ies : Es} (xo : XOk g Φ k ct X) (S : Sim g ρ σ H F) (tk : Takes X W) (hb : is.all (setB ct) = true) (hs : SA g Φ k ct es ies) (G : GdS g ct ρ σ H F (evS Φ ct.np (.par is ies) ρ) Z W) : DA X es σ H fun vs H1 => vs.length = is.length ∧ Z.nx (setσ is vs σ) H1 := by
  refine hs.goS xo S tk G fun vs rs ρ1 H1 F1 b q G1 => ?_
  obtain ⟨ss, ρ2, hk, G2⟩ := keepSl_in G1
  obtain ⟨F2, b2, _, nw, _, _⟩ := keepSl_bh b q hk
  split at G2
  case h_2 => exact G2.elim
  rename_i ρ3 h3
  have hl : vs.length = ss.length := by
    have : ∀ {vs : List V} {ss : List Sl}, SlNews g ρ2 σ H1 F2 H vs ss → vs.length = ss.length := fun {vs ss} n => by
      induction n with
      | nil => rfl
      | cons _ _ _ ih => rw [List.length_cons, List.length_cons, ih]
    exact this nw
  exact ⟨by rw [hl, setAll_len h3], G2.now (sets_bs b2.s hb nw h3)⟩
theorem ss_par2 {x y : Str} {i j : Nat} {a b : Expr} {ies : Es} {px py pt pt2 pos : Pos} {kt k2 : Nat} (hc : ct.calm = true) (hx : lclB ct x i = true) (hy : lclB ct y j = true) (hij : i ≠ j) (hs : SA g Φ k ct [a, b] ies)
    (hw : swS ct.sc [.Name x px, .Name y py] [a, b] = some (some [x, y])) : SS g Φ k ct (.Assign [.Tuple [.Name x px, .Name y py] kt pt] (.Tuple [a, b] k2 pt2) pos) (.par [i, j] ies) := by
  intro X xo ρ σ H F S Z W tk G pins s I
  obtain ⟨x1, x2, x3⟩ := lclB_ok hx
  obtain ⟨y1, y2, y3⟩ := lclB_ok hy
  have main := par_core (is := [i, j]) xo S tk (by rw [List.all_cons, List.all_cons, x3, y3] <;> rfl) hs G
  refine PS.d (ps_par (xo.rm.calm.trans hc) xo.nd (by rw [xo.N]; exact x1) (by rw [xo.N]; exact y1) hij (by rw [xo.sc]; exact x2) (by rw [xo.sc]; exact y2) pa_D (swS_ct xo I.ok hw)) ?_ pins s I
  refine fun pos pins s I => thn (main pos pins s I) fun us s1 ⟨vs, H1, I1, r, hl, q⟩ => ⟨vs, H1, I1, r, ?_⟩
  match vs, hl, q with
  | [v, w], _, q => exact ⟨v, w, rfl, q⟩
theorem ss_par3 {x y z : Str} {i j l : Nat} {a b c : Expr} {ies : Es} {px py pz pt pt2 pos : Pos} {kt k2 : Nat} (hc : ct.calm = true) (hx : lclB ct x i = true) (hy : lclB ct y j = true) (hz : lclB ct z l = true) (hij : i ≠ j) (hil : i ≠ l) (hjl : j ≠ l) (hs : SA g Φ k ct [a, b, c] ies)
    (hw : swS ct.sc [.Name x px, .Name y py, .Name z pz] [a, b, c] = some (some [x, y, z])) : SS g Φ k ct (.Assign [.Tuple [.Name x px, .Name y py, .Name z pz] kt pt] (.Tuple [a, b, c] k2 pt2) pos) (.par [i, j, l] ies) := by
  intro X xo ρ σ H F S Z W tk G pins s I
  obtain ⟨x1, x2, x3⟩ := lclB_ok hx
  obtain ⟨y1, y2, y3⟩ := lclB_ok hy
  obtain ⟨z1, z2, z3⟩ := lclB_ok hz
  have main := par_core (is := [i, j, l]) xo S tk (by rw [List.all_cons, List.all_cons, List.all_cons, x3, y3, z3] <;> rfl) hs G
  refine PS.d (ps_par3 (xo.rm.calm.trans hc) xo.nd (by rw [xo.N]; exact x1) (by rw [xo.N]; exact y1) (by rw [xo.N]; exact z1) hij hil hjl (by rw [xo.sc]; exact x2) (by rw [xo.sc]; exact y2) (by rw [xo.sc]; exact z2) pa_D (swS_ct xo I.ok hw)) ?_ pins s I
  refine fun pos pins s I => thn (main pos pins s I) fun us s1 ⟨vs, H1, I1, r, hl, q⟩ => ⟨vs, H1, I1, r, ?_⟩
  match vs, hl, q with
  | [v, w, u], _, q => exact ⟨v, w, u, rfl, q⟩
/-- one value for several names -/
theorem unp_core {is : List Nat} {es : List Expr} {j : Nat} {p : Pos} {e : Expr} {ie : E} (xo : XOk g Φ k ct X) (hc : ct.calm = true) (hn : namesB ct es is = true) (S : Sim g ρ σ H F) (tk : Takes X W) (he : SE g Φ k ct e ie) (G : GdS g ct ρ σ H F (evS Φ ct.np (.unp is ie) ρ) Z W) :
    tAsg (DE X e) (DG X (.Tuple es j p)) Z σ H := by
  refine he.goS xo S tk G fun v r ρ1 H1 F1 b q G1 => ?_
  obtain ⟨d, l1, G2⟩ := op1_inS G1
  cases d with
  | tup ds =>
    dsimp only at G2
    split at G2
    case h_2 => exact G2.elim
    rename_i ρ2 h2
    exact tup_go xo hc hn b.s (q.rdf b.sim l1 ⟨fun _ z => (nomatch z), fun _ _ z => (nomatch z)⟩) h2 fun σ' b' _ => G2.now b'
  | _ => exact G2.elim
def noTup : Expr → Bool
  | .Tuple _ _ _ => false
  | _ => true
theorem ss_unp {is : List Nat} {es : List Expr} {j : Nat} {p pos : Pos} {e : Expr} {ie : E} (hc : ct.calm = true) (hn : namesB ct es is = true) (hv : noComp e = true) (ht : noTup e = true) (he : SE g Φ k ct e ie) : SS g Φ k ct (.Assign [.Tuple es j p] e pos) (.unp is ie) := by
  intro X xo ρ σ H F S Z W tk G
  refine PS.d (ps_asg pe_D pg_D (swaps_sole hv) (by cases e <;> first | (cases ht; done) | rfl)) ?_
  exact unp_core xo hc hn S tk he G
theorem ss_unpT {is : List Nat} {es vs : List Expr} {j l : Nat} {p q pos : Pos} {ie : E} (hc : ct.calm = true) (hn : namesB ct es is = true) (hw : swS ct.sc es vs = some none) (he : SE g Φ k ct (.Tuple vs l q) ie) : SS g Φ k ct (.Assign [.Tuple es j p] (.Tuple vs l q) pos) (.unp is ie) := by
  intro X xo ρ σ H F S Z W tk G pins s I
  refine PS.d (ps_asg pe_D pg_D (swaps_sole rfl) (swS_ct xo I.ok hw)) ?_ pins s I
  exact unp_core xo hc hn S tk he G

/-- a tuple that is thrown away: what it held is one's own still -/
theorem SlNews.up {a : Addr} {o : HO} (n : H a = none) : ∀ {vs : List V} {ss : List Sl}, SlNews g ρ σ H F H0 vs ss → SlNews g ρ σ (upd H a o) F H0 vs ss
  | _, _, .nil => .nil
  | _, _, .cons h q t => by
    refine .cons ?_ q (SlNews.up n t)
    rename_i v vs s ss
    unfold SlNew at h ⊢
    cases hm : s.m with
    | fz => rw [hm] at h; exact h
    | lk => rw [hm] at h; exact h
    | own =>
      rw [hm] at h
      obtain ⟨b, e, h1, h2, h3, h4⟩ := h
      refine ⟨b, e, h1, h2, h3.mono (Same.refl F) ?_, h4⟩
      exact upd_ne fun z => h3.there (by rw [z]; exact n)
theorem ss_parT {is : List Nat} {es vs : List Expr} {j l : Nat} {p q pos : Pos} {ies : Es} (hc : ct.calm = true) (hn : namesB ct es is = true) (hlen : is.length ≤ 9) (hw : swS ct.sc es vs = some none) (hs : SA g Φ k ct vs ies) : SS g Φ k ct (.Assign [.Tuple es j p] (.Tuple vs l q) pos) (.par is ies) := by
  intro X xo ρ σ H F S Z W tk G pins s I
  refine PS.d (ps_asg (pe_tup pa_D) pg_D (swaps_sole rfl) (swS_ct xo I.ok hw)) ?_ pins s I
  refine hs.goS xo S tk G fun us rs ρ1 H1 F1 b q1 G1 => ?_
  obtain ⟨ss, ρ2, hk, G2⟩ := keepSl_in G1
  obtain ⟨F2, b2, _, nw, _, _⟩ := keepSl_bh b q1 hk
  split at G2
  case h_2 => exact G2.elim
  rename_i ρ3 h3
  have hl : us.length = ss.length := by
    have : ∀ {vs : List V} {ss : List Sl}, SlNews g ρ2 σ H1 F2 H vs ss → vs.length = ss.length := fun {vs ss} n => by
      induction n with
      | nil => rfl
      | cons _ _ _ ih => rw [List.length_cons, List.length_cons, ih]
    exact this nw
  have hl2 := setAll_len h3
  have hz : (9 : Nat) ≤ sizeLine := by decide
  refine ⟨by omega, fun a ha => ?_⟩
  have junk : Res g H1 F2 (.v .non) .non (upd H1 a (.tup us)) := ⟨F2, Same.refl F2, fun _ z => .inl z, same_upd ha, b2.sim.sub.trans (same_upd ha), .non⟩
  obtain ⟨F3, S3, st3, _⟩ := b2.sim.res junk
  have b3 : Bh g ρ σ H F ρ2 σ (upd H1 a (.tup us)) F2 := by
    have hsim : Sim g ρ2 σ (upd H1 a (.tup us)) F2 := ⟨b2.sim.len, b2.sim.sub.trans (same_upd ha), fun i t hi => by
      obtain ⟨w, e1, e2⟩ := b2.sim.val i t hi
      refine ⟨w, e1, e2.mono (Same.refl F2) fun c hm hv => ?_⟩
      subst hv
      have ow := b2.sim.ownL ⟨i, t, hi, hm, e1⟩
      exact ⟨ow.2, upd_ne fun z => ow.1 (by rw [z]; exact ha)⟩, b2.sim.sep⟩
    refine ⟨hsim, b2.stp.trans ⟨Same.refl F2, fun _ z => .inl z, fun c o z n => by rw [upd_ne fun y => by rw [y, ha] at z; cases z]; exact z, fun c z => ?_, fun c z => .inl z, fun c z => .inl z⟩, b2.kp, b2.pv⟩
    by_cases hcc : c = a
    · subst hcc; exact absurd ha z
    · rw [upd_ne hcc]; exact z
  obtain ⟨p1, p2, p3, p4, p5⟩ := names_pgs xo hn
  refine PG.d (pg_tup (xo.rm.calm.trans hc) p1 p2 p3) ?_
  refine ⟨a, us, rfl, .inl (.inl upd_same), by rw [p4]; omega, gNames_ok (by omega) (G2.now (sets_bs b3.s p5 (SlNews.up ha nw) h3))⟩

/-! ### locks taken off -/
theorem unlock_of {r : Vr} : unlockS ρ1 ρ r = ρ ∨ ∃ i s0 s, r = .s i ∧ ρ1.get i = some s0 ∧ ρ.get i = some s ∧ s.m = s0.m.lock ∧ unlockS ρ1 ρ r = ρ.set i (some ⟨s0.m, s.d⟩) := by
  cases r with
  | v d => exact .inl rfl
  | o d => exact .inl rfl
  | s i =>
    have e : unlockS ρ1 ρ (.s i) = (match ρ1.get i, ρ.get i with
      | some s0, some s => if s.m = s0.m.lock then ρ.set i (some ⟨s0.m, s.d⟩) else ρ
      | _, _ => ρ) := rfl
    cases h0 : ρ1.get i with
    | none => rw [e, h0]; exact .inl rfl
    | some s0 =>
      cases h1 : ρ.get i with
      | none => rw [e, h0, h1]; exact .inl rfl
      | some s =>
        rw [e, h0, h1]
        by_cases hm : s.m = s0.m.lock
        · exact .inr ⟨i, s0, s, rfl, h0, h1, hm, if_pos hm⟩
        · exact .inl (if_neg hm)
theorem unlock_bs {r : Vr} (b1 : Bs g ct ρ0 σ0 H0 F0 ρ1 σ1 H1 F1) (b2 : Bs g ct (lockS ρ1 r) σ1 H1 F1 ρ σ H F) : Bs g ct ρ0 σ0 H0 F0 (unlockS ρ1 ρ r) σ H F := by
  have bl : Bs g ct ρ0 σ0 H0 F0 (lockS ρ1 r) σ1 H1 F1 := b1.trans (lock_bh b1.sim).s
  have b := bl.trans b2
  rcases unlock_of (ρ1 := ρ1) (ρ := ρ) (r := r) with e | ⟨i, s0, s, rfl, h0, h1, hm, e⟩
  · rw [e]; exact b
  · rw [e]
    have hi := get_lt h1
    have mm : s.m ≠ .fz ↔ s0.m ≠ .fz := by rw [hm]; exact lock_ne
    have hl : (lockS ρ1 (.s i)).get i = some ⟨s0.m.lock, s0.d⟩ := by rw [lockS_some h0]; exact get_set_same (get_lt h0)
    have ol : ∀ j a, OwnAt (ρ.set i (some ⟨s0.m, s.d⟩)) σ j a → OwnAt ρ σ j a := fun j a ⟨t, q1, q2, q3⟩ => by
      rw [get_set hi] at q1
      split at q1
      · rename_i z
        subst z
        cases q1
        exact ⟨s, h1, mm.mpr q2, q3⟩
      · exact ⟨t, q1, q2, q3⟩
    have om : ∀ j a, OwnM (ρ.set i (some ⟨s0.m, s.d⟩)) σ j a → OwnM ρ0 σ0 j a ∨ H0 a = none := fun j a ⟨t, q1, q2, q3⟩ => by
      rw [get_set hi] at q1
      split at q1
      · rename_i z
        subst z
        cases q1
        have q2 : s0.m = .own := q2
        rcases b2.pv.2 i a ⟨s, h1, mm.mpr (by rw [q2]; decide), q3⟩ with ⟨t', w1, w2, w3⟩ | z
        · exact b1.pv.1 i a ⟨s0, h0, q2, w3⟩
        · exact .inr (none_back b1.stp.live z)
      · exact b.pv.1 j a ⟨t, q1, q2, q3⟩
    refine ⟨⟨by rw [List.length_set]; exact b.sim.len, b.sim.sub, fun j t h => ?_, fun j j' t t' a q1 q2 m1 m2 v1 v2 => ?_⟩, ⟨b.stp.fzs, b.stp.fzn, b.stp.mod, b.stp.live, fun c ⟨j, z⟩ => ?_, fun c ⟨j, z⟩ => b.stp.ownl c ⟨j, ol j c z⟩⟩, ⟨om, fun j a z => b.pv.2 j a (ol j a z)⟩, b.fx⟩
    · rw [get_set hi] at h
      split at h
      · rename_i z
        subst z
        cases h
        obtain ⟨v, e1, q⟩ := b.sim.val i s h1
        exact ⟨v, e1, q.md rfl mm.symm⟩
      · exact b.sim.val j t h
    · have back : ∀ j t, En.get (ρ.set i (some ⟨s0.m, s.d⟩)) j = some t → t.m ≠ .fz → ∃ u, ρ.get j = some u ∧ u.m ≠ .fz := fun j t q m => by
        rw [get_set hi] at q
        split at q
        · rename_i z
          subst z
          cases q
          exact ⟨s, h1, mm.mpr m⟩
        · exact ⟨t, q, m⟩
      obtain ⟨u, u1, u2⟩ := back j t q1 m1
      obtain ⟨u', w1, w2⟩ := back j' t' q2 m2
      exact b.sim.sep j j' u u' a u1 w1 u2 w2 v1 v2
    · rcases om j c z with z | z
      · exact .inl ⟨j, z⟩
      · exact .inr z
theorem unlock_at {r : Vr} {j : Nat} {a : Addr} (h : OwnAt (unlockS ρ1 ρ r) σ j a) : OwnAt ρ σ j a := by
  rcases unlock_of (ρ1 := ρ1) (ρ := ρ) (r := r) with e | ⟨i, s0, s, rfl, h0, h1, hm, e⟩
  · rw [e] at h; exact h
  · rw [e] at h
    obtain ⟨t, q1, q2, q3⟩ := h
    rw [get_set (get_lt h1)] at q1
    split at q1
    · rename_i z
      subst z
      cases q1
      exact ⟨s, h1, by rw [hm]; exact lock_ne.mpr q2, q3⟩
    · exact ⟨t, q1, q2, q3⟩
/-! ### several locks -/
theorem lockL_bh : ∀ {rs : List Vr} {ρ : En}, Sim g ρ σ H F → Bh g ρ σ H F (lockL ρ rs) σ H F
  | [], ρ, S => Bh.refl S
  | r :: rs, ρ, S => (lock_bh (r := r) S).trans (lockL_bh (rs := rs) (lock_bh (r := r) S).sim)
theorem unlockL_bs : ∀ {rs : List Vr} {ρ0 ρ1 : En} {σ0 : St} {H0 F0 : Hp}, Bs g ct ρ0 σ0 H0 F0 ρ1 σ1 H1 F1 → Bs g ct (lockL ρ1 rs) σ1 H1 F1 ρ σ H F → Bs g ct ρ0 σ0 H0 F0 (unlockL ρ1 ρ rs) σ H F
  | [], _, _, _, _, _, b1, b2 => b1.trans b2
  | r :: rs, _, ρ1, _, _, _, b1, b2 => unlock_bs (r := r) b1 (unlockL_bs (rs := rs) (Bs.refl (lock_bh (r := r) b1.sim).sim) b2)
theorem unlockL_at {j : Nat} {a : Addr} : ∀ {rs : List Vr} {ρ1 : En}, OwnAt (unlockL ρ1 ρ rs) σ j a → OwnAt ρ σ j a
  | [], _, h => h
  | r :: rs, ρ1, h => unlockL_at (rs := rs) (unlock_at (r := r) h)
theorem unlockL_some {j : Nat} {ρ : En} : ∀ {rs : List Vr} {ρ1 : En}, (ρ.get j).isSome = true → ((unlockL ρ1 ρ rs).get j).isSome = true
  | [], _, h => h
  | r :: rs, ρ1, h => by
    have h2 := unlockL_some (rs := rs) (ρ1 := lockS ρ1 r) h
    show ((unlockS ρ1 (unlockL (lockS ρ1 r) ρ rs) r).get j).isSome = true
    rcases unlock_of (ρ1 := ρ1) (ρ := unlockL (lockS ρ1 r) ρ rs) (r := r) with e | ⟨i, s0, s, _, q1, q2, q3, e⟩
    · rw [e]; exact h2
    · rw [e, get_set (get_lt q2)]
      split
      · rfl
      · exact h2
end
end Ev

set_option Elab.async false
set_option linter.all false
set_option maxRecDepth 100000
set_option maxHeartbeats 1000000
/-! Ev6f: for. Own work. -/
namespace Ev
open PySem PySem.Spec PyProof.Rows L2
section
variable {g : Gi} {Φ : Fns} {k : Nat} {ct : Ct} {X : Cx} {ρ ρ' ρ0 ρ1 ρ2 : En} {σ σ' σ0 σ1 σ2 : St} {H F H' F' H0 F0 H1 F1 H2 F2 : Hp} {W : WX} {Z : Ends}
def nset : Expr → Bool
  | .Set _ _ _ => false
  | _ => true
theorem nset_ok {iter : Expr} {env : Env} (h : nset iter = true) : ∀ x, foldedSetIterable iter env x = pure x := by
  intro x
  cases iter <;> first | (cases h; done) | rfl
/-- the body at one item -/
def bodyF (Φ : Fns) (np : Nat) (is : List Nat) (ib : Ss) : D → En → Rs Fl := fun d ρ => match assignD is d ρ with
  | some ρ => evSs Φ np ib ρ
  | none => .err
theorem for_turn {tg : Expr} {is : List Nat} {body : List Stmt} {ib : Ss} {r : List Vr} {J : It} {rows : List D} {N : Nat → Nat → St → Hp → Prop} (xo : XOk g Φ k ct X) (tk : Takes X W) (htg : SG g Φ k ct tg is) (hb : SSs g Φ k ct body ib) (b1 : Bs g ct ρ0 σ0 H0 F0 ρ1 σ1 H1 F1) (held0 : Held g (lockL ρ1 r) σ1 H1 F1 J rows)
    (hN : ∀ i m σ' H', N i m σ' H' ↔ m = rows.length - i ∧ i ≤ rows.length ∧ ∃ ρ' F', Bs g ct (lockL ρ1 r) σ1 H1 F1 ρ' σ' H' F' ∧ GdS g ct ρ0 σ0 H0 F0 ((forGo (bodyF Φ ct.np is ib) (rows.drop i) ρ').bind fun c ρ => .ok c (unlockL ρ1 ρ r)) Z W) :
    ∀ i m σ H, N i m σ H → (J.stop i H ∧ Z.nx σ H) ∨ (J.go i H ∧ ∃ M : St → Hp → Prop, (∀ σ' H', M σ' H' → ∃ m', m' < m ∧ N (i + 1) m' σ' H') ∧ ∀ x H', J.yld i H x H' → DG X tg x σ H' fun σ2 H2 => DSs X body { Z with nx := M, ct := M, bk := Z.nx } σ2 H2) := by
  intro i m σ H hn
  obtain ⟨hm, hi, ρ, F, b, G⟩ := (hN i m σ H).mp hn
  have held := held0.step b.stp
  obtain ⟨ht1, ht2⟩ := held.turn b.sim i
  by_cases hlt : i < rows.length
  · refine .inr ?_
    have hd : rows[i]? = some rows[i] := List.getElem?_eq_getElem hlt
    obtain ⟨hgo, hy⟩ := ht2 _ hd
    refine ⟨hgo, fun σ' H' => ∃ m', m' < m ∧ N (i + 1) m' σ' H', fun _ _ h => h, fun x H' hx => ?_⟩
    obtain ⟨F', bt, rd⟩ := hy x H' hx
    have b := b.trans bt.s
    rw [List.drop_eq_getElem_cons hlt] at G
    unfold forGo at G
    have Gb : GdS g ct ρ0 σ0 H0 F0 ((((bodyF Φ ct.np is ib) rows[i] ρ).bind fun c ρ => match c with
      | .nx => forGo (bodyF Φ ct.np is ib) (rows.drop (i + 1)) ρ
      | .ct => forGo (bodyF Φ ct.np is ib) (rows.drop (i + 1)) ρ
      | .br => .ok .nx ρ
      | .rt o d => .ok (.rt o d) ρ).bind fun c ρ => .ok c (unlockL ρ1 ρ r)) Z W := G
    cases ha : assignD is rows[i] ρ with
    | none =>
      unfold bodyF at Gb
      rw [ha] at Gb
      exact Gb.elim
    | some ρ2 =>
      have hbody : bodyF Φ ct.np is ib rows[i] ρ = evSs Φ ct.np ib ρ2 := by
        unfold bodyF
        rw [ha]
      rw [hbody] at Gb
      refine htg X xo (lockL ρ1 r) σ1 H1 F1 ρ σ H' F' b x _ ρ2 rd ha _ fun σ2 bb _ => ?_
      refine hb X xo ρ2 σ2 H' F' bb.sim _ W tk ?_
      have cont : ∀ ρ3 σ3 H3 F3, Bs g ct ρ2 σ2 H' F' ρ3 σ3 H3 F3 → GdS g ct ρ0 σ0 H0 F0 ((forGo (bodyF Φ ct.np is ib) (rows.drop (i + 1)) ρ3).bind fun c ρ => .ok c (unlockL ρ1 ρ r)) Z W → ∃ m', m' < m ∧ N (i + 1) m' σ3 H3 := fun ρ3 σ3 H3 F3 b3 G3 => by
        exact ⟨rows.length - (i + 1), by omega, (hN _ _ _ _).mpr ⟨rfl, by omega, ρ3, F3, bb.trans b3, G3⟩⟩
      cases he : evSs Φ ct.np ib ρ2 with
      | ok c ρ3 =>
        rw [he] at Gb
        intro σ3 H3 F3 b3
        have ball := unlockL_bs b1 (bb.trans b3)
        cases c with
        | nx => exact cont ρ3 σ3 H3 F3 b3 Gb
        | ct => exact cont ρ3 σ3 H3 F3 b3 Gb
        | br => exact GdS.now (W := W) (Z := Z) Gb ball
        | rt o d =>
          have e := GdS.now (W := W) (Z := Z) Gb ball
          intro v hv
          refine e v ?_
          unfold RtRel at hv ⊢
          split at hv
          · rename_i ho
            rw [if_pos ho]
            obtain ⟨a, e1, e2, e3, e4, e5⟩ := hv
            refine ⟨a, e1, e2, e3, fun j hj z => e4 j hj (unlockL_at z), ?_⟩
            have b02 := (b1.trans (lockL_bh b1.sim).s).trans bb
            rcases e5 with z | ⟨j, hj, z⟩
            · exact .inl (none_back b02.stp.live z)
            · rcases b02.pv.2 j a z with z | z
              · exact .inr ⟨j, hj, z⟩
              · exact .inl z
          · rename_i ho
            rw [if_neg ho]
            exact hv
      | ex x ρ3 =>
        rw [he] at Gb
        intro σ3 cls d H3 F3 b3 xr
        exact Gb σ3 cls d H3 F3 ((b1.trans (lockL_bh b1.sim).s).trans (bb.trans b3)) xr
      | err => rw [he] at Gb; exact Gb.elim
  · refine .inl ⟨ht1 (by omega), ?_⟩
    rw [List.drop_eq_nil_of_le (by omega)] at G
    exact GdS.now (W := W) (Z := Z) (c := .nx) G (unlockL_bs b1 b)
theorem ss_for {tg iter : Expr} {is : List Nat} {iw : Wk} {body : List Stmt} {ib : Ss} {pos : Pos} (ht : ct.top = true) (hc : ct.calm = true) (hs : nset iter = true) (hi : SI g Φ k ct tg iter iw) (htg : SG g Φ k ct tg is) (hb : SSs g Φ k ct body ib) : SS g Φ k ct (.For tg iter body [] pos) (.for is iw ib) := by
  intro X xo ρ σ H F S Z W tk G
  refine PS.d (ps_for (xo.po ht) (xo.rm.calm.trans hc) pi_D pg_D pss_D (nset_ok hs)) ?_
  refine hi.goS xo S tk G fun J p ρ1 H1 F1 b held G1 => ?_
  obtain ⟨rows, r⟩ := p
  have G1 : GdS g ct ρ σ H F ((forGo (bodyF Φ ct.np is ib) rows (lockL ρ1 r)).bind fun c ρ => .ok c (unlockL ρ1 ρ r)) Z W := G1
  refine ⟨fun i m σ' H' => m = rows.length - i ∧ i ≤ rows.length ∧ ∃ ρ' F', Bs g ct (lockL ρ1 r) σ H1 F1 ρ' σ' H' F' ∧ GdS g ct ρ σ H F ((forGo (bodyF Φ ct.np is ib) (rows.drop i) ρ').bind fun c ρ => .ok c (unlockL ρ1 ρ r)) Z W,
    ⟨rows.length, by omega, by omega, lockL ρ1 r, F1, Bs.refl (lockL_bh b.sim).sim, G1⟩, ?_⟩
  exact for_turn xo tk htg hb b.s held (fun _ _ _ _ => Iff.rfl)
end
end Ev

set_option Elab.async false
set_option linter.all false
set_option maxRecDepth 100000
set_option maxHeartbeats 1000000
/-! Ev6g: list comprehensions. Own work. -/
namespace Ev
open PySem PySem.Spec PyProof.Rows L2
section
variable {g : Gi} {Φ : Fns} {k : Nat} {ct : Ct} {X : Cx} {ρ ρ' ρ0 ρ1 ρ2 : En} {σ σ' σ0 σ1 σ2 : St} {H F H' F' H0 F0 H1 F1 H2 F2 : Hp} {W : WX} {Z : Ends}
/-! ### slots wiped, slots put back -/
theorem wipe_ne {i : Nat} : ∀ {vs : List Nat} {σ : St}, i ∉ vs → (wipe σ vs)[i]? = σ[i]?
  | [], _, _ => rfl
  | v :: vs, σ, h => by
    unfold wipe
    rw [List.getElem?_set_ne (fun z => h (by rw [z]; exact List.mem_cons_self)), wipe_ne fun z => h (List.mem_cons_of_mem _ z)]
theorem wipeE_len {vs : List Nat} : (wipeE ρ vs).length = ρ.length := by
  induction vs with
  | nil => rfl
  | cons v vs ih => unfold wipeE; rw [List.length_set, ih]
theorem wipeE_ne {i : Nat} : ∀ {vs : List Nat}, i ∉ vs → (wipeE ρ vs).get i = ρ.get i
  | [], _ => rfl
  | v :: vs, h => by
    unfold wipeE
    rw [get_set_ne (fun z => h (by rw [z]; exact List.mem_cons_self)), wipeE_ne fun z => h (List.mem_cons_of_mem _ z)]
theorem wipeE_in {i : Nat} : ∀ {vs : List Nat}, i ∈ vs → (wipeE ρ vs).get i = none
  | [], h => by cases h
  | v :: vs, h => by
    unfold wipeE
    by_cases hv : v = i
    · subst hv; exact get_set_none
    · rw [get_set_ne hv]
      rcases List.mem_cons.mp h with h | h
      · exact absurd h.symm hv
      · exact wipeE_in h
theorem wipeE_some {i : Nat} {vs : List Nat} {s : Sl} (h : (wipeE ρ vs).get i = some s) : i ∉ vs ∧ ρ.get i = some s := by
  by_cases hi : i ∈ vs
  · rw [wipeE_in hi] at h; cases h
  · exact ⟨hi, by rw [← wipeE_ne hi]; exact h⟩
theorem backE_len {vs : List Nat} : (backE ρ0 ρ vs).length = ρ.length := by
  induction vs with
  | nil => rfl
  | cons v vs ih => unfold backE; rw [List.length_set, ih]
theorem backE_ne {i : Nat} : ∀ {vs : List Nat}, i ∉ vs → (backE ρ0 ρ vs).get i = ρ.get i
  | [], _ => rfl
  | v :: vs, h => by
    unfold backE
    rw [get_set_ne (fun z => h (by rw [z]; exact List.mem_cons_self)), backE_ne fun z => h (List.mem_cons_of_mem _ z)]
theorem backE_in {i : Nat} (hl : ρ0.length = ρ.length) : ∀ {vs : List Nat}, i ∈ vs → (backE ρ0 ρ vs).get i = ρ0.get i
  | [], h => by cases h
  | v :: vs, h => by
    unfold backE
    by_cases hv : v = i
    · subst hv
      unfold En.get
      by_cases hlt : v < ρ.length
      · rw [List.getElem?_set_self (by rw [backE_len]; exact hlt)]
        cases ρ0[v]? <;> rfl
      · rw [List.getElem?_eq_none (by rw [List.length_set, backE_len]; omega), List.getElem?_eq_none (by omega)]
    · rw [get_set_ne hv]
      rcases List.mem_cons.mp h with h | h
      · exact absurd h.symm hv
      · exact backE_in hl h
/-- the context of a block -/
def blkC (ct : Ct) (scope : Scope) : Ct := { ct with
  sc := { scope with names := scope.names.map fun (n, k) => if (k == .free && ct.sc.kind == .function && ct.sc.names.lookup n == some .cell) then (n, .cell) else (n, k) }
  top := false
  np := 0
  reb := []
  fnx := fun x => scope.names.lookup x == some .cell }
theorem blk_ok {scope : Scope} {s : Shared} {C : Addr} {cl : List (Str × Addr)} {fp : List Addr} (xo : XOk g Φ k ct X) : XOk g Φ k (blkC ct scope) (X.blk s H scope (compEnvC scope cl C X.env) fp) where
  N := xo.N
  nd := xo.nd
  sc := by
    show relabel scope X.env = _
    unfold relabel blkC
    have : ∀ n, X.env.kindOf n = ct.sc.names.lookup n := fun n => by rw [← xo.sc] <;> rfl
    simp only [this, xo.sc]
  rm := ⟨xo.rm.K, xo.rm.calm, xo.rm.units, xo.rm.guards⟩
  glob := fun x q h => by
    have := xo.glob x q h
    cases q <;> exact this
  room := xo.room
  fns := xo.fns
  po := fun h => by cases h
  fnx := fun _ => rfl
theorem bs0 {sc : Scope} (h1 : Sim g ρ' σ' H' F') (h2 : Stp ρ σ H F ρ' σ' H' F') (h3 : Pv ρ σ H ρ' σ') : Bs g (blkC ct sc) ρ σ H F ρ' σ' H' F' := ⟨h1, h2, h3, fun i h => by cases h⟩
theorem wipe_bs {vs : List Nat} {sc : Scope} (S : Sim g ρ σ H F) : Bs g (blkC ct sc) ρ σ H F (wipeE ρ vs) (wipe σ vs) H F := by
  have at_ : ∀ j a, OwnAt (wipeE ρ vs) (wipe σ vs) j a → OwnAt ρ σ j a := fun j a ⟨s, h1, h2, h3⟩ => by
    obtain ⟨n, e⟩ := wipeE_some h1
    rw [wipe_ne n] at h3
    exact ⟨s, e, h2, h3⟩
  have atm : ∀ j a, OwnM (wipeE ρ vs) (wipe σ vs) j a → OwnM ρ σ j a := fun j a ⟨s, h1, h2, h3⟩ => by
    obtain ⟨n, e⟩ := wipeE_some h1
    rw [wipe_ne n] at h3
    exact ⟨s, e, h2, h3⟩
  refine bs0 ⟨by rw [wipeE_len, wipe_length]; exact S.len, S.sub, fun i s h => ?_, fun i j s t a h1 h2 m1 m2 v1 v2 => ?_⟩ ⟨Same.refl F, fun _ z => .inl z, fun _ _ z _ => z, fun _ z => z, fun c ⟨j, z⟩ => .inl ⟨j, atm j c z⟩, fun c ⟨j, z⟩ => .inl ⟨j, at_ j c z⟩⟩ ⟨fun j a z => .inl (atm j a z), fun j a z => .inl (at_ j a z)⟩
  · obtain ⟨n, e⟩ := wipeE_some h
    rw [wipe_ne n]
    exact S.val i s e
  · obtain ⟨n1, e1⟩ := wipeE_some h1
    obtain ⟨n2, e2⟩ := wipeE_some h2
    rw [wipe_ne n1] at v1
    rw [wipe_ne n2] at v2
    exact S.sep i j s t a e1 e2 m1 m2 v1 v2
/-- an object laid or changed that no slot owns and that is new -/
theorem lay_bs {sc : Scope} {L : Addr} {o : HO} (b : Bs g (blkC ct sc) ρ0 σ0 H0 F0 ρ σ H F) (h0 : H0 L = none) (hf : F L = none) (no : ¬ OwnL ρ σ L) : Bs g (blkC ct sc) ρ0 σ0 H0 F0 ρ σ (upd H L o) F := by
  refine bs0 ⟨b.sim.len, fun c u z => ?_, fun i s h => ?_, b.sim.sep⟩ ⟨b.stp.fzs, b.stp.fzn, fun c u z n => ?_, fun c z => ?_, b.stp.own, b.stp.ownl⟩ b.pv
  · rw [upd_ne (ne_of_none z hf)]; exact b.sim.sub c u z
  · obtain ⟨v, e, q⟩ := b.sim.val i s h
    refine ⟨v, e, q.mono (Same.refl F) fun a hm hv => ?_⟩
    subst hv
    have ne : a ≠ L := fun z => no ⟨i, s, h, hm, by rw [← z]; exact e⟩
    exact ⟨(b.sim.ownL ⟨i, s, h, hm, e⟩).2, upd_ne ne⟩
  · rw [upd_ne (ne_of_none z h0)]; exact b.stp.mod c u z n
  · by_cases hc : c = L
    · subst hc; exact absurd h0 z
    · rw [upd_ne hc]; exact b.stp.live c z
/-- behind a comprehension the frame's own slots are back -/
theorem back_bs {sc : Scope} {vs : List Nat} (S : Sim g ρ0 σ H F) (b : Bs g (blkC ct sc) (wipeE ρ0 vs) (wipe σ vs) H F ρ σ' H' F') (hw : wipe σ' vs = wipe σ vs) : Bs g (blkC ct sc) ρ0 σ H F (backE ρ0 ρ vs) σ H' F' := by
  have hl : ρ0.length = ρ.length := by
    rw [b.sim.len, ← wipe_length σ' vs, hw, wipe_length, S.len]
  have hσ : ∀ i, i ∉ vs → σ'[i]? = σ[i]? := fun i hi => by rw [← wipe_ne (σ := σ') hi, hw, wipe_ne hi]
  -- whose a slot is
  have side : ∀ i s, (backE ρ0 ρ vs).get i = some s → (i ∈ vs ∧ ρ0.get i = some s) ∨ (i ∉ vs ∧ ρ.get i = some s) := fun i s h => by
    by_cases hi : i ∈ vs
    · rw [backE_in hl hi] at h; exact .inl ⟨hi, h⟩
    · rw [backE_ne hi] at h; exact .inr ⟨hi, h⟩
  have w2 : ∀ j a, OwnAt (wipeE ρ0 vs) (wipe σ vs) j a → j ∉ vs ∧ OwnAt ρ0 σ j a := fun j a ⟨s, h1, h2, h3⟩ => by
    obtain ⟨n, e⟩ := wipeE_some h1
    rw [wipe_ne n] at h3
    exact ⟨n, s, e, h2, h3⟩
  have w1 : ∀ j a, OwnM (wipeE ρ0 vs) (wipe σ vs) j a → OwnM ρ0 σ j a := fun j a ⟨s, h1, h2, h3⟩ => by
    obtain ⟨n, e⟩ := wipeE_some h1
    rw [wipe_ne n] at h3
    exact ⟨s, e, h2, h3⟩
  have at_ : ∀ j a, OwnAt (backE ρ0 ρ vs) σ j a → OwnAt ρ0 σ j a ∨ H a = none := fun j a ⟨s, h1, h2, h3⟩ => by
    rcases side j s h1 with ⟨_, e⟩ | ⟨n, e⟩
    · exact .inl ⟨s, e, h2, h3⟩
    · rcases b.pv.2 j a ⟨s, e, h2, by rw [hσ j n]; exact h3⟩ with z | z
      · exact .inl (w2 j a z).2
      · exact .inr z
  have atm : ∀ j a, OwnM (backE ρ0 ρ vs) σ j a → OwnM ρ0 σ j a ∨ H a = none := fun j a ⟨s, h1, h2, h3⟩ => by
    rcases side j s h1 with ⟨_, e⟩ | ⟨n, e⟩
    · exact .inl ⟨s, e, h2, h3⟩
    · rcases b.pv.1 j a ⟨s, e, h2, by rw [hσ j n]; exact h3⟩ with z | z
      · exact .inl (w1 j a z)
      · exact .inr z
  refine bs0 ⟨by rw [backE_len, ← hl]; exact S.len, b.sim.sub, fun i s h => ?_, fun i j s t a h1 h2 m1 m2 v1 v2 => ?_⟩ ⟨b.stp.fzs, fun c z => ?_, fun c o h n => ?_, b.stp.live, fun c ⟨j, z⟩ => ?_, fun c ⟨j, z⟩ => ?_⟩ ⟨atm, at_⟩
  · rcases side i s h with ⟨hi, e⟩ | ⟨n, e⟩
    · obtain ⟨v, h1, q⟩ := S.val i s e
      refine ⟨v, h1, q.mono b.stp.fzs fun a hm hv => ?_⟩
      subst hv
      have own := S.ownL ⟨i, s, e, hm, h1⟩
      have nO : ¬ OwnL (wipeE ρ0 vs) (wipe σ vs) a := fun ⟨j, z⟩ => by
        obtain ⟨n, t, t1, t2, t3⟩ := w2 j a z
        have := S.sep i j s t a e t1 hm t2 h1 t3
        subst this
        exact n hi
      obtain ⟨o, ho⟩ := ne_some.mp own.1
      refine ⟨Classical.byContradiction fun q => ?_, (b.stp.mod a o ho fun z => nO z.l).trans ho.symm⟩
      rcases b.stp.fzn a q with y | y | y
      · exact y own.2
      · exact own.1 y
      · exact nO y
    · obtain ⟨v, h1, q⟩ := b.sim.val i s e
      exact ⟨v, by rw [← hσ i n]; exact h1, q⟩
  · have mixed : ∀ i j s t, i ∈ vs → ρ0.get i = some s → s.m ≠ .fz → σ[i]? = some (some (.ref a)) → j ∉ vs → ρ.get j = some t → t.m ≠ .fz → σ[j]? = some (some (.ref a)) → False := fun i j s t hi e hm h1 hj e' hm' h2 => by
      rcases b.pv.2 j a ⟨t, e', hm', by rw [hσ j hj]; exact h2⟩ with z | z
      · obtain ⟨_, u, u1, u2, u3⟩ := w2 j a z
        have := S.sep i j s u a e u1 hm u2 h1 u3
        subst this
        exact hj hi
      · exact (S.ownL ⟨i, s, e, hm, h1⟩).1 z
    rcases side i s h1 with ⟨hi, e1⟩ | ⟨hi, e1⟩
    · rcases side j t h2 with ⟨hj, e2⟩ | ⟨hj, e2⟩
      · exact S.sep i j s t a e1 e2 m1 m2 v1 v2
      · exact (mixed i j s t hi e1 m1 v1 hj e2 m2 v2).elim
    · rcases side j t h2 with ⟨hj, e2⟩ | ⟨hj, e2⟩
      · exact (mixed j i t s hj e2 m2 v2 hi e1 m1 v1).elim
      · exact b.sim.sep i j s t a e1 e2 m1 m2 (by rw [hσ i hi]; exact v1) (by rw [hσ j hj]; exact v2)
  · rcases b.stp.fzn c z with z | z | ⟨j, z⟩
    · exact .inl z
    · exact .inr (.inl z)
    · exact .inr (.inr ⟨j, (w2 j c z).2⟩)
  · exact b.stp.mod c o h fun ⟨j, z⟩ => n ⟨j, w1 j c z⟩
  · rcases atm j c z with z | z
    · exact .inl ⟨j, z⟩
    · exact .inr z
  · rcases at_ j c z with z | z
    · exact .inl ⟨j, z⟩
    · exact .inr z
theorem assignD_kp {is : List Nat} {d : D} (h : assignD is d ρ = some ρ') : Keeps ρ ρ' := by
  have sets : ∀ {is : List Nat} {ss : List Sl} {ρ ρ' : En}, setAll is ss ρ = some ρ' → Keeps ρ ρ' := by
    intro is
    induction is with
    | nil =>
      intro ss ρ ρ' h
      cases ss with
      | nil => cases h; exact Keeps.refl _
      | cons _ _ => cases h
    | cons i is ih =>
      intro ss ρ ρ' h
      cases ss with
      | nil => cases h
      | cons s ss =>
        unfold setAll at h
        split at h
        · rename_i hi
          exact Keeps.trans (fun j hj => by
            rw [get_set hi]
            split
            · rfl
            · exact hj) (ih h)
        · cases h
  rcases is with _ | ⟨i, _ | ⟨i', is⟩⟩
  · cases d <;> first | (cases h; done) | exact sets h
  · unfold assignD at h
    dsimp only at h
    split at h
    · rename_i hi
      cases h
      intro j hj
      rw [get_set hi]
      split
      · rfl
      · exact hj
    · cases h
  · cases d <;> first | (cases h; done) | exact sets h
end
end Ev

set_option Elab.async false
set_option linter.all false
set_option maxRecDepth 100000
set_option maxHeartbeats 1000000
/-! Ev6h: list comprehensions, the rule. Own work. -/
namespace Ev
open PySem PySem.Spec PyProof.Rows L2
section
variable {g : Gi} {Φ : Fns} {k : Nat} {ct : Ct} {X : Cx} {ρ ρ' ρ0 ρ1 ρ2 : En} {σ σ' σ0 σ1 σ2 : St} {H F H' F' H0 F0 H1 F1 H2 F2 : Hp} {W : WX} {Z : Ends}
theorem wipe_wipe {vs : List Nat} {σ : St} : wipe (wipe σ vs) vs = wipe σ vs := by
  have out : ∀ {us : List Nat} {τ : St} (ws : List Nat), (∀ i ∈ us, i ∈ ws) → wipe (wipe τ us) ws = wipe τ ws := by
    intro us
    induction us with
    | nil => intro τ ws _; rfl
    | cons u us ih =>
      intro τ ws h
      show wipe ((wipe τ us).set u none) ws = _
      rw [wipe_set (h u List.mem_cons_self)]
      exact ih ws fun i hi => h i (List.mem_cons_of_mem _ hi)
  exact out vs fun _ h => h
theorem back_at {vs : List Nat} {j : Nat} {a : Addr} (hl : ρ0.length = ρ.length) (hw : wipe σ' vs = wipe σ vs) (h : OwnAt (backE ρ0 ρ vs) σ j a) : OwnAt ρ0 σ j a ∨ OwnAt ρ σ' j a := by
  obtain ⟨s, h1, h2, h3⟩ := h
  by_cases hi : j ∈ vs
  · rw [backE_in hl hi] at h1
    exact .inl ⟨s, h1, h2, h3⟩
  · rw [backE_ne hi] at h1
    exact .inr ⟨s, h1, h2, by rw [← wipe_ne (σ := σ') hi, hw, wipe_ne hi]; exact h3⟩
theorem SI.goB {tg it : Expr} {ir : Wk} (h : SI g Φ k ct tg it ir) (xo : XOk g Φ k ct X) (S : Sim g ρ σ H F) (tk : Takes X W) {β : Type} {f : List D × List Vr → En → Rs β} {Ok : β → En → Hp → Hp → Prop} (G : GdR g ρ σ H F ((evI Φ ir ρ).bind f) Ok W) {R : It → Hp → Prop}
    (K : ∀ J p ρ1 H1 F1, Bh g ρ σ H F ρ1 σ H1 F1 → Held g (lockL ρ1 p.2) σ H1 F1 J p.1 → GdR g ρ σ H F (f p ρ1) Ok W → R J H1) : DI X tg it σ H R := by
  refine h X xo ρ σ H F S R W tk ?_
  cases he : evI Φ ir ρ with
  | ok r ρ1 => rw [he] at G; exact fun H' F' b J hv => K J r ρ1 H' F' b hv G
  | ex x ρ1 => rw [he] at G; exact G
  | err => rw [he] at G; exact G
def lcF (Φ : Fns) (ie : E) (is : List Nat) (its : Ts) (vs : List Nat) : D → En → Rs (Option D) := fun d ρ => match assignD is d (wipeE ρ vs) with
  | some ρ => (evTs Φ its ρ).bind fun b ρ => if b then (evE Φ ie ρ).bind fun x ρ => (keep ρ x).bind fun d ρ => .ok (some d) ρ else .ok none ρ
  | none => .err
theorem lcGo_ex {f : D → En → Rs (Option D)} : ∀ {rows : List D} {ρ ρ' : En} {x : D}, lcGo f rows ρ ≠ .ex x ρ'
  | [], _, _, _, h => by cases h
  | d :: ds, ρ, ρ', x, h => by
    unfold lcGo at h
    cases h1 : f d ρ with
    | ok r ρ1 =>
      rw [h1] at h
      have h : ((lcGo f ds ρ1).bind fun rs ρ => Rs.ok (match r with
        | some x => x :: rs
        | none => rs) ρ) = .ex x ρ' := h
      cases h2 : lcGo f ds ρ1 with
      | ok rs ρ2 => rw [h2] at h; cases h
      | ex y ρ2 => exact lcGo_ex h2
      | err => rw [h2] at h; cases h
    | ex y ρ1 => rw [h1] at h; cases h
    | err => rw [h1] at h; cases h
theorem calm_ok {α : Type} {r : Rs α} {a : α} {ρ : En} (h : r.calm = .ok a ρ) : r = .ok a ρ := by
  cases r with
  | ok b ρ1 => exact h
  | ex x ρ1 => cases h
  | err => cases h
/-- the tests of a clause: none or one -/
inductive STs (g : Gi) (Φ : Fns) (k : Nat) (ct : Ct) : List Expr → Ts → Prop
  | nil : STs g Φ k ct [] .nil
  | one {c : Expr} {t : T} : ST g Φ k ct c t → STs g Φ k ct [c] (.cons t .nil)
def gW (X : Cx) (scope : Scope) (tg : Expr) : TG := fun v σ H Q => ∀ s0 H0 C cl fp, DG (X.blk s0 H0 scope (compEnvC scope cl C X.env) fp) tg v σ H Q
def tW (X : Cx) (scope : Scope) : List Expr → TT
  | [] => tYes
  | c :: _ => fun σ H Q => ∀ s0 H0 C cl fp, DT (X.blk s0 H0 scope (compEnvC scope cl C X.env) fp) c σ H Q
def eW (X : Cx) (scope : Scope) (e : Expr) : TE := fun σ H Q => ∀ s0 H0 C cl fp, DE (X.blk s0 H0 scope (compEnvC scope cl C X.env) fp) e σ H Q
theorem tests_go {scope : Scope} {ifs : List Expr} {its : Ts} {b : Bool} (xo : XOk g Φ k ct X) (h : STs g Φ k (blkC ct scope) ifs its) (S : Sim g ρ σ H F) (he : evTs Φ its ρ = .ok b ρ1) {R : Bool → Hp → Prop} (K : ∀ H' F', Bh g ρ σ H F ρ1 σ H' F' → R b H') : tW X scope ifs σ H R := by
  cases h with
  | nil =>
    cases he
    exact K H F (Bh.refl S)
  | one h =>
    intro s0 H0 C cl fp
    refine h _ (blk_ok xo) ρ σ H F S R (fun _ _ _ _ => False) takes0 ?_
    unfold evTs at he
    obtain ⟨c, ρ2, h1, h2⟩ := bind_ok he
    have e2 : b = c ∧ ρ1 = ρ2 := by
      cases c with
      | true => cases h2; exact ⟨rfl, rfl⟩
      | false => cases h2; exact ⟨rfl, rfl⟩
    obtain ⟨rfl, rfl⟩ := e2
    rw [h1]
    exact fun H' F' b' => K H' F' b'
/-- what no slot owns stays -/
theorem side_keep {L : Addr} {o : HO} (b : Bh g ρ σ H F ρ1 σ H1 F1) (hD : H L = some o) (fD : F L = none) (no : ¬ OwnL ρ σ L) : H1 L = some o ∧ F1 L = none ∧ ¬ OwnL ρ1 σ L := by
  refine ⟨b.stp.mod L o hD fun z => no z.l, Classical.byContradiction fun q => ?_, fun z => ?_⟩
  · rcases b.stp.fzn L q with z | z | z
    · exact z fD
    · rw [z] at hD; cases hD
    · exact no z
  · rcases b.stp.ownl L z with z | z
    · exact no z
    · rw [z] at hD; cases hD
theorem lc_go {tg iter elt : Expr} {ifs : List Expr} {scope : Scope} {is vs : List Nat} {iw : Wk} {its : Ts} {ie : E} {Q : VK} (xo : XOk g Φ k ct X) (S : Sim g ρ σ H F) (tk : Takes X W) (hi : SI g Φ k ct tg iter iw) (htg : SG g Φ k (blkC ct scope) tg is) (hts : STs g Φ k (blkC ct scope) ifs its)
    (he : SE g Φ k (blkC ct scope) elt ie) (hsub : ∀ i ∈ is, i ∈ vs) (G : GdR g ρ σ H F (evE Φ (.lc ie is iw its vs) ρ) (OkE g σ H Q) W) : tLc (DI X tg iter) (gW X scope tg) (tW X scope ifs) (eW X scope elt) vs σ H Q := by
  refine hi.goB xo S tk G fun J p ρ1 H1 F1 b held G1 => ?_
  obtain ⟨rows, r⟩ := p
  have held : Held g (lockL ρ1 r) σ H1 F1 J rows := held
  have G1 : GdR g ρ σ H F ((lcGo (lcF Φ ie is its vs) rows (wipeE (lockL ρ1 r) vs)).bind fun ds ρ => if ds.length ≤ LIM then .ok (.o (.lst ds)) (unlockL ρ1 (backE (lockL ρ1 r) ρ vs) r) else .err) (OkE g σ H Q) W := G1
  cases hrun : lcGo (lcF Φ ie is its vs) rows (wipeE (lockL ρ1 r) vs) with
  | ex x ρe => exact absurd hrun lcGo_ex
  | err => rw [hrun] at G1; exact G1.elim
  | ok ds ρe =>
  rw [hrun] at G1
  have G2 : GdR g ρ σ H F (if ds.length ≤ LIM then .ok (.o (.lst ds)) (unlockL ρ1 (backE (lockL ρ1 r) ρe vs) r) else .err) (OkE g σ H Q) W := G1
  by_cases hlen : ds.length ≤ LIM
  case neg => rw [if_neg hlen] at G2; exact G2.elim
  rw [if_pos hlen] at G2
  intro D hD
  have SL : Sim g (lockL ρ1 r) σ H1 F1 := (lockL_bh b.sim).sim
  have bwp := wipe_bs (ct := ct) (sc := scope) (vs := vs) SL
  have noW : ¬ OwnL (wipeE (lockL ρ1 r) vs) (wipe σ vs) D := fun z => (bwp.sim.ownL z).1 hD
  have bw := lay_bs (o := .lst []) (Bs.refl (ct := blkC ct scope) bwp.sim) hD (free_of SL.sub hD) noW
  refine ⟨fun i m H' => m = rows.length - i ∧ i ≤ rows.length ∧ ∃ ρ' σ' F' acc xs, Bs g (blkC ct scope) (wipeE (lockL ρ1 r) vs) (wipe σ vs) H1 F1 ρ' σ' H' F' ∧ wipe σ' vs = wipe σ vs ∧ H' D = some (.lst xs) ∧ RDs g F' xs acc ∧ F' D = none ∧ ¬ OwnL ρ' σ' D ∧
    (∀ j, j ∉ vs → ((lockL ρ1 r).get j).isSome = true → (ρ'.get j).isSome = true) ∧ ∃ rest, lcGo (lcF Φ ie is its vs) (rows.drop i) ρ' = .ok rest ρe ∧ ds = acc ++ rest, ⟨rows.length, by omega, by omega, wipeE (lockL ρ1 r) vs, wipe σ vs, F1, [], [], bw, wipe_wipe, upd_same, .nil, free_of SL.sub hD, noW,
    fun j hj h => by rw [wipeE_ne hj]; exact h, ds, hrun, rfl⟩, ?_⟩
  rintro i m H' ⟨hm, hile, ρ', σ', F', acc, xs, bc, hw, hxs, rds, fD, no, kp, rest, hrest, hds⟩
  have held' := held.step (bwp.trans bc).stp
  obtain ⟨ht1, ht2⟩ := held'.turn bc.sim i
  by_cases hlt : i < rows.length
  · refine .inr ?_
    have hd : rows[i]? = some rows[i] := List.getElem?_eq_getElem hlt
    obtain ⟨hgo, hy⟩ := ht2 _ hd
    refine ⟨hgo, _, fun _ h => h, fun x H'' hx => ?_⟩
    obtain ⟨F'', b0, rd⟩ := hy x H'' hx
    obtain ⟨hxs, fD, no⟩ := side_keep b0 hxs fD no
    have bc := bc.trans b0.s
    have rds := rds.mono b0.stp.fzs
    rw [List.drop_eq_getElem_cons hlt] at hrest
    unfold lcGo at hrest
    obtain ⟨ro, ρ2, h1, h2⟩ := bind_ok hrest
    obtain ⟨rs, ρ2', h3, h4⟩ := bind_ok h2
    have h1 := calm_ok h1
    injection h4 with h4 h5
    subst h5
    unfold lcF at h1
    cases ha : assignD is rows[i] (wipeE ρ' vs) with
    | none => rw [ha] at h1; cases h1
    | some ρ3 =>
    rw [ha] at h1
    obtain ⟨bt, ρ4, ht, h5⟩ := bind_ok h1
    have bwc := wipe_bs (ct := ct) (sc := scope) (vs := vs) bc.sim
    rw [hw] at bwc
    have nowc : ¬ OwnL (wipeE ρ' vs) (wipe σ vs) D := fun z => by
      rcases bwc.stp.ownl D z with z | z
      · exact no z
      · rw [z] at hxs; cases hxs
    have kpw : ∀ j, j ∉ vs → ((lockL ρ1 r).get j).isSome = true → ((wipeE ρ' vs).get j).isSome = true := fun j hj h => by rw [wipeE_ne hj]; exact kp j hj h
    intro s0 H00 C cl fp
    refine htg _ (blk_ok xo) _ _ _ _ _ _ _ _ (Bs.refl bwc.sim) x _ ρ3 rd ha _ fun σ2 b3 hw2 => ⟨(hw2 vs hsub).trans wipe_wipe, ?_⟩
    have no3 : ¬ OwnL ρ3 σ2 D := fun z => by
      rcases b3.stp.ownl D z with z | z
      · exact nowc z
      · rw [z] at hxs; cases hxs
    have hw3 : wipe σ2 vs = wipe σ vs := (hw2 vs hsub).trans wipe_wipe
    have bb3 := (bc.trans bwc).trans b3
    have kp3 := assignD_kp ha
    refine tests_go xo hts b3.sim ht fun H4 F4 b4 => ?_
    obtain ⟨d1, d2, d3⟩ := side_keep b4 hxs fD no3
    cases bt with
    | false =>
      rw [if_neg (by decide)] at h5 ⊢
      cases h5
      refine ⟨rows.length - (i + 1), by omega, rfl, by omega, ρ2, σ2, F4, acc, xs, bb3.trans b4.s, hw3, d1, rds.mono b4.stp.fzs, d2, d3, fun j hj h => b4.kp j (kp3 j (kpw j hj h)), rs, h3, ?_⟩
      rw [hds, ← h4]
    | true =>
      rw [if_pos rfl] at h5 ⊢
      obtain ⟨x', ρ5, h6, h7⟩ := bind_ok h5
      obtain ⟨d', ρ6, h8, h9⟩ := bind_ok h7
      cases h9
      intro s0 H00 C cl fp
      refine he _ (blk_ok xo) ρ4 σ2 H4 F4 b4.sim _ (fun _ _ _ _ => False) takes0 ?_
      rw [h6]
      intro H5 F5 b5 v hv
      obtain ⟨F6, b6, rdv, _, _⟩ := keep_bh b5 hv h8
      obtain ⟨e1, e2, e3⟩ := side_keep b6 d1 d2 d3
      have hds' : ds = acc ++ (d' :: rs) := by rw [hds, ← h4]
      have hacc : acc.length < LIM := by
        have := congrArg List.length hds'
        rw [List.length_append, List.length_cons] at this
        omega
      refine ⟨xs, e1, by rw [rds.length, ← LIM_eq]; exact hacc, rows.length - (i + 1), by omega, rfl, by omega, ρ2, σ2, F6, acc ++ [d'], xs ++ [v], lay_bs ((bb3.trans b4.s).trans b6.s) hD e2 e3, hw3, upd_same, ?_, e2, e3, fun j hj h => b6.kp j (b4.kp j (kp3 j (kpw j hj h))), rs, h3, ?_⟩
      · exact ((rds.mono b4.stp.fzs).mono b6.stp.fzs).append (.cons rdv .nil)
      · rw [hds', List.append_assoc] <;> rfl
  · refine .inl ⟨ht1 (by omega), ?_⟩
    rw [List.drop_eq_nil_of_le (by omega)] at hrest
    cases hrest
    rw [List.append_nil] at hds
    subst hds
    have bb := back_bs SL bc hw
    have bu := unlockL_bs b.s bb
    have hl : (lockL ρ1 r).length = ρe.length := by
      rw [bc.sim.len, ← wipe_length σ' vs, hw, wipe_length, SL.len]
    have kpu : Keeps ρ (unlockL ρ1 (backE (lockL ρ1 r) ρe vs) r) := fun j hj => by
      have h1 := (lockL_bh (rs := r) b.sim).kp j (b.kp j hj)
      have h2 : ((backE (lockL ρ1 r) ρe vs).get j).isSome = true := by
        by_cases hv : j ∈ vs
        · rw [backE_in hl hv]; exact h1
        · rw [backE_ne hv]; exact kp j hv h1
      exact unlockL_some h2
    refine G2 H' F' ⟨bu.sim, bu.stp, kpu, bu.pv⟩ (.ref D) ⟨D, rfl, none_back b.stp.live hD, fD, .inl ⟨xs, ds, rfl, hxs, rds⟩, fun ⟨j, z⟩ => ?_⟩
    rcases back_at hl hw (unlockL_at z) with z | z
    · exact (SL.ownL ⟨j, z⟩).1 hD
    · exact no ⟨j, z⟩
end
end Ev

set_option Elab.async false
set_option linter.all false
set_option maxRecDepth 100000
set_option maxHeartbeats 1000000
/-! Ev6i: list comprehensions as values and stored. Own work. -/
namespace Ev
open PySem PySem.Spec PyProof.Rows L2
section
variable {g : Gi} {Φ : Fns} {k : Nat} {ct : Ct} {X : Cx} {ρ ρ' ρ0 ρ1 ρ2 : En} {σ σ' σ0 σ1 σ2 : St} {H F H' F' H0 F0 H1 F1 H2 F2 : Hp} {W : WX} {Z : Ends}
def blkB (ct : Ct) (scope : Scope) (own : List (Str × Nat)) : Bool :=
  (scope.kind == .function) && (scope.names.all fun y => decide (scope.names.lookup y.1 = some y.2)) && (own.all fun p => decide (ct.N[p.2]? = some p.1)) &&
  (scope.names.all fun y => y.2 != .free || (ct.sc.names.lookup y.1 == some .cell || ct.sc.names.lookup y.1 == some .free)) &&
  (scope.names.all fun y => !(y.2 == .local || y.2 == .cell) || ((own.map (·.1)).contains y.1 || !ct.N.contains y.1))
theorem blkB_ok {scope : Scope} {own : List (Str × Nat)} (xo : XOk g Φ k ct X) (h : blkB ct scope own = true) : BlkOk X.N X.env.scope scope own := by
  unfold blkB at h
  rw [Bool.and_eq_true, Bool.and_eq_true, Bool.and_eq_true, Bool.and_eq_true, List.all_eq_true, List.all_eq_true, List.all_eq_true, List.all_eq_true] at h
  obtain ⟨⟨⟨⟨h1, h2⟩, h3⟩, h4⟩, h5⟩ := h
  rw [xo.N, xo.sc]
  refine ⟨by simpa using h1, fun y hy => of_decide_eq_true (h2 y hy), fun p hp => of_decide_eq_true (h3 p hp), fun y hy e => ?_, fun y hy e => ?_⟩
  · have := h4 y hy
    rw [e] at this
    simpa using this
  · have := h5 y hy
    rw [Bool.or_eq_true] at this
    rcases this with z | z
    · exfalso
      rcases e with e | e <;> rw [e] at z <;> simp at z
    · simpa using z
theorem pg_W {scope : Scope} {tg : Expr} (s : Shared) (H : Hp) (C : Addr) (cl : List (Str × Addr)) (fp : List Addr) : PG (X.blk s H scope (compEnvC scope cl C X.env) fp) tg (gW X scope tg) := ⟨fun pins s σ H v u Q I r h => h _ _ _ _ _ pins s u I r⟩
theorem pe_W {scope : Scope} {e : Expr} (s : Shared) (H : Hp) (C : Addr) (cl : List (Str × Addr)) (fp : List Addr) : PE (X.blk s H scope (compEnvC scope cl C X.env) fp) e (eW X scope e) := ⟨fun pins s σ H Q I h => h _ _ _ _ _ pins s I⟩
theorem pt_W {scope : Scope} {ifs : List Expr} {its : Ts} {c' : Ct} (hts : STs g Φ k c' ifs its) (s : Shared) (H : Hp) (C : Addr) (cl : List (Str × Addr)) (fp : List Addr) : PTs (X.blk s H scope (compEnvC scope cl C X.env) fp) ifs (tW X scope ifs) := by
  cases hts with
  | nil => exact pts_nil
  | one h => exact pts_one ⟨fun pins s σ H Q I h => h _ _ _ _ _ pins s I⟩
theorem se_lc {tg iter elt : Expr} {ifs : List Expr} {scope : Scope} {own : List (Str × Nat)} {is : List Nat} {iw : Wk} {its : Ts} {ie : E} {pos : Pos} (hc : ct.calm = true) (hs : nset iter = true) (hb : blkB ct scope own = true) (hi : SI g Φ k ct tg iter iw) (htg : SG g Φ k (blkC ct scope) tg is) (hts : STs g Φ k (blkC ct scope) ifs its)
    (he : SE g Φ k (blkC ct scope) elt ie) (hsub : is.all (fun i => (own.map (·.2)).contains i) = true) : SE g Φ k ct (.ListComp elt [⟨tg, iter, ifs, 0⟩] scope pos) (.lc ie is iw its (own.map (·.2))) := by
  intro X xo ρ σ H F S Q W tk G
  have hsub : ∀ i ∈ is, i ∈ own.map (·.2) := fun i hi => by
    rw [List.all_eq_true] at hsub
    simpa using hsub i hi
  exact PE.d (pe_lc (xo.rm.calm.trans hc) xo.nd pi_D (blkB_ok xo hb) pg_W (pt_W hts) pe_W (nset_ok hs)) (lc_go xo S tk hi htg hts he hsub G)
def swB (sc scope : Scope) (y : Str) (py pos : Pos) : Bool := sc.names.lookup y == some .local && py.line == pos.line && !(scope.names.any fun (n, k) => n == y && (k == .local || k == .cell))
theorem swB_eq {elt : Expr} {gs : List Comprehension} {scope : Scope} {pos py : Pos} {y : Str} {l : Nat} {env : Env} (hk : env.scope.kind = .function) : swapsWith (.ListComp elt gs scope pos) (some (.Name y py)) l env = pure (swB env.scope scope y py pos) := by
  have hb : env.blockKind = .function := by unfold Env.blockKind; rw [hk] <;> rfl
  have hk2 : env.kindOf y = env.scope.names.lookup y := rfl
  unfold swapsWith swB
  simp only [hb, hk2, Expr.pos]
  rfl
theorem ss_setLc {y : Str} {i : Nat} {py spos : Pos} {tg iter elt : Expr} {ifs : List Expr} {scope : Scope} {own : List (Str × Nat)} {is : List Nat} {iw : Wk} {its : Ts} {ie : E} {pos : Pos} (hc : ct.calm = true) (hs : nset iter = true) (hb : blkB ct scope own = true) (hi : SI g Φ k ct tg iter iw) (htg : SG g Φ k (blkC ct scope) tg is) (hts : STs g Φ k (blkC ct scope) ifs its)
    (he : SE g Φ k (blkC ct scope) elt ie) (hsub : is.all (fun i => (own.map (·.2)).contains i) = true) (hN : ct.N[i]? = some y) (hl : locB ct y = true) (hsb : setB ct i = true) :
    SS g Φ k ct (.Assign [.Name y py] (.ListComp elt [⟨tg, iter, ifs, 0⟩] scope pos) spos) (.set i (.lc ie is iw its (own.map (·.2)))) := by
  intro X xo ρ σ H F S Z W tk G pins s I
  have hsub' : ∀ i ∈ is, i ∈ own.map (·.2) := fun i hi => by
    rw [List.all_eq_true] at hsub
    simpa using hsub i hi
  have hsw := swB_eq (elt := elt) (gs := [⟨tg, iter, ifs, 0⟩]) (scope := scope) (pos := pos) (py := py) (y := y) (l := spos.line) (env := X.env) I.ok.kind
  rw [xo.sc] at hsw
  have fin : ∀ v r ρ1 H1 F1, Bh g ρ σ H F ρ1 σ H1 F1 → VrRel g ρ1 σ H1 F1 H v r → GdS g ct ρ σ H F ((storeR i r ρ1).bind fun _ ρ => .ok .nx ρ) Z W → Z.nx (σ.set i (some v)) H1 := fun v r ρ1 H1 F1 b q G1 => by
    cases hst : storeR i r ρ1 with
    | ok u ρ2 =>
      rw [hst] at G1
      obtain ⟨F2, b2⟩ := store_bs b hsb q hst
      exact GdS.now (W := W) (Z := Z) (c := .nx) G1 b2
    | ex x ρ2 =>
      exfalso
      unfold storeR at hst
      split at hst
      · cases r with
        | v d => cases hst
        | o d => cases hst
        | s j =>
          dsimp only at hst
          rw [keep_s] at hst
          cases hg : ρ1.get j with
          | none => rw [hg] at hst; cases hst
          | some s => rw [hg] at hst; cases hst
      · cases hst
    | err => rw [hst] at G1; exact G1.elim
  have G' : GdS g ct ρ σ H F ((evE Φ (.lc ie is iw its (own.map (·.2))) ρ).bind fun x ρ => (storeR i x ρ).bind fun _ ρ => .ok .nx ρ) Z W := G
  cases hB : swB ct.sc scope y py pos with
  | true =>
    rw [hB] at hsw
    have hyl : ct.sc.names.lookup y = some .local := by
      unfold swB at hB
      rw [Bool.and_eq_true, Bool.and_eq_true] at hB
      simpa using hB.1.1
    refine PS.d (ps_setLc (xo.rm.calm.trans hc) xo.nd (by rw [xo.N]; exact hN) (by rw [xo.sc]; exact hyl) hsw pi_D (blkB_ok xo hb) pg_W (pt_W hts) pe_W (nset_ok hs)) ?_ pins s I
    refine lc_go xo S tk hi htg hts he hsub' ?_
    cases hev : evE Φ (.lc ie is iw its (own.map (·.2))) ρ with
    | ok r ρ1 =>
      rw [hev] at G'
      exact fun H' F' b v hv => fin v r ρ1 H' F' b hv G'
    | ex x ρ1 => rw [hev] at G'; exact fun cls d H' F' b q => G' σ cls d H' F' b.s q
    | err => rw [hev] at G'; exact G'.elim
  | false =>
    rw [hB] at hsw
    refine PS.d (ps_set xo.nd (by rw [xo.N]; exact hN) (by rw [xo.sc]; exact locB_ok hl) pe_D hsw (locB_fn xo hl)) ?_ pins s I
    exact (se_lc hc hs hb hi htg hts he hsub).goS xo S tk G' fin
end
end Ev

set_option Elab.async false
set_option linter.all false
set_option maxRecDepth 100000
set_option maxHeartbeats 1000000
/-! Ev7: a def keeps what the evaluator says. Own work. -/
namespace Ev
open PySem PySem.Spec PyProof.Rows L2
section
variable {g : Gi} {Φ : Fns} {k : Nat} {ct : Ct} {X : Cx} {ρ ρ' ρ0 ρ1 ρ2 : En} {σ σ' σ0 σ1 σ2 : St} {H F H' F' H0 F0 H1 F1 H2 F2 : Hp} {W : WX} {Z : Ends}
theorem frzAt_len {l : List Sl} : ∀ {js : List Nat}, (frzAt js l).length = l.length
  | [] => rfl
  | j :: js => by
    unfold frzAt
    split
    · rw [List.length_set, frzAt_len]
    · exact frzAt_len
theorem frzAt_d {l : List Sl} {i : Nat} {s : Sl} (h : l[i]? = some s) : ∀ {js : List Nat}, ∃ t, (frzAt js l)[i]? = some t ∧ t.d = s.d ∧ (t.m = s.m ∨ t.m = .fz)
  | [] => ⟨s, h, rfl, .inl rfl⟩
  | j :: js => by
    obtain ⟨t, t1, t2, t3⟩ := frzAt_d h (js := js)
    unfold frzAt
    split
    · rename_i u hu
      by_cases hij : j = i
      · subst hij
        rw [h] at hu
        cases hu
        refine ⟨⟨.fz, s.d⟩, ?_, rfl, .inr rfl⟩
        rw [List.getElem?_set_self (by rw [frzAt_len]; exact (List.getElem?_eq_some_iff.mp h).1)]
      · exact ⟨t, by rw [List.getElem?_set_ne hij]; exact t1, t2, t3⟩
    · exact ⟨t, t1, t2, t3⟩
theorem frzAt_fz {l : List Sl} {i : Nat} {s : Sl} : ∀ {js : List Nat}, i ∈ js → (frzAt js l)[i]? = some s → s.m = .fz
  | [], h, _ => by cases h
  | j :: js, h, e => by
    unfold frzAt at e
    by_cases hij : j = i
    · subst hij
      split at e
      · rename_i u hu
        rw [List.getElem?_set_self (by rw [frzAt_len]; exact (List.getElem?_eq_some_iff.mp hu).1)] at e
        cases e
        rfl
      · rename_i hu
        rw [List.getElem?_eq_none_iff] at hu
        rw [List.getElem?_eq_none (by rw [frzAt_len]; exact hu)] at e
        cases e
    · have hi : i ∈ js := by
        rcases List.mem_cons.mp h with h | h
        · exact absurd h.symm hij
        · exact h
      split at e
      · rw [List.getElem?_set_ne hij] at e
        exact frzAt_fz hi e
      · exact frzAt_fz hi e
theorem map_set {l : List Sl} {i : Nat} {s : Sl} : (l.set i s).map some = (l.map some).set i (some s) := by
  rw [List.map_set]
theorem frzAt_bh {as : List Sl} : ∀ {js : List Nat}, Sim g (as.map some) σ H F → ∃ F', Bh g (as.map some) σ H F ((frzAt js as).map some) σ H F'
  | [], S => ⟨F, Bh.refl S⟩
  | j :: js, S => by
    obtain ⟨F1, b⟩ := frzAt_bh (js := js) S
    unfold frzAt
    split
    · rename_i s hs
      obtain ⟨t, t1, t2, _⟩ := frzAt_d hs (js := js)
      obtain ⟨F2, b2, _⟩ := frz_bh b (i := j) (s := t) (by rw [get_map]; exact t1)
      refine ⟨F2, ?_⟩
      rw [map_set, ← t2]
      exact b2
    · exact ⟨F1, b⟩
/-! ### the frame ahead of the body, behind it -/
theorem ext_get {l : List Sl} {m i : Nat} : En.get (l.map some ++ List.replicate m none) i = l[i]? := by
  unfold En.get
  by_cases h : i < l.length
  · rw [List.getElem?_append_left (by rw [List.length_map]; exact h), List.getElem?_map]
    cases l[i]? <;> rfl
  · rw [List.getElem?_append_right (by rw [List.length_map]; omega), List.getElem?_replicate, List.getElem?_eq_none (by omega : l.length ≤ i)]
    by_cases hm : i - (l.map some).length < m
    · rw [if_pos hm]
    · rw [if_neg hm]
theorem ext_at {vs : List V} {m i : Nat} {v : V} (h : i < vs.length) : (vs.map some ++ List.replicate m none)[i]? = some (some v) ↔ vs[i]? = some v := by
  rw [List.getElem?_append_left (by rw [List.length_map]; exact h)]
  exact map_at _ _ _
theorem ext_sim {as : List Sl} {vs : List V} {m : Nat} (S : Sim g (as.map some) (vs.map some) H F) : Sim g (as.map some ++ List.replicate m none) (vs.map some ++ List.replicate m none) H F := by
  have hl : as.length = vs.length := by have := S.len; rwa [List.length_map, List.length_map] at this
  have lt : ∀ i s, as[i]? = some s → i < vs.length := fun i s h => by rw [← hl]; exact (List.getElem?_eq_some_iff.mp h).1
  refine ⟨by simp [hl], S.sub, fun i s h => ?_, fun i j s t a h1 h2 m1 m2 v1 v2 => ?_⟩
  · rw [ext_get] at h
    obtain ⟨v, e, q⟩ := S.val i s (by rw [get_map]; exact h)
    exact ⟨v, (ext_at (lt i s h)).mpr ((map_at _ _ _).mp e), q⟩
  · rw [ext_get] at h1 h2
    rw [ext_at (lt i s h1)] at v1
    rw [ext_at (lt j t h2)] at v2
    exact S.sep i j s t a (by rw [get_map]; exact h1) (by rw [get_map]; exact h2) m1 m2 ((map_at _ _ _).mpr v1) ((map_at _ _ _).mpr v2)
theorem allSome_at : ∀ {l : List (Option Sl)} {outs : List Sl}, allSome l = some outs → outs.length = l.length ∧ ∀ (i : Nat) s, outs[i]? = some s → l[i]? = some (some s)
  | [], outs, h => by cases h; exact ⟨rfl, fun i s h => by simp at h⟩
  | some a :: r, outs, h => by
    unfold allSome at h
    split at h
    · rename_i l e
      cases h
      obtain ⟨h1, h2⟩ := allSome_at e
      refine ⟨by rw [List.length_cons, List.length_cons, h1], fun i s hs => ?_⟩
      cases i with
      | zero => cases hs; rfl
      | succ i => exact h2 i s (by simpa using hs)
    · cases h
  | none :: r, outs, h => by cases h
theorem backAt_len {l0 l : List Sl} : ∀ {js : List Nat}, (backAt l0 js l).length = l.length
  | [] => rfl
  | j :: js => by
    unfold backAt
    split
    · rw [List.length_set, backAt_len]
    · exact backAt_len
theorem backAt_at {l0 l : List Sl} (hl : l0.length = l.length) {i : Nat} {s : Sl} : ∀ {js : List Nat}, (backAt l0 js l)[i]? = some s → (i ∈ js ∧ l0[i]? = some s) ∨ (i ∉ js ∧ l[i]? = some s)
  | [], h => .inr ⟨(fun z => by cases z), h⟩
  | j :: js, h => by
    unfold backAt at h
    split at h
    · rename_i u hu
      by_cases hij : j = i
      · subst hij
        rw [List.getElem?_set_self (by rw [backAt_len, ← hl]; exact (List.getElem?_eq_some_iff.mp hu).1)] at h
        cases h
        exact .inl ⟨List.mem_cons_self, hu⟩
      · rw [List.getElem?_set_ne hij] at h
        rcases backAt_at hl h with ⟨z1, z2⟩ | ⟨z1, z2⟩
        · exact .inl ⟨List.mem_cons_of_mem _ z1, z2⟩
        · refine .inr ⟨fun z => ?_, z2⟩
          rcases List.mem_cons.mp z with z | z
          · exact hij z.symm
          · exact z1 z
    · rename_i hu
      rcases backAt_at hl h with ⟨z1, z2⟩ | ⟨z1, z2⟩
      · exact .inl ⟨List.mem_cons_of_mem _ z1, z2⟩
      · refine .inr ⟨fun z => ?_, z2⟩
        rcases List.mem_cons.mp z with z | z
        · subst z
          rw [List.getElem?_eq_none_iff] at hu
          have := (List.getElem?_eq_some_iff.mp z2).1
          omega
        · exact z1 z
theorem ret_bh {as outs : List Sl} {vs : List V} {m : Nat} (S : Sim g (as.map some) (vs.map some) H F) (hfz : ∀ i ∈ ct.reb, ∀ s, as[i]? = some s → s.m = .fz) (hnp : ct.np = vs.length) (b : Bs g ct (as.map some ++ List.replicate m none) (vs.map some ++ List.replicate m none) H F ρ' σ' H' F') (ho : allSome (ρ'.take ct.np) = some outs) (hol : outs.length = ct.np) :
    Bh g (as.map some) (vs.map some) H F ((backAt as ct.reb outs).map some) (vs.map some) H' F' ∧ (∀ j a, OwnAt ((backAt as ct.reb outs).map some) (vs.map some) j a → j < ct.np ∧ OwnAt ρ' σ' j a) ∧ (backAt as ct.reb outs).length = vs.length := by
  have hl : as.length = vs.length := by have := S.len; rwa [List.length_map, List.length_map] at this
  obtain ⟨ol, oat⟩ := allSome_at ho
  have outl : outs.length = vs.length := by rw [hol, hnp]
  have outg : ∀ i s, outs[i]? = some s → i < ct.np ∧ ρ'.get i = some s := fun i s h => by
    have := oat i s h
    have hi : i < ct.np := by rw [hnp, ← outl]; exact (List.getElem?_eq_some_iff.mp h).1
    rw [List.getElem?_take_of_lt hi] at this
    exact ⟨hi, by unfold En.get; rw [this]⟩
  have keyv : ∀ i v, i < ct.np → i ∉ ct.reb → (σ'[i]? = some (some v) ↔ vs[i]? = some v) := fun i v h1 h2 => by
    rw [b.fx i h1 h2]
    exact ext_at (by rw [← hnp]; exact h1)
  have side : ∀ i s, (backAt as ct.reb outs)[i]? = some s → (i ∈ ct.reb ∧ as[i]? = some s ∧ s.m = .fz) ∨ (i ∉ ct.reb ∧ i < ct.np ∧ ρ'.get i = some s) := fun i s h => by
    rcases backAt_at (by rw [hl, outl]) h with ⟨h1, h2⟩ | ⟨h1, h2⟩
    · exact .inl ⟨h1, h2, hfz i h1 s h2⟩
    · obtain ⟨q1, q2⟩ := outg i s h2
      exact .inr ⟨h1, q1, q2⟩
  have at_ : ∀ j a, OwnAt ((backAt as ct.reb outs).map some) (vs.map some) j a → j < ct.np ∧ OwnAt ρ' σ' j a := fun j a ⟨s, h1, h2, h3⟩ => by
    rw [get_map] at h1
    rcases side j s h1 with ⟨_, _, z⟩ | ⟨n, lt, e⟩
    · exact absurd z h2
    · exact ⟨lt, s, e, h2, (keyv j _ lt n).mpr ((map_at _ _ _).mp h3)⟩
  have atm : ∀ j a, OwnM ((backAt as ct.reb outs).map some) (vs.map some) j a → OwnM ρ' σ' j a := fun j a ⟨s, h1, h2, h3⟩ => by
    rw [get_map] at h1
    rcases side j s h1 with ⟨_, _, z⟩ | ⟨n, lt, e⟩
    · rw [h2] at z; cases z
    · exact ⟨s, e, h2, (keyv j _ lt n).mpr ((map_at _ _ _).mp h3)⟩
  have st1 : ∀ j a, OwnAt (as.map some ++ List.replicate m none) (vs.map some ++ List.replicate m none) j a → OwnAt (as.map some) (vs.map some) j a := fun j a ⟨s, h1, h2, h3⟩ => by
    rw [ext_get] at h1
    have lt : j < vs.length := by rw [← hl]; exact (List.getElem?_eq_some_iff.mp h1).1
    rw [ext_at lt] at h3
    exact ⟨s, by rw [get_map]; exact h1, h2, (map_at _ _ _).mpr h3⟩
  have st2 : ∀ j a, OwnM (as.map some ++ List.replicate m none) (vs.map some ++ List.replicate m none) j a → OwnM (as.map some) (vs.map some) j a := fun j a ⟨s, h1, h2, h3⟩ => by
    rw [ext_get] at h1
    have lt : j < vs.length := by rw [← hl]; exact (List.getElem?_eq_some_iff.mp h1).1
    rw [ext_at lt] at h3
    exact ⟨s, by rw [get_map]; exact h1, h2, (map_at _ _ _).mpr h3⟩
  refine ⟨⟨⟨by rw [List.length_map, List.length_map, backAt_len, outl], b.sim.sub, fun i s h => ?_, fun i j s t a h1 h2 m1 m2 v1 v2 => ?_⟩, ⟨b.stp.fzs, fun c z => ?_, fun c o h n => ?_, b.stp.live, fun c ⟨j, z⟩ => ?_, fun c ⟨j, z⟩ => ?_⟩, fun i hi => ?_, fun j a z => ?_, fun j a z => ?_⟩, at_, by rw [backAt_len, outl]⟩
  · rw [get_map] at h
    rcases side i s h with ⟨_, e, z⟩ | ⟨n, lt, e⟩
    · obtain ⟨v, h1, q⟩ := S.val i s (by rw [get_map]; exact e)
      exact ⟨v, h1, q.mono b.stp.fzs fun a hm _ => absurd z hm⟩
    · obtain ⟨v, h1, q⟩ := b.sim.val i s e
      exact ⟨v, (map_at _ _ _).mpr ((keyv i v lt n).mp h1), q⟩
  · obtain ⟨_, u, u1, u2, u3⟩ := at_ i a ⟨s, h1, m1, v1⟩
    obtain ⟨_, u', w1, w2, w3⟩ := at_ j a ⟨t, h2, m2, v2⟩
    exact b.sim.sep i j u u' a u1 w1 u2 w2 u3 w3
  · rcases b.stp.fzn c z with z | z | ⟨j, z⟩
    · exact .inl z
    · exact .inr (.inl z)
    · exact .inr (.inr ⟨j, st1 j c z⟩)
  · exact b.stp.mod c o h fun ⟨j, z⟩ => n ⟨j, st2 j c z⟩
  · rcases b.pv.1 j c (atm j c z) with z | z
    · exact .inl ⟨j, st2 j c z⟩
    · exact .inr z
  · rcases b.pv.2 j c (at_ j c z).2 with z | z
    · exact .inl ⟨j, st1 j c z⟩
    · exact .inr z
  · rw [get_map] at hi ⊢
    have : i < as.length := by
      obtain ⟨s, hs⟩ := Option.isSome_iff_exists.mp hi
      exact (List.getElem?_eq_some_iff.mp hs).1
    rw [List.getElem?_eq_getElem (by rw [backAt_len, outl, ← hl]; exact this)] <;> rfl
  · rcases b.pv.1 j a (atm j a z) with z | z
    · exact .inl (st2 j a z)
    · exact .inr z
  · rcases b.pv.2 j a (at_ j a z).2 with z | z
    · exact .inl (st1 j a z)
    · exact .inr z
end
end Ev

set_option Elab.async false
set_option linter.all false
set_option maxRecDepth 100000
set_option maxHeartbeats 1000000
/-! Ev7b: the promise of a def. Own work. -/
namespace Ev
open PySem PySem.Spec PyProof.Rows L2
section
variable {g : Gi} {Φ : Fns} {k : Nat} {ct : Ct} {X : Cx} {ρ ρ' ρ0 ρ1 ρ2 : En} {σ σ' σ0 σ1 σ2 : St} {H F H' F' H0 F0 H1 F1 H2 F2 : Hp} {W : WX} {Z : Ends}
/-- the body's wish, from what the call wishes -/
theorem body_gd {as : List Sl} {vs : List V} {df : Df} {Q : VK} {E : XK} (S : Sim g (as.map some) (vs.map some) H F) (G : GdC g as vs H F (runDf Φ df as) Q E) (hnp : df.np = ct.np) (hreb : df.reb = ct.reb) (hlv : vs.length = ct.np) (hns : df.ns = ct.N.length) :
    ∃ F0, Sim g ((frzAt ct.reb as).map some ++ List.replicate (df.ns - df.np) none) (L2.start ct.N vs) H F0 ∧ ct.np ≤ ct.N.length ∧
      GdS g ct ((frzAt ct.reb as).map some ++ List.replicate (df.ns - df.np) none) (L2.start ct.N vs) H F0 (evSs Φ ct.np df.body ((frzAt ct.reb as).map some ++ List.replicate (df.ns - df.np) none)) { nx := fun _ H' => Q .non H', rt := Q } (fun cls d _ H => E cls d H) := by
  obtain ⟨F0, b0⟩ := frzAt_bh (js := ct.reb) S
  have hst : L2.start ct.N vs = vs.map some ++ List.replicate (df.ns - df.np) none := by unfold L2.start; rw [hns, hnp, hlv]
  rw [hst]
  unfold runDf at G
  split at G
  case isFalse => exact G.elim
  rename_i hc
  refine ⟨F0, ext_sim b0.sim, by rw [← hns, ← hnp]; exact hc.2, ?_⟩
  rw [hreb, hnp] at G
  rw [hnp]
  have hfz : ∀ i ∈ ct.reb, ∀ s, (frzAt ct.reb as)[i]? = some s → s.m = .fz := fun i hi s hs => frzAt_fz hi hs
  have lx : ∀ c : List Sl, c.length = vs.length → c.length = vs.length := fun _ h => h
  have hn : ∀ i a, ct.np ≤ i → ¬ OwnAt ((frzAt ct.reb as).map some ++ List.replicate (df.ns - ct.np) none) (vs.map some ++ List.replicate (df.ns - ct.np) none) i a := fun i a hi ⟨s, h1, _⟩ => by
    rw [ext_get] at h1
    have := (List.getElem?_eq_some_iff.mp h1).1
    rw [frzAt_len] at this
    have hal : as.length = vs.length := by have := S.len; rwa [List.length_map, List.length_map] at this
    omega
  dsimp only at G
  cases he : evSs Φ ct.np df.body ((frzAt ct.reb as).map some ++ List.replicate (df.ns - ct.np) none) with
  | ok c ρ' =>
    rw [he] at G
    dsimp only at G
    intro σ' H' F' b
    cases ho : allSome (ρ'.take ct.np) with
    | none => rw [ho] at G; exact G.elim
    | some outs =>
      rw [ho] at G
      dsimp only at G
      split at G
      case isFalse => exact G.elim
      rename_i hol
      obtain ⟨bb, ba, bl⟩ := ret_bh b0.sim hfz hlv.symm b ho hol
      cases c with
      | nx => exact G bl .non H' F' (b0.trans bb) .non
      | br => exact G.elim
      | ct => exact G.elim
      | rt own d =>
        intro v hv
        refine G bl v H' F' (b0.trans bb) ?_
        unfold RtRel at hv
        cases own with
        | false => exact hv
        | true =>
          obtain ⟨a, e1, e2, e3, e4, e5⟩ := hv
          refine ⟨a, e1, ?_, e2, e3, fun ⟨j, z⟩ => ?_⟩
          · rcases e5 with z | ⟨i, hi, z⟩
            · exact z
            · exact absurd z (hn i a hi)
          · obtain ⟨q1, q2⟩ := ba j a z
            exact e4 j q1 q2
  | ex x ρ' =>
    rw [he] at G
    dsimp only at G
    intro σ' cls d H' F' b xr
    cases ho : allSome (ρ'.take ct.np) with
    | none => rw [ho] at G; exact G.elim
    | some outs =>
      rw [ho] at G
      dsimp only at G
      split at G
      case isFalse => exact G.elim
      rename_i hol
      obtain ⟨bb, ba, bl⟩ := ret_bh b0.sim hfz hlv.symm b ho hol
      exact G bl cls d H' F' (b0.trans bb) xr
  | err => rw [he] at G; exact G.elim
/-- what is told of the text and the state, whatever the frame -/
structure Wd (P : Program) (w : World) (K : PySem.W.Frag) (mg : Str → Option Value) (base : Heap) (g : Gi) (Φ : Fns) (k : Nat) (gl : List (Str × GK)) (sg : List (Nat × Nat × List Str × List Nat)) : Prop where
  kk : K = g.K
  glob : ∀ x q, gl.lookup x = some q → match q with
    | .fn n => ∃ f, g.fa n = some f ∧ mg x = some (.ref f)
    | .free => mg x = none
    | .cst d => ∃ v u, mg x = some u ∧ RelV v u ∧ ∀ F, RD g F v d
  fns : ∀ n f, g.fa n = some f → ∃ fd ps, PySem.W.keepIn K (.ref f) = true ∧ FnG P w K mg base g Φ k f fd ps n ∧ ∀ np ks pm, (n, np, ks, pm) ∈ sg → Bnd K fd ps np ks pm
/-- the context of a def's body -/
def ctOf (N : List Str) (scope : Scope) (gl : List (Str × GK)) (sg : List (Nat × Nat × List Str × List Nat)) (np : Nat) (reb : List Nat) : Ct := ⟨N, scope, gl, sg, true, true, np, reb, fun _ => true⟩
theorem fn_g {P : Program} {w : World} {K : PySem.W.Frag} {mg : Str → Option Value} {base : Heap} {gl : List (Str × GK)} {sg : List (Nat × Nat × List Str × List Nat)} {f : Addr} {name qual : Str} {params : Arguments} {body : List Stmt} {scope : Scope} {dV kV doc pm cdv ctv oc : Value} {an od : Option Addr} {osl : Array (Option Value)} {N ps : List Str} {df : Df} {n : Nat} {Δ : Tab} {k : Nat}
    (lk : K.lookup f = some ⟨oc, od, .func (PySem.W.fnOf name qual params body scope dV kV doc pm an cdv ctv), osl⟩) (hcd : PySem.W.codeIn K cdv qual = true) (SC : FnScope N ps scope) (wd : Wd P w K mg base g (Phi Δ k) k gl sg) (hD : Δ.lookup n = some df) (hnp : df.np = ps.length) (hns : df.ns = N.length)
    (hb : SSs g (Phi Δ k) k (ctOf N scope gl sg ps.length df.reb) body df.body) : FnG P w K mg base g (Phi Δ (k + 1)) (k + 1) f (PySem.W.fnOf name qual params body scope dV kV doc pm an cdv ctv) ps n := by
  intro A outer s H F args us vs as Q E room guards e0 binds rv hlen Sm G
  have G : GdC g as vs H F (runDf (Phi Δ k) df as) Q E := by
    have e : Phi Δ (k + 1) n as = runDf (Phi Δ k) df as := by
      show (match Δ.lookup n with
        | some d => runDf (Phi Δ k) d as
        | none => .err) = _
      rw [hD]
    rw [← e]
    exact G
  have KX : K.In s.heap := e0.mod.kin.keeps fun b o z => (e0.bs b o z).1
  have free : s.heap.NoLimit := e0.mod.nolimit.keeps fun b o z => (e0.bs b o z).1
  have kinds : ∀ y ∈ ps.zip us, scope.names.lookup y.1 = some .local ∨ (scope.names.lookup y.1 = some .cell ∧ ((cellsFrom (s.heap.objs.size + 1) scope.names []).lookup y.1).isSome = true) := fun y hy =>
    (SC.par y.1 (List.of_mem_zip (a := y.1) (b := y.2) hy).1).imp id fun q => ⟨q, PySem.W.cellsFrom_some _ _ _ (.inl q)⟩
  refine codeAny_call_function room.depth (KX _ _ lk) rfl SC.co SC.gen rfl (PySem.W.codeRec_of KX hcd) (binds _ _ _ _ ?_)
  refine wpAny_newFunctionEnv_cells SC.kind kinds fun env he s1 x => ?_
  subst he
  refine ⟨free.keeps x.toInCall.keep, codeAny_func ?_⟩
  obtain ⟨F0, S0, _, G0⟩ := body_gd (ct := ctOf N scope gl sg ps.length df.reb) Sm G hnp rfl hlen hns
  have I : Inv (cxOf (L2.CX P w) P w K mg base N qual scope f cdv A outer s H E) [] (L2.start N vs) H s1 := inv_start SC room.hd e0 hlen rv x
  have rm2 := room.deeper (envOfC qual scope s.heap.objs.size f cdv)
  have xo : XOk g (Phi Δ k) k (ctOf N scope gl sg ps.length df.reb) (cxOf (L2.CX P w) P w K mg base N qual scope f cdv A outer s H E) := {
    N := rfl
    nd := SC.nd
    sc := rfl
    rm := ⟨wd.kk, rfl, by have := rm2.un; show (A.deeper _).units + 100 < cLine; omega, guards⟩
    glob := fun y q h => by
      have := wd.glob y q h
      cases q <;> exact this
    room := fun _ => rm2
    fns := wd.fns
    po := fun _ => passes_of rfl
    fnx := fun _ => rfl }
  have tk : Takes (cxOf (L2.CX P w) P w K mg base N qual scope f cdv A outer s H E) (fun cls d _ H => E cls d H) := takes_of rfl rfl rfl rfl
  have run := hb _ xo _ _ H F0 S0 _ _ tk G0
  refine wpAny_mono (run [] s1 I) (fun fl s' hs => ?_) fun e s' hs => hs
  cases fl with
  | ret u =>
    obtain ⟨v, σ', H', J, r, q⟩ := hs
    exact ⟨v, H', J.os, J.bare, J.base, J.hok, r, q⟩
  | next =>
    obtain ⟨σ', H', J, q⟩ := hs
    exact ⟨V.non, H', J.os, J.bare, J.base, J.hok, rfl, q⟩
  | brk =>
    obtain ⟨_, _, _, q⟩ := hs
    exact q.elim
  | cont =>
    obtain ⟨_, _, _, q⟩ := hs
    exact q.elim
end
end Ev

set_option Elab.async false
set_option linter.all false
set_option maxRecDepth 100000
set_option maxHeartbeats 1000000
/-! Ev8: the text made into the small language. Own work. -/
namespace Ev
open PySem PySem.Spec PyProof.Rows L2
structure Cmp where
  e : Ct → Expr → E
  t : Ct → Expr → T
  s : Ct → Stmt → S
def idx (N : List Str) (x : Str) : Nat := N.findIdx (· == x)
def nameC (ct : Ct) (x : Str) : E :=
  if plainN x = true then
    if visB ct.sc x = true then (if ct.N[idx ct.N x]? = some x then .var (idx ct.N x) else .bad)
    else if glB ct.sc x = true then match ct.gl.lookup x with
      | some (.cst d) => .lit d
      | some (.fn n) => .lit (.fn n)
      | _ => .bad
    else .bad
  else .bad
def constC : Const → E
  | .int i => .lit (.int i)
  | .bool b => .lit (.bl b)
  | .none => .lit .non
  | .str x => if okLB x.cps.toList = true then .lit (.str x.cps.toList) else .bad
  | _ => .bad
def bopOf : Operator → Option Bop
  | .Add => some .add | .Sub => some .sub | .Mult => some .mul | .FloorDiv => some .fdiv | .Mod => some .mod | .Pow => some .pow
  | _ => none
def copOf : CmpOp → Cop
  | .Eq => .eq | .NotEq => .ne | .Lt => .lt | .LtE => .le | .Gt => .gt | .GtE => .ge | .Is => .is | .IsNot => .isnot | .In => .isin | .NotIn => .notin
def cmpC (r : Cmp) (ct : Ct) (a : Expr) : List CmpOp → List Expr → E
  | [o], [b] => if markB (copOf o) b = true then .cmp (copOf o) (r.e ct a) (r.e ct b) else .bad
  | [o1, o2], [b, c] => if marksB (copOf o1) (copOf o2) b c = true then .chain (copOf o1) (copOf o2) (r.e ct a) (r.e ct b) (r.e ct c) else .bad
  | _, _ => .bad
def andC (r : Cmp) (ct : Ct) : List Expr → E
  | [] => .bad
  | [a] => r.e ct a
  | a :: rest => .and (r.e ct a) (andC r ct rest)
def orC (r : Cmp) (ct : Ct) : List Expr → E
  | [] => .bad
  | [a] => r.e ct a
  | a :: rest => .or (r.e ct a) (orC r ct rest)
def andT (r : Cmp) (ct : Ct) : List Expr → T
  | [] => .val .bad
  | [a] => r.t ct a
  | a :: rest => .and (r.t ct a) (andT r ct rest)
def orT (r : Cmp) (ct : Ct) : List Expr → T
  | [] => .val .bad
  | [a] => r.t ct a
  | a :: rest => .or (r.t ct a) (orT r ct rest)
def optC (r : Cmp) (ct : Ct) : Option Expr → Bool × E
  | none => (false, .lit .non)
  | some e => (true, r.e ct e)
def subC (r : Cmp) (ct : Ct) (a : Expr) : Expr → E
  | .Slice lo hi none _ => .sl (optC r ct lo).1 (optC r ct hi).1 (r.e ct a) (optC r ct lo).2 (optC r ct hi).2
  | .Slice none none (some st) _ => .rev (r.e ct a) (r.e ct st)
  | b => if plainIxB b = true then .sub (r.e ct a) (r.e ct b) else .bad
def esC (r : Cmp) (ct : Ct) : List Expr → Es
  | [] => .nil
  | e :: es => .cons (r.e ct e) (esC r ct es)
def ksC (r : Cmp) (ct : Ct) : List Keyword → Es
  | [] => .nil
  | e :: es => .cons (r.e ct e.value) (ksC r ct es)
def biAll : List Bi := [.len, .int, .max2, .min2, .sum, .list, .tuple, .dict, .repr]
def biOf (x : Str) : Option Bi := biAll.find? fun f => biN f == x
def isiAll : List (Bi × String) := [(.isint, "int"), (.isbool, "bool"), (.isstr, "str"), (.islist, "list"), (.istuple, "tuple")]
def isFree (ct : Ct) (x : Str) : Bool := glB ct.sc x && (match ct.gl.lookup x with
  | some .free => true
  | _ => false)
def isiTAll : List Bi := [.isseq, .isbox]
def isiC (r : Cmp) (ct : Ct) : List Expr → E
  | [e, .Tuple es _ _] => match isiTAll.find? fun f => match isiTs f with
      | some cs => tyNames ct cs es
      | none => false with
    | some f => if (isFree ct (Str.ofString "isinstance") && nst e) = true then .bi f (.cons (r.e ct e) .nil) else .bad
    | none => .bad
  | [e, .Name y _] => match isiAll.find? fun p => Str.ofString p.2 == y with
    | some p => if (isFree ct (Str.ofString "isinstance") && isFree ct y && nst e) = true then .bi p.1 (.cons (r.e ct e) .nil) else .bad
    | none => .bad
  | _ => .bad
def kwN : List Keyword → Option (List Str)
  | [] => some []
  | k :: ks => match k.arg, kwN ks with
    | some x, some r => some (x :: r)
    | _, _ => none
def fnC (r : Cmp) (ct : Ct) (x : Str) (args : List Expr) (kws : List Keyword) : E := match ct.gl.lookup x, kwN kws with
  | some (.fn n), some ks => match ct.sg.find? fun q => q.1 == n && q.2.1 == args.length && q.2.2.1 == ks with
    | some q => if (glB ct.sc x && plainN x && ct.calm && decide ((n, args.length, ks, q.2.2.2) ∈ ct.sg) && decide q.2.2.2.Nodup && args.all nst) = true then .call n q.2.2.2 (esC r ct args) (ksC r ct kws) else .bad
    | none => .bad
  | _, _ => .bad
def callC (r : Cmp) (ct : Ct) (x : Str) (args : List Expr) (kws : List Keyword) : E :=
  if x = Str.ofString "isinstance" then (match kws with
    | [] => isiC r ct args
    | _ => .bad) else
  match biOf x with
  | some f => match args, kws with
    | e :: es, [] => if (isFree ct (biN f) && (!biCalm f || ct.calm) && (e :: es).all nst) = true then .bi f (esC r ct (e :: es)) else .bad
    | _, _ => .bad
  | none => fnC r ct x args kws
def mthC (r : Cmp) (ct : Ct) (o : Expr) (m : Str) (apos pos : Pos) : List Expr → E
  | [e] => if (baseB o && lineB apos pos && nst e) = true then
      (if m = Str.ofString "strip" then .mth .strip (r.e ct o) (.cons (r.e ct e) .nil) else if m = Str.ofString "join" then .mth .join (r.e ct o) (.cons (r.e ct e) .nil) else if m = Str.ofString "append" then .mth .append (r.e ct o) (.cons (r.e ct e) .nil) else if m = Str.ofString "index" then .mth .index (r.e ct o) (.cons (r.e ct e) .nil) else .bad) else .bad
  | [] => if (baseB o && lineB apos pos) = true then (if m = Str.ofString "bit_length" then .mth .bits (r.e ct o) .nil else .bad) else .bad
  | _ => .bad
def isTup : Expr → Bool
  | .Tuple _ _ _ => true
  | _ => false
def walkC (r : Cmp) (ct : Ct) (tg : Expr) : Expr → Wk
  | .Call (.Name x p) [a] [] pos => if x = Str.ofString "range" then (if (isFree ct x && nst a) = true then .rng1 (r.e ct a) else .seq .bad)
      else if x = Str.ofString "enumerate" then (if (isFree ct x && nst a && isTup tg) = true then .enum (r.e ct a) else .seq .bad)
      else if x = Str.ofString "reversed" then (if (isFree ct x && nst a) = true then .back (r.e ct a) else .seq .bad) else .seq (r.e ct (.Call (.Name x p) [a] [] pos))
  | .Call (.Name x p) [a, b] [] pos => if x = Str.ofString "range" then (if (isFree ct x && nst a && nst b) = true then .rng2 (r.e ct a) (r.e ct b) else .seq .bad)
      else if x = Str.ofString "zip" then (if (isFree ct x && nst a && nst b && isTup tg) = true then .zip (r.e ct a) (r.e ct b) else .seq .bad) else .seq (r.e ct (.Call (.Name x p) [a, b] [] pos))
  | e => .seq (r.e ct e)
/-- a target's slots -/
def tgC (ct : Ct) : Expr → Option (List Nat)
  | .Name x _ => if (decide (ct.N[idx ct.N x]? = some x) && locB ct x && setB ct (idx ct.N x)) = true then some [idx ct.N x] else none
  | .Tuple es _ _ =>
    let is := es.map fun e => match e with
      | .Name x _ => idx ct.N x
      | _ => 0
    if (ct.calm && namesB ct es is && is.length != 1) = true then some is else none
  | _ => none
def tsC (r : Cmp) (ct : Ct) : List Expr → Option Ts
  | [] => some .nil
  | [c] => some (.cons (r.t ct c) .nil)
  | _ => none
/-- the block's own names with slots -/
def ownC (ct : Ct) (scope : Scope) : List (Str × Nat) := scope.names.filterMap fun (n, k) => if (k == .local || k == .cell) && ct.N.contains n then some (n, idx ct.N n) else none
def lcC (r : Cmp) (ct : Ct) (elt : Expr) (gs : List Comprehension) (scope : Scope) : E := match gs with
  | [⟨tg, iter, ifs, 0⟩] => match tgC (blkC ct scope) tg, tsC r (blkC ct scope) ifs with
    | some is, some ts => if (ct.calm && nset iter && blkB ct scope (ownC ct scope) && is.all fun i => ((ownC ct scope).map (·.2)).contains i) = true then
        .lc (r.e (blkC ct scope) elt) is (walkC r ct tg iter) ts ((ownC ct scope).map (·.2)) else .bad
    | _, _ => .bad
  | _ => .bad
def stepE (r : Cmp) (ct : Ct) : Expr → E
  | .Name x _ => nameC ct x
  | .Constant c _ _ => constC c
  | .BinOp a op b _ => match bopOf op with
    | some o => .bin o (r.e ct a) (r.e ct b)
    | none => .bad
  | .Compare a ops cs _ => cmpC r ct a ops cs
  | .BoolOp .And es _ => andC r ct es
  | .BoolOp .Or es _ => orC r ct es
  | .UnaryOp .Not a _ => .not (r.e ct a)
  | .UnaryOp .USub (.Constant (.int i) _ _) _ => .lit (.int (-i))
  | .IfExp c a b _ => .ifx (r.t ct c) (r.e ct a) (r.e ct b)
  | .Subscript a b _ => subC r ct a b
  | .Tuple es _ _ => if es.all nst = true then .tup (esC r ct es) else .bad
  | .List es _ => if es.all nst = true then .lst (esC r ct es) else .bad
  | .Dict [] [] _ => .dict0
  | .ListComp elt gs scope _ => lcC r ct elt gs scope
  | .Call (.Name x _) args kws _ => callC r ct x args kws
  | .Call (.Attribute o m apos) args [] pos => mthC r ct o m apos pos args
  | _ => .bad
def stepT (r : Cmp) (ct : Ct) : Expr → T
  | .BoolOp .And es _ => andT r ct es
  | .BoolOp .Or es _ => orT r ct es
  | .UnaryOp .Not a _ => .not (r.t ct a)
  | .Compare a ops cs _ => .val (cmpC r ct a ops cs)
  | e => if wholeB e = true then .val (r.e ct e) else .val .bad
def ssC (r : Cmp) (ct : Ct) : List Stmt → Ss
  | [] => .nil
  | s :: ss => .cons (r.s ct s) (ssC r ct ss)
def slotOk (ct : Ct) (x : Str) : Bool := decide (ct.N[idx ct.N x]? = some x) && locB ct x && setB ct (idx ct.N x)
def tupC (r : Cmp) (ct : Ct) (es : List Expr) (v : Expr) : S :=
  let is := es.map fun e => match e with
    | .Name x _ => idx ct.N x
    | _ => 0
  if (ct.calm && namesB ct es is) = true then (match v with
    | .Tuple vs a b => match swS ct.sc es vs with
      | some none => if (decide (is.length ≤ 9) && vs.all nst) = true then .par is (esC r ct vs) else .unp is (r.e ct (.Tuple vs a b))
      | some (some _) => match es, vs with
        | [.Name x px, .Name y py], [a, b] => if (lclB ct x (idx ct.N x) && lclB ct y (idx ct.N y) && idx ct.N x != idx ct.N y && nst a && nst b && decide (swS ct.sc [.Name x px, .Name y py] [a, b] = some (some [x, y]))) = true then .par [idx ct.N x, idx ct.N y] (esC r ct [a, b]) else .bad
        | [.Name x px, .Name y py, .Name z pz], [a, b, c] => if (lclB ct x (idx ct.N x) && lclB ct y (idx ct.N y) && lclB ct z (idx ct.N z) && idx ct.N x != idx ct.N y && idx ct.N x != idx ct.N z && idx ct.N y != idx ct.N z && nst a && nst b && nst c && decide (swS ct.sc [.Name x px, .Name y py, .Name z pz] [a, b, c] = some (some [x, y, z]))) = true then
            .par [idx ct.N x, idx ct.N y, idx ct.N z] (esC r ct [a, b, c]) else .bad
        | _, _ => .bad
      | none => .bad
    | v => if noComp v = true then .unp is (r.e ct v) else .bad) else .bad
def asgC (r : Cmp) (ct : Ct) (t v : Expr) : S := match t with
  | .Name x _ => if slotOk ct x = true then (match v with
      | .ListComp elt gs scope _ => .set (idx ct.N x) (lcC r ct elt gs scope)
      | v => if noComp v = true then .set (idx ct.N x) (r.e ct v) else .bad) else .bad
  | .Subscript o i _ => if (noComp v && plainIxB i) = true then .put (r.e ct o) (r.e ct i) (r.e ct v) else .bad
  | .Tuple es _ _ => tupC r ct es v
  | _ => .bad
def stepS (r : Cmp) (ct : Ct) : Stmt → S
  | .Expr e _ => if noComp e = true then .expr (r.e ct e) else .bad
  | .Assign [t] v _ => asgC r ct t v
  | .Return (some e) _ => .ret (r.e ct e)
  | .If c a b _ => .iff (r.t ct c) (ssC r ct a) (ssC r ct b)
  | .For tg iter body [] _ => match tgC ct tg with
    | some is => if (ct.top && ct.calm && nset iter) = true then .for is (walkC r ct tg iter) (ssC r ct body) else .bad
    | none => .bad
  | .Break _ => .brk
  | .Continue _ => .cont
  | .Pass _ => .pass
  | _ => .bad
def comp : Nat → Cmp
  | 0 => ⟨fun _ _ => .bad, fun _ _ => .val .bad, fun _ _ => .bad⟩
  | n + 1 => ⟨stepE (comp n), stepT (comp n), stepS (comp n)⟩
end Ev

set_option Elab.async false
set_option linter.all false
set_option maxRecDepth 100000
set_option maxHeartbeats 1000000
/-! Ev8b: the small language does what the text does. Own work. -/
namespace Ev
open PySem PySem.Spec PyProof.Rows L2
section
variable {g : Gi} {Φ : Fns} {k : Nat} {ct : Ct} {X : Cx} {r : Cmp}
theorem se_bad {e : Expr} : SE g Φ k ct e .bad := by
  intro X xo ρ σ H F S Q W tk G
  exact G.elim
theorem st_bad {e : Expr} : ST g Φ k ct e (.val .bad) := by
  intro X xo ρ σ H F S Q W tk G
  exact G.elim
theorem stw_bad {e : Expr} : STw g Φ k ct e (.val .bad) := by
  intro X xo ρ σ H F S Q W tk G
  exact G.elim
theorem ss_bad {s : Stmt} : SS g Φ k ct s .bad := by
  intro X xo ρ σ H F S Z W tk G
  exact G.elim
theorem si_bad {tg e : Expr} : SI g Φ k ct tg e (.seq .bad) := si_seq se_bad
theorem se_dict0 {pos : Pos} : SE g Φ k ct (.Dict [] [] pos) .dict0 := by
  intro X xo ρ σ H F S Q W tk G
  refine PE.d pe_dnewK fun p hp => ?_
  exact res_end S (fun _ z => z) G (Res.dic S.sub hp .nil ⟨rfl, fun l hl => by cases hl⟩ .nil)
structure Snd (g : Gi) (Φ : Fns) (k : Nat) (r : Cmp) : Prop where
  e : ∀ ct e, SE g Φ k ct e (r.e ct e)
  t : ∀ ct e, ST g Φ k ct e (r.t ct e)
  s : ∀ ct s, SS g Φ k ct s (r.s ct s)
theorem name_snd {x : Str} {pos : Pos} : SE g Φ k ct (.Name x pos) (nameC ct x) := by
  unfold nameC
  split
  · rename_i hp
    split
    · rename_i hv
      split
      · rename_i hN
        exact se_var hN hv hp
      · exact se_bad
    · split
      · rename_i hg
        split
        · rename_i d hl; exact se_cst hg hl hp
        · rename_i n hl; exact se_fn hg hl hp
        · exact se_bad
      · exact se_bad
  · exact se_bad
theorem const_snd {c : Const} {j : Nat} {pos : Pos} : SE g Φ k ct (.Constant c j pos) (constC c) := by
  unfold constC
  split
  · exact se_int
  · exact se_bl
  · exact se_non
  · split
    · rename_i h; exact se_str h
    · exact se_bad
  · exact se_bad
theorem bopOf_ok {o : Operator} {b : Bop} (h : bopOf o = some b) : o = bopP b := by
  cases o <;> simp only [bopOf] at h <;> cases h <;> rfl
theorem copOf_ok (o : CmpOp) : copP (copOf o) = o := by cases o <;> rfl
theorem cmp_snd (hr : Snd g Φ k r) {a : Expr} {ops : List CmpOp} {cs : List Expr} {pos : Pos} : SE g Φ k ct (.Compare a ops cs pos) (cmpC r ct a ops cs) ∧ ST g Φ k ct (.Compare a ops cs pos) (.val (cmpC r ct a ops cs)) := by
  unfold cmpC
  split
  · rename_i o b
    split
    · rename_i h
      have h1 := se_cmp (pos := pos) (hr.e ct a) (hr.e ct b) h
      have h2 := st_cmp (pos := pos) (hr.e ct a) (hr.e ct b) h
      rw [copOf_ok] at h1 h2
      exact ⟨h1, h2⟩
    · exact ⟨se_bad, st_bad⟩
  · rename_i o1 o2 b c
    split
    · rename_i h
      have h1 := se_chain (pos := pos) (hr.e ct a) (hr.e ct b) (hr.e ct c) h
      have h2 := st_chain (pos := pos) (hr.e ct a) (hr.e ct b) (hr.e ct c) h
      rw [copOf_ok, copOf_ok] at h1 h2
      exact ⟨h1, h2⟩
    · exact ⟨se_bad, st_bad⟩
  · exact ⟨se_bad, st_bad⟩
theorem and_snd (hr : Snd g Φ k r) {pos : Pos} : ∀ es : List Expr, SE g Φ k ct (.BoolOp .And es pos) (andC r ct es)
  | [] => se_bad
  | [a] => se_one (hr.e ct a)
  | a :: b :: rest => se_and (hr.e ct a) (and_snd hr (b :: rest))
theorem or_snd (hr : Snd g Φ k r) {pos : Pos} : ∀ es : List Expr, SE g Φ k ct (.BoolOp .Or es pos) (orC r ct es)
  | [] => se_bad
  | [a] => se_one (hr.e ct a)
  | a :: b :: rest => se_or (hr.e ct a) (or_snd hr (b :: rest))
theorem andT_snd (hr : Snd g Φ k r) {pos : Pos} : ∀ es : List Expr, STw g Φ k ct (.BoolOp .And es pos) (andT r ct es)
  | [] => stw_bad
  | [a] => stw_and1 (hr.t ct a)
  | a :: b :: rest => stw_and (hr.t ct a) (andT_snd hr (b :: rest))
theorem orT_snd (hr : Snd g Φ k r) {pos : Pos} : ∀ es : List Expr, STw g Φ k ct (.BoolOp .Or es pos) (orT r ct es)
  | [] => stw_bad
  | [a] => stw_or1 (hr.t ct a)
  | a :: b :: rest => stw_or (hr.t ct a) (orT_snd hr (b :: rest))
theorem opt_snd (hr : Snd g Φ k r) (o : Option Expr) : SO g Φ k ct (optC r ct o).1 o (optC r ct o).2 := by
  cases o with
  | none => exact .no
  | some e => exact .so (hr.e ct e)
theorem sub_snd (hr : Snd g Φ k r) {a b : Expr} {pos : Pos} : SE g Φ k ct (.Subscript a b pos) (subC r ct a b) := by
  unfold subC
  split
  · exact se_sl (hr.e ct a) (opt_snd hr _) (opt_snd hr _)
  · exact se_rev (hr.e ct a) (hr.e ct _)
  · split
    · rename_i h
      exact se_sub (hr.e ct a) (hr.e ct b) h
    · exact se_bad
theorem es_snd (hr : Snd g Φ k r) : ∀ {es : List Expr}, es.all nst = true → SA g Φ k ct es (esC r ct es)
  | [], _ => sa_nil
  | e :: es, h => by
    rw [List.all_cons, Bool.and_eq_true] at h
    exact sa_cons (hr.e ct e) (es_snd hr h.2) h.1
theorem es_len {es : List Expr} : esLen (esC r ct es) = es.length := by
  induction es with
  | nil => rfl
  | cons e es ih => show esLen (esC r ct es) + 1 = es.length + 1; rw [ih]
theorem ks_snd (hr : Snd g Φ k r) : ∀ {es : List Keyword}, SK g Φ k ct es (ksC r ct es)
  | [] => sk_nil
  | ⟨n, v, p⟩ :: es => sk_cons (hr.e ct v) (ks_snd hr)
theorem ks_len {es : List Keyword} : esLen (ksC r ct es) = es.length := by
  induction es with
  | nil => rfl
  | cons e es ih => show esLen (ksC r ct es) + 1 = es.length + 1; rw [ih]
theorem kwN_ok : ∀ {kws : List Keyword} {ks : List Str}, kwN kws = some ks → kws.map (·.arg) = ks.map some
  | [], ks, h => by cases h; rfl
  | q :: kws, ks, h => by
    unfold kwN at h
    split at h
    · rename_i x r e1 e2
      cases h
      rw [List.map_cons, List.map_cons, kwN_ok e2, e1]
    · cases h
theorem isFree_ok {x : Str} (h : isFree ct x = true) : glB ct.sc x = true ∧ ct.gl.lookup x = some .free := by
  unfold isFree at h
  rw [Bool.and_eq_true] at h
  refine ⟨h.1, ?_⟩
  have h2 := h.2
  split at h2
  · assumption
  · cases h2
theorem isi_snd (hr : Snd g Φ k r) {args : List Expr} {p pos : Pos} : SE g Φ k ct (.Call (.Name (Str.ofString "isinstance") p) args [] pos) (isiC r ct args) := by
  unfold isiC
  split
  · rename_i e es j p2
    split
    · rename_i f hq
      split
      · rename_i hc
        rw [Bool.and_eq_true] at hc
        have ht := List.find?_some hq
        cases hf : isiTs f with
        | none => simp only [hf] at ht; cases ht
        | some cs =>
          simp only [hf] at ht
          exact se_isiT hf (isFree_ok hc.1).1 (isFree_ok hc.1).2 ht hc.2 (hr.e ct e)
      · exact se_bad
    · exact se_bad
  · rename_i e y p2
    split
    · rename_i q hq
      split
      · rename_i hc
        rw [Bool.and_eq_true, Bool.and_eq_true] at hc
        have hy : Str.ofString q.2 = y := by
          have := List.find?_some hq
          simpa using this
        have hm := List.mem_of_find?_eq_some hq
        have hi : isiN q.1 = some q.2 := by
          unfold isiAll at hm
          simp only [List.mem_cons, List.not_mem_nil, or_false] at hm
          rcases hm with h | h | h | h | h <;> rw [h] <;> rfl
        subst hy
        exact se_isi hi (isFree_ok hc.1.1).1 (isFree_ok hc.1.1).2 (isFree_ok hc.1.2).1 (isFree_ok hc.1.2).2 hc.2 (hr.e ct e)
      · exact se_bad
    · exact se_bad
  · exact se_bad
theorem fn_snd (hr : Snd g Φ k r) {x : Str} {args : List Expr} {kws : List Keyword} {p pos : Pos} : SE g Φ k ct (.Call (.Name x p) args kws pos) (fnC r ct x args kws) := by
  unfold fnC
  split
  · rename_i n ks hl hks
    split
    · rename_i q hq
      split
      · rename_i hc
        simp only [Bool.and_eq_true, decide_eq_true_eq] at hc
        obtain ⟨⟨⟨⟨⟨c1, c2⟩, c3⟩, c4⟩, c5⟩, c6⟩ := hc
        have z : args = [] → esC r ct args = .nil := fun h => by rw [h]; rfl
        have hk := kwN_ok hks
        cases kws with
        | nil =>
          cases ks with
          | nil => exact se_call0 c1 hl c2 c3 (by rw [es_len]; exact c4) c5 c6 z (es_snd hr c6)
          | cons _ _ => cases hk
        | cons kw kws =>
          exact se_callK c1 hl c2 c3 (by rw [es_len]; exact c4) c5 c6 z hk (by rw [ks_len]; have := congrArg List.length hk; rwa [List.length_map, List.length_map] at this) (es_snd hr c6) (ks_snd hr)
      · exact se_bad
    · exact se_bad
  · exact se_bad
theorem call_snd (hr : Snd g Φ k r) {x : Str} {args : List Expr} {kws : List Keyword} {p pos : Pos} : SE g Φ k ct (.Call (.Name x p) args kws pos) (callC r ct x args kws) := by
  unfold callC
  split
  · rename_i hx
    subst hx
    split
    · exact isi_snd hr
    · exact se_bad
  · split
    · rename_i f hf
      have hx : biN f = x := by
        have := List.find?_some hf
        simpa using this
      have hi : isiB f = false := by
        have hm := List.mem_of_find?_eq_some hf
        unfold biAll at hm
        simp only [List.mem_cons, List.not_mem_nil, or_false] at hm
        rcases hm with h | h | h | h | h | h | h | h | h <;> rw [h] <;> rfl
      subst hx
      split
      · rename_i e es
        split
        · rename_i hc
          rw [Bool.and_eq_true, Bool.and_eq_true] at hc
          exact se_bi (isFree_ok hc.1.1).1 (isFree_ok hc.1.1).2 hi hc.1.2 hc.2 (es_snd hr hc.2)
        · exact se_bad
      · exact se_bad
    · exact fn_snd hr
theorem mth_snd (hr : Snd g Φ k r) {o : Expr} {m : Str} {apos pos : Pos} {args : List Expr} : SE g Φ k ct (.Call (.Attribute o m apos) args [] pos) (mthC r ct o m apos pos args) := by
  unfold mthC
  split
  · rename_i e
    split
    · rename_i hc
      rw [Bool.and_eq_true, Bool.and_eq_true] at hc
      have ha : SA g Φ k ct [e] (.cons (r.e ct e) .nil) := sa_cons (hr.e ct e) sa_nil hc.2
      split
      · rename_i h; subst h; exact se_strip hc.1.1 hc.1.2 hc.2 (hr.e ct o) ha
      · split
        · rename_i h; subst h; exact se_join hc.1.1 hc.1.2 hc.2 (hr.e ct o) ha
        · split
          · rename_i h; subst h; exact se_append hc.1.1 hc.1.2 hc.2 (hr.e ct o) ha
          · split
            · rename_i h; subst h; exact se_index hc.1.1 hc.1.2 hc.2 (hr.e ct o) ha
            · exact se_bad
    · exact se_bad
  · split
    · rename_i hc
      rw [Bool.and_eq_true] at hc
      split
      · rename_i h; subst h; exact se_bits hc.1 hc.2 (hr.e ct o)
      · exact se_bad
    · exact se_bad
  · exact se_bad
theorem walk_snd (hr : Snd g Φ k r) {tg : Expr} (it : Expr) : SI g Φ k ct tg it (walkC r ct tg it) := by
  unfold walkC
  split
  · rename_i x p a pos
    split
    · rename_i h
      subst h
      split
      · rename_i hc
        rw [Bool.and_eq_true] at hc
        exact si_rng1 (isFree_ok hc.1).1 (isFree_ok hc.1).2 hc.2 (hr.e ct a)
      · exact si_bad
    · split
      · rename_i h
        subst h
        split
        · rename_i hc
          rw [Bool.and_eq_true, Bool.and_eq_true] at hc
          cases tg <;> first
            | exact si_enum (isFree_ok hc.1.1).1 (isFree_ok hc.1.1).2 hc.1.2 (hr.e ct a)
            | exact absurd hc.2 (fun z => nomatch z)
        · exact si_bad
      · split
        · rename_i h
          subst h
          split
          · rename_i hc
            rw [Bool.and_eq_true] at hc
            exact si_back (isFree_ok hc.1).1 (isFree_ok hc.1).2 hc.2 (hr.e ct a)
          · exact si_bad
        · exact si_seq (hr.e ct _)
  · rename_i x p a b pos
    split
    · rename_i h
      subst h
      split
      · rename_i hc
        rw [Bool.and_eq_true, Bool.and_eq_true] at hc
        exact si_rng2 (isFree_ok hc.1.1).1 (isFree_ok hc.1.1).2 hc.1.2 hc.2 (hr.e ct a) (hr.e ct b)
      · exact si_bad
    · split
      · rename_i h
        subst h
        split
        · rename_i hc
          rw [Bool.and_eq_true, Bool.and_eq_true, Bool.and_eq_true] at hc
          cases tg <;> first
            | exact si_zip (isFree_ok hc.1.1.1).1 (isFree_ok hc.1.1.1).2 hc.1.1.2 hc.1.2 (hr.e ct a) (hr.e ct b)
            | exact absurd hc.2 (fun z => nomatch z)
        · exact si_bad
      · exact si_seq (hr.e ct _)
  · exact si_seq (hr.e ct _)
theorem tg_snd {tg : Expr} {is : List Nat} (h : tgC ct tg = some is) : SG g Φ k ct tg is := by
  unfold tgC at h
  split at h
  · rename_i x p
    split at h
    · rename_i hc
      cases h
      simp only [Bool.and_eq_true, decide_eq_true_eq] at hc
      exact sg_name hc.1.1 hc.1.2 hc.2
    · cases h
  · rename_i es a b
    dsimp only at h
    split at h
    · rename_i hc
      cases h
      rw [Bool.and_eq_true, Bool.and_eq_true] at hc
      exact sg_tup hc.1.1 hc.1.2 (by simpa using hc.2)
    · cases h
  · cases h
theorem ts_snd (hr : Snd g Φ k r) {ifs : List Expr} {ts : Ts} (h : tsC r ct ifs = some ts) : STs g Φ k ct ifs ts := by
  unfold tsC at h
  split at h
  · cases h; exact .nil
  · cases h; exact .one (hr.t ct _)
  · cases h
theorem lc_snd (hr : Snd g Φ k r) {elt : Expr} {gs : List Comprehension} {scope : Scope} {pos : Pos} : SE g Φ k ct (.ListComp elt gs scope pos) (lcC r ct elt gs scope) := by
  unfold lcC
  split
  · rename_i tg iter ifs
    split
    · rename_i is ts h1 h2
      split
      · rename_i hc
        simp only [Bool.and_eq_true] at hc
        exact se_lc hc.1.1.1 hc.1.1.2 hc.1.2 (walk_snd hr iter) (tg_snd h1) (ts_snd hr h2) (hr.e _ elt) hc.2
      · exact se_bad
    · exact se_bad
  · exact se_bad
theorem stepE_snd (hr : Snd g Φ k r) (ct : Ct) (e : Expr) : SE g Φ k ct e (stepE r ct e) := by
  unfold stepE
  split
  · exact name_snd
  · exact const_snd
  · rename_i a op b p
    split
    · rename_i o ho
      rw [bopOf_ok ho]
      exact se_bin (hr.e ct a) (hr.e ct b)
    · exact se_bad
  · exact (cmp_snd hr).1
  · exact and_snd hr _
  · exact or_snd hr _
  · exact se_not (hr.e ct _)
  · exact se_neg
  · exact se_ifx (hr.t ct _) (hr.e ct _) (hr.e ct _)
  · exact sub_snd hr
  · split
    · rename_i h; exact se_tup (es_snd hr h)
    · exact se_bad
  · split
    · rename_i h; exact se_lst (es_snd hr h)
    · exact se_bad
  · exact se_dict0
  · exact lc_snd hr
  · exact call_snd hr
  · exact mth_snd hr
  · exact se_bad
theorem stepT_snd (hr : Snd g Φ k r) (ct : Ct) (e : Expr) : ST g Φ k ct e (stepT r ct e) := by
  unfold stepT
  split
  · exact (andT_snd hr _).st
  · exact (orT_snd hr _).st
  · exact st_not (hr.t ct _)
  · exact (cmp_snd hr).2
  · split
    · rename_i h; exact st_val (hr.e ct _) h
    · exact st_bad
theorem sss_snd (hr : Snd g Φ k r) : ∀ {ss : List Stmt}, SSs g Φ k ct ss (ssC r ct ss)
  | [] => sss_nil
  | s :: ss => sss_cons (hr.s ct s) (sss_snd hr)
theorem noTup_of {v : Expr} (hv : ∀ (a : List Expr) (b : Nat) (c : Pos), v = .Tuple a b c → False) : noTup v = true := by
  unfold noTup
  split
  · exact (hv _ _ _ rfl).elim
  · rfl
theorem tup_snd (hr : Snd g Φ k r) {es : List Expr} {v : Expr} {j : Nat} {p pos : Pos} : SS g Φ k ct (.Assign [.Tuple es j p] v pos) (tupC r ct es v) := by
  unfold tupC
  dsimp only
  split
  case isFalse => exact ss_bad
  rename_i hc
  rw [Bool.and_eq_true] at hc
  split
  · rename_i vs a b
    split
    · rename_i hw
      split
      · rename_i h
        rw [Bool.and_eq_true, decide_eq_true_eq] at h
        exact ss_parT hc.1 hc.2 h.1 hw (es_snd hr h.2)
      · exact ss_unpT hc.1 hc.2 hw (hr.e ct _)
    · rename_i ns hw
      split
      · rename_i x px y py a b _
        split
        · rename_i h
          simp only [Bool.and_eq_true, decide_eq_true_eq, bne_iff_ne] at h
          obtain ⟨⟨⟨⟨⟨h1, h2⟩, h3⟩, h4⟩, h5⟩, h6⟩ := h
          exact ss_par2 hc.1 h1 h2 h3 (es_snd hr (by rw [List.all_cons, List.all_cons, h4, h5] <;> rfl)) h6
        · exact ss_bad
      · rename_i x px y py z pz a b c _
        split
        · rename_i h
          simp only [Bool.and_eq_true, decide_eq_true_eq, bne_iff_ne] at h
          obtain ⟨⟨⟨⟨⟨⟨⟨⟨⟨h1, h2⟩, h3⟩, h4⟩, h5⟩, h6⟩, h7⟩, h8⟩, h9⟩, h10⟩ := h
          exact ss_par3 hc.1 h1 h2 h3 h4 h5 h6 (es_snd hr (by rw [List.all_cons, List.all_cons, List.all_cons, h7, h8, h9] <;> rfl)) h10
        · exact ss_bad
      · exact ss_bad
    · exact ss_bad
  · rename_i v hv
    split
    · rename_i h
      exact ss_unp hc.1 hc.2 h (noTup_of hv) (hr.e ct _)
    · exact ss_bad
theorem asg_snd (hr : Snd g Φ k r) {t v : Expr} {pos : Pos} : SS g Φ k ct (.Assign [t] v pos) (asgC r ct t v) := by
  unfold asgC
  split
  · rename_i x p
    split
    case isFalse => exact ss_bad
    rename_i hc
    unfold slotOk at hc
    simp only [Bool.and_eq_true, decide_eq_true_eq] at hc
    split
    · rename_i elt gs scope p2
      unfold lcC
      split
      · rename_i tg iter ifs
        split
        · rename_i is ts h1 h2
          split
          · rename_i h
            simp only [Bool.and_eq_true] at h
            exact ss_setLc h.1.1.1 h.1.1.2 h.1.2 (walk_snd hr iter) (tg_snd h1) (ts_snd hr h2) (hr.e _ elt) h.2 hc.1.1 hc.1.2 hc.2
          · intro X xo ρ σ H F S Z W tk G
            exact G.elim
        · intro X xo ρ σ H F S Z W tk G
          exact G.elim
      · intro X xo ρ σ H F S Z W tk G
        exact G.elim
    · split
      · rename_i h
        exact ss_set h hc.1.1 hc.1.2 hc.2 (hr.e ct _)
      · exact ss_bad
  · split
    · rename_i h
      rw [Bool.and_eq_true] at h
      exact ss_put h.1 h.2 (hr.e ct _) (hr.e ct _) (hr.e ct _)
    · exact ss_bad
  · exact tup_snd hr
  · exact ss_bad
theorem stepS_snd (hr : Snd g Φ k r) (ct : Ct) (s : Stmt) : SS g Φ k ct s (stepS r ct s) := by
  unfold stepS
  split
  · split
    · rename_i h; exact ss_expr h (hr.e ct _)
    · exact ss_bad
  · exact asg_snd hr
  · exact ss_ret (hr.e ct _)
  · exact ss_iff (hr.t ct _) (sss_snd hr) (sss_snd hr)
  · split
    · rename_i is h
      split
      · rename_i hc
        rw [Bool.and_eq_true, Bool.and_eq_true] at hc
        exact ss_for hc.1.1 hc.1.2 hc.2 (walk_snd hr _) (tg_snd h) (sss_snd hr)
      · exact ss_bad
    · exact ss_bad
  · exact ss_brk
  · exact ss_cont
  · exact ss_pass
  · exact ss_bad
theorem comp_snd : ∀ n : Nat, Snd g Φ k (comp n)
  | 0 => ⟨fun _ _ => se_bad, fun _ _ => st_bad, fun _ _ => ss_bad⟩
  | n + 1 => ⟨stepE_snd (comp_snd n), stepT_snd (comp_snd n), stepS_snd (comp_snd n)⟩
end
end Ev

set_option Elab.async false
set_option linter.all false
set_option maxRecDepth 100000
set_option maxHeartbeats 1000000
/-! Ev9: a law's end. Own work. -/
namespace Ev
open PySem PySem.Spec PyProof.Rows L2
section
variable {P : Program} {w : World} {K : PySem.W.Frag} {mg mb : Str → Option Value} {g : Gi} {Φ : Fns} {k n : Nat} {f a : Addr} {fd : FuncData} {x : Str} {st : Shared} {vs : List Value} {ns : List Int}
/-- what the evaluator says of the law -/
def Says (Φ : Fns) (n : Nat) (ns : List Int) : Prop := ∃ own outs, Φ n [⟨.fz, .scr ns⟩] = .ret own (.bl true) outs
theorem gd_law {T : Hp} (h : Says Φ n ns) : GdC g [⟨.fz, .scr ns⟩] [.ref a] T T (Φ n [⟨.fz, .scr ns⟩]) (fun v _ => v = .bl true) (fun _ _ _ => False) := by
  obtain ⟨own, outs, e⟩ := h
  rw [e]
  intro _ v H' F' _ hv
  cases own with
  | false => cases hv; rfl
  | true =>
    obtain ⟨_, _, _, _, c, _⟩ := hv
    rcases c with ⟨_, _, z, _⟩ | ⟨_, _, _, z, _⟩ <;> cases z
theorem sim_law {T : Hp} (hK : K = g.K) (h : SqL K T a (ns.map V.int)) : Sim g ([⟨.fz, .scr ns⟩].map some) ([V.ref a].map some) T T := by
  refine ⟨rfl, fun _ _ z => z, fun i s hs => ?_, fun i j s t b h1 _ m1 => ?_⟩
  · rw [get_map] at hs
    cases i with
    | zero => cases hs; exact ⟨_, rfl, .scr (by rw [← hK]; exact h)⟩
    | succ i => cases hs
  · rw [get_map] at h1
    cases i with
    | zero => cases h1; exact absurd rfl m1
    | succ i => cases h1
/-- the frame that calls the law, over a heap in which at most the script is tracked -/
theorem law_at {T : Hp} (KX : K.In st.heap) (G : st.heap.Ns mainGlobals mg) (B : st.heap.Ns builtinsNs mb) (BB : ∀ y : Str, y ≠ "__name__" → mb y = bootBuiltins y) (L : st.heap.NoLimit) (gens : st.gens = #[])
    (at_a : st.heap.get? a = some { cls := .type "list", data := .seq vs.toArray }) (room : Room k callerA) (hK : K = g.K) (FG : ∀ b : Heap, K.In b → b.Ns mainGlobals mg → FnG P w K mg b g Φ k f fd [x] n)
    (bd : ∀ (s : Shared) (u : Value), BindsTo s fd ⟨[u], []⟩ [(x, u)]) (says : Says Φ n ns) (only : Only T) (scr : SqL K T a (ns.map V.int)) (ok : HOk P w T st.heap) (alone : ∀ b, T b ≠ none → b = a ∧ K.lookup a = none) :
    codeAny (model P w) callerA (.call (.ref f) ⟨[.ref a], []⟩) (fun r s' => r = .ok (.ret (.bool true)) ∧ OldK st.heap s'.heap ∧ s'.os = st.os ∧ AllBare s'.gens) st := by
  have plain : ∀ {b : Addr} {o : Obj}, st.heap.get? b = some o → (b = a → K.lookup a ≠ none ∨ ∀ v c, o.data ≠ .seq v c) → (hidT st.heap T).get? b = some o := fun {b o} e hb => by
    refine hidT_get e (Classical.byContradiction fun q => ?_)
    obtain ⟨rfl, kn⟩ := alone b q
    rcases hb rfl with z | z
    · exact z kn
    · rw [at_a] at e
      cases e
      exact z _ _ rfl
  have names : ∀ {b : Addr} {m : Str → Option Value}, st.heap.Ns b m → (hidT st.heap T).Ns b m := fun {b m} ⟨o, es, ep, e, d, r⟩ =>
    ⟨o, es, ep, plain e (fun _ => .inr fun v c z => by rw [d] at z; cases z), d, r⟩
  have kin : K.In (hidT st.heap T) := fun b o e => plain (KX b o e) fun hb => .inl (by rw [← hb, e]; exact fun z => nomatch z)
  have mod : Mod K mg (hidT st.heap T) := ⟨kin, names G, ⟨mb, names B, BB⟩, L.elim fun m h => ⟨m, names h.1, h.2⟩⟩
  have env : Env0 P w K mg (hidT st.heap T) callerA [] st T := ⟨rfl, mod, fun _ _ e => of_hidT e, Nat.le_of_eq (hidT_size _ _), trivial, (fun b hb => nomatch hb), ok, .of_eq gens⟩
  have run := FG _ kin (names G) callerA [] st T T ⟨[.ref a], []⟩ [.ref a] [.ref a] [⟨.fz, .scr ns⟩] _ _ room rfl env (bd st (.ref a)) (.cons rfl .nil) rfl (sim_law hK scr) (gd_law says)
  refine codeAny_mono run fun r s' h => ?_
  match r, h with
  | .error e, h =>
    obtain ⟨_, _, _, _, _, _, _, _, _, _, _, _, z⟩ := h
    exact z.elim
  | .ok .next, h => exact h.elim
  | .ok .brk, h => exact h.elim
  | .ok .cont, h => exact h.elim
  | .ok (.ret u), h =>
    obtain ⟨v, T', os, bare, un, ok', rv, q⟩ := h
    have q : v = .bl true := q
    subst q
    cases (show u = Value.bool true from rv)
    refine ⟨rfl, OldK.of_keep fun b o e => ?_, os, bare⟩
    rcases only b with z | ⟨ob, xs, z⟩
    · exact un.keep b o e z (fun y => nomatch y) (fun y => nomatch y)
    · have old := (ok b _ z).1
      have new := (ok' b _ (un.frzs b ob _ z)).1
      rw [e] at old
      cases old
      exact new
theorem law_run (KX : K.In st.heap) (G : st.heap.Ns mainGlobals mg) (B : st.heap.Ns builtinsNs mb) (BB : ∀ y : Str, y ≠ "__name__" → mb y = bootBuiltins y) (L : st.heap.NoLimit) (gens : st.gens = #[])
    (at_a : st.heap.get? a = some { cls := .type "list", data := .seq vs.toArray }) (hi : IntsAre vs ns) (hl : ns.length ≤ sizeLine) (room : Room k callerA) (hK : K = g.K) (FG : ∀ b : Heap, K.In b → b.Ns mainGlobals mg → FnG P w K mg b g Φ k f fd [x] n)
    (bd : ∀ (s : Shared) (u : Value), BindsTo s fd ⟨[u], []⟩ [(x, u)]) (says : Says Φ n ns) :
    codeAny (model P w) callerA (.call (.ref f) ⟨[.ref a], []⟩) (fun r s' => r = .ok (.ret (.bool true)) ∧ OldK st.heap s'.heap ∧ s'.os = st.os ∧ AllBare s'.gens) st := by
  have rv : Vals (ns.map V.int) vs := vals_ints hi
  cases hk : K.lookup a with
  | some o =>
    have same := KX a o hk
    rw [at_a] at same
    cases same
    have scr : SqL K (fun _ => none) a (ns.map V.int) := .inr ⟨_, vs.toArray, _, hk, rfl, rfl, rfl, by rw [List.size_toArray, hi.length]; exact hl, by rw [List.toList_toArray]; exact rv⟩
    exact law_at KX G B BB L gens at_a room hK FG bd says (fun _ => .inl rfl) scr (fun b u z => nomatch z) fun b z => absurd rfl z
  | none =>
    have u1 : (upd (fun _ => none) a (.frz { cls := .type "list", data := .seq vs.toArray } (.lst (ns.map V.int))) : Hp) a = some (.frz { cls := .type "list", data := .seq vs.toArray } (.lst (ns.map V.int))) := upd_same
    refine law_at (T := upd (fun _ => none) a (.frz { cls := .type "list", data := .seq vs.toArray } (.lst (ns.map V.int)))) KX G B BB L gens at_a room hK FG bd says (fun b => ?_) (.inl (.inr ⟨_, u1⟩)) (fun b u z => ?_) fun b z => ⟨Classical.byContradiction fun hb => z (upd_ne hb), hk⟩
    · by_cases hb : b = a
      · subst hb; exact .inr ⟨_, _, u1⟩
      · exact .inl (upd_ne hb)
    · by_cases hb : b = a
      · subst hb
        rw [u1] at z
        cases z
        exact ⟨at_a, by rw [List.length_map]; exact hl, vs, _, rv, at_a⟩
      · rw [upd_ne hb] at z
        cases z
/-- the goal behind the head -/
theorem walk_g {l : PySem.W.OpenLaw} {m k : Nat} {q : Program} {loose : List Str} {XP : (Str → Option Value) → Heap → Prop} {YP : World → Heap → Prop} {d : DefRec} {x : Str} (hn : l.most = some m) (hm : m ≤ sizeLine) (hdf : d.params.defaults = []) (room : Room k callerA)
    (F : ∀ (w : World) (mg : Str → Option Value) (fa : Addr) (h : Heap), YP w h → h.Ns mainGlobals mg → mg d.name = some (.ref fa) → ∃ (g : Gi) (Φ : Fns) (n : Nat) (fd : FuncData), g.K.In h ∧ (∀ (s : Shared) (u : Value), BindsTo s fd ⟨[u], []⟩ [(x, u)]) ∧
      (∀ b : Heap, g.K.In b → b.Ns mainGlobals mg → FnG l.prog w g.K mg b g Φ k fa fd [x] n) ∧ ∀ ns : List Int, ns.length ≤ m → Says Φ n ns) :
    PySem.W.WalkO q loose XP YP l.row.toRowW d [] (fun f vs => PySem.call f vs) := by
  refine Att.attach_call hn hdf fun w _ s1 mg _ fa _ _ _ _ _ vs ns G Y _ _ _ hmg hobj hints hlen hg => ?_
  obtain ⟨g, Φ, n, fd, KX, bd, FG, says⟩ := F w mg fa _ Y G.T.g hmg
  exact law_run KX G.T.g G.T.b G.T.builtins G.T.nolimit hg hobj hints (Nat.le_trans hlen hm) room rfl FG bd (says ns hlen)
end
end Ev

set_option Elab.async false
set_option linter.all false
set_option maxRecDepth 100000
set_option maxHeartbeats 1000000
/-! Ev9b: from the head's facts to the law. Own work. -/
namespace Ev
open PySem PySem.Spec PyProof.Rows L2
/-- of each def: its slots' names, its parameters, those that are set anew -/
structure FI where
  N : List Str
  ps : List Str
  reb : List Nat
deriving DecidableEq
abbrev Gls := List (Str × GK)
abbrev Sgs := List (Nat × Nat × List Str × List Nat)
def faOf : Str × GK → He.Fa
  | (x, .fn _) => .glo x
  | (x, .free) => .free x
  | (x, .cst (.int i)) => .int x i
  | (x, .cst (.str l)) => .str x ⟨l.toArray⟩
  | (x, _) => .free x
def gkB (fn : List He.DefD) : Str × GK → Bool
  | (x, .fn n) => match fn[n]? with
    | some d => decide (d.at_ = (x, none))
    | none => false
  | (_, .free) => true
  | (_, .cst (.int _)) => true
  | (_, .cst (.str l)) => okLB l
  | _ => false
def fnScopeB (N P : List Str) (sc : Scope) : Bool :=
  (sc.kind == .function) && (sc.isCoroutine == false) && (sc.isGenerator == false) && decide N.Nodup && decide (N.take P.length = P) && (P.all fun x => sc.names.lookup x == some .local || sc.names.lookup x == some .cell) && sc.names.all fun y => y.2 != .free
theorem fnScopeB_ok {N P : List Str} {sc : Scope} (h : fnScopeB N P sc = true) : FnScope N P sc := by
  unfold fnScopeB at h
  simp only [Bool.and_eq_true, List.all_eq_true, decide_eq_true_eq, beq_iff_eq, bne_iff_ne, Bool.or_eq_true] at h
  obtain ⟨⟨⟨⟨⟨⟨h1, h2⟩, h3⟩, h4⟩, h5⟩, h6⟩, h7⟩ := h
  exact ⟨h1, h2, h3, h4, h5, h6, h7⟩
/-- plain parameters, nothing else -/
def mkP (ps : List Str) : Arguments := ⟨[], ps.map fun x => ⟨x, none, ⟨0, 0, 0, 0⟩⟩, none, [], [], none, []⟩
def simB (p : Arguments) (ps : List Str) : Bool := p.posonlyargs.isEmpty && decide (p.args.map (·.arg) = ps) && p.vararg.isNone && p.kwonlyargs.isEmpty && p.kwarg.isNone
def fiB (q : He.DefD × FI) : Bool := q.1.dfl.isEmpty && q.1.kwd.isEmpty && fnScopeB q.2.N q.2.ps q.1.scope && simB q.1.params q.2.ps
theorem bind_eq {name qual : Str} {params : Arguments} {body : List Stmt} {scope : Scope} {dV kV doc pm cdv ctv : Value} {an : Option Addr} {ps : List Str} {args : Args} (h : simB params ps = true) :
    bindArgs (PySem.W.fnOf name qual params body scope dV kV doc pm an cdv ctv) args = bindArgs (PySem.W.fnOf name qual (mkP ps) body scope dV kV doc pm an cdv ctv) args := by
  unfold simB at h
  simp only [Bool.and_eq_true, decide_eq_true_eq, List.isEmpty_iff, Option.isNone_iff_eq_none] at h
  obtain ⟨⟨⟨⟨h1, h2⟩, h3⟩, h4⟩, h5⟩ := h
  obtain ⟨p1, p2, p3, p4, p5, p6, p7⟩ := params
  dsimp only at h1 h2 h3 h4 h5
  subst h1 h3 h4 h5
  have e : (ps.map fun x => (⟨x, none, ⟨0, 0, 0, 0⟩⟩ : Arg)).map (·.arg) = p2.map (·.arg) := by
    rw [List.map_map, h2]
    exact List.map_id' ps
  unfold bindArgs mkP PySem.W.fnOf
  simp only [e]
def dfOf (fuel : Nat) (gl : Gls) (sg : Sgs) (q : He.DefD × FI) : Df := ⟨q.2.ps.length, q.2.N.length, q.2.reb, ssC (comp fuel) (ctOf q.2.N q.1.scope gl sg q.2.ps.length q.2.reb) q.1.body⟩
def tabFrom (fuel : Nat) (gl : Gls) (sg : Sgs) : Nat → List (He.DefD × FI) → Tab
  | _, [] => []
  | i, q :: r => (i, dfOf fuel gl sg q) :: tabFrom fuel gl sg (i + 1) r
theorem tab_at {fuel : Nat} {gl : Gls} {sg : Sgs} : ∀ {l : List (He.DefD × FI)} {i j : Nat} {q : He.DefD × FI}, l[j]? = some q → (tabFrom fuel gl sg i l).lookup (i + j) = some (dfOf fuel gl sg q)
  | [], i, j, q, h => by simp at h
  | p :: r, i, 0, q, h => by
    cases h
    unfold tabFrom
    rw [Nat.add_zero, List.lookup_cons_self]
  | p :: r, i, j + 1, q, h => by
    unfold tabFrom
    have ne : (i + (j + 1) == i) = false := by simp
    rw [List.lookup_cons, ne]
    have := tab_at (fuel := fuel) (gl := gl) (sg := sg) (l := r) (i := i + 1) (j := j) (q := q) (by simpa using h)
    rw [show i + 1 + j = i + (j + 1) by omega] at this
    exact this
/-- how such a def binds -/
def BndF (ps : List Str) (np : Nat) (ks : List Str) (pm : List Nat) : Prop :=
  pm.length = ps.length ∧ ∀ (name qual : Str) (body : List Stmt) (scope : Scope) (kV doc pmv : Value) (an : Option Addr) (cdv ctv : Value) (us ws as : List Value), us.length = np → ws.length = ks.length → pick pm (us ++ ws) = some as →
    bindArgs (PySem.W.fnOf name qual (mkP ps) body scope .none kV doc pmv an cdv ctv) ⟨us, ks.zip ws⟩ = pure (ps.zip as)
def SgAll (l : List FI) : Sgs → Prop
  | [] => True
  | (n, np, ks, pm) :: r => (∀ q, l[n]? = some q → BndF q.ps np ks pm) ∧ SgAll l r
theorem sgAll_at {l : List FI} : ∀ {sg : Sgs}, SgAll l sg → ∀ {n np : Nat} {ks : List Str} {pm : List Nat}, (n, np, ks, pm) ∈ sg → ∀ q, l[n]? = some q → BndF q.ps np ks pm
  | [], _, _, _, _, _, h, _, _ => by cases h
  | e :: r, ha, n, np, ks, pm, h, q, hq => by
    rcases List.mem_cons.mp h with h | h
    · subst h
      exact ha.1 q hq
    · exact sgAll_at ha.2 h q hq
section
variable {P : Program} {w : World} {K : PySem.W.Frag} {h : Heap} {mg : Str → Option Value} {fn : List He.DefD} {fa : List He.Fa} {l : List (He.DefD × FI)} {gl : Gls} {sg : Sgs} {fuel : Nat}
theorem says_all (c : He.SaysD fa fn K) : ∀ f ∈ fa, f.ok K = true := by
  have := congrArg Prod.fst c
  have h1 : ((fa.all fun f => f.ok K) && fn.all fun d => d.ok K) = true := this
  rw [Bool.and_eq_true, List.all_eq_true] at h1
  exact h1.1
/-- what stands where -/
def giOf (K : PySem.W.Frag) (l : List (He.DefD × FI)) : Gi := ⟨K, fun n => (l[n]?).map fun q => He.fAd K q.1.at_, fun _ => none⟩
theorem glob_ok (KX : K.In h) (G : h.Ns mainGlobals mg) (c : He.SaysD fa (l.map (·.1)) K) (hfa : ∀ e ∈ gl, faOf e ∈ fa) (hgl : gl.all (gkB (l.map (·.1))) = true) : ∀ x q, gl.lookup x = some q → match q with
    | .fn n => ∃ f, (giOf K l).fa n = some f ∧ mg x = some (.ref f)
    | .free => mg x = none
    | .cst d => ∃ v u, mg x = some u ∧ RelV v u ∧ ∀ F, RD (giOf K l) F v d := by
  intro x q hq
  have hm : (x, q) ∈ gl := PySem.mem_of_lookup hq
  have ok := says_all c _ (hfa _ hm)
  rw [List.all_eq_true] at hgl
  have hb := hgl _ hm
  cases q with
  | fn n =>
    unfold gkB at hb
    dsimp only at hb
    rw [List.getElem?_map] at hb
    cases hl : l[n]? with
    | none => rw [hl] at hb; cases hb
    | some d =>
      rw [hl] at hb
      have e : d.1.at_ = (x, none) := of_decide_eq_true hb
      refine ⟨He.fAd K d.1.at_, by show (l[n]?).map _ = _; rw [hl] <;> rfl, ?_⟩
      rw [e]
      exact He.glo_ok KX G ok
  | free => exact He.free_ok KX G ok
  | cst d =>
    cases d with
    | int i =>
      obtain ⟨t, e⟩ := He.int_ok KX G ok
      exact ⟨.int i, _, e, ⟨t, rfl⟩, fun F => .int i⟩
    | str s =>
      obtain ⟨t, e⟩ := He.str_ok KX G ok
      exact ⟨.str ⟨s.toArray⟩, _, e, ⟨t, rfl⟩, fun F => .str s (okLB_ok hb)⟩
    | _ => cases hb
theorem wd_all (KX : K.In h) (G : h.Ns mainGlobals mg) (c : He.SaysD fa (l.map (·.1)) K) (hfa : ∀ e ∈ gl, faOf e ∈ fa) (hgl : gl.all (gkB (l.map (·.1))) = true) (hfi : l.all fiB = true) (hsg : SgAll (l.map (·.2)) sg) (base : Heap) :
    ∀ k, Wd P w K mg base (giOf K l) (Phi (tabFrom fuel gl sg 0 l) k) k gl sg := by
  have key : ∀ k, (k = 0 ∨ ∃ j, k = j + 1 ∧ Wd P w K mg base (giOf K l) (Phi (tabFrom fuel gl sg 0 l) j) j gl sg) → Wd P w K mg base (giOf K l) (Phi (tabFrom fuel gl sg 0 l) k) k gl sg := fun k hk => by
    refine ⟨rfl, glob_ok KX G c hfa hgl, fun n f hf => ?_⟩
    have hf : (l[n]?).map (fun q => He.fAd K q.1.at_) = some f := hf
    cases hl : l[n]? with
    | none => rw [hl] at hf; cases hf
    | some q =>
      rw [hl] at hf
      have hf : He.fAd K q.1.at_ = f := Option.some.inj hf
      obtain ⟨fd, FD⟩ := c.def_ n (d := q.1) (by rw [List.getElem?_map, hl] <;> rfl)
      rw [hf] at FD
      have hq : fiB q = true := by
        rw [List.all_eq_true] at hfi
        exact hfi q (List.mem_of_getElem? hl)
      unfold fiB at hq
      rw [Bool.and_eq_true, Bool.and_eq_true, Bool.and_eq_true] at hq
      obtain ⟨⟨⟨q1, q2⟩, q3⟩, q4⟩ := hq
      have ex := FD.ex
      obtain ⟨oc, od, dV, kV, doc, pm, an, cdv, ctv, osl, rfl, lk, hcd, hD, hKw⟩ := ex
      have dv : dV = .none := by
        rcases hD with ⟨_, e⟩ | ⟨e, _⟩
        · exact e
        · exfalso
          apply e
          unfold He.DefD.dvs
          rw [List.isEmpty_iff.mp q1] <;> rfl
      subst dv
      refine ⟨PySem.W.fnOf q.1.name q.1.qual q.1.params q.1.body q.1.scope .none kV doc pm an cdv ctv, q.2.ps, FD.kp, ?_, fun np ks pmv hm => ?_⟩
      · rcases hk with rfl | ⟨j, rfl, wd⟩
        · intro A outer s H F args us vs as Q E _ _ _ _ _ _ _ G
          exact G.elim
        · have look := tab_at (fuel := fuel) (gl := gl) (sg := sg) (i := 0) hl
          rw [Nat.zero_add] at look
          exact fn_g lk hcd (fnScopeB_ok q3) wd look rfl rfl (sss_snd (comp_snd fuel))
      · have B := sgAll_at hsg hm q.2 (by rw [List.getElem?_map, hl] <;> rfl)
        exact ⟨B.1, fun s us ws as _ h1 h2 h3 => BindsTo.of_eq ((bind_eq q4).trans (B.2 _ _ _ _ kV doc pm an cdv ctv us ws as h1 h2 h3))⟩
  intro k
  induction k with
  | zero => exact key 0 (.inl rfl)
  | succ k ih => exact key (k + 1) (.inr ⟨k, rfl, ih⟩)
/-- the law's promise -/
theorem law_F {k m n : Nat} {q : He.DefD × FI} {x : Str} {f : Addr} {Δ : Tab} (hl : l[n]? = some q) (hps : q.2.ps = [x]) (hat : q.1.at_ = (q.1.name, none)) (hs : (n, 1, [], [0]) ∈ sg) (hin : (q.1.name, GK.fn n) ∈ gl) (hfa : ∀ e ∈ gl, faOf e ∈ fa) (hgl : gl.all (gkB (l.map (·.1))) = true) (hfi : l.all fiB = true) (hsg : SgAll (l.map (·.2)) sg)
    (hΔ : tabFrom fuel gl sg 0 l = Δ) (says : ∀ ns : List Int, ns.length ≤ m → Says (Phi Δ k) n ns) (KX : K.In h) (G : h.Ns mainGlobals mg) (c : He.SaysD fa (l.map (·.1)) K) (hmg : mg q.1.name = some (.ref f)) :
    ∃ (g : Gi) (Φ : Fns) (n : Nat) (fd : FuncData), g.K.In h ∧ (∀ (s : Shared) (u : Value), BindsTo s fd ⟨[u], []⟩ [(x, u)]) ∧ (∀ b : Heap, g.K.In b → b.Ns mainGlobals mg → FnG P w g.K mg b g Φ k f fd [x] n) ∧ ∀ ns : List Int, ns.length ≤ m → Says Φ n ns := by
  subst hΔ
  have glo : mg q.1.name = some (.ref (He.ga K q.1.name)) := He.glo_ok KX G (says_all c _ (hfa _ hin))
  have hf : He.fAd K q.1.at_ = f := by
    rw [hmg] at glo
    rw [hat]
    cases glo
    rfl
  obtain ⟨fd, FD⟩ := c.def_ n (d := q.1) (by rw [List.getElem?_map, hl] <;> rfl)
  rw [hf] at FD
  have hq : fiB q = true := by
    rw [List.all_eq_true] at hfi
    exact hfi q (List.mem_of_getElem? hl)
  unfold fiB at hq
  rw [Bool.and_eq_true, Bool.and_eq_true, Bool.and_eq_true] at hq
  obtain ⟨⟨⟨q1, q2⟩, q3⟩, q4⟩ := hq
  obtain ⟨oc, od, dV, kV, doc, pm, an, cdv, ctv, osl, rfl, lk, hcd, hD, hKw⟩ := FD.ex
  have dv : dV = .none := by
    rcases hD with ⟨_, e⟩ | ⟨e, _⟩
    · exact e
    · exfalso
      apply e
      unfold He.DefD.dvs
      rw [List.isEmpty_iff.mp q1] <;> rfl
  subst dv
  have B := sgAll_at hsg hs q.2 (by rw [List.getElem?_map, hl] <;> rfl)
  have hps' : ∀ us ws as, us.length = 1 → ws.length = ([] : List Str).length → pick [0] (us ++ ws) = some as → bindArgs (PySem.W.fnOf q.1.name q.1.qual q.1.params q.1.body q.1.scope .none kV doc pm an cdv ctv) ⟨us, ([] : List Str).zip ws⟩ = pure (q.2.ps.zip as) := fun us ws as h1 h2 h3 => (bind_eq q4).trans (B.2 _ _ _ _ kV doc pm an cdv ctv us ws as h1 h2 h3)
  rw [hps] at hps'
  refine ⟨giOf K l, _, n, _, KX, fun s u => BindsTo.of_eq (hps' [u] [] [u] rfl rfl rfl), fun b _ _ => ?_, says⟩
  cases k with
  | zero =>
    intro A outer s H F args us vs as Q E _ _ _ _ _ _ _ G
    exact G.elim
  | succ j =>
    have look := tab_at (fuel := fuel) (gl := gl) (sg := sg) (i := 0) hl
    rw [Nat.zero_add] at look
    have wd := wd_all (P := P) (w := w) (fuel := fuel) KX G c hfa hgl hfi hsg b j
    have := fn_g lk hcd (fnScopeB_ok q3) wd look rfl rfl (sss_snd (comp_snd fuel))
    rw [hps] at this
    exact this
end
end Ev

set_option Elab.async false
set_option linter.all false
set_option maxRecDepth 100000
set_option maxHeartbeats 1000000
/-! Pl0: tools for plain laws. Own work. -/
namespace Ev
theorem Phi_s {Δ : Tab} {k f : Nat} {d : Df} {as : List Sl} (h : Δ.lookup f = some d) : Phi Δ (k + 1) f as = runDf (Phi Δ k) d as := by
  show (match Δ.lookup f with
    | some d => runDf (Phi Δ k) d as
    | none => .err) = _
  rw [h]
theorem forGo_inv {f : D → En → Rs Fl} (Inv : Nat → En → Prop) : ∀ {rows : List D} (n : Nat) {ρ : En}, (∀ i d ρ, rows[i]? = some d → Inv (n + i) ρ → ∃ ρ', (f d ρ = .ok .nx ρ' ∨ f d ρ = .ok .ct ρ') ∧ Inv (n + i + 1) ρ') → Inv n ρ → ∃ ρ', forGo f rows ρ = .ok .nx ρ' ∧ Inv (n + rows.length) ρ'
  | [], n, ρ, _, h => ⟨ρ, rfl, h⟩
  | d :: ds, n, ρ, st, h => by
    obtain ⟨ρ1, e, h1⟩ := st 0 d ρ rfl h
    obtain ⟨ρ2, e2, h2⟩ := forGo_inv Inv (rows := ds) (n + 1) (ρ := ρ1) (fun i d ρ hd hi => by
      have := st (i + 1) d ρ (by simpa using hd) (by rw [show n + (i + 1) = n + 1 + i by omega]; exact hi)
      rw [show n + (i + 1) + 1 = n + 1 + i + 1 by omega] at this
      exact this) h1
    refine ⟨ρ2, ?_, by rw [List.length_cons, show n + (ds.length + 1) = n + 1 + ds.length by omega]; exact h2⟩
    unfold forGo
    rcases e with e | e <;> rw [e] <;> exact e2
theorem lcGo_inv {f : D → En → Rs (Option D)} (Inv : Nat → List D → En → Prop) : ∀ {rows : List D} (n : Nat) {acc : List D} {ρ : En}, (∀ i d acc ρ, rows[i]? = some d → Inv (n + i) acc ρ → ∃ r ρ', f d ρ = .ok r ρ' ∧ Inv (n + i + 1) (acc ++ r.toList) ρ') → Inv n acc ρ →
    ∃ ds ρ', lcGo f rows ρ = .ok ds ρ' ∧ Inv (n + rows.length) (acc ++ ds) ρ'
  | [], n, acc, ρ, _, h => ⟨[], ρ, rfl, by rw [List.append_nil]; exact h⟩
  | d :: ds, n, acc, ρ, st, h => by
    obtain ⟨r, ρ1, e, h1⟩ := st 0 d acc ρ rfl h
    obtain ⟨rs, ρ2, e2, h2⟩ := lcGo_inv Inv (rows := ds) (n + 1) (acc := acc ++ r.toList) (ρ := ρ1) (fun i d acc ρ hd hi => by
      have := st (i + 1) d acc ρ (by simpa using hd) (by rw [show n + (i + 1) = n + 1 + i by omega]; exact hi)
      rw [show n + (i + 1) + 1 = n + 1 + i + 1 by omega] at this
      exact this) h1
    refine ⟨r.toList ++ rs, ρ2, ?_, by rw [List.length_cons, show n + (ds.length + 1) = n + 1 + ds.length by omega, ← List.append_assoc]; exact h2⟩
    unfold lcGo
    rw [e]
    show ((lcGo f ds ρ1).bind fun rs ρ => Rs.ok (match r with
      | some x => x :: rs
      | none => rs) ρ) = _
    rw [e2]
    cases r <;> rfl
theorem log2_lt {i : Int} {n : Nat} (h0 : 0 ≤ i) (h : i < 2 ^ n) : i.natAbs.log2 ≤ n := by
  by_cases hz : i.natAbs = 0
  · rw [hz]; exact Nat.zero_le _
  · have : i.natAbs < 2 ^ n := by
      have e : (i.natAbs : Int) = i := Int.natAbs_of_nonneg h0
      have : (i.natAbs : Int) < ((2 ^ n : Nat) : Int) := by rw [e]; push_cast; exact h
      exact Int.ofNat_lt.mp this
    exact Nat.le_of_lt (Nat.log2_lt hz |>.mpr this)
theorem mul_ok {a b : Int} {n m : Nat} (ha : 0 ≤ a) (ha2 : a < 2 ^ n) (hb : 0 ≤ b) (hb2 : b < 2 ^ m) (h : n + m < 1000000) : mulOk a b = true := by
  unfold mulOk
  have h1 := log2_lt ha ha2
  have h2 := log2_lt hb hb2
  exact decide_eq_true (by omega)
end Ev

set_option Elab.async false
set_option linter.all false
set_option maxRecDepth 100000
set_option maxHeartbeats 1000000
set_option exponentiation.threshold 100000
/-! Pl1: the generator of draws. Own work. -/
namespace Ev
def dfHash : Df := ⟨2, 3, [], (.cons (.set 2 (.bin .mod (.bi .int (.cons (.bin .add (.bin .add (.bin .add (.bin .mul (.var 0) (.lit (.int 1140671))) (.bin .mul (.bin .mul (.lit (.int 27644437)) (.var 1)) (.var 1))) (.bin .mul (.lit (.int 131)) (.var 1))) (.lit (.int 19))) .nil)) (.lit (.int 2147483629)))) (.cons (.set 2 (.bin .mod (.bi .int (.cons (.bin .add (.bin .add (.bin .mul (.var 2) (.var 2)) (.bin .mul (.lit (.int 62089)) (.var 1))) (.lit (.int 32416187))) .nil)) (.lit (.int 2147483587)))) (.cons (.ret (.bin .mod (.bi .int (.cons (.bin .mul (.var 2) (.lit (.int 48271))) .nil)) (.lit (.int 2147483647)))) .nil)))⟩
theorem hash_ok {Δ : Tab} {n : Nat} (h : Δ.lookup n = some dfHash) (k : Nat) {a b : Int} (ha : 0 ≤ a ∧ a < 2 ^ 64) (hb : 0 ≤ b ∧ b < 2 ^ 64) : ∃ r : Int, 0 ≤ r ∧ r < 2147483647 ∧ Phi Δ (k + 1) n [⟨.fz, .int a⟩, ⟨.fz, .int b⟩] = .ret false (.int r) [⟨.fz, .int a⟩, ⟨.fz, .int b⟩] := by
  have m1 : mulOk a 1140671 = true := mul_ok (n := 64) (m := 30) ha.1 ha.2 (by decide) (by decide) (by decide)
  have m2 : mulOk 27644437 b = true := mul_ok (n := 30) (m := 64) (by decide) (by decide) hb.1 hb.2 (by decide)
  have m3 : mulOk (27644437 * b) b = true := mul_ok (n := 94) (m := 64) (by omega) (by omega) hb.1 hb.2 (by decide)
  have m4 : mulOk 131 b = true := mul_ok (n := 30) (m := 64) (by decide) (by decide) hb.1 hb.2 (by decide)
  have m5 : mulOk 62089 b = true := mul_ok (n := 30) (m := 64) (by decide) (by decide) hb.1 hb.2 (by decide)
  have m6 : ∀ c : Int, mulOk (c % 2147483629) (c % 2147483629) = true := fun c => mul_ok (n := 32) (m := 32) (by omega) (by omega) (by omega) (by omega) (by decide)
  have m7 : ∀ c : Int, mulOk (c % 2147483587) 48271 = true := fun c => mul_ok (n := 32) (m := 32) (by omega) (by omega) (by decide) (by decide) (by decide)
  obtain ⟨r, e⟩ : ∃ r : Int, Phi Δ (k + 1) n [⟨.fz, .int a⟩, ⟨.fz, .int b⟩] = .ret false (.int (r % 2147483647)) [⟨.fz, .int a⟩, ⟨.fz, .int b⟩] := by
    apply Exists.intro
    rw [Phi_s h]
    simp [dfHash, runDf, frzAt, evSs, evS, evE, evEs, Rs.bind, En.get, op2, look, toRs, binD, m1, m2, m3, m4, m5, m6, m7, lookAll, biD, storeR, allSome, backAt]
    rfl
  exact ⟨_, by omega, by omega, e⟩
def rndBody (hn : Nat) : Ss := (.cons (.put (.var 0) (.lit (.int 2)) (.bin .add (.sub (.var 0) (.lit (.int 2))) (.lit (.int 1)))) (.cons (.set 2 (.bin .add (.bin .mul (.var 2) (.lit (.int 2147483587))) (.call hn [0, 1] (.cons (.sub (.var 0) (.lit (.int 1))) (.cons (.sub (.var 0) (.lit (.int 2))) .nil)) .nil))) .nil))
def dfRnd (hn : Nat) : Df := ⟨2, 4, [], (.cons (.iff (.val (.cmp .gt (.sub (.var 0) (.lit (.int 0))) (.lit (.int 0)))) (.cons (.set 2 (.bin .mod (.bi .int (.cons (.sub (.var 0) (.lit (.int 0))) .nil)) (.var 1))) (.cons (.put (.var 0) (.lit (.int 0)) (.bin .fdiv (.sub (.var 0) (.lit (.int 0))) (.var 1))) (.cons (.ret (.var 2)) .nil))) .nil) (.cons (.set 2 (.lit (.int 0))) (.cons (.for [3] (.rng1 (.bin .add (.lit (.int 1)) (.bin .fdiv (.mth .bits (.var 1) .nil) (.lit (.int 30))))) (rndBody hn)) (.cons (.ret (.bin .mod (.bi .int (.cons (.var 2) .nil)) (.var 1))) .nil))))⟩
def genD (a b c : Int) : D := .lst [.int a, .int b, .int c]
theorem rnd_turn {Δ : Tab} {hn : Nat} (h1 : Δ.lookup hn = some dfHash) (k : Nat) {a b c n d : Int} {i : Int} {x : Option Sl} (hb : 0 ≤ b ∧ b < 2 ^ 32) (hc : 0 ≤ c ∧ c < 2 ^ 62) (hd : 0 ≤ d ∧ d < 2 ^ 250) :
    ∃ e : Int, 0 ≤ e ∧ e < 2147483647 ∧ evSs (Phi Δ (k + 1)) 2 (rndBody hn) [some ⟨.own, genD a b c⟩, some ⟨.fz, .int n⟩, some ⟨.fz, .int d⟩, some ⟨.fz, .int i⟩] = .ok .nx [some ⟨.own, genD a b (c + 1)⟩, some ⟨.fz, .int n⟩, some ⟨.fz, .int (d * 2147483587 + e)⟩, some ⟨.fz, .int i⟩] := by
  obtain ⟨e, e1, e2, e3⟩ := hash_ok h1 k (a := b) (b := c + 1) ⟨hb.1, by omega⟩ ⟨by omega, by omega⟩
  have m : mulOk d 2147483587 = true := mul_ok (n := 250) (m := 32) hd.1 hd.2 (by decide) (by decide) (by decide)
  refine ⟨e, e1, e2, ?_⟩
  simp [rndBody, genD, evSs, evS, evE, evEs, Rs.bind, En.get, op2, op1, look, toRs, binD, m, storeR, keep, subD, ixN, pick, callR, frzDup, argsOf, argOf, outsTo, e3]
theorem rngD_at {a b : Int} {i : Nat} {d : D} (h : (rngD a b)[i]? = some d) : d = .int (a + i) ∧ i < (b - a).toNat := by
  unfold rngD at h
  rw [List.getElem?_map] at h
  by_cases hi : i < (b - a).toNat
  · rw [List.getElem?_range hi] at h
    cases h
    exact ⟨rfl, hi⟩
  · rw [List.getElem?_eq_none (by rw [List.length_range]; omega)] at h
    cases h
theorem rngD_len {a b : Int} : (rngD a b).length = (b - a).toNat := by
  unfold rngD
  rw [List.length_map, List.length_range]
theorem rnd_loop {Δ : Tab} {hn : Nat} (h1 : Δ.lookup hn = some dfHash) (k : Nat) {a b c n m : Int} (hb : 0 ≤ b ∧ b < 2 ^ 32) (hc : 0 ≤ c ∧ c < 2 ^ 60) (hm : 0 ≤ m ∧ m ≤ 6) :
    ∃ d x, forGo (withTg [3] (evSs (Phi Δ (k + 1)) 2 (rndBody hn))) (rngD 0 m) [some ⟨.own, genD a b c⟩, some ⟨.fz, .int n⟩, some ⟨.fz, .int 0⟩, none] = .ok .nx [some ⟨.own, genD a b (c + m)⟩, some ⟨.fz, .int n⟩, some ⟨.fz, .int d⟩, x] := by
  obtain ⟨ρ', e, d, x, _, _, rfl⟩ := forGo_inv (f := withTg [3] (evSs (Phi Δ (k + 1)) 2 (rndBody hn))) (rows := rngD 0 m) (fun i ρ => ∃ (d : Int) (x : Option Sl), 0 ≤ d ∧ d < 4294967296 ^ (i + 1) ∧ ρ = [some ⟨.own, genD a b (c + i)⟩, some ⟨.fz, .int n⟩, some ⟨.fz, .int d⟩, x]) 0 (ρ := [some ⟨.own, genD a b c⟩, some ⟨.fz, .int n⟩, some ⟨.fz, .int 0⟩, none])
    (fun i r ρ hr ⟨d, x, d0, d1, hρ⟩ => by
      obtain ⟨rfl, hi⟩ := rngD_at hr
      subst hρ
      have hi' : i ≤ 6 := by omega
      have hp : (4294967296 : Int) ^ (0 + i + 1) ≤ 2 ^ 250 := by
        have : (4294967296 : Nat) ^ (0 + i + 1) ≤ 4294967296 ^ 7 := Nat.pow_le_pow_right (by decide) (by omega)
        have h2 : (4294967296 : Nat) ^ 7 ≤ 2 ^ 250 := by decide
        have h3 := Int.ofNat_le.mpr (Nat.le_trans this h2)
        rw [Int.natCast_pow, Int.natCast_pow] at h3
        exact h3
      obtain ⟨e, e1, e2, e3⟩ := rnd_turn h1 k (a := a) (b := b) (c := c + (0 + i : Nat)) (n := n) (d := d) (i := 0 + (i : Int)) (x := x) hb ⟨by omega, by omega⟩ ⟨d0, by omega⟩
      refine ⟨_, .inl e3, d * 2147483587 + e, some ⟨.fz, .int (0 + (i : Int))⟩, ?_, ?_, ?_⟩
      · omega
      · have : (4294967296 : Int) ^ (0 + i + 1 + 1) = 4294967296 ^ (0 + i + 1) * 4294967296 := Int.pow_succ ..
        rw [this]
        omega
      · have : c + ((0 + i : Nat) : Int) + 1 = c + ((0 + i + 1 : Nat) : Int) := by omega
        rw [this]) ⟨0, none, by decide, by decide, by simp⟩
  refine ⟨d, x, ?_⟩
  rw [e]
  have : c + ((0 + (rngD 0 m).length : Nat) : Int) = c + m := by rw [rngD_len]; omega
  rw [this]
theorem rnd_ok {Δ : Tab} {hn rn : Nat} (h1 : Δ.lookup hn = some dfHash) (h2 : Δ.lookup rn = some (dfRnd hn)) (k : Nat) {a b c n : Int} (ha : 0 ≤ a ∧ a < 10 ^ 600) (hb : 0 ≤ b ∧ b < 2 ^ 32) (hc : 0 ≤ c ∧ c < 2 ^ 60) (hn' : 0 < n ∧ n < 2 ^ 150) :
    ∃ r a' c' : Int, 0 ≤ r ∧ r < n ∧ 0 ≤ a' ∧ a' < 10 ^ 600 ∧ c ≤ c' ∧ c' ≤ c + 6 ∧ Phi Δ (k + 2) rn [⟨.own, genD a b c⟩, ⟨.fz, .int n⟩] = .ret false (.int r) [⟨.own, genD a' b c'⟩, ⟨.fz, .int n⟩] := by
  have hl := log2_lt (n := 150) (by omega) hn'.2
  by_cases hpos : 0 < a
  · refine ⟨a % n, a / n, c, Int.emod_nonneg _ (by omega), Int.emod_lt_of_pos _ hn'.1, Int.ediv_nonneg ha.1 (by omega), ?_, by omega, by omega, ?_⟩
    · exact Int.lt_of_le_of_lt (Int.ediv_le_self _ ha.1) ha.2
    · rw [Phi_s h2]
      have f1 : 0 < n ∧ n.natAbs.log2 < 9000 := ⟨hn'.1, by omega⟩
      simp [dfRnd, genD, runDf, frzAt, evSs, evS, evE, evEs, evT, Rs.bind, En.get, op2, op1, look, toRs, toRb, binD, cmpD, truth, hpos, hn'.1, f1, storeR, keep, subD, ixN, lookAll, biD, allSome, backAt]
  · have ha0 : a = 0 := by omega
    subst ha0
    have hlog : n.natAbs.log2 ≤ 150 := hl
    obtain ⟨d, x, e⟩ := rnd_loop (a := 0) (n := n) h1 k (m := 1 + ((n.natAbs.log2 : Int) + 1) / 30) hb hc ⟨by omega, by omega⟩
    refine ⟨d % n, 0, c + (1 + ((n.natAbs.log2 : Int) + 1) / 30), Int.emod_nonneg _ (by omega), Int.emod_lt_of_pos _ hn'.1, by decide, by decide, by omega, by omega, ?_⟩
    rw [Phi_s h2]
    have n0 : n ≠ 0 := by omega
    have r1 : -B62 ≤ 1 + ((n.natAbs.log2 : Int) + 1) / 30 ∧ 1 + ((n.natAbs.log2 : Int) + 1) / 30 < B62 := by unfold B62; omega
    have f1 : Nat.log2 30 < 9000 := by decide
    simp only [genD] at e
    simp [dfRnd, genD, runDf, frzAt, evSs, evS, evE, evEs, evT, evI, Rs.bind, En.get, op2, op1, look, lookAll, toRs, toRb, binD, cmpD, truth, mtD, mtOk, mthR, n0, hn'.1, f1, r1, storeR, keep, subD, ixN, biD, lockL, lockS, unlockL, unlockS, allSome, backAt, e]
end Ev

set_option Elab.async false
set_option linter.all false
set_option maxRecDepth 100000
set_option maxHeartbeats 1000000
set_option exponentiation.threshold 100000
/-! Pl2: cells of the script, the generator. Own work. -/
namespace Ev
def dfCell : Df := ⟨2, 2, [], (.cons (.iff (.val (.cmp .lt (.var 1) (.bi .len (.cons (.var 0) .nil)))) (.cons (.ret (.sub (.var 0) (.var 1))) .nil) .nil) (.cons (.ret (.bin .mod (.bi .sum (.cons (.sl false true (.var 0) (.lit .non) (.lit (.int 1))) .nil)) (.lit (.int 1000003)))) .nil))⟩
def dfGen (cn : Nat) : Df := ⟨2, 3, [], (.cons (.set 2 (.call cn [0, 1] (.cons (.var 0) (.cons (.var 1) .nil)) .nil)) (.cons (.ret (.lst (.cons (.bin .mod (.bi .int (.cons (.bi .max2 (.cons (.bin .sub (.var 2) (.bin .pow (.lit (.int 10)) (.lit (.int 18)))) (.cons (.lit (.int 0)) .nil))) .nil)) (.bin .pow (.bin .pow (.lit (.int 10)) (.lit (.int 60))) (.lit (.int 10)))) (.cons (.bin .mod (.bi .int (.cons (.var 2) .nil)) (.lit (.int 2147483647))) (.cons (.bin .mul (.lit (.int 1000)) (.var 1)) .nil))))) .nil))⟩
theorem dsum_ints : ∀ (l : List Int) (a : Int), ∃ v, Dsum (l.map .int) a = some v
  | [], a => ⟨a, rfl⟩
  | i :: l, a => dsum_ints l (a + i)
theorem cell_ok {Δ : Tab} {cn : Nat} (h : Δ.lookup cn = some dfCell) (k : Nat) {ns : List Int} {i : Int} (hi : 0 ≤ i) : ∃ v : Int, Phi Δ (k + 1) cn [⟨.fz, .scr ns⟩, ⟨.fz, .int i⟩] = .ret false (.int v) [⟨.fz, .scr ns⟩, ⟨.fz, .int i⟩] := by
  by_cases hl : i < ns.length
  · have hlt : i.toNat < ns.length := by omega
    refine ⟨ns[i.toNat], ?_⟩
    rw [Phi_s h]
    have e : ns[i.toNat]? = some ns[i.toNat] := List.getElem?_eq_getElem hlt
    simp [dfCell, runDf, frzAt, evSs, evS, evE, evEs, evT, Rs.bind, En.get, op2, op1, look, lookAll, toRs, toRb, binD, cmpD, ltD, truth, hl, subD, ixN, hi, e, biD, keep, allSome, backAt]
  · obtain ⟨v, e⟩ := dsum_ints (cut ns none (some 1)) 0
    refine ⟨v % 1000003, ?_⟩
    rw [Phi_s h]
    simp [dfCell, runDf, frzAt, evSs, evS, evE, evEs, evT, Rs.bind, En.get, op2, op1, look, lookAll, toRs, toRb, binD, cmpD, ltD, truth, hl, bound, slD, e, biD, keep, allSome, backAt]
theorem gen_ok {Δ : Tab} {cn gn : Nat} (h1 : Δ.lookup cn = some dfCell) (h2 : Δ.lookup gn = some (dfGen cn)) (k : Nat) {ns : List Int} {i : Int} (hi : 0 ≤ i ∧ i < 1000000) :
    ∃ a b : Int, 0 ≤ a ∧ a < 10 ^ 600 ∧ 0 ≤ b ∧ b < 2147483647 ∧ Phi Δ (k + 2) gn [⟨.fz, .scr ns⟩, ⟨.fz, .int i⟩] = .ret true (genD a b (1000 * i)) [⟨.fz, .scr ns⟩, ⟨.fz, .int i⟩] := by
  obtain ⟨v, e⟩ := cell_ok h1 k (ns := ns) (i := i) hi.1
  have hp : (0 : Int) < (10 ^ 60) ^ 10 := by decide
  have m : mulOk 1000 i = true := mul_ok (n := 30) (m := 30) (by decide) (by decide) hi.1 (by omega) (by decide)
  refine ⟨(if (0 : Int) > v - 10 ^ 18 then 0 else v - 10 ^ 18) % (10 ^ 60) ^ 10, v % 2147483647, Int.emod_nonneg _ (by decide), ?_, by omega, by omega, ?_⟩
  · have : (10 : Int) ^ 600 = (10 ^ 60) ^ 10 := by decide
    rw [this]
    exact Int.emod_lt_of_pos _ hp
  · rw [Phi_s h2]
    have l10 : Nat.log2 10 = 3 := by decide +kernel
    have l60 : Nat.log2 1000000000000000000000000000000000000000000000000000000000000 = 199 := by decide +kernel
    simp [dfGen, runDf, frzAt, evSs, evS, evE, evEs, Rs.bind, En.get, op2, op1, look, lookAll, toRs, binD, biD, pick, callR, frzDup, argsOf, argOf, outsTo, storeR, keep, keepAll, allSome, backAt, e, m, genD, LIM, l10, l60]
end Ev

set_option Elab.async false
set_option linter.all false
set_option maxRecDepth 100000
set_option maxHeartbeats 1000000
/-! Pl3: letters, orders. Own work. -/
namespace Ev
theorem lcGo_pure {f : D → En → Rs (Option D)} {q : D → Option D} (Inv : En → Prop) : ∀ {rows : List D} {ρ : En}, (∀ d ∈ rows, ∀ ρ, Inv ρ → ∃ ρ', f d ρ = .ok (q d) ρ' ∧ Inv ρ') → Inv ρ → ∃ ρ', lcGo f rows ρ = .ok (rows.filterMap q) ρ' ∧ Inv ρ'
  | [], ρ, _, h => ⟨ρ, rfl, h⟩
  | d :: ds, ρ, st, h => by
    obtain ⟨ρ1, e, h1⟩ := st d List.mem_cons_self ρ h
    obtain ⟨ρ2, e2, h2⟩ := lcGo_pure Inv (rows := ds) (fun d hd => st d (List.mem_cons_of_mem _ hd)) h1
    refine ⟨ρ2, ?_, h2⟩
    unfold lcGo
    rw [e]
    show ((lcGo f ds ρ1).bind fun rs ρ => Rs.ok (match q d with
      | some x => x :: rs
      | none => rs) ρ) = _
    rw [e2, List.filterMap_cons]
    cases q d <;> rfl
def abc : List Nat := [97, 98, 99, 100, 101, 102, 103, 104, 105, 106, 107, 108, 109, 110, 111, 112, 113, 114, 115, 116, 117, 118, 119, 120, 121, 122]
def small (l : List Nat) : Bool := l.all fun c => abc.contains c
theorem dropWhile_nil {p : Nat → Bool} : ∀ {l : List Nat}, l.dropWhile p = [] ↔ l.all p = true
  | [] => by simp
  | a :: l => by
    rw [List.dropWhile_cons, List.all_cons]
    cases h : p a with
    | true => simp only [if_true, Bool.true_and]; exact dropWhile_nil
    | false => simp
theorem strip_small (l : List Nat) : (stripD abc l = []) ↔ small l = true := by
  unfold stripD small
  rw [List.reverse_eq_nil_iff, dropWhile_nil]
  constructor
  · intro h
    rw [List.all_reverse] at h
    have z : ∀ m : List Nat, (m.dropWhile fun c => abc.contains c).all (fun c => abc.contains c) = true → m.all (fun c => abc.contains c) = true := by
      intro m
      induction m with
      | nil => intro _; rfl
      | cons a m ih =>
        intro h
        rw [List.dropWhile_cons] at h
        rw [List.all_cons]
        cases hp : abc.contains a with
        | true => rw [hp] at h; simp only [if_true] at h; rw [ih h] <;> rfl
        | false =>
          rw [hp, if_neg (by decide), List.all_cons, hp] at h
          exact absurd h (by simp)
    exact z l h
  · intro h
    rw [List.all_reverse, (dropWhile_nil (p := fun c => abc.contains c)).mpr h] <;> rfl
/-- what isinstance answers of -/
def known : D → Bool
  | .fn _ => false
  | .exc _ _ => false
  | _ => true
def smallD : D → Bool
  | .str l => small l
  | _ => false
def dfLett : Df := ⟨1, 1, [], (.cons (.ret (.and (.bi .isstr (.cons (.var 0) .nil)) (.cmp .eq (.mth .strip (.var 0) (.cons (.lit (.str abc)) .nil)) (.lit (.str []))))) .nil)⟩
theorem lett_ok {Δ : Tab} {n : Nat} (h : Δ.lookup n = some dfLett) (k : Nat) {v : D} (hv : known v = true) : Phi Δ (k + 1) n [⟨.fz, v⟩] = .ret false (.bl (smallD v)) [⟨.fz, v⟩] := by
  rw [Phi_s h]
  cases v with
  | str l =>
    have e : decide (stripD abc l = []) = small l := by
      cases hs : small l with
      | true => exact decide_eq_true ((strip_small l).mpr hs)
      | false => exact decide_eq_false fun z => by rw [(strip_small l).mp z] at hs; cases hs
    simp [dfLett, smallD, runDf, frzAt, evSs, evS, evE, evEs, Rs.bind, En.get, op2, op1, look, lookAll, toRs, toRb, biD, truth, mtOk, mthR, mtD, cmpD, eqv, flat, DEP, eqD, e, keep, allSome, backAt]
  | fn n => cases hv
  | exc c v => cases hv
  | _ => simp [dfLett, smallD, runDf, frzAt, evSs, evS, evE, evEs, Rs.bind, En.get, op2, op1, look, lookAll, toRs, toRb, biD, truth, keep, allSome, backAt]
/-! ### ascending -/
def riseTs : Ts := .cons (.val (.cmp .ge (.sub (.var 0) (.bin .sub (.var 1) (.lit (.int 1)))) (.sub (.var 0) (.var 1)))) .nil
def riseX : E := .var 1
def riseE : E := .cmp .eq (.lc riseX [1] (.rng2 (.lit (.int 1)) (.bi .len (.cons (.var 0) .nil))) riseTs [1]) (.lst .nil)
/-- a sequence of n texts -/
structure Seqy (v : D) (n : Nat) : Prop where
  len : biD .len [v] = some (.v (.int n))
  le : n ≤ LIM
  at_ : ∀ i : Int, 0 ≤ i → i < n → ∃ a, subD v (.int i) = some (.str a)
def riseQ (v : D) : D → Option D
  | .int i => match subD v (.int (i - 1)), subD v (.int i) with
    | some (.str a), some (.str b) => if a < b then none else some (.int i)
    | _, _ => none
  | _ => none
def riseD (v : D) (n : Nat) : Bool := ((rngD 1 n).filterMap (riseQ v)).isEmpty
theorem flat_ints {v : D} : ∀ (l : List D) (k : Nat), flatL k (l.filterMap (riseQ v)) = true
  | [], _ => rfl
  | d :: l, k => by
    rw [List.filterMap_cons]
    cases h : riseQ v d with
    | none => exact flat_ints l k
    | some x =>
      have : ∃ i, x = .int i := by
        unfold riseQ at h
        split at h
        · split at h
          · split at h
            · cases h
            · cases h; exact ⟨_, rfl⟩
          · cases h
        · cases h
      obtain ⟨i, rfl⟩ := this
      show (flat k (.int i) && flatL k (l.filterMap (riseQ v))) = true
      rw [flat_ints l k]
      cases k <;> rfl
theorem rise_ok {Φ : Fns} {v : D} {n : Nat} {m : Md} (hs : Seqy v n) : evE Φ riseE [some ⟨m, v⟩, none] = .ok (.v (.bl (riseD v n))) [some ⟨m, v⟩, none] := by
  obtain ⟨ρ', e, x, rfl⟩ := lcGo_pure (f := lcTg [1] [1] (evTs Φ riseTs) (evE Φ riseX)) (q := riseQ v) (fun ρ => ∃ x, ρ = [some ⟨m, v⟩, x]) (rows := rngD 1 n) (ρ := [some ⟨m, v⟩, none]) (fun d hd ρ ⟨x, hρ⟩ => by
    subst hρ
    obtain ⟨j, hj⟩ := List.getElem?_of_mem hd
    obtain ⟨rfl, hlt⟩ := rngD_at hj
    obtain ⟨a, ha⟩ := hs.at_ (1 + j - 1) (by omega) (by omega)
    obtain ⟨b, hb⟩ := hs.at_ (1 + j) (by omega) (by omega)
    by_cases hab : a < b
    · refine ⟨[some ⟨m, v⟩, some ⟨.fz, .int (1 + (j : Int))⟩], ?_, _, rfl⟩
      simp [lcTg, assignD, wipeE, riseTs, riseX, riseQ, evTs, evT, evE, Rs.bind, En.get, op2, op1, look, toRs, toRb, binD, cmpD, truth, ha, hb, hab, keep]
    · refine ⟨[some ⟨m, v⟩, some ⟨.fz, .int (1 + (j : Int))⟩], ?_, _, rfl⟩
      simp [lcTg, assignD, wipeE, riseTs, riseX, riseQ, evTs, evT, evE, Rs.bind, En.get, op2, op1, look, toRs, toRb, binD, cmpD, truth, ha, hb, hab, keep]) ⟨none, rfl⟩
  have hl : ((rngD 1 n).filterMap (riseQ v)).length ≤ LIM := by
    refine Nat.le_trans (List.length_filterMap_le _ _) ?_
    rw [rngD_len]
    have := hs.le
    omega
  have hB : -B62 ≤ (1 : Int) ∧ (1 : Int) < B62 ∧ -B62 ≤ (n : Int) ∧ (n : Int) < B62 := by
    have := hs.le
    unfold LIM at this
    unfold B62
    omega
  have hlen := hs.len
  have fl := flat_ints (v := v) (rngD 1 n) 59
  simp [riseE, evE, evEs, evI, Rs.bind, En.get, op2, op1, look, lookAll, toRs, toRb, hlen, hB, lockL, lockS, wipeE, e, hl, backE, unlockL, unlockS, keepAll, cmpD, eqv, flat, DEP, fl, eqD, riseD]
  cases (rngD 1 n).filterMap (riseQ v) <;> rfl
end Ev

set_option Elab.async false
set_option linter.all false
set_option maxRecDepth 100000
set_option maxHeartbeats 1000000
/-! Pl4: words, joints. Own work. -/
namespace Ev
theorem seqy_str {l : List Nat} (h : l.length ≤ LIM) : Seqy (.str l) l.length where
  len := rfl
  le := h
  at_ := fun i h0 h1 => by
    have hlt : i.toNat < l.length := by omega
    refine ⟨[l[i.toNat]], ?_⟩
    simp [subD, ixN, h0, h1, List.getElem?_eq_getElem hlt]
theorem seqy_lst {cs : List (List Nat)} (h : cs.length ≤ LIM) : Seqy (.lst (cs.map .str)) cs.length where
  len := by simp [biD]
  le := h
  at_ := fun i h0 h1 => by
    have hlt : i.toNat < cs.length := by omega
    refine ⟨cs[i.toNat], ?_⟩
    simp [subD, ixN, h0, h1, List.getElem?_map, List.getElem?_eq_getElem hlt]
def dfRise : Df := ⟨1, 2, [], (.cons (.ret riseE) .nil)⟩
theorem fRise_ok {Δ : Tab} {n : Nat} (h : Δ.lookup n = some dfRise) (k : Nat) {v : D} {m : Nat} {md : Md} (hs : Seqy v m) : Phi Δ (k + 1) n [⟨md, v⟩] = .ret false (.bl (riseD v m)) [⟨md, v⟩] := by
  rw [Phi_s h]
  have e := rise_ok (Φ := Phi Δ k) (m := md) hs
  simp [dfRise, runDf, frzAt, evSs, evS, Rs.bind, e, allSome, backAt]
/-- in order, as the rules say -/
def ordD : D → Bool
  | .str l => small l && riseD (.str l) l.length
  | _ => false
def dfOrd (a b : Nat) : Df := ⟨1, 1, [], (.cons (.ret (.and (.call a [0] (.cons (.var 0) .nil) .nil) (.call b [0] (.cons (.var 0) .nil) .nil))) .nil)⟩
/-- texts short enough -/
def short : D → Bool
  | .str l => decide (l.length ≤ LIM)
  | _ => true
theorem fOrd_ok {Δ : Tab} {a b n : Nat} (h1 : Δ.lookup a = some dfLett) (h2 : Δ.lookup b = some dfRise) (h : Δ.lookup n = some (dfOrd a b)) (k : Nat) {v : D} (hv : known v = true) (hz : short v = true) : Phi Δ (k + 2) n [⟨.fz, v⟩] = .ret false (.bl (ordD v)) [⟨.fz, v⟩] := by
  rw [Phi_s h]
  have e1 := lett_ok h1 k hv
  cases hs : smallD v with
  | false =>
    have e2 : ordD v = false := by
      cases v <;> first | rfl | skip
      rename_i l
      have hs : small l = false := hs
      show (small l && _) = false
      rw [hs] <;> rfl
    rw [hs] at e1
    simp [dfOrd, runDf, frzAt, evSs, evS, evE, evEs, Rs.bind, En.get, op1, look, truth, pick, callR, frzDup, argsOf, argOf, outsTo, e1, e2, allSome, backAt]
  | true =>
    cases v <;> first | (cases hs; done) | skip
    rename_i l
    have e2 := fRise_ok h2 k (md := .fz) (seqy_str (of_decide_eq_true hz))
    have e3 : small l = true := hs
    rw [hs] at e1
    simp [dfOrd, runDf, frzAt, evSs, evS, evE, evEs, Rs.bind, En.get, op1, look, truth, pick, callR, frzDup, argsOf, argOf, outsTo, e1, e2, e3, ordD, allSome, backAt]
/-! ### the law's own small and in order -/
def smX : E := .var 1
def smTs : Ts := .cons (.val (.cmp .notin (.var 1) (.lit (.str abc)))) .nil
def smQ : D → Option D
  | .str [c] => if c ∈ abc then none else some (.str [c])
  | _ => none
def dfSmall : Df := ⟨1, 2, [], (.cons (.ret (.and (.bi .isstr (.cons (.var 0) .nil)) (.cmp .eq (.lc smX [1] (.seq (.var 0)) smTs [1]) (.lst .nil)))) .nil)⟩
theorem fSmall_ok {Δ : Tab} {n : Nat} (h : Δ.lookup n = some dfSmall) (k : Nat) {v : D} (hv : known v = true) (hz : short v = true) : Phi Δ (k + 1) n [⟨.fz, v⟩] = .ret false (.bl (smallD v)) [⟨.fz, v⟩] := by
  rw [Phi_s h]
  cases v with
  | str l =>
    have hl : l.length ≤ LIM := of_decide_eq_true hz
    obtain ⟨ρ', e, x, rfl⟩ := lcGo_pure (f := lcTg [1] [1] (evTs (Phi Δ k) smTs) (evE (Phi Δ k) smX)) (q := smQ) (fun ρ => ∃ x, ρ = [some ⟨.fz, .str l⟩, x]) (rows := l.map fun c => .str [c]) (ρ := [some ⟨.fz, .str l⟩, none]) (fun d hd ρ ⟨x, hρ⟩ => by
      subst hρ
      obtain ⟨c, hc, rfl⟩ := List.mem_map.mp hd
      refine ⟨[some ⟨.fz, .str l⟩, some ⟨.fz, .str [c]⟩], ?_, _, rfl⟩
      by_cases hm : c ∈ abc
      · simp [lcTg, assignD, wipeE, smTs, smX, smQ, evTs, evT, evE, Rs.bind, En.get, op2, op1, look, toRs, toRb, cmpD, inD, truth, hm, keep]
      · simp [lcTg, assignD, wipeE, smTs, smX, smQ, evTs, evT, evE, Rs.bind, En.get, op2, op1, look, toRs, toRb, cmpD, inD, truth, hm, keep]) ⟨none, rfl⟩
    generalize hds : (l.map fun c => D.str [c]).filterMap smQ = ds at e
    have hlen : ds.length ≤ LIM := by
      rw [← hds]
      refine Nat.le_trans (List.length_filterMap_le _ _) ?_
      rw [List.length_map]
      exact hl
    have hall : ds.isEmpty = small l ∧ flatL 59 ds = true := by
      rw [← hds]
      clear hds e hlen hl hz hv
      induction l with
      | nil => exact ⟨rfl, rfl⟩
      | cons c l ih =>
        rw [List.map_cons, List.filterMap_cons, smQ]
        by_cases hm : c ∈ abc
        · have hc : abc.contains c = true := by simpa using hm
          simp only [hm, if_true]
          refine ⟨?_, ih.2⟩
          rw [ih.1]
          show small l = (abc.contains c && small l)
          rw [hc] <;> rfl
        · have hc : abc.contains c = false := by simpa using hm
          simp only [hm, if_false]
          refine ⟨?_, ?_⟩
          · show false = (abc.contains c && small l)
            rw [hc] <;> rfl
          · show (flat 59 (.str [c]) && flatL 59 _) = true
            rw [ih.2] <;> rfl
    simp [dfSmall, smallD, runDf, frzAt, evSs, evS, evE, evEs, evI, Rs.bind, En.get, op2, op1, look, lookAll, toRs, toRb, biD, truth, items, lockL, lockS, Md.lock, wipeE, e, hlen, backE, unlockL, unlockS, keepAll, cmpD, eqv, flat, DEP, hall.2, eqD, keep, allSome, backAt, ← hall.1]
    cases ds <;> rfl
  | fn n => cases hv
  | exc c v => cases hv
  | _ => simp [dfSmall, smallD, runDf, frzAt, evSs, evS, evE, evEs, Rs.bind, En.get, op2, op1, look, lookAll, toRs, toRb, biD, truth, keep, allSome, backAt]
def dfInOrd (a : Nat) : Df := ⟨1, 2, [], (.cons (.ret (.and (.call a [0] (.cons (.var 0) .nil) .nil) riseE)) .nil)⟩
theorem fInOrd_ok {Δ : Tab} {a n : Nat} (h1 : Δ.lookup a = some dfSmall) (h : Δ.lookup n = some (dfInOrd a)) (k : Nat) {v : D} (hv : known v = true) (hz : short v = true) : Phi Δ (k + 2) n [⟨.fz, v⟩] = .ret false (.bl (ordD v)) [⟨.fz, v⟩] := by
  rw [Phi_s h]
  have e1 := fSmall_ok h1 k hv hz
  cases hs : smallD v with
  | false =>
    have e2 : ordD v = false := by
      cases v <;> first | rfl | skip
      rename_i l
      have hs : small l = false := hs
      show (small l && _) = false
      rw [hs] <;> rfl
    rw [hs] at e1
    simp [dfInOrd, runDf, frzAt, evSs, evS, evE, evEs, Rs.bind, En.get, op1, look, truth, pick, callR, frzDup, argsOf, argOf, outsTo, e1, e2, allSome, backAt]
  | true =>
    cases v <;> first | (cases hs; done) | skip
    rename_i l
    have e2 := rise_ok (Φ := Phi Δ (k + 1)) (m := .fz) (seqy_str (of_decide_eq_true hz))
    have e3 : small l = true := hs
    rw [hs] at e1
    simp [dfInOrd, runDf, frzAt, evSs, evS, evE, evEs, Rs.bind, En.get, op1, look, truth, pick, callR, frzDup, argsOf, argOf, outsTo, e1, e2, e3, ordD, allSome, backAt]
/-- a def that hands its one argument on -/
def dfPass (a : Nat) : Df := ⟨1, 1, [], (.cons (.ret (.call a [0] (.cons (.var 0) .nil) .nil)) .nil)⟩
theorem pass_ok {Δ : Tab} {a n k : Nat} {v : D} {b : Bool} (h : Δ.lookup n = some (dfPass a)) (e : Phi Δ k a [⟨.fz, v⟩] = .ret false (.bl b) [⟨.fz, v⟩]) : Phi Δ (k + 1) n [⟨.fz, v⟩] = .ret false (.bl b) [⟨.fz, v⟩] := by
  rw [Phi_s h]
  simp [dfPass, runDf, frzAt, evSs, evS, evE, evEs, Rs.bind, En.get, pick, callR, frzDup, argsOf, argOf, outsTo, e, allSome, backAt]
/-! ### prices -/
def whole : D → Option Int
  | .int i => some i
  | _ => none
def dfWhole : Df := ⟨1, 1, [], (.cons (.ret (.and (.bi .isint (.cons (.var 0) .nil)) (.not (.bi .isbool (.cons (.var 0) .nil))))) .nil)⟩
theorem whole_ok {Δ : Tab} {n : Nat} (h : Δ.lookup n = some dfWhole) (k : Nat) {v : D} (hv : known v = true) : Phi Δ (k + 1) n [⟨.fz, v⟩] = .ret false (.bl (whole v).isSome) [⟨.fz, v⟩] := by
  rw [Phi_s h]
  cases v <;> first | (cases hv; done) | rfl
def dfBetw (a : Nat) : Df := ⟨3, 3, [], (.cons (.iff (.not (.val (.call a [0] (.cons (.var 0) .nil) .nil))) (.cons (.ret (.lit (.bl false))) .nil) .nil) (.cons (.ret (.and (.or (.cmp .is (.var 1) (.lit .non)) (.cmp .ge (.var 0) (.var 1))) (.or (.cmp .is (.var 2) (.lit .non)) (.cmp .le (.var 0) (.var 2))))) .nil))⟩
/-- between, the upper end open -/
def atLeast (lo : Int) : D → Bool
  | .int i => decide (lo ≤ i)
  | _ => false
theorem betw_ok {Δ : Tab} {a n : Nat} (h1 : Δ.lookup a = some dfWhole) (h : Δ.lookup n = some (dfBetw a)) (k : Nat) {v : D} {lo : Int} (hv : known v = true) : Phi Δ (k + 2) n [⟨.fz, v⟩, ⟨.fz, .int lo⟩, ⟨.fz, .non⟩] = .ret false (.bl (atLeast lo v)) [⟨.fz, v⟩, ⟨.fz, .int lo⟩, ⟨.fz, .non⟩] := by
  rw [Phi_s h]
  have e1 := whole_ok h1 k hv
  cases v with
  | int i =>
    have e1 : Phi Δ (k + 1) a [⟨.fz, .int i⟩] = .ret false (.bl true) [⟨.fz, .int i⟩] := e1
    by_cases hl : lo ≤ i
    · simp [dfBetw, runDf, frzAt, evSs, evS, evT, evE, evEs, Rs.bind, En.get, op1, op2, look, truth, pick, callR, frzDup, argsOf, argOf, outsTo, toRb, cmpD, isNonD, e1, atLeast, hl, keep, allSome, backAt]
    · simp [dfBetw, runDf, frzAt, evSs, evS, evT, evE, evEs, Rs.bind, En.get, op1, op2, look, truth, pick, callR, frzDup, argsOf, argOf, outsTo, toRb, cmpD, isNonD, e1, atLeast, hl, keep, allSome, backAt]
  | fn n => cases hv
  | exc c v => cases hv
  | _ =>
    simp only [whole, Option.isSome] at e1
    simp [dfBetw, runDf, frzAt, evSs, evS, evT, evE, evEs, Rs.bind, En.get, op1, op2, look, truth, pick, callR, frzDup, argsOf, argOf, outsTo, toRb, cmpD, isNonD, e1, atLeast, keep, allSome, backAt]
end Ev

set_option Elab.async false
set_option linter.all false
set_option maxRecDepth 100000
set_option maxHeartbeats 1000000
/-! Pl5: prices. Own work. -/
namespace Ev
def priceOk : D → Bool
  | .tup [x, y] => match x with
    | .str l => small l && decide (l.length = 1) && atLeast 1 y
    | _ => false
  | _ => false
def known2 : D → Bool
  | .tup xs => xs.all known
  | d => known d
def dfPrice (ll bw : Nat) : Df := ⟨1, 1, [], (.cons (.iff (.or (.not (.val (.bi .istuple (.cons (.var 0) .nil)))) (.or (.val (.cmp .ne (.bi .len (.cons (.var 0) .nil)) (.lit (.int 2)))) (.or (.not (.val (.call ll [0] (.cons (.sub (.var 0) (.lit (.int 0))) .nil) .nil))) (.val (.cmp .ne (.bi .len (.cons (.sub (.var 0) (.lit (.int 0))) .nil)) (.lit (.int 1))))))) (.cons (.ret (.lit (.bl false))) .nil) .nil) (.cons (.ret (.call bw [0, 1, 2] (.cons (.sub (.var 0) (.lit (.int 1))) (.cons (.lit (.int 1)) (.cons (.lit .non) .nil))) .nil)) .nil))⟩
theorem price_ok {Δ : Tab} {ll wh bw n : Nat} (h1 : Δ.lookup ll = some dfLett) (h2 : Δ.lookup wh = some dfWhole) (h3 : Δ.lookup bw = some (dfBetw wh)) (h : Δ.lookup n = some (dfPrice ll bw)) (k : Nat) {v : D} (hv : known2 v = true) : Phi Δ (k + 3) n [⟨.fz, v⟩] = .ret false (.bl (priceOk v)) [⟨.fz, v⟩] := by
  rw [Phi_s h]
  cases v with
  | tup xs =>
    rcases xs with _ | ⟨x, _ | ⟨y, _ | ⟨z, r⟩⟩⟩
    · simp [dfPrice, runDf, frzAt, evSs, evS, evT, evE, evEs, Rs.bind, En.get, op1, op2, look, lookAll, truth, biD, toRs, toRb, cmpD, eqv, flat, DEP, eqD, priceOk, allSome, backAt]
    · simp [dfPrice, runDf, frzAt, evSs, evS, evT, evE, evEs, Rs.bind, En.get, op1, op2, look, lookAll, truth, biD, toRs, toRb, cmpD, eqv, flat, DEP, eqD, priceOk, allSome, backAt]
    · replace hv : (known x && (known y && true)) = true := hv
      rw [Bool.and_eq_true, Bool.and_eq_true] at hv
      have e1 := lett_ok h1 (k + 1) hv.1
      have e2 := betw_ok h2 h3 k (lo := 1) hv.2.1
      cases hs : smallD x with
      | false =>
        rw [hs] at e1
        have e3 : priceOk (.tup [x, y]) = false := by
          cases x <;> first | rfl | skip
          rename_i l
          have hs : small l = false := hs
          show (small l && _ && _) = false
          rw [hs] <;> rfl
        simp [dfPrice, runDf, frzAt, evSs, evS, evT, evE, evEs, Rs.bind, En.get, op1, op2, look, lookAll, truth, biD, toRs, toRb, cmpD, eqv, flat, DEP, eqD, subD, ixN, pick, callR, frzDup, argsOf, argOf, outsTo, e1, e3, allSome, backAt]
      | true =>
        cases x <;> first | (cases hs; done) | skip
        rename_i l
        have hs' : small l = true := hs
        rw [hs] at e1
        by_cases hl : l.length = 1
        · have hl' : (l.length : Int) = 1 := by omega
          simp [dfPrice, runDf, frzAt, evSs, evS, evT, evE, evEs, Rs.bind, En.get, op1, op2, look, lookAll, truth, biD, toRs, toRb, cmpD, eqv, flat, DEP, eqD, subD, ixN, pick, callR, frzDup, argsOf, argOf, outsTo, e1, e2, hl, hl', hs', priceOk, allSome, backAt]
        · have hl' : ¬ (l.length : Int) = 1 := by omega
          simp [dfPrice, runDf, frzAt, evSs, evS, evT, evE, evEs, Rs.bind, En.get, op1, op2, look, lookAll, truth, biD, toRs, toRb, cmpD, eqv, flat, DEP, eqD, subD, ixN, pick, callR, frzDup, argsOf, argOf, outsTo, e1, hl, hl', hs', priceOk, allSome, backAt]
    · have hl : ¬ ((r.length + 1 + 1 + 1 : Nat) : Int) = 2 := by omega
      have hl2 : ¬ ((r.length : Int) + 1 + 1 + 1 = 2) := by omega
      simp [dfPrice, runDf, frzAt, evSs, evS, evT, evE, evEs, Rs.bind, En.get, op1, op2, look, lookAll, truth, biD, toRs, toRb, cmpD, eqv, flat, DEP, eqD, priceOk, hl, hl2, allSome, backAt]
  | fn n => cases hv
  | exc c v => cases hv
  | _ => simp [dfPrice, runDf, frzAt, evSs, evS, evT, evE, evEs, Rs.bind, En.get, op1, op2, look, lookAll, truth, biD, toRs, toRb, priceOk, allSome, backAt]
end Ev

set_option Elab.async false
set_option linter.all false
set_option maxRecDepth 100000
set_option maxHeartbeats 1000000
/-! Pl6: lists of prices. Own work. -/
namespace Ev
def fstD : D → D
  | .tup (x :: _) => x
  | _ => .non
def prQ (d : D) : Option D := if priceOk d then none else some d
def prX : E := .var 1
def prTs (pr : Nat) : Ts := .cons (.not (.val (.call pr [0] (.cons (.var 1) .nil) .nil))) .nil
def prY : E := .var 2
def dfPrices (pr rs : Nat) : Df := ⟨1, 4, [], (.cons (.iff (.or (.not (.val (.bi .islist (.cons (.var 0) .nil)))) (.val (.cmp .ne (.lc prX [1] (.seq (.var 0)) (prTs pr) [1]) (.lst .nil)))) (.cons (.ret (.lit (.bl false))) .nil) .nil) (.cons (.ret (.call rs [0] (.cons (.lc prY [2, 3] (.seq (.var 0)) .nil [2, 3]) .nil) .nil)) .nil))⟩
def pricesD : D → Bool
  | .lst xs => xs.all priceOk && riseD (.lst (xs.map fstD)) xs.length
  | _ => false
/-- what the price rules may look at -/
def known3 : D → Bool
  | .lst xs => xs.all known2 && flatL 59 xs && decide (xs.length ≤ LIM)
  | .scr _ => false
  | d => known d
theorem priceOk_shape {d : D} (h : priceOk d = true) : ∃ c i, d = .tup [.str [c], .int i] ∧ (1 : Int) ≤ i := by
  unfold priceOk at h
  split at h
  · split at h
    · rename_i x y l
      rw [Bool.and_eq_true, Bool.and_eq_true] at h
      obtain ⟨⟨_, h2⟩, h3⟩ := h
      have h2 := of_decide_eq_true h2
      match l, h2 with
      | [c], _ =>
        cases x with
        | int i => exact ⟨c, i, rfl, of_decide_eq_true h3⟩
        | _ => cases h3
    · cases h
  · cases h
theorem flat_prQ : ∀ {xs : List D} {k : Nat}, flatL k xs = true → flatL k (xs.filterMap prQ) = true
  | [], _, _ => rfl
  | x :: xs, k, h => by
    have h : (flat k x && flatL k xs) = true := h
    rw [Bool.and_eq_true] at h
    rw [List.filterMap_cons]
    unfold prQ
    by_cases hp : priceOk x = true
    · simp only [hp, if_true]
      exact flat_prQ h.2
    · simp only [hp]
      show (flat k x && flatL k (xs.filterMap prQ)) = true
      rw [h.1, flat_prQ h.2] <;> rfl
theorem prQ_nil : ∀ {xs : List D}, (xs.filterMap prQ).isEmpty = xs.all priceOk
  | [] => rfl
  | x :: xs => by
    rw [List.filterMap_cons, List.all_cons]
    unfold prQ
    cases hp : priceOk x with
    | true => simp only [if_true, Bool.true_and]; exact prQ_nil
    | false => simp
theorem fst_strs : ∀ {xs : List D}, xs.all priceOk = true → ∃ cs : List (List Nat), xs.map fstD = cs.map .str ∧ cs.length = xs.length
  | [], _ => ⟨[], rfl, rfl⟩
  | d :: xs, ha => by
    rw [List.all_cons, Bool.and_eq_true] at ha
    obtain ⟨c, i, rfl, _⟩ := priceOk_shape ha.1
    obtain ⟨cs, e1, e2⟩ := fst_strs ha.2
    exact ⟨[c] :: cs, by rw [List.map_cons, List.map_cons, e1] <;> rfl, by rw [List.length_cons, List.length_cons, e2]⟩
theorem flatL_nil (k : Nat) : flatL k [] = true := by cases k <;> rfl
theorem eqDs_cn (y : D) (ys : List D) : eqDs (y :: ys) [] = false := rfl
theorem prices_ok {Δ : Tab} {ll wh bw pr rs n : Nat} (h1 : Δ.lookup ll = some dfLett) (h2 : Δ.lookup wh = some dfWhole) (h3 : Δ.lookup bw = some (dfBetw wh)) (h4 : Δ.lookup pr = some (dfPrice ll bw)) (h5 : Δ.lookup rs = some dfRise) (h : Δ.lookup n = some (dfPrices pr rs)) (k : Nat) {md : Md} {v : D} (hv : known3 v = true) : Phi Δ (k + 4) n [⟨md, v⟩] = .ret false (.bl (pricesD v)) [⟨md, v⟩] := by
  rw [Phi_s h]
  cases v with
  | lst xs =>
    replace hv : (xs.all known2 && flatL 59 xs && decide (xs.length ≤ LIM)) = true := hv
    rw [Bool.and_eq_true, Bool.and_eq_true] at hv
    obtain ⟨⟨hk, hf⟩, hl⟩ := hv
    have hl := of_decide_eq_true hl
    obtain ⟨ρ', e, x, rfl⟩ := lcGo_pure (f := lcTg [1] [1] (evTs (Phi Δ (k + 3)) (prTs pr)) (evE (Phi Δ (k + 3)) prX)) (q := prQ) (fun ρ => ∃ x, ρ = [some ⟨md.lock, .lst xs⟩, x, none, none]) (rows := xs) (ρ := [some ⟨md.lock, .lst xs⟩, none, none, none]) (fun d hd ρ ⟨x, hρ⟩ => by
      subst hρ
      refine ⟨[some ⟨md.lock, .lst xs⟩, some ⟨.fz, d⟩, none, none], ?_, _, rfl⟩
      have hkd : known2 d = true := (List.all_eq_true.mp hk) d hd
      have e1 := price_ok h1 h2 h3 h4 k hkd
      by_cases hp : priceOk d = true
      · simp [lcTg, assignD, wipeE, prTs, prX, prQ, evTs, evT, evE, evEs, Rs.bind, En.get, op2, op1, look, toRs, toRb, truth, pick, callR, frzDup, argsOf, argOf, outsTo, e1, hp, keep]
      · have hp : priceOk d = false := by simpa using hp
        simp [lcTg, assignD, wipeE, prTs, prX, prQ, evTs, evT, evE, evEs, Rs.bind, En.get, op2, op1, look, toRs, toRb, truth, pick, callR, frzDup, argsOf, argOf, outsTo, e1, hp, keep]) ⟨none, rfl⟩
    have hfl := flat_prQ hf
    have hnl := prQ_nil (xs := xs)
    have hlen : (xs.filterMap prQ).length ≤ LIM := Nat.le_trans (List.length_filterMap_le _ _) hl
    generalize xs.filterMap prQ = ds at e hfl hnl hlen
    cases ha : xs.all priceOk with
    | false =>
      rw [ha] at hnl
      have hne : ¬ ds = [] := by intro z; rw [z] at hnl; cases hnl
      cases ds with
      | nil => exact absurd rfl hne
      | cons y ys =>
        have hlen : ys.length + 1 ≤ LIM := hlen
        cases md <;> simp only [Md.lock] at e <;> simp [dfPrices, pricesD, ha, runDf, frzAt, evSs, evS, evT, evE, evEs, evI, Rs.bind, En.get, op2, op1, look, lookAll, toRs, toRb, biD, truth, items, lockL, lockS, Md.lock, wipeE, e, hlen, hl, backE, unlockL, unlockS, keepAll, cmpD, eqv, flat, DEP, hfl, flatL_nil, eqDs_cn, eqD, keep, allSome, backAt]
    | true =>
      rw [ha] at hnl
      have hds : ds = [] := by cases ds <;> first | rfl | cases hnl
      subst hds
      obtain ⟨ρ'', e2, x2, y2, rfl⟩ := lcGo_pure (f := lcTg [2, 3] [2, 3] (evTs (Phi Δ (k + 3)) .nil) (evE (Phi Δ (k + 3)) prY)) (q := fun d => some (fstD d)) (fun ρ => ∃ x y, ρ = [some ⟨md.lock, .lst xs⟩, none, x, y]) (rows := xs) (ρ := [some ⟨md.lock, .lst xs⟩, none, none, none]) (fun d hd ρ ⟨x, y, hρ⟩ => by
        subst hρ
        obtain ⟨c, i, rfl, _⟩ := priceOk_shape ((List.all_eq_true.mp ha) d hd)
        refine ⟨[some ⟨md.lock, .lst xs⟩, none, some ⟨.fz, .str [c]⟩, some ⟨.fz, .int i⟩], ?_, _, _, rfl⟩
        simp [lcTg, assignD, setAll, wipeE, prY, fstD, evTs, evT, evE, evEs, Rs.bind, En.get, op2, op1, look, keep]) ⟨none, none, rfl⟩
      have hmap : xs.filterMap (fun d => some (fstD d)) = xs.map fstD := by
        rw [← List.filterMap_eq_map] <;> rfl
      rw [hmap] at e2
      have hstr := fst_strs ha
      obtain ⟨cs, hcs, hcl⟩ := hstr
      have hz := seqy_lst (cs := cs) (by rw [hcl]; exact hl)
      rw [← hcs, hcl] at hz
      have e3 := fRise_ok h5 (k + 2) (md := .fz) hz
      have hml : (xs.map fstD).length ≤ LIM := by rw [List.length_map]; exact hl
      have e4 := fRise_ok h5 (k + 2) (md := .own) hz
      cases md <;> simp only [Md.lock] at e e2 <;> simp [dfPrices, pricesD, ha, runDf, frzAt, evSs, evS, evT, evE, evEs, evI, Rs.bind, En.get, op2, op1, look, lookAll, toRs, toRb, biD, truth, items, lockL, lockS, Md.lock, wipeE, e, e2, hlen, hl, hml, backE, unlockL, unlockS, keepAll, cmpD, eqv, flat, flatL_nil, DEP, hfl, eqD, eqDs, pick, callR, frzDup, argsOf, argOf, outsTo, e3, e4, keep, allSome, backAt]
  | fn n => cases hv
  | exc c v => cases hv
  | scr ns => cases hv
  | _ => simp [dfPrices, pricesD, runDf, frzAt, evSs, evS, evT, evE, evEs, Rs.bind, En.get, op2, op1, look, lookAll, toRs, toRb, biD, truth, keep, allSome, backAt]
end Ev

set_option Elab.async false
set_option linter.all false
set_option maxRecDepth 100000
set_option maxHeartbeats 1000000
/-! Pl7: the law's own look at lists of prices. Own work. -/
namespace Ev
theorem forGo_chk {f : D → En → Rs Fl} {p : D → Bool} {o : Bool} {r : D} (Inv : En → Prop) : ∀ {rows : List D} {ρ : En}, (∀ d ∈ rows, ∀ ρ, Inv ρ → ∃ ρ', f d ρ = .ok (if p d then .nx else .rt o r) ρ' ∧ Inv ρ') → Inv ρ → ∃ ρ', forGo f rows ρ = .ok (if rows.all p then .nx else .rt o r) ρ' ∧ Inv ρ'
  | [], ρ, _, h => ⟨ρ, rfl, h⟩
  | d :: ds, ρ, st, h => by
    obtain ⟨ρ1, e, h1⟩ := st d List.mem_cons_self ρ h
    obtain ⟨ρ2, e2, h2⟩ := forGo_chk Inv (rows := ds) (fun d hd => st d (List.mem_cons_of_mem _ hd)) h1
    unfold forGo
    rw [e, List.all_cons]
    cases hp : p d with
    | true => exact ⟨ρ2, e2, h2⟩
    | false => exact ⟨ρ1, rfl, h1⟩
theorem ltII (a b : Int) : ltD (.int a) (.int b) = some (decide (a < b)) := rfl
/-- items of a list of prices whose texts are short -/
def shortI : D → Bool
  | .tup (x :: _) => short x
  | _ => true
def arB (sm : Nat) : Ss := (.cons (.iff (.or (.not (.val (.bi .istuple (.cons (.var 1) .nil)))) (.or (.val (.cmp .ne (.bi .len (.cons (.var 1) .nil)) (.lit (.int 2)))) (.or (.not (.val (.call sm [0] (.cons (.sub (.var 1) (.lit (.int 0))) .nil) .nil))) (.val (.cmp .ne (.bi .len (.cons (.sub (.var 1) (.lit (.int 0))) .nil)) (.lit (.int 1))))))) (.cons (.ret (.lit (.bl false))) .nil) .nil) (.cons (.iff (.or (.not (.val (.bi .isint (.cons (.sub (.var 1) (.lit (.int 1))) .nil)))) (.or (.val (.bi .isbool (.cons (.sub (.var 1) (.lit (.int 1))) .nil))) (.val (.cmp .lt (.sub (.var 1) (.lit (.int 1))) (.lit (.int 1)))))) (.cons (.ret (.lit (.bl false))) .nil) .nil) .nil))
theorem arB_ok {Δ : Tab} {sm : Nat} (h1 : Δ.lookup sm = some dfSmall) (k : Nat) {d : D} {np : Nat} {V : D} (hk : known2 d = true) (hz : shortI d = true) : evSs (Phi Δ (k + 1)) np (arB sm) [some ⟨.fz, V⟩, some ⟨.fz, d⟩] = .ok (if priceOk d then .nx else .rt false (.bl false)) [some ⟨.fz, V⟩, some ⟨.fz, d⟩] := by
  cases d with
  | tup xs =>
    rcases xs with _ | ⟨x, _ | ⟨y, _ | ⟨z, r⟩⟩⟩
    · simp [arB, evSs, evS, evT, evE, evEs, Rs.bind, En.get, op1, op2, look, lookAll, truth, biD, toRs, toRb, cmpD, eqv, flat, DEP, eqD, priceOk, keep]
    · simp [arB, evSs, evS, evT, evE, evEs, Rs.bind, En.get, op1, op2, look, lookAll, truth, biD, toRs, toRb, cmpD, eqv, flat, DEP, eqD, priceOk, keep]
    · replace hk : (known x && (known y && true)) = true := hk
      rw [Bool.and_eq_true, Bool.and_eq_true] at hk
      have e1 := fSmall_ok h1 k hk.1 hz
      cases hs : smallD x with
      | false =>
        rw [hs] at e1
        have e3 : priceOk (.tup [x, y]) = false := by
          cases x with
          | str l =>
            have hs : small l = false := hs
            show (small l && _ && _) = false
            rw [hs] <;> rfl
          | _ => rfl
        simp [arB, evSs, evS, evT, evE, evEs, Rs.bind, En.get, op1, op2, look, lookAll, truth, biD, toRs, toRb, cmpD, eqv, flat, DEP, eqD, subD, ixN, pick, callR, frzDup, argsOf, argOf, outsTo, e1, e3, keep]
      | true =>
        cases x with
        | str l =>
          have hs' : small l = true := hs
          rw [hs] at e1
          by_cases hl : l.length = 1
          · have hl' : (l.length : Int) = 1 := by omega
            cases y with
            | int i =>
              by_cases hi : i < 1
              · have hi' : ¬ 1 ≤ i := by omega
                simp [arB, evSs, evS, evT, evE, evEs, Rs.bind, En.get, op1, op2, look, lookAll, truth, biD, toRs, toRb, cmpD, eqv, flat, DEP, eqD, subD, ixN, pick, callR, frzDup, argsOf, argOf, outsTo, e1, hl, hl', hs', hi, hi', ltII, priceOk, atLeast, keep]
              · have hi' : 1 ≤ i := by omega
                simp [arB, evSs, evS, evT, evE, evEs, Rs.bind, En.get, op1, op2, look, lookAll, truth, biD, toRs, toRb, cmpD, eqv, flat, DEP, eqD, subD, ixN, pick, callR, frzDup, argsOf, argOf, outsTo, e1, hl, hl', hs', hi, hi', ltII, priceOk, atLeast, keep]
            | fn n => exact absurd hk.2.1 (by simp [known])
            | exc c v => exact absurd hk.2.1 (by simp [known])
            | _ => simp [arB, evSs, evS, evT, evE, evEs, Rs.bind, En.get, op1, op2, look, lookAll, truth, biD, toRs, toRb, cmpD, eqv, flat, DEP, eqD, subD, ixN, pick, callR, frzDup, argsOf, argOf, outsTo, e1, hl, hl', hs', priceOk, atLeast, keep]
          · have hl' : ¬ (l.length : Int) = 1 := by omega
            simp [arB, evSs, evS, evT, evE, evEs, Rs.bind, En.get, op1, op2, look, lookAll, truth, biD, toRs, toRb, cmpD, eqv, flat, DEP, eqD, subD, ixN, pick, callR, frzDup, argsOf, argOf, outsTo, e1, hl, hl', hs', priceOk, keep]
        | _ => cases hs
    · have hl2 : ¬ ((r.length : Int) + 1 + 1 + 1 = 2) := by omega
      simp [arB, evSs, evS, evT, evE, evEs, Rs.bind, En.get, op1, op2, look, lookAll, truth, biD, toRs, toRb, cmpD, eqv, flat, DEP, eqD, priceOk, hl2, keep]
  | fn n => cases hk
  | exc c v => cases hk
  | _ => simp [arB, evSs, evS, evT, evE, evEs, Rs.bind, En.get, op1, op2, look, lookAll, truth, biD, toRs, toRb, priceOk, keep]
/-- the letters of a list of prices -/
theorem fst_chars : ∀ {xs : List D}, xs.all priceOk = true → ∃ cs : List Nat, xs.map fstD = cs.map (fun c => .str [c]) ∧ cs.length = xs.length ∧ small cs = true
  | [], _ => ⟨[], rfl, rfl, rfl⟩
  | d :: xs, ha => by
    rw [List.all_cons, Bool.and_eq_true] at ha
    obtain ⟨c, i, rfl, _⟩ := priceOk_shape ha.1
    obtain ⟨cs, e1, e2, e3⟩ := fst_chars ha.2
    have hc : small [c] = true := by
      have h := ha.1
      change (small [c] && _ && _) = true at h
      rw [Bool.and_eq_true, Bool.and_eq_true] at h
      exact h.1.1
    refine ⟨c :: cs, by rw [List.map_cons, List.map_cons, e1] <;> rfl, by rw [List.length_cons, List.length_cons, e2], ?_⟩
    unfold small at hc e3 ⊢
    rw [List.all_cons, e3]
    rw [List.all_cons] at hc
    exact hc
theorem strs_chars : ∀ cs : List Nat, strsOf (cs.map fun c => D.str [c]) = some (cs.map fun c => [c])
  | [] => rfl
  | c :: cs => by
    rw [List.map_cons, strsOf, strs_chars cs] <;> rfl
theorem join_chars : ∀ cs : List Nat, joinL [] (cs.map fun c => [c]) = cs
  | [] => rfl
  | [c] => rfl
  | c :: d :: cs => by
    have h := join_chars (d :: cs)
    simp only [List.map_cons] at h ⊢
    rw [joinL, h] <;> rfl
theorem sum_chars : ∀ cs : List Nat, ((cs.map fun c => [c]).map List.length).sum = cs.length
  | [] => rfl
  | c :: cs => by
    rw [List.map_cons, List.map_cons, List.sum_cons, sum_chars cs]
    show 1 + cs.length = cs.length + 1
    omega
theorem sum_chars2 (cs : List Nat) : (List.map (List.length ∘ fun c => [c]) cs).sum = cs.length := by
  have h := sum_chars cs
  rw [List.map_map] at h
  exact h
theorem rise_chars (cs : List Nat) (n : Nat) : riseD (.lst (cs.map fun c => .str [c])) n = riseD (.str cs) n := by
  have e : ∀ i : Int, subD (.lst (cs.map fun c => D.str [c])) (.int i) = subD (.str cs) (.int i) := by
    intro i
    simp only [subD, ixN, List.length_map, List.getElem?_map]
    split <;> (try split) <;> (first | rfl | skip) <;> (rename_i hh; rw [hh] <;> rfl)
  have eq : riseQ (.lst (cs.map fun c => D.str [c])) = riseQ (.str cs) := by
    funext d
    cases d <;> first | rfl | skip
    unfold riseQ
    simp only [e]
  unfold riseD
  rw [eq]
def jnX : E := .sub (.var 1) (.lit (.int 0))
def dfArePr (sm io : Nat) : Df := ⟨1, 2, [], (.cons (.iff (.not (.val (.bi .islist (.cons (.var 0) .nil)))) (.cons (.ret (.lit (.bl false))) .nil) .nil) (.cons (.for [1] (.seq (.var 0)) (arB sm)) (.cons (.ret (.call io [0] (.cons (.mth .join (.lit (.str [])) (.cons (.lc jnX [1] (.seq (.var 0)) .nil [1]) .nil)) .nil) .nil)) .nil)))⟩
theorem arePr_ok {Δ : Tab} {sm io n : Nat} (h1 : Δ.lookup sm = some dfSmall) (h2 : Δ.lookup io = some (dfInOrd sm)) (h : Δ.lookup n = some (dfArePr sm io)) (k : Nat) {v : D} (hv : known3 v = true) (hz : ∀ xs, v = .lst xs → xs.all shortI = true) : Phi Δ (k + 3) n [⟨.fz, v⟩] = .ret false (.bl (pricesD v)) [⟨.fz, v⟩] := by
  rw [Phi_s h]
  cases v with
  | lst xs =>
    replace hz := hz xs rfl
    replace hv : (xs.all known2 && flatL 59 xs && decide (xs.length ≤ LIM)) = true := hv
    rw [Bool.and_eq_true, Bool.and_eq_true] at hv
    obtain ⟨⟨hk, hf⟩, hl⟩ := hv
    replace hl := of_decide_eq_true hl
    obtain ⟨ρ', e, x, rfl⟩ := forGo_chk (f := withTg [1] (evSs (Phi Δ (k + 2)) 1 (arB sm))) (p := priceOk) (o := false) (r := .bl false) (fun ρ => ∃ x, ρ = [some ⟨.fz, .lst xs⟩, x]) (rows := xs) (ρ := [some ⟨.fz, .lst xs⟩, none]) (fun d hd ρ ⟨x, hρ⟩ => by
      subst hρ
      refine ⟨[some ⟨.fz, .lst xs⟩, some ⟨.fz, d⟩], ?_, _, rfl⟩
      have e1 := arB_ok h1 (k + 1) (np := 1) (V := .lst xs) ((List.all_eq_true.mp hk) d hd) ((List.all_eq_true.mp hz) d hd)
      simp only [withTg, assignD]
      exact e1) ⟨none, rfl⟩
    cases ha : xs.all priceOk with
    | false =>
      rw [ha] at e
      simp [dfArePr, pricesD, ha, runDf, frzAt, evSs, evS, evT, evE, evEs, evI, Rs.bind, En.get, op2, op1, look, lookAll, toRs, toRb, biD, truth, items, lockL, lockS, Md.lock, wipeE, e, backE, unlockL, unlockS, keepAll, keep, allSome, backAt]
    | true =>
      rw [ha] at e
      obtain ⟨cs, hcs, hcl, hsm⟩ := fst_chars ha
      obtain ⟨ρ'', e2, x2, rfl⟩ := lcGo_pure (f := lcTg [1] [1] (evTs (Phi Δ (k + 2)) .nil) (evE (Phi Δ (k + 2)) jnX)) (q := fun d => some (fstD d)) (fun ρ => ∃ x, ρ = [some ⟨.fz, .lst xs⟩, x]) (rows := xs) (ρ := [some ⟨.fz, .lst xs⟩, none]) (fun d hd ρ ⟨x, hρ⟩ => by
        subst hρ
        obtain ⟨c, i, rfl, _⟩ := priceOk_shape ((List.all_eq_true.mp ha) d hd)
        refine ⟨[some ⟨.fz, .lst xs⟩, some ⟨.fz, .tup [.str [c], .int i]⟩], ?_, _, rfl⟩
        simp [lcTg, assignD, wipeE, jnX, fstD, evTs, evT, evE, evEs, Rs.bind, En.get, op2, op1, look, toRs, subD, ixN, keep]) ⟨none, rfl⟩
      have hmap : xs.filterMap (fun d => some (fstD d)) = xs.map fstD := by
        rw [← List.filterMap_eq_map] <;> rfl
      rw [hmap, hcs] at e2
      have hml : cs.length ≤ LIM := by rw [hcl]; exact hl
      have e3 := fInOrd_ok h1 h2 k (v := .str cs) rfl (decide_eq_true hml)
      have hp : pricesD (.lst xs) = ordD (.str cs) := by
        show (xs.all priceOk && riseD (.lst (xs.map fstD)) xs.length) = (small cs && riseD (.str cs) cs.length)
        rw [ha, hcs, rise_chars, hsm, hcl]
      rw [hp]
      simp [dfArePr, runDf, frzAt, evSs, evS, evT, evE, evEs, evI, Rs.bind, En.get, op2, op1, look, lookAll, toRs, toRb, biD, truth, items, lockL, lockS, Md.lock, wipeE, e, e2, hl, hml, backE, unlockL, unlockS, keepAll, mtOk, mthR, mtD, strs_chars, join_chars, sum_chars, sum_chars2, pick, callR, frzDup, argsOf, argOf, outsTo, e3, keep, allSome, backAt]
  | fn n => cases hv
  | exc c v => cases hv
  | scr ns => cases hv
  | _ => simp [dfArePr, pricesD, runDf, frzAt, evSs, evS, evT, evE, evEs, Rs.bind, En.get, op2, op1, look, lookAll, toRs, toRb, biD, truth, keep, allSome, backAt]
end Ev

set_option Elab.async false
set_option linter.all false
set_option maxRecDepth 100000
set_option maxHeartbeats 1000000
/-! Pl8: joints of prices, words ahead. Own work. -/
namespace Ev
def dfChk (a : Nat) : Df := ⟨1, 1, [], (.cons (.iff (.not (.val (.call a [0] (.cons (.var 0) .nil) .nil))) (.cons .bad .nil) .nil) .nil)⟩
theorem chk_ok {Δ : Tab} {a n k : Nat} {v : D} {md : Md} (h : Δ.lookup n = some (dfChk a)) (e : Phi Δ k a [⟨md, v⟩] = .ret false (.bl true) [⟨md, v⟩]) : Phi Δ (k + 1) n [⟨md, v⟩] = .ret false .non [⟨md, v⟩] := by
  rw [Phi_s h]
  simp [dfChk, runDf, frzAt, evSs, evS, evT, evE, evEs, Rs.bind, En.get, op1, look, truth, pick, callR, frzDup, argsOf, argOf, outsTo, e, allSome, backAt]
def loX : E := .var 1
def dfLettersOf : Df := ⟨1, 3, [], (.cons (.ret (.mth .join (.lit (.str [])) (.cons (.lc loX [1, 2] (.seq (.var 0)) .nil [1, 2]) .nil))) .nil)⟩
theorem lettersOf_ok {Δ : Tab} {n : Nat} (h : Δ.lookup n = some dfLettersOf) (k : Nat) {md : Md} {xs : List D} {cs : List Nat} (ha : xs.all priceOk = true) (hcs : xs.map fstD = cs.map (fun c => .str [c])) (hl : xs.length ≤ LIM) : Phi Δ (k + 1) n [⟨md, .lst xs⟩] = .ret false (.str cs) [⟨md, .lst xs⟩] := by
  rw [Phi_s h]
  obtain ⟨ρ'', e2, x2, y2, rfl⟩ := lcGo_pure (f := lcTg [1, 2] [1, 2] (evTs (Phi Δ k) .nil) (evE (Phi Δ k) loX)) (q := fun d => some (fstD d)) (fun ρ => ∃ x y, ρ = [some ⟨md.lock, .lst xs⟩, x, y]) (rows := xs) (ρ := [some ⟨md.lock, .lst xs⟩, none, none]) (fun d hd ρ ⟨x, y, hρ⟩ => by
    subst hρ
    obtain ⟨c, i, rfl, _⟩ := priceOk_shape ((List.all_eq_true.mp ha) d hd)
    refine ⟨[some ⟨md.lock, .lst xs⟩, some ⟨.fz, .str [c]⟩, some ⟨.fz, .int i⟩], ?_, _, _, rfl⟩
    simp [lcTg, assignD, setAll, wipeE, loX, fstD, evTs, evT, evE, evEs, Rs.bind, En.get, op2, op1, look, keep]) ⟨none, none, rfl⟩
  have hmap : xs.filterMap (fun d => some (fstD d)) = xs.map fstD := by
    rw [← List.filterMap_eq_map] <;> rfl
  have hml : cs.length ≤ LIM := by
    have := congrArg List.length hcs
    rw [List.length_map, List.length_map] at this
    omega
  rw [hmap, hcs] at e2
  cases md <;> simp only [Md.lock] at e2 <;> simp [dfLettersOf, runDf, frzAt, evSs, evS, evT, evE, evEs, evI, Rs.bind, En.get, op2, op1, look, lookAll, toRs, toRb, biD, truth, items, lockL, lockS, Md.lock, wipeE, e2, hl, hml, backE, unlockL, unlockS, keepAll, mtOk, mthR, mtD, strs_chars, join_chars, sum_chars, sum_chars2, keep, allSome, backAt]
def dfJointsOf (ck lo : Nat) : Df := ⟨1, 1, [], (.cons (.expr (.call ck [0] (.cons (.var 0) .nil) .nil)) (.cons (.ret (.call lo [0] (.cons (.var 0) .nil) .nil)) .nil))⟩
theorem jointsOf_ok {Δ : Tab} {ck lo n k : Nat} {v d : D} {md : Md} (h : Δ.lookup n = some (dfJointsOf ck lo)) (e1 : Phi Δ k ck [⟨md, v⟩] = .ret false .non [⟨md, v⟩]) (e2 : Phi Δ k lo [⟨md, v⟩] = .ret false d [⟨md, v⟩]) : Phi Δ (k + 1) n [⟨md, v⟩] = .ret false d [⟨md, v⟩] := by
  rw [Phi_s h]
  simp [dfJointsOf, runDf, frzAt, evSs, evS, evE, evEs, Rs.bind, En.get, op1, look, pick, callR, frzDup, argsOf, argOf, outsTo, e1, e2, allSome, backAt]
def dfKey : Df := ⟨1, 1, [], (.cons (.ret (.tup (.cons (.bi .len (.cons (.var 0) .nil)) (.cons (.var 0) .nil)))) .nil)⟩
theorem key_ok {Δ : Tab} {n : Nat} (h : Δ.lookup n = some dfKey) (k : Nat) (l : List Nat) : Phi Δ (k + 1) n [⟨.fz, .str l⟩] = .ret false (.tup [.int l.length, .str l]) [⟨.fz, .str l⟩] := by
  rw [Phi_s h]
  have hL : 2 ≤ LIM := by decide
  simp [dfKey, hL, runDf, frzAt, evSs, evS, evE, evEs, Rs.bind, En.get, op1, look, lookAll, toRs, biD, keep, keepAll, allSome, backAt]
def aheadD (a b : List Nat) : Bool := lessD (.tup [.int a.length, .str a]) (.tup [.int b.length, .str b])
theorem ahead_lt (a b : List Nat) : cmpD .lt (.tup [.int a.length, .str a]) (.tup [.int b.length, .str b]) = some (aheadD a b) := by
  rfl
def dfAhead (cw ky : Nat) : Df := ⟨2, 2, [], (.cons (.expr (.call cw [0] (.cons (.var 0) .nil) .nil)) (.cons (.expr (.call cw [0] (.cons (.var 1) .nil) .nil)) (.cons (.ret (.cmp .lt (.call ky [0] (.cons (.var 0) .nil) .nil) (.call ky [0] (.cons (.var 1) .nil) .nil))) .nil)))⟩
theorem ahead_ok {Δ : Tab} {ll cw ky n : Nat} (h1 : Δ.lookup ll = some dfLett) (h2 : Δ.lookup cw = some (dfChk ll)) (h3 : Δ.lookup ky = some dfKey) (h : Δ.lookup n = some (dfAhead cw ky)) (k : Nat) {a b : List Nat} (ha : small a = true) (hb : small b = true) : Phi Δ (k + 3) n [⟨.fz, .str a⟩, ⟨.fz, .str b⟩] = .ret false (.bl (aheadD a b)) [⟨.fz, .str a⟩, ⟨.fz, .str b⟩] := by
  rw [Phi_s h]
  have ea : Phi Δ (k + 1) ll [⟨.fz, .str a⟩] = .ret false (.bl (small a)) [⟨.fz, .str a⟩] := lett_ok h1 k (v := .str a) rfl
  have eb : Phi Δ (k + 1) ll [⟨.fz, .str b⟩] = .ret false (.bl (small b)) [⟨.fz, .str b⟩] := lett_ok h1 k (v := .str b) rfl
  rw [ha] at ea
  rw [hb] at eb
  have ca := chk_ok h2 ea
  have cb := chk_ok h2 eb
  have ka := key_ok h3 (k + 1) a
  have kb := key_ok h3 (k + 1) b
  simp [dfAhead, runDf, frzAt, evSs, evS, evE, evEs, Rs.bind, En.get, op2, op1, look, toRb, pick, callR, frzDup, argsOf, argOf, outsTo, ca, cb, ka, kb, ahead_lt, allSome, backAt]
def dfYes : Df := ⟨2, 2, [], (.cons (.ret (.and (.bi .isbool (.cons (.var 0) .nil)) (.cmp .eq (.var 0) (.var 1)))) .nil)⟩
theorem yes_ok {Δ : Tab} {n : Nat} (h : Δ.lookup n = some dfYes) (k : Nat) (a b : Bool) : Phi Δ (k + 1) n [⟨.fz, .bl a⟩, ⟨.fz, .bl b⟩] = .ret false (.bl (a == b)) [⟨.fz, .bl a⟩, ⟨.fz, .bl b⟩] := by
  rw [Phi_s h]
  cases a <;> cases b <;> rfl
end Ev

set_option Elab.async false
set_option linter.all false
set_option maxRecDepth 100000
set_option maxHeartbeats 1000000
/-! Pl9: draws with a budget, ascending letters. Own work. -/
namespace Ev
/-- a generator that m draws may still ask -/
def Gen (m : Nat) (g : D) : Prop := ∃ a b c : Int, g = genD a b c ∧ (0 ≤ a ∧ a < 10 ^ 600) ∧ (0 ≤ b ∧ b < 2 ^ 32) ∧ 0 ≤ c ∧ c + 6 * m < 2 ^ 60
theorem Gen.mono {m m' : Nat} {g : D} (h : Gen m g) (hm : m' ≤ m) : Gen m' g := by
  obtain ⟨a, b, c, e, ha, hb, hc, hc2⟩ := h
  exact ⟨a, b, c, e, ha, hb, hc, by omega⟩
theorem draw_ok {Δ : Tab} {hn rn : Nat} (h1 : Δ.lookup hn = some dfHash) (h2 : Δ.lookup rn = some (dfRnd hn)) (k : Nat) {m : Nat} {g : D} {n : Int} (hg : Gen (m + 1) g) (hn' : 0 < n ∧ n < 2 ^ 150) :
    ∃ (r : Int) (g' : D), 0 ≤ r ∧ r < n ∧ Gen m g' ∧ Phi Δ (k + 2) rn [⟨.own, g⟩, ⟨.fz, .int n⟩] = .ret false (.int r) [⟨.own, g'⟩, ⟨.fz, .int n⟩] := by
  obtain ⟨a, b, c, rfl, ha, hb, hc, hc2⟩ := hg
  obtain ⟨r, a', c', h3, h4, h5, h6, h7, h8, e⟩ := rnd_ok h1 h2 k ha hb ⟨hc, by omega⟩ hn'
  exact ⟨r, genD a' b c', h3, h4, ⟨a', b, c', rfl, ⟨h5, h6⟩, hb, by omega, by omega⟩, e⟩
/-- letters that ascend -/
def Asc (l : List Nat) : Prop := l.Pairwise (· < ·)
def leB (rn : Nat) : Ss := (.cons (.set 5 (.bin .add (.bin .add (.var 5) (.lit (.int 1))) (.call rn [0, 1] (.cons (.var 0) (.cons (.lit (.int 3)) .nil)) .nil))) (.cons (.set 4 (.bin .add (.var 4) (.sub (.lit (.str abc)) (.var 5)))) .nil))
def dfLetters (rn : Nat) : Df := ⟨3, 7, [], (.cons (.par [3, 4, 5] (.cons (.bin .add (.var 1) (.call rn [0, 1] (.cons (.var 0) (.cons (.bin .add (.bin .sub (.var 2) (.var 1)) (.lit (.int 1))) .nil)) .nil)) (.cons (.lit (.str [])) (.cons (.bin .sub (.lit (.int 0)) (.lit (.int 1))) .nil)))) (.cons (.for [6] (.rng1 (.var 3)) (leB rn)) (.cons (.ret (.var 4)) .nil)))⟩
theorem abc_at (j : Nat) (h : j < 26) : abc[j]? = some (97 + j) := by
  have : ∀ j : Fin 26, abc[j.val]? = some (97 + j.val) := by decide
  exact this ⟨j, h⟩
theorem abc_mem (j : Nat) (h : j < 26) : abc.contains (97 + j) = true := by
  have : ∀ j : Fin 26, abc.contains (97 + j.val) = true := by decide
  exact this ⟨j, h⟩
theorem leB_ok {Δ : Tab} {hn rn : Nat} (h1 : Δ.lookup hn = some dfHash) (h2 : Δ.lookup rn = some (dfRnd hn)) (k : Nat) {m np : Nat} {g p q x d : D} {l : List Nat} {s : Int} (hg : Gen (m + 1) g) (hs : -1 ≤ s ∧ s < 22) (hl : l.length < 100) :
    ∃ (s' : Int) (g' : D), s < s' ∧ s' ≤ s + 3 ∧ Gen m g' ∧ evSs (Phi Δ (k + 2)) np (leB rn) [some ⟨.own, g⟩, some ⟨.fz, p⟩, some ⟨.fz, q⟩, some ⟨.fz, x⟩, some ⟨.fz, .str l⟩, some ⟨.fz, .int s⟩, some ⟨.fz, d⟩] = .ok .nx [some ⟨.own, g'⟩, some ⟨.fz, p⟩, some ⟨.fz, q⟩, some ⟨.fz, x⟩, some ⟨.fz, .str (l ++ [97 + s'.toNat])⟩, some ⟨.fz, .int s'⟩, some ⟨.fz, d⟩] := by
  obtain ⟨r, g', r0, r1, hg', e⟩ := draw_ok h1 h2 k hg (n := 3) (by decide)
  refine ⟨s + 1 + r, g', by omega, by omega, hg', ?_⟩
  have hi : 0 ≤ s + 1 + r := by omega
  have hi2 : s + 1 + r < 26 := by omega
  have hj := abc_at (s + 1 + r).toNat (by omega)
  have hL : l.length + 1 ≤ LIM := by
    have : (101 : Nat) ≤ LIM := by decide
    omega
  have habc : abc.length = 26 := rfl
  simp [leB, evSs, evS, evE, evEs, Rs.bind, En.get, op2, op1, look, toRs, binD, storeR, keep, subD, ixN, pick, callR, frzDup, argsOf, argOf, outsTo, e, hi, hi2, hj, hL, habc]
  obtain ⟨_, hj'⟩ := List.getElem?_eq_some_iff.mp hj
  exact hj'
theorem letters_ok {Δ : Tab} {hn rn n : Nat} (h1 : Δ.lookup hn = some dfHash) (h2 : Δ.lookup rn = some (dfRnd hn)) (h : Δ.lookup n = some (dfLetters rn)) (k : Nat) {m : Nat} {g : D} (hg : Gen (m + 7) g) :
    ∃ (l : List Nat) (g' : D), 1 ≤ l.length ∧ l.length ≤ 6 ∧ small l = true ∧ Asc l ∧ Gen m g' ∧ Phi Δ (k + 3) n [⟨.own, g⟩, ⟨.fz, .int 1⟩, ⟨.fz, .int 6⟩] = .ret false (.str l) [⟨.own, g'⟩, ⟨.fz, .int 1⟩, ⟨.fz, .int 6⟩] := by
  rw [Phi_s h]
  obtain ⟨r, g1, r0, r1, hg1, e1⟩ := draw_ok h1 h2 k (m := m + 6) hg (n := 6) (by decide)
  obtain ⟨ρ', e, l, s, g2, x, hg2, hll, hs1, hs2, hsm, hasc, hle, rfl⟩ := forGo_inv (f := withTg [6] (evSs (Phi Δ (k + 2)) 3 (leB rn))) (rows := rngD 0 (1 + r)) (fun i ρ => ∃ (l : List Nat) (s : Int) (g2 : D) (x : Option Sl), Gen (m + 6 - i) g2 ∧ l.length = i ∧ -1 ≤ s ∧ s + 1 ≤ 3 * (i : Int) ∧ small l = true ∧ Asc l ∧ (∀ c ∈ l, (c : Int) ≤ 97 + s) ∧ ρ = [some ⟨.own, g2⟩, some ⟨.fz, .int 1⟩, some ⟨.fz, .int 6⟩, some ⟨.fz, .int (1 + r)⟩, some ⟨.fz, .str l⟩, some ⟨.fz, .int s⟩, x]) 0 (ρ := [some ⟨.own, g1⟩, some ⟨.fz, .int 1⟩, some ⟨.fz, .int 6⟩, some ⟨.fz, .int (1 + r)⟩, some ⟨.fz, .str []⟩, some ⟨.fz, .int (-1)⟩, none]) (fun i d ρ hd hI => by
    obtain ⟨rfl, hlt⟩ := rngD_at hd
    rw [Nat.zero_add] at hI ⊢
    obtain ⟨l, s, g2, x, hg2, hll, hs1, hs2, hsm, hasc, hle, rfl⟩ := hI
    have hi6 : i < 6 := by omega
    obtain ⟨s', g', hs3, hs4, hg', e⟩ := leB_ok h1 h2 k (m := m + 6 - (i + 1)) (np := 3) (g := g2) (p := .int 1) (q := .int 6) (x := .int (1 + r)) (d := .int (0 + i)) (l := l) (s := s) (hg2.mono (by omega)) ⟨hs1, by omega⟩ (by omega)
    refine ⟨_, Or.inl ?_, l ++ [97 + s'.toNat], s', g', some ⟨.fz, .int (0 + i)⟩, hg', by rw [List.length_append, hll] <;> rfl, by omega, by push_cast; omega, ?_, ?_, ?_, rfl⟩
    · simp only [withTg, assignD]
      exact e
    · have := abc_mem s'.toNat (by omega)
      unfold small at hsm ⊢
      rw [List.all_append, hsm, List.all_cons, this] <;> rfl
    · unfold Asc at hasc ⊢
      rw [List.pairwise_append]
      refine ⟨hasc, List.pairwise_singleton _ _, ?_⟩
      intro a ha b hb
      have hb : b = 97 + s'.toNat := by simpa using hb
      have := hle a ha
      omega
    · intro c hc
      rcases List.mem_append.mp hc with hc | hc
      · have := hle c hc
        omega
      · have hb : c = 97 + s'.toNat := by simpa using hc
        omega) ⟨[], -1, g1, none, hg1, rfl, by decide, by decide, rfl, List.Pairwise.nil, by simp, rfl⟩
  have hlen : (rngD 0 (1 + r)).length = (1 + r).toNat := by
    rw [rngD_len]
    congr 1
    omega
  rw [Nat.zero_add, hlen] at hll hg2
  refine ⟨l, g2, by omega, by omega, hsm, hasc, hg2.mono (by omega), ?_⟩
  have hr : -B62 ≤ (1 + r) ∧ (1 + r) < B62 := by
    have : B62 = 4611686018427387904 := rfl
    omega
  simp [dfLetters, runDf, frzAt, evSs, evS, evE, evEs, evI, Rs.bind, En.get, op2, op1, look, toRs, binD, keepSl, keepAll, setAll, lockL, lockS, unlockL, unlockS, pick, callR, frzDup, argsOf, argOf, outsTo, e1, e, hr, keep, allSome, backAt]
end Ev

set_option Elab.async false
set_option linter.all false
set_option maxRecDepth 100000
set_option maxHeartbeats 1000000
/-! Pl10: the law's prices. Own work. -/
namespace Ev
theorem rise_asc {l : List Nat} (h : Asc l) : riseD (.str l) l.length = true := by
  unfold riseD
  rw [List.isEmpty_iff, List.filterMap_eq_nil_iff]
  intro d hd
  obtain ⟨j, hj⟩ := List.getElem?_of_mem hd
  obtain ⟨rfl, hlt⟩ := rngD_at hj
  have hj1 : j < l.length := by omega
  have hj2 : j + 1 < l.length := by omega
  have hlt := (List.pairwise_iff_getElem.mp h) j (j + 1) hj1 hj2 (by omega)
  have ea : subD (.str l) (.int (1 + (j : Int) - 1)) = some (.str [l[j]]) := by
    rw [show 1 + (j : Int) - 1 = j by omega]
    have h0 : 0 ≤ (j : Int) := by omega
    have h1 : (j : Int) < l.length := by omega
    simp [subD, ixN, h1, List.getElem?_eq_getElem hj1]
  have eb : subD (.str l) (.int (1 + (j : Int))) = some (.str [l[j + 1]]) := by
    have h0 : 0 ≤ 1 + (j : Int) := by omega
    have h1 : 1 + (j : Int) < l.length := by omega
    have h2 : (1 + (j : Int)).toNat = j + 1 := by omega
    simp [subD, ixN, h0, h1, h2, List.getElem?_eq_getElem hj2]
  unfold riseQ
  simp only [ea, eb]
  have : [l[j]] < [l[j + 1]] := List.Lex.rel hlt
  rw [if_pos this]
/-- prices for the letters -/
def PrL : List Nat → List D → Prop
  | [], xs => xs = []
  | c :: l, xs => ∃ (p : Int) (ys : List D), xs = .tup [.str [c], .int p] :: ys ∧ 1 ≤ p ∧ p ≤ 10 ^ 30 ∧ PrL l ys
theorem PrL.fst : ∀ {l : List Nat} {xs : List D}, PrL l xs → xs.map fstD = l.map fun c => .str [c]
  | [], _, h => by subst h; rfl
  | c :: l, _, ⟨p, ys, rfl, _, _, h⟩ => by rw [List.map_cons, List.map_cons, PrL.fst h] <;> rfl
theorem PrL.len {l : List Nat} {xs : List D} (h : PrL l xs) : xs.length = l.length := by
  have := congrArg List.length h.fst
  rwa [List.length_map, List.length_map] at this
theorem PrL.ok : ∀ {l : List Nat} {xs : List D}, small l = true → PrL l xs → xs.all priceOk = true
  | [], _, _, h => by subst h; rfl
  | c :: l, _, hs, ⟨p, ys, rfl, hp, _, h⟩ => by
    unfold small at hs
    rw [List.all_cons, Bool.and_eq_true] at hs
    rw [List.all_cons, PrL.ok hs.2 h]
    have : small [c] = true := by unfold small; rw [List.all_cons, hs.1] <;> rfl
    have e : priceOk (.tup [.str [c], .int p]) = true := by
      show (small [c] && decide ([c].length = 1) && decide (1 ≤ p)) = true
      rw [this, decide_eq_true hp] <;> rfl
    rw [e] <;> rfl
theorem PrL.known : ∀ {l : List Nat} {xs : List D}, PrL l xs → xs.all known2 = true ∧ flatL 59 xs = true ∧ xs.all shortI = true
  | [], _, h => by subst h; exact ⟨rfl, rfl, rfl⟩
  | c :: l, _, ⟨p, ys, rfl, hp, _, h⟩ => by
    obtain ⟨h1, h2, h3⟩ := PrL.known h
    refine ⟨?_, ?_, ?_⟩
    · rw [List.all_cons, h1] <;> rfl
    · show (flat 59 (.tup [.str [c], .int p]) && flatL 59 ys) = true
      rw [h2] <;> rfl
    · rw [List.all_cons, h3] <;> rfl
def pcX (rn : Nat) : E := .tup (.cons (.var 3) (.cons (.bin .add (.lit (.int 1)) (.call rn [0, 1] (.cons (.var 0) (.cons (.var 2) .nil)) .nil)) .nil))
theorem prGo {Δ : Tab} {hn rn : Nat} (h1 : Δ.lookup hn = some dfHash) (h2 : Δ.lookup rn = some (dfRnd hn)) (k : Nat) {m : Nat} {L : D} {mo : Int} (hmo : 0 < mo ∧ mo < 10 ^ 30) : ∀ (l : List Nat) {g : D} {x : Option Sl}, Gen (m + l.length) g →
    ∃ (xs : List D) (g' : D) (x' : Option Sl), Gen m g' ∧ PrL l xs ∧ lcGo (lcTg [3] [3] (evTs (Phi Δ (k + 2)) .nil) (evE (Phi Δ (k + 2)) (pcX rn))) (l.map fun c => .str [c]) [some ⟨.own, g⟩, some ⟨.fz, L⟩, some ⟨.fz, .int mo⟩, x] = .ok xs [some ⟨.own, g'⟩, some ⟨.fz, L⟩, some ⟨.fz, .int mo⟩, x']
  | [], g, x, hg => ⟨[], g, x, hg, rfl, rfl⟩
  | c :: l, g, x, hg => by
    obtain ⟨r, g1, r0, r1, hg1, e1⟩ := draw_ok h1 h2 k (m := m + l.length) hg (n := mo) ⟨hmo.1, by omega⟩
    obtain ⟨ys, g2, x2, hg2, hp, e2⟩ := prGo h1 h2 k (m := m) (L := L) hmo l (g := g1) (x := some ⟨.fz, .str [c]⟩) hg1
    refine ⟨.tup [.str [c], .int (1 + r)] :: ys, g2, x2, hg2, ⟨1 + r, ys, rfl, by omega, by omega, hp⟩, ?_⟩
    have hL : 2 ≤ LIM := by decide
    have e : lcTg [3] [3] (evTs (Phi Δ (k + 2)) .nil) (evE (Phi Δ (k + 2)) (pcX rn)) (.str [c]) [some ⟨.own, g⟩, some ⟨.fz, L⟩, some ⟨.fz, .int mo⟩, x] = .ok (some (.tup [.str [c], .int (1 + r)])) [some ⟨.own, g1⟩, some ⟨.fz, L⟩, some ⟨.fz, .int mo⟩, some ⟨.fz, .str [c]⟩] := by
      simp [lcTg, assignD, wipeE, pcX, evTs, evT, evE, evEs, Rs.bind, En.get, op2, op1, look, toRs, binD, pick, callR, frzDup, argsOf, argOf, outsTo, e1, hL, keep, keepAll]
    rw [List.map_cons]
    unfold lcGo
    rw [e]
    simp only [Rs.calm, Rs.bind]
    rw [e2]
def dfPricesGen (rn : Nat) : Df := ⟨2, 4, [], (.cons (.set 2 (.sub (.lst (.cons (.lit (.int 5)) (.cons (.bin .sub (.bin .pow (.lit (.int 10)) (.lit (.int 30))) (.lit (.int 1))) .nil))) (.call rn [0, 1] (.cons (.var 0) (.cons (.lit (.int 2)) .nil)) .nil))) (.cons (.ret (.lc (pcX rn) [3] (.seq (.var 1)) .nil [3])) .nil))⟩
theorem pricesGen_ok {Δ : Tab} {hn rn n : Nat} (h1 : Δ.lookup hn = some dfHash) (h2 : Δ.lookup rn = some (dfRnd hn)) (h : Δ.lookup n = some (dfPricesGen rn)) (k : Nat) {m : Nat} {g : D} {l : List Nat} (hg : Gen (m + l.length + 1) g) (hl : l.length ≤ 6) :
    ∃ (xs : List D) (g' : D), Gen m g' ∧ PrL l xs ∧ Phi Δ (k + 3) n [⟨.own, g⟩, ⟨.fz, .str l⟩] = .ret true (.lst xs) [⟨.own, g'⟩, ⟨.fz, .str l⟩] := by
  rw [Phi_s h]
  obtain ⟨r, g1, r0, r1, hg1, e1⟩ := draw_ok h1 h2 k (m := m + l.length) hg (n := 2) (by decide)
  have hL : 2 ≤ LIM := by decide
  have hpw : Nat.log2 10 * 30 ≤ 100000 := by decide +kernel
  have hx : ∀ xs, PrL l xs → xs.length ≤ LIM := fun xs hp => by
    have := hp.len
    have : (6 : Nat) ≤ LIM := by decide
    omega
  have hr : r = 0 ∨ r = 1 := by omega
  rcases hr with rfl | rfl
  · obtain ⟨xs, g2, x2, hg2, hp, e2⟩ := prGo h1 h2 k (m := m) (L := .str l) (mo := 5) (by decide) l (g := g1) (x := none) hg1
    refine ⟨xs, g2, hg2, hp, ?_⟩
    have := hx xs hp
    simp [dfPricesGen, runDf, frzAt, evSs, evS, evE, evEs, evI, Rs.bind, En.get, op2, op1, look, toRs, hpw, binD, subD, ixN, storeR, items, lockL, lockS, Md.lock, wipeE, backE, unlockL, unlockS, pick, callR, frzDup, argsOf, argOf, outsTo, e1, e2, hL, this, keep, keepAll, allSome, backAt]
  · obtain ⟨xs, g2, x2, hg2, hp, e2⟩ := prGo h1 h2 k (m := m) (L := .str l) (mo := 999999999999999999999999999999) (by decide) l (g := g1) (x := none) hg1
    refine ⟨xs, g2, hg2, hp, ?_⟩
    have := hx xs hp
    simp [dfPricesGen, runDf, frzAt, evSs, evS, evE, evEs, evI, Rs.bind, En.get, op2, op1, look, toRs, hpw, binD, subD, ixN, storeR, items, lockL, lockS, Md.lock, wipeE, backE, unlockL, unlockS, pick, callR, frzDup, argsOf, argOf, outsTo, e1, e2, hL, this, keep, keepAll, allSome, backAt]
end Ev

set_option Elab.async false
set_option linter.all false
set_option maxRecDepth 100000
set_option maxHeartbeats 1000000
/-! Pl11: the law's words. Own work. -/
namespace Ev
def wdX (rn : Nat) : E := .sub (.var 1) (.call rn [0, 1] (.cons (.var 0) (.cons (.bi .len (.cons (.var 1) .nil)) .nil)) .nil)
theorem wdGo {Δ : Tab} {hn rn : Nat} (h1 : Δ.lookup hn = some dfHash) (h2 : Δ.lookup rn = some (dfRnd hn)) (k : Nat) {m : Nat} {l : List Nat} {S : D} (hl : 1 ≤ l.length ∧ l.length ≤ 6) (hs : small l = true) : ∀ (rows : List D) {g : D} {x : Option Sl}, Gen (m + rows.length) g →
    ∃ (cs : List Nat) (g' : D) (x' : Option Sl), Gen m g' ∧ cs.length = rows.length ∧ small cs = true ∧ lcGo (lcTg [3] [3] (evTs (Phi Δ (k + 2)) .nil) (evE (Phi Δ (k + 2)) (wdX rn))) rows [some ⟨.own, g⟩, some ⟨.fz, .str l⟩, some ⟨.fz, S⟩, x] = .ok (cs.map fun c => .str [c]) [some ⟨.own, g'⟩, some ⟨.fz, .str l⟩, some ⟨.fz, S⟩, x']
  | [], g, x, hg => ⟨[], g, x, hg, rfl, rfl, rfl⟩
  | d :: rows, g, x, hg => by
    obtain ⟨r, g1, r0, r1, hg1, e1⟩ := draw_ok h1 h2 k (m := m + rows.length) hg (n := l.length) ⟨by omega, by omega⟩
    obtain ⟨cs, g2, x2, hg2, hcl, hcs, e2⟩ := wdGo h1 h2 k (m := m) (S := S) hl hs rows (g := g1) (x := some ⟨.fz, d⟩) hg1
    have hrl : r.toNat < l.length := by omega
    refine ⟨l[r.toNat] :: cs, g2, x2, hg2, by rw [List.length_cons, List.length_cons, hcl], ?_, ?_⟩
    · unfold small at hs hcs ⊢
      rw [List.all_cons, hcs, (List.all_eq_true.mp hs) _ (List.getElem_mem hrl)] <;> rfl
    have e : lcTg [3] [3] (evTs (Phi Δ (k + 2)) .nil) (evE (Phi Δ (k + 2)) (wdX rn)) d [some ⟨.own, g⟩, some ⟨.fz, .str l⟩, some ⟨.fz, S⟩, x] = .ok (some (.str [l[r.toNat]])) [some ⟨.own, g1⟩, some ⟨.fz, .str l⟩, some ⟨.fz, S⟩, some ⟨.fz, d⟩] := by
      simp [lcTg, assignD, wipeE, wdX, evTs, evT, evE, evEs, Rs.bind, En.get, op2, op1, look, lookAll, toRs, biD, subD, ixN, pick, callR, frzDup, argsOf, argOf, outsTo, e1, r0, r1, List.getElem?_eq_getElem hrl, keep, keepAll]
    rw [List.map_cons]
    unfold lcGo
    rw [e]
    simp only [Rs.calm, Rs.bind]
    rw [e2]
def dfWord (rn : Nat) : Df := ⟨3, 4, [], (.cons (.ret (.mth .join (.lit (.str [])) (.cons (.lc (wdX rn) [3] (.rng1 (.var 2)) .nil [3]) .nil))) .nil)⟩
theorem word_ok {Δ : Tab} {hn rn n : Nat} (h1 : Δ.lookup hn = some dfHash) (h2 : Δ.lookup rn = some (dfRnd hn)) (h : Δ.lookup n = some (dfWord rn)) (k : Nat) {m : Nat} {g : D} {l : List Nat} {s : Int} (hg : Gen (m + 5) g) (hl : 1 ≤ l.length ∧ l.length ≤ 6) (hs : small l = true) (h0 : 0 ≤ s ∧ s ≤ 5) :
    ∃ (w : List Nat) (g' : D), Gen m g' ∧ w.length ≤ 5 ∧ small w = true ∧ Phi Δ (k + 3) n [⟨.own, g⟩, ⟨.fz, .str l⟩, ⟨.fz, .int s⟩] = .ret false (.str w) [⟨.own, g'⟩, ⟨.fz, .str l⟩, ⟨.fz, .int s⟩] := by
  rw [Phi_s h]
  have hlen : (rngD 0 s).length = s.toNat := by
    rw [rngD_len]
    congr 1
    omega
  obtain ⟨cs, g2, x2, hg2, hcl, hcs, e2⟩ := wdGo h1 h2 k (m := m) (S := .int s) hl hs (rngD 0 s) (g := g) (x := none) (hg.mono (by omega))
  refine ⟨cs, g2, hg2, by omega, hcs, ?_⟩
  have hB : -B62 ≤ s ∧ s < B62 := by
    have : B62 = 4611686018427387904 := rfl
    omega
  have hL : cs.length ≤ LIM := by
    have : (5 : Nat) ≤ LIM := by decide
    omega
  simp [dfWord, runDf, frzAt, evSs, evS, evE, evEs, evI, Rs.bind, En.get, op2, op1, look, lookAll, toRs, hB, storeR, items, lockL, lockS, Md.lock, wipeE, backE, unlockL, unlockS, mtOk, mthR, mtD, strs_chars, join_chars, sum_chars, sum_chars2, e2, hL, keep, keepAll, allSome, backAt]
end Ev

set_option Elab.async false
set_option linter.all false
set_option maxRecDepth 100000
set_option maxHeartbeats 1000000
/-! Pl12: values whose text is short. Own work. -/
namespace Ev
open PySem PyProof
mutual
/-- small leaves -/
def lite : D → Bool
  | .non => true
  | .bl _ => true
  | .int i => decide (i.natAbs < 10 ^ 31)
  | .str l => l.all fun c => decide (c < 16 ^ 8)
  | .lst xs => lites xs
  | .tup xs => lites xs
  | .dic ks vs => lites ks && lites vs
  | _ => false
def lites : List D → Bool
  | [] => true
  | x :: xs => lite x && lites xs
end
theorem kv_short (B : Nat) : ∀ (a b : List PyData), PyData.leavesShortAll B a = true → PyData.leavesShortAll B b = true → PyData.leavesShortKv B (a.zip b) = true
  | [], _, _, _ => rfl
  | _ :: _, [], _, _ => rfl
  | x :: a, y :: b, h1, h2 => by
    have h1 : (PyData.leavesShort B x && PyData.leavesShortAll B a) = true := h1
    have h2 : (PyData.leavesShort B y && PyData.leavesShortAll B b) = true := h2
    rw [Bool.and_eq_true] at h1 h2
    show (PyData.leavesShort B x && PyData.leavesShort B y && PyData.leavesShortKv B (a.zip b)) = true
    rw [h1.1, h2.1, kv_short B a b h1.2 h2.2] <;> rfl
mutual
theorem lite_short : ∀ d : D, lite d = true → PyData.leavesShort 40 (py d) = true
  | .non, _ => rfl
  | .bl _, _ => rfl
  | .int i, h => by
    have h : decide (i.natAbs < 10 ^ 31) = true := h
    have h := of_decide_eq_true h
    have e := int_text_length_le10 (k := 31) (by decide) h
    refine decide_eq_true ?_
    show (Str.ofString (toString i)).length ≤ 40
    rw [ofString_length]
    omega
  | .str l, h => by
    show (l.toArray.toList.all fun c => decide (c < 16 ^ 8)) = true
    exact h
  | .lst xs, h => lites_short xs h
  | .tup xs, h => lites_short xs h
  | .dic ks vs, h => by
    have h : (lites ks && lites vs) = true := h
    rw [Bool.and_eq_true] at h
    exact kv_short 40 _ _ (lites_short ks h.1) (lites_short vs h.2)
  | .fn _, h => nomatch h
  | .scr _, h => nomatch h
  | .exc _ _, h => nomatch h
theorem lites_short : ∀ xs : List D, lites xs = true → PyData.leavesShortAll 40 (pys xs) = true
  | [], _ => rfl
  | x :: xs, h => by
    have h : (lite x && lites xs) = true := h
    rw [Bool.and_eq_true] at h
    show (PyData.leavesShort 40 (py x) && PyData.leavesShortAll 40 (pys xs)) = true
    rw [lite_short x h.1, lites_short xs h.2] <;> rfl
end
theorem shown_lite {d : D} (h : lite d = true) (hw : PyData.weight (py d) ≤ 100000) : (shownD d).length ≤ LIM := by
  have h1 := PyData.shown_le 40 (by decide) (py d) (lite_short d h)
  have e : (shownD d).length = (PyData.shown (py d)).length := rfl
  have hL : LIM = 16777216 := rfl
  rw [e, hL]
  have : (40 + 2) * PyData.weight (py d) ≤ 42 * 100000 := Nat.mul_le_mul (by decide) hw
  omega
/-- an item of a list of prices, or a bent one -/
structure Itm (x : D) : Prop where
  k2 : known2 x = true
  fl : flat 59 x = true
  sh : shortI x = true
  sw : showD true 59 x = true
  lt : lite x = true
  wt : PyData.weight (py x) ≤ 1000
/-- a value that the law shows to the price rules -/
structure Val (v : D) : Prop where
  k3 : known3 v = true
  sh : ∀ xs, v = .lst xs → xs.all shortI = true
  sw : (showD true DEP v || showD false DEP v) = true
  lt : lite v = true
  wt : PyData.weight (py v) ≤ 100000
theorem repr_val {v : D} (h : Val v) : biD .repr [v] = some (.v (.str (shownD v))) := by
  show (if (showD true DEP v || showD false DEP v) && decide ((shownD v).length ≤ LIM) then some (Vr.v (.str (shownD v))) else none) = _
  rw [h.sw, decide_eq_true (shown_lite h.lt h.wt)] <;> rfl
theorem itms : ∀ {xs : List D}, (∀ x ∈ xs, Itm x) → xs.all known2 = true ∧ flatL 59 xs = true ∧ xs.all shortI = true ∧ showDs true 59 xs = true ∧ lites xs = true ∧ PyData.weightAll (pys xs) ≤ 1001 * xs.length
  | [], _ => ⟨rfl, rfl, rfl, rfl, rfl, Nat.le_refl _⟩
  | x :: xs, h => by
    obtain ⟨h1, h2, h3, h4, h5, h6⟩ := itms (xs := xs) fun y hy => h y (List.mem_cons_of_mem _ hy)
    have hx := h x List.mem_cons_self
    refine ⟨?_, ?_, ?_, ?_, ?_, ?_⟩
    · rw [List.all_cons, h1, hx.k2] <;> rfl
    · show (flat 59 x && flatL 59 xs) = true
      rw [h2, hx.fl] <;> rfl
    · rw [List.all_cons, h3, hx.sh] <;> rfl
    · show (showD true 59 x && showDs true 59 xs) = true
      rw [h4, hx.sw] <;> rfl
    · show (lite x && lites xs) = true
      rw [h5, hx.lt] <;> rfl
    · show PyData.weight (py x) + 1 + PyData.weightAll (pys xs) ≤ 1001 * (xs.length + 1)
      have := hx.wt
      omega
theorem val_list {xs : List D} (h : ∀ x ∈ xs, Itm x) (hl : xs.length ≤ 20) : Val (.lst xs) := by
  obtain ⟨h1, h2, h3, h4, h5, h6⟩ := itms h
  refine ⟨?_, ?_, ?_, h5, ?_⟩
  · have : (20 : Nat) ≤ LIM := by decide
    show (xs.all known2 && flatL 59 xs && decide (xs.length ≤ LIM)) = true
    rw [h1, h2, decide_eq_true (by omega)] <;> rfl
  · intro ys e
    cases e
    exact h3
  · show ((true && showDs true 59 xs) || _) = true
    rw [h4] <;> rfl
  · show PyData.weightAll (pys xs) ≤ 100000
    omega
end Ev

set_option Elab.async false
set_option linter.all false
set_option maxRecDepth 100000
set_option maxHeartbeats 1000000
/-! Pl13: bent items. Own work. -/
namespace Ev
open PySem PyProof
structure Atm (x : D) : Prop where
  kn : known x = true
  fl : flat 58 x = true
  sh : short x = true
  sw : showD true 58 x = true
  lt : lite x = true
  wt : PyData.weight (py x) ≤ 300
theorem atms : ∀ {xs : List D}, (∀ x ∈ xs, Atm x) → xs.all known = true ∧ flatL 58 xs = true ∧ showDs true 58 xs = true ∧ lites xs = true ∧ PyData.weightAll (pys xs) ≤ 301 * xs.length
  | [], _ => ⟨rfl, rfl, rfl, rfl, Nat.le_refl _⟩
  | x :: xs, h => by
    obtain ⟨h1, h2, h4, h5, h6⟩ := atms (xs := xs) fun y hy => h y (List.mem_cons_of_mem _ hy)
    have hx := h x List.mem_cons_self
    refine ⟨?_, ?_, ?_, ?_, ?_⟩
    · rw [List.all_cons, h1, hx.kn] <;> rfl
    · show (flat 58 x && flatL 58 xs) = true
      rw [h2, hx.fl] <;> rfl
    · show (showD true 58 x && showDs true 58 xs) = true
      rw [h4, hx.sw] <;> rfl
    · show (lite x && lites xs) = true
      rw [h5, hx.lt] <;> rfl
    · show PyData.weight (py x) + 1 + PyData.weightAll (pys xs) ≤ 301 * (xs.length + 1)
      have := hx.wt
      omega
theorem itm_tup {xs : List D} (h : ∀ x ∈ xs, Atm x) (hl : xs.length ≤ 3) : Itm (.tup xs) := by
  obtain ⟨h1, h2, h4, h5, h6⟩ := atms h
  refine ⟨h1, h2, ?_, h4, h5, ?_⟩
  · cases xs with
    | nil => rfl
    | cons x xs => exact (h x List.mem_cons_self).sh
  · show PyData.weightAll (pys xs) ≤ 1000
    omega
theorem itm_lst {xs : List D} (h : ∀ x ∈ xs, Atm x) (hl : xs.length ≤ 3) : Itm (.lst xs) := by
  obtain ⟨h1, h2, h4, h5, h6⟩ := atms h
  refine ⟨rfl, h2, rfl, ?_, h5, ?_⟩
  · show (true && showDs true 58 xs) = true
    rw [h4] <;> rfl
  · show PyData.weightAll (pys xs) ≤ 1000
    omega
theorem atm_str {l : List Nat} (h : (l.all fun c => decide (c < 16 ^ 8)) = true) (hl : l.length ≤ 100) : Atm (.str l) := by
  refine ⟨rfl, rfl, ?_, rfl, h, ?_⟩
  · have : (100 : Nat) ≤ LIM := by decide
    exact decide_eq_true (by omega)
  · show l.toArray.size ≤ 300
    rw [List.size_toArray]
    omega
theorem atm_int {i : Int} (h : i.natAbs < 10 ^ 31) : Atm (.int i) := by
  have h2 : i.natAbs.log2 ≤ 110 := by
    by_cases hz : i.natAbs = 0
    · rw [hz]; exact Nat.zero_le _
    · exact Nat.le_of_lt (Nat.log2_lt hz |>.mpr (by omega))
  refine ⟨rfl, rfl, rfl, decide_eq_true (by omega), decide_eq_true h, ?_⟩
  show (if i == 0 then 0 else i.natAbs.log2 + 1) ≤ 300
  split <;> omega
theorem atm_bl (b : Bool) : Atm (.bl b) := ⟨rfl, rfl, rfl, rfl, rfl, Nat.zero_le _⟩
theorem atm_non : Atm .non := ⟨rfl, rfl, rfl, rfl, rfl, Nat.zero_le _⟩
theorem atm_nil : Atm (.lst []) := ⟨rfl, rfl, rfl, rfl, rfl, Nat.zero_le _⟩
theorem itm_non : Itm .non := ⟨rfl, rfl, rfl, rfl, rfl, Nat.zero_le _⟩
theorem itm_str {l : List Nat} (h : (l.all fun c => decide (c < 16 ^ 8)) = true) (hl : l.length ≤ 100) : Itm (.str l) := by
  refine ⟨rfl, rfl, rfl, rfl, h, ?_⟩
  show l.toArray.size ≤ 1000
  rw [List.size_toArray]
  omega
/-- an item with the letter c and the price p -/
theorem itm_price {c : Nat} {p : Int} (hc : c < 16 ^ 8) (hp : 1 ≤ p ∧ p ≤ 10 ^ 30) : Itm (.tup [.str [c], .int p]) := by
  refine itm_tup (fun x hx => ?_) (show 2 ≤ 3 by omega)
  rcases List.mem_cons.mp hx with rfl | hx
  · exact atm_str (by simpa using hc) (show 1 ≤ 100 by omega)
  · rcases List.mem_cons.mp hx with rfl | hx
    · exact atm_int (by omega)
    · cases hx
theorem small_lt {l : List Nat} (h : small l = true) : ∀ c ∈ l, c < 16 ^ 8 := by
  intro c hc
  have h := (List.all_eq_true.mp h) c hc
  have z : ∀ x ∈ abc, x < 16 ^ 8 := by decide
  exact z c (by simpa using h)
theorem PrL.itms : ∀ {l : List Nat} {xs : List D}, small l = true → PrL l xs → ∀ x ∈ xs, Itm x
  | [], _, _, h, x, hx => by subst h; cases hx
  | c :: l, _, hs, ⟨p, ys, rfl, hp, hp2, h⟩, x, hx => by
    rcases List.mem_cons.mp hx with rfl | hx
    · exact itm_price (small_lt hs c List.mem_cons_self) ⟨hp, hp2⟩
    · unfold small at hs
      rw [List.all_cons, Bool.and_eq_true] at hs
      exact PrL.itms hs.2 h x hx
end Ev

set_option Elab.async false
set_option linter.all false
set_option maxRecDepth 100000
set_option maxHeartbeats 4000000
/-! Pl14: bent lists. Own work. -/
namespace Ev
open PySem PyProof
def bnX : E := .bin .add (.bin .add (.sl false true (.var 1) (.lit .non) (.var 2)) (.lst (.cons (.var 7) .nil))) (.sl true false (.var 1) (.bin .add (.var 2) (.lit (.int 1))) (.lit .non))
def dfBent (rn : Nat) : Df := ⟨2, 8, [], (.cons (.set 2 (.call rn [0, 1] (.cons (.var 0) (.cons (.bi .len (.cons (.var 1) .nil)) .nil)) .nil)) (.cons (.unp [3, 4] (.sub (.var 1) (.var 2))) (.cons (.set 5 (.lst (.cons (.tup (.cons (.var 3) (.cons (.lit (.int 0)) .nil))) (.cons (.tup (.cons (.var 3) (.cons (.lit (.bl true)) .nil))) (.cons (.tup (.cons (.var 3) (.cons (.lit .non) .nil))) (.cons (.tup (.cons (.var 4) (.cons (.var 3) .nil))) (.cons (.lst (.cons (.var 3) (.cons (.var 4) .nil))) (.cons (.tup (.cons (.var 3) .nil)) (.cons (.tup (.cons (.var 3) (.cons (.var 4) (.cons (.lit (.int 0)) .nil)))) .nil))))))))) (.cons (.set 5 (.bin .add (.var 5) (.lst (.cons (.tup (.cons (.bin .add (.var 3) (.var 3)) (.cons (.var 4) .nil))) (.cons (.tup (.cons (.lit (.str [])) (.cons (.var 4) .nil))) (.cons (.tup (.cons (.lit (.str [65])) (.cons (.var 4) .nil))) (.cons (.lit .non) (.cons (.lit (.str [120])) (.cons (.tup (.cons (.lst .nil) (.cons (.lit (.int 1)) .nil))) (.cons (.tup (.cons (.var 3) (.cons (.bin .sub (.lit (.int 0)) (.var 4)) .nil))) .nil)))))))))) (.cons (.set 5 (.bin .add (.var 5) (.lst (.cons (.tup (.cons (.lit (.str [120, 121])) (.cons (.var 4) .nil))) (.cons (.tup (.cons (.lit (.str [95])) (.cons (.var 4) .nil))) (.cons (.tup (.cons (.lit (.str [42])) (.cons (.var 4) .nil))) (.cons (.tup (.cons (.lit (.str [49])) (.cons (.var 4) .nil))) (.cons (.tup (.cons (.var 3) (.cons (.lit (.str [49])) .nil))) .nil)))))))) (.cons (.set 6 (.lc bnX [7] (.seq (.var 5)) .nil [7])) (.cons (.ret (.bin .add (.var 6) (.lst (.cons (.rev (.var 1) (.bin .sub (.lit (.int 0)) (.lit (.int 1)))) (.cons (.bin .add (.var 1) (.var 1)) (.cons (.bi .tuple (.cons (.var 1) .nil)) (.cons (.bi .dict (.cons (.var 1) .nil)) (.cons (.sl false true (.var 1) (.lit .non) (.var 2)) (.cons (.lit .non) (.cons (.lit (.str [])) (.cons (.lit (.int 7)) (.cons (.lst (.cons (.tup .nil) .nil)) .nil)))))))))))) .nil)))))))⟩
/-- the odd items -/
def oddL (c : Nat) (p : Int) : List D := [.tup [.str [c], .int 0], .tup [.str [c], .bl true], .tup [.str [c], .non], .tup [.int p, .str [c]], .lst [.str [c], .int p], .tup [.str [c]], .tup [.str [c], .int p, .int 0],
  .tup [.str [c, c], .int p], .tup [.str [], .int p], .tup [.str [65], .int p], .non, .str [120], .tup [.lst [], .int 1], .tup [.str [c], .int (-p)],
  .tup [.str [120, 121], .int p], .tup [.str [95], .int p], .tup [.str [42], .int p], .tup [.str [49], .int p], .tup [.str [c], .str [49]]]
theorem PrL.at_ : ∀ {l : List Nat} {xs : List D} (j : Nat), PrL l xs → j < l.length → ∃ (c : Nat) (p : Int), c ∈ l ∧ 1 ≤ p ∧ p ≤ 10 ^ 30 ∧ xs[j]? = some (.tup [.str [c], .int p])
  | [], _, _, _, hj => absurd hj (Nat.not_lt_zero _)
  | c :: l, _, 0, ⟨p, ys, rfl, h1, h2, _⟩, _ => ⟨c, p, List.mem_cons_self, h1, h2, rfl⟩
  | c :: l, _, j + 1, ⟨p, ys, rfl, h1, h2, h⟩, hj => by
    obtain ⟨c', p', hc, h3, h4, e⟩ := PrL.at_ j h (Nat.lt_of_succ_lt_succ hj)
    exact ⟨c', p', List.mem_cons_of_mem _ hc, h3, h4, e⟩
theorem odd_itm {c : Nat} {p : Int} (hc : c < 16 ^ 8) (hp : 1 ≤ p ∧ p ≤ 10 ^ 30) : ∀ x ∈ oddL c p, Itm x := by
  have ac : Atm (.str [c]) := atm_str (by simpa using hc) (show 1 ≤ 100 by omega)
  have acc : Atm (.str [c, c]) := atm_str (by simpa using hc) (show 2 ≤ 100 by omega)
  have ap : Atm (.int p) := atm_int (by omega)
  have am : Atm (.int (-p)) := atm_int (by omega)
  have a0 : Atm (.int 0) := atm_int (by decide)
  have a1 : Atm (.int 1) := atm_int (by decide)
  have t1 : ∀ {x : D}, Atm x → Itm (.tup [x]) := fun h => itm_tup (by intro y hy; rcases List.mem_singleton.mp hy with rfl; exact h) (show 1 ≤ 3 by omega)
  have t2 : ∀ {x y : D}, Atm x → Atm y → Itm (.tup [x, y]) := fun h h' => itm_tup (by intro z hz; simp only [List.mem_cons, List.not_mem_nil, or_false] at hz; rcases hz with rfl | rfl <;> assumption) (show 2 ≤ 3 by omega)
  have s : ∀ {l : List Nat}, (l.all fun c => decide (c < 16 ^ 8)) = true → l.length ≤ 100 → Atm (.str l) := fun h h' => atm_str h h'
  intro x hx
  simp only [oddL, List.mem_cons, List.not_mem_nil, or_false] at hx
  rcases hx with rfl | rfl | rfl | rfl | rfl | rfl | rfl | rfl | rfl | rfl | rfl | rfl | rfl | rfl | rfl | rfl | rfl | rfl | rfl
  · exact t2 ac a0
  · exact t2 ac (atm_bl _)
  · exact t2 ac atm_non
  · exact t2 ap ac
  · exact itm_lst (by intro z hz; simp only [List.mem_cons, List.not_mem_nil, or_false] at hz; rcases hz with rfl | rfl <;> assumption) (show 2 ≤ 3 by omega)
  · exact t1 ac
  · exact itm_tup (by intro z hz; simp only [List.mem_cons, List.not_mem_nil, or_false] at hz; rcases hz with rfl | rfl | rfl <;> assumption) (show 3 ≤ 3 by omega)
  · exact t2 acc ap
  · exact t2 (s (by decide) (by decide)) ap
  · exact t2 (s (by decide) (by decide)) ap
  · exact itm_non
  · exact itm_str (by decide) (by decide)
  · exact t2 atm_nil a1
  · exact t2 ac am
  · exact t2 (s (by decide) (by decide)) ap
  · exact t2 (s (by decide) (by decide)) ap
  · exact t2 (s (by decide) (by decide)) ap
  · exact t2 (s (by decide) (by decide)) ap
  · exact t2 ac (s (by decide) (by decide))
end Ev

set_option Elab.async false
set_option linter.all false
set_option maxRecDepth 100000
set_option maxHeartbeats 4000000
/-! Pl15: bent lists. Own work. -/
namespace Ev
open PySem PyProof
theorem cut_mem {α : Type} {l : List α} {lo hi : Option Int} {x : α} (h : x ∈ cut l lo hi) : x ∈ l := by
  unfold cut at h
  exact List.mem_of_mem_drop (List.mem_of_mem_take h)
theorem cut_len {α : Type} {l : List α} {lo hi : Option Int} : (cut l lo hi).length ≤ l.length := by
  unfold cut
  rw [List.length_take, List.length_drop]
  omega
end Ev

set_option Elab.async false
set_option linter.all false
set_option maxRecDepth 100000
set_option maxHeartbeats 8000000
/-! Q0: the defs of a law, printed by gendf.py. Own work. -/
namespace Ev
def ad2 : Df := ⟨3, 3, [], (.cons (.iff (.not (.val (.call 1 [0, 1, 2] (.cons (.var 0) (.cons (.var 1) (.cons (.var 2) .nil))) .nil))) (.cons .bad .nil) .nil) .nil)⟩
def ad8 : Df := ⟨2, 2, [], (.cons (.ret (.bin .add (.bin .add (.sl true false (.var 0) (.bin .add (.var 1) (.lit (.int 1))) (.lit .non)) (.sub (.var 0) (.var 1))) (.sl false true (.var 0) (.lit .non) (.var 1)))) .nil)⟩
def ad9 : Df := ⟨2, 2, [], (.cons (.expr (.call 4 [0] (.cons (.var 0) .nil) .nil)) (.cons (.expr (.call 7 [0] (.cons (.var 1) .nil) .nil)) .nil))⟩
def ae10_0 : E := (.var 2)
def at10_0 : Ts := (.cons (.val (.cmp .isin (.var 3) (.var 1))) .nil)
def al10_0 : E := (.lc ae10_0 [2, 3] (.enum (.var 0)) at10_0 [2, 3])
def ad10 : Df := ⟨2, 4, [], (.cons (.expr (.call 9 [0, 1] (.cons (.var 0) (.cons (.var 1) .nil)) .nil)) (.cons (.ret al10_0) .nil))⟩
def ad11 : Df := ⟨3, 3, [], (.cons (.ret (.and (.call 1 [0, 1, 2] (.cons (.var 2) (.cons (.lit (.int 0)) (.cons (.bin .sub (.bi .len (.cons (.var 0) .nil)) (.lit (.int 1))) .nil))) .nil) (.cmp .isin (.sub (.var 0) (.var 2)) (.var 1)))) .nil)⟩
def ad12 : Df := ⟨3, 3, [], (.cons (.expr (.call 9 [0, 1] (.cons (.var 0) (.cons (.var 1) .nil)) .nil)) (.cons (.iff (.not (.val (.call 11 [0, 1, 2] (.cons (.var 0) (.cons (.var 1) (.cons (.var 2) .nil))) .nil))) (.cons .bad .nil) .nil) (.cons (.ret (.call 8 [0, 1] (.cons (.var 0) (.cons (.var 2) .nil)) .nil)) .nil)))⟩
def ab13_0 : Ss := (.cons (.iff (.not (.val (.call 11 [0, 1, 2] (.cons (.sub (.var 3) (.lit (.int (-1)))) (.cons (.var 1) (.cons (.var 4) .nil))) .nil))) (.cons (.ret (.lit .non)) .nil) .nil) (.cons (.expr (.mth .append (.var 3) (.cons (.call 8 [0, 1] (.cons (.sub (.var 3) (.lit (.int (-1)))) (.cons (.var 4) .nil)) .nil) .nil))) .nil))
def ad13 : Df := ⟨3, 5, [], (.cons (.iff (.not (.val (.bi .islist (.cons (.var 2) .nil)))) (.cons (.ret (.lit .non)) .nil) .nil) (.cons (.set 3 (.lst (.cons (.var 0) .nil))) (.cons (.for [4] (.seq (.var 2)) ab13_0) (.cons (.ret (.var 3)) .nil))))⟩
def ad14 : Df := ⟨3, 3, [], (.cons (.expr (.call 9 [0, 1] (.cons (.var 0) (.cons (.var 1) .nil)) .nil)) (.cons (.ret (.cmp .isnot (.call 13 [0, 1, 2] (.cons (.var 0) (.cons (.var 1) (.cons (.var 2) .nil))) .nil) (.lit .non))) .nil))⟩
def ad15 : Df := ⟨3, 4, [], (.cons (.expr (.call 9 [0, 1] (.cons (.var 0) (.cons (.var 1) .nil)) .nil)) (.cons (.set 3 (.call 13 [0, 1, 2] (.cons (.var 0) (.cons (.var 1) (.cons (.var 2) .nil))) .nil)) (.cons (.iff (.val (.cmp .is (.var 3) (.lit .non))) (.cons .bad .nil) .nil) (.cons (.ret (.var 3)) .nil))))⟩
def ad16 : Df := ⟨3, 3, [], (.cons (.ret (.sub (.call 15 [0, 1, 2] (.cons (.var 0) (.cons (.var 1) (.cons (.var 2) .nil))) .nil) (.lit (.int (-1))))) .nil)⟩
def ae17_0 : E := (.var 2)
def at17_0 : Ts := (.cons (.not (.val (.call 1 [0, 1, 2] (.cons (.var 2) (.cons (.lit (.int 0)) (.cons (.bin .sub (.var 0) (.lit (.int 1))) .nil))) .nil))) .nil)
def al17_0 : E := (.lc ae17_0 [2] (.seq (.var 1)) at17_0 [2])
def ae17_1 : E := (.bin .sub (.bin .sub (.var 0) (.lit (.int 1))) (.var 2))
def al17_1 : E := (.lc ae17_1 [2] (.back (.var 1)) .nil [2])
def ad17 : Df := ⟨2, 3, [], (.cons (.expr (.call 2 [0, 1, 2] (.cons (.var 0) (.cons (.lit (.int 0)) (.cons (.lit (.int 300)) .nil))) .nil)) (.cons (.iff (.or (.not (.val (.bi .islist (.cons (.var 1) .nil)))) (.val (.cmp .ne al17_0 (.lst .nil)))) (.cons .bad .nil) .nil) (.cons (.ret al17_1) .nil)))⟩
def ae24_0 : E := (.var 2)
def at24_0 : Ts := (.cons (.val (.cmp .eq (.call 19 [0, 1] (.cons (.var 0) (.cons (.lit (.int 2)) .nil)) .nil) (.lit (.int 0)))) .nil)
def al24_0 : E := (.lc ae24_0 [2] (.seq (.var 1)) at24_0 [2])
def ad24 : Df := ⟨2, 3, [], (.cons (.ret (.mth .join (.lit (.str [])) (.cons al24_0 .nil))) .nil)⟩
def ad25 : Df := ⟨2, 2, [], (.cons (.ret (.bin .add (.bin .add (.sl true false (.var 0) (.bin .add (.var 1) (.lit (.int 1))) (.lit .non)) (.sub (.var 0) (.var 1))) (.sl false true (.var 0) (.lit .non) (.var 1)))) .nil)⟩
def ad26 : Df := ⟨2, 4, [], (.cons (.set 2 (.bin .add (.bin .add (.bin .add (.sl false true (.var 0) (.lit .non) (.var 1)) (.lit (.str [95]))) (.sl true false (.var 0) (.bin .add (.var 1) (.lit (.int 1))) (.lit .non))) (.sub (.var 0) (.var 1)))) (.cons (.set 3 (.mth .index (.var 2) (.cons (.lit (.str [95])) .nil))) (.cons (.ret (.bin .add (.sl true false (.var 2) (.bin .add (.var 3) (.lit (.int 1))) (.lit .non)) (.sl false true (.var 2) (.lit .non) (.var 3)))) .nil)))⟩
def ae27_0 : E := (.lit (.int 1))
def at27_0 : Ts := (.cons (.not (.val (.call 27 [0, 1] (.cons (.var 2) (.cons (.var 3) .nil)) .nil))) .nil)
def al27_0 : E := (.lc ae27_0 [2, 3] (.zip (.var 0) (.var 1)) at27_0 [2, 3])
def ad27 : Df := ⟨2, 4, [], (.cons (.iff (.val (.bi .isseq (.cons (.var 1) .nil))) (.cons (.iff (.or (.val (.cmp .ne (.bi .islist (.cons (.var 0) .nil)) (.bi .islist (.cons (.var 1) .nil)))) (.val (.cmp .ne (.bi .istuple (.cons (.var 0) .nil)) (.bi .istuple (.cons (.var 1) .nil))))) (.cons (.ret (.lit (.bl false))) .nil) .nil) (.cons (.iff (.val (.cmp .ne (.bi .len (.cons (.var 0) .nil)) (.bi .len (.cons (.var 1) .nil)))) (.cons (.ret (.lit (.bl false))) .nil) .nil) (.cons (.ret (.cmp .eq al27_0 (.lst .nil))) .nil))) .nil) (.cons (.iff (.val (.cmp .is (.var 1) (.lit .non))) (.cons (.ret (.cmp .is (.var 0) (.lit .non))) .nil) .nil) (.cons (.iff (.val (.bi .isstr (.cons (.var 1) .nil))) (.cons (.ret (.and (.bi .isstr (.cons (.var 0) .nil)) (.cmp .eq (.var 0) (.var 1)))) .nil) .nil) (.cons (.iff (.val (.cmp .ne (.bi .isbool (.cons (.var 0) .nil)) (.bi .isbool (.cons (.var 1) .nil)))) (.cons (.ret (.lit (.bl false))) .nil) .nil) (.cons (.ret (.and (.bi .isint (.cons (.var 0) .nil)) (.cmp .eq (.var 0) (.var 1)))) .nil)))))⟩
def ae28_0 : E := (.var 7)
def at28_0 : Ts := (.cons (.val (.cmp .isin (.sub (.var 5) (.var 7)) (.var 2))) .nil)
def al28_0 : E := (.lc ae28_0 [7] (.rng1 (.var 4)) at28_0 [7])
def ab28_1 : Ss := (.cons (.set 8 (.call 12 [0, 1, 2] (.cons (.var 5) (.cons (.var 2) (.cons (.var 7) .nil))) .nil)) (.cons (.iff (.or (.not (.val (.call 27 [0, 1] (.cons (.var 8) (.cons (.call 25 [0, 1] (.cons (.var 5) (.cons (.var 7) .nil)) .nil) .nil)) .nil))) (.val (.cmp .ne (.call 12 [2, 1, 0] .nil (.cons (.var 7) (.cons (.var 2) (.cons (.var 5) .nil)))) (.var 8)))) (.cons (.ret (.lit (.bl false))) .nil) .nil) (.cons (.iff (.or (.val (.cmp .ne (.var 8) (.call 26 [0, 1] (.cons (.var 5) (.cons (.var 7) .nil)) .nil))) (.val (.cmp .ne (.call 12 [0, 1, 2] (.cons (.var 8) (.cons (.var 2) (.cons (.bin .sub (.bin .sub (.var 4) (.lit (.int 1))) (.var 7)) .nil))) .nil) (.var 5)))) (.cons (.ret (.lit (.bl false))) .nil) .nil) (.cons (.iff (.val (.cmp .ne (.call 12 [0, 1, 2] (.cons (.var 5) (.cons (.sub (.var 5) (.var 7)) (.cons (.var 7) .nil))) .nil) (.var 8))) (.cons (.ret (.lit (.bl false))) .nil) .nil) .nil))))
def ad28_11 : Ss := .cons (.ret (.lit (.bl true))) .nil
def ad28_10 : Ss := .cons (.for [7] (.seq (.ifx (.val (.cmp .gt (.bi .len (.cons (.var 6) .nil)) (.lit (.int 14)))) (.bin .add (.sl false true (.var 6) (.lit .non) (.lit (.int 12))) (.sl true false (.var 6) (.bin .sub (.bi .len (.cons (.var 6) .nil)) (.lit (.int 2))) (.lit .non))) (.var 6))) ab28_1) ad28_11
def ad28_9 : Ss := .cons (.iff (.or (.not (.val (.call 27 [0, 1] (.cons (.call 10 [0, 1] (.cons (.var 5) (.cons (.var 2) .nil)) .nil) (.cons (.var 6) .nil)) .nil))) (.not (.val (.call 27 [0, 1] (.cons (.call 10 [0, 1] (.cons (.var 5) (.cons (.lit (.str [])) .nil)) .nil) (.cons (.lst .nil) .nil)) .nil)))) (.cons (.ret (.lit (.bl false))) .nil) .nil) ad28_10
def ad28_8 : Ss := .cons (.expr (.mth .append (.var 8) (.cons (.lit .non) .nil))) ad28_9
def ad28_7 : Ss := .cons (.iff (.or (.not (.val (.call 27 [0, 1] (.cons (.var 8) (.cons (.var 6) .nil)) .nil))) (.not (.val (.call 27 [0, 1] (.cons (.call 10 [1, 0] .nil (.cons (.var 2) (.cons (.var 5) .nil))) (.cons (.var 6) .nil)) .nil)))) (.cons (.ret (.lit (.bl false))) .nil) .nil) ad28_8
def ad28_6 : Ss := .cons (.set 8 (.call 10 [0, 1] (.cons (.var 5) (.cons (.var 2) .nil)) .nil)) ad28_7
def ad28_5 : Ss := .cons (.set 6 al28_0) ad28_6
def ad28_4 : Ss := .cons (.set 5 (.call 22 [0, 1, 2] (.cons (.var 0) (.cons (.var 1) (.cons (.var 4) .nil))) .nil)) ad28_5
def ad28_3 : Ss := .cons (.set 4 (.sub (.var 3) (.call 19 [0, 1] (.cons (.var 0) (.cons (.lit (.int 3)) .nil)) .nil))) ad28_4
def ad28_2 : Ss := .cons (.set 3 (.lst (.cons (.call 19 [0, 1] (.cons (.var 0) (.cons (.lit (.int 8)) .nil)) .nil) (.cons (.call 19 [0, 1] (.cons (.var 0) (.cons (.lit (.int 40)) .nil)) .nil) (.cons (.call 19 [0, 1] (.cons (.var 0) (.cons (.lit (.int 301)) .nil)) .nil) .nil))))) ad28_3
def ad28_1 : Ss := .cons (.set 2 (.call 24 [0, 1] (.cons (.var 0) (.cons (.var 1) .nil)) .nil)) ad28_2
def ad28_0 : Ss := .cons (.set 1 (.call 23 [0, 1, 2] (.cons (.var 0) (.cons (.lit (.int 1)) (.cons (.lit (.int 6)) .nil))) .nil)) ad28_1
def ad28 : Df := ⟨1, 9, [], ad28_0⟩
def ae30_0 : E := (.var 8)
def at30_0 : Ts := (.cons (.val (.cmp .isin (.sub (.var 5) (.var 8)) (.var 2))) .nil)
def al30_0 : E := (.lc ae30_0 [8] (.rng1 (.bi .len (.cons (.var 5) .nil))) at30_0 [8])
def ab30_1 : Ss := (.cons (.set 7 al30_0) (.cons (.iff (.val (.cmp .ne (.var 7) (.lst .nil))) (.cons (.expr (.mth .append (.var 4) (.cons (.sub (.var 7) (.call 19 [0, 1] (.cons (.var 0) (.cons (.bi .len (.cons (.var 7) .nil)) .nil)) .nil)) .nil))) (.cons (.set 5 (.call 25 [0, 1] (.cons (.var 5) (.cons (.sub (.var 4) (.bin .sub (.bi .len (.cons (.var 4) .nil)) (.lit (.int 1)))) .nil)) .nil)) .nil)) .nil) .nil))
def ad30 : Df := ⟨4, 9, [], (.cons (.par [4, 5] (.cons (.lst .nil) (.cons (.var 1) .nil))) (.cons (.for [6] (.rng1 (.var 3)) ab30_1) (.cons (.ret (.var 4)) .nil)))⟩
def ab31_0 : Ss := (.cons (.set 5 (.sub (.var 3) (.bin .sub (.bi .len (.cons (.var 3) .nil)) (.lit (.int 1))))) (.cons (.iff (.or (.not (.val (.bi .isint (.cons (.var 4) .nil)))) (.val (.bi .isbool (.cons (.var 4) .nil)))) (.cons (.ret (.lit .non)) .nil) .nil) (.cons (.iff (.or (.not (.val (.chain .le .lt (.lit (.int 0)) (.var 4) (.bi .len (.cons (.var 5) .nil))))) (.val (.cmp .notin (.sub (.var 5) (.var 4)) (.var 1)))) (.cons (.ret (.lit .non)) .nil) .nil) (.cons (.expr (.mth .append (.var 3) (.cons (.call 25 [0, 1] (.cons (.var 5) (.cons (.var 4) .nil)) .nil) .nil))) .nil))))
def ad31 : Df := ⟨3, 6, [], (.cons (.set 3 (.lst (.cons (.var 0) .nil))) (.cons (.for [4] (.seq (.var 2)) ab31_0) (.cons (.ret (.var 3)) .nil)))⟩
def ae32_0 : E := (.bin .add (.bin .add (.sl false true (.var 1) (.lit .non) (.var 3)) (.lst (.cons (.var 6) .nil))) (.sl true false (.var 1) (.var 3) (.lit .non)))
def al32_0 : E := (.lc ae32_0 [6] (.seq (.var 4)) .nil [6])
def ae32_1 : E := (.bin .sub (.bin .sub (.var 2) (.lit (.int 1))) (.var 7))
def al32_1 : E := (.lc ae32_1 [7] (.seq (.var 1)) .nil [7])
def ad32 : Df := ⟨3, 8, [], (.cons (.set 3 (.call 19 [0, 1] (.cons (.var 0) (.cons (.bin .add (.bi .len (.cons (.var 1) .nil)) (.lit (.int 1))) .nil)) .nil)) (.cons (.set 4 (.lst (.cons (.bin .sub (.lit (.int 0)) (.lit (.int 1))) (.cons (.var 2) (.cons (.lit (.bl true)) (.cons (.lit .non) (.cons (.lit (.str [48])) (.cons (.tup (.cons (.lit (.int 0)) .nil)) (.cons (.lst (.cons (.lit (.int 0)) .nil)) (.cons (.call 19 [0, 1] (.cons (.var 0) (.cons (.bin .add (.var 2) (.lit (.int 1))) .nil)) .nil) .nil)))))))))) (.cons (.set 5 (.bin .add al32_0 (.lst (.cons al32_1 .nil)))) (.cons (.ret (.bin .add (.var 5) (.lst (.cons (.bi .tuple (.cons (.var 1) .nil)) (.cons (.rev (.var 1) (.bin .sub (.lit (.int 0)) (.lit (.int 1)))) (.cons (.sl false true (.var 1) (.lit .non) (.var 3)) (.cons (.bin .add (.var 1) (.var 1)) (.cons (.lst (.cons (.var 1) .nil)) (.cons (.lit .non) (.cons (.lit (.int 7)) (.cons (.lit (.str [])) (.cons .dict0 .nil)))))))))))) .nil))))⟩
def ae33_0 : E := (.bin .sub (.bin .sub (.var 3) (.lit (.int 1))) (.var 11))
def al33_0 : E := (.lc ae33_0 [11] (.seq (.rev (.var 5) (.bin .sub (.lit (.int 0)) (.lit (.int 1))))) .nil [11])
def ab33_1 : Ss := (.cons (.par [14, 6] (.cons (.and (.bi .islist (.cons (.var 13) .nil)) (.cmp .isnot (.call 31 [0, 1, 2] (.cons (.var 4) (.cons (.var 2) (.cons (.var 13) .nil))) .nil) (.lit .non))) (.cons (.bi .repr (.cons (.var 13) .nil)) .nil))) (.cons (.iff (.not (.val (.call 29 [0, 1] (.cons (.call 14 [0, 1, 2] (.cons (.var 4) (.cons (.var 2) (.cons (.var 13) .nil))) .nil) (.cons (.var 14) .nil)) .nil))) (.cons (.ret (.lit (.bl false))) .nil) .nil) (.cons (.iff (.or (.not (.val (.call 29 [0, 1] (.cons (.call 14 [1, 2, 0] .nil (.cons (.var 13) (.cons (.var 4) (.cons (.var 2) .nil)))) (.cons (.var 14) .nil)) .nil))) (.val (.cmp .ne (.bi .repr (.cons (.var 13) .nil)) (.var 6)))) (.cons (.ret (.lit (.bl false))) .nil) .nil) .nil)))
def ad33_17 : Ss := .cons (.ret (.lit (.bl true))) .nil
def ad33_16 : Ss := .cons (.for [13] (.seq (.bin .add (.lst (.cons (.var 5) (.cons (.lst .nil) .nil))) (.call 32 [0, 1, 2] (.cons (.var 0) (.cons (.var 5) (.cons (.bi .len (.cons (.var 4) .nil)) .nil))) .nil))) ab33_1) ad33_17
def ad33_15 : Ss := .cons (.iff (.val (.cmp .ne (.call 16 [0, 1, 2] (.cons (.var 4) (.cons (.var 2) (.cons (.bin .add (.var 5) (.var 12)) .nil))) .nil) (.call 16 [0, 1, 2] (.cons (.call 16 [0, 1, 2] (.cons (.var 4) (.cons (.var 2) (.cons (.var 5) .nil))) .nil) (.cons (.var 2) (.cons (.var 12) .nil))) .nil))) (.cons (.ret (.lit (.bl false))) .nil) .nil) ad33_16
def ad33_14 : Ss := .cons (.set 12 (.call 30 [0, 1, 2, 3] (.cons (.var 0) (.cons (.var 9) (.cons (.var 2) (.cons (.lit (.int 4)) .nil)))) .nil)) ad33_15
def ad33_13 : Ss := .cons (.iff (.val (.cmp .ne (.call 15 [0, 1, 2] (.cons (.var 9) (.cons (.var 2) (.cons (.var 10) .nil))) .nil) (.rev (.var 7) (.bin .sub (.lit (.int 0)) (.lit (.int 1)))))) (.cons (.ret (.lit (.bl false))) .nil) .nil) ad33_14
def ad33_12 : Ss := .cons (.iff (.or (.val (.cmp .ne (.call 16 [0, 1, 2] (.cons (.var 9) (.cons (.var 2) (.cons (.var 10) .nil))) .nil) (.var 4))) (.or (.val (.cmp .ne (.call 17 [0, 1] (.cons (.var 3) (.cons (.var 10) .nil)) .nil) (.var 5))) (.val (.cmp .ne (.var 5) (.var 6))))) (.cons (.ret (.lit (.bl false))) .nil) .nil) ad33_13
def ad33_11 : Ss := .cons (.iff (.or (.not (.val (.call 27 [0, 1] (.cons (.var 10) (.cons al33_0 .nil)) .nil))) (.val (.cmp .ne (.call 17 [1, 0] .nil (.cons (.var 5) (.cons (.var 3) .nil))) (.var 10)))) (.cons (.ret (.lit (.bl false))) .nil) .nil) ad33_12
def ad33_10 : Ss := .cons (.set 10 (.call 17 [0, 1] (.cons (.var 3) (.cons (.var 5) .nil)) .nil)) ad33_11
def ad33_9 : Ss := .cons (.iff (.or (.val (.cmp .ne (.call 16 [1, 2, 0] .nil (.cons (.var 5) (.cons (.var 4) (.cons (.var 2) .nil)))) (.var 9))) (.or (.val (.cmp .ne (.call 15 [0, 1, 2] (.cons (.var 4) (.cons (.var 2) (.cons (.var 5) .nil))) .nil) (.var 7))) (.val (.cmp .ne (.var 5) (.var 6))))) (.cons (.ret (.lit (.bl false))) .nil) .nil) ad33_10
def ad33_8 : Ss := .cons (.expr (.mth .append (.var 8) (.cons (.lit .non) .nil))) ad33_9
def ad33_7 : Ss := .cons (.iff (.or (.not (.val (.call 27 [0, 1] (.cons (.var 8) (.cons (.var 7) .nil)) .nil))) (.or (.val (.cmp .ne (.call 15 [2, 1, 0] .nil (.cons (.var 5) (.cons (.var 2) (.cons (.var 4) .nil)))) (.var 7))) (.not (.val (.call 27 [0, 1] (.cons (.call 16 [0, 1, 2] (.cons (.var 4) (.cons (.var 2) (.cons (.var 5) .nil))) .nil) (.cons (.var 9) .nil)) .nil))))) (.cons (.ret (.lit (.bl false))) .nil) .nil) ad33_8
def ad33_6 : Ss := .cons (.par [8, 9] (.cons (.call 15 [0, 1, 2] (.cons (.var 4) (.cons (.var 2) (.cons (.var 5) .nil))) .nil) (.cons (.sub (.var 7) (.bin .sub (.bi .len (.cons (.var 7) .nil)) (.lit (.int 1)))) .nil))) ad33_7
def ad33_5 : Ss := .cons (.par [6, 7] (.cons (.bi .list (.cons (.var 5) .nil)) (.cons (.call 31 [0, 1, 2] (.cons (.var 4) (.cons (.var 2) (.cons (.var 5) .nil))) .nil) .nil))) ad33_6
def ad33_4 : Ss := .cons (.set 5 (.call 30 [0, 1, 2, 3] (.cons (.var 0) (.cons (.var 4) (.cons (.var 2) (.cons (.sub (.lst (.cons (.call 19 [0, 1] (.cons (.var 0) (.cons (.lit (.int 6)) .nil)) .nil) (.cons (.lit (.int 60)) .nil))) (.call 19 [0, 1] (.cons (.var 0) (.cons (.lit (.int 2)) .nil)) .nil)) .nil)))) .nil)) ad33_5
def ad33_3 : Ss := .cons (.set 4 (.call 22 [0, 1, 2] (.cons (.var 0) (.cons (.var 1) (.cons (.var 3) .nil))) .nil)) ad33_4
def ad33_2 : Ss := .cons (.set 3 (.sub (.lst (.cons (.call 19 [0, 1] (.cons (.var 0) (.cons (.lit (.int 7)) .nil)) .nil) (.cons (.call 19 [0, 1] (.cons (.var 0) (.cons (.lit (.int 41)) .nil)) .nil) .nil))) (.call 19 [0, 1] (.cons (.var 0) (.cons (.lit (.int 2)) .nil)) .nil))) ad33_3
def ad33_1 : Ss := .cons (.set 2 (.call 24 [0, 1] (.cons (.var 0) (.cons (.var 1) .nil)) .nil)) ad33_2
def ad33_0 : Ss := .cons (.set 1 (.call 23 [0, 1, 2] (.cons (.var 0) (.cons (.lit (.int 1)) (.cons (.lit (.int 5)) .nil))) .nil)) ad33_1
def ad33 : Df := ⟨1, 15, [], ad33_0⟩
def ab34_0 : Ss := (.cons (.iff (.not (.val (.call 28 [0] (.cons (.call 21 [0, 1] (.cons (.var 0) (.cons (.var 1) .nil)) .nil) .nil) .nil))) (.cons (.ret (.lit (.bl false))) .nil) .nil) .nil)
def ad34 : Df := ⟨1, 2, [], (.cons (.for [1] (.rng1 (.lit (.int 3))) ab34_0) (.cons (.ret (.and (.cmp .eq (.call 12 [0, 1, 2] (.cons (.lit (.str [120])) (.cons (.lit (.str [120])) (.cons (.lit (.int 0)) .nil))) .nil) (.lit (.str [120]))) (.and (.cmp .eq (.call 12 [0, 1, 2] (.cons (.lit (.str [120, 97, 98])) (.cons (.lit (.str [120])) (.cons (.lit (.int 0)) .nil))) .nil) (.lit (.str [97, 98, 120]))) (.cmp .eq (.call 12 [0, 1, 2] (.cons (.lit (.str [97, 98, 120])) (.cons (.lit (.str [120])) (.cons (.lit (.int 2)) .nil))) .nil) (.lit (.str [120, 97, 98])))))) .nil))⟩
def ab35_0 : Ss := (.cons (.iff (.not (.val (.call 33 [0] (.cons (.call 21 [0, 1] (.cons (.var 0) (.cons (.var 1) .nil)) .nil) .nil) .nil))) (.cons (.ret (.lit (.bl false))) .nil) .nil) .nil)
def ad35 : Df := ⟨1, 2, [], (.cons (.for [1] (.rng1 (.lit (.int 3))) ab35_0) (.cons (.iff (.or (.val (.cmp .ne (.call 15 [0, 1, 2] (.cons (.lit (.str [])) (.cons (.lit (.str [120])) (.cons (.lst .nil) .nil))) .nil) (.lst (.cons (.lit (.str [])) .nil)))) (.or (.val (.cmp .ne (.call 17 [0, 1] (.cons (.lit (.int 0)) (.cons (.lst .nil) .nil)) .nil) (.lst .nil))) (.val (.cmp .ne (.call 17 [0, 1] (.cons (.lit (.int 300)) (.cons (.lst (.cons (.lit (.int 0)) (.cons (.lit (.int 299)) .nil))) .nil)) .nil) (.lst (.cons (.lit (.int 0)) (.cons (.lit (.int 299)) .nil))))))) (.cons (.ret (.lit (.bl false))) .nil) .nil) (.cons (.ret (.cmp .eq (.call 16 [0, 1, 2] (.cons (.lit (.str [120])) (.cons (.lit (.str [120])) (.cons (.bin .mul (.lst (.cons (.lit (.int 0)) .nil)) (.lit (.int 1000))) .nil))) .nil) (.lit (.str [120])))) .nil)))⟩
def ad36 : Df := ⟨1, 1, [], (.cons (.ret (.and (.call 34 [0] (.cons (.var 0) .nil) .nil) (.call 35 [0] (.cons (.var 0) .nil) .nil))) .nil)⟩
/-- the law's table -/
structure Ka (Δ : Tab) : Prop where
  h0 : Δ.lookup 0 = some dfWhole
  h1 : Δ.lookup 1 = some (dfBetw 0)
  h2 : Δ.lookup 2 = some ad2
  h3 : Δ.lookup 3 = some dfLett
  h4 : Δ.lookup 4 = some (dfChk 3)
  h5 : Δ.lookup 5 = some dfRise
  h6 : Δ.lookup 6 = some (dfOrd 3 5)
  h7 : Δ.lookup 7 = some (dfChk 6)
  h8 : Δ.lookup 8 = some ad8
  h9 : Δ.lookup 9 = some ad9
  h10 : Δ.lookup 10 = some ad10
  h11 : Δ.lookup 11 = some ad11
  h12 : Δ.lookup 12 = some ad12
  h13 : Δ.lookup 13 = some ad13
  h14 : Δ.lookup 14 = some ad14
  h15 : Δ.lookup 15 = some ad15
  h16 : Δ.lookup 16 = some ad16
  h17 : Δ.lookup 17 = some ad17
  h18 : Δ.lookup 18 = some dfHash
  h19 : Δ.lookup 19 = some (dfRnd 18)
  h20 : Δ.lookup 20 = some dfCell
  h21 : Δ.lookup 21 = some (dfGen 20)
  h22 : Δ.lookup 22 = some (dfWord 19)
  h23 : Δ.lookup 23 = some (dfLetters 19)
  h24 : Δ.lookup 24 = some ad24
  h25 : Δ.lookup 25 = some ad25
  h26 : Δ.lookup 26 = some ad26
  h27 : Δ.lookup 27 = some ad27
  h28 : Δ.lookup 28 = some ad28
  h29 : Δ.lookup 29 = some dfYes
  h30 : Δ.lookup 30 = some ad30
  h31 : Δ.lookup 31 = some ad31
  h32 : Δ.lookup 32 = some ad32
  h33 : Δ.lookup 33 = some ad33
  h34 : Δ.lookup 34 = some ad34
  h35 : Δ.lookup 35 = some ad35
  h36 : Δ.lookup 36 = some ad36
end Ev

set_option Elab.async false
set_option linter.all false
set_option maxRecDepth 100000
set_option maxHeartbeats 8000000
/-! Q1: letters, joints, words of any size. Own work. -/
namespace Ev
theorem letters2_ok {Δ : Tab} {hn rn n : Nat} (h1 : Δ.lookup hn = some dfHash) (h2 : Δ.lookup rn = some (dfRnd hn)) (h : Δ.lookup n = some (dfLetters rn)) (k : Nat) {m : Nat} {g : D} (hg : Gen (m + 7) g) {M : Int} (hM : 1 ≤ M ∧ M ≤ 6) :
    ∃ (l : List Nat) (g' : D), 1 ≤ l.length ∧ (l.length : Int) ≤ M ∧ small l = true ∧ Asc l ∧ Gen m g' ∧ Phi Δ (k + 3) n [⟨.own, g⟩, ⟨.fz, .int 1⟩, ⟨.fz, .int M⟩] = .ret false (.str l) [⟨.own, g'⟩, ⟨.fz, .int 1⟩, ⟨.fz, .int M⟩] := by
  rw [Phi_s h]
  obtain ⟨r, g1, r0, r1, hg1, e1⟩ := draw_ok h1 h2 k (m := m + 6) hg (n := M) ⟨by omega, by omega⟩
  obtain ⟨ρ', e, l, s, g2, x, hg2, hll, hs1, hs2, hsm, hasc, hle, rfl⟩ := forGo_inv (f := withTg [6] (evSs (Phi Δ (k + 2)) 3 (leB rn))) (rows := rngD 0 (1 + r)) (fun i ρ => ∃ (l : List Nat) (s : Int) (g2 : D) (x : Option Sl), Gen (m + 6 - i) g2 ∧ l.length = i ∧ -1 ≤ s ∧ s + 1 ≤ 3 * (i : Int) ∧ small l = true ∧ Asc l ∧ (∀ c ∈ l, (c : Int) ≤ 97 + s) ∧ ρ = [some ⟨.own, g2⟩, some ⟨.fz, .int 1⟩, some ⟨.fz, .int M⟩, some ⟨.fz, .int (1 + r)⟩, some ⟨.fz, .str l⟩, some ⟨.fz, .int s⟩, x]) 0 (ρ := [some ⟨.own, g1⟩, some ⟨.fz, .int 1⟩, some ⟨.fz, .int M⟩, some ⟨.fz, .int (1 + r)⟩, some ⟨.fz, .str []⟩, some ⟨.fz, .int (-1)⟩, none]) (fun i d ρ hd hI => by
    obtain ⟨rfl, hlt⟩ := rngD_at hd
    rw [Nat.zero_add] at hI ⊢
    obtain ⟨l, s, g2, x, hg2, hll, hs1, hs2, hsm, hasc, hle, rfl⟩ := hI
    have hi6 : i < 6 := by omega
    obtain ⟨s', g', hs3, hs4, hg', e⟩ := leB_ok h1 h2 k (m := m + 6 - (i + 1)) (np := 3) (g := g2) (p := .int 1) (q := .int M) (x := .int (1 + r)) (d := .int (0 + i)) (l := l) (s := s) (hg2.mono (by omega)) ⟨hs1, by omega⟩ (by omega)
    refine ⟨_, Or.inl ?_, l ++ [97 + s'.toNat], s', g', some ⟨.fz, .int (0 + i)⟩, hg', by rw [List.length_append, hll] <;> rfl, by omega, by push_cast; omega, ?_, ?_, ?_, rfl⟩
    · simp only [withTg, assignD]
      exact e
    · have := abc_mem s'.toNat (by omega)
      unfold small at hsm ⊢
      rw [List.all_append, hsm, List.all_cons, this] <;> rfl
    · unfold Asc at hasc ⊢
      rw [List.pairwise_append]
      refine ⟨hasc, List.pairwise_singleton _ _, ?_⟩
      intro a ha b hb
      have hb : b = 97 + s'.toNat := by simpa using hb
      have := hle a ha
      omega
    · intro c hc
      rcases List.mem_append.mp hc with hc | hc
      · have := hle c hc
        omega
      · have hb : c = 97 + s'.toNat := by simpa using hc
        omega) ⟨[], -1, g1, none, hg1, rfl, by decide, by decide, rfl, List.Pairwise.nil, by simp, rfl⟩
  have hlen : (rngD 0 (1 + r)).length = (1 + r).toNat := by
    rw [rngD_len]
    congr 1
    omega
  rw [Nat.zero_add, hlen] at hll hg2
  refine ⟨l, g2, by omega, by omega, hsm, hasc, hg2.mono (by omega), ?_⟩
  have hr : -B62 ≤ (1 + r) ∧ (1 + r) < B62 := by
    have : B62 = 4611686018427387904 := rfl
    omega
  simp [dfLetters, runDf, frzAt, evSs, evS, evE, evEs, evI, Rs.bind, En.get, op2, op1, look, toRs, binD, keepSl, keepAll, setAll, lockL, lockS, unlockL, unlockS, pick, callR, frzDup, argsOf, argOf, outsTo, e1, e, hr, keep, allSome, backAt]
theorem word2_ok {Δ : Tab} {hn rn n : Nat} (h1 : Δ.lookup hn = some dfHash) (h2 : Δ.lookup rn = some (dfRnd hn)) (h : Δ.lookup n = some (dfWord rn)) (k : Nat) {m : Nat} {g : D} {l : List Nat} {s : Int} (hg : Gen (m + 400) g) (hl : 1 ≤ l.length ∧ l.length ≤ 6) (hs : small l = true) (h0 : 0 ≤ s ∧ s ≤ 400) :
    ∃ (w : List Nat) (g' : D), Gen m g' ∧ (w.length : Int) = s ∧ small w = true ∧ Phi Δ (k + 3) n [⟨.own, g⟩, ⟨.fz, .str l⟩, ⟨.fz, .int s⟩] = .ret false (.str w) [⟨.own, g'⟩, ⟨.fz, .str l⟩, ⟨.fz, .int s⟩] := by
  rw [Phi_s h]
  have hlen : (rngD 0 s).length = s.toNat := by
    rw [rngD_len]
    congr 1
    omega
  obtain ⟨cs, g2, x2, hg2, hcl, hcs, e2⟩ := wdGo h1 h2 k (m := m) (S := .int s) hl hs (rngD 0 s) (g := g) (x := none) (hg.mono (by omega))
  refine ⟨cs, g2, hg2, by omega, hcs, ?_⟩
  have hB : -B62 ≤ s ∧ s < B62 := by
    have : B62 = 4611686018427387904 := rfl
    omega
  have hL : cs.length ≤ LIM := by
    have : (400 : Nat) ≤ LIM := by decide
    omega
  simp [dfWord, runDf, frzAt, evSs, evS, evE, evEs, evI, Rs.bind, En.get, op2, op1, look, lookAll, toRs, hB, storeR, items, lockL, lockS, Md.lock, wipeE, backE, unlockL, unlockS, mtOk, mthR, mtD, strs_chars, join_chars, sum_chars, sum_chars2, e2, hL, keep, keepAll, allSome, backAt]
/-- joints drawn from letters -/
theorem jtGo {Δ : Tab} (K : Ka Δ) (k : Nat) {m : Nat} {S : D} : ∀ (l : List Nat) {g : D} {x : Option Sl}, Gen (m + l.length) g →
    ∃ (cs : List Nat) (g' : D) (x' : Option Sl), Gen m g' ∧ cs.Sublist l ∧ lcGo (lcTg [2] [2] (evTs (Phi Δ (k + 2)) at24_0) (evE (Phi Δ (k + 2)) ae24_0)) (l.map fun c => .str [c]) [some ⟨.own, g⟩, some ⟨.fz, S⟩, x] = .ok (cs.map fun c => .str [c]) [some ⟨.own, g'⟩, some ⟨.fz, S⟩, x']
  | [], g, x, hg => ⟨[], g, x, hg, .slnil, rfl⟩
  | c :: l, g, x, hg => by
    obtain ⟨r, g1, r0, r1, hg1, e1⟩ := draw_ok K.h18 K.h19 k (m := m + l.length) hg (n := 2) (by decide)
    obtain ⟨cs, g2, x2, hg2, hcl, e2⟩ := jtGo K k (m := m) (S := S) l (g := g1) (x := some ⟨.fz, .str [c]⟩) hg1
    by_cases hr : r = 0
    · subst hr
      refine ⟨c :: cs, g2, x2, hg2, hcl.cons₂ c, ?_⟩
      have e : lcTg [2] [2] (evTs (Phi Δ (k + 2)) at24_0) (evE (Phi Δ (k + 2)) ae24_0) (.str [c]) [some ⟨.own, g⟩, some ⟨.fz, S⟩, x] = .ok (some (.str [c])) [some ⟨.own, g1⟩, some ⟨.fz, S⟩, some ⟨.fz, .str [c]⟩] := by
        simp [lcTg, assignD, wipeE, at24_0, ae24_0, evTs, evT, evE, evEs, Rs.bind, En.get, op2, op1, look, toRs, toRb, truth, cmpD, eqv, flat, DEP, eqD, pick, callR, frzDup, argsOf, argOf, outsTo, e1, keep]
      rw [List.map_cons, List.map_cons]
      unfold lcGo
      rw [e]
      simp only [Rs.calm, Rs.bind]
      rw [e2]
    · refine ⟨cs, g2, x2, hg2, hcl.cons c, ?_⟩
      have e : lcTg [2] [2] (evTs (Phi Δ (k + 2)) at24_0) (evE (Phi Δ (k + 2)) ae24_0) (.str [c]) [some ⟨.own, g⟩, some ⟨.fz, S⟩, x] = .ok none [some ⟨.own, g1⟩, some ⟨.fz, S⟩, some ⟨.fz, .str [c]⟩] := by
        simp [lcTg, assignD, wipeE, at24_0, ae24_0, evTs, evT, evE, evEs, Rs.bind, En.get, op2, op1, look, toRs, toRb, truth, cmpD, eqv, flat, DEP, eqD, pick, callR, frzDup, argsOf, argOf, outsTo, e1, keep, hr]
      rw [List.map_cons]
      unfold lcGo
      rw [e]
      simp only [Rs.calm, Rs.bind]
      rw [e2]
theorem joints2_ok {Δ : Tab} (K : Ka Δ) (k : Nat) {m : Nat} {g : D} {l : List Nat} (hg : Gen (m + 6) g) (hl : l.length ≤ 6) (hs : small l = true) (ha : Asc l) :
    ∃ (j : List Nat) (g' : D), Gen m g' ∧ j.length ≤ 6 ∧ small j = true ∧ Asc j ∧ Phi Δ (k + 3) 24 [⟨.own, g⟩, ⟨.fz, .str l⟩] = .ret false (.str j) [⟨.own, g'⟩, ⟨.fz, .str l⟩] := by
  obtain ⟨cs, g2, x2, hg2, hcl, e2⟩ := jtGo K k (m := m) (S := .str l) l (g := g) (x := none) (hg.mono (by omega))
  have hlen := hcl.length_le
  refine ⟨cs, g2, hg2, by omega, ?_, List.Pairwise.sublist hcl ha, ?_⟩
  · unfold small at hs ⊢
    rw [List.all_eq_true] at hs ⊢
    exact fun c hc => hs c (hcl.subset hc)
  rw [Phi_s K.h24]
  have hL : cs.length ≤ LIM := by
    have : (6 : Nat) ≤ LIM := by decide
    omega
  simp [ad24, al24_0, runDf, frzAt, evSs, evS, evE, evEs, evI, Rs.bind, En.get, op2, op1, look, lookAll, toRs, storeR, items, lockL, lockS, Md.lock, wipeE, backE, unlockL, unlockS, mtOk, mthR, mtD, strs_chars, join_chars, sum_chars, sum_chars2, e2, hL, keep, keepAll, allSome, backAt]
end Ev

set_option Elab.async false
set_option linter.all false
set_option maxRecDepth 100000
set_option maxHeartbeats 8000000
/-! Q2: one deed. Own work. -/
namespace Ev
/-- the law's deed at a place -/
def sw (w : List Nat) (p : Nat) : List Nat := w.drop (p + 1) ++ ((w.drop p).take 1 ++ w.take p)
theorem sIx_in {n d : Nat} {v : Int} (h0 : 0 ≤ v) (h1 : v ≤ n) : sIx n d (some v) = v.toNat := by
  unfold sIx
  simp only
  rw [if_neg (by omega)]
  omega
theorem cut_from {α : Type} {l : List α} {v : Int} (h0 : 0 ≤ v) (h1 : v ≤ l.length) : cut l (some v) none = l.drop v.toNat := by
  unfold cut
  rw [sIx_in h0 h1]
  show (l.drop v.toNat).take (l.length - v.toNat) = _
  rw [List.take_of_length_le]
  rw [List.length_drop]
  omega
theorem cut_to {α : Type} {l : List α} {v : Int} (h0 : 0 ≤ v) (h1 : v ≤ l.length) : cut l none (some v) = l.take v.toNat := by
  unfold cut
  rw [sIx_in h0 h1]
  show (l.drop 0).take (v.toNat - 0) = _
  rw [List.drop_zero, Nat.sub_zero]
theorem one_at {w : List Nat} {p : Nat} (h : p < w.length) : (w.drop p).take 1 = [w[p]] := by
  rw [List.drop_eq_getElem_cons h] <;> rfl
theorem sw_len {w : List Nat} {p : Nat} (h : p < w.length) : (sw w p).length = w.length := by
  unfold sw
  simp only [List.length_append, List.length_drop, List.length_take]
  omega
theorem sw_mem {w : List Nat} {p : Nat} {c : Nat} (h : c ∈ sw w p) : c ∈ w := by
  unfold sw at h
  rcases List.mem_append.mp h with h | h
  · exact List.mem_of_mem_drop h
  · rcases List.mem_append.mp h with h | h
    · exact List.mem_of_mem_drop (List.mem_of_mem_take h)
    · exact List.mem_of_mem_take h
theorem sw_small {w : List Nat} {p : Nat} (h : small w = true) : small (sw w p) = true := by
  unfold small at h ⊢
  rw [List.all_eq_true] at h ⊢
  exact fun c hc => h c (sw_mem hc)
/-- the deed back -/
theorem sw_at {w : List Nat} {p : Nat} (h : p < w.length) : (sw w p)[w.length - 1 - p]? = some w[p] := by
  unfold sw
  rw [one_at h, List.getElem?_append_right (by rw [List.length_drop]; omega), List.length_drop]
  have : w.length - 1 - p - (w.length - (p + 1)) = 0 := by omega
  rw [this] <;> rfl
theorem sw_sw {w : List Nat} {p : Nat} (h : p < w.length) : sw (sw w p) (w.length - 1 - p) = w := by
  have hl : (w.drop (p + 1)).length = w.length - 1 - p := by rw [List.length_drop]; omega
  have e : sw w p = w.drop (p + 1) ++ (w[p] :: w.take p) := by unfold sw; rw [one_at h] <;> rfl
  rw [e]
  unfold sw
  have d1 : (w.drop (p + 1) ++ (w[p] :: w.take p)).drop (w.length - 1 - p) = w[p] :: w.take p := by
    rw [← hl, List.drop_left]
  have d2 : (w.drop (p + 1) ++ (w[p] :: w.take p)).drop (w.length - 1 - p + 1) = w.take p := by
    rw [← List.drop_drop, d1] <;> rfl
  have d3 : (w.drop (p + 1) ++ (w[p] :: w.take p)).take (w.length - 1 - p) = w.drop (p + 1) := by
    rw [← hl, List.take_left]
  rw [d1, d2, d3]
  show w.take p ++ (w[p] :: w.drop (p + 1)) = w
  rw [← List.drop_eq_getElem_cons h, List.take_append_drop]
section
variable {Δ : Tab}
theorem sw8_ok {n : Nat} (h : Δ.lookup n = some ad8) (k : Nat) {w : List Nat} {p : Nat} (hp : p < w.length) (hl : w.length ≤ 1000) : Phi Δ (k + 1) n [⟨.fz, .str w⟩, ⟨.fz, .int p⟩] = .ret false (.str (sw w p)) [⟨.fz, .str w⟩, ⟨.fz, .int p⟩] := by
  rw [Phi_s h]
  have c1 : cut w (some ((p : Int) + 1)) none = w.drop (p + 1) := by
    rw [cut_from (by omega) (by omega)]
    congr 1
  have c2 : cut w none (some (p : Int)) = w.take p := by
    rw [cut_to (by omega) (by omega)]
    congr 1
  have hL : LIM = 16777216 := rfl
  have h1 : w.length - (p + 1) + 1 ≤ 16777216 := by omega
  have h2 : w.length - (p + 1) + 1 + min p w.length ≤ 16777216 := by omega
  have h3 : w.length - (p + 1) < 16777216 := by omega
  have e : sw w p = w.drop (p + 1) ++ (w[p] :: w.take p) := by unfold sw; rw [one_at hp] <;> rfl
  simp [ad8, e, runDf, frzAt, evSs, evS, evE, Rs.bind, En.get, op1, op2, look, toRs, binD, slD, bound, subD, ixN, c1, c2, hp, hL, h1, h2, h3, allSome, backAt]
theorem d25_eq : ad25 = ad8 := rfl
theorem jump_eq {w : List Nat} {p : Nat} (hp : p < w.length) (hs : small w = true) : (95 : Nat) ∈ (w.take p ++ [95] ++ w.drop (p + 1) ++ [w[p]]) ∧ (w.take p ++ [95] ++ w.drop (p + 1) ++ [w[p]]).idxOf 95 = p := by
  have hn : 95 ∉ w.take p := fun h => by
    have := List.mem_of_mem_take h
    unfold small at hs
    rw [List.all_eq_true] at hs
    exact absurd (hs 95 this) (by decide)
  refine ⟨by simp, ?_⟩
  rw [List.append_assoc, List.append_assoc, List.idxOf_append, if_neg hn, List.length_take]
  simp
  omega
theorem jump_ok {n : Nat} (h : Δ.lookup n = some ad26) (k : Nat) {w : List Nat} {p : Nat} (hp : p < w.length) (hs : small w = true) (hl : w.length ≤ 1000) : Phi Δ (k + 1) n [⟨.fz, .str w⟩, ⟨.fz, .int p⟩] = .ret false (.str (sw w p)) [⟨.fz, .str w⟩, ⟨.fz, .int p⟩] := by
  rw [Phi_s h]
  have c1 : cut w (some ((p : Int) + 1)) none = w.drop (p + 1) := by
    rw [cut_from (by omega) (by omega)]
    congr 1
  have c2 : cut w none (some (p : Int)) = w.take p := by
    rw [cut_to (by omega) (by omega)]
    congr 1
  obtain ⟨j1, j2⟩ := jump_eq hp hs
  have hL : LIM = 16777216 := rfl
  have hr : (w.take p ++ [95] ++ w.drop (p + 1) ++ [w[p]]).length = w.length + 1 := by
    simp only [List.length_append, List.length_take, List.length_drop, List.length_cons, List.length_nil]
    omega
  generalize hR : w.take p ++ [95] ++ w.drop (p + 1) ++ [w[p]] = R at j1 j2 hr
  have c3 : cut R (some ((p : Int) + 1)) none = w.drop (p + 1) ++ [w[p]] := by
    rw [cut_from (by omega) (by omega), ← hR]
    have e : ((p : Int) + 1).toNat = (w.take p ++ [95]).length := by
      rw [List.length_append, List.length_take] <;> simp
      omega
    rw [e, List.append_assoc, List.drop_left]
  have c4 : cut R none (some (p : Int)) = w.take p := by
    rw [cut_to (by omega) (by omega), ← hR]
    have e : ((p : Int)).toNat = (w.take p).length := by
      rw [List.length_take]
      omega
    rw [e, List.append_assoc, List.append_assoc, List.take_left]
  have b1 : binD .add (.str (w.take p)) (.str [95]) = some (.v (.str (w.take p ++ [95]))) := by
    unfold binD
    simp only
    rw [if_pos (by simp only [List.length_take, List.length_cons, List.length_nil]; omega)]
  have b2 : binD .add (.str (w.take p ++ [95])) (.str (w.drop (p + 1))) = some (.v (.str (w.take p ++ [95] ++ w.drop (p + 1)))) := by
    unfold binD
    simp only
    rw [if_pos (by simp only [List.length_append, List.length_take, List.length_drop, List.length_cons, List.length_nil]; omega)]
  have b3 : binD .add (.str (w.take p ++ [95] ++ w.drop (p + 1))) (.str [w[p]]) = some (.v (.str R)) := by
    unfold binD
    simp only
    rw [if_pos (by simp only [List.length_append, List.length_take, List.length_drop, List.length_cons, List.length_nil]; omega), hR]
  have b4 : binD .add (.str (w.drop (p + 1) ++ [w[p]])) (.str (w.take p)) = some (.v (.str (sw w p))) := by
    unfold binD sw
    simp only
    rw [if_pos (by simp only [List.length_append, List.length_take, List.length_drop, List.length_cons, List.length_nil]; omega), one_at hp, List.append_assoc]
  have b0 : binD .add (.int (p : Int)) (.int 1) = some (.v (.int ((p : Int) + 1))) := rfl
  simp [ad26, runDf, frzAt, evSs, evS, evE, evEs, Rs.bind, En.get, op1, op2, look, lookAll, toRs, b0, b1, b2, b3, b4, slD, bound, subD, ixN, c1, c2, c3, c4, hp, storeR, mtOk, mthR, mtD, j1, j2, allSome, backAt, -List.append_assoc]
end
end Ev

set_option Elab.async false
set_option linter.all false
set_option maxRecDepth 100000
set_option maxHeartbeats 8000000
/-! Q3: checks, open places, exact answers. Own work. -/
namespace Ev
/-- between 0 and hi -/
def inR (hi : Int) : D → Bool
  | .int i => decide (0 ≤ i) && decide (i ≤ hi)
  | _ => false
theorem betw2_ok {Δ : Tab} {a n : Nat} (h1 : Δ.lookup a = some dfWhole) (h : Δ.lookup n = some (dfBetw a)) (k : Nat) {v : D} {hi : Int} (hv : known v = true) : Phi Δ (k + 2) n [⟨.fz, v⟩, ⟨.fz, .int 0⟩, ⟨.fz, .int hi⟩] = .ret false (.bl (inR hi v)) [⟨.fz, v⟩, ⟨.fz, .int 0⟩, ⟨.fz, .int hi⟩] := by
  rw [Phi_s h]
  have e1 := whole_ok h1 k hv
  cases v with
  | int i =>
    have e1 : Phi Δ (k + 1) a [⟨.fz, .int i⟩] = .ret false (.bl true) [⟨.fz, .int i⟩] := e1
    by_cases hl : 0 ≤ i <;> by_cases hh : i ≤ hi <;>
      simp [dfBetw, runDf, frzAt, evSs, evS, evT, evE, evEs, Rs.bind, En.get, op1, op2, look, truth, pick, callR, frzDup, argsOf, argOf, outsTo, toRb, cmpD, isNonD, e1, inR, hl, hh, keep, allSome, backAt]
  | fn n => cases hv
  | exc c v => cases hv
  | _ =>
    simp only [whole, Option.isSome] at e1
    simp [dfBetw, runDf, frzAt, evSs, evS, evT, evE, evEs, Rs.bind, En.get, op1, op2, look, truth, pick, callR, frzDup, argsOf, argOf, outsTo, toRb, cmpD, isNonD, e1, inR, keep, allSome, backAt]
/-- a place of the word at which a joint stands -/
def opn (w j : List Nat) : D → Bool
  | .int i => decide (0 ≤ i) && (match w[i.toNat]? with
    | some c => j.contains c
    | none => false)
  | _ => false
theorem opn_some {w j : List Nat} {d : D} (h : opn w j d = true) : ∃ p : Nat, d = .int p ∧ ∃ hp : p < w.length, w[p] ∈ j := by
  cases d <;> simp only [opn] at h <;> try (cases h; done)
  rename_i i
  rw [Bool.and_eq_true, decide_eq_true_eq] at h
  cases hc : w[i.toNat]? with
  | none => rw [hc] at h; exact absurd h.2 (by simp)
  | some c =>
    rw [hc] at h
    obtain ⟨hp, e⟩ := List.getElem?_eq_some_iff.mp hc
    refine ⟨i.toNat, ?_, hp, ?_⟩
    · congr 1
      omega
    · rw [e]
      simpa using h.2
theorem opn_of {w j : List Nat} {p : Nat} (hp : p < w.length) (hm : w[p] ∈ j) : opn w j (.int p) = true := by
  have e : ((p : Int)).toNat = p := by omega
  simp [opn, e, List.getElem?_eq_getElem hp, hm]
structure OkW (w j : List Nat) : Prop where
  wl : w.length ≤ 1000
  ws : small w = true
  jl : j.length ≤ 26
  js : small j = true
  ja : Asc j
section
variable {Δ : Tab} (K : Ka Δ)
include K
theorem open_ok (k : Nat) {w j : List Nat} {v : D} (hv : known v = true) : Phi Δ (k + 3) 11 [⟨.fz, .str w⟩, ⟨.fz, .str j⟩, ⟨.fz, v⟩] = .ret false (.bl (opn w j v)) [⟨.fz, .str w⟩, ⟨.fz, .str j⟩, ⟨.fz, v⟩] := by
  rw [Phi_s K.h11]
  have e1 := betw2_ok K.h0 K.h1 k (v := v) (hi := (w.length : Int) - 1) hv
  cases v with
  | int i =>
    by_cases h0 : 0 ≤ i
    · by_cases h1 : i ≤ (w.length : Int) - 1
      · have hp : i.toNat < w.length := by omega
        have h2 : i < w.length := by omega
        have er : inR ((w.length : Int) - 1) (.int i) = true := by simp [inR, h0, h1]
        rw [er] at e1
        simp [ad11, opn, h0, h2, runDf, frzAt, evSs, evS, evE, evEs, Rs.bind, En.get, op1, op2, look, lookAll, toRs, toRb, truth, biD, binD, subD, ixN, cmpD, inD, pick, callR, frzDup, argsOf, argOf, outsTo, e1, List.getElem?_eq_getElem hp, allSome, backAt]
      · have hn : w[i.toNat]? = none := by
          rw [List.getElem?_eq_none]
          omega
        have er : inR ((w.length : Int) - 1) (.int i) = false := by simp [inR, h0, h1]
        rw [er] at e1
        simp [ad11, opn, hn, runDf, frzAt, evSs, evS, evE, evEs, Rs.bind, En.get, op1, op2, look, lookAll, toRs, toRb, truth, biD, binD, pick, callR, frzDup, argsOf, argOf, outsTo, e1, allSome, backAt]
    · have er : inR ((w.length : Int) - 1) (.int i) = false := by simp [inR, h0]
      rw [er] at e1
      simp [ad11, opn, h0, runDf, frzAt, evSs, evS, evE, evEs, Rs.bind, En.get, op1, op2, look, lookAll, toRs, toRb, truth, biD, binD, pick, callR, frzDup, argsOf, argOf, outsTo, e1, allSome, backAt]
  | fn n => cases hv
  | exc c v => cases hv
  | _ =>
    simp only [inR] at e1
    simp [ad11, opn, runDf, frzAt, evSs, evS, evE, evEs, Rs.bind, En.get, op1, op2, look, lookAll, toRs, toRb, truth, biD, binD, pick, callR, frzDup, argsOf, argOf, outsTo, e1, allSome, backAt]
theorem pair_ok (k : Nat) {w j : List Nat} (o : OkW w j) : Phi Δ (k + 4) 9 [⟨.fz, .str w⟩, ⟨.fz, .str j⟩] = .ret false .non [⟨.fz, .str w⟩, ⟨.fz, .str j⟩] := by
  have hL : LIM = 16777216 := rfl
  have e1 := lett_ok K.h3 (k + 1) (v := .str w) rfl
  have s1 : smallD (.str w) = true := o.ws
  rw [s1] at e1
  have c1 := chk_ok K.h4 e1
  have e2 := fOrd_ok K.h3 K.h5 K.h6 k (v := .str j) rfl (decide_eq_true (by have := o.jl; omega))
  have s2 : ordD (.str j) = true := by
    show (small j && riseD (.str j) j.length) = true
    rw [o.js, rise_asc o.ja] <;> rfl
  rw [s2] at e2
  have c2 := chk_ok K.h7 e2
  rw [Phi_s K.h9]
  simp only [Nat.add_assoc, Nat.reduceAdd] at c1 c2
  simp [ad9, runDf, frzAt, evSs, evS, evE, evEs, Rs.bind, En.get, op1, op2, look, pick, callR, frzDup, argsOf, argOf, outsTo, c1, c2, allSome, backAt]
end
/-- open places -/
def plc (w j : List Nat) : List D := ((List.range w.length).filter fun p => j.contains (w.getD p 0)).map fun (p : Nat) => .int p
theorem plc_mem {w j : List Nat} {d : D} (h : d ∈ plc w j) : ∃ p : Nat, d = .int p ∧ ∃ hp : p < w.length, w[p] ∈ j := by
  obtain ⟨p, hp, rfl⟩ := List.mem_map.mp h
  rw [List.mem_filter, List.mem_range] at hp
  refine ⟨p, rfl, hp.1, ?_⟩
  have := hp.2
  rw [List.getD_eq_getElem?_getD, List.getElem?_eq_getElem hp.1] at this
  simpa using this
theorem plc_len {w j : List Nat} : (plc w j).length ≤ w.length := by
  unfold plc
  rw [List.length_map]
  exact Nat.le_trans (List.length_filter_le _ _) (by rw [List.length_range]; exact Nat.le_refl _)
theorem filterMap_if {α β : Type} (p : α → Bool) (f : α → β) : ∀ l : List α, l.filterMap (fun a => if p a then some (f a) else none) = (l.filter p).map f
  | [] => rfl
  | a :: l => by
    rw [List.filterMap_cons, List.filter_cons]
    cases h : p a with
    | true => simp [filterMap_if p f l]
    | false => simp [filterMap_if p f l]
def plQ (j : List Nat) : D → Option D
  | .tup [d, .str [c]] => if j.contains c then some d else none
  | _ => none
theorem enum_chars (w : List Nat) : enumD (w.map fun c => .str [c]) = (List.range w.length).map fun p => .tup [.int (p : Nat), .str [w.getD p 0]] := by
  apply List.ext_getElem?
  intro i
  unfold enumD
  rw [List.getElem?_mapIdx, List.getElem?_map, List.getElem?_map]
  by_cases h : i < w.length
  · rw [List.getElem?_range h, List.getElem?_eq_getElem h]
    simp [List.getD_eq_getElem?_getD, List.getElem?_eq_getElem h]
  · rw [List.getElem?_eq_none (by omega), List.getElem?_eq_none (by rw [List.length_range]; omega)] <;> rfl
theorem plc_enum (w j : List Nat) : (enumD (w.map fun c => .str [c])).filterMap (plQ j) = plc w j := by
  rw [enum_chars, List.filterMap_map]
  unfold plc
  rw [← filterMap_if]
  rfl
def rgQ (w j : List Nat) : D → Option D
  | .int i => if j.contains (w.getD i.toNat 0) then some (.int i) else none
  | _ => none
theorem plc_rng (w j : List Nat) : (rngD 0 w.length).filterMap (rgQ w j) = plc w j := by
  unfold rngD plc
  rw [List.filterMap_map, ← filterMap_if]
  have e : ((w.length : Int) - 0).toNat = w.length := by omega
  rw [e]
  congr 1
  funext p
  show rgQ w j (.int (0 + (p : Int))) = _
  have e2 : (0 + (p : Int)).toNat = p := by omega
  unfold rgQ
  simp only [e2, Int.zero_add, Int.toNat_natCast]
section
variable {Δ : Tab} (K : Ka Δ)
include K
theorem places_ok (k : Nat) {w j : List Nat} (o : OkW w j) : Phi Δ (k + 5) 10 [⟨.fz, .str w⟩, ⟨.fz, .str j⟩] = .ret true (.lst (plc w j)) [⟨.fz, .str w⟩, ⟨.fz, .str j⟩] := by
  rw [Phi_s K.h10]
  have e1 := pair_ok K k o
  obtain ⟨ρ', e, a, b, rfl⟩ := lcGo_pure (f := lcTg [2, 3] [2, 3] (evTs (Phi Δ (k + 4)) at10_0) (evE (Phi Δ (k + 4)) ae10_0)) (q := plQ j) (fun ρ => ∃ a b : Option Sl, ρ = [some ⟨.fz, .str w⟩, some ⟨.fz, .str j⟩, a, b]) (rows := enumD (w.map fun c => .str [c])) (ρ := [some ⟨.fz, .str w⟩, some ⟨.fz, .str j⟩, none, none]) (fun d hd ρ ⟨a, b, hρ⟩ => by
    subst hρ
    rw [enum_chars] at hd
    obtain ⟨p, hp, rfl⟩ := List.mem_map.mp hd
    clear hd
    generalize w.getD p 0 = c
    refine ⟨[some ⟨.fz, .str w⟩, some ⟨.fz, .str j⟩, some ⟨.fz, .int p⟩, some ⟨.fz, .str [c]⟩], ?_, _, _, rfl⟩
    by_cases hc : c ∈ j
    · simp [lcTg, assignD, setAll, wipeE, at10_0, ae10_0, evTs, evT, evE, Rs.bind, En.get, op1, op2, look, toRb, truth, cmpD, inD, plQ, hc, keep] 
    · simp [lcTg, assignD, setAll, wipeE, at10_0, ae10_0, evTs, evT, evE, Rs.bind, En.get, op1, op2, look, toRb, truth, cmpD, inD, plQ, hc, keep]) ⟨_, _, rfl⟩
  rw [plc_enum] at e
  have hn : (plc w j).length ≤ LIM := by
    have hL : LIM = 16777216 := rfl
    have := plc_len (w := w) (j := j)
    have := o.wl
    omega
  simp [ad10, al10_0, runDf, frzAt, evSs, evS, evE, evEs, evI, Rs.bind, En.get, op1, op2, look, pick, callR, frzDup, argsOf, argOf, outsTo, enumOf, lockL, lockS, unlockL, unlockS, Md.lock, wipeE, backE, e1, e, hn, allSome, backAt]
/-! ### exact -/
def atom : D → Bool
  | .int _ => true
  | .str _ => true
  | _ => false
theorem exact_atom (k : Nat) {d : D} (h : atom d = true) : Phi Δ (k + 1) 27 [⟨.fz, d⟩, ⟨.fz, d⟩] = .ret false (.bl true) [⟨.fz, d⟩, ⟨.fz, d⟩] := by
  rw [Phi_s K.h27]
  cases d <;> simp only [atom] at h <;> (try (cases h; done)) <;>
    simp [ad27, al27_0, runDf, frzAt, evSs, evS, evT, evE, evEs, Rs.bind, En.get, op1, op2, look, lookAll, toRs, toRb, truth, biD, cmpD, eqv, flat, DEP, eqD, isNonD, allSome, backAt]
theorem exact_list (k : Nat) {xs : List D} {m1 m2 : Md} (h : xs.all atom = true) : Phi Δ (k + 2) 27 [⟨m1, .lst xs⟩, ⟨m2, .lst xs⟩] = .ret false (.bl true) [⟨m1, .lst xs⟩, ⟨m2, .lst xs⟩] := by
  rw [Phi_s K.h27]
  obtain ⟨ρ', e, a, b, rfl⟩ := lcGo_pure (f := lcTg [2, 3] [2, 3] (evTs (Phi Δ (k + 1)) at27_0) (evE (Phi Δ (k + 1)) ae27_0)) (q := fun _ => none) (fun ρ => ∃ a b : Option Sl, ρ = [some ⟨m1.lock, .lst xs⟩, some ⟨m2.lock, .lst xs⟩, a, b]) (rows := zipD xs xs) (ρ := [some ⟨m1.lock, .lst xs⟩, some ⟨m2.lock, .lst xs⟩, none, none]) (fun d hd ρ ⟨a, b, hρ⟩ => by
    subst hρ
    unfold zipD at hd
    rw [List.zipWith_self] at hd
    obtain ⟨x, hx, rfl⟩ := List.mem_map.mp hd
    rw [List.all_eq_true] at h
    have e1 := exact_atom K k (h x hx)
    refine ⟨[some ⟨m1.lock, .lst xs⟩, some ⟨m2.lock, .lst xs⟩, some ⟨.fz, x⟩, some ⟨.fz, x⟩], ?_, _, _, rfl⟩
    simp [lcTg, assignD, setAll, wipeE, at27_0, ae27_0, evTs, evT, evE, evEs, Rs.bind, En.get, op1, op2, look, truth, pick, callR, frzDup, argsOf, argOf, outsTo, e1]) ⟨_, _, rfl⟩
  have hz : (zipD xs xs).filterMap (fun _ => (none : Option D)) = [] := by simp
  rw [hz] at e
  have hL : 0 ≤ LIM := Nat.zero_le _
  cases m1 <;> cases m2 <;> simp only [Md.lock] at e <;>
    simp [ad27, al27_0, runDf, frzAt, evSs, evS, evT, evE, evEs, evI, Rs.bind, En.get, op1, op2, look, lookAll, toRs, toRb, truth, biD, cmpD, eqv, flat, flatL, flatL_nil, DEP, eqD, eqDs, isNonD, lstOf, lockL, lockS, unlockL, unlockS, Md.lock, wipeE, backE, keepAll, e, allSome, backAt]
end
end Ev

set_option Elab.async false
set_option linter.all false
set_option maxRecDepth 100000
set_option maxHeartbeats 8000000
/-! Q4: deeds, the law's first part. Own work. -/
namespace Ev
theorem OkW.one {w j : List Nat} (o : OkW w j) {p : Nat} (hp : p < w.length) : OkW w [w[p]] := by
  refine ⟨o.wl, o.ws, by simp, ?_, List.pairwise_singleton _ _⟩
  have hs := o.ws
  unfold small at hs ⊢
  rw [List.all_eq_true] at hs
  rw [List.all_cons, hs _ (List.getElem_mem hp)] <;> rfl
theorem OkW.sw {w j : List Nat} (o : OkW w j) {p : Nat} (hp : p < w.length) : OkW (sw w p) j := ⟨by rw [sw_len hp]; exact o.wl, sw_small o.ws, o.jl, o.js, o.ja⟩
theorem OkW.nil {w j : List Nat} (o : OkW w j) : OkW w [] := ⟨o.wl, o.ws, Nat.zero_le _, rfl, List.Pairwise.nil⟩
theorem plc_nil (w : List Nat) : plc w [] = [] := by
  unfold plc
  simp
section
variable {Δ : Tab} (K : Ka Δ)
include K
theorem swapped_ok (k : Nat) {w j : List Nat} (o : OkW w j) {p : Nat} (hp : p < w.length) (hm : w[p] ∈ j) : Phi Δ (k + 5) 12 [⟨.fz, .str w⟩, ⟨.fz, .str j⟩, ⟨.fz, .int p⟩] = .ret false (.str (sw w p)) [⟨.fz, .str w⟩, ⟨.fz, .str j⟩, ⟨.fz, .int p⟩] := by
  rw [Phi_s K.h12]
  have e1 := pair_ok K k o
  have e2 := open_ok K (k + 1) (w := w) (j := j) (v := .int p) rfl
  rw [opn_of hp hm] at e2
  have e3 := sw8_ok K.h8 (k + 3) hp o.wl
  simp only [Nat.add_assoc, Nat.reduceAdd] at e2 e3
  simp [ad12, runDf, frzAt, evSs, evS, evT, evE, evEs, Rs.bind, En.get, op1, op2, look, truth, pick, callR, frzDup, argsOf, argOf, outsTo, e1, e2, e3, allSome, backAt]
theorem b28_ok (k : Nat) {w j : List Nat} (o : OkW w j) {p np : Nat} (hp : p < w.length) (hm : w[p] ∈ j) {a0 a1 a3 a6 a8 : Option Sl} :
    evSs (Phi Δ (k + 5)) np ab28_1 [a0, a1, some ⟨.fz, .str j⟩, a3, some ⟨.fz, .int w.length⟩, some ⟨.fz, .str w⟩, a6, some ⟨.fz, .int p⟩, a8] = .ok .nx [a0, a1, some ⟨.fz, .str j⟩, a3, some ⟨.fz, .int w.length⟩, some ⟨.fz, .str w⟩, a6, some ⟨.fz, .int p⟩, some ⟨.fz, .str (sw w p)⟩] := by
  have e1 := swapped_ok K k o hp hm
  have e2 := sw8_ok (n := 25) K.h25 (k + 4) hp o.wl
  have e3 := jump_ok K.h26 (k + 4) hp o.ws o.wl
  have e4 := exact_atom K (k + 4) (d := .str (sw w p)) rfl
  have e5 := swapped_ok K k (o.one hp) hp (List.mem_singleton.mpr rfl)
  have hl := sw_len hp
  have hq : w.length - 1 - p < (sw w p).length := by omega
  have ha := sw_at hp
  obtain ⟨_, ha⟩ := List.getElem?_eq_some_iff.mp ha
  have e6 := swapped_ok K k (o.sw hp) hq (by rw [ha]; exact hm)
  rw [sw_sw hp] at e6
  have hz : ((w.length - 1 - p : Nat) : Int) = (w.length : Int) - 1 - (p : Int) := by omega
  rw [hz] at e6
  simp [ab28_1, evSs, evS, evT, evE, evEs, Rs.bind, En.get, op1, op2, look, toRs, toRb, truth, binD, subD, ixN, cmpD, eqv, flat, DEP, eqD, storeR, keep, pick, callR, frzDup, argsOf, argOf, outsTo, e1, e2, e3, e4, e5, e6, hp]
theorem due_ok (k : Nat) {w j : List Nat} {a0 a1 a3 a6 a8 x7 : Option Sl} : ∃ y7 : Option Sl, lcGo (lcTg [7] [7] (evTs (Phi Δ k) at28_0) (evE (Phi Δ k) ae28_0)) (rngD 0 w.length) [a0, a1, some ⟨.fz, .str j⟩, a3, some ⟨.fz, .int w.length⟩, some ⟨.fz, .str w⟩, a6, x7, a8] = .ok (plc w j) [a0, a1, some ⟨.fz, .str j⟩, a3, some ⟨.fz, .int w.length⟩, some ⟨.fz, .str w⟩, a6, y7, a8] := by
  obtain ⟨ρ', e, y, rfl⟩ := lcGo_pure (f := lcTg [7] [7] (evTs (Phi Δ k) at28_0) (evE (Phi Δ k) ae28_0)) (q := rgQ w j) (fun ρ => ∃ y : Option Sl, ρ = [a0, a1, some ⟨.fz, .str j⟩, a3, some ⟨.fz, .int w.length⟩, some ⟨.fz, .str w⟩, a6, y, a8]) (rows := rngD 0 w.length) (ρ := [a0, a1, some ⟨.fz, .str j⟩, a3, some ⟨.fz, .int w.length⟩, some ⟨.fz, .str w⟩, a6, x7, a8]) (fun d hd ρ ⟨y, hρ⟩ => by
    subst hρ
    unfold rngD at hd
    obtain ⟨p, hp, rfl⟩ := List.mem_map.mp hd
    rw [List.mem_range] at hp
    have hp : p < w.length := by omega
    rw [Int.zero_add]
    refine ⟨[a0, a1, some ⟨.fz, .str j⟩, a3, some ⟨.fz, .int w.length⟩, some ⟨.fz, .str w⟩, a6, some ⟨.fz, .int p⟩, a8], ?_, _, rfl⟩
    have hg : w.getD p 0 = w[p] := by rw [List.getD_eq_getElem?_getD, List.getElem?_eq_getElem hp] <;> rfl
    have hr : rgQ w j (.int p) = if w[p] ∈ j then some (.int p) else none := by
      unfold rgQ
      simp only [Int.toNat_natCast, hg]
      simp
    rw [hr]
    by_cases hc : w[p] ∈ j
    · simp [lcTg, assignD, wipeE, at28_0, ae28_0, evTs, evT, evE, Rs.bind, En.get, op1, op2, look, toRb, truth, subD, ixN, cmpD, inD, hp, hc, keep]
    · simp [lcTg, assignD, wipeE, at28_0, ae28_0, evTs, evT, evE, Rs.bind, En.get, op1, op2, look, toRb, truth, subD, ixN, cmpD, inD, hp, hc, keep]) ⟨_, rfl⟩
  rw [plc_rng] at e
  exact ⟨y, e⟩
theorem loop28 (k : Nat) {w j : List Nat} (o : OkW w j) {a0 a1 a3 a6 x7 a8 : Option Sl} {rows : List D} (hr : ∀ d ∈ rows, d ∈ plc w j) : ∃ y7 y8 : Option Sl,
    forGo (withTg [7] (evSs (Phi Δ (k + 5)) 1 ab28_1)) rows [a0, a1, some ⟨.fz, .str j⟩, a3, some ⟨.fz, .int w.length⟩, some ⟨.fz, .str w⟩, a6, x7, a8] = .ok .nx [a0, a1, some ⟨.fz, .str j⟩, a3, some ⟨.fz, .int w.length⟩, some ⟨.fz, .str w⟩, a6, y7, y8] := by
  obtain ⟨ρ', e, y7, y8, rfl⟩ := forGo_chk (f := withTg [7] (evSs (Phi Δ (k + 5)) 1 ab28_1)) (p := fun _ => true) (o := false) (r := .bl false) (fun ρ => ∃ y7 y8 : Option Sl, ρ = [a0, a1, some ⟨.fz, .str j⟩, a3, some ⟨.fz, .int w.length⟩, some ⟨.fz, .str w⟩, a6, y7, y8]) (rows := rows) (ρ := [a0, a1, some ⟨.fz, .str j⟩, a3, some ⟨.fz, .int w.length⟩, some ⟨.fz, .str w⟩, a6, x7, a8]) (fun d hd ρ hI => by
    obtain ⟨y7, y8, rfl⟩ := hI
    obtain ⟨p, rfl, hp, hm⟩ := plc_mem (hr d hd)
    refine ⟨_, ?_, some ⟨.fz, .int p⟩, some ⟨.fz, .str (sw w p)⟩, rfl⟩
    simp only [withTg, assignD]
    exact b28_ok K k o hp hm) ⟨_, _, rfl⟩
  simp only [if_true, (show (rows.all fun _ => true) = true by simp)] at e
  exact ⟨y7, y8, e⟩
end
end Ev

set_option Elab.async false
set_option linter.all false
set_option maxRecDepth 100000
set_option maxHeartbeats 8000000
/-! Q5: the law's first part as a whole. Own work. -/
namespace Ev
section
variable {Δ : Tab} (K : Ka Δ)
include K
theorem plc_atoms {w j : List Nat} : (plc w j).all atom = true := by
  rw [List.all_eq_true]
  intro d hd
  obtain ⟨p, rfl, _⟩ := plc_mem hd
  rfl
omit K in
theorem m28a {Φ : Fns} {g7 : D} {l j w : List Nat} {L : D} {y7 : Option Sl} {s : Int} {ds : List D} (hp1 : ds.length ≤ LIM) (hB : -B62 ≤ s ∧ s < B62) (dd : lcGo (lcTg [7] [7] (evTs Φ at28_0) (evE Φ ae28_0)) (rngD 0 s) [some ⟨.own, g7⟩, some ⟨.fz, .str l⟩, some ⟨.fz, .str j⟩, some ⟨.own, L⟩, some ⟨.fz, .int s⟩, some ⟨.fz, .str w⟩, none, none, none] = .ok ds [some ⟨.own, g7⟩, some ⟨.fz, .str l⟩, some ⟨.fz, .str j⟩, some ⟨.own, L⟩, some ⟨.fz, .int s⟩, some ⟨.fz, .str w⟩, none, y7, none]) :
   evSs Φ 1 ad28_5 [some ⟨.own, g7⟩, some ⟨.fz, .str l⟩, some ⟨.fz, .str j⟩, some ⟨.own, L⟩, some ⟨.fz, .int s⟩, some ⟨.fz, .str w⟩, none, none, none] = evSs Φ 1 ad28_6 [some ⟨.own, g7⟩, some ⟨.fz, .str l⟩, some ⟨.fz, .str j⟩, some ⟨.own, L⟩, some ⟨.fz, .int s⟩, some ⟨.fz, .str w⟩, some ⟨.own, .lst ds⟩, none, none] := by
    simp [ad28_5, al28_0, evSs, evS, evE, evI, Rs.bind, En.get, op1, look, storeR, lockL, unlockL, wipeE, backE, hB, dd, hp1]
omit K in
theorem m28b {Φ : Fns} {a0 a1 a3 a4 a7 : Option Sl} {w j : List Nat} {ds : List D} (hp2 : ds.length < LIM) (e8 : Φ 10 [⟨.fz, .str w⟩, ⟨.fz, .str j⟩] = .ret true (.lst ds) [⟨.fz, .str w⟩, ⟨.fz, .str j⟩]) (e9 : Φ 10 [⟨.fz, .str w⟩, ⟨.fz, .str []⟩] = .ret true (.lst []) [⟨.fz, .str w⟩, ⟨.fz, .str []⟩])
    (x1 : Φ 27 [⟨.own, .lst ds⟩, ⟨.own, .lst ds⟩] = .ret false (.bl true) [⟨.own, .lst ds⟩, ⟨.own, .lst ds⟩]) (x2 : Φ 27 [⟨.own, .lst []⟩, ⟨.own, .lst []⟩] = .ret false (.bl true) [⟨.own, .lst []⟩, ⟨.own, .lst []⟩]) :
    evSs Φ 1 ad28_6 [a0, a1, some ⟨.fz, .str j⟩, a3, a4, some ⟨.fz, .str w⟩, some ⟨.own, .lst ds⟩, a7, none] = evSs Φ 1 ad28_10 [a0, a1, some ⟨.fz, .str j⟩, a3, a4, some ⟨.fz, .str w⟩, some ⟨.own, .lst ds⟩, a7, some ⟨.own, .lst (ds ++ [.non])⟩] := by
    simp [ad28_6, ad28_7, ad28_8, ad28_9, evSs, evS, evT, evE, evEs, Rs.bind, En.get, op1, op2, look, lookAll, toRs, truth, storeR, keep, keepAll, pick, callR, frzDup, argsOf, argOf, outsTo, mtOk, mthR, e8, e9, x1, x2, hp2]
theorem d28_ok (k : Nat) {g : D} (hg : Gen 500 g) : ∃ g', Phi Δ (k + 7) 28 [⟨.own, g⟩] = .ret false (.bl true) [⟨.own, g'⟩] := by
  rw [Phi_s K.h28]
  obtain ⟨l, g1, hl1, hl2, hs, ha, hg1, e1⟩ := letters2_ok K.h18 K.h19 K.h23 (k + 3) (m := 480) (hg.mono (by omega)) (M := 6) (by decide)
  obtain ⟨j, g2, hg2, hjl, hjs, hja, e2⟩ := joints2_ok K (k + 3) (m := 470) (hg1.mono (by omega)) (by omega) hs ha
  obtain ⟨r1, g3, r10, r11, hg3, e3⟩ := draw_ok K.h18 K.h19 (k + 4) (m := 460) (hg2.mono (by omega)) (n := 8) (by decide)
  obtain ⟨r2, g4, r20, r21, hg4, e4⟩ := draw_ok K.h18 K.h19 (k + 4) (m := 450) (hg3.mono (by omega)) (n := 40) (by decide)
  obtain ⟨r3, g5, r30, r31, hg5, e5⟩ := draw_ok K.h18 K.h19 (k + 4) (m := 440) (hg4.mono (by omega)) (n := 301) (by decide)
  obtain ⟨i, g6, i0, i1, hg6, e6⟩ := draw_ok K.h18 K.h19 (k + 4) (m := 430) (hg5.mono (by omega)) (n := 3) (by decide)
  have hsz : ∃ s : Int, subD (.lst [.int r1, .int r2, .int r3]) (.int i) = some (.int s) ∧ 0 ≤ s ∧ s ≤ 300 := by
    have : i = 0 ∨ i = 1 ∨ i = 2 := by omega
    rcases this with rfl | rfl | rfl
    · exact ⟨r1, rfl, by omega, by omega⟩
    · exact ⟨r2, rfl, by omega, by omega⟩
    · exact ⟨r3, rfl, by omega, by omega⟩
  obtain ⟨s, es, s0, s1⟩ := hsz
  obtain ⟨w, g7, hg7, hw, hws, e7⟩ := word2_ok K.h18 K.h19 K.h22 (k + 3) (m := 20) (l := l) (s := s) (hg6.mono (by omega)) ⟨hl1, by omega⟩ hs ⟨s0, by omega⟩
  subst hw
  have o : OkW w j := ⟨by omega, hws, by omega, hjs, hja⟩
  have e8 := places_ok K (k + 1) o
  have e9 := places_ok K (k + 1) o.nil
  rw [plc_nil] at e9
  have x1 := exact_list K (k + 4) (m1 := .own) (m2 := .own) (plc_atoms K (w := w) (j := j))
  have x2 := exact_list K (k + 4) (xs := []) (m1 := .own) (m2 := .own) rfl
  have hpl := plc_len (w := w) (j := j)
  have hL : LIM = 16777216 := rfl
  have h3L : 3 ≤ LIM := by decide
  have hp1 : (plc w j).length ≤ LIM := by omega
  have hp2 : (plc w j).length < LIM := by omega
  have hB : -B62 ≤ (w.length : Int) ∧ (w.length : Int) < B62 := by
    have : B62 = 4611686018427387904 := rfl
    omega
  obtain ⟨y7, dd⟩ := due_ok K (k + 6) (w := w) (j := j) (a0 := some ⟨.own, g7⟩) (a1 := some ⟨.fz, .str l⟩) (a3 := some ⟨.own, .lst [.int r1, .int r2, .int r3]⟩) (a6 := none) (a8 := none) (x7 := none)
  simp only [Nat.add_assoc, Nat.reduceAdd] at e1 e2 e3 e4 e5 e6 e7 e8 e9 x1 x2
  have pre : evSs (Phi Δ (k + 6)) 1 ad28_0 [some ⟨.own, g⟩, none, none, none, none, none, none, none, none] = evSs (Phi Δ (k + 6)) 1 ad28_5 [some ⟨.own, g7⟩, some ⟨.fz, .str l⟩, some ⟨.fz, .str j⟩, some ⟨.own, .lst [.int r1, .int r2, .int r3]⟩, some ⟨.fz, .int w.length⟩, some ⟨.fz, .str w⟩, none, none, none] := by
    simp [ad28_0, ad28_1, ad28_2, ad28_3, ad28_4, evSs, evS, evE, evEs, Rs.bind, En.get, op1, op2, look, lookAll, toRs, es, storeR, keep, keepAll, pick, callR, frzDup, argsOf, argOf, outsTo, e1, e2, e3, e4, e5, e6, e7, h3L]
  have mid : evSs (Phi Δ (k + 6)) 1 ad28_5 [some ⟨.own, g7⟩, some ⟨.fz, .str l⟩, some ⟨.fz, .str j⟩, some ⟨.own, .lst [.int r1, .int r2, .int r3]⟩, some ⟨.fz, .int w.length⟩, some ⟨.fz, .str w⟩, none, none, none] = evSs (Phi Δ (k + 6)) 1 ad28_10 [some ⟨.own, g7⟩, some ⟨.fz, .str l⟩, some ⟨.fz, .str j⟩, some ⟨.own, .lst [.int r1, .int r2, .int r3]⟩, some ⟨.fz, .int w.length⟩, some ⟨.fz, .str w⟩, some ⟨.own, .lst (plc w j)⟩, none, some ⟨.own, .lst (plc w j ++ [.non])⟩] := by
    rw [m28a hp1 hB dd, m28b hp2 e8 e9 x1 x2]
  refine ⟨g7, ?_⟩
  have fin : ∃ rest, evSs (Phi Δ (k + 6)) 1 ad28_0 [some ⟨.own, g⟩, none, none, none, none, none, none, none, none] = .ok (.rt false (.bl true)) (some ⟨.own, g7⟩ :: rest) := by
    rw [pre, mid]
    by_cases h14 : 14 < (plc w j).length
    · have q1 : (cut (plc w j) none (some 12)).length ≤ (plc w j).length := cut_len
      have q2 : (cut (plc w j) (some ((plc w j).length - 2 : Int)) none).length ≤ (plc w j).length := cut_len
      have q3 : (cut (plc w j) none (some 12)).length + (cut (plc w j) (some ((plc w j).length - 2 : Int)) none).length ≤ 16777216 := by omega
      obtain ⟨y7, y8, le⟩ := loop28 K (k + 1) o (a0 := some ⟨.own, g7⟩) (a1 := some ⟨.fz, .str l⟩) (a3 := some ⟨.own, .lst [.int r1, .int r2, .int r3]⟩) (a6 := some ⟨.own, .lst (plc w j)⟩) (x7 := none) (a8 := some ⟨.own, .lst (plc w j ++ [.non])⟩) (rows := cut (plc w j) none (some 12) ++ cut (plc w j) (some ((plc w j).length - 2 : Int)) none) (fun d hd => by
        rcases List.mem_append.mp hd with h | h <;> exact cut_mem h)
      have h14' : (14 : Int) < (plc w j).length := by omega
      apply Exists.intro
      simp only [Nat.add_assoc, Nat.reduceAdd] at le
      simp [ad28_10, ad28_11, evSs, evS, evT, evE, evEs, evI, Rs.bind, En.get, op1, op2, look, lookAll, toRs, toRb, truth, biD, binD, cmpD, slD, bound, items, lockL, lockS, unlockL, unlockS, le, h14, h14', q3, hL]
      rfl
    · obtain ⟨y7, y8, le⟩ := loop28 K (k + 1) o (a0 := some ⟨.own, g7⟩) (a1 := some ⟨.fz, .str l⟩) (a3 := some ⟨.own, .lst [.int r1, .int r2, .int r3]⟩) (a6 := some ⟨.lk, .lst (plc w j)⟩) (x7 := none) (a8 := some ⟨.own, .lst (plc w j ++ [.non])⟩) (rows := plc w j) (fun d hd => hd)
      have h14' : ¬ (14 : Int) < (plc w j).length := by omega
      apply Exists.intro
      simp only [Nat.add_assoc, Nat.reduceAdd] at le
      simp [ad28_10, ad28_11, evSs, evS, evT, evE, evEs, evI, Rs.bind, En.get, op1, op2, look, lookAll, toRs, toRb, truth, biD, binD, cmpD, slD, bound, items, lockL, lockS, unlockL, unlockS, Md.lock, le, h14, h14']
      rfl
  obtain ⟨rest, fe⟩ := fin
  have en : ad28.np = 1 := rfl
  have en2 : ad28.ns = 9 := rfl
  have er : ad28.reb = [] := rfl
  have eb : ad28.body = ad28_0 := rfl
  simp only [runDf, en, en2, er, eb]
  simp [frzAt, fe, allSome, backAt, List.replicate]
end
end Ev

set_option Elab.async false
set_option linter.all false
set_option maxRecDepth 100000
set_option maxHeartbeats 8000000
/-! Q6: the law's first part over three generators. Own work. -/
namespace Ev
section
variable {Δ : Tab} (K : Ka Δ)
include K
theorem d34_ok (k : Nat) (ns : List Int) : Phi Δ (k + 8) 34 [⟨.fz, .scr ns⟩] = .ret false (.bl true) [⟨.fz, .scr ns⟩] := by
  rw [Phi_s K.h34]
  obtain ⟨ρ', e, s1, rfl⟩ := forGo_inv (f := withTg [1] (evSs (Phi Δ (k + 7)) 1 ab34_0)) (rows := rngD 0 3) (fun i ρ => ∃ s1 : Option Sl, ρ = [some ⟨.fz, .scr ns⟩, s1]) 0 (ρ := [some ⟨.fz, .scr ns⟩, none]) (fun i d ρ hd hI => by
    obtain ⟨rfl, hlt⟩ := rngD_at hd
    obtain ⟨s1, rfl⟩ := hI
    have hi3 : i < 3 := by omega
    obtain ⟨j, hj⟩ : ∃ j : Int, j = 0 + i := ⟨_, rfl⟩
    rw [← hj]
    obtain ⟨a, b, ha0, ha1, hb0, hb1, e1⟩ := gen_ok K.h20 K.h21 (k + 5) (ns := ns) (i := j) ⟨by omega, by omega⟩
    have hg : Gen 500 (genD a b (1000 * j)) := ⟨a, b, _, rfl, ⟨ha0, ha1⟩, ⟨hb0, by omega⟩, by omega, by omega⟩
    obtain ⟨g', e2⟩ := d28_ok K k hg
    refine ⟨[some ⟨.fz, .scr ns⟩, some ⟨.fz, .int j⟩], Or.inl ?_, _, rfl⟩
    simp only [Nat.add_assoc, Nat.reduceAdd] at e1
    simp only [withTg, assignD]
    simp [ab34_0, evSs, evS, evT, evE, evEs, Rs.bind, En.get, op1, op2, look, truth, pick, callR, frzDup, argsOf, argOf, outsTo, e1, e2]) ⟨_, rfl⟩
  have o1 : OkW [120] [120] := ⟨by decide, by decide, by decide, by decide, by unfold Asc; decide⟩
  have o2 : OkW [120, 97, 98] [120] := ⟨by decide, by decide, by decide, by decide, by unfold Asc; decide⟩
  have o3 : OkW [97, 98, 120] [120] := ⟨by decide, by decide, by decide, by decide, by unfold Asc; decide⟩
  have f1 := swapped_ok K (k + 2) o1 (p := 0) (by decide) (by decide)
  have f2 := swapped_ok K (k + 2) o2 (p := 0) (by decide) (by decide)
  have f3 := swapped_ok K (k + 2) o3 (p := 2) (by decide) (by decide)
  have z1 : sw [120] 0 = [120] := rfl
  have z2 : sw [120, 97, 98] 0 = [97, 98, 120] := rfl
  have z3 : sw [97, 98, 120] 2 = [120, 97, 98] := rfl
  rw [z1] at f1
  rw [z2] at f2
  rw [z3] at f3
  have hb : -B62 ≤ 3 ∧ (3 : Int) < B62 := by decide
  have c0 : ((0 : Nat) : Int) = 0 := rfl
  have c2 : ((2 : Nat) : Int) = 2 := rfl
  rw [c0] at f1 f2
  rw [c2] at f3
  simp only [Nat.add_assoc, Nat.reduceAdd] at f1 f2 f3
  simp [ad34, runDf, frzAt, evSs, evS, evI, evE, evEs, Rs.bind, En.get, op1, op2, look, toRb, truth, cmpD, eqv, flat, DEP, eqD, pick, callR, frzDup, argsOf, argOf, outsTo, lockL, lockS, unlockL, unlockS, hb, e, f1, f2, f3, allSome, backAt]
end
end Ev

set_option Elab.async false
set_option linter.all false
set_option maxRecDepth 100000
set_option maxHeartbeats 8000000
/-! Q7: roads. Own work. -/
namespace Ev
def plN : D → Nat
  | .int i => i.toNat
  | _ => 0
/-- the words behind the deeds -/
def pas (j : List Nat) : List Nat → List D → Option (List (List Nat))
  | _, [] => some []
  | w, d :: ds => if opn w j d then (match pas j (sw w (plN d)) ds with
    | some ws => some (sw w (plN d) :: ws)
    | none => none) else none
theorem pasGo {f : D → En → Rs Fl} {j : List Nat} {n : Nat} {E : List (List Nat) → En → Prop} (kn : D → Prop)
    (st : ∀ acc w d ρ, kn d → w.length = n → acc.length + 1 < LIM → E (acc ++ [w]) ρ → ∃ ρ', if opn w j d then f d ρ = .ok .nx ρ' ∧ E (acc ++ [w] ++ [sw w (plN d)]) ρ' else f d ρ = .ok (.rt false .non) ρ' ∧ ∃ acc', E acc' ρ') :
    ∀ (ds : List D) (acc : List (List Nat)) (w : List Nat) (ρ : En), (∀ d ∈ ds, kn d) → w.length = n → acc.length + ds.length + 1 < LIM → E (acc ++ [w]) ρ →
      ∃ ρ', match pas j w ds with
        | some ws => forGo f ds ρ = .ok .nx ρ' ∧ E (acc ++ [w] ++ ws) ρ'
        | none => forGo f ds ρ = .ok (.rt false .non) ρ' ∧ ∃ acc', E acc' ρ'
  | [], acc, w, ρ, _, _, _, h => ⟨ρ, rfl, by rw [List.append_nil]; exact h⟩
  | d :: ds, acc, w, ρ, hk, hn, hl, h => by
    obtain ⟨ρ1, h1⟩ := st acc w d ρ (hk d List.mem_cons_self) hn (by rw [List.length_cons] at hl; omega) h
    unfold pas
    by_cases ho : opn w j d = true
    · rw [if_pos ho] at h1 ⊢
      obtain ⟨e1, h2⟩ := h1
      obtain ⟨p, hp, hlt, _⟩ := opn_some ho
      have hn2 : (sw w (plN d)).length = n := by
        subst hp
        have : plN (.int (p : Int)) = p := Int.toNat_natCast p
        rw [this, sw_len hlt]
        exact hn
      obtain ⟨ρ2, h3⟩ := pasGo kn st ds (acc ++ [w]) (sw w (plN d)) ρ1 (fun x hx => hk x (List.mem_cons_of_mem _ hx)) hn2 (by rw [List.length_append]; rw [List.length_cons] at hl; simp only [List.length_cons, List.length_nil]; omega) h2
      refine ⟨ρ2, ?_⟩
      cases hp : pas j (sw w (plN d)) ds with
      | some ws =>
        rw [hp] at h3
        simp only at h3 ⊢
        refine ⟨?_, by rw [List.append_assoc] at h3 ⊢; simpa using h3.2⟩
        unfold forGo
        rw [e1]
        exact h3.1
      | none =>
        rw [hp] at h3
        simp only at h3 ⊢
        refine ⟨?_, h3.2⟩
        unfold forGo
        rw [e1]
        exact h3.1
    · rw [if_neg ho] at h1 ⊢
      refine ⟨ρ1, ?_, h1.2⟩
      unfold forGo
      rw [h1.1] <;> rfl
theorem sub_last {acc : List (List Nat)} {w : List Nat} : subD (.lst ((acc ++ [w]).map .str)) (.int (-1)) = some (.str w) := by
  have h1 : ¬ ((0 : Int) ≤ -1) := by decide
  have h2 : ((-1 : Int) + ((acc.length + 1 : Nat) : Int)).toNat = acc.length := by omega
  have h3 : -(((acc.length + 1 : Nat)) : Int) ≤ -1 := by omega
  have hl : ((acc ++ [w]).map D.str).length = acc.length + 1 := by simp
  unfold subD ixN
  simp only [hl]
  rw [if_neg h1, if_pos h3, h2]
  simp
theorem sub_len {acc : List (List Nat)} {w : List Nat} : subD (.lst ((acc ++ [w]).map .str)) (.int (((acc ++ [w]).map D.str).length - 1 : Int)) = some (.str w) := by
  have hl : ((acc ++ [w]).map D.str).length = acc.length + 1 := by simp
  have h1 : (0 : Int) ≤ ((acc.length + 1 : Nat) : Int) - 1 := by omega
  have h2 : (((acc.length + 1 : Nat) : Int) - 1).toNat = acc.length := by omega
  have h3 : ((acc.length + 1 : Nat) : Int) - 1 < ((acc.length + 1 : Nat) : Int) := by omega
  unfold subD ixN
  simp only [hl]
  rw [if_pos h1, if_pos h3, h2]
  simp
section
variable {Δ : Tab} (K : Ka Δ)
include K
theorem b13_ok (k : Nat) {np : Nat} {w j : List Nat} {d : D} {xs : List D} (hl : w.length ≤ 1000) (hx : xs.length < LIM) (hs : subD (.lst xs) (.int (-1)) = some (.str w)) (hk : known d = true) {a0 a2 : Option Sl} :
    evSs (Phi Δ (k + 3)) np ab13_0 [a0, some ⟨.fz, .str j⟩, a2, some ⟨.own, .lst xs⟩, some ⟨.fz, d⟩] = if opn w j d then .ok .nx [a0, some ⟨.fz, .str j⟩, a2, some ⟨.own, .lst (xs ++ [.str (sw w (plN d))])⟩, some ⟨.fz, d⟩] else .ok (.rt false .non) [a0, some ⟨.fz, .str j⟩, a2, some ⟨.own, .lst xs⟩, some ⟨.fz, d⟩] := by
  have e1 := open_ok K k (w := w) (j := j) (v := d) hk
  by_cases ho : opn w j d = true
  · rw [if_pos ho]
    rw [ho] at e1
    obtain ⟨p, rfl, hp, _⟩ := opn_some ho
    have e2 := sw8_ok K.h8 (k + 2) hp hl
    have hpn : plN (.int (p : Int)) = p := Int.toNat_natCast p
    rw [hpn]
    generalize (.int (p : Int) : D) = q at e1 e2 ⊢
    simp [ab13_0, evSs, evS, evT, evE, evEs, Rs.bind, En.get, op1, op2, look, lookAll, toRs, truth, hs, keep, pick, callR, frzDup, argsOf, argOf, outsTo, mtOk, mthR, e1, e2, hx]
  · rw [if_neg ho]
    have ho : opn w j d = false := by simpa using ho
    rw [ho] at e1
    simp [ab13_0, evSs, evS, evT, evE, evEs, Rs.bind, En.get, op1, op2, look, lookAll, toRs, truth, hs, keep, pick, callR, frzDup, argsOf, argOf, outsTo, e1]
theorem b31_ok (k : Nat) {np : Nat} {w j : List Nat} {d : D} {xs : List D} (hl : w.length ≤ 1000) (hx : xs.length < LIM) (hs : subD (.lst xs) (.int ((xs.length : Int) - 1)) = some (.str w)) (hk : known d = true) {a0 a2 a5 : Option Sl} :
    evSs (Phi Δ (k + 3)) np ab31_0 [a0, some ⟨.fz, .str j⟩, a2, some ⟨.own, .lst xs⟩, some ⟨.fz, d⟩, a5] = if opn w j d then .ok .nx [a0, some ⟨.fz, .str j⟩, a2, some ⟨.own, .lst (xs ++ [.str (sw w (plN d))])⟩, some ⟨.fz, d⟩, some ⟨.fz, .str w⟩] else .ok (.rt false .non) [a0, some ⟨.fz, .str j⟩, a2, some ⟨.own, .lst xs⟩, some ⟨.fz, d⟩, some ⟨.fz, .str w⟩] := by
  generalize hm : ((xs.length : Int) - 1) = m at hs
  have hb : binD .sub (.int (xs.length : Int)) (.int 1) = some (.v (.int m)) := by rw [← hm] <;> rfl
  cases d with
  | int i =>
    by_cases h0 : 0 ≤ i
    · by_cases h1 : i < w.length
      · have hp : i.toNat < w.length := by omega
        have hi : ((i.toNat : Nat) : Int) = i := by omega
        have hg : w[i.toNat]? = some w[i.toNat] := List.getElem?_eq_getElem hp
        have hsw : subD (.str w) (.int i) = some (.str [w[i.toNat]]) := by simp [subD, ixN, h0, h1, hp]
        by_cases hc : w[i.toNat] ∈ j
        · have ho : opn w j (.int i) = true := by simp [opn, h0, hg, hc]
          rw [if_pos ho]
          have e2 := sw8_ok (n := 25) K.h25 (k + 2) hp hl
          rw [hi] at e2
          simp [ab31_0, evSs, evS, evT, evE, evEs, Rs.bind, En.get, op1, op2, look, lookAll, toRs, toRb, truth, biD, hb, hs, cmpD, ltD, inD, hsw, storeR, keep, pick, callR, frzDup, argsOf, argOf, outsTo, mtOk, mthR, e2, hx, h0, h1, hp, hc, plN]
        · have ho : ¬ (opn w j (.int i) = true) := by simp [opn, h0, hg, hc]
          rw [if_neg ho]
          simp [ab31_0, evSs, evS, evT, evE, evEs, Rs.bind, En.get, op1, op2, look, lookAll, toRs, toRb, truth, biD, hb, hs, cmpD, ltD, inD, hsw, storeR, keep, h0, h1, hp, hc]
      · have hn : w[i.toNat]? = none := List.getElem?_eq_none (by omega)
        have ho : ¬ (opn w j (.int i) = true) := by simp [opn, h0, hn]
        rw [if_neg ho]
        simp [ab31_0, evSs, evS, evT, evE, evEs, Rs.bind, En.get, op1, op2, look, lookAll, toRs, toRb, truth, biD, hb, hs, cmpD, ltD, storeR, keep, h0, h1]
    · have ho : ¬ (opn w j (.int i) = true) := by simp [opn, h0]
      rw [if_neg ho]
      simp [ab31_0, evSs, evS, evT, evE, evEs, Rs.bind, En.get, op1, op2, look, lookAll, toRs, toRb, truth, biD, hb, hs, cmpD, ltD, storeR, keep, h0]
  | fn n => cases hk
  | exc c v => cases hk
  | _ => simp [ab31_0, opn, evSs, evS, evT, evE, evEs, Rs.bind, En.get, op1, op2, look, lookAll, toRs, toRb, truth, biD, hb, hs, cmpD, storeR, keep]
end
end Ev

set_option Elab.async false
set_option linter.all false
set_option maxRecDepth 100000
set_option maxHeartbeats 8000000
/-! Q8: roads that can be gone, and the road back. Own work. -/
namespace Ev
def rdL (ps : List Nat) : List D := ps.map fun (p : Nat) => .int p
def val (j : List Nat) : List Nat → List Nat → Prop
  | _, [] => True
  | w, p :: ps => (∃ hp : p < w.length, w[p] ∈ j) ∧ val j (sw w p) ps
def run (w : List Nat) (ps : List Nat) : List Nat := ps.foldl sw w
def wds : List Nat → List Nat → List (List Nat)
  | _, [] => []
  | w, p :: ps => sw w p :: wds (sw w p) ps
def bk (n : Nat) (ps : List Nat) : List Nat := ps.reverse.map fun p => n - 1 - p
theorem pas_val {j : List Nat} : ∀ {ps w : List Nat}, val j w ps → pas j w (rdL ps) = some (wds w ps)
  | [], w, _ => rfl
  | p :: ps, w, ⟨⟨hp, hm⟩, h⟩ => by
    show (if opn w j (.int p) then _ else none) = _
    have e : plN (.int (p : Int)) = p := Int.toNat_natCast p
    rw [if_pos (opn_of hp hm)]
    show (match pas j (sw w (plN (.int p))) (rdL ps) with
      | some ws => some (sw w (plN (.int p)) :: ws)
      | none => none) = _
    rw [e, pas_val h] <;> rfl
theorem run_len {j : List Nat} : ∀ {ps w : List Nat}, val j w ps → (run w ps).length = w.length
  | [], w, _ => rfl
  | p :: ps, w, ⟨⟨hp, _⟩, h⟩ => by
    show (run (sw w p) ps).length = w.length
    rw [run_len h, sw_len hp]
theorem val_lt {j : List Nat} : ∀ {ps w : List Nat}, val j w ps → ∀ p ∈ ps, p < w.length
  | [], _, _, p, h => by cases h
  | q :: ps, w, ⟨⟨hp, _⟩, h⟩, p, hm => by
    rcases List.mem_cons.mp hm with rfl | hm
    · exact hp
    · have := val_lt h p hm
      rwa [sw_len hp] at this
theorem val_app {j : List Nat} : ∀ {ps qs w : List Nat}, val j w ps → val j (run w ps) qs → val j w (ps ++ qs)
  | [], _, _, _, h => h
  | p :: ps, qs, w, ⟨h1, h⟩, h2 => ⟨h1, val_app h h2⟩
theorem run_app {w ps qs : List Nat} : run w (ps ++ qs) = run (run w ps) qs := List.foldl_append
theorem wds_app : ∀ {ps qs w : List Nat}, wds w (ps ++ qs) = wds w ps ++ wds (run w ps) qs
  | [], _, _ => rfl
  | p :: ps, qs, w => by
    show sw w p :: wds (sw w p) (ps ++ qs) = sw w p :: wds (sw w p) ps ++ _
    rw [wds_app] <;> rfl
theorem wds_len : ∀ {ps w : List Nat}, (wds w ps).length = ps.length
  | [], _ => rfl
  | p :: ps, w => by
    show (wds (sw w p) ps).length + 1 = ps.length + 1
    rw [wds_len]
theorem wds_last : ∀ {ps w : List Nat}, (w :: wds w ps).getLast (List.cons_ne_nil _ _) = run w ps
  | [], _ => rfl
  | p :: ps, w => by
    show (w :: sw w p :: wds (sw w p) ps).getLast _ = _
    rw [List.getLast_cons (List.cons_ne_nil _ _)]
    exact wds_last
theorem run_small {j : List Nat} : ∀ {ps w : List Nat}, small w = true → small (run w ps) = true
  | [], _, h => h
  | p :: ps, w, h => run_small (j := j) (ps := ps) (sw_small h)
theorem OkW.run {w j ps : List Nat} (o : OkW w j) (h : val j w ps) : OkW (run w ps) j := ⟨by rw [run_len h]; exact o.wl, run_small (j := j) o.ws, o.jl, o.js, o.ja⟩
theorem bk_cons {n p : Nat} {ps : List Nat} : bk n (p :: ps) = bk n ps ++ [n - 1 - p] := by
  unfold bk
  rw [List.reverse_cons, List.map_append] <;> rfl
theorem bk_ok {j : List Nat} : ∀ {ps w : List Nat}, val j w ps → val j (run w ps) (bk w.length ps) ∧ run (run w ps) (bk w.length ps) = w ∧ run w ps :: wds (run w ps) (bk w.length ps) = (w :: wds w ps).reverse
  | [], w, _ => ⟨trivial, rfl, rfl⟩
  | p :: ps, w, ⟨⟨hp, hm⟩, h⟩ => by
    obtain ⟨h1, h2, h3⟩ := bk_ok h
    rw [sw_len hp] at h1 h2 h3
    have e : run w (p :: ps) = run (sw w p) ps := rfl
    rw [e, bk_cons]
    have hq : w.length - 1 - p < (sw w p).length := by rw [sw_len hp]; omega
    obtain ⟨_, ha⟩ := List.getElem?_eq_some_iff.mp (sw_at hp)
    have one : val j (sw w p) [w.length - 1 - p] := ⟨⟨hq, by rw [ha]; exact hm⟩, trivial⟩
    refine ⟨val_app h1 (by rw [h2]; exact one), ?_, ?_⟩
    · rw [run_app, h2]
      show sw (sw w p) (w.length - 1 - p) = w
      exact sw_sw hp
    · rw [wds_app, h2]
      show run (sw w p) ps :: (wds _ _ ++ [sw (sw w p) (w.length - 1 - p)]) = _
      rw [sw_sw hp, ← List.cons_append, h3]
      show _ = (w :: (sw w p :: wds (sw w p) ps)).reverse
      rw [List.reverse_cons (a := w)]
theorem bk_bk {n : Nat} {ps : List Nat} (h : ∀ p ∈ ps, p < n) : bk n (bk n ps) = ps := by
  unfold bk
  rw [← List.map_reverse, List.reverse_reverse, List.map_map]
  conv => rhs; rw [← List.map_id ps]
  apply List.map_congr_left
  intro p hp
  have := h p hp
  show n - 1 - (n - 1 - p) = p
  omega
theorem bk_lt {n : Nat} {ps : List Nat} (h : ∀ p ∈ ps, p < n) : ∀ p ∈ bk n ps, p < n := by
  intro p hp
  obtain ⟨q, hq, rfl⟩ := List.mem_map.mp hp
  have := h q (List.mem_reverse.mp hq)
  omega
theorem bk_len {n : Nat} {ps : List Nat} : (bk n ps).length = ps.length := by unfold bk; simp
theorem sub_end {xs : List (List Nat)} (h : xs ≠ []) : subD (.lst (xs.map .str)) (.int (-1)) = some (.str (xs.getLast h)) := by
  have := List.dropLast_concat_getLast h
  have e := sub_last (acc := xs.dropLast) (w := xs.getLast h)
  rwa [this] at e
theorem rdL_known {ps : List Nat} : ∀ d ∈ rdL ps, known d = true := by
  intro d hd
  obtain ⟨p, _, rfl⟩ := List.mem_map.mp hd
  rfl
end Ev

set_option Elab.async false
set_option linter.all false
set_option maxRecDepth 100000
set_option maxHeartbeats 8000000
/-! Q9: the doors for roads. Own work. -/
namespace Ev
/-- what the words passed are, as a value -/
def pasD (w j : List Nat) (ds : List D) : Option (List D) := (pas j w ds).map fun ws => (w :: ws).map .str
theorem pasD_val {w j ps : List Nat} (h : val j w ps) : pasD w j (rdL ps) = some ((w :: wds w ps).map .str) := by
  unfold pasD
  rw [pas_val h] <;> rfl
theorem pas_len {j : List Nat} : ∀ {ds : List D} {w : List Nat} {ws : List (List Nat)}, pas j w ds = some ws → ws.length = ds.length
  | [], w, ws, h => by cases h; rfl
  | d :: ds, w, ws, h => by
    unfold pas at h
    split at h
    case isFalse => cases h
    split at h
    · rename_i us hu
      cases h
      rw [List.length_cons, List.length_cons, pas_len hu]
    · cases h
section
variable {Δ : Tab} (K : Ka Δ)
include K
theorem passed13 (k : Nat) {w j : List Nat} {ds : List D} {md : Md} (hl : w.length ≤ 1000) (hk : ∀ d ∈ ds, known d = true) (hd : ds.length + 1 < LIM) :
    Phi Δ (k + 4) 13 [⟨.fz, .str w⟩, ⟨.fz, .str j⟩, ⟨md, .lst ds⟩] = match pasD w j ds with
      | some xs => .ret true (.lst xs) [⟨.fz, .str w⟩, ⟨.fz, .str j⟩, ⟨md, .lst ds⟩]
      | none => .ret false .non [⟨.fz, .str w⟩, ⟨.fz, .str j⟩, ⟨md, .lst ds⟩] := by
  rw [Phi_s K.h13]
  obtain ⟨ρ', e⟩ := pasGo (f := withTg [4] (evSs (Phi Δ (k + 3)) 3 ab13_0)) (j := j) (n := w.length) (E := fun acc ρ => ∃ x4 : Option Sl, ρ = [some ⟨.fz, .str w⟩, some ⟨.fz, .str j⟩, some ⟨md.lock, .lst ds⟩, some ⟨.own, .lst (acc.map .str)⟩, x4]) (fun d => known d = true)
    (fun acc u d ρ hk hn ha ⟨x4, hρ⟩ => by
      subst hρ
      have hb := b13_ok K k (np := 3) (w := u) (j := j) (d := d) (xs := (acc ++ [u]).map .str) (by omega) (by simp; omega) sub_last hk (a0 := some ⟨.fz, .str w⟩) (a2 := some ⟨md.lock, .lst ds⟩)
      by_cases ho : opn u j d = true
      · rw [if_pos ho] at hb
        refine ⟨[some ⟨.fz, .str w⟩, some ⟨.fz, .str j⟩, some ⟨md.lock, .lst ds⟩, some ⟨.own, .lst ((acc ++ [u] ++ [sw u (plN d)]).map .str)⟩, some ⟨.fz, d⟩], ?_⟩
        rw [if_pos ho]
        refine ⟨?_, some ⟨.fz, d⟩, rfl⟩
        simp only [withTg, assignD]
        rw [List.map_append (l₁ := acc ++ [u])]
        exact hb
      · rw [if_neg ho] at hb
        refine ⟨[some ⟨.fz, .str w⟩, some ⟨.fz, .str j⟩, some ⟨md.lock, .lst ds⟩, some ⟨.own, .lst ((acc ++ [u]).map .str)⟩, some ⟨.fz, d⟩], ?_⟩
        rw [if_neg ho]
        refine ⟨?_, acc ++ [u], some ⟨.fz, d⟩, rfl⟩
        simp only [withTg, assignD]
        exact hb) ds [] w [some ⟨.fz, .str w⟩, some ⟨.fz, .str j⟩, some ⟨md.lock, .lst ds⟩, some ⟨.own, .lst [.str w]⟩, none] hk rfl (by simpa using hd) ⟨none, rfl⟩
  have h1 : 1 ≤ LIM := by decide
  unfold pasD
  cases hp : pas j w ds with
  | some ws =>
    rw [hp] at e
    obtain ⟨e, x4, rfl⟩ := e
    simp only [List.nil_append, List.cons_append, List.map_cons] at e
    cases md <;> simp only [Md.lock] at e <;>
      simp [ad13, runDf, frzAt, evSs, evS, evT, evE, evEs, evI, Rs.bind, En.get, op1, look, lookAll, toRs, truth, biD, items, lockL, lockS, unlockL, unlockS, Md.lock, storeR, keep, keepAll, e, h1, allSome, backAt]
  | none =>
    rw [hp] at e
    obtain ⟨e, acc', x4, rfl⟩ := e
    cases md <;> simp only [Md.lock] at e <;>
      simp [ad13, runDf, frzAt, evSs, evS, evT, evE, evEs, evI, Rs.bind, En.get, op1, look, lookAll, toRs, truth, biD, items, lockL, lockS, unlockL, unlockS, Md.lock, storeR, keep, keepAll, e, h1, allSome, backAt]
theorem passed31 (k : Nat) {w j : List Nat} {ds : List D} {md : Md} (hl : w.length ≤ 1000) (hk : ∀ d ∈ ds, known d = true) (hd : ds.length + 1 < LIM) :
    Phi Δ (k + 4) 31 [⟨.fz, .str w⟩, ⟨.fz, .str j⟩, ⟨md, .lst ds⟩] = match pasD w j ds with
      | some xs => .ret true (.lst xs) [⟨.fz, .str w⟩, ⟨.fz, .str j⟩, ⟨md, .lst ds⟩]
      | none => .ret false .non [⟨.fz, .str w⟩, ⟨.fz, .str j⟩, ⟨md, .lst ds⟩] := by
  rw [Phi_s K.h31]
  obtain ⟨ρ', e⟩ := pasGo (f := withTg [4] (evSs (Phi Δ (k + 3)) 3 ab31_0)) (j := j) (n := w.length) (E := fun acc ρ => ∃ x4 x5 : Option Sl, ρ = [some ⟨.fz, .str w⟩, some ⟨.fz, .str j⟩, some ⟨md.lock, .lst ds⟩, some ⟨.own, .lst (acc.map .str)⟩, x4, x5]) (fun d => known d = true)
    (fun acc u d ρ hk hn ha ⟨x4, x5, hρ⟩ => by
      subst hρ
      have hb := b31_ok K k (np := 3) (w := u) (j := j) (d := d) (xs := (acc ++ [u]).map .str) (by omega) (by simp; omega) sub_len hk (a0 := some ⟨.fz, .str w⟩) (a2 := some ⟨md.lock, .lst ds⟩) (a5 := x5)
      by_cases ho : opn u j d = true
      · rw [if_pos ho] at hb
        refine ⟨[some ⟨.fz, .str w⟩, some ⟨.fz, .str j⟩, some ⟨md.lock, .lst ds⟩, some ⟨.own, .lst ((acc ++ [u] ++ [sw u (plN d)]).map .str)⟩, some ⟨.fz, d⟩, some ⟨.fz, .str u⟩], ?_⟩
        rw [if_pos ho]
        refine ⟨?_, some ⟨.fz, d⟩, some ⟨.fz, .str u⟩, rfl⟩
        simp only [withTg, assignD]
        rw [List.map_append (l₁ := acc ++ [u])]
        exact hb
      · rw [if_neg ho] at hb
        refine ⟨[some ⟨.fz, .str w⟩, some ⟨.fz, .str j⟩, some ⟨md.lock, .lst ds⟩, some ⟨.own, .lst ((acc ++ [u]).map .str)⟩, some ⟨.fz, d⟩, some ⟨.fz, .str u⟩], ?_⟩
        rw [if_neg ho]
        refine ⟨?_, acc ++ [u], some ⟨.fz, d⟩, some ⟨.fz, .str u⟩, rfl⟩
        simp only [withTg, assignD]
        exact hb) ds [] w [some ⟨.fz, .str w⟩, some ⟨.fz, .str j⟩, some ⟨md.lock, .lst ds⟩, some ⟨.own, .lst [.str w]⟩, none, none] hk rfl (by simpa using hd) ⟨none, none, rfl⟩
  have h1 : 1 ≤ LIM := by decide
  unfold pasD
  cases hp : pas j w ds with
  | some ws =>
    rw [hp] at e
    obtain ⟨e, x4, x5, rfl⟩ := e
    simp only [List.nil_append, List.cons_append, List.map_cons] at e
    cases md <;> simp only [Md.lock] at e <;>
      simp [ad31, runDf, frzAt, evSs, evS, evT, evE, evEs, evI, Rs.bind, En.get, op1, look, lookAll, toRs, truth, biD, items, lockL, lockS, unlockL, unlockS, Md.lock, storeR, keep, keepAll, e, h1, allSome, backAt]
  | none =>
    rw [hp] at e
    obtain ⟨e, acc', x4, x5, rfl⟩ := e
    cases md <;> simp only [Md.lock] at e <;>
      simp [ad31, runDf, frzAt, evSs, evS, evT, evE, evEs, evI, Rs.bind, En.get, op1, look, lookAll, toRs, truth, biD, items, lockL, lockS, unlockL, unlockS, Md.lock, storeR, keep, keepAll, e, h1, allSome, backAt]
/-- a value that is no list -/
def noList : D → Bool
  | .lst _ => false
  | .scr _ => false
  | d => known d
theorem passed13n (k : Nat) {w j : List Nat} {v : D} (h : noList v = true) : Phi Δ (k + 1) 13 [⟨.fz, .str w⟩, ⟨.fz, .str j⟩, ⟨.fz, v⟩] = .ret false .non [⟨.fz, .str w⟩, ⟨.fz, .str j⟩, ⟨.fz, v⟩] := by
  rw [Phi_s K.h13]
  cases v <;> simp only [noList, known] at h <;> (try (cases h; done)) <;>
    simp [ad13, runDf, frzAt, evSs, evS, evT, evE, evEs, Rs.bind, En.get, op1, look, lookAll, toRs, truth, biD, allSome, backAt]
theorem isRoad_ok (k : Nat) {w j : List Nat} {ds : List D} (o : OkW w j) (hk : ∀ d ∈ ds, known d = true) (hd : ds.length + 1 < LIM) :
    Phi Δ (k + 5) 14 [⟨.fz, .str w⟩, ⟨.fz, .str j⟩, ⟨.fz, .lst ds⟩] = .ret false (.bl (pasD w j ds).isSome) [⟨.fz, .str w⟩, ⟨.fz, .str j⟩, ⟨.fz, .lst ds⟩] := by
  rw [Phi_s K.h14]
  have e1 := pair_ok K k o
  have e2 := passed13 K k (j := j) (md := .fz) o.wl hk hd
  cases hp : pasD w j ds <;> rw [hp] at e2 <;> simp only at e2 <;>
    simp [ad14, runDf, frzAt, evSs, evS, evE, evEs, Rs.bind, En.get, op1, op2, look, toRb, cmpD, isNonD, pick, callR, frzDup, argsOf, argOf, outsTo, e1, e2, allSome, backAt]
theorem isRoad_no (k : Nat) {w j : List Nat} {v : D} (o : OkW w j) (h : noList v = true) :
    Phi Δ (k + 5) 14 [⟨.fz, .str w⟩, ⟨.fz, .str j⟩, ⟨.fz, v⟩] = .ret false (.bl false) [⟨.fz, .str w⟩, ⟨.fz, .str j⟩, ⟨.fz, v⟩] := by
  rw [Phi_s K.h14]
  have e1 := pair_ok K k o
  have e2 := passed13n K (k + 3) (w := w) (j := j) h
  simp only [Nat.add_assoc, Nat.reduceAdd] at e2
  simp [ad14, runDf, frzAt, evSs, evS, evE, evEs, Rs.bind, En.get, op1, op2, look, toRb, cmpD, isNonD, pick, callR, frzDup, argsOf, argOf, outsTo, e1, e2, allSome, backAt]
theorem rdL_len {ps : List Nat} : (rdL ps).length = ps.length := List.length_map _
theorem passed_ok (k : Nat) {w j ps : List Nat} {md : Md} (o : OkW w j) (h : val j w ps) (hd : ps.length + 1 < LIM) :
    Phi Δ (k + 5) 15 [⟨.fz, .str w⟩, ⟨.fz, .str j⟩, ⟨md, .lst (rdL ps)⟩] = .ret true (.lst ((w :: wds w ps).map .str)) [⟨.fz, .str w⟩, ⟨.fz, .str j⟩, ⟨md, .lst (rdL ps)⟩] := by
  rw [Phi_s K.h15]
  have e1 := pair_ok K k o
  have e2 := passed13 K k (j := j) (ds := rdL ps) (md := md) o.wl rdL_known (by unfold rdL; rw [List.length_map]; exact hd)
  rw [pasD_val h] at e2
  simp only at e2
  generalize (w :: wds w ps).map D.str = xs at e2 ⊢
  generalize rdL ps = rs at e2 ⊢
  simp [ad15, runDf, frzAt, evSs, evS, evT, evE, evEs, Rs.bind, En.get, op1, op2, look, toRb, truth, cmpD, isNonD, storeR, keep, pick, callR, frzDup, argsOf, argOf, outsTo, e1, e2, allSome, backAt]
theorem done_ok (k : Nat) {w j ps : List Nat} {md : Md} (o : OkW w j) (h : val j w ps) (hd : ps.length + 1 < LIM) :
    Phi Δ (k + 6) 16 [⟨.fz, .str w⟩, ⟨.fz, .str j⟩, ⟨md, .lst (rdL ps)⟩] = .ret false (.str (run w ps)) [⟨.fz, .str w⟩, ⟨.fz, .str j⟩, ⟨md, .lst (rdL ps)⟩] := by
  rw [Phi_s K.h16]
  have e2 := passed_ok K k (md := md) o h hd
  have e3 := sub_end (List.cons_ne_nil w (wds w ps))
  rw [wds_last] at e3
  generalize (w :: wds w ps).map D.str = xs at e2 e3 ⊢
  generalize rdL ps = rs at e2 ⊢
  simp [ad16, runDf, frzAt, evSs, evS, evE, evEs, Rs.bind, En.get, op1, op2, look, pick, callR, frzDup, argsOf, argOf, outsTo, e2, e3, allSome, backAt]
end
end Ev

set_option Elab.async false
set_option linter.all false
set_option maxRecDepth 100000
set_option maxHeartbeats 8000000
/-! Q10: the road back. Own work. -/
namespace Ev
def bkQ (n : Int) : D → Option D
  | .int i => some (.int (n - 1 - i))
  | _ => none
theorem bkQ_map {n : Nat} : ∀ {ps : List Nat}, (∀ p ∈ ps, p < n) → (rdL ps).filterMap (bkQ n) = rdL (ps.map fun p => n - 1 - p)
  | [], _ => rfl
  | p :: ps, h => by
    have hp := h p List.mem_cons_self
    have ih := bkQ_map fun q hq => h q (List.mem_cons_of_mem _ hq)
    show D.int ((n : Int) - 1 - p) :: (rdL ps).filterMap (bkQ n) = D.int ((n - 1 - p : Nat) : Int) :: rdL (ps.map fun p => n - 1 - p)
    rw [ih]
    congr 2
    omega
theorem rdL_rev {ps : List Nat} : (rdL ps).reverse = rdL ps.reverse := by unfold rdL; rw [List.map_reverse]
section
variable {Δ : Tab} (K : Ka Δ)
include K
omit K in
theorem m17 {Φ : Fns} {n : Int} {rs bs : List D} {md : Md} {x1 x2 : Option Sl} (e0 : Φ 2 [⟨.fz, .int n⟩, ⟨.fz, .int 0⟩, ⟨.fz, .int 300⟩] = .ret false .non [⟨.fz, .int n⟩, ⟨.fz, .int 0⟩, ⟨.fz, .int 300⟩])
    (e1 : lcGo (lcTg [2] [2] (evTs Φ at17_0) (evE Φ ae17_0)) rs [some ⟨.fz, .int n⟩, some ⟨md.lock, .lst rs⟩, none] = .ok [] [some ⟨.fz, .int n⟩, some ⟨md.lock, .lst rs⟩, x1])
    (e2 : lcGo (lcTg [2] [2] (evTs Φ .nil) (evE Φ ae17_1)) rs.reverse [some ⟨.fz, .int n⟩, some ⟨md.lock, .lst rs⟩, none] = .ok bs [some ⟨.fz, .int n⟩, some ⟨md.lock, .lst rs⟩, x2]) (hb : bs.length ≤ LIM) :
    runDf Φ ad17 [⟨.fz, .int n⟩, ⟨md, .lst rs⟩] = .ret true (.lst bs) [⟨.fz, .int n⟩, ⟨md, .lst rs⟩] := by
  have hL : 0 ≤ LIM := Nat.zero_le _
  cases md <;> simp only [Md.lock] at e1 e2 <;>
    simp [ad17, al17_0, al17_1, runDf, frzAt, evSs, evS, evT, evE, evEs, evI, Rs.bind, En.get, op1, op2, look, lookAll, toRs, toRb, truth, biD, items, lstOf, cmpD, eqv, flat, flatL_nil, DEP, eqD, eqDs, lockL, lockS, unlockL, unlockS, Md.lock, wipeE, backE, pick, callR, frzDup, argsOf, argOf, outsTo, keepAll, e0, e1, e2, hb, allSome, backAt]
theorem back_ok (k : Nat) {n : Nat} {ps : List Nat} {md : Md} (hn : n ≤ 300) (h : ∀ p ∈ ps, p < n) (hd : ps.length ≤ LIM) :
    Phi Δ (k + 4) 17 [⟨.fz, .int n⟩, ⟨md, .lst (rdL ps)⟩] = .ret true (.lst (rdL (bk n ps))) [⟨.fz, .int n⟩, ⟨md, .lst (rdL ps)⟩] := by
  rw [Phi_s K.h17]
  have b := betw2_ok K.h0 K.h1 k (v := .int (n : Int)) (hi := 300) rfl
  have hr : inR 300 (.int (n : Int)) = true := by
    have : ((n : Int) ≤ 300) := by omega
    simp [inR, this]
  rw [hr] at b
  have e0 : Phi Δ (k + 3) 2 [⟨.fz, .int n⟩, ⟨.fz, .int 0⟩, ⟨.fz, .int 300⟩] = .ret false .non [⟨.fz, .int n⟩, ⟨.fz, .int 0⟩, ⟨.fz, .int 300⟩] := by
    rw [Phi_s K.h2]
    generalize (n : Int) = m at b ⊢
    simp [ad2, runDf, frzAt, evSs, evS, evT, evE, evEs, Rs.bind, En.get, op1, look, truth, pick, callR, frzDup, argsOf, argOf, outsTo, b, allSome, backAt]
  obtain ⟨ρ1, e1, x1, rfl⟩ := lcGo_pure (f := lcTg [2] [2] (evTs (Phi Δ (k + 3)) at17_0) (evE (Phi Δ (k + 3)) ae17_0)) (q := fun _ => none) (fun ρ => ∃ x : Option Sl, ρ = [some ⟨.fz, .int n⟩, some ⟨md.lock, .lst (rdL ps)⟩, x]) (rows := rdL ps) (ρ := [some ⟨.fz, .int n⟩, some ⟨md.lock, .lst (rdL ps)⟩, none]) (fun d hd ρ ⟨x, hρ⟩ => by
    subst hρ
    obtain ⟨p, hp, rfl⟩ := List.mem_map.mp hd
    have hp := h p hp
    have b2 := betw2_ok K.h0 K.h1 (k + 1) (v := .int (p : Int)) (hi := (n : Int) - 1) rfl
    have hr2 : inR ((n : Int) - 1) (.int (p : Int)) = true := by
      have : ((p : Int) ≤ (n : Int) - 1) := by omega
      simp [inR, this]
    rw [hr2] at b2
    refine ⟨[some ⟨.fz, .int n⟩, some ⟨md.lock, .lst (rdL ps)⟩, some ⟨.fz, .int p⟩], ?_, _, rfl⟩
    simp only [Nat.add_assoc, Nat.reduceAdd] at b2
    generalize (n : Int) = a at b2 ⊢
    generalize (p : Int) = c at b2 ⊢
    simp [lcTg, assignD, wipeE, at17_0, ae17_0, evTs, evT, evE, evEs, Rs.bind, En.get, op1, op2, look, toRs, truth, binD, pick, callR, frzDup, argsOf, argOf, outsTo, b2]) ⟨none, rfl⟩
  obtain ⟨ρ2, e2, x2, rfl⟩ := lcGo_pure (f := lcTg [2] [2] (evTs (Phi Δ (k + 3)) .nil) (evE (Phi Δ (k + 3)) ae17_1)) (q := bkQ n) (fun ρ => ∃ x : Option Sl, ρ = [some ⟨.fz, .int n⟩, some ⟨md.lock, .lst (rdL ps)⟩, x]) (rows := (rdL ps).reverse) (ρ := [some ⟨.fz, .int n⟩, some ⟨md.lock, .lst (rdL ps)⟩, none]) (fun d hd ρ ⟨x, hρ⟩ => by
    subst hρ
    obtain ⟨p, hp, rfl⟩ := List.mem_map.mp (List.mem_reverse.mp hd)
    refine ⟨[some ⟨.fz, .int n⟩, some ⟨md.lock, .lst (rdL ps)⟩, some ⟨.fz, .int p⟩], ?_, _, rfl⟩
    generalize (n : Int) = a
    generalize (p : Int) = c
    simp [lcTg, assignD, wipeE, ae17_1, bkQ, evTs, evT, evE, evEs, Rs.bind, En.get, op1, op2, look, toRs, truth, binD, keep]) ⟨none, rfl⟩
  have hz : (rdL ps).filterMap (fun _ => (none : Option D)) = [] := by simp
  rw [hz] at e1
  rw [rdL_rev, bkQ_map fun p hp => h p (List.mem_reverse.mp hp)] at e2
  have e2' : lcGo (lcTg [2] [2] (evTs (Phi Δ (k + 3)) .nil) (evE (Phi Δ (k + 3)) ae17_1)) (rdL ps).reverse [some ⟨.fz, .int n⟩, some ⟨md.lock, .lst (rdL ps)⟩, none] = .ok (rdL (bk n ps)) [some ⟨.fz, .int n⟩, some ⟨md.lock, .lst (rdL ps)⟩, x2] := by
    rw [rdL_rev]
    exact e2
  exact m17 e0 e1 e2' (by unfold rdL; rw [List.length_map, bk_len]; exact hd)
end
end Ev

set_option Elab.async false
set_option linter.all false
set_option maxRecDepth 100000
set_option maxHeartbeats 8000000
/-! Q11: the law's drawn roads. Own work. -/
namespace Ev
theorem run_snoc {w ps : List Nat} {p : Nat} : run w (ps ++ [p]) = sw (run w ps) p := by rw [run_app] <;> rfl
theorem rdL_snoc {ps : List Nat} {p : Nat} : rdL (ps ++ [p]) = rdL ps ++ [.int p] := by unfold rdL; rw [List.map_append] <;> rfl
theorem nx_ev {Φ : Fns} {np : Nat} {s : S} {ss : Ss} {ρ ρ' : En} (h : evS Φ np s ρ = .ok .nx ρ') : evSs Φ np (.cons s ss) ρ = evSs Φ np ss ρ' := by
  show ((evS Φ np s ρ).bind fun c ρ => match c with
    | .nx => evSs Φ np ss ρ
    | c => .ok c ρ) = _
  rw [h] <;> rfl
theorem then_ev {Φ : Fns} {np : Nat} {t : T} {a b : Ss} {ρ ρ' : En} (h : evT Φ t ρ = .ok true ρ') : evS Φ np (.iff t a b) ρ = evSs Φ np a ρ' := by
  show ((evT Φ t ρ).bind fun c ρ => if c then evSs Φ np a ρ else evSs Φ np b ρ) = _
  rw [h] <;> rfl
theorem else_ev {Φ : Fns} {np : Nat} {t : T} {a b : Ss} {ρ ρ' : En} (h : evT Φ t ρ = .ok false ρ') : evS Φ np (.iff t a b) ρ = evSs Φ np b ρ' := by
  show ((evT Φ t ρ).bind fun c ρ => if c then evSs Φ np a ρ else evSs Φ np b ρ) = _
  rw [h] <;> rfl
theorem nil_ev {Φ : Fns} {np : Nat} {ρ : En} : evSs Φ np .nil ρ = .ok .nx ρ := rfl
theorem set_ev {Φ : Fns} {np i : Nat} {e : E} {ρ ρ1 ρ2 : En} {x : Vr} (h : evE Φ e ρ = .ok x ρ1) (h2 : storeR i x ρ1 = .ok () ρ2) : evS Φ np (.set i e) ρ = .ok .nx ρ2 := by
  show ((evE Φ e ρ).bind fun x ρ => (storeR i x ρ).bind fun _ ρ => Rs.ok Fl.nx ρ) = _
  rw [h]
  show ((storeR i x ρ1).bind fun _ ρ => Rs.ok Fl.nx ρ) = _
  rw [h2] <;> rfl
theorem expr_ev {Φ : Fns} {np : Nat} {e : E} {ρ ρ1 : En} {x : Vr} (h : evE Φ e ρ = .ok x ρ1) : evS Φ np (.expr e) ρ = .ok .nx ρ1 := by
  show ((evE Φ e ρ).bind fun _ ρ => Rs.ok Fl.nx ρ) = _
  rw [h] <;> rfl
/-- a comprehension's value, from what its turns do -/
theorem lc_ev {Φ : Fns} {elt : E} {tg own : List Nat} {it : Wk} {ts : Ts} {ρ ρ1 ρ2 : En} {rows ds : List D} {rs : List Vr} (h1 : evI Φ it ρ = .ok (rows, rs) ρ1) (h2 : lcGo (lcTg tg own (evTs Φ ts) (evE Φ elt)) rows (wipeE (lockL ρ1 rs) own) = .ok ds ρ2) (h3 : ds.length ≤ LIM) :
    evE Φ (.lc elt tg it ts own) ρ = .ok (.o (.lst ds)) (unlockL ρ1 (backE (lockL ρ1 rs) ρ2 own) rs) := by
  unfold evE
  rw [h1]
  simp only [Rs.bind]
  rw [h2]
  simp only
  rw [if_pos h3]
theorem rng_ev {Φ : Fns} {a : E} {ρ ρ1 : En} {x : Vr} {n : Int} (h1 : evE Φ a ρ = .ok x ρ1) (h2 : look ρ1 x = some (.int n)) (hB : -B62 ≤ n ∧ n < B62) : evI Φ (.rng1 a) ρ = .ok (rngD 0 n, []) ρ1 := by
  unfold evI
  rw [h1]
  simp only [Rs.bind]
  unfold op1
  rw [h2]
  simp only
  rw [if_pos hB]
theorem len_ev {Φ : Fns} {ρ : En} {i : Nat} {s : Sl} {n : Int} (h : ρ.get i = some s) (hn : biD .len [s.d] = some (.v (.int n))) : evE Φ (.bi .len (.cons (.var i) .nil)) ρ = .ok (.v (.int n)) ρ := by
  simp [evE, evEs, Rs.bind, h, lookAll, look, hn, toRs]
theorem l30_ev {Φ : Fns} {a0 a1 a2 a3 a4 x6 x7 x8 y8 : Option Sl} {t : List Nat} {n : Int} {ds : List D} (hn : biD .len [.str t] = some (.v (.int n))) (hB : -B62 ≤ n ∧ n < B62) (hds : ds.length ≤ LIM)
    (e1 : lcGo (lcTg [8] [8] (evTs Φ at30_0) (evE Φ ae30_0)) (rngD 0 n) [a0, a1, a2, a3, a4, some ⟨.fz, .str t⟩, x6, x7, none] = .ok ds [a0, a1, a2, a3, a4, some ⟨.fz, .str t⟩, x6, x7, y8]) :
    evE Φ al30_0 [a0, a1, a2, a3, a4, some ⟨.fz, .str t⟩, x6, x7, x8] = .ok (.o (.lst ds)) [a0, a1, a2, a3, a4, some ⟨.fz, .str t⟩, x6, x7, x8] := by
  have h := lc_ev (elt := ae30_0) (tg := [8]) (own := [8]) (ts := at30_0) (rng_ev (len_ev (Φ := Φ) (ρ := [a0, a1, a2, a3, a4, some ⟨.fz, .str t⟩, x6, x7, x8]) (i := 5) rfl hn) rfl hB) e1 hds
  unfold al30_0
  rw [h]
  cases x8 <;> rfl
theorem m30a {Φ : Fns} {np : Nat} {a0 a1 a2 a3 a4 a5 x6 x7 x8 : Option Sl} (e1 : evE Φ al30_0 [a0, a1, a2, a3, a4, a5, x6, x7, x8] = .ok (.o (.lst [])) [a0, a1, a2, a3, a4, a5, x6, x7, x8]) :
    evSs Φ np ab30_1 [a0, a1, a2, a3, a4, a5, x6, x7, x8] = .ok .nx [a0, a1, a2, a3, a4, a5, x6, some ⟨.own, .lst []⟩, x8] := by
  have hL : 0 ≤ LIM := Nat.zero_le _
  simp [ab30_1, evSs, evS, evT, evE, evEs, Rs.bind, En.get, op1, op2, look, toRb, truth, cmpD, eqv, flat, flatL_nil, DEP, eqD, eqDs, storeR, keepAll, e1]
theorem app_ev {ρ : En} {i : Nat} {xs : List D} {d : D} (h1 : ρ.get i = some ⟨.own, .lst xs⟩) (h2 : xs.length < LIM) : mthR .append (.s i) [.v d] ρ = .ok (.v .non) (ρ.set i (some ⟨.own, .lst (xs ++ [d])⟩)) := by
  unfold mthR
  simp only [keep, Rs.bind, h1]
  rw [if_pos h2]
theorem m30b {Φ : Fns} {np : Nat} {a1 a2 a3 x6 x7 x8 : Option Sl} {g g' : D} {rs ds : List D} {d : D} {t t' : List Nat} {m r q q1 : Int}
    (e1 : evE Φ al30_0 [some ⟨.own, g⟩, a1, a2, a3, some ⟨.own, .lst rs⟩, some ⟨.fz, .str t⟩, x6, x7, x8] = .ok (.o (.lst ds)) [some ⟨.own, g⟩, a1, a2, a3, some ⟨.own, .lst rs⟩, some ⟨.fz, .str t⟩, x6, x7, x8])
    (hne : cmpD .ne (.lst ds) (.lst []) = some true) (hm : biD .len [.lst ds] = some (.v (.int m))) (e2 : Φ 19 [⟨.own, g⟩, ⟨.fz, .int m⟩] = .ret false (.int r) [⟨.own, g'⟩, ⟨.fz, .int m⟩]) (hs : subD (.lst ds) (.int r) = some d)
    (hrs : rs.length < LIM) (hq : biD .len [.lst (rs ++ [d])] = some (.v (.int q))) (hq1 : binD .sub (.int q) (.int 1) = some (.v (.int q1))) (hs2 : subD (.lst (rs ++ [d])) (.int q1) = some d) (e3 : Φ 25 [⟨.fz, .str t⟩, ⟨.fz, d⟩] = .ret false (.str t') [⟨.fz, .str t⟩, ⟨.fz, d⟩]) :
    evSs Φ np ab30_1 [some ⟨.own, g⟩, a1, a2, a3, some ⟨.own, .lst rs⟩, some ⟨.fz, .str t⟩, x6, x7, x8] = .ok .nx [some ⟨.own, g'⟩, a1, a2, a3, some ⟨.own, .lst (rs ++ [d])⟩, some ⟨.fz, .str t'⟩, x6, some ⟨.own, .lst ds⟩, x8] := by
  have h1 : evS Φ np (.set 7 al30_0) [some ⟨.own, g⟩, a1, a2, a3, some ⟨.own, .lst rs⟩, some ⟨.fz, .str t⟩, x6, x7, x8] = .ok .nx [some ⟨.own, g⟩, a1, a2, a3, some ⟨.own, .lst rs⟩, some ⟨.fz, .str t⟩, x6, some ⟨.own, .lst ds⟩, x8] := set_ev e1 rfl
  have h2 : evT Φ (.val (.cmp .ne (.var 7) (.lst .nil))) [some ⟨.own, g⟩, a1, a2, a3, some ⟨.own, .lst rs⟩, some ⟨.fz, .str t⟩, x6, some ⟨.own, .lst ds⟩, x8] = .ok true [some ⟨.own, g⟩, a1, a2, a3, some ⟨.own, .lst rs⟩, some ⟨.fz, .str t⟩, x6, some ⟨.own, .lst ds⟩, x8] := by
    simp [evT, evE, evEs, Rs.bind, En.get, op1, op2, look, toRb, truth, hne, keepAll]
  have h3 : evE Φ (.sub (.var 7) (.call 19 [0, 1] (.cons (.var 0) (.cons (.bi .len (.cons (.var 7) .nil)) .nil)) .nil)) [some ⟨.own, g⟩, a1, a2, a3, some ⟨.own, .lst rs⟩, some ⟨.fz, .str t⟩, x6, some ⟨.own, .lst ds⟩, x8] = .ok (.v d) [some ⟨.own, g'⟩, a1, a2, a3, some ⟨.own, .lst rs⟩, some ⟨.fz, .str t⟩, x6, some ⟨.own, .lst ds⟩, x8] := by
    simp [evE, evEs, Rs.bind, En.get, op2, look, lookAll, toRs, hm, hs, pick, callR, frzDup, argsOf, argOf, outsTo, e2]
  have hap : mthR .append (.s 4) [.v d] [some ⟨.own, g'⟩, a1, a2, a3, some ⟨.own, .lst rs⟩, some ⟨.fz, .str t⟩, x6, some ⟨.own, .lst ds⟩, x8] = .ok (.v .non) [some ⟨.own, g'⟩, a1, a2, a3, some ⟨.own, .lst (rs ++ [d])⟩, some ⟨.fz, .str t⟩, x6, some ⟨.own, .lst ds⟩, x8] := app_ev rfl hrs
  have h4 : evE Φ (.mth .append (.var 4) (.cons (.sub (.var 7) (.call 19 [0, 1] (.cons (.var 0) (.cons (.bi .len (.cons (.var 7) .nil)) .nil)) .nil)) .nil)) [some ⟨.own, g⟩, a1, a2, a3, some ⟨.own, .lst rs⟩, some ⟨.fz, .str t⟩, x6, some ⟨.own, .lst ds⟩, x8] = .ok (.v .non) [some ⟨.own, g'⟩, a1, a2, a3, some ⟨.own, .lst (rs ++ [d])⟩, some ⟨.fz, .str t⟩, x6, some ⟨.own, .lst ds⟩, x8] := by
    generalize he : (.sub (.var 7) (.call 19 [0, 1] (.cons (.var 0) (.cons (.bi .len (.cons (.var 7) .nil)) .nil)) .nil) : E) = ee at h3 ⊢
    simp [evE, evEs, Rs.bind, En.get, op1, look, mtOk, h3, hap]
  have h5 : evS Φ np (.set 5 (.call 25 [0, 1] (.cons (.var 5) (.cons (.sub (.var 4) (.bin .sub (.bi .len (.cons (.var 4) .nil)) (.lit (.int 1)))) .nil)) .nil)) [some ⟨.own, g'⟩, a1, a2, a3, some ⟨.own, .lst (rs ++ [d])⟩, some ⟨.fz, .str t⟩, x6, some ⟨.own, .lst ds⟩, x8] = .ok .nx [some ⟨.own, g'⟩, a1, a2, a3, some ⟨.own, .lst (rs ++ [d])⟩, some ⟨.fz, .str t'⟩, x6, some ⟨.own, .lst ds⟩, x8] := by
    generalize rs ++ [d] = us at hq hs2
    simp [evS, evE, evEs, Rs.bind, En.get, op2, look, lookAll, toRs, hq, hq1, hs2, storeR, pick, callR, frzDup, argsOf, argOf, outsTo, e3]
  have hb : ab30_1 = .cons (.set 7 al30_0) (.cons (.iff (.val (.cmp .ne (.var 7) (.lst .nil))) (.cons (.expr (.mth .append (.var 4) (.cons (.sub (.var 7) (.call 19 [0, 1] (.cons (.var 0) (.cons (.bi .len (.cons (.var 7) .nil)) .nil)) .nil)) .nil))) (.cons (.set 5 (.call 25 [0, 1] (.cons (.var 5) (.cons (.sub (.var 4) (.bin .sub (.bi .len (.cons (.var 4) .nil)) (.lit (.int 1)))) .nil)) .nil)) .nil)) .nil) .nil) := rfl
  rw [hb, nx_ev h1]
  refine (nx_ev ((then_ev h2).trans ?_)).trans nil_ev
  rw [nx_ev (expr_ev h4), nx_ev h5, nil_ev]
section
variable {Δ : Tab} (K : Ka Δ)
include K
theorem due30 (k : Nat) {t j : List Nat} {a0 a1 a3 a4 x6 x7 : Option Sl} : ∃ y8 : Option Sl, lcGo (lcTg [8] [8] (evTs (Phi Δ k) at30_0) (evE (Phi Δ k) ae30_0)) (rngD 0 t.length) [a0, a1, some ⟨.fz, .str j⟩, a3, a4, some ⟨.fz, .str t⟩, x6, x7, none] = .ok (plc t j) [a0, a1, some ⟨.fz, .str j⟩, a3, a4, some ⟨.fz, .str t⟩, x6, x7, y8] := by
  obtain ⟨ρ', e, y, rfl⟩ := lcGo_pure (f := lcTg [8] [8] (evTs (Phi Δ k) at30_0) (evE (Phi Δ k) ae30_0)) (q := rgQ t j) (fun ρ => ∃ y : Option Sl, ρ = [a0, a1, some ⟨.fz, .str j⟩, a3, a4, some ⟨.fz, .str t⟩, x6, x7, y]) (rows := rngD 0 t.length) (ρ := [a0, a1, some ⟨.fz, .str j⟩, a3, a4, some ⟨.fz, .str t⟩, x6, x7, none]) (fun d hd ρ ⟨y, hρ⟩ => by
    subst hρ
    unfold rngD at hd
    obtain ⟨p, hp, rfl⟩ := List.mem_map.mp hd
    rw [List.mem_range] at hp
    have hp : p < t.length := by omega
    rw [Int.zero_add]
    refine ⟨[a0, a1, some ⟨.fz, .str j⟩, a3, a4, some ⟨.fz, .str t⟩, x6, x7, some ⟨.fz, .int p⟩], ?_, _, rfl⟩
    have hg : t.getD p 0 = t[p] := by rw [List.getD_eq_getElem?_getD, List.getElem?_eq_getElem hp] <;> rfl
    have hr : rgQ t j (.int p) = if t[p] ∈ j then some (.int p) else none := by
      unfold rgQ
      simp only [Int.toNat_natCast, hg]
      simp
    rw [hr]
    by_cases hc : t[p] ∈ j
    · simp [lcTg, assignD, wipeE, at30_0, ae30_0, evTs, evT, evE, Rs.bind, En.get, op1, op2, look, toRb, truth, subD, ixN, cmpD, inD, hp, hc, keep]
    · simp [lcTg, assignD, wipeE, at30_0, ae30_0, evTs, evT, evE, Rs.bind, En.get, op1, op2, look, toRb, truth, subD, ixN, cmpD, inD, hp, hc, keep]) ⟨_, rfl⟩
  rw [plc_rng] at e
  exact ⟨y, e⟩
theorem rdGo (k : Nat) {m : Nat} {w j : List Nat} {M : D} (hw : w.length ≤ 1000) : ∀ (rows : List D) {g : D} {ps : List Nat} {x6 x7 x8 : Option Sl}, Gen (m + rows.length) g → val j w ps → ps.length + rows.length < LIM →
    ∃ (qs : List Nat) (g' : D) (y6 y7 y8 : Option Sl), Gen m g' ∧ val j w qs ∧ qs.length ≤ ps.length + rows.length ∧ forGo (withTg [6] (evSs (Phi Δ (k + 2)) 4 ab30_1)) rows [some ⟨.own, g⟩, some ⟨.fz, .str w⟩, some ⟨.fz, .str j⟩, some ⟨.fz, M⟩, some ⟨.own, .lst (rdL ps)⟩, some ⟨.fz, .str (run w ps)⟩, x6, x7, x8] = .ok .nx [some ⟨.own, g'⟩, some ⟨.fz, .str w⟩, some ⟨.fz, .str j⟩, some ⟨.fz, M⟩, some ⟨.own, .lst (rdL qs)⟩, some ⟨.fz, .str (run w qs)⟩, y6, y7, y8]
  | [], g, ps, x6, x7, x8, hg, hv, hl => ⟨ps, g, x6, x7, x8, hg, hv, by simp, rfl⟩
  | d :: rows, g, ps, x6, x7, x8, hg, hv, hl => by
    rw [List.length_cons] at hl hg
    have htl := run_len hv
    obtain ⟨y8, e1⟩ := due30 K (k + 2) (t := run w ps) (j := j) (a0 := some ⟨.own, g⟩) (a1 := some ⟨.fz, .str w⟩) (a3 := some ⟨.fz, M⟩) (a4 := some ⟨.own, .lst (rdL ps)⟩) (x6 := some ⟨.fz, d⟩) (x7 := x7)
    have hB : -B62 ≤ ((run w ps).length : Int) ∧ ((run w ps).length : Int) < B62 := by
      have : B62 = 4611686018427387904 := rfl
      omega
    have step : ∃ (qs : List Nat) (g1 : D) (z7 z8 : Option Sl), Gen (m + rows.length) g1 ∧ val j w qs ∧ qs.length ≤ ps.length + 1 ∧ evSs (Phi Δ (k + 2)) 4 ab30_1 [some ⟨.own, g⟩, some ⟨.fz, .str w⟩, some ⟨.fz, .str j⟩, some ⟨.fz, M⟩, some ⟨.own, .lst (rdL ps)⟩, some ⟨.fz, .str (run w ps)⟩, some ⟨.fz, d⟩, x7, x8] = .ok .nx [some ⟨.own, g1⟩, some ⟨.fz, .str w⟩, some ⟨.fz, .str j⟩, some ⟨.fz, M⟩, some ⟨.own, .lst (rdL qs)⟩, some ⟨.fz, .str (run w qs)⟩, some ⟨.fz, d⟩, z7, z8] := by
      by_cases hz : plc (run w ps) j = []
      · rw [hz] at e1
        exact ⟨ps, g, some ⟨.own, .lst []⟩, x8, hg.mono (by omega), hv, by omega, m30a (np := 4) (l30_ev rfl hB (Nat.zero_le _) e1)⟩
      · have hpos : 0 < (plc (run w ps) j).length := List.length_pos_iff.mpr hz
        have hpl := plc_len (w := run w ps) (j := j)
        have hL : LIM = 16777216 := rfl
        obtain ⟨r, g1, r0, r1, hg1, e2⟩ := draw_ok K.h18 K.h19 k (m := m + rows.length) (g := g) (n := ((plc (run w ps) j).length : Int)) (by rw [show m + rows.length + 1 = m + (rows.length + 1) by omega]; exact hg) ⟨by omega, by omega⟩
        have hr : r.toNat < (plc (run w ps) j).length := by omega
        obtain ⟨p, hp, hlt, hm⟩ := plc_mem (List.getElem_mem hr)
        have hs : subD (.lst (plc (run w ps) j)) (.int r) = some (.int (p : Int)) := by
          unfold subD ixN
          simp only
          rw [if_pos r0, if_pos r1]
          simp only
          rw [List.getElem?_eq_getElem hr, hp]
        have e3 := sw8_ok (n := 25) K.h25 (k + 1) hlt (by omega)
        have hne : cmpD .ne (.lst (plc (run w ps) j)) (.lst []) = some true := by
          have hf : flat DEP (.lst (plc (run w ps) j)) = true := by
            show flatL 59 (plc (run w ps) j) = true
            generalize hgen : plc (run w ps) j = ds
            have ha : ds.all atom = true := by rw [← hgen]; exact plc_atoms K
            clear hgen
            induction ds with
            | nil => rfl
            | cons a as ih =>
              rw [List.all_cons, Bool.and_eq_true] at ha
              show (flat 59 a && flatL 59 as) = true
              rw [ih ha.2]
              cases a <;> first | rfl | (cases ha.1; done)
          unfold cmpD
          simp only
          unfold eqv
          rw [hf]
          cases hc : plc (run w ps) j with
          | nil => exact absurd hc hz
          | cons a as => rfl
        have hq : biD .len [.lst (rdL ps ++ [.int (p : Int)])] = some (.v (.int (((rdL ps).length + 1 : Nat) : Int))) := by
          show some (Vr.v (D.int (((rdL ps ++ [D.int (p : Int)]).length : Nat) : Int))) = _
          rw [List.length_append] <;> rfl
        have hs2 : subD (.lst (rdL ps ++ [.int (p : Int)])) (.int ((((rdL ps).length + 1 : Nat) : Int) - 1)) = some (.int (p : Int)) := by
          unfold subD ixN
          have hlen : (rdL ps ++ [D.int (p : Int)]).length = (rdL ps).length + 1 := by rw [List.length_append] <;> rfl
          simp only [hlen]
          rw [if_pos (by omega), if_pos (by omega)]
          have ht : ((((rdL ps).length + 1 : Nat) : Int) - 1).toNat = (rdL ps).length := by omega
          simp only [ht]
          rw [List.getElem?_append_right (Nat.le_refl _)]
          simp
        have e := m30b (np := 4) (x8 := x8) (l30_ev rfl hB (by omega) e1) hne rfl e2 hs (by unfold rdL; rw [List.length_map]; omega) hq rfl hs2 e3
        refine ⟨ps ++ [p], g1, some ⟨.own, .lst (plc (run w ps) j)⟩, x8, hg1, val_app hv ⟨⟨hlt, hm⟩, trivial⟩, by simp, ?_⟩
        rw [run_snoc, rdL_snoc]
        exact e
    obtain ⟨qs, g1, z7, z8, hg1, hv1, hl1, e⟩ := step
    obtain ⟨qs2, g2, y6, y7, y82, hg2, hv2, hl2, e2⟩ := rdGo k (m := m) (M := M) hw rows (g := g1) (ps := qs) (x6 := some ⟨.fz, d⟩) (x7 := z7) (x8 := z8) hg1 hv1 (by omega)
    refine ⟨qs2, g2, y6, y7, y82, hg2, hv2, by rw [List.length_cons]; omega, ?_⟩
    unfold forGo
    have e' : withTg [6] (evSs (Phi Δ (k + 2)) 4 ab30_1) d [some ⟨.own, g⟩, some ⟨.fz, .str w⟩, some ⟨.fz, .str j⟩, some ⟨.fz, M⟩, some ⟨.own, .lst (rdL ps)⟩, some ⟨.fz, .str (run w ps)⟩, x6, x7, x8] = .ok .nx [some ⟨.own, g1⟩, some ⟨.fz, .str w⟩, some ⟨.fz, .str j⟩, some ⟨.fz, M⟩, some ⟨.own, .lst (rdL qs)⟩, some ⟨.fz, .str (run w qs)⟩, some ⟨.fz, d⟩, z7, z8] := by
      simp only [withTg, assignD]
      exact e
    rw [e']
    exact e2
end
end Ev

set_option Elab.async false
set_option linter.all false
set_option maxRecDepth 100000
set_option maxHeartbeats 8000000
/-! Q12: bent roads as values. Own work. -/
namespace Ev
open PySem PyProof
structure Wt (n : Nat) (x : D) : Prop where
  kn : known x = true
  sw : showD true 59 x = true
  lt : lite x = true
  wt : PyData.weight (py x) ≤ n
theorem wts {n : Nat} : ∀ {xs : List D}, (∀ x ∈ xs, Wt n x) → showDs true 59 xs = true ∧ lites xs = true ∧ PyData.weightAll (pys xs) ≤ (n + 1) * xs.length
  | [], _ => ⟨rfl, rfl, Nat.le_refl _⟩
  | x :: xs, h => by
    obtain ⟨h1, h2, h3⟩ := wts (xs := xs) fun y hy => h y (List.mem_cons_of_mem _ hy)
    have hx := h x List.mem_cons_self
    refine ⟨?_, ?_, ?_⟩
    · show (showD true 59 x && showDs true 59 xs) = true
      rw [h1, hx.sw] <;> rfl
    · show (lite x && lites xs) = true
      rw [h2, hx.lt] <;> rfl
    · show PyData.weight (py x) + 1 + PyData.weightAll (pys xs) ≤ (n + 1) * (xs.length + 1)
      have := hx.wt
      rw [Nat.mul_succ]
      omega
/-- a value that the law shows to the road rules -/
structure Sv (v : D) : Prop where
  kn : (∃ ds, v = .lst ds ∧ (∀ d ∈ ds, known d = true) ∧ ds.length + 1 < LIM) ∨ noList v = true
  rp : biD .repr [v] = some (.v (.str (shownD v)))
theorem rp_of {v : D} (h : (showD true DEP v || showD false DEP v) = true) (hl : lite v = true) (hw : PyData.weight (py v) ≤ 100000) : biD .repr [v] = some (.v (.str (shownD v))) := by
  show (if (showD true DEP v || showD false DEP v) && decide ((shownD v).length ≤ LIM) then some (Vr.v (.str (shownD v))) else none) = _
  rw [h, decide_eq_true (shown_lite hl hw)] <;> rfl
theorem sv_list {n : Nat} {xs : List D} (h : ∀ x ∈ xs, Wt n x) (hl : xs.length ≤ 200) (hw : (n + 1) * xs.length ≤ 100000) : Sv (.lst xs) := by
  obtain ⟨h1, h2, h3⟩ := wts h
  have hL : LIM = 16777216 := rfl
  refine ⟨.inl ⟨xs, rfl, fun d hd => (h d hd).kn, by omega⟩, rp_of ?_ h2 (Nat.le_trans h3 hw)⟩
  show ((true && showDs true 59 xs) || _) = true
  rw [h1] <;> rfl
theorem sv_tup {n : Nat} {xs : List D} (h : ∀ x ∈ xs, Wt n x) (hw : (n + 1) * xs.length ≤ 100000) : Sv (.tup xs) := by
  obtain ⟨h1, h2, h3⟩ := wts h
  refine ⟨.inr rfl, rp_of ?_ h2 (Nat.le_trans h3 hw)⟩
  show (showDs true 59 xs || _) = true
  rw [h1] <;> rfl
theorem wt_int {i : Int} (h : i.natAbs < 1000) : Wt 300 (.int i) := by
  have h2 : i.natAbs.log2 ≤ 10 := by
    by_cases hz : i.natAbs = 0
    · rw [hz]; exact Nat.zero_le _
    · exact Nat.le_of_lt (Nat.log2_lt hz |>.mpr (by omega))
  refine ⟨rfl, decide_eq_true (by omega), decide_eq_true (by omega), ?_⟩
  show (if i == 0 then 0 else i.natAbs.log2 + 1) ≤ 300
  split <;> omega
theorem wt_rd {n : Nat} {ps : List Nat} (hn : n ≤ 500) (h : ∀ p ∈ ps, p < n) : ∀ x ∈ rdL ps, Wt 300 x := by
  intro x hx
  obtain ⟨p, hp, rfl⟩ := List.mem_map.mp hx
  have := h p hp
  exact wt_int (by omega)
theorem wt_lst {n : Nat} {ps : List Nat} (hn : n ≤ 500) (h : ∀ p ∈ ps, p < n) (hl : ps.length ≤ 60) : Wt 20000 (.lst (rdL ps)) := by
  obtain ⟨h1, h2, h3⟩ := wts (wt_rd hn h)
  have e : (rdL ps).length = ps.length := List.length_map _
  have all58 : ∀ qs : List Nat, (∀ p ∈ qs, p < n) → showDs true 58 (rdL qs) = true := by
    intro qs hq
    induction qs with
    | nil => rfl
    | cons p qs ih =>
      have e1 : showD true 58 (.int (p : Int)) = true := (wt_rd hn hq (.int p) List.mem_cons_self).sw
      show (showD true 58 (.int (p : Int)) && showDs true 58 (rdL qs)) = true
      rw [ih fun x hx => hq x (List.mem_cons_of_mem _ hx), e1] <;> rfl
  have h1' := all58 ps h
  refine ⟨rfl, ?_, h2, ?_⟩
  · show (true && showDs true 58 (rdL ps)) = true
    rw [h1'] <;> rfl
  · show PyData.weightAll (pys (rdL ps)) ≤ 20000
    rw [e] at h3
    omega
def odd32 (n r : Int) : List D := [.int (-1), .int n, .bl true, .non, .str [48], .tup [.int 0], .lst [.int 0], .int r]
theorem odd_wt {n r : Int} (hn : 0 ≤ n ∧ n ≤ 500) (hr : 0 ≤ r ∧ r ≤ 500) : ∀ x ∈ odd32 n r, Wt 300 x := by
  intro x hx
  have w0 : Wt 300 (.int 0) := wt_int (by decide)
  simp only [odd32, List.mem_cons, List.not_mem_nil, or_false] at hx
  rcases hx with rfl | rfl | rfl | rfl | rfl | rfl | rfl | rfl
  · exact wt_int (by decide)
  · exact wt_int (by omega)
  · exact ⟨rfl, rfl, rfl, Nat.zero_le _⟩
  · exact ⟨rfl, rfl, rfl, Nat.zero_le _⟩
  · exact ⟨rfl, rfl, rfl, by decide⟩
  · exact ⟨rfl, by decide, by decide, by decide⟩
  · exact ⟨rfl, by decide, by decide, by decide⟩
  · exact wt_int (by omega)
def bent32 (rs bs : List D) (n a r : Int) : List D :=
  ((odd32 n r).map fun d => .lst (cut rs none (some a) ++ [d] ++ cut rs (some a) none)) ++ [.lst bs] ++ [.tup rs, .lst rs.reverse, .lst (cut rs none (some a)), .lst (rs ++ rs), .lst [.lst rs], .non, .int 7, .str [], .dic [] []]
theorem bent_sv {ps : List Nat} {n : Nat} {a r : Int} (hn : n ≤ 500) (h : ∀ p ∈ ps, p < n) (hl : ps.length ≤ 60) (hr : 0 ≤ r ∧ r ≤ 500) : ∀ v ∈ bent32 (rdL ps) (rdL (ps.map fun p => n - 1 - p)) n a r, Sv v := by
  have w := wt_rd hn h
  have w2 : ∀ x ∈ rdL (ps.map fun p => n - 1 - p), Wt 300 x := by
    intro x hx
    obtain ⟨q, hq, rfl⟩ := List.mem_map.mp hx
    obtain ⟨p, hp, rfl⟩ := List.mem_map.mp hq
    exact wt_int (by omega)
  have e : (rdL ps).length = ps.length := List.length_map _
  have e2 : (rdL (ps.map fun p => n - 1 - p)).length = ps.length := by unfold rdL; simp
  have c1 : (cut (rdL ps) none (some a)).length ≤ (rdL ps).length := cut_len
  have c2 : (cut (rdL ps) (some a) none).length ≤ (rdL ps).length := cut_len
  intro v hv
  unfold bent32 at hv
  rcases List.mem_append.mp hv with hv | hv
  · rcases List.mem_append.mp hv with hv | hv
    · obtain ⟨d, hd, rfl⟩ := List.mem_map.mp hv
      have wd := odd_wt (n := n) (r := r) ⟨by omega, by omega⟩ hr d hd
      have hlen : (cut (rdL ps) none (some a) ++ [d] ++ cut (rdL ps) (some a) none).length ≤ 121 := by
        rw [List.length_append, List.length_append, List.length_cons, List.length_nil]
        omega
      refine sv_list (n := 300) (fun x hx => ?_) (by omega) (by omega)
      rcases List.mem_append.mp hx with hx | hx
      · rcases List.mem_append.mp hx with hx | hx
        · exact w x (cut_mem hx)
        · rw [List.mem_singleton.mp hx]; exact wd
      · exact w x (cut_mem hx)
    · rw [List.mem_singleton.mp hv]
      exact sv_list w2 (by omega) (by omega)
  · simp only [List.mem_cons, List.not_mem_nil, or_false] at hv
    rcases hv with rfl | rfl | rfl | rfl | rfl | rfl | rfl | rfl | rfl
    · exact sv_tup w (by omega)
    · exact sv_list (fun x hx => w x (List.mem_reverse.mp hx)) (by rw [List.length_reverse]; omega) (by rw [List.length_reverse]; omega)
    · exact sv_list (fun x hx => w x (cut_mem hx)) (by omega) (by omega)
    · exact sv_list (fun x hx => w x ((List.mem_append.mp hx).elim id id)) (by rw [List.length_append]; omega) (by rw [List.length_append]; omega)
    · exact sv_list (n := 20000) (fun x hx => by rw [List.mem_singleton.mp hx]; exact wt_lst hn h hl) (by simp) (by simp)
    · exact ⟨.inr rfl, rp_of rfl rfl (Nat.zero_le _)⟩
    · exact ⟨.inr rfl, rp_of (by decide) (by decide) (by decide)⟩
    · exact ⟨.inr rfl, rp_of rfl rfl (Nat.zero_le _)⟩
    · exact ⟨.inr rfl, rp_of rfl rfl (Nat.zero_le _)⟩
end Ev

set_option Elab.async false
set_option linter.all false
set_option maxRecDepth 100000
set_option maxHeartbeats 8000000
/-! Q13: drawn roads, bent roads: the defs. Own work. -/
namespace Ev
theorem seq_ev {Φ : Fns} {e : E} {ρ ρ1 : En} {x : Vr} {d : D} {ds : List D} (h1 : evE Φ e ρ = .ok x ρ1) (h2 : look ρ1 x = some d) (h3 : items d = some ds) : evI Φ (.seq e) ρ = .ok (ds, [x]) ρ1 := by
  unfold evI
  rw [h1]
  simp only [Rs.bind]
  unfold op1
  rw [h2]
  simp only
  rw [h3]
theorem var_ev {Φ : Fns} {i : Nat} {ρ : En} {s : Sl} (h : ρ.get i = some s) : evE Φ (.var i) ρ = .ok (.s i) ρ := by
  unfold evE
  rw [h]
theorem add_ev {Φ : Fns} {a b : E} {ρ ρ1 ρ2 : En} {x y r : Vr} {d e : D} (h1 : evE Φ a ρ = .ok x ρ1) (h2 : evE Φ b ρ1 = .ok y ρ2) (h3 : look ρ2 x = some d) (h4 : look ρ2 y = some e) {op : Bop} (h5 : binD op d e = some r) : evE Φ (.bin op a b) ρ = .ok r ρ2 := by
  simp [evE, Rs.bind, h1, h2, op2, h3, h4, h5, toRs]
theorem for_ev {Φ : Fns} {np : Nat} {tg : List Nat} {it : Wk} {body : Ss} {ρ ρ1 ρ2 : En} {rows : List D} {rs : List Vr} {c : Fl} (h1 : evI Φ it ρ = .ok (rows, rs) ρ1) (h2 : forGo (withTg tg (evSs Φ np body)) rows (lockL ρ1 rs) = .ok c ρ2) : evS Φ np (.for tg it body) ρ = .ok c (unlockL ρ1 ρ2 rs) := by
  show ((evI Φ it ρ).bind fun (rows, r) ρ1 => (forGo (withTg tg (evSs Φ np body)) rows (lockL ρ1 r)).bind fun c ρ => Rs.ok c (unlockL ρ1 ρ r)) = _
  rw [h1]
  show ((forGo (withTg tg (evSs Φ np body)) rows (lockL ρ1 rs)).bind fun c ρ => Rs.ok c (unlockL ρ1 ρ rs)) = _
  rw [h2] <;> rfl
section
variable {Δ : Tab} (K : Ka Δ)
include K
theorem road_ok (k : Nat) {m : Nat} {g : D} {w j : List Nat} {M : Int} (hw : w.length ≤ 1000) (hM : 0 ≤ M ∧ M ≤ 60) (hg : Gen (m + 60) g) :
    ∃ (qs : List Nat) (g' : D), Gen m g' ∧ val j w qs ∧ (qs.length : Int) ≤ M ∧ Phi Δ (k + 3) 30 [⟨.own, g⟩, ⟨.fz, .str w⟩, ⟨.fz, .str j⟩, ⟨.fz, .int M⟩] = .ret true (.lst (rdL qs)) [⟨.own, g'⟩, ⟨.fz, .str w⟩, ⟨.fz, .str j⟩, ⟨.fz, .int M⟩] := by
  have hlen : (rngD 0 M).length = M.toNat := by
    rw [rngD_len]
    congr 1
    omega
  have hL : LIM = 16777216 := rfl
  obtain ⟨qs, g', y6, y7, y8, hg', hv, hq, e⟩ := rdGo K k (m := m) (w := w) (j := j) (M := .int M) hw (rngD 0 M) (g := g) (ps := []) (x6 := none) (x7 := none) (x8 := none) (hg.mono (by omega)) trivial (by rw [hlen]; simp only [List.length_nil]; omega)
  rw [hlen] at hq
  refine ⟨qs, g', hg', hv, by simp only [List.length_nil] at hq; omega, ?_⟩
  rw [Phi_s K.h30]
  have hB : -B62 ≤ M ∧ M < B62 := by
    have : B62 = 4611686018427387904 := rfl
    omega
  have h1 : evS (Phi Δ (k + 2)) 4 (.par [4, 5] (.cons (.lst .nil) (.cons (.var 1) .nil))) [some ⟨.own, g⟩, some ⟨.fz, .str w⟩, some ⟨.fz, .str j⟩, some ⟨.fz, .int M⟩, none, none, none, none, none] = .ok .nx [some ⟨.own, g⟩, some ⟨.fz, .str w⟩, some ⟨.fz, .str j⟩, some ⟨.fz, .int M⟩, some ⟨.own, .lst []⟩, some ⟨.fz, .str w⟩, none, none, none] := by
    simp [evS, evE, evEs, Rs.bind, En.get, keepAll, keepSl, keep, setAll]
  have h2 : evS (Phi Δ (k + 2)) 4 (.for [6] (.rng1 (.var 3)) ab30_1) [some ⟨.own, g⟩, some ⟨.fz, .str w⟩, some ⟨.fz, .str j⟩, some ⟨.fz, .int M⟩, some ⟨.own, .lst []⟩, some ⟨.fz, .str w⟩, none, none, none] = .ok .nx [some ⟨.own, g'⟩, some ⟨.fz, .str w⟩, some ⟨.fz, .str j⟩, some ⟨.fz, .int M⟩, some ⟨.own, .lst (rdL qs)⟩, some ⟨.fz, .str (run w qs)⟩, y6, y7, y8] := by
    have hi := rng_ev (Φ := Phi Δ (k + 2)) (a := .var 3) (ρ := [some ⟨.own, g⟩, some ⟨.fz, .str w⟩, some ⟨.fz, .str j⟩, some ⟨.fz, .int M⟩, some ⟨.own, .lst []⟩, some ⟨.fz, .str w⟩, none, none, none]) (var_ev rfl) rfl hB
    exact for_ev hi e
  have hb : ad30.body = .cons (.par [4, 5] (.cons (.lst .nil) (.cons (.var 1) .nil))) (.cons (.for [6] (.rng1 (.var 3)) ab30_1) (.cons (.ret (.var 4)) .nil)) := rfl
  have fin : evSs (Phi Δ (k + 2)) 4 ad30.body [some ⟨.own, g⟩, some ⟨.fz, .str w⟩, some ⟨.fz, .str j⟩, some ⟨.fz, .int M⟩, none, none, none, none, none] = .ok (.rt true (.lst (rdL qs))) [some ⟨.own, g'⟩, some ⟨.fz, .str w⟩, some ⟨.fz, .str j⟩, some ⟨.fz, .int M⟩, some ⟨.own, .lst (rdL qs)⟩, some ⟨.fz, .str (run w qs)⟩, y6, y7, y8] := by
    rw [hb, nx_ev h1, nx_ev h2]
    rfl
  have e1 : ad30.np = 4 := rfl
  have e2 : ad30.ns = 9 := rfl
  have e3 : ad30.reb = [] := rfl
  simp only [runDf, e1, e2, e3]
  simp [frzAt, fin, allSome, backAt, List.replicate]
end
end Ev

set_option Elab.async false
set_option linter.all false
set_option maxRecDepth 100000
set_option maxHeartbeats 8000000
/-! Q14: bent roads: the def. Own work. -/
namespace Ev
theorem e32_0 {Φ : Fns} {a0 s2 s5 s7 x6 : Option Sl} {m4 : Md} {rs odd : List D} {a : Int} {d : D} (hr : rs.length ≤ 100) :
    lcTg [6] [6] (evTs Φ .nil) (evE Φ ae32_0) d [a0, some ⟨.fz, .lst rs⟩, s2, some ⟨.fz, .int a⟩, some ⟨m4, .lst odd⟩, s5, x6, s7] = .ok (some (.lst (cut rs none (some a) ++ [d] ++ cut rs (some a) none))) [a0, some ⟨.fz, .lst rs⟩, s2, some ⟨.fz, .int a⟩, some ⟨m4, .lst odd⟩, s5, some ⟨.fz, d⟩, s7] := by
  have c1 : (cut rs none (some a)).length ≤ rs.length := cut_len
  have c2 : (cut rs (some a) none).length ≤ rs.length := cut_len
  have hL : LIM = 16777216 := rfl
  have b1 : binD .add (.lst (cut rs none (some a))) (.lst [d]) = some (.o (.lst (cut rs none (some a) ++ [d]))) := by
    unfold binD
    simp only
    rw [if_pos (by simp only [List.length_cons, List.length_nil]; omega)]
  have b2 : binD .add (.lst (cut rs none (some a) ++ [d])) (.lst (cut rs (some a) none)) = some (.o (.lst (cut rs none (some a) ++ [d] ++ cut rs (some a) none))) := by
    unfold binD
    simp only
    rw [if_pos (by rw [List.length_append]; simp only [List.length_cons, List.length_nil]; omega)]
  have h1 : 1 ≤ LIM := by decide
  generalize cut rs none (some a) ++ [d] ++ cut rs (some a) none = out at b2 ⊢
  generalize cut rs none (some a) ++ [d] = mid at b1 b2
  simp [lcTg, assignD, wipeE, ae32_0, evTs, evE, evEs, Rs.bind, En.get, op1, op2, look, toRs, slD, bound, keepAll, keep, h1, b1, b2]
theorem l32_0 {Φ : Fns} {a0 s2 s5 s7 : Option Sl} {rs odd : List D} {a : Int} (hr : rs.length ≤ 100) (ho : odd.length ≤ LIM) : evE Φ al32_0 [a0, some ⟨.fz, .lst rs⟩, s2, some ⟨.fz, .int a⟩, some ⟨.own, .lst odd⟩, s5, none, s7] = .ok (.o (.lst (odd.map fun d => .lst (cut rs none (some a) ++ [d] ++ cut rs (some a) none)))) [a0, some ⟨.fz, .lst rs⟩, s2, some ⟨.fz, .int a⟩, some ⟨.own, .lst odd⟩, s5, none, s7] := by
  obtain ⟨ρ', e, x6, rfl⟩ := lcGo_pure (f := lcTg [6] [6] (evTs Φ .nil) (evE Φ ae32_0)) (q := fun d => some (.lst (cut rs none (some a) ++ [d] ++ cut rs (some a) none))) (fun ρ => ∃ x6 : Option Sl, ρ = [a0, some ⟨.fz, .lst rs⟩, s2, some ⟨.fz, .int a⟩, some ⟨.lk, .lst odd⟩, s5, x6, s7]) (rows := odd) (ρ := [a0, some ⟨.fz, .lst rs⟩, s2, some ⟨.fz, .int a⟩, some ⟨.lk, .lst odd⟩, s5, none, s7]) (fun d hd ρ ⟨x6, hρ⟩ => by
    subst hρ
    exact ⟨_, e32_0 hr, _, rfl⟩) ⟨none, rfl⟩
  have hm : odd.filterMap (fun d => some (D.lst (cut rs none (some a) ++ [d] ++ cut rs (some a) none))) = odd.map fun d => D.lst (cut rs none (some a) ++ [d] ++ cut rs (some a) none) := by
    rw [← List.filterMap_eq_map] <;> rfl
  rw [hm] at e
  have h := lc_ev (elt := ae32_0) (ts := .nil) (tg := [6]) (own := [6]) (it := .seq (.var 4)) (ρ := [a0, some ⟨.fz, .lst rs⟩, s2, some ⟨.fz, .int a⟩, some ⟨.own, .lst odd⟩, s5, none, s7]) (rs := [.s 4]) (rows := odd) (ds := odd.map fun d => D.lst (cut rs none (some a) ++ [d] ++ cut rs (some a) none)) (seq_ev (var_ev (i := 4) (s := ⟨.own, .lst odd⟩) rfl) rfl rfl) e (by rw [List.length_map]; exact ho)
  unfold al32_0
  exact h
theorem l32_1 {Φ : Fns} {a0 s3 s4 s5 s6 : Option Sl} {ps : List Nat} {n : Nat} (h : ∀ p ∈ ps, p < n) (hl : ps.length ≤ LIM) : evE Φ al32_1 [a0, some ⟨.fz, .lst (rdL ps)⟩, some ⟨.fz, .int n⟩, s3, s4, s5, s6, none] = .ok (.o (.lst (rdL (ps.map fun p => n - 1 - p)))) [a0, some ⟨.fz, .lst (rdL ps)⟩, some ⟨.fz, .int n⟩, s3, s4, s5, s6, none] := by
  obtain ⟨ρ', e, x7, rfl⟩ := lcGo_pure (f := lcTg [7] [7] (evTs Φ .nil) (evE Φ ae32_1)) (q := bkQ n) (fun ρ => ∃ x7 : Option Sl, ρ = [a0, some ⟨.fz, .lst (rdL ps)⟩, some ⟨.fz, .int n⟩, s3, s4, s5, s6, x7]) (rows := rdL ps) (ρ := [a0, some ⟨.fz, .lst (rdL ps)⟩, some ⟨.fz, .int n⟩, s3, s4, s5, s6, none]) (fun d hd ρ ⟨x7, hρ⟩ => by
    subst hρ
    obtain ⟨p, hp, rfl⟩ := List.mem_map.mp hd
    refine ⟨[a0, some ⟨.fz, .lst (rdL ps)⟩, some ⟨.fz, .int n⟩, s3, s4, s5, s6, some ⟨.fz, .int p⟩], ?_, _, rfl⟩
    generalize (n : Int) = a
    generalize (p : Int) = c
    simp [lcTg, assignD, wipeE, ae32_1, bkQ, evTs, evE, Rs.bind, En.get, op1, op2, look, toRs, binD, keep]) ⟨none, rfl⟩
  rw [bkQ_map h] at e
  have h := lc_ev (elt := ae32_1) (ts := .nil) (tg := [7]) (own := [7]) (it := .seq (.var 1)) (ρ := [a0, some ⟨.fz, .lst (rdL ps)⟩, some ⟨.fz, .int n⟩, s3, s4, s5, s6, none]) (rs := [.s 1]) (rows := rdL ps) (ds := rdL (ps.map fun p => n - 1 - p)) (seq_ev (var_ev (i := 1) (s := ⟨.fz, .lst (rdL ps)⟩) rfl) rfl rfl) e (by unfold rdL; rw [List.length_map, List.length_map]; exact hl)
  unfold al32_1
  exact h
theorem retO_ev {Φ : Fns} {np : Nat} {e : E} {ρ ρ1 : En} {d : D} (h : evE Φ e ρ = .ok (.o d) ρ1) : evSs Φ np (.cons (.ret e) .nil) ρ = .ok (.rt true d) ρ1 := by
  simp [evSs, evS, Rs.bind, h]
theorem retV_ev {Φ : Fns} {np : Nat} {e : E} {ρ ρ1 : En} {d : D} {ss : Ss} (h : evE Φ e ρ = .ok (.v d) ρ1) : evSs Φ np (.cons (.ret e) ss) ρ = .ok (.rt false d) ρ1 := by
  simp [evSs, evS, Rs.bind, h]
theorem one_lst {Φ : Fns} {e : E} {ρ ρ1 : En} {d : D} (h : evE Φ e ρ = .ok (.o d) ρ1) : evE Φ (.lst (.cons e .nil)) ρ = .ok (.o (.lst [d])) ρ1 := by
  have h1 : 1 ≤ LIM := by decide
  simp [evE, evEs, Rs.bind, h, keepAll, keep, h1]
section
variable {Δ : Tab} (K : Ka Δ)
include K
theorem bent2_ok (k : Nat) {m : Nat} {g : D} {ps : List Nat} {n : Nat} (hg : Gen (m + 2) g) (hn : n ≤ 100) (h : ∀ p ∈ ps, p < n) (hl : ps.length ≤ 60) :
    ∃ (a r : Int) (g' : D), Gen m g' ∧ (0 ≤ r ∧ r ≤ 500) ∧ Phi Δ (k + 3) 32 [⟨.own, g⟩, ⟨.fz, .lst (rdL ps)⟩, ⟨.fz, .int n⟩] = .ret true (.lst (bent32 (rdL ps) (rdL (ps.map fun p => n - 1 - p)) n a r)) [⟨.own, g'⟩, ⟨.fz, .lst (rdL ps)⟩, ⟨.fz, .int n⟩] := by
  rw [Phi_s K.h32]
  have hrl : (rdL ps).length = ps.length := List.length_map _
  have hL : LIM = 16777216 := rfl
  obtain ⟨a, g1, a0, a1, hg1, e1⟩ := draw_ok K.h18 K.h19 k (m := m + 1) hg (n := (ps.length : Int) + 1) ⟨by omega, by omega⟩
  obtain ⟨r, g2, r0, r1, hg2, e2⟩ := draw_ok K.h18 K.h19 k (m := m) hg1 (n := (n : Int) + 1) ⟨by omega, by omega⟩
  refine ⟨a, r, g2, hg2, ⟨r0, by omega⟩, ?_⟩
  have hq : biD .len [.lst (rdL ps)] = some (.v (.int (ps.length : Int))) := by
    show some (Vr.v (D.int ((rdL ps).length : Int))) = _
    rw [hrl]
  have hodd : (odd32 n r).length ≤ LIM := by
    have : (8 : Nat) ≤ LIM := by decide
    exact this
  have l0 := l32_0 (Φ := Phi Δ (k + 2)) (a0 := some ⟨.own, g2⟩) (s2 := some ⟨.fz, .int n⟩) (s5 := none) (s7 := none) (rs := rdL ps) (odd := odd32 n r) (a := a) (by omega) hodd
  have l1 := l32_1 (Φ := Phi Δ (k + 2)) (a0 := some ⟨.own, g2⟩) (s3 := some ⟨.fz, .int a⟩) (s4 := some ⟨.own, .lst (odd32 n r)⟩) (s5 := none) (s6 := none) (n := n) h (by omega)
  have s1 : evS (Phi Δ (k + 2)) 3 (.set 3 (.call 19 [0, 1] (.cons (.var 0) (.cons (.bin .add (.bi .len (.cons (.var 1) .nil)) (.lit (.int 1))) .nil)) .nil)) [some ⟨.own, g⟩, some ⟨.fz, .lst (rdL ps)⟩, some ⟨.fz, .int n⟩, none, none, none, none, none] = .ok .nx [some ⟨.own, g1⟩, some ⟨.fz, .lst (rdL ps)⟩, some ⟨.fz, .int n⟩, some ⟨.fz, .int a⟩, none, none, none, none] := by
    have hb : binD .add (.int (ps.length : Int)) (.int 1) = some (.v (.int ((ps.length : Int) + 1))) := rfl
    clear l0 l1 e2
    generalize ((ps.length : Int) + 1) = q at e1 hb
    generalize (ps.length : Int) = q0 at hq hb
    generalize (n : Int) = nn
    generalize rdL ps = rr at hq ⊢
    simp [evS, evE, evEs, Rs.bind, En.get, op2, look, lookAll, toRs, hq, hb, storeR, pick, callR, frzDup, argsOf, argOf, outsTo, e1]
  have s2 : evS (Phi Δ (k + 2)) 3 (.set 4 (.lst (.cons (.bin .sub (.lit (.int 0)) (.lit (.int 1))) (.cons (.var 2) (.cons (.lit (.bl true)) (.cons (.lit .non) (.cons (.lit (.str [48])) (.cons (.tup (.cons (.lit (.int 0)) .nil)) (.cons (.lst (.cons (.lit (.int 0)) .nil)) (.cons (.call 19 [0, 1] (.cons (.var 0) (.cons (.bin .add (.var 2) (.lit (.int 1))) .nil)) .nil) .nil)))))))))) [some ⟨.own, g1⟩, some ⟨.fz, .lst (rdL ps)⟩, some ⟨.fz, .int n⟩, some ⟨.fz, .int a⟩, none, none, none, none] = .ok .nx [some ⟨.own, g2⟩, some ⟨.fz, .lst (rdL ps)⟩, some ⟨.fz, .int n⟩, some ⟨.fz, .int a⟩, some ⟨.own, .lst (odd32 n r)⟩, none, none, none] := by
    have hb : binD .add (.int (n : Int)) (.int 1) = some (.v (.int ((n : Int) + 1))) := rfl
    have hb2 : binD .sub (.int 0) (.int 1) = some (.v (.int (-1))) := rfl
    have h8 : 8 ≤ LIM := by decide
    have h1 : 1 ≤ LIM := by decide
    clear l0 l1 e1 hodd
    generalize ((n : Int) + 1) = q at e2 hb
    generalize (n : Int) = nn at hb ⊢
    generalize rdL ps = rr
    simp [evS, evE, evEs, Rs.bind, En.get, op2, look, toRs, hb, hb2, storeR, keep, keepAll, pick, callR, frzDup, argsOf, argOf, outsTo, e2, h8, h1, odd32]
  have x3 : evE (Phi Δ (k + 2)) (.bin .add al32_0 (.lst (.cons al32_1 .nil))) [some ⟨.own, g2⟩, some ⟨.fz, .lst (rdL ps)⟩, some ⟨.fz, .int n⟩, some ⟨.fz, .int a⟩, some ⟨.own, .lst (odd32 n r)⟩, none, none, none] = .ok (.o (.lst (((odd32 n r).map fun d => .lst (cut (rdL ps) none (some a) ++ [d] ++ cut (rdL ps) (some a) none)) ++ [.lst (rdL (ps.map fun p => n - 1 - p))]))) [some ⟨.own, g2⟩, some ⟨.fz, .lst (rdL ps)⟩, some ⟨.fz, .int n⟩, some ⟨.fz, .int a⟩, some ⟨.own, .lst (odd32 n r)⟩, none, none, none] := by
    refine add_ev l0 (one_lst l1) rfl rfl ?_
    unfold binD
    simp only
    rw [if_pos (by simp only [List.length_map, List.length_cons, List.length_nil]; show 8 + 1 ≤ LIM; decide)]
  have s3 := set_ev (np := 3) (i := 5) (ρ2 := [some ⟨.own, g2⟩, some ⟨.fz, .lst (rdL ps)⟩, some ⟨.fz, .int n⟩, some ⟨.fz, .int a⟩, some ⟨.own, .lst (odd32 n r)⟩, some ⟨.own, .lst (((odd32 n r).map fun d => .lst (cut (rdL ps) none (some a) ++ [d] ++ cut (rdL ps) (some a) none)) ++ [.lst (rdL (ps.map fun p => n - 1 - p))])⟩, none, none]) x3 rfl
  have x4 : evE (Phi Δ (k + 2)) (.bin .add (.var 5) (.lst (.cons (.bi .tuple (.cons (.var 1) .nil)) (.cons (.rev (.var 1) (.bin .sub (.lit (.int 0)) (.lit (.int 1)))) (.cons (.sl false true (.var 1) (.lit .non) (.var 3)) (.cons (.bin .add (.var 1) (.var 1)) (.cons (.lst (.cons (.var 1) .nil)) (.cons (.lit .non) (.cons (.lit (.int 7)) (.cons (.lit (.str [])) (.cons .dict0 .nil)))))))))))  [some ⟨.own, g2⟩, some ⟨.fz, .lst (rdL ps)⟩, some ⟨.fz, .int n⟩, some ⟨.fz, .int a⟩, some ⟨.own, .lst (odd32 n r)⟩, some ⟨.own, .lst (((odd32 n r).map fun d => .lst (cut (rdL ps) none (some a) ++ [d] ++ cut (rdL ps) (some a) none)) ++ [.lst (rdL (ps.map fun p => n - 1 - p))])⟩, none, none] = .ok (.o (.lst (bent32 (rdL ps) (rdL (ps.map fun p => n - 1 - p)) n a r))) [some ⟨.own, g2⟩, some ⟨.fz, .lst (rdL ps)⟩, some ⟨.fz, .int n⟩, some ⟨.fz, .int a⟩, some ⟨.own, .lst (odd32 n r)⟩, some ⟨.own, .lst (((odd32 n r).map fun d => .lst (cut (rdL ps) none (some a) ++ [d] ++ cut (rdL ps) (some a) none)) ++ [.lst (rdL (ps.map fun p => n - 1 - p))])⟩, none, none] := by
    have h9 : 9 ≤ LIM := by decide
    have h1 : 1 ≤ LIM := by decide
    have hb : binD .add (.lst (rdL ps)) (.lst (rdL ps)) = some (.o (.lst (rdL ps ++ rdL ps))) := by
      unfold binD
      simp only
      rw [if_pos (by omega)]
    have hb2 : binD .sub (.int 0) (.int 1) = some (.v (.int (-1))) := rfl
    have hrv : revD (.lst (rdL ps)) (.int (-1)) = some (.o (.lst (rdL ps).reverse)) := by simp [revD]
    have bt : biD .tuple [.lst (rdL ps)] = some (.v (.tup (rdL ps))) := rfl
    have x5 : evE (Phi Δ (k + 2)) (.lst (.cons (.bi .tuple (.cons (.var 1) .nil)) (.cons (.rev (.var 1) (.bin .sub (.lit (.int 0)) (.lit (.int 1)))) (.cons (.sl false true (.var 1) (.lit .non) (.var 3)) (.cons (.bin .add (.var 1) (.var 1)) (.cons (.lst (.cons (.var 1) .nil)) (.cons (.lit .non) (.cons (.lit (.int 7)) (.cons (.lit (.str [])) (.cons .dict0 .nil))))))))))  [some ⟨.own, g2⟩, some ⟨.fz, .lst (rdL ps)⟩, some ⟨.fz, .int n⟩, some ⟨.fz, .int a⟩, some ⟨.own, .lst (odd32 n r)⟩, some ⟨.own, .lst (((odd32 n r).map fun d => .lst (cut (rdL ps) none (some a) ++ [d] ++ cut (rdL ps) (some a) none)) ++ [.lst (rdL (ps.map fun p => n - 1 - p))])⟩, none, none] = .ok (.o (.lst [.tup (rdL ps), .lst (rdL ps).reverse, .lst (cut (rdL ps) none (some a)), .lst (rdL ps ++ rdL ps), .lst [.lst (rdL ps)], .non, .int 7, .str [], .dic [] []])) [some ⟨.own, g2⟩, some ⟨.fz, .lst (rdL ps)⟩, some ⟨.fz, .int n⟩, some ⟨.fz, .int a⟩, some ⟨.own, .lst (odd32 n r)⟩, some ⟨.own, .lst (((odd32 n r).map fun d => .lst (cut (rdL ps) none (some a) ++ [d] ++ cut (rdL ps) (some a) none)) ++ [.lst (rdL (ps.map fun p => n - 1 - p))])⟩, none, none] := by
      clear l0 l1 e1 e2 s1 s2 x3 s3 hq
      generalize (D.lst (((odd32 n r).map fun d => .lst (cut (rdL ps) none (some a) ++ [d] ++ cut (rdL ps) (some a) none)) ++ [.lst (rdL (ps.map fun p => n - 1 - p))])) = F5
      generalize odd32 n r = od
      generalize (n : Int) = nn
      generalize rdL ps ++ rdL ps = r2 at hb ⊢
      generalize (rdL ps).reverse = r3 at hrv ⊢
      generalize rdL ps = rr at hb hrv bt ⊢
      simp [evE, evEs, Rs.bind, En.get, op1, op2, look, lookAll, toRs, hb, hb2, hrv, bt, slD, bound, keep, keepAll, h9, h1]
    refine add_ev (var_ev (i := 5) rfl) x5 rfl rfl ?_
    unfold binD
    simp only
    rw [if_pos (by simp only [List.length_append, List.length_map, List.length_cons, List.length_nil]; show 8 + 1 + 9 ≤ LIM; decide)]
    rfl
  have hb : ad32.body = .cons (.set 3 (.call 19 [0, 1] (.cons (.var 0) (.cons (.bin .add (.bi .len (.cons (.var 1) .nil)) (.lit (.int 1))) .nil)) .nil)) (.cons (.set 4 (.lst (.cons (.bin .sub (.lit (.int 0)) (.lit (.int 1))) (.cons (.var 2) (.cons (.lit (.bl true)) (.cons (.lit .non) (.cons (.lit (.str [48])) (.cons (.tup (.cons (.lit (.int 0)) .nil)) (.cons (.lst (.cons (.lit (.int 0)) .nil)) (.cons (.call 19 [0, 1] (.cons (.var 0) (.cons (.bin .add (.var 2) (.lit (.int 1))) .nil)) .nil) .nil)))))))))) (.cons (.set 5 (.bin .add al32_0 (.lst (.cons al32_1 .nil)))) (.cons (.ret (.bin .add (.var 5) (.lst (.cons (.bi .tuple (.cons (.var 1) .nil)) (.cons (.rev (.var 1) (.bin .sub (.lit (.int 0)) (.lit (.int 1)))) (.cons (.sl false true (.var 1) (.lit .non) (.var 3)) (.cons (.bin .add (.var 1) (.var 1)) (.cons (.lst (.cons (.var 1) .nil)) (.cons (.lit .non) (.cons (.lit (.int 7)) (.cons (.lit (.str [])) (.cons .dict0 .nil)))))))))))) .nil))) := rfl
  have fin : ∃ rest, evSs (Phi Δ (k + 2)) 3 ad32.body [some ⟨.own, g⟩, some ⟨.fz, .lst (rdL ps)⟩, some ⟨.fz, .int n⟩, none, none, none, none, none] = .ok (.rt true (.lst (bent32 (rdL ps) (rdL (ps.map fun p => n - 1 - p)) n a r))) (some ⟨.own, g2⟩ :: some ⟨.fz, .lst (rdL ps)⟩ :: some ⟨.fz, .int n⟩ :: rest) := by
    exact ⟨_, by rw [hb, nx_ev s1, nx_ev s2, nx_ev s3]; exact retO_ev x4⟩
  obtain ⟨rest, fin⟩ := fin
  have e1 : ad32.np = 3 := rfl
  have e2 : ad32.ns = 8 := rfl
  have e3 : ad32.reb = [] := rfl
  simp only [runDf, e1, e2, e3]
  simp [frzAt, fin, allSome, backAt, List.replicate]
end
end Ev

set_option Elab.async false
set_option linter.all false
set_option maxRecDepth 100000
set_option maxHeartbeats 8000000
/-! Q15: the law's second part, statement by statement. Own work. -/
namespace Ev
theorem flat_atoms : ∀ {xs : List D} (k : Nat), xs.all atom = true → flatL k xs = true
  | [], k, _ => by cases k <;> rfl
  | x :: xs, k, h => by
    rw [List.all_cons, Bool.and_eq_true] at h
    have e : flat k x = true := by cases x <;> first | (cases h.1; done) | (cases k <;> rfl)
    have e2 := flat_atoms (xs := xs) k h.2
    cases k <;> (show (flat _ x && flatL _ xs) = true; rw [e, e2] <;> rfl)
theorem eqDs_atoms : ∀ {xs : List D}, xs.all atom = true → eqDs xs xs = true
  | [], _ => rfl
  | x :: xs, h => by
    rw [List.all_cons, Bool.and_eq_true] at h
    show (eqD x x && eqDs xs xs) = true
    rw [eqDs_atoms h.2]
    cases x <;> first | (cases h.1; done) | simp [eqD]
theorem ne_atoms {xs : List D} (h : xs.all atom = true) : cmpD .ne (.lst xs) (.lst xs) = some false := by
  have hf : flat DEP (.lst xs) = true := flat_atoms 59 h
  have he : eqD (.lst xs) (.lst xs) = true := eqDs_atoms h
  unfold cmpD
  simp only
  unfold eqv
  rw [hf, he] <;> rfl
theorem ne_str (a : List Nat) : cmpD .ne (.str a) (.str a) = some false := by simp [cmpD, eqv, flat, eqD]
theorem atoms_str (ws : List (List Nat)) : (ws.map D.str).all atom = true := by
  rw [List.all_map]
  exact List.all_eq_true.mpr fun _ _ => rfl
theorem atoms_rd (ps : List Nat) : (rdL ps).all atom = true := by
  unfold rdL
  rw [List.all_map]
  exact List.all_eq_true.mpr fun _ _ => rfl
section
variable {Φ : Fns} {a0 a1 a3 a6 a7 a8 a9 a10 a11 a12 a13 a14 : Option Sl} {w j e : List Nat} {W R B M : List D} {n : Int}
theorem st33_5 {R W : List D} (f1 : Φ 31 [⟨.fz, .str w⟩, ⟨.fz, .str j⟩, ⟨.own, .lst R⟩] = .ret true (.lst W) [⟨.fz, .str w⟩, ⟨.fz, .str j⟩, ⟨.own, .lst R⟩]) :
    evSs Φ 1 ad33_5 [a0, a1, some ⟨.fz, .str j⟩, a3, some ⟨.fz, .str w⟩, some ⟨.own, .lst R⟩, a6, a7, a8, a9, a10, a11, a12, a13, a14] = evSs Φ 1 ad33_6 [a0, a1, some ⟨.fz, .str j⟩, a3, some ⟨.fz, .str w⟩, some ⟨.own, .lst R⟩, some ⟨.own, .lst R⟩, some ⟨.own, .lst W⟩, a8, a9, a10, a11, a12, a13, a14] := by
  simp [ad33_5, evSs, evS, evE, evEs, Rs.bind, En.get, look, lookAll, toRs, biD, keepSl, setAll, pick, callR, frzDup, argsOf, argOf, outsTo, f1]
theorem st33_6 {m m1 : Int} (f1 : Φ 15 [⟨.fz, .str w⟩, ⟨.fz, .str j⟩, ⟨.own, .lst R⟩] = .ret true (.lst W) [⟨.fz, .str w⟩, ⟨.fz, .str j⟩, ⟨.own, .lst R⟩]) (hm : biD .len [.lst W] = some (.v (.int m))) (hm1 : binD .sub (.int m) (.int 1) = some (.v (.int m1))) (hs : subD (.lst W) (.int m1) = some (.str e)) :
    evSs Φ 1 ad33_6 [a0, a1, some ⟨.fz, .str j⟩, a3, some ⟨.fz, .str w⟩, some ⟨.own, .lst R⟩, a6, some ⟨.own, .lst W⟩, a8, a9, a10, a11, a12, a13, a14] = evSs Φ 1 ad33_7 [a0, a1, some ⟨.fz, .str j⟩, a3, some ⟨.fz, .str w⟩, some ⟨.own, .lst R⟩, a6, some ⟨.own, .lst W⟩, some ⟨.own, .lst W⟩, some ⟨.fz, .str e⟩, a10, a11, a12, a13, a14] := by
  simp [ad33_6, evSs, evS, evE, evEs, Rs.bind, En.get, op2, look, lookAll, toRs, hm, hm1, hs, keepSl, setAll, pick, callR, frzDup, argsOf, argOf, outsTo, f1]
theorem st33_7 (x1 : Φ 27 [⟨.own, .lst W⟩, ⟨.own, .lst W⟩] = .ret false (.bl true) [⟨.own, .lst W⟩, ⟨.own, .lst W⟩]) (f1 : Φ 15 [⟨.fz, .str w⟩, ⟨.fz, .str j⟩, ⟨.own, .lst R⟩] = .ret true (.lst W) [⟨.fz, .str w⟩, ⟨.fz, .str j⟩, ⟨.own, .lst R⟩]) (hne : cmpD .ne (.lst W) (.lst W) = some false)
    (f2 : Φ 16 [⟨.fz, .str w⟩, ⟨.fz, .str j⟩, ⟨.own, .lst R⟩] = .ret false (.str e) [⟨.fz, .str w⟩, ⟨.fz, .str j⟩, ⟨.own, .lst R⟩]) (x2 : Φ 27 [⟨.fz, .str e⟩, ⟨.fz, .str e⟩] = .ret false (.bl true) [⟨.fz, .str e⟩, ⟨.fz, .str e⟩]) :
    evSs Φ 1 ad33_7 [a0, a1, some ⟨.fz, .str j⟩, a3, some ⟨.fz, .str w⟩, some ⟨.own, .lst R⟩, a6, some ⟨.own, .lst W⟩, some ⟨.own, .lst W⟩, some ⟨.fz, .str e⟩, a10, a11, a12, a13, a14] = evSs Φ 1 ad33_8 [a0, a1, some ⟨.fz, .str j⟩, a3, some ⟨.fz, .str w⟩, some ⟨.own, .lst R⟩, a6, some ⟨.own, .lst W⟩, some ⟨.own, .lst W⟩, some ⟨.fz, .str e⟩, a10, a11, a12, a13, a14] := by
  simp [ad33_7, evSs, evS, evT, evE, evEs, Rs.bind, En.get, op1, op2, look, toRb, truth, hne, pick, callR, frzDup, argsOf, argOf, outsTo, x1, f1, f2, x2]
theorem st33_8 (h : W.length < LIM) : evSs Φ 1 ad33_8 [a0, a1, some ⟨.fz, .str j⟩, a3, some ⟨.fz, .str w⟩, some ⟨.own, .lst R⟩, a6, a7, some ⟨.own, .lst W⟩, a9, a10, a11, a12, a13, a14] = evSs Φ 1 ad33_9 [a0, a1, some ⟨.fz, .str j⟩, a3, some ⟨.fz, .str w⟩, some ⟨.own, .lst R⟩, a6, a7, some ⟨.own, .lst (W ++ [.non])⟩, a9, a10, a11, a12, a13, a14] := by
  simp [ad33_8, evSs, evS, evE, evEs, Rs.bind, En.get, op1, look, keep, mtOk, mthR, h]
theorem st33_9 (f1 : Φ 15 [⟨.fz, .str w⟩, ⟨.fz, .str j⟩, ⟨.own, .lst R⟩] = .ret true (.lst W) [⟨.fz, .str w⟩, ⟨.fz, .str j⟩, ⟨.own, .lst R⟩]) (hne : cmpD .ne (.lst W) (.lst W) = some false)
    (f2 : Φ 16 [⟨.fz, .str w⟩, ⟨.fz, .str j⟩, ⟨.own, .lst R⟩] = .ret false (.str e) [⟨.fz, .str w⟩, ⟨.fz, .str j⟩, ⟨.own, .lst R⟩]) (hns : cmpD .ne (.str e) (.str e) = some false) (hnr : cmpD .ne (.lst R) (.lst R) = some false) :
    evSs Φ 1 ad33_9 [a0, a1, some ⟨.fz, .str j⟩, a3, some ⟨.fz, .str w⟩, some ⟨.own, .lst R⟩, some ⟨.own, .lst R⟩, some ⟨.own, .lst W⟩, a8, some ⟨.fz, .str e⟩, a10, a11, a12, a13, a14] = evSs Φ 1 ad33_10 [a0, a1, some ⟨.fz, .str j⟩, a3, some ⟨.fz, .str w⟩, some ⟨.own, .lst R⟩, some ⟨.own, .lst R⟩, some ⟨.own, .lst W⟩, a8, some ⟨.fz, .str e⟩, a10, a11, a12, a13, a14] := by
  simp [ad33_9, evSs, evS, evT, evE, evEs, Rs.bind, En.get, op1, op2, look, toRb, truth, hne, hns, hnr, pick, callR, frzDup, argsOf, argOf, outsTo, f1, f2]
theorem st33_10 (f1 : Φ 17 [⟨.fz, .int n⟩, ⟨.own, .lst R⟩] = .ret true (.lst B) [⟨.fz, .int n⟩, ⟨.own, .lst R⟩]) :
    evSs Φ 1 ad33_10 [a0, a1, some ⟨.fz, .str j⟩, some ⟨.fz, .int n⟩, some ⟨.fz, .str w⟩, some ⟨.own, .lst R⟩, a6, a7, a8, a9, a10, a11, a12, a13, a14] = evSs Φ 1 ad33_11 [a0, a1, some ⟨.fz, .str j⟩, some ⟨.fz, .int n⟩, some ⟨.fz, .str w⟩, some ⟨.own, .lst R⟩, a6, a7, a8, a9, some ⟨.own, .lst B⟩, a11, a12, a13, a14] := by
  simp [ad33_10, evSs, evS, evE, evEs, Rs.bind, En.get, storeR, pick, callR, frzDup, argsOf, argOf, outsTo, f1]
theorem st33_11 (lc : evE Φ al33_0 [a0, a1, some ⟨.fz, .str j⟩, some ⟨.fz, .int n⟩, some ⟨.fz, .str w⟩, some ⟨.own, .lst R⟩, a6, a7, a8, a9, some ⟨.own, .lst B⟩, a11, a12, a13, a14] = .ok (.o (.lst B)) [a0, a1, some ⟨.fz, .str j⟩, some ⟨.fz, .int n⟩, some ⟨.fz, .str w⟩, some ⟨.own, .lst R⟩, a6, a7, a8, a9, some ⟨.own, .lst B⟩, a11, a12, a13, a14])
    (f1 : Φ 17 [⟨.fz, .int n⟩, ⟨.own, .lst R⟩] = .ret true (.lst B) [⟨.fz, .int n⟩, ⟨.own, .lst R⟩]) (x1 : Φ 27 [⟨.own, .lst B⟩, ⟨.own, .lst B⟩] = .ret false (.bl true) [⟨.own, .lst B⟩, ⟨.own, .lst B⟩]) (hne : cmpD .ne (.lst B) (.lst B) = some false) :
    evSs Φ 1 ad33_11 [a0, a1, some ⟨.fz, .str j⟩, some ⟨.fz, .int n⟩, some ⟨.fz, .str w⟩, some ⟨.own, .lst R⟩, a6, a7, a8, a9, some ⟨.own, .lst B⟩, a11, a12, a13, a14] = evSs Φ 1 ad33_12 [a0, a1, some ⟨.fz, .str j⟩, some ⟨.fz, .int n⟩, some ⟨.fz, .str w⟩, some ⟨.own, .lst R⟩, a6, a7, a8, a9, some ⟨.own, .lst B⟩, a11, a12, a13, a14] := by
  simp [ad33_11, evSs, evS, evT, evE, evEs, Rs.bind, En.get, op1, op2, look, toRb, truth, hne, pick, callR, frzDup, argsOf, argOf, outsTo, lc, f1, x1]
theorem st33_12 (f1 : Φ 16 [⟨.fz, .str e⟩, ⟨.fz, .str j⟩, ⟨.own, .lst B⟩] = .ret false (.str w) [⟨.fz, .str e⟩, ⟨.fz, .str j⟩, ⟨.own, .lst B⟩]) (f2 : Φ 17 [⟨.fz, .int n⟩, ⟨.own, .lst B⟩] = .ret true (.lst R) [⟨.fz, .int n⟩, ⟨.own, .lst B⟩]) (hns : cmpD .ne (.str w) (.str w) = some false) (hnr : cmpD .ne (.lst R) (.lst R) = some false) :
    evSs Φ 1 ad33_12 [a0, a1, some ⟨.fz, .str j⟩, some ⟨.fz, .int n⟩, some ⟨.fz, .str w⟩, some ⟨.own, .lst R⟩, some ⟨.own, .lst R⟩, a7, a8, some ⟨.fz, .str e⟩, some ⟨.own, .lst B⟩, a11, a12, a13, a14] = evSs Φ 1 ad33_13 [a0, a1, some ⟨.fz, .str j⟩, some ⟨.fz, .int n⟩, some ⟨.fz, .str w⟩, some ⟨.own, .lst R⟩, some ⟨.own, .lst R⟩, a7, a8, some ⟨.fz, .str e⟩, some ⟨.own, .lst B⟩, a11, a12, a13, a14] := by
  simp [ad33_12, evSs, evS, evT, evE, evEs, Rs.bind, En.get, op1, op2, look, toRb, truth, hns, hnr, pick, callR, frzDup, argsOf, argOf, outsTo, f1, f2]
theorem st33_13 {V : List D} (f1 : Φ 15 [⟨.fz, .str e⟩, ⟨.fz, .str j⟩, ⟨.own, .lst B⟩] = .ret true (.lst V) [⟨.fz, .str e⟩, ⟨.fz, .str j⟩, ⟨.own, .lst B⟩]) (hv : revD (.lst W) (.int (-1)) = some (.o (.lst V))) (hnv : cmpD .ne (.lst V) (.lst V) = some false) :
    evSs Φ 1 ad33_13 [a0, a1, some ⟨.fz, .str j⟩, a3, some ⟨.fz, .str w⟩, some ⟨.own, .lst R⟩, a6, some ⟨.own, .lst W⟩, a8, some ⟨.fz, .str e⟩, some ⟨.own, .lst B⟩, a11, a12, a13, a14] = evSs Φ 1 ad33_14 [a0, a1, some ⟨.fz, .str j⟩, a3, some ⟨.fz, .str w⟩, some ⟨.own, .lst R⟩, a6, some ⟨.own, .lst W⟩, a8, some ⟨.fz, .str e⟩, some ⟨.own, .lst B⟩, a11, a12, a13, a14] := by
  have hb : binD .sub (.int 0) (.int 1) = some (.v (.int (-1))) := rfl
  simp [ad33_13, evSs, evS, evT, evE, evEs, Rs.bind, En.get, op1, op2, look, toRs, toRb, truth, hb, hv, hnv, pick, callR, frzDup, argsOf, argOf, outsTo, f1]
theorem st33_14 {g g' : D} (f1 : Φ 30 [⟨.own, g⟩, ⟨.fz, .str e⟩, ⟨.fz, .str j⟩, ⟨.fz, .int 4⟩] = .ret true (.lst M) [⟨.own, g'⟩, ⟨.fz, .str e⟩, ⟨.fz, .str j⟩, ⟨.fz, .int 4⟩]) :
    evSs Φ 1 ad33_14 [some ⟨.own, g⟩, a1, some ⟨.fz, .str j⟩, a3, some ⟨.fz, .str w⟩, some ⟨.own, .lst R⟩, a6, a7, a8, some ⟨.fz, .str e⟩, a10, a11, a12, a13, a14] = evSs Φ 1 ad33_15 [some ⟨.own, g'⟩, a1, some ⟨.fz, .str j⟩, a3, some ⟨.fz, .str w⟩, some ⟨.own, .lst R⟩, a6, a7, a8, some ⟨.fz, .str e⟩, a10, a11, some ⟨.own, .lst M⟩, a13, a14] := by
  simp [ad33_14, evSs, evS, evE, evEs, Rs.bind, En.get, storeR, pick, callR, frzDup, argsOf, argOf, outsTo, f1]
theorem st33_15 {z : List Nat} {RM : List D} (hb : binD .add (.lst R) (.lst M) = some (.o (.lst RM))) (f1 : Φ 16 [⟨.fz, .str w⟩, ⟨.fz, .str j⟩, ⟨.own, .lst RM⟩] = .ret false (.str z) [⟨.fz, .str w⟩, ⟨.fz, .str j⟩, ⟨.own, .lst RM⟩]) (f2 : Φ 16 [⟨.fz, .str w⟩, ⟨.fz, .str j⟩, ⟨.own, .lst R⟩] = .ret false (.str e) [⟨.fz, .str w⟩, ⟨.fz, .str j⟩, ⟨.own, .lst R⟩])
    (f3 : Φ 16 [⟨.fz, .str e⟩, ⟨.fz, .str j⟩, ⟨.own, .lst M⟩] = .ret false (.str z) [⟨.fz, .str e⟩, ⟨.fz, .str j⟩, ⟨.own, .lst M⟩]) (hns : cmpD .ne (.str z) (.str z) = some false) :
    evSs Φ 1 ad33_15 [a0, a1, some ⟨.fz, .str j⟩, a3, some ⟨.fz, .str w⟩, some ⟨.own, .lst R⟩, a6, a7, a8, a9, a10, a11, some ⟨.own, .lst M⟩, a13, a14] = evSs Φ 1 ad33_16 [a0, a1, some ⟨.fz, .str j⟩, a3, some ⟨.fz, .str w⟩, some ⟨.own, .lst R⟩, a6, a7, a8, a9, a10, a11, some ⟨.own, .lst M⟩, a13, a14] := by
  simp [ad33_15, evSs, evS, evT, evE, evEs, Rs.bind, En.get, op1, op2, look, toRs, toRb, truth, hb, hns, pick, callR, frzDup, argsOf, argOf, outsTo, f1, f2, f3]
end
end Ev

set_option Elab.async false
set_option linter.all false
set_option maxRecDepth 100000
set_option maxHeartbeats 8000000
/-! Q16: the law's second part: its start, its loop. Own work. -/
namespace Ev
section
variable {Φ : Fns} {a0 a1 a3 a5 a6 a7 a8 a9 a10 a11 a12 a13 a14 : Option Sl} {w j l : List Nat} {n : Int}
theorem st33_0 {g g1 g2 : D} (f1 : Φ 23 [⟨.own, g⟩, ⟨.fz, .int 1⟩, ⟨.fz, .int 5⟩] = .ret false (.str l) [⟨.own, g1⟩, ⟨.fz, .int 1⟩, ⟨.fz, .int 5⟩]) (f2 : Φ 24 [⟨.own, g1⟩, ⟨.fz, .str l⟩] = .ret false (.str j) [⟨.own, g2⟩, ⟨.fz, .str l⟩]) :
    evSs Φ 1 ad33_0 [some ⟨.own, g⟩, none, none, none, none, none, none, none, none, none, none, none, none, none, none] = evSs Φ 1 ad33_2 [some ⟨.own, g2⟩, some ⟨.fz, .str l⟩, some ⟨.fz, .str j⟩, none, none, none, none, none, none, none, none, none, none, none, none] := by
  simp [ad33_0, ad33_1, evSs, evS, evE, evEs, Rs.bind, En.get, storeR, pick, callR, frzDup, argsOf, argOf, outsTo, f1, f2]
theorem pick2 {g g1 g2 g3 : D} {x y r s : Int} {e1 e2 : E} {ρ : En} {rest : En} (hρ : ρ = some ⟨.own, g⟩ :: rest) (h1 : evE Φ e1 ρ = .ok (.v (.int x)) (some ⟨.own, g1⟩ :: rest)) (h2 : evE Φ e2 (some ⟨.own, g1⟩ :: rest) = .ok (.v (.int y)) (some ⟨.own, g2⟩ :: rest)) (f3 : Φ 19 [⟨.own, g2⟩, ⟨.fz, .int 2⟩] = .ret false (.int r) [⟨.own, g3⟩, ⟨.fz, .int 2⟩]) (hs : subD (.lst [.int x, .int y]) (.int r) = some (.int s)) :
    evE Φ (.sub (.lst (.cons e1 (.cons e2 .nil))) (.call 19 [0, 1] (.cons (.var 0) (.cons (.lit (.int 2)) .nil)) .nil)) ρ = .ok (.v (.int s)) (some ⟨.own, g3⟩ :: rest) := by
  have h2L : 2 ≤ LIM := by decide
  subst hρ
  simp [evE, evEs, Rs.bind, En.get, op2, look, keepAll, keep, h1, h2, h2L, pick, callR, frzDup, argsOf, argOf, outsTo, f3, hs]
theorem draw_ev {g g1 : D} {x m : Int} {rest : En} (f : Φ 19 [⟨.own, g⟩, ⟨.fz, .int m⟩] = .ret false (.int x) [⟨.own, g1⟩, ⟨.fz, .int m⟩]) : evE Φ (.call 19 [0, 1] (.cons (.var 0) (.cons (.lit (.int m)) .nil)) .nil) (some ⟨.own, g⟩ :: rest) = .ok (.v (.int x)) (some ⟨.own, g1⟩ :: rest) := by
  simp [evE, evEs, Rs.bind, En.get, pick, callR, frzDup, argsOf, argOf, outsTo, f]
theorem st33_3 {g g1 : D} (f1 : Φ 22 [⟨.own, g⟩, ⟨.fz, .str l⟩, ⟨.fz, .int n⟩] = .ret false (.str w) [⟨.own, g1⟩, ⟨.fz, .str l⟩, ⟨.fz, .int n⟩]) :
    evSs Φ 1 ad33_3 [some ⟨.own, g⟩, some ⟨.fz, .str l⟩, some ⟨.fz, .str j⟩, some ⟨.fz, .int n⟩, none, none, none, none, none, none, none, none, none, none, none] = evSs Φ 1 ad33_4 [some ⟨.own, g1⟩, some ⟨.fz, .str l⟩, some ⟨.fz, .str j⟩, some ⟨.fz, .int n⟩, some ⟨.fz, .str w⟩, none, none, none, none, none, none, none, none, none, none] := by
  simp [ad33_3, evSs, evS, evE, evEs, Rs.bind, En.get, storeR, pick, callR, frzDup, argsOf, argOf, outsTo, f1]
def ee33 : E := (.sub (.lst (.cons (.call 19 [0, 1] (.cons (.var 0) (.cons (.lit (.int 6)) .nil)) .nil) (.cons (.lit (.int 60)) .nil))) (.call 19 [0, 1] (.cons (.var 0) (.cons (.lit (.int 2)) .nil)) .nil))
theorem st33_4 {g g1 g2 : D} {M : Int} {R : List D} (hp : evE Φ ee33 [some ⟨.own, g⟩, some ⟨.fz, .str l⟩, some ⟨.fz, .str j⟩, some ⟨.fz, .int n⟩, some ⟨.fz, .str w⟩, none, none, none, none, none, none, none, none, none, none] = .ok (.v (.int M)) [some ⟨.own, g1⟩, some ⟨.fz, .str l⟩, some ⟨.fz, .str j⟩, some ⟨.fz, .int n⟩, some ⟨.fz, .str w⟩, none, none, none, none, none, none, none, none, none, none])
    (f1 : Φ 30 [⟨.own, g1⟩, ⟨.fz, .str w⟩, ⟨.fz, .str j⟩, ⟨.fz, .int M⟩] = .ret true (.lst R) [⟨.own, g2⟩, ⟨.fz, .str w⟩, ⟨.fz, .str j⟩, ⟨.fz, .int M⟩]) :
    evSs Φ 1 ad33_4 [some ⟨.own, g⟩, some ⟨.fz, .str l⟩, some ⟨.fz, .str j⟩, some ⟨.fz, .int n⟩, some ⟨.fz, .str w⟩, none, none, none, none, none, none, none, none, none, none] = evSs Φ 1 ad33_5 [some ⟨.own, g2⟩, some ⟨.fz, .str l⟩, some ⟨.fz, .str j⟩, some ⟨.fz, .int n⟩, some ⟨.fz, .str w⟩, some ⟨.own, .lst R⟩, none, none, none, none, none, none, none, none, none] := by
  have hd : ad33_4 = .cons (.set 5 (.call 30 [0, 1, 2, 3] (.cons (.var 0) (.cons (.var 4) (.cons (.var 2) (.cons ee33 .nil)))) .nil)) ad33_5 := rfl
  rw [hd]
  simp [evSs, evS, evE, evEs, Rs.bind, En.get, storeR, pick, callR, frzDup, argsOf, argOf, outsTo, hp, f1]
theorem it33 {g g1 : D} {R Bt Z : List D} (f1 : Φ 32 [⟨.own, g⟩, ⟨.fz, .lst R⟩, ⟨.fz, .int n⟩] = .ret true (.lst Bt) [⟨.own, g1⟩, ⟨.fz, .lst R⟩, ⟨.fz, .int n⟩]) (hn : biD .len [.str w] = some (.v (.int n))) (hb : binD .add (.lst [.lst R, .lst []]) (.lst Bt) = some (.o (.lst Z))) :
    evE Φ (.bin .add (.lst (.cons (.var 5) (.cons (.lst .nil) .nil))) (.call 32 [0, 1, 2] (.cons (.var 0) (.cons (.var 5) (.cons (.bi .len (.cons (.var 4) .nil)) .nil))) .nil)) [some ⟨.own, g⟩, a1, some ⟨.fz, .str j⟩, a3, some ⟨.fz, .str w⟩, some ⟨.own, .lst R⟩, a6, a7, a8, a9, a10, a11, a12, a13, a14] = .ok (.o (.lst Z)) [some ⟨.own, g1⟩, a1, some ⟨.fz, .str j⟩, a3, some ⟨.fz, .str w⟩, some ⟨.fz, .lst R⟩, a6, a7, a8, a9, a10, a11, a12, a13, a14] := by
  have h2 : 2 ≤ LIM := by decide
  simp [evE, evEs, Rs.bind, En.get, op2, look, lookAll, toRs, keep, keepAll, h2, hn, hb, pick, callR, frzDup, argsOf, argOf, outsTo, f1]
def andE : E := (.and (.bi .islist (.cons (.var 13) .nil)) (.cmp .isnot (.call 31 [0, 1, 2] (.cons (.var 4) (.cons (.var 2) (.cons (.var 13) .nil))) .nil) (.lit .non)))
theorem and_l {ds : List D} {own : Bool} {d : D} {b : Bool} (f1 : Φ 31 [⟨.fz, .str w⟩, ⟨.fz, .str j⟩, ⟨.fz, .lst ds⟩] = .ret own d [⟨.fz, .str w⟩, ⟨.fz, .str j⟩, ⟨.fz, .lst ds⟩]) (hb : cmpD .isnot d .non = some b) :
    evE Φ andE [a0, a1, some ⟨.fz, .str j⟩, a3, some ⟨.fz, .str w⟩, a5, a6, a7, a8, a9, a10, a11, a12, some ⟨.fz, .lst ds⟩, a14] = .ok (.v (.bl b)) [a0, a1, some ⟨.fz, .str j⟩, a3, some ⟨.fz, .str w⟩, a5, a6, a7, a8, a9, a10, a11, a12, some ⟨.fz, .lst ds⟩, a14] := by
  cases own <;> simp [andE, evE, evEs, Rs.bind, En.get, op1, op2, look, lookAll, toRs, toRb, truth, biD, hb, pick, callR, frzDup, argsOf, argOf, outsTo, f1]
theorem and_n {v : D} (h : noList v = true) :
    evE Φ andE [a0, a1, some ⟨.fz, .str j⟩, a3, some ⟨.fz, .str w⟩, a5, a6, a7, a8, a9, a10, a11, a12, some ⟨.fz, v⟩, a14] = .ok (.v (.bl false)) [a0, a1, some ⟨.fz, .str j⟩, a3, some ⟨.fz, .str w⟩, a5, a6, a7, a8, a9, a10, a11, a12, some ⟨.fz, v⟩, a14] := by
  cases v <;> simp only [noList, known] at h <;> (try (cases h; done)) <;>
    simp [andE, evE, evEs, Rs.bind, En.get, op1, look, lookAll, toRs, truth, biD]
theorem b33_ok {v : D} {b : Bool} {s : List Nat} (ha : evE Φ andE [a0, a1, some ⟨.fz, .str j⟩, a3, some ⟨.fz, .str w⟩, a5, a6, a7, a8, a9, a10, a11, a12, some ⟨.fz, v⟩, a14] = .ok (.v (.bl b)) [a0, a1, some ⟨.fz, .str j⟩, a3, some ⟨.fz, .str w⟩, a5, a6, a7, a8, a9, a10, a11, a12, some ⟨.fz, v⟩, a14]) (hr : biD .repr [v] = some (.v (.str s)))
    (f14 : Φ 14 [⟨.fz, .str w⟩, ⟨.fz, .str j⟩, ⟨.fz, v⟩] = .ret false (.bl b) [⟨.fz, .str w⟩, ⟨.fz, .str j⟩, ⟨.fz, v⟩]) (f29 : Φ 29 [⟨.fz, .bl b⟩, ⟨.fz, .bl b⟩] = .ret false (.bl true) [⟨.fz, .bl b⟩, ⟨.fz, .bl b⟩]) :
    evSs Φ 1 ab33_1 [a0, a1, some ⟨.fz, .str j⟩, a3, some ⟨.fz, .str w⟩, a5, a6, a7, a8, a9, a10, a11, a12, some ⟨.fz, v⟩, a14] = .ok .nx [a0, a1, some ⟨.fz, .str j⟩, a3, some ⟨.fz, .str w⟩, a5, some ⟨.fz, .str s⟩, a7, a8, a9, a10, a11, a12, some ⟨.fz, v⟩, some ⟨.fz, .bl b⟩] := by
  have hns := ne_str s
  have h1 : evS Φ 1 (.par [14, 6] (.cons andE (.cons (.bi .repr (.cons (.var 13) .nil)) .nil))) [a0, a1, some ⟨.fz, .str j⟩, a3, some ⟨.fz, .str w⟩, a5, a6, a7, a8, a9, a10, a11, a12, some ⟨.fz, v⟩, a14] = .ok .nx [a0, a1, some ⟨.fz, .str j⟩, a3, some ⟨.fz, .str w⟩, a5, some ⟨.fz, .str s⟩, a7, a8, a9, a10, a11, a12, some ⟨.fz, v⟩, some ⟨.fz, .bl b⟩] := by
    simp [evS, evE, evEs, Rs.bind, En.get, look, lookAll, toRs, hr, keepSl, setAll, ha]
  have hb : ab33_1 = .cons (.par [14, 6] (.cons andE (.cons (.bi .repr (.cons (.var 13) .nil)) .nil))) (.cons (.iff (.not (.val (.call 29 [0, 1] (.cons (.call 14 [0, 1, 2] (.cons (.var 4) (.cons (.var 2) (.cons (.var 13) .nil))) .nil) (.cons (.var 14) .nil)) .nil))) (.cons (.ret (.lit (.bl false))) .nil) .nil) (.cons (.iff (.or (.not (.val (.call 29 [0, 1] (.cons (.call 14 [1, 2, 0] .nil (.cons (.var 13) (.cons (.var 4) (.cons (.var 2) .nil)))) (.cons (.var 14) .nil)) .nil))) (.val (.cmp .ne (.bi .repr (.cons (.var 13) .nil)) (.var 6)))) (.cons (.ret (.lit (.bl false))) .nil) .nil) .nil)) := rfl
  rw [hb, nx_ev h1]
  simp [evSs, evS, evT, evE, evEs, Rs.bind, En.get, op1, op2, look, lookAll, toRs, toRb, truth, hr, hns, pick, callR, frzDup, argsOf, argOf, outsTo, f14, f29]
end
section
variable {Δ : Tab} (K : Ka Δ)
include K
theorem yes29 (k : Nat) (b : Bool) : Phi Δ (k + 1) 29 [⟨.fz, .bl b⟩, ⟨.fz, .bl b⟩] = .ret false (.bl true) [⟨.fz, .bl b⟩, ⟨.fz, .bl b⟩] := by
  have := yes_ok K.h29 k b b
  rw [this]
  cases b <;> rfl
theorem loop33 (k : Nat) {w j : List Nat} (o : OkW w j) {a0 a1 a3 a5 a6 a7 a8 a9 a10 a11 a12 a13 a14 : Option Sl} {rows : List D} (hr : ∀ v ∈ rows, Sv v) : ∃ y6 y13 y14 : Option Sl,
    forGo (withTg [13] (evSs (Phi Δ (k + 6)) 1 ab33_1)) rows [a0, a1, some ⟨.fz, .str j⟩, a3, some ⟨.fz, .str w⟩, a5, a6, a7, a8, a9, a10, a11, a12, a13, a14] = .ok .nx [a0, a1, some ⟨.fz, .str j⟩, a3, some ⟨.fz, .str w⟩, a5, y6, a7, a8, a9, a10, a11, a12, y13, y14] := by
  obtain ⟨ρ', e, y6, y13, y14, rfl⟩ := forGo_chk (f := withTg [13] (evSs (Phi Δ (k + 6)) 1 ab33_1)) (p := fun _ => true) (o := false) (r := .bl false) (fun ρ => ∃ y6 y13 y14 : Option Sl, ρ = [a0, a1, some ⟨.fz, .str j⟩, a3, some ⟨.fz, .str w⟩, a5, y6, a7, a8, a9, a10, a11, a12, y13, y14]) (rows := rows) (ρ := [a0, a1, some ⟨.fz, .str j⟩, a3, some ⟨.fz, .str w⟩, a5, a6, a7, a8, a9, a10, a11, a12, a13, a14]) (fun v hv ρ hI => by
    obtain ⟨y6, y13, y14, rfl⟩ := hI
    have sv := hr v hv
    rcases sv.kn with ⟨ds, rfl, hk, hd⟩ | hn
    · have f31 := passed31 K (k + 2) (j := j) (md := .fz) o.wl hk hd
      have f14 := isRoad_ok K (k + 1) o hk hd
      have hand : evE (Phi Δ (k + 6)) andE [a0, a1, some ⟨.fz, .str j⟩, a3, some ⟨.fz, .str w⟩, a5, y6, a7, a8, a9, a10, a11, a12, some ⟨.fz, .lst ds⟩, y14] = .ok (.v (.bl (pasD w j ds).isSome)) [a0, a1, some ⟨.fz, .str j⟩, a3, some ⟨.fz, .str w⟩, a5, y6, a7, a8, a9, a10, a11, a12, some ⟨.fz, .lst ds⟩, y14] := by
        cases hp : pasD w j ds with
        | some xs =>
          rw [hp] at f31
          exact and_l f31 rfl
        | none =>
          rw [hp] at f31
          exact and_l f31 rfl
      refine ⟨_, ?_, some ⟨.fz, .str (shownD (.lst ds))⟩, some ⟨.fz, .lst ds⟩, some ⟨.fz, .bl (pasD w j ds).isSome⟩, rfl⟩
      simp only [withTg, assignD]
      exact b33_ok hand sv.rp f14 (yes29 K (k + 5) _)
    · have f14 := isRoad_no K (k + 1) o hn
      refine ⟨_, ?_, some ⟨.fz, .str (shownD v)⟩, some ⟨.fz, v⟩, some ⟨.fz, .bl false⟩, rfl⟩
      simp only [withTg, assignD]
      exact b33_ok (and_n hn) sv.rp f14 (yes29 K (k + 5) _)) ⟨_, _, _, rfl⟩
  simp only [if_true, (show (rows.all fun _ => true) = true by simp)] at e
  exact ⟨y6, y13, y14, e⟩
omit K in
theorem l33_ev {Φ : Fns} {a0 a1 a2 a4 a6 a7 a8 a9 a10 a12 a13 a14 : Option Sl} {ps : List Nat} {n : Nat} (h : ∀ p ∈ ps, p < n) (hl : ps.length ≤ LIM) :
    evE Φ al33_0 [a0, a1, a2, some ⟨.fz, .int n⟩, a4, some ⟨.own, .lst (rdL ps)⟩, a6, a7, a8, a9, a10, none, a12, a13, a14] = .ok (.o (.lst (rdL (bk n ps)))) [a0, a1, a2, some ⟨.fz, .int n⟩, a4, some ⟨.own, .lst (rdL ps)⟩, a6, a7, a8, a9, a10, none, a12, a13, a14] := by
  obtain ⟨ρ', e, x7, rfl⟩ := lcGo_pure (f := lcTg [11] [11] (evTs Φ .nil) (evE Φ ae33_0)) (q := bkQ n) (fun ρ => ∃ x : Option Sl, ρ = [a0, a1, a2, some ⟨.fz, .int n⟩, a4, some ⟨.own, .lst (rdL ps)⟩, a6, a7, a8, a9, a10, x, a12, a13, a14]) (rows := rdL ps.reverse) (ρ := [a0, a1, a2, some ⟨.fz, .int n⟩, a4, some ⟨.own, .lst (rdL ps)⟩, a6, a7, a8, a9, a10, none, a12, a13, a14]) (fun d hd ρ ⟨x7, hρ⟩ => by
    subst hρ
    obtain ⟨p, hp, rfl⟩ := List.mem_map.mp hd
    refine ⟨[a0, a1, a2, some ⟨.fz, .int n⟩, a4, some ⟨.own, .lst (rdL ps)⟩, a6, a7, a8, a9, a10, some ⟨.fz, .int p⟩, a12, a13, a14], ?_, _, rfl⟩
    generalize (n : Int) = a
    generalize (p : Int) = c
    simp [lcTg, assignD, wipeE, ae33_0, bkQ, evTs, evE, Rs.bind, En.get, op1, op2, look, toRs, binD, keep]) ⟨none, rfl⟩
  rw [bkQ_map fun p hp => h p (List.mem_reverse.mp hp)] at e
  have hrv : evE Φ (.rev (.var 5) (.bin .sub (.lit (.int 0)) (.lit (.int 1)))) [a0, a1, a2, some ⟨.fz, .int n⟩, a4, some ⟨.own, .lst (rdL ps)⟩, a6, a7, a8, a9, a10, none, a12, a13, a14] = .ok (.o (.lst (rdL ps.reverse))) [a0, a1, a2, some ⟨.fz, .int n⟩, a4, some ⟨.own, .lst (rdL ps)⟩, a6, a7, a8, a9, a10, none, a12, a13, a14] := by
    have hb2 : binD .sub (.int 0) (.int 1) = some (.v (.int (-1))) := rfl
    have hv : revD (.lst (rdL ps)) (.int (-1)) = some (.o (.lst (rdL ps.reverse))) := by
      rw [← rdL_rev]
      simp [revD]
    generalize rdL ps.reverse = r2 at hv ⊢
    generalize rdL ps = r1 at hv ⊢
    generalize (n : Int) = nn
    simp [evE, Rs.bind, En.get, op2, look, toRs, hb2, hv]
  have hh := lc_ev (elt := ae33_0) (ts := .nil) (tg := [11]) (own := [11]) (rs := [.o (.lst (rdL ps.reverse))]) (seq_ev hrv rfl rfl) e (by unfold rdL; rw [List.length_map, List.length_map, List.length_reverse]; exact hl)
  unfold al33_0
  exact hh
end
end Ev

set_option Elab.async false
set_option linter.all false
set_option maxRecDepth 100000
set_option maxHeartbeats 8000000
/-! Q17: the law's second part as a whole. Own work. -/
namespace Ev
section
variable {Δ : Tab} (K : Ka Δ)
include K
theorem d33_ok (k : Nat) {g : D} (hg : Gen 800 g) : ∃ g', Phi Δ (k + 7) 33 [⟨.own, g⟩] = .ret false (.bl true) [⟨.own, g'⟩] := by
  rw [Phi_s K.h33]
  obtain ⟨l, g1, hl1, hl2, hs, ha, hg1, e1⟩ := letters2_ok K.h18 K.h19 K.h23 (k + 3) (m := 780) (hg.mono (by omega)) (M := 5) (by decide)
  obtain ⟨j, g2, hg2, hjl, hjs, hja, e2⟩ := joints2_ok K (k + 3) (m := 770) (hg1.mono (by omega)) (by omega) hs ha
  obtain ⟨r1, g3, r10, r11, hg3, e3⟩ := draw_ok K.h18 K.h19 (k + 4) (m := 760) (hg2.mono (by omega)) (n := 7) (by decide)
  obtain ⟨r2, g4, r20, r21, hg4, e4⟩ := draw_ok K.h18 K.h19 (k + 4) (m := 750) (hg3.mono (by omega)) (n := 41) (by decide)
  obtain ⟨i, g5, i0, i1, hg5, e5⟩ := draw_ok K.h18 K.h19 (k + 4) (m := 740) (hg4.mono (by omega)) (n := 2) (by decide)
  have hsz : ∃ s : Int, subD (.lst [.int r1, .int r2]) (.int i) = some (.int s) ∧ 0 ≤ s ∧ s ≤ 40 := by
    have : i = 0 ∨ i = 1 := by omega
    rcases this with rfl | rfl
    · exact ⟨r1, rfl, by omega, by omega⟩
    · exact ⟨r2, rfl, by omega, by omega⟩
  obtain ⟨s, es, s0, s1⟩ := hsz
  obtain ⟨w, g6, hg6, hw, hws, e6⟩ := word2_ok K.h18 K.h19 K.h22 (k + 3) (m := 300) (l := l) (s := s) (hg5.mono (by omega)) ⟨hl1, by omega⟩ hs ⟨s0, by omega⟩
  obtain ⟨r3, g7, r30, r31, hg7, e7⟩ := draw_ok K.h18 K.h19 (k + 4) (m := 290) (hg6.mono (by omega)) (n := 6) (by decide)
  obtain ⟨i2, g8, i20, i21, hg8, e8⟩ := draw_ok K.h18 K.h19 (k + 4) (m := 280) (hg7.mono (by omega)) (n := 2) (by decide)
  have hsz2 : ∃ M : Int, subD (.lst [.int r3, .int 60]) (.int i2) = some (.int M) ∧ 0 ≤ M ∧ M ≤ 60 := by
    have : i2 = 0 ∨ i2 = 1 := by omega
    rcases this with rfl | rfl
    · exact ⟨r3, rfl, by omega, by omega⟩
    · exact ⟨60, rfl, by omega, by omega⟩
  obtain ⟨M, eM, M0, M1⟩ := hsz2
  have o : OkW w j := ⟨by omega, hws, by omega, hjs, hja⟩
  obtain ⟨ps, g9, hg9, hv, hpl, e9⟩ := road_ok K (k + 3) (m := 200) (w := w) (j := j) (M := M) (by omega) ⟨M0, by omega⟩ (hg8.mono (by omega))
  have hlt := val_lt hv
  have oe := o.run hv
  have hel := run_len hv
  obtain ⟨qs, g10, hg10, hv2, hql, e10⟩ := road_ok K (k + 3) (m := 100) (w := run w ps) (j := j) (M := 4) (by omega) (by decide) (hg9.mono (by omega))
  obtain ⟨a, r, g11, hg11, hrr, e11⟩ := bent2_ok K (k + 3) (m := 50) (n := w.length) (hg10.mono (by omega)) (by omega) hlt (by omega)
  obtain ⟨b1, b2, b3⟩ := bk_ok hv
  have hL : LIM = 16777216 := rfl
  have hbl : (bk w.length ps).length = ps.length := bk_len
  -- what the doors tell
  have f31 := passed31 K (k + 2) (w := w) (j := j) (ds := rdL ps) (md := .own) o.wl rdL_known (by rw [rdL_len K]; omega)
  rw [pasD_val hv] at f31
  have f15 := passed_ok K (k + 1) (md := .own) o hv (by omega)
  have f16 := done_ok K k (md := .own) o hv (by omega)
  have f17 := back_ok K (k + 2) (n := w.length) (ps := ps) (md := .own) (by omega) hlt (by omega)
  have f17b := back_ok K (k + 2) (n := w.length) (ps := bk w.length ps) (md := .own) (by omega) (bk_lt hlt) (by omega)
  rw [bk_bk hlt] at f17b
  have f16b := done_ok K k (md := .own) oe b1 (by omega)
  rw [b2] at f16b
  have f15b := passed_ok K (k + 1) (md := .own) oe b1 (by omega)
  rw [b3] at f15b
  have f16m := done_ok K k (md := .own) oe hv2 (by omega)
  have hvv := val_app hv hv2
  have f16rm := done_ok K k (md := .own) o hvv (by rw [List.length_append]; omega)
  rw [run_app] at f16rm
  have hrm : binD .add (.lst (rdL ps)) (.lst (rdL qs)) = some (.o (.lst (rdL (ps ++ qs)))) := by
    unfold binD
    simp only
    rw [if_pos (by rw [rdL_len K, rdL_len K]; omega)]
    unfold rdL
    rw [List.map_append]
  have x1 := exact_list K (k + 4) (m1 := .own) (m2 := .own) (atoms_str (w :: wds w ps))
  have x2 := exact_atom K (k + 5) (d := .str (run w ps)) rfl
  have x3 := exact_list K (k + 4) (m1 := .own) (m2 := .own) (atoms_rd (bk w.length ps))
  have neW := ne_atoms (atoms_str (w :: wds w ps))
  have neR := ne_atoms (atoms_rd ps)
  have neB := ne_atoms (atoms_rd (bk w.length ps))
  have neV := ne_atoms (atoms_str (w :: wds w ps).reverse)
  have hWl : ((w :: wds w ps).map D.str).length = ps.length + 1 := by rw [List.length_map, List.length_cons, wds_len]
  have hlen : biD .len [.lst ((w :: wds w ps).map D.str)] = some (.v (.int ((ps.length + 1 : Nat) : Int))) := by
    show some (Vr.v (D.int (((w :: wds w ps).map D.str).length : Int))) = _
    rw [hWl]
  have hlast : subD (.lst ((w :: wds w ps).map D.str)) (.int (((ps.length + 1 : Nat) : Int) - 1)) = some (.str (run w ps)) := by
    have h1 := sub_len (acc := (w :: wds w ps).dropLast) (w := (w :: wds w ps).getLast (List.cons_ne_nil _ _))
    rw [List.dropLast_concat_getLast, wds_last, hWl] at h1
    exact h1
  have hrev : revD (.lst ((w :: wds w ps).map D.str)) (.int (-1)) = some (.o (.lst ((w :: wds w ps).reverse.map D.str))) := by
    rw [List.map_reverse]
    simp [revD]
  subst hw
  simp only [Nat.add_assoc, Nat.reduceAdd] at e1 e2 e3 e4 e5 e6 e7 e8 e9 e10 e11 f31 f15 f16 f17 f17b f16b f15b f16m f16rm x1 x2 x3
  -- the start
  have t0 := st33_0 (Φ := Phi Δ (k + 6)) e1 e2
  have t2 : evSs (Phi Δ (k + 6)) 1 ad33_2 [some ⟨.own, g2⟩, some ⟨.fz, .str l⟩, some ⟨.fz, .str j⟩, none, none, none, none, none, none, none, none, none, none, none, none] = evSs (Phi Δ (k + 6)) 1 ad33_3 [some ⟨.own, g5⟩, some ⟨.fz, .str l⟩, some ⟨.fz, .str j⟩, some ⟨.fz, .int w.length⟩, none, none, none, none, none, none, none, none, none, none, none] :=
    nx_ev (set_ev (pick2 rfl (draw_ev e3) (draw_ev e4) e5 es) rfl)
  have t3 : evSs (Phi Δ (k + 6)) 1 ad33_3 [some ⟨.own, g5⟩, some ⟨.fz, .str l⟩, some ⟨.fz, .str j⟩, some ⟨.fz, .int w.length⟩, none, none, none, none, none, none, none, none, none, none, none] = evSs (Phi Δ (k + 6)) 1 ad33_4 [some ⟨.own, g6⟩, some ⟨.fz, .str l⟩, some ⟨.fz, .str j⟩, some ⟨.fz, .int w.length⟩, some ⟨.fz, .str w⟩, none, none, none, none, none, none, none, none, none, none] := st33_3 e6
  have t4 : evSs (Phi Δ (k + 6)) 1 ad33_4 [some ⟨.own, g6⟩, some ⟨.fz, .str l⟩, some ⟨.fz, .str j⟩, some ⟨.fz, .int w.length⟩, some ⟨.fz, .str w⟩, none, none, none, none, none, none, none, none, none, none] = evSs (Phi Δ (k + 6)) 1 ad33_5 [some ⟨.own, g9⟩, some ⟨.fz, .str l⟩, some ⟨.fz, .str j⟩, some ⟨.fz, .int w.length⟩, some ⟨.fz, .str w⟩, some ⟨.own, .lst (rdL ps)⟩, none, none, none, none, none, none, none, none, none] :=
    st33_4 (pick2 rfl (draw_ev e7) (by unfold evE; rfl) e8 eM) e9
  -- the loop
  have hsv : ∀ v ∈ .lst (rdL ps) :: .lst [] :: bent32 (rdL ps) (rdL (ps.map fun p => w.length - 1 - p)) w.length a r, Sv v := by
    intro v hvm
    rcases List.mem_cons.mp hvm with rfl | hvm
    · exact sv_list (wt_rd (by omega) hlt) (by rw [rdL_len K]; omega) (by rw [rdL_len K]; omega)
    · rcases List.mem_cons.mp hvm with rfl | hvm
      · exact sv_list (n := 0) (fun _ h => absurd h List.not_mem_nil) (by decide) (by decide)
      · exact bent_sv (by omega) hlt (by omega) hrr v hvm
  obtain ⟨y6, y13, y14, lp⟩ := loop33 K k o (a0 := some ⟨.own, g11⟩) (a1 := some ⟨.fz, .str l⟩) (a3 := some ⟨.fz, .int w.length⟩) (a5 := some ⟨.fz, .lst (rdL ps)⟩) (a6 := some ⟨.own, .lst (rdL ps)⟩) (a7 := some ⟨.own, .lst ((w :: wds w ps).map D.str)⟩) (a8 := some ⟨.own, .lst ((w :: wds w ps).map D.str ++ [.non])⟩) (a9 := some ⟨.fz, .str (run w ps)⟩) (a10 := some ⟨.own, .lst (rdL (bk w.length ps))⟩) (a11 := none) (a12 := some ⟨.own, .lst (rdL qs)⟩) (a13 := none) (a14 := none) hsv
  have hit : evE (Phi Δ (k + 6)) (.bin .add (.lst (.cons (.var 5) (.cons (.lst .nil) .nil))) (.call 32 [0, 1, 2] (.cons (.var 0) (.cons (.var 5) (.cons (.bi .len (.cons (.var 4) .nil)) .nil))) .nil)) [some ⟨.own, g10⟩, some ⟨.fz, .str l⟩, some ⟨.fz, .str j⟩, some ⟨.fz, .int w.length⟩, some ⟨.fz, .str w⟩, some ⟨.own, .lst (rdL ps)⟩, some ⟨.own, .lst (rdL ps)⟩, some ⟨.own, .lst ((w :: wds w ps).map D.str)⟩, some ⟨.own, .lst ((w :: wds w ps).map D.str ++ [.non])⟩, some ⟨.fz, .str (run w ps)⟩, some ⟨.own, .lst (rdL (bk w.length ps))⟩, none, some ⟨.own, .lst (rdL qs)⟩, none, none]
      = .ok (.o (.lst (.lst (rdL ps) :: .lst [] :: bent32 (rdL ps) (rdL (ps.map fun p => w.length - 1 - p)) w.length a r))) [some ⟨.own, g11⟩, some ⟨.fz, .str l⟩, some ⟨.fz, .str j⟩, some ⟨.fz, .int w.length⟩, some ⟨.fz, .str w⟩, some ⟨.fz, .lst (rdL ps)⟩, some ⟨.own, .lst (rdL ps)⟩, some ⟨.own, .lst ((w :: wds w ps).map D.str)⟩, some ⟨.own, .lst ((w :: wds w ps).map D.str ++ [.non])⟩, some ⟨.fz, .str (run w ps)⟩, some ⟨.own, .lst (rdL (bk w.length ps))⟩, none, some ⟨.own, .lst (rdL qs)⟩, none, none] := by
    have hbl : (bent32 (rdL ps) (rdL (ps.map fun p => w.length - 1 - p)) w.length a r).length = 18 := rfl
    have hb : binD .add (.lst [.lst (rdL ps), .lst []]) (.lst (bent32 (rdL ps) (rdL (ps.map fun p => w.length - 1 - p)) w.length a r)) = some (.o (.lst (.lst (rdL ps) :: .lst [] :: bent32 (rdL ps) (rdL (ps.map fun p => w.length - 1 - p)) w.length a r))) := by
      unfold binD
      simp only
      rw [if_pos (by rw [hbl]; show 2 + 18 ≤ LIM; decide)] <;> rfl
    have hwl : biD .len [.str w] = some (.v (.int w.length)) := rfl
    exact it33 e11 hwl hb
  have t16 : evSs (Phi Δ (k + 6)) 1 ad33_16 [some ⟨.own, g10⟩, some ⟨.fz, .str l⟩, some ⟨.fz, .str j⟩, some ⟨.fz, .int w.length⟩, some ⟨.fz, .str w⟩, some ⟨.own, .lst (rdL ps)⟩, some ⟨.own, .lst (rdL ps)⟩, some ⟨.own, .lst ((w :: wds w ps).map D.str)⟩, some ⟨.own, .lst ((w :: wds w ps).map D.str ++ [.non])⟩, some ⟨.fz, .str (run w ps)⟩, some ⟨.own, .lst (rdL (bk w.length ps))⟩, none, some ⟨.own, .lst (rdL qs)⟩, none, none] = evSs (Phi Δ (k + 6)) 1 ad33_17 [some ⟨.own, g11⟩, some ⟨.fz, .str l⟩, some ⟨.fz, .str j⟩, some ⟨.fz, .int w.length⟩, some ⟨.fz, .str w⟩, some ⟨.fz, .lst (rdL ps)⟩, y6, some ⟨.own, .lst ((w :: wds w ps).map D.str)⟩, some ⟨.own, .lst ((w :: wds w ps).map D.str ++ [.non])⟩, some ⟨.fz, .str (run w ps)⟩, some ⟨.own, .lst (rdL (bk w.length ps))⟩, none, some ⟨.own, .lst (rdL qs)⟩, y13, y14] :=
    nx_ev (for_ev (seq_ev hit rfl rfl) lp)
  have fin : evSs (Phi Δ (k + 6)) 1 ad33_0 [some ⟨.own, g⟩, none, none, none, none, none, none, none, none, none, none, none, none, none, none] = .ok (.rt false (.bl true)) [some ⟨.own, g11⟩, some ⟨.fz, .str l⟩, some ⟨.fz, .str j⟩, some ⟨.fz, .int w.length⟩, some ⟨.fz, .str w⟩, some ⟨.fz, .lst (rdL ps)⟩, y6, some ⟨.own, .lst ((w :: wds w ps).map D.str)⟩, some ⟨.own, .lst ((w :: wds w ps).map D.str ++ [.non])⟩, some ⟨.fz, .str (run w ps)⟩, some ⟨.own, .lst (rdL (bk w.length ps))⟩, none, some ⟨.own, .lst (rdL qs)⟩, y13, y14] := by
    rw [t0, t2, t3, t4, st33_5 f31, st33_6 f15 hlen rfl hlast, st33_7 x1 f15 neW f16 x2, st33_8 (by rw [hWl]; omega), st33_9 f15 neW f16 (ne_str _) neR, st33_10 f17, st33_11 (l33_ev hlt (by omega)) f17 x3 neB, st33_12 f16b f17b (ne_str _) neR, st33_13 f15b hrev neV, st33_14 e10, st33_15 hrm f16rm f16 f16m (ne_str _), t16]
    exact retV_ev (by unfold evE; rfl)
  refine ⟨g11, ?_⟩
  have en : ad33.np = 1 := rfl
  have en2 : ad33.ns = 15 := rfl
  have er : ad33.reb = [] := rfl
  have eb : ad33.body = ad33_0 := rfl
  simp only [runDf, en, en2, er, eb]
  simp [frzAt, fin, allSome, backAt, List.replicate]
end
end Ev

set_option Elab.async false
set_option linter.all false
set_option maxRecDepth 100000
set_option maxHeartbeats 8000000
/-! Q18: the law k02. Own work. -/
namespace Ev
theorem val_rep (n : Nat) : val [120] [120] (List.replicate n 0) ∧ run [120] (List.replicate n 0) = [120] := by
  have hs : sw [120] 0 = [120] := rfl
  induction n with
  | zero => exact ⟨trivial, rfl⟩
  | succ n ih =>
    rw [List.replicate_succ]
    refine ⟨⟨⟨by decide, by decide⟩, ?_⟩, ?_⟩
    · rw [hs]; exact ih.1
    · show run (sw [120] 0) (List.replicate n 0) = _
      rw [hs]; exact ih.2
section
variable {Φ : Fns}
theorem s35a {n0 n3 : Int} {Z : D} (p1 : Φ 15 [⟨.fz, .str []⟩, ⟨.fz, .str [120]⟩, ⟨.own, .lst []⟩] = .ret true (.lst [.str []]) [⟨.fz, .str []⟩, ⟨.fz, .str [120]⟩, ⟨.own, .lst []⟩]) (p2 : Φ 17 [⟨.fz, .int 0⟩, ⟨.own, .lst []⟩] = .ret true (.lst []) [⟨.fz, .int 0⟩, ⟨.own, .lst []⟩])
    (p3 : Φ 17 [⟨.fz, .int 300⟩, ⟨.own, .lst [.int 0, .int 299]⟩] = .ret true (.lst [.int 0, .int 299]) [⟨.fz, .int 300⟩, ⟨.own, .lst [.int 0, .int 299]⟩]) {ρ : En} :
    evT Φ (.or (.val (.cmp .ne (.call 15 [0, 1, 2] (.cons (.lit (.str [])) (.cons (.lit (.str [120])) (.cons (.lst .nil) .nil))) .nil) (.lst (.cons (.lit (.str [])) .nil)))) (.or (.val (.cmp .ne (.call 17 [0, 1] (.cons (.lit (.int 0)) (.cons (.lst .nil) .nil)) .nil) (.lst .nil))) (.val (.cmp .ne (.call 17 [0, 1] (.cons (.lit (.int 300)) (.cons (.lst (.cons (.lit (.int 0)) (.cons (.lit (.int 299)) .nil))) .nil)) .nil) (.lst (.cons (.lit (.int 0)) (.cons (.lit (.int 299)) .nil))))))) ρ = .ok false ρ := by
  have h1 : 1 ≤ LIM := by decide
  have h2 : 2 ≤ LIM := by decide
  have q1 : cmpD .ne (.lst [.str []]) (.lst [.str []]) = some false := by decide
  have q2 : cmpD .ne (.lst []) (.lst []) = some false := by decide
  have q3 : cmpD .ne (.lst [.int 0, .int 299]) (.lst [.int 0, .int 299]) = some false := by decide
  simp [evT, evE, evEs, Rs.bind, op1, op2, look, toRb, truth, keepAll, keep, h1, h2, q1, q2, q3, pick, callR, frzDup, argsOf, argOf, outsTo, p1, p2, p3]
theorem s35b {R : List D} (hb : binD .mul (.lst [.int 0]) (.int 1000) = some (.o (.lst R))) (p1 : Φ 16 [⟨.fz, .str [120]⟩, ⟨.fz, .str [120]⟩, ⟨.own, .lst R⟩] = .ret false (.str [120]) [⟨.fz, .str [120]⟩, ⟨.fz, .str [120]⟩, ⟨.own, .lst R⟩]) {ρ : En} :
    evE Φ (.cmp .eq (.call 16 [0, 1, 2] (.cons (.lit (.str [120])) (.cons (.lit (.str [120])) (.cons (.bin .mul (.lst (.cons (.lit (.int 0)) .nil)) (.lit (.int 1000))) .nil))) .nil) (.lit (.str [120]))) ρ = .ok (.v (.bl true)) ρ := by
  have h1 : 1 ≤ LIM := by decide
  have q1 : cmpD .eq (.str [120]) (.str [120]) = some true := by decide
  simp [evE, evEs, Rs.bind, op2, look, toRs, toRb, keepAll, keep, h1, hb, q1, pick, callR, frzDup, argsOf, argOf, outsTo, p1]
end
section
variable {Δ : Tab} (K : Ka Δ)
include K
theorem d35_ok (k : Nat) (ns : List Int) : Phi Δ (k + 8) 35 [⟨.fz, .scr ns⟩] = .ret false (.bl true) [⟨.fz, .scr ns⟩] := by
  rw [Phi_s K.h35]
  obtain ⟨ρ', e, s1, rfl⟩ := forGo_inv (f := withTg [1] (evSs (Phi Δ (k + 7)) 1 ab35_0)) (rows := rngD 0 3) (fun i ρ => ∃ s1 : Option Sl, ρ = [some ⟨.fz, .scr ns⟩, s1]) 0 (ρ := [some ⟨.fz, .scr ns⟩, none]) (fun i d ρ hd hI => by
    obtain ⟨rfl, hlt⟩ := rngD_at hd
    obtain ⟨s1, rfl⟩ := hI
    have hi3 : i < 3 := by omega
    obtain ⟨j, hj⟩ : ∃ j : Int, j = 0 + i := ⟨_, rfl⟩
    rw [← hj]
    obtain ⟨a, b, ha0, ha1, hb0, hb1, e1⟩ := gen_ok K.h20 K.h21 (k + 5) (ns := ns) (i := j) ⟨by omega, by omega⟩
    have hg : Gen 800 (genD a b (1000 * j)) := ⟨a, b, _, rfl, ⟨ha0, ha1⟩, ⟨hb0, by omega⟩, by omega, by omega⟩
    obtain ⟨g', e2⟩ := d33_ok K k hg
    refine ⟨[some ⟨.fz, .scr ns⟩, some ⟨.fz, .int j⟩], Or.inl ?_, _, rfl⟩
    simp only [Nat.add_assoc, Nat.reduceAdd] at e1
    simp only [withTg, assignD]
    simp [ab35_0, evSs, evS, evT, evE, evEs, Rs.bind, En.get, op1, op2, look, truth, pick, callR, frzDup, argsOf, argOf, outsTo, e1, e2]) ⟨_, rfl⟩
  have o1 : OkW [] [120] := ⟨by decide, by decide, by decide, by decide, by unfold Asc; decide⟩
  have o2 : OkW [120] [120] := ⟨by decide, by decide, by decide, by decide, by unfold Asc; decide⟩
  have p1 := passed_ok K (k + 2) (ps := []) (md := .own) o1 trivial (by decide)
  have p2 := back_ok K (k + 3) (n := 0) (ps := []) (md := .own) (by decide) (fun _ h => by cases h) (by decide)
  have p3 := back_ok K (k + 3) (n := 300) (ps := [0, 299]) (md := .own) (by decide) (by decide) (by decide)
  obtain ⟨v1, v2⟩ := val_rep 1000
  have p4 := done_ok K (k + 1) (md := .own) o2 v1 (by rw [List.length_replicate]; decide)
  rw [v2] at p4
  have hR : (List.replicate 1000 [D.int 0]).flatten = rdL (List.replicate 1000 0) := by
    unfold rdL
    rw [List.map_replicate]
    simp
  have hb : binD .mul (.lst [.int 0]) (.int 1000) = some (.o (.lst (rdL (List.replicate 1000 0)))) := by
    rw [← hR]
    unfold binD
    simp only
    rw [if_pos (by decide)]
    rfl
  have hB : -B62 ≤ 3 ∧ (3 : Int) < B62 := by decide
  have t1 : evS (Phi Δ (k + 7)) 1 (.for [1] (.rng1 (.lit (.int 3))) ab35_0) [some ⟨.fz, .scr ns⟩, none] = .ok .nx [some ⟨.fz, .scr ns⟩, s1] := for_ev (rng_ev (x := .v (.int 3)) (by unfold evE; rfl) rfl hB) e
  have t2 := s35a (Φ := Phi Δ (k + 7)) (n0 := 0) (n3 := 0) (Z := .non) p1 p2 p3 (ρ := [some ⟨.fz, .scr ns⟩, s1])
  have t3 := s35b (Φ := Phi Δ (k + 7)) hb p4 (ρ := [some ⟨.fz, .scr ns⟩, s1])
  have fin : evSs (Phi Δ (k + 7)) 1 ad35.body [some ⟨.fz, .scr ns⟩, none] = .ok (.rt false (.bl true)) [some ⟨.fz, .scr ns⟩, s1] := by
    refine (nx_ev t1).trans ?_
    refine (nx_ev ((else_ev t2).trans nil_ev)).trans ?_
    exact retV_ev t3
  have en : ad35.np = 1 := rfl
  have en2 : ad35.ns = 2 := rfl
  have er : ad35.reb = [] := rfl
  simp only [runDf, en, en2, er]
  simp [frzAt, fin, allSome, backAt, List.replicate]
theorem law2_ok (k : Nat) (ns : List Int) : Phi Δ (k + 9) 36 [⟨.fz, .scr ns⟩] = .ret false (.bl true) [⟨.fz, .scr ns⟩] := by
  rw [Phi_s K.h36]
  have e1 := d34_ok K k ns
  have e2 := d35_ok K k ns
  simp [ad36, runDf, frzAt, evSs, evS, evE, evEs, Rs.bind, En.get, op1, look, truth, pick, callR, frzDup, argsOf, argOf, outsTo, e1, e2, allSome, backAt]
end
end Ev

set_option Elab.async false
set_option linter.all false
set_option maxRecDepth 100000
set_option maxHeartbeats 0
namespace Lw
open PySem PySem.Spec PyProof.Rows L2 Ev
def nameOf : Stmt → Str
  | .FunctionDef n _ _ _ _ _ _ _ _ _ => n
  | _ => ""
def dOf (s : Stmt) : He.DefD := ⟨(nameOf s, none), nameOf s, nameOf s, defArgs s, defBody s, defScope s, [], []⟩
def isDef : Stmt → Bool
  | .FunctionDef _ _ _ _ _ _ _ _ _ _ => true
  | _ => false
def fis : List FI := [
  ⟨[Str.ofString "value"], [Str.ofString "value"], []⟩,
  ⟨[Str.ofString "value", Str.ofString "low", Str.ofString "high"], [Str.ofString "value", Str.ofString "low", Str.ofString "high"], []⟩,
  ⟨[Str.ofString "number", Str.ofString "low", Str.ofString "high"], [Str.ofString "number", Str.ofString "low", Str.ofString "high"], []⟩,
  ⟨[Str.ofString "value"], [Str.ofString "value"], []⟩,
  ⟨[Str.ofString "word"], [Str.ofString "word"], []⟩,
  ⟨[Str.ofString "letters", Str.ofString "at"], [Str.ofString "letters"], []⟩,
  ⟨[Str.ofString "value"], [Str.ofString "value"], []⟩,
  ⟨[Str.ofString "joints"], [Str.ofString "joints"], []⟩,
  ⟨[Str.ofString "word", Str.ofString "place"], [Str.ofString "word", Str.ofString "place"], []⟩,
  ⟨[Str.ofString "word", Str.ofString "joints"], [Str.ofString "word", Str.ofString "joints"], []⟩,
  ⟨[Str.ofString "word", Str.ofString "joints", Str.ofString "place", Str.ofString "letter"], [Str.ofString "word", Str.ofString "joints"], []⟩,
  ⟨[Str.ofString "word", Str.ofString "joints", Str.ofString "place"], [Str.ofString "word", Str.ofString "joints", Str.ofString "place"], []⟩,
  ⟨[Str.ofString "word", Str.ofString "joints", Str.ofString "place"], [Str.ofString "word", Str.ofString "joints", Str.ofString "place"], []⟩,
  ⟨[Str.ofString "word", Str.ofString "joints", Str.ofString "value", Str.ofString "found", Str.ofString "place"], [Str.ofString "word", Str.ofString "joints", Str.ofString "value"], []⟩,
  ⟨[Str.ofString "word", Str.ofString "joints", Str.ofString "value"], [Str.ofString "word", Str.ofString "joints", Str.ofString "value"], []⟩,
  ⟨[Str.ofString "word", Str.ofString "joints", Str.ofString "road", Str.ofString "found"], [Str.ofString "word", Str.ofString "joints", Str.ofString "road"], []⟩,
  ⟨[Str.ofString "word", Str.ofString "joints", Str.ofString "road"], [Str.ofString "word", Str.ofString "joints", Str.ofString "road"], []⟩,
  ⟨[Str.ofString "size", Str.ofString "road", Str.ofString "place"], [Str.ofString "size", Str.ofString "road"], []⟩,
  ⟨[Str.ofString "seed", Str.ofString "index", Str.ofString "mixed"], [Str.ofString "seed", Str.ofString "index"], []⟩,
  ⟨[Str.ofString "generator", Str.ofString "bound", Str.ofString "drawn", Str.ofString "turn"], [Str.ofString "generator", Str.ofString "bound"], []⟩,
  ⟨[Str.ofString "script", Str.ofString "index"], [Str.ofString "script", Str.ofString "index"], []⟩,
  ⟨[Str.ofString "script", Str.ofString "index", Str.ofString "seed"], [Str.ofString "script", Str.ofString "index"], []⟩,
  ⟨[Str.ofString "generator", Str.ofString "letters", Str.ofString "size", Str.ofString "turn"], [Str.ofString "generator", Str.ofString "letters", Str.ofString "size"], []⟩,
  ⟨[Str.ofString "generator", Str.ofString "least", Str.ofString "most", Str.ofString "many", Str.ofString "found", Str.ofString "start", Str.ofString "turn"], [Str.ofString "generator", Str.ofString "least", Str.ofString "most"], []⟩,
  ⟨[Str.ofString "generator", Str.ofString "letters", Str.ofString "letter"], [Str.ofString "generator", Str.ofString "letters"], []⟩,
  ⟨[Str.ofString "word", Str.ofString "place"], [Str.ofString "word", Str.ofString "place"], []⟩,
  ⟨[Str.ofString "word", Str.ofString "place", Str.ofString "ring", Str.ofString "at"], [Str.ofString "word", Str.ofString "place"], []⟩,
  ⟨[Str.ofString "told", Str.ofString "due", Str.ofString "one", Str.ofString "other"], [Str.ofString "told", Str.ofString "due"], []⟩,
  ⟨[Str.ofString "generator", Str.ofString "letters", Str.ofString "joints", Str.ofString "sizes", Str.ofString "size", Str.ofString "word", Str.ofString "due", Str.ofString "place", Str.ofString "told"], [Str.ofString "generator"], []⟩,
  ⟨[Str.ofString "told", Str.ofString "due"], [Str.ofString "told", Str.ofString "due"], []⟩,
  ⟨[Str.ofString "generator", Str.ofString "word", Str.ofString "joints", Str.ofString "most", Str.ofString "road", Str.ofString "there", Str.ofString "turn", Str.ofString "open_ones", Str.ofString "place"], [Str.ofString "generator", Str.ofString "word", Str.ofString "joints", Str.ofString "most"], []⟩,
  ⟨[Str.ofString "word", Str.ofString "joints", Str.ofString "road", Str.ofString "found", Str.ofString "place", Str.ofString "there"], [Str.ofString "word", Str.ofString "joints", Str.ofString "road"], []⟩,
  ⟨[Str.ofString "generator", Str.ofString "road", Str.ofString "size", Str.ofString "at", Str.ofString "odd", Str.ofString "found", Str.ofString "item", Str.ofString "place"], [Str.ofString "generator", Str.ofString "road", Str.ofString "size"], []⟩,
  ⟨[Str.ofString "generator", Str.ofString "letters", Str.ofString "joints", Str.ofString "size", Str.ofString "word", Str.ofString "road", Str.ofString "kept", Str.ofString "due", Str.ofString "told", Str.ofString "last", Str.ofString "back", Str.ofString "place", Str.ofString "more", Str.ofString "value", Str.ofString "right"], [Str.ofString "generator"], []⟩,
  ⟨[Str.ofString "script", Str.ofString "index"], [Str.ofString "script"], []⟩,
  ⟨[Str.ofString "script", Str.ofString "index"], [Str.ofString "script"], []⟩,
  ⟨[Str.ofString "script"], [Str.ofString "script"], []⟩]
def lst : List (He.DefD × FI) := ((PySem.Challenge.pw_chanceswaps_k02_whole_deeds_and_roads_an.main.body.filter isDef).map dOf).zip fis
def gl : Gls := [(Str.ofString "is_whole", GK.fn 0), (Str.ofString "is_between", GK.fn 1), (Str.ofString "check_number", GK.fn 2), (Str.ofString "is_letters_alone", GK.fn 3), (Str.ofString "check_word", GK.fn 4), (Str.ofString "rises", GK.fn 5), (Str.ofString "is_letters_in_order", GK.fn 6), (Str.ofString "check_joints", GK.fn 7), (Str.ofString "swapped_at", GK.fn 8), (Str.ofString "check_pair", GK.fn 9), (Str.ofString "open_places", GK.fn 10), (Str.ofString "is_open", GK.fn 11), (Str.ofString "swapped", GK.fn 12), (Str.ofString "words_passed", GK.fn 13), (Str.ofString "is_road", GK.fn 14), (Str.ofString "passed", GK.fn 15), (Str.ofString "done", GK.fn 16), (Str.ofString "back_road", GK.fn 17), (Str.ofString "_law_hash", GK.fn 18), (Str.ofString "_law_random", GK.fn 19), (Str.ofString "_law_cell", GK.fn 20), (Str.ofString "_law_generator", GK.fn 21), (Str.ofString "_law_word", GK.fn 22), (Str.ofString "_law_letters", GK.fn 23), (Str.ofString "_law_joints", GK.fn 24), (Str.ofString "_law_swapped", GK.fn 25), (Str.ofString "_law_jumped", GK.fn 26), (Str.ofString "_law_exact", GK.fn 27), (Str.ofString "_law_right", GK.fn 28), (Str.ofString "_law_yes", GK.fn 29), (Str.ofString "_law_road", GK.fn 30), (Str.ofString "_law_passed", GK.fn 31), (Str.ofString "_law_bent", GK.fn 32), (Str.ofString "_law_right_too", GK.fn 33), (Str.ofString "_law_part_a", GK.fn 34), (Str.ofString "_law_part_b", GK.fn 35), (Str.ofString "law", GK.fn 36), (Str.ofString "bool", GK.free), (Str.ofString "enumerate", GK.free), (Str.ofString "int", GK.free), (Str.ofString "isinstance", GK.free), (Str.ofString "len", GK.free), (Str.ofString "list", GK.free), (Str.ofString "max", GK.free), (Str.ofString "range", GK.free), (Str.ofString "repr", GK.free), (Str.ofString "reversed", GK.free), (Str.ofString "str", GK.free), (Str.ofString "sum", GK.free), (Str.ofString "tuple", GK.free), (Str.ofString "zip", GK.free), (Str.ofString "LETTERS", GK.cst (.str [97, 98, 99, 100, 101, 102, 103, 104, 105, 106, 107, 108, 109, 110, 111, 112, 113, 114, 115, 116, 117, 118, 119, 120, 121, 122])), (Str.ofString "MOST_LONG", GK.cst (.int 300))]
def sg : Sgs := [(0, 1, [], [0]), (1, 3, [], [0, 1, 2]), (2, 3, [], [0, 1, 2]), (3, 1, [], [0]), (4, 1, [], [0]), (5, 1, [], [0]), (6, 1, [], [0]), (7, 1, [], [0]), (8, 2, [], [0, 1]), (9, 2, [], [0, 1]), (10, 0, [Str.ofString "joints", Str.ofString "word"], [1, 0]), (10, 2, [], [0, 1]), (11, 3, [], [0, 1, 2]), (12, 0, [Str.ofString "place", Str.ofString "joints", Str.ofString "word"], [2, 1, 0]), (12, 3, [], [0, 1, 2]), (13, 3, [], [0, 1, 2]), (14, 0, [Str.ofString "value", Str.ofString "word", Str.ofString "joints"], [1, 2, 0]), (14, 3, [], [0, 1, 2]), (15, 0, [Str.ofString "road", Str.ofString "joints", Str.ofString "word"], [2, 1, 0]), (15, 3, [], [0, 1, 2]), (16, 0, [Str.ofString "road", Str.ofString "word", Str.ofString "joints"], [1, 2, 0]), (16, 3, [], [0, 1, 2]), (17, 0, [Str.ofString "road", Str.ofString "size"], [1, 0]), (17, 2, [], [0, 1]), (18, 2, [], [0, 1]), (19, 2, [], [0, 1]), (20, 2, [], [0, 1]), (21, 2, [], [0, 1]), (22, 3, [], [0, 1, 2]), (23, 3, [], [0, 1, 2]), (24, 2, [], [0, 1]), (25, 2, [], [0, 1]), (26, 2, [], [0, 1]), (27, 2, [], [0, 1]), (28, 1, [], [0]), (29, 2, [], [0, 1]), (30, 4, [], [0, 1, 2, 3]), (31, 3, [], [0, 1, 2]), (32, 3, [], [0, 1, 2]), (33, 1, [], [0]), (34, 1, [], [0]), (35, 1, [], [0]), (36, 1, [], [0])]
def fa : List He.Fa := gl.map faOf
abbrev R : PySem.W.OpenRow := PySem.W.OpenLaw.row PySem.Challenge.rw_chanceswaps_k02_whole_deeds_and_roads_an
abbrev hk : PySem.W.Hook := He.hookD 4 fa (lst.map (·.1))
def ob (s : PySem.W.SharedT) : He.AlD := He.obsDG 4 fa (lst.map (·.1)) (HandSHeadRun.getT s)
theorem ob_eq (s : PySem.W.SharedT) : ob s = hk.obs s.abs := He.obsDG_eq (HandSHeadRun.getT_eq s)
def names0 : List PySem.Str := [Str.ofString "SwapError", Str.ofString "InvalidNumber", Str.ofString "InvalidWord", Str.ofString "InvalidJoints", Str.ofString "InvalidRoad", Str.ofString "LETTERS", Str.ofString "is_whole", Str.ofString "is_between", Str.ofString "check_number", Str.ofString "is_letters_alone", Str.ofString "check_word", Str.ofString "rises", Str.ofString "is_letters_in_order", Str.ofString "check_joints", Str.ofString "swapped_at", Str.ofString "MOST_LONG", Str.ofString "check_pair", Str.ofString "open_places", Str.ofString "is_open", Str.ofString "swapped", Str.ofString "words_passed", Str.ofString "is_road", Str.ofString "passed", Str.ofString "done", Str.ofString "back_road", Str.ofString "_law_hash", Str.ofString "_law_random", Str.ofString "_law_cell", Str.ofString "_law_generator", Str.ofString "_law_word"]
def names1 : List PySem.Str := [Str.ofString "_law_letters", Str.ofString "_law_joints", Str.ofString "_law_swapped", Str.ofString "_law_jumped", Str.ofString "_law_exact", Str.ofString "_law_right", Str.ofString "_law_yes", Str.ofString "_law_road", Str.ofString "_law_passed", Str.ofString "_law_bent", Str.ofString "_law_right_too", Str.ofString "_law_part_a", Str.ofString "_law_part_b"]
def names : List PySem.Str := names0 ++ names1
theorem run (w : World) : HandSHeadRun.RunEq R (PySem.W.view R.prog [47]) hk ob 20000 names w := by
  intro os
  kernel_rfl
theorem gl_ok : gl.all (gkB (lst.map (·.1))) = true := by decide +kernel
theorem fi_ok : lst.all fiB = true := by decide +kernel
theorem len_ok : lst.length = 37 := by decide +kernel
theorem snd_ok : lst.map (·.2) = fis := by decide +kernel
theorem sg_ok : SgAll fis sg := by
  refine ⟨fun q hq => ?_, ?_⟩
  · cases hq
    refine ⟨rfl, fun name qual body scope kV doc pmv an cdv ctv us ws as h1 h2 h3 => ?_⟩
    match us, ws, h1, h2 with
    | [a0], [], _, _ => cases h3; kernel_rfl
  refine ⟨fun q hq => ?_, ?_⟩
  · cases hq
    refine ⟨rfl, fun name qual body scope kV doc pmv an cdv ctv us ws as h1 h2 h3 => ?_⟩
    match us, ws, h1, h2 with
    | [a0, a1, a2], [], _, _ => cases h3; kernel_rfl
  refine ⟨fun q hq => ?_, ?_⟩
  · cases hq
    refine ⟨rfl, fun name qual body scope kV doc pmv an cdv ctv us ws as h1 h2 h3 => ?_⟩
    match us, ws, h1, h2 with
    | [a0, a1, a2], [], _, _ => cases h3; kernel_rfl
  refine ⟨fun q hq => ?_, ?_⟩
  · cases hq
    refine ⟨rfl, fun name qual body scope kV doc pmv an cdv ctv us ws as h1 h2 h3 => ?_⟩
    match us, ws, h1, h2 with
    | [a0], [], _, _ => cases h3; kernel_rfl
  refine ⟨fun q hq => ?_, ?_⟩
  · cases hq
    refine ⟨rfl, fun name qual body scope kV doc pmv an cdv ctv us ws as h1 h2 h3 => ?_⟩
    match us, ws, h1, h2 with
    | [a0], [], _, _ => cases h3; kernel_rfl
  refine ⟨fun q hq => ?_, ?_⟩
  · cases hq
    refine ⟨rfl, fun name qual body scope kV doc pmv an cdv ctv us ws as h1 h2 h3 => ?_⟩
    match us, ws, h1, h2 with
    | [a0], [], _, _ => cases h3; kernel_rfl
  refine ⟨fun q hq => ?_, ?_⟩
  · cases hq
    refine ⟨rfl, fun name qual body scope kV doc pmv an cdv ctv us ws as h1 h2 h3 => ?_⟩
    match us, ws, h1, h2 with
    | [a0], [], _, _ => cases h3; kernel_rfl
  refine ⟨fun q hq => ?_, ?_⟩
  · cases hq
    refine ⟨rfl, fun name qual body scope kV doc pmv an cdv ctv us ws as h1 h2 h3 => ?_⟩
    match us, ws, h1, h2 with
    | [a0], [], _, _ => cases h3; kernel_rfl
  refine ⟨fun q hq => ?_, ?_⟩
  · cases hq
    refine ⟨rfl, fun name qual body scope kV doc pmv an cdv ctv us ws as h1 h2 h3 => ?_⟩
    match us, ws, h1, h2 with
    | [a0, a1], [], _, _ => cases h3; kernel_rfl
  refine ⟨fun q hq => ?_, ?_⟩
  · cases hq
    refine ⟨rfl, fun name qual body scope kV doc pmv an cdv ctv us ws as h1 h2 h3 => ?_⟩
    match us, ws, h1, h2 with
    | [a0, a1], [], _, _ => cases h3; kernel_rfl
  refine ⟨fun q hq => ?_, ?_⟩
  · cases hq
    refine ⟨rfl, fun name qual body scope kV doc pmv an cdv ctv us ws as h1 h2 h3 => ?_⟩
    match us, ws, h1, h2 with
    | [], [b0, b1], _, _ => cases h3; kernel_rfl
  refine ⟨fun q hq => ?_, ?_⟩
  · cases hq
    refine ⟨rfl, fun name qual body scope kV doc pmv an cdv ctv us ws as h1 h2 h3 => ?_⟩
    match us, ws, h1, h2 with
    | [a0, a1], [], _, _ => cases h3; kernel_rfl
  refine ⟨fun q hq => ?_, ?_⟩
  · cases hq
    refine ⟨rfl, fun name qual body scope kV doc pmv an cdv ctv us ws as h1 h2 h3 => ?_⟩
    match us, ws, h1, h2 with
    | [a0, a1, a2], [], _, _ => cases h3; kernel_rfl
  refine ⟨fun q hq => ?_, ?_⟩
  · cases hq
    refine ⟨rfl, fun name qual body scope kV doc pmv an cdv ctv us ws as h1 h2 h3 => ?_⟩
    match us, ws, h1, h2 with
    | [], [b0, b1, b2], _, _ => cases h3; kernel_rfl
  refine ⟨fun q hq => ?_, ?_⟩
  · cases hq
    refine ⟨rfl, fun name qual body scope kV doc pmv an cdv ctv us ws as h1 h2 h3 => ?_⟩
    match us, ws, h1, h2 with
    | [a0, a1, a2], [], _, _ => cases h3; kernel_rfl
  refine ⟨fun q hq => ?_, ?_⟩
  · cases hq
    refine ⟨rfl, fun name qual body scope kV doc pmv an cdv ctv us ws as h1 h2 h3 => ?_⟩
    match us, ws, h1, h2 with
    | [a0, a1, a2], [], _, _ => cases h3; kernel_rfl
  refine ⟨fun q hq => ?_, ?_⟩
  · cases hq
    refine ⟨rfl, fun name qual body scope kV doc pmv an cdv ctv us ws as h1 h2 h3 => ?_⟩
    match us, ws, h1, h2 with
    | [], [b0, b1, b2], _, _ => cases h3; kernel_rfl
  refine ⟨fun q hq => ?_, ?_⟩
  · cases hq
    refine ⟨rfl, fun name qual body scope kV doc pmv an cdv ctv us ws as h1 h2 h3 => ?_⟩
    match us, ws, h1, h2 with
    | [a0, a1, a2], [], _, _ => cases h3; kernel_rfl
  refine ⟨fun q hq => ?_, ?_⟩
  · cases hq
    refine ⟨rfl, fun name qual body scope kV doc pmv an cdv ctv us ws as h1 h2 h3 => ?_⟩
    match us, ws, h1, h2 with
    | [], [b0, b1, b2], _, _ => cases h3; kernel_rfl
  refine ⟨fun q hq => ?_, ?_⟩
  · cases hq
    refine ⟨rfl, fun name qual body scope kV doc pmv an cdv ctv us ws as h1 h2 h3 => ?_⟩
    match us, ws, h1, h2 with
    | [a0, a1, a2], [], _, _ => cases h3; kernel_rfl
  refine ⟨fun q hq => ?_, ?_⟩
  · cases hq
    refine ⟨rfl, fun name qual body scope kV doc pmv an cdv ctv us ws as h1 h2 h3 => ?_⟩
    match us, ws, h1, h2 with
    | [], [b0, b1, b2], _, _ => cases h3; kernel_rfl
  refine ⟨fun q hq => ?_, ?_⟩
  · cases hq
    refine ⟨rfl, fun name qual body scope kV doc pmv an cdv ctv us ws as h1 h2 h3 => ?_⟩
    match us, ws, h1, h2 with
    | [a0, a1, a2], [], _, _ => cases h3; kernel_rfl
  refine ⟨fun q hq => ?_, ?_⟩
  · cases hq
    refine ⟨rfl, fun name qual body scope kV doc pmv an cdv ctv us ws as h1 h2 h3 => ?_⟩
    match us, ws, h1, h2 with
    | [], [b0, b1], _, _ => cases h3; kernel_rfl
  refine ⟨fun q hq => ?_, ?_⟩
  · cases hq
    refine ⟨rfl, fun name qual body scope kV doc pmv an cdv ctv us ws as h1 h2 h3 => ?_⟩
    match us, ws, h1, h2 with
    | [a0, a1], [], _, _ => cases h3; kernel_rfl
  refine ⟨fun q hq => ?_, ?_⟩
  · cases hq
    refine ⟨rfl, fun name qual body scope kV doc pmv an cdv ctv us ws as h1 h2 h3 => ?_⟩
    match us, ws, h1, h2 with
    | [a0, a1], [], _, _ => cases h3; kernel_rfl
  refine ⟨fun q hq => ?_, ?_⟩
  · cases hq
    refine ⟨rfl, fun name qual body scope kV doc pmv an cdv ctv us ws as h1 h2 h3 => ?_⟩
    match us, ws, h1, h2 with
    | [a0, a1], [], _, _ => cases h3; kernel_rfl
  refine ⟨fun q hq => ?_, ?_⟩
  · cases hq
    refine ⟨rfl, fun name qual body scope kV doc pmv an cdv ctv us ws as h1 h2 h3 => ?_⟩
    match us, ws, h1, h2 with
    | [a0, a1], [], _, _ => cases h3; kernel_rfl
  refine ⟨fun q hq => ?_, ?_⟩
  · cases hq
    refine ⟨rfl, fun name qual body scope kV doc pmv an cdv ctv us ws as h1 h2 h3 => ?_⟩
    match us, ws, h1, h2 with
    | [a0, a1], [], _, _ => cases h3; kernel_rfl
  refine ⟨fun q hq => ?_, ?_⟩
  · cases hq
    refine ⟨rfl, fun name qual body scope kV doc pmv an cdv ctv us ws as h1 h2 h3 => ?_⟩
    match us, ws, h1, h2 with
    | [a0, a1, a2], [], _, _ => cases h3; kernel_rfl
  refine ⟨fun q hq => ?_, ?_⟩
  · cases hq
    refine ⟨rfl, fun name qual body scope kV doc pmv an cdv ctv us ws as h1 h2 h3 => ?_⟩
    match us, ws, h1, h2 with
    | [a0, a1, a2], [], _, _ => cases h3; kernel_rfl
  refine ⟨fun q hq => ?_, ?_⟩
  · cases hq
    refine ⟨rfl, fun name qual body scope kV doc pmv an cdv ctv us ws as h1 h2 h3 => ?_⟩
    match us, ws, h1, h2 with
    | [a0, a1], [], _, _ => cases h3; kernel_rfl
  refine ⟨fun q hq => ?_, ?_⟩
  · cases hq
    refine ⟨rfl, fun name qual body scope kV doc pmv an cdv ctv us ws as h1 h2 h3 => ?_⟩
    match us, ws, h1, h2 with
    | [a0, a1], [], _, _ => cases h3; kernel_rfl
  refine ⟨fun q hq => ?_, ?_⟩
  · cases hq
    refine ⟨rfl, fun name qual body scope kV doc pmv an cdv ctv us ws as h1 h2 h3 => ?_⟩
    match us, ws, h1, h2 with
    | [a0, a1], [], _, _ => cases h3; kernel_rfl
  refine ⟨fun q hq => ?_, ?_⟩
  · cases hq
    refine ⟨rfl, fun name qual body scope kV doc pmv an cdv ctv us ws as h1 h2 h3 => ?_⟩
    match us, ws, h1, h2 with
    | [a0, a1], [], _, _ => cases h3; kernel_rfl
  refine ⟨fun q hq => ?_, ?_⟩
  · cases hq
    refine ⟨rfl, fun name qual body scope kV doc pmv an cdv ctv us ws as h1 h2 h3 => ?_⟩
    match us, ws, h1, h2 with
    | [a0], [], _, _ => cases h3; kernel_rfl
  refine ⟨fun q hq => ?_, ?_⟩
  · cases hq
    refine ⟨rfl, fun name qual body scope kV doc pmv an cdv ctv us ws as h1 h2 h3 => ?_⟩
    match us, ws, h1, h2 with
    | [a0, a1], [], _, _ => cases h3; kernel_rfl
  refine ⟨fun q hq => ?_, ?_⟩
  · cases hq
    refine ⟨rfl, fun name qual body scope kV doc pmv an cdv ctv us ws as h1 h2 h3 => ?_⟩
    match us, ws, h1, h2 with
    | [a0, a1, a2, a3], [], _, _ => cases h3; kernel_rfl
  refine ⟨fun q hq => ?_, ?_⟩
  · cases hq
    refine ⟨rfl, fun name qual body scope kV doc pmv an cdv ctv us ws as h1 h2 h3 => ?_⟩
    match us, ws, h1, h2 with
    | [a0, a1, a2], [], _, _ => cases h3; kernel_rfl
  refine ⟨fun q hq => ?_, ?_⟩
  · cases hq
    refine ⟨rfl, fun name qual body scope kV doc pmv an cdv ctv us ws as h1 h2 h3 => ?_⟩
    match us, ws, h1, h2 with
    | [a0, a1, a2], [], _, _ => cases h3; kernel_rfl
  refine ⟨fun q hq => ?_, ?_⟩
  · cases hq
    refine ⟨rfl, fun name qual body scope kV doc pmv an cdv ctv us ws as h1 h2 h3 => ?_⟩
    match us, ws, h1, h2 with
    | [a0], [], _, _ => cases h3; kernel_rfl
  refine ⟨fun q hq => ?_, ?_⟩
  · cases hq
    refine ⟨rfl, fun name qual body scope kV doc pmv an cdv ctv us ws as h1 h2 h3 => ?_⟩
    match us, ws, h1, h2 with
    | [a0], [], _, _ => cases h3; kernel_rfl
  refine ⟨fun q hq => ?_, ?_⟩
  · cases hq
    refine ⟨rfl, fun name qual body scope kV doc pmv an cdv ctv us ws as h1 h2 h3 => ?_⟩
    match us, ws, h1, h2 with
    | [a0], [], _, _ => cases h3; kernel_rfl
  refine ⟨fun q hq => ?_, ?_⟩
  · cases hq
    refine ⟨rfl, fun name qual body scope kV doc pmv an cdv ctv us ws as h1 h2 h3 => ?_⟩
    match us, ws, h1, h2 with
    | [a0], [], _, _ => cases h3; kernel_rfl
  exact trivial
def tab : Tab := tabFrom 60 gl sg 0 lst
def lev : Nat := 20
theorem k2 : Ka tab := by
  constructor <;> kernel_rfl
theorem says (ns : List Int) (h : ns.length ≤ 63) : Says (Phi tab lev) 36 ns := ⟨_, _, law2_ok k2 11 ns⟩
theorem finish {P : Program} {w : World} {K : PySem.W.Frag} {h : Heap} {mg : Str → Option Value} {f : Addr} (KX : K.In h) (G : h.Ns mainGlobals mg) (c : He.SaysD fa (lst.map (·.1)) K) (hmg : mg (Str.ofString "law") = some (.ref f)) :
    ∃ (g : Gi) (Φ : Fns) (n : Nat) (fd : FuncData), g.K.In h ∧ (∀ (s : Shared) (u : Value), BindsTo s fd ⟨[u], []⟩ [(Str.ofString "script", u)]) ∧ (∀ b : Heap, g.K.In b → b.Ns mainGlobals mg → FnG P w g.K mg b g Φ lev f fd [Str.ofString "script"] n) ∧ ∀ ns : List Int, ns.length ≤ 63 → Says Φ n ns := by
  have hq : ∃ q, lst[36]? = some q ∧ q.1.name = Str.ofString "law" ∧ q.2.ps = [Str.ofString "script"] ∧ q.1.at_ = (q.1.name, none) := by
    have e : ((lst[36]?).map fun q => (q.1.name, q.2.ps, q.1.at_)) = some (Str.ofString "law", [Str.ofString "script"], (Str.ofString "law", none)) := by decide +kernel
    cases hl : lst[36]? with
    | none => rw [hl] at e; cases e
    | some q =>
      rw [hl] at e
      have e := Option.some.inj e
      exact ⟨q, rfl, congrArg (·.1) e, congrArg (·.2.1) e, (show q.1.at_ = (Str.ofString "law", none) from congrArg (·.2.2) e).trans (by rw [show q.1.name = Str.ofString "law" from congrArg (·.1) e])⟩
  obtain ⟨q, hl, e1, e2, e3⟩ := hq
  exact law_F (P := P) (w := w) (fuel := 60) (Δ := tab) hl e2 e3 (by decide +kernel) (by rw [e1]; exact List.mem_of_getElem? (i := 36) rfl) (fun e h => List.mem_map_of_mem h) gl_ok fi_ok (by rw [snd_ok]; exact sg_ok) rfl says KX G c (by rw [e1]; exact hmg)
end Lw
open PySem PySem.W PySem.Calls PyProof.Rows
theorem PySem.Challenge.cw_chanceswaps_k02_whole_deeds_and_roads_an_holds : PySem.Challenge.rw_chanceswaps_k02_whole_deeds_and_roads_an.Holds := by
  w_on; o_law
  refine HandSHeadRun.head_any (r := OpenLaw.row PySem.Challenge.rw_chanceswaps_k02_whole_deeds_and_roads_an) (q := view (OpenLaw.row PySem.Challenge.rw_chanceswaps_k02_whole_deeds_and_roads_an).prog [47]) (H := Lw.hk) (ob := Lw.ob) (M := 20000) (loose := Lw.names) (d := HandSHeadRun.topDef (OpenLaw.row PySem.Challenge.rw_chanceswaps_k02_whole_deeds_and_roads_an).prog 47) (kwd := []) Lw.ob_eq
    (by kernel_rfl) (fun s => by kernel_rfl) Lw.run (by kernel_rfl) (by kernel_rfl) (by kernel_rfl) (by rfl) (by first | assumption | decide +kernel) (by decide +kernel) ⟨rfl, rfl, rfl, rfl, rfl, by decide +kernel⟩ ?hw ?hc
  case hw => w_witness2
  case hc =>
    refine Ev.walk_g (l := PySem.Challenge.rw_chanceswaps_k02_whole_deeds_and_roads_an) (m := 63) (k := Lw.lev) (x := "script") rfl (by decide) (by kernel_rfl) ⟨rfl, by decide, by decide⟩ ?F
    intro w mg fa h Y G hmg0
    obtain ⟨K, KX, c⟩ := Y
    have hmg : mg ("law" : PySem.Str) = some (.ref fa) := by
      have e : (HandSHeadRun.topDef (OpenLaw.row PySem.Challenge.rw_chanceswaps_k02_whole_deeds_and_roads_an).prog 47).name = ("law" : PySem.Str) := by kernel_rfl
      rw [← e]
      exact hmg0
    exact Lw.finish KX G c hmg

