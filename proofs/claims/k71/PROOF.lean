import PyProof.Rows.All
import Wide.All
import OpenK.AllK
import Wide.FinOn
import HandS.Base
import HandS.Call
import HandS.List
import HandS.Words
import HandS.Comp
import HandS.Iter
import HandS.Text
import HandS.Flow
import HandS.Exc
import HandS.Wide
import HandS.WideBits
import HandS.StrMore
import HandS.TupLe
import HandS.Dict
import KE.LtData
import HandS.Deep
import HandS.Style
import HandS.IsInst
import PyProof.ReprRoads
import KE.KRevSl
import HandS.WordsDict
import KE.DataMinMax
import HandS.DictTup
import HandS.SortInts
import HandS.More
import PyProof.StrLaws
import PyProof.Rows.StrCut
import HandS.ExcOwn
import HandS.Defaults
import PyProof.FactsSeq
import OpenK.KMore
import HandS.Replace
import HandS.Conv
import HandS.Gcd
import HandS.TryOnly
import HandS.WordsExc
import PyProof.ZipIter
import PyProof.Rows.CallKw2
import PyProof.Rows.CallKwBuiltin
import HandS.Ends
import HandS.HeadEnd
import HandS.HeadHook2
import KE.KStateDown
import Lean
import HandS.Head0
import HandS.Head1
import HandS.Head2
import HandS.Head3
import HandS.HeadHook1
import PySem.Challenge.RW_chanceswaps_k71_whole_joints_by_numbers
set_option Elab.async false
set_option linter.all false
set_option maxRecDepth 100000
/-! Ev0: plain data, a small language of resolved Python, its evaluator. Own work. -/
namespace Ev
open PySem

/-- plain data; an int, a text by its signs; fn: a def of the text by its name's code; exc: an own error by its class's code, with its field -/
inductive D where
  | non | bl (b : Bool) | int (i : Int) | str (l : List Nat)
  | tup (xs : List D) | lst (xs : List D) | dic (ks vs : List D)
  | fn (n : Nat) | scr (ns : List Int) | exc (c : Nat) (v : D)

inductive Md where | fz | lk | own deriving DecidableEq
structure Sl where
  m : Md
  d : D
abbrev En := List (Option Sl)
/-- what an expression hands on: a thing that stands for ever; a new thing of one's own; what the i-th slot holds -/
inductive Vr where | v (d : D) | o (d : D) | s (i : Nat)
inductive Rs (α : Type) where
  | ok (a : α) (ρ : En) | ex (x : D) (ρ : En) | err
/-- what a call hands back: its own or not, the value, the arguments behind it -/
inductive CR where
  | ret (own : Bool) (d : D) (outs : List Sl) | ex (x : D) (outs : List Sl) | err
inductive Fl where | nx | br | ct | rt (own : Bool) (d : D)

@[inline] def Rs.bind {α β : Type} (r : Rs α) (f : α → En → Rs β) : Rs β := match r with
  | .ok a ρ => f a ρ
  | .ex x ρ => .ex x ρ
  | .err => .err

def En.get (ρ : En) (i : Nat) : Option Sl := match ρ[i]? with
  | some (some s) => some s
  | _ => none
def look (ρ : En) : Vr → Option D
  | .v d => some d
  | .o d => some d
  | .s i => match ρ.get i with
    | some s => some s.d
    | none => none
/-- to be kept elsewhere: a slot's thing is frozen -/
def keep (ρ : En) : Vr → Rs D
  | .v d => .ok d ρ
  | .o d => .ok d ρ
  | .s i => match ρ.get i with
    | some s => .ok s.d (ρ.set i (some ⟨.fz, s.d⟩))
    | none => .err
def keepAll : List Vr → En → Rs (List D)
  | [], ρ => .ok [] ρ
  | r :: rs, ρ => (keep ρ r).bind fun d ρ => (keepAll rs ρ).bind fun ds ρ => .ok (d :: ds) ρ
def lookAll (ρ : En) : List Vr → Option (List D)
  | [] => some []
  | r :: rs => match look ρ r, lookAll ρ rs with
    | some d, some ds => some (d :: ds)
    | _, _ => none
def Md.lock : Md → Md
  | .own => .lk
  | m => m
def lockS (ρ : En) : Vr → En
  | .s i => match ρ.get i with
    | some s => ρ.set i (some ⟨s.m.lock, s.d⟩)
    | none => ρ
  | _ => ρ
/-- behind a loop: r was walked, ρ0 ahead of it -/
def unlockS (ρ0 ρ : En) : Vr → En
  | .s i => match ρ0.get i, ρ.get i with
    | some s0, some s => if s.m = s0.m.lock then ρ.set i (some ⟨s0.m, s.d⟩) else ρ
    | _, _ => ρ
  | _ => ρ

def lockL (ρ : En) : List Vr → En
  | [] => ρ
  | r :: rs => lockL (lockS ρ r) rs
def unlockL (ρ0 ρ : En) : List Vr → En
  | [] => ρ
  | r :: rs => unlockS ρ0 (unlockL (lockS ρ0 r) ρ rs) r

/-! ### sizes -/
def LIM : Nat := 16777216
def B62 : Int := 4611686018427387904
def B63 : Int := 9223372036854775808

/-! ### values -/
def truth : D → Option Bool
  | .non => some false
  | .bl b => some b
  | .int i => some (!decide (i = 0))
  | .str l => some (!l.isEmpty)
  | .tup l => some (!l.isEmpty)
  | .lst l => some (!l.isEmpty)
  | .dic l _ => some (!l.isEmpty)
  | _ => none
def b2i (b : Bool) : Int := if b then 1 else 0
mutual
/-- depth at most n, nothing but None, bools, ints, texts, lists, tuples -/
def flat : Nat → D → Bool
  | _, .non => true
  | _, .bl _ => true
  | _, .int _ => true
  | _, .str _ => true
  | 0, _ => false
  | n + 1, .lst xs => flatL n xs
  | n + 1, .tup xs => flatL n xs
  | _ + 1, _ => false
def flatL : Nat → List D → Bool
  | _, [] => true
  | n, x :: xs => flat n x && flatL n xs
end
mutual
/-- Python's == of such -/
def eqD : D → D → Bool
  | .non, .non => true
  | .bl a, .bl b => a == b
  | .bl a, .int j => (if a then 1 else 0) == j
  | .int i, .bl b => i == (if b then 1 else 0)
  | .int i, .int j => i == j
  | .str x, .str y => decide (x = y)
  | .lst xs, .lst ys => eqDs xs ys
  | .tup xs, .tup ys => eqDs xs ys
  | _, _ => false
def eqDs : List D → List D → Bool
  | [], [] => true
  | x :: xs, y :: ys => eqD x y && eqDs xs ys
  | _, _ => false
end
def DEP : Nat := 60
def eqv (a b : D) : Option Bool := if flat DEP a && flat DEP b then some (eqD a b) else none

inductive Bop where | add | sub | mul | fdiv | mod | pow deriving DecidableEq
inductive Cop where | eq | ne | lt | le | gt | ge | is | isnot | isin | notin deriving DecidableEq

mutual
/-- can be compared place by place -/
def alikeD : D → D → Bool
  | .non, .non => true
  | .bl _, .bl _ => true
  | .int _, .int _ => true
  | .str _, .str _ => true
  | .lst xs, .lst ys => alikeDs xs ys
  | .tup xs, .tup ys => alikeDs xs ys
  | _, _ => false
def alikeDs : List D → List D → Bool
  | x :: xs, y :: ys => alikeD x y && alikeDs xs ys
  | _, _ => true
end
mutual
/-- Python's < of such -/
def lessD : D → D → Bool
  | .bl a, .bl b => decide (b2i a < b2i b)
  | .int a, .int b => decide (a < b)
  | .str a, .str b => decide (a < b)
  | .lst xs, .lst ys => lessDs xs ys
  | .tup xs, .tup ys => lessDs xs ys
  | _, _ => false
def lessDs : List D → List D → Bool
  | [], [] => false
  | [], _ :: _ => true
  | _ :: _, [] => false
  | x :: xs, y :: ys => if eqD x y then lessDs xs ys else lessD x y
end
def ltD (x y : D) : Option Bool := match x, y with
  | .int a, .int b => some (decide (a < b))
  | .str a, .str b => some (decide (a < b))
  | .non, _ => none
  | x, y => if flat DEP x && flat DEP y && alikeD x y then some (lessD x y) else none
def isKey : D → Bool
  | .int _ => true
  | .str _ => true
  | _ => false
/-- what stands under a key -/
def atK (k : D) : List D → List D → Option D
  | k' :: ks, v' :: vs => if eqD k' k then some v' else atK k ks vs
  | _, _ => none
def inD (x y : D) : Option Bool := match x, y with
  | .str [c], .str l => some (decide (c ∈ l))
  | x, .lst ys => if flat DEP x && flat DEP (.lst ys) then some (ys.any fun y => eqD y x) else none
  | x, .dic ks _ => if isKey x then some (ks.any fun k => eqD k x) else none
  | _, _ => none
def isNonD : D → Bool
  | .non => true
  | _ => false
def cmpD (op : Cop) (x y : D) : Option Bool := match op with
  | .eq => eqv x y
  | .ne => match eqv x y with
    | some b => some (!b)
    | none => none
  | .lt => ltD x y
  | .gt => match x, y with
    | .int a, .int b => some (decide (b < a))
    | .str a, .str b => some (decide (b < a))
    | _, _ => none
  | .le => match x, y with
    | .int a, .int b => some (decide (a ≤ b))
    | .str a, .str b => some (!decide (b < a))
    | _, _ => none
  | .ge => match x, y with
    | .int a, .int b => some (decide (b ≤ a))
    | .str a, .str b => some (!decide (a < b))
    | _, _ => none
  | .is => match x, y with
    | .bl a, .bl b => some (decide (a = b))
    | x, .non => some (isNonD x)
    | _, _ => none
  | .isnot => match x, y with
    | .bl a, .bl b => some (!decide (a = b))
    | x, .non => some (!isNonD x)
    | _, _ => none
  | .isin => inD x y
  | .notin => match inD x y with
    | some b => some (!b)
    | none => none

def mulOk (a b : Int) : Bool := decide (a.natAbs.log2 + b.natAbs.log2 < 1000000)
def binD (op : Bop) (x y : D) : Option Vr := match op, x, y with
  | .add, .int a, .int b => some (.v (.int (a + b)))
  | .add, .str a, .str b => if a.length + b.length ≤ LIM then some (.v (.str (a ++ b))) else none
  | .add, .lst a, .lst b => if a.length + b.length ≤ LIM then some (.o (.lst (a ++ b))) else none
  | .sub, .int a, .int b => some (.v (.int (a - b)))
  | .mul, .int a, .int b => if mulOk a b then some (.v (.int (a * b))) else none
  | .mul, .str a, .int b => if 0 ≤ b ∧ b < 1000000 ∧ a.length * b.toNat ≤ LIM then some (.v (.str (List.replicate b.toNat a).flatten)) else none
  | .mul, .lst a, .int b => if -B63 ≤ b ∧ b < B63 ∧ a.length * b.toNat ≤ LIM then some (.o (.lst (List.replicate b.toNat a).flatten)) else none
  | .fdiv, .int a, .int b => if 0 < b ∧ b.natAbs.log2 < 9000 then some (.v (.int (a / b))) else none
  | .mod, .int a, .int b => if 0 < b then some (.v (.int (a % b))) else none
  | .pow, .int a, .int b => if 0 ≤ b ∧ b ≤ 100000 ∧ a.natAbs.log2 * b.toNat ≤ 100000 then some (.v (.int (a ^ b.toNat))) else none
  | _, _, _ => none

/-- Python's index -/
def ixN (n : Nat) (i : Int) : Option Nat := if 0 ≤ i then (if i < n then some i.toNat else none) else if -(n : Int) ≤ i then some (i + n).toNat else none
def subD (x y : D) : Option D := match x, y with
  | .scr ns, .int i => match ixN ns.length i with
    | some j => match ns[j]? with
      | some n => some (.int n)
      | none => none
    | none => none
  | .lst xs, .int i => match ixN xs.length i with
    | some j => xs[j]?
    | none => none
  | .tup xs, .int i => match ixN xs.length i with
    | some j => xs[j]?
    | none => none
  | .str l, .int i => match ixN l.length i with
    | some j => match l[j]? with
      | some c => some (.str [c])
      | none => none
    | none => none
  | .dic ks vs, k => if isKey k then atK k ks vs else none
  | _, _ => none
/-- a slice's bound -/
def sIx (n d : Nat) : Option Int → Nat
  | none => d
  | some v => if v < 0 then (v + (n : Int)).toNat else min v.toNat n
def cut {α : Type} (l : List α) (lo hi : Option Int) : List α := (l.drop (sIx l.length 0 lo)).take (sIx l.length l.length hi - sIx l.length 0 lo)
def bound (b : Bool) (d : D) : Option (Option Int) := if b then (match d with
  | .int i => some (some i)
  | _ => none) else some none
def slD (x : D) (lo hi : Option Int) : Option Vr := match x with
  | .lst xs => some (.o (.lst (cut xs lo hi)))
  | .scr ns => some (.o (.lst ((cut ns lo hi).map .int)))
  | .tup xs => if (cut xs lo hi).length < xs.length then some (.v (.tup (cut xs lo hi))) else none
  | .str l => some (.v (.str (cut l lo hi)))
  | _ => none
/-- x[::-1] -/
def revD (x st : D) : Option Vr := match st with
  | .int j => if j = -1 then (match x with
    | .lst xs => some (.o (.lst xs.reverse))
    | .str l => some (.v (.str l.reverse))
    | _ => none) else none
  | _ => none

/-! ### built-ins, methods -/
inductive Bi where | len | int | max2 | min2 | sum | list | tuple | dict | repr | isint | isbool | isstr | islist | istuple | isseq | isbox | gcd | sorted deriving DecidableEq
inductive Mt where | strip | join | bits | append | index | lindex deriving DecidableEq

mutual
def py : D → PyData
  | .non => .none
  | .bl b => .bool b
  | .int i => .int i
  | .str l => .str ⟨l.toArray⟩
  | .lst xs => .list (pys xs)
  | .tup xs => .tuple (pys xs)
  | .dic ks vs => .dict ((pys ks).zip (pys vs))
  | .fn _ => .none
  | .scr _ => .none
  | .exc _ _ => .none
def pys : List D → List PyData
  | [] => []
  | x :: xs => py x :: pys xs
end
def Dsum : List D → Int → Option Int
  | [], a => some a
  | .int i :: r, a => Dsum r (a + i)
  | _, _ => none
def stripD (cs l : List Nat) : List Nat := ((l.dropWhile fun c => cs.contains c).reverse.dropWhile fun c => cs.contains c).reverse
def strsOf : List D → Option (List (List Nat))
  | [] => some []
  | .str l :: r => match strsOf r with
    | some ls => some (l :: ls)
    | none => none
  | _ => none
def joinL (sep : List Nat) : List (List Nat) → List Nat
  | [] => []
  | [x] => x
  | x :: y :: r => x ++ sep ++ joinL sep (y :: r)
/-- dict of pairs: a key that comes again keeps its place -/
def putD (k v : D) : List D → List D → List D × List D
  | k' :: ks, v' :: vs => if eqD k' k then (k' :: ks, v :: vs) else match putD k v ks vs with
    | (a, b) => (k' :: a, v' :: b)
  | _, _ => ([k], [v])
def pairsD : List D → List D → List D → Option (List D × List D)
  | [], ks, vs => some (ks, vs)
  | .tup [k, v] :: r, ks, vs => if isKey k then match putD k v ks vs with
    | (a, b) => pairsD r a b else none
  | _, _, _ => none
def shownD (d : D) : List Nat := (PyData.shown (py d)).cps.toList
mutual
/-- can be shown: w: with lists and no dict, or with dicts and no list -/
def showD (w : Bool) : Nat → D → Bool
  | _, .non => true
  | _, .bl _ => true
  | _, .int i => decide (i.natAbs.log2 < 1920)
  | _, .str _ => true
  | 0, _ => false
  | n + 1, .lst xs => w && showDs w n xs
  | n + 1, .tup xs => showDs w n xs
  | n + 1, .dic ks vs => !w && (showDs w n ks && showDs w n vs)
  | _ + 1, _ => false
def showDs (w : Bool) : Nat → List D → Bool
  | _, [] => true
  | n, x :: xs => showD w n x && showDs w n xs
end
def leastS : List Nat → List D → Option (List Nat)
  | x, [] => some x
  | x, .str y :: r => leastS (if y < x then y else x) r
  | _, _ => none
def leastI : Int → List D → Option Int
  | x, [] => some x
  | x, .int y :: r => leastI (if y < x then y else x) r
  | _, _ => none
def greatI : Int → List D → Option Int
  | x, [] => some x
  | x, .int y :: r => greatI (if y > x then y else x) r
  | _, _ => none
def leastD : List D → Option D
  | .str x :: r => match leastS x r with
    | some m => some (.str m)
    | none => none
  | .int x :: r => match leastI x r with
    | some m => some (.int m)
    | none => none
  | _ => none
def greatD : List D → Option D
  | .int x :: r => match greatI x r with
    | some m => some (.int m)
    | none => none
  | _ => none
/-- ints in order -/
def insI (x : Int) : List Int → List Int
  | [] => [x]
  | y :: r => if x ≤ y then x :: y :: r else y :: insI x r
def sortI : List Int → List Int
  | [] => []
  | x :: r => insI x (sortI r)
def intsD : List D → Option (List Int)
  | [] => some []
  | .int i :: r => match intsD r with
    | some ns => some (i :: ns)
    | none => none
  | _ => none
theorem insI_perm (x : Int) : ∀ l : List Int, (insI x l).Perm (x :: l)
  | [] => .refl _
  | y :: r => by
    unfold insI
    split
    · exact .refl _
    · exact ((insI_perm x r).cons y).trans (.swap x y r)
theorem sortI_perm : ∀ l : List Int, (sortI l).Perm l
  | [] => .refl _
  | x :: r => (insI_perm x _).trans ((sortI_perm r).cons x)
theorem insI_up (x : Int) : ∀ l : List Int, l.Pairwise (· ≤ ·) → (insI x l).Pairwise (· ≤ ·)
  | [], _ => by simp [insI]
  | y :: r, h => by
    unfold insI
    split
    · rename_i q
      refine List.pairwise_cons.mpr ⟨fun z hz => ?_, h⟩
      rcases List.mem_cons.mp hz with rfl | hz
      · exact q
      · have := (List.pairwise_cons.mp h).1 z hz; omega
    · rename_i q
      refine List.pairwise_cons.mpr ⟨fun z hz => ?_, insI_up x r (List.pairwise_cons.mp h).2⟩
      rcases List.mem_cons.mp ((insI_perm x r).mem_iff.mp hz) with rfl | hz
      · omega
      · exact (List.pairwise_cons.mp h).1 z hz
theorem sortI_up : ∀ l : List Int, (sortI l).Pairwise (· ≤ ·)
  | [] => .nil
  | x :: r => insI_up x _ (sortI_up r)
theorem sortI_eq {ys ns : List Int} (p : ys.Perm ns) (h : ys.Pairwise (· ≤ ·)) : ys = sortI ns :=
  List.Perm.eq_of_pairwise (fun a b _ _ h1 h2 => Int.le_antisymm h1 h2) h (sortI_up ns) (p.trans (sortI_perm ns).symm)
def biD (f : Bi) (xs : List D) : Option Vr := match f, xs with
  | .len, [.scr l] => some (.v (.int l.length))
  | .len, [.str l] => some (.v (.int l.length))
  | .len, [.lst l] => some (.v (.int l.length))
  | .len, [.tup l] => some (.v (.int l.length))
  | .len, [.dic l _] => some (.v (.int l.length))
  | .int, [.int i] => some (.v (.int i))
  | .int, [.bl b] => some (.v (.int (b2i b)))
  | .max2, [.int a, .int b] => some (.v (.int (if b > a then b else a)))
  | .min2, [.int a, .int b] => some (.v (.int (if b < a then b else a)))
  | .min2, [.str a, .str b] => some (.v (.str (if b < a then b else a)))
  | .min2, [.lst l] => match leastD l with
    | some m => some (.v m)
    | none => none
  | .max2, [.lst l] => match greatD l with
    | some m => some (.v m)
    | none => none
  | .sum, [.lst l] => match Dsum l 0 with
    | some i => some (.v (.int i))
    | none => none
  | .gcd, [.int a, .int b] => some (.v (.int ((Nat.gcd a.natAbs b.natAbs : Nat) : Int)))
  | .list, [.lst l] => some (.o (.lst l))
  | .list, [.tup l] => some (.o (.lst l))
  | .list, [.str l] => some (.o (.lst (l.map fun c => .str [c])))
  | .list, [.dic ks _] => some (.o (.lst ks))
  | .sorted, [.lst l] => match intsD l with
    | some ns => some (.o (.lst ((sortI ns).map .int)))
    | none => none
  | .sorted, [.dic ks _] => match intsD ks with
    | some ns => if ns.length < 64 then some (.o (.lst ((sortI ns).map .int))) else none
    | none => none
  | .tuple, [.lst l] => some (.v (.tup l))
  | .dict, [.lst l] => match pairsD l [] [] with
    | some (ks, vs) => if l.length ≤ LIM then some (.o (.dic ks vs)) else none
    | none => none
  | .repr, [d] => if (showD true DEP d || showD false DEP d) && decide ((shownD d).length ≤ LIM) then some (.v (.str (shownD d))) else none
  | .isint, [d] => match d with
    | .int _ => some (.v (.bl true))
    | .bl _ => some (.v (.bl true))
    | .fn _ => none
      | .exc _ _ => none
    | _ => some (.v (.bl false))
  | .isbool, [d] => match d with
    | .bl _ => some (.v (.bl true))
    | .fn _ => none
      | .exc _ _ => none
    | _ => some (.v (.bl false))
  | .isstr, [d] => match d with
    | .str _ => some (.v (.bl true))
    | .fn _ => none
      | .exc _ _ => none
    | _ => some (.v (.bl false))
  | .islist, [d] => match d with
    | .lst _ => some (.v (.bl true))
    | .scr _ => some (.v (.bl true))
    | .fn _ => none
      | .exc _ _ => none
    | _ => some (.v (.bl false))
  | .istuple, [d] => match d with
    | .tup _ => some (.v (.bl true))
    | .fn _ => none
      | .exc _ _ => none
    | _ => some (.v (.bl false))
  | .isseq, [d] => match d with
    | .lst _ => some (.v (.bl true))
    | .scr _ => some (.v (.bl true))
    | .tup _ => some (.v (.bl true))
    | .fn _ => none
      | .exc _ _ => none
    | _ => some (.v (.bl false))
  | .isbox, [d] => match d with
    | .lst _ => some (.v (.bl true))
    | .scr _ => some (.v (.bl true))
    | .tup _ => some (.v (.bl true))
    | .dic _ _ => some (.v (.bl true))
    | .fn _ => none
      | .exc _ _ => none
    | _ => some (.v (.bl false))
  | _, _ => none
def plainD : D → Bool
  | .non => true
  | .bl _ => true
  | .int _ => true
  | .str _ => true
  | _ => false
/-- methods that change nothing -/
def mtD (m : Mt) (x : D) (xs : List D) : Option Vr := match m, x, xs with
  | .strip, .str l, [.str cs] => some (.v (.str (stripD cs l)))
  | .join, .str sep, [.lst ys] => match strsOf ys with
    | some ls => if (ls.map List.length).sum + ls.length * sep.length ≤ LIM then some (.v (.str (joinL sep ls))) else none
    | none => none
  | .index, .str l, [.str [c]] => if c ∈ l then some (.v (.int (l.idxOf c : Nat))) else none
  | .lindex, .lst xs, [y] => if plainD y && xs.all plainD then (match xs.findIdx? fun x => eqD x y with
    | some j => some (.v (.int (j : Nat)))
    | none => none) else none
  | .bits, .int i, [] => some (.v (.int (if i = 0 then 0 else (i.natAbs.log2 + 1 : Nat))))
  | _, _, _ => none

def mtOk : Mt → D → Bool
  | .strip, .str _ => true
  | .join, .str _ => true
  | .bits, .int _ => true
  | .index, .str _ => true
  | .append, .lst _ => true
  | .lindex, .lst _ => true
  | _, _ => false
/-! ### the language -/
mutual
inductive E where
  | var (i : Nat) | lit (d : D)
  | bin (op : Bop) (a b : E) | cmp (op : Cop) (a b : E) | chain (o1 o2 : Cop) (a b c : E)
  | and (a b : E) | or (a b : E) | not (a : E) | ifx (t : T) (a b : E)
  | call (f : Nat) (pm : List Nat) (as ks : Es)
  | bi (f : Bi) (as : Es) | mth (m : Mt) (o : E) (as : Es)
  | sub (a b : E) | sl (bl bh : Bool) (a lo hi : E) | rev (a st : E)
  | lst (es : Es) | tup (es : Es) | dict0 | lrng1 (a : E) | lrng2 (a b : E) | bad
  | lc (elt : E) (tg : List Nat) (it : Wk) (ts : Ts) (own : List Nat)
inductive Es where | nil | cons (e : E) (es : Es)
inductive T where | val (e : E) | and (a b : T) | or (a b : T) | not (a : T)
inductive Ts where | nil | cons (t : T) (ts : Ts)
/-- what is walked -/
inductive Wk where | seq (e : E) | rng1 (a : E) | rng2 (a b : E) | enum (a : E) | zip (a b : E) | back (a : E)
end
mutual
inductive S where
  | expr (e : E) | set (i : Nat) (e : E) | par (is : List Nat) (es : Es) | unp (is : List Nat) (e : E)
  | put (o i v : E) | ret (e : E) | iff (t : T) (a b : Ss) | for (tg : List Nat) (it : Wk) (body : Ss)
  | brk | cont | pass | raise (c : Nat) (e : E) | while (t : T) (body : Ss) | bad
inductive Ss where | nil | cons (s : S) (ss : Ss)
end

/-! ### the evaluator -/
abbrev Fns := Nat → List Sl → CR
def toRs (r : Option Vr) (ρ : En) : Rs Vr := match r with
  | some r => .ok r ρ
  | none => .err
def toRb (r : Option Bool) (ρ : En) : Rs Vr := match r with
  | some b => .ok (.v (.bl b)) ρ
  | none => .err
def op2 (ρ : En) (x y : Vr) (f : D → D → Rs Vr) : Rs Vr := match look ρ x, look ρ y with
  | some a, some b => f a b
  | _, _ => .err
def op1 (ρ : En) (x : Vr) (f : D → Rs α) : Rs α := match look ρ x with
  | some a => f a
  | none => .err
/-- a slot that is handed in twice is frozen -/
def frzDup : List Vr → En → En
  | [], ρ => ρ
  | .s i :: r, ρ => if r.any (fun x => match x with | .s j => i == j | _ => false) then (match ρ.get i with
      | some s => frzDup r (ρ.set i (some ⟨.fz, s.d⟩))
      | none => frzDup r ρ) else frzDup r ρ
  | _ :: r, ρ => frzDup r ρ
def argOf (ρ : En) : Vr → Option Sl
  | .v d => some ⟨.fz, d⟩
  | .o d => some ⟨.own, d⟩
  | .s i => ρ.get i
def argsOf (ρ : En) : List Vr → Option (List Sl)
  | [] => some []
  | r :: rs => match argOf ρ r, argsOf ρ rs with
    | some a, some l => some (a :: l)
    | _, _ => none
def outsTo : List Vr → List Sl → En → En
  | .s i :: r, o :: os, ρ => outsTo r os (ρ.set i (some o))
  | _ :: r, _ :: os, ρ => outsTo r os ρ
  | _, _, ρ => ρ
def callR (Φ : Fns) (f : Nat) (rs : List Vr) (ρ : En) : Rs Vr :=
  let ρ := frzDup rs ρ
  match argsOf ρ rs with
  | none => .err
  | some as => match Φ f as with
    | .ret own d outs => if outs.length = rs.length then .ok (if own then .o d else .v d) (outsTo rs outs ρ) else .err
    | .ex x outs => if outs.length = rs.length then .ex x (outsTo rs outs ρ) else .err
    | .err => .err
/-- the parameters' order -/
def pick {α : Type} : List Nat → List α → Option (List α)
  | [], _ => some []
  | i :: is, l => match l[i]?, pick is l with
    | some a, some r => some (a :: r)
    | _, _ => none
/-- a method: of a slot's list (append), or one that changes nothing -/
def mthR (m : Mt) (o : Vr) (rs : List Vr) (ρ : En) : Rs Vr := match m with
  | .append => match o, rs with
    | .s i, [r] => (keep ρ r).bind fun d ρ => match ρ.get i with
      | some ⟨.own, .lst xs⟩ => if xs.length < LIM then .ok (.v .non) (ρ.set i (some ⟨.own, .lst (xs ++ [d])⟩)) else .err
      | _ => .err
    | _, _ => .err
  | m => match look ρ o, lookAll ρ rs with
    | some x, some xs => toRs (mtD m x xs) ρ
    | _, _ => .err
def storeR (i : Nat) (r : Vr) (ρ : En) : Rs Unit := if i < ρ.length then match r with
  | .v d => .ok () (ρ.set i (some ⟨.fz, d⟩))
  | .o d => .ok () (ρ.set i (some ⟨.own, d⟩))
  | .s j => (keep ρ (.s j)).bind fun d ρ => .ok () (ρ.set i (some ⟨.fz, d⟩))
  else .err
def keepSl : List Vr → En → Rs (List Sl)
  | [], ρ => .ok [] ρ
  | r :: rs, ρ => (match r with
    | .v d => Rs.ok (⟨.fz, d⟩ : Sl) ρ
    | .o d => .ok ⟨.own, d⟩ ρ
    | .s j => (keep ρ (.s j)).bind fun d ρ => .ok ⟨.fz, d⟩ ρ).bind fun a ρ => (keepSl rs ρ).bind fun l ρ => .ok (a :: l) ρ
def setAll : List Nat → List Sl → En → Option En
  | [], [], ρ => some ρ
  | i :: is, s :: ss, ρ => if i < ρ.length then setAll is ss (ρ.set i (some s)) else none
  | _, _, _ => none
def items : D → Option (List D)
  | .scr ns => some (ns.map .int)
  | .lst xs => some xs
  | .tup xs => some xs
  | .str l => some (l.map fun c => .str [c])
  | _ => none
/-- a walk's item given to its targets -/
def assignD (tg : List Nat) (d : D) (ρ : En) : Option En := match tg with
  | [i] => if i < ρ.length then some (ρ.set i (some ⟨.fz, d⟩)) else none
  | tg => match d with
    | .tup ds => setAll tg (ds.map fun d => ⟨.fz, d⟩) ρ
    | _ => none
def wipeE (ρ : En) : List Nat → En
  | [] => ρ
  | v :: vs => (wipeE ρ vs).set v none
/-- the slots of ρ0 again -/
def backE (ρ0 ρ : En) : List Nat → En
  | [] => ρ
  | v :: vs => (backE ρ0 ρ vs).set v (match ρ0[v]? with
    | some s => s
    | none => none)
/-- nothing may be let out of a comprehension -/
def Rs.calm {α : Type} : Rs α → Rs α
  | .ex _ _ => .err
  | r => r
def lcGo (f : D → En → Rs (Option D)) : List D → En → Rs (List D)
  | [], ρ => .ok [] ρ
  | d :: ds, ρ => (f d ρ).calm.bind fun r ρ => (lcGo f ds ρ).bind fun rs ρ => .ok (match r with
    | some x => x :: rs
    | none => rs) ρ
/-- at one item of a walk -/
def withTg (tg : List Nat) (f : En → Rs Fl) : D → En → Rs Fl := fun d ρ => match assignD tg d ρ with
  | some ρ => f ρ
  | none => .err
def lcTg (tg own : List Nat) (t : En → Rs Bool) (e : En → Rs Vr) : D → En → Rs (Option D) := fun d ρ => match assignD tg d (wipeE ρ own) with
  | some ρ => (t ρ).bind fun b ρ => if b then (e ρ).bind fun x ρ => (keep ρ x).bind fun d ρ => .ok (some d) ρ else .ok none ρ
  | none => .err
def enumD (xs : List D) : List D := xs.mapIdx fun i d => .tup [.int (i : Nat), d]
def zipD (xs ys : List D) : List D := List.zipWith (fun a b => .tup [a, b]) xs ys
/-- a list's items -/
def lstOf : D → Option (List D)
  | .lst xs => some xs
  | .scr ns => some (ns.map .int)
  | _ => none
def enumOf : D → Option (List D)
  | .lst xs => some xs
  | .scr ns => some (ns.map .int)
  | .str l => some (l.map fun c => .str [c])
  | _ => none
/-- what is given to several names -/
def unpD : D → Option (List D)
  | .tup ds => some ds
  | .lst ds => some ds
  | _ => none
def rngD (a b : Int) : List D := (List.range (b - a).toNat).map fun (k : Nat) => .int (a + k)

mutual
def evE (Φ : Fns) : E → En → Rs Vr
  | .var i, ρ => match ρ.get i with
    | some _ => .ok (.s i) ρ
    | none => .err
  | .lit d, ρ => .ok (.v d) ρ
  | .bin op a b, ρ => (evE Φ a ρ).bind fun x ρ => (evE Φ b ρ).bind fun y ρ => op2 ρ x y fun d e => toRs (binD op d e) ρ
  | .cmp op a b, ρ => (evE Φ a ρ).bind fun x ρ => (evE Φ b ρ).bind fun y ρ => op2 ρ x y fun d e => toRb (cmpD op d e) ρ
  | .chain o1 o2 a b c, ρ => (evE Φ a ρ).bind fun x ρ => (evE Φ b ρ).bind fun y ρ => op2 ρ x y fun d e => match cmpD o1 d e with
    | some true => (evE Φ c ρ).bind fun z ρ => op2 ρ y z fun d e => toRb (cmpD o2 d e) ρ
    | some false => .ok (.v (.bl false)) ρ
    | none => .err
  | .and a b, ρ => (evE Φ a ρ).bind fun x ρ => op1 ρ x fun d => match truth d with
    | some true => evE Φ b ρ
    | some false => .ok x ρ
    | none => .err
  | .or a b, ρ => (evE Φ a ρ).bind fun x ρ => op1 ρ x fun d => match truth d with
    | some true => .ok x ρ
    | some false => evE Φ b ρ
    | none => .err
  | .not a, ρ => (evE Φ a ρ).bind fun x ρ => op1 ρ x fun d => match truth d with
    | some b => .ok (.v (.bl (!b))) ρ
    | none => .err
  | .ifx t a b, ρ => (evT Φ t ρ).bind fun c ρ => if c then evE Φ a ρ else evE Φ b ρ
  | .call f pm as ks, ρ => (evEs Φ as ρ).bind fun rs ρ => (evEs Φ ks ρ).bind fun zs ρ => match pick pm (rs ++ zs) with
    | some rs => callR Φ f rs ρ
    | none => .err
  | .bi f as, ρ => (evEs Φ as ρ).bind fun rs ρ => match lookAll ρ rs with
    | some ds => toRs (biD f ds) ρ
    | none => .err
  | .mth m o as, ρ => (evE Φ o ρ).bind fun x ρ => op1 ρ x fun d => if mtOk m d then (evEs Φ as ρ).bind fun rs ρ => mthR m x rs ρ else .err
  | .sub a b, ρ => (evE Φ a ρ).bind fun x ρ => (evE Φ b ρ).bind fun y ρ => op2 ρ x y fun d e => match subD d e with
    | some r => .ok (.v r) ρ
    | none => .err
  | .sl bl bh a lo hi, ρ => (evE Φ a ρ).bind fun x ρ => (evE Φ lo ρ).bind fun y ρ => op1 ρ y fun l => match bound bl l with
    | none => .err
    | some l => (evE Φ hi ρ).bind fun z ρ => op1 ρ z fun h => match bound bh h with
      | none => .err
      | some h => op1 ρ x fun d => toRs (slD d l h) ρ
  | .rev a st, ρ => (evE Φ a ρ).bind fun x ρ => (evE Φ st ρ).bind fun y ρ => op2 ρ x y fun d e => match e with
    | .int _ => toRs (revD d e) ρ
    | _ => .err
  | .lst es, ρ => (evEs Φ es ρ).bind fun rs ρ => (keepAll rs ρ).bind fun ds ρ => if ds.length ≤ LIM then .ok (.o (.lst ds)) ρ else .err
  | .tup es, ρ => (evEs Φ es ρ).bind fun rs ρ => (keepAll rs ρ).bind fun ds ρ => if ds.length ≤ LIM then .ok (.v (.tup ds)) ρ else .err
  | .dict0, ρ => .ok (.o (.dic [] [])) ρ
  | .lrng1 a, ρ => (evE Φ a ρ).bind fun x ρ => op1 ρ x fun d => match d with
    | .int j => if -B62 ≤ j ∧ j < B62 ∧ (j - 0).toNat ≤ LIM then .ok (.o (.lst (rngD 0 j))) ρ else .err
    | _ => .err
  | .lrng2 a b, ρ => (evE Φ a ρ).bind fun x ρ => (evE Φ b ρ).bind fun y ρ => op1 ρ x fun d => op1 ρ y fun e => match d, e with
    | .int i, .int j => if -B62 ≤ i ∧ i < B62 ∧ -B62 ≤ j ∧ j < B62 ∧ (j - i).toNat ≤ LIM then .ok (.o (.lst (rngD i j))) ρ else .err
    | _, _ => .err
  | .bad, _ => .err
  | .lc elt tg it ts own, ρ => (evI Φ it ρ).bind fun (rows, r) ρ1 =>
      (lcGo (lcTg tg own (evTs Φ ts) (evE Φ elt)) rows (wipeE (lockL ρ1 r) own)).bind fun ds ρ => if ds.length ≤ LIM then .ok (.o (.lst ds)) (unlockL ρ1 (backE (lockL ρ1 r) ρ own) r) else .err
def evEs (Φ : Fns) : Es → En → Rs (List Vr)
  | .nil, ρ => .ok [] ρ
  | .cons e es, ρ => (evE Φ e ρ).bind fun x ρ => (evEs Φ es ρ).bind fun xs ρ => .ok (x :: xs) ρ
def evT (Φ : Fns) : T → En → Rs Bool
  | .val e, ρ => (evE Φ e ρ).bind fun x ρ => op1 ρ x fun d => match truth d with
    | some b => .ok b ρ
    | none => .err
  | .and a b, ρ => (evT Φ a ρ).bind fun c ρ => if c then evT Φ b ρ else .ok false ρ
  | .or a b, ρ => (evT Φ a ρ).bind fun c ρ => if c then .ok true ρ else evT Φ b ρ
  | .not a, ρ => (evT Φ a ρ).bind fun c ρ => .ok (!c) ρ
def evTs (Φ : Fns) : Ts → En → Rs Bool
  | .nil, ρ => .ok true ρ
  | .cons t ts, ρ => (evT Φ t ρ).bind fun c ρ => if c then evTs Φ ts ρ else .ok false ρ
/-- the items, and what is walked -/
def evI (Φ : Fns) : Wk → En → Rs (List D × List Vr)
  | .seq e, ρ => (evE Φ e ρ).bind fun x ρ => op1 ρ x fun d => match items d with
    | some ds => .ok (ds, [x]) ρ
    | none => .err
  | .enum e, ρ => (evE Φ e ρ).bind fun x ρ => op1 ρ x fun d => match enumOf d with
    | some ds => .ok (enumD ds, [x]) ρ
    | none => .err
  | .zip a b, ρ => (evE Φ a ρ).bind fun x ρ => (evE Φ b ρ).bind fun y ρ => op1 ρ x fun d => op1 ρ y fun e => match lstOf d, lstOf e with
    | some ds, some es => .ok (zipD ds es, [x, y]) ρ
    | _, _ => .err
  | .back e, ρ => (evE Φ e ρ).bind fun x ρ => op1 ρ x fun d => match lstOf d with
    | some ds => .ok (ds.reverse, [x]) ρ
    | none => .err
  | .rng1 a, ρ => (evE Φ a ρ).bind fun x ρ => op1 ρ x fun d => match d with
    | .int j => if -B62 ≤ j ∧ j < B62 then .ok (rngD 0 j, []) ρ else .err
    | _ => .err
  | .rng2 a b, ρ => (evE Φ a ρ).bind fun x ρ => (evE Φ b ρ).bind fun y ρ => op1 ρ x fun d => op1 ρ y fun e => match d, e with
    | .int i, .int j => if -B62 ≤ i ∧ i < B62 ∧ -B62 ≤ j ∧ j < B62 then .ok (rngD i j, []) ρ else .err
    | _, _ => .err
end

def forGo (f : D → En → Rs Fl) : List D → En → Rs Fl
  | [], ρ => .ok .nx ρ
  | d :: ds, ρ => (f d ρ).bind fun c ρ => match c with
    | .nx => forGo f ds ρ
    | .ct => forGo f ds ρ
    | .br => .ok .nx ρ
    | .rt o d => .ok (.rt o d) ρ
/-- how often a while may turn -/
def FUEL : Nat := 1000000
def whGo (t : En → Rs Bool) (f : En → Rs Fl) : Nat → En → Rs Fl
  | 0, _ => .err
  | n + 1, ρ => (t ρ).bind fun c ρ => if c then (f ρ).bind fun r ρ => (match r with
    | .nx => whGo t f n ρ
    | .ct => whGo t f n ρ
    | .br => .ok .nx ρ
    | .rt o d => .ok (.rt o d) ρ) else .ok .nx ρ
mutual
def evS (Φ : Fns) (np : Nat) : S → En → Rs Fl
  | .expr e, ρ => (evE Φ e ρ).bind fun _ ρ => .ok .nx ρ
  | .set i e, ρ => (evE Φ e ρ).bind fun x ρ => (storeR i x ρ).bind fun _ ρ => .ok .nx ρ
  | .par is es, ρ => (evEs Φ es ρ).bind fun xs ρ => (keepSl xs ρ).bind fun ss ρ => match setAll is ss ρ with
    | some ρ => .ok .nx ρ
    | none => .err
  | .unp is e, ρ => (evE Φ e ρ).bind fun x ρ => op1 ρ x fun d => match unpD d with
    | some ds => match setAll is (ds.map fun d => ⟨.fz, d⟩) ρ with
      | some ρ => .ok .nx ρ
      | none => .err
    | none => .err
  | .put o i v, ρ => (evE Φ v ρ).bind fun z ρ => (evE Φ o ρ).bind fun x ρ => (evE Φ i ρ).bind fun y ρ => (keep ρ z).bind fun d ρ => op1 ρ y fun k => match x with
    | .s j => match ρ.get j, k with
      | some ⟨.own, .lst xs⟩, .int k => match ixN xs.length k with
        | some n => .ok .nx (ρ.set j (some ⟨.own, .lst (xs.set n d)⟩))
        | none => .err
      | some ⟨.own, .dic ks vs⟩, k => if isKey k && decide (ks.length < LIM) then .ok .nx (ρ.set j (some ⟨.own, .dic (putD k d ks vs).1 (putD k d ks vs).2⟩)) else .err
      | _, _ => .err
    | _ => .err
  | .ret e, ρ => (evE Φ e ρ).bind fun x ρ => match x with
    | .v d => .ok (.rt false d) ρ
    | .o d => .ok (.rt true d) ρ
    | .s i => match ρ.get i with
      | some ⟨.own, d⟩ => if i < np then (keep ρ (.s i)).bind fun d ρ => .ok (.rt false d) ρ else .ok (.rt true d) ρ
      | _ => (keep ρ (.s i)).bind fun d ρ => .ok (.rt false d) ρ
  | .iff t a b, ρ => (evT Φ t ρ).bind fun c ρ => if c then evSs Φ np a ρ else evSs Φ np b ρ
  | .for tg it body, ρ => (evI Φ it ρ).bind fun (rows, r) ρ1 => (forGo (withTg tg (evSs Φ np body)) rows (lockL ρ1 r)).bind fun c ρ => .ok c (unlockL ρ1 ρ r)
  | .brk, ρ => .ok .br ρ
  | .cont, ρ => .ok .ct ρ
  | .pass, ρ => .ok .nx ρ
  | .bad, _ => .err
  | .while t body, ρ => whGo (evT Φ t) (evSs Φ np body) FUEL ρ
  | .raise c e, ρ => (evE Φ e ρ).bind fun x ρ => (keep ρ x).bind fun d ρ => .ex (.exc c d) ρ
def evSs (Φ : Fns) (np : Nat) : Ss → En → Rs Fl
  | .nil, ρ => .ok .nx ρ
  | .cons s ss, ρ => (evS Φ np s ρ).bind fun c ρ => match c with
    | .nx => evSs Φ np ss ρ
    | c => .ok c ρ
end

/-- a def: how many parameters, slots; the parameters that are set anew -/
structure Df where
  np : Nat
  ns : Nat
  reb : List Nat
  body : Ss
def allSome : List (Option Sl) → Option (List Sl)
  | [] => some []
  | some s :: r => match allSome r with
    | some l => some (s :: l)
    | none => none
  | none :: _ => none
def frzAt : List Nat → List Sl → List Sl
  | [], l => l
  | j :: js, l => match l[j]? with
    | some s => (frzAt js l).set j ⟨.fz, s.d⟩
    | none => frzAt js l
def backAt (l0 : List Sl) : List Nat → List Sl → List Sl
  | [], l => l
  | j :: js, l => match l0[j]? with
    | some s => (backAt l0 js l).set j s
    | none => backAt l0 js l
def runDf (Φ : Fns) (d : Df) (as : List Sl) : CR :=
  if as.length = d.np ∧ d.np ≤ d.ns then
    let as0 := frzAt d.reb as
    match evSs Φ d.np d.body (as0.map some ++ List.replicate (d.ns - d.np) none) with
    | .ok c ρ => match allSome (ρ.take d.np) with
      | some outs => if outs.length = d.np then match c with
        | .nx => .ret false .non (backAt as0 d.reb outs)
        | .rt o r => .ret o r (backAt as0 d.reb outs)
        | _ => .err
        else .err
      | none => .err
    | .ex x ρ => match allSome (ρ.take d.np) with
      | some outs => if outs.length = d.np then .ex x (backAt as0 d.reb outs) else .err
      | none => .err
    | .err => .err
  else .err
abbrev Tab := List (Nat × Df)
def Phi (Δ : Tab) : Nat → Fns
  | 0 => fun _ _ => .err
  | n + 1 => fun f as => match Δ.lookup f with
    | some d => runDf (Phi Δ n) d as
    | none => .err
end Ev

set_option Elab.async false
set_option linter.all false
set_option maxRecDepth 100000
set_option maxHeartbeats 1000000
/-! Ev1: how plain data lies in the abstract heap; what a step may change. Own work. -/
namespace Ev
open PySem PySem.Spec PyProof.Rows L2

abbrev St := L2.St
/-- what stands outside: the written part, where each def stands -/
structure Gi where
  K : PySem.W.Frag
  fa : Nat → Option Addr
  ca : Nat → Option Addr

def okL (l : List Nat) : Prop := l.length ≤ sizeLine ∧ ∀ c ∈ l, c < 0x110000
def keyD : Key → D
  | .inl i => .int i
  | .inr x => .str x.cps.toList
/-- the keys as they stand -/
def KsOf (kvs : List (Key × V)) (ks : List D) : Prop := ks = kvs.map (fun p => keyD p.1) ∧ ∀ l, D.str l ∈ ks → okL l
mutual
/-- v reads as d in the frozen heap -/
inductive RD (g : Gi) (F : Hp) : V → D → Prop
  | non : RD g F .non .non
  | bl (b : Bool) : RD g F (.bl b) (.bl b)
  | int (i : Int) : RD g F (.int i) (.int i)
  | str (l : List Nat) : okL l → RD g F (.str ⟨l.toArray⟩) (.str l)
  | tup {a xs ds} : SqT g.K F a xs → RDs g F xs ds → RD g F (.ref a) (.tup ds)
  | lst {a xs ds} : F a = some (.lst xs) → RDs g F xs ds → RD g F (.ref a) (.lst ds)
  | scr {a ns} : SqL g.K F a (ns.map .int) → RD g F (.ref a) (.scr ns)
  | dic {a kvs ks vs} : F a = some (.dK kvs) → (kvs.map (·.1)).Nodup → KsOf kvs ks → RDs g F (kvs.map (·.2)) vs → RD g F (.ref a) (.dic ks vs)
  | fn {a n} : g.fa n = some a → RD g F (.ref a) (.fn n)
inductive RDs (g : Gi) (F : Hp) : List V → List D → Prop
  | nil : RDs g F [] []
  | cons {v vs d ds} : RD g F v d → RDs g F vs ds → RDs g F (v :: vs) (d :: ds)
end
theorem Same.seqT {K : PySem.W.Frag} {H H' : Hp} {a : Addr} {xs : List V} (e : Same H H') (h : SqT K H a xs) : SqT K H' a xs := by
  rcases h with (h | ⟨o, h⟩) | h
  · exact .inl (.inl (e _ _ h))
  · exact .inl (.inr ⟨o, e _ _ h⟩)
  · exact .inr h
section
variable {g : Gi} {F F' : Hp}
mutual
theorem RD.mono (s : Same F F') : ∀ {v : V} {d : D}, RD g F v d → RD g F' v d
  | _, _, .non => .non
  | _, _, .bl b => .bl b
  | _, _, .int i => .int i
  | _, _, .str l h => .str l h
  | _, _, .tup h r => .tup (Same.seqT s h) (RDs.mono s r)
  | _, _, .lst h r => .lst (s _ _ h) (RDs.mono s r)
  | _, _, .scr h => .scr (Same.seq s h)
  | _, _, .dic h n e r => .dic (s _ _ h) n e (RDs.mono s r)
  | _, _, .fn h => .fn h
theorem RDs.mono (s : Same F F') : ∀ {vs : List V} {ds : List D}, RDs g F vs ds → RDs g F' vs ds
  | _, _, .nil => .nil
  | _, _, .cons h r => .cons (RD.mono s h) (RDs.mono s r)
end
theorem RDs.length : ∀ {vs : List V} {ds : List D}, RDs g F vs ds → vs.length = ds.length
  | _, _, .nil => rfl
  | _, _, .cons _ r => congrArg (· + 1) r.length
theorem RDs.append : ∀ {vs : List V} {ds : List D} {ws : List V} {es : List D}, RDs g F vs ds → RDs g F ws es → RDs g F (vs ++ ws) (ds ++ es)
  | _, _, _, _, .nil, s => s
  | _, _, _, _, .cons h r, s => .cons h (r.append s)
theorem RDs.get : ∀ {vs : List V} {ds : List D} {i : Nat} {d : D}, RDs g F vs ds → ds[i]? = some d → ∃ v, vs[i]? = some v ∧ RD g F v d
  | _, _, _, _, .nil, e => by simp at e
  | _, _, 0, _, .cons h _, e => by simp at e; subst e; exact ⟨_, rfl, h⟩
  | _, _, i + 1, d, .cons _ r, e => by
    obtain ⟨v, h1, h2⟩ := RDs.get (i := i) (d := d) r (by simpa using e)
    exact ⟨v, by simpa using h1, h2⟩
theorem RDs.getV : ∀ {vs : List V} {ds : List D} {i : Nat} {v : V}, RDs g F vs ds → vs[i]? = some v → ∃ d, ds[i]? = some d ∧ RD g F v d
  | _, _, _, _, .nil, e => by simp at e
  | _, _, 0, _, .cons h _, e => by simp at e; subst e; exact ⟨_, rfl, h⟩
  | _, _, i + 1, d, .cons _ r, e => by
    obtain ⟨v, h1, h2⟩ := RDs.getV (i := i) (v := d) r (by simpa using e)
    exact ⟨v, by simpa using h1, h2⟩
theorem RDs.set {v : V} {d : D} (h : RD g F v d) : ∀ {vs : List V} {ds : List D} (i : Nat), RDs g F vs ds → RDs g F (vs.set i v) (ds.set i d)
  | _, _, _, .nil => .nil
  | _, _, 0, .cons _ r => .cons h r
  | _, _, i + 1, .cons q r => .cons q (RDs.set h i r)
theorem RDs.drop : ∀ {vs : List V} {ds : List D} (n : Nat), RDs g F vs ds → RDs g F (vs.drop n) (ds.drop n)
  | _, _, 0, r => r
  | _, _, _ + 1, .nil => .nil
  | _, _, n + 1, .cons _ r => RDs.drop n r
theorem RDs.take : ∀ {vs : List V} {ds : List D} (n : Nat), RDs g F vs ds → RDs g F (vs.take n) (ds.take n)
  | _, _, 0, _ => .nil
  | _, _, _ + 1, .nil => .nil
  | _, _, n + 1, .cons h r => .cons h (RDs.take n r)
theorem RDs.reverse : ∀ {vs : List V} {ds : List D}, RDs g F vs ds → RDs g F vs.reverse ds.reverse
  | _, _, .nil => .nil
  | _, _, .cons h r => by
    rw [List.reverse_cons, List.reverse_cons]
    exact r.reverse.append (.cons h .nil)
theorem RDs.rep {vs : List V} {ds : List D} (h : RDs g F vs ds) : ∀ k : Nat, RDs g F (List.replicate k vs).flatten (List.replicate k ds).flatten
  | 0 => .nil
  | k + 1 => by
    rw [List.replicate_succ, List.replicate_succ, List.flatten_cons, List.flatten_cons]
    exact h.append (h.rep k)
theorem RDs.ints : ∀ {vs : List V} {ns : List Int}, RDs g F vs (ns.map .int) → vs = ns.map .int
  | _, [], .nil => rfl
  | _, _ :: _, .cons (.int _) r => by rw [r.ints]; rfl
end

/-- a thing of one's own at a: its parts are frozen -/
def Cell (g : Gi) (H F : Hp) (a : Addr) (d : D) : Prop :=
  (∃ xs ds, d = .lst ds ∧ H a = some (.lst xs) ∧ RDs g F xs ds) ∨ (∃ kvs ks vs, d = .dic ks vs ∧ H a = some (.dK kvs) ∧ (kvs.map (·.1)).Nodup ∧ KsOf kvs ks ∧ RDs g F (kvs.map (·.2)) vs)
theorem Cell.there {g : Gi} {H F : Hp} {a : Addr} {d : D} (c : Cell g H F a d) : H a ≠ none := by
  rcases c with ⟨_, _, _, e, _⟩ | ⟨_, _, _, _, e, _⟩ <;> rw [e] <;> exact fun h => nomatch h
theorem Cell.mono {g : Gi} {H H' F F' : Hp} {a : Addr} {d : D} (c : Cell g H F a d) (s : Same F F') (e : H' a = H a) : Cell g H' F' a d := by
  rcases c with ⟨xs, ds, rfl, h, r⟩ | ⟨kvs, ks, vs, rfl, h, n, k, r⟩
  · exact .inl ⟨xs, ds, rfl, e.trans h, r.mono s⟩
  · exact .inr ⟨kvs, ks, vs, rfl, e.trans h, n, k, r.mono s⟩
/-- frozen -/
theorem Cell.frozen {g : Gi} {H F : Hp} {a : Addr} {d : D} (c : Cell g H F a d) (n : F a = none) : ∃ o, H a = some o ∧ Same F (upd F a o) ∧ RD g (upd F a o) (.ref a) d := by
  have s : ∀ o, Same F (upd F a o) := fun o b u h => by rw [upd_ne (ne_of_none h n)]; exact h
  rcases c with ⟨xs, ds, rfl, h, r⟩ | ⟨kvs, ks, vs, rfl, h, nd, k, r⟩
  · exact ⟨_, h, s _, .lst upd_same (r.mono (s _))⟩
  · exact ⟨_, h, s _, .dic upd_same nd k (r.mono (s _))⟩

def SlRel (g : Gi) (H F : Hp) (s : Sl) (v : V) : Prop := match s.m with
  | .fz => RD g F v s.d
  | _ => ∃ a, v = .ref a ∧ F a = none ∧ Cell g H F a s.d
/-- the slots' plain data, in the heap -/
structure Sim (g : Gi) (ρ : En) (σ : St) (H F : Hp) : Prop where
  len : ρ.length = σ.length
  sub : Same F H
  val : ∀ i s, ρ.get i = some s → ∃ v, σ[i]? = some (some v) ∧ SlRel g H F s v
  sep : ∀ i j s t a, ρ.get i = some s → ρ.get j = some t → s.m ≠ .fz → t.m ≠ .fz → σ[i]? = some (some (.ref a)) → σ[j]? = some (some (.ref a)) → i = j
/-- may be changed; may be frozen -/
def Own (ρ : En) (σ : St) (a : Addr) : Prop := ∃ i s, ρ.get i = some s ∧ s.m = .own ∧ σ[i]? = some (some (.ref a))
def OwnL (ρ : En) (σ : St) (a : Addr) : Prop := ∃ i s, ρ.get i = some s ∧ s.m ≠ .fz ∧ σ[i]? = some (some (.ref a))
theorem Own.l {ρ : En} {σ : St} {a : Addr} (h : Own ρ σ a) : OwnL ρ σ a := by
  obtain ⟨i, s, h1, h2, h3⟩ := h
  exact ⟨i, s, h1, by rw [h2]; decide, h3⟩
theorem Sim.ownL {g : Gi} {ρ : En} {σ : St} {H F : Hp} (S : Sim g ρ σ H F) {a : Addr} (h : OwnL ρ σ a) : H a ≠ none ∧ F a = none := by
  obtain ⟨i, s, h1, h2, h3⟩ := h
  obtain ⟨v, e, r⟩ := S.val i s h1
  rw [h3] at e
  cases e
  unfold SlRel at r
  cases hm : s.m with
  | fz => exact absurd hm h2
  | lk =>
    rw [hm] at r
    obtain ⟨b, q, n, c⟩ := r
    cases q
    exact ⟨c.there, n⟩
  | own =>
    rw [hm] at r
    obtain ⟨b, q, n, c⟩ := r
    cases q
    exact ⟨c.there, n⟩
/-- slot j owns what stands at a -/
def OwnAt (ρ : En) (σ : St) (j : Nat) (a : Addr) : Prop := ∃ s, ρ.get j = some s ∧ s.m ≠ .fz ∧ σ[j]? = some (some (.ref a))
def OwnM (ρ : En) (σ : St) (j : Nat) (a : Addr) : Prop := ∃ s, ρ.get j = some s ∧ s.m = .own ∧ σ[j]? = some (some (.ref a))
/-- what a slot owns it owned before, or it is new -/
def Pv (ρ : En) (σ : St) (H : Hp) (ρ' : En) (σ' : St) : Prop := (∀ j a, OwnM ρ' σ' j a → OwnM ρ σ j a ∨ H a = none) ∧ ∀ j a, OwnAt ρ' σ' j a → OwnAt ρ σ j a ∨ H a = none
theorem Pv.refl {ρ : En} {σ : St} {H : Hp} : Pv ρ σ H ρ σ := ⟨fun _ _ z => .inl z, fun _ _ z => .inl z⟩
theorem Pv.trans {ρ ρ1 ρ2 : En} {σ σ1 σ2 : St} {H H1 : Hp} (a : Pv ρ σ H ρ1 σ1) (b : Pv ρ1 σ1 H1 ρ2 σ2) (l : ∀ b, H b ≠ none → H1 b ≠ none) : Pv ρ σ H ρ2 σ2 :=
  ⟨fun j c z => (b.1 j c z).elim (a.1 j c) fun z => .inr (Classical.byContradiction fun q => l c q z), fun j c z => (b.2 j c z).elim (a.2 j c) fun z => .inr (Classical.byContradiction fun q => l c q z)⟩
/-- from one state to a later one -/
structure Stp (ρ : En) (σ : St) (H F : Hp) (ρ' : En) (σ' : St) (H' F' : Hp) : Prop where
  fzs : Same F F'
  fzn : ∀ b, F' b ≠ none → F b ≠ none ∨ H b = none ∨ OwnL ρ σ b
  mod : ∀ b o, H b = some o → ¬ Own ρ σ b → H' b = some o
  live : ∀ b, H b ≠ none → H' b ≠ none
  own : ∀ b, Own ρ' σ' b → Own ρ σ b ∨ H b = none
  ownl : ∀ b, OwnL ρ' σ' b → OwnL ρ σ b ∨ H b = none
section
variable {ρ ρ' ρ1 ρ2 : En} {σ σ' σ1 σ2 : St} {H H' H1 H2 F F' F1 F2 : Hp}
theorem Stp.refl : Stp ρ σ H F ρ σ H F := ⟨Same.refl F, fun _ h => .inl h, fun _ _ h _ => h, fun _ h => h, fun _ h => .inl h, fun _ h => .inl h⟩
theorem Stp.trans (a : Stp ρ σ H F ρ1 σ1 H1 F1) (b : Stp ρ1 σ1 H1 F1 ρ2 σ2 H2 F2) : Stp ρ σ H F ρ2 σ2 H2 F2 where
  fzs := a.fzs.trans b.fzs
  fzn := fun c h => by
    rcases b.fzn c h with h | h | h
    · exact a.fzn c h
    · exact .inr (.inl (Classical.byContradiction fun q => a.live c q h))
    · rcases a.ownl c h with h | h
      · exact .inr (.inr h)
      · exact .inr (.inl h)
  mod := fun c o h n => by
    have h1 := a.mod c o h n
    refine b.mod c o h1 fun q => ?_
    rcases a.own c q with z | z
    · exact n z
    · rw [z] at h; cases h
  live := fun c h => b.live c (a.live c h)
  own := fun c h => by
    rcases b.own c h with h | h
    · exact a.own c h
    · exact .inr (Classical.byContradiction fun q => a.live c q h)
  ownl := fun c h => by
    rcases b.ownl c h with h | h
    · exact a.ownl c h
    · exact .inr (Classical.byContradiction fun q => a.live c q h)
end

/-- what an expression hands on, in the heap; H0: the heap ahead of it -/
def VrRel (g : Gi) (ρ : En) (σ : St) (H F H0 : Hp) (v : V) : Vr → Prop
  | .v d => RD g F v d
  | .o d => ∃ a, v = .ref a ∧ H0 a = none ∧ F a = none ∧ Cell g H F a d ∧ ¬ OwnL ρ σ a
  | .s i => σ[i]? = some (some v) ∧ (ρ.get i).isSome = true
section
variable {g : Gi} {ρ ρ' ρ1 ρ2 : En} {σ σ' σ1 σ2 : St} {H H' H0 H1 H2 F F' F1 F2 : Hp} {v : V} {r : Vr}
/-- a value held while something else runs; the slots stay set -/
theorem VrRel.keep (S : Sim g ρ σ H F) (h : VrRel g ρ σ H F H0 v r) (st : Stp ρ σ H F ρ' σ H' F') (hs : ∀ i, (ρ.get i).isSome = true → (ρ'.get i).isSome = true) : VrRel g ρ' σ H' F' H0 v r := by
  cases r with
  | v d => exact RD.mono st.fzs h
  | o d =>
    obtain ⟨a, rfl, n0, n, c, no⟩ := h
    obtain ⟨o, e⟩ := Option.ne_none_iff_exists'.mp c.there
    have e' := st.mod a o e fun z => no z.l
    have nf : F' a = none := by
      cases q : F' a with
      | none => rfl
      | some u =>
        rcases st.fzn a (by rw [q]; exact fun z => nomatch z) with z | z | z
        · exact absurd n z
        · exact absurd z c.there
        · exact absurd z no
    refine ⟨a, rfl, n0, nf, c.mono st.fzs (e'.trans e.symm), fun z => ?_⟩
    rcases st.ownl a z with z | z
    · exact no z
    · exact c.there z
  | s i => exact ⟨h.1, hs i h.2⟩
/-- .. seen from an earlier heap -/
theorem VrRel.before (h : VrRel g ρ σ H F H1 v r) (l : ∀ b, H0 b ≠ none → H1 b ≠ none) : VrRel g ρ σ H F H0 v r := by
  cases r with
  | v d => exact h
  | o d =>
    obtain ⟨a, e, n0, z⟩ := h
    exact ⟨a, e, Classical.byContradiction fun q => l a q n0, z⟩
  | s i => exact h
end

/-! ### reading what is handed on -/
section
variable {g : Gi} {ρ : En} {σ : St} {H F H0 : Hp} {v : V} {r : Vr}
/-- v reads as d in H (its own place may be of one's own) -/
def RdH (g : Gi) (H F : Hp) (v : V) (d : D) : Prop := RD g F v d ∨ ∃ a, v = .ref a ∧ Cell g H F a d
theorem VrRel.rd (S : Sim g ρ σ H F) (h : VrRel g ρ σ H F H0 v r) {d : D} (l : look ρ r = some d) : RdH g H F v d := by
  cases r with
  | v e => cases l; exact .inl h
  | o e =>
    cases l
    obtain ⟨a, e1, _, _, c, _⟩ := h
    exact .inr ⟨a, e1, c⟩
  | s i =>
    obtain ⟨h1, h2⟩ := h
    obtain ⟨s, hs⟩ := Option.isSome_iff_exists.mp h2
    have l' : s.d = d := by
      unfold look at l
      simp only [hs] at l
      exact Option.some.inj l
    obtain ⟨w, e, q⟩ := S.val i s hs
    rw [h1] at e
    cases e
    unfold SlRel at q
    cases hm : s.m with
    | fz => rw [hm] at q; rw [← l']; exact .inl q
    | lk =>
      rw [hm] at q
      obtain ⟨a, e, _, c⟩ := q
      rw [← l']; exact .inr ⟨a, e, c⟩
    | own =>
      rw [hm] at q
      obtain ⟨a, e, _, c⟩ := q
      rw [← l']; exact .inr ⟨a, e, c⟩
theorem RdH.int (h : RdH g H F v (.int i)) : v = .int i := by
  rcases h with h | ⟨a, _, c⟩
  · cases h; rfl
  · rcases c with ⟨_, _, e, _⟩ | ⟨_, _, _, e, _⟩ <;> cases e
theorem RdH.bl (h : RdH g H F v (.bl b)) : v = .bl b := by
  rcases h with h | ⟨a, _, c⟩
  · cases h; rfl
  · rcases c with ⟨_, _, e, _⟩ | ⟨_, _, _, e, _⟩ <;> cases e
theorem RdH.non (h : RdH g H F v .non) : v = .non := by
  rcases h with h | ⟨a, _, c⟩
  · cases h; rfl
  · rcases c with ⟨_, _, e, _⟩ | ⟨_, _, _, e, _⟩ <;> cases e
theorem RdH.str {l : List Nat} (h : RdH g H F v (.str l)) : v = .str ⟨l.toArray⟩ ∧ okL l := by
  rcases h with h | ⟨a, _, c⟩
  · cases h with
    | str _ h => exact ⟨rfl, h⟩
  · rcases c with ⟨_, _, e, _⟩ | ⟨_, _, _, e, _⟩ <;> cases e
theorem RdH.tup {ds : List D} (S : Same F H) (h : RdH g H F v (.tup ds)) : ∃ a xs, v = .ref a ∧ SqT g.K H a xs ∧ RDs g F xs ds := by
  rcases h with h | ⟨a, _, c⟩
  · cases h with
    | tup h r => exact ⟨_, _, rfl, Same.seqT S h, r⟩
  · rcases c with ⟨_, _, e, _⟩ | ⟨_, _, _, e, _⟩ <;> cases e
theorem RdH.lst {ds : List D} (S : Same F H) (h : RdH g H F v (.lst ds)) : ∃ a xs, v = .ref a ∧ H a = some (.lst xs) ∧ RDs g F xs ds := by
  rcases h with h | ⟨a, rfl, c⟩
  · cases h with
    | lst h r => exact ⟨_, _, rfl, S _ _ h, r⟩
  · rcases c with ⟨xs, ds', e, h, r⟩ | ⟨_, _, _, e, _⟩
    · cases e; exact ⟨a, xs, rfl, h, r⟩
    · cases e
theorem RdH.scr {ns : List Int} (S : Same F H) (h : RdH g H F v (.scr ns)) : ∃ a, v = .ref a ∧ SqL g.K H a (ns.map .int) := by
  rcases h with h | ⟨a, _, c⟩
  · cases h with
    | scr h => exact ⟨_, rfl, Same.seq S h⟩
  · rcases c with ⟨_, _, e, _⟩ | ⟨_, _, _, e, _⟩ <;> cases e
theorem RdH.dic {ks vs : List D} (S : Same F H) (h : RdH g H F v (.dic ks vs)) : ∃ a kvs, v = .ref a ∧ H a = some (.dK kvs) ∧ (kvs.map (·.1)).Nodup ∧ KsOf kvs ks ∧ RDs g F (kvs.map (·.2)) vs := by
  rcases h with h | ⟨a, rfl, c⟩
  · cases h with
    | dic h n e r => exact ⟨_, _, rfl, S _ _ h, n, e, r⟩
  · rcases c with ⟨_, _, e, _⟩ | ⟨kvs, ks', vs', e, h, n, k, r⟩
    · cases e
    · cases e; exact ⟨a, kvs, rfl, h, n, k, r⟩
end

/-! ### slots -/
section
variable {ρ : En} {i j : Nat} {s : Sl}
theorem get_set_same (h : i < ρ.length) : En.get (ρ.set i (some s)) i = some s := by
  unfold En.get
  rw [List.getElem?_set_self h]
theorem get_set_ne (h : i ≠ j) {x : Option Sl} : En.get (ρ.set i x) j = En.get ρ j := by
  unfold En.get
  rw [List.getElem?_set_ne h]
theorem get_lt (h : ρ.get i = some s) : i < ρ.length := by
  unfold En.get at h
  by_cases hi : i < ρ.length
  · exact hi
  · rw [List.getElem?_eq_none (by omega)] at h; cases h
theorem get_set_none : En.get (ρ.set i none) i = none := by
  unfold En.get
  by_cases h : i < ρ.length
  · rw [List.getElem?_set_self h]
  · rw [List.getElem?_eq_none (by simpa using h)]
theorem get_set {x : Sl} (hi : i < ρ.length) : En.get (ρ.set i (some x)) j = if i = j then some x else En.get ρ j := by
  by_cases h : i = j
  · subst h; rw [if_pos rfl, get_set_same hi]
  · rw [if_neg h, get_set_ne h]
end
section
variable {g : Gi} {ρ ρ' : En} {σ : St} {H F H0 : Hp} {v : V} {r : Vr} {d : D}
/-- a slot frozen -/
theorem Sim.freeze (S : Sim g ρ σ H F) {i : Nat} {s : Sl} (h : ρ.get i = some s) :
    ∃ F', Sim g (ρ.set i (some ⟨.fz, s.d⟩)) σ H F' ∧ Stp ρ σ H F (ρ.set i (some ⟨.fz, s.d⟩)) σ H F' ∧ (∀ v, σ[i]? = some (some v) → RD g F' v s.d) ∧ Pv ρ σ H (ρ.set i (some ⟨.fz, s.d⟩)) σ := by
  have hi := get_lt h
  obtain ⟨v, e, r⟩ := S.val i s h
  have ownl : ∀ b, OwnL (ρ.set i (some ⟨.fz, s.d⟩)) σ b → OwnL ρ σ b := fun b ⟨j, t, h1, h2, h3⟩ => by
    rw [get_set hi] at h1
    split at h1
    · cases h1; exact absurd rfl h2
    · exact ⟨j, t, h1, h2, h3⟩
  have own : ∀ b, Own (ρ.set i (some ⟨.fz, s.d⟩)) σ b → Own ρ σ b := fun b ⟨j, t, h1, h2, h3⟩ => by
    rw [get_set hi] at h1
    split at h1
    · cases h1; cases h2
    · exact ⟨j, t, h1, h2, h3⟩
  have pv : Pv ρ σ H (ρ.set i (some ⟨.fz, s.d⟩)) σ := ⟨fun j a ⟨t, h1, h2, h3⟩ => by
    rw [get_set hi] at h1
    split at h1
    · cases h1; cases h2
    · exact .inl ⟨t, h1, h2, h3⟩, fun j a ⟨t, h1, h2, h3⟩ => by
    rw [get_set hi] at h1
    split at h1
    · cases h1; exact absurd rfl h2
    · exact .inl ⟨t, h1, h2, h3⟩⟩
  have len : (ρ.set i (some ⟨.fz, s.d⟩)).length = σ.length := by rw [List.length_set]; exact S.len
  have sep : ∀ j k t u a, En.get (ρ.set i (some ⟨.fz, s.d⟩)) j = some t → En.get (ρ.set i (some ⟨.fz, s.d⟩)) k = some u → t.m ≠ .fz → u.m ≠ .fz → σ[j]? = some (some (.ref a)) → σ[k]? = some (some (.ref a)) → j = k := fun j k t u a h1 h2 m1 m2 => by
    rw [get_set hi] at h1 h2
    split at h1
    · cases h1; exact absurd rfl m1
    · split at h2
      · cases h2; exact absurd rfl m2
      · exact S.sep j k t u a h1 h2 m1 m2
  by_cases hm : s.m = .fz
  · have r' : RD g F v s.d := by unfold SlRel at r; rw [hm] at r; exact r
    refine ⟨F, ⟨len, S.sub, fun j t hj => ?_, sep⟩, ⟨Same.refl F, fun _ z => .inl z, fun _ _ z _ => z, fun _ z => z, fun b z => .inl (own b z), fun b z => .inl (ownl b z)⟩, fun w hw => by rw [e] at hw; cases hw; exact r', pv⟩
    rw [get_set hi] at hj
    split at hj
    · rename_i q
      subst q
      cases hj
      exact ⟨v, e, r'⟩
    · exact S.val j t hj
  · obtain ⟨a, rfl, n, c⟩ : ∃ a, v = .ref a ∧ F a = none ∧ Cell g H F a s.d := by
      unfold SlRel at r
      cases q : s.m with
      | fz => exact absurd q hm
      | lk => rw [q] at r; exact r
      | own => rw [q] at r; exact r
    obtain ⟨o, ho, sm, rd⟩ := c.frozen n
    refine ⟨upd F a o, ⟨len, fun b u z => ?_, fun j t hj => ?_, sep⟩, ⟨sm, fun b z => ?_, fun _ _ z _ => z, fun _ z => z, fun b z => .inl (own b z), fun b z => .inl (ownl b z)⟩, fun w hw => by rw [e] at hw; cases hw; exact rd, pv⟩
    · by_cases hb : b = a
      · subst hb; rw [upd_same] at z; cases z; exact ho
      · rw [upd_ne hb] at z; exact S.sub b u z
    · rw [get_set hi] at hj
      split at hj
      · rename_i q
        subst q
        cases hj
        exact ⟨_, e, rd⟩
      · rename_i q
        obtain ⟨w, e2, r2⟩ := S.val j t hj
        refine ⟨w, e2, ?_⟩
        unfold SlRel at r2 ⊢
        cases hq : t.m with
        | fz => rw [hq] at r2; exact r2.mono sm
        | lk =>
          rw [hq] at r2
          obtain ⟨b, rfl, nb, cb⟩ := r2
          have ne : b ≠ a := fun z => q (S.sep i j s t a h hj hm (by rw [hq]; decide) e (by rw [← z]; exact e2))
          exact ⟨b, rfl, by rw [upd_ne ne]; exact nb, cb.mono sm rfl⟩
        | own =>
          rw [hq] at r2
          obtain ⟨b, rfl, nb, cb⟩ := r2
          have ne : b ≠ a := fun z => q (S.sep i j s t a h hj hm (by rw [hq]; decide) e (by rw [← z]; exact e2))
          exact ⟨b, rfl, by rw [upd_ne ne]; exact nb, cb.mono sm rfl⟩
    · by_cases hb : b = a
      · subst hb; exact .inr (.inr ⟨i, s, h, hm, e⟩)
      · rw [upd_ne hb] at z; exact .inl z
theorem keep_s (ρ : En) (i : Nat) : keep ρ (.s i) = (match ρ.get i with
    | some s => .ok s.d (ρ.set i (some ⟨.fz, s.d⟩))
    | none => .err) := rfl
theorem keep_some (h : keep ρ r = .ok d ρ') : ∀ i, (ρ.get i).isSome = true → (ρ'.get i).isSome = true := by
  cases r with
  | v e => cases h; exact fun _ h => h
  | o e => cases h; exact fun _ h => h
  | s j =>
    rw [keep_s] at h
    cases q : ρ.get j with
    | none => rw [q] at h; cases h
    | some s =>
      rw [q] at h
      cases h
      intro i hi
      rw [get_set (get_lt q)]
      split
      · rfl
      · exact hi
/-- what is handed on, kept elsewhere -/
theorem Sim.keep (S : Sim g ρ σ H F) (h : VrRel g ρ σ H F H0 v r) (k : keep ρ r = .ok d ρ') : ∃ F', Sim g ρ' σ H F' ∧ RD g F' v d ∧ (∀ b, F' b ≠ none → F b ≠ none ∨ (∃ e, r = .o e ∧ v = .ref b) ∨ OwnL ρ σ b) ∧
    Same F F' ∧ (∀ b, Own ρ' σ b → Own ρ σ b) ∧ (∀ b, OwnL ρ' σ b → OwnL ρ σ b) ∧ Pv ρ σ H ρ' σ := by
  cases r with
  | v e => cases k; exact ⟨F, S, h, fun _ z => .inl z, Same.refl F, fun _ z => z, fun _ z => z, Pv.refl⟩
  | o e =>
    cases k
    obtain ⟨a, rfl, n0, n, c, no⟩ := h
    obtain ⟨o, ho, sm, rd⟩ := c.frozen n
    refine ⟨upd F a o, ⟨S.len, fun b u z => ?_, fun j t hj => ?_, S.sep⟩, rd, fun b z => ?_, sm, fun _ z => z, fun _ z => z, Pv.refl⟩
    · by_cases hb : b = a
      · subst hb; rw [upd_same] at z; cases z; exact ho
      · rw [upd_ne hb] at z; exact S.sub b u z
    · obtain ⟨w, e2, r2⟩ := S.val j t hj
      refine ⟨w, e2, ?_⟩
      unfold SlRel at r2 ⊢
      cases hq : t.m with
      | fz => rw [hq] at r2; exact r2.mono sm
      | lk =>
        rw [hq] at r2
        obtain ⟨b, rfl, nb, cb⟩ := r2
        have ne : b ≠ a := fun z => no ⟨j, t, hj, by rw [hq]; decide, by rw [← z]; exact e2⟩
        exact ⟨b, rfl, by rw [upd_ne ne]; exact nb, cb.mono sm rfl⟩
      | own =>
        rw [hq] at r2
        obtain ⟨b, rfl, nb, cb⟩ := r2
        have ne : b ≠ a := fun z => no ⟨j, t, hj, by rw [hq]; decide, by rw [← z]; exact e2⟩
        exact ⟨b, rfl, by rw [upd_ne ne]; exact nb, cb.mono sm rfl⟩
    · by_cases hb : b = a
      · subst hb; exact .inr (.inl ⟨_, rfl, rfl⟩)
      · rw [upd_ne hb] at z; exact .inl z
  | s i =>
    rw [keep_s] at k
    cases q : ρ.get i with
    | none => rw [q] at k; cases k
    | some s =>
      rw [q] at k
      cases k
      obtain ⟨F', S', st, rd, lo⟩ := S.freeze q
      refine ⟨F', S', rd v h.1, fun b z0 => ?_, st.fzs, fun b ⟨j, t, h1, h2, h3⟩ => ?_, fun b ⟨j, t, h1, h2, h3⟩ => ?_, lo⟩
      · rcases st.fzn b z0 with z | z | z
        · exact .inl z
        · obtain ⟨u, w⟩ := Option.ne_none_iff_exists'.mp z0
          rw [S'.sub b u w] at z; cases z
        · exact .inr (.inr z)
      · rw [get_set (get_lt q)] at h1
        split at h1
        · cases h1; cases h2
        · exact ⟨j, t, h1, h2, h3⟩
      · rw [get_set (get_lt q)] at h1
        split at h1
        · cases h1; exact absurd rfl h2
        · exact ⟨j, t, h1, h2, h3⟩
end
end Ev

set_option Elab.async false
set_option linter.all false
set_option maxRecDepth 100000
set_option maxHeartbeats 1000000
/-! Ev2: what is to be shown of expressions, tests, arguments, statements. Own work. -/
namespace Ev
open PySem PySem.Spec PyProof.Rows L2

/-! ### the widest readings -/
def DE (X : Cx) (e : Expr) : TE := fun σ H Q => ∀ pins s, Inv X pins σ H s → wpAny (model X.prog X.w) X.A (eval e X.env) (EP X pins σ Q) X.xe s
def DT (X : Cx) (e : Expr) : TT := fun σ H Q => ∀ pins s, Inv X pins σ H s → wpAny (model X.prog X.w) X.A (isTrue e X.env (eval e X.env)) (TP X pins σ Q) X.xe s
def DW (X : Cx) (e : Expr) : TT := fun σ H Q => ∀ whole pins s, Inv X pins σ H s → wpAny (model X.prog X.w) X.A (isTrue e X.env whole) (TP X pins σ Q) X.xe s
def DA (X : Cx) (es : List Expr) : TA := fun σ H Q => ∀ pos pins s, Inv X pins σ H s → wpAny (model X.prog X.w) X.A (spliced (backTo pos (starEach es X.env))) (AP X pins σ Q) X.xe s
def DS (X : Cx) (st : Stmt) : TS := fun D σ H => ∀ pins s, Inv X pins σ H s → wpAny (model X.prog X.w) X.A (exec st X.env) (SP X pins D) X.xe s
def DSs (X : Cx) (st : List Stmt) : TS := fun D σ H => ∀ pins s, Inv X pins σ H s → wpAny (model X.prog X.w) X.A (execs st X.env) (SP X pins D) X.xe s
def DI (X : Cx) (tg iter : Expr) : TI := fun σ H R => ∀ pins s, Inv X pins σ H s → wpAny (model X.prog X.w) X.A (eval iter X.env) (fun v s1 => wpAny (model X.prog X.w) X.A (pyIter v) (PIE X pins σ tg R) X.xe s1) X.xe s
def DG (X : Cx) (target : Expr) : TG := fun v σ H Q => ∀ pins s u, Inv X pins σ H s → RelV v u → wpAny (model X.prog X.w) X.A (assign target X.env u) (fun _ s' => ∃ σ' H', Inv X pins σ' H' s' ∧ Q σ' H') X.xe s
def DOp (X : Cx) (f : Value → Value → Sem Value) : R2 := fun x y H Q => ∀ pins s σ v u, Inv X pins σ H s → RelV x v → RelV y u → wpAny (model X.prog X.w) X.A (f v u) (EP X pins σ Q) X.xe s
def DCall (X : Cx) (f : Value) : List V → Hp → VK → Prop := fun xs H Q => ∀ pins s σ us, Inv X pins σ H s → Vals xs us → wpAny (model X.prog X.w) X.A (call f us) (EP X pins σ Q) X.xe s
def DMt (X : Cx) (id : String) : V → List V → Hp → VK → Prop := fun x xs H Q => ∀ pins s σ v us, Inv X pins σ H s → RelV x v → Vals xs us → wpAny (model X.prog X.w) X.A (call (.builtin id) (v :: us)) (EP X pins σ Q) X.xe s
section
variable {X : Cx} {e tg : Expr} {es : List Expr} {st : Stmt} {sts : List Stmt}
theorem pe_D : PE X e (DE X e) := ⟨fun pins s _ _ _ I h => h pins s I⟩
theorem pt_D : PT X e (DT X e) := ⟨fun pins s _ _ _ I h => h pins s I⟩
theorem pw_D : PW X e (DW X e) := ⟨fun wh pins s _ _ _ I h => h wh pins s I⟩
theorem pa_D : PA X es (DA X es) := ⟨fun pos pins s _ _ _ I h => h pos pins s I⟩
theorem ps_D : PS X st (DS X st) := ⟨fun pins s _ _ _ I h => h pins s I⟩
theorem pss_D : PSs X sts (DSs X sts) := ⟨fun pins s _ _ _ I h => h pins s I⟩
theorem pi_D : PI X tg e (DI X tg e) := ⟨fun pins s _ _ _ I h => h pins s I⟩
theorem pg_D : PG X e (DG X e) := ⟨fun pins s _ _ _ u _ I r h => h pins s u I r⟩
theorem op_D {f : Value → Value → Sem Value} : OpR X f (DOp X f) := fun pins s σ _ _ _ v u _ I r1 r2 h => h pins s σ v u I r1 r2
theorem call_D {f : Value} : CallR X f (DCall X f) := fun pins s σ _ _ us _ I r h => h pins s σ us I r
theorem mt_D {id : String} : MtR X id (DMt X id) := fun pins s σ _ _ _ v us _ I r1 r2 h => h pins s σ v us I r1 r2
theorem PE.d {t : TE} (h : PE X e t) {σ : St} {H : Hp} {Q : VK} (q : t σ H Q) : DE X e σ H Q := fun pins s I => h.run pins s σ H Q I q
theorem PT.d {t : TT} (h : PT X e t) {σ : St} {H : Hp} {Q : Bool → Hp → Prop} (q : t σ H Q) : DT X e σ H Q := fun pins s I => h.run pins s σ H Q I q
theorem PW.d {t : TT} (h : PW X e t) {σ : St} {H : Hp} {Q : Bool → Hp → Prop} (q : t σ H Q) : DW X e σ H Q := fun wh pins s I => h.run wh pins s σ H Q I q
theorem PA.d {t : TA} (h : PA X es t) {σ : St} {H : Hp} {Q : List V → Hp → Prop} (q : t σ H Q) : DA X es σ H Q := fun pos pins s I => h.run pos pins s σ H Q I q
theorem PS.d {t : TS} (h : PS X st t) {D : Ends} {σ : St} {H : Hp} (q : t D σ H) : DS X st D σ H := fun pins s I => h.run pins s σ H D I q
theorem PSs.d {t : TS} (h : PSs X sts t) {D : Ends} {σ : St} {H : Hp} (q : t D σ H) : DSs X sts D σ H := fun pins s I => h.run pins s σ H D I q
theorem PI.d {t : TI} (h : PI X tg e t) {σ : St} {H : Hp} {R : It → Hp → Prop} (q : t σ H R) : DI X tg e σ H R := fun pins s I => h.run pins s σ H R I q
theorem PG.d {t : TG} (h : PG X e t) {v : V} {σ : St} {H : Hp} {Q : St → Hp → Prop} (q : t v σ H Q) : DG X e v σ H Q := fun pins s u I r => h.run pins s σ H v u Q I r q
theorem OpR.d {f : Value → Value → Sem Value} {r : R2} (h : OpR X f r) {x y : V} {H : Hp} {Q : VK} (q : r x y H Q) : DOp X f x y H Q := fun pins s σ v u I r1 r2 => h pins s σ H x y v u Q I r1 r2 q
theorem CallR.d {f : Value} {r : List V → Hp → VK → Prop} (h : CallR X f r) {xs : List V} {H : Hp} {Q : VK} (q : r xs H Q) : DCall X f xs H Q := fun pins s σ us I r1 => h pins s σ H xs us Q I r1 q
theorem MtR.d {id : String} {r : V → List V → Hp → VK → Prop} (h : MtR X id r) {x : V} {xs : List V} {H : Hp} {Q : VK} (q : r x xs H Q) : DMt X id x xs H Q := fun pins s σ v us I r1 r2 => h pins s σ H x xs v us Q I r1 r2 q
end

/-! ### results of what changes no slot -/
/-- a new value (or one that stood), all else as it was -/
def Res (g : Gi) (H F : Hp) (r : Vr) (v : V) (H' : Hp) : Prop :=
  ∃ F', Same F F' ∧ (∀ b, F' b ≠ none → F b ≠ none ∨ H b = none) ∧ Same H H' ∧ Same F' H' ∧ match r with
    | .v d => RD g F' v d
    | .o d => ∃ a, v = .ref a ∧ H a = none ∧ F' a = none ∧ Cell g H' F' a d
    | .s _ => False
section
variable {g : Gi} {ρ : En} {σ : St} {H F H' : Hp} {v : V} {r : Vr} {d : D}
theorem Res.same (s : Same F H) (h : RD g F v d) : Res g H F (.v d) v H := ⟨F, Same.refl F, fun _ z => .inl z, Same.refl H, s, h⟩
theorem same_upd {a : Addr} {o : HO} (h : H a = none) : Same H (upd H a o) := fun b u e => by rw [upd_ne (ne_of_none e h)]; exact e
theorem free_of (s : Same F H) {a : Addr} (h : H a = none) : F a = none := by
  cases q : F a with
  | none => rfl
  | some u => rw [s a u q] at h; cases h
/-- a new tuple -/
theorem Res.tup (s : Same F H) {a : Addr} {xs : List V} {ds : List D} (h : H a = none) (r : RDs g F xs ds) : Res g H F (.v (.tup ds)) (.ref a) (upd H a (.tup xs)) := by
  have hf := free_of s h
  refine ⟨upd F a (.tup xs), same_upd hf, fun b z => ?_, same_upd h, fun b u z => ?_, .tup (.inl (.inl upd_same)) (r.mono (same_upd hf))⟩
  · by_cases hb : b = a
    · subst hb; exact .inr h
    · rw [upd_ne hb] at z; exact .inl z
  · by_cases hb : b = a
    · subst hb; rw [upd_same] at z ⊢; exact z
    · rw [upd_ne hb] at z ⊢; exact s b u z
/-- a new list -/
theorem Res.lst (s : Same F H) {a : Addr} {xs : List V} {ds : List D} (h : H a = none) (r : RDs g F xs ds) : Res g H F (.o (.lst ds)) (.ref a) (upd H a (.lst xs)) :=
  ⟨F, Same.refl F, fun b z => .inl z, same_upd h, s.trans (same_upd h), a, rfl, h, free_of s h, .inl ⟨xs, ds, rfl, upd_same, r⟩⟩
theorem Res.dic (s : Same F H) {a : Addr} {kvs : List (Key × V)} {ks vs : List D} (h : H a = none) (n : (kvs.map (·.1)).Nodup) (e : KsOf kvs ks) (r : RDs g F (kvs.map (·.2)) vs) : Res g H F (.o (.dic ks vs)) (.ref a) (upd H a (.dK kvs)) :=
  ⟨F, Same.refl F, fun b z => .inl z, same_upd h, s.trans (same_upd h), a, rfl, h, free_of s h, .inr ⟨kvs, ks, vs, rfl, upd_same, n, e, r⟩⟩
theorem SlRel.mono {F' : Hp} {s : Sl} (h : SlRel g H F s v) (f : Same F F') (e : ∀ a, s.m ≠ .fz → v = .ref a → F' a = none ∧ H' a = H a) : SlRel g H' F' s v := by
  unfold SlRel at h ⊢
  cases hm : s.m with
  | fz => rw [hm] at h; exact h.mono f
  | lk =>
    rw [hm] at h
    obtain ⟨a, rfl, n, c⟩ := h
    obtain ⟨e1, e2⟩ := e a (by rw [hm]; decide) rfl
    exact ⟨a, rfl, e1, c.mono f e2⟩
  | own =>
    rw [hm] at h
    obtain ⟨a, rfl, n, c⟩ := h
    obtain ⟨e1, e2⟩ := e a (by rw [hm]; decide) rfl
    exact ⟨a, rfl, e1, c.mono f e2⟩
theorem Sim.res (S : Sim g ρ σ H F) (h : Res g H F r v H') : ∃ F', Sim g ρ σ H' F' ∧ Stp ρ σ H F ρ σ H' F' ∧ VrRel g ρ σ H' F' H v r := by
  obtain ⟨F', f, fn, hh, fh, hr⟩ := h
  refine ⟨F', ⟨S.len, fh, fun i s hi => ?_, S.sep⟩, ⟨f, fun b z => ?_, fun b o z _ => hh b o z, fun b z => ?_, fun b z => .inl z, fun b z => .inl z⟩, ?_⟩
  · obtain ⟨w, e, q⟩ := S.val i s hi
    refine ⟨w, e, q.mono f fun a hm hw => ?_⟩
    have z := S.ownL ⟨i, s, hi, hm, by rw [e, hw]⟩
    obtain ⟨o, ho⟩ := Option.ne_none_iff_exists'.mp z.1
    refine ⟨?_, (hh a o ho).trans ho.symm⟩
    cases q : F' a with
    | none => rfl
    | some u =>
      rcases fn a (by rw [q]; exact fun z => nomatch z) with y | y
      · exact absurd z.2 y
      · exact absurd y z.1
  · rcases fn b z with y | y
    · exact .inl y
    · exact .inr (.inl y)
  · obtain ⟨o, ho⟩ := Option.ne_none_iff_exists'.mp z
    rw [hh b o ho]; exact fun y => nomatch y
  · cases r with
    | v d => exact hr
    | o d =>
      obtain ⟨a, e, n, nf, c⟩ := hr
      exact ⟨a, e, n, nf, c, fun z => (S.ownL z).1 n⟩
    | s i => exact hr.elim
end

/-! ### what is to be shown -/
def Keeps (ρ ρ' : En) : Prop := ∀ i, (ρ.get i).isSome = true → (ρ'.get i).isSome = true
theorem Keeps.refl (ρ : En) : Keeps ρ ρ := fun _ h => h
theorem Keeps.trans {ρ ρ1 ρ2 : En} (a : Keeps ρ ρ1) (b : Keeps ρ1 ρ2) : Keeps ρ ρ2 := fun i h => b i (a i h)
section
variable (g : Gi) (Φ : Fns) (X : Cx)
/-- what stands behind a step -/
structure Bh (ρ : En) (σ : St) (H F : Hp) (ρ' : En) (σ' : St) (H' F' : Hp) : Prop where
  sim : Sim g ρ' σ' H' F'
  stp : Stp ρ σ H F ρ' σ' H' F'
  kp : Keeps ρ ρ'
  pv : Pv ρ σ H ρ' σ'
/-- what flies: its class, its dict -/
def XR (F : Hp) (x : D) (cls : Value) (d : Option Addr) : Prop := ∃ c v C dd w, x = .exc c v ∧ g.ca c = some C ∧ cls = .ref C ∧ d = some dd ∧ F dd = some (.xd [(Str.ofString "value", w)]) ∧ RD g F w v
/-- a result that is good -/
def GdR {α : Type} (ρ : En) (σ : St) (H F : Hp) (r : Rs α) (Ok : α → En → Hp → Hp → Prop) (W : WX) : Prop := match r with
  | .ok a ρ' => ∀ H' F', Bh g ρ σ H F ρ' σ H' F' → Ok a ρ' H' F'
  | .ex x ρ' => ∀ cls d H' F', Bh g ρ σ H F ρ' σ H' F' → XR g F' x cls d → W cls d σ H'
  | .err => False
inductive VrRels (ρ : En) (σ : St) (H F H0 : Hp) : List V → List Vr → Prop
  | nil : VrRels ρ σ H F H0 [] []
  | cons {v vs r rs} : VrRel g ρ σ H F H0 v r → (∀ d, r = .o d → ∀ (i : Nat) (d' : D), rs[i]? = some (.o d') → vs[i]? ≠ some v) → VrRels ρ σ H F H0 vs rs → VrRels ρ σ H F H0 (v :: vs) (r :: rs)
def OkE (σ : St) (H : Hp) (Q : VK) : Vr → En → Hp → Hp → Prop := fun r ρ' H' F' => ∀ v, VrRel g ρ' σ H' F' H v r → Q v H'
def OkT (Q : Bool → Hp → Prop) : Bool → En → Hp → Hp → Prop := fun b _ H' _ => Q b H'
def OkA (σ : St) (H : Hp) (Q : List V → Hp → Prop) : List Vr → En → Hp → Hp → Prop := fun rs ρ' H' F' => ∀ vs, VrRels g ρ' σ H' F' H vs rs → Q vs H'
end
section
variable {g : Gi} {Φ : Fns} {X : Cx} {ρ ρ' ρ1 ρ2 : En} {σ σ' σ1 : St} {H F H' F' H0 H1 F1 H2 F2 : Hp}
theorem Bh.refl (S : Sim g ρ σ H F) : Bh g ρ σ H F ρ σ H F := ⟨S, Stp.refl, Keeps.refl ρ, Pv.refl⟩
theorem Bh.trans {σ2 : St} (a : Bh g ρ σ H F ρ1 σ1 H1 F1) (b : Bh g ρ1 σ1 H1 F1 ρ2 σ2 H2 F2) : Bh g ρ σ H F ρ2 σ2 H2 F2 := ⟨b.sim, a.stp.trans b.stp, a.kp.trans b.kp, a.pv.trans b.pv a.stp.live⟩
theorem VrRel.later {v : V} {r : Vr} (S : Sim g ρ σ H F) (h : VrRel g ρ σ H F H0 v r) (b : Bh g ρ σ H F ρ' σ H' F') : VrRel g ρ' σ H' F' H0 v r := h.keep S b.stp b.kp
theorem VrRels.later (S : Sim g ρ σ H F) (b : Bh g ρ σ H F ρ' σ H' F') : ∀ {vs : List V} {rs : List Vr}, VrRels g ρ σ H F H0 vs rs → VrRels g ρ' σ H' F' H0 vs rs
  | _, _, .nil => .nil
  | _, _, .cons h n r => .cons (h.later S b) n (VrRels.later S b r)
theorem VrRels.before (l : ∀ b, H0 b ≠ none → H1 b ≠ none) : ∀ {vs : List V} {rs : List Vr}, VrRels g ρ σ H F H1 vs rs → VrRels g ρ σ H F H0 vs rs
  | _, _, .nil => .nil
  | _, _, .cons h n r => .cons (h.before l) n (VrRels.before l r)
theorem VrRels.at : ∀ {vs : List V} {rs : List Vr} {i : Nat} {r : Vr}, VrRels g ρ σ H F H0 vs rs → rs[i]? = some r → ∃ v, vs[i]? = some v ∧ VrRel g ρ σ H F H0 v r
  | _, _, _, _, .nil, e => by simp at e
  | _, _, 0, _, .cons h _ _, e => by simp at e; subst e; exact ⟨_, rfl, h⟩
  | _, _, i + 1, r, .cons _ _ t, e => by
    obtain ⟨v, h1, h2⟩ := VrRels.at (i := i) (r := r) t (by simpa using e)
    exact ⟨v, by simpa using h1, h2⟩
theorem VrRels.length : ∀ {vs : List V} {rs : List Vr}, VrRels g ρ σ H F H0 vs rs → vs.length = rs.length
  | _, _, .nil => rfl
  | _, _, .cons _ _ r => congrArg (· + 1) r.length
theorem GdR.later {α : Type} {r : Rs α} {Ok : α → En → Hp → Hp → Prop} {W : WX} (h : GdR g ρ σ H F r Ok W) (b : Bh g ρ σ H F ρ1 σ H1 F1) : GdR g ρ1 σ H1 F1 r Ok W := by
  cases r with
  | ok a ρ' => exact fun H' F' b' => h H' F' (b.trans b')
  | ex x ρ' => exact fun cls d H' F' b' q => h cls d H' F' (b.trans b') q
  | err => exact h
theorem GdR.imp {α : Type} {r : Rs α} {Ok Ok' : α → En → Hp → Hp → Prop} {W : WX} (h : GdR g ρ σ H F r Ok W) (k : ∀ a ρ' H' F', Bh g ρ σ H F ρ' σ H' F' → Ok a ρ' H' F' → Ok' a ρ' H' F') : GdR g ρ σ H F r Ok' W := by
  cases r with
  | ok a ρ' => exact fun H' F' b' => k _ _ _ _ b' (h H' F' b')
  | ex x ρ' => exact h
  | err => exact h
/-- one step, then the rest -/
theorem GdR.step {α β : Type} {r : Rs α} {f : α → En → Rs β} {Ok : β → En → Hp → Hp → Prop} {W : WX} (h : GdR g ρ σ H F (r.bind f) Ok W) : GdR g ρ σ H F r (fun a ρ1 H1 F1 => GdR g ρ1 σ H1 F1 (f a ρ1) Ok W) W := by
  cases r with
  | ok a ρ' => exact fun H' F' b' => GdR.later h b'
  | ex x ρ' => exact h
  | err => exact h
theorem GdR.now {α : Type} {a : α} {Ok : α → En → Hp → Hp → Prop} {W : WX} (S : Sim g ρ σ H F) (h : GdR g ρ σ H F (.ok a ρ) Ok W) : Ok a ρ H F := h H F (Bh.refl S)
/-- results of a value rule -/
theorem res_end {v : V} {r : Vr} {Q : VK} {W : WX} (S : Sim g ρ1 σ H1 F1) (l : ∀ b, H b ≠ none → H1 b ≠ none) (G : GdR g ρ1 σ H1 F1 (.ok r ρ1) (OkE g σ H Q) W) (h : Res g H1 F1 r v H2) : Q v H2 := by
  obtain ⟨F2, S2, st, rr⟩ := S.res h
  exact G H2 F2 ⟨S2, st, Keeps.refl _, Pv.refl⟩ v (rr.before l)
end
end Ev

set_option Elab.async false
set_option linter.all false
set_option maxRecDepth 100000
set_option maxHeartbeats 1000000
/-! Ev3: the operators by values. Own work. -/
namespace Ev
open PySem PySem.Spec PyProof.Rows L2

theorem LIM_eq : LIM = sizeLine := by rw [sizeLine_eq] <;> rfl
theorem okL_append {a b : List Nat} (ha : okL a) (hb : okL b) (h : a.length + b.length ≤ sizeLine) : okL (a ++ b) := ⟨by rw [List.length_append]; exact h, fun c h => by
  rcases List.mem_append.mp h with h | h
  · exact ha.2 c h
  · exact hb.2 c h⟩
theorem okL_sub {a b : List Nat} (ha : okL a) (hl : b.length ≤ a.length) (h : ∀ c ∈ b, c ∈ a) : okL b := ⟨Nat.le_trans hl ha.1, fun c hc => ha.2 c (h c hc)⟩
theorem okL_rep {a : List Nat} (ha : okL a) (k : Nat) (h : a.length * k ≤ sizeLine) : okL (List.replicate k a).flatten := by
  refine ⟨?_, fun c hc => ?_⟩
  · rw [List.length_flatten, List.map_replicate, List.sum_replicate_nat, Nat.mul_comm]
    exact h
  · obtain ⟨l, hl, h⟩ := List.mem_flatten.mp hc
    exact ha.2 c (by rw [List.eq_of_mem_replicate hl] at h; exact h)
theorem okL_cut {a : List Nat} (ha : okL a) (lo hi : Option Int) : okL (cut a lo hi) := okL_sub ha (by
  unfold cut
  rw [List.length_take, List.length_drop]
  omega) fun c hc => List.mem_of_mem_drop (List.mem_of_mem_take hc)
theorem okL_one {a : List Nat} (ha : okL a) {c : Nat} (h : c ∈ a) : okL [c] := ⟨by rw [sizeLine_eq]; exact (by decide : 1 ≤ 16777216), fun b hb => by rw [List.mem_singleton.mp hb]; exact ha.2 c h⟩
theorem str_app (a b : List Nat) : (⟨a.toArray⟩ : Str) ++ (⟨b.toArray⟩ : Str) = ⟨(a ++ b).toArray⟩ := by
  show (⟨a.toArray ++ b.toArray⟩ : Str) = _
  simp
theorem str_len (a : List Nat) : (⟨a.toArray⟩ : Str).length = a.length := by
  show a.toArray.size = _
  simp
/-- what stands around: the context keeps room -/
structure Rm (g : Gi) (bc : Bool) (X : Cx) : Prop where
  K : X.K = g.K
  calm : X.calm = bc
  units : X.A.units + 100 < cLine
  guards : X.A.guards = some []
section
variable {g : Gi} {X : Cx} {H F : Hp} {x y v : V} {d e : D} {Q : VK}

theorem mul_rep (a : List Nat) (k : Int) (h0 : 0 ≤ k) : Txt.mul ⟨a.toArray⟩ k = ⟨(List.replicate k.toNat a).flatten.toArray⟩ := by
  unfold Txt.mul
  by_cases h1 : k < 1
  · have : k = 0 := by omega
    subst this
    rw [if_pos (by decide)]
    rfl
  · rw [if_neg h1]
    split
    · rename_i h
      rw [Bool.or_eq_true] at h
      rcases h with h | h
      · have hk : k = 1 := by simpa using h
        subst hk
        simp
      · have ha : a = [] := by
          rw [str_len] at h
          exact List.length_eq_zero_iff.mp (by simpa using h)
        subst ha
        simp
    · have f0 : ∀ (m : Nat) (acc : List Nat), List.foldl (fun x1 x2 => x1 ++ x2) acc.toArray (List.replicate m a.toArray) = (acc ++ (List.replicate m a).flatten).toArray := by
        intro m
        induction m with
        | zero => intro acc; simp
        | succ m ih =>
          intro acc
          rw [List.replicate_succ, List.foldl_cons]
          have e : acc.toArray ++ a.toArray = (acc ++ a).toArray := by simp
          rw [e, ih, List.replicate_succ, List.flatten_cons, List.append_assoc]
      have := f0 k.toNat []
      rw [List.nil_append] at this
      exact congrArg Str.mk this
theorem op_mulS : OpR X (binaryOp .Mult) (fun x y H Q => ∃ (i : Str) (k : Int), x = .str i ∧ y = .int k ∧ 0 ≤ k ∧ k < 1000000 ∧ i.length * k.toNat ≤ sizeLine ∧ Q (.str (Txt.mul i k)) H) := by
  intro pins s σ H x y v u Q I rx ry h
  obtain ⟨i, k, rfl, rfl, h0, h1, hz, q⟩ := h
  obtain ⟨t, rfl⟩ := rx
  obtain ⟨t', rfl⟩ := ry
  refine SB.mul (n := k) ⟨?_, fun h2 h3 => ?_, fun h2 h3 => ?_⟩ fun t'' tk => ⟨.str _, H, I.tok _, ⟨_, rfl⟩, q⟩
  · rw [decide_eq_false (by omega), decide_eq_false (by omega)] <;> rfl
  · have hz' : (i.length : Int) * k ≤ 16777216 := by
      rw [sizeLine_eq] at hz
      have : ((i.length * k.toNat : Nat) : Int) ≤ 16777216 := Int.ofNat_le.mpr hz
      rw [Int.natCast_mul, Int.toNat_of_nonneg h0] at this
      exact this
    intro hc
    have hk : 0 < k := by omega
    have h5 : (2 ^ 63 - 1 : Int) < (i.length : Int) * k := by
      have h7 : (2 ^ 63 - 1) / k + 1 ≤ (i.length : Int) := by omega
      have h8 : ((2 ^ 63 - 1) / k + 1) * k ≤ (i.length : Int) * k := Int.mul_le_mul_of_nonneg_right h7 (by omega)
      have h9 : (2 ^ 63 - 1 : Int) < ((2 ^ 63 - 1) / k + 1) * k := Int.lt_mul_of_ediv_lt hk (by omega)
      exact Int.lt_of_lt_of_le h9 h8
    have : (2 : Int) ^ 63 - 1 = 9223372036854775807 := by decide
    omega
  · exact decide_eq_false (Nat.not_lt.mpr hz)

def CPw (a b : Int) : Prop := 0 ≤ b ∧ b ≤ 100000 ∧ a.natAbs.log2 * b.toNat ≤ 100000
theorem op_powW : OpR X (binaryOp .Pow) (rI CPw fun i j => .int (i ^ j.toNat)) := opI fun i j _ _ _ _ _ hc q => by
  refine pow_int hc.1 ?_ q
  have h1 : Builtin.Int.intBits i ≤ i.natAbs.log2 + 1 := by
    unfold Builtin.Int.intBits
    split <;> omega
  have h2 : (i.natAbs.log2 + 1) * j.toNat ≤ 200000 := by
    have := hc.2.2
    have := hc.2.1
    rw [Nat.succ_mul]
    omega
  have h3 : Builtin.Int.intBits i * j.toNat ≤ 200000 := Nat.le_trans (Nat.mul_le_mul_right _ h1) h2
  have h4 : ((Builtin.Int.intBits i * j.toNat : Nat) : Int) ≤ 200000 := Int.ofNat_le.mpr h3
  rw [Int.natCast_mul, Int.toNat_of_nonneg hc.1] at h4
  exact Int.le_trans h4 (by decide)
/-- the operator in the text -/
def bopP : Bop → Operator
  | .add => .Add | .sub => .Sub | .mul => .Mult | .fdiv => .FloorDiv | .mod => .Mod | .pow => .Pow
theorem bin_ok {op : Bop} {r : Vr} {bc : Bool} (m : Rm g bc X) (h : binD op d e = some r) (s : Same F H) (hx : RdH g H F x d) (hy : RdH g H F y e) (k : ∀ v H', Res g H F r v H' → Q v H') : DOp X (binaryOp (bopP op)) x y H Q := by
  unfold binD at h
  split at h
  · cases h
    cases hx.int; cases hy.int
    exact OpR.d op_add ⟨_, _, rfl, rfl, k _ _ (.same s (.int _))⟩
  · split at h
    · rename_i hz
      cases h
      obtain ⟨rfl, o1⟩ := hx.str
      obtain ⟨rfl, o2⟩ := hy.str
      refine OpR.d op_add_str ⟨_, _, rfl, rfl, by rw [str_len, str_len, ← LIM_eq]; exact hz, ?_⟩
      rw [str_app]
      exact k _ _ (.same s (.str _ (okL_append o1 o2 (by rw [← LIM_eq]; exact hz))))
    · cases h
  · split at h
    · rename_i hz
      cases h
      obtain ⟨a, xs, rfl, h1, r1⟩ := hx.lst s
      obtain ⟨b, ys, rfl, h2, r2⟩ := hy.lst s
      refine OpR.d op_cat ⟨a, b, xs, ys, rfl, rfl, h1, h2, by rw [r1.length, r2.length, ← LIM_eq]; exact hz, fun p hp => k _ _ (.lst s hp (r1.append r2))⟩
    · cases h
  · cases h
    cases hx.int; cases hy.int
    exact OpR.d op_sub ⟨_, _, rfl, rfl, k _ _ (.same s (.int _))⟩
  · split at h
    · rename_i hz
      cases h
      cases hx.int; cases hy.int
      exact OpR.d op_mulW ⟨_, _, rfl, rfl, by unfold mulOk at hz; unfold CMulW; exact of_decide_eq_true hz, k _ _ (.same s (.int _))⟩
    · cases h
  · split at h
    · rename_i hz
      cases h
      obtain ⟨rfl, o1⟩ := hx.str
      cases hy.int
      refine OpR.d op_mulS ⟨_, _, rfl, rfl, hz.1, hz.2.1, by rw [str_len, ← LIM_eq]; exact hz.2.2, ?_⟩
      rw [mul_rep _ _ hz.1]
      exact k _ _ (.same s (.str _ (okL_rep o1 _ (by rw [← LIM_eq]; exact hz.2.2))))
    · cases h
  · split at h
    · rename_i hz
      cases h
      obtain ⟨a, xs, rfl, h1, r1⟩ := hx.lst s
      cases hy.int
      refine OpR.d op_rep ⟨a, _, xs, rfl, rfl, h1, hz.1, hz.2.1, by rw [r1.length, ← LIM_eq]; exact hz.2.2, fun p hp => k _ _ (.lst s hp (r1.rep _))⟩
    · cases h
  · split at h
    · rename_i hz
      cases h
      cases hx.int; cases hy.int
      exact OpR.d op_fdivW ⟨_, _, rfl, rfl, hz, k _ _ (.same s (.int _))⟩
    · cases h
  · split at h
    · rename_i hz
      cases h
      cases hx.int; cases hy.int
      exact OpR.d op_mod ⟨_, _, rfl, rfl, hz, k _ _ (.same s (.int _))⟩
    · cases h
  · split at h
    · rename_i hz
      cases h
      cases hx.int; cases hy.int
      exact OpR.d op_powW ⟨_, _, rfl, rfl, hz, k _ _ (.same s (.int _))⟩
    · cases h
  · cases h
end
end Ev

set_option Elab.async false
set_option linter.all false
set_option maxRecDepth 100000
set_option maxHeartbeats 1000000
/-! Ev3k: keys of dicts. Own work. -/
namespace Ev
open PySem PySem.Spec PyProof.Rows L2
section
variable {g : Gi} {X : Cx} {H F : Hp} {x y v : V} {d e : D} {Q : VK}
theorem keyD_inj {a b : Key} : eqD (keyD a) (keyD b) = decide (a = b) := by
  cases a with
  | inl i => cases b with
    | inl j =>
      show (i == j) = _
      rw [Bool.beq_eq_decide_eq]
      exact decide_eq_decide.mpr ⟨fun h => by rw [h], fun h => Sum.inl.inj h⟩
    | inr y => exact (decide_eq_false (fun h => nomatch h)).symm
  | inr x => cases b with
    | inl j => exact (decide_eq_false (fun h => nomatch h)).symm
    | inr y =>
      show decide (x.cps.toList = y.cps.toList) = _
      refine decide_eq_decide.mpr ⟨fun h => ?_, fun h => by rw [Sum.inr.inj h]⟩
      obtain ⟨a⟩ := x
      obtain ⟨b⟩ := y
      have h : a.toList = b.toList := h
      rw [Array.toList_inj.mp h]
theorem putK_keys {kvs : List (Key × V)} {k : Key} {w : V} : (k ∈ kvs.map (·.1) → (putK kvs k w).map (·.1) = kvs.map (·.1)) ∧ (k ∉ kvs.map (·.1) → (putK kvs k w).map (·.1) = kvs.map (·.1) ++ [k]) := by
  unfold putK
  have e : (kvs.any fun kv => decide (kv.1 = k)) = true ↔ k ∈ kvs.map (·.1) := by
    rw [List.any_eq_true]
    constructor
    · rintro ⟨p, hp, h⟩
      exact List.mem_map.mpr ⟨p, hp, of_decide_eq_true h⟩
    · intro h
      obtain ⟨p, hp, h⟩ := List.mem_map.mp h
      exact ⟨p, hp, decide_eq_true h⟩
  constructor
  · intro h
    rw [if_pos (e.mpr h), List.map_map]
    exact List.map_congr_left fun p _ => by
      show (if p.1 = k then (p.1, w) else p).1 = p.1
      split <;> rfl
  · intro h
    rw [if_neg (fun z => h (e.mp z)), List.map_append] <;> rfl
theorem putK_nodup {kvs : List (Key × V)} {k : Key} {w : V} (n : (kvs.map (·.1)).Nodup) : ((putK kvs k w).map (·.1)).Nodup := by
  by_cases h : k ∈ kvs.map (·.1)
  · rw [putK_keys.1 h]; exact n
  · rw [putK_keys.2 h, List.nodup_append]
    refine ⟨n, by simp, fun a ha b hb => ?_⟩
    rw [List.mem_singleton.mp hb]
    exact fun e => h (by rw [← e]; exact ha)
theorem putK_cons {p : Key × V} {kvs : List (Key × V)} {k : Key} {w : V} (n : ((p :: kvs).map (·.1)).Nodup) : putK (p :: kvs) k w = if p.1 = k then (p.1, w) :: kvs else p :: putK kvs k w := by
  unfold putK
  rw [List.any_cons]
  by_cases h : p.1 = k
  · rw [if_pos h, decide_eq_true h, Bool.true_or, if_pos rfl, List.map_cons, if_pos h]
    congr 1
    have : ∀ q ∈ kvs, ¬ q.1 = k := fun q hq e => by
      rw [List.map_cons, List.nodup_cons] at n
      exact n.1 (List.mem_map.mpr ⟨q, hq, by rw [e, h]⟩)
    exact (List.map_congr_left fun q hq => if_neg (this q hq)).trans (List.map_id' kvs)
  · rw [if_neg h, decide_eq_false h, Bool.false_or]
    split
    · rw [List.map_cons, if_neg h]
    · rfl
theorem put_ok {κ : Key} {w : V} {kd vd : D} (hk : kd = keyD κ) (hw : RD g F w vd) : ∀ {kvs : List (Key × V)} {ks vs : List D}, (kvs.map (·.1)).Nodup → ks = kvs.map (fun p => keyD p.1) → RDs g F (kvs.map (·.2)) vs →
    (putD kd vd ks vs).1 = (putK kvs κ w).map (fun p => keyD p.1) ∧ RDs g F ((putK kvs κ w).map (·.2)) (putD kd vd ks vs).2
  | [], _, _, _, rfl, r => by
    cases r
    rw [hk]
    exact ⟨rfl, .cons hw .nil⟩
  | p :: kvs, _, _, n, rfl, r => by
    rw [List.map_cons] at r
    cases r with
    | @cons _ _ vd0 vs0 h0 r =>
    rw [putK_cons n, List.map_cons, putD, hk, keyD_inj]
    by_cases h : p.1 = κ
    · rw [if_pos h, if_pos (decide_eq_true h)]
      exact ⟨rfl, .cons hw r⟩
    · rw [if_neg h, if_neg (by rw [decide_eq_false h]; exact fun q => nomatch q)]
      have n' : (kvs.map (·.1)).Nodup := by rw [List.map_cons, List.nodup_cons] at n; exact n.2
      have ih := put_ok (kd := kd) hk hw n' rfl r
      rw [← hk]
      exact ⟨by rw [List.map_cons, ← ih.1], by rw [List.map_cons]; exact .cons h0 ih.2⟩
theorem putD_mem {kd vd : D} : ∀ {ks vs : List D} {x : D}, x ∈ (putD kd vd ks vs).1 → x = kd ∨ x ∈ ks
  | [], _, x, h => .inl (by simpa [putD] using h)
  | k :: ks, [], x, h => .inl (by simpa [putD] using h)
  | k :: ks, v :: vs, x, h => by
    rw [putD] at h
    split at h
    · exact .inr h
    · rcases List.mem_cons.mp h with rfl | h
      · exact .inr List.mem_cons_self
      · rcases putD_mem (vs := vs) h with h | h
        · exact .inl h
        · exact .inr (List.mem_cons_of_mem _ h)
theorem key_of {v : V} {d : D} (h : RD g F v d) (hk : isKey d = true) : ∃ κ, v = kV κ ∧ d = keyD κ ∧ ∀ l, d = .str l → okL l := by
  cases h <;> first | (simp [isKey] at hk; done) | skip
  · exact ⟨.inl _, rfl, rfl, fun _ e => nomatch e⟩
  · rename_i l o
    exact ⟨.inr ⟨l.toArray⟩, rfl, by simp [keyD], fun l e => by cases e; exact o⟩
theorem rdh_key {v : V} {d : D} (h : RdH g H F v d) (hk : isKey d = true) : RD g F v d := by
  rcases h with h | ⟨a, rfl, c⟩
  · exact h
  · rcases c with ⟨_, _, rfl, _⟩ | ⟨_, _, _, rfl, _⟩ <;> cases hk
theorem atK_ok {κ : Key} {kd : D} (hk : kd = keyD κ) : ∀ {kvs : List (Key × V)} {ks vs : List D}, ks = kvs.map (fun p => keyD p.1) → RDs g F (kvs.map (·.2)) vs → match atK kd ks vs with
    | some d => ∃ v, valV kvs κ = some v ∧ RD g F v d
    | none => valV kvs κ = none
  | [], _, _, rfl, r => by
    cases r
    exact rfl
  | p :: kvs, _, _, rfl, r => by
    rw [List.map_cons] at r
    cases r with
    | @cons _ _ vd0 vs0 h0 r =>
    rw [List.map_cons, atK, hk, keyD_inj]
    by_cases h : p.1 = κ
    · rw [if_pos (decide_eq_true h)]
      exact ⟨p.2, valV_pos h, h0⟩
    · rw [if_neg (by rw [decide_eq_false h]; exact fun q => nomatch q), valV_neg h, ← hk]
      exact atK_ok hk rfl r
theorem any_keys {κ : Key} {kd : D} (hk : kd = keyD κ) {kvs : List (Key × V)} : ((kvs.map fun p => keyD p.1).any fun k => eqD k kd) = (valV kvs κ).isSome := by
  rw [← valV_any, List.any_map]
  congr 1
  funext p
  show eqD (keyD p.1) kd = _
  rw [hk, keyD_inj]
theorem op_in_dict (hu : X.A.units + 1 < cLine) : OpR X (compareOp .In) (fun x y H Q => ∃ a o, y = .ref a ∧ DGet H a x o ∧ Q (.bl o.isSome) H) := by
  intro pins s σ H x y v u Q I r1 r2 h
  obtain ⟨a, o, rfl, g, q⟩ := h
  obtain rfl : u = Value.ref a := r2
  exact d_in hu I g r1 fun s3 I3 => ⟨.bl o.isSome, H, I3, rfl, q⟩
theorem op_notin_dict (hu : X.A.units + 1 < cLine) : OpR X (compareOp .NotIn) (fun x y H Q => ∃ a o, y = .ref a ∧ DGet H a x o ∧ Q (.bl (!o.isSome)) H) := by
  intro pins s σ H x y v u Q I r1 r2 h
  obtain ⟨a, o, rfl, g, q⟩ := h
  obtain rfl : u = Value.ref a := r2
  exact d_notIn hu I g r1 fun s3 I3 => ⟨.bl (!o.isSome), H, I3, rfl, q⟩
/-- o[i] = v, o a list or a dict -/
theorem set_both (hu : X.A.units + 1 < cLine) : PSet X (fun o i v H k => rSetL o i v H k ∨ ∃ a H', o = .ref a ∧ DPut H a i v H' ∧ k H') := by
  intro pins s σ H o i v ov iv u Q I ro ri rv h
  rcases h with h | ⟨a, H', rfl, g, q⟩
  · exact set_list pins s σ H o i v ov iv u Q I ro ri rv h
  · obtain rfl : ov = Value.ref a := ro
    exact d_setItem hu I g ri rv fun s4 I4 => ⟨H', I4, q⟩
theorem ix_dict (hu : X.A.units + 1 < cLine) : IxR X (fun x y H Q => ∃ a w, x = .ref a ∧ DGet H a y (some w) ∧ Q w H) := by
  intro value slice pins s σ H x y v u Q I r1 r2 h hs
  obtain ⟨a, w, rfl, g, q⟩ := h
  obtain rfl : v = Value.ref a := r1
  exact tail_any (dict_typeIs I g) PySem.F.slot_dict_getitem.lookup (d_getItem hu I g r2 fun w' s3 I3 rw' => ⟨w, H, I3, rw', q⟩) hs
end
end Ev

set_option Elab.async false
set_option linter.all false
set_option maxRecDepth 100000
set_option maxHeartbeats 1000000
/-! Ev3b: comparisons by values. Own work. -/
namespace Ev
open PySem PySem.Spec PyProof.Rows L2

section
variable {g : Gi} {H F : Hp}
mutual
theorem dp_of (s : Same F H) : ∀ (n : Nat) (d : D) (v : V), RD g F v d → flat n d = true → Dp g.K H v (py d)
  | _, .non, _, h, _ => by cases h; exact .non
  | _, .bl b, _, h, _ => by cases h; exact .bl b
  | _, .int i, _, h, _ => by cases h; exact .int i
  | _, .str l, _, h, _ => by cases h; exact .str _
  | 0, .lst _, _, _, f => by simp [flat] at f
  | 0, .tup _, _, _, f => by simp [flat] at f
  | n + 1, .lst ds, _, h, f => by
    cases h with
    | lst h r => exact .lst (.inl (.inl (s _ _ h))) (dps_of s n ds _ r (by simpa [flat] using f))
  | n + 1, .tup ds, _, h, f => by
    cases h with
    | tup h r => exact .tup (Same.seqT s h) (dps_of s n ds _ r (by simpa [flat] using f))
  | 0, .dic _ _, _, _, f => by simp [flat] at f
  | _ + 1, .dic _ _, _, _, f => by simp [flat] at f
  | 0, .fn _, _, _, f => by simp [flat] at f
  | _ + 1, .fn _, _, _, f => by simp [flat] at f
  | 0, .scr _, _, _, f => by simp [flat] at f
  | _ + 1, .scr _, _, _, f => by simp [flat] at f
  | 0, .exc _ _, _, _, f => by simp [flat] at f
  | _ + 1, .exc _ _, _, _, f => by simp [flat] at f
theorem dps_of (s : Same F H) : ∀ (n : Nat) (ds : List D) (vs : List V), RDs g F vs ds → flatL n ds = true → DpAll g.K H vs (pys ds)
  | _, [], _, h, _ => by cases h; exact .nil
  | n, d :: ds, _, h, f => by
    cases h with
    | cons h r =>
      rw [flatL, Bool.and_eq_true] at f
      exact .cons (dp_of s n d _ h f.1) (dps_of s n ds _ r f.2)
end
mutual
theorem lay_of : ∀ (n : Nat) (d : D) (v : V), RD g F v d → flat n d = true → (py d).canLay0 = true ∧ (py d).depth ≤ n
  | _, .non, _, h, _ => ⟨by simp [py, PyData.canLay0], by simp [py, PyData.depth]⟩
  | _, .bl b, _, h, _ => ⟨by simp [py, PyData.canLay0], by simp [py, PyData.depth]⟩
  | _, .int i, _, h, _ => ⟨by simp [py, PyData.canLay0], by simp [py, PyData.depth]⟩
  | _, .str l, _, h, _ => by
    cases h with
    | str _ o =>
      refine ⟨?_, by simp [py, PyData.depth]⟩
      simp only [py, PyData.canLay0, PyData.strOk]
      rw [List.all_toArray, List.all_eq_true]
      exact fun c hc => decide_eq_true (o.2 c hc)
  | 0, .lst _, _, _, f => by simp [flat] at f
  | 0, .tup _, _, _, f => by simp [flat] at f
  | n + 1, .lst ds, _, h, f => by
    cases h with
    | lst h r =>
      have z := lays_of n ds _ r (by simpa [flat] using f)
      exact ⟨by simp [py, PyData.canLay0, z.1], by simp only [py, PyData.depth]; omega⟩
  | n + 1, .tup ds, _, h, f => by
    cases h with
    | tup h r =>
      have z := lays_of n ds _ r (by simpa [flat] using f)
      exact ⟨by simp [py, PyData.canLay0, z.1], by simp only [py, PyData.depth]; omega⟩
  | 0, .dic _ _, _, _, f => by simp [flat] at f
  | _ + 1, .dic _ _, _, _, f => by simp [flat] at f
  | 0, .fn _, _, _, f => by simp [flat] at f
  | _ + 1, .fn _, _, _, f => by simp [flat] at f
  | 0, .scr _, _, _, f => by simp [flat] at f
  | _ + 1, .scr _, _, _, f => by simp [flat] at f
  | 0, .exc _ _, _, _, f => by simp [flat] at f
  | _ + 1, .exc _ _, _, _, f => by simp [flat] at f
theorem lays_of : ∀ (n : Nat) (ds : List D) (vs : List V), RDs g F vs ds → flatL n ds = true → PyData.canLayAll0 (pys ds) = true ∧ PyData.depthAll (pys ds) ≤ n
  | _, [], _, h, _ => ⟨by simp [pys, PyData.canLayAll0], by simp [pys, PyData.depthAll]⟩
  | n, d :: ds, _, h, f => by
    cases h with
    | cons h r =>
      rw [flatL, Bool.and_eq_true] at f
      have z := lay_of n d _ h f.1
      have y := lays_of n ds _ r f.2
      exact ⟨by simp [pys, PyData.canLayAll0, z.1, y.1], by simp only [pys, PyData.depthAll]; omega⟩
end
theorem rdh_dp {v : V} {d : D} (s : Same F H) (h : RdH g H F v d) (f : flat DEP d = true) : Dp g.K H v (py d) ∧ SeqAt.shaped (py d) = true := by
  have fin : ∀ {F' : Hp}, Same F' H → RD g F' v d → Dp g.K H v (py d) ∧ SeqAt.shaped (py d) = true := fun {F'} s' r => by
    have z := lay_of DEP d v r f
    refine ⟨dp_of s' DEP d v r f, ?_⟩
    have : (60 : Nat) ≤ 64 := by decide
    rw [SeqAt.shaped, z.1, decide_eq_true (Nat.le_trans z.2 this)] <;> rfl
  rcases h with h | ⟨a, rfl, c⟩
  · exact fin s h
  · cases q : F a with
    | none =>
      obtain ⟨o, ho, sm, r⟩ := c.frozen q
      refine fin (fun b u z => ?_) r
      by_cases hb : b = a
      · subst hb; rw [upd_same] at z; cases z; exact ho
      · rw [upd_ne hb] at z; exact s b u z
    | some u =>
      have hu := s a u q
      rcases c with ⟨xs, ds, rfl, h, r⟩ | ⟨kvs, ks, vs, rfl, h, _⟩
      · rw [hu] at h; cases h
        exact fin s (.lst q r)
      · have : flat DEP (.dic ks vs) = false := rfl
        rw [this] at f; cases f
end
theorem str_beq (a b : List Nat) : ((⟨a.toArray⟩ : Str) == ⟨b.toArray⟩) = decide (a = b) := by
  by_cases h : a = b
  · subst h; simp
  · rw [decide_eq_false h]
    refine beq_eq_false_iff_ne.mpr fun e => h ?_
    have e' : a.toArray = b.toArray := congrArg Str.cps e
    simpa using e'
mutual
theorem eqv_py : ∀ (n : Nat) (a b : D), flat n a = true → flat n b = true → PyData.eqv (py a) (py b) = eqD a b
  | 0, a, b, ha, hb => by
    cases a <;> cases b <;> first
      | (simp [flat] at ha; done)
      | (simp [flat] at hb; done)
      | (simp only [py, PyData.eqv, eqD]; exact str_beq _ _)
      | simp [py, PyData.eqv, eqD]
  | n + 1, a, b, ha, hb => by
    cases a <;> cases b <;> first
      | (simp [flat] at ha; done)
      | (simp [flat] at hb; done)
      | (simp only [py, PyData.eqv, eqD]; exact eqvs_py n _ _ (by simpa [flat] using ha) (by simpa [flat] using hb))
      | (simp only [py, PyData.eqv, eqD]; exact str_beq _ _)
      | simp [py, PyData.eqv, eqD]
theorem eqvs_py : ∀ (n : Nat) (a b : List D), flatL n a = true → flatL n b = true → PyData.eqvAll (pys a) (pys b) = eqDs a b
  | _, [], [], _, _ => by simp [pys, PyData.eqvAll, eqDs]
  | _, [], _ :: _, _, _ => by simp [pys, PyData.eqvAll, eqDs]
  | _, _ :: _, [], _, _ => by simp [pys, PyData.eqvAll, eqDs]
  | n, x :: xs, y :: ys, ha, hb => by
    rw [flatL, Bool.and_eq_true] at ha hb
    simp only [pys, PyData.eqvAll, eqDs]
    rw [eqv_py n x y ha.1 hb.1, eqvs_py n xs ys ha.2 hb.2]
end
mutual
theorem alike_py : ∀ (n : Nat) (a b : D), flat n a = true → flat n b = true → PySem.W.alike (py a) (py b) = alikeD a b
  | 0, a, b, ha, hb => by
    cases a <;> cases b <;> first
      | (simp [flat] at ha; done)
      | (simp [flat] at hb; done)
      | simp [py, PySem.W.alike, alikeD]
  | n + 1, a, b, ha, hb => by
    cases a <;> cases b <;> first
      | (simp [flat] at ha; done)
      | (simp [flat] at hb; done)
      | (simp only [py, PySem.W.alike, alikeD]; exact alikes_py n _ _ (by simpa [flat] using ha) (by simpa [flat] using hb))
      | simp [py, PySem.W.alike, alikeD]
theorem alikes_py : ∀ (n : Nat) (a b : List D), flatL n a = true → flatL n b = true → PySem.W.alikeAll (pys a) (pys b) = alikeDs a b
  | _, [], [], _, _ => by simp [pys, PySem.W.alikeAll, alikeDs]
  | _, [], _ :: _, _, _ => by simp [pys, PySem.W.alikeAll, alikeDs]
  | _, _ :: _, [], _, _ => by simp [pys, PySem.W.alikeAll, alikeDs]
  | n, x :: xs, y :: ys, ha, hb => by
    rw [flatL, Bool.and_eq_true] at ha hb
    simp only [pys, PySem.W.alikeAll, alikeDs]
    rw [alike_py n x y ha.1 hb.1, alikes_py n xs ys ha.2 hb.2]
end
open PySem.W in
mutual
theorem less_py : ∀ (n : Nat) (a b : D), flat n a = true → flat n b = true → alikeD a b = true → a ≠ .non → dataLt (py a) (py b) = lessD a b
  | 0, a, b, ha, hb, hl, hn => by
    cases a <;> cases b <;> first
      | (simp [flat] at ha; done)
      | (simp [flat] at hb; done)
      | (simp [alikeD] at hl; done)
      | exact absurd rfl hn
      | (simp only [py, lessD]; rw [dataLt_bool]; rfl)
      | (simp only [py, lessD]; rw [dataLt_int])
      | (simp only [py, lessD]; rw [dataLt_str])
  | n + 1, a, b, ha, hb, hl, hn => by
    cases a <;> cases b <;> first
      | (simp [flat] at ha; done)
      | (simp [flat] at hb; done)
      | (simp [alikeD] at hl; done)
      | exact absurd rfl hn
      | (simp only [py, lessD]; rw [dataLt_bool]; rfl)
      | (simp only [py, lessD]; rw [dataLt_int])
      | (simp only [py, lessD]; rw [dataLt_str])
      | (simp only [py, lessD]; rw [dataLt_list]; exact lesss_py n _ _ (by simpa [flat] using ha) (by simpa [flat] using hb) (by simpa [alikeD] using hl))
      | (simp only [py, lessD]; rw [dataLt_tuple]; exact lesss_py n _ _ (by simpa [flat] using ha) (by simpa [flat] using hb) (by simpa [alikeD] using hl))
theorem lesss_py : ∀ (n : Nat) (a b : List D), flatL n a = true → flatL n b = true → alikeDs a b = true → PyProof.Rows.lexLt itemOrd (keyToksAll (pys a)) (keyToksAll (pys b)) = lessDs a b
  | _, [], [], _, _, _ => by simp only [pys, lessDs]; decide
  | _, [], y :: ys, _, _, _ => by
    simp only [pys, lessDs]
    rw [toks_all_cons]
    show PyProof.Rows.lexLt itemOrd [Sum.inl 0] (Sum.inl 1 :: _) = true
    rw [lex_atom (by decide)]
    decide
  | _, x :: xs, [], _, _, _ => by
    simp only [pys, lessDs]
    rw [toks_all_cons]
    show PyProof.Rows.lexLt itemOrd (Sum.inl 1 :: _) [Sum.inl 0] = false
    rw [lex_atom (by decide)]
    decide
  | n, x :: xs, y :: ys, ha, hb, hl => by
    rw [flatL, Bool.and_eq_true] at ha hb
    rw [alikeDs, Bool.and_eq_true] at hl
    have al : alike (py x) (py y) = true := by rw [alike_py n x y ha.1 hb.1]; exact hl.1
    simp only [pys, lessDs]
    by_cases e : eqD x y = true
    · rw [if_pos e, dataLt_all_yes al (by rw [eqv_py n x y ha.1 hb.1]; exact e)]
      exact lesss_py n xs ys ha.2 hb.2 hl.2
    · rw [if_neg e, dataLt_all_no al (by rw [eqv_py n x y ha.1 hb.1]; simpa using e)]
      refine less_py n x y ha.1 hb.1 hl.1 fun z => ?_
      subst z
      cases y <;> simp [alikeD, eqD] at hl e
end

mutual
theorem flat_mono : ∀ {n m : Nat} (h : n ≤ m) (d : D), flat n d = true → flat m d = true
  | _, _, _, .non, _ => by simp [flat]
  | _, _, _, .bl _, _ => by simp [flat]
  | _, _, _, .int _, _ => by simp [flat]
  | _, _, _, .str _, _ => by simp [flat]
  | 0, _, _, .lst _, f => by simp [flat] at f
  | 0, _, _, .tup _, f => by simp [flat] at f
  | n + 1, 0, h, _, _ => by omega
  | n + 1, m + 1, h, .lst ds, f => by
    simp only [flat] at f ⊢
    exact flatL_mono (by omega) ds f
  | n + 1, m + 1, h, .tup ds, f => by
    simp only [flat] at f ⊢
    exact flatL_mono (by omega) ds f
  | 0, _, _, .dic _ _, f => by simp [flat] at f
  | _ + 1, _, _, .dic _ _, f => by simp [flat] at f
  | 0, _, _, .fn _, f => by simp [flat] at f
  | _ + 1, _, _, .fn _, f => by simp [flat] at f
  | 0, _, _, .scr _, f => by simp [flat] at f
  | _ + 1, _, _, .scr _, f => by simp [flat] at f
  | 0, _, _, .exc _ _, f => by simp [flat] at f
  | _ + 1, _, _, .exc _ _, f => by simp [flat] at f
theorem flatL_mono : ∀ {n m : Nat} (h : n ≤ m) (ds : List D), flatL n ds = true → flatL m ds = true
  | _, _, _, [], _ => by simp [flatL]
  | _, _, h, d :: ds, f => by
    rw [flatL, Bool.and_eq_true] at f ⊢
    exact ⟨flat_mono h d f.1, flatL_mono h ds f.2⟩
end
mutual
theorem depth_flat : ∀ (n : Nat) (d : D), flat n d = true → (py d).depth ≤ n
  | _, .non, _ => by simp [py, PyData.depth]
  | _, .bl b, _ => by simp [py, PyData.depth]
  | _, .int i, _ => by simp [py, PyData.depth]
  | _, .str l, _ => by simp [py, PyData.depth]
  | 0, .lst _, f => by simp [flat] at f
  | 0, .tup _, f => by simp [flat] at f
  | n + 1, .lst ds, f => by
    have z := depths_flat n ds (by simpa [flat] using f)
    simp only [py, PyData.depth]; omega
  | n + 1, .tup ds, f => by
    have z := depths_flat n ds (by simpa [flat] using f)
    simp only [py, PyData.depth]; omega
  | 0, .dic _ _, f => by simp [flat] at f
  | _ + 1, .dic _ _, f => by simp [flat] at f
  | 0, .fn _, f => by simp [flat] at f
  | _ + 1, .fn _, f => by simp [flat] at f
  | 0, .scr _, f => by simp [flat] at f
  | _ + 1, .scr _, f => by simp [flat] at f
  | 0, .exc _ _, f => by simp [flat] at f
  | _ + 1, .exc _ _, f => by simp [flat] at f
theorem depths_flat : ∀ (n : Nat) (ds : List D), flatL n ds = true → PyData.depthAll (pys ds) ≤ n
  | _, [], _ => by simp [pys, PyData.depthAll]
  | n, d :: ds, f => by
    rw [flatL, Bool.and_eq_true] at f
    have z := depth_flat n d f.1
    have y := depths_flat n ds f.2
    simp only [pys, PyData.depthAll]; omega
end
section
variable {g : Gi} {X : Cx} {H F : Hp} {x y v : V} {d e : D} {Q : VK}
theorem op_ltv (hu : X.A.units + 64 < cLine) : OpR X (compareOp .Lt) (fun x y H Q => ∃ d e, Dp X.K H x d ∧ Dp X.K H y e ∧ PySem.W.alike d e = true ∧ d ≠ .none ∧ d.depth ≤ 60 ∧ Q (.bl (PySem.W.dataLt d e)) H) := by
  intro pins s σ H x y v u Q I rx ry h
  obtain ⟨d, e, hd, he, al, hn, dp, q⟩ := h
  obtain ⟨as, r1⟩ := Dp.reads I d x v hd rx
  obtain ⟨bs, r2⟩ := Dp.reads I e y u he ry
  have := Nat.min_le_left d.depth e.depth
  exact PySem.W.rcLt_alike d e X.A s v u as bs r1 r2 al hn (by omega) X.prog X.w X.xe _ ⟨.bl _, H, I, rfl, q⟩
/-- the operator in the text -/
def copP : Cop → CmpOp
  | .eq => .Eq | .ne => .NotEq | .lt => .Lt | .le => .LtE | .gt => .Gt | .ge => .GtE | .is => .Is | .isnot => .IsNot | .isin => .In | .notin => .NotIn
theorem isN_of (hx : RdH g H F x d) : decide (x = .non) = isNonD d := by
  rcases hx with h | ⟨a, rfl, c⟩
  · cases h <;> simp [isNonD]
  · rcases c with ⟨_, _, rfl, _⟩ | ⟨_, _, _, rfl, _⟩ <;> simp [isNonD]
theorem any_py {d : D} (fd : flat DEP d = true) : ∀ (n : Nat) (hn : n ≤ DEP) (ys : List D), flatL n ys = true → ((pys ys).any fun z => PyData.eqv z (py d)) = ys.any fun y => eqD y d
  | _, _, [], _ => rfl
  | n, hn, y :: ys, h => by
    rw [flatL, Bool.and_eq_true] at h
    simp only [pys, List.any_cons]
    rw [any_py fd n hn ys h.2]
    have : flat DEP y = true := flat_mono hn y h.1
    rw [eqv_py DEP y d this fd]
theorem cmp_ok {op : Cop} {b : Bool} {bc : Bool} (m : Rm g bc X) (h : cmpD op d e = some b) (s : Same F H) (hx : RdH g H F x d) (hy : RdH g H F y e) (k : Q (.bl b) H) : DOp X (compareOp (copP op)) x y H Q := by
  have hu := m.units
  have eqk : ∀ {b : Bool}, eqv d e = some b → Dp X.K H x (py d) ∧ Dp X.K H y (py e) ∧ SeqAt.shaped (py d) = true ∧ SeqAt.shaped (py e) = true ∧ PyData.eqv (py d) (py e) = b := fun {b} h => by
    unfold eqv at h
    split at h
    · rename_i z
      rw [Bool.and_eq_true] at z
      have z1 := rdh_dp s hx z.1
      have z2 := rdh_dp s hy z.2
      rw [m.K]
      refine ⟨z1.1, z2.1, z1.2, z2.2, ?_⟩
      rw [eqv_py DEP d e z.1 z.2]
      exact Option.some.inj h
    · cases h
  have ink : ∀ {b : Bool}, inD d e = some b → (∃ (c : Nat) (l : List Nat), x = .str ⟨#[c]⟩ ∧ y = .str ⟨l.toArray⟩ ∧ decide (c ∈ l) = b) ∨
      (∃ d' ds, Dp X.K H x d' ∧ Dp X.K H y (.list ds) ∧ SeqAt.shaped d' = true ∧ SeqAt.shaped (.list ds) = true ∧ (ds.any fun z => PyData.eqv z d') = b) ∨ (∃ a o, y = .ref a ∧ DGet H a x o ∧ o.isSome = b) := fun {b} h => by
    unfold inD at h
    split at h
    · cases h
      exact .inl ⟨_, _, hx.str.1, hy.str.1, rfl⟩
    · rename_i ys _
      split at h
      · rename_i z
        rw [Bool.and_eq_true] at z
        have z1 := rdh_dp s hx z.1
        have z2 := rdh_dp s hy z.2
        rw [m.K]
        refine .inr (.inl ⟨py d, pys ys, z1.1, z2.1, z1.2, z2.2, ?_⟩)
        have z3 : flatL 59 ys = true := z.2
        rw [any_py z.1 59 (by decide) ys z3]
        exact Option.some.inj h
      · cases h
    · rename_i ks vs
      split at h
      · rename_i hk
        cases h
        obtain ⟨κ, rfl, ek, _⟩ := key_of (rdh_key hx hk) hk
        obtain ⟨a, kvs, rfl, hd, _, ⟨eks, _⟩, _⟩ := hy.dic s
        refine .inr (.inr ⟨a, valV kvs κ, rfl, DGet.k hd, ?_⟩)
        rw [eks, any_keys ek]
      · cases h
    · cases h
  cases op with
  | eq =>
    obtain ⟨h1, h2, h3, h4, h5⟩ := eqk h
    exact OpR.d (op_eqD (by omega)) ⟨_, _, h1, h2, h3, h4, by rw [h5]; exact k⟩
  | ne =>
    cases q : eqv d e with
    | none => simp only [cmpD, q] at h; cases h
    | some c =>
      simp only [cmpD, q] at h
      cases h
      obtain ⟨h1, h2, h3, h4, h5⟩ := eqk q
      exact OpR.d (op_neD (by omega)) ⟨_, _, h1, h2, h3, h4, by rw [h5]; exact k⟩
  | lt =>
    simp only [cmpD] at h
    unfold ltD at h
    split at h
    · cases h; cases hx.int; cases hy.int
      exact OpR.d op_lt ⟨_, _, rfl, rfl, k⟩
    · cases h
      obtain ⟨rfl, _⟩ := hx.str
      obtain ⟨rfl, _⟩ := hy.str
      exact OpR.d op_lt_str ⟨_, _, rfl, rfl, by simpa using k⟩
    · cases h
    · rename_i hn _ _
      split at h
      · rename_i z
        rw [Bool.and_eq_true, Bool.and_eq_true] at z
        have z1 := rdh_dp s hx z.1.1
        have z2 := rdh_dp s hy z.1.2
        cases h
        have dp : (py d).depth ≤ 60 := by
          exact depth_flat DEP d z.1.1
        have dn : d ≠ .non := fun e => hn e
        refine OpR.d (op_ltv (by omega)) ⟨py d, py e, by rw [m.K]; exact z1.1, by rw [m.K]; exact z2.1, by rw [alike_py DEP d e z.1.1 z.1.2]; exact z.2, fun q => ?_, dp, ?_⟩
        · cases d <;> simp [py] at q <;> first | exact dn rfl | exact absurd (show false = true from z.1.1) (by decide)
        · rw [less_py DEP d e z.1.1 z.1.2 z.2 dn]; exact k
      · cases h
  | le =>
    simp only [cmpD] at h
    split at h
    · cases h; cases hx.int; cases hy.int
      exact OpR.d op_le ⟨_, _, rfl, rfl, k⟩
    · cases h
      obtain ⟨rfl, _⟩ := hx.str
      obtain ⟨rfl, _⟩ := hy.str
      exact OpR.d op_le_str ⟨_, _, rfl, rfl, by simpa using k⟩
    · cases h
  | gt =>
    simp only [cmpD] at h
    split at h
    · cases h; cases hx.int; cases hy.int
      exact OpR.d op_gt ⟨_, _, rfl, rfl, k⟩
    · cases h
      obtain ⟨rfl, _⟩ := hx.str
      obtain ⟨rfl, _⟩ := hy.str
      exact OpR.d op_gt_str ⟨_, _, rfl, rfl, by simpa using k⟩
    · cases h
  | ge =>
    simp only [cmpD] at h
    split at h
    · cases h; cases hx.int; cases hy.int
      exact OpR.d op_ge ⟨_, _, rfl, rfl, k⟩
    · cases h
      obtain ⟨rfl, _⟩ := hx.str
      obtain ⟨rfl, _⟩ := hy.str
      exact OpR.d op_ge_str ⟨_, _, rfl, rfl, by simpa using k⟩
    · cases h
  | is =>
    simp only [cmpD] at h
    split at h
    · cases h; cases hx.bl; cases hy.bl
      exact OpR.d op_is_bl ⟨_, _, rfl, rfl, k⟩
    · cases hy.non
      refine OpR.d op_isN ⟨rfl, ?_⟩
      rw [isN_of hx]
      cases h; exact k
    · cases h
  | isnot =>
    simp only [cmpD] at h
    split at h
    · cases h; cases hx.bl; cases hy.bl
      exact OpR.d op_isnot_bl ⟨_, _, rfl, rfl, k⟩
    · cases hy.non
      refine OpR.d op_notN ⟨rfl, ?_⟩
      rw [isN_of hx]
      cases h; exact k
    · cases h
  | isin =>
    rcases ink h with ⟨c, l, rfl, rfl, q⟩ | ⟨d', ds, h1, h2, h3, h4, q⟩ | ⟨a, o, rfl, h1, q⟩
    · exact OpR.d op_in_sign ⟨c, _, rfl, rfl, by simp only [List.toList_toArray]; rw [q]; exact k⟩
    · exact OpR.d (op_inD (by omega)) ⟨d', ds, h1, h2, h3, h4, by rw [q]; exact k⟩
    · exact OpR.d (op_in_dict (by omega)) ⟨a, o, rfl, h1, by rw [q]; exact k⟩
  | notin =>
    cases q : inD d e with
    | none => simp only [cmpD, q] at h; cases h
    | some c =>
      simp only [cmpD, q] at h
      cases h
      rcases ink q with ⟨c, l, rfl, rfl, q⟩ | ⟨d', ds, h1, h2, h3, h4, q⟩ | ⟨a, o, rfl, h1, q⟩
      · exact OpR.d op_notIn_sign ⟨c, _, rfl, rfl, by simp only [List.toList_toArray]; rw [q]; exact k⟩
      · exact OpR.d (op_notInD (by omega)) ⟨d', ds, h1, h2, h3, h4, by rw [q]; exact k⟩
      · exact OpR.d (op_notin_dict (by omega)) ⟨a, o, rfl, h1, by rw [q]; exact k⟩
end
end Ev

set_option Elab.async false
set_option linter.all false
set_option maxRecDepth 100000
set_option maxHeartbeats 1000000
/-! Ev3c: subscripts, slices, truth by values. Own work. -/
namespace Ev
open PySem PySem.Spec PyProof.Rows L2
def DIx (X : Cx) : R2 := fun x y H Q => ∀ (value slice : Expr) pins s σ v u, Inv X pins σ H s → RelV x v → RelV y u → subscripted slice false v u = operate [v, u] (getItem v u) → wpAny (model X.prog X.w) X.A (subscriptTail value slice v u) (EP X pins σ Q) X.xe s
def DSl (X : Cx) : V → Option Int → Option Int → Hp → VK → Prop := fun x lo hi H Q => ∀ pins s σ v vl vu sl, Inv X pins σ H s → RelV x v → s.heap.IsSliceOf sl vl vu .none → IsPart vl lo → IsPart vu hi →
  ∃ T id, typeLookup (.type T) "__getitem__" = pure (some (.builtin id)) ∧ s.TypeIs v T ∧ wpAny (model X.prog X.w) X.A (getItem v (.ref sl)) (EP X pins σ Q) X.xe s
section
variable {g : Gi} {X : Cx} {H F : Hp} {x y v : V} {d e : D} {Q : VK}
theorem ix_D : IxR X (DIx X) := fun value slice pins s σ H x y v u Q I r1 r2 h hs => h value slice pins s σ v u I r1 r2 hs
theorem ix_use {r : R2} (h : IxR X r) (q : r x y H Q) : DIx X x y H Q := fun value slice pins s σ v u I r1 r2 hs => h value slice pins s σ H x y v u Q I r1 r2 q hs
theorem sl_D : SlR X (DSl X) := fun pins s σ H x v vl vu lo hi sl Q I r hs p1 p2 h => h pins s σ v vl vu sl I r hs p1 p2
theorem sl_use {r : V → Option Int → Option Int → Hp → VK → Prop} {lo hi : Option Int} (h : SlR X r) (q : r x lo hi H Q) : DSl X x lo hi H Q := fun pins s σ v vl vu sl I r hs p1 p2 => h pins s σ H x v vl vu lo hi sl Q I r hs p1 p2 q
theorem map_int_get {ns : List Int} {j : Nat} {n : Int} (h : ns[j]? = some n) : (ns.map V.int)[j]? = some (.int n) := by
  rw [List.getElem?_map, h] <;> rfl
theorem sub_ok {r : D} {bc : Bool} (m : Rm g bc X) (h : subD d e = some r) (s : Same F H) (hx : RdH g H F x d) (hy : RdH g H F y e) (k : ∀ v, RD g F v r → Q v H) : DIx X x y H Q := by
  unfold subD at h
  split at h
  · rename_i ns i
    obtain ⟨a, rfl, hq⟩ := hx.scr s
    cases hy.int
    cases hj : ixN ns.length i with
    | none => rw [hj] at h; cases h
    | some j =>
      rw [hj] at h
      cases hn : ns[j]? with
      | none => simp only [hn] at h; cases h
      | some n =>
        simp only [hn] at h
        cases h
        refine ix_use ix_list ⟨a, _, i, .int n, rfl, rfl, by rw [m.K]; exact hq, ?_, k _ (.int n)⟩
        show (L2.ixN (ns.map V.int).length i).bind _ = _
        rw [List.length_map]
        show (Ev.ixN ns.length i).bind _ = _
        rw [hj]
        exact map_int_get hn
  · rename_i xs i
    obtain ⟨a, ws, rfl, hq, rr⟩ := hx.lst s
    cases hy.int
    cases hj : ixN xs.length i with
    | none => rw [hj] at h; cases h
    | some j =>
      rw [hj] at h
      obtain ⟨w, hw, rw'⟩ := rr.get h
      refine ix_use ix_list ⟨a, ws, i, w, rfl, rfl, .inl (.inl hq), ?_, k _ rw'⟩
      show (L2.ixN ws.length i).bind _ = _
      rw [rr.length]
      show (Ev.ixN xs.length i).bind _ = _
      rw [hj]
      exact hw
  · rename_i xs i
    obtain ⟨a, ws, rfl, hq, rr⟩ := hx.tup s
    cases hy.int
    cases hj : ixN xs.length i with
    | none => rw [hj] at h; cases h
    | some j =>
      rw [hj] at h
      obtain ⟨w, hw, rw'⟩ := rr.get h
      refine ix_use ix_tup ⟨a, ws, i, w, rfl, rfl, by rw [m.K]; exact hq, ?_, k _ rw'⟩
      show (L2.ixN ws.length i).bind _ = _
      rw [rr.length]
      show (Ev.ixN xs.length i).bind _ = _
      rw [hj]
      exact hw
  · rename_i l i
    obtain ⟨rfl, ok⟩ := hx.str
    cases hy.int
    cases hj : ixN l.length i with
    | none => rw [hj] at h; cases h
    | some j =>
      rw [hj] at h
      cases hc : l[j]? with
      | none => simp only [hc] at h; cases h
      | some c =>
        simp only [hc] at h
        cases h
        refine ix_use ix_str ⟨_, i, c, rfl, rfl, by rw [str_len]; exact ok.1, ?_, k _ (.str [c] (okL_one ok (List.mem_of_getElem? hc)))⟩
        show (L2.ixN l.toArray.toList.length i).bind _ = _
        rw [List.toList_toArray]
        show (Ev.ixN l.length i).bind _ = _
        rw [hj]
        exact hc
  · rename_i ks vs
    split at h
    · rename_i hk
      obtain ⟨κ, rfl, ek, _⟩ := key_of (rdh_key hy hk) hk
      obtain ⟨a, kvs, rfl, hd, _, ⟨eks, _⟩, rv⟩ := hx.dic s
      have hat := atK_ok ek eks rv
      rw [h] at hat
      obtain ⟨w, e1, e2⟩ := hat
      have hu := m.units
      refine ix_use (ix_dict (by omega)) ⟨a, w, rfl, ?_, k _ e2⟩
      rw [← e1]
      exact DGet.k hd
    · cases h
  · cases h
theorem rds_ints : ∀ ns : List Int, RDs g F (ns.map .int) (ns.map .int)
  | [] => .nil
  | n :: ns => .cons (.int n) (rds_ints ns)
theorem cut_rds {xs : List V} {ds : List D} (r : RDs g F xs ds) (lo hi : Option Int) : RDs g F (cutV xs lo hi) (cut ds lo hi) := by
  unfold cutV cut
  rw [r.length]
  exact (r.drop _).take _
theorem cut_map {α β : Type} (f : α → β) (l : List α) (lo hi : Option Int) : cut (l.map f) lo hi = (cut l lo hi).map f := by
  unfold cut
  rw [List.length_map, List.map_take, List.map_drop]
theorem slice_ok {r : Vr} {lo hi : Option Int} {bc : Bool} (m : Rm g bc X) (h : slD d lo hi = some r) (s : Same F H) (hx : RdH g H F x d) (k : ∀ v H', Res g H F r v H' → Q v H') : DSl X x lo hi H Q := by
  unfold slD at h
  split at h
  · cases h
    obtain ⟨a, ws, rfl, hq, rr⟩ := hx.lst s
    exact sl_use sl_list ⟨a, ws, rfl, .inl (.inl hq), fun p hp => k _ _ (.lst s hp (cut_rds rr lo hi))⟩
  · rename_i ns
    cases h
    obtain ⟨a, rfl, hq⟩ := hx.scr s
    refine sl_use sl_list ⟨a, _, rfl, by rw [m.K]; exact hq, fun p hp => k _ _ (.lst s hp ?_)⟩
    rw [← cut_map]
    refine cut_rds ?_ lo hi
    exact rds_ints _
  · rename_i xs
    split at h
    · rename_i hz
      cases h
      obtain ⟨a, ws, rfl, hq, rr⟩ := hx.tup s
      have hl := (cut_rds rr lo hi).length
      refine sl_use sl_tup ⟨a, ws, rfl, by rw [m.K]; exact hq, fun ⟨z1, z2⟩ => ?_, fun p hp => k _ _ (.tup s hp (cut_rds rr lo hi))⟩
      have : (cutV ws lo hi).length = ws.length := by
        unfold cutV
        rw [z1, z2]
        simp
      rw [hl, rr.length] at this
      omega
    · cases h
  · cases h
    obtain ⟨rfl, ok⟩ := hx.str
    refine sl_use sl_str ⟨_, rfl, by rw [str_len]; exact ok.1, ?_⟩
    unfold cutS
    rw [str_len, List.toList_toArray]
    exact k _ _ (.same s (.str _ (okL_cut ok lo hi)))
  · cases h
/-! ### truth -/
theorem emp_of {α β : Type} {a : List α} {b : List β} (h : a.length = b.length) : (!a.isEmpty) = !b.isEmpty := by
  cases a <;> cases b <;> simp at h ⊢
theorem tru_of {k : Bool} {bc : Bool} (m : Rm g bc X) (h : truth d = some k) (s : Same F H) (hx : RdH g H F x d) : TruV X.K x H k := by
  rw [m.K]
  unfold truth at h
  split at h
  · cases h; cases hx.non; rfl
  · cases h; cases hx.bl; rfl
  · rename_i i
    cases h; cases hx.int
    show (!decide (i = 0)) = (i != 0)
    rw [bne, Bool.beq_eq_decide_eq]
  · rename_i l
    cases h
    obtain ⟨rfl, ok⟩ := hx.str
    refine ⟨by rw [str_len]; exact ok.1, ?_⟩
    rw [str_len]
    cases l with
    | nil => rfl
    | cons a l =>
      show true = _
      rw [bne, Bool.beq_eq_decide_eq, decide_eq_false (by simp only [List.length_cons]; omega)] <;> rfl
  · cases h
    obtain ⟨a, ws, rfl, hq, rr⟩ := hx.tup s
    exact .inr (.inl ⟨ws, hq, (emp_of rr.length).symm⟩)
  · cases h
    obtain ⟨a, ws, rfl, hq, rr⟩ := hx.lst s
    exact .inl ⟨ws, .inl (.inl hq), (emp_of rr.length).symm⟩
  · cases h
    obtain ⟨a, kvs, rfl, hq, n, ⟨rfl, _⟩, rr⟩ := hx.dic s
    exact .inr (.inr ⟨kvs, hq, (emp_of (by rw [List.length_map])).symm⟩)
  · cases h
end
end Ev

set_option Elab.async false
set_option linter.all false
set_option maxRecDepth 100000
set_option maxHeartbeats 1000000
/-! Ev3d: built-in functions and methods by values. Own work. -/
namespace Ev
open PySem PySem.Spec PyProof.Rows L2
section
variable {g : Gi} {X : Cx} {H F : Hp} {x y v : V} {d e : D} {Q : VK}

/-! ### [::-1] -/
def DRv (X : Cx) : V → Int → Hp → VK → Prop := fun x j H Q => ∀ (value : Expr) (se : Expr) (p : Pos) pins s σ v vs, Inv X pins σ H s → RelV x v → IsPart vs (some j) → 
  wpAny (model X.prog X.w) X.A (subscriptTail value (.Slice none none (some se) p) v (.ref s.heap.objs.size)) (EP X pins σ Q) X.xe { s with heap := s.heap.push { cls := .type "slice", data := .fields #[.none, .none, vs] } }
theorem rev_str (l : List Nat) : (PySem.Builtin.Str.strSliceIndices none none (-1) l.length).filterMap (fun i => l.toArray[i]?) = l.reverse := by
  have h1 : ¬ ((-1 : Int) > 0) := by decide
  have e : PySem.Builtin.Str.strSliceIndices none none (-1) l.length = sliceRange ((l.length : Int) - 1) (-1) (-1) := by
    unfold PySem.Builtin.Str.strSliceIndices
    simp only [h1, if_false]
  have z := PySem.W.krv_all l.toArray
  rw [List.size_toArray] at z
  rw [e, PySem.W.krv_sliceRange, PySem.W.krv_range, List.filterMap_reverse, z]
theorem rev_ok {r : Vr} {j : Int} {bc : Bool} (m : Rm g bc X) (h : revD d (.int j) = some r) (s : Same F H) (hx : RdH g H F x d) (k : ∀ v H', Res g H F r v H' → Q v H') : DRv X x j H Q := by
  unfold revD at h
  simp only at h
  split at h
  · rename_i hj
    subst hj
    split at h
    · cases h
      obtain ⟨a, ws, rfl, hq, rr⟩ := hx.lst s
      intro value se p pins s' σ v vs I r1 pk
      cases r1
      have I5 : Inv X pins σ H { s' with heap := s'.heap.push { cls := .type "slice", data := .fields #[.none, .none, vs] } } := I.kept (t' := s'.toks) fun b ob q => Heap.get?_push_of_some _ q
      obtain ⟨its, r, ht, hz⟩ := I5.list (SqL.of hq)
      have hlen := r.length
      refine tail_any (ops := [.ref a, .ref s'.heap.objs.size]) ht.isList.typeIs (PySem.slot_list_getitem.lookup) ?_ (by with_unfolding_all rfl)
      refine wpAny_getItem_list_slice ht.isList (Heap.IsSliceOf.new _ .none .none vs) .none .none pk (by decide) ?_ (by rw [List.size_toArray]; omega)
      rw [PySem.W.krv_pick]
      refine ⟨.ref _, _, I5.laid (t' := s'.toks) (o := .lst ws.reverse) (fun b ob q => Heap.get?_push_of_some _ q) (Nat.le_refl _) ?_, rfl, k _ _ (.lst s (I5.hok.fresh (Nat.le_refl _)) rr.reverse)⟩
      exact ⟨by rw [List.length_reverse]; exact hz, _, 0, r.reverse, Heap.get?_push_size _ rfl⟩
    · rename_i l
      cases h
      obtain ⟨rfl, ok⟩ := hx.str
      intro value se p pins s' σ v vs I r1 pk
      obtain ⟨t, rfl⟩ := r1
      obtain ⟨u, rfl⟩ : ∃ u, vs = partValue (some (-1, u)) := by
        obtain ⟨st, rfl, est⟩ := IsPart.raw pk
        cases st with
        | none => cases est
        | some q =>
          obtain ⟨i, u⟩ := q
          cases est
          exact ⟨u, rfl⟩
      have I5 : Inv X pins σ H { s' with heap := s'.heap.push { cls := .type "slice", data := .fields #[.none, .none, partValue (some (-1, u))] } } := I.kept (t' := s'.toks) fun b ob q => Heap.get?_push_of_some _ q
      refine tail_any (ops := [_, .ref s'.heap.objs.size]) (typeIs_str _ _ _) PySem.F.slot_str_getitem.lookup ?_ (by with_unfolding_all rfl)
      have hi : ({ s' with heap := s'.heap.push { cls := .type "slice", data := .fields #[.none, .none, partValue (some (-1, u))] } } : Shared).heap.IsSlice s'.heap.objs.size none none (some (-1, u)) := ⟨_, Heap.get?_push_size _ rfl, rfl, rfl⟩
      refine wpAny_getItem_str_slice hi rfl ?_
      have e : slicePicked ⟨l.toArray⟩ none none (some (-1, u)) = PySem.Builtin.Str.strSliceIndices none none (-1) l.length := by
        unfold slicePicked
        rw [str_len] <;> rfl
      unfold sliceMade
      rw [e, rev_str]
      show Made.post (if ((-1 : Int) == 1 && _) = true then _ else _) _ _
      rw [if_neg (by simp)]
      have ok2 : okL l.reverse := okL_sub ok (by rw [List.length_reverse]; exact Nat.le_refl _) fun c hc => List.mem_reverse.mp hc
      exact ⟨by rw [str_len]; exact ok2.1, .str _, H, I5.tok _, ⟨_, rfl⟩, k _ _ (.same s (.str _ ok2))⟩
    · cases h
  · cases h

/-! ### built-in functions -/
inductive RdHs (g : Gi) (H F : Hp) : List V → List D → Prop
  | nil : RdHs g H F [] []
  | cons {v vs d ds} : RdH g H F v d → RdHs g H F vs ds → RdHs g H F (v :: vs) (d :: ds)
theorem RdHs.one {vs : List V} {d : D} (h : RdHs g H F vs [d]) : ∃ v, vs = [v] ∧ RdH g H F v d := by
  cases h with
  | cons h r => cases r; exact ⟨_, rfl, h⟩
theorem RdHs.two {vs : List V} {d e : D} (h : RdHs g H F vs [d, e]) : ∃ v w, vs = [v, w] ∧ RdH g H F v d ∧ RdH g H F w e := by
  cases h with
  | cons h r =>
    obtain ⟨w, rfl, h2⟩ := r.one
    exact ⟨_, w, rfl, h, h2⟩
theorem RdHs.zero {vs : List V} (h : RdHs g H F vs []) : vs = [] := by cases h; rfl
theorem dsum_of : ∀ (l : List D) (a i : Int), Dsum l a = some i → ∃ ns : List Int, l = ns.map .int ∧ a + ns.sum = i
  | [], a, i, h => by cases h; exact ⟨[], rfl, by simp⟩
  | .int j :: r, a, i, h => by
    obtain ⟨ns, rfl, e⟩ := dsum_of r (a + j) i h
    exact ⟨j :: ns, rfl, by rw [List.sum_cons]; omega⟩
  | .non :: _, _, _, h => by cases h
  | .bl _ :: _, _, _, h => by cases h
  | .str _ :: _, _, _, h => by cases h
  | .tup _ :: _, _, _, h => by cases h
  | .lst _ :: _, _, _, h => by cases h
  | .dic _ _ :: _, _, _, h => by cases h
  | .fn _ :: _, _, _, h => by cases h
  | .scr _ :: _, _, _, h => by cases h
  | .exc _ _ :: _, _, _, h => by cases h
theorem len_dK : CallR X (.builtin "len") (fun xs H Q => ∃ a kvs, xs = [.ref a] ∧ H a = some (.dK kvs) ∧ Q (.int kvs.length) H) := by
  intro pins s σ H xs us Q I r h
  obtain ⟨a, kvs, rfl, hd, q⟩ := h
  exact call_lenD pins s σ H _ us Q I r ⟨a, kvs, rfl, hd, q⟩
theorem len_ok {r : Vr} {vs : List V} {ds : List D} {bc : Bool} (m : Rm g bc X) (h : biD .len ds = some r) (s : Same F H) (hx : RdHs g H F vs ds) (k : ∀ v H', Res g H F r v H' → Q v H') : DCall X (.builtin "len") vs H Q := by
  unfold biD at h
  split at h <;> first
    | (exfalso; rename_i q; exact Bi.noConfusion q)
    | (exfalso; rename_i q _; exact Bi.noConfusion q)
    | (cases h; done)
    | skip
  · cases h
    obtain ⟨v, rfl, h1⟩ := hx.one
    obtain ⟨a, rfl, hq⟩ := h1.scr s
    exact CallR.d call_len ⟨_, _, rfl, .inl ⟨_, by rw [m.K]; exact hq, rfl⟩, by rw [List.length_map]; exact k _ _ (.same s (.int _))⟩
  · cases h
    obtain ⟨v, rfl, h1⟩ := hx.one
    obtain ⟨rfl, ok⟩ := h1.str
    exact CallR.d call_len ⟨_, _, rfl, ⟨by rw [str_len]; exact ok.1, rfl⟩, by rw [str_len]; exact k _ _ (.same s (.int _))⟩
  · cases h
    obtain ⟨v, rfl, h1⟩ := hx.one
    obtain ⟨a, ws, rfl, hq, rr⟩ := h1.lst s
    exact CallR.d call_len ⟨_, _, rfl, .inl ⟨_, .inl (.inl hq), rfl⟩, by rw [rr.length]; exact k _ _ (.same s (.int _))⟩
  · cases h
    obtain ⟨v, rfl, h1⟩ := hx.one
    obtain ⟨a, ws, rfl, hq, rr⟩ := h1.tup s
    exact CallR.d call_len ⟨_, _, rfl, .inr ⟨_, by rw [m.K]; exact hq, rfl⟩, by rw [rr.length]; exact k _ _ (.same s (.int _))⟩
  · cases h
    obtain ⟨v, rfl, h1⟩ := hx.one
    obtain ⟨a, kvs, rfl, hq, n, ⟨rfl, _⟩, rr⟩ := h1.dic s
    exact CallR.d len_dK ⟨a, kvs, rfl, hq, by rw [List.length_map] at k; exact k _ _ (.same s (.int _))⟩
theorem int_ok {r : Vr} {vs : List V} {ds : List D} {bc : Bool} (m : Rm g bc X) (h : biD .int ds = some r) (s : Same F H) (hx : RdHs g H F vs ds) (k : ∀ v H', Res g H F r v H' → Q v H') : DCall X (.type "int") vs H Q := by
  unfold biD at h
  split at h <;> first
    | (exfalso; rename_i q; exact Bi.noConfusion q)
    | (exfalso; rename_i q _; exact Bi.noConfusion q)
    | (cases h; done)
    | skip
  · cases h
    obtain ⟨v, rfl, h1⟩ := hx.one
    cases h1.int
    exact CallR.d call_int1 (.inl ⟨_, rfl, k _ _ (.same s (.int _))⟩)
  · cases h
    obtain ⟨v, rfl, h1⟩ := hx.one
    cases h1.bl
    exact CallR.d call_int1 (.inr ⟨_, rfl, k _ _ (.same s (.int _))⟩)
theorem least_ints : ∀ (r : List D) (x i : Int), leastI x r = some i → ∃ ns : List Int, r = ns.map .int ∧ i ∈ x :: ns ∧ ∀ y ∈ x :: ns, i ≤ y
  | [], x, i, h => by cases h; exact ⟨[], rfl, by simp, by simp⟩
  | .int j :: r, x, i, h => by
    obtain ⟨ns, rfl, e, f⟩ := least_ints r _ i h
    refine ⟨j :: ns, rfl, ?_, ?_⟩
    · by_cases hj : j < x
      · rw [if_pos hj] at e; exact List.mem_cons_of_mem _ e
      · rw [if_neg hj] at e
        rcases List.mem_cons.mp e with e | e
        · exact e ▸ List.mem_cons_self
        · exact List.mem_cons_of_mem _ (List.mem_cons_of_mem _ e)
    · intro y hy
      have f0 := f _ List.mem_cons_self
      rcases List.mem_cons.mp hy with rfl | hy
      · by_cases hj : j < y
        · rw [if_pos hj] at f0; omega
        · rw [if_neg hj] at f0; exact f0
      · rcases List.mem_cons.mp hy with rfl | hy
        · by_cases hj : y < x
          · rw [if_pos hj] at f0; exact f0
          · rw [if_neg hj] at f0; omega
        · exact f _ (List.mem_cons_of_mem _ hy)
  | .non :: _, _, _, h => by cases h
  | .bl _ :: _, _, _, h => by cases h
  | .str _ :: _, _, _, h => by cases h
  | .tup _ :: _, _, _, h => by cases h
  | .lst _ :: _, _, _, h => by cases h
  | .dic _ _ :: _, _, _, h => by cases h
  | .fn _ :: _, _, _, h => by cases h
  | .scr _ :: _, _, _, h => by cases h
  | .exc _ _ :: _, _, _, h => by cases h
theorem great_ints : ∀ (r : List D) (x i : Int), greatI x r = some i → ∃ ns : List Int, r = ns.map .int ∧ i ∈ x :: ns ∧ ∀ y ∈ x :: ns, y ≤ i
  | [], x, i, h => by cases h; exact ⟨[], rfl, by simp, by simp⟩
  | .int j :: r, x, i, h => by
    obtain ⟨ns, rfl, e, f⟩ := great_ints r _ i h
    refine ⟨j :: ns, rfl, ?_, ?_⟩
    · by_cases hj : j > x
      · rw [if_pos hj] at e; exact List.mem_cons_of_mem _ e
      · rw [if_neg hj] at e
        rcases List.mem_cons.mp e with e | e
        · exact e ▸ List.mem_cons_self
        · exact List.mem_cons_of_mem _ (List.mem_cons_of_mem _ e)
    · intro y hy
      have f0 := f _ List.mem_cons_self
      rcases List.mem_cons.mp hy with rfl | hy
      · by_cases hj : j > y
        · rw [if_pos hj] at f0; omega
        · rw [if_neg hj] at f0; exact f0
      · rcases List.mem_cons.mp hy with rfl | hy
        · by_cases hj : y > x
          · rw [if_pos hj] at f0; exact f0
          · rw [if_neg hj] at f0; omega
        · exact f _ (List.mem_cons_of_mem _ hy)
  | .non :: _, _, _, h => by cases h
  | .bl _ :: _, _, _, h => by cases h
  | .str _ :: _, _, _, h => by cases h
  | .tup _ :: _, _, _, h => by cases h
  | .lst _ :: _, _, _, h => by cases h
  | .dic _ _ :: _, _, _, h => by cases h
  | .fn _ :: _, _, _, h => by cases h
  | .scr _ :: _, _, _, h => by cases h
  | .exc _ _ :: _, _, _, h => by cases h
theorem least_strs : ∀ (r : List D) (x m : List Nat), leastS x r = some m → ∃ ns : List (List Nat), r = ns.map .str ∧ m = ns.foldl (fun a y => if decide (y < a) then y else a) x
  | [], x, i, h => by cases h; exact ⟨[], rfl, rfl⟩
  | .str j :: r, x, i, h => by
    obtain ⟨ns, rfl, e⟩ := least_strs r _ i h
    refine ⟨j :: ns, rfl, ?_⟩
    rw [List.foldl_cons, e]
    by_cases hj : j < x
    · rw [if_pos hj, if_pos (decide_eq_true hj)]
    · rw [if_neg hj, if_neg (by simpa using hj)]
  | .non :: _, _, _, h => by cases h
  | .bl _ :: _, _, _, h => by cases h
  | .int _ :: _, _, _, h => by cases h
  | .tup _ :: _, _, _, h => by cases h
  | .lst _ :: _, _, _, h => by cases h
  | .dic _ _ :: _, _, _, h => by cases h
  | .fn _ :: _, _, _, h => by cases h
  | .scr _ :: _, _, _, h => by cases h
  | .exc _ _ :: _, _, _, h => by cases h
theorem RDs.strL : ∀ {vs : List V} {ns : List (List Nat)}, RDs g F vs (ns.map .str) → vs = ns.map (fun l => V.str ⟨l.toArray⟩) ∧ ∀ l ∈ ns, okL l
  | _, [], .nil => ⟨rfl, fun _ h => nomatch h⟩
  | _, _ :: _, .cons h r => by
    obtain ⟨e, f⟩ := RDs.strL r
    cases h with
    | str l ok => exact ⟨by rw [e]; rfl, fun l h => by
        rcases List.mem_cons.mp h with rfl | h
        · exact ok
        · exact f l h⟩
theorem cmpOf_strs {prog : Program} {w : World} {A : Around} {vs : Array Value} {ns : List (List Nat)} (hv : Vals (ns.map fun l => V.str ⟨l.toArray⟩) vs.toList) :
    CmpOf prog w A .Lt (fun i v => vs[i]? = some v) (fun i j => decide (ns.getD i [] < ns.getD j [])) := fun i j vi vj s Q E hi hj h => by
  have gt : ∀ (k : Nat) (v : Value), vs[k]? = some v → ∃ t, v = .str ⟨(ns.getD k []).toArray⟩ t := by
    intro k v hk
    have hk' : vs.toList[k]? = some v := by simpa using hk
    have hlt : k < (ns.map fun l => V.str ⟨l.toArray⟩).length := by
      rw [hv.length]
      exact (List.getElem?_eq_some_iff.mp hk').1
    obtain ⟨u, hu, ru⟩ := hv.get (List.getElem?_eq_getElem hlt)
    rw [hk'] at hu
    cases hu
    have hlt' : k < ns.length := by simpa using hlt
    rw [List.getElem_map] at ru
    obtain ⟨t, rfl⟩ := ru
    exact ⟨t, by simp [List.getD_eq_getElem?_getD, hlt']⟩
  obtain ⟨t, rfl⟩ := gt i vi hi
  obtain ⟨u, rfl⟩ := gt j vj hj
  exact DT.rcLt_str _ _ _ _ _ _ _ _ _ _ (by simpa using h)
theorem min_two_strs {prog : Program} {w : World} {A : Around} {E : Value → Shared → Prop} {s : Shared} {Q : Value → Shared → Prop} {a b : List Nat} {t u : Tok} (hh : A.handled = none)
    (h : ∀ h' tk, (∀ c o, s.heap.get? c = some o → h'.get? c = some o) → Q (if b < a then .str ⟨b.toArray⟩ u else .str ⟨a.toArray⟩ t) { s with heap := h', toks := tk }) :
    wpAny (model prog w) A (call (.builtin "min") [.str ⟨a.toArray⟩ t, .str ⟨b.toArray⟩ u]) Q E s := by
  have hT : (s.heap.push { cls := .type "tuple", data := .seq #[.str ⟨a.toArray⟩ t, .str ⟨b.toArray⟩ u] }).IsTuple s.heap.objs.size #[.str ⟨a.toArray⟩ t, .str ⟨b.toArray⟩ u] := ⟨_, Heap.get?_push_size _ rfl, rfl, 0, rfl⟩
  refine call_min_two (wpAny_pyIter_tuple hT ?_)
  have hsz : (s.heap.push { cls := .type "tuple", data := .seq #[.str ⟨a.toArray⟩ t, .str ⟨b.toArray⟩ u] }).objs.size = s.heap.objs.size + 1 := Heap.size_push ..
  refine ⟨_, [_, s.heap.objs.size], [_], _, _, _, _, rfl, Walks.tuple (A := A.in1) hh _ s.heap.objs.size (by rw [hsz]; exact Nat.ne_of_lt (Nat.lt_succ_self _)) #[.str ⟨a.toArray⟩ t, .str ⟨b.toArray⟩ u],
    ⟨⟨_, Heap.get?_push_size _ rfl, rfl, rfl⟩, hT.push _⟩, fun c hc => ?_, by simp, cmpOf_strs (ns := [a, b]) (.cons ⟨t, rfl⟩ (.cons ⟨u, rfl⟩ .nil)), fun v h' tk hP hk => ?_⟩
  · show c < ((s.heap.push _).push _).objs.size
    rw [Heap.size_push, hsz]
    rcases List.mem_cons.mp hc with rfl | hc
    · rw [hsz]; exact Nat.lt_succ_self _
    · rcases List.mem_cons.mp hc with rfl | hc
      · exact Nat.lt_succ_of_lt (Nat.lt_succ_self _)
      · cases hc
  · have hold : ∀ c o, s.heap.get? c = some o → h'.get? c = some o := fun c o e => by
      refine hk c o (fun hm => ?_) (Heap.get?_push_of_some _ (Heap.get?_push_of_some _ e))
      rcases List.mem_cons.mp hm with e1 | hm
      · have := Heap.lt_size e; rw [e1, hsz] at this; exact Nat.lt_irrefl _ (Nat.lt_of_succ_lt this)
      · cases hm
    have := h h' tk hold
    have hv : v = if b < a then Value.str ⟨b.toArray⟩ u else Value.str ⟨a.toArray⟩ t := by
      by_cases hc : b < a <;> simp [argBest, hc] at hP <;> simp [hP, hc]
    rw [hv]; exact this
theorem min_list_strs {prog : Program} {w : World} {A : Around} {E : Value → Shared → Prop} {s : Shared} {Q : Value → Shared → Prop} {l : Addr} {vs : Array Value} {x : List Nat} {ns : List (List Nat)} (hh : A.handled = none) (hl : s.heap.IsList l vs)
    (hv : Vals ((x :: ns).map fun l => V.str ⟨l.toArray⟩) vs.toList)
    (h : ∀ h' tk t, (∀ b o, s.heap.get? b = some o → h'.get? b = some o) → Q (.str ⟨(ns.foldl (fun a y => if decide (y < a) then y else a) x).toArray⟩ t) { s with heap := h', toks := tk }) :
    wpAny (model prog w) A (call (.builtin "min") [.ref l]) Q E s := by
  have hn : vs.size = ns.length + 1 := by
    have := hv.length
    simpa using this.symm
  refine call_min_walkH (PySem.W.iter_listW (A := A.in1) hh hl fun s₂ e W st hfp hw hk => ?_)
  refine ⟨_, _, _, _, _, _, _, s.heap, (fun i j => decide ((x :: ns).getD i [] < (x :: ns).getD j [])), rfl, W, st, hfp, by omega, hw, hk, fun i j vi vj s Q E _ hi hj h => cmpOf_strs hv i j vi vj s Q E hi hj h, fun v s' hP m => ?_⟩
  obtain ⟨h', tk, rfl, hk'⟩ := PySem.W.moved_old e rfl m
  have e1 : vs.size - 1 = ns.length := by omega
  obtain ⟨e0, e2⟩ := PySem.W.argBest_fold (fun a b : List Nat => decide (a < b)) [] x ns ns.length (Nat.le_refl _)
  rw [List.take_length] at e2
  rw [e1] at hP
  have hP' : vs.toList[argBest (fun i j => decide ((x :: ns).getD i [] < (x :: ns).getD j [])) ns.length]? = some v := by simpa using hP
  have hlt : argBest (fun i j => decide ((x :: ns).getD i [] < (x :: ns).getD j [])) ns.length < ((x :: ns).map fun l => V.str ⟨l.toArray⟩).length := by
    rw [List.length_map, List.length_cons]
    exact Nat.lt_succ_of_le e0
  obtain ⟨u, hu, ru⟩ := hv.get (List.getElem?_eq_getElem hlt)
  rw [hP'] at hu
  cases hu
  rw [List.getElem_map] at ru
  obtain ⟨t, rfl⟩ := ru
  have e3 := h h' tk t hk'
  rw [← e2] at e3
  rw [List.getD_eq_getElem?_getD, List.getElem?_eq_getElem (by simpa using hlt)] at e3
  exact e3
theorem cr_min2s (hc : X.calm = true) : CallR X (.builtin "min") (fun xs H Q => ∃ a b : List Nat, xs = [.str ⟨a.toArray⟩, .str ⟨b.toArray⟩] ∧ Q (.str ⟨(if b < a then b else a).toArray⟩) H) := by
  intro pins s σ H xs us Q I r h
  obtain ⟨i, j, rfl, q⟩ := h
  obtain ⟨u, w', rfl, ⟨t, rfl⟩, ⟨t', rfl⟩⟩ := vals2 r
  refine min_two_strs (I.ok.hd hc) fun h' tk k => ⟨_, H, I.kept k, ?_, q⟩
  by_cases hj : j < i
  · rw [if_pos hj, if_pos hj]; exact ⟨_, rfl⟩
  · rw [if_neg hj, if_neg hj]; exact ⟨_, rfl⟩
theorem cr_minLs (hc : X.calm = true) : CallR X (.builtin "min") (fun vs H Q => ∃ (a : Addr) (x : List Nat) (ns : List (List Nat)), vs = [V.ref a] ∧ SqL X.K H a ((x :: ns).map fun l => V.str ⟨l.toArray⟩) ∧ Q (.str ⟨(ns.foldl (fun a y => if decide (y < a) then y else a) x).toArray⟩) H) := by
  intro pins s σ H vs us Q I r h
  obtain ⟨a, x, ns, rfl, hs, q⟩ := h
  obtain ⟨its, rv, hl, _⟩ := I.list hs
  rw [Vals.ref1 r]
  exact min_list_strs (I.ok.hd hc) hl.isList (by simpa using rv) fun h' tk t hk => ⟨.str _, H, I.kept hk, ⟨_, rfl⟩, q⟩
theorem foldMin_mem : ∀ (ns : List (List Nat)) (x : List Nat), ns.foldl (fun a y => if decide (y < a) then y else a) x ∈ x :: ns
  | [], x => List.mem_cons_self
  | j :: ns, x => by
    rw [List.foldl_cons]
    have := foldMin_mem ns (if decide (j < x) = true then j else x)
    rcases List.mem_cons.mp this with e | e
    · rw [e]
      by_cases hj : decide (j < x) = true
      · rw [if_pos hj]; exact List.mem_cons_of_mem _ List.mem_cons_self
      · rw [if_neg hj]; exact List.mem_cons_self
    · exact List.mem_cons_of_mem _ (List.mem_cons_of_mem _ e)
theorem max_ok {r : Vr} {vs : List V} {ds : List D} (m : Rm g true X) (h : biD .max2 ds = some r) (s : Same F H) (hx : RdHs g H F vs ds) (k : ∀ v H', Res g H F r v H' → Q v H') : DCall X (.builtin "max") vs H Q := by
  unfold biD at h
  split at h <;> first
    | (exfalso; rename_i q; exact Bi.noConfusion q)
    | (exfalso; rename_i q _; exact Bi.noConfusion q)
    | (cases h; done)
    | skip
  · cases h
    obtain ⟨v, w, rfl, h1, h2⟩ := hx.two
    cases h1.int; cases h2.int
    exact CallR.d (call_max2 m.calm) ⟨_, _, rfl, k _ _ (.same s (.int _))⟩
  · rename_i l _
    cases hs : greatD l with
    | none => rw [hs] at h; cases h
    | some d =>
      rw [hs] at h
      cases h
      obtain ⟨v, rfl, h1⟩ := hx.one
      unfold greatD at hs
      split at hs
      · rename_i x r
        cases hg : greatI x r with
        | none => rw [hg] at hs; cases hs
        | some i =>
          rw [hg] at hs
          cases hs
          obtain ⟨ns, rfl, e, f⟩ := great_ints r x i hg
          obtain ⟨a, ws, rfl, hq, rr⟩ := h1.lst s
          have e0 : ws = (x :: ns).map .int := RDs.ints (ns := x :: ns) rr
          subst e0
          refine CallR.d (cr_max m.calm) ⟨a, x :: ns, rfl, .inl (.inl hq), by simp, fun m hm hy => ?_⟩
          have : m = i := by have := hy i e; have := f m hm; omega
          subst this
          exact k _ _ (.same s (.int _))
      · cases hs
theorem min_ok {r : Vr} {vs : List V} {ds : List D} (m : Rm g true X) (h : biD .min2 ds = some r) (s : Same F H) (hx : RdHs g H F vs ds) (k : ∀ v H', Res g H F r v H' → Q v H') : DCall X (.builtin "min") vs H Q := by
  unfold biD at h
  split at h <;> first
    | (exfalso; rename_i q; exact Bi.noConfusion q)
    | (exfalso; rename_i q _; exact Bi.noConfusion q)
    | (cases h; done)
    | skip
  · cases h
    obtain ⟨v, w, rfl, h1, h2⟩ := hx.two
    cases h1.int; cases h2.int
    exact CallR.d (call_min2 m.calm) ⟨_, _, rfl, k _ _ (.same s (.int _))⟩
  · cases h
    obtain ⟨v, w, rfl, h1, h2⟩ := hx.two
    obtain ⟨rfl, o1⟩ := h1.str
    obtain ⟨rfl, o2⟩ := h2.str
    refine CallR.d (cr_min2s m.calm) ⟨_, _, rfl, k _ _ (.same s (.str _ ?_))⟩
    split
    · exact o2
    · exact o1
  · rename_i l _
    cases hs : leastD l with
    | none => rw [hs] at h; cases h
    | some d =>
      rw [hs] at h
      cases h
      obtain ⟨v, rfl, h1⟩ := hx.one
      unfold leastD at hs
      split at hs
      · rename_i x r
        cases hg : leastS x r with
        | none => rw [hg] at hs; cases hs
        | some i =>
          rw [hg] at hs
          cases hs
          obtain ⟨ns, rfl, e⟩ := least_strs r x i hg
          obtain ⟨a, ws, rfl, hq, rr⟩ := h1.lst s
          obtain ⟨e0, f⟩ := RDs.strL (ns := x :: ns) rr
          subst e0
          refine CallR.d (cr_minLs m.calm) ⟨a, x, ns, rfl, .inl (.inl hq), ?_⟩
          rw [← e]
          exact k _ _ (.same s (.str _ (f i (e ▸ foldMin_mem ns x))))
      · rename_i x r
        cases hg : leastI x r with
        | none => rw [hg] at hs; cases hs
        | some i =>
          rw [hg] at hs
          cases hs
          obtain ⟨ns, rfl, e, f⟩ := least_ints r x i hg
          obtain ⟨a, ws, rfl, hq, rr⟩ := h1.lst s
          have e0 : ws = (x :: ns).map .int := RDs.ints (ns := x :: ns) rr
          subst e0
          refine CallR.d (cr_min m.calm) ⟨a, x :: ns, rfl, .inl (.inl hq), by simp, fun m hm hy => ?_⟩
          have : m = i := by have := hy i e; have := f m hm; omega
          subst this
          exact k _ _ (.same s (.int _))
      · cases hs
theorem sum_ok {r : Vr} {vs : List V} {ds : List D} (m : Rm g true X) (h : biD .sum ds = some r) (s : Same F H) (hx : RdHs g H F vs ds) (k : ∀ v H', Res g H F r v H' → Q v H') : DCall X (.builtin "sum") vs H Q := by
  unfold biD at h
  split at h <;> first
    | (exfalso; rename_i q; exact Bi.noConfusion q)
    | (exfalso; rename_i q _; exact Bi.noConfusion q)
    | (cases h; done)
    | skip
  rename_i l _
  cases hs : Dsum l 0 with
  | none => rw [hs] at h; cases h
  | some i =>
    rw [hs] at h
    cases h
    obtain ⟨ns, rfl, e⟩ := dsum_of _ _ _ hs
    obtain ⟨v, rfl, h1⟩ := hx.one
    obtain ⟨a, ws, rfl, hq, rr⟩ := h1.lst s
    cases rr.ints
    refine CallR.d (cr_sum m.calm) ⟨a, ns, rfl, .inl (.inl hq), ?_⟩
    rw [show ns.sum = i by omega]
    exact k _ _ (.same s (.int _))
theorem list_str (hc : X.calm = true) : CallR X (.type "list") (fun xs H Q => ∃ l : List Nat, xs = [V.str ⟨l.toArray⟩] ∧ l.length ≤ sizeLine ∧ ∀ p, H p = none → Q (.ref p) (upd H p (.lst (l.map fun c => (V.str ⟨#[c]⟩ : V))))) := by
  intro pins s σ H xs us Q I r h
  obtain ⟨l, rfl, hz, q⟩ := h
  obtain ⟨u, rfl, t, rfl⟩ := vals1 r
  refine call_list_str (I.ok.hd hc) _ t (fun h' tk acc c' hk e it => ?_) (by simpa using hz)
  have hv : Vals (l.map fun c => V.str ⟨#[c]⟩) acc.toList := by
    have hs : acc.size = l.length := by rw [it.1]; simp
    have : ∀ (a : List Value) (b : List Nat), a.length = b.length → (∀ (j : Nat) (v : Value), a[j]? = some v → ∃ (c : Nat) (u : Tok), b[j]? = some c ∧ v = Value.str ⟨#[c]⟩ u) → Vals (b.map fun c => V.str ⟨#[c]⟩) a := by
      intro a
      induction a with
      | nil => intro b hb _; cases b with
        | nil => exact .nil
        | cons _ _ => cases hb
      | cons v a ih =>
        intro b hb hj
        cases b with
        | nil => cases hb
        | cons c b =>
          obtain ⟨c', u, e1, e2⟩ := hj 0 v rfl
          cases e1
          exact .cons ⟨u, e2⟩ (ih b (by simpa using hb) fun j v e => hj (j + 1) v (by simpa using e))
    refine this _ _ (by simpa using hs) fun j v e => ?_
    obtain ⟨c, u, e1, e2⟩ := it.2 j v (by simpa using e)
    exact ⟨c, u, by simpa using e1, e2⟩
  refine ⟨.ref s.heap.objs.size, _, I.laid (t' := tk) (o := .lst (l.map fun c => V.str ⟨#[c]⟩)) hk (Nat.le_refl _) ?_, rfl, q _ (I.hok.fresh (Nat.le_refl _))⟩
  exact ⟨by rw [List.length_map]; exact hz, acc.toList, c', hv, by simpa using e⟩
theorem rds_signs (ok : okL l) : RDs g F (l.map fun c => V.str ⟨#[c]⟩) (l.map fun c => .str [c]) := by
  have : ∀ l' : List Nat, (∀ c ∈ l', c ∈ l) → RDs g F (l'.map fun c => V.str ⟨#[c]⟩) (l'.map fun c => .str [c]) := by
    intro l'
    induction l' with
    | nil => intro _; exact .nil
    | cons c l' ih => intro h; exact .cons (.str [c] (okL_one ok (h c List.mem_cons_self))) (ih fun b hb => h b (List.mem_cons_of_mem _ hb))
  exact this l fun _ h => h
theorem rds_keys : ∀ {kvs : List (Key × V)} {ks : List D}, KsOf kvs ks → RDs g F (kvs.map fun kv => kV kv.1) ks
  | [], ks, h => by rw [h.1]; exact .nil
  | (.inl i, v) :: kvs, ks, h => by
    obtain ⟨rfl, h2⟩ := h
    exact .cons (.int i) (rds_keys ⟨rfl, fun l hl => h2 l (List.mem_cons_of_mem _ hl)⟩)
  | (.inr x, v) :: kvs, ks, h => by
    obtain ⟨rfl, h2⟩ := h
    exact .cons (.str x.cps.toList (h2 _ List.mem_cons_self)) (rds_keys ⟨rfl, fun l hl => h2 l (List.mem_cons_of_mem _ hl)⟩)
theorem intsD_of : ∀ (l : List D) {ns : List Int}, intsD l = some ns → l = ns.map .int
  | [], _, h => by cases h; rfl
  | .int i :: r, ns, h => by
    unfold intsD at h
    cases e : intsD r with
    | none => rw [e] at h; cases h
    | some ms => rw [e] at h; cases h; rw [intsD_of r e] <;> rfl
theorem keys_ints : ∀ {kvs : List (Key × V)} {ns : List Int}, kvs.map (fun p => keyD p.1) = ns.map .int → kvs.map (·.1) = ns.map Sum.inl
  | [], ns, h => by cases ns with
    | nil => rfl
    | cons _ _ => cases h
  | (.inl i, v) :: kvs, ns, h => by
    cases ns with
    | nil => cases h
    | cons n ns =>
      rw [List.map_cons, List.map_cons] at h
      injection h with h1 h2
      cases h1
      rw [List.map_cons, List.map_cons, keys_ints h2]
  | (.inr x, v) :: kvs, ns, h => by
    cases ns with
    | nil => cases h
    | cons n ns =>
      rw [List.map_cons, List.map_cons] at h
      injection h with h1 h2
      cases h1
theorem sorted_ok {r : Vr} {vs : List V} {ds : List D} (m : Rm g true X) (h : biD .sorted ds = some r) (s : Same F H) (hx : RdHs g H F vs ds) (k : ∀ v H', Res g H F r v H' → Q v H') : DCall X (.builtin "sorted") vs H Q := by
  unfold biD at h
  split at h <;> first
    | (exfalso; rename_i q; exact Bi.noConfusion q)
    | (exfalso; rename_i q _; exact Bi.noConfusion q)
    | (cases h; done)
    | skip
  · rename_i l _
    cases hs : intsD l with
    | none => rw [hs] at h; cases h
    | some ns =>
      rw [hs] at h
      cases h
      cases intsD_of l hs
      obtain ⟨v, rfl, h1⟩ := hx.one
      obtain ⟨a, ws, rfl, hq, rr⟩ := h1.lst s
      cases rr.ints
      refine CallR.d cr_sortedI ⟨a, ns, rfl, .inl (.inl hq), fun ns' p hp hu hn => ?_⟩
      cases sortI_eq hp hu
      exact k _ _ (.lst s hn (rds_ints _))
  · rename_i ks _ _
    cases hs : intsD ks with
    | none => rw [hs] at h; cases h
    | some ns =>
      rw [hs] at h
      simp only at h
      split at h
      · rename_i hl
        cases h
        cases intsD_of ks hs
        obtain ⟨v, rfl, h1⟩ := hx.one
        obtain ⟨a, kvs, rfl, hq, nd, hk, rr⟩ := h1.dic s
        refine CallR.d (call_sortedDI m.calm) ⟨a, kvs, ns, rfl, .of hq, keys_ints hk.1.symm, hl, fun ys p hp hu hn => ?_⟩
        cases sortI_eq hp hu
        exact k _ _ (.lst s hn (rds_ints _))
      · cases h
theorem list_ok {r : Vr} {vs : List V} {ds : List D} (m : Rm g true X) (h : biD .list ds = some r) (s : Same F H) (hx : RdHs g H F vs ds) (k : ∀ v H', Res g H F r v H' → Q v H') : DCall X (.type "list") vs H Q := by
  unfold biD at h
  split at h <;> first
    | (exfalso; rename_i q; exact Bi.noConfusion q)
    | (exfalso; rename_i q _; exact Bi.noConfusion q)
    | (cases h; done)
    | skip
  · cases h
    obtain ⟨v, rfl, h1⟩ := hx.one
    obtain ⟨a, ws, rfl, hq, rr⟩ := h1.lst s
    exact CallR.d call_list_of ⟨a, ws, rfl, .inl (.inl (.inl hq)), fun p hp => k _ _ (.lst s hp rr)⟩
  · cases h
    obtain ⟨v, rfl, h1⟩ := hx.one
    obtain ⟨a, ws, rfl, hq, rr⟩ := h1.tup s
    exact CallR.d call_list_of ⟨a, ws, rfl, .inr (by rw [m.K]; exact hq), fun p hp => k _ _ (.lst s hp rr)⟩
  · cases h
    obtain ⟨v, rfl, h1⟩ := hx.one
    obtain ⟨rfl, ok⟩ := h1.str
    exact CallR.d (list_str m.calm) ⟨_, rfl, ok.1, fun p hp => k _ _ (.lst s hp (rds_signs ok))⟩
  · cases h
    obtain ⟨v, rfl, h1⟩ := hx.one
    obtain ⟨a, kvs, rfl, hq, nd, hk, rr⟩ := h1.dic s
    exact CallR.d (call_listD m.calm) ⟨a, kvs, rfl, .of hq, fun p hp => k _ _ (.lst s hp (rds_keys hk))⟩
theorem tuple_ok {r : Vr} {vs : List V} {ds : List D} {bc : Bool} (m : Rm g bc X) (h : biD .tuple ds = some r) (s : Same F H) (hx : RdHs g H F vs ds) (k : ∀ v H', Res g H F r v H' → Q v H') : DCall X (.type "tuple") vs H Q := by
  unfold biD at h
  split at h <;> first
    | (exfalso; rename_i q; exact Bi.noConfusion q)
    | (exfalso; rename_i q _; exact Bi.noConfusion q)
    | (cases h; done)
    | skip
  · cases h
    obtain ⟨v, rfl, h1⟩ := hx.one
    obtain ⟨a, ws, rfl, hq, rr⟩ := h1.lst s
    exact CallR.d call_tuple_of ⟨a, ws, rfl, .inl ⟨.inl (.inl hq), fun p hp => k _ _ (.tup s hp rr)⟩⟩

/-! ### repr -/
section
variable {pins : List (Addr × Obj)} {σ : St} {t : Shared}
theorem reads_keys : ∀ {es : List DictEntry} {vs : List (Key × Value)} {kvs : List (Key × V)}, PySem.Pairs (mixKind X.prog X.w) es vs → KV kvs vs →
    ∃ as, ReadsAll t.heap (es.map (·.key)) (pys (kvs.map fun p => keyD p.1)) as ∧ as = [] := by
  intro es vs kvs p
  induction p generalizing kvs with
  | nil => intro r; cases r; exact ⟨[], .nil, rfl⟩
  | @cons e kv es vs h1 h2 _ ih =>
    intro r
    cases r with
    | @cons q _ qs _ hq r =>
      obtain ⟨as, z, rfl⟩ := ih r
      obtain ⟨e1, _⟩ := hq
      obtain ⟨qk, qv⟩ := q
      have h1 : keyIs kv.1 e.key = true := h1
      rcases keyIs_shape h1 with ⟨i, tk, a1, a2⟩ | ⟨x, tk, a1, a2⟩
      · have e1 : qk = _ := e1.trans a1
        subst e1
        refine ⟨[], ?_, rfl⟩
        rw [List.map_cons, a2]
        exact .cons (as := []) (.int i tk) z
      · have e1 : qk = _ := e1.trans a1
        subst e1
        refine ⟨[], ?_, rfl⟩
        rw [List.map_cons, a2]
        have : py (keyD (.inr x)) = .str x := rfl
        show ReadsAll _ _ (py (keyD (.inr x)) :: _) _
        rw [this]
        exact .cons (as := []) (.str x tk) z
theorem pairs_vals : ∀ {es : List DictEntry} {vs : List (Key × Value)} {kvs : List (Key × V)}, PySem.Pairs (mixKind X.prog X.w) es vs → KV kvs vs → Vals (kvs.map (·.2)) (es.map (·.val)) := by
  intro es vs kvs p
  induction p generalizing kvs with
  | nil => intro r; cases r; exact .nil
  | @cons e kv es vs h1 h2 _ ih =>
    intro r
    cases r with
    | @cons q _ qs _ hq r =>
      rw [List.map_cons, List.map_cons, h2]
      exact .cons hq.2 (ih r)
theorem pys_map {α : Type} (f : α → D) : ∀ l : List α, pys (l.map f) = l.map fun a => py (f a)
  | [] => rfl
  | a :: l => by rw [List.map_cons, pys, pys_map f l, List.map_cons]
theorem pys_eq : ∀ l : List D, pys l = l.map py
  | [] => rfl
  | a :: l => by rw [pys, pys_eq l, List.map_cons]
theorem pys_len (l : List D) : (pys l).length = l.length := by rw [pys_eq, List.length_map]
theorem keys_show {w : Bool} : ∀ (n : Nat) (ks : List Key), showDs w n (ks.map keyD) = true → PyData.showableAll (pys (ks.map keyD)) = true ∧ PyData.depthAll (pys (ks.map keyD)) = 0
  | _, [], _ => ⟨rfl, rfl⟩
  | n, k :: ks, f => by
    rw [List.map_cons, showDs, Bool.and_eq_true] at f
    obtain ⟨h1, h2⟩ := keys_show n ks f.2
    rw [List.map_cons, pys, PyData.showableAll, PyData.depthAll, h1, h2]
    cases k with
    | inl i =>
      have := f.1
      cases n <;> (simp [keyD, showD] at this; simp [keyD, py, PyData.showable, PyData.depth, this])
    | inr x => simp [keyD, py, PyData.showable, PyData.depth]
theorem zip_show : ∀ a b : List PyData, PyData.showableAll a = true → PyData.showableAll b = true → PyData.showableKv (a.zip b) = true
  | [], _, _, _ => by simp [PyData.showableKv]
  | _ :: _, [], _, _ => by simp [PyData.showableKv]
  | x :: a, y :: b, h1, h2 => by
    rw [PyData.showableAll, Bool.and_eq_true] at h1 h2
    rw [List.zip_cons_cons, PyData.showableKv, h1.1, h2.1, zip_show a b h1.2 h2.2] <;> rfl
theorem zip_depth : ∀ (a b : List PyData) (n : Nat), PyData.depthAll a ≤ n → PyData.depthAll b ≤ n → PyData.depthKv (a.zip b) ≤ n
  | [], _, _, _, _ => by simp [PyData.depthKv]
  | _ :: _, [], _, _, _ => by simp [PyData.depthKv]
  | x :: a, y :: b, n, h1, h2 => by
    rw [PyData.depthAll] at h1 h2
    have := zip_depth a b n (by omega) (by omega)
    rw [List.zip_cons_cons, PyData.depthKv]
    omega
mutual
theorem reads_of {w : Bool} {bc : Bool} (m : Rm g bc X) (I : Inv X pins σ H t) (s : Same F H) : ∀ (n : Nat) (d : D) (v : V) (u : Value), RD g F v d → RelV v u → showD w n d = true →
    ∃ as, Reads t.heap u (py d) as ∧ (py d).showable = true ∧ (py d).depth ≤ n ∧ (w = false → sysModules ∉ as) ∧ (w = true → (py d).hasDict = false)
  | _, .non, _, _, h, r, f => by cases h; cases r; exact ⟨[], .none, by simp [py, PyData.showable], by simp [py, PyData.depth], fun _ => by simp, fun _ => by simp [py, PyData.hasDict]⟩
  | _, .bl b, _, _, h, r, f => by cases h; cases r; exact ⟨[], .bool b, by simp [py, PyData.showable], by simp [py, PyData.depth], fun _ => by simp, fun _ => by simp [py, PyData.hasDict]⟩
  | _, .int i, _, _, h, r, f => by
    cases h
    obtain ⟨tk, rfl⟩ := r
    exact ⟨[], .int i tk, by simpa [py, PyData.showable, showD] using f, by simp [py, PyData.depth], fun _ => by simp, fun _ => by simp [py, PyData.hasDict]⟩
  | _, .str l, _, _, h, r, f => by
    cases h
    obtain ⟨tk, rfl⟩ := r
    exact ⟨[], .str _ tk, by simp [py, PyData.showable], by simp [py, PyData.depth], fun _ => by simp, fun _ => by simp [py, PyData.hasDict]⟩
  | 0, .lst _, _, _, _, _, f => by simp [showD] at f
  | 0, .tup _, _, _, _, _, f => by simp [showD] at f
  | 0, .dic _ _, _, _, _, _, f => by simp [showD] at f
  | n + 1, .lst ds, _, _, h, r, f => by
    cases h with
    | lst h rr =>
      cases r
      rw [showD, Bool.and_eq_true] at f
      obtain ⟨its, rv, ⟨o, q, ho, hc, _, hd⟩, _⟩ := I.list (SqL.of (s _ _ h))
      obtain ⟨as, z1, z2, z3, z4, z5⟩ := reads_ofs m I s n ds _ _ rr rv f.2
      refine ⟨_, .list ho hc hd z1, by simpa [py, PyData.showable] using z2, by simp only [py, PyData.depth]; omega, fun hw => ?_, fun hw => by simpa [py, PyData.hasDict] using z5 hw⟩
      rw [hw] at f
      exact absurd f.1 (by decide)
  | n + 1, .tup ds, _, _, h, r, f => by
    cases h with
    | tup h rr =>
      cases r
      rw [showD] at f
      obtain ⟨its, rv, ⟨o, ho, hc, q, hd⟩, _⟩ := I.tuple (by rw [m.K]; exact Same.seqT s h)
      obtain ⟨as, z1, z2, z3, z4, z5⟩ := reads_ofs m I s n ds _ _ rr rv f
      exact ⟨_, .tuple ho hc hd z1, by simpa [py, PyData.showable] using z2, by simp only [py, PyData.depth]; omega, z4, fun hw => by simpa [py, PyData.hasDict] using z5 hw⟩
  | n + 1, .dic ks vs, _, _, h, r, f => by
    cases h with
    | dic h nd ek rr =>
      cases r
      rw [showD, Bool.and_eq_true, Bool.and_eq_true] at f
      obtain ⟨hz, hm, ws, kv, o, es, ep, ho, ex, hd, hk, hp, hn⟩ := I.hok _ _ (s _ _ h)
      obtain ⟨rfl, _⟩ := ek
      obtain ⟨as1, y1, rfl⟩ := reads_keys (X := X) (t := t) hp kv
      have rv := pairs_vals hp kv
      obtain ⟨as, z1, z2, z3, z4, z5⟩ := reads_ofs m I s n vs _ _ rr rv f.2.2
      have hlen := rr.length
      rw [List.length_map] at hlen
      have ek : ∀ l : List (Key × V), l.map (fun p => keyD p.1) = (l.map (·.1)).map keyD := fun l => by rw [List.map_map]; rfl
      obtain ⟨y2, y3⟩ := keys_show n _ (by rw [← ek]; exact f.2.1)
      rw [← ek] at y2 y3
      have e1 := List.map_fst_zip (l₁ := pys (List.map (fun p : Key × V => keyD p.1) _)) (l₂ := pys vs) (by rw [pys_len, pys_len, List.length_map, hlen]; exact Nat.le_refl _)
      have e2 := List.map_snd_zip (l₁ := pys (List.map (fun p : Key × V => keyD p.1) _)) (l₂ := pys vs) (by rw [pys_len, pys_len, List.length_map, hlen]; exact Nat.le_refl _)
      refine ⟨_, .dict (kvs := (pys _).zip (pys vs)) ho ex.1 hd (by rw [e1]; exact y1) (by rw [e2]; exact z1), ?_, ?_, fun hw => ?_, fun hw => ?_⟩
      · simpa [py, PyData.showable] using zip_show _ _ y2 z2
      · simp only [py, PyData.depth]
        have := zip_depth _ _ n (by rw [y3]; omega) z3
        omega
      · rw [List.singleton_append, List.mem_cons]
        intro q
        rcases q with q | q
        · rw [← q] at hm
          exact absurd hm (by decide)
        · exact z4 hw q
      · rw [hw] at f
        exact absurd f.1 (by decide)
  | 0, .fn _, _, _, _, _, f => by simp [showD] at f
  | _ + 1, .fn _, _, _, _, _, f => by simp [showD] at f
  | 0, .scr _, _, _, _, _, f => by simp [showD] at f
  | _ + 1, .scr _, _, _, _, _, f => by simp [showD] at f
  | 0, .exc _ _, _, _, _, _, f => by simp [showD] at f
  | _ + 1, .exc _ _, _, _, _, _, f => by simp [showD] at f
theorem reads_ofs {w : Bool} {bc : Bool} (m : Rm g bc X) (I : Inv X pins σ H t) (s : Same F H) : ∀ (n : Nat) (ds : List D) (vs : List V) (us : List Value), RDs g F vs ds → Vals vs us → showDs w n ds = true →
    ∃ as, ReadsAll t.heap us (pys ds) as ∧ PyData.showableAll (pys ds) = true ∧ PyData.depthAll (pys ds) ≤ n ∧ (w = false → sysModules ∉ as) ∧ (w = true → PyData.hasDictAll (pys ds) = false)
  | _, [], _, _, h, r, _ => by cases h; cases r; exact ⟨[], .nil, by simp [pys, PyData.showableAll], by simp [pys, PyData.depthAll], fun _ => by simp, fun _ => by simp [pys, PyData.hasDictAll]⟩
  | n, d :: ds, _, _, h, r, f => by
    cases h with
    | cons h hs =>
      cases r with
      | cons r rs =>
        rw [showDs, Bool.and_eq_true] at f
        obtain ⟨as, z1, z2, z3, z4, z5⟩ := reads_of m I s n d _ _ h r f.1
        obtain ⟨bs, y1, y2, y3, y4, y5⟩ := reads_ofs m I s n ds _ _ hs rs f.2
        refine ⟨as ++ bs, .cons z1 y1, by simp [pys, PyData.showableAll, z2, y2], by simp only [pys, PyData.depthAll]; omega, fun hw => ?_, fun hw => by simp [pys, PyData.hasDictAll, z5 hw, y5 hw]⟩
        rw [List.mem_append]
        exact fun q => q.elim (z4 hw) (y4 hw)
end
end
end
end Ev

set_option Elab.async false
set_option linter.all false
set_option maxRecDepth 100000
set_option maxHeartbeats 1000000
/-! Ev3e: repr, isinstance, dict, methods by values. Own work. -/
namespace Ev
open PySem PySem.Spec PyProof.Rows L2
section
variable {g : Gi} {X : Cx} {H F : Hp} {x y v : V} {d e : D} {Q : VK}

/-! ### repr -/
/-- signs within Unicode -/
def StOk (x : Str) : Prop := ∀ c ∈ x.cps.toList, c < 0x110000
theorem StOk.of (x : String) : StOk (Str.ofString x) := by
  intro c hc
  rw [Str.ofString_eq_toList] at hc
  obtain ⟨a, _, rfl⟩ := List.mem_map.mp (by simpa using hc)
  have := a.valid
  rcases this with h | h
  · exact Nat.lt_trans h (by decide)
  · exact h.2
theorem StOk.app {x y : Str} (a : StOk x) (b : StOk y) : StOk (x ++ y) := by
  intro c hc
  have hc : c ∈ (x.cps ++ y.cps).toList := hc
  rw [Array.toList_append, List.mem_append] at hc
  exact hc.elim (a c) (b c)
theorem StOk.join {x : Str} (a : StOk x) : ∀ l : List Str, (∀ y ∈ l, StOk y) → StOk (Str.join x l)
  | [], _ => fun c hc => by simp [Str.join, Str.empty] at hc
  | [y], h => h y (by simp)
  | y :: z :: r, h => by
    show StOk (y ++ x ++ Str.join x (z :: r))
    exact ((h y (by simp)).app a).app (StOk.join a (z :: r) fun u hu => h u (List.mem_cons_of_mem _ hu))
theorem StOk.from : ∀ (l : List Str) (k : Nat) (acc : Str), StOk acc → (∀ y ∈ l, StOk y) → StOk (textFrom k acc l)
  | [], _, _, a, _ => a
  | y :: r, k, acc, a, h => by
    unfold textFrom
    refine StOk.from r _ _ ((a.app ?_).app (h y (by simp))) fun u hu => h u (List.mem_cons_of_mem _ hu)
    exact StOk.of _
theorem rch_ok {q c : Nat} (hq : q < 0x110000) (hc : c < 0x110000) : ∀ b ∈ PySem.Builtin.Str.reprChar q c, b < 0x110000 := by
  have dg : ∀ w : Nat, ∀ b ∈ List.replicate w 48 ++ (Nat.toDigits 16 c).map Char.toNat, b < 0x110000 := fun w b hb => by
    rcases List.mem_append.mp hb with hb | hb
    · rw [List.eq_of_mem_replicate hb]; decide
    · obtain ⟨a, _, rfl⟩ := List.mem_map.mp hb
      rcases a.valid with h | h
      · exact Nat.lt_trans h (by decide)
      · exact h.2
  have pre : ∀ (l m : List Nat), (∀ b ∈ l, b < 0x110000) → (∀ b ∈ m, b < 0x110000) → ∀ b ∈ l ++ m, b < 0x110000 := fun l m h1 h2 b hb => (List.mem_append.mp hb).elim (h1 b) (h2 b)
  intro b hb
  unfold PySem.Builtin.Str.reprChar at hb
  simp only at hb
  split at hb
  · rcases List.mem_cons.mp hb with rfl | hb
    · decide
    · rw [List.mem_singleton.mp hb]; exact hc
  split at hb
  · simp at hb; omega
  split at hb
  · simp at hb; omega
  split at hb
  · simp at hb; omega
  split at hb
  · rw [List.mem_singleton.mp hb]; exact hc
  split at hb
  · exact pre _ _ (by simp) (dg _) b hb
  split at hb
  · exact pre _ _ (by simp) (dg _) b hb
  · exact pre _ _ (by simp) (dg _) b hb
theorem rtx_ok {x : Str} (h : StOk x) : StOk (PySem.reprText x) := by
  have hq : PySem.reprQuote x < 0x110000 := by
    unfold PySem.reprQuote
    split <;> decide
  have : ∀ (l : List Nat) (acc : Array Nat), (∀ c ∈ l, c < 0x110000) → (∀ c ∈ acc.toList, c < 0x110000) → ∀ c ∈ (l.foldl (fun out c => out ++ (PySem.Builtin.Str.reprChar (PySem.reprQuote x) c).toArray) acc).toList, c < 0x110000 := by
    intro l
    induction l with
    | nil => intro acc _ h; exact h
    | cons a l ih =>
      intro acc h1 h2
      rw [List.foldl_cons]
      refine ih _ (fun c hc => h1 c (List.mem_cons_of_mem _ hc)) fun c hc => ?_
      rw [Array.toList_append, List.mem_append] at hc
      exact hc.elim (h2 c) fun hc => rch_ok hq (h1 a List.mem_cons_self) c (by simpa using hc)
  intro c hc
  unfold PySem.reprText at hc
  rw [Array.toList_push, List.mem_append] at hc
  rcases hc with hc | hc
  · rw [← Array.foldl_toList] at hc
    exact this _ _ h (fun c hc => by simp at hc; rw [hc]; exact hq) c hc
  · rw [List.mem_singleton.mp hc]; exact hq
theorem zip_sh : ∀ a b : List PyData, (∀ x ∈ PyData.shownAll a, StOk x) → (∀ x ∈ PyData.shownAll b, StOk x) → ∀ x ∈ PyData.shownKv (a.zip b), StOk x
  | [], _, _, _ => by simp [PyData.shownKv]
  | _ :: _, [], _, _ => by simp [PyData.shownKv]
  | p :: a, q :: b, h1, h2 => by
    rw [PyData.shownAll] at h1 h2
    rw [List.zip_cons_cons, PyData.shownKv]
    intro x hx
    rcases List.mem_cons.mp hx with rfl | hx
    · exact ((h1 _ List.mem_cons_self).app (.of _)).app (h2 _ List.mem_cons_self)
    · exact zip_sh a b (fun x hx => h1 x (List.mem_cons_of_mem _ hx)) (fun x hx => h2 x (List.mem_cons_of_mem _ hx)) x hx
mutual
def strsOk : D → Prop
  | .str l => ∀ c ∈ l, c < 0x110000
  | .tup ds => strsOks ds
  | .lst ds => strsOks ds
  | .dic ks vs => strsOks ks ∧ strsOks vs
  | _ => True
def strsOks : List D → Prop
  | [] => True
  | d :: ds => strsOk d ∧ strsOks ds
end
mutual
theorem shown_ok : ∀ d : D, strsOk d → StOk (py d).shown
  | .non, _ => by simp only [py, PyData.shown]; exact .of _
  | .bl b, _ => by simp only [py, PyData.shown]; split <;> exact .of _
  | .int i, _ => by simp only [py, PyData.shown]; exact .of _
  | .str l, h => by
    simp only [py, PyData.shown]
    refine rtx_ok fun c hc => ?_
    rw [strsOk] at h
    exact h c (by simpa using hc)
  | .tup ds, h => by
    rw [strsOk] at h
    simp only [py, PyData.shown, tupleText]
    refine ((StOk.of _).app (StOk.join (.of _) _ (shown_oks ds h))).app (.of _)
  | .lst ds, h => by
    rw [strsOk] at h
    simp only [py, PyData.shown, listText]
    exact (StOk.from _ _ _ (.of _) (shown_oks ds h)).app (.of _)
  | .dic ks vs, h => by
    rw [strsOk] at h
    simp only [py, PyData.shown, dictText]
    exact ((StOk.of _).app (StOk.join (.of _) _ (zip_sh _ _ (shown_oks ks h.1) (shown_oks vs h.2)))).app (.of _)
  | .fn _, _ => by simp only [py, PyData.shown]; exact .of _
  | .scr _, _ => by simp only [py, PyData.shown]; exact .of _
  | .exc _ _, _ => by simp only [py, PyData.shown]; exact .of _
theorem shown_oks : ∀ ds : List D, strsOks ds → ∀ x ∈ PyData.shownAll (pys ds), StOk x
  | [], _ => by simp [pys, PyData.shownAll]
  | d :: ds, h => by
    rw [strsOks] at h
    rw [pys, PyData.shownAll]
    intro x hx
    rcases List.mem_cons.mp hx with rfl | hx
    · exact shown_ok d h.1
    · exact shown_oks ds h.2 x hx
end
mutual
theorem RD.strs : ∀ {v : V} {d : D}, showD w n d = true → RD g F v d → strsOk d
  | _, _, _, .non => by simp [strsOk]
  | _, _, _, .bl b => by simp [strsOk]
  | _, _, _, .int i => by simp [strsOk]
  | _, _, _, .str l h => by rw [strsOk]; exact h.2
  | _, _, f, .tup h r => by
    rw [strsOk]
    cases n with
    | zero => simp [showD] at f
    | succ n => exact RDs.strs (w := w) (n := n) (by simpa [showD] using f) r
  | _, _, f, .lst h r => by
    rw [strsOk]
    cases n with
    | zero => simp [showD] at f
    | succ n => exact RDs.strs (w := w) (n := n) (by rw [showD, Bool.and_eq_true] at f; exact f.2) r
  | _, _, _, .scr h => by simp [strsOk]
  | _, _, f, .dic h nd e r => by
    rw [strsOk]
    cases n with
    | zero => simp [showD] at f
    | succ n =>
      rw [showD, Bool.and_eq_true, Bool.and_eq_true] at f
      refine ⟨?_, RDs.strs (w := w) (n := n) f.2.2 r⟩
      have : ∀ ks : List D, (∀ l, D.str l ∈ ks → okL l) → (∀ k ∈ ks, ∃ q, k = keyD q) → strsOks ks := by
        intro ks
        induction ks with
        | nil => intro _ _; simp [strsOks]
        | cons k ks ih =>
          intro h1 h2
          rw [strsOks]
          refine ⟨?_, ih (fun l hl => h1 l (List.mem_cons_of_mem _ hl)) fun k hk => h2 k (List.mem_cons_of_mem _ hk)⟩
          obtain ⟨q, rfl⟩ := h2 k List.mem_cons_self
          cases q with
          | inl i => simp [keyD, strsOk]
          | inr x =>
            simp only [keyD, strsOk]
            exact (h1 _ (by simp [keyD])).2
      refine this _ e.2 fun k hk => ?_
      rw [e.1] at hk
      obtain ⟨p, _, rfl⟩ := List.mem_map.mp hk
      exact ⟨_, rfl⟩
  | _, _, _, .fn h => by simp [strsOk]
theorem RDs.strs : ∀ {vs : List V} {ds : List D}, showDs w n ds = true → RDs g F vs ds → strsOks ds
  | _, _, _, .nil => by simp [strsOks]
  | _, _, f, .cons h r => by
    rw [showDs, Bool.and_eq_true] at f
    rw [strsOks]
    exact ⟨RD.strs f.1 h, RDs.strs f.2 r⟩
end
/-- .. in a frozen heap -/
theorem RdH.froz (s : Same F H) (h : RdH g H F v d) : ∃ F', Same F' H ∧ RD g F' v d := by
  rcases h with h | ⟨a, rfl, c⟩
  · exact ⟨F, s, h⟩
  · cases q : F a with
    | none =>
      obtain ⟨o, ho, sm, r⟩ := c.frozen q
      refine ⟨_, fun b u z => ?_, r⟩
      by_cases hb : b = a
      · subst hb; rw [upd_same] at z; cases z; exact ho
      · rw [upd_ne hb] at z; exact s b u z
    | some u =>
      have hu := s a u q
      rcases c with ⟨xs, ds, rfl, h, r⟩ | ⟨kvs, ks, vs, rfl, h, nd, k, r⟩
      · rw [hu] at h; cases h
        exact ⟨F, s, .lst q r⟩
      · rw [hu] at h; cases h
        exact ⟨F, s, .dic q nd k r⟩
theorem call_repr {h₀ : Heap} {A : Around} {P : Program} {w : World} {E : Value → Shared → Prop} {t : Shared} {u : Value} {pd : PyData} {as : List Addr} {R : Value → Shared → Prop} (z : Reads h₀ u pd as) (hs : pd.showable = true) (hsm : pd.hasDict = true → sysModules ∉ as)
    (hg : A.guards = some []) (hu : A.units + (pd.depth + 1) < cLine) (hk0 : h₀ = t.heap) (hz : pd.shown.length ≤ sizeLine)
    (hQ : ∀ h' (tk : Tok) (n : Nat), (∀ b o, t.heap.get? b = some o → h'.get? b = some o) → R (.str pd.shown tk) { t with heap := h', toks := n }) : wpAny (model P w) A (call (.builtin "repr") [u]) R E t := by
  have ht : t = { t with heap := t.heap, toks := t.toks } := rfl
  cases z with
  | none => exact PySem.P.repr_of_none (hQ _ _ _ fun _ _ q => q)
  | bool b => exact PySem.P.repr_of_bool (hQ _ _ _ fun _ _ q => q)
  | int i tk => exact PySem.P.repr_of_int (by simpa [PyData.showable] using hs) (hQ _ _ _ fun _ _ q => q)
  | str x tk => exact PySem.P.repr_of_str (hQ _ _ _ fun _ _ q => q) hz
  | list a b c e => exact repr_of_reads' (.list a b c e) hs hsm hg hu (fun b o q => by rw [← hk0]; exact q) (fun h' u tk hk => hQ h' u tk hk) hz
  | tuple a b c e => exact repr_of_reads' (.tuple a b c e) hs hsm hg hu (fun b o q => by rw [← hk0]; exact q) (fun h' u tk hk => hQ h' u tk hk) hz
  | dict a b c e f => exact repr_of_reads' (.dict a b c e f) hs hsm hg hu (fun b o q => by rw [← hk0]; exact q) (fun h' u tk hk => hQ h' u tk hk) hz
theorem repr_ok {r : Vr} {vs : List V} {ds : List D} {bc : Bool} (m : Rm g bc X) (h : biD .repr ds = some r) (s : Same F H) (hx : RdHs g H F vs ds) (k : ∀ v H', Res g H F r v H' → Q v H') : DCall X (.builtin "repr") vs H Q := by
  unfold biD at h
  split at h <;> first
    | (exfalso; rename_i q; exact Bi.noConfusion q)
    | (exfalso; rename_i q _; exact Bi.noConfusion q)
    | (cases h; done)
    | skip
  rename_i d _
  split at h
  case isFalse => cases h
  rename_i hc
  rw [Bool.and_eq_true, decide_eq_true_eq] at hc
  cases h
  obtain ⟨v, rfl, h1⟩ := hx.one
  obtain ⟨F', s', rd⟩ := h1.froz s
  obtain ⟨w, hw⟩ : ∃ w, showD w DEP d = true := by
    rcases Bool.or_eq_true _ _ |>.mp hc.1 with z | z
    · exact ⟨_, z⟩
    · exact ⟨_, z⟩
  have hst : ∀ x : Str, (⟨x.cps.toList.toArray⟩ : Str) = x := fun x => by simp
  have hz : (PyData.shown (py d)).length ≤ sizeLine := by
    have := hc.2
    unfold shownD at this
    rw [← LIM_eq]
    rw [Array.length_toList] at this
    exact this
  have ok : okL (shownD d) := ⟨by
    unfold shownD
    rw [Array.length_toList]
    exact hz, shown_ok d (rd.strs hw)⟩
  intro pins t σ us I rv
  obtain ⟨u, rfl, ru⟩ := rv.one
  obtain ⟨as, z1, z2, z3, z4, z5⟩ := reads_of m I s' DEP d v u rd ru hw
  have fin : ∀ h' (tk : Tok) (n : Nat), (∀ b o, t.heap.get? b = some o → h'.get? b = some o) → EP X pins σ Q (.str (py d).shown tk) { t with heap := h', toks := n } := fun h' tk n hk =>
    ⟨.str (py d).shown, H, I.kept hk, ⟨_, rfl⟩, k _ _ (by
      have := Res.same s (.str (g := g) (F := F) (shownD d) ok)
      unfold shownD at this
      rw [hst] at this
      exact this)⟩
  refine call_repr z1 z2 ?_ m.guards ?_ rfl hz fun h' tk n hk => fin h' tk n hk
  · cases w with
    | true => rw [z5 rfl]; exact fun q => nomatch q
    | false => exact fun _ => z4 rfl
  · have := m.units
    have : (py d).depth ≤ 60 := z3
    omega

/-! ### dict(pairs) -/
theorem pairs_ok (s : Same F H) : ∀ {l : List D} {ws : List V} {kvs : List (Key × V)} {ks vs ks' vs' : List D}, RDs g F ws l → pairsD l ks vs = some (ks', vs') → (kvs.map (·.1)).Nodup → KsOf kvs ks → RDs g F (kvs.map (·.2)) vs →
    ∃ (ps : List Addr) (more : List (Key × V)), ws = ps.map V.ref ∧ Paired (fun p kv => SqT g.K H p [kV kv.1, kv.2]) ps more ∧ ((mergeK kvs more).map (·.1)).Nodup ∧ KsOf (mergeK kvs more) ks' ∧ RDs g F ((mergeK kvs more).map (·.2)) vs'
  | [], ws, kvs, ks, vs, ks', vs', r, h, n, e, rv => by
    cases r
    cases h
    exact ⟨[], [], rfl, .nil, n, e, rv⟩
  | d :: l, ws, kvs, ks, vs, ks', vs', r, h, n, e, rv => by
    cases r with
    | cons hd r =>
      unfold pairsD at h
      split at h
      · rename_i q; cases q
      · rename_i q
        cases q
        split at h
        case isFalse => cases h
        rename_i hk
        cases hd with
        | tup hq rt =>
          cases rt with
          | cons r1 rt => cases rt with
            | cons r2 rt =>
              cases rt
              obtain ⟨κ, e1, e2, e3⟩ := key_of r1 hk
              have z := put_ok e2 r2 n e.1 rv
              obtain ⟨ps, more, f1, f2, f3, f4, f5⟩ := pairs_ok s r h (putK_nodup n) ⟨z.1, fun l hl => by
                rcases putD_mem hl with hl | hl
                · exact e3 l hl.symm
                · exact e.2 l hl⟩ z.2
              refine ⟨_ :: ps, (κ, _) :: more, by rw [List.map_cons, f1], .cons ?_ f2, f3, f4, f5⟩
              rw [← e1]
              exact Same.seqT s hq
      · cases h
theorem dict_ok {r : Vr} {vs : List V} {ds : List D} (m : Rm g true X) (h : biD .dict ds = some r) (s : Same F H) (hx : RdHs g H F vs ds) (k : ∀ v H', Res g H F r v H' → Q v H') : DCall X (.type "dict") vs H Q := by
  unfold biD at h
  split at h <;> first
    | (exfalso; rename_i q; exact Bi.noConfusion q)
    | (exfalso; rename_i q _; exact Bi.noConfusion q)
    | (cases h; done)
    | skip
  rename_i l _
  cases hp : pairsD l [] [] with
  | none => rw [hp] at h; cases h
  | some q =>
    obtain ⟨ks, ws⟩ := q
    rw [hp] at h
    simp only at h
    split at h
    case isFalse => cases h
    cases h
    obtain ⟨v, rfl, h1⟩ := hx.one
    obtain ⟨a, xs, rfl, hq, rr⟩ := h1.lst s
    obtain ⟨ps, more, rfl, f2, f3, f4, f5⟩ := pairs_ok (kvs := []) s rr hp .nil ⟨rfl, fun l hl => by cases hl⟩ .nil
    refine CallR.d (call_dictP m.calm) ⟨a, ps, more, rfl, .inl (.inl hq), by rw [m.K]; exact f2, fun p hp => k _ _ (.dic s hp f3 f4 f5)⟩

/-! ### isinstance -/
def tyN : D → Option String
  | .non => some "NoneType"
  | .bl _ => some "bool"
  | .int _ => some "int"
  | .str _ => some "str"
  | .tup _ => some "tuple"
  | .lst _ => some "list"
  | .scr _ => some "list"
  | .dic _ _ => some "dict"
  | _ => none
theorem ty_of {n : String} {bc : Bool} (m : Rm g bc X) (h : tyN d = some n) (s : Same F H) (hx : RdH g H F x d) : TyX X.K H x (.type n) := by
  cases d <;> simp only [tyN] at h <;> cases h
  · cases hx.non; exact .base .non
  · cases hx.bl; exact .base (.bl _)
  · cases hx.int; exact .base (.int _)
  · obtain ⟨rfl, _⟩ := hx.str; exact .base (.str _)
  · obtain ⟨a, ws, rfl, hq, _⟩ := hx.tup s
    rcases hq with (hq | ⟨o, hq⟩) | ⟨o, its, n, h1, h2, _⟩
    · exact .base (.tup hq)
    · exact .fTuple hq
    · exact .kTuple (by rw [m.K]; exact h1) h2
  · obtain ⟨a, ws, rfl, hq, _⟩ := hx.lst s
    exact .base (.lst hq)
  · obtain ⟨a, kvs, rfl, hq, _⟩ := hx.dic s
    exact .base (.dK hq)
  · obtain ⟨a, rfl, hq⟩ := hx.scr s
    rcases hq with (hq | ⟨o, hq⟩) | ⟨o, its, n, h1, h2, _⟩
    · exact .base (.lst hq)
    · exact .base (.frz hq)
    · exact .kList (by rw [m.K]; exact h1) h2
/-- isinstance(x, n) -/
theorem isi_ok {n c : String} {b : Bool} {bc : Bool} (m : Rm g bc X) (h : tyN d = some n) (hb : kitB n c = some b) (s : Same F H) (hx : RdH g H F x d) (k : ∀ v H', Res g H F (.v (.bl b)) v H' → Q v H') : DCall X (.builtin "isinstance") [x, .ty c] H Q :=
  CallR.d call_isi ⟨x, .ty c, .type n, .type c, b, rfl, .ty c, ty_of m h s hx, kit_ty hb, k _ _ (.same s (.bl b))⟩
def isiB : Bi → Bool
  | .isint => true | .isbool => true | .isstr => true | .islist => true | .istuple => true | .isseq => true | .isbox => true | .gcd => true
  | _ => false
def isiN : Bi → Option String
  | .isint => some "int" | .isbool => some "bool" | .isstr => some "str" | .islist => some "list" | .istuple => some "tuple"
  | _ => none
theorem isi_all {f : Bi} {c : String} {r : Vr} (hf : isiN f = some c) {bc : Bool} (m : Rm g bc X) (h : biD f [d] = some r) (s : Same F H) (hx : RdH g H F x d) (k : ∀ v H', Res g H F r v H' → Q v H') : DCall X (.builtin "isinstance") [x, .ty c] H Q := by
  cases f <;> simp only [isiN] at hf <;> cases hf <;> cases d <;> simp only [biD] at h <;> cases h <;> exact isi_ok m rfl (by decide +kernel) s hx k
end
end Ev

set_option Elab.async false
set_option linter.all false
set_option maxRecDepth 100000
set_option maxHeartbeats 1000000
/-! Ev3f: methods by values. Own work. -/
namespace Ev
open PySem PySem.Spec PyProof.Rows L2
section
variable {g : Gi} {X : Cx} {H F : Hp} {x y v : V} {d e : D} {Q : VK}
theorem drop_tw {α : Type} (p : α → Bool) : ∀ l : List α, l.drop (l.takeWhile p).length = l.dropWhile p
  | [] => rfl
  | a :: l => by
    rw [List.takeWhile_cons, List.dropWhile_cons]
    cases p a with
    | true => simp only [if_true]; rw [List.length_cons, List.drop_succ_cons]; exact drop_tw p l
    | false => rfl
theorem take_tw {α : Type} (p : α → Bool) (l : List α) : l.take (l.length - (l.reverse.takeWhile p).length) = (l.reverse.dropWhile p).reverse := by
  rw [← drop_tw, List.reverse_drop, List.reverse_reverse, List.length_reverse]
theorem strip_eq (l cs : List Nat) : Txt.stripChars ⟨l.toArray⟩ ⟨cs.toArray⟩ = ⟨(stripD cs l).toArray⟩ := by
  have hc : (⟨cs.toArray⟩ : Str).cps.contains = fun c => cs.contains c := by
    funext c
    show cs.toArray.contains c = _
    simp
  unfold Txt.stripChars
  rw [stripBy_eq, hc]
  have h := PySem.StrLaws.strSub_toList ⟨l.toArray⟩ (stripLo (fun c => cs.contains c) true ⟨l.toArray⟩) (stripHi (fun c => cs.contains c) true ⟨l.toArray⟩ (stripLo (fun c => cs.contains c) true ⟨l.toArray⟩))
  have e : ((l.drop (stripLo (fun c => cs.contains c) true ⟨l.toArray⟩)).take (stripHi (fun c => cs.contains c) true ⟨l.toArray⟩ (stripLo (fun c => cs.contains c) true ⟨l.toArray⟩) - stripLo (fun c => cs.contains c) true ⟨l.toArray⟩)) = stripD cs l := by
    unfold stripHi stripLo stripD
    simp only [if_true]
    rw [str_len]
    have e1 : l.drop (l.takeWhile fun c => cs.contains c).length = l.dropWhile fun c => cs.contains c := drop_tw _ l
    have e2 : (l.takeWhile fun c => cs.contains c).length + (l.dropWhile fun c => cs.contains c).length = l.length := by
      rw [← List.length_append, List.takeWhile_append_dropWhile]
    rw [e1, ← take_tw]
    congr 1
    omega
  have h : _ = stripD cs l := h.trans e
  have : ∀ x : Str, x.cps.toList = stripD cs l → x = ⟨(stripD cs l).toArray⟩ := fun x hx => by
    obtain ⟨a⟩ := x
    rw [← hx]
  exact this _ h
theorem join_cps (sep : List Nat) : ∀ ls : List (List Nat), Str.join ⟨sep.toArray⟩ (ls.map fun l => ⟨l.toArray⟩) = ⟨(joinL sep ls).toArray⟩
  | [] => rfl
  | [x] => rfl
  | x :: y :: r => by
    show (⟨x.toArray⟩ : Str) ++ (⟨sep.toArray⟩ : Str) ++ Str.join ⟨sep.toArray⟩ ((y :: r).map fun l => ⟨l.toArray⟩) = _
    rw [join_cps sep (y :: r), str_app, str_app]
    rfl
theorem join_eq (sep : List Nat) (ls : List (List Nat)) : Txt.join ⟨sep.toArray⟩ (ls.map fun l => ⟨l.toArray⟩) = ⟨(joinL sep ls).toArray⟩ := by
  rw [← join_cps]
  exact PySem.StrLaws.glued_eq_join _ _
theorem strs_of : ∀ {ds : List D} {vs : List V} {ls : List (List Nat)}, RDs g F vs ds → strsOf ds = some ls → vs = (ls.map fun l => (⟨l.toArray⟩ : Str)).map V.str ∧ ∀ l ∈ ls, okL l
  | [], _, _, .nil, h => by cases h; exact ⟨rfl, fun _ h => nomatch h⟩
  | d :: ds, _, ls, .cons h r, e => by
    unfold strsOf at e
    split at e
    · rename_i q; cases q
    · rename_i l rr q
      cases q
      cases hs : strsOf ds with
      | none => rw [hs] at e; cases e
      | some ms =>
        rw [hs] at e
        cases e
        obtain ⟨rfl, h2⟩ := strs_of r hs
        cases h with
        | str _ o => exact ⟨rfl, fun l hl => (List.mem_cons.mp hl).elim (fun q => by rw [q]; exact o) (h2 l)⟩
    · cases e
theorem joinL_len (sep : List Nat) : ∀ ls : List (List Nat), (joinL sep ls).length ≤ (ls.map List.length).sum + ls.length * sep.length
  | [] => by simp [joinL]
  | [x] => by simp [joinL]
  | x :: y :: r => by
    have := joinL_len sep (y :: r)
    simp only [joinL, List.length_append, List.map_cons, List.sum_cons, List.length_cons] at this ⊢
    rw [Nat.succ_mul]
    omega
theorem joinL_mem (sep : List Nat) : ∀ (ls : List (List Nat)) (c : Nat), c ∈ joinL sep ls → c ∈ sep ∨ ∃ l ∈ ls, c ∈ l
  | [], c, h => by simp [joinL] at h
  | [x], c, h => .inr ⟨x, by simp, h⟩
  | x :: y :: r, c, h => by
    simp only [joinL, List.mem_append] at h
    rcases h with (h | h) | h
    · exact .inr ⟨x, by simp, h⟩
    · exact .inl h
    · rcases joinL_mem sep (y :: r) c h with h | ⟨l, hl, h⟩
      · exact .inl h
      · exact .inr ⟨l, List.mem_cons_of_mem _ hl, h⟩
/-- the method's type and name -/
def mtT : Mt → String
  | .strip => "str" | .join => "str" | .bits => "int" | .append => "list" | .index => "str" | .lindex => "list"
theorem strip_ok {r : Vr} {vs : List V} {ds : List D} {bc : Bool} (m : Rm g bc X) (h : mtD .strip d ds = some r) (s : Same F H) (hx : RdH g H F x d) (ha : RdHs g H F vs ds) (k : ∀ v H', Res g H F r v H' → Q v H') : DMt X "str.strip" x vs H Q ∧ ∃ a, x = .str a := by
  unfold mtD at h
  split at h <;> first
    | (exfalso; rename_i q _ _; exact Mt.noConfusion q)
    | (exfalso; rename_i q _; exact Mt.noConfusion q)
    | (exfalso; rename_i q; exact Mt.noConfusion q)
    | (cases h; done)
    | skip
  cases h
  obtain ⟨rfl, o1⟩ := hx.str
  obtain ⟨w, rfl, h2⟩ := ha.one
  obtain ⟨rfl, o2⟩ := h2.str
  refine ⟨MtR.d mt_stripChars ⟨_, _, rfl, rfl, by rw [str_len]; exact o1.1, ?_⟩, _, rfl⟩
  rw [strip_eq]
  refine k _ _ (.same s (.str _ (okL_sub o1 ?_ fun c hc => ?_)))
  · unfold stripD
    rw [List.length_reverse]
    refine Nat.le_trans (List.dropWhile_sublist _).length_le ?_
    rw [List.length_reverse]
    exact (List.dropWhile_sublist _).length_le
  · unfold stripD at hc
    rw [List.mem_reverse] at hc
    have := (List.dropWhile_sublist _).subset hc
    rw [List.mem_reverse] at this
    exact (List.dropWhile_sublist _).subset this
theorem join_ok {r : Vr} {vs : List V} {ds : List D} {bc : Bool} (m : Rm g bc X) (h : mtD .join d ds = some r) (s : Same F H) (hx : RdH g H F x d) (ha : RdHs g H F vs ds) (k : ∀ v H', Res g H F r v H' → Q v H') : DMt X "str.join" x vs H Q ∧ ∃ a, x = .str a := by
  unfold mtD at h
  split at h <;> first
    | (exfalso; rename_i q _ _; exact Mt.noConfusion q)
    | (exfalso; rename_i q _; exact Mt.noConfusion q)
    | (exfalso; rename_i q; exact Mt.noConfusion q)
    | (cases h; done)
    | skip
  rename_i sep ys _
  cases hs : strsOf ys with
  | none => rw [hs] at h; cases h
  | some ls =>
    rw [hs] at h
    simp only at h
    split at h
    case isFalse => cases h
    rename_i hz
    cases h
    obtain ⟨rfl, o1⟩ := hx.str
    obtain ⟨w, rfl, h2⟩ := ha.one
    obtain ⟨a, ws, rfl, hq, rr⟩ := h2.lst s
    obtain ⟨rfl, h3⟩ := strs_of rr hs
    refine ⟨MtR.d mt_join ⟨_, a, _, rfl, rfl, .inl (.inl (.inl hq)), ?_, ?_⟩, _, rfl⟩
    · rw [List.map_map, List.length_map, str_len]
      have : (fun x : Str => x.length) ∘ (fun l : List Nat => (⟨l.toArray⟩ : Str)) = List.length := by
        funext l
        exact str_len l
      rw [this]
      exact hz
    · rw [join_eq]
      refine k _ _ (.same s (.str _ ⟨Nat.le_trans (joinL_len _ _) (by rw [← LIM_eq]; exact hz), fun c hc => ?_⟩))
      rcases joinL_mem _ _ c hc with hc | ⟨l, hl, hc⟩
      · exact o1.2 c hc
      · exact (h3 l hl).2 c hc
theorem bits_ok {r : Vr} {vs : List V} {ds : List D} (h : mtD .bits d ds = some r) (s : Same F H) (hx : RdH g H F x d) (ha : RdHs g H F vs ds) (k : ∀ v H', Res g H F r v H' → Q v H') : vs = [] ∧ ∃ i, x = .int i ∧ Q (.int (Builtin.Int.intBits i : Nat)) H := by
  unfold mtD at h
  split at h <;> first
    | (exfalso; rename_i q _ _; exact Mt.noConfusion q)
    | (exfalso; rename_i q _; exact Mt.noConfusion q)
    | (exfalso; rename_i q; exact Mt.noConfusion q)
    | (cases h; done)
    | skip
  rename_i i _
  cases h
  cases hx.int
  cases ha
  refine ⟨rfl, i, rfl, ?_⟩
  have : (if i = 0 then (0 : Int) else ((i.natAbs.log2 + 1 : Nat) : Int)) = ((Builtin.Int.intBits i : Nat) : Int) := by
    unfold Builtin.Int.intBits
    by_cases h : i = 0
    · rw [if_pos h, if_pos (by simpa using h)] <;> rfl
    · rw [if_neg h, if_neg (by simpa using h)]
  rw [← this]
  exact k _ _ (.same s (.int _))
end
end Ev

set_option Elab.async false
set_option linter.all false
set_option maxRecDepth 100000
set_option maxHeartbeats 1000000
/-! Ev4: things kept, handed in and handed back. Own work. -/
namespace Ev
open PySem PySem.Spec PyProof.Rows L2
section
variable {g : Gi} {X : Cx} {ρ ρ' ρ0 : En} {σ : St} {H F H0 F0 H' F' : Hp} {v : V} {r : Vr} {d : D}
theorem bind_ok {α β : Type} {r : Rs α} {f : α → En → Rs β} {b : β} {ρ' : En} (h : r.bind f = .ok b ρ') : ∃ a ρ, r = .ok a ρ ∧ f a ρ = .ok b ρ' := by
  cases r with
  | ok a ρ => exact ⟨a, ρ, rfl, h⟩
  | ex x ρ => cases h
  | err => cases h
theorem ne_some {α : Type} {x : Option α} : x ≠ none ↔ ∃ a, x = some a := Option.ne_none_iff_exists'
theorem keep_bh (b : Bh g ρ0 σ H0 F0 ρ σ H F) (h : VrRel g ρ σ H F H0 v r) (k : keep ρ r = .ok d ρ') :
    ∃ F', Bh g ρ0 σ H0 F0 ρ' σ H F' ∧ RD g F' v d ∧ Same F F' ∧ ∀ v' r', VrRel g ρ σ H F H0 v' r' → (∀ e e', r = .o e → r' = .o e' → v ≠ v') → VrRel g ρ' σ H F' H0 v' r' := by
  obtain ⟨F', S', rd, fn, sm, ow, ol, lo⟩ := b.sim.keep h k
  refine ⟨F', ⟨S', ⟨b.stp.fzs.trans sm, fun c z => ?_, b.stp.mod, b.stp.live, fun c z => b.stp.own c (ow c z), fun c z => b.stp.ownl c (ol c z)⟩, b.kp.trans (keep_some k), b.pv.trans lo b.stp.live⟩, rd, sm, fun v' r' hv ne => ?_⟩
  · rcases fn c z with z | ⟨e, rfl, rfl⟩ | z
    · exact b.stp.fzn c z
    · obtain ⟨a, e1, n0, _⟩ := h
      cases e1
      exact .inr (.inl n0)
    · rcases b.stp.ownl c z with z | z
      · exact .inr (.inr z)
      · exact .inr (.inl z)
  · cases r' with
    | v e => exact hv.mono sm
    | s i => exact ⟨hv.1, keep_some k i hv.2⟩
    | o e =>
      obtain ⟨a', rfl, n0, nf, c, no⟩ := hv
      refine ⟨a', rfl, n0, Classical.byContradiction fun q => ?_, c.mono sm rfl, fun z => no (ol _ z)⟩
      rcases fn a' q with z | ⟨e', rfl, rfl⟩ | z
      · exact z nf
      · exact ne e' e rfl rfl rfl
      · exact no z

theorem VrRels.imp {ρ1 : En} {H1 F1 : Hp} : ∀ {vs : List V} {rs : List Vr}, VrRels g ρ σ H F H0 vs rs → (∀ (i : Nat) v r, vs[i]? = some v → rs[i]? = some r → VrRel g ρ σ H F H0 v r → VrRel g ρ1 σ H1 F1 H0 v r) → VrRels g ρ1 σ H1 F1 H0 vs rs
  | _, _, .nil, _ => .nil
  | _, _, .cons h n t, k => .cons (k 0 _ _ rfl rfl h) n (t.imp fun i v r h1 h2 => k (i + 1) v r (by simpa using h1) (by simpa using h2))
theorem keepAll_bh : ∀ {rs : List Vr} {vs : List V} {ds : List D} {ρ ρ' : En} {F : Hp}, Bh g ρ0 σ H0 F0 ρ σ H F → VrRels g ρ σ H F H0 vs rs → keepAll rs ρ = .ok ds ρ' →
    ∃ F', Bh g ρ0 σ H0 F0 ρ' σ H F' ∧ RDs g F' vs ds ∧ Same F F'
  | [], _, _, _, _, _, b, .nil, k => by
    cases k
    exact ⟨_, b, .nil, Same.refl _⟩
  | r :: rs, _, _, ρ, ρ', F, b, .cons h n t, k => by
    unfold keepAll at k
    obtain ⟨d, ρ1, k1, k⟩ := bind_ok k
    obtain ⟨ds, ρ2, k2, k⟩ := bind_ok k
    cases k
    obtain ⟨F1, b1, rd, sm, nx⟩ := keep_bh b h k1
    have t1 : VrRels g ρ1 σ H F1 H0 _ rs := t.imp fun i v' r' h1 h2 hv => nx v' r' hv fun e e' e1 e2 q => by
      subst e1 e2
      exact n e rfl i e' h2 (by rw [q]; exact h1)
    obtain ⟨F2, b2, rds, sm2⟩ := keepAll_bh b1 t1 k2
    exact ⟨F2, b2, .cons (rd.mono sm2) rds, sm.trans sm2⟩
theorem lookAll_rd (S : Sim g ρ σ H F) : ∀ {rs : List Vr} {vs : List V} {ds : List D}, VrRels g ρ σ H F H0 vs rs → lookAll ρ rs = some ds → RdHs g H F vs ds
  | [], _, _, .nil, k => by cases k; exact .nil
  | r :: rs, _, _, .cons h n t, k => by
    unfold lookAll at k
    split at k
    · rename_i d ds e1 e2
      cases k
      exact .cons (h.rd S e1) (lookAll_rd S t e2)
    · cases k
/-- a slot frozen, seen from ahead -/
theorem frz_bh (b : Bh g ρ0 σ H0 F0 ρ σ H F) {i : Nat} {s : Sl} (h : ρ.get i = some s) :
    ∃ F', Bh g ρ0 σ H0 F0 (ρ.set i (some ⟨.fz, s.d⟩)) σ H F' ∧ ∀ v r, VrRel g ρ σ H F H0 v r → VrRel g (ρ.set i (some ⟨.fz, s.d⟩)) σ H F' H0 v r := by
  obtain ⟨F', S', st, rd, lo⟩ := b.sim.freeze h
  have kp : Keeps ρ (ρ.set i (some ⟨.fz, s.d⟩)) := fun j hj => by
    rw [get_set (get_lt h)]
    split
    · rfl
    · exact hj
  have b1 : Bh g ρ σ H F (ρ.set i (some ⟨.fz, s.d⟩)) σ H F' := ⟨S', st, kp, lo⟩
  exact ⟨F', b.trans b1, fun v r hv => hv.later b.sim b1⟩
/-- slots that come twice -/
def Dup (ρ : En) (l : List Vr) : Prop := ∀ (i j k : Nat), i < j → l[i]? = some (.s k) → l[j]? = some (.s k) → ∀ s, ρ.get k = some s → s.m = .fz
theorem fzs_stay {l : List Vr} : ∀ {ρ : En} {k : Nat}, (∀ s, ρ.get k = some s → s.m = .fz) → ∀ s, (frzDup l ρ).get k = some s → s.m = .fz := by
  induction l with
  | nil => exact fun h => h
  | cons r l ih =>
    intro ρ k h
    cases r with
    | v d => exact ih h
    | o d => exact ih h
    | s i =>
      unfold frzDup
      split
      · split
        · rename_i s hs
          refine ih fun t ht => ?_
          rw [get_set (get_lt hs)] at ht
          split at ht
          · cases ht; rfl
          · exact h t ht
        · exact ih h
      · exact ih h
theorem frzDup_bh {vs : List V} {rs : List Vr} : ∀ {l : List Vr} {ρ : En} {F : Hp}, Bh g ρ0 σ H0 F0 ρ σ H F → VrRels g ρ σ H F H0 vs rs →
    ∃ F', Bh g ρ0 σ H0 F0 (frzDup l ρ) σ H F' ∧ VrRels g (frzDup l ρ) σ H F' H0 vs rs ∧ Dup (frzDup l ρ) l
  | [], ρ, F, b, t => ⟨F, b, t, fun i j k _ h _ => by simp at h⟩
  | r :: l, ρ, F, b, t => by
    have go : ∀ {ρ1 : En} {F1 : Hp}, Bh g ρ0 σ H0 F0 ρ1 σ H F1 → VrRels g ρ1 σ H F1 H0 vs rs → (∀ k, r = .s k → (∃ j : Nat, l[j]? = some (.s k)) → ∀ s, ρ1.get k = some s → s.m = .fz) →
        ∃ F', Bh g ρ0 σ H0 F0 (frzDup l ρ1) σ H F' ∧ VrRels g (frzDup l ρ1) σ H F' H0 vs rs ∧ Dup (frzDup l ρ1) (r :: l) := fun b1 t1 hd => by
      obtain ⟨F', b2, t2, d2⟩ := frzDup_bh (l := l) b1 t1
      refine ⟨F', b2, t2, fun i j k hij h1 h2 => ?_⟩
      cases j with
      | zero => omega
      | succ j =>
        cases i with
        | zero => exact fzs_stay (hd k (by simpa using h1) ⟨j, by simpa using h2⟩)
        | succ i => exact d2 i j k (by omega) (by simpa using h1) (by simpa using h2)
    cases r with
    | v d => exact go b t fun k e => by cases e
    | o d => exact go b t fun k e => by cases e
    | s i =>
      unfold frzDup
      split
      · split
        · rename_i s hs
          obtain ⟨F1, b1, n1⟩ := frz_bh b hs
          refine go b1 (t.imp fun _ v r _ _ hv => n1 v r hv) fun k e _ u hu => ?_
          cases e
          rw [get_set (get_lt hs), if_pos rfl] at hu
          cases hu
          rfl
        · rename_i hs
          refine go b t fun k e _ u hu => ?_
          cases e
          rw [hs] at hu
          cases hu
      · rename_i hn
        refine go b t fun k e ⟨j, hj⟩ => ?_
        cases e
        exfalso
        apply hn
        rw [List.any_eq_true]
        exact ⟨.s i, List.mem_of_getElem? hj, by simp⟩

/-! ### the arguments as a def's slots -/
theorem get_map (l : List Sl) (i : Nat) : En.get (l.map some) i = l[i]? := by
  unfold En.get
  rw [List.getElem?_map]
  cases l[i]? <;> rfl
theorem map_at (l : List V) (i : Nat) (v : V) : (l.map some)[i]? = some (some v) ↔ l[i]? = some v := by
  rw [List.getElem?_map]
  cases l[i]? <;> simp
theorem argsOf_at : ∀ {rs : List Vr} {as : List Sl}, argsOf ρ rs = some as → as.length = rs.length ∧ ∀ (i : Nat) a, as[i]? = some a → ∃ r, rs[i]? = some r ∧ argOf ρ r = some a
  | [], as, h => by cases h; exact ⟨rfl, fun i a h => by simp at h⟩
  | r :: rs, as, h => by
    unfold argsOf at h
    split at h
    · rename_i a l e1 e2
      cases h
      obtain ⟨h1, h2⟩ := argsOf_at e2
      refine ⟨by rw [List.length_cons, List.length_cons, h1], fun i b hb => ?_⟩
      cases i with
      | zero => cases hb; exact ⟨r, rfl, e1⟩
      | succ i => exact h2 i b (by simpa using hb)
    · cases h
theorem VrRels.fresh2 : ∀ {vs : List V} {rs : List Vr}, VrRels g ρ σ H F H0 vs rs → ∀ (i j : Nat) (d d' : D) v, i < j → rs[i]? = some (.o d) → rs[j]? = some (.o d') → vs[i]? = some v → vs[j]? ≠ some v
  | _, _, .nil, i, j, d, d', v, _, h, _, _ => by simp at h
  | _, _, .cons h n t, i, j, d, d', v, hij, h1, h2, h3 => by
    cases j with
    | zero => omega
    | succ j =>
      cases i with
      | zero =>
        have e3 := Option.some.inj h3
        subst e3
        have := n d (Option.some.inj h1) j d' (by simpa using h2)
        simpa using this
      | succ i =>
        have := t.fresh2 i j d d' v (by omega) (by simpa using h1) (by simpa using h2) (by simpa using h3)
        simpa using this
theorem args_sim {vs : List V} {rs : List Vr} {as : List Sl} (S : Sim g ρ σ H F) (R : VrRels g ρ σ H F H0 vs rs) (ha : argsOf ρ rs = some as) (dup : Dup ρ rs) : Sim g (as.map some) (vs.map some) H F := by
  obtain ⟨hl, hat⟩ := argsOf_at ha
  -- a place that owns
  have own : ∀ (i : Nat) s a, as[i]? = some s → s.m ≠ .fz → vs[i]? = some (.ref a) → (∃ d, rs[i]? = some (.o d) ∧ ¬ OwnL ρ σ a) ∨ ∃ k, rs[i]? = some (.s k) ∧ ρ.get k = some s ∧ σ[k]? = some (some (.ref a)) := fun i s a h1 h2 h3 => by
    obtain ⟨r, e1, e2⟩ := hat i s h1
    obtain ⟨v, e3, q⟩ := R.at e1
    rw [h3] at e3
    cases e3
    cases r with
    | v d => cases e2; exact absurd rfl h2
    | o d =>
      obtain ⟨a', e, _, _, _, no⟩ := q
      cases e
      exact .inl ⟨d, e1, no⟩
    | s k => exact .inr ⟨k, e1, e2, q.1⟩
  have key : ∀ (i j : Nat) s t a, i < j → as[i]? = some s → as[j]? = some t → s.m ≠ .fz → t.m ≠ .fz → vs[i]? = some (.ref a) → vs[j]? = some (.ref a) → False := fun i j s t a hij h1 h2 m1 m2 v1 v2 => by
    rcases own i s a h1 m1 v1 with ⟨d, q1, n1⟩ | ⟨k, q1, g1, s1⟩
    · rcases own j t a h2 m2 v2 with ⟨d', q2, n2⟩ | ⟨k', q2, g2, s2⟩
      · exact R.fresh2 i j d d' _ hij q1 q2 v1 v2
      · exact n1 ⟨k', t, g2, m2, s2⟩
    · rcases own j t a h2 m2 v2 with ⟨d', q2, n2⟩ | ⟨k', q2, g2, s2⟩
      · exact n2 ⟨k, s, g1, m1, s1⟩
      · have e := S.sep k k' s t a g1 g2 m1 m2 s1 s2
        subst e
        exact m1 (dup i j k hij q1 q2 s g1)
  refine ⟨by rw [List.length_map, List.length_map, hl, R.length], S.sub, fun i s h => ?_, fun i j s t a h1 h2 m1 m2 v1 v2 => ?_⟩
  · rw [get_map] at h
    obtain ⟨r, e1, e2⟩ := hat i s h
    obtain ⟨v, e3, q⟩ := R.at e1
    refine ⟨v, (map_at _ _ _).mpr e3, ?_⟩
    cases r with
    | v d => cases e2; exact q
    | o d =>
      cases e2
      obtain ⟨a, e, _, n, c, _⟩ := q
      exact ⟨a, e, n, c⟩
    | s k =>
      obtain ⟨w, e4, e5⟩ := S.val k s e2
      rw [q.1] at e4
      cases e4
      exact e5
  · rw [get_map] at h1 h2
    rw [map_at] at v1 v2
    rcases Nat.lt_trichotomy i j with z | z | z
    · exact (key i j s t a z h1 h2 m1 m2 v1 v2).elim
    · exact z
    · exact (key j i t s a z h2 h1 m2 m1 v2 v1).elim
end
end Ev

set_option Elab.async false
set_option linter.all false
set_option maxRecDepth 100000
set_option maxHeartbeats 1000000
/-! Ev4b: behind a call. Own work. -/
namespace Ev
open PySem PySem.Spec PyProof.Rows L2
section
variable {g : Gi} {X : Cx} {ρ ρ' ρ0 : En} {σ : St} {H F H0 F0 H' F' : Hp} {v : V} {r : Vr} {d : D}
theorem outs_at : ∀ (rs : List Vr) (outs : List Sl) (ρ : En), (∀ (i : Nat) (k : Nat), rs[i]? = some (.s k) → k < ρ.length) → outs.length = rs.length →
    (outsTo rs outs ρ).length = ρ.length ∧ ∀ j, (∃ (i : Nat) (o : Sl), rs[i]? = some (.s j) ∧ outs[i]? = some o ∧ En.get (outsTo rs outs ρ) j = some o) ∨ ((∀ i : Nat, rs[i]? ≠ some (.s j)) ∧ En.get (outsTo rs outs ρ) j = ρ.get j)
  | [], outs, ρ, _, hl => by
    cases outs with
    | nil => exact ⟨rfl, fun j => .inr ⟨fun i => by simp, rfl⟩⟩
    | cons _ _ => cases hl
  | r :: rs, outs, ρ, hk, hl => by
    cases outs with
    | nil => cases hl
    | cons o outs =>
      have hl' : outs.length = rs.length := by simpa using hl
      have plain : (∀ k, r ≠ .s k) → outsTo (r :: rs) (o :: outs) ρ = outsTo rs outs ρ → (outsTo (r :: rs) (o :: outs) ρ).length = ρ.length ∧ ∀ j, (∃ (i : Nat) (o' : Sl), (r :: rs)[i]? = some (.s j) ∧ (o :: outs)[i]? = some o' ∧ En.get (outsTo (r :: rs) (o :: outs) ρ) j = some o') ∨ ((∀ i : Nat, (r :: rs)[i]? ≠ some (.s j)) ∧ En.get (outsTo (r :: rs) (o :: outs) ρ) j = ρ.get j) := fun hr he => by
        obtain ⟨h1, h2⟩ := outs_at rs outs ρ (fun i k h => hk (i + 1) k (by simpa using h)) hl'
        rw [he]
        refine ⟨h1, fun j => ?_⟩
        rcases h2 j with ⟨i, o', e1, e2, e3⟩ | ⟨e1, e2⟩
        · exact .inl ⟨i + 1, o', by simpa using e1, by simpa using e2, e3⟩
        · refine .inr ⟨fun i => ?_, e2⟩
          cases i with
          | zero => exact fun z => hr j (Option.some.inj z)
          | succ i => simpa using e1 i
      cases r with
      | v d => exact plain (fun k z => nomatch z) rfl
      | o d => exact plain (fun k z => nomatch z) rfl
      | s k =>
        have hkl : k < ρ.length := hk 0 k rfl
        obtain ⟨h1, h2⟩ := outs_at rs outs (ρ.set k (some o)) (fun i k h => by rw [List.length_set]; exact hk (i + 1) k (by simpa using h)) hl'
        refine ⟨h1.trans (by rw [List.length_set]), fun j => ?_⟩
        rcases h2 j with ⟨i, o', e1, e2, e3⟩ | ⟨e1, e2⟩
        · exact .inl ⟨i + 1, o', by simpa using e1, by simpa using e2, e3⟩
        · by_cases hj : k = j
          · subst hj
            exact .inl ⟨0, o, rfl, rfl, e2.trans (get_set_same hkl)⟩
          · refine .inr ⟨fun i => ?_, e2.trans (get_set_ne hj)⟩
            cases i with
            | zero => exact fun z => hj (by cases z; rfl)
            | succ i => simpa using e1 i
theorem none_back {A B : Hp} (l : ∀ b, A b ≠ none → B b ≠ none) {b : Addr} (h : B b = none) : A b = none := Classical.byContradiction fun q => l b q h
theorem outs_bh {vs : List V} {rs : List Vr} {as outs : List Sl} (b : Bh g ρ0 σ H0 F0 ρ σ H F) (R : VrRels g ρ σ H F H0 vs rs) (ha : argsOf ρ rs = some as) (hl : outs.length = rs.length)
    (C : Bh g (as.map some) (vs.map some) H F (outs.map some) (vs.map some) H' F') : Bh g ρ0 σ H0 F0 (outsTo rs outs ρ) σ H' F' ∧
      ∀ v r, VrRel g (outs.map some) (vs.map some) H' F' H v r → (∀ i, r ≠ .s i) → VrRel g (outsTo rs outs ρ) σ H' F' H0 v r := by
  obtain ⟨al, hat⟩ := argsOf_at ha
  have S := b.sim
  have hk : ∀ (i k : Nat), rs[i]? = some (.s k) → k < ρ.length ∧ ∃ v, vs[i]? = some v ∧ σ[k]? = some (some v) := fun i k h => by
    obtain ⟨v, e, q⟩ := R.at h
    obtain ⟨s, hs⟩ := Option.isSome_iff_exists.mp q.2
    exact ⟨get_lt hs, v, e, q.1⟩
  obtain ⟨ol, oat⟩ := outs_at rs outs ρ (fun i k h => (hk i k h).1) hl
  -- whose the argument places are
  have own : ∀ (i : Nat) s a, as[i]? = some s → s.m ≠ .fz → vs[i]? = some (.ref a) → (H0 a = none ∧ ¬ OwnL ρ σ a) ∨ ∃ k, rs[i]? = some (.s k) ∧ ρ.get k = some s ∧ σ[k]? = some (some (.ref a)) := fun i s a h1 h2 h3 => by
    obtain ⟨r, e1, e2⟩ := hat i s h1
    obtain ⟨v, e3, q⟩ := R.at e1
    rw [h3] at e3
    cases e3
    cases r with
    | v d => cases e2; exact absurd rfl h2
    | o d =>
      obtain ⟨a', e, n0, _, _, no⟩ := q
      cases e
      exact .inl ⟨n0, no⟩
    | s k => exact .inr ⟨k, e1, e2, q.1⟩
  have ownL : ∀ a, OwnL (as.map some) (vs.map some) a → (H0 a = none ∧ ¬ OwnL ρ σ a) ∨ ∃ (i k : Nat) (s : Sl), rs[i]? = some (.s k) ∧ ρ.get k = some s ∧ s.m ≠ .fz ∧ σ[k]? = some (some (.ref a)) := fun a ⟨i, s, h1, h2, h3⟩ => by
    rw [get_map] at h1
    rw [map_at] at h3
    rcases own i s a h1 h2 h3 with z | ⟨k, e1, e2, e3⟩
    · exact .inl z
    · exact .inr ⟨i, k, s, e1, e2, h2, e3⟩
  have ownE : ∀ a, Own (as.map some) (vs.map some) a → H0 a = none ∨ Own ρ σ a := fun a ⟨i, s, h1, h2, h3⟩ => by
    rw [get_map] at h1
    rw [map_at] at h3
    rcases own i s a h1 (by rw [h2]; decide) h3 with z | ⟨k, e1, e2, e3⟩
    · exact .inl z.1
    · exact .inr ⟨k, s, e2, h2, e3⟩
  -- an untouched slot that owns
  have untouched : ∀ j s a, (∀ i : Nat, rs[i]? ≠ some (.s j)) → ρ.get j = some s → s.m ≠ .fz → σ[j]? = some (some (.ref a)) → ¬ OwnL (as.map some) (vs.map some) a := fun j s a hn h1 h2 h3 z => by
    rcases ownL a z with z | ⟨i, k, t, e1, e2, e3, e4⟩
    · exact z.2 ⟨j, s, h1, h2, h3⟩
    · have e := S.sep j k s t a h1 e2 h2 e3 h3 e4
      subst e
      exact hn i e1
  have back : ∀ {c : Addr}, H c = none → H0 c = none := fun h => none_back b.stp.live h
  have sim : Sim g (outsTo rs outs ρ) σ H' F' := by
    refine ⟨ol.trans S.len, C.sim.sub, fun j s h => ?_, fun j k s t a h1 h2 m1 m2 v1 v2 => ?_⟩
    · rcases oat j with ⟨i, o, e1, e2, e3⟩ | ⟨e1, e2⟩
      · rw [e3] at h
        cases h
        obtain ⟨_, v, hv, hs⟩ := hk i j e1
        obtain ⟨w, e4, e5⟩ := C.sim.val i _ (by rw [get_map]; exact e2)
        rw [(map_at _ _ _).mpr hv] at e4
        cases e4
        exact ⟨v, hs, e5⟩
      · rw [e2] at h
        obtain ⟨v, hs, q⟩ := S.val j s h
        refine ⟨v, hs, q.mono C.stp.fzs fun a hm hv => ?_⟩
        subst hv
        have z := S.ownL ⟨j, s, h, hm, hs⟩
        have nO := untouched j s a e1 h hm hs
        obtain ⟨o, ho⟩ := ne_some.mp z.1
        refine ⟨Classical.byContradiction fun q => ?_, (C.stp.mod a o ho fun w => nO w.l).trans ho.symm⟩
        rcases C.stp.fzn a q with y | y | y
        · exact y z.2
        · exact z.1 y
        · exact nO y
    · have side : ∀ j s a, En.get (outsTo rs outs ρ) j = some s → s.m ≠ .fz → σ[j]? = some (some (.ref a)) → (∃ (i : Nat) (o : Sl), rs[i]? = some (.s j) ∧ outs[i]? = some o ∧ o = s ∧ vs[i]? = some (.ref a)) ∨ ((∀ i : Nat, rs[i]? ≠ some (.s j)) ∧ ρ.get j = some s) := fun j s a h hm hv => by
        rcases oat j with ⟨i, o, e1, e2, e3⟩ | ⟨e1, e2⟩
        · rw [e3] at h
          cases h
          obtain ⟨_, v, hv', hs⟩ := hk i j e1
          rw [hv] at hs
          cases hs
          exact .inl ⟨i, _, e1, e2, rfl, hv'⟩
        · exact .inr ⟨e1, by rw [← e2]; exact h⟩
      have mixed : ∀ j k s t a, (∃ (i : Nat) (o : Sl), rs[i]? = some (.s j) ∧ outs[i]? = some o ∧ o = s ∧ vs[i]? = some (.ref a)) → s.m ≠ .fz → (∀ i : Nat, rs[i]? ≠ some (.s k)) → ρ.get k = some t → t.m ≠ .fz → σ[k]? = some (some (.ref a)) → False := fun j k s t a ⟨i, o, e1, e2, e3, e4⟩ ms hn hg mt hv => by
        subst e3
        rcases C.stp.ownl a ⟨i, o, by rw [get_map]; exact e2, ms, (map_at _ _ _).mpr e4⟩ with z | z
        · exact untouched k t a hn hg mt hv z
        · exact (S.ownL ⟨k, t, hg, mt, hv⟩).1 z
      rcases side j s a h1 m1 v1 with x | x
      · rcases side k t a h2 m2 v2 with y | y
        · obtain ⟨i, o, e1, e2, e3, e4⟩ := x
          obtain ⟨i', o', f1, f2, f3, f4⟩ := y
          have e := C.sim.sep i i' o o' a (by rw [get_map]; exact e2) (by rw [get_map]; exact f2) (by rw [e3]; exact m1) (by rw [f3]; exact m2) ((map_at _ _ _).mpr e4) ((map_at _ _ _).mpr f4)
          subst e
          rw [e1] at f1
          cases f1
          rfl
        · exact (mixed j k s t a x m1 y.1 y.2 m2 v2).elim
      · rcases side k t a h2 m2 v2 with y | y
        · exact (mixed k j t s a y m2 x.1 x.2 m1 v1).elim
        · exact S.sep j k s t a x.2 y.2 m1 m2 v1 v2
  have ownl2 : ∀ c, OwnL (outsTo rs outs ρ) σ c → OwnL (outs.map some) (vs.map some) c ∨ OwnL ρ σ c := fun c ⟨j, s, h1, h2, h3⟩ => by
    rcases oat j with ⟨i, o, e1, e2, e3⟩ | ⟨e1, e2⟩
    · rw [e3] at h1
      cases h1
      obtain ⟨_, v, hv', hs⟩ := hk i j e1
      rw [h3] at hs
      cases hs
      exact .inl ⟨i, _, by rw [get_map]; exact e2, h2, (map_at _ _ _).mpr hv'⟩
    · exact .inr ⟨j, s, by rw [← e2]; exact h1, h2, h3⟩
  refine ⟨⟨sim, ⟨b.stp.fzs.trans C.stp.fzs, fun c z => ?_, fun c o h n => ?_, fun c h => C.stp.live c (b.stp.live c h), fun c h => ?_, fun c h => ?_⟩, fun i hi => ?_, ?_⟩, fun v r hv hr => ?_⟩
  · rcases C.stp.fzn c z with z | z | z
    · exact b.stp.fzn c z
    · exact .inr (.inl (back z))
    · rcases ownL c z with z | ⟨i, k, s, _, e2, e3, e4⟩
      · exact .inr (.inl z.1)
      · rcases b.stp.ownl c ⟨k, s, e2, e3, e4⟩ with z | z
        · exact .inr (.inr z)
        · exact .inr (.inl z)
  · refine C.stp.mod c o (b.stp.mod c o h n) fun z => ?_
    rcases ownE c z with z | z
    · rw [z] at h; cases h
    · rcases b.stp.own c z with z | z
      · exact n z
      · rw [z] at h; cases h
  · obtain ⟨j, s, h1, h2, h3⟩ := h
    rcases oat j with ⟨i, o, e1, e2, e3⟩ | ⟨e1, e2⟩
    · rw [e3] at h1
      cases h1
      obtain ⟨_, v, hv', hs⟩ := hk i j e1
      rw [h3] at hs
      cases hs
      rcases C.stp.own c ⟨i, _, by rw [get_map]; exact e2, h2, (map_at _ _ _).mpr hv'⟩ with z | z
      · rcases ownE c z with z | z
        · exact .inr z
        · exact b.stp.own c z
      · exact .inr (back z)
    · exact b.stp.own c ⟨j, s, by rw [← e2]; exact h1, h2, h3⟩
  · rcases ownl2 c h with z | z
    · rcases C.stp.ownl c z with z | z
      · rcases ownL c z with z | ⟨i, k, s, _, e2, e3, e4⟩
        · exact .inr z.1
        · exact b.stp.ownl c ⟨k, s, e2, e3, e4⟩
      · exact .inr (back z)
    · exact b.stp.ownl c z
  · have hi := b.kp i hi
    rcases oat i with ⟨_, o, _, _, e3⟩ | ⟨_, e2⟩
    · rw [e3] <;> rfl
    · rw [e2]; exact hi
  · have at_ : ∀ (i j : Nat) (a' : Sl), rs[i]? = some (.s j) → as[i]? = some a' → ρ.get j = some a' := fun i j a' h1 h2 => by
      obtain ⟨r', er, eo⟩ := hat i a' h2
      rw [h1] at er
      cases er
      exact eo
    refine ⟨fun j a ⟨s, h1, h2, h3⟩ => ?_, fun j a ⟨s, h1, h2, h3⟩ => ?_⟩
    · rcases oat j with ⟨i, o, e1, e2, e3⟩ | ⟨e1, e2⟩
      · rw [e3] at h1
        cases h1
        obtain ⟨_, v, hv', hs⟩ := hk i j e1
        rw [h3] at hs
        cases hs
        rcases C.pv.1 i a ⟨_, by rw [get_map]; exact e2, h2, (map_at _ _ _).mpr hv'⟩ with ⟨t, t1, t2, t3⟩ | z
        · rw [get_map] at t1
          exact b.pv.1 j a ⟨t, at_ i j t e1 t1, t2, h3⟩
        · exact .inr (back z)
      · exact b.pv.1 j a ⟨s, by rw [← e2]; exact h1, h2, h3⟩
    · rcases oat j with ⟨i, o, e1, e2, e3⟩ | ⟨e1, e2⟩
      · rw [e3] at h1
        cases h1
        obtain ⟨_, v, hv', hs⟩ := hk i j e1
        rw [h3] at hs
        cases hs
        rcases C.pv.2 i a ⟨_, by rw [get_map]; exact e2, h2, (map_at _ _ _).mpr hv'⟩ with ⟨t, t1, t2, t3⟩ | z
        · rw [get_map] at t1
          exact b.pv.2 j a ⟨t, at_ i j t e1 t1, t2, h3⟩
        · exact .inr (back z)
      · exact b.pv.2 j a ⟨s, by rw [← e2]; exact h1, h2, h3⟩
  · cases r with
    | v d => exact hv
    | s i => exact absurd rfl (hr i)
    | o d =>
      obtain ⟨a, e, n, nf, c, no⟩ := hv
      refine ⟨a, e, back n, nf, c, fun z => ?_⟩
      rcases ownl2 a z with z | z
      · exact no z
      · exact (S.ownL z).1 n
end
end Ev

set_option Elab.async false
set_option linter.all false
set_option maxRecDepth 100000
set_option maxHeartbeats 1000000
/-! Ev5: contexts, promises; expressions. Own work. -/
namespace Ev
open PySem PySem.Spec PyProof.Rows L2

/-- what a global name means -/
inductive GK where | fn (n : Nat) | free | cst (d : D) | bfn (id : String)
structure Ct where
  N : List Str
  sc : Scope
  gl : List (Str × GK)
  sg : List (Nat × Nat × List Str × List Nat)
  calm : Bool
  top : Bool
  np : Nat
  reb : List Nat
  fnx : Str → Bool
/-- a call's result is good -/
def GdC (g : Gi) (as : List Sl) (vs : List V) (H F : Hp) (r : CR) (Q : VK) (E : XK) : Prop := match r with
  | .ret own d outs => outs.length = vs.length → ∀ v H' F', Bh g (as.map some) (vs.map some) H F (outs.map some) (vs.map some) H' F' → VrRel g (outs.map some) (vs.map some) H' F' H v (if own then .o d else .v d) → Q v H'
  | .ex x outs => outs.length = vs.length → ∀ cls dx H' F', Bh g (as.map some) (vs.map some) H F (outs.map some) (vs.map some) H' F' → XR g F' x cls dx → E cls dx H'
  | .err => False
/-- a def's promise: it does what Φ says -/
def FnG (P : Program) (w : World) (K : PySem.W.Frag) (mg : Str → Option Value) (base : Heap) (g : Gi) (Φ : Fns) (k : Nat) (f : Addr) (fd : FuncData) (ps : List Str) (n : Nat) : Prop :=
  ∀ (A : Around) (outer : List Env) (s : Shared) (H F : Hp) (args : Args) (us : List Value) (vs : List V) (as : List Sl) (Q : VK) (E : XK), Room k A → A.guards = some [] → Env0 P w K mg base A outer s H → BindsTo s fd args (ps.zip us) →
    Vals vs us → vs.length = ps.length → Sim g (as.map some) (vs.map some) H F → GdC g as vs H F (Φ n as) Q E →
    codeAny (model P w) A (.call (.ref f) args) (L2.CR (L2.CX P w) outer P w H s Q E) s
/-- how such a call binds: np values, keywords, the parameters' order -/
def Bnd (K : PySem.W.Frag) (fd : FuncData) (ps : List Str) (np : Nat) (ks : List Str) (pm : List Nat) : Prop :=
  pm.length = ps.length ∧ ∀ (s : Shared) (us ws as : List Value), K.In s.heap → us.length = np → ws.length = ks.length → pick pm (us ++ ws) = some as → BindsTo s fd ⟨us, ks.zip ws⟩ (ps.zip as)
def GlobOk (g : Gi) (X : Cx) (x : Str) : GK → Prop
  | .fn n => ∃ f, g.fa n = some f ∧ X.mg x = some (.ref f)
  | .free => X.mg x = none
  | .cst d => ∃ v u, X.mg x = some u ∧ RelV v u ∧ ∀ F, RD g F v d
  | .bfn id => X.mg x = some (.builtin id)
structure XOk (g : Gi) (Φ : Fns) (k : Nat) (ct : Ct) (X : Cx) : Prop where
  N : X.N = ct.N
  nd : X.N.Nodup
  sc : X.env.scope = ct.sc
  rm : Rm g ct.calm X
  glob : ∀ x q, ct.gl.lookup x = some q → GlobOk g X x q
  room : ct.calm = true → Room k X.A
  fns : ∀ n f, g.fa n = some f → ∃ fd ps, PySem.W.keepIn X.K (.ref f) = true ∧ FnG X.prog X.w X.K X.mg X.base g Φ k f fd ps n ∧ ∀ np ks pm, (n, np, ks, pm) ∈ ct.sg → Bnd X.K fd ps np ks pm
  po : ct.top = true → PassesOwn (model X.prog X.w) X.A X.env X.xe
  fnx : ∀ x, X.fn x = ct.fnx x
section
variable (g : Gi) (Φ : Fns) (k : Nat) (ct : Ct)
def SE (e : Expr) (ir : E) : Prop := ∀ X, XOk g Φ k ct X → ∀ ρ σ H F, Sim g ρ σ H F → ∀ (Q : VK) (W : WX), Takes X W → GdR g ρ σ H F (evE Φ ir ρ) (OkE g σ H Q) W → DE X e σ H Q
def ST (e : Expr) (ir : T) : Prop := ∀ X, XOk g Φ k ct X → ∀ ρ σ H F, Sim g ρ σ H F → ∀ (Q : Bool → Hp → Prop) (W : WX), Takes X W → GdR g ρ σ H F (evT Φ ir ρ) (OkT Q) W → DT X e σ H Q
/-- .. whatever its whole is -/
def STw (e : Expr) (ir : T) : Prop := ∀ X, XOk g Φ k ct X → ∀ ρ σ H F, Sim g ρ σ H F → ∀ (Q : Bool → Hp → Prop) (W : WX), Takes X W → GdR g ρ σ H F (evT Φ ir ρ) (OkT Q) W → DW X e σ H Q
def SA (es : List Expr) (ir : Es) : Prop := ∀ X, XOk g Φ k ct X → ∀ ρ σ H F, Sim g ρ σ H F → ∀ (Q : List V → Hp → Prop) (W : WX), Takes X W → GdR g ρ σ H F (evEs Φ ir ρ) (OkA g σ H Q) W → DA X es σ H Q
end
section
variable {g : Gi} {Φ : Fns} {k : Nat} {ct : Ct} {X : Cx} {ρ ρ' ρ1 ρ2 : En} {σ σ' σ1 : St} {H F H' F' H0 H1 F1 H2 F2 : Hp} {W : WX}
/-- an expression, then the rest -/
theorem SE.go {e : Expr} {ir : E} (h : SE g Φ k ct e ir) (xo : XOk g Φ k ct X) (S : Sim g ρ σ H F) (tk : Takes X W) {β : Type} {f : Vr → En → Rs β} {Ok : β → En → Hp → Hp → Prop} (G : GdR g ρ σ H F ((evE Φ ir ρ).bind f) Ok W) {R : VK}
    (K : ∀ v r ρ1 H1 F1, Bh g ρ σ H F ρ1 σ H1 F1 → VrRel g ρ1 σ H1 F1 H v r → GdR g ρ1 σ H1 F1 (f r ρ1) Ok W → R v H1) : DE X e σ H R :=
  h X xo ρ σ H F S R W tk (G.step.imp fun r ρ1 H1 F1 b q v hv => K v r ρ1 H1 F1 b hv q)
theorem ST.go {e : Expr} {ir : T} (h : ST g Φ k ct e ir) (xo : XOk g Φ k ct X) (S : Sim g ρ σ H F) (tk : Takes X W) {β : Type} {f : Bool → En → Rs β} {Ok : β → En → Hp → Hp → Prop} (G : GdR g ρ σ H F ((evT Φ ir ρ).bind f) Ok W) {R : Bool → Hp → Prop}
    (K : ∀ b ρ1 H1 F1, Bh g ρ σ H F ρ1 σ H1 F1 → GdR g ρ1 σ H1 F1 (f b ρ1) Ok W → R b H1) : DT X e σ H R :=
  h X xo ρ σ H F S R W tk (G.step.imp fun r ρ1 H1 F1 b q => K r ρ1 H1 F1 b q)
theorem SA.go {es : List Expr} {ir : Es} (h : SA g Φ k ct es ir) (xo : XOk g Φ k ct X) (S : Sim g ρ σ H F) (tk : Takes X W) {β : Type} {f : List Vr → En → Rs β} {Ok : β → En → Hp → Hp → Prop} (G : GdR g ρ σ H F ((evEs Φ ir ρ).bind f) Ok W) {R : List V → Hp → Prop}
    (K : ∀ vs rs ρ1 H1 F1, Bh g ρ σ H F ρ1 σ H1 F1 → VrRels g ρ1 σ H1 F1 H vs rs → GdR g ρ1 σ H1 F1 (f rs ρ1) Ok W → R vs H1) : DA X es σ H R :=
  h X xo ρ σ H F S R W tk (G.step.imp fun rs ρ1 H1 F1 b q vs hv => K vs rs ρ1 H1 F1 b hv q)
theorem op2_in {x y : Vr} {f : D → D → Rs Vr} {Ok : Vr → En → Hp → Hp → Prop} (G : GdR g ρ σ H F (op2 ρ x y f) Ok W) : ∃ d e, look ρ x = some d ∧ look ρ y = some e ∧ GdR g ρ σ H F (f d e) Ok W := by
  unfold op2 at G
  split at G
  · rename_i d e h1 h2
    exact ⟨d, e, h1, h2, G⟩
  · exact G.elim
theorem op1_in {α : Type} {x : Vr} {f : D → Rs α} {Ok : α → En → Hp → Hp → Prop} (G : GdR g ρ σ H F (op1 ρ x f) Ok W) : ∃ d, look ρ x = some d ∧ GdR g ρ σ H F (f d) Ok W := by
  unfold op1 at G
  split at G
  · rename_i d h1
    exact ⟨d, h1, G⟩
  · exact G.elim
theorem toRs_in {r : Option Vr} {Ok : Vr → En → Hp → Hp → Prop} (G : GdR g ρ σ H F (toRs r ρ') Ok W) : ∃ a, r = some a ∧ GdR g ρ σ H F (.ok a ρ') Ok W := by
  cases r with
  | none => exact G.elim
  | some a => exact ⟨a, rfl, G⟩
theorem toRb_in {r : Option Bool} {Ok : Vr → En → Hp → Hp → Prop} (G : GdR g ρ σ H F (toRb r ρ') Ok W) : ∃ b, r = some b ∧ GdR g ρ σ H F (.ok (.v (.bl b)) ρ') Ok W := by
  cases r with
  | none => exact G.elim
  | some a => exact ⟨a, rfl, G⟩

/-! ### names, constants -/
def visB (sc : Scope) (x : Str) : Bool := match sc.names.lookup x with
  | some .local => true
  | some .cell => true
  | some .free => true
  | _ => false
theorem visB_ok {sc : Scope} {x : Str} (h : visB sc x = true) : Vis sc x := by
  unfold visB at h
  split at h
  · rename_i e; exact .inl e
  · rename_i e; exact .inr (.inl e)
  · rename_i e; exact .inr (.inr e)
  · cases h
def plainN (x : Str) : Bool := (x == Str.ofString "__debug__") == false && (x == Str.ofString "__classdict__") == false
theorem plainN_ok {x : Str} (h : plainN x = true) : (x == ("__debug__" : Str)) = false ∧ (x == ("__classdict__" : Str)) = false := by
  unfold plainN at h
  rw [Bool.and_eq_true, beq_iff_eq, beq_iff_eq] at h
  exact h
theorem se_var {x : Str} {pos : Pos} {i : Nat} (hN : ct.N[i]? = some x) (hv : visB ct.sc x = true) (hp : plainN x = true) : SE g Φ k ct (.Name x pos) (.var i) := by
  intro X xo ρ σ H F S Q W tk G
  unfold evE at G
  split at G
  · rename_i s hs
    obtain ⟨v, e, _⟩ := S.val i s hs
    exact PE.d (pe_var (X := X) (by rw [xo.N]; exact hN) (by rw [xo.sc]; exact visB_ok hv) (plainN_ok hp).1 (plainN_ok hp).2) ⟨v, e, G.now S v ⟨e, by rw [hs] <;> rfl⟩⟩
  · exact G.elim
theorem se_int {i : Int} {j : Nat} {pos : Pos} : SE g Φ k ct (.Constant (.int i) j pos) (.lit (.int i)) := by
  intro X xo ρ σ H F S Q W tk G
  exact PE.d (pe_int (X := X)) (G.now S _ (.int i))
theorem se_bl {b : Bool} {j : Nat} {pos : Pos} : SE g Φ k ct (.Constant (.bool b) j pos) (.lit (.bl b)) := by
  intro X xo ρ σ H F S Q W tk G
  exact PE.d (pe_bl (X := X)) (G.now S _ (.bl b))
theorem se_non {j : Nat} {pos : Pos} : SE g Φ k ct (.Constant .none j pos) (.lit .non) := by
  intro X xo ρ σ H F S Q W tk G
  exact PE.d (pe_non (X := X)) (G.now S _ .non)
def okLB (l : List Nat) : Bool := decide (l.length ≤ LIM) && l.all fun c => decide (c < 0x110000)
theorem okLB_ok {l : List Nat} (h : okLB l = true) : okL l := by
  unfold okLB at h
  rw [Bool.and_eq_true, decide_eq_true_eq, List.all_eq_true] at h
  exact ⟨by rw [← LIM_eq]; exact h.1, fun c hc => of_decide_eq_true (h.2 c hc)⟩
theorem se_str {x : Str} {j : Nat} {pos : Pos} (h : okLB x.cps.toList = true) : SE g Φ k ct (.Constant (.str x) j pos) (.lit (.str x.cps.toList)) := by
  intro X xo ρ σ H F S Q W tk G
  have e : (⟨x.cps.toList.toArray⟩ : Str) = x := by simp
  have := G.now S _ (.str x.cps.toList (okLB_ok h))
  rw [e] at this
  exact PE.d (pe_str (X := X)) this
def glB (sc : Scope) (x : Str) : Bool := match sc.names.lookup x with
  | some .globalImplicit => true
  | _ => false
theorem glB_ok (xo : XOk g Φ k ct X) {x : Str} (h : glB ct.sc x = true) : Gl X x := by
  unfold glB at h
  unfold Gl Env.kindOf
  rw [xo.sc]
  split at h
  · assumption
  · cases h
theorem se_cst {x : Str} {pos : Pos} {d : D} (hg : glB ct.sc x = true) (hl : ct.gl.lookup x = some (.cst d)) (hp : plainN x = true) : SE g Φ k ct (.Name x pos) (.lit d) := by
  intro X xo ρ σ H F S Q W tk G
  obtain ⟨v, u, h1, h2, h3⟩ := xo.glob x _ hl
  exact PE.d (pe_glob (X := X) (glB_ok xo hg) h1 h2 (plainN_ok hp).1) (G.now S v (h3 F))
theorem se_fn {x : Str} {pos : Pos} {n : Nat} (hg : glB ct.sc x = true) (hl : ct.gl.lookup x = some (.fn n)) (hp : plainN x = true) : SE g Φ k ct (.Name x pos) (.lit (.fn n)) := by
  intro X xo ρ σ H F S Q W tk G
  obtain ⟨f, h1, h2⟩ := xo.glob x _ hl
  exact PE.d (pe_glob (X := X) (v := .ref f) (glB_ok xo hg) h2 rfl (plainN_ok hp).1) (G.now S _ (.fn h1))

/-! ### operators -/
theorem se_bin {op : Bop} {a b : Expr} {ia ib : E} {pos : Pos} (ha : SE g Φ k ct a ia) (hb : SE g Φ k ct b ib) : SE g Φ k ct (.BinOp a (bopP op) b pos) (.bin op ia ib) := by
  intro X xo ρ σ H F S Q W tk G
  refine PE.d (pe_op op_D pe_D pe_D) ?_
  refine ha.go xo S tk G fun v r ρ1 H1 F1 b1 q1 G1 => ?_
  refine hb.go xo b1.sim tk G1 fun u r2 ρ2 H2 F2 b2 q2 G2 => ?_
  obtain ⟨d, e, l1, l2, G3⟩ := op2_in G2
  obtain ⟨a, hr, G4⟩ := toRs_in G3
  exact bin_ok xo.rm hr b2.sim.sub ((q1.later b1.sim b2).rd b2.sim l1) (q2.rd b2.sim l2) fun v' H' z => res_end b2.sim (fun c z => b2.stp.live c (b1.stp.live c z)) G4 z
/-- the operands, then the comparison -/
theorem cmp_core {op : Cop} {a b : Expr} {ia ib : E} (ha : SE g Φ k ct a ia) (hb : SE g Φ k ct b ib) (xo : XOk g Φ k ct X) (S : Sim g ρ σ H F) (tk : Takes X W) {Ok : Vr → En → Hp → Hp → Prop} {R : VK} (G : GdR g ρ σ H F (evE Φ (.cmp op ia ib) ρ) Ok W)
    (K : ∀ c ρ' H' F', Bh g ρ σ H F ρ' σ H' F' → Ok (.v (.bl c)) ρ' H' F' → R (.bl c) H') : DE X a σ H fun x H1 => DE X b σ H1 fun y H2 => DOp X (compareOp (copP op)) x y H2 R := by
  refine ha.go xo S tk G fun v r ρ1 H1 F1 b1 q1 G1 => ?_
  refine hb.go xo b1.sim tk G1 fun u r2 ρ2 H2 F2 b2 q2 G2 => ?_
  obtain ⟨d, e, l1, l2, G3⟩ := op2_in G2
  obtain ⟨a, hr, G4⟩ := toRb_in G3
  exact cmp_ok xo.rm hr b2.sim.sub ((q1.later b1.sim b2).rd b2.sim l1) (q2.rd b2.sim l2) (K _ _ _ _ (b1.trans b2) (G4.now b2.sim))
def markB (op : Cop) (b : Expr) : Bool := !behindInMarks (copP op) b
theorem markB_ok {op : Cop} {b : Expr} (h : markB op b = true) : behindInMarks (copP op) b = false := by
  unfold markB at h
  simpa using h
theorem se_cmp {op : Cop} {a b : Expr} {ia ib : E} {pos : Pos} (ha : SE g Φ k ct a ia) (hb : SE g Φ k ct b ib) (hm : markB op b = true) : SE g Φ k ct (.Compare a [copP op] [b] pos) (.cmp op ia ib) := by
  intro X xo ρ σ H F S Q W tk G
  refine PE.d (pe_cmpR op_D pe_D pe_D (markB_ok hm)) ?_
  exact cmp_core ha hb xo S tk G fun c ρ' H' F' _ z => z _ (.bl c)
theorem st_cmp {op : Cop} {a b : Expr} {ia ib : E} {pos : Pos} (ha : SE g Φ k ct a ia) (hb : SE g Φ k ct b ib) (hm : markB op b = true) : ST g Φ k ct (.Compare a [copP op] [b] pos) (.val (.cmp op ia ib)) := by
  intro X xo ρ σ H F S Q W tk G
  refine PT.d (pt_cmpR op_D pe_D pe_D (markB_ok hm)) ?_
  unfold evT at G
  exact cmp_core ha hb xo S tk G.step fun c ρ' H' F' b z => ⟨c, rfl, GdR.now b.sim z⟩
theorem chain_core {o1 o2 : Cop} {a b c : Expr} {ia ib ic : E} (ha : SE g Φ k ct a ia) (hb : SE g Φ k ct b ib) (hc : SE g Φ k ct c ic) (xo : XOk g Φ k ct X) (S : Sim g ρ σ H F) (tk : Takes X W) {Ok : Vr → En → Hp → Hp → Prop} {R : VK} (G : GdR g ρ σ H F (evE Φ (.chain o1 o2 ia ib ic) ρ) Ok W)
    (K : ∀ c ρ' H' F', Bh g ρ σ H F ρ' σ H' F' → Ok (.v (.bl c)) ρ' H' F' → R (.bl c) H') : tChain (DOp X (compareOp (copP o1))) (DOp X (compareOp (copP o2))) (DE X a) (DE X b) (DE X c) σ H R := by
  refine ha.go xo S tk G fun v r ρ1 H1 F1 b1 q1 G1 => ?_
  refine hb.go xo b1.sim tk G1 fun u r2 ρ2 H2 F2 b2 q2 G2 => ?_
  obtain ⟨d, e, l1, l2, G3⟩ := op2_in G2
  cases hr : cmpD o1 d e with
  | none => rw [hr] at G3; exact G3.elim
  | some t =>
    rw [hr] at G3
    refine cmp_ok xo.rm hr b2.sim.sub ((q1.later b1.sim b2).rd b2.sim l1) (q2.rd b2.sim l2) ⟨t, rfl, ?_⟩
    cases t with
    | false => exact K _ _ _ _ (b1.trans b2) (G3.now b2.sim)
    | true =>
      rw [if_pos rfl]
      refine hc.go xo b2.sim tk G3 fun w r3 ρ3 H3 F3 b3 q3 G4 => ?_
      obtain ⟨d', e', l3, l4, G5⟩ := op2_in G4
      obtain ⟨t, hr', G6⟩ := toRb_in G5
      exact cmp_ok xo.rm hr' b3.sim.sub ((q2.later b2.sim b3).rd b3.sim l3) (q3.rd b3.sim l4) (K _ _ _ _ ((b1.trans b2).trans b3) (G6.now b3.sim))
def marksB (o1 o2 : Cop) (b c : Expr) : Bool := !lastMarks [copP o1, copP o2] [b, c]
theorem marksB_ok {o1 o2 : Cop} {b c : Expr} (h : marksB o1 o2 b c = true) : lastMarks [copP o1, copP o2] [b, c] = false := by
  unfold marksB at h
  simpa using h
theorem se_chain {o1 o2 : Cop} {a b c : Expr} {ia ib ic : E} {pos : Pos} (ha : SE g Φ k ct a ia) (hb : SE g Φ k ct b ib) (hc : SE g Φ k ct c ic) (hm : marksB o1 o2 b c = true) : SE g Φ k ct (.Compare a [copP o1, copP o2] [b, c] pos) (.chain o1 o2 ia ib ic) := by
  intro X xo ρ σ H F S Q W tk G
  refine PE.d (pe_chain op_D op_D pe_D pe_D pe_D (marksB_ok hm)) ?_
  exact chain_core ha hb hc xo S tk G fun c ρ' H' F' _ z => z _ (.bl c)
theorem st_chain {o1 o2 : Cop} {a b c : Expr} {ia ib ic : E} {pos : Pos} (ha : SE g Φ k ct a ia) (hb : SE g Φ k ct b ib) (hc : SE g Φ k ct c ic) (hm : marksB o1 o2 b c = true) : ST g Φ k ct (.Compare a [copP o1, copP o2] [b, c] pos) (.val (.chain o1 o2 ia ib ic)) := by
  intro X xo ρ σ H F S Q W tk G
  refine PT.d (pt_chain op_D op_D pe_D pe_D pe_D (marksB_ok hm)) ?_
  unfold evT at G
  exact chain_core ha hb hc xo S tk G.step fun c ρ' H' F' b z => ⟨c, rfl, GdR.now b.sim z⟩
theorem se_and {a b : Expr} {rest : List Expr} {ia ib : E} {pos : Pos} (ha : SE g Φ k ct a ia) (hb : SE g Φ k ct (.BoolOp .And (b :: rest) pos) ib) : SE g Φ k ct (.BoolOp .And (a :: b :: rest) pos) (.and ia ib) := by
  intro X xo ρ σ H F S Q W tk G
  refine PE.d (pe_andT pe_D pe_D) ?_
  refine ha.go xo S tk G fun v r ρ1 H1 F1 b1 q1 G1 => ?_
  obtain ⟨d, l1, G2⟩ := op1_in G1
  cases ht : truth d with
  | none => rw [ht] at G2; exact G2.elim
  | some t =>
    rw [ht] at G2
    refine ⟨t, tru_of xo.rm ht b1.sim.sub (q1.rd b1.sim l1), ?_⟩
    cases t with
    | true =>
      rw [if_pos rfl]
      exact hb X xo ρ1 σ H1 F1 b1.sim Q W tk (G2.imp fun r ρ' H' F' _ z v hv => z v (hv.before b1.stp.live))
    | false => exact G2.now b1.sim v q1
theorem se_or {a b : Expr} {rest : List Expr} {ia ib : E} {pos : Pos} (ha : SE g Φ k ct a ia) (hb : SE g Φ k ct (.BoolOp .Or (b :: rest) pos) ib) : SE g Φ k ct (.BoolOp .Or (a :: b :: rest) pos) (.or ia ib) := by
  intro X xo ρ σ H F S Q W tk G
  refine PE.d (pe_orT pe_D pe_D) ?_
  refine ha.go xo S tk G fun v r ρ1 H1 F1 b1 q1 G1 => ?_
  obtain ⟨d, l1, G2⟩ := op1_in G1
  cases ht : truth d with
  | none => rw [ht] at G2; exact G2.elim
  | some t =>
    rw [ht] at G2
    refine ⟨t, tru_of xo.rm ht b1.sim.sub (q1.rd b1.sim l1), ?_⟩
    cases t with
    | true =>
      rw [if_pos rfl]
      exact G2.now b1.sim v q1
    | false => exact hb X xo ρ1 σ H1 F1 b1.sim Q W tk (G2.imp fun r ρ' H' F' _ z v hv => z v (hv.before b1.stp.live))
theorem se_one {op : BoolOp} {a : Expr} {ia : E} {pos : Pos} (ha : SE g Φ k ct a ia) : SE g Φ k ct (.BoolOp op [a] pos) ia := by
  intro X xo ρ σ H F S Q W tk G
  exact PE.d (pe_one pe_D) (ha X xo ρ σ H F S Q W tk G)
theorem se_not {a : Expr} {ia : E} {pos : Pos} (ha : SE g Φ k ct a ia) : SE g Φ k ct (.UnaryOp .Not a pos) (.not ia) := by
  intro X xo ρ σ H F S Q W tk G
  refine PE.d (pe_notT pe_D) ?_
  refine ha.go xo S tk G fun v r ρ1 H1 F1 b1 q1 G1 => ?_
  obtain ⟨d, l1, G2⟩ := op1_in G1
  cases ht : truth d with
  | none => rw [ht] at G2; exact G2.elim
  | some t =>
    rw [ht] at G2
    exact ⟨t, tru_of xo.rm ht b1.sim.sub (q1.rd b1.sim l1), G2.now b1.sim _ (.bl _)⟩
theorem se_ifx {c a b : Expr} {it : T} {ia ib : E} {pos : Pos} (hc : ST g Φ k ct c it) (ha : SE g Φ k ct a ia) (hb : SE g Φ k ct b ib) : SE g Φ k ct (.IfExp c a b pos) (.ifx it ia ib) := by
  intro X xo ρ σ H F S Q W tk G
  refine PE.d (pe_ifExp pt_D pe_D pe_D) ?_
  refine hc.go xo S tk G fun t ρ1 H1 F1 b1 G1 => ?_
  cases t with
  | true => exact ha X xo ρ1 σ H1 F1 b1.sim Q W tk (GdR.imp G1 fun r ρ' H' F' _ z v hv => z v (hv.before b1.stp.live))
  | false => exact hb X xo ρ1 σ H1 F1 b1.sim Q W tk (GdR.imp G1 fun r ρ' H' F' _ z v hv => z v (hv.before b1.stp.live))

/-! ### tests -/
/-- an expression that isTrue evaluates as a whole -/
def wholeB : Expr → Bool
  | .UnaryOp .Not _ _ => false
  | .BoolOp _ _ _ => false
  | .IfExp _ _ _ _ => false
  | .Compare _ _ _ _ => false
  | _ => true
theorem whole_eq {e : Expr} {env : Env} (h : wholeB e = true) : ∀ whole, isTrue e env whole = (do let v ← whole; standAt e.pos; holding [v] (truthy v)) := by
  intro whole
  cases e <;> first | (cases h; done) | rfl | skip
  rename_i op a pos
  cases op <;> first | (cases h; done) | rfl
theorem st_val {a : Expr} {ia : E} (ha : SE g Φ k ct a ia) (hw : wholeB a = true) : ST g Φ k ct a (.val ia) := by
  intro X xo ρ σ H F S Q W tk G
  refine PT.d (pt_truth pe_D (whole_eq hw)) ?_
  refine ha.go xo S tk G fun v r ρ1 H1 F1 b1 q1 G1 => ?_
  obtain ⟨d, l1, G2⟩ := op1_in G1
  cases ht : truth d with
  | none => rw [ht] at G2; exact G2.elim
  | some t =>
    rw [ht] at G2
    exact ⟨t, tru_of xo.rm ht b1.sim.sub (q1.rd b1.sim l1), G2.now b1.sim⟩
theorem st_not {a : Expr} {ia : T} {pos : Pos} (ha : ST g Φ k ct a ia) : ST g Φ k ct (.UnaryOp .Not a pos) (.not ia) := by
  intro X xo ρ σ H F S Q W tk G
  refine PT.d (pt_not pt_D) ?_
  exact ha.go xo S tk G fun t ρ1 H1 F1 b1 G1 => G1.now b1.sim
theorem stw_and {a b : Expr} {rest : List Expr} {ia ib : T} {pos : Pos} (ha : ST g Φ k ct a ia) (hb : STw g Φ k ct (.BoolOp .And (b :: rest) pos) ib) : STw g Φ k ct (.BoolOp .And (a :: b :: rest) pos) (.and ia ib) := by
  intro X xo ρ σ H F S Q W tk G
  refine PW.d (pw_and pt_D pw_D) ?_
  refine ha.go xo S tk G fun t ρ1 H1 F1 b1 G1 => ?_
  cases t with
  | true => exact hb X xo ρ1 σ H1 F1 b1.sim Q W tk G1
  | false => exact G1.now b1.sim
theorem stw_or {a b : Expr} {rest : List Expr} {ia ib : T} {pos : Pos} (ha : ST g Φ k ct a ia) (hb : STw g Φ k ct (.BoolOp .Or (b :: rest) pos) ib) : STw g Φ k ct (.BoolOp .Or (a :: b :: rest) pos) (.or ia ib) := by
  intro X xo ρ σ H F S Q W tk G
  refine PW.d (pw_or pt_D pw_D) ?_
  refine ha.go xo S tk G fun t ρ1 H1 F1 b1 G1 => ?_
  cases t with
  | true => exact G1.now b1.sim
  | false => exact hb X xo ρ1 σ H1 F1 b1.sim Q W tk G1
theorem stw_and1 {a : Expr} {ia : T} {pos : Pos} (ha : ST g Φ k ct a ia) : STw g Φ k ct (.BoolOp .And [a] pos) ia := by
  intro X xo ρ σ H F S Q W tk G
  exact PW.d (pw_and1 pt_D) (ha X xo ρ σ H F S Q W tk G)
theorem stw_or1 {a : Expr} {ia : T} {pos : Pos} (ha : ST g Φ k ct a ia) : STw g Φ k ct (.BoolOp .Or [a] pos) ia := by
  intro X xo ρ σ H F S Q W tk G
  exact PW.d (pw_or1 pt_D) (ha X xo ρ σ H F S Q W tk G)
theorem STw.st {a : Expr} {ia : T} (ha : STw g Φ k ct a ia) : ST g Φ k ct a ia := by
  intro X xo ρ σ H F S Q W tk G
  have h := ha X xo ρ σ H F S Q W tk G
  exact fun pins s I => h _ pins s I

/-! ### items, slices -/
def plainIxB : Expr → Bool
  | .Slice _ _ _ _ => false
  | _ => true
theorem plainIxB_ok {b : Expr} (h : plainIxB b = true) : PlainIx b := by
  intro o i
  cases b <;> first | (cases h; done) | rfl
theorem se_sub {a b : Expr} {ia ib : E} {pos : Pos} (ha : SE g Φ k ct a ia) (hb : SE g Φ k ct b ib) (hp : plainIxB b = true) : SE g Φ k ct (.Subscript a b pos) (.sub ia ib) := by
  intro X xo ρ σ H F S Q W tk G
  refine PE.d (pe_ix (r := DIx X) (fun value slice pins s σ H x y v u Q I r1 r2 q hs => q value slice pins s σ v u I r1 r2 hs) pe_D pe_D (plainIxB_ok hp)) ?_
  refine ha.go xo S tk G fun v r ρ1 H1 F1 b1 q1 G1 => ?_
  refine hb.go xo b1.sim tk G1 fun u r2 ρ2 H2 F2 b2 q2 G2 => ?_
  obtain ⟨d, e, l1, l2, G3⟩ := op2_in G2
  cases hr : subD d e with
  | none => rw [hr] at G3; exact G3.elim
  | some t =>
    rw [hr] at G3
    exact sub_ok xo.rm hr b2.sim.sub ((q1.later b1.sim b2).rd b2.sim l1) (q2.rd b2.sim l2) fun v hv => G3.now b2.sim v hv
end
end Ev

set_option Elab.async false
set_option linter.all false
set_option maxRecDepth 100000
set_option maxHeartbeats 1000000
/-! Ev5b: slices, displays, built-in functions and methods, calls. Own work. -/
namespace Ev
open PySem PySem.Spec PyProof.Rows L2
section
variable {g : Gi} {Φ : Fns} {k : Nat} {ct : Ct} {X : Cx} {ρ ρ' ρ1 ρ2 : En} {σ σ' σ1 : St} {H F H' F' H0 H1 F1 H2 F2 : Hp} {W : WX}
/-! ### slices -/
def tO (X : Cx) : Option Expr → TO
  | none => tNoPart
  | some e => tPart (DE X e)
theorem po_D {e : Option Expr} : PO X e (tO X e) := by
  cases e with
  | none => exact po_none
  | some e => exact po_some pe_D
inductive SO (g : Gi) (Φ : Fns) (k : Nat) (ct : Ct) : Bool → Option Expr → E → Prop
  | no : SO g Φ k ct false none (.lit .non)
  | so {e : Expr} {ir : E} : SE g Φ k ct e ir → SO g Φ k ct true (some e) ir
theorem SO.go {b : Bool} {e : Option Expr} {ir : E} (h : SO g Φ k ct b e ir) (xo : XOk g Φ k ct X) (S : Sim g ρ σ H F) (tk : Takes X W) {β : Type} {f : Option Int → En → Rs β} {Ok : β → En → Hp → Hp → Prop}
    (G : GdR g ρ σ H F ((evE Φ ir ρ).bind fun y ρ => op1 ρ y fun l => match bound b l with
    | none => .err
    | some l => f l ρ) Ok W) {R : Option Int → Hp → Prop}
    (K : ∀ l ρ1 H1 F1, Bh g ρ σ H F ρ1 σ H1 F1 → GdR g ρ1 σ H1 F1 (f l ρ1) Ok W → R l H1) : tO X e σ H R := by
  cases h with
  | no => exact K none ρ H F (Bh.refl S) G
  | so h =>
    refine h.go xo S tk G fun v r ρ1 H1 F1 b1 q1 G1 => ?_
    obtain ⟨d, l1, G2⟩ := op1_in G1
    have hv := q1.rd b1.sim l1
    cases d with
    | int i => exact ⟨i, hv.int, K (some i) ρ1 H1 F1 b1 G2⟩
    | _ => exact G2.elim
theorem se_sl {a : Expr} {lo hi : Option Expr} {bl bh : Bool} {ia il ih : E} {p2 pos : Pos} (ha : SE g Φ k ct a ia) (hl : SO g Φ k ct bl lo il) (hh : SO g Φ k ct bh hi ih) : SE g Φ k ct (.Subscript a (.Slice lo hi none p2) pos) (.sl bl bh ia il ih) := by
  intro X xo ρ σ H F S Q W tk G
  refine PE.d (pe_slice sl_D pe_D po_D po_D) ?_
  refine ha.go xo S tk G fun v r ρ1 H1 F1 b1 q1 G1 => ?_
  refine hl.go xo b1.sim tk G1 fun l ρ2 H2 F2 b2 G2 => ?_
  refine hh.go xo b2.sim tk G2 fun u ρ3 H3 F3 b3 G3 => ?_
  obtain ⟨d, l1, G4⟩ := op1_in G3
  obtain ⟨a, hr, G5⟩ := toRs_in G4
  exact slice_ok xo.rm hr b3.sim.sub (((q1.later b1.sim b2).later b2.sim b3).rd b3.sim l1) fun v' H' z => res_end b3.sim (fun c z => b3.stp.live c (b2.stp.live c (b1.stp.live c z))) G5 z
theorem de_rev {a st : Expr} {p2 pos : Pos} {Q : VK} (h : DE X a σ H fun x H1 => tO X (some st) σ H1 fun o H2 => ∃ j, o = some j ∧ DRv X x j H2 Q) : DE X (.Subscript a (.Slice none none (some st) p2) pos) σ H Q := by
  intro pins s I
  refine Subscript_ (thn (h pins s I) fun v s1 ⟨x, H1, I1, r1, q1⟩ => ?_)
  refine wpAny_Slice ?_
  rw [evalPart_none]
  refine wpAny_pure ?_
  refine wpAny_pure ?_
  refine thn (po_D.run pins s1 σ H1 _ I1 q1) fun vs s4 ⟨o, H4, I4, pj, j, e, q4⟩ => ?_
  subst e
  exact q4 a st p2 pins s4 σ v vs I4 r1 pj
theorem se_rev {a st : Expr} {ia ib : E} {p2 pos : Pos} (ha : SE g Φ k ct a ia) (hb : SE g Φ k ct st ib) : SE g Φ k ct (.Subscript a (.Slice none none (some st) p2) pos) (.rev ia ib) := by
  intro X xo ρ σ H F S Q W tk G
  refine de_rev ?_
  refine ha.go xo S tk G fun v r ρ1 H1 F1 b1 q1 G1 => ?_
  refine hb.go xo b1.sim tk G1 fun u r2 ρ2 H2 F2 b2 q2 G2 => ?_
  obtain ⟨d, e, l1, l2, G3⟩ := op2_in G2
  cases e with
  | int j =>
    obtain ⟨a, hr, G4⟩ := toRs_in G3
    exact ⟨j, (q2.rd b2.sim l2).int, j, rfl, rev_ok xo.rm hr b2.sim.sub ((q1.later b1.sim b2).rd b2.sim l1) fun v' H' z => res_end b2.sim (fun c z => b2.stp.live c (b1.stp.live c z)) G4 z⟩
  | _ => exact G3.elim

/-! ### arguments -/
def nst : Expr → Bool
  | .Starred _ _ => false
  | _ => true
theorem star_eq {e : Expr} {es : List Expr} {env : Env} (h : nst e = true) : starEach (e :: es) env = (false, eval e env) :: starEach es env := by
  cases e <;> first | (cases h; done) | rfl
theorem star_plain {pos : Pos} {env : Env} : ∀ {es : List Expr}, es.all nst = true → (backTo pos (starEach es env)).any (·.1) = false
  | [], _ => rfl
  | e :: es, h => by
    rw [List.all_cons, Bool.and_eq_true] at h
    rw [star_eq h.1]
    show (false || (backTo pos (starEach es env)).any (·.1)) = false
    rw [star_plain h.2] <;> rfl
theorem star_all {pos : Pos} {env : Env} : ∀ {es : List Expr}, es.all nst = true → (backTo pos (starEach es env)).all (fun x => !x.1) = true
  | [], _ => rfl
  | e :: es, h => by
    rw [List.all_cons, Bool.and_eq_true] at h
    rw [star_eq h.1]
    show (!false && (backTo pos (starEach es env)).all fun x => !x.1) = true
    rw [star_all h.2] <;> rfl
theorem sa_nil : SA g Φ k ct [] .nil := by
  intro X xo ρ σ H F S Q W tk G
  exact PA.d pa_nil (G.now S [] .nil)
theorem sa_cons {e : Expr} {es : List Expr} {ie : E} {is : Es} (he : SE g Φ k ct e ie) (hs : SA g Φ k ct es is) (hn : nst e = true) : SA g Φ k ct (e :: es) (.cons ie is) := by
  intro X xo ρ σ H F S Q W tk G
  refine PA.d (pa_cons pe_D pa_D (star_eq hn)) ?_
  refine he.go xo S tk G fun v r ρ1 H1 F1 b1 q1 G1 => ?_
  refine hs.go xo b1.sim tk G1 fun vs rs ρ2 H2 F2 b2 q2 G2 => ?_
  refine G2.now b2.sim _ (.cons (q1.later b1.sim b2) (fun d e i d' hi hv => ?_) (q2.before b1.stp.live))
  subst e
  obtain ⟨w, hw, q3⟩ := q2.at hi
  rw [hv] at hw
  cases hw
  obtain ⟨a, e1, n1, _⟩ := q3
  obtain ⟨a', e2, _, _, c, _⟩ := q1
  rw [e1] at e2
  cases e2
  exact c.there n1

/-! ### displays -/
theorem keepAll_in {rs : List Vr} {β : Type} {f : List D → En → Rs β} {Ok : β → En → Hp → Hp → Prop} (G : GdR g ρ σ H F ((keepAll rs ρ1).bind f) Ok W) : ∃ ds ρ', keepAll rs ρ1 = .ok ds ρ' ∧ GdR g ρ σ H F (f ds ρ') Ok W := by
  have nx : ∀ (rs : List Vr) (ρ : En) x ρ', keepAll rs ρ ≠ .ex x ρ' := by
    intro rs
    induction rs with
    | nil => intro ρ x ρ' h; cases h
    | cons r rs ih =>
      intro ρ x ρ' h
      unfold keepAll at h
      cases hk : keep ρ r with
      | ok d ρ1 =>
        rw [hk] at h
        simp only [Rs.bind] at h
        cases hk2 : keepAll rs ρ1 with
        | ok ds ρ2 => rw [hk2] at h; cases h
        | ex y ρ2 => exact ih ρ1 y ρ2 hk2
        | err => rw [hk2] at h; cases h
      | ex y ρ1 =>
        cases r with
        | v d => cases hk
        | o d => cases hk
        | s i => rw [keep_s] at hk; split at hk <;> cases hk
      | err => rw [hk] at h; cases h
  cases h : keepAll rs ρ1 with
  | ok ds ρ' => rw [h] at G; exact ⟨ds, ρ', rfl, G⟩
  | ex x ρ' => exact absurd h (nx _ _ _ _)
  | err => rw [h] at G; exact G.elim
theorem keep_in {r : Vr} {β : Type} {f : D → En → Rs β} {Ok : β → En → Hp → Hp → Prop} (G : GdR g ρ σ H F ((keep ρ1 r).bind f) Ok W) : ∃ d ρ', keep ρ1 r = .ok d ρ' ∧ GdR g ρ σ H F (f d ρ') Ok W := by
  cases h : keep ρ1 r with
  | ok d ρ' => rw [h] at G; exact ⟨d, ρ', rfl, G⟩
  | ex x ρ' =>
    cases r with
    | v d => cases h
    | o d => cases h
    | s i => rw [keep_s] at h; split at h <;> cases h
  | err => rw [h] at G; exact G.elim
/-- .. what is wanted seen from ahead -/
theorem SA.goB {es : List Expr} {ir : Es} (h : SA g Φ k ct es ir) (xo : XOk g Φ k ct X) (S : Sim g ρ σ H F) (tk : Takes X W) {β : Type} {f : List Vr → En → Rs β} {Ok : β → En → Hp → Hp → Prop} (G : GdR g ρ σ H F ((evEs Φ ir ρ).bind f) Ok W) {R : List V → Hp → Prop}
    (K : ∀ vs rs ρ1 H1 F1, Bh g ρ σ H F ρ1 σ H1 F1 → VrRels g ρ1 σ H1 F1 H vs rs → GdR g ρ σ H F (f rs ρ1) Ok W → evEs Φ ir ρ = .ok rs ρ1 → R vs H1) : DA X es σ H R := by
  refine h X xo ρ σ H F S R W tk ?_
  cases he : evEs Φ ir ρ with
  | ok rs ρ1 => rw [he] at G; exact fun H' F' b vs hv => K vs rs ρ1 H' F' b hv G he
  | ex x ρ1 => rw [he] at G; exact G
  | err => rw [he] at G; exact G
theorem SE.goB {e : Expr} {ir : E} (h : SE g Φ k ct e ir) (xo : XOk g Φ k ct X) (S : Sim g ρ σ H F) (tk : Takes X W) {β : Type} {f : Vr → En → Rs β} {Ok : β → En → Hp → Hp → Prop} (G : GdR g ρ σ H F ((evE Φ ir ρ).bind f) Ok W) {R : VK}
    (K : ∀ v r ρ1 H1 F1, Bh g ρ σ H F ρ1 σ H1 F1 → VrRel g ρ1 σ H1 F1 H v r → GdR g ρ σ H F (f r ρ1) Ok W → R v H1) : DE X e σ H R := by
  refine h X xo ρ σ H F S R W tk ?_
  cases he : evE Φ ir ρ with
  | ok r ρ1 => rw [he] at G; exact fun H' F' b v hv => K v r ρ1 H' F' b hv G
  | ex x ρ1 => rw [he] at G; exact G
  | err => rw [he] at G; exact G
/-- a new object behind what stands -/
theorem Bh.res {v : V} {r : Vr} (b : Bh g ρ σ H F ρ1 σ H1 F1) (h : Res g H1 F1 r v H2) : ∃ F2, Bh g ρ σ H F ρ1 σ H2 F2 ∧ VrRel g ρ1 σ H2 F2 H v r := by
  obtain ⟨F2, S2, st, rr⟩ := b.sim.res h
  exact ⟨F2, b.trans ⟨S2, st, Keeps.refl _, Pv.refl⟩, rr.before b.stp.live⟩
theorem se_tup {es : List Expr} {is : Es} {j : Nat} {pos : Pos} (hs : SA g Φ k ct es is) : SE g Φ k ct (.Tuple es j pos) (.tup is) := by
  intro X xo ρ σ H F S Q W tk G
  refine PE.d (pe_tup pa_D) ?_
  refine hs.goB xo S tk G fun vs rs ρ1 H1 F1 b1 q1 G1 _ => ?_
  obtain ⟨ds, ρ2, hk, G2⟩ := keepAll_in G1
  split at G2
  case isFalse => exact G2.elim
  rename_i hz
  obtain ⟨F2, b2, rd, _⟩ := keepAll_bh b1 q1 hk
  refine ⟨by rw [rd.length, ← LIM_eq]; exact hz, fun a ha => ?_⟩
  obtain ⟨F3, b3, rr⟩ := b2.res (Res.tup b2.sim.sub ha rd)
  exact G2 _ F3 b3 _ rr
theorem se_lst {es : List Expr} {is : Es} {pos : Pos} (hs : SA g Φ k ct es is) : SE g Φ k ct (.List es pos) (.lst is) := by
  intro X xo ρ σ H F S Q W tk G
  refine PE.d (pe_lst pa_D) ?_
  refine hs.goB xo S tk G fun vs rs ρ1 H1 F1 b1 q1 G1 _ => ?_
  obtain ⟨ds, ρ2, hk, G2⟩ := keepAll_in G1
  split at G2
  case isFalse => exact G2.elim
  rename_i hz
  obtain ⟨F2, b2, rd, _⟩ := keepAll_bh b1 q1 hk
  refine ⟨by rw [rd.length, ← LIM_eq]; exact hz, fun a ha => ?_⟩
  obtain ⟨F3, b3, rr⟩ := b2.res (Res.lst b2.sim.sub ha rd)
  exact G2 _ F3 b3 _ rr

/-! ### built-in functions -/
def biN : Bi → Str
  | .len => "len" | .int => "int" | .max2 => "max" | .min2 => "min" | .sum => "sum" | .list => "list" | .tuple => "tuple" | .dict => "dict" | .repr => "repr" | .sorted => "sorted"
  | .isint => "isinstance" | .isbool => "isinstance" | .isstr => "isinstance" | .islist => "isinstance" | .istuple => "isinstance" | .isseq => "isinstance" | .isbox => "isinstance" | .gcd => "isinstance"
def biV : Bi → Value
  | .len => .builtin "len" | .int => .type "int" | .max2 => .builtin "max" | .min2 => .builtin "min" | .sum => .builtin "sum" | .list => .type "list" | .tuple => .type "tuple" | .dict => .type "dict" | .repr => .builtin "repr" | .sorted => .builtin "sorted"
  | _ => .builtin "isinstance"
def biCalm : Bi → Bool
  | .max2 => true | .min2 => true | .sum => true | .list => true | .dict => true | .sorted => true
  | _ => false
theorem boot_bi (f : Bi) : bootBuiltins (biN f) = some (biV f) := by cases f <;> decide +kernel
theorem biN_ok (f : Bi) : biN f ≠ ("__name__" : Str) ∧ (biN f == ("__debug__" : Str)) = false := by cases f <;> exact ⟨by decide +kernel, by decide +kernel⟩
theorem bi_ok {f : Bi} {r : Vr} {vs : List V} {ds : List D} {bc : Bool} {Q : VK} (m : Rm g bc X) (hc : biCalm f = true → bc = true) (hi : isiB f = false) (h : biD f ds = some r) (s : Same F H) (hx : RdHs g H F vs ds) (K : ∀ v H', Res g H F r v H' → Q v H') : DCall X (biV f) vs H Q := by
  cases f with
  | len => exact len_ok m h s hx K
  | int => exact int_ok m h s hx K
  | max2 => cases hc rfl; exact max_ok m h s hx K
  | min2 => cases hc rfl; exact min_ok m h s hx K
  | sum => cases hc rfl; exact sum_ok m h s hx K
  | list => cases hc rfl; exact list_ok m h s hx K
  | tuple => exact tuple_ok m h s hx K
  | dict => cases hc rfl; exact dict_ok m h s hx K
  | repr => exact repr_ok m h s hx K
  | sorted => cases hc rfl; exact sorted_ok m h s hx K
  | isint => cases hi
  | isbool => cases hi
  | isstr => cases hi
  | islist => cases hi
  | istuple => cases hi
  | isseq => cases hi
  | isbox => cases hi
  | gcd => cases hi
def isTy : Bi → Bool
  | .int => true | .list => true | .tuple => true | .dict => true
  | _ => false
theorem se_bi {f : Bi} {e : Expr} {es : List Expr} {is : Es} {p pos : Pos} (hg : glB ct.sc (biN f) = true) (hl : ct.gl.lookup (biN f) = some .free) (hi : isiB f = false) (hc : (!biCalm f || ct.calm) = true) (hn : (e :: es).all nst = true) (hs : SA g Φ k ct (e :: es) is) :
    SE g Φ k ct (.Call (.Name (biN f) p) (e :: es) [] pos) (.bi f is) := by
  intro X xo ρ σ H F S Q W tk G
  have hm : X.mg (biN f) = none := xo.glob _ _ hl
  have hc' : biCalm f = true → ct.calm = true := fun h => by rw [h] at hc; simpa using hc
  have hn1 : nst e = true := by rw [List.all_cons, Bool.and_eq_true] at hn; exact hn.1
  have hn2 : es.all nst = true := by rw [List.all_cons, Bool.and_eq_true] at hn; exact hn.2
  have main : DA X (e :: es) σ H fun vs H1 => DCall X (biV f) vs H1 Q := by
    refine hs.go xo S tk G fun vs rs ρ1 H1 F1 b1 q1 G1 => ?_
    split at G1
    · rename_i ds hd
      obtain ⟨a, hr, G2⟩ := toRs_in G1
      exact bi_ok xo.rm hc' hi hr b1.sim.sub (lookAll_rd b1.sim q1 hd) fun v' H' z => res_end b1.sim b1.stp.live G2 z
    · exact G1.elim
  have two : ∀ id, biV f = .builtin id → DE X (.Call (.Name (biN f) p) (e :: es) [] pos) σ H Q := fun id hid => by
    rw [hid] at main
    exact PE.d (pe_callB call_D (glB_ok xo hg) hm (by rw [boot_bi, hid]) pa_D (biN_ok f).1 (biN_ok f).2 (star_eq hn1) (star_plain hn2)) main
  have one : ∀ T, biV f = .type T → DE X (.Call (.Name (biN f) p) (e :: es) [] pos) σ H Q := fun id hid => by
    rw [hid] at main
    exact PE.d (pe_callTy call_D (glB_ok xo hg) hm (by rw [boot_bi, hid]) pa_D (biN_ok f).1 (biN_ok f).2 (star_eq hn1) (star_plain hn2)) main
  cases f <;> first | exact two _ rfl | exact one _ rfl | (cases hi; done)
theorem boot_ty : bootBuiltins "int" = some (.type "int") ∧ bootBuiltins "bool" = some (.type "bool") ∧ bootBuiltins "str" = some (.type "str") ∧ bootBuiltins "list" = some (.type "list") ∧ bootBuiltins "tuple" = some (.type "tuple") := ⟨by decide +kernel, by decide +kernel, by decide +kernel, by decide +kernel, by decide +kernel⟩
theorem isi_boot {f : Bi} {c : String} (h : isiN f = some c) : bootBuiltins (Str.ofString c) = some (.type c) ∧ (Str.ofString c) ≠ ("__name__" : Str) ∧ ((Str.ofString c) == ("__debug__" : Str)) = false := by
  cases f <;> simp only [isiN] at h <;> cases h <;> exact ⟨by decide +kernel, by decide +kernel, by decide +kernel⟩
theorem se_isi {f : Bi} {c : String} {e : Expr} {ie : E} {p p2 pos : Pos} (hf : isiN f = some c) (hg : glB ct.sc (Str.ofString "isinstance") = true) (hl : ct.gl.lookup (Str.ofString "isinstance") = some .free) (hg2 : glB ct.sc (Str.ofString c) = true) (hl2 : ct.gl.lookup (Str.ofString c) = some .free) (hn : nst e = true) (he : SE g Φ k ct e ie) :
    SE g Φ k ct (.Call (.Name (Str.ofString "isinstance") p) [e, .Name (Str.ofString c) p2] [] pos) (.bi f (.cons ie .nil)) := by
  intro X xo ρ σ H F S Q W tk G
  have hm : X.mg "isinstance" = none := xo.glob _ _ hl
  have hm2 : X.mg (Str.ofString c) = none := xo.glob _ _ hl2
  obtain ⟨z1, z2, z3⟩ := isi_boot hf
  refine PE.d (pe_callB call_D (glB_ok xo hg) hm (boot_bi .isint) (pa_cons pe_D (pa_cons (pe_bltn (v := .ty c) (glB_ok xo hg2) hm2 z1 rfl z2 z3) pa_nil) (star_eq hn)) (by decide +kernel) (by decide +kernel) (star_eq hn) rfl) ?_
  have G' : GdR g ρ σ H F ((evE Φ ie ρ).bind fun x ρ => match look ρ x with
    | some d => toRs (biD f [d]) ρ
    | none => .err) (OkE g σ H Q) W := by
    have e : (evE Φ (.bi f (.cons ie .nil)) ρ) = ((evE Φ ie ρ).bind fun x ρ => match look ρ x with
      | some d => toRs (biD f [d]) ρ
      | none => .err) := by
      simp only [evE, evEs]
      cases evE Φ ie ρ with
      | ok x ρ1 =>
        simp only [Rs.bind, lookAll]
        cases look ρ1 x <;> rfl
      | ex x ρ1 => rfl
      | err => rfl
    rw [← e]
    exact G
  refine he.go xo S tk G' fun v r ρ1 H1 F1 b1 q1 G1 => ?_
  split at G1
  · rename_i d hd
    obtain ⟨a, hr, G2⟩ := toRs_in G1
    exact isi_all hf xo.rm hr b1.sim.sub (q1.rd b1.sim hd) fun v' H' z => res_end b1.sim b1.stp.live G2 z
  · exact G1.elim
end
end Ev

set_option Elab.async false
set_option linter.all false
set_option maxRecDepth 100000
set_option maxHeartbeats 1000000
/-! Ev5c: methods, calls of the text's own defs. Own work. -/
namespace Ev
open PySem PySem.Spec PyProof.Rows L2
section
variable {g : Gi} {Φ : Fns} {k : Nat} {ct : Ct} {X : Cx} {ρ ρ' ρ0 ρ1 ρ2 : En} {σ σ' σ1 : St} {H F H' F' H0 F0 H1 F1 H2 F2 : Hp} {W : WX}
/-! ### methods -/
theorem own_ne : Md.own ≠ Md.fz := by decide
theorem mut_bh (S : Sim g ρ σ H F) {i : Nat} {l : Addr} {d d' : D} {o : HO} (h : ρ.get i = some ⟨.own, d⟩) (hv : σ[i]? = some (some (.ref l))) (hn : F l = none) (c : Cell g (upd H l o) F l d') : Bh g ρ σ H F (ρ.set i (some ⟨.own, d'⟩)) σ (upd H l o) F := by
  have hi := get_lt h
  have hH := (S.ownL ⟨i, _, h, own_ne, hv⟩).1
  have ownl : ∀ b, OwnL (ρ.set i (some ⟨.own, d'⟩)) σ b → OwnL ρ σ b := fun b ⟨j, t, h1, h2, h3⟩ => by
    rw [get_set hi] at h1
    split at h1
    · rename_i q; subst q; exact ⟨i, _, h, own_ne, h3⟩
    · exact ⟨j, t, h1, h2, h3⟩
  have own : ∀ b, Own (ρ.set i (some ⟨.own, d'⟩)) σ b → Own ρ σ b := fun b ⟨j, t, h1, h2, h3⟩ => by
    rw [get_set hi] at h1
    split at h1
    · rename_i q; subst q; exact ⟨i, _, h, rfl, h3⟩
    · exact ⟨j, t, h1, h2, h3⟩
  have back : ∀ j t, En.get (ρ.set i (some ⟨.own, d'⟩)) j = some t → t.m ≠ .fz → ∃ t', ρ.get j = some t' ∧ t'.m ≠ .fz := fun j t h1 m => by
    rw [get_set hi] at h1
    split at h1
    · rename_i q; subst q; exact ⟨_, h, own_ne⟩
    · exact ⟨t, h1, m⟩
  refine ⟨⟨by rw [List.length_set]; exact S.len, fun b u z => ?_, fun j t hj => ?_, fun j j' s t a h1 h2 m1 m2 v1 v2 => ?_⟩, ⟨Same.refl F, fun b z => .inl z, fun b u z n => ?_, fun b z => ?_, fun b z => .inl (own b z), fun b z => .inl (ownl b z)⟩, fun j hj => ?_, fun j a ⟨s, h1, h2, h3⟩ => .inl ?_, fun j a ⟨s, h1, h2, h3⟩ => .inl ?_⟩
  · rw [upd_ne (ne_of_none z hn)]; exact S.sub b u z
  · rw [get_set hi] at hj
    split at hj
    · rename_i q
      subst q
      cases hj
      exact ⟨_, hv, l, rfl, hn, c⟩
    · rename_i q
      obtain ⟨w, e, r⟩ := S.val j t hj
      refine ⟨w, e, r.mono (Same.refl F) fun a hm hw => ?_⟩
      subst hw
      have ne : a ≠ l := fun z => q (S.sep i j _ t l h hj (own_ne) hm hv (by rw [← z]; exact e))
      refine ⟨(S.ownL ⟨j, t, hj, hm, e⟩).2, upd_ne ne⟩
  · obtain ⟨s', g1, n1⟩ := back j s h1 m1
    obtain ⟨t', g2, n2⟩ := back j' t h2 m2
    exact S.sep j j' s' t' a g1 g2 n1 n2 v1 v2
  · rw [upd_ne fun q => n (by rw [q]; exact ⟨i, _, h, rfl, hv⟩)]; exact z
  · by_cases q : b = l
    · subst q; rw [upd_same]; exact fun z => nomatch z
    · rw [upd_ne q]; exact z
  · rw [get_set hi]
    split
    · rfl
    · exact hj
  · rw [get_set hi] at h1
    split at h1
    · rename_i q; subst q; exact ⟨_, h, rfl, h3⟩
    · exact ⟨s, h1, h2, h3⟩
  · rw [get_set hi] at h1
    split at h1
    · rename_i q; subst q; exact ⟨_, h, own_ne, h3⟩
    · exact ⟨s, h1, h2, h3⟩
def baseB : Expr → Bool
  | .Call (.Name _ _) [] [] _ => false
  | _ => true
theorem baseB_ok {o : Expr} {n : Str} {env : Env} {m : Sem Value} (h : baseB o = true) : attributeBase o n env m = m := by
  unfold attributeBase
  split
  · cases h
  · rfl
theorem few_ok {cpos : Pos} {env : Env} {e : Expr} (hn : nst e = true) : ((backTo cpos (starEach [e] env)).all (fun x => !x.1) && (backToKw cpos (keywordEach [] env)).all (fun x => x.1.isSome)
      && decide ([e].length + ([] : List Keyword).length + (if ([] : List Keyword).isEmpty then 0 else 1) < 30)) = true := by
  rw [star_all (es := [e]) (by rw [List.all_cons, hn] <;> rfl)] <;> rfl
def lineB (a p : Pos) : Bool := a.endLine == p.line
theorem nst_all {e : Expr} (h : nst e = true) : [e].all nst = true := by rw [List.all_cons, h] <;> rfl
theorem tyV_str {x : V} (h : ∃ a, x = .str a) : tyV X.K "str" x H := by obtain ⟨a, rfl⟩ := h; rfl
theorem se_strip {o e : Expr} {io : E} {is : Es} {apos cpos : Pos} (hb : baseB o = true) (hl : lineB apos cpos = true) (hn : nst e = true) (ho : SE g Φ k ct o io) (hs : SA g Φ k ct [e] is) :
    SE g Φ k ct (.Call (.Attribute o (Str.ofString "strip") apos) [e] [] cpos) (.mth .strip io is) := by
  intro X xo ρ σ H F S Q W tk G
  refine PE.d (pe_bm PySem.F.plainAttrs_str PySem.F.slot_str_strip PySem.F.type_str_strip mt_D pe_D pa_D (baseB_ok hb) (few_ok hn) hl (star_eq hn) rfl) ?_
  refine ho.go xo S tk G fun v r ρ1 H1 F1 b1 q1 G1 => ?_
  obtain ⟨d, l1, G2⟩ := op1_in G1
  split at G2
  case isFalse => exact G2.elim
  rename_i hm
  have hx := q1.rd b1.sim l1
  refine ⟨tyV_str (by cases d <;> first | (cases hm; done) | exact ⟨_, hx.str.1⟩), ?_⟩
  refine hs.go xo b1.sim tk G2 fun vs rs ρ2 H2 F2 b2 q2 G3 => ?_
  unfold mthR at G3
  simp only at G3
  split at G3
  · rename_i d' ds l2 l3
    obtain ⟨a, hr, G4⟩ := toRs_in G3
    exact (strip_ok xo.rm hr b2.sim.sub ((q1.later b1.sim b2).rd b2.sim l2) (lookAll_rd b2.sim q2 l3) fun v' H' z => res_end b2.sim (fun c z => b2.stp.live c (b1.stp.live c z)) G4 z).1
  · exact G3.elim
theorem se_join {o e : Expr} {io : E} {is : Es} {apos cpos : Pos} (hb : baseB o = true) (hl : lineB apos cpos = true) (hn : nst e = true) (ho : SE g Φ k ct o io) (hs : SA g Φ k ct [e] is) :
    SE g Φ k ct (.Call (.Attribute o (Str.ofString "join") apos) [e] [] cpos) (.mth .join io is) := by
  intro X xo ρ σ H F S Q W tk G
  refine PE.d (pe_bm PySem.F.plainAttrs_str PySem.F.slot_str_join PySem.F.type_str_join mt_D pe_D pa_D (baseB_ok hb) (few_ok hn) hl (star_eq hn) rfl) ?_
  refine ho.go xo S tk G fun v r ρ1 H1 F1 b1 q1 G1 => ?_
  obtain ⟨d, l1, G2⟩ := op1_in G1
  split at G2
  case isFalse => exact G2.elim
  rename_i hm
  have hx := q1.rd b1.sim l1
  refine ⟨tyV_str (by cases d <;> first | (cases hm; done) | exact ⟨_, hx.str.1⟩), ?_⟩
  refine hs.go xo b1.sim tk G2 fun vs rs ρ2 H2 F2 b2 q2 G3 => ?_
  unfold mthR at G3
  simp only at G3
  split at G3
  · rename_i d' ds l2 l3
    obtain ⟨a, hr, G4⟩ := toRs_in G3
    exact (join_ok xo.rm hr b2.sim.sub ((q1.later b1.sim b2).rd b2.sim l2) (lookAll_rd b2.sim q2 l3) fun v' H' z => res_end b2.sim (fun c z => b2.stp.live c (b1.stp.live c z)) G4 z).1
  · exact G3.elim
theorem se_bits {o : Expr} {io : E} {apos cpos : Pos} (hb : baseB o = true) (hl : lineB apos cpos = true) (ho : SE g Φ k ct o io) :
    SE g Φ k ct (.Call (.Attribute o (Str.ofString "bit_length") apos) [] [] cpos) (.mth .bits io .nil) := by
  intro X xo ρ σ H F S Q W tk G
  refine PE.d (pe_bits pe_D (baseB_ok hb) hl) ?_
  refine ho.go xo S tk G fun v r ρ1 H1 F1 b1 q1 G1 => ?_
  obtain ⟨d, l1, G2⟩ := op1_in G1
  split at G2
  case isFalse => exact G2.elim
  have G3 : GdR g ρ1 σ H1 F1 (mthR .bits r [] ρ1) (OkE g σ H Q) W := G2
  unfold mthR at G3
  simp only [l1, lookAll] at G3
  obtain ⟨a, hr, G4⟩ := toRs_in G3
  exact (bits_ok hr b1.sim.sub (q1.rd b1.sim l1) .nil fun v' H' z => res_end b1.sim b1.stp.live G4 z).2
theorem se_append {o e : Expr} {io : E} {is : Es} {apos cpos : Pos} (hb : baseB o = true) (hl : lineB apos cpos = true) (hn : nst e = true) (ho : SE g Φ k ct o io) (hs : SA g Φ k ct [e] is) :
    SE g Φ k ct (.Call (.Attribute o (Str.ofString "append") apos) [e] [] cpos) (.mth .append io is) := by
  intro X xo ρ σ H F S Q W tk G
  refine PE.d (pe_bm PySem.F.plainAttrs_list PySem.F.slot_list_append PySem.F.type_list_append (mt_append : MtR X "list.append" rAppend) pe_D pa_D (baseB_ok hb) (few_ok hn) hl (star_eq hn) rfl) ?_
  refine ho.go xo S tk G fun v r ρ1 H1 F1 b1 q1 G1 => ?_
  obtain ⟨d, l1, G2⟩ := op1_in G1
  split at G2
  case isFalse => exact G2.elim
  rename_i hm
  have hx := q1.rd b1.sim l1
  have hlist : ∃ a xs, v = .ref a ∧ H1 a = some (.lst xs) := by
    cases d <;> first | (cases hm; done) | skip
    obtain ⟨a, xs, e1, e2, _⟩ := hx.lst b1.sim.sub
    exact ⟨a, xs, e1, e2⟩
  refine ⟨?_, ?_⟩
  · obtain ⟨a, xs, rfl, e⟩ := hlist
    exact .inl ⟨rfl, xs, .inl (.inl e)⟩
  refine hs.goB xo b1.sim tk G2 fun vs rs ρ2 H2 F2 b2 q2 G3 _ => ?_
  cases r with
  | v d => exact G3.elim
  | o d => exact G3.elim
  | s i =>
    cases q2 with
    | nil => exact G3.elim
    | cons h n t =>
      cases t with
      | cons _ _ _ => exact G3.elim
      | nil =>
        obtain ⟨d', ρ3, hk, G4⟩ := keep_in G3
        obtain ⟨F3, b3, rd, _⟩ := keep_bh b2 h hk
        split at G4
        · rename_i xs hs
          split at G4
          case isFalse => exact G4.elim
          rename_i hz
          have hσ := q1.1
          obtain ⟨w, e1, r2⟩ := b3.sim.val i _ hs
          rw [hσ] at e1
          cases e1
          obtain ⟨l, rfl, nl, c⟩ := r2
          rcases c with ⟨ws, ds, e2, hl, rr⟩ | ⟨_, _, _, e2, _⟩
          · cases e2
            refine ⟨l, ws, _, rfl, rfl, hl, by rw [rr.length, ← LIM_eq]; exact hz, ?_⟩
            have m := mut_bh b3.sim hs hσ nl (.inl ⟨_, _, rfl, upd_same, rr.append (.cons rd .nil)⟩)
            exact G4 _ F3 (b3.trans m) _ .non
          · cases e2
        · exact G4.elim
end
end Ev

set_option Elab.async false
set_option linter.all false
set_option maxRecDepth 100000
set_option maxHeartbeats 1000000
/-! Ev5d: calls of the text's own defs. Own work. -/
namespace Ev
open PySem PySem.Spec PyProof.Rows L2
section
variable {g : Gi} {Φ : Fns} {k : Nat} {ct : Ct} {X : Cx} {ρ ρ' ρ0 ρ1 ρ2 : En} {σ σ' σ1 : St} {H F H' F' H0 F0 H1 F1 H2 F2 : Hp} {W : WX}
theorem callR_gd {n : Nat} {vs : List V} {rs : List Vr} {Q : VK} (b : Bh g ρ0 σ H0 F0 ρ σ H F) (R : VrRels g ρ σ H F H0 vs rs) (G : GdR g ρ0 σ H0 F0 (callR Φ n rs ρ) (OkE g σ H0 Q) W) :
    ∃ as F1, Sim g (as.map some) (vs.map some) H F1 ∧ GdC g as vs H F1 (Φ n as) Q (WE W σ) := by
  unfold callR at G
  simp only at G
  obtain ⟨F1, b1, R1, dup⟩ := frzDup_bh (l := rs) b R
  cases ha : argsOf (frzDup rs ρ) rs with
  | none => rw [ha] at G; exact G.elim
  | some as =>
    rw [ha] at G
    refine ⟨as, F1, args_sim b1.sim R1 ha dup, ?_⟩
    simp only at G
    unfold GdC
    cases hc : Φ n as with
    | ret own d outs =>
      rw [hc] at G
      simp only at G
      intro hl v H' F' C hv
      rw [if_pos (hl.trans R.length)] at G
      obtain ⟨b2, nx⟩ := outs_bh b1 R1 ha (hl.trans R.length) C
      refine G H' F' b2 v (nx v _ hv fun i => ?_)
      cases own <;> exact fun z => nomatch z
    | ex x outs =>
      rw [hc] at G
      simp only at G
      intro hl cls dx H' F' C xr
      rw [if_pos (hl.trans R.length)] at G
      exact G cls dx H' F' (outs_bh b1 R1 ha (hl.trans R.length) C).1 xr
    | err => rw [hc] at G; exact G.elim
/-- the callee runs -/
theorem run_g {pins : List (Addr × Obj)} {s : Shared} {f : Addr} {fd : FuncData} {ps : List Str} {n : Nat} {us : List Value} {kw : List (Str × Value)} {us' : List Value} {vs : List V} {Q : VK} {as : List Sl} (xo : XOk g Φ k ct X) (hc : ct.calm = true) (tk : Takes X W)
    (FG : FnG X.prog X.w X.K X.mg X.base g Φ k f fd ps n) (I : Inv X pins σ H s) (hb : BindsTo s fd ⟨us, kw⟩ (ps.zip us')) (r : Vals vs us') (hl : vs.length = ps.length) (S : Sim g (as.map some) (vs.map some) H F) (G : GdC g as vs H F (Φ n as) Q (WE W σ)) :
    wpAny (model X.prog X.w) X.A (call (.ref f) us kw) (EP X pins σ Q) X.xe s := by
  have cd := FG X.A X.stack s H F ⟨us, kw⟩ us' vs as Q (WE W σ) (xo.room hc) xo.rm.guards I.env0 hb r hl S G
  refine wpAny_call (codeAny_mono cd fun r s' h => ?_)
  match r, h with
  | .error e, h => exact passAt tk σ pins H s e s' I h
  | .ok (.ret u), h => exact I.after h
  | .ok .next, h => exact h.elim
  | .ok .brk, h => exact h.elim
  | .ok .cont, h => exact h.elim
/-! ### the parameters' order -/
theorem VrRels.mk : ∀ {vs : List V} {rs : List Vr}, vs.length = rs.length → (∀ (i : Nat) v r, vs[i]? = some v → rs[i]? = some r → VrRel g ρ σ H F H0 v r) →
    (∀ (i j : Nat) (d d' : D) v, i < j → rs[i]? = some (.o d) → rs[j]? = some (.o d') → vs[i]? = some v → vs[j]? ≠ some v) → VrRels g ρ σ H F H0 vs rs
  | [], [], _, _, _ => .nil
  | [], _ :: _, h, _, _ => by cases h
  | _ :: _, [], h, _, _ => by cases h
  | v :: vs, r :: rs, hl, h1, h2 => .cons (h1 0 v r rfl rfl) (fun d e i d' hi => by
      subst e
      have := h2 0 (i + 1) d d' v (by omega) rfl (by simpa using hi) rfl
      simpa using this) (VrRels.mk (by simpa using hl) (fun i v r e1 e2 => h1 (i + 1) v r (by simpa using e1) (by simpa using e2)) fun i j d d' v hij e1 e2 e3 => by
        have := h2 (i + 1) (j + 1) d d' v (by omega) (by simpa using e1) (by simpa using e2) (by simpa using e3)
        simpa using this)
theorem pick_at {α : Type} : ∀ {pm : List Nat} {l r : List α}, pick pm l = some r → r.length = pm.length ∧ ∀ (i : Nat) a, r[i]? = some a → ∃ j, pm[i]? = some j ∧ l[j]? = some a
  | [], l, r, h => by cases h; exact ⟨rfl, fun i a h => by simp at h⟩
  | p :: pm, l, r, h => by
    unfold pick at h
    split at h
    · rename_i a r' e1 e2
      cases h
      obtain ⟨h1, h2⟩ := pick_at e2
      refine ⟨by rw [List.length_cons, List.length_cons, h1], fun i b hb => ?_⟩
      cases i with
      | zero => cases hb; exact ⟨p, rfl, e1⟩
      | succ i =>
        obtain ⟨j, q1, q2⟩ := h2 i b (by simpa using hb)
        exact ⟨j, by simpa using q1, q2⟩
    · cases h
theorem pick_some {α β : Type} : ∀ {pm : List Nat} {l : List α} {m : List β} {r : List α}, l.length = m.length → pick pm l = some r → ∃ q, pick pm m = some q
  | [], l, m, r, _, h => ⟨[], rfl⟩
  | p :: pm, l, m, r, hl, h => by
    unfold pick at h
    split at h
    · rename_i a r' e1 e2
      obtain ⟨q, hq⟩ := pick_some (m := m) hl e2
      have hp : p < m.length := by rw [← hl]; exact (List.getElem?_eq_some_iff.mp e1).1
      exact ⟨m[p] :: q, by unfold pick; rw [List.getElem?_eq_getElem hp, hq]⟩
    · cases h
theorem vals_pick : ∀ {pm : List Nat} {vs : List V} {us : List Value} {vs' : List V} {us' : List Value}, Vals vs us → pick pm vs = some vs' → pick pm us = some us' → Vals vs' us'
  | [], _, _, _, _, _, h1, h2 => by cases h1; cases h2; exact .nil
  | p :: pm, vs, us, vs', us', r, h1, h2 => by
    unfold pick at h1 h2
    split at h1
    · rename_i a l e1 e2
      split at h2
      · rename_i b m f1 f2
        cases h1
        cases h2
        refine .cons ?_ (vals_pick r e2 f2)
        obtain ⟨w, e, hr⟩ := Vals.get r e1
        rw [e] at f1
        cases f1
        exact hr
      · cases h2
    · cases h1
theorem VrRels.pick {pm : List Nat} {vs : List V} {rs : List Vr} {vs' : List V} {rs' : List Vr} (nd : pm.Nodup) (R : VrRels g ρ σ H F H0 vs rs) (h1 : pick pm vs = some vs') (h2 : pick pm rs = some rs') : VrRels g ρ σ H F H0 vs' rs' := by
  obtain ⟨l1, a1⟩ := pick_at h1
  obtain ⟨l2, a2⟩ := pick_at h2
  refine .mk (l1.trans l2.symm) (fun i v r e1 e2 => ?_) fun i j d d' v hij e1 e2 e3 e4 => ?_
  · obtain ⟨j, p1, q1⟩ := a1 i v e1
    obtain ⟨j', p2, q2⟩ := a2 i r e2
    rw [p1] at p2
    cases p2
    obtain ⟨w, q3, q4⟩ := R.at q2
    rw [q1] at q3
    cases q3
    exact q4
  · obtain ⟨x, p1, q1⟩ := a2 i _ e1
    obtain ⟨y, p2, q2⟩ := a2 j _ e2
    obtain ⟨x', p3, q3⟩ := a1 i v e3
    obtain ⟨y', p4, q4⟩ := a1 j v e4
    rw [p1] at p3
    cases p3
    rw [p2] at p4
    cases p4
    have ne : x ≠ y := fun z => by
      subst z
      have hi := (List.getElem?_eq_some_iff.mp p1)
      have hj := (List.getElem?_eq_some_iff.mp p2)
      obtain ⟨hi, e⟩ := hi
      obtain ⟨hj, e'⟩ := hj
      have := (List.getElem_inj nd).mp (e.trans e'.symm)
      omega
    rcases Nat.lt_or_gt_of_ne ne with z | z
    · exact R.fresh2 x y d d' v z q1 q2 q3 q4
    · exact R.fresh2 y x d' d v z q2 q1 q4 q3
theorem VrRels.app (l : ∀ b, H0 b ≠ none → H1 b ≠ none) {ws : List V} {zs : List Vr} (R2 : VrRels g ρ2 σ H2 F2 H1 ws zs) : ∀ {vs : List V} {rs : List Vr}, VrRels g ρ2 σ H2 F2 H0 vs rs → (∀ (i : Nat) d a, rs[i]? = some (.o d) → vs[i]? = some (.ref a) → H1 a ≠ none) → VrRels g ρ2 σ H2 F2 H0 (vs ++ ws) (rs ++ zs)
  | _, _, .nil, _ => R2.before l
  | v :: vs, r :: rs, .cons h n t, hx => by
    refine VrRels.cons h (fun d e i d' hi hv => ?_) (VrRels.app l R2 t fun i d a e1 e2 => hx (i + 1) d a (by simpa using e1) (by simpa using e2))
    subst e
    have hlen := t.length
    have hi : (rs ++ zs)[i]? = some (Vr.o d') := hi
    have hv : (vs ++ ws)[i]? = some v := hv
    by_cases hi' : i < rs.length
    · rw [List.getElem?_append_left hi'] at hi
      rw [List.getElem?_append_left (by rw [hlen]; exact hi')] at hv
      exact n d rfl i d' hi hv
    · rw [List.getElem?_append_right (by omega)] at hi
      rw [List.getElem?_append_right (by omega)] at hv
      obtain ⟨w, hw, q⟩ := R2.at hi
      rw [hlen, hw] at hv
      cases hv
      obtain ⟨a, e1, n1, _⟩ := q
      subst e1
      exact hx 0 d a rfl rfl n1
theorem VrRels.held : ∀ {vs : List V} {rs : List Vr}, VrRels g ρ σ H F H0 vs rs → ∀ (i : Nat) d a, rs[i]? = some (.o d) → vs[i]? = some (.ref a) → H a ≠ none := fun R i d a e1 e2 => by
  obtain ⟨v, q1, q2⟩ := R.at e1
  rw [e2] at q1
  cases q1
  obtain ⟨b, e, _, _, c, _⟩ := q2
  cases e
  exact c.there

/-! ### keywords -/
def DK (X : Cx) (kws : List Keyword) : TA := fun σ H Q => ∀ pos pins s, Inv X pins σ H s → wpAny (model X.prog X.w) X.A (evalAll ((backToKw pos (keywordEach kws X.env)).map (·.2))) (AP X pins σ Q) X.xe s
theorem pk_D {kws : List Keyword} : PK X kws (DK X kws) := ⟨fun pos pins s _ _ _ I h => h pos pins s I⟩
def SK (g : Gi) (Φ : Fns) (k : Nat) (ct : Ct) (kws : List Keyword) (ir : Es) : Prop := ∀ X, XOk g Φ k ct X → ∀ ρ σ H F, Sim g ρ σ H F → ∀ (Q : List V → Hp → Prop) (W : WX), Takes X W → GdR g ρ σ H F (evEs Φ ir ρ) (OkA g σ H Q) W → DK X kws σ H Q
theorem sk_nil : SK g Φ k ct [] .nil := by
  intro X xo ρ σ H F S Q W tk G
  exact fun pos pins s I => pk_nil.run pos pins s σ H Q I (G.now S [] .nil)
theorem sk_cons {nm : Option Str} {kp : Pos} {e : Expr} {es : List Keyword} {ie : E} {is : Es} (he : SE g Φ k ct e ie) (hs : SK g Φ k ct es is) : SK g Φ k ct (⟨nm, e, kp⟩ :: es) (.cons ie is) := by
  intro X xo ρ σ H F S Q W tk G
  have main : tCons (DE X e) (DK X es) σ H Q := by
    refine he.go xo S tk G fun v r ρ1 H1 F1 b1 q1 G1 => ?_
    refine hs X xo ρ1 σ H1 F1 b1.sim _ W tk (G1.step.imp fun rs ρ2 H2 F2 b2 G2 vs q2 => ?_)
    refine G2.now b2.sim _ (.cons (q1.later b1.sim b2) (fun d e i d' hi hv => ?_) (q2.before b1.stp.live))
    subst e
    obtain ⟨w, hw, q3⟩ := q2.at hi
    rw [hv] at hw
    cases hw
    obtain ⟨a, e1, n1, _⟩ := q3
    obtain ⟨a', e2, _, _, c, _⟩ := q1
    rw [e1] at e2
    cases e2
    exact c.there n1
  exact fun pos pins s I => (pk_cons pe_D pk_D).run pos pins s σ H Q I main
theorem kw_names {pos : Pos} {env : Env} : ∀ {kws : List Keyword} {ks : List Str}, kws.map (·.arg) = ks.map some → (backToKw pos (keywordEach kws env)).all (·.1.isSome) = true ∧ (backToKw pos (keywordEach kws env)).filterMap (·.1) = ks ∧ (backToKw pos (keywordEach kws env)).any (·.1.isNone) = false
  | [], ks, h => by
    cases ks with
    | nil => exact ⟨rfl, rfl, rfl⟩
    | cons _ _ => cases h
  | ⟨nm, v, p⟩ :: kws, ks, h => by
    cases ks with
    | nil => cases h
    | cons x ks =>
      rw [List.map_cons, List.map_cons] at h
      injection h with h1 h2
      obtain ⟨q1, q2, q3⟩ := kw_names (pos := pos) (env := env) h2
      have h1 : nm = some x := h1
      subst h1
      refine ⟨?_, ?_, ?_⟩
      · show (true && (backToKw pos (keywordEach kws env)).all (·.1.isSome)) = true
        rw [q1] <;> rfl
      · show x :: (backToKw pos (keywordEach kws env)).filterMap (·.1) = _
        rw [q2]
      · show (false || (backToKw pos (keywordEach kws env)).any (·.1.isNone)) = false
        rw [q3] <;> rfl

/-! ### the call -/
theorem keep_fa {f : Addr} {n : Nat} (xo : XOk g Φ k ct X) (h : g.fa n = some f) {np : Nat} {ks : List Str} {pm : List Nat} (hs : (n, np, ks, pm) ∈ ct.sg) : ∃ fd ps, PySem.W.keepIn X.K (.ref f) = true ∧ FnG X.prog X.w X.K X.mg X.base g Φ k f fd ps n ∧ Bnd X.K fd ps np ks pm := by
  obtain ⟨fd, ps, h1, h2, h3⟩ := xo.fns n f h
  exact ⟨fd, ps, h1, h2, h3 np ks pm hs⟩
/-- the arguments are there, then the call -/
theorem call_end {pins : List (Addr × Obj)} {s : Shared} {f : Addr} {fd : FuncData} {ps ks : List Str} {n np : Nat} {pm : List Nat} {us ws : List Value} {vs zs : List V} {rs ts : List Vr} {Q : VK} (xo : XOk g Φ k ct X) (hc : ct.calm = true) (tk : Takes X W)
    (FG : FnG X.prog X.w X.K X.mg X.base g Φ k f fd ps n) (B : Bnd X.K fd ps np ks pm) (nd : pm.Nodup) (hnp : rs.length = np) (hks : ts.length = ks.length) (I : Inv X pins σ H2 s) (r1 : Vals vs us) (r2 : Vals zs ws) (b : Bh g ρ σ H F ρ2 σ H2 F2)
    (R : VrRels g ρ2 σ H2 F2 H (vs ++ zs) (rs ++ ts)) (lv : vs.length = rs.length) (lz : zs.length = ts.length) (G : GdR g ρ σ H F (match pick pm (rs ++ ts) with
      | some rs => callR Φ n rs ρ2
      | none => .err) (OkE g σ H Q) W) :
    wpAny (model X.prog X.w) X.A (call (.ref f) us (ks.zip ws)) (EP X pins σ Q) X.xe s := by
  cases hp : pick pm (rs ++ ts) with
  | none => rw [hp] at G; exact G.elim
  | some rs' =>
    rw [hp] at G
    obtain ⟨vs', hv⟩ := pick_some (m := vs ++ zs) R.length.symm hp
    have R' := R.pick nd hv hp
    obtain ⟨as, F3, S3, Gc⟩ := callR_gd b R' G
    have rv : Vals (vs ++ zs) (us ++ ws) := r1.append r2
    obtain ⟨us', hu⟩ := pick_some (m := us ++ ws) rv.length hv
    have hl : vs'.length = ps.length := (pick_at hv).1.trans B.1
    exact run_g xo hc tk FG I (B.2 s us ws us' I.kIn (by rw [← r1.length, lv, hnp]) (by rw [← r2.length, lz, hks]) hu) (vals_pick rv hv hu) hl S3 Gc
def esLen : Es → Nat
  | .nil => 0
  | .cons _ es => esLen es + 1
theorem evEs_len : ∀ {is : Es} {ρ ρ' : En} {rs : List Vr}, evEs Φ is ρ = .ok rs ρ' → rs.length = esLen is
  | .nil, _, _, _, h => by cases h; rfl
  | .cons e es, ρ, ρ', rs, h => by
    unfold evEs at h
    obtain ⟨x, ρ1, h1, h⟩ := bind_ok h
    obtain ⟨xs, ρ2, h2, h⟩ := bind_ok h
    cases h
    show xs.length + 1 = esLen es + 1
    rw [evEs_len h2]
theorem se_call0 {x : Str} {n : Nat} {es : List Expr} {pm : List Nat} {is : Es} {p pos : Pos} (hg : glB ct.sc x = true) (hl : ct.gl.lookup x = some (.fn n)) (hp : plainN x = true) (hc : ct.calm = true) (hsg : (n, esLen is, [], pm) ∈ ct.sg) (nd : pm.Nodup)
    (hn : es.all nst = true) (hz : es = [] → is = .nil) (hs : SA g Φ k ct es is) : SE g Φ k ct (.Call (.Name x p) es [] pos) (.call n pm is .nil) := by
  intro X xo ρ σ H F S Q W tk G
  obtain ⟨f, hf, hm⟩ := xo.glob x _ hl
  obtain ⟨fd, ps, kp, FG, B⟩ := keep_fa xo hf hsg
  have hdb := (plainN_ok hp).1
  have fin : ∀ {pins : List (Addr × Obj)} {s1 : Shared} {vs : List V} {rs : List Vr} {ρ1 : En} {H1 F1 : Hp} {us : List Value}, Bh g ρ σ H F ρ1 σ H1 F1 → VrRels g ρ1 σ H1 F1 H vs rs → GdR g ρ σ H F ((evEs Φ .nil ρ1).bind fun zs ρ => match pick pm (rs ++ zs) with
      | some rs => callR Φ n rs ρ
      | none => .err) (OkE g σ H Q) W → evEs Φ is ρ = .ok rs ρ1 → Inv X pins σ H1 s1 → Vals vs us → wpAny (model X.prog X.w) X.A (call (.ref f) us) (EP X pins σ Q) X.xe s1 := fun {pins s1 vs rs ρ1 H1 F1 us} b1 q1 G1 he I1 r => by
    have := call_end (zs := []) (ts := []) (ws := []) (ks := []) xo hc tk FG B nd (evEs_len he) rfl I1 r .nil b1 (by rw [List.append_nil, List.append_nil]; exact q1) q1.length rfl G1
    exact this
  cases es with
  | nil =>
    cases hz rfl
    intro pins s I
    refine wpAny_Call_Name_kw (ld_glob I (glB_ok xo hg) hm ?_ hdb)
    exact PySem.W.callWith_K0 I.kIn kp (fin (us := []) (Bh.refl S) .nil G rfl I .nil)
  | cons e es =>
    rw [List.all_cons, Bool.and_eq_true] at hn
    have main : DA X (e :: es) σ H fun vs H1 => ∃ rs ρ1 F1, Bh g ρ σ H F ρ1 σ H1 F1 ∧ VrRels g ρ1 σ H1 F1 H vs rs ∧ GdR g ρ σ H F ((evEs Φ .nil ρ1).bind fun zs ρ => match pick pm (rs ++ zs) with
      | some rs => callR Φ n rs ρ
      | none => .err) (OkE g σ H Q) W ∧ evEs Φ is ρ = .ok rs ρ1 := hs.goB xo S tk G fun vs rs ρ1 H1 F1 b1 q1 G1 he => ⟨rs, ρ1, F1, b1, q1, G1, he⟩
    intro pins s I
    refine wpAny_Call_Name_kw (ld_glob I (glB_ok xo hg) hm ?_ hdb)
    refine PySem.W.callWith_K (h₀ := X.base) I.ok.mod.kin kp (thn (main pos pins s I) fun us s1 ⟨vs, H1, I1, r, rs, ρ1, F1, b1, q1, G1, he⟩ => ⟨I1.kIn, ?_⟩) (star_eq hn.1) (star_plain hn.2)
    exact fin b1 q1 G1 he I1 r
theorem se_callK {x : Str} {n : Nat} {es : List Expr} {kws : List Keyword} {ks : List Str} {pm : List Nat} {is iks : Es} {p pos : Pos} (hg : glB ct.sc x = true) (hl : ct.gl.lookup x = some (.fn n)) (hp : plainN x = true) (hc : ct.calm = true) (hsg : (n, esLen is, ks, pm) ∈ ct.sg) (nd : pm.Nodup)
    (hn : es.all nst = true) (hz : es = [] → is = .nil) (hk : kws.map (·.arg) = ks.map some) (hlk : esLen iks = ks.length) (hs : SA g Φ k ct es is) (hks : SK g Φ k ct kws iks) : SE g Φ k ct (.Call (.Name x p) es kws pos) (.call n pm is iks) := by
  intro X xo ρ σ H F S Q W tk G
  obtain ⟨f, hf, hm⟩ := xo.glob x _ hl
  obtain ⟨fd, ps, kp, FG, B⟩ := keep_fa xo hf hsg
  have hdb := (plainN_ok hp).1
  obtain ⟨kn1, kn2, kn3⟩ := kw_names (pos := pos) (env := X.env) hk
  -- the keywords' part, then the call
  have kwpart : ∀ vs rs ρ1 H1 F1, Bh g ρ σ H F ρ1 σ H1 F1 → VrRels g ρ1 σ H1 F1 H vs rs → GdR g ρ σ H F ((evEs Φ iks ρ1).bind fun zs ρ => match pick pm (rs ++ zs) with
      | some rs => callR Φ n rs ρ
      | none => .err) (OkE g σ H Q) W → DK X kws σ H1 fun zs H2 => ∃ ρ2 ts F2, Bh g ρ σ H F ρ2 σ H2 F2 ∧ VrRels g ρ2 σ H2 F2 H (vs ++ zs) (rs ++ ts) ∧ zs.length = ts.length ∧ ts.length = ks.length ∧ GdR g ρ σ H F (match pick pm (rs ++ ts) with
      | some rs => callR Φ n rs ρ2
      | none => .err) (OkE g σ H Q) W := fun vs rs ρ1 H1 F1 b1 q1 G1 => by
    refine hks X xo ρ1 σ H1 F1 b1.sim _ W tk ?_
    cases he : evEs Φ iks ρ1 with
    | ok ts ρ2 =>
      rw [he] at G1
      intro H2 F2 b2 zs q2
      exact ⟨ρ2, ts, F2, b1.trans b2, VrRels.app b1.stp.live q2 (q1.later b1.sim b2) q1.held, q2.length, (evEs_len he).trans hlk, G1⟩
    | ex x ρ2 =>
      rw [he] at G1
      exact fun cls d H' F' b2 xr => G1 cls d H' F' (b1.trans b2) xr
    | err => rw [he] at G1; exact G1.elim
  cases es with
  | nil =>
    cases hz rfl
    intro pins s I
    refine wpAny_Call_Name_kw (ld_glob I (glB_ok xo hg) hm ?_ hdb)
    refine PySem.W.callWith_KW0 (h₀ := X.base) I.ok.mod.kin kp kn1 (thn (kwpart [] [] ρ H F (Bh.refl S) .nil G pos pins s I) fun ws s2 ⟨zs, H2, I2, rz, ρ2, ts, F2, b2, q2, l1, l2, G2⟩ => ⟨I2.kIn, ?_⟩) kn3
    rw [kn2]
    exact call_end (vs := []) (rs := []) (us := []) xo hc tk FG B nd rfl l2 I2 .nil rz b2 q2 rfl l1 G2
  | cons e es =>
    rw [List.all_cons, Bool.and_eq_true] at hn
    have main : DA X (e :: es) σ H fun vs H1 => ∃ rs ρ1 F1, Bh g ρ σ H F ρ1 σ H1 F1 ∧ VrRels g ρ1 σ H1 F1 H vs rs ∧ GdR g ρ σ H F ((evEs Φ iks ρ1).bind fun zs ρ => match pick pm (rs ++ zs) with
      | some rs => callR Φ n rs ρ
      | none => .err) (OkE g σ H Q) W ∧ evEs Φ is ρ = .ok rs ρ1 := hs.goB xo S tk G fun vs rs ρ1 H1 F1 b1 q1 G1 he => ⟨rs, ρ1, F1, b1, q1, G1, he⟩
    intro pins s I
    refine wpAny_Call_Name_kw (ld_glob I (glB_ok xo hg) hm ?_ hdb)
    refine PySem.W.callWith_KW (h₀ := X.base) I.ok.mod.kin kp kn1 (thn (main pos pins s I) fun us s1 ⟨vs, H1, I1, r, rs, ρ1, F1, b1, q1, G1, he⟩ => ?_) (by rw [kn3, star_plain (by rw [List.all_cons, hn.1, hn.2] <;> rfl)] <;> rfl) (star_eq hn.1)
    refine thn (kwpart vs rs ρ1 H1 F1 b1 q1 G1 pos pins s1 I1) fun ws s2 ⟨zs, H2, I2, rz, ρ2, ts, F2, b2, q2, l1, l2, G2⟩ => ⟨I2.kIn, ?_⟩
    rw [kn2]
    exact call_end xo hc tk FG B nd (evEs_len he) l2 I2 r rz b2 q2 q1.length l1 G2
end
end Ev

set_option Elab.async false
set_option linter.all false
set_option maxRecDepth 100000
set_option maxHeartbeats 1000000
/-! Ev5e: isinstance of several classes; text.index(sign). Own work. -/
namespace Ev
open PySem PySem.Spec PyProof.Rows L2
/-! ### where a sign stands first -/
open PySem.StrLaws PySem.Builtin.Str in
theorem occ_full (s sub : Str) (hi : Nat) : ∀ (l : List Nat) (st : Array Nat × Nat), st.fst.size = 1 → (forIn l st (occBody s sub hi 1)).run.fst = st.fst
  | [], _, _ => rfl
  | a :: l, st, h => by
    rw [List.forIn_cons]
    unfold occBody
    have n : ¬ (((st.fst.size < 1 ∧ st.snd ≤ a) ∧ a + sub.length ≤ hi) ∧ subAt s sub a = true) := fun z => by
      have := z.1.1.1
      omega
    rw [if_neg n]
    exact occ_full s sub hi l _ h
open PySem.StrLaws PySem.Builtin.Str in
theorem occ_at (s sub : Str) (hi i : Nat) (h : i + sub.length ≤ hi ∧ subAt s sub i = true) : ∀ (m a free : Nat), free ≤ a → a ≤ i → i < a + m → (∀ j, a ≤ j → j < i → ¬ (j + sub.length ≤ hi ∧ subAt s sub j = true)) →
    (forIn (List.range' a m) ((#[] : Array Nat), free) (occBody s sub hi 1)).run.fst = #[i]
  | 0, a, free, _, h1, h2, _ => absurd h2 (by omega)
  | m + 1, a, free, h0, h1, h2, hn => by
    rw [List.range'_succ, List.forIn_cons]
    by_cases e : a = i
    · subst e
      have c : (((((#[] : Array Nat), free).fst.size < 1 ∧ ((#[] : Array Nat), free).snd ≤ a) ∧ a + sub.length ≤ hi) ∧ subAt s sub a = true) := ⟨⟨⟨by simp, h0⟩, h.1⟩, h.2⟩
      have e : occBody s sub hi 1 a ((#[] : Array Nat), free) = pure (ForInStep.yield (#[a], a + sub.length)) := by
        unfold occBody
        rw [if_pos c] <;> rfl
      rw [e]
      exact occ_full s sub hi _ _ rfl
    · have c := hn a (Nat.le_refl _) (by omega)
      have e : occBody s sub hi 1 a ((#[] : Array Nat), free) = pure (ForInStep.yield (#[], free)) := by
        unfold occBody
        rw [if_neg fun z => c ⟨z.1.2, z.2⟩] <;> rfl
      rw [e]
      exact occ_at s sub hi i h m (a + 1) free (by omega) (by omega) (by omega) fun j q1 q2 => hn j (by omega) q2
open PySem.StrLaws PySem.Builtin.Str in
theorem occ_first {l : List Nat} {c : Nat} (h : c ∈ l) : occurrences ⟨l.toArray⟩ ⟨[c].toArray⟩ 0 (⟨l.toArray⟩ : Str).length 1 = [l.idxOf c] := by
  have hlt : l.idxOf c < l.length := List.idxOf_lt_length_of_mem h
  have hl : (⟨l.toArray⟩ : Str).length = l.length := by simp [Str.length]
  have at_ : ∀ i, (i + (⟨[c].toArray⟩ : Str).length ≤ (⟨l.toArray⟩ : Str).length ∧ subAt ⟨l.toArray⟩ ⟨[c].toArray⟩ i = true) ↔ l[i]? = some c := fun i => by
    have := subAt_one ⟨l.toArray⟩ c i
    exact this
  rw [occ_eq, occ_at (i := l.idxOf c) _ _ _ ((at_ _).mpr (by rw [List.getElem?_eq_getElem hlt, List.getElem_idxOf])) _ 0 0 (Nat.le_refl _) (Nat.zero_le _) (by rw [hl]; omega)]
  intro j _ hj q
  rw [at_] at q
  obtain ⟨hjl, e⟩ := List.getElem?_eq_some_iff.mp q
  have := List.not_of_lt_findIdx (p := (· == c)) (xs := l) hj
  simp [e] at this
section
variable {g : Gi} {Φ : Fns} {k : Nat} {ct : Ct} {X : Cx} {ρ ρ' ρ0 ρ1 ρ2 : En} {σ σ' σ1 : St} {H F H' F' H0 F0 H1 F1 H2 F2 : Hp} {W : WX} {Q : VK} {d : D} {x : V}
theorem index_ok {r : Vr} {vs : List V} {ds : List D} {bc : Bool} (m : Rm g bc X) (h : mtD .index d ds = some r) (s : Same F H) (hx : RdH g H F x d) (ha : RdHs g H F vs ds) (k : ∀ v H', Res g H F r v H' → Q v H') : DMt X "str.index" x vs H Q ∧ ∃ a, x = .str a := by
  unfold mtD at h
  split at h <;> first
    | (exfalso; rename_i q _ _; exact Mt.noConfusion q)
    | (exfalso; rename_i q _; exact Mt.noConfusion q)
    | (exfalso; rename_i q; exact Mt.noConfusion q)
    | (cases h; done)
    | skip
  split at h
  case isFalse => cases h
  rename_i hc
  cases h
  obtain ⟨rfl, o1⟩ := hx.str
  obtain ⟨w, rfl, h2⟩ := ha.one
  obtain ⟨rfl, o2⟩ := h2.str
  exact ⟨MtR.d mt_sindex ⟨_, _, _, [], rfl, rfl, occ_first hc, k _ _ (.same s (.int _))⟩, _, rfl⟩
theorem se_index {o e : Expr} {io : E} {is : Es} {apos cpos : Pos} (hb : baseB o = true) (hl : lineB apos cpos = true) (hn : nst e = true) (ho : SE g Φ k ct o io) (hs : SA g Φ k ct [e] is) :
    SE g Φ k ct (.Call (.Attribute o (Str.ofString "index") apos) [e] [] cpos) (.mth .index io is) := by
  intro X xo ρ σ H F S Q W tk G
  refine PE.d (pe_bm PySem.F.plainAttrs_str PySem.F.slot_str_index PySem.F.type_str_index mt_D pe_D pa_D (baseB_ok hb) (few_ok hn) hl (star_eq hn) rfl) ?_
  refine ho.go xo S tk G fun v r ρ1 H1 F1 b1 q1 G1 => ?_
  obtain ⟨d, l1, G2⟩ := op1_in G1
  split at G2
  case isFalse => exact G2.elim
  rename_i hm
  have hx := q1.rd b1.sim l1
  refine ⟨tyV_str (by cases d <;> first | (cases hm; done) | exact ⟨_, hx.str.1⟩), ?_⟩
  refine hs.go xo b1.sim tk G2 fun vs rs ρ2 H2 F2 b2 q2 G3 => ?_
  unfold mthR at G3
  simp only at G3
  split at G3
  · rename_i d' ds l2 l3
    obtain ⟨a, hr, G4⟩ := toRs_in G3
    exact (index_ok xo.rm hr b2.sim.sub ((q1.later b1.sim b2).rd b2.sim l2) (lookAll_rd b2.sim q2 l3) fun v' H' z => res_end b2.sim (fun c z => b2.stp.live c (b1.stp.live c z)) G4 z).1
  · exact G3.elim
theorem RD.plain {v : V} {d : D} (h : RD g F v d) (p : plainD d = true) : flatV v = true := by
  cases h <;> first | rfl | cases p
theorem RD.eqV {v w : V} {d e : D} (h : RD g F v d) (h2 : RD g F w e) (p : plainD d = true) (p2 : plainD e = true) : eqV v w = eqD d e := by
  cases h <;> first | (cases p; done) | (cases h2 <;> first | (cases p2; done) | rfl | exact str_beq _ _)
theorem RDs.plain : ∀ {vs : List V} {ds : List D}, RDs g F vs ds → ds.all plainD = true → vs.all flatV = true
  | _, _, .nil, _ => rfl
  | _, _, .cons h r, p => by
    rw [List.all_cons, Bool.and_eq_true] at p ⊢
    exact ⟨h.plain p.1, RDs.plain r p.2⟩
theorem RDs.at : ∀ {vs : List V} {ds : List D}, RDs g F vs ds → ∀ (i : Nat) (v : V), vs[i]? = some v → ∃ d, ds[i]? = some d ∧ RD g F v d
  | _, _, .nil, i, v, h => by simp at h
  | _, _, .cons h r, 0, v, e => by
    simp at e
    subst e
    exact ⟨_, rfl, h⟩
  | _, _, .cons h r, i + 1, v, e => by
    simp at e
    obtain ⟨d, h1, h2⟩ := RDs.at r i v e
    exact ⟨d, by simpa using h1, h2⟩
theorem lindex_ok {r : Vr} {vs : List V} {ds : List D} {bc : Bool} (m : Rm g bc X) (h : mtD .lindex d ds = some r) (s : Same F H) (hx : RdH g H F x d) (ha : RdHs g H F vs ds) (k : ∀ v H', Res g H F r v H' → Q v H') : DMt X "list.index" x vs H Q := by
  unfold mtD at h
  split at h <;> first
    | (exfalso; rename_i q _ _; exact Mt.noConfusion q)
    | (exfalso; rename_i q _; exact Mt.noConfusion q)
    | (exfalso; rename_i q; exact Mt.noConfusion q)
    | (cases h; done)
    | skip
  rename_i xs y _
  split at h
  case isFalse => cases h
  rename_i hc
  rw [Bool.and_eq_true] at hc
  split at h
  case h_2 => cases h
  rename_i j hj
  cases h
  obtain ⟨w, rfl, h2⟩ := ha.one
  obtain ⟨a, ws, rfl, hq, rr⟩ := hx.lst s
  have hw : ∃ Fy, RD g Fy w y := by
    rcases h2 with h2 | ⟨b, rfl, c⟩
    · exact ⟨_, h2⟩
    · rcases c with ⟨_, _, rfl, _⟩ | ⟨_, _, _, rfl, _⟩ <;> cases hc.1
  obtain ⟨Fy, hw⟩ := hw
  have eqw : ∀ {v : V} {d : D}, RD g F v d → plainD d = true → eqV v w = eqD d y := fun {v d} h p => by
    cases h <;> first | (cases p; done) | (cases hw <;> first | (cases hc.1; done) | rfl | exact str_beq _ _)
  have hj2 := List.findIdx?_eq_some_iff_getElem.mp hj
  obtain ⟨hlt, e1, e2⟩ := hj2
  have hlen : ws.length = xs.length := rr.length
  have pl : ∀ (i : Nat) (d : D), xs[i]? = some d → plainD d = true := fun i d h => List.all_eq_true.mp hc.2 _ (List.mem_of_getElem? h)
  refine MtR.d mt_index ⟨a, ws, w, j, ws[j]'(by omega), rfl, rfl, .inl (.inl hq), hw.plain hc.1, rr.plain hc.2, List.getElem?_eq_getElem (by omega), ?_, ?_, k _ _ (.same s (.int _))⟩
  · obtain ⟨d, h3, h4⟩ := rr.at j _ (List.getElem?_eq_getElem (by omega))
    rw [eqw h4 (pl _ _ h3)]
    rw [List.getElem?_eq_getElem hlt] at h3
    cases h3
    exact e1
  · intro i z hi hz
    obtain ⟨d, h3, h4⟩ := rr.at i _ hz
    rw [eqw h4 (pl _ _ h3)]
    have := e2 i hi
    rw [List.getElem?_eq_getElem (by omega)] at h3
    cases h3
    simpa using this
theorem se_lindex {o e : Expr} {io : E} {is : Es} {apos cpos : Pos} (hb : baseB o = true) (hl : lineB apos cpos = true) (hn : nst e = true) (ho : SE g Φ k ct o io) (hs : SA g Φ k ct [e] is) :
    SE g Φ k ct (.Call (.Attribute o (Str.ofString "index") apos) [e] [] cpos) (.mth .lindex io is) := by
  intro X xo ρ σ H F S Q W tk G
  refine PE.d (pe_bm PySem.F.plainAttrs_list PySem.F.slot_list_index PySem.F.type_list_index mt_D pe_D pa_D (baseB_ok hb) (few_ok hn) hl (star_eq hn) rfl) ?_
  refine ho.go xo S tk G fun v r ρ1 H1 F1 b1 q1 G1 => ?_
  obtain ⟨d, l1, G2⟩ := op1_in G1
  split at G2
  case isFalse => exact G2.elim
  rename_i hm
  have hx := q1.rd b1.sim l1
  refine ⟨?_, ?_⟩
  · cases d <;> first | (cases hm; done) | skip
    obtain ⟨a, ws, rfl, hq, rr⟩ := hx.lst b1.sim.sub
    exact .inl ⟨rfl, ws, .inl (.inl hq)⟩
  refine hs.go xo b1.sim tk G2 fun vs rs ρ2 H2 F2 b2 q2 G3 => ?_
  unfold mthR at G3
  simp only at G3
  split at G3
  · rename_i d' ds l2 l3
    obtain ⟨a, hr, G4⟩ := toRs_in G3
    exact lindex_ok xo.rm hr b2.sim.sub ((q1.later b1.sim b2).rd b2.sim l2) (lookAll_rd b2.sim q2 l3) fun v' H' z => res_end b2.sim (fun c z => b2.stp.live c (b1.stp.live c z)) G4 z
  · exact G3.elim
/-! ### isinstance(x, (A, B)) -/
theorem RdH.up {v : V} (h : RdH g H F v d) (s : Same H H') : RdH g H' F v d := by
  rcases h with h | ⟨a, e, c⟩
  · exact .inl h
  · refine .inr ⟨a, e, c.mono (Same.refl F) ?_⟩
    obtain ⟨o, ho⟩ := Option.ne_none_iff_exists'.mp c.there
    rw [s a o ho, ho]
theorem Res.up {a : Addr} {o : HO} {v : V} {r : Vr} (h : H a = none) (s : Same F H) (q : Res g (upd H a o) F r v H') : Res g H F r v H' := by
  obtain ⟨F', q1, q2, q3, q4, q5⟩ := q
  refine ⟨F', q1, fun b z => ?_, (same_upd h).trans q3, q4, ?_⟩
  · rcases q2 b z with y | y
    · exact .inl y
    · by_cases hb : b = a
      · subst hb; exact .inr h
      · rw [upd_ne hb] at y; exact .inr y
  · cases r with
    | v d => exact q5
    | o d =>
      obtain ⟨b, e1, e2, e3⟩ := q5
      refine ⟨b, e1, ?_, e3⟩
      by_cases hb : b = a
      · subst hb; exact h
      · rw [upd_ne hb] at e2; exact e2
    | s i => exact q5
def isiTs : Bi → Option (List String)
  | .isseq => some ["list", "tuple"]
  | .isbox => some ["list", "tuple", "dict"]
  | _ => none
theorem isiT_all {f : Bi} {cs : List String} {r : Vr} {tp : Addr} (hf : isiTs f = some cs) {bc : Bool} (m : Rm g bc X) (h : biD f [d] = some r) (s : Same F H) (ht : H tp = some (.tup (cs.map .ty))) (hx : RdH g H F x d) (k : ∀ v H', Res g H F r v H' → Q v H') : DCall X (.builtin "isinstance") [x, .ref tp] H Q := by
  have main : ∀ n b, tyN d = some n → PySem.W.kitAny X.K (.type n) (cs.map .type) = some b → r = .v (.bl b) → DCall X (.builtin "isinstance") [x, .ref tp] H Q := fun n b h1 h2 h3 => by
    subst h3
    refine CallR.d call_isiT ⟨x, tp, cs.map .ty, .type n, cs.map .type, b, rfl, ht, ?_, ty_of m h1 s hx, h2, k _ _ (.same s (.bl b))⟩
    clear hf h2 ht
    induction cs with
    | nil => exact .nil
    | cons c cs ih => exact .cons (.ty c) ih
  cases f <;> simp only [isiTs] at hf <;> cases hf <;> cases d <;> simp only [biD] at h <;> cases h
  all_goals first
    | exact main _ _ rfl (kitAny_cons (kit_ty (r := false) (by decide +kernel)) (fun _ => kitAny_cons (kit_ty (r := false) (by decide +kernel)) (fun _ => kitAny_nil) (fun h => h)) (fun h => by cases h)) rfl
    | exact main _ _ rfl (kitAny_cons (kit_ty (r := true) (by decide +kernel)) (fun h => by cases h) (fun _ => rfl)) rfl
    | exact main _ _ rfl (kitAny_cons (kit_ty (r := false) (by decide +kernel)) (fun _ => kitAny_cons (kit_ty (r := true) (by decide +kernel)) (fun h => by cases h) (fun _ => rfl)) (fun h => by cases h)) rfl
    | exact main _ _ rfl (kitAny_cons (kit_ty (r := false) (by decide +kernel)) (fun _ => kitAny_cons (kit_ty (r := false) (by decide +kernel)) (fun _ => kitAny_cons (kit_ty (r := false) (by decide +kernel)) (fun _ => kitAny_nil) (fun h => h)) (fun h => h)) (fun h => by cases h)) rfl
    | exact main _ _ rfl (kitAny_cons (kit_ty (r := false) (by decide +kernel)) (fun _ => kitAny_cons (kit_ty (r := false) (by decide +kernel)) (fun _ => kitAny_cons (kit_ty (r := true) (by decide +kernel)) (fun h => by cases h) (fun _ => rfl)) (fun h => by cases h)) (fun h => by cases h)) rfl
theorem isiTs_boot {f : Bi} {cs : List String} (h : isiTs f = some cs) : cs.all (fun c => bootBuiltins (Str.ofString c) == some (.type c) && decide ((Str.ofString c) ≠ ("__name__" : Str)) && !((Str.ofString c) == ("__debug__" : Str))) = true := by
  cases f <;> simp only [isiTs] at h <;> cases h <;> decide +kernel
/-- the classes' names -/
def tyNames (ct : Ct) : List String → List Expr → Bool
  | [], [] => true
  | c :: cs, .Name y _ :: es => y == Str.ofString c && glB ct.sc (Str.ofString c) && (match ct.gl.lookup (Str.ofString c) with
    | some .free => true
    | _ => false) && tyNames ct cs es
  | _, _ => false
def tTys : List String → TA
  | [] => tNil
  | c :: cs => tCons (tC (.ty c)) (tTys cs)
theorem pa_tys (xo : XOk g Φ k ct X) : ∀ {cs : List String} {es : List Expr}, cs.all (fun c => bootBuiltins (Str.ofString c) == some (.type c) && decide ((Str.ofString c) ≠ ("__name__" : Str)) && !((Str.ofString c) == ("__debug__" : Str))) = true → tyNames ct cs es = true → PA X es (tTys cs)
  | [], [], _, _ => pa_nil
  | c :: cs, .Name y py :: es, h, hn => by
    rw [List.all_cons, Bool.and_eq_true, Bool.and_eq_true, Bool.and_eq_true, decide_eq_true_eq] at h
    unfold tyNames at hn
    rw [Bool.and_eq_true, Bool.and_eq_true, Bool.and_eq_true] at hn
    obtain ⟨⟨⟨n1, n2⟩, n3⟩, n4⟩ := hn
    have hy : y = Str.ofString c := by simpa using n1
    subst hy
    have hl : ct.gl.lookup (Str.ofString c) = some .free := by
      split at n3
      · assumption
      · cases n3
    have hm : X.mg (Str.ofString c) = none := xo.glob _ _ hl
    exact pa_cons (pe_bltn (v := .ty c) (glB_ok xo n2) hm (by simpa using h.1.1.1) rfl h.1.1.2 (by simpa using h.1.2)) (pa_tys xo h.2 n4) (star_eq rfl)
theorem tTys_go {R : List V → Hp → Prop} : ∀ {cs : List String}, R (cs.map .ty) H → tTys cs σ H R
  | [], h => h
  | c :: cs, h => by
    show tC (.ty c) σ H fun v H1 => tTys cs σ H1 fun vs H2 => R (v :: vs) H2
    exact tTys_go (cs := cs) (R := fun vs H2 => R (.ty c :: vs) H2) h
theorem se_isiT {f : Bi} {cs : List String} {e : Expr} {es : List Expr} {ie : E} {j : Nat} {p p2 pos : Pos} (hf : isiTs f = some cs) (hg : glB ct.sc (Str.ofString "isinstance") = true) (hl : ct.gl.lookup (Str.ofString "isinstance") = some .free) (ht : tyNames ct cs es = true) (hn : nst e = true) (he : SE g Φ k ct e ie) :
    SE g Φ k ct (.Call (.Name (Str.ofString "isinstance") p) [e, .Tuple es j p2] [] pos) (.bi f (.cons ie .nil)) := by
  intro X xo ρ σ H F S Q W tk G
  have hm : X.mg "isinstance" = none := xo.glob _ _ hl
  refine PE.d (pe_callB call_D (glB_ok xo hg) hm (boot_bi .isint) (pa_cons pe_D (pa_cons (pe_tup (pa_tys xo (isiTs_boot hf) ht)) pa_nil) (star_eq hn)) (by decide +kernel) (by decide +kernel) (star_eq hn) rfl) ?_
  have G' : GdR g ρ σ H F ((evE Φ ie ρ).bind fun x ρ => match look ρ x with
    | some d => toRs (biD f [d]) ρ
    | none => .err) (OkE g σ H Q) W := by
    have e : (evE Φ (.bi f (.cons ie .nil)) ρ) = ((evE Φ ie ρ).bind fun x ρ => match look ρ x with
      | some d => toRs (biD f [d]) ρ
      | none => .err) := by
      simp only [evE, evEs]
      cases evE Φ ie ρ with
      | ok x ρ1 =>
        simp only [Rs.bind, lookAll]
        cases look ρ1 x <;> rfl
      | ex x ρ1 => rfl
      | err => rfl
    rw [← e]
    exact G
  refine he.go xo S tk G' fun v r ρ1 H1 F1 b1 q1 G1 => ?_
  show tTys cs σ H1 _
  refine tTys_go ⟨by cases f <;> simp only [isiTs] at hf <;> cases hf <;> decide, fun tp htp => ?_⟩
  split at G1
  · rename_i d hd
    obtain ⟨a, hr, G2⟩ := toRs_in G1
    exact isiT_all hf xo.rm hr (b1.sim.sub.trans (same_upd htp)) upd_same ((q1.rd b1.sim hd).up (same_upd htp)) fun v' H' z => res_end b1.sim b1.stp.live G2 (Res.up htp b1.sim.sub z)
  · exact G1.elim
theorem se_neg {i : Int} {j : Nat} {p pos : Pos} : SE g Φ k ct (.UnaryOp .USub (.Constant (.int i) j p) pos) (.lit (.int (-i))) := by
  intro X xo ρ σ H F S Q W tk G
  exact PE.d (pe_un un_neg (pe_int (X := X))) ⟨i, rfl, G.now S _ (.int (-i))⟩
/-! ### list(range(..)) -/
theorem rds_rng (i j : Int) : RDs g F (rgV i j) (rngD i j) := by
  unfold rgV rngD
  induction (List.range (j - i).toNat) with
  | nil => exact .nil
  | cons n l ih => exact .cons (.int _) ih
theorem se_lrng1 {a : Expr} {ia : E} {p p2 pos pos2 : Pos} (hc : ct.calm = true) (hg : glB ct.sc (Str.ofString "list") = true) (hl : ct.gl.lookup (Str.ofString "list") = some .free) (hg2 : glB ct.sc (Str.ofString "range") = true) (hl2 : ct.gl.lookup (Str.ofString "range") = some .free) (hn : nst a = true) (ha : SE g Φ k ct a ia) :
    SE g Φ k ct (.Call (.Name (Str.ofString "list") p) [.Call (.Name (Str.ofString "range") p2) [a] [] pos2] [] pos) (.lrng1 ia) := by
  intro X xo ρ σ H F S Q W tk G
  have hm : X.mg "list" = none := xo.glob _ _ hl
  have hm2 : X.mg "range" = none := xo.glob _ _ hl2
  refine PE.d (pe_listRg (xo.rm.calm.trans hc) (glB_ok xo hg) hm (prg_1 (glB_ok xo hg2) hm2 pe_D (star_eq hn)) (star_eq rfl)) ?_
  refine ha.go xo S tk G fun v r ρ1 H1 F1 b1 q1 G1 => ?_
  obtain ⟨d, l1, G2⟩ := op1_in G1
  cases d with
  | int j =>
    simp only at G2
    split at G2
    case isFalse => exact G2.elim
    rename_i hz
    have hB : B62 = 2 ^ 62 := by decide
    have hL : LIM = 2 ^ 24 := by decide
    refine ⟨j, (q1.rd b1.sim l1).int, ⟨by omega, by omega, by omega, by omega, by omega⟩, fun q hq => ?_⟩
    exact res_end b1.sim b1.stp.live G2 (Res.lst b1.sim.sub hq (rds_rng 0 j))
  | _ => exact G2.elim
theorem se_lrng2 {a b : Expr} {ia ib : E} {p p2 pos pos2 : Pos} (hc : ct.calm = true) (hg : glB ct.sc (Str.ofString "list") = true) (hl : ct.gl.lookup (Str.ofString "list") = some .free) (hg2 : glB ct.sc (Str.ofString "range") = true) (hl2 : ct.gl.lookup (Str.ofString "range") = some .free) (hn : nst a = true) (hn2 : nst b = true) (ha : SE g Φ k ct a ia) (hb : SE g Φ k ct b ib) :
    SE g Φ k ct (.Call (.Name (Str.ofString "list") p) [.Call (.Name (Str.ofString "range") p2) [a, b] [] pos2] [] pos) (.lrng2 ia ib) := by
  intro X xo ρ σ H F S Q W tk G
  have hm : X.mg "list" = none := xo.glob _ _ hl
  have hm2 : X.mg "range" = none := xo.glob _ _ hl2
  refine PE.d (pe_listRg (xo.rm.calm.trans hc) (glB_ok xo hg) hm (prg_2 (glB_ok xo hg2) hm2 pe_D pe_D (star_eq hn) (star_eq hn2) (by rw [star_eq hn2] <;> rfl)) (star_eq rfl)) ?_
  refine ha.go xo S tk G fun v r ρ1 H1 F1 b1 q1 G1 => ?_
  refine hb.go xo b1.sim tk G1 fun u r2 ρ2 H2 F2 b2 q2 G2 => ?_
  obtain ⟨d, l1, G3⟩ := op1_in G2
  obtain ⟨e, l2, G4⟩ := op1_in G3
  cases d with
  | int i =>
    cases e with
    | int j =>
      simp only at G4
      split at G4
      case isFalse => exact G4.elim
      rename_i hz
      have hB : B62 = 2 ^ 62 := by decide
      have hL : LIM = 2 ^ 24 := by decide
      refine ⟨i, j, ((q1.later b1.sim b2).rd b2.sim l1).int, (q2.rd b2.sim l2).int, ⟨by omega, by omega, by omega, by omega, by omega⟩, fun q hq => ?_⟩
      exact res_end b2.sim (fun c z => b2.stp.live c (b1.stp.live c z)) G4 (Res.lst b2.sim.sub hq (rds_rng i j))
    | _ => exact G4.elim
  | _ => exact G4.elim
/-! ### gcd -/
theorem se_gcd {x : Str} {a b : Expr} {is : Es} {p pos : Pos} (hg : glB ct.sc x = true) (hl : ct.gl.lookup x = some (.bfn "math.gcd")) (hd : (x == ("__debug__" : Str)) = false) (hn : [a, b].all nst = true) (hs : SA g Φ k ct [a, b] is) :
    SE g Φ k ct (.Call (.Name x p) [a, b] [] pos) (.bi .gcd is) := by
  intro X xo ρ σ H F S Q W tk G
  have hm : X.mg x = some (.builtin "math.gcd") := xo.glob _ _ hl
  have hn1 : nst a = true := by rw [List.all_cons, Bool.and_eq_true] at hn; exact hn.1
  have hn2 : [b].all nst = true := by rw [List.all_cons, Bool.and_eq_true] at hn; exact hn.2
  refine PE.d (pe_callBfun cr_gcd (glB_ok xo hg) hm pa_D hd (star_eq hn1) (star_plain hn2)) ?_
  refine hs.go xo S tk G fun vs rs ρ1 H1 F1 b1 q1 G1 => ?_
  split at G1
  · rename_i ds hd
    obtain ⟨r, hr, G2⟩ := toRs_in G1
    have hx := lookAll_rd b1.sim q1 hd
    unfold biD at hr
    split at hr <;> first
      | (exfalso; rename_i q; exact Bi.noConfusion q)
      | (exfalso; rename_i q _; exact Bi.noConfusion q)
      | (cases hr; done)
      | skip
    rename_i i j _
    cases hr
    cases hx with
    | cons h1 hx =>
    cases hx with
    | cons h2 hx =>
    cases hx
    cases h1.int
    cases h2.int
    exact ⟨i, j, rfl, res_end b1.sim b1.stp.live G2 (Res.same b1.sim.sub (.int _))⟩
  · exact G1.elim
end
end Ev

set_option Elab.async false
set_option linter.all false
set_option maxRecDepth 100000
set_option maxHeartbeats 1000000
/-! Ev5f: enumerate(text). Own work. -/
namespace Ev
open PySem PySem.Spec PyProof.Rows L2
/-- a text's signs, each in a new pair behind its number -/
def Ites (y : Str) : It :=
  ⟨fun i _ => i < y.cps.size, fun i H v H' => ∃ T c, v = .ref T ∧ H T = none ∧ y.cps[i]? = some c ∧ H' = upd H T (.tup [.int (i : Nat), .str ⟨#[c]⟩]), fun i _ => y.cps.size ≤ i⟩
/-- how the text's own walker stands -/
def StrSt (b : Addr) (y : Str) (t : Tok) (i : Nat) (h : Heap) : Prop := h.IsStrIter b (strIterType y) y t i
theorem str_draws {P : Program} {w : World} {A : Around} (hh : A.handled = none) (b : Addr) (y : Str) (t : Tok) : Draws P w A b [b] y.cps.size (fun i v => ∃ c u, y.cps[i]? = some c ∧ v = .str ⟨#[c]⟩ u) (StrSt b y t) := by
  have e : strIterType y = "str_ascii_iterator" ∨ strIterType y = "str_iterator" := by
    unfold strIterType
    split
    · exact .inl rfl
    · exact .inr rfl
  unfold StrSt
  rcases e with e | e <;> rw [e]
  · exact Draws.strAscii hh b y t
  · exact Draws.strWide hh b y t
theorem StrSt.up {b : Addr} {y : Str} {t : Tok} {i : Nat} {h h' : Heap} (st : StrSt b y t i h) (k : ∀ o, h.get? b = some o → h'.get? b = some o) : StrSt b y t i h' := by
  obtain ⟨o, ho, rest⟩ := st
  exact ⟨o, k o ho, rest⟩
theorem StrSt.obj {b : Addr} {y : Str} {t : Tok} {i : Nat} {h : Heap} (st : StrSt b y t i h) : ∃ o, h.get? b = some o ∧ ∀ v, o.data ≠ .cell v := by
  obtain ⟨o, ho, _, dat⟩ := st
  exact ⟨o, ho, fun v z => by rw [dat] at z; cases z⟩
theorem turn_enumS {P : Program} {w : World} {K : PySem.W.Frag} {elts : List Expr} {kk : Nat} {tp : Pos} (y : Str) (t : Tok) (b c : Addr) (hbc : b ≠ c) :
    Turn P w K (.Tuple elts kk tp) (Ites y) [b, c] b (fun i h => (∃ old, IsEnum h b c ((i : Nat) : Int) old) ∧ StrSt c y t i h ∧ i ≤ y.cps.size) where
  mem := List.mem_cons_self
  obj := fun i h st d hd => by
    obtain ⟨⟨old, q1⟩, q2, _⟩ := st
    rcases List.mem_cons.mp hd with z | z
    · subst z
      exact ⟨_, q1, fun v q => nomatch q⟩
    · have z := List.mem_singleton.mp z
      subst z
      exact q2.obj
  keep := fun i h h' st k => by
    obtain ⟨⟨old, q1⟩, q2, q3⟩ := st
    exact ⟨⟨old, k b (by simp) _ q1⟩, q2.up fun o q => k c (by simp) o q, q3⟩
  item := by
    intro X e1 e2 e3 hc i pins s σ H E I hf st hg
    subst e1 e2 e3
    obtain ⟨⟨old, q1⟩, q2, _⟩ := st
    have hlt : i < y.cps.size := hg
    have lb : b < s.heap.objs.size := Heap.lt_size q1
    have lc : c < s.heap.objs.size := by
      obtain ⟨o, ho, _⟩ := q2
      exact Heap.lt_size ho
    refine wpAny_pyNext_enum_itemD (str_draws (A := X.A.in1) (I.ok.hd hc) c y t) q1 q2 hlt hbc (fun z => hbc (List.mem_singleton.mp z)) fun u h1 tk hp out st1 hT sz keep => ?_
    obtain ⟨ch, tu, hch, rfl⟩ := hp
    refine ⟨_, rfl, wpAny_letOwnedTupleGo_enum (s := { s with heap := h1, toks := tk + 1 }) out fun h2 out2 sb => ?_⟩
    have hT2 := (sb.2 _ (Nat.ne_of_gt lb)).trans hT
    have keep2 : ∀ d o, d ∉ [b, c] → s.heap.get? d = some o → h2.get? d = some o := fun d o hd q => by
      have n1 : d ≠ b := fun z => hd (by simp [z])
      have n2 : d ≠ c := fun z => hd (by simp [z])
      exact (sb.2 d n1).trans (keep d o n1 n2 q)
    have new : ObjOk X.prog X.w (upd H s.heap.objs.size (.tup [.int (i : Nat), .str ⟨#[ch]⟩])) h2 s.heap.objs.size (.tup [.int (i : Nat), .str ⟨#[ch]⟩]) := by
      refine ⟨by show 2 ≤ sizeLine; decide, _, ?_, ⟨_, hT2, rfl, ⟨_, rfl⟩⟩⟩
      exact .cons ⟨_, rfl⟩ (.cons ⟨_, rfl⟩ .nil)
    have I1 := I.turnedNew (t' := tk + 1) (ch := [b, c]) keep2 hf (Nat.le_refl _) new
    refine ⟨.ref s.heap.objs.size, _, I1, rfl, ⟨_, ch, rfl, I.hok.fresh (Nat.le_refl _), hch, rfl⟩, ⟨⟨Value.str ⟨#[ch]⟩ tu, ?_⟩, st1.up (fun o q => (sb.2 c hbc.symm).trans q), hlt⟩, fun d hd => ?_⟩
    · have e1 : ((i + 1 : Nat) : Int) = (i : Int) + 1 := by omega
      rw [e1]; exact out2
    · have ld : d < s.heap.objs.size := by
        rcases List.mem_cons.mp hd with z | z
        · rw [z]; exact lb
        · rw [List.mem_singleton.mp z]; exact lc
      rw [upd_ne (Nat.ne_of_lt ld)]
      exact (hf d hd).1
  done := by
    intro X e1 e2 e3 hc i pins s σ H E I hf st hg
    subst e1 e2 e3
    obtain ⟨⟨old, q1⟩, q2, q3⟩ := st
    have hge : y.cps.size ≤ i := hg
    have hi : i = y.cps.size := Nat.le_antisymm q3 hge
    obtain ⟨f0, f1, f2, f3, f4, f5⟩ := hf c (by simp)
    rw [hi] at q2
    exact wpAny_pyNext_enum_endD (str_draws (A := X.A.in1) (I.ok.hd hc) c y t) q1 q2 fun h1 eb => ⟨rfl, I.turned (t' := s.toks) (fun d o hd q => eb d o hd q) f0 f1 f3 f4 f5⟩
  self := fun A i s Q E st h => by
    obtain ⟨⟨_, q1⟩, _⟩ := st
    exact wpAny_pyIter_enum q1 h
def iEnumS (ta : TA) : TI := fun σ H R => ta σ H fun vs H1 => ∃ y, vs = [.str y] ∧ R (Ites y) H1
theorem pi_enumS {X : Cx} {e : Expr} {ta : TA} {p pos tp : Pos} {elts : List Expr} {kk : Nat} (g1 : Gl X "enumerate") (g2 : X.mg "enumerate" = none) (ha : PA X [e] ta) (hs : starEach [e] X.env = [(false, eval e X.env)]) :
    PI X (.Tuple elts kk tp) (.Call (.Name "enumerate" p) [e] [] pos) (iEnumS ta) := by
  refine ⟨fun pins s σ H R I h => ?_⟩
  refine Call_ (ld_blt I g1 g2 PyProof.Rows.boot_enumerate ?_)
  refine PyProof.Rows.callWith_type1 (thn (ha.run pos pins s σ H _ I h) fun us s1 ⟨vs, H1, I1, r1, q1⟩ => ?_) hs rfl
  obtain ⟨y, ey, q⟩ := q1
  subst ey
  cases r1 with
  | cons r rr =>
  cases rr
  obtain ⟨t, rfl⟩ := r
  refine call_enumerate_str fun h1 he hit hsz hk => wpAny_pyIter_enum he ?_
  have I2 : Inv X pins σ H1 { s1 with heap := h1 } := I1.kept (t' := s1.toks) hk
  have st0 : StrSt s1.heap.objs.size y t 0 h1 := hit
  refine ⟨s1.heap.objs.size + 1, [s1.heap.objs.size + 1, s1.heap.objs.size], _, _, H1, rfl, I2, turn_enumS y t (s1.heap.objs.size + 1) s1.heap.objs.size (Nat.succ_ne_self _), ⟨⟨.none, he⟩, st0, Nat.zero_le _⟩, fun d hd => ?_, q⟩
  have le : s1.heap.objs.size ≤ d := by
    rcases List.mem_cons.mp hd with z | z
    · rw [z]; exact Nat.le_succ _
    · rw [List.mem_singleton.mp z]; exact Nat.le_refl _
  exact I1.fpOk le (I1.hok.fresh le)
end Ev

set_option Elab.async false
set_option linter.all false
set_option maxRecDepth 100000
set_option maxHeartbeats 1000000
/-! Ev6: what is walked; what statements do. Own work. -/
namespace Ev
open PySem PySem.Spec PyProof.Rows L2
section
variable {g : Gi} {Φ : Fns} {k : Nat} {ct : Ct} {X : Cx} {ρ ρ' ρ0 ρ1 ρ2 : En} {σ σ' σ0 σ1 σ2 : St} {H F H' F' H0 F0 H1 F1 H2 F2 : Hp} {W : WX}
theorem Own.of {a : Addr} : Own ρ σ a ↔ ∃ i, OwnM ρ σ i a := Iff.rfl
theorem OwnL.of {a : Addr} : OwnL ρ σ a ↔ ∃ i, OwnAt ρ σ i a := Iff.rfl
/-! ### locks -/
theorem lock_ne {m : Md} : m.lock ≠ .fz ↔ m ≠ .fz := by cases m <;> decide
theorem lockS_some {j : Nat} {s : Sl} (h : ρ.get j = some s) : lockS ρ (.s j) = ρ.set j (some ⟨s.m.lock, s.d⟩) := by
  show (match ρ.get j with
    | some s => ρ.set j (some ⟨s.m.lock, s.d⟩)
    | none => ρ) = _
  rw [h]
theorem lockS_none {j : Nat} (h : ρ.get j = none) : lockS ρ (.s j) = ρ := by
  show (match ρ.get j with
    | some s => ρ.set j (some ⟨s.m.lock, s.d⟩)
    | none => ρ) = _
  rw [h]
theorem lock_get {r : Vr} : ∀ i, (lockS ρ r).get i = (ρ.get i) ∨ (∃ s, r = .s i ∧ ρ.get i = some s ∧ (lockS ρ r).get i = some ⟨s.m.lock, s.d⟩) := by
  intro i
  cases r with
  | v d => exact .inl rfl
  | o d => exact .inl rfl
  | s j =>
    cases q : ρ.get j with
    | none => rw [lockS_none q]; exact .inl rfl
    | some s =>
      rw [lockS_some q]
      by_cases h : j = i
      · subst h
        exact .inr ⟨s, rfl, q, get_set_same (get_lt q)⟩
      · exact .inl (get_set_ne h)
theorem lock_len {r : Vr} : (lockS ρ r).length = ρ.length := by
  cases r with
  | v d => rfl
  | o d => rfl
  | s j =>
    cases q : ρ.get j with
    | none => rw [lockS_none q]
    | some s => rw [lockS_some q, List.length_set]
theorem lock_own {r : Vr} {i : Nat} {s : Sl} (h : (lockS ρ r).get i = some s) : ∃ t, ρ.get i = some t ∧ t.d = s.d ∧ (s.m ≠ .fz ↔ t.m ≠ .fz) ∧ (s.m = .own → t.m = .own ∧ r ≠ .s i) := by
  cases r with
  | v d => exact ⟨s, h, rfl, Iff.rfl, fun e => ⟨e, fun z => nomatch z⟩⟩
  | o d => exact ⟨s, h, rfl, Iff.rfl, fun e => ⟨e, fun z => nomatch z⟩⟩
  | s j =>
    cases q : ρ.get j with
    | none =>
      rw [lockS_none q] at h
      exact ⟨s, h, rfl, Iff.rfl, fun e => ⟨e, fun z => by cases z; rw [q] at h; cases h⟩⟩
    | some t =>
      rw [lockS_some q] at h
      rw [get_set (get_lt q)] at h
      split at h
      · rename_i e
        subst e
        cases h
        refine ⟨t, q, rfl, lock_ne, fun e => ?_⟩
        have e : t.m.lock = .own := e
        cases hm : t.m <;> rw [hm] at e <;> cases e
      · rename_i e
        exact ⟨s, h, rfl, Iff.rfl, fun z => ⟨z, fun y => by cases y; exact e rfl⟩⟩
theorem SlRel.md {s t : Sl} {v : V} (h : SlRel g H F s v) (e : t.d = s.d) (m : t.m ≠ .fz ↔ s.m ≠ .fz) : SlRel g H F t v := by
  unfold SlRel at h ⊢
  rw [e]
  by_cases hs : s.m = .fz
  · have ht : t.m = .fz := by cases q : t.m <;> first | rfl | exact absurd hs (m.mp (by rw [q]; decide))
    rw [hs] at h
    rw [ht]
    exact h
  · have ht := m.mpr hs
    have h' : ∃ a, v = .ref a ∧ F a = none ∧ Cell g H F a s.d := by
      cases q : s.m with
      | fz => exact absurd q hs
      | lk => rw [q] at h; exact h
      | own => rw [q] at h; exact h
    cases q : t.m with
    | fz => exact absurd q ht
    | lk => exact h'
    | own => exact h'
theorem lock_bh {r : Vr} (S : Sim g ρ σ H F) : Bh g ρ σ H F (lockS ρ r) σ H F := by
  have ow : ∀ i a, OwnM (lockS ρ r) σ i a → OwnM ρ σ i a := fun i a ⟨s, h1, h2, h3⟩ => by
    obtain ⟨t, q1, _, _, q4⟩ := lock_own h1
    exact ⟨t, q1, (q4 h2).1, h3⟩
  have ol : ∀ i a, OwnAt (lockS ρ r) σ i a → OwnAt ρ σ i a := fun i a ⟨s, h1, h2, h3⟩ => by
    obtain ⟨t, q1, _, q3, _⟩ := lock_own h1
    exact ⟨t, q1, q3.mp h2, h3⟩
  refine ⟨⟨lock_len.trans S.len, S.sub, fun i s h => ?_, fun i j s t a h1 h2 m1 m2 v1 v2 => ?_⟩, ⟨Same.refl F, fun _ z => .inl z, fun _ _ z _ => z, fun _ z => z, fun b ⟨i, z⟩ => .inl ⟨i, ow i b z⟩, fun b ⟨i, z⟩ => .inl ⟨i, ol i b z⟩⟩, fun i hi => ?_, fun i a z => .inl (ow i a z), fun i a z => .inl (ol i a z)⟩
  · obtain ⟨t, q1, q2, q3, _⟩ := lock_own h
    obtain ⟨v, e, q⟩ := S.val i t q1
    exact ⟨v, e, q.md q2.symm q3⟩
  · obtain ⟨s', p1, _, p3, _⟩ := lock_own h1
    obtain ⟨t', q1, _, q3, _⟩ := lock_own h2
    exact S.sep i j s' t' a p1 q1 (p3.mp m1) (q3.mp m2) v1 v2
  · rcases lock_get (ρ := ρ) (r := r) i with h | ⟨s, _, _, h⟩
    · rw [h]; exact hi
    · rw [h] <;> rfl

/-! ### what is walked, as it is held -/
/-- a list that is walked -/
inductive HL (g : Gi) (ρ : En) (σ : St) (H F : Hp) : Addr → List V → List D → Prop
  | lst {a xs rows} : H a = some (.lst xs) → ¬ Own ρ σ a → RDs g F xs rows → HL g ρ σ H F a xs rows
  | seq {a xs rows} : SqL g.K F a xs → RDs g F xs rows → HL g ρ σ H F a xs rows
theorem HL.rd {a : Addr} {xs : List V} {rows : List D} (h : HL g ρ σ H F a xs rows) : RDs g F xs rows := by
  cases h with
  | lst _ _ r => exact r
  | seq _ r => exact r
theorem HL.sq {a : Addr} {xs : List V} {rows : List D} (h : HL g ρ σ H F a xs rows) (s : Same F H) : SqL g.K H a xs := by
  cases h with
  | lst h _ _ => exact .inl (.inl h)
  | seq h _ => exact Same.seq s h
theorem HL.step {a : Addr} {xs : List V} {rows : List D} (h : HL g ρ σ H F a xs rows) (st : Stp ρ σ H F ρ' σ' H' F') : HL g ρ' σ' H' F' a xs rows := by
  cases h with
  | lst h n r =>
    refine .lst (st.mod _ _ h n) (fun z => ?_) (r.mono st.fzs)
    rcases st.own _ z with z | z
    · exact n z
    · rw [z] at h; cases h
  | seq h r => exact .seq (Same.seq st.fzs h) (r.mono st.fzs)
inductive Held (g : Gi) (ρ : En) (σ : St) (H F : Hp) : It → List D → Prop
  | lst {a xs rows} : HL g ρ σ H F a xs rows → Held g ρ σ H F (Itl g.K a) rows
  | tup {a xs rows} : SqT g.K F a xs → RDs g F xs rows → Held g ρ σ H F (Itt g.K a) rows
  | str (l : List Nat) : okL l → Held g ρ σ H F (Its ⟨l.toArray⟩) (l.map fun c => .str [c])
  | rng (lo : Int) (n : Nat) : Held g ρ σ H F (Itr lo n) ((List.range n).map fun (k : Nat) => .int (lo + k))
  | enum {a xs rows} : HL g ρ σ H F a xs rows → Held g ρ σ H F (Ite g.K a) (enumD rows)
  | enumS (l : List Nat) : okL l → Held g ρ σ H F (Ites ⟨l.toArray⟩) (enumD (l.map fun c => .str [c]))
  | zip {a b xs ys rows rows2} : HL g ρ σ H F a xs rows → HL g ρ σ H F b ys rows2 → Held g ρ σ H F (Itz g.K a b) (zipD rows rows2)
  | back {a xs rows} : HL g ρ σ H F a xs rows → Held g ρ σ H F (Itv g.K a xs.length) rows.reverse
theorem Held.step {J : It} {rows : List D} (h : Held g ρ σ H F J rows) (st : Stp ρ σ H F ρ' σ' H' F') : Held g ρ' σ' H' F' J rows := by
  cases h with
  | lst h => exact .lst (h.step st)
  | tup h r => exact .tup (Same.seqT st.fzs h) (r.mono st.fzs)
  | str l o => exact .str l o
  | rng lo n => exact .rng lo n
  | enum h => exact .enum (h.step st)
  | enumS l o => exact .enumS l o
  | zip h h2 => exact .zip (h.step st) (h2.step st)
  | back h => exact .back (h.step st)
/-- what comes out is frozen; a new pair may have been laid -/
theorem Held.turn {J : It} {rows : List D} (h : Held g ρ σ H F J rows) (S : Sim g ρ σ H F) (i : Nat) : (rows.length ≤ i → J.stop i H) ∧ ∀ d, rows[i]? = some d → J.go i H ∧ ∀ x H', J.yld i H x H' → ∃ F', Bh g ρ σ H F ρ σ H' F' ∧ RD g F' x d := by
  have s := S.sub
  have pure : ∀ {x : V} {d : D} {H' : Hp}, H' = H → RD g F x d → ∃ F', Bh g ρ σ H F ρ σ H' F' ∧ RD g F' x d := fun e r => by
    subst e
    exact ⟨F, Bh.refl S, r⟩
  have new : ∀ {T : Addr} {x y : V} {d e : D} {H' : Hp}, H T = none → H' = upd H T (.tup [x, y]) → RD g F x d → RD g F y e → ∃ F', Bh g ρ σ H F ρ σ H' F' ∧ RD g F' (.ref T) (.tup [d, e]) := fun h1 h2 r1 r2 => by
    subst h2
    obtain ⟨F2, S2, st, rr⟩ := S.res (Res.tup s h1 (.cons r1 (.cons r2 .nil)))
    exact ⟨F2, ⟨S2, st, Keeps.refl _, Pv.refl⟩, rr⟩
  cases h with
  | @lst a xs _ hl =>
    have hq := hl.sq s
    have r := hl.rd
    refine ⟨fun z => ⟨xs, hq, by rw [r.length]; exact z⟩, fun d hd => ?_⟩
    obtain ⟨v, hv, rd⟩ := r.get hd
    refine ⟨⟨xs, v, hq, hv⟩, fun x H' ⟨e, y⟩ => pure e ?_⟩
    have := y xs hq
    rw [hv] at this
    cases this
    exact rd
  | @tup a xs _ h r =>
    have hq : SqT g.K H a xs := Same.seqT s h
    refine ⟨fun z => ⟨xs, hq, by rw [r.length]; exact z⟩, fun d hd => ?_⟩
    obtain ⟨v, hv, rd⟩ := r.get hd
    refine ⟨⟨xs, v, hq, hv⟩, fun x H' ⟨e, y⟩ => pure e ?_⟩
    have := y xs hq
    rw [hv] at this
    cases this
    exact rd
  | str l o =>
    refine ⟨fun z => ?_, fun d hd => ?_⟩
    · show l.toArray.size ≤ i
      rw [List.length_map] at z
      simpa using z
    · rw [List.getElem?_map] at hd
      cases hc : l[i]? with
      | none => rw [hc] at hd; cases hd
      | some c =>
        rw [hc] at hd
        cases hd
        have hlt := (List.getElem?_eq_some_iff.mp hc).1
        refine ⟨by show i < l.toArray.size; simpa using hlt, fun x H' ⟨e, c', h1, h2⟩ => pure e ?_⟩
        have h1 : l.toArray[i]? = some c' := h1
        rw [List.getElem?_toArray, hc] at h1
        cases h1
        rw [h2]
        exact .str [c] (okL_one o (List.mem_of_getElem? hc))
  | rng lo n =>
    refine ⟨fun z => ?_, fun d hd => ?_⟩
    · show n ≤ i
      simpa using z
    · rw [List.getElem?_map] at hd
      by_cases hi : i < n
      · rw [List.getElem?_range hi] at hd
        cases hd
        exact ⟨hi, fun x H' ⟨e, h2⟩ => pure e (by rw [h2]; exact .int _)⟩
      · rw [List.getElem?_eq_none (by rw [List.length_range]; omega)] at hd
        cases hd
  | @enum a xs rows hl =>
    have hq := hl.sq s
    have r := hl.rd
    refine ⟨fun z => ⟨xs, hq, by rw [r.length]; unfold enumD at z; rwa [List.length_mapIdx] at z⟩, fun d hd => ?_⟩
    unfold enumD at hd
    rw [List.getElem?_mapIdx] at hd
    obtain ⟨d0, hd0, rfl⟩ := Option.map_eq_some_iff.mp hd
    obtain ⟨v, hv, rd⟩ := r.get hd0
    refine ⟨⟨xs, v, hq, hv⟩, fun x H' ⟨T, x0, e1, e2, e3, y⟩ => ?_⟩
    subst e1
    have := y xs hq
    rw [hv] at this
    cases this
    exact new e2 e3 (.int _) rd
  | enumS l o =>
    refine ⟨fun z => ?_, fun d hd => ?_⟩
    · show l.toArray.size ≤ i
      unfold enumD at z
      rw [List.length_mapIdx, List.length_map] at z
      simpa using z
    · unfold enumD at hd
      rw [List.getElem?_mapIdx, List.getElem?_map] at hd
      cases hc : l[i]? with
      | none => rw [hc] at hd; cases hd
      | some c =>
        rw [hc] at hd
        cases hd
        have hlt := (List.getElem?_eq_some_iff.mp hc).1
        refine ⟨by show i < l.toArray.size; simpa using hlt, fun x H' ⟨T, c', e1, e2, h1, e3⟩ => ?_⟩
        subst e1
        have h1 : l.toArray[i]? = some c' := h1
        rw [List.getElem?_toArray, hc] at h1
        cases h1
        exact new e2 e3 (.int _) (.str [c] (okL_one o (List.mem_of_getElem? hc)))
  | @zip a b xs ys rows rows2 hl hl2 =>
    have hq := hl.sq s
    have hq2 := hl2.sq s
    have r := hl.rd
    have r2 := hl2.rd
    refine ⟨fun z => ⟨xs, ys, hq, hq2, by unfold zipD at z; rw [List.length_zipWith] at z; rw [r.length, r2.length]; omega⟩, fun d hd => ?_⟩
    unfold zipD at hd
    rw [List.getElem?_zipWith] at hd
    cases h1 : rows[i]? with
    | none => rw [h1] at hd; cases hd
    | some d1 =>
    cases h2 : rows2[i]? with
    | none => rw [h1, h2] at hd; cases hd
    | some d2 =>
    rw [h1, h2] at hd
    cases hd
    obtain ⟨v, hv, rd⟩ := r.get h1
    obtain ⟨v2, hv2, rd2⟩ := r2.get h2
    refine ⟨⟨xs, ys, v, v2, hq, hq2, hv, hv2⟩, fun x H' ⟨T, x0, y0, e1, e2, e3, y, y2⟩ => ?_⟩
    subst e1
    have t1 := y xs hq
    have t2 := y2 ys hq2
    rw [hv] at t1
    rw [hv2] at t2
    cases t1
    cases t2
    exact new e2 e3 rd rd2
  | @back a xs rows hl =>
    have hq := hl.sq s
    have r := hl.rd
    refine ⟨fun z => by rw [List.length_reverse] at z; show xs.length ≤ i; rw [r.length]; exact z, fun d hd => ?_⟩
    have hlt := (List.getElem?_eq_some_iff.mp hd).1
    rw [List.length_reverse] at hlt
    rw [List.getElem?_reverse hlt] at hd
    obtain ⟨v, hv, rd⟩ := r.get hd
    rw [← r.length] at hv hlt
    refine ⟨⟨hlt, xs, v, hq, hv⟩, fun x H' ⟨e, y⟩ => pure e ?_⟩
    have := y xs hq
    rw [hv] at this
    cases this
    exact rd
/-- a walk -/
def OkI (g : Gi) (σ : St) (R : It → Hp → Prop) : List D × List Vr → En → Hp → Hp → Prop := fun p ρ' H' F' => ∀ J, Held g (lockL ρ' p.2) σ H' F' J p.1 → R J H'
def SI (g : Gi) (Φ : Fns) (k : Nat) (ct : Ct) (tg iter : Expr) (ir : Wk) : Prop := ∀ X, XOk g Φ k ct X → ∀ ρ σ H F, Sim g ρ σ H F → ∀ (R : It → Hp → Prop) (W : WX), Takes X W → GdR g ρ σ H F (evI Φ ir ρ) (OkI g σ R) W → DI X tg iter σ H R
/-- what has no place of its own is frozen -/
theorem VrRel.rdf {v : V} {r : Vr} {d : D} (S : Sim g ρ σ H F) (h : VrRel g ρ σ H F H0 v r) (l : look ρ r = some d) (hn : (∀ xs, d ≠ .lst xs) ∧ ∀ ks vs, d ≠ .dic ks vs) : RD g F v d := by
  have nc : ∀ {a}, ¬ Cell g H F a d := fun {a} c => by
    rcases c with ⟨_, ds, e, _⟩ | ⟨_, ks, vs, e, _⟩
    · exact hn.1 _ e
    · exact hn.2 _ _ e
  cases r with
  | v e => cases l; exact h
  | o e =>
    cases l
    obtain ⟨a, _, _, _, c, _⟩ := h
    exact absurd c nc
  | s i =>
    obtain ⟨h1, h2⟩ := h
    obtain ⟨s, hs⟩ := Option.isSome_iff_exists.mp h2
    have l' : s.d = d := by
      unfold look at l
      simp only [hs] at l
      exact Option.some.inj l
    subst l'
    obtain ⟨w, e, q⟩ := S.val i s hs
    rw [h1] at e
    cases e
    unfold SlRel at q
    cases hm : s.m with
    | fz => rw [hm] at q; exact q
    | lk => rw [hm] at q; obtain ⟨a, _, _, c⟩ := q; exact absurd c nc
    | own => rw [hm] at q; obtain ⟨a, _, _, c⟩ := q; exact absurd c nc
theorem held_lst {v : V} {r : Vr} {rows : List D} (S : Sim g ρ σ H F) (h : VrRel g ρ σ H F H0 v r) (l : look ρ r = some (.lst rows)) : ∃ a xs, v = .ref a ∧ SqL g.K H a xs ∧ HL g (lockS ρ r) σ H F a xs rows := by
  have fz : RD g F v (.lst rows) → ∃ a xs, v = .ref a ∧ SqL g.K H a xs ∧ HL g (lockS ρ r) σ H F a xs rows := fun h => by
    cases h with
    | lst hl rr => exact ⟨_, _, rfl, .inl (.inl (S.sub _ _ hl)), .seq (.inl (.inl hl)) rr⟩
  have cell : ∀ a, v = .ref a → Cell g H F a (.lst rows) → ¬ Own (lockS ρ r) σ a → ∃ a xs, v = .ref a ∧ SqL g.K H a xs ∧ HL g (lockS ρ r) σ H F a xs rows := fun a e c n => by
    rcases c with ⟨xs, ds, e2, hl, rr⟩ | ⟨_, _, _, e2, _⟩
    · cases e2
      exact ⟨a, xs, e, .inl (.inl hl), .lst hl n rr⟩
    · cases e2
  cases r with
  | v e => cases l; exact fz h
  | o e =>
    cases l
    obtain ⟨a, e1, _, _, c, no⟩ := h
    exact cell a e1 c fun ⟨i, s, h1, h2, h3⟩ => no ⟨i, s, h1, by rw [h2]; decide, h3⟩
  | s j =>
    obtain ⟨h1, h2⟩ := h
    obtain ⟨s, hs⟩ := Option.isSome_iff_exists.mp h2
    have l' : s.d = .lst rows := by
      unfold look at l
      simp only [hs] at l
      exact Option.some.inj l
    obtain ⟨w, e, q⟩ := S.val j s hs
    rw [h1] at e
    cases e
    rw [← l'] at fz cell
    by_cases hm : s.m = .fz
    · unfold SlRel at q
      rw [hm] at q
      exact fz q
    · have q' : ∃ a, v = .ref a ∧ F a = none ∧ Cell g H F a s.d := by
        unfold SlRel at q
        cases hq : s.m with
        | fz => exact absurd hq hm
        | lk => rw [hq] at q; exact q
        | own => rw [hq] at q; exact q
      obtain ⟨a, e1, _, c⟩ := q'
      refine cell a e1 c fun ⟨i, t, t1, t2, t3⟩ => ?_
      obtain ⟨t', q1, _, _, q4⟩ := lock_own t1
      obtain ⟨q5, q6⟩ := q4 t2
      subst e1
      have := S.sep i j t' s a q1 hs (by rw [q5]; decide) hm t3 h1
      subst this
      exact q6 rfl
theorem fold_set {iter : Expr} {env : Env} (h : (match iter with
    | .Set _ _ _ => false
    | _ => true) = true) : ∀ x, foldedSetIterable iter env x = pure x := by
  intro x
  cases iter <;> first | (cases h; done) | rfl
theorem si_seq {tg e : Expr} {ie : E} (he : SE g Φ k ct e ie) : SI g Φ k ct tg e (.seq ie) := by
  intro X xo ρ σ H F S R W tk G
  cases hx : evE Φ ie ρ with
  | err =>
    unfold evI at G
    rw [hx] at G
    exact G.elim
  | ex x ρ1 =>
    refine PI.d (pi_list pe_D) ?_
    refine he X xo ρ σ H F S _ W tk ?_
    unfold evI at G
    rw [hx] at G ⊢
    exact G
  | ok r ρ1 =>
    unfold evI at G
    rw [hx] at G
    have G : GdR g ρ σ H F (op1 ρ1 r fun d => match items d with
      | some ds => .ok (ds, [r]) ρ1
      | none => .err) (OkI g σ R) W := G
    unfold op1 at G
    split at G
    case h_2 => exact G.elim
    rename_i d l1
    simp only at G
    split at G
    case h_2 => exact G.elim
    rename_i ds hd
    have go : ∀ {R' : VK}, (∀ v H1 F1, Bh g ρ σ H F ρ1 σ H1 F1 → VrRel g ρ1 σ H1 F1 H v r → R' v H1) → DE X e σ H R' := fun K => he X xo ρ σ H F S _ W tk (by rw [hx]; exact fun H' F' b v hv => K v H' F' b hv)
    cases d with
    | lst xs =>
      cases hd
      refine PI.d (pi_list pe_D) (go fun v H1 F1 b hv => ?_)
      rw [xo.rm.K]
      obtain ⟨a, xs, e1, h1, h2⟩ := held_lst b.sim hv l1
      exact ⟨a, e1, ⟨xs, h1⟩, G H1 F1 b _ (.lst h2)⟩
    | scr ns =>
      cases hd
      refine PI.d (pi_list pe_D) (go fun v H1 F1 b hv => ?_)
      rw [xo.rm.K]
      have rd := hv.rdf b.sim l1 ⟨fun _ z => (nomatch z), fun _ _ z => (nomatch z)⟩
      cases rd with
      | scr hq => exact ⟨_, rfl, ⟨_, Same.seq b.sim.sub hq⟩, G H1 F1 b _ (.lst (.seq hq (rds_ints _)))⟩
    | tup xs =>
      cases hd
      refine PI.d (pi_tup pe_D) (go fun v H1 F1 b hv => ?_)
      rw [xo.rm.K]
      have rd := hv.rdf b.sim l1 ⟨fun _ z => (nomatch z), fun _ _ z => (nomatch z)⟩
      cases rd with
      | tup hq rr => exact ⟨_, rfl, ⟨_, Same.seqT b.sim.sub hq⟩, G H1 F1 b _ (.tup hq rr)⟩
    | str l =>
      cases hd
      refine PI.d (pi_str pe_D) (go fun v H1 F1 b hv => ?_)
      obtain ⟨rfl, ok⟩ := (hv.rd b.sim l1).str
      exact ⟨_, rfl, G H1 F1 b _ (.str l ok)⟩
    | _ => cases hd
theorem si_rng1 {tg a : Expr} {ia : E} {p pos : Pos} (hg : glB ct.sc (Str.ofString "range") = true) (hl : ct.gl.lookup (Str.ofString "range") = some .free) (hn : nst a = true) (ha : SE g Φ k ct a ia) : SI g Φ k ct tg (.Call (.Name (Str.ofString "range") p) [a] [] pos) (.rng1 ia) := by
  intro X xo ρ σ H F S R W tk G
  refine PI.d (pi_range1 (glB_ok xo hg) (xo.glob _ _ hl) (pa_cons pe_D pa_nil (star_eq hn)) (star_eq hn)) ?_
  refine ha.go xo S tk G fun v r ρ1 H1 F1 b1 q1 G1 => ?_
  obtain ⟨d, l1, G2⟩ := op1_in G1
  cases d with
  | int j =>
    simp only at G2
    split at G2
    case isFalse => exact G2.elim
    rename_i hz
    refine ⟨j, by rw [(q1.rd b1.sim l1).int], hz.1, hz.2, G2.now b1.sim _ ?_⟩
    have e : rngD 0 j = (List.range j.toNat).map fun (k : Nat) => D.int (0 + k) := by
      unfold rngD
      rw [Int.sub_zero]
    rw [e]
    exact .rng 0 j.toNat
  | _ => exact G2.elim
theorem si_rng2 {tg a b : Expr} {ia ib : E} {p pos : Pos} (hg : glB ct.sc (Str.ofString "range") = true) (hl : ct.gl.lookup (Str.ofString "range") = some .free) (hn : nst a = true) (hn2 : nst b = true) (ha : SE g Φ k ct a ia) (hb : SE g Φ k ct b ib) : SI g Φ k ct tg (.Call (.Name (Str.ofString "range") p) [a, b] [] pos) (.rng2 ia ib) := by
  intro X xo ρ σ H F S R W tk G
  refine PI.d (pi_range2 (glB_ok xo hg) (xo.glob _ _ hl) (pa_cons pe_D (pa_cons pe_D pa_nil (star_eq hn2)) (star_eq hn)) (by rw [star_eq hn, star_eq hn2] <;> rfl) (star_eq hn2)) ?_
  refine ha.go xo S tk G fun v r ρ1 H1 F1 b1 q1 G1 => ?_
  refine hb.go xo b1.sim tk G1 fun u r2 ρ2 H2 F2 b2 q2 G2 => ?_
  obtain ⟨d, l1, G3⟩ := op1_in G2
  obtain ⟨e, l2, G4⟩ := op1_in G3
  cases d with
  | int i =>
    cases e with
    | int j =>
      simp only at G4
      split at G4
      case isFalse => exact G4.elim
      rename_i hz
      refine ⟨i, j, by rw [((q1.later b1.sim b2).rd b2.sim l1).int, (q2.rd b2.sim l2).int], ⟨hz.1, hz.2.1, hz.2.2.1, hz.2.2.2⟩, G4.now b2.sim _ ?_⟩
      exact .rng i (j - i).toNat
    | _ => exact G4.elim
  | _ => exact G4.elim
theorem held_of {v : V} {r : Vr} {d : D} {rows : List D} (S : Sim g ρ σ H F) (h : VrRel g ρ σ H F H0 v r) (l : look ρ r = some d) (e : lstOf d = some rows) : ∃ a xs, v = .ref a ∧ SqL g.K H a xs ∧ HL g (lockS ρ r) σ H F a xs rows := by
  cases d <;> simp only [lstOf] at e <;> cases e
  · exact held_lst S h l
  · have rd := h.rdf S l ⟨fun _ z => (nomatch z), fun _ _ z => (nomatch z)⟩
    cases rd with
    | scr hq => exact ⟨_, _, rfl, Same.seq S.sub hq, .seq hq (rds_ints _)⟩
theorem look_lock {r r2 : Vr} {d : D} (l : look ρ r = some d) : look (lockS ρ r2) r = some d := by
  cases r with
  | v e => exact l
  | o e => exact l
  | s i =>
    unfold look at l ⊢
    simp only at l ⊢
    rcases lock_get (ρ := ρ) (r := r2) i with h | ⟨s, _, h1, h⟩
    · rw [h]; exact l
    · rw [h1] at l
      rw [h]
      exact l
theorem si_enum {a : Expr} {ia : E} {p pos tp : Pos} {elts : List Expr} {kk : Nat} (hg : glB ct.sc (Str.ofString "enumerate") = true) (hl : ct.gl.lookup (Str.ofString "enumerate") = some .free) (hn : nst a = true) (ha : SE g Φ k ct a ia) :
    SI g Φ k ct (.Tuple elts kk tp) (.Call (.Name (Str.ofString "enumerate") p) [a] [] pos) (.enum ia) := by
  intro X xo ρ σ H F S R W tk G
  have hm : X.mg "enumerate" = none := xo.glob _ _ hl
  cases hx : evE Φ ia ρ with
  | err => unfold evI at G; rw [hx] at G; exact G.elim
  | ex x ρ1 =>
    refine PI.d (pi_enum (glB_ok xo hg) hm (pa_cons pe_D pa_nil (star_eq hn)) (star_eq hn)) ?_
    unfold evI at G
    rw [hx] at G
    exact ha X xo ρ σ H F S _ W tk (by rw [hx]; exact G)
  | ok r ρ1 =>
    unfold evI at G
    rw [hx] at G
    have G : GdR g ρ σ H F (op1 ρ1 r fun d => match enumOf d with
      | some ds => .ok (enumD ds, [r]) ρ1
      | none => .err) (OkI g σ R) W := G
    unfold op1 at G
    split at G
    case h_2 => exact G.elim
    rename_i d l1
    have G2 := G
    clear G
    cases he : enumOf d with
    | none => simp only [he] at G2; exact G2.elim
    | some ds =>
    simp only [he] at G2
    have run : ∀ {R' : VK}, (∀ v H1 F1, Bh g ρ σ H F ρ1 σ H1 F1 → VrRel g ρ1 σ H1 F1 H v r → R' v H1) → DE X a σ H R' := fun K => ha X xo ρ σ H F S _ W tk (by rw [hx]; exact fun H' F' b v hv => K v H' F' b hv)
    cases hd : lstOf d with
    | some rows =>
      have hds : ds = rows := by
        cases d <;> simp only [lstOf] at hd <;> simp only [enumOf] at he <;> cases hd <;> cases he <;> rfl
      subst hds
      refine PI.d (pi_enum (glB_ok xo hg) hm (pa_cons pe_D pa_nil (star_eq hn)) (star_eq hn)) ?_
      refine run fun v H1 F1 b hv => ?_
      obtain ⟨c, xs, e1, h1, h2⟩ := held_of b.sim hv l1 hd
      rw [xo.rm.K]
      exact ⟨c, xs, by rw [e1], h1, G2 H1 F1 b _ (.enum h2)⟩
    | none =>
      cases d <;> simp only [enumOf] at he <;> cases he <;> simp only [lstOf] at hd <;> cases hd
      refine PI.d (pi_enumS (glB_ok xo hg) hm (pa_cons pe_D pa_nil (star_eq hn)) (star_eq hn)) ?_
      refine run fun v H1 F1 b hv => ?_
      obtain ⟨rfl, ok⟩ := (hv.rd b.sim l1).str
      exact ⟨_, rfl, G2 H1 F1 b _ (.enumS _ ok)⟩
theorem si_back {tg a : Expr} {ia : E} {p pos : Pos} (hg : glB ct.sc (Str.ofString "reversed") = true) (hl : ct.gl.lookup (Str.ofString "reversed") = some .free) (hn : nst a = true) (ha : SE g Φ k ct a ia) :
    SI g Φ k ct tg (.Call (.Name (Str.ofString "reversed") p) [a] [] pos) (.back ia) := by
  intro X xo ρ σ H F S R W tk G
  have hm : X.mg "reversed" = none := xo.glob _ _ hl
  refine PI.d (pi_reversed (glB_ok xo hg) hm (pa_cons pe_D pa_nil (star_eq hn)) (star_eq hn)) ?_
  refine ha.go xo S tk G fun v r ρ1 H1 F1 b1 q1 G1 => ?_
  obtain ⟨d, l1, G2⟩ := op1_in G1
  cases he : lstOf d with
  | none => simp only [he] at G2; exact G2.elim
  | some rows =>
    simp only [he] at G2
    obtain ⟨c, xs, e1, h1, h2⟩ := held_of b1.sim q1 l1 he
    rw [xo.rm.K]
    exact ⟨c, xs, by rw [e1], h1, G2.now b1.sim _ (.back h2)⟩
theorem si_zip {a b : Expr} {ia ib : E} {p pos tp : Pos} {elts : List Expr} {kk : Nat} (hg : glB ct.sc (Str.ofString "zip") = true) (hl : ct.gl.lookup (Str.ofString "zip") = some .free) (hn : nst a = true) (hn2 : nst b = true) (ha : SE g Φ k ct a ia) (hb : SE g Φ k ct b ib) :
    SI g Φ k ct (.Tuple elts kk tp) (.Call (.Name (Str.ofString "zip") p) [a, b] [] pos) (.zip ia ib) := by
  intro X xo ρ σ H F S R W tk G
  have hm : X.mg "zip" = none := xo.glob _ _ hl
  refine PI.d (pi_zip (glB_ok xo hg) hm (pa_cons pe_D (pa_cons pe_D pa_nil (star_eq hn2)) (star_eq hn)) (star_eq hn) (by rw [star_eq hn2] <;> rfl)) ?_
  refine ha.go xo S tk G fun v r ρ1 H1 F1 b1 q1 G1 => ?_
  refine hb.go xo b1.sim tk G1 fun u r2 ρ2 H2 F2 b2 q2 G2 => ?_
  obtain ⟨d, l1, G3⟩ := op1_in G2
  obtain ⟨e, l2, G4⟩ := op1_in G3
  cases h1 : lstOf d with
  | none => simp only [h1] at G4; exact G4.elim
  | some rows =>
  cases h2 : lstOf e with
  | none => simp only [h1, h2] at G4; exact G4.elim
  | some rows2 =>
    simp only [h1, h2] at G4
    have q1' := q1.later b1.sim b2
    have lk := lock_bh (r := r) b2.sim
    obtain ⟨c, xs, e1, s1, w1⟩ := held_of b2.sim q1' l1 h1
    obtain ⟨c2, ys, e2, s2, w2⟩ := held_of lk.sim (q2.later b2.sim lk) (look_lock l2) h2
    rw [xo.rm.K]
    exact ⟨c, c2, xs, ys, by rw [e1, e2], s1, s2, G4.now b2.sim _ (.zip (w1.step (lock_bh (r := r2) lk.sim).stp) w2)⟩
end
end Ev

set_option Elab.async false
set_option linter.all false
set_option maxRecDepth 100000
set_option maxHeartbeats 1000000
/-! Ev6b: statements. Own work. -/
namespace Ev
open PySem PySem.Spec PyProof.Rows L2
/-- what stands behind a statement -/
structure Bs (g : Gi) (ct : Ct) (ρ : En) (σ : St) (H F : Hp) (ρ' : En) (σ' : St) (H' F' : Hp) : Prop where
  sim : Sim g ρ' σ' H' F'
  stp : Stp ρ σ H F ρ' σ' H' F'
  pv : Pv ρ σ H ρ' σ'
  fx : ∀ i, i < ct.np → i ∉ ct.reb → σ'[i]? = σ[i]?
/-- what is given back -/
def RtRel (g : Gi) (np : Nat) (ρ : En) (σ : St) (H : Hp) (ρ' : En) (σ' : St) (H' F' : Hp) (own : Bool) (d : D) (v : V) : Prop :=
  if own then ∃ a, v = .ref a ∧ F' a = none ∧ Cell g H' F' a d ∧ (∀ j, j < np → ¬ OwnAt ρ' σ' j a) ∧ (H a = none ∨ ∃ i, np ≤ i ∧ OwnAt ρ σ i a) else RD g F' v d
def EndOk (g : Gi) (ct : Ct) (ρ : En) (σ : St) (H : Hp) (ρ' : En) (σ' : St) (H' F' : Hp) (Z : Ends) : Fl → Prop
  | .nx => Z.nx σ' H'
  | .br => Z.bk σ' H'
  | .ct => Z.ct σ' H'
  | .rt own d => ∀ v, RtRel g ct.np ρ σ H ρ' σ' H' F' own d v → Z.rt v H'
def GdS (g : Gi) (ct : Ct) (ρ : En) (σ : St) (H F : Hp) (r : Rs Fl) (Z : Ends) (W : WX) : Prop := match r with
  | .ok c ρ' => ∀ σ' H' F', Bs g ct ρ σ H F ρ' σ' H' F' → EndOk g ct ρ σ H ρ' σ' H' F' Z c
  | .ex x ρ' => ∀ σ' cls d H' F', Bs g ct ρ σ H F ρ' σ' H' F' → XR g F' x cls d → W cls d σ' H'
  | .err => False
section
variable (g : Gi) (Φ : Fns) (k : Nat) (ct : Ct)
def SS (st : Stmt) (ir : S) : Prop := ∀ X, XOk g Φ k ct X → ∀ ρ σ H F, Sim g ρ σ H F → ∀ (Z : Ends) (W : WX), Takes X W → GdS g ct ρ σ H F (evS Φ ct.np ir ρ) Z W → DS X st Z σ H
def SSs (st : List Stmt) (ir : Ss) : Prop := ∀ X, XOk g Φ k ct X → ∀ ρ σ H F, Sim g ρ σ H F → ∀ (Z : Ends) (W : WX), Takes X W → GdS g ct ρ σ H F (evSs Φ ct.np ir ρ) Z W → DSs X st Z σ H
end
section
variable {g : Gi} {Φ : Fns} {k : Nat} {ct : Ct} {X : Cx} {ρ ρ' ρ0 ρ1 ρ2 : En} {σ σ' σ0 σ1 σ2 : St} {H F H' F' H0 F0 H1 F1 H2 F2 : Hp} {W : WX} {Z : Ends}
theorem Bh.s (b : Bh g ρ σ H F ρ' σ H' F') : Bs g ct ρ σ H F ρ' σ H' F' := ⟨b.sim, b.stp, b.pv, fun _ _ _ => rfl⟩
theorem Bs.refl (S : Sim g ρ σ H F) : Bs g ct ρ σ H F ρ σ H F := ⟨S, Stp.refl, Pv.refl, fun _ _ _ => rfl⟩
theorem Bs.trans (a : Bs g ct ρ σ H F ρ1 σ1 H1 F1) (b : Bs g ct ρ1 σ1 H1 F1 ρ2 σ2 H2 F2) : Bs g ct ρ σ H F ρ2 σ2 H2 F2 := ⟨b.sim, a.stp.trans b.stp, a.pv.trans b.pv a.stp.live, fun i h1 h2 => (b.fx i h1 h2).trans (a.fx i h1 h2)⟩
theorem RtRel.before {np : Nat} {own : Bool} {d : D} {v : V} (h : RtRel g np ρ1 σ1 H1 ρ' σ' H' F' own d v) (pv : Pv ρ σ H ρ1 σ1) (l : ∀ b, H b ≠ none → H1 b ≠ none) : RtRel g np ρ σ H ρ' σ' H' F' own d v := by
  unfold RtRel at h ⊢
  split at h
  · rename_i e
    rw [if_pos e]
    obtain ⟨a, h1, h2, h3, h4, h5⟩ := h
    refine ⟨a, h1, h2, h3, h4, ?_⟩
    rcases h5 with h5 | ⟨i, hi, h5⟩
    · exact .inl (none_back l h5)
    · rcases pv.2 i a h5 with z | z
      · exact .inr ⟨i, hi, z⟩
      · exact .inl z
  · rename_i e
    rw [if_neg e]
    exact h
theorem EndOk.later {c : Fl} (h : EndOk g ct ρ σ H ρ' σ' H' F' Z c) (pv : Pv ρ σ H ρ1 σ1) (l : ∀ b, H b ≠ none → H1 b ≠ none) : EndOk g ct ρ1 σ1 H1 ρ' σ' H' F' Z c := by
  cases c with
  | rt own d => exact fun v hv => h v (RtRel.before hv pv l)
  | _ => exact h
theorem GdS.later {r : Rs Fl} (h : GdS g ct ρ σ H F r Z W) (b : Bs g ct ρ σ H F ρ1 σ1 H1 F1) : GdS g ct ρ1 σ1 H1 F1 r Z W := by
  cases r with
  | ok c ρ' => exact fun σ' H' F' b' => (h σ' H' F' (b.trans b')).later b.pv b.stp.live
  | ex x ρ' => exact fun σ' cls d H' F' b' q => h σ' cls d H' F' (b.trans b') q
  | err => exact h
theorem SE.goS {e : Expr} {ir : E} (h : SE g Φ k ct e ir) (xo : XOk g Φ k ct X) (S : Sim g ρ σ H F) (tk : Takes X W) {f : Vr → En → Rs Fl} (G : GdS g ct ρ σ H F ((evE Φ ir ρ).bind f) Z W) {R : VK}
    (K : ∀ v r ρ1 H1 F1, Bh g ρ σ H F ρ1 σ H1 F1 → VrRel g ρ1 σ H1 F1 H v r → GdS g ct ρ σ H F (f r ρ1) Z W → R v H1) : DE X e σ H R := by
  refine h X xo ρ σ H F S R W tk ?_
  cases he : evE Φ ir ρ with
  | ok r ρ1 => rw [he] at G; exact fun H' F' b v hv => K v r ρ1 H' F' b hv G
  | ex x ρ1 => rw [he] at G; exact fun cls d H' F' b q => G σ cls d H' F' b.s q
  | err => rw [he] at G; exact G.elim
theorem ST.goS {e : Expr} {ir : T} (h : ST g Φ k ct e ir) (xo : XOk g Φ k ct X) (S : Sim g ρ σ H F) (tk : Takes X W) {f : Bool → En → Rs Fl} (G : GdS g ct ρ σ H F ((evT Φ ir ρ).bind f) Z W) {R : Bool → Hp → Prop}
    (K : ∀ b ρ1 H1 F1, Bh g ρ σ H F ρ1 σ H1 F1 → GdS g ct ρ σ H F (f b ρ1) Z W → R b H1) : DT X e σ H R := by
  refine h X xo ρ σ H F S R W tk ?_
  cases he : evT Φ ir ρ with
  | ok r ρ1 => rw [he] at G; exact fun H' F' b => K r ρ1 H' F' b G
  | ex x ρ1 => rw [he] at G; exact fun cls d H' F' b q => G σ cls d H' F' b.s q
  | err => rw [he] at G; exact G.elim
theorem SA.goS {es : List Expr} {ir : Es} (h : SA g Φ k ct es ir) (xo : XOk g Φ k ct X) (S : Sim g ρ σ H F) (tk : Takes X W) {f : List Vr → En → Rs Fl} (G : GdS g ct ρ σ H F ((evEs Φ ir ρ).bind f) Z W) {R : List V → Hp → Prop}
    (K : ∀ vs rs ρ1 H1 F1, Bh g ρ σ H F ρ1 σ H1 F1 → VrRels g ρ1 σ H1 F1 H vs rs → GdS g ct ρ σ H F (f rs ρ1) Z W → R vs H1) : DA X es σ H R := by
  refine h X xo ρ σ H F S R W tk ?_
  cases he : evEs Φ ir ρ with
  | ok r ρ1 => rw [he] at G; exact fun H' F' b v hv => K v r ρ1 H' F' b hv G
  | ex x ρ1 => rw [he] at G; exact fun cls d H' F' b q => G σ cls d H' F' b.s q
  | err => rw [he] at G; exact G.elim
theorem SI.goS {tg it : Expr} {ir : Wk} (h : SI g Φ k ct tg it ir) (xo : XOk g Φ k ct X) (S : Sim g ρ σ H F) (tk : Takes X W) {f : List D × List Vr → En → Rs Fl} (G : GdS g ct ρ σ H F ((evI Φ ir ρ).bind f) Z W) {R : It → Hp → Prop}
    (K : ∀ J p ρ1 H1 F1, Bh g ρ σ H F ρ1 σ H1 F1 → Held g (lockL ρ1 p.2) σ H1 F1 J p.1 → GdS g ct ρ σ H F (f p ρ1) Z W → R J H1) : DI X tg it σ H R := by
  refine h X xo ρ σ H F S R W tk ?_
  cases he : evI Φ ir ρ with
  | ok r ρ1 => rw [he] at G; exact fun H' F' b J hv => K J r ρ1 H' F' b hv G
  | ex x ρ1 => rw [he] at G; exact fun cls d H' F' b q => G σ cls d H' F' b.s q
  | err => rw [he] at G; exact G.elim
theorem GdS.now {c : Fl} (G : GdS g ct ρ σ H F (.ok c ρ1) Z W) (b : Bs g ct ρ σ H F ρ1 σ1 H1 F1) : EndOk g ct ρ σ H ρ1 σ1 H1 F1 Z c := G σ1 H1 F1 b

/-! ### stores -/
/-- a new content for a slot -/
def SlNew (g : Gi) (ρ : En) (σ : St) (H F H0 : Hp) (v : V) (s : Sl) : Prop := match s.m with
  | .fz => RD g F v s.d
  | .own => ∃ a, v = .ref a ∧ H0 a = none ∧ F a = none ∧ Cell g H F a s.d ∧ ¬ OwnL ρ σ a
  | .lk => False
def setB (ct : Ct) (i : Nat) : Bool := decide (ct.np ≤ i) || ct.reb.contains i
theorem set_bs {i : Nat} {s : Sl} {v : V} (b : Bs g ct ρ0 σ0 H0 F0 ρ σ H F) (hb : setB ct i = true) (hi : i < ρ.length) (n : SlNew g ρ σ H F H0 v s) : Bs g ct ρ0 σ0 H0 F0 (ρ.set i (some s)) (σ.set i (some v)) H F := by
  have S := b.sim
  have hiσ : i < σ.length := by rw [← S.len]; exact hi
  have hv : (σ.set i (some v))[i]? = some (some v) := by rw [List.getElem?_set_self hiσ]
  have hne : ∀ {j}, i ≠ j → (σ.set i (some v))[j]? = σ[j]? := fun h => List.getElem?_set_ne h
  -- what slot i owns now
  have own : ∀ a, s.m ≠ .fz → v = .ref a → H0 a = none ∧ ¬ OwnL ρ σ a := fun a hm e => by
    unfold SlNew at n
    cases q : s.m with
    | fz => exact absurd q hm
    | lk => rw [q] at n; exact n.elim
    | own =>
      rw [q] at n
      obtain ⟨a', e1, h1, _, _, h2⟩ := n
      rw [e] at e1
      cases e1
      exact ⟨h1, h2⟩
  have at_ : ∀ j a, OwnAt (ρ.set i (some s)) (σ.set i (some v)) j a → OwnAt ρ σ j a ∨ (H0 a = none ∧ ¬ OwnL ρ σ a) := fun j a ⟨t, h1, h2, h3⟩ => by
    rw [get_set hi] at h1
    split at h1
    · rename_i e
      subst e
      cases h1
      rw [hv] at h3
      exact .inr (own a h2 (Option.some.inj (Option.some.inj h3)))
    · rename_i e
      rw [hne e] at h3
      exact .inl ⟨t, h1, h2, h3⟩
  have atm : ∀ j a, OwnM (ρ.set i (some s)) (σ.set i (some v)) j a → OwnM ρ σ j a ∨ H0 a = none := fun j a ⟨t, h1, h2, h3⟩ => by
    rw [get_set hi] at h1
    split at h1
    · rename_i e
      subst e
      cases h1
      rw [hv] at h3
      exact .inr (own a (by rw [h2]; decide) (Option.some.inj (Option.some.inj h3))).1
    · rename_i e
      rw [hne e] at h3
      exact .inl ⟨t, h1, h2, h3⟩
  refine ⟨⟨by rw [List.length_set, List.length_set]; exact S.len, S.sub, fun j t h => ?_, fun j j' t t' a h1 h2 m1 m2 v1 v2 => ?_⟩, ⟨b.stp.fzs, b.stp.fzn, b.stp.mod, b.stp.live, fun c ⟨j, z⟩ => ?_, fun c ⟨j, z⟩ => ?_⟩, ⟨fun j a z => ?_, fun j a z => ?_⟩, fun j h1 h2 => ?_⟩
  · rw [get_set hi] at h
    split at h
    · rename_i e
      subst e
      cases h
      refine ⟨v, hv, ?_⟩
      unfold SlNew at n
      unfold SlRel
      cases q : s.m with
      | fz => rw [q] at n; exact n
      | lk => rw [q] at n; exact n.elim
      | own => rw [q] at n; obtain ⟨a, e, _, h2, h3, _⟩ := n; exact ⟨a, e, h2, h3⟩
    · rename_i e
      obtain ⟨w, h1, h2⟩ := S.val j t h
      exact ⟨w, by rw [hne e]; exact h1, h2⟩
  · rw [get_set hi] at h1 h2
    split at h1
    · rename_i e
      subst e
      cases h1
      rw [hv] at v1
      have nO := (own a m1 (Option.some.inj (Option.some.inj v1))).2
      split at h2
      · assumption
      · rename_i e2
        rw [hne e2] at v2
        exact absurd ⟨j', t', h2, m2, v2⟩ nO
    · rename_i e
      rw [hne e] at v1
      split at h2
      · rename_i e2
        subst e2
        cases h2
        rw [hv] at v2
        exact absurd ⟨j, t, h1, m1, v1⟩ (own a m2 (Option.some.inj (Option.some.inj v2))).2
      · rename_i e2
        rw [hne e2] at v2
        exact S.sep j j' t t' a h1 h2 m1 m2 v1 v2
  · rcases atm j c z with z | z
    · exact b.stp.own c ⟨j, z⟩
    · exact .inr z
  · rcases at_ j c z with z | z
    · exact b.stp.ownl c ⟨j, z⟩
    · exact .inr z.1
  · rcases atm j a z with z | z
    · exact b.pv.1 j a z
    · exact .inr z
  · rcases at_ j a z with z | z
    · exact b.pv.2 j a z
    · exact .inr z.1
  · have ne : i ≠ j := fun e => by
      subst e
      unfold setB at hb
      rw [Bool.or_eq_true, decide_eq_true_eq] at hb
      rcases hb with hb | hb
      · omega
      · exact h2 (by simpa using hb)
    rw [hne ne]
    exact b.fx j h1 h2
/-- another new content stays new -/
theorem SlNew.set {i : Nat} {s t : Sl} {v w : V} (hi : i < ρ.length) (hl : ρ.length = σ.length) (n : SlNew g ρ σ H F H0 w t) (ne : s.m ≠ .fz → t.m ≠ .fz → v ≠ w) : SlNew g (ρ.set i (some s)) (σ.set i (some v)) H F H0 w t := by
  unfold SlNew at n ⊢
  cases q : t.m with
  | fz => rw [q] at n; exact n
  | lk => rw [q] at n; exact n.elim
  | own =>
    rw [q] at n
    obtain ⟨a, e, h1, h2, h3, h4⟩ := n
    refine ⟨a, e, h1, h2, h3, fun ⟨j, u, u1, u2, u3⟩ => ?_⟩
    rw [get_set hi] at u1
    split at u1
    · rename_i z
      subst z
      cases u1
      rw [List.getElem?_set_self (by rw [← hl]; exact hi)] at u3
      refine ne u2 (by rw [q]; decide) ?_
      rw [e]
      exact Option.some.inj (Option.some.inj u3)
    · rename_i z
      rw [List.getElem?_set_ne z] at u3
      exact h4 ⟨j, u, u1, u2, u3⟩
end
end Ev

set_option Elab.async false
set_option linter.all false
set_option maxRecDepth 100000
set_option maxHeartbeats 1000000
/-! Ev6c: the rules of statements. Own work. -/
namespace Ev
open PySem PySem.Spec PyProof.Rows L2
section
variable {g : Gi} {Φ : Fns} {k : Nat} {ct : Ct} {X : Cx} {ρ ρ' ρ0 ρ1 ρ2 : En} {σ σ' σ0 σ1 σ2 : St} {H F H' F' H0 F0 H1 F1 H2 F2 : Hp} {W : WX} {Z : Ends}
theorem store_bs {i : Nat} {r : Vr} {v : V} {u : Unit} (b : Bh g ρ0 σ H0 F0 ρ σ H F) (hb : setB ct i = true) (hv : VrRel g ρ σ H F H0 v r) (h : storeR i r ρ = .ok u ρ') : ∃ F', Bs g ct ρ0 σ H0 F0 ρ' (σ.set i (some v)) H F' := by
  unfold storeR at h
  split at h
  case isFalse => cases h
  rename_i hi
  cases r with
  | v d =>
    cases h
    exact ⟨F, set_bs b.s hb hi hv⟩
  | o d =>
    cases h
    exact ⟨F, set_bs b.s hb hi hv⟩
  | s j =>
    obtain ⟨d, ρ1, hk, h⟩ := bind_ok h
    cases h
    obtain ⟨F1, b1, rd, _, _⟩ := keep_bh b hv hk
    refine ⟨F1, set_bs b1.s hb ?_ rd⟩
    rw [b1.sim.len, ← b.sim.len]
    exact hi
def setσ : List Nat → List V → St → St
  | i :: is, v :: vs, σ => setσ is vs (σ.set i (some v))
  | _, _, σ => σ
inductive SlNews (g : Gi) (ρ : En) (σ : St) (H F H0 : Hp) : List V → List Sl → Prop
  | nil : SlNews g ρ σ H F H0 [] []
  | cons {v vs s ss} : SlNew g ρ σ H F H0 v s → (s.m ≠ .fz → ∀ (i : Nat) (t : Sl), ss[i]? = some t → t.m ≠ .fz → vs[i]? ≠ some v) → SlNews g ρ σ H F H0 vs ss → SlNews g ρ σ H F H0 (v :: vs) (s :: ss)
theorem SlNews.imp {ρ1 : En} {σ1 : St} : ∀ {vs : List V} {ss : List Sl}, SlNews g ρ σ H F H0 vs ss → (∀ (i : Nat) w t, vs[i]? = some w → ss[i]? = some t → SlNew g ρ σ H F H0 w t → SlNew g ρ1 σ1 H F H0 w t) → SlNews g ρ1 σ1 H F H0 vs ss
  | _, _, .nil, _ => .nil
  | _, _, .cons h n t, k => .cons (k 0 _ _ rfl rfl h) n (t.imp fun i w t h1 h2 => k (i + 1) w t (by simpa using h1) (by simpa using h2))
theorem sets_bs : ∀ {is : List Nat} {vs : List V} {ss : List Sl} {ρ ρ' : En} {σ : St}, Bs g ct ρ0 σ0 H0 F0 ρ σ H F → is.all (setB ct) = true → SlNews g ρ σ H F H0 vs ss → setAll is ss ρ = some ρ' → Bs g ct ρ0 σ0 H0 F0 ρ' (setσ is vs σ) H F
  | [], vs, ss, ρ, ρ', σ, b, _, n, h => by
    cases ss with
    | nil =>
      cases h
      cases n
      exact b
    | cons _ _ => cases h
  | i :: is, vs, ss, ρ, ρ', σ, b, hb, n, h => by
    rw [List.all_cons, Bool.and_eq_true] at hb
    cases n with
    | nil => cases h
    | cons h1 hn t =>
      unfold setAll at h
      split at h
      case isFalse => cases h
      rename_i hi
      rename_i v vs s ss
      have t' : SlNews g (ρ.set i (some s)) (σ.set i (some v)) H F H0 vs ss := t.imp fun j w u e1 e2 hw => hw.set hi b.sim.len fun m1 m2 e => hn m1 j u e2 m2 (by rw [e]; exact e1)
      exact sets_bs (is := is) (set_bs b hb.1 hi h1) hb.2 t' h
theorem news_fz : ∀ {vs : List V} {ds : List D}, RDs g F vs ds → SlNews g ρ σ H F H0 vs (ds.map fun d => ⟨.fz, d⟩)
  | _, _, .nil => .nil
  | _, _, .cons h r => .cons h (fun m => absurd rfl m) (news_fz r)
theorem keepSl_bh : ∀ {rs : List Vr} {vs : List V} {ss : List Sl} {ρ ρ' : En} {F : Hp}, Bh g ρ0 σ H0 F0 ρ σ H F → VrRels g ρ σ H F H0 vs rs → keepSl rs ρ = .ok ss ρ' →
    ∃ F', Bh g ρ0 σ H0 F0 ρ' σ H F' ∧ Same F F' ∧ SlNews g ρ' σ H F' H0 vs ss ∧ (∀ (i : Nat) s, ss[i]? = some s → s.m ≠ .fz → ∃ d, rs[i]? = some (.o d)) ∧ ∀ v r, VrRel g ρ σ H F H0 v r → VrRel g ρ' σ H F' H0 v r
  | [], _, _, ρ, _, F, b, .nil, k => by
    cases k
    exact ⟨F, b, Same.refl F, .nil, fun i s h => by simp at h, fun _ _ h => h⟩
  | r :: rs, _, _, ρ, ρ', F, b, .cons h n t, k => by
    unfold keepSl at k
    obtain ⟨a, ρ1, k1, k⟩ := bind_ok k
    obtain ⟨ss, ρ2, k2, k⟩ := bind_ok k
    cases k
    cases r with
    | v d =>
      cases k1
      obtain ⟨F', b', sm, nw, ow, kp⟩ := keepSl_bh b t k2
      refine ⟨F', b', sm, .cons (RD.mono sm h) (fun m => absurd rfl m) nw, fun i s h1 h2 => ?_, kp⟩
      cases i with
      | zero => cases h1; exact absurd rfl h2
      | succ i => obtain ⟨e, he⟩ := ow i s (by simpa using h1) h2; exact ⟨e, by simpa using he⟩
    | o d =>
      cases k1
      obtain ⟨F', b', sm, nw, ow, kp⟩ := keepSl_bh b t k2
      refine ⟨F', b', sm, .cons (kp _ _ h) (fun _ i u e1 e2 => ?_) nw, fun i s h1 h2 => ?_, kp⟩
      · obtain ⟨e, he⟩ := ow i u e1 e2
        exact n d rfl i e he
      · cases i with
        | zero => exact ⟨d, rfl⟩
        | succ i => obtain ⟨e, he⟩ := ow i s (by simpa using h1) h2; exact ⟨e, by simpa using he⟩
    | s j =>
      obtain ⟨d, ρ3, k3, k1⟩ := bind_ok k1
      cases k1
      obtain ⟨F1, b1, rd, sm1, nx⟩ := keep_bh b h k3
      have t1 := t.imp fun i v' r' h1 h2 hv => nx v' r' hv fun e e' e1 => nomatch e1
      obtain ⟨F', b', sm, nw, ow, kp⟩ := keepSl_bh b1 t1 k2
      refine ⟨F', b', sm1.trans sm, .cons (RD.mono sm rd) (fun m => absurd rfl m) nw, fun i s h1 h2 => ?_, fun v' r' hv => kp v' r' (nx v' r' hv fun e e' e1 => nomatch e1)⟩
      cases i with
      | zero => cases h1; exact absurd rfl h2
      | succ i => obtain ⟨e, he⟩ := ow i s (by simpa using h1) h2; exact ⟨e, by simpa using he⟩
theorem keepSl_in {rs : List Vr} {f : List Sl → En → Rs Fl} (G : GdS g ct ρ σ H F ((keepSl rs ρ1).bind f) Z W) : ∃ ss ρ', keepSl rs ρ1 = .ok ss ρ' ∧ GdS g ct ρ σ H F (f ss ρ') Z W := by
  have nx : ∀ (rs : List Vr) (ρ : En) x ρ', keepSl rs ρ ≠ .ex x ρ' := by
    intro rs
    induction rs with
    | nil => intro ρ x ρ' h; cases h
    | cons r rs ih =>
      intro ρ x ρ' h
      have tail : ∀ (a : Sl) (ρ1 : En), ((keepSl rs ρ1).bind fun l ρ => Rs.ok (a :: l) ρ) ≠ .ex x ρ' := fun a ρ1 h => by
        cases hk : keepSl rs ρ1 with
        | ok ds ρ2 => rw [hk] at h; cases h
        | ex y ρ2 => exact ih ρ1 y ρ2 hk
        | err => rw [hk] at h; cases h
      cases r with
      | v d => exact tail _ _ h
      | o d => exact tail _ _ h
      | s j =>
        unfold keepSl at h
        dsimp only at h
        cases hk : keep ρ (.s j) with
        | ok d ρ1 => rw [hk] at h; exact tail _ _ h
        | ex y ρ1 => rw [keep_s] at hk; split at hk <;> cases hk
        | err => rw [hk] at h; cases h
  cases h : keepSl rs ρ1 with
  | ok ds ρ' => rw [h] at G; exact ⟨ds, ρ', rfl, G⟩
  | ex x ρ' => exact absurd h (nx _ _ _ _)
  | err => rw [h] at G; exact G.elim
theorem keep_inS {r : Vr} {f : D → En → Rs Fl} (G : GdS g ct ρ σ H F ((keep ρ1 r).bind f) Z W) : ∃ d ρ', keep ρ1 r = .ok d ρ' ∧ GdS g ct ρ σ H F (f d ρ') Z W := by
  cases h : keep ρ1 r with
  | ok d ρ' => rw [h] at G; exact ⟨d, ρ', rfl, G⟩
  | ex x ρ' =>
    cases r with
    | v d => cases h
    | o d => cases h
    | s i => rw [keep_s] at h; split at h <;> cases h
  | err => rw [h] at G; exact G.elim
theorem op1_inS {x : Vr} {f : D → Rs Fl} (G : GdS g ct ρ σ H F (op1 ρ1 x f) Z W) : ∃ d, look ρ1 x = some d ∧ GdS g ct ρ σ H F (f d) Z W := by
  unfold op1 at G
  split at G
  · rename_i d h1
    exact ⟨d, h1, G⟩
  · exact G.elim

/-! ### targets -/
def locB (ct : Ct) (x : Str) : Bool := match ct.sc.names.lookup x with
  | some .local => true
  | some .cell => ct.fnx x
  | _ => false
theorem locB_ok {x : Str} (h : locB ct x = true) : Loc ct.sc x := by
  unfold locB at h
  split at h
  · rename_i e; exact .inl e
  · rename_i e; exact .inr e
  · cases h
theorem locB_fn (xo : XOk g Φ k ct X) {x : Str} (h : locB ct x = true) : X.fn x = true ∨ X.env.scope.names.lookup x = some .local := by
  rw [xo.sc, xo.fnx]
  unfold locB at h
  split at h
  · rename_i e; exact .inr e
  · exact .inl h
  · cases h
def SG (g : Gi) (Φ : Fns) (k : Nat) (ct : Ct) (tg : Expr) (is : List Nat) : Prop := ∀ X, XOk g Φ k ct X → ∀ ρ0 σ0 H0 F0 ρ σ H F, Bs g ct ρ0 σ0 H0 F0 ρ σ H F → ∀ x d ρ', RD g F x d → assignD is d ρ = some ρ' →
  ∀ R : St → Hp → Prop, (∀ σ', Bs g ct ρ0 σ0 H0 F0 ρ' σ' H F → (∀ vs, (∀ i ∈ is, i ∈ vs) → wipe σ' vs = wipe σ vs) → R σ' H) → DG X tg x σ H R
theorem wipe_set {x : Option V} : ∀ {vs : List Nat} {i : Nat} {σ : St}, i ∈ vs → wipe (σ.set i x) vs = wipe σ vs
  | [], i, σ, h => by cases h
  | v :: vs, i, σ, h => by
    unfold wipe
    by_cases hi : i ∈ vs
    · rw [wipe_set hi]
    · have e : v = i := by
        rcases List.mem_cons.mp h with h | h
        · exact h.symm
        · exact absurd h hi
      subst e
      have out : ∀ {vs : List Nat} {σ : St}, v ∉ vs → wipe (σ.set v x) vs = (wipe σ vs).set v x := by
        intro vs
        induction vs with
        | nil => intro σ _; rfl
        | cons w vs ih =>
          intro σ hn
          unfold wipe
          rw [ih fun z => hn (List.mem_cons_of_mem _ z)]
          exact List.set_comm _ _ fun z => hn (by rw [z]; exact List.mem_cons_self)
      rw [out hi, List.set_set]
theorem wipe_sets : ∀ {is : List Nat} {xs : List V} {σ : St} {vs : List Nat}, (∀ i ∈ is, i ∈ vs) → wipe (setσ is xs σ) vs = wipe σ vs
  | [], _, _, _, _ => rfl
  | _ :: _, [], _, _, _ => rfl
  | i :: is, x :: xs, σ, vs, h => (wipe_sets (is := is) fun j hj => h j (List.mem_cons_of_mem _ hj)).trans (wipe_set (h i List.mem_cons_self))
theorem sg_name {x : Str} {i : Nat} {pos : Pos} (hN : ct.N[i]? = some x) (hl : locB ct x = true) (hb : setB ct i = true) : SG g Φ k ct (.Name x pos) [i] := by
  intro X xo ρ0 σ0 H0 F0 ρ σ H F b v d ρ' rd h R K
  refine PG.d (pg_name xo.nd (by rw [xo.N]; exact hN) (by rw [xo.sc]; exact locB_ok hl) (locB_fn xo hl)) ?_
  unfold assignD at h
  simp only at h
  split at h
  case isFalse => cases h
  rename_i hi
  cases h
  exact K _ (set_bs b hb hi rd) fun vs hv => wipe_set (hv i List.mem_cons_self)
/-- plain names with their slots -/
def namesB (ct : Ct) : List Expr → List Nat → Bool
  | [], [] => true
  | .Name x _ :: es, i :: is => decide (ct.N[i]? = some x) && locB ct x && setB ct i && namesB ct es is
  | _, _ => false
def gNames : List Nat → TGs
  | [] => gNil
  | i :: is => gCons (gName i) (gNames is)
theorem names_pgs (xo : XOk g Φ k ct X) : ∀ {es : List Expr} {is : List Nat}, namesB ct es is = true → PGs X es (gNames is) ∧ (assignEach es X.env).length = es.length ∧ (assignEach es X.env).findIdx? (·.1) = none ∧ es.length = is.length ∧ is.all (setB ct) = true
  | [], [], _ => ⟨pgs_nil, rfl, rfl, rfl, rfl⟩
  | [], _ :: _, h => by cases h
  | e :: es, is, h => by
    cases is with
    | nil => cases e <;> cases h
    | cons i is =>
      cases e <;> first | (cases h; done) | skip
      rename_i x p
      unfold namesB at h
      rw [Bool.and_eq_true, Bool.and_eq_true, Bool.and_eq_true, decide_eq_true_eq] at h
      obtain ⟨⟨⟨h1, h2⟩, h3⟩, h4⟩ := h
      obtain ⟨q1, q2, q3, q4, q5⟩ := names_pgs xo h4
      refine ⟨pgs_cons (pg_name xo.nd (by rw [xo.N]; exact h1) (by rw [xo.sc]; exact locB_ok h2) (locB_fn xo h2)) q1, ?_, ?_, ?_, ?_⟩
      · show (assignEach es X.env).length + 1 = es.length + 1
        rw [q2]
      · show List.findIdx? (·.1) ((false, assign (.Name x p) X.env) :: assignEach es X.env) = none
        rw [List.findIdx?_cons, q3] <;> rfl
      · rw [List.length_cons, List.length_cons, q4]
      · rw [List.all_cons, h3, q5] <;> rfl
theorem gNames_ok : ∀ {is : List Nat} {xs : List V} {σ : St} {Q : St → Hp → Prop}, xs.length = is.length → Q (setσ is xs σ) H → gNames is xs σ H Q
  | [], [], _, _, _, q => ⟨rfl, q⟩
  | [], _ :: _, _, _, h, _ => by cases h
  | _ :: _, [], _, _, h, _ => by cases h
  | i :: is, x :: xs, σ, Q, h, q => ⟨x, xs, rfl, gNames_ok (by simpa using h) q⟩
theorem setAll_len : ∀ {is : List Nat} {ss : List Sl} {ρ ρ' : En}, setAll is ss ρ = some ρ' → is.length = ss.length
  | [], [], _, _, _ => rfl
  | [], _ :: _, _, _, h => by cases h
  | _ :: _, [], _, _, h => by cases h
  | i :: is, s :: ss, ρ, ρ', h => by
    unfold setAll at h
    split at h
    · rw [List.length_cons, List.length_cons, setAll_len h]
    · cases h
theorem tup_go {es : List Expr} {is : List Nat} {j : Nat} {pos : Pos} {x : V} {ds : List D} (xo : XOk g Φ k ct X) (hc : ct.calm = true) (hn : namesB ct es is = true) (b : Bs g ct ρ0 σ0 H0 F0 ρ σ H F) (rd : RD g F x (.tup ds)) (h : setAll is (ds.map fun d => ⟨.fz, d⟩) ρ = some ρ')
    {R : St → Hp → Prop} (K : ∀ σ', Bs g ct ρ0 σ0 H0 F0 ρ' σ' H F → (∀ vs, (∀ i ∈ is, i ∈ vs) → wipe σ' vs = wipe σ vs) → R σ' H) : DG X (.Tuple es j pos) x σ H R := by
  obtain ⟨q1, q2, q3, q4, q5⟩ := names_pgs xo hn
  refine PG.d (pg_tup (xo.rm.calm.trans hc) q1 q2 q3) ?_
  cases rd with
  | tup hq rr =>
    have hl := setAll_len h
    rw [List.length_map] at hl
    refine ⟨_, _, rfl, by rw [xo.rm.K]; exact Same.seqT b.sim.sub hq, by rw [rr.length, q4, hl], gNames_ok (by rw [rr.length, hl]) (K _ (sets_bs b q5 (news_fz rr) h) fun vs hv => wipe_sets hv)⟩
theorem sg_tup {es : List Expr} {is : List Nat} {j : Nat} {pos : Pos} (hc : ct.calm = true) (hn : namesB ct es is = true) (h1 : is.length ≠ 1) : SG g Φ k ct (.Tuple es j pos) is := by
  intro X xo ρ0 σ0 H0 F0 ρ σ H F b v d ρ' rd h R K
  cases d with
  | tup ds =>
    have h' : setAll is (ds.map fun d => ⟨.fz, d⟩) ρ = some ρ' := by
      rcases is with _ | ⟨i, _ | ⟨i', is⟩⟩
      · exact h
      · exact absurd rfl h1
      · exact h
    exact tup_go xo hc hn b rd h' K
  | _ =>
    exfalso
    rcases is with _ | ⟨i, _ | ⟨i', is⟩⟩
    · cases h
    · exact h1 rfl
    · cases h
end
end Ev

set_option Elab.async false
set_option linter.all false
set_option maxRecDepth 100000
set_option maxHeartbeats 1000000
/-! Ev6d: the rules of statements, part two. Own work. -/
namespace Ev
open PySem PySem.Spec PyProof.Rows L2
section
variable {g : Gi} {Φ : Fns} {k : Nat} {ct : Ct} {X : Cx} {ρ ρ' ρ0 ρ1 ρ2 : En} {σ σ' σ0 σ1 σ2 : St} {H F H' F' H0 F0 H1 F1 H2 F2 : Hp} {W : WX} {Z : Ends}
theorem SE.goT {e : Expr} {ir : E} (h : SE g Φ k ct e ir) (xo : XOk g Φ k ct X) (b0 : Bs g ct ρ0 σ0 H0 F0 ρ σ H F) (tk : Takes X W) {f : Vr → En → Rs Fl} (G : GdS g ct ρ0 σ0 H0 F0 ((evE Φ ir ρ).bind f) Z W) {R : VK}
    (K : ∀ v r ρ1 H1 F1, Bh g ρ σ H F ρ1 σ H1 F1 → VrRel g ρ1 σ H1 F1 H v r → GdS g ct ρ0 σ0 H0 F0 (f r ρ1) Z W → R v H1) : DE X e σ H R := by
  refine h X xo ρ σ H F b0.sim R W tk ?_
  cases he : evE Φ ir ρ with
  | ok r ρ1 => rw [he] at G; exact fun H' F' b v hv => K v r ρ1 H' F' b hv G
  | ex x ρ1 => rw [he] at G; exact fun cls d H' F' b q => G σ cls d H' F' (b0.trans b.s) q
  | err => rw [he] at G; exact G.elim
theorem assign_sub {o i : Expr} {p : Pos} {env : Env} (h : plainIxB i = true) : ∀ v, assign (.Subscript o i p) env v = (do
      let ov ← holding [v] (eval o env)
      let iv ← holding [v, ov] (eval i env)
      standAt p
      holding [v, ov, iv] (setItem ov iv v)
      release [v, ov, iv] []) := by
  intro v
  cases i <;> first | (cases h; done) | rfl
/-! ### one statement -/
def noComp : Expr → Bool
  | .ListComp _ _ _ _ => false
  | .SetComp _ _ _ _ => false
  | .DictComp _ _ _ _ _ => false
  | _ => true
theorem swaps_no {e : Expr} {t : Option Expr} {l : Nat} {env : Env} (h : noComp e = true) : swapsWith e t l env = pure false := by
  cases e <;> first | (cases h; done) | rfl
theorem swaps_sole {e : Expr} {t : Expr} {l : Nat} {env : Env} (h : noComp e = true) : swapsWithSole [t] e l env = pure false := swaps_no (t := some t) h
theorem ss_expr {e : Expr} {ie : E} {pos : Pos} (hc : noComp e = true) (he : SE g Φ k ct e ie) : SS g Φ k ct (.Expr e pos) (.expr ie) := by
  intro X xo ρ σ H F S Z W tk G
  refine PS.d (ps_expr pe_D (swaps_no hc)) ?_
  exact he.goS xo S tk G fun v r ρ1 H1 F1 b q G1 => G1.now b.s
theorem ss_pass {pos : Pos} : SS g Φ k ct (.Pass pos) .pass := by
  intro X xo ρ σ H F S Z W tk G
  exact PS.d ps_pass (G.now (Bs.refl S))
theorem ss_brk {pos : Pos} : SS g Φ k ct (.Break pos) .brk := by
  intro X xo ρ σ H F S Z W tk G
  exact PS.d ps_break (G.now (Bs.refl S))
theorem ss_cont {pos : Pos} : SS g Φ k ct (.Continue pos) .cont := by
  intro X xo ρ σ H F S Z W tk G
  exact PS.d ps_continue (G.now (Bs.refl S))
theorem ss_set {x : Str} {i : Nat} {e : Expr} {ie : E} {p pos : Pos} (hc : noComp e = true) (hN : ct.N[i]? = some x) (hl : locB ct x = true) (hb : setB ct i = true) (he : SE g Φ k ct e ie) : SS g Φ k ct (.Assign [.Name x p] e pos) (.set i ie) := by
  intro X xo ρ σ H F S Z W tk G
  refine PS.d (ps_set xo.nd (by rw [xo.N]; exact hN) (by rw [xo.sc]; exact locB_ok hl) pe_D (swaps_no hc) (locB_fn xo hl)) ?_
  refine he.goS xo S tk G fun v r ρ1 H1 F1 b q G1 => ?_
  cases hs : storeR i r ρ1 with
  | ok u ρ2 =>
    rw [hs] at G1
    obtain ⟨F2, b2⟩ := store_bs b hb q hs
    exact G1.now b2
  | ex x ρ2 =>
    exfalso
    unfold storeR at hs
    split at hs
    · cases r with
      | v d => cases hs
      | o d => cases hs
      | s j =>
        dsimp only at hs
        rw [keep_s] at hs
        cases hg : ρ1.get j with
        | none => rw [hg] at hs; cases hs
        | some s => rw [hg] at hs; cases hs
    · cases hs
  | err => rw [hs] at G1; exact G1.elim
theorem ss_put {o i e : Expr} {io ii ie : E} {p pos : Pos} (hc : noComp e = true) (hp : plainIxB i = true) (ho : SE g Φ k ct o io) (hi : SE g Φ k ct i ii) (he : SE g Φ k ct e ie) : SS g Φ k ct (.Assign [.Subscript o i p] e pos) (.put io ii ie) := by
  intro X xo ρ σ H F S Z W tk G
  have hu := xo.rm.units
  refine PS.d (ps_asg pe_D (pg_sub pe_D pe_D (set_both (by omega)) (assign_sub hp)) (swaps_sole hc)) ?_
  refine he.goS xo S tk G fun z r ρ1 H1 F1 b1 q1 G1 => ?_
  refine ho.goT xo b1.s tk G1 fun x rx ρ2 H2 F2 b2 q2 G2 => ?_
  refine hi.goT xo (b1.trans b2).s tk G2 fun y ry ρ3 H3 F3 b3 q3 G3 => ?_
  have b13 := (b1.trans b2).trans b3
  obtain ⟨d, ρ4, hk, G4⟩ := keep_inS G3
  obtain ⟨F4, b4, rd, _, nx⟩ := keep_bh b13 ((q1.later b1.sim b2).later b2.sim b3) hk
  obtain ⟨kd, l1, G5⟩ := op1_inS G4
  have hyr : ∀ e', kd = e' → (∀ xs, e' ≠ .lst xs) → (∀ ks vs, e' ≠ .dic ks vs) → RdH g H3 F4 y kd := fun e' he' n1 n2 => by
    have q3' := nx y ry (q3.before fun c z => b2.stp.live c (b1.stp.live c z)) fun u u' e1 e2 => by
      subst e2
      unfold look at l1
      cases l1
      obtain ⟨a, _, _, _, c, _⟩ := q3
      rcases c with ⟨_, ds, z, _⟩ | ⟨_, ks, vs, z, _⟩
      · exact (n1 ds (he'.symm.trans z)).elim
      · exact (n2 ks vs (he'.symm.trans z)).elim
    exact q3'.rd b4.sim l1
  cases rx with
  | v d => exact G5.elim
  | o d => exact G5.elim
  | s j =>
    dsimp only at G5
    have hσ := q2.1
    split at G5
    · rename_i xs n hg
      split at G5
      case h_2 => exact G5.elim
      rename_i m hm
      have hy : y = .int n := (hyr _ rfl (fun _ z => nomatch z) (fun _ _ z => nomatch z)).int
      obtain ⟨w, e1, r2⟩ := b4.sim.val j _ hg
      rw [hσ] at e1
      cases e1
      obtain ⟨l, rfl, nl, c⟩ := r2
      rcases c with ⟨ws, ds, e2, hl, rr⟩ | ⟨_, _, _, e2, _⟩
      · cases e2
        refine .inl ⟨l, ws, n, m, rfl, hy, hl, ?_, ?_⟩
        · rw [rr.length]
          exact hm
        · exact G5.now (b4.trans (mut_bh b4.sim hg hσ nl (.inl ⟨_, _, rfl, upd_same, rr.set rd m⟩))).s
      · cases e2
    · rename_i kd _ _ ks vs hg
      split at G5
      case isFalse => exact G5.elim
      rename_i hb
      rw [Bool.and_eq_true, decide_eq_true_eq] at hb
      have hyk := hyr kd rfl (fun xs z => by rw [z] at hb; exact absurd hb.1 (by simp [isKey])) (fun ks vs z => by rw [z] at hb; exact absurd hb.1 (by simp [isKey]))
      obtain ⟨κ, rfl, ek, eo⟩ := key_of (rdh_key hyk hb.1) hb.1
      obtain ⟨w, e1, r2⟩ := b4.sim.val j _ hg
      rw [hσ] at e1
      cases e1
      obtain ⟨l, rfl, nl, c⟩ := r2
      rcases c with ⟨_, _, e2, _⟩ | ⟨kvs, ks', vs', e2, hl, nd, ⟨eks, eok⟩, rr⟩
      · cases e2
      · cases e2
        obtain ⟨p1, p2⟩ := put_ok ek rd nd eks rr
        refine .inr ⟨l, _, rfl, DPut.k hl ?_, ?_⟩
        · have := congrArg List.length eks
          rw [List.length_map] at this
          rw [← this, ← LIM_eq]
          exact hb.2
        · refine G5.now (b4.trans (mut_bh b4.sim hg hσ nl (.inr ⟨_, _, _, rfl, upd_same, putK_nodup nd, ⟨p1, fun t ht => ?_⟩, p2⟩))).s
          rcases putD_mem ht with h | h
          · exact eo t h.symm
          · exact eok t h
    · exact G5.elim
theorem ss_ret {e : Expr} {ie : E} {pos : Pos} (he : SE g Φ k ct e ie) : SS g Φ k ct (.Return (some e) pos) (.ret ie) := by
  intro X xo ρ σ H F S Z W tk G
  refine PS.d (ps_ret pe_D) ?_
  refine he.goS xo S tk G fun v r ρ1 H1 F1 b q G1 => ?_
  have kept : ∀ (d : D) (i : Nat) (hr : r = .s i), GdS g ct ρ σ H F ((keep ρ1 (.s i)).bind fun d ρ => .ok (.rt false d) ρ) Z W → Z.rt v H1 := fun d i hr G2 => by
    subst hr
    obtain ⟨d', ρ2, hk, G3⟩ := keep_inS G2
    obtain ⟨F2, b2, rd, _⟩ := keep_bh b q hk
    exact G3.now b2.s v rd
  cases r with
  | v d => exact G1.now b.s v q
  | o d =>
    refine G1.now b.s v ?_
    obtain ⟨a, e, n0, n, c, no⟩ := q
    exact ⟨a, e, n, c, fun j _ z => no ⟨j, z⟩, .inl n0⟩
  | s i =>
    dsimp only at G1
    split at G1
    · rename_i d hg
      split at G1
      · exact kept d i rfl G1
      · rename_i hi
        refine G1.now b.s v ?_
        obtain ⟨w, e, rr⟩ := b.sim.val i _ hg
        rw [q.1] at e
        cases e
        obtain ⟨a, e1, n, c⟩ := rr
        subst e1
        refine ⟨a, rfl, n, c, fun j hj ⟨t, t1, t2, t3⟩ => ?_, ?_⟩
        · have := b.sim.sep i j _ t a hg t1 own_ne t2 q.1 t3
          omega
        · rcases b.pv.2 i a ⟨_, hg, own_ne, q.1⟩ with z | z
          · exact .inr ⟨i, by omega, z⟩
          · exact .inl z
    · exact kept .non i rfl G1
theorem ss_iff {c : Expr} {p q : List Stmt} {ic : T} {ip iq : Ss} {pos : Pos} (hc : ST g Φ k ct c ic) (hp : SSs g Φ k ct p ip) (hq : SSs g Φ k ct q iq) : SS g Φ k ct (.If c p q pos) (.iff ic ip iq) := by
  intro X xo ρ σ H F S Z W tk G
  refine PS.d (ps_if pt_D pss_D pss_D) ?_
  refine hc.goS xo S tk G fun t ρ1 H1 F1 b G1 => ?_
  cases t with
  | true => exact hp X xo ρ1 σ H1 F1 b.sim Z W tk (G1.later b.s)
  | false => exact hq X xo ρ1 σ H1 F1 b.sim Z W tk (G1.later b.s)
theorem sss_nil : SSs g Φ k ct [] .nil := by
  intro X xo ρ σ H F S Z W tk G
  exact PSs.d pss_nil (G.now (Bs.refl S))
theorem sss_cons {s : Stmt} {ss : List Stmt} {is : S} {iss : Ss} (h1 : SS g Φ k ct s is) (h2 : SSs g Φ k ct ss iss) : SSs g Φ k ct (s :: ss) (.cons is iss) := by
  intro X xo ρ σ H F S Z W tk G
  refine PSs.d (pss_cons ps_D pss_D) ?_
  show DS X s { Z with nx := fun σ1 H1 => DSs X ss Z σ1 H1 } σ H
  refine h1 X xo ρ σ H F S _ W tk ?_
  unfold evSs at G
  cases he : evS Φ ct.np is ρ with
  | ok c ρ1 =>
    rw [he] at G
    intro σ1 H1 F1 b
    cases c with
    | nx => exact h2 X xo ρ1 σ1 H1 F1 b.sim Z W tk (GdS.later G b)
    | br => exact GdS.now (W := W) (Z := Z) G b
    | ct => exact GdS.now (W := W) (Z := Z) G b
    | rt o d => exact GdS.now (W := W) (Z := Z) G b
  | ex x ρ1 => rw [he] at G; exact G
  | err => rw [he] at G; exact G.elim
/-! ### two or three names at once -/
def swS (sc : Scope) (ts vs : List Expr) : Option (Option (List Str)) :=
  if (!(ts.length == 2 || ts.length == 3) || vs.length != ts.length) = true then some none else
  if (vs.any fun | .Starred .. => true | _ => false) = true then some none else
  let line := (ts.head?.map (·.pos.line)).getD 0
  let names := ts.filterMap fun
    | .Name id pos => if sc.names.lookup id == some .local && pos.line == line then some id else none
    | _ => none
  if (names.length != ts.length || names.eraseDups.length != names.length) = true then some none else
  if vs.all (foldedForSure 8) = true then some none else
  if vs.all (constantsAlone 8) = true then none else some (some names)
theorem swS_ok {env : Env} {ts vs : List Expr} {a b : Nat} {p q : Pos} {r : Option (List Str)} (hk : env.scope.kind = .function) (h : swS env.scope ts vs = some r) : swappedStores [.Tuple ts a p] (.Tuple vs b q) env = pure r := by
  have hb : (env.blockKind != .function) = false := by unfold Env.blockKind; rw [hk] <;> rfl
  unfold swS at h
  unfold swappedStores
  simp only [hb, Bool.or_false]
  split at h
  · rename_i e; cases h; exact if_pos e
  rename_i e1
  refine (if_neg e1).trans ?_
  split at h
  · rename_i e; cases h; exact if_pos e
  rename_i e2
  refine (if_neg e2).trans ?_
  simp only at h
  split at h
  · rename_i e; cases h; exact if_pos e
  rename_i e3
  refine (if_neg e3).trans ?_
  split at h
  · rename_i e; cases h; exact if_pos e
  rename_i e4
  refine (if_neg e4).trans ?_
  split at h
  · cases h
  rename_i e5
  refine (if_neg e5).trans ?_
  cases h
  rfl
end
end Ev

set_option Elab.async false
set_option linter.all false
set_option maxRecDepth 100000
set_option maxHeartbeats 1000000
/-! Ev6e: several names at once, loops. Own work. -/
namespace Ev
open PySem PySem.Spec PyProof.Rows L2
section
variable {g : Gi} {Φ : Fns} {k : Nat} {ct : Ct} {X : Cx} {ρ ρ' ρ0 ρ1 ρ2 : En} {σ σ' σ0 σ1 σ2 : St} {H F H' F' H0 F0 H1 F1 H2 F2 : Hp} {W : WX} {Z : Ends}
def lclB (ct : Ct) (x : Str) (i : Nat) : Bool := decide (ct.N[i]? = some x) && decide (ct.sc.names.lookup x = some .local) && setB ct i
theorem lclB_ok {x : Str} {i : Nat} (h : lclB ct x i = true) : ct.N[i]? = some x ∧ ct.sc.names.lookup x = some .local ∧ setB ct i = true := by
  unfold lclB at h
  rw [Bool.and_eq_true, Bool.and_eq_true, decide_eq_true_eq, decide_eq_true_eq] at h
  exact ⟨h.1.1, h.1.2, h.2⟩
theorem swS_ct (xo : XOk g Φ k ct X) (I : X.Ok) {ts vs : List Expr} {a b : Nat} {p q : Pos} {r : Option (List Str)} (h : swS ct.sc ts vs = some r) : swappedStores [.Tuple ts a p] (.Tuple vs b q) X.env = pure r :=
  swS_ok I.kind (by rw [xo.sc]; exact h)
theorem par_core {is : List Nat} {es : List Expr} {ies : Es} (xo : XOk g Φ k ct X) (S : Sim g ρ σ H F) (tk : Takes X W) (hb : is.all (setB ct) = true) (hs : SA g Φ k ct es ies) (G : GdS g ct ρ σ H F (evS Φ ct.np (.par is ies) ρ) Z W) : DA X es σ H fun vs H1 => vs.length = is.length ∧ Z.nx (setσ is vs σ) H1 := by
  refine hs.goS xo S tk G fun vs rs ρ1 H1 F1 b q G1 => ?_
  obtain ⟨ss, ρ2, hk, G2⟩ := keepSl_in G1
  obtain ⟨F2, b2, _, nw, _, _⟩ := keepSl_bh b q hk
  split at G2
  case h_2 => exact G2.elim
  rename_i ρ3 h3
  have hl : vs.length = ss.length := by
    have : ∀ {vs : List V} {ss : List Sl}, SlNews g ρ2 σ H1 F2 H vs ss → vs.length = ss.length := fun {vs ss} n => by
      induction n with
      | nil => rfl
      | cons _ _ _ ih => rw [List.length_cons, List.length_cons, ih]
    exact this nw
  exact ⟨by rw [hl, setAll_len h3], G2.now (sets_bs b2.s hb nw h3)⟩
theorem ss_par2 {x y : Str} {i j : Nat} {a b : Expr} {ies : Es} {px py pt pt2 pos : Pos} {kt k2 : Nat} (hc : ct.calm = true) (hx : lclB ct x i = true) (hy : lclB ct y j = true) (hij : i ≠ j) (hs : SA g Φ k ct [a, b] ies)
    (hw : swS ct.sc [.Name x px, .Name y py] [a, b] = some (some [x, y])) : SS g Φ k ct (.Assign [.Tuple [.Name x px, .Name y py] kt pt] (.Tuple [a, b] k2 pt2) pos) (.par [i, j] ies) := by
  intro X xo ρ σ H F S Z W tk G pins s I
  obtain ⟨x1, x2, x3⟩ := lclB_ok hx
  obtain ⟨y1, y2, y3⟩ := lclB_ok hy
  have main := par_core (is := [i, j]) xo S tk (by rw [List.all_cons, List.all_cons, x3, y3] <;> rfl) hs G
  refine PS.d (ps_par (xo.rm.calm.trans hc) xo.nd (by rw [xo.N]; exact x1) (by rw [xo.N]; exact y1) hij (by rw [xo.sc]; exact x2) (by rw [xo.sc]; exact y2) pa_D (swS_ct xo I.ok hw)) ?_ pins s I
  refine fun pos pins s I => thn (main pos pins s I) fun us s1 ⟨vs, H1, I1, r, hl, q⟩ => ⟨vs, H1, I1, r, ?_⟩
  match vs, hl, q with
  | [v, w], _, q => exact ⟨v, w, rfl, q⟩
theorem ss_par3 {x y z : Str} {i j l : Nat} {a b c : Expr} {ies : Es} {px py pz pt pt2 pos : Pos} {kt k2 : Nat} (hc : ct.calm = true) (hx : lclB ct x i = true) (hy : lclB ct y j = true) (hz : lclB ct z l = true) (hij : i ≠ j) (hil : i ≠ l) (hjl : j ≠ l) (hs : SA g Φ k ct [a, b, c] ies)
    (hw : swS ct.sc [.Name x px, .Name y py, .Name z pz] [a, b, c] = some (some [x, y, z])) : SS g Φ k ct (.Assign [.Tuple [.Name x px, .Name y py, .Name z pz] kt pt] (.Tuple [a, b, c] k2 pt2) pos) (.par [i, j, l] ies) := by
  intro X xo ρ σ H F S Z W tk G pins s I
  obtain ⟨x1, x2, x3⟩ := lclB_ok hx
  obtain ⟨y1, y2, y3⟩ := lclB_ok hy
  obtain ⟨z1, z2, z3⟩ := lclB_ok hz
  have main := par_core (is := [i, j, l]) xo S tk (by rw [List.all_cons, List.all_cons, List.all_cons, x3, y3, z3] <;> rfl) hs G
  refine PS.d (ps_par3 (xo.rm.calm.trans hc) xo.nd (by rw [xo.N]; exact x1) (by rw [xo.N]; exact y1) (by rw [xo.N]; exact z1) hij hil hjl (by rw [xo.sc]; exact x2) (by rw [xo.sc]; exact y2) (by rw [xo.sc]; exact z2) pa_D (swS_ct xo I.ok hw)) ?_ pins s I
  refine fun pos pins s I => thn (main pos pins s I) fun us s1 ⟨vs, H1, I1, r, hl, q⟩ => ⟨vs, H1, I1, r, ?_⟩
  match vs, hl, q with
  | [v, w, u], _, q => exact ⟨v, w, u, rfl, q⟩
/-- one value for several names -/
theorem unp_core {is : List Nat} {es : List Expr} {j : Nat} {p : Pos} {e : Expr} {ie : E} (xo : XOk g Φ k ct X) (hc : ct.calm = true) (hn : namesB ct es is = true) (S : Sim g ρ σ H F) (tk : Takes X W) (he : SE g Φ k ct e ie) (G : GdS g ct ρ σ H F (evS Φ ct.np (.unp is ie) ρ) Z W) :
    tAsg (DE X e) (DG X (.Tuple es j p)) Z σ H := by
  refine he.goS xo S tk G fun v r ρ1 H1 F1 b q G1 => ?_
  obtain ⟨d, l1, G2⟩ := op1_inS G1
  cases d with
  | tup ds =>
    simp only [unpD] at G2
    split at G2
    case h_2 => exact G2.elim
    rename_i ρ2 h2
    exact tup_go xo hc hn b.s (q.rdf b.sim l1 ⟨fun _ z => (nomatch z), fun _ _ z => (nomatch z)⟩) h2 fun σ' b' _ => G2.now b'
  | lst ds =>
    simp only [unpD] at G2
    split at G2
    case h_2 => exact G2.elim
    rename_i ρ2 h2
    obtain ⟨q1, q2, q3, q4, q5⟩ := names_pgs xo hn
    obtain ⟨a, xs, e1, h3, h4⟩ := held_lst b.sim q l1
    have rr := h4.rd
    refine PG.d (pg_lst (xo.rm.calm.trans hc) q1 q2 q3) ?_
    have hl := setAll_len h2
    rw [List.length_map] at hl
    exact ⟨_, _, e1, by rw [xo.rm.K]; exact h3, by rw [rr.length, q4, hl], gNames_ok (by rw [rr.length, hl]) (G2.now (sets_bs b.s q5 (news_fz rr) h2))⟩
  | _ => exact G2.elim
def noTup : Expr → Bool
  | .Tuple _ _ _ => false
  | _ => true
theorem ss_unp {is : List Nat} {es : List Expr} {j : Nat} {p pos : Pos} {e : Expr} {ie : E} (hc : ct.calm = true) (hn : namesB ct es is = true) (hv : noComp e = true) (ht : noTup e = true) (he : SE g Φ k ct e ie) : SS g Φ k ct (.Assign [.Tuple es j p] e pos) (.unp is ie) := by
  intro X xo ρ σ H F S Z W tk G
  refine PS.d (ps_asg pe_D pg_D (swaps_sole hv) (by cases e <;> first | (cases ht; done) | rfl)) ?_
  exact unp_core xo hc hn S tk he G
theorem ss_unpT {is : List Nat} {es vs : List Expr} {j l : Nat} {p q pos : Pos} {ie : E} (hc : ct.calm = true) (hn : namesB ct es is = true) (hw : swS ct.sc es vs = some none) (he : SE g Φ k ct (.Tuple vs l q) ie) : SS g Φ k ct (.Assign [.Tuple es j p] (.Tuple vs l q) pos) (.unp is ie) := by
  intro X xo ρ σ H F S Z W tk G pins s I
  refine PS.d (ps_asg pe_D pg_D (swaps_sole rfl) (swS_ct xo I.ok hw)) ?_ pins s I
  exact unp_core xo hc hn S tk he G

/-- a tuple that is thrown away: what it held is one's own still -/
theorem SlNews.up {a : Addr} {o : HO} (n : H a = none) : ∀ {vs : List V} {ss : List Sl}, SlNews g ρ σ H F H0 vs ss → SlNews g ρ σ (upd H a o) F H0 vs ss
  | _, _, .nil => .nil
  | _, _, .cons h q t => by
    refine .cons ?_ q (SlNews.up n t)
    rename_i v vs s ss
    unfold SlNew at h ⊢
    cases hm : s.m with
    | fz => rw [hm] at h; exact h
    | lk => rw [hm] at h; exact h
    | own =>
      rw [hm] at h
      obtain ⟨b, e, h1, h2, h3, h4⟩ := h
      refine ⟨b, e, h1, h2, h3.mono (Same.refl F) ?_, h4⟩
      exact upd_ne fun z => h3.there (by rw [z]; exact n)
theorem ss_parT {is : List Nat} {es vs : List Expr} {j l : Nat} {p q pos : Pos} {ies : Es} (hc : ct.calm = true) (hn : namesB ct es is = true) (hlen : is.length ≤ 9) (hw : swS ct.sc es vs = some none) (hs : SA g Φ k ct vs ies) : SS g Φ k ct (.Assign [.Tuple es j p] (.Tuple vs l q) pos) (.par is ies) := by
  intro X xo ρ σ H F S Z W tk G pins s I
  refine PS.d (ps_asg (pe_tup pa_D) pg_D (swaps_sole rfl) (swS_ct xo I.ok hw)) ?_ pins s I
  refine hs.goS xo S tk G fun us rs ρ1 H1 F1 b q1 G1 => ?_
  obtain ⟨ss, ρ2, hk, G2⟩ := keepSl_in G1
  obtain ⟨F2, b2, _, nw, _, _⟩ := keepSl_bh b q1 hk
  split at G2
  case h_2 => exact G2.elim
  rename_i ρ3 h3
  have hl : us.length = ss.length := by
    have : ∀ {vs : List V} {ss : List Sl}, SlNews g ρ2 σ H1 F2 H vs ss → vs.length = ss.length := fun {vs ss} n => by
      induction n with
      | nil => rfl
      | cons _ _ _ ih => rw [List.length_cons, List.length_cons, ih]
    exact this nw
  have hl2 := setAll_len h3
  have hz : (9 : Nat) ≤ sizeLine := by decide
  refine ⟨by omega, fun a ha => ?_⟩
  have junk : Res g H1 F2 (.v .non) .non (upd H1 a (.tup us)) := ⟨F2, Same.refl F2, fun _ z => .inl z, same_upd ha, b2.sim.sub.trans (same_upd ha), .non⟩
  obtain ⟨F3, S3, st3, _⟩ := b2.sim.res junk
  have b3 : Bh g ρ σ H F ρ2 σ (upd H1 a (.tup us)) F2 := by
    have hsim : Sim g ρ2 σ (upd H1 a (.tup us)) F2 := ⟨b2.sim.len, b2.sim.sub.trans (same_upd ha), fun i t hi => by
      obtain ⟨w, e1, e2⟩ := b2.sim.val i t hi
      refine ⟨w, e1, e2.mono (Same.refl F2) fun c hm hv => ?_⟩
      subst hv
      have ow := b2.sim.ownL ⟨i, t, hi, hm, e1⟩
      exact ⟨ow.2, upd_ne fun z => ow.1 (by rw [z]; exact ha)⟩, b2.sim.sep⟩
    refine ⟨hsim, b2.stp.trans ⟨Same.refl F2, fun _ z => .inl z, fun c o z n => by rw [upd_ne fun y => by rw [y, ha] at z; cases z]; exact z, fun c z => ?_, fun c z => .inl z, fun c z => .inl z⟩, b2.kp, b2.pv⟩
    by_cases hcc : c = a
    · subst hcc; exact absurd ha z
    · rw [upd_ne hcc]; exact z
  obtain ⟨p1, p2, p3, p4, p5⟩ := names_pgs xo hn
  refine PG.d (pg_tup (xo.rm.calm.trans hc) p1 p2 p3) ?_
  refine ⟨a, us, rfl, .inl (.inl upd_same), by rw [p4]; omega, gNames_ok (by omega) (G2.now (sets_bs b3.s p5 (SlNews.up ha nw) h3))⟩

/-! ### locks taken off -/
theorem unlock_of {r : Vr} : unlockS ρ1 ρ r = ρ ∨ ∃ i s0 s, r = .s i ∧ ρ1.get i = some s0 ∧ ρ.get i = some s ∧ s.m = s0.m.lock ∧ unlockS ρ1 ρ r = ρ.set i (some ⟨s0.m, s.d⟩) := by
  cases r with
  | v d => exact .inl rfl
  | o d => exact .inl rfl
  | s i =>
    have e : unlockS ρ1 ρ (.s i) = (match ρ1.get i, ρ.get i with
      | some s0, some s => if s.m = s0.m.lock then ρ.set i (some ⟨s0.m, s.d⟩) else ρ
      | _, _ => ρ) := rfl
    cases h0 : ρ1.get i with
    | none => rw [e, h0]; exact .inl rfl
    | some s0 =>
      cases h1 : ρ.get i with
      | none => rw [e, h0, h1]; exact .inl rfl
      | some s =>
        rw [e, h0, h1]
        by_cases hm : s.m = s0.m.lock
        · exact .inr ⟨i, s0, s, rfl, h0, h1, hm, if_pos hm⟩
        · exact .inl (if_neg hm)
theorem unlock_bs {r : Vr} (b1 : Bs g ct ρ0 σ0 H0 F0 ρ1 σ1 H1 F1) (b2 : Bs g ct (lockS ρ1 r) σ1 H1 F1 ρ σ H F) : Bs g ct ρ0 σ0 H0 F0 (unlockS ρ1 ρ r) σ H F := by
  have bl : Bs g ct ρ0 σ0 H0 F0 (lockS ρ1 r) σ1 H1 F1 := b1.trans (lock_bh b1.sim).s
  have b := bl.trans b2
  rcases unlock_of (ρ1 := ρ1) (ρ := ρ) (r := r) with e | ⟨i, s0, s, rfl, h0, h1, hm, e⟩
  · rw [e]; exact b
  · rw [e]
    have hi := get_lt h1
    have mm : s.m ≠ .fz ↔ s0.m ≠ .fz := by rw [hm]; exact lock_ne
    have hl : (lockS ρ1 (.s i)).get i = some ⟨s0.m.lock, s0.d⟩ := by rw [lockS_some h0]; exact get_set_same (get_lt h0)
    have ol : ∀ j a, OwnAt (ρ.set i (some ⟨s0.m, s.d⟩)) σ j a → OwnAt ρ σ j a := fun j a ⟨t, q1, q2, q3⟩ => by
      rw [get_set hi] at q1
      split at q1
      · rename_i z
        subst z
        cases q1
        exact ⟨s, h1, mm.mpr q2, q3⟩
      · exact ⟨t, q1, q2, q3⟩
    have om : ∀ j a, OwnM (ρ.set i (some ⟨s0.m, s.d⟩)) σ j a → OwnM ρ0 σ0 j a ∨ H0 a = none := fun j a ⟨t, q1, q2, q3⟩ => by
      rw [get_set hi] at q1
      split at q1
      · rename_i z
        subst z
        cases q1
        have q2 : s0.m = .own := q2
        rcases b2.pv.2 i a ⟨s, h1, mm.mpr (by rw [q2]; decide), q3⟩ with ⟨t', w1, w2, w3⟩ | z
        · exact b1.pv.1 i a ⟨s0, h0, q2, w3⟩
        · exact .inr (none_back b1.stp.live z)
      · exact b.pv.1 j a ⟨t, q1, q2, q3⟩
    refine ⟨⟨by rw [List.length_set]; exact b.sim.len, b.sim.sub, fun j t h => ?_, fun j j' t t' a q1 q2 m1 m2 v1 v2 => ?_⟩, ⟨b.stp.fzs, b.stp.fzn, b.stp.mod, b.stp.live, fun c ⟨j, z⟩ => ?_, fun c ⟨j, z⟩ => b.stp.ownl c ⟨j, ol j c z⟩⟩, ⟨om, fun j a z => b.pv.2 j a (ol j a z)⟩, b.fx⟩
    · rw [get_set hi] at h
      split at h
      · rename_i z
        subst z
        cases h
        obtain ⟨v, e1, q⟩ := b.sim.val i s h1
        exact ⟨v, e1, q.md rfl mm.symm⟩
      · exact b.sim.val j t h
    · have back : ∀ j t, En.get (ρ.set i (some ⟨s0.m, s.d⟩)) j = some t → t.m ≠ .fz → ∃ u, ρ.get j = some u ∧ u.m ≠ .fz := fun j t q m => by
        rw [get_set hi] at q
        split at q
        · rename_i z
          subst z
          cases q
          exact ⟨s, h1, mm.mpr m⟩
        · exact ⟨t, q, m⟩
      obtain ⟨u, u1, u2⟩ := back j t q1 m1
      obtain ⟨u', w1, w2⟩ := back j' t' q2 m2
      exact b.sim.sep j j' u u' a u1 w1 u2 w2 v1 v2
    · rcases om j c z with z | z
      · exact .inl ⟨j, z⟩
      · exact .inr z
theorem unlock_at {r : Vr} {j : Nat} {a : Addr} (h : OwnAt (unlockS ρ1 ρ r) σ j a) : OwnAt ρ σ j a := by
  rcases unlock_of (ρ1 := ρ1) (ρ := ρ) (r := r) with e | ⟨i, s0, s, rfl, h0, h1, hm, e⟩
  · rw [e] at h; exact h
  · rw [e] at h
    obtain ⟨t, q1, q2, q3⟩ := h
    rw [get_set (get_lt h1)] at q1
    split at q1
    · rename_i z
      subst z
      cases q1
      exact ⟨s, h1, by rw [hm]; exact lock_ne.mpr q2, q3⟩
    · exact ⟨t, q1, q2, q3⟩
/-! ### several locks -/
theorem lockL_bh : ∀ {rs : List Vr} {ρ : En}, Sim g ρ σ H F → Bh g ρ σ H F (lockL ρ rs) σ H F
  | [], ρ, S => Bh.refl S
  | r :: rs, ρ, S => (lock_bh (r := r) S).trans (lockL_bh (rs := rs) (lock_bh (r := r) S).sim)
theorem unlockL_bs : ∀ {rs : List Vr} {ρ0 ρ1 : En} {σ0 : St} {H0 F0 : Hp}, Bs g ct ρ0 σ0 H0 F0 ρ1 σ1 H1 F1 → Bs g ct (lockL ρ1 rs) σ1 H1 F1 ρ σ H F → Bs g ct ρ0 σ0 H0 F0 (unlockL ρ1 ρ rs) σ H F
  | [], _, _, _, _, _, b1, b2 => b1.trans b2
  | r :: rs, _, ρ1, _, _, _, b1, b2 => unlock_bs (r := r) b1 (unlockL_bs (rs := rs) (Bs.refl (lock_bh (r := r) b1.sim).sim) b2)
theorem unlockL_at {j : Nat} {a : Addr} : ∀ {rs : List Vr} {ρ1 : En}, OwnAt (unlockL ρ1 ρ rs) σ j a → OwnAt ρ σ j a
  | [], _, h => h
  | r :: rs, ρ1, h => unlockL_at (rs := rs) (unlock_at (r := r) h)
theorem unlockL_some {j : Nat} {ρ : En} : ∀ {rs : List Vr} {ρ1 : En}, (ρ.get j).isSome = true → ((unlockL ρ1 ρ rs).get j).isSome = true
  | [], _, h => h
  | r :: rs, ρ1, h => by
    have h2 := unlockL_some (rs := rs) (ρ1 := lockS ρ1 r) h
    show ((unlockS ρ1 (unlockL (lockS ρ1 r) ρ rs) r).get j).isSome = true
    rcases unlock_of (ρ1 := ρ1) (ρ := unlockL (lockS ρ1 r) ρ rs) (r := r) with e | ⟨i, s0, s, _, q1, q2, q3, e⟩
    · rw [e]; exact h2
    · rw [e, get_set (get_lt q2)]
      split
      · rfl
      · exact h2
end
end Ev

set_option Elab.async false
set_option linter.all false
set_option maxRecDepth 100000
set_option maxHeartbeats 1000000
/-! Ev6f: for. Own work. -/
namespace Ev
open PySem PySem.Spec PyProof.Rows L2
section
variable {g : Gi} {Φ : Fns} {k : Nat} {ct : Ct} {X : Cx} {ρ ρ' ρ0 ρ1 ρ2 : En} {σ σ' σ0 σ1 σ2 : St} {H F H' F' H0 F0 H1 F1 H2 F2 : Hp} {W : WX} {Z : Ends}
def nset : Expr → Bool
  | .Set _ _ _ => false
  | _ => true
theorem nset_ok {iter : Expr} {env : Env} (h : nset iter = true) : ∀ x, foldedSetIterable iter env x = pure x := by
  intro x
  cases iter <;> first | (cases h; done) | rfl
/-- the body at one item -/
def bodyF (Φ : Fns) (np : Nat) (is : List Nat) (ib : Ss) : D → En → Rs Fl := fun d ρ => match assignD is d ρ with
  | some ρ => evSs Φ np ib ρ
  | none => .err
theorem for_turn {tg : Expr} {is : List Nat} {body : List Stmt} {ib : Ss} {r : List Vr} {J : It} {rows : List D} {N : Nat → Nat → St → Hp → Prop} (xo : XOk g Φ k ct X) (tk : Takes X W) (htg : SG g Φ k ct tg is) (hb : SSs g Φ k ct body ib) (b1 : Bs g ct ρ0 σ0 H0 F0 ρ1 σ1 H1 F1) (held0 : Held g (lockL ρ1 r) σ1 H1 F1 J rows)
    (hN : ∀ i m σ' H', N i m σ' H' ↔ m = rows.length - i ∧ i ≤ rows.length ∧ ∃ ρ' F', Bs g ct (lockL ρ1 r) σ1 H1 F1 ρ' σ' H' F' ∧ GdS g ct ρ0 σ0 H0 F0 ((forGo (bodyF Φ ct.np is ib) (rows.drop i) ρ').bind fun c ρ => .ok c (unlockL ρ1 ρ r)) Z W) :
    ∀ i m σ H, N i m σ H → (J.stop i H ∧ Z.nx σ H) ∨ (J.go i H ∧ ∃ M : St → Hp → Prop, (∀ σ' H', M σ' H' → ∃ m', m' < m ∧ N (i + 1) m' σ' H') ∧ ∀ x H', J.yld i H x H' → DG X tg x σ H' fun σ2 H2 => DSs X body { Z with nx := M, ct := M, bk := Z.nx } σ2 H2) := by
  intro i m σ H hn
  obtain ⟨hm, hi, ρ, F, b, G⟩ := (hN i m σ H).mp hn
  have held := held0.step b.stp
  obtain ⟨ht1, ht2⟩ := held.turn b.sim i
  by_cases hlt : i < rows.length
  · refine .inr ?_
    have hd : rows[i]? = some rows[i] := List.getElem?_eq_getElem hlt
    obtain ⟨hgo, hy⟩ := ht2 _ hd
    refine ⟨hgo, fun σ' H' => ∃ m', m' < m ∧ N (i + 1) m' σ' H', fun _ _ h => h, fun x H' hx => ?_⟩
    obtain ⟨F', bt, rd⟩ := hy x H' hx
    have b := b.trans bt.s
    rw [List.drop_eq_getElem_cons hlt] at G
    unfold forGo at G
    have Gb : GdS g ct ρ0 σ0 H0 F0 ((((bodyF Φ ct.np is ib) rows[i] ρ).bind fun c ρ => match c with
      | .nx => forGo (bodyF Φ ct.np is ib) (rows.drop (i + 1)) ρ
      | .ct => forGo (bodyF Φ ct.np is ib) (rows.drop (i + 1)) ρ
      | .br => .ok .nx ρ
      | .rt o d => .ok (.rt o d) ρ).bind fun c ρ => .ok c (unlockL ρ1 ρ r)) Z W := G
    cases ha : assignD is rows[i] ρ with
    | none =>
      unfold bodyF at Gb
      rw [ha] at Gb
      exact Gb.elim
    | some ρ2 =>
      have hbody : bodyF Φ ct.np is ib rows[i] ρ = evSs Φ ct.np ib ρ2 := by
        unfold bodyF
        rw [ha]
      rw [hbody] at Gb
      refine htg X xo (lockL ρ1 r) σ1 H1 F1 ρ σ H' F' b x _ ρ2 rd ha _ fun σ2 bb _ => ?_
      refine hb X xo ρ2 σ2 H' F' bb.sim _ W tk ?_
      have cont : ∀ ρ3 σ3 H3 F3, Bs g ct ρ2 σ2 H' F' ρ3 σ3 H3 F3 → GdS g ct ρ0 σ0 H0 F0 ((forGo (bodyF Φ ct.np is ib) (rows.drop (i + 1)) ρ3).bind fun c ρ => .ok c (unlockL ρ1 ρ r)) Z W → ∃ m', m' < m ∧ N (i + 1) m' σ3 H3 := fun ρ3 σ3 H3 F3 b3 G3 => by
        exact ⟨rows.length - (i + 1), by omega, (hN _ _ _ _).mpr ⟨rfl, by omega, ρ3, F3, bb.trans b3, G3⟩⟩
      cases he : evSs Φ ct.np ib ρ2 with
      | ok c ρ3 =>
        rw [he] at Gb
        intro σ3 H3 F3 b3
        have ball := unlockL_bs b1 (bb.trans b3)
        cases c with
        | nx => exact cont ρ3 σ3 H3 F3 b3 Gb
        | ct => exact cont ρ3 σ3 H3 F3 b3 Gb
        | br => exact GdS.now (W := W) (Z := Z) Gb ball
        | rt o d =>
          have e := GdS.now (W := W) (Z := Z) Gb ball
          intro v hv
          refine e v ?_
          unfold RtRel at hv ⊢
          split at hv
          · rename_i ho
            rw [if_pos ho]
            obtain ⟨a, e1, e2, e3, e4, e5⟩ := hv
            refine ⟨a, e1, e2, e3, fun j hj z => e4 j hj (unlockL_at z), ?_⟩
            have b02 := (b1.trans (lockL_bh b1.sim).s).trans bb
            rcases e5 with z | ⟨j, hj, z⟩
            · exact .inl (none_back b02.stp.live z)
            · rcases b02.pv.2 j a z with z | z
              · exact .inr ⟨j, hj, z⟩
              · exact .inl z
          · rename_i ho
            rw [if_neg ho]
            exact hv
      | ex x ρ3 =>
        rw [he] at Gb
        intro σ3 cls d H3 F3 b3 xr
        exact Gb σ3 cls d H3 F3 ((b1.trans (lockL_bh b1.sim).s).trans (bb.trans b3)) xr
      | err => rw [he] at Gb; exact Gb.elim
  · refine .inl ⟨ht1 (by omega), ?_⟩
    rw [List.drop_eq_nil_of_le (by omega)] at G
    exact GdS.now (W := W) (Z := Z) (c := .nx) G (unlockL_bs b1 b)
theorem ss_for {tg iter : Expr} {is : List Nat} {iw : Wk} {body : List Stmt} {ib : Ss} {pos : Pos} (ht : ct.top = true) (hc : ct.calm = true) (hs : nset iter = true) (hi : SI g Φ k ct tg iter iw) (htg : SG g Φ k ct tg is) (hb : SSs g Φ k ct body ib) : SS g Φ k ct (.For tg iter body [] pos) (.for is iw ib) := by
  intro X xo ρ σ H F S Z W tk G
  refine PS.d (ps_for (xo.po ht) (xo.rm.calm.trans hc) pi_D pg_D pss_D (nset_ok hs)) ?_
  refine hi.goS xo S tk G fun J p ρ1 H1 F1 b held G1 => ?_
  obtain ⟨rows, r⟩ := p
  have G1 : GdS g ct ρ σ H F ((forGo (bodyF Φ ct.np is ib) rows (lockL ρ1 r)).bind fun c ρ => .ok c (unlockL ρ1 ρ r)) Z W := G1
  refine ⟨fun i m σ' H' => m = rows.length - i ∧ i ≤ rows.length ∧ ∃ ρ' F', Bs g ct (lockL ρ1 r) σ H1 F1 ρ' σ' H' F' ∧ GdS g ct ρ σ H F ((forGo (bodyF Φ ct.np is ib) (rows.drop i) ρ').bind fun c ρ => .ok c (unlockL ρ1 ρ r)) Z W,
    ⟨rows.length, by omega, by omega, lockL ρ1 r, F1, Bs.refl (lockL_bh b.sim).sim, G1⟩, ?_⟩
  exact for_turn xo tk htg hb b.s held (fun _ _ _ _ => Iff.rfl)
end
end Ev

set_option Elab.async false
set_option linter.all false
set_option maxRecDepth 100000
set_option maxHeartbeats 1000000
/-! Ev6g: list comprehensions. Own work. -/
namespace Ev
open PySem PySem.Spec PyProof.Rows L2
section
variable {g : Gi} {Φ : Fns} {k : Nat} {ct : Ct} {X : Cx} {ρ ρ' ρ0 ρ1 ρ2 : En} {σ σ' σ0 σ1 σ2 : St} {H F H' F' H0 F0 H1 F1 H2 F2 : Hp} {W : WX} {Z : Ends}
/-! ### slots wiped, slots put back -/
theorem wipe_ne {i : Nat} : ∀ {vs : List Nat} {σ : St}, i ∉ vs → (wipe σ vs)[i]? = σ[i]?
  | [], _, _ => rfl
  | v :: vs, σ, h => by
    unfold wipe
    rw [List.getElem?_set_ne (fun z => h (by rw [z]; exact List.mem_cons_self)), wipe_ne fun z => h (List.mem_cons_of_mem _ z)]
theorem wipeE_len {vs : List Nat} : (wipeE ρ vs).length = ρ.length := by
  induction vs with
  | nil => rfl
  | cons v vs ih => unfold wipeE; rw [List.length_set, ih]
theorem wipeE_ne {i : Nat} : ∀ {vs : List Nat}, i ∉ vs → (wipeE ρ vs).get i = ρ.get i
  | [], _ => rfl
  | v :: vs, h => by
    unfold wipeE
    rw [get_set_ne (fun z => h (by rw [z]; exact List.mem_cons_self)), wipeE_ne fun z => h (List.mem_cons_of_mem _ z)]
theorem wipeE_in {i : Nat} : ∀ {vs : List Nat}, i ∈ vs → (wipeE ρ vs).get i = none
  | [], h => by cases h
  | v :: vs, h => by
    unfold wipeE
    by_cases hv : v = i
    · subst hv; exact get_set_none
    · rw [get_set_ne hv]
      rcases List.mem_cons.mp h with h | h
      · exact absurd h.symm hv
      · exact wipeE_in h
theorem wipeE_some {i : Nat} {vs : List Nat} {s : Sl} (h : (wipeE ρ vs).get i = some s) : i ∉ vs ∧ ρ.get i = some s := by
  by_cases hi : i ∈ vs
  · rw [wipeE_in hi] at h; cases h
  · exact ⟨hi, by rw [← wipeE_ne hi]; exact h⟩
theorem backE_len {vs : List Nat} : (backE ρ0 ρ vs).length = ρ.length := by
  induction vs with
  | nil => rfl
  | cons v vs ih => unfold backE; rw [List.length_set, ih]
theorem backE_ne {i : Nat} : ∀ {vs : List Nat}, i ∉ vs → (backE ρ0 ρ vs).get i = ρ.get i
  | [], _ => rfl
  | v :: vs, h => by
    unfold backE
    rw [get_set_ne (fun z => h (by rw [z]; exact List.mem_cons_self)), backE_ne fun z => h (List.mem_cons_of_mem _ z)]
theorem backE_in {i : Nat} (hl : ρ0.length = ρ.length) : ∀ {vs : List Nat}, i ∈ vs → (backE ρ0 ρ vs).get i = ρ0.get i
  | [], h => by cases h
  | v :: vs, h => by
    unfold backE
    by_cases hv : v = i
    · subst hv
      unfold En.get
      by_cases hlt : v < ρ.length
      · rw [List.getElem?_set_self (by rw [backE_len]; exact hlt)]
        cases ρ0[v]? <;> rfl
      · rw [List.getElem?_eq_none (by rw [List.length_set, backE_len]; omega), List.getElem?_eq_none (by omega)]
    · rw [get_set_ne hv]
      rcases List.mem_cons.mp h with h | h
      · exact absurd h.symm hv
      · exact backE_in hl h
/-- the context of a block -/
def blkC (ct : Ct) (scope : Scope) : Ct := { ct with
  sc := { scope with names := scope.names.map fun (n, k) => if (k == .free && ct.sc.kind == .function && ct.sc.names.lookup n == some .cell) then (n, .cell) else (n, k) }
  top := false
  np := 0
  reb := []
  fnx := fun x => scope.names.lookup x == some .cell }
theorem blk_ok {scope : Scope} {s : Shared} {C : Addr} {cl : List (Str × Addr)} {fp : List Addr} (xo : XOk g Φ k ct X) : XOk g Φ k (blkC ct scope) (X.blk s H scope (compEnvC scope cl C X.env) fp) where
  N := xo.N
  nd := xo.nd
  sc := by
    show relabel scope X.env = _
    unfold relabel blkC
    have : ∀ n, X.env.kindOf n = ct.sc.names.lookup n := fun n => by rw [← xo.sc] <;> rfl
    simp only [this, xo.sc]
  rm := ⟨xo.rm.K, xo.rm.calm, xo.rm.units, xo.rm.guards⟩
  glob := fun x q h => by
    have := xo.glob x q h
    cases q <;> exact this
  room := xo.room
  fns := xo.fns
  po := fun h => by cases h
  fnx := fun _ => rfl
theorem bs0 {sc : Scope} (h1 : Sim g ρ' σ' H' F') (h2 : Stp ρ σ H F ρ' σ' H' F') (h3 : Pv ρ σ H ρ' σ') : Bs g (blkC ct sc) ρ σ H F ρ' σ' H' F' := ⟨h1, h2, h3, fun i h => by cases h⟩
theorem wipe_bs {vs : List Nat} {sc : Scope} (S : Sim g ρ σ H F) : Bs g (blkC ct sc) ρ σ H F (wipeE ρ vs) (wipe σ vs) H F := by
  have at_ : ∀ j a, OwnAt (wipeE ρ vs) (wipe σ vs) j a → OwnAt ρ σ j a := fun j a ⟨s, h1, h2, h3⟩ => by
    obtain ⟨n, e⟩ := wipeE_some h1
    rw [wipe_ne n] at h3
    exact ⟨s, e, h2, h3⟩
  have atm : ∀ j a, OwnM (wipeE ρ vs) (wipe σ vs) j a → OwnM ρ σ j a := fun j a ⟨s, h1, h2, h3⟩ => by
    obtain ⟨n, e⟩ := wipeE_some h1
    rw [wipe_ne n] at h3
    exact ⟨s, e, h2, h3⟩
  refine bs0 ⟨by rw [wipeE_len, wipe_length]; exact S.len, S.sub, fun i s h => ?_, fun i j s t a h1 h2 m1 m2 v1 v2 => ?_⟩ ⟨Same.refl F, fun _ z => .inl z, fun _ _ z _ => z, fun _ z => z, fun c ⟨j, z⟩ => .inl ⟨j, atm j c z⟩, fun c ⟨j, z⟩ => .inl ⟨j, at_ j c z⟩⟩ ⟨fun j a z => .inl (atm j a z), fun j a z => .inl (at_ j a z)⟩
  · obtain ⟨n, e⟩ := wipeE_some h
    rw [wipe_ne n]
    exact S.val i s e
  · obtain ⟨n1, e1⟩ := wipeE_some h1
    obtain ⟨n2, e2⟩ := wipeE_some h2
    rw [wipe_ne n1] at v1
    rw [wipe_ne n2] at v2
    exact S.sep i j s t a e1 e2 m1 m2 v1 v2
/-- an object laid or changed that no slot owns and that is new -/
theorem lay_bs {sc : Scope} {L : Addr} {o : HO} (b : Bs g (blkC ct sc) ρ0 σ0 H0 F0 ρ σ H F) (h0 : H0 L = none) (hf : F L = none) (no : ¬ OwnL ρ σ L) : Bs g (blkC ct sc) ρ0 σ0 H0 F0 ρ σ (upd H L o) F := by
  refine bs0 ⟨b.sim.len, fun c u z => ?_, fun i s h => ?_, b.sim.sep⟩ ⟨b.stp.fzs, b.stp.fzn, fun c u z n => ?_, fun c z => ?_, b.stp.own, b.stp.ownl⟩ b.pv
  · rw [upd_ne (ne_of_none z hf)]; exact b.sim.sub c u z
  · obtain ⟨v, e, q⟩ := b.sim.val i s h
    refine ⟨v, e, q.mono (Same.refl F) fun a hm hv => ?_⟩
    subst hv
    have ne : a ≠ L := fun z => no ⟨i, s, h, hm, by rw [← z]; exact e⟩
    exact ⟨(b.sim.ownL ⟨i, s, h, hm, e⟩).2, upd_ne ne⟩
  · rw [upd_ne (ne_of_none z h0)]; exact b.stp.mod c u z n
  · by_cases hc : c = L
    · subst hc; exact absurd h0 z
    · rw [upd_ne hc]; exact b.stp.live c z
/-- behind a comprehension the frame's own slots are back -/
theorem back_bs {sc : Scope} {vs : List Nat} (S : Sim g ρ0 σ H F) (b : Bs g (blkC ct sc) (wipeE ρ0 vs) (wipe σ vs) H F ρ σ' H' F') (hw : wipe σ' vs = wipe σ vs) : Bs g (blkC ct sc) ρ0 σ H F (backE ρ0 ρ vs) σ H' F' := by
  have hl : ρ0.length = ρ.length := by
    rw [b.sim.len, ← wipe_length σ' vs, hw, wipe_length, S.len]
  have hσ : ∀ i, i ∉ vs → σ'[i]? = σ[i]? := fun i hi => by rw [← wipe_ne (σ := σ') hi, hw, wipe_ne hi]
  -- whose a slot is
  have side : ∀ i s, (backE ρ0 ρ vs).get i = some s → (i ∈ vs ∧ ρ0.get i = some s) ∨ (i ∉ vs ∧ ρ.get i = some s) := fun i s h => by
    by_cases hi : i ∈ vs
    · rw [backE_in hl hi] at h; exact .inl ⟨hi, h⟩
    · rw [backE_ne hi] at h; exact .inr ⟨hi, h⟩
  have w2 : ∀ j a, OwnAt (wipeE ρ0 vs) (wipe σ vs) j a → j ∉ vs ∧ OwnAt ρ0 σ j a := fun j a ⟨s, h1, h2, h3⟩ => by
    obtain ⟨n, e⟩ := wipeE_some h1
    rw [wipe_ne n] at h3
    exact ⟨n, s, e, h2, h3⟩
  have w1 : ∀ j a, OwnM (wipeE ρ0 vs) (wipe σ vs) j a → OwnM ρ0 σ j a := fun j a ⟨s, h1, h2, h3⟩ => by
    obtain ⟨n, e⟩ := wipeE_some h1
    rw [wipe_ne n] at h3
    exact ⟨s, e, h2, h3⟩
  have at_ : ∀ j a, OwnAt (backE ρ0 ρ vs) σ j a → OwnAt ρ0 σ j a ∨ H a = none := fun j a ⟨s, h1, h2, h3⟩ => by
    rcases side j s h1 with ⟨_, e⟩ | ⟨n, e⟩
    · exact .inl ⟨s, e, h2, h3⟩
    · rcases b.pv.2 j a ⟨s, e, h2, by rw [hσ j n]; exact h3⟩ with z | z
      · exact .inl (w2 j a z).2
      · exact .inr z
  have atm : ∀ j a, OwnM (backE ρ0 ρ vs) σ j a → OwnM ρ0 σ j a ∨ H a = none := fun j a ⟨s, h1, h2, h3⟩ => by
    rcases side j s h1 with ⟨_, e⟩ | ⟨n, e⟩
    · exact .inl ⟨s, e, h2, h3⟩
    · rcases b.pv.1 j a ⟨s, e, h2, by rw [hσ j n]; exact h3⟩ with z | z
      · exact .inl (w1 j a z)
      · exact .inr z
  refine bs0 ⟨by rw [backE_len, ← hl]; exact S.len, b.sim.sub, fun i s h => ?_, fun i j s t a h1 h2 m1 m2 v1 v2 => ?_⟩ ⟨b.stp.fzs, fun c z => ?_, fun c o h n => ?_, b.stp.live, fun c ⟨j, z⟩ => ?_, fun c ⟨j, z⟩ => ?_⟩ ⟨atm, at_⟩
  · rcases side i s h with ⟨hi, e⟩ | ⟨n, e⟩
    · obtain ⟨v, h1, q⟩ := S.val i s e
      refine ⟨v, h1, q.mono b.stp.fzs fun a hm hv => ?_⟩
      subst hv
      have own := S.ownL ⟨i, s, e, hm, h1⟩
      have nO : ¬ OwnL (wipeE ρ0 vs) (wipe σ vs) a := fun ⟨j, z⟩ => by
        obtain ⟨n, t, t1, t2, t3⟩ := w2 j a z
        have := S.sep i j s t a e t1 hm t2 h1 t3
        subst this
        exact n hi
      obtain ⟨o, ho⟩ := ne_some.mp own.1
      refine ⟨Classical.byContradiction fun q => ?_, (b.stp.mod a o ho fun z => nO z.l).trans ho.symm⟩
      rcases b.stp.fzn a q with y | y | y
      · exact y own.2
      · exact own.1 y
      · exact nO y
    · obtain ⟨v, h1, q⟩ := b.sim.val i s e
      exact ⟨v, by rw [← hσ i n]; exact h1, q⟩
  · have mixed : ∀ i j s t, i ∈ vs → ρ0.get i = some s → s.m ≠ .fz → σ[i]? = some (some (.ref a)) → j ∉ vs → ρ.get j = some t → t.m ≠ .fz → σ[j]? = some (some (.ref a)) → False := fun i j s t hi e hm h1 hj e' hm' h2 => by
      rcases b.pv.2 j a ⟨t, e', hm', by rw [hσ j hj]; exact h2⟩ with z | z
      · obtain ⟨_, u, u1, u2, u3⟩ := w2 j a z
        have := S.sep i j s u a e u1 hm u2 h1 u3
        subst this
        exact hj hi
      · exact (S.ownL ⟨i, s, e, hm, h1⟩).1 z
    rcases side i s h1 with ⟨hi, e1⟩ | ⟨hi, e1⟩
    · rcases side j t h2 with ⟨hj, e2⟩ | ⟨hj, e2⟩
      · exact S.sep i j s t a e1 e2 m1 m2 v1 v2
      · exact (mixed i j s t hi e1 m1 v1 hj e2 m2 v2).elim
    · rcases side j t h2 with ⟨hj, e2⟩ | ⟨hj, e2⟩
      · exact (mixed j i t s hj e2 m2 v2 hi e1 m1 v1).elim
      · exact b.sim.sep i j s t a e1 e2 m1 m2 (by rw [hσ i hi]; exact v1) (by rw [hσ j hj]; exact v2)
  · rcases b.stp.fzn c z with z | z | ⟨j, z⟩
    · exact .inl z
    · exact .inr (.inl z)
    · exact .inr (.inr ⟨j, (w2 j c z).2⟩)
  · exact b.stp.mod c o h fun ⟨j, z⟩ => n ⟨j, w1 j c z⟩
  · rcases atm j c z with z | z
    · exact .inl ⟨j, z⟩
    · exact .inr z
  · rcases at_ j c z with z | z
    · exact .inl ⟨j, z⟩
    · exact .inr z
theorem assignD_kp {is : List Nat} {d : D} (h : assignD is d ρ = some ρ') : Keeps ρ ρ' := by
  have sets : ∀ {is : List Nat} {ss : List Sl} {ρ ρ' : En}, setAll is ss ρ = some ρ' → Keeps ρ ρ' := by
    intro is
    induction is with
    | nil =>
      intro ss ρ ρ' h
      cases ss with
      | nil => cases h; exact Keeps.refl _
      | cons _ _ => cases h
    | cons i is ih =>
      intro ss ρ ρ' h
      cases ss with
      | nil => cases h
      | cons s ss =>
        unfold setAll at h
        split at h
        · rename_i hi
          exact Keeps.trans (fun j hj => by
            rw [get_set hi]
            split
            · rfl
            · exact hj) (ih h)
        · cases h
  rcases is with _ | ⟨i, _ | ⟨i', is⟩⟩
  · cases d <;> first | (cases h; done) | exact sets h
  · unfold assignD at h
    dsimp only at h
    split at h
    · rename_i hi
      cases h
      intro j hj
      rw [get_set hi]
      split
      · rfl
      · exact hj
    · cases h
  · cases d <;> first | (cases h; done) | exact sets h
end
end Ev

set_option Elab.async false
set_option linter.all false
set_option maxRecDepth 100000
set_option maxHeartbeats 1000000
/-! Ev6h: list comprehensions, the rule. Own work. -/
namespace Ev
open PySem PySem.Spec PyProof.Rows L2
section
variable {g : Gi} {Φ : Fns} {k : Nat} {ct : Ct} {X : Cx} {ρ ρ' ρ0 ρ1 ρ2 : En} {σ σ' σ0 σ1 σ2 : St} {H F H' F' H0 F0 H1 F1 H2 F2 : Hp} {W : WX} {Z : Ends}
theorem wipe_wipe {vs : List Nat} {σ : St} : wipe (wipe σ vs) vs = wipe σ vs := by
  have out : ∀ {us : List Nat} {τ : St} (ws : List Nat), (∀ i ∈ us, i ∈ ws) → wipe (wipe τ us) ws = wipe τ ws := by
    intro us
    induction us with
    | nil => intro τ ws _; rfl
    | cons u us ih =>
      intro τ ws h
      show wipe ((wipe τ us).set u none) ws = _
      rw [wipe_set (h u List.mem_cons_self)]
      exact ih ws fun i hi => h i (List.mem_cons_of_mem _ hi)
  exact out vs fun _ h => h
theorem back_at {vs : List Nat} {j : Nat} {a : Addr} (hl : ρ0.length = ρ.length) (hw : wipe σ' vs = wipe σ vs) (h : OwnAt (backE ρ0 ρ vs) σ j a) : OwnAt ρ0 σ j a ∨ OwnAt ρ σ' j a := by
  obtain ⟨s, h1, h2, h3⟩ := h
  by_cases hi : j ∈ vs
  · rw [backE_in hl hi] at h1
    exact .inl ⟨s, h1, h2, h3⟩
  · rw [backE_ne hi] at h1
    exact .inr ⟨s, h1, h2, by rw [← wipe_ne (σ := σ') hi, hw, wipe_ne hi]; exact h3⟩
theorem SI.goB {tg it : Expr} {ir : Wk} (h : SI g Φ k ct tg it ir) (xo : XOk g Φ k ct X) (S : Sim g ρ σ H F) (tk : Takes X W) {β : Type} {f : List D × List Vr → En → Rs β} {Ok : β → En → Hp → Hp → Prop} (G : GdR g ρ σ H F ((evI Φ ir ρ).bind f) Ok W) {R : It → Hp → Prop}
    (K : ∀ J p ρ1 H1 F1, Bh g ρ σ H F ρ1 σ H1 F1 → Held g (lockL ρ1 p.2) σ H1 F1 J p.1 → GdR g ρ σ H F (f p ρ1) Ok W → R J H1) : DI X tg it σ H R := by
  refine h X xo ρ σ H F S R W tk ?_
  cases he : evI Φ ir ρ with
  | ok r ρ1 => rw [he] at G; exact fun H' F' b J hv => K J r ρ1 H' F' b hv G
  | ex x ρ1 => rw [he] at G; exact G
  | err => rw [he] at G; exact G
def lcF (Φ : Fns) (ie : E) (is : List Nat) (its : Ts) (vs : List Nat) : D → En → Rs (Option D) := fun d ρ => match assignD is d (wipeE ρ vs) with
  | some ρ => (evTs Φ its ρ).bind fun b ρ => if b then (evE Φ ie ρ).bind fun x ρ => (keep ρ x).bind fun d ρ => .ok (some d) ρ else .ok none ρ
  | none => .err
theorem lcGo_ex {f : D → En → Rs (Option D)} : ∀ {rows : List D} {ρ ρ' : En} {x : D}, lcGo f rows ρ ≠ .ex x ρ'
  | [], _, _, _, h => by cases h
  | d :: ds, ρ, ρ', x, h => by
    unfold lcGo at h
    cases h1 : f d ρ with
    | ok r ρ1 =>
      rw [h1] at h
      have h : ((lcGo f ds ρ1).bind fun rs ρ => Rs.ok (match r with
        | some x => x :: rs
        | none => rs) ρ) = .ex x ρ' := h
      cases h2 : lcGo f ds ρ1 with
      | ok rs ρ2 => rw [h2] at h; cases h
      | ex y ρ2 => exact lcGo_ex h2
      | err => rw [h2] at h; cases h
    | ex y ρ1 => rw [h1] at h; cases h
    | err => rw [h1] at h; cases h
theorem calm_ok {α : Type} {r : Rs α} {a : α} {ρ : En} (h : r.calm = .ok a ρ) : r = .ok a ρ := by
  cases r with
  | ok b ρ1 => exact h
  | ex x ρ1 => cases h
  | err => cases h
/-- the tests of a clause: none or one -/
inductive STs (g : Gi) (Φ : Fns) (k : Nat) (ct : Ct) : List Expr → Ts → Prop
  | nil : STs g Φ k ct [] .nil
  | one {c : Expr} {t : T} : ST g Φ k ct c t → STs g Φ k ct [c] (.cons t .nil)
def gW (X : Cx) (scope : Scope) (tg : Expr) : TG := fun v σ H Q => ∀ s0 H0 C cl fp, DG (X.blk s0 H0 scope (compEnvC scope cl C X.env) fp) tg v σ H Q
def tW (X : Cx) (scope : Scope) : List Expr → TT
  | [] => tYes
  | c :: _ => fun σ H Q => ∀ s0 H0 C cl fp, DT (X.blk s0 H0 scope (compEnvC scope cl C X.env) fp) c σ H Q
def eW (X : Cx) (scope : Scope) (e : Expr) : TE := fun σ H Q => ∀ s0 H0 C cl fp, DE (X.blk s0 H0 scope (compEnvC scope cl C X.env) fp) e σ H Q
theorem tests_go {scope : Scope} {ifs : List Expr} {its : Ts} {b : Bool} (xo : XOk g Φ k ct X) (h : STs g Φ k (blkC ct scope) ifs its) (S : Sim g ρ σ H F) (he : evTs Φ its ρ = .ok b ρ1) {R : Bool → Hp → Prop} (K : ∀ H' F', Bh g ρ σ H F ρ1 σ H' F' → R b H') : tW X scope ifs σ H R := by
  cases h with
  | nil =>
    cases he
    exact K H F (Bh.refl S)
  | one h =>
    intro s0 H0 C cl fp
    refine h _ (blk_ok xo) ρ σ H F S R (fun _ _ _ _ => False) takes0 ?_
    unfold evTs at he
    obtain ⟨c, ρ2, h1, h2⟩ := bind_ok he
    have e2 : b = c ∧ ρ1 = ρ2 := by
      cases c with
      | true => cases h2; exact ⟨rfl, rfl⟩
      | false => cases h2; exact ⟨rfl, rfl⟩
    obtain ⟨rfl, rfl⟩ := e2
    rw [h1]
    exact fun H' F' b' => K H' F' b'
/-- what no slot owns stays -/
theorem side_keep {L : Addr} {o : HO} (b : Bh g ρ σ H F ρ1 σ H1 F1) (hD : H L = some o) (fD : F L = none) (no : ¬ OwnL ρ σ L) : H1 L = some o ∧ F1 L = none ∧ ¬ OwnL ρ1 σ L := by
  refine ⟨b.stp.mod L o hD fun z => no z.l, Classical.byContradiction fun q => ?_, fun z => ?_⟩
  · rcases b.stp.fzn L q with z | z | z
    · exact z fD
    · rw [z] at hD; cases hD
    · exact no z
  · rcases b.stp.ownl L z with z | z
    · exact no z
    · rw [z] at hD; cases hD
theorem lc_go {tg iter elt : Expr} {ifs : List Expr} {scope : Scope} {is vs : List Nat} {iw : Wk} {its : Ts} {ie : E} {Q : VK} (xo : XOk g Φ k ct X) (S : Sim g ρ σ H F) (tk : Takes X W) (hi : SI g Φ k ct tg iter iw) (htg : SG g Φ k (blkC ct scope) tg is) (hts : STs g Φ k (blkC ct scope) ifs its)
    (he : SE g Φ k (blkC ct scope) elt ie) (hsub : ∀ i ∈ is, i ∈ vs) (G : GdR g ρ σ H F (evE Φ (.lc ie is iw its vs) ρ) (OkE g σ H Q) W) : tLc (DI X tg iter) (gW X scope tg) (tW X scope ifs) (eW X scope elt) vs σ H Q := by
  refine hi.goB xo S tk G fun J p ρ1 H1 F1 b held G1 => ?_
  obtain ⟨rows, r⟩ := p
  have held : Held g (lockL ρ1 r) σ H1 F1 J rows := held
  have G1 : GdR g ρ σ H F ((lcGo (lcF Φ ie is its vs) rows (wipeE (lockL ρ1 r) vs)).bind fun ds ρ => if ds.length ≤ LIM then .ok (.o (.lst ds)) (unlockL ρ1 (backE (lockL ρ1 r) ρ vs) r) else .err) (OkE g σ H Q) W := G1
  cases hrun : lcGo (lcF Φ ie is its vs) rows (wipeE (lockL ρ1 r) vs) with
  | ex x ρe => exact absurd hrun lcGo_ex
  | err => rw [hrun] at G1; exact G1.elim
  | ok ds ρe =>
  rw [hrun] at G1
  have G2 : GdR g ρ σ H F (if ds.length ≤ LIM then .ok (.o (.lst ds)) (unlockL ρ1 (backE (lockL ρ1 r) ρe vs) r) else .err) (OkE g σ H Q) W := G1
  by_cases hlen : ds.length ≤ LIM
  case neg => rw [if_neg hlen] at G2; exact G2.elim
  rw [if_pos hlen] at G2
  intro D hD
  have SL : Sim g (lockL ρ1 r) σ H1 F1 := (lockL_bh b.sim).sim
  have bwp := wipe_bs (ct := ct) (sc := scope) (vs := vs) SL
  have noW : ¬ OwnL (wipeE (lockL ρ1 r) vs) (wipe σ vs) D := fun z => (bwp.sim.ownL z).1 hD
  have bw := lay_bs (o := .lst []) (Bs.refl (ct := blkC ct scope) bwp.sim) hD (free_of SL.sub hD) noW
  refine ⟨fun i m H' => m = rows.length - i ∧ i ≤ rows.length ∧ ∃ ρ' σ' F' acc xs, Bs g (blkC ct scope) (wipeE (lockL ρ1 r) vs) (wipe σ vs) H1 F1 ρ' σ' H' F' ∧ wipe σ' vs = wipe σ vs ∧ H' D = some (.lst xs) ∧ RDs g F' xs acc ∧ F' D = none ∧ ¬ OwnL ρ' σ' D ∧
    (∀ j, j ∉ vs → ((lockL ρ1 r).get j).isSome = true → (ρ'.get j).isSome = true) ∧ ∃ rest, lcGo (lcF Φ ie is its vs) (rows.drop i) ρ' = .ok rest ρe ∧ ds = acc ++ rest, ⟨rows.length, by omega, by omega, wipeE (lockL ρ1 r) vs, wipe σ vs, F1, [], [], bw, wipe_wipe, upd_same, .nil, free_of SL.sub hD, noW,
    fun j hj h => by rw [wipeE_ne hj]; exact h, ds, hrun, rfl⟩, ?_⟩
  rintro i m H' ⟨hm, hile, ρ', σ', F', acc, xs, bc, hw, hxs, rds, fD, no, kp, rest, hrest, hds⟩
  have held' := held.step (bwp.trans bc).stp
  obtain ⟨ht1, ht2⟩ := held'.turn bc.sim i
  by_cases hlt : i < rows.length
  · refine .inr ?_
    have hd : rows[i]? = some rows[i] := List.getElem?_eq_getElem hlt
    obtain ⟨hgo, hy⟩ := ht2 _ hd
    refine ⟨hgo, _, fun _ h => h, fun x H'' hx => ?_⟩
    obtain ⟨F'', b0, rd⟩ := hy x H'' hx
    obtain ⟨hxs, fD, no⟩ := side_keep b0 hxs fD no
    have bc := bc.trans b0.s
    have rds := rds.mono b0.stp.fzs
    rw [List.drop_eq_getElem_cons hlt] at hrest
    unfold lcGo at hrest
    obtain ⟨ro, ρ2, h1, h2⟩ := bind_ok hrest
    obtain ⟨rs, ρ2', h3, h4⟩ := bind_ok h2
    have h1 := calm_ok h1
    injection h4 with h4 h5
    subst h5
    unfold lcF at h1
    cases ha : assignD is rows[i] (wipeE ρ' vs) with
    | none => rw [ha] at h1; cases h1
    | some ρ3 =>
    rw [ha] at h1
    obtain ⟨bt, ρ4, ht, h5⟩ := bind_ok h1
    have bwc := wipe_bs (ct := ct) (sc := scope) (vs := vs) bc.sim
    rw [hw] at bwc
    have nowc : ¬ OwnL (wipeE ρ' vs) (wipe σ vs) D := fun z => by
      rcases bwc.stp.ownl D z with z | z
      · exact no z
      · rw [z] at hxs; cases hxs
    have kpw : ∀ j, j ∉ vs → ((lockL ρ1 r).get j).isSome = true → ((wipeE ρ' vs).get j).isSome = true := fun j hj h => by rw [wipeE_ne hj]; exact kp j hj h
    intro s0 H00 C cl fp
    refine htg _ (blk_ok xo) _ _ _ _ _ _ _ _ (Bs.refl bwc.sim) x _ ρ3 rd ha _ fun σ2 b3 hw2 => ⟨(hw2 vs hsub).trans wipe_wipe, ?_⟩
    have no3 : ¬ OwnL ρ3 σ2 D := fun z => by
      rcases b3.stp.ownl D z with z | z
      · exact nowc z
      · rw [z] at hxs; cases hxs
    have hw3 : wipe σ2 vs = wipe σ vs := (hw2 vs hsub).trans wipe_wipe
    have bb3 := (bc.trans bwc).trans b3
    have kp3 := assignD_kp ha
    refine tests_go xo hts b3.sim ht fun H4 F4 b4 => ?_
    obtain ⟨d1, d2, d3⟩ := side_keep b4 hxs fD no3
    cases bt with
    | false =>
      rw [if_neg (by decide)] at h5 ⊢
      cases h5
      refine ⟨rows.length - (i + 1), by omega, rfl, by omega, ρ2, σ2, F4, acc, xs, bb3.trans b4.s, hw3, d1, rds.mono b4.stp.fzs, d2, d3, fun j hj h => b4.kp j (kp3 j (kpw j hj h)), rs, h3, ?_⟩
      rw [hds, ← h4]
    | true =>
      rw [if_pos rfl] at h5 ⊢
      obtain ⟨x', ρ5, h6, h7⟩ := bind_ok h5
      obtain ⟨d', ρ6, h8, h9⟩ := bind_ok h7
      cases h9
      intro s0 H00 C cl fp
      refine he _ (blk_ok xo) ρ4 σ2 H4 F4 b4.sim _ (fun _ _ _ _ => False) takes0 ?_
      rw [h6]
      intro H5 F5 b5 v hv
      obtain ⟨F6, b6, rdv, _, _⟩ := keep_bh b5 hv h8
      obtain ⟨e1, e2, e3⟩ := side_keep b6 d1 d2 d3
      have hds' : ds = acc ++ (d' :: rs) := by rw [hds, ← h4]
      have hacc : acc.length < LIM := by
        have := congrArg List.length hds'
        rw [List.length_append, List.length_cons] at this
        omega
      refine ⟨xs, e1, by rw [rds.length, ← LIM_eq]; exact hacc, rows.length - (i + 1), by omega, rfl, by omega, ρ2, σ2, F6, acc ++ [d'], xs ++ [v], lay_bs ((bb3.trans b4.s).trans b6.s) hD e2 e3, hw3, upd_same, ?_, e2, e3, fun j hj h => b6.kp j (b4.kp j (kp3 j (kpw j hj h))), rs, h3, ?_⟩
      · exact ((rds.mono b4.stp.fzs).mono b6.stp.fzs).append (.cons rdv .nil)
      · rw [hds', List.append_assoc] <;> rfl
  · refine .inl ⟨ht1 (by omega), ?_⟩
    rw [List.drop_eq_nil_of_le (by omega)] at hrest
    cases hrest
    rw [List.append_nil] at hds
    subst hds
    have bb := back_bs SL bc hw
    have bu := unlockL_bs b.s bb
    have hl : (lockL ρ1 r).length = ρe.length := by
      rw [bc.sim.len, ← wipe_length σ' vs, hw, wipe_length, SL.len]
    have kpu : Keeps ρ (unlockL ρ1 (backE (lockL ρ1 r) ρe vs) r) := fun j hj => by
      have h1 := (lockL_bh (rs := r) b.sim).kp j (b.kp j hj)
      have h2 : ((backE (lockL ρ1 r) ρe vs).get j).isSome = true := by
        by_cases hv : j ∈ vs
        · rw [backE_in hl hv]; exact h1
        · rw [backE_ne hv]; exact kp j hv h1
      exact unlockL_some h2
    refine G2 H' F' ⟨bu.sim, bu.stp, kpu, bu.pv⟩ (.ref D) ⟨D, rfl, none_back b.stp.live hD, fD, .inl ⟨xs, ds, rfl, hxs, rds⟩, fun ⟨j, z⟩ => ?_⟩
    rcases back_at hl hw (unlockL_at z) with z | z
    · exact (SL.ownL ⟨j, z⟩).1 hD
    · exact no ⟨j, z⟩
end
end Ev

set_option Elab.async false
set_option linter.all false
set_option maxRecDepth 100000
set_option maxHeartbeats 1000000
/-! Ev6i: list comprehensions as values and stored. Own work. -/
namespace Ev
open PySem PySem.Spec PyProof.Rows L2
section
variable {g : Gi} {Φ : Fns} {k : Nat} {ct : Ct} {X : Cx} {ρ ρ' ρ0 ρ1 ρ2 : En} {σ σ' σ0 σ1 σ2 : St} {H F H' F' H0 F0 H1 F1 H2 F2 : Hp} {W : WX} {Z : Ends}
def blkB (ct : Ct) (scope : Scope) (own : List (Str × Nat)) : Bool :=
  (scope.kind == .function) && (scope.names.all fun y => decide (scope.names.lookup y.1 = some y.2)) && (own.all fun p => decide (ct.N[p.2]? = some p.1)) &&
  (scope.names.all fun y => y.2 != .free || (ct.sc.names.lookup y.1 == some .cell || ct.sc.names.lookup y.1 == some .free)) &&
  (scope.names.all fun y => !(y.2 == .local || y.2 == .cell) || ((own.map (·.1)).contains y.1 || !ct.N.contains y.1))
theorem blkB_ok {scope : Scope} {own : List (Str × Nat)} (xo : XOk g Φ k ct X) (h : blkB ct scope own = true) : BlkOk X.N X.env.scope scope own := by
  unfold blkB at h
  rw [Bool.and_eq_true, Bool.and_eq_true, Bool.and_eq_true, Bool.and_eq_true, List.all_eq_true, List.all_eq_true, List.all_eq_true, List.all_eq_true] at h
  obtain ⟨⟨⟨⟨h1, h2⟩, h3⟩, h4⟩, h5⟩ := h
  rw [xo.N, xo.sc]
  refine ⟨by simpa using h1, fun y hy => of_decide_eq_true (h2 y hy), fun p hp => of_decide_eq_true (h3 p hp), fun y hy e => ?_, fun y hy e => ?_⟩
  · have := h4 y hy
    rw [e] at this
    simpa using this
  · have := h5 y hy
    rw [Bool.or_eq_true] at this
    rcases this with z | z
    · exfalso
      rcases e with e | e <;> rw [e] at z <;> simp at z
    · simpa using z
theorem pg_W {scope : Scope} {tg : Expr} (s : Shared) (H : Hp) (C : Addr) (cl : List (Str × Addr)) (fp : List Addr) : PG (X.blk s H scope (compEnvC scope cl C X.env) fp) tg (gW X scope tg) := ⟨fun pins s σ H v u Q I r h => h _ _ _ _ _ pins s u I r⟩
theorem pe_W {scope : Scope} {e : Expr} (s : Shared) (H : Hp) (C : Addr) (cl : List (Str × Addr)) (fp : List Addr) : PE (X.blk s H scope (compEnvC scope cl C X.env) fp) e (eW X scope e) := ⟨fun pins s σ H Q I h => h _ _ _ _ _ pins s I⟩
theorem pt_W {scope : Scope} {ifs : List Expr} {its : Ts} {c' : Ct} (hts : STs g Φ k c' ifs its) (s : Shared) (H : Hp) (C : Addr) (cl : List (Str × Addr)) (fp : List Addr) : PTs (X.blk s H scope (compEnvC scope cl C X.env) fp) ifs (tW X scope ifs) := by
  cases hts with
  | nil => exact pts_nil
  | one h => exact pts_one ⟨fun pins s σ H Q I h => h _ _ _ _ _ pins s I⟩
theorem se_lc {tg iter elt : Expr} {ifs : List Expr} {scope : Scope} {own : List (Str × Nat)} {is : List Nat} {iw : Wk} {its : Ts} {ie : E} {pos : Pos} (hc : ct.calm = true) (hs : nset iter = true) (hb : blkB ct scope own = true) (hi : SI g Φ k ct tg iter iw) (htg : SG g Φ k (blkC ct scope) tg is) (hts : STs g Φ k (blkC ct scope) ifs its)
    (he : SE g Φ k (blkC ct scope) elt ie) (hsub : is.all (fun i => (own.map (·.2)).contains i) = true) : SE g Φ k ct (.ListComp elt [⟨tg, iter, ifs, 0⟩] scope pos) (.lc ie is iw its (own.map (·.2))) := by
  intro X xo ρ σ H F S Q W tk G
  have hsub : ∀ i ∈ is, i ∈ own.map (·.2) := fun i hi => by
    rw [List.all_eq_true] at hsub
    simpa using hsub i hi
  exact PE.d (pe_lc (xo.rm.calm.trans hc) xo.nd pi_D (blkB_ok xo hb) pg_W (pt_W hts) pe_W (nset_ok hs)) (lc_go xo S tk hi htg hts he hsub G)
def swB (sc scope : Scope) (y : Str) (py pos : Pos) : Bool := sc.names.lookup y == some .local && py.line == pos.line && !(scope.names.any fun (n, k) => n == y && (k == .local || k == .cell))
theorem swB_eq {elt : Expr} {gs : List Comprehension} {scope : Scope} {pos py : Pos} {y : Str} {l : Nat} {env : Env} (hk : env.scope.kind = .function) : swapsWith (.ListComp elt gs scope pos) (some (.Name y py)) l env = pure (swB env.scope scope y py pos) := by
  have hb : env.blockKind = .function := by unfold Env.blockKind; rw [hk] <;> rfl
  have hk2 : env.kindOf y = env.scope.names.lookup y := rfl
  unfold swapsWith swB
  simp only [hb, hk2, Expr.pos]
  rfl
theorem ss_setLc {y : Str} {i : Nat} {py spos : Pos} {tg iter elt : Expr} {ifs : List Expr} {scope : Scope} {own : List (Str × Nat)} {is : List Nat} {iw : Wk} {its : Ts} {ie : E} {pos : Pos} (hc : ct.calm = true) (hs : nset iter = true) (hb : blkB ct scope own = true) (hi : SI g Φ k ct tg iter iw) (htg : SG g Φ k (blkC ct scope) tg is) (hts : STs g Φ k (blkC ct scope) ifs its)
    (he : SE g Φ k (blkC ct scope) elt ie) (hsub : is.all (fun i => (own.map (·.2)).contains i) = true) (hN : ct.N[i]? = some y) (hl : locB ct y = true) (hsb : setB ct i = true) :
    SS g Φ k ct (.Assign [.Name y py] (.ListComp elt [⟨tg, iter, ifs, 0⟩] scope pos) spos) (.set i (.lc ie is iw its (own.map (·.2)))) := by
  intro X xo ρ σ H F S Z W tk G pins s I
  have hsub' : ∀ i ∈ is, i ∈ own.map (·.2) := fun i hi => by
    rw [List.all_eq_true] at hsub
    simpa using hsub i hi
  have hsw := swB_eq (elt := elt) (gs := [⟨tg, iter, ifs, 0⟩]) (scope := scope) (pos := pos) (py := py) (y := y) (l := spos.line) (env := X.env) I.ok.kind
  rw [xo.sc] at hsw
  have fin : ∀ v r ρ1 H1 F1, Bh g ρ σ H F ρ1 σ H1 F1 → VrRel g ρ1 σ H1 F1 H v r → GdS g ct ρ σ H F ((storeR i r ρ1).bind fun _ ρ => .ok .nx ρ) Z W → Z.nx (σ.set i (some v)) H1 := fun v r ρ1 H1 F1 b q G1 => by
    cases hst : storeR i r ρ1 with
    | ok u ρ2 =>
      rw [hst] at G1
      obtain ⟨F2, b2⟩ := store_bs b hsb q hst
      exact GdS.now (W := W) (Z := Z) (c := .nx) G1 b2
    | ex x ρ2 =>
      exfalso
      unfold storeR at hst
      split at hst
      · cases r with
        | v d => cases hst
        | o d => cases hst
        | s j =>
          dsimp only at hst
          rw [keep_s] at hst
          cases hg : ρ1.get j with
          | none => rw [hg] at hst; cases hst
          | some s => rw [hg] at hst; cases hst
      · cases hst
    | err => rw [hst] at G1; exact G1.elim
  have G' : GdS g ct ρ σ H F ((evE Φ (.lc ie is iw its (own.map (·.2))) ρ).bind fun x ρ => (storeR i x ρ).bind fun _ ρ => .ok .nx ρ) Z W := G
  cases hB : swB ct.sc scope y py pos with
  | true =>
    rw [hB] at hsw
    have hyl : ct.sc.names.lookup y = some .local := by
      unfold swB at hB
      rw [Bool.and_eq_true, Bool.and_eq_true] at hB
      simpa using hB.1.1
    refine PS.d (ps_setLc (xo.rm.calm.trans hc) xo.nd (by rw [xo.N]; exact hN) (by rw [xo.sc]; exact hyl) hsw pi_D (blkB_ok xo hb) pg_W (pt_W hts) pe_W (nset_ok hs)) ?_ pins s I
    refine lc_go xo S tk hi htg hts he hsub' ?_
    cases hev : evE Φ (.lc ie is iw its (own.map (·.2))) ρ with
    | ok r ρ1 =>
      rw [hev] at G'
      exact fun H' F' b v hv => fin v r ρ1 H' F' b hv G'
    | ex x ρ1 => rw [hev] at G'; exact fun cls d H' F' b q => G' σ cls d H' F' b.s q
    | err => rw [hev] at G'; exact G'.elim
  | false =>
    rw [hB] at hsw
    refine PS.d (ps_set xo.nd (by rw [xo.N]; exact hN) (by rw [xo.sc]; exact locB_ok hl) pe_D hsw (locB_fn xo hl)) ?_ pins s I
    exact (se_lc hc hs hb hi htg hts he hsub).goS xo S tk G' fin
end
end Ev

set_option Elab.async false
set_option linter.all false
set_option maxRecDepth 100000
set_option maxHeartbeats 1000000
/-! Ev6j: while. Own work. -/
namespace Ev
open PySem PySem.Spec PyProof.Rows L2
section
variable {g : Gi} {Φ : Fns} {k : Nat} {ct : Ct} {X : Cx} {ρ ρ' ρ0 ρ1 ρ2 : En} {σ σ' σ0 σ1 σ2 : St} {H F H' F' H0 F0 H1 F1 H2 F2 : Hp} {W : WX} {Z : Ends}
theorem ss_while {c : Expr} {ic : T} {body : List Stmt} {ib : Ss} {pos : Pos} (ht : ct.top = true) (h1 : ST g Φ k ct c ic) (h2 : SSs g Φ k ct body ib) : SS g Φ k ct (.While c body [] pos) (.while ic ib) := by
  intro X xo ρ σ H F S Z W tk G
  refine PS.d (ps_while (xo.po ht) pt_D pss_D) ?_
  refine ⟨fun m σ' H' => ∃ ρ' F', Bs g ct ρ σ H F ρ' σ' H' F' ∧ GdS g ct ρ σ H F (whGo (evT Φ ic) (evSs Φ ct.np ib) m ρ') Z W, ⟨FUEL, ρ, F, Bs.refl S, G⟩, ?_⟩
  rintro m σ1 H1 ⟨ρ1, F1, b, G1⟩
  cases m with
  | zero => exact G1.elim
  | succ m =>
    unfold whGo at G1
    refine h1 X xo ρ1 σ1 H1 F1 b.sim _ W tk ?_
    cases he : evT Φ ic ρ1 with
    | err => rw [he] at G1; exact G1.elim
    | ex x ρ2 =>
      rw [he] at G1
      exact fun cls d H2 F2 b2 q => G1 σ1 cls d H2 F2 (b.trans b2.s) q
    | ok cb ρ2 =>
      rw [he] at G1
      intro H2 F2 b2
      have b3 := b.trans b2.s (ct := ct)
      cases cb with
      | false => exact GdS.now (W := W) (Z := Z) (c := .nx) G1 b3
      | true =>
        have goal : ∃ N : St → Hp → Prop, (∀ σ' H', N σ' H' → ∃ m', m' < m + 1 ∧ ∃ ρ' F', Bs g ct ρ σ H F ρ' σ' H' F' ∧ GdS g ct ρ σ H F (whGo (evT Φ ic) (evSs Φ ct.np ib) m' ρ') Z W) ∧ DSs X body { Z with nx := N, ct := N, bk := Z.nx } σ1 H2 := by
          have G2 : GdS g ct ρ σ H F ((evSs Φ ct.np ib ρ2).bind fun r ρ => (match r with
            | .nx => whGo (evT Φ ic) (evSs Φ ct.np ib) m ρ
            | .ct => whGo (evT Φ ic) (evSs Φ ct.np ib) m ρ
            | .br => .ok .nx ρ
            | .rt o d => .ok (.rt o d) ρ)) Z W := G1
          refine ⟨fun σ' H' => ∃ m', m' < m + 1 ∧ ∃ ρ' F', Bs g ct ρ σ H F ρ' σ' H' F' ∧ GdS g ct ρ σ H F (whGo (evT Φ ic) (evSs Φ ct.np ib) m' ρ') Z W, fun _ _ h => h, ?_⟩
          refine h2 X xo ρ2 σ1 H2 F2 b2.sim _ W tk ?_
          cases he2 : evSs Φ ct.np ib ρ2 with
          | err => rw [he2] at G2; exact G2.elim
          | ex x ρ3 =>
            rw [he2] at G2
            exact fun σ3 cls d H3 F3 b4 q => G2 σ3 cls d H3 F3 (b3.trans b4) q
          | ok c ρ3 =>
            rw [he2] at G2
            intro σ3 H3 F3 b4
            have b5 := b3.trans b4
            cases c with
            | nx => exact ⟨m, by omega, ρ3, F3, b5, G2⟩
            | ct => exact ⟨m, by omega, ρ3, F3, b5, G2⟩
            | br => exact GdS.now (W := W) (Z := Z) (c := .nx) G2 b5
            | rt o d =>
              have e := GdS.now (W := W) (Z := Z) (c := .rt o d) G2 b5
              exact fun v hv => e v (RtRel.before hv b3.pv b3.stp.live)
        unfold OkT
        simp only [if_true]
        exact goal
end
end Ev

set_option Elab.async false
set_option linter.all false
set_option maxRecDepth 100000
set_option maxHeartbeats 1000000
/-! Ev7: a def keeps what the evaluator says. Own work. -/
namespace Ev
open PySem PySem.Spec PyProof.Rows L2
section
variable {g : Gi} {Φ : Fns} {k : Nat} {ct : Ct} {X : Cx} {ρ ρ' ρ0 ρ1 ρ2 : En} {σ σ' σ0 σ1 σ2 : St} {H F H' F' H0 F0 H1 F1 H2 F2 : Hp} {W : WX} {Z : Ends}
theorem frzAt_len {l : List Sl} : ∀ {js : List Nat}, (frzAt js l).length = l.length
  | [] => rfl
  | j :: js => by
    unfold frzAt
    split
    · rw [List.length_set, frzAt_len]
    · exact frzAt_len
theorem frzAt_d {l : List Sl} {i : Nat} {s : Sl} (h : l[i]? = some s) : ∀ {js : List Nat}, ∃ t, (frzAt js l)[i]? = some t ∧ t.d = s.d ∧ (t.m = s.m ∨ t.m = .fz)
  | [] => ⟨s, h, rfl, .inl rfl⟩
  | j :: js => by
    obtain ⟨t, t1, t2, t3⟩ := frzAt_d h (js := js)
    unfold frzAt
    split
    · rename_i u hu
      by_cases hij : j = i
      · subst hij
        rw [h] at hu
        cases hu
        refine ⟨⟨.fz, s.d⟩, ?_, rfl, .inr rfl⟩
        rw [List.getElem?_set_self (by rw [frzAt_len]; exact (List.getElem?_eq_some_iff.mp h).1)]
      · exact ⟨t, by rw [List.getElem?_set_ne hij]; exact t1, t2, t3⟩
    · exact ⟨t, t1, t2, t3⟩
theorem frzAt_fz {l : List Sl} {i : Nat} {s : Sl} : ∀ {js : List Nat}, i ∈ js → (frzAt js l)[i]? = some s → s.m = .fz
  | [], h, _ => by cases h
  | j :: js, h, e => by
    unfold frzAt at e
    by_cases hij : j = i
    · subst hij
      split at e
      · rename_i u hu
        rw [List.getElem?_set_self (by rw [frzAt_len]; exact (List.getElem?_eq_some_iff.mp hu).1)] at e
        cases e
        rfl
      · rename_i hu
        rw [List.getElem?_eq_none_iff] at hu
        rw [List.getElem?_eq_none (by rw [frzAt_len]; exact hu)] at e
        cases e
    · have hi : i ∈ js := by
        rcases List.mem_cons.mp h with h | h
        · exact absurd h.symm hij
        · exact h
      split at e
      · rw [List.getElem?_set_ne hij] at e
        exact frzAt_fz hi e
      · exact frzAt_fz hi e
theorem map_set {l : List Sl} {i : Nat} {s : Sl} : (l.set i s).map some = (l.map some).set i (some s) := by
  rw [List.map_set]
theorem frzAt_bh {as : List Sl} : ∀ {js : List Nat}, Sim g (as.map some) σ H F → ∃ F', Bh g (as.map some) σ H F ((frzAt js as).map some) σ H F'
  | [], S => ⟨F, Bh.refl S⟩
  | j :: js, S => by
    obtain ⟨F1, b⟩ := frzAt_bh (js := js) S
    unfold frzAt
    split
    · rename_i s hs
      obtain ⟨t, t1, t2, _⟩ := frzAt_d hs (js := js)
      obtain ⟨F2, b2, _⟩ := frz_bh b (i := j) (s := t) (by rw [get_map]; exact t1)
      refine ⟨F2, ?_⟩
      rw [map_set, ← t2]
      exact b2
    · exact ⟨F1, b⟩
/-! ### the frame ahead of the body, behind it -/
theorem ext_get {l : List Sl} {m i : Nat} : En.get (l.map some ++ List.replicate m none) i = l[i]? := by
  unfold En.get
  by_cases h : i < l.length
  · rw [List.getElem?_append_left (by rw [List.length_map]; exact h), List.getElem?_map]
    cases l[i]? <;> rfl
  · rw [List.getElem?_append_right (by rw [List.length_map]; omega), List.getElem?_replicate, List.getElem?_eq_none (by omega : l.length ≤ i)]
    by_cases hm : i - (l.map some).length < m
    · rw [if_pos hm]
    · rw [if_neg hm]
theorem ext_at {vs : List V} {m i : Nat} {v : V} (h : i < vs.length) : (vs.map some ++ List.replicate m none)[i]? = some (some v) ↔ vs[i]? = some v := by
  rw [List.getElem?_append_left (by rw [List.length_map]; exact h)]
  exact map_at _ _ _
theorem ext_sim {as : List Sl} {vs : List V} {m : Nat} (S : Sim g (as.map some) (vs.map some) H F) : Sim g (as.map some ++ List.replicate m none) (vs.map some ++ List.replicate m none) H F := by
  have hl : as.length = vs.length := by have := S.len; rwa [List.length_map, List.length_map] at this
  have lt : ∀ i s, as[i]? = some s → i < vs.length := fun i s h => by rw [← hl]; exact (List.getElem?_eq_some_iff.mp h).1
  refine ⟨by simp [hl], S.sub, fun i s h => ?_, fun i j s t a h1 h2 m1 m2 v1 v2 => ?_⟩
  · rw [ext_get] at h
    obtain ⟨v, e, q⟩ := S.val i s (by rw [get_map]; exact h)
    exact ⟨v, (ext_at (lt i s h)).mpr ((map_at _ _ _).mp e), q⟩
  · rw [ext_get] at h1 h2
    rw [ext_at (lt i s h1)] at v1
    rw [ext_at (lt j t h2)] at v2
    exact S.sep i j s t a (by rw [get_map]; exact h1) (by rw [get_map]; exact h2) m1 m2 ((map_at _ _ _).mpr v1) ((map_at _ _ _).mpr v2)
theorem allSome_at : ∀ {l : List (Option Sl)} {outs : List Sl}, allSome l = some outs → outs.length = l.length ∧ ∀ (i : Nat) s, outs[i]? = some s → l[i]? = some (some s)
  | [], outs, h => by cases h; exact ⟨rfl, fun i s h => by simp at h⟩
  | some a :: r, outs, h => by
    unfold allSome at h
    split at h
    · rename_i l e
      cases h
      obtain ⟨h1, h2⟩ := allSome_at e
      refine ⟨by rw [List.length_cons, List.length_cons, h1], fun i s hs => ?_⟩
      cases i with
      | zero => cases hs; rfl
      | succ i => exact h2 i s (by simpa using hs)
    · cases h
  | none :: r, outs, h => by cases h
theorem backAt_len {l0 l : List Sl} : ∀ {js : List Nat}, (backAt l0 js l).length = l.length
  | [] => rfl
  | j :: js => by
    unfold backAt
    split
    · rw [List.length_set, backAt_len]
    · exact backAt_len
theorem backAt_at {l0 l : List Sl} (hl : l0.length = l.length) {i : Nat} {s : Sl} : ∀ {js : List Nat}, (backAt l0 js l)[i]? = some s → (i ∈ js ∧ l0[i]? = some s) ∨ (i ∉ js ∧ l[i]? = some s)
  | [], h => .inr ⟨(fun z => by cases z), h⟩
  | j :: js, h => by
    unfold backAt at h
    split at h
    · rename_i u hu
      by_cases hij : j = i
      · subst hij
        rw [List.getElem?_set_self (by rw [backAt_len, ← hl]; exact (List.getElem?_eq_some_iff.mp hu).1)] at h
        cases h
        exact .inl ⟨List.mem_cons_self, hu⟩
      · rw [List.getElem?_set_ne hij] at h
        rcases backAt_at hl h with ⟨z1, z2⟩ | ⟨z1, z2⟩
        · exact .inl ⟨List.mem_cons_of_mem _ z1, z2⟩
        · refine .inr ⟨fun z => ?_, z2⟩
          rcases List.mem_cons.mp z with z | z
          · exact hij z.symm
          · exact z1 z
    · rename_i hu
      rcases backAt_at hl h with ⟨z1, z2⟩ | ⟨z1, z2⟩
      · exact .inl ⟨List.mem_cons_of_mem _ z1, z2⟩
      · refine .inr ⟨fun z => ?_, z2⟩
        rcases List.mem_cons.mp z with z | z
        · subst z
          rw [List.getElem?_eq_none_iff] at hu
          have := (List.getElem?_eq_some_iff.mp z2).1
          omega
        · exact z1 z
theorem ret_bh {as outs : List Sl} {vs : List V} {m : Nat} (S : Sim g (as.map some) (vs.map some) H F) (hfz : ∀ i ∈ ct.reb, ∀ s, as[i]? = some s → s.m = .fz) (hnp : ct.np = vs.length) (b : Bs g ct (as.map some ++ List.replicate m none) (vs.map some ++ List.replicate m none) H F ρ' σ' H' F') (ho : allSome (ρ'.take ct.np) = some outs) (hol : outs.length = ct.np) :
    Bh g (as.map some) (vs.map some) H F ((backAt as ct.reb outs).map some) (vs.map some) H' F' ∧ (∀ j a, OwnAt ((backAt as ct.reb outs).map some) (vs.map some) j a → j < ct.np ∧ OwnAt ρ' σ' j a) ∧ (backAt as ct.reb outs).length = vs.length := by
  have hl : as.length = vs.length := by have := S.len; rwa [List.length_map, List.length_map] at this
  obtain ⟨ol, oat⟩ := allSome_at ho
  have outl : outs.length = vs.length := by rw [hol, hnp]
  have outg : ∀ i s, outs[i]? = some s → i < ct.np ∧ ρ'.get i = some s := fun i s h => by
    have := oat i s h
    have hi : i < ct.np := by rw [hnp, ← outl]; exact (List.getElem?_eq_some_iff.mp h).1
    rw [List.getElem?_take_of_lt hi] at this
    exact ⟨hi, by unfold En.get; rw [this]⟩
  have keyv : ∀ i v, i < ct.np → i ∉ ct.reb → (σ'[i]? = some (some v) ↔ vs[i]? = some v) := fun i v h1 h2 => by
    rw [b.fx i h1 h2]
    exact ext_at (by rw [← hnp]; exact h1)
  have side : ∀ i s, (backAt as ct.reb outs)[i]? = some s → (i ∈ ct.reb ∧ as[i]? = some s ∧ s.m = .fz) ∨ (i ∉ ct.reb ∧ i < ct.np ∧ ρ'.get i = some s) := fun i s h => by
    rcases backAt_at (by rw [hl, outl]) h with ⟨h1, h2⟩ | ⟨h1, h2⟩
    · exact .inl ⟨h1, h2, hfz i h1 s h2⟩
    · obtain ⟨q1, q2⟩ := outg i s h2
      exact .inr ⟨h1, q1, q2⟩
  have at_ : ∀ j a, OwnAt ((backAt as ct.reb outs).map some) (vs.map some) j a → j < ct.np ∧ OwnAt ρ' σ' j a := fun j a ⟨s, h1, h2, h3⟩ => by
    rw [get_map] at h1
    rcases side j s h1 with ⟨_, _, z⟩ | ⟨n, lt, e⟩
    · exact absurd z h2
    · exact ⟨lt, s, e, h2, (keyv j _ lt n).mpr ((map_at _ _ _).mp h3)⟩
  have atm : ∀ j a, OwnM ((backAt as ct.reb outs).map some) (vs.map some) j a → OwnM ρ' σ' j a := fun j a ⟨s, h1, h2, h3⟩ => by
    rw [get_map] at h1
    rcases side j s h1 with ⟨_, _, z⟩ | ⟨n, lt, e⟩
    · rw [h2] at z; cases z
    · exact ⟨s, e, h2, (keyv j _ lt n).mpr ((map_at _ _ _).mp h3)⟩
  have st1 : ∀ j a, OwnAt (as.map some ++ List.replicate m none) (vs.map some ++ List.replicate m none) j a → OwnAt (as.map some) (vs.map some) j a := fun j a ⟨s, h1, h2, h3⟩ => by
    rw [ext_get] at h1
    have lt : j < vs.length := by rw [← hl]; exact (List.getElem?_eq_some_iff.mp h1).1
    rw [ext_at lt] at h3
    exact ⟨s, by rw [get_map]; exact h1, h2, (map_at _ _ _).mpr h3⟩
  have st2 : ∀ j a, OwnM (as.map some ++ List.replicate m none) (vs.map some ++ List.replicate m none) j a → OwnM (as.map some) (vs.map some) j a := fun j a ⟨s, h1, h2, h3⟩ => by
    rw [ext_get] at h1
    have lt : j < vs.length := by rw [← hl]; exact (List.getElem?_eq_some_iff.mp h1).1
    rw [ext_at lt] at h3
    exact ⟨s, by rw [get_map]; exact h1, h2, (map_at _ _ _).mpr h3⟩
  refine ⟨⟨⟨by rw [List.length_map, List.length_map, backAt_len, outl], b.sim.sub, fun i s h => ?_, fun i j s t a h1 h2 m1 m2 v1 v2 => ?_⟩, ⟨b.stp.fzs, fun c z => ?_, fun c o h n => ?_, b.stp.live, fun c ⟨j, z⟩ => ?_, fun c ⟨j, z⟩ => ?_⟩, fun i hi => ?_, fun j a z => ?_, fun j a z => ?_⟩, at_, by rw [backAt_len, outl]⟩
  · rw [get_map] at h
    rcases side i s h with ⟨_, e, z⟩ | ⟨n, lt, e⟩
    · obtain ⟨v, h1, q⟩ := S.val i s (by rw [get_map]; exact e)
      exact ⟨v, h1, q.mono b.stp.fzs fun a hm _ => absurd z hm⟩
    · obtain ⟨v, h1, q⟩ := b.sim.val i s e
      exact ⟨v, (map_at _ _ _).mpr ((keyv i v lt n).mp h1), q⟩
  · obtain ⟨_, u, u1, u2, u3⟩ := at_ i a ⟨s, h1, m1, v1⟩
    obtain ⟨_, u', w1, w2, w3⟩ := at_ j a ⟨t, h2, m2, v2⟩
    exact b.sim.sep i j u u' a u1 w1 u2 w2 u3 w3
  · rcases b.stp.fzn c z with z | z | ⟨j, z⟩
    · exact .inl z
    · exact .inr (.inl z)
    · exact .inr (.inr ⟨j, st1 j c z⟩)
  · exact b.stp.mod c o h fun ⟨j, z⟩ => n ⟨j, st2 j c z⟩
  · rcases b.pv.1 j c (atm j c z) with z | z
    · exact .inl ⟨j, st2 j c z⟩
    · exact .inr z
  · rcases b.pv.2 j c (at_ j c z).2 with z | z
    · exact .inl ⟨j, st1 j c z⟩
    · exact .inr z
  · rw [get_map] at hi ⊢
    have : i < as.length := by
      obtain ⟨s, hs⟩ := Option.isSome_iff_exists.mp hi
      exact (List.getElem?_eq_some_iff.mp hs).1
    rw [List.getElem?_eq_getElem (by rw [backAt_len, outl, ← hl]; exact this)] <;> rfl
  · rcases b.pv.1 j a (atm j a z) with z | z
    · exact .inl (st2 j a z)
    · exact .inr z
  · rcases b.pv.2 j a (at_ j a z).2 with z | z
    · exact .inl (st1 j a z)
    · exact .inr z
end
end Ev

set_option Elab.async false
set_option linter.all false
set_option maxRecDepth 100000
set_option maxHeartbeats 1000000
/-! Ev7b: the promise of a def. Own work. -/
namespace Ev
open PySem PySem.Spec PyProof.Rows L2
section
variable {g : Gi} {Φ : Fns} {k : Nat} {ct : Ct} {X : Cx} {ρ ρ' ρ0 ρ1 ρ2 : En} {σ σ' σ0 σ1 σ2 : St} {H F H' F' H0 F0 H1 F1 H2 F2 : Hp} {W : WX} {Z : Ends}
/-- the body's wish, from what the call wishes -/
theorem body_gd {as : List Sl} {vs : List V} {df : Df} {Q : VK} {E : XK} (S : Sim g (as.map some) (vs.map some) H F) (G : GdC g as vs H F (runDf Φ df as) Q E) (hnp : df.np = ct.np) (hreb : df.reb = ct.reb) (hlv : vs.length = ct.np) (hns : df.ns = ct.N.length) :
    ∃ F0, Sim g ((frzAt ct.reb as).map some ++ List.replicate (df.ns - df.np) none) (L2.start ct.N vs) H F0 ∧ ct.np ≤ ct.N.length ∧
      GdS g ct ((frzAt ct.reb as).map some ++ List.replicate (df.ns - df.np) none) (L2.start ct.N vs) H F0 (evSs Φ ct.np df.body ((frzAt ct.reb as).map some ++ List.replicate (df.ns - df.np) none)) { nx := fun _ H' => Q .non H', rt := Q } (fun cls d _ H => E cls d H) := by
  obtain ⟨F0, b0⟩ := frzAt_bh (js := ct.reb) S
  have hst : L2.start ct.N vs = vs.map some ++ List.replicate (df.ns - df.np) none := by unfold L2.start; rw [hns, hnp, hlv]
  rw [hst]
  unfold runDf at G
  split at G
  case isFalse => exact G.elim
  rename_i hc
  refine ⟨F0, ext_sim b0.sim, by rw [← hns, ← hnp]; exact hc.2, ?_⟩
  rw [hreb, hnp] at G
  rw [hnp]
  have hfz : ∀ i ∈ ct.reb, ∀ s, (frzAt ct.reb as)[i]? = some s → s.m = .fz := fun i hi s hs => frzAt_fz hi hs
  have lx : ∀ c : List Sl, c.length = vs.length → c.length = vs.length := fun _ h => h
  have hn : ∀ i a, ct.np ≤ i → ¬ OwnAt ((frzAt ct.reb as).map some ++ List.replicate (df.ns - ct.np) none) (vs.map some ++ List.replicate (df.ns - ct.np) none) i a := fun i a hi ⟨s, h1, _⟩ => by
    rw [ext_get] at h1
    have := (List.getElem?_eq_some_iff.mp h1).1
    rw [frzAt_len] at this
    have hal : as.length = vs.length := by have := S.len; rwa [List.length_map, List.length_map] at this
    omega
  dsimp only at G
  cases he : evSs Φ ct.np df.body ((frzAt ct.reb as).map some ++ List.replicate (df.ns - ct.np) none) with
  | ok c ρ' =>
    rw [he] at G
    dsimp only at G
    intro σ' H' F' b
    cases ho : allSome (ρ'.take ct.np) with
    | none => rw [ho] at G; exact G.elim
    | some outs =>
      rw [ho] at G
      dsimp only at G
      split at G
      case isFalse => exact G.elim
      rename_i hol
      obtain ⟨bb, ba, bl⟩ := ret_bh b0.sim hfz hlv.symm b ho hol
      cases c with
      | nx => exact G bl .non H' F' (b0.trans bb) .non
      | br => exact G.elim
      | ct => exact G.elim
      | rt own d =>
        intro v hv
        refine G bl v H' F' (b0.trans bb) ?_
        unfold RtRel at hv
        cases own with
        | false => exact hv
        | true =>
          obtain ⟨a, e1, e2, e3, e4, e5⟩ := hv
          refine ⟨a, e1, ?_, e2, e3, fun ⟨j, z⟩ => ?_⟩
          · rcases e5 with z | ⟨i, hi, z⟩
            · exact z
            · exact absurd z (hn i a hi)
          · obtain ⟨q1, q2⟩ := ba j a z
            exact e4 j q1 q2
  | ex x ρ' =>
    rw [he] at G
    dsimp only at G
    intro σ' cls d H' F' b xr
    cases ho : allSome (ρ'.take ct.np) with
    | none => rw [ho] at G; exact G.elim
    | some outs =>
      rw [ho] at G
      dsimp only at G
      split at G
      case isFalse => exact G.elim
      rename_i hol
      obtain ⟨bb, ba, bl⟩ := ret_bh b0.sim hfz hlv.symm b ho hol
      exact G bl cls d H' F' (b0.trans bb) xr
  | err => rw [he] at G; exact G.elim
/-- what is told of the text and the state, whatever the frame -/
structure Wd (P : Program) (w : World) (K : PySem.W.Frag) (mg : Str → Option Value) (base : Heap) (g : Gi) (Φ : Fns) (k : Nat) (gl : List (Str × GK)) (sg : List (Nat × Nat × List Str × List Nat)) : Prop where
  kk : K = g.K
  glob : ∀ x q, gl.lookup x = some q → match q with
    | .fn n => ∃ f, g.fa n = some f ∧ mg x = some (.ref f)
    | .free => mg x = none
    | .cst d => ∃ v u, mg x = some u ∧ RelV v u ∧ ∀ F, RD g F v d
    | .bfn id => mg x = some (.builtin id)
  fns : ∀ n f, g.fa n = some f → ∃ fd ps, PySem.W.keepIn K (.ref f) = true ∧ FnG P w K mg base g Φ k f fd ps n ∧ ∀ np ks pm, (n, np, ks, pm) ∈ sg → Bnd K fd ps np ks pm
/-- the context of a def's body -/
def ctOf (N : List Str) (scope : Scope) (gl : List (Str × GK)) (sg : List (Nat × Nat × List Str × List Nat)) (np : Nat) (reb : List Nat) : Ct := ⟨N, scope, gl, sg, true, true, np, reb, fun _ => true⟩
theorem fn_g {P : Program} {w : World} {K : PySem.W.Frag} {mg : Str → Option Value} {base : Heap} {gl : List (Str × GK)} {sg : List (Nat × Nat × List Str × List Nat)} {f : Addr} {name qual : Str} {params : Arguments} {body : List Stmt} {scope : Scope} {dV kV doc pm cdv ctv oc : Value} {an od : Option Addr} {osl : Array (Option Value)} {N ps : List Str} {df : Df} {n : Nat} {Δ : Tab} {k : Nat}
    (lk : K.lookup f = some ⟨oc, od, .func (PySem.W.fnOf name qual params body scope dV kV doc pm an cdv ctv), osl⟩) (hcd : PySem.W.codeIn K cdv qual = true) (SC : FnScope N ps scope) (wd : Wd P w K mg base g (Phi Δ k) k gl sg) (hD : Δ.lookup n = some df) (hnp : df.np = ps.length) (hns : df.ns = N.length)
    (hb : SSs g (Phi Δ k) k (ctOf N scope gl sg ps.length df.reb) body df.body) : FnG P w K mg base g (Phi Δ (k + 1)) (k + 1) f (PySem.W.fnOf name qual params body scope dV kV doc pm an cdv ctv) ps n := by
  intro A outer s H F args us vs as Q E room guards e0 binds rv hlen Sm G
  have G : GdC g as vs H F (runDf (Phi Δ k) df as) Q E := by
    have e : Phi Δ (k + 1) n as = runDf (Phi Δ k) df as := by
      show (match Δ.lookup n with
        | some d => runDf (Phi Δ k) d as
        | none => .err) = _
      rw [hD]
    rw [← e]
    exact G
  have KX : K.In s.heap := e0.mod.kin.keeps fun b o z => (e0.bs b o z).1
  have free : s.heap.NoLimit := e0.mod.nolimit.keeps fun b o z => (e0.bs b o z).1
  have kinds : ∀ y ∈ ps.zip us, scope.names.lookup y.1 = some .local ∨ (scope.names.lookup y.1 = some .cell ∧ ((cellsFrom (s.heap.objs.size + 1) scope.names []).lookup y.1).isSome = true) := fun y hy =>
    (SC.par y.1 (List.of_mem_zip (a := y.1) (b := y.2) hy).1).imp id fun q => ⟨q, PySem.W.cellsFrom_some _ _ _ (.inl q)⟩
  refine codeAny_call_function room.depth (KX _ _ lk) rfl SC.co SC.gen rfl (PySem.W.codeRec_of KX hcd) (binds _ _ _ _ ?_)
  refine wpAny_newFunctionEnv_cells SC.kind kinds fun env he s1 x => ?_
  subst he
  refine ⟨free.keeps x.toInCall.keep, codeAny_func ?_⟩
  obtain ⟨F0, S0, _, G0⟩ := body_gd (ct := ctOf N scope gl sg ps.length df.reb) Sm G hnp rfl hlen hns
  have I : Inv (cxOf (L2.CX P w) P w K mg base N qual scope f cdv A outer s H E) [] (L2.start N vs) H s1 := inv_start SC room.hd e0 hlen rv x
  have rm2 := room.deeper (envOfC qual scope s.heap.objs.size f cdv)
  have xo : XOk g (Phi Δ k) k (ctOf N scope gl sg ps.length df.reb) (cxOf (L2.CX P w) P w K mg base N qual scope f cdv A outer s H E) := {
    N := rfl
    nd := SC.nd
    sc := rfl
    rm := ⟨wd.kk, rfl, by have := rm2.un; show (A.deeper _).units + 100 < cLine; omega, guards⟩
    glob := fun y q h => by
      have := wd.glob y q h
      cases q <;> exact this
    room := fun _ => rm2
    fns := wd.fns
    po := fun _ => passes_of rfl
    fnx := fun _ => rfl }
  have tk : Takes (cxOf (L2.CX P w) P w K mg base N qual scope f cdv A outer s H E) (fun cls d _ H => E cls d H) := takes_of rfl rfl rfl rfl
  have run := hb _ xo _ _ H F0 S0 _ _ tk G0
  refine wpAny_mono (run [] s1 I) (fun fl s' hs => ?_) fun e s' hs => hs
  cases fl with
  | ret u =>
    obtain ⟨v, σ', H', J, r, q⟩ := hs
    exact ⟨v, H', J.os, J.bare, J.base, J.hok, r, q⟩
  | next =>
    obtain ⟨σ', H', J, q⟩ := hs
    exact ⟨V.non, H', J.os, J.bare, J.base, J.hok, rfl, q⟩
  | brk =>
    obtain ⟨_, _, _, q⟩ := hs
    exact q.elim
  | cont =>
    obtain ⟨_, _, _, q⟩ := hs
    exact q.elim
end
end Ev

set_option Elab.async false
set_option linter.all false
set_option maxRecDepth 100000
set_option maxHeartbeats 1000000
/-! Ev7z: zip with strict=False. Own work. -/
namespace ZipS
open PySem
open Sem (wp)
section
variable {prog : Program} {w : World} {A : Around} {E : Value → Shared → Prop} {s : Shared}
/-- a type called with keywords -/
theorem typeK {T n i : String} {B1 B2 : Builtin} {us : List Value} {kw : List (Str × Value)} {S : Spec} {R R1 : Value → Shared → Prop} (t : TypeCalled T n i)
    (c1 : checkTypeCall T ⟨us, kw⟩ = pure ()) (c2 : checkBuiltinCall n ⟨.type T :: us, kw⟩ = pure ())
    (e1 : entryFor table n = some B1) (e2 : entryFor table i = some B2) (m : Meets (B1 ⟨.type T :: us, kw⟩) S)
    (q : S A.in1 (wants R1 E) s)
    (nx : ∀ o s1, R1 o s1 → s1.TypeIs o T ∧ argsOk i ⟨o :: us, kw⟩ ∧ ∃ S2, Meets (B2 ⟨o :: us, kw⟩) S2 ∧ S2 A.in1 (wants (fun r s2 => r = .none ∧ R o s2) E) s1) :
    wpAny (model prog w) A (call (.type T) us kw) R E s := by
  obtain ⟨_, _, m1⟩ := t.mro
  have m2 := t.made
  have m3 := t.sub
  refine wpAny_call (codeAny_of_tree ?_)
  show wpAny _ _ (callAny (.type T) _) _ _ _
  refine wpAny_pure ⟨Code.quiet_builtin _ (by decide +kernel), codeAny_builtin F.entry_type_call ?_⟩
  rw [Around.under_plain (weight_type_call_type T us kw) (units_type_call_type T us kw)]
  have m4 := t.notType
  have m5 := t.canCreate
  repeat (any_goals (first | assumption | wp_step))
  refine codeAny_mono (codeAny_call_builtin t.plain e1 (wpAny_of_eq c2 (m prog w A.in1 _ s q))) fun r s1 hr => ?_
  cases r with
  | error e => exact hr
  | ok f =>
    cases f with
    | ret o =>
      obtain ⟨x1, x2, S2, g2, x3⟩ := nx _ _ hr
      have y1 := t.init.lookup
      have y2 := t.init.bind o
      repeat (any_goals (first | assumption | wp_step))
      refine codeAny_mono (codeAny_call_builtin t.init.plain e2 (t.init.check _ _ _ _ _ _ _ _ x1 x2 (g2 prog w A.in1 _ s1 x3))) fun r2 s2 hr2 => ?_
      cases r2 with
      | error e => exact hr2
      | ok f2 =>
        cases f2 with
        | ret r =>
          obtain ⟨rfl, hq⟩ := hr2
          repeat (any_goals (first | assumption | wp_step))
        | _ => exact hr2.elim
    | _ => exact hr.elim
theorem initK {T n : String} {o : Value} {us : List Value} {kw : List (Str × Value)} (l : typeLookup (.type T) "__init__" = pure (some (.builtin "object.__init__")))
    (m : Bind.madeBy (.type T) = pure (some n)) (ne : (some n != some "object.__new__") = true) :
    Meets (Builtin.«object.__init__» ⟨o :: us, kw⟩) (fun _ R s => s.TypeIs o T ∧ R (.ok (.ret .none)) s) := by
  refine Meets.of_wp fun prog w A R s hs => ?_
  obtain ⟨hT, hq⟩ := hs
  cases us with
  | nil =>
    cases kw with
    | nil => exact wpAny_pure ⟨_, rfl, hq⟩
    | cons k kw =>
      repeat (any_goals (first | assumption | wp_step))
      exact ⟨_, rfl, hq⟩
  | cons a us =>
    repeat (any_goals (first | assumption | wp_step))
    exact ⟨_, rfl, hq⟩
def kwS : List (Str × Value) := [(Str.ofString "strict", .bool false)]
theorem tc (a b : Value) : checkTypeCall "zip" ⟨[a, b], kwS⟩ = pure () := by kernel_rfl
theorem nc (a b : Value) : checkBuiltinCall "zip.__new__" ⟨[.type "zip", a, b], kwS⟩ = pure () := by kernel_rfl
theorem ao (a b c : Value) : argsOk "object.__init__" ⟨[a, b, c], kwS⟩ := by
  unfold argsOk; rw [signature?_of (id := "object.__init__") (n := ['_', '_', 't', 'i', 'n', 'i', '_', '_']) (o := ['t', 'c', 'e', 'j', 'b', 'o']) (by kernel_rfl) F.owner_object]; kernel_rfl
theorem newS (p q : Addr) (xs ys : Array Value) :
    Meets (Builtin.«zip.__new__» ⟨[.type "zip", .ref p, .ref q], kwS⟩) (fun _ R s => s.heap.IsList p xs ∧ s.heap.IsList q ys ∧
      R (.ok (.ret (.ref (zipH4 s.heap p q).objs.size))) { s with heap := zipH5 s.heap p q }) :=
  .of_wp fun prog w A R s h => by
    obtain ⟨hp, g, d, tk, os⟩ := s
    obtain ⟨l1, l2, h⟩ := h
    have z0 := sub_zip
    have z1 : Heap.IsList (Shared.heap ⟨hp, g, d, tk, os⟩) p xs := l1
    have z2 : Heap.IsList (Shared.heap ⟨hp.push { cls := .type "list_iterator", data := .fields #[.ref p, .int 0 0] }, g, d, tk, os⟩) q ys := Heap.IsList.push l2 _
    unfold kwS
    wp_walk using wpAny_pyIter_list z1, wpAny_pyIter_list z2
    exact ⟨_, rfl, h⟩
end
section
variable {prog : Program} {w : World} {A : Around} {E : Value → Shared → Prop} {s : Shared}
theorem callS {p q : Addr} {xs ys : Array Value} {R : Value → Shared → Prop} (l1 : s.heap.IsList p xs) (l2 : s.heap.IsList q ys)
    (h : ∀ h' : Heap, let n := s.heap.objs.size; IsZip h' (n + 4) (n + 2) (n + 3) .none → IsPair h' (n + 2) (.ref n) (.ref (n + 1)) → IsPair h' (n + 3) .none .none → h'.IsListIter n p 0 → h'.IsListIter (n + 1) q 0 → h'.objs.size = n + 5 →
      (∀ c o, s.heap.get? c = some o → h'.get? c = some o) → R (.ref (n + 4)) { s with heap := h' }) :
    wpAny (model prog w) A (call (.type "zip") [.ref p, .ref q] kwS) R E s := by
  refine typeK F.called_zip (tc _ _) (nc _ _) F.entry_zip_new F.entry_object_init (newS p q xs ys) (R1 := fun o s1 => s1.TypeIs o "zip" ∧ R o s1) ⟨l1, l2, ?_⟩
    fun o s1 h1 => ⟨h1.1, ao o _ _, _, initK F.called_zip.init.lookup F.called_zip.made (by decide), h1.1, rfl, h1.2⟩
  have y1 : (zipH1 s.heap p).objs.size = s.heap.objs.size + 1 := Heap.size_push ..
  have y2 : (zipH2 s.heap p q).objs.size = s.heap.objs.size + 2 := by rw [Heap.size_push, y1]
  have y3 : (zipH3 s.heap p q).objs.size = s.heap.objs.size + 3 := by rw [Heap.size_push, y2]
  have y4 : (zipH4 s.heap p q).objs.size = s.heap.objs.size + 4 := by rw [Heap.size_push, y3]
  have y5 : (zipH5 s.heap p q).objs.size = s.heap.objs.size + 5 := by rw [Heap.size_push, y4]
  have up : ∀ {h : Heap} {o : Obj} {c : Addr} {o' : Obj}, h.get? c = some o' → (h.push o).get? c = some o' := fun e => Heap.get?_push_of_some _ e
  have x5 : (zipH5 s.heap p q).get? (zipH4 s.heap p q).objs.size = some _ := Heap.get?_push_size _ rfl
  have x4 : (zipH5 s.heap p q).get? (zipH3 s.heap p q).objs.size = some _ := up (Heap.get?_push_size _ rfl)
  have x3 : (zipH5 s.heap p q).get? (zipH2 s.heap p q).objs.size = some _ := up (up (Heap.get?_push_size _ rfl))
  have x2 : (zipH5 s.heap p q).get? (zipH1 s.heap p).objs.size = some _ := up (up (up (Heap.get?_push_size _ rfl)))
  have x1 : (zipH5 s.heap p q).get? s.heap.objs.size = some _ := up (up (up (up (Heap.get?_push_size _ rfl))))
  show _ ∧ _
  rw [y2, y3, y4] at x5
  rw [y1, y2] at x3
  rw [y3] at x4
  rw [y1] at x2
  rw [y4]
  exact ⟨⟨_, x5, rfl⟩, h _ x5 x3 x4 ⟨_, x1, rfl, rfl⟩ ⟨_, x2, rfl, rfl⟩ y5 fun c o x => up (up (up (up (up x))))⟩
end
section
variable {M : Model} {A : Around} {E : Value → Shared → Prop} {s : Shared}
theorem withTK {pos : Pos} {T : String} {ts : List (Bool × Sem Value)} {ks : List (Option Str × Sem Value)} {R : Value → Shared → Prop}
    (p1 : ts.any (·.1) = false) (p2 : ks.any (·.1.isNone) = false)
    (h : wpAny M A (evalArgs (.type T) true ts ks) (fun a s1 => wpAny M A (call (.type T) a.pos a.kw) R E s1) E s) : wpAny M A (callWith pos (.type T) [] ts ks) R E s := by
  unfold callWith
  refine wpAny_bind (wpAny_holding (wpAny_mono h (fun a s1 h1 => wpAny_bind (wpAny_standAt ?_)) fun _ _ x => x))
  simp only [p1, p2, Bool.or_false]
  refine wpAny_bind (wpAny_pure ?_)
  exact wpAny_bind (wpAny_mono h1 (fun r s2 hr => wpAny_bind (wpAny_holding (wpAny_point (wpAny_pure hr)))) fun _ _ x => x)
end
open L2 PySem.Spec PyProof.Rows
/-- zip(x, y, strict=False) -/
theorem pi_zipS {X : Cx} {e e2 : Expr} {ta : TA} {p pos tpos kp : Pos} {c1 : Nat} {c2 : Pos} {elts : List Expr} {kk : Nat} (hg : Gl X "zip") (hm : X.mg "zip" = none) (ha : PA X [e, e2] ta)
    (hs : starEach [e, e2] X.env = (false, eval e X.env) :: starEach [e2] X.env := by rfl) (hpl : (backTo pos (starEach [e, e2] X.env)).any (·.1) = false := by rfl) :
    PI X (.Tuple elts kk tpos) (.Call (.Name "zip" p) [e, e2] [⟨some (Str.ofString "strict"), .Constant (.bool false) c1 c2, kp⟩] pos) (iZip X.K ta) := by
  refine ⟨fun pins s σ H R I h => ?_⟩
  refine wpAny_Call_Name_kw (ld_blt I hg hm PyProof.Rows.boot_zip ?_)
  refine withTK hpl rfl (evalArgs_kw2 rfl (thn (ha.run pos pins s σ H _ I h) fun us s1 ⟨vs, H1, I1, r1, q1⟩ => kws_cons ?_) hs)
  refine wpAny_pure (kws_nil ?_)
  show wpAny _ _ (call (.type "zip") us kwS) _ _ _
  obtain ⟨a, b, xs, ys, rfl, n1, n2, q⟩ := q1
  cases r1 with
  | cons r rr =>
    cases rr with
    | cons r' rr =>
      cases rr
      cases r
      cases r'
      obtain ⟨i1, v1, t1, _⟩ := I1.list n1
      obtain ⟨i2, v2, t2, _⟩ := I1.list n2
      refine callS t1.isList t2.isList fun h' => ?_
      intro n hz hTI hTO h1 h2 _ hk
      refine wpAny_pyIter_zip hz ?_
      have I2 : Inv X pins σ H1 { s1 with heap := h' } := I1.kept (t' := s1.toks) hk
      refine ⟨n + 4, [n + 4, n + 2, n + 3, n, n + 1], _, _, H1, rfl, I2, turn_zip (PySem.W.ktu_apart n a b t1.lt t2.lt), ⟨hz, hTI, ⟨_, _, hTO⟩, h1, h2⟩, fun c hcm => ?_, q⟩
      have hle : n ≤ c := by
        simp only [List.mem_cons, List.not_mem_nil, or_false] at hcm
        rcases hcm with z | z | z | z | z <;> rw [z] <;> first | exact Nat.le_refl _ | exact Nat.le_add_right _ _
      exact I1.fpOk hle (I1.hok.fresh hle)
end ZipS
namespace Ev
open PySem PySem.Spec PyProof.Rows L2
section
variable {g : Gi} {Φ : Fns} {k : Nat} {ct : Ct} {X : Cx} {ρ ρ' ρ0 ρ1 ρ2 : En} {σ σ' σ0 σ1 σ2 : St} {H F H' F' H0 F0 H1 F1 H2 F2 : Hp} {W : WX} {Z : Ends}
theorem si_zipS {a b : Expr} {ia ib : E} {p pos tp kp c2 : Pos} {c1 : Nat} {elts : List Expr} {kk : Nat} (hg : glB ct.sc (Str.ofString "zip") = true) (hl : ct.gl.lookup (Str.ofString "zip") = some .free) (hn : nst a = true) (hn2 : nst b = true) (ha : SE g Φ k ct a ia) (hb : SE g Φ k ct b ib) :
    SI g Φ k ct (.Tuple elts kk tp) (.Call (.Name (Str.ofString "zip") p) [a, b] [⟨some (Str.ofString "strict"), .Constant (.bool false) c1 c2, kp⟩] pos) (.zip ia ib) := by
  intro X xo ρ σ H F S R W tk G
  have hm : X.mg "zip" = none := xo.glob _ _ hl
  refine PI.d (ZipS.pi_zipS (glB_ok xo hg) hm (pa_cons pe_D (pa_cons pe_D pa_nil (star_eq hn2)) (star_eq hn)) (star_eq hn) (by rw [star_eq hn, star_eq hn2] <;> rfl)) ?_
  refine ha.go xo S tk G fun v r ρ1 H1 F1 b1 q1 G1 => ?_
  refine hb.go xo b1.sim tk G1 fun u r2 ρ2 H2 F2 b2 q2 G2 => ?_
  obtain ⟨d, l1, G3⟩ := op1_in G2
  obtain ⟨e, l2, G4⟩ := op1_in G3
  cases h1 : lstOf d with
  | none => simp only [h1] at G4; exact G4.elim
  | some rows =>
  cases h2 : lstOf e with
  | none => simp only [h1, h2] at G4; exact G4.elim
  | some rows2 =>
    simp only [h1, h2] at G4
    have q1' := q1.later b1.sim b2
    have lk := lock_bh (r := r) b2.sim
    obtain ⟨c, xs, e1, s1, w1⟩ := held_of b2.sim q1' l1 h1
    obtain ⟨c2, ys, e2, s2, w2⟩ := held_of lk.sim (q2.later b2.sim lk) (look_lock l2) h2
    rw [xo.rm.K]
    exact ⟨c, c2, xs, ys, by rw [e1, e2], s1, s2, G4.now b2.sim _ (.zip (w1.step (lock_bh (r := r2) lk.sim).stp) w2)⟩
end
end Ev

set_option Elab.async false
set_option linter.all false
set_option maxRecDepth 100000
set_option maxHeartbeats 1000000
/-! Ev8: the text made into the small language. Own work. -/
namespace Ev
open PySem PySem.Spec PyProof.Rows L2
structure Cmp where
  e : Ct → Expr → E
  t : Ct → Expr → T
  s : Ct → Stmt → S
def idx (N : List Str) (x : Str) : Nat := N.findIdx (· == x)
def nameC (ct : Ct) (x : Str) : E :=
  if plainN x = true then
    if visB ct.sc x = true then (if ct.N[idx ct.N x]? = some x then .var (idx ct.N x) else .bad)
    else if glB ct.sc x = true then match ct.gl.lookup x with
      | some (.cst d) => .lit d
      | some (.fn n) => .lit (.fn n)
      | _ => .bad
    else .bad
  else .bad
def constC : Const → E
  | .int i => .lit (.int i)
  | .bool b => .lit (.bl b)
  | .none => .lit .non
  | .str x => if okLB x.cps.toList = true then .lit (.str x.cps.toList) else .bad
  | _ => .bad
def bopOf : Operator → Option Bop
  | .Add => some .add | .Sub => some .sub | .Mult => some .mul | .FloorDiv => some .fdiv | .Mod => some .mod | .Pow => some .pow
  | _ => none
def copOf : CmpOp → Cop
  | .Eq => .eq | .NotEq => .ne | .Lt => .lt | .LtE => .le | .Gt => .gt | .GtE => .ge | .Is => .is | .IsNot => .isnot | .In => .isin | .NotIn => .notin
def cmpC (r : Cmp) (ct : Ct) (a : Expr) : List CmpOp → List Expr → E
  | [o], [b] => if markB (copOf o) b = true then .cmp (copOf o) (r.e ct a) (r.e ct b) else .bad
  | [o1, o2], [b, c] => if marksB (copOf o1) (copOf o2) b c = true then .chain (copOf o1) (copOf o2) (r.e ct a) (r.e ct b) (r.e ct c) else .bad
  | _, _ => .bad
def andC (r : Cmp) (ct : Ct) : List Expr → E
  | [] => .bad
  | [a] => r.e ct a
  | a :: rest => .and (r.e ct a) (andC r ct rest)
def orC (r : Cmp) (ct : Ct) : List Expr → E
  | [] => .bad
  | [a] => r.e ct a
  | a :: rest => .or (r.e ct a) (orC r ct rest)
def andT (r : Cmp) (ct : Ct) : List Expr → T
  | [] => .val .bad
  | [a] => r.t ct a
  | a :: rest => .and (r.t ct a) (andT r ct rest)
def orT (r : Cmp) (ct : Ct) : List Expr → T
  | [] => .val .bad
  | [a] => r.t ct a
  | a :: rest => .or (r.t ct a) (orT r ct rest)
def optC (r : Cmp) (ct : Ct) : Option Expr → Bool × E
  | none => (false, .lit .non)
  | some e => (true, r.e ct e)
def subC (r : Cmp) (ct : Ct) (a : Expr) : Expr → E
  | .Slice lo hi none _ => .sl (optC r ct lo).1 (optC r ct hi).1 (r.e ct a) (optC r ct lo).2 (optC r ct hi).2
  | .Slice none none (some st) _ => .rev (r.e ct a) (r.e ct st)
  | b => if plainIxB b = true then .sub (r.e ct a) (r.e ct b) else .bad
def esC (r : Cmp) (ct : Ct) : List Expr → Es
  | [] => .nil
  | e :: es => .cons (r.e ct e) (esC r ct es)
def ksC (r : Cmp) (ct : Ct) : List Keyword → Es
  | [] => .nil
  | e :: es => .cons (r.e ct e.value) (ksC r ct es)
def biAll : List Bi := [.len, .int, .max2, .min2, .sum, .list, .tuple, .dict, .repr, .sorted]
def biOf (x : Str) : Option Bi := biAll.find? fun f => biN f == x
def isiAll : List (Bi × String) := [(.isint, "int"), (.isbool, "bool"), (.isstr, "str"), (.islist, "list"), (.istuple, "tuple")]
def isFree (ct : Ct) (x : Str) : Bool := glB ct.sc x && (match ct.gl.lookup x with
  | some .free => true
  | _ => false)
def isiTAll : List Bi := [.isseq, .isbox]
def isiC (r : Cmp) (ct : Ct) : List Expr → E
  | [e, .Tuple es _ _] => match isiTAll.find? fun f => match isiTs f with
      | some cs => tyNames ct cs es
      | none => false with
    | some f => if (isFree ct (Str.ofString "isinstance") && nst e) = true then .bi f (.cons (r.e ct e) .nil) else .bad
    | none => .bad
  | [e, .Name y _] => match isiAll.find? fun p => Str.ofString p.2 == y with
    | some p => if (isFree ct (Str.ofString "isinstance") && isFree ct y && nst e) = true then .bi p.1 (.cons (r.e ct e) .nil) else .bad
    | none => .bad
  | _ => .bad
def kwN : List Keyword → Option (List Str)
  | [] => some []
  | k :: ks => match k.arg, kwN ks with
    | some x, some r => some (x :: r)
    | _, _ => none
def fnC (r : Cmp) (ct : Ct) (x : Str) (args : List Expr) (kws : List Keyword) : E := match ct.gl.lookup x, kwN kws with
  | some (.fn n), some ks => match ct.sg.find? fun q => q.1 == n && q.2.1 == args.length && q.2.2.1 == ks with
    | some q => if (glB ct.sc x && plainN x && ct.calm && decide ((n, args.length, ks, q.2.2.2) ∈ ct.sg) && decide q.2.2.2.Nodup && args.all nst) = true then .call n q.2.2.2 (esC r ct args) (ksC r ct kws) else .bad
    | none => .bad
  | _, _ => .bad
def isRng (ct : Ct) (y : Str) : Bool := decide (y = Str.ofString "range") && isFree ct y
/-- list(range(..)) -/
def lrngC (r : Cmp) (ct : Ct) : List Expr → E
  | [.Call (.Name y _) [a] [] _] => if (isRng ct y && isFree ct (Str.ofString "list") && ct.calm && nst a) = true then .lrng1 (r.e ct a) else .bad
  | [.Call (.Name y _) [a, b] [] _] => if (isRng ct y && isFree ct (Str.ofString "list") && ct.calm && nst a && nst b) = true then .lrng2 (r.e ct a) (r.e ct b) else .bad
  | _ => .bad
def hasRng : List Expr → Bool
  | [.Call (.Name y _) _ [] _] => decide (y = Str.ofString "range")
  | _ => false
def bfnC (r : Cmp) (ct : Ct) (x : Str) : List Expr → List Keyword → E
  | [a, b], [] => match ct.gl.lookup x with
    | some (.bfn id) => if (decide (id = "math.gcd") && glB ct.sc x && !(x == Str.ofString "__debug__") && [a, b].all nst) = true then .bi .gcd (esC r ct [a, b]) else .bad
    | _ => .bad
  | _, _ => .bad
def isBfn (ct : Ct) (x : Str) : Bool := match ct.gl.lookup x with
  | some (.bfn _) => true
  | _ => false
def callC (r : Cmp) (ct : Ct) (x : Str) (args : List Expr) (kws : List Keyword) : E :=
  if isBfn ct x = true then bfnC r ct x args kws else
  if (decide (x = Str.ofString "list") && hasRng args && kws.isEmpty) = true then lrngC r ct args else
  if x = Str.ofString "isinstance" then (match kws with
    | [] => isiC r ct args
    | _ => .bad) else
  match biOf x with
  | some f => match args, kws with
    | e :: es, [] => if (isFree ct (biN f) && (!biCalm f || ct.calm) && (e :: es).all nst) = true then .bi f (esC r ct (e :: es)) else .bad
    | _, _ => .bad
  | none => fnC r ct x args kws
def mthC (r : Cmp) (ct : Ct) (o : Expr) (m : Str) (apos pos : Pos) : List Expr → E
  | [e] => if (baseB o && lineB apos pos && nst e) = true then
      (if m = Str.ofString "strip" then .mth .strip (r.e ct o) (.cons (r.e ct e) .nil) else if m = Str.ofString "join" then .mth .join (r.e ct o) (.cons (r.e ct e) .nil) else if m = Str.ofString "append" then .mth .append (r.e ct o) (.cons (r.e ct e) .nil) else if m = Str.ofString "index" then (if (ct.gl.lookup (Str.ofString "%lindex")).isSome = true then .mth .lindex (r.e ct o) (.cons (r.e ct e) .nil) else .mth .index (r.e ct o) (.cons (r.e ct e) .nil)) else .bad) else .bad
  | [] => if (baseB o && lineB apos pos) = true then (if m = Str.ofString "bit_length" then .mth .bits (r.e ct o) .nil else .bad) else .bad
  | _ => .bad
def isTup : Expr → Bool
  | .Tuple _ _ _ => true
  | _ => false
def walkC (r : Cmp) (ct : Ct) (tg : Expr) : Expr → Wk
  | .Call (.Name x p) [a] [] pos => if x = Str.ofString "range" then (if (isFree ct x && nst a) = true then .rng1 (r.e ct a) else .seq .bad)
      else if x = Str.ofString "enumerate" then (if (isFree ct x && nst a && isTup tg) = true then .enum (r.e ct a) else .seq .bad)
      else if x = Str.ofString "reversed" then (if (isFree ct x && nst a) = true then .back (r.e ct a) else .seq .bad) else .seq (r.e ct (.Call (.Name x p) [a] [] pos))
  | .Call (.Name x p) [a, b] [] pos => if x = Str.ofString "range" then (if (isFree ct x && nst a && nst b) = true then .rng2 (r.e ct a) (r.e ct b) else .seq .bad)
      else if x = Str.ofString "zip" then (if (isFree ct x && nst a && nst b && isTup tg) = true then .zip (r.e ct a) (r.e ct b) else .seq .bad) else .seq (r.e ct (.Call (.Name x p) [a, b] [] pos))
  | .Call (.Name x p) [a, b] [⟨some y, .Constant (.bool false) c1 c2, kp⟩] pos =>
      if (decide (x = Str.ofString "zip") && decide (y = Str.ofString "strict")) = true then (if (isFree ct x && nst a && nst b && isTup tg) = true then .zip (r.e ct a) (r.e ct b) else .seq .bad) else .seq (r.e ct (.Call (.Name x p) [a, b] [⟨some y, .Constant (.bool false) c1 c2, kp⟩] pos))
  | e => .seq (r.e ct e)
/-- a target's slots -/
def tgC (ct : Ct) : Expr → Option (List Nat)
  | .Name x _ => if (decide (ct.N[idx ct.N x]? = some x) && locB ct x && setB ct (idx ct.N x)) = true then some [idx ct.N x] else none
  | .Tuple es _ _ =>
    let is := es.map fun e => match e with
      | .Name x _ => idx ct.N x
      | _ => 0
    if (ct.calm && namesB ct es is && is.length != 1) = true then some is else none
  | _ => none
def tsC (r : Cmp) (ct : Ct) : List Expr → Option Ts
  | [] => some .nil
  | [c] => some (.cons (r.t ct c) .nil)
  | _ => none
/-- the block's own names with slots -/
def ownC (ct : Ct) (scope : Scope) : List (Str × Nat) := scope.names.filterMap fun (n, k) => if (k == .local || k == .cell) && ct.N.contains n then some (n, idx ct.N n) else none
def lcC (r : Cmp) (ct : Ct) (elt : Expr) (gs : List Comprehension) (scope : Scope) : E := match gs with
  | [⟨tg, iter, ifs, 0⟩] => match tgC (blkC ct scope) tg, tsC r (blkC ct scope) ifs with
    | some is, some ts => if (ct.calm && nset iter && blkB ct scope (ownC ct scope) && is.all fun i => ((ownC ct scope).map (·.2)).contains i) = true then
        .lc (r.e (blkC ct scope) elt) is (walkC r ct tg iter) ts ((ownC ct scope).map (·.2)) else .bad
    | _, _ => .bad
  | _ => .bad
def stepE (r : Cmp) (ct : Ct) : Expr → E
  | .Name x _ => nameC ct x
  | .Constant c _ _ => constC c
  | .BinOp a op b _ => match bopOf op with
    | some o => .bin o (r.e ct a) (r.e ct b)
    | none => .bad
  | .Compare a ops cs _ => cmpC r ct a ops cs
  | .BoolOp .And es _ => andC r ct es
  | .BoolOp .Or es _ => orC r ct es
  | .UnaryOp .Not a _ => .not (r.e ct a)
  | .UnaryOp .USub (.Constant (.int i) _ _) _ => .lit (.int (-i))
  | .IfExp c a b _ => .ifx (r.t ct c) (r.e ct a) (r.e ct b)
  | .Subscript a b _ => subC r ct a b
  | .Tuple es _ _ => if es.all nst = true then .tup (esC r ct es) else .bad
  | .List es _ => if es.all nst = true then .lst (esC r ct es) else .bad
  | .Dict [] [] _ => .dict0
  | .ListComp elt gs scope _ => lcC r ct elt gs scope
  | .Call (.Name x _) args kws _ => callC r ct x args kws
  | .Call (.Attribute o m apos) args [] pos => mthC r ct o m apos pos args
  | _ => .bad
def stepT (r : Cmp) (ct : Ct) : Expr → T
  | .BoolOp .And es _ => andT r ct es
  | .BoolOp .Or es _ => orT r ct es
  | .UnaryOp .Not a _ => .not (r.t ct a)
  | .Compare a ops cs _ => .val (cmpC r ct a ops cs)
  | e => if wholeB e = true then .val (r.e ct e) else .val .bad
def ssC (r : Cmp) (ct : Ct) : List Stmt → Ss
  | [] => .nil
  | s :: ss => .cons (r.s ct s) (ssC r ct ss)
def slotOk (ct : Ct) (x : Str) : Bool := decide (ct.N[idx ct.N x]? = some x) && locB ct x && setB ct (idx ct.N x)
def tupC (r : Cmp) (ct : Ct) (es : List Expr) (v : Expr) : S :=
  let is := es.map fun e => match e with
    | .Name x _ => idx ct.N x
    | _ => 0
  if (ct.calm && namesB ct es is) = true then (match v with
    | .Tuple vs a b => match swS ct.sc es vs with
      | some none => if (decide (is.length ≤ 9) && vs.all nst) = true then .par is (esC r ct vs) else .unp is (r.e ct (.Tuple vs a b))
      | some (some _) => match es, vs with
        | [.Name x px, .Name y py], [a, b] => if (lclB ct x (idx ct.N x) && lclB ct y (idx ct.N y) && idx ct.N x != idx ct.N y && nst a && nst b && decide (swS ct.sc [.Name x px, .Name y py] [a, b] = some (some [x, y]))) = true then .par [idx ct.N x, idx ct.N y] (esC r ct [a, b]) else .bad
        | [.Name x px, .Name y py, .Name z pz], [a, b, c] => if (lclB ct x (idx ct.N x) && lclB ct y (idx ct.N y) && lclB ct z (idx ct.N z) && idx ct.N x != idx ct.N y && idx ct.N x != idx ct.N z && idx ct.N y != idx ct.N z && nst a && nst b && nst c && decide (swS ct.sc [.Name x px, .Name y py, .Name z pz] [a, b, c] = some (some [x, y, z]))) = true then
            .par [idx ct.N x, idx ct.N y, idx ct.N z] (esC r ct [a, b, c]) else .bad
        | _, _ => .bad
      | none => .bad
    | v => if noComp v = true then .unp is (r.e ct v) else .bad) else .bad
def asgC (r : Cmp) (ct : Ct) (t v : Expr) : S := match t with
  | .Name x _ => if slotOk ct x = true then (match v with
      | .ListComp elt gs scope _ => .set (idx ct.N x) (lcC r ct elt gs scope)
      | v => if noComp v = true then .set (idx ct.N x) (r.e ct v) else .bad) else .bad
  | .Subscript o i _ => if (noComp v && plainIxB i) = true then .put (r.e ct o) (r.e ct i) (r.e ct v) else .bad
  | .Tuple es _ _ => tupC r ct es v
  | _ => .bad
def stepS (r : Cmp) (ct : Ct) : Stmt → S
  | .Expr e _ => if noComp e = true then .expr (r.e ct e) else .bad
  | .Assign [t] v _ => asgC r ct t v
  | .Return (some e) _ => .ret (r.e ct e)
  | .If c a b _ => .iff (r.t ct c) (ssC r ct a) (ssC r ct b)
  | .For tg iter body [] _ => match tgC ct tg with
    | some is => if (ct.top && ct.calm && nset iter) = true then .for is (walkC r ct tg iter) (ssC r ct body) else .bad
    | none => .bad
  | .While c body [] _ => if ct.top = true then .while (r.t ct c) (ssC r ct body) else .bad
  | .Break _ => .brk
  | .Continue _ => .cont
  | .Pass _ => .pass
  | _ => .bad
def comp : Nat → Cmp
  | 0 => ⟨fun _ _ => .bad, fun _ _ => .val .bad, fun _ _ => .bad⟩
  | n + 1 => ⟨stepE (comp n), stepT (comp n), stepS (comp n)⟩
end Ev

set_option Elab.async false
set_option linter.all false
set_option maxRecDepth 100000
set_option maxHeartbeats 1000000
/-! Ev8b: the small language does what the text does. Own work. -/
namespace Ev
open PySem PySem.Spec PyProof.Rows L2
section
variable {g : Gi} {Φ : Fns} {k : Nat} {ct : Ct} {X : Cx} {r : Cmp}
theorem se_bad {e : Expr} : SE g Φ k ct e .bad := by
  intro X xo ρ σ H F S Q W tk G
  exact G.elim
theorem st_bad {e : Expr} : ST g Φ k ct e (.val .bad) := by
  intro X xo ρ σ H F S Q W tk G
  exact G.elim
theorem stw_bad {e : Expr} : STw g Φ k ct e (.val .bad) := by
  intro X xo ρ σ H F S Q W tk G
  exact G.elim
theorem ss_bad {s : Stmt} : SS g Φ k ct s .bad := by
  intro X xo ρ σ H F S Z W tk G
  exact G.elim
theorem si_bad {tg e : Expr} : SI g Φ k ct tg e (.seq .bad) := si_seq se_bad
theorem se_dict0 {pos : Pos} : SE g Φ k ct (.Dict [] [] pos) .dict0 := by
  intro X xo ρ σ H F S Q W tk G
  refine PE.d pe_dnewK fun p hp => ?_
  exact res_end S (fun _ z => z) G (Res.dic S.sub hp .nil ⟨rfl, fun l hl => by cases hl⟩ .nil)
structure Snd (g : Gi) (Φ : Fns) (k : Nat) (r : Cmp) : Prop where
  e : ∀ ct e, SE g Φ k ct e (r.e ct e)
  t : ∀ ct e, ST g Φ k ct e (r.t ct e)
  s : ∀ ct s, SS g Φ k ct s (r.s ct s)
theorem name_snd {x : Str} {pos : Pos} : SE g Φ k ct (.Name x pos) (nameC ct x) := by
  unfold nameC
  split
  · rename_i hp
    split
    · rename_i hv
      split
      · rename_i hN
        exact se_var hN hv hp
      · exact se_bad
    · split
      · rename_i hg
        split
        · rename_i d hl; exact se_cst hg hl hp
        · rename_i n hl; exact se_fn hg hl hp
        · exact se_bad
      · exact se_bad
  · exact se_bad
theorem const_snd {c : Const} {j : Nat} {pos : Pos} : SE g Φ k ct (.Constant c j pos) (constC c) := by
  unfold constC
  split
  · exact se_int
  · exact se_bl
  · exact se_non
  · split
    · rename_i h; exact se_str h
    · exact se_bad
  · exact se_bad
theorem bopOf_ok {o : Operator} {b : Bop} (h : bopOf o = some b) : o = bopP b := by
  cases o <;> simp only [bopOf] at h <;> cases h <;> rfl
theorem copOf_ok (o : CmpOp) : copP (copOf o) = o := by cases o <;> rfl
theorem cmp_snd (hr : Snd g Φ k r) {a : Expr} {ops : List CmpOp} {cs : List Expr} {pos : Pos} : SE g Φ k ct (.Compare a ops cs pos) (cmpC r ct a ops cs) ∧ ST g Φ k ct (.Compare a ops cs pos) (.val (cmpC r ct a ops cs)) := by
  unfold cmpC
  split
  · rename_i o b
    split
    · rename_i h
      have h1 := se_cmp (pos := pos) (hr.e ct a) (hr.e ct b) h
      have h2 := st_cmp (pos := pos) (hr.e ct a) (hr.e ct b) h
      rw [copOf_ok] at h1 h2
      exact ⟨h1, h2⟩
    · exact ⟨se_bad, st_bad⟩
  · rename_i o1 o2 b c
    split
    · rename_i h
      have h1 := se_chain (pos := pos) (hr.e ct a) (hr.e ct b) (hr.e ct c) h
      have h2 := st_chain (pos := pos) (hr.e ct a) (hr.e ct b) (hr.e ct c) h
      rw [copOf_ok, copOf_ok] at h1 h2
      exact ⟨h1, h2⟩
    · exact ⟨se_bad, st_bad⟩
  · exact ⟨se_bad, st_bad⟩
theorem and_snd (hr : Snd g Φ k r) {pos : Pos} : ∀ es : List Expr, SE g Φ k ct (.BoolOp .And es pos) (andC r ct es)
  | [] => se_bad
  | [a] => se_one (hr.e ct a)
  | a :: b :: rest => se_and (hr.e ct a) (and_snd hr (b :: rest))
theorem or_snd (hr : Snd g Φ k r) {pos : Pos} : ∀ es : List Expr, SE g Φ k ct (.BoolOp .Or es pos) (orC r ct es)
  | [] => se_bad
  | [a] => se_one (hr.e ct a)
  | a :: b :: rest => se_or (hr.e ct a) (or_snd hr (b :: rest))
theorem andT_snd (hr : Snd g Φ k r) {pos : Pos} : ∀ es : List Expr, STw g Φ k ct (.BoolOp .And es pos) (andT r ct es)
  | [] => stw_bad
  | [a] => stw_and1 (hr.t ct a)
  | a :: b :: rest => stw_and (hr.t ct a) (andT_snd hr (b :: rest))
theorem orT_snd (hr : Snd g Φ k r) {pos : Pos} : ∀ es : List Expr, STw g Φ k ct (.BoolOp .Or es pos) (orT r ct es)
  | [] => stw_bad
  | [a] => stw_or1 (hr.t ct a)
  | a :: b :: rest => stw_or (hr.t ct a) (orT_snd hr (b :: rest))
theorem opt_snd (hr : Snd g Φ k r) (o : Option Expr) : SO g Φ k ct (optC r ct o).1 o (optC r ct o).2 := by
  cases o with
  | none => exact .no
  | some e => exact .so (hr.e ct e)
theorem sub_snd (hr : Snd g Φ k r) {a b : Expr} {pos : Pos} : SE g Φ k ct (.Subscript a b pos) (subC r ct a b) := by
  unfold subC
  split
  · exact se_sl (hr.e ct a) (opt_snd hr _) (opt_snd hr _)
  · exact se_rev (hr.e ct a) (hr.e ct _)
  · split
    · rename_i h
      exact se_sub (hr.e ct a) (hr.e ct b) h
    · exact se_bad
theorem es_snd (hr : Snd g Φ k r) : ∀ {es : List Expr}, es.all nst = true → SA g Φ k ct es (esC r ct es)
  | [], _ => sa_nil
  | e :: es, h => by
    rw [List.all_cons, Bool.and_eq_true] at h
    exact sa_cons (hr.e ct e) (es_snd hr h.2) h.1
theorem es_len {es : List Expr} : esLen (esC r ct es) = es.length := by
  induction es with
  | nil => rfl
  | cons e es ih => show esLen (esC r ct es) + 1 = es.length + 1; rw [ih]
theorem ks_snd (hr : Snd g Φ k r) : ∀ {es : List Keyword}, SK g Φ k ct es (ksC r ct es)
  | [] => sk_nil
  | ⟨n, v, p⟩ :: es => sk_cons (hr.e ct v) (ks_snd hr)
theorem ks_len {es : List Keyword} : esLen (ksC r ct es) = es.length := by
  induction es with
  | nil => rfl
  | cons e es ih => show esLen (ksC r ct es) + 1 = es.length + 1; rw [ih]
theorem kwN_ok : ∀ {kws : List Keyword} {ks : List Str}, kwN kws = some ks → kws.map (·.arg) = ks.map some
  | [], ks, h => by cases h; rfl
  | q :: kws, ks, h => by
    unfold kwN at h
    split at h
    · rename_i x r e1 e2
      cases h
      rw [List.map_cons, List.map_cons, kwN_ok e2, e1]
    · cases h
theorem isFree_ok {x : Str} (h : isFree ct x = true) : glB ct.sc x = true ∧ ct.gl.lookup x = some .free := by
  unfold isFree at h
  rw [Bool.and_eq_true] at h
  refine ⟨h.1, ?_⟩
  have h2 := h.2
  split at h2
  · assumption
  · cases h2
theorem isi_snd (hr : Snd g Φ k r) {args : List Expr} {p pos : Pos} : SE g Φ k ct (.Call (.Name (Str.ofString "isinstance") p) args [] pos) (isiC r ct args) := by
  unfold isiC
  split
  · rename_i e es j p2
    split
    · rename_i f hq
      split
      · rename_i hc
        rw [Bool.and_eq_true] at hc
        have ht := List.find?_some hq
        cases hf : isiTs f with
        | none => simp only [hf] at ht; cases ht
        | some cs =>
          simp only [hf] at ht
          exact se_isiT hf (isFree_ok hc.1).1 (isFree_ok hc.1).2 ht hc.2 (hr.e ct e)
      · exact se_bad
    · exact se_bad
  · rename_i e y p2
    split
    · rename_i q hq
      split
      · rename_i hc
        rw [Bool.and_eq_true, Bool.and_eq_true] at hc
        have hy : Str.ofString q.2 = y := by
          have := List.find?_some hq
          simpa using this
        have hm := List.mem_of_find?_eq_some hq
        have hi : isiN q.1 = some q.2 := by
          unfold isiAll at hm
          simp only [List.mem_cons, List.not_mem_nil, or_false] at hm
          rcases hm with h | h | h | h | h <;> rw [h] <;> rfl
        subst hy
        exact se_isi hi (isFree_ok hc.1.1).1 (isFree_ok hc.1.1).2 (isFree_ok hc.1.2).1 (isFree_ok hc.1.2).2 hc.2 (hr.e ct e)
      · exact se_bad
    · exact se_bad
  · exact se_bad
theorem fn_snd (hr : Snd g Φ k r) {x : Str} {args : List Expr} {kws : List Keyword} {p pos : Pos} : SE g Φ k ct (.Call (.Name x p) args kws pos) (fnC r ct x args kws) := by
  unfold fnC
  split
  · rename_i n ks hl hks
    split
    · rename_i q hq
      split
      · rename_i hc
        simp only [Bool.and_eq_true, decide_eq_true_eq] at hc
        obtain ⟨⟨⟨⟨⟨c1, c2⟩, c3⟩, c4⟩, c5⟩, c6⟩ := hc
        have z : args = [] → esC r ct args = .nil := fun h => by rw [h]; rfl
        have hk := kwN_ok hks
        cases kws with
        | nil =>
          cases ks with
          | nil => exact se_call0 c1 hl c2 c3 (by rw [es_len]; exact c4) c5 c6 z (es_snd hr c6)
          | cons _ _ => cases hk
        | cons kw kws =>
          exact se_callK c1 hl c2 c3 (by rw [es_len]; exact c4) c5 c6 z hk (by rw [ks_len]; have := congrArg List.length hk; rwa [List.length_map, List.length_map] at this) (es_snd hr c6) (ks_snd hr)
      · exact se_bad
    · exact se_bad
  · exact se_bad
theorem bfn_snd (hr : Snd g Φ k r) {x : Str} {args : List Expr} {kws : List Keyword} {p pos : Pos} : SE g Φ k ct (.Call (.Name x p) args kws pos) (bfnC r ct x args kws) := by
  unfold bfnC
  split
  · rename_i a b
    split
    · rename_i id hl
      split
      · rename_i hc
        rw [Bool.and_eq_true, Bool.and_eq_true, Bool.and_eq_true, decide_eq_true_eq] at hc
        obtain ⟨⟨⟨rfl, h2⟩, h3⟩, h4⟩ := hc
        exact se_gcd h2 hl (by simpa using h3) h4 (es_snd hr h4)
      · exact se_bad
    · exact se_bad
  · exact se_bad
theorem isRng_ok {y : Str} (h : isRng ct y = true) : y = Str.ofString "range" ∧ glB ct.sc (Str.ofString "range") = true ∧ ct.gl.lookup (Str.ofString "range") = some .free := by
  unfold isRng at h
  rw [Bool.and_eq_true, decide_eq_true_eq] at h
  obtain ⟨rfl, h⟩ := h
  exact ⟨rfl, isFree_ok h⟩
theorem lrng_snd (hr : Snd g Φ k r) {args : List Expr} {p pos : Pos} : SE g Φ k ct (.Call (.Name (Str.ofString "list") p) args [] pos) (lrngC r ct args) := by
  unfold lrngC
  split
  · split
    · rename_i hc
      rw [Bool.and_eq_true, Bool.and_eq_true, Bool.and_eq_true] at hc
      obtain ⟨⟨⟨h1, h2⟩, h3⟩, h4⟩ := hc
      obtain ⟨rfl, h5, h6⟩ := isRng_ok h1
      exact se_lrng1 h3 (isFree_ok h2).1 (isFree_ok h2).2 h5 h6 h4 (hr.e ct _)
    · exact se_bad
  · split
    · rename_i hc
      rw [Bool.and_eq_true, Bool.and_eq_true, Bool.and_eq_true, Bool.and_eq_true] at hc
      obtain ⟨⟨⟨⟨h1, h2⟩, h3⟩, h4⟩, h7⟩ := hc
      obtain ⟨rfl, h5, h6⟩ := isRng_ok h1
      exact se_lrng2 h3 (isFree_ok h2).1 (isFree_ok h2).2 h5 h6 h4 h7 (hr.e ct _) (hr.e ct _)
    · exact se_bad
  · exact se_bad
theorem call_snd (hr : Snd g Φ k r) {x : Str} {args : List Expr} {kws : List Keyword} {p pos : Pos} : SE g Φ k ct (.Call (.Name x p) args kws pos) (callC r ct x args kws) := by
  unfold callC
  split
  · exact bfn_snd hr
  split
  · rename_i hb
    rw [Bool.and_eq_true, Bool.and_eq_true, decide_eq_true_eq] at hb
    obtain ⟨⟨hx, _⟩, hk⟩ := hb
    have hk : kws = [] := by simpa using hk
    subst hx hk
    exact lrng_snd hr
  split
  · rename_i hx
    subst hx
    split
    · exact isi_snd hr
    · exact se_bad
  · split
    · rename_i f hf
      have hx : biN f = x := by
        have := List.find?_some hf
        simpa using this
      have hi : isiB f = false := by
        have hm := List.mem_of_find?_eq_some hf
        unfold biAll at hm
        simp only [List.mem_cons, List.not_mem_nil, or_false] at hm
        rcases hm with h | h | h | h | h | h | h | h | h | h <;> rw [h] <;> rfl
      subst hx
      split
      · rename_i e es
        split
        · rename_i hc
          rw [Bool.and_eq_true, Bool.and_eq_true] at hc
          exact se_bi (isFree_ok hc.1.1).1 (isFree_ok hc.1.1).2 hi hc.1.2 hc.2 (es_snd hr hc.2)
        · exact se_bad
      · exact se_bad
    · exact fn_snd hr
theorem mth_snd (hr : Snd g Φ k r) {o : Expr} {m : Str} {apos pos : Pos} {args : List Expr} : SE g Φ k ct (.Call (.Attribute o m apos) args [] pos) (mthC r ct o m apos pos args) := by
  unfold mthC
  split
  · rename_i e
    split
    · rename_i hc
      rw [Bool.and_eq_true, Bool.and_eq_true] at hc
      have ha : SA g Φ k ct [e] (.cons (r.e ct e) .nil) := sa_cons (hr.e ct e) sa_nil hc.2
      split
      · rename_i h; subst h; exact se_strip hc.1.1 hc.1.2 hc.2 (hr.e ct o) ha
      · split
        · rename_i h; subst h; exact se_join hc.1.1 hc.1.2 hc.2 (hr.e ct o) ha
        · split
          · rename_i h; subst h; exact se_append hc.1.1 hc.1.2 hc.2 (hr.e ct o) ha
          · split
            · rename_i h; subst h
              split
              · exact se_lindex hc.1.1 hc.1.2 hc.2 (hr.e ct o) ha
              · exact se_index hc.1.1 hc.1.2 hc.2 (hr.e ct o) ha
            · exact se_bad
    · exact se_bad
  · split
    · rename_i hc
      rw [Bool.and_eq_true] at hc
      split
      · rename_i h; subst h; exact se_bits hc.1 hc.2 (hr.e ct o)
      · exact se_bad
    · exact se_bad
  · exact se_bad
theorem walk_snd (hr : Snd g Φ k r) {tg : Expr} (it : Expr) : SI g Φ k ct tg it (walkC r ct tg it) := by
  unfold walkC
  split
  · rename_i x p a pos
    split
    · rename_i h
      subst h
      split
      · rename_i hc
        rw [Bool.and_eq_true] at hc
        exact si_rng1 (isFree_ok hc.1).1 (isFree_ok hc.1).2 hc.2 (hr.e ct a)
      · exact si_bad
    · split
      · rename_i h
        subst h
        split
        · rename_i hc
          rw [Bool.and_eq_true, Bool.and_eq_true] at hc
          cases tg <;> first
            | exact si_enum (isFree_ok hc.1.1).1 (isFree_ok hc.1.1).2 hc.1.2 (hr.e ct a)
            | exact absurd hc.2 (fun z => nomatch z)
        · exact si_bad
      · split
        · rename_i h
          subst h
          split
          · rename_i hc
            rw [Bool.and_eq_true] at hc
            exact si_back (isFree_ok hc.1).1 (isFree_ok hc.1).2 hc.2 (hr.e ct a)
          · exact si_bad
        · exact si_seq (hr.e ct _)
  · rename_i x p a b pos
    split
    · rename_i h
      subst h
      split
      · rename_i hc
        rw [Bool.and_eq_true, Bool.and_eq_true] at hc
        exact si_rng2 (isFree_ok hc.1.1).1 (isFree_ok hc.1.1).2 hc.1.2 hc.2 (hr.e ct a) (hr.e ct b)
      · exact si_bad
    · split
      · rename_i h
        subst h
        split
        · rename_i hc
          rw [Bool.and_eq_true, Bool.and_eq_true, Bool.and_eq_true] at hc
          cases tg <;> first
            | exact si_zip (isFree_ok hc.1.1.1).1 (isFree_ok hc.1.1.1).2 hc.1.1.2 hc.1.2 (hr.e ct a) (hr.e ct b)
            | exact absurd hc.2 (fun z => nomatch z)
        · exact si_bad
      · exact si_seq (hr.e ct _)
  · rename_i x p a b y c1 c2 kp pos
    split
    · rename_i h
      rw [Bool.and_eq_true, decide_eq_true_eq, decide_eq_true_eq] at h
      obtain ⟨h, h'⟩ := h
      subst h h'
      split
      · rename_i hc
        rw [Bool.and_eq_true, Bool.and_eq_true, Bool.and_eq_true] at hc
        cases tg <;> first
          | exact si_zipS (isFree_ok hc.1.1.1).1 (isFree_ok hc.1.1.1).2 hc.1.1.2 hc.1.2 (hr.e ct a) (hr.e ct b)
          | exact absurd hc.2 (fun z => nomatch z)
      · exact si_bad
    · exact si_seq (hr.e ct _)
  · exact si_seq (hr.e ct _)
theorem tg_snd {tg : Expr} {is : List Nat} (h : tgC ct tg = some is) : SG g Φ k ct tg is := by
  unfold tgC at h
  split at h
  · rename_i x p
    split at h
    · rename_i hc
      cases h
      simp only [Bool.and_eq_true, decide_eq_true_eq] at hc
      exact sg_name hc.1.1 hc.1.2 hc.2
    · cases h
  · rename_i es a b
    dsimp only at h
    split at h
    · rename_i hc
      cases h
      rw [Bool.and_eq_true, Bool.and_eq_true] at hc
      exact sg_tup hc.1.1 hc.1.2 (by simpa using hc.2)
    · cases h
  · cases h
theorem ts_snd (hr : Snd g Φ k r) {ifs : List Expr} {ts : Ts} (h : tsC r ct ifs = some ts) : STs g Φ k ct ifs ts := by
  unfold tsC at h
  split at h
  · cases h; exact .nil
  · cases h; exact .one (hr.t ct _)
  · cases h
theorem lc_snd (hr : Snd g Φ k r) {elt : Expr} {gs : List Comprehension} {scope : Scope} {pos : Pos} : SE g Φ k ct (.ListComp elt gs scope pos) (lcC r ct elt gs scope) := by
  unfold lcC
  split
  · rename_i tg iter ifs
    split
    · rename_i is ts h1 h2
      split
      · rename_i hc
        simp only [Bool.and_eq_true] at hc
        exact se_lc hc.1.1.1 hc.1.1.2 hc.1.2 (walk_snd hr iter) (tg_snd h1) (ts_snd hr h2) (hr.e _ elt) hc.2
      · exact se_bad
    · exact se_bad
  · exact se_bad
theorem stepE_snd (hr : Snd g Φ k r) (ct : Ct) (e : Expr) : SE g Φ k ct e (stepE r ct e) := by
  unfold stepE
  split
  · exact name_snd
  · exact const_snd
  · rename_i a op b p
    split
    · rename_i o ho
      rw [bopOf_ok ho]
      exact se_bin (hr.e ct a) (hr.e ct b)
    · exact se_bad
  · exact (cmp_snd hr).1
  · exact and_snd hr _
  · exact or_snd hr _
  · exact se_not (hr.e ct _)
  · exact se_neg
  · exact se_ifx (hr.t ct _) (hr.e ct _) (hr.e ct _)
  · exact sub_snd hr
  · split
    · rename_i h; exact se_tup (es_snd hr h)
    · exact se_bad
  · split
    · rename_i h; exact se_lst (es_snd hr h)
    · exact se_bad
  · exact se_dict0
  · exact lc_snd hr
  · exact call_snd hr
  · exact mth_snd hr
  · exact se_bad
theorem stepT_snd (hr : Snd g Φ k r) (ct : Ct) (e : Expr) : ST g Φ k ct e (stepT r ct e) := by
  unfold stepT
  split
  · exact (andT_snd hr _).st
  · exact (orT_snd hr _).st
  · exact st_not (hr.t ct _)
  · exact (cmp_snd hr).2
  · split
    · rename_i h; exact st_val (hr.e ct _) h
    · exact st_bad
theorem sss_snd (hr : Snd g Φ k r) : ∀ {ss : List Stmt}, SSs g Φ k ct ss (ssC r ct ss)
  | [] => sss_nil
  | s :: ss => sss_cons (hr.s ct s) (sss_snd hr)
theorem noTup_of {v : Expr} (hv : ∀ (a : List Expr) (b : Nat) (c : Pos), v = .Tuple a b c → False) : noTup v = true := by
  unfold noTup
  split
  · exact (hv _ _ _ rfl).elim
  · rfl
theorem tup_snd (hr : Snd g Φ k r) {es : List Expr} {v : Expr} {j : Nat} {p pos : Pos} : SS g Φ k ct (.Assign [.Tuple es j p] v pos) (tupC r ct es v) := by
  unfold tupC
  dsimp only
  split
  case isFalse => exact ss_bad
  rename_i hc
  rw [Bool.and_eq_true] at hc
  split
  · rename_i vs a b
    split
    · rename_i hw
      split
      · rename_i h
        rw [Bool.and_eq_true, decide_eq_true_eq] at h
        exact ss_parT hc.1 hc.2 h.1 hw (es_snd hr h.2)
      · exact ss_unpT hc.1 hc.2 hw (hr.e ct _)
    · rename_i ns hw
      split
      · rename_i x px y py a b _
        split
        · rename_i h
          simp only [Bool.and_eq_true, decide_eq_true_eq, bne_iff_ne] at h
          obtain ⟨⟨⟨⟨⟨h1, h2⟩, h3⟩, h4⟩, h5⟩, h6⟩ := h
          exact ss_par2 hc.1 h1 h2 h3 (es_snd hr (by rw [List.all_cons, List.all_cons, h4, h5] <;> rfl)) h6
        · exact ss_bad
      · rename_i x px y py z pz a b c _
        split
        · rename_i h
          simp only [Bool.and_eq_true, decide_eq_true_eq, bne_iff_ne] at h
          obtain ⟨⟨⟨⟨⟨⟨⟨⟨⟨h1, h2⟩, h3⟩, h4⟩, h5⟩, h6⟩, h7⟩, h8⟩, h9⟩, h10⟩ := h
          exact ss_par3 hc.1 h1 h2 h3 h4 h5 h6 (es_snd hr (by rw [List.all_cons, List.all_cons, List.all_cons, h7, h8, h9] <;> rfl)) h10
        · exact ss_bad
      · exact ss_bad
    · exact ss_bad
  · rename_i v hv
    split
    · rename_i h
      exact ss_unp hc.1 hc.2 h (noTup_of hv) (hr.e ct _)
    · exact ss_bad
theorem asg_snd (hr : Snd g Φ k r) {t v : Expr} {pos : Pos} : SS g Φ k ct (.Assign [t] v pos) (asgC r ct t v) := by
  unfold asgC
  split
  · rename_i x p
    split
    case isFalse => exact ss_bad
    rename_i hc
    unfold slotOk at hc
    simp only [Bool.and_eq_true, decide_eq_true_eq] at hc
    split
    · rename_i elt gs scope p2
      unfold lcC
      split
      · rename_i tg iter ifs
        split
        · rename_i is ts h1 h2
          split
          · rename_i h
            simp only [Bool.and_eq_true] at h
            exact ss_setLc h.1.1.1 h.1.1.2 h.1.2 (walk_snd hr iter) (tg_snd h1) (ts_snd hr h2) (hr.e _ elt) h.2 hc.1.1 hc.1.2 hc.2
          · intro X xo ρ σ H F S Z W tk G
            exact G.elim
        · intro X xo ρ σ H F S Z W tk G
          exact G.elim
      · intro X xo ρ σ H F S Z W tk G
        exact G.elim
    · split
      · rename_i h
        exact ss_set h hc.1.1 hc.1.2 hc.2 (hr.e ct _)
      · exact ss_bad
  · split
    · rename_i h
      rw [Bool.and_eq_true] at h
      exact ss_put h.1 h.2 (hr.e ct _) (hr.e ct _) (hr.e ct _)
    · exact ss_bad
  · exact tup_snd hr
  · exact ss_bad
theorem stepS_snd (hr : Snd g Φ k r) (ct : Ct) (s : Stmt) : SS g Φ k ct s (stepS r ct s) := by
  unfold stepS
  split
  · split
    · rename_i h; exact ss_expr h (hr.e ct _)
    · exact ss_bad
  · exact asg_snd hr
  · exact ss_ret (hr.e ct _)
  · exact ss_iff (hr.t ct _) (sss_snd hr) (sss_snd hr)
  · split
    · rename_i is h
      split
      · rename_i hc
        rw [Bool.and_eq_true, Bool.and_eq_true] at hc
        exact ss_for hc.1.1 hc.1.2 hc.2 (walk_snd hr _) (tg_snd h) (sss_snd hr)
      · exact ss_bad
    · exact ss_bad
  · split
    · rename_i h; exact ss_while h (hr.t ct _) (sss_snd hr)
    · exact ss_bad
  · exact ss_brk
  · exact ss_cont
  · exact ss_pass
  · exact ss_bad
theorem comp_snd : ∀ n : Nat, Snd g Φ k (comp n)
  | 0 => ⟨fun _ _ => se_bad, fun _ _ => st_bad, fun _ _ => ss_bad⟩
  | n + 1 => ⟨stepE_snd (comp_snd n), stepT_snd (comp_snd n), stepS_snd (comp_snd n)⟩
end
end Ev

set_option Elab.async false
set_option linter.all false
set_option maxRecDepth 100000
set_option maxHeartbeats 1000000
/-! Ev9: a law's end. Own work. -/
namespace Ev
open PySem PySem.Spec PyProof.Rows L2
section
variable {P : Program} {w : World} {K : PySem.W.Frag} {mg mb : Str → Option Value} {g : Gi} {Φ : Fns} {k n : Nat} {f a : Addr} {fd : FuncData} {x : Str} {st : Shared} {vs : List Value} {ns : List Int}
/-- what the evaluator says of the law -/
def Says (Φ : Fns) (n : Nat) (ns : List Int) : Prop := ∃ own outs, Φ n [⟨.fz, .scr ns⟩] = .ret own (.bl true) outs
theorem gd_law {T : Hp} (h : Says Φ n ns) : GdC g [⟨.fz, .scr ns⟩] [.ref a] T T (Φ n [⟨.fz, .scr ns⟩]) (fun v _ => v = .bl true) (fun _ _ _ => False) := by
  obtain ⟨own, outs, e⟩ := h
  rw [e]
  intro _ v H' F' _ hv
  cases own with
  | false => cases hv; rfl
  | true =>
    obtain ⟨_, _, _, _, c, _⟩ := hv
    rcases c with ⟨_, _, z, _⟩ | ⟨_, _, _, z, _⟩ <;> cases z
theorem sim_law {T : Hp} (hK : K = g.K) (h : SqL K T a (ns.map V.int)) : Sim g ([⟨.fz, .scr ns⟩].map some) ([V.ref a].map some) T T := by
  refine ⟨rfl, fun _ _ z => z, fun i s hs => ?_, fun i j s t b h1 _ m1 => ?_⟩
  · rw [get_map] at hs
    cases i with
    | zero => cases hs; exact ⟨_, rfl, .scr (by rw [← hK]; exact h)⟩
    | succ i => cases hs
  · rw [get_map] at h1
    cases i with
    | zero => cases h1; exact absurd rfl m1
    | succ i => cases h1
/-- the frame that calls the law, over a heap in which at most the script is tracked -/
theorem law_at {T : Hp} (KX : K.In st.heap) (G : st.heap.Ns mainGlobals mg) (B : st.heap.Ns builtinsNs mb) (BB : ∀ y : Str, y ≠ "__name__" → mb y = bootBuiltins y) (L : st.heap.NoLimit) (gens : st.gens = #[])
    (at_a : st.heap.get? a = some { cls := .type "list", data := .seq vs.toArray }) (room : Room k callerA) (hK : K = g.K) (FG : ∀ b : Heap, K.In b → b.Ns mainGlobals mg → FnG P w K mg b g Φ k f fd [x] n)
    (bd : ∀ (s : Shared) (u : Value), BindsTo s fd ⟨[u], []⟩ [(x, u)]) (says : Says Φ n ns) (only : Only T) (scr : SqL K T a (ns.map V.int)) (ok : HOk P w T st.heap) (alone : ∀ b, T b ≠ none → b = a ∧ K.lookup a = none) :
    codeAny (model P w) callerA (.call (.ref f) ⟨[.ref a], []⟩) (fun r s' => r = .ok (.ret (.bool true)) ∧ OldK st.heap s'.heap ∧ s'.os = st.os ∧ AllBare s'.gens) st := by
  have plain : ∀ {b : Addr} {o : Obj}, st.heap.get? b = some o → (b = a → K.lookup a ≠ none ∨ ∀ v c, o.data ≠ .seq v c) → (hidT st.heap T).get? b = some o := fun {b o} e hb => by
    refine hidT_get e (Classical.byContradiction fun q => ?_)
    obtain ⟨rfl, kn⟩ := alone b q
    rcases hb rfl with z | z
    · exact z kn
    · rw [at_a] at e
      cases e
      exact z _ _ rfl
  have names : ∀ {b : Addr} {m : Str → Option Value}, st.heap.Ns b m → (hidT st.heap T).Ns b m := fun {b m} ⟨o, es, ep, e, d, r⟩ =>
    ⟨o, es, ep, plain e (fun _ => .inr fun v c z => by rw [d] at z; cases z), d, r⟩
  have kin : K.In (hidT st.heap T) := fun b o e => plain (KX b o e) fun hb => .inl (by rw [← hb, e]; exact fun z => nomatch z)
  have mod : Mod K mg (hidT st.heap T) := ⟨kin, names G, ⟨mb, names B, BB⟩, L.elim fun m h => ⟨m, names h.1, h.2⟩⟩
  have env : Env0 P w K mg (hidT st.heap T) callerA [] st T := ⟨rfl, mod, fun _ _ e => of_hidT e, Nat.le_of_eq (hidT_size _ _), trivial, (fun b hb => nomatch hb), ok, .of_eq gens⟩
  have run := FG _ kin (names G) callerA [] st T T ⟨[.ref a], []⟩ [.ref a] [.ref a] [⟨.fz, .scr ns⟩] _ _ room rfl env (bd st (.ref a)) (.cons rfl .nil) rfl (sim_law hK scr) (gd_law says)
  refine codeAny_mono run fun r s' h => ?_
  match r, h with
  | .error e, h =>
    obtain ⟨_, _, _, _, _, _, _, _, _, _, _, _, z⟩ := h
    exact z.elim
  | .ok .next, h => exact h.elim
  | .ok .brk, h => exact h.elim
  | .ok .cont, h => exact h.elim
  | .ok (.ret u), h =>
    obtain ⟨v, T', os, bare, un, ok', rv, q⟩ := h
    have q : v = .bl true := q
    subst q
    cases (show u = Value.bool true from rv)
    refine ⟨rfl, OldK.of_keep fun b o e => ?_, os, bare⟩
    rcases only b with z | ⟨ob, xs, z⟩
    · exact un.keep b o e z (fun y => nomatch y) (fun y => nomatch y)
    · have old := (ok b _ z).1
      have new := (ok' b _ (un.frzs b ob _ z)).1
      rw [e] at old
      cases old
      exact new
theorem law_run (KX : K.In st.heap) (G : st.heap.Ns mainGlobals mg) (B : st.heap.Ns builtinsNs mb) (BB : ∀ y : Str, y ≠ "__name__" → mb y = bootBuiltins y) (L : st.heap.NoLimit) (gens : st.gens = #[])
    (at_a : st.heap.get? a = some { cls := .type "list", data := .seq vs.toArray }) (hi : IntsAre vs ns) (hl : ns.length ≤ sizeLine) (room : Room k callerA) (hK : K = g.K) (FG : ∀ b : Heap, K.In b → b.Ns mainGlobals mg → FnG P w K mg b g Φ k f fd [x] n)
    (bd : ∀ (s : Shared) (u : Value), BindsTo s fd ⟨[u], []⟩ [(x, u)]) (says : Says Φ n ns) :
    codeAny (model P w) callerA (.call (.ref f) ⟨[.ref a], []⟩) (fun r s' => r = .ok (.ret (.bool true)) ∧ OldK st.heap s'.heap ∧ s'.os = st.os ∧ AllBare s'.gens) st := by
  have rv : Vals (ns.map V.int) vs := vals_ints hi
  cases hk : K.lookup a with
  | some o =>
    have same := KX a o hk
    rw [at_a] at same
    cases same
    have scr : SqL K (fun _ => none) a (ns.map V.int) := .inr ⟨_, vs.toArray, _, hk, rfl, rfl, rfl, by rw [List.size_toArray, hi.length]; exact hl, by rw [List.toList_toArray]; exact rv⟩
    exact law_at KX G B BB L gens at_a room hK FG bd says (fun _ => .inl rfl) scr (fun b u z => nomatch z) fun b z => absurd rfl z
  | none =>
    have u1 : (upd (fun _ => none) a (.frz { cls := .type "list", data := .seq vs.toArray } (.lst (ns.map V.int))) : Hp) a = some (.frz { cls := .type "list", data := .seq vs.toArray } (.lst (ns.map V.int))) := upd_same
    refine law_at (T := upd (fun _ => none) a (.frz { cls := .type "list", data := .seq vs.toArray } (.lst (ns.map V.int)))) KX G B BB L gens at_a room hK FG bd says (fun b => ?_) (.inl (.inr ⟨_, u1⟩)) (fun b u z => ?_) fun b z => ⟨Classical.byContradiction fun hb => z (upd_ne hb), hk⟩
    · by_cases hb : b = a
      · subst hb; exact .inr ⟨_, _, u1⟩
      · exact .inl (upd_ne hb)
    · by_cases hb : b = a
      · subst hb
        rw [u1] at z
        cases z
        exact ⟨at_a, by rw [List.length_map]; exact hl, vs, _, rv, at_a⟩
      · rw [upd_ne hb] at z
        cases z
/-- the goal behind the head -/
theorem walk_g {l : PySem.W.OpenLaw} {m k : Nat} {q : Program} {loose : List Str} {XP : (Str → Option Value) → Heap → Prop} {YP : World → Heap → Prop} {d : DefRec} {x : Str} (hn : l.most = some m) (hm : m ≤ sizeLine) (hdf : d.params.defaults = []) (room : Room k callerA)
    (F : ∀ (w : World) (mg : Str → Option Value) (fa : Addr) (h : Heap), YP w h → h.Ns mainGlobals mg → mg d.name = some (.ref fa) → ∃ (g : Gi) (Φ : Fns) (n : Nat) (fd : FuncData), g.K.In h ∧ (∀ (s : Shared) (u : Value), BindsTo s fd ⟨[u], []⟩ [(x, u)]) ∧
      (∀ b : Heap, g.K.In b → b.Ns mainGlobals mg → FnG l.prog w g.K mg b g Φ k fa fd [x] n) ∧ ∀ ns : List Int, ns.length ≤ m → Says Φ n ns) :
    PySem.W.WalkO q loose XP YP l.row.toRowW d [] (fun f vs => PySem.call f vs) := by
  refine Att.attach_call hn hdf fun w _ s1 mg _ fa _ _ _ _ _ vs ns G Y _ _ _ hmg hobj hints hlen hg => ?_
  obtain ⟨g, Φ, n, fd, KX, bd, FG, says⟩ := F w mg fa _ Y G.T.g hmg
  exact law_run KX G.T.g G.T.b G.T.builtins G.T.nolimit hg hobj hints (Nat.le_trans hlen hm) room rfl FG bd (says ns hlen)
end
end Ev

set_option Elab.async false
set_option linter.all false
set_option maxRecDepth 100000
set_option maxHeartbeats 1000000
/-! Ev9b: from the head's facts to the law. Own work. -/
namespace Ev
open PySem PySem.Spec PyProof.Rows L2
/-- of each def: its slots' names, its parameters, those that are set anew -/
structure FI where
  N : List Str
  ps : List Str
  reb : List Nat
deriving DecidableEq
abbrev Gls := List (Str × GK)
abbrev Sgs := List (Nat × Nat × List Str × List Nat)
def isBf : GK → Bool
  | .bfn _ => true
  | _ => false
def faOf : Str × GK → He.Fa
  | (x, .fn _) => .glo x
  | (x, .free) => .free x
  | (x, .cst (.int i)) => .int x i
  | (x, .cst (.str l)) => .str x ⟨l.toArray⟩
  | (x, _) => .free x
def gkB (fn : List He.DefD) : Str × GK → Bool
  | (x, .fn n) => match fn[n]? with
    | some d => decide (d.at_ = (x, none))
    | none => false
  | (_, .free) => true
  | (_, .bfn _) => true
  | (_, .cst (.int _)) => true
  | (_, .cst (.str l)) => okLB l
  | _ => false
def fnScopeB (N P : List Str) (sc : Scope) : Bool :=
  (sc.kind == .function) && (sc.isCoroutine == false) && (sc.isGenerator == false) && decide N.Nodup && decide (N.take P.length = P) && (P.all fun x => sc.names.lookup x == some .local || sc.names.lookup x == some .cell) && sc.names.all fun y => y.2 != .free
theorem fnScopeB_ok {N P : List Str} {sc : Scope} (h : fnScopeB N P sc = true) : FnScope N P sc := by
  unfold fnScopeB at h
  simp only [Bool.and_eq_true, List.all_eq_true, decide_eq_true_eq, beq_iff_eq, bne_iff_ne, Bool.or_eq_true] at h
  obtain ⟨⟨⟨⟨⟨⟨h1, h2⟩, h3⟩, h4⟩, h5⟩, h6⟩, h7⟩ := h
  exact ⟨h1, h2, h3, h4, h5, h6, h7⟩
/-- plain parameters, nothing else -/
def mkP (ps : List Str) : Arguments := ⟨[], ps.map fun x => ⟨x, none, ⟨0, 0, 0, 0⟩⟩, none, [], [], none, []⟩
def simB (p : Arguments) (ps : List Str) : Bool := p.posonlyargs.isEmpty && decide (p.args.map (·.arg) = ps) && p.vararg.isNone && p.kwonlyargs.isEmpty && p.kwarg.isNone
def fiB (q : He.DefD × FI) : Bool := q.1.dfl.isEmpty && q.1.kwd.isEmpty && fnScopeB q.2.N q.2.ps q.1.scope && simB q.1.params q.2.ps
theorem bind_eq {name qual : Str} {params : Arguments} {body : List Stmt} {scope : Scope} {dV kV doc pm cdv ctv : Value} {an : Option Addr} {ps : List Str} {args : Args} (h : simB params ps = true) :
    bindArgs (PySem.W.fnOf name qual params body scope dV kV doc pm an cdv ctv) args = bindArgs (PySem.W.fnOf name qual (mkP ps) body scope dV kV doc pm an cdv ctv) args := by
  unfold simB at h
  simp only [Bool.and_eq_true, decide_eq_true_eq, List.isEmpty_iff, Option.isNone_iff_eq_none] at h
  obtain ⟨⟨⟨⟨h1, h2⟩, h3⟩, h4⟩, h5⟩ := h
  obtain ⟨p1, p2, p3, p4, p5, p6, p7⟩ := params
  dsimp only at h1 h2 h3 h4 h5
  subst h1 h3 h4 h5
  have e : (ps.map fun x => (⟨x, none, ⟨0, 0, 0, 0⟩⟩ : Arg)).map (·.arg) = p2.map (·.arg) := by
    rw [List.map_map, h2]
    exact List.map_id' ps
  unfold bindArgs mkP PySem.W.fnOf
  simp only [e]
def dfOf (fuel : Nat) (gl : Gls) (sg : Sgs) (q : He.DefD × FI) : Df := ⟨q.2.ps.length, q.2.N.length, q.2.reb, ssC (comp fuel) (ctOf q.2.N q.1.scope gl sg q.2.ps.length q.2.reb) q.1.body⟩
def tabFrom (fuel : Nat) (gl : Gls) (sg : Sgs) : Nat → List (He.DefD × FI) → Tab
  | _, [] => []
  | i, q :: r => (i, dfOf fuel gl sg q) :: tabFrom fuel gl sg (i + 1) r
theorem tab_at {fuel : Nat} {gl : Gls} {sg : Sgs} : ∀ {l : List (He.DefD × FI)} {i j : Nat} {q : He.DefD × FI}, l[j]? = some q → (tabFrom fuel gl sg i l).lookup (i + j) = some (dfOf fuel gl sg q)
  | [], i, j, q, h => by simp at h
  | p :: r, i, 0, q, h => by
    cases h
    unfold tabFrom
    rw [Nat.add_zero, List.lookup_cons_self]
  | p :: r, i, j + 1, q, h => by
    unfold tabFrom
    have ne : (i + (j + 1) == i) = false := by simp
    rw [List.lookup_cons, ne]
    have := tab_at (fuel := fuel) (gl := gl) (sg := sg) (l := r) (i := i + 1) (j := j) (q := q) (by simpa using h)
    rw [show i + 1 + j = i + (j + 1) by omega] at this
    exact this
/-- how such a def binds -/
def BndF (ps : List Str) (np : Nat) (ks : List Str) (pm : List Nat) : Prop :=
  pm.length = ps.length ∧ ∀ (name qual : Str) (body : List Stmt) (scope : Scope) (kV doc pmv : Value) (an : Option Addr) (cdv ctv : Value) (us ws as : List Value), us.length = np → ws.length = ks.length → pick pm (us ++ ws) = some as →
    bindArgs (PySem.W.fnOf name qual (mkP ps) body scope .none kV doc pmv an cdv ctv) ⟨us, ks.zip ws⟩ = pure (ps.zip as)
def SgAll (l : List FI) : Sgs → Prop
  | [] => True
  | (n, np, ks, pm) :: r => (∀ q, l[n]? = some q → BndF q.ps np ks pm) ∧ SgAll l r
theorem sgAll_at {l : List FI} : ∀ {sg : Sgs}, SgAll l sg → ∀ {n np : Nat} {ks : List Str} {pm : List Nat}, (n, np, ks, pm) ∈ sg → ∀ q, l[n]? = some q → BndF q.ps np ks pm
  | [], _, _, _, _, _, h, _, _ => by cases h
  | e :: r, ha, n, np, ks, pm, h, q, hq => by
    rcases List.mem_cons.mp h with h | h
    · subst h
      exact ha.1 q hq
    · exact sgAll_at ha.2 h q hq
/-! ### the head's hook, with the names of modules' functions -/
def bfOf (gl : Gls) : List (Str × String) := gl.filterMap fun p => match p.2 with
  | .bfn id => some (p.1, id)
  | _ => none
def bfB (bl : List (Str × String)) (K : PySem.W.Frag) : Bool := bl.all fun p => decide (PySem.W.nsIn K mainGlobals p.1 = some (some (.builtin p.2)))
abbrev AlB : Type := He.AlD × Bool
def SaysB (fa : List He.Fa) (fn : List He.DefD) (bl : List (Str × String)) (K : PySem.W.Frag) : Prop := He.SaysD fa fn K ∧ bfB bl K = true
def obsB (n : Nat) (fa : List He.Fa) (fn : List He.DefD) (bl : List (Str × String)) (g : Addr → Option Obj) : AlB := (He.obsDG n fa fn g, bfB bl (He.frG g (He.asD g n)))
def hookB (n : Nat) (fa : List He.Fa) (fn : List He.DefD) (bl : List (Str × String)) : PySem.W.Hook where
  α := AlB
  obs := fun s => obsB n fa fn bl s.heap.get?
  val := fun _ => (He.valD fn, true)
  says := fun _ h => ∃ K : PySem.W.Frag, K.In h ∧ SaysB fa fn bl K
  of := fun _ _ e => ⟨_, He.frG_in, congrArg Prod.fst e, congrArg Prod.snd e⟩
  keeps := fun _ _ _ ⟨K, hK, c⟩ k => ⟨K, PySem.W.Frag.In.keeps hK k, c⟩
theorem obsB_eq {n : Nat} {fa : List He.Fa} {fn : List He.DefD} {bl : List (Str × String)} {g : Addr → Option Obj} {s : Shared} (h : ∀ a, g a = s.heap.get? a) : obsB n fa fn bl g = (hookB n fa fn bl).obs s := by
  have e : g = s.heap.get? := funext h
  subst e
  rfl
section
variable {P : Program} {w : World} {K : PySem.W.Frag} {h : Heap} {mg : Str → Option Value} {fn : List He.DefD} {fa : List He.Fa} {l : List (He.DefD × FI)} {gl : Gls} {sg : Sgs} {fuel : Nat}
theorem says_all (c : He.SaysD fa fn K) : ∀ f ∈ fa, f.ok K = true := by
  have := congrArg Prod.fst c
  have h1 : ((fa.all fun f => f.ok K) && fn.all fun d => d.ok K) = true := this
  rw [Bool.and_eq_true, List.all_eq_true] at h1
  exact h1.1
/-- what stands where -/
def giOf (K : PySem.W.Frag) (l : List (He.DefD × FI)) : Gi := ⟨K, fun n => (l[n]?).map fun q => He.fAd K q.1.at_, fun _ => none⟩
theorem glob_ok (KX : K.In h) (G : h.Ns mainGlobals mg) (c : SaysB fa (l.map (·.1)) (bfOf gl) K) (hfa : ∀ e ∈ gl, isBf e.2 = false → faOf e ∈ fa) (hgl : gl.all (gkB (l.map (·.1))) = true) : ∀ x q, gl.lookup x = some q → match q with
    | .fn n => ∃ f, (giOf K l).fa n = some f ∧ mg x = some (.ref f)
    | .free => mg x = none
    | .cst d => ∃ v u, mg x = some u ∧ RelV v u ∧ ∀ F, RD (giOf K l) F v d
    | .bfn id => mg x = some (.builtin id) := by
  intro x q hq
  have hm : (x, q) ∈ gl := PySem.mem_of_lookup hq
  have ok := fun hb => says_all c.1 _ (hfa _ hm hb)
  rw [List.all_eq_true] at hgl
  have hb := hgl _ hm
  cases q with
  | fn n =>
    unfold gkB at hb
    dsimp only at hb
    rw [List.getElem?_map] at hb
    cases hl : l[n]? with
    | none => rw [hl] at hb; cases hb
    | some d =>
      rw [hl] at hb
      have e : d.1.at_ = (x, none) := of_decide_eq_true hb
      refine ⟨He.fAd K d.1.at_, by show (l[n]?).map _ = _; rw [hl] <;> rfl, ?_⟩
      rw [e]
      exact He.glo_ok KX G (ok rfl)
  | free => exact He.free_ok KX G (ok rfl)
  | cst d =>
    cases d with
    | int i =>
      obtain ⟨t, e⟩ := He.int_ok KX G (ok rfl)
      exact ⟨.int i, _, e, ⟨t, rfl⟩, fun F => .int i⟩
    | str s =>
      obtain ⟨t, e⟩ := He.str_ok KX G (ok rfl)
      exact ⟨.str ⟨s.toArray⟩, _, e, ⟨t, rfl⟩, fun F => .str s (okLB_ok hb)⟩
    | _ => cases hb
  | bfn id =>
    have h2 := c.2
    unfold bfB at h2
    rw [List.all_eq_true] at h2
    have hm2 : (x, id) ∈ bfOf gl := List.mem_filterMap.mpr ⟨(x, .bfn id), hm, rfl⟩
    exact PySem.W.mg_of KX G (of_decide_eq_true (h2 _ hm2))
theorem wd_all (KX : K.In h) (G : h.Ns mainGlobals mg) (c : SaysB fa (l.map (·.1)) (bfOf gl) K) (hfa : ∀ e ∈ gl, isBf e.2 = false → faOf e ∈ fa) (hgl : gl.all (gkB (l.map (·.1))) = true) (hfi : l.all fiB = true) (hsg : SgAll (l.map (·.2)) sg) (base : Heap) :
    ∀ k, Wd P w K mg base (giOf K l) (Phi (tabFrom fuel gl sg 0 l) k) k gl sg := by
  have key : ∀ k, (k = 0 ∨ ∃ j, k = j + 1 ∧ Wd P w K mg base (giOf K l) (Phi (tabFrom fuel gl sg 0 l) j) j gl sg) → Wd P w K mg base (giOf K l) (Phi (tabFrom fuel gl sg 0 l) k) k gl sg := fun k hk => by
    refine ⟨rfl, glob_ok KX G c hfa hgl, fun n f hf => ?_⟩
    have hf : (l[n]?).map (fun q => He.fAd K q.1.at_) = some f := hf
    cases hl : l[n]? with
    | none => rw [hl] at hf; cases hf
    | some q =>
      rw [hl] at hf
      have hf : He.fAd K q.1.at_ = f := Option.some.inj hf
      obtain ⟨fd, FD⟩ := c.1.def_ n (d := q.1) (by rw [List.getElem?_map, hl] <;> rfl)
      rw [hf] at FD
      have hq : fiB q = true := by
        rw [List.all_eq_true] at hfi
        exact hfi q (List.mem_of_getElem? hl)
      unfold fiB at hq
      rw [Bool.and_eq_true, Bool.and_eq_true, Bool.and_eq_true] at hq
      obtain ⟨⟨⟨q1, q2⟩, q3⟩, q4⟩ := hq
      have ex := FD.ex
      obtain ⟨oc, od, dV, kV, doc, pm, an, cdv, ctv, osl, rfl, lk, hcd, hD, hKw⟩ := ex
      have dv : dV = .none := by
        rcases hD with ⟨_, e⟩ | ⟨e, _⟩
        · exact e
        · exfalso
          apply e
          unfold He.DefD.dvs
          rw [List.isEmpty_iff.mp q1] <;> rfl
      subst dv
      refine ⟨PySem.W.fnOf q.1.name q.1.qual q.1.params q.1.body q.1.scope .none kV doc pm an cdv ctv, q.2.ps, FD.kp, ?_, fun np ks pmv hm => ?_⟩
      · rcases hk with rfl | ⟨j, rfl, wd⟩
        · intro A outer s H F args us vs as Q E _ _ _ _ _ _ _ G
          exact G.elim
        · have look := tab_at (fuel := fuel) (gl := gl) (sg := sg) (i := 0) hl
          rw [Nat.zero_add] at look
          exact fn_g lk hcd (fnScopeB_ok q3) wd look rfl rfl (sss_snd (comp_snd fuel))
      · have B := sgAll_at hsg hm q.2 (by rw [List.getElem?_map, hl] <;> rfl)
        exact ⟨B.1, fun s us ws as _ h1 h2 h3 => BindsTo.of_eq ((bind_eq q4).trans (B.2 _ _ _ _ kV doc pm an cdv ctv us ws as h1 h2 h3))⟩
  intro k
  induction k with
  | zero => exact key 0 (.inl rfl)
  | succ k ih => exact key (k + 1) (.inr ⟨k, rfl, ih⟩)
/-- the law's promise -/
theorem law_F {k m n : Nat} {q : He.DefD × FI} {x : Str} {f : Addr} {Δ : Tab} (hl : l[n]? = some q) (hps : q.2.ps = [x]) (hat : q.1.at_ = (q.1.name, none)) (hs : (n, 1, [], [0]) ∈ sg) (hin : (q.1.name, GK.fn n) ∈ gl) (hfa : ∀ e ∈ gl, isBf e.2 = false → faOf e ∈ fa) (hgl : gl.all (gkB (l.map (·.1))) = true) (hfi : l.all fiB = true) (hsg : SgAll (l.map (·.2)) sg)
    (hΔ : tabFrom fuel gl sg 0 l = Δ) (says : ∀ ns : List Int, ns.length ≤ m → Says (Phi Δ k) n ns) (KX : K.In h) (G : h.Ns mainGlobals mg) (c : SaysB fa (l.map (·.1)) (bfOf gl) K) (hmg : mg q.1.name = some (.ref f)) :
    ∃ (g : Gi) (Φ : Fns) (n : Nat) (fd : FuncData), g.K.In h ∧ (∀ (s : Shared) (u : Value), BindsTo s fd ⟨[u], []⟩ [(x, u)]) ∧ (∀ b : Heap, g.K.In b → b.Ns mainGlobals mg → FnG P w g.K mg b g Φ k f fd [x] n) ∧ ∀ ns : List Int, ns.length ≤ m → Says Φ n ns := by
  subst hΔ
  have glo : mg q.1.name = some (.ref (He.ga K q.1.name)) := He.glo_ok KX G (says_all c.1 _ (hfa _ hin rfl))
  have hf : He.fAd K q.1.at_ = f := by
    rw [hmg] at glo
    rw [hat]
    cases glo
    rfl
  obtain ⟨fd, FD⟩ := c.1.def_ n (d := q.1) (by rw [List.getElem?_map, hl] <;> rfl)
  rw [hf] at FD
  have hq : fiB q = true := by
    rw [List.all_eq_true] at hfi
    exact hfi q (List.mem_of_getElem? hl)
  unfold fiB at hq
  rw [Bool.and_eq_true, Bool.and_eq_true, Bool.and_eq_true] at hq
  obtain ⟨⟨⟨q1, q2⟩, q3⟩, q4⟩ := hq
  obtain ⟨oc, od, dV, kV, doc, pm, an, cdv, ctv, osl, rfl, lk, hcd, hD, hKw⟩ := FD.ex
  have dv : dV = .none := by
    rcases hD with ⟨_, e⟩ | ⟨e, _⟩
    · exact e
    · exfalso
      apply e
      unfold He.DefD.dvs
      rw [List.isEmpty_iff.mp q1] <;> rfl
  subst dv
  have B := sgAll_at hsg hs q.2 (by rw [List.getElem?_map, hl] <;> rfl)
  have hps' : ∀ us ws as, us.length = 1 → ws.length = ([] : List Str).length → pick [0] (us ++ ws) = some as → bindArgs (PySem.W.fnOf q.1.name q.1.qual q.1.params q.1.body q.1.scope .none kV doc pm an cdv ctv) ⟨us, ([] : List Str).zip ws⟩ = pure (q.2.ps.zip as) := fun us ws as h1 h2 h3 => (bind_eq q4).trans (B.2 _ _ _ _ kV doc pm an cdv ctv us ws as h1 h2 h3)
  rw [hps] at hps'
  refine ⟨giOf K l, _, n, _, KX, fun s u => BindsTo.of_eq (hps' [u] [] [u] rfl rfl rfl), fun b _ _ => ?_, says⟩
  cases k with
  | zero =>
    intro A outer s H F args us vs as Q E _ _ _ _ _ _ _ G
    exact G.elim
  | succ j =>
    have look := tab_at (fuel := fuel) (gl := gl) (sg := sg) (i := 0) hl
    rw [Nat.zero_add] at look
    have wd := wd_all (P := P) (w := w) (fuel := fuel) KX G c hfa hgl hfi hsg b j
    have := fn_g lk hcd (fnScopeB_ok q3) wd look rfl rfl (sss_snd (comp_snd fuel))
    rw [hps] at this
    exact this
end
end Ev

set_option Elab.async false
set_option linter.all false
set_option maxRecDepth 100000
set_option maxHeartbeats 0
namespace Lw
open PySem PySem.Spec PyProof.Rows L2 Ev
def nameOf : Stmt → Str
  | .FunctionDef n _ _ _ _ _ _ _ _ _ => n
  | _ => ""
def dOf (s : Stmt) : He.DefD := ⟨(nameOf s, none), nameOf s, nameOf s, defArgs s, defBody s, defScope s, [], []⟩
def isDef : Stmt → Bool
  | .FunctionDef _ _ _ _ _ _ _ _ _ _ => true
  | _ => false
def fis : List FI := [
  ⟨[Str.ofString "value"], [Str.ofString "value"], []⟩,
  ⟨[Str.ofString "value", Str.ofString "low", Str.ofString "high"], [Str.ofString "value", Str.ofString "low", Str.ofString "high"], []⟩,
  ⟨[Str.ofString "number", Str.ofString "low", Str.ofString "high"], [Str.ofString "number", Str.ofString "low", Str.ofString "high"], []⟩,
  ⟨[Str.ofString "value"], [Str.ofString "value"], []⟩,
  ⟨[Str.ofString "word"], [Str.ofString "word"], []⟩,
  ⟨[Str.ofString "letters", Str.ofString "at"], [Str.ofString "letters"], []⟩,
  ⟨[Str.ofString "value"], [Str.ofString "value"], []⟩,
  ⟨[Str.ofString "joints"], [Str.ofString "joints"], []⟩,
  ⟨[Str.ofString "word", Str.ofString "place"], [Str.ofString "word", Str.ofString "place"], []⟩,
  ⟨[Str.ofString "size", Str.ofString "value", Str.ofString "place"], [Str.ofString "size", Str.ofString "value"], []⟩,
  ⟨[Str.ofString "size", Str.ofString "program"], [Str.ofString "size", Str.ofString "program"], []⟩,
  ⟨[Str.ofString "size", Str.ofString "program", Str.ofString "found", Str.ofString "place"], [Str.ofString "size", Str.ofString "program"], []⟩,
  ⟨[Str.ofString "word", Str.ofString "moves", Str.ofString "place"], [Str.ofString "word", Str.ofString "moves"], []⟩,
  ⟨[Str.ofString "word", Str.ofString "program"], [Str.ofString "word", Str.ofString "program"], []⟩,
  ⟨[Str.ofString "moves", Str.ofString "seen", Str.ofString "found", Str.ofString "first", Str.ofString "here", Str.ofString "lot"], [Str.ofString "moves"], []⟩,
  ⟨[Str.ofString "moves", Str.ofString "times", Str.ofString "found", Str.ofString "lot", Str.ofString "at", Str.ofString "place"], [Str.ofString "moves", Str.ofString "times"], []⟩,
  ⟨[Str.ofString "numbers", Str.ofString "found", Str.ofString "number"], [Str.ofString "numbers"], []⟩,
  ⟨[Str.ofString "word", Str.ofString "joints"], [Str.ofString "word", Str.ofString "joints"], []⟩,
  ⟨[Str.ofString "word", Str.ofString "joints", Str.ofString "place"], [Str.ofString "word", Str.ofString "joints", Str.ofString "place"], []⟩,
  ⟨[Str.ofString "word", Str.ofString "joints", Str.ofString "value", Str.ofString "found", Str.ofString "place"], [Str.ofString "word", Str.ofString "joints", Str.ofString "value"], []⟩,
  ⟨[Str.ofString "word", Str.ofString "joints", Str.ofString "road", Str.ofString "found"], [Str.ofString "word", Str.ofString "joints", Str.ofString "road"], []⟩,
  ⟨[Str.ofString "word", Str.ofString "joints", Str.ofString "road"], [Str.ofString "word", Str.ofString "joints", Str.ofString "road"], []⟩,
  ⟨[Str.ofString "word", Str.ofString "joints"], [Str.ofString "word", Str.ofString "joints"], []⟩,
  ⟨[Str.ofString "word", Str.ofString "joints", Str.ofString "found", Str.ofString "pieces", Str.ofString "letter"], [Str.ofString "word", Str.ofString "joints"], []⟩,
  ⟨[Str.ofString "count", Str.ofString "numbers"], [Str.ofString "count", Str.ofString "numbers"], []⟩,
  ⟨[Str.ofString "numbers", Str.ofString "number"], [Str.ofString "numbers"], []⟩,
  ⟨[Str.ofString "found", Str.ofString "pieces", Str.ofString "moves", Str.ofString "turn", Str.ofString "word", Str.ofString "at", Str.ofString "place"], [Str.ofString "found", Str.ofString "pieces", Str.ofString "moves", Str.ofString "turn"], []⟩,
  ⟨[Str.ofString "word", Str.ofString "joints", Str.ofString "numbers", Str.ofString "found", Str.ofString "pieces"], [Str.ofString "word", Str.ofString "joints", Str.ofString "numbers"], []⟩,
  ⟨[Str.ofString "word", Str.ofString "joints", Str.ofString "numbers", Str.ofString "times", Str.ofString "found", Str.ofString "pieces", Str.ofString "moves"], [Str.ofString "word", Str.ofString "joints", Str.ofString "numbers", Str.ofString "times"], []⟩,
  ⟨[Str.ofString "word", Str.ofString "joints", Str.ofString "road", Str.ofString "passed", Str.ofString "found", Str.ofString "there", Str.ofString "place", Str.ofString "letter"], [Str.ofString "word", Str.ofString "joints", Str.ofString "road"], []⟩,
  ⟨[Str.ofString "word", Str.ofString "joints", Str.ofString "numbers", Str.ofString "found", Str.ofString "number", Str.ofString "place", Str.ofString "at", Str.ofString "letter"], [Str.ofString "word", Str.ofString "joints", Str.ofString "numbers"], [0]⟩,
  ⟨[Str.ofString "count", Str.ofString "numbers", Str.ofString "turns", Str.ofString "step", Str.ofString "lot"], [Str.ofString "count", Str.ofString "numbers"], []⟩,
  ⟨[Str.ofString "seed", Str.ofString "index", Str.ofString "mixed"], [Str.ofString "seed", Str.ofString "index"], []⟩,
  ⟨[Str.ofString "generator", Str.ofString "bound", Str.ofString "drawn", Str.ofString "turn"], [Str.ofString "generator", Str.ofString "bound"], []⟩,
  ⟨[Str.ofString "script", Str.ofString "index"], [Str.ofString "script", Str.ofString "index"], []⟩,
  ⟨[Str.ofString "script", Str.ofString "index", Str.ofString "seed"], [Str.ofString "script", Str.ofString "index"], []⟩,
  ⟨[Str.ofString "generator", Str.ofString "letters", Str.ofString "size", Str.ofString "turn"], [Str.ofString "generator", Str.ofString "letters", Str.ofString "size"], []⟩,
  ⟨[Str.ofString "word_told", Str.ofString "place"], [Str.ofString "word_told", Str.ofString "place"], []⟩,
  ⟨[Str.ofString "told", Str.ofString "due", Str.ofString "one", Str.ofString "other"], [Str.ofString "told", Str.ofString "due"], []⟩,
  ⟨[Str.ofString "generator", Str.ofString "joints_told", Str.ofString "many", Str.ofString "pieces", Str.ofString "turn"], [Str.ofString "generator", Str.ofString "joints_told", Str.ofString "many"], []⟩,
  ⟨[Str.ofString "found", Str.ofString "pieces", Str.ofString "word_told", Str.ofString "at", Str.ofString "letter"], [Str.ofString "found", Str.ofString "pieces"], []⟩,
  ⟨[Str.ofString "word_told", Str.ofString "joints_told", Str.ofString "place", Str.ofString "letter"], [Str.ofString "word_told", Str.ofString "joints_told"], []⟩,
  ⟨[Str.ofString "word_told", Str.ofString "joints_told", Str.ofString "items", Str.ofString "places", Str.ofString "item", Str.ofString "place"], [Str.ofString "word_told", Str.ofString "joints_told", Str.ofString "items"], [0]⟩,
  ⟨[Str.ofString "generator", Str.ofString "joints_told", Str.ofString "many", Str.ofString "found", Str.ofString "pieces", Str.ofString "word_told", Str.ofString "items", Str.ofString "turn", Str.ofString "handed", Str.ofString "due", Str.ofString "told", Str.ofString "item"], [Str.ofString "generator"], []⟩,
  ⟨[Str.ofString "generator", Str.ofString "word_told", Str.ofString "joints_told", Str.ofString "road_told", Str.ofString "there", Str.ofString "turn", Str.ofString "places", Str.ofString "told"], [Str.ofString "generator", Str.ofString "word_told", Str.ofString "joints_told", Str.ofString "road_told"], [3]⟩,
  ⟨[Str.ofString "generator", Str.ofString "word_told", Str.ofString "joints_told", Str.ofString "items", Str.ofString "there", Str.ofString "times_told", Str.ofString "order", Str.ofString "far", Str.ofString "near"], [Str.ofString "generator", Str.ofString "word_told", Str.ofString "joints_told", Str.ofString "items"], []⟩,
  ⟨[Str.ofString "generator", Str.ofString "many", Str.ofString "word_told", Str.ofString "turn", Str.ofString "items", Str.ofString "due"], [Str.ofString "generator"], []⟩,
  ⟨[Str.ofString "script", Str.ofString "index", Str.ofString "long", Str.ofString "told"], [Str.ofString "script"], []⟩]
def gns : List Str := [Str.ofString "is_whole", Str.ofString "is_between", Str.ofString "check_number", Str.ofString "is_letters_alone", Str.ofString "check_word", Str.ofString "rises", Str.ofString "is_letters_in_order", Str.ofString "check_joints", Str.ofString "swapped_at", Str.ofString "is_program", Str.ofString "check_program", Str.ofString "moved_by", Str.ofString "led_by", Str.ofString "done_by", Str.ofString "rounds_of", Str.ofString "often", Str.ofString "common_times", Str.ofString "check_pair_words", Str.ofString "is_open", Str.ofString "words_passed", Str.ofString "passed", Str.ofString "done", Str.ofString "check_pair_jointnumbers", Str.ofString "parts_of", Str.ofString "check_numbers", Str.ofString "turn_of", Str.ofString "put_together", Str.ofString "done_by_numbers", Str.ofString "done_by_numbers_often", Str.ofString "numbers_of", Str.ofString "road_of", Str.ofString "numbers_order", Str.ofString "_law_hash", Str.ofString "_law_random", Str.ofString "_law_cell", Str.ofString "_law_generator", Str.ofString "_law_word", Str.ofString "_law_swapped", Str.ofString "_law_exact", Str.ofString "_law_drawn", Str.ofString "_law_put", Str.ofString "_law_places", Str.ofString "_law_walked_by", Str.ofString "_law_right", Str.ofString "_law_roads_right", Str.ofString "_law_often_right", Str.ofString "_law_many_right", Str.ofString "law"]
def lst : List (He.DefD × FI) := (List.zipWith (fun d x => ({ d with at_ := (x, none) } : He.DefD)) ((PySem.Challenge.pw_chanceswaps_k71_whole_joints_by_numbers.main.body.filter isDef).map dOf) gns).zip fis
def gl : Gls := [(Str.ofString "is_whole", GK.fn 0), (Str.ofString "is_between", GK.fn 1), (Str.ofString "check_number", GK.fn 2), (Str.ofString "is_letters_alone", GK.fn 3), (Str.ofString "check_word", GK.fn 4), (Str.ofString "rises", GK.fn 5), (Str.ofString "is_letters_in_order", GK.fn 6), (Str.ofString "check_joints", GK.fn 7), (Str.ofString "swapped_at", GK.fn 8), (Str.ofString "is_program", GK.fn 9), (Str.ofString "check_program", GK.fn 10), (Str.ofString "moved_by", GK.fn 11), (Str.ofString "led_by", GK.fn 12), (Str.ofString "done_by", GK.fn 13), (Str.ofString "rounds_of", GK.fn 14), (Str.ofString "often", GK.fn 15), (Str.ofString "common_times", GK.fn 16), (Str.ofString "check_pair_words", GK.fn 17), (Str.ofString "is_open", GK.fn 18), (Str.ofString "words_passed", GK.fn 19), (Str.ofString "passed", GK.fn 20), (Str.ofString "done", GK.fn 21), (Str.ofString "check_pair_jointnumbers", GK.fn 22), (Str.ofString "parts_of", GK.fn 23), (Str.ofString "check_numbers", GK.fn 24), (Str.ofString "turn_of", GK.fn 25), (Str.ofString "put_together", GK.fn 26), (Str.ofString "done_by_numbers", GK.fn 27), (Str.ofString "done_by_numbers_often", GK.fn 28), (Str.ofString "numbers_of", GK.fn 29), (Str.ofString "road_of", GK.fn 30), (Str.ofString "numbers_order", GK.fn 31), (Str.ofString "_law_hash", GK.fn 32), (Str.ofString "_law_random", GK.fn 33), (Str.ofString "_law_cell", GK.fn 34), (Str.ofString "_law_generator", GK.fn 35), (Str.ofString "_law_word", GK.fn 36), (Str.ofString "_law_swapped", GK.fn 37), (Str.ofString "_law_exact", GK.fn 38), (Str.ofString "_law_drawn", GK.fn 39), (Str.ofString "_law_put", GK.fn 40), (Str.ofString "_law_places", GK.fn 41), (Str.ofString "_law_walked_by", GK.fn 42), (Str.ofString "_law_right", GK.fn 43), (Str.ofString "_law_roads_right", GK.fn 44), (Str.ofString "_law_often_right", GK.fn 45), (Str.ofString "_law_many_right", GK.fn 46), (Str.ofString "law", GK.fn 47), (Str.ofString "bool", GK.free), (Str.ofString "enumerate", GK.free), (Str.ofString "int", GK.free), (Str.ofString "isinstance", GK.free), (Str.ofString "len", GK.free), (Str.ofString "list", GK.free), (Str.ofString "max", GK.free), (Str.ofString "range", GK.free), (Str.ofString "repr", GK.free), (Str.ofString "str", GK.free), (Str.ofString "sum", GK.free), (Str.ofString "tuple", GK.free), (Str.ofString "zip", GK.free), (Str.ofString "%lindex", GK.free), (Str.ofString "gcd", GK.bfn "math.gcd"), (Str.ofString "LETTERS", GK.cst (.str [97, 98, 99, 100, 101, 102, 103, 104, 105, 106, 107, 108, 109, 110, 111, 112, 113, 114, 115, 116, 117, 118, 119, 120, 121, 122])), (Str.ofString "MOST_COUNT", GK.cst (.int 60))]
def sg : Sgs := [(0, 1, [], [0]), (1, 3, [], [0, 1, 2]), (2, 3, [], [0, 1, 2]), (3, 1, [], [0]), (4, 1, [], [0]), (5, 1, [], [0]), (6, 1, [], [0]), (7, 1, [], [0]), (8, 2, [], [0, 1]), (9, 2, [], [0, 1]), (10, 2, [], [0, 1]), (11, 2, [], [0, 1]), (12, 2, [], [0, 1]), (13, 2, [], [0, 1]), (14, 1, [], [0]), (15, 2, [], [0, 1]), (16, 1, [], [0]), (17, 2, [], [0, 1]), (18, 3, [], [0, 1, 2]), (19, 3, [], [0, 1, 2]), (20, 3, [], [0, 1, 2]), (21, 3, [], [0, 1, 2]), (22, 2, [], [0, 1]), (23, 2, [], [0, 1]), (24, 2, [], [0, 1]), (25, 1, [], [0]), (26, 4, [], [0, 1, 2, 3]), (27, 0, [Str.ofString "numbers", Str.ofString "joints", Str.ofString "word"], [2, 1, 0]), (27, 3, [], [0, 1, 2]), (28, 0, [Str.ofString "times", Str.ofString "numbers", Str.ofString "joints", Str.ofString "word"], [3, 2, 1, 0]), (28, 4, [], [0, 1, 2, 3]), (29, 0, [Str.ofString "road", Str.ofString "joints", Str.ofString "word"], [2, 1, 0]), (29, 3, [], [0, 1, 2]), (30, 0, [Str.ofString "numbers", Str.ofString "joints", Str.ofString "word"], [2, 1, 0]), (30, 3, [], [0, 1, 2]), (31, 2, [], [0, 1]), (32, 2, [], [0, 1]), (33, 2, [], [0, 1]), (34, 2, [], [0, 1]), (35, 2, [], [0, 1]), (36, 3, [], [0, 1, 2]), (37, 2, [], [0, 1]), (38, 2, [], [0, 1]), (39, 3, [], [0, 1, 2]), (40, 2, [], [0, 1]), (41, 2, [], [0, 1]), (42, 3, [], [0, 1, 2]), (43, 1, [], [0]), (44, 4, [], [0, 1, 2, 3]), (45, 4, [], [0, 1, 2, 3]), (46, 1, [], [0]), (47, 1, [], [0])]
def fa : List He.Fa := (gl.filter fun e => !isBf e.2).map faOf
abbrev R : PySem.W.OpenRow := PySem.W.OpenLaw.row PySem.Challenge.rw_chanceswaps_k71_whole_joints_by_numbers
abbrev hk : PySem.W.Hook := hookB 4 fa (lst.map (·.1)) (bfOf gl)
def ob (s : PySem.W.SharedT) : AlB := obsB 4 fa (lst.map (·.1)) (bfOf gl) (HandSHeadRun.getT s)
theorem ob_eq (s : PySem.W.SharedT) : ob s = hk.obs s.abs := obsB_eq (HandSHeadRun.getT_eq s)
def names0 : List PySem.Str := [Str.ofString "SwapError", Str.ofString "InvalidNumber", Str.ofString "InvalidWord", Str.ofString "InvalidJoints", Str.ofString "InvalidRoad", Str.ofString "LETTERS", Str.ofString "is_whole", Str.ofString "is_between", Str.ofString "check_number", Str.ofString "is_letters_alone", Str.ofString "check_word", Str.ofString "rises", Str.ofString "is_letters_in_order", Str.ofString "check_joints", Str.ofString "swapped_at", Str.ofString "is_program", Str.ofString "check_program", Str.ofString "moved_by", Str.ofString "led_by", Str.ofString "done_by", Str.ofString "rounds_of", Str.ofString "often", Str.ofString "common_times", Str.ofString "check_pair", Str.ofString "check_pair_words", Str.ofString "is_open", Str.ofString "words_passed", Str.ofString "passed", Str.ofString "done", Str.ofString "MOST_COUNT"]
def names1 : List PySem.Str := [Str.ofString "check_pair_jointnumbers", Str.ofString "parts_of", Str.ofString "check_numbers", Str.ofString "turn_of", Str.ofString "put_together", Str.ofString "done_by_numbers", Str.ofString "done_by_numbers_often", Str.ofString "numbers_of", Str.ofString "road_of", Str.ofString "numbers_order", Str.ofString "_law_hash", Str.ofString "_law_random", Str.ofString "_law_cell", Str.ofString "_law_generator", Str.ofString "_law_word", Str.ofString "_law_swapped", Str.ofString "_law_exact", Str.ofString "_law_drawn", Str.ofString "_law_put", Str.ofString "_law_places", Str.ofString "_law_walked_by", Str.ofString "_law_right", Str.ofString "_law_roads_right", Str.ofString "_law_often_right", Str.ofString "_law_many_right"]
def names : List PySem.Str := names0 ++ names1
theorem run (w : World) : HandSHeadRun.RunEqI R (PySem.W.view R.prog [0, 64]) hk ob 20000 names w := by
  unfold HandSHeadRun.RunEqI
  kernel_rfl
theorem gl_ok : gl.all (gkB (lst.map (·.1))) = true := by decide +kernel
theorem fi_ok : lst.all fiB = true := by decide +kernel
theorem len_ok : lst.length = 48 := by decide +kernel
theorem snd_ok : lst.map (·.2) = fis := by decide +kernel
theorem sg_ok : SgAll fis sg := by
  refine ⟨fun q hq => ?_, ?_⟩
  · cases hq
    refine ⟨rfl, fun name qual body scope kV doc pmv an cdv ctv us ws as h1 h2 h3 => ?_⟩
    match us, ws, h1, h2 with
    | [a0], [], _, _ => cases h3; kernel_rfl
  refine ⟨fun q hq => ?_, ?_⟩
  · cases hq
    refine ⟨rfl, fun name qual body scope kV doc pmv an cdv ctv us ws as h1 h2 h3 => ?_⟩
    match us, ws, h1, h2 with
    | [a0, a1, a2], [], _, _ => cases h3; kernel_rfl
  refine ⟨fun q hq => ?_, ?_⟩
  · cases hq
    refine ⟨rfl, fun name qual body scope kV doc pmv an cdv ctv us ws as h1 h2 h3 => ?_⟩
    match us, ws, h1, h2 with
    | [a0, a1, a2], [], _, _ => cases h3; kernel_rfl
  refine ⟨fun q hq => ?_, ?_⟩
  · cases hq
    refine ⟨rfl, fun name qual body scope kV doc pmv an cdv ctv us ws as h1 h2 h3 => ?_⟩
    match us, ws, h1, h2 with
    | [a0], [], _, _ => cases h3; kernel_rfl
  refine ⟨fun q hq => ?_, ?_⟩
  · cases hq
    refine ⟨rfl, fun name qual body scope kV doc pmv an cdv ctv us ws as h1 h2 h3 => ?_⟩
    match us, ws, h1, h2 with
    | [a0], [], _, _ => cases h3; kernel_rfl
  refine ⟨fun q hq => ?_, ?_⟩
  · cases hq
    refine ⟨rfl, fun name qual body scope kV doc pmv an cdv ctv us ws as h1 h2 h3 => ?_⟩
    match us, ws, h1, h2 with
    | [a0], [], _, _ => cases h3; kernel_rfl
  refine ⟨fun q hq => ?_, ?_⟩
  · cases hq
    refine ⟨rfl, fun name qual body scope kV doc pmv an cdv ctv us ws as h1 h2 h3 => ?_⟩
    match us, ws, h1, h2 with
    | [a0], [], _, _ => cases h3; kernel_rfl
  refine ⟨fun q hq => ?_, ?_⟩
  · cases hq
    refine ⟨rfl, fun name qual body scope kV doc pmv an cdv ctv us ws as h1 h2 h3 => ?_⟩
    match us, ws, h1, h2 with
    | [a0], [], _, _ => cases h3; kernel_rfl
  refine ⟨fun q hq => ?_, ?_⟩
  · cases hq
    refine ⟨rfl, fun name qual body scope kV doc pmv an cdv ctv us ws as h1 h2 h3 => ?_⟩
    match us, ws, h1, h2 with
    | [a0, a1], [], _, _ => cases h3; kernel_rfl
  refine ⟨fun q hq => ?_, ?_⟩
  · cases hq
    refine ⟨rfl, fun name qual body scope kV doc pmv an cdv ctv us ws as h1 h2 h3 => ?_⟩
    match us, ws, h1, h2 with
    | [a0, a1], [], _, _ => cases h3; kernel_rfl
  refine ⟨fun q hq => ?_, ?_⟩
  · cases hq
    refine ⟨rfl, fun name qual body scope kV doc pmv an cdv ctv us ws as h1 h2 h3 => ?_⟩
    match us, ws, h1, h2 with
    | [a0, a1], [], _, _ => cases h3; kernel_rfl
  refine ⟨fun q hq => ?_, ?_⟩
  · cases hq
    refine ⟨rfl, fun name qual body scope kV doc pmv an cdv ctv us ws as h1 h2 h3 => ?_⟩
    match us, ws, h1, h2 with
    | [a0, a1], [], _, _ => cases h3; kernel_rfl
  refine ⟨fun q hq => ?_, ?_⟩
  · cases hq
    refine ⟨rfl, fun name qual body scope kV doc pmv an cdv ctv us ws as h1 h2 h3 => ?_⟩
    match us, ws, h1, h2 with
    | [a0, a1], [], _, _ => cases h3; kernel_rfl
  refine ⟨fun q hq => ?_, ?_⟩
  · cases hq
    refine ⟨rfl, fun name qual body scope kV doc pmv an cdv ctv us ws as h1 h2 h3 => ?_⟩
    match us, ws, h1, h2 with
    | [a0, a1], [], _, _ => cases h3; kernel_rfl
  refine ⟨fun q hq => ?_, ?_⟩
  · cases hq
    refine ⟨rfl, fun name qual body scope kV doc pmv an cdv ctv us ws as h1 h2 h3 => ?_⟩
    match us, ws, h1, h2 with
    | [a0], [], _, _ => cases h3; kernel_rfl
  refine ⟨fun q hq => ?_, ?_⟩
  · cases hq
    refine ⟨rfl, fun name qual body scope kV doc pmv an cdv ctv us ws as h1 h2 h3 => ?_⟩
    match us, ws, h1, h2 with
    | [a0, a1], [], _, _ => cases h3; kernel_rfl
  refine ⟨fun q hq => ?_, ?_⟩
  · cases hq
    refine ⟨rfl, fun name qual body scope kV doc pmv an cdv ctv us ws as h1 h2 h3 => ?_⟩
    match us, ws, h1, h2 with
    | [a0], [], _, _ => cases h3; kernel_rfl
  refine ⟨fun q hq => ?_, ?_⟩
  · cases hq
    refine ⟨rfl, fun name qual body scope kV doc pmv an cdv ctv us ws as h1 h2 h3 => ?_⟩
    match us, ws, h1, h2 with
    | [a0, a1], [], _, _ => cases h3; kernel_rfl
  refine ⟨fun q hq => ?_, ?_⟩
  · cases hq
    refine ⟨rfl, fun name qual body scope kV doc pmv an cdv ctv us ws as h1 h2 h3 => ?_⟩
    match us, ws, h1, h2 with
    | [a0, a1, a2], [], _, _ => cases h3; kernel_rfl
  refine ⟨fun q hq => ?_, ?_⟩
  · cases hq
    refine ⟨rfl, fun name qual body scope kV doc pmv an cdv ctv us ws as h1 h2 h3 => ?_⟩
    match us, ws, h1, h2 with
    | [a0, a1, a2], [], _, _ => cases h3; kernel_rfl
  refine ⟨fun q hq => ?_, ?_⟩
  · cases hq
    refine ⟨rfl, fun name qual body scope kV doc pmv an cdv ctv us ws as h1 h2 h3 => ?_⟩
    match us, ws, h1, h2 with
    | [a0, a1, a2], [], _, _ => cases h3; kernel_rfl
  refine ⟨fun q hq => ?_, ?_⟩
  · cases hq
    refine ⟨rfl, fun name qual body scope kV doc pmv an cdv ctv us ws as h1 h2 h3 => ?_⟩
    match us, ws, h1, h2 with
    | [a0, a1, a2], [], _, _ => cases h3; kernel_rfl
  refine ⟨fun q hq => ?_, ?_⟩
  · cases hq
    refine ⟨rfl, fun name qual body scope kV doc pmv an cdv ctv us ws as h1 h2 h3 => ?_⟩
    match us, ws, h1, h2 with
    | [a0, a1], [], _, _ => cases h3; kernel_rfl
  refine ⟨fun q hq => ?_, ?_⟩
  · cases hq
    refine ⟨rfl, fun name qual body scope kV doc pmv an cdv ctv us ws as h1 h2 h3 => ?_⟩
    match us, ws, h1, h2 with
    | [a0, a1], [], _, _ => cases h3; kernel_rfl
  refine ⟨fun q hq => ?_, ?_⟩
  · cases hq
    refine ⟨rfl, fun name qual body scope kV doc pmv an cdv ctv us ws as h1 h2 h3 => ?_⟩
    match us, ws, h1, h2 with
    | [a0, a1], [], _, _ => cases h3; kernel_rfl
  refine ⟨fun q hq => ?_, ?_⟩
  · cases hq
    refine ⟨rfl, fun name qual body scope kV doc pmv an cdv ctv us ws as h1 h2 h3 => ?_⟩
    match us, ws, h1, h2 with
    | [a0], [], _, _ => cases h3; kernel_rfl
  refine ⟨fun q hq => ?_, ?_⟩
  · cases hq
    refine ⟨rfl, fun name qual body scope kV doc pmv an cdv ctv us ws as h1 h2 h3 => ?_⟩
    match us, ws, h1, h2 with
    | [a0, a1, a2, a3], [], _, _ => cases h3; kernel_rfl
  refine ⟨fun q hq => ?_, ?_⟩
  · cases hq
    refine ⟨rfl, fun name qual body scope kV doc pmv an cdv ctv us ws as h1 h2 h3 => ?_⟩
    match us, ws, h1, h2 with
    | [], [b0, b1, b2], _, _ => cases h3; kernel_rfl
  refine ⟨fun q hq => ?_, ?_⟩
  · cases hq
    refine ⟨rfl, fun name qual body scope kV doc pmv an cdv ctv us ws as h1 h2 h3 => ?_⟩
    match us, ws, h1, h2 with
    | [a0, a1, a2], [], _, _ => cases h3; kernel_rfl
  refine ⟨fun q hq => ?_, ?_⟩
  · cases hq
    refine ⟨rfl, fun name qual body scope kV doc pmv an cdv ctv us ws as h1 h2 h3 => ?_⟩
    match us, ws, h1, h2 with
    | [], [b0, b1, b2, b3], _, _ => cases h3; kernel_rfl
  refine ⟨fun q hq => ?_, ?_⟩
  · cases hq
    refine ⟨rfl, fun name qual body scope kV doc pmv an cdv ctv us ws as h1 h2 h3 => ?_⟩
    match us, ws, h1, h2 with
    | [a0, a1, a2, a3], [], _, _ => cases h3; kernel_rfl
  refine ⟨fun q hq => ?_, ?_⟩
  · cases hq
    refine ⟨rfl, fun name qual body scope kV doc pmv an cdv ctv us ws as h1 h2 h3 => ?_⟩
    match us, ws, h1, h2 with
    | [], [b0, b1, b2], _, _ => cases h3; kernel_rfl
  refine ⟨fun q hq => ?_, ?_⟩
  · cases hq
    refine ⟨rfl, fun name qual body scope kV doc pmv an cdv ctv us ws as h1 h2 h3 => ?_⟩
    match us, ws, h1, h2 with
    | [a0, a1, a2], [], _, _ => cases h3; kernel_rfl
  refine ⟨fun q hq => ?_, ?_⟩
  · cases hq
    refine ⟨rfl, fun name qual body scope kV doc pmv an cdv ctv us ws as h1 h2 h3 => ?_⟩
    match us, ws, h1, h2 with
    | [], [b0, b1, b2], _, _ => cases h3; kernel_rfl
  refine ⟨fun q hq => ?_, ?_⟩
  · cases hq
    refine ⟨rfl, fun name qual body scope kV doc pmv an cdv ctv us ws as h1 h2 h3 => ?_⟩
    match us, ws, h1, h2 with
    | [a0, a1, a2], [], _, _ => cases h3; kernel_rfl
  refine ⟨fun q hq => ?_, ?_⟩
  · cases hq
    refine ⟨rfl, fun name qual body scope kV doc pmv an cdv ctv us ws as h1 h2 h3 => ?_⟩
    match us, ws, h1, h2 with
    | [a0, a1], [], _, _ => cases h3; kernel_rfl
  refine ⟨fun q hq => ?_, ?_⟩
  · cases hq
    refine ⟨rfl, fun name qual body scope kV doc pmv an cdv ctv us ws as h1 h2 h3 => ?_⟩
    match us, ws, h1, h2 with
    | [a0, a1], [], _, _ => cases h3; kernel_rfl
  refine ⟨fun q hq => ?_, ?_⟩
  · cases hq
    refine ⟨rfl, fun name qual body scope kV doc pmv an cdv ctv us ws as h1 h2 h3 => ?_⟩
    match us, ws, h1, h2 with
    | [a0, a1], [], _, _ => cases h3; kernel_rfl
  refine ⟨fun q hq => ?_, ?_⟩
  · cases hq
    refine ⟨rfl, fun name qual body scope kV doc pmv an cdv ctv us ws as h1 h2 h3 => ?_⟩
    match us, ws, h1, h2 with
    | [a0, a1], [], _, _ => cases h3; kernel_rfl
  refine ⟨fun q hq => ?_, ?_⟩
  · cases hq
    refine ⟨rfl, fun name qual body scope kV doc pmv an cdv ctv us ws as h1 h2 h3 => ?_⟩
    match us, ws, h1, h2 with
    | [a0, a1], [], _, _ => cases h3; kernel_rfl
  refine ⟨fun q hq => ?_, ?_⟩
  · cases hq
    refine ⟨rfl, fun name qual body scope kV doc pmv an cdv ctv us ws as h1 h2 h3 => ?_⟩
    match us, ws, h1, h2 with
    | [a0, a1, a2], [], _, _ => cases h3; kernel_rfl
  refine ⟨fun q hq => ?_, ?_⟩
  · cases hq
    refine ⟨rfl, fun name qual body scope kV doc pmv an cdv ctv us ws as h1 h2 h3 => ?_⟩
    match us, ws, h1, h2 with
    | [a0, a1], [], _, _ => cases h3; kernel_rfl
  refine ⟨fun q hq => ?_, ?_⟩
  · cases hq
    refine ⟨rfl, fun name qual body scope kV doc pmv an cdv ctv us ws as h1 h2 h3 => ?_⟩
    match us, ws, h1, h2 with
    | [a0, a1], [], _, _ => cases h3; kernel_rfl
  refine ⟨fun q hq => ?_, ?_⟩
  · cases hq
    refine ⟨rfl, fun name qual body scope kV doc pmv an cdv ctv us ws as h1 h2 h3 => ?_⟩
    match us, ws, h1, h2 with
    | [a0, a1, a2], [], _, _ => cases h3; kernel_rfl
  refine ⟨fun q hq => ?_, ?_⟩
  · cases hq
    refine ⟨rfl, fun name qual body scope kV doc pmv an cdv ctv us ws as h1 h2 h3 => ?_⟩
    match us, ws, h1, h2 with
    | [a0, a1], [], _, _ => cases h3; kernel_rfl
  refine ⟨fun q hq => ?_, ?_⟩
  · cases hq
    refine ⟨rfl, fun name qual body scope kV doc pmv an cdv ctv us ws as h1 h2 h3 => ?_⟩
    match us, ws, h1, h2 with
    | [a0, a1], [], _, _ => cases h3; kernel_rfl
  refine ⟨fun q hq => ?_, ?_⟩
  · cases hq
    refine ⟨rfl, fun name qual body scope kV doc pmv an cdv ctv us ws as h1 h2 h3 => ?_⟩
    match us, ws, h1, h2 with
    | [a0, a1, a2], [], _, _ => cases h3; kernel_rfl
  refine ⟨fun q hq => ?_, ?_⟩
  · cases hq
    refine ⟨rfl, fun name qual body scope kV doc pmv an cdv ctv us ws as h1 h2 h3 => ?_⟩
    match us, ws, h1, h2 with
    | [a0], [], _, _ => cases h3; kernel_rfl
  refine ⟨fun q hq => ?_, ?_⟩
  · cases hq
    refine ⟨rfl, fun name qual body scope kV doc pmv an cdv ctv us ws as h1 h2 h3 => ?_⟩
    match us, ws, h1, h2 with
    | [a0, a1, a2, a3], [], _, _ => cases h3; kernel_rfl
  refine ⟨fun q hq => ?_, ?_⟩
  · cases hq
    refine ⟨rfl, fun name qual body scope kV doc pmv an cdv ctv us ws as h1 h2 h3 => ?_⟩
    match us, ws, h1, h2 with
    | [a0, a1, a2, a3], [], _, _ => cases h3; kernel_rfl
  refine ⟨fun q hq => ?_, ?_⟩
  · cases hq
    refine ⟨rfl, fun name qual body scope kV doc pmv an cdv ctv us ws as h1 h2 h3 => ?_⟩
    match us, ws, h1, h2 with
    | [a0], [], _, _ => cases h3; kernel_rfl
  refine ⟨fun q hq => ?_, ?_⟩
  · cases hq
    refine ⟨rfl, fun name qual body scope kV doc pmv an cdv ctv us ws as h1 h2 h3 => ?_⟩
    match us, ws, h1, h2 with
    | [a0], [], _, _ => cases h3; kernel_rfl
  exact trivial
end Lw

set_option Elab.async false
set_option linter.all false
set_option maxRecDepth 100000
set_option maxHeartbeats 1000000
/-! Pl0: tools for plain laws. Own work. -/
namespace Ev
theorem Phi_s {Δ : Tab} {k f : Nat} {d : Df} {as : List Sl} (h : Δ.lookup f = some d) : Phi Δ (k + 1) f as = runDf (Phi Δ k) d as := by
  show (match Δ.lookup f with
    | some d => runDf (Phi Δ k) d as
    | none => .err) = _
  rw [h]
theorem forGo_inv {f : D → En → Rs Fl} (Inv : Nat → En → Prop) : ∀ {rows : List D} (n : Nat) {ρ : En}, (∀ i d ρ, rows[i]? = some d → Inv (n + i) ρ → ∃ ρ', (f d ρ = .ok .nx ρ' ∨ f d ρ = .ok .ct ρ') ∧ Inv (n + i + 1) ρ') → Inv n ρ → ∃ ρ', forGo f rows ρ = .ok .nx ρ' ∧ Inv (n + rows.length) ρ'
  | [], n, ρ, _, h => ⟨ρ, rfl, h⟩
  | d :: ds, n, ρ, st, h => by
    obtain ⟨ρ1, e, h1⟩ := st 0 d ρ rfl h
    obtain ⟨ρ2, e2, h2⟩ := forGo_inv Inv (rows := ds) (n + 1) (ρ := ρ1) (fun i d ρ hd hi => by
      have := st (i + 1) d ρ (by simpa using hd) (by rw [show n + (i + 1) = n + 1 + i by omega]; exact hi)
      rw [show n + (i + 1) + 1 = n + 1 + i + 1 by omega] at this
      exact this) h1
    refine ⟨ρ2, ?_, by rw [List.length_cons, show n + (ds.length + 1) = n + 1 + ds.length by omega]; exact h2⟩
    unfold forGo
    rcases e with e | e <;> rw [e] <;> exact e2
theorem lcGo_inv {f : D → En → Rs (Option D)} (Inv : Nat → List D → En → Prop) : ∀ {rows : List D} (n : Nat) {acc : List D} {ρ : En}, (∀ i d acc ρ, rows[i]? = some d → Inv (n + i) acc ρ → ∃ r ρ', f d ρ = .ok r ρ' ∧ Inv (n + i + 1) (acc ++ r.toList) ρ') → Inv n acc ρ →
    ∃ ds ρ', lcGo f rows ρ = .ok ds ρ' ∧ Inv (n + rows.length) (acc ++ ds) ρ'
  | [], n, acc, ρ, _, h => ⟨[], ρ, rfl, by rw [List.append_nil]; exact h⟩
  | d :: ds, n, acc, ρ, st, h => by
    obtain ⟨r, ρ1, e, h1⟩ := st 0 d acc ρ rfl h
    obtain ⟨rs, ρ2, e2, h2⟩ := lcGo_inv Inv (rows := ds) (n + 1) (acc := acc ++ r.toList) (ρ := ρ1) (fun i d acc ρ hd hi => by
      have := st (i + 1) d acc ρ (by simpa using hd) (by rw [show n + (i + 1) = n + 1 + i by omega]; exact hi)
      rw [show n + (i + 1) + 1 = n + 1 + i + 1 by omega] at this
      exact this) h1
    refine ⟨r.toList ++ rs, ρ2, ?_, by rw [List.length_cons, show n + (ds.length + 1) = n + 1 + ds.length by omega, ← List.append_assoc]; exact h2⟩
    unfold lcGo
    rw [e]
    show ((lcGo f ds ρ1).bind fun rs ρ => Rs.ok (match r with
      | some x => x :: rs
      | none => rs) ρ) = _
    rw [e2]
    cases r <;> rfl
theorem log2_lt {i : Int} {n : Nat} (h0 : 0 ≤ i) (h : i < 2 ^ n) : i.natAbs.log2 ≤ n := by
  by_cases hz : i.natAbs = 0
  · rw [hz]; exact Nat.zero_le _
  · have : i.natAbs < 2 ^ n := by
      have e : (i.natAbs : Int) = i := Int.natAbs_of_nonneg h0
      have : (i.natAbs : Int) < ((2 ^ n : Nat) : Int) := by rw [e]; push_cast; exact h
      exact Int.ofNat_lt.mp this
    exact Nat.le_of_lt (Nat.log2_lt hz |>.mpr this)
theorem mul_ok {a b : Int} {n m : Nat} (ha : 0 ≤ a) (ha2 : a < 2 ^ n) (hb : 0 ≤ b) (hb2 : b < 2 ^ m) (h : n + m < 1000000) : mulOk a b = true := by
  unfold mulOk
  have h1 := log2_lt ha ha2
  have h2 := log2_lt hb hb2
  exact decide_eq_true (by omega)
end Ev

set_option Elab.async false
set_option linter.all false
set_option maxRecDepth 100000
set_option maxHeartbeats 1000000
set_option exponentiation.threshold 100000
/-! Pl1: the generator of draws. Own work. -/
namespace Ev
def dfHash : Df := ⟨2, 3, [], (.cons (.set 2 (.bin .mod (.bi .int (.cons (.bin .add (.bin .add (.bin .add (.bin .mul (.var 0) (.lit (.int 1140671))) (.bin .mul (.bin .mul (.lit (.int 27644437)) (.var 1)) (.var 1))) (.bin .mul (.lit (.int 131)) (.var 1))) (.lit (.int 19))) .nil)) (.lit (.int 2147483629)))) (.cons (.set 2 (.bin .mod (.bi .int (.cons (.bin .add (.bin .add (.bin .mul (.var 2) (.var 2)) (.bin .mul (.lit (.int 62089)) (.var 1))) (.lit (.int 32416187))) .nil)) (.lit (.int 2147483587)))) (.cons (.ret (.bin .mod (.bi .int (.cons (.bin .mul (.var 2) (.lit (.int 48271))) .nil)) (.lit (.int 2147483647)))) .nil)))⟩
theorem hash_ok {Δ : Tab} {n : Nat} (h : Δ.lookup n = some dfHash) (k : Nat) {a b : Int} (ha : 0 ≤ a ∧ a < 2 ^ 64) (hb : 0 ≤ b ∧ b < 2 ^ 64) : ∃ r : Int, 0 ≤ r ∧ r < 2147483647 ∧ Phi Δ (k + 1) n [⟨.fz, .int a⟩, ⟨.fz, .int b⟩] = .ret false (.int r) [⟨.fz, .int a⟩, ⟨.fz, .int b⟩] := by
  have m1 : mulOk a 1140671 = true := mul_ok (n := 64) (m := 30) ha.1 ha.2 (by decide) (by decide) (by decide)
  have m2 : mulOk 27644437 b = true := mul_ok (n := 30) (m := 64) (by decide) (by decide) hb.1 hb.2 (by decide)
  have m3 : mulOk (27644437 * b) b = true := mul_ok (n := 94) (m := 64) (by omega) (by omega) hb.1 hb.2 (by decide)
  have m4 : mulOk 131 b = true := mul_ok (n := 30) (m := 64) (by decide) (by decide) hb.1 hb.2 (by decide)
  have m5 : mulOk 62089 b = true := mul_ok (n := 30) (m := 64) (by decide) (by decide) hb.1 hb.2 (by decide)
  have m6 : ∀ c : Int, mulOk (c % 2147483629) (c % 2147483629) = true := fun c => mul_ok (n := 32) (m := 32) (by omega) (by omega) (by omega) (by omega) (by decide)
  have m7 : ∀ c : Int, mulOk (c % 2147483587) 48271 = true := fun c => mul_ok (n := 32) (m := 32) (by omega) (by omega) (by decide) (by decide) (by decide)
  obtain ⟨r, e⟩ : ∃ r : Int, Phi Δ (k + 1) n [⟨.fz, .int a⟩, ⟨.fz, .int b⟩] = .ret false (.int (r % 2147483647)) [⟨.fz, .int a⟩, ⟨.fz, .int b⟩] := by
    apply Exists.intro
    rw [Phi_s h]
    simp [dfHash, runDf, frzAt, evSs, evS, evE, evEs, Rs.bind, En.get, op2, look, toRs, binD, m1, m2, m3, m4, m5, m6, m7, lookAll, biD, storeR, allSome, backAt]
    rfl
  exact ⟨_, by omega, by omega, e⟩
def rndBody (hn : Nat) : Ss := (.cons (.put (.var 0) (.lit (.int 2)) (.bin .add (.sub (.var 0) (.lit (.int 2))) (.lit (.int 1)))) (.cons (.set 2 (.bin .add (.bin .mul (.var 2) (.lit (.int 2147483587))) (.call hn [0, 1] (.cons (.sub (.var 0) (.lit (.int 1))) (.cons (.sub (.var 0) (.lit (.int 2))) .nil)) .nil))) .nil))
def dfRnd (hn : Nat) : Df := ⟨2, 4, [], (.cons (.iff (.val (.cmp .gt (.sub (.var 0) (.lit (.int 0))) (.lit (.int 0)))) (.cons (.set 2 (.bin .mod (.bi .int (.cons (.sub (.var 0) (.lit (.int 0))) .nil)) (.var 1))) (.cons (.put (.var 0) (.lit (.int 0)) (.bin .fdiv (.sub (.var 0) (.lit (.int 0))) (.var 1))) (.cons (.ret (.var 2)) .nil))) .nil) (.cons (.set 2 (.lit (.int 0))) (.cons (.for [3] (.rng1 (.bin .add (.lit (.int 1)) (.bin .fdiv (.mth .bits (.var 1) .nil) (.lit (.int 30))))) (rndBody hn)) (.cons (.ret (.bin .mod (.bi .int (.cons (.var 2) .nil)) (.var 1))) .nil))))⟩
def genD (a b c : Int) : D := .lst [.int a, .int b, .int c]
theorem rnd_turn {Δ : Tab} {hn : Nat} (h1 : Δ.lookup hn = some dfHash) (k : Nat) {a b c n d : Int} {i : Int} {x : Option Sl} (hb : 0 ≤ b ∧ b < 2 ^ 32) (hc : 0 ≤ c ∧ c < 2 ^ 62) (hd : 0 ≤ d ∧ d < 2 ^ 250) :
    ∃ e : Int, 0 ≤ e ∧ e < 2147483647 ∧ evSs (Phi Δ (k + 1)) 2 (rndBody hn) [some ⟨.own, genD a b c⟩, some ⟨.fz, .int n⟩, some ⟨.fz, .int d⟩, some ⟨.fz, .int i⟩] = .ok .nx [some ⟨.own, genD a b (c + 1)⟩, some ⟨.fz, .int n⟩, some ⟨.fz, .int (d * 2147483587 + e)⟩, some ⟨.fz, .int i⟩] := by
  obtain ⟨e, e1, e2, e3⟩ := hash_ok h1 k (a := b) (b := c + 1) ⟨hb.1, by omega⟩ ⟨by omega, by omega⟩
  have m : mulOk d 2147483587 = true := mul_ok (n := 250) (m := 32) hd.1 hd.2 (by decide) (by decide) (by decide)
  refine ⟨e, e1, e2, ?_⟩
  simp [rndBody, genD, evSs, evS, evE, evEs, Rs.bind, En.get, op2, op1, look, toRs, binD, m, storeR, keep, subD, ixN, pick, callR, frzDup, argsOf, argOf, outsTo, e3]
theorem rngD_at {a b : Int} {i : Nat} {d : D} (h : (rngD a b)[i]? = some d) : d = .int (a + i) ∧ i < (b - a).toNat := by
  unfold rngD at h
  rw [List.getElem?_map] at h
  by_cases hi : i < (b - a).toNat
  · rw [List.getElem?_range hi] at h
    cases h
    exact ⟨rfl, hi⟩
  · rw [List.getElem?_eq_none (by rw [List.length_range]; omega)] at h
    cases h
theorem rngD_len {a b : Int} : (rngD a b).length = (b - a).toNat := by
  unfold rngD
  rw [List.length_map, List.length_range]
theorem rnd_loop {Δ : Tab} {hn : Nat} (h1 : Δ.lookup hn = some dfHash) (k : Nat) {a b c n m : Int} (hb : 0 ≤ b ∧ b < 2 ^ 32) (hc : 0 ≤ c ∧ c < 2 ^ 60) (hm : 0 ≤ m ∧ m ≤ 6) :
    ∃ d x, forGo (withTg [3] (evSs (Phi Δ (k + 1)) 2 (rndBody hn))) (rngD 0 m) [some ⟨.own, genD a b c⟩, some ⟨.fz, .int n⟩, some ⟨.fz, .int 0⟩, none] = .ok .nx [some ⟨.own, genD a b (c + m)⟩, some ⟨.fz, .int n⟩, some ⟨.fz, .int d⟩, x] := by
  obtain ⟨ρ', e, d, x, _, _, rfl⟩ := forGo_inv (f := withTg [3] (evSs (Phi Δ (k + 1)) 2 (rndBody hn))) (rows := rngD 0 m) (fun i ρ => ∃ (d : Int) (x : Option Sl), 0 ≤ d ∧ d < 4294967296 ^ (i + 1) ∧ ρ = [some ⟨.own, genD a b (c + i)⟩, some ⟨.fz, .int n⟩, some ⟨.fz, .int d⟩, x]) 0 (ρ := [some ⟨.own, genD a b c⟩, some ⟨.fz, .int n⟩, some ⟨.fz, .int 0⟩, none])
    (fun i r ρ hr ⟨d, x, d0, d1, hρ⟩ => by
      obtain ⟨rfl, hi⟩ := rngD_at hr
      subst hρ
      have hi' : i ≤ 6 := by omega
      have hp : (4294967296 : Int) ^ (0 + i + 1) ≤ 2 ^ 250 := by
        have : (4294967296 : Nat) ^ (0 + i + 1) ≤ 4294967296 ^ 7 := Nat.pow_le_pow_right (by decide) (by omega)
        have h2 : (4294967296 : Nat) ^ 7 ≤ 2 ^ 250 := by decide
        have h3 := Int.ofNat_le.mpr (Nat.le_trans this h2)
        rw [Int.natCast_pow, Int.natCast_pow] at h3
        exact h3
      obtain ⟨e, e1, e2, e3⟩ := rnd_turn h1 k (a := a) (b := b) (c := c + (0 + i : Nat)) (n := n) (d := d) (i := 0 + (i : Int)) (x := x) hb ⟨by omega, by omega⟩ ⟨d0, by omega⟩
      refine ⟨_, .inl e3, d * 2147483587 + e, some ⟨.fz, .int (0 + (i : Int))⟩, ?_, ?_, ?_⟩
      · omega
      · have : (4294967296 : Int) ^ (0 + i + 1 + 1) = 4294967296 ^ (0 + i + 1) * 4294967296 := Int.pow_succ ..
        rw [this]
        omega
      · have : c + ((0 + i : Nat) : Int) + 1 = c + ((0 + i + 1 : Nat) : Int) := by omega
        rw [this]) ⟨0, none, by decide, by decide, by simp⟩
  refine ⟨d, x, ?_⟩
  rw [e]
  have : c + ((0 + (rngD 0 m).length : Nat) : Int) = c + m := by rw [rngD_len]; omega
  rw [this]
theorem rnd_ok {Δ : Tab} {hn rn : Nat} (h1 : Δ.lookup hn = some dfHash) (h2 : Δ.lookup rn = some (dfRnd hn)) (k : Nat) {a b c n : Int} (ha : 0 ≤ a ∧ a < 10 ^ 600) (hb : 0 ≤ b ∧ b < 2 ^ 32) (hc : 0 ≤ c ∧ c < 2 ^ 60) (hn' : 0 < n ∧ n < 2 ^ 150) :
    ∃ r a' c' : Int, 0 ≤ r ∧ r < n ∧ 0 ≤ a' ∧ a' < 10 ^ 600 ∧ c ≤ c' ∧ c' ≤ c + 6 ∧ Phi Δ (k + 2) rn [⟨.own, genD a b c⟩, ⟨.fz, .int n⟩] = .ret false (.int r) [⟨.own, genD a' b c'⟩, ⟨.fz, .int n⟩] := by
  have hl := log2_lt (n := 150) (by omega) hn'.2
  by_cases hpos : 0 < a
  · refine ⟨a % n, a / n, c, Int.emod_nonneg _ (by omega), Int.emod_lt_of_pos _ hn'.1, Int.ediv_nonneg ha.1 (by omega), ?_, by omega, by omega, ?_⟩
    · exact Int.lt_of_le_of_lt (Int.ediv_le_self _ ha.1) ha.2
    · rw [Phi_s h2]
      have f1 : 0 < n ∧ n.natAbs.log2 < 9000 := ⟨hn'.1, by omega⟩
      simp [dfRnd, genD, runDf, frzAt, evSs, evS, evE, evEs, evT, Rs.bind, En.get, op2, op1, look, toRs, toRb, binD, cmpD, truth, hpos, hn'.1, f1, storeR, keep, subD, ixN, lookAll, biD, allSome, backAt]
  · have ha0 : a = 0 := by omega
    subst ha0
    have hlog : n.natAbs.log2 ≤ 150 := hl
    obtain ⟨d, x, e⟩ := rnd_loop (a := 0) (n := n) h1 k (m := 1 + ((n.natAbs.log2 : Int) + 1) / 30) hb hc ⟨by omega, by omega⟩
    refine ⟨d % n, 0, c + (1 + ((n.natAbs.log2 : Int) + 1) / 30), Int.emod_nonneg _ (by omega), Int.emod_lt_of_pos _ hn'.1, by decide, by decide, by omega, by omega, ?_⟩
    rw [Phi_s h2]
    have n0 : n ≠ 0 := by omega
    have r1 : -B62 ≤ 1 + ((n.natAbs.log2 : Int) + 1) / 30 ∧ 1 + ((n.natAbs.log2 : Int) + 1) / 30 < B62 := by unfold B62; omega
    have f1 : Nat.log2 30 < 9000 := by decide
    simp only [genD] at e
    simp [dfRnd, genD, runDf, frzAt, evSs, evS, evE, evEs, evT, evI, Rs.bind, En.get, op2, op1, look, lookAll, toRs, toRb, binD, cmpD, truth, mtD, mtOk, mthR, n0, hn'.1, f1, r1, storeR, keep, subD, ixN, biD, lockL, lockS, unlockL, unlockS, allSome, backAt, e]
end Ev

set_option Elab.async false
set_option linter.all false
set_option maxRecDepth 100000
set_option maxHeartbeats 1000000
set_option exponentiation.threshold 100000
/-! Pl2: cells of the script, the generator. Own work. -/
namespace Ev
def dfCell : Df := ⟨2, 2, [], (.cons (.iff (.val (.cmp .lt (.var 1) (.bi .len (.cons (.var 0) .nil)))) (.cons (.ret (.sub (.var 0) (.var 1))) .nil) .nil) (.cons (.ret (.bin .mod (.bi .sum (.cons (.sl false true (.var 0) (.lit .non) (.lit (.int 1))) .nil)) (.lit (.int 1000003)))) .nil))⟩
def dfGen (cn : Nat) : Df := ⟨2, 3, [], (.cons (.set 2 (.call cn [0, 1] (.cons (.var 0) (.cons (.var 1) .nil)) .nil)) (.cons (.ret (.lst (.cons (.bin .mod (.bi .int (.cons (.bi .max2 (.cons (.bin .sub (.var 2) (.bin .pow (.lit (.int 10)) (.lit (.int 18)))) (.cons (.lit (.int 0)) .nil))) .nil)) (.bin .pow (.bin .pow (.lit (.int 10)) (.lit (.int 60))) (.lit (.int 10)))) (.cons (.bin .mod (.bi .int (.cons (.var 2) .nil)) (.lit (.int 2147483647))) (.cons (.bin .mul (.lit (.int 1000)) (.var 1)) .nil))))) .nil))⟩
theorem dsum_ints : ∀ (l : List Int) (a : Int), ∃ v, Dsum (l.map .int) a = some v
  | [], a => ⟨a, rfl⟩
  | i :: l, a => dsum_ints l (a + i)
theorem cell_ok {Δ : Tab} {cn : Nat} (h : Δ.lookup cn = some dfCell) (k : Nat) {ns : List Int} {i : Int} (hi : 0 ≤ i) : ∃ v : Int, Phi Δ (k + 1) cn [⟨.fz, .scr ns⟩, ⟨.fz, .int i⟩] = .ret false (.int v) [⟨.fz, .scr ns⟩, ⟨.fz, .int i⟩] := by
  by_cases hl : i < ns.length
  · have hlt : i.toNat < ns.length := by omega
    refine ⟨ns[i.toNat], ?_⟩
    rw [Phi_s h]
    have e : ns[i.toNat]? = some ns[i.toNat] := List.getElem?_eq_getElem hlt
    simp [dfCell, runDf, frzAt, evSs, evS, evE, evEs, evT, Rs.bind, En.get, op2, op1, look, lookAll, toRs, toRb, binD, cmpD, ltD, truth, hl, subD, ixN, hi, e, biD, keep, allSome, backAt]
  · obtain ⟨v, e⟩ := dsum_ints (cut ns none (some 1)) 0
    refine ⟨v % 1000003, ?_⟩
    rw [Phi_s h]
    simp [dfCell, runDf, frzAt, evSs, evS, evE, evEs, evT, Rs.bind, En.get, op2, op1, look, lookAll, toRs, toRb, binD, cmpD, ltD, truth, hl, bound, slD, e, biD, keep, allSome, backAt]
theorem gen_ok {Δ : Tab} {cn gn : Nat} (h1 : Δ.lookup cn = some dfCell) (h2 : Δ.lookup gn = some (dfGen cn)) (k : Nat) {ns : List Int} {i : Int} (hi : 0 ≤ i ∧ i < 1000000) :
    ∃ a b : Int, 0 ≤ a ∧ a < 10 ^ 600 ∧ 0 ≤ b ∧ b < 2147483647 ∧ Phi Δ (k + 2) gn [⟨.fz, .scr ns⟩, ⟨.fz, .int i⟩] = .ret true (genD a b (1000 * i)) [⟨.fz, .scr ns⟩, ⟨.fz, .int i⟩] := by
  obtain ⟨v, e⟩ := cell_ok h1 k (ns := ns) (i := i) hi.1
  have hp : (0 : Int) < (10 ^ 60) ^ 10 := by decide
  have m : mulOk 1000 i = true := mul_ok (n := 30) (m := 30) (by decide) (by decide) hi.1 (by omega) (by decide)
  refine ⟨(if (0 : Int) > v - 10 ^ 18 then 0 else v - 10 ^ 18) % (10 ^ 60) ^ 10, v % 2147483647, Int.emod_nonneg _ (by decide), ?_, by omega, by omega, ?_⟩
  · have : (10 : Int) ^ 600 = (10 ^ 60) ^ 10 := by decide
    rw [this]
    exact Int.emod_lt_of_pos _ hp
  · rw [Phi_s h2]
    have l10 : Nat.log2 10 = 3 := by decide +kernel
    have l60 : Nat.log2 1000000000000000000000000000000000000000000000000000000000000 = 199 := by decide +kernel
    simp [dfGen, runDf, frzAt, evSs, evS, evE, evEs, Rs.bind, En.get, op2, op1, look, lookAll, toRs, binD, biD, pick, callR, frzDup, argsOf, argOf, outsTo, storeR, keep, keepAll, allSome, backAt, e, m, genD, LIM, l10, l60]
end Ev

set_option Elab.async false
set_option linter.all false
set_option maxRecDepth 100000
set_option maxHeartbeats 1000000
/-! Pl3: letters, orders. Own work. -/
namespace Ev
theorem lcGo_pure {f : D → En → Rs (Option D)} {q : D → Option D} (Inv : En → Prop) : ∀ {rows : List D} {ρ : En}, (∀ d ∈ rows, ∀ ρ, Inv ρ → ∃ ρ', f d ρ = .ok (q d) ρ' ∧ Inv ρ') → Inv ρ → ∃ ρ', lcGo f rows ρ = .ok (rows.filterMap q) ρ' ∧ Inv ρ'
  | [], ρ, _, h => ⟨ρ, rfl, h⟩
  | d :: ds, ρ, st, h => by
    obtain ⟨ρ1, e, h1⟩ := st d List.mem_cons_self ρ h
    obtain ⟨ρ2, e2, h2⟩ := lcGo_pure Inv (rows := ds) (fun d hd => st d (List.mem_cons_of_mem _ hd)) h1
    refine ⟨ρ2, ?_, h2⟩
    unfold lcGo
    rw [e]
    show ((lcGo f ds ρ1).bind fun rs ρ => Rs.ok (match q d with
      | some x => x :: rs
      | none => rs) ρ) = _
    rw [e2, List.filterMap_cons]
    cases q d <;> rfl
def abc : List Nat := [97, 98, 99, 100, 101, 102, 103, 104, 105, 106, 107, 108, 109, 110, 111, 112, 113, 114, 115, 116, 117, 118, 119, 120, 121, 122]
def small (l : List Nat) : Bool := l.all fun c => abc.contains c
theorem dropWhile_nil {p : Nat → Bool} : ∀ {l : List Nat}, l.dropWhile p = [] ↔ l.all p = true
  | [] => by simp
  | a :: l => by
    rw [List.dropWhile_cons, List.all_cons]
    cases h : p a with
    | true => simp only [if_true, Bool.true_and]; exact dropWhile_nil
    | false => simp
theorem strip_small (l : List Nat) : (stripD abc l = []) ↔ small l = true := by
  unfold stripD small
  rw [List.reverse_eq_nil_iff, dropWhile_nil]
  constructor
  · intro h
    rw [List.all_reverse] at h
    have z : ∀ m : List Nat, (m.dropWhile fun c => abc.contains c).all (fun c => abc.contains c) = true → m.all (fun c => abc.contains c) = true := by
      intro m
      induction m with
      | nil => intro _; rfl
      | cons a m ih =>
        intro h
        rw [List.dropWhile_cons] at h
        rw [List.all_cons]
        cases hp : abc.contains a with
        | true => rw [hp] at h; simp only [if_true] at h; rw [ih h] <;> rfl
        | false =>
          rw [hp, if_neg (by decide), List.all_cons, hp] at h
          exact absurd h (by simp)
    exact z l h
  · intro h
    rw [List.all_reverse, (dropWhile_nil (p := fun c => abc.contains c)).mpr h] <;> rfl
/-- what isinstance answers of -/
def known : D → Bool
  | .fn _ => false
  | .exc _ _ => false
  | _ => true
def smallD : D → Bool
  | .str l => small l
  | _ => false
def dfLett : Df := ⟨1, 1, [], (.cons (.ret (.and (.bi .isstr (.cons (.var 0) .nil)) (.cmp .eq (.mth .strip (.var 0) (.cons (.lit (.str abc)) .nil)) (.lit (.str []))))) .nil)⟩
theorem lett_ok {Δ : Tab} {n : Nat} (h : Δ.lookup n = some dfLett) (k : Nat) {v : D} (hv : known v = true) : Phi Δ (k + 1) n [⟨.fz, v⟩] = .ret false (.bl (smallD v)) [⟨.fz, v⟩] := by
  rw [Phi_s h]
  cases v with
  | str l =>
    have e : decide (stripD abc l = []) = small l := by
      cases hs : small l with
      | true => exact decide_eq_true ((strip_small l).mpr hs)
      | false => exact decide_eq_false fun z => by rw [(strip_small l).mp z] at hs; cases hs
    simp [dfLett, smallD, runDf, frzAt, evSs, evS, evE, evEs, Rs.bind, En.get, op2, op1, look, lookAll, toRs, toRb, biD, truth, mtOk, mthR, mtD, cmpD, eqv, flat, DEP, eqD, e, keep, allSome, backAt]
  | fn n => cases hv
  | exc c v => cases hv
  | _ => simp [dfLett, smallD, runDf, frzAt, evSs, evS, evE, evEs, Rs.bind, En.get, op2, op1, look, lookAll, toRs, toRb, biD, truth, keep, allSome, backAt]
/-! ### ascending -/
def riseTs : Ts := .cons (.val (.cmp .ge (.sub (.var 0) (.bin .sub (.var 1) (.lit (.int 1)))) (.sub (.var 0) (.var 1)))) .nil
def riseX : E := .var 1
def riseE : E := .cmp .eq (.lc riseX [1] (.rng2 (.lit (.int 1)) (.bi .len (.cons (.var 0) .nil))) riseTs [1]) (.lst .nil)
/-- a sequence of n texts -/
structure Seqy (v : D) (n : Nat) : Prop where
  len : biD .len [v] = some (.v (.int n))
  le : n ≤ LIM
  at_ : ∀ i : Int, 0 ≤ i → i < n → ∃ a, subD v (.int i) = some (.str a)
def riseQ (v : D) : D → Option D
  | .int i => match subD v (.int (i - 1)), subD v (.int i) with
    | some (.str a), some (.str b) => if a < b then none else some (.int i)
    | _, _ => none
  | _ => none
def riseD (v : D) (n : Nat) : Bool := ((rngD 1 n).filterMap (riseQ v)).isEmpty
theorem flat_ints {v : D} : ∀ (l : List D) (k : Nat), flatL k (l.filterMap (riseQ v)) = true
  | [], _ => rfl
  | d :: l, k => by
    rw [List.filterMap_cons]
    cases h : riseQ v d with
    | none => exact flat_ints l k
    | some x =>
      have : ∃ i, x = .int i := by
        unfold riseQ at h
        split at h
        · split at h
          · split at h
            · cases h
            · cases h; exact ⟨_, rfl⟩
          · cases h
        · cases h
      obtain ⟨i, rfl⟩ := this
      show (flat k (.int i) && flatL k (l.filterMap (riseQ v))) = true
      rw [flat_ints l k]
      cases k <;> rfl
theorem rise_ok {Φ : Fns} {v : D} {n : Nat} {m : Md} (hs : Seqy v n) : evE Φ riseE [some ⟨m, v⟩, none] = .ok (.v (.bl (riseD v n))) [some ⟨m, v⟩, none] := by
  obtain ⟨ρ', e, x, rfl⟩ := lcGo_pure (f := lcTg [1] [1] (evTs Φ riseTs) (evE Φ riseX)) (q := riseQ v) (fun ρ => ∃ x, ρ = [some ⟨m, v⟩, x]) (rows := rngD 1 n) (ρ := [some ⟨m, v⟩, none]) (fun d hd ρ ⟨x, hρ⟩ => by
    subst hρ
    obtain ⟨j, hj⟩ := List.getElem?_of_mem hd
    obtain ⟨rfl, hlt⟩ := rngD_at hj
    obtain ⟨a, ha⟩ := hs.at_ (1 + j - 1) (by omega) (by omega)
    obtain ⟨b, hb⟩ := hs.at_ (1 + j) (by omega) (by omega)
    by_cases hab : a < b
    · refine ⟨[some ⟨m, v⟩, some ⟨.fz, .int (1 + (j : Int))⟩], ?_, _, rfl⟩
      simp [lcTg, assignD, wipeE, riseTs, riseX, riseQ, evTs, evT, evE, Rs.bind, En.get, op2, op1, look, toRs, toRb, binD, cmpD, truth, ha, hb, hab, keep]
    · refine ⟨[some ⟨m, v⟩, some ⟨.fz, .int (1 + (j : Int))⟩], ?_, _, rfl⟩
      simp [lcTg, assignD, wipeE, riseTs, riseX, riseQ, evTs, evT, evE, Rs.bind, En.get, op2, op1, look, toRs, toRb, binD, cmpD, truth, ha, hb, hab, keep]) ⟨none, rfl⟩
  have hl : ((rngD 1 n).filterMap (riseQ v)).length ≤ LIM := by
    refine Nat.le_trans (List.length_filterMap_le _ _) ?_
    rw [rngD_len]
    have := hs.le
    omega
  have hB : -B62 ≤ (1 : Int) ∧ (1 : Int) < B62 ∧ -B62 ≤ (n : Int) ∧ (n : Int) < B62 := by
    have := hs.le
    unfold LIM at this
    unfold B62
    omega
  have hlen := hs.len
  have fl := flat_ints (v := v) (rngD 1 n) 59
  simp [riseE, evE, evEs, evI, Rs.bind, En.get, op2, op1, look, lookAll, toRs, toRb, hlen, hB, lockL, lockS, wipeE, e, hl, backE, unlockL, unlockS, keepAll, cmpD, eqv, flat, DEP, fl, eqD, riseD]
  cases (rngD 1 n).filterMap (riseQ v) <;> rfl
end Ev

set_option Elab.async false
set_option linter.all false
set_option maxRecDepth 100000
set_option maxHeartbeats 1000000
/-! Pl4: words, joints. Own work. -/
namespace Ev
theorem seqy_str {l : List Nat} (h : l.length ≤ LIM) : Seqy (.str l) l.length where
  len := rfl
  le := h
  at_ := fun i h0 h1 => by
    have hlt : i.toNat < l.length := by omega
    refine ⟨[l[i.toNat]], ?_⟩
    simp [subD, ixN, h0, h1, List.getElem?_eq_getElem hlt]
theorem seqy_lst {cs : List (List Nat)} (h : cs.length ≤ LIM) : Seqy (.lst (cs.map .str)) cs.length where
  len := by simp [biD]
  le := h
  at_ := fun i h0 h1 => by
    have hlt : i.toNat < cs.length := by omega
    refine ⟨cs[i.toNat], ?_⟩
    simp [subD, ixN, h0, h1, List.getElem?_map, List.getElem?_eq_getElem hlt]
def dfRise : Df := ⟨1, 2, [], (.cons (.ret riseE) .nil)⟩
theorem fRise_ok {Δ : Tab} {n : Nat} (h : Δ.lookup n = some dfRise) (k : Nat) {v : D} {m : Nat} {md : Md} (hs : Seqy v m) : Phi Δ (k + 1) n [⟨md, v⟩] = .ret false (.bl (riseD v m)) [⟨md, v⟩] := by
  rw [Phi_s h]
  have e := rise_ok (Φ := Phi Δ k) (m := md) hs
  simp [dfRise, runDf, frzAt, evSs, evS, Rs.bind, e, allSome, backAt]
/-- in order, as the rules say -/
def ordD : D → Bool
  | .str l => small l && riseD (.str l) l.length
  | _ => false
def dfOrd (a b : Nat) : Df := ⟨1, 1, [], (.cons (.ret (.and (.call a [0] (.cons (.var 0) .nil) .nil) (.call b [0] (.cons (.var 0) .nil) .nil))) .nil)⟩
/-- texts short enough -/
def short : D → Bool
  | .str l => decide (l.length ≤ LIM)
  | _ => true
theorem fOrd_ok {Δ : Tab} {a b n : Nat} (h1 : Δ.lookup a = some dfLett) (h2 : Δ.lookup b = some dfRise) (h : Δ.lookup n = some (dfOrd a b)) (k : Nat) {v : D} (hv : known v = true) (hz : short v = true) : Phi Δ (k + 2) n [⟨.fz, v⟩] = .ret false (.bl (ordD v)) [⟨.fz, v⟩] := by
  rw [Phi_s h]
  have e1 := lett_ok h1 k hv
  cases hs : smallD v with
  | false =>
    have e2 : ordD v = false := by
      cases v <;> first | rfl | skip
      rename_i l
      have hs : small l = false := hs
      show (small l && _) = false
      rw [hs] <;> rfl
    rw [hs] at e1
    simp [dfOrd, runDf, frzAt, evSs, evS, evE, evEs, Rs.bind, En.get, op1, look, truth, pick, callR, frzDup, argsOf, argOf, outsTo, e1, e2, allSome, backAt]
  | true =>
    cases v <;> first | (cases hs; done) | skip
    rename_i l
    have e2 := fRise_ok h2 k (md := .fz) (seqy_str (of_decide_eq_true hz))
    have e3 : small l = true := hs
    rw [hs] at e1
    simp [dfOrd, runDf, frzAt, evSs, evS, evE, evEs, Rs.bind, En.get, op1, look, truth, pick, callR, frzDup, argsOf, argOf, outsTo, e1, e2, e3, ordD, allSome, backAt]
/-! ### the law's own small and in order -/
def smX : E := .var 1
def smTs : Ts := .cons (.val (.cmp .notin (.var 1) (.lit (.str abc)))) .nil
def smQ : D → Option D
  | .str [c] => if c ∈ abc then none else some (.str [c])
  | _ => none
def dfSmall : Df := ⟨1, 2, [], (.cons (.ret (.and (.bi .isstr (.cons (.var 0) .nil)) (.cmp .eq (.lc smX [1] (.seq (.var 0)) smTs [1]) (.lst .nil)))) .nil)⟩
theorem fSmall_ok {Δ : Tab} {n : Nat} (h : Δ.lookup n = some dfSmall) (k : Nat) {v : D} (hv : known v = true) (hz : short v = true) : Phi Δ (k + 1) n [⟨.fz, v⟩] = .ret false (.bl (smallD v)) [⟨.fz, v⟩] := by
  rw [Phi_s h]
  cases v with
  | str l =>
    have hl : l.length ≤ LIM := of_decide_eq_true hz
    obtain ⟨ρ', e, x, rfl⟩ := lcGo_pure (f := lcTg [1] [1] (evTs (Phi Δ k) smTs) (evE (Phi Δ k) smX)) (q := smQ) (fun ρ => ∃ x, ρ = [some ⟨.fz, .str l⟩, x]) (rows := l.map fun c => .str [c]) (ρ := [some ⟨.fz, .str l⟩, none]) (fun d hd ρ ⟨x, hρ⟩ => by
      subst hρ
      obtain ⟨c, hc, rfl⟩ := List.mem_map.mp hd
      refine ⟨[some ⟨.fz, .str l⟩, some ⟨.fz, .str [c]⟩], ?_, _, rfl⟩
      by_cases hm : c ∈ abc
      · simp [lcTg, assignD, wipeE, smTs, smX, smQ, evTs, evT, evE, Rs.bind, En.get, op2, op1, look, toRs, toRb, cmpD, inD, truth, hm, keep]
      · simp [lcTg, assignD, wipeE, smTs, smX, smQ, evTs, evT, evE, Rs.bind, En.get, op2, op1, look, toRs, toRb, cmpD, inD, truth, hm, keep]) ⟨none, rfl⟩
    generalize hds : (l.map fun c => D.str [c]).filterMap smQ = ds at e
    have hlen : ds.length ≤ LIM := by
      rw [← hds]
      refine Nat.le_trans (List.length_filterMap_le _ _) ?_
      rw [List.length_map]
      exact hl
    have hall : ds.isEmpty = small l ∧ flatL 59 ds = true := by
      rw [← hds]
      clear hds e hlen hl hz hv
      induction l with
      | nil => exact ⟨rfl, rfl⟩
      | cons c l ih =>
        rw [List.map_cons, List.filterMap_cons, smQ]
        by_cases hm : c ∈ abc
        · have hc : abc.contains c = true := by simpa using hm
          simp only [hm, if_true]
          refine ⟨?_, ih.2⟩
          rw [ih.1]
          show small l = (abc.contains c && small l)
          rw [hc] <;> rfl
        · have hc : abc.contains c = false := by simpa using hm
          simp only [hm, if_false]
          refine ⟨?_, ?_⟩
          · show false = (abc.contains c && small l)
            rw [hc] <;> rfl
          · show (flat 59 (.str [c]) && flatL 59 _) = true
            rw [ih.2] <;> rfl
    simp [dfSmall, smallD, runDf, frzAt, evSs, evS, evE, evEs, evI, Rs.bind, En.get, op2, op1, look, lookAll, toRs, toRb, biD, truth, items, lockL, lockS, Md.lock, wipeE, e, hlen, backE, unlockL, unlockS, keepAll, cmpD, eqv, flat, DEP, hall.2, eqD, keep, allSome, backAt, ← hall.1]
    cases ds <;> rfl
  | fn n => cases hv
  | exc c v => cases hv
  | _ => simp [dfSmall, smallD, runDf, frzAt, evSs, evS, evE, evEs, Rs.bind, En.get, op2, op1, look, lookAll, toRs, toRb, biD, truth, keep, allSome, backAt]
def dfInOrd (a : Nat) : Df := ⟨1, 2, [], (.cons (.ret (.and (.call a [0] (.cons (.var 0) .nil) .nil) riseE)) .nil)⟩
theorem fInOrd_ok {Δ : Tab} {a n : Nat} (h1 : Δ.lookup a = some dfSmall) (h : Δ.lookup n = some (dfInOrd a)) (k : Nat) {v : D} (hv : known v = true) (hz : short v = true) : Phi Δ (k + 2) n [⟨.fz, v⟩] = .ret false (.bl (ordD v)) [⟨.fz, v⟩] := by
  rw [Phi_s h]
  have e1 := fSmall_ok h1 k hv hz
  cases hs : smallD v with
  | false =>
    have e2 : ordD v = false := by
      cases v <;> first | rfl | skip
      rename_i l
      have hs : small l = false := hs
      show (small l && _) = false
      rw [hs] <;> rfl
    rw [hs] at e1
    simp [dfInOrd, runDf, frzAt, evSs, evS, evE, evEs, Rs.bind, En.get, op1, look, truth, pick, callR, frzDup, argsOf, argOf, outsTo, e1, e2, allSome, backAt]
  | true =>
    cases v <;> first | (cases hs; done) | skip
    rename_i l
    have e2 := rise_ok (Φ := Phi Δ (k + 1)) (m := .fz) (seqy_str (of_decide_eq_true hz))
    have e3 : small l = true := hs
    rw [hs] at e1
    simp [dfInOrd, runDf, frzAt, evSs, evS, evE, evEs, Rs.bind, En.get, op1, look, truth, pick, callR, frzDup, argsOf, argOf, outsTo, e1, e2, e3, ordD, allSome, backAt]
/-- a def that hands its one argument on -/
def dfPass (a : Nat) : Df := ⟨1, 1, [], (.cons (.ret (.call a [0] (.cons (.var 0) .nil) .nil)) .nil)⟩
theorem pass_ok {Δ : Tab} {a n k : Nat} {v : D} {b : Bool} (h : Δ.lookup n = some (dfPass a)) (e : Phi Δ k a [⟨.fz, v⟩] = .ret false (.bl b) [⟨.fz, v⟩]) : Phi Δ (k + 1) n [⟨.fz, v⟩] = .ret false (.bl b) [⟨.fz, v⟩] := by
  rw [Phi_s h]
  simp [dfPass, runDf, frzAt, evSs, evS, evE, evEs, Rs.bind, En.get, pick, callR, frzDup, argsOf, argOf, outsTo, e, allSome, backAt]
/-! ### prices -/
def whole : D → Option Int
  | .int i => some i
  | _ => none
def dfWhole : Df := ⟨1, 1, [], (.cons (.ret (.and (.bi .isint (.cons (.var 0) .nil)) (.not (.bi .isbool (.cons (.var 0) .nil))))) .nil)⟩
theorem whole_ok {Δ : Tab} {n : Nat} (h : Δ.lookup n = some dfWhole) (k : Nat) {v : D} (hv : known v = true) : Phi Δ (k + 1) n [⟨.fz, v⟩] = .ret false (.bl (whole v).isSome) [⟨.fz, v⟩] := by
  rw [Phi_s h]
  cases v <;> first | (cases hv; done) | rfl
def dfBetw (a : Nat) : Df := ⟨3, 3, [], (.cons (.iff (.not (.val (.call a [0] (.cons (.var 0) .nil) .nil))) (.cons (.ret (.lit (.bl false))) .nil) .nil) (.cons (.ret (.and (.or (.cmp .is (.var 1) (.lit .non)) (.cmp .ge (.var 0) (.var 1))) (.or (.cmp .is (.var 2) (.lit .non)) (.cmp .le (.var 0) (.var 2))))) .nil))⟩
/-- between, the upper end open -/
def atLeast (lo : Int) : D → Bool
  | .int i => decide (lo ≤ i)
  | _ => false
theorem betw_ok {Δ : Tab} {a n : Nat} (h1 : Δ.lookup a = some dfWhole) (h : Δ.lookup n = some (dfBetw a)) (k : Nat) {v : D} {lo : Int} (hv : known v = true) : Phi Δ (k + 2) n [⟨.fz, v⟩, ⟨.fz, .int lo⟩, ⟨.fz, .non⟩] = .ret false (.bl (atLeast lo v)) [⟨.fz, v⟩, ⟨.fz, .int lo⟩, ⟨.fz, .non⟩] := by
  rw [Phi_s h]
  have e1 := whole_ok h1 k hv
  cases v with
  | int i =>
    have e1 : Phi Δ (k + 1) a [⟨.fz, .int i⟩] = .ret false (.bl true) [⟨.fz, .int i⟩] := e1
    by_cases hl : lo ≤ i
    · simp [dfBetw, runDf, frzAt, evSs, evS, evT, evE, evEs, Rs.bind, En.get, op1, op2, look, truth, pick, callR, frzDup, argsOf, argOf, outsTo, toRb, cmpD, isNonD, e1, atLeast, hl, keep, allSome, backAt]
    · simp [dfBetw, runDf, frzAt, evSs, evS, evT, evE, evEs, Rs.bind, En.get, op1, op2, look, truth, pick, callR, frzDup, argsOf, argOf, outsTo, toRb, cmpD, isNonD, e1, atLeast, hl, keep, allSome, backAt]
  | fn n => cases hv
  | exc c v => cases hv
  | _ =>
    simp only [whole, Option.isSome] at e1
    simp [dfBetw, runDf, frzAt, evSs, evS, evT, evE, evEs, Rs.bind, En.get, op1, op2, look, truth, pick, callR, frzDup, argsOf, argOf, outsTo, toRb, cmpD, isNonD, e1, atLeast, keep, allSome, backAt]
end Ev

set_option Elab.async false
set_option linter.all false
set_option maxRecDepth 100000
set_option maxHeartbeats 1000000
/-! Pl5: prices. Own work. -/
namespace Ev
def priceOk : D → Bool
  | .tup [x, y] => match x with
    | .str l => small l && decide (l.length = 1) && atLeast 1 y
    | _ => false
  | _ => false
def known2 : D → Bool
  | .tup xs => xs.all known
  | d => known d
def dfPrice (ll bw : Nat) : Df := ⟨1, 1, [], (.cons (.iff (.or (.not (.val (.bi .istuple (.cons (.var 0) .nil)))) (.or (.val (.cmp .ne (.bi .len (.cons (.var 0) .nil)) (.lit (.int 2)))) (.or (.not (.val (.call ll [0] (.cons (.sub (.var 0) (.lit (.int 0))) .nil) .nil))) (.val (.cmp .ne (.bi .len (.cons (.sub (.var 0) (.lit (.int 0))) .nil)) (.lit (.int 1))))))) (.cons (.ret (.lit (.bl false))) .nil) .nil) (.cons (.ret (.call bw [0, 1, 2] (.cons (.sub (.var 0) (.lit (.int 1))) (.cons (.lit (.int 1)) (.cons (.lit .non) .nil))) .nil)) .nil))⟩
theorem price_ok {Δ : Tab} {ll wh bw n : Nat} (h1 : Δ.lookup ll = some dfLett) (h2 : Δ.lookup wh = some dfWhole) (h3 : Δ.lookup bw = some (dfBetw wh)) (h : Δ.lookup n = some (dfPrice ll bw)) (k : Nat) {v : D} (hv : known2 v = true) : Phi Δ (k + 3) n [⟨.fz, v⟩] = .ret false (.bl (priceOk v)) [⟨.fz, v⟩] := by
  rw [Phi_s h]
  cases v with
  | tup xs =>
    rcases xs with _ | ⟨x, _ | ⟨y, _ | ⟨z, r⟩⟩⟩
    · simp [dfPrice, runDf, frzAt, evSs, evS, evT, evE, evEs, Rs.bind, En.get, op1, op2, look, lookAll, truth, biD, toRs, toRb, cmpD, eqv, flat, DEP, eqD, priceOk, allSome, backAt]
    · simp [dfPrice, runDf, frzAt, evSs, evS, evT, evE, evEs, Rs.bind, En.get, op1, op2, look, lookAll, truth, biD, toRs, toRb, cmpD, eqv, flat, DEP, eqD, priceOk, allSome, backAt]
    · replace hv : (known x && (known y && true)) = true := hv
      rw [Bool.and_eq_true, Bool.and_eq_true] at hv
      have e1 := lett_ok h1 (k + 1) hv.1
      have e2 := betw_ok h2 h3 k (lo := 1) hv.2.1
      cases hs : smallD x with
      | false =>
        rw [hs] at e1
        have e3 : priceOk (.tup [x, y]) = false := by
          cases x <;> first | rfl | skip
          rename_i l
          have hs : small l = false := hs
          show (small l && _ && _) = false
          rw [hs] <;> rfl
        simp [dfPrice, runDf, frzAt, evSs, evS, evT, evE, evEs, Rs.bind, En.get, op1, op2, look, lookAll, truth, biD, toRs, toRb, cmpD, eqv, flat, DEP, eqD, subD, ixN, pick, callR, frzDup, argsOf, argOf, outsTo, e1, e3, allSome, backAt]
      | true =>
        cases x <;> first | (cases hs; done) | skip
        rename_i l
        have hs' : small l = true := hs
        rw [hs] at e1
        by_cases hl : l.length = 1
        · have hl' : (l.length : Int) = 1 := by omega
          simp [dfPrice, runDf, frzAt, evSs, evS, evT, evE, evEs, Rs.bind, En.get, op1, op2, look, lookAll, truth, biD, toRs, toRb, cmpD, eqv, flat, DEP, eqD, subD, ixN, pick, callR, frzDup, argsOf, argOf, outsTo, e1, e2, hl, hl', hs', priceOk, allSome, backAt]
        · have hl' : ¬ (l.length : Int) = 1 := by omega
          simp [dfPrice, runDf, frzAt, evSs, evS, evT, evE, evEs, Rs.bind, En.get, op1, op2, look, lookAll, truth, biD, toRs, toRb, cmpD, eqv, flat, DEP, eqD, subD, ixN, pick, callR, frzDup, argsOf, argOf, outsTo, e1, hl, hl', hs', priceOk, allSome, backAt]
    · have hl : ¬ ((r.length + 1 + 1 + 1 : Nat) : Int) = 2 := by omega
      have hl2 : ¬ ((r.length : Int) + 1 + 1 + 1 = 2) := by omega
      simp [dfPrice, runDf, frzAt, evSs, evS, evT, evE, evEs, Rs.bind, En.get, op1, op2, look, lookAll, truth, biD, toRs, toRb, cmpD, eqv, flat, DEP, eqD, priceOk, hl, hl2, allSome, backAt]
  | fn n => cases hv
  | exc c v => cases hv
  | _ => simp [dfPrice, runDf, frzAt, evSs, evS, evT, evE, evEs, Rs.bind, En.get, op1, op2, look, lookAll, truth, biD, toRs, toRb, priceOk, allSome, backAt]
end Ev

set_option Elab.async false
set_option linter.all false
set_option maxRecDepth 100000
set_option maxHeartbeats 1000000
/-! Pl6: lists of prices. Own work. -/
namespace Ev
def fstD : D → D
  | .tup (x :: _) => x
  | _ => .non
def prQ (d : D) : Option D := if priceOk d then none else some d
def prX : E := .var 1
def prTs (pr : Nat) : Ts := .cons (.not (.val (.call pr [0] (.cons (.var 1) .nil) .nil))) .nil
def prY : E := .var 2
def dfPrices (pr rs : Nat) : Df := ⟨1, 4, [], (.cons (.iff (.or (.not (.val (.bi .islist (.cons (.var 0) .nil)))) (.val (.cmp .ne (.lc prX [1] (.seq (.var 0)) (prTs pr) [1]) (.lst .nil)))) (.cons (.ret (.lit (.bl false))) .nil) .nil) (.cons (.ret (.call rs [0] (.cons (.lc prY [2, 3] (.seq (.var 0)) .nil [2, 3]) .nil) .nil)) .nil))⟩
def pricesD : D → Bool
  | .lst xs => xs.all priceOk && riseD (.lst (xs.map fstD)) xs.length
  | _ => false
/-- what the price rules may look at -/
def known3 : D → Bool
  | .lst xs => xs.all known2 && flatL 59 xs && decide (xs.length ≤ LIM)
  | .scr _ => false
  | d => known d
theorem priceOk_shape {d : D} (h : priceOk d = true) : ∃ c i, d = .tup [.str [c], .int i] ∧ (1 : Int) ≤ i := by
  unfold priceOk at h
  split at h
  · split at h
    · rename_i x y l
      rw [Bool.and_eq_true, Bool.and_eq_true] at h
      obtain ⟨⟨_, h2⟩, h3⟩ := h
      have h2 := of_decide_eq_true h2
      match l, h2 with
      | [c], _ =>
        cases x with
        | int i => exact ⟨c, i, rfl, of_decide_eq_true h3⟩
        | _ => cases h3
    · cases h
  · cases h
theorem flat_prQ : ∀ {xs : List D} {k : Nat}, flatL k xs = true → flatL k (xs.filterMap prQ) = true
  | [], _, _ => rfl
  | x :: xs, k, h => by
    have h : (flat k x && flatL k xs) = true := h
    rw [Bool.and_eq_true] at h
    rw [List.filterMap_cons]
    unfold prQ
    by_cases hp : priceOk x = true
    · simp only [hp, if_true]
      exact flat_prQ h.2
    · simp only [hp]
      show (flat k x && flatL k (xs.filterMap prQ)) = true
      rw [h.1, flat_prQ h.2] <;> rfl
theorem prQ_nil : ∀ {xs : List D}, (xs.filterMap prQ).isEmpty = xs.all priceOk
  | [] => rfl
  | x :: xs => by
    rw [List.filterMap_cons, List.all_cons]
    unfold prQ
    cases hp : priceOk x with
    | true => simp only [if_true, Bool.true_and]; exact prQ_nil
    | false => simp
theorem fst_strs : ∀ {xs : List D}, xs.all priceOk = true → ∃ cs : List (List Nat), xs.map fstD = cs.map .str ∧ cs.length = xs.length
  | [], _ => ⟨[], rfl, rfl⟩
  | d :: xs, ha => by
    rw [List.all_cons, Bool.and_eq_true] at ha
    obtain ⟨c, i, rfl, _⟩ := priceOk_shape ha.1
    obtain ⟨cs, e1, e2⟩ := fst_strs ha.2
    exact ⟨[c] :: cs, by rw [List.map_cons, List.map_cons, e1] <;> rfl, by rw [List.length_cons, List.length_cons, e2]⟩
theorem flatL_nil (k : Nat) : flatL k [] = true := by cases k <;> rfl
theorem eqDs_cn (y : D) (ys : List D) : eqDs (y :: ys) [] = false := rfl
theorem prices_ok {Δ : Tab} {ll wh bw pr rs n : Nat} (h1 : Δ.lookup ll = some dfLett) (h2 : Δ.lookup wh = some dfWhole) (h3 : Δ.lookup bw = some (dfBetw wh)) (h4 : Δ.lookup pr = some (dfPrice ll bw)) (h5 : Δ.lookup rs = some dfRise) (h : Δ.lookup n = some (dfPrices pr rs)) (k : Nat) {md : Md} {v : D} (hv : known3 v = true) : Phi Δ (k + 4) n [⟨md, v⟩] = .ret false (.bl (pricesD v)) [⟨md, v⟩] := by
  rw [Phi_s h]
  cases v with
  | lst xs =>
    replace hv : (xs.all known2 && flatL 59 xs && decide (xs.length ≤ LIM)) = true := hv
    rw [Bool.and_eq_true, Bool.and_eq_true] at hv
    obtain ⟨⟨hk, hf⟩, hl⟩ := hv
    have hl := of_decide_eq_true hl
    obtain ⟨ρ', e, x, rfl⟩ := lcGo_pure (f := lcTg [1] [1] (evTs (Phi Δ (k + 3)) (prTs pr)) (evE (Phi Δ (k + 3)) prX)) (q := prQ) (fun ρ => ∃ x, ρ = [some ⟨md.lock, .lst xs⟩, x, none, none]) (rows := xs) (ρ := [some ⟨md.lock, .lst xs⟩, none, none, none]) (fun d hd ρ ⟨x, hρ⟩ => by
      subst hρ
      refine ⟨[some ⟨md.lock, .lst xs⟩, some ⟨.fz, d⟩, none, none], ?_, _, rfl⟩
      have hkd : known2 d = true := (List.all_eq_true.mp hk) d hd
      have e1 := price_ok h1 h2 h3 h4 k hkd
      by_cases hp : priceOk d = true
      · simp [lcTg, assignD, wipeE, prTs, prX, prQ, evTs, evT, evE, evEs, Rs.bind, En.get, op2, op1, look, toRs, toRb, truth, pick, callR, frzDup, argsOf, argOf, outsTo, e1, hp, keep]
      · have hp : priceOk d = false := by simpa using hp
        simp [lcTg, assignD, wipeE, prTs, prX, prQ, evTs, evT, evE, evEs, Rs.bind, En.get, op2, op1, look, toRs, toRb, truth, pick, callR, frzDup, argsOf, argOf, outsTo, e1, hp, keep]) ⟨none, rfl⟩
    have hfl := flat_prQ hf
    have hnl := prQ_nil (xs := xs)
    have hlen : (xs.filterMap prQ).length ≤ LIM := Nat.le_trans (List.length_filterMap_le _ _) hl
    generalize xs.filterMap prQ = ds at e hfl hnl hlen
    cases ha : xs.all priceOk with
    | false =>
      rw [ha] at hnl
      have hne : ¬ ds = [] := by intro z; rw [z] at hnl; cases hnl
      cases ds with
      | nil => exact absurd rfl hne
      | cons y ys =>
        have hlen : ys.length + 1 ≤ LIM := hlen
        cases md <;> simp only [Md.lock] at e <;> simp [dfPrices, pricesD, ha, runDf, frzAt, evSs, evS, evT, evE, evEs, evI, Rs.bind, En.get, op2, op1, look, lookAll, toRs, toRb, biD, truth, items, lockL, lockS, Md.lock, wipeE, e, hlen, hl, backE, unlockL, unlockS, keepAll, cmpD, eqv, flat, DEP, hfl, flatL_nil, eqDs_cn, eqD, keep, allSome, backAt]
    | true =>
      rw [ha] at hnl
      have hds : ds = [] := by cases ds <;> first | rfl | cases hnl
      subst hds
      obtain ⟨ρ'', e2, x2, y2, rfl⟩ := lcGo_pure (f := lcTg [2, 3] [2, 3] (evTs (Phi Δ (k + 3)) .nil) (evE (Phi Δ (k + 3)) prY)) (q := fun d => some (fstD d)) (fun ρ => ∃ x y, ρ = [some ⟨md.lock, .lst xs⟩, none, x, y]) (rows := xs) (ρ := [some ⟨md.lock, .lst xs⟩, none, none, none]) (fun d hd ρ ⟨x, y, hρ⟩ => by
        subst hρ
        obtain ⟨c, i, rfl, _⟩ := priceOk_shape ((List.all_eq_true.mp ha) d hd)
        refine ⟨[some ⟨md.lock, .lst xs⟩, none, some ⟨.fz, .str [c]⟩, some ⟨.fz, .int i⟩], ?_, _, _, rfl⟩
        simp [lcTg, assignD, setAll, wipeE, prY, fstD, evTs, evT, evE, evEs, Rs.bind, En.get, op2, op1, look, keep]) ⟨none, none, rfl⟩
      have hmap : xs.filterMap (fun d => some (fstD d)) = xs.map fstD := by
        rw [← List.filterMap_eq_map] <;> rfl
      rw [hmap] at e2
      have hstr := fst_strs ha
      obtain ⟨cs, hcs, hcl⟩ := hstr
      have hz := seqy_lst (cs := cs) (by rw [hcl]; exact hl)
      rw [← hcs, hcl] at hz
      have e3 := fRise_ok h5 (k + 2) (md := .fz) hz
      have hml : (xs.map fstD).length ≤ LIM := by rw [List.length_map]; exact hl
      have e4 := fRise_ok h5 (k + 2) (md := .own) hz
      cases md <;> simp only [Md.lock] at e e2 <;> simp [dfPrices, pricesD, ha, runDf, frzAt, evSs, evS, evT, evE, evEs, evI, Rs.bind, En.get, op2, op1, look, lookAll, toRs, toRb, biD, truth, items, lockL, lockS, Md.lock, wipeE, e, e2, hlen, hl, hml, backE, unlockL, unlockS, keepAll, cmpD, eqv, flat, flatL_nil, DEP, hfl, eqD, eqDs, pick, callR, frzDup, argsOf, argOf, outsTo, e3, e4, keep, allSome, backAt]
  | fn n => cases hv
  | exc c v => cases hv
  | scr ns => cases hv
  | _ => simp [dfPrices, pricesD, runDf, frzAt, evSs, evS, evT, evE, evEs, Rs.bind, En.get, op2, op1, look, lookAll, toRs, toRb, biD, truth, keep, allSome, backAt]
end Ev

set_option Elab.async false
set_option linter.all false
set_option maxRecDepth 100000
set_option maxHeartbeats 1000000
/-! Pl7: the law's own look at lists of prices. Own work. -/
namespace Ev
theorem forGo_chk {f : D → En → Rs Fl} {p : D → Bool} {o : Bool} {r : D} (Inv : En → Prop) : ∀ {rows : List D} {ρ : En}, (∀ d ∈ rows, ∀ ρ, Inv ρ → ∃ ρ', f d ρ = .ok (if p d then .nx else .rt o r) ρ' ∧ Inv ρ') → Inv ρ → ∃ ρ', forGo f rows ρ = .ok (if rows.all p then .nx else .rt o r) ρ' ∧ Inv ρ'
  | [], ρ, _, h => ⟨ρ, rfl, h⟩
  | d :: ds, ρ, st, h => by
    obtain ⟨ρ1, e, h1⟩ := st d List.mem_cons_self ρ h
    obtain ⟨ρ2, e2, h2⟩ := forGo_chk Inv (rows := ds) (fun d hd => st d (List.mem_cons_of_mem _ hd)) h1
    unfold forGo
    rw [e, List.all_cons]
    cases hp : p d with
    | true => exact ⟨ρ2, e2, h2⟩
    | false => exact ⟨ρ1, rfl, h1⟩
theorem ltII (a b : Int) : ltD (.int a) (.int b) = some (decide (a < b)) := rfl
/-- items of a list of prices whose texts are short -/
def shortI : D → Bool
  | .tup (x :: _) => short x
  | _ => true
def arB (sm : Nat) : Ss := (.cons (.iff (.or (.not (.val (.bi .istuple (.cons (.var 1) .nil)))) (.or (.val (.cmp .ne (.bi .len (.cons (.var 1) .nil)) (.lit (.int 2)))) (.or (.not (.val (.call sm [0] (.cons (.sub (.var 1) (.lit (.int 0))) .nil) .nil))) (.val (.cmp .ne (.bi .len (.cons (.sub (.var 1) (.lit (.int 0))) .nil)) (.lit (.int 1))))))) (.cons (.ret (.lit (.bl false))) .nil) .nil) (.cons (.iff (.or (.not (.val (.bi .isint (.cons (.sub (.var 1) (.lit (.int 1))) .nil)))) (.or (.val (.bi .isbool (.cons (.sub (.var 1) (.lit (.int 1))) .nil))) (.val (.cmp .lt (.sub (.var 1) (.lit (.int 1))) (.lit (.int 1)))))) (.cons (.ret (.lit (.bl false))) .nil) .nil) .nil))
theorem arB_ok {Δ : Tab} {sm : Nat} (h1 : Δ.lookup sm = some dfSmall) (k : Nat) {d : D} {np : Nat} {V : D} (hk : known2 d = true) (hz : shortI d = true) : evSs (Phi Δ (k + 1)) np (arB sm) [some ⟨.fz, V⟩, some ⟨.fz, d⟩] = .ok (if priceOk d then .nx else .rt false (.bl false)) [some ⟨.fz, V⟩, some ⟨.fz, d⟩] := by
  cases d with
  | tup xs =>
    rcases xs with _ | ⟨x, _ | ⟨y, _ | ⟨z, r⟩⟩⟩
    · simp [arB, evSs, evS, evT, evE, evEs, Rs.bind, En.get, op1, op2, look, lookAll, truth, biD, toRs, toRb, cmpD, eqv, flat, DEP, eqD, priceOk, keep]
    · simp [arB, evSs, evS, evT, evE, evEs, Rs.bind, En.get, op1, op2, look, lookAll, truth, biD, toRs, toRb, cmpD, eqv, flat, DEP, eqD, priceOk, keep]
    · replace hk : (known x && (known y && true)) = true := hk
      rw [Bool.and_eq_true, Bool.and_eq_true] at hk
      have e1 := fSmall_ok h1 k hk.1 hz
      cases hs : smallD x with
      | false =>
        rw [hs] at e1
        have e3 : priceOk (.tup [x, y]) = false := by
          cases x with
          | str l =>
            have hs : small l = false := hs
            show (small l && _ && _) = false
            rw [hs] <;> rfl
          | _ => rfl
        simp [arB, evSs, evS, evT, evE, evEs, Rs.bind, En.get, op1, op2, look, lookAll, truth, biD, toRs, toRb, cmpD, eqv, flat, DEP, eqD, subD, ixN, pick, callR, frzDup, argsOf, argOf, outsTo, e1, e3, keep]
      | true =>
        cases x with
        | str l =>
          have hs' : small l = true := hs
          rw [hs] at e1
          by_cases hl : l.length = 1
          · have hl' : (l.length : Int) = 1 := by omega
            cases y with
            | int i =>
              by_cases hi : i < 1
              · have hi' : ¬ 1 ≤ i := by omega
                simp [arB, evSs, evS, evT, evE, evEs, Rs.bind, En.get, op1, op2, look, lookAll, truth, biD, toRs, toRb, cmpD, eqv, flat, DEP, eqD, subD, ixN, pick, callR, frzDup, argsOf, argOf, outsTo, e1, hl, hl', hs', hi, hi', ltII, priceOk, atLeast, keep]
              · have hi' : 1 ≤ i := by omega
                simp [arB, evSs, evS, evT, evE, evEs, Rs.bind, En.get, op1, op2, look, lookAll, truth, biD, toRs, toRb, cmpD, eqv, flat, DEP, eqD, subD, ixN, pick, callR, frzDup, argsOf, argOf, outsTo, e1, hl, hl', hs', hi, hi', ltII, priceOk, atLeast, keep]
            | fn n => exact absurd hk.2.1 (by simp [known])
            | exc c v => exact absurd hk.2.1 (by simp [known])
            | _ => simp [arB, evSs, evS, evT, evE, evEs, Rs.bind, En.get, op1, op2, look, lookAll, truth, biD, toRs, toRb, cmpD, eqv, flat, DEP, eqD, subD, ixN, pick, callR, frzDup, argsOf, argOf, outsTo, e1, hl, hl', hs', priceOk, atLeast, keep]
          · have hl' : ¬ (l.length : Int) = 1 := by omega
            simp [arB, evSs, evS, evT, evE, evEs, Rs.bind, En.get, op1, op2, look, lookAll, truth, biD, toRs, toRb, cmpD, eqv, flat, DEP, eqD, subD, ixN, pick, callR, frzDup, argsOf, argOf, outsTo, e1, hl, hl', hs', priceOk, keep]
        | _ => cases hs
    · have hl2 : ¬ ((r.length : Int) + 1 + 1 + 1 = 2) := by omega
      simp [arB, evSs, evS, evT, evE, evEs, Rs.bind, En.get, op1, op2, look, lookAll, truth, biD, toRs, toRb, cmpD, eqv, flat, DEP, eqD, priceOk, hl2, keep]
  | fn n => cases hk
  | exc c v => cases hk
  | _ => simp [arB, evSs, evS, evT, evE, evEs, Rs.bind, En.get, op1, op2, look, lookAll, truth, biD, toRs, toRb, priceOk, keep]
/-- the letters of a list of prices -/
theorem fst_chars : ∀ {xs : List D}, xs.all priceOk = true → ∃ cs : List Nat, xs.map fstD = cs.map (fun c => .str [c]) ∧ cs.length = xs.length ∧ small cs = true
  | [], _ => ⟨[], rfl, rfl, rfl⟩
  | d :: xs, ha => by
    rw [List.all_cons, Bool.and_eq_true] at ha
    obtain ⟨c, i, rfl, _⟩ := priceOk_shape ha.1
    obtain ⟨cs, e1, e2, e3⟩ := fst_chars ha.2
    have hc : small [c] = true := by
      have h := ha.1
      change (small [c] && _ && _) = true at h
      rw [Bool.and_eq_true, Bool.and_eq_true] at h
      exact h.1.1
    refine ⟨c :: cs, by rw [List.map_cons, List.map_cons, e1] <;> rfl, by rw [List.length_cons, List.length_cons, e2], ?_⟩
    unfold small at hc e3 ⊢
    rw [List.all_cons, e3]
    rw [List.all_cons] at hc
    exact hc
theorem strs_chars : ∀ cs : List Nat, strsOf (cs.map fun c => D.str [c]) = some (cs.map fun c => [c])
  | [] => rfl
  | c :: cs => by
    rw [List.map_cons, strsOf, strs_chars cs] <;> rfl
theorem join_chars : ∀ cs : List Nat, joinL [] (cs.map fun c => [c]) = cs
  | [] => rfl
  | [c] => rfl
  | c :: d :: cs => by
    have h := join_chars (d :: cs)
    simp only [List.map_cons] at h ⊢
    rw [joinL, h] <;> rfl
theorem sum_chars : ∀ cs : List Nat, ((cs.map fun c => [c]).map List.length).sum = cs.length
  | [] => rfl
  | c :: cs => by
    rw [List.map_cons, List.map_cons, List.sum_cons, sum_chars cs]
    show 1 + cs.length = cs.length + 1
    omega
theorem sum_chars2 (cs : List Nat) : (List.map (List.length ∘ fun c => [c]) cs).sum = cs.length := by
  have h := sum_chars cs
  rw [List.map_map] at h
  exact h
theorem rise_chars (cs : List Nat) (n : Nat) : riseD (.lst (cs.map fun c => .str [c])) n = riseD (.str cs) n := by
  have e : ∀ i : Int, subD (.lst (cs.map fun c => D.str [c])) (.int i) = subD (.str cs) (.int i) := by
    intro i
    simp only [subD, ixN, List.length_map, List.getElem?_map]
    split <;> (try split) <;> (first | rfl | skip) <;> (rename_i hh; rw [hh] <;> rfl)
  have eq : riseQ (.lst (cs.map fun c => D.str [c])) = riseQ (.str cs) := by
    funext d
    cases d <;> first | rfl | skip
    unfold riseQ
    simp only [e]
  unfold riseD
  rw [eq]
def jnX : E := .sub (.var 1) (.lit (.int 0))
def dfArePr (sm io : Nat) : Df := ⟨1, 2, [], (.cons (.iff (.not (.val (.bi .islist (.cons (.var 0) .nil)))) (.cons (.ret (.lit (.bl false))) .nil) .nil) (.cons (.for [1] (.seq (.var 0)) (arB sm)) (.cons (.ret (.call io [0] (.cons (.mth .join (.lit (.str [])) (.cons (.lc jnX [1] (.seq (.var 0)) .nil [1]) .nil)) .nil) .nil)) .nil)))⟩
theorem arePr_ok {Δ : Tab} {sm io n : Nat} (h1 : Δ.lookup sm = some dfSmall) (h2 : Δ.lookup io = some (dfInOrd sm)) (h : Δ.lookup n = some (dfArePr sm io)) (k : Nat) {v : D} (hv : known3 v = true) (hz : ∀ xs, v = .lst xs → xs.all shortI = true) : Phi Δ (k + 3) n [⟨.fz, v⟩] = .ret false (.bl (pricesD v)) [⟨.fz, v⟩] := by
  rw [Phi_s h]
  cases v with
  | lst xs =>
    replace hz := hz xs rfl
    replace hv : (xs.all known2 && flatL 59 xs && decide (xs.length ≤ LIM)) = true := hv
    rw [Bool.and_eq_true, Bool.and_eq_true] at hv
    obtain ⟨⟨hk, hf⟩, hl⟩ := hv
    replace hl := of_decide_eq_true hl
    obtain ⟨ρ', e, x, rfl⟩ := forGo_chk (f := withTg [1] (evSs (Phi Δ (k + 2)) 1 (arB sm))) (p := priceOk) (o := false) (r := .bl false) (fun ρ => ∃ x, ρ = [some ⟨.fz, .lst xs⟩, x]) (rows := xs) (ρ := [some ⟨.fz, .lst xs⟩, none]) (fun d hd ρ ⟨x, hρ⟩ => by
      subst hρ
      refine ⟨[some ⟨.fz, .lst xs⟩, some ⟨.fz, d⟩], ?_, _, rfl⟩
      have e1 := arB_ok h1 (k + 1) (np := 1) (V := .lst xs) ((List.all_eq_true.mp hk) d hd) ((List.all_eq_true.mp hz) d hd)
      simp only [withTg, assignD]
      exact e1) ⟨none, rfl⟩
    cases ha : xs.all priceOk with
    | false =>
      rw [ha] at e
      simp [dfArePr, pricesD, ha, runDf, frzAt, evSs, evS, evT, evE, evEs, evI, Rs.bind, En.get, op2, op1, look, lookAll, toRs, toRb, biD, truth, items, lockL, lockS, Md.lock, wipeE, e, backE, unlockL, unlockS, keepAll, keep, allSome, backAt]
    | true =>
      rw [ha] at e
      obtain ⟨cs, hcs, hcl, hsm⟩ := fst_chars ha
      obtain ⟨ρ'', e2, x2, rfl⟩ := lcGo_pure (f := lcTg [1] [1] (evTs (Phi Δ (k + 2)) .nil) (evE (Phi Δ (k + 2)) jnX)) (q := fun d => some (fstD d)) (fun ρ => ∃ x, ρ = [some ⟨.fz, .lst xs⟩, x]) (rows := xs) (ρ := [some ⟨.fz, .lst xs⟩, none]) (fun d hd ρ ⟨x, hρ⟩ => by
        subst hρ
        obtain ⟨c, i, rfl, _⟩ := priceOk_shape ((List.all_eq_true.mp ha) d hd)
        refine ⟨[some ⟨.fz, .lst xs⟩, some ⟨.fz, .tup [.str [c], .int i]⟩], ?_, _, rfl⟩
        simp [lcTg, assignD, wipeE, jnX, fstD, evTs, evT, evE, evEs, Rs.bind, En.get, op2, op1, look, toRs, subD, ixN, keep]) ⟨none, rfl⟩
      have hmap : xs.filterMap (fun d => some (fstD d)) = xs.map fstD := by
        rw [← List.filterMap_eq_map] <;> rfl
      rw [hmap, hcs] at e2
      have hml : cs.length ≤ LIM := by rw [hcl]; exact hl
      have e3 := fInOrd_ok h1 h2 k (v := .str cs) rfl (decide_eq_true hml)
      have hp : pricesD (.lst xs) = ordD (.str cs) := by
        show (xs.all priceOk && riseD (.lst (xs.map fstD)) xs.length) = (small cs && riseD (.str cs) cs.length)
        rw [ha, hcs, rise_chars, hsm, hcl]
      rw [hp]
      simp [dfArePr, runDf, frzAt, evSs, evS, evT, evE, evEs, evI, Rs.bind, En.get, op2, op1, look, lookAll, toRs, toRb, biD, truth, items, lockL, lockS, Md.lock, wipeE, e, e2, hl, hml, backE, unlockL, unlockS, keepAll, mtOk, mthR, mtD, strs_chars, join_chars, sum_chars, sum_chars2, pick, callR, frzDup, argsOf, argOf, outsTo, e3, keep, allSome, backAt]
  | fn n => cases hv
  | exc c v => cases hv
  | scr ns => cases hv
  | _ => simp [dfArePr, pricesD, runDf, frzAt, evSs, evS, evT, evE, evEs, Rs.bind, En.get, op2, op1, look, lookAll, toRs, toRb, biD, truth, keep, allSome, backAt]
end Ev

set_option Elab.async false
set_option linter.all false
set_option maxRecDepth 100000
set_option maxHeartbeats 1000000
/-! Pl8: joints of prices, words ahead. Own work. -/
namespace Ev
def dfChk (a : Nat) : Df := ⟨1, 1, [], (.cons (.iff (.not (.val (.call a [0] (.cons (.var 0) .nil) .nil))) (.cons .bad .nil) .nil) .nil)⟩
theorem chk_ok {Δ : Tab} {a n k : Nat} {v : D} {md : Md} (h : Δ.lookup n = some (dfChk a)) (e : Phi Δ k a [⟨md, v⟩] = .ret false (.bl true) [⟨md, v⟩]) : Phi Δ (k + 1) n [⟨md, v⟩] = .ret false .non [⟨md, v⟩] := by
  rw [Phi_s h]
  simp [dfChk, runDf, frzAt, evSs, evS, evT, evE, evEs, Rs.bind, En.get, op1, look, truth, pick, callR, frzDup, argsOf, argOf, outsTo, e, allSome, backAt]
def loX : E := .var 1
def dfLettersOf : Df := ⟨1, 3, [], (.cons (.ret (.mth .join (.lit (.str [])) (.cons (.lc loX [1, 2] (.seq (.var 0)) .nil [1, 2]) .nil))) .nil)⟩
theorem lettersOf_ok {Δ : Tab} {n : Nat} (h : Δ.lookup n = some dfLettersOf) (k : Nat) {md : Md} {xs : List D} {cs : List Nat} (ha : xs.all priceOk = true) (hcs : xs.map fstD = cs.map (fun c => .str [c])) (hl : xs.length ≤ LIM) : Phi Δ (k + 1) n [⟨md, .lst xs⟩] = .ret false (.str cs) [⟨md, .lst xs⟩] := by
  rw [Phi_s h]
  obtain ⟨ρ'', e2, x2, y2, rfl⟩ := lcGo_pure (f := lcTg [1, 2] [1, 2] (evTs (Phi Δ k) .nil) (evE (Phi Δ k) loX)) (q := fun d => some (fstD d)) (fun ρ => ∃ x y, ρ = [some ⟨md.lock, .lst xs⟩, x, y]) (rows := xs) (ρ := [some ⟨md.lock, .lst xs⟩, none, none]) (fun d hd ρ ⟨x, y, hρ⟩ => by
    subst hρ
    obtain ⟨c, i, rfl, _⟩ := priceOk_shape ((List.all_eq_true.mp ha) d hd)
    refine ⟨[some ⟨md.lock, .lst xs⟩, some ⟨.fz, .str [c]⟩, some ⟨.fz, .int i⟩], ?_, _, _, rfl⟩
    simp [lcTg, assignD, setAll, wipeE, loX, fstD, evTs, evT, evE, evEs, Rs.bind, En.get, op2, op1, look, keep]) ⟨none, none, rfl⟩
  have hmap : xs.filterMap (fun d => some (fstD d)) = xs.map fstD := by
    rw [← List.filterMap_eq_map] <;> rfl
  have hml : cs.length ≤ LIM := by
    have := congrArg List.length hcs
    rw [List.length_map, List.length_map] at this
    omega
  rw [hmap, hcs] at e2
  cases md <;> simp only [Md.lock] at e2 <;> simp [dfLettersOf, runDf, frzAt, evSs, evS, evT, evE, evEs, evI, Rs.bind, En.get, op2, op1, look, lookAll, toRs, toRb, biD, truth, items, lockL, lockS, Md.lock, wipeE, e2, hl, hml, backE, unlockL, unlockS, keepAll, mtOk, mthR, mtD, strs_chars, join_chars, sum_chars, sum_chars2, keep, allSome, backAt]
def dfJointsOf (ck lo : Nat) : Df := ⟨1, 1, [], (.cons (.expr (.call ck [0] (.cons (.var 0) .nil) .nil)) (.cons (.ret (.call lo [0] (.cons (.var 0) .nil) .nil)) .nil))⟩
theorem jointsOf_ok {Δ : Tab} {ck lo n k : Nat} {v d : D} {md : Md} (h : Δ.lookup n = some (dfJointsOf ck lo)) (e1 : Phi Δ k ck [⟨md, v⟩] = .ret false .non [⟨md, v⟩]) (e2 : Phi Δ k lo [⟨md, v⟩] = .ret false d [⟨md, v⟩]) : Phi Δ (k + 1) n [⟨md, v⟩] = .ret false d [⟨md, v⟩] := by
  rw [Phi_s h]
  simp [dfJointsOf, runDf, frzAt, evSs, evS, evE, evEs, Rs.bind, En.get, op1, look, pick, callR, frzDup, argsOf, argOf, outsTo, e1, e2, allSome, backAt]
def dfKey : Df := ⟨1, 1, [], (.cons (.ret (.tup (.cons (.bi .len (.cons (.var 0) .nil)) (.cons (.var 0) .nil)))) .nil)⟩
theorem key_ok {Δ : Tab} {n : Nat} (h : Δ.lookup n = some dfKey) (k : Nat) (l : List Nat) : Phi Δ (k + 1) n [⟨.fz, .str l⟩] = .ret false (.tup [.int l.length, .str l]) [⟨.fz, .str l⟩] := by
  rw [Phi_s h]
  have hL : 2 ≤ LIM := by decide
  simp [dfKey, hL, runDf, frzAt, evSs, evS, evE, evEs, Rs.bind, En.get, op1, look, lookAll, toRs, biD, keep, keepAll, allSome, backAt]
def aheadD (a b : List Nat) : Bool := lessD (.tup [.int a.length, .str a]) (.tup [.int b.length, .str b])
theorem ahead_lt (a b : List Nat) : cmpD .lt (.tup [.int a.length, .str a]) (.tup [.int b.length, .str b]) = some (aheadD a b) := by
  rfl
def dfAhead (cw ky : Nat) : Df := ⟨2, 2, [], (.cons (.expr (.call cw [0] (.cons (.var 0) .nil) .nil)) (.cons (.expr (.call cw [0] (.cons (.var 1) .nil) .nil)) (.cons (.ret (.cmp .lt (.call ky [0] (.cons (.var 0) .nil) .nil) (.call ky [0] (.cons (.var 1) .nil) .nil))) .nil)))⟩
theorem ahead_ok {Δ : Tab} {ll cw ky n : Nat} (h1 : Δ.lookup ll = some dfLett) (h2 : Δ.lookup cw = some (dfChk ll)) (h3 : Δ.lookup ky = some dfKey) (h : Δ.lookup n = some (dfAhead cw ky)) (k : Nat) {a b : List Nat} (ha : small a = true) (hb : small b = true) : Phi Δ (k + 3) n [⟨.fz, .str a⟩, ⟨.fz, .str b⟩] = .ret false (.bl (aheadD a b)) [⟨.fz, .str a⟩, ⟨.fz, .str b⟩] := by
  rw [Phi_s h]
  have ea : Phi Δ (k + 1) ll [⟨.fz, .str a⟩] = .ret false (.bl (small a)) [⟨.fz, .str a⟩] := lett_ok h1 k (v := .str a) rfl
  have eb : Phi Δ (k + 1) ll [⟨.fz, .str b⟩] = .ret false (.bl (small b)) [⟨.fz, .str b⟩] := lett_ok h1 k (v := .str b) rfl
  rw [ha] at ea
  rw [hb] at eb
  have ca := chk_ok h2 ea
  have cb := chk_ok h2 eb
  have ka := key_ok h3 (k + 1) a
  have kb := key_ok h3 (k + 1) b
  simp [dfAhead, runDf, frzAt, evSs, evS, evE, evEs, Rs.bind, En.get, op2, op1, look, toRb, pick, callR, frzDup, argsOf, argOf, outsTo, ca, cb, ka, kb, ahead_lt, allSome, backAt]
def dfYes : Df := ⟨2, 2, [], (.cons (.ret (.and (.bi .isbool (.cons (.var 0) .nil)) (.cmp .eq (.var 0) (.var 1)))) .nil)⟩
theorem yes_ok {Δ : Tab} {n : Nat} (h : Δ.lookup n = some dfYes) (k : Nat) (a b : Bool) : Phi Δ (k + 1) n [⟨.fz, .bl a⟩, ⟨.fz, .bl b⟩] = .ret false (.bl (a == b)) [⟨.fz, .bl a⟩, ⟨.fz, .bl b⟩] := by
  rw [Phi_s h]
  cases a <;> cases b <;> rfl
end Ev

set_option Elab.async false
set_option linter.all false
set_option maxRecDepth 100000
set_option maxHeartbeats 1000000
/-! Pl9: draws with a budget, ascending letters. Own work. -/
namespace Ev
/-- a generator that m draws may still ask -/
def Gen (m : Nat) (g : D) : Prop := ∃ a b c : Int, g = genD a b c ∧ (0 ≤ a ∧ a < 10 ^ 600) ∧ (0 ≤ b ∧ b < 2 ^ 32) ∧ 0 ≤ c ∧ c + 6 * m < 2 ^ 60
theorem Gen.mono {m m' : Nat} {g : D} (h : Gen m g) (hm : m' ≤ m) : Gen m' g := by
  obtain ⟨a, b, c, e, ha, hb, hc, hc2⟩ := h
  exact ⟨a, b, c, e, ha, hb, hc, by omega⟩
theorem draw_ok {Δ : Tab} {hn rn : Nat} (h1 : Δ.lookup hn = some dfHash) (h2 : Δ.lookup rn = some (dfRnd hn)) (k : Nat) {m : Nat} {g : D} {n : Int} (hg : Gen (m + 1) g) (hn' : 0 < n ∧ n < 2 ^ 150) :
    ∃ (r : Int) (g' : D), 0 ≤ r ∧ r < n ∧ Gen m g' ∧ Phi Δ (k + 2) rn [⟨.own, g⟩, ⟨.fz, .int n⟩] = .ret false (.int r) [⟨.own, g'⟩, ⟨.fz, .int n⟩] := by
  obtain ⟨a, b, c, rfl, ha, hb, hc, hc2⟩ := hg
  obtain ⟨r, a', c', h3, h4, h5, h6, h7, h8, e⟩ := rnd_ok h1 h2 k ha hb ⟨hc, by omega⟩ hn'
  exact ⟨r, genD a' b c', h3, h4, ⟨a', b, c', rfl, ⟨h5, h6⟩, hb, by omega, by omega⟩, e⟩
/-- letters that ascend -/
def Asc (l : List Nat) : Prop := l.Pairwise (· < ·)
def leB (rn : Nat) : Ss := (.cons (.set 5 (.bin .add (.bin .add (.var 5) (.lit (.int 1))) (.call rn [0, 1] (.cons (.var 0) (.cons (.lit (.int 3)) .nil)) .nil))) (.cons (.set 4 (.bin .add (.var 4) (.sub (.lit (.str abc)) (.var 5)))) .nil))
def dfLetters (rn : Nat) : Df := ⟨3, 7, [], (.cons (.par [3, 4, 5] (.cons (.bin .add (.var 1) (.call rn [0, 1] (.cons (.var 0) (.cons (.bin .add (.bin .sub (.var 2) (.var 1)) (.lit (.int 1))) .nil)) .nil)) (.cons (.lit (.str [])) (.cons (.bin .sub (.lit (.int 0)) (.lit (.int 1))) .nil)))) (.cons (.for [6] (.rng1 (.var 3)) (leB rn)) (.cons (.ret (.var 4)) .nil)))⟩
theorem abc_at (j : Nat) (h : j < 26) : abc[j]? = some (97 + j) := by
  have : ∀ j : Fin 26, abc[j.val]? = some (97 + j.val) := by decide
  exact this ⟨j, h⟩
theorem abc_mem (j : Nat) (h : j < 26) : abc.contains (97 + j) = true := by
  have : ∀ j : Fin 26, abc.contains (97 + j.val) = true := by decide
  exact this ⟨j, h⟩
theorem leB_ok {Δ : Tab} {hn rn : Nat} (h1 : Δ.lookup hn = some dfHash) (h2 : Δ.lookup rn = some (dfRnd hn)) (k : Nat) {m np : Nat} {g p q x d : D} {l : List Nat} {s : Int} (hg : Gen (m + 1) g) (hs : -1 ≤ s ∧ s < 22) (hl : l.length < 100) :
    ∃ (s' : Int) (g' : D), s < s' ∧ s' ≤ s + 3 ∧ Gen m g' ∧ evSs (Phi Δ (k + 2)) np (leB rn) [some ⟨.own, g⟩, some ⟨.fz, p⟩, some ⟨.fz, q⟩, some ⟨.fz, x⟩, some ⟨.fz, .str l⟩, some ⟨.fz, .int s⟩, some ⟨.fz, d⟩] = .ok .nx [some ⟨.own, g'⟩, some ⟨.fz, p⟩, some ⟨.fz, q⟩, some ⟨.fz, x⟩, some ⟨.fz, .str (l ++ [97 + s'.toNat])⟩, some ⟨.fz, .int s'⟩, some ⟨.fz, d⟩] := by
  obtain ⟨r, g', r0, r1, hg', e⟩ := draw_ok h1 h2 k hg (n := 3) (by decide)
  refine ⟨s + 1 + r, g', by omega, by omega, hg', ?_⟩
  have hi : 0 ≤ s + 1 + r := by omega
  have hi2 : s + 1 + r < 26 := by omega
  have hj := abc_at (s + 1 + r).toNat (by omega)
  have hL : l.length + 1 ≤ LIM := by
    have : (101 : Nat) ≤ LIM := by decide
    omega
  have habc : abc.length = 26 := rfl
  simp [leB, evSs, evS, evE, evEs, Rs.bind, En.get, op2, op1, look, toRs, binD, storeR, keep, subD, ixN, pick, callR, frzDup, argsOf, argOf, outsTo, e, hi, hi2, hj, hL, habc]
  obtain ⟨_, hj'⟩ := List.getElem?_eq_some_iff.mp hj
  exact hj'
theorem letters_ok {Δ : Tab} {hn rn n : Nat} (h1 : Δ.lookup hn = some dfHash) (h2 : Δ.lookup rn = some (dfRnd hn)) (h : Δ.lookup n = some (dfLetters rn)) (k : Nat) {m : Nat} {g : D} (hg : Gen (m + 7) g) :
    ∃ (l : List Nat) (g' : D), 1 ≤ l.length ∧ l.length ≤ 6 ∧ small l = true ∧ Asc l ∧ Gen m g' ∧ Phi Δ (k + 3) n [⟨.own, g⟩, ⟨.fz, .int 1⟩, ⟨.fz, .int 6⟩] = .ret false (.str l) [⟨.own, g'⟩, ⟨.fz, .int 1⟩, ⟨.fz, .int 6⟩] := by
  rw [Phi_s h]
  obtain ⟨r, g1, r0, r1, hg1, e1⟩ := draw_ok h1 h2 k (m := m + 6) hg (n := 6) (by decide)
  obtain ⟨ρ', e, l, s, g2, x, hg2, hll, hs1, hs2, hsm, hasc, hle, rfl⟩ := forGo_inv (f := withTg [6] (evSs (Phi Δ (k + 2)) 3 (leB rn))) (rows := rngD 0 (1 + r)) (fun i ρ => ∃ (l : List Nat) (s : Int) (g2 : D) (x : Option Sl), Gen (m + 6 - i) g2 ∧ l.length = i ∧ -1 ≤ s ∧ s + 1 ≤ 3 * (i : Int) ∧ small l = true ∧ Asc l ∧ (∀ c ∈ l, (c : Int) ≤ 97 + s) ∧ ρ = [some ⟨.own, g2⟩, some ⟨.fz, .int 1⟩, some ⟨.fz, .int 6⟩, some ⟨.fz, .int (1 + r)⟩, some ⟨.fz, .str l⟩, some ⟨.fz, .int s⟩, x]) 0 (ρ := [some ⟨.own, g1⟩, some ⟨.fz, .int 1⟩, some ⟨.fz, .int 6⟩, some ⟨.fz, .int (1 + r)⟩, some ⟨.fz, .str []⟩, some ⟨.fz, .int (-1)⟩, none]) (fun i d ρ hd hI => by
    obtain ⟨rfl, hlt⟩ := rngD_at hd
    rw [Nat.zero_add] at hI ⊢
    obtain ⟨l, s, g2, x, hg2, hll, hs1, hs2, hsm, hasc, hle, rfl⟩ := hI
    have hi6 : i < 6 := by omega
    obtain ⟨s', g', hs3, hs4, hg', e⟩ := leB_ok h1 h2 k (m := m + 6 - (i + 1)) (np := 3) (g := g2) (p := .int 1) (q := .int 6) (x := .int (1 + r)) (d := .int (0 + i)) (l := l) (s := s) (hg2.mono (by omega)) ⟨hs1, by omega⟩ (by omega)
    refine ⟨_, Or.inl ?_, l ++ [97 + s'.toNat], s', g', some ⟨.fz, .int (0 + i)⟩, hg', by rw [List.length_append, hll] <;> rfl, by omega, by push_cast; omega, ?_, ?_, ?_, rfl⟩
    · simp only [withTg, assignD]
      exact e
    · have := abc_mem s'.toNat (by omega)
      unfold small at hsm ⊢
      rw [List.all_append, hsm, List.all_cons, this] <;> rfl
    · unfold Asc at hasc ⊢
      rw [List.pairwise_append]
      refine ⟨hasc, List.pairwise_singleton _ _, ?_⟩
      intro a ha b hb
      have hb : b = 97 + s'.toNat := by simpa using hb
      have := hle a ha
      omega
    · intro c hc
      rcases List.mem_append.mp hc with hc | hc
      · have := hle c hc
        omega
      · have hb : c = 97 + s'.toNat := by simpa using hc
        omega) ⟨[], -1, g1, none, hg1, rfl, by decide, by decide, rfl, List.Pairwise.nil, by simp, rfl⟩
  have hlen : (rngD 0 (1 + r)).length = (1 + r).toNat := by
    rw [rngD_len]
    congr 1
    omega
  rw [Nat.zero_add, hlen] at hll hg2
  refine ⟨l, g2, by omega, by omega, hsm, hasc, hg2.mono (by omega), ?_⟩
  have hr : -B62 ≤ (1 + r) ∧ (1 + r) < B62 := by
    have : B62 = 4611686018427387904 := rfl
    omega
  simp [dfLetters, runDf, frzAt, evSs, evS, evE, evEs, evI, Rs.bind, En.get, op2, op1, look, toRs, binD, keepSl, keepAll, setAll, lockL, lockS, unlockL, unlockS, pick, callR, frzDup, argsOf, argOf, outsTo, e1, e, hr, keep, allSome, backAt]
end Ev

set_option Elab.async false
set_option linter.all false
set_option maxRecDepth 100000
set_option maxHeartbeats 1000000
/-! Pl10: the law's prices. Own work. -/
namespace Ev
theorem rise_asc {l : List Nat} (h : Asc l) : riseD (.str l) l.length = true := by
  unfold riseD
  rw [List.isEmpty_iff, List.filterMap_eq_nil_iff]
  intro d hd
  obtain ⟨j, hj⟩ := List.getElem?_of_mem hd
  obtain ⟨rfl, hlt⟩ := rngD_at hj
  have hj1 : j < l.length := by omega
  have hj2 : j + 1 < l.length := by omega
  have hlt := (List.pairwise_iff_getElem.mp h) j (j + 1) hj1 hj2 (by omega)
  have ea : subD (.str l) (.int (1 + (j : Int) - 1)) = some (.str [l[j]]) := by
    rw [show 1 + (j : Int) - 1 = j by omega]
    have h0 : 0 ≤ (j : Int) := by omega
    have h1 : (j : Int) < l.length := by omega
    simp [subD, ixN, h1, List.getElem?_eq_getElem hj1]
  have eb : subD (.str l) (.int (1 + (j : Int))) = some (.str [l[j + 1]]) := by
    have h0 : 0 ≤ 1 + (j : Int) := by omega
    have h1 : 1 + (j : Int) < l.length := by omega
    have h2 : (1 + (j : Int)).toNat = j + 1 := by omega
    simp [subD, ixN, h0, h1, h2, List.getElem?_eq_getElem hj2]
  unfold riseQ
  simp only [ea, eb]
  have : [l[j]] < [l[j + 1]] := List.Lex.rel hlt
  rw [if_pos this]
/-- prices for the letters -/
def PrL : List Nat → List D → Prop
  | [], xs => xs = []
  | c :: l, xs => ∃ (p : Int) (ys : List D), xs = .tup [.str [c], .int p] :: ys ∧ 1 ≤ p ∧ p ≤ 10 ^ 30 ∧ PrL l ys
theorem PrL.fst : ∀ {l : List Nat} {xs : List D}, PrL l xs → xs.map fstD = l.map fun c => .str [c]
  | [], _, h => by subst h; rfl
  | c :: l, _, ⟨p, ys, rfl, _, _, h⟩ => by rw [List.map_cons, List.map_cons, PrL.fst h] <;> rfl
theorem PrL.len {l : List Nat} {xs : List D} (h : PrL l xs) : xs.length = l.length := by
  have := congrArg List.length h.fst
  rwa [List.length_map, List.length_map] at this
theorem PrL.ok : ∀ {l : List Nat} {xs : List D}, small l = true → PrL l xs → xs.all priceOk = true
  | [], _, _, h => by subst h; rfl
  | c :: l, _, hs, ⟨p, ys, rfl, hp, _, h⟩ => by
    unfold small at hs
    rw [List.all_cons, Bool.and_eq_true] at hs
    rw [List.all_cons, PrL.ok hs.2 h]
    have : small [c] = true := by unfold small; rw [List.all_cons, hs.1] <;> rfl
    have e : priceOk (.tup [.str [c], .int p]) = true := by
      show (small [c] && decide ([c].length = 1) && decide (1 ≤ p)) = true
      rw [this, decide_eq_true hp] <;> rfl
    rw [e] <;> rfl
theorem PrL.known : ∀ {l : List Nat} {xs : List D}, PrL l xs → xs.all known2 = true ∧ flatL 59 xs = true ∧ xs.all shortI = true
  | [], _, h => by subst h; exact ⟨rfl, rfl, rfl⟩
  | c :: l, _, ⟨p, ys, rfl, hp, _, h⟩ => by
    obtain ⟨h1, h2, h3⟩ := PrL.known h
    refine ⟨?_, ?_, ?_⟩
    · rw [List.all_cons, h1] <;> rfl
    · show (flat 59 (.tup [.str [c], .int p]) && flatL 59 ys) = true
      rw [h2] <;> rfl
    · rw [List.all_cons, h3] <;> rfl
def pcX (rn : Nat) : E := .tup (.cons (.var 3) (.cons (.bin .add (.lit (.int 1)) (.call rn [0, 1] (.cons (.var 0) (.cons (.var 2) .nil)) .nil)) .nil))
theorem prGo {Δ : Tab} {hn rn : Nat} (h1 : Δ.lookup hn = some dfHash) (h2 : Δ.lookup rn = some (dfRnd hn)) (k : Nat) {m : Nat} {L : D} {mo : Int} (hmo : 0 < mo ∧ mo < 10 ^ 30) : ∀ (l : List Nat) {g : D} {x : Option Sl}, Gen (m + l.length) g →
    ∃ (xs : List D) (g' : D) (x' : Option Sl), Gen m g' ∧ PrL l xs ∧ lcGo (lcTg [3] [3] (evTs (Phi Δ (k + 2)) .nil) (evE (Phi Δ (k + 2)) (pcX rn))) (l.map fun c => .str [c]) [some ⟨.own, g⟩, some ⟨.fz, L⟩, some ⟨.fz, .int mo⟩, x] = .ok xs [some ⟨.own, g'⟩, some ⟨.fz, L⟩, some ⟨.fz, .int mo⟩, x']
  | [], g, x, hg => ⟨[], g, x, hg, rfl, rfl⟩
  | c :: l, g, x, hg => by
    obtain ⟨r, g1, r0, r1, hg1, e1⟩ := draw_ok h1 h2 k (m := m + l.length) hg (n := mo) ⟨hmo.1, by omega⟩
    obtain ⟨ys, g2, x2, hg2, hp, e2⟩ := prGo h1 h2 k (m := m) (L := L) hmo l (g := g1) (x := some ⟨.fz, .str [c]⟩) hg1
    refine ⟨.tup [.str [c], .int (1 + r)] :: ys, g2, x2, hg2, ⟨1 + r, ys, rfl, by omega, by omega, hp⟩, ?_⟩
    have hL : 2 ≤ LIM := by decide
    have e : lcTg [3] [3] (evTs (Phi Δ (k + 2)) .nil) (evE (Phi Δ (k + 2)) (pcX rn)) (.str [c]) [some ⟨.own, g⟩, some ⟨.fz, L⟩, some ⟨.fz, .int mo⟩, x] = .ok (some (.tup [.str [c], .int (1 + r)])) [some ⟨.own, g1⟩, some ⟨.fz, L⟩, some ⟨.fz, .int mo⟩, some ⟨.fz, .str [c]⟩] := by
      simp [lcTg, assignD, wipeE, pcX, evTs, evT, evE, evEs, Rs.bind, En.get, op2, op1, look, toRs, binD, pick, callR, frzDup, argsOf, argOf, outsTo, e1, hL, keep, keepAll]
    rw [List.map_cons]
    unfold lcGo
    rw [e]
    simp only [Rs.calm, Rs.bind]
    rw [e2]
def dfPricesGen (rn : Nat) : Df := ⟨2, 4, [], (.cons (.set 2 (.sub (.lst (.cons (.lit (.int 5)) (.cons (.bin .sub (.bin .pow (.lit (.int 10)) (.lit (.int 30))) (.lit (.int 1))) .nil))) (.call rn [0, 1] (.cons (.var 0) (.cons (.lit (.int 2)) .nil)) .nil))) (.cons (.ret (.lc (pcX rn) [3] (.seq (.var 1)) .nil [3])) .nil))⟩
theorem pricesGen_ok {Δ : Tab} {hn rn n : Nat} (h1 : Δ.lookup hn = some dfHash) (h2 : Δ.lookup rn = some (dfRnd hn)) (h : Δ.lookup n = some (dfPricesGen rn)) (k : Nat) {m : Nat} {g : D} {l : List Nat} (hg : Gen (m + l.length + 1) g) (hl : l.length ≤ 6) :
    ∃ (xs : List D) (g' : D), Gen m g' ∧ PrL l xs ∧ Phi Δ (k + 3) n [⟨.own, g⟩, ⟨.fz, .str l⟩] = .ret true (.lst xs) [⟨.own, g'⟩, ⟨.fz, .str l⟩] := by
  rw [Phi_s h]
  obtain ⟨r, g1, r0, r1, hg1, e1⟩ := draw_ok h1 h2 k (m := m + l.length) hg (n := 2) (by decide)
  have hL : 2 ≤ LIM := by decide
  have hpw : Nat.log2 10 * 30 ≤ 100000 := by decide +kernel
  have hx : ∀ xs, PrL l xs → xs.length ≤ LIM := fun xs hp => by
    have := hp.len
    have : (6 : Nat) ≤ LIM := by decide
    omega
  have hr : r = 0 ∨ r = 1 := by omega
  rcases hr with rfl | rfl
  · obtain ⟨xs, g2, x2, hg2, hp, e2⟩ := prGo h1 h2 k (m := m) (L := .str l) (mo := 5) (by decide) l (g := g1) (x := none) hg1
    refine ⟨xs, g2, hg2, hp, ?_⟩
    have := hx xs hp
    simp [dfPricesGen, runDf, frzAt, evSs, evS, evE, evEs, evI, Rs.bind, En.get, op2, op1, look, toRs, hpw, binD, subD, ixN, storeR, items, lockL, lockS, Md.lock, wipeE, backE, unlockL, unlockS, pick, callR, frzDup, argsOf, argOf, outsTo, e1, e2, hL, this, keep, keepAll, allSome, backAt]
  · obtain ⟨xs, g2, x2, hg2, hp, e2⟩ := prGo h1 h2 k (m := m) (L := .str l) (mo := 999999999999999999999999999999) (by decide) l (g := g1) (x := none) hg1
    refine ⟨xs, g2, hg2, hp, ?_⟩
    have := hx xs hp
    simp [dfPricesGen, runDf, frzAt, evSs, evS, evE, evEs, evI, Rs.bind, En.get, op2, op1, look, toRs, hpw, binD, subD, ixN, storeR, items, lockL, lockS, Md.lock, wipeE, backE, unlockL, unlockS, pick, callR, frzDup, argsOf, argOf, outsTo, e1, e2, hL, this, keep, keepAll, allSome, backAt]
end Ev

set_option Elab.async false
set_option linter.all false
set_option maxRecDepth 100000
set_option maxHeartbeats 1000000
/-! Pl11: the law's words. Own work. -/
namespace Ev
def wdX (rn : Nat) : E := .sub (.var 1) (.call rn [0, 1] (.cons (.var 0) (.cons (.bi .len (.cons (.var 1) .nil)) .nil)) .nil)
theorem wdGo {Δ : Tab} {hn rn : Nat} (h1 : Δ.lookup hn = some dfHash) (h2 : Δ.lookup rn = some (dfRnd hn)) (k : Nat) {m : Nat} {l : List Nat} {S : D} (hl : 1 ≤ l.length ∧ l.length ≤ 6) (hs : small l = true) : ∀ (rows : List D) {g : D} {x : Option Sl}, Gen (m + rows.length) g →
    ∃ (cs : List Nat) (g' : D) (x' : Option Sl), Gen m g' ∧ cs.length = rows.length ∧ small cs = true ∧ lcGo (lcTg [3] [3] (evTs (Phi Δ (k + 2)) .nil) (evE (Phi Δ (k + 2)) (wdX rn))) rows [some ⟨.own, g⟩, some ⟨.fz, .str l⟩, some ⟨.fz, S⟩, x] = .ok (cs.map fun c => .str [c]) [some ⟨.own, g'⟩, some ⟨.fz, .str l⟩, some ⟨.fz, S⟩, x']
  | [], g, x, hg => ⟨[], g, x, hg, rfl, rfl, rfl⟩
  | d :: rows, g, x, hg => by
    obtain ⟨r, g1, r0, r1, hg1, e1⟩ := draw_ok h1 h2 k (m := m + rows.length) hg (n := l.length) ⟨by omega, by omega⟩
    obtain ⟨cs, g2, x2, hg2, hcl, hcs, e2⟩ := wdGo h1 h2 k (m := m) (S := S) hl hs rows (g := g1) (x := some ⟨.fz, d⟩) hg1
    have hrl : r.toNat < l.length := by omega
    refine ⟨l[r.toNat] :: cs, g2, x2, hg2, by rw [List.length_cons, List.length_cons, hcl], ?_, ?_⟩
    · unfold small at hs hcs ⊢
      rw [List.all_cons, hcs, (List.all_eq_true.mp hs) _ (List.getElem_mem hrl)] <;> rfl
    have e : lcTg [3] [3] (evTs (Phi Δ (k + 2)) .nil) (evE (Phi Δ (k + 2)) (wdX rn)) d [some ⟨.own, g⟩, some ⟨.fz, .str l⟩, some ⟨.fz, S⟩, x] = .ok (some (.str [l[r.toNat]])) [some ⟨.own, g1⟩, some ⟨.fz, .str l⟩, some ⟨.fz, S⟩, some ⟨.fz, d⟩] := by
      simp [lcTg, assignD, wipeE, wdX, evTs, evT, evE, evEs, Rs.bind, En.get, op2, op1, look, lookAll, toRs, biD, subD, ixN, pick, callR, frzDup, argsOf, argOf, outsTo, e1, r0, r1, List.getElem?_eq_getElem hrl, keep, keepAll]
    rw [List.map_cons]
    unfold lcGo
    rw [e]
    simp only [Rs.calm, Rs.bind]
    rw [e2]
def dfWord (rn : Nat) : Df := ⟨3, 4, [], (.cons (.ret (.mth .join (.lit (.str [])) (.cons (.lc (wdX rn) [3] (.rng1 (.var 2)) .nil [3]) .nil))) .nil)⟩
theorem word_ok {Δ : Tab} {hn rn n : Nat} (h1 : Δ.lookup hn = some dfHash) (h2 : Δ.lookup rn = some (dfRnd hn)) (h : Δ.lookup n = some (dfWord rn)) (k : Nat) {m : Nat} {g : D} {l : List Nat} {s : Int} (hg : Gen (m + 5) g) (hl : 1 ≤ l.length ∧ l.length ≤ 6) (hs : small l = true) (h0 : 0 ≤ s ∧ s ≤ 5) :
    ∃ (w : List Nat) (g' : D), Gen m g' ∧ w.length ≤ 5 ∧ small w = true ∧ Phi Δ (k + 3) n [⟨.own, g⟩, ⟨.fz, .str l⟩, ⟨.fz, .int s⟩] = .ret false (.str w) [⟨.own, g'⟩, ⟨.fz, .str l⟩, ⟨.fz, .int s⟩] := by
  rw [Phi_s h]
  have hlen : (rngD 0 s).length = s.toNat := by
    rw [rngD_len]
    congr 1
    omega
  obtain ⟨cs, g2, x2, hg2, hcl, hcs, e2⟩ := wdGo h1 h2 k (m := m) (S := .int s) hl hs (rngD 0 s) (g := g) (x := none) (hg.mono (by omega))
  refine ⟨cs, g2, hg2, by omega, hcs, ?_⟩
  have hB : -B62 ≤ s ∧ s < B62 := by
    have : B62 = 4611686018427387904 := rfl
    omega
  have hL : cs.length ≤ LIM := by
    have : (5 : Nat) ≤ LIM := by decide
    omega
  simp [dfWord, runDf, frzAt, evSs, evS, evE, evEs, evI, Rs.bind, En.get, op2, op1, look, lookAll, toRs, hB, storeR, items, lockL, lockS, Md.lock, wipeE, backE, unlockL, unlockS, mtOk, mthR, mtD, strs_chars, join_chars, sum_chars, sum_chars2, e2, hL, keep, keepAll, allSome, backAt]
end Ev

set_option Elab.async false
set_option linter.all false
set_option maxRecDepth 100000
set_option maxHeartbeats 1000000
/-! Pl12: values whose text is short. Own work. -/
namespace Ev
open PySem PyProof
mutual
/-- small leaves -/
def lite : D → Bool
  | .non => true
  | .bl _ => true
  | .int i => decide (i.natAbs < 10 ^ 31)
  | .str l => l.all fun c => decide (c < 16 ^ 8)
  | .lst xs => lites xs
  | .tup xs => lites xs
  | .dic ks vs => lites ks && lites vs
  | _ => false
def lites : List D → Bool
  | [] => true
  | x :: xs => lite x && lites xs
end
theorem kv_short (B : Nat) : ∀ (a b : List PyData), PyData.leavesShortAll B a = true → PyData.leavesShortAll B b = true → PyData.leavesShortKv B (a.zip b) = true
  | [], _, _, _ => rfl
  | _ :: _, [], _, _ => rfl
  | x :: a, y :: b, h1, h2 => by
    have h1 : (PyData.leavesShort B x && PyData.leavesShortAll B a) = true := h1
    have h2 : (PyData.leavesShort B y && PyData.leavesShortAll B b) = true := h2
    rw [Bool.and_eq_true] at h1 h2
    show (PyData.leavesShort B x && PyData.leavesShort B y && PyData.leavesShortKv B (a.zip b)) = true
    rw [h1.1, h2.1, kv_short B a b h1.2 h2.2] <;> rfl
mutual
theorem lite_short : ∀ d : D, lite d = true → PyData.leavesShort 40 (py d) = true
  | .non, _ => rfl
  | .bl _, _ => rfl
  | .int i, h => by
    have h : decide (i.natAbs < 10 ^ 31) = true := h
    have h := of_decide_eq_true h
    have e := int_text_length_le10 (k := 31) (by decide) h
    refine decide_eq_true ?_
    show (Str.ofString (toString i)).length ≤ 40
    rw [ofString_length]
    omega
  | .str l, h => by
    show (l.toArray.toList.all fun c => decide (c < 16 ^ 8)) = true
    exact h
  | .lst xs, h => lites_short xs h
  | .tup xs, h => lites_short xs h
  | .dic ks vs, h => by
    have h : (lites ks && lites vs) = true := h
    rw [Bool.and_eq_true] at h
    exact kv_short 40 _ _ (lites_short ks h.1) (lites_short vs h.2)
  | .fn _, h => nomatch h
  | .scr _, h => nomatch h
  | .exc _ _, h => nomatch h
theorem lites_short : ∀ xs : List D, lites xs = true → PyData.leavesShortAll 40 (pys xs) = true
  | [], _ => rfl
  | x :: xs, h => by
    have h : (lite x && lites xs) = true := h
    rw [Bool.and_eq_true] at h
    show (PyData.leavesShort 40 (py x) && PyData.leavesShortAll 40 (pys xs)) = true
    rw [lite_short x h.1, lites_short xs h.2] <;> rfl
end
theorem shown_lite {d : D} (h : lite d = true) (hw : PyData.weight (py d) ≤ 100000) : (shownD d).length ≤ LIM := by
  have h1 := PyData.shown_le 40 (by decide) (py d) (lite_short d h)
  have e : (shownD d).length = (PyData.shown (py d)).length := rfl
  have hL : LIM = 16777216 := rfl
  rw [e, hL]
  have : (40 + 2) * PyData.weight (py d) ≤ 42 * 100000 := Nat.mul_le_mul (by decide) hw
  omega
/-- an item of a list of prices, or a bent one -/
structure Itm (x : D) : Prop where
  k2 : known2 x = true
  fl : flat 59 x = true
  sh : shortI x = true
  sw : showD true 59 x = true
  lt : lite x = true
  wt : PyData.weight (py x) ≤ 1000
/-- a value that the law shows to the price rules -/
structure Val (v : D) : Prop where
  k3 : known3 v = true
  sh : ∀ xs, v = .lst xs → xs.all shortI = true
  sw : (showD true DEP v || showD false DEP v) = true
  lt : lite v = true
  wt : PyData.weight (py v) ≤ 100000
theorem repr_val {v : D} (h : Val v) : biD .repr [v] = some (.v (.str (shownD v))) := by
  show (if (showD true DEP v || showD false DEP v) && decide ((shownD v).length ≤ LIM) then some (Vr.v (.str (shownD v))) else none) = _
  rw [h.sw, decide_eq_true (shown_lite h.lt h.wt)] <;> rfl
theorem itms : ∀ {xs : List D}, (∀ x ∈ xs, Itm x) → xs.all known2 = true ∧ flatL 59 xs = true ∧ xs.all shortI = true ∧ showDs true 59 xs = true ∧ lites xs = true ∧ PyData.weightAll (pys xs) ≤ 1001 * xs.length
  | [], _ => ⟨rfl, rfl, rfl, rfl, rfl, Nat.le_refl _⟩
  | x :: xs, h => by
    obtain ⟨h1, h2, h3, h4, h5, h6⟩ := itms (xs := xs) fun y hy => h y (List.mem_cons_of_mem _ hy)
    have hx := h x List.mem_cons_self
    refine ⟨?_, ?_, ?_, ?_, ?_, ?_⟩
    · rw [List.all_cons, h1, hx.k2] <;> rfl
    · show (flat 59 x && flatL 59 xs) = true
      rw [h2, hx.fl] <;> rfl
    · rw [List.all_cons, h3, hx.sh] <;> rfl
    · show (showD true 59 x && showDs true 59 xs) = true
      rw [h4, hx.sw] <;> rfl
    · show (lite x && lites xs) = true
      rw [h5, hx.lt] <;> rfl
    · show PyData.weight (py x) + 1 + PyData.weightAll (pys xs) ≤ 1001 * (xs.length + 1)
      have := hx.wt
      omega
theorem val_list {xs : List D} (h : ∀ x ∈ xs, Itm x) (hl : xs.length ≤ 20) : Val (.lst xs) := by
  obtain ⟨h1, h2, h3, h4, h5, h6⟩ := itms h
  refine ⟨?_, ?_, ?_, h5, ?_⟩
  · have : (20 : Nat) ≤ LIM := by decide
    show (xs.all known2 && flatL 59 xs && decide (xs.length ≤ LIM)) = true
    rw [h1, h2, decide_eq_true (by omega)] <;> rfl
  · intro ys e
    cases e
    exact h3
  · show ((true && showDs true 59 xs) || _) = true
    rw [h4] <;> rfl
  · show PyData.weightAll (pys xs) ≤ 100000
    omega
end Ev

set_option Elab.async false
set_option linter.all false
set_option maxRecDepth 100000
set_option maxHeartbeats 1000000
/-! Pl13: bent items. Own work. -/
namespace Ev
open PySem PyProof
structure Atm (x : D) : Prop where
  kn : known x = true
  fl : flat 58 x = true
  sh : short x = true
  sw : showD true 58 x = true
  lt : lite x = true
  wt : PyData.weight (py x) ≤ 300
theorem atms : ∀ {xs : List D}, (∀ x ∈ xs, Atm x) → xs.all known = true ∧ flatL 58 xs = true ∧ showDs true 58 xs = true ∧ lites xs = true ∧ PyData.weightAll (pys xs) ≤ 301 * xs.length
  | [], _ => ⟨rfl, rfl, rfl, rfl, Nat.le_refl _⟩
  | x :: xs, h => by
    obtain ⟨h1, h2, h4, h5, h6⟩ := atms (xs := xs) fun y hy => h y (List.mem_cons_of_mem _ hy)
    have hx := h x List.mem_cons_self
    refine ⟨?_, ?_, ?_, ?_, ?_⟩
    · rw [List.all_cons, h1, hx.kn] <;> rfl
    · show (flat 58 x && flatL 58 xs) = true
      rw [h2, hx.fl] <;> rfl
    · show (showD true 58 x && showDs true 58 xs) = true
      rw [h4, hx.sw] <;> rfl
    · show (lite x && lites xs) = true
      rw [h5, hx.lt] <;> rfl
    · show PyData.weight (py x) + 1 + PyData.weightAll (pys xs) ≤ 301 * (xs.length + 1)
      have := hx.wt
      omega
theorem itm_tup {xs : List D} (h : ∀ x ∈ xs, Atm x) (hl : xs.length ≤ 3) : Itm (.tup xs) := by
  obtain ⟨h1, h2, h4, h5, h6⟩ := atms h
  refine ⟨h1, h2, ?_, h4, h5, ?_⟩
  · cases xs with
    | nil => rfl
    | cons x xs => exact (h x List.mem_cons_self).sh
  · show PyData.weightAll (pys xs) ≤ 1000
    omega
theorem itm_lst {xs : List D} (h : ∀ x ∈ xs, Atm x) (hl : xs.length ≤ 3) : Itm (.lst xs) := by
  obtain ⟨h1, h2, h4, h5, h6⟩ := atms h
  refine ⟨rfl, h2, rfl, ?_, h5, ?_⟩
  · show (true && showDs true 58 xs) = true
    rw [h4] <;> rfl
  · show PyData.weightAll (pys xs) ≤ 1000
    omega
theorem atm_str {l : List Nat} (h : (l.all fun c => decide (c < 16 ^ 8)) = true) (hl : l.length ≤ 100) : Atm (.str l) := by
  refine ⟨rfl, rfl, ?_, rfl, h, ?_⟩
  · have : (100 : Nat) ≤ LIM := by decide
    exact decide_eq_true (by omega)
  · show l.toArray.size ≤ 300
    rw [List.size_toArray]
    omega
theorem atm_int {i : Int} (h : i.natAbs < 10 ^ 31) : Atm (.int i) := by
  have h2 : i.natAbs.log2 ≤ 110 := by
    by_cases hz : i.natAbs = 0
    · rw [hz]; exact Nat.zero_le _
    · exact Nat.le_of_lt (Nat.log2_lt hz |>.mpr (by omega))
  refine ⟨rfl, rfl, rfl, decide_eq_true (by omega), decide_eq_true h, ?_⟩
  show (if i == 0 then 0 else i.natAbs.log2 + 1) ≤ 300
  split <;> omega
theorem atm_bl (b : Bool) : Atm (.bl b) := ⟨rfl, rfl, rfl, rfl, rfl, Nat.zero_le _⟩
theorem atm_non : Atm .non := ⟨rfl, rfl, rfl, rfl, rfl, Nat.zero_le _⟩
theorem atm_nil : Atm (.lst []) := ⟨rfl, rfl, rfl, rfl, rfl, Nat.zero_le _⟩
theorem itm_non : Itm .non := ⟨rfl, rfl, rfl, rfl, rfl, Nat.zero_le _⟩
theorem itm_str {l : List Nat} (h : (l.all fun c => decide (c < 16 ^ 8)) = true) (hl : l.length ≤ 100) : Itm (.str l) := by
  refine ⟨rfl, rfl, rfl, rfl, h, ?_⟩
  show l.toArray.size ≤ 1000
  rw [List.size_toArray]
  omega
/-- an item with the letter c and the price p -/
theorem itm_price {c : Nat} {p : Int} (hc : c < 16 ^ 8) (hp : 1 ≤ p ∧ p ≤ 10 ^ 30) : Itm (.tup [.str [c], .int p]) := by
  refine itm_tup (fun x hx => ?_) (show 2 ≤ 3 by omega)
  rcases List.mem_cons.mp hx with rfl | hx
  · exact atm_str (by simpa using hc) (show 1 ≤ 100 by omega)
  · rcases List.mem_cons.mp hx with rfl | hx
    · exact atm_int (by omega)
    · cases hx
theorem small_lt {l : List Nat} (h : small l = true) : ∀ c ∈ l, c < 16 ^ 8 := by
  intro c hc
  have h := (List.all_eq_true.mp h) c hc
  have z : ∀ x ∈ abc, x < 16 ^ 8 := by decide
  exact z c (by simpa using h)
theorem PrL.itms : ∀ {l : List Nat} {xs : List D}, small l = true → PrL l xs → ∀ x ∈ xs, Itm x
  | [], _, _, h, x, hx => by subst h; cases hx
  | c :: l, _, hs, ⟨p, ys, rfl, hp, hp2, h⟩, x, hx => by
    rcases List.mem_cons.mp hx with rfl | hx
    · exact itm_price (small_lt hs c List.mem_cons_self) ⟨hp, hp2⟩
    · unfold small at hs
      rw [List.all_cons, Bool.and_eq_true] at hs
      exact PrL.itms hs.2 h x hx
end Ev

set_option Elab.async false
set_option linter.all false
set_option maxRecDepth 100000
set_option maxHeartbeats 4000000
/-! Pl14: bent lists. Own work. -/
namespace Ev
open PySem PyProof
def bnX : E := .bin .add (.bin .add (.sl false true (.var 1) (.lit .non) (.var 2)) (.lst (.cons (.var 7) .nil))) (.sl true false (.var 1) (.bin .add (.var 2) (.lit (.int 1))) (.lit .non))
def dfBent (rn : Nat) : Df := ⟨2, 8, [], (.cons (.set 2 (.call rn [0, 1] (.cons (.var 0) (.cons (.bi .len (.cons (.var 1) .nil)) .nil)) .nil)) (.cons (.unp [3, 4] (.sub (.var 1) (.var 2))) (.cons (.set 5 (.lst (.cons (.tup (.cons (.var 3) (.cons (.lit (.int 0)) .nil))) (.cons (.tup (.cons (.var 3) (.cons (.lit (.bl true)) .nil))) (.cons (.tup (.cons (.var 3) (.cons (.lit .non) .nil))) (.cons (.tup (.cons (.var 4) (.cons (.var 3) .nil))) (.cons (.lst (.cons (.var 3) (.cons (.var 4) .nil))) (.cons (.tup (.cons (.var 3) .nil)) (.cons (.tup (.cons (.var 3) (.cons (.var 4) (.cons (.lit (.int 0)) .nil)))) .nil))))))))) (.cons (.set 5 (.bin .add (.var 5) (.lst (.cons (.tup (.cons (.bin .add (.var 3) (.var 3)) (.cons (.var 4) .nil))) (.cons (.tup (.cons (.lit (.str [])) (.cons (.var 4) .nil))) (.cons (.tup (.cons (.lit (.str [65])) (.cons (.var 4) .nil))) (.cons (.lit .non) (.cons (.lit (.str [120])) (.cons (.tup (.cons (.lst .nil) (.cons (.lit (.int 1)) .nil))) (.cons (.tup (.cons (.var 3) (.cons (.bin .sub (.lit (.int 0)) (.var 4)) .nil))) .nil)))))))))) (.cons (.set 5 (.bin .add (.var 5) (.lst (.cons (.tup (.cons (.lit (.str [120, 121])) (.cons (.var 4) .nil))) (.cons (.tup (.cons (.lit (.str [95])) (.cons (.var 4) .nil))) (.cons (.tup (.cons (.lit (.str [42])) (.cons (.var 4) .nil))) (.cons (.tup (.cons (.lit (.str [49])) (.cons (.var 4) .nil))) (.cons (.tup (.cons (.var 3) (.cons (.lit (.str [49])) .nil))) .nil)))))))) (.cons (.set 6 (.lc bnX [7] (.seq (.var 5)) .nil [7])) (.cons (.ret (.bin .add (.var 6) (.lst (.cons (.rev (.var 1) (.bin .sub (.lit (.int 0)) (.lit (.int 1)))) (.cons (.bin .add (.var 1) (.var 1)) (.cons (.bi .tuple (.cons (.var 1) .nil)) (.cons (.bi .dict (.cons (.var 1) .nil)) (.cons (.sl false true (.var 1) (.lit .non) (.var 2)) (.cons (.lit .non) (.cons (.lit (.str [])) (.cons (.lit (.int 7)) (.cons (.lst (.cons (.tup .nil) .nil)) .nil)))))))))))) .nil)))))))⟩
/-- the odd items -/
def oddL (c : Nat) (p : Int) : List D := [.tup [.str [c], .int 0], .tup [.str [c], .bl true], .tup [.str [c], .non], .tup [.int p, .str [c]], .lst [.str [c], .int p], .tup [.str [c]], .tup [.str [c], .int p, .int 0],
  .tup [.str [c, c], .int p], .tup [.str [], .int p], .tup [.str [65], .int p], .non, .str [120], .tup [.lst [], .int 1], .tup [.str [c], .int (-p)],
  .tup [.str [120, 121], .int p], .tup [.str [95], .int p], .tup [.str [42], .int p], .tup [.str [49], .int p], .tup [.str [c], .str [49]]]
theorem PrL.at_ : ∀ {l : List Nat} {xs : List D} (j : Nat), PrL l xs → j < l.length → ∃ (c : Nat) (p : Int), c ∈ l ∧ 1 ≤ p ∧ p ≤ 10 ^ 30 ∧ xs[j]? = some (.tup [.str [c], .int p])
  | [], _, _, _, hj => absurd hj (Nat.not_lt_zero _)
  | c :: l, _, 0, ⟨p, ys, rfl, h1, h2, _⟩, _ => ⟨c, p, List.mem_cons_self, h1, h2, rfl⟩
  | c :: l, _, j + 1, ⟨p, ys, rfl, h1, h2, h⟩, hj => by
    obtain ⟨c', p', hc, h3, h4, e⟩ := PrL.at_ j h (Nat.lt_of_succ_lt_succ hj)
    exact ⟨c', p', List.mem_cons_of_mem _ hc, h3, h4, e⟩
theorem odd_itm {c : Nat} {p : Int} (hc : c < 16 ^ 8) (hp : 1 ≤ p ∧ p ≤ 10 ^ 30) : ∀ x ∈ oddL c p, Itm x := by
  have ac : Atm (.str [c]) := atm_str (by simpa using hc) (show 1 ≤ 100 by omega)
  have acc : Atm (.str [c, c]) := atm_str (by simpa using hc) (show 2 ≤ 100 by omega)
  have ap : Atm (.int p) := atm_int (by omega)
  have am : Atm (.int (-p)) := atm_int (by omega)
  have a0 : Atm (.int 0) := atm_int (by decide)
  have a1 : Atm (.int 1) := atm_int (by decide)
  have t1 : ∀ {x : D}, Atm x → Itm (.tup [x]) := fun h => itm_tup (by intro y hy; rcases List.mem_singleton.mp hy with rfl; exact h) (show 1 ≤ 3 by omega)
  have t2 : ∀ {x y : D}, Atm x → Atm y → Itm (.tup [x, y]) := fun h h' => itm_tup (by intro z hz; simp only [List.mem_cons, List.not_mem_nil, or_false] at hz; rcases hz with rfl | rfl <;> assumption) (show 2 ≤ 3 by omega)
  have s : ∀ {l : List Nat}, (l.all fun c => decide (c < 16 ^ 8)) = true → l.length ≤ 100 → Atm (.str l) := fun h h' => atm_str h h'
  intro x hx
  simp only [oddL, List.mem_cons, List.not_mem_nil, or_false] at hx
  rcases hx with rfl | rfl | rfl | rfl | rfl | rfl | rfl | rfl | rfl | rfl | rfl | rfl | rfl | rfl | rfl | rfl | rfl | rfl | rfl
  · exact t2 ac a0
  · exact t2 ac (atm_bl _)
  · exact t2 ac atm_non
  · exact t2 ap ac
  · exact itm_lst (by intro z hz; simp only [List.mem_cons, List.not_mem_nil, or_false] at hz; rcases hz with rfl | rfl <;> assumption) (show 2 ≤ 3 by omega)
  · exact t1 ac
  · exact itm_tup (by intro z hz; simp only [List.mem_cons, List.not_mem_nil, or_false] at hz; rcases hz with rfl | rfl | rfl <;> assumption) (show 3 ≤ 3 by omega)
  · exact t2 acc ap
  · exact t2 (s (by decide) (by decide)) ap
  · exact t2 (s (by decide) (by decide)) ap
  · exact itm_non
  · exact itm_str (by decide) (by decide)
  · exact t2 atm_nil a1
  · exact t2 ac am
  · exact t2 (s (by decide) (by decide)) ap
  · exact t2 (s (by decide) (by decide)) ap
  · exact t2 (s (by decide) (by decide)) ap
  · exact t2 (s (by decide) (by decide)) ap
  · exact t2 ac (s (by decide) (by decide))
end Ev

set_option Elab.async false
set_option linter.all false
set_option maxRecDepth 100000
set_option maxHeartbeats 4000000
/-! Pl15: bent lists. Own work. -/
namespace Ev
open PySem PyProof
theorem cut_mem {α : Type} {l : List α} {lo hi : Option Int} {x : α} (h : x ∈ cut l lo hi) : x ∈ l := by
  unfold cut at h
  exact List.mem_of_mem_drop (List.mem_of_mem_take h)
theorem cut_len {α : Type} {l : List α} {lo hi : Option Int} : (cut l lo hi).length ≤ l.length := by
  unfold cut
  rw [List.length_take, List.length_drop]
  omega
end Ev

set_option Elab.async false
set_option linter.all false
set_option maxRecDepth 100000
set_option maxHeartbeats 4000000
/-! W0: rules for walking the evaluator forwards. Own work. -/
namespace Ev
/-- the same, not to be opened -/
@[irreducible] def qE := @evE
theorem qE_eq : @qE = @evE := by unfold qE; rfl
/-- the same, not to be opened -/
@[irreducible] def qEs := @evEs
theorem qEs_eq : @qEs = @evEs := by unfold qEs; rfl
/-- the same, not to be opened -/
@[irreducible] def qT := @evT
theorem qT_eq : @qT = @evT := by unfold qT; rfl
/-- the same, not to be opened -/
@[irreducible] def qTs := @evTs
theorem qTs_eq : @qTs = @evTs := by unfold qTs; rfl
/-- the same, not to be opened -/
@[irreducible] def qI := @evI
theorem qI_eq : @qI = @evI := by unfold qI; rfl
/-- the same, not to be opened -/
@[irreducible] def qS := @evS
theorem qS_eq : @qS = @evS := by unfold qS; rfl
/-- the same, not to be opened -/
@[irreducible] def qSs := @evSs
theorem qSs_eq : @qSs = @evSs := by unfold qSs; rfl
/-- the same, not to be opened -/
@[irreducible] def qB := @binD
theorem qB_eq : @qB = @binD := by unfold qB; rfl
/-- the same, not to be opened -/
@[irreducible] def qC := @cmpD
theorem qC_eq : @qC = @cmpD := by unfold qC; rfl
/-- r ends well, and so that Q -/
def Rs.Ok {α : Type} (r : Rs α) (Q : α → En → Prop) : Prop := ∃ a ρ, r = .ok a ρ ∧ Q a ρ
def CR.Ok (r : CR) (Q : Bool → D → List Sl → Prop) : Prop := ∃ o d outs, r = .ret o d outs ∧ Q o d outs
theorem Rs.Ok.mono {α : Type} {r : Rs α} {Q R : α → En → Prop} (h : r.Ok Q) (f : ∀ a ρ, Q a ρ → R a ρ) : r.Ok R := by
  obtain ⟨a, ρ, e, q⟩ := h
  exact ⟨a, ρ, e, f a ρ q⟩
theorem CR.Ok.mono {r : CR} {Q R : Bool → D → List Sl → Prop} (h : r.Ok Q) (f : ∀ o d outs, Q o d outs → R o d outs) : r.Ok R := by
  obtain ⟨o, d, outs, e, q⟩ := h
  exact ⟨o, d, outs, e, f _ _ _ q⟩
theorem CR.Ok.of {r : CR} {Q : Bool → D → List Sl → Prop} {o : Bool} {d : D} {outs : List Sl} (e : r = .ret o d outs) (q : Q o d outs) : r.Ok Q := ⟨o, d, outs, e, q⟩
theorem CR.Ok.eq {r : CR} {o : Bool} {d : D} {outs : List Sl} (h : r.Ok fun o' d' outs' => o' = o ∧ d' = d ∧ outs' = outs) : r = .ret o d outs := by
  obtain ⟨o', d', outs', e, rfl, rfl, rfl⟩ := h
  exact e
theorem ok_ret {α : Type} {a : α} {ρ : En} {Q : α → En → Prop} (q : Q a ρ) : (Rs.ok a ρ).Ok Q := ⟨a, ρ, rfl, q⟩
theorem ok_bind {α β : Type} {r : Rs α} {f : α → En → Rs β} {Q : β → En → Prop} (h : r.Ok fun a ρ => (f a ρ).Ok Q) : (r.bind f).Ok Q := by
  obtain ⟨a, ρ, rfl, q⟩ := h
  exact q
section
variable {Φ : Fns} {ρ : En} {Q : Vr → En → Prop}
theorem ok_lit {d : D} (q : Q (.v d) ρ) : (qE Φ (.lit d) ρ).Ok Q := by (simp only [qE_eq, qEs_eq, qT_eq, qTs_eq, qI_eq, qS_eq, qSs_eq]; unfold evE; try simp only [← qE_eq, ← qEs_eq, ← qT_eq, ← qTs_eq, ← qI_eq, ← qS_eq, ← qSs_eq, ← qB_eq, ← qC_eq]); exact ok_ret q
theorem ok_var {i : Nat} {s : Sl} (h : ρ.get i = some s) (q : Q (.s i) ρ) : (qE Φ (.var i) ρ).Ok Q := by (simp only [qE_eq, qEs_eq, qT_eq, qTs_eq, qI_eq, qS_eq, qSs_eq]; unfold evE; try simp only [← qE_eq, ← qEs_eq, ← qT_eq, ← qTs_eq, ← qI_eq, ← qS_eq, ← qSs_eq, ← qB_eq, ← qC_eq]); rw [h]; exact ok_ret q
theorem ok_bin {op : Bop} {a b : E} (h : (qE Φ a ρ).Ok fun x ρ1 => (qE Φ b ρ1).Ok fun y ρ2 => ∃ d e r, look ρ2 x = some d ∧ look ρ2 y = some e ∧ qB op d e = some r ∧ Q r ρ2) : (qE Φ (.bin op a b) ρ).Ok Q := by
  (simp only [qE_eq, qEs_eq, qT_eq, qTs_eq, qI_eq, qS_eq, qSs_eq]; unfold evE; try simp only [← qE_eq, ← qEs_eq, ← qT_eq, ← qTs_eq, ← qI_eq, ← qS_eq, ← qSs_eq, ← qB_eq, ← qC_eq])
  refine ok_bind (h.mono fun x ρ1 h => ok_bind (h.mono fun y ρ2 h => ?_))
  obtain ⟨d, e, r, h1, h2, h3, q⟩ := h
  unfold op2
  rw [h1, h2]
  simp only [h3, toRs]
  exact ok_ret q
theorem ok_cmp {op : Cop} {a b : E} (h : (qE Φ a ρ).Ok fun x ρ1 => (qE Φ b ρ1).Ok fun y ρ2 => ∃ d e r, look ρ2 x = some d ∧ look ρ2 y = some e ∧ qC op d e = some r ∧ Q (.v (.bl r)) ρ2) : (qE Φ (.cmp op a b) ρ).Ok Q := by
  (simp only [qE_eq, qEs_eq, qT_eq, qTs_eq, qI_eq, qS_eq, qSs_eq]; unfold evE; try simp only [← qE_eq, ← qEs_eq, ← qT_eq, ← qTs_eq, ← qI_eq, ← qS_eq, ← qSs_eq, ← qB_eq, ← qC_eq])
  refine ok_bind (h.mono fun x ρ1 h => ok_bind (h.mono fun y ρ2 h => ?_))
  obtain ⟨d, e, r, h1, h2, h3, q⟩ := h
  unfold op2
  rw [h1, h2]
  simp only [h3, toRb]
  exact ok_ret q
theorem ok_chain {o1 o2 : Cop} {a b c : E} (h : (qE Φ a ρ).Ok fun x ρ1 => (qE Φ b ρ1).Ok fun y ρ2 => ∃ d e r, look ρ2 x = some d ∧ look ρ2 y = some e ∧ qC o1 d e = some r ∧ (r = false → Q (.v (.bl false)) ρ2) ∧ (r = true → (qE Φ c ρ2).Ok fun z ρ3 => ∃ d e r, look ρ3 y = some d ∧ look ρ3 z = some e ∧ qC o2 d e = some r ∧ Q (.v (.bl r)) ρ3)) : (qE Φ (.chain o1 o2 a b c) ρ).Ok Q := by
  (simp only [qE_eq, qEs_eq, qT_eq, qTs_eq, qI_eq, qS_eq, qSs_eq]; unfold evE; try simp only [← qE_eq, ← qEs_eq, ← qT_eq, ← qTs_eq, ← qI_eq, ← qS_eq, ← qSs_eq, ← qB_eq, ← qC_eq])
  refine ok_bind (h.mono fun x ρ1 h => ok_bind (h.mono fun y ρ2 h => ?_))
  obtain ⟨d, e, r, h1, h2, h3, q1, q2⟩ := h
  unfold op2
  rw [h1, h2]
  cases r with
  | false => simp only [h3]; exact ok_ret (q1 rfl)
  | true =>
    simp only [h3]
    refine ok_bind ((q2 rfl).mono fun z ρ3 h => ?_)
    obtain ⟨d, e, r, h1, h2, h3, q⟩ := h
    rw [h1, h2]
    simp only [h3, toRb]
    exact ok_ret q
theorem ok_and {a b : E} (h : (qE Φ a ρ).Ok fun x ρ1 => ∃ d r, look ρ1 x = some d ∧ truth d = some r ∧ (r = false → Q x ρ1) ∧ (r = true → (qE Φ b ρ1).Ok Q)) : (qE Φ (.and a b) ρ).Ok Q := by
  (simp only [qE_eq, qEs_eq, qT_eq, qTs_eq, qI_eq, qS_eq, qSs_eq]; unfold evE; try simp only [← qE_eq, ← qEs_eq, ← qT_eq, ← qTs_eq, ← qI_eq, ← qS_eq, ← qSs_eq, ← qB_eq, ← qC_eq])
  refine ok_bind (h.mono fun x ρ1 h => ?_)
  obtain ⟨d, r, h1, h2, q1, q2⟩ := h
  unfold op1
  rw [h1]
  cases r <;> simp only [h2]
  · exact ok_ret (q1 rfl)
  · exact q2 rfl
theorem ok_or {a b : E} (h : (qE Φ a ρ).Ok fun x ρ1 => ∃ d r, look ρ1 x = some d ∧ truth d = some r ∧ (r = true → Q x ρ1) ∧ (r = false → (qE Φ b ρ1).Ok Q)) : (qE Φ (.or a b) ρ).Ok Q := by
  (simp only [qE_eq, qEs_eq, qT_eq, qTs_eq, qI_eq, qS_eq, qSs_eq]; unfold evE; try simp only [← qE_eq, ← qEs_eq, ← qT_eq, ← qTs_eq, ← qI_eq, ← qS_eq, ← qSs_eq, ← qB_eq, ← qC_eq])
  refine ok_bind (h.mono fun x ρ1 h => ?_)
  obtain ⟨d, r, h1, h2, q1, q2⟩ := h
  unfold op1
  rw [h1]
  cases r <;> simp only [h2]
  · exact q2 rfl
  · exact ok_ret (q1 rfl)
theorem ok_not {a : E} (h : (qE Φ a ρ).Ok fun x ρ1 => ∃ d r, look ρ1 x = some d ∧ truth d = some r ∧ Q (.v (.bl (!r))) ρ1) : (qE Φ (.not a) ρ).Ok Q := by
  (simp only [qE_eq, qEs_eq, qT_eq, qTs_eq, qI_eq, qS_eq, qSs_eq]; unfold evE; try simp only [← qE_eq, ← qEs_eq, ← qT_eq, ← qTs_eq, ← qI_eq, ← qS_eq, ← qSs_eq, ← qB_eq, ← qC_eq])
  refine ok_bind (h.mono fun x ρ1 h => ?_)
  obtain ⟨d, r, h1, h2, q⟩ := h
  unfold op1
  rw [h1]
  simp only [h2]
  exact ok_ret q
theorem ok_ifx {t : T} {a b : E} (h : (qT Φ t ρ).Ok fun c ρ1 => (c = true → (qE Φ a ρ1).Ok Q) ∧ (c = false → (qE Φ b ρ1).Ok Q)) : (qE Φ (.ifx t a b) ρ).Ok Q := by
  (simp only [qE_eq, qEs_eq, qT_eq, qTs_eq, qI_eq, qS_eq, qSs_eq]; unfold evE; try simp only [← qE_eq, ← qEs_eq, ← qT_eq, ← qTs_eq, ← qI_eq, ← qS_eq, ← qSs_eq, ← qB_eq, ← qC_eq])
  refine ok_bind (h.mono fun c ρ1 h => ?_)
  cases c
  · exact h.2 rfl
  · exact h.1 rfl
theorem oks_nil {Q : List Vr → En → Prop} (q : Q [] ρ) : (qEs Φ .nil ρ).Ok Q := by (simp only [qE_eq, qEs_eq, qT_eq, qTs_eq, qI_eq, qS_eq, qSs_eq]; unfold evEs; try simp only [← qE_eq, ← qEs_eq, ← qT_eq, ← qTs_eq, ← qI_eq, ← qS_eq, ← qSs_eq, ← qB_eq, ← qC_eq]); exact ok_ret q
theorem oks_cons {Q : List Vr → En → Prop} {e : E} {es : Es} (h : (qE Φ e ρ).Ok fun x ρ1 => (qEs Φ es ρ1).Ok fun xs ρ2 => Q (x :: xs) ρ2) : (qEs Φ (.cons e es) ρ).Ok Q := by
  (simp only [qE_eq, qEs_eq, qT_eq, qTs_eq, qI_eq, qS_eq, qSs_eq]; unfold evEs; try simp only [← qE_eq, ← qEs_eq, ← qT_eq, ← qTs_eq, ← qI_eq, ← qS_eq, ← qSs_eq, ← qB_eq, ← qC_eq])
  exact ok_bind (h.mono fun x ρ1 h => ok_bind (h.mono fun xs ρ2 h => ok_ret h))
def vrOf : Bool → D → Vr
  | true, d => .o d
  | false, d => .v d
/-- a call: the arguments, then what it does -/
theorem ok_call {f : Nat} {pm : List Nat} {as ks : Es} (h : (qEs Φ as ρ).Ok fun rs ρ1 => (qEs Φ ks ρ1).Ok fun zs ρ2 => ∃ qs sl ρ3, pick pm (rs ++ zs) = some qs ∧ frzDup qs ρ2 = ρ3 ∧ argsOf ρ3 qs = some sl ∧ (Φ f sl).Ok fun o d outs => outs.length = qs.length ∧ Q (vrOf o d) (outsTo qs outs ρ3)) : (qE Φ (.call f pm as ks) ρ).Ok Q := by
  (simp only [qE_eq, qEs_eq, qT_eq, qTs_eq, qI_eq, qS_eq, qSs_eq]; unfold evE; try simp only [← qE_eq, ← qEs_eq, ← qT_eq, ← qTs_eq, ← qI_eq, ← qS_eq, ← qSs_eq, ← qB_eq, ← qC_eq])
  refine ok_bind (h.mono fun rs ρ1 h => ok_bind (h.mono fun zs ρ2 h => ?_))
  obtain ⟨qs, sl, ρ3, h1, rfl, h2, o, d, outs, e, hl, q⟩ := h
  rw [h1]
  simp only
  unfold callR
  simp only [h2, e, hl, if_true]
  cases o <;> exact ok_ret q
theorem ok_bi {f : Bi} {as : Es} (h : (qEs Φ as ρ).Ok fun rs ρ1 => ∃ ds r, lookAll ρ1 rs = some ds ∧ biD f ds = some r ∧ Q r ρ1) : (qE Φ (.bi f as) ρ).Ok Q := by
  (simp only [qE_eq, qEs_eq, qT_eq, qTs_eq, qI_eq, qS_eq, qSs_eq]; unfold evE; try simp only [← qE_eq, ← qEs_eq, ← qT_eq, ← qTs_eq, ← qI_eq, ← qS_eq, ← qSs_eq, ← qB_eq, ← qC_eq])
  refine ok_bind (h.mono fun rs ρ1 h => ?_)
  obtain ⟨ds, r, h1, h2, q⟩ := h
  rw [h1]
  simp only [h2, toRs]
  exact ok_ret q
/-- a method that changes nothing -/
theorem ok_mth {m : Mt} {o : E} {as : Es} (hm : m ≠ .append) (h : (qE Φ o ρ).Ok fun x ρ1 => ∃ d, look ρ1 x = some d ∧ mtOk m d = true ∧ (qEs Φ as ρ1).Ok fun rs ρ2 => ∃ d' ds r, look ρ2 x = some d' ∧ lookAll ρ2 rs = some ds ∧ mtD m d' ds = some r ∧ Q r ρ2) : (qE Φ (.mth m o as) ρ).Ok Q := by
  (simp only [qE_eq, qEs_eq, qT_eq, qTs_eq, qI_eq, qS_eq, qSs_eq]; unfold evE; try simp only [← qE_eq, ← qEs_eq, ← qT_eq, ← qTs_eq, ← qI_eq, ← qS_eq, ← qSs_eq, ← qB_eq, ← qC_eq])
  refine ok_bind (h.mono fun x ρ1 h => ?_)
  obtain ⟨d, h1, h2, h⟩ := h
  unfold op1
  rw [h1]
  simp only [h2, if_true]
  refine ok_bind (h.mono fun rs ρ2 h => ?_)
  obtain ⟨d', ds, r, h1, h3, h4, q⟩ := h
  have e : mthR m x rs ρ2 = toRs (mtD m d' ds) ρ2 := by
    cases m <;> first | exact absurd rfl hm | (unfold mthR; simp only [h1, h3])
  rw [e, h4]
  exact ok_ret q
/-- append to a list of one's own -/
theorem ok_app {i : Nat} {a : E} {xs0 : List D} {m0 : Md} (h0 : ρ.get i = some ⟨m0, .lst xs0⟩) (h : (qE Φ a ρ).Ok fun x ρ1 => (keep ρ1 x).Ok fun d ρ2 => ∃ xs, ρ2.get i = some ⟨.own, .lst xs⟩ ∧ xs.length < LIM ∧ Q (.v .non) (ρ2.set i (some ⟨.own, .lst (xs ++ [d])⟩))) : (qE Φ (.mth .append (.var i) (.cons a .nil)) ρ).Ok Q := by
  (simp only [qE_eq, qEs_eq, qT_eq, qTs_eq, qI_eq, qS_eq, qSs_eq]; unfold evE; try simp only [← qE_eq, ← qEs_eq, ← qT_eq, ← qTs_eq, ← qI_eq, ← qS_eq, ← qSs_eq, ← qB_eq, ← qC_eq])
  refine ok_bind (ok_var h0 ?_)
  unfold op1 look
  simp only [h0, mtOk, if_true]
  refine ok_bind (oks_cons (h.mono fun x ρ1 h => oks_nil ?_))
  unfold mthR
  simp only
  refine ok_bind (h.mono fun d ρ2 h => ?_)
  obtain ⟨xs, h1, h2, q⟩ := h
  simp only [h1, h2, if_true]
  exact ok_ret q
theorem ok_sub {a b : E} (h : (qE Φ a ρ).Ok fun x ρ1 => (qE Φ b ρ1).Ok fun y ρ2 => ∃ d e r, look ρ2 x = some d ∧ look ρ2 y = some e ∧ subD d e = some r ∧ Q (.v r) ρ2) : (qE Φ (.sub a b) ρ).Ok Q := by
  (simp only [qE_eq, qEs_eq, qT_eq, qTs_eq, qI_eq, qS_eq, qSs_eq]; unfold evE; try simp only [← qE_eq, ← qEs_eq, ← qT_eq, ← qTs_eq, ← qI_eq, ← qS_eq, ← qSs_eq, ← qB_eq, ← qC_eq])
  refine ok_bind (h.mono fun x ρ1 h => ok_bind (h.mono fun y ρ2 h => ?_))
  obtain ⟨d, e, r, h1, h2, h3, q⟩ := h
  unfold op2
  rw [h1, h2]
  simp only [h3]
  exact ok_ret q
theorem ok_sl {bl bh : Bool} {a lo hi : E} (h : (qE Φ a ρ).Ok fun x ρ1 => (qE Φ lo ρ1).Ok fun y ρ2 => ∃ l l', look ρ2 y = some l ∧ bound bl l = some l' ∧ (qE Φ hi ρ2).Ok fun z ρ3 => ∃ u u' d r, look ρ3 z = some u ∧ bound bh u = some u' ∧ look ρ3 x = some d ∧ slD d l' u' = some r ∧ Q r ρ3) : (qE Φ (.sl bl bh a lo hi) ρ).Ok Q := by
  (simp only [qE_eq, qEs_eq, qT_eq, qTs_eq, qI_eq, qS_eq, qSs_eq]; unfold evE; try simp only [← qE_eq, ← qEs_eq, ← qT_eq, ← qTs_eq, ← qI_eq, ← qS_eq, ← qSs_eq, ← qB_eq, ← qC_eq])
  refine ok_bind (h.mono fun x ρ1 h => ok_bind (h.mono fun y ρ2 h => ?_))
  obtain ⟨l, l', h1, h2, h⟩ := h
  unfold op1
  rw [h1]
  simp only [h2]
  refine ok_bind (h.mono fun z ρ3 h => ?_)
  obtain ⟨u, u', d, r, h3, h4, h5, h6, q⟩ := h
  rw [h3]
  simp only [h4]
  rw [h5]
  simp only [h6, toRs]
  exact ok_ret q
theorem ok_rev {a st : E} (h : (qE Φ a ρ).Ok fun x ρ1 => (qE Φ st ρ1).Ok fun y ρ2 => ∃ d j r, look ρ2 x = some d ∧ look ρ2 y = some (.int j) ∧ revD d (.int j) = some r ∧ Q r ρ2) : (qE Φ (.rev a st) ρ).Ok Q := by
  (simp only [qE_eq, qEs_eq, qT_eq, qTs_eq, qI_eq, qS_eq, qSs_eq]; unfold evE; try simp only [← qE_eq, ← qEs_eq, ← qT_eq, ← qTs_eq, ← qI_eq, ← qS_eq, ← qSs_eq, ← qB_eq, ← qC_eq])
  refine ok_bind (h.mono fun x ρ1 h => ok_bind (h.mono fun y ρ2 h => ?_))
  obtain ⟨d, j, r, h1, h2, h3, q⟩ := h
  unfold op2
  rw [h1, h2]
  simp only [h3, toRs]
  exact ok_ret q
theorem ok_lst {es : Es} (h : (qEs Φ es ρ).Ok fun rs ρ1 => (keepAll rs ρ1).Ok fun ds ρ2 => ds.length ≤ LIM ∧ Q (.o (.lst ds)) ρ2) : (qE Φ (.lst es) ρ).Ok Q := by
  (simp only [qE_eq, qEs_eq, qT_eq, qTs_eq, qI_eq, qS_eq, qSs_eq]; unfold evE; try simp only [← qE_eq, ← qEs_eq, ← qT_eq, ← qTs_eq, ← qI_eq, ← qS_eq, ← qSs_eq, ← qB_eq, ← qC_eq])
  refine ok_bind (h.mono fun rs ρ1 h => ok_bind (h.mono fun ds ρ2 h => ?_))
  simp only [h.1, if_true]
  exact ok_ret h.2
theorem ok_tup {es : Es} (h : (qEs Φ es ρ).Ok fun rs ρ1 => (keepAll rs ρ1).Ok fun ds ρ2 => ds.length ≤ LIM ∧ Q (.v (.tup ds)) ρ2) : (qE Φ (.tup es) ρ).Ok Q := by
  (simp only [qE_eq, qEs_eq, qT_eq, qTs_eq, qI_eq, qS_eq, qSs_eq]; unfold evE; try simp only [← qE_eq, ← qEs_eq, ← qT_eq, ← qTs_eq, ← qI_eq, ← qS_eq, ← qSs_eq, ← qB_eq, ← qC_eq])
  refine ok_bind (h.mono fun rs ρ1 h => ok_bind (h.mono fun ds ρ2 h => ?_))
  simp only [h.1, if_true]
  exact ok_ret h.2
theorem ok_dict0 (q : Q (.o (.dic [] [])) ρ) : (qE Φ .dict0 ρ).Ok Q := by (simp only [qE_eq, qEs_eq, qT_eq, qTs_eq, qI_eq, qS_eq, qSs_eq]; unfold evE; try simp only [← qE_eq, ← qEs_eq, ← qT_eq, ← qTs_eq, ← qI_eq, ← qS_eq, ← qSs_eq, ← qB_eq, ← qC_eq]); exact ok_ret q
theorem ok_lrng1 {a : E} (h : (qE Φ a ρ).Ok fun x ρ1 => ∃ j, look ρ1 x = some (.int j) ∧ (-B62 ≤ j ∧ j < B62 ∧ (j - 0).toNat ≤ LIM) ∧ Q (.o (.lst (rngD 0 j))) ρ1) : (qE Φ (.lrng1 a) ρ).Ok Q := by
  (simp only [qE_eq, qEs_eq, qT_eq, qTs_eq, qI_eq, qS_eq, qSs_eq]; unfold evE; try simp only [← qE_eq, ← qEs_eq, ← qT_eq, ← qTs_eq, ← qI_eq, ← qS_eq, ← qSs_eq, ← qB_eq, ← qC_eq])
  refine ok_bind (h.mono fun x ρ1 h => ?_)
  obtain ⟨j, h1, h2, q⟩ := h
  unfold op1
  rw [h1]
  simp only
  rw [if_pos h2]
  exact ok_ret q
theorem ok_keep_v {α : Type} {d : D} {Q : D → En → Prop} (q : Q d ρ) : (keep ρ (.v d)).Ok Q := ok_ret q
theorem ok_keep_o {d : D} {Q : D → En → Prop} (q : Q d ρ) : (keep ρ (.o d)).Ok Q := ok_ret q
theorem ok_keep_s {i : Nat} {s : Sl} {Q : D → En → Prop} (h : ρ.get i = some s) (q : Q s.d (ρ.set i (some ⟨.fz, s.d⟩))) : (keep ρ (.s i)).Ok Q := by
  unfold keep; simp only [h]; exact ok_ret q
theorem okk_nil {Q : List D → En → Prop} (q : Q [] ρ) : (keepAll [] ρ).Ok Q := ok_ret q
theorem okk_cons {Q : List D → En → Prop} {r : Vr} {rs : List Vr} (h : (keep ρ r).Ok fun d ρ1 => (keepAll rs ρ1).Ok fun ds ρ2 => Q (d :: ds) ρ2) : (keepAll (r :: rs) ρ).Ok Q := by
  unfold keepAll
  exact ok_bind (h.mono fun d ρ1 h => ok_bind (h.mono fun ds ρ2 h => ok_ret h))
end
section
variable {Φ : Fns} {ρ : En} {Q : Bool → En → Prop}
theorem okt_val {e : E} (h : (qE Φ e ρ).Ok fun x ρ1 => ∃ d b, look ρ1 x = some d ∧ truth d = some b ∧ Q b ρ1) : (qT Φ (.val e) ρ).Ok Q := by
  (simp only [qE_eq, qEs_eq, qT_eq, qTs_eq, qI_eq, qS_eq, qSs_eq]; unfold evT; try simp only [← qE_eq, ← qEs_eq, ← qT_eq, ← qTs_eq, ← qI_eq, ← qS_eq, ← qSs_eq, ← qB_eq, ← qC_eq])
  refine ok_bind (h.mono fun x ρ1 h => ?_)
  obtain ⟨d, b, h1, h2, q⟩ := h
  unfold op1
  rw [h1]
  simp only [h2]
  exact ok_ret q
theorem okt_and {a b : T} (h : (qT Φ a ρ).Ok fun c ρ1 => (c = true → (qT Φ b ρ1).Ok Q) ∧ (c = false → Q false ρ1)) : (qT Φ (.and a b) ρ).Ok Q := by
  (simp only [qE_eq, qEs_eq, qT_eq, qTs_eq, qI_eq, qS_eq, qSs_eq]; unfold evT; try simp only [← qE_eq, ← qEs_eq, ← qT_eq, ← qTs_eq, ← qI_eq, ← qS_eq, ← qSs_eq, ← qB_eq, ← qC_eq])
  refine ok_bind (h.mono fun c ρ1 h => ?_)
  cases c
  · exact ok_ret (h.2 rfl)
  · exact h.1 rfl
theorem okt_or {a b : T} (h : (qT Φ a ρ).Ok fun c ρ1 => (c = false → (qT Φ b ρ1).Ok Q) ∧ (c = true → Q true ρ1)) : (qT Φ (.or a b) ρ).Ok Q := by
  (simp only [qE_eq, qEs_eq, qT_eq, qTs_eq, qI_eq, qS_eq, qSs_eq]; unfold evT; try simp only [← qE_eq, ← qEs_eq, ← qT_eq, ← qTs_eq, ← qI_eq, ← qS_eq, ← qSs_eq, ← qB_eq, ← qC_eq])
  refine ok_bind (h.mono fun c ρ1 h => ?_)
  cases c
  · exact h.1 rfl
  · exact ok_ret (h.2 rfl)
theorem okt_not {a : T} (h : (qT Φ a ρ).Ok fun c ρ1 => Q (!c) ρ1) : (qT Φ (.not a) ρ).Ok Q := by
  (simp only [qE_eq, qEs_eq, qT_eq, qTs_eq, qI_eq, qS_eq, qSs_eq]; unfold evT; try simp only [← qE_eq, ← qEs_eq, ← qT_eq, ← qTs_eq, ← qI_eq, ← qS_eq, ← qSs_eq, ← qB_eq, ← qC_eq])
  exact ok_bind (h.mono fun c ρ1 h => ok_ret h)
theorem okts_nil (q : Q true ρ) : (qTs Φ .nil ρ).Ok Q := by (simp only [qE_eq, qEs_eq, qT_eq, qTs_eq, qI_eq, qS_eq, qSs_eq]; unfold evTs; try simp only [← qE_eq, ← qEs_eq, ← qT_eq, ← qTs_eq, ← qI_eq, ← qS_eq, ← qSs_eq, ← qB_eq, ← qC_eq]); exact ok_ret q
theorem okts_cons {t : T} {ts : Ts} (h : (qT Φ t ρ).Ok fun c ρ1 => (c = true → (qTs Φ ts ρ1).Ok Q) ∧ (c = false → Q false ρ1)) : (qTs Φ (.cons t ts) ρ).Ok Q := by
  (simp only [qE_eq, qEs_eq, qT_eq, qTs_eq, qI_eq, qS_eq, qSs_eq]; unfold evTs; try simp only [← qE_eq, ← qEs_eq, ← qT_eq, ← qTs_eq, ← qI_eq, ← qS_eq, ← qSs_eq, ← qB_eq, ← qC_eq])
  refine ok_bind (h.mono fun c ρ1 h => ?_)
  cases c
  · exact ok_ret (h.2 rfl)
  · exact h.1 rfl
end
section
variable {Φ : Fns} {ρ : En} {Q : List D × List Vr → En → Prop}
theorem oki_seq {e : E} (h : (qE Φ e ρ).Ok fun x ρ1 => ∃ d ds, look ρ1 x = some d ∧ items d = some ds ∧ Q (ds, [x]) ρ1) : (qI Φ (.seq e) ρ).Ok Q := by
  (simp only [qE_eq, qEs_eq, qT_eq, qTs_eq, qI_eq, qS_eq, qSs_eq]; unfold evI; try simp only [← qE_eq, ← qEs_eq, ← qT_eq, ← qTs_eq, ← qI_eq, ← qS_eq, ← qSs_eq, ← qB_eq, ← qC_eq])
  refine ok_bind (h.mono fun x ρ1 h => ?_)
  obtain ⟨d, ds, h1, h2, q⟩ := h
  unfold op1
  rw [h1]
  simp only [h2]
  exact ok_ret q
theorem oki_enum {e : E} (h : (qE Φ e ρ).Ok fun x ρ1 => ∃ d ds, look ρ1 x = some d ∧ enumOf d = some ds ∧ Q (enumD ds, [x]) ρ1) : (qI Φ (.enum e) ρ).Ok Q := by
  (simp only [qE_eq, qEs_eq, qT_eq, qTs_eq, qI_eq, qS_eq, qSs_eq]; unfold evI; try simp only [← qE_eq, ← qEs_eq, ← qT_eq, ← qTs_eq, ← qI_eq, ← qS_eq, ← qSs_eq, ← qB_eq, ← qC_eq])
  refine ok_bind (h.mono fun x ρ1 h => ?_)
  obtain ⟨d, ds, h1, h2, q⟩ := h
  unfold op1
  rw [h1]
  simp only [h2]
  exact ok_ret q
theorem oki_back {e : E} (h : (qE Φ e ρ).Ok fun x ρ1 => ∃ d ds, look ρ1 x = some d ∧ lstOf d = some ds ∧ Q (ds.reverse, [x]) ρ1) : (qI Φ (.back e) ρ).Ok Q := by
  (simp only [qE_eq, qEs_eq, qT_eq, qTs_eq, qI_eq, qS_eq, qSs_eq]; unfold evI; try simp only [← qE_eq, ← qEs_eq, ← qT_eq, ← qTs_eq, ← qI_eq, ← qS_eq, ← qSs_eq, ← qB_eq, ← qC_eq])
  refine ok_bind (h.mono fun x ρ1 h => ?_)
  obtain ⟨d, ds, h1, h2, q⟩ := h
  unfold op1
  rw [h1]
  simp only [h2]
  exact ok_ret q
theorem oki_zip {a b : E} (h : (qE Φ a ρ).Ok fun x ρ1 => (qE Φ b ρ1).Ok fun y ρ2 => ∃ d e ds es, look ρ2 x = some d ∧ look ρ2 y = some e ∧ lstOf d = some ds ∧ lstOf e = some es ∧ Q (zipD ds es, [x, y]) ρ2) : (qI Φ (.zip a b) ρ).Ok Q := by
  (simp only [qE_eq, qEs_eq, qT_eq, qTs_eq, qI_eq, qS_eq, qSs_eq]; unfold evI; try simp only [← qE_eq, ← qEs_eq, ← qT_eq, ← qTs_eq, ← qI_eq, ← qS_eq, ← qSs_eq, ← qB_eq, ← qC_eq])
  refine ok_bind (h.mono fun x ρ1 h => ok_bind (h.mono fun y ρ2 h => ?_))
  obtain ⟨d, e, ds, es, h1, h2, h3, h4, q⟩ := h
  unfold op1
  rw [h1]
  simp only [h2, h3, h4]
  exact ok_ret q
theorem oki_rng1 {a : E} (h : (qE Φ a ρ).Ok fun x ρ1 => ∃ j, look ρ1 x = some (.int j) ∧ (-B62 ≤ j ∧ j < B62) ∧ Q (rngD 0 j, []) ρ1) : (qI Φ (.rng1 a) ρ).Ok Q := by
  (simp only [qE_eq, qEs_eq, qT_eq, qTs_eq, qI_eq, qS_eq, qSs_eq]; unfold evI; try simp only [← qE_eq, ← qEs_eq, ← qT_eq, ← qTs_eq, ← qI_eq, ← qS_eq, ← qSs_eq, ← qB_eq, ← qC_eq])
  refine ok_bind (h.mono fun x ρ1 h => ?_)
  obtain ⟨j, h1, h2, q⟩ := h
  unfold op1
  rw [h1]
  simp only
  rw [if_pos h2]
  exact ok_ret q
theorem oki_rng2 {a b : E} (h : (qE Φ a ρ).Ok fun x ρ1 => (qE Φ b ρ1).Ok fun y ρ2 => ∃ i j, look ρ2 x = some (.int i) ∧ look ρ2 y = some (.int j) ∧ (-B62 ≤ i ∧ i < B62 ∧ -B62 ≤ j ∧ j < B62) ∧ Q (rngD i j, []) ρ2) : (qI Φ (.rng2 a b) ρ).Ok Q := by
  (simp only [qE_eq, qEs_eq, qT_eq, qTs_eq, qI_eq, qS_eq, qSs_eq]; unfold evI; try simp only [← qE_eq, ← qEs_eq, ← qT_eq, ← qTs_eq, ← qI_eq, ← qS_eq, ← qSs_eq, ← qB_eq, ← qC_eq])
  refine ok_bind (h.mono fun x ρ1 h => ok_bind (h.mono fun y ρ2 h => ?_))
  obtain ⟨i, j, h1, h2, h3, q⟩ := h
  unfold op1
  rw [h1]
  simp only
  rw [h2]
  simp only
  rw [if_pos h3]
  exact ok_ret q
end
section
variable {Φ : Fns} {np : Nat} {ρ : En} {Q : Fl → En → Prop}
/-- a statement, then the others -/
def Nx (Φ : Fns) (np : Nat) (ss : Ss) (Q : Fl → En → Prop) : Fl → En → Prop := fun c ρ => match c with
  | .nx => (qSs Φ np ss ρ).Ok Q
  | c => Q c ρ
theorem okz_nil (q : Q .nx ρ) : (qSs Φ np .nil ρ).Ok Q := by (simp only [qE_eq, qEs_eq, qT_eq, qTs_eq, qI_eq, qS_eq, qSs_eq]; unfold evSs; try simp only [← qE_eq, ← qEs_eq, ← qT_eq, ← qTs_eq, ← qI_eq, ← qS_eq, ← qSs_eq, ← qB_eq, ← qC_eq]); exact ok_ret q
theorem okz_cons {s : S} {ss : Ss} (h : (qS Φ np s ρ).Ok (Nx Φ np ss Q)) : (qSs Φ np (.cons s ss) ρ).Ok Q := by
  (simp only [qE_eq, qEs_eq, qT_eq, qTs_eq, qI_eq, qS_eq, qSs_eq]; unfold evSs; try simp only [← qE_eq, ← qEs_eq, ← qT_eq, ← qTs_eq, ← qI_eq, ← qS_eq, ← qSs_eq, ← qB_eq, ← qC_eq])
  refine ok_bind (h.mono fun c ρ1 h => ?_)
  cases c <;> first | exact h | exact ok_ret h
theorem oks_expr {e : E} {ss : Ss} (h : (qE Φ e ρ).Ok fun _ ρ1 => (qSs Φ np ss ρ1).Ok Q) : (qSs Φ np (.cons (.expr e) ss) ρ).Ok Q := by
  refine okz_cons ?_
  (simp only [qE_eq, qEs_eq, qT_eq, qTs_eq, qI_eq, qS_eq, qSs_eq]; unfold evS; try simp only [← qE_eq, ← qEs_eq, ← qT_eq, ← qTs_eq, ← qI_eq, ← qS_eq, ← qSs_eq, ← qB_eq, ← qC_eq])
  exact ok_bind (h.mono fun x ρ1 h => ok_ret h)
theorem oks_set {i : Nat} {e : E} {ss : Ss} (h : (qE Φ e ρ).Ok fun x ρ1 => (storeR i x ρ1).Ok fun _ ρ2 => (qSs Φ np ss ρ2).Ok Q) : (qSs Φ np (.cons (.set i e) ss) ρ).Ok Q := by
  refine okz_cons ?_
  (simp only [qE_eq, qEs_eq, qT_eq, qTs_eq, qI_eq, qS_eq, qSs_eq]; unfold evS; try simp only [← qE_eq, ← qEs_eq, ← qT_eq, ← qTs_eq, ← qI_eq, ← qS_eq, ← qSs_eq, ← qB_eq, ← qC_eq])
  exact ok_bind (h.mono fun x ρ1 h => ok_bind (h.mono fun _ ρ2 h => ok_ret h))
theorem oks_par {is : List Nat} {es : Es} {ss : Ss} (h : (qEs Φ es ρ).Ok fun xs ρ1 => (keepSl xs ρ1).Ok fun sl ρ2 => ∃ ρ3, setAll is sl ρ2 = some ρ3 ∧ (qSs Φ np ss ρ3).Ok Q) : (qSs Φ np (.cons (.par is es) ss) ρ).Ok Q := by
  refine okz_cons ?_
  (simp only [qE_eq, qEs_eq, qT_eq, qTs_eq, qI_eq, qS_eq, qSs_eq]; unfold evS; try simp only [← qE_eq, ← qEs_eq, ← qT_eq, ← qTs_eq, ← qI_eq, ← qS_eq, ← qSs_eq, ← qB_eq, ← qC_eq])
  refine ok_bind (h.mono fun xs ρ1 h => ok_bind (h.mono fun sl ρ2 h => ?_))
  obtain ⟨ρ3, h1, q⟩ := h
  simp only [h1]
  exact ok_ret q
theorem oks_unp {is : List Nat} {e : E} {ss : Ss} (h : (qE Φ e ρ).Ok fun x ρ1 => ∃ d ds ρ2, look ρ1 x = some d ∧ unpD d = some ds ∧ setAll is (ds.map fun d => ⟨.fz, d⟩) ρ1 = some ρ2 ∧ (qSs Φ np ss ρ2).Ok Q) : (qSs Φ np (.cons (.unp is e) ss) ρ).Ok Q := by
  refine okz_cons ?_
  (simp only [qE_eq, qEs_eq, qT_eq, qTs_eq, qI_eq, qS_eq, qSs_eq]; unfold evS; try simp only [← qE_eq, ← qEs_eq, ← qT_eq, ← qTs_eq, ← qI_eq, ← qS_eq, ← qSs_eq, ← qB_eq, ← qC_eq])
  refine ok_bind (h.mono fun x ρ1 h => ?_)
  obtain ⟨d, ds, ρ2, h1, h0, h2, q⟩ := h
  unfold op1
  rw [h1]
  simp only [h0, h2]
  exact ok_ret q
theorem unp_intro {ρ ρ2 : En} {x : Vr} {is : List Nat} {d : D} {ds : List D} {R : En → Prop} (h1 : look ρ x = some d) (h2 : unpD d = some ds) (h3 : setAll is (ds.map fun d => ⟨.fz, d⟩) ρ = some ρ2) (q : R ρ2) :
    ∃ d ds ρ2, look ρ x = some d ∧ unpD d = some ds ∧ setAll is (ds.map fun d => ⟨.fz, d⟩) ρ = some ρ2 ∧ R ρ2 := ⟨_, _, _, h1, h2, h3, q⟩
/-- xs[k] = v, a list of one's own -/
theorem oks_putL {j : Nat} {i v : E} {ss : Ss} (h : (qE Φ v ρ).Ok fun z ρ1 => ∃ s, ρ1.get j = some s ∧ (qE Φ i ρ1).Ok fun y ρ2 => (keep ρ2 z).Ok fun d ρ3 => ∃ k xs n, look ρ3 y = some (.int k) ∧ ρ3.get j = some ⟨.own, .lst xs⟩ ∧ ixN xs.length k = some n ∧ (qSs Φ np ss (ρ3.set j (some ⟨.own, .lst (xs.set n d)⟩))).Ok Q) : (qSs Φ np (.cons (.put (.var j) i v) ss) ρ).Ok Q := by
  refine okz_cons ?_
  (simp only [qE_eq, qEs_eq, qT_eq, qTs_eq, qI_eq, qS_eq, qSs_eq]; unfold evS; try simp only [← qE_eq, ← qEs_eq, ← qT_eq, ← qTs_eq, ← qI_eq, ← qS_eq, ← qSs_eq, ← qB_eq, ← qC_eq])
  refine ok_bind (h.mono fun z ρ1 h => ?_)
  obtain ⟨s, h0, h⟩ := h
  refine ok_bind (ok_var h0 (ok_bind (h.mono fun y ρ2 h => ok_bind (h.mono fun d ρ3 h => ?_))))
  obtain ⟨k, xs, n, h1, h2, h3, q⟩ := h
  unfold op1
  rw [h1]
  simp only [h2, h3]
  exact ok_ret q
/-- xs[k] = v, a dict of one's own -/
theorem oks_putD {j : Nat} {i v : E} {ss : Ss} (h : (qE Φ v ρ).Ok fun z ρ1 => ∃ s, ρ1.get j = some s ∧ (qE Φ i ρ1).Ok fun y ρ2 => (keep ρ2 z).Ok fun d ρ3 => ∃ k ks vs, look ρ3 y = some k ∧ ρ3.get j = some ⟨.own, .dic ks vs⟩ ∧ isKey k = true ∧ ks.length < LIM ∧ (qSs Φ np ss (ρ3.set j (some ⟨.own, .dic (putD k d ks vs).1 (putD k d ks vs).2⟩))).Ok Q) : (qSs Φ np (.cons (.put (.var j) i v) ss) ρ).Ok Q := by
  refine okz_cons ?_
  (simp only [qE_eq, qEs_eq, qT_eq, qTs_eq, qI_eq, qS_eq, qSs_eq]; unfold evS; try simp only [← qE_eq, ← qEs_eq, ← qT_eq, ← qTs_eq, ← qI_eq, ← qS_eq, ← qSs_eq, ← qB_eq, ← qC_eq])
  refine ok_bind (h.mono fun z ρ1 h => ?_)
  obtain ⟨s, h0, h⟩ := h
  refine ok_bind (ok_var h0 (ok_bind (h.mono fun y ρ2 h => ok_bind (h.mono fun d ρ3 h => ?_))))
  obtain ⟨k, ks, vs, h1, h2, h3, h4, q⟩ := h
  unfold op1
  rw [h1]
  simp only [h2, h3, decide_eq_true h4, Bool.and_self, if_true]
  exact ok_ret q
/-- what is handed back -/
def RetQ (np : Nat) (Q : Fl → En → Prop) : Vr → En → Prop
  | .v d, ρ => Q (.rt false d) ρ
  | .o d, ρ => Q (.rt true d) ρ
  | .s i, ρ => ∃ m d, ρ.get i = some ⟨m, d⟩ ∧ (if m = .own ∧ ¬ i < np then Q (.rt true d) ρ else Q (.rt false d) (ρ.set i (some ⟨.fz, d⟩)))
theorem retq_v {d : D} (q : Q (.rt false d) ρ) : RetQ np Q (.v d) ρ := q
theorem retq_o {d : D} (q : Q (.rt true d) ρ) : RetQ np Q (.o d) ρ := q
theorem retq_w {i : Nat} {d : D} (h : ρ.get i = some ⟨.own, d⟩) (hi : Nat.ble np i = true) (q : Q (.rt true d) ρ) : RetQ np Q (.s i) ρ := ⟨_, _, h, by
  have := Nat.le_of_ble_eq_true hi
  rw [if_pos ⟨rfl, by omega⟩]; exact q⟩
theorem retq_p {i : Nat} {m : Md} {d : D} (h : ρ.get i = some ⟨m, d⟩) (hi : Nat.blt i np = true) (q : Q (.rt false d) (ρ.set i (some ⟨.fz, d⟩))) : RetQ np Q (.s i) ρ := ⟨_, _, h, by
  have := Nat.le_of_ble_eq_true hi
  rw [if_neg (fun h => h.2 (by omega))]; exact q⟩
theorem retq_f {i : Nat} {d : D} (h : ρ.get i = some ⟨.fz, d⟩) (q : Q (.rt false d) (ρ.set i (some ⟨.fz, d⟩))) : RetQ np Q (.s i) ρ := ⟨_, _, h, by
  rw [if_neg (fun h => by cases h.1)]; exact q⟩
theorem oks_ret {e : E} {ss : Ss} (h : (qE Φ e ρ).Ok (RetQ np Q)) : (qSs Φ np (.cons (.ret e) ss) ρ).Ok Q := by
  refine okz_cons ?_
  (simp only [qE_eq, qEs_eq, qT_eq, qTs_eq, qI_eq, qS_eq, qSs_eq]; unfold evS; try simp only [← qE_eq, ← qEs_eq, ← qT_eq, ← qTs_eq, ← qI_eq, ← qS_eq, ← qSs_eq, ← qB_eq, ← qC_eq])
  refine ok_bind (h.mono fun x ρ1 h => ?_)
  cases x with
  | v d => exact ok_ret h
  | o d => exact ok_ret h
  | s i =>
    obtain ⟨m, d, h1, q⟩ := h
    cases m with
    | own =>
      by_cases hi : i < np
      · simp only [h1, hi, if_true]
        rw [if_neg (by simp [hi])] at q
        exact ok_bind (ok_keep_s h1 (ok_ret q))
      · simp only [h1, hi, if_false]
        rw [if_pos ⟨rfl, hi⟩] at q
        exact ok_ret q
    | fz =>
      simp only [h1]
      rw [if_neg (fun h => by cases h.1)] at q
      exact ok_bind (ok_keep_s h1 (ok_ret q))
    | lk =>
      simp only [h1]
      rw [if_neg (fun h => by cases h.1)] at q
      exact ok_bind (ok_keep_s h1 (ok_ret q))
theorem oks_iff {t : T} {a b : Ss} {ss : Ss} (h : (qT Φ t ρ).Ok fun c ρ1 => (c = true → (qSs Φ np a ρ1).Ok (Nx Φ np ss Q)) ∧ (c = false → (qSs Φ np b ρ1).Ok (Nx Φ np ss Q))) : (qSs Φ np (.cons (.iff t a b) ss) ρ).Ok Q := by
  refine okz_cons ?_
  (simp only [qE_eq, qEs_eq, qT_eq, qTs_eq, qI_eq, qS_eq, qSs_eq]; unfold evS; try simp only [← qE_eq, ← qEs_eq, ← qT_eq, ← qTs_eq, ← qI_eq, ← qS_eq, ← qSs_eq, ← qB_eq, ← qC_eq])
  refine ok_bind (h.mono fun c ρ1 h => ?_)
  cases c
  · exact h.2 rfl
  · exact h.1 rfl
theorem nx_nx {ss : Ss} (h : (qSs Φ np ss ρ).Ok Q) : Nx Φ np ss Q .nx ρ := h
theorem nx_rt {ss : Ss} {o : Bool} {d : D} (h : Q (.rt o d) ρ) : Nx Φ np ss Q (.rt o d) ρ := h
theorem nx_br {ss : Ss} (h : Q .br ρ) : Nx Φ np ss Q .br ρ := h
theorem nx_ct {ss : Ss} (h : Q .ct ρ) : Nx Φ np ss Q .ct ρ := h
/-- a loop: the walk, then its turns by an invariant of what is left -/
theorem ok_forGo {f : D → En → Rs Fl} (I : List D → En → Prop) {rows : List D} (h0 : I rows ρ) (step : ∀ d ds ρ, I (d :: ds) ρ → (f d ρ).Ok fun c ρ' => match c with
    | .nx => I ds ρ'
    | .ct => I ds ρ'
    | .br => Q .nx ρ'
    | .rt o d => Q (.rt o d) ρ') (fin : ∀ ρ, I [] ρ → Q .nx ρ) : (forGo f rows ρ).Ok Q := by
  induction rows generalizing ρ with
  | nil => unfold forGo; exact ok_ret (fin _ h0)
  | cons d ds ih =>
    unfold forGo
    refine ok_bind ((step d ds ρ h0).mono fun c ρ' h => ?_)
    cases c with
    | nx => exact ih h
    | ct => exact ih h
    | br => exact ok_ret h
    | rt o d => exact ok_ret h
theorem oks_for {tg : List Nat} {it : Wk} {body : Ss} {ss : Ss} (h : (qI Φ it ρ).Ok fun rr ρ1 => (forGo (withTg tg (qSs Φ np body)) rr.1 (lockL ρ1 rr.2)).Ok fun c ρ2 => Nx Φ np ss Q c (unlockL ρ1 ρ2 rr.2)) : (qSs Φ np (.cons (.for tg it body) ss) ρ).Ok Q := by
  refine okz_cons ?_
  (simp only [qE_eq, qEs_eq, qT_eq, qTs_eq, qI_eq, qS_eq, qSs_eq]; unfold evS; try simp only [← qE_eq, ← qEs_eq, ← qT_eq, ← qTs_eq, ← qI_eq, ← qS_eq, ← qSs_eq, ← qB_eq, ← qC_eq])
  refine ok_bind (h.mono fun rr ρ1 h => ?_)
  exact ok_bind (h.mono fun c ρ2 h => ok_ret h)
theorem ok_withTg {tg : List Nat} {f : En → Rs Fl} {d : D} {ρ1 : En} (h : assignD tg d ρ = some ρ1) (q : (f ρ1).Ok Q) : (withTg tg f d ρ).Ok Q := by
  unfold withTg
  rw [h]
  exact q
theorem ok_whGo {t : En → Rs Bool} {f : En → Rs Fl} (I : Nat → En → Prop) : ∀ (m n : Nat) (ρ : En), m < n → I m ρ → (∀ m ρ, I m ρ → (t ρ).Ok fun c ρ1 => if c then (f ρ1).Ok fun r ρ2 => (match r with
    | .nx => ∃ k, k < m ∧ I k ρ2
    | .ct => ∃ k, k < m ∧ I k ρ2
    | .br => Q .nx ρ2
    | .rt o d => Q (.rt o d) ρ2) else Q .nx ρ1) → (whGo t f n ρ).Ok Q
  | _, 0, _, h, _, _ => by omega
  | m, n + 1, ρ, h, h0, st => by
    unfold whGo
    refine ok_bind ((st m ρ h0).mono fun c ρ1 h1 => ?_)
    cases c with
    | false => exact ok_ret h1
    | true =>
      refine ok_bind (Rs.Ok.mono h1 fun r ρ2 h2 => ?_)
      cases r with
      | nx =>
        obtain ⟨k, hk, hi⟩ := h2
        exact ok_whGo I k n ρ2 (by omega) hi st
      | ct =>
        obtain ⟨k, hk, hi⟩ := h2
        exact ok_whGo I k n ρ2 (by omega) hi st
      | br => exact ok_ret h2
      | rt o d => exact ok_ret h2
theorem oks_while {t : T} {body : Ss} {ss : Ss} (h : (whGo (qT Φ t) (qSs Φ np body) FUEL ρ).Ok (Nx Φ np ss Q)) : (qSs Φ np (.cons (.while t body) ss) ρ).Ok Q := by
  refine okz_cons ?_
  (simp only [qE_eq, qEs_eq, qT_eq, qTs_eq, qI_eq, qS_eq, qSs_eq]; unfold evS; try simp only [← qE_eq, ← qEs_eq, ← qT_eq, ← qTs_eq, ← qI_eq, ← qS_eq, ← qSs_eq, ← qB_eq, ← qC_eq])
  exact h
theorem ok_store_v {i : Nat} {d : D} {Q : Unit → En → Prop} (h : i < ρ.length) (q : Q () (ρ.set i (some ⟨.fz, d⟩))) : (storeR i (.v d) ρ).Ok Q := by
  unfold storeR; rw [if_pos h]; exact ok_ret q
theorem ok_store_o {i : Nat} {d : D} {Q : Unit → En → Prop} (h : i < ρ.length) (q : Q () (ρ.set i (some ⟨.own, d⟩))) : (storeR i (.o d) ρ).Ok Q := by
  unfold storeR; rw [if_pos h]; exact ok_ret q
theorem ok_store_s {i j : Nat} {s : Sl} {Q : Unit → En → Prop} (h : i < ρ.length) (h2 : ρ.get j = some s) (q : Q () ((ρ.set j (some ⟨.fz, s.d⟩)).set i (some ⟨.fz, s.d⟩))) : (storeR i (.s j) ρ).Ok Q := by
  unfold storeR; rw [if_pos h]; exact ok_bind (ok_keep_s h2 (ok_ret q))
theorem okl_nil {Q : List Sl → En → Prop} (q : Q [] ρ) : (keepSl [] ρ).Ok Q := ok_ret q
theorem okl_v {Q : List Sl → En → Prop} {d : D} {rs : List Vr} (h : (keepSl rs ρ).Ok fun l ρ1 => Q (⟨.fz, d⟩ :: l) ρ1) : (keepSl (.v d :: rs) ρ).Ok Q := by
  unfold keepSl
  exact ok_bind (ok_ret (ok_bind (h.mono fun l ρ1 h => ok_ret h)))
theorem okl_o {Q : List Sl → En → Prop} {d : D} {rs : List Vr} (h : (keepSl rs ρ).Ok fun l ρ1 => Q (⟨.own, d⟩ :: l) ρ1) : (keepSl (.o d :: rs) ρ).Ok Q := by
  unfold keepSl
  exact ok_bind (ok_ret (ok_bind (h.mono fun l ρ1 h => ok_ret h)))
theorem okl_s {Q : List Sl → En → Prop} {i : Nat} {s : Sl} {rs : List Vr} (h0 : ρ.get i = some s) (h : (keepSl rs (ρ.set i (some ⟨.fz, s.d⟩))).Ok fun l ρ1 => Q (⟨.fz, s.d⟩ :: l) ρ1) : (keepSl (.s i :: rs) ρ).Ok Q := by
  unfold keepSl
  exact ok_bind (ok_bind (ok_keep_s h0 (ok_ret (ok_bind (h.mono fun l ρ1 h => ok_ret h)))))
end
/-! ### comprehensions -/
theorem ok_lcGo {f : D → En → Rs (Option D)} (I : List D → List D → En → Prop) (st : ∀ d ds done ρ, I done (d :: ds) ρ → (f d ρ).Ok fun r ρ' => I (done ++ r.toList) ds ρ') : ∀ (rows done : List D) (ρ : En), I done rows ρ → (lcGo f rows ρ).Ok fun ds ρ' => I (done ++ ds) [] ρ'
  | [], done, ρ, h0 => ok_ret (by rw [List.append_nil]; exact h0)
  | d :: rows, done, ρ, h0 => by
    unfold lcGo
    obtain ⟨r, ρ', e, h1⟩ := st d rows done ρ h0
    rw [e]
    refine ok_bind (ok_ret (ok_bind ((ok_lcGo I st rows _ _ h1).mono fun ds ρ2 h2 => ok_ret ?_)))
    rw [List.append_assoc] at h2
    cases r with
    | none => exact h2
    | some x => exact h2
theorem ok_lcTg {tg own : List Nat} {t : En → Rs Bool} {e : En → Rs Vr} {d : D} {ρ ρ1 : En} {Q : Option D → En → Prop} (h1 : assignD tg d (wipeE ρ own) = some ρ1) (h : (t ρ1).Ok fun b ρ2 => (b = true → (e ρ2).Ok fun x ρ3 => (keep ρ3 x).Ok fun d ρ4 => Q (some d) ρ4) ∧ (b = false → Q none ρ2)) : (lcTg tg own t e d ρ).Ok Q := by
  unfold lcTg
  simp only [h1]
  refine ok_bind (h.mono fun b ρ2 h => ?_)
  cases b with
  | true => exact ok_bind ((h.1 rfl).mono fun x ρ3 h => ok_bind (h.mono fun d ρ4 h => ok_ret h))
  | false => exact ok_ret (h.2 rfl)
/-- a comprehension, by an invariant of what is made and what is left -/
theorem ok_lc {Φ : Fns} {ρ : En} {Q : Vr → En → Prop} {elt : E} {tg own : List Nat} {it : Wk} {ts : Ts} (h : (qI Φ it ρ).Ok fun rr ρ1 => ∃ I : List D → List D → En → Prop, I [] rr.1 (wipeE (lockL ρ1 rr.2) own) ∧
    (∀ d ds done ρ, I done (d :: ds) ρ → (lcTg tg own (qTs Φ ts) (qE Φ elt) d ρ).Ok fun r ρ' => I (done ++ r.toList) ds ρ') ∧
    (∀ ds ρ', I ds [] ρ' → ds.length ≤ LIM ∧ Q (.o (.lst ds)) (unlockL ρ1 (backE (lockL ρ1 rr.2) ρ' own) rr.2))) : (qE Φ (.lc elt tg it ts own) ρ).Ok Q := by
  (simp only [qE_eq, qEs_eq, qT_eq, qTs_eq, qI_eq, qS_eq, qSs_eq]; unfold evE; try simp only [← qE_eq, ← qEs_eq, ← qT_eq, ← qTs_eq, ← qI_eq, ← qS_eq, ← qSs_eq, ← qB_eq, ← qC_eq])
  refine ok_bind (h.mono fun rr ρ1 h => ?_)
  obtain ⟨I, h0, st, fin⟩ := h
  refine ok_bind ((ok_lcGo I st rr.1 [] _ h0).mono fun ds ρ2 h2 => ?_)
  obtain ⟨hl, q⟩ := fin ds ρ2 h2
  simp only [hl, if_true]
  exact ok_ret q
/-- one that changes nothing but its own names: each item gives q of it -/
theorem ok_lcp {Φ : Fns} {ρ : En} {Q : Vr → En → Prop} {elt : E} {tg own : List Nat} {it : Wk} {ts : Ts} (h : (qI Φ it ρ).Ok fun rr ρ1 => ∃ (J : En → Prop) (q : D → Option D), J (wipeE (lockL ρ1 rr.2) own) ∧
    (∀ d ∈ rr.1, ∀ ρ, J ρ → (lcTg tg own (qTs Φ ts) (qE Φ elt) d ρ).Ok fun r ρ' => r = q d ∧ J ρ') ∧ (rr.1.filterMap q).length ≤ LIM ∧
    (∀ ρ', J ρ' → Q (.o (.lst (rr.1.filterMap q))) (unlockL ρ1 (backE (lockL ρ1 rr.2) ρ' own) rr.2))) : (qE Φ (.lc elt tg it ts own) ρ).Ok Q := by
  refine ok_lc (h.mono fun rr ρ1 h => ?_)
  obtain ⟨J, q, h0, st, hl, fin⟩ := h
  refine ⟨fun done rest ρ => ∃ pre, rr.1 = pre ++ rest ∧ done = pre.filterMap q ∧ J ρ, ⟨[], rfl, rfl, h0⟩, ?_, ?_⟩
  · intro d ds done ρ ⟨pre, e1, e2, j⟩
    refine (st d (by rw [e1]; exact List.mem_append_right _ List.mem_cons_self) ρ j).mono fun r ρ' h => ?_
    obtain ⟨rfl, j⟩ := h
    refine ⟨pre ++ [d], by rw [e1, List.append_assoc] <;> rfl, ?_, j⟩
    rw [List.filterMap_append, e2]
    congr 1
  · intro ds ρ' ⟨pre, e1, e2, j⟩
    rw [List.append_nil] at e1
    subst e1
    subst e2
    exact ⟨hl, fin ρ' j⟩
/-- a def's end -/
def Fin (np : Nat) (reb : List Nat) (as : List Sl) (Q : Bool → D → List Sl → Prop) : Fl → En → Prop := fun c ρ => ∃ outs, allSome (ρ.take np) = some outs ∧ outs.length = np ∧ match c with
  | .nx => Q false .non (backAt (frzAt reb as) reb outs)
  | .rt o r => Q o r (backAt (frzAt reb as) reb outs)
  | _ => False
theorem fin_rt {np : Nat} {reb : List Nat} {as outs : List Sl} {Q : Bool → D → List Sl → Prop} {o : Bool} {d : D} {ρ : En} (h1 : allSome (ρ.take np) = some outs) (h2 : outs.length = np) (q : Q o d (backAt (frzAt reb as) reb outs)) : Fin np reb as Q (.rt o d) ρ := ⟨outs, h1, h2, q⟩
theorem fin_nx {np : Nat} {reb : List Nat} {as outs : List Sl} {Q : Bool → D → List Sl → Prop} {ρ : En} (h1 : allSome (ρ.take np) = some outs) (h2 : outs.length = np) (q : Q false .non (backAt (frzAt reb as) reb outs)) : Fin np reb as Q .nx ρ := ⟨outs, h1, h2, q⟩
/-- a call by its def -/
theorem ok_phi {Δ : Tab} {n k np ns : Nat} {reb : List Nat} {body : Ss} {as : List Sl} {Q : Bool → D → List Sl → Prop} (hd : Δ.lookup n = some ⟨np, ns, reb, body⟩) (hl : as.length = np ∧ np ≤ ns)
    (h : (qSs (Phi Δ k) np body ((frzAt reb as).map some ++ List.replicate (ns - np) none)).Ok (Fin np reb as Q)) : (Phi Δ (k + 1) n as).Ok Q := by
  obtain ⟨c, ρ, e, outs, h1, h2, q⟩ := h
  unfold Phi
  simp only [hd]
  unfold runDf
  simp only
  rw [if_pos hl]
  simp only [← qSs_eq, e, h1, h2, if_true]
  cases c with
  | nx => exact ⟨_, _, _, rfl, q⟩
  | rt o r => exact ⟨_, _, _, rfl, q⟩
  | br => exact q.elim
  | ct => exact q.elim
end Ev

set_option Elab.async false
set_option linter.all false
set_option maxRecDepth 100000
set_option maxHeartbeats 4000000
/-! W1: what stands at the leaves; the steps as tactics. Own work. -/
namespace Ev
theorem LIM_n : LIM = 16777216 := rfl
theorem B62_eq : B62 = 4611686018427387904 := rfl
theorem B63_eq : B63 = 9223372036854775808 := rfl
theorem FUEL_eq : FUEL = 1000000 := rfl
section
variable {ρ : En} {x y : Vr} {R : Vr → Prop} {B : Bool → Prop} {C : D → Prop}
theorem lf_add_int {a b : Int} (h1 : look ρ x = some (.int a)) (h2 : look ρ y = some (.int b)) (q : R (.v (.int (a + b)))) : ∃ d e r, look ρ x = some d ∧ look ρ y = some e ∧ qB .add d e = some r ∧ R r := ⟨_, _, _, h1, h2, (by first | (rw [qB_eq]; rfl) | (rw [qC_eq]; rfl) | rfl), q⟩
theorem lf_sub_int {a b : Int} (h1 : look ρ x = some (.int a)) (h2 : look ρ y = some (.int b)) (q : R (.v (.int (a - b)))) : ∃ d e r, look ρ x = some d ∧ look ρ y = some e ∧ qB .sub d e = some r ∧ R r := ⟨_, _, _, h1, h2, (by first | (rw [qB_eq]; rfl) | (rw [qC_eq]; rfl) | rfl), q⟩
theorem lf_add_str {a b : List Nat} (h1 : look ρ x = some (.str a)) (h2 : look ρ y = some (.str b)) (h : a.length + b.length ≤ LIM) (q : R (.v (.str (a ++ b)))) : ∃ d e r, look ρ x = some d ∧ look ρ y = some e ∧ qB .add d e = some r ∧ R r := ⟨_, _, _, h1, h2, by rw [qB_eq]; unfold binD; simp only; rw [if_pos h], q⟩
theorem lf_add_lst {a b : List D} (h1 : look ρ x = some (.lst a)) (h2 : look ρ y = some (.lst b)) (h : a.length + b.length ≤ LIM) (q : R (.o (.lst (a ++ b)))) : ∃ d e r, look ρ x = some d ∧ look ρ y = some e ∧ qB .add d e = some r ∧ R r := ⟨_, _, _, h1, h2, by rw [qB_eq]; unfold binD; simp only; rw [if_pos h], q⟩
theorem lf_mul_int {a b : Int} (h1 : look ρ x = some (.int a)) (h2 : look ρ y = some (.int b)) (h : mulOk a b = true) (q : R (.v (.int (a * b)))) : ∃ d e r, look ρ x = some d ∧ look ρ y = some e ∧ qB .mul d e = some r ∧ R r := ⟨_, _, _, h1, h2, by rw [qB_eq]; unfold binD; simp only; rw [if_pos h], q⟩
theorem lf_mul_str {a : List Nat} {b : Int} (h1 : look ρ x = some (.str a)) (h2 : look ρ y = some (.int b)) (h : 0 ≤ b ∧ b < 1000000 ∧ a.length * b.toNat ≤ LIM) (q : R (.v (.str (List.replicate b.toNat a).flatten))) : ∃ d e r, look ρ x = some d ∧ look ρ y = some e ∧ qB .mul d e = some r ∧ R r := ⟨_, _, _, h1, h2, by rw [qB_eq]; unfold binD; simp only; rw [if_pos h], q⟩
theorem lf_mul_lst {a : List D} {b : Int} (h1 : look ρ x = some (.lst a)) (h2 : look ρ y = some (.int b)) (h : -B63 ≤ b ∧ b < B63 ∧ a.length * b.toNat ≤ LIM) (q : R (.o (.lst (List.replicate b.toNat a).flatten))) : ∃ d e r, look ρ x = some d ∧ look ρ y = some e ∧ qB .mul d e = some r ∧ R r := ⟨_, _, _, h1, h2, by rw [qB_eq]; unfold binD; simp only; rw [if_pos h], q⟩
theorem lf_fdiv {a b : Int} (h1 : look ρ x = some (.int a)) (h2 : look ρ y = some (.int b)) (h : 0 < b ∧ b.natAbs.log2 < 9000) (q : R (.v (.int (a / b)))) : ∃ d e r, look ρ x = some d ∧ look ρ y = some e ∧ qB .fdiv d e = some r ∧ R r := ⟨_, _, _, h1, h2, by rw [qB_eq]; unfold binD; simp only; rw [if_pos h], q⟩
theorem lf_mod {a b : Int} (h1 : look ρ x = some (.int a)) (h2 : look ρ y = some (.int b)) (h : 0 < b) (q : R (.v (.int (a % b)))) : ∃ d e r, look ρ x = some d ∧ look ρ y = some e ∧ qB .mod d e = some r ∧ R r := ⟨_, _, _, h1, h2, by rw [qB_eq]; unfold binD; simp only; rw [if_pos h], q⟩
theorem lf_bin {op : Bop} {d e : D} {r : Vr} (h3 : qB op d e = some r) (h1 : look ρ x = some d) (h2 : look ρ y = some e) (q : R r) : ∃ d e r, look ρ x = some d ∧ look ρ y = some e ∧ qB op d e = some r ∧ R r := ⟨_, _, _, h1, h2, h3, q⟩
theorem lf_cmp {op : Cop} {d e : D} {r : Bool} (h3 : qC op d e = some r) (h1 : look ρ x = some d) (h2 : look ρ y = some e) (q : B r) : ∃ d e r, look ρ x = some d ∧ look ρ y = some e ∧ qC op d e = some r ∧ B r := ⟨_, _, _, h1, h2, h3, q⟩
theorem lf_lt_int {a b : Int} (h1 : look ρ x = some (.int a)) (h2 : look ρ y = some (.int b)) (q : B ((decide (a < b)))) : ∃ d e r, look ρ x = some d ∧ look ρ y = some e ∧ qC .lt d e = some r ∧ B r := ⟨_, _, _, h1, h2, (by first | (rw [qB_eq]; rfl) | (rw [qC_eq]; rfl) | rfl), q⟩
theorem lf_gt_int {a b : Int} (h1 : look ρ x = some (.int a)) (h2 : look ρ y = some (.int b)) (q : B ((decide (b < a)))) : ∃ d e r, look ρ x = some d ∧ look ρ y = some e ∧ qC .gt d e = some r ∧ B r := ⟨_, _, _, h1, h2, (by first | (rw [qB_eq]; rfl) | (rw [qC_eq]; rfl) | rfl), q⟩
theorem lf_le_int {a b : Int} (h1 : look ρ x = some (.int a)) (h2 : look ρ y = some (.int b)) (q : B ((decide (a ≤ b)))) : ∃ d e r, look ρ x = some d ∧ look ρ y = some e ∧ qC .le d e = some r ∧ B r := ⟨_, _, _, h1, h2, (by first | (rw [qB_eq]; rfl) | (rw [qC_eq]; rfl) | rfl), q⟩
theorem lf_ge_int {a b : Int} (h1 : look ρ x = some (.int a)) (h2 : look ρ y = some (.int b)) (q : B ((decide (b ≤ a)))) : ∃ d e r, look ρ x = some d ∧ look ρ y = some e ∧ qC .ge d e = some r ∧ B r := ⟨_, _, _, h1, h2, (by first | (rw [qB_eq]; rfl) | (rw [qC_eq]; rfl) | rfl), q⟩
theorem c_eq_int {a b : Int} : qC .eq (.int a) (.int b) = some (decide (a = b)) := by simp [qC_eq, cmpD, eqv, flat, eqD, DEP]; rfl
theorem c_ne_int {a b : Int} : qC .ne (.int a) (.int b) = some (!decide (a = b)) := by simp [qC_eq, cmpD, eqv, flat, eqD, DEP]; rfl
theorem c_eq_str {a b : List Nat} : qC .eq (.str a) (.str b) = some (decide (a = b)) := by simp [qC_eq, cmpD, eqv, flat, eqD, DEP]
theorem c_ne_str {a b : List Nat} : qC .ne (.str a) (.str b) = some (!decide (a = b)) := by simp [qC_eq, cmpD, eqv, flat, eqD, DEP]
theorem lf_eq_int {a b : Int} (h1 : look ρ x = some (.int a)) (h2 : look ρ y = some (.int b)) (q : B ((decide (a = b)))) : ∃ d e r, look ρ x = some d ∧ look ρ y = some e ∧ qC .eq d e = some r ∧ B r := ⟨_, _, _, h1, h2, c_eq_int, q⟩
theorem lf_ne_int {a b : Int} (h1 : look ρ x = some (.int a)) (h2 : look ρ y = some (.int b)) (q : B ((!decide (a = b)))) : ∃ d e r, look ρ x = some d ∧ look ρ y = some e ∧ qC .ne d e = some r ∧ B r := ⟨_, _, _, h1, h2, c_ne_int, q⟩
theorem lf_eq_str {a b : List Nat} (h1 : look ρ x = some (.str a)) (h2 : look ρ y = some (.str b)) (q : B ((decide (a = b)))) : ∃ d e r, look ρ x = some d ∧ look ρ y = some e ∧ qC .eq d e = some r ∧ B r := ⟨_, _, _, h1, h2, c_eq_str, q⟩
theorem lf_ne_str {a b : List Nat} (h1 : look ρ x = some (.str a)) (h2 : look ρ y = some (.str b)) (q : B ((!decide (a = b)))) : ∃ d e r, look ρ x = some d ∧ look ρ y = some e ∧ qC .ne d e = some r ∧ B r := ⟨_, _, _, h1, h2, c_ne_str, q⟩
theorem lf_is_non {a : D} (h1 : look ρ x = some a) (h2 : look ρ y = some .non) (h3 : ∀ b, a ≠ .bl b) (q : B ((isNonD a))) : ∃ d e r, look ρ x = some d ∧ look ρ y = some e ∧ qC .is d e = some r ∧ B r := ⟨_, _, _, h1, h2, by rw [qC_eq]; cases a <;> first | rfl | exact absurd rfl (h3 _), q⟩
theorem lf_isnot_non {a : D} (h1 : look ρ x = some a) (h2 : look ρ y = some .non) (h3 : ∀ b, a ≠ .bl b) (q : B ((!isNonD a))) : ∃ d e r, look ρ x = some d ∧ look ρ y = some e ∧ qC .isnot d e = some r ∧ B r := ⟨_, _, _, h1, h2, by rw [qC_eq]; cases a <;> first | rfl | exact absurd rfl (h3 _), q⟩
theorem lf_isin_ch {c : Nat} {l : List Nat} (h1 : look ρ x = some (.str [c])) (h2 : look ρ y = some (.str l)) (q : B ((decide (c ∈ l)))) : ∃ d e r, look ρ x = some d ∧ look ρ y = some e ∧ qC .isin d e = some r ∧ B r := ⟨_, _, _, h1, h2, (by first | (rw [qB_eq]; rfl) | (rw [qC_eq]; rfl) | rfl), q⟩
theorem lf_notin_ch {c : Nat} {l : List Nat} (h1 : look ρ x = some (.str [c])) (h2 : look ρ y = some (.str l)) (q : B ((!decide (c ∈ l)))) : ∃ d e r, look ρ x = some d ∧ look ρ y = some e ∧ qC .notin d e = some r ∧ B r := ⟨_, _, _, h1, h2, (by first | (rw [qB_eq]; rfl) | (rw [qC_eq]; rfl) | rfl), q⟩
theorem lf_sub {d e r : D} (h3 : subD d e = some r) (h1 : look ρ x = some d) (h2 : look ρ y = some e) (q : C r) : ∃ d e r, look ρ x = some d ∧ look ρ y = some e ∧ subD d e = some r ∧ C r := ⟨_, _, _, h1, h2, h3, q⟩
theorem lf_rev {d : D} {r : Vr} (h3 : revD d (.int (-1)) = some r) (h1 : look ρ x = some d) (h2 : look ρ y = some (.int (-1))) (q : R r) : ∃ d j r, look ρ x = some d ∧ look ρ y = some (.int j) ∧ revD d (.int j) = some r ∧ R r := ⟨_, _, _, h1, h2, h3, q⟩
theorem lf_bi {rs : List Vr} {f : Bi} {ds : List D} {r : Vr} (h2 : biD f ds = some r) (h1 : lookAll ρ rs = some ds) (q : R r) : ∃ ds r, lookAll ρ rs = some ds ∧ biD f ds = some r ∧ R r := ⟨_, _, h1, h2, q⟩
theorem lf_mt {rs : List Vr} {m : Mt} {d : D} {ds : List D} {r : Vr} (h3 : mtD m d ds = some r) (h1 : look ρ x = some d) (h2 : lookAll ρ rs = some ds) (q : R r) : ∃ d' ds r, look ρ x = some d' ∧ lookAll ρ rs = some ds ∧ mtD m d' ds = some r ∧ R r := ⟨_, _, _, h1, h2, h3, q⟩
end
theorem sub_nat {xs : List D} {n : Nat} (h : n < xs.length) : subD (.lst xs) (.int (n : Int)) = some xs[n] := by
  unfold subD ixN
  simp only
  rw [if_pos (Int.natCast_nonneg n), if_pos (by omega)]
  simp only [Int.toNat_natCast]
  exact List.getElem?_eq_getElem h
theorem ix_nat {m n : Nat} (h : n < m) : ixN m (n : Int) = some n := by
  unfold ixN
  rw [if_pos (Int.natCast_nonneg n), if_pos (by omega), Int.toNat_natCast]
theorem sub_str {l : List Nat} {n : Nat} (h : n < l.length) : subD (.str l) (.int (n : Int)) = some (.str [l[n]]) := by
  unfold subD
  simp only [ix_nat h]
  rw [List.getElem?_eq_getElem h]
theorem sub_tup {xs : List D} {n : Nat} (h : n < xs.length) : subD (.tup xs) (.int (n : Int)) = some xs[n] := by
  unfold subD
  simp only [ix_nat h]
  exact List.getElem?_eq_getElem h
theorem sub_m1 {xs : List D} (h : 0 < xs.length) : subD (.lst xs) (.int (-1)) = some (xs[xs.length - 1]) := by
  unfold subD ixN
  simp only
  rw [if_neg (by omega), if_pos (by omega)]
  simp only
  rw [show ((-1 : Int) + (xs.length : Int)).toNat = xs.length - 1 by omega]
  exact List.getElem?_eq_getElem (by omega)
theorem call_of {r : CR} {n : Nat} {o : Bool} {d : D} {outs : List Sl} {Q : Bool → D → List Sl → Prop} (e : r = .ret o d outs) (h : outs.length = n) (q : Q o d outs) : r.Ok fun o d outs => outs.length = n ∧ Q o d outs := ⟨o, d, outs, e, h, q⟩
theorem no_ft {P : Prop} (h : false = true) : P := nomatch h
theorem no_tf {P : Prop} (h : true = false) : P := nomatch h
theorem nd_t {p : Prop} [Decidable p] (h : (!decide p) = true) : ¬ p := by simpa using h
theorem nd_f {p : Prop} [Decidable p] (h : (!decide p) = false) : p := by simpa using h
theorem cl_intro {pm : List Nat} {l : List Vr} {ρ : En} {R : List Vr → List Sl → En → Prop} {qs : List Vr} {sl : List Sl} (h1 : pick pm l = some qs) (h2 : frzDup qs ρ = ρ) (h3 : argsOf ρ qs = some sl) (h : R qs sl ρ) : ∃ qs sl ρ3, pick pm l = some qs ∧ frzDup qs ρ = ρ3 ∧ argsOf ρ3 qs = some sl ∧ R qs sl ρ3 := ⟨_, _, _, h1, h2, h3, h⟩
theorem lim_intro {n : Nat} {P : Prop} (h : n ≤ LIM) (q : P) : n ≤ LIM ∧ P := ⟨h, q⟩
end Ev


set_option Elab.async false
set_option linter.all false
set_option maxRecDepth 100000
set_option maxHeartbeats 8000000
/-! X0: the defs of a law, printed by gendf.py. Own work. -/
namespace Ev
def bd2 : Df := ⟨3, 3, [], (.cons (.iff (.not (.val (.call 1 [0, 1, 2] (.cons (.var 0) (.cons (.var 1) (.cons (.var 2) .nil))) .nil))) (.cons .bad .nil) .nil) .nil)⟩
def bd8 : Df := ⟨2, 2, [], (.cons (.ret (.bin .add (.bin .add (.sl true false (.var 0) (.bin .add (.var 1) (.lit (.int 1))) (.lit .non)) (.sub (.var 0) (.var 1))) (.sl false true (.var 0) (.lit .non) (.var 1)))) .nil)⟩
def be9_0 : E := (.var 2)
def bt9_0 : Ts := (.cons (.not (.val (.call 1 [0, 1, 2] (.cons (.var 2) (.cons (.lit (.int 0)) (.cons (.bin .sub (.var 0) (.lit (.int 1))) .nil))) .nil))) .nil)
def bl9_0 : E := (.lc be9_0 [2] (.seq (.var 1)) bt9_0 [2])
def bd9 : Df := ⟨2, 3, [], (.cons (.ret (.and (.bi .islist (.cons (.var 1) .nil)) (.cmp .eq bl9_0 (.lst .nil)))) .nil)⟩
def bd10 : Df := ⟨2, 2, [], (.cons (.iff (.not (.val (.call 9 [0, 1] (.cons (.var 0) (.cons (.var 1) .nil)) .nil))) (.cons .bad .nil) .nil) .nil)⟩
def bb11_0 : Ss := (.cons (.set 2 (.bin .add (.bin .add (.sl true false (.var 2) (.bin .add (.var 3) (.lit (.int 1))) (.lit .non)) (.lst (.cons (.sub (.var 2) (.var 3)) .nil))) (.sl false true (.var 2) (.lit .non) (.var 3)))) .nil)
def bd11 : Df := ⟨2, 4, [], (.cons (.set 2 (.lrng1 (.var 0))) (.cons (.for [3] (.seq (.var 1)) bb11_0) (.cons (.ret (.var 2)) .nil)))⟩
def be12_0 : E := (.sub (.var 0) (.var 2))
def bl12_0 : E := (.lc be12_0 [2] (.seq (.var 1)) .nil [2])
def bd12 : Df := ⟨2, 3, [], (.cons (.ret (.mth .join (.lit (.str [])) (.cons bl12_0 .nil))) .nil)⟩
def bd13 : Df := ⟨2, 2, [], (.cons (.expr (.call 4 [0] (.cons (.var 0) .nil) .nil)) (.cons (.expr (.call 10 [0, 1] (.cons (.bi .len (.cons (.var 0) .nil)) (.cons (.var 1) .nil)) .nil)) (.cons (.ret (.call 12 [0, 1] (.cons (.var 0) (.cons (.call 11 [0, 1] (.cons (.bi .len (.cons (.var 0) .nil)) (.cons (.var 1) .nil)) .nil) .nil)) .nil)) .nil)))⟩
def bb14_0 : Ss := (.cons (.par [4, 5] (.cons (.var 3) (.cons (.lst .nil) .nil))) (.cons (.while (.val (.cmp .notin (.var 4) (.var 1))) (.cons (.put (.var 1) (.var 4) (.lit (.bl true))) (.cons (.expr (.mth .append (.var 5) (.cons (.var 4) .nil))) (.cons (.set 4 (.sub (.var 0) (.var 4))) .nil)))) (.cons (.iff (.val (.cmp .ne (.var 5) (.lst .nil))) (.cons (.expr (.mth .append (.var 2) (.cons (.var 5) .nil))) .nil) .nil) .nil)))
def bd14 : Df := ⟨1, 6, [], (.cons (.par [1, 2] (.cons .dict0 (.cons (.lst .nil) .nil))) (.cons (.for [3] (.rng1 (.bi .len (.cons (.var 0) .nil))) bb14_0) (.cons (.ret (.var 2)) .nil)))⟩
def bb15_0 : Ss := (.cons (.put (.var 2) (.var 5) (.sub (.var 3) (.bin .mod (.bin .add (.var 4) (.var 1)) (.bi .len (.cons (.var 3) .nil))))) .nil)
def bb15_1 : Ss := (.cons (.for [4, 5] (.enum (.var 3)) bb15_0) .nil)
def bd15 : Df := ⟨2, 6, [], (.cons (.set 2 (.bi .list (.cons (.var 0) .nil))) (.cons (.for [3] (.seq (.call 14 [0] (.cons (.var 0) .nil) .nil)) bb15_1) (.cons (.ret (.var 2)) .nil)))⟩
def bb16_0 : Ss := (.cons (.set 1 (.bin .mul (.bin .fdiv (.var 1) (.bi .gcd (.cons (.var 1) (.cons (.var 2) .nil)))) (.var 2))) .nil)
def bd16 : Df := ⟨1, 3, [], (.cons (.set 1 (.lit (.int 1))) (.cons (.for [2] (.seq (.var 0)) bb16_0) (.cons (.ret (.var 1)) .nil)))⟩
def bd17 : Df := ⟨2, 2, [], (.cons (.expr (.call 4 [0] (.cons (.var 0) .nil) .nil)) (.cons (.expr (.call 7 [0] (.cons (.var 1) .nil) .nil)) .nil))⟩
def bd18 : Df := ⟨3, 3, [], (.cons (.ret (.and (.call 1 [0, 1, 2] (.cons (.var 2) (.cons (.lit (.int 0)) (.cons (.bin .sub (.bi .len (.cons (.var 0) .nil)) (.lit (.int 1))) .nil))) .nil) (.cmp .isin (.sub (.var 0) (.var 2)) (.var 1)))) .nil)⟩
def bb19_0 : Ss := (.cons (.iff (.not (.val (.call 18 [0, 1, 2] (.cons (.sub (.var 3) (.lit (.int (-1)))) (.cons (.var 1) (.cons (.var 4) .nil))) .nil))) (.cons (.ret (.lit .non)) .nil) .nil) (.cons (.expr (.mth .append (.var 3) (.cons (.call 8 [0, 1] (.cons (.sub (.var 3) (.lit (.int (-1)))) (.cons (.var 4) .nil)) .nil) .nil))) .nil))
def bd19 : Df := ⟨3, 5, [], (.cons (.iff (.not (.val (.bi .islist (.cons (.var 2) .nil)))) (.cons (.ret (.lit .non)) .nil) .nil) (.cons (.set 3 (.lst (.cons (.var 0) .nil))) (.cons (.for [4] (.seq (.var 2)) bb19_0) (.cons (.ret (.var 3)) .nil))))⟩
def bd20 : Df := ⟨3, 4, [], (.cons (.expr (.call 17 [0, 1] (.cons (.var 0) (.cons (.var 1) .nil)) .nil)) (.cons (.set 3 (.call 19 [0, 1, 2] (.cons (.var 0) (.cons (.var 1) (.cons (.var 2) .nil))) .nil)) (.cons (.iff (.val (.cmp .is (.var 3) (.lit .non))) (.cons .bad .nil) .nil) (.cons (.ret (.var 3)) .nil))))⟩
def bd21 : Df := ⟨3, 3, [], (.cons (.ret (.sub (.call 20 [0, 1, 2] (.cons (.var 0) (.cons (.var 1) (.cons (.var 2) .nil))) .nil) (.lit (.int (-1))))) .nil)⟩
def bd22 : Df := ⟨2, 2, [], (.cons (.expr (.call 4 [0] (.cons (.var 0) .nil) .nil)) (.cons (.expr (.call 7 [0] (.cons (.var 1) .nil) .nil)) .nil))⟩
def bb23_0 : Ss := (.cons (.iff (.val (.cmp .isin (.var 4) (.var 1))) (.cons (.set 2 (.bin .add (.var 2) (.var 4))) (.cons (.expr (.mth .append (.var 3) (.cons (.lit (.str [])) .nil))) .nil)) (.cons (.put (.var 3) (.lit (.int (-1))) (.bin .add (.sub (.var 3) (.lit (.int (-1)))) (.var 4))) .nil)) .nil)
def bd23 : Df := ⟨2, 5, [], (.cons (.par [2, 3] (.cons (.lit (.str [])) (.cons (.lst (.cons (.lit (.str [])) .nil)) .nil))) (.cons (.for [4] (.seq (.var 0)) bb23_0) (.cons (.ret (.tup (.cons (.var 2) (.cons (.var 3) .nil)))) .nil)))⟩
def bd24 : Df := ⟨2, 2, [], (.cons (.iff (.not (.val (.call 9 [0, 1] (.cons (.var 0) (.cons (.var 1) .nil)) .nil))) (.cons .bad .nil) .nil) .nil)⟩
def be25_0 : E := (.bin .add (.var 1) (.lit (.int 1)))
def bl25_0 : E := (.lc be25_0 [1] (.seq (.var 0)) .nil [1])
def bd25 : Df := ⟨1, 2, [], (.cons (.ret (.bi .sum (.cons bl25_0 .nil))) .nil)⟩
def bb26_0 : Ss := (.cons (.set 4 (.bin .add (.bin .add (.var 4) (.sub (.var 0) (.var 6))) (.sub (.var 1) (.bin .mod (.bin .add (.bin .add (.var 5) (.lit (.int 1))) (.var 3)) (.bi .len (.cons (.var 1) .nil)))))) .nil)
def bd26 : Df := ⟨4, 7, [], (.cons (.set 4 (.sub (.var 1) (.bin .mod (.var 3) (.bi .len (.cons (.var 1) .nil))))) (.cons (.for [5, 6] (.enum (.var 2)) bb26_0) (.cons (.ret (.var 4)) .nil)))⟩
def bd27 : Df := ⟨3, 5, [], (.cons (.expr (.call 22 [0, 1] (.cons (.var 0) (.cons (.var 1) .nil)) .nil)) (.cons (.unp [3, 4] (.call 23 [0, 1] (.cons (.var 0) (.cons (.var 1) .nil)) .nil)) (.cons (.expr (.call 24 [0, 1] (.cons (.bi .len (.cons (.var 3) .nil)) (.cons (.var 2) .nil)) .nil)) (.cons (.ret (.call 26 [0, 1, 2, 3] (.cons (.var 3) (.cons (.var 4) (.cons (.call 11 [0, 1] (.cons (.bi .len (.cons (.var 3) .nil)) (.cons (.var 2) .nil)) .nil) (.cons (.call 25 [0] (.cons (.var 2) .nil) .nil) .nil)))) .nil)) .nil))))⟩
def bd28_5 : Ss := .cons (.ret (.call 26 [0, 1, 2, 3] (.cons (.var 4) (.cons (.var 5) (.cons (.var 6) (.cons (.bin .mul (.call 25 [0] (.cons (.var 2) .nil) .nil) (.var 3)) .nil)))) .nil)) .nil
def bd28_4 : Ss := .cons (.set 6 (.call 15 [0, 1] (.cons (.call 11 [0, 1] (.cons (.bi .len (.cons (.var 4) .nil)) (.cons (.var 2) .nil)) .nil) (.cons (.var 3) .nil)) .nil)) bd28_5
def bd28_3 : Ss := .cons (.expr (.call 2 [0, 1, 2] (.cons (.var 3) (.cons (.lit (.int 0)) (.cons (.lit .non) .nil))) .nil)) bd28_4
def bd28_2 : Ss := .cons (.expr (.call 24 [0, 1] (.cons (.bi .len (.cons (.var 4) .nil)) (.cons (.var 2) .nil)) .nil)) bd28_3
def bd28_1 : Ss := .cons (.unp [4, 5] (.call 23 [0, 1] (.cons (.var 0) (.cons (.var 1) .nil)) .nil)) bd28_2
def bd28_0 : Ss := .cons (.expr (.call 22 [0, 1] (.cons (.var 0) (.cons (.var 1) .nil)) .nil)) bd28_1
def bd28 : Df := ⟨4, 7, [], bd28_0⟩
def be29_0 : E := (.var 7)
def bt29_0 : Ts := (.cons (.val (.cmp .isin (.var 7) (.var 1))) .nil)
def bl29_0 : E := (.lc be29_0 [7] (.seq (.sl false true (.var 5) (.lit .non) (.var 6))) bt29_0 [7])
def bb29_1 : Ss := (.cons (.expr (.mth .append (.var 4) (.cons (.bi .len (.cons bl29_0 .nil)) .nil))) .nil)
def bd29_5 : Ss := .cons (.ret (.var 4)) .nil
def bd29_4 : Ss := .cons (.for [5, 6] (.zip (.var 3) (.var 2)) bb29_1) bd29_5
def bd29_3 : Ss := .cons (.set 4 (.lst .nil)) bd29_4
def bd29_2 : Ss := .cons (.iff (.val (.cmp .is (.var 3) (.lit .non))) (.cons .bad .nil) .nil) bd29_3
def bd29_1 : Ss := .cons (.set 3 (.call 19 [0, 1, 2] (.cons (.var 0) (.cons (.var 1) (.cons (.var 2) .nil))) .nil)) bd29_2
def bd29_0 : Ss := .cons (.expr (.call 22 [0, 1] (.cons (.var 0) (.cons (.var 1) .nil)) .nil)) bd29_1
def bd29 : Df := ⟨3, 8, [], bd29_0⟩
def be30_0 : E := (.var 6)
def bt30_0 : Ts := (.cons (.val (.cmp .isin (.var 7) (.var 1))) .nil)
def bl30_0 : E := (.lc be30_0 [6, 7] (.enum (.var 0)) bt30_0 [6, 7])
def bb30_1 : Ss := (.cons (.set 5 (.sub bl30_0 (.var 4))) (.cons (.expr (.mth .append (.var 3) (.cons (.var 5) .nil))) (.cons (.set 0 (.bin .add (.bin .add (.sl true false (.var 0) (.bin .add (.var 5) (.lit (.int 1))) (.lit .non)) (.sub (.var 0) (.var 5))) (.sl false true (.var 0) (.lit .non) (.var 5)))) .nil)))
def bd30 : Df := ⟨3, 8, [0], (.cons (.expr (.call 22 [0, 1] (.cons (.var 0) (.cons (.var 1) .nil)) .nil)) (.cons (.expr (.call 24 [0, 1] (.cons (.bi .len (.cons (.sub (.call 23 [0, 1] (.cons (.var 0) (.cons (.var 1) .nil)) .nil) (.lit (.int 0))) .nil)) (.cons (.var 2) .nil)) .nil)) (.cons (.set 3 (.lst .nil)) (.cons (.for [4] (.seq (.var 2)) bb30_1) (.cons (.ret (.var 3)) .nil)))))⟩
def be31_0 : E := (.bi .len (.cons (.var 4) .nil))
def bl31_0 : E := (.lc be31_0 [4] (.seq (.call 14 [0] (.cons (.call 11 [0, 1] (.cons (.var 0) (.cons (.var 1) .nil)) .nil) .nil) .nil)) .nil [4])
def bd31 : Df := ⟨2, 5, [], (.cons (.expr (.call 2 [0, 1, 2] (.cons (.var 0) (.cons (.lit (.int 0)) (.cons (.lit (.int 60)) .nil))) .nil)) (.cons (.expr (.call 24 [0, 1] (.cons (.var 0) (.cons (.var 1) .nil)) .nil)) (.cons (.par [2, 3] (.cons (.lit (.int 1)) (.cons (.bin .mod (.call 25 [0] (.cons (.var 1) .nil) .nil) (.bin .add (.var 0) (.lit (.int 1)))) .nil))) (.cons (.while (.val (.cmp .ne (.bin .mod (.bin .mul (.var 3) (.var 2)) (.bin .add (.var 0) (.lit (.int 1)))) (.lit (.int 0)))) (.cons (.set 2 (.bin .add (.var 2) (.lit (.int 1)))) .nil)) (.cons (.ret (.call 16 [0] (.cons (.bin .add bl31_0 (.lst (.cons (.var 2) .nil))) .nil) .nil)) .nil)))))⟩
def be36_0 : E := (.sub (.var 1) (.call 33 [0, 1] (.cons (.var 0) (.cons (.bi .len (.cons (.var 1) .nil)) .nil)) .nil))
def bl36_0 : E := (.lc be36_0 [3] (.rng1 (.var 2)) .nil [3])
def bd36 : Df := ⟨3, 4, [], (.cons (.ret (.mth .join (.lit (.str [])) (.cons bl36_0 .nil))) .nil)⟩
def bd37 : Df := ⟨2, 2, [], (.cons (.ret (.bin .add (.bin .add (.sl true false (.var 0) (.bin .add (.var 1) (.lit (.int 1))) (.lit .non)) (.sub (.var 0) (.var 1))) (.sl false true (.var 0) (.lit .non) (.var 1)))) .nil)⟩
def be38_0 : E := (.lit (.int 1))
def bt38_0 : Ts := (.cons (.not (.val (.call 38 [0, 1] (.cons (.var 2) (.cons (.var 3) .nil)) .nil))) .nil)
def bl38_0 : E := (.lc be38_0 [2, 3] (.zip (.var 0) (.var 1)) bt38_0 [2, 3])
def bd38 : Df := ⟨2, 4, [], (.cons (.iff (.val (.bi .isseq (.cons (.var 1) .nil))) (.cons (.iff (.or (.val (.cmp .ne (.bi .islist (.cons (.var 0) .nil)) (.bi .islist (.cons (.var 1) .nil)))) (.val (.cmp .ne (.bi .istuple (.cons (.var 0) .nil)) (.bi .istuple (.cons (.var 1) .nil))))) (.cons (.ret (.lit (.bl false))) .nil) .nil) (.cons (.iff (.val (.cmp .ne (.bi .len (.cons (.var 0) .nil)) (.bi .len (.cons (.var 1) .nil)))) (.cons (.ret (.lit (.bl false))) .nil) .nil) (.cons (.ret (.cmp .eq bl38_0 (.lst .nil))) .nil))) .nil) (.cons (.iff (.val (.cmp .is (.var 1) (.lit .non))) (.cons (.ret (.cmp .is (.var 0) (.lit .non))) .nil) .nil) (.cons (.iff (.val (.bi .isstr (.cons (.var 1) .nil))) (.cons (.ret (.and (.bi .isstr (.cons (.var 0) .nil)) (.cmp .eq (.var 0) (.var 1)))) .nil) .nil) (.cons (.iff (.val (.cmp .ne (.bi .isbool (.cons (.var 0) .nil)) (.bi .isbool (.cons (.var 1) .nil)))) (.cons (.ret (.lit (.bl false))) .nil) .nil) (.cons (.ret (.and (.bi .isint (.cons (.var 0) .nil)) (.cmp .eq (.var 0) (.var 1)))) .nil)))))⟩
def be39_0 : E := (.call 36 [0, 1, 2] (.cons (.var 0) (.cons (.lit (.str [97, 98, 99])) (.cons (.bin .mul (.call 33 [0, 1] (.cons (.var 0) (.cons (.lit (.int 4)) .nil)) .nil) (.bi .int (.cons (.cmp .gt (.call 33 [0, 1] (.cons (.var 0) (.cons (.lit (.int 3)) .nil)) .nil) (.lit (.int 0))) .nil))) .nil))) .nil)
def bl39_0 : E := (.lc be39_0 [4] (.rng1 (.bin .add (.var 2) (.lit (.int 1)))) .nil [4])
def bd39 : Df := ⟨3, 5, [], (.cons (.set 3 bl39_0) (.cons (.ret (.lst (.cons (.call 36 [0, 1, 2] (.cons (.var 0) (.cons (.var 1) (.cons (.var 2) .nil))) .nil) (.cons (.var 3) .nil)))) .nil))⟩
def bb40_0 : Ss := (.cons (.set 2 (.bin .add (.bin .add (.var 2) (.var 4)) (.sub (.var 1) (.bin .add (.var 3) (.lit (.int 1)))))) .nil)
def bd40 : Df := ⟨2, 5, [], (.cons (.set 2 (.sub (.var 1) (.lit (.int 0)))) (.cons (.for [3, 4] (.enum (.var 0)) bb40_0) (.cons (.ret (.var 2)) .nil)))⟩
def be41_0 : E := (.var 2)
def bt41_0 : Ts := (.cons (.val (.cmp .isin (.var 3) (.var 1))) .nil)
def bl41_0 : E := (.lc be41_0 [2, 3] (.enum (.var 0)) bt41_0 [2, 3])
def bd41 : Df := ⟨2, 4, [], (.cons (.ret bl41_0) .nil)⟩
def bb42_0 : Ss := (.cons (.set 5 (.sub (.call 41 [0, 1] (.cons (.var 0) (.cons (.var 1) .nil)) .nil) (.var 4))) (.cons (.par [0, 3] (.cons (.call 37 [0, 1] (.cons (.var 0) (.cons (.var 5) .nil)) .nil) (.cons (.bin .add (.var 3) (.lst (.cons (.var 5) .nil))) .nil))) .nil))
def bd42 : Df := ⟨3, 6, [0], (.cons (.set 3 (.lst .nil)) (.cons (.for [4] (.seq (.var 2)) bb42_0) (.cons (.ret (.lst (.cons (.var 0) (.cons (.var 3) .nil)))) .nil)))⟩
def be43_0 : E := (.call 33 [0, 1] (.cons (.var 0) (.cons (.var 2) .nil)) .nil)
def bl43_0 : E := (.lc be43_0 [7] (.rng1 (.call 33 [0, 1] (.cons (.var 0) (.cons (.lit (.int 10)) .nil)) .nil)) .nil [7])
def be43_1 : E := (.bin .add (.var 11) (.lit (.int 1)))
def bl43_1 : E := (.lc be43_1 [11] (.seq (.var 6)) .nil [11])
def bd43_12 : Ss := .cons (.ret (.and (.call 44 [0, 1, 2, 3] (.cons (.var 0) (.cons (.var 5) (.cons (.var 1) (.cons (.lst .nil) .nil)))) .nil) (.call 45 [0, 1, 2, 3] (.cons (.var 0) (.cons (.var 5) (.cons (.var 1) (.cons (.var 6) .nil)))) .nil))) .nil
def bd43_11 : Ss := .cons (.iff (.or (.val (.cmp .ne (.call 27 [2, 1, 0] .nil (.cons (.var 6) (.cons (.var 1) (.cons (.var 5) .nil)))) (.sub (.var 9) (.lit (.int 0))))) (.val (.cmp .ne (.call 30 [2, 1, 0] .nil (.cons (.var 6) (.cons (.var 1) (.cons (.var 5) .nil)))) (.sub (.var 9) (.lit (.int 1)))))) (.cons (.ret (.lit (.bl false))) .nil) .nil) bd43_12
def bd43_10 : Ss := .cons (.iff (.val (.cmp .ne (.call 40 [0, 1] (.cons (.call 13 [0, 1] (.cons (.var 3) (.cons (.var 6) .nil)) .nil) (.cons (.bin .add (.sl true false (.var 4) (.var 7) (.lit .non)) (.sl false true (.var 4) (.lit .non) (.var 7))) .nil)) .nil) (.sub (.var 9) (.lit (.int 0))))) (.cons (.ret (.lit (.bl false))) .nil) .nil) bd43_11
def bd43_9 : Ss := .cons (.set 7 (.bin .mod (.bi .int (.cons (.bi .sum (.cons bl43_1 .nil)) .nil)) (.bin .add (.var 2) (.lit (.int 1))))) bd43_10
def bd43_8 : Ss := .cons (.iff (.or (.not (.val (.call 38 [0, 1] (.cons (.call 29 [0, 1, 2] (.cons (.var 5) (.cons (.var 1) (.cons (.sub (.var 9) (.lit (.int 1))) .nil))) .nil) (.cons (.var 6) .nil)) .nil))) (.val (.cmp .ne (.call 21 [0, 1, 2] (.cons (.var 5) (.cons (.var 1) (.cons (.sub (.var 9) (.lit (.int 1))) .nil))) .nil) (.sub (.var 9) (.lit (.int 0)))))) (.cons (.ret (.lit (.bl false))) .nil) .nil) bd43_9
def bd43_7 : Ss := .cons (.iff (.or (.not (.val (.call 38 [0, 1] (.cons (.var 10) (.cons (.var 9) .nil)) .nil))) (.val (.cmp .ne (.var 8) (.var 6)))) (.cons (.ret (.lit (.bl false))) .nil) .nil) bd43_8
def bd43_6 : Ss := .cons (.set 10 (.lst (.cons (.call 27 [0, 1, 2] (.cons (.var 5) (.cons (.var 1) (.cons (.var 8) .nil))) .nil) (.cons (.call 30 [0, 1, 2] (.cons (.var 5) (.cons (.var 1) (.cons (.var 8) .nil))) .nil) .nil)))) bd43_7
def bd43_5 : Ss := .cons (.par [8, 9] (.cons (.bi .list (.cons (.var 6) .nil)) (.cons (.call 42 [0, 1, 2] (.cons (.var 5) (.cons (.var 1) (.cons (.var 6) .nil))) .nil) .nil))) bd43_6
def bd43_4 : Ss := .cons (.set 6 (.ifx (.val (.cmp .gt (.var 2) (.lit (.int 0)))) bl43_0 (.lst .nil))) bd43_5
def bd43_3 : Ss := .cons (.set 5 (.call 40 [0, 1] (.cons (.var 3) (.cons (.var 4) .nil)) .nil)) bd43_4
def bd43_2 : Ss := .cons (.unp [3, 4] (.call 39 [0, 1, 2] (.cons (.var 0) (.cons (.var 1) (.cons (.var 2) .nil))) .nil)) bd43_3
def bd43_1 : Ss := .cons (.set 2 (.call 33 [0, 1] (.cons (.var 0) (.cons (.lit (.int 8)) .nil)) .nil)) bd43_2
def bd43_0 : Ss := .cons (.set 1 (.sub (.lst (.cons (.lit (.str [120])) (.cons (.lit (.str [120, 121])) (.cons (.lit (.str [100, 120, 121, 122])) (.cons (.lit (.str [120, 122])) .nil))))) (.call 33 [0, 1] (.cons (.var 0) (.cons (.lit (.int 4)) .nil)) .nil))) bd43_1
def bd43 : Df := ⟨1, 12, [], bd43_0⟩
def bb44_0 : Ss := (.cons (.set 6 (.call 41 [0, 1] (.cons (.var 4) (.cons (.var 2) .nil)) .nil)) (.cons (.iff (.val (.cmp .ne (.var 6) (.lst .nil))) (.cons (.set 3 (.bin .add (.var 3) (.lst (.cons (.sub (.var 6) (.call 33 [0, 1] (.cons (.var 0) (.cons (.bi .len (.cons (.var 6) .nil)) .nil)) .nil)) .nil)))) (.cons (.set 4 (.call 37 [0, 1] (.cons (.var 4) (.cons (.sub (.var 3) (.lit (.int (-1)))) .nil)) .nil)) .nil)) .nil) .nil))
def bd44_5 : Ss := .cons (.ret (.cmp .eq (.call 29 [0, 1, 2] (.cons (.var 1) (.cons (.var 2) (.cons (.var 3) .nil))) .nil) (.sl false true (.var 7) (.lit .non) (.bin .sub (.bi .len (.cons (.var 7) .nil)) (.lit (.int 1)))))) .nil
def bd44_4 : Ss := .cons (.expr (.mth .append (.var 7) (.cons (.lit (.int 0)) .nil))) bd44_5
def bd44_3 : Ss := .cons (.iff (.or (.val (.cmp .ne (.call 27 [0, 1, 2] (.cons (.var 1) (.cons (.var 2) (.cons (.var 7) .nil))) .nil) (.var 4))) (.val (.cmp .ne (.call 30 [0, 1, 2] (.cons (.var 1) (.cons (.var 2) (.cons (.var 7) .nil))) .nil) (.var 3)))) (.cons (.ret (.lit (.bl false))) .nil) .nil) bd44_4
def bd44_2 : Ss := .cons (.set 7 (.call 29 [2, 1, 0] .nil (.cons (.var 3) (.cons (.var 2) (.cons (.var 1) .nil))))) bd44_3
def bd44_1 : Ss := .cons (.for [5] (.rng1 (.call 33 [0, 1] (.cons (.var 0) (.cons (.lit (.int 8)) .nil)) .nil)) bb44_0) bd44_2
def bd44_0 : Ss := .cons (.set 4 (.var 1)) bd44_1
def bd44 : Df := ⟨4, 8, [3], bd44_0⟩
def bb45_0 : Ss := (.cons (.iff (.val (.cmp .ne (.call 28 [0, 1, 2, 3] (.cons (.var 1) (.cons (.var 2) (.cons (.var 3) (.cons (.var 5) .nil)))) .nil) (.var 4))) (.cons (.ret (.lit (.bl false))) .nil) .nil) (.cons (.set 4 (.call 27 [0, 1, 2] (.cons (.var 4) (.cons (.var 2) (.cons (.var 3) .nil))) .nil)) .nil))
def bd45_5 : Ss := .cons (.ret (.cmp .eq (.call 28 [0, 1, 2, 3] (.cons (.var 8) (.cons (.var 2) (.cons (.var 3) (.cons (.bin .sub (.var 6) (.bin .mod (.bi .int (.cons (.var 7) .nil)) (.var 6))) .nil)))) .nil) (.var 1))) .nil
def bd45_4 : Ss := .cons (.iff (.val (.cmp .ne (.var 8) (.call 28 [0, 1, 2, 3] (.cons (.var 1) (.cons (.var 2) (.cons (.var 3) (.cons (.bin .mod (.bi .int (.cons (.var 7) .nil)) (.var 6)) .nil)))) .nil))) (.cons (.ret (.lit (.bl false))) .nil) .nil) bd45_5
def bd45_3 : Ss := .cons (.set 8 (.call 28 [3, 2, 1, 0] .nil (.cons (.var 7) (.cons (.var 3) (.cons (.var 2) (.cons (.var 1) .nil)))))) bd45_4
def bd45_2 : Ss := .cons (.par [6, 7] (.cons (.call 31 [0, 1] (.cons (.bi .len (.cons (.call 41 [0, 1] (.cons (.var 1) (.cons (.var 2) .nil)) .nil) .nil)) (.cons (.var 3) .nil)) .nil) (.cons (.call 33 [0, 1] (.cons (.var 0) (.cons (.bin .pow (.lit (.int 10)) (.lit (.int 28))) .nil)) .nil) .nil))) bd45_3
def bd45_1 : Ss := .cons (.for [5] (.rng1 (.lit (.int 9))) bb45_0) bd45_2
def bd45_0 : Ss := .cons (.set 4 (.var 1)) bd45_1
def bd45 : Df := ⟨4, 9, [], bd45_0⟩
def be46_0 : E := (.sub (.lst (.cons (.lit (.str [120])) (.cons (.lit (.str [121])) (.cons (.lit (.str [97, 120])) (.cons (.lit (.str [120, 98])) .nil))))) (.call 33 [0, 1] (.cons (.var 0) (.cons (.lit (.int 4)) .nil)) .nil))
def bl46_0 : E := (.lc be46_0 [3] (.rng1 (.var 1)) .nil [3])
def be46_1 : E := (.call 33 [0, 1] (.cons (.var 0) (.cons (.var 1) .nil)) .nil)
def bl46_1 : E := (.lc be46_1 [3] (.rng1 (.lit (.int 3))) .nil [3])
def bd46_5 : Ss := .cons (.ret (.and (.cmp .eq (.call 28 [0, 1, 2, 3] (.cons (.var 2) (.cons (.lit (.str [120, 121])) (.cons (.var 4) (.cons (.lit (.int 1)) .nil)))) .nil) (.sub (.var 5) (.lit (.int 0)))) (.cmp .eq (.call 29 [0, 1, 2] (.cons (.var 2) (.cons (.lit (.str [120, 121])) (.cons (.sub (.var 5) (.lit (.int 1))) .nil))) .nil) (.var 4)))) .nil
def bd46_4 : Ss := .cons (.iff (.not (.val (.call 38 [0, 1] (.cons (.lst (.cons (.call 27 [0, 1, 2] (.cons (.var 2) (.cons (.lit (.str [120, 121])) (.cons (.var 4) .nil))) .nil) (.cons (.call 30 [0, 1, 2] (.cons (.var 2) (.cons (.lit (.str [120, 121])) (.cons (.var 4) .nil))) .nil) .nil))) (.cons (.var 5) .nil)) .nil))) (.cons (.ret (.lit (.bl false))) .nil) .nil) bd46_5
def bd46_3 : Ss := .cons (.set 5 (.call 42 [0, 1, 2] (.cons (.var 2) (.cons (.lit (.str [120, 121])) (.cons (.var 4) .nil))) .nil)) bd46_4
def bd46_2 : Ss := .cons (.set 4 bl46_1) bd46_3
def bd46_1 : Ss := .cons (.set 2 (.mth .join (.lit (.str [])) (.cons bl46_0 .nil))) bd46_2
def bd46_0 : Ss := .cons (.set 1 (.bin .add (.lit (.int 61)) (.call 33 [0, 1] (.cons (.var 0) (.cons (.lit (.int 30)) .nil)) .nil))) bd46_1
def bd46 : Df := ⟨1, 6, [], bd46_0⟩
def bb47_0 : Ss := (.cons (.iff (.not (.val (.call 43 [0] (.cons (.call 35 [0, 1] (.cons (.var 0) (.cons (.var 1) .nil)) .nil) .nil) .nil))) (.cons (.ret (.lit (.bl false))) .nil) .nil) .nil)
def bd47_6 : Ss := .cons (.ret (.cmp .eq (.bi .repr (.cons (.var 3) .nil)) (.bi .repr (.cons (.lst (.cons (.lit (.str [98, 121, 99, 120, 97])) (.cons (.lit (.str [98, 120, 99, 121, 97])) (.cons (.lst (.cons (.lit (.int 1)) (.cons (.lit (.int 3)) .nil))) (.cons (.lst (.cons (.lit (.int 0)) (.cons (.lit (.int 0)) .nil))) (.cons (.lit (.str [99, 99, 120, 97, 97, 120, 98, 98])) (.cons (.lit (.str [97, 98, 99])) (.cons (.lit (.str [])) .nil)))))))) .nil)))) .nil
def bd47_5 : Ss := .cons (.set 3 (.bin .add (.var 3) (.lst (.cons (.call 28 [0, 1, 2, 3] (.cons (.lit (.str [97, 97, 120, 98, 98, 120, 99, 99])) (.cons (.lit (.str [120])) (.cons (.lst (.cons (.lit (.int 0)) .nil)) (.cons (.bin .add (.bin .pow (.lit (.int 10)) (.lit (.int 20))) (.lit (.int 1))) .nil)))) .nil) (.cons (.call 27 [0, 1, 2] (.cons (.lit (.str [97, 98, 99])) (.cons (.lit (.str [])) (.cons (.lst .nil) .nil))) .nil) (.cons (.call 27 [0, 1, 2] (.cons (.lit (.str [])) (.cons (.lit (.str [120])) (.cons (.lst .nil) .nil))) .nil) .nil)))))) bd47_6
def bd47_4 : Ss := .cons (.set 3 (.lst (.cons (.call 27 [0, 1, 2] (.cons (.lit (.str [97, 120, 98, 121, 99])) (.cons (.lit (.str [120, 121])) (.cons (.lst (.cons (.lit (.int 0)) .nil)) .nil))) .nil) (.cons (.call 27 [0, 1, 2] (.cons (.lit (.str [97, 120, 98, 121, 99])) (.cons (.lit (.str [120, 121])) (.cons (.lst (.cons (.lit (.int 1)) (.cons (.lit (.int 1)) .nil))) .nil))) .nil) (.cons (.call 30 [0, 1, 2] (.cons (.lit (.str [97, 120, 98, 121, 99])) (.cons (.lit (.str [120, 121])) (.cons (.lst (.cons (.lit (.int 0)) (.cons (.lit (.int 1)) .nil))) .nil))) .nil) (.cons (.call 29 [0, 1, 2] (.cons (.lit (.str [97, 120, 98, 121, 99])) (.cons (.lit (.str [120, 121])) (.cons (.lst (.cons (.lit (.int 1)) (.cons (.lit (.int 1)) .nil))) .nil))) .nil) .nil)))))) bd47_5
def bd47_3 : Ss := .cons (.iff (.val (.cmp .ne (.bin .add (.var 2) (.lst (.cons (.call 29 [0, 1, 2] (.cons (.bin .mul (.lit (.str [97, 120])) (.lit (.int 80))) (.cons (.lit (.str [120])) (.cons (.lst (.cons (.lit (.int 159)) (.cons (.lit (.int 0)) .nil))) .nil))) .nil) .nil))) (.lst (.cons (.bin .mul (.lit (.str [120, 97])) (.lit (.int 80))) (.cons (.bin .add (.lit (.str [97, 120])) (.bin .mul (.lit (.str [120, 97])) (.lit (.int 79)))) (.cons (.lst (.cons (.lit (.int 159)) (.cons (.lit (.int 0)) .nil))) (.cons (.lst (.cons (.lit (.int 79)) (.cons (.lit (.int 0)) .nil))) .nil))))))) (.cons (.ret (.lit (.bl false))) .nil) .nil) bd47_4
def bd47_2 : Ss := .cons (.set 2 (.lst (.cons (.call 27 [0, 1, 2] (.cons (.bin .mul (.lit (.str [97, 120])) (.lit (.int 80))) (.cons (.lit (.str [120])) (.cons (.lst (.cons (.lit (.int 79)) .nil)) .nil))) .nil) (.cons (.call 28 [0, 1, 2, 3] (.cons (.bin .mul (.lit (.str [97, 120])) (.lit (.int 80))) (.cons (.lit (.str [120])) (.cons (.lst (.cons (.lit (.int 79)) .nil)) (.cons (.lit (.int 2)) .nil)))) .nil) (.cons (.call 30 [0, 1, 2] (.cons (.bin .mul (.lit (.str [97, 120])) (.lit (.int 80))) (.cons (.lit (.str [120])) (.cons (.lst (.cons (.lit (.int 79)) (.cons (.lit (.int 0)) .nil))) .nil))) .nil) .nil))))) bd47_3
def bd47_1 : Ss := .cons (.iff (.not (.val (.call 46 [0] (.cons (.call 35 [0, 1] (.cons (.var 0) (.cons (.lit (.int 2)) .nil)) .nil) .nil) .nil))) (.cons (.ret (.lit (.bl false))) .nil) .nil) bd47_2
def bd47_0 : Ss := .cons (.for [1] (.rng1 (.lit (.int 2))) bb47_0) bd47_1
def bd47 : Df := ⟨1, 4, [], bd47_0⟩
/-- the law's table -/
structure Kb (Δ : Tab) : Prop where
  h0 : Δ.lookup 0 = some dfWhole
  h1 : Δ.lookup 1 = some (dfBetw 0)
  h2 : Δ.lookup 2 = some bd2
  h3 : Δ.lookup 3 = some dfLett
  h4 : Δ.lookup 4 = some (dfChk 3)
  h5 : Δ.lookup 5 = some dfRise
  h6 : Δ.lookup 6 = some (dfOrd 3 5)
  h7 : Δ.lookup 7 = some (dfChk 6)
  h8 : Δ.lookup 8 = some bd8
  h9 : Δ.lookup 9 = some bd9
  h10 : Δ.lookup 10 = some bd10
  h11 : Δ.lookup 11 = some bd11
  h12 : Δ.lookup 12 = some bd12
  h13 : Δ.lookup 13 = some bd13
  h14 : Δ.lookup 14 = some bd14
  h15 : Δ.lookup 15 = some bd15
  h16 : Δ.lookup 16 = some bd16
  h17 : Δ.lookup 17 = some bd17
  h18 : Δ.lookup 18 = some bd18
  h19 : Δ.lookup 19 = some bd19
  h20 : Δ.lookup 20 = some bd20
  h21 : Δ.lookup 21 = some bd21
  h22 : Δ.lookup 22 = some bd22
  h23 : Δ.lookup 23 = some bd23
  h24 : Δ.lookup 24 = some bd24
  h25 : Δ.lookup 25 = some bd25
  h26 : Δ.lookup 26 = some bd26
  h27 : Δ.lookup 27 = some bd27
  h28 : Δ.lookup 28 = some bd28
  h29 : Δ.lookup 29 = some bd29
  h30 : Δ.lookup 30 = some bd30
  h31 : Δ.lookup 31 = some bd31
  h32 : Δ.lookup 32 = some dfHash
  h33 : Δ.lookup 33 = some (dfRnd 32)
  h34 : Δ.lookup 34 = some dfCell
  h35 : Δ.lookup 35 = some (dfGen 34)
  h36 : Δ.lookup 36 = some bd36
  h37 : Δ.lookup 37 = some bd37
  h38 : Δ.lookup 38 = some bd38
  h39 : Δ.lookup 39 = some bd39
  h40 : Δ.lookup 40 = some bd40
  h41 : Δ.lookup 41 = some bd41
  h42 : Δ.lookup 42 = some bd42
  h43 : Δ.lookup 43 = some bd43
  h44 : Δ.lookup 44 = some bd44
  h45 : Δ.lookup 45 = some bd45
  h46 : Δ.lookup 46 = some bd46
  h47 : Δ.lookup 47 = some bd47
end Ev

set_option Elab.async false
set_option linter.all false
set_option maxRecDepth 100000
set_option maxHeartbeats 8000000
/-! X1: printed by renum.py. Own work. -/
namespace Ev
local macro_rules | `(tactic| walk_at "side") => `(tactic| first | assumption | omega | (have hLIM := LIM_n; have hB62 := B62_eq; have hB63 := B63_eq; (try simp only [List.length_append, List.length_cons, List.length_nil, List.length_map, List.length_reverse, List.length_replicate]); omega))
local macro_rules | `(tactic| walk_at "nrm") => `(tactic| try dsimp only [vrOf, frzAt, backAt, List.take_succ_cons, List.take_zero, allSome, List.set_cons_zero, List.set_cons_succ, outsTo, lockL, lockS, unlockL, unlockS, En.get, List.getElem?_cons_zero, List.getElem?_cons_succ, wipeE, backE])
local macro_rules | `(tactic| walk_at "ev1") => `(tactic| first
  | refine ok_lit ?_
  | refine ok_var rfl ?_
  | refine ok_bin ?_
  | refine ok_cmp ?_
  | refine ok_call ?_
  | refine ok_bi ?_
  | refine ok_sub ?_
  | refine oks_cons ?_
  | refine oks_nil ?_
  | refine ok_and ?_
  | refine ok_or ?_
  | refine ok_not ?_
  | refine ok_ifx ?_
  | refine ok_app rfl ?_
  | refine ok_mth (by decide) ?_
  | refine ok_sl ?_
  | refine ok_rev ?_
  | refine ok_lst ?_
  | refine ok_tup ?_
  | refine ok_dict0 ?_
  | refine ok_lrng1 ?_
  | refine okt_val ?_
  | refine okt_not ?_
  | refine okt_and ?_
  | refine okt_or ?_
  | refine okts_nil ?_
  | refine okts_cons ?_
  | refine oki_seq ?_
  | refine oki_rng1 ?_
  | refine oki_rng2 ?_
  | refine oki_enum ?_
  | refine oki_zip ?_
  | refine oki_back ?_
  | refine okz_nil ?_
  | refine oks_expr ?_
  | refine oks_set ?_
  | refine oks_par ?_
  | refine oks_unp ?_
  | refine unp_intro rfl rfl rfl ?_
  | refine oks_ret ?_
  | refine oks_iff ?_
  | refine oks_for ?_
  | refine oks_while ?_
  | refine ok_keep_v ?_
  | refine ok_keep_o ?_
  | (refine ok_keep_s rfl ?_; walk_at "nrm")
  | refine okk_nil ?_
  | refine okk_cons ?_
  | refine okl_nil ?_
  | refine okl_v ?_
  | refine okl_o ?_
  | (refine okl_s rfl ?_; walk_at "nrm")
  | (refine ok_store_v (Nat.le_of_ble_eq_true rfl) ?_; walk_at "nrm")
  | (refine ok_store_o (Nat.le_of_ble_eq_true rfl) ?_; walk_at "nrm")
  | (refine ok_store_s (Nat.le_of_ble_eq_true rfl) rfl ?_; walk_at "nrm")
  | refine lf_add_int rfl rfl ?_
  | refine lf_sub_int rfl rfl ?_
  | refine lf_add_str rfl rfl (by walk_at "side") ?_
  | refine lf_add_lst rfl rfl (by walk_at "side") ?_
  | refine lf_lt_int rfl rfl ?_
  | refine lf_gt_int rfl rfl ?_
  | refine lf_le_int rfl rfl ?_
  | refine lf_ge_int rfl rfl ?_
  | refine lf_eq_int rfl rfl ?_
  | refine lf_ne_int rfl rfl ?_
  | refine lf_eq_str rfl rfl ?_
  | refine lf_ne_str rfl rfl ?_
  | refine lf_isin_ch rfl rfl ?_
  | refine lf_notin_ch rfl rfl ?_
  | refine lf_is_non rfl rfl (fun b h => nomatch h) ?_
  | refine lf_isnot_non rfl rfl (fun b h => nomatch h) ?_
  | refine lf_mod rfl rfl (by walk_at "side") ?_
  | refine ⟨fun _ => ?_, fun h => no_tf h⟩
  | refine ⟨fun h => no_ft h, fun _ => ?_⟩
  | refine ⟨fun _ => ?_, fun h => no_ft h⟩
  | refine ⟨fun h => no_tf h, fun _ => ?_⟩
  | refine ⟨fun _ => ?_, fun h => absurd (by walk_at "side") (of_decide_eq_false h)⟩
  | refine ⟨fun h => absurd (of_decide_eq_true h) (by walk_at "side"), fun _ => ?_⟩
  | refine ⟨fun _ => ?_, fun h => absurd (of_decide_eq_true h) (by walk_at "side")⟩
  | refine ⟨fun h => absurd (by walk_at "side") (of_decide_eq_false h), fun _ => ?_⟩
  | refine ⟨fun _ => ?_, fun h => absurd (nd_f h) (by walk_at "side")⟩
  | refine ⟨fun h => absurd (by walk_at "side") (nd_t h), fun _ => ?_⟩
  | refine ⟨fun _ => ?_, fun h => absurd (by walk_at "side") (nd_t h)⟩
  | refine ⟨fun h => absurd (nd_f h) (by walk_at "side"), fun _ => ?_⟩
  | (refine nx_nx ?_)
  | (refine nx_rt ?_)
  | refine retq_v ?_
  | refine retq_o ?_
  | refine retq_w rfl rfl ?_
  | (refine retq_p rfl rfl ?_; walk_at "nrm")
  | (refine retq_f rfl ?_; walk_at "nrm")
  | (refine fin_rt rfl rfl ?_; walk_at "nrm")
  | (refine fin_nx rfl rfl ?_; walk_at "nrm")
  | refine cl_intro rfl rfl rfl ?_
  | (refine ⟨_, _, _, rfl, rfl, rfl, ?_⟩; simp only [frzDup, List.any_cons, List.any_nil, Nat.reduceBEq, beq_self_eq_true, Bool.or_false, Bool.or_true, Bool.true_or, if_true, Bool.false_eq_true, if_false, En.get, List.getElem?_cons_zero, List.getElem?_cons_succ, List.set_cons_zero, List.set_cons_succ])
  | refine ⟨_, _, rfl, rfl, ?_⟩
  | refine ⟨_, _, _, _, rfl, rfl, rfl, rfl, ?_⟩
  | refine lim_intro (by walk_at "side") ?_)
local macro_rules | `(tactic| walk_at "ev") => `(tactic| ((repeat walk_at "ev1"); walk_at "nrm"))
local macro_rules | `(tactic| walk_at "unl") => `(tactic| simp only [unlockL, unlockS, lockL, lockS, En.get, List.getElem?_cons_zero, List.getElem?_cons_succ, List.set_cons_zero, List.set_cons_succ, eq_self, if_true])
/-- whole numbers from 0 on -/
def nl (ps : List Nat) : List D := ps.map fun p => .int (p : Nat)
theorem fm_none {l : List D} : l.filterMap (fun _ => (none : Option D)) = [] := by
  induction l with
  | nil => rfl
  | cons a l ih => simp [ih]
theorem c_eq_nil : qC .eq (.lst []) (.lst []) = some true := by rw [qC_eq]; rfl
theorem nl_len {ps : List Nat} : (nl ps).length = ps.length := List.length_map _
section
variable {Δ : Tab} (K : Kb Δ)
include K
theorem wh74 (k : Nat) {i : Int} : Phi Δ (k + 1) 0 [⟨.fz, .int i⟩] = .ret false (.bl true) [⟨.fz, .int i⟩] := whole_ok K.h0 k rfl
theorem bt74 (k : Nat) {i a b : Int} : Phi Δ (k + 2) 1 [⟨.fz, .int i⟩, ⟨.fz, .int a⟩, ⟨.fz, .int b⟩] = .ret false (.bl (decide (a ≤ i) && decide (i ≤ b))) [⟨.fz, .int i⟩, ⟨.fz, .int a⟩, ⟨.fz, .int b⟩] := by
  apply CR.Ok.eq
  (refine ok_phi (K.h1) ⟨rfl, by decide⟩ ?_; simp only [frzAt, List.map_cons, List.map_nil, Nat.reduceSub, List.reduceReplicate, List.cons_append, List.nil_append, List.getElem?_cons_zero, List.getElem?_cons_succ, List.set_cons_zero, List.set_cons_succ, List.append_nil])
  walk_at "ev"
  (refine call_of (wh74 K k) rfl ?_; walk_at "nrm")
  walk_at "ev"
  refine ⟨fun h => ?_, fun h => ?_⟩ <;> walk_at "ev" <;> exact ⟨rfl, by rw [h] <;> simp, rfl⟩
theorem bn74 (k : Nat) {i a : Int} : Phi Δ (k + 2) 1 [⟨.fz, .int i⟩, ⟨.fz, .int a⟩, ⟨.fz, .non⟩] = .ret false (.bl (decide (a ≤ i))) [⟨.fz, .int i⟩, ⟨.fz, .int a⟩, ⟨.fz, .non⟩] := by
  apply CR.Ok.eq
  (refine ok_phi (K.h1) ⟨rfl, by decide⟩ ?_; simp only [frzAt, List.map_cons, List.map_nil, Nat.reduceSub, List.reduceReplicate, List.cons_append, List.nil_append, List.getElem?_cons_zero, List.getElem?_cons_succ, List.set_cons_zero, List.set_cons_succ, List.append_nil])
  walk_at "ev"
  (refine call_of (wh74 K k) rfl ?_; walk_at "nrm")
  walk_at "ev"
  refine ⟨fun h => ?_, fun h => ?_⟩ <;> walk_at "ev" <;> exact ⟨rfl, by rw [h] <;> rfl, rfl⟩
theorem ck74 (k : Nat) {i a b : Int} (h : a ≤ i ∧ i ≤ b) : Phi Δ (k + 3) 2 [⟨.fz, .int i⟩, ⟨.fz, .int a⟩, ⟨.fz, .int b⟩] = .ret false .non [⟨.fz, .int i⟩, ⟨.fz, .int a⟩, ⟨.fz, .int b⟩] := by
  have e := bt74 K k (i := i) (a := a) (b := b)
  rw [decide_eq_true h.1, decide_eq_true h.2] at e
  apply CR.Ok.eq
  (refine ok_phi (K.h2) ⟨rfl, by decide⟩ ?_; simp only [frzAt, List.map_cons, List.map_nil, Nat.reduceSub, List.reduceReplicate, List.cons_append, List.nil_append, List.getElem?_cons_zero, List.getElem?_cons_succ, List.set_cons_zero, List.set_cons_succ, List.append_nil])
  walk_at "ev"
  (refine call_of (e) rfl ?_; walk_at "nrm")
  walk_at "ev"
  exact ⟨rfl, rfl, rfl⟩
theorem cn74 (k : Nat) {i a : Int} (h : a ≤ i) : Phi Δ (k + 3) 2 [⟨.fz, .int i⟩, ⟨.fz, .int a⟩, ⟨.fz, .non⟩] = .ret false .non [⟨.fz, .int i⟩, ⟨.fz, .int a⟩, ⟨.fz, .non⟩] := by
  have e := bn74 K k (i := i) (a := a)
  rw [decide_eq_true h] at e
  apply CR.Ok.eq
  (refine ok_phi (K.h2) ⟨rfl, by decide⟩ ?_; simp only [frzAt, List.map_cons, List.map_nil, Nat.reduceSub, List.reduceReplicate, List.cons_append, List.nil_append, List.getElem?_cons_zero, List.getElem?_cons_succ, List.set_cons_zero, List.set_cons_succ, List.append_nil])
  walk_at "ev"
  (refine call_of (e) rfl ?_; walk_at "nrm")
  walk_at "ev"
  exact ⟨rfl, rfl, rfl⟩
theorem pg74 (k : Nat) {n : Nat} {ps : List Nat} {md : Md} (hl : ps.length ≤ 100000) (h : ∀ p ∈ ps, p < n) : Phi Δ (k + 3) 9 [⟨.fz, .int n⟩, ⟨md, .lst (nl ps)⟩] = .ret false (.bl true) [⟨.fz, .int n⟩, ⟨md, .lst (nl ps)⟩] := by
  apply CR.Ok.eq
  (refine ok_phi (K.h9) ⟨rfl, by decide⟩ ?_; simp only [frzAt, List.map_cons, List.map_nil, Nat.reduceSub, List.reduceReplicate, List.cons_append, List.nil_append, List.getElem?_cons_zero, List.getElem?_cons_succ, List.set_cons_zero, List.set_cons_succ, List.append_nil])
  walk_at "ev"
  refine ok_lcp ?_
  walk_at "ev"
  refine ⟨fun ρ => ∃ x2, ρ = [some ⟨.fz, .int n⟩, some ⟨md.lock, .lst (nl ps)⟩, x2], fun _ => none, ⟨none, rfl⟩, ?_, ?_, ?_⟩
  · intro d hd ρ ⟨x2, hρ⟩
    subst hρ
    obtain ⟨p, hp, rfl⟩ := List.mem_map.mp hd
    refine ok_lcTg rfl ?_
    walk_at "nrm"
    walk_at "ev"
    have e := bt74 K k (i := p) (a := 0) (b := (n : Int) - 1)
    rw [decide_eq_true (show (0 : Int) ≤ p by omega), decide_eq_true (show (p : Int) ≤ n - 1 by have := h p hp; omega)] at e
    (refine call_of (e) rfl ?_; walk_at "nrm")
    walk_at "ev"
    exact ⟨rfl, _, rfl⟩
  · rw [fm_none]; exact Nat.zero_le _
  · intro ρ' ⟨x2, e⟩
    subst e
    rw [fm_none]
    walk_at "unl"
    walk_at "ev"
    refine lf_cmp c_eq_nil rfl rfl ?_
    walk_at "ev"
    exact ⟨rfl, rfl, rfl⟩
theorem pc74 (k : Nat) {n : Nat} {ps : List Nat} {md : Md} (hl : ps.length ≤ 100000) (h : ∀ p ∈ ps, p < n) : Phi Δ (k + 4) 10 [⟨.fz, .int n⟩, ⟨md, .lst (nl ps)⟩] = .ret false .non [⟨.fz, .int n⟩, ⟨md, .lst (nl ps)⟩] := by
  apply CR.Ok.eq
  (refine ok_phi (K.h10) ⟨rfl, by decide⟩ ?_; simp only [frzAt, List.map_cons, List.map_nil, Nat.reduceSub, List.reduceReplicate, List.cons_append, List.nil_append, List.getElem?_cons_zero, List.getElem?_cons_succ, List.set_cons_zero, List.set_cons_succ, List.append_nil])
  walk_at "ev"
  (refine call_of (pg74 K k hl h) rfl ?_; walk_at "nrm")
  walk_at "ev"
  exact ⟨rfl, rfl, rfl⟩
theorem cs74 (k : Nat) {n : Nat} {ps : List Nat} {md : Md} (hl : ps.length ≤ 100000) (h : ∀ p ∈ ps, p < n) : Phi Δ (k + 4) 24 [⟨.fz, .int n⟩, ⟨md, .lst (nl ps)⟩] = .ret false .non [⟨.fz, .int n⟩, ⟨md, .lst (nl ps)⟩] := by
  apply CR.Ok.eq
  (refine ok_phi (K.h24) ⟨rfl, by decide⟩ ?_; simp only [frzAt, List.map_cons, List.map_nil, Nat.reduceSub, List.reduceReplicate, List.cons_append, List.nil_append, List.getElem?_cons_zero, List.getElem?_cons_succ, List.set_cons_zero, List.set_cons_succ, List.append_nil])
  walk_at "ev"
  (refine call_of (pg74 K k hl h) rfl ?_; walk_at "nrm")
  walk_at "ev"
  exact ⟨rfl, rfl, rfl⟩
end
/-! ### places moved -/
def mvS {α : Type} (L : List α) (p : Nat) : List α := L.drop (p + 1) ++ (L[p]?).toList ++ L.take p
def mv {α : Type} (L : List α) (ps : List Nat) : List α := ps.foldl mvS L
theorem mvS_len {α : Type} {L : List α} {p : Nat} (h : p < L.length) : (mvS L p).length = L.length := by
  unfold mvS
  rw [List.getElem?_eq_getElem h]
  simp
  omega
theorem mv_len {α : Type} : ∀ {ps : List Nat} {L : List α}, (∀ p ∈ ps, p < L.length) → (mv L ps).length = L.length
  | [], _, _ => rfl
  | p :: ps, L, h => by
    have e := mvS_len (h p List.mem_cons_self)
    show (mv (mvS L p) ps).length = _
    rw [mv_len (fun q hq => by rw [e]; exact h q (List.mem_cons_of_mem _ hq)), e]
theorem mv_snoc {α : Type} {L : List α} {ps : List Nat} {p : Nat} : mv L (ps ++ [p]) = mvS (mv L ps) p := by unfold mv; rw [List.foldl_append] <;> rfl
theorem mvS_map {α β : Type} (f : α → β) {L : List α} {p : Nat} : mvS (L.map f) p = (mvS L p).map f := by
  unfold mvS
  simp only [List.map_append, List.map_drop, List.map_take, List.getElem?_map]
  cases L[p]? <;> rfl
theorem mv_map {α β : Type} (f : α → β) : ∀ {ps : List Nat} {L : List α}, mv (L.map f) ps = (mv L ps).map f
  | [], L => rfl
  | p :: ps, L => by
    show mv (mvS (L.map f) p) ps = _
    rw [mvS_map]
    exact mv_map f
theorem cut_lo {α : Type} {l : List α} {a : Nat} : cut l (some ((a : Int) + 1)) none = l.drop (a + 1) := by
  unfold cut sIx
  simp only
  rw [if_neg (by omega)]
  have : ((a : Int) + 1).toNat = a + 1 := by omega
  rw [this]
  by_cases h : a + 1 ≤ l.length
  · rw [Nat.min_eq_left h, ← List.length_drop, List.take_length]
  · rw [Nat.min_eq_right (by omega), Nat.sub_self]
    rw [List.drop_eq_nil_of_le (show l.length ≤ a + 1 by omega), List.drop_of_length_le (Nat.le_refl _)]
    rfl
theorem cut_hi {α : Type} {l : List α} {a : Nat} : cut l none (some (a : Int)) = l.take a := by
  unfold cut sIx
  simp only
  rw [if_neg (by omega), Int.toNat_natCast, Nat.sub_zero, List.drop_zero]
  by_cases h : a ≤ l.length
  · rw [Nat.min_eq_left h]
  · rw [Nat.min_eq_right (by omega), List.take_length, List.take_of_length_le (by omega)]
theorem rng_nl {m : Nat} : rngD 0 m = nl (List.range m) := by
  unfold rngD nl
  rw [show ((m : Int) - 0).toNat = m by omega]
  exact List.map_congr_left fun a _ => by rw [Int.zero_add]
theorem nl_get {L : List Nat} {p : Nat} (h : p < L.length) : subD (.lst (nl L)) (.int (p : Nat)) = some (.int ((L[p] : Nat))) := by
  have := sub_nat (xs := nl L) (n := p) (by rw [nl_len]; exact h)
  rw [this]
  simp [nl]
section
variable {Δ : Tab} (K : Kb Δ)
include K
theorem mb74 {Φ : Fns} {np : Nat} {s0 s1 : Option Sl} {L : List Nat} {p : Nat} (h : p < L.length) (hl : L.length ≤ 1000) {Q : Fl → En → Prop} (q : Q .nx [s0, s1, some ⟨.own, .lst (nl (mvS L p))⟩, some ⟨.fz, .int p⟩]) :
    (qSs Φ np bb11_0 [s0, s1, some ⟨.own, .lst (nl L)⟩, some ⟨.fz, .int p⟩]).Ok Q := by
  unfold bb11_0
  have hL := LIM_n
  have c1 : (cut (nl L) (some ((p : Int) + 1)) none).length ≤ 1000 := by rw [cut_lo, List.length_drop, nl_len]; omega
  have c2 : (cut (nl L) none (some (p : Int))).length ≤ 1000 := by rw [cut_hi, List.length_take, nl_len]; omega
  walk_at "ev"
  refine lf_sub (nl_get h) rfl rfl ?_
  walk_at "ev"
  rw [cut_lo, cut_hi]
  have e : (nl L).drop (p + 1) ++ [D.int (L[p] : Nat)] ++ (nl L).take p = nl (mvS L p) := by
    unfold nl mvS
    rw [List.map_append, List.map_append, List.map_drop, List.map_take, List.getElem?_eq_getElem h] <;> rfl
  rw [e]
  exact q
theorem mv74 (k : Nat) {m : Nat} {ps : List Nat} {md : Md} (hm : m ≤ 1000) (h : ∀ p ∈ ps, p < m) : Phi Δ (k + 1) 11 [⟨.fz, .int m⟩, ⟨md, .lst (nl ps)⟩] = .ret true (.lst (nl (mv (List.range m) ps))) [⟨.fz, .int m⟩, ⟨md, .lst (nl ps)⟩] := by
  apply CR.Ok.eq
  (refine ok_phi (K.h11) ⟨rfl, by decide⟩ ?_; simp only [frzAt, List.map_cons, List.map_nil, Nat.reduceSub, List.reduceReplicate, List.cons_append, List.nil_append, List.getElem?_cons_zero, List.getElem?_cons_succ, List.set_cons_zero, List.set_cons_succ, List.append_nil])
  have hL := LIM_n
  have hB := B62_eq
  walk_at "ev"
  refine ⟨(m : Int), rfl, ⟨by omega, by omega, by omega⟩, ?_⟩
  walk_at "ev"
  rw [rng_nl]
  refine ok_forGo (fun rest ρ => ∃ pre qs x3, ps = pre ++ qs ∧ rest = nl qs ∧ ρ = [some ⟨.fz, .int m⟩, some ⟨md.lock, .lst (nl ps)⟩, some ⟨.own, .lst (nl (mv (List.range m) pre))⟩, x3]) ⟨[], ps, none, rfl, rfl, rfl⟩ ?_ ?_
  · intro d ds ρ ⟨pre, qs, x3, e1, e2, e3⟩
    subst e3
    cases qs with
    | nil => cases e2
    | cons p qs =>
      cases e2
      have hp := h p (by rw [e1]; simp)
      have hlen : (mv (List.range m) pre).length = m := by
        rw [mv_len (fun q hq => by rw [List.length_range]; exact h q (by rw [e1]; simp [hq])), List.length_range]
      refine ok_withTg rfl ?_
      walk_at "nrm"
      refine mb74 K (by omega) (by omega) ?_
      exact ⟨pre ++ [p], qs, _, by rw [e1, List.append_assoc] <;> rfl, rfl, by rw [mv_snoc]⟩
  · intro ρ ⟨pre, qs, x3, e1, e2, e3⟩
    subst e3
    cases qs with
    | cons p qs => cases e2
    | nil =>
      rw [List.append_nil] at e1
      subst e1
      walk_at "unl"
      walk_at "ev"
      exact ⟨rfl, rfl, rfl⟩
end

end Ev

set_option Elab.async false
set_option linter.all false
set_option maxRecDepth 100000
set_option maxHeartbeats 8000000
/-! X2: printed by renum.py. Own work. -/
namespace Ev
theorem mvS_perm {α : Type} {L : List α} {p : Nat} (h : p < L.length) : (mvS L p).Perm L := by
  unfold mvS
  rw [List.getElem?_eq_getElem h]
  have e : L = L.take p ++ ([L[p]] ++ L.drop (p + 1)) := by simp
  refine List.Perm.trans ?_ (List.Perm.of_eq e.symm)
  refine List.perm_append_comm.trans (List.Perm.append_left _ ?_)
  exact List.perm_append_comm
theorem mv_perm {α : Type} : ∀ {ps : List Nat} {L : List α}, (∀ p ∈ ps, p < L.length) → (mv L ps).Perm L
  | [], _, _ => List.Perm.refl _
  | p :: ps, L, h => by
    have hp := h p List.mem_cons_self
    have e := mvS_len hp
    exact (mv_perm (L := mvS L p) fun q hq => by rw [e]; exact h q (List.mem_cons_of_mem _ hq)).trans (mvS_perm hp)
/-- an arrangement of the numbers below n -/
structure IsP (n : Nat) (M : List Nat) : Prop where
  len : M.length = n
  nd : M.Nodup
  lt : ∀ x ∈ M, x < n
  all : ∀ x, x < n → x ∈ M
theorem IsP.of_perm {n : Nat} {M : List Nat} (h : M.Perm (List.range n)) : IsP n M :=
  ⟨by rw [h.length_eq, List.length_range], h.nodup_iff.mpr List.nodup_range, fun x hx => List.mem_range.mp (h.mem_iff.mp hx), fun x hx => h.mem_iff.mpr (List.mem_range.mpr hx)⟩
theorem isP_mv {n : Nat} {ps : List Nat} (h : ∀ p ∈ ps, p < n) : IsP n (mv (List.range n) ps) := .of_perm (mv_perm (by rw [List.length_range]; exact h))
/-- where the letter at x comes from -/
def nx (M : List Nat) (x : Nat) : Nat := M.getD x 0
theorem nx_eq {M : List Nat} {x : Nat} (h : x < M.length) : nx M x = M[x] := by
  unfold nx
  rw [List.getD_eq_getElem?_getD, List.getElem?_eq_getElem h] <;> rfl
theorem IsP.nx_lt {n : Nat} {M : List Nat} (P : IsP n M) {x : Nat} (h : x < n) : nx M x < n := by
  rw [nx_eq (by rw [P.len]; exact h)]
  exact P.lt _ (List.getElem_mem _)
theorem IsP.inj {n : Nat} {M : List Nat} (P : IsP n M) {x y : Nat} (hx : x < n) (hy : y < n) (e : nx M x = nx M y) : x = y := by
  rw [nx_eq (by rw [P.len]; exact hx), nx_eq (by rw [P.len]; exact hy)] at e
  exact (List.getElem_inj P.nd).mp e
/-- places moved, as places told -/
theorem mv_eq {α : Type} {L : List α} {ps : List Nat} (h : ∀ p ∈ ps, p < L.length) : (mv L ps).map some = (mv (List.range L.length) ps).map fun i => L[i]? := by
  have e : L.map some = (List.range L.length).map fun i => L[i]? := by
    apply List.ext_getElem
    · simp
    · intro i h1 h2
      simp at h1
      simp [h1]
  rw [← mv_map, e, mv_map]
theorem mv_getElem? {α : Type} {L : List α} {ps : List Nat} (h : ∀ p ∈ ps, p < L.length) {i : Nat} (hi : i < L.length) : (mv L ps)[i]? = L[nx (mv (List.range L.length) ps) i]? := by
  have e := congrArg (fun l => l[i]?) (mv_eq h)
  have P := isP_mv h
  simp only [List.getElem?_map] at e
  have hl : i < (mv (List.range L.length) ps).length := by rw [P.len]; exact hi
  have hm : i < (mv L ps).length := by rw [mv_len h]; exact hi
  rw [List.getElem?_eq_getElem hl, List.getElem?_eq_getElem hm] at e
  rw [List.getElem?_eq_getElem hm, nx_eq hl]
  simpa using e
/-! ### rounds -/
/-- done t times -/
def itn (M : List Nat) : Nat → Nat → Nat
  | 0, x => x
  | t + 1, x => itn M t (nx M x)
theorem itn_succ {M : List Nat} : ∀ (t x : Nat), itn M (t + 1) x = nx M (itn M t x)
  | 0, _ => rfl
  | t + 1, x => itn_succ t (nx M x)
theorem itn_add {M : List Nat} : ∀ (a b x : Nat), itn M (a + b) x = itn M a (itn M b x)
  | a, 0, _ => rfl
  | a, b + 1, x => itn_add a b (nx M x)
theorem IsP.itn_lt {n : Nat} {M : List Nat} (P : IsP n M) : ∀ (t : Nat) {x : Nat}, x < n → itn M t x < n
  | 0, _, h => h
  | t + 1, _, h => P.itn_lt t (P.nx_lt h)
theorem IsP.itn_inj {n : Nat} {M : List Nat} (P : IsP n M) : ∀ (t : Nat) {x y : Nat}, x < n → y < n → itn M t x = itn M t y → x = y
  | 0, _, _, _, _, e => e
  | t + 1, _, _, hx, hy, e => P.inj hx hy (P.itn_inj t (P.nx_lt hx) (P.nx_lt hy) e)
/-- one round -/
structure Cyc (M lot : List Nat) : Prop where
  ne : lot ≠ []
  nd : lot.Nodup
  st : ∀ (i : Nat) (h : i < lot.length), nx M lot[i] = lot[(i + 1) % lot.length]'(Nat.mod_lt _ (by omega))
theorem Cyc.pos {M lot : List Nat} (c : Cyc M lot) : 0 < lot.length := List.length_pos_iff.mpr c.ne
theorem Cyc.itn {M lot : List Nat} (c : Cyc M lot) : ∀ (t i : Nat) (h : i < lot.length), itn M t lot[i] = lot[(i + t) % lot.length]'(Nat.mod_lt _ c.pos)
  | 0, i, h => by
    have e : (i + 0) % lot.length = i := Nat.mod_eq_of_lt h
    simp only [e]
    rfl
  | t + 1, i, h => by
    show Ev.itn M t (nx M lot[i]) = _
    rw [c.st i h, c.itn t _ (Nat.mod_lt _ c.pos)]
    congr 1
    rw [Nat.mod_add_mod]
    congr 1
    omega
/-- a round is closed, ahead, too -/
theorem Cyc.back {n : Nat} {M lot : List Nat} (P : IsP n M) (c : Cyc M lot) (hl : ∀ x ∈ lot, x < n) {x : Nat} (hx : x < n) (h : nx M x ∈ lot) : x ∈ lot := by
  obtain ⟨j, hj, e⟩ := List.getElem_of_mem h
  have hp := c.pos
  have hk : (j + (lot.length - 1)) % lot.length < lot.length := Nat.mod_lt _ hp
  have e2 : nx M (lot[(j + (lot.length - 1)) % lot.length]) = lot[j] := by
    rw [c.st _ hk]
    congr 1
    rw [Nat.mod_add_mod]
    have : j + (lot.length - 1) + 1 = j + lot.length := by omega
    rw [this, Nat.add_mod_right, Nat.mod_eq_of_lt hj]
  have := P.inj hx (hl _ (List.getElem_mem hk)) (e.symm.trans e2.symm)
  rw [this]
  exact List.getElem_mem hk
/-- the rounds found so far -/
structure Rnds (n : Nat) (M : List Nat) (R : List (List Nat)) : Prop where
  cyc : ∀ lot ∈ R, Cyc M lot
  lt : ∀ lot ∈ R, ∀ x ∈ lot, x < n
  nd : R.flatten.Nodup
theorem Rnds.back {n : Nat} {M : List Nat} {R : List (List Nat)} (P : IsP n M) (r : Rnds n M R) {x : Nat} (hx : x < n) (h : nx M x ∈ R.flatten) : x ∈ R.flatten := by
  obtain ⟨lot, hl, h⟩ := List.mem_flatten.mp h
  exact List.mem_flatten.mpr ⟨lot, hl, (r.cyc lot hl).back P (r.lt lot hl) hx h⟩
/-- a round begun: first, then on -/
def trc (M : List Nat) (x k : Nat) : List Nat := (List.range k).map fun i => itn M i x
theorem trc_len {M : List Nat} {x k : Nat} : (trc M x k).length = k := by unfold trc; rw [List.length_map, List.length_range]
theorem trc_succ {M : List Nat} {x k : Nat} : trc M x (k + 1) = trc M x k ++ [itn M k x] := by unfold trc; rw [List.range_succ, List.map_append] <;> rfl
theorem trc_get {M : List Nat} {x k i : Nat} (h : i < (trc M x k).length) : (trc M x k)[i] = itn M i x := by simp only [trc, List.getElem_map, List.getElem_range]
/-- where a round closes: it comes back to its first -/
theorem trc_close {n : Nat} {M : List Nat} {R : List (List Nat)} (P : IsP n M) (r : Rnds n M R) {x k : Nat} (hx : x < n) (hn : x ∉ R.flatten) (hk : 0 < k) (nd : (trc M x k).Nodup) (h : itn M k x ∈ R.flatten ++ trc M x k) : itn M k x = x := by
  rcases List.mem_append.mp h with h | h
  · exfalso
    have : ∀ j, itn M j x ∈ R.flatten → x ∈ R.flatten := fun j => by
      induction j with
      | zero => exact id
      | succ j ih =>
        intro hj
        rw [itn_succ] at hj
        exact ih (r.back P (P.itn_lt j hx) hj)
    exact hn (this k h)
  · obtain ⟨j, hj, e⟩ := List.getElem_of_mem h
    rw [trc_get] at e
    rw [trc_len] at hj
    cases j with
    | zero => exact e.symm
    | succ j =>
      exfalso
      obtain ⟨k, rfl⟩ : ∃ k', k = k' + 1 := ⟨k - 1, by omega⟩
      rw [itn_succ, itn_succ] at e
      have e2 := P.inj (P.itn_lt j hx) (P.itn_lt k hx) e
      have h1 : j < (trc M x (k + 1)).length := by rw [trc_len]; omega
      have h2 : k < (trc M x (k + 1)).length := by rw [trc_len]; omega
      have : j = k := (List.getElem_inj nd (h₀ := h1) (h₁ := h2)).mp (by rw [trc_get, trc_get]; exact e2)
      omega
theorem trc_cyc {M : List Nat} {x k : Nat} (hk : 0 < k) (nd : (trc M x k).Nodup) (e : itn M k x = x) : Cyc M (trc M x k) := by
  refine ⟨fun z => ?_, nd, fun i h => ?_⟩
  · have := congrArg List.length z
    rw [trc_len] at this
    simp at this
    omega
  · rw [trc_len] at h
    rw [trc_get, trc_get, ← itn_succ, trc_len]
    by_cases hi : i + 1 = k
    · rw [hi, Nat.mod_self, e] <;> rfl
    · rw [Nat.mod_eq_of_lt (by omega)]
theorem rnds_snoc {n : Nat} {M : List Nat} {R : List (List Nat)} {lot : List Nat} (r : Rnds n M R) (c : Cyc M lot) (hl : ∀ x ∈ lot, x < n) (hd : ∀ x ∈ lot, x ∉ R.flatten) : Rnds n M (R ++ [lot]) := by
  refine ⟨fun l h => ?_, fun l h => ?_, ?_⟩
  · rcases List.mem_append.mp h with h | h
    · exact r.cyc l h
    · rw [List.mem_singleton.mp h]; exact c
  · rcases List.mem_append.mp h with h | h
    · exact r.lt l h
    · rw [List.mem_singleton.mp h]; exact hl
  · rw [List.flatten_append, List.nodup_append]
    refine ⟨r.nd, by simpa using c.nd, fun a ha b hb => ?_⟩
    rintro rfl
    exact hd a (by simpa using hb) ha
/-- all rounds -/
structure RndsA (n : Nat) (M : List Nat) (R : List (List Nat)) : Prop extends Rnds n M R where
  all : ∀ x, x < n → x ∈ R.flatten
theorem nodup_len : ∀ {n : Nat} {S : List Nat}, S.Nodup → (∀ x ∈ S, x < n) → S.length ≤ n
  | 0, S, _, hl => by
    cases S with
    | nil => exact Nat.le_refl _
    | cons x S => exact absurd (hl x List.mem_cons_self) (by omega)
  | n + 1, S, h, hl => by
    by_cases hm : n ∈ S
    · have := nodup_len (n := n) (h.erase n) fun x hx => by
        have h1 := (h.mem_erase_iff).mp hx
        have := hl x h1.2
        have := h1.1
        omega
      rw [List.length_erase_of_mem hm] at this
      omega
    · exact Nat.le_succ_of_le (nodup_len h fun x hx => by
        have := hl x hx
        have : x ≠ n := fun e => hm (e ▸ hx)
        omega)

end Ev

set_option Elab.async false
set_option linter.all false
set_option maxRecDepth 100000
set_option maxHeartbeats 8000000
/-! X3: printed by renum.py. Own work. -/
namespace Ev
section
variable {ρ : En} {Q : Fl → En → Prop}
/-- a loop over a list of things of one kind -/
theorem ok_forM {α : Type} {f : D → En → Rs Fl} {g : α → D} {L : List α} (I : Nat → En → Prop) (h0 : I 0 ρ) (step : ∀ (i : Nat) (h : i < L.length) ρ, I i ρ → (f (g L[i]) ρ).Ok fun c ρ' => match c with
    | .nx => I (i + 1) ρ'
    | .ct => I (i + 1) ρ'
    | .br => Q .nx ρ'
    | .rt o d => Q (.rt o d) ρ') (fin : ∀ ρ, I L.length ρ → Q .nx ρ) : (forGo f (L.map g) ρ).Ok Q := by
  refine ok_forGo (fun rest ρ => ∃ i, i ≤ L.length ∧ rest = (L.drop i).map g ∧ I i ρ) ⟨0, Nat.zero_le _, rfl, h0⟩ ?_ ?_
  · intro d ds ρ ⟨i, hi, e, hI⟩
    by_cases h : i < L.length
    · rw [List.drop_eq_getElem_cons h, List.map_cons] at e
      injection e with e1 e2
      subst e1
      refine (step i h ρ hI).mono fun c ρ' hc => ?_
      cases c with
      | nx => exact ⟨i + 1, h, e2, hc⟩
      | ct => exact ⟨i + 1, h, e2, hc⟩
      | br => exact hc
      | rt o d => exact hc
    · rw [List.drop_eq_nil_of_le (by omega)] at e
      cases e
  · intro ρ ⟨i, hi, e, hI⟩
    by_cases h : i < L.length
    · rw [List.drop_eq_getElem_cons h, List.map_cons] at e
      cases e
    · have : i = L.length := by omega
      subst this
      exact fin ρ hI
theorem ok_forN {f : D → En → Rs Fl} {g : Nat → D} (n : Nat) (I : Nat → En → Prop) (h0 : I 0 ρ) (step : ∀ (i : Nat) (h : i < n) ρ, I i ρ → (f (g i) ρ).Ok fun c ρ' => match c with
    | .nx => I (i + 1) ρ'
    | .ct => I (i + 1) ρ'
    | .br => Q .nx ρ'
    | .rt o d => Q (.rt o d) ρ') (fin : ∀ ρ, I n ρ → Q .nx ρ) : (forGo f ((List.range n).map g) ρ).Ok Q := by
  refine ok_forM I h0 (fun i h ρ hI => ?_) (by rw [List.length_range]; exact fin)
  rw [List.length_range] at h
  rw [List.getElem_range]
  exact step i h ρ hI
end
/-- a comprehension over things of one kind: those that pass, each made anew -/
theorem ok_lcT {Φ : Fns} {ρ : En} {Q : Vr → En → Prop} {α : Type} {elt : E} {tg own : List Nat} {it : Wk} {ts : Ts} (h : (qI Φ it ρ).Ok fun rr ρ1 => ∃ (L : List α) (g : α → D) (t : α → Bool) (e : α → D) (J : En → Prop), rr.1 = L.map g ∧ J (wipeE (lockL ρ1 rr.2) own) ∧
    (∀ x ∈ L, ∀ ρ, J ρ → (lcTg tg own (qTs Φ ts) (qE Φ elt) (g x) ρ).Ok fun r ρ' => r = (if t x = true then some (e x) else none) ∧ J ρ') ∧ L.length ≤ LIM ∧
    (∀ ρ', J ρ' → Q (.o (.lst ((L.filter t).map e))) (unlockL ρ1 (backE (lockL ρ1 rr.2) ρ' own) rr.2))) : (qE Φ (.lc elt tg it ts own) ρ).Ok Q := by
  refine ok_lc (h.mono fun rr ρ1 h => ?_)
  obtain ⟨L, g, t, e, J, hr, h0, st, hl, fin⟩ := h
  refine ⟨fun done rest ρ => ∃ i, i ≤ L.length ∧ rest = (L.drop i).map g ∧ done = ((L.take i).filter t).map e ∧ J ρ, ⟨0, Nat.zero_le _, hr, rfl, h0⟩, ?_, ?_⟩
  · intro d ds done ρ ⟨i, hi, e1, e2, j⟩
    by_cases hL : i < L.length
    · rw [List.drop_eq_getElem_cons hL, List.map_cons] at e1
      injection e1 with e3 e4
      subst e3
      refine (st L[i] (List.getElem_mem hL) ρ j).mono fun r ρ' h => ?_
      obtain ⟨rfl, j⟩ := h
      refine ⟨i + 1, hL, e4, ?_, j⟩
      rw [List.take_succ_eq_append_getElem hL, List.filter_append, List.map_append, e2]
      congr 1
      by_cases ht : t L[i] = true
      · rw [if_pos ht, List.filter_cons_of_pos ht] <;> rfl
      · rw [if_neg ht, List.filter_cons_of_neg ht] <;> rfl
    · rw [List.drop_eq_nil_of_le (by omega)] at e1
      cases e1
  · intro ds ρ' ⟨i, hi, e1, e2, j⟩
    have : i = L.length := by
      by_cases hL : i < L.length
      · rw [List.drop_eq_getElem_cons hL, List.map_cons] at e1
        cases e1
      · omega
    subst this
    rw [List.take_length] at e2
    subst e2
    exact ⟨by rw [List.length_map]; exact Nat.le_trans (List.length_filter_le _ _) hl, fin ρ' j⟩
theorem ok_lcE {Φ : Fns} {ρ : En} {Q : Vr → En → Prop} {α : Type} {elt : E} {tg own : List Nat} {it : Wk} (h : (qI Φ it ρ).Ok fun rr ρ1 => ∃ (L : List α) (g : α → D) (e : α → D) (J : En → Prop), rr.1 = L.map g ∧ J (wipeE (lockL ρ1 rr.2) own) ∧
    (∀ x ∈ L, ∀ ρ, J ρ → (lcTg tg own (qTs Φ .nil) (qE Φ elt) (g x) ρ).Ok fun r ρ' => r = some (e x) ∧ J ρ') ∧ L.length ≤ LIM ∧
    (∀ ρ', J ρ' → Q (.o (.lst (L.map e))) (unlockL ρ1 (backE (lockL ρ1 rr.2) ρ' own) rr.2))) : (qE Φ (.lc elt tg it .nil own) ρ).Ok Q := by
  refine ok_lcT (α := α) (h.mono fun rr ρ1 h => ?_)
  obtain ⟨L, g, e, J, hr, h0, st, hl, fin⟩ := h
  refine ⟨L, g, fun _ => true, e, J, hr, h0, fun x hx ρ j => st x hx ρ j, hl, fun ρ' j => ?_⟩
  rw [List.filter_eq_self.mpr fun _ _ => rfl]
  exact fin ρ' j
theorem enum_nl {M : List Nat} : enumD (nl M) = (List.range M.length).map fun i => .tup [.int (i : Nat), .int ((nx M i : Nat))] := by
  unfold enumD nl
  apply List.ext_getElem
  · simp
  · intro i h1 h2
    simp at h1
    simp [nx_eq h1]
theorem rep0 {n : Nat} : (List.replicate n [D.int 0]).flatten = nl (List.replicate n 0) := by
  induction n with
  | zero => rfl
  | succ n ih => rw [List.replicate_succ, List.flatten_cons, ih] <;> rfl
theorem nl_set {F : List Nat} {i v : Nat} : (nl F).set i (.int (v : Nat)) = nl (F.set i v) := by unfold nl; rw [List.map_set]
/-- goals of places -/
def gls (M : List Nat) : List Nat := (List.range M.length).map fun p => M.idxOf p
theorem gls_len {M : List Nat} : (gls M).length = M.length := by unfold gls; rw [List.length_map, List.length_range]
theorem gls_get {M : List Nat} {x : Nat} (h : x < M.length) : (gls M)[x]? = some (M.idxOf x) := by
  unfold gls
  rw [List.getElem?_map, List.getElem?_range h] <;> rfl
theorem gls_of {n : Nat} {M F : List Nat} (P : IsP n M) (hl : F.length = n) (h : ∀ j, j < n → F[nx M j]? = some j) : F = gls M := by
  apply List.ext_getElem?
  intro x
  by_cases hx : x < n
  · obtain ⟨j, hj, e⟩ := List.getElem_of_mem (P.all x hx)
    have := h j (by rw [← P.len]; exact hj)
    rw [nx_eq hj, e] at this
    rw [this, gls_get (by rw [P.len]; exact hx), ← e, P.nd.idxOf_getElem]
  · rw [List.getElem?_eq_none (by omega), List.getElem?_eq_none (by rw [gls_len, P.len]; omega)]
theorem rep_side {n : Nat} (h : n ≤ 1000) : -B63 ≤ (n : Int) ∧ (n : Int) < B63 ∧ [D.int 0].length * (n : Int).toNat ≤ LIM := by
  have hL := LIM_n
  have hB := B63_eq
  refine ⟨by omega, by omega, ?_⟩
  rw [List.length_cons, List.length_nil, Int.toNat_natCast]
  omega
section
variable {Δ : Tab} (K : Kb Δ)
include K
end

end Ev

set_option Elab.async false
set_option linter.all false
set_option maxRecDepth 100000
set_option maxHeartbeats 8000000
/-! X4: printed by renum.py. Own work. -/
namespace Ev
theorem lcTg_of {tg own : List Nat} {t : En → Rs Bool} {e : En → Rs Vr} {d0 d : D} {b : Bool} {ρ ρ1 : En} {J : En → Prop} (h1 : assignD tg d0 (wipeE ρ own) = some ρ1)
    (h : (t ρ1).Ok fun c ρ2 => c = b ∧ (b = true → (e ρ2).Ok fun x ρ3 => (keep ρ3 x).Ok fun d' ρ4 => d' = d ∧ J ρ4) ∧ (b = false → J ρ2)) : (lcTg tg own t e d0 ρ).Ok fun r ρ' => r = (if b = true then some d else none) ∧ J ρ' := by
  refine ok_lcTg h1 (h.mono fun c ρ2 h => ?_)
  obtain ⟨rfl, h2, h3⟩ := h
  cases c with
  | true =>
    refine ⟨fun _ => (h2 rfl).mono fun x ρ3 h => h.mono fun d' ρ4 h => ?_, fun z => nomatch z⟩
    exact ⟨by rw [h.1, if_pos rfl], h.2⟩
  | false => exact ⟨(fun z => nomatch z), fun _ => ⟨rfl, h3 rfl⟩⟩
theorem lcTg_all {tg own : List Nat} {e : En → Rs Vr} {Φ : Fns} {d0 d : D} {ρ ρ1 : En} {J : En → Prop} (h1 : assignD tg d0 (wipeE ρ own) = some ρ1)
    (h : (e ρ1).Ok fun x ρ3 => (keep ρ3 x).Ok fun d' ρ4 => d' = d ∧ J ρ4) : (lcTg tg own (qTs Φ .nil) e d0 ρ).Ok fun r ρ' => r = some d ∧ J ρ' :=
  ok_lcTg h1 (okts_nil ⟨fun _ => h.mono fun x ρ3 h => h.mono fun d' ρ4 h => ⟨by rw [h.1], h.2⟩, fun z => nomatch z⟩)
theorem nx_sub {M : List Nat} {p : Nat} (h : p < M.length) : subD (.lst (nl M)) (.int (p : Nat)) = some (.int ((nx M p : Nat))) := by rw [nl_get h, nx_eq h]
theorem ne_nil_nl {L : List Nat} : qC .ne (.lst (nl L)) (.lst []) = some (!L.isEmpty) := by
  rw [qC_eq]
  cases L with
  | nil => rfl
  | cons a L =>
    have h : flat DEP (.lst (nl (a :: L))) = true := by
      show flatL 59 _ = true
      have : ∀ (l : List Nat), flatL 59 (nl l) = true := fun l => by
        induction l with
        | nil => rfl
        | cons b l ih => show (flat 59 (.int (b : Nat)) && flatL 59 (nl l)) = true; rw [ih] <;> rfl
      exact this _
    unfold cmpD eqv
    simp only [h]
    rfl
section
variable {Δ : Tab} (K : Kb Δ)
include K
end

end Ev

set_option Elab.async false
set_option linter.all false
set_option maxRecDepth 100000
set_option maxHeartbeats 8000000
/-! X5: printed by renum.py. Own work. -/
namespace Ev
local macro_rules | `(tactic| walk_at "side") => `(tactic| first | assumption | omega | (have hLIM := LIM_n; have hB62 := B62_eq; have hB63 := B63_eq; (try simp only [List.length_append, List.length_cons, List.length_nil, List.length_map, List.length_reverse, List.length_replicate]); omega))
local macro_rules | `(tactic| walk_at "nrm") => `(tactic| try dsimp only [vrOf, frzAt, backAt, List.take_succ_cons, List.take_zero, allSome, List.set_cons_zero, List.set_cons_succ, outsTo, lockL, lockS, unlockL, unlockS, En.get, List.getElem?_cons_zero, List.getElem?_cons_succ, wipeE, backE])
local macro_rules | `(tactic| walk_at "ev1") => `(tactic| first
  | refine ok_lit ?_
  | refine ok_var rfl ?_
  | refine ok_bin ?_
  | refine ok_cmp ?_
  | refine ok_call ?_
  | refine ok_bi ?_
  | refine ok_sub ?_
  | refine oks_cons ?_
  | refine oks_nil ?_
  | refine ok_and ?_
  | refine ok_or ?_
  | refine ok_not ?_
  | refine ok_ifx ?_
  | refine ok_app rfl ?_
  | refine ok_mth (by decide) ?_
  | refine ok_sl ?_
  | refine ok_rev ?_
  | refine ok_lst ?_
  | refine ok_tup ?_
  | refine ok_dict0 ?_
  | refine ok_lrng1 ?_
  | refine okt_val ?_
  | refine okt_not ?_
  | refine okt_and ?_
  | refine okt_or ?_
  | refine okts_nil ?_
  | refine okts_cons ?_
  | refine oki_seq ?_
  | refine oki_rng1 ?_
  | refine oki_rng2 ?_
  | refine oki_enum ?_
  | refine oki_zip ?_
  | refine oki_back ?_
  | refine okz_nil ?_
  | refine oks_expr ?_
  | refine oks_set ?_
  | refine oks_par ?_
  | refine oks_unp ?_
  | refine unp_intro rfl rfl rfl ?_
  | refine oks_ret ?_
  | refine oks_iff ?_
  | refine oks_for ?_
  | refine oks_while ?_
  | refine ok_keep_v ?_
  | refine ok_keep_o ?_
  | (refine ok_keep_s rfl ?_; walk_at "nrm")
  | refine okk_nil ?_
  | refine okk_cons ?_
  | refine okl_nil ?_
  | refine okl_v ?_
  | refine okl_o ?_
  | (refine okl_s rfl ?_; walk_at "nrm")
  | (refine ok_store_v (Nat.le_of_ble_eq_true rfl) ?_; walk_at "nrm")
  | (refine ok_store_o (Nat.le_of_ble_eq_true rfl) ?_; walk_at "nrm")
  | (refine ok_store_s (Nat.le_of_ble_eq_true rfl) rfl ?_; walk_at "nrm")
  | refine lf_add_int rfl rfl ?_
  | refine lf_sub_int rfl rfl ?_
  | refine lf_add_str rfl rfl (by walk_at "side") ?_
  | refine lf_add_lst rfl rfl (by walk_at "side") ?_
  | refine lf_lt_int rfl rfl ?_
  | refine lf_gt_int rfl rfl ?_
  | refine lf_le_int rfl rfl ?_
  | refine lf_ge_int rfl rfl ?_
  | refine lf_eq_int rfl rfl ?_
  | refine lf_ne_int rfl rfl ?_
  | refine lf_eq_str rfl rfl ?_
  | refine lf_ne_str rfl rfl ?_
  | refine lf_isin_ch rfl rfl ?_
  | refine lf_notin_ch rfl rfl ?_
  | refine lf_is_non rfl rfl (fun b h => nomatch h) ?_
  | refine lf_isnot_non rfl rfl (fun b h => nomatch h) ?_
  | refine lf_mod rfl rfl (by walk_at "side") ?_
  | refine ⟨fun _ => ?_, fun h => no_tf h⟩
  | refine ⟨fun h => no_ft h, fun _ => ?_⟩
  | refine ⟨fun _ => ?_, fun h => no_ft h⟩
  | refine ⟨fun h => no_tf h, fun _ => ?_⟩
  | refine ⟨fun _ => ?_, fun h => absurd (by walk_at "side") (of_decide_eq_false h)⟩
  | refine ⟨fun h => absurd (of_decide_eq_true h) (by walk_at "side"), fun _ => ?_⟩
  | refine ⟨fun _ => ?_, fun h => absurd (of_decide_eq_true h) (by walk_at "side")⟩
  | refine ⟨fun h => absurd (by walk_at "side") (of_decide_eq_false h), fun _ => ?_⟩
  | refine ⟨fun _ => ?_, fun h => absurd (nd_f h) (by walk_at "side")⟩
  | refine ⟨fun h => absurd (by walk_at "side") (nd_t h), fun _ => ?_⟩
  | refine ⟨fun _ => ?_, fun h => absurd (by walk_at "side") (nd_t h)⟩
  | refine ⟨fun h => absurd (nd_f h) (by walk_at "side"), fun _ => ?_⟩
  | (refine nx_nx ?_)
  | (refine nx_rt ?_)
  | refine retq_v ?_
  | refine retq_o ?_
  | refine retq_w rfl rfl ?_
  | (refine retq_p rfl rfl ?_; walk_at "nrm")
  | (refine retq_f rfl ?_; walk_at "nrm")
  | (refine fin_rt rfl rfl ?_; walk_at "nrm")
  | (refine fin_nx rfl rfl ?_; walk_at "nrm")
  | refine cl_intro rfl rfl rfl ?_
  | (refine ⟨_, _, _, rfl, rfl, rfl, ?_⟩; simp only [frzDup, List.any_cons, List.any_nil, Nat.reduceBEq, beq_self_eq_true, Bool.or_false, Bool.or_true, Bool.true_or, if_true, Bool.false_eq_true, if_false, En.get, List.getElem?_cons_zero, List.getElem?_cons_succ, List.set_cons_zero, List.set_cons_succ])
  | refine ⟨_, _, rfl, rfl, ?_⟩
  | refine ⟨_, _, _, _, rfl, rfl, rfl, rfl, ?_⟩
  | refine lim_intro (by walk_at "side") ?_)
local macro_rules | `(tactic| walk_at "ev") => `(tactic| ((repeat walk_at "ev1"); walk_at "nrm"))
local macro_rules | `(tactic| walk_at "unl") => `(tactic| simp only [unlockL, unlockS, lockL, lockS, En.get, List.getElem?_cons_zero, List.getElem?_cons_succ, List.set_cons_zero, List.set_cons_succ, eq_self, if_true])
theorem any_nl {S : List Nat} {h : Nat} : ((nl S).any fun k => eqD k (.int (h : Nat))) = decide (h ∈ S) := by
  induction S with
  | nil => rfl
  | cons a S ih =>
    show (eqD (.int (a : Nat)) (.int (h : Nat)) || (nl S).any fun k => eqD k (.int (h : Nat))) = _
    rw [ih]
    by_cases e : h = a
    · subst e; simp [eqD]
    · have : ((a : Int) == (h : Int)) = false := by
        rw [beq_eq_false_iff_ne]; omega
      simp [eqD, this, e]
theorem notin_dic {S : List Nat} {vs : List D} {h : Nat} : qC .notin (.int (h : Nat)) (.dic (nl S) vs) = some (!decide (h ∈ S)) := by
  rw [qC_eq]
  show (match inD (.int (h : Nat)) (.dic (nl S) vs) with
    | some b => some (!b)
    | none => none) = _
  have : inD (.int (h : Nat)) (.dic (nl S) vs) = some (decide (h ∈ S)) := by
    show (if isKey (.int (h : Nat)) then some _ else none) = _
    rw [any_nl] <;> rfl
  rw [this]
theorem putD_new {v w : D} : ∀ (S : List Nat) {h : Nat}, h ∉ S → putD (.int (h : Nat)) v (nl S) (List.replicate S.length w) = (nl (S ++ [h]), List.replicate S.length w ++ [v])
  | [], _, _ => rfl
  | a :: S, h, n => by
    have e : eqD (.int (a : Nat)) (.int (h : Nat)) = false := by
      have : a ≠ h := fun z => n (by rw [z]; exact List.mem_cons_self)
      show ((a : Int) == (h : Int)) = false
      rw [beq_eq_false_iff_ne]; omega
    have ih := putD_new (v := v) (w := w) S fun z => n (List.mem_cons_of_mem a z)
    show (if eqD (.int (a : Nat)) (.int (h : Nat)) = true then _ else match putD (.int (h : Nat)) v (nl S) (List.replicate S.length w) with
      | (x, y) => ((.int (a : Nat) : D) :: x, w :: y)) = _
    rw [e, ih] <;> rfl
def tr1 (S : List Nat) : List D := List.replicate S.length (.bl true)
theorem putD_tr {S : List Nat} {h : Nat} (n : h ∉ S) : putD (.int (h : Nat)) (.bl true) (nl S) (tr1 S) = (nl (S ++ [h]), tr1 (S ++ [h])) := by
  unfold tr1
  rw [putD_new S n, List.length_append, List.length_singleton, List.replicate_succ']
theorem rnds_len {n : Nat} {M : List Nat} : ∀ {R : List (List Nat)}, Rnds n M R → R.length ≤ R.flatten.length
  | [], _ => Nat.le_refl _
  | l :: R, r => by
    rw [List.flatten_cons, List.length_append, List.length_cons]
    have h1 := (r.cyc l List.mem_cons_self).pos
    have h2 := rnds_len (R := R) ⟨fun l hl => r.cyc l (List.mem_cons_of_mem _ hl), fun l hl => r.lt l (List.mem_cons_of_mem _ hl), (by have := r.nd; rw [List.flatten_cons] at this; exact (List.nodup_append.mp this).2.1)⟩
    omega
theorem rnds_mem {n : Nat} {M : List Nat} {R : List (List Nat)} (r : Rnds n M R) {y : Nat} (hy : y ∈ R.flatten) : y < n := by
  obtain ⟨lot, h1, h2⟩ := List.mem_flatten.mp hy
  exact r.lt lot h1 y h2
theorem rnds_le {n : Nat} {M : List Nat} {R : List (List Nat)} (r : Rnds n M R) : R.length ≤ n := Nat.le_trans (rnds_len r) (nodup_len r.nd fun y hy => rnds_mem r hy)
/-- rounds as they lie -/
abbrev rl (R : List (List Nat)) : List D := R.map fun l => .lst (nl l)
theorem nl_snoc {L : List Nat} {a : Nat} : nl L ++ [.int (a : Nat)] = nl (L ++ [a]) := by unfold nl; rw [List.map_append] <;> rfl
section
variable {Δ : Tab} (K : Kb Δ)
include K
theorem rd74 (k : Nat) {n : Nat} {M : List Nat} {md : Md} (P : IsP n M) (hn : n ≤ 1000) : ∃ R, RndsA n M R ∧ Phi Δ (k + 1) 14 [⟨md, .lst (nl M)⟩] = .ret true (.lst (rl R)) [⟨md, .lst (nl M)⟩] := by
  have hL := LIM_n
  have hB := B62_eq
  have hF := FUEL_eq
  suffices h : (Phi Δ (k + 1) 14 [⟨md, .lst (nl M)⟩]).Ok fun o d outs => ∃ R, RndsA n M R ∧ o = true ∧ d = .lst (rl R) ∧ outs = [⟨md, .lst (nl M)⟩] by
    obtain ⟨o, d, outs, e, R, r, rfl, rfl, rfl⟩ := h
    exact ⟨R, r, e⟩
  (refine ok_phi (K.h14) ⟨rfl, by decide⟩ ?_; simp only [frzAt, List.map_cons, List.map_nil, Nat.reduceSub, List.reduceReplicate, List.cons_append, List.nil_append, List.getElem?_cons_zero, List.getElem?_cons_succ, List.set_cons_zero, List.set_cons_succ, List.append_nil])
  walk_at "ev"
  refine ⟨_, rfl, ?_⟩
  walk_at "ev"
  refine ⟨(n : Int), by show some (D.int _) = _; rw [nl_len, P.len], ⟨by omega, by omega⟩, ?_⟩
  rw [rng_nl]
  refine ok_forN n (fun i ρ => ∃ R x3 x4 x5, Rnds n M R ∧ (∀ x, x < i → x ∈ R.flatten) ∧ ρ = [some ⟨md, .lst (nl M)⟩, some ⟨.own, .dic (nl R.flatten) (tr1 R.flatten)⟩, some ⟨.own, .lst (rl R)⟩, x3, x4, x5]) ⟨[], none, none, none, ⟨(fun _ h => nomatch h), (fun _ h => nomatch h), List.Pairwise.nil⟩, fun x h => absurd h (by omega), rfl⟩ ?_ ?_
  · rintro x hx ρ ⟨R, x3, x4, x5, r, hall, rfl⟩
    have hSx : ∀ y ∈ R.flatten, y < n := fun y hy => rnds_mem r hy
    have hS := nodup_len r.nd hSx
    refine ok_withTg rfl ?_
    walk_at "nrm"
    unfold bb14_0
    walk_at "ev"
    refine ⟨_, rfl, ?_⟩
    walk_at "ev"
    refine ok_whGo (fun m ρ => ∃ k, m + (R.flatten.length + k) = n ∧ (R.flatten ++ trc M x k).Nodup ∧ ρ = [some ⟨md, .lst (nl M)⟩, some ⟨.own, .dic (nl (R.flatten ++ trc M x k)) (tr1 (R.flatten ++ trc M x k))⟩, some ⟨.own, .lst (rl R)⟩, some ⟨.fz, .int (x : Nat)⟩, some ⟨.fz, .int (itn M k x : Nat)⟩, some ⟨.own, .lst (nl (trc M x k))⟩])
      (n - R.flatten.length) _ _ (by omega) ⟨0, by omega, by rw [show trc M x 0 = [] from rfl, List.append_nil]; exact r.nd, by rw [show trc M x 0 = [] from rfl, List.append_nil] <;> rfl⟩ ?_
    rintro m ρ ⟨j, hm, nd, rfl⟩
    have hix := P.itn_lt j hx
    have hlt : ∀ y ∈ R.flatten ++ trc M x j, y < n := fun y hy => by
      rcases List.mem_append.mp hy with h | h
      · exact hSx y h
      · obtain ⟨i, hi, e⟩ := List.getElem_of_mem h
        rw [trc_get] at e
        rw [← e]
        exact P.itn_lt i hx
    walk_at "ev"
    refine lf_cmp notin_dic rfl rfl ?_
    walk_at "ev"
    by_cases hc : itn M j x ∈ R.flatten ++ trc M x j
    · rw [decide_eq_true hc]
      simp only [Bool.not_true, Bool.false_eq_true, if_false]
      refine nx_nx ?_
      walk_at "ev"
      refine lf_cmp ne_nil_nl rfl rfl ?_
      walk_at "ev"
      cases j with
      | zero =>
        refine ⟨(fun z => nomatch z), fun _ => ?_⟩
        walk_at "ev"
        have e0 : R.flatten ++ trc M x 0 = R.flatten := List.append_nil _
        rw [e0] at hc ⊢
        refine ⟨R, _, _, _, r, fun y hy => ?_, rfl⟩
        by_cases h : y = x
        · rw [h]; exact hc
        · exact hall y (by omega)
      | succ j =>
        have hne : (trc M x (j + 1)).isEmpty = false := by
          rw [List.isEmpty_eq_false_iff, ← List.length_pos_iff, trc_len]; omega
        rw [hne]
        refine ⟨fun _ => ?_, fun z => nomatch z⟩
        have nd2 := (List.nodup_append.mp nd).2.1
        have hxn : x ∉ R.flatten := fun h => by
          refine (List.nodup_append.mp nd).2.2 x h x ?_ rfl
          unfold trc
          exact List.mem_map.mpr ⟨0, List.mem_range.mpr (by omega), rfl⟩
        have ec := trc_close P r hx hxn (Nat.succ_pos j) nd2 hc
        have cy := trc_cyc (Nat.succ_pos j) nd2 ec
        have hR := rnds_le r
        walk_at "ev"
        refine ⟨_, rfl, by rw [List.length_map]; omega, ?_⟩
        walk_at "ev"
        refine ⟨R ++ [trc M x (j + 1)], some ⟨.fz, .int (x : Nat)⟩, some ⟨.fz, .int (itn M (j + 1) x : Nat)⟩, some ⟨.fz, .lst (nl (trc M x (j + 1)))⟩, rnds_snoc r cy (fun y hy => hlt y (List.mem_append_right _ hy)) (fun y hy z => (List.nodup_append.mp nd).2.2 y z y hy rfl), fun y hy => ?_, ?_⟩
        · rw [List.flatten_append, List.mem_append]
          by_cases h : y = x
          · right
            rw [h]
            simp only [List.flatten_cons, List.flatten_nil, List.append_nil]
            unfold trc
            exact List.mem_map.mpr ⟨0, List.mem_range.mpr (by omega), rfl⟩
          · exact .inl (hall y (by omega))
        · rw [List.flatten_append, List.flatten_cons, List.flatten_nil, List.append_nil]
          unfold rl
          rw [List.map_append] <;> rfl
    · rw [decide_eq_false hc]
      simp only [Bool.not_false, if_true]
      have nd' : (R.flatten ++ trc M x (j + 1)).Nodup := by
        rw [trc_succ, ← List.append_assoc, List.nodup_append]
        exact ⟨nd, by simp, fun a ha b hb => by rintro rfl; rw [List.mem_singleton.mp hb] at ha; exact hc ha⟩
      have hlen := nodup_len nd' (fun y hy => by
        rw [trc_succ, ← List.append_assoc] at hy
        rcases List.mem_append.mp hy with h | h
        · exact hlt y h
        · rw [List.mem_singleton.mp h]; exact hix)
      rw [List.length_append, trc_len] at hlen
      refine oks_putD ?_
      walk_at "ev"
      refine ⟨_, rfl, ?_⟩
      walk_at "ev"
      refine ⟨by rw [nl_len, List.length_append, trc_len]; omega, ?_⟩
      rw [putD_tr hc]
      walk_at "nrm"
      walk_at "ev"
      refine ⟨_, rfl, by rw [nl_len, trc_len]; omega, ?_⟩
      rw [nl_snoc]
      walk_at "ev"
      refine lf_sub (nx_sub (by rw [P.len]; exact hix)) rfl rfl ?_
      walk_at "ev"
      refine ⟨m - 1, by omega, j + 1, by omega, nd', ?_⟩
      rw [trc_succ, itn_succ, List.append_assoc]
  · rintro ρ ⟨R, x3, x4, x5, r, hall, rfl⟩
    walk_at "nrm"
    walk_at "ev"
    exact ⟨R, ⟨r, hall⟩, rfl, rfl, rfl⟩
end

end Ev

set_option Elab.async false
set_option linter.all false
set_option maxRecDepth 100000
set_option maxHeartbeats 8000000
/-! X6: printed by renum.py. Own work. -/
namespace Ev
local macro_rules | `(tactic| walk_at "side") => `(tactic| first | assumption | omega | (have hLIM := LIM_n; have hB62 := B62_eq; have hB63 := B63_eq; (try simp only [List.length_append, List.length_cons, List.length_nil, List.length_map, List.length_reverse, List.length_replicate]); omega))
local macro_rules | `(tactic| walk_at "nrm") => `(tactic| try dsimp only [vrOf, frzAt, backAt, List.take_succ_cons, List.take_zero, allSome, List.set_cons_zero, List.set_cons_succ, outsTo, lockL, lockS, unlockL, unlockS, En.get, List.getElem?_cons_zero, List.getElem?_cons_succ, wipeE, backE])
local macro_rules | `(tactic| walk_at "ev1") => `(tactic| first
  | refine ok_lit ?_
  | refine ok_var rfl ?_
  | refine ok_bin ?_
  | refine ok_cmp ?_
  | refine ok_call ?_
  | refine ok_bi ?_
  | refine ok_sub ?_
  | refine oks_cons ?_
  | refine oks_nil ?_
  | refine ok_and ?_
  | refine ok_or ?_
  | refine ok_not ?_
  | refine ok_ifx ?_
  | refine ok_app rfl ?_
  | refine ok_mth (by decide) ?_
  | refine ok_sl ?_
  | refine ok_rev ?_
  | refine ok_lst ?_
  | refine ok_tup ?_
  | refine ok_dict0 ?_
  | refine ok_lrng1 ?_
  | refine okt_val ?_
  | refine okt_not ?_
  | refine okt_and ?_
  | refine okt_or ?_
  | refine okts_nil ?_
  | refine okts_cons ?_
  | refine oki_seq ?_
  | refine oki_rng1 ?_
  | refine oki_rng2 ?_
  | refine oki_enum ?_
  | refine oki_zip ?_
  | refine oki_back ?_
  | refine okz_nil ?_
  | refine oks_expr ?_
  | refine oks_set ?_
  | refine oks_par ?_
  | refine oks_unp ?_
  | refine unp_intro rfl rfl rfl ?_
  | refine oks_ret ?_
  | refine oks_iff ?_
  | refine oks_for ?_
  | refine oks_while ?_
  | refine ok_keep_v ?_
  | refine ok_keep_o ?_
  | (refine ok_keep_s rfl ?_; walk_at "nrm")
  | refine okk_nil ?_
  | refine okk_cons ?_
  | refine okl_nil ?_
  | refine okl_v ?_
  | refine okl_o ?_
  | (refine okl_s rfl ?_; walk_at "nrm")
  | (refine ok_store_v (Nat.le_of_ble_eq_true rfl) ?_; walk_at "nrm")
  | (refine ok_store_o (Nat.le_of_ble_eq_true rfl) ?_; walk_at "nrm")
  | (refine ok_store_s (Nat.le_of_ble_eq_true rfl) rfl ?_; walk_at "nrm")
  | refine lf_add_int rfl rfl ?_
  | refine lf_sub_int rfl rfl ?_
  | refine lf_add_str rfl rfl (by walk_at "side") ?_
  | refine lf_add_lst rfl rfl (by walk_at "side") ?_
  | refine lf_lt_int rfl rfl ?_
  | refine lf_gt_int rfl rfl ?_
  | refine lf_le_int rfl rfl ?_
  | refine lf_ge_int rfl rfl ?_
  | refine lf_eq_int rfl rfl ?_
  | refine lf_ne_int rfl rfl ?_
  | refine lf_eq_str rfl rfl ?_
  | refine lf_ne_str rfl rfl ?_
  | refine lf_isin_ch rfl rfl ?_
  | refine lf_notin_ch rfl rfl ?_
  | refine lf_is_non rfl rfl (fun b h => nomatch h) ?_
  | refine lf_isnot_non rfl rfl (fun b h => nomatch h) ?_
  | refine lf_mod rfl rfl (by walk_at "side") ?_
  | refine ⟨fun _ => ?_, fun h => no_tf h⟩
  | refine ⟨fun h => no_ft h, fun _ => ?_⟩
  | refine ⟨fun _ => ?_, fun h => no_ft h⟩
  | refine ⟨fun h => no_tf h, fun _ => ?_⟩
  | refine ⟨fun _ => ?_, fun h => absurd (by walk_at "side") (of_decide_eq_false h)⟩
  | refine ⟨fun h => absurd (of_decide_eq_true h) (by walk_at "side"), fun _ => ?_⟩
  | refine ⟨fun _ => ?_, fun h => absurd (of_decide_eq_true h) (by walk_at "side")⟩
  | refine ⟨fun h => absurd (by walk_at "side") (of_decide_eq_false h), fun _ => ?_⟩
  | refine ⟨fun _ => ?_, fun h => absurd (nd_f h) (by walk_at "side")⟩
  | refine ⟨fun h => absurd (by walk_at "side") (nd_t h), fun _ => ?_⟩
  | refine ⟨fun _ => ?_, fun h => absurd (by walk_at "side") (nd_t h)⟩
  | refine ⟨fun h => absurd (nd_f h) (by walk_at "side"), fun _ => ?_⟩
  | (refine nx_nx ?_)
  | (refine nx_rt ?_)
  | refine retq_v ?_
  | refine retq_o ?_
  | refine retq_w rfl rfl ?_
  | (refine retq_p rfl rfl ?_; walk_at "nrm")
  | (refine retq_f rfl ?_; walk_at "nrm")
  | (refine fin_rt rfl rfl ?_; walk_at "nrm")
  | (refine fin_nx rfl rfl ?_; walk_at "nrm")
  | refine cl_intro rfl rfl rfl ?_
  | (refine ⟨_, _, _, rfl, rfl, rfl, ?_⟩; simp only [frzDup, List.any_cons, List.any_nil, Nat.reduceBEq, beq_self_eq_true, Bool.or_false, Bool.or_true, Bool.true_or, if_true, Bool.false_eq_true, if_false, En.get, List.getElem?_cons_zero, List.getElem?_cons_succ, List.set_cons_zero, List.set_cons_succ])
  | refine ⟨_, _, rfl, rfl, ?_⟩
  | refine ⟨_, _, _, _, rfl, rfl, rfl, rfl, ?_⟩
  | refine lim_intro (by walk_at "side") ?_)
local macro_rules | `(tactic| walk_at "ev") => `(tactic| ((repeat walk_at "ev1"); walk_at "nrm"))
local macro_rules | `(tactic| walk_at "unl") => `(tactic| simp only [unlockL, unlockS, lockL, lockS, En.get, List.getElem?_cons_zero, List.getElem?_cons_succ, List.set_cons_zero, List.set_cons_succ, eq_self, if_true])
/-- done t times, place by place -/
def pw (n : Nat) (M : List Nat) (t : Nat) : List Nat := (List.range n).map (itn M t)
theorem pw_of {n t : Nat} {M F : List Nat} (hl : F.length = n) (h : ∀ x, x < n → F[x]? = some (itn M t x)) : F = pw n M t := by
  apply List.ext_getElem?
  intro x
  unfold pw
  by_cases hx : x < n
  · rw [h x hx, List.getElem?_map, List.getElem?_range hx] <;> rfl
  · rw [List.getElem?_eq_none (by omega), List.getElem?_eq_none (by rw [List.length_map, List.length_range]; omega)]
theorem idx_mod {a b : Nat} : ((a : Int) + (b : Int)) = ((a + b : Nat) : Int) := by omega
theorem rows_eq {R : List (List Nat)} : rl R = R.map fun l => .lst (nl l) := rfl
section
variable {Δ : Tab} (K : Kb Δ)
include K
theorem of74 (k : Nat) {n t : Nat} {M : List Nat} {md : Md} (P : IsP n M) (hn : n ≤ 1000) : Phi Δ (k + 2) 15 [⟨md, .lst (nl M)⟩, ⟨.fz, .int (t : Nat)⟩] = .ret true (.lst (nl (pw n M t))) [⟨md, .lst (nl M)⟩, ⟨.fz, .int (t : Nat)⟩] := by
  have hL := LIM_n
  obtain ⟨R, r, e14⟩ := rd74 K k P hn (md := md)
  apply CR.Ok.eq
  (refine ok_phi (K.h15) ⟨rfl, by decide⟩ ?_; simp only [frzAt, List.map_cons, List.map_nil, Nat.reduceSub, List.reduceReplicate, List.cons_append, List.nil_append, List.getElem?_cons_zero, List.getElem?_cons_succ, List.set_cons_zero, List.set_cons_succ, List.append_nil])
  walk_at "ev"
  (refine call_of (e14) rfl ?_; walk_at "nrm")
  walk_at "ev"
  rw [rows_eq]
  refine ok_forM (fun i ρ => ∃ F x3 x4 x5, F.length = n ∧ (∀ x, x ∈ (R.take i).flatten → F[x]? = some (itn M t x)) ∧ ρ = [some ⟨md, .lst (nl M)⟩, some ⟨.fz, .int (t : Nat)⟩, some ⟨.own, .lst (nl F)⟩, x3, x4, x5]) ⟨M, none, none, none, P.len, fun x h => by simp at h, rfl⟩ ?_ ?_
  · rintro i hi ρ ⟨F, x3, x4, x5, h1, h2, rfl⟩
    have hm : R[i] ∈ R := List.getElem_mem hi
    generalize hlot : R[i] = lot at hm ⊢
    have cy := r.cyc lot hm
    have hlt := r.lt lot hm
    have hpos := cy.pos
    refine ok_withTg rfl ?_
    walk_at "nrm"
    unfold bb15_1
    walk_at "ev"
    rw [enum_nl]
    refine ok_forN lot.length (fun j ρ => ∃ F x4 x5, F.length = n ∧ (∀ x, x ∈ (R.take i).flatten ∨ x ∈ lot.take j → F[x]? = some (itn M t x)) ∧ ρ = [some ⟨md, .lst (nl M)⟩, some ⟨.fz, .int (t : Nat)⟩, some ⟨.own, .lst (nl F)⟩, some ⟨.fz, .lst (nl lot)⟩, x4, x5]) ⟨F, _, _, h1, fun x h => h.elim (h2 x) (fun h => by simp at h), rfl⟩ ?_ ?_
    · rintro j hj ρ ⟨F, x4, x5, h1, h2, rfl⟩
      have hx : lot[j] < n := hlt _ (List.getElem_mem hj)
      refine ok_withTg rfl ?_
      walk_at "nrm"
      unfold bb15_0
      refine oks_putL ?_
      walk_at "ev"
      have hmod : 0 < ((nl lot).length : Int) := by rw [nl_len]; omega
      refine lf_mod rfl rfl hmod ?_
      walk_at "ev"
      have hr : (j + t) % lot.length < lot.length := Nat.mod_lt _ hpos
      have e1 : ((j : Int) + (t : Int)) % ((nl lot).length : Int) = (((j + t) % lot.length : Nat) : Int) := by rw [nl_len, idx_mod]; omega
      rw [e1]
      refine lf_sub (nl_get hr) rfl rfl ?_
      walk_at "ev"
      refine ⟨_, rfl, ?_⟩
      walk_at "ev"
      refine ⟨_, _, _, rfl, rfl, ix_nat (by rw [nl_len, h1, nx_eq hj]; exact hx), ?_⟩
      walk_at "ev"
      rw [nl_set, nx_eq hj]
      refine ⟨_, _, _, by rw [List.length_set, h1], fun x h => ?_, rfl⟩
      by_cases hxe : x = lot[j]
      · rw [hxe, List.getElem?_set_self (by rw [h1]; exact hx), cy.itn t j hj]
      · rw [List.getElem?_set_ne (fun z => hxe z.symm)]
        refine h2 x (h.imp id fun h => ?_)
        rw [List.take_succ_eq_append_getElem hj, List.mem_append] at h
        rcases h with h | h
        · exact h
        · exact absurd (List.mem_singleton.mp h) hxe
    · rintro ρ ⟨F, x4, x5, h1, h2, rfl⟩
      walk_at "nrm"
      walk_at "ev"
      refine ⟨F, _, _, _, h1, fun x h => h2 x ?_, rfl⟩
      rw [List.take_succ_eq_append_getElem hi, List.flatten_append, List.mem_append, hlot] at h
      rcases h with h | h
      · exact .inl h
      · right
        rw [List.take_length]
        simpa using h
  · rintro ρ ⟨F, x3, x4, x5, h1, h2, rfl⟩
    rw [List.take_length] at h2
    walk_at "nrm"
    walk_at "ev"
    refine ⟨rfl, ?_, rfl⟩
    rw [pw_of h1 fun x hx => h2 x (r.all x hx)]
end
/-! ### common numbers -/
def lcmL (ns : List Nat) : Nat := ns.foldl Nat.lcm 1
theorem lcmL_snoc {ns : List Nat} {a : Nat} : lcmL (ns ++ [a]) = Nat.lcm (lcmL ns) a := by unfold lcmL; rw [List.foldl_append] <;> rfl
theorem lcm_form {a b : Nat} : a / Nat.gcd a b * b = Nat.lcm a b := by
  unfold Nat.lcm
  rw [Nat.div_mul_right_comm (Nat.gcd_dvd_left a b)]
theorem lcmL_dvd {t : Nat} : ∀ (ns : List Nat), (∀ a ∈ ns, a ∣ t) ↔ lcmL ns ∣ t := by
  have h : ∀ (ns : List Nat) (c : Nat), ns.foldl Nat.lcm c ∣ t ↔ c ∣ t ∧ ∀ a ∈ ns, a ∣ t := by
    intro ns
    induction ns with
    | nil => intro c; simp
    | cons a ns ih =>
      intro c
      rw [List.foldl_cons, ih, Nat.lcm_dvd_iff]
      simp only [List.mem_cons, forall_eq_or_imp]
      exact ⟨fun h => ⟨h.1.1, h.1.2, h.2⟩, fun h => ⟨⟨h.1, h.2.1⟩, h.2.2⟩⟩
  intro ns
  rw [lcmL, h]
  exact ⟨fun h => ⟨Nat.one_dvd t, h⟩, fun h => h.2⟩
theorem lcmL_pos : ∀ {ns : List Nat}, (∀ a ∈ ns, 0 < a) → 0 < lcmL ns := by
  have h : ∀ (ns : List Nat) (c : Nat), 0 < c → (∀ a ∈ ns, 0 < a) → 0 < ns.foldl Nat.lcm c := by
    intro ns
    induction ns with
    | nil => intro c hc _; exact hc
    | cons a ns ih =>
      intro c hc ha
      exact ih _ (Nat.lcm_pos hc (ha a List.mem_cons_self)) fun b hb => ha b (List.mem_cons_of_mem _ hb)
  exact fun {_} ha => h _ 1 Nat.one_pos ha
theorem lcmL_le {B : Nat} : ∀ {ns : List Nat}, (∀ a ∈ ns, 0 < a ∧ a ≤ B) → lcmL ns ≤ B ^ ns.length := by
  have h : ∀ (ns : List Nat) (c : Nat), (∀ a ∈ ns, 0 < a ∧ a ≤ B) → ns.foldl Nat.lcm c ≤ c * B ^ ns.length := by
    intro ns
    induction ns with
    | nil => intro c _; simp
    | cons a ns ih =>
      intro c ha
      rw [List.foldl_cons, List.length_cons]
      refine Nat.le_trans (ih _ fun b hb => ha b (List.mem_cons_of_mem _ hb)) ?_
      have h1 : Nat.lcm c a ≤ c * a := Nat.div_le_self _ _
      have h2 : Nat.lcm c a ≤ c * B := Nat.le_trans h1 (Nat.mul_le_mul_left _ (ha a List.mem_cons_self).2)
      calc Nat.lcm c a * B ^ ns.length ≤ c * B * B ^ ns.length := Nat.mul_le_mul_right _ h2
        _ = c * B ^ (ns.length + 1) := by rw [Nat.pow_succ, Nat.mul_assoc, Nat.mul_comm B]
  exact fun {_} ha => by
    have := h _ 1 ha
    rw [Nat.one_mul] at this
    exact this
theorem lcm_small {ns : List Nat} (ha : ∀ a ∈ ns, 0 < a ∧ a ≤ 1000) (hl : ns.length ≤ 100) : lcmL ns < 2 ^ 1001 := by
  have h1 := lcmL_le ha
  have h2 : (1000 : Nat) ^ ns.length ≤ 1000 ^ 100 := Nat.pow_le_pow_right (by decide) hl
  have h3 : (1000 : Nat) ^ 100 ≤ (2 ^ 10) ^ 100 := Nat.pow_le_pow_left (by decide) 100
  rw [← Nat.pow_mul] at h3
  have h4 : (2 : Nat) ^ (10 * 100) < 2 ^ 1001 := Nat.pow_lt_pow_right (by decide) (by decide)
  exact Nat.lt_of_le_of_lt (Nat.le_trans h1 (Nat.le_trans h2 h3)) h4
theorem i_pow {a n : Nat} (h : a < 2 ^ n) : (a : Int) < 2 ^ n := by
  have : (a : Int) < ((2 ^ n : Nat) : Int) := Int.ofNat_lt.mpr h
  push_cast at this
  exact this
section
variable {Δ : Tab} (K : Kb Δ)
include K
theorem cm74 (k : Nat) {ns : List Nat} {md : Md} (ha : ∀ a ∈ ns, 0 < a ∧ a ≤ 1000) (hl : ns.length ≤ 100) : Phi Δ (k + 1) 16 [⟨md, .lst (nl ns)⟩] = .ret false (.int (lcmL ns : Nat)) [⟨md, .lst (nl ns)⟩] := by
  have hL := LIM_n
  apply CR.Ok.eq
  (refine ok_phi (K.h16) ⟨rfl, by decide⟩ ?_; simp only [frzAt, List.map_cons, List.map_nil, Nat.reduceSub, List.reduceReplicate, List.cons_append, List.nil_append, List.getElem?_cons_zero, List.getElem?_cons_succ, List.set_cons_zero, List.set_cons_succ, List.append_nil])
  walk_at "ev"
  refine ok_forM (g := fun p : Nat => D.int (p : Nat)) (L := ns) (fun i ρ => ∃ x2, ρ = [some ⟨md.lock, .lst (nl ns)⟩, some ⟨.fz, .int (lcmL (ns.take i) : Nat)⟩, x2]) ⟨none, rfl⟩ ?_ ?_
  · rintro i hi ρ ⟨x2, rfl⟩
    have hb := ha _ (List.getElem_mem hi)
    have ht : ∀ a ∈ ns.take i, 0 < a ∧ a ≤ 1000 := fun a h => ha a (List.mem_of_mem_take h)
    have hs := lcm_small ht (by rw [List.length_take]; omega)
    have hs0 := lcmL_pos fun a h => (ht a h).1
    rw [List.take_succ_eq_append_getElem hi, lcmL_snoc]
    generalize lcmL (ns.take i) = c at hs hs0 ⊢
    generalize ns[i] = b at hb ⊢
    refine ok_withTg rfl ?_
    walk_at "nrm"
    unfold bb16_0
    walk_at "ev"
    have hg : Nat.gcd c b ≤ 1000 := Nat.le_trans (Nat.le_of_dvd hb.1 (Nat.gcd_dvd_right c b)) hb.2
    have hg0 : 0 < Nat.gcd c b := Nat.gcd_pos_of_pos_left b hs0
    refine lf_fdiv (b := (Nat.gcd c b : Nat)) rfl rfl ⟨by omega, ?_⟩ ?_
    · have := log2_lt (i := (Nat.gcd c b : Nat)) (n := 10) (by omega) (by omega)
      omega
    walk_at "ev"
    have e1 : ((c : Int) / ((Nat.gcd c b : Nat) : Int)) = ((c / Nat.gcd c b : Nat) : Int) := (Int.natCast_ediv _ _).symm
    rw [e1]
    refine lf_mul_int rfl rfl (mul_ok (n := 1001) (m := 10) (Int.natCast_nonneg _) (i_pow (Nat.lt_of_le_of_lt (Nat.div_le_self _ _) hs)) (by omega) (by omega) (by omega)) ?_
    walk_at "ev"
    exact ⟨some ⟨.fz, .int (b : Nat)⟩, by rw [← Int.natCast_mul, lcm_form]⟩
  · rintro ρ ⟨x2, rfl⟩
    rw [List.take_length]
    walk_at "unl"
    walk_at "ev"
    exact ⟨rfl, rfl, rfl⟩
/-- the order of an arrangement by its rounds -/
def ordR (R : List (List Nat)) : Nat := lcmL (R.map List.length)
theorem len_list {α : Type} {L : List α} {g : α → D} : biD .len [.lst (L.map g)] = some (.v (.int (L.length : Nat))) := by
  show some (Vr.v (.int ((L.map g).length : Nat))) = _
  rw [List.length_map]
theorem lens74 (k : Nat) {n : Nat} {R : List (List Nat)} {M : List Nat} (r : RndsA n M R) (hn : n ≤ 60) : (∀ a ∈ R.map List.length, 0 < a ∧ a ≤ 1000) ∧ (R.map List.length).length ≤ 60 := by
  refine ⟨fun a h => ?_, by rw [List.length_map]; exact Nat.le_trans (rnds_le r.toRnds) hn⟩
  obtain ⟨l, hl, rfl⟩ := List.mem_map.mp h
  exact ⟨(r.cyc l hl).pos, by have := nodup_len (r.cyc l hl).nd (r.lt l hl); omega⟩
end

end Ev

set_option Elab.async false
set_option linter.all false
set_option maxRecDepth 100000
set_option maxHeartbeats 8000000
/-! X7: printed by renum.py. Own work. -/
namespace Ev
def fnd (j w : List Nat) : List Nat := w.filter fun c => decide (c ∈ j)
def addL (c : Nat) : List (List Nat) → List (List Nat)
  | [] => [[c]]
  | p :: ps => (c :: p) :: ps
def pcs (j : List Nat) : List Nat → List (List Nat)
  | [] => [[]]
  | c :: w => if c ∈ j then [] :: pcs j w else addL c (pcs j w)
def put : List Nat → List (List Nat) → List Nat
  | [], [] => []
  | [], p :: _ => p
  | _ :: _, [] => []
  | f :: fs, p :: ps => p ++ f :: put fs ps
structure WdJ (j fs : List Nat) (ps : List (List Nat)) : Prop where
  len : ps.length = fs.length + 1
  js : ∀ f ∈ fs, f ∈ j
  bs : ∀ p ∈ ps, ∀ c ∈ p, c ∉ j
theorem fnd_pos {j w : List Nat} {c : Nat} (h : c ∈ j) : fnd j (c :: w) = c :: fnd j w := by simp [fnd, h]
theorem fnd_neg {j w : List Nat} {c : Nat} (h : c ∉ j) : fnd j (c :: w) = fnd j w := by simp [fnd, h]
theorem pcs_ne (j w : List Nat) : pcs j w ≠ [] := by
  cases w with
  | nil => exact fun h => nomatch h
  | cons c w =>
    unfold pcs
    split
    · exact fun h => nomatch h
    · cases pcs j w <;> exact fun h => nomatch h
theorem wd_parts (j : List Nat) : ∀ w : List Nat, WdJ j (fnd j w) (pcs j w) ∧ put (fnd j w) (pcs j w) = w
  | [] => ⟨⟨rfl, (fun _ h => nomatch h), fun p h c hc => by rw [List.mem_singleton.mp h] at hc; cases hc⟩, rfl⟩
  | c :: w => by
    obtain ⟨⟨h1, h2, h3⟩, h4⟩ := wd_parts j w
    unfold pcs
    by_cases hc : c ∈ j
    · rw [if_pos hc, fnd_pos hc]
      refine ⟨⟨by rw [List.length_cons, List.length_cons]; exact congrArg (· + 1) h1, fun f hf => ?_, fun p hp => ?_⟩, ?_⟩
      · rcases List.mem_cons.mp hf with rfl | hf
        · exact hc
        · exact h2 f hf
      · rcases List.mem_cons.mp hp with rfl | hp
        · exact fun c h => nomatch h
        · exact h3 p hp
      · show [] ++ c :: put (fnd j w) (pcs j w) = _
        rw [h4] <;> rfl
    · rw [if_neg hc, fnd_neg hc]
      have h1' : (pcs j w).length = (fnd j w).length + 1 := h1
      have h4' : put (fnd j w) (pcs j w) = w := h4
      have h3' : ∀ p ∈ pcs j w, ∀ c ∈ p, c ∉ j := h3
      show WdJ j (fnd j w) _ ∧ put (fnd j w) _ = _
      cases hp : pcs j w with
      | nil => exact absurd hp (pcs_ne j w)
      | cons p ps =>
        rw [hp] at h1' h4' h3'
        refine ⟨⟨h1', h2, fun q hq => ?_⟩, ?_⟩
        · rcases List.mem_cons.mp hq with rfl | hq
          · intro b hb
            rcases List.mem_cons.mp hb with rfl | hb
            · exact hc
            · exact h3' p List.mem_cons_self b hb
          · exact h3' q (List.mem_cons_of_mem _ hq)
        · show put (fnd j w) ((c :: p) :: ps) = _
          generalize fnd j w = fs at h4'
          cases fs with
          | nil => rw [show p = w from h4'] at *; rfl
          | cons f fs => rw [← h4'] <;> rfl
theorem fnd_app {j u v : List Nat} : fnd j (u ++ v) = fnd j u ++ fnd j v := List.filter_append ..
theorem fnd_none {j p : List Nat} (h : ∀ c ∈ p, c ∉ j) : fnd j p = [] := List.filter_eq_nil_iff.mpr fun c hc => by simpa using h c hc
theorem pcs_app {j : List Nat} : ∀ {p : List Nat} {w : List Nat}, (∀ c ∈ p, c ∉ j) → pcs j (p ++ w) = (p ++ (pcs j w).headD []) :: (pcs j w).tail
  | [], w, _ => by
    cases h : pcs j w with
    | nil => exact absurd h (pcs_ne j w)
    | cons q qs => rw [List.nil_append, h] <;> rfl
  | c :: p, w, h => by
    have hc := h c List.mem_cons_self
    show (if c ∈ j then _ else addL c (pcs j (p ++ w))) = _
    rw [if_neg hc, pcs_app fun b hb => h b (List.mem_cons_of_mem _ hb)] <;> rfl
/-- the parts of what was put together -/
theorem parts_put {j : List Nat} : ∀ {fs : List Nat} {ps : List (List Nat)}, WdJ j fs ps → fnd j (put fs ps) = fs ∧ pcs j (put fs ps) = ps
  | [], [], h => by have := h.len; simp at this
  | [], [p], h => by
    have hp := h.bs p List.mem_cons_self
    refine ⟨fnd_none hp, ?_⟩
    have := pcs_app (w := []) hp
    rw [List.append_nil] at this
    show pcs j p = _
    rw [this]
    show [p ++ []] = _
    rw [List.append_nil]
  | [], _ :: _ :: _, h => by have := h.len; simp at this
  | f :: fs, [], h => by have := h.len; simp at this
  | f :: fs, p :: ps, h => by
    have hp := h.bs p List.mem_cons_self
    have hf := h.js f List.mem_cons_self
    obtain ⟨e1, e2⟩ := parts_put (j := j) (fs := fs) (ps := ps) ⟨by have := h.len; simp at this; exact this, fun f hf => h.js f (List.mem_cons_of_mem _ hf), fun p hp => h.bs p (List.mem_cons_of_mem _ hp)⟩
    show fnd j (p ++ f :: put fs ps) = _ ∧ pcs j (p ++ f :: put fs ps) = _
    have e3 : fnd j (f :: put fs ps) = f :: fs := by
      rw [fnd_pos hf, e1]
    have e4 : pcs j (f :: put fs ps) = [] :: ps := by
      show (if f ∈ j then _ else _) = _
      rw [if_pos hf, e2]
    refine ⟨by rw [fnd_app, fnd_none hp, e3] <;> rfl, ?_⟩
    rw [pcs_app hp, e4]
    show (p ++ []) :: ps = _
    rw [List.append_nil]
/-- one more letter behind -/
theorem pcs_snoc {j : List Nat} {c : Nat} : ∀ {u : List Nat}, pcs j (u ++ [c]) = if c ∈ j then pcs j u ++ [[]] else (pcs j u).dropLast ++ [(pcs j u).getLastD [] ++ [c]]
  | [] => by
    show (if c ∈ j then [] :: [[]] else addL c [[]]) = _
    split <;> rfl
  | a :: u => by
    have ih := pcs_snoc (j := j) (c := c) (u := u)
    have hu := pcs_ne j u
    show (if a ∈ j then [] :: pcs j (u ++ [c]) else addL a (pcs j (u ++ [c]))) = _
    rw [ih]
    show _ = if c ∈ j then (if a ∈ j then [] :: pcs j u else addL a (pcs j u)) ++ [[]] else (if a ∈ j then [] :: pcs j u else addL a (pcs j u)).dropLast ++ [(if a ∈ j then [] :: pcs j u else addL a (pcs j u)).getLastD [] ++ [c]]
    cases hp : pcs j u with
    | nil => exact absurd hp hu
    | cons p ps =>
      by_cases ha : a ∈ j <;> by_cases hc : c ∈ j
      · simp only [if_pos ha, if_pos hc] <;> rfl
      · simp only [if_pos ha, if_neg hc]
        cases ps <;> simp
      · simp only [if_neg ha, if_pos hc] <;> rfl
      · simp only [if_neg ha, if_neg hc]
        cases ps <;> simp [addL]
theorem fnd_snoc {j u : List Nat} {c : Nat} : fnd j (u ++ [c]) = if c ∈ j then fnd j u ++ [c] else fnd j u := by
  rw [fnd_app]
  split
  · rename_i h; rw [fnd_pos h] <;> rfl
  · rename_i h; rw [fnd_neg h]; simp [fnd]
theorem put_app {fs gs : List Nat} {f : Nat} : ∀ {ps qs : List (List Nat)}, ps.length = fs.length + 1 → put fs ps ++ f :: put gs qs = put (fs ++ f :: gs) (ps ++ qs) := by
  induction fs with
  | nil =>
    intro ps qs h
    cases ps with
    | nil => simp at h
    | cons p ps =>
      cases ps with
      | nil => rfl
      | cons q ps => simp at h
  | cons g fs ih =>
    intro ps qs h
    cases ps with
    | nil => simp at h
    | cons p ps =>
      show (p ++ g :: put fs ps) ++ f :: put gs qs = p ++ g :: put (fs ++ f :: gs) (ps ++ qs)
      rw [← ih (by simpa using h), List.append_assoc] <;> rfl
/-- cut at a joint -/
theorem put_cut {fs : List Nat} {ps : List (List Nat)} {k : Nat} (h : ps.length = fs.length + 1) (hk : k < fs.length) : put fs ps = put (fs.take k) (ps.take (k + 1)) ++ fs[k] :: put (fs.drop (k + 1)) (ps.drop (k + 1)) := by
  have e := put_app (f := fs[k]) (gs := fs.drop (k + 1)) (qs := ps.drop (k + 1)) (fs := fs.take k) (ps := ps.take (k + 1)) (by rw [List.length_take, List.length_take]; omega)
  rw [e, List.take_append_drop]
  congr 1
  rw [← List.drop_eq_getElem_cons hk, List.take_append_drop]
theorem wd_take {j fs : List Nat} {ps : List (List Nat)} {k : Nat} (h : WdJ j fs ps) (hk : k < fs.length) : WdJ j (fs.take k) (ps.take (k + 1)) :=
  ⟨by rw [List.length_take, List.length_take]; have := h.len; omega, fun f hf => h.js f (List.mem_of_mem_take hf), fun p hp => h.bs p (List.mem_of_mem_take hp)⟩
/-- where the joints stand -/
def jpl (j w : List Nat) : List Nat := (List.range w.length).filter fun i => decide (w.getD i 0 ∈ j)
theorem jpl_app {j u v : List Nat} {c : Nat} (hc : c ∈ j) : (jpl j (u ++ c :: v))[(fnd j u).length]? = some u.length := by
  have e : jpl j (u ++ c :: v) = jpl j u ++ u.length :: ((List.range v.length).map (u.length + 1 + ·)).filter fun i => decide ((u ++ c :: v).getD i 0 ∈ j) := by
    unfold jpl
    rw [List.length_append, List.length_cons, show u.length + (v.length + 1) = u.length + 1 + v.length by omega, List.range_add, List.filter_append, List.range_succ, List.filter_append, List.append_assoc]
    congr 1
    · refine List.filter_congr fun i hi => ?_
      rw [List.mem_range] at hi
      rw [List.getD_eq_getElem?_getD, List.getD_eq_getElem?_getD, List.getElem?_append_left hi]
    · rw [List.filter_cons_of_pos (by
        rw [List.getD_eq_getElem?_getD, List.getElem?_append_right (Nat.le_refl _), Nat.sub_self]
        simpa using hc)] <;> rfl
  have hl : ∀ w : List Nat, (jpl j w).length = (fnd j w).length := by
    intro w
    have : fnd j w = (jpl j w).map fun i => w.getD i 0 := by
      unfold jpl fnd
      have e : w = (List.range w.length).map fun i => w.getD i 0 := by
        apply List.ext_getElem
        · simp
        · intro i h1 h2
          simp [List.getD_eq_getElem?_getD, h1]
      conv => lhs; rw [e]
      rw [List.filter_map] <;> rfl
    rw [this, List.length_map]
  rw [e, ← hl u, List.getElem?_append_right (Nat.le_refl _), Nat.sub_self] <;> rfl
/-- turned by t -/
def rt (ps : List (List Nat)) (t : Nat) : List (List Nat) := (List.range ps.length).map fun i => ps.getD ((i + t) % ps.length) []
theorem rt_len {ps : List (List Nat)} {t : Nat} : (rt ps t).length = ps.length := by unfold rt; rw [List.length_map, List.length_range]
theorem rt_get {ps : List (List Nat)} {t i : Nat} (h : i < ps.length) : (rt ps t).getD i [] = ps.getD ((i + t) % ps.length) [] := by
  rw [List.getD_eq_getElem?_getD]
  unfold rt
  rw [List.getElem?_map, List.getElem?_range h] <;> rfl
theorem rt_rt {ps : List (List Nat)} {a b : Nat} : rt (rt ps a) b = rt ps (a + b) := by
  unfold rt
  rw [List.length_map, List.length_range]
  refine List.map_congr_left fun i hi => ?_
  rw [List.mem_range] at hi
  have hp : 0 < ps.length := by omega
  have := rt_get (ps := ps) (t := a) (Nat.mod_lt (i + b) hp)
  unfold rt at this
  rw [this, Nat.mod_add_mod]
  congr 2
  omega
theorem rt_cut {ps : List (List Nat)} {t : Nat} (h : t ≤ ps.length) : ps.drop t ++ ps.take t = rt ps t := by
  apply List.ext_getElem?
  intro i
  by_cases hi : i < ps.length
  · have e1 : (rt ps t)[i]? = ps[(i + t) % ps.length]? := by
      unfold rt
      rw [List.getElem?_map, List.getElem?_range hi]
      have := Nat.mod_lt (i + t) (show 0 < ps.length by omega)
      simp [List.getD_eq_getElem?_getD, List.getElem?_eq_getElem this]
    rw [e1]
    by_cases h2 : i < ps.length - t
    · rw [List.getElem?_append_left (by rw [List.length_drop]; exact h2), List.getElem?_drop, Nat.mod_eq_of_lt (by omega)]
      congr 1
      omega
    · rw [List.getElem?_append_right (by rw [List.length_drop]; omega), List.length_drop, List.getElem?_take_of_lt (by omega)]
      congr 1
      have : i + t = (i - (ps.length - t)) + ps.length := by omega
      rw [this, Nat.add_mod_right, Nat.mod_eq_of_lt (by omega)]
  · rw [List.getElem?_eq_none (by simp; omega), List.getElem?_eq_none (by rw [rt_len]; omega)]
theorem rt_mod {ps : List (List Nat)} {a b : Nat} (h : a % ps.length = b % ps.length) : rt ps a = rt ps b := by
  unfold rt
  refine List.map_congr_left fun i _ => ?_
  rw [Nat.add_mod i a, Nat.add_mod i b, h]
theorem rt_mem {ps : List (List Nat)} {t : Nat} {p : List Nat} (h : p ∈ rt ps t) : p ∈ ps := by
  unfold rt at h
  obtain ⟨i, hi, rfl⟩ := List.mem_map.mp h
  rw [List.mem_range] at hi
  have := Nat.mod_lt (i + t) (show 0 < ps.length by omega)
  rw [List.getD_eq_getElem?_getD, List.getElem?_eq_getElem this]
  exact List.getElem_mem this
/-- a deed at the k-th joint -/
theorem deed_put {fs : List Nat} {ps : List (List Nat)} {k : Nat} (h : ps.length = fs.length + 1) (hk : k < fs.length) : mvS (put fs ps) (put (fs.take k) (ps.take (k + 1))).length = put (mvS fs k) (rt ps (k + 1)) := by
  rw [put_cut h hk]
  generalize hu : put (fs.take k) (ps.take (k + 1)) = u
  generalize hv : put (fs.drop (k + 1)) (ps.drop (k + 1)) = v
  unfold mvS
  rw [List.getElem?_append_right (Nat.le_refl _), Nat.sub_self, List.getElem?_eq_getElem hk]
  have e1 : (u ++ fs[k] :: v).drop (u.length + 1) = v := by
    rw [← List.drop_drop, List.drop_left] <;> rfl
  have e2 : (u ++ fs[k] :: v).take u.length = u := List.take_left
  rw [e1, e2]
  show v ++ [fs[k]] ++ u = _
  rw [← hu, ← hv, List.append_assoc]
  show put (fs.drop (k + 1)) (ps.drop (k + 1)) ++ fs[k] :: put (fs.take k) (ps.take (k + 1)) = _
  rw [put_app (by rw [List.length_drop, List.length_drop]; omega), rt_cut (by omega), List.append_assoc] <;> rfl
theorem wd_deed {j fs : List Nat} {ps : List (List Nat)} {k t : Nat} (h : WdJ j fs ps) (hk : k < fs.length) : WdJ j (mvS fs k) (rt ps t) :=
  ⟨by rw [rt_len, mvS_len hk]; exact h.len, fun f hf => h.js f ((mvS_perm hk).mem_iff.mp hf), fun p hp => h.bs p (rt_mem hp)⟩
/-- led along numbers of joints -/
def led (j : List Nat) (w : List Nat) (ks : List Nat) : List Nat := ks.foldl (fun w k => mvS w ((jpl j w).getD k 0)) w
def trn (ks : List Nat) : Nat := (ks.map (· + 1)).sum
theorem trn_cons {k : Nat} {ks : List Nat} : trn (k :: ks) = k + 1 + trn ks := by unfold trn; rw [List.map_cons, List.sum_cons]
theorem place_put {j fs : List Nat} {ps : List (List Nat)} {k : Nat} (h : WdJ j fs ps) (hk : k < fs.length) : (jpl j (put fs ps))[k]? = some (put (fs.take k) (ps.take (k + 1))).length := by
  rw [put_cut h.len hk]
  have e := jpl_app (j := j) (u := put (fs.take k) (ps.take (k + 1))) (v := put (fs.drop (k + 1)) (ps.drop (k + 1))) (h.js _ (List.getElem_mem hk))
  rw [(parts_put (wd_take h hk)).1, List.length_take, Nat.min_eq_left (by omega)] at e
  exact e
theorem led_put {j : List Nat} : ∀ {ks fs : List Nat} {ps : List (List Nat)}, WdJ j fs ps → (∀ k ∈ ks, k < fs.length) → led j (put fs ps) ks = put (mv fs ks) (rt ps (trn ks))
  | [], fs, ps, h, _ => by
    show put fs ps = put fs (rt ps 0)
    congr 1
    have := rt_cut (ps := ps) (t := 0) (Nat.zero_le _)
    simpa using this
  | k :: ks, fs, ps, h, hk => by
    have hk0 := hk k List.mem_cons_self
    show led j (mvS (put fs ps) ((jpl j (put fs ps)).getD k 0)) ks = _
    rw [List.getD_eq_getElem?_getD, place_put h hk0]
    show led j (mvS (put fs ps) (put (fs.take k) (ps.take (k + 1))).length) ks = _
    rw [deed_put h.len hk0, led_put (wd_deed h hk0) (fun b hb => by rw [mvS_len hk0]; exact hk b (List.mem_cons_of_mem _ hb)), rt_rt, trn_cons] <;> rfl

end Ev

set_option Elab.async false
set_option linter.all false
set_option maxRecDepth 100000
set_option maxHeartbeats 8000000
/-! X8: printed by renum.py. Own work. -/
namespace Ev
local macro_rules | `(tactic| walk_at "side") => `(tactic| first | assumption | omega | (have hLIM := LIM_n; have hB62 := B62_eq; have hB63 := B63_eq; (try simp only [List.length_append, List.length_cons, List.length_nil, List.length_map, List.length_reverse, List.length_replicate]); omega))
local macro_rules | `(tactic| walk_at "nrm") => `(tactic| try dsimp only [vrOf, frzAt, backAt, List.take_succ_cons, List.take_zero, allSome, List.set_cons_zero, List.set_cons_succ, outsTo, lockL, lockS, unlockL, unlockS, En.get, List.getElem?_cons_zero, List.getElem?_cons_succ, wipeE, backE])
local macro_rules | `(tactic| walk_at "ev1") => `(tactic| first
  | refine ok_lit ?_
  | refine ok_var rfl ?_
  | refine ok_bin ?_
  | refine ok_cmp ?_
  | refine ok_call ?_
  | refine ok_bi ?_
  | refine ok_sub ?_
  | refine oks_cons ?_
  | refine oks_nil ?_
  | refine ok_and ?_
  | refine ok_or ?_
  | refine ok_not ?_
  | refine ok_ifx ?_
  | refine ok_app rfl ?_
  | refine ok_mth (by decide) ?_
  | refine ok_sl ?_
  | refine ok_rev ?_
  | refine ok_lst ?_
  | refine ok_tup ?_
  | refine ok_dict0 ?_
  | refine ok_lrng1 ?_
  | refine okt_val ?_
  | refine okt_not ?_
  | refine okt_and ?_
  | refine okt_or ?_
  | refine okts_nil ?_
  | refine okts_cons ?_
  | refine oki_seq ?_
  | refine oki_rng1 ?_
  | refine oki_rng2 ?_
  | refine oki_enum ?_
  | refine oki_zip ?_
  | refine oki_back ?_
  | refine okz_nil ?_
  | refine oks_expr ?_
  | refine oks_set ?_
  | refine oks_par ?_
  | refine oks_unp ?_
  | refine unp_intro rfl rfl rfl ?_
  | refine oks_ret ?_
  | refine oks_iff ?_
  | refine oks_for ?_
  | refine oks_while ?_
  | refine ok_keep_v ?_
  | refine ok_keep_o ?_
  | (refine ok_keep_s rfl ?_; walk_at "nrm")
  | refine okk_nil ?_
  | refine okk_cons ?_
  | refine okl_nil ?_
  | refine okl_v ?_
  | refine okl_o ?_
  | (refine okl_s rfl ?_; walk_at "nrm")
  | (refine ok_store_v (Nat.le_of_ble_eq_true rfl) ?_; walk_at "nrm")
  | (refine ok_store_o (Nat.le_of_ble_eq_true rfl) ?_; walk_at "nrm")
  | (refine ok_store_s (Nat.le_of_ble_eq_true rfl) rfl ?_; walk_at "nrm")
  | refine lf_add_int rfl rfl ?_
  | refine lf_sub_int rfl rfl ?_
  | refine lf_add_str rfl rfl (by walk_at "side") ?_
  | refine lf_add_lst rfl rfl (by walk_at "side") ?_
  | refine lf_lt_int rfl rfl ?_
  | refine lf_gt_int rfl rfl ?_
  | refine lf_le_int rfl rfl ?_
  | refine lf_ge_int rfl rfl ?_
  | refine lf_eq_int rfl rfl ?_
  | refine lf_ne_int rfl rfl ?_
  | refine lf_eq_str rfl rfl ?_
  | refine lf_ne_str rfl rfl ?_
  | refine lf_isin_ch rfl rfl ?_
  | refine lf_notin_ch rfl rfl ?_
  | refine lf_is_non rfl rfl (fun b h => nomatch h) ?_
  | refine lf_isnot_non rfl rfl (fun b h => nomatch h) ?_
  | refine lf_mod rfl rfl (by walk_at "side") ?_
  | refine ⟨fun _ => ?_, fun h => no_tf h⟩
  | refine ⟨fun h => no_ft h, fun _ => ?_⟩
  | refine ⟨fun _ => ?_, fun h => no_ft h⟩
  | refine ⟨fun h => no_tf h, fun _ => ?_⟩
  | refine ⟨fun _ => ?_, fun h => absurd (by walk_at "side") (of_decide_eq_false h)⟩
  | refine ⟨fun h => absurd (of_decide_eq_true h) (by walk_at "side"), fun _ => ?_⟩
  | refine ⟨fun _ => ?_, fun h => absurd (of_decide_eq_true h) (by walk_at "side")⟩
  | refine ⟨fun h => absurd (by walk_at "side") (of_decide_eq_false h), fun _ => ?_⟩
  | refine ⟨fun _ => ?_, fun h => absurd (nd_f h) (by walk_at "side")⟩
  | refine ⟨fun h => absurd (by walk_at "side") (nd_t h), fun _ => ?_⟩
  | refine ⟨fun _ => ?_, fun h => absurd (by walk_at "side") (nd_t h)⟩
  | refine ⟨fun h => absurd (nd_f h) (by walk_at "side"), fun _ => ?_⟩
  | (refine nx_nx ?_)
  | (refine nx_rt ?_)
  | refine retq_v ?_
  | refine retq_o ?_
  | refine retq_w rfl rfl ?_
  | (refine retq_p rfl rfl ?_; walk_at "nrm")
  | (refine retq_f rfl ?_; walk_at "nrm")
  | (refine fin_rt rfl rfl ?_; walk_at "nrm")
  | (refine fin_nx rfl rfl ?_; walk_at "nrm")
  | refine cl_intro rfl rfl rfl ?_
  | (refine ⟨_, _, _, rfl, rfl, rfl, ?_⟩; simp only [frzDup, List.any_cons, List.any_nil, Nat.reduceBEq, beq_self_eq_true, Bool.or_false, Bool.or_true, Bool.true_or, if_true, Bool.false_eq_true, if_false, En.get, List.getElem?_cons_zero, List.getElem?_cons_succ, List.set_cons_zero, List.set_cons_succ])
  | refine ⟨_, _, rfl, rfl, ?_⟩
  | refine ⟨_, _, _, _, rfl, rfl, rfl, rfl, ?_⟩
  | refine lim_intro (by walk_at "side") ?_)
local macro_rules | `(tactic| walk_at "ev") => `(tactic| ((repeat walk_at "ev1"); walk_at "nrm"))
local macro_rules | `(tactic| walk_at "unl") => `(tactic| simp only [unlockL, unlockS, lockL, lockS, En.get, List.getElem?_cons_zero, List.getElem?_cons_succ, List.set_cons_zero, List.set_cons_succ, eq_self, if_true])
abbrev sl (ps : List (List Nat)) : List D := ps.map .str
theorem items_str {w : List Nat} : items (.str w) = some (w.map fun c => .str [c]) := rfl
theorem sl_len {ps : List (List Nat)} : (sl ps).length = ps.length := List.length_map _
theorem ix_last {n : Nat} (h : 0 < n) : ixN n (-1) = some (n - 1) := by
  unfold ixN
  rw [if_neg (by decide), if_pos (by omega)]
  congr 1
  omega
theorem sl_get {ps : List (List Nat)} {i : Nat} (h : i < ps.length) : subD (.lst (sl ps)) (.int (i : Nat)) = some (.str (ps.getD i [])) := by
  rw [sub_nat (by rw [sl_len]; exact h)]
  simp [List.getD_eq_getElem?_getD, h]
theorem sl_last {ps : List (List Nat)} (h : ps ≠ []) : subD (.lst (sl ps)) (.int (-1)) = some (.str (ps.getLastD [])) := by
  have hp := List.length_pos_iff.mpr h
  rw [sub_m1 (by rw [sl_len]; exact hp)]
  simp [List.getLastD_eq_getLast?, List.getLast?_eq_getElem?, List.getElem?_eq_getElem (show ps.length - 1 < ps.length by omega)]
theorem set_last {α : Type} {L : List α} {x : α} (h : L ≠ []) : L.set (L.length - 1) x = L.dropLast ++ [x] := by
  have hp := List.length_pos_iff.mpr h
  apply List.ext_getElem?
  intro i
  by_cases h1 : i = L.length - 1
  · subst h1
    rw [List.getElem?_set_self (by omega), List.getElem?_append_right (by rw [List.length_dropLast]; exact Nat.le_refl _), List.length_dropLast, Nat.sub_self] <;> rfl
  · rw [List.getElem?_set_ne (fun z => h1 z.symm)]
    by_cases h2 : i < L.length - 1
    · rw [List.getElem?_append_left (by rw [List.length_dropLast]; exact h2), List.getElem?_dropLast, if_pos h2]
    · rw [List.getElem?_eq_none (by omega), List.getElem?_eq_none (by simp; omega)]
theorem str_get {l : List Nat} {n : Nat} (h : n < l.length) : subD (.str l) (.int (n : Nat)) = some (.str [l[n]]) := sub_str h
theorem pcs_len {j : List Nat} {w : List Nat} : (pcs j w).length ≤ w.length + 1 := by
  have := (wd_parts j w).1.len
  have h2 : (fnd j w).length ≤ w.length := List.length_filter_le _ _
  omega
theorem pcs_small {j : List Nat} : ∀ {w : List Nat} {p : List Nat}, p ∈ pcs j w → p.length ≤ w.length
  | [], p, h => by rw [List.mem_singleton.mp h]; exact Nat.le_refl _
  | c :: w, p, h => by
    unfold pcs at h
    split at h
    · rcases List.mem_cons.mp h with rfl | h
      · exact Nat.zero_le _
      · exact Nat.le_succ_of_le (pcs_small h)
    · cases hq : pcs j w with
      | nil => exact absurd hq (pcs_ne j w)
      | cons q qs =>
        rw [hq] at h
        have hs := fun {p} => pcs_small (j := j) (w := w) (p := p)
        rw [hq] at hs
        rcases List.mem_cons.mp h with rfl | h
        · exact Nat.succ_le_succ (hs List.mem_cons_self)
        · exact Nat.le_succ_of_le (hs (List.mem_cons_of_mem _ h))
theorem getLastD_mem {α : Type} {L : List α} {d : α} (h : L ≠ []) : L.getLastD d ∈ L := by
  rw [List.getLastD_eq_getLast?, List.getLast?_eq_some_getLast h]
  exact List.getLast_mem h
section
variable {Δ : Tab} (K : Kb Δ)
include K
theorem cw74 (k : Nat) {w : List Nat} (h : small w = true) : Phi Δ (k + 2) 4 [⟨.fz, .str w⟩] = .ret false .non [⟨.fz, .str w⟩] :=
  chk_ok K.h4 (by rw [lett_ok K.h3 k (v := .str w) rfl]; exact congrArg (fun b => CR.ret false (.bl b) [⟨.fz, .str w⟩]) h)
theorem cj74 (k : Nat) {j : List Nat} (h : ordD (.str j) = true) (hl : j.length ≤ 26) : Phi Δ (k + 3) 7 [⟨.fz, .str j⟩] = .ret false .non [⟨.fz, .str j⟩] :=
  chk_ok K.h7 (by rw [fOrd_ok K.h3 K.h5 K.h6 k (v := .str j) rfl (decide_eq_true (Nat.le_trans hl (by decide))), h])
theorem cp74 (k : Nat) {w j : List Nat} (hw : small w = true) (h : ordD (.str j) = true) (hl : j.length ≤ 26) : Phi Δ (k + 4) 22 [⟨.fz, .str w⟩, ⟨.fz, .str j⟩] = .ret false .non [⟨.fz, .str w⟩, ⟨.fz, .str j⟩] := by
  apply CR.Ok.eq
  (refine ok_phi (K.h22) ⟨rfl, by decide⟩ ?_; simp only [frzAt, List.map_cons, List.map_nil, Nat.reduceSub, List.reduceReplicate, List.cons_append, List.nil_append, List.getElem?_cons_zero, List.getElem?_cons_succ, List.set_cons_zero, List.set_cons_succ, List.append_nil])
  walk_at "ev"
  (refine call_of (cw74 K (k + 1) hw) rfl ?_; walk_at "nrm")
  walk_at "ev"
  (refine call_of (cj74 K k h hl) rfl ?_; walk_at "nrm")
  walk_at "ev"
  exact ⟨rfl, rfl, rfl⟩
theorem pt74 (k : Nat) {w j : List Nat} (hw : w.length ≤ 1000) : Phi Δ (k + 1) 23 [⟨.fz, .str w⟩, ⟨.fz, .str j⟩] = .ret false (.tup [.str (fnd j w), .lst (sl (pcs j w))]) [⟨.fz, .str w⟩, ⟨.fz, .str j⟩] := by
  have hL := LIM_n
  apply CR.Ok.eq
  (refine ok_phi (K.h23) ⟨rfl, by decide⟩ ?_; simp only [frzAt, List.map_cons, List.map_nil, Nat.reduceSub, List.reduceReplicate, List.cons_append, List.nil_append, List.getElem?_cons_zero, List.getElem?_cons_succ, List.set_cons_zero, List.set_cons_succ, List.append_nil])
  walk_at "ev"
  refine ⟨_, rfl, ?_⟩
  walk_at "ev"
  refine ok_forM (g := fun c : Nat => D.str [c]) (L := w) (fun i ρ => ∃ x4, ρ = [some ⟨.fz, .str w⟩, some ⟨.fz, .str j⟩, some ⟨.fz, .str (fnd j (w.take i))⟩, some ⟨.own, .lst (sl (pcs j (w.take i)))⟩, x4]) ⟨none, rfl⟩ ?_ ?_
  · rintro i hi ρ ⟨x4, rfl⟩
    have ht : (w.take i).length = i := by rw [List.length_take]; omega
    rw [List.take_succ_eq_append_getElem hi]
    generalize hu : w.take i = u at ht ⊢
    generalize hc : w[i] = c
    have h1 : (fnd j u).length ≤ u.length := List.length_filter_le _ _
    have h2 := pcs_len (j := j) (w := u)
    have hne := pcs_ne j u
    refine ok_withTg rfl ?_
    walk_at "nrm"
    unfold bb23_0
    walk_at "ev"
    rw [pcs_snoc, fnd_snoc]
    by_cases hcj : c ∈ j
    · rw [decide_eq_true hcj, if_pos hcj, if_pos hcj]
      refine ⟨fun _ => ?_, fun z => nomatch z⟩
      walk_at "ev"
      refine ⟨_, rfl, by rw [sl_len]; omega, ?_⟩
      walk_at "ev"
      exact ⟨_, by unfold sl; rw [List.map_append] <;> rfl⟩
    · rw [decide_eq_false hcj, if_neg hcj, if_neg hcj]
      refine ⟨(fun z => nomatch z), fun _ => ?_⟩
      refine oks_putL ?_
      walk_at "ev"
      refine lf_sub (sl_last hne) rfl rfl ?_
      have h3 := pcs_small (getLastD_mem (d := []) hne)
      walk_at "ev"
      refine ⟨_, rfl, ?_⟩
      walk_at "ev"
      refine ⟨_, _, _, rfl, rfl, ix_last (by rw [sl_len]; exact List.length_pos_iff.mpr hne), ?_⟩
      walk_at "ev"
      refine ⟨some ⟨.fz, .str [c]⟩, ?_⟩
      rw [set_last (by simpa using hne)]
      unfold sl
      rw [List.map_append, List.map_dropLast] <;> rfl
  · rintro ρ ⟨x4, rfl⟩
    rw [List.take_length]
    walk_at "unl"
    walk_at "ev"
    exact ⟨rfl, rfl, rfl⟩
theorem cn274 (k : Nat) {n : Nat} {ps : List Nat} {md : Md} (hl : ps.length ≤ 100000) (h : ∀ p ∈ ps, p < n) : Phi Δ (k + 4) 24 [⟨.fz, .int (n : Nat)⟩, ⟨md, .lst (nl ps)⟩] = .ret false .non [⟨.fz, .int (n : Nat)⟩, ⟨md, .lst (nl ps)⟩] := cs74 K k hl h
end
theorem dsum_nl : ∀ {L : List Nat} {a : Nat}, Dsum (nl L) (a : Nat) = some ((a + L.sum : Nat) : Int)
  | [], a => by simp [nl, Dsum]
  | b :: L, a => by
    show Dsum (nl L) ((a : Int) + (b : Int)) = _
    have e : ((a : Int) + (b : Int)) = ((a + b : Nat) : Int) := by omega
    rw [e, dsum_nl, List.sum_cons, Nat.add_assoc]
theorem trn_le {ks : List Nat} {n : Nat} : (∀ k ∈ ks, k < n) → trn ks ≤ ks.length * n := by
  induction ks with
  | nil => intro _; exact Nat.zero_le _
  | cons k ks ih =>
    intro h
    rw [trn_cons, List.length_cons, Nat.succ_mul]
    have h1 := h k List.mem_cons_self
    have h2 := ih fun b hb => h b (List.mem_cons_of_mem _ hb)
    omega
theorem put_step {fs : List Nat} {qs : List (List Nat)} {i : Nat} (hl : qs.length = fs.length + 1) (h : i < fs.length) : put (fs.take (i + 1)) (qs.take (i + 2)) = put (fs.take i) (qs.take (i + 1)) ++ fs[i] :: qs.getD (i + 1) [] := by
  have e := put_app (f := fs[i]) (gs := []) (qs := [qs.getD (i + 1) []]) (fs := fs.take i) (ps := qs.take (i + 1)) (by rw [List.length_take, List.length_take]; omega)
  rw [List.take_succ_eq_append_getElem h, List.take_succ_eq_append_getElem (show i + 1 < qs.length by omega)]
  have e2 : qs.getD (i + 1) [] = qs[i + 1] := by rw [List.getD_eq_getElem?_getD, List.getElem?_eq_getElem (show i + 1 < qs.length by omega)] <;> rfl
  rw [e2] at e ⊢
  exact e.symm
theorem put_len {B : Nat} : ∀ {fs : List Nat} {ps : List (List Nat)}, (∀ p ∈ ps, p.length ≤ B) → (put fs ps).length ≤ ps.length * (B + 1)
  | [], [], _ => Nat.zero_le _
  | [], p :: ps, h => by
    have := h p List.mem_cons_self
    show p.length ≤ _
    rw [List.length_cons, Nat.succ_mul]
    omega
  | _ :: _, [], _ => Nat.zero_le _
  | f :: fs, p :: ps, h => by
    have h1 := h p List.mem_cons_self
    have h2 := put_len (fs := fs) (ps := ps) fun q hq => h q (List.mem_cons_of_mem _ hq)
    show (p ++ f :: put fs ps).length ≤ _
    rw [List.length_append, List.length_cons, List.length_cons, Nat.succ_mul]
    omega
section
variable {Δ : Tab} (K : Kb Δ)
include K
theorem tn74 (k : Nat) {ks : List Nat} {md : Md} (hl : ks.length ≤ 100000) : Phi Δ (k + 1) 25 [⟨md, .lst (nl ks)⟩] = .ret false (.int (trn ks : Nat)) [⟨md, .lst (nl ks)⟩] := by
  have hL := LIM_n
  apply CR.Ok.eq
  (refine ok_phi (K.h25) ⟨rfl, by decide⟩ ?_; simp only [frzAt, List.map_cons, List.map_nil, Nat.reduceSub, List.reduceReplicate, List.cons_append, List.nil_append, List.getElem?_cons_zero, List.getElem?_cons_succ, List.set_cons_zero, List.set_cons_succ, List.append_nil])
  walk_at "ev"
  refine ok_lcE (α := Nat) ?_
  walk_at "ev"
  refine ⟨ks, fun p => .int (p : Nat), fun p => .int ((p + 1 : Nat) : Int), fun ρ => ∃ x1, ρ = [some ⟨md.lock, .lst (nl ks)⟩, x1], rfl, ⟨_, rfl⟩, ?_, by omega, ?_⟩
  · rintro p hp ρ ⟨x1, rfl⟩
    refine lcTg_all rfl ?_
    walk_at "nrm"
    unfold be25_0
    walk_at "ev"
    exact ⟨rfl, _, rfl⟩
  · rintro ρ' ⟨x1, rfl⟩
    have e1 : ks.map (fun p => D.int ((p + 1 : Nat) : Int)) = nl (ks.map (· + 1)) := by unfold nl; rw [List.map_map] <;> rfl
    rw [e1]
    walk_at "unl"
    walk_at "ev"
    have e2 : biD .sum [.lst (nl (ks.map (· + 1)))] = some (.v (.int (trn ks : Nat))) := by
      show (match Dsum (nl (ks.map (· + 1))) ((0 : Nat) : Int) with
        | some v => some (Vr.v (.int v))
        | none => none) = _
      rw [dsum_nl, Nat.zero_add] <;> rfl
    refine lf_bi e2 rfl ?_
    walk_at "ev"
    exact ⟨rfl, rfl, rfl⟩
theorem pu74 (k : Nat) {n T : Nat} {fs M : List Nat} {ps : List (List Nat)} {m1 m2 : Md} (hf : fs.length = n) (hp : ps.length = n + 1) (P : IsP n M) (hn : n ≤ 1000) (hb : ∀ p ∈ ps, p.length ≤ 1000) :
    Phi Δ (k + 1) 26 [⟨.fz, .str fs⟩, ⟨m1, .lst (sl ps)⟩, ⟨m2, .lst (nl M)⟩, ⟨.fz, .int (T : Nat)⟩] = .ret false (.str (put (M.map fun i => fs.getD i 0) (rt ps T))) [⟨.fz, .str fs⟩, ⟨m1, .lst (sl ps)⟩, ⟨m2, .lst (nl M)⟩, ⟨.fz, .int (T : Nat)⟩] := by
  have hL := LIM_n
  have hlp : ((sl ps).length : Int) = ((n + 1 : Nat) : Int) := by rw [sl_len, hp]
  have hbr : ∀ p ∈ rt ps T, p.length ≤ 1000 := fun p h => hb p (rt_mem h)
  have hrl : (rt ps T).length = n + 1 := by rw [rt_len, hp]
  apply CR.Ok.eq
  (refine ok_phi (K.h26) ⟨rfl, by decide⟩ ?_; simp only [frzAt, List.map_cons, List.map_nil, Nat.reduceSub, List.reduceReplicate, List.cons_append, List.nil_append, List.getElem?_cons_zero, List.getElem?_cons_succ, List.set_cons_zero, List.set_cons_succ, List.append_nil])
  walk_at "ev"
  rw [hlp]
  have e0 : ((T : Nat) : Int) % ((n + 1 : Nat) : Int) = ((T % (n + 1) : Nat) : Int) := by omega
  rw [e0]
  have hT := Nat.mod_lt T (Nat.succ_pos n)
  refine lf_sub (sl_get (by rw [hp]; exact hT)) rfl rfl ?_
  walk_at "ev"
  rw [enum_nl]
  generalize hF : M.map (fun i => fs.getD i 0) = F
  have hFl : F.length = n := by rw [← hF, List.length_map, P.len]
  refine ok_forN M.length (fun i ρ => ∃ x5 x6, ρ = [some ⟨.fz, .str fs⟩, some ⟨m1, .lst (sl ps)⟩, some ⟨m2.lock, .lst (nl M)⟩, some ⟨.fz, .int (T : Nat)⟩, some ⟨.fz, .str (put (F.take i) ((rt ps T).take (i + 1)))⟩, x5, x6]) ⟨none, none, ?_⟩ ?_ ?_
  · have e1 : (rt ps T).take 1 = [ps.getD (T % (n + 1)) []] := by
      have hg := rt_get (ps := ps) (t := T) (i := 0) (by omega)
      rw [Nat.zero_add, hp] at hg
      rw [← hg]
      cases h : rt ps T with
      | nil => rw [h] at hrl; simp at hrl
      | cons a l => rfl
    rw [e1] <;> rfl
  · rintro i hi ρ ⟨x5, x6, rfl⟩
    rw [P.len] at hi
    have hx := P.nx_lt hi
    have hFi : F[i]'(by omega) = fs[nx M i]'(by omega) := by
      have hM : i < M.length := by rw [P.len]; exact hi
      have hx' : M[i] < fs.length := by rw [hf]; exact P.lt _ (List.getElem_mem hM)
      simp only [← hF, List.getElem_map, nx_eq hM]
      simp [List.getD_eq_getElem?_getD, hx']
    have hs := put_len (B := 1000) (fs := F.take i) (ps := (rt ps T).take (i + 1)) fun p h => hbr p (List.mem_of_mem_take h)
    rw [List.length_take, hrl, Nat.min_eq_left (by omega)] at hs
    have hs2 : (put (F.take i) ((rt ps T).take (i + 1))).length ≤ 1001 * 1001 := Nat.le_trans hs (Nat.mul_le_mul_right _ (by omega))
    rw [put_step (fs := F) (qs := rt ps T) (by omega) (show i < F.length by omega), hFi]
    have hg : (rt ps T).getD (i + 1) [] = ps.getD ((i + 1 + T) % (n + 1)) [] := by rw [rt_get (by omega), hp]
    have hgl : (ps.getD ((i + 1 + T) % (n + 1)) []).length ≤ 1000 := by
      rw [← hg, List.getD_eq_getElem?_getD, List.getElem?_eq_getElem (show i + 1 < (rt ps T).length by omega)]
      exact hbr _ (List.getElem_mem _)
    rw [hg]
    generalize put (F.take i) ((rt ps T).take (i + 1)) = u at hs2 ⊢
    refine ok_withTg rfl ?_
    walk_at "nrm"
    unfold bb26_0
    walk_at "ev"
    refine lf_sub (str_get (by rw [hf]; exact hx)) rfl rfl ?_
    walk_at "ev"
    rw [hlp]
    have e2 : ((i : Int) + 1 + (T : Int)) % ((n + 1 : Nat) : Int) = (((i + 1 + T) % (n + 1) : Nat) : Int) := by rw [show ((i : Int) + 1 + (T : Int)) = ((i + 1 + T : Nat) : Int) by omega]; omega
    rw [e2]
    refine lf_sub (sl_get (by rw [hp]; exact Nat.mod_lt _ (Nat.succ_pos n))) rfl rfl ?_
    refine lf_add_str rfl rfl ?_ ?_
    · rw [List.length_append, List.length_singleton]; omega
    walk_at "ev"
    exact ⟨_, _, by rw [List.append_assoc] <;> rfl⟩
  · rintro ρ ⟨x5, x6, rfl⟩
    have e3 : F.take M.length = F := List.take_of_length_le (by rw [hFl, P.len]; exact Nat.le_refl _)
    have e4 : (rt ps T).take (M.length + 1) = rt ps T := List.take_of_length_le (by rw [hrl, P.len]; exact Nat.le_refl _)
    rw [e3, e4]
    walk_at "unl"
    walk_at "ev"
    exact ⟨rfl, rfl, rfl⟩
end

end Ev

set_option Elab.async false
set_option linter.all false
set_option maxRecDepth 100000
set_option maxHeartbeats 8000000
/-! X9: printed by renum.py. Own work. -/
namespace Ev
local macro_rules | `(tactic| walk_at "side") => `(tactic| first | assumption | omega | (have hLIM := LIM_n; have hB62 := B62_eq; have hB63 := B63_eq; (try simp only [List.length_append, List.length_cons, List.length_nil, List.length_map, List.length_reverse, List.length_replicate]); omega))
local macro_rules | `(tactic| walk_at "nrm") => `(tactic| try dsimp only [vrOf, frzAt, backAt, List.take_succ_cons, List.take_zero, allSome, List.set_cons_zero, List.set_cons_succ, outsTo, lockL, lockS, unlockL, unlockS, En.get, List.getElem?_cons_zero, List.getElem?_cons_succ, wipeE, backE])
local macro_rules | `(tactic| walk_at "ev1") => `(tactic| first
  | refine ok_lit ?_
  | refine ok_var rfl ?_
  | refine ok_bin ?_
  | refine ok_cmp ?_
  | refine ok_call ?_
  | refine ok_bi ?_
  | refine ok_sub ?_
  | refine oks_cons ?_
  | refine oks_nil ?_
  | refine ok_and ?_
  | refine ok_or ?_
  | refine ok_not ?_
  | refine ok_ifx ?_
  | refine ok_app rfl ?_
  | refine ok_mth (by decide) ?_
  | refine ok_sl ?_
  | refine ok_rev ?_
  | refine ok_lst ?_
  | refine ok_tup ?_
  | refine ok_dict0 ?_
  | refine ok_lrng1 ?_
  | refine okt_val ?_
  | refine okt_not ?_
  | refine okt_and ?_
  | refine okt_or ?_
  | refine okts_nil ?_
  | refine okts_cons ?_
  | refine oki_seq ?_
  | refine oki_rng1 ?_
  | refine oki_rng2 ?_
  | refine oki_enum ?_
  | refine oki_zip ?_
  | refine oki_back ?_
  | refine okz_nil ?_
  | refine oks_expr ?_
  | refine oks_set ?_
  | refine oks_par ?_
  | refine oks_unp ?_
  | refine unp_intro rfl rfl rfl ?_
  | refine oks_ret ?_
  | refine oks_iff ?_
  | refine oks_for ?_
  | refine oks_while ?_
  | refine ok_keep_v ?_
  | refine ok_keep_o ?_
  | (refine ok_keep_s rfl ?_; walk_at "nrm")
  | refine okk_nil ?_
  | refine okk_cons ?_
  | refine okl_nil ?_
  | refine okl_v ?_
  | refine okl_o ?_
  | (refine okl_s rfl ?_; walk_at "nrm")
  | (refine ok_store_v (Nat.le_of_ble_eq_true rfl) ?_; walk_at "nrm")
  | (refine ok_store_o (Nat.le_of_ble_eq_true rfl) ?_; walk_at "nrm")
  | (refine ok_store_s (Nat.le_of_ble_eq_true rfl) rfl ?_; walk_at "nrm")
  | refine lf_add_int rfl rfl ?_
  | refine lf_sub_int rfl rfl ?_
  | refine lf_add_str rfl rfl (by walk_at "side") ?_
  | refine lf_add_lst rfl rfl (by walk_at "side") ?_
  | refine lf_lt_int rfl rfl ?_
  | refine lf_gt_int rfl rfl ?_
  | refine lf_le_int rfl rfl ?_
  | refine lf_ge_int rfl rfl ?_
  | refine lf_eq_int rfl rfl ?_
  | refine lf_ne_int rfl rfl ?_
  | refine lf_eq_str rfl rfl ?_
  | refine lf_ne_str rfl rfl ?_
  | refine lf_isin_ch rfl rfl ?_
  | refine lf_notin_ch rfl rfl ?_
  | refine lf_is_non rfl rfl (fun b h => nomatch h) ?_
  | refine lf_isnot_non rfl rfl (fun b h => nomatch h) ?_
  | refine lf_mod rfl rfl (by walk_at "side") ?_
  | refine ⟨fun _ => ?_, fun h => no_tf h⟩
  | refine ⟨fun h => no_ft h, fun _ => ?_⟩
  | refine ⟨fun _ => ?_, fun h => no_ft h⟩
  | refine ⟨fun h => no_tf h, fun _ => ?_⟩
  | refine ⟨fun _ => ?_, fun h => absurd (by walk_at "side") (of_decide_eq_false h)⟩
  | refine ⟨fun h => absurd (of_decide_eq_true h) (by walk_at "side"), fun _ => ?_⟩
  | refine ⟨fun _ => ?_, fun h => absurd (of_decide_eq_true h) (by walk_at "side")⟩
  | refine ⟨fun h => absurd (by walk_at "side") (of_decide_eq_false h), fun _ => ?_⟩
  | refine ⟨fun _ => ?_, fun h => absurd (nd_f h) (by walk_at "side")⟩
  | refine ⟨fun h => absurd (by walk_at "side") (nd_t h), fun _ => ?_⟩
  | refine ⟨fun _ => ?_, fun h => absurd (by walk_at "side") (nd_t h)⟩
  | refine ⟨fun h => absurd (nd_f h) (by walk_at "side"), fun _ => ?_⟩
  | (refine nx_nx ?_)
  | (refine nx_rt ?_)
  | refine retq_v ?_
  | refine retq_o ?_
  | refine retq_w rfl rfl ?_
  | (refine retq_p rfl rfl ?_; walk_at "nrm")
  | (refine retq_f rfl ?_; walk_at "nrm")
  | (refine fin_rt rfl rfl ?_; walk_at "nrm")
  | (refine fin_nx rfl rfl ?_; walk_at "nrm")
  | refine cl_intro rfl rfl rfl ?_
  | (refine ⟨_, _, _, rfl, rfl, rfl, ?_⟩; simp only [frzDup, List.any_cons, List.any_nil, Nat.reduceBEq, beq_self_eq_true, Bool.or_false, Bool.or_true, Bool.true_or, if_true, Bool.false_eq_true, if_false, En.get, List.getElem?_cons_zero, List.getElem?_cons_succ, List.set_cons_zero, List.set_cons_succ])
  | refine ⟨_, _, rfl, rfl, ?_⟩
  | refine ⟨_, _, _, _, rfl, rfl, rfl, rfl, ?_⟩
  | refine lim_intro (by walk_at "side") ?_)
local macro_rules | `(tactic| walk_at "ev") => `(tactic| ((repeat walk_at "ev1"); walk_at "nrm"))
local macro_rules | `(tactic| walk_at "unl") => `(tactic| simp only [unlockL, unlockS, lockL, lockS, En.get, List.getElem?_cons_zero, List.getElem?_cons_succ, List.set_cons_zero, List.set_cons_succ, eq_self, if_true])
theorem mv_getD {fs ks : List Nat} : (mv (List.range fs.length) ks).map (fun i => fs.getD i 0) = mv fs ks := by
  rw [← mv_map]
  congr 1
  apply List.ext_getElem
  · simp
  · intro i h1 h2
    simp [List.getD_eq_getElem?_getD, h2]
theorem led_eq {j w ks : List Nat} (h : ∀ k ∈ ks, k < (fnd j w).length) : put (mv (fnd j w) ks) (rt (pcs j w) (trn ks)) = led j w ks := by
  obtain ⟨h1, h2⟩ := wd_parts j w
  have := led_put h1 h
  rw [h2] at this
  exact this.symm
theorem fnd_len {j w : List Nat} : (fnd j w).length ≤ w.length := List.length_filter_le _ _
/-- done often, by the plain parts -/
def ledO (j w ks : List Nat) (t : Nat) : List Nat := put ((pw (fnd j w).length (mv (List.range (fnd j w).length) ks) t).map fun i => (fnd j w).getD i 0) (rt (pcs j w) (trn ks * t))
theorem isP_pw {n t : Nat} {M : List Nat} (P : IsP n M) : IsP n (pw n M t) := by
  have hlt : ∀ x ∈ pw n M t, x < n := fun x hx => by
    obtain ⟨y, hy, rfl⟩ := List.mem_map.mp hx
    exact P.itn_lt t (List.mem_range.mp hy)
  have nd : (pw n M t).Nodup := by
    unfold pw
    rw [List.Nodup, List.pairwise_map]
    refine List.Pairwise.imp_of_mem ?_ (List.nodup_range (n := n))
    intro a b ha hb hne e
    exact hne (P.itn_inj t (List.mem_range.mp ha) (List.mem_range.mp hb) e)
  have hl : (pw n M t).length = n := by unfold pw; rw [List.length_map, List.length_range]
  refine ⟨hl, nd, hlt, fun x hx => ?_⟩
  refine Classical.byContradiction fun hn => ?_
  have h1 : (x :: pw n M t).Nodup := List.nodup_cons.mpr ⟨hn, nd⟩
  have h2 := nodup_len h1 fun y hy => by
    rcases List.mem_cons.mp hy with rfl | hy
    · exact hx
    · exact hlt y hy
  rw [List.length_cons, hl] at h2
  omega
theorem im1 (a b : Nat) : (a : Int) % ((b : Int) + 1) = ((a % (b + 1) : Nat) : Int) := by
  rw [Int.natCast_emod]
  rfl
/-! ### the least number of turns -/
theorem dvd_turn {N s t : Nat} (hN : 0 < N) : s * t % N = 0 ↔ N / Nat.gcd N s ∣ t := by
  have hg : 0 < Nat.gcd N s := Nat.gcd_pos_of_pos_left s hN
  obtain ⟨a, ha⟩ := Nat.gcd_dvd_left N s
  obtain ⟨b, hb⟩ := Nat.gcd_dvd_right N s
  have hc : Nat.Coprime (N / Nat.gcd N s) (s / Nat.gcd N s) := Nat.coprime_div_gcd_div_gcd hg
  generalize hgg : Nat.gcd N s = g at *
  have ea : N / g = a := by rw [ha, Nat.mul_div_cancel_left _ hg]
  have eb : s / g = b := by rw [hb, Nat.mul_div_cancel_left _ hg]
  rw [ea, eb] at hc
  rw [ea]
  constructor
  · intro h
    have h1 : N ∣ s * t := Nat.dvd_of_mod_eq_zero h
    rw [ha, hb, Nat.mul_assoc] at h1
    exact hc.dvd_of_dvd_mul_left (Nat.dvd_of_mul_dvd_mul_left hg h1)
  · rintro ⟨c, rfl⟩
    rw [ha, hb]
    have : g * b * (a * c) = g * a * (b * c) := by
      rw [Nat.mul_assoc, Nat.mul_assoc, Nat.mul_left_comm b a c]
    rw [this, Nat.mul_mod_right]
def tns (N s : Nat) : Nat := N / Nat.gcd N s
theorem tns_pos {N s : Nat} (hN : 0 < N) : 0 < tns N s := Nat.div_pos (Nat.le_of_dvd hN (Nat.gcd_dvd_left N s)) (Nat.gcd_pos_of_pos_left s hN)
theorem tns_le {N s : Nat} : tns N s ≤ N := Nat.div_le_self _ _
theorem gcd_mod {N s : Nat} : Nat.gcd N (s % N) = Nat.gcd N s := by
  rw [Nat.gcd_comm N (s % N), ← Nat.gcd_rec]
section
variable {Δ : Tab} (K : Kb Δ)
include K
theorem dn74 (k : Nat) {w j ks : List Nat} {md : Md} (hw : small w = true) (hl : w.length ≤ 1000) (hj : ordD (.str j) = true) (hjl : j.length ≤ 26) (hk : ∀ a ∈ ks, a < (fnd j w).length) (hkl : ks.length ≤ 100000) :
    Phi Δ (k + 5) 27 [⟨.fz, .str w⟩, ⟨.fz, .str j⟩, ⟨md, .lst (nl ks)⟩] = .ret false (.str (led j w ks)) [⟨.fz, .str w⟩, ⟨.fz, .str j⟩, ⟨md, .lst (nl ks)⟩] := by
  have hL := LIM_n
  have hfl := fnd_len (j := j) (w := w)
  apply CR.Ok.eq
  (refine ok_phi (K.h27) ⟨rfl, by decide⟩ ?_; simp only [frzAt, List.map_cons, List.map_nil, Nat.reduceSub, List.reduceReplicate, List.cons_append, List.nil_append, List.getElem?_cons_zero, List.getElem?_cons_succ, List.set_cons_zero, List.set_cons_succ, List.append_nil])
  walk_at "ev"
  (refine call_of (cp74 K k hw hj hjl) rfl ?_; walk_at "nrm")
  walk_at "ev"
  (refine call_of (pt74 K (k + 3) hl) rfl ?_; walk_at "nrm")
  walk_at "ev"
  (refine call_of (cn274 K k hkl hk) rfl ?_; walk_at "nrm")
  walk_at "ev"
  (refine call_of (mv74 K (k + 3) (by omega) hk) rfl ?_; walk_at "nrm")
  walk_at "ev"
  (refine call_of (tn74 K (k + 3) hkl) rfl ?_; walk_at "nrm")
  walk_at "ev"
  (refine call_of (pu74 K (k + 3) rfl (wd_parts j w).1.len (isP_mv hk) (by omega) (fun p hp => Nat.le_trans (pcs_small hp) hl)) rfl ?_; walk_at "nrm")
  walk_at "ev"
  exact ⟨rfl, by rw [mv_getD, led_eq hk], rfl⟩
theorem do74 (k : Nat) {w j ks : List Nat} {t : Nat} {md : Md} (hw : small w = true) (hl : w.length ≤ 1000) (hj : ordD (.str j) = true) (hjl : j.length ≤ 26) (hk : ∀ a ∈ ks, a < (fnd j w).length) (hkl : ks.length ≤ 1000) (ht : t < 2 ^ 2000) :
    Phi Δ (k + 5) 28 [⟨.fz, .str w⟩, ⟨.fz, .str j⟩, ⟨md, .lst (nl ks)⟩, ⟨.fz, .int (t : Nat)⟩] = .ret false (.str (ledO j w ks t)) [⟨.fz, .str w⟩, ⟨.fz, .str j⟩, ⟨md, .lst (nl ks)⟩, ⟨.fz, .int (t : Nat)⟩] := by
  have hL := LIM_n
  have hfl := fnd_len (j := j) (w := w)
  have htr := trn_le hk
  have htr2 : ks.length * (fnd j w).length ≤ 1000 * 1000 := Nat.mul_le_mul hkl (by omega)
  apply CR.Ok.eq
  (refine ok_phi (K.h28) ⟨rfl, by decide⟩ ?_; simp only [frzAt, List.map_cons, List.map_nil, Nat.reduceSub, List.reduceReplicate, List.cons_append, List.nil_append, List.getElem?_cons_zero, List.getElem?_cons_succ, List.set_cons_zero, List.set_cons_succ, List.append_nil])
  walk_at "ev"
  (refine call_of (cp74 K k hw hj hjl) rfl ?_; walk_at "nrm")
  walk_at "ev"
  (refine call_of (pt74 K (k + 3) hl) rfl ?_; walk_at "nrm")
  walk_at "ev"
  (refine call_of (cn274 K k (by omega) hk) rfl ?_; walk_at "nrm")
  walk_at "ev"
  (refine call_of (cn74 K (k + 1) (i := (t : Nat)) (a := 0) (by omega)) rfl ?_; walk_at "nrm")
  walk_at "ev"
  (refine call_of (mv74 K (k + 3) (by omega) hk) rfl ?_; walk_at "nrm")
  walk_at "ev"
  (refine call_of (of74 K (k + 2) (isP_mv hk) (by omega)) rfl ?_; walk_at "nrm")
  walk_at "ev"
  (refine call_of (tn74 K (k + 3) (by omega)) rfl ?_; walk_at "nrm")
  walk_at "ev"
  refine lf_mul_int rfl rfl (mul_ok (n := 30) (m := 2000) (by omega) (by omega) (by omega) (i_pow ht) (by omega)) ?_
  rw [← Int.natCast_mul]
  walk_at "ev"
  (refine call_of (pu74 K (k + 3) rfl (wd_parts j w).1.len (isP_pw (isP_mv hk)) (by omega) (fun p hp => Nat.le_trans (pcs_small hp) hl)) rfl ?_; walk_at "nrm")
  walk_at "ev"
  exact ⟨rfl, rfl, rfl⟩
theorem no74 (k : Nat) {n : Nat} {ks : List Nat} {md : Md} (hn : n ≤ 60) (hk : ∀ a ∈ ks, a < n) (hkl : ks.length ≤ 1000) : ∃ R, RndsA n (mv (List.range n) ks) R ∧
    Phi Δ (k + 5) 31 [⟨.fz, .int (n : Nat)⟩, ⟨md, .lst (nl ks)⟩] = .ret false (.int (Nat.lcm (ordR R) (tns (n + 1) (trn ks)) : Nat)) [⟨.fz, .int (n : Nat)⟩, ⟨md, .lst (nl ks)⟩] := by
  have hL := LIM_n
  have hF := FUEL_eq
  obtain ⟨R, r, e14⟩ := rd74 K (k + 3) (isP_mv hk) (by omega) (md := .own)
  refine ⟨R, r, ?_⟩
  have hr := lens74 K k r hn
  generalize hs : trn ks % (n + 1) = s
  have hsl : s < n + 1 := by rw [← hs]; exact Nat.mod_lt _ (Nat.succ_pos n)
  have hts : tns (n + 1) (trn ks) = tns (n + 1) s := by unfold tns; rw [← hs, gcd_mod]
  rw [hts]
  have ht0 := tns_pos (N := n + 1) (s := s) (Nat.succ_pos n)
  have ht1 := tns_le (N := n + 1) (s := s)
  apply CR.Ok.eq
  (refine ok_phi (K.h31) ⟨rfl, by decide⟩ ?_; simp only [frzAt, List.map_cons, List.map_nil, Nat.reduceSub, List.reduceReplicate, List.cons_append, List.nil_append, List.getElem?_cons_zero, List.getElem?_cons_succ, List.set_cons_zero, List.set_cons_succ, List.append_nil])
  walk_at "ev"
  (refine call_of (ck74 K (k + 1) (i := (n : Nat)) (a := 0) (b := 60) ⟨by omega, by omega⟩) rfl ?_; walk_at "nrm")
  walk_at "ev"
  (refine call_of (cn274 K k (by omega) hk) rfl ?_; walk_at "nrm")
  walk_at "ev"
  (refine call_of (tn74 K (k + 3) (by omega)) rfl ?_; walk_at "nrm")
  walk_at "ev"
  have e0 : ((trn ks : Nat) : Int) % ((n : Int) + 1) = ((s : Nat) : Int) := by rw [← hs, im1]
  rw [e0]
  refine ⟨_, rfl, ?_⟩
  walk_at "ev"
  refine ok_whGo (fun m ρ => ∃ t, m + t = tns (n + 1) s ∧ 1 ≤ t ∧ ρ = [some ⟨.fz, .int (n : Nat)⟩, some ⟨md, .lst (nl ks)⟩, some ⟨.fz, .int (t : Nat)⟩, some ⟨.fz, .int (s : Nat)⟩, none]) (tns (n + 1) s - 1) _ _ (by omega) ⟨1, by omega, Nat.le_refl _, rfl⟩ ?_
  rintro m ρ ⟨t, hm, h1, rfl⟩
  walk_at "ev"
  refine lf_mul_int rfl rfl (mul_ok (n := 10) (m := 10) (by omega) (by omega) (by omega) (by omega) (by omega)) ?_
  walk_at "ev"
  have e1 : ((s : Int) * (t : Int)) % ((n : Int) + 1) = ((s * t % (n + 1) : Nat) : Int) := by rw [← Int.natCast_mul, im1]
  rw [e1]
  by_cases hz : s * t % (n + 1) = 0
  · have hd : tns (n + 1) s ∣ t := (dvd_turn (Nat.succ_pos n)).mp hz
    have : t = tns (n + 1) s := Nat.le_antisymm (by omega) (Nat.le_of_dvd (by omega) hd)
    rw [hz]
    simp only [Int.natCast_zero, Int.cast_ofNat_Int, decide_true, Bool.not_true, Bool.false_eq_true, if_false]
    refine nx_nx ?_
    walk_at "ev"
    refine ok_lcE (α := List Nat) ?_
    walk_at "ev"
    (refine call_of (mv74 K (k + 3) (by omega) hk) rfl ?_; walk_at "nrm")
    walk_at "ev"
    (refine call_of (e14) rfl ?_; walk_at "nrm")
    walk_at "ev"
    refine ⟨R, fun l => .lst (nl l), fun l => .int (l.length : Nat), fun ρ => ∃ x4, ρ = [some ⟨.fz, .int (n : Nat)⟩, some ⟨md, .lst (nl ks)⟩, some ⟨.fz, .int (t : Nat)⟩, some ⟨.fz, .int (s : Nat)⟩, x4], rfl, ⟨_, rfl⟩, ?_, by have := hr.2; rw [List.length_map] at this; omega, ?_⟩
    · rintro l hl ρ ⟨x2, rfl⟩
      refine lcTg_all rfl ?_
      walk_at "nrm"
      unfold be31_0
      walk_at "ev"
      exact ⟨by rw [nl_len], _, rfl⟩
    · rintro ρ' ⟨x2, rfl⟩
      walk_at "nrm"
      have e1 : R.map (fun l => D.int (l.length : Nat)) = nl (R.map List.length) := by unfold nl; rw [List.map_map] <;> rfl
      rw [e1]
      have hll := hr.2
      have hnl : (nl (R.map List.length)).length ≤ 60 := by rw [nl_len]; exact hll
      walk_at "ev"
      rw [nl_snoc]
      (refine call_of (cm74 K (k + 3) (ns := R.map List.length ++ [t]) (fun a h => by
        rcases List.mem_append.mp h with h | h
        · exact hr.1 a h
        · rw [List.mem_singleton.mp h]; omega) (by rw [List.length_append, List.length_singleton]; omega)) rfl ?_; walk_at "nrm")
      walk_at "ev"
      refine ⟨rfl, ?_, rfl⟩
      rw [lcmL_snoc, this] <;> rfl
  · have hd : decide (((s * t % (n + 1) : Nat) : Int) = 0) = false := decide_eq_false (by omega)
    rw [hd]
    simp only [Bool.not_false, if_true]
    have hlt : t < tns (n + 1) s := by
      refine Nat.lt_of_le_of_ne (by omega) fun e => hz ?_
      rw [e]
      exact (dvd_turn (Nat.succ_pos n)).mpr (Nat.dvd_refl _)
    walk_at "ev"
    exact ⟨m - 1, by omega, t + 1, by omega, by omega, rfl⟩
end

end Ev

set_option Elab.async false
set_option linter.all false
set_option maxRecDepth 100000
set_option maxHeartbeats 8000000
/-! X9b: printed by renum.py. Own work. -/
namespace Ev
local macro_rules | `(tactic| walk_at "side") => `(tactic| first | assumption | omega | (have hLIM := LIM_n; have hB62 := B62_eq; have hB63 := B63_eq; (try simp only [List.length_append, List.length_cons, List.length_nil, List.length_map, List.length_reverse, List.length_replicate]); omega))
local macro_rules | `(tactic| walk_at "nrm") => `(tactic| try dsimp only [vrOf, frzAt, backAt, List.take_succ_cons, List.take_zero, allSome, List.set_cons_zero, List.set_cons_succ, outsTo, lockL, lockS, unlockL, unlockS, En.get, List.getElem?_cons_zero, List.getElem?_cons_succ, wipeE, backE])
local macro_rules | `(tactic| walk_at "ev1") => `(tactic| first
  | refine ok_lit ?_
  | refine ok_var rfl ?_
  | refine ok_bin ?_
  | refine ok_cmp ?_
  | refine ok_call ?_
  | refine ok_bi ?_
  | refine ok_sub ?_
  | refine oks_cons ?_
  | refine oks_nil ?_
  | refine ok_and ?_
  | refine ok_or ?_
  | refine ok_not ?_
  | refine ok_ifx ?_
  | refine ok_app rfl ?_
  | refine ok_mth (by decide) ?_
  | refine ok_sl ?_
  | refine ok_rev ?_
  | refine ok_lst ?_
  | refine ok_tup ?_
  | refine ok_dict0 ?_
  | refine ok_lrng1 ?_
  | refine okt_val ?_
  | refine okt_not ?_
  | refine okt_and ?_
  | refine okt_or ?_
  | refine okts_nil ?_
  | refine okts_cons ?_
  | refine oki_seq ?_
  | refine oki_rng1 ?_
  | refine oki_rng2 ?_
  | refine oki_enum ?_
  | refine oki_zip ?_
  | refine oki_back ?_
  | refine okz_nil ?_
  | refine oks_expr ?_
  | refine oks_set ?_
  | refine oks_par ?_
  | refine oks_unp ?_
  | refine unp_intro rfl rfl rfl ?_
  | refine oks_ret ?_
  | refine oks_iff ?_
  | refine oks_for ?_
  | refine oks_while ?_
  | refine ok_keep_v ?_
  | refine ok_keep_o ?_
  | (refine ok_keep_s rfl ?_; walk_at "nrm")
  | refine okk_nil ?_
  | refine okk_cons ?_
  | refine okl_nil ?_
  | refine okl_v ?_
  | refine okl_o ?_
  | (refine okl_s rfl ?_; walk_at "nrm")
  | (refine ok_store_v (Nat.le_of_ble_eq_true rfl) ?_; walk_at "nrm")
  | (refine ok_store_o (Nat.le_of_ble_eq_true rfl) ?_; walk_at "nrm")
  | (refine ok_store_s (Nat.le_of_ble_eq_true rfl) rfl ?_; walk_at "nrm")
  | refine lf_add_int rfl rfl ?_
  | refine lf_sub_int rfl rfl ?_
  | refine lf_add_str rfl rfl (by walk_at "side") ?_
  | refine lf_add_lst rfl rfl (by walk_at "side") ?_
  | refine lf_lt_int rfl rfl ?_
  | refine lf_gt_int rfl rfl ?_
  | refine lf_le_int rfl rfl ?_
  | refine lf_ge_int rfl rfl ?_
  | refine lf_eq_int rfl rfl ?_
  | refine lf_ne_int rfl rfl ?_
  | refine lf_eq_str rfl rfl ?_
  | refine lf_ne_str rfl rfl ?_
  | refine lf_isin_ch rfl rfl ?_
  | refine lf_notin_ch rfl rfl ?_
  | refine lf_is_non rfl rfl (fun b h => nomatch h) ?_
  | refine lf_isnot_non rfl rfl (fun b h => nomatch h) ?_
  | refine lf_mod rfl rfl (by walk_at "side") ?_
  | refine ⟨fun _ => ?_, fun h => no_tf h⟩
  | refine ⟨fun h => no_ft h, fun _ => ?_⟩
  | refine ⟨fun _ => ?_, fun h => no_ft h⟩
  | refine ⟨fun h => no_tf h, fun _ => ?_⟩
  | refine ⟨fun _ => ?_, fun h => absurd (by walk_at "side") (of_decide_eq_false h)⟩
  | refine ⟨fun h => absurd (of_decide_eq_true h) (by walk_at "side"), fun _ => ?_⟩
  | refine ⟨fun _ => ?_, fun h => absurd (of_decide_eq_true h) (by walk_at "side")⟩
  | refine ⟨fun h => absurd (by walk_at "side") (of_decide_eq_false h), fun _ => ?_⟩
  | refine ⟨fun _ => ?_, fun h => absurd (nd_f h) (by walk_at "side")⟩
  | refine ⟨fun h => absurd (by walk_at "side") (nd_t h), fun _ => ?_⟩
  | refine ⟨fun _ => ?_, fun h => absurd (by walk_at "side") (nd_t h)⟩
  | refine ⟨fun h => absurd (nd_f h) (by walk_at "side"), fun _ => ?_⟩
  | (refine nx_nx ?_)
  | (refine nx_rt ?_)
  | refine retq_v ?_
  | refine retq_o ?_
  | refine retq_w rfl rfl ?_
  | (refine retq_p rfl rfl ?_; walk_at "nrm")
  | (refine retq_f rfl ?_; walk_at "nrm")
  | (refine fin_rt rfl rfl ?_; walk_at "nrm")
  | (refine fin_nx rfl rfl ?_; walk_at "nrm")
  | refine cl_intro rfl rfl rfl ?_
  | (refine ⟨_, _, _, rfl, rfl, rfl, ?_⟩; simp only [frzDup, List.any_cons, List.any_nil, Nat.reduceBEq, beq_self_eq_true, Bool.or_false, Bool.or_true, Bool.true_or, if_true, Bool.false_eq_true, if_false, En.get, List.getElem?_cons_zero, List.getElem?_cons_succ, List.set_cons_zero, List.set_cons_succ])
  | refine ⟨_, _, rfl, rfl, ?_⟩
  | refine ⟨_, _, _, _, rfl, rfl, rfl, rfl, ?_⟩
  | refine lim_intro (by walk_at "side") ?_)
local macro_rules | `(tactic| walk_at "ev") => `(tactic| ((repeat walk_at "ev1"); walk_at "nrm"))
local macro_rules | `(tactic| walk_at "unl") => `(tactic| simp only [unlockL, unlockS, lockL, lockS, En.get, List.getElem?_cons_zero, List.getElem?_cons_succ, List.set_cons_zero, List.set_cons_succ, eq_self, if_true])
theorem drw {Δ : Tab} (K : Kb Δ) (k : Nat) {m : Nat} {g : D} {n : Nat} (hg : Gen (m + 1) g) (hn : 0 < n ∧ n < 2 ^ 100) :
    ∃ (r : Nat) (g' : D), Gen m g' ∧ r < n ∧ Phi Δ (k + 2) 33 [⟨.own, g⟩, ⟨.fz, .int (n : Nat)⟩] = .ret false (.int (r : Nat)) [⟨.own, g'⟩, ⟨.fz, .int (n : Nat)⟩] := by
  have hp : ((n : Nat) : Int) < 2 ^ 150 := i_pow (Nat.lt_trans hn.2 (Nat.pow_lt_pow_right (by decide) (by decide)))
  obtain ⟨r, g', h0, h1, h2, e⟩ := draw_ok K.h32 K.h33 k (m := m) (g := g) (n := (n : Int)) hg ⟨by omega, hp⟩
  obtain ⟨r, rfl⟩ := Int.eq_ofNat_of_zero_le h0
  exact ⟨r, g', h2, by omega, e⟩
section
variable {Δ : Tab} (K : Kb Δ)
include K
theorem sw74 (k : Nat) {w : List Nat} {p : Nat} (hp : p < w.length) (hl : w.length ≤ 1000) : Phi Δ (k + 1) 8 [⟨.fz, .str w⟩, ⟨.fz, .int (p : Nat)⟩] = .ret false (.str (mvS w p)) [⟨.fz, .str w⟩, ⟨.fz, .int (p : Nat)⟩] := by
  have hL := LIM_n
  have c1 : (cut w (some ((p : Int) + 1)) none).length ≤ 1000 := by rw [cut_lo, List.length_drop]; omega
  have c2 : (cut w none (some (p : Int))).length ≤ 1000 := by rw [cut_hi, List.length_take]; omega
  apply CR.Ok.eq
  (refine ok_phi (K.h8) ⟨rfl, by decide⟩ ?_; simp only [frzAt, List.map_cons, List.map_nil, Nat.reduceSub, List.reduceReplicate, List.cons_append, List.nil_append, List.getElem?_cons_zero, List.getElem?_cons_succ, List.set_cons_zero, List.set_cons_succ, List.append_nil])
  walk_at "ev"
  refine lf_sub (str_get hp) rfl rfl ?_
  walk_at "ev"
  refine ⟨rfl, ?_, rfl⟩
  rw [cut_lo, cut_hi]
  unfold mvS
  rw [List.getElem?_eq_getElem hp] <;> rfl
end

end Ev

set_option Elab.async false
set_option linter.all false
set_option maxRecDepth 100000
set_option maxHeartbeats 8000000
/-! X9c: printed by renum.py. Own work. -/
namespace Ev
local macro_rules | `(tactic| walk_at "side") => `(tactic| first | assumption | omega | (have hLIM := LIM_n; have hB62 := B62_eq; have hB63 := B63_eq; (try simp only [List.length_append, List.length_cons, List.length_nil, List.length_map, List.length_reverse, List.length_replicate]); omega))
local macro_rules | `(tactic| walk_at "nrm") => `(tactic| try dsimp only [vrOf, frzAt, backAt, List.take_succ_cons, List.take_zero, allSome, List.set_cons_zero, List.set_cons_succ, outsTo, lockL, lockS, unlockL, unlockS, En.get, List.getElem?_cons_zero, List.getElem?_cons_succ, wipeE, backE])
local macro_rules | `(tactic| walk_at "ev1") => `(tactic| first
  | refine ok_lit ?_
  | refine ok_var rfl ?_
  | refine ok_bin ?_
  | refine ok_cmp ?_
  | refine ok_call ?_
  | refine ok_bi ?_
  | refine ok_sub ?_
  | refine oks_cons ?_
  | refine oks_nil ?_
  | refine ok_and ?_
  | refine ok_or ?_
  | refine ok_not ?_
  | refine ok_ifx ?_
  | refine ok_app rfl ?_
  | refine ok_mth (by decide) ?_
  | refine ok_sl ?_
  | refine ok_rev ?_
  | refine ok_lst ?_
  | refine ok_tup ?_
  | refine ok_dict0 ?_
  | refine ok_lrng1 ?_
  | refine okt_val ?_
  | refine okt_not ?_
  | refine okt_and ?_
  | refine okt_or ?_
  | refine okts_nil ?_
  | refine okts_cons ?_
  | refine oki_seq ?_
  | refine oki_rng1 ?_
  | refine oki_rng2 ?_
  | refine oki_enum ?_
  | refine oki_zip ?_
  | refine oki_back ?_
  | refine okz_nil ?_
  | refine oks_expr ?_
  | refine oks_set ?_
  | refine oks_par ?_
  | refine oks_unp ?_
  | refine unp_intro rfl rfl rfl ?_
  | refine oks_ret ?_
  | refine oks_iff ?_
  | refine oks_for ?_
  | refine oks_while ?_
  | refine ok_keep_v ?_
  | refine ok_keep_o ?_
  | (refine ok_keep_s rfl ?_; walk_at "nrm")
  | refine okk_nil ?_
  | refine okk_cons ?_
  | refine okl_nil ?_
  | refine okl_v ?_
  | refine okl_o ?_
  | (refine okl_s rfl ?_; walk_at "nrm")
  | (refine ok_store_v (Nat.le_of_ble_eq_true rfl) ?_; walk_at "nrm")
  | (refine ok_store_o (Nat.le_of_ble_eq_true rfl) ?_; walk_at "nrm")
  | (refine ok_store_s (Nat.le_of_ble_eq_true rfl) rfl ?_; walk_at "nrm")
  | refine lf_add_int rfl rfl ?_
  | refine lf_sub_int rfl rfl ?_
  | refine lf_add_str rfl rfl (by walk_at "side") ?_
  | refine lf_add_lst rfl rfl (by walk_at "side") ?_
  | refine lf_lt_int rfl rfl ?_
  | refine lf_gt_int rfl rfl ?_
  | refine lf_le_int rfl rfl ?_
  | refine lf_ge_int rfl rfl ?_
  | refine lf_eq_int rfl rfl ?_
  | refine lf_ne_int rfl rfl ?_
  | refine lf_eq_str rfl rfl ?_
  | refine lf_ne_str rfl rfl ?_
  | refine lf_isin_ch rfl rfl ?_
  | refine lf_notin_ch rfl rfl ?_
  | refine lf_is_non rfl rfl (fun b h => nomatch h) ?_
  | refine lf_isnot_non rfl rfl (fun b h => nomatch h) ?_
  | refine lf_mod rfl rfl (by walk_at "side") ?_
  | refine ⟨fun _ => ?_, fun h => no_tf h⟩
  | refine ⟨fun h => no_ft h, fun _ => ?_⟩
  | refine ⟨fun _ => ?_, fun h => no_ft h⟩
  | refine ⟨fun h => no_tf h, fun _ => ?_⟩
  | refine ⟨fun _ => ?_, fun h => absurd (by walk_at "side") (of_decide_eq_false h)⟩
  | refine ⟨fun h => absurd (of_decide_eq_true h) (by walk_at "side"), fun _ => ?_⟩
  | refine ⟨fun _ => ?_, fun h => absurd (of_decide_eq_true h) (by walk_at "side")⟩
  | refine ⟨fun h => absurd (by walk_at "side") (of_decide_eq_false h), fun _ => ?_⟩
  | refine ⟨fun _ => ?_, fun h => absurd (nd_f h) (by walk_at "side")⟩
  | refine ⟨fun h => absurd (by walk_at "side") (nd_t h), fun _ => ?_⟩
  | refine ⟨fun _ => ?_, fun h => absurd (by walk_at "side") (nd_t h)⟩
  | refine ⟨fun h => absurd (nd_f h) (by walk_at "side"), fun _ => ?_⟩
  | (refine nx_nx ?_)
  | (refine nx_rt ?_)
  | refine retq_v ?_
  | refine retq_o ?_
  | refine retq_w rfl rfl ?_
  | (refine retq_p rfl rfl ?_; walk_at "nrm")
  | (refine retq_f rfl ?_; walk_at "nrm")
  | (refine fin_rt rfl rfl ?_; walk_at "nrm")
  | (refine fin_nx rfl rfl ?_; walk_at "nrm")
  | refine cl_intro rfl rfl rfl ?_
  | (refine ⟨_, _, _, rfl, rfl, rfl, ?_⟩; simp only [frzDup, List.any_cons, List.any_nil, Nat.reduceBEq, beq_self_eq_true, Bool.or_false, Bool.or_true, Bool.true_or, if_true, Bool.false_eq_true, if_false, En.get, List.getElem?_cons_zero, List.getElem?_cons_succ, List.set_cons_zero, List.set_cons_succ])
  | refine ⟨_, _, rfl, rfl, ?_⟩
  | refine ⟨_, _, _, _, rfl, rfl, rfl, rfl, ?_⟩
  | refine lim_intro (by walk_at "side") ?_)
local macro_rules | `(tactic| walk_at "ev") => `(tactic| ((repeat walk_at "ev1"); walk_at "nrm"))
local macro_rules | `(tactic| walk_at "unl") => `(tactic| simp only [unlockL, unlockS, lockL, lockS, En.get, List.getElem?_cons_zero, List.getElem?_cons_succ, List.set_cons_zero, List.set_cons_succ, eq_self, if_true])
section
variable {Δ : Tab} (K : Kb Δ)
include K
theorem sw37 (k : Nat) {w : List Nat} {p : Nat} (hp : p < w.length) (hl : w.length ≤ 1000) : Phi Δ (k + 1) 37 [⟨.fz, .str w⟩, ⟨.fz, .int (p : Nat)⟩] = .ret false (.str (mvS w p)) [⟨.fz, .str w⟩, ⟨.fz, .int (p : Nat)⟩] := by
  have hL := LIM_n
  have c1 : (cut w (some ((p : Int) + 1)) none).length ≤ 1000 := by rw [cut_lo, List.length_drop]; omega
  have c2 : (cut w none (some (p : Int))).length ≤ 1000 := by rw [cut_hi, List.length_take]; omega
  apply CR.Ok.eq
  (refine ok_phi (K.h37) ⟨rfl, by decide⟩ ?_; simp only [frzAt, List.map_cons, List.map_nil, Nat.reduceSub, List.reduceReplicate, List.cons_append, List.nil_append, List.getElem?_cons_zero, List.getElem?_cons_succ, List.set_cons_zero, List.set_cons_succ, List.append_nil])
  walk_at "ev"
  refine lf_sub (str_get hp) rfl rfl ?_
  walk_at "ev"
  refine ⟨rfl, ?_, rfl⟩
  rw [cut_lo, cut_hi]
  unfold mvS
  rw [List.getElem?_eq_getElem hp] <;> rfl
end

end Ev

set_option Elab.async false
set_option linter.all false
set_option maxRecDepth 100000
set_option maxHeartbeats 8000000
/-! X9d: printed by renum.py. Own work. -/
namespace Ev
theorem strs_sl : ∀ {ps : List (List Nat)}, strsOf (sl ps) = some ps
  | [] => rfl
  | p :: ps => by
    show (match strsOf (sl ps) with
      | some ls => some (p :: ls)
      | none => none) = _
    rw [strs_sl]
theorem joinL_nil : ∀ {ps : List (List Nat)}, joinL [] ps = ps.flatten
  | [] => rfl
  | [p] => by show p = _; simp
  | p :: q :: ps => by
    show p ++ [] ++ joinL [] (q :: ps) = _
    rw [joinL_nil, List.append_nil] <;> rfl
theorem join_sl {ps : List (List Nat)} (h : (ps.map List.length).sum ≤ LIM) : mtD .join (.str []) [.lst (sl ps)] = some (.v (.str ps.flatten)) := by
  show (match strsOf (sl ps) with
    | some ls => if (ls.map List.length).sum + ls.length * 0 ≤ LIM then some (Vr.v (.str (joinL [] ls))) else none
    | none => none) = _
  rw [strs_sl]
  show (if (ps.map List.length).sum + ps.length * 0 ≤ LIM then _ else none) = _
  rw [if_pos (by rw [Nat.mul_zero, Nat.add_zero]; exact h), joinL_nil]
theorem gcd_side {a b : Nat} (h0 : 0 < a) (h : a ≤ 1000) : 0 < ((Nat.gcd a b : Nat) : Int) ∧ ((Nat.gcd a b : Nat) : Int).natAbs.log2 < 9000 := by
  have h1 : 0 < Nat.gcd a b := Nat.gcd_pos_of_pos_left b h0
  have h2 : Nat.gcd a b ≤ a := Nat.le_of_dvd h0 (Nat.gcd_dvd_left a b)
  refine ⟨by omega, ?_⟩
  have := log2_lt (i := (Nat.gcd a b : Nat)) (n := 10) (by omega) (by omega)
  omega
theorem sub_lit {l : List Nat} {a : Nat} (h : a < l.length) : subD (.str l) (.int (a : Nat)) = some (.str [l.getD a 0]) := by
  have := sub_str (l := l) (n := a) h
  rw [List.getD_eq_getElem?_getD, List.getElem?_eq_getElem h]
  exact this
theorem ord_small {n : Nat} {M : List Nat} {R : List (List Nat)} (r : RndsA n M R) (hn : n ≤ 60) : ordR R < 2 ^ 1001 ∧ 0 < ordR R := by
  have h : (∀ a ∈ R.map List.length, 0 < a ∧ a ≤ 1000) ∧ (R.map List.length).length ≤ 60 := by
    refine ⟨fun a h => ?_, by rw [List.length_map]; exact Nat.le_trans (rnds_le r.toRnds) hn⟩
    obtain ⟨l, hl, rfl⟩ := List.mem_map.mp h
    exact ⟨(r.cyc l hl).pos, by have := nodup_len (r.cyc l hl).nd (r.lt l hl); omega⟩
  exact ⟨lcm_small h.1 (by omega), lcmL_pos fun a ha => (h.1 a ha).1⟩
section
variable {Δ : Tab} (K : Kb Δ)
include K
end

end Ev

set_option Elab.async false
set_option linter.all false
set_option maxRecDepth 100000
set_option maxHeartbeats 8000000
/-! X10: printed by renum.py. Own work. -/
namespace Ev
local macro_rules | `(tactic| walk_at "side") => `(tactic| first | assumption | omega | (have hLIM := LIM_n; have hB62 := B62_eq; have hB63 := B63_eq; (try simp only [List.length_append, List.length_cons, List.length_nil, List.length_map, List.length_reverse, List.length_replicate]); omega))
local macro_rules | `(tactic| walk_at "nrm") => `(tactic| try dsimp only [vrOf, frzAt, backAt, List.take_succ_cons, List.take_zero, allSome, List.set_cons_zero, List.set_cons_succ, outsTo, lockL, lockS, unlockL, unlockS, En.get, List.getElem?_cons_zero, List.getElem?_cons_succ, wipeE, backE])
local macro_rules | `(tactic| walk_at "ev1") => `(tactic| first
  | refine ok_lit ?_
  | refine ok_var rfl ?_
  | refine ok_bin ?_
  | refine ok_cmp ?_
  | refine ok_call ?_
  | refine ok_bi ?_
  | refine ok_sub ?_
  | refine oks_cons ?_
  | refine oks_nil ?_
  | refine ok_and ?_
  | refine ok_or ?_
  | refine ok_not ?_
  | refine ok_ifx ?_
  | refine ok_app rfl ?_
  | refine ok_mth (by decide) ?_
  | refine ok_sl ?_
  | refine ok_rev ?_
  | refine ok_lst ?_
  | refine ok_tup ?_
  | refine ok_dict0 ?_
  | refine ok_lrng1 ?_
  | refine okt_val ?_
  | refine okt_not ?_
  | refine okt_and ?_
  | refine okt_or ?_
  | refine okts_nil ?_
  | refine okts_cons ?_
  | refine oki_seq ?_
  | refine oki_rng1 ?_
  | refine oki_rng2 ?_
  | refine oki_enum ?_
  | refine oki_zip ?_
  | refine oki_back ?_
  | refine okz_nil ?_
  | refine oks_expr ?_
  | refine oks_set ?_
  | refine oks_par ?_
  | refine oks_unp ?_
  | refine unp_intro rfl rfl rfl ?_
  | refine oks_ret ?_
  | refine oks_iff ?_
  | refine oks_for ?_
  | refine oks_while ?_
  | refine ok_keep_v ?_
  | refine ok_keep_o ?_
  | (refine ok_keep_s rfl ?_; walk_at "nrm")
  | refine okk_nil ?_
  | refine okk_cons ?_
  | refine okl_nil ?_
  | refine okl_v ?_
  | refine okl_o ?_
  | (refine okl_s rfl ?_; walk_at "nrm")
  | (refine ok_store_v (Nat.le_of_ble_eq_true rfl) ?_; walk_at "nrm")
  | (refine ok_store_o (Nat.le_of_ble_eq_true rfl) ?_; walk_at "nrm")
  | (refine ok_store_s (Nat.le_of_ble_eq_true rfl) rfl ?_; walk_at "nrm")
  | refine lf_add_int rfl rfl ?_
  | refine lf_sub_int rfl rfl ?_
  | refine lf_add_str rfl rfl (by walk_at "side") ?_
  | refine lf_add_lst rfl rfl (by walk_at "side") ?_
  | refine lf_lt_int rfl rfl ?_
  | refine lf_gt_int rfl rfl ?_
  | refine lf_le_int rfl rfl ?_
  | refine lf_ge_int rfl rfl ?_
  | refine lf_eq_int rfl rfl ?_
  | refine lf_ne_int rfl rfl ?_
  | refine lf_eq_str rfl rfl ?_
  | refine lf_ne_str rfl rfl ?_
  | refine lf_isin_ch rfl rfl ?_
  | refine lf_notin_ch rfl rfl ?_
  | refine lf_is_non rfl rfl (fun b h => nomatch h) ?_
  | refine lf_isnot_non rfl rfl (fun b h => nomatch h) ?_
  | refine lf_mod rfl rfl (by walk_at "side") ?_
  | refine ⟨fun _ => ?_, fun h => no_tf h⟩
  | refine ⟨fun h => no_ft h, fun _ => ?_⟩
  | refine ⟨fun _ => ?_, fun h => no_ft h⟩
  | refine ⟨fun h => no_tf h, fun _ => ?_⟩
  | refine ⟨fun _ => ?_, fun h => absurd (by walk_at "side") (of_decide_eq_false h)⟩
  | refine ⟨fun h => absurd (of_decide_eq_true h) (by walk_at "side"), fun _ => ?_⟩
  | refine ⟨fun _ => ?_, fun h => absurd (of_decide_eq_true h) (by walk_at "side")⟩
  | refine ⟨fun h => absurd (by walk_at "side") (of_decide_eq_false h), fun _ => ?_⟩
  | refine ⟨fun _ => ?_, fun h => absurd (nd_f h) (by walk_at "side")⟩
  | refine ⟨fun h => absurd (by walk_at "side") (nd_t h), fun _ => ?_⟩
  | refine ⟨fun _ => ?_, fun h => absurd (by walk_at "side") (nd_t h)⟩
  | refine ⟨fun h => absurd (nd_f h) (by walk_at "side"), fun _ => ?_⟩
  | (refine nx_nx ?_)
  | (refine nx_rt ?_)
  | refine retq_v ?_
  | refine retq_o ?_
  | refine retq_w rfl rfl ?_
  | (refine retq_p rfl rfl ?_; walk_at "nrm")
  | (refine retq_f rfl ?_; walk_at "nrm")
  | (refine fin_rt rfl rfl ?_; walk_at "nrm")
  | (refine fin_nx rfl rfl ?_; walk_at "nrm")
  | refine cl_intro rfl rfl rfl ?_
  | (refine ⟨_, _, _, rfl, rfl, rfl, ?_⟩; simp only [frzDup, List.any_cons, List.any_nil, Nat.reduceBEq, beq_self_eq_true, Bool.or_false, Bool.or_true, Bool.true_or, if_true, Bool.false_eq_true, if_false, En.get, List.getElem?_cons_zero, List.getElem?_cons_succ, List.set_cons_zero, List.set_cons_succ])
  | refine ⟨_, _, rfl, rfl, ?_⟩
  | refine ⟨_, _, _, _, rfl, rfl, rfl, rfl, ?_⟩
  | refine lim_intro (by walk_at "side") ?_)
local macro_rules | `(tactic| walk_at "ev") => `(tactic| ((repeat walk_at "ev1"); walk_at "nrm"))
local macro_rules | `(tactic| walk_at "unl") => `(tactic| simp only [unlockL, unlockS, lockL, lockS, En.get, List.getElem?_cons_zero, List.getElem?_cons_succ, List.set_cons_zero, List.set_cons_succ, eq_self, if_true])
theorem sub_getD {L : List Nat} {p : Nat} (h : p < L.length) : subD (.lst (nl L)) (.int (p : Nat)) = some (.int ((L.getD p 0 : Nat))) := by
  rw [nl_get h, List.getD_eq_getElem?_getD, List.getElem?_eq_getElem h] <;> rfl
theorem take_s {ps : List Nat} {i : Nat} (h : i < ps.length) : ps.take (i + 1) = ps.take i ++ [ps[i]] := List.take_succ_eq_append_getElem h
section
variable {Δ : Tab} (K : Kb Δ)
include K
end

theorem flat_nl (L : List Nat) : flat DEP (.lst (nl L)) = true := by
  show flatL 59 _ = true
  have : ∀ (l : List Nat), flatL 59 (nl l) = true := fun l => by
    induction l with
    | nil => rfl
    | cons b l ih => show (flat 59 (.int (b : Nat)) && flatL 59 (nl l)) = true; rw [ih] <;> rfl
  exact this _
theorem eqs_nl : ∀ {A B : List Nat}, eqDs (nl A) (nl B) = decide (A = B)
  | [], [] => rfl
  | [], b :: B => rfl
  | a :: A, [] => rfl
  | a :: A, b :: B => by
    show (((a : Int) == (b : Int)) && eqDs (nl A) (nl B)) = _
    rw [eqs_nl]
    by_cases h : a = b
    · subst h
      rw [beq_self_eq_true, Bool.true_and, decide_eq_decide]
      simp
    · rw [show ((a : Int) == (b : Int)) = false by rw [beq_eq_false_iff_ne]; omega, Bool.false_and]
      symm
      rw [decide_eq_false_iff_not]
      intro e
      injection e with e1 e2
      exact h e1
theorem eq_nl {A B : List Nat} : qC .eq (.lst (nl A)) (.lst (nl B)) = some (decide (A = B)) := by
  rw [qC_eq]
  show eqv (.lst (nl A)) (.lst (nl B)) = _
  unfold eqv
  rw [flat_nl, flat_nl]
  show some (eqDs (nl A) (nl B)) = _
  rw [eqs_nl]
theorem ne_nl {A B : List Nat} : qC .ne (.lst (nl A)) (.lst (nl B)) = some (!decide (A = B)) := by
  have h : eqv (.lst (nl A)) (.lst (nl B)) = some (decide (A = B)) := by
    have := eq_nl (A := A) (B := B)
    rw [qC_eq] at this
    exact this
  rw [qC_eq]
  show (match eqv (.lst (nl A)) (.lst (nl B)) with
    | some b => some (!b)
    | none => none) = _
  rw [h]
section
variable {Δ : Tab} (K : Kb Δ)
include K
end

section
variable {Δ : Tab} (K : Kb Δ)
include K
end
section
variable {Δ : Tab} (K : Kb Δ)
include K
end

theorem small_lt8 {w : List Nat} (h : small w = true) : ∀ c ∈ w, c < 128 := fun c hc => by
  have := List.all_eq_true.mp h c hc
  have hm : c ∈ abc := List.contains_iff_mem.mp this
  exact (by decide : ∀ c ∈ abc, c < 128) c hm
section
variable {Δ : Tab} (K : Kb Δ)
include K
end
section
variable {Δ : Tab} (K : Kb Δ)
include K
end


open PySem
theorem sl_snoc {L : List (List Nat)} {x : List Nat} : subD (.lst (sl (L ++ [x]))) (.int (-1)) = some (.str x) := by
  rw [sub_m1 (by simp)]
  simp
theorem isnot_bl {a b : Bool} : qC .isnot (.bl a) (.bl b) = some (!decide (a = b)) := by rw [qC_eq]; rfl
def pfx (w qs : List Nat) (i : Nat) : List (List Nat) := (List.range i).map fun a => mv w (qs.take a)
theorem pfx_succ {w qs : List Nat} {i : Nat} : pfx w qs (i + 1) = pfx w qs i ++ [mv w (qs.take i)] := by
  unfold pfx
  rw [List.range_succ, List.map_append] <;> rfl
section
variable {Δ : Tab} (K : Kb Δ)
include K
theorem io72 (k : Nat) {w j : List Nat} {p : Nat} (hp : p < w.length) (hl : w.length ≤ 1000) : Phi Δ (k + 3) 18 [⟨.fz, .str w⟩, ⟨.fz, .str j⟩, ⟨.fz, .int (p : Nat)⟩] = .ret false (.bl (decide (w.getD p 0 ∈ j))) [⟨.fz, .str w⟩, ⟨.fz, .str j⟩, ⟨.fz, .int (p : Nat)⟩] := by
  have hL := LIM_n
  apply CR.Ok.eq
  (refine ok_phi (K.h18) ⟨rfl, by decide⟩ ?_; simp only [frzAt, List.map_cons, List.map_nil, Nat.reduceSub, List.reduceReplicate, List.cons_append, List.nil_append, List.getElem?_cons_zero, List.getElem?_cons_succ, List.set_cons_zero, List.set_cons_succ, List.append_nil])
  walk_at "ev"
  (refine call_of (bt74 K k) rfl ?_; walk_at "nrm")
  rw [show (decide ((0 : Int) ≤ (p : Nat)) && decide ((p : Int) ≤ (w.length : Int) - 1)) = true by rw [decide_eq_true (by omega), decide_eq_true (by omega)] <;> rfl]
  walk_at "ev"
  refine lf_sub (str_get hp) rfl rfl ?_
  walk_at "ev"
  refine ⟨rfl, ?_, rfl⟩
  rw [List.getD_eq_getElem?_getD, List.getElem?_eq_getElem hp] <;> rfl
end

theorem dd {α : Type} [DecidableEq α] (a : α) : decide (a = a) = true := decide_eq_true rfl
theorem ne_nlS {A : List Nat} : qC .ne (.lst (nl A)) (.lst (nl A)) = some false := by rw [ne_nl, dd] <;> rfl
theorem eq_nlS {A : List Nat} : qC .eq (.lst (nl A)) (.lst (nl A)) = some true := by rw [eq_nl, dd]
theorem lf_le_c {a b : Int} : qC .le (.int a) (.int b) = some (decide (a ≤ b)) := by rw [qC_eq]; rfl
theorem pow10 (b : Nat) (h : (0 ≤ (b : Int) ∧ (b : Int) ≤ 100000 ∧ ((10 : Int).natAbs.log2) * (b : Int).toNat ≤ 100000)) : qB .pow (.int 10) (.int (b : Nat)) = some (.v (.int ((10 ^ b : Nat) : Int))) := by
  rw [qB_eq]
  unfold binD
  simp only
  rw [if_pos h, Int.toNat_natCast, Int.natCast_pow] <;> rfl
theorem ne_strS {A : List Nat} : qC .ne (.str A) (.str A) = some false := by rw [c_ne_str, dd] <;> rfl
section
variable {Δ : Tab} (K : Kb Δ)
include K
end

def rd (w M : List Nat) : List Nat := M.map fun i => w.getD i 0
/-- after t times -/
def wt (w ps : List Nat) (t : Nat) : List Nat := rd w (pw w.length (mv (List.range w.length) ps) t)
theorem pw_len {n t : Nat} {M : List Nat} : (pw n M t).length = n := by unfold pw; rw [List.length_map, List.length_range]
theorem wt_len {w ps : List Nat} {t : Nat} : (wt w ps t).length = w.length := by unfold wt rd; rw [List.length_map, pw_len]
theorem map_get {n : Nat} {M : List Nat} (h : M.length = n) : M = (List.range n).map (nx M) := by
  apply List.ext_getElem
  · rw [List.length_map, List.length_range, h]
  · intro i h1 h2
    rw [List.getElem_map, List.getElem_range, nx_eq h1]
theorem pw_one {n : Nat} {M : List Nat} (h : M.length = n) : pw n M 1 = M := by
  unfold pw
  exact (map_get h).symm
theorem mv_wt {w ps : List Nat} {t : Nat} (h : ∀ p ∈ ps, p < w.length) : mv (wt w ps t) ps = wt w ps (t + 1) := by
  have P := isP_mv h
  unfold wt rd pw
  rw [mv_map, mv_map]
  generalize mv (List.range w.length) ps = M at P
  have e := map_get P.len
  rw [List.map_map, List.map_map]
  conv => lhs; arg 2; rw [e]
  rw [List.map_map]
  refine List.map_congr_left fun x hx => ?_
  show w.getD (itn M t (nx M x)) 0 = w.getD (itn M (t + 1) x) 0
  rfl
theorem wt_zero {w ps : List Nat} : wt w ps 0 = w := by
  unfold wt rd pw
  apply List.ext_getElem
  · simp
  · intro i h1 h2
    simp [itn, List.getD_eq_getElem?_getD, h2]
/-! ### turning a word -/
theorem sum_one1 {α : Type} (f : α → Nat) : ∀ L : List α, ((L.map fun x => [f x]).map List.length).sum = L.length
  | [] => rfl
  | b :: L => by rw [List.map_cons, List.map_cons, List.sum_cons, sum_one1 f L, List.length_cons]; simp; omega
theorem flat_one1 {α : Type} (f : α → Nat) : ∀ L : List α, (L.map fun x => [f x]).flatten = L.map f
  | [] => rfl
  | b :: L => by rw [List.map_cons, List.flatten_cons, flat_one1 f L] <;> rfl
theorem sl_map {α : Type} (f : α → Nat) (L : List α) : (L.map fun x => D.str [f x]) = sl (L.map fun x => [f x]) := by
  unfold sl
  rw [List.map_map] <;> rfl
theorem wt_small {w M : List Nat} (h : small w = true) (hM : ∀ i ∈ M, i < w.length) : small (rd w M) = true := by
  refine List.all_eq_true.mpr fun c hc => ?_
  unfold rd at hc
  rw [List.mem_map] at hc
  obtain ⟨i, hi, rfl⟩ := hc
  refine List.all_eq_true.mp h _ ?_
  rw [List.getD_eq_getElem?_getD, List.getElem?_eq_getElem (hM i hi)]
  exact List.getElem_mem (hM i hi)
section
variable {Δ : Tab} (K : Kb Δ)
include K
theorem lb72 (k : Nat) {w M : List Nat} {md : Md} (hM : ∀ i ∈ M, i < w.length) (hl : M.length ≤ 1000) : Phi Δ (k + 1) 12 [⟨.fz, .str w⟩, ⟨md, .lst (nl M)⟩] = .ret false (.str (rd w M)) [⟨.fz, .str w⟩, ⟨md, .lst (nl M)⟩] := by
  have hL := LIM_n
  apply CR.Ok.eq
  (refine ok_phi (K.h12) ⟨rfl, by decide⟩ ?_; simp only [frzAt, List.map_cons, List.map_nil, Nat.reduceSub, List.reduceReplicate, List.cons_append, List.nil_append, List.getElem?_cons_zero, List.getElem?_cons_succ, List.set_cons_zero, List.set_cons_succ, List.append_nil])
  walk_at "ev"
  refine ⟨_, rfl, rfl, oks_cons (ok_lcE (α := Nat) ?_)⟩
  walk_at "ev"
  refine ⟨M, fun a => .int (a : Nat), fun x => .str [w.getD x 0], fun ρ => ∃ x2, ρ = [some ⟨.fz, .str w⟩, some ⟨md.lock, .lst (nl M)⟩, x2], rfl, ⟨_, rfl⟩, ?_, by omega, ?_⟩
  · rintro x hx ρ ⟨x2, rfl⟩
    refine lcTg_all rfl ?_
    walk_at "nrm"
    unfold be12_0
    walk_at "ev"
    refine lf_sub (sub_lit (hM x hx)) rfl rfl ?_
    walk_at "ev"
    exact ⟨rfl, _, rfl⟩
  rintro ρ' ⟨x2, rfl⟩
  walk_at "nrm"
  walk_at "unl"
  rw [sl_map]
  refine oks_nil ?_
  refine lf_mt (join_sl (by rw [sum_one1]; omega)) rfl rfl ?_
  rw [flat_one1]
  walk_at "ev"
  exact ⟨rfl, rfl, rfl⟩
theorem db72 (k : Nat) {w ps : List Nat} {md : Md} (hs : small w = true) (hw : w.length ≤ 1000) (hl : ps.length ≤ 100000) (h : ∀ p ∈ ps, p < w.length) : Phi Δ (k + 5) 13 [⟨.fz, .str w⟩, ⟨md, .lst (nl ps)⟩] = .ret false (.str (mv w ps)) [⟨.fz, .str w⟩, ⟨md, .lst (nl ps)⟩] := by
  have P := isP_mv h
  apply CR.Ok.eq
  (refine ok_phi (K.h13) ⟨rfl, by decide⟩ ?_; simp only [frzAt, List.map_cons, List.map_nil, Nat.reduceSub, List.reduceReplicate, List.cons_append, List.nil_append, List.getElem?_cons_zero, List.getElem?_cons_succ, List.set_cons_zero, List.set_cons_succ, List.append_nil])
  walk_at "ev"
  (refine call_of (cw74 K (k + 2) hs) rfl ?_; walk_at "nrm")
  walk_at "ev"
  (refine call_of (pc74 K k hl h) rfl ?_; walk_at "nrm")
  walk_at "ev"
  (refine call_of (mv74 K (k + 3) (m := w.length) hw h) rfl ?_; walk_at "nrm")
  walk_at "ev"
  (refine call_of (lb72 K (k + 3) (w := w) (M := mv (List.range w.length) ps) (md := .own) (fun i hi => P.lt i hi) (by rw [P.len]; exact hw)) rfl ?_; walk_at "nrm")
  rw [show rd w (mv (List.range w.length) ps) = mv w ps from mv_getD]
  walk_at "ev"
  exact ⟨rfl, rfl, rfl⟩
end

theorem ne_blS {a : Bool} : qC .ne (.bl a) (.bl a) = some false := by rw [qC_eq]; cases a <;> rfl
theorem zip_nl : ∀ A : List Nat, zipD (nl A) (nl A) = A.map fun a => .tup [.int (a : Nat), .int (a : Nat)]
  | [] => rfl
  | a :: A => by
    show .tup [.int (a : Nat), .int (a : Nat)] :: zipD (nl A) (nl A) = _
    rw [zip_nl A] <;> rfl
section
variable {Δ : Tab} (K : Kb Δ)
include K
theorem ei72 (k : Nat) {a : Int} : Phi Δ (k + 1) 38 [⟨.fz, .int a⟩, ⟨.fz, .int a⟩] = .ret false (.bl true) [⟨.fz, .int a⟩, ⟨.fz, .int a⟩] := by
  apply CR.Ok.eq
  (refine ok_phi (K.h38) ⟨rfl, by decide⟩ ?_; simp only [frzAt, List.map_cons, List.map_nil, Nat.reduceSub, List.reduceReplicate, List.cons_append, List.nil_append, List.getElem?_cons_zero, List.getElem?_cons_succ, List.set_cons_zero, List.set_cons_succ, List.append_nil])
  walk_at "ev"
  refine lf_cmp ne_blS rfl rfl ?_
  walk_at "ev"
  exact ⟨rfl, by rw [dd], rfl⟩
theorem el72 (k : Nat) {A : List Nat} {m1 m2 : Md} (hl : A.length ≤ 1000) : Phi Δ (k + 2) 38 [⟨m1, .lst (nl A)⟩, ⟨m2, .lst (nl A)⟩] = .ret false (.bl true) [⟨m1, .lst (nl A)⟩, ⟨m2, .lst (nl A)⟩] := by
  have hL := LIM_n
  apply CR.Ok.eq
  (refine ok_phi (K.h38) ⟨rfl, by decide⟩ ?_; simp only [frzAt, List.map_cons, List.map_nil, Nat.reduceSub, List.reduceReplicate, List.cons_append, List.nil_append, List.getElem?_cons_zero, List.getElem?_cons_succ, List.set_cons_zero, List.set_cons_succ, List.append_nil])
  walk_at "ev"
  refine lf_cmp ne_blS rfl rfl ?_
  walk_at "ev"
  refine lf_cmp ne_blS rfl rfl ?_
  walk_at "ev"
  refine ok_lcT (α := Nat) ?_
  walk_at "ev"
  refine ⟨A, fun a => .tup [.int (a : Nat), .int (a : Nat)], fun _ => false, fun _ => .int 1, fun ρ => ∃ x2 x3, ρ = [some ⟨m1.lock, .lst (nl A)⟩, some ⟨m2.lock, .lst (nl A)⟩, x2, x3], zip_nl A, ⟨_, _, rfl⟩, ?_, by omega, ?_⟩
  · rintro a ha ρ ⟨x2, x3, rfl⟩
    refine lcTg_of rfl ?_
    walk_at "nrm"
    unfold bt38_0
    walk_at "ev"
    (refine call_of (ei72 K k) rfl ?_; walk_at "nrm")
    walk_at "ev"
    exact ⟨rfl, (fun z => nomatch z), fun _ => ⟨_, _, rfl⟩⟩
  rintro ρ' ⟨x2, x3, rfl⟩
  walk_at "nrm"
  walk_at "unl"
  rw [show (A.filter fun _ => false).map (fun _ => D.int 1) = [] by simp]
  walk_at "ev"
  refine lf_cmp c_eq_nil rfl rfl ?_
  walk_at "ev"
  exact ⟨rfl, rfl, rfl⟩
end

section
variable {Δ : Tab} (K : Kb Δ)
include K
theorem wd72 (k : Nat) {m n : Nat} {l : List Nat} {g : D} (hg : Gen (m + n) g) (hn : n ≤ 1000) (hl0 : 0 < l.length) (hl : l.length ≤ 30) : ∃ (w : List Nat) (g' : D), Gen m g' ∧ w.length = n ∧ (∀ c ∈ w, c ∈ l) ∧
    Phi Δ (k + 3) 36 [⟨.own, g⟩, ⟨.fz, .str l⟩, ⟨.fz, .int (n : Nat)⟩] = .ret false (.str w) [⟨.own, g'⟩, ⟨.fz, .str l⟩, ⟨.fz, .int (n : Nat)⟩] := by
  have hL := LIM_n
  have hB := B62_eq
  suffices h : (Phi Δ (k + 3) 36 [⟨.own, g⟩, ⟨.fz, .str l⟩, ⟨.fz, .int (n : Nat)⟩]).Ok fun o d outs => ∃ (w : List Nat) (g' : D), Gen m g' ∧ w.length = n ∧ (∀ c ∈ w, c ∈ l) ∧ o = false ∧ d = .str w ∧ outs = [⟨.own, g'⟩, ⟨.fz, .str l⟩, ⟨.fz, .int (n : Nat)⟩] by
    obtain ⟨o, d, outs, e, w, g', h1, h2, h3, rfl, rfl, rfl⟩ := h
    exact ⟨w, g', h1, h2, h3, e⟩
  (refine ok_phi (K.h36) ⟨rfl, by decide⟩ ?_; simp only [frzAt, List.map_cons, List.map_nil, Nat.reduceSub, List.reduceReplicate, List.cons_append, List.nil_append, List.getElem?_cons_zero, List.getElem?_cons_succ, List.set_cons_zero, List.set_cons_succ, List.append_nil])
  walk_at "ev"
  refine ⟨_, rfl, rfl, oks_cons (ok_lc ?_)⟩
  walk_at "ev"
  refine ⟨(n : Int), rfl, ⟨by omega, by omega⟩, ?_⟩
  rw [rng_nl]
  refine ⟨fun done rest ρ => ∃ i w g' x3, i ≤ n ∧ rest.length + i = n ∧ done = sl (w.map fun c => [c]) ∧ w.length = i ∧ (∀ c ∈ w, c ∈ l) ∧ Gen (m + rest.length) g' ∧ ρ = [some ⟨.own, g'⟩, some ⟨.fz, .str l⟩, some ⟨.fz, .int (n : Nat)⟩, x3], ⟨0, [], g, _, Nat.zero_le _, by rw [nl_len, List.length_range, Nat.add_zero], rfl, rfl, (fun _ h => nomatch h), by rw [nl_len, List.length_range]; exact hg, rfl⟩, ?_, ?_⟩
  · rintro d ds done ρ ⟨i, w, g', x3, h1, h2, rfl, h3, h4, h5, rfl⟩
    rw [List.length_cons] at h2 h5
    obtain ⟨r, g2, h6, h7, e⟩ := drw K k (m := m + ds.length) (g := g') (n := l.length) h5 ⟨hl0, Nat.lt_of_le_of_lt hl (by decide)⟩
    refine ok_lcTg rfl (okts_nil ⟨fun _ => ?_, fun z => nomatch z⟩)
    walk_at "nrm"
    unfold be36_0
    walk_at "ev"
    (refine call_of (e) rfl ?_; walk_at "nrm")
    walk_at "ev"
    refine lf_sub (sub_lit h7) rfl rfl ?_
    walk_at "ev"
    refine ⟨i + 1, w ++ [l.getD r 0], g2, _, by omega, by omega, ?_, by rw [List.length_append, h3] <;> rfl, fun a ha => ?_, h6, rfl⟩
    · rw [List.map_append]
      unfold sl
      rw [List.map_append] <;> rfl
    · rcases List.mem_append.mp ha with ha | ha
      · exact h4 a ha
      · rw [List.mem_singleton.mp ha, List.getD_eq_getElem?_getD, List.getElem?_eq_getElem h7]
        exact List.getElem_mem h7
  · rintro ds ρ' ⟨i, w, g', x3, h1, h2, rfl, h3, h4, h5, rfl⟩
    rw [List.length_nil, Nat.zero_add] at h2
    refine ⟨by rw [sl_len, List.length_map]; omega, ?_⟩
    walk_at "nrm"
    refine oks_nil ?_
    refine lf_mt (join_sl (by rw [sum_one1]; omega)) rfl rfl ?_
    rw [flat_one1, List.map_id']
    walk_at "ev"
    exact ⟨w, g', h5, by omega, h4, rfl, rfl, rfl⟩
end

end Ev

set_option Elab.async false
set_option linter.all false
set_option maxRecDepth 100000
set_option maxHeartbeats 8000000
/-! X10b: printed by renum.py. Own work. -/
namespace Ev
theorem cyc_dvd {M lot : List Nat} {t : Nat} (c : Cyc M lot) : (∀ x ∈ lot, itn M t x = x) ↔ lot.length ∣ t := by
  have hp := c.pos
  constructor
  · intro h
    have h1 := h _ (List.getElem_mem hp)
    rw [c.itn t 0 hp] at h1
    have h2 := (List.getElem_inj c.nd).mp h1
    rw [Nat.zero_add] at h2
    exact Nat.dvd_of_mod_eq_zero h2
  · intro h x hx
    obtain ⟨i, hi, rfl⟩ := List.getElem_of_mem hx
    rw [c.itn t i hi]
    congr 1
    obtain ⟨d, rfl⟩ := h
    rw [Nat.add_mul_mod_self_left, Nat.mod_eq_of_lt hi]
theorem ord_dvd {n t : Nat} {M : List Nat} {R : List (List Nat)} (r : RndsA n M R) : ordR R ∣ t ↔ ∀ x, x < n → itn M t x = x := by
  unfold ordR
  rw [← lcmL_dvd]
  constructor
  · intro h x hx
    obtain ⟨lot, hl, hx⟩ := List.mem_flatten.mp (r.all x hx)
    exact (cyc_dvd (r.cyc lot hl)).mpr (h _ (List.mem_map_of_mem hl)) x hx
  · intro h a ha
    obtain ⟨lot, hl, rfl⟩ := List.mem_map.mp ha
    exact (cyc_dvd (r.cyc lot hl)).mp fun x hx => h x (r.lt lot hl x hx)
theorem pw_id {n t : Nat} {M : List Nat} (h : ∀ x, x < n → itn M t x = x) : pw n M t = List.range n := by
  unfold pw
  conv => rhs; rw [← List.map_id (List.range n)]
  exact List.map_congr_left fun x hx => h x (List.mem_range.mp hx)
/-- done as often as the order, all is home -/
theorem ledO_home {j w ks : List Nat} {t : Nat} (h : ∀ x, x < (fnd j w).length → itn (mv (List.range (fnd j w).length) ks) t x = x) (ht : trn ks * t % ((fnd j w).length + 1) = 0) : ledO j w ks t = w := by
  unfold ledO
  rw [pw_id h]
  obtain ⟨hw, hp⟩ := wd_parts j w
  have e1 : (List.range (fnd j w).length).map (fun i => (fnd j w).getD i 0) = fnd j w := by
    have := mv_getD (fs := fnd j w) (ks := [])
    exact this
  have e2 : rt (pcs j w) (trn ks * t) = pcs j w := by
    have h0 := rt_mod (ps := pcs j w) (a := trn ks * t) (b := 0) (by rw [hw.len, ht, Nat.zero_mod])
    rw [h0]
    have := rt_cut (ps := pcs j w) (t := 0) (Nat.zero_le _)
    simpa using this.symm
  rw [e1, e2, hp]
/-! ### one place alone -/
section
variable {n p : Nat} (hp : p < n)
include hp
end

end Ev

set_option Elab.async false
set_option linter.all false
set_option maxRecDepth 100000
set_option maxHeartbeats 8000000
/-! X11: roads and numbers of joints (plain). Own work. -/
namespace Ev
theorem jpl_fnd (j w : List Nat) : fnd j w = (jpl j w).map fun i => w.getD i 0 := by
  unfold jpl fnd
  have e : w = (List.range w.length).map fun i => w.getD i 0 := by
    apply List.ext_getElem
    · simp
    · intro i h1 h2
      simp [List.getD_eq_getElem?_getD, h1]
  conv => lhs; rw [e]
  rw [List.filter_map] <;> rfl
theorem jpl_len (j w : List Nat) : (jpl j w).length = (fnd j w).length := by rw [jpl_fnd, List.length_map]
theorem jpl_nd {j w : List Nat} : (jpl j w).Nodup := List.Pairwise.filter _ List.nodup_range
theorem getD_at {l : List Nat} {p : Nat} (h : p < l.length) : l.getD p 0 = l[p] := by
  rw [List.getD_eq_getElem?_getD, List.getElem?_eq_getElem h] <;> rfl
theorem jp_at {j w : List Nat} {p : Nat} (hp : p < w.length) (hj : w.getD p 0 ∈ j) : (jpl j w)[(fnd j (w.take p)).length]? = some p := by
  rw [getD_at hp] at hj
  have h := jpl_app (j := j) (u := w.take p) (v := w.drop (p + 1)) hj
  rw [List.getElem_cons_drop, List.take_append_drop, List.length_take, Nat.min_eq_left (Nat.le_of_lt hp)] at h
  exact h
theorem jp_mem {j w : List Nat} {p : Nat} (h : p ∈ jpl j w) : p < w.length ∧ w.getD p 0 ∈ j := by
  have h := List.mem_filter.mp h
  exact ⟨List.mem_range.mp h.1, of_decide_eq_true h.2⟩
/-- the place of the k-th joint -/
def plc (j w : List Nat) (k : Nat) : Nat := (jpl j w).getD k 0
theorem plc_ok {j w : List Nat} {k : Nat} (hk : k < (fnd j w).length) : plc j w k < w.length ∧ w.getD (plc j w k) 0 ∈ j ∧ (fnd j (w.take (plc j w k))).length = k := by
  have hk' : k < (jpl j w).length := by rw [jpl_len]; exact hk
  have e : plc j w k = (jpl j w)[k] := getD_at hk'
  have hm : plc j w k ∈ jpl j w := by rw [e]; exact List.getElem_mem hk'
  obtain ⟨h1, h2⟩ := jp_mem hm
  refine ⟨h1, h2, ?_⟩
  have h3 := jp_at h1 h2
  rw [e] at h3
  obtain ⟨h4, h5⟩ := List.getElem?_eq_some_iff.mp h3
  rw [e]
  have nd := jpl_nd (j := j) (w := w)
  rw [← nd.idxOf_getElem _ h4, h5, nd.idxOf_getElem _ hk']
theorem plc_at {j w : List Nat} {p : Nat} (hp : p < w.length) (hj : w.getD p 0 ∈ j) : plc j w (fnd j (w.take p)).length = p := by
  unfold plc
  rw [List.getD_eq_getElem?_getD, jp_at hp hj] <;> rfl
theorem fnd_mvS {j w : List Nat} {p : Nat} (hp : p < w.length) : (fnd j (mvS w p)).length = (fnd j w).length := ((mvS_perm hp).filter _).length_eq
def roadI (j w ks : List Nat) : List Nat := (List.range ks.length).map fun i => plc j (led j w (ks.take i)) (ks.getD i 0)
def numI (j w qs : List Nat) : List Nat := (List.range qs.length).map fun i => (fnd j ((mv w (qs.take i)).take (qs.getD i 0))).length
theorem led_cons {j w ks : List Nat} {k : Nat} : led j w (k :: ks) = led j (mvS w (plc j w k)) ks := rfl
theorem led_snoc {j w ks : List Nat} {k : Nat} : led j w (ks ++ [k]) = mvS (led j w ks) (plc j (led j w ks) k) := by unfold led; rw [List.foldl_append] <;> rfl
theorem roadI_cons {j w ks : List Nat} {k : Nat} : roadI j w (k :: ks) = plc j w k :: roadI j (mvS w (plc j w k)) ks := by
  unfold roadI
  rw [List.length_cons, List.range_succ_eq_map, List.map_cons, List.map_map]
  congr 1
theorem numI_cons {j w qs : List Nat} {q : Nat} : numI j w (q :: qs) = (fnd j (w.take q)).length :: numI j (mvS w q) qs := by
  unfold numI
  rw [List.length_cons, List.range_succ_eq_map, List.map_cons, List.map_map]
  congr 1
/-- each deed is at a joint -/
def opR (j : List Nat) : List Nat → List Nat → Prop
  | _, [] => True
  | w, q :: qs => q < w.length ∧ w.getD q 0 ∈ j ∧ opR j (mvS w q) qs
theorem opR_at {j : List Nat} : ∀ {qs w : List Nat}, opR j w qs → ∀ i (h : i < qs.length), qs[i] < (mv w (qs.take i)).length ∧ (mv w (qs.take i)).getD qs[i] 0 ∈ j
  | [], _, _, i, h => nomatch h
  | q :: qs, w, ⟨h1, h2, h3⟩, 0, h => ⟨h1, h2⟩
  | q :: qs, w, ⟨h1, h2, h3⟩, i + 1, h => opR_at h3 i (by simpa using h)
theorem opR_snoc {j : List Nat} {p : Nat} : ∀ {qs w : List Nat}, opR j w qs → p < (mv w qs).length → (mv w qs).getD p 0 ∈ j → opR j w (qs ++ [p])
  | [], _, _, h1, h2 => ⟨h1, h2, trivial⟩
  | q :: qs, w, ⟨h1, h2, h3⟩, h4, h5 => ⟨h1, h2, opR_snoc h3 h4 h5⟩
theorem opR_len {j : List Nat} : ∀ {qs w : List Nat}, opR j w qs → (mv w qs).length = w.length ∧ ∀ q ∈ qs, q < w.length
  | [], _, _ => ⟨rfl, fun _ h => nomatch h⟩
  | q :: qs, w, ⟨h1, h2, h3⟩ => by
    obtain ⟨a, b⟩ := opR_len h3
    rw [mvS_len h1] at a b
    exact ⟨a, fun x hx => (List.mem_cons.mp hx).elim (fun e => e ▸ h1) (b x)⟩
theorem road_num {j : List Nat} : ∀ {ks w : List Nat}, (∀ k ∈ ks, k < (fnd j w).length) → opR j w (roadI j w ks) ∧ numI j w (roadI j w ks) = ks ∧ mv w (roadI j w ks) = led j w ks
  | [], w, _ => ⟨trivial, rfl, rfl⟩
  | k :: ks, w, h => by
    obtain ⟨h1, h2, h3⟩ := plc_ok (h k List.mem_cons_self)
    obtain ⟨a, b, c⟩ := road_num (j := j) (ks := ks) (w := mvS w (plc j w k)) (fun x hx => by rw [fnd_mvS h1]; exact h x (List.mem_cons_of_mem _ hx))
    rw [roadI_cons, numI_cons, h3, b, led_cons]
    exact ⟨⟨h1, h2, a⟩, rfl, c⟩
theorem num_road {j : List Nat} : ∀ {qs w : List Nat}, opR j w qs → roadI j w (numI j w qs) = qs ∧ led j w (numI j w qs) = mv w qs ∧ ∀ k ∈ numI j w qs, k < (fnd j w).length
  | [], w, _ => ⟨rfl, rfl, fun _ h => nomatch h⟩
  | q :: qs, w, ⟨h1, h2, h3⟩ => by
    obtain ⟨a, b, c⟩ := num_road h3
    have e := plc_at h1 h2
    rw [numI_cons, roadI_cons, led_cons, e, a, b]
    refine ⟨rfl, rfl, fun k hk => ?_⟩
    rcases List.mem_cons.mp hk with rfl | hk
    · rw [← jpl_len j w]
      exact (List.getElem?_eq_some_iff.mp (jp_at h1 h2)).1
    · have := c k hk
      rw [fnd_mvS h1] at this
      exact this
theorem numI_len {j w qs : List Nat} : (numI j w qs).length = qs.length := by unfold numI; rw [List.length_map, List.length_range]
theorem roadI_len {j w qs : List Nat} : (roadI j w qs).length = qs.length := by unfold roadI; rw [List.length_map, List.length_range]
theorem led_len {j : List Nat} : ∀ {ks w : List Nat}, (∀ k ∈ ks, k < (fnd j w).length) → (led j w ks).length = w.length ∧ (fnd j (led j w ks)).length = (fnd j w).length
  | [], w, _ => ⟨rfl, rfl⟩
  | k :: ks, w, h => by
    obtain ⟨h1, h2, h3⟩ := plc_ok (h k List.mem_cons_self)
    obtain ⟨a, b⟩ := led_len (j := j) (ks := ks) (w := mvS w (plc j w k)) (fun x hx => by rw [fnd_mvS h1]; exact h x (List.mem_cons_of_mem _ hx))
    rw [led_cons, a, b, mvS_len h1, fnd_mvS h1]
    exact ⟨rfl, rfl⟩
theorem led_mem {j : List Nat} : ∀ {ks w : List Nat}, (∀ k ∈ ks, k < (fnd j w).length) → ∀ c ∈ led j w ks, c ∈ w
  | [], w, _, c, hc => hc
  | k :: ks, w, h, c, hc => by
    obtain ⟨h1, h2, h3⟩ := plc_ok (h k List.mem_cons_self)
    have := led_mem (j := j) (ks := ks) (w := mvS w (plc j w k)) (fun x hx => by rw [fnd_mvS h1]; exact h x (List.mem_cons_of_mem _ hx)) c hc
    exact (mvS_perm h1).mem_iff.mp this
/-! ### done often -/
section
variable {j w ks : List Nat} (h : ∀ k ∈ ks, k < (fnd j w).length)
theorem ledO_def {t : Nat} : ledO j w ks t = put (wt (fnd j w) ks t) (rt (pcs j w) (trn ks * t)) := rfl
include h
theorem wdO (t : Nat) : WdJ j (wt (fnd j w) ks t) (rt (pcs j w) (trn ks * t)) := by
  obtain ⟨⟨h1, h2, h3⟩, _⟩ := wd_parts j w
  refine ⟨by rw [rt_len, wt_len, h1], fun f hf => ?_, fun p hp => h3 p (rt_mem hp)⟩
  unfold wt rd at hf
  obtain ⟨i, hi, rfl⟩ := List.mem_map.mp hf
  have hi' : i < (fnd j w).length := (isP_pw (isP_mv h)).lt i hi
  exact h2 _ (by rw [getD_at hi']; exact List.getElem_mem hi')
theorem ledO_parts (t : Nat) : fnd j (ledO j w ks t) = wt (fnd j w) ks t ∧ pcs j (ledO j w ks t) = rt (pcs j w) (trn ks * t) := by
  rw [ledO_def]
  exact parts_put (wdO h t)
theorem ledO_zero : ledO j w ks 0 = w := ledO_home (fun x _ => rfl) (by rw [Nat.mul_zero, Nat.zero_mod])
theorem ledO_succ (t : Nat) : led j (ledO j w ks t) ks = ledO j w ks (t + 1) := by
  have e : (wt (fnd j w) ks t).length = (fnd j w).length := wt_len
  have := led_put (wdO h t) (ks := ks) (by rw [e]; exact h)
  rw [ledO_def, this, mv_wt h, rt_rt, ledO_def, Nat.mul_succ]
theorem ledO_valid (t : Nat) : ∀ k ∈ ks, k < (fnd j (ledO j w ks t)).length := by
  rw [(ledO_parts h t).1, wt_len]
  exact h
theorem ledO_one : ledO j w ks 1 = led j w ks := by rw [← ledO_succ h 0, ledO_zero h]
theorem ledO_add (a : Nat) : ∀ b, ledO j (ledO j w ks a) ks b = ledO j w ks (a + b)
  | 0 => ledO_zero (ledO_valid h a)
  | b + 1 => by rw [← ledO_succ (ledO_valid h a) b, ledO_add a b, ledO_succ h]; rfl
theorem ledO_mul {o : Nat} (ho : ledO j w ks o = w) : ∀ c, ledO j w ks (o * c) = w
  | 0 => ledO_zero h
  | c + 1 => by rw [Nat.mul_succ, ← ledO_add h, ledO_mul ho c, ho]
theorem ledO_mod {o : Nat} (ho : ledO j w ks o = w) (f : Nat) : ledO j w ks (f % o) = ledO j w ks f := by
  conv => rhs; rw [← Nat.div_add_mod f o, ← ledO_add h, ledO_mul h ho]
theorem ledO_back {o : Nat} (h0 : 0 < o) (ho : ledO j w ks o = w) (f : Nat) : ledO j (ledO j w ks f) ks (o - f % o) = w := by
  rw [ledO_add h]
  have h1 := Nat.div_add_mod f o
  have h2 := Nat.mod_lt f h0
  have h3 : f + (o - f % o) = o * (f / o + 1) := by rw [Nat.mul_succ]; omega
  rw [h3]
  exact ledO_mul h ho _
theorem ledO_len (t : Nat) : (ledO j w ks t).length = w.length ∧ (fnd j (ledO j w ks t)).length = (fnd j w).length ∧ ∀ c ∈ ledO j w ks t, c ∈ w := by
  induction t with
  | zero => rw [ledO_zero h]; exact ⟨rfl, rfl, fun _ h => h⟩
  | succ t ih =>
    rw [← ledO_succ h]
    obtain ⟨a, b⟩ := led_len (ledO_valid h t)
    exact ⟨a.trans ih.1, b.trans ih.2.1, fun c hc => ih.2.2 c (led_mem (ledO_valid h t) c hc)⟩
theorem ord_home {R : List (List Nat)} (r : RndsA (fnd j w).length (mv (List.range (fnd j w).length) ks) R) : ledO j w ks (Nat.lcm (ordR R) (tns ((fnd j w).length + 1) (trn ks))) = w := by
  refine ledO_home ?_ ?_
  · rw [← ord_dvd r]
    exact Nat.dvd_lcm_left _ _
  · rw [dvd_turn (Nat.succ_pos _)]
    exact Nat.dvd_lcm_right _ _
end
end Ev

set_option Elab.async false
set_option linter.all false
set_option maxRecDepth 100000
set_option maxHeartbeats 8000000
/-! X12: what the defs 17 to 42 compute. Own work. -/
namespace Ev
local macro_rules | `(tactic| walk_at "side") => `(tactic| first | assumption | omega | (have hLIM := LIM_n; have hB62 := B62_eq; have hB63 := B63_eq; (try simp only [List.length_append, List.length_cons, List.length_nil, List.length_map, List.length_reverse, List.length_replicate]); omega))
local macro_rules | `(tactic| walk_at "nrm") => `(tactic| try dsimp only [vrOf, frzAt, backAt, List.take_succ_cons, List.take_zero, allSome, List.set_cons_zero, List.set_cons_succ, outsTo, lockL, lockS, unlockL, unlockS, En.get, List.getElem?_cons_zero, List.getElem?_cons_succ, wipeE, backE])
local macro_rules | `(tactic| walk_at "ev1") => `(tactic| first
  | refine ok_lit ?_
  | refine ok_var rfl ?_
  | refine ok_bin ?_
  | refine ok_cmp ?_
  | refine ok_call ?_
  | refine ok_bi ?_
  | refine ok_sub ?_
  | refine oks_cons ?_
  | refine oks_nil ?_
  | refine ok_and ?_
  | refine ok_or ?_
  | refine ok_not ?_
  | refine ok_ifx ?_
  | refine ok_app rfl ?_
  | refine ok_mth (by decide) ?_
  | refine ok_sl ?_
  | refine ok_rev ?_
  | refine ok_lst ?_
  | refine ok_tup ?_
  | refine ok_dict0 ?_
  | refine ok_lrng1 ?_
  | refine okt_val ?_
  | refine okt_not ?_
  | refine okt_and ?_
  | refine okt_or ?_
  | refine okts_nil ?_
  | refine okts_cons ?_
  | refine oki_seq ?_
  | refine oki_rng1 ?_
  | refine oki_rng2 ?_
  | refine oki_enum ?_
  | refine oki_zip ?_
  | refine oki_back ?_
  | refine okz_nil ?_
  | refine oks_expr ?_
  | refine oks_set ?_
  | refine oks_par ?_
  | refine oks_unp ?_
  | refine unp_intro rfl rfl rfl ?_
  | refine oks_ret ?_
  | refine oks_iff ?_
  | refine oks_for ?_
  | refine oks_while ?_
  | refine ok_keep_v ?_
  | refine ok_keep_o ?_
  | (refine ok_keep_s rfl ?_; walk_at "nrm")
  | refine okk_nil ?_
  | refine okk_cons ?_
  | refine okl_nil ?_
  | refine okl_v ?_
  | refine okl_o ?_
  | (refine okl_s rfl ?_; walk_at "nrm")
  | (refine ok_store_v (Nat.le_of_ble_eq_true rfl) ?_; walk_at "nrm")
  | (refine ok_store_o (Nat.le_of_ble_eq_true rfl) ?_; walk_at "nrm")
  | (refine ok_store_s (Nat.le_of_ble_eq_true rfl) rfl ?_; walk_at "nrm")
  | refine lf_add_int rfl rfl ?_
  | refine lf_sub_int rfl rfl ?_
  | refine lf_add_str rfl rfl (by walk_at "side") ?_
  | refine lf_add_lst rfl rfl (by walk_at "side") ?_
  | refine lf_lt_int rfl rfl ?_
  | refine lf_gt_int rfl rfl ?_
  | refine lf_le_int rfl rfl ?_
  | refine lf_ge_int rfl rfl ?_
  | refine lf_eq_int rfl rfl ?_
  | refine lf_ne_int rfl rfl ?_
  | refine lf_eq_str rfl rfl ?_
  | refine lf_ne_str rfl rfl ?_
  | refine lf_isin_ch rfl rfl ?_
  | refine lf_notin_ch rfl rfl ?_
  | refine lf_is_non rfl rfl (fun b h => nomatch h) ?_
  | refine lf_isnot_non rfl rfl (fun b h => nomatch h) ?_
  | refine lf_mod rfl rfl (by walk_at "side") ?_
  | refine ⟨fun _ => ?_, fun h => no_tf h⟩
  | refine ⟨fun h => no_ft h, fun _ => ?_⟩
  | refine ⟨fun _ => ?_, fun h => no_ft h⟩
  | refine ⟨fun h => no_tf h, fun _ => ?_⟩
  | refine ⟨fun _ => ?_, fun h => absurd (by walk_at "side") (of_decide_eq_false h)⟩
  | refine ⟨fun h => absurd (of_decide_eq_true h) (by walk_at "side"), fun _ => ?_⟩
  | refine ⟨fun _ => ?_, fun h => absurd (of_decide_eq_true h) (by walk_at "side")⟩
  | refine ⟨fun h => absurd (by walk_at "side") (of_decide_eq_false h), fun _ => ?_⟩
  | refine ⟨fun _ => ?_, fun h => absurd (nd_f h) (by walk_at "side")⟩
  | refine ⟨fun h => absurd (by walk_at "side") (nd_t h), fun _ => ?_⟩
  | refine ⟨fun _ => ?_, fun h => absurd (by walk_at "side") (nd_t h)⟩
  | refine ⟨fun h => absurd (nd_f h) (by walk_at "side"), fun _ => ?_⟩
  | (refine nx_nx ?_)
  | (refine nx_rt ?_)
  | refine retq_v ?_
  | refine retq_o ?_
  | refine retq_w rfl rfl ?_
  | (refine retq_p rfl rfl ?_; walk_at "nrm")
  | (refine retq_f rfl ?_; walk_at "nrm")
  | (refine fin_rt rfl rfl ?_; walk_at "nrm")
  | (refine fin_nx rfl rfl ?_; walk_at "nrm")
  | refine cl_intro rfl rfl rfl ?_
  | (refine ⟨_, _, _, rfl, rfl, rfl, ?_⟩; simp only [frzDup, List.any_cons, List.any_nil, Nat.reduceBEq, beq_self_eq_true, Bool.or_false, Bool.or_true, Bool.true_or, if_true, Bool.false_eq_true, if_false, En.get, List.getElem?_cons_zero, List.getElem?_cons_succ, List.set_cons_zero, List.set_cons_succ])
  | refine ⟨_, _, rfl, rfl, ?_⟩
  | refine ⟨_, _, _, _, rfl, rfl, rfl, rfl, ?_⟩
  | refine lim_intro (by walk_at "side") ?_)
local macro_rules | `(tactic| walk_at "ev") => `(tactic| ((repeat walk_at "ev1"); walk_at "nrm"))
local macro_rules | `(tactic| walk_at "unl") => `(tactic| simp only [unlockL, unlockS, lockL, lockS, En.get, List.getElem?_cons_zero, List.getElem?_cons_succ, List.set_cons_zero, List.set_cons_succ, eq_self, if_true])
theorem enum_str (w : List Nat) : enumD (w.map fun c => .str [c]) = (List.range w.length).map fun i => .tup [.int (i : Nat), .str [w.getD i 0]] := by
  unfold enumD
  apply List.ext_getElem
  · simp
  · intro i h1 h2
    simp at h1
    simp [List.getD_eq_getElem?_getD, h1]
theorem plc_sub {j w : List Nat} {k : Nat} (hk : k < (fnd j w).length) : subD (.lst (nl (jpl j w))) (.int (k : Nat)) = some (.int ((plc j w k : Nat))) := by
  have h : k < (jpl j w).length := by rw [jpl_len]; exact hk
  rw [nl_get h]
  unfold plc
  rw [getD_at h]
theorem pfx_len {w qs : List Nat} {i : Nat} : (pfx w qs i).length = i := by unfold pfx; rw [List.length_map, List.length_range]
theorem zip_pfx {w qs : List Nat} : zipD (sl (pfx w qs (qs.length + 1))) (nl qs) = (List.range qs.length).map fun i => .tup [.str (mv w (qs.take i)), .int (qs.getD i 0 : Nat)] := by
  unfold zipD
  apply List.ext_getElem
  · simp [sl_len, pfx_len, nl_len]
  · intro i h1 h2
    simp at h2
    simp [sl, nl, pfx, List.getElem_zipWith, List.getD_eq_getElem?_getD, h2]
section
variable {Δ : Tab} (K : Kb Δ)
include K
theorem cw17 (k : Nat) {w j : List Nat} (hw : small w = true) (h : ordD (.str j) = true) (hl : j.length ≤ 26) : Phi Δ (k + 4) 17 [⟨.fz, .str w⟩, ⟨.fz, .str j⟩] = .ret false .non [⟨.fz, .str w⟩, ⟨.fz, .str j⟩] := by
  apply CR.Ok.eq
  (refine ok_phi (K.h17) ⟨rfl, by decide⟩ ?_; simp only [frzAt, List.map_cons, List.map_nil, Nat.reduceSub, List.reduceReplicate, List.cons_append, List.nil_append, List.getElem?_cons_zero, List.getElem?_cons_succ, List.set_cons_zero, List.set_cons_succ, List.append_nil])
  walk_at "ev"
  (refine call_of (cw74 K (k + 1) hw) rfl ?_; walk_at "nrm")
  walk_at "ev"
  (refine call_of (cj74 K k h hl) rfl ?_; walk_at "nrm")
  walk_at "ev"
  exact ⟨rfl, rfl, rfl⟩
theorem wp71 (k : Nat) {w j qs : List Nat} {md : Md} (hn : w.length ≤ 1000) (ho : opR j w qs) (hl : qs.length ≤ 100000) : Phi Δ (k + 4) 19 [⟨.fz, .str w⟩, ⟨.fz, .str j⟩, ⟨md, .lst (nl qs)⟩] = .ret true (.lst (sl (pfx w qs (qs.length + 1)))) [⟨.fz, .str w⟩, ⟨.fz, .str j⟩, ⟨md, .lst (nl qs)⟩] := by
  have hL := LIM_n
  apply CR.Ok.eq
  (refine ok_phi (K.h19) ⟨rfl, by decide⟩ ?_; simp only [frzAt, List.map_cons, List.map_nil, Nat.reduceSub, List.reduceReplicate, List.cons_append, List.nil_append, List.getElem?_cons_zero, List.getElem?_cons_succ, List.set_cons_zero, List.set_cons_succ, List.append_nil])
  walk_at "ev"
  refine ok_forM (fun i ρ => ∃ x4, ρ = [some ⟨.fz, .str w⟩, some ⟨.fz, .str j⟩, some ⟨md.lock, .lst (nl qs)⟩, some ⟨.own, .lst (sl (pfx w qs (i + 1)))⟩, x4]) ⟨_, rfl⟩ ?_ ?_
  · rintro i hi ρ ⟨x4, rfl⟩
    obtain ⟨hp, hc⟩ := opR_at ho i hi
    have hml : (mv w (qs.take i)).length = w.length := mv_len fun q hm => (opR_len ho).2 q (List.mem_of_mem_take hm)
    have hpl : (pfx w qs (i + 1)).length = i + 1 := pfx_len
    have e2 : mv w (qs.take (i + 1)) = mvS (mv w (qs.take i)) qs[i] := by rw [take_s hi, mv_snoc]
    refine ok_withTg rfl ?_
    walk_at "nrm"
    unfold bb19_0
    walk_at "ev"
    rw [pfx_succ]
    refine lf_sub sl_snoc rfl rfl ?_
    walk_at "ev"
    (refine call_of (io72 K k (w := mv w (qs.take i)) (j := j) hp (by omega)) rfl ?_; walk_at "nrm")
    walk_at "ev"
    refine lf_sub sl_snoc rfl rfl ?_
    walk_at "ev"
    (refine call_of (sw74 K (k + 2) (w := mv w (qs.take i)) hp (by omega)) rfl ?_; walk_at "nrm")
    walk_at "ev"
    refine ⟨_, rfl, ?_, ?_⟩
    · rw [← pfx_succ, sl_len, hpl]; omega
    walk_at "ev"
    refine ⟨some ⟨.fz, .int (qs[i] : Nat)⟩, ?_⟩
    rw [pfx_succ (i := i + 1), e2, ← pfx_succ]
    unfold sl
    rw [List.map_append] <;> rfl
  · rintro ρ ⟨x4, rfl⟩
    walk_at "unl"
    walk_at "ev"
    exact ⟨rfl, rfl, rfl⟩
theorem pd71 (k : Nat) {w j qs : List Nat} {md : Md} (hw : small w = true) (hj : ordD (.str j) = true) (hjl : j.length ≤ 26) (hn : w.length ≤ 1000) (ho : opR j w qs) (hl : qs.length ≤ 100000) : Phi Δ (k + 5) 20 [⟨.fz, .str w⟩, ⟨.fz, .str j⟩, ⟨md, .lst (nl qs)⟩] = .ret true (.lst (sl (pfx w qs (qs.length + 1)))) [⟨.fz, .str w⟩, ⟨.fz, .str j⟩, ⟨md, .lst (nl qs)⟩] := by
  have hL := LIM_n
  apply CR.Ok.eq
  (refine ok_phi (K.h20) ⟨rfl, by decide⟩ ?_; simp only [frzAt, List.map_cons, List.map_nil, Nat.reduceSub, List.reduceReplicate, List.cons_append, List.nil_append, List.getElem?_cons_zero, List.getElem?_cons_succ, List.set_cons_zero, List.set_cons_succ, List.append_nil])
  walk_at "ev"
  (refine call_of (cw17 K k hw hj hjl) rfl ?_; walk_at "nrm")
  walk_at "ev"
  (refine call_of (wp71 K k hn ho hl) rfl ?_; walk_at "nrm")
  walk_at "ev"
  exact ⟨rfl, rfl, rfl⟩
theorem dn71 (k : Nat) {w j qs : List Nat} {md : Md} (hw : small w = true) (hj : ordD (.str j) = true) (hjl : j.length ≤ 26) (hn : w.length ≤ 1000) (ho : opR j w qs) (hl : qs.length ≤ 100000) : Phi Δ (k + 6) 21 [⟨.fz, .str w⟩, ⟨.fz, .str j⟩, ⟨md, .lst (nl qs)⟩] = .ret false (.str (mv w qs)) [⟨.fz, .str w⟩, ⟨.fz, .str j⟩, ⟨md, .lst (nl qs)⟩] := by
  have hL := LIM_n
  apply CR.Ok.eq
  (refine ok_phi (K.h21) ⟨rfl, by decide⟩ ?_; simp only [frzAt, List.map_cons, List.map_nil, Nat.reduceSub, List.reduceReplicate, List.cons_append, List.nil_append, List.getElem?_cons_zero, List.getElem?_cons_succ, List.set_cons_zero, List.set_cons_succ, List.append_nil])
  walk_at "ev"
  (refine call_of (pd71 K k hw hj hjl hn ho hl) rfl ?_; walk_at "nrm")
  walk_at "ev"
  rw [pfx_succ, List.take_length]
  refine lf_sub sl_snoc rfl rfl ?_
  walk_at "ev"
  exact ⟨rfl, rfl, rfl⟩
theorem nm71 (k : Nat) {w j qs : List Nat} {md : Md} (hw : small w = true) (hj : ordD (.str j) = true) (hjl : j.length ≤ 26) (hn : w.length ≤ 1000) (ho : opR j w qs) (hl : qs.length ≤ 100000) : Phi Δ (k + 5) 29 [⟨.fz, .str w⟩, ⟨.fz, .str j⟩, ⟨md, .lst (nl qs)⟩] = .ret true (.lst (nl (numI j w qs))) [⟨.fz, .str w⟩, ⟨.fz, .str j⟩, ⟨md, .lst (nl qs)⟩] := by
  have hL := LIM_n
  apply CR.Ok.eq
  (refine ok_phi (K.h29) ⟨rfl, by decide⟩ ?_; simp only [frzAt, List.map_cons, List.map_nil, Nat.reduceSub, List.reduceReplicate, List.cons_append, List.nil_append, List.getElem?_cons_zero, List.getElem?_cons_succ, List.set_cons_zero, List.set_cons_succ, List.append_nil])
  walk_at "ev"
  (refine call_of (cp74 K k hw hj hjl) rfl ?_; walk_at "nrm")
  walk_at "ev"
  (refine call_of (wp71 K k hn ho hl) rfl ?_; walk_at "nrm")
  walk_at "ev"
  rw [zip_pfx]
  refine ok_forN qs.length (fun i ρ => ∃ x5 x6 x7, ρ = [some ⟨.fz, .str w⟩, some ⟨.fz, .str j⟩, some ⟨md.lock, .lst (nl qs)⟩, some ⟨.lk, .lst (sl (pfx w qs (qs.length + 1)))⟩, some ⟨.own, .lst (nl ((List.range i).map fun i => (fnd j ((mv w (qs.take i)).take (qs.getD i 0))).length))⟩, x5, x6, x7]) ⟨_, _, _, rfl⟩ ?_ ?_
  · rintro i hi ρ ⟨x5, x6, x7, rfl⟩
    have hml : (mv w (qs.take i)).length = w.length := mv_len fun q hm => (opR_len ho).2 q (List.mem_of_mem_take hm)
    refine ok_withTg rfl ?_
    walk_at "nrm"
    unfold bb29_1
    refine oks_expr (ok_app rfl (ok_bi (oks_cons ?_)))
    unfold bl29_0
    refine ok_lcT (α := Nat) ?_
    walk_at "ev"
    rw [cut_hi]
    have hcl : ((mv w (qs.take i)).take (qs.getD i 0)).length ≤ 1000 := by rw [List.length_take]; omega
    refine ⟨(mv w (qs.take i)).take (qs.getD i 0), fun c => .str [c], fun c => decide (c ∈ j), fun c => .str [c], fun ρ => ∃ x7, ρ = [some ⟨.fz, .str w⟩, some ⟨.fz, .str j⟩, some ⟨md.lock, .lst (nl qs)⟩, some ⟨.lk, .lst (sl (pfx w qs (qs.length + 1)))⟩, some ⟨.own, .lst (nl ((List.range i).map fun i => (fnd j ((mv w (qs.take i)).take (qs.getD i 0))).length))⟩, some ⟨.fz, .str (mv w (qs.take i))⟩, some ⟨.fz, .int (qs.getD i 0 : Nat)⟩, x7], rfl, ⟨_, rfl⟩, ?_, by omega, ?_⟩
    · rintro c hc ρ ⟨x7, rfl⟩
      refine lcTg_of rfl ?_
      walk_at "nrm"
      unfold bt29_0
      walk_at "ev"
      refine ⟨fun h => ?_, fun h => ?_⟩
      · walk_at "ev"
        refine ⟨h.symm ▸ rfl, fun _ => ?_, fun z => ?_⟩
        · unfold be29_0
          walk_at "ev"
          exact ⟨rfl, _, rfl⟩
        · rw [z] at h; cases h
      · refine ⟨h.symm ▸ rfl, fun z => ?_, fun _ => ⟨_, rfl⟩⟩
        rw [z] at h; cases h
    · rintro ρ' ⟨x8, rfl⟩
      walk_at "nrm"
      refine oks_nil ?_
      refine lf_bi (len_list K) rfl ?_
      walk_at "ev"
      refine ⟨_, rfl, ?_, ?_⟩
      · rw [nl_len, List.length_map, List.length_range]; omega
      walk_at "ev"
      refine ⟨some ⟨.fz, .str (mv w (qs.take i))⟩, some ⟨.fz, .int (qs.getD i 0 : Nat)⟩, x7, ?_⟩
      rw [List.range_succ, List.map_append, List.map_singleton, ← nl_snoc] <;> rfl
  · rintro ρ ⟨x5, x6, x7, rfl⟩
    walk_at "unl"
    walk_at "ev"
    exact ⟨rfl, rfl, rfl⟩
end
end Ev

set_option Elab.async false
set_option linter.all false
set_option maxRecDepth 100000
set_option maxHeartbeats 8000000
/-! X13: roads of number lists, the law's walk. Own work. -/
namespace Ev
local macro_rules | `(tactic| walk_at "side") => `(tactic| first | assumption | omega | (have hLIM := LIM_n; have hB62 := B62_eq; have hB63 := B63_eq; (try simp only [List.length_append, List.length_cons, List.length_nil, List.length_map, List.length_reverse, List.length_replicate]); omega))
local macro_rules | `(tactic| walk_at "nrm") => `(tactic| try dsimp only [vrOf, frzAt, backAt, List.take_succ_cons, List.take_zero, allSome, List.set_cons_zero, List.set_cons_succ, outsTo, lockL, lockS, unlockL, unlockS, En.get, List.getElem?_cons_zero, List.getElem?_cons_succ, wipeE, backE])
local macro_rules | `(tactic| walk_at "ev1") => `(tactic| first
  | refine ok_lit ?_
  | refine ok_var rfl ?_
  | refine ok_bin ?_
  | refine ok_cmp ?_
  | refine ok_call ?_
  | refine ok_bi ?_
  | refine ok_sub ?_
  | refine oks_cons ?_
  | refine oks_nil ?_
  | refine ok_and ?_
  | refine ok_or ?_
  | refine ok_not ?_
  | refine ok_ifx ?_
  | refine ok_app rfl ?_
  | refine ok_mth (by decide) ?_
  | refine ok_sl ?_
  | refine ok_rev ?_
  | refine ok_lst ?_
  | refine ok_tup ?_
  | refine ok_dict0 ?_
  | refine ok_lrng1 ?_
  | refine okt_val ?_
  | refine okt_not ?_
  | refine okt_and ?_
  | refine okt_or ?_
  | refine okts_nil ?_
  | refine okts_cons ?_
  | refine oki_seq ?_
  | refine oki_rng1 ?_
  | refine oki_rng2 ?_
  | refine oki_enum ?_
  | refine oki_zip ?_
  | refine oki_back ?_
  | refine okz_nil ?_
  | refine oks_expr ?_
  | refine oks_set ?_
  | refine oks_par ?_
  | refine oks_unp ?_
  | refine unp_intro rfl rfl rfl ?_
  | refine oks_ret ?_
  | refine oks_iff ?_
  | refine oks_for ?_
  | refine oks_while ?_
  | refine ok_keep_v ?_
  | refine ok_keep_o ?_
  | (refine ok_keep_s rfl ?_; walk_at "nrm")
  | refine okk_nil ?_
  | refine okk_cons ?_
  | refine okl_nil ?_
  | refine okl_v ?_
  | refine okl_o ?_
  | (refine okl_s rfl ?_; walk_at "nrm")
  | (refine ok_store_v (Nat.le_of_ble_eq_true rfl) ?_; walk_at "nrm")
  | (refine ok_store_o (Nat.le_of_ble_eq_true rfl) ?_; walk_at "nrm")
  | (refine ok_store_s (Nat.le_of_ble_eq_true rfl) rfl ?_; walk_at "nrm")
  | refine lf_add_int rfl rfl ?_
  | refine lf_sub_int rfl rfl ?_
  | refine lf_add_str rfl rfl (by walk_at "side") ?_
  | refine lf_add_lst rfl rfl (by walk_at "side") ?_
  | refine lf_lt_int rfl rfl ?_
  | refine lf_gt_int rfl rfl ?_
  | refine lf_le_int rfl rfl ?_
  | refine lf_ge_int rfl rfl ?_
  | refine lf_eq_int rfl rfl ?_
  | refine lf_ne_int rfl rfl ?_
  | refine lf_eq_str rfl rfl ?_
  | refine lf_ne_str rfl rfl ?_
  | refine lf_isin_ch rfl rfl ?_
  | refine lf_notin_ch rfl rfl ?_
  | refine lf_is_non rfl rfl (fun b h => nomatch h) ?_
  | refine lf_isnot_non rfl rfl (fun b h => nomatch h) ?_
  | refine lf_mod rfl rfl (by walk_at "side") ?_
  | refine ⟨fun _ => ?_, fun h => no_tf h⟩
  | refine ⟨fun h => no_ft h, fun _ => ?_⟩
  | refine ⟨fun _ => ?_, fun h => no_ft h⟩
  | refine ⟨fun h => no_tf h, fun _ => ?_⟩
  | refine ⟨fun _ => ?_, fun h => absurd (by walk_at "side") (of_decide_eq_false h)⟩
  | refine ⟨fun h => absurd (of_decide_eq_true h) (by walk_at "side"), fun _ => ?_⟩
  | refine ⟨fun _ => ?_, fun h => absurd (of_decide_eq_true h) (by walk_at "side")⟩
  | refine ⟨fun h => absurd (by walk_at "side") (of_decide_eq_false h), fun _ => ?_⟩
  | refine ⟨fun _ => ?_, fun h => absurd (nd_f h) (by walk_at "side")⟩
  | refine ⟨fun h => absurd (by walk_at "side") (nd_t h), fun _ => ?_⟩
  | refine ⟨fun _ => ?_, fun h => absurd (by walk_at "side") (nd_t h)⟩
  | refine ⟨fun h => absurd (nd_f h) (by walk_at "side"), fun _ => ?_⟩
  | (refine nx_nx ?_)
  | (refine nx_rt ?_)
  | refine retq_v ?_
  | refine retq_o ?_
  | refine retq_w rfl rfl ?_
  | (refine retq_p rfl rfl ?_; walk_at "nrm")
  | (refine retq_f rfl ?_; walk_at "nrm")
  | (refine fin_rt rfl rfl ?_; walk_at "nrm")
  | (refine fin_nx rfl rfl ?_; walk_at "nrm")
  | refine cl_intro rfl rfl rfl ?_
  | (refine ⟨_, _, _, rfl, rfl, rfl, ?_⟩; simp only [frzDup, List.any_cons, List.any_nil, Nat.reduceBEq, beq_self_eq_true, Bool.or_false, Bool.or_true, Bool.true_or, if_true, Bool.false_eq_true, if_false, En.get, List.getElem?_cons_zero, List.getElem?_cons_succ, List.set_cons_zero, List.set_cons_succ])
  | refine ⟨_, _, rfl, rfl, ?_⟩
  | refine ⟨_, _, _, _, rfl, rfl, rfl, rfl, ?_⟩
  | refine lim_intro (by walk_at "side") ?_)
local macro_rules | `(tactic| walk_at "ev") => `(tactic| ((repeat walk_at "ev1"); walk_at "nrm"))
local macro_rules | `(tactic| walk_at "unl") => `(tactic| simp only [unlockL, unlockS, lockL, lockS, En.get, List.getElem?_cons_zero, List.getElem?_cons_succ, List.set_cons_zero, List.set_cons_succ, eq_self, if_true])
section
variable {Δ : Tab} (K : Kb Δ)
include K
theorem rd71 (k : Nat) {w j ks : List Nat} {md : Md} (hw : small w = true) (hj : ordD (.str j) = true) (hjl : j.length ≤ 26) (hn : w.length ≤ 1000) (hk : ∀ a ∈ ks, a < (fnd j w).length) (hl : ks.length ≤ 100000) : Phi Δ (k + 5) 30 [⟨.fz, .str w⟩, ⟨.fz, .str j⟩, ⟨md, .lst (nl ks)⟩] = .ret true (.lst (nl (roadI j w ks))) [⟨.fz, .str w⟩, ⟨.fz, .str j⟩, ⟨md, .lst (nl ks)⟩] := by
  have hL := LIM_n
  apply CR.Ok.eq
  (refine ok_phi (K.h30) ⟨rfl, by decide⟩ ?_; simp only [frzAt, List.map_cons, List.map_nil, Nat.reduceSub, List.reduceReplicate, List.cons_append, List.nil_append, List.getElem?_cons_zero, List.getElem?_cons_succ, List.set_cons_zero, List.set_cons_succ, List.append_nil])
  walk_at "ev"
  (refine call_of (cp74 K k hw hj hjl) rfl ?_; walk_at "nrm")
  walk_at "ev"
  (refine call_of (pt74 K (k + 3) hn) rfl ?_; walk_at "nrm")
  walk_at "ev"
  refine lf_sub (d := .tup [.str (fnd j w), .lst (sl (pcs j w))]) (e := .int 0) (r := .str (fnd j w)) rfl rfl rfl ?_
  walk_at "ev"
  (refine call_of (cn274 K k hl hk) rfl ?_; walk_at "nrm")
  walk_at "ev"
  refine ok_forM (g := fun p : Nat => D.int (p : Nat)) (L := ks) (fun i ρ => ∃ x4 x5 x6 x7, ρ = [some ⟨.fz, .str (led j w (ks.take i))⟩, some ⟨.fz, .str j⟩, some ⟨md.lock, .lst (nl ks)⟩, some ⟨.own, .lst (nl ((List.range i).map fun i => plc j (led j w (ks.take i)) (ks.getD i 0)))⟩, x4, x5, x6, x7]) ⟨_, _, _, _, rfl⟩ ?_ ?_
  · rintro i hi ρ ⟨x4, x5, x6, x7, rfl⟩
    have hv : ∀ a ∈ ks.take i, a < (fnd j w).length := fun a ha => hk a (List.mem_of_mem_take ha)
    obtain ⟨hll, hfl⟩ := led_len hv
    have hki : ks[i] < (fnd j (led j w (ks.take i))).length := by rw [hfl]; exact hk _ (List.getElem_mem hi)
    have e2 : led j w (ks.take (i + 1)) = mvS (led j w (ks.take i)) (plc j (led j w (ks.take i)) ks[i]) := by rw [take_s hi, led_snoc]
    have egd : ks.getD i 0 = ks[i] := getD_at hi
    obtain ⟨hp, _, _⟩ := plc_ok hki
    generalize hu : led j w (ks.take i) = u at *
    refine ok_withTg rfl ?_
    walk_at "nrm"
    unfold bb30_1
    refine oks_set (ok_sub ?_)
    unfold bl30_0
    refine ok_lcT (α := Nat) ?_
    walk_at "ev"
    refine ⟨List.range u.length, fun i => .tup [.int (i : Nat), .str [u.getD i 0]], fun i => decide (u.getD i 0 ∈ j), fun i => .int (i : Nat), fun ρ => ∃ x6 x7, ρ = [some ⟨.fz, .str u⟩, some ⟨.fz, .str j⟩, some ⟨md.lock, .lst (nl ks)⟩, some ⟨.own, .lst (nl ((List.range i).map fun i => plc j (led j w (ks.take i)) (ks.getD i 0)))⟩, some ⟨.fz, .int (ks[i] : Nat)⟩, x5, x6, x7], enum_str u, ⟨_, _, rfl⟩, ?_, by rw [List.length_range]; omega, ?_⟩
    · rintro a ha ρ ⟨x6, x7, rfl⟩
      refine lcTg_of rfl ?_
      walk_at "nrm"
      unfold bt30_0
      walk_at "ev"
      refine ⟨fun h => ?_, fun h => ?_⟩
      · walk_at "ev"
        refine ⟨h.symm ▸ rfl, fun _ => ?_, fun z => ?_⟩
        · unfold be30_0
          walk_at "ev"
          exact ⟨rfl, _, _, rfl⟩
        · rw [z] at h; cases h
      · refine ⟨h.symm ▸ rfl, fun z => ?_, fun _ => ⟨_, _, rfl⟩⟩
        rw [z] at h; cases h
    · rintro ρ' ⟨x8, x9, rfl⟩
      walk_at "nrm"
      have c1 : (cut u (some ((plc j u ks[i] : Int) + 1)) none).length ≤ 1000 := by rw [cut_lo, List.length_drop]; omega
      have c2 : (cut u none (some (plc j u ks[i] : Int))).length ≤ 1000 := by rw [cut_hi, List.length_take]; omega
      walk_at "ev"
      refine lf_sub (plc_sub hki) rfl rfl ?_
      walk_at "ev"
      refine ⟨_, rfl, ?_, ?_⟩
      · rw [nl_len, List.length_map, List.length_range]; omega
      walk_at "ev"
      refine lf_sub (str_get hp) rfl rfl ?_
      walk_at "ev"
      refine ⟨some ⟨.fz, .int (ks[i] : Nat)⟩, some ⟨.fz, .int (plc j u ks[i] : Nat)⟩, x6, x7, ?_⟩
      rw [cut_lo, cut_hi, e2, List.range_succ, List.map_append, List.map_singleton, ← nl_snoc, hu, egd]
      unfold mvS
      rw [List.getElem?_eq_getElem hp] <;> rfl
  · rintro ρ ⟨x4, x5, x6, x7, rfl⟩
    walk_at "unl"
    walk_at "ev"
    exact ⟨rfl, rfl, rfl⟩
/-- the law's places of joints -/
theorem lp71 (k : Nat) {w j : List Nat} (hn : w.length ≤ 1000) : Phi Δ (k + 1) 41 [⟨.fz, .str w⟩, ⟨.fz, .str j⟩] = .ret true (.lst (nl (jpl j w))) [⟨.fz, .str w⟩, ⟨.fz, .str j⟩] := by
  have hL := LIM_n
  apply CR.Ok.eq
  (refine ok_phi (K.h41) ⟨rfl, by decide⟩ ?_; simp only [frzAt, List.map_cons, List.map_nil, Nat.reduceSub, List.reduceReplicate, List.cons_append, List.nil_append, List.getElem?_cons_zero, List.getElem?_cons_succ, List.set_cons_zero, List.set_cons_succ, List.append_nil])
  refine oks_ret ?_
  unfold bl41_0
  refine ok_lcT (α := Nat) ?_
  walk_at "ev"
  refine ⟨List.range w.length, fun i => .tup [.int (i : Nat), .str [w.getD i 0]], fun i => decide (w.getD i 0 ∈ j), fun i => .int (i : Nat), fun ρ => ∃ x6 x7, ρ = [some ⟨.fz, .str w⟩, some ⟨.fz, .str j⟩, x6, x7], enum_str w, ⟨_, _, rfl⟩, ?_, by rw [List.length_range]; omega, ?_⟩
  · rintro a ha ρ ⟨x6, x7, rfl⟩
    refine lcTg_of rfl ?_
    walk_at "nrm"
    unfold bt41_0
    walk_at "ev"
    refine ⟨fun h => ?_, fun h => ?_⟩
    · walk_at "ev"
      refine ⟨h.symm ▸ rfl, fun _ => ?_, fun z => ?_⟩
      · unfold be41_0
        walk_at "ev"
        exact ⟨rfl, _, _, rfl⟩
      · rw [z] at h; cases h
    · refine ⟨h.symm ▸ rfl, fun z => ?_, fun _ => ⟨_, _, rfl⟩⟩
      rw [z] at h; cases h
  · rintro ρ' ⟨x6, x7, rfl⟩
    walk_at "nrm"
    walk_at "ev"
    exact ⟨rfl, rfl, rfl⟩
theorem wb71 (k : Nat) {w j ks : List Nat} {md : Md} (hn : w.length ≤ 1000) (hk : ∀ a ∈ ks, a < (fnd j w).length) (hl : ks.length ≤ 100000) : Phi Δ (k + 2) 42 [⟨.fz, .str w⟩, ⟨.fz, .str j⟩, ⟨md, .lst (nl ks)⟩] = .ret true (.lst [.str (led j w ks), .lst (nl (roadI j w ks))]) [⟨.fz, .str w⟩, ⟨.fz, .str j⟩, ⟨md, .lst (nl ks)⟩] := by
  have hL := LIM_n
  apply CR.Ok.eq
  (refine ok_phi (K.h42) ⟨rfl, by decide⟩ ?_; simp only [frzAt, List.map_cons, List.map_nil, Nat.reduceSub, List.reduceReplicate, List.cons_append, List.nil_append, List.getElem?_cons_zero, List.getElem?_cons_succ, List.set_cons_zero, List.set_cons_succ, List.append_nil])
  walk_at "ev"
  refine ok_forM (g := fun p : Nat => D.int (p : Nat)) (L := ks) (fun i ρ => ∃ x4 x5, ρ = [some ⟨.fz, .str (led j w (ks.take i))⟩, some ⟨.fz, .str j⟩, some ⟨md.lock, .lst (nl ks)⟩, some ⟨.own, .lst (nl ((List.range i).map fun i => plc j (led j w (ks.take i)) (ks.getD i 0)))⟩, x4, x5]) ⟨_, _, rfl⟩ ?_ ?_
  · rintro i hi ρ ⟨x4, x5, rfl⟩
    have hv : ∀ a ∈ ks.take i, a < (fnd j w).length := fun a ha => hk a (List.mem_of_mem_take ha)
    obtain ⟨hll, hfl⟩ := led_len hv
    have hki : ks[i] < (fnd j (led j w (ks.take i))).length := by rw [hfl]; exact hk _ (List.getElem_mem hi)
    have e2 : led j w (ks.take (i + 1)) = mvS (led j w (ks.take i)) (plc j (led j w (ks.take i)) ks[i]) := by rw [take_s hi, led_snoc]
    have egd : ks.getD i 0 = ks[i] := getD_at hi
    obtain ⟨hp, _, _⟩ := plc_ok hki
    have hrl : (nl ((List.range i).map fun i => plc j (led j w (ks.take i)) (ks.getD i 0))).length = i := by rw [nl_len, List.length_map, List.length_range]
    generalize hu : led j w (ks.take i) = u at *
    refine ok_withTg rfl ?_
    walk_at "nrm"
    unfold bb42_0
    walk_at "ev"
    (refine call_of (lp71 K k (by omega)) rfl ?_; walk_at "nrm")
    walk_at "ev"
    refine lf_sub (plc_sub hki) rfl rfl ?_
    walk_at "ev"
    (refine call_of (sw37 K k hp (by omega)) rfl ?_; walk_at "nrm")
    walk_at "ev"
    refine ⟨_, rfl, ?_⟩
    walk_at "ev"
    refine ⟨some ⟨.fz, .int (ks[i] : Nat)⟩, some ⟨.fz, .int (plc j u ks[i] : Nat)⟩, ?_⟩
    rw [e2, List.range_succ, List.map_append, List.map_singleton, ← nl_snoc, hu, egd]
  · rintro ρ ⟨x4, x5, rfl⟩
    rw [List.take_length]
    walk_at "unl"
    walk_at "ev"
    exact ⟨rfl, rfl, rfl⟩
end
end Ev

set_option Elab.async false
set_option linter.all false
set_option maxRecDepth 100000
set_option maxHeartbeats 8000000
/-! X14: drawn words, words put together, exact likeness. Own work. -/
namespace Ev
local macro_rules | `(tactic| walk_at "side") => `(tactic| first | assumption | omega | (have hLIM := LIM_n; have hB62 := B62_eq; have hB63 := B63_eq; (try simp only [List.length_append, List.length_cons, List.length_nil, List.length_map, List.length_reverse, List.length_replicate]); omega))
local macro_rules | `(tactic| walk_at "nrm") => `(tactic| try dsimp only [vrOf, frzAt, backAt, List.take_succ_cons, List.take_zero, allSome, List.set_cons_zero, List.set_cons_succ, outsTo, lockL, lockS, unlockL, unlockS, En.get, List.getElem?_cons_zero, List.getElem?_cons_succ, wipeE, backE])
local macro_rules | `(tactic| walk_at "ev1") => `(tactic| first
  | refine ok_lit ?_
  | refine ok_var rfl ?_
  | refine ok_bin ?_
  | refine ok_cmp ?_
  | refine ok_call ?_
  | refine ok_bi ?_
  | refine ok_sub ?_
  | refine oks_cons ?_
  | refine oks_nil ?_
  | refine ok_and ?_
  | refine ok_or ?_
  | refine ok_not ?_
  | refine ok_ifx ?_
  | refine ok_app rfl ?_
  | refine ok_mth (by decide) ?_
  | refine ok_sl ?_
  | refine ok_rev ?_
  | refine ok_lst ?_
  | refine ok_tup ?_
  | refine ok_dict0 ?_
  | refine ok_lrng1 ?_
  | refine okt_val ?_
  | refine okt_not ?_
  | refine okt_and ?_
  | refine okt_or ?_
  | refine okts_nil ?_
  | refine okts_cons ?_
  | refine oki_seq ?_
  | refine oki_rng1 ?_
  | refine oki_rng2 ?_
  | refine oki_enum ?_
  | refine oki_zip ?_
  | refine oki_back ?_
  | refine okz_nil ?_
  | refine oks_expr ?_
  | refine oks_set ?_
  | refine oks_par ?_
  | refine oks_unp ?_
  | refine unp_intro rfl rfl rfl ?_
  | refine oks_ret ?_
  | refine oks_iff ?_
  | refine oks_for ?_
  | refine oks_while ?_
  | refine ok_keep_v ?_
  | refine ok_keep_o ?_
  | (refine ok_keep_s rfl ?_; walk_at "nrm")
  | refine okk_nil ?_
  | refine okk_cons ?_
  | refine okl_nil ?_
  | refine okl_v ?_
  | refine okl_o ?_
  | (refine okl_s rfl ?_; walk_at "nrm")
  | (refine ok_store_v (Nat.le_of_ble_eq_true rfl) ?_; walk_at "nrm")
  | (refine ok_store_o (Nat.le_of_ble_eq_true rfl) ?_; walk_at "nrm")
  | (refine ok_store_s (Nat.le_of_ble_eq_true rfl) rfl ?_; walk_at "nrm")
  | refine lf_add_int rfl rfl ?_
  | refine lf_sub_int rfl rfl ?_
  | refine lf_add_str rfl rfl (by walk_at "side") ?_
  | refine lf_add_lst rfl rfl (by walk_at "side") ?_
  | refine lf_lt_int rfl rfl ?_
  | refine lf_gt_int rfl rfl ?_
  | refine lf_le_int rfl rfl ?_
  | refine lf_ge_int rfl rfl ?_
  | refine lf_eq_int rfl rfl ?_
  | refine lf_ne_int rfl rfl ?_
  | refine lf_eq_str rfl rfl ?_
  | refine lf_ne_str rfl rfl ?_
  | refine lf_isin_ch rfl rfl ?_
  | refine lf_notin_ch rfl rfl ?_
  | refine lf_is_non rfl rfl (fun b h => nomatch h) ?_
  | refine lf_isnot_non rfl rfl (fun b h => nomatch h) ?_
  | refine lf_mod rfl rfl (by walk_at "side") ?_
  | refine ⟨fun _ => ?_, fun h => no_tf h⟩
  | refine ⟨fun h => no_ft h, fun _ => ?_⟩
  | refine ⟨fun _ => ?_, fun h => no_ft h⟩
  | refine ⟨fun h => no_tf h, fun _ => ?_⟩
  | refine ⟨fun _ => ?_, fun h => absurd (by walk_at "side") (of_decide_eq_false h)⟩
  | refine ⟨fun h => absurd (of_decide_eq_true h) (by walk_at "side"), fun _ => ?_⟩
  | refine ⟨fun _ => ?_, fun h => absurd (of_decide_eq_true h) (by walk_at "side")⟩
  | refine ⟨fun h => absurd (by walk_at "side") (of_decide_eq_false h), fun _ => ?_⟩
  | refine ⟨fun _ => ?_, fun h => absurd (nd_f h) (by walk_at "side")⟩
  | refine ⟨fun h => absurd (by walk_at "side") (nd_t h), fun _ => ?_⟩
  | refine ⟨fun _ => ?_, fun h => absurd (by walk_at "side") (nd_t h)⟩
  | refine ⟨fun h => absurd (nd_f h) (by walk_at "side"), fun _ => ?_⟩
  | (refine nx_nx ?_)
  | (refine nx_rt ?_)
  | refine retq_v ?_
  | refine retq_o ?_
  | refine retq_w rfl rfl ?_
  | (refine retq_p rfl rfl ?_; walk_at "nrm")
  | (refine retq_f rfl ?_; walk_at "nrm")
  | (refine fin_rt rfl rfl ?_; walk_at "nrm")
  | (refine fin_nx rfl rfl ?_; walk_at "nrm")
  | refine cl_intro rfl rfl rfl ?_
  | (refine ⟨_, _, _, rfl, rfl, rfl, ?_⟩; simp only [frzDup, List.any_cons, List.any_nil, Nat.reduceBEq, beq_self_eq_true, Bool.or_false, Bool.or_true, Bool.true_or, if_true, Bool.false_eq_true, if_false, En.get, List.getElem?_cons_zero, List.getElem?_cons_succ, List.set_cons_zero, List.set_cons_succ])
  | refine ⟨_, _, rfl, rfl, ?_⟩
  | refine ⟨_, _, _, _, rfl, rfl, rfl, rfl, ?_⟩
  | refine lim_intro (by walk_at "side") ?_)
local macro_rules | `(tactic| walk_at "ev") => `(tactic| ((repeat walk_at "ev1"); walk_at "nrm"))
local macro_rules | `(tactic| walk_at "unl") => `(tactic| simp only [unlockL, unlockS, lockL, lockS, En.get, List.getElem?_cons_zero, List.getElem?_cons_succ, List.set_cons_zero, List.set_cons_succ, eq_self, if_true])
theorem enum_lstr (w : List Nat) : (w.map fun c => D.str [c]).length = w.length := List.length_map _
theorem cast_pick {a b : Nat} : ((a : Int) * b2i (decide ((0 : Int) < (b : Int)))) = ((a * (if 0 < b then 1 else 0) : Nat) : Int) := by
  by_cases h : 0 < b
  · rw [if_pos h, decide_eq_true (by omega), Nat.mul_one]
    show (a : Int) * 1 = _
    rw [Int.mul_one]
  · rw [if_neg h, decide_eq_false (by omega), Nat.mul_zero]
    show (a : Int) * 0 = _
    rw [Int.mul_zero] <;> rfl
theorem put_upto {fs : List Nat} {ps : List (List Nat)} {n : Nat} (hf : fs.length = n) (hp : ps.length = n + 1) : put (fs.take n) (ps.take (n + 1)) = put fs ps := by
  subst hf
  rw [List.take_length, ← hp, List.take_length]
theorem put_short {fs : List Nat} {ps : List (List Nat)} {n i : Nat} (hp : ps.length = n + 1) (hn : n ≤ 100) (hb : ∀ p ∈ ps, p.length ≤ 1000) : (put (fs.take i) (ps.take (i + 1))).length ≤ 102 * 1001 := by
  have := put_len (B := 1000) (fs := fs.take i) (ps := ps.take (i + 1)) fun p h => hb p (List.mem_of_mem_take h)
  have h2 : (ps.take (i + 1)).length ≤ 101 := by rw [List.length_take]; omega
  have h3 : (ps.take (i + 1)).length * (1000 + 1) ≤ 101 * 1001 := Nat.mul_le_mul_right _ h2
  omega
theorem exn_l : isNonD (.lst []) = false := rfl
section
variable {Δ : Tab} (K : Kb Δ)
include K
theorem es71 (k : Nat) {a : List Nat} : Phi Δ (k + 1) 38 [⟨.fz, .str a⟩, ⟨.fz, .str a⟩] = .ret false (.bl true) [⟨.fz, .str a⟩, ⟨.fz, .str a⟩] := by
  apply CR.Ok.eq
  (refine ok_phi (K.h38) ⟨rfl, by decide⟩ ?_; simp only [frzAt, List.map_cons, List.map_nil, Nat.reduceSub, List.reduceReplicate, List.cons_append, List.nil_append, List.getElem?_cons_zero, List.getElem?_cons_succ, List.set_cons_zero, List.set_cons_succ, List.append_nil])
  walk_at "ev"
  exact ⟨rfl, by rw [dd], rfl⟩
/-- a word and a list of numbers, both alike -/
theorem ew71 (k : Nat) {a : List Nat} {A : List Nat} {m1 m2 : Md} (hl : A.length ≤ 1000) : Phi Δ (k + 3) 38 [⟨m1, .lst [.str a, .lst (nl A)]⟩, ⟨m2, .lst [.str a, .lst (nl A)]⟩] = .ret false (.bl true) [⟨m1, .lst [.str a, .lst (nl A)]⟩, ⟨m2, .lst [.str a, .lst (nl A)]⟩] := by
  have hL := LIM_n
  apply CR.Ok.eq
  (refine ok_phi (K.h38) ⟨rfl, by decide⟩ ?_; simp only [frzAt, List.map_cons, List.map_nil, Nat.reduceSub, List.reduceReplicate, List.cons_append, List.nil_append, List.getElem?_cons_zero, List.getElem?_cons_succ, List.set_cons_zero, List.set_cons_succ, List.append_nil])
  walk_at "ev"
  refine lf_cmp ne_blS rfl rfl ?_
  walk_at "ev"
  refine lf_cmp ne_blS rfl rfl ?_
  walk_at "ev"
  refine ok_lcT (α := Bool) ?_
  walk_at "ev"
  refine ⟨[true, false], fun b => if b then .tup [.str a, .str a] else .tup [.lst (nl A), .lst (nl A)], fun _ => false, fun _ => .int 1, fun ρ => ∃ x2 x3, ρ = [some ⟨m1.lock, .lst [.str a, .lst (nl A)]⟩, some ⟨m2.lock, .lst [.str a, .lst (nl A)]⟩, x2, x3], rfl, ⟨_, _, rfl⟩, ?_, by show 2 ≤ LIM; omega, ?_⟩
  · rintro b hb ρ ⟨x2, x3, rfl⟩
    cases b with
    | true =>
      refine lcTg_of rfl ?_
      walk_at "nrm"
      unfold bt38_0
      walk_at "ev"
      (refine call_of (es71 K (k + 1)) rfl ?_; walk_at "nrm")
      walk_at "ev"
      exact ⟨rfl, (fun z => nomatch z), fun _ => ⟨_, _, rfl⟩⟩
    | false =>
      refine lcTg_of rfl ?_
      walk_at "nrm"
      unfold bt38_0
      walk_at "ev"
      (refine call_of (el72 K k hl) rfl ?_; walk_at "nrm")
      walk_at "ev"
      exact ⟨rfl, (fun z => nomatch z), fun _ => ⟨_, _, rfl⟩⟩
  rintro ρ' ⟨x2, x3, rfl⟩
  walk_at "nrm"
  walk_at "unl"
  rw [show ([true, false].filter fun _ => false).map (fun _ => D.int 1) = [] by rfl]
  walk_at "ev"
  refine lf_cmp c_eq_nil rfl rfl ?_
  walk_at "ev"
  exact ⟨rfl, rfl, rfl⟩
/-- the law's word of joints and pieces -/
theorem pt71 (k : Nat) {fs : List Nat} {ps : List (List Nat)} {n : Nat} {md : Md} (hf : fs.length = n) (hp : ps.length = n + 1) (hn : n ≤ 100) (hb : ∀ p ∈ ps, p.length ≤ 1000) : Phi Δ (k + 1) 40 [⟨.fz, .str fs⟩, ⟨md, .lst (sl ps)⟩] = .ret false (.str (put fs ps)) [⟨.fz, .str fs⟩, ⟨md, .lst (sl ps)⟩] := by
  have hL := LIM_n
  apply CR.Ok.eq
  (refine ok_phi (K.h40) ⟨rfl, by decide⟩ ?_; simp only [frzAt, List.map_cons, List.map_nil, Nat.reduceSub, List.reduceReplicate, List.cons_append, List.nil_append, List.getElem?_cons_zero, List.getElem?_cons_succ, List.set_cons_zero, List.set_cons_succ, List.append_nil])
  walk_at "ev"
  refine lf_sub (sl_get (i := 0) (by omega)) rfl rfl ?_
  walk_at "ev"
  rw [enum_str]
  have e0 : ps.getD 0 [] = put (fs.take 0) (ps.take 1) := by
    cases ps with
    | nil => rfl
    | cons p ps => rfl
  refine ok_forN fs.length (fun i ρ => ∃ x3 x4, ρ = [some ⟨.fz, .str fs⟩, some ⟨md, .lst (sl ps)⟩, some ⟨.fz, .str (put (fs.take i) (ps.take (i + 1)))⟩, x3, x4]) ⟨none, none, by rw [e0] <;> rfl⟩ ?_ ?_
  · rintro i hi ρ ⟨x3, x4, rfl⟩
    have h1 := put_short (fs := fs) (i := i) hp hn hb
    have h3 : (ps.getD (i + 1) []).length ≤ 1000 := by
      rw [List.getD_eq_getElem?_getD, List.getElem?_eq_getElem (by omega)]
      exact hb _ (List.getElem_mem _)
    have e := put_step (fs := fs) (qs := ps) (i := i) (by omega) hi
    refine ok_withTg rfl ?_
    walk_at "nrm"
    unfold bb40_0
    walk_at "ev"
    refine lf_sub (sl_get (i := i + 1) (by omega)) rfl rfl ?_
    walk_at "ev"
    refine ⟨some ⟨.fz, .int (i : Nat)⟩, some ⟨.fz, .str [fs.getD i 0]⟩, ?_⟩
    rw [e, getD_at hi, List.append_assoc] <;> rfl
  · rintro ρ ⟨x3, x4, rfl⟩
    rw [put_upto rfl (by omega)]
    walk_at "unl"
    walk_at "ev"
    exact ⟨rfl, rfl, rfl⟩
theorem dw71 (k : Nat) {m n : Nat} {l : List Nat} {g : D} (hg : Gen (m + 5 * (n + 1) + n) g) (hn : n ≤ 100) (hl0 : 0 < l.length) (hl : l.length ≤ 30) : ∃ (fs : List Nat) (ps : List (List Nat)) (g' : D), Gen m g' ∧ fs.length = n ∧ (∀ c ∈ fs, c ∈ l) ∧ ps.length = n + 1 ∧ (∀ p ∈ ps, p.length ≤ 3 ∧ ∀ c ∈ p, c ∈ [97, 98, 99]) ∧
    Phi Δ (k + 4) 39 [⟨.own, g⟩, ⟨.fz, .str l⟩, ⟨.fz, .int (n : Nat)⟩] = .ret true (.lst [.str fs, .lst (sl ps)]) [⟨.own, g'⟩, ⟨.fz, .str l⟩, ⟨.fz, .int (n : Nat)⟩] := by
  have hL := LIM_n
  have hB := B62_eq
  suffices h : (Phi Δ (k + 4) 39 [⟨.own, g⟩, ⟨.fz, .str l⟩, ⟨.fz, .int (n : Nat)⟩]).Ok fun o d outs => ∃ (fs : List Nat) (ps : List (List Nat)) (g' : D), Gen m g' ∧ fs.length = n ∧ (∀ c ∈ fs, c ∈ l) ∧ ps.length = n + 1 ∧ (∀ p ∈ ps, p.length ≤ 3 ∧ ∀ c ∈ p, c ∈ [97, 98, 99]) ∧ o = true ∧ d = .lst [.str fs, .lst (sl ps)] ∧ outs = [⟨.own, g'⟩, ⟨.fz, .str l⟩, ⟨.fz, .int (n : Nat)⟩] by
    obtain ⟨o, d, outs, e, fs, ps, g', h1, h2, h3, h4, h5, rfl, rfl, rfl⟩ := h
    exact ⟨fs, ps, g', h1, h2, h3, h4, h5, e⟩
  (refine ok_phi (K.h39) ⟨rfl, by decide⟩ ?_; simp only [frzAt, List.map_cons, List.map_nil, Nat.reduceSub, List.reduceReplicate, List.cons_append, List.nil_append, List.getElem?_cons_zero, List.getElem?_cons_succ, List.set_cons_zero, List.set_cons_succ, List.append_nil])
  refine oks_set ?_
  unfold bl39_0
  refine ok_lc ?_
  walk_at "ev"
  refine ⟨((n + 1 : Nat) : Int), by show some (D.int ((n : Int) + 1)) = _; rw [show ((n + 1 : Nat) : Int) = (n : Int) + 1 by omega], ⟨by omega, by omega⟩, ?_⟩
  rw [rng_nl]
  refine ⟨fun done rest ρ => ∃ i ps g' x4, rest.length + i = n + 1 ∧ done = sl ps ∧ ps.length = i ∧ (∀ p ∈ ps, p.length ≤ 3 ∧ ∀ c ∈ p, c ∈ [97, 98, 99]) ∧ Gen (m + 5 * rest.length + n) g' ∧ ρ = [some ⟨.own, g'⟩, some ⟨.fz, .str l⟩, some ⟨.fz, .int (n : Nat)⟩, none, x4], ⟨0, [], g, _, by rw [nl_len, List.length_range, Nat.add_zero], rfl, rfl, (fun _ h => nomatch h), by rw [nl_len, List.length_range]; exact hg, rfl⟩, ?_, ?_⟩
  · rintro d ds done ρ ⟨i, ps, g', x4, h2, rfl, h3, h4, h5, rfl⟩
    rw [List.length_cons] at h2 h5
    obtain ⟨a, g2, h6, h7, e1⟩ := drw K (k + 1) (m := m + 5 * ds.length + n + 4) (g := g') (n := 4) (h5.mono (by omega)) (by decide)
    obtain ⟨b, g3, h8, h9, e2⟩ := drw K (k + 1) (m := m + 5 * ds.length + n + 3) (g := g2) (n := 3) h6 (by decide)
    generalize hc : a * (if 0 < b then 1 else 0) = c
    have hc3 : c ≤ 3 := by
      rw [← hc]
      split <;> omega
    obtain ⟨p, g4, h10, h11, h12, e3⟩ := wd72 K k (m := m + 5 * ds.length + n) (n := c) (l := [97, 98, 99]) (g := g3) (h8.mono (by omega)) (by omega) (by decide) (by decide)
    refine ok_lcTg rfl (okts_nil ⟨fun _ => ?_, fun z => nomatch z⟩)
    walk_at "nrm"
    unfold be39_0
    walk_at "ev"
    (refine call_of (e1) rfl ?_; walk_at "nrm")
    walk_at "ev"
    (refine call_of (e2) rfl ?_; walk_at "nrm")
    walk_at "ev"
    refine lf_mul_int rfl rfl (mul_ok (n := 10) (m := 10) (by omega) (by omega) (by unfold b2i; split <;> omega) (by unfold b2i; split <;> omega) (by omega)) ?_
    rw [cast_pick, hc]
    walk_at "ev"
    (refine call_of (e3) rfl ?_; walk_at "nrm")
    walk_at "ev"
    refine ⟨i + 1, ps ++ [p], g4, _, by omega, ?_, by rw [List.length_append, h3] <;> rfl, fun q hq => ?_, h10, rfl⟩
    · unfold sl
      rw [List.map_append] <;> rfl
    · rcases List.mem_append.mp hq with hq | hq
      · exact h4 q hq
      · rw [List.mem_singleton.mp hq]
        exact ⟨by omega, h12⟩
  · rintro ds ρ' ⟨i, ps, g', x4, h2, rfl, h3, h4, h5, rfl⟩
    rw [List.length_nil, Nat.zero_add] at h2
    refine ⟨by rw [sl_len]; omega, ?_⟩
    walk_at "nrm"
    obtain ⟨fs, g2, h6, h7, h8, e⟩ := wd72 K k (m := m) (n := n) (l := l) (g := g') (h5.mono (by simp)) (by omega) hl0 hl
    walk_at "ev"
    (refine call_of (e) rfl ?_; walk_at "nrm")
    walk_at "ev"
    exact ⟨fs, ps, g2, h6, h7, h8, by omega, h4, rfl, rfl, rfl⟩
end
end Ev

set_option Elab.async false
set_option linter.all false
set_option maxRecDepth 100000
set_option maxHeartbeats 8000000
/-! X15: roads by chance, done often: the law's looks. Own work. -/
namespace Ev
local macro_rules | `(tactic| walk_at "side") => `(tactic| first | assumption | omega | (have hLIM := LIM_n; have hB62 := B62_eq; have hB63 := B63_eq; (try simp only [List.length_append, List.length_cons, List.length_nil, List.length_map, List.length_reverse, List.length_replicate]); omega))
local macro_rules | `(tactic| walk_at "nrm") => `(tactic| try dsimp only [vrOf, frzAt, backAt, List.take_succ_cons, List.take_zero, allSome, List.set_cons_zero, List.set_cons_succ, outsTo, lockL, lockS, unlockL, unlockS, En.get, List.getElem?_cons_zero, List.getElem?_cons_succ, wipeE, backE])
local macro_rules | `(tactic| walk_at "ev1") => `(tactic| first
  | refine ok_lit ?_
  | refine ok_var rfl ?_
  | refine ok_bin ?_
  | refine ok_cmp ?_
  | refine ok_call ?_
  | refine ok_bi ?_
  | refine ok_sub ?_
  | refine oks_cons ?_
  | refine oks_nil ?_
  | refine ok_and ?_
  | refine ok_or ?_
  | refine ok_not ?_
  | refine ok_ifx ?_
  | refine ok_app rfl ?_
  | refine ok_mth (by decide) ?_
  | refine ok_sl ?_
  | refine ok_rev ?_
  | refine ok_lst ?_
  | refine ok_tup ?_
  | refine ok_dict0 ?_
  | refine ok_lrng1 ?_
  | refine okt_val ?_
  | refine okt_not ?_
  | refine okt_and ?_
  | refine okt_or ?_
  | refine okts_nil ?_
  | refine okts_cons ?_
  | refine oki_seq ?_
  | refine oki_rng1 ?_
  | refine oki_rng2 ?_
  | refine oki_enum ?_
  | refine oki_zip ?_
  | refine oki_back ?_
  | refine okz_nil ?_
  | refine oks_expr ?_
  | refine oks_set ?_
  | refine oks_par ?_
  | refine oks_unp ?_
  | refine unp_intro rfl rfl rfl ?_
  | refine oks_ret ?_
  | refine oks_iff ?_
  | refine oks_for ?_
  | refine oks_while ?_
  | refine ok_keep_v ?_
  | refine ok_keep_o ?_
  | (refine ok_keep_s rfl ?_; walk_at "nrm")
  | refine okk_nil ?_
  | refine okk_cons ?_
  | refine okl_nil ?_
  | refine okl_v ?_
  | refine okl_o ?_
  | (refine okl_s rfl ?_; walk_at "nrm")
  | (refine ok_store_v (Nat.le_of_ble_eq_true rfl) ?_; walk_at "nrm")
  | (refine ok_store_o (Nat.le_of_ble_eq_true rfl) ?_; walk_at "nrm")
  | (refine ok_store_s (Nat.le_of_ble_eq_true rfl) rfl ?_; walk_at "nrm")
  | refine lf_add_int rfl rfl ?_
  | refine lf_sub_int rfl rfl ?_
  | refine lf_add_str rfl rfl (by walk_at "side") ?_
  | refine lf_add_lst rfl rfl (by walk_at "side") ?_
  | refine lf_lt_int rfl rfl ?_
  | refine lf_gt_int rfl rfl ?_
  | refine lf_le_int rfl rfl ?_
  | refine lf_ge_int rfl rfl ?_
  | refine lf_eq_int rfl rfl ?_
  | refine lf_ne_int rfl rfl ?_
  | refine lf_eq_str rfl rfl ?_
  | refine lf_ne_str rfl rfl ?_
  | refine lf_isin_ch rfl rfl ?_
  | refine lf_notin_ch rfl rfl ?_
  | refine lf_is_non rfl rfl (fun b h => nomatch h) ?_
  | refine lf_isnot_non rfl rfl (fun b h => nomatch h) ?_
  | refine lf_mod rfl rfl (by walk_at "side") ?_
  | refine ⟨fun _ => ?_, fun h => no_tf h⟩
  | refine ⟨fun h => no_ft h, fun _ => ?_⟩
  | refine ⟨fun _ => ?_, fun h => no_ft h⟩
  | refine ⟨fun h => no_tf h, fun _ => ?_⟩
  | refine ⟨fun _ => ?_, fun h => absurd (by walk_at "side") (of_decide_eq_false h)⟩
  | refine ⟨fun h => absurd (of_decide_eq_true h) (by walk_at "side"), fun _ => ?_⟩
  | refine ⟨fun _ => ?_, fun h => absurd (of_decide_eq_true h) (by walk_at "side")⟩
  | refine ⟨fun h => absurd (by walk_at "side") (of_decide_eq_false h), fun _ => ?_⟩
  | refine ⟨fun _ => ?_, fun h => absurd (nd_f h) (by walk_at "side")⟩
  | refine ⟨fun h => absurd (by walk_at "side") (nd_t h), fun _ => ?_⟩
  | refine ⟨fun _ => ?_, fun h => absurd (by walk_at "side") (nd_t h)⟩
  | refine ⟨fun h => absurd (nd_f h) (by walk_at "side"), fun _ => ?_⟩
  | (refine nx_nx ?_)
  | (refine nx_rt ?_)
  | refine retq_v ?_
  | refine retq_o ?_
  | refine retq_w rfl rfl ?_
  | (refine retq_p rfl rfl ?_; walk_at "nrm")
  | (refine retq_f rfl ?_; walk_at "nrm")
  | (refine fin_rt rfl rfl ?_; walk_at "nrm")
  | (refine fin_nx rfl rfl ?_; walk_at "nrm")
  | refine cl_intro rfl rfl rfl ?_
  | (refine ⟨_, _, _, rfl, rfl, rfl, ?_⟩; simp only [frzDup, List.any_cons, List.any_nil, Nat.reduceBEq, beq_self_eq_true, Bool.or_false, Bool.or_true, Bool.true_or, if_true, Bool.false_eq_true, if_false, En.get, List.getElem?_cons_zero, List.getElem?_cons_succ, List.set_cons_zero, List.set_cons_succ])
  | refine ⟨_, _, rfl, rfl, ?_⟩
  | refine ⟨_, _, _, _, rfl, rfl, rfl, rfl, ?_⟩
  | refine lim_intro (by walk_at "side") ?_)
local macro_rules | `(tactic| walk_at "ev") => `(tactic| ((repeat walk_at "ev1"); walk_at "nrm"))
local macro_rules | `(tactic| walk_at "unl") => `(tactic| simp only [unlockL, unlockS, lockL, lockS, En.get, List.getElem?_cons_zero, List.getElem?_cons_succ, List.set_cons_zero, List.set_cons_succ, eq_self, if_true])
theorem small_of {u w : List Nat} (h : ∀ c ∈ u, c ∈ w) (hs : small w = true) : small u = true := by
  unfold small at hs ⊢
  rw [List.all_eq_true] at hs ⊢
  exact fun c hc => hs c (h c hc)
theorem cut_from {α : Type} {l : List α} {a : Nat} : cut l (some (a : Int)) none = l.drop a := by
  unfold cut sIx
  simp only
  rw [if_neg (by omega), Int.toNat_natCast]
  by_cases h : a ≤ l.length
  · rw [Nat.min_eq_left h, ← List.length_drop, List.take_length]
  · rw [Nat.min_eq_right (by omega), Nat.sub_self]
    rw [List.drop_eq_nil_of_le (show l.length ≤ a by omega)] <;> rfl
theorem nl_last {L : List Nat} {p : Nat} : subD (.lst (nl (L ++ [p]))) (.int (-1)) = some (.int (p : Nat)) := by
  unfold nl
  rw [sub_m1 (by simp)]
  simp
theorem jpl_lt {j w : List Nat} {i : Nat} (h : i < (jpl j w).length) : (jpl j w).getD i 0 < w.length ∧ w.getD ((jpl j w).getD i 0) 0 ∈ j := by
  rw [getD_at h]
  exact jp_mem (List.getElem_mem h)
theorem mv_small {j w qs : List Nat} (h : opR j w qs) : ∀ c ∈ mv w qs, c ∈ w := fun c hc => (mv_perm (opR_len h).2).mem_iff.mp hc
section
variable {Δ : Tab} (K : Kb Δ)
include K
theorem rr71 (k : Nat) {m : Nat} {w j : List Nat} {g : D} (hg : Gen (m + 8) g) (hw : small w = true) (hj : ordD (.str j) = true) (hjl : j.length ≤ 26) (hn : w.length ≤ 500) :
    ∃ g' : D, Gen m g' ∧ Phi Δ (k + 6) 44 [⟨.own, g⟩, ⟨.fz, .str w⟩, ⟨.fz, .str j⟩, ⟨.own, .lst []⟩] = .ret false (.bl true) [⟨.own, g'⟩, ⟨.fz, .str w⟩, ⟨.fz, .str j⟩, ⟨.fz, .lst []⟩] := by
  have hL := LIM_n
  have hB := B62_eq
  suffices h : (Phi Δ (k + 6) 44 [⟨.own, g⟩, ⟨.fz, .str w⟩, ⟨.fz, .str j⟩, ⟨.own, .lst []⟩]).Ok fun o d outs => ∃ g' : D, Gen m g' ∧ o = false ∧ d = .bl true ∧ outs = [⟨.own, g'⟩, ⟨.fz, .str w⟩, ⟨.fz, .str j⟩, ⟨.fz, .lst []⟩] by
    obtain ⟨o, d, outs, e, g', h1, rfl, rfl, rfl⟩ := h
    exact ⟨g', h1, e⟩
  obtain ⟨r, g1, hg1, hr, e1⟩ := drw K (k + 3) (m := m + 7) (g := g) (n := 8) hg (by decide)
  (refine ok_phi (K.h44) ⟨rfl, by decide⟩ ?_; simp only [frzAt, List.map_cons, List.map_nil, Nat.reduceSub, List.reduceReplicate, List.cons_append, List.nil_append, List.getElem?_cons_zero, List.getElem?_cons_succ, List.set_cons_zero, List.set_cons_succ, List.append_nil])
  walk_at "ev"
  (refine call_of (e1) rfl ?_; walk_at "nrm")
  walk_at "ev"
  refine ⟨(r : Int), rfl, ⟨by omega, by omega⟩, ?_⟩
  rw [rng_nl]
  unfold nl
  refine ok_forN r (fun i ρ => ∃ qs g2 md x5 x6, opR j w qs ∧ qs.length ≤ i ∧ Gen (m + 7 - i) g2 ∧ ρ = [some ⟨.own, g2⟩, some ⟨.fz, .str w⟩, some ⟨.fz, .str j⟩, some ⟨md, .lst (nl qs)⟩, some ⟨.fz, .str (mv w qs)⟩, x5, x6, none]) ⟨[], g1, .fz, none, none, trivial, Nat.le_refl _, hg1, rfl⟩ ?_ ?_
  · rintro i hi ρ ⟨qs, g2, md, x5, x6, ho, hql, hg2, rfl⟩
    have hml := (opR_len ho).1
    refine ok_withTg rfl ?_
    walk_at "nrm"
    unfold bb44_0
    walk_at "ev"
    (refine call_of (lp71 K (k + 4) (w := mv w qs) (j := j) (by omega)) rfl ?_; walk_at "nrm")
    walk_at "ev"
    refine lf_cmp ne_nil_nl rfl rfl ?_
    by_cases he : jpl j (mv w qs) = []
    · rw [he]
      walk_at "ev"
      exact ⟨qs, g2, md, _, _, ho, by omega, hg2.mono (by omega), rfl⟩
    · have hpos : 0 < (jpl j (mv w qs)).length := List.length_pos_iff.mpr he
      have hle : (jpl j (mv w qs)).length ≤ w.length := by rw [jpl_len]; exact Nat.le_trans fnd_len (by omega)
      have hemp : (!(jpl j (mv w qs)).isEmpty) = true := by
        cases hh : jpl j (mv w qs) with
        | nil => exact absurd hh he
        | cons a l => rfl
      obtain ⟨s, g3, hg3, hs, e2⟩ := drw K (k + 3) (m := m + 7 - (i + 1)) (g := g2) (n := (jpl j (mv w qs)).length) (hg2.mono (by omega)) ⟨hpos, Nat.lt_of_le_of_lt hle (Nat.lt_of_le_of_lt hn (by decide))⟩
      obtain ⟨hp1, hp2⟩ := jpl_lt hs
      have hql' : (nl qs).length ≤ 100 := by rw [nl_len]; omega
      rw [hemp]
      walk_at "ev"
      rw [nl_len]
      (refine call_of (e2) rfl ?_; walk_at "nrm")
      walk_at "ev"
      refine lf_sub (sub_getD hs) rfl rfl ?_
      walk_at "ev"
      rw [nl_snoc]
      refine lf_sub nl_last rfl rfl ?_
      walk_at "ev"
      (refine call_of (sw37 K (k + 4) hp1 (by omega)) rfl ?_; walk_at "nrm")
      walk_at "ev"
      rw [← mv_snoc]
      exact ⟨qs ++ [(jpl j (mv w qs)).getD s 0], g3, _, _, _, opR_snoc ho hp1 hp2, by rw [List.length_append, List.length_singleton]; omega, hg3, rfl⟩
  · rintro ρ ⟨qs, g2, md, x5, x6, ho, hql, hg2, rfl⟩
    obtain ⟨a, b, c⟩ := num_road ho
    have hnl : (numI j w qs).length = qs.length := numI_len
    have e29 := fun md => nm71 K k (md := md) hw hj hjl (by omega) ho (by omega)
    have e27 := dn74 K k (md := .own) hw (by omega) hj hjl c (by omega)
    have e30 := rd71 K k (md := .own) hw hj hjl (by omega) c (by omega)
    rw [b] at e27
    rw [a] at e30
    walk_at "nrm"
    walk_at "ev"
    (refine call_of (e29 _) rfl ?_; walk_at "nrm")
    walk_at "ev"
    (refine call_of (e27) rfl ?_; walk_at "nrm")
    walk_at "ev"
    rw [dd, Bool.not_true]
    walk_at "ev"
    (refine call_of (e30) rfl ?_; walk_at "nrm")
    walk_at "ev"
    refine lf_cmp ne_nlS rfl rfl ?_
    walk_at "ev"
    refine ⟨_, rfl, ?_, ?_⟩
    · rw [nl_len, hnl]; omega
    walk_at "ev"
    (refine call_of (e29 _) rfl ?_; walk_at "nrm")
    walk_at "ev"
    have ecut : cut (nl (numI j w qs) ++ [D.int 0]) none (some ((nl (numI j w qs) ++ [D.int 0]).length - 1)) = nl (numI j w qs) := by
      rw [List.length_append, List.length_singleton, show (((nl (numI j w qs)).length + 1 : Nat) : Int) - 1 = (((nl (numI j w qs)).length : Nat) : Int) by omega, cut_hi, List.take_left]
    rw [ecut]
    refine lf_cmp eq_nlS rfl rfl ?_
    walk_at "ev"
    exact ⟨g2, hg2.mono (by omega), rfl, rfl, rfl⟩
end
end Ev

set_option Elab.async false
set_option linter.all false
set_option maxRecDepth 100000
set_option maxHeartbeats 8000000
/-! X16: done often, looked at by the law (45). Own work. -/
namespace Ev
local macro_rules | `(tactic| walk_at "side") => `(tactic| first | assumption | omega | (have hLIM := LIM_n; have hB62 := B62_eq; have hB63 := B63_eq; (try simp only [List.length_append, List.length_cons, List.length_nil, List.length_map, List.length_reverse, List.length_replicate]); omega))
local macro_rules | `(tactic| walk_at "nrm") => `(tactic| try dsimp only [vrOf, frzAt, backAt, List.take_succ_cons, List.take_zero, allSome, List.set_cons_zero, List.set_cons_succ, outsTo, lockL, lockS, unlockL, unlockS, En.get, List.getElem?_cons_zero, List.getElem?_cons_succ, wipeE, backE])
local macro_rules | `(tactic| walk_at "ev1") => `(tactic| first
  | refine ok_lit ?_
  | refine ok_var rfl ?_
  | refine ok_bin ?_
  | refine ok_cmp ?_
  | refine ok_call ?_
  | refine ok_bi ?_
  | refine ok_sub ?_
  | refine oks_cons ?_
  | refine oks_nil ?_
  | refine ok_and ?_
  | refine ok_or ?_
  | refine ok_not ?_
  | refine ok_ifx ?_
  | refine ok_app rfl ?_
  | refine ok_mth (by decide) ?_
  | refine ok_sl ?_
  | refine ok_rev ?_
  | refine ok_lst ?_
  | refine ok_tup ?_
  | refine ok_dict0 ?_
  | refine ok_lrng1 ?_
  | refine okt_val ?_
  | refine okt_not ?_
  | refine okt_and ?_
  | refine okt_or ?_
  | refine okts_nil ?_
  | refine okts_cons ?_
  | refine oki_seq ?_
  | refine oki_rng1 ?_
  | refine oki_rng2 ?_
  | refine oki_enum ?_
  | refine oki_zip ?_
  | refine oki_back ?_
  | refine okz_nil ?_
  | refine oks_expr ?_
  | refine oks_set ?_
  | refine oks_par ?_
  | refine oks_unp ?_
  | refine unp_intro rfl rfl rfl ?_
  | refine oks_ret ?_
  | refine oks_iff ?_
  | refine oks_for ?_
  | refine oks_while ?_
  | refine ok_keep_v ?_
  | refine ok_keep_o ?_
  | (refine ok_keep_s rfl ?_; walk_at "nrm")
  | refine okk_nil ?_
  | refine okk_cons ?_
  | refine okl_nil ?_
  | refine okl_v ?_
  | refine okl_o ?_
  | (refine okl_s rfl ?_; walk_at "nrm")
  | (refine ok_store_v (Nat.le_of_ble_eq_true rfl) ?_; walk_at "nrm")
  | (refine ok_store_o (Nat.le_of_ble_eq_true rfl) ?_; walk_at "nrm")
  | (refine ok_store_s (Nat.le_of_ble_eq_true rfl) rfl ?_; walk_at "nrm")
  | refine lf_add_int rfl rfl ?_
  | refine lf_sub_int rfl rfl ?_
  | refine lf_add_str rfl rfl (by walk_at "side") ?_
  | refine lf_add_lst rfl rfl (by walk_at "side") ?_
  | refine lf_lt_int rfl rfl ?_
  | refine lf_gt_int rfl rfl ?_
  | refine lf_le_int rfl rfl ?_
  | refine lf_ge_int rfl rfl ?_
  | refine lf_eq_int rfl rfl ?_
  | refine lf_ne_int rfl rfl ?_
  | refine lf_eq_str rfl rfl ?_
  | refine lf_ne_str rfl rfl ?_
  | refine lf_isin_ch rfl rfl ?_
  | refine lf_notin_ch rfl rfl ?_
  | refine lf_is_non rfl rfl (fun b h => nomatch h) ?_
  | refine lf_isnot_non rfl rfl (fun b h => nomatch h) ?_
  | refine lf_mod rfl rfl (by walk_at "side") ?_
  | refine ⟨fun _ => ?_, fun h => no_tf h⟩
  | refine ⟨fun h => no_ft h, fun _ => ?_⟩
  | refine ⟨fun _ => ?_, fun h => no_ft h⟩
  | refine ⟨fun h => no_tf h, fun _ => ?_⟩
  | refine ⟨fun _ => ?_, fun h => absurd (by walk_at "side") (of_decide_eq_false h)⟩
  | refine ⟨fun h => absurd (of_decide_eq_true h) (by walk_at "side"), fun _ => ?_⟩
  | refine ⟨fun _ => ?_, fun h => absurd (of_decide_eq_true h) (by walk_at "side")⟩
  | refine ⟨fun h => absurd (by walk_at "side") (of_decide_eq_false h), fun _ => ?_⟩
  | refine ⟨fun _ => ?_, fun h => absurd (nd_f h) (by walk_at "side")⟩
  | refine ⟨fun h => absurd (by walk_at "side") (nd_t h), fun _ => ?_⟩
  | refine ⟨fun _ => ?_, fun h => absurd (by walk_at "side") (nd_t h)⟩
  | refine ⟨fun h => absurd (nd_f h) (by walk_at "side"), fun _ => ?_⟩
  | (refine nx_nx ?_)
  | (refine nx_rt ?_)
  | refine retq_v ?_
  | refine retq_o ?_
  | refine retq_w rfl rfl ?_
  | (refine retq_p rfl rfl ?_; walk_at "nrm")
  | (refine retq_f rfl ?_; walk_at "nrm")
  | (refine fin_rt rfl rfl ?_; walk_at "nrm")
  | (refine fin_nx rfl rfl ?_; walk_at "nrm")
  | refine cl_intro rfl rfl rfl ?_
  | (refine ⟨_, _, _, rfl, rfl, rfl, ?_⟩; simp only [frzDup, List.any_cons, List.any_nil, Nat.reduceBEq, beq_self_eq_true, Bool.or_false, Bool.or_true, Bool.true_or, if_true, Bool.false_eq_true, if_false, En.get, List.getElem?_cons_zero, List.getElem?_cons_succ, List.set_cons_zero, List.set_cons_succ])
  | refine ⟨_, _, rfl, rfl, ?_⟩
  | refine ⟨_, _, _, _, rfl, rfl, rfl, rfl, ?_⟩
  | refine lim_intro (by walk_at "side") ?_)
local macro_rules | `(tactic| walk_at "ev") => `(tactic| ((repeat walk_at "ev1"); walk_at "nrm"))
local macro_rules | `(tactic| walk_at "unl") => `(tactic| simp only [unlockL, unlockS, lockL, lockS, En.get, List.getElem?_cons_zero, List.getElem?_cons_succ, List.set_cons_zero, List.set_cons_succ, eq_self, if_true])
theorem c28 : (10 ^ 28 : Nat) < 2 ^ 100 := by decide
theorem mod_nat {f o : Nat} : (f : Int) % (o : Int) = ((f % o : Nat) : Int) := by omega
theorem sub_nat_mod {f o : Nat} (h : 0 < o) : (o : Int) - ((f % o : Nat) : Int) = ((o - f % o : Nat) : Int) := by
  have := Nat.mod_lt f h
  omega
section
variable {Δ : Tab} (K : Kb Δ)
include K
theorem oo71 (k : Nat) {w j ks : List Nat} {t : Nat} {md : Md} (hw : small w = true) (hl : w.length ≤ 1000) (hj : ordD (.str j) = true) (hjl : j.length ≤ 26) (hk : ∀ a ∈ ks, a < (fnd j w).length) (hkl : ks.length ≤ 1000) (s : Nat) (ht : t < 2 ^ 2000) :
    Phi Δ (k + 5) 28 [⟨.fz, .str (ledO j w ks s)⟩, ⟨.fz, .str j⟩, ⟨md, .lst (nl ks)⟩, ⟨.fz, .int (t : Nat)⟩] = .ret false (.str (ledO j w ks (s + t))) [⟨.fz, .str (ledO j w ks s)⟩, ⟨.fz, .str j⟩, ⟨md, .lst (nl ks)⟩, ⟨.fz, .int (t : Nat)⟩] := by
  obtain ⟨h1, h2, h3⟩ := ledO_len hk s
  have := do74 K k (w := ledO j w ks s) (j := j) (ks := ks) (t := t) (md := md) (small_of h3 hw) (by omega) hj hjl (ledO_valid hk s) hkl ht
  rw [ledO_add hk] at this
  exact this
theorem on71 (k : Nat) {w j ks : List Nat} {md : Md} (hw : small w = true) (hl : w.length ≤ 1000) (hj : ordD (.str j) = true) (hjl : j.length ≤ 26) (hk : ∀ a ∈ ks, a < (fnd j w).length) (hkl : ks.length ≤ 1000) (s : Nat) :
    Phi Δ (k + 5) 27 [⟨.fz, .str (ledO j w ks s)⟩, ⟨.fz, .str j⟩, ⟨md, .lst (nl ks)⟩] = .ret false (.str (ledO j w ks (s + 1))) [⟨.fz, .str (ledO j w ks s)⟩, ⟨.fz, .str j⟩, ⟨md, .lst (nl ks)⟩] := by
  obtain ⟨h1, h2, h3⟩ := ledO_len hk s
  have := dn74 K k (w := ledO j w ks s) (j := j) (ks := ks) (md := md) (small_of h3 hw) (by omega) hj hjl (ledO_valid hk s) (by omega)
  rw [ledO_succ hk] at this
  exact this
theorem od71 (k : Nat) {m : Nat} {w j ks : List Nat} {g : D} (hg : Gen (m + 1) g) (hw : small w = true) (hj : ordD (.str j) = true) (hjl : j.length ≤ 26) (hn : w.length ≤ 60) (hk : ∀ a ∈ ks, a < (fnd j w).length) (hkl : ks.length ≤ 1000) {md : Md} :
    ∃ g' : D, Gen m g' ∧ Phi Δ (k + 6) 45 [⟨.own, g⟩, ⟨.fz, .str w⟩, ⟨.fz, .str j⟩, ⟨md, .lst (nl ks)⟩] = .ret false (.bl true) [⟨.own, g'⟩, ⟨.fz, .str w⟩, ⟨.fz, .str j⟩, ⟨md, .lst (nl ks)⟩] := by
  have hL := LIM_n
  have hB := B62_eq
  suffices h : (Phi Δ (k + 6) 45 [⟨.own, g⟩, ⟨.fz, .str w⟩, ⟨.fz, .str j⟩, ⟨md, .lst (nl ks)⟩]).Ok fun o d outs => ∃ g' : D, Gen m g' ∧ o = false ∧ d = .bl true ∧ outs = [⟨.own, g'⟩, ⟨.fz, .str w⟩, ⟨.fz, .str j⟩, ⟨md, .lst (nl ks)⟩] by
    obtain ⟨o, d, outs, e, g', h1, rfl, rfl, rfl⟩ := h
    exact ⟨g', h1, e⟩
  have hfl := fnd_len (j := j) (w := w)
  obtain ⟨f, g1, hg1, hf, e1⟩ := drw K (k + 3) (m := m) (g := g) (n := 10 ^ 28) hg ⟨by decide, c28⟩
  obtain ⟨R, r, e31⟩ := no74 K k (n := (fnd j w).length) (ks := ks) (md := md) (by omega) hk hkl
  have ho := ord_home hk r
  obtain ⟨ho1, ho0⟩ := ord_small r (by omega)
  have ht0 := tns_pos (N := (fnd j w).length + 1) (s := trn ks) (Nat.succ_pos _)
  have ht1 := tns_le (N := (fnd j w).length + 1) (s := trn ks)
  have hlcm : Nat.lcm (ordR R) (tns ((fnd j w).length + 1) (trn ks)) < 2 ^ 2000 := by
    have h1 : Nat.lcm (ordR R) (tns ((fnd j w).length + 1) (trn ks)) ≤ ordR R * tns ((fnd j w).length + 1) (trn ks) := Nat.div_le_self _ _
    have h2 : ordR R * tns ((fnd j w).length + 1) (trn ks) < 2 ^ 1001 * 2 ^ 10 := Nat.mul_lt_mul_of_lt_of_le ho1 (by omega) (by decide)
    rw [← Nat.pow_add] at h2
    exact Nat.lt_of_le_of_lt h1 (Nat.lt_trans h2 (Nat.pow_lt_pow_right (by decide) (by decide)))
  have hlc0 : 0 < Nat.lcm (ordR R) (tns ((fnd j w).length + 1) (trn ks)) := Nat.lcm_pos ho0 ht0
  generalize Nat.lcm (ordR R) (tns ((fnd j w).length + 1) (trn ks)) = o at *
  have hf2 : f < 2 ^ 2000 := Nat.lt_trans hf (Nat.lt_trans c28 (Nat.pow_lt_pow_right (by decide) (by decide)))
  have hfo := Nat.mod_lt f hlc0
  have z := ledO_zero hk
  have q28 := fun (s t : Nat) (ht : t < 2 ^ 2000) => oo71 K k (md := md) hw (by omega) hj hjl hk hkl s ht
  have q0 := fun (t : Nat) (ht : t < 2 ^ 2000) => q28 0 t ht
  rw [z] at q0
  have qf := q0 f hf2
  have qm := q0 (f % o) (by omega)
  have qb := q28 f (o - f % o) (by omega)
  rw [Nat.zero_add] at qf qm
  rw [ledO_mod hk ho] at qm
  have hback := ledO_back hk hlc0 ho f
  rw [ledO_add hk] at hback
  rw [hback] at qb
  rw [← jpl_len] at e31
  have e28 : qB .pow (.int 10) (.int (28 : Nat)) = some (.v (.int ((10 ^ 28 : Nat) : Int))) := pow10 28 (by decide)
  (refine ok_phi (K.h45) ⟨rfl, by decide⟩ ?_; simp only [frzAt, List.map_cons, List.map_nil, Nat.reduceSub, List.reduceReplicate, List.cons_append, List.nil_append, List.getElem?_cons_zero, List.getElem?_cons_succ, List.set_cons_zero, List.set_cons_succ, List.append_nil])
  walk_at "ev"
  refine ⟨9, rfl, ⟨by omega, by omega⟩, ?_⟩
  rw [show rngD 0 9 = (List.range 9).map fun i => D.int (i : Nat) from rfl]
  refine ok_forN 9 (fun i ρ => ∃ x5, ρ = [some ⟨.own, g⟩, some ⟨.fz, .str w⟩, some ⟨.fz, .str j⟩, some ⟨md, .lst (nl ks)⟩, some ⟨.fz, .str (ledO j w ks i)⟩, x5, none, none, none]) ⟨none, by rw [z]⟩ ?_ ?_
  · rintro i hi ρ ⟨x5, rfl⟩
    have qi := q0 i (Nat.lt_of_lt_of_le hi (Nat.le_trans (show 9 ≤ 2 ^ 4 by decide) (Nat.pow_le_pow_right (by decide) (by decide))))
    rw [Nat.zero_add] at qi
    refine ok_withTg rfl ?_
    walk_at "nrm"
    unfold bb45_0
    walk_at "ev"
    (refine call_of (qi) rfl ?_; walk_at "nrm")
    walk_at "ev"
    rw [dd, Bool.not_true]
    walk_at "ev"
    (refine call_of (on71 K k hw (by omega) hj hjl hk hkl i) rfl ?_; walk_at "nrm")
    walk_at "ev"
    exact ⟨_, rfl⟩
  · rintro ρ ⟨x5, rfl⟩
    walk_at "nrm"
    walk_at "ev"
    (refine call_of (lp71 K (k + 4) (w := w) (j := j) (by omega)) rfl ?_; walk_at "nrm")
    walk_at "ev"
    rw [nl_len]
    (refine call_of (e31) rfl ?_; walk_at "nrm")
    walk_at "ev"
    refine lf_bin (op := .pow) (d := .int 10) (e := .int 28) (r := .v (.int ((10 ^ 28 : Nat) : Int))) e28 rfl rfl ?_
    walk_at "ev"
    (refine call_of (e1) rfl ?_; walk_at "nrm")
    walk_at "ev"
    refine ⟨_, rfl, ?_⟩
    walk_at "ev"
    (refine call_of (qf) rfl ?_; walk_at "nrm")
    walk_at "ev"
    rw [mod_nat]
    (refine call_of (qm) rfl ?_; walk_at "nrm")
    walk_at "ev"
    rw [dd, Bool.not_true]
    walk_at "ev"
    rw [mod_nat, sub_nat_mod hlc0]
    (refine call_of (qb) rfl ?_; walk_at "nrm")
    walk_at "ev"
    exact ⟨g1, hg1, rfl, by rw [dd], rfl⟩
end
end Ev

set_option Elab.async false
set_option linter.all false
set_option maxRecDepth 100000
set_option maxHeartbeats 8000000
/-! X17: the law's look at words with few joints (43). Own work. -/
namespace Ev
local macro_rules | `(tactic| walk_at "side") => `(tactic| first | assumption | omega | (have hLIM := LIM_n; have hB62 := B62_eq; have hB63 := B63_eq; (try simp only [List.length_append, List.length_cons, List.length_nil, List.length_map, List.length_reverse, List.length_replicate]); omega))
local macro_rules | `(tactic| walk_at "nrm") => `(tactic| try dsimp only [vrOf, frzAt, backAt, List.take_succ_cons, List.take_zero, allSome, List.set_cons_zero, List.set_cons_succ, outsTo, lockL, lockS, unlockL, unlockS, En.get, List.getElem?_cons_zero, List.getElem?_cons_succ, wipeE, backE])
local macro_rules | `(tactic| walk_at "ev1") => `(tactic| first
  | refine ok_lit ?_
  | refine ok_var rfl ?_
  | refine ok_bin ?_
  | refine ok_cmp ?_
  | refine ok_call ?_
  | refine ok_bi ?_
  | refine ok_sub ?_
  | refine oks_cons ?_
  | refine oks_nil ?_
  | refine ok_and ?_
  | refine ok_or ?_
  | refine ok_not ?_
  | refine ok_ifx ?_
  | refine ok_app rfl ?_
  | refine ok_mth (by decide) ?_
  | refine ok_sl ?_
  | refine ok_rev ?_
  | refine ok_lst ?_
  | refine ok_tup ?_
  | refine ok_dict0 ?_
  | refine ok_lrng1 ?_
  | refine okt_val ?_
  | refine okt_not ?_
  | refine okt_and ?_
  | refine okt_or ?_
  | refine okts_nil ?_
  | refine okts_cons ?_
  | refine oki_seq ?_
  | refine oki_rng1 ?_
  | refine oki_rng2 ?_
  | refine oki_enum ?_
  | refine oki_zip ?_
  | refine oki_back ?_
  | refine okz_nil ?_
  | refine oks_expr ?_
  | refine oks_set ?_
  | refine oks_par ?_
  | refine oks_unp ?_
  | refine unp_intro rfl rfl rfl ?_
  | refine oks_ret ?_
  | refine oks_iff ?_
  | refine oks_for ?_
  | refine oks_while ?_
  | refine ok_keep_v ?_
  | refine ok_keep_o ?_
  | (refine ok_keep_s rfl ?_; walk_at "nrm")
  | refine okk_nil ?_
  | refine okk_cons ?_
  | refine okl_nil ?_
  | refine okl_v ?_
  | refine okl_o ?_
  | (refine okl_s rfl ?_; walk_at "nrm")
  | (refine ok_store_v (Nat.le_of_ble_eq_true rfl) ?_; walk_at "nrm")
  | (refine ok_store_o (Nat.le_of_ble_eq_true rfl) ?_; walk_at "nrm")
  | (refine ok_store_s (Nat.le_of_ble_eq_true rfl) rfl ?_; walk_at "nrm")
  | refine lf_add_int rfl rfl ?_
  | refine lf_sub_int rfl rfl ?_
  | refine lf_add_str rfl rfl (by walk_at "side") ?_
  | refine lf_add_lst rfl rfl (by walk_at "side") ?_
  | refine lf_lt_int rfl rfl ?_
  | refine lf_gt_int rfl rfl ?_
  | refine lf_le_int rfl rfl ?_
  | refine lf_ge_int rfl rfl ?_
  | refine lf_eq_int rfl rfl ?_
  | refine lf_ne_int rfl rfl ?_
  | refine lf_eq_str rfl rfl ?_
  | refine lf_ne_str rfl rfl ?_
  | refine lf_isin_ch rfl rfl ?_
  | refine lf_notin_ch rfl rfl ?_
  | refine lf_is_non rfl rfl (fun b h => nomatch h) ?_
  | refine lf_isnot_non rfl rfl (fun b h => nomatch h) ?_
  | refine lf_mod rfl rfl (by walk_at "side") ?_
  | refine ⟨fun _ => ?_, fun h => no_tf h⟩
  | refine ⟨fun h => no_ft h, fun _ => ?_⟩
  | refine ⟨fun _ => ?_, fun h => no_ft h⟩
  | refine ⟨fun h => no_tf h, fun _ => ?_⟩
  | refine ⟨fun _ => ?_, fun h => absurd (by walk_at "side") (of_decide_eq_false h)⟩
  | refine ⟨fun h => absurd (of_decide_eq_true h) (by walk_at "side"), fun _ => ?_⟩
  | refine ⟨fun _ => ?_, fun h => absurd (of_decide_eq_true h) (by walk_at "side")⟩
  | refine ⟨fun h => absurd (by walk_at "side") (of_decide_eq_false h), fun _ => ?_⟩
  | refine ⟨fun _ => ?_, fun h => absurd (nd_f h) (by walk_at "side")⟩
  | refine ⟨fun h => absurd (by walk_at "side") (nd_t h), fun _ => ?_⟩
  | refine ⟨fun _ => ?_, fun h => absurd (by walk_at "side") (nd_t h)⟩
  | refine ⟨fun h => absurd (nd_f h) (by walk_at "side"), fun _ => ?_⟩
  | (refine nx_nx ?_)
  | (refine nx_rt ?_)
  | refine retq_v ?_
  | refine retq_o ?_
  | refine retq_w rfl rfl ?_
  | (refine retq_p rfl rfl ?_; walk_at "nrm")
  | (refine retq_f rfl ?_; walk_at "nrm")
  | (refine fin_rt rfl rfl ?_; walk_at "nrm")
  | (refine fin_nx rfl rfl ?_; walk_at "nrm")
  | refine cl_intro rfl rfl rfl ?_
  | (refine ⟨_, _, _, rfl, rfl, rfl, ?_⟩; simp only [frzDup, List.any_cons, List.any_nil, Nat.reduceBEq, beq_self_eq_true, Bool.or_false, Bool.or_true, Bool.true_or, if_true, Bool.false_eq_true, if_false, En.get, List.getElem?_cons_zero, List.getElem?_cons_succ, List.set_cons_zero, List.set_cons_succ])
  | refine ⟨_, _, rfl, rfl, ?_⟩
  | refine ⟨_, _, _, _, rfl, rfl, rfl, rfl, ?_⟩
  | refine lim_intro (by walk_at "side") ?_)
local macro_rules | `(tactic| walk_at "ev") => `(tactic| ((repeat walk_at "ev1"); walk_at "nrm"))
local macro_rules | `(tactic| walk_at "unl") => `(tactic| simp only [unlockL, unlockS, lockL, lockS, En.get, List.getElem?_cons_zero, List.getElem?_cons_succ, List.set_cons_zero, List.set_cons_succ, eq_self, if_true])
theorem put_mem {c : Nat} : ∀ {fs : List Nat} {ps : List (List Nat)}, c ∈ put fs ps → c ∈ fs ∨ ∃ p ∈ ps, c ∈ p
  | [], [], h => nomatch h
  | [], p :: ps, h => .inr ⟨p, List.mem_cons_self, h⟩
  | f :: fs, [], h => nomatch h
  | f :: fs, p :: ps, h => by
    have h : c ∈ p ++ f :: put fs ps := h
    rcases List.mem_append.mp h with h | h
    · exact .inr ⟨p, List.mem_cons_self, h⟩
    · rcases List.mem_cons.mp h with h | h
      · exact .inl (List.mem_cons.mpr (.inl h))
      · rcases put_mem h with h | ⟨q, hq, h⟩
        · exact .inl (List.mem_cons_of_mem _ h)
        · exact .inr ⟨q, List.mem_cons_of_mem _ hq, h⟩
theorem jt4 {r : Nat} (h : r < 4) : ∃ j, subD (.lst [.str [120], .str [120, 121], .str [100, 120, 121, 122], .str [120, 122]]) (.int (r : Nat)) = some (.str j) ∧ ordD (.str j) = true ∧ j.length ≤ 26 ∧ 0 < j.length ∧ small j = true ∧ ∀ c ∈ [97, 98, 99], c ∉ j := by
  match r, h with
  | 0, _ => exact ⟨[120], rfl, by decide, by decide, by decide, by decide, by decide⟩
  | 1, _ => exact ⟨[120, 121], rfl, by decide, by decide, by decide, by decide, by decide⟩
  | 2, _ => exact ⟨[100, 120, 121, 122], rfl, by decide, by decide, by decide, by decide, by decide⟩
  | 3, _ => exact ⟨[120, 122], rfl, by decide, by decide, by decide, by decide, by decide⟩
theorem sl_cut {ps : List (List Nat)} {t : Nat} : cut (sl ps) (some (t : Int)) none ++ cut (sl ps) none (some (t : Int)) = sl (ps.drop t ++ ps.take t) := by
  rw [cut_from, cut_hi]
  unfold sl
  rw [List.map_append, List.map_drop, List.map_take]
section
variable {Δ : Tab} (K : Kb Δ)
include K
theorem it71 (k : Nat) {m n : Nat} {g : D} {x1 x3 x4 x5 : Option Sl} {Q : Vr → En → Prop} (hg : Gen (m + 10) g) (hn : n ≤ 100) (q : ∀ ks g', Gen m g' → (∀ a ∈ ks, a < n) → ks.length ≤ 9 → Q (.o (.lst (nl ks))) [some ⟨.own, g'⟩, x1, some ⟨.fz, .int (n : Nat)⟩, x3, x4, x5, none, none, none, none, none, none]) :
    (qE (Phi Δ (k + 2)) (.ifx (.val (.cmp .gt (.var 2) (.lit (.int 0)))) bl43_0 (.lst .nil)) [some ⟨.own, g⟩, x1, some ⟨.fz, .int (n : Nat)⟩, x3, x4, x5, none, none, none, none, none, none]).Ok Q := by
  have hL := LIM_n
  have hB := B62_eq
  obtain ⟨c, g1, hg1, hc, e1⟩ := drw K k (m := m + 9) (g := g) (n := 10) hg (by decide)
  refine ok_ifx ?_
  walk_at "ev"
  by_cases h0 : 0 < n
  · rw [decide_eq_true (show (0 : Int) < (n : Int) by omega)]
    refine ⟨fun _ => ?_, fun z => nomatch z⟩
    unfold bl43_0
    refine ok_lc ?_
    walk_at "ev"
    (refine call_of (e1) rfl ?_; walk_at "nrm")
    walk_at "ev"
    refine ⟨(c : Int), rfl, ⟨by omega, by omega⟩, ?_⟩
    rw [rng_nl]
    refine ⟨fun done rest ρ => ∃ i ks g' x7, rest.length + i = c ∧ done = nl ks ∧ ks.length = i ∧ (∀ a ∈ ks, a < n) ∧ Gen (m + rest.length) g' ∧ ρ = [some ⟨.own, g'⟩, x1, some ⟨.fz, .int (n : Nat)⟩, x3, x4, x5, none, x7, none, none, none, none], ⟨0, [], g1, _, by rw [nl_len, List.length_range, Nat.add_zero], rfl, rfl, (fun _ h => nomatch h), by rw [nl_len, List.length_range]; exact hg1.mono (by omega), rfl⟩, ?_, ?_⟩
    · rintro d ds done ρ ⟨i, ks, g', x7, h2, rfl, h3, h4, h5, rfl⟩
      rw [List.length_cons] at h2 h5
      obtain ⟨r, g2, h6, h7, e⟩ := drw K k (m := m + ds.length) (g := g') (n := n) h5 ⟨h0, Nat.lt_of_le_of_lt hn (by decide)⟩
      refine ok_lcTg rfl (okts_nil ⟨fun _ => ?_, fun z => nomatch z⟩)
      walk_at "nrm"
      unfold be43_0
      walk_at "ev"
      (refine call_of (e) rfl ?_; walk_at "nrm")
      walk_at "ev"
      refine ⟨i + 1, ks ++ [r], g2, _, by omega, ?_, by rw [List.length_append, h3] <;> rfl, fun a ha => ?_, h6, rfl⟩
      · rw [← nl_snoc] <;> rfl
      · rcases List.mem_append.mp ha with ha | ha
        · exact h4 a ha
        · rw [List.mem_singleton.mp ha]; exact h7
    · rintro ds ρ' ⟨i, ks, g', x7, h2, rfl, h3, h4, h5, rfl⟩
      rw [List.length_nil, Nat.zero_add] at h2
      refine ⟨by rw [nl_len]; omega, ?_⟩
      walk_at "nrm"
      exact q ks g' h5 h4 (by omega)
  · rw [decide_eq_false (show ¬ (0 : Int) < (n : Int) by omega)]
    refine ⟨(fun z => nomatch z), fun _ => ?_⟩
    walk_at "ev"
    exact q [] g (hg.mono (by omega)) (fun _ h => nomatch h) (Nat.zero_le _)
theorem tl71 (k : Nat) {m n : Nat} {j fs ks : List Nat} {ps : List (List Nat)} {g : D} {Q : Fl → En → Prop} (hg : Gen (m + 9) g) (hj : ordD (.str j) = true) (hjl : j.length ≤ 26) (hw : small (put fs ps) = true) (hsf : small fs = true) (wd : WdJ j fs ps) (hfn : fs.length = n) (hn : n ≤ 7) (hb : ∀ p ∈ ps, p.length ≤ 3) (hk : ∀ a ∈ ks, a < n) (hkl : ks.length ≤ 9)
    (q : ∀ g' ρ', Gen m g' → ρ'.take 1 = [some ⟨.own, g'⟩] → Q (.rt false (.bl true)) ρ') :
    (qSs (Phi Δ (k + 7)) 1 bd43_5 [some ⟨.own, g⟩, some ⟨.fz, .str j⟩, some ⟨.fz, .int (n : Nat)⟩, some ⟨.fz, .str fs⟩, some ⟨.fz, .lst (sl ps)⟩, some ⟨.fz, .str (put fs ps)⟩, some ⟨.own, .lst (nl ks)⟩, none, none, none, none, none]).Ok Q := by
  have hL := LIM_n
  obtain ⟨f1, f2⟩ := parts_put wd
  have hpl := wd.len
  have hwl : (put fs ps).length ≤ 32 := by
    have h1 := put_len (B := 3) (fs := fs) (ps := ps) hb
    have h2 : ps.length * (3 + 1) ≤ 8 * 4 := Nat.mul_le_mul_right _ (by omega)
    omega
  have hkf : ∀ a ∈ ks, a < (fnd j (put fs ps)).length := by rw [f1, hfn]; exact hk
  have hkf' : ∀ a ∈ ks, a < fs.length := by rw [hfn]; exact hk
  have e42 := wb71 K (k + 5) (md := .own) (w := put fs ps) (j := j) (by omega) hkf (by omega)
  have e27 := fun md => dn74 K (k + 2) (md := md) hw (by omega) hj hjl hkf (by omega)
  have e30 := fun md => rd71 K (k + 2) (md := md) hw hj hjl (by omega) hkf (by omega)
  obtain ⟨ro, rn, rm⟩ := road_num hkf
  have hrl := roadI_len (j := j) (w := put fs ps) (qs := ks)
  have e29 := nm71 K (k + 2) (md := .fz) hw hj hjl (by omega) ro (by omega)
  have e21 := dn71 K (k + 1) (md := .fz) hw hj hjl (by omega) ro (by omega)
  rw [rn] at e29
  rw [rm] at e21
  have eled : led j (put fs ps) ks = put (mv fs ks) (rt ps (trn ks)) := led_put wd hkf'
  generalize hu : led j (put fs ps) ks = u at *
  generalize hro : roadI j (put fs ps) ks = road at *
  have hrdl : road.length ≤ 9 := by omega
  have ewx := ew71 K (k + 4) (a := u) (A := road) (m1 := .own) (m2 := .own) (by omega)
  have eel := el72 K (k + 5) (A := ks) (m1 := .own) (m2 := .own) (by omega)
  have e13 := db72 K (k + 2) (w := fs) (ps := ks) (md := .own) hsf (by omega) (by omega) hkf'
  have hks := trn_le hkf'
  have htlt : trn ks % (n + 1) < n + 1 := Nat.mod_lt _ (Nat.succ_pos n)
  have htu : u = put (mv fs ks) (ps.drop (trn ks % (n + 1)) ++ ps.take (trn ks % (n + 1))) := by
    rw [eled, rt_cut (by omega)]
    congr 1
    exact (rt_mod (by rw [hpl, hfn, Nat.mod_mod])).symm
  have hmvl : (mv fs ks).length = n := by rw [mv_len hkf', hfn]
  have e40 := pt71 K (k + 6) (fs := mv fs ks) (ps := ps.drop (trn ks % (n + 1)) ++ ps.take (trn ks % (n + 1))) (n := n) (md := .own) hmvl (by rw [List.length_append, List.length_drop, List.length_take]; omega) (by omega) (fun p h => by
    rcases List.mem_append.mp h with h | h
    · exact Nat.le_trans (hb p (List.mem_of_mem_drop h)) (by decide)
    · exact Nat.le_trans (hb p (List.mem_of_mem_take h)) (by decide))
  rw [← htu] at e40
  obtain ⟨g1, hg1, e44⟩ := rr71 K (k + 1) (m := m + 1) (w := put fs ps) (j := j) (g := g) hg hw hj hjl (by omega)
  obtain ⟨g2, hg2, e45⟩ := od71 K (k + 1) (m := m) (w := put fs ps) (j := j) (ks := ks) (g := g1) (md := .own) hg1 hw hj hjl (by omega) hkf (by omega)
  have hsl : (cut (sl ps) (some ((trn ks % (n + 1) : Nat) : Int)) none).length + (cut (sl ps) none (some ((trn ks % (n + 1) : Nat) : Int))).length ≤ 100 := by
    rw [cut_from, cut_hi, List.length_drop, List.length_take, sl_len]
    omega
  have s0 : subD (.lst [.str u, .lst (nl road)]) (.int 0) = some (.str u) := rfl
  have s1 : subD (.lst [.str u, .lst (nl road)]) (.int 1) = some (.lst (nl road)) := rfl
  refine oks_par ?_
  walk_at "ev"
  (refine call_of (e42) rfl ?_; walk_at "nrm")
  walk_at "ev"
  refine ⟨_, rfl, ?_⟩
  walk_at "ev"
  (refine call_of (e27 _) rfl ?_; walk_at "nrm")
  walk_at "ev"
  (refine call_of (e30 _) rfl ?_; walk_at "nrm")
  walk_at "ev"
  (refine call_of (ewx) rfl ?_; walk_at "nrm")
  walk_at "ev"
  refine lf_cmp ne_nlS rfl rfl ?_
  walk_at "ev"
  (refine call_of (e29) rfl ?_; walk_at "nrm")
  walk_at "ev"
  (refine call_of (eel) rfl ?_; walk_at "nrm")
  walk_at "ev"
  refine lf_sub s1 rfl rfl ?_
  walk_at "ev"
  (refine call_of (e21) rfl ?_; walk_at "nrm")
  walk_at "ev"
  refine lf_sub s0 rfl rfl ?_
  walk_at "ev"
  rw [dd, Bool.not_true]
  walk_at "ev"
  unfold bl43_1
  refine ok_lcE (α := Nat) ?_
  walk_at "ev"
  refine ⟨ks, fun p => .int (p : Nat), fun p => .int ((p + 1 : Nat) : Int), fun ρ => ∃ x11, ρ = [some ⟨.own, g⟩, some ⟨.fz, .str j⟩, some ⟨.fz, .int (n : Nat)⟩, some ⟨.fz, .str fs⟩, some ⟨.fz, .lst (sl ps)⟩, some ⟨.fz, .str (put fs ps)⟩, some ⟨.lk, .lst (nl ks)⟩, none, some ⟨.own, .lst (nl ks)⟩, some ⟨.own, .lst [.str u, .lst (nl road)]⟩, some ⟨.own, .lst [.str u, .lst (nl road)]⟩, x11], rfl, ⟨_, rfl⟩, ?_, by omega, ?_⟩
  · rintro a ha ρ ⟨x11, rfl⟩
    refine lcTg_all rfl ?_
    walk_at "nrm"
    unfold be43_1
    walk_at "ev"
    exact ⟨rfl, _, rfl⟩
  · rintro ρ' ⟨x11, rfl⟩
    walk_at "nrm"
    rw [if_pos (show Md.lk = Md.own.lock from rfl)]
    walk_at "nrm"
    have c1 : ks.map (fun p => D.int ((p + 1 : Nat) : Int)) = nl (ks.map (· + 1)) := by unfold nl; rw [List.map_map] <;> rfl
    have c2 : biD .sum [.lst (nl (ks.map (· + 1)))] = some (.v (.int (trn ks : Nat))) := by
      show (match Dsum (nl (ks.map (· + 1))) ((0 : Nat) : Int) with
        | some v => some (Vr.v (.int v))
        | none => none) = _
      rw [dsum_nl, Nat.zero_add] <;> rfl
    rw [c1]
    walk_at "ev"
    refine lf_bi c2 rfl ?_
    walk_at "ev"
    rw [im1]
    walk_at "ev"
    (refine call_of (e13) rfl ?_; walk_at "nrm")
    walk_at "ev"
    rw [sl_cut]
    (refine call_of (e40) rfl ?_; walk_at "nrm")
    walk_at "ev"
    try (refine lf_sub s0 rfl rfl ?_; walk_at "ev")
    rw [dd, Bool.not_true]
    walk_at "ev"
    (refine call_of (e27 _) rfl ?_; walk_at "nrm")
    walk_at "ev"
    try (refine lf_sub s0 rfl rfl ?_; walk_at "ev")
    rw [dd, Bool.not_true]
    walk_at "ev"
    (refine call_of (e30 _) rfl ?_; walk_at "nrm")
    walk_at "ev"
    try (refine lf_sub s1 rfl rfl ?_; walk_at "ev")
    refine lf_cmp ne_nlS rfl rfl ?_
    walk_at "ev"
    (refine call_of (e44) rfl ?_; walk_at "nrm")
    walk_at "ev"
    (refine call_of (e45) rfl ?_; walk_at "nrm")
    walk_at "ev"
    exact q g2 _ hg2 rfl
theorem rt71 (k : Nat) {m : Nat} {g : D} (hg : Gen (m + 80) g) : ∃ g' : D, Gen m g' ∧ Phi Δ (k + 8) 43 [⟨.own, g⟩] = .ret false (.bl true) [⟨.own, g'⟩] := by
  have hL := LIM_n
  suffices h : (Phi Δ (k + 8) 43 [⟨.own, g⟩]).Ok fun o d outs => ∃ g' : D, Gen m g' ∧ o = false ∧ d = .bl true ∧ outs = [⟨.own, g'⟩] by
    obtain ⟨o, d, outs, e, g', h1, rfl, rfl, rfl⟩ := h
    exact ⟨g', h1, e⟩
  obtain ⟨r, g1, hg1, hr, e1⟩ := drw K (k + 5) (m := m + 79) (g := g) (n := 4) hg (by decide)
  obtain ⟨j, hj0, hj, hjl, hjp, hjs, hja⟩ := jt4 hr
  obtain ⟨n, g2, hg2, hn, e2⟩ := drw K (k + 5) (m := m + 78) (g := g1) (n := 8) hg1 (by decide)
  obtain ⟨fs, ps, g3, hg3, hfl, hfm, hpl, hpm, e3⟩ := dw71 K (k + 3) (m := m + 20) (n := n) (l := j) (g := g2) (hg2.mono (by omega)) (by omega) hjp (by omega)
  have wd : WdJ j fs ps := ⟨by omega, hfm, fun p hp c hc => hja c ((hpm p hp).2 c hc)⟩
  have hsf : small fs = true := small_of hfm hjs
  have hw : small (put fs ps) = true := by
    unfold small
    rw [List.all_eq_true]
    intro c hc
    rcases put_mem hc with h | ⟨p, hp, h⟩
    · unfold small at hsf
      exact (List.all_eq_true.mp hsf) c h
    · have := (hpm p hp).2 c h
      have hs : small [97, 98, 99] = true := by decide
      unfold small at hs
      exact (List.all_eq_true.mp hs) c this
  have e40 := pt71 K (k + 6) (fs := fs) (ps := ps) (n := n) (md := .fz) hfl hpl (by omega) (fun p h => Nat.le_trans (hpm p h).1 (by decide))
  (refine ok_phi (K.h43) ⟨rfl, by decide⟩ ?_; simp only [frzAt, List.map_cons, List.map_nil, Nat.reduceSub, List.reduceReplicate, List.cons_append, List.nil_append, List.getElem?_cons_zero, List.getElem?_cons_succ, List.set_cons_zero, List.set_cons_succ, List.append_nil])
  walk_at "ev"
  (refine call_of (e1) rfl ?_; walk_at "nrm")
  walk_at "ev"
  refine lf_sub hj0 rfl rfl ?_
  walk_at "ev"
  (refine call_of (e2) rfl ?_; walk_at "nrm")
  walk_at "ev"
  (refine call_of (e3) rfl ?_; walk_at "nrm")
  walk_at "ev"
  (refine call_of (e40) rfl ?_; walk_at "nrm")
  refine ok_store_v (Nat.le_of_ble_eq_true rfl) ?_
  walk_at "nrm"
  refine oks_set (it71 K (k + 5) (m := m + 9) (n := n) (hg3.mono (by omega)) (by omega) fun ks g4 hg4 hk hkl => ?_)
  refine ok_store_o (Nat.le_of_ble_eq_true rfl) ?_
  walk_at "nrm"
  refine tl71 K k (m := m) hg4 hj hjl hw hsf wd hfl (by omega) (fun p h => (hpm p h).1) hk hkl fun g' ρ' hg' hρ => ?_
  refine fin_rt (by rw [hρ] <;> rfl) rfl ?_
  exact ⟨g', hg', rfl, rfl, rfl⟩
end
end Ev

set_option Elab.async false
set_option linter.all false
set_option maxRecDepth 100000
set_option maxHeartbeats 8000000
/-! X18: the law's look at words with many joints (46). Own work. -/
namespace Ev
local macro_rules | `(tactic| walk_at "side") => `(tactic| first | assumption | omega | (have hLIM := LIM_n; have hB62 := B62_eq; have hB63 := B63_eq; (try simp only [List.length_append, List.length_cons, List.length_nil, List.length_map, List.length_reverse, List.length_replicate]); omega))
local macro_rules | `(tactic| walk_at "nrm") => `(tactic| try dsimp only [vrOf, frzAt, backAt, List.take_succ_cons, List.take_zero, allSome, List.set_cons_zero, List.set_cons_succ, outsTo, lockL, lockS, unlockL, unlockS, En.get, List.getElem?_cons_zero, List.getElem?_cons_succ, wipeE, backE])
local macro_rules | `(tactic| walk_at "ev1") => `(tactic| first
  | refine ok_lit ?_
  | refine ok_var rfl ?_
  | refine ok_bin ?_
  | refine ok_cmp ?_
  | refine ok_call ?_
  | refine ok_bi ?_
  | refine ok_sub ?_
  | refine oks_cons ?_
  | refine oks_nil ?_
  | refine ok_and ?_
  | refine ok_or ?_
  | refine ok_not ?_
  | refine ok_ifx ?_
  | refine ok_app rfl ?_
  | refine ok_mth (by decide) ?_
  | refine ok_sl ?_
  | refine ok_rev ?_
  | refine ok_lst ?_
  | refine ok_tup ?_
  | refine ok_dict0 ?_
  | refine ok_lrng1 ?_
  | refine okt_val ?_
  | refine okt_not ?_
  | refine okt_and ?_
  | refine okt_or ?_
  | refine okts_nil ?_
  | refine okts_cons ?_
  | refine oki_seq ?_
  | refine oki_rng1 ?_
  | refine oki_rng2 ?_
  | refine oki_enum ?_
  | refine oki_zip ?_
  | refine oki_back ?_
  | refine okz_nil ?_
  | refine oks_expr ?_
  | refine oks_set ?_
  | refine oks_par ?_
  | refine oks_unp ?_
  | refine unp_intro rfl rfl rfl ?_
  | refine oks_ret ?_
  | refine oks_iff ?_
  | refine oks_for ?_
  | refine oks_while ?_
  | refine ok_keep_v ?_
  | refine ok_keep_o ?_
  | (refine ok_keep_s rfl ?_; walk_at "nrm")
  | refine okk_nil ?_
  | refine okk_cons ?_
  | refine okl_nil ?_
  | refine okl_v ?_
  | refine okl_o ?_
  | (refine okl_s rfl ?_; walk_at "nrm")
  | (refine ok_store_v (Nat.le_of_ble_eq_true rfl) ?_; walk_at "nrm")
  | (refine ok_store_o (Nat.le_of_ble_eq_true rfl) ?_; walk_at "nrm")
  | (refine ok_store_s (Nat.le_of_ble_eq_true rfl) rfl ?_; walk_at "nrm")
  | refine lf_add_int rfl rfl ?_
  | refine lf_sub_int rfl rfl ?_
  | refine lf_add_str rfl rfl (by walk_at "side") ?_
  | refine lf_add_lst rfl rfl (by walk_at "side") ?_
  | refine lf_lt_int rfl rfl ?_
  | refine lf_gt_int rfl rfl ?_
  | refine lf_le_int rfl rfl ?_
  | refine lf_ge_int rfl rfl ?_
  | refine lf_eq_int rfl rfl ?_
  | refine lf_ne_int rfl rfl ?_
  | refine lf_eq_str rfl rfl ?_
  | refine lf_ne_str rfl rfl ?_
  | refine lf_isin_ch rfl rfl ?_
  | refine lf_notin_ch rfl rfl ?_
  | refine lf_is_non rfl rfl (fun b h => nomatch h) ?_
  | refine lf_isnot_non rfl rfl (fun b h => nomatch h) ?_
  | refine lf_mod rfl rfl (by walk_at "side") ?_
  | refine ⟨fun _ => ?_, fun h => no_tf h⟩
  | refine ⟨fun h => no_ft h, fun _ => ?_⟩
  | refine ⟨fun _ => ?_, fun h => no_ft h⟩
  | refine ⟨fun h => no_tf h, fun _ => ?_⟩
  | refine ⟨fun _ => ?_, fun h => absurd (by walk_at "side") (of_decide_eq_false h)⟩
  | refine ⟨fun h => absurd (of_decide_eq_true h) (by walk_at "side"), fun _ => ?_⟩
  | refine ⟨fun _ => ?_, fun h => absurd (of_decide_eq_true h) (by walk_at "side")⟩
  | refine ⟨fun h => absurd (by walk_at "side") (of_decide_eq_false h), fun _ => ?_⟩
  | refine ⟨fun _ => ?_, fun h => absurd (nd_f h) (by walk_at "side")⟩
  | refine ⟨fun h => absurd (by walk_at "side") (nd_t h), fun _ => ?_⟩
  | refine ⟨fun _ => ?_, fun h => absurd (by walk_at "side") (nd_t h)⟩
  | refine ⟨fun h => absurd (nd_f h) (by walk_at "side"), fun _ => ?_⟩
  | (refine nx_nx ?_)
  | (refine nx_rt ?_)
  | refine retq_v ?_
  | refine retq_o ?_
  | refine retq_w rfl rfl ?_
  | (refine retq_p rfl rfl ?_; walk_at "nrm")
  | (refine retq_f rfl ?_; walk_at "nrm")
  | (refine fin_rt rfl rfl ?_; walk_at "nrm")
  | (refine fin_nx rfl rfl ?_; walk_at "nrm")
  | refine cl_intro rfl rfl rfl ?_
  | (refine ⟨_, _, _, rfl, rfl, rfl, ?_⟩; simp only [frzDup, List.any_cons, List.any_nil, Nat.reduceBEq, beq_self_eq_true, Bool.or_false, Bool.or_true, Bool.true_or, if_true, Bool.false_eq_true, if_false, En.get, List.getElem?_cons_zero, List.getElem?_cons_succ, List.set_cons_zero, List.set_cons_succ])
  | refine ⟨_, _, rfl, rfl, ?_⟩
  | refine ⟨_, _, _, _, rfl, rfl, rfl, rfl, ?_⟩
  | refine lim_intro (by walk_at "side") ?_)
local macro_rules | `(tactic| walk_at "ev") => `(tactic| ((repeat walk_at "ev1"); walk_at "nrm"))
local macro_rules | `(tactic| walk_at "unl") => `(tactic| simp only [unlockL, unlockS, lockL, lockS, En.get, List.getElem?_cons_zero, List.getElem?_cons_succ, List.set_cons_zero, List.set_cons_succ, eq_self, if_true])
def xy2 : List Nat := [120, 121]
structure Chk (p : List Nat) : Prop where
  f : (fnd xy2 p).length = 1
  l : p.length ≤ 2
  s : small p = true
theorem ch4 {r : Nat} (h : r < 4) : ∃ p, subD (.lst [.str [120], .str [121], .str [97, 120], .str [120, 98]]) (.int (r : Nat)) = some (.str p) ∧ Chk p := by
  match r, h with
  | 0, _ => exact ⟨[120], rfl, by decide, by decide, by decide⟩
  | 1, _ => exact ⟨[121], rfl, by decide, by decide, by decide⟩
  | 2, _ => exact ⟨[97, 120], rfl, by decide, by decide, by decide⟩
  | 3, _ => exact ⟨[120, 98], rfl, by decide, by decide, by decide⟩
theorem flat_ch : ∀ {ps : List (List Nat)}, (∀ p ∈ ps, Chk p) → (fnd xy2 ps.flatten).length = ps.length ∧ ps.flatten.length ≤ 2 * ps.length ∧ small ps.flatten = true
  | [], _ => ⟨rfl, Nat.le_refl _, rfl⟩
  | p :: ps, h => by
    obtain ⟨a, b, c⟩ := h p List.mem_cons_self
    obtain ⟨d, e, f⟩ := flat_ch (ps := ps) fun q hq => h q (List.mem_cons_of_mem _ hq)
    rw [List.flatten_cons, fnd_app, List.length_append, List.length_append, List.length_cons, a, d]
    refine ⟨by omega, by omega, ?_⟩
    unfold small at c f ⊢
    rw [List.all_append, c, f] <;> rfl
section
variable {Δ : Tab} (K : Kb Δ)
include K
theorem mm71 (k : Nat) {m : Nat} {g : D} (hg : Gen (m + 100) g) : ∃ g' : D, Gen m g' ∧ Phi Δ (k + 8) 46 [⟨.own, g⟩] = .ret false (.bl true) [⟨.own, g'⟩] := by
  have hL := LIM_n
  have hB := B62_eq
  suffices h : (Phi Δ (k + 8) 46 [⟨.own, g⟩]).Ok fun o d outs => ∃ g' : D, Gen m g' ∧ o = false ∧ d = .bl true ∧ outs = [⟨.own, g'⟩] by
    obtain ⟨o, d, outs, e, g', h1, rfl, rfl, rfl⟩ := h
    exact ⟨g', h1, e⟩
  obtain ⟨r0, g1, hg1, hr0, e1⟩ := drw K (k + 5) (m := m + 99) (g := g) (n := 30) hg (by decide)
  (refine ok_phi (K.h46) ⟨rfl, by decide⟩ ?_; simp only [frzAt, List.map_cons, List.map_nil, Nat.reduceSub, List.reduceReplicate, List.cons_append, List.nil_append, List.getElem?_cons_zero, List.getElem?_cons_succ, List.set_cons_zero, List.set_cons_succ, List.append_nil])
  walk_at "ev"
  (refine call_of (e1) rfl ?_; walk_at "nrm")
  refine lf_add_int rfl rfl ?_
  rw [show (61 : Int) + (r0 : Int) = ((61 + r0 : Nat) : Int) by omega]
  generalize hn : 61 + r0 = n
  have hnl : 0 < n ∧ n ≤ 90 := by omega
  refine ok_store_v (Nat.le_of_ble_eq_true rfl) ?_
  walk_at "nrm"
  refine oks_set (ok_mth (by decide) ?_)
  walk_at "ev"
  refine ⟨_, rfl, rfl, oks_cons ?_⟩
  unfold bl46_0
  refine ok_lc ?_
  walk_at "ev"
  refine ⟨(n : Int), rfl, ⟨by omega, by omega⟩, ?_⟩
  rw [rng_nl]
  refine ⟨fun done rest ρ => ∃ i ps g' x3, rest.length + i = n ∧ done = sl ps ∧ ps.length = i ∧ (∀ p ∈ ps, Chk p) ∧ Gen (m + 5 + rest.length) g' ∧ ρ = [some ⟨.own, g'⟩, some ⟨.fz, .int (n : Nat)⟩, none, x3, none, none], ⟨0, [], g1, _, by rw [nl_len, List.length_range, Nat.add_zero], rfl, rfl, (fun _ h => nomatch h), by rw [nl_len, List.length_range]; exact hg1.mono (by omega), rfl⟩, ?_, ?_⟩
  · rintro d ds done ρ ⟨i, ps, g', x3, h2, rfl, h3, h4, h5, rfl⟩
    rw [List.length_cons] at h2 h5
    obtain ⟨r, g2, h6, h7, e⟩ := drw K (k + 5) (m := m + 5 + ds.length) (g := g') (n := 4) h5 (by decide)
    obtain ⟨p, hp1, hp2⟩ := ch4 h7
    refine ok_lcTg rfl (okts_nil ⟨fun _ => ?_, fun z => nomatch z⟩)
    walk_at "nrm"
    unfold be46_0
    walk_at "ev"
    (refine call_of (e) rfl ?_; walk_at "nrm")
    walk_at "ev"
    refine lf_sub hp1 rfl rfl ?_
    walk_at "ev"
    refine ⟨i + 1, ps ++ [p], g2, _, by omega, ?_, by rw [List.length_append, h3] <;> rfl, fun q hq => ?_, h6, rfl⟩
    · unfold sl
      rw [List.map_append] <;> rfl
    · rcases List.mem_append.mp hq with hq | hq
      · exact h4 q hq
      · rw [List.mem_singleton.mp hq]
        exact hp2
  · rintro ds ρ' ⟨i, ps, g2, x3, h2, rfl, h3, h4, h5, rfl⟩
    rw [List.length_nil, Nat.zero_add] at h2
    refine ⟨by rw [sl_len]; omega, ?_⟩
    walk_at "nrm"
    obtain ⟨hf, hl, hs⟩ := flat_ch h4
    refine oks_nil ?_
    refine lf_mt (join_sl (by rw [← List.length_flatten]; omega)) rfl rfl ?_
    generalize ps.flatten = w at *
    refine ok_store_v (Nat.le_of_ble_eq_true rfl) ?_
    walk_at "nrm"
    have hwl : w.length ≤ 180 := by omega
    have hfn : (fnd xy2 w).length = n := by omega
    refine oks_set ?_
    unfold bl46_1
    refine ok_lc ?_
    walk_at "ev"
    refine ⟨3, rfl, ⟨by omega, by omega⟩, ?_⟩
    refine ⟨fun done rest ρ => ∃ i ks g' x3, rest.length + i = 3 ∧ done = nl ks ∧ ks.length = i ∧ (∀ a ∈ ks, a < n) ∧ Gen (m + rest.length) g' ∧ ρ = [some ⟨.own, g'⟩, some ⟨.fz, .int (n : Nat)⟩, some ⟨.fz, .str w⟩, x3, none, none], ⟨0, [], g2, _, rfl, rfl, rfl, (fun _ h => nomatch h), h5.mono (by show m + 3 ≤ _; simp), rfl⟩, ?_, ?_⟩
    · rintro d ds done ρ ⟨i, ks, g', x7, h2, rfl, h3, h4, h5, rfl⟩
      rw [List.length_cons] at h2 h5
      obtain ⟨r, g2, h6, h7, e⟩ := drw K (k + 5) (m := m + ds.length) (g := g') (n := n) h5 ⟨hnl.1, Nat.lt_of_le_of_lt hnl.2 (by decide)⟩
      refine ok_lcTg rfl (okts_nil ⟨fun _ => ?_, fun z => nomatch z⟩)
      walk_at "nrm"
      unfold be46_1
      walk_at "ev"
      (refine call_of (e) rfl ?_; walk_at "nrm")
      walk_at "ev"
      refine ⟨i + 1, ks ++ [r], g2, _, by omega, ?_, by rw [List.length_append, h3] <;> rfl, fun a ha => ?_, h6, rfl⟩
      · rw [← nl_snoc] <;> rfl
      · rcases List.mem_append.mp ha with ha | ha
        · exact h4 a ha
        · rw [List.mem_singleton.mp ha]; exact h7
    · rintro ds ρ' ⟨i, ks, g3, x7, h2, rfl, h3, h4, h5, rfl⟩
      rw [List.length_nil, Nat.zero_add] at h2
      refine ⟨by rw [nl_len]; omega, ?_⟩
      walk_at "nrm"
      have hj : ordD (.str xy2) = true := by decide
      have hjl : xy2.length ≤ 26 := by decide
      have hkf : ∀ a ∈ ks, a < (fnd xy2 w).length := by rw [hfn]; exact h4
      have e42 := wb71 K (k + 5) (md := .own) (w := w) (j := xy2) (by omega) hkf (by omega)
      have e27 := dn74 K (k + 2) (md := .own) hs (by omega) hj hjl hkf (by omega)
      have e30 := rd71 K (k + 2) (md := .own) hs hj hjl (by omega) hkf (by omega)
      obtain ⟨ro, rn, rm⟩ := road_num hkf
      have hrl := roadI_len (j := xy2) (w := w) (qs := ks)
      have e29 := nm71 K (k + 2) (md := .fz) hs hj hjl (by omega) ro (by omega)
      have e28 := do74 K (k + 2) (md := .own) (t := 1) hs (by omega) hj hjl hkf (by omega) (Nat.one_lt_two_pow (by decide))
      rw [rn] at e29
      rw [ledO_one hkf] at e28
      generalize hu : led xy2 w ks = u at *
      generalize hro : roadI xy2 w ks = road at *
      have ewx := ew71 K (k + 4) (a := u) (A := road) (m1 := .own) (m2 := .own) (by omega)
      have s0 : subD (.lst [.str u, .lst (nl road)]) (.int 0) = some (.str u) := rfl
      have s1 : subD (.lst [.str u, .lst (nl road)]) (.int 1) = some (.lst (nl road)) := rfl
      walk_at "ev"
      (refine call_of (e42) rfl ?_; walk_at "nrm")
      walk_at "ev"
      (refine call_of (e27) rfl ?_; walk_at "nrm")
      walk_at "ev"
      (refine call_of (e30) rfl ?_; walk_at "nrm")
      walk_at "ev"
      (refine call_of (ewx) rfl ?_; walk_at "nrm")
      walk_at "ev"
      (refine call_of (e28) rfl ?_; walk_at "nrm")
      walk_at "ev"
      try (refine lf_sub s0 rfl rfl ?_; walk_at "ev")
      rw [dd]
      walk_at "ev"
      try (refine lf_sub s1 rfl rfl ?_; walk_at "ev")
      (refine call_of (e29) rfl ?_; walk_at "nrm")
      walk_at "ev"
      refine lf_cmp eq_nlS rfl rfl ?_
      walk_at "ev"
      exact ⟨g3, h5.mono (by simp), rfl, rfl, rfl⟩
end
end Ev

set_option Elab.async false
set_option linter.all false
set_option maxRecDepth 100000
set_option maxHeartbeats 8000000
/-! X19: the law (47). Own work. -/
namespace Ev
local macro_rules | `(tactic| walk_at "side") => `(tactic| first | assumption | omega | (have hLIM := LIM_n; have hB62 := B62_eq; have hB63 := B63_eq; (try simp only [List.length_append, List.length_cons, List.length_nil, List.length_map, List.length_reverse, List.length_replicate]); omega))
local macro_rules | `(tactic| walk_at "nrm") => `(tactic| try dsimp only [vrOf, frzAt, backAt, List.take_succ_cons, List.take_zero, allSome, List.set_cons_zero, List.set_cons_succ, outsTo, lockL, lockS, unlockL, unlockS, En.get, List.getElem?_cons_zero, List.getElem?_cons_succ, wipeE, backE])
local macro_rules | `(tactic| walk_at "ev1") => `(tactic| first
  | refine ok_lit ?_
  | refine ok_var rfl ?_
  | refine ok_bin ?_
  | refine ok_cmp ?_
  | refine ok_call ?_
  | refine ok_bi ?_
  | refine ok_sub ?_
  | refine oks_cons ?_
  | refine oks_nil ?_
  | refine ok_and ?_
  | refine ok_or ?_
  | refine ok_not ?_
  | refine ok_ifx ?_
  | refine ok_app rfl ?_
  | refine ok_mth (by decide) ?_
  | refine ok_sl ?_
  | refine ok_rev ?_
  | refine ok_lst ?_
  | refine ok_tup ?_
  | refine ok_dict0 ?_
  | refine ok_lrng1 ?_
  | refine okt_val ?_
  | refine okt_not ?_
  | refine okt_and ?_
  | refine okt_or ?_
  | refine okts_nil ?_
  | refine okts_cons ?_
  | refine oki_seq ?_
  | refine oki_rng1 ?_
  | refine oki_rng2 ?_
  | refine oki_enum ?_
  | refine oki_zip ?_
  | refine oki_back ?_
  | refine okz_nil ?_
  | refine oks_expr ?_
  | refine oks_set ?_
  | refine oks_par ?_
  | refine oks_unp ?_
  | refine unp_intro rfl rfl rfl ?_
  | refine oks_ret ?_
  | refine oks_iff ?_
  | refine oks_for ?_
  | refine oks_while ?_
  | refine ok_keep_v ?_
  | refine ok_keep_o ?_
  | (refine ok_keep_s rfl ?_; walk_at "nrm")
  | refine okk_nil ?_
  | refine okk_cons ?_
  | refine okl_nil ?_
  | refine okl_v ?_
  | refine okl_o ?_
  | (refine okl_s rfl ?_; walk_at "nrm")
  | (refine ok_store_v (Nat.le_of_ble_eq_true rfl) ?_; walk_at "nrm")
  | (refine ok_store_o (Nat.le_of_ble_eq_true rfl) ?_; walk_at "nrm")
  | (refine ok_store_s (Nat.le_of_ble_eq_true rfl) rfl ?_; walk_at "nrm")
  | refine lf_add_int rfl rfl ?_
  | refine lf_sub_int rfl rfl ?_
  | refine lf_add_str rfl rfl (by walk_at "side") ?_
  | refine lf_add_lst rfl rfl (by walk_at "side") ?_
  | refine lf_lt_int rfl rfl ?_
  | refine lf_gt_int rfl rfl ?_
  | refine lf_le_int rfl rfl ?_
  | refine lf_ge_int rfl rfl ?_
  | refine lf_eq_int rfl rfl ?_
  | refine lf_ne_int rfl rfl ?_
  | refine lf_eq_str rfl rfl ?_
  | refine lf_ne_str rfl rfl ?_
  | refine lf_isin_ch rfl rfl ?_
  | refine lf_notin_ch rfl rfl ?_
  | refine lf_is_non rfl rfl (fun b h => nomatch h) ?_
  | refine lf_isnot_non rfl rfl (fun b h => nomatch h) ?_
  | refine lf_mod rfl rfl (by walk_at "side") ?_
  | refine ⟨fun _ => ?_, fun h => no_tf h⟩
  | refine ⟨fun h => no_ft h, fun _ => ?_⟩
  | refine ⟨fun _ => ?_, fun h => no_ft h⟩
  | refine ⟨fun h => no_tf h, fun _ => ?_⟩
  | refine ⟨fun _ => ?_, fun h => absurd (by walk_at "side") (of_decide_eq_false h)⟩
  | refine ⟨fun h => absurd (of_decide_eq_true h) (by walk_at "side"), fun _ => ?_⟩
  | refine ⟨fun _ => ?_, fun h => absurd (of_decide_eq_true h) (by walk_at "side")⟩
  | refine ⟨fun h => absurd (by walk_at "side") (of_decide_eq_false h), fun _ => ?_⟩
  | refine ⟨fun _ => ?_, fun h => absurd (nd_f h) (by walk_at "side")⟩
  | refine ⟨fun h => absurd (by walk_at "side") (nd_t h), fun _ => ?_⟩
  | refine ⟨fun _ => ?_, fun h => absurd (by walk_at "side") (nd_t h)⟩
  | refine ⟨fun h => absurd (nd_f h) (by walk_at "side"), fun _ => ?_⟩
  | (refine nx_nx ?_)
  | (refine nx_rt ?_)
  | refine retq_v ?_
  | refine retq_o ?_
  | refine retq_w rfl rfl ?_
  | (refine retq_p rfl rfl ?_; walk_at "nrm")
  | (refine retq_f rfl ?_; walk_at "nrm")
  | (refine fin_rt rfl rfl ?_; walk_at "nrm")
  | (refine fin_nx rfl rfl ?_; walk_at "nrm")
  | refine cl_intro rfl rfl rfl ?_
  | (refine ⟨_, _, _, rfl, rfl, rfl, ?_⟩; simp only [frzDup, List.any_cons, List.any_nil, Nat.reduceBEq, beq_self_eq_true, Bool.or_false, Bool.or_true, Bool.true_or, if_true, Bool.false_eq_true, if_false, En.get, List.getElem?_cons_zero, List.getElem?_cons_succ, List.set_cons_zero, List.set_cons_succ])
  | refine ⟨_, _, rfl, rfl, ?_⟩
  | refine ⟨_, _, _, _, rfl, rfl, rfl, rfl, ?_⟩
  | refine lim_intro (by walk_at "side") ?_)
local macro_rules | `(tactic| walk_at "ev") => `(tactic| ((repeat walk_at "ev1"); walk_at "nrm"))
local macro_rules | `(tactic| walk_at "unl") => `(tactic| simp only [unlockL, unlockS, lockL, lockS, En.get, List.getElem?_cons_zero, List.getElem?_cons_succ, List.set_cons_zero, List.set_cons_succ, eq_self, if_true])
def axN (n : Nat) : List Nat := (List.replicate n [97, 120]).flatten
def xaN (n : Nat) : List Nat := (List.replicate n [120, 97]).flatten
def farL : List D := [.str (xaN 80), .str ([97, 120] ++ xaN 79), .lst (nl [159, 0]), .lst (nl [79, 0])]
def toldL : List D := [.str [98, 121, 99, 120, 97], .str [98, 120, 99, 121, 97], .lst [.int 1, .int 3], .lst [.int 0, .int 0], .str [99, 99, 120, 97, 97, 120, 98, 98], .str [97, 98, 99], .str []]
theorem far_ne : qC .ne (.lst farL) (.lst farL) = some false := by rw [qC_eq]; decide +kernel
theorem told_val : Val (.lst toldL) := by
  refine ⟨by decide +kernel, fun xs e => ?_, by decide +kernel, by decide +kernel, by decide +kernel⟩
  cases e
  decide +kernel
theorem ax_mul {n : Nat} (h : n ≤ 1000) : 0 ≤ (n : Int) ∧ (n : Int) < 1000000 ∧ [97, 120].length * (n : Int).toNat ≤ LIM := by
  have hL := LIM_n
  refine ⟨by omega, by omega, ?_⟩
  rw [Int.toNat_natCast]
  show 2 * n ≤ _
  omega
theorem opr1 : opR [120] (axN 80) [159, 0] := ⟨by decide +kernel, by decide +kernel, by decide +kernel, by decide +kernel, trivial⟩
theorem opr2 : opR [120, 121] [97, 120, 98, 121, 99] [1, 1] := ⟨by decide +kernel, by decide +kernel, by decide +kernel, by decide +kernel, trivial⟩
theorem far6 : ledO [120] [97, 97, 120, 98, 98, 120, 99, 99] [0] (10 ^ 20 + 1) = [99, 99, 120, 97, 97, 120, 98, 98] := by
  rw [← ledO_mod (o := 6) (by decide) (by decide +kernel)]
  decide +kernel
section
variable {Δ : Tab} (K : Kb Δ)
include K
theorem law71 (k : Nat) (ns : List Int) : Phi Δ (k + 9) 47 [⟨.fz, .scr ns⟩] = .ret false (.bl true) [⟨.fz, .scr ns⟩] := by
  have hL := LIM_n
  have hB := B62_eq
  have a1 := dn74 K (k + 3) (w := axN 80) (j := [120]) (ks := [79]) (md := .own) (by decide +kernel) (by decide +kernel) (by decide) (by decide) (by decide +kernel) (by decide)
  rw [show led [120] (axN 80) [79] = xaN 80 by decide +kernel] at a1
  have a2 := do74 K (k + 3) (w := axN 80) (j := [120]) (ks := [79]) (md := .own) (t := 2) (by decide +kernel) (by decide +kernel) (by decide) (by decide) (by decide +kernel) (by decide) (Nat.lt_of_lt_of_le (m := 2 ^ 8) (by decide) (Nat.pow_le_pow_right (by decide) (by decide)))
  rw [show ledO [120] (axN 80) [79] 2 = [97, 120] ++ xaN 79 by decide +kernel] at a2
  have a3 := rd71 K (k + 3) (w := axN 80) (j := [120]) (ks := [79, 0]) (md := .own) (by decide +kernel) (by decide) (by decide) (by decide +kernel) (by decide +kernel) (by decide)
  rw [show roadI [120] (axN 80) [79, 0] = [159, 0] by decide +kernel] at a3
  have a4 := nm71 K (k + 3) (w := axN 80) (j := [120]) (qs := [159, 0]) (md := .own) (by decide +kernel) (by decide) (by decide) (by decide +kernel) opr1 (by decide)
  rw [show numI [120] (axN 80) [159, 0] = [79, 0] by decide +kernel] at a4
  have b1 := dn74 K (k + 3) (w := [97, 120, 98, 121, 99]) (j := [120, 121]) (ks := [0]) (md := .own) (by decide +kernel) (by decide +kernel) (by decide) (by decide) (by decide +kernel) (by decide)
  rw [show led [120, 121] [97, 120, 98, 121, 99] [0] = [98, 121, 99, 120, 97] by decide +kernel] at b1
  have b2 := dn74 K (k + 3) (w := [97, 120, 98, 121, 99]) (j := [120, 121]) (ks := [1, 1]) (md := .own) (by decide +kernel) (by decide +kernel) (by decide) (by decide) (by decide +kernel) (by decide)
  rw [show led [120, 121] [97, 120, 98, 121, 99] [1, 1] = [98, 120, 99, 121, 97] by decide +kernel] at b2
  have b3 := rd71 K (k + 3) (w := [97, 120, 98, 121, 99]) (j := [120, 121]) (ks := [0, 1]) (md := .own) (by decide +kernel) (by decide) (by decide) (by decide +kernel) (by decide +kernel) (by decide)
  rw [show roadI [120, 121] [97, 120, 98, 121, 99] [0, 1] = [1, 3] by decide +kernel] at b3
  have b4 := nm71 K (k + 3) (w := [97, 120, 98, 121, 99]) (j := [120, 121]) (qs := [1, 1]) (md := .own) (by decide +kernel) (by decide) (by decide) (by decide +kernel) opr2 (by decide)
  rw [show numI [120, 121] [97, 120, 98, 121, 99] [1, 1] = [0, 0] by decide +kernel] at b4
  have b5 := do74 K (k + 3) (w := [97, 97, 120, 98, 98, 120, 99, 99]) (j := [120]) (ks := [0]) (md := .own) (t := 10 ^ 20 + 1) (by decide +kernel) (by decide +kernel) (by decide) (by decide) (by decide +kernel) (by decide) (Nat.lt_of_lt_of_le (m := 2 ^ 100) (by decide) (Nat.pow_le_pow_right (by decide) (by decide)))
  rw [far6] at b5
  have b6 := dn74 K (k + 3) (w := [97, 98, 99]) (j := []) (ks := []) (md := .own) (by decide +kernel) (by decide +kernel) (by decide) (by decide) (by decide +kernel) (by decide)
  rw [show led [] [97, 98, 99] [] = [97, 98, 99] by decide +kernel] at b6
  have b7 := dn74 K (k + 3) (w := []) (j := [120]) (ks := []) (md := .own) (by decide +kernel) (by decide +kernel) (by decide) (by decide) (by decide +kernel) (by decide)
  rw [show led [120] [] [] = [] by decide +kernel] at b7
  obtain ⟨a, b, ha0, ha1, hb0, hb1, g2⟩ := gen_ok K.h34 K.h35 (k + 6) (ns := ns) (i := 2) ⟨by omega, by omega⟩
  have hg2 : Gen 100 (genD a b (1000 * 2)) := ⟨a, b, _, rfl, ⟨ha0, ha1⟩, ⟨hb0, by omega⟩, by omega, by omega⟩
  generalize genD a b (1000 * 2) = gg at g2 hg2
  obtain ⟨gz, _, e46⟩ := mm71 K k (m := 0) hg2
  apply CR.Ok.eq
  (refine ok_phi (K.h47) ⟨rfl, by decide⟩ ?_; simp only [frzAt, List.map_cons, List.map_nil, Nat.reduceSub, List.reduceReplicate, List.cons_append, List.nil_append, List.getElem?_cons_zero, List.getElem?_cons_succ, List.set_cons_zero, List.set_cons_succ, List.append_nil])
  walk_at "ev"
  refine ⟨2, rfl, by decide, ?_⟩
  have er : rngD 0 2 = nl (List.range 2) := rng_nl (m := 2)
  rw [er]
  refine ok_forN 2 (fun i ρ => ∃ x1, ρ = [some ⟨.fz, .scr ns⟩, x1, none, none]) ⟨none, rfl⟩ ?_ ?_
  · rintro i hi ρ ⟨x1, rfl⟩
    obtain ⟨a, b, ha0, ha1, hb0, hb1, e1⟩ := gen_ok K.h34 K.h35 (k + 6) (ns := ns) (i := (i : Nat)) ⟨by omega, by omega⟩
    have hg : Gen 100 (genD a b (1000 * (i : Nat))) := ⟨a, b, _, rfl, ⟨ha0, ha1⟩, ⟨hb0, by omega⟩, by omega, by omega⟩
    generalize genD a b (1000 * (i : Nat)) = g0 at e1 hg
    obtain ⟨g1, _, e2⟩ := rt71 K k (m := 20) hg
    refine ok_withTg rfl ?_
    walk_at "nrm"
    unfold bb47_0
    walk_at "ev"
    (refine call_of (e1) rfl ?_; walk_at "nrm")
    walk_at "ev"
    (refine call_of (e2) rfl ?_; walk_at "nrm")
    walk_at "ev"
    exact ⟨_, rfl⟩
  · rintro ρ ⟨x1, rfl⟩
    walk_at "nrm"
    walk_at "ev"
    (refine call_of (g2) rfl ?_; walk_at "nrm")
    walk_at "ev"
    (refine call_of (e46) rfl ?_; walk_at "nrm")
    walk_at "ev"
    refine lf_mul_str rfl rfl (ax_mul (n := 80) (by decide)) ?_
    walk_at "ev"
    (refine call_of (a1) rfl ?_; walk_at "nrm")
    walk_at "ev"
    refine lf_mul_str rfl rfl (ax_mul (n := 80) (by decide)) ?_
    walk_at "ev"
    (refine call_of (a2) rfl ?_; walk_at "nrm")
    walk_at "ev"
    refine lf_mul_str rfl rfl (ax_mul (n := 80) (by decide)) ?_
    walk_at "ev"
    (refine call_of (a3) rfl ?_; walk_at "nrm")
    walk_at "ev"
    refine lf_mul_str rfl rfl (ax_mul (n := 80) (by decide)) ?_
    walk_at "ev"
    (refine call_of (a4) rfl ?_; walk_at "nrm")
    walk_at "ev"
    refine lf_mul_str rfl rfl (ax_mul (n := 80) (by decide)) ?_
    walk_at "ev"
    refine lf_mul_str rfl rfl (ax_mul (n := 79) (by decide)) ?_
    refine lf_add_str rfl rfl (by decide +kernel) ?_
    walk_at "ev"
    refine lf_cmp far_ne rfl rfl ?_
    walk_at "ev"
    (refine call_of (b1) rfl ?_; walk_at "nrm")
    walk_at "ev"
    (refine call_of (b2) rfl ?_; walk_at "nrm")
    walk_at "ev"
    (refine call_of (b3) rfl ?_; walk_at "nrm")
    walk_at "ev"
    (refine call_of (b4) rfl ?_; walk_at "nrm")
    walk_at "ev"
    refine lf_bin (op := .pow) (d := .int 10) (e := .int 20) (r := .v (.int ((10 ^ 20 : Nat) : Int))) (pow10 20 (by decide)) rfl rfl ?_
    walk_at "ev"
    (refine call_of (b5) rfl ?_; walk_at "nrm")
    walk_at "ev"
    (refine call_of (b6) rfl ?_; walk_at "nrm")
    walk_at "ev"
    (refine call_of (b7) rfl ?_; walk_at "nrm")
    walk_at "ev"
    refine lf_bi (repr_val told_val) rfl ?_
    walk_at "ev"
    refine lf_bi (repr_val told_val) rfl ?_
    walk_at "ev"
    exact ⟨rfl, by rw [decide_eq_true rfl], rfl⟩
end
end Ev

set_option Elab.async false
set_option linter.all false
set_option maxRecDepth 100000
set_option maxHeartbeats 0
namespace Lw
open PySem PySem.Spec PyProof.Rows L2 Ev
def tab : Tab := tabFrom 60 gl sg 0 lst
def lev : Nat := 17
theorem k3 : Kb tab := by
  constructor <;> kernel_rfl
theorem says (ns : List Int) (h : ns.length ≤ 63) : Says (Phi tab lev) 47 ns := ⟨_, _, law71 k3 8 ns⟩
theorem finish {P : Program} {w : World} {K : PySem.W.Frag} {h : Heap} {mg : Str → Option Value} {f : Addr} (KX : K.In h) (G : h.Ns mainGlobals mg) (c : SaysB fa (lst.map (·.1)) (bfOf gl) K) (hmg : mg (Str.ofString "law") = some (.ref f)) :
    ∃ (g : Gi) (Φ : Fns) (n : Nat) (fd : FuncData), g.K.In h ∧ (∀ (s : Shared) (u : Value), BindsTo s fd ⟨[u], []⟩ [(Str.ofString "script", u)]) ∧ (∀ b : Heap, g.K.In b → b.Ns mainGlobals mg → FnG P w g.K mg b g Φ lev f fd [Str.ofString "script"] n) ∧ ∀ ns : List Int, ns.length ≤ 63 → Says Φ n ns := by
  have hq : ∃ q, lst[47]? = some q ∧ q.1.name = Str.ofString "law" ∧ q.2.ps = [Str.ofString "script"] ∧ q.1.at_ = (q.1.name, none) := by
    have e : ((lst[47]?).map fun q => (q.1.name, q.2.ps, q.1.at_)) = some (Str.ofString "law", [Str.ofString "script"], (Str.ofString "law", none)) := by decide +kernel
    cases hl : lst[47]? with
    | none => rw [hl] at e; cases e
    | some q =>
      rw [hl] at e
      have e := Option.some.inj e
      exact ⟨q, rfl, congrArg (·.1) e, congrArg (·.2.1) e, (show q.1.at_ = (Str.ofString "law", none) from congrArg (·.2.2) e).trans (by rw [show q.1.name = Str.ofString "law" from congrArg (·.1) e])⟩
  obtain ⟨q, hl, e1, e2, e3⟩ := hq
  exact law_F (P := P) (w := w) (fuel := 60) (Δ := tab) hl e2 e3 (by decide +kernel) (by rw [e1]; exact List.mem_of_getElem? (i := 47) rfl) (fun e h hb => List.mem_map_of_mem (List.mem_filter.mpr ⟨h, by rw [hb] <;> rfl⟩)) gl_ok fi_ok (by rw [snd_ok]; exact sg_ok) rfl says KX G c (by rw [e1]; exact hmg)
end Lw
open PySem PySem.W PySem.Calls PyProof.Rows
theorem PySem.Challenge.cw_chanceswaps_k71_whole_joints_by_numbers_holds : PySem.Challenge.rw_chanceswaps_k71_whole_joints_by_numbers.Holds := by
  w_on; o_law
  refine HandSHeadRun.head_imp (r := OpenLaw.row PySem.Challenge.rw_chanceswaps_k71_whole_joints_by_numbers) (q := view (OpenLaw.row PySem.Challenge.rw_chanceswaps_k71_whole_joints_by_numbers).prog [0, 64]) (H := Lw.hk) (ob := Lw.ob) (M := 20000) (loose := Lw.names) (d := HandSHeadRun.topDef (OpenLaw.row PySem.Challenge.rw_chanceswaps_k71_whole_joints_by_numbers).prog 64) (kwd := []) Lw.ob_eq
    Lw.run (by kernel_rfl) (by kernel_rfl) (by kernel_rfl) (by rfl) (by first | assumption | decide +kernel) (by decide +kernel) ⟨rfl, rfl, rfl, rfl, rfl, by decide +kernel⟩ ?hw ?hc
  case hw => w_witness2
  case hc =>
    refine Ev.walk_g (l := PySem.Challenge.rw_chanceswaps_k71_whole_joints_by_numbers) (m := 63) (k := Lw.lev) (x := "script") rfl (by decide) (by kernel_rfl) ⟨rfl, by decide, by decide⟩ ?F
    intro w mg fa h Y G hmg0
    obtain ⟨K, KX, c⟩ := Y
    have hmg : mg ("law" : PySem.Str) = some (.ref fa) := by
      have e : (HandSHeadRun.topDef (OpenLaw.row PySem.Challenge.rw_chanceswaps_k71_whole_joints_by_numbers).prog 64).name = ("law" : PySem.Str) := by kernel_rfl
      rw [← e]
      exact hmg0
    exact Lw.finish KX G c hmg

