import PyProof.Rows.All
import Wide.All
import OpenK.AllK
import Wide.FinOn
import HandS.Base
import HandS.List
import HandS.ForMost
import HandS.ForExc
import KE.KeyNested
import HandS.Lambda
import HandS.Conv
import HandS.Small
import KE.KDictKeyed
import HandS.WideBits
import HandS.IsInst
import HandS.Deep
import HandS.Flow
import HandS.TupAny
import KE.DataMinMax
import KE.SortData
import HandS.More
import HandS.Style
import HandS.ExcInit
import HandS.ExcField
import HandS.WordsExc
import HandS.OwnEq
import PyProof.Rows.Range3
import KE.GoesEnum
import HandS.DictComp
import HandS.TryOnly
import HandS.EndOwn
import HandS.Star
import HandS.Ends
import KE.KStateDown
import HandS.Call
import HandS.Words
import HandS.Defaults
import HandS.Head0
import HandS.Head1
import HandS.Head2
import HandS.HeadEnd
import HandS.HeadHook1
import HandS.HeadHook2
import HandS.HeadHook3
import HandS.HeadHook4
import HandS.HeadWalk
import PySem.Challenge.RW_pointorstrip_k56_whole_parting
set_option Elab.async false
set_option linter.all false
set_option maxRecDepth 100000
set_option Elab.async false
set_option linter.all false
set_option maxRecDepth 100000
/-! RxY: sum of a tuple of ints. -/
namespace Rx
open PySem PySem.Spec PyProof.Rows L2
section
variable {prog : Program} {w : World} {A : Around} {E : Value → Shared → Prop} {s : Shared} {l : Addr} {its : List Value} {ns : List Int} {Q : Value → Shared → Prop}
theorem sum_rawT (hh : A.handled = none) (hl : s.heap.IsTuple l its.toArray) (hi : IntsAre its ns)
    (h : ∀ h' tk t', (∀ b o, s.heap.get? b = some o → h'.get? b = some o) → Q (.int ns.sum t') { s with heap := h', toks := tk }) : wpAny (model prog w) A (call (.builtin "sum") [.ref l]) Q E s := by
  obtain ⟨xs, e⟩ := hi.allInts.items
  have hn : numsOf (intItems xs).toList = ns := by rw [← e]; exact hi.numsOf
  rw [nums_intItems] at hn
  rw [e] at hl
  have hlt : l < s.heap.objs.size := by obtain ⟨o, e, _⟩ := id hl; exact Heap.lt_size e
  refine call_sum_walkG (wpAny_pyIter_tuple hl ?_)
  refine ⟨_, _, _, _, _, _, numAt xs, rfl, Walks.tuple (A := A.in1) hh s.heap.objs.size l (Nat.ne_of_lt hlt) (intItems xs), ⟨⟨_, Heap.get?_push_size _ rfl, rfl, rfl⟩, hl.push _⟩, fun b hb => ?_, (fun _ _ => intItems_at), fun h' tk t' hk => ?_⟩
  · have hb' : b = s.heap.objs.size ∨ b = l := by simpa using hb
    show b < (s.heap.push _).objs.size
    rw [Heap.size_push]
    rcases hb' with rfl | rfl
    · exact Nat.lt_succ_self _
    · exact Nat.lt_succ_of_lt hlt
  · have := h h' tk t' fun b o e => hk b o (by
      have := Heap.lt_size e
      simp
      exact Nat.ne_of_lt this) (Heap.get?_push_of_some _ e)
    rw [show (intItems xs).size = xs.size by simp [intItems], preSum_eq, List.take_of_length_le (by simp), hn]
    exact this
end
section
variable {X : Cx}
def rSumA (K : PySem.W.Frag) : List V → Hp → VK → Prop := fun vs H Q => ∃ (a : Addr) (ns : List Int), vs = [V.ref a] ∧ (SqL K H a (ns.map V.int) ∨ SqT K H a (ns.map V.int)) ∧ Q (.int ns.sum) H
theorem cr_sumA (hc : X.calm = true) : CallR X (.builtin "sum") (rSumA X.K) := by
  intro pins s σ H vs us Q I r h
  obtain ⟨a, ns, rfl, hs, q⟩ := h
  rw [Vals.ref1 r]
  rcases hs with hs | hs
  · obtain ⟨its, rv, hl, _⟩ := I.list hs
    exact sum_raw (I.ok.hd hc) hl.isList rv.ints fun h' tk t' hk => ⟨.int _, H, I.kept hk, ⟨_, rfl⟩, q⟩
  · obtain ⟨its, rv, hl, _⟩ := I.tuple hs
    exact sum_rawT (I.ok.hd hc) hl rv.ints fun h' tk t' hk => ⟨.int _, H, I.kept hk, ⟨_, rfl⟩, q⟩
end
end Rx

set_option Elab.async false
set_option linter.all false
set_option maxRecDepth 100000
/-! Rx1: data, the small language, its evaluator. -/
namespace Rx
open PySem

/-- a key of a dict: an int or a text -/
abbrev Kk := Sum Int Str
inductive D where
  | non | bl (b : Bool) | int (i : Int) | str (x : Str)
  | tup (xs : List D) | lst (xs : List D)
  | scr (ns : List Int)
  | ins (c : Nat) (fs : List (Nat × D))
  | dic (ks : List (Kk × D))
  | dit (ks : List (NestedKey × D))

inductive Sl where
  | frz (d : D)
  | own (d : D)
def Sl.d : Sl → D
  | .frz d => d
  | .own d => d
abbrev Env := List (Option Sl)

inductive R (α : Type) where
  | ok (a : α)
  | exc (c : Nat) (fs : List (Nat × D))
  | stuck
def R.bind {α β : Type} : R α → (α → R β) → R β
  | .ok a, f => f a
  | .exc c fs, _ => .exc c fs
  | .stuck, _ => .stuck
@[simp] theorem R.ok_bind {α β : Type} (a : α) (f : α → R β) : (R.ok a).bind f = f a := rfl
@[simp] theorem R.exc_bind {α β : Type} (c : Nat) (fs : List (Nat × D)) (f : α → R β) : (R.exc c fs : R α).bind f = .exc c fs := rfl
@[simp] theorem R.stuck_bind {α β : Type} (f : α → R β) : (R.stuck : R α).bind f = .stuck := rfl
def R.calm {α : Type} : R α → R α
  | .exc _ _ => .stuck
  | r => r
def R.of {α : Type} : Option α → R α
  | some a => .ok a
  | none => .stuck

/-! ### data -/
mutual
def D.eqv : D → D → Bool
  | .non, .non => true
  | .bl a, .bl b => a == b
  | .bl a, .int j => (if a then 1 else 0) == j
  | .int i, .bl b => i == (if b then 1 else 0)
  | .int i, .int j => i == j
  | .str x, .str y => x == y
  | .lst xs, .lst ys => D.eqvs xs ys
  | .tup xs, .tup ys => D.eqvs xs ys
  | _, _ => false
def D.eqvs : List D → List D → Bool
  | [], [] => true
  | x :: xs, y :: ys => D.eqv x y && D.eqvs xs ys
  | _, _ => false
end
mutual
/-- plain data of at most n levels -/
def D.plain (n : Nat) : D → Bool
  | .non => true
  | .bl _ => true
  | .int _ => true
  | .str x => PyData.strOk x
  | .tup xs => match n with
    | 0 => false
    | n + 1 => D.plains n xs
  | .lst xs => match n with
    | 0 => false
    | n + 1 => D.plains n xs
  | .scr _ => false
  | .ins _ _ => false
  | .dic _ => false
  | .dit _ => false
def D.plains (n : Nat) : List D → Bool
  | [] => true
  | x :: xs => D.plain n x && D.plains n xs
end
mutual
/-- a part of a tuple that is a key -/
def keyN : D → Option NestedKey
  | .non => some .none
  | .int i => some (.num i)
  | .str x => some (.text x)
  | .tup xs => (keysN xs).map .tup
  | _ => none
def keysN : List D → Option (List NestedKey)
  | [] => some []
  | x :: xs => (keyN x).bind fun k => (keysN xs).map (k :: ·)
end
/-- a tuple that is a key -/
def keyT : D → Option NestedKey
  | .tup xs => match keysN xs with
    | some ks => if (NestedKey.tup ks).depth ≤ 8 then some (.tup ks) else none
    | none => none
  | _ => none
mutual
def keyB : NestedKey → D
  | .none => .non
  | .num i => .int i
  | .text x => .str x
  | .tup ks => .tup (keysB ks)
def keysB : List NestedKey → List D
  | [] => []
  | k :: ks => keyB k :: keysB ks
end
def keyD : D → Option Kk
  | .int i => some (.inl i)
  | .str x => some (.inr x)
  | _ => none
def kkB : Kk → D
  | .inl i => .int i
  | .inr x => .str x
section
variable {κ : Type} [DecidableEq κ]
def getK (ks : List (κ × D)) (k : κ) : Option D := (ks.find? fun kv => decide (kv.1 = k)).map (·.2)
def setK (ks : List (κ × D)) (k : κ) (v : D) : List (κ × D) :=
  if (ks.any fun kv => decide (kv.1 = k)) = true then ks.map (fun kv => if kv.1 = k then (kv.1, v) else kv) else ks ++ [(k, v)]
end
def asInts : List D → Option (List Int)
  | [] => some []
  | .int i :: r => (asInts r).map (i :: ·)
  | _ :: _ => none
def asBls : List D → Option (List Bool)
  | [] => some []
  | .bl i :: r => (asBls r).map (i :: ·)
  | _ :: _ => none
def elems : D → Option (List D)
  | .tup xs => some xs
  | .lst xs => some xs
  | _ => none
def szOk (n : Nat) : Bool := decide (n ≤ sizeLine)

/-! ### the language -/
inductive Bop where
  | add | sub | mul | fdiv | mod | pow | shl | shr
inductive Cop where
  | lt | le | gt | ge | isn | notn | inn | nin
inductive Ty where
  | int | bool | str | tuple | list | cls (c : Nat)
inductive Bi where
  | len | int | abs | min | max | sum | all | any | tuple | list | divmod
/-- methods of built-in things that only look -/
inductive Bm where
  | get
inductive Op where
  | bin (o : Bop) | cmp (o : Cop) | ix | attr (f : Nat) | tup | lst | inst (ts : List Ty) | neg | bi (b : Bi)
  | slc (lo hi : Bool)
  | dnew (t : Bool) | dsp | rev | lrng | maxd
inductive Cn where
  | non | bl (b : Bool) | int (i : Int) | str (x : Str)
def Cn.d : Cn → D
  | .non => .non
  | .bl b => .bl b
  | .int i => .int i
  | .str x => .str x
mutual
inductive Tg where
  | var (i : Nat)
  | fld (j f : Nat)
  | tup (ts : Tgs)
inductive Tgs where
  | nil
  | cons (t : Tg) (ts : Tgs)
end
/-- what is walked: a range; a list or a tuple; enumerate of a list; zip of two lists -/
inductive Ik where
  | rng | seq | enm | zip
mutual
inductive Ex where
  | var (i : Nat)
  | con (c : Cn)
  | glb (j : Nat)
  | op (o : Op) (as : Exs)
  | chn (o p : Cop) (a b c : Ex)
  | and (a b : Ex)
  | or (a b : Ex)
  | not (a : Ex)
  | tru (a : Ex)
  | eqv (neg : Bool) (as : Exs)
  | ife (c a b : Ex)
  | call (f : Nat) (as : Exs)
  | make (c : Nat) (as : Exs)
  | meth (m : Nat) (o as : Exs)
  | bm (m : Bm) (o as : Exs)
  | lc (t : Tg) (vs : List Nat) (k : Ik) (as : Exs) (cs : Exs) (e : Ex)
  | flt (f : Nat) (fz : List Nat) (e : Ex)
  | cat (tp : Bool) (fl : List Bool) (as : Exs)
  | dc (t : Tg) (vs : List Nat) (k : Ik) (as : Exs) (cs : Exs) (kx vx : Ex)
  | lc2 (t : Tg) (vs : List Nat) (k : Ik) (as : Exs) (cs : Exs) (t1 : Tg) (vs1 : List Nat) (k1 : Ik) (as1 : Exs) (cs1 : Exs) (e : Ex)
inductive Exs where
  | nil
  | cons (a : Ex) (as : Exs)
  | bor (i : Nat) (as : Exs)
end
mutual
inductive Sm where
  | set (i : Nat) (e : Ex)
  | asg (t : Tg) (e : Ex)
  | par (is : List Nat) (as : Exs)
  | aug (i : Nat) (o : Bop) (e : Ex)
  | put (j : Nat) (k e : Ex)
  | augs (j : Nat) (k : Ex) (o : Bop) (e : Ex)
  | app (j : Nat) (e : Ex)
  | ex (e : Ex)
  | ret (e : Ex)
  | retN
  | ife (c : Ex) (a b : Sms)
  | for_ (t : Tg) (k : Ik) (as : Exs) (b : Sms)
  | whl (c : Ex) (b : Sms)
  | rai (c : Nat) (as : Exs)
  | pass
  | brk
  | cnt
inductive Sms where
  | nil
  | cons (s : Sm) (r : Sms)
end

/-! ### operations -/
def mulOk (i j : Int) : Bool := decide (i.natAbs.log2 + j.natAbs.log2 + 2 ≤ 134217728)
def divOk (j : Int) : Bool := decide (j ≠ 0) && decide (j.natAbs.log2 < 9000)
def powOk (i j : Int) : Bool := decide (0 ≤ j) && decide (j ≤ 1000000) && decide (i.natAbs < 18446744073709551616)
def addD : D → D → R Sl
  | .int i, .int j => .ok (.frz (.int (i + j)))
  | .tup xs, .tup ys => if szOk (xs.length + ys.length) then .ok (.frz (.tup (xs ++ ys))) else .stuck
  | .lst xs, .lst ys => if szOk (xs.length + ys.length) then .ok (.own (.lst (xs ++ ys))) else .stuck
  | _, _ => .stuck
def subD : D → D → R Sl
  | .int i, .int j => .ok (.frz (.int (i - j)))
  | _, _ => .stuck
def mulD : D → D → R Sl
  | .int i, .int j => if mulOk i j then .ok (.frz (.int (i * j))) else .stuck
  | .lst xs, .int j => if decide (-(2 ^ 63) ≤ j) && decide (j < 2 ^ 63) && szOk (xs.length * j.toNat) then .ok (.own (.lst (List.replicate j.toNat xs).flatten)) else .stuck
  | _, _ => .stuck
def fdivD : D → D → R Sl
  | .int i, .int j => if divOk j then .ok (.frz (.int (i.fdiv j))) else .stuck
  | _, _ => .stuck
def modD : D → D → R Sl
  | .int i, .int j => if j = 0 then .stuck else .ok (.frz (.int (i.fmod j)))
  | _, _ => .stuck
def powD : D → D → R Sl
  | .int i, .int j => if powOk i j then .ok (.frz (.int (i ^ j.toNat))) else .stuck
  | _, _ => .stuck
def shlD : D → D → R Sl
  | .int i, .int j => if decide (0 ≤ j) && decide (i.natAbs.log2 + j.toNat + 2 ≤ 134217728) then .ok (.frz (.int (i * 2 ^ j.toNat))) else .stuck
  | _, _ => .stuck
def shrD : D → D → R Sl
  | .int i, .int j => if decide (0 ≤ j) then .ok (.frz (.int (i / 2 ^ j.toNat))) else .stuck
  | _, _ => .stuck
def Bop.ap : Bop → D → D → R Sl
  | .add => addD
  | .sub => subD
  | .mul => mulD
  | .fdiv => fdivD
  | .mod => modD
  | .pow => powD
  | .shl => shlD
  | .shr => shrD
mutual
/-- an int (0), a tuple of such of a level below -/
def D.u (n : Nat) : D → Bool
  | .int _ => n == 0
  | .tup xs => match n with
    | 0 => false
    | n + 1 => D.us n xs
  | _ => false
def D.us (n : Nat) : List D → Bool
  | [] => true
  | x :: xs => D.u n x && D.us n xs
end
mutual
def D.ltx : D → D → Bool
  | .int i, .int j => decide (i < j)
  | .tup xs, .tup ys => D.ltxs xs ys
  | _, _ => false
def D.ltxs : List D → List D → Bool
  | [], [] => false
  | [], _ :: _ => true
  | _ :: _, [] => false
  | x :: xs, y :: ys => if x.eqv y then D.ltxs xs ys else D.ltx x y
end
def uni (x y : D) : Bool := (x.u 1 && y.u 1) || (x.u 2 && y.u 2)
def uniL (xs : List D) : Bool := D.us 0 xs || D.us 1 xs || D.us 2 xs
def ltD : D → D → R Bool
  | .int i, .int j => .ok (decide (i < j))
  | x, y => if uni x y then .ok (x.ltx y) else .stuck
/-- what a clause gives back of an error's fields -/
inductive Hd where
  | fld (n : Nat)
  | tag (s : Str) (n : Nat)
def Hd.get : Hd → List (Nat × D) → Option D
  | .fld n, fs => fs.lookup n
  | .tag s n, fs => (fs.lookup n).map fun d => .tup [.str s, d]
/-- try: deed() except C as e: .. return el -/
structure FltD where
  cl : List (Nat × Hd)
  el : Str
def FltD.get (fd : FltD) (c : Nat) (fs : List (Nat × D)) : Option D := (fd.cl.lookup c).bind fun h => h.get fs
structure G where
  call : Nat → List Sl → R (Sl × List (Option Sl))
  glb : Nat → Option D
  mth : Nat → Nat → Option Nat
  ini : Nat → Option Nat
  tru : Nat → Option Nat
  eqm : Nat → Option Nat
  exf : Nat → Option (List Nat)
  flt : Nat → Option FltD
  w : Nat

/-- a call that wants no write back, of frozen arguments -/
def G.pure (g : G) (f : Nat) (as : List D) : R D := (g.call f (as.map .frz)).bind fun r => .ok r.1.d
def G.truth (g : G) : D → R Bool
  | .non => .ok false
  | .bl b => .ok b
  | .int i => .ok (i != 0)
  | .str x => if x.length ≤ sizeLine then .ok ((x.length : Int) != 0) else .stuck
  | .tup xs => .ok (!xs.isEmpty)
  | .lst xs => .ok (!xs.isEmpty)
  | .scr _ => .stuck
  | .dic _ => .stuck
  | .dit _ => .stuck
  | .ins c fs => match g.tru c with
    | some f => (g.call f [.frz (.ins c fs)]).bind fun r => match r.1.d with
      | .bl b => .ok b
      | _ => .stuck
    | none => .stuck
def eqD (d e : D) : R Bool := match d, e with
  | .scr ns, .lst [] => .ok ns.isEmpty
  | d, e => if d.plain 60 && e.plain 60 then .ok (d.eqv e) else .stuck
def leD : D → D → R Bool
  | .int i, .int j => .ok (decide (i ≤ j))
  | x, y => if uni x y then .ok (!y.ltx x) else .stuck
def isnD : D → D → R Bool
  | .non, .non => .ok true
  | _, .non => .ok false
  | _, _ => .stuck
def inD (x : D) : D → R Bool
  | .lst ys => if x.plain 59 && (D.lst ys).plain 60 then .ok (ys.any fun y => y.eqv x) else .stuck
  | .dic ks => (match keyD x with
    | some k => .ok (getK ks k).isSome
    | none => .stuck)
  | .dit ks => (match keyT x with
    | some k => .ok (getK ks k).isSome
    | none => .stuck)
  | _ => .stuck
def gtD : D → D → R Bool
  | .int i, .int j => .ok (decide (j < i))
  | x, y => if uni x y then .ok (y.ltx x) else .stuck
def geD : D → D → R Bool
  | .int i, .int j => .ok (decide (j ≤ i))
  | x, y => if uni x y then .ok (!x.ltx y) else .stuck
def Cop.ap : Cop → D → D → R Bool
  | .lt => ltD
  | .gt => gtD
  | .le => leD
  | .ge => geD
  | .isn => isnD
  | .notn => fun x y => (isnD x y).bind fun b => .ok (!b)
  | .inn => inD
  | .nin => fun x y => (inD x y).bind fun b => .ok (!b)
def ixN (n : Nat) (i : Int) : Option Nat := if 0 ≤ i then (if i < n then some i.toNat else none) else if -(n : Int) ≤ i then some (i + n).toNat else none
def atD (xs : List D) (i : Int) : R D := match ixN xs.length i with
  | some j => .of (xs[j]?)
  | none => .stuck
def ixD : D → D → R Sl
  | .lst xs, .int i => (atD xs i).bind fun d => .ok (.frz d)
  | .tup xs, .int i => (atD xs i).bind fun d => .ok (.frz d)
  | .scr ns, .int i => (match ixN ns.length i with
    | some j => (R.of (ns[j]?)).bind fun v => .ok (.frz (.int v))
    | none => .stuck)
  | .dic ks, x => (R.of ((keyD x).bind (getK ks))).bind fun d => .ok (.frz d)
  | .dit ks, x => (R.of ((keyT x).bind (getK ks))).bind fun d => .ok (.frz d)
  | _, _ => .stuck
def attrD (f : Nat) : D → R Sl
  | .ins _ fs => match fs.lookup f with
    | some d => .ok (.frz d)
    | none => .stuck
  | _ => .stuck
/-- isinstance is served -/
def D.tyOk : D → Bool
  | .dit _ => false
  | _ => true
def Ty.has : Ty → D → Bool
  | .int, .int _ => true
  | .int, .bl _ => true
  | .bool, .bl _ => true
  | .str, .str _ => true
  | .tuple, .tup _ => true
  | .list, .lst _ => true
  | .list, .scr _ => true
  | .cls c, .ins k _ => c == k
  | _, _ => false
/-- the first least, the first greatest -/
def minX (x : D) (xs : List D) : D := xs.foldl (fun a y => if y.ltx a then y else a) x
def maxX (x : D) (xs : List D) : D := xs.foldl (fun a y => if a.ltx y then y else a) x
def lenD : List D → R Sl
  | [.tup xs] => .ok (.frz (.int xs.length))
  | [.lst xs] => .ok (.frz (.int xs.length))
  | [.str x] => if x.length ≤ sizeLine then .ok (.frz (.int x.length)) else .stuck
  | [.scr ns] => .ok (.frz (.int ns.length))
  | [.dic ks] => .ok (.frz (.int ks.length))
  | [.dit ks] => .ok (.frz (.int ks.length))
  | _ => .stuck
def intD : List D → R Sl
  | [.int i] => .ok (.frz (.int i))
  | [.bl b] => .ok (.frz (.int (if b then 1 else 0)))
  | _ => .stuck
def absD : List D → R Sl
  | [.int i] => .ok (.frz (.int (if i < 0 then -i else i)))
  | _ => .stuck
def minD : List D → R Sl
  | [.int i, .int j] => .ok (.frz (.int (if j < i then j else i)))
  | [.lst (x :: xs)] => if uniL (x :: xs) then .ok (.frz (minX x xs)) else .stuck
  | [.tup (x :: xs)] => if uniL (x :: xs) then .ok (.frz (minX x xs)) else .stuck
  | _ => .stuck
def maxD : List D → R Sl
  | [.int i, .int j] => .ok (.frz (.int (if j > i then j else i)))
  | [.lst (x :: xs)] => if uniL (x :: xs) then .ok (.frz (maxX x xs)) else .stuck
  | [.tup (x :: xs)] => if uniL (x :: xs) then .ok (.frz (maxX x xs)) else .stuck
  | _ => .stuck
def sumD : List D → R Sl
  | [.lst xs] => (R.of (asInts xs)).bind fun ns => .ok (.frz (.int ns.sum))
  | [.tup xs] => (R.of (asInts xs)).bind fun ns => .ok (.frz (.int ns.sum))
  | _ => .stuck
def allD : List D → R Sl
  | [.lst xs] => (R.of (asBls xs)).bind fun bs => .ok (.frz (.bl (bs.all id)))
  | _ => .stuck
def anyD : List D → R Sl
  | [.lst xs] => (R.of (asBls xs)).bind fun bs => .ok (.frz (.bl (bs.any id)))
  | _ => .stuck
def tupD : List D → R Sl
  | [.lst xs] => .ok (.frz (.tup xs))
  | [.tup xs] => .ok (.frz (.tup xs))
  | _ => .stuck
def lstD : List D → R Sl
  | [.lst xs] => .ok (.own (.lst xs))
  | [.tup xs] => .ok (.own (.lst xs))
  | [.dic ks] => .ok (.own (.lst (ks.map fun kv => kkB kv.1)))
  | [.dit ks] => .ok (.own (.lst (ks.map fun kv => keyB kv.1)))
  | _ => .stuck
def dvmD : List D → R Sl
  | [.int i, .int j] => if decide (0 < j) && divOk j then .ok (.frz (.tup [.int (i / j), .int (i % j)])) else .stuck
  | _ => .stuck
def Bi.ap : Bi → List D → R Sl
  | .len => lenD
  | .int => intD
  | .abs => absD
  | .min => minD
  | .max => maxD
  | .sum => sumD
  | .all => allD
  | .any => anyD
  | .tuple => tupD
  | .list => lstD
  | .divmod => dvmD
def sIx (n d : Nat) : Option Int → Nat
  | none => d
  | some v => if v < 0 then (v + (n : Int)).toNat else min v.toNat n
def cutD (xs : List D) (lo hi : Option Int) : List D := (xs.drop (sIx xs.length 0 lo)).take (sIx xs.length xs.length hi - sIx xs.length 0 lo)
def slcD (x : D) (lo hi : Option Int) : R Sl := match x with
  | .lst xs => .ok (.own (.lst (cutD xs lo hi)))
  | .tup xs => .ok (.frz (.tup (cutD xs lo hi)))
  | _ => .stuck
/-- {k: v, ..}: keys that are ints or texts, at most 15 -/
def pairsD : List D → Option (List (Kk × D))
  | [] => some []
  | x :: v :: r => (keyD x).bind fun k => (pairsD r).map ((k, v) :: ·)
  | _ => none
def dspD (ds : List D) : R Sl := match pairsD ds with
  | some ps => if 0 < ps.length ∧ ps.length ≤ 15 then .ok (.own (.dic (ps.foldl (fun acc p => setK acc p.1 p.2) []))) else .stuck
  | none => .stuck
def lims (i : Int) : Bool := decide (-(2 ^ 62) ≤ i) && decide (i < 2 ^ 62)
def rngL (lo hi : Int) : List D := (List.range (hi - lo).toNat).map fun (k : Nat) => D.int (lo + (k : Int))
def Op.ap : Op → List D → R Sl
  | .bin o, [x, y] => o.ap x y
  | .cmp o, [x, y] => (o.ap x y).bind fun b => .ok (.frz (.bl b))
  | .ix, [x, y] => ixD x y
  | .attr f, [x] => attrD f x
  | .tup, ds => if szOk ds.length then .ok (.frz (.tup ds)) else .stuck
  | .lst, ds => if szOk ds.length then .ok (.own (.lst ds)) else .stuck
  | .inst ts, [x] => if x.tyOk then .ok (.frz (.bl (ts.any fun t => t.has x))) else .stuck
  | .neg, [.int i] => .ok (.frz (.int (-i)))
  | .bi b, ds => b.ap ds
  | .slc false false, [x] => slcD x none none
  | .slc true false, [x, .int i] => slcD x (some i) none
  | .slc false true, [x, .int j] => slcD x none (some j)
  | .slc true true, [x, .int i, .int j] => slcD x (some i) (some j)
  | .dnew false, [] => .ok (.own (.dic []))
  | .dnew true, [] => .ok (.own (.dit []))
  | .dsp, ds => dspD ds
  | .rev, [.lst xs] => .ok (.own (.lst xs.reverse))
  | .lrng, [.int a, .int b] => if lims a && lims b && szOk (b - a).toNat then .ok (.own (.lst (rngL a b))) else .stuck
  | .maxd, [.lst [], y] => .ok (.frz y)
  | .maxd, [.lst (x :: xs), _] => if uniL (x :: xs) then .ok (.frz (maxX x xs)) else .stuck
  | _, _ => .stuck
/-- what a default may be -/
def D.base : D → Bool
  | .non => true
  | .bl _ => true
  | .int _ => true
  | .str _ => true
  | .tup _ => true
  | .scr _ => true
  | _ => false
/-- what the receiver must be -/
def Bm.rcv : Bm → List D → Bool
  | .get, [.dic _] => true
  | _, _ => false
def Bm.ap : Bm → List D → R Sl
  | .get, [.dic ks, x] => (R.of (keyD x)).bind fun k => .ok (.frz ((getK ks k).getD .non))
  | .get, [.dic ks, x, y] => if y.base then (R.of (keyD x)).bind fun k => .ok (.frz ((getK ks k).getD y)) else .stuck
  | _, _ => .stuck
/-- operations whose operands may be read where they stand -/
def Op.pk : Op → Bool
  | .tup => false
  | .lst => false
  | .dsp => false
  | _ => true

/-! ### evaluation -/
abbrev Pv := Sum D Nat
def isOwn : Option Sl → Bool
  | some (.own _) => true
  | _ => false
def slot (ρ : Env) (j : Nat) : R Sl := match ρ[j]? with
  | some (some s) => .ok s
  | _ => .stuck
def rs (ρ : Env) : List Pv → R (List D)
  | [] => .ok []
  | .inl d :: r => (rs ρ r).bind fun ds => .ok (d :: ds)
  | .inr j :: r => (slot ρ j).bind fun s => (rs ρ r).bind fun ds => .ok (s.d :: ds)
/-- the arguments of a call -/
def sls (ρ : Env) : List Pv → R (List Sl)
  | [] => .ok []
  | .inl d :: r => (sls ρ r).bind fun ds => .ok (.frz d :: ds)
  | .inr j :: r => (slot ρ j).bind fun s => (sls ρ r).bind fun ds => .ok (s :: ds)
def frzs : List Pv → R (List D)
  | [] => .ok []
  | .inl d :: r => (frzs r).bind fun ds => .ok (d :: ds)
  | .inr _ :: _ => .stuck
def bors : List Pv → List Nat
  | [] => []
  | .inl _ :: r => bors r
  | .inr j :: r => j :: bors r
/-- what a callee did to what it was lent -/
def wb : List Pv → List (Option Sl) → Env → Env
  | .inr j :: r, o :: os, ρ => wb r os (if isOwn ρ[j]?.join then ρ.set j o else ρ)
  | .inl _ :: r, _ :: os, ρ => wb r os ρ
  | _, _, ρ => ρ
/-- the method of what was received -/
def recv (g : G) (m : Nat) (ρ : Env) (ps : List Pv) : R Nat := (rs ρ ps).bind fun ds => match ds with
  | [.ins c fs] => if (fs.lookup m).isSome then .stuck else R.of (g.mth c m)
  | _ => .stuck
/-- == and !=, of data or of instances -/
def eqS (g : G) (neg : Bool) (ps : List Pv) (ρ : Env) (ss : List Sl) : R (Sl × Env) := match ss with
  | [s, t] => (match s.d, t.d with
    | .ins c _, .ins _ _ => (R.of (g.eqm c)).bind fun f => (g.call f [s, t]).bind fun q => (match q.1.d with
      | .bl b => .ok (.frz (.bl (b != neg)), wb ps q.2 ρ)
      | _ => .stuck)
    | d, e => (eqD d e).bind fun b => .ok (.frz (.bl (b != neg)), ρ))
  | _ => .stuck
/-- read a name and let it go: an owned thing is frozen -/
def rdF (ρ : Env) (i : Nat) : R (Sl × Env) := match ρ[i]? with
  | some (some (.frz d)) => .ok (.frz d, ρ)
  | some (some (.own d)) => .ok (.frz d, ρ.set i (some (.frz d)))
  | _ => .stuck
def wipeE (ρ : Env) : List Nat → Env
  | [] => ρ
  | i :: is => wipeE (ρ.set i none) is
def restE (ρ0 : Env) (ρ : Env) : List Nat → Env
  | [] => ρ
  | i :: is => restE ρ0 (ρ.set i (ρ0[i]?.join)) is
def enumL (xs : List D) : Nat → List D
  | n => match xs with
    | [] => []
    | x :: r => .tup [.int n, x] :: enumL r (n + 1)
def zipL : List D → List D → List D
  | x :: xs, y :: ys => .tup [x, y] :: zipL xs ys
  | _, _ => []
/-- the items of a list or a tuple -/
def D.sq : D → Option (List D)
  | .lst xs => some xs
  | .tup xs => some xs
  | _ => none
def Ik.its : Ik → List D → R (List D)
  | .rng, [.int n] => if lims n then .ok (rngL 0 n) else .stuck
  | .rng, [.int a, .int b] => if lims a && lims b then .ok (rngL a b) else .stuck
  | .seq, [.lst xs] => .ok xs
  | .seq, [.tup xs] => .ok xs
  | .enm, [x] => match x.sq with | some xs => .ok (enumL xs 0) | none => .stuck
  | .zip, [x, y] => match x.sq with
    | some xs => (match y.sq with | some ys => .ok (zipL xs ys) | none => .stuck)
    | none => .stuck
  | _, _ => .stuck
def putN (f : Nat) (d : D) : List (Nat × D) → List (Nat × D)
  | [] => [(f, d)]
  | (k, x) :: r => if k = f then (k, d) :: r else (k, x) :: putN f d r
/-- a list made turn by turn -/
def lcL (turn : D → Env → R (Option D × Env)) : List D → List D → Env → R (List D × Env)
  | [], acc, ρ => .ok (acc, ρ)
  | d :: ds, acc, ρ => (turn d ρ).calm.bind fun r => match r.1 with
    | some x => if acc.length < sizeLine then lcL turn ds (acc ++ [x]) r.2 else .stuck
    | none => lcL turn ds acc r.2
mutual
def Tg.put (lk : Nat → Bool) : Tg → D → Env → R Env
  | .var i, d, ρ => if lk i then .stuck else if i < ρ.length then .ok (ρ.set i (some (.frz d))) else .stuck
  | .fld j f, d, ρ => match ρ[j]? with
    | some (some (.own (.ins c fs))) => if fs.length < 1000 then .ok (ρ.set j (some (.own (.ins c (putN f d fs))))) else .stuck
    | _ => .stuck
  | .tup ts, d, ρ => match d with
    | .tup ds => Tgs.put lk ts ds ρ
    | .lst ds => Tgs.put lk ts ds ρ
    | _ => .stuck
def Tgs.put (lk : Nat → Bool) : Tgs → List D → Env → R Env
  | .nil, [], ρ => .ok ρ
  | .cons t ts, d :: ds, ρ => (Tg.put lk t d ρ).bind fun ρ1 => Tgs.put lk ts ds ρ1
  | _, _, _ => .stuck
end
def frzS : Option Sl → Option Sl
  | some (.own d) => some (.frz d)
  | o => o
def frzE (ρ : Env) : List Nat → Env
  | [] => ρ
  | i :: is => frzE (ρ.set i (frzS ρ[i]?.join)) is
def hideS : Option Sl → Option Sl
  | some (.own _) => none
  | o => o
def hideE (ρ : Env) : Env := ρ.map hideS
def fltR (fd : FltD) (r : R (Sl × Env)) (ρ : Env) : R (Sl × Env) := match r with
  | .ok _ => .ok (.frz (.str fd.el), ρ)
  | .exc c fs => (match fd.get c fs with
    | some d => .ok (.frz d, ρ)
    | none => .stuck)
  | .stuck => .stuck
/-- a dict made turn by turn -/
def dcL (turn : D → Env → R (Option (Kk × D) × Env)) : List D → List (Kk × D) → Env → R (List (Kk × D) × Env)
  | [], acc, ρ => .ok (acc, ρ)
  | d :: ds, acc, ρ => (turn d ρ).calm.bind fun r => match r.1 with
    | some x => if acc.length < sizeLine then dcL turn ds (setK acc x.1 x.2) r.2 else .stuck
    | none => dcL turn ds acc r.2
/-- a list made by two clauses: a turn of the first adds several -/
def lcM (turn : D → List D → Env → R (List D × Env)) : List D → List D → Env → R (List D × Env)
  | [], acc, ρ => .ok (acc, ρ)
  | d :: ds, acc, ρ => (turn d acc ρ).calm.bind fun r => lcM turn ds r.1 r.2
def catO (tp : Bool) (ds : List D) : R Sl := if szOk ds.length then .ok (if tp then .frz (.tup ds) else .own (.lst ds)) else .stuck
def spread (b : Bool) (d : D) : Option (List D) := if b then elems d else some [d]
mutual
def Ex.ev (g : G) : Ex → Env → R (Sl × Env)
  | .var i, ρ => rdF ρ i
  | .con c, ρ => .ok (.frz c.d, ρ)
  | .glb j, ρ => (R.of (g.glb j)).bind fun d => .ok (.frz d, ρ)
  | .op o as, ρ => (Exs.ev g as ρ).bind fun r => (if o.pk then rs r.2 r.1 else frzs r.1).bind fun ds => (o.ap ds).bind fun s => .ok (s, r.2)
  | .chn o p a b c, ρ => (Ex.ev g a ρ).bind fun x => (Ex.ev g b x.2).bind fun y => (o.ap x.1.d y.1.d).bind fun t =>
      if t then (Ex.ev g c y.2).bind fun z => (p.ap y.1.d z.1.d).bind fun u => .ok (.frz (.bl u), z.2) else .ok (.frz (.bl false), y.2)
  | .and a b, ρ => (Ex.ev g a ρ).bind fun x => (g.truth x.1.d).bind fun t => if t then Ex.ev g b x.2 else .ok (.frz x.1.d, x.2)
  | .or a b, ρ => (Ex.ev g a ρ).bind fun x => (g.truth x.1.d).bind fun t => if t then .ok (.frz x.1.d, x.2) else Ex.ev g b x.2
  | .not a, ρ => (Ex.ev g a ρ).bind fun x => (g.truth x.1.d).bind fun t => .ok (.frz (.bl (!t)), x.2)
  | .tru a, ρ => (Ex.ev g a ρ).bind fun x => (g.truth x.1.d).bind fun t => .ok (.frz (.bl t), x.2)
  | .eqv neg as, ρ => (Exs.ev g as ρ).bind fun r => if decide (bors r.1).Nodup then (sls r.2 r.1).bind fun ss => eqS g neg r.1 r.2 ss else .stuck
  | .ife c a b, ρ => (Ex.ev g c ρ).bind fun x => (g.truth x.1.d).bind fun t => if t then Ex.ev g a x.2 else Ex.ev g b x.2
  | .call f as, ρ => (Exs.ev g as ρ).bind fun r => if decide (bors r.1).Nodup then (sls r.2 r.1).bind fun ss => (g.call f ss).bind fun q => .ok (q.1, wb r.1 q.2 r.2) else .stuck
  | .make c as, ρ => (Exs.ev g as ρ).bind fun r => (frzs r.1).bind fun ds => (R.of (g.ini c)).bind fun f => (g.call f (.own (.ins c []) :: ds.map .frz)).bind fun q =>
      match q.1.d, q.2 with
      | .non, some s :: _ => .ok (s, r.2)
      | _, _ => .stuck
  | .meth m o as, ρ => (Exs.ev g o ρ).bind fun q => (recv g m q.2 q.1).bind fun f => (Exs.ev g as q.2).bind fun r => if decide (bors (q.1 ++ r.1)).Nodup then (sls r.2 (q.1 ++ r.1)).bind fun ss => (g.call f ss).bind fun z => .ok (z.1, wb (q.1 ++ r.1) z.2 r.2) else .stuck
  | .bm m o as, ρ => (Exs.ev g o ρ).bind fun q => (rs q.2 q.1).bind fun d0 => if m.rcv d0 then (Exs.ev g as q.2).bind fun r => (rs r.2 (q.1 ++ r.1)).bind fun ds => (m.ap ds).bind fun s => .ok (s, r.2) else .stuck
  | .lc t vs k as cs e, ρ => (Exs.ev g as ρ).bind fun r => (frzs r.1).bind fun ds => (k.its ds).bind fun its =>
      (lcL (fun d ρ1 => (Tg.put (fun i => !(vs.contains i)) t d (wipeE ρ1 vs)).bind fun ρ2 => (Exs.tests g cs ρ2).bind fun b =>
        if b.1 then (Ex.ev g e b.2).bind fun x => .ok (some x.1.d, x.2) else .ok (none, b.2)) its [] r.2).bind fun q => .ok (.own (.lst q.1), restE r.2 q.2 vs)
  | .flt f fz e, ρ => (R.of (g.flt f)).bind fun fd => fltR fd (Ex.ev g e (hideE (frzE ρ fz))) (frzE ρ fz)
  | .dc t vs k as cs kx vx, ρ => (Exs.ev g as ρ).bind fun r => (frzs r.1).bind fun ds => (k.its ds).bind fun its =>
      (dcL (fun d ρ1 => (Tg.put (fun i => !(vs.contains i)) t d (wipeE ρ1 vs)).bind fun ρ2 => (Exs.tests g cs ρ2).bind fun b =>
        if b.1 then (Ex.ev g kx b.2).bind fun y => (R.of (keyD y.1.d)).bind fun kk => (Ex.ev g vx y.2).bind fun z => .ok (some (kk, z.1.d), z.2) else .ok (none, b.2)) its [] r.2).bind fun q => .ok (.own (.dic q.1), restE r.2 q.2 vs)
  | .cat tp fl as, ρ => (Exs.cat g as fl ρ).bind fun r => (catO tp r.1).bind fun s => .ok (s, r.2)
  | .lc2 t vs k as cs t1 vs1 k1 as1 cs1 e, ρ => (Exs.ev g as ρ).bind fun r => (frzs r.1).bind fun ds => (k.its ds).bind fun its =>
      (lcM (fun d acc ρ1 => (Tg.put (fun i => !(vs.contains i)) t d (wipeE ρ1 vs)).bind fun ρ2 => (Exs.tests g cs ρ2).bind fun b =>
        if b.1 then (Exs.ev g as1 b.2).bind fun r1 => (frzs r1.1).bind fun ds1 => (k1.its ds1).bind fun its1 =>
          lcL (fun d1 ρ3 => (Tg.put (fun i => !(vs1.contains i)) t1 d1 (wipeE ρ3 vs1)).bind fun ρ4 => (Exs.tests g cs1 ρ4).bind fun c =>
            if c.1 then (Ex.ev g e c.2).bind fun x => .ok (some x.1.d, x.2) else .ok (none, c.2)) its1 acc r1.2
        else .ok (acc, b.2)) its [] r.2).bind fun q => .ok (.own (.lst q.1), restE r.2 q.2 vs)
/-- a display with stars: fl tells which operands are spread -/
def Exs.cat (g : G) : Exs → List Bool → Env → R (List D × Env)
  | .nil, fl, ρ => (match fl with
    | [] => .ok ([], ρ)
    | _ => .stuck)
  | .cons a as, fl, ρ => (match fl with
    | [] => .stuck
    | b :: fl => (Ex.ev g a ρ).bind fun x => (R.of (spread b x.1.d)).bind fun xs => (Exs.cat g as fl x.2).bind fun r => .ok (xs ++ r.1, r.2))
  | .bor _ _, _, _ => .stuck
def Exs.ev (g : G) : Exs → Env → R (List Pv × Env)
  | .nil, ρ => .ok ([], ρ)
  | .cons a as, ρ => (Ex.ev g a ρ).bind fun x => (Exs.ev g as x.2).bind fun r => .ok (.inl x.1.d :: r.1, r.2)
  | .bor i as, ρ => (slot ρ i).bind fun _ => (Exs.ev g as ρ).bind fun r => .ok (.inr i :: r.1, r.2)
def Exs.tests (g : G) : Exs → Env → R (Bool × Env)
  | .nil, ρ => .ok (true, ρ)
  | .cons a as, ρ => (Ex.ev g a ρ).bind fun x => (g.truth x.1.d).bind fun t => if t then Exs.tests g as x.2 else .ok (false, x.2)
  | .bor _ _, _ => .stuck
end
def Ex.test (g : G) (e : Ex) (ρ : Env) : R (Bool × Env) := (e.ev g ρ).bind fun x => (g.truth x.1.d).bind fun t => .ok (t, x.2)

inductive Fl where
  | nx | rt (s : Sl) | bk | ct
def loopL (turn : D → Env → R (Fl × Env)) : List D → Env → R (Fl × Env)
  | [], ρ => .ok (.nx, ρ)
  | d :: ds, ρ => (turn d ρ).bind fun r => match r.1 with
    | .nx => loopL turn ds r.2
    | .ct => loopL turn ds r.2
    | .bk => .ok (.nx, r.2)
    | .rt s => .ok (.rt s, r.2)
def whileN (c : Env → R (Bool × Env)) (b : Env → R (Fl × Env)) : Nat → Env → R (Fl × Env)
  | 0, _ => .stuck
  | n + 1, ρ => (c ρ).bind fun t => if t.1 then (b t.2).bind fun r => match r.1 with
      | .nx => whileN c b n r.2
      | .ct => whileN c b n r.2
      | .bk => .ok (.nx, r.2)
      | .rt s => .ok (.rt s, r.2)
    else .ok (.nx, t.2)
def retE (g : G) (lk : Nat → Bool) (e : Ex) (ρ : Env) : R (Sl × Env) := match e with
  | .var i => if lk i then rdF ρ i else (match ρ[i]? with
    | some (some (.own d)) => .ok (.own d, ρ.set i none)
    | _ => rdF ρ i)
  | e => e.ev g ρ
def parE (lk : Nat → Bool) : List Nat → List D → Env → R Env
  | [], [], ρ => .ok ρ
  | i :: is, d :: ds, ρ => if lk i || decide (ρ.length ≤ i) then .stuck else parE lk is ds (ρ.set i (some (.frz d)))
  | _, _, _ => .stuck
def augB : Bop → Bool
  | .add => true
  | .sub => true
  | _ => false
def augI : Bop → Int → Int → Int
  | .sub => fun i j => i - j
  | _ => fun i j => i + j
mutual
def Sm.ev (g : G) (lk : Nat → Bool) : Sm → Env → R (Fl × Env)
  | .set i e, ρ => (e.ev g ρ).bind fun x => if lk i || decide (x.2.length ≤ i) then .stuck else .ok (.nx, x.2.set i (some x.1))
  | .asg t e, ρ => (e.ev g ρ).bind fun x => (t.put lk x.1.d x.2).bind fun ρ1 => .ok (.nx, ρ1)
  | .par is as, ρ => (as.ev g ρ).bind fun r => (frzs r.1).bind fun ds => (parE lk is ds r.2).bind fun ρ1 => .ok (.nx, ρ1)
  | .aug i o e, ρ => (slot ρ i).bind fun s => (e.ev g ρ).bind fun x => match s, x.1.d with
      | .frz (.int a), .int b => if lk i || decide (x.2.length ≤ i) || !augB o then .stuck else .ok (.nx, x.2.set i (some (.frz (.int (augI o a b)))))
      | _, _ => .stuck
  | .put j k e, ρ => (e.ev g ρ).bind fun x => match x.2[j]? with
      | some (some (.own (.lst _))) => (k.ev g x.2).bind fun y => (match y.2[j]?, y.1.d with
        | some (some (.own (.lst xs))), .int i => (match ixN xs.length i with
          | some n => .ok (.nx, y.2.set j (some (.own (.lst (xs.set n x.1.d)))))
          | none => .stuck)
        | _, _ => .stuck)
      | some (some (.own (.dic _))) => (k.ev g x.2).bind fun y => (match y.2[j]?, keyD y.1.d with
        | some (some (.own (.dic ks))), some kk => if ks.length < sizeLine then .ok (.nx, y.2.set j (some (.own (.dic (setK ks kk x.1.d))))) else .stuck
        | _, _ => .stuck)
      | some (some (.own (.dit _))) => (k.ev g x.2).bind fun y => (match y.2[j]?, keyT y.1.d with
        | some (some (.own (.dit ks))), some kk => if ks.length < sizeLine then .ok (.nx, y.2.set j (some (.own (.dit (setK ks kk x.1.d))))) else .stuck
        | _, _ => .stuck)
      | _ => .stuck
  | .augs j k o e, ρ => match ρ[j]? with
      | some (some (.own (.lst _))) => (k.ev g ρ).bind fun y => (match y.2[j]?, y.1.d with
        | some (some (.own (.lst xs))), .int i => if i < 0 then .stuck else (match xs[i.toNat]? with
          | some (.int a) => (e.ev g y.2).bind fun x => (match x.2[j]?, x.1.d with
            | some (some (.own (.lst ys))), .int b => if i.toNat < ys.length && augB o then .ok (.nx, x.2.set j (some (.own (.lst (ys.set i.toNat (.int (augI o a b))))))) else .stuck
            | _, _ => .stuck)
          | _ => .stuck)
        | _, _ => .stuck)
      | _ => .stuck
  | .app j e, ρ => match ρ[j]? with
      | some (some (.own (.lst _))) => (e.ev g ρ).bind fun x => (match x.2[j]? with
        | some (some (.own (.lst xs))) => if xs.length < sizeLine then .ok (.nx, x.2.set j (some (.own (.lst (xs ++ [x.1.d]))))) else .stuck
        | _ => .stuck)
      | _ => .stuck
  | .ex e, ρ => (e.ev g ρ).bind fun x => .ok (.nx, x.2)
  | .ret e, ρ => (retE g lk e ρ).bind fun x => .ok (.rt x.1, x.2)
  | .retN, ρ => .ok (.rt (.frz .non), ρ)
  | .ife c a b, ρ => (c.test g ρ).bind fun t => if t.1 then Sms.ev g lk a t.2 else Sms.ev g lk b t.2
  | .for_ t k as b, ρ => (as.ev g ρ).bind fun r => (frzs r.1).bind fun ds => (k.its ds).bind fun its =>
      loopL (fun d ρ1 => (t.put lk d ρ1).bind fun ρ2 => Sms.ev g lk b ρ2) its r.2
  | .whl c b, ρ => whileN (fun ρ1 => c.test g ρ1) (fun ρ1 => Sms.ev g lk b ρ1) g.w ρ
  | .rai c as, ρ => (as.ev g ρ).bind fun r => (frzs r.1).bind fun ds => match g.exf c with
      | some fs => if fs.length = ds.length then .exc c (fs.zip ds).reverse else .stuck
      | none => .stuck
  | .pass, ρ => .ok (.nx, ρ)
  | .brk, ρ => .ok (.bk, ρ)
  | .cnt, ρ => .ok (.ct, ρ)
def Sms.ev (g : G) (lk : Nat → Bool) : Sms → Env → R (Fl × Env)
  | .nil, ρ => .ok (.nx, ρ)
  | .cons s r, ρ => (Sm.ev g lk s ρ).bind fun x => match x.1 with
      | .nx => Sms.ev g lk r x.2
      | f => .ok (f, x.2)
end

/-! ### functions -/
structure Fn where
  np : Nat
  nn : Nat
  body : Sms
def lkOf (as : List Sl) (i : Nat) : Bool := isOwn as[i]?
def outs (as : List Sl) (ρ : Env) : List (Option Sl) := (List.range as.length).map fun i => if lkOf as i then ρ[i]?.join else none
def Fn.run (g : G) (f : Fn) (as : List Sl) : R (Sl × List (Option Sl)) :=
  if as.length = f.np then
    (f.body.ev g (lkOf as) (as.map some ++ List.replicate (f.nn - f.np) none)).bind fun r => match r.1 with
      | .nx => .ok (.frz .non, outs as r.2)
      | .rt s => .ok (s, outs as r.2)
      | _ => .stuck
  else .stuck
structure Pr where
  fns : List Fn
  glb : Nat → Option D
  mth : Nat → Nat → Option Nat
  ini : Nat → Option Nat
  tru : Nat → Option Nat
  eqm : Nat → Option Nat
  exf : Nat → Option (List Nat)
  flt : Nat → Option FltD
  w : Nat
def Pr.g (p : Pr) (call : Nat → List Sl → R (Sl × List (Option Sl))) : G := ⟨call, p.glb, p.mth, p.ini, p.tru, p.eqm, p.exf, p.flt, p.w⟩
def Pr.call (p : Pr) : Nat → Nat → List Sl → R (Sl × List (Option Sl))
  | 0, _, _ => .stuck
  | n + 1, f, as => match p.fns[f]? with
    | some fn => fn.run (p.g (p.call n)) as
    | none => .stuck
end Rx

set_option Elab.async false
set_option linter.all false
set_option maxRecDepth 100000
/-! Rx2: what data is in an abstract heap; frozen and owned things; frames. -/
namespace Rx
open PySem PySem.Spec PyProof.Rows L2
abbrev St := L2.St

structure Kx where
  K : PySem.W.Frag
  cm : Nat → Option Addr
  ce : Nat → Option Addr
  nm : List Str
  T : List (Addr × Str)
  w : World
/-- a dict whose keys are tuples, by its own object alone -/
def entryN (w : World) (x : NestedKey × Addr × Value) : DictEntry := ⟨x.1.hash w, .ref x.2.1, x.2.2⟩
def dtO (w : World) (a : Addr) (xs : List (NestedKey × Addr × V)) : HO := .ext fun h => xs.length ≤ sizeLine ∧ (a == sysModules) = false ∧
  ∃ ys : List (NestedKey × Addr × Value), Paired (fun (p : NestedKey × Addr × V) (q : NestedKey × Addr × Value) => p.1 = q.1 ∧ p.2.1 = q.2.1 ∧ RelV p.2.2 q.2.2) xs ys ∧
  ∃ o es ep, h.get? a = some o ∧ o.ExactDict ∧ o.data = .dict es ep ∧ es.toList = ys.map (entryN w) ∧ (ys.map (·.1)).Nodup
/-- put into such a dict -/
def putT (xs : List (NestedKey × Addr × V)) (k : NestedKey) (b : Addr) (v : V) : List (NestedKey × Addr × V) :=
  if (xs.any fun e => decide (e.1 = k)) = true then xs.map (fun e => if e.1 = k then (e.1, e.2.1, v) else e) else xs ++ [(k, b, v)]

mutual
/-- v stands for the data d in the frozen heap F -/
inductive Rep (k : Kx) (F : Hp) : V → D → Prop
  | non : Rep k F .non .non
  | bl (b : Bool) : Rep k F (.bl b) (.bl b)
  | int (i : Int) : Rep k F (.int i) (.int i)
  | str (x : Str) : Rep k F (.str x) (.str x)
  | tup {a : Addr} {xs : List V} {ds : List D} : SqT k.K F a xs → Reps k F xs ds → Rep k F (.ref a) (.tup ds)
  | lst {a : Addr} {xs : List V} {ds : List D} : Rd F a (.lst xs) → Reps k F xs ds → Rep k F (.ref a) (.lst ds)
  | scr {a : Addr} {ns : List Int} : SqL k.K F a (ns.map V.int) → Rep k F (.ref a) (.scr ns)
  | ins {a C dx : Addr} {fs : List (Str × V)} {c : Nat} {gs : List (Nat × D)} : F a = some (.ins C dx fs) → k.cm c = some C → RepF k F fs gs → Rep k F (.ref a) (.ins c gs)
  | dic {a : Addr} {kvs : List (Key × V)} {ks : List (Kk × D)} : Rd F a (.dK kvs) → RepK k F kvs ks → Rep k F (.ref a) (.dic ks)
  | dit {a : Addr} {xs : List (NestedKey × Addr × V)} {ks : List (NestedKey × D)} : F a = some (dtO k.w a xs) → RepT k F xs ks → Rep k F (.ref a) (.dit ks)
inductive Reps (k : Kx) (F : Hp) : List V → List D → Prop
  | nil : Reps k F [] []
  | cons {v : V} {vs : List V} {d : D} {ds : List D} : Rep k F v d → Reps k F vs ds → Reps k F (v :: vs) (d :: ds)
inductive RepF (k : Kx) (F : Hp) : List (Str × V) → List (Nat × D) → Prop
  | nil : RepF k F [] []
  | cons {x : Str} {v : V} {fs : List (Str × V)} {n : Nat} {d : D} {gs : List (Nat × D)} : k.nm[n]? = some x → Rep k F v d → RepF k F fs gs → RepF k F ((x, v) :: fs) ((n, d) :: gs)
inductive RepK (k : Kx) (F : Hp) : List (Key × V) → List (Kk × D) → Prop
  | nil : RepK k F [] []
  | cons {x : Kk} {v : V} {kvs : List (Key × V)} {d : D} {ks : List (Kk × D)} : Rep k F v d → RepK k F kvs ks → RepK k F ((x, v) :: kvs) ((x, d) :: ks)
inductive RepT (k : Kx) (F : Hp) : List (NestedKey × Addr × V) → List (NestedKey × D) → Prop
  | nil : RepT k F [] []
  | cons {x : NestedKey} {b : Addr} {v : V} {xs : List (NestedKey × Addr × V)} {d : D} {ks : List (NestedKey × D)} : x.depth ≤ 8 → Rep k F (.ref b) (keyB x) → Rep k F v d → RepT k F xs ks → RepT k F ((x, b, v) :: xs) ((x, d) :: ks)
end

abbrev Sub (F H : Hp) : Prop := ∀ b o, F b = some o → H b = some o
theorem SqT_sub {K : PySem.W.Frag} {F H : Hp} {a : Addr} {xs : List V} (e : Sub F H) (h : SqT K F a xs) : SqT K H a xs := by
  rcases h with (h | ⟨o, h⟩) | h
  · exact .inl (.inl (e _ _ h))
  · exact .inl (.inr ⟨o, e _ _ h⟩)
  · exact .inr h
theorem SqL_sub {K : PySem.W.Frag} {F H : Hp} {a : Addr} {xs : List V} (e : Sub F H) (h : SqL K F a xs) : SqL K H a xs := by
  rcases h with (h | ⟨o, h⟩) | h
  · exact .inl (.inl (e _ _ h))
  · exact .inl (.inr ⟨o, e _ _ h⟩)
  · exact .inr h
theorem Rd_sub {F H : Hp} {a : Addr} {u : HO} (e : Sub F H) (h : Rd F a u) : Rd H a u := by
  rcases h with h | ⟨o, h⟩
  · exact .inl (e _ _ h)
  · exact .inr ⟨o, e _ _ h⟩
section
variable {k : Kx} {F F' H H' : Hp}
mutual
theorem Rep.mono (e : Sub F F') : ∀ {v : V} {d : D}, Rep k F v d → Rep k F' v d
  | _, _, .non => .non
  | _, _, .bl b => .bl b
  | _, _, .int i => .int i
  | _, _, .str x => .str x
  | _, _, .tup h r => .tup (SqT_sub e h) (Reps.mono e r)
  | _, _, .lst h r => .lst (Rd_sub e h) (Reps.mono e r)
  | _, _, .scr h => .scr (SqL_sub e h)
  | _, _, .ins h c r => .ins (e _ _ h) c (RepF.mono e r)
  | _, _, .dic h r => .dic (Rd_sub e h) (RepK.mono e r)
  | _, _, .dit h r => .dit (e _ _ h) (RepT.mono e r)
theorem Reps.mono (e : Sub F F') : ∀ {vs : List V} {ds : List D}, Reps k F vs ds → Reps k F' vs ds
  | _, _, .nil => .nil
  | _, _, .cons h r => .cons (Rep.mono e h) (Reps.mono e r)
theorem RepF.mono (e : Sub F F') : ∀ {fs : List (Str × V)} {gs : List (Nat × D)}, RepF k F fs gs → RepF k F' fs gs
  | _, _, .nil => .nil
  | _, _, .cons n h r => .cons n (Rep.mono e h) (RepF.mono e r)
theorem RepK.mono (e : Sub F F') : ∀ {kvs : List (Key × V)} {ks : List (Kk × D)}, RepK k F kvs ks → RepK k F' kvs ks
  | _, _, .nil => .nil
  | _, _, .cons h r => .cons (Rep.mono e h) (RepK.mono e r)
theorem RepT.mono (e : Sub F F') : ∀ {xs : List (NestedKey × Addr × V)} {ks : List (NestedKey × D)}, RepT k F xs ks → RepT k F' xs ks
  | _, _, .nil => .nil
  | _, _, .cons q h1 h r => .cons q (Rep.mono e h1) (Rep.mono e h) (RepT.mono e r)
end
mutual
theorem keyB_of : ∀ (d : D) (x : NestedKey), keyN d = some x → keyB x = d
  | .non, x, h => by cases h; rfl
  | .int i, x, h => by cases h; rfl
  | .str i, x, h => by cases h; rfl
  | .tup ds, x, h => by
    simp only [keyN, Option.map_eq_some_iff] at h
    obtain ⟨ks, h1, rfl⟩ := h
    simp only [keyB]
    rw [keysB_of ds ks h1]
  | .bl _, x, h => by simp [keyN] at h
  | .lst _, x, h => by simp [keyN] at h
  | .scr _, x, h => by simp [keyN] at h
  | .ins _ _, x, h => by simp [keyN] at h
  | .dic _, x, h => by simp [keyN] at h
  | .dit _, x, h => by simp [keyN] at h
theorem keysB_of : ∀ (ds : List D) (ks : List NestedKey), keysN ds = some ks → keysB ks = ds
  | [], ks, h => by cases h; rfl
  | d :: ds, ks, h => by
    simp only [keysN, Option.bind_eq_some_iff, Option.map_eq_some_iff] at h
    obtain ⟨x, h1, xs, h2, rfl⟩ := h
    simp only [keysB]
    rw [keyB_of d x h1, keysB_of ds xs h2]
end
theorem keyT_of {d : D} {x : NestedKey} (h : keyT d = some x) : keyB x = d ∧ x.depth ≤ 8 ∧ ∃ ds, d = .tup ds := by
  unfold keyT at h
  split at h
  · rename_i xs
    split at h
    · rename_i ks hk
      split at h
      · rename_i hd
        cases h
        exact ⟨by simp only [keyB]; rw [keysB_of _ _ hk], hd, _, rfl⟩
      · cases h
    · cases h
  · cases h
theorem RepT.length : ∀ {xs : List (NestedKey × Addr × V)} {ks : List (NestedKey × D)}, RepT k F xs ks → xs.length = ks.length
  | _, _, .nil => rfl
  | _, _, .cons _ _ _ r => congrArg (· + 1) r.length
theorem RepT.any (x : NestedKey) : ∀ {xs : List (NestedKey × Addr × V)} {ks : List (NestedKey × D)}, RepT k F xs ks → (xs.any fun kv => decide (kv.1 = x)) = ks.any fun kv => decide (kv.1 = x)
  | _, _, .nil => rfl
  | _, _, .cons _ _ _ r => by rw [List.any_cons, List.any_cons, RepT.any x r]
theorem RepT.repl {v : V} {d : D} (q : Rep k F v d) (x : NestedKey) : ∀ {xs : List (NestedKey × Addr × V)} {ks : List (NestedKey × D)}, RepT k F xs ks → RepT k F (xs.map fun e => if e.1 = x then (e.1, e.2.1, v) else e) (ks.map fun kv => if kv.1 = x then (kv.1, d) else kv)
  | _, _, .nil => .nil
  | _, _, .cons (x := y) hd h1 h r => by
    rw [List.map_cons, List.map_cons]
    by_cases e : y = x
    · simp only [if_pos e]
      exact .cons hd h1 q (RepT.repl q x r)
    · simp only [if_neg e]
      exact .cons hd h1 h (RepT.repl q x r)
theorem RepT.snoc {v : V} {d : D} {b : Addr} {x : NestedKey} (hd : x.depth ≤ 8) (hb : Rep k F (.ref b) (keyB x)) (q : Rep k F v d) : ∀ {xs : List (NestedKey × Addr × V)} {ks : List (NestedKey × D)}, RepT k F xs ks → RepT k F (xs ++ [(x, b, v)]) (ks ++ [(x, d)])
  | _, _, .nil => .cons hd hb q .nil
  | _, _, .cons h0 h1 h r => .cons h0 h1 h (RepT.snoc hd hb q r)
theorem RepT.put {v : V} {d : D} {b : Addr} {x : NestedKey} (hd : x.depth ≤ 8) (hb : Rep k F (.ref b) (keyB x)) (q : Rep k F v d) {xs : List (NestedKey × Addr × V)} {ks : List (NestedKey × D)} (r : RepT k F xs ks) : RepT k F (putT xs x b v) (setK ks x d) := by
  unfold putT setK
  have e := r.any x
  by_cases h : (ks.any fun kv => decide (kv.1 = x)) = true
  · rw [if_pos h, if_pos (e.trans h)]
    exact r.repl q x
  · rw [if_neg h, if_neg (by rw [e]; exact h)]
    exact r.snoc hd hb q
/-- what is found at a key -/
theorem RepT.get (x : NestedKey) : ∀ {xs : List (NestedKey × Addr × V)} {ks : List (NestedKey × D)}, RepT k F xs ks → (∀ d, getK ks x = some d → ∃ e, xs.find? (fun e => decide (e.1 = x)) = some e ∧ Rep k F e.2.2 d) ∧ (getK ks x = none → xs.find? (fun e => decide (e.1 = x)) = none)
  | _, _, .nil => ⟨fun d h => by simp [getK] at h, fun _ => rfl⟩
  | _, _, .cons (x := y) (ks := ks) hd h1 h r => by
    by_cases e : y = x
    · simp only [getK, List.find?_cons, e, decide_true, Option.map_some]
      exact ⟨fun d z => ⟨_, rfl, by cases z; exact h⟩, fun z => by cases z⟩
    · have := RepT.get x r
      simp only [getK, List.find?_cons, e, decide_false] at this ⊢
      exact this
theorem RepK.get (x : Kk) : ∀ {kvs : List (Key × V)} {ks : List (Kk × D)}, RepK k F kvs ks → (∀ d, getK ks x = some d → ∃ v, valV kvs x = some v ∧ Rep k F v d) ∧ (getK ks x = none → valV kvs x = none)
  | _, _, .nil => ⟨fun d h => by simp [getK] at h, fun _ => rfl⟩
  | _, _, .cons (x := y) (ks := ks) h r => by
    by_cases e : y = x
    · simp only [getK, valV, List.find?_cons, e, decide_true, Option.map_some]
      exact ⟨fun d z => ⟨_, rfl, by cases z; exact h⟩, fun z => by cases z⟩
    · have := RepK.get x r
      simp only [getK, valV, List.find?_cons, e, decide_false] at this ⊢
      exact this
theorem RepK.length : ∀ {kvs : List (Key × V)} {ks : List (Kk × D)}, RepK k F kvs ks → kvs.length = ks.length
  | _, _, .nil => rfl
  | _, _, .cons _ r => congrArg (· + 1) r.length
theorem RepK.any (x : Kk) : ∀ {kvs : List (Key × V)} {ks : List (Kk × D)}, RepK k F kvs ks → (kvs.any fun kv => decide (kv.1 = x)) = ks.any fun kv => decide (kv.1 = x)
  | _, _, .nil => rfl
  | _, _, .cons _ r => by rw [List.any_cons, List.any_cons, RepK.any x r]
theorem RepK.repl {v : V} {d : D} (q : Rep k F v d) (x : Kk) : ∀ {kvs : List (Key × V)} {ks : List (Kk × D)}, RepK k F kvs ks → RepK k F (kvs.map fun kv => if kv.1 = x then (kv.1, v) else kv) (ks.map fun kv => if kv.1 = x then (kv.1, d) else kv)
  | _, _, .nil => .nil
  | _, _, .cons (x := y) h r => by
    rw [List.map_cons, List.map_cons]
    by_cases e : y = x
    · simp only [if_pos e]
      exact .cons q (RepK.repl q x r)
    · simp only [if_neg e]
      exact .cons h (RepK.repl q x r)
theorem RepK.snoc {v : V} {d : D} (q : Rep k F v d) (x : Kk) : ∀ {kvs : List (Key × V)} {ks : List (Kk × D)}, RepK k F kvs ks → RepK k F (kvs ++ [(x, v)]) (ks ++ [(x, d)])
  | _, _, .nil => .cons q .nil
  | _, _, .cons h r => .cons h (RepK.snoc q x r)
theorem RepK.put {v : V} {d : D} (q : Rep k F v d) (x : Kk) {kvs : List (Key × V)} {ks : List (Kk × D)} (r : RepK k F kvs ks) : RepK k F (putK kvs x v) (setK ks x d) := by
  unfold putK setK
  have e := r.any x
  by_cases h : (ks.any fun kv => decide (kv.1 = x)) = true
  · rw [if_pos h, if_pos (e.trans h)]
    exact r.repl q x
  · rw [if_neg h, if_neg (by rw [e]; exact h)]
    exact r.snoc q x
theorem Reps.length : ∀ {vs : List V} {ds : List D}, Reps k F vs ds → vs.length = ds.length
  | _, _, .nil => rfl
  | _, _, .cons _ r => congrArg (· + 1) r.length
theorem Reps.get : ∀ {vs : List V} {ds : List D} {i : Nat} {d : D}, Reps k F vs ds → ds[i]? = some d → ∃ v, vs[i]? = some v ∧ Rep k F v d
  | _, _, i, d, .nil, e => by simp at e
  | _, _, 0, d, .cons h r, e => by
    simp at e; subst e; exact ⟨_, rfl, h⟩
  | _, _, i + 1, d, .cons h r, e => by
    obtain ⟨v, h1, h2⟩ := Reps.get (i := i) r (by simpa using e)
    exact ⟨v, by simpa using h1, h2⟩
theorem Reps.getV : ∀ {vs : List V} {ds : List D} {i : Nat} {v : V}, Reps k F vs ds → vs[i]? = some v → ∃ d, ds[i]? = some d ∧ Rep k F v d
  | _, _, i, d, .nil, e => by simp at e
  | _, _, 0, d, .cons h r, e => by
    simp at e; subst e; exact ⟨_, rfl, h⟩
  | _, _, i + 1, d, .cons h r, e => by
    obtain ⟨v, h1, h2⟩ := Reps.getV (i := i) r (by simpa using e)
    exact ⟨v, by simpa using h1, h2⟩
theorem Reps.append : ∀ {vs us : List V} {ds es : List D}, Reps k F vs ds → Reps k F us es → Reps k F (vs ++ us) (ds ++ es)
  | _, _, _, _, .nil, s => s
  | _, _, _, _, .cons h r, s => .cons h (Reps.append r s)
theorem Reps.set {v : V} {d : D} (x : Rep k F v d) : ∀ {vs : List V} {ds : List D} (i : Nat), Reps k F vs ds → Reps k F (vs.set i v) (ds.set i d)
  | _, _, _, .nil => .nil
  | _, _, 0, .cons _ r => .cons x r
  | _, _, i + 1, .cons h r => .cons h (Reps.set x i r)
theorem Reps.take : ∀ {vs : List V} {ds : List D} (n : Nat), Reps k F vs ds → Reps k F (vs.take n) (ds.take n)
  | _, _, 0, _ => .nil
  | _, _, _ + 1, .nil => .nil
  | _, _, n + 1, .cons h r => .cons h (Reps.take n r)
theorem Reps.drop : ∀ {vs : List V} {ds : List D} (n : Nat), Reps k F vs ds → Reps k F (vs.drop n) (ds.drop n)
  | _, _, 0, r => r
  | _, _, _ + 1, .nil => .nil
  | _, _, n + 1, .cons _ r => Reps.drop n r
theorem RepF.look (nd : k.nm.Nodup) {n : Nat} {x : Str} (hx : k.nm[n]? = some x) : ∀ {fs : List (Str × V)} {gs : List (Nat × D)}, RepF k F fs gs →
    (∀ d, gs.lookup n = some d → ∃ v, fs.lookup x = some v ∧ Rep k F v d) ∧ (gs.lookup n = none → fs.lookup x = none)
  | _, _, .nil => ⟨fun d h => by simp at h, fun _ => rfl⟩
  | _, _, .cons (x := y) (n := m) hy h r => by
    obtain ⟨h1, h2⟩ := RepF.look nd hx r
    by_cases e : n = m
    · subst e
      rw [hx] at hy
      have e2 := Option.some.inj hy
      subst e2
      simp only [List.lookup, beq_self_eq_true]
      exact ⟨fun d z => ⟨_, rfl, by cases z; exact h⟩, fun z => by simp at z⟩
    · have ne : x ≠ y := fun z => e ((List.getElem?_inj (List.getElem?_eq_some_iff.mp hx).1 nd).mp (by rw [hx, hy, z]))
      have b1 : (n == m) = false := beq_eq_false_iff_ne.mpr e
      have b2 : (x == y) = false := beq_eq_false_iff_ne.mpr ne
      simp only [List.lookup, b1, b2]
      exact ⟨h1, h2⟩
theorem RepF.length : ∀ {fs : List (Str × V)} {gs : List (Nat × D)}, RepF k F fs gs → fs.length = gs.length
  | _, _, .nil => rfl
  | _, _, .cons _ _ r => congrArg (· + 1) r.length
theorem RepF.put (nd : k.nm.Nodup) {n : Nat} {x : Str} {v : V} {d : D} (hx : k.nm[n]? = some x) (q : Rep k F v d) : ∀ {fs : List (Str × V)} {gs : List (Nat × D)}, RepF k F fs gs → RepF k F (putF x v fs) (putN n d gs)
  | _, _, .nil => .cons hx q .nil
  | _, _, .cons (x := y) (n := m) hy h r => by
    unfold putF putN
    by_cases e : m = n
    · subst e
      rw [hx] at hy
      have e2 := Option.some.inj hy
      subst e2
      rw [if_pos rfl, if_pos rfl]
      exact .cons hx q r
    · have ne : y ≠ x := fun z => e ((List.getElem?_inj (List.getElem?_eq_some_iff.mp hy).1 nd).mp (by rw [hx, hy, z]))
      rw [if_neg e, if_neg ne]
      exact .cons hy h (RepF.put nd hx q r)
end

/-- no table of code objects -/
def NT (o : HO) : Prop := ∀ ps, o ≠ .tbl ps
/-- the owned thing at a: its parts are frozen -/
def OwnR (k : Kx) (F H : Hp) (a : Addr) : D → Prop
  | .lst ds => ∃ xs, H a = some (.lst xs) ∧ Reps k F xs ds
  | .ins c gs => ∃ C dx fs, H a = some (.ins C dx fs) ∧ k.cm c = some C ∧ RepF k F fs gs
  | .dic ks => ∃ kvs, H a = some (.dK kvs) ∧ RepK k F kvs ks
  | .dit ks => ∃ xs, H a = some (dtO k.w a xs) ∧ RepT k F xs ks
  | _ => False
def SlR (k : Kx) (F H : Hp) (v : V) : Sl → Prop
  | .frz d => Rep k F v d
  | .own d => ∃ a, v = .ref a ∧ F a = none ∧ OwnR k F H a d
def Ow (σ : St) (ρ : Env) (a : Addr) : Prop := ∃ (i : Nat) (d : D), ρ[i]? = some (some (Sl.own d)) ∧ σ[i]? = some (some (V.ref a))
structure Okk (k : Kx) (F : Hp) (σ : St) (H : Hp) (ρ : Env) : Prop where
  sub : Sub F H
  len : ρ.length = σ.length
  val : ∀ (i : Nat) (s : Sl), ρ[i]? = some (some s) → ∃ v, σ[i]? = some (some v) ∧ SlR k F H v s
  inj : ∀ (i j : Nat) (a : Addr) (d e : D), ρ[i]? = some (some (Sl.own d)) → ρ[j]? = some (some (Sl.own e)) → σ[i]? = some (some (V.ref a)) → σ[j]? = some (some (V.ref a)) → i = j
  tabs : LamX.Tabs k.T H
  fnt : ∀ b o, F b = some o → NT o
/-- something that is no table stands there -/
def Nz (H : Hp) (b : Addr) : Prop := ∃ o, H b = some o ∧ NT o
theorem Nz.keep {H H' : Hp} {b : Addr} (e : ∀ b o, H b = some o → H' b = some o) : Nz H b → Nz H' b := fun ⟨o, h, n⟩ => ⟨o, e _ _ h, n⟩
theorem nz_none {H : Hp} {b : Addr} (h : H b = none) : ¬ Nz H b := fun ⟨o, q, _⟩ => by rw [h] at q; cases q
/-- tables of code objects stay such -/
def TbS (H H' : Hp) : Prop := ∀ T, LamX.Tabs T H → LamX.Tabs T H'
theorem TbS.refl {H : Hp} : TbS H H := fun _ h => h
theorem TbS.trans {H H1 H2 : Hp} (a : TbS H H1) (b : TbS H1 H2) : TbS H H2 := fun T h => b T (a T h)
theorem TbS.of {H H' : Hp} (e : ∀ b o, H b = some o → H' b = some o) : TbS H H' := fun T h => h.ext e
/-- a list, a dict or an instance is written -/
theorem TbS.updC {H : Hp} {a : Addr} {o u : HO} (h : H a = some u) (n : ∀ ps, u ≠ .tbl ps) (n2 : ∀ q, u ≠ LamX.CodeO a q) : TbS H (upd H a o) := fun T t p hp => by
  obtain ⟨ps, h1, h2, h3⟩ := t p hp
  have e : ∀ {b w}, H b = some w → (b = a → w ≠ u) → (L2.upd H a o) b = some w := fun {b w} q ne => by
    have : b ≠ a := fun z => by
      refine ne z ?_
      rw [z, h] at q
      exact (Option.some.inj q).symm
    rw [upd_ne this]
    exact q
  refine ⟨ps, e h1 fun _ z => n ps z.symm, h2, fun pos cv hc => ?_⟩
  obtain ⟨c, e1, e2⟩ := h3 pos cv hc
  refine ⟨c, e1, e e2 fun ec z => ?_⟩
  subst ec
  exact n2 _ z.symm
theorem TbS.upd {H : Hp} {a : Addr} {o u : HO} (h : H a = some u) (n : ∀ ps, u ≠ .tbl ps) (n2 : ∀ P, u ≠ .ext P) : TbS H (upd H a o) := .updC h n fun q z => by
  unfold LamX.CodeO at z
  exact n2 _ z
/-- a dict is no code object -/
theorem dtO_ne_code {w : World} {a : Addr} {xs : List (NestedKey × Addr × V)} {q : Str} : dtO w a xs ≠ LamX.CodeO a q := fun z => by
  unfold dtO LamX.CodeO at z
  injection z with z
  let o : Obj := { cls := .none, data := .fields #[.none, .str q 0] }
  have hp : (⟨Array.replicate (a + 1) o, {}⟩ : Heap).get? a = some o := by
    unfold Heap.get?
    show (match (Array.replicate (a + 1) o)[a]? with
      | some ⟨_, _, .freed, _⟩ => none
      | x => x) = _
    rw [Array.getElem?_replicate, if_pos (Nat.lt_succ_self a)]
  have z2 := congrFun z ⟨Array.replicate (a + 1) o, {}⟩
  have q2 : ∃ (oc : Obj) (vs : Array Value) (t : Tok), (⟨Array.replicate (a + 1) o, {}⟩ : Heap).get? a = some oc ∧ oc.data = .fields vs ∧ vs[1]? = some (.str q t) := ⟨o, _, 0, hp, rfl, rfl⟩
  rw [← z2] at q2
  obtain ⟨_, _, _, _, o', es, ep, h1, _, h3, _⟩ := q2
  rw [hp] at h1
  cases h1
  cases h3
/-- what stands aside stays -/
structure Fr (F : Hp) (σ : St) (H : Hp) (ρ : Env) (F' : Hp) (σ' : St) (H' : Hp) (ρ' : Env) : Prop where
  ext : Sub F F'
  dom : ∀ b, Nz H b → Nz H' b
  keep : ∀ b o, NT o → H b = some o → F b = none → ¬ Ow σ ρ b → H' b = some o ∧ F' b = none ∧ ¬ Ow σ' ρ' b
theorem Fr.refl {F : Hp} {σ : St} {H : Hp} {ρ : Env} : Fr F σ H ρ F σ H ρ := ⟨fun _ _ h => h, fun _ h => h, fun _ _ _ h f n => ⟨h, f, n⟩⟩
theorem Fr.trans {F F1 F2 : Hp} {σ σ1 σ2 : St} {H H1 H2 : Hp} {ρ ρ1 ρ2 : Env} (a : Fr F σ H ρ F1 σ1 H1 ρ1) (b : Fr F1 σ1 H1 ρ1 F2 σ2 H2 ρ2) : Fr F σ H ρ F2 σ2 H2 ρ2 :=
  ⟨fun _ _ h => b.ext _ _ (a.ext _ _ h), fun _ h => b.dom _ (a.dom _ h), fun c o nt h f n => let ⟨h1, f1, n1⟩ := a.keep c o nt h f n; b.keep c o nt h1 f1 n1⟩
/-- a value that came out -/
def RsR (k : Kx) (F' H' : Hp) (σ : St) (ρ' : Env) (H0 : Hp) (v : V) : Sl → Prop
  | .frz d => Rep k F' v d
  | .own d => ∃ a, v = .ref a ∧ F' a = none ∧ OwnR k F' H' a d ∧ ¬ Ow σ ρ' a ∧ ¬ Nz H0 a
/-- read where it stands -/
def PkV (k : Kx) (F H : Hp) (v : V) (d : D) : Prop := Rep k F v d ∨ ∃ a, v = .ref a ∧ OwnR k F H a d

section
variable {k : Kx} {F F' H H' H0 : Hp} {σ : St} {ρ ρ' : Env} {v : V} {s : Sl} {a : Addr} {o : HO} {d : D}
theorem dom_upd (n : NT o) : ∀ b, Nz H b → Nz (upd H a o) b := fun b ⟨u, z, nu⟩ => by
  by_cases hb : b = a
  · subst hb; exact ⟨o, upd_same, n⟩
  · exact ⟨u, by rw [upd_ne hb]; exact z, nu⟩
theorem fnt_upd (h : ∀ b o, F b = some o → NT o) (n : NT o) : ∀ b u, upd F a o b = some u → NT u := fun b u q => by
  by_cases hb : b = a
  · subst hb; rw [upd_same] at q; cases q; exact n
  · rw [upd_ne hb] at q; exact h b u q
theorem none_of_sub (e : Sub F H) (h : H a = none) : F a = none := by
  cases q : F a with
  | none => rfl
  | some u => rw [e _ _ q] at h; cases h
theorem sub_upd_new (h : F a = none) : Sub F (upd F a o) := fun b u q => by
  rw [upd_ne (ne_of_none q h)]; exact q
theorem sub_upd (e : Sub F H) (h : H a = some o) : Sub (upd F a o) H := fun b u q => by
  by_cases hb : b = a
  · subst hb; rw [upd_same] at q; cases q; exact h
  · rw [upd_ne hb] at q; exact e _ _ q
theorem OwnR.mono (e : Sub F F') : ∀ {d : D}, OwnR k F H a d → OwnR k F' H a d
  | .lst ds, ⟨xs, h, r⟩ => ⟨xs, h, r.mono e⟩
  | .ins c gs, ⟨C, dx, fs, h, c1, r⟩ => ⟨C, dx, fs, h, c1, r.mono e⟩
  | .dic ks, ⟨kvs, h, r⟩ => ⟨kvs, h, r.mono e⟩
  | .dit ks, ⟨kvs, h, r⟩ => ⟨kvs, h, r.mono e⟩
theorem OwnR.heap (e : ∀ o, H a = some o → H' a = some o) : ∀ {d : D}, OwnR k F H a d → OwnR k F H' a d
  | .lst ds, ⟨xs, h, r⟩ => ⟨xs, e _ h, r⟩
  | .ins c gs, ⟨C, dx, fs, h, c1, r⟩ => ⟨C, dx, fs, e _ h, c1, r⟩
  | .dic ks, ⟨kvs, h, r⟩ => ⟨kvs, e _ h, r⟩
  | .dit ks, ⟨kvs, h, r⟩ => ⟨kvs, e _ h, r⟩
theorem OwnR.at : ∀ {d : D}, OwnR k F H a d → ∃ o, H a = some o
  | .lst ds, ⟨xs, h, r⟩ => ⟨_, h⟩
  | .ins c gs, ⟨C, dx, fs, h, c1, r⟩ => ⟨_, h⟩
  | .dic ks, ⟨kvs, h, r⟩ => ⟨_, h⟩
  | .dit ks, ⟨kvs, h, r⟩ => ⟨_, h⟩
/-- it is frozen where it stands -/
theorem OwnR.freeze (fa : F a = none) : ∀ {d : D}, OwnR k F H a d → ∃ o, H a = some o ∧ Rep k (upd F a o) (.ref a) d
  | .lst ds, ⟨xs, h, r⟩ => ⟨_, h, .lst (.inl upd_same) (r.mono (sub_upd_new fa))⟩
  | .ins c gs, ⟨C, dx, fs, h, c1, r⟩ => ⟨_, h, .ins upd_same c1 (r.mono (sub_upd_new fa))⟩
  | .dic ks, ⟨kvs, h, r⟩ => ⟨_, h, .dic (.inl upd_same) (r.mono (sub_upd_new fa))⟩
  | .dit ks, ⟨kvs, h, r⟩ => ⟨_, h, .dit upd_same (r.mono (sub_upd_new fa))⟩
theorem Okk.ownAt (K1 : Okk k F σ H ρ) (h : Ow σ ρ a) : F a = none ∧ ∃ o, H a = some o := by
  obtain ⟨i, d, h1, h2⟩ := h
  obtain ⟨v, h3, b, h4, h5, h6⟩ := K1.val i _ h1
  rw [h2] at h3
  cases h3
  cases h4
  exact ⟨h5, h6.at⟩
theorem OwnR.nt : ∀ {d : D}, OwnR k F H a d → ∀ {o : HO}, H a = some o → NT o ∧ ∀ q, o ≠ LamX.CodeO a q
  | .lst ds, ⟨xs, h, r⟩, o, q => by
    rw [h] at q
    cases q
    exact ⟨fun ps z => (nomatch z), fun P z => by unfold LamX.CodeO at z; cases z⟩
  | .ins c gs, ⟨C, dx, fs, h, c1, r⟩, o, q => by
    rw [h] at q
    cases q
    exact ⟨fun ps z => (nomatch z), fun P z => by unfold LamX.CodeO at z; cases z⟩
  | .dic ks, ⟨kvs, h, r⟩, o, q => by
    rw [h] at q
    cases q
    exact ⟨fun ps z => (nomatch z), fun P z => by unfold LamX.CodeO at z; cases z⟩
  | .dit ks, ⟨kvs, h, r⟩, o, q => by
    rw [h] at q
    cases q
    exact ⟨fun ps z => (by unfold dtO at z; cases z), fun P z => dtO_ne_code z⟩
/-- what is owned is no table -/
theorem Okk.ownNT (K1 : Okk k F σ H ρ) (h : Ow σ ρ a) (q : H a = some o) : NT o ∧ ∀ q, o ≠ LamX.CodeO a q := by
  obtain ⟨i, d, h1, h2⟩ := h
  obtain ⟨v, h3, b, h4, h5, h6⟩ := K1.val i _ h1
  rw [h2] at h3
  cases h3
  cases h4
  exact h6.nt q
theorem SlR.mono (e : Sub F F') (n : ∀ a, v = .ref a → s.d = s.d → F a = none → (∃ d, s = .own d) → F' a = none) : SlR k F H v s → SlR k F' H v s := by
  cases s with
  | frz d => exact fun h => h.mono e
  | own d =>
    rintro ⟨a, h1, h2, h3⟩
    exact ⟨a, h1, n a h1 rfl h2 ⟨d, rfl⟩, h3.mono e⟩
/-- more is frozen: nothing owned -/
theorem Okk.grow (K1 : Okk k F σ H ρ) (e : Sub F F') (s1 : Sub F' H) (n : ∀ a, Ow σ ρ a → F' a = none) (ft : ∀ b o, F' b = some o → NT o) : Okk k F' σ H ρ :=
  ⟨s1, K1.len, fun i s h => by
    obtain ⟨v, h1, h2⟩ := K1.val i s h
    refine ⟨v, h1, h2.mono e fun a h3 _ _ ⟨d, h4⟩ => ?_⟩
    subst h3; subst h4
    exact n a ⟨i, d, h, h1⟩, K1.inj, K1.tabs, ft⟩
/-- a heap that keeps what is frozen and owned -/
theorem Okk.heap (K1 : Okk k F σ H ρ) (s1 : Sub F H') (n : ∀ a o, Ow σ ρ a → H a = some o → H' a = some o) (tb : TbS H H') : Okk k F σ H' ρ :=
  ⟨s1, K1.len, fun i s h => by
    obtain ⟨v, h1, h2⟩ := K1.val i s h
    refine ⟨v, h1, ?_⟩
    cases s with
    | frz d => exact h2
    | own d =>
      obtain ⟨a, h3, h4, h5⟩ := h2
      subst h3
      exact ⟨a, rfl, h4, h5.heap fun o q => n a o ⟨i, d, h, h1⟩ q⟩, K1.inj, tb _ K1.tabs, K1.fnt⟩
/-- what came out is frozen -/
theorem freeze (K1 : Okk k F' σ H' ρ') (f : Fr F σ H ρ F' σ H' ρ') (r : RsR k F' H' σ ρ' H v s) : ∃ F'', Okk k F'' σ H' ρ' ∧ Fr F σ H ρ F'' σ H' ρ' ∧ Rep k F'' v s.d := by
  cases s with
  | frz d => exact ⟨F', K1, f, r⟩
  | own d =>
    obtain ⟨a, rfl, h1, h2, h3, h4⟩ := r
    obtain ⟨o, h5, h6⟩ := h2.freeze h1
    refine ⟨upd F' a o, K1.grow (sub_upd_new h1) (sub_upd K1.sub h5) (fun b hb => ?_) (fnt_upd K1.fnt (h2.nt h5).1), ⟨fun b u q => sub_upd_new h1 _ _ (f.ext b u q), f.dom, fun b u nt q1 q2 q3 => ?_⟩, h6⟩
    · have : b ≠ a := fun z => h3 (z ▸ hb)
      rw [upd_ne this]
      exact (K1.ownAt hb).1
    · obtain ⟨z1, z2, z3⟩ := f.keep b u nt q1 q2 q3
      have : b ≠ a := fun z => h4 (z ▸ ⟨u, q1, nt⟩)
      exact ⟨z1, by rw [upd_ne this]; exact z2, z3⟩
theorem SlR.pk (h : SlR k F H v s) : PkV k F H v s.d := by
  cases s with
  | frz d => exact .inl h
  | own d => obtain ⟨a, h1, _, h2⟩ := h; exact .inr ⟨a, h1, h2⟩

/-- what an operation leaves -/
inductive New (k : Kx) (F H : Hp) : Hp → Hp → V → Sl → Prop
  | same {v : V} {d : D} : Rep k F v d → New k F H F H v (.frz d)
  | own {p : Addr} {o : HO} {d : D} : H p = none → OwnR k F (upd H p o) p d → New k F H F (upd H p o) (.ref p) (.own d)
  | frz {p : Addr} {o : HO} {d : D} : H p = none → NT o → Rep k (upd F p o) (.ref p) d → New k F H (upd F p o) (upd H p o) (.ref p) (.frz d)
theorem not_ow_new (K1 : Okk k F σ H ρ) (h : H a = none) : ¬ Ow σ ρ a := fun z => by
  obtain ⟨_, o, q⟩ := K1.ownAt z
  rw [h] at q; cases q
theorem Okk.new (K1 : Okk k F σ H ρ) (n : New k F H F' H' v s) : Okk k F' σ H' ρ ∧ Fr F σ H ρ F' σ H' ρ ∧ RsR k F' H' σ ρ H v s := by
  cases n with
  | same h => exact ⟨K1, .refl, h⟩
  | @own p o d h1 h2 =>
    have hk : ∀ b u, H b = some u → upd H p o b = some u := fun b u q => by rw [upd_ne (ne_of_none q h1)]; exact q
    refine ⟨K1.heap (fun b u q => hk _ _ (K1.sub b u q)) (fun b u _ q => hk b u q) (.of hk), ⟨fun _ _ q => q, fun b q => q.keep hk, fun b u _ q1 q2 q3 => ⟨hk _ _ q1, q2, q3⟩⟩, p, rfl, none_of_sub K1.sub h1, h2, not_ow_new K1 h1, nz_none h1⟩
  | @frz p o d h1 hn h2 =>
    have hk : ∀ b u, H b = some u → upd H p o b = some u := fun b u q => by rw [upd_ne (ne_of_none q h1)]; exact q
    have hf := none_of_sub K1.sub h1
    have K2 : Okk k F σ (upd H p o) ρ := K1.heap (fun b u q => hk _ _ (K1.sub b u q)) (fun b u _ q => hk b u q) (.of hk)
    refine ⟨K2.grow (sub_upd_new hf) (sub_upd K2.sub upd_same) (fun b hb => ?_) (fnt_upd K2.fnt hn), ⟨sub_upd_new hf, fun b q => q.keep hk, fun b u _ q1 q2 q3 => ⟨hk _ _ q1, by rw [upd_ne (ne_of_none q1 h1)]; exact q2, q3⟩⟩, h2⟩
    · have : b ≠ p := fun z => not_ow_new K1 h1 (z ▸ hb)
      rw [upd_ne this]
      exact (K2.ownAt hb).1
end
end Rx

set_option Elab.async false
set_option linter.all false
set_option maxRecDepth 100000
/-! Rx3: readings by the evaluator. -/
namespace Rx
open PySem PySem.Spec PyProof.Rows L2

/-- an exception of the class c with the fields gs -/
def ExV (k : Kx) (F' H' : Hp) (c : Nat) (gs : List (Nat × D)) (cls : Value) (d : Option Addr) : Prop :=
  ∃ C dd fs, cls = .ref C ∧ k.ce c = some C ∧ d = some dd ∧ H' dd = some (.xd fs) ∧ RepF k F' fs gs ∧ LamX.Tabs k.T H'
structure FrX (F : Hp) (σ : St) (H : Hp) (ρ : Env) (F' H' : Hp) : Prop where
  ext : Sub F F'
  dom : ∀ b, Nz H b → Nz H' b
  keep : ∀ b o, NT o → H b = some o → F b = none → ¬ Ow σ ρ b → H' b = some o ∧ F' b = none
  fnt : ∀ b o, F' b = some o → NT o
theorem Fr.x {F F1 F2 : Hp} {σ σ1 : St} {H H1 H2 : Hp} {ρ ρ1 : Env} (a : Fr F σ H ρ F1 σ1 H1 ρ1) (b : FrX F1 σ1 H1 ρ1 F2 H2) : FrX F σ H ρ F2 H2 :=
  ⟨fun _ _ h => b.ext _ _ (a.ext _ _ h), fun _ h => b.dom _ (a.dom _ h), fun c o nt h f n => let ⟨h1, f1, n1⟩ := a.keep c o nt h f n; b.keep c o nt h1 f1 n1, b.fnt⟩
/-- what is known behind a run: it came to an end where P holds, or an exception goes where E wants it -/
def Post {α : Type} (k : Kx) (E : XK) (F H : Hp) (σ : St) (ρ : Env) (r : R (α × Env)) (P : α → Env → Hp → Hp → Prop) : Prop := match r with
  | .ok (a, ρ') => ∀ F' H', Okk k F' σ H' ρ' → Fr F σ H ρ F' σ H' ρ' → P a ρ' F' H'
  | .exc c gs => ∀ cls d F' H', Sub F' H' → FrX F σ H ρ F' H' → ExV k F' H' c gs cls d → E cls d H'
  | .stuck => False
section
variable {k : Kx} {E : XK} {F H F' H' : Hp} {σ : St} {ρ ρ' : Env} {α β : Type}
theorem Post.split {f : R (α × Env)} {g : α × Env → R (β × Env)} {P : β → Env → Hp → Hp → Prop} (h : Post k E F H σ ρ (f.bind g) P) :
    Post k E F H σ ρ f (fun a ρ1 F1 H1 => Post k E F1 H1 σ ρ1 (g (a, ρ1)) P) := by
  cases f with
  | ok a =>
    obtain ⟨a, ρ1⟩ := a
    intro F1 H1 K1 f1
    show Post k E F1 H1 σ ρ1 (g (a, ρ1)) P
    have h' : Post k E F H σ ρ (g (a, ρ1)) P := h
    cases q : g (a, ρ1) with
    | ok b =>
      obtain ⟨b, ρ2⟩ := b
      rw [q] at h'
      exact fun F2 H2 K2 f2 => h' F2 H2 K2 (f1.trans f2)
    | exc c gs =>
      rw [q] at h'
      exact fun cls d F2 H2 s2 f2 x => h' cls d F2 H2 s2 (f1.x f2) x
    | stuck =>
      rw [q] at h'
      exact h'
  | exc c gs => exact h
  | stuck => exact h
theorem Post.mono {f : R (α × Env)} {P P' : α → Env → Hp → Hp → Prop} (h : Post k E F H σ ρ f P) (m : ∀ a ρ1 F1 H1, Okk k F1 σ H1 ρ1 → Fr F σ H ρ F1 σ H1 ρ1 → P a ρ1 F1 H1 → P' a ρ1 F1 H1) : Post k E F H σ ρ f P' := by
  cases f with
  | ok a =>
    obtain ⟨a, ρ1⟩ := a
    exact fun F1 H1 K1 f1 => m _ _ _ _ K1 f1 (h F1 H1 K1 f1)
  | exc c gs => exact h
  | stuck => exact h
/-- it has come to an end -/
theorem Post.done {a : α} {P : α → Env → Hp → Hp → Prop} (h : Post k E F H σ ρ (.ok (a, ρ')) P) (K1 : Okk k F' σ H' ρ') (f : Fr F σ H ρ F' σ H' ρ') : P a ρ' F' H' := h F' H' K1 f
theorem Post.here {a : α} {P : α → Env → Hp → Hp → Prop} (h : Post k E F H σ ρ (.ok (a, ρ)) P) (K1 : Okk k F σ H ρ) : P a ρ F H := h F H K1 .refl
/-- a step that only looks -/
theorem Post.look {γ : Type} {r : R γ} {g : γ → R (β × Env)} {P : β → Env → Hp → Hp → Prop} (h : Post k E F H σ ρ (r.bind g) P) : (∃ x, r = .ok x ∧ Post k E F H σ ρ (g x) P) ∨ (∃ c gs, r = .exc c gs) := by
  cases r with
  | ok x => exact .inl ⟨x, rfl, h⟩
  | exc c gs => exact .inr ⟨c, gs, rfl⟩
  | stuck => exact h.elim
end

/-- an expression's reading by its run; the value frozen; an operand; a test; arguments -/
def tS (k : Kx) (E : XK) (f : Env → R (Sl × Env)) : TE := fun σ H Q => ∃ F ρ, Okk k F σ H ρ ∧ Post k E F H σ ρ (f ρ) fun s ρ' F' H' => ∀ v, RsR k F' H' σ ρ' H v s → Q v H'
def tF (k : Kx) (E : XK) (f : Env → R (Sl × Env)) : TE := fun σ H Q => ∃ F ρ, Okk k F σ H ρ ∧ Post k E F H σ ρ (f ρ) fun s ρ' F' H' => ∀ v, Rep k F' v s.d → Q v H'
def PvR (k : Kx) (F : Hp) (σ : St) (v : V) : Pv → Prop
  | .inl d => Rep k F v d
  | .inr j => σ[j]? = some (some v)
abbrev PvRs (k : Kx) (F : Hp) (σ : St) : List V → List Pv → Prop := Paired (PvR k F σ)
def tP (k : Kx) (E : XK) (f : Env → R (Pv × Env)) : TE := fun σ H Q => ∃ F ρ, Okk k F σ H ρ ∧ Post k E F H σ ρ (f ρ) fun p ρ' F' H' => ∀ v, PvR k F' σ v p → Q v H'
def tT (k : Kx) (E : XK) (f : Env → R (Bool × Env)) : TT := fun σ H Q => ∃ F ρ, Okk k F σ H ρ ∧ Post k E F H σ ρ (f ρ) fun b ρ' F' H' => Q b H'
def tA (k : Kx) (E : XK) (f : Env → R (List Pv × Env)) : TA := fun σ H Q => ∃ F ρ, Okk k F σ H ρ ∧ Post k E F H σ ρ (f ρ) fun ps ρ' F' H' => ∀ vs, PvRs k F' σ vs ps → Q vs H'

theorem pe_weak {X : Cx} {e : Expr} {t t' : TE} (h : PE X e t) (w : ∀ σ H Q, t' σ H Q → t σ H Q) : PE X e t' := ⟨fun pins s σ H Q I q => h.run pins s σ H Q I (w σ H Q q)⟩
theorem pt_weak {X : Cx} {e : Expr} {t t' : TT} (h : PT X e t) (w : ∀ σ H Q, t' σ H Q → t σ H Q) : PT X e t' := ⟨fun pins s σ H Q I q => h.run pins s σ H Q I (w σ H Q q)⟩
theorem pw_weak {X : Cx} {e : Expr} {t t' : TT} (h : PW X e t) (w : ∀ σ H Q, t' σ H Q → t σ H Q) : PW X e t' := ⟨fun wh pins s σ H Q I q => h.run wh pins s σ H Q I (w σ H Q q)⟩
theorem pa_weak {X : Cx} {es : List Expr} {t t' : TA} (h : PA X es t) (w : ∀ σ H Q, t' σ H Q → t σ H Q) : PA X es t' := ⟨fun pos pins s σ H Q I q => h.run pos pins s σ H Q I (w σ H Q q)⟩
theorem ps_weak {X : Cx} {e : Stmt} {t t' : TS} (h : PS X e t) (w : ∀ D σ H, t' D σ H → t D σ H) : PS X e t' := ⟨fun pins s σ H D I q => h.run pins s σ H D I (w D σ H q)⟩
theorem pss_weak {X : Cx} {e : List Stmt} {t t' : TS} (h : PSs X e t) (w : ∀ D σ H, t' D σ H → t D σ H) : PSs X e t' := ⟨fun pins s σ H D I q => h.run pins s σ H D I (w D σ H q)⟩
/-- several rules for one expression -/
theorem pe_any {X : Cx} {e : Expr} {ι : Type} {t : ι → TE} (h : ∀ i, PE X e (t i)) : PE X e (fun σ H Q => ∃ i, t i σ H Q) := ⟨fun pins s σ H Q I ⟨i, q⟩ => (h i).run pins s σ H Q I q⟩
theorem pt_any {X : Cx} {e : Expr} {ι : Type} {t : ι → TT} (h : ∀ i, PT X e (t i)) : PT X e (fun σ H Q => ∃ i, t i σ H Q) := ⟨fun pins s σ H Q I ⟨i, q⟩ => (h i).run pins s σ H Q I q⟩
theorem pi_any {X : Cx} {tg e : Expr} {ι : Type} {t : ι → TI} (h : ∀ i, PI X tg e (t i)) : PI X tg e (fun σ H Q => ∃ i, t i σ H Q) := ⟨fun pins s σ H R I ⟨i, q⟩ => (h i).run pins s σ H R I q⟩
theorem opr_any {X : Cx} {f : Value → Value → Sem Value} {ι : Type} {r : ι → R2} (h : ∀ i, OpR X f (r i)) : OpR X f (fun x y H Q => ∃ i, r i x y H Q) := fun pins s σ H x y v u Q I rx ry ⟨i, q⟩ => h i pins s σ H x y v u Q I rx ry q
theorem callr_any {X : Cx} {f : Value} {ι : Type} {r : ι → List V → Hp → VK → Prop} (h : ∀ i, CallR X f (r i)) : CallR X f (fun xs H Q => ∃ i, r i xs H Q) := fun pins s σ H xs us Q I rx ⟨i, q⟩ => h i pins s σ H xs us Q I rx q

theorem slot_ok {ρ : Env} {j : Nat} {s : Sl} (h : slot ρ j = .ok s) : ρ[j]? = some (some s) := by
  unfold slot at h
  split at h
  · rename_i hs
    cases h
    exact hs
  · cases h
theorem slot_noexc {ρ : Env} {j : Nat} {c : Nat} {gs : List (Nat × D)} : slot ρ j ≠ .exc c gs := fun h => by
  unfold slot at h
  split at h <;> cases h
section
variable {X : Cx} {k : Kx} {E : XK} {F H F' H' H0 : Hp} {σ : St} {ρ ρ' : Env} {e : Expr} {v : V} {s : Sl}
theorem PvR.mono (x : Sub F F') : ∀ {p : Pv}, PvR k F σ v p → PvR k F' σ v p
  | .inl d, h => Rep.mono x h
  | .inr j, h => h
theorem PvRs.mono (x : Sub F F') : ∀ {vs : List V} {ps : List Pv}, PvRs k F σ vs ps → PvRs k F' σ vs ps
  | _, _, .nil => .nil
  | _, _, .cons h r => .cons (PvR.mono x h) (PvRs.mono x r)
theorem RsR.back (d : ∀ b, Nz H0 b → Nz H b) (h : RsR k F' H' σ ρ' H v s) : RsR k F' H' σ ρ' H0 v s := by
  cases s with
  | frz d => exact h
  | own d' =>
    obtain ⟨a, h1, h2, h3, h4, h5⟩ := h
    exact ⟨a, h1, h2, h3, h4, fun z => h5 (d a z)⟩
/-- from a run to a run whose value is frozen -/
theorem tF_tS {f : Env → R (Sl × Env)} {Q : VK} (h : tF k E f σ H Q) : tS k E f σ H Q := by
  obtain ⟨F, ρ, K1, p⟩ := h
  refine ⟨F, ρ, K1, ?_⟩
  cases q : f ρ with
  | ok a =>
    obtain ⟨s, ρ1⟩ := a
    rw [q] at p
    intro F1 H1 K2 f1 v r
    obtain ⟨F2, K3, f2, r2⟩ := freeze K2 f1 r
    exact p F2 H1 K3 f2 v r2
  | exc c gs => rw [q] at p; exact p
  | stuck => rw [q] at p; exact p
theorem pe_fz {f : Env → R (Sl × Env)} (h : PE X e (tS k E f)) : PE X e (tF k E f) := pe_weak h fun _ _ _ => tF_tS
/-- an operand that is evaluated -/
theorem pe_opd {f : Env → R (Sl × Env)} (h : PE X e (tS k E f)) : PE X e (tP k E fun ρ => (f ρ).bind fun x => .ok (.inl x.1.d, x.2)) := pe_weak (pe_fz h) fun σ H Q ⟨F, ρ, K1, p⟩ =>
  ⟨F, ρ, K1, p.split.mono fun s ρ1 F1 H1 K2 f1 p1 v r => p1.here K2 v r⟩
/-- an operand that is a name, read where it stands -/
theorem pe_bor {i : Nat} (h : PE X e (tVar i)) : PE X e (tP k E fun ρ => (slot ρ i).bind fun _ => .ok (.inr i, ρ)) := pe_weak h fun σ H Q ⟨F, ρ, K1, p⟩ => by
  rcases Post.look p with ⟨s, h0, p1⟩ | ⟨c, gs, z⟩
  · obtain ⟨v, h1, h2⟩ := K1.val i s (slot_ok h0)
    exact ⟨v, h1, p1.here K1 v h1⟩
  · exact absurd z slot_noexc
end

/-! ### operands in a row -/
def seqF : List (Env → R (Pv × Env)) → Env → R (List Pv × Env)
  | [], ρ => .ok ([], ρ)
  | f :: fs, ρ => (f ρ).bind fun x => (seqF fs x.2).bind fun r => .ok (x.1 :: r.1, r.2)
def notStar : Expr → Bool
  | .Starred _ _ => false
  | _ => true
theorem starEach_plain {e : Expr} {es : List Expr} {env : PySem.Env} (h : notStar e = true) : starEach (e :: es) env = (false, eval e env) :: starEach es env := by
  cases e <;> first | rfl | (simp [notStar] at h)
theorem noStars {env : PySem.Env} {pos : Pos} : ∀ {es : List Expr}, (es.all notStar) = true → (backTo pos (starEach es env)).any (·.1) = false
  | [], _ => rfl
  | e :: es, h => by
    rw [List.all_cons, Bool.and_eq_true] at h
    rw [starEach_plain h.1]
    have ih := noStars (env := env) (pos := pos) h.2
    unfold backTo at ih ⊢
    rw [List.map_cons, List.any_cons, ih]
    rfl
/-- each operand has its run -/
inductive PCs (X : Cx) (k : Kx) (E : XK) : List Expr → List (Env → R (Pv × Env)) → Prop
  | nil : PCs X k E [] []
  | cons {e : Expr} {es : List Expr} {f : Env → R (Pv × Env)} {fs : List (Env → R (Pv × Env))} : notStar e = true → PE X e (tP k E f) → PCs X k E es fs → PCs X k E (e :: es) (f :: fs)
section
variable {X : Cx} {k : Kx} {E : XK} {F H : Hp} {σ : St} {ρ : Env}
theorem PCs.plain : ∀ {es : List Expr} {fs : List (Env → R (Pv × Env))}, PCs X k E es fs → es.all notStar = true
  | _, _, .nil => rfl
  | _, _, .cons h _ r => by rw [List.all_cons, h, r.plain]; rfl
theorem PCs.pa : ∀ {es : List Expr} {fs : List (Env → R (Pv × Env))}, PCs X k E es fs → PA X es (tA k E (seqF fs))
  | _, _, .nil => pa_weak pa_nil fun σ H Q ⟨F, ρ, K1, p⟩ => p.here K1 [] .nil
  | _, _, .cons (f := f) (fs := fs) n h r => pa_weak (pa_cons h r.pa (starEach_plain n)) fun σ H Q ⟨F, ρ, K1, p⟩ =>
    ⟨F, ρ, K1, Post.mono (Post.split p) fun x ρ1 F1 H1 K2 f1 p1 v hv => ⟨F1, ρ1, K2, Post.mono (Post.split p1) fun xs ρ2 F2 H2 K3 f2 p2 vs hvs =>
      p2.here K3 (v :: vs) (.cons (hv.mono f2.ext) hvs)⟩⟩
theorem Okk.pk (K1 : Okk k F σ H ρ) : ∀ {vs : List V} {ps : List Pv} {ds : List D}, PvRs k F σ vs ps → rs ρ ps = .ok ds → Paired (PkV k F H) vs ds
  | _, _, ds, .nil, e => by
    cases e; exact .nil
  | _, .inl d :: ps, ds, .cons h r, e => by
    unfold rs at e
    cases q : rs ρ ps with
    | ok es =>
      rw [q] at e
      cases e
      exact .cons (.inl h) (K1.pk r q)
    | exc c gs => rw [q] at e; cases e
    | stuck => rw [q] at e; cases e
  | _, .inr j :: ps, ds, .cons h r, e => by
    unfold rs slot at e
    split at e
    · rename_i s hs
      obtain ⟨v, h1, h2⟩ := K1.val j s hs
      have hv : σ[j]? = some (some _) := h
      rw [h1] at hv
      cases hv
      cases q : rs ρ ps with
      | ok es =>
        rw [q] at e
        cases e
        exact .cons h2.pk (K1.pk r q)
      | exc c gs => rw [q] at e; cases e
      | stuck => rw [q] at e; cases e
    · cases e
theorem rs_noexc : ∀ {ps : List Pv} {c : Nat} {gs : List (Nat × D)}, rs ρ ps ≠ .exc c gs
  | [], _, _, h => by cases h
  | .inl d :: ps, c, gs, h => by
    unfold rs at h
    cases q : rs ρ ps with
    | ok es => rw [q] at h; cases h
    | exc c gs => exact rs_noexc q
    | stuck => rw [q] at h; cases h
  | .inr j :: ps, c, gs, h => by
    unfold rs slot at h
    split at h
    · cases q : rs ρ ps with
      | ok es => rw [q] at h; cases h
      | exc c gs => exact rs_noexc q
      | stuck => rw [q] at h; cases h
    · cases h
theorem frzs_noexc : ∀ {ps : List Pv} {c : Nat} {gs : List (Nat × D)}, frzs ps ≠ .exc c gs
  | [], _, _, h => by cases h
  | .inl d :: ps, c, gs, h => by
    unfold frzs at h
    cases q : frzs ps with
    | ok es => rw [q] at h; cases h
    | exc c gs => exact frzs_noexc q
    | stuck => rw [q] at h; cases h
  | .inr j :: ps, c, gs, h => by
    cases h
theorem frzs_rep : ∀ {vs : List V} {ps : List Pv} {ds : List D}, PvRs k F σ vs ps → frzs ps = .ok ds → Reps k F vs ds
  | _, _, ds, .nil, e => by
    cases e; exact .nil
  | _, .inl d :: ps, ds, .cons h r, e => by
    unfold frzs at e
    cases q : frzs ps with
    | ok es =>
      rw [q] at e
      cases e
      exact .cons h (frzs_rep r q)
    | exc c gs => rw [q] at e; cases e
    | stuck => rw [q] at e; cases e
  | _, .inr j :: ps, ds, .cons h r, e => by cases e
/-- behind the operands: where they were read in place; where they were frozen -/
theorem Post.rs {β : Type} {ps : List Pv} {h : List D → R (β × Env)} {P : β → Env → Hp → Hp → Prop} (p : Post k E F H σ ρ ((Rx.rs ρ ps).bind h) P) : ∃ ds, Rx.rs ρ ps = .ok ds ∧ Post k E F H σ ρ (h ds) P := by
  rcases p.look with ⟨x, h1, h2⟩ | ⟨c, gs, z⟩
  · exact ⟨x, h1, h2⟩
  · exact absurd z rs_noexc
theorem Post.frzs {β : Type} {ps : List Pv} {h : List D → R (β × Env)} {P : β → Env → Hp → Hp → Prop} (p : Post k E F H σ ρ ((Rx.frzs ps).bind h) P) : ∃ ds, Rx.frzs ps = .ok ds ∧ Post k E F H σ ρ (h ds) P := by
  rcases p.look with ⟨x, h1, h2⟩ | ⟨c, gs, z⟩
  · exact ⟨x, h1, h2⟩
  · exact absurd z frzs_noexc
end

theorem R.assoc {α β γ : Type} (r : R α) (f : α → R β) (g : β → R γ) : (r.bind f).bind g = r.bind fun x => (f x).bind g := by
  cases r <;> rfl
/-- an operation on what its operands came to, read in place or frozen -/
def opP (pk : Bool) (fs : List (Env → R (Pv × Env))) (ap : List D → R Sl) (ρ : Env) : R (Sl × Env) :=
  (seqF fs ρ).bind fun r => (if pk then rs r.2 r.1 else frzs r.1).bind fun ds => (ap ds).bind fun s => .ok (s, r.2)
section
variable {X : Cx} {k : Kx} {E : XK} {F H : Hp} {σ : St} {ρ : Env} {Q : VK} {ap : List D → R Sl}
def Fin (k : Kx) (E : XK) (F H : Hp) (σ : St) (H0 : Hp) (ρ : Env) (r : R Sl) (Q : VK) : Prop := Post k E F H σ ρ (r.bind fun s => .ok (s, ρ)) fun s ρ' F' H' => ∀ v, RsR k F' H' σ ρ' H0 v s → Q v H'
theorem run1 {f1 : Env → R (Pv × Env)} (h : tS k E (opP true [f1] ap) σ H Q) :
    tP k E f1 σ H fun x H1 => ∃ F1 ρ1 dx, Okk k F1 σ H1 ρ1 ∧ PkV k F1 H1 x dx ∧ (∀ b, Nz H b → Nz H1 b) ∧ Fin k E F1 H1 σ H ρ1 (ap [dx]) Q := by
  obtain ⟨F, ρ, K1, p⟩ := h
  refine ⟨F, ρ, K1, ?_⟩
  unfold opP seqF at p
  rw [R.assoc] at p
  refine p.split.mono fun x ρ1 F1 H1 K2 f1 p1 v hv => ?_
  obtain ⟨ds, h1, p2⟩ := Post.rs (ps := [x]) p1
  have hp := K2.pk (vs := [v]) (.cons hv .nil) h1
  cases hp with
  | cons hx hn =>
    cases hn
    exact ⟨F1, ρ1, _, K2, hx, f1.dom, p2⟩
theorem run2 {f1 f2 : Env → R (Pv × Env)} (h : tS k E (opP true [f1, f2] ap) σ H Q) :
    tP k E f1 σ H fun x H1 => tP k E f2 σ H1 fun y H2 => ∃ F2 ρ2 dx dy, Okk k F2 σ H2 ρ2 ∧ PkV k F2 H2 x dx ∧ PkV k F2 H2 y dy ∧ (∀ b, Nz H b → Nz H2 b) ∧ Fin k E F2 H2 σ H ρ2 (ap [dx, dy]) Q := by
  obtain ⟨F, ρ, K1, p⟩ := h
  refine ⟨F, ρ, K1, ?_⟩
  unfold opP seqF at p
  rw [R.assoc] at p
  refine p.split.mono fun x ρ1 F1 H1 K2 f1 p1 v hv => ⟨F1, ρ1, K2, ?_⟩
  unfold seqF at p1
  rw [R.assoc, R.assoc] at p1
  refine p1.split.mono fun y ρ2 F2 H2 K3 f2 p2 u hu => ?_
  obtain ⟨ds, h1, p3⟩ := Post.rs (ps := [x, y]) p2
  have hp := K3.pk (vs := [v, u]) (.cons (hv.mono f2.ext) (.cons hu .nil)) h1
  cases hp with
  | cons hx hn =>
    cases hn with
    | cons hy hn =>
      cases hn
      exact ⟨F2, ρ2, _, _, K3, hx, hy, fun b z => f2.dom b (f1.dom b z), p3⟩
theorem runN {fs : List (Env → R (Pv × Env))} (h : tS k E (opP true fs ap) σ H Q) :
    tA k E (seqF fs) σ H fun vs H1 => ∃ F1 ρ1 ds, Okk k F1 σ H1 ρ1 ∧ Paired (PkV k F1 H1) vs ds ∧ (∀ b, Nz H b → Nz H1 b) ∧ Fin k E F1 H1 σ H ρ1 (ap ds) Q := by
  obtain ⟨F, ρ, K1, p⟩ := h
  refine ⟨F, ρ, K1, ?_⟩
  unfold opP at p
  refine p.split.mono fun xs ρ1 F1 H1 K2 f1 p1 vs hv => ?_
  obtain ⟨ds, h1, p2⟩ := Post.rs p1
  exact ⟨F1, ρ1, _, K2, K2.pk hv h1, f1.dom, p2⟩
theorem runF {fs : List (Env → R (Pv × Env))} (h : tS k E (opP false fs ap) σ H Q) :
    tA k E (seqF fs) σ H fun vs H1 => ∃ F1 ρ1 ds, Okk k F1 σ H1 ρ1 ∧ Reps k F1 vs ds ∧ (∀ b, Nz H b → Nz H1 b) ∧ Fin k E F1 H1 σ H ρ1 (ap ds) Q := by
  obtain ⟨F, ρ, K1, p⟩ := h
  refine ⟨F, ρ, K1, ?_⟩
  unfold opP at p
  refine p.split.mono fun xs ρ1 F1 H1 K2 f1 p1 vs hv => ?_
  obtain ⟨ds, h1, p2⟩ := Post.frzs p1
  exact ⟨F1, ρ1, _, K2, frzs_rep hv h1, f1.dom, p2⟩
/-- an operation that gives a value at once -/
theorem Fin.ok {H0 : Hp} {r : R Sl} (K1 : Okk k F σ H ρ) (dm : ∀ b, Nz H0 b → Nz H b) (no : ∀ c gs, r ≠ .exc c gs) (h : Fin k E F H σ H0 ρ r Q) : ∃ s, r = .ok s ∧ ∀ v F' H', New k F H F' H' v s → Q v H' := by
  unfold Fin at h
  cases r with
  | ok s =>
    refine ⟨s, rfl, fun v F' H' n => ?_⟩
    obtain ⟨K2, f2, r2⟩ := K1.new n
    exact h F' H' K2 f2 v (r2.back dm)
  | exc c gs => exact absurd rfl (no c gs)
  | stuck => exact h.elim
end
end Rx

set_option Elab.async false
set_option linter.all false
set_option maxRecDepth 100000
/-! RxT: dicts whose keys are tuples: rules. -/
namespace Rx
open PySem PySem.Spec PyProof.Rows L2
mutual
/-- v is the key x, by the abstract heap -/
inductive NkV (K : PySem.W.Frag) (H : Hp) : V → NestedKey → Prop
  | non : NkV K H .non .none
  | int (i : Int) : NkV K H (.int i) (.num i)
  | str (x : Str) : NkV K H (.str x) (.text x)
  | tup {a : Addr} {vs : List V} {ks : List NestedKey} : SqT K H a vs → NkVs K H vs ks → NkV K H (.ref a) (.tup ks)
inductive NkVs (K : PySem.W.Frag) (H : Hp) : List V → List NestedKey → Prop
  | nil : NkVs K H [] []
  | cons {v : V} {vs : List V} {x : NestedKey} {xs : List NestedKey} : NkV K H v x → NkVs K H vs xs → NkVs K H (v :: vs) (x :: xs)
end
section
variable {k : Kx} {F H : Hp}
mutual
theorem rep_nk (s : Sub F H) : ∀ (x : NestedKey) {v : V}, Rep k F v (keyB x) → NkV k.K H v x
  | .none, v, h => by
    simp only [keyB] at h
    cases h
    exact .non
  | .num i, v, h => by
    simp only [keyB] at h
    cases h
    exact .int i
  | .text i, v, h => by
    simp only [keyB] at h
    cases h
    exact .str i
  | .tup ks, v, h => by
    simp only [keyB] at h
    cases h with
    | tup h r => exact .tup (SqT_sub s h) (reps_nk s ks r)
theorem reps_nk (s : Sub F H) : ∀ (xs : List NestedKey) {vs : List V}, Reps k F vs (keysB xs) → NkVs k.K H vs xs
  | [], vs, h => by
    simp only [keysB] at h
    cases h
    exact .nil
  | x :: xs, vs, h => by
    simp only [keysB] at h
    cases h with
    | cons h r => exact .cons (rep_nk s x h) (reps_nk s xs r)
end
end
section
variable {X : Cx} {pins : List (Addr × Obj)} {σ : L2.St} {H : Hp} {s : Shared}
mutual
theorem nk_is (I : Inv X pins σ H s) : ∀ (x : NestedKey) {v : V} {u : Value}, NkV X.K H v x → RelV v u → NestedIs s.heap x u
  | .none, v, u, h, r => by
    cases h
    cases (show u = Value.none from r)
    exact .none
  | .num i, v, u, h, r => by
    cases h
    obtain ⟨t, rfl⟩ := (show ∃ t, u = Value.int i t from r)
    exact .int _ _
  | .text i, v, u, h, r => by
    cases h
    obtain ⟨t, rfl⟩ := (show ∃ t, u = Value.str i t from r)
    exact .text _ _
  | .tup ks, v, u, h, r => by
    cases h with
    | @tup a vs _ hs hv =>
      cases (show u = Value.ref a from r)
      obtain ⟨its, rv, ⟨o, h1, h2, n, h3⟩, _⟩ := I.tuple hs
      exact .tup h1 h2 h3 (nks_is I ks hv rv)
theorem nks_is (I : Inv X pins σ H s) : ∀ (xs : List NestedKey) {vs : List V} {us : List Value}, NkVs X.K H vs xs → Vals vs us → NestedAll s.heap xs us
  | [], vs, us, h, r => by
    cases h
    cases r
    exact .nil
  | x :: xs, vs, us, h, r => by
    cases h with
    | cons h1 h2 =>
      cases r with
      | cons r1 r2 => exact .cons (nk_is I x h1 r1) (nks_is I xs h2 r2)
end
/-- all keys are such -/
def KeysT (K : PySem.W.Frag) (H : Hp) (xs : List (NestedKey × Addr × V)) : Prop := ∀ e ∈ xs, e.1.depth ≤ 8 ∧ NkV K H (.ref e.2.1) e.1
theorem repT_keys {k : Kx} {F : Hp} (sb : Sub F H) : ∀ {xs : List (NestedKey × Addr × V)} {ks : List (NestedKey × D)}, RepT k F xs ks → KeysT k.K H xs
  | _, _, .nil => fun e h => nomatch h
  | _, _, .cons h0 h1 h r => fun e m => by
    rcases List.mem_cons.mp m with z | m
    · rw [z]
      exact ⟨h0, rep_nk sb _ h1⟩
    · exact repT_keys sb r e m
abbrev PrT : List (NestedKey × Addr × V) → List (NestedKey × Addr × Value) → Prop := Paired fun p q => p.1 = q.1 ∧ p.2.1 = q.2.1 ∧ RelV p.2.2 q.2.2
theorem prT_mem : ∀ {xs : List (NestedKey × Addr × V)} {ys : List (NestedKey × Addr × Value)}, PrT xs ys → ∀ y ∈ ys, ∃ x ∈ xs, x.1 = y.1 ∧ x.2.1 = y.2.1
  | _, _, .nil, y, m => nomatch m
  | _, _, .cons h r, y, m => by
    rcases List.mem_cons.mp m with z | m
    · subst z
      exact ⟨_, List.mem_cons_self, h.1, h.2.1⟩
    · obtain ⟨x, h1, h2⟩ := prT_mem r y m
      exact ⟨x, List.mem_cons_of_mem _ h1, h2⟩
theorem dto_at (I : Inv X pins σ H s) {a : Addr} {xs : List (NestedKey × Addr × V)} (ha : H a = some (dtO X.w a xs)) (hk : KeysT X.K H xs) :
    xs.length ≤ sizeLine ∧ (a == sysModules) = false ∧ ∃ ys, PrT xs ys ∧ s.heap.DictOfH (nestedKind X.prog X.w) a ys := by
  have z : ObjOk X.prog X.w H s.heap a (dtO X.w a xs) := I.hok a _ ha
  obtain ⟨⟨z1, z2, ys, pr, o, es, ep, h1, h2, h3, h4, h5⟩, _⟩ := z
  refine ⟨z1, z2, ys, pr, o, es, ep, h1, h2, h3, h4, fun y hy => ?_, h5⟩
  obtain ⟨x, hx, e1, e2⟩ := prT_mem pr y hy
  obtain ⟨q1, q2⟩ := hk x hx
  rw [e1] at q1 q2
  rw [e2] at q2
  exact ⟨nk_is I _ q2 rfl, q1⟩
theorem dto_ok {P : Program} {w : World} {H' : Hp} {h' : Heap} {a : Addr} {xs : List (NestedKey × Addr × V)} {ys : List (NestedKey × Addr × Value)} (z : xs.length ≤ sizeLine) (hd : (a == sysModules) = false) (pr : PrT xs ys) (dd : h'.DictOfH (nestedKind P w) a ys) :
    ObjOk P w H' h' a (dtO w a xs) := by
  obtain ⟨o, es, ep, h1, h2, h3, h4, _, h5⟩ := dd
  exact ⟨⟨z, hd, ys, pr, o, es, ep, h1, h2, h3, h4, h5⟩, ⟨o, h1⟩, fun g1 g2 ⟨y1, y2, zs, q, o', es', ep', k1, k2⟩ e => ⟨y1, y2, zs, q, o', es', ep', e _ k1, k2⟩⟩
theorem prT_find (x : NestedKey) : ∀ {xs : List (NestedKey × Addr × V)} {ys : List (NestedKey × Addr × Value)}, PrT xs ys →
    (∀ e, xs.find? (fun e => decide (e.1 = x)) = some e → ∃ p, atKey ys x = some p ∧ RelV e.2.2 p.2) ∧ (xs.find? (fun e => decide (e.1 = x)) = none → atKey ys x = none)
  | _, _, .nil => ⟨fun e h => by simp at h, fun _ => rfl⟩
  | _, _, .cons (a := p) (b := q) h r => by
    obtain ⟨h1, h2, h3⟩ := h
    by_cases e : p.1 = x
    · have e' : q.1 = x := h1.symm.trans e
      simp only [List.find?_cons, e, decide_true, atKey, e', Option.map_some]
      exact ⟨fun z hz => ⟨_, rfl, by cases hz; exact h3⟩, fun z => by cases z⟩
    · have e' : ¬ q.1 = x := fun z => e (h1.trans z)
      have := prT_find x r
      simp only [List.find?_cons, e, decide_false, atKey, e'] at this ⊢
      exact this
theorem find_any {α : Type} {f : α → Bool} : ∀ (l : List α), l.any f = (l.find? f).isSome
  | [] => rfl
  | a :: l => by
    rw [List.any_cons, List.find?_cons]
    cases h : f a with
    | true => rfl
    | false => rw [Bool.false_or]; exact find_any l
theorem prT_some (x : NestedKey) {xs : List (NestedKey × Addr × V)} {ys : List (NestedKey × Addr × Value)} (r : PrT xs ys) : (atKey ys x).isSome = xs.any fun e => decide (e.1 = x) := by
  rw [find_any]
  obtain ⟨h1, h2⟩ := prT_find x r
  cases h : xs.find? (fun e => decide (e.1 = x)) with
  | none => rw [h2 h]; rfl
  | some e =>
    obtain ⟨p, hp, _⟩ := h1 e h
    rw [hp]
    rfl
theorem prT_put {x : NestedKey} {b : Addr} {v : V} {u : Value} (rv : RelV v u) {xs : List (NestedKey × Addr × V)} {ys : List (NestedKey × Addr × Value)} (r : PrT xs ys) : PrT (putT xs x b v) (storedH ys x b u) := by
  unfold putT storedH
  rw [prT_some x r]
  by_cases q : (xs.any fun e => decide (e.1 = x)) = true
  · rw [if_pos q, if_pos q]
    clear q
    induction r with
    | nil => exact .nil
    | @cons p q ps qs h t ih =>
      rw [List.map_cons, List.map_cons]
      refine .cons ?_ ih
      obtain ⟨h1, h2, h3⟩ := h
      unfold putAt
      by_cases e : p.1 = x
      · rw [if_pos e, if_pos (h1.symm.trans e)]
        exact ⟨h1, h2, rv⟩
      · rw [if_neg e, if_neg (fun z => e (h1.trans z))]
        exact ⟨h1, h2, h3⟩
  · rw [if_neg q, if_neg q]
    exact Paired.snoc r ⟨rfl, rfl, rv⟩
theorem putT_length (xs : List (NestedKey × Addr × V)) (x : NestedKey) (b : Addr) (v : V) : (putT xs x b v).length ≤ xs.length + 1 := by
  unfold putT
  split
  · rw [List.length_map]; omega
  · rw [List.length_append, List.length_cons, List.length_nil]; omega
end
section
variable {X : Cx}
/-- {} -/
theorem pe_dnewN {pos : Pos} : PE X (.Dict [] [] pos) (fun _ H Q => ∀ p, H p = none → Q (.ref p) (upd H p (dtO X.w p []))) := ⟨fun pins s σ H Q I h => by
  have lo : (s.heap.objs.size == sysModules) = false := by
    have hb : sysModules < s.heap.objs.size := I.big
    exact beq_eq_false_iff_ne.mpr fun z => Nat.lt_irrefl _ (z ▸ hb)
  exact wpAny_Dict_empty ⟨.ref s.heap.objs.size, _, I.laid (a := s.heap.objs.size) (o := dtO X.w s.heap.objs.size []) (t' := s.toks) (fun _ _ q => Heap.get?_push_of_some _ q) (Nat.le_refl _) (dto_ok (P := X.prog) (by simp) lo .nil (Heap.DictOfH.new s.heap)), rfl, h _ (I.hok.fresh (Nat.le_refl _))⟩⟩
def rInT (X : Cx) (f : Bool → Bool) : R2 := fun x y H Q => ∃ a xs k b, y = .ref a ∧ x = .ref b ∧ H a = some (dtO X.w a xs) ∧ KeysT X.K H xs ∧ k.depth ≤ 8 ∧ NkV X.K H (.ref b) k ∧ Q (.bl (f (xs.any fun e => decide (e.1 = k)))) H
theorem op_inT (hu : X.A.units + 65 < cLine) : OpR X (compareOp .In) (rInT X id) := by
  intro pins s σ H x y v u Q I rx ry h
  obtain ⟨a, xs, k, b, rfl, rfl, ha, hk, hd, hn, q⟩ := h
  cases rx
  cases ry
  obtain ⟨z1, z2, ys, pr, dd⟩ := dto_at I ha hk
  have hr : (nestedKind X.prog X.w).room X.A.in1 := by
    show X.A.in1.units + 8 < cLine
    rw [Around.in1_units]
    omega
  refine wpAny_in_heap hr (knd := nestedKind X.prog X.w) ⟨nk_is I k hn rfl, hd⟩ z2 dd ?_
  rw [prT_some k pr]
  exact ⟨.bl _, H, I.tok _, rfl, q⟩
theorem op_notInT (hu : X.A.units + 65 < cLine) : OpR X (compareOp .NotIn) (rInT X not) := by
  intro pins s σ H x y v u Q I rx ry h
  obtain ⟨a, xs, k, b, rfl, rfl, ha, hk, hd, hn, q⟩ := h
  cases rx
  cases ry
  obtain ⟨z1, z2, ys, pr, dd⟩ := dto_at I ha hk
  have hr : (nestedKind X.prog X.w).room X.A.in1 := by
    show X.A.in1.units + 8 < cLine
    rw [Around.in1_units]
    omega
  refine wpAny_notIn_heap hr (knd := nestedKind X.prog X.w) ⟨nk_is I k hn rfl, hd⟩ z2 dd ?_
  rw [prT_some k pr]
  exact ⟨.bl _, H, I.tok _, rfl, q⟩
/-- d[k] -/
def rIxT (X : Cx) : R2 := fun x y H Q => ∃ a xs k b e, x = .ref a ∧ y = .ref b ∧ H a = some (dtO X.w a xs) ∧ KeysT X.K H xs ∧ k.depth ≤ 8 ∧ NkV X.K H (.ref b) k ∧ xs.find? (fun e => decide (e.1 = k)) = some e ∧ Q e.2.2 H
theorem get_T (hu : X.A.units + 65 < cLine) : PGet X (rIxT X) := by
  intro pins s σ H o i ov iv Q I ro ri h
  obtain ⟨a, xs, k, b, e, rfl, rfl, ha, hk, hd, hn, he, q⟩ := h
  cases ro
  cases ri
  obtain ⟨z1, z2, ys, pr, dd⟩ := dto_at I ha hk
  have hr : (nestedKind X.prog X.w).room X.A.in1 := by
    show X.A.in1.units + 8 < cLine
    rw [Around.in1_units]
    omega
  obtain ⟨p, hp, rp⟩ := (prT_find k pr).1 e he
  exact wpAny_getItem_heap hr (knd := nestedKind X.prog X.w) ⟨nk_is I k hn rfl, hd⟩ dd hp ⟨_, H, I.tok _, rp, q⟩
/-- d[k] = v -/
def rSetT (X : Cx) : TSet := fun o i v H Q => ∃ a xs k b, o = .ref a ∧ i = .ref b ∧ H a = some (dtO X.w a xs) ∧ KeysT X.K H xs ∧ k.depth ≤ 8 ∧ NkV X.K H (.ref b) k ∧ xs.length < sizeLine ∧ Q (upd H a (dtO X.w a (putT xs k b v)))
theorem set_T (hu : X.A.units + 65 < cLine) : PSet X (rSetT X) := by
  intro pins s σ H o i v ov iv u Q I ro ri rv h
  obtain ⟨a, xs, k, b, rfl, rfl, ha, hk, hd, hn, hz, q⟩ := h
  cases ro
  cases ri
  obtain ⟨z1, z2, ys, pr, dd⟩ := dto_at I ha hk
  have hr : (nestedKind X.prog X.w).room X.A.in1 := by
    show X.A.in1.units + 8 < cLine
    rw [Around.in1_units]
    omega
  have hl : ys.length ≤ sizeLine := by rw [← Paired.length pr]; exact z1
  refine wpAny_setItem_heap (hsz := hl) hr (knd := nestedKind X.prog X.w) ⟨nk_is I k hn rfl, hd⟩ dd fun h' dd' hs => ?_
  obtain ⟨q0, _, _, hq, _⟩ := id dd'
  have hp := putT_length xs k b v
  exact ⟨_, d_write I (by rw [ha]; exact True.intro) hs ⟨q0, hq⟩ (dto_ok (by omega) z2 (prT_put rv pr) dd'), q⟩
theorem op_any2 {f : Value → Value → Sem Value} {r r' : R2} (h : OpR X f r) (h' : OpR X f r') : OpR X f (fun x y H Q => r x y H Q ∨ r' x y H Q) := fun pins s σ H x y v u Q I rx ry q => by
  rcases q with q | q
  · exact h pins s σ H x y v u Q I rx ry q
  · exact h' pins s σ H x y v u Q I rx ry q
theorem pset_or {r r' : TSet} (h : PSet X r) (h' : PSet X r') : PSet X (fun o i v H Q => r o i v H Q ∨ r' o i v H Q) := fun pins s σ H o i v ov iv u Q I ro ri rv q => by
  rcases q with q | q
  · exact h pins s σ H o i v ov iv u Q I ro ri rv q
  · exact h' pins s σ H o i v ov iv u Q I ro ri rv q
/-- list(d) -/
def rListT (X : Cx) : List V → Hp → VK → Prop := fun vs H Q => ∃ a xs, vs = [.ref a] ∧ H a = some (dtO X.w a xs) ∧ KeysT X.K H xs ∧ ∀ p, H p = none → Q (.ref p) (upd H p (.lst (xs.map fun e => V.ref e.2.1)))
theorem call_listT (hc : X.calm = true) : CallR X (.type "list") (rListT X) := by
  intro pins s σ H vs us Q I r h
  obtain ⟨d, xs, rfl, ha, hk, q⟩ := h
  obtain ⟨u, rfl, rx⟩ := r.one
  cases rx
  obtain ⟨z1, z2, ys, pr, dd⟩ := dto_at I ha hk
  obtain ⟨o, es, ep, ho, hx, hdt, he, _, hn⟩ := dd
  have l1 : es.size = ys.length := size_of_entries he
  have l2 : xs.length = ys.length := Paired.length pr
  have e0 : xs.map (fun e => V.ref e.2.1) = (ys.map fun x => x.2.1).map V.ref := by
    have : ∀ {xs : List (NestedKey × Addr × V)} {ys : List (NestedKey × Addr × Value)}, PrT xs ys → xs.map (fun e => V.ref e.2.1) = (ys.map fun x => x.2.1).map V.ref := by
      intro xs ys pr
      induction pr with
      | nil => rfl
      | cons h t ih => rw [List.map_cons, List.map_cons, List.map_cons, ih, h.2.1]
    exact this pr
  refine PySem.W.kdl_call (kdl_raw z2 hx hdt) (I.ok.hd hc) ho (by omega) fun h' tk acc' c' kp e it => ?_
  have ea : acc'.toList = ys.map fun x => Value.ref x.2.1 := by
    have hl : acc'.toList.length = ys.length := by rw [Array.length_toList, it.1]; exact l1
    apply List.ext_getElem?
    intro j
    rw [List.getElem?_map]
    cases hj : acc'.toList[j]? with
    | none =>
      have h1 := List.getElem?_eq_none_iff.mp hj
      rw [List.getElem?_eq_none (by omega)]
      all_goals rfl
    | some v =>
      obtain ⟨en, hen, hv⟩ := it.2 j v (by rw [← Array.getElem?_toList]; exact hj)
      have qe := entry_at (knd := nestedKind X.prog X.w) he j
      rw [hen] at qe
      cases hb : ys[j]? with
      | none =>
        rw [hb] at qe
        exact nomatch (show some en = none from qe)
      | some b =>
        rw [hb] at qe
        have e2 : en = entryOfKey (nestedKind X.prog X.w) b := Option.some.inj qe
        rw [hv, e2]
        all_goals rfl
  have eb : acc'.toList = (ys.map fun x => x.2.1).map Value.ref := by rw [ea, List.map_map]; all_goals rfl
  have rv : Vals ((ys.map fun x => x.2.1).map V.ref) acc'.toList := by rw [eb]; exact vals_refs _
  have hz : ((ys.map fun x => x.2.1).map V.ref).length ≤ sizeLine := by rw [List.length_map, List.length_map]; omega
  have qq := q s.heap.objs.size (I.hok.fresh (Nat.le_refl _))
  rw [e0] at qq
  refine ⟨.ref s.heap.objs.size, _, I.laid (t' := tk) (o := .lst ((ys.map fun x => x.2.1).map V.ref)) kp (Nat.le_refl _) ?_, rfl, qq⟩
  exact ⟨hz, acc'.toList, c', rv, by rw [Array.toArray_toList]; exact e⟩
/-- len(d) -/
def rLenT (X : Cx) : List V → Hp → VK → Prop := fun vs H Q => ∃ a xs, vs = [.ref a] ∧ H a = some (dtO X.w a xs) ∧ KeysT X.K H xs ∧ Q (.int xs.length) H
theorem call_lenT : CallR X (.builtin "len") (rLenT X) := by
  intro pins s σ H vs us Q I r h
  obtain ⟨d, xs, rfl, ha, hk, q⟩ := h
  obtain ⟨u, rfl, rx⟩ := r.one
  cases rx
  obtain ⟨z1, z2, ys, pr, dd⟩ := dto_at I ha hk
  have hl : xs.length = ys.length := Paired.length pr
  have hp : (pairsH ys).length = ys.length := pairsH_length ys
  have z3 := z1
  rw [sizeLine_eq] at z3
  refine PyProof.Rows.call_len_slot (n := (pairsH ys).length) dd.typeIs PySem.F.slot_dict_len (fun Q' hq => len_keyed z2 ⟨ys, dd, rfl⟩ hq) (by omega) (by omega) ?_
  rw [hp, ← hl]
  exact ⟨.int xs.length, H, (I.tok _).tok _, ⟨_, rfl⟩, q⟩
end
end Rx

set_option Elab.async false
set_option linter.all false
set_option maxRecDepth 100000
/-! Rx4: operations, by values. -/
namespace Rx
open PySem PySem.Spec PyProof.Rows L2
section
variable {k : Kx} {F H F' H' : Hp} {v : V}
theorem pk_non (h : PkV k F H v .non) : v = .non := by
  rcases h with h | ⟨a, _, h⟩
  · cases h; rfl
  · exact h.elim
theorem pk_bl {b : Bool} (h : PkV k F H v (.bl b)) : v = .bl b := by
  rcases h with h | ⟨a, _, h⟩
  · cases h; rfl
  · exact h.elim
theorem pk_int {i : Int} (h : PkV k F H v (.int i)) : v = .int i := by
  rcases h with h | ⟨a, _, h⟩
  · cases h; rfl
  · exact h.elim
theorem pk_str {x : Str} (h : PkV k F H v (.str x)) : v = .str x := by
  rcases h with h | ⟨a, _, h⟩
  · cases h; rfl
  · exact h.elim
theorem pk_tup {ds : List D} (h : PkV k F H v (.tup ds)) : ∃ a xs, v = .ref a ∧ SqT k.K F a xs ∧ Reps k F xs ds := by
  rcases h with h | ⟨a, _, h⟩
  · cases h with
    | tup h r => exact ⟨_, _, rfl, h, r⟩
  · exact h.elim
theorem pk_lst (s : Sub F H) {ds : List D} (h : PkV k F H v (.lst ds)) : ∃ a xs, v = .ref a ∧ Rd H a (.lst xs) ∧ Reps k F xs ds := by
  rcases h with h | ⟨a, e, xs, h, r⟩
  · cases h with
    | lst h r => exact ⟨_, _, rfl, Rd_sub s h, r⟩
  · exact ⟨a, xs, e, .inl h, r⟩
theorem pk_scr (s : Sub F H) {ns : List Int} (h : PkV k F H v (.scr ns)) : ∃ a, v = .ref a ∧ SqL k.K H a (ns.map V.int) := by
  rcases h with h | ⟨a, e, h⟩
  · cases h with
    | scr h => exact ⟨_, rfl, SqL_sub s h⟩
  · exact h.elim
theorem pk_dic (s : Sub F H) {ks : List (Kk × D)} (h : PkV k F H v (.dic ks)) : ∃ a kvs, v = .ref a ∧ Rd H a (.dK kvs) ∧ RepK k F kvs ks := by
  rcases h with h | ⟨a, e, kvs, h1, r⟩
  · cases h with
    | dic h r => exact ⟨_, _, rfl, Rd_sub s h, r⟩
  · exact ⟨a, kvs, e, .inl h1, r⟩
theorem pk_dit (s : Sub F H) {ks : List (NestedKey × D)} (h : PkV k F H v (.dit ks)) : ∃ a xs, v = .ref a ∧ H a = some (dtO k.w a xs) ∧ RepT k F xs ks := by
  rcases h with h | ⟨a, e, kvs, h1, r⟩
  · cases h with
    | dit h r => exact ⟨_, _, rfl, s _ _ h, r⟩
  · exact ⟨a, kvs, e, h1, r⟩
theorem pk_ins (s : Sub F H) {c : Nat} {gs : List (Nat × D)} (h : PkV k F H v (.ins c gs)) : ∃ a C dx fs, v = .ref a ∧ H a = some (.ins C dx fs) ∧ k.cm c = some C ∧ RepF k F fs gs := by
  rcases h with h | ⟨a, e, C, dx, fs, h, c1, r⟩
  · cases h with
    | ins h c1 r => exact ⟨_, _, _, _, rfl, s _ _ h, c1, r⟩
  · exact ⟨a, C, dx, fs, e, h, c1, r⟩
theorem SqL.rd {K : PySem.W.Frag} {a : Addr} {xs : List V} (h : Rd H a (.lst xs)) : SqL K H a xs := .inl h

/-- a list that came out anew -/
theorem new_lst {p : Addr} {xs : List V} {ds : List D} (h : H p = none) (r : Reps k F xs ds) : New k F H F (upd H p (.lst xs)) (.ref p) (.own (.lst ds)) := .own h ⟨xs, upd_same, r⟩
theorem new_tup {p : Addr} {xs : List V} {ds : List D} (s : Sub F H) (h : H p = none) (r : Reps k F xs ds) : New k F H (upd F p (.tup xs)) (upd H p (.tup xs)) (.ref p) (.frz (.tup ds)) :=
  .frz h (fun _ z => nomatch z) (.tup (.inl (.inl upd_same)) (r.mono (sub_upd_new (none_of_sub s h))))
end
/-- an operation of two values follows the evaluator's -/
def Sem2 (k : Kx) (r : R2) (ap : D → D → R Sl) : Prop := ∀ (F H : Hp) (x y : V) (dx dy : D) (s : Sl) (Q : VK), Sub F H → PkV k F H x dx → PkV k F H y dy → ap dx dy = .ok s →
  (∀ v F' H', New k F H F' H' v s → Q v H') → r x y H Q
/-- a call of values follows it -/
def SemN (k : Kx) (r : List V → Hp → VK → Prop) (ap : List D → R Sl) : Prop := ∀ (F H : Hp) (vs : List V) (ds : List D) (s : Sl) (Q : VK), Sub F H → Paired (PkV k F H) vs ds → ap ds = .ok s →
  (∀ v F' H', New k F H F' H' v s → Q v H') → r vs H Q

section
variable {X : Cx} {p : Addr} {xs : List V}
/-! ### + * of lists, however they stand -/
theorem lstR {pins : List (Addr × Obj)} {σ : L2.St} {H : Hp} {s : Shared} {l : Addr} (I : Inv X pins σ H s) (h : Rd H l (.lst xs)) :
    xs.length ≤ sizeLine ∧ ∃ (its : List Value) (n : Nat), Vals xs its ∧ xs.length = its.length ∧ s.heap.get? l = some { cls := .type "list", data := .seq its.toArray n } := by
  obtain ⟨z, its, n, r, e⟩ := h.ok I.hok
  exact ⟨z, its, n, r, r.length, e⟩
def rCatR : R2 := fun x y H Q => ∃ l b xs zs, x = .ref l ∧ y = .ref b ∧ Rd H l (.lst xs) ∧ Rd H b (.lst zs) ∧ xs.length + zs.length ≤ sizeLine ∧ ∀ p, H p = none → Q (.ref p) (upd H p (.lst (xs ++ zs)))
theorem op_catR : OpR X (binaryOp .Add) rCatR := by
  intro pins s σ H x y v u Q I rx ry h
  obtain ⟨l, b, xs, zs, rfl, rfl, hH, hB, hz, q⟩ := h
  cases rx
  cases ry
  obtain ⟨z, its, n, r, hl, e⟩ := lstR I hH
  obtain ⟨z2, its2, n2, r2, hl2, e2⟩ := lstR I hB
  refine PySem.P.add_list e e2 ?_ (by rw [List.size_toArray, List.size_toArray]; omega)
  have ea : its.toArray ++ its2.toArray = (its ++ its2).toArray := by simp
  rw [ea]
  exact ⟨.ref _, _, I.lnew (t' := s.toks) (r.append r2) (by rw [List.length_append]; omega), rfl, q _ I.fresh⟩
end

theorem mulOk_ok {i j : Int} (h : mulOk i j = true) : IntMulOk i j := by
  have h := of_decide_eq_true h
  have b : ∀ x : Int, Builtin.Int.intBits x ≤ x.natAbs.log2 + 1 := fun x => by
    unfold Builtin.Int.intBits
    split <;> omega
  have h1 := b i
  have h2 := b j
  have e : bitsLine = 134217728 := by decide
  unfold IntMulOk
  intro z
  rw [Bool.and_eq_true] at z
  have z2 := z.2
  unfold Builtin.Int.intTooBig at z2
  have z3 := of_decide_eq_true z2
  rw [e] at z3
  omega
section
variable {X : Cx} {k : Kx}
theorem opx_mul : OpR X (binaryOp .Mult) (rI (fun i j => mulOk i j = true) fun i j => .int (i * j)) := opI fun _ _ _ _ _ _ _ hc q => mul_int q (mulOk_ok hc)
theorem opx_fdiv : OpR X (binaryOp .FloorDiv) (rI (fun i j => divOk j = true) fun i j => .int (i.fdiv j)) := opI fun i j _ _ _ _ _ hc q => by
  unfold divOk at hc
  rw [Bool.and_eq_true] at hc
  exact floordiv_int (of_decide_eq_true hc.1) q (.inl (PyProof.noPylong_of_log2 (of_decide_eq_true hc.2)))
theorem sem_int {g : Int → Int → Int} {F H : Hp} {i j : Int} {Q : VK} (h : ∀ v F' H', New k F H F' H' v (.frz (.int (g i j))) → Q v H') : Q (.int (g i j)) H := h _ F H (.same (.int _))

def rAdd (X : Cx) : R2 := fun x y H Q => rI0 (fun i j => .int (i + j)) x y H Q ∨ (rCatA X.K x y H Q ∨ rCatR x y H Q)
theorem opx_add : OpR X (binaryOp .Add) (rAdd X) := OpR.or op_add (OpR.or op_catA op_catR)
theorem szOk_le {n : Nat} (h : szOk n = true) : n ≤ sizeLine := of_decide_eq_true h
theorem reps_nil_iff {F : Hp} {xs : List V} {ds : List D} (r : Reps k F xs ds) : xs = [] ↔ ds = [] := by
  cases r <;> simp
theorem sem_add (e : X.K = k.K) : Sem2 k (rAdd X) Bop.add.ap := by
  intro F H x y dx dy s Q sb px py ap q
  replace ap : addD dx dy = .ok s := ap
  unfold addD at ap
  split at ap
  · cases ap
    rw [pk_int px, pk_int py]
    exact .inl ⟨_, _, rfl, rfl, sem_int (g := (· + ·)) q⟩
  · split at ap
    · rename_i hz
      cases ap
      obtain ⟨a, xs, rfl, hx, rx⟩ := pk_tup px
      obtain ⟨b, ys, rfl, hy, ry⟩ := pk_tup py
      have hz := szOk_le hz
      rw [← rx.length, ← ry.length] at hz
      refine .inr (.inl ⟨a, b, xs, ys, rfl, rfl, by rw [e]; exact SqT_sub sb hx, by rw [e]; exact SqT_sub sb hy, hz, fun z => ?_, fun _ z => ?_, fun _ _ p hp => ?_⟩)
      · subst z
        cases rx
        exact q _ F H (.same (.tup hy ry))
      · subst z
        cases ry
        rw [List.append_nil] at q
        exact q _ F H (.same (.tup hx rx))
      · exact q _ _ _ (new_tup sb hp (rx.append ry))
    · cases ap
  · split at ap
    · rename_i hz
      cases ap
      obtain ⟨a, xs, rfl, hx, rx⟩ := pk_lst sb px
      obtain ⟨b, ys, rfl, hy, ry⟩ := pk_lst sb py
      have hz := szOk_le hz
      rw [← rx.length, ← ry.length] at hz
      exact .inr (.inr ⟨a, b, xs, ys, rfl, rfl, hx, hy, hz, fun p hp => q _ _ _ (new_lst hp (rx.append ry))⟩)
    · cases ap
  · cases ap
theorem sem_sub : Sem2 k (rI0 fun i j => .int (i - j)) Bop.sub.ap := by
  intro F H x y dx dy s Q sb px py ap q
  replace ap : subD dx dy = .ok s := ap
  unfold subD at ap
  split at ap
  · cases ap
    rw [pk_int px, pk_int py]
    exact ⟨_, _, rfl, rfl, sem_int (g := (· - ·)) q⟩
  · cases ap
def rRepR : R2 := fun x y H Q => ∃ l k xs, x = .ref l ∧ y = .int k ∧ Rd H l (.lst xs) ∧ -(2 ^ 63) ≤ k ∧ k < 2 ^ 63 ∧ xs.length * k.toNat ≤ sizeLine ∧
  ∀ p, H p = none → Q (.ref p) (upd H p (.lst (List.replicate k.toNat xs).flatten))
theorem op_repR : OpR X (binaryOp .Mult) rRepR := by
  intro pins s σ H x y v u Q I rx ry h
  obtain ⟨l, k, xs, rfl, rfl, hH, h1, h2, hz, q⟩ := h
  cases rx
  obtain ⟨t, rfl⟩ := ry
  obtain ⟨z, its, n, r, hl, e⟩ := lstR I hH
  have hlen : its.toArray.size * k.toNat ≤ sizeLine := by rw [List.size_toArray, ← hl]; exact hz
  have hcap : ¬ its.toArray.size * k.toNat > (2 ^ 63 - 1) / 8 := by
    have : (sizeLine : Nat) ≤ (2 ^ 63 - 1) / 8 := by decide
    omega
  have hfit : ¬ (!Builtin.List.listFitsIndex k) = true := by
    rw [fitsIndex_both h1 h2]
    exact Bool.false_ne_true
  have hlong : ¬ Builtin.List.listTooLong (its.toArray.size * k.toNat) = true := by
    rw [notLongL hlen]
    exact Bool.false_ne_true
  have hnew : List.foldl (fun x1 x2 => x1 ++ x2) #[] (List.replicate (if its.toArray.isEmpty = true then 0 else k.toNat) its.toArray) = (List.replicate k.toNat its).flatten.toArray := by
    have f0 : ∀ m : Nat, List.foldl (fun x1 x2 => x1 ++ x2) #[] (List.replicate m its.toArray) = (List.replicate m its).flatten.toArray := fun m => by
      have := foldl_rep its m []
      rw [List.nil_append] at this
      exact this
    rw [f0]
    cases its with
    | nil => simp
    | cons a r' => rw [if_neg (by simp)]
  refine wpAny_binaryOp_repeat_ref (T := "list") (U := "int") (by decide) ⟨_, e, rfl⟩ (fun s' => typeIs_int s' k t) noFill_list_mul F.fills_int_mul F.slot_int_rmul repeat_list F.slot_int_index.lookup
    (call_meets F.slot_int_rmul (typeIs_int s k t) F.entry_int_rmul (F.args_int_rmul_2 _ _) (int___rmul___int_list k t l its.toArray n)
      ⟨e, rfl, ⟨_, e, rfl⟩, call_meets F.slot_list_mul ⟨_, e, rfl⟩ F.entry_list_mul (F.args_list_mul_2 _ _) (AutoListH.list___mul___list_int_3 l its.toArray n k t hfit hcap hlong) ⟨e, ?_⟩⟩)
  rw [hnew]
  exact ⟨.ref _, _, I.lnew (t' := s.toks) (r.rep k.toNat) (by rw [PyProof.Rows.lm_len_rep_flat, Nat.mul_comm]; exact hz), rfl, q _ I.fresh⟩
theorem reps_rep {F : Hp} {xs : List V} {ds : List D} (r : Reps k F xs ds) : ∀ n : Nat, Reps k F (List.replicate n xs).flatten (List.replicate n ds).flatten
  | 0 => .nil
  | n + 1 => by
    rw [List.replicate_succ, List.replicate_succ, List.flatten_cons, List.flatten_cons]
    exact r.append (reps_rep r n)
def rMul : R2 := fun x y H Q => rI (fun i j => mulOk i j = true) (fun i j => .int (i * j)) x y H Q ∨ rRepR x y H Q
theorem opx_mul2 : OpR X (binaryOp .Mult) rMul := OpR.or opx_mul op_repR
theorem sem_mul : Sem2 k rMul Bop.mul.ap := by
  intro F H x y dx dy s Q sb px py ap q
  replace ap : mulD dx dy = .ok s := ap
  unfold mulD at ap
  split at ap
  · split at ap
    · rename_i hc
      cases ap
      rw [pk_int px, pk_int py]
      exact .inl ⟨_, _, rfl, rfl, hc, sem_int (g := (· * ·)) q⟩
    · cases ap
  · split at ap
    · rename_i hc
      cases ap
      obtain ⟨a, xs, rfl, hx, rx⟩ := pk_lst sb px
      rw [Bool.and_eq_true, Bool.and_eq_true] at hc
      have hz := szOk_le hc.2
      rw [← rx.length] at hz
      rw [pk_int py]
      exact .inr ⟨a, _, xs, rfl, rfl, hx, of_decide_eq_true hc.1.1, of_decide_eq_true hc.1.2, hz, fun p hp => q _ _ _ (new_lst hp (reps_rep rx _))⟩
    · cases ap
  · cases ap
theorem sem_fdiv : Sem2 k (rI (fun i j => divOk j = true) fun i j => .int (i.fdiv j)) Bop.fdiv.ap := by
  intro F H x y dx dy s Q sb px py ap q
  replace ap : fdivD dx dy = .ok s := ap
  unfold fdivD at ap
  split at ap
  · split at ap
    · rename_i hc
      cases ap
      rw [pk_int px, pk_int py]
      exact ⟨_, _, rfl, rfl, hc, sem_int (g := Int.fdiv) q⟩
    · cases ap
  · cases ap
theorem sem_mod : Sem2 k (rI (fun _ j => j ≠ 0) fun i j => .int (i.fmod j)) Bop.mod.ap := by
  intro F H x y dx dy s Q sb px py ap q
  replace ap : modD dx dy = .ok s := ap
  unfold modD at ap
  split at ap
  · split at ap
    · cases ap
    · rename_i hc
      cases ap
      rw [pk_int px, pk_int py]
      exact ⟨_, _, rfl, rfl, hc, sem_int (g := Int.fmod) q⟩
  · cases ap
theorem sem_pow : Sem2 k (rI CPow fun i j => .int (i ^ j.toNat)) Bop.pow.ap := by
  intro F H x y dx dy s Q sb px py ap q
  replace ap : powD dx dy = .ok s := ap
  unfold powD at ap
  split at ap
  · split at ap
    · rename_i hc
      cases ap
      rw [pk_int px, pk_int py]
      unfold powOk at hc
      rw [Bool.and_eq_true, Bool.and_eq_true] at hc
      have h3 : _ < 2 ^ 64 := of_decide_eq_true hc.2
      exact ⟨_, _, rfl, rfl, ⟨of_decide_eq_true hc.1.1, of_decide_eq_true hc.1.2, h3⟩, sem_int (g := fun i j => i ^ j.toNat) q⟩
    · cases ap
  · cases ap
theorem sem_shl : Sem2 k (rI CShl fun i j => .int (i * 2 ^ j.toNat)) Bop.shl.ap := by
  intro F H x y dx dy s Q sb px py ap q
  replace ap : shlD dx dy = .ok s := ap
  unfold shlD at ap
  split at ap
  · rename_i i j
    split at ap
    · rename_i hc
      cases ap
      rw [pk_int px, pk_int py]
      rw [Bool.and_eq_true] at hc
      have h1 := of_decide_eq_true hc.1
      have h2 := of_decide_eq_true hc.2
      have hs : CShl i j := by
        have hn : i.natAbs < 2 ^ (i.natAbs.log2 + 1) := Nat.lt_log2_self
        have := shl_ok (j := j.toNat) hn (by omega)
        rwa [Int.toNat_of_nonneg h1] at this
      exact ⟨_, _, rfl, rfl, hs, sem_int (g := fun i j => i * 2 ^ j.toNat) q⟩
    · cases ap
  · cases ap
theorem sem_shr : Sem2 k (rI (fun _ j => 0 ≤ j) fun i j => .int (i / 2 ^ j.toNat)) Bop.shr.ap := by
  intro F H x y dx dy s Q sb px py ap q
  replace ap : shrD dx dy = .ok s := ap
  unfold shrD at ap
  split at ap
  · split at ap
    · rename_i hc
      cases ap
      rw [pk_int px, pk_int py]
      exact ⟨_, _, rfl, rfl, of_decide_eq_true hc, sem_int (g := fun i j => i / 2 ^ j.toNat) q⟩
    · cases ap
  · cases ap
def binOp : Bop → Operator
  | .add => .Add
  | .sub => .Sub
  | .mul => .Mult
  | .fdiv => .FloorDiv
  | .mod => .Mod
  | .pow => .Pow
  | .shl => .LShift
  | .shr => .RShift
/-- each operator's rule follows the evaluator's -/
theorem bop_rule (e : X.K = k.K) (o : Bop) : ∃ r, OpR X (binaryOp (binOp o)) r ∧ Sem2 k r o.ap := by
  cases o with
  | add => exact ⟨_, opx_add, sem_add e⟩
  | sub => exact ⟨_, op_sub, sem_sub⟩
  | mul => exact ⟨_, opx_mul2, sem_mul⟩
  | fdiv => exact ⟨_, opx_fdiv, sem_fdiv⟩
  | mod => exact ⟨_, op_modN, sem_mod⟩
  | pow => exact ⟨_, op_pow, sem_pow⟩
  | shl => exact ⟨_, op_shlW, sem_shl⟩
  | shr => exact ⟨_, op_shr, sem_shr⟩
end

/-! ### plain data as the library's data -/
mutual
def toP : D → PyData
  | .non => .none
  | .bl b => .bool b
  | .int i => .int i
  | .str x => .str x
  | .tup xs => .tuple (toPs xs)
  | .lst xs => .list (toPs xs)
  | .scr _ => .none
  | .ins _ _ => .none
  | .dic _ => .none
  | .dit _ => .none
def toPs : List D → List PyData
  | [] => []
  | x :: xs => toP x :: toPs xs
end
mutual
theorem toP_eqv : ∀ (n m : Nat) (d e : D), d.plain n = true → e.plain m = true → PyData.eqv (toP d) (toP e) = d.eqv e
  | n, m, .non, e, h, h' => by cases e <;> first | rfl | (simp [D.plain] at h')
  | n, m, .bl _, e, h, h' => by cases e <;> first | rfl | (simp [D.plain] at h')
  | n, m, .int _, e, h, h' => by cases e <;> first | rfl | (simp [D.plain] at h')
  | n, m, .str _, e, h, h' => by cases e <;> first | rfl | (simp [D.plain] at h')
  | n, m, .tup xs, e, h, h' => by
    cases e with
    | tup ys =>
      cases n with
      | zero => simp [D.plain] at h
      | succ n =>
        cases m with
        | zero => simp [D.plain] at h'
        | succ m =>
          simp only [D.plain] at h h'
          simp only [toP, PyData.eqv, D.eqv]
          exact toP_eqvs n m xs ys h h'
    | ins _ _ => simp [D.plain] at h'
    | scr _ => simp [D.plain] at h'
    | dic _ => simp [D.plain] at h'
    | dit _ => simp [D.plain] at h'
    | _ => simp [toP, PyData.eqv, D.eqv]
  | n, m, .lst xs, e, h, h' => by
    cases e with
    | lst ys =>
      cases n with
      | zero => simp [D.plain] at h
      | succ n =>
        cases m with
        | zero => simp [D.plain] at h'
        | succ m =>
          simp only [D.plain] at h h'
          simp only [toP, PyData.eqv, D.eqv]
          exact toP_eqvs n m xs ys h h'
    | ins _ _ => simp [D.plain] at h'
    | scr _ => simp [D.plain] at h'
    | dic _ => simp [D.plain] at h'
    | dit _ => simp [D.plain] at h'
    | _ => simp [toP, PyData.eqv, D.eqv]
  | n, m, .scr _, e, h, h' => by simp [D.plain] at h
  | n, m, .ins _ _, e, h, h' => by simp [D.plain] at h
theorem toP_eqvs : ∀ (n m : Nat) (ds es : List D), D.plains n ds = true → D.plains m es = true → PyData.eqvAll (toPs ds) (toPs es) = D.eqvs ds es
  | n, m, [], [], _, _ => rfl
  | n, m, [], _ :: _, _, _ => rfl
  | n, m, _ :: _, [], _, _ => rfl
  | n, m, d :: ds, e :: es, h, h' => by
    simp only [D.plains, Bool.and_eq_true] at h h'
    simp only [toPs, PyData.eqvAll, D.eqvs]
    rw [toP_eqv n m d e h.1 h'.1, toP_eqvs n m ds es h.2 h'.2]
end
mutual
theorem toP_lay : ∀ (n : Nat) (d : D), d.plain n = true → (toP d).canLay0 = true ∧ (toP d).depth ≤ n
  | n, .non, h => ⟨rfl, Nat.zero_le _⟩
  | n, .bl _, h => ⟨rfl, Nat.zero_le _⟩
  | n, .int _, h => ⟨rfl, Nat.zero_le _⟩
  | n, .str _, h => ⟨by simpa [D.plain, toP, PyData.canLay0] using h, Nat.zero_le _⟩
  | 0, .tup xs, h => by simp [D.plain] at h
  | n + 1, .tup xs, h => by
    simp only [D.plain] at h
    have q := toPs_lay n xs h
    exact ⟨by simpa [toP, PyData.canLay0] using q.1, by simp only [toP, PyData.depth]; omega⟩
  | 0, .lst xs, h => by simp [D.plain] at h
  | n + 1, .lst xs, h => by
    simp only [D.plain] at h
    have q := toPs_lay n xs h
    exact ⟨by simpa [toP, PyData.canLay0] using q.1, by simp only [toP, PyData.depth]; omega⟩
  | n, .scr _, h => by simp [D.plain] at h
  | n, .ins _ _, h => by simp [D.plain] at h
theorem toPs_lay : ∀ (n : Nat) (ds : List D), D.plains n ds = true → PyData.canLayAll0 (toPs ds) = true ∧ PyData.depthAll (toPs ds) ≤ n
  | n, [], h => ⟨rfl, Nat.zero_le _⟩
  | n, d :: ds, h => by
    simp only [D.plains, Bool.and_eq_true] at h
    have q1 := toP_lay n d h.1
    have q2 := toPs_lay n ds h.2
    refine ⟨by simp [toPs, PyData.canLayAll0, q1.1, q2.1], ?_⟩
    simp only [toPs, PyData.depthAll]
    omega
end
theorem shaped_of {n : Nat} {d : D} (h : d.plain n = true) (hn : n ≤ 64) : SeqAt.shaped (toP d) = true := by
  have q := toP_lay n d h
  unfold SeqAt.shaped
  rw [q.1, decide_eq_true (Nat.le_trans q.2 hn)]
  rfl
section
variable {k : Kx} {F H : Hp}
mutual
theorem rep_dp (s : Sub F H) : ∀ {d : D} {n : Nat} {v : V}, Rep k F v d → d.plain n = true → Dp k.K H v (toP d)
  | .non, _, _, h, _ => by cases h; exact .non
  | .bl b, _, _, h, _ => by cases h; exact .bl b
  | .int i, _, _, h, _ => by cases h; exact .int i
  | .str x, _, _, h, _ => by cases h; exact .str x
  | .tup xs, 0, _, h, p => by simp [D.plain] at p
  | .tup xs, n + 1, _, h, p => by
    cases h with
    | tup h r => exact .tup (SqT_sub s h) (reps_dp s r (n := n) (by simpa [D.plain] using p))
  | .lst xs, 0, _, h, p => by simp [D.plain] at p
  | .lst xs, n + 1, _, h, p => by
    cases h with
    | lst h r => exact .lst (.inl (Rd_sub s h)) (reps_dp s r (n := n) (by simpa [D.plain] using p))
  | .scr _, _, _, h, p => by simp [D.plain] at p
  | .ins _ _, _, _, h, p => by simp [D.plain] at p
  | .dic _, _, _, h, p => by simp [D.plain] at p
  | .dit _, _, _, h, p => by simp [D.plain] at p
theorem reps_dp (s : Sub F H) : ∀ {ds : List D} {n : Nat} {vs : List V}, Reps k F vs ds → D.plains n ds = true → DpAll k.K H vs (toPs ds)
  | [], _, _, h, _ => by cases h; exact .nil
  | d :: ds, n, _, h, p => by
    cases h with
    | cons h r =>
      simp only [D.plains, Bool.and_eq_true] at p
      exact .cons (rep_dp s h p.1) (reps_dp s r p.2)
end
theorem pk_dp (s : Sub F H) {d : D} {n : Nat} {v : V} (h : PkV k F H v d) (p : d.plain n = true) : Dp k.K H v (toP d) := by
  rcases h with h | ⟨a, e, h⟩
  · exact rep_dp s h p
  · subst e
    cases d with
    | lst ds =>
      obtain ⟨xs, h, r⟩ := h
      cases n with
      | zero => simp [D.plain] at p
      | succ n => exact .lst (.inl (.inl h)) (reps_dp s r (n := n) (by simpa [D.plain] using p))
    | ins _ _ => simp [D.plain] at p
    | dic _ => simp [D.plain] at p
    | dit _ => simp [D.plain] at p
    | _ => exact h.elim
end
theorem any_eqv {n : Nat} {x : D} (hx : x.plain n = true) : ∀ {ys : List D} {m : Nat}, D.plains m ys = true → ((toPs ys).any fun z => PyData.eqv z (toP x)) = ys.any fun y => y.eqv x
  | [], _, _ => rfl
  | y :: ys, m, h => by
    simp only [D.plains, Bool.and_eq_true] at h
    simp only [toPs, List.any_cons]
    rw [toP_eqv m n y x h.1 hx, any_eqv hx h.2]

/-- a comparison of two values follows the evaluator's -/
def SemB (k : Kx) (r : R2) (ap : D → D → R Bool) : Prop := ∀ (F H : Hp) (x y : V) (dx dy : D) (b : Bool) (Q : VK), Sub F H → PkV k F H x dx → PkV k F H y dy → ap dx dy = .ok b → Q (.bl b) H → r x y H Q
section
variable {X : Cx} {k : Kx}
theorem asInts_map : ∀ {ds : List D} {ns : List Int}, asInts ds = some ns → ds = ns.map D.int
  | [], ns, h => by cases h; rfl
  | d :: ds, ns, h => by
    cases d with
    | int i =>
      simp only [asInts] at h
      cases q : asInts ds with
      | none => rw [q] at h; cases h
      | some ms =>
        rw [q] at h
        cases h
        rw [asInts_map q]
        rfl
    | _ => simp [asInts] at h
theorem reps_ints {F : Hp} : ∀ {ns : List Int} {xs : List V}, Reps k F xs (ns.map D.int) → xs = ns.map V.int
  | [], xs, h => by cases h; rfl
  | n :: ns, xs, h => by
    cases h with
    | cons h r =>
      cases h
      rw [reps_ints r]
      rfl
/-! order of plain data -/
open PySem.W in
mutual
theorem toP_alike : ∀ (n : Nat) (d e : D), d.u n = true → e.u n = true → PySem.W.alike (toP d) (toP e) = true
  | n, .int _, e, h, h' => by
    cases e with
    | int _ => rfl
    | tup ys =>
      simp only [D.u, beq_iff_eq] at h
      subst h
      simp [D.u] at h'
    | _ => simp [D.u] at h'
  | 0, .tup xs, e, h, _ => by simp [D.u] at h
  | n + 1, .tup xs, e, h, h' => by
    cases e with
    | tup ys =>
      simp only [D.u] at h h'
      simp only [toP, PySem.W.alike]
      exact toPs_alike n xs ys h h'
    | int _ => simp [D.u] at h'
    | _ => simp [D.u] at h'
  | n, .non, _, h, _ => by simp [D.u] at h
  | n, .bl _, _, h, _ => by simp [D.u] at h
  | n, .str _, _, h, _ => by simp [D.u] at h
  | n, .lst _, _, h, _ => by simp [D.u] at h
  | n, .ins _ _, _, h, _ => by simp [D.u] at h
theorem toPs_alike : ∀ (n : Nat) (ds es : List D), D.us n ds = true → D.us n es = true → PySem.W.alikeAll (toPs ds) (toPs es) = true
  | n, [], _, _, _ => by cases ‹List D› <;> simp [toPs, PySem.W.alikeAll]
  | n, _ :: _, [], _, _ => by simp [toPs, PySem.W.alikeAll]
  | n, d :: ds, e :: es, h, h' => by
    simp only [D.us, Bool.and_eq_true] at h h'
    simp only [toPs, PySem.W.alikeAll]
    rw [toP_alike n d e h.1 h'.1, toPs_alike n ds es h.2 h'.2]
    rfl
end
mutual
theorem u_plain : ∀ (n : Nat) (d : D), d.u n = true → d.plain n = true
  | n, .int _, _ => rfl
  | 0, .tup xs, h => by simp [D.u] at h
  | n + 1, .tup xs, h => by
    simp only [D.u] at h
    simp only [D.plain]
    exact us_plain n xs h
  | n, .non, h => by simp [D.u] at h
  | n, .bl _, h => by simp [D.u] at h
  | n, .str _, h => by simp [D.u] at h
  | n, .lst _, h => by simp [D.u] at h
  | n, .ins _ _, h => by simp [D.u] at h
theorem us_plain : ∀ (n : Nat) (ds : List D), D.us n ds = true → D.plains n ds = true
  | n, [], _ => rfl
  | n, d :: ds, h => by
    simp only [D.us, Bool.and_eq_true] at h
    simp only [D.plains]
    rw [u_plain n d h.1, us_plain n ds h.2]
    rfl
end
theorem keyInt (i j : Int) : PySem.W.dataLt (.int i) (.int j) = decide (i < j) := by
  simp [PySem.W.dataLt, PySem.W.keyToks, PyProof.Rows.lexLt, PyProof.Rows.itemOrd, PyProof.Rows.itemLt]
mutual
theorem toP_lt : ∀ (n : Nat) (d e : D), d.u n = true → e.u n = true → PySem.W.dataLt (toP d) (toP e) = d.ltx e
  | n, .int i, e, h, h' => by
    cases e with
    | int j => simp only [toP, D.ltx]; exact keyInt i j
    | tup ys =>
      simp only [D.u, beq_iff_eq] at h
      subst h
      simp [D.u] at h'
    | _ => simp [D.u] at h'
  | 0, .tup xs, e, h, _ => by simp [D.u] at h
  | n + 1, .tup xs, e, h, h' => by
    cases e with
    | tup ys =>
      simp only [D.u] at h h'
      simp only [toP, D.ltx]
      show PyProof.Rows.lexLt PyProof.Rows.itemOrd (PySem.W.keyToksAll (toPs xs)) (PySem.W.keyToksAll (toPs ys)) = _
      exact toPs_lt n xs ys h h'
    | int _ => simp [D.u] at h'
    | _ => simp [D.u] at h'
  | n, .non, _, h, _ => by simp [D.u] at h
  | n, .bl _, _, h, _ => by simp [D.u] at h
  | n, .str _, _, h, _ => by simp [D.u] at h
  | n, .lst _, _, h, _ => by simp [D.u] at h
  | n, .ins _ _, _, h, _ => by simp [D.u] at h
theorem toPs_lt : ∀ (n : Nat) (ds es : List D), D.us n ds = true → D.us n es = true → PyProof.Rows.lexLt PyProof.Rows.itemOrd (PySem.W.keyToksAll (toPs ds)) (PySem.W.keyToksAll (toPs es)) = D.ltxs ds es
  | n, [], [], _, _ => by
    simp only [toPs, PySem.W.keyToksAll, D.ltxs]
    exact PyProof.Rows.lex_irrefl _
  | n, [], e :: es, _, _ => by
    simp only [toPs, D.ltxs]
    rw [PySem.W.toks_all_cons]
    simp [PySem.W.keyToksAll, PyProof.Rows.lexLt, PyProof.Rows.itemOrd, PyProof.Rows.itemLt]
  | n, d :: ds, [], _, _ => by
    simp only [toPs, D.ltxs]
    rw [PySem.W.toks_all_cons]
    simp [PySem.W.keyToksAll, PyProof.Rows.lexLt, PyProof.Rows.itemOrd, PyProof.Rows.itemLt]
  | n, d :: ds, e :: es, h, h' => by
    simp only [D.us, Bool.and_eq_true] at h h'
    have ha := toP_alike n d e h.1 h'.1
    have hq := toP_eqv n n d e (u_plain n d h.1) (u_plain n e h'.1)
    simp only [toPs, D.ltxs]
    cases hb : d.eqv e with
    | true =>
      rw [PySem.W.dataLt_all_yes ha (hq.trans hb), toPs_lt n ds es h.2 h'.2]
      rfl
    | false =>
      rw [PySem.W.dataLt_all_no ha (hq.trans hb), toP_lt n d e h.1 h'.1]
      rfl
end
theorem uni_of {x y : D} (h : uni x y = true) : ∃ n, n ≤ 2 ∧ x.u n = true ∧ y.u n = true := by
  unfold uni at h
  rw [Bool.or_eq_true, Bool.and_eq_true, Bool.and_eq_true] at h
  rcases h with h | h
  · exact ⟨1, by decide, h.1, h.2⟩
  · exact ⟨2, by decide, h.1, h.2⟩
theorem u_none {n : Nat} {d : D} (h : d.u n = true) : toP d ≠ .none := by
  cases d <;> first | (simp [D.u] at h; done) | (intro z; cases z; done)
/-- a comparison by the library's data -/
def rData (K : PySem.W.Frag) (f : PyData → PyData → Bool) : R2 := fun x y H Q => ∃ d e, Dp K H x d ∧ Dp K H y e ∧ PySem.W.alike d e = true ∧ d ≠ .none ∧ d.depth ≤ 2 ∧ Q (.bl (f d e)) H
section
variable {X : Cx}
theorem op_ltDa (hu : X.A.units + 65 < cLine) : OpR X (compareOp .Lt) (rData X.K fun d e => PySem.W.dataLt d e) := by
  intro pins s σ H x y v u Q I rx ry h
  obtain ⟨d, e, hd, he, ha, hn, hdp, q⟩ := h
  obtain ⟨as, r1⟩ := Dp.reads I d x v hd rx
  obtain ⟨bs, r2⟩ := Dp.reads I e y u he ry
  exact PySem.W.lt_data r1 r2 ha hn (by have : min d.depth e.depth ≤ d.depth := Nat.min_le_left _ _; omega) ⟨.bl _, H, I, rfl, q⟩
theorem op_gtDa (hu : X.A.units + 65 < cLine) : OpR X (compareOp .Gt) (rData X.K fun d e => PySem.W.dataLt e d) := by
  intro pins s σ H x y v u Q I rx ry h
  obtain ⟨d, e, hd, he, ha, hn, hdp, q⟩ := h
  obtain ⟨as, r1⟩ := Dp.reads I d x v hd rx
  obtain ⟨bs, r2⟩ := Dp.reads I e y u he ry
  exact PySem.W.gt_data r1 r2 ha hn (by have : min d.depth e.depth ≤ d.depth := Nat.min_le_left _ _; omega) ⟨.bl _, H, I, rfl, q⟩
theorem op_leDa (hu : X.A.units + 65 < cLine) : OpR X (compareOp .LtE) (rData X.K fun d e => !PySem.W.dataLt e d) := by
  intro pins s σ H x y v u Q I rx ry h
  obtain ⟨d, e, hd, he, ha, hn, hdp, q⟩ := h
  obtain ⟨as, r1⟩ := Dp.reads I d x v hd rx
  obtain ⟨bs, r2⟩ := Dp.reads I e y u he ry
  exact PySem.W.le_data r1 r2 ha hn (by have : min d.depth e.depth ≤ d.depth := Nat.min_le_left _ _; omega) ⟨.bl _, H, I, rfl, q⟩
theorem op_geDa (hu : X.A.units + 65 < cLine) : OpR X (compareOp .GtE) (rData X.K fun d e => !PySem.W.dataLt d e) := by
  intro pins s σ H x y v u Q I rx ry h
  obtain ⟨d, e, hd, he, ha, hn, hdp, q⟩ := h
  obtain ⟨as, r1⟩ := Dp.reads I d x v hd rx
  obtain ⟨bs, r2⟩ := Dp.reads I e y u he ry
  exact PySem.W.ge_data r1 r2 ha hn (by have : min d.depth e.depth ≤ d.depth := Nat.min_le_left _ _; omega) ⟨.bl _, H, I, rfl, q⟩
end
theorem sem_data (e : X.K = k.K) {f : PyData → PyData → Bool} {F H : Hp} {x y : V} {dx dy : D} {b : Bool} {Q : VK} (sb : Sub F H) (px : PkV k F H x dx) (py : PkV k F H y dy) (hu : uni dx dy = true)
    (hf : ∀ n, dx.u n = true → dy.u n = true → f (toP dx) (toP dy) = b) (q : Q (.bl b) H) : rData X.K f x y H Q := by
  obtain ⟨n, hn, h1, h2⟩ := uni_of hu
  refine ⟨toP dx, toP dy, by rw [e]; exact pk_dp sb px (u_plain n _ h1), by rw [e]; exact pk_dp sb py (u_plain n _ h2), toP_alike n _ _ h1 h2, u_none h1, Nat.le_trans (toP_lay n _ (u_plain n _ h1)).2 hn, ?_⟩
  rw [hf n h1 h2]
  exact q
def rLt (X : Cx) : R2 := fun x y H Q => rI0 (fun i j => .bl (decide (i < j))) x y H Q ∨ rData X.K (fun d e => PySem.W.dataLt d e) x y H Q
theorem sem_lt (e : X.K = k.K) : SemB k (rLt X) Cop.lt.ap := by
  intro F H x y dx dy b Q sb px py ap q
  replace ap : ltD dx dy = .ok b := ap
  unfold ltD at ap
  split at ap
  · cases ap
    rw [pk_int px, pk_int py]
    exact .inl ⟨_, _, rfl, rfl, q⟩
  · split at ap
    · rename_i hu
      cases ap
      exact .inr (sem_data e sb px py hu (fun n h1 h2 => toP_lt n _ _ h1 h2) q)
    · cases ap
def rGt (X : Cx) : R2 := fun x y H Q => rI0 (fun i j => .bl (decide (j < i))) x y H Q ∨ rData X.K (fun d e => PySem.W.dataLt e d) x y H Q
theorem sem_gt (e : X.K = k.K) : SemB k (rGt X) Cop.gt.ap := by
  intro F H x y dx dy b Q sb px py ap q
  replace ap : gtD dx dy = .ok b := ap
  unfold gtD at ap
  split at ap
  · cases ap
    rw [pk_int px, pk_int py]
    exact .inl ⟨_, _, rfl, rfl, q⟩
  · split at ap
    · rename_i hu
      cases ap
      exact .inr (sem_data e sb px py hu (fun n h1 h2 => toP_lt n _ _ h2 h1) q)
    · cases ap
def rLe (X : Cx) : R2 := fun x y H Q => rI0 (fun i j => .bl (decide (i ≤ j))) x y H Q ∨ rData X.K (fun d e => !PySem.W.dataLt e d) x y H Q
theorem sem_le (e : X.K = k.K) : SemB k (rLe X) Cop.le.ap := by
  intro F H x y dx dy b Q sb px py ap q
  replace ap : leD dx dy = .ok b := ap
  unfold leD at ap
  split at ap
  · cases ap
    rw [pk_int px, pk_int py]
    exact .inl ⟨_, _, rfl, rfl, q⟩
  · split at ap
    · rename_i hu
      cases ap
      exact .inr (sem_data e sb px py hu (fun n h1 h2 => congrArg (!·) (toP_lt n _ _ h2 h1)) q)
    · cases ap
def rGe (X : Cx) : R2 := fun x y H Q => rI0 (fun i j => .bl (decide (j ≤ i))) x y H Q ∨ rData X.K (fun d e => !PySem.W.dataLt d e) x y H Q
theorem sem_ge (e : X.K = k.K) : SemB k (rGe X) Cop.ge.ap := by
  intro F H x y dx dy b Q sb px py ap q
  replace ap : geD dx dy = .ok b := ap
  unfold geD at ap
  split at ap
  · cases ap
    rw [pk_int px, pk_int py]
    exact .inl ⟨_, _, rfl, rfl, q⟩
  · split at ap
    · rename_i hu
      cases ap
      exact .inr (sem_data e sb px py hu (fun n h1 h2 => congrArg (!·) (toP_lt n _ _ h1 h2)) q)
    · cases ap
theorem pk_isnon {F H : Hp} {v : V} {d : D} (h : PkV k F H v d) : decide (v = .non) = (match d with | .non => true | _ => false) := by
  rcases h with h | ⟨a, e, h⟩
  · cases h <;> rfl
  · subst e
    cases d <;> first | exact h.elim | rfl
theorem sem_isn : SemB k (fun x y H Q => y = .non ∧ Q (.bl (decide (x = .non))) H) Cop.isn.ap := by
  intro F H x y dx dy b Q sb px py ap q
  replace ap : isnD dx dy = .ok b := ap
  unfold isnD at ap
  split at ap
  · cases ap
    exact ⟨pk_non py, by rw [pk_isnon px]; exact q⟩
  · rename_i hne
    cases ap
    refine ⟨pk_non py, ?_⟩
    rw [pk_isnon px]
    cases dx <;> first | exact q | exact (hne rfl).elim
  · cases ap
theorem sem_notn : SemB k (fun x y H Q => y = .non ∧ Q (.bl (!decide (x = .non))) H) Cop.notn.ap := by
  intro F H x y dx dy b Q sb px py ap q
  replace ap : (isnD dx dy).bind (fun b => .ok (!b)) = .ok b := ap
  cases h : isnD dx dy with
  | ok c =>
    rw [h] at ap
    cases ap
    exact sem_isn F H x y dx dy c (fun v H => Q (match v with | .bl c => .bl (!c) | v => v) H) sb px py h q
  | exc c gs => rw [h] at ap; cases ap
  | stuck => rw [h] at ap; cases ap
/-- a key read where it stands -/
theorem pk_kk {F H : Hp} {v : V} {d : D} {x : Kk} (h : PkV k F H v d) (hk : keyD d = some x) : v = kV x := by
  cases d with
  | int i => cases hk; exact pk_int h
  | str i => cases hk; exact pk_str h
  | _ => cases hk
theorem pk_kt {F H : Hp} (sb : Sub F H) {v : V} {d : D} {x : NestedKey} (h : PkV k F H v d) (hk : keyT d = some x) : ∃ b, v = .ref b ∧ x.depth ≤ 8 ∧ NkV k.K H (.ref b) x ∧ Rep k F (.ref b) (keyB x) := by
  obtain ⟨e, hd, ds, rfl⟩ := keyT_of hk
  rcases h with h | ⟨a, _, h⟩
  · cases h with
    | @tup a _ _ h r =>
      have hr : Rep k F (.ref a) (keyB x) := by rw [e]; exact .tup h r
      exact ⟨_, rfl, hd, rep_nk sb x hr, hr⟩
  · exact h.elim
theorem any_get {κ : Type} [DecidableEq κ] (ks : List (κ × D)) (x : κ) : (ks.any fun kv => decide (kv.1 = x)) = (getK ks x).isSome := by
  rw [find_any, getK, Option.isSome_map]
theorem repK_some {F : Hp} (x : Kk) {kvs : List (L2.Key × V)} {ks : List (Kk × D)} (r : RepK k F kvs ks) : (valV kvs x).isSome = (getK ks x).isSome := by
  rw [← valV_any, r.any, any_get]
def rInX (X : Cx) : R2 := fun x y H Q => rInD X.K x y H Q ∨ (∃ a o, y = .ref a ∧ DGet H a x o ∧ Q (.bl o.isSome) H) ∨ rInT X id x y H Q
def rNotInX (X : Cx) : R2 := fun x y H Q => rNotInD X.K x y H Q ∨ (∃ a o, y = .ref a ∧ DGet H a x o ∧ Q (.bl (!o.isSome)) H) ∨ rInT X not x y H Q
theorem op_inK (hu : X.A.units + 65 < cLine) : OpR X (compareOp .In) (fun x y H Q => ∃ a o, y = .ref a ∧ DGet H a x o ∧ Q (.bl o.isSome) H) := by
  intro pins s σ H x y v u Q I rx ry h
  obtain ⟨a, o, rfl, g, q⟩ := h
  cases ry
  exact d_in (by omega) I g rx fun s' I' => ⟨.bl _, H, I', rfl, q⟩
theorem op_notInK (hu : X.A.units + 65 < cLine) : OpR X (compareOp .NotIn) (fun x y H Q => ∃ a o, y = .ref a ∧ DGet H a x o ∧ Q (.bl (!o.isSome)) H) := by
  intro pins s σ H x y v u Q I rx ry h
  obtain ⟨a, o, rfl, g, q⟩ := h
  cases ry
  exact d_notIn (by omega) I g rx fun s' I' => ⟨.bl _, H, I', rfl, q⟩
theorem sem_inn (e : X.K = k.K) (ew : X.w = k.w) : SemB k (rInX X) Cop.inn.ap := by
  intro F H x y dx dy b Q sb px py ap q
  replace ap : inD dx dy = .ok b := ap
  unfold inD at ap
  split at ap
  · rename_i ys
    split at ap
    · rename_i hh
      rw [Bool.and_eq_true] at hh
      cases ap
      have hp : D.plains 59 ys = true := by simpa [D.plain] using hh.2
      refine .inl ⟨toP dx, toPs ys, by rw [e]; exact pk_dp sb px hh.1, by rw [e]; exact pk_dp sb py hh.2, shaped_of hh.1 (by decide), shaped_of hh.2 (by decide), ?_⟩
      rw [any_eqv hh.1 hp]
      exact q
    · cases ap
  · rename_i ks
    split at ap
    · rename_i kk hk
      cases ap
      obtain ⟨a, kvs, rfl, hx, rx⟩ := pk_dic sb py
      refine .inr (.inl ⟨a, _, rfl, .inl ⟨kvs, kk, hx, pk_kk px hk, rfl⟩, ?_⟩)
      rw [repK_some kk rx]
      exact q
    · cases ap
  · rename_i ks
    split at ap
    · rename_i kk hk
      cases ap
      obtain ⟨a, xs, rfl, hx, rx⟩ := pk_dit sb py
      obtain ⟨b, rfl, hd, hn, _⟩ := pk_kt sb px hk
      refine .inr (.inr ⟨a, xs, kk, b, rfl, rfl, by rw [ew]; exact hx, by rw [e]; exact repT_keys sb rx, hd, by rw [e]; exact hn, ?_⟩)
      rw [rx.any, any_get]
      exact q
    · cases ap
  · cases ap
theorem sem_nin (e : X.K = k.K) (ew : X.w = k.w) : SemB k (rNotInX X) Cop.nin.ap := by
  intro F H x y dx dy b Q sb px py ap q
  replace ap : (inD dx dy).bind (fun b => .ok (!b)) = .ok b := ap
  cases h : inD dx dy with
  | ok c =>
    rw [h] at ap
    cases ap
    rcases sem_inn e ew F H x y dx dy c (fun v H => Q (match v with | .bl c => .bl (!c) | v => v) H) sb px py h q with z | z | z
    · exact .inl z
    · exact .inr (.inl z)
    · exact .inr (.inr z)
  | exc c gs => rw [h] at ap; cases ap
  | stuck => rw [h] at ap; cases ap
def cmpOp : Cop → CmpOp
  | .lt => .Lt
  | .le => .LtE
  | .gt => .Gt
  | .ge => .GtE
  | .isn => .Is
  | .notn => .IsNot
  | .inn => .In
  | .nin => .NotIn
theorem cop_rule (e : X.K = k.K) (ew : X.w = k.w) (hu : X.A.units + 65 < cLine) (o : Cop) : ∃ r, OpR X (compareOp (cmpOp o)) r ∧ SemB k r o.ap := by
  cases o with
  | lt => exact ⟨_, OpR.or op_lt (op_ltDa hu), sem_lt e⟩
  | le => exact ⟨_, OpR.or op_le (op_leDa hu), sem_le e⟩
  | gt => exact ⟨_, OpR.or op_gt (op_gtDa hu), sem_gt e⟩
  | ge => exact ⟨_, OpR.or op_ge (op_geDa hu), sem_ge e⟩
  | isn => exact ⟨_, op_isN, sem_isn⟩
  | notn => exact ⟨_, op_notN, sem_notn⟩
  | inn => exact ⟨_, op_any2 (op_inD hu) (op_any2 (op_inK hu) (op_inT hu)), sem_inn e ew⟩
  | nin => exact ⟨_, op_any2 (op_notInD hu) (op_any2 (op_notInK hu) (op_notInT hu)), sem_nin e ew⟩
end
end Rx

set_option Elab.async false
set_option linter.all false
set_option maxRecDepth 100000
/-! Rx5: operations as expressions. -/
namespace Rx
open PySem PySem.Spec PyProof.Rows L2

/-! ### operations raise nothing -/
theorem ok_ne {α : Type} {a : α} {c : Nat} {gs : List (Nat × D)} : (R.ok a) ≠ .exc c gs := fun h => nomatch h
theorem of_noexc {α : Type} {o : Option α} {c : Nat} {gs : List (Nat × D)} : R.of o ≠ .exc c gs := by
  cases o <;> exact fun h => nomatch h
theorem bind_noexc {α β : Type} {r : R α} {f : α → R β} (h1 : ∀ c gs, r ≠ .exc c gs) (h2 : ∀ a c gs, f a ≠ .exc c gs) {c : Nat} {gs : List (Nat × D)} : r.bind f ≠ .exc c gs := by
  cases r with
  | ok a => exact h2 a c gs
  | exc c gs => exact absurd rfl (h1 c gs)
  | stuck => exact fun h => nomatch h
theorem bop_noexc (o : Bop) (x y : D) (c : Nat) (gs : List (Nat × D)) : o.ap x y ≠ .exc c gs := by
  cases o <;> simp only [Bop.ap, addD, subD, mulD, fdivD, modD, powD, shlD, shrD] <;> (repeat' split) <;> exact fun h => nomatch h
theorem inD_noexc (x y : D) (c : Nat) (gs : List (Nat × D)) : inD x y ≠ .exc c gs := by
  simp only [inD]; (repeat' split) <;> exact fun h => nomatch h
theorem isnD_noexc (x y : D) (c : Nat) (gs : List (Nat × D)) : isnD x y ≠ .exc c gs := by
  unfold isnD; (repeat' split) <;> exact fun h => nomatch h
theorem cop_noexc (o : Cop) (x y : D) (c : Nat) (gs : List (Nat × D)) : o.ap x y ≠ .exc c gs := by
  cases o with
  | lt => simp only [Cop.ap]; unfold ltD; (repeat' split) <;> exact fun h => nomatch h
  | le => simp only [Cop.ap]; unfold leD; (repeat' split) <;> exact fun h => nomatch h
  | gt => simp only [Cop.ap]; unfold gtD; (repeat' split) <;> exact fun h => nomatch h
  | ge => simp only [Cop.ap]; unfold geD; (repeat' split) <;> exact fun h => nomatch h
  | isn => exact isnD_noexc x y c gs
  | notn => exact bind_noexc (isnD_noexc x y) fun _ _ _ => ok_ne
  | inn => exact inD_noexc x y c gs
  | nin => exact bind_noexc (inD_noexc x y) fun _ _ _ => ok_ne
theorem atD_noexc (xs : List D) (i : Int) (c : Nat) (gs : List (Nat × D)) : atD xs i ≠ .exc c gs := by
  unfold atD; split
  · exact of_noexc
  · exact fun h => nomatch h
theorem slcD_noexc (x : D) (l h : Option Int) (c : Nat) (gs : List (Nat × D)) : slcD x l h ≠ .exc c gs := by
  unfold slcD; split <;> exact fun h => nomatch h
theorem bi_noexc (b : Bi) (ds : List D) (c : Nat) (gs : List (Nat × D)) : b.ap ds ≠ .exc c gs := by
  cases b <;> simp only [Bi.ap] <;> first
    | (unfold lenD; (repeat' split) <;> (intro h; cases h; done))
    | (unfold intD; (repeat' split) <;> (intro h; cases h; done))
    | (unfold absD; (repeat' split) <;> (intro h; cases h; done))
    | (unfold minD; (repeat' split) <;> (intro h; cases h; done))
    | (unfold maxD; (repeat' split) <;> (intro h; cases h; done))
    | (unfold tupD; (repeat' split) <;> (intro h; cases h; done))
    | (unfold lstD; (repeat' split) <;> (intro h; cases h; done))
    | (unfold dvmD; (repeat' split) <;> (intro h; cases h; done))
    | (unfold sumD; split <;> first | exact bind_noexc (fun _ _ => of_noexc) fun _ _ _ => ok_ne | (intro h; cases h; done))
    | (unfold allD; split <;> first | exact bind_noexc (fun _ _ => of_noexc) fun _ _ _ => ok_ne | (intro h; cases h; done))
    | (unfold anyD; split <;> first | exact bind_noexc (fun _ _ => of_noexc) fun _ _ _ => ok_ne | (intro h; cases h; done))
theorem dspD_noexc (ds : List D) (c : Nat) (gs : List (Nat × D)) : dspD ds ≠ .exc c gs := by
  unfold dspD; (repeat' split) <;> exact fun h => nomatch h
theorem ixD_noexc (x y : D) (c : Nat) (gs : List (Nat × D)) : ixD x y ≠ .exc c gs := by
  unfold ixD; split <;> first | exact bind_noexc (atD_noexc _ _) fun _ _ _ => ok_ne | exact bind_noexc (fun _ _ => of_noexc) fun _ _ _ => ok_ne | (intro h; cases h; done) | (split <;> first | exact bind_noexc (fun _ _ => of_noexc) fun _ _ _ => ok_ne | (intro h; cases h; done))
theorem op_noexc (o : Op) (ds : List D) (c : Nat) (gs : List (Nat × D)) : o.ap ds ≠ .exc c gs := by
  unfold Op.ap
  split <;> first
    | (intro h; cases h; done)
    | (split <;> (intro h; cases h; done))
    | exact bop_noexc _ _ _ _ _
    | exact bind_noexc (cop_noexc _ _ _) fun _ _ _ => ok_ne
    | exact slcD_noexc _ _ _ _ _
    | exact bi_noexc _ _ _ _
    | exact ixD_noexc _ _ _ _
    | exact dspD_noexc _ _ _
    | exact bind_noexc (fun _ _ => of_noexc) fun _ _ _ => ok_ne
    | (unfold attrD; (repeat' split) <;> (intro h; cases h; done))

theorem rof_ok {α : Type} {o : Option α} {a : α} (h : R.of o = .ok a) : o = some a := by
  cases o with
  | none => cases h
  | some b => cases h; rfl
theorem rbind_ok {α β : Type} {r : R α} {f : α → R β} {b : β} (h : r.bind f = .ok b) : ∃ a, r = .ok a ∧ f a = .ok b := by
  cases r with
  | ok a => exact ⟨a, rfl, h⟩
  | exc c gs => cases h
  | stuck => cases h
section
variable {X : Cx} {k : Kx} {E : XK} {a b : Expr} {pos : Pos}
theorem tP_mono {f : Env → R (Pv × Env)} {σ : St} {H : Hp} {P P' : V → Hp → Prop} (h : tP k E f σ H P) (m : ∀ x H1, P x H1 → P' x H1) : tP k E f σ H P' := by
  obtain ⟨F, ρ, K1, p⟩ := h
  exact ⟨F, ρ, K1, p.mono fun x ρ1 F1 H1 _ _ q v hv => m v H1 (q v hv)⟩
theorem tA_mono {f : Env → R (List Pv × Env)} {σ : St} {H : Hp} {P P' : List V → Hp → Prop} (h : tA k E f σ H P) (m : ∀ x H1, P x H1 → P' x H1) : tA k E f σ H P' := by
  obtain ⟨F, ρ, K1, p⟩ := h
  exact ⟨F, ρ, K1, p.mono fun x ρ1 F1 H1 _ _ q v hv => m v H1 (q v hv)⟩
theorem pe_binE (e : X.K = k.K) (o : Bop) {f1 f2 : Env → R (Pv × Env)} (h : PCs X k E [a, b] [f1, f2]) : PE X (.BinOp a (binOp o) b pos) (tS k E (opP true [f1, f2] (Op.ap (.bin o)))) := by
  obtain ⟨r, h1, h2⟩ := bop_rule (X := X) e o
  cases h with
  | cons n1 ha h =>
    cases h with
    | cons n2 hb h =>
      refine pe_weak (pe_op h1 ha hb) fun σ H Q q => ?_
      refine tP_mono (run2 q) fun x H1 q => tP_mono q fun y H2 q => ?_
      obtain ⟨F2, ρ2, dx, dy, K2, px, py, dm, fin⟩ := q
      obtain ⟨s, hs, hq⟩ := fin.ok K2 dm (bop_noexc o dx dy)
      exact h2 F2 H2 x y dx dy s Q K2.sub px py hs hq
theorem semB_fin {r : R2} {o : Cop} (h2 : SemB k r o.ap) {F2 H2 H0 : Hp} {σ : St} {ρ2 : Env} {x y : V} {dx dy : D} {Q : VK} (K2 : Okk k F2 σ H2 ρ2) (px : PkV k F2 H2 x dx) (py : PkV k F2 H2 y dy) (dm : ∀ b, Nz H0 b → Nz H2 b)
    (fin : Fin k E F2 H2 σ H0 ρ2 (Op.ap (.cmp o) [dx, dy]) Q) : r x y H2 Q := by
  obtain ⟨s, hs, hq⟩ := fin.ok K2 dm (op_noexc (.cmp o) [dx, dy])
  have hs' : (o.ap dx dy).bind (fun b => .ok (.frz (.bl b))) = .ok s := hs
  cases hb : o.ap dx dy with
  | ok b =>
    rw [hb] at hs'
    cases hs'
    exact h2 F2 H2 x y dx dy b Q K2.sub px py hb (hq _ F2 H2 (.same (.bl b)))
  | exc c gs => rw [hb] at hs'; cases hs'
  | stuck => rw [hb] at hs'; cases hs'
theorem pe_cmpE (e : X.K = k.K) (ew : X.w = k.w) (hu : X.A.units + 65 < cLine) (o : Cop) {f1 f2 : Env → R (Pv × Env)} (h : PCs X k E [a, b] [f1, f2]) (hm : behindInMarks (cmpOp o) b = false) :
    PE X (.Compare a [cmpOp o] [b] pos) (tS k E (opP true [f1, f2] (Op.ap (.cmp o)))) := by
  obtain ⟨r, h1, h2⟩ := cop_rule (X := X) e ew hu o
  cases h with
  | cons n1 ha h =>
    cases h with
    | cons n2 hb h =>
      refine pe_weak (pe_cmpR h1 ha hb hm) fun σ H Q q => ?_
      refine tP_mono (run2 q) fun x H1 q => tP_mono q fun y H2 q => ?_
      obtain ⟨F2, ρ2, dx, dy, K2, px, py, dm, fin⟩ := q
      exact semB_fin h2 K2 px py dm fin
theorem paired_atI {F : Hp} {xs : List V} {ds : List D} (r : Reps k F xs ds) {i : Int} {d : D} (h : atD ds i = .ok d) : ∃ v, atI xs i = some v ∧ Rep k F v d := by
  unfold atD at h
  split at h
  · rename_i j hj
    have h2 : ds[j]? = some d := by
      cases q : ds[j]? with
      | none => rw [q] at h; cases h
      | some e => rw [q] at h; cases h; rfl
    obtain ⟨v, h3, h4⟩ := r.get h2
    refine ⟨v, ?_, h4⟩
    unfold atI
    have hj' : L2.ixN xs.length i = some j := by rw [r.length]; exact hj
    rw [hj']
    exact h3
  · cases h
def notSlice : Expr → Bool
  | .Slice _ _ _ _ => false
  | _ => true
theorem plainIx {e : Expr} (h : notSlice e = true) : PlainIx e := by
  intro o i
  cases e <;> first | rfl | (simp [notSlice] at h)
theorem ix_dict (hu : X.A.units + 65 < cLine) : IxR X (fun x y H Q => ∃ a v, x = .ref a ∧ DGet H a y (some v) ∧ Q v H) := by
  intro value slice pins s σ H x y v u Q I rx ry h hs
  obtain ⟨a, w, rfl, g, q⟩ := h
  cases rx
  exact tail_any (dict_typeIs I g) PySem.F.slot_dict_getitem.lookup (d_getItem (by omega) I g ry fun w' s3 I3 rw' => ⟨w, H, I3, rw', q⟩) hs
theorem ix_dicT (hu : X.A.units + 65 < cLine) : IxR X (rIxT X) := by
  intro value slice pins s σ H x y v u Q I rx ry h hs
  have h' := h
  obtain ⟨a, xs, kk, b, e, rfl, rfl, ha, hk, hd, hn, he, q⟩ := h'
  obtain ⟨_, _, ys, pr, dd⟩ := dto_at I ha hk
  have rx' := rx
  cases rx'
  exact tail_any dd.typeIs PySem.F.slot_dict_getitem.lookup (get_T hu pins s σ H _ _ _ _ Q I rx ry h) hs
theorem pe_ixE (e : X.K = k.K) (ew : X.w = k.w) (hu : X.A.units + 65 < cLine) {f1 f2 : Env → R (Pv × Env)} (h : PCs X k E [a, b] [f1, f2]) (hs : notSlice b = true) : PE X (.Subscript a b pos) (tS k E (opP true [f1, f2] (Op.ap .ix))) := by
  cases h with
  | cons n1 ha h =>
    cases h with
    | cons n2 hb h =>
      refine pe_weak (pe_ix (ix_seq.or ((ix_dict hu).or (ix_dicT hu))) ha hb (plainIx hs)) fun σ H Q q => ?_
      refine tP_mono (run2 q) fun x H1 q => tP_mono q fun y H2 q => ?_
      obtain ⟨F2, ρ2, dx, dy, K2, px, py, dm, fin⟩ := q
      obtain ⟨s, hs, hq⟩ := fin.ok K2 dm (op_noexc .ix [dx, dy])
      have hs' : ixD dx dy = .ok s := hs
      unfold ixD at hs'
      split at hs'
      · cases hd : atD _ _ with
        | ok d =>
          rw [hd] at hs'
          cases hs'
          obtain ⟨a', xs, rfl, hx, rx⟩ := pk_lst K2.sub px
          obtain ⟨v, h3, h4⟩ := paired_atI rx hd
          rw [pk_int py]
          exact .inl (.inl ⟨a', xs, _, v, rfl, rfl, .inl hx, h3, hq v F2 H2 (.same h4)⟩)
        | exc c gs => rw [hd] at hs'; cases hs'
        | stuck => rw [hd] at hs'; cases hs'
      · cases hd : atD _ _ with
        | ok d =>
          rw [hd] at hs'
          cases hs'
          obtain ⟨a', xs, rfl, hx, rx⟩ := pk_tup px
          obtain ⟨v, h3, h4⟩ := paired_atI rx hd
          rw [pk_int py]
          exact .inl (.inr (.inl ⟨a', xs, _, v, rfl, rfl, by rw [e]; exact SqT_sub K2.sub hx, h3, hq v F2 H2 (.same h4)⟩))
        | exc c gs => rw [hd] at hs'; cases hs'
        | stuck => rw [hd] at hs'; cases hs'
      · rename_i ns i
        split at hs'
        · rename_i j hj
          cases hd : ns[j]? with
          | some v =>
            rw [hd] at hs'
            cases hs'
            obtain ⟨a', rfl, hx⟩ := pk_scr K2.sub px
            rw [pk_int py]
            refine .inl (.inl ⟨a', _, i, .int v, rfl, rfl, by rw [e]; exact hx, ?_, hq _ F2 H2 (.same (.int v))⟩)
            unfold atI
            rw [List.length_map]
            have hj' : L2.ixN ns.length i = some j := hj
            rw [hj']
            show (ns.map V.int)[j]? = _
            rw [List.getElem?_map, hd]
            rfl
          | none => rw [hd] at hs'; cases hs'
        · cases hs'
      · rename_i ks x
        obtain ⟨d, hd, hs2⟩ := rbind_ok hs'
        cases hs2
        obtain ⟨kk, hk, hg⟩ := Option.bind_eq_some_iff.mp (rof_ok hd)
        obtain ⟨a', kvs, rfl, hx, rx⟩ := pk_dic K2.sub px
        obtain ⟨v, hv, rv⟩ := (rx.get kk).1 d hg
        exact .inr (.inl ⟨a', v, rfl, .inl ⟨kvs, kk, hx, pk_kk py hk, hv.symm⟩, hq v F2 H2 (.same rv)⟩)
      · rename_i ks x
        obtain ⟨d, hd, hs2⟩ := rbind_ok hs'
        cases hs2
        obtain ⟨kk, hk, hg⟩ := Option.bind_eq_some_iff.mp (rof_ok hd)
        obtain ⟨a', xs, rfl, hx, rx⟩ := pk_dit K2.sub px
        obtain ⟨b, rfl, hdp, hn, _⟩ := pk_kt K2.sub py hk
        obtain ⟨en, hv, rv⟩ := (rx.get kk).1 d hg
        exact .inr (.inr ⟨a', xs, kk, b, en, rfl, rfl, by rw [ew]; exact hx, by rw [e]; exact repT_keys K2.sub rx, hdp, by rw [e]; exact hn, hv, hq _ F2 H2 (.same rv)⟩)
      · cases hs'
theorem pe_negE {f1 : Env → R (Pv × Env)} (h : PCs X k E [a] [f1]) : PE X (.UnaryOp .USub a pos) (tS k E (opP true [f1] (Op.ap .neg))) := by
  cases h with
  | cons n1 ha h =>
    refine pe_weak (pe_un un_neg ha) fun σ H Q q => ?_
    refine tP_mono (run1 q) fun x H1 q => ?_
    obtain ⟨F2, ρ2, dx, K2, px, dm, fin⟩ := q
    obtain ⟨s, hs, hq⟩ := fin.ok K2 dm (op_noexc .neg [dx])
    cases dx with
    | int i =>
      cases hs
      rw [pk_int px]
      exact ⟨i, rfl, hq _ F2 H1 (.same (.int _))⟩
    | _ => exact nomatch hs
theorem pe_tupE {es : List Expr} {kk : Nat} {fs : List (Env → R (Pv × Env))} (h : PCs X k E es fs) : PE X (.Tuple es kk pos) (tS k E (opP false fs (Op.ap .tup))) := by
  refine pe_weak (pe_tup h.pa) fun σ H Q q => ?_
  refine tA_mono (runF q) fun vs H1 q => ?_
  obtain ⟨F1, ρ1, ds, K1, r, dm, fin⟩ := q
  obtain ⟨s, hs, hq⟩ := fin.ok K1 dm (op_noexc .tup ds)
  have hs' : (if szOk ds.length then .ok (.frz (.tup ds)) else .stuck : R Sl) = .ok s := hs
  split at hs'
  · rename_i hz
    cases hs'
    exact ⟨by rw [r.length]; exact szOk_le hz, fun p hp => hq _ _ _ (new_tup K1.sub hp r)⟩
  · cases hs'
theorem pe_lstE {es : List Expr} {fs : List (Env → R (Pv × Env))} (h : PCs X k E es fs) : PE X (.List es pos) (tS k E (opP false fs (Op.ap .lst))) := by
  refine pe_weak (pe_lst h.pa) fun σ H Q q => ?_
  refine tA_mono (runF q) fun vs H1 q => ?_
  obtain ⟨F1, ρ1, ds, K1, r, dm, fin⟩ := q
  obtain ⟨s, hs, hq⟩ := fin.ok K1 dm (op_noexc .lst ds)
  have hs' : (if szOk ds.length then .ok (.own (.lst ds)) else .stuck : R Sl) = .ok s := hs
  split at hs'
  · rename_i hz
    cases hs'
    exact ⟨by rw [r.length]; exact szOk_le hz, fun p hp => hq _ _ _ (new_lst hp r)⟩
  · cases hs'
end

/-! ### built-ins -/
theorem dpAll_get {K : PySem.W.Frag} {H : Hp} : ∀ {vs : List V} {ds : List PyData} {i : Nat} {v : V}, DpAll K H vs ds → vs[i]? = some v → ∃ d, ds[i]? = some d ∧ Dp K H v d
  | _, _, i, v, .nil, e => by simp at e
  | _, _, 0, v, .cons h r, e => by
    simp at e; subst e; exact ⟨_, rfl, h⟩
  | _, _, i + 1, v, .cons h r, e => by
    obtain ⟨d, h1, h2⟩ := dpAll_get (i := i) r (by simpa using e)
    exact ⟨d, by simpa using h1, h2⟩
theorem minD_mem (x : PyData) : ∀ xs : List PyData, PySem.W.minD x xs ∈ x :: xs := fun xs => by
  unfold PySem.W.minD
  have h : ∀ (xs : List PyData) (a : PyData), xs.foldl (fun a y => if PySem.W.dataLt y a = true then y else a) a ∈ a :: xs := by
    intro xs
    induction xs with
    | nil => intro a; simp
    | cons y ys ih =>
      intro a
      rw [List.foldl_cons]
      have := ih (if PySem.W.dataLt y a = true then y else a)
      rcases List.mem_cons.mp this with e | m
      · rw [e]
        split
        · exact List.mem_cons_of_mem _ List.mem_cons_self
        · exact List.mem_cons_self
      · exact List.mem_cons_of_mem _ (List.mem_cons_of_mem _ m)
  exact h xs x
theorem maxD_mem (x : PyData) : ∀ xs : List PyData, PySem.W.maxD x xs ∈ x :: xs := fun xs => by
  unfold PySem.W.maxD
  have h : ∀ (xs : List PyData) (a : PyData), xs.foldl (fun a y => if PySem.W.dataLt a y = true then y else a) a ∈ a :: xs := by
    intro xs
    induction xs with
    | nil => intro a; simp
    | cons y ys ih =>
      intro a
      rw [List.foldl_cons]
      have := ih (if PySem.W.dataLt a y = true then y else a)
      rcases List.mem_cons.mp this with e | m
      · rw [e]
        split
        · exact List.mem_cons_of_mem _ List.mem_cons_self
        · exact List.mem_cons_self
      · exact List.mem_cons_of_mem _ (List.mem_cons_of_mem _ m)
  exact h xs x
def rBest (K : PySem.W.Frag) (best : PyData → List PyData → PyData) : List V → Hp → VK → Prop := fun vs H Q => ∃ a xs d ds, vs = [V.ref a] ∧ (SqL K H a xs ∨ SqT K H a xs) ∧ DpAll K H xs (d :: ds) ∧ PySem.W.AlikeAll (d :: ds) ∧ PyData.depthAll (d :: ds) ≤ 8 ∧
  ∀ (i : Nat) v, xs[i]? = some v → (d :: ds)[i]? = some (best d ds) → Q v H
section
variable {X : Cx}
theorem best_end {pins : List (Addr × Obj)} {σ : L2.St} {H : Hp} {s : Shared} {xs : List V} {its : List Value} {d m : PyData} {ds : List PyData} {h' : Heap} {tk : Nat} {i : Nat} {v : Value} {bs : List Addr} {Q : VK}
    (I : Inv X pins σ H s) (rv : Vals xs its) (hd : DpAll X.K H xs (d :: ds)) (ha : PySem.W.AlikeAll (d :: ds)) (hm : m ∈ d :: ds) (hv : its.toArray[i]? = some v) (r : Reads h' v m bs) (k : ∀ b o, s.heap.get? b = some o → h'.get? b = some o)
    (q : ∀ (i : Nat) v, xs[i]? = some v → (d :: ds)[i]? = some m → Q v H) : EP X pins σ Q v { s with heap := h', toks := tk } := by
  have hv' : its[i]? = some v := by simpa using hv
  obtain ⟨hi, e⟩ := List.getElem?_eq_some_iff.mp hv'
  have hx : i < xs.length := by rw [rv.length]; exact hi
  obtain ⟨u, hu, ru⟩ := rv.get (List.getElem?_eq_getElem hx)
  rw [hv'] at hu
  cases hu
  obtain ⟨di, h1, h2⟩ := dpAll_get hd (List.getElem?_eq_getElem hx)
  obtain ⟨as, r2⟩ := Dp.reads I di _ _ h2 ru
  have em : di = m := PySem.W.alike_unique di m _ _ _ (ha.1 _ (List.mem_of_getElem? h1) _ hm) (PySem.W.reads_keeps k r2) r
  subst em
  exact ⟨_, H, I.kept k, ru, q i _ (List.getElem?_eq_getElem hx) h1⟩
theorem cr_maxD (hc : X.calm = true) (hu : X.A.units + 65 < cLine) : CallR X (.builtin "max") (rBest X.K PySem.W.maxD) := by
  intro pins s σ H vs us Q I r h
  obtain ⟨a, xs, d, ds, rfl, hs, hd, ha, hdp, q⟩ := h
  obtain ⟨u, rfl, ru⟩ := vals1 r
  cases ru
  rcases hs with hs | hs
  · obtain ⟨its, rv, hl, _⟩ := I.list hs
    obtain ⟨as, hr⟩ := Dp.readsAll I (d :: ds) xs its hd rv
    exact PySem.W.max_list_data (I.ok.hd hc) hl.isList (by simpa using hr) ha (by omega) fun i v h' tk bs hv r k => best_end I rv hd ha (maxD_mem d ds) hv r k q
  · obtain ⟨its, rv, hl, _⟩ := I.tuple hs
    obtain ⟨as, hr⟩ := Dp.readsAll I (d :: ds) xs its hd rv
    exact PySem.W.max_tuple_data (I.ok.hd hc) (show s.heap.IsTuple a its.toArray from hl) (by simpa using hr) ha (by omega) fun i v h' tk bs hv r k => best_end I rv hd ha (maxD_mem d ds) hv r k q
theorem cr_minD (hc : X.calm = true) (hu : X.A.units + 65 < cLine) : CallR X (.builtin "min") (rBest X.K PySem.W.minD) := by
  intro pins s σ H vs us Q I r h
  obtain ⟨a, xs, d, ds, rfl, hs, hd, ha, hdp, q⟩ := h
  obtain ⟨u, rfl, ru⟩ := vals1 r
  cases ru
  rcases hs with hs | hs
  · obtain ⟨its, rv, hl, _⟩ := I.list hs
    obtain ⟨as, hr⟩ := Dp.readsAll I (d :: ds) xs its hd rv
    exact PySem.W.min_list_data (I.ok.hd hc) hl.isList (by simpa using hr) ha (by omega) fun i v h' tk bs hv r k => best_end I rv hd ha (minD_mem d ds) hv r k q
  · obtain ⟨its, rv, hl, _⟩ := I.tuple hs
    obtain ⟨as, hr⟩ := Dp.readsAll I (d :: ds) xs its hd rv
    exact PySem.W.min_tuple_data (I.ok.hd hc) (show s.heap.IsTuple a its.toArray from hl) (by simpa using hr) ha (by omega) fun i v h' tk bs hv r k => best_end I rv hd ha (minD_mem d ds) hv r k q
end
/-- plain data of a level is told by its image -/
theorem plainI : ∀ (n m : Nat) (d e : D), d.plain n = true → e.plain m = true → toP d = toP e → d = e := by
  intro n
  induction n with
  | zero =>
    intro m d e h h' q
    cases d <;> cases e <;> first | (simp [D.plain] at h; done) | (simp [D.plain] at h'; done) | (simp [toP] at q; done) | (simp only [toP, PyData.bool.injEq, PyData.int.injEq, PyData.str.injEq] at q; rw [q]) | rfl
  | succ n ih =>
    have all : ∀ (ds es : List D) (m : Nat), D.plains n ds = true → D.plains m es = true → toPs ds = toPs es → ds = es := by
      intro ds
      induction ds with
      | nil =>
        intro es m _ _ q
        cases es with
        | nil => rfl
        | cons _ _ => simp [toPs] at q
      | cons d ds ih2 =>
        intro es m h h' q
        cases es with
        | nil => simp [toPs] at q
        | cons e es =>
          simp only [D.plains, Bool.and_eq_true] at h h'
          simp only [toPs, List.cons.injEq] at q
          rw [ih m d e h.1 h'.1 q.1, ih2 es m h.2 h'.2 q.2]
    intro m d e h h' q
    cases d with
    | tup ds =>
      cases e with
      | tup es =>
        cases m with
        | zero => simp [D.plain] at h'
        | succ m =>
          simp only [D.plain] at h h'
          simp only [toP, PyData.tuple.injEq] at q
          rw [all ds es m h h' q]
      | ins _ _ => simp [D.plain] at h'
      | scr _ => simp [D.plain] at h'
      | dic _ => simp [D.plain] at h'
      | dit _ => simp [D.plain] at h'
      | _ => simp [toP] at q
    | lst ds =>
      cases e with
      | lst es =>
        cases m with
        | zero => simp [D.plain] at h'
        | succ m =>
          simp only [D.plain] at h h'
          simp only [toP, PyData.list.injEq] at q
          rw [all ds es m h h' q]
      | ins _ _ => simp [D.plain] at h'
      | scr _ => simp [D.plain] at h'
      | dic _ => simp [D.plain] at h'
      | dit _ => simp [D.plain] at h'
      | _ => simp [toP] at q
    | ins _ _ => simp [D.plain] at h
    | scr _ => simp [D.plain] at h
    | dic _ => simp [D.plain] at h
    | dit _ => simp [D.plain] at h
    | _ =>
      cases e <;> first | (simp [D.plain] at h'; done) | (simp [toP] at q; done) | (simp only [toP, PyData.bool.injEq, PyData.int.injEq, PyData.str.injEq] at q; rw [q]) | rfl
theorem us_mem {n : Nat} : ∀ {ds : List D}, D.us n ds = true → ∀ d ∈ ds, d.u n = true
  | [], _, _, m => by simp at m
  | d :: ds, h, e, m => by
    simp only [D.us, Bool.and_eq_true] at h
    rcases List.mem_cons.mp m with z | m
    · rw [z]; exact h.1
    · exact us_mem h.2 e m
theorem toPs_mem : ∀ {ds : List D} {p : PyData}, p ∈ toPs ds → ∃ d ∈ ds, p = toP d
  | [], _, m => by simp [toPs] at m
  | d :: ds, p, m => by
    simp only [toPs] at m
    rcases List.mem_cons.mp m with z | m
    · exact ⟨d, List.mem_cons_self, z⟩
    · obtain ⟨e, h1, h2⟩ := toPs_mem m
      exact ⟨e, List.mem_cons_of_mem _ h1, h2⟩
theorem alikeAll_of {n : Nat} {ds : List D} (h : D.us n ds = true) : PySem.W.AlikeAll (toPs ds) := by
  refine ⟨fun x hx y hy => ?_, fun x hx => ?_⟩
  · obtain ⟨d, hd, rfl⟩ := toPs_mem hx
    obtain ⟨e, he, rfl⟩ := toPs_mem hy
    exact toP_alike n d e (us_mem h d hd) (us_mem h e he)
  · obtain ⟨d, hd, rfl⟩ := toPs_mem hx
    exact u_none (us_mem h d hd)
theorem toPs_get : ∀ (ds : List D) (i : Nat), (toPs ds)[i]? = (ds[i]?).map toP
  | [], _ => rfl
  | d :: ds, 0 => rfl
  | d :: ds, i + 1 => by
    simp only [toPs, List.getElem?_cons_succ]
    exact toPs_get ds i
theorem minX_P {n : Nat} : ∀ (xs : List D) (a : D), a.u n = true → D.us n xs = true → toP (minX a xs) = PySem.W.minD (toP a) (toPs xs) ∧ (minX a xs).u n = true
  | [], a, h, _ => ⟨rfl, h⟩
  | x :: xs, a, h, h' => by
    simp only [D.us, Bool.and_eq_true] at h'
    have e := toP_lt n x a h'.1 h
    have e2 : minX a (x :: xs) = minX (if x.ltx a then x else a) xs := rfl
    have e3 : PySem.W.minD (toP a) (toPs (x :: xs)) = PySem.W.minD (if PySem.W.dataLt (toP x) (toP a) = true then toP x else toP a) (toPs xs) := rfl
    rw [e2, e3, e]
    cases x.ltx a with
    | true => exact minX_P xs x h'.1 h'.2
    | false => exact minX_P xs a h h'.2
theorem maxX_P {n : Nat} : ∀ (xs : List D) (a : D), a.u n = true → D.us n xs = true → toP (maxX a xs) = PySem.W.maxD (toP a) (toPs xs) ∧ (maxX a xs).u n = true
  | [], a, h, _ => ⟨rfl, h⟩
  | x :: xs, a, h, h' => by
    simp only [D.us, Bool.and_eq_true] at h'
    have e := toP_lt n a x h h'.1
    have e2 : maxX a (x :: xs) = maxX (if a.ltx x then x else a) xs := rfl
    have e3 : PySem.W.maxD (toP a) (toPs (x :: xs)) = PySem.W.maxD (if PySem.W.dataLt (toP a) (toP x) = true then toP x else toP a) (toPs xs) := rfl
    rw [e2, e3, e]
    cases a.ltx x with
    | true => exact maxX_P xs x h'.1 h'.2
    | false => exact maxX_P xs a h h'.2
theorem uniL_of {xs : List D} (h : uniL xs = true) : ∃ n, n ≤ 2 ∧ D.us n xs = true := by
  unfold uniL at h
  rw [Bool.or_eq_true, Bool.or_eq_true] at h
  rcases h with (h | h) | h
  · exact ⟨0, by decide, h⟩
  · exact ⟨1, by decide, h⟩
  · exact ⟨2, by decide, h⟩
theorem sem_best {k : Kx} {K : PySem.W.Frag} (e : K = k.K) {F H : Hp} {a : Addr} {xs : List V} {x m : D} {ds : List D} {best : PyData → List PyData → PyData} {Q : VK} (sb : Sub F H) (hs : SqL K H a xs ∨ SqT K H a xs) (r : Reps k F xs (x :: ds)) (hu : uniL (x :: ds) = true)
    (hb : ∀ n, x.u n = true → D.us n ds = true → toP m = best (toP x) (toPs ds) ∧ m.u n = true) (q : ∀ v F' H', New k F H F' H' v (.frz m) → Q v H') : rBest K best [.ref a] H Q := by
  obtain ⟨n, hn, h⟩ := uniL_of hu
  have h' := h
  simp only [D.us, Bool.and_eq_true] at h'
  obtain ⟨e1, e2⟩ := hb n h'.1 h'.2
  refine ⟨a, xs, toP x, toPs ds, rfl, hs, by rw [e]; exact reps_dp (ds := x :: ds) sb r (us_plain n _ h), alikeAll_of (ds := x :: ds) h, ?_, fun i v hv hm => ?_⟩
  · have := (toPs_lay n (x :: ds) (us_plain n _ h)).2
    exact Nat.le_trans this (by omega)
  · obtain ⟨d, h1, h2⟩ := r.getV hv
    have h3 : (toPs (x :: ds))[i]? = some (toP d) := by rw [toPs_get, h1]; rfl
    have h4 : some (toP d) = some (best (toP x) (toPs ds)) := h3.symm.trans hm
    have h5 : toP d = toP m := by rw [e1]; exact Option.some.inj h4
    have h6 : d = m := plainI n n d m (u_plain n d (us_mem h d (List.mem_of_getElem? h1))) (u_plain n m e2) h5
    subst h6
    exact q v F H (.same h2)

/-! ### the built-ins' rules -/
section
variable {X : Cx} {k : Kx}
theorem paired1 {F H : Hp} {vs : List V} {d : D} (h : Paired (PkV k F H) vs [d]) : ∃ v, vs = [v] ∧ PkV k F H v d := by
  cases h with
  | cons h r => cases r; exact ⟨_, rfl, h⟩
theorem paired2 {F H : Hp} {vs : List V} {d e : D} (h : Paired (PkV k F H) vs [d, e]) : ∃ v u, vs = [v, u] ∧ PkV k F H v d ∧ PkV k F H u e := by
  cases h with
  | cons h r =>
    cases r with
    | cons h2 r => cases r; exact ⟨_, _, rfl, h, h2⟩
def rLen (X : Cx) : List V → Hp → VK → Prop := fun xs H Q => (∃ p ys, xs = [.ref p] ∧ (SqL X.K H p ys ∨ SqT X.K H p ys) ∧ Q (.int ys.length) H) ∨ (∃ z, xs = [.str z] ∧ z.length ≤ sizeLine ∧ Q (.int z.length) H) ∨ (∃ p kvs, xs = [.ref p] ∧ Rd H p (.dK kvs) ∧ Q (.int kvs.length) H) ∨ rLenT X xs H Q
theorem call_len_dic : CallR X (.builtin "len") (fun xs H Q => ∃ p kvs, xs = [.ref p] ∧ Rd H p (.dK kvs) ∧ Q (.int kvs.length) H) := fun pins s σ H xs us Q I rx q => by
  obtain ⟨p, kvs, rfl, hd, q⟩ := q
  obtain ⟨u, rfl, r⟩ := vals1 rx
  cases r
  exact d_len I hd fun t s' I' => ⟨.int kvs.length, H, I', ⟨_, rfl⟩, q⟩
theorem callR_or {f : Value} {r r' : List V → Hp → VK → Prop} (h : CallR X f r) (h' : CallR X f r') : CallR X f (fun xs H Q => r xs H Q ∨ r' xs H Q) := fun pins s σ H xs us Q I rx q => by
  rcases q with q | q
  · exact h pins s σ H xs us Q I rx q
  · exact h' pins s σ H xs us Q I rx q
theorem sem_len (e : X.K = k.K) (ew : X.w = k.w) : SemN k (rLen X) Bi.len.ap := by
  intro F H vs ds s Q sb pv ap q
  replace ap : lenD ds = .ok s := ap
  unfold lenD at ap
  split at ap
  · cases ap
    obtain ⟨v, rfl, h⟩ := paired1 pv
    obtain ⟨a, xs, rfl, hx, rx⟩ := pk_tup h
    exact .inl ⟨a, xs, rfl, .inr (by rw [e]; exact SqT_sub sb hx), by rw [rx.length]; exact q _ F H (.same (.int _))⟩
  · cases ap
    obtain ⟨v, rfl, h⟩ := paired1 pv
    obtain ⟨a, xs, rfl, hx, rx⟩ := pk_lst sb h
    exact .inl ⟨a, xs, rfl, .inl (.inl hx), by rw [rx.length]; exact q _ F H (.same (.int _))⟩
  · split at ap
    · rename_i hz
      cases ap
      obtain ⟨v, rfl, h⟩ := paired1 pv
      rw [pk_str h]
      exact .inr (.inl ⟨_, rfl, hz, q _ F H (.same (.int _))⟩)
    · cases ap
  · rename_i ns
    cases ap
    obtain ⟨v, rfl, h⟩ := paired1 pv
    obtain ⟨a, rfl, hx⟩ := pk_scr sb h
    exact .inl ⟨a, _, rfl, .inl (by rw [e]; exact hx), by rw [List.length_map]; exact q _ F H (.same (.int _))⟩
  · rename_i ks
    cases ap
    obtain ⟨v, rfl, h⟩ := paired1 pv
    obtain ⟨a, kvs, rfl, hx, rx⟩ := pk_dic sb h
    exact .inr (.inr (.inl ⟨a, kvs, rfl, hx, by rw [rx.length]; exact q _ F H (.same (.int _))⟩))
  · rename_i ks
    cases ap
    obtain ⟨v, rfl, h⟩ := paired1 pv
    obtain ⟨a, xs, rfl, hx, rx⟩ := pk_dit sb h
    exact .inr (.inr (.inr ⟨a, xs, rfl, by rw [ew]; exact hx, by rw [e]; exact repT_keys sb rx, by rw [rx.length]; exact q _ F H (.same (.int _))⟩))
  · cases ap
theorem sem_intc : SemN k (fun xs H Q => (∃ i, xs = [.int i] ∧ Q (.int i) H) ∨ ∃ k, xs = [.bl k] ∧ Q (.int (if k then 1 else 0)) H) Bi.int.ap := by
  intro F H vs ds s Q sb pv ap q
  replace ap : intD ds = .ok s := ap
  unfold intD at ap
  split at ap
  · cases ap
    obtain ⟨v, rfl, h⟩ := paired1 pv
    rw [pk_int h]
    exact .inl ⟨_, rfl, q _ F H (.same (.int _))⟩
  · cases ap
    obtain ⟨v, rfl, h⟩ := paired1 pv
    rw [pk_bl h]
    exact .inr ⟨_, rfl, q _ F H (.same (.int _))⟩
  · cases ap
theorem sem_abs : SemN k (fun xs H Q => ∃ i, xs = [.int i] ∧ Q (.int (if i < 0 then -i else i)) H) Bi.abs.ap := by
  intro F H vs ds s Q sb pv ap q
  replace ap : absD ds = .ok s := ap
  unfold absD at ap
  split at ap
  · cases ap
    obtain ⟨v, rfl, h⟩ := paired1 pv
    rw [pk_int h]
    exact ⟨_, rfl, q _ F H (.same (.int _))⟩
  · cases ap
theorem sem_min (e : X.K = k.K) : SemN k (fun xs H Q => (∃ i j, xs = [.int i, .int j] ∧ Q (.int (if j < i then j else i)) H) ∨ rBest X.K PySem.W.minD xs H Q) Bi.min.ap := by
  intro F H vs ds s Q sb pv ap q
  replace ap : minD ds = .ok s := ap
  unfold minD at ap
  split at ap
  · cases ap
    obtain ⟨v, u, rfl, h1, h2⟩ := paired2 pv
    rw [pk_int h1, pk_int h2]
    exact .inl ⟨_, _, rfl, q _ F H (.same (.int _))⟩
  · split at ap
    · rename_i hu
      cases ap
      obtain ⟨v, rfl, h⟩ := paired1 pv
      obtain ⟨a, xs, rfl, hx, rx⟩ := pk_lst sb h
      exact .inr (sem_best e sb (.inl (.inl hx)) rx hu (fun n h1 h2 => minX_P _ _ h1 h2) q)
    · cases ap
  · split at ap
    · rename_i hu
      cases ap
      obtain ⟨v, rfl, h⟩ := paired1 pv
      obtain ⟨a, xs, rfl, hx, rx⟩ := pk_tup h
      exact .inr (sem_best e sb (.inr (by rw [e]; exact SqT_sub sb hx)) rx hu (fun n h1 h2 => minX_P _ _ h1 h2) q)
    · cases ap
  · cases ap
theorem sem_max (e : X.K = k.K) : SemN k (fun xs H Q => (∃ i j, xs = [.int i, .int j] ∧ Q (.int (if j > i then j else i)) H) ∨ rBest X.K PySem.W.maxD xs H Q) Bi.max.ap := by
  intro F H vs ds s Q sb pv ap q
  replace ap : maxD ds = .ok s := ap
  unfold maxD at ap
  split at ap
  · cases ap
    obtain ⟨v, u, rfl, h1, h2⟩ := paired2 pv
    rw [pk_int h1, pk_int h2]
    exact .inl ⟨_, _, rfl, q _ F H (.same (.int _))⟩
  · split at ap
    · rename_i hu
      cases ap
      obtain ⟨v, rfl, h⟩ := paired1 pv
      obtain ⟨a, xs, rfl, hx, rx⟩ := pk_lst sb h
      exact .inr (sem_best e sb (.inl (.inl hx)) rx hu (fun n h1 h2 => maxX_P _ _ h1 h2) q)
    · cases ap
  · split at ap
    · rename_i hu
      cases ap
      obtain ⟨v, rfl, h⟩ := paired1 pv
      obtain ⟨a, xs, rfl, hx, rx⟩ := pk_tup h
      exact .inr (sem_best e sb (.inr (by rw [e]; exact SqT_sub sb hx)) rx hu (fun n h1 h2 => maxX_P _ _ h1 h2) q)
    · cases ap
  · cases ap
theorem of_ok {α : Type} {o : Option α} {a : α} (h : R.of o = .ok a) : o = some a := by
  cases o with
  | none => cases h
  | some b => cases h; rfl
theorem bind_ok {α β : Type} {r : R α} {f : α → R β} {b : β} (h : r.bind f = .ok b) : ∃ a, r = .ok a ∧ f a = .ok b := by
  cases r with
  | ok a => exact ⟨a, rfl, h⟩
  | exc c gs => cases h
  | stuck => cases h
theorem asBls_map : ∀ {ds : List D} {ns : List Bool}, asBls ds = some ns → ds = ns.map D.bl
  | [], ns, h => by cases h; rfl
  | d :: ds, ns, h => by
    cases d with
    | bl i =>
      simp only [asBls] at h
      cases q : asBls ds with
      | none => rw [q] at h; cases h
      | some ms =>
        rw [q] at h
        cases h
        rw [asBls_map q]
        rfl
    | _ => simp [asBls] at h
theorem reps_bls {F : Hp} : ∀ {ns : List Bool} {xs : List V}, Reps k F xs (ns.map D.bl) → xs = ns.map V.bl
  | [], xs, h => by cases h; rfl
  | n :: ns, xs, h => by
    cases h with
    | cons h r =>
      cases h
      rw [reps_bls r]
      rfl
theorem sem_sum (e : X.K = k.K) : SemN k (rSumA X.K) Bi.sum.ap := by
  intro F H vs ds s Q sb pv ap q
  replace ap : sumD ds = .ok s := ap
  unfold sumD at ap
  split at ap
  · obtain ⟨ns, h1, h2⟩ := bind_ok ap
    cases h2
    obtain ⟨v, rfl, h⟩ := paired1 pv
    obtain ⟨a, xs, rfl, hx, rx⟩ := pk_lst sb h
    rw [asInts_map (of_ok h1)] at rx
    exact ⟨a, ns, rfl, .inl (by rw [← reps_ints rx]; exact .inl hx), q _ F H (.same (.int _))⟩
  · obtain ⟨ns, h1, h2⟩ := bind_ok ap
    cases h2
    obtain ⟨v, rfl, h⟩ := paired1 pv
    obtain ⟨a, xs, rfl, hx, rx⟩ := pk_tup h
    rw [asInts_map (of_ok h1)] at rx
    exact ⟨a, ns, rfl, .inr (by rw [e, ← reps_ints rx]; exact SqT_sub sb hx), q _ F H (.same (.int _))⟩
  · cases ap
theorem sem_all : SemN k (rAll X.K) Bi.all.ap := by
  intro F H vs ds s Q sb pv ap q
  replace ap : allD ds = .ok s := ap
  unfold allD at ap
  split at ap
  · obtain ⟨ns, h1, h2⟩ := bind_ok ap
    cases h2
    obtain ⟨v, rfl, h⟩ := paired1 pv
    obtain ⟨a, xs, rfl, hx, rx⟩ := pk_lst sb h
    rw [asBls_map (of_ok h1)] at rx
    exact ⟨a, ns, rfl, by rw [← reps_bls rx]; exact .inl hx, q _ F H (.same (.bl _))⟩
  · cases ap
theorem sem_any : SemN k (rAny X.K) Bi.any.ap := by
  intro F H vs ds s Q sb pv ap q
  replace ap : anyD ds = .ok s := ap
  unfold anyD at ap
  split at ap
  · obtain ⟨ns, h1, h2⟩ := bind_ok ap
    cases h2
    obtain ⟨v, rfl, h⟩ := paired1 pv
    obtain ⟨a, xs, rfl, hx, rx⟩ := pk_lst sb h
    rw [asBls_map (of_ok h1)] at rx
    exact ⟨a, ns, rfl, by rw [← reps_bls rx]; exact .inl hx, q _ F H (.same (.bl _))⟩
  · cases ap
theorem sem_tuple (e : X.K = k.K) : SemN k (fun xs H Q => ∃ p ys, xs = [.ref p] ∧ ((SqL X.K H p ys ∧ ∀ l, H l = none → Q (.ref l) (upd H l (.tup ys))) ∨ (SqT X.K H p ys ∧ Q (.ref p) H))) Bi.tuple.ap := by
  intro F H vs ds s Q sb pv ap q
  replace ap : tupD ds = .ok s := ap
  unfold tupD at ap
  split at ap
  · cases ap
    obtain ⟨v, rfl, h⟩ := paired1 pv
    obtain ⟨a, xs, rfl, hx, rx⟩ := pk_lst sb h
    exact ⟨a, xs, rfl, .inl ⟨.inl hx, fun l hl => q _ _ _ (new_tup sb hl rx)⟩⟩
  · cases ap
    obtain ⟨v, rfl, h⟩ := paired1 pv
    obtain ⟨a, xs, rfl, hx, rx⟩ := pk_tup h
    exact ⟨a, xs, rfl, .inr ⟨by rw [e]; exact SqT_sub sb hx, q _ F H (.same (.tup hx rx))⟩⟩
  · cases ap
def rLst (X : Cx) : List V → Hp → VK → Prop := fun xs H Q => (∃ p ys, xs = [.ref p] ∧ (SqL X.K H p ys ∨ SqT X.K H p ys) ∧ ∀ l, H l = none → Q (.ref l) (upd H l (.lst ys))) ∨
  (∃ (a : Addr) (kvs : List (L2.Key × V)), xs = [.ref a] ∧ Rd H a (.dK kvs) ∧ ∀ p, H p = none → Q (.ref p) (upd H p (.lst (kvs.map fun kv => kV kv.1)))) ∨ rListT X xs H Q
theorem reps_kk {F : Hp} : ∀ {kvs : List (L2.Key × V)} {ks : List (Kk × D)}, RepK k F kvs ks → Reps k F (kvs.map fun kv => kV kv.1) (ks.map fun kv => kkB kv.1)
  | _, _, .nil => .nil
  | _, _, .cons (x := x) h r => by
    rw [List.map_cons, List.map_cons]
    refine .cons ?_ (reps_kk r)
    cases x with
    | inl i => exact .int i
    | inr y => exact .str y
theorem reps_kt {F : Hp} : ∀ {xs : List (NestedKey × Addr × V)} {ks : List (NestedKey × D)}, RepT k F xs ks → Reps k F (xs.map fun e => V.ref e.2.1) (ks.map fun kv => keyB kv.1)
  | _, _, .nil => .nil
  | _, _, .cons _ h1 _ r => by
    rw [List.map_cons, List.map_cons]
    exact .cons h1 (reps_kt r)
theorem sem_list (e : X.K = k.K) (ew : X.w = k.w) : SemN k (rLst X) Bi.list.ap := by
  intro F H vs ds s Q sb pv ap q
  replace ap : lstD ds = .ok s := ap
  unfold lstD at ap
  split at ap
  · cases ap
    obtain ⟨v, rfl, h⟩ := paired1 pv
    obtain ⟨a, xs, rfl, hx, rx⟩ := pk_lst sb h
    exact .inl ⟨a, xs, rfl, .inl (.inl hx), fun l hl => q _ _ _ (new_lst hl rx)⟩
  · cases ap
    obtain ⟨v, rfl, h⟩ := paired1 pv
    obtain ⟨a, xs, rfl, hx, rx⟩ := pk_tup h
    exact .inl ⟨a, xs, rfl, .inr (by rw [e]; exact SqT_sub sb hx), fun l hl => q _ _ _ (new_lst hl rx)⟩
  · cases ap
    obtain ⟨v, rfl, h⟩ := paired1 pv
    obtain ⟨a, kvs, rfl, hx, rx⟩ := pk_dic sb h
    exact .inr (.inl ⟨a, kvs, rfl, hx, fun l hl => q _ _ _ (new_lst hl (reps_kk rx))⟩)
  · cases ap
    obtain ⟨v, rfl, h⟩ := paired1 pv
    obtain ⟨a, xs, rfl, hx, rx⟩ := pk_dit sb h
    exact .inr (.inr ⟨a, xs, rfl, by rw [ew]; exact hx, by rw [e]; exact repT_keys sb rx, fun l hl => q _ _ _ (new_lst hl (reps_kt rx))⟩)
  · cases ap
def CDivX (i j : Int) : Prop := 0 < j ∧ divOk j = true
theorem call_divmodX : CallR X (.builtin "divmod") (fun xs H Q => ∃ i j, xs = [.int i, .int j] ∧ CDivX i j ∧ ∀ p, H p = none → Q (.ref p) (upd H p (.tup [.int (i / j), .int (i % j)]))) := by
  intro pins s σ H xs us Q I r h
  obtain ⟨i, j, rfl, hc, q⟩ := h
  have hd := hc.2
  unfold divOk at hd
  rw [Bool.and_eq_true] at hd
  exact call_divmodW pins s σ H _ us Q I r ⟨i, j, rfl, ⟨hc.1, PyProof.noPylong_of_log2 (of_decide_eq_true hd.2)⟩, q⟩
theorem sem_dvm : SemN k (fun xs H Q => ∃ i j, xs = [.int i, .int j] ∧ CDivX i j ∧ ∀ p, H p = none → Q (.ref p) (upd H p (.tup [.int (i / j), .int (i % j)]))) Bi.divmod.ap := by
  intro F H vs ds s Q sb pv ap q
  replace ap : dvmD ds = .ok s := ap
  unfold dvmD at ap
  split at ap
  · split at ap
    · rename_i hc
      rw [Bool.and_eq_true] at hc
      cases ap
      obtain ⟨v, u, rfl, h1, h2⟩ := paired2 pv
      rw [pk_int h1, pk_int h2]
      exact ⟨_, _, rfl, ⟨of_decide_eq_true hc.1, hc.2⟩, fun p hp => q _ _ _ (new_tup sb hp (.cons (.int _) (.cons (.int _) .nil)))⟩
    · cases ap
  · cases ap
def biName : Bi → Str
  | .len => "len"
  | .int => "int"
  | .abs => "abs"
  | .min => "min"
  | .max => "max"
  | .sum => "sum"
  | .all => "all"
  | .any => "any"
  | .tuple => "tuple"
  | .list => "list"
  | .divmod => "divmod"
def biVal : Bi → Value
  | .len => .builtin "len"
  | .int => .type "int"
  | .abs => .builtin "abs"
  | .min => .builtin "min"
  | .max => .builtin "max"
  | .sum => .builtin "sum"
  | .all => .builtin "all"
  | .any => .builtin "any"
  | .tuple => .type "tuple"
  | .list => .type "list"
  | .divmod => .builtin "divmod"
theorem bi_boot (b : Bi) : bootBuiltins (biName b) = some (biVal b) ∧ biName b ≠ "__name__" ∧ (biName b == ("__debug__" : Str)) = false := by
  cases b <;> exact ⟨by decide +kernel, by decide +kernel, by decide +kernel⟩
theorem bi_rule (e : X.K = k.K) (ew : X.w = k.w) (hc : X.calm = true) (hu : X.A.units + 65 < cLine) (b : Bi) : ∃ r, CallR X (biVal b) r ∧ SemN k r b.ap := by
  cases b with
  | len => exact ⟨_, callR_or call_len_seq (callR_or call_len_str (callR_or call_len_dic call_lenT)), sem_len e ew⟩
  | int => exact ⟨_, call_int1, sem_intc⟩
  | abs => exact ⟨_, call_abs, sem_abs⟩
  | min => exact ⟨_, callR_or (call_min2 hc) (cr_minD hc hu), sem_min e⟩
  | max => exact ⟨_, callR_or (call_max2 hc) (cr_maxD hc hu), sem_max e⟩
  | sum => exact ⟨_, cr_sumA hc, sem_sum e⟩
  | all => exact ⟨_, cr_all hc, sem_all⟩
  | any => exact ⟨_, cr_any hc, sem_any⟩
  | tuple => exact ⟨_, call_tuple_of, sem_tuple e⟩
  | list => exact ⟨_, callR_or call_list_of (callR_or (call_listD hc) (call_listT hc)), sem_list e ew⟩
  | divmod => exact ⟨_, call_divmodX, sem_dvm⟩
theorem pe_biE {E : XK} (e : X.K = k.K) (ew : X.w = k.w) (hc : X.calm = true) (hu : X.A.units + 65 < cLine) (b : Bi) {a : Expr} {es : List Expr} {p pos : Pos} {fs : List (Env → R (Pv × Env))} (hg : Gl X (biName b)) (hm : X.mg (biName b) = none) (h : PCs X k E (a :: es) fs) :
    PE X (.Call (.Name (biName b) p) (a :: es) [] pos) (tS k E (opP true fs (Op.ap (.bi b)))) := by
  obtain ⟨r, h1, h2⟩ := bi_rule (X := X) e ew hc hu b
  obtain ⟨b1, b2, b3⟩ := bi_boot b
  have hp := h.plain
  rw [List.all_cons, Bool.and_eq_true] at hp
  have pe : PE X (.Call (.Name (biName b) p) (a :: es) [] pos) (tCB r (tA k E (seqF fs))) := by
    cases b <;> first
      | exact pe_callB h1 hg hm b1 h.pa b2 b3 (starEach_plain hp.1) (noStars hp.2)
      | exact pe_callTy h1 hg hm b1 h.pa b2 b3 (starEach_plain hp.1) (noStars hp.2)
  refine pe_weak pe fun σ H Q q => ?_
  refine tA_mono (runN q) fun vs H1 q => ?_
  obtain ⟨F1, ρ1, ds, K1, pv, dm, fin⟩ := q
  obtain ⟨s, hs, hq⟩ := fin.ok K1 dm (op_noexc (.bi b) ds)
  exact h2 F1 H1 vs ds s Q K1.sub pv (by cases b <;> exact hs) hq
end

/-! ### slices -/
theorem sIx_eq (n d : Nat) (o : Option Int) : Rx.sIx n d o = HT.sIx n d o := by
  cases o <;> rfl
theorem reps_cut {k : Kx} {F : Hp} {xs : List V} {ds : List D} (r : Reps k F xs ds) (lo hi : Option Int) : Reps k F (cutV xs lo hi) (cutD ds lo hi) := by
  unfold cutV cutD
  rw [r.length, sIx_eq, sIx_eq]
  exact (r.drop _).take _
def rSlX (X : Cx) : V → Option Int → Option Int → Hp → VK → Prop := fun x lo hi H Q => rSlA X.K x lo hi H Q ∨ rSlL X.K x lo hi H Q
theorem sl_X {X : Cx} : L2.SlR X (rSlX X) := L2.SlR.or sl_tupA sl_list
theorem sem_sl {X : Cx} {k : Kx} (e : X.K = k.K) {F H : Hp} {x : V} {dx : D} {lo hi : Option Int} {s : Sl} {Q : VK} (sb : Sub F H) (px : PkV k F H x dx) (ap : slcD dx lo hi = .ok s) (q : ∀ v F' H', New k F H F' H' v s → Q v H') : rSlX X x lo hi H Q := by
  unfold slcD at ap
  split at ap
  · cases ap
    obtain ⟨a, xs, rfl, hx, rx⟩ := pk_lst sb px
    exact .inr ⟨a, xs, rfl, .inl hx, fun p hp => q _ _ _ (new_lst hp (reps_cut rx lo hi))⟩
  · cases ap
    obtain ⟨a, xs, rfl, hx, rx⟩ := pk_tup px
    refine .inl ⟨a, xs, rfl, by rw [e]; exact SqT_sub sb hx, fun z => ?_, fun _ p hp => q _ _ _ (new_tup sb hp (reps_cut rx lo hi))⟩
    refine q _ F H (.same (.tup hx ?_))
    have := reps_cut rx lo hi
    unfold cutV at this
    rw [z.1, z.2] at this
    simpa using this
  · cases ap
theorem run3 {k : Kx} {E : XK} {H : Hp} {σ : St} {Q : VK} {ap : List D → R Sl} {f1 f2 f3 : Env → R (Pv × Env)} (h : tS k E (opP true [f1, f2, f3] ap) σ H Q) :
    tP k E f1 σ H fun x H1 => tP k E f2 σ H1 fun y H2 => tP k E f3 σ H2 fun z H3 => ∃ F3 ρ3 dx dy dz, Okk k F3 σ H3 ρ3 ∧ PkV k F3 H3 x dx ∧ PkV k F3 H3 y dy ∧ PkV k F3 H3 z dz ∧ (∀ b, Nz H b → Nz H3 b) ∧ Fin k E F3 H3 σ H ρ3 (ap [dx, dy, dz]) Q := by
  obtain ⟨F, ρ, K1, p⟩ := h
  refine ⟨F, ρ, K1, ?_⟩
  unfold opP seqF at p
  rw [R.assoc] at p
  refine p.split.mono fun x ρ1 F1 H1 K2 f1 p1 v hv => ⟨F1, ρ1, K2, ?_⟩
  unfold seqF at p1
  rw [R.assoc, R.assoc] at p1
  refine p1.split.mono fun y ρ2 F2 H2 K3 f2 p2 u hu => ⟨F2, ρ2, K3, ?_⟩
  unfold seqF at p2
  rw [R.assoc, R.assoc] at p2
  refine p2.split.mono fun z ρ3 F3 H3 K4 f3 p3 w hw => ?_
  obtain ⟨ds, h1, p4⟩ := Post.rs (ps := [x, y, z]) p3
  have hp := K4.pk (vs := [v, u, w]) (.cons ((hv.mono f2.ext).mono f3.ext) (.cons (hu.mono f3.ext) (.cons hw .nil))) h1
  cases hp with
  | cons hx hn =>
    cases hn with
    | cons hy hn =>
      cases hn with
      | cons hz hn =>
        cases hn
        exact ⟨F3, ρ3, _, _, _, K4, hx, hy, hz, fun b q => f3.dom b (f2.dom b (f1.dom b q)), p4⟩
section
variable {X : Cx} {k : Kx} {E : XK} {o l h : Expr} {pos p2 : Pos}
theorem pe_sl0 (e : X.K = k.K) {f1 : Env → R (Pv × Env)} (hp : PCs X k E [o] [f1]) : PE X (.Subscript o (.Slice none none none p2) pos) (tS k E (opP true [f1] (Op.ap (.slc false false)))) := by
  cases hp with
  | cons n1 ha hp =>
    refine pe_weak (pe_slice sl_X ha po_none po_none) fun σ H Q q => ?_
    refine tP_mono (run1 q) fun x H1 q => ?_
    obtain ⟨F1, ρ1, dx, K1, px, dm, fin⟩ := q
    obtain ⟨s, hs, hq⟩ := fin.ok K1 dm (op_noexc _ [dx])
    exact sem_sl e K1.sub px hs hq
theorem pe_sl1 (e : X.K = k.K) {f1 f2 : Env → R (Pv × Env)} (hp : PCs X k E [o, l] [f1, f2]) : PE X (.Subscript o (.Slice (some l) none none p2) pos) (tS k E (opP true [f1, f2] (Op.ap (.slc true false)))) := by
  cases hp with
  | cons n1 ha hp =>
    cases hp with
    | cons n2 hb hp =>
      refine pe_weak (pe_slice sl_X ha (po_some hb) po_none) fun σ H Q q => ?_
      refine tP_mono (run2 q) fun x H1 q => tP_mono q fun y H2 q => ?_
      obtain ⟨F1, ρ1, dx, dy, K1, px, py, dm, fin⟩ := q
      obtain ⟨s, hs, hq⟩ := fin.ok K1 dm (op_noexc _ [dx, dy])
      cases dy with
      | int i => rw [pk_int py]; exact ⟨i, rfl, sem_sl e K1.sub px hs hq⟩
      | _ => cases hs
theorem pe_sl2 (e : X.K = k.K) {f1 f2 : Env → R (Pv × Env)} (hp : PCs X k E [o, h] [f1, f2]) : PE X (.Subscript o (.Slice none (some h) none p2) pos) (tS k E (opP true [f1, f2] (Op.ap (.slc false true)))) := by
  cases hp with
  | cons n1 ha hp =>
    cases hp with
    | cons n2 hb hp =>
      refine pe_weak (pe_slice sl_X ha po_none (po_some hb)) fun σ H Q q => ?_
      refine tP_mono (run2 q) fun x H1 q => tP_mono q fun y H2 q => ?_
      obtain ⟨F1, ρ1, dx, dy, K1, px, py, dm, fin⟩ := q
      obtain ⟨s, hs, hq⟩ := fin.ok K1 dm (op_noexc _ [dx, dy])
      cases dy with
      | int i => rw [pk_int py]; exact ⟨i, rfl, sem_sl e K1.sub px hs hq⟩
      | _ => cases hs
theorem tP_mono2 {f : Env → R (Pv × Env)} {σ : St} {H : Hp} {P P' : V → Hp → Prop} (h : tP k E f σ H P) (m : ∀ x H1 p F1 ρ0 ρ1, f ρ0 = .ok (p, ρ1) → PvR k F1 σ x p → P x H1 → P' x H1) : tP k E f σ H P' := by
  obtain ⟨F, ρ, K1, p⟩ := h
  refine ⟨F, ρ, K1, ?_⟩
  cases q : f ρ with
  | ok a =>
    obtain ⟨a, ρ1⟩ := a
    rw [q] at p
    exact fun F1 H1 K2 f2 v hv => m v H1 a F1 ρ ρ1 q hv (p F1 H1 K2 f2 v hv)
  | exc c gs => rw [q] at p; exact p
  | stuck => rw [q] at p; exact p
theorem pe_sl3 (e : X.K = k.K) {f1 f2 f3 : Env → R (Pv × Env)} (hp : PCs X k E [o, l, h] [f1, f2, f3]) (hl : ∀ ρ x ρ', f2 ρ = .ok (x, ρ') → ∃ d, x = .inl d) (ns : ∀ ρ c gs, f3 ρ ≠ .exc c gs) :
    PE X (.Subscript o (.Slice (some l) (some h) none p2) pos) (tS k E (opP true [f1, f2, f3] (Op.ap (.slc true true)))) := by
  cases hp with
  | cons n1 ha hp =>
    cases hp with
    | cons n2 hb hp =>
      cases hp with
      | cons n3 hc hp =>
        refine pe_weak (pe_slice sl_X ha (po_some hb) (po_some hc)) fun σ H Q q => ?_
        obtain ⟨F, ρ, K1, p⟩ := q
        refine ⟨F, ρ, K1, ?_⟩
        unfold opP seqF at p
        rw [R.assoc] at p
        refine p.split.mono fun x ρ1 F1 H1 K2 fr1 p1 v hv => ⟨F1, ρ1, K2, ?_⟩
        unfold seqF at p1
        rw [R.assoc, R.assoc] at p1
        cases q2 : f2 ρ1 with
        | exc c gs => have p1' := p1; simp only [q2] at p1'; exact p1'
        | stuck => have p1' := p1; simp only [q2] at p1'; exact p1'
        | ok yy =>
          obtain ⟨y, ρ2⟩ := yy
          obtain ⟨d, hd⟩ := hl _ _ _ q2
          subst hd
          simp only [q2] at p1
          have p1 := p1.split
          intro F2 H2 K3 fr2 u hu
          have p2 := p1 F2 H2 K3 fr2
          simp only at p2
          unfold seqF at p2
          rw [R.assoc, R.assoc] at p2
          cases q3 : f3 ρ2 with
          | exc c gs => exact absurd q3 (ns _ _ _)
          | stuck => simp only [q3] at p2; exact p2.elim
          | ok zz =>
            obtain ⟨z, ρ3⟩ := zz
            have hu' : Rep k F2 u d := hu
            have di : ∃ i, d = .int i := by
              simp only [q3] at p2
              have p3 := p2
              simp only [R.ok_bind, seqF, if_true] at p3
              obtain ⟨ds, h1, p4⟩ : ∃ ds, rs ρ3 [x, .inl d, z] = .ok ds ∧ _ := (Post.look p3).resolve_right fun ⟨c, gs, z⟩ => rs_noexc z
              obtain ⟨s, h2⟩ : ∃ s, Op.ap (.slc true true) ds = .ok s := by
                cases hh : Op.ap (.slc true true) ds with
                | ok s => exact ⟨s, rfl⟩
                | exc c gs => exact absurd hh (op_noexc _ _ _ _)
                | stuck => rw [hh] at p4; exact p4.elim
              have h3 : ∃ a b, ds = [a, d, b] := by
                cases x with
                | inl dx =>
                  obtain ⟨e1, h4, h5⟩ := bind_ok h1
                  cases h5
                  obtain ⟨e2, h6, h7⟩ := bind_ok h4
                  cases h7
                  cases z with
                  | inl dz =>
                    cases h6
                    exact ⟨_, _, rfl⟩
                  | inr j =>
                    obtain ⟨s2, _, h8⟩ := bind_ok h6
                    cases h8
                    exact ⟨_, _, rfl⟩
                | inr i =>
                  obtain ⟨s1, _, h0⟩ := bind_ok h1
                  obtain ⟨e1, h4, h5⟩ := bind_ok h0
                  cases h5
                  obtain ⟨e2, h6, h7⟩ := bind_ok h4
                  cases h7
                  cases z with
                  | inl dz =>
                    cases h6
                    exact ⟨_, _, rfl⟩
                  | inr j =>
                    obtain ⟨s2, _, h8⟩ := bind_ok h6
                    cases h8
                    exact ⟨_, _, rfl⟩
              obtain ⟨a, b, rfl⟩ := h3
              cases d with
              | int i => exact ⟨i, rfl⟩
              | _ => cases h2
            obtain ⟨i, rfl⟩ := di
            cases hu'
            refine ⟨i, rfl, F2, ρ2, K3, p2.split.mono fun z ρ3 F3 H3 K4 fr3 p3 w hw => ?_⟩
            obtain ⟨ds, h1, p4⟩ := Post.rs (ps := [x, .inl (.int i), z]) p3
            have hp := K4.pk (vs := [v, .int i, w]) (.cons ((hv.mono fr2.ext).mono fr3.ext) (.cons (show PvR k F3 σ (.int i) (.inl (.int i)) from Rep.int i) (.cons hw .nil))) h1
            cases hp with
            | cons hx hn =>
              cases hn with
              | cons hy hn =>
                cases hn with
                | cons hz hn =>
                  cases hn
                  rename_i dx dy dz
                  obtain ⟨s, hs, hq⟩ := Fin.ok K4 (fun b q => fr3.dom b (fr2.dom b (fr1.dom b q))) (op_noexc (.slc true true) [dx, dy, dz]) p4
                  have e2 : dy = .int i := by
                    rcases hy with hy | ⟨a, hh, _⟩
                    · cases hy; rfl
                    · cases hh
                  subst e2
                  cases dz with
                  | int j => rw [pk_int hz]; exact ⟨j, rfl, sem_sl e K4.sub hx hs hq⟩
                  | _ => cases hs
end
/-! ### dicts, turned lists, lists of ranges -/
theorem starOneX {e : Expr} {env : PySem.Env} {pos : Pos} (h : notStar e = true) : (backTo pos (starEach [e] env)).any (·.1) = false := noStars (by rw [List.all_cons, h]; rfl)
theorem reps_rev {k : Kx} {F : Hp} : ∀ {xs : List V} {ds : List D}, Reps k F xs ds → Reps k F xs.reverse ds.reverse
  | _, _, .nil => .nil
  | _, _, .cons h r => by
    rw [List.reverse_cons, List.reverse_cons]
    exact (reps_rev r).append (.cons h .nil)
section
variable {X : Cx} {k : Kx} {E : XK} {a b : Expr} {pos : Pos}
/-- no operands -/
theorem run0 {H : Hp} {σ : St} {Q : VK} {pk : Bool} {ap : List D → R Sl} (h : tS k E (opP pk [] ap) σ H Q) : ∃ F ρ, Okk k F σ H ρ ∧ Fin k E F H σ H ρ (ap []) Q := by
  obtain ⟨F, ρ, K1, p⟩ := h
  refine ⟨F, ρ, K1, ?_⟩
  cases pk <;> exact p
theorem pe_dnewE (t : Bool) (ew : X.w = k.w) : PE X (.Dict [] [] pos) (tS k E (opP true [] (Op.ap (.dnew t)))) := by
  cases t with
  | false =>
    refine pe_weak pe_dnewK fun σ H Q q => ?_
    obtain ⟨F, ρ, K1, fin⟩ := run0 q
    obtain ⟨s, hs, hq⟩ := fin.ok K1 (fun _ h => h) (op_noexc (.dnew false) [])
    cases hs
    exact fun p hp => hq _ _ _ (.own hp ⟨[], upd_same, .nil⟩)
  | true =>
    refine pe_weak pe_dnewN fun σ H Q q => ?_
    obtain ⟨F, ρ, K1, fin⟩ := run0 q
    obtain ⟨s, hs, hq⟩ := fin.ok K1 (fun _ h => h) (op_noexc (.dnew true) [])
    cases hs
    exact fun p hp => hq _ _ _ (.own hp ⟨[], by rw [ew]; exact upd_same, .nil⟩)
theorem pe_revE (e : X.K = k.K) {p1 p2 p3 : Pos} {kk : Nat} {f1 : Env → R (Pv × Env)} (h : PCs X k E [a] [f1]) : PE X (.Subscript a (.Slice none none (some (.UnaryOp .USub (.Constant (.int 1) kk p1) p2)) p3) pos) (tS k E (opP true [f1] (Op.ap .rev))) := by
  cases h with
  | cons n1 ha h =>
    refine pe_weak (pe_revL ha) fun σ H Q q => ?_
    refine tP_mono (run1 q) fun x H1 q => ?_
    obtain ⟨F2, ρ2, dx, K2, px, dm, fin⟩ := q
    obtain ⟨s, hs, hq⟩ := fin.ok K2 dm (op_noexc .rev [dx])
    cases dx with
    | lst ds =>
      cases hs
      obtain ⟨a', xs, rfl, hx, rx⟩ := pk_lst K2.sub px
      exact ⟨a', xs, rfl, .inl hx, fun p hp => hq _ _ _ (new_lst hp (reps_rev rx))⟩
    | _ => exact nomatch hs
theorem rgV_rep {F : Hp} (lo hi : Int) : Reps k F (rgV lo hi) (rngL lo hi) := by
  unfold rgV rngL
  generalize List.range (hi - lo).toNat = l
  induction l with
  | nil => exact .nil
  | cons i l ih =>
    rw [List.map_cons, List.map_cons]
    exact .cons (.int _) ih
theorem pe_lrngE {p p1 p2 : Pos} (hc : X.calm = true) (hg : Gl X "list") (hm : X.mg "list" = none) (hg2 : Gl X "range") (hm2 : X.mg "range" = none) {f1 f2 : Env → R (Pv × Env)} (h : PCs X k E [a, b] [f1, f2]) :
    PE X (.Call (.Name "list" p) [.Call (.Name "range" p1) [a, b] [] p2] [] pos) (tS k E (opP true [f1, f2] (Op.ap .lrng))) := by
  cases h with
  | cons n1 ha h =>
    cases h with
    | cons n2 hb h =>
      refine pe_weak (pe_listRg hc hg hm (prg_2 hg2 hm2 ha hb (starEach_plain n1) (starEach_plain n2) (starOneX n2))) fun σ H Q q => ?_
      refine tP_mono (run2 q) fun x H1 q => tP_mono q fun y H2 q => ?_
      obtain ⟨F2, ρ2, dx, dy, K2, px, py, dm, fin⟩ := q
      obtain ⟨s, hs, hq⟩ := fin.ok K2 dm (op_noexc .lrng [dx, dy])
      cases dx with
      | int i =>
        cases dy with
        | int j =>
          have hs' : (if lims i && lims j && szOk (j - i).toNat then .ok (.own (.lst (rngL i j))) else .stuck : R Sl) = .ok s := hs
          split at hs'
          · rename_i hz
            cases hs'
            rw [Bool.and_eq_true, Bool.and_eq_true] at hz
            obtain ⟨⟨h1, h2⟩, h3⟩ := hz
            unfold lims at h1 h2
            rw [Bool.and_eq_true] at h1 h2
            rw [pk_int px, pk_int py]
            have h4 := szOk_le h3
            rw [sizeLine_eq] at h4
            exact ⟨i, j, rfl, rfl, ⟨of_decide_eq_true h1.1, of_decide_eq_true h1.2, of_decide_eq_true h2.1, of_decide_eq_true h2.2, h4⟩, fun q hq' => hq _ _ _ (new_lst hq' (rgV_rep i j))⟩
          · cases hs'
        | _ => exact nomatch hs
      | _ => exact nomatch hs
end
end Rx

set_option Elab.async false
set_option linter.all false
set_option maxRecDepth 100000
/-! Rx6: calls: what is lent, what comes back. -/
namespace Rx
open PySem PySem.Spec PyProof.Rows L2

/-- the promise of the function f by its run -/
def spOf (k : Kx) (g : G) (f : Nat) : Sp := fun vs H Q E => ∃ F ss, Okk k F (vs.map some) H (ss.map some) ∧
  Post k E F H (vs.map some) (ss.map some) (g.call f ss) fun s os F' H' => ∀ v, RsR k F' H' (vs.map some) os H v s → Q v H'

/-- the arguments of a call: by value, or lent -/
inductive Len (k : Kx) (F : Hp) (σ : St) (ρ : Env) : List V → List Pv → List Sl → Prop
  | nil : Len k F σ ρ [] [] []
  | val {v : V} {d : D} {vs : List V} {ps : List Pv} {ss : List Sl} : Rep k F v d → Len k F σ ρ vs ps ss → Len k F σ ρ (v :: vs) (.inl d :: ps) (.frz d :: ss)
  | bor {v : V} {j : Nat} {s : Sl} {vs : List V} {ps : List Pv} {ss : List Sl} : ρ[j]? = some (some s) → σ[j]? = some (some v) → Len k F σ ρ vs ps ss → Len k F σ ρ (v :: vs) (.inr j :: ps) (s :: ss)
section
variable {k : Kx} {E : XK} {F H F' H' H0 : Hp} {σ : St} {ρ : Env} {vs : List V} {ps : List Pv} {ss : List Sl}
theorem len_of (K1 : Okk k F σ H ρ) : ∀ {vs : List V} {ps : List Pv} {ss : List Sl}, PvRs k F σ vs ps → sls ρ ps = .ok ss → Len k F σ ρ vs ps ss
  | _, _, ss, .nil, e => by cases e; exact .nil
  | _, .inl d :: ps, ss, .cons h r, e => by
    obtain ⟨ss', h1, h2⟩ := bind_ok e
    cases h2
    exact .val h (len_of K1 r h1)
  | _, .inr j :: ps, ss, .cons h r, e => by
    obtain ⟨s, h0, h3⟩ := bind_ok e
    obtain ⟨ss', h1, h2⟩ := bind_ok h3
    cases h2
    exact .bor (slot_ok h0) h (len_of K1 r h1)
theorem Len.lenS : ∀ {vs : List V} {ps : List Pv} {ss : List Sl}, Len k F σ ρ vs ps ss → ss.length = vs.length ∧ ps.length = vs.length
  | _, _, _, .nil => ⟨rfl, rfl⟩
  | _, _, _, .val _ r => ⟨congrArg (· + 1) r.lenS.1, congrArg (· + 1) r.lenS.2⟩
  | _, _, _, .bor _ _ r => ⟨congrArg (· + 1) r.lenS.1, congrArg (· + 1) r.lenS.2⟩
theorem Len.at : ∀ {vs : List V} {ps : List Pv} {ss : List Sl} {i : Nat} {s : Sl}, Len k F σ ρ vs ps ss → ss[i]? = some s →
    ∃ v, vs[i]? = some v ∧ ((∃ d, s = .frz d ∧ Rep k F v d ∧ ps[i]? = some (.inl d)) ∨ ∃ j, ps[i]? = some (.inr j) ∧ ρ[j]? = some (some s) ∧ σ[j]? = some (some v))
  | _, _, _, i, s, .nil, e => by simp at e
  | _, _, _, 0, s, .val h r, e => by
    simp at e; subst e; exact ⟨_, rfl, .inl ⟨_, rfl, h, rfl⟩⟩
  | _, _, _, 0, s, .bor h1 h2 r, e => by
    simp at e; subst e; exact ⟨_, rfl, .inr ⟨_, rfl, h1, h2⟩⟩
  | _, _, _, i + 1, s, .val h r, e => by
    obtain ⟨v, h1, h2⟩ := r.at (i := i) (s := s) (by simpa using e)
    exact ⟨v, by simpa using h1, by simpa using h2⟩
  | _, _, _, i + 1, s, .bor _ _ r, e => by
    obtain ⟨v, h1, h2⟩ := r.at (i := i) (s := s) (by simpa using e)
    exact ⟨v, by simpa using h1, by simpa using h2⟩
theorem Len.bor_at : ∀ {vs : List V} {ps : List Pv} {ss : List Sl} {i j : Nat}, Len k F σ ρ vs ps ss → ps[i]? = some (.inr j) → ∃ s v, ss[i]? = some s ∧ vs[i]? = some v ∧ ρ[j]? = some (some s) ∧ σ[j]? = some (some v)
  | _, _, _, i, j, .nil, e => by simp at e
  | _, _, _, 0, j, .val h r, e => by simp at e
  | _, _, _, 0, j, .bor h1 h2 r, e => by
    simp at e; subst e; exact ⟨_, _, rfl, rfl, h1, h2⟩
  | _, _, _, i + 1, j, .val h r, e => by
    obtain ⟨s, v, h1, h2, h3⟩ := r.bor_at (i := i) (j := j) (by simpa using e)
    exact ⟨s, v, by simpa using h1, by simpa using h2, h3⟩
  | _, _, _, i + 1, j, .bor _ _ r, e => by
    obtain ⟨s, v, h1, h2, h3⟩ := r.bor_at (i := i) (j := j) (by simpa using e)
    exact ⟨s, v, by simpa using h1, by simpa using h2, h3⟩
theorem bors_mem : ∀ {ps : List Pv} {i j : Nat}, ps[i]? = some (.inr j) → j ∈ bors ps
  | [], i, j, e => by simp at e
  | .inl d :: ps, 0, j, e => by simp at e
  | .inr m :: ps, 0, j, e => by
    simp at e; subst e; exact List.mem_cons_self
  | .inl d :: ps, i + 1, j, e => bors_mem (ps := ps) (i := i) (by simpa using e)
  | .inr m :: ps, i + 1, j, e => List.mem_cons_of_mem _ (bors_mem (ps := ps) (i := i) (by simpa using e))
theorem bors_inj : ∀ {ps : List Pv} {i i' j : Nat}, (bors ps).Nodup → ps[i]? = some (.inr j) → ps[i']? = some (.inr j) → i = i'
  | [], i, i', j, _, e, _ => by simp at e
  | .inl d :: ps, 0, i', j, _, e, _ => by simp at e
  | .inl d :: ps, i + 1, 0, j, _, _, e => by simp at e
  | .inl d :: ps, i + 1, i' + 1, j, nd, e, e' => congrArg (· + 1) (bors_inj (ps := ps) nd (by simpa using e) (by simpa using e'))
  | .inr m :: ps, 0, 0, j, _, _, _ => rfl
  | .inr m :: ps, 0, i' + 1, j, nd, e, e' => by
    simp at e
    subst e
    exact absurd (bors_mem (ps := ps) (i := i') (by simpa using e')) (List.nodup_cons.mp nd).1
  | .inr m :: ps, i + 1, 0, j, nd, e, e' => by
    simp at e'
    subst e'
    exact absurd (bors_mem (ps := ps) (i := i) (by simpa using e)) (List.nodup_cons.mp nd).1
  | .inr m :: ps, i + 1, i' + 1, j, nd, e, e' => congrArg (· + 1) (bors_inj (ps := ps) (List.nodup_cons.mp nd).2 (by simpa using e) (by simpa using e'))
/-- what is handed over stands -/
theorem Len.okk (L : Len k F σ ρ vs ps ss) (K1 : Okk k F σ H ρ) (nd : (bors ps).Nodup) : Okk k F (vs.map some) H (ss.map some) := by
  refine ⟨K1.sub, by rw [List.length_map, List.length_map, L.lenS.1], fun i s h => ?_, fun i j a d e h1 h2 h3 h4 => ?_, K1.tabs, K1.fnt⟩
  · have hs : ss[i]? = some s := by simpa [List.getElem?_map] using h
    obtain ⟨v, hv, q⟩ := L.at hs
    refine ⟨v, by simp [List.getElem?_map, hv], ?_⟩
    rcases q with ⟨d, rfl, r, _⟩ | ⟨j, _, hr, hσ⟩
    · exact r
    · obtain ⟨u, hu, q⟩ := K1.val j s hr
      rw [hσ] at hu
      cases hu
      exact q
  · have hs1 : ss[i]? = some (.own d) := by simpa [List.getElem?_map] using h1
    have hs2 : ss[j]? = some (.own e) := by simpa [List.getElem?_map] using h2
    obtain ⟨v, hv, q⟩ := L.at hs1
    obtain ⟨u, hu, q'⟩ := L.at hs2
    rw [List.getElem?_map, hv] at h3
    rw [List.getElem?_map, hu] at h4
    cases h3
    cases h4
    rcases q with ⟨d, z, _⟩ | ⟨m, hm, hr, hσ⟩
    · cases z
    · rcases q' with ⟨d, z, _⟩ | ⟨m', hm', hr', hσ'⟩
      · cases z
      · have := K1.inj m m' a d e hr hr' hσ hσ'
        subst this
        exact bors_inj nd hm hm'
/-- what is lent is owned -/
theorem Len.ow (L : Len k F σ ρ vs ps ss) {b : Addr} (h : Ow (vs.map some) (ss.map some) b) : Ow σ ρ b := by
  obtain ⟨i, d, h1, h2⟩ := h
  have hs1 : ss[i]? = some (.own d) := by simpa [List.getElem?_map] using h1
  obtain ⟨v, hv, q⟩ := L.at hs1
  rw [List.getElem?_map, hv] at h2
  cases h2
  rcases q with ⟨d, z, _⟩ | ⟨m, hm, hr, hσ⟩
  · cases z
  · exact ⟨m, d, hr, hσ⟩
theorem join_set {ρ : Env} {j m : Nat} {o : Option Sl} (h : m ≠ j) : (ρ.set j o)[m]?.join = ρ[m]?.join := by rw [List.getElem?_set_ne (Ne.symm h)]
theorem isOwn_lt {ρ : Env} {m : Nat} (h : isOwn ρ[m]?.join = true) : m < ρ.length := by
  cases q : ρ[m]? with
  | none => rw [q] at h; cases h
  | some o => exact (List.getElem?_eq_some_iff.mp q).1
/-- what comes back, slot by slot -/
theorem wb_spec : ∀ (ps : List Pv) (os : List (Option Sl)) (ρ : Env), (bors ps).Nodup → os.length = ps.length → ∀ m : Nat,
    (∃ (i : Nat) (o : Option Sl), ps[i]? = some (Sum.inr m : Pv) ∧ os[i]? = some o ∧ isOwn ρ[m]?.join = true ∧ (wb ps os ρ)[m]? = some o) ∨
    ((∀ i : Nat, ps[i]? = some (Sum.inr m : Pv) → isOwn ρ[m]?.join = false) ∧ (wb ps os ρ)[m]? = ρ[m]?)
  | [], os, ρ, _, _, m => .inr ⟨fun i h => by simp at h, by cases os <;> rfl⟩
  | .inl d :: ps, [], ρ, _, h, m => by simp at h
  | .inr j :: ps, [], ρ, _, h, m => by simp at h
  | .inl d :: ps, o :: os, ρ, nd, h, m => by
    rcases wb_spec ps os ρ nd (by simpa using h) m with ⟨i, o', h1, h2, h3, h4⟩ | ⟨h1, h2⟩
    · exact .inl ⟨i + 1, o', by simpa using h1, by simpa using h2, h3, h4⟩
    · refine .inr ⟨fun i hi => ?_, h2⟩
      cases i with
      | zero => simp at hi
      | succ i => exact h1 i (by simpa using hi)
  | .inr j :: ps, o :: os, ρ, nd, h, m => by
    have nd' := List.nodup_cons.mp nd
    have key := wb_spec ps os (if isOwn ρ[j]?.join then ρ.set j o else ρ) nd'.2 (by simpa using h) m
    show (∃ (i : Nat) (o' : Option Sl), ((Sum.inr j : Pv) :: ps)[i]? = some (Sum.inr m : Pv) ∧ (o :: os)[i]? = some o' ∧ isOwn ρ[m]?.join = true ∧ (wb ps os (if isOwn ρ[j]?.join then ρ.set j o else ρ))[m]? = some o') ∨
      ((∀ i : Nat, ((Sum.inr j : Pv) :: ps)[i]? = some (Sum.inr m : Pv) → isOwn ρ[m]?.join = false) ∧ (wb ps os (if isOwn ρ[j]?.join then ρ.set j o else ρ))[m]? = ρ[m]?)
    by_cases e : m = j
    · subst e
      have nomore : ∀ i : Nat, ps[i]? ≠ some (Sum.inr m : Pv) := fun i hi => nd'.1 (bors_mem hi)
      have h2 : (wb ps os (if isOwn ρ[m]?.join then ρ.set m o else ρ))[m]? = (if isOwn ρ[m]?.join then ρ.set m o else ρ)[m]? := by
        rcases key with ⟨i, o', h1, _⟩ | ⟨_, h2⟩
        · exact absurd h1 (nomore i)
        · exact h2
      cases q : isOwn ρ[m]?.join with
      | true =>
        rw [q] at h2
        refine .inl ⟨0, o, rfl, rfl, rfl, ?_⟩
        rw [h2]
        show (ρ.set m o)[m]? = some o
        rw [List.getElem?_set_self (isOwn_lt q)]
      | false =>
        rw [q] at h2
        exact .inr ⟨fun _ _ => rfl, h2⟩
    · have hj : (if isOwn ρ[j]?.join then ρ.set j o else ρ)[m]? = ρ[m]? := by
        split
        · rw [List.getElem?_set_ne (Ne.symm e)]
        · rfl
      rw [hj] at key
      rcases key with ⟨i, o', h1, h2, h3, h4⟩ | ⟨h1, h2⟩
      · exact .inl ⟨i + 1, o', by simpa using h1, by simpa using h2, h3, h4⟩
      · refine .inr ⟨fun i hi => ?_, h2⟩
        cases i with
        | zero =>
          simp at hi
          exact absurd hi.symm e
        | succ i => exact h1 i (by simpa using hi)
theorem wb_length : ∀ (ps : List Pv) (os : List (Option Sl)) (ρ : Env), (wb ps os ρ).length = ρ.length
  | [], os, ρ => by cases os <;> rfl
  | .inl d :: ps, [], ρ => rfl
  | .inr j :: ps, [], ρ => rfl
  | .inl d :: ps, o :: os, ρ => wb_length ps os ρ
  | .inr j :: ps, o :: os, ρ => by
    show (wb ps os (if isOwn ρ[j]?.join then ρ.set j o else ρ)).length = _
    rw [wb_length]
    split
    · rw [List.length_set]
    · rfl
theorem isOwn_of {ρ : Env} {m : Nat} {d : D} (h : ρ[m]? = some (some (Sl.own d))) : isOwn ρ[m]?.join = true := by rw [h]; rfl

/-- behind the call: the caller's names stand, what stood aside stands, what came out stands -/
theorem Len.after (L : Len k F σ ρ vs ps ss) (K1 : Okk k F σ H ρ) (nd : (bors ps).Nodup) {os : Env} (K2 : Okk k F' (vs.map some) H' os) (f : Fr F (vs.map some) H (ss.map some) F' (vs.map some) H' os) :
    Okk k F' σ H' (wb ps os ρ) ∧ Fr F σ H ρ F' σ H' (wb ps os ρ) ∧ ∀ v s, RsR k F' H' (vs.map some) os H v s → RsR k F' H' σ (wb ps os ρ) H v s := by
  have hl : os.length = ps.length := by
    have := K2.len
    rw [List.length_map] at this
    rw [this, L.lenS.2]
  have ws := wb_spec ps os ρ nd hl
  -- an owned thing behind the call: lent and come back, or not lent
  have own : ∀ {m : Nat} {d : D} {a : Addr}, (wb ps os ρ)[m]? = some (some (Sl.own d)) → σ[m]? = some (some (V.ref a)) →
      (∃ i : Nat, os[i]? = some (some (Sl.own d)) ∧ (vs.map some)[i]? = some (some (V.ref a)) ∧ ps[i]? = some (Sum.inr m : Pv)) ∨ (ρ[m]? = some (some (Sl.own d)) ∧ ∀ i : Nat, ps[i]? ≠ some (Sum.inr m : Pv)) := by
    intro m d a h1 h2
    rcases ws m with ⟨i, o, q1, q2, q3, q4⟩ | ⟨q1, q2⟩
    · rw [q4] at h1
      cases h1
      obtain ⟨s, v, e1, e2, e3, e4⟩ := L.bor_at q1
      rw [h2] at e4
      cases e4
      exact .inl ⟨i, q2, by simp [List.getElem?_map, e2], q1⟩
    · rw [q2] at h1
      refine .inr ⟨h1, fun i hi => ?_⟩
      have := q1 i hi
      rw [isOwn_of h1] at this
      cases this
  -- what was owned and not lent stands as it was
  have aside : ∀ {m : Nat} {d : D} {a : Addr}, ρ[m]? = some (some (Sl.own d)) → σ[m]? = some (some (V.ref a)) → (∀ i : Nat, ps[i]? ≠ some (Sum.inr m : Pv)) → ¬ Ow (vs.map some) (ss.map some) a := by
    intro m d a h1 h2 h3 ⟨i, e, z1, z2⟩
    have hs1 : ss[i]? = some (.own e) := by simpa [List.getElem?_map] using z1
    obtain ⟨v, hv, q⟩ := L.at hs1
    rw [List.getElem?_map, hv] at z2
    cases z2
    rcases q with ⟨d, z, _⟩ | ⟨m', hm, hr, hσ⟩
    · cases z
    · have := K1.inj m m' a d e h1 hr h2 hσ
      subst this
      exact h3 i hm
  have keep : ∀ {m : Nat} {d : D} {a : Addr}, ρ[m]? = some (some (Sl.own d)) → σ[m]? = some (some (V.ref a)) → (∀ i : Nat, ps[i]? ≠ some (Sum.inr m : Pv)) → ∃ o, H a = some o ∧ H' a = some o ∧ F' a = none ∧ ¬ Ow (vs.map some) os a := by
    intro m d a h1 h2 h3
    obtain ⟨hf, o, ho⟩ := K1.ownAt ⟨m, d, h1, h2⟩
    obtain ⟨q1, q2, q3⟩ := f.keep a o (K1.ownNT ⟨m, d, h1, h2⟩ ho).1 ho hf (aside h1 h2 h3)
    exact ⟨o, ho, q1, q2, q3⟩
  have now : ∀ {b : Addr}, Ow σ (wb ps os ρ) b → Ow (vs.map some) os b ∨ ∃ o, H b = some o ∧ Ow σ ρ b := by
    rintro b ⟨m, d, h1, h2⟩
    rcases own h1 h2 with ⟨i, q1, q2, _⟩ | ⟨q1, q2⟩
    · exact .inl ⟨i, d, q1, q2⟩
    · obtain ⟨o, ho, _⟩ := keep q1 h2 q2
      exact .inr ⟨o, ho, m, d, q1, h2⟩
  refine ⟨⟨K2.sub, by rw [wb_length]; exact K1.len, fun m s h => ?_, fun m m' a d e h1 h2 h3 h4 => ?_, K2.tabs, K2.fnt⟩, ⟨f.ext, f.dom, fun b o nt q1 q2 q3 => ?_⟩, fun v s r => ?_⟩
  · rcases ws m with ⟨i, o, q1, q2, q3, q4⟩ | ⟨q1, q2⟩
    · rw [q4] at h
      cases h
      obtain ⟨s', v, e1, e2, e3, e4⟩ := L.bor_at q1
      obtain ⟨u, hu, r⟩ := K2.val i s q2
      rw [List.getElem?_map, e2] at hu
      cases hu
      exact ⟨v, e4, r⟩
    · rw [q2] at h
      obtain ⟨v, hv, r⟩ := K1.val m s h
      refine ⟨v, hv, ?_⟩
      cases s with
      | frz d => exact Rep.mono f.ext r
      | own d =>
        obtain ⟨a, rfl, r1, r2⟩ := r
        have nl : ∀ i : Nat, ps[i]? ≠ some (Sum.inr m : Pv) := fun i hi => by
          have := q1 i hi
          rw [isOwn_of h] at this
          cases this
        obtain ⟨o, ho, ho', hf', _⟩ := keep h hv nl
        exact ⟨a, rfl, hf', (r2.heap fun u hu => by rw [ho] at hu; cases hu; exact ho').mono f.ext⟩
  · rcases own h1 h3 with ⟨i, q1, q2, q5⟩ | ⟨q1, q2⟩
    · rcases own h2 h4 with ⟨i', q1', q2', q5'⟩ | ⟨q1', q2'⟩
      · have := K2.inj i i' a d e q1 q1' q2 q2'
        subst this
        rw [q5] at q5'
        cases q5'
        rfl
      · obtain ⟨_, _, _, _, z⟩ := keep q1' h4 q2'
        exact absurd ⟨i, d, q1, q2⟩ z
    · rcases own h2 h4 with ⟨i', q1', q2', q5'⟩ | ⟨q1', q2'⟩
      · obtain ⟨_, _, _, _, z⟩ := keep q1 h3 q2
        exact absurd ⟨i', e, q1', q2'⟩ z
      · exact K1.inj m m' a d e q1 q1' h3 h4
  · have nl : ¬ Ow (vs.map some) (ss.map some) b := fun z => q3 (L.ow z)
    obtain ⟨z1, z2, z3⟩ := f.keep b o nt q1 q2 nl
    refine ⟨z1, z2, fun z => ?_⟩
    rcases now z with z | ⟨_, _, z⟩
    · exact z3 z
    · exact q3 z
  · cases s with
    | frz d => exact r
    | own d =>
      obtain ⟨a, r1, r2, r3, r4, r5⟩ := r
      refine ⟨a, r1, r2, r3, fun z => ?_, r5⟩
      rcases now z with z | ⟨o, z, y⟩
      · exact r4 z
      · exact r5 ⟨o, z, (K1.ownNT y z).1⟩
/-- the promise is asked: from the caller's run -/
theorem Len.sp {g : G} {f : Nat} {P : Sl → Env → Hp → Hp → Prop} {Q : VK} (L : Len k F σ ρ vs ps ss) (K1 : Okk k F σ H ρ) (nd : (bors ps).Nodup)
    (h : Post k E F H σ ρ ((g.call f ss).bind fun q => .ok (q.1, wb ps q.2 ρ)) P)
    (hq : ∀ s ρ' F' H', P s ρ' F' H' → ∀ v, RsR k F' H' σ ρ' H v s → Q v H') : spOf k g f vs H Q E := by
  refine ⟨F, ss, L.okk K1 nd, ?_⟩
  cases q : g.call f ss with
  | ok a =>
    obtain ⟨s, os⟩ := a
    rw [q] at h
    intro F' H' K2 f2 v r
    obtain ⟨K3, f3, r3⟩ := L.after K1 nd K2 f2
    exact hq _ _ _ _ (h F' H' K3 f3) v (r3 v s r)
  | exc c gs =>
    rw [q] at h
    intro cls d F' H' s2 f2 x
    refine h cls d F' H' s2 ⟨f2.ext, f2.dom, fun b o nt q1 q2 q3 => f2.keep b o nt q1 q2 fun z => q3 (L.ow z), f2.fnt⟩ x
  | stuck => rw [q] at h; exact h
end

def notSuper : Expr → Bool
  | .Call (.Name _ _) [] [] _ => false
  | _ => true
theorem attrBase {e : Expr} {f : Str} {env : PySem.Env} {wh : Sem Value} (h : notSuper e = true) : attributeBase e f env wh = wh := by
  unfold attributeBase
  split
  · simp [notSuper] at h
  · rfl
theorem allNotStar {env : PySem.Env} {pos : Pos} : ∀ {es : List Expr}, (es.all notStar) = true → (backTo pos (starEach es env)).all (!·.1) = true
  | [], _ => rfl
  | e :: es, h => by
    rw [List.all_cons, Bool.and_eq_true] at h
    rw [starEach_plain h.1]
    have ih := allNotStar (env := env) (pos := pos) h.2
    unfold backTo at ih ⊢
    rw [List.map_cons, List.all_cons, ih]
    rfl
theorem methEval {o : Expr} {m : Str} {apos pos : Pos} {es : List Expr} {env : PySem.Env} (h : notSuper o = true) (hs : es.all notStar = true) (hn : es.length < 30) (hl : (apos.endLine == pos.line) = true) :
    eval (.Call (.Attribute o m apos) es [] pos) env = (do
      let ov ← eval o env
      standAt apos.atName
      let (f, first) ← holding [ov] (getMethod ov m (do return (← importBound o env).getD true))
      callWith pos f first (backTo pos (starEach es env)) (backToKw pos (keywordEach [] env))) := by
  have hf : methodCallForm (es.length + ([] : List Keyword).length) (backTo pos (starEach es env)) (backToKw pos (keywordEach [] env)) = true := by
    unfold methodCallForm
    rw [allNotStar hs]
    have : (backToKw pos (keywordEach [] env)) = [] := rfl
    rw [this]
    simp
    omega
  have e1 : eval (.Call (.Attribute o m apos) es [] pos) env = (do
    let ov ← attributeBase o m env (eval o env)
    standAt apos.atName
    methodCall o m apos pos env ov (es.length + ([] : List Keyword).length) (backTo pos (starEach es env)) (backToKw pos (keywordEach [] env))) := by
    conv => lhs; unfold eval
  rw [e1, attrBase h]
  unfold methodCall
  rw [hf]
  unfold calleeOf methodCallPos
  rw [hl]
  rfl
end Rx

set_option Elab.async false
set_option linter.all false
set_option maxRecDepth 100000
/-! Rx7: the text's own defs and classes; expressions. -/
namespace Rx
open PySem PySem.Spec PyProof.Rows L2

structure Tb where
  fns : List Str
  cls : List Str
  exs : List Str
  nm : List Str
  glb : List Str
  tys : List Ty
  mths : List Nat
  inis : List Nat
  flts : List Str
  exf : List (Nat × Nat)
structure Cs where
  N : List Str
  sc : Scope
  fn : Str → Bool
  tb : Tb
  lam : Bool

/-! ### what the text's top has left -/
structure ClsF (K : PySem.W.Frag) (C : Addr) : Prop where
  cl : Cls K C
  ha : PySem.W.findIn K (.ref C) "__class__" = some (some (.builtin "object.__class__"))
  hn : PySem.W.specialIn K (.builtin "object.__class__") "__get__" = some (some (.builtin "getset_descriptor.__get__"))
  ht : PySem.W.takesIn K (.builtin "object.__class__") = some true
  hm : PySem.W.mroIn K C (.type "object") = some true
def tyOfC (cm : Nat → Option Addr) : D → Option Value
  | .non => some (.type "NoneType")
  | .bl _ => some (.type "bool")
  | .int _ => some (.type "int")
  | .str _ => some (.type "str")
  | .tup _ => some (.type "tuple")
  | .lst _ => some (.type "list")
  | .scr _ => some (.type "list")
  | .ins c _ => (cm c).map .ref
  | .dic _ => some (.type "dict")
  | .dit _ => some (.type "dict")
def tyValC (cm : Nat → Option Addr) : Ty → Option Value
  | .int => some (.type "int")
  | .bool => some (.type "bool")
  | .str => some (.type "str")
  | .tuple => some (.type "tuple")
  | .list => some (.type "list")
  | .cls c => (cm c).map .ref
abbrev tyOfD (k : Kx) : D → Option Value := tyOfC k.cm
abbrev tyVal (k : Kx) : Ty → Option Value := tyValC k.cm
def tyName (tb : Tb) : Ty → Option Str
  | .int => some "int"
  | .bool => some "bool"
  | .str => some "str"
  | .tuple => some "tuple"
  | .list => some "list"
  | .cls c => tb.cls[c]?
/-- a def that keeps its promise -/
structure FnK (P : Program) (w : World) (K : PySem.W.Frag) (mg : Str → Option Value) (base : Heap) (k : Kx) (g : G) (n : Nat) (f : Nat) (fa : Addr) : Prop where
  ex : ∃ fd ps, FnOk P w K mg base (L2.CX P w) n fa fd ps (spOf k g f) ∧ Binds K fd ps []
structure Gk (P : Program) (w : World) (K : PySem.W.Frag) (mg : Str → Option Value) (base : Heap) (k : Kx) (g : G) (tb : Tb) (n : Nat) : Prop where
  kK : K = k.K
  kW : w = k.w
  nmE : k.nm = tb.nm
  nd : tb.nm.Nodup
  blt : ∀ x ∈ (["len", "int", "abs", "min", "max", "sum", "all", "any", "tuple", "list", "divmod", "isinstance", "bool", "str", "range", "enumerate", "zip"] : List Str), mg x = none
  fn : ∀ (f : Nat) (x : Str), tb.fns[f]? = some x → ∃ fa, mg x = some (.ref fa) ∧ PySem.W.keepIn K (.ref fa) = true ∧ FnK P w K mg base k g n f fa
  glb : ∀ (j : Nat) (x : Str) (d : D), tb.glb[j]? = some x → g.glb j = some d → ∃ v u, mg x = some u ∧ RelV v u ∧ Rep k (fun _ => none) v d
  cls : ∀ (c : Nat) (x : Str), tb.cls[c]? = some x → ∃ C, k.cm c = some C ∧ mg x = some (.ref C)
  clsF : ∀ (c : Nat) (C : Addr), k.cm c = some C → ClsF K C
  fld : ∀ (c : Nat) (C : Addr) (m : Nat) (x : Str) (gs : List (Nat × D)) (d : D), k.cm c = some C → tb.nm[m]? = some x → g.mth c m = none → NoAttr K C x
  inst : ∀ T ∈ tb.tys, ∀ (d : D) (t u : Value), tyOfD k d = some t → tyVal k T = some u → PySem.W.kitOne K t u = some (T.has d)
  mth : ∀ (c m f : Nat), g.mth c m = some f → ∃ C x fa, k.cm c = some C ∧ tb.nm[m]? = some x ∧ Meth K C x fa ∧ FnK P w K mg base k g n f fa
  ini : ∀ (c f : Nat), g.ini c = some f → ∃ C fa, k.cm c = some C ∧ Mk K C fa ∧ FnK P w K mg base k g n f fa
  tru : ∀ (c f : Nat), g.tru c = some f → ∃ C fa, k.cm c = some C ∧ PySem.W.findIn K (.ref C) "__bool__" = some (some (.ref fa)) ∧ PySem.W.isFn K (.ref fa) = true ∧ FnK P w K mg base k g n f fa
structure GkSt (g : G) (tb : Tb) : Prop where
  mthN : ∀ (c m : Nat), m ∉ tb.mths → g.mth c m = none
  iniS : ∀ c ∈ tb.inis, ∃ f, g.ini c = some f
structure GkEq (P : Program) (w : World) (K : PySem.W.Frag) (mg : Str → Option Value) (base : Heap) (k : Kx) (g : G) (n : Nat) (f : Nat) (C : Addr) : Prop where
  ex : ∃ fa, PySem.W.findIn K (.ref C) "__eq__" = some (some (.ref fa)) ∧ PySem.W.isFn K (.ref fa) = true ∧ FnK P w K mg base k g n f fa
  ne : PySem.W.findIn K (.ref C) "__ne__" = some (some (.builtin "object.__ne__"))
  nf : ∀ (c' : Nat) (C' : Addr), k.cm c' = some C' → PySem.W.notFirst K C (.ref C') = true
/-- the promise of an exception's __init__: the names ns get what was handed over -/
def spX (ns : List Str) (C : Addr) : Sp := fun vs H Q _ => ∃ a ws, vs = V.ref a :: ws ∧ ws.length = ns.length ∧ H a = some (exo a C none) ∧
  ∀ H2 d, H2 a = some (exo a C (some d)) → H2 d = some (exd d (ns.zip ws).reverse) → H d = none → d ≠ a → (∀ b, b ≠ a → b ≠ d → H2 b = H b) → Q .non H2
structure GkEx (P : Program) (w : World) (K : PySem.W.Frag) (mg : Str → Option Value) (base : Heap) (k : Kx) (g : G) (n : Nat) (c : Nat) (x : Str) : Prop where
  ex : ∃ C fI fs ns, k.ce c = some C ∧ mg x = some (.ref C) ∧ g.exf c = some fs ∧ Paired (fun (m : Nat) (y : Str) => k.nm[m]? = some y) fs ns ∧ fs.length ≤ 100 ∧ OexC K C ∧ PySem.W.findIn K (.ref C) "__init__" = some (some (.ref fI)) ∧ PySem.W.typeIn K (.ref fI) = some (.type "function") ∧
    ∃ fd ps, FnOk P w K mg base (L2.CX P w) n fI fd ps (spX ns C) ∧ Binds K fd ps []
/-- what the top has left of the exceptions, for except clauses -/
structure ExF (K : PySem.W.Frag) (mg : Str → Option Value) (k : Kx) (tb : Tb) : Prop where
  cls : ∀ (c : Nat) (x : Str), tb.exs[c]? = some x → ∃ C, k.ce c = some C ∧ mg x = some (.ref C) ∧ XfC K C
  fno : ∀ (c m : Nat) (C : Addr) (x : Str), k.ce c = some C → (c, m) ∈ tb.exf → tb.nm[m]? = some x → PySem.W.findIn K (.ref C) x = some none
  exm : ∀ (c c' : Nat) (C C' : Addr), k.ce c = some C → k.ce c' = some C' → PySem.W.exmOne K (.ref C) (.ref C') = some (decide (c = c'))
def nameB (x : Str) : Bool := !(x == ("__debug__" : Str)) && !(x == ("__classdict__" : Str))
def glbB (sc : Scope) (x : Str) : Bool := sc.names.lookup x == some .globalImplicit
def hdB (tb : Tb) (sc : Scope) (n : Str) : Nat × Hd → ExceptHandler → Bool
  | (c, .fld m), .ExceptHandler (some (.Name x _)) (some n') [.Return (some (.Attribute (.Name n2 _) f _)) _] _ => decide (tb.exs[c]? = some x) && glbB sc x && nameB x && decide (n' = n) && decide (n2 = n) && decide (tb.nm[m]? = some f) && decide ((c, m) ∈ tb.exf)
  | (c, .tag s m), .ExceptHandler (some (.Name x _)) (some n') [.Return (some (.Tuple [.Constant (.str s') _ _, .Attribute (.Name n2 _) f _] _ _)) _] _ => decide (tb.exs[c]? = some x) && glbB sc x && nameB x && decide (n' = n) && decide (s' = s) && decide (n2 = n) && decide (tb.nm[m]? = some f) && decide ((c, m) ∈ tb.exf)
  | _, _ => false
def hdsB (tb : Tb) (sc : Scope) (n : Str) : List (Nat × Hd) → List ExceptHandler → Bool
  | [], [] => true
  | q :: qs, h :: hs => hdB tb sc n q h && hdsB tb sc n qs hs
  | _, _ => false
/-- try: a() / except .. as n: .. ; return el -/
def fltB (tb : Tb) (sc : Scope) (a n : Str) (fd : FltD) : List Stmt → Bool
  | [.Try [.Expr (.Call (.Name a' _) [] [] _) _] (h :: hs) [] [] _, .Return (some (.Constant (.str el) _ _)) _] => decide (a' = a) && nameB a && nameB n && decide (sc.names.lookup n = some .local) && decide (sc.names.lookup a = some .local) && hdsB tb sc n fd.cl (h :: hs) && decide (el = fd.el)
  | _ => false
structure FltK (K : PySem.W.Frag) (mg : Str → Option Value) (tb : Tb) (g : G) (f : Nat) (x : Str) : Prop where
  ex : ∃ ga fd st a n fdat, mg x = some (.ref ga) ∧ Fun K x x st ga fd ∧ Binds K fd [a] [] ∧ FnScope [a, n] [a] (defScope st) ∧ g.flt f = some fdat ∧ fltB tb (defScope st) a n fdat (defBody st) = true
/-- where lambdas may be made -/
structure LamF (X : Cx) (k : Kx) (g : G) (tb : Tb) (n : Nat) : Prop where
  cP : ∃ cc P, LamX.TabB X.base X.mg cc P ∧ X.env.code = .ref cc ∧ (P, X.env.qual ++ "<lambda>") ∈ k.T ∧ ∀ p ∈ k.T, p.1 = P → p.2 = X.env.qual ++ "<lambda>"
  room : Room (n + 4) X.A
  flt : ∀ (f : Nat) (x : Str), tb.flts[f]? = some x → FltK X.K X.mg tb g f x
  exf : ExF X.K X.mg k tb
structure XOk (X : Cx) (k : Kx) (g : G) (c : Cs) (n : Nat) (E : XK) : Prop where
  gk : Gk X.prog X.w X.K X.mg X.base k g c.tb n
  eqm : ∀ (c f : Nat), g.eqm c = some f → ∃ C, k.cm c = some C ∧ GkEq X.prog X.w X.K X.mg X.base k g n f C
  st : GkSt g c.tb
  exn : ∀ (cc : Nat) (x : Str), c.tb.exs[cc]? = some x → GkEx X.prog X.w X.K X.mg X.base k g n cc x
  calm : X.calm = true
  nd : X.N.Nodup
  hN : X.N = c.N
  sc : X.env.scope = c.sc
  fn : ∀ x, c.fn x = true → X.fn x = true
  takes : Takes X (fun c d _ H => E c d H)
  room2 : Room (n + 2) X.A
  pown : PassesOwn (model X.prog X.w) X.A X.env X.xe
  lam : c.lam = true → LamF X k g c.tb n
theorem XOk.room {X : Cx} {k : Kx} {g : G} {c : Cs} {n : Nat} {E : XK} (x : XOk X k g c n E) : Room (n + 1) X.A := x.room2.mono (Nat.le_succ _)
theorem XOk.hu {X : Cx} {k : Kx} {g : G} {c : Cs} {n : Nat} {E : XK} (x : XOk X k g c n E) : X.A.units + 65 < cLine := by
  have := x.room.un
  omega
def nameOk (x : Str) : Bool := !(x == ("__debug__" : Str)) && !(x == ("__classdict__" : Str))
def visB (sc : Scope) (x : Str) : Bool := match sc.names.lookup x with
  | some .local => true
  | some .cell => true
  | some .free => true
  | _ => false
def locB (c : Cs) (x : Str) : Bool := match c.sc.names.lookup x with
  | some .local => true
  | some .cell => c.fn x
  | _ => false
def glB (sc : Scope) (x : Str) : Bool := match sc.names.lookup x with
  | some .globalImplicit => true
  | _ => false
def varB (c : Cs) (i : Nat) (x : Str) : Bool := decide (c.N[i]? = some x) && visB c.sc x && nameOk x
def strB (c : Cs) (i : Nat) (x : Str) : Bool := decide (c.N[i]? = some x) && locB c x && nameOk x
section
variable {X : Cx} {k : Kx} {g : G} {c : Cs} {n : Nat} {E : XK}
theorem nameOk_d {x : Str} (h : nameOk x = true) : (x == ("__debug__" : Str)) = false ∧ (x == ("__classdict__" : Str)) = false := by
  unfold nameOk at h
  rw [Bool.and_eq_true, Bool.not_eq_true', Bool.not_eq_true'] at h
  exact h
theorem vis_of {sc : Scope} {x : Str} (h : visB sc x = true) : Vis sc x := by
  unfold visB at h
  split at h
  · rename_i q; exact .inl q
  · rename_i q; exact .inr (.inl q)
  · rename_i q; exact .inr (.inr q)
  · cases h
theorem pe_varX (x : XOk X k g c n E) {i : Nat} {nm : Str} {pos : Pos} (h : varB c i nm = true) : PE X (.Name nm pos) (tVar i) := by
  unfold varB at h
  rw [Bool.and_eq_true, Bool.and_eq_true] at h
  obtain ⟨h1, h2⟩ := nameOk_d h.2
  exact pe_var (by rw [x.hN]; exact of_decide_eq_true h.1.1) (by rw [x.sc]; exact vis_of h.1.2) h1 h2
theorem gl_of (x : XOk X k g c n E) {nm : Str} (h : glB c.sc nm = true) : Gl X nm := by
  unfold glB at h
  split at h
  · rename_i q
    show X.env.scope.names.lookup nm = some .globalImplicit
    rw [x.sc]
    exact q
  · cases h
/-! ### names, constants, globals -/
theorem pe_rdF (x : XOk X k g c n E) {i : Nat} {nm : Str} {pos : Pos} (h : varB c i nm = true) : PE X (.Name nm pos) (tS k E fun ρ => rdF ρ i) := pe_weak (pe_varX x h) fun σ H Q ⟨F, ρ, K1, p⟩ => by
  cases q : ρ[i]? with
  | none => simp only [rdF, q] at p; exact p.elim
  | some o =>
    cases o with
    | none => simp only [rdF, q] at p; exact p.elim
    | some s =>
      obtain ⟨v, h1, h2⟩ := K1.val i s q
      refine ⟨v, h1, ?_⟩
      cases s with
      | frz d =>
        simp only [rdF, q] at p
        exact p F H K1 .refl v h2
      | own d =>
        simp only [rdF, q] at p
        obtain ⟨a, rfl, h3, h4⟩ := h2
        obtain ⟨o, h5, h6⟩ := h4.freeze h3
        have hi : i < ρ.length := (List.getElem?_eq_some_iff.mp q).1
        -- the name's slot is frozen
        have K2 : Okk k (upd F a o) σ H (ρ.set i (some (.frz d))) := by
          refine ⟨sub_upd K1.sub h5, by rw [List.length_set]; exact K1.len, fun j s hj => ?_, fun j j' b d1 d2 e1 e2 e3 e4 => ?_, K1.tabs, fnt_upd K1.fnt (h4.nt h5).1⟩
          · by_cases e : j = i
            · subst e
              rw [List.getElem?_set_self hi] at hj
              cases hj
              exact ⟨_, h1, h6⟩
            · rw [List.getElem?_set_ne (Ne.symm e)] at hj
              obtain ⟨u, hu, r⟩ := K1.val j s hj
              refine ⟨u, hu, ?_⟩
              cases s with
              | frz d' => exact Rep.mono (sub_upd_new h3) r
              | own d' =>
                obtain ⟨b, rfl, r1, r2⟩ := r
                have : b ≠ a := fun z => e (K1.inj j i a d' d hj q (z ▸ hu) h1)
                exact ⟨b, rfl, by rw [upd_ne this]; exact r1, r2.mono (sub_upd_new h3)⟩
          · have f1 : j ≠ i := fun z => by subst z; rw [List.getElem?_set_self hi] at e1; cases e1
            have f2 : j' ≠ i := fun z => by subst z; rw [List.getElem?_set_self hi] at e2; cases e2
            rw [List.getElem?_set_ne (Ne.symm f1)] at e1
            rw [List.getElem?_set_ne (Ne.symm f2)] at e2
            exact K1.inj j j' b d1 d2 e1 e2 e3 e4
        refine p (upd F a o) H K2 ⟨sub_upd_new h3, fun _ z => z, fun b u _ q1 q2 q3 => ?_⟩ _ h6
        have : b ≠ a := fun z => q3 (z ▸ ⟨i, d, q, h1⟩)
        refine ⟨q1, by rw [upd_ne this]; exact q2, fun z => q3 ?_⟩
        obtain ⟨j, d', z1, z2⟩ := z
        have f1 : j ≠ i := fun z => by subst z; rw [List.getElem?_set_self hi] at z1; cases z1
        rw [List.getElem?_set_ne (Ne.symm f1)] at z1
        exact ⟨j, d', z1, z2⟩
def cnEx : Cn → Const
  | .non => .none
  | .bl b => .bool b
  | .int i => .int i
  | .str x => .str x
theorem pe_conX {cn : Cn} {j : Nat} {pos : Pos} : PE X (.Constant (cnEx cn) j pos) (tS k E fun ρ => .ok (.frz cn.d, ρ)) := by
  cases cn with
  | non => exact pe_weak pe_non fun σ H Q ⟨F, ρ, K1, p⟩ => p F H K1 .refl _ .non
  | bl b => exact pe_weak pe_bl fun σ H Q ⟨F, ρ, K1, p⟩ => p F H K1 .refl _ (.bl b)
  | int i => exact pe_weak pe_int fun σ H Q ⟨F, ρ, K1, p⟩ => p F H K1 .refl _ (.int i)
  | str s => exact pe_weak pe_str fun σ H Q ⟨F, ρ, K1, p⟩ => p F H K1 .refl _ (.str s)
theorem pe_glbX (x : XOk X k g c n E) {j : Nat} {nm : Str} {pos : Pos} {d : D} (h : c.tb.glb[j]? = some nm) (hg : glB c.sc nm = true) (hk : nameOk nm = true) (hd : g.glb j = some d) :
    PE X (.Name nm pos) (tS k E fun ρ => (R.of (g.glb j)).bind fun d => .ok (.frz d, ρ)) := by
  obtain ⟨v, u, h1, h2, h3⟩ := x.gk.glb j nm d h hd
  refine pe_weak (pe_glob (gl_of x hg) h1 h2 (nameOk_d hk).1) fun σ H Q ⟨F, ρ, K1, p⟩ => ?_
  rw [hd] at p
  exact p F H K1 .refl v (h3.mono fun b o z => by cases z)
/-! ### fields, isinstance -/
theorem pe_attrX (x : XOk X k g c n E) {o : Expr} {m : Nat} {nm : Str} {pos : Pos} {f1 : Env → R (Pv × Env)} (h : PCs X k E [o] [f1]) (hm : c.tb.nm[m]? = some nm) (hs : notSuper o = true) (hfl : ∀ c', g.mth c' m = none) :
    PE X (.Attribute o nm pos) (tS k E (opP true [f1] (Op.ap (.attr m)))) := by
  cases h with
  | cons n1 ha h =>
    refine pe_weak (pe_fld ha (attrBase hs)) fun σ H Q q => ?_
    refine tP_mono (run1 q) fun v H1 q => ?_
    obtain ⟨F1, ρ1, dx, K1, px, dm, fin⟩ := q
    obtain ⟨s, hs, hq⟩ := fin.ok K1 dm (op_noexc (.attr m) [dx])
    have hs' : attrD m dx = .ok s := hs
    unfold attrD at hs'
    split at hs'
    · rename_i cc gs
      split at hs'
      · rename_i d hd
        cases hs'
        obtain ⟨a, C, dx', fs, rfl, h1, h2, h3⟩ := pk_ins K1.sub px
        have hnd : k.nm.Nodup := by rw [x.gk.nmE]; exact x.gk.nd
        obtain ⟨u, h4, h5⟩ := (RepF.look hnd (by rw [x.gk.nmE]; exact hm) h3).1 d hd
        exact ⟨a, C, dx', fs, u, rfl, h1, (x.gk.clsF _ C h2).cl, x.gk.fld _ C m nm [] .non h2 hm (hfl _), h4, hq u F1 H1 (.same h5)⟩
      · cases hs'
    · cases hs'
theorem tyx_of (x : XOk X k g c n E) {F H : Hp} {v : V} {d : D} {t : Value} (sb : Sub F H) (h : PkV k F H v d) (ht : tyOfD k d = some t) (hok : d.tyOk = true) : TyX X.K H v t := by
  cases d with
  | dit ks => cases hok
  | non => cases ht; rw [pk_non h]; exact .base .non
  | bl b => cases ht; rw [pk_bl h]; exact .base (.bl b)
  | int i => cases ht; rw [pk_int h]; exact .base (.int i)
  | str s => cases ht; rw [pk_str h]; exact .base (.str s)
  | tup ds =>
    cases ht
    obtain ⟨a, xs, rfl, hx, _⟩ := pk_tup h
    rcases hx with (hx | ⟨o, hx⟩) | ⟨o, its, nn, hk, hc, _⟩
    · exact .base (.tup (sb _ _ hx))
    · exact .fTuple (sb _ _ hx)
    · rw [← x.gk.kK] at hk
      exact .kTuple hk hc
  | lst ds =>
    cases ht
    obtain ⟨a, xs, rfl, hx, _⟩ := pk_lst sb h
    rcases hx with hx | ⟨o, hx⟩
    · exact .base (.lst hx)
    · exact .base (.frz hx)
  | scr ns =>
    cases ht
    obtain ⟨a, rfl, hx⟩ := pk_scr sb h
    rcases hx with (hx | ⟨o, hx⟩) | ⟨o, its, nn, hk, hc, _⟩
    · exact .base (.lst hx)
    · exact .base (.frz hx)
    · rw [← x.gk.kK] at hk
      exact .kList hk hc
  | ins cc gs =>
    obtain ⟨a, C, dx', fs, rfl, h1, h2, h3⟩ := pk_ins sb h
    have ht' : (k.cm cc).map Value.ref = some t := ht
    rw [h2] at ht'
    cases ht'
    have z := x.gk.clsF _ C h2
    exact .base (.ins h1 z.cl z.ha z.hn z.ht z.hm)
  | dic ks =>
    cases ht
    obtain ⟨a, kvs, rfl, hx, _⟩ := pk_dic sb h
    rcases hx with hx | ⟨o, hx⟩
    · exact .base (.dK hx)
    · exact .fDict hx
end

section
variable {X : Cx} {k : Kx} {g : G} {c : Cs} {n : Nat} {E : XK}
theorem blt_mem {x : Str} (xo : XOk X k g c n E) (h : x ∈ (["len", "int", "abs", "min", "max", "sum", "all", "any", "tuple", "list", "divmod", "isinstance", "bool", "str", "range", "enumerate", "zip"] : List Str)) : X.mg x = none := xo.gk.blt x h
theorem pe_tyX (x : XOk X k g c n E) {T : Ty} {nm : Str} {pos : Pos} (hn : tyName c.tb T = some nm) (hg : glB c.sc nm = true) (hk : nameOk nm = true) : ∃ v u, ClsV v u ∧ tyVal k T = some u ∧ PE X (.Name nm pos) (tC v) := by
  cases T with
  | int => cases hn; exact ⟨_, _, .ty "int", rfl, pe_bltn (gl_of x hg) (blt_mem x (by decide +kernel)) (by decide +kernel) rfl (by decide +kernel) (by decide +kernel)⟩
  | bool => cases hn; exact ⟨_, _, .ty "bool", rfl, pe_bltn (gl_of x hg) (blt_mem x (by decide +kernel)) (by decide +kernel) rfl (by decide +kernel) (by decide +kernel)⟩
  | str => cases hn; exact ⟨_, _, .ty "str", rfl, pe_bltn (gl_of x hg) (blt_mem x (by decide +kernel)) (by decide +kernel) rfl (by decide +kernel) (by decide +kernel)⟩
  | tuple => cases hn; exact ⟨_, _, .ty "tuple", rfl, pe_bltn (gl_of x hg) (blt_mem x (by decide +kernel)) (by decide +kernel) rfl (by decide +kernel) (by decide +kernel)⟩
  | list => cases hn; exact ⟨_, _, .ty "list", rfl, pe_bltn (gl_of x hg) (blt_mem x (by decide +kernel)) (by decide +kernel) rfl (by decide +kernel) (by decide +kernel)⟩
  | cls cc =>
    obtain ⟨C, h1, h2⟩ := x.gk.cls cc nm hn
    exact ⟨.ref C, .ref C, .own C, by show (k.cm cc).map _ = _; rw [h1]; rfl, pe_glob (gl_of x hg) h2 rfl (nameOk_d hk).1⟩
theorem tyOf_some (K1 : F = F) {F H : Hp} {v : V} {d : D} (sb : Sub F H) (h : PkV k F H v d) : ∃ t, tyOfD k d = some t := by
  cases d with
  | ins cc gs =>
    obtain ⟨a, C, dx', fs, rfl, h1, h2, h3⟩ := pk_ins sb h
    exact ⟨.ref C, by show (k.cm cc).map _ = _; rw [h2]; rfl⟩
  | _ => exact ⟨_, rfl⟩
theorem pe_inst1 (x : XOk X k g c n E) {e : Expr} {T : Ty} {nm : Str} {p p2 pos : Pos} {f1 : Env → R (Pv × Env)} (h : PCs X k E [e] [f1]) (hi : glB c.sc "isinstance" = true) (hn : tyName c.tb T = some nm) (hg : glB c.sc nm = true) (hk : nameOk nm = true) (hT : T ∈ c.tb.tys) :
    PE X (.Call (.Name "isinstance" p) [e, .Name nm p2] [] pos) (tS k E (opP true [f1] (Op.ap (.inst [T])))) := by
  obtain ⟨v, u, cv, tv, hp⟩ := pe_tyX x (pos := p2) hn hg hk
  cases h with
  | cons n1 ha h =>
    refine pe_weak (pe_callB call_isi (gl_of x hi) (blt_mem x (by decide +kernel)) (by decide +kernel) (pa_cons ha (pa_cons hp pa_nil (starEach_plain rfl)) (starEach_plain n1)) (by decide +kernel) (by decide +kernel) (starEach_plain n1) rfl) fun σ H Q q => ?_
    refine tP_mono (run1 q) fun y H1 q => ?_
    obtain ⟨F1, ρ1, dx, K1, px, dm, fin⟩ := q
    obtain ⟨s, hs, hq⟩ := fin.ok K1 dm (op_noexc (.inst [T]) [dx])
    have hs' : (if dx.tyOk then R.ok (Sl.frz (.bl ([T].any fun t => t.has dx))) else .stuck) = .ok s := hs
    split at hs'
    rotate_left
    · cases hs'
    rename_i hok
    cases hs'
    obtain ⟨t, ht⟩ := tyOf_some (F := F1) rfl K1.sub px
    refine ⟨y, v, t, u, T.has dx, rfl, cv, tyx_of x K1.sub px ht hok, x.gk.inst T hT dx t u ht tv, ?_⟩
    have := hq _ F1 H1 (.same (.bl _))
    simpa using this
/-- several types in a tuple -/
theorem pe_tysX (x : XOk X k g c n E) : ∀ {Ts : List Ty} {es : List Expr}, (∀ (i : Nat) (T : Ty), Ts[i]? = some T → ∃ nm pos, es[i]? = some (.Name nm pos) ∧ tyName c.tb T = some nm ∧ glB c.sc nm = true ∧ nameOk nm = true) → es.length = Ts.length →
    ∃ vs us, Paired ClsV vs us ∧ us.length = Ts.length ∧ (∀ (i : Nat) (T : Ty), Ts[i]? = some T → ∃ u, us[i]? = some u ∧ tyVal k T = some u) ∧ vs.length = Ts.length ∧ PA X es (fun σ H Q => Q vs H)
  | [], es, h, hl => by
    have : es = [] := List.length_eq_zero_iff.mp hl
    subst this
    exact ⟨[], [], .nil, rfl, fun i T h => by simp at h, rfl, pa_nil⟩
  | T :: Ts, [], h, hl => by simp at hl
  | T :: Ts, e :: es, h, hl => by
    obtain ⟨nm, pos, h1, h2, h3, h4⟩ := h 0 T rfl
    simp at h1
    subst h1
    obtain ⟨v, u, cv, tv, hp⟩ := pe_tyX x (pos := pos) h2 h3 h4
    obtain ⟨vs, us, q1, q2, q3, q4, q5⟩ := pe_tysX x (Ts := Ts) (es := es) (fun i T hT => by
      obtain ⟨nm, pos, h1, h2⟩ := h (i + 1) T (by simpa using hT)
      exact ⟨nm, pos, by simpa using h1, h2⟩) (by simpa using hl)
    refine ⟨v :: vs, u :: us, .cons cv q1, by simp [q2], fun i T' hT => ?_, by simp [q4], pa_weak (pa_cons hp q5 (starEach_plain rfl)) fun σ H Q q => q⟩
    cases i with
    | zero =>
      simp at hT
      subst hT
      exact ⟨u, rfl, tv⟩
    | succ i => simpa using q3 i T' (by simpa using hT)
theorem kitAny_of {K : PySem.W.Frag} {t : Value} {d : D} : ∀ {Ts : List Ty} {us : List Value}, us.length = Ts.length → (∀ (i : Nat) (T : Ty) (u : Value), Ts[i]? = some T → us[i]? = some u → PySem.W.kitOne K t u = some (T.has d)) →
    PySem.W.kitAny K t us = some (Ts.any fun T => T.has d)
  | [], [], _, _ => kitAny_nil
  | [], _ :: _, h, _ => by simp at h
  | _ :: _, [], h, _ => by simp at h
  | T :: Ts, u :: us, h, f => by
    have ih := kitAny_of (Ts := Ts) (us := us) (by simpa using h) fun i T u h1 h2 => f (i + 1) T u (by simpa using h1) (by simpa using h2)
    refine kitAny_cons (f 0 T u rfl rfl) (fun hb => ?_) (fun hb => ?_)
    · rw [ih, List.any_cons, hb]; rfl
    · rw [List.any_cons, hb]; rfl
theorem pe_instN (x : XOk X k g c n E) {e : Expr} {Ts : List Ty} {es : List Expr} {kk : Nat} {p p2 pos : Pos} {f1 : Env → R (Pv × Env)} (h : PCs X k E [e] [f1]) (hi : glB c.sc "isinstance" = true)
    (hT : ∀ (i : Nat) (T : Ty), Ts[i]? = some T → ∃ nm pos, es[i]? = some (.Name nm pos) ∧ tyName c.tb T = some nm ∧ glB c.sc nm = true ∧ nameOk nm = true) (hl : es.length = Ts.length) (hm : ∀ T ∈ Ts, T ∈ c.tb.tys) (h9 : Ts.length ≤ 100) :
    PE X (.Call (.Name "isinstance" p) [e, .Tuple es kk p2] [] pos) (tS k E (opP true [f1] (Op.ap (.inst Ts)))) := by
  obtain ⟨vs, us, q1, q2, q3, q4, q5⟩ := pe_tysX x hT hl
  cases h with
  | cons n1 ha h =>
    refine pe_weak (pe_callB call_isiT (gl_of x hi) (blt_mem x (by decide +kernel)) (by decide +kernel) (pa_cons ha (pa_cons (pe_tup q5) pa_nil (starEach_plain rfl)) (starEach_plain n1)) (by decide +kernel) (by decide +kernel) (starEach_plain n1) rfl) fun σ H Q q => ?_
    refine tP_mono (run1 q) fun y H1 q => ⟨?_, fun tp ntp => ?_⟩
    · rw [q4]
      exact Nat.le_trans h9 (by decide)
    obtain ⟨F1, ρ1, dx, K1, px, dm, fin⟩ := q
    obtain ⟨s, hs, hq⟩ := fin.ok K1 dm (op_noexc (.inst Ts) [dx])
    have hs' : (if dx.tyOk then R.ok (Sl.frz (.bl (Ts.any fun t => t.has dx))) else .stuck) = .ok s := hs
    split at hs'
    rotate_left
    · cases hs'
    rename_i hok
    cases hs'
    obtain ⟨t, ht⟩ := tyOf_some (F := F1) rfl K1.sub px
    have hk : ∀ b u, H1 b = some u → upd H1 tp (.tup vs) b = some u := fun b u q => by rw [upd_ne (ne_of_none q ntp)]; exact q
    have px' : PkV k F1 (upd H1 tp (.tup vs)) y dx := px.imp id fun ⟨a, e1, e2⟩ => ⟨a, e1, e2.heap fun o q => hk a o q⟩
    have sb' : Sub F1 (upd H1 tp (.tup vs)) := fun b o q => hk _ _ (K1.sub b o q)
    refine ⟨y, tp, vs, t, us, Ts.any fun T => T.has dx, rfl, upd_same, q1, tyx_of x sb' px' ht hok, kitAny_of q2 fun i T u h1 h2 => ?_, ?_⟩
    · obtain ⟨u', e1, e2⟩ := q3 i T h1
      rw [h2] at e1
      cases e1
      exact x.gk.inst T (hm T (List.mem_of_getElem? h1)) dx t u ht e2
    · -- the tuple of types stays aside
      have K2 : Okk k F1 σ (upd H1 tp (.tup vs)) ρ1 := K1.heap sb' (fun a o _ q => hk a o q) (.of hk)
      have := fin
      unfold Fin at this
      have e0 : Op.ap (.inst Ts) [dx] = .ok (.frz (.bl (Ts.any fun t => t.has dx))) := by
        show (if dx.tyOk then R.ok (Sl.frz (.bl (Ts.any fun t => t.has dx))) else .stuck) = _
        rw [if_pos hok]
      rw [e0] at this
      have fr : Fr F1 σ H1 ρ1 F1 σ (upd H1 tp (.tup vs)) ρ1 := ⟨fun _ _ z => z, dom_upd (fun _ z => nomatch z), fun b o _ z1 z2 z3 => ⟨hk _ _ z1, z2, z3⟩⟩
      exact this F1 _ K2 fr _ (.bl _)
end
end Rx

set_option Elab.async false
set_option linter.all false
set_option maxRecDepth 100000
/-! Rx8: own ==, own truth, calls as expressions. -/
namespace Rx
open PySem PySem.Spec PyProof.Rows L2
section
variable {X : Cx} {k : Kx} {g : G} {c : Cs} {n : Nat} {E : XK}
theorem XOk.pass (x : XOk X k g c n E) : Passes (L2.CX X.prog X.w) X E := passes_call x.takes (fun _ _ _ _ h => h)
theorem vals1r {a : Addr} : Vals [V.ref a] [Value.ref a] := .cons rfl .nil
theorem vals2r {a b : Addr} : Vals [V.ref a, V.ref b] [Value.ref a, Value.ref b] := .cons rfl (.cons rfl .nil)
theorem run_at {pins : List (Addr × Obj)} {σ : L2.St} {H : Hp} {s : Shared} {A : Around} {fa : Addr} {fd : FuncData} {ps : List Str} {sp : Sp} {vs : List V} {us : List Value} {Q : VK} {CX : CXT} (F : FnOk X.prog X.w X.K X.mg X.base CX n fa fd ps sp) (hb : Binds X.K fd ps [])
    (hx : Passes CX X E) (sb : L2.Sub X n A) (I : Inv X pins σ H s) (r : Vals vs us) (h : sp vs H Q E) : wpAny (model X.prog X.w) A (call (.ref fa) us) (EP X pins σ Q) X.xe s := by
  have e0 : Env0 X.prog X.w X.K X.mg X.base A X.stack s H := by
    have e := I.env0
    exact ⟨by rw [sb.fr]; exact e.frames, e.mod, e.bs, e.bsz, e.funs, e.frf, e.hok, e.bare⟩
  have hl := F.len _ _ _ _ h
  refine wpAny_call (codeAny_mono (F.run A X.stack s H ⟨us, []⟩ us vs Q E sb.room e0 (by
    have := hb s us I.kIn (by simpa [← r.length] using hl)
    simpa using this) r h) fun r s' hq => ?_)
  cases r with
  | error e => exact hx pins σ H s e s' I hq
  | ok fl =>
    cases fl with
    | ret w => exact I.after hq
    | next => exact False.elim hq
    | brk => exact False.elim hq
    | cont => exact False.elim hq
/-- truth, by values -/
def rTru (X : Cx) (k : Kx) (g : G) (E : XK) : V → Hp → (Bool → Hp → Prop) → Prop := fun x H Q => (∃ b, TruV X.K x H b ∧ Q b H) ∨
  ∃ c C dx fs f a, x = .ref a ∧ H a = some (.ins C dx fs) ∧ k.cm c = some C ∧ g.tru c = some f ∧ spOf k g f [.ref a] H (fun v H' => ∃ b, v = .bl b ∧ Q b H') E
theorem tru_X (x : XOk X k g c n E) : TruR X (rTru X k g E) := by
  intro pins s σ H y v Q I rx h
  rcases h with h | ⟨cc, C, dx, fs, f, a, rfl, ha, hc, hf, sp⟩
  · exact tru_ok pins s σ H y v Q I rx h
  · cases rx
    obtain ⟨C', fa, h1, h2, h3, ⟨fd, ps, Fo, hb⟩⟩ := x.gk.tru cc f hf
    rw [hc] at h1
    cases h1
    obtain ⟨mA, J, _⟩ := ins_get I.hok ha
    obtain ⟨od, J, _⟩ := J.look
    obtain ⟨m, hF⟩ := I.fr
    refine PySem.W.truthy_K hF I.ok.mod.kin J h2 h3 (thn (run_at Fo hb x.pass ⟨x.room.mono (Nat.le_succ _), rfl⟩ I vals1r sp) fun u s1 hu => ?_)
    obtain ⟨v, H', I', rv, b, rfl, q⟩ := hu
    cases rv
    exact ⟨H', I', q⟩
/-! ### == and != of instances -/
def rEqI (k : Kx) (g : G) (E : XK) (neg : Bool) : R2 := fun x y H Q => ∃ c c' f a b C C' dx dy fs gs, x = .ref a ∧ y = .ref b ∧ H a = some (.ins C dx fs) ∧ H b = some (.ins C' dy gs) ∧ k.cm c = some C ∧ k.cm c' = some C' ∧ g.eqm c = some f ∧
  spOf k g f [.ref a, .ref b] H (fun v H' => ∃ t, v = .bl t ∧ Q (.bl (t != neg)) H') E
theorem op_eqI (x : XOk X k g c n E) : OpR X (compareOp .Eq) (rEqI k g E false) := by
  intro pins s σ H x1 y1 v u Q I rx ry h
  obtain ⟨cc, cc', f, a, b, C, C', dx, dy, fs, gs, rfl, rfl, ha, hb', hc, hc', hf, sp⟩ := h
  cases rx
  cases ry
  obtain ⟨C0, h0, ⟨⟨fa, h1, h2, ⟨fd, ps, Fo, hb⟩⟩, _, nf⟩⟩ := x.eqm cc f hf
  rw [hc] at h0
  cases h0
  obtain ⟨mA, J, _⟩ := ins_get I.hok ha
  obtain ⟨mB, J', _⟩ := ins_get I.hok hb'
  obtain ⟨od, J, _⟩ := J.look
  obtain ⟨od', J', _⟩ := J'.look
  obtain ⟨m, hF⟩ := I.fr
  refine PySem.W.cmp_K (op := .Eq) (tb := .ref C') x.room.units0 hF I.ok.mod.kin J J'.type (nf _ _ hc') h1 h2 (thn (run_at Fo hb x.pass ⟨x.room.mono (Nat.le_succ _), rfl⟩ I vals2r sp) fun u s1 hu => ?_)
  obtain ⟨v, H', I', rv, t, rfl, q⟩ := hu
  cases rv
  refine ⟨.bl t, H', I', rfl, ?_⟩
  cases t <;> exact q
theorem ifBound_ne {M : Model} {A : Around} {E : Value → Shared → Prop} {s : Shared} {K : PySem.W.Frag} {x C : Addr} {ox : Obj} {od : Option Obj} {args : List Value} {Q : Option Value → Shared → Prop} (X : K.In s.heap) (I : PySem.W.InstAt s.heap x ox C od) (hs : PySem.W.findIn K (.ref C) "__ne__" = some (some (.builtin "object.__ne__")))
    (h : wpAny M A (call (.builtin "object.__ne__") (.ref x :: args)) (fun v => Q (some v)) E s) : wpAny M A (callSpecialIfBound? (.ref x) "__ne__" args) Q E s := by
  simp only [callSpecialIfBound?, bindSpecialIfBound?]
  refine wpAny_holding (wpAny_bind (wpAny_bind (wpAny_bind (I.type.here ((PySem.W.looks_findIn X hs).here ?_)))))
  refine wpAny_bind (wpAny_askSetting (wpAny_ite ?_))
  have fin : wpAny M A (call (.builtin "object.__ne__") ([.ref x] ++ args) >>= fun v => pure (some v)) Q E s := wpAny_bind (wpAny_mono h (fun v s' h' => wpAny_pure h') fun _ _ h' => h')
  split
  · exact wpAny_bind (wpAny_of_eq (F.cmp_object.ne.bind _) (wpAny_pure (by exact fin)))
  · exact wpAny_tryCatch (wpAny_bind (wpAny_of_eq (F.cmp_object.ne.bind _) (wpAny_pure (by exact fin))))
theorem op_neI (x : XOk X k g c n E) : OpR X (compareOp .NotEq) (rEqI k g E true) := by
  intro pins s σ H x1 y1 v u Q I rx ry h
  obtain ⟨cc, cc', f, a, b, C, C', dx, dy, fs, gs, rfl, rfl, ha, hb', hc, hc', hf, sp⟩ := h
  cases rx
  cases ry
  obtain ⟨C0, h0, ⟨⟨fa, h1, h2, ⟨fd, ps, Fo, hb⟩⟩, hne, nf⟩⟩ := x.eqm cc f hf
  rw [hc] at h0
  cases h0
  obtain ⟨mA, J, _⟩ := ins_get I.hok ha
  obtain ⟨mB, J', _⟩ := ins_get I.hok hb'
  obtain ⟨od, J, _⟩ := J.look
  obtain ⟨od', J', _⟩ := J'.look
  have hu := x.room.units0
  have hu1 : X.A.in1.units < cLine := x.room.in1.units0
  have clsF := x.gk.clsF cc C hc
  have XK := I.kIn
  have eqc : wpAny (model X.prog X.w) X.A.in1 (callSpecialIfBound? (.ref a) "__eq__" [.ref b]) (fun r s' => ∃ t H', r = some (.bool t) ∧ Inv X pins σ H' s' ∧ Q (.bl (t != true)) H') X.xe s := by
    refine PySem.W.ifBound_K XK J h1 h2 (thn (run_at Fo hb x.pass ⟨x.room.in1, rfl⟩ I vals2r sp) fun u s1 hu => ?_)
    obtain ⟨v, H', I', rv, t, rfl, q⟩ := hu
    cases rv
    exact ⟨t, H', rfl, I', q⟩
  have one : wpAny (model X.prog X.w) X.A (tryCompare (.ref a) "__ne__" (.ref b)) (fun r s' => ∃ t H', r = some (.bool (!t)) ∧ Inv X pins σ H' s' ∧ Q (.bl (t != true)) H') X.xe s := by
    unfold tryCompare
    refine wpAny_bind (ifBound_ne XK J hne ?_)
    refine wpAny_call (codeAny_call_builtin F.cmp_object.ne.plain F.cmpEntry_ne (PySem.W.check_slot F.cmpKind_ne F.cmpSplit_ne (J.type.andThen (PySem.W.looks_mroIn XK clsF.hm)) (F.cmpArgs_ne _ _) ?_))
    unfold Builtin.«object.__ne__»
    refine wpAny_bind (m := slotArgs "__ne__" 1 ⟨[.ref a, .ref b], []⟩) (wpAny_pure ?_)
    refine wpAny_bind (wpAny_cRoomFor hu1 ?_)
    refine wpAny_bind (wpAny_mono eqc (fun r s' hr => ?_) fun _ _ e => e)
    obtain ⟨t, H', rfl, I', q⟩ := hr
    refine wpAny_bind (wpAny_truthy_bool ?_)
    exact wpAny_pure (wpAny_pure ⟨t, H', rfl, I', q⟩)
  have hn := nf _ _ hc'
  show wpAny (model X.prog X.w) X.A (richCompare .NotEq (.ref a) (.ref b)) (EP X pins σ Q) X.xe s
  unfold richCompare
  simp only [oneThing_ref]
  refine wpAny_holding (wpAny_bind (wpAny_cRoomFor hu ?_))
  refine wpAny_bind (J.type.here (wpAny_bind (J'.type.here ?_)))
  have fin : ∀ r s', (∃ t H', r = some (Value.bool (!t)) ∧ L2.Inv X pins σ H' s' ∧ Q (V.bl (t != true)) H') → ∃ v, r = some v ∧ EP X pins σ Q v s' := by
    rintro r s' ⟨t, H', rfl, I', q⟩
    refine ⟨_, rfl, .bl (t != true), H', I', ?_, q⟩
    cases t <;> rfl
  split
  · rename_i q
    have e : PySem.W.subIn X.K (.ref C') (.ref C) = some false := by
      rcases Bool.or_eq_true_iff.mp hn with e | e
      · rw [beq_iff_eq.mp e] at q; simp at q
      · exact beq_iff_eq.mp e
    refine wpAny_bind ((PySem.W.looks_subIn XK e).here ?_)
    simp only [Bool.false_eq_true, if_false]
    refine wpAny_bind (wpAny_mono one (fun r s' z => ?_) fun _ _ e => e)
    obtain ⟨v, rfl, hq⟩ := fin r s' z
    exact wpAny_pure hq
  · refine wpAny_bind (wpAny_pure ?_)
    simp only [Bool.false_eq_true, if_false]
    refine wpAny_bind (wpAny_mono one (fun r s' z => ?_) fun _ _ e => e)
    obtain ⟨v, rfl, hq⟩ := fin r s' z
    exact wpAny_pure hq
end

/-! ### calls -/
def callF (g : G) (f : Nat) (fs : List (Env → R (Pv × Env))) (ρ : Env) : R (Sl × Env) :=
  (seqF fs ρ).bind fun r => if decide (bors r.1).Nodup then (sls r.2 r.1).bind fun ss => (g.call f ss).bind fun q => .ok (q.1, wb r.1 q.2 r.2) else .stuck
def makeF (g : G) (c : Nat) (fs : List (Env → R (Pv × Env))) (ρ : Env) : R (Sl × Env) :=
  (seqF fs ρ).bind fun r => (frzs r.1).bind fun ds => (R.of (g.ini c)).bind fun f => (g.call f (.own (.ins c []) :: ds.map .frz)).bind fun q =>
      match q.1.d, q.2 with
      | .non, some s :: _ => .ok (s, r.2)
      | _, _ => .stuck
def methF (g : G) (m : Nat) (f0 : Env → R (Pv × Env)) (fs : List (Env → R (Pv × Env))) (ρ : Env) : R (Sl × Env) :=
  (seqF [f0] ρ).bind fun q => (recv g m q.2 q.1).bind fun f => (seqF fs q.2).bind fun r => if decide (bors (q.1 ++ r.1)).Nodup then (sls r.2 (q.1 ++ r.1)).bind fun ss => (g.call f ss).bind fun z => .ok (z.1, wb (q.1 ++ r.1) z.2 r.2) else .stuck
def eqvF (g : G) (neg : Bool) (fs : List (Env → R (Pv × Env))) (ρ : Env) : R (Sl × Env) :=
  (seqF fs ρ).bind fun r => if decide (bors r.1).Nodup then (sls r.2 r.1).bind fun ss => eqS g neg r.1 r.2 ss else .stuck
theorem sls_noexc {ρ : Env} : ∀ {ps : List Pv} {c : Nat} {gs : List (Nat × D)}, sls ρ ps ≠ .exc c gs
  | [], _, _, h => by cases h
  | .inl d :: ps, c, gs, h => bind_noexc (fun _ _ => sls_noexc) (fun _ _ _ => ok_ne) h
  | .inr j :: ps, c, gs, h => bind_noexc (fun _ _ => slot_noexc) (fun _ _ _ => bind_noexc (fun _ _ => sls_noexc) fun _ _ _ => ok_ne) h
section
variable {X : Cx} {k : Kx} {g : G} {c : Cs} {n : Nat} {E : XK}
theorem pe_callX (x : XOk X k g c n E) {f : Nat} {nm : Str} {p pos : Pos} {a : Expr} {es : List Expr} {fs : List (Env → R (Pv × Env))} (hf : c.tb.fns[f]? = some nm) (hg : glB c.sc nm = true) (hk : nameOk nm = true) (h : PCs X k E (a :: es) fs) :
    PE X (.Call (.Name nm p) (a :: es) [] pos) (tS k E (callF g f fs)) := by
  obtain ⟨fa, hm, kp, ⟨fd, ps, Fo, b⟩⟩ := x.gk.fn f nm hf
  have hp := h.plain
  rw [List.all_cons, Bool.and_eq_true] at hp
  refine pe_weak (pe_call Fo (x.room.mono (Nat.le_succ _)) (gl_of x hg) hm kp b .nil x.pass h.pa (nameOk_d hk).1 (starEach_plain hp.1) (noStars hp.2)) fun σ H Q ⟨F, ρ, K1, p⟩ => ?_
  refine ⟨F, ρ, K1, p.split.mono fun pv ρ1 F1 H1 K2 f1 p1 vs hv => ?_⟩
  show spOf k g f (vs ++ []) H1 Q E
  rw [List.append_nil]
  by_cases nd : (bors pv).Nodup
  · have p1 : Post k E F1 H1 σ ρ1 (if decide (bors pv).Nodup = true then (sls ρ1 pv).bind fun ss => (g.call f ss).bind fun q => .ok (q.1, wb pv q.2 ρ1) else .stuck) _ := p1
    rw [if_pos (decide_eq_true nd)] at p1
    rcases p1.look with ⟨ss, hs, p2⟩ | ⟨_, _, z⟩
    · exact (len_of K2 hv hs).sp K2 nd p2 fun s ρ' F' H' hP v r => hP v (r.back f1.dom)
    · exact absurd z sls_noexc
  · have p1 : Post k E F1 H1 σ ρ1 (if decide (bors pv).Nodup = true then (sls ρ1 pv).bind fun ss => (g.call f ss).bind fun q => .ok (q.1, wb pv q.2 ρ1) else .stuck) _ := p1
    rw [if_neg (by simpa using nd)] at p1
    exact p1.elim
theorem recv_ok {m : Nat} {ρ : Env} {p : Pv} {f : Nat} (h : recv g m ρ [p] = .ok f) : ∃ cc gs, rs ρ [p] = .ok [.ins cc gs] ∧ gs.lookup m = none ∧ g.mth cc m = some f := by
  obtain ⟨ds, h1, h2⟩ := bind_ok h
  split at h2
  · rename_i cc gs
    split at h2
    · cases h2
    · rename_i hn
      refine ⟨cc, gs, h1, ?_, of_ok h2⟩
      cases q : gs.lookup m with
      | none => rfl
      | some d => rw [q] at hn; exact absurd rfl hn
  · cases h2
theorem recv_noexc {m : Nat} {ρ : Env} {ps : List Pv} {c : Nat} {gs : List (Nat × D)} : recv g m ρ ps ≠ .exc c gs := by
  refine bind_noexc (fun _ _ => rs_noexc) fun ds c gs => ?_
  split
  · split
    · exact fun h => nomatch h
    · exact of_noexc
  · exact fun h => nomatch h
/-- the call of a method, whatever its class -/
structure MthI (X : Cx) (k : Kx) (g : G) (n : Nat) (nm : Str) (f : Nat) (C : Addr) (fa : Addr) : Prop where
  hm : Meth X.K C nm fa
  Fo : ∃ fd ps, FnOk X.prog X.w X.K X.mg X.base (L2.CX X.prog X.w) n fa fd ps (spOf k g f) ∧ Binds X.K fd ps []
def tMethD (X : Cx) (k : Kx) (g : G) (E : XK) (n : Nat) (nm : Str) (ta : TE) (t : TA) : TE := fun σ H Q => ta σ H fun x H1 => ∃ a C dx fs f fa, x = .ref a ∧ H1 a = some (.ins C dx fs) ∧ fs.lookup nm = none ∧ Cls X.K C ∧ MthI X k g n nm f C fa ∧
  t σ H1 fun vs H2 => spOf k g f (.ref a :: vs) H2 Q E
theorem pe_methD (x : XOk X k g c n E) {nm : Str} {apos pos : Pos} {o : Expr} {es : List Expr} {ta : TE} {t : TA} (ho : PE X o ta) (ha : PA X es t) (hp : es.all notStar = true) (hs : notSuper o = true) (hn : es.length < 30) (hl : (apos.endLine == pos.line) = true)
    (h0 : es = [] → ∀ σ H P, t σ H P → P [] H) : PE X (.Call (.Attribute o nm apos) es [] pos) (tMethD X k g E n nm ta t) := by
  refine ⟨fun pins s σ H Q I h => ?_⟩
  refine PySem.W.methodCall_KW (thn (ho.run pins s σ H _ I h) fun u s1 ⟨y, H1, I1, rx, a, C, dx, fs, f, fa, ex, ea, l, cl, mi, q⟩ => ?_) (methEval hs hp hn hl)
  subst ex
  obtain rfl : u = Value.ref a := rx
  refine getmeth_ok I1 ea cl mi.hm l ?_
  obtain ⟨fd, ps, Fo, b⟩ := mi.Fo
  cases es with
  | nil =>
    refine PySem.W.callWith_K0 (first := [.ref a]) I1.kIn mi.hm.kp ?_
    exact run_at Fo b x.pass ⟨x.room.mono (Nat.le_succ _), rfl⟩ I1 (vals1r (a := a)) (h0 rfl σ H1 _ q)
  | cons e es =>
    rw [List.all_cons, Bool.and_eq_true] at hp
    refine PySem.W.callWith_K (first := [.ref a]) (h₀ := X.base) I.ok.mod.kin mi.hm.kp (thn (ha.run pos pins s1 σ H1 _ I1 q) fun us s2 ⟨vs, H2, I2, r, q2⟩ => ⟨I2.kIn, ?_⟩) (starEach_plain hp.1) (noStars hp.2)
    exact run_fn (us := .ref a :: us) (vs := .ref a :: vs) Fo (x.room.mono (Nat.le_succ _)) b .nil x.pass I2 (.cons rfl r) (by rw [List.append_nil]; exact q2)

theorem pairs_append {α β : Type} {R : α → β → Prop} : ∀ {xs xs' : List α} {ys ys' : List β}, Paired R xs ys → Paired R xs' ys' → Paired R (xs ++ xs') (ys ++ ys')
  | _, _, _, _, .nil, s => s
  | _, _, _, _, .cons h r, s => .cons h (pairs_append r s)
theorem pe_methX (x : XOk X k g c n E) {m : Nat} {nm : Str} {apos pos : Pos} {o : Expr} {es : List Expr} {f0 : Env → R (Pv × Env)} {fs : List (Env → R (Pv × Env))} (hm : c.tb.nm[m]? = some nm) (h0 : PCs X k E [o] [f0]) (h : PCs X k E es fs)
    (hs : notSuper o = true) (hn : es.length < 30) (hl : (apos.endLine == pos.line) = true) : PE X (.Call (.Attribute o nm apos) es [] pos) (tS k E (methF g m f0 fs)) := by
  have hnd : k.nm.Nodup := by rw [x.gk.nmE]; exact x.gk.nd
  cases h0 with
  | cons n0 ho h0 =>
    refine pe_weak (pe_methD x (nm := nm) ho h.pa h.plain hs hn hl (fun e σ H P q => ?_)) fun σ H Q ⟨F, ρ, K1, p⟩ => ?_
    · subst e
      cases h
      obtain ⟨F, ρ, K1, p⟩ := q
      exact p.here K1 [] .nil
    · have p0 : Post k E F H σ ρ ((seqF [f0] ρ).bind fun q => (recv g m q.2 q.1).bind fun f => (seqF fs q.2).bind fun r => if decide (bors (q.1 ++ r.1)).Nodup then (sls r.2 (q.1 ++ r.1)).bind fun ss => (g.call f ss).bind fun z => .ok (z.1, wb (q.1 ++ r.1) z.2 r.2) else .stuck) _ := p
      have e0 : seqF [f0] ρ = (f0 ρ).bind fun x => .ok ([x.1], x.2) := by
        show ((f0 ρ).bind fun x => (R.ok ([], x.2)).bind fun r => .ok (x.1 :: r.1, r.2)) = _
        rfl
      rw [e0, R.assoc] at p0
      refine ⟨F, ρ, K1, p0.split.mono fun p1 ρ1 F1 H1 K2 f1 q1 v hv => ?_⟩
      have q1 : Post k E F1 H1 σ ρ1 ((recv g m ρ1 [p1]).bind fun f => (seqF fs ρ1).bind fun r => if decide (bors ([p1] ++ r.1)).Nodup then (sls r.2 ([p1] ++ r.1)).bind fun ss => (g.call f ss).bind fun z => .ok (z.1, wb ([p1] ++ r.1) z.2 r.2) else .stuck) _ := q1
      rcases q1.look with ⟨f, hr, q2⟩ | ⟨_, _, z⟩
      · obtain ⟨cc, gs, r1, r2, r3⟩ := recv_ok hr
        have pk := K2.pk (vs := [v]) (.cons hv .nil) r1
        cases pk with
        | cons pk _ =>
          obtain ⟨a, C, dx, fs', rfl, z1, z2, z3⟩ := pk_ins K2.sub pk
          obtain ⟨C', nm', fa, y1, y2, y3, ⟨fd, ps, Fo, b⟩⟩ := x.gk.mth cc m f r3
          rw [z2] at y1
          cases y1
          rw [hm] at y2
          cases y2
          refine ⟨a, C, dx, fs', f, fa, rfl, z1, (RepF.look hnd (by rw [x.gk.nmE]; exact hm) z3).2 r2, (x.gk.clsF _ _ z2).cl, ⟨y3, fd, ps, Fo, b⟩, F1, ρ1, K2, q2.split.mono fun pv ρ2 F2 H2 K3 f2 q3 vs hvs => ?_⟩
          have q3 : Post k E F2 H2 σ ρ2 (if decide (bors ([p1] ++ pv)).Nodup then (sls ρ2 ([p1] ++ pv)).bind fun ss => (g.call f ss).bind fun z => .ok (z.1, wb ([p1] ++ pv) z.2 ρ2) else .stuck) _ := q3
          by_cases nd : (bors ([p1] ++ pv)).Nodup
          · rw [if_pos (decide_eq_true nd)] at q3
            rcases q3.look with ⟨ss, hss, q4⟩ | ⟨_, _, z⟩
            · have L := len_of (vs := [V.ref a] ++ vs) K3 (pairs_append (.cons (hv.mono f2.ext) .nil) hvs) hss
              exact L.sp K3 nd q4 fun s ρ' F' H' hP v r => hP v (r.back fun b q => f2.dom b (f1.dom b q))
            · exact absurd z sls_noexc
          · rw [if_neg (by simpa using nd)] at q3
            exact q3.elim
      · exact absurd z recv_noexc

theorem reps_frz {F : Hp} {σ : St} {ρ : Env} : ∀ {vs : List V} {ds : List D}, Reps k F vs ds → Len k F σ ρ vs (ds.map .inl) (ds.map .frz)
  | _, _, .nil => .nil
  | _, _, .cons h r => .val h (reps_frz r)
theorem map_frz_at {ds : List D} {i : Nat} {s : Sl} (h : (ds.map Sl.frz)[i]? = some s) : ∃ d, ds[i]? = some d ∧ s = .frz d := by
  rw [List.getElem?_map] at h
  cases q : ds[i]? with
  | none => rw [q] at h; cases h
  | some d => rw [q] at h; cases h; exact ⟨d, rfl, rfl⟩
/-- the state at __init__: a new instance, what is handed over -/
theorem init_okk {F H : Hp} {σ : St} {ρ : Env} {y dx C : Addr} {cc : Nat} {vs : List V} {ds : List D} (K1 : Okk k F σ H ρ) (hc : k.cm cc = some C) (r : Reps k F vs ds) (ny : H y = none) (nd : H dx = none) (ne : dx ≠ y) :
    Okk k F ((V.ref y :: vs).map some) (upd (upd H dx (.own y)) y (.ins C dx [])) ((Sl.own (.ins cc []) :: ds.map .frz).map some) ∧ (∀ b u, H b = some u → (upd (upd H dx (.own y)) y (.ins C dx [])) b = some u) := by
  have hk : ∀ b u, H b = some u → (upd (upd H dx (.own y)) y (.ins C dx [])) b = some u := fun b u q => by
    rw [upd_ne (ne_of_none q ny), upd_ne (ne_of_none q nd)]; exact q
  refine ⟨⟨fun b u q => hk _ _ (K1.sub b u q), by simp [r.length], fun i s h => ?_, fun i j a d e h1 h2 h3 h4 => ?_, K1.tabs.ext hk, K1.fnt⟩, hk⟩
  · cases i with
    | zero =>
      simp at h
      subst h
      exact ⟨.ref y, rfl, y, rfl, none_of_sub K1.sub ny, C, dx, [], upd_same, hc, .nil⟩
    | succ i =>
      have h : ((ds.map Sl.frz).map some)[i]? = some (some s) := by simpa using h
      rw [List.getElem?_map] at h
      cases q : (ds.map Sl.frz)[i]? with
      | none => rw [q] at h; cases h
      | some s' =>
        rw [q] at h
        cases h
        obtain ⟨d, h1, rfl⟩ := map_frz_at q
        obtain ⟨v, h2, h3⟩ := r.get h1
        exact ⟨v, by simp [h2], h3⟩
  · have z : ∀ (i : Nat) (d : D), ((Sl.own (.ins cc []) :: ds.map .frz).map some)[i]? = some (some (Sl.own d)) → i = 0 := fun i d h => by
      cases i with
      | zero => rfl
      | succ i =>
        have h : ((ds.map Sl.frz).map some)[i]? = some (some (.own d)) := by simpa using h
        rw [List.getElem?_map] at h
        cases q : (ds.map Sl.frz)[i]? with
        | none => rw [q] at h; cases h
        | some s' =>
          rw [q] at h
          cases h
          obtain ⟨d, h1, h2⟩ := map_frz_at q
          cases h2
    rw [z i d h1, z j e h2]
theorem init_ow {y : Addr} {cc : Nat} {vs : List V} {ds : List D} {b : Addr} (h : Ow ((V.ref y :: vs).map some) ((Sl.own (.ins cc []) :: ds.map .frz).map some) b) : b = y := by
  obtain ⟨i, d, h1, h2⟩ := h
  cases i with
  | zero =>
    simp at h2
    exact h2.symm
  | succ i =>
    have h : ((ds.map Sl.frz).map some)[i]? = some (some (.own d)) := by simpa using h1
    rw [List.getElem?_map] at h
    cases q : (ds.map Sl.frz)[i]? with
    | none => rw [q] at h; cases h
    | some s' =>
      rw [q] at h
      cases h
      obtain ⟨d, h1, h2⟩ := map_frz_at q
      cases h2
theorem pe_makeX (x : XOk X k g c n E) {cc : Nat} {nm : Str} {p pos : Pos} {a : Expr} {es : List Expr} {fs : List (Env → R (Pv × Env))} (hf : c.tb.cls[cc]? = some nm) (hg : glB c.sc nm = true) (hk : nameOk nm = true) (h : PCs X k E (a :: es) fs) (hi : ∃ f, g.ini cc = some f) :
    PE X (.Call (.Name nm p) (a :: es) [] pos) (tS k E (makeF g cc fs)) := by
  obtain ⟨f, hi⟩ := hi
  obtain ⟨C, hc, hm⟩ := x.gk.cls cc nm hf
  obtain ⟨C', fa, hc', M, ⟨fd, ps, Fo, b⟩⟩ := x.gk.ini cc f hi
  rw [hc] at hc'
  cases hc'
  have hp := h.plain
  rw [List.all_cons, Bool.and_eq_true] at hp
  refine pe_weak (pe_make M Fo x.room (gl_of x hg) hm b .nil x.pass h.pa (nameOk_d hk).1 (starEach_plain hp.1) (noStars hp.2)) fun σ H Q ⟨F, ρ, K1, p⟩ => ?_
  refine ⟨F, ρ, K1, p.split.mono fun pv ρ1 F1 H1 K2 f1 p1 vs hv y dx ny nd ne => ?_⟩
  rw [List.append_nil]
  have p1 : Post k E F1 H1 σ ρ1 ((frzs pv).bind fun ds => (R.of (g.ini cc)).bind fun f => (g.call f (.own (.ins cc []) :: ds.map .frz)).bind fun q => match q.1.d, q.2 with | .non, some s :: _ => .ok (s, ρ1) | _, _ => .stuck) _ := p1
  obtain ⟨ds, hd, p2⟩ := p1.frzs
  rw [hi] at p2
  have p2 : Post k E F1 H1 σ ρ1 ((g.call f (.own (.ins cc []) :: ds.map .frz)).bind fun q => match q.1.d, q.2 with | .non, some s :: _ => .ok (s, ρ1) | _, _ => .stuck) _ := p2
  have r := frzs_rep hv hd
  obtain ⟨K3, hkp⟩ := init_okk K2 hc r ny nd ne
  refine ⟨F1, _, K3, ?_⟩
  have aside : ∀ {b u}, H1 b = some u → ¬ Ow ((V.ref y :: vs).map some) ((Sl.own (.ins cc []) :: ds.map .frz).map some) b := fun {b u} q z => by
    rw [init_ow z, ny] at q; cases q
  have dm2 : ∀ b, Nz H1 b → Nz (upd (upd H1 dx (.own y)) y (.ins C dx [])) b := fun b z => z.keep hkp
  cases q : g.call f (.own (.ins cc []) :: ds.map .frz) with
  | exc c' gs =>
    rw [q] at p2
    intro cls d F' H' s2 f2 xv
    exact p2 cls d F' H' s2 ⟨f2.ext, fun b z => f2.dom b (dm2 b z), fun b o nt q1 q2 q3 => f2.keep b o nt (hkp _ _ q1) q2 (aside q1), f2.fnt⟩ xv
  | stuck => rw [q] at p2; exact p2
  | ok a =>
    obtain ⟨s0, os⟩ := a
    rw [q] at p2
    intro F' H' K4 f4 v rv
    have p3 : Post k E F1 H1 σ ρ1 (match s0.d, os with | .non, some s :: _ => .ok (s, ρ1) | _, _ => .stuck) _ := p2
    split at p3
    · rename_i s os' hs0
      have ev : v = .non := by
        cases s0 with
        | frz d =>
          have hd : d = .non := hs0
          subst hd
          cases rv
          rfl
        | own d =>
          have hd : d = .non := hs0
          subst hd
          obtain ⟨_, _, _, z, _⟩ := rv
          exact z.elim
      refine ⟨ev, ?_⟩
      have own1 : ∀ {b}, Ow σ ρ1 b → ∃ o, H1 b = some o ∧ H' b = some o ∧ F' b = none := fun {b} z => by
        obtain ⟨hf, o, ho⟩ := K2.ownAt z
        obtain ⟨z1, z2, _⟩ := f4.keep b o (K2.ownNT z ho).1 (hkp _ _ ho) hf (aside ho)
        exact ⟨o, ho, z1, z2⟩
      have K5 : Okk k F' σ H' ρ1 := by
        refine ⟨K4.sub, K2.len, fun i s h => ?_, K2.inj, K4.tabs, K4.fnt⟩
        obtain ⟨u, hu, ru⟩ := K2.val i s h
        refine ⟨u, hu, ?_⟩
        cases s with
        | frz d => exact Rep.mono f4.ext ru
        | own d =>
          obtain ⟨a, rfl, r1, r2⟩ := ru
          obtain ⟨o, z1, z2, z3⟩ := own1 ⟨i, d, h, hu⟩
          exact ⟨a, rfl, z3, (r2.heap fun w hw => by rw [z1] at hw; cases hw; exact z2).mono f4.ext⟩
      have fr5 : Fr F1 σ H1 ρ1 F' σ H' ρ1 := ⟨f4.ext, fun b z => f4.dom b (dm2 b z), fun b o nt q1 q2 q3 => by
        obtain ⟨z1, z2, _⟩ := f4.keep b o nt (hkp _ _ q1) q2 (aside q1)
        exact ⟨z1, z2, q3⟩⟩
      refine p3 F' H' K5 fr5 (.ref y) ?_
      obtain ⟨u, hu, ru⟩ := K4.val 0 s rfl
      cases hu
      have nyH : ¬ Nz H y := fun z => nz_none ny (f1.dom y z)
      cases s with
      | frz d => exact ru
      | own d =>
        obtain ⟨a, ea, r1, r2⟩ := ru
        cases ea
        exact ⟨y, rfl, r1, r2, fun z => (by obtain ⟨o, z1, _⟩ := own1 z; rw [ny] at z1; cases z1), nyH⟩
    · exact p3.elim

theorem dp_ints {K : PySem.W.Frag} {H : Hp} : ∀ ns : List Int, DpAll K H (ns.map V.int) (toPs (ns.map D.int))
  | [] => .nil
  | n :: ns => .cons (.int n) (dp_ints ns)
theorem plains_ints : ∀ (n : Nat) (ns : List Int), D.plains n (ns.map D.int) = true
  | _, [] => rfl
  | n, m :: ns => by
    show (D.plain n (.int m) && D.plains n (ns.map D.int)) = true
    rw [plains_ints n ns]
    rfl
theorem eqD_noexc {d e : D} {c : Nat} {gs : List (Nat × D)} : eqD d e ≠ .exc c gs := fun h => by
  unfold eqD at h
  split at h
  · cases h
  · split at h <;> cases h
/-- what == says of data -/
theorem eqD_dp {F H : Hp} {v w : V} {d e : D} {b : Bool} (sb : Sub F H) (h : eqD d e = .ok b) (p : PkV k F H v d) (q : PkV k F H w e) : ∃ x y, Dp k.K H v x ∧ Dp k.K H w y ∧ SeqAt.shaped x = true ∧ SeqAt.shaped y = true ∧ PyData.eqv x y = b := by
  unfold eqD at h
  split at h
  · rename_i ns
    cases h
    obtain ⟨a, rfl, hx⟩ := pk_scr sb p
    have p1 : (D.lst (ns.map D.int)).plain 60 = true := plains_ints 59 ns
    refine ⟨toP (.lst (ns.map D.int)), toP (.lst []), .lst hx (dp_ints ns), pk_dp sb q (n := 60) rfl, shaped_of p1 (by decide), shaped_of (n := 60) (d := .lst []) rfl (by decide), ?_⟩
    rw [toP_eqv 60 60 _ _ p1 rfl]
    cases ns <;> rfl
  · split at h
    · rename_i hp
      rw [Bool.and_eq_true] at hp
      cases h
      exact ⟨_, _, pk_dp sb p hp.1, pk_dp sb q hp.2, shaped_of hp.1 (by decide), shaped_of hp.2 (by decide), toP_eqv 60 60 _ _ hp.1 hp.2⟩
    · cases h
/-- behind two operands, as a call wants them -/
theorem run2S {H : Hp} {σ : St} {Q : VK} {f1 f2 : Env → R (Pv × Env)} {neg : Bool} (h : tS k E (eqvF g neg [f1, f2]) σ H Q) :
    tP k E f1 σ H fun x H1 => tP k E f2 σ H1 fun y H2 => ∃ F2 ρ2 pv ss, Okk k F2 σ H2 ρ2 ∧ (bors pv).Nodup ∧ Len k F2 σ ρ2 [x, y] pv ss ∧ (∀ b, Nz H b → Nz H2 b) ∧
      Post k E F2 H2 σ ρ2 (eqS g neg pv ρ2 ss) fun s ρ' F' H' => ∀ v, RsR k F' H' σ ρ' H v s → Q v H' := by
  obtain ⟨F, ρ, K1, p⟩ := h
  refine ⟨F, ρ, K1, ?_⟩
  unfold eqvF seqF at p
  rw [R.assoc] at p
  refine p.split.mono fun x ρ1 F1 H1 K2 fr1 p1 v hv => ⟨F1, ρ1, K2, ?_⟩
  unfold seqF at p1
  rw [R.assoc, R.assoc] at p1
  refine p1.split.mono fun y ρ2 F2 H2 K3 fr2 p2 u hu => ?_
  have p2 : Post k E F2 H2 σ ρ2 (if decide (bors [x, y]).Nodup then (sls ρ2 [x, y]).bind fun ss => eqS g neg [x, y] ρ2 ss else .stuck) _ := p2
  by_cases nd : (bors [x, y]).Nodup
  · rw [if_pos (decide_eq_true nd)] at p2
    rcases p2.look with ⟨ss, hss, q4⟩ | ⟨_, _, z⟩
    · have L := len_of (vs := [v, u]) K3 (.cons (hv.mono fr2.ext) (.cons hu .nil)) hss
      exact ⟨F2, ρ2, [x, y], ss, K3, nd, L, fun b q => fr2.dom b (fr1.dom b q), q4⟩
    · exact absurd z sls_noexc
  · rw [if_neg (by simpa using nd)] at p2
    exact p2.elim
def rEqA (X : Cx) (k : Kx) (g : G) (E : XK) : Bool → R2
  | false => fun x y H Q => rEqD X.K x y H Q ∨ rEqI k g E false x y H Q
  | true => fun x y H Q => rNeD X.K x y H Q ∨ rEqI k g E true x y H Q
theorem len_slr {F H : Hp} {σ : St} {ρ : Env} {vs : List V} {ps : List Pv} {ss : List Sl} {i : Nat} {s : Sl} (K1 : Okk k F σ H ρ) (L : Len k F σ ρ vs ps ss) (h : ss[i]? = some s) : ∃ v, vs[i]? = some v ∧ SlR k F H v s := by
  obtain ⟨v, hv, q⟩ := L.at h
  refine ⟨v, hv, ?_⟩
  rcases q with ⟨d, rfl, r, _⟩ | ⟨j, _, hr, hσ⟩
  · exact r
  · obtain ⟨u, hu, q⟩ := K1.val j s hr
    rw [hσ] at hu
    cases hu
    exact q
theorem sem_eqS (x : XOk X k g c n E) {F2 H0 H2 : Hp} {σ : St} {ρ2 : Env} {y1 y2 : V} {pv : List Pv} {ss : List Sl} {neg : Bool} {Q : VK} (K2 : Okk k F2 σ H2 ρ2) (nd : (bors pv).Nodup) (L : Len k F2 σ ρ2 [y1, y2] pv ss) (dm : ∀ b, Nz H0 b → Nz H2 b)
    (p : Post k E F2 H2 σ ρ2 (eqS g neg pv ρ2 ss) fun s ρ' F' H' => ∀ v, RsR k F' H' σ ρ' H0 v s → Q v H') : rEqA X k g E neg y1 y2 H2 Q := by
  have hl := L.lenS.1
  match ss, hl with
  | [s, t], _ =>
    obtain ⟨v1, e1, r1⟩ := len_slr (i := 0) K2 L rfl
    obtain ⟨v2, e2, r2⟩ := len_slr (i := 1) K2 L rfl
    cases e1
    cases e2
    have inst : ∀ (cc : Nat) (gs : List (Nat × D)) (c2 : Nat) (gs2 : List (Nat × D)), s.d = .ins cc gs → t.d = .ins c2 gs2 → rEqI k g E neg y1 y2 H2 Q := by
      intro cc gs c2 gs2 h1 h2
      have p1 : Post k E F2 H2 σ ρ2 ((R.of (g.eqm cc)).bind fun f => (g.call f [s, t]).bind fun q => (match q.1.d with | .bl b => (R.ok (Sl.frz (D.bl (b != neg)), wb pv q.2 ρ2) : R (Sl × Env)) | _ => .stuck)) (fun s ρ' F' H' => ∀ v, RsR k F' H' σ ρ' H0 v s → Q v H') := by
        have p' := p
        simp only [eqS, h1, h2] at p'
        exact p'
      rcases p1.look with ⟨f, hf, p2⟩ | ⟨_, _, z⟩
      · have pk1 := r1.pk
        have pk2 := r2.pk
        rw [h1] at pk1
        rw [h2] at pk2
        obtain ⟨a, C, dx, fs, rfl, z1, z2, _⟩ := pk_ins K2.sub pk1
        obtain ⟨b, C', dy, fs', rfl, z1', z2', _⟩ := pk_ins K2.sub pk2
        refine ⟨cc, c2, f, a, b, C, C', dx, dy, fs, fs', rfl, rfl, z1, z1', z2, z2', of_ok hf, ?_⟩
        refine ⟨F2, [s, t], L.okk K2 nd, ?_⟩
        cases q : g.call f [s, t] with
        | exc c' gs' =>
          rw [q] at p2
          intro cls d F' H' s2 f2 xv
          exact p2 cls d F' H' s2 ⟨f2.ext, f2.dom, fun b o nt q1 q2 q3 => f2.keep b o nt q1 q2 fun z => q3 (L.ow z), f2.fnt⟩ xv
        | stuck => rw [q] at p2; exact p2
        | ok r =>
          obtain ⟨s0, os⟩ := r
          rw [q] at p2
          intro F' H' K4 f4 v rv
          obtain ⟨K5, f5, _⟩ := L.after K2 nd K4 f4
          have p3 : Post k E F2 H2 σ ρ2 (match s0.d with | .bl b => (R.ok (Sl.frz (D.bl (b != neg)), wb pv os ρ2) : R (Sl × Env)) | _ => .stuck) _ := p2
          split at p3
          · rename_i tb htb
            have ev : v = .bl tb := by
              cases s0 with
              | frz d =>
                have hd : d = .bl tb := htb
                subst hd
                cases rv
                rfl
              | own d =>
                have hd : d = .bl tb := htb
                subst hd
                obtain ⟨_, _, _, z, _⟩ := rv
                exact z.elim
            exact ⟨tb, ev, p3 F' H' K5 f5 _ (.bl _)⟩
          · exact p3.elim
      · exact absurd z of_noexc
    have data : ∀ b, eqD s.d t.d = .ok b → eqS g neg pv ρ2 [s, t] = R.ok (Sl.frz (D.bl (b != neg)), ρ2) → rEqA X k g E neg y1 y2 H2 Q := by
      intro b hb he
      rw [he] at p
      have q := p F2 H2 K2 .refl _ (.bl _)
      obtain ⟨x1, x2, d1, d2, s1, s2, eb⟩ := eqD_dp K2.sub hb r1.pk r2.pk
      rw [← x.gk.kK] at d1 d2
      subst eb
      cases neg with
      | false => exact .inl ⟨_, _, d1, d2, s1, s2, by simpa using q⟩
      | true => exact .inl ⟨_, _, d1, d2, s1, s2, by simpa using q⟩
    cases h1 : s.d with
    | ins cc gs =>
      cases h2 : t.d with
      | ins c2 gs2 =>
        have := inst cc gs c2 gs2 h1 h2
        cases neg with
        | false => exact .inr this
        | true => exact .inr this
      | _ =>
        simp only [eqS, h1, h2] at p
        simp only [eqD, D.plain] at p
        exact p.elim
    | _ =>
      have he : eqS g neg pv ρ2 [s, t] = (eqD s.d t.d).bind fun b => R.ok (Sl.frz (D.bl (b != neg)), ρ2) := by
        simp only [eqS, h1]
      cases hb : eqD s.d t.d with
      | ok b =>
        rw [hb] at he
        exact data b hb he
      | exc c' gs' => exact absurd hb eqD_noexc
      | stuck =>
        rw [he, hb] at p
        exact p.elim
theorem pe_eqvX (x : XOk X k g c n E) {a b : Expr} {pos : Pos} {neg : Bool} {f1 f2 : Env → R (Pv × Env)} (h : PCs X k E [a, b] [f1, f2]) : PE X (.Compare a [if neg then .NotEq else .Eq] [b] pos) (tS k E (eqvF g neg [f1, f2])) := by
  have hu : X.A.units + 64 < cLine := Nat.lt_of_succ_lt x.hu
  cases h with
  | cons n1 ha h =>
    cases h with
    | cons n2 hb h =>
      cases neg with
      | false =>
        refine pe_weak (pe_cmpR (OpR.or (op_eqD hu) (op_eqI x)) ha hb (nomark b)) fun σ H Q q => ?_
        refine tP_mono (run2S q) fun y1 H1 q => tP_mono q fun y2 H2 q => ?_
        obtain ⟨F2, ρ2, pv, ss, K2, nd, L, dm, p⟩ := q
        exact sem_eqS x K2 nd L dm p
      | true =>
        refine pe_weak (pe_cmpR (OpR.or (op_neD hu) (op_neI x)) ha hb (nomark b)) fun σ H Q q => ?_
        refine tP_mono (run2S q) fun y1 H1 q => tP_mono q fun y2 H2 q => ?_
        obtain ⟨F2, ρ2, pv, ss, K2, nd, L, dm, p⟩ := q
        exact sem_eqS x K2 nd L dm p
end
/-! ### bool(x) -/
abbrev atA (X : Cx) (A : Around) : Cx := { X with A := A }
section
variable {X : Cx} {k : Kx} {g : G} {c : Cs} {n : Nat} {E : XK}
theorem okA {A : Around} (ok : X.Ok) (h : A.handled = none) (f : A.frames = X.A.frames) : (atA X A).Ok :=
  ⟨ok.mod, ok.kind, ok.glob, ok.blt, ok.above, ok.inj, ok.has, ok.cab, fun _ => h, by show A.frames = _; rw [f]; exact ok.frames, ok.stk, ok.exf, ok.bs, ok.bsz, ok.noex, ok.exfs, ok.funs, ok.frf⟩
theorem invA {A : Around} {pins : List (Addr × Obj)} {σ : L2.St} {H : Hp} {s : Shared} (I : Inv X pins σ H s) (h : A.handled = none) (f : A.frames = X.A.frames) : Inv (atA X A) pins σ H s :=
  ⟨okA I.ok h f, I.os, I.bare, I.base, I.loc, I.cell, I.free, I.freeC, I.pin, I.hok, I.len⟩
theorem invB {A : Around} {pins : List (Addr × Obj)} {σ : L2.St} {H : Hp} {s : Shared} (ok : X.Ok) (I : Inv (atA X A) pins σ H s) : Inv X pins σ H s :=
  ⟨ok, I.os, I.bare, I.base, I.loc, I.cell, I.free, I.freeC, I.pin, I.hok, I.len⟩
theorem tru_at (x : XOk X k g c n E) {A : Around} (sb : L2.Sub X n A) {pins : List (Addr × Obj)} {σ : L2.St} {H : Hp} {s : Shared} {y : V} {v : Value} {Q : Bool → Hp → Prop} (I : Inv X pins σ H s) (rx : RelV y v) (h : rTru X k g E y H Q) :
    wpAny (model X.prog X.w) A (truthy v) (TP X pins σ Q) X.xe s := by
  rcases h with h | ⟨cc, C, dx, fs, f, a, rfl, ha, hc, hf, sp⟩
  · exact thn (tru_ok (X := atA X A) pins s σ H y v Q (invA I sb.room.hd sb.fr) rx h) fun b s1 ⟨H1, I1, q⟩ => ⟨H1, invB I.ok I1, q⟩
  · cases rx
    obtain ⟨C', fa, h1, h2, h3, ⟨fd, ps, Fo, hb⟩⟩ := x.gk.tru cc f hf
    rw [hc] at h1
    cases h1
    obtain ⟨mA, J, _⟩ := ins_get I.hok ha
    obtain ⟨od, J, _⟩ := J.look
    obtain ⟨m, hF⟩ := I.fr
    refine PySem.W.truthy_K hF I.ok.mod.kin J h2 h3 (thn (run_at Fo hb x.pass sb I vals1r sp) fun u s1 hu => ?_)
    obtain ⟨v, H', I', rv, b, rfl, q⟩ := hu
    cases rv
    exact ⟨H', I', q⟩
theorem meets_bool_any {prog : Program} {w : World} (v : Value) : MeetsIn prog w (Builtin.«bool.__new__» ⟨[.type "bool", v], []⟩)
    (fun A R s => wpAny (model prog w) A.in1 (truthy v) (fun b s' => R (.ok (.ret (.bool b))) s') (fun e s' => R (.error e) s') s) := by
  intro A R s h
  have f1 := F.conv_sub_bool
  unfold Builtin.«bool.__new__»
  repeat (any_goals (first | assumption | wp_step))
  show wpAny (model prog w) A.in1 (truthy v) _ _ _
  exact wpAny_mono h (fun b s' hb => wpAny_pure hb) fun _ _ e => e
theorem call_boolX (x : XOk X k g c n E) : CallR X (.type "bool") (fun xs H Q => ∃ y, xs = [y] ∧ rTru X k g E y H (fun b H' => Q (.bl b) H')) := by
  intro pins s σ H xs us Q I r h
  obtain ⟨y, rfl, h⟩ := h
  obtain ⟨u, rfl, ru⟩ := vals1 r
  refine callType_meetsIn (Q₁ := fun obj s₁ => s₁.TypeIs obj "bool" ∧ EP X pins σ Q obj s₁) F.called_bool (F.typeCall_bool_1 u) (F.newCall_bool_1 u) F.entry_bool_new F.entry_object_init (meets_bool_any u) ?_
    fun obj _ hq => ⟨hq.1, F.args_object_init_2 obj u, _, object_init_meets F.called_bool.init.lookup F.called_bool.made F.newNe_bool, hq.1, rfl, hq.2⟩
  exact thn (tru_at x ⟨x.room2.in1.in1, rfl⟩ I ru h) fun b s1 ⟨H1, I1, q⟩ => ⟨rfl, .bl b, H1, I1, rfl, q⟩
end
end Rx

set_option Elab.async false
set_option linter.all false
set_option maxRecDepth 100000
/-! Rx9: tests, and or not, a if t else b, chains. -/
namespace Rx
open PySem PySem.Spec PyProof.Rows L2
section
variable {X : Cx} {k : Kx} {g : G} {c : Cs} {n : Nat} {E : XK}
theorem Post.shift {α : Type} {F H F1 H1 : Hp} {σ : St} {ρ ρ1 : Env} {r : R (α × Env)} {P : α → Env → Hp → Hp → Prop} (p : Post k E F H σ ρ r P) (f : Fr F σ H ρ F1 σ H1 ρ1) : Post k E F1 H1 σ ρ1 r P := by
  cases r with
  | ok a =>
    obtain ⟨a, ρ'⟩ := a
    exact fun F2 H2 K2 f2 => p F2 H2 K2 (f.trans f2)
  | exc c gs => exact fun cls d F2 H2 s2 f2 x => p cls d F2 H2 s2 (f.x f2) x
  | stuck => exact p
/-- truth of a value that came out: what follows goes on -/
theorem sem_tru (x : XOk X k g c n E) {α : Type} {F H : Hp} {σ : St} {ρ : Env} {v : V} {d : D} {h : Bool → R (α × Env)} {P : α → Env → Hp → Hp → Prop} (K1 : Okk k F σ H ρ) (r : Rep k F v d) (p : Post k E F H σ ρ ((g.truth d).bind h) P) :
    rTru X k g E v H fun b H1 => g.truth d = .ok b ∧ ∃ F1, Okk k F1 σ H1 ρ ∧ Fr F σ H ρ F1 σ H1 ρ ∧ Post k E F1 H1 σ ρ (h b) P := by
  have here : ∀ b, g.truth d = .ok b → TruV X.K v H b → rTru X k g E v H fun b H1 => g.truth d = .ok b ∧ ∃ F1, Okk k F1 σ H1 ρ ∧ Fr F σ H ρ F1 σ H1 ρ ∧ Post k E F1 H1 σ ρ (h b) P := by
    intro b hb ht
    rw [hb] at p
    exact .inl ⟨b, ht, hb, F, K1, .refl, p⟩
  cases d with
  | non => exact here false rfl (by cases r; rfl)
  | bl b => exact here b rfl (by cases r; rfl)
  | int i => exact here (i != 0) rfl (by cases r; rfl)
  | str s =>
    by_cases hz : s.length ≤ sizeLine
    · exact here ((s.length : Int) != 0) (by show (if s.length ≤ sizeLine then (R.ok ((s.length : Int) != 0) : R Bool) else .stuck) = _; rw [if_pos hz]) (by cases r; exact ⟨hz, rfl⟩)
    · have : g.truth (.str s) = .stuck := by show (if s.length ≤ sizeLine then (R.ok ((s.length : Int) != 0) : R Bool) else .stuck) = _; rw [if_neg hz]
      rw [this] at p
      exact p.elim
  | tup xs =>
    refine here (!xs.isEmpty) rfl ?_
    cases r with
    | tup hx rx =>
      refine .inr (.inl ⟨_, by rw [x.gk.kK]; exact SqT_sub K1.sub hx, ?_⟩)
      cases rx <;> rfl
  | lst xs =>
    refine here (!xs.isEmpty) rfl ?_
    cases r with
    | lst hx rx =>
      refine .inl ⟨_, .inl (Rd_sub K1.sub hx), ?_⟩
      cases rx <;> rfl
  | scr ns => exact p.elim
  | dic ks => exact p.elim
  | dit ks => exact p.elim
  | ins cc gs =>
    cases ht : g.tru cc with
    | none =>
      have : g.truth (.ins cc gs) = .stuck := by simp only [G.truth, ht]
      rw [this] at p
      exact p.elim
    | some f =>
      have et : g.truth (.ins cc gs) = (g.call f [.frz (.ins cc gs)]).bind fun r => match r.1.d with | .bl b => .ok b | _ => .stuck := by
        simp only [G.truth, ht]
        all_goals rfl
      obtain ⟨a, C, dx, fs, rfl, z1, z2, _⟩ := pk_ins K1.sub (.inl r)
      refine .inr ⟨cc, C, dx, fs, f, a, rfl, z1, z2, ht, ?_⟩
      have L : Len k F σ ρ [V.ref a] [.inl (.ins cc gs)] [.frz (.ins cc gs)] := .val r .nil
      refine ⟨F, [.frz (.ins cc gs)], L.okk K1 (by simp [bors]), ?_⟩
      rw [et] at p
      cases q : g.call f [.frz (.ins cc gs)] with
      | exc c' gs' =>
        rw [q] at p
        intro cls d F' H' s2 f2 xv
        exact p cls d F' H' s2 ⟨f2.ext, f2.dom, fun b o nt q1 q2 q3 => f2.keep b o nt q1 q2 fun z => q3 (L.ow z), f2.fnt⟩ xv
      | stuck => rw [q] at p; exact p
      | ok r0 =>
        obtain ⟨s0, os⟩ := r0
        rw [q] at p
        intro F' H' K4 f4 v rv
        obtain ⟨K5, f5, _⟩ := L.after K1 (by simp [bors]) K4 f4
        have hl := K4.len
        have ew : wb [.inl (.ins cc gs)] os ρ = ρ := by
          match os, hl with
          | [o], _ => rfl
        rw [ew] at K5 f5
        have p3 : Post k E F H σ ρ ((match s0.d with | .bl b => (R.ok b : R Bool) | _ => .stuck).bind h) P := p
        split at p3
        · rename_i tb htb
          have ev : v = .bl tb := by
            cases s0 with
            | frz d =>
              have hd : d = .bl tb := htb
              subst hd
              cases rv
              rfl
            | own d =>
              have hd : d = .bl tb := htb
              subst hd
              obtain ⟨_, _, _, z, _⟩ := rv
              exact z.elim
          refine ⟨tb, ev, ?_, F', K5, f5, Post.shift p3 f5⟩
          rw [et, q]
          show (match s0.d with | .bl b => (R.ok b : R Bool) | _ => .stuck) = _
          rw [htb]
        · exact p3.elim
/-! ### tests -/
def testF (g : G) (f : Env → R (Sl × Env)) (ρ : Env) : R (Bool × Env) := (f ρ).bind fun x => (g.truth x.1.d).bind fun t => .ok (t, x.2)
def plainTest : Expr → Bool
  | .UnaryOp .Not _ _ => false
  | .BoolOp _ _ _ => false
  | .IfExp _ _ _ _ => false
  | .Compare _ _ _ _ => false
  | _ => true
theorem isTrueP {e : Expr} {env : PySem.Env} (h : plainTest e = true) : ∀ whole, isTrue e env whole = (do let v ← whole; standAt e.pos; holding [v] (truthy v)) := by
  intro whole
  cases e <;> first | rfl | (simp [plainTest] at h; done) | skip
  rename_i op x pos
  cases op <;> first | rfl | (simp [plainTest] at h; done)
theorem pt_truR {r : V → Hp → (Bool → Hp → Prop) → Prop} {e : Expr} {ta : TE} (hr : TruR X r) (ha : PE X e ta) (he : plainTest e = true) : PT X e (fun σ H Q => ta σ H fun x H' => r x H' Q) := by
  refine ⟨fun pins s σ H Q I h => ?_⟩
  exact isTrue_plain (thn (ha.run pins s σ H _ I h) fun v s1 ⟨x, H1, I1, r1, q1⟩ => hr pins s1 σ H1 x v Q I1 r1 q1) (isTrueP he _)
theorem tF_mono {f : Env → R (Sl × Env)} {σ : St} {H : Hp} {P P' : V → Hp → Prop} (h : tF k E f σ H P) (m : ∀ x H1, P x H1 → P' x H1) : tF k E f σ H P' := by
  obtain ⟨F, ρ, K1, p⟩ := h
  exact ⟨F, ρ, K1, p.mono fun x ρ1 F1 H1 _ _ q v hv => m v H1 (q v hv)⟩
theorem pt_plain (x : XOk X k g c n E) {e : Expr} {f : Env → R (Sl × Env)} (h : PE X e (tS k E f)) (he : plainTest e = true) : PT X e (tT k E (testF g f)) := by
  refine pt_weak (pt_truR (tru_X x) (pe_fz h) he) fun σ H Q ⟨F, ρ, K1, p⟩ => ?_
  refine ⟨F, ρ, K1, p.split.mono fun s ρ1 F1 H1 K2 f1 p1 v r => ?_⟩
  have q := sem_tru x K2 r p1
  rcases q with ⟨b, hb, _, F2, K3, f2, p2⟩ | ⟨cc, C, dx, fs, f, a, ea, ha, hc, hf, sp⟩
  · exact .inl ⟨b, hb, p2.here K3⟩
  · refine .inr ⟨cc, C, dx, fs, f, a, ea, ha, hc, hf, ?_⟩
    obtain ⟨F0, ss, k0, p0⟩ := sp
    exact ⟨F0, ss, k0, p0.mono fun s os F' H' _ _ q v rv => by
      obtain ⟨b, hb, _, F2, K3, f2, p2⟩ := q v rv
      exact ⟨b, hb, p2.here K3⟩⟩
theorem rTru_mono {v : V} {H : Hp} {Q Q' : Bool → Hp → Prop} (h : rTru X k g E v H Q) (m : ∀ b H1, Q b H1 → Q' b H1) : rTru X k g E v H Q' := by
  rcases h with ⟨b, hb, q⟩ | ⟨cc, C, dx, fs, f, a, ea, ha, hc, hf, F0, ss, k0, p0⟩
  · exact .inl ⟨b, hb, m _ _ q⟩
  · exact .inr ⟨cc, C, dx, fs, f, a, ea, ha, hc, hf, F0, ss, k0, p0.mono fun s os F' H' _ _ q v rv => by
      obtain ⟨b, hb, z⟩ := q v rv
      exact ⟨b, hb, m _ _ z⟩⟩
/-- from a run whose value is a truth value to a reading that wants one -/
theorem tT_tS {f : Env → R (Sl × Env)} (hb : ∀ ρ s ρ', f ρ = .ok (s, ρ') → ∃ b, s = .frz (.bl b)) {σ : St} {H : Hp} {Q : Bool → Hp → Prop} (h : tT k E (testF g f) σ H Q) : tS k E f σ H fun x H' => ∃ b, x = .bl b ∧ Q b H' := by
  obtain ⟨F, ρ, K1, p⟩ := h
  refine ⟨F, ρ, K1, ?_⟩
  unfold testF at p
  cases q : f ρ with
  | ok a =>
    obtain ⟨s, ρ1⟩ := a
    obtain ⟨b, rfl⟩ := hb _ _ _ q
    rw [q] at p
    intro F1 H1 K2 f1 v r
    cases r
    exact ⟨b, rfl, p F1 H1 K2 f1⟩
  | exc c gs => rw [q] at p; exact p
  | stuck => rw [q] at p; exact p

/-! ### and, or, not, bool(), a if t else b -/
def andF (g : G) (fa fb : Env → R (Sl × Env)) (ρ : Env) : R (Sl × Env) := (fa ρ).bind fun x => (g.truth x.1.d).bind fun t => if t then fb x.2 else .ok (.frz x.1.d, x.2)
def orF (g : G) (fa fb : Env → R (Sl × Env)) (ρ : Env) : R (Sl × Env) := (fa ρ).bind fun x => (g.truth x.1.d).bind fun t => if t then .ok (.frz x.1.d, x.2) else fb x.2
def notF (g : G) (fa : Env → R (Sl × Env)) (ρ : Env) : R (Sl × Env) := (fa ρ).bind fun x => (g.truth x.1.d).bind fun t => .ok (.frz (.bl (!t)), x.2)
def truF (g : G) (fa : Env → R (Sl × Env)) (ρ : Env) : R (Sl × Env) := (fa ρ).bind fun x => (g.truth x.1.d).bind fun t => .ok (.frz (.bl t), x.2)
def ifeF (g : G) (fc fa fb : Env → R (Sl × Env)) (ρ : Env) : R (Sl × Env) := (fc ρ).bind fun x => (g.truth x.1.d).bind fun t => if t then fa x.2 else fb x.2
theorem test_and (fa fb : Env → R (Sl × Env)) (ρ : Env) : testF g (andF g fa fb) ρ = (testF g fa ρ).bind fun r => if r.1 then testF g fb r.2 else .ok (false, r.2) := by
  unfold testF andF
  cases q : fa ρ with
  | ok a =>
    obtain ⟨s, ρ1⟩ := a
    simp only [R.ok_bind]
    cases t : g.truth s.d with
    | ok b =>
      cases b with
      | true => simp [R.ok_bind]
      | false =>
        show (g.truth s.d).bind _ = _
        rw [t]
        rfl
    | exc c gs => simp
    | stuck => simp
  | exc c gs => simp
  | stuck => simp
theorem test_or (fa fb : Env → R (Sl × Env)) (ρ : Env) : testF g (orF g fa fb) ρ = (testF g fa ρ).bind fun r => if r.1 then .ok (true, r.2) else testF g fb r.2 := by
  unfold testF orF
  cases q : fa ρ with
  | ok a =>
    obtain ⟨s, ρ1⟩ := a
    simp only [R.ok_bind]
    cases t : g.truth s.d with
    | ok b =>
      cases b with
      | false => simp [R.ok_bind]
      | true =>
        show (g.truth s.d).bind _ = _
        rw [t]
        rfl
    | exc c gs => simp
    | stuck => simp
  | exc c gs => simp
  | stuck => simp
theorem test_not (fa : Env → R (Sl × Env)) (ρ : Env) : testF g (notF g fa) ρ = (testF g fa ρ).bind fun r => .ok (!r.1, r.2) := by
  unfold testF notF
  rw [R.assoc, R.assoc]
  congr 1
  funext x
  rw [R.assoc, R.assoc]
  rfl
theorem test_ife (fc fa fb : Env → R (Sl × Env)) (ρ : Env) : testF g (ifeF g fc fa fb) ρ = (testF g fc ρ).bind fun r => if r.1 then testF g fa r.2 else testF g fb r.2 := by
  unfold testF ifeF
  rw [R.assoc, R.assoc]
  congr 1
  funext x
  rw [R.assoc, R.assoc]
  congr 1
  funext t
  cases t <;> rfl
theorem pw_andE {a b : Expr} {rest : List Expr} {pos : Pos} {fa fb : Env → R (Sl × Env)} (ha : PT X a (tT k E (testF g fa))) (hb : PW X (.BoolOp .And (b :: rest) pos) (tT k E (testF g fb))) : PW X (.BoolOp .And (a :: b :: rest) pos) (tT k E (testF g (andF g fa fb))) := by
  refine pw_weak (pw_and ha hb) fun σ H Q ⟨F, ρ, K1, p⟩ => ?_
  rw [test_and] at p
  refine ⟨F, ρ, K1, p.split.mono fun t ρ1 F1 H1 K2 f1 p1 => ?_⟩
  cases t with
  | true => rw [if_pos rfl]; exact ⟨F1, ρ1, K2, p1⟩
  | false => rw [if_neg Bool.false_ne_true]; exact p1.here K2
theorem pw_orE {a b : Expr} {rest : List Expr} {pos : Pos} {fa fb : Env → R (Sl × Env)} (ha : PT X a (tT k E (testF g fa))) (hb : PW X (.BoolOp .Or (b :: rest) pos) (tT k E (testF g fb))) : PW X (.BoolOp .Or (a :: b :: rest) pos) (tT k E (testF g (orF g fa fb))) := by
  refine pw_weak (pw_or ha hb) fun σ H Q ⟨F, ρ, K1, p⟩ => ?_
  rw [test_or] at p
  refine ⟨F, ρ, K1, p.split.mono fun t ρ1 F1 H1 K2 f1 p1 => ?_⟩
  cases t with
  | true => rw [if_pos rfl]; exact p1.here K2
  | false => rw [if_neg Bool.false_ne_true]; exact ⟨F1, ρ1, K2, p1⟩
theorem pt_notE {a : Expr} {pos : Pos} {fa : Env → R (Sl × Env)} (ha : PT X a (tT k E (testF g fa))) : PT X (.UnaryOp .Not a pos) (tT k E (testF g (notF g fa))) := by
  refine pt_weak (pt_not ha) fun σ H Q ⟨F, ρ, K1, p⟩ => ?_
  rw [test_not] at p
  exact ⟨F, ρ, K1, p.split.mono fun t ρ1 F1 H1 K2 f1 p1 => p1.here K2⟩
/-- .. as values -/
theorem pe_andR {r : V → Hp → (Bool → Hp → Prop) → Prop} (hr : TruR X r) {a b : Expr} {rest : List Expr} {pos : Pos} {ta tb : TE} (ha : PE X a ta) (hb : PE X (.BoolOp .And (b :: rest) pos) tb) :
    PE X (.BoolOp .And (a :: b :: rest) pos) (fun σ H Q => ta σ H fun x H1 => r x H1 fun t H2 => if t = true then tb σ H2 Q else Q x H2) := by
  refine ⟨fun pins s σ H Q I h => ?_⟩
  refine BoolOp_and (thn (ha.run pins s σ H _ I h) fun v s1 ⟨x, H1, I1, r1, q1⟩ => ?_)
  refine thn (hr pins s1 σ H1 x v _ I1 r1 q1) fun t s2 ⟨H2, I2, q2⟩ => ?_
  cases t with
  | true => exact hb.run pins s2 σ H2 Q I2 q2
  | false => exact ⟨x, H2, I2, r1, q2⟩
theorem pe_orR {r : V → Hp → (Bool → Hp → Prop) → Prop} (hr : TruR X r) {a b : Expr} {rest : List Expr} {pos : Pos} {ta tb : TE} (ha : PE X a ta) (hb : PE X (.BoolOp .Or (b :: rest) pos) tb) :
    PE X (.BoolOp .Or (a :: b :: rest) pos) (fun σ H Q => ta σ H fun x H1 => r x H1 fun t H2 => if t = true then Q x H2 else tb σ H2 Q) := by
  refine ⟨fun pins s σ H Q I h => ?_⟩
  refine BoolOp_or (thn (ha.run pins s σ H _ I h) fun v s1 ⟨x, H1, I1, r1, q1⟩ => ?_)
  refine thn (hr pins s1 σ H1 x v _ I1 r1 q1) fun t s2 ⟨H2, I2, q2⟩ => ?_
  cases t with
  | false => exact hb.run pins s2 σ H2 Q I2 q2
  | true => exact ⟨x, H2, I2, r1, q2⟩
theorem pe_notR {r : V → Hp → (Bool → Hp → Prop) → Prop} (hr : TruR X r) {a : Expr} {pos : Pos} {ta : TE} (ha : PE X a ta) : PE X (.UnaryOp .Not a pos) (fun σ H Q => ta σ H fun x H1 => r x H1 fun t H2 => Q (.bl (!t)) H2) := by
  refine ⟨fun pins s σ H Q I h => ?_⟩
  refine UnaryOp_ (thn (ha.run pins s σ H _ I h) fun v s1 ⟨x, H1, I1, r1, q1⟩ => ?_)
  exact not_of (thn (hr pins s1 σ H1 x v _ I1 r1 q1) fun t s2 ⟨H2, I2, q2⟩ => ⟨.bl (!t), H2, I2, rfl, q2⟩)
theorem pe_andE (x : XOk X k g c n E) {a b : Expr} {rest : List Expr} {pos : Pos} {fa fb : Env → R (Sl × Env)} (ha : PE X a (tS k E fa)) (hb : PE X (.BoolOp .And (b :: rest) pos) (tS k E fb)) : PE X (.BoolOp .And (a :: b :: rest) pos) (tS k E (andF g fa fb)) := by
  refine pe_weak (pe_andR (tru_X x) (pe_fz ha) hb) fun σ H Q ⟨F, ρ, K1, p⟩ => ?_
  refine ⟨F, ρ, K1, p.split.mono fun s ρ1 F1 H1 K2 f1 p1 v r => ?_⟩
  refine rTru_mono (sem_tru x K2 r p1) fun t H2 ⟨_, F2, K3, f2, p2⟩ => ?_
  cases t with
  | true => rw [if_pos rfl]; exact ⟨F2, ρ1, K3, Post.mono p2 fun s ρ' F' H' K4 f4 q v rv => q v (rv.back fun b z => f2.dom b (f1.dom b z))⟩
  | false => rw [if_neg Bool.false_ne_true]; exact p2.here K3 v (r.mono f2.ext)
theorem pe_orE (x : XOk X k g c n E) {a b : Expr} {rest : List Expr} {pos : Pos} {fa fb : Env → R (Sl × Env)} (ha : PE X a (tS k E fa)) (hb : PE X (.BoolOp .Or (b :: rest) pos) (tS k E fb)) : PE X (.BoolOp .Or (a :: b :: rest) pos) (tS k E (orF g fa fb)) := by
  refine pe_weak (pe_orR (tru_X x) (pe_fz ha) hb) fun σ H Q ⟨F, ρ, K1, p⟩ => ?_
  refine ⟨F, ρ, K1, p.split.mono fun s ρ1 F1 H1 K2 f1 p1 v r => ?_⟩
  refine rTru_mono (sem_tru x K2 r p1) fun t H2 ⟨_, F2, K3, f2, p2⟩ => ?_
  cases t with
  | false => rw [if_neg Bool.false_ne_true]; exact ⟨F2, ρ1, K3, Post.mono p2 fun s ρ' F' H' K4 f4 q v rv => q v (rv.back fun b z => f2.dom b (f1.dom b z))⟩
  | true => rw [if_pos rfl]; exact p2.here K3 v (r.mono f2.ext)
theorem pe_notE (x : XOk X k g c n E) {a : Expr} {pos : Pos} {fa : Env → R (Sl × Env)} (ha : PE X a (tS k E fa)) : PE X (.UnaryOp .Not a pos) (tS k E (notF g fa)) := by
  refine pe_weak (pe_notR (tru_X x) (pe_fz ha)) fun σ H Q ⟨F, ρ, K1, p⟩ => ?_
  refine ⟨F, ρ, K1, p.split.mono fun s ρ1 F1 H1 K2 f1 p1 v r => ?_⟩
  exact rTru_mono (sem_tru x K2 r p1) fun t H2 ⟨_, F2, K3, f2, p2⟩ => p2.here K3 _ (.bl _)
theorem pe_ifeE {t a b : Expr} {pos : Pos} {fc fa fb : Env → R (Sl × Env)} (hc : PT X t (tT k E (testF g fc))) (ha : PE X a (tS k E fa)) (hb : PE X b (tS k E fb)) : PE X (.IfExp t a b pos) (tS k E (ifeF g fc fa fb)) := by
  refine pe_weak (pe_ifExp hc ha hb) fun σ H Q ⟨F, ρ, K1, p⟩ => ?_
  have e : ifeF g fc fa fb ρ = (testF g fc ρ).bind fun r => if r.1 then fa r.2 else fb r.2 := by
    unfold ifeF testF
    rw [R.assoc]
    congr 1
    funext x
    rw [R.assoc]
    rfl
  rw [e] at p
  refine ⟨F, ρ, K1, p.split.mono fun t ρ1 F1 H1 K2 f1 p1 => ?_⟩
  cases t with
  | true => rw [if_pos rfl]; exact ⟨F1, ρ1, K2, Post.mono p1 fun s ρ' F' H' K4 f4 q v rv => q v (rv.back f1.dom)⟩
  | false => rw [if_neg Bool.false_ne_true]; exact ⟨F1, ρ1, K2, Post.mono p1 fun s ρ' F' H' K4 f4 q v rv => q v (rv.back f1.dom)⟩
end
end Rx

set_option Elab.async false
set_option linter.all false
set_option maxRecDepth 100000
/-! Rx10: an expression as a value and as a test; comparisons, chains, bool(). -/
namespace Rx
open PySem PySem.Spec PyProof.Rows L2
/-- the expression e is run by f, as a value and as a test -/
structure SE (X : Cx) (k : Kx) (g : G) (E : XK) (e : Expr) (f : Env → R (Sl × Env)) : Prop where
  pe : PE X e (tS k E f)
  pt : PT X e (tT k E (testF g f))
section
variable {X : Cx} {k : Kx} {g : G} {c : Cs} {n : Nat} {E : XK}
theorem se_plain (x : XOk X k g c n E) {e : Expr} {f : Env → R (Sl × Env)} (h : PE X e (tS k E f)) (he : plainTest e = true) : SE X k g E e f := ⟨h, pt_plain x h he⟩
/-! ### comparisons -/
theorem cmp_weak {o : Cop} {r : R2} (h2 : SemB k r o.ap) {f1 f2 : Env → R (Pv × Env)} {σ : St} {H : Hp} {Q : VK} (q : tS k E (opP true [f1, f2] (Op.ap (.cmp o))) σ H Q) : tOp r (tP k E f1) (tP k E f2) σ H Q := by
  refine tP_mono (run2 q) fun x H1 q => tP_mono q fun y H2 q => ?_
  obtain ⟨F2, ρ2, dx, dy, K2, px, py, dm, fin⟩ := q
  exact semB_fin h2 K2 px py dm fin
theorem opP_bl {o : Cop} {fs : List (Env → R (Pv × Env))} {ρ ρ' : Env} {s : Sl} (h : opP true fs (Op.ap (.cmp o)) ρ = .ok (s, ρ')) : ∃ b, s = .frz (.bl b) := by
  obtain ⟨r, _, h⟩ := bind_ok h
  obtain ⟨ds, _, h⟩ := bind_ok h
  obtain ⟨s', h1, h⟩ := bind_ok h
  cases h
  have h1 : Op.ap (.cmp o) ds = .ok s := h1
  match ds, h1 with
  | [], h1 => cases h1
  | [_], h1 => cases h1
  | [x, y], h1 =>
    obtain ⟨b, _, h1⟩ := bind_ok h1
    cases h1
    exact ⟨b, rfl⟩
  | _ :: _ :: _ :: _, h1 => cases h1
theorem se_cmp (x : XOk X k g c n E) (o : Cop) {a b : Expr} {pos : Pos} {f1 f2 : Env → R (Pv × Env)} (h : PCs X k E [a, b] [f1, f2]) (hm : behindInMarks (cmpOp o) b = false) : SE X k g E (.Compare a [cmpOp o] [b] pos) (opP true [f1, f2] (Op.ap (.cmp o))) := by
  have hu := x.hu
  refine ⟨pe_cmpE x.gk.kK x.gk.kW hu o h hm, ?_⟩
  obtain ⟨r, h1, h2⟩ := cop_rule (X := X) x.gk.kK x.gk.kW hu o
  cases h with
  | cons n1 ha h =>
    cases h with
    | cons n2 hb h => exact pt_weak (pt_cmpR h1 ha hb hm) fun σ H Q q => cmp_weak h2 (tT_tS (fun ρ s ρ' z => opP_bl z) q)
theorem eqv_weak (x : XOk X k g c n E) {neg : Bool} {f1 f2 : Env → R (Pv × Env)} {σ : St} {H : Hp} {Q : VK} (q : tS k E (eqvF g neg [f1, f2]) σ H Q) : tOp (rEqA X k g E neg) (tP k E f1) (tP k E f2) σ H Q := by
  refine tP_mono (run2S q) fun y1 H1 q => tP_mono q fun y2 H2 q => ?_
  obtain ⟨F2, ρ2, pv, ss, K2, nd, L, dm, p⟩ := q
  exact sem_eqS x K2 nd L dm p
theorem eqS_bl {neg : Bool} {ps : List Pv} {ρ ρ' : Env} {ss : List Sl} {s : Sl} (h : eqS g neg ps ρ ss = .ok (s, ρ')) : ∃ b, s = .frz (.bl b) := by
  unfold eqS at h
  split at h
  · split at h
    · obtain ⟨f, _, h⟩ := bind_ok h
      obtain ⟨q, _, h⟩ := bind_ok h
      split at h
      · cases h; exact ⟨_, rfl⟩
      · cases h
    · obtain ⟨b, _, h⟩ := bind_ok h
      cases h; exact ⟨_, rfl⟩
  · cases h
theorem eqvF_bl {neg : Bool} {fs : List (Env → R (Pv × Env))} {ρ ρ' : Env} {s : Sl} (h : eqvF g neg fs ρ = .ok (s, ρ')) : ∃ b, s = .frz (.bl b) := by
  obtain ⟨r, _, h⟩ := bind_ok h
  split at h
  · obtain ⟨ss, _, h⟩ := bind_ok h
    exact eqS_bl h
  · cases h
def eqOp : Bool → CmpOp
  | true => .NotEq
  | false => .Eq
theorem se_eqv (x : XOk X k g c n E) {a b : Expr} {pos : Pos} {neg : Bool} {f1 f2 : Env → R (Pv × Env)} (h : PCs X k E [a, b] [f1, f2]) : SE X k g E (.Compare a [eqOp neg] [b] pos) (eqvF g neg [f1, f2]) := by
  have hu : X.A.units + 64 < cLine := Nat.lt_of_succ_lt x.hu
  have go : ∀ {ha : PE X a (tP k E f1)} {hb : PE X b (tP k E f2)} {op : CmpOp} (hr : OpR X (compareOp op) (rEqA X k g E neg)) (hm : behindInMarks op b = false), SE X k g E (.Compare a [op] [b] pos) (eqvF g neg [f1, f2]) := fun {ha hb op} hr hm =>
    ⟨pe_weak (pe_cmpR hr ha hb hm) fun σ H Q q => eqv_weak x q, pt_weak (pt_cmpR hr ha hb hm) fun σ H Q q => eqv_weak x (tT_tS (fun ρ s ρ' z => eqvF_bl z) q)⟩
  cases h with
  | cons n1 ha h =>
    cases h with
    | cons n2 hb h =>
      cases neg with
      | false => exact go (ha := ha) (hb := hb) (OpR.or (op_eqD hu) (op_eqI x)) (nomark b)
      | true => exact go (ha := ha) (hb := hb) (OpR.or (op_neD hu) (op_neI x)) (nomark b)
/-! ### a op b op c -/
def chnF (o p : Cop) (fa fb fc : Env → R (Sl × Env)) (ρ : Env) : R (Sl × Env) :=
  (fa ρ).bind fun x => (fb x.2).bind fun y => (o.ap x.1.d y.1.d).bind fun t =>
      if t then (fc y.2).bind fun z => (p.ap y.1.d z.1.d).bind fun u => .ok (.frz (.bl u), z.2) else .ok (.frz (.bl false), y.2)
theorem chn_weak {o p : Cop} {r r' : R2} (h1 : SemB k r o.ap) (h2 : SemB k r' p.ap) {fa fb fc : Env → R (Sl × Env)} {σ : St} {H : Hp} {Q : VK} (q : tS k E (chnF o p fa fb fc) σ H Q) : tChain r r' (tF k E fa) (tF k E fb) (tF k E fc) σ H Q := by
  obtain ⟨F, ρ, K1, q⟩ := q
  refine ⟨F, ρ, K1, q.split.mono fun x ρ1 F1 H1 K2 f1 p1 v rv => ⟨F1, ρ1, K2, p1.split.mono fun y ρ2 F2 H2 K3 f2 p2 u ru => ?_⟩⟩
  rcases p2.look with ⟨t, ht, p3⟩ | ⟨_, _, z⟩
  · refine h1 F2 H2 v u _ _ t _ K3.sub (.inl (rv.mono f2.ext)) (.inl ru) ht ⟨t, rfl, ?_⟩
    cases t with
    | true =>
      rw [if_pos rfl] at p3 ⊢
      refine ⟨F2, ρ2, K3, p3.split.mono fun z ρ3 F3 H3 K4 f3 p4 w rw' => ?_⟩
      rcases p4.look with ⟨t', ht', p5⟩ | ⟨_, _, z⟩
      · exact h2 F3 H3 u w _ _ t' _ K4.sub (.inl (ru.mono f3.ext)) (.inl rw') ht' (p5.here K4 _ (.bl _))
      · exact absurd z (cop_noexc _ _ _ _ _)
    | false =>
      rw [if_neg Bool.false_ne_true] at p3 ⊢
      exact p3.here K3 _ (.bl _)
  · exact absurd z (cop_noexc _ _ _ _ _)
theorem chnF_bl {o p : Cop} {fa fb fc : Env → R (Sl × Env)} {ρ ρ' : Env} {s : Sl} (h : chnF o p fa fb fc ρ = .ok (s, ρ')) : ∃ b, s = .frz (.bl b) := by
  obtain ⟨x, _, h⟩ := bind_ok h
  obtain ⟨y, _, h⟩ := bind_ok h
  obtain ⟨t, _, h⟩ := bind_ok h
  split at h
  · obtain ⟨z, _, h⟩ := bind_ok h
    obtain ⟨u, _, h⟩ := bind_ok h
    cases h; exact ⟨_, rfl⟩
  · cases h; exact ⟨_, rfl⟩
theorem se_chn (x : XOk X k g c n E) (o p : Cop) {a b d : Expr} {pos : Pos} {fa fb fc : Env → R (Sl × Env)} (ha : SE X k g E a fa) (hb : SE X k g E b fb) (hd : SE X k g E d fc) (hm : behindInMarks (cmpOp p) d = false) :
    SE X k g E (.Compare a [cmpOp o, cmpOp p] [b, d] pos) (chnF o p fa fb fc) := by
  obtain ⟨r, h1, h2⟩ := cop_rule (X := X) x.gk.kK x.gk.kW x.hu o
  obtain ⟨r', h1', h2'⟩ := cop_rule (X := X) x.gk.kK x.gk.kW x.hu p
  exact ⟨pe_weak (pe_chain h1 h1' (pe_fz ha.pe) (pe_fz hb.pe) (pe_fz hd.pe) hm) fun σ H Q q => chn_weak h2 h2' q,
    pt_weak (pt_chain h1 h1' (pe_fz ha.pe) (pe_fz hb.pe) (pe_fz hd.pe) hm) fun σ H Q q => chn_weak h2 h2' (tT_tS (fun ρ s ρ' z => chnF_bl z) q)⟩
/-! ### bool(x) -/
theorem se_tru (x : XOk X k g c n E) {a : Expr} {p pos : Pos} {fa : Env → R (Sl × Env)} (hg : glB c.sc "bool" = true) (hn : notStar a = true) (ha : SE X k g E a fa) : SE X k g E (.Call (.Name "bool" p) [a] [] pos) (truF g fa) := by
  refine se_plain x (pe_weak (pe_callTy (call_boolX x) (gl_of x hg) (blt_mem x (by decide +kernel)) (by decide +kernel) (pa_cons (pe_fz ha.pe) pa_nil (starEach_plain hn)) (by decide +kernel) (by decide +kernel) (starEach_plain hn) rfl) fun σ H Q ⟨F, ρ, K1, p⟩ => ?_) rfl
  refine ⟨F, ρ, K1, p.split.mono fun s ρ1 F1 H1 K2 f1 p1 v r => ⟨v, rfl, ?_⟩⟩
  exact rTru_mono (sem_tru x K2 r p1) fun t H2 ⟨_, F2, K3, f2, p2⟩ => p2.here K3 _ (.bl _)
/-! ### and, or, not, if else -/
theorem se_and (x : XOk X k g c n E) {a b : Expr} {rest : List Expr} {pos : Pos} {fa fb : Env → R (Sl × Env)} (ha : SE X k g E a fa) (hb : SE X k g E (.BoolOp .And (b :: rest) pos) fb) : SE X k g E (.BoolOp .And (a :: b :: rest) pos) (andF g fa fb) :=
  ⟨pe_andE x ha.pe hb.pe, (pw_andE ha.pt ⟨fun _ => hb.pt.run⟩).pt⟩
theorem se_or (x : XOk X k g c n E) {a b : Expr} {rest : List Expr} {pos : Pos} {fa fb : Env → R (Sl × Env)} (ha : SE X k g E a fa) (hb : SE X k g E (.BoolOp .Or (b :: rest) pos) fb) : SE X k g E (.BoolOp .Or (a :: b :: rest) pos) (orF g fa fb) :=
  ⟨pe_orE x ha.pe hb.pe, (pw_orE ha.pt ⟨fun _ => hb.pt.run⟩).pt⟩
theorem se_and1 {a : Expr} {pos : Pos} {fa : Env → R (Sl × Env)} (ha : SE X k g E a fa) : SE X k g E (.BoolOp .And [a] pos) fa := ⟨pe_one ha.pe, (pw_and1 ha.pt).pt⟩
theorem se_or1 {a : Expr} {pos : Pos} {fa : Env → R (Sl × Env)} (ha : SE X k g E a fa) : SE X k g E (.BoolOp .Or [a] pos) fa := ⟨pe_one ha.pe, (pw_or1 ha.pt).pt⟩
theorem se_not (x : XOk X k g c n E) {a : Expr} {pos : Pos} {fa : Env → R (Sl × Env)} (ha : SE X k g E a fa) : SE X k g E (.UnaryOp .Not a pos) (notF g fa) := ⟨pe_notE x ha.pe, pt_notE ha.pt⟩
theorem pt_ifeE {t a b : Expr} {pos : Pos} {fc fa fb : Env → R (Sl × Env)} (hc : PT X t (tT k E (testF g fc))) (ha : PT X a (tT k E (testF g fa))) (hb : PT X b (tT k E (testF g fb))) : PT X (.IfExp t a b pos) (tT k E (testF g (ifeF g fc fa fb))) := by
  refine ⟨fun pins s σ H Q I ⟨F, ρ, K1, p⟩ => ?_⟩
  rw [test_ife] at p
  show wpAny (model X.prog X.w) X.A (do if ← isTrue t X.env (eval t X.env) then isTrue a X.env (eval a X.env) else isTrue b X.env (eval b X.env)) _ _ s
  refine wpAny_bind (thn (hc.run pins s σ H (fun b' H1 => if b' then tT k E (testF g fa) σ H1 Q else tT k E (testF g fb) σ H1 Q) I ⟨F, ρ, K1, p.split.mono fun t' ρ1 F1 H1 K2 f1 p1 => ?_⟩) fun d s1 ⟨H1, I1, q1⟩ => ?_)
  · cases t' with
    | true => exact ⟨F1, ρ1, K2, p1⟩
    | false => exact ⟨F1, ρ1, K2, p1⟩
  · cases d with
    | true => exact ha.run pins s1 σ H1 Q I1 q1
    | false => exact hb.run pins s1 σ H1 Q I1 q1
theorem se_ife {t a b : Expr} {pos : Pos} {fc fa fb : Env → R (Sl × Env)} (hc : SE X k g E t fc) (ha : SE X k g E a fa) (hb : SE X k g E b fb) : SE X k g E (.IfExp t a b pos) (ifeF g fc fa fb) :=
  ⟨pe_ifeE hc.pt ha.pe hb.pe, pt_ifeE hc.pt ha.pt hb.pt⟩
end
end Rx

set_option Elab.async false
set_option linter.all false
set_option maxRecDepth 100000
/-! RxZ: enumerate and zip over lists and tuples, in any mixture. -/
namespace Rx
open PySem PySem.Spec PyProof.Rows L2
/-- a list (false) or a tuple (true) -/
def SqA : Bool → PySem.W.Frag → Hp → Addr → List V → Prop
  | false => SqL
  | true => SqT
def ItA : Bool → Heap → Addr → Addr → Nat → Prop
  | false, h, it, a, i => h.IsListIter it a i
  | true, h, it, a, i => h.IsTupleIter it a i
def HpA : Bool → Heap → Addr → Array Value → Prop
  | false, h, a, its => h.IsList a its
  | true, h, a, its => h.IsTuple a its
def obA (t : Bool) (a : Addr) : Obj := { cls := .type (if t then "tuple_iterator" else "list_iterator"), data := .fields #[.ref a, .int 0 0] }
theorem drA {prog : Program} {w : World} {A : Around} (t : Bool) (hh : A.handled = none) (it a : Addr) (hne : a ≠ it) (items : Array Value) :
    Draws prog w A it [it, a] items.size (fun i v => items[i]? = some v) (fun i h => ItA t h it a i ∧ HpA t h a items) := by
  cases t
  · exact Draws.list hh it a hne items
  · exact Draws.tuple hh it a hne items
theorem beA (t : Bool) (a : Addr) (items : Array Value) : Begins (.ref a) (obA t a) fun h => HpA t h a items := by
  cases t
  · exact begins_list a items
  · exact begins_tuple a items
theorem ItA.at {t : Bool} {h h' : Heap} {it a : Addr} {i : Nat} (x : ItA t h it a i) (e : ∀ o, h.get? it = some o → h'.get? it = some o) : ItA t h' it a i := by
  cases t
  · exact Heap.IsListIter.at x e
  · exact Heap.IsTupleIter.at x e
theorem ItA.ob {t : Bool} {h : Heap} {it a : Addr} {i : Nat} (x : ItA t h it a i) : ∃ o fs, h.get? it = some o ∧ o.data = .fields fs := by
  cases t
  · obtain ⟨o, e, _, d⟩ := x
    exact ⟨o, _, e, d⟩
  · obtain ⟨o, e, _, d⟩ := x
    exact ⟨o, _, e, d⟩
theorem ItA.mk {t : Bool} {h : Heap} {it a : Addr} (e : h.get? it = some (obA t a)) : ItA t h it a 0 := by
  cases t
  · exact ⟨_, e, rfl, rfl⟩
  · exact ⟨_, e, rfl, rfl⟩
theorem SqA.ok {t : Bool} {X : Cx} {pins : List (Addr × Obj)} {σ : L2.St} {H : Hp} {s : Shared} {a : Addr} {xs : List L2.V} (I : Inv X pins σ H s) (h : SqA t X.K H a xs) :
    ∃ its : List Value, Vals xs its ∧ HpA t s.heap a its.toArray ∧ a < s.heap.objs.size := by
  cases t
  · obtain ⟨its, r, p, _⟩ := I.list h
    exact ⟨its, r, p.isList, p.lt⟩
  · obtain ⟨its, r, p, _⟩ := I.tuple h
    obtain ⟨o, e, _⟩ := id p
    exact ⟨its, r, p, Heap.lt_size e⟩
theorem SqA.inj {t : Bool} {X : Cx} {pins : List (Addr × Obj)} {σ : L2.St} {H : Hp} {s : Shared} {a : Addr} {xs ys : List V} (I : Inv X pins σ H s) (h : SqA t X.K H a xs) (h' : SqA t X.K H a ys) : xs = ys := by
  cases t
  · exact I.list_inj h h'
  · exact I.tuple_inj h h'

/-! ### enumerate -/
/-- the items as they stand at each turn, each in a new pair with its place -/
def IteA (t : Bool) (K : PySem.W.Frag) (a : Addr) : It :=
  ⟨fun i H => ∃ (xs : List V) (x : V), SqA t K H a xs ∧ xs[i]? = some x, fun i H v H' => ∃ T x, v = .ref T ∧ H T = none ∧ H' = upd H T (.tup [.int (i : Nat), x]) ∧ ∀ xs, SqA t K H a xs → xs[i]? = some x, fun i H => ∃ xs : List V, SqA t K H a xs ∧ xs.length = i⟩
theorem turn_enumA {P : Program} {w : World} {K : PySem.W.Frag} {elts : List Expr} {kk : Nat} {tpos : Pos} (t : Bool) (a e it : Addr) (hae : a ≠ e) (hai : a ≠ it) :
    Turn P w K (.Tuple elts kk tpos) (IteA t K a) [e, it] e (fun i h => (∃ old, IsEnum h e it ((i : Nat) : Int) old) ∧ ItA t h it a i ∧ e ≠ it) where
  mem := by simp
  obj := fun i h st b hb => by
    obtain ⟨⟨old, he⟩, hi, _⟩ := st
    obtain ⟨o, fs, ho, hd⟩ := hi.ob
    have e' : b = e ∨ b = it := by simpa using hb
    rcases e' with z | z
    · rw [z]; exact ⟨_, he, fun v q => nomatch q⟩
    · rw [z]; exact ⟨o, ho, fun v q => by rw [hd] at q; cases q⟩
  keep := fun i h h' st k => let ⟨⟨old, he⟩, hi, hne⟩ := st; ⟨⟨old, k e (by simp) _ he⟩, hi.at fun o q => k it (by simp) o q, hne⟩
  item := by
    intro X hP hw hK hc i pins s σ H E I hf st hg
    subst hP hw hK
    obtain ⟨⟨old, he⟩, hit, hne⟩ := st
    obtain ⟨xs, x, hq, hx⟩ := hg
    obtain ⟨its, rv, p, hz⟩ := hq.ok I
    obtain ⟨u, hu, ru⟩ := rv.get hx
    have hel : e < s.heap.objs.size := Heap.lt_size he
    have hil : it < s.heap.objs.size := by obtain ⟨_, _, q, _⟩ := hit.ob; exact Heap.lt_size q
    have hlt : i < its.toArray.size := by
      have := (List.getElem?_eq_some_iff.mp hu).1
      simpa using this
    have hef : e ∉ [it, a] := by simp [hne, Ne.symm hae]
    refine wpAny_pyNext_enum_itemC (drA (A := X.A.in1) (w := X.w) (prog := X.prog) t (I.ok.hd hc) it a hai its.toArray) he ⟨hit, p⟩ hlt hne hef fun x' h' tk hx' ho hst hT hsz hk => ?_
    have ex : x' = u := by
      have hu' : its.toArray[i]? = some u := by simpa using hu
      rw [hu'] at hx'
      exact (Option.some.inj hx').symm
    subst ex
    refine ⟨_, rfl, wpAny_letOwnedTupleGo_enum (s := { s with heap := h', toks := tk + 1 }) ho fun h'' he' sb => ?_⟩
    have hT2 : h''.get? s.heap.objs.size = some { cls := .type "tuple", data := .seq #[.int i tk, x'] } := (sb.2 _ (Nat.ne_of_gt hel)).trans hT
    have new : ObjOk X.prog X.w (upd H s.heap.objs.size (.tup [.int (i : Nat), x])) h'' s.heap.objs.size (.tup [.int (i : Nat), x]) :=
      ⟨by show 2 ≤ sizeLine; decide, [.int i tk, x'], .cons ⟨_, rfl⟩ (.cons ru .nil), ⟨_, hT2, rfl, _, rfl⟩⟩
    have I1 : Inv X pins σ (upd H s.heap.objs.size (.tup [.int (i : Nat), x])) { s with heap := h'', toks := tk + 1 } :=
      I.turnedNew (ch := [e, it]) (fun b ob hb q => (sb.2 b (fun z => hb (by simp [z]))).trans (hk b ob (fun z => hb (by simp [z])) (fun z => hb (by simp [z])) q)) hf (Nat.le_refl _) new
    refine ⟨.ref s.heap.objs.size, _, I1, rfl, ⟨_, x, rfl, I.hok.fresh (Nat.le_refl _), rfl, fun ys hy => by rw [hy.inj I hq]; exact hx⟩, ⟨⟨x', ?_⟩, hst.1.at fun o q => (sb.2 it (Ne.symm hne)).trans q, hne⟩, fun b hb => ?_⟩
    · have e1 : ((i + 1 : Nat) : Int) = (i : Int) + 1 := by omega
      rw [e1]; exact he'
    · have hb' : b < s.heap.objs.size := by
        have e' : b = e ∨ b = it := by simpa using hb
        rcases e' with z | z
        · rw [z]; exact hel
        · rw [z]; exact hil
      rw [upd_ne (Nat.ne_of_lt hb')]
      exact (hf b hb).1
  done := by
    intro X hP hw hK hc i pins s σ H E I hf st hg
    subst hP hw hK
    obtain ⟨⟨old, he⟩, hit, hne⟩ := st
    obtain ⟨xs, hq, hx⟩ := hg
    obtain ⟨its, rv, p, hz⟩ := hq.ok I
    obtain ⟨f0, f1, f2, f3, f4, f5⟩ := hf it (by simp)
    have hl := rv.length
    have hn : its.toArray.size = i := by simp; omega
    refine wpAny_pyNext_enum_endD (drA (A := X.A.in1) (w := X.w) (prog := X.prog) t (I.ok.hd hc) it a hai its.toArray) he (by rw [hn]; exact ⟨hit, p⟩) fun h' eb => ⟨rfl, I.turned (t' := s.toks) (fun b o hb q => eb b o hb q) f0 f1 f3 f4 f5⟩
  self := fun A i s Q E st h => let ⟨⟨_, he⟩, _⟩ := st; wpAny_pyIter_enum he h

set_option maxHeartbeats 1000000 in
theorem meets_enum1 {v : Value} {o : Obj} {H : Heap → Prop} (B : Begins v o H) :
    Meets (Builtin.«enumerate.__new__» ⟨[.type "enumerate", v], []⟩) (fun _ R s => H s.heap ∧
      R (.ok (.ret (.ref (s.heap.push o).objs.size))) { s with heap := (s.heap.push o).push { cls := .type "enumerate", data := .fields #[.none, .bool false, .ref s.heap.objs.size, rawInt 0, .none, .none] } }) :=
  .of_wp fun prog w A R s h => by
    obtain ⟨hp, g, d, tk, os⟩ := s; obtain ⟨h1, h⟩ := h
    have hsub := sub_enumerate
    have q1 : ∀ {A' : Around} {E : Value → Shared → Prop} {Q : Value → Shared → Prop}, Q (.ref hp.objs.size) ⟨hp.push o, g, d, tk, os⟩ → wpAny (model prog w) A' (pyIter v) Q E ⟨hp, g, d, tk, os⟩ :=
      fun q => B.iter prog w _ _ ⟨hp, g, d, tk, os⟩ _ h1 q
    wp_walk using q1
    refine wpAny_stack_any fun st => wpAny_pure ?_
    split
    · rename_i c _ _ _ _ _
      cases (c == Value.type "enumerate")
      · wp_walk using q1
        exact ⟨_, rfl, h⟩
      · wp_walk using q1
        exact ⟨_, rfl, h⟩
    · wp_walk using q1
      exact ⟨_, rfl, h⟩
section
variable {prog : Program} {w : World} {A : Around} {E : Value → Shared → Prop} {s : Shared}
theorem enum_begins1 {v : Value} {o : Obj} {H : Heap → Prop} {Q : Value → Shared → Prop} (B : Begins v o H) (h1 : H s.heap)
    (h : ∀ h', IsEnum h' (s.heap.objs.size + 1) s.heap.objs.size 0 .none → h'.get? s.heap.objs.size = some o → h'.objs.size = s.heap.objs.size + 2 →
      (∀ b o, s.heap.get? b = some o → h'.get? b = some o) → Q (.ref (s.heap.objs.size + 1)) { s with heap := h' }) :
    wpAny (model prog w) A (call (.type "enumerate") [v]) Q E s := by
  refine callType_new F.called_enumerate (by decide) (F.typeCall_enumerate_1 _) (F.newCall_enumerate_1 _) (fun obj => F.args_object_init_2 obj _) F.entry_enumerate_new
    (meets_enum1 B) ⟨h1, ?_⟩
  have hz : (s.heap.push o).objs.size = s.heap.objs.size + 1 := Heap.size_push ..
  show _ ∧ _
  rw [hz]
  have he : IsEnum ((s.heap.push o).push { cls := .type "enumerate", data := .fields #[.none, .bool false, .ref s.heap.objs.size, rawInt 0, .none, .none] }) (s.heap.objs.size + 1) s.heap.objs.size 0 .none := by
    have := Heap.get?_push_size (s.heap.push o) (o := { cls := .type "enumerate", data := .fields #[.none, .bool false, .ref s.heap.objs.size, rawInt 0, .none, .none] }) rfl
    rw [hz] at this; exact this
  refine ⟨⟨_, he, rfl⟩, h _ he (Heap.get?_push_of_some _ (Heap.get?_push_size _ B.free)) (by rw [Heap.size_push, hz]) fun b o x => Heap.get?_push_of_some _ (Heap.get?_push_of_some _ x)⟩
end
def iEnumA (K : PySem.W.Frag) (ta : TA) : TI := fun σ H R => ta σ H fun vs H1 => ∃ a xs t, vs = [.ref a] ∧ SqA t K H1 a xs ∧ R (IteA t K a) H1
theorem pi_enumA {X : Cx} {e : Expr} {ta : TA} {p pos tpos : Pos} {elts : List Expr} {kk : Nat} (hg : Gl X "enumerate") (hm : X.mg "enumerate" = none) (ha : PA X [e] ta) (hs : starEach [e] X.env = [(false, eval e X.env)] := by rfl) :
    PI X (.Tuple elts kk tpos) (.Call (.Name "enumerate" p) [e] [] pos) (iEnumA X.K ta) := by
  refine ⟨fun pins s σ H R I h => ?_⟩
  refine Call_ (ld_blt I hg hm boot_enumerate (PyProof.Rows.callWith_type1 (thn (ha.run pos pins s σ H _ I h) fun us s1 ⟨vs, H1, I1, r1, q1⟩ => ?_) hs rfl))
  obtain ⟨a, xs, t, ex, hq, q⟩ := q1
  subst ex
  cases r1 with
  | cons r rr =>
    cases rr
    cases r
    obtain ⟨its, rv, p', hlt⟩ := hq.ok I1
    refine enum_begins1 (beA t a its.toArray) p' fun h' he hit hsz hk => wpAny_pyIter_enum he ?_
    have I2 : Inv X pins σ H1 { s1 with heap := h' } := I1.kept (t' := s1.toks) hk
    refine ⟨s1.heap.objs.size + 1, [s1.heap.objs.size + 1, s1.heap.objs.size], _, _, H1, rfl, I2, turn_enumA t a (s1.heap.objs.size + 1) s1.heap.objs.size (Nat.ne_of_lt (Nat.lt_succ_of_lt hlt)) (Nat.ne_of_lt hlt), ⟨⟨.none, he⟩, .mk hit, Nat.succ_ne_self _⟩, fun b hb => ?_, q⟩
    have e' : b = s1.heap.objs.size + 1 ∨ b = s1.heap.objs.size := by simpa using hb
    have hle : s1.heap.objs.size ≤ b := by
      rcases e' with z | z
      · rw [z]; exact Nat.le_add_right _ _
      · rw [z]; exact Nat.le_refl _
    exact I1.fpOk hle (I1.hok.fresh hle)

/-! ### zip -/
def ItzA (t u : Bool) (K : PySem.W.Frag) (a b : Addr) : It :=
  ⟨fun i H => ∃ (xs ys : List V) (x y : V), SqA t K H a xs ∧ SqA u K H b ys ∧ xs[i]? = some x ∧ ys[i]? = some y,
    fun i H v H' => ∃ T x y, v = .ref T ∧ H T = none ∧ H' = upd H T (.tup [x, y]) ∧ (∀ xs, SqA t K H a xs → xs[i]? = some x) ∧ ∀ ys, SqA u K H b ys → ys[i]? = some y,
    fun i H => ∃ xs ys : List V, SqA t K H a xs ∧ SqA u K H b ys ∧ i ≤ xs.length ∧ i ≤ ys.length ∧ (i = xs.length ∨ i = ys.length)⟩
theorem turn_zipA {P : Program} {w : World} {K : PySem.W.Frag} {elts : List Expr} {kk : Nat} {tpos : Pos} {a b z TI TO i1 i2 : Addr} (t u : Bool) (D : ZipApart z TI TO i1 i2 a b) :
    Turn P w K (.Tuple elts kk tpos) (ItzA t u K a b) [z, TI, TO, i1, i2] z (fun i h => IsZip h z TI TO .none ∧ IsPair h TI (.ref i1) (.ref i2) ∧ (∃ x y, IsPair h TO x y) ∧ ItA t h i1 a i ∧ ItA u h i2 b i) where
  mem := by simp
  obj := fun i h st c hc => by
    obtain ⟨hz, hTI, ⟨x, y, hTO⟩, h1, h2⟩ := st
    obtain ⟨o1, _, e1, d1⟩ := h1.ob
    obtain ⟨o2, _, e2, d2⟩ := h2.ob
    have e' : c = z ∨ c = TI ∨ c = TO ∨ c = i1 ∨ c = i2 := by simpa using hc
    rcases e' with q | q | q | q | q
    · rw [q]; exact ⟨_, hz, fun v q => nomatch q⟩
    · rw [q]; exact ⟨_, hTI, fun v q => nomatch q⟩
    · rw [q]; exact ⟨_, hTO, fun v q => nomatch q⟩
    · rw [q]; exact ⟨o1, e1, fun v q => by rw [d1] at q; cases q⟩
    · rw [q]; exact ⟨o2, e2, fun v q => by rw [d2] at q; cases q⟩
  keep := fun i h h' st k => by
    obtain ⟨hz, hTI, ⟨x, y, hTO⟩, h1, h2⟩ := st
    exact ⟨k z (by simp) _ hz, k TI (by simp) _ hTI, ⟨x, y, k TO (by simp) _ hTO⟩, h1.at fun o q => k i1 (by simp) o q, h2.at fun o q => k i2 (by simp) o q⟩
  item := by
    intro X hP hw hK hc i pins s σ H E I hf st hg
    subst hP hw hK
    obtain ⟨hz, hTI, ⟨x0, y0, hTO⟩, h1, h2⟩ := st
    obtain ⟨xs, ys, x, y, hqx, hqy, hx, hy⟩ := hg
    obtain ⟨its, rv, p, _⟩ := hqx.ok I
    obtain ⟨its2, rv2, p2, _⟩ := hqy.ok I
    obtain ⟨v, hu, ru⟩ := rv.get hx
    obtain ⟨v2, hu2, ru2⟩ := rv2.get hy
    have hzl : z < s.heap.objs.size := Heap.lt_size hz
    have S : ZipSep2 z TI TO i1 i2 [i1, a] [i2, b] :=
      ⟨D.TIz, D.TOz, D.TITO, D.TIi1, by simp, by simp [D.i1z.symm, D.l1z.symm], by simp [D.TOi1, D.l1TO.symm], D.TIi2, by simp, by simp [D.i2z.symm, D.l2z.symm], by simp [D.TOi2, D.l2TO.symm], by simp [D.i12, D.l2i1.symm], by simp [D.i12.symm, D.l1i2.symm]⟩
    have hlt : i < its.toArray.size := by
      have := (List.getElem?_eq_some_iff.mp hu).1
      simpa using this
    have hlt2 : i < its2.toArray.size := by
      have := (List.getElem?_eq_some_iff.mp hu2).1
      simpa using this
    refine wpAny_pyNext_zipD2_item S (drA (A := X.A.in1) (w := X.w) (prog := X.prog) t (I.ok.hd hc) i1 a D.l1i1 its.toArray) (drA (A := X.A.in1) (w := X.w) (prog := X.prog) u (I.ok.hd hc) i2 b D.l2i2 its2.toArray) hz hTI hTO ⟨h1, p⟩ ⟨h2, p2⟩ hlt hlt2 fun x1 x2 h' tk hx1 hx2 z' TO' s1' s2' hT hsz hk => ?_
    have ex : x1 = v := by
      have hu' : its.toArray[i]? = some v := by simpa using hu
      rw [hu'] at hx1
      exact (Option.some.inj hx1).symm
    have ex2 : x2 = v2 := by
      have hu' : its2.toArray[i]? = some v2 := by simpa using hu2
      rw [hu'] at hx2
      exact (Option.some.inj hx2).symm
    subst ex ex2
    refine ⟨_, rfl, wpAny_letOwnedTupleGo_zip (s := { s with heap := h', toks := tk }) z' fun h'' z'' sb => ?_⟩
    have hT2 : h''.get? s.heap.objs.size = some { cls := .type "tuple", data := .seq #[x1, x2] } := (sb.2 _ (Nat.ne_of_gt hzl)).trans hT
    have new : ObjOk X.prog X.w (upd H s.heap.objs.size (.tup [x, y])) h'' s.heap.objs.size (.tup [x, y]) :=
      ⟨by show 2 ≤ sizeLine; decide, [x1, x2], .cons ru (.cons ru2 .nil), ⟨_, hT2, rfl, _, rfl⟩⟩
    have I1 : Inv X pins σ (upd H s.heap.objs.size (.tup [x, y])) { s with heap := h'', toks := tk } :=
      I.turnedNew (t' := tk) (ch := [z, TI, TO, i1, i2]) (fun c o hb q => (sb.2 c (fun q' => hb (by simp [q']))).trans (hk c o (fun q' => hb (by simp [q'])) (fun q' => hb (by simp [q'])) (fun q' => hb (by simp [q'])) (fun q' => hb (by simp [q'])) q)) hf (Nat.le_refl _) new
    refine ⟨.ref s.heap.objs.size, _, I1, rfl, ⟨_, x, y, rfl, I.hok.fresh (Nat.le_refl _), rfl, fun l hl => by rw [hl.inj I hqx]; exact hx, fun l hl => by rw [hl.inj I hqy]; exact hy⟩, ⟨z'', ?_, ⟨x1, x2, ?_⟩, ?_, ?_⟩, fun c hcm => ?_⟩
    · exact (sb.2 _ D.TIz).trans (hk _ _ D.TIz D.TITO D.TIi1 D.TIi2 hTI)
    · exact (sb.2 _ D.TOz).trans TO'
    · exact s1'.1.at fun o q => (sb.2 _ D.i1z).trans q
    · exact s2'.1.at fun o q => (sb.2 _ D.i2z).trans q
    · have hlt : c < s.heap.objs.size := by
        have e' : c = z ∨ c = TI ∨ c = TO ∨ c = i1 ∨ c = i2 := by simpa using hcm
        rcases e' with q | q | q | q | q
        · rw [q]; exact hzl
        · rw [q]; exact Heap.lt_size hTI
        · rw [q]; exact Heap.lt_size hTO
        · rw [q]; obtain ⟨_, _, e1, _⟩ := h1.ob; exact Heap.lt_size e1
        · rw [q]; obtain ⟨_, _, e2, _⟩ := h2.ob; exact Heap.lt_size e2
      rw [upd_ne (Nat.ne_of_lt hlt)]
      exact (hf c hcm).1
  done := by
    intro X hP hw hK hc i pins s σ H E I hf st hg
    subst hP hw hK
    obtain ⟨hz, hTI, ⟨x0, y0, hTO⟩, h1, h2⟩ := st
    obtain ⟨xs, ys, hqx, hqy, le1, le2, hend⟩ := hg
    obtain ⟨its, rv, p, _⟩ := hqx.ok I
    obtain ⟨its2, rv2, p2, _⟩ := hqy.ok I
    have l1 : xs.length = its.toArray.size := rv.length.trans List.size_toArray.symm
    have l2 : ys.length = its2.toArray.size := rv2.length.trans List.size_toArray.symm
    have S : ZipSep2 z TI TO i1 i2 [i1, a] [i2, b] :=
      ⟨D.TIz, D.TOz, D.TITO, D.TIi1, by simp, by simp [D.i1z.symm, D.l1z.symm], by simp [D.TOi1, D.l1TO.symm], D.TIi2, by simp, by simp [D.i2z.symm, D.l2z.symm], by simp [D.TOi2, D.l2TO.symm], by simp [D.i12, D.l2i1.symm], by simp [D.i12.symm, D.l1i2.symm]⟩
    rw [l1, l2] at hend
    rw [l1] at le1
    rw [l2] at le2
    exact wpAny_pyNext_zipD2_end S (drA (A := X.A.in1) (w := X.w) (prog := X.prog) t (I.ok.hd hc) i1 a D.l1i1 its.toArray) (drA (A := X.A.in1) (w := X.w) (prog := X.prog) u (I.ok.hd hc) i2 b D.l2i2 its2.toArray) hz hTI hTO ⟨h1, p⟩ ⟨h2, p2⟩ le1 le2 hend fun h' tk hk => ⟨rfl, I.turnedL (t' := tk) (ch := [z, TI, TO, i1, i2]) (fun c o hb q =>
      hk c o (fun q' => hb (by simp [q'])) (fun q' => hb (by simp [q'])) (fun q' => hb (by simp [q'])) (fun q' => hb (by simp [q'])) q) hf⟩
  self := fun A i s Q E st h => wpAny_pyIter_zip st.1 h
def iZipB (K : PySem.W.Frag) (ta : TA) : TI := fun σ H R => ta σ H fun vs H1 => ∃ a b xs ys t u, vs = [.ref a, .ref b] ∧ SqA t K H1 a xs ∧ SqA u K H1 b ys ∧ R (ItzA t u K a b) H1
theorem pi_zipB {X : Cx} {e e2 : Expr} {ta : TA} {p pos tpos : Pos} {elts : List Expr} {kk : Nat} (hg : Gl X "zip") (hm : X.mg "zip" = none) (ha : PA X [e, e2] ta)
    (hs : starEach [e, e2] X.env = (false, eval e X.env) :: starEach [e2] X.env := by rfl) (hpl : (backTo pos (starEach [e2] X.env)).any (·.1) = false := by rfl) :
    PI X (.Tuple elts kk tpos) (.Call (.Name "zip" p) [e, e2] [] pos) (iZipB X.K ta) := by
  refine ⟨fun pins s σ H R I h => ?_⟩
  refine Call_ (ld_blt I hg hm PyProof.Rows.boot_zip (PyProof.Rows.callWith_type1 (thn (ha.run pos pins s σ H _ I h) fun us s1 ⟨vs, H1, I1, r1, q1⟩ => ?_) hs hpl))
  obtain ⟨a, b, xs, ys, t, u, ex, hqx, hqy, q⟩ := q1
  subst ex
  cases r1 with
  | cons r rr =>
    cases rr with
    | cons r' rr =>
      cases rr
      cases r
      cases r'
      obtain ⟨its, rv, p1, la⟩ := hqx.ok I1
      obtain ⟨its2, rv2, p2, lb⟩ := hqy.ok I1
      refine zip_begins2 (beA t a its.toArray) (beA u b its2.toArray) p1 p2 fun h' hz hTI hTO h1 h2 hsz hk => wpAny_pyIter_zip hz ?_
      have I2 : Inv X pins σ H1 { s1 with heap := h' } := I1.kept (t' := s1.toks) hk
      refine ⟨s1.heap.objs.size + 4, [s1.heap.objs.size + 4, s1.heap.objs.size + 2, s1.heap.objs.size + 3, s1.heap.objs.size, s1.heap.objs.size + 1], _, _, H1, rfl, I2, turn_zipA t u (PySem.W.ktu_apart s1.heap.objs.size a b la lb), ⟨hz, hTI, ⟨_, _, hTO⟩, .mk h1, .mk h2⟩, fun c hcm => ?_, q⟩
      have e' : c = s1.heap.objs.size + 4 ∨ c = s1.heap.objs.size + 2 ∨ c = s1.heap.objs.size + 3 ∨ c = s1.heap.objs.size ∨ c = s1.heap.objs.size + 1 := by simpa using hcm
      have hle : s1.heap.objs.size ≤ c := by
        rcases e' with z | z | z | z | z
        · rw [z]; exact Nat.le_add_right _ _
        · rw [z]; exact Nat.le_add_right _ _
        · rw [z]; exact Nat.le_add_right _ _
        · rw [z]; exact Nat.le_refl _
        · rw [z]; exact Nat.le_add_right _ _
      exact I1.fpOk hle (I1.hok.fresh hle)
end Rx

set_option Elab.async false
set_option linter.all false
set_option maxRecDepth 100000
/-! Rx11: what is walked; targets; list comprehensions. -/
namespace Rx
open PySem PySem.Spec PyProof.Rows L2
/-- the items of a walk, whatever else was frozen since -/
structure Walk (k : Kx) (J : It) (F : Hp) (its : List D) : Prop where
  stop : ∀ (F' H : Hp), Sub F F' → Sub F' H → J.stop its.length H
  go : ∀ (i : Nat) (F' H : Hp), Sub F F' → Sub F' H → i < its.length → J.go i H
  yld : ∀ (i : Nat) (d : D) (F' H : Hp) (v : V) (H' : Hp), Sub F F' → Sub F' H → its[i]? = some d → J.yld i H v H' → ∃ F'', New k F' H F'' H' v (.frz d)
section
variable {k : Kx} {F : Hp} {xs ys : List V} {ds es : List D} {a b : Addr}
theorem rngL_len (lo hi : Int) : (rngL lo hi).length = (hi - lo).toNat := by unfold rngL; rw [List.length_map, List.length_range]
theorem rngL_at {lo hi : Int} {i : Nat} {d : D} (h : (rngL lo hi)[i]? = some d) : d = .int (lo + (i : Int)) := by
  unfold rngL at h
  rw [List.getElem?_map] at h
  cases q : (List.range (hi - lo).toNat)[i]? with
  | none => rw [q] at h; cases h
  | some m =>
    rw [q] at h
    have e := List.getElem?_eq_some_iff.mp q
    obtain ⟨h1, h2⟩ := e
    rw [List.getElem_range] at h2
    subst h2
    exact (Option.some.inj h).symm
theorem walk_rng (lo hi : Int) : Walk k (Itr lo (hi - lo).toNat) F (rngL lo hi) where
  stop := fun _ _ _ _ => Nat.le_of_eq (rngL_len lo hi).symm
  go := fun i _ _ _ _ h => by rw [rngL_len] at h; exact h
  yld := fun i d F' H v H' _ _ h y => by
    obtain ⟨rfl, rfl⟩ := y
    rw [rngL_at h]
    exact ⟨F', .same (.int _)⟩
theorem walk_lst (h : Rd F a (.lst xs)) (r : Reps k F xs ds) : Walk k (Itl k.K a) F ds where
  stop := fun F' H s1 s2 => ⟨xs, .inl (Rd_sub s2 (Rd_sub s1 h)), Nat.le_of_eq r.length⟩
  go := fun i F' H s1 s2 hi => ⟨xs, xs[i]'(by rw [r.length]; exact hi), .inl (Rd_sub s2 (Rd_sub s1 h)), by rw [List.getElem?_eq_getElem]⟩
  yld := fun i d F' H v H' s1 s2 hd y => by
    obtain ⟨rfl, y⟩ := y
    obtain ⟨u, h1, h2⟩ := r.get hd
    have := y xs (.inl (Rd_sub s2 (Rd_sub s1 h)))
    rw [h1] at this
    cases this
    exact ⟨F', .same (h2.mono s1)⟩
theorem walk_tup (h : SqT k.K F a xs) (r : Reps k F xs ds) : Walk k (Itt k.K a) F ds where
  stop := fun F' H s1 s2 => ⟨xs, SqT_sub s2 (SqT_sub s1 h), Nat.le_of_eq r.length⟩
  go := fun i F' H s1 s2 hi => ⟨xs, xs[i]'(by rw [r.length]; exact hi), SqT_sub s2 (SqT_sub s1 h), by rw [List.getElem?_eq_getElem]⟩
  yld := fun i d F' H v H' s1 s2 hd y => by
    obtain ⟨rfl, y⟩ := y
    obtain ⟨u, h1, h2⟩ := r.get hd
    have := y xs (SqT_sub s2 (SqT_sub s1 h))
    rw [h1] at this
    cases this
    exact ⟨F', .same (h2.mono s1)⟩
theorem enumL_len : ∀ (ds : List D) (n : Nat), (enumL ds n).length = ds.length
  | [], n => rfl
  | d :: ds, n => by
    show (enumL ds (n + 1)).length + 1 = _
    rw [enumL_len ds (n + 1)]
    rfl
theorem enumL_at : ∀ (ds : List D) (n i : Nat) (d : D), (enumL ds n)[i]? = some d → ∃ x, ds[i]? = some x ∧ d = .tup [.int ((n + i : Nat) : Int), x]
  | [], n, i, d, h => by simp [enumL] at h
  | x :: ds, n, 0, d, h => by
    have h : some (D.tup [.int n, x]) = some d := h
    cases h
    exact ⟨x, rfl, rfl⟩
  | x :: ds, n, i + 1, d, h => by
    have h : (enumL ds (n + 1))[i]? = some d := h
    obtain ⟨y, h1, h2⟩ := enumL_at ds (n + 1) i d h
    refine ⟨y, h1, ?_⟩
    rw [h2]
    congr 4
    omega
theorem SqA_sub {t : Bool} {K : PySem.W.Frag} {F H : Hp} (e : Sub F H) (h : SqA t K F a xs) : SqA t K H a xs := by
  cases t
  · exact SqL_sub e h
  · exact SqT_sub e h
theorem rep_sq {v : V} {d : D} (h : Rep k F v d) (e : d.sq = some ds) : ∃ a t xs, v = .ref a ∧ SqA t k.K F a xs ∧ Reps k F xs ds := by
  cases h with
  | @lst a xs _ h1 h2 =>
    cases e
    exact ⟨a, false, xs, rfl, .inl h1, h2⟩
  | @tup a xs _ h1 h2 =>
    cases e
    exact ⟨a, true, xs, rfl, h1, h2⟩
  | _ => cases e
theorem walk_enm {t : Bool} (h : SqA t k.K F a xs) (r : Reps k F xs ds) : Walk k (IteA t k.K a) F (enumL ds 0) where
  stop := fun F' H s1 s2 => ⟨xs, SqA_sub s2 (SqA_sub s1 h), by rw [enumL_len, r.length]⟩
  go := fun i F' H s1 s2 hi => by
    rw [enumL_len] at hi
    exact ⟨xs, xs[i]'(by rw [r.length]; exact hi), SqA_sub s2 (SqA_sub s1 h), by rw [List.getElem?_eq_getElem]⟩
  yld := fun i d F' H v H' s1 s2 hd y => by
    obtain ⟨T, x, rfl, hT, rfl, y⟩ := y
    obtain ⟨e, h1, rfl⟩ := enumL_at _ _ _ _ hd
    obtain ⟨u, h2, h3⟩ := r.get h1
    have := y xs (SqA_sub s2 (SqA_sub s1 h))
    rw [h2] at this
    cases this
    rw [Nat.zero_add]
    exact ⟨_, new_tup s2 hT (.cons (.int _) (.cons (h3.mono s1) .nil))⟩
theorem zipL_len : ∀ (ds es : List D), (zipL ds es).length ≤ ds.length ∧ (zipL ds es).length ≤ es.length ∧ (ds.length ≤ (zipL ds es).length ∨ es.length ≤ (zipL ds es).length)
  | [], es => ⟨Nat.le_refl _, Nat.zero_le _, .inl (Nat.le_refl _)⟩
  | d :: ds, [] => ⟨Nat.zero_le _, Nat.le_refl _, .inr (Nat.le_refl _)⟩
  | d :: ds, e :: es => by
    obtain ⟨h1, h2, h3⟩ := zipL_len ds es
    show (zipL ds es).length + 1 ≤ ds.length + 1 ∧ (zipL ds es).length + 1 ≤ es.length + 1 ∧ (ds.length + 1 ≤ (zipL ds es).length + 1 ∨ es.length + 1 ≤ (zipL ds es).length + 1)
    omega
theorem zipL_at : ∀ (ds es : List D) (i : Nat) (d : D), (zipL ds es)[i]? = some d → ∃ x y, ds[i]? = some x ∧ es[i]? = some y ∧ d = .tup [x, y]
  | [], es, i, d, h => by simp [zipL] at h
  | x :: ds, [], i, d, h => by simp [zipL] at h
  | x :: ds, y :: es, 0, d, h => by
    have h : some (D.tup [x, y]) = some d := h
    cases h
    exact ⟨x, y, rfl, rfl, rfl⟩
  | x :: ds, y :: es, i + 1, d, h => by
    have h : (zipL ds es)[i]? = some d := h
    exact zipL_at ds es i d h
theorem walk_zip {t u : Bool} (h : SqA t k.K F a xs) (r : Reps k F xs ds) (h' : SqA u k.K F b ys) (r' : Reps k F ys es) : Walk k (ItzA t u k.K a b) F (zipL ds es) where
  stop := fun F' H s1 s2 => ⟨xs, ys, SqA_sub s2 (SqA_sub s1 h), SqA_sub s2 (SqA_sub s1 h'), by
    rw [r.length, r'.length]
    obtain ⟨z1, z2, z3⟩ := zipL_len ds es
    exact ⟨z1, z2, by omega⟩⟩
  go := fun i F' H s1 s2 hi => by
    obtain ⟨z1, z2, _⟩ := zipL_len ds es
    exact ⟨xs, ys, xs[i]'(by rw [r.length]; omega), ys[i]'(by rw [r'.length]; omega), SqA_sub s2 (SqA_sub s1 h), SqA_sub s2 (SqA_sub s1 h'), by rw [List.getElem?_eq_getElem], by rw [List.getElem?_eq_getElem]⟩
  yld := fun i d F' H v H' s1 s2 hd y => by
    obtain ⟨T, x, y, rfl, hT, rfl, y1, y2⟩ := y
    obtain ⟨e, e', h1, h1', rfl⟩ := zipL_at _ _ _ _ hd
    obtain ⟨u, h2, h3⟩ := r.get h1
    obtain ⟨u', h2', h3'⟩ := r'.get h1'
    have z1 := y1 xs (SqA_sub s2 (SqA_sub s1 h))
    have z2 := y2 ys (SqA_sub s2 (SqA_sub s1 h'))
    rw [h2] at z1
    rw [h2'] at z2
    cases z1
    cases z2
    exact ⟨_, new_tup s2 hT (.cons (h3.mono s1) (.cons (h3'.mono s1) .nil))⟩
end
/-! ### iterables -/
def itsF (i : Ik) (fs : List (Env → R (Pv × Env))) (ρ : Env) : R (List D × Env) := (seqF fs ρ).bind fun r => (frzs r.1).bind fun ds => (i.its ds).bind fun its => .ok (its, r.2)
def tI (k : Kx) (E : XK) (f : Env → R (List D × Env)) : TI := fun σ H R => ∃ F ρ, Okk k F σ H ρ ∧ Post k E F H σ ρ (f ρ) fun its ρ' F' H' => ∀ J, Walk k J F' its → R J H'
theorem pi_weak {X : Cx} {tg e : Expr} {t t' : TI} (h : PI X tg e t) (w : ∀ σ H R, t' σ H R → t σ H R) : PI X tg e t' := ⟨fun pins s σ H R I q => h.run pins s σ H R I (w σ H R q)⟩
theorem its_noexc (i : Ik) (ds : List D) (c : Nat) (gs : List (Nat × D)) : i.its ds ≠ .exc c gs := by
  intro h
  unfold Ik.its at h
  split at h
  · split at h <;> cases h
  · split at h <;> cases h
  · cases h
  · cases h
  · split at h <;> cases h
  · split at h
    · split at h <;> cases h
    · cases h
  · cases h
section
variable {X : Cx} {k : Kx} {g : G} {c : Cs} {n : Nat} {E : XK}
/-- behind the operands of a walk -/
theorem runI {i : Ik} {fs : List (Env → R (Pv × Env))} {σ : St} {H : Hp} {Rq : It → Hp → Prop} (h : tI k E (itsF i fs) σ H Rq) :
    tA k E (seqF fs) σ H fun vs H1 => ∃ F1 ρ1 ds its, Okk k F1 σ H1 ρ1 ∧ Reps k F1 vs ds ∧ i.its ds = .ok its ∧ ∀ J, Walk k J F1 its → Rq J H1 := by
  obtain ⟨F, ρ, K1, p⟩ := h
  refine ⟨F, ρ, K1, ?_⟩
  unfold itsF at p
  refine p.split.mono fun xs ρ1 F1 H1 K2 f1 p1 vs hv => ?_
  obtain ⟨ds, h1, p2⟩ := Post.frzs p1
  rcases p2.look with ⟨its, h2, p3⟩ | ⟨_, _, z⟩
  · exact ⟨F1, ρ1, ds, its, K2, frzs_rep hv h1, h2, p3.here K2⟩
  · exact absurd z (its_noexc _ _ _ _)
theorem lims_of {i : Int} (h : lims i = true) : -(2 ^ 62) ≤ i ∧ i < 2 ^ 62 := by
  unfold lims at h
  rw [Bool.and_eq_true, decide_eq_true_eq, decide_eq_true_eq] at h
  exact h
theorem starOne {e : Expr} {env : PySem.Env} (h : notStar e = true) : starEach [e] env = [(false, eval e env)] := by
  rw [starEach_plain h]
  rfl
theorem reps1 {F : Hp} {vs : List V} {d : D} (h : Reps k F vs [d]) : ∃ v, vs = [v] ∧ Rep k F v d := by
  cases h with
  | cons h r => cases r; exact ⟨_, rfl, h⟩
theorem reps2 {F : Hp} {vs : List V} {d e : D} (h : Reps k F vs [d, e]) : ∃ v u, vs = [v, u] ∧ Rep k F v d ∧ Rep k F u e := by
  cases h with
  | cons h r =>
    cases r with
    | cons h' r => cases r; exact ⟨_, _, rfl, h, h'⟩
theorem reps_len {F : Hp} {vs : List V} {ds : List D} {m : Nat} (h : Reps k F vs ds) (hl : vs.length = m) : ds.length = m := by rw [← h.length]; exact hl
theorem seqF_len : ∀ {fs : List (Env → R (Pv × Env))} {ρ ρ' : Env} {ps : List Pv}, seqF fs ρ = .ok (ps, ρ') → ps.length = fs.length
  | [], ρ, ρ', ps, h => by cases h; rfl
  | f :: fs, ρ, ρ', ps, h => by
    obtain ⟨x, _, h⟩ := bind_ok h
    obtain ⟨r, h1, h⟩ := bind_ok h
    cases h
    show r.1.length + 1 = _
    rw [seqF_len h1]
    rfl
theorem frzs_len : ∀ {ps : List Pv} {ds : List D}, frzs ps = .ok ds → ds.length = ps.length
  | [], ds, h => by cases h; rfl
  | .inl d :: ps, ds, h => by
    obtain ⟨r, h1, h⟩ := bind_ok h
    cases h
    show r.length + 1 = _
    rw [frzs_len h1]
    rfl
  | .inr j :: ps, ds, h => by cases h
theorem tA_mono2 {fs : List (Env → R (Pv × Env))} {σ : St} {H : Hp} {P P' : List V → Hp → Prop} (h : tA k E (seqF fs) σ H P) (m : ∀ vs H1, vs.length = fs.length → P vs H1 → P' vs H1) : tA k E (seqF fs) σ H P' := by
  obtain ⟨F, ρ, K1, p⟩ := h
  refine ⟨F, ρ, K1, ?_⟩
  cases q : seqF fs ρ with
  | ok r =>
    obtain ⟨ps, ρ1⟩ := r
    rw [q] at p
    intro F1 H1 K2 f1 vs hv
    refine m vs H1 ?_ (p F1 H1 K2 f1 vs hv)
    have : ∀ {vs : List V} {ps : List Pv}, PvRs k F1 σ vs ps → vs.length = ps.length := fun {vs ps} h => by
      induction h with
      | nil => rfl
      | cons _ _ ih => exact congrArg (· + 1) ih
    rw [this hv, seqF_len q]
  | exc c gs => rw [q] at p; exact p
  | stuck => rw [q] at p; exact p
theorem pi_rng1X (x : XOk X k g c n E) {tg a : Expr} {p pos : Pos} {fs : List (Env → R (Pv × Env))} (hg : glB c.sc "range" = true) (h : PCs X k E [a] fs) : PI X tg (.Call (.Name "range" p) [a] [] pos) (tI k E (itsF .rng fs)) := by
  have hp := h.plain
  rw [List.all_cons, Bool.and_eq_true] at hp
  have hl : fs.length = 1 := by
    cases h with
    | cons _ _ h => cases h; rfl
  refine pi_weak (pi_range1 (gl_of x hg) (blt_mem x (by decide +kernel)) h.pa (starOne hp.1)) fun σ H Rq q => ?_
  refine tA_mono2 (runI q) fun vs H1 hlen ⟨F1, ρ1, ds, its, K1, r, hi, w⟩ => ?_
  have hd := reps_len r (hlen.trans hl)
  match ds, hd with
  | [d], _ =>
    obtain ⟨v, rfl, rv⟩ := reps1 r
    cases d with
    | int j =>
      have hi' : (if lims j then (R.ok (rngL 0 j) : R (List D)) else .stuck) = .ok its := hi
      by_cases hj : lims j = true
      · rw [if_pos hj] at hi'
        cases hi'
        cases rv
        obtain ⟨z1, z2⟩ := lims_of hj
        have := w _ (walk_rng 0 j)
        rw [Int.sub_zero] at this
        exact ⟨j, rfl, z1, z2, this⟩
      · rw [if_neg hj] at hi'
        cases hi'
    | _ => cases hi
theorem pi_rng2X (x : XOk X k g c n E) {tg a b : Expr} {p pos : Pos} {fs : List (Env → R (Pv × Env))} (hg : glB c.sc "range" = true) (h : PCs X k E [a, b] fs) : PI X tg (.Call (.Name "range" p) [a, b] [] pos) (tI k E (itsF .rng fs)) := by
  have hp := h.plain
  rw [List.all_cons, Bool.and_eq_true, List.all_cons, Bool.and_eq_true] at hp
  have hl : fs.length = 2 := by
    cases h with
    | cons _ _ h =>
      cases h with
      | cons _ _ h => cases h; rfl
  refine pi_weak (pi_range2 (gl_of x hg) (blt_mem x (by decide +kernel)) h.pa (by rw [starEach_plain hp.1, starOne hp.2.1]) (starOne hp.2.1)) fun σ H Rq q => ?_
  refine tA_mono2 (runI q) fun vs H1 hlen ⟨F1, ρ1, ds, its, K1, r, hi, w⟩ => ?_
  have hd := reps_len r (hlen.trans hl)
  match ds, hd with
  | [d, e], _ =>
    obtain ⟨v, u, rfl, rv, ru⟩ := reps2 r
    cases d with
    | int i =>
      cases e with
      | int j =>
        have hi' : (if lims i && lims j then (R.ok (rngL i j) : R (List D)) else .stuck) = .ok its := hi
        by_cases hj : (lims i && lims j) = true
        · rw [if_pos hj] at hi'
          cases hi'
          cases rv
          cases ru
          rw [Bool.and_eq_true] at hj
          obtain ⟨z1, z2⟩ := lims_of hj.1
          obtain ⟨z3, z4⟩ := lims_of hj.2
          exact ⟨i, j, rfl, ⟨z1, z2, z3, z4⟩, w _ (walk_rng i j)⟩
        · rw [if_neg hj] at hi'
          cases hi'
      | _ => cases hi
    | _ => cases hi
theorem pi_enmX (x : XOk X k g c n E) {a : Expr} {p pos tpos : Pos} {elts : List Expr} {kk : Nat} {fs : List (Env → R (Pv × Env))} (hg : glB c.sc "enumerate" = true) (h : PCs X k E [a] fs) : PI X (.Tuple elts kk tpos) (.Call (.Name "enumerate" p) [a] [] pos) (tI k E (itsF .enm fs)) := by
  have hp := h.plain
  rw [List.all_cons, Bool.and_eq_true] at hp
  have hl : fs.length = 1 := by
    cases h with
    | cons _ _ h => cases h; rfl
  refine pi_weak (pi_enumA (gl_of x hg) (blt_mem x (by decide +kernel)) h.pa (starOne hp.1)) fun σ H Rq q => ?_
  refine tA_mono2 (runI q) fun vs H1 hlen ⟨F1, ρ1, ds, its, K1, r, hi, w⟩ => ?_
  have hd := reps_len r (hlen.trans hl)
  match ds, hd with
  | [d], _ =>
    obtain ⟨v, rfl, rv⟩ := reps1 r
    have hi' : (match d.sq with | some xs => R.ok (enumL xs 0) | none => .stuck) = .ok its := hi
    cases q : d.sq with
    | none => rw [q] at hi'; cases hi'
    | some es =>
      rw [q] at hi'
      cases hi'
      obtain ⟨a, t, xs, rfl, h1, h2⟩ := rep_sq rv q
      refine ⟨a, xs, t, rfl, by rw [x.gk.kK]; exact SqA_sub K1.sub h1, ?_⟩
      have := w _ (walk_enm h1 h2)
      rw [← x.gk.kK] at this
      exact this
theorem pi_zipX (x : XOk X k g c n E) {a b : Expr} {p pos tpos : Pos} {elts : List Expr} {kk : Nat} {fs : List (Env → R (Pv × Env))} (hg : glB c.sc "zip" = true) (h : PCs X k E [a, b] fs) : PI X (.Tuple elts kk tpos) (.Call (.Name "zip" p) [a, b] [] pos) (tI k E (itsF .zip fs)) := by
  have hp := h.plain
  have hp2 := hp
  rw [List.all_cons, Bool.and_eq_true] at hp
  have hl : fs.length = 2 := by
    cases h with
    | cons _ _ h =>
      cases h with
      | cons _ _ h => cases h; rfl
  refine pi_weak (pi_zipB (gl_of x hg) (blt_mem x (by decide +kernel)) h.pa (starEach_plain hp.1) (noStars hp.2)) fun σ H Rq q => ?_
  refine tA_mono2 (runI q) fun vs H1 hlen ⟨F1, ρ1, ds, its, K1, r, hi, w⟩ => ?_
  have hd := reps_len r (hlen.trans hl)
  match ds, hd with
  | [d, e], _ =>
    obtain ⟨v, u, rfl, rv, ru⟩ := reps2 r
    have hi' : (match d.sq with | some xs => (match e.sq with | some ys => R.ok (zipL xs ys) | none => .stuck) | none => .stuck) = .ok its := hi
    cases q : d.sq with
    | none => rw [q] at hi'; cases hi'
    | some es =>
      cases q2 : e.sq with
      | none => rw [q, q2] at hi'; cases hi'
      | some es' =>
        rw [q, q2] at hi'
        cases hi'
        obtain ⟨a, t, xs, rfl, h1, h2⟩ := rep_sq rv q
        obtain ⟨b, t', ys, rfl, h1', h2'⟩ := rep_sq ru q2
        refine ⟨a, b, xs, ys, t, t', rfl, by rw [x.gk.kK]; exact SqA_sub K1.sub h1, by rw [x.gk.kK]; exact SqA_sub K1.sub h1', ?_⟩
        have := w _ (walk_zip h1 h2 h1' h2')
        rw [← x.gk.kK] at this
        exact this
/-- a list or a tuple -/
theorem pi_seqX (x : XOk X k g c n E) {tg a : Expr} {f : Env → R (Pv × Env)} (ha : PE X a (tP k E f)) : PI X tg a (tI k E (itsF .seq [f])) := by
  refine pi_weak (pi_any (ι := Bool) (t := fun b => if b then iList X.K (tP k E f) else iTup X.K (tP k E f)) fun b => by cases b; exact pi_tup ha; exact pi_list ha) fun σ H Rq q => ?_
  obtain ⟨F, ρ, K1, p⟩ := q
  have p : Post k E F H σ ρ ((seqF [f] ρ).bind fun r => (frzs r.1).bind fun ds => (Ik.seq.its ds).bind fun its => .ok (its, r.2)) _ := p
  have e0 : seqF [f] ρ = (f ρ).bind fun x => .ok ([x.1], x.2) := by
    show ((f ρ).bind fun x => (R.ok ([], x.2)).bind fun r => .ok (x.1 :: r.1, r.2)) = _
    rfl
  rw [e0, R.assoc] at p
  cases q : f ρ with
  | exc c gs =>
    refine ⟨true, F, ρ, K1, ?_⟩
    rw [q] at p ⊢
    exact p
  | stuck => rw [q] at p; exact p.elim
  | ok r =>
    obtain ⟨pv, ρ1⟩ := r
    rw [q] at p
    cases pv with
    | inr j => exact p.elim
    | inl d =>
      cases d with
      | lst es =>
        refine ⟨true, F, ρ, K1, ?_⟩
        rw [q]
        intro F1 H1 K2 f1 v hv
        cases hv with
        | @lst a xs _ h1 h2 =>
          refine ⟨a, rfl, ⟨xs, .inl (Rd_sub K2.sub h1)⟩, ?_⟩
          have := p F1 H1 K2 f1 _ (walk_lst h1 h2)
          rw [← x.gk.kK] at this
          exact this
      | tup es =>
        refine ⟨false, F, ρ, K1, ?_⟩
        rw [q]
        intro F1 H1 K2 f1 v hv
        cases hv with
        | @tup a xs _ h1 h2 =>
          refine ⟨a, rfl, ⟨xs, by rw [x.gk.kK]; exact SqT_sub K2.sub h1⟩, ?_⟩
          have := p F1 H1 K2 f1 _ (walk_tup h1 h2)
          rw [← x.gk.kK] at this
          exact this
      | _ => exact p.elim
end
end Rx

set_option Elab.async false
set_option linter.all false
set_option maxRecDepth 100000
/-! Rx12: targets; list comprehensions. -/
namespace Rx
open PySem PySem.Spec PyProof.Rows L2
/-! ### stores -/
/-- what a store leaves -/
structure GoT (k : Kx) (lk : Nat → Bool) (F H : Hp) (σ : St) (ρ : Env) (F' H' : Hp) (σ' : St) (ρ' : Env) : Prop where
  ok : Okk k F' σ' H' ρ'
  fr : Fr F σ H ρ F' σ' H' ρ'
  lk : ∀ (i : Nat), lk i = true → σ'[i]? = σ[i]?
  own : ∀ (i : Nat), isOwn ρ'[i]?.join = true → isOwn ρ[i]?.join = true ∧ σ'[i]? = σ[i]?
  len : σ'.length = σ.length
theorem GoT.refl {k : Kx} {lk : Nat → Bool} {F H : Hp} {σ : St} {ρ : Env} (K1 : Okk k F σ H ρ) : GoT k lk F H σ ρ F H σ ρ := ⟨K1, .refl, fun _ _ => rfl, fun _ h => ⟨h, rfl⟩, rfl⟩
theorem GoT.trans {k : Kx} {lk : Nat → Bool} {F H F1 H1 F2 H2 : Hp} {σ σ1 σ2 : St} {ρ ρ1 ρ2 : Env} (a : GoT k lk F H σ ρ F1 H1 σ1 ρ1) (b : GoT k lk F1 H1 σ1 ρ1 F2 H2 σ2 ρ2) : GoT k lk F H σ ρ F2 H2 σ2 ρ2 :=
  ⟨b.ok, a.fr.trans b.fr, fun i h => (b.lk i h).trans (a.lk i h), fun i h => let ⟨h1, e1⟩ := b.own i h; let ⟨h2, e2⟩ := a.own i h1; ⟨h2, e1.trans e2⟩, b.len.trans a.len⟩
def tG (k : Kx) (lk : Nat → Bool) (t : Tg) : TG := fun v σ H Q => ∃ F ρ d ρ', Okk k F σ H ρ ∧ Rep k F v d ∧ t.put lk d ρ = .ok ρ' ∧ ∀ F' σ' H', GoT k lk F H σ ρ F' H' σ' ρ' → Q σ' H'
def tGs (k : Kx) (lk : Nat → Bool) (ts : Tgs) : TGs := fun vs σ H Q => ∃ F ρ ds ρ', Okk k F σ H ρ ∧ Reps k F vs ds ∧ Tgs.put lk ts ds ρ = .ok ρ' ∧ ∀ F' σ' H', GoT k lk F H σ ρ F' H' σ' ρ' → Q σ' H'
section
variable {k : Kx} {F H F' H' : Hp} {σ : St} {ρ : Env} {v : V} {d : D} {i : Nat} {lk : Nat → Bool}
theorem isOwn_some {o : Option Sl} (h : isOwn o = true) : ∃ d, o = some (.own d) := by
  cases o with
  | none => cases h
  | some s =>
    cases s with
    | frz d => cases h
    | own d => exact ⟨d, rfl⟩
theorem join_some {α : Type} {o : Option (Option α)} {a : α} (h : o.join = some a) : o = some (some a) := by
  cases o with
  | none => cases h
  | some o => cases o with
    | none => cases h
    | some b => cases h; rfl
theorem own_at {m : Nat} (h : isOwn ρ[m]?.join = true) : ∃ d, ρ[m]? = some (some (Sl.own d)) := by
  obtain ⟨d, e⟩ := isOwn_some h
  exact ⟨d, join_some e⟩
theorem not_ow_setf {b : Addr} (h : ¬ Ow σ ρ b) : ¬ Ow (σ.set i (some v)) (ρ.set i (some (Sl.frz d))) b := by
  rintro ⟨j, e, h1, h2⟩
  by_cases hj : j = i
  · subst hj
    by_cases hl : j < ρ.length
    · rw [List.getElem?_set_self hl] at h1; cases h1
    · rw [List.getElem?_eq_none (by rw [List.length_set]; exact Nat.le_of_not_lt hl)] at h1; cases h1
  · rw [List.getElem?_set_ne (Ne.symm hj)] at h1 h2
    exact h ⟨j, e, h1, h2⟩
theorem okk_setf (K1 : Okk k F σ H ρ) (r : Rep k F v d) (hi : i < ρ.length) : Okk k F (σ.set i (some v)) H (ρ.set i (some (.frz d))) := by
  refine ⟨K1.sub, by rw [List.length_set, List.length_set]; exact K1.len, fun j s h => ?_, fun j j' a d1 d2 h1 h2 h3 h4 => ?_, K1.tabs, K1.fnt⟩
  · by_cases hj : j = i
    · subst hj
      rw [List.getElem?_set_self hi] at h
      cases h
      exact ⟨v, by rw [List.getElem?_set_self (by rw [← K1.len]; exact hi)], r⟩
    · rw [List.getElem?_set_ne (Ne.symm hj)] at h
      obtain ⟨u, h1, h2⟩ := K1.val j s h
      exact ⟨u, by rw [List.getElem?_set_ne (Ne.symm hj)]; exact h1, h2⟩
  · have f1 : ∀ {m : Nat} {e : D}, (ρ.set i (some (.frz d)))[m]? = some (some (Sl.own e)) → m ≠ i := fun {m e} h z => by subst z; rw [List.getElem?_set_self hi] at h; cases h
    have n1 := f1 h1
    have n2 := f1 h2
    rw [List.getElem?_set_ne (Ne.symm n1)] at h1 h3
    rw [List.getElem?_set_ne (Ne.symm n2)] at h2 h4
    exact K1.inj j j' a d1 d2 h1 h2 h3 h4
theorem got_setf (K1 : Okk k F σ H ρ) (r : Rep k F v d) (hi : i < ρ.length) (hk : lk i = false) : GoT k lk F H σ ρ F H (σ.set i (some v)) (ρ.set i (some (.frz d))) := by
  refine ⟨okk_setf K1 r hi, ⟨fun _ _ h => h, fun _ h => h, fun b o _ h1 h2 h3 => ⟨h1, h2, not_ow_setf h3⟩⟩, fun j hj => ?_, fun j hj => ?_, List.length_set ..⟩
  · have : j ≠ i := fun e => by subst e; rw [hk] at hj; cases hj
    rw [List.getElem?_set_ne (Ne.symm this)]
  · obtain ⟨e, he⟩ := own_at hj
    have : j ≠ i := fun z => by subst z; rw [List.getElem?_set_self hi] at he; cases he
    rw [List.getElem?_set_ne (Ne.symm this)] at he ⊢
    exact ⟨by rw [he]; rfl, rfl⟩
/-- a part of the owned thing at slot j is written -/
theorem okk_own {j : Nat} {a : Addr} {o : HO} {d e : D} (K1 : Okk k F σ H ρ) (hj : ρ[j]? = some (some (Sl.own d))) (ha : σ[j]? = some (some (V.ref a))) (hw : OwnR k F (upd H a o) a e) :
    GoT k lk F H σ ρ F (upd H a o) σ (ρ.set j (some (.own e))) := by
  have hl : j < ρ.length := (List.getElem?_eq_some_iff.mp hj).1
  obtain ⟨fa, o0, ho0⟩ := K1.ownAt ⟨j, d, hj, ha⟩
  have at' : ∀ {m : Nat} {d' : D}, (ρ.set j (some (.own e)))[m]? = some (some (Sl.own d')) → ∃ d'', ρ[m]? = some (some (Sl.own d'')) := fun {m d'} h => by
    by_cases hm : m = j
    · subst hm; exact ⟨d, hj⟩
    · rw [List.getElem?_set_ne (Ne.symm hm)] at h; exact ⟨d', h⟩
  have nw : ∀ {b}, ¬ Ow σ ρ b → ¬ Ow σ (ρ.set j (some (.own e))) b := fun {b} h ⟨m, d', h1, h2⟩ => by
    obtain ⟨d'', h3⟩ := at' h1
    exact h ⟨m, d'', h3, h2⟩
  refine ⟨⟨fun b u q => ?_, by rw [List.length_set]; exact K1.len, fun m s h => ?_, fun m m' b d1 d2 h1 h2 h3 h4 => ?_, TbS.updC ho0 (K1.ownNT ⟨j, d, hj, ha⟩ ho0).1 (K1.ownNT ⟨j, d, hj, ha⟩ ho0).2 _ K1.tabs, K1.fnt⟩, ⟨fun _ _ h => h, dom_upd (hw.nt upd_same).1, fun b u _ h1 h2 h3 => ?_⟩, fun _ _ => rfl, fun m h => ?_, rfl⟩
  · have : b ≠ a := fun z => by subst z; rw [fa] at q; cases q
    rw [upd_ne this]
    exact K1.sub b u q
  · by_cases hm : m = j
    · subst hm
      rw [List.getElem?_set_self hl] at h
      cases h
      exact ⟨_, ha, a, rfl, fa, hw⟩
    · rw [List.getElem?_set_ne (Ne.symm hm)] at h
      obtain ⟨u, h1, h2⟩ := K1.val m s h
      refine ⟨u, h1, ?_⟩
      cases s with
      | frz d => exact h2
      | own d' =>
        obtain ⟨b, rfl, z1, z2⟩ := h2
        have : b ≠ a := fun z => hm (K1.inj m j a d' d h hj (z ▸ h1) ha)
        exact ⟨b, rfl, z1, z2.heap fun w hw => by rw [upd_ne this]; exact hw⟩
  · obtain ⟨e1, q1⟩ := at' h1
    obtain ⟨e2, q2⟩ := at' h2
    exact K1.inj m m' b e1 e2 q1 q2 h3 h4
  · have : b ≠ a := fun z => h3 (z ▸ ⟨j, d, hj, ha⟩)
    exact ⟨by rw [upd_ne this]; exact h1, h2, nw h3⟩
  · obtain ⟨d', h'⟩ := own_at h
    obtain ⟨d'', h''⟩ := at' h'
    exact ⟨by rw [h'']; rfl, rfl⟩
end
section
variable {X : Cx} {k : Kx} {g : G} {c : Cs} {n : Nat} {E : XK} {lk : Nat → Bool}
theorem loc_of {c : Cs} {nm : Str} (h : locB c nm = true) : Loc c.sc nm ∧ (c.fn nm = true ∨ c.sc.names.lookup nm = some .local) := by
  unfold locB at h
  split at h
  · rename_i q; exact ⟨.inl q, .inr q⟩
  · rename_i q; exact ⟨.inr q, .inl h⟩
  · cases h
theorem pg_weak {tg : Expr} {t t' : TG} (h : PG X tg t) (w : ∀ v σ H Q, t' v σ H Q → t v σ H Q) : PG X tg t' := ⟨fun pins s σ H v u Q I r q => h.run pins s σ H v u Q I r (w v σ H Q q)⟩
theorem pgs_weak {ts : List Expr} {t t' : TGs} (h : PGs X ts t) (w : ∀ v σ H Q, t' v σ H Q → t v σ H Q) : PGs X ts t' := ⟨fun pins s σ H v u Q I r q => h.run pins s σ H v u Q I r (w v σ H Q q)⟩
theorem strB_d {i : Nat} {nm : Str} (x : XOk X k g c n E) (h : strB c i nm = true) : X.N[i]? = some nm ∧ Loc X.env.scope nm ∧ (X.fn nm = true ∨ X.env.scope.names.lookup nm = some .local) := by
  unfold strB at h
  rw [Bool.and_eq_true, Bool.and_eq_true] at h
  obtain ⟨h1, h2⟩ := loc_of h.1.2
  refine ⟨by rw [x.hN]; exact of_decide_eq_true h.1.1, by rw [x.sc]; exact h1, ?_⟩
  rcases h2 with h2 | h2
  · exact .inl (x.fn _ h2)
  · rw [x.sc]; exact .inr h2
theorem pg_varX (x : XOk X k g c n E) {i : Nat} {nm : Str} {pos : Pos} (h : strB c i nm = true) : PG X (.Name nm pos) (tG k lk (.var i)) := by
  obtain ⟨h1, h2, h3⟩ := strB_d x h
  refine pg_weak (pg_name x.nd h1 h2 h3) fun v σ H Q ⟨F, ρ, d, ρ', K1, r, hp, q⟩ => ?_
  unfold Tg.put at hp
  split at hp
  · cases hp
  · rename_i hk
    split at hp
    · rename_i hl
      cases hp
      exact q _ _ _ (got_setf K1 r hl (by simpa using hk))
    · cases hp
/-- o.f = value, as a store -/
theorem pg_attr {o : Expr} {f : Str} {pos : Pos} {to : TE} (ho : PE X o to) :
    PG X (.Attribute o f pos) (fun v σ H Q => to σ H fun y H1 => ∃ a C dx fs, y = .ref a ∧ H1 a = some (.ins C dx fs) ∧ Cls X.K C ∧ NoAttr X.K C f ∧ fs.length < 1000 ∧ Q σ (upd H1 a (.ins C dx (putF f v fs)))) := by
  refine ⟨fun pins s σ H v u Q I r h => ?_⟩
  show wpAny (model X.prog X.w) X.A (do
      let ov ← holding [u] (eval o X.env)
      standAt pos.atName
      holding [u, ov] (setAttr ov f u)
      release [u, ov] []) _ _ s
  refine wpAny_bind (wpAny_holding (thn (ho.run pins s σ H _ I h) fun ov s1 ⟨y, H1, I1, r1, a, C, dx, fs, e1, e2, e3, e4, e5, q1⟩ => ?_))
  subst e1
  obtain rfl : ov = Value.ref a := r1
  refine wpAny_bind (wpAny_standAt (wpAny_bind (wpAny_holding ?_)))
  exact setattr_ok I1 e2 e3 e4 e5 r fun s' I' => wpAny_release ⟨σ, _, I', q1⟩
theorem pg_fldX (x : XOk X k g c n E) {j f : Nat} {on nm : Str} {p pos : Pos} (h : varB c j on = true) (hf : c.tb.nm[f]? = some nm) (hfl : ∀ c', g.mth c' f = none) : PG X (.Attribute (.Name on p) nm pos) (tG k lk (.fld j f)) := by
  refine pg_weak (pg_attr (pe_varX x h)) fun v σ H Q ⟨F, ρ, d, ρ', K1, r, hp, q⟩ => ?_
  unfold Tg.put at hp
  split at hp
  · rename_i cc gs hs
    split at hp
    · rename_i hz
      cases hp
      obtain ⟨u, h1, a, rfl, fa, C, dx, fs, h2, h3, h4⟩ := K1.val j _ hs
      have hnd : k.nm.Nodup := by rw [x.gk.nmE]; exact x.gk.nd
      refine ⟨_, h1, a, C, dx, fs, rfl, h2, (x.gk.clsF _ C h3).cl, x.gk.fld _ C f nm [] .non h3 hf (hfl _), by rw [h4.length]; exact hz, ?_⟩
      exact q _ _ _ (okk_own K1 hs h1 ⟨C, dx, _, upd_same, h3, h4.put hnd (by rw [x.gk.nmE]; exact hf) r⟩)
    · cases hp
  · cases hp
theorem pgs_nilX : PGs X [] (tGs k lk .nil) := pgs_weak pgs_nil fun vs σ H Q ⟨F, ρ, ds, ρ', K1, r, hp, q⟩ => by
  cases r with
  | nil =>
    cases hp
    exact ⟨rfl, q _ _ _ (.refl K1)⟩
  | cons _ _ => cases hp
def notStarT : Expr → Bool
  | .Starred _ _ => false
  | _ => true
theorem assignEach_plain {e : Expr} {es : List Expr} {env : PySem.Env} (h : notStarT e = true) : assignEach (e :: es) env = (false, assign e env) :: assignEach es env := by
  cases e <;> first | rfl | (simp [notStarT] at h)
theorem pgs_consX {e : Expr} {es : List Expr} {t : Tg} {ts : Tgs} (hn : notStarT e = true) (h1 : PG X e (tG k lk t)) (h2 : PGs X es (tGs k lk ts)) : PGs X (e :: es) (tGs k lk (.cons t ts)) := by
  refine pgs_weak (pgs_cons h1 h2 (by rw [assignEach_plain hn]; rfl)) fun vs σ H Q ⟨F, ρ, ds, ρ', K1, r, hp, q⟩ => ?_
  cases r with
  | nil => cases hp
  | cons h r =>
    obtain ⟨ρ1, e1, e2⟩ := bind_ok hp
    refine ⟨_, _, rfl, F, ρ, _, ρ1, K1, h, e1, fun F1 σ1 H1 z1 => ⟨F1, ρ1, _, ρ', z1.ok, r.mono z1.fr.ext, e2, fun F2 σ2 H2 z2 => q _ _ _ (z1.trans z2)⟩⟩
theorem assignEach_len {env : PySem.Env} : ∀ {es : List Expr}, es.all notStarT = true → (assignEach es env).length = es.length ∧ (assignEach es env).findIdx? (·.1) = none
  | [], _ => ⟨rfl, rfl⟩
  | e :: es, h => by
    rw [List.all_cons, Bool.and_eq_true] at h
    obtain ⟨h1, h2⟩ := assignEach_len (env := env) h.2
    rw [assignEach_plain h.1]
    refine ⟨congrArg (· + 1) h1, ?_⟩
    rw [List.findIdx?_cons]
    simp [h2]
def Tgs.len : Tgs → Nat
  | .nil => 0
  | .cons _ ts => ts.len + 1
theorem put_len {lk : Nat → Bool} : ∀ {ts : Tgs} {ds : List D} {ρ ρ' : Env}, Tgs.put lk ts ds ρ = .ok ρ' → ds.length = ts.len
  | .nil, [], _, _, _ => rfl
  | .nil, _ :: _, _, _, h => by cases h
  | .cons _ _, [], _, _, h => by cases h
  | .cons t ts, d :: ds, ρ, ρ', h => by
    obtain ⟨ρ1, _, e2⟩ := bind_ok h
    exact congrArg (· + 1) (put_len e2)
theorem pg_or {X : Cx} {e : Expr} {t u : TG} (h : PG X e t) (h' : PG X e u) : PG X e fun v σ H Q => t v σ H Q ∨ u v σ H Q := ⟨fun pins s σ H v w Q I r q => by
  rcases q with q | q
  · exact h.run pins s σ H v w Q I r q
  · exact h'.run pins s σ H v w Q I r q⟩
theorem pg_tupX (x : XOk X k g c n E) {es : List Expr} {kk : Nat} {pos : Pos} {ts : Tgs} (hs : es.all notStarT = true) (hl : es.length = ts.len) (h : PGs X es (tGs k lk ts)) : PG X (.Tuple es kk pos) (tG k lk (.tup ts)) := by
  obtain ⟨h1, h2⟩ := assignEach_len (env := X.env) hs
  refine pg_weak (pg_or (pg_tup x.calm h (h1.trans hl) h2) (pg_lst x.calm h (h1.trans hl) h2)) fun v σ H Q ⟨F, ρ, d, ρ', K1, r, hp, q⟩ => ?_
  unfold Tg.put at hp
  split at hp
  · rename_i ds
    cases r with
    | @tup a xs _ hx rx =>
      exact .inl ⟨a, xs, rfl, by rw [x.gk.kK]; exact SqT_sub K1.sub hx, by rw [rx.length, put_len hp], F, ρ, ds, ρ', K1, rx, hp, q⟩
  · rename_i ds
    cases r with
    | @lst a xs _ hx rx =>
      exact .inr ⟨a, xs, rfl, .inl (Rd_sub K1.sub hx), by rw [rx.length, put_len hp], F, ρ, ds, ρ', K1, rx, hp, q⟩
  · cases hp
end
/-! ### names wiped, and back -/
section
variable {k : Kx} {F H F1 H1 : Hp} {σ : St} {ρ ρ1 : Env} {vs : List Nat}
theorem wipeE_length : ∀ (vs : List Nat) (ρ : Env), (wipeE ρ vs).length = ρ.length
  | [], _ => rfl
  | v :: vs, ρ => by
    show (wipeE (ρ.set v none) vs).length = _
    rw [wipeE_length vs, List.length_set]
theorem wipeE_out : ∀ {vs : List Nat} {ρ : Env} {i : Nat}, i ∉ vs → (wipeE ρ vs)[i]? = ρ[i]?
  | [], _, _, _ => rfl
  | v :: vs, ρ, i, h => by
    have h1 : v ≠ i := fun e => h (by rw [e]; exact List.mem_cons_self)
    have h2 : i ∉ vs := fun m => h (List.mem_cons_of_mem _ m)
    show (wipeE (ρ.set v none) vs)[i]? = _
    rw [wipeE_out h2, List.getElem?_set_ne h1]
theorem wipeE_none : ∀ {vs : List Nat} {ρ : Env} {i : Nat}, ρ[i]?.join = none → (wipeE ρ vs)[i]?.join = none
  | [], _, _, h => h
  | v :: vs, ρ, i, h => by
    show (wipeE (ρ.set v none) vs)[i]?.join = none
    refine wipeE_none ?_
    by_cases e : v = i
    · subst e
      by_cases hl : v < ρ.length
      · rw [List.getElem?_set_self hl]; rfl
      · rw [List.getElem?_eq_none (by rw [List.length_set]; exact Nat.le_of_not_lt hl)]; rfl
    · rw [List.getElem?_set_ne e]; exact h
theorem wipeE_in : ∀ {vs : List Nat} {ρ : Env} {i : Nat}, i ∈ vs → (wipeE ρ vs)[i]?.join = none
  | v :: vs, ρ, i, h => by
    show (wipeE (ρ.set v none) vs)[i]?.join = none
    by_cases e : v = i
    · subst e
      refine wipeE_none ?_
      by_cases hl : v < ρ.length
      · rw [List.getElem?_set_self hl]; rfl
      · rw [List.getElem?_eq_none (by rw [List.length_set]; exact Nat.le_of_not_lt hl)]; rfl
    · refine wipeE_in ?_
      rcases List.mem_cons.mp h with z | z
      · exact absurd z.symm e
      · exact z
theorem wipeE_some {i : Nat} {s : Sl} (h : (wipeE ρ vs)[i]? = some (some s)) : i ∉ vs ∧ ρ[i]? = some (some s) := by
  have hn : i ∉ vs := fun m => by
    have := wipeE_in (ρ := ρ) m
    rw [h] at this
    cases this
  exact ⟨hn, by rw [wipeE_out hn] at h; exact h⟩
theorem wipe_in : ∀ {vs : List Nat} {i : Nat}, i ∈ vs → i < σ.length → (wipe σ vs)[i]? = some none
  | v :: vs, i, h, hl => by
    show ((wipe σ vs).set v none)[i]? = _
    by_cases e : v = i
    · subst e
      rw [List.getElem?_set_self (by rw [wipe_length]; exact hl)]
    · rw [List.getElem?_set_ne e]
      refine wipe_in ?_ hl
      rcases List.mem_cons.mp h with z | z
      · exact absurd z.symm e
      · exact z
theorem wipe_ext {σ σ' : St} {vs : List Nat} (hl : σ'.length = σ.length) (h : ∀ i, i ∉ vs → σ'[i]? = σ[i]?) : wipe σ' vs = wipe σ vs := by
  apply List.ext_getElem?
  intro i
  by_cases hi : i ∈ vs
  · by_cases z : i < σ.length
    · rw [wipe_in hi z, wipe_in hi (by rw [hl]; exact z)]
    · rw [List.getElem?_eq_none (by rw [wipe_length, hl]; exact Nat.le_of_not_lt z), List.getElem?_eq_none (by rw [wipe_length]; exact Nat.le_of_not_lt z)]
  · rw [wipe_out hi, wipe_out hi, h i hi]
theorem ow_wipe {b : Addr} (h : Ow (wipe σ vs) (wipeE ρ vs) b) : Ow σ ρ b := by
  obtain ⟨i, d, h1, h2⟩ := h
  obtain ⟨hn, h1⟩ := wipeE_some h1
  exact ⟨i, d, h1, (wipe_some h2).1⟩
theorem okk_wipe (K1 : Okk k F σ H ρ) : Okk k F (wipe σ vs) H (wipeE ρ vs) := by
  refine ⟨K1.sub, by rw [wipeE_length, wipe_length]; exact K1.len, fun i s h => ?_, fun i j a d e h1 h2 h3 h4 => ?_, K1.tabs, K1.fnt⟩
  · obtain ⟨hn, h⟩ := wipeE_some h
    obtain ⟨v, h1, h2⟩ := K1.val i s h
    exact ⟨v, by rw [wipe_out hn]; exact h1, h2⟩
  · exact K1.inj i j a d e (wipeE_some h1).2 (wipeE_some h2).2 (wipe_some h3).1 (wipe_some h4).1
theorem restE_length : ∀ (vs : List Nat) (ρ0 ρ : Env), (restE ρ0 ρ vs).length = ρ.length
  | [], _, _ => rfl
  | v :: vs, ρ0, ρ => by
    show (restE ρ0 (ρ.set v _) vs).length = _
    rw [restE_length vs, List.length_set]
theorem restE_out : ∀ {vs : List Nat} {ρ0 ρ : Env} {i : Nat}, i ∉ vs → (restE ρ0 ρ vs)[i]? = ρ[i]?
  | [], _, _, _, _ => rfl
  | v :: vs, ρ0, ρ, i, h => by
    have h1 : v ≠ i := fun e => h (by rw [e]; exact List.mem_cons_self)
    have h2 : i ∉ vs := fun m => h (List.mem_cons_of_mem _ m)
    show (restE ρ0 (ρ.set v _) vs)[i]? = _
    rw [restE_out h2, List.getElem?_set_ne h1]
theorem restE_same : ∀ {vs : List Nat} {ρ0 ρ : Env} {i : Nat}, ρ[i]? = some (ρ0[i]?.join) → (restE ρ0 ρ vs)[i]? = some (ρ0[i]?.join)
  | [], _, _, _, h => h
  | v :: vs, ρ0, ρ, i, h => by
    show (restE ρ0 (ρ.set v _) vs)[i]? = _
    refine restE_same ?_
    by_cases e : v = i
    · subst e
      rw [List.getElem?_set_self (List.getElem?_eq_some_iff.mp h).1]
    · rw [List.getElem?_set_ne e]; exact h
theorem restE_in : ∀ {vs : List Nat} {ρ0 ρ : Env} {i : Nat}, i ∈ vs → i < ρ.length → (restE ρ0 ρ vs)[i]? = some (ρ0[i]?.join)
  | v :: vs, ρ0, ρ, i, h, hl => by
    show (restE ρ0 (ρ.set v _) vs)[i]? = _
    by_cases e : v = i
    · subst e
      refine restE_same ?_
      rw [List.getElem?_set_self hl]
    · refine restE_in ?_ (by rw [List.length_set]; exact hl)
      rcases List.mem_cons.mp h with z | z
      · exact absurd z.symm e
      · exact z
theorem restE_some {ρ0 : Env} {i : Nat} {s : Sl} (h : (restE ρ0 ρ vs)[i]? = some (some s)) : (i ∈ vs ∧ ρ0[i]? = some (some s)) ∨ (i ∉ vs ∧ (wipeE ρ vs)[i]? = some (some s)) := by
  by_cases hi : i ∈ vs
  · have hl : i < ρ.length := by
      have := (List.getElem?_eq_some_iff.mp h).1
      rw [restE_length] at this
      exact this
    rw [restE_in hi hl] at h
    exact .inl ⟨hi, join_some (Option.some.inj h)⟩
  · rw [restE_out hi] at h
    exact .inr ⟨hi, by rw [wipeE_out hi]; exact h⟩
/-- the block has run: the names around it are back -/
theorem rest_back (K2 : Okk k F1 σ H1 ρ1) (Kw : Okk k F (wipe σ vs) H (wipeE ρ vs)) (f : Fr F1 (wipe σ vs) H1 (wipeE ρ1 vs) F (wipe σ vs) H (wipeE ρ vs)) :
    Okk k F σ H (restE ρ1 ρ vs) ∧ Fr F1 σ H1 ρ1 F σ H (restE ρ1 ρ vs) ∧ ∀ b, H1 b = none → Ow σ (restE ρ1 ρ vs) b → Ow (wipe σ vs) (wipeE ρ vs) b := by
  have aside : ∀ {i : Nat} {d : D} {a : Addr}, i ∈ vs → ρ1[i]? = some (some (Sl.own d)) → σ[i]? = some (some (V.ref a)) → ∃ o, H1 a = some o ∧ H a = some o ∧ F a = none ∧ ¬ Ow (wipe σ vs) (wipeE ρ vs) a := fun {i d a} hi h1 h2 => by
    obtain ⟨fa, o, ho⟩ := K2.ownAt ⟨i, d, h1, h2⟩
    have no : ¬ Ow (wipe σ vs) (wipeE ρ1 vs) a := fun ⟨j, e, z1, z2⟩ => by
      obtain ⟨hj, z1⟩ := wipeE_some z1
      have := K2.inj j i a e d z1 h1 (wipe_some z2).1 h2
      exact hj (this ▸ hi)
    obtain ⟨q1, q2, q3⟩ := f.keep a o (K2.ownNT ⟨i, d, h1, h2⟩ ho).1 ho fa no
    exact ⟨o, ho, q1, q2, q3⟩
  refine ⟨⟨Kw.sub, by rw [restE_length, ← wipeE_length vs ρ, Kw.len, wipe_length], fun i s h => ?_, fun i j a d e h1 h2 h3 h4 => ?_, Kw.tabs, Kw.fnt⟩, ⟨f.ext, f.dom, fun b o nt q1 q2 q3 => ?_⟩, fun b hb ⟨i, d, h1, h2⟩ => ?_⟩
  · rcases restE_some h with ⟨hi, h⟩ | ⟨hi, h⟩
    · obtain ⟨v, h1, h2⟩ := K2.val i s h
      refine ⟨v, h1, ?_⟩
      cases s with
      | frz d => exact Rep.mono f.ext h2
      | own d =>
        obtain ⟨a, rfl, z1, z2⟩ := h2
        obtain ⟨o, y1, y2, y3, _⟩ := aside hi h h1
        exact ⟨a, rfl, y3, (z2.heap fun w hw => by rw [y1] at hw; cases hw; exact y2).mono f.ext⟩
    · obtain ⟨v, h1, h2⟩ := Kw.val i s h
      exact ⟨v, (wipe_some h1).1, h2⟩
  · rcases restE_some h1 with ⟨hi, q1⟩ | ⟨hi, q1⟩
    · rcases restE_some h2 with ⟨hj, q2⟩ | ⟨hj, q2⟩
      · exact K2.inj i j a d e q1 q2 h3 h4
      · obtain ⟨_, _, _, _, z⟩ := aside hi q1 h3
        exact absurd ⟨j, e, q2, by rw [wipe_out hj]; exact h4⟩ z
    · rcases restE_some h2 with ⟨hj, q2⟩ | ⟨hj, q2⟩
      · obtain ⟨_, _, _, _, z⟩ := aside hj q2 h4
        exact absurd ⟨i, d, q1, by rw [wipe_out hi]; exact h3⟩ z
      · exact Kw.inj i j a d e q1 q2 (by rw [wipe_out hi]; exact h3) (by rw [wipe_out hj]; exact h4)
  · obtain ⟨z1, z2, z3⟩ := f.keep b o nt q1 q2 fun z => q3 (ow_wipe z)
    refine ⟨z1, z2, fun ⟨i, d, y1, y2⟩ => ?_⟩
    rcases restE_some y1 with ⟨hi, y⟩ | ⟨hi, y⟩
    · exact q3 ⟨i, d, y, y2⟩
    · exact z3 ⟨i, d, y, by rw [wipe_out hi]; exact y2⟩
  · rcases restE_some h1 with ⟨hi, y⟩ | ⟨hi, y⟩
    · obtain ⟨_, o, ho⟩ := K2.ownAt ⟨i, d, y, h2⟩
      rw [hb] at ho
      cases ho
    · exact ⟨i, d, y, by rw [wipe_out hi]; exact h2⟩
end
/-! ### list comprehensions -/
def lcTurn (t : Tg) (vs : List Nat) (ft : Env → R (Bool × Env)) (fe : Env → R (Sl × Env)) (d : D) (ρ1 : Env) : R (Option D × Env) :=
  (Tg.put (fun i => !(vs.contains i)) t d (wipeE ρ1 vs)).bind fun ρ2 => (ft ρ2).bind fun b => if b.1 then (fe b.2).bind fun x => .ok (some x.1.d, x.2) else .ok (none, b.2)
def lcF (i : Ik) (fs : List (Env → R (Pv × Env))) (t : Tg) (vs : List Nat) (ft : Env → R (Bool × Env)) (fe : Env → R (Sl × Env)) (ρ : Env) : R (Sl × Env) :=
  (itsF i fs ρ).bind fun r => (lcL (lcTurn t vs ft fe) r.1 [] r.2).bind fun q => .ok (Sl.own (.lst q.1), restE r.2 q.2 vs)
theorem lcL_noexc {turn : D → Env → R (Option D × Env)} : ∀ {ds acc : List D} {ρ : Env} {c : Nat} {gs : List (Nat × D)}, lcL turn ds acc ρ ≠ .exc c gs
  | [], acc, ρ, c, gs, h => by cases h
  | d :: ds, acc, ρ, c, gs, h => by
    unfold lcL at h
    cases q : turn d ρ with
    | exc c' gs' => rw [q] at h; cases h
    | stuck => rw [q] at h; cases h
    | ok r =>
      rw [q] at h
      have h : (match r.1 with
        | some x => if acc.length < sizeLine then lcL turn ds (acc ++ [x]) r.2 else .stuck
        | none => lcL turn ds acc r.2) = R.exc c gs := h
      split at h
      · split at h
        · exact lcL_noexc h
        · cases h
      · exact lcL_noexc h
abbrev E0 : XK := fun _ _ _ => False
section
variable {k : Kx} {E : XK}
theorem post0 {α : Type} {F H : Hp} {σ : St} {ρ ρ' : Env} {a : α} {r : R (α × Env)} {P : α → Env → Hp → Hp → Prop} (e : r = .ok (a, ρ')) (h : ∀ F' H', Okk k F' σ H' ρ' → Fr F σ H ρ F' σ H' ρ' → P a ρ' F' H') : Post k E F H σ ρ r P := by
  subst e
  exact h
theorem lc_weak {i : Ik} {fs : List (Env → R (Pv × Env))} {t : Tg} {vs : List Nat} {ft : Env → R (Bool × Env)} {fe : Env → R (Sl × Env)} {σ : St} {H : Hp} {Q : VK} (q : tS k E (lcF i fs t vs ft fe) σ H Q) :
    tLc (tI k E (itsF i fs)) (tG k (fun i => !(vs.contains i)) t) (tT k E0 ft) (tF k E0 fe) vs σ H Q := by
  obtain ⟨F, ρ, K1, p⟩ := q
  refine ⟨F, ρ, K1, Post.mono (Post.split p) fun its ρ1 F1 H1 K2 f1 p1 J w D hD => ?_⟩
  cases ev : lcL (lcTurn t vs ft fe) its [] ρ1 with
  | exc c gs => exact absurd ev lcL_noexc
  | stuck =>
    have p1 : Post k E F1 H1 σ ρ1 ((lcL (lcTurn t vs ft fe) its [] ρ1).bind fun q => .ok (Sl.own (.lst q.1), restE ρ1 q.2 vs)) (fun s ρ' F' H' => ∀ v, RsR k F' H' σ ρ' H v s → Q v H') := p1
    rw [ev] at p1
    exact p1.elim
  | ok qe =>
    obtain ⟨dsr, ρe⟩ := qe
    have p1 : Post k E F1 H1 σ ρ1 ((lcL (lcTurn t vs ft fe) its [] ρ1).bind fun q => .ok (Sl.own (.lst q.1), restE ρ1 q.2 vs)) (fun s ρ' F' H' => ∀ v, RsR k F' H' σ ρ' H v s → Q v H') := p1
    rw [ev] at p1
    -- what holds ahead of turn j
    let LI : Nat → Hp → Prop := fun j Hh => ∃ F2 ρ2 acc accV, lcL (lcTurn t vs ft fe) (its.drop j) acc ρ2 = .ok (dsr, ρe) ∧ Okk k F2 (wipe σ vs) Hh (wipeE ρ2 vs) ∧ Fr F1 (wipe σ vs) H1 (wipeE ρ1 vs) F2 (wipe σ vs) Hh (wipeE ρ2 vs) ∧
      Hh D = some (.lst accV) ∧ Reps k F2 accV acc ∧ F2 D = none ∧ ¬ Ow (wipe σ vs) (wipeE ρ2 vs) D
    have fD : F1 D = none := none_of_sub K2.sub hD
    have Kw0 : Okk k F1 (wipe σ vs) H1 (wipeE ρ1 vs) := okk_wipe K2
    refine ⟨fun j m Hh => m = its.length - j ∧ j ≤ its.length ∧ LI j Hh, ⟨its.length, by simp, Nat.zero_le _, F1, ρ1, [], [], ev, ?_, ?_, upd_same, .nil, fD, not_ow_new Kw0 hD⟩, ?_⟩
    · exact Kw0.heap (fun b u q => by rw [upd_ne (ne_of_none (K2.sub b u q) hD)]; exact K2.sub b u q) (fun a o ha q => by rw [upd_ne (ne_of_none q hD)]; exact q) (.of fun b o q => by rw [upd_ne (ne_of_none q hD)]; exact q)
    · exact ⟨fun _ _ h => h, dom_upd (fun _ z => nomatch z), fun b o _ q1 q2 q3 => ⟨by rw [upd_ne (ne_of_none q1 hD)]; exact q1, q2, q3⟩⟩
    rintro j m Hh ⟨rfl, hj, F2, ρ2, acc, accV, hev, Kw, fw, hHD, racc, f2D, nowD⟩
    by_cases hlt : j < its.length
    · refine .inr ⟨w.go j F2 Hh fw.ext Kw.sub hlt, LI (j + 1), fun H' p' => ⟨its.length - (j + 1), by omega, rfl, hlt, p'⟩, fun x H' y => ?_⟩
      obtain ⟨F3, nw⟩ := w.yld j its[j] F2 Hh x H' fw.ext Kw.sub (List.getElem?_eq_getElem hlt) y
      obtain ⟨K3, f3, r3⟩ := Kw.new nw
      rw [List.drop_eq_getElem_cons hlt] at hev
      unfold lcL at hev
      obtain ⟨r, hr, hev⟩ := bind_ok hev
      have hr : lcTurn t vs ft fe its[j] ρ2 = .ok r := by
        cases z : lcTurn t vs ft fe its[j] ρ2 with
        | ok a => rw [z] at hr; exact hr
        | exc c gs => rw [z] at hr; cases hr
        | stuck => rw [z] at hr; cases hr
      obtain ⟨ρ3, h3, hr⟩ := bind_ok hr
      obtain ⟨⟨tb, ρ4⟩, h4, hr⟩ := bind_ok hr
      refine ⟨F3, _, its[j], ρ3, K3, r3, h3, fun F4 σ4 H4 z4 => ⟨?_, F4, ρ3, z4.ok, post0 h4 fun F5 H5 K5 f5 => ?_⟩⟩
      · have : wipe σ4 vs = wipe (wipe σ vs) vs := wipe_ext z4.len fun i hi => z4.lk i (by simpa using hi)
        rw [this]
        exact wipe_ext (wipe_length ..) fun i hi => wipe_out hi
      · have e4 : wipe σ4 vs = wipe σ vs := by
          have : wipe σ4 vs = wipe (wipe σ vs) vs := wipe_ext z4.len fun i hi => z4.lk i (by simpa using hi)
          rw [this]
          exact wipe_ext (wipe_length ..) fun i hi => wipe_out hi
        -- from the turn's start to a place in the turn
        have back : ∀ {F6 H6 : Hp} {ρ6 : Env}, Okk k F6 σ4 H6 ρ6 → Fr F4 σ4 H4 ρ3 F6 σ4 H6 ρ6 → Okk k F6 (wipe σ vs) H6 (wipeE ρ6 vs) ∧ Fr F2 (wipe σ vs) Hh (wipeE ρ2 vs) F6 (wipe σ vs) H6 (wipeE ρ6 vs) := fun {F6 H6 ρ6} K6 f6 => by
          have z := okk_wipe (vs := vs) K6
          rw [e4] at z
          refine ⟨z, (f3.trans (z4.fr.trans f6)).trans ⟨fun _ _ h => h, fun _ h => h, fun b o _ q1 q2 q3 => ⟨q1, q2, fun q => q3 (ow_wipe (vs := vs) (by rw [e4]; exact q))⟩⟩⟩
        have hr : (if tb = true then (fe ρ4).bind fun x => R.ok (some x.1.d, x.2) else R.ok (none, ρ4)) = R.ok r := hr
        cases tb with
        | false =>
          rw [if_neg Bool.false_ne_true] at hr
          show LI (j + 1) H5
          cases hr
          obtain ⟨z1, z2⟩ := back K5 f5
          obtain ⟨y1, y2, y3⟩ := z2.keep D (.lst accV) (fun ps z => (nomatch z)) hHD f2D nowD
          exact ⟨F5, ρ4, acc, accV, hev, z1, fw.trans z2, y1, racc.mono z2.ext, y2, y3⟩
        | true =>
          rw [if_pos rfl] at hr
          show tF k E0 fe σ4 H5 _
          obtain ⟨⟨xs, ρ5⟩, h5, hr⟩ := bind_ok hr
          cases hr
          refine ⟨F5, ρ4, K5, post0 h5 fun F6 H6 K6 f6 v rv => ?_⟩
          obtain ⟨z1, z2⟩ := back K6 (f5.trans f6)
          obtain ⟨y1, y2, y3⟩ := z2.keep D (.lst accV) (fun ps z => (nomatch z)) hHD f2D nowD
          have hev : (if acc.length < sizeLine then lcL (lcTurn t vs ft fe) (its.drop (j + 1)) (acc ++ [xs.d]) ρ5 else .stuck) = .ok (dsr, ρe) := hev
          split at hev
          · rename_i hz
            refine ⟨accV, y1, by rw [racc.length]; exact hz, F6, ρ5, acc ++ [xs.d], accV ++ [v], hev, ?_, ?_, upd_same, (racc.mono z2.ext).append (.cons rv .nil), y2, y3⟩
            · exact z1.heap (fun b u q => by
                have : b ≠ D := fun z => by rw [z, y2] at q; cases q
                rw [upd_ne this]
                exact z1.sub b u q) (fun a o ha q => by
                have : a ≠ D := fun z => y3 (z ▸ ha)
                rw [upd_ne this]
                exact q) (TbS.upd y1 (fun ps z => (nomatch z)) fun P z => (nomatch z))
            · have ft' := fw.trans z2
              exact ⟨ft'.ext, fun b hb => dom_upd (o := .lst (accV ++ [v])) (fun _ z => nomatch z) b (ft'.dom b hb), fun b o nt q1 q2 q3 => by
                obtain ⟨x1, x2, x3⟩ := ft'.keep b o nt q1 q2 q3
                exact ⟨by rw [upd_ne (ne_of_none q1 hD)]; exact x1, x2, x3⟩⟩
          · cases hev
    · have e : j = its.length := Nat.le_antisymm hj (Nat.le_of_not_lt hlt)
      subst e
      refine .inl ⟨w.stop F2 Hh fw.ext Kw.sub, ?_⟩
      rw [List.drop_length] at hev
      cases hev
      obtain ⟨z1, z2, z3⟩ := rest_back K2 Kw fw
      refine p1 F2 Hh z1 z2 (.ref D) ⟨D, rfl, f2D, ⟨accV, hHD, racc⟩, fun z => nowD (z3 D hD z), ?_⟩
      exact fun z => nz_none hD (f1.dom D z)
end
/-! ### dict comprehensions -/
def dcTurn (t : Tg) (vs : List Nat) (ft : Env → R (Bool × Env)) (fk fv : Env → R (Sl × Env)) (d : D) (ρ1 : Env) : R (Option (Kk × D) × Env) :=
  (Tg.put (fun i => !(vs.contains i)) t d (wipeE ρ1 vs)).bind fun ρ2 => (ft ρ2).bind fun b => if b.1 then (fk b.2).bind fun y => (R.of (keyD y.1.d)).bind fun kk => (fv y.2).bind fun z => .ok (some (kk, z.1.d), z.2) else .ok (none, b.2)
def dcF (i : Ik) (fs : List (Env → R (Pv × Env))) (t : Tg) (vs : List Nat) (ft : Env → R (Bool × Env)) (fk fv : Env → R (Sl × Env)) (ρ : Env) : R (Sl × Env) :=
  (itsF i fs ρ).bind fun r => (dcL (dcTurn t vs ft fk fv) r.1 [] r.2).bind fun q => .ok (Sl.own (.dic q.1), restE r.2 q.2 vs)
theorem dcL_noexc {turn : D → Env → R (Option (Kk × D) × Env)} : ∀ {ds : List D} {acc : List (Kk × D)} {ρ : Env} {c : Nat} {gs : List (Nat × D)}, dcL turn ds acc ρ ≠ .exc c gs
  | [], acc, ρ, c, gs, h => by cases h
  | d :: ds, acc, ρ, c, gs, h => by
    unfold dcL at h
    cases q : turn d ρ with
    | exc c' gs' => rw [q] at h; cases h
    | stuck => rw [q] at h; cases h
    | ok r =>
      rw [q] at h
      have h : (match r.1 with
        | some x => if acc.length < sizeLine then dcL turn ds (setK acc x.1 x.2) r.2 else .stuck
        | none => dcL turn ds acc r.2) = R.exc c gs := h
      split at h
      · split at h
        · exact dcL_noexc h
        · cases h
      · exact dcL_noexc h
theorem keyD_some {d : D} {kk : Kk} (h : keyD d = some kk) : (∃ i, d = .int i ∧ kk = .inl i) ∨ ∃ x, d = .str x ∧ kk = .inr x := by
  unfold keyD at h
  split at h
  · cases h; exact .inl ⟨_, rfl, rfl⟩
  · cases h; exact .inr ⟨_, rfl, rfl⟩
  · cases h
theorem rep_key {k : Kx} {F : Hp} {v : V} {d : D} {kk : Kk} (r : Rep k F v d) (h : keyD d = some kk) : v = kV kk := by
  rcases keyD_some h with ⟨i, rfl, rfl⟩ | ⟨x, rfl, rfl⟩ <;> cases r <;> rfl
section
variable {k : Kx} {E : XK}
theorem dc_weak {i : Ik} {fs : List (Env → R (Pv × Env))} {t : Tg} {vs : List Nat} {ft : Env → R (Bool × Env)} {fk fv : Env → R (Sl × Env)} {σ : St} {H : Hp} {Q : VK} (q : tS k E (dcF i fs t vs ft fk fv) σ H Q) :
    tDc (tI k E (itsF i fs)) (tG k (fun i => !(vs.contains i)) t) (tT k E0 ft) (tF k E0 fk) (tF k E0 fv) vs σ H Q := by
  obtain ⟨F, ρ, K1, p⟩ := q
  refine ⟨F, ρ, K1, Post.mono (Post.split p) fun its ρ1 F1 H1 K2 f1 p1 J w D hD => ?_⟩
  cases ev : dcL (dcTurn t vs ft fk fv) its [] ρ1 with
  | exc c gs => exact absurd ev dcL_noexc
  | stuck =>
    have p1 : Post k E F1 H1 σ ρ1 ((dcL (dcTurn t vs ft fk fv) its [] ρ1).bind fun q => .ok (Sl.own (.dic q.1), restE ρ1 q.2 vs)) (fun s ρ' F' H' => ∀ v, RsR k F' H' σ ρ' H v s → Q v H') := p1
    rw [ev] at p1
    exact p1.elim
  | ok qe =>
    obtain ⟨dsr, ρe⟩ := qe
    have p1 : Post k E F1 H1 σ ρ1 ((dcL (dcTurn t vs ft fk fv) its [] ρ1).bind fun q => .ok (Sl.own (.dic q.1), restE ρ1 q.2 vs)) (fun s ρ' F' H' => ∀ v, RsR k F' H' σ ρ' H v s → Q v H') := p1
    rw [ev] at p1
    -- what holds ahead of turn j
    let LI : Nat → Hp → Prop := fun j Hh => ∃ F2 ρ2 acc accV, dcL (dcTurn t vs ft fk fv) (its.drop j) acc ρ2 = .ok (dsr, ρe) ∧ Okk k F2 (wipe σ vs) Hh (wipeE ρ2 vs) ∧ Fr F1 (wipe σ vs) H1 (wipeE ρ1 vs) F2 (wipe σ vs) Hh (wipeE ρ2 vs) ∧
      Hh D = some (.dK accV) ∧ RepK k F2 accV acc ∧ F2 D = none ∧ ¬ Ow (wipe σ vs) (wipeE ρ2 vs) D
    have fD : F1 D = none := none_of_sub K2.sub hD
    have Kw0 : Okk k F1 (wipe σ vs) H1 (wipeE ρ1 vs) := okk_wipe K2
    refine ⟨fun j m Hh => m = its.length - j ∧ j ≤ its.length ∧ LI j Hh, ⟨its.length, by simp, Nat.zero_le _, F1, ρ1, [], [], ev, ?_, ?_, upd_same, .nil, fD, not_ow_new Kw0 hD⟩, ?_⟩
    · exact Kw0.heap (fun b u q => by rw [upd_ne (ne_of_none (K2.sub b u q) hD)]; exact K2.sub b u q) (fun a o ha q => by rw [upd_ne (ne_of_none q hD)]; exact q) (.of fun b o q => by rw [upd_ne (ne_of_none q hD)]; exact q)
    · exact ⟨fun _ _ h => h, dom_upd (fun _ z => nomatch z), fun b o _ q1 q2 q3 => ⟨by rw [upd_ne (ne_of_none q1 hD)]; exact q1, q2, q3⟩⟩
    rintro j m Hh ⟨rfl, hj, F2, ρ2, acc, accV, hev, Kw, fw, hHD, racc, f2D, nowD⟩
    by_cases hlt : j < its.length
    · refine .inr ⟨w.go j F2 Hh fw.ext Kw.sub hlt, LI (j + 1), fun H' p' => ⟨its.length - (j + 1), by omega, rfl, hlt, p'⟩, fun x H' y => ?_⟩
      obtain ⟨F3, nw⟩ := w.yld j its[j] F2 Hh x H' fw.ext Kw.sub (List.getElem?_eq_getElem hlt) y
      obtain ⟨K3, f3, r3⟩ := Kw.new nw
      rw [List.drop_eq_getElem_cons hlt] at hev
      unfold dcL at hev
      obtain ⟨r, hr, hev⟩ := bind_ok hev
      have hr : dcTurn t vs ft fk fv its[j] ρ2 = .ok r := by
        cases z : dcTurn t vs ft fk fv its[j] ρ2 with
        | ok a => rw [z] at hr; exact hr
        | exc c gs => rw [z] at hr; cases hr
        | stuck => rw [z] at hr; cases hr
      obtain ⟨ρ3, h3, hr⟩ := bind_ok hr
      obtain ⟨⟨tb, ρ4⟩, h4, hr⟩ := bind_ok hr
      refine ⟨F3, _, its[j], ρ3, K3, r3, h3, fun F4 σ4 H4 z4 => ⟨?_, F4, ρ3, z4.ok, post0 h4 fun F5 H5 K5 f5 => ?_⟩⟩
      · have : wipe σ4 vs = wipe (wipe σ vs) vs := wipe_ext z4.len fun i hi => z4.lk i (by simpa using hi)
        rw [this]
        exact wipe_ext (wipe_length ..) fun i hi => wipe_out hi
      · have e4 : wipe σ4 vs = wipe σ vs := by
          have : wipe σ4 vs = wipe (wipe σ vs) vs := wipe_ext z4.len fun i hi => z4.lk i (by simpa using hi)
          rw [this]
          exact wipe_ext (wipe_length ..) fun i hi => wipe_out hi
        -- from the turn's start to a place in the turn
        have back : ∀ {F6 H6 : Hp} {ρ6 : Env}, Okk k F6 σ4 H6 ρ6 → Fr F4 σ4 H4 ρ3 F6 σ4 H6 ρ6 → Okk k F6 (wipe σ vs) H6 (wipeE ρ6 vs) ∧ Fr F2 (wipe σ vs) Hh (wipeE ρ2 vs) F6 (wipe σ vs) H6 (wipeE ρ6 vs) := fun {F6 H6 ρ6} K6 f6 => by
          have z := okk_wipe (vs := vs) K6
          rw [e4] at z
          refine ⟨z, (f3.trans (z4.fr.trans f6)).trans ⟨fun _ _ h => h, fun _ h => h, fun b o _ q1 q2 q3 => ⟨q1, q2, fun q => q3 (ow_wipe (vs := vs) (by rw [e4]; exact q))⟩⟩⟩
        have hr : (if tb = true then (fk ρ4).bind fun y => (R.of (keyD y.1.d)).bind fun kk => (fv y.2).bind fun z => R.ok (some (kk, z.1.d), z.2) else R.ok (none, ρ4)) = R.ok r := hr
        cases tb with
        | false =>
          rw [if_neg Bool.false_ne_true] at hr
          show LI (j + 1) H5
          cases hr
          obtain ⟨z1, z2⟩ := back K5 f5
          obtain ⟨y1, y2, y3⟩ := z2.keep D (.dK accV) (fun ps z => (nomatch z)) hHD f2D nowD
          exact ⟨F5, ρ4, acc, accV, hev, z1, fw.trans z2, y1, racc.mono z2.ext, y2, y3⟩
        | true =>
          rw [if_pos rfl] at hr
          show tF k E0 fk σ4 H5 _
          obtain ⟨⟨xk, ρ5⟩, h5, hr⟩ := bind_ok hr
          obtain ⟨kk, hk, hr⟩ := bind_ok hr
          obtain ⟨⟨xv, ρ7⟩, h7, hr⟩ := bind_ok hr
          cases hr
          have hk : keyD xk.d = some kk := by
            cases z : keyD xk.d with
            | none => rw [show keyD (xk, ρ5).1.d = none from z] at hk; cases hk
            | some q => rw [show keyD (xk, ρ5).1.d = some q from z] at hk; cases hk; rfl
          refine ⟨F5, ρ4, K5, post0 h5 fun F6 H6 K6 f6 y ry => ⟨F6, ρ5, K6, post0 h7 fun F7 H7 K7 f7 v rv => ?_⟩⟩
          obtain ⟨z1, z2⟩ := back K7 ((f5.trans f6).trans f7)
          obtain ⟨y1, y2, y3⟩ := z2.keep D (.dK accV) (fun ps z => (nomatch z)) hHD f2D nowD
          have hev : (if acc.length < sizeLine then dcL (dcTurn t vs ft fk fv) (its.drop (j + 1)) (setK acc kk xv.d) ρ7 else .stuck) = .ok (dsr, ρe) := hev
          split at hev
          · rename_i hz
            refine ⟨accV, kk, rep_key ry hk, y1, by rw [racc.length]; exact hz, F7, ρ7, setK acc kk xv.d, putK accV kk v, hev, ?_, ?_, upd_same, (racc.mono z2.ext).put rv kk, y2, y3⟩
            · exact z1.heap (fun b u q => by
                have : b ≠ D := fun z => by rw [z, y2] at q; cases q
                rw [upd_ne this]
                exact z1.sub b u q) (fun a o ha q => by
                have : a ≠ D := fun z => y3 (z ▸ ha)
                rw [upd_ne this]
                exact q) (TbS.upd y1 (fun ps z => (nomatch z)) fun P z => (nomatch z))
            · have ft' := fw.trans z2
              exact ⟨ft'.ext, fun b hb => dom_upd (o := .dK (putK accV kk v)) (fun _ z => nomatch z) b (ft'.dom b hb), fun b o nt q1 q2 q3 => by
                obtain ⟨x1, x2, x3⟩ := ft'.keep b o nt q1 q2 q3
                exact ⟨by rw [upd_ne (ne_of_none q1 hD)]; exact x1, x2, x3⟩⟩
          · cases hev
    · have e : j = its.length := Nat.le_antisymm hj (Nat.le_of_not_lt hlt)
      subst e
      refine .inl ⟨w.stop F2 Hh fw.ext Kw.sub, ?_⟩
      rw [List.drop_length] at hev
      cases hev
      obtain ⟨z1, z2, z3⟩ := rest_back K2 Kw fw
      refine p1 F2 Hh z1 z2 (.ref D) ⟨D, rfl, f2D, ⟨accV, hHD, racc⟩, fun z => nowD (z3 D hD z), ?_⟩
      exact fun z => nz_none hD (f1.dom D z)
end
/-! ### two clauses -/
def lc2T (t : Tg) (vs : List Nat) (ft : Env → R (Bool × Env)) (fi : Env → R (List D × Env)) (t1 : Tg) (vs1 : List Nat) (ft1 : Env → R (Bool × Env)) (fe : Env → R (Sl × Env)) (d : D) (acc : List D) (ρ1 : Env) : R (List D × Env) :=
  (Tg.put (fun i => !(vs.contains i)) t d (wipeE ρ1 vs)).bind fun ρ2 => (ft ρ2).bind fun b => if b.1 then (fi b.2).bind fun r1 => lcL (lcTurn t1 vs1 ft1 fe) r1.1 acc r1.2 else .ok (acc, b.2)
def lc2F (i : Ik) (fs : List (Env → R (Pv × Env))) (t : Tg) (vs : List Nat) (ft : Env → R (Bool × Env)) (fi : Env → R (List D × Env)) (t1 : Tg) (vs1 : List Nat) (ft1 : Env → R (Bool × Env)) (fe : Env → R (Sl × Env)) (ρ : Env) : R (Sl × Env) :=
  (itsF i fs ρ).bind fun r => (lcM (lc2T t vs ft fi t1 vs1 ft1 fe) r.1 [] r.2).bind fun q => .ok (Sl.own (.lst q.1), restE r.2 q.2 vs)
theorem lcM_noexc {turn : D → List D → Env → R (List D × Env)} : ∀ {ds acc : List D} {ρ : Env} {c : Nat} {gs : List (Nat × D)}, lcM turn ds acc ρ ≠ .exc c gs
  | [], acc, ρ, c, gs, h => by cases h
  | d :: ds, acc, ρ, c, gs, h => by
    unfold lcM at h
    cases q : turn d acc ρ with
    | exc c' gs' => rw [q] at h; cases h
    | stuck => rw [q] at h; cases h
    | ok r =>
      rw [q] at h
      have h : lcM turn ds r.1 r.2 = R.exc c gs := h
      exact lcM_noexc h
theorem wipe_twice {σ : St} {vs vs1 : List Nat} (hv : ∀ i ∈ vs1, i ∈ vs) : wipe (wipe σ vs1) vs = wipe σ vs := wipe_ext (wipe_length ..) fun i hi => wipe_out fun z => hi (hv i z)
theorem wipeE_twice {ρ : Env} {vs vs1 : List Nat} (hv : ∀ i ∈ vs1, i ∈ vs) : wipeE (wipeE ρ vs1) vs = wipeE ρ vs := by
  apply List.ext_getElem?
  intro i
  by_cases hi : i ∈ vs
  · by_cases z : i < ρ.length
    · have e1 : (wipeE (wipeE ρ vs1) vs)[i]? = some none := by
        have h1 : i < (wipeE (wipeE ρ vs1) vs).length := by rw [wipeE_length, wipeE_length]; exact z
        have h2 := wipeE_in (ρ := wipeE ρ vs1) hi
        rw [List.getElem?_eq_getElem h1] at h2 ⊢
        exact congrArg some h2
      have e2 : (wipeE ρ vs)[i]? = some none := by
        have h1 : i < (wipeE ρ vs).length := by rw [wipeE_length]; exact z
        have h2 := wipeE_in (ρ := ρ) hi
        rw [List.getElem?_eq_getElem h1] at h2 ⊢
        exact congrArg some h2
      rw [e1, e2]
    · rw [List.getElem?_eq_none (by rw [wipeE_length, wipeE_length]; exact Nat.le_of_not_lt z), List.getElem?_eq_none (by rw [wipeE_length]; exact Nat.le_of_not_lt z)]
  · rw [wipeE_out hi, wipeE_out hi, wipeE_out fun z => hi (hv i z)]
section
variable {k : Kx} {E : XK}
theorem lc2_weak {i : Ik} {fs : List (Env → R (Pv × Env))} {t t1 : Tg} {vs vs1 : List Nat} {ft ft1 : Env → R (Bool × Env)} {fi : Env → R (List D × Env)} {fe : Env → R (Sl × Env)} {σ : St} {H : Hp} {Q : VK} (hv : ∀ i ∈ vs1, i ∈ vs) (q : tS k E (lc2F i fs t vs ft fi t1 vs1 ft1 fe) σ H Q) :
    tLc2 (tI k E (itsF i fs)) (tG k (fun i => !(vs.contains i)) t) (tT k E0 ft) (tI k E0 fi) (tG k (fun i => !(vs1.contains i)) t1) (tT k E0 ft1) (tF k E0 fe) vs vs1 σ H Q := by
  obtain ⟨F, ρ, K1, p⟩ := q
  refine ⟨F, ρ, K1, Post.mono (Post.split p) fun its ρ1 F1 H1 K2 f1 p1 J w D hD => ?_⟩
  have p1 : Post k E F1 H1 σ ρ1 ((lcM (lc2T t vs ft fi t1 vs1 ft1 fe) its [] ρ1).bind fun q => .ok (Sl.own (.lst q.1), restE ρ1 q.2 vs)) (fun s ρ' F' H' => ∀ v, RsR k F' H' σ ρ' H v s → Q v H') := p1
  cases ev : lcM (lc2T t vs ft fi t1 vs1 ft1 fe) its [] ρ1 with
  | exc c gs => exact absurd ev lcM_noexc
  | stuck =>
    rw [ev] at p1
    exact p1.elim
  | ok qe =>
    obtain ⟨dsr, ρe⟩ := qe
    rw [ev] at p1
    let LI : Nat → Hp → Prop := fun j Hh => ∃ F2 ρ2 acc accV, lcM (lc2T t vs ft fi t1 vs1 ft1 fe) (its.drop j) acc ρ2 = .ok (dsr, ρe) ∧ Okk k F2 (wipe σ vs) Hh (wipeE ρ2 vs) ∧ Fr F1 (wipe σ vs) H1 (wipeE ρ1 vs) F2 (wipe σ vs) Hh (wipeE ρ2 vs) ∧
      Hh D = some (.lst accV) ∧ Reps k F2 accV acc ∧ F2 D = none ∧ ¬ Ow (wipe σ vs) (wipeE ρ2 vs) D
    have fD : F1 D = none := none_of_sub K2.sub hD
    have Kw0 : Okk k F1 (wipe σ vs) H1 (wipeE ρ1 vs) := okk_wipe K2
    refine ⟨fun j m Hh => m = its.length - j ∧ j ≤ its.length ∧ LI j Hh, ⟨its.length, by simp, Nat.zero_le _, F1, ρ1, [], [], ev, ?_, ?_, upd_same, .nil, fD, not_ow_new Kw0 hD⟩, ?_⟩
    · exact Kw0.heap (fun b u q => by rw [upd_ne (ne_of_none (K2.sub b u q) hD)]; exact K2.sub b u q) (fun a o ha q => by rw [upd_ne (ne_of_none q hD)]; exact q) (.of fun b o q => by rw [upd_ne (ne_of_none q hD)]; exact q)
    · exact ⟨fun _ _ h => h, dom_upd (fun _ z => nomatch z), fun b o _ q1 q2 q3 => ⟨by rw [upd_ne (ne_of_none q1 hD)]; exact q1, q2, q3⟩⟩
    rintro j m Hh ⟨rfl, hj, F2, ρ2, acc, accV, hev, Kw, fw, hHD, racc, f2D, nowD⟩
    by_cases hlt : j < its.length
    · refine .inr ⟨w.go j F2 Hh fw.ext Kw.sub hlt, LI (j + 1), fun H' p' => ⟨its.length - (j + 1), by omega, rfl, hlt, p'⟩, fun x H' y => ?_⟩
      obtain ⟨F3, nw⟩ := w.yld j its[j] F2 Hh x H' fw.ext Kw.sub (List.getElem?_eq_getElem hlt) y
      obtain ⟨K3, f3, r3⟩ := Kw.new nw
      rw [List.drop_eq_getElem_cons hlt] at hev
      unfold lcM at hev
      obtain ⟨r, hr, hev⟩ := bind_ok hev
      have hr : lc2T t vs ft fi t1 vs1 ft1 fe its[j] acc ρ2 = .ok r := by
        cases z : lc2T t vs ft fi t1 vs1 ft1 fe its[j] acc ρ2 with
        | ok a => rw [z] at hr; exact hr
        | exc c gs => rw [z] at hr; cases hr
        | stuck => rw [z] at hr; cases hr
      obtain ⟨ρ3, h3, hr⟩ := bind_ok hr
      obtain ⟨⟨tb, ρ4⟩, h4, hr⟩ := bind_ok hr
      have wv : ∀ {σ4 : St}, σ4.length = (wipe σ vs).length → (∀ i, (!(vs.contains i)) = true → σ4[i]? = (wipe σ vs)[i]?) → wipe σ4 vs = wipe σ vs := fun {σ4} hl hk => by
        have : wipe σ4 vs = wipe (wipe σ vs) vs := wipe_ext hl fun i hi => hk i (by simpa using hi)
        rw [this]
        exact wipe_ext (wipe_length ..) fun i hi => wipe_out hi
      refine ⟨F3, _, its[j], ρ3, K3, r3, h3, fun F4 σ4 H4 z4 => ⟨wv z4.len z4.lk, F4, ρ3, z4.ok, post0 h4 fun F5 H5 K5 f5 => ?_⟩⟩
      have e4 : wipe σ4 vs = wipe σ vs := wv z4.len z4.lk
      have hr : (if tb = true then (fi ρ4).bind fun r1 => lcL (lcTurn t1 vs1 ft1 fe) r1.1 acc r1.2 else R.ok (acc, ρ4)) = R.ok r := hr
      have hev : lcM (lc2T t vs ft fi t1 vs1 ft1 fe) (its.drop (j + 1)) r.1 r.2 = .ok (dsr, ρe) := hev
      -- from the turn's start to a place in the turn, the names of the block wiped again
      have toV : ∀ {F6 H6 : Hp} {ρ6 : Env} {F0 H0 : Hp} {ρ0 : Env}, Okk k F6 σ4 H6 ρ6 → Fr F0 (wipe σ vs) H0 (wipeE ρ0 vs) F6 σ4 H6 ρ6 → Okk k F6 (wipe σ vs) H6 (wipeE ρ6 vs) ∧ Fr F0 (wipe σ vs) H0 (wipeE ρ0 vs) F6 (wipe σ vs) H6 (wipeE ρ6 vs) := fun {F6 H6 ρ6 F0 H0 ρ0} K6 f6 => by
        have z := okk_wipe (vs := vs) K6
        rw [e4] at z
        exact ⟨z, f6.trans ⟨fun _ _ h => h, fun _ h => h, fun b o _ q1 q2 q3 => ⟨q1, q2, fun q => q3 (ow_wipe (vs := vs) (by rw [e4]; exact q))⟩⟩⟩
      cases tb with
      | false =>
        rw [if_neg Bool.false_ne_true] at hr
        show LI (j + 1) H5
        cases hr
        have g := f3.trans (z4.fr.trans f5)
        obtain ⟨y1, y2, y3⟩ := g.keep D (.lst accV) (fun ps z => (nomatch z)) hHD f2D nowD
        obtain ⟨z1, z2⟩ := toV K5 (fw.trans g)
        exact ⟨F5, ρ4, acc, accV, hev, z1, z2, y1, racc.mono g.ext, y2, fun q => y3 (ow_wipe (vs := vs) (by rw [e4]; exact q))⟩
      | true =>
        rw [if_pos rfl] at hr
        show tI k E0 fi σ4 H5 _
        obtain ⟨⟨its1, ρ5⟩, h5, hr⟩ := bind_ok hr
        have hr : lcL (lcTurn t1 vs1 ft1 fe) its1 acc ρ5 = .ok r := hr
        refine ⟨F5, ρ4, K5, post0 h5 fun F6 H6 K6 f6 J1 w1 => ?_⟩
        have g := f3.trans (z4.fr.trans (f5.trans f6))
        obtain ⟨y1, y2, y3⟩ := g.keep D (.lst accV) (fun ps z => (nomatch z)) hHD f2D nowD
        have sh : ∀ {F7 H7 : Hp} {σ7 : St} {ρ7 : Env} {F0 H0 : Hp} {σ0 : St} {ρ0 : Env}, Fr F0 σ0 H0 ρ0 F7 σ7 H7 ρ7 → Fr F0 σ0 H0 ρ0 F7 (wipe σ7 vs1) H7 (wipeE ρ7 vs1) := fun f => f.trans ⟨fun _ _ h => h, fun _ h => h, fun b o _ q1 q2 q3 => ⟨q1, q2, fun q => q3 (ow_wipe q)⟩⟩
        let LI1 : Nat → Hp → Prop := fun j1 Hh1 => ∃ F7 ρ7 acc7 accV7, lcL (lcTurn t1 vs1 ft1 fe) (its1.drop j1) acc7 ρ7 = .ok r ∧ Okk k F7 (wipe σ4 vs1) Hh1 (wipeE ρ7 vs1) ∧ Fr F1 (wipe σ vs) H1 (wipeE ρ1 vs) F7 (wipe σ4 vs1) Hh1 (wipeE ρ7 vs1) ∧ Sub F6 F7 ∧
          Hh1 D = some (.lst accV7) ∧ Reps k F7 accV7 acc7 ∧ F7 D = none ∧ ¬ Ow (wipe σ4 vs1) (wipeE ρ7 vs1) D
        refine ⟨fun j1 m1 Hh1 => m1 = its1.length - j1 ∧ j1 ≤ its1.length ∧ LI1 j1 Hh1, ⟨its1.length, by simp, Nat.zero_le _, F6, ρ5, acc, accV, hr, okk_wipe K6, sh (fw.trans g), fun _ _ z => z, y1, racc.mono g.ext, y2, fun q => y3 (ow_wipe q)⟩, ?_⟩
        rintro j1 m1 Hh1 ⟨rfl, hj1, F7, ρ7, acc7, accV7, hev7, Kw7, fw7, sb7, hHD7, racc7, f7D, nowD7⟩
        by_cases hlt1 : j1 < its1.length
        · refine .inr ⟨w1.go j1 F7 Hh1 sb7 Kw7.sub hlt1, LI1 (j1 + 1), fun H' p' => ⟨its1.length - (j1 + 1), by omega, rfl, hlt1, p'⟩, fun x1 H8 yy => ?_⟩
          obtain ⟨F8, nw8⟩ := w1.yld j1 its1[j1] F7 Hh1 x1 H8 sb7 Kw7.sub (List.getElem?_eq_getElem hlt1) yy
          obtain ⟨K8, f8, r8⟩ := Kw7.new nw8
          rw [List.drop_eq_getElem_cons hlt1] at hev7
          unfold lcL at hev7
          obtain ⟨o, ho, hev7⟩ := bind_ok hev7
          have ho : lcTurn t1 vs1 ft1 fe its1[j1] ρ7 = .ok o := by
            cases z : lcTurn t1 vs1 ft1 fe its1[j1] ρ7 with
            | ok a => rw [z] at ho; exact ho
            | exc c gs => rw [z] at ho; cases ho
            | stuck => rw [z] at ho; cases ho
          obtain ⟨ρ9, h9, ho⟩ := bind_ok ho
          obtain ⟨⟨tb1, ρ10⟩, h10, ho⟩ := bind_ok ho
          have wv1 : ∀ {σ9 : St}, σ9.length = (wipe σ4 vs1).length → (∀ i, (!(vs1.contains i)) = true → σ9[i]? = (wipe σ4 vs1)[i]?) → wipe σ9 vs1 = wipe σ4 vs1 := fun {σ9} hl hk => by
            have : wipe σ9 vs1 = wipe (wipe σ4 vs1) vs1 := wipe_ext hl fun i hi => hk i (by simpa using hi)
            rw [this]
            exact wipe_ext (wipe_length ..) fun i hi => wipe_out hi
          refine ⟨F8, _, its1[j1], ρ9, K8, r8, h9, fun F9 σ9 H9 z9 => ⟨wv1 z9.len z9.lk, F9, ρ9, z9.ok, post0 h10 fun F10 H10 K10 f10 => ?_⟩⟩
          have e9 : wipe σ9 vs1 = wipe σ4 vs1 := wv1 z9.len z9.lk
          have back : ∀ {F11 H11 : Hp} {ρ11 : Env} {F0 H0 : Hp} {σ0 : St} {ρ0 : Env}, Okk k F11 σ9 H11 ρ11 → Fr F0 σ0 H0 ρ0 F11 σ9 H11 ρ11 → Okk k F11 (wipe σ4 vs1) H11 (wipeE ρ11 vs1) ∧ Fr F0 σ0 H0 ρ0 F11 (wipe σ4 vs1) H11 (wipeE ρ11 vs1) := fun {F11 H11 ρ11 F0 H0 σ0 ρ0} K11 f11 => by
            have z := okk_wipe (vs := vs1) K11
            have z2 := sh f11
            rw [e9] at z z2
            exact ⟨z, z2⟩
          have ho : (if tb1 = true then (fe ρ10).bind fun x => R.ok (some x.1.d, x.2) else R.ok (none, ρ10)) = R.ok o := ho
          cases tb1 with
          | false =>
            rw [if_neg Bool.false_ne_true] at ho
            show LI1 (j1 + 1) H10
            cases ho
            have g1 := f8.trans (z9.fr.trans f10)
            obtain ⟨a1, a2, a3⟩ := g1.keep D (.lst accV7) (fun ps z => (nomatch z)) hHD7 f7D nowD7
            obtain ⟨z1, z2⟩ := back K10 (fw7.trans g1)
            exact ⟨F10, ρ10, acc7, accV7, hev7, z1, z2, fun b u z => g1.ext b u (sb7 b u z), a1, racc7.mono g1.ext, a2, fun q => a3 (ow_wipe (vs := vs1) (by rw [e9]; exact q))⟩
          | true =>
            rw [if_pos rfl] at ho
            show tF k E0 fe σ9 H10 _
            obtain ⟨⟨xs, ρ11⟩, h11, ho⟩ := bind_ok ho
            cases ho
            refine ⟨F10, ρ10, K10, post0 h11 fun F11 H11 K11 f11 v rv => ?_⟩
            have g1 := f8.trans (z9.fr.trans (f10.trans f11))
            obtain ⟨a1, a2, a3⟩ := g1.keep D (.lst accV7) (fun ps z => (nomatch z)) hHD7 f7D nowD7
            obtain ⟨z1, z2⟩ := back K11 (fw7.trans g1)
            have nw4 : ¬ Ow (wipe σ4 vs1) (wipeE ρ11 vs1) D := fun q => a3 (ow_wipe (vs := vs1) (by rw [e9]; exact q))
            have hev7 : (if acc7.length < sizeLine then lcL (lcTurn t1 vs1 ft1 fe) (its1.drop (j1 + 1)) (acc7 ++ [xs.d]) ρ11 else .stuck) = .ok r := hev7
            split at hev7
            · rename_i hz
              refine ⟨accV7, a1, by rw [racc7.length]; exact hz, F11, ρ11, acc7 ++ [xs.d], accV7 ++ [v], hev7, ?_, ?_, fun b u z => g1.ext b u (sb7 b u z), upd_same, (racc7.mono g1.ext).append (.cons rv .nil), a2, nw4⟩
              · exact z1.heap (fun b u q => by
                  have : b ≠ D := fun z => by rw [z, a2] at q; cases q
                  rw [upd_ne this]
                  exact z1.sub b u q) (fun a o ha q => by
                  have : a ≠ D := fun z => nw4 (z ▸ ha)
                  rw [upd_ne this]
                  exact q) (TbS.upd a1 (fun ps z => (nomatch z)) fun P z => (nomatch z))
              · exact ⟨z2.ext, fun b hb => dom_upd (o := .lst (accV7 ++ [v])) (fun _ z => nomatch z) b (z2.dom b hb), fun b o nt q1 q2 q3 => by
                  obtain ⟨x1, x2, x3⟩ := z2.keep b o nt q1 q2 q3
                  exact ⟨by rw [upd_ne (ne_of_none q1 hD)]; exact x1, x2, x3⟩⟩
            · cases hev7
        · have e : j1 = its1.length := Nat.le_antisymm hj1 (Nat.le_of_not_lt hlt1)
          subst e
          refine .inl ⟨w1.stop F7 Hh1 sb7 Kw7.sub, ?_⟩
          rw [List.drop_length] at hev7
          cases hev7
          show LI (j + 1) Hh1
          have ez : wipe (wipe σ4 vs1) vs = wipe σ vs := (wipe_twice hv).trans e4
          have Kz := okk_wipe (vs := vs) Kw7
          rw [ez, wipeE_twice hv] at Kz
          have ow2 : ∀ {b : Addr}, Ow (wipe σ vs) (wipeE ρ7 vs) b → Ow (wipe σ4 vs1) (wipeE ρ7 vs1) b := fun {b} q => ow_wipe (vs := vs) (by rw [ez, wipeE_twice hv]; exact q)
          exact ⟨F7, ρ7, acc7, accV7, hev, Kz, fw7.trans ⟨fun _ _ h => h, fun _ h => h, fun b o _ q1 q2 q3 => ⟨q1, q2, fun q => q3 (ow2 q)⟩⟩, hHD7, racc7, f7D, fun q => nowD7 (ow2 q)⟩
    · have e : j = its.length := Nat.le_antisymm hj (Nat.le_of_not_lt hlt)
      subst e
      refine .inl ⟨w.stop F2 Hh fw.ext Kw.sub, ?_⟩
      rw [List.drop_length] at hev
      cases hev
      obtain ⟨z1, z2, z3⟩ := rest_back K2 Kw fw
      refine p1 F2 Hh z1 z2 (.ref D) ⟨D, rfl, f2D, ⟨accV, hHD, racc⟩, fun z => nowD (z3 D hD z), ?_⟩
      exact fun z => nz_none hD (f1.dom D z)
end
end Rx

set_option Elab.async false
set_option linter.all false
set_option maxRecDepth 100000
/-! Rx13: comprehensions as expressions; a run makes no name an owner. -/
namespace Rx
open PySem PySem.Spec PyProof.Rows L2
/-! ### the context of a comprehension's block -/
def blkCs (c : Cs) (scope : Scope) : Cs := { c with sc := relS scope c.sc, fn := (fun x => scope.names.lookup x == some .cell), lam := false }
section
variable {X : Cx} {k : Kx} {g : G} {c : Cs} {n : Nat} {E : XK}
theorem blk_ok (x : XOk X k g c n E) (s : Shared) (H : Hp) (scope : Scope) (C : Addr) (cl : List (Str × Addr)) (fp : List Addr) : XOk (X.blk s H scope (compEnvC scope cl C X.env) fp) k g (blkCs c scope) n E0 :=
  ⟨x.gk, x.eqm, x.st, x.exn, x.calm, x.nd, x.hN, by show relS scope X.env.scope = relS scope c.sc; rw [x.sc], fun y h => h, takes0, x.room2, PassesOwn.never, fun h => nomatch h⟩
def notSet : Expr → Bool
  | .Set _ _ _ => false
  | _ => true
theorem folded_plain {e : Expr} {env : PySem.Env} (h : notSet e = true) (v : Value) : foldedSetIterable e env v = pure v := by
  cases e <;> first | rfl | (simp [notSet] at h)
/-- what a block's parts keep, in every context of the block -/
structure LcOk (X : Cx) (k : Kx) (g : G) (c : Cs) (n : Nat) (E : XK) (scope : Scope) (own : List (Str × Nat)) (tg iter elt : Expr) (ifs : List Expr) (i : Ik) (fs : List (Env → R (Pv × Env))) (t : Tg) (ft : Env → R (Bool × Env)) (fe : Env → R (Sl × Env)) : Prop where
  blk : blkC c.N c.sc scope own = true
  pi : PI X tg iter (tI k E (itsF i fs))
  pg : ∀ X', XOk X' k g (blkCs c scope) n E0 → PG X' tg (tG k (fun i => !((own.map (·.2)).contains i)) t)
  pt : ∀ X', XOk X' k g (blkCs c scope) n E0 → PTs X' ifs (tT k E0 ft)
  pe : ∀ X', XOk X' k g (blkCs c scope) n E0 → PE X' elt (tF k E0 fe)
  ns : notSet iter = true
theorem se_lc (x : XOk X k g c n E) {scope : Scope} {own : List (Str × Nat)} {tg iter elt : Expr} {ifs : List Expr} {i : Ik} {fs : List (Env → R (Pv × Env))} {t : Tg} {ft : Env → R (Bool × Env)} {fe : Env → R (Sl × Env)} {pos : Pos}
    (h : LcOk X k g c n E scope own tg iter elt ifs i fs t ft fe) : SE X k g E (.ListComp elt [⟨tg, iter, ifs, 0⟩] scope pos) (lcF i fs t (own.map (·.2)) ft fe) := by
  have ok : BlkOk X.N X.env.scope scope own := by rw [x.hN, x.sc]; exact blkOk_by h.blk
  refine se_plain x (pe_weak (pe_lc x.calm x.nd h.pi ok (fun s H C cl fp => h.pg _ (blk_ok x s H scope C cl fp)) (fun s H C cl fp => h.pt _ (blk_ok x s H scope C cl fp)) (fun s H C cl fp => h.pe _ (blk_ok x s H scope C cl fp)) (folded_plain h.ns)) fun σ H Q q => lc_weak q) rfl
/-- a dict comprehension -/
theorem se_dc (x : XOk X k g c n E) {scope : Scope} {own : List (Str × Nat)} {tg iter kx vx : Expr} {ifs : List Expr} {i : Ik} {fs : List (Env → R (Pv × Env))} {t : Tg} {ft : Env → R (Bool × Env)} {fk fv : Env → R (Sl × Env)} {pos : Pos}
    (h : LcOk X k g c n E scope own tg iter kx ifs i fs t ft fk) (hv : ∀ X', XOk X' k g (blkCs c scope) n E0 → PE X' vx (tF k E0 fv)) : SE X k g E (.DictComp kx vx [⟨tg, iter, ifs, 0⟩] scope pos) (dcF i fs t (own.map (·.2)) ft fk fv) := by
  have ok : BlkOk X.N X.env.scope scope own := by rw [x.hN, x.sc]; exact blkOk_by h.blk
  refine se_plain x (pe_weak (pe_dc x.calm x.nd h.pi ok (fun s H C cl fp => h.pg _ (blk_ok x s H scope C cl fp)) (fun s H C cl fp => h.pt _ (blk_ok x s H scope C cl fp)) (fun s H C cl fp => h.pe _ (blk_ok x s H scope C cl fp)) (fun s H C cl fp => hv _ (blk_ok x s H scope C cl fp)) (folded_plain h.ns)) fun σ H Q q => dc_weak q) rfl
/-- name = [..], the name a local -/
theorem ps_setLcX (x : XOk X k g c n E) {j : Nat} {y : Str} {py spos : Pos} {scope : Scope} {own : List (Str × Nat)} {tg iter elt : Expr} {ifs : List Expr} {i : Ik} {fs : List (Env → R (Pv × Env))} {t : Tg} {ft : Env → R (Bool × Env)} {fe : Env → R (Sl × Env)} {pos : Pos}
    (h : LcOk X k g c n E scope own tg iter elt ifs i fs t ft fe) (hk : c.sc.kind = .function) (hy : c.N[j]? = some y) (hl : c.sc.names.lookup y = some .local) (hp : (py.line == pos.line) = true) (ha : (scope.names.any fun (n, k) => n == y && (k == .local || k == .cell)) = false) :
    PS X (.Assign [.Name y py] (.ListComp elt [⟨tg, iter, ifs, 0⟩] scope pos) spos) (tAsg (tS k E (lcF i fs t (own.map (·.2)) ft fe)) (gName j)) := by
  have ok : BlkOk X.N X.env.scope scope own := by rw [x.hN, x.sc]; exact blkOk_by h.blk
  refine ps_weak (ps_setLc (i := j) x.calm x.nd (by rw [x.hN]; exact hy) (by rw [x.sc]; exact hl) (sw_true (by rw [x.sc]; exact hk) (by rw [x.sc]; exact hl) hp ha) h.pi ok (fun s H C cl fp => h.pg _ (blk_ok x s H scope C cl fp)) (fun s H C cl fp => h.pt _ (blk_ok x s H scope C cl fp)) (fun s H C cl fp => h.pe _ (blk_ok x s H scope C cl fp)) (folded_plain h.ns)) fun D σ H q => lc_weak q
/-- two clauses -/
structure Lc2Ok (X : Cx) (k : Kx) (g : G) (c : Cs) (n : Nat) (E : XK) (scope : Scope) (own : List (Str × Nat)) (vs1 : List Nat) (tg iter elt tg1 iter1 : Expr) (ifs ifs1 : List Expr) (i : Ik) (fs : List (Env → R (Pv × Env))) (t : Tg) (ft : Env → R (Bool × Env)) (fi : Env → R (List D × Env)) (t1 : Tg) (ft1 : Env → R (Bool × Env)) (fe : Env → R (Sl × Env)) : Prop where
  one : LcOk X k g c n E scope own tg iter elt ifs i fs t ft fe
  hv : ∀ i ∈ vs1, i ∈ own.map (·.2)
  pi1 : ∀ X', XOk X' k g (blkCs c scope) n E0 → PI X' tg1 iter1 (tI k E0 fi)
  pg1 : ∀ X', XOk X' k g (blkCs c scope) n E0 → PG X' tg1 (tG k (fun i => !(vs1.contains i)) t1)
  pt1 : ∀ X', XOk X' k g (blkCs c scope) n E0 → PTs X' ifs1 (tT k E0 ft1)
  ns1 : notSet iter1 = true
theorem se_lc2 (x : XOk X k g c n E) {scope : Scope} {own : List (Str × Nat)} {vs1 : List Nat} {tg iter elt tg1 iter1 : Expr} {ifs ifs1 : List Expr} {i : Ik} {fs : List (Env → R (Pv × Env))} {t t1 : Tg} {ft ft1 : Env → R (Bool × Env)} {fi : Env → R (List D × Env)} {fe : Env → R (Sl × Env)} {pos : Pos}
    (h : Lc2Ok X k g c n E scope own vs1 tg iter elt tg1 iter1 ifs ifs1 i fs t ft fi t1 ft1 fe) : SE X k g E (.ListComp elt [⟨tg, iter, ifs, 0⟩, ⟨tg1, iter1, ifs1, 0⟩] scope pos) (lc2F i fs t (own.map (·.2)) ft fi t1 vs1 ft1 fe) := by
  have ok : BlkOk X.N X.env.scope scope own := by rw [x.hN, x.sc]; exact blkOk_by h.one.blk
  refine se_plain x (pe_weak (pe_lc2 x.calm x.nd h.one.pi ok h.hv (fun s H C cl fp => h.one.pg _ (blk_ok x s H scope C cl fp)) (fun s H C cl fp => h.one.pt _ (blk_ok x s H scope C cl fp)) (fun s H C cl fp => h.pi1 _ (blk_ok x s H scope C cl fp)) (fun s H C cl fp => h.pg1 _ (blk_ok x s H scope C cl fp)) (fun s H C cl fp => h.pt1 _ (blk_ok x s H scope C cl fp))
    (fun s H C cl fp => h.one.pe _ (blk_ok x s H scope C cl fp)) (folded_plain h.one.ns) (fun env => folded_plain h.ns1)) fun σ H Q q => lc2_weak h.hv q) rfl
theorem ps_setLc2X (x : XOk X k g c n E) {j : Nat} {y : Str} {py spos : Pos} {scope : Scope} {own : List (Str × Nat)} {vs1 : List Nat} {tg iter elt tg1 iter1 : Expr} {ifs ifs1 : List Expr} {i : Ik} {fs : List (Env → R (Pv × Env))} {t t1 : Tg} {ft ft1 : Env → R (Bool × Env)} {fi : Env → R (List D × Env)} {fe : Env → R (Sl × Env)} {pos : Pos}
    (h : Lc2Ok X k g c n E scope own vs1 tg iter elt tg1 iter1 ifs ifs1 i fs t ft fi t1 ft1 fe) (hk : c.sc.kind = .function) (hy : c.N[j]? = some y) (hl : c.sc.names.lookup y = some .local) (hp : (py.line == pos.line) = true) (ha : (scope.names.any fun (n, k) => n == y && (k == .local || k == .cell)) = false) :
    PS X (.Assign [.Name y py] (.ListComp elt [⟨tg, iter, ifs, 0⟩, ⟨tg1, iter1, ifs1, 0⟩] scope pos) spos) (tAsg (tS k E (lc2F i fs t (own.map (·.2)) ft fi t1 vs1 ft1 fe)) (gName j)) := by
  have ok : BlkOk X.N X.env.scope scope own := by rw [x.hN, x.sc]; exact blkOk_by h.one.blk
  refine ps_weak (ps_setLc2 (i := j) x.calm x.nd (by rw [x.hN]; exact hy) (by rw [x.sc]; exact hl) (sw_true (by rw [x.sc]; exact hk) (by rw [x.sc]; exact hl) hp ha) h.one.pi ok h.hv (fun s H C cl fp => h.one.pg _ (blk_ok x s H scope C cl fp)) (fun s H C cl fp => h.one.pt _ (blk_ok x s H scope C cl fp)) (fun s H C cl fp => h.pi1 _ (blk_ok x s H scope C cl fp)) (fun s H C cl fp => h.pg1 _ (blk_ok x s H scope C cl fp)) (fun s H C cl fp => h.pt1 _ (blk_ok x s H scope C cl fp))
    (fun s H C cl fp => h.one.pe _ (blk_ok x s H scope C cl fp)) (folded_plain h.one.ns) (fun env => folded_plain h.ns1)) fun D σ H q => lc2_weak h.hv q
theorem pts_nilX : PTs X [] (tT k E fun ρ => .ok (true, ρ)) := ⟨fun pins s σ H Q I ⟨F, ρ, K1, p⟩ => wpAny_tests_nil ⟨H, I, p.here K1⟩⟩
end
/-! ### a run makes no name an owner -/
def Le (ρ' ρ : Env) : Prop := ∀ (i : Nat), isOwn ρ'[i]?.join = true → isOwn ρ[i]?.join = true
theorem Le.refl {ρ : Env} : Le ρ ρ := fun _ h => h
theorem Le.trans {ρ ρ1 ρ2 : Env} (a : Le ρ2 ρ1) (b : Le ρ1 ρ) : Le ρ2 ρ := fun i h => b i (a i h)
theorem le_set {ρ : Env} {j : Nat} {o : Option Sl} (h : isOwn o = true → isOwn ρ[j]?.join = true) : Le (ρ.set j o) ρ := fun i hi => by
  by_cases e : j = i
  · subst e
    by_cases hl : j < ρ.length
    · rw [List.getElem?_set_self hl] at hi
      exact h hi
    · rw [List.getElem?_eq_none (by rw [List.length_set]; exact Nat.le_of_not_lt hl)] at hi
      cases hi
  · rw [List.getElem?_set_ne e] at hi
    exact hi
theorem le_rdF {ρ ρ' : Env} {i : Nat} {s : Sl} (h : rdF ρ i = .ok (s, ρ')) : Le ρ' ρ := by
  unfold rdF at h
  split at h
  · cases h; exact .refl
  · cases h; exact le_set fun z => nomatch z
  · cases h
theorem le_wb : ∀ (ps : List Pv) (os : List (Option Sl)) (ρ : Env), Le (wb ps os ρ) ρ
  | [], os, ρ => by cases os <;> exact .refl
  | .inl d :: ps, [], ρ => .refl
  | .inr j :: ps, [], ρ => .refl
  | .inl d :: ps, o :: os, ρ => le_wb ps os ρ
  | .inr j :: ps, o :: os, ρ => by
    show Le (wb ps os (if isOwn ρ[j]?.join then ρ.set j o else ρ)) ρ
    refine (le_wb ps os _).trans ?_
    split
    · rename_i q
      exact le_set fun _ => q
    · exact .refl
theorem le_wipe : ∀ (vs : List Nat) (ρ : Env), Le (wipeE ρ vs) ρ
  | [], ρ => .refl
  | v :: vs, ρ => (le_wipe vs (ρ.set v none)).trans (le_set fun z => nomatch z)
theorem le_rest {ρ0 : Env} : ∀ (vs : List Nat) (ρ : Env), Le ρ ρ0 → Le (restE ρ0 ρ vs) ρ0
  | [], ρ, h => h
  | v :: vs, ρ, h => le_rest vs (ρ.set v (ρ0[v]?.join)) fun i hi => by
    by_cases e : v = i
    · subst e
      by_cases hl : v < ρ.length
      · rw [List.getElem?_set_self hl] at hi
        exact hi
      · rw [List.getElem?_eq_none (by rw [List.length_set]; exact Nat.le_of_not_lt hl)] at hi
        cases hi
    · rw [List.getElem?_set_ne e] at hi
      exact h i hi
mutual
theorem le_put {lk : Nat → Bool} : ∀ (t : Tg) {d : D} {ρ ρ' : Env}, t.put lk d ρ = .ok ρ' → Le ρ' ρ
  | .var i, d, ρ, ρ', h => by
    unfold Tg.put at h
    split at h
    · cases h
    · split at h
      · cases h; exact le_set fun z => nomatch z
      · cases h
  | .fld j f, d, ρ, ρ', h => by
    unfold Tg.put at h
    split at h
    · rename_i hs
      split at h
      · cases h; exact le_set fun _ => by rw [hs]; rfl
      · cases h
    · cases h
  | .tup ts, d, ρ, ρ', h => by
    unfold Tg.put at h
    split at h
    · exact les_put ts h
    · exact les_put ts h
    · cases h
theorem les_put {lk : Nat → Bool} : ∀ (ts : Tgs) {ds : List D} {ρ ρ' : Env}, Tgs.put lk ts ds ρ = .ok ρ' → Le ρ' ρ
  | .nil, [], ρ, ρ', h => by cases h; exact .refl
  | .nil, _ :: _, ρ, ρ', h => by cases h
  | .cons t ts, [], ρ, ρ', h => by cases h
  | .cons t ts, d :: ds, ρ, ρ', h => by
    obtain ⟨ρ1, e1, e2⟩ := bind_ok h
    exact (les_put ts e2).trans (le_put t e1)
end
theorem le_lcL {turn : D → Env → R (Option D × Env)} (ht : ∀ d ρ o ρ', turn d ρ = .ok (o, ρ') → Le ρ' ρ) : ∀ {ds acc : List D} {ρ ρ' : Env} {r : List D}, lcL turn ds acc ρ = .ok (r, ρ') → Le ρ' ρ
  | [], acc, ρ, ρ', r, h => by cases h; exact .refl
  | d :: ds, acc, ρ, ρ', r, h => by
    unfold lcL at h
    obtain ⟨⟨o, ρ1⟩, h1, h⟩ := bind_ok h
    have h1 : turn d ρ = .ok (o, ρ1) := by
      cases z : turn d ρ with
      | ok a => rw [z] at h1; exact h1
      | exc c gs => rw [z] at h1; cases h1
      | stuck => rw [z] at h1; cases h1
    refine Le.trans ?_ (ht _ _ _ _ h1)
    cases o with
    | some x =>
      have h : (if acc.length < sizeLine then lcL turn ds (acc ++ [x]) ρ1 else .stuck) = R.ok (r, ρ') := h
      split at h
      · exact le_lcL ht h
      · cases h
    | none => exact le_lcL ht h
theorem le_dcL {turn : D → Env → R (Option (Kk × D) × Env)} (ht : ∀ d ρ o ρ', turn d ρ = .ok (o, ρ') → Le ρ' ρ) : ∀ {ds : List D} {acc : List (Kk × D)} {ρ ρ' : Env} {r : List (Kk × D)}, dcL turn ds acc ρ = .ok (r, ρ') → Le ρ' ρ
  | [], acc, ρ, ρ', r, h => by cases h; exact .refl
  | d :: ds, acc, ρ, ρ', r, h => by
    unfold dcL at h
    obtain ⟨⟨o, ρ1⟩, h1, h⟩ := bind_ok h
    have h1 : turn d ρ = .ok (o, ρ1) := by
      cases z : turn d ρ with
      | ok a => rw [z] at h1; exact h1
      | exc c gs => rw [z] at h1; cases h1
      | stuck => rw [z] at h1; cases h1
    refine Le.trans ?_ (ht _ _ _ _ h1)
    cases o with
    | some x =>
      have h : (if acc.length < sizeLine then dcL turn ds (setK acc x.1 x.2) ρ1 else .stuck) = R.ok (r, ρ') := h
      split at h
      · exact le_dcL ht h
      · cases h
    | none => exact le_dcL ht h
theorem le_eqS {g : G} {neg : Bool} {ps : List Pv} {ρ ρ' : Env} {ss : List Sl} {s : Sl} (h : eqS g neg ps ρ ss = .ok (s, ρ')) : Le ρ' ρ := by
  unfold eqS at h
  split at h
  · split at h
    · obtain ⟨f, _, h⟩ := bind_ok h
      obtain ⟨q, _, h⟩ := bind_ok h
      split at h
      · cases h; exact le_wb _ _ _
      · cases h
    · obtain ⟨b, _, h⟩ := bind_ok h
      cases h; exact .refl
  · cases h
theorem le_frz : ∀ (is : List Nat) (ρ : Env), Le (frzE ρ is) ρ
  | [], ρ => .refl
  | i :: is, ρ => (le_frz is (ρ.set i (frzS ρ[i]?.join))).trans (le_set fun z => by
    unfold frzS at z
    split at z
    · cases z
    · exact z)
theorem fltR_env {fd : FltD} {r : R (Sl × Env)} {ρ ρ' : Env} {s : Sl} (h : fltR fd r ρ = .ok (s, ρ')) : ρ' = ρ := by
  unfold fltR at h
  split at h
  · cases h; rfl
  · split at h
    · cases h; rfl
    · cases h
  · cases h
theorem le_lcM {turn : D → List D → Env → R (List D × Env)} (ht : ∀ d acc ρ o ρ', turn d acc ρ = .ok (o, ρ') → Le ρ' ρ) : ∀ {ds acc : List D} {ρ ρ' : Env} {r : List D}, lcM turn ds acc ρ = .ok (r, ρ') → Le ρ' ρ
  | [], acc, ρ, ρ', r, h => by cases h; exact .refl
  | d :: ds, acc, ρ, ρ', r, h => by
    unfold lcM at h
    obtain ⟨⟨o, ρ1⟩, h1, h⟩ := bind_ok h
    have h1 : turn d acc ρ = .ok (o, ρ1) := by
      cases z : turn d acc ρ with
      | ok a => rw [z] at h1; exact h1
      | exc c gs => rw [z] at h1; cases h1
      | stuck => rw [z] at h1; cases h1
    exact (le_lcM ht h).trans (ht _ _ _ _ _ h1)
mutual
theorem Ex.le (g : G) : ∀ (e : Ex) {ρ ρ' : Env} {s : Sl}, e.ev g ρ = .ok (s, ρ') → Le ρ' ρ
  | .var i, ρ, ρ', s, h => by
    unfold Ex.ev at h
    exact le_rdF h
  | .con c, ρ, ρ', s, h => by
    unfold Ex.ev at h
    cases h; exact .refl
  | .glb j, ρ, ρ', s, h => by
    unfold Ex.ev at h
    obtain ⟨_, _, h⟩ := bind_ok h
    cases h; exact .refl
  | .op o as, ρ, ρ', s, h => by
    unfold Ex.ev at h
    obtain ⟨⟨r, ρ1⟩, h1, h⟩ := bind_ok h
    obtain ⟨_, _, h⟩ := bind_ok h
    obtain ⟨_, _, h⟩ := bind_ok h
    cases h
    exact Exs.le g as h1
  | .chn o p a b c, ρ, ρ', s, h => by
    unfold Ex.ev at h
    obtain ⟨⟨x, ρ1⟩, h1, h⟩ := bind_ok h
    obtain ⟨⟨y, ρ2⟩, h2, h⟩ := bind_ok h
    obtain ⟨t, _, h⟩ := bind_ok h
    have q := (Ex.le g b h2).trans (Ex.le g a h1)
    split at h
    · obtain ⟨⟨z, ρ3⟩, h3, h⟩ := bind_ok h
      obtain ⟨_, _, h⟩ := bind_ok h
      cases h
      exact (Ex.le g c h3).trans q
    · cases h; exact q
  | .and a b, ρ, ρ', s, h => by
    unfold Ex.ev at h
    obtain ⟨⟨x, ρ1⟩, h1, h⟩ := bind_ok h
    obtain ⟨t, _, h⟩ := bind_ok h
    split at h
    · exact (Ex.le g b h).trans (Ex.le g a h1)
    · cases h; exact Ex.le g a h1
  | .or a b, ρ, ρ', s, h => by
    unfold Ex.ev at h
    obtain ⟨⟨x, ρ1⟩, h1, h⟩ := bind_ok h
    obtain ⟨t, _, h⟩ := bind_ok h
    split at h
    · cases h; exact Ex.le g a h1
    · exact (Ex.le g b h).trans (Ex.le g a h1)
  | .not a, ρ, ρ', s, h => by
    unfold Ex.ev at h
    obtain ⟨⟨x, ρ1⟩, h1, h⟩ := bind_ok h
    obtain ⟨t, _, h⟩ := bind_ok h
    cases h; exact Ex.le g a h1
  | .tru a, ρ, ρ', s, h => by
    unfold Ex.ev at h
    obtain ⟨⟨x, ρ1⟩, h1, h⟩ := bind_ok h
    obtain ⟨t, _, h⟩ := bind_ok h
    cases h; exact Ex.le g a h1
  | .eqv neg as, ρ, ρ', s, h => by
    unfold Ex.ev at h
    obtain ⟨⟨r, ρ1⟩, h1, h⟩ := bind_ok h
    split at h
    · obtain ⟨_, _, h⟩ := bind_ok h
      exact (le_eqS h).trans (Exs.le g as h1)
    · cases h
  | .ife c a b, ρ, ρ', s, h => by
    unfold Ex.ev at h
    obtain ⟨⟨x, ρ1⟩, h1, h⟩ := bind_ok h
    obtain ⟨t, _, h⟩ := bind_ok h
    split at h
    · exact (Ex.le g a h).trans (Ex.le g c h1)
    · exact (Ex.le g b h).trans (Ex.le g c h1)
  | .call f as, ρ, ρ', s, h => by
    unfold Ex.ev at h
    obtain ⟨⟨r, ρ1⟩, h1, h⟩ := bind_ok h
    split at h
    · obtain ⟨_, _, h⟩ := bind_ok h
      obtain ⟨_, _, h⟩ := bind_ok h
      cases h
      exact (le_wb _ _ _).trans (Exs.le g as h1)
    · cases h
  | .make c as, ρ, ρ', s, h => by
    unfold Ex.ev at h
    obtain ⟨⟨r, ρ1⟩, h1, h⟩ := bind_ok h
    obtain ⟨_, _, h⟩ := bind_ok h
    obtain ⟨_, _, h⟩ := bind_ok h
    obtain ⟨_, _, h⟩ := bind_ok h
    split at h
    · cases h; exact Exs.le g as h1
    · cases h
  | .meth m o as, ρ, ρ', s, h => by
    unfold Ex.ev at h
    obtain ⟨⟨q, ρ1⟩, h1, h⟩ := bind_ok h
    obtain ⟨f, _, h⟩ := bind_ok h
    obtain ⟨⟨r, ρ2⟩, h2, h⟩ := bind_ok h
    split at h
    · obtain ⟨_, _, h⟩ := bind_ok h
      obtain ⟨_, _, h⟩ := bind_ok h
      cases h
      exact (le_wb _ _ _).trans ((Exs.le g as h2).trans (Exs.le g o h1))
    · cases h
  | .bm m o as, ρ, ρ', s, h => by
    unfold Ex.ev at h
    obtain ⟨⟨q, ρ1⟩, h1, h⟩ := bind_ok h
    obtain ⟨d0, _, h⟩ := bind_ok h
    split at h
    · obtain ⟨⟨r, ρ2⟩, h2, h⟩ := bind_ok h
      obtain ⟨_, _, h⟩ := bind_ok h
      obtain ⟨_, _, h⟩ := bind_ok h
      cases h
      exact (Exs.le g as h2).trans (Exs.le g o h1)
    · cases h
  | .lc t vs i as cs e, ρ, ρ', s, h => by
    unfold Ex.ev at h
    obtain ⟨⟨r, ρ1⟩, h1, h⟩ := bind_ok h
    obtain ⟨ds, _, h⟩ := bind_ok h
    obtain ⟨its, _, h⟩ := bind_ok h
    obtain ⟨⟨q, ρ2⟩, h2, h⟩ := bind_ok h
    cases h
    refine (le_rest vs ρ2 ?_).trans (Exs.le g as h1)
    refine le_lcL (fun d ρa o ρb hh => ?_) h2
    obtain ⟨ρc, z1, hh⟩ := bind_ok hh
    obtain ⟨⟨tb, ρd⟩, z2, hh⟩ := bind_ok hh
    have l1 := (Exs.tle g cs z2).trans ((le_put t z1).trans (le_wipe vs ρa))
    split at hh
    · obtain ⟨⟨xx, ρe⟩, z3, hh⟩ := bind_ok hh
      cases hh
      exact (Ex.le g e z3).trans l1
    · cases hh; exact l1
  | .dc t vs i as cs kx vx, ρ, ρ', s, h => by
    unfold Ex.ev at h
    obtain ⟨⟨r, ρ1⟩, h1, h⟩ := bind_ok h
    obtain ⟨ds, _, h⟩ := bind_ok h
    obtain ⟨its, _, h⟩ := bind_ok h
    obtain ⟨⟨q, ρ2⟩, h2, h⟩ := bind_ok h
    cases h
    refine (le_rest vs ρ2 ?_).trans (Exs.le g as h1)
    refine le_dcL (fun d ρa o ρb hh => ?_) h2
    obtain ⟨ρc, z1, hh⟩ := bind_ok hh
    obtain ⟨⟨tb, ρd⟩, z2, hh⟩ := bind_ok hh
    have l1 := (Exs.tle g cs z2).trans ((le_put t z1).trans (le_wipe vs ρa))
    split at hh
    · obtain ⟨⟨xx, ρe⟩, z3, hh⟩ := bind_ok hh
      obtain ⟨_, _, hh⟩ := bind_ok hh
      obtain ⟨⟨xy, ρf⟩, z4, hh⟩ := bind_ok hh
      cases hh
      exact (Ex.le g vx z4).trans ((Ex.le g kx z3).trans l1)
    · cases hh; exact l1
  | .flt f fz e, ρ, ρ', s, h => by
    unfold Ex.ev at h
    obtain ⟨fd, _, h⟩ := bind_ok h
    rw [fltR_env h]
    exact le_frz fz ρ
  | .lc2 t vs i as cs t1 vs1 i1 as1 cs1 e, ρ, ρ', s, h => by
    unfold Ex.ev at h
    obtain ⟨⟨r, ρ1⟩, h1, h⟩ := bind_ok h
    obtain ⟨ds, _, h⟩ := bind_ok h
    obtain ⟨its, _, h⟩ := bind_ok h
    obtain ⟨⟨q, ρ2⟩, h2, h⟩ := bind_ok h
    cases h
    refine (le_rest vs ρ2 ?_).trans (Exs.le g as h1)
    refine le_lcM (fun d acc ρa o ρb hh => ?_) h2
    obtain ⟨ρc, z1, hh⟩ := bind_ok hh
    obtain ⟨⟨tb, ρd⟩, z2, hh⟩ := bind_ok hh
    have l1 := (Exs.tle g cs z2).trans ((le_put t z1).trans (le_wipe vs ρa))
    split at hh
    · obtain ⟨⟨xx, ρe⟩, z3, hh⟩ := bind_ok hh
      obtain ⟨_, _, hh⟩ := bind_ok hh
      obtain ⟨its1, _, hh⟩ := bind_ok hh
      refine Le.trans ?_ ((Exs.le g as1 z3).trans l1)
      refine le_lcL (fun d1 ρf o1 ρg h3 => ?_) hh
      obtain ⟨ρh, y1, h3⟩ := bind_ok h3
      obtain ⟨⟨tc, ρi⟩, y2, h3⟩ := bind_ok h3
      have l2 := (Exs.tle g cs1 y2).trans ((le_put t1 y1).trans (le_wipe vs1 ρf))
      split at h3
      · obtain ⟨⟨xy, ρj⟩, y3, h3⟩ := bind_ok h3
        cases h3
        exact (Ex.le g e y3).trans l2
      · cases h3; exact l2
    · cases hh; exact l1
  | .cat tp fl as, ρ, ρ', s, h => by
    unfold Ex.ev at h
    obtain ⟨⟨r, ρ1⟩, h1, h⟩ := bind_ok h
    obtain ⟨_, _, h⟩ := bind_ok h
    cases h
    exact Exs.cle g as h1
theorem Exs.cle (g : G) : ∀ (as : Exs) {fl : List Bool} {ρ ρ' : Env} {r : List D}, as.cat g fl ρ = .ok (r, ρ') → Le ρ' ρ
  | .nil, fl, ρ, ρ', r, h => by
    unfold Exs.cat at h
    split at h
    · cases h; exact .refl
    · cases h
  | .cons a as, fl, ρ, ρ', r, h => by
    unfold Exs.cat at h
    split at h
    · cases h
    · obtain ⟨⟨x, ρ1⟩, h1, h⟩ := bind_ok h
      obtain ⟨_, _, h⟩ := bind_ok h
      obtain ⟨⟨q, ρ2⟩, h2, h⟩ := bind_ok h
      cases h
      exact (Exs.cle g as h2).trans (Ex.le g a h1)
  | .bor i as, fl, ρ, ρ', r, h => by
    unfold Exs.cat at h
    cases h
theorem Exs.le (g : G) : ∀ (as : Exs) {ρ ρ' : Env} {r : List Pv}, as.ev g ρ = .ok (r, ρ') → Le ρ' ρ
  | .nil, ρ, ρ', r, h => by
    unfold Exs.ev at h
    cases h; exact .refl
  | .cons a as, ρ, ρ', r, h => by
    unfold Exs.ev at h
    obtain ⟨⟨x, ρ1⟩, h1, h⟩ := bind_ok h
    obtain ⟨⟨q, ρ2⟩, h2, h⟩ := bind_ok h
    cases h
    exact (Exs.le g as h2).trans (Ex.le g a h1)
  | .bor i as, ρ, ρ', r, h => by
    unfold Exs.ev at h
    obtain ⟨_, _, h⟩ := bind_ok h
    obtain ⟨⟨q, ρ2⟩, h2, h⟩ := bind_ok h
    cases h
    exact Exs.le g as h2
theorem Exs.tle (g : G) : ∀ (as : Exs) {ρ ρ' : Env} {b : Bool}, as.tests g ρ = .ok (b, ρ') → Le ρ' ρ
  | .nil, ρ, ρ', r, h => by
    unfold Exs.tests at h
    cases h; exact .refl
  | .cons a as, ρ, ρ', r, h => by
    unfold Exs.tests at h
    obtain ⟨⟨x, ρ1⟩, h1, h⟩ := bind_ok h
    obtain ⟨t, _, h⟩ := bind_ok h
    split at h
    · exact (Exs.tle g as h).trans (Ex.le g a h1)
    · cases h; exact Ex.le g a h1
  | .bor i as, ρ, ρ', r, h => by
    unfold Exs.tests at h
    cases h
end
end Rx

set_option Elab.async false
set_option linter.all false
set_option maxRecDepth 100000
/-! RxG: methods of built-in things that only look; displays of dicts. -/
namespace Rx
open PySem PySem.Spec PyProof.Rows L2
/-- the value is of a built-in type -/
def TyOk (X : Cx) (T : String) (x : V) (H : Hp) : Prop := ∀ (pins : List (Addr × Obj)) (σ : L2.St) (s : Shared) (v : Value), Inv X pins σ H s → RelV x v → s.TypeIs v T ∧ ∀ a, v = .ref a → ∃ ob, s.heap.get? a = some ob ∧ ob.dict = none
def tBG (X : Cx) (T : String) (r : V → List V → Hp → VK → Prop) (to : TE) (t : TA) : TE := fun σ H Q => to σ H fun x H1 => TyOk X T x H1 ∧ t σ H1 fun xs H2 => r x xs H2 Q
section
variable {X : Cx} {T id : String} {name : Str} {r : V → List V → Hp → VK → Prop} {o e : Expr} {es : List Expr} {to : TE} {t : TA} {apos cpos : Pos}
theorem pe_bmG (pa : PlainAttrs T) (slot : Slot T name id) (hty : typeOf (.builtin id) = pure (.type "method_descriptor")) (hm : MtR X id r) (ho : PE X o to) (ha : PA X (e :: es) t)
    (hbase : attributeBase o name X.env (eval o X.env) = eval o X.env)
    (hfew : ((backTo cpos (starEach (e :: es) X.env)).all (fun x => !x.1) && (backToKw cpos (keywordEach [] X.env)).all (fun x => x.1.isSome)
      && decide ((e :: es).length + ([] : List Keyword).length + (if ([] : List Keyword).isEmpty then 0 else 1) < 30)) = true)
    (hline : (apos.endLine == cpos.line) = true) (hs : starEach (e :: es) X.env = (false, eval e X.env) :: starEach es X.env) (hplain : (backTo cpos (starEach es X.env)).any (·.1) = false) :
    PE X (.Call (.Attribute o name apos) (e :: es) [] cpos) (tBG X T r to t) := by
  refine ⟨fun pins s σ H Q I h => ?_⟩
  refine wpAny_Call_method_late hbase hfew hline rfl (thn (ho.run pins s σ H _ I h) fun v s1 ⟨x, H1, I1, r1, ty, q1⟩ => ?_)
  obtain ⟨h1, h2⟩ := ty _ _ _ _ I1 r1
  refine ⟨T, id, pa, slot, hty, h1, h2, ?_⟩
  have hA := ha.run cpos pins s1 σ H1 _ I1 q1
  rw [hs] at hA ⊢
  refine Calls.callWith_builtin (by show (false || (backTo cpos (starEach es X.env)).any (·.1)) = false; rw [hplain] <;> rfl) (Calls.evalArgs_plain ?_)
  exact thn hA fun us s2 ⟨vs, H2, I2, r2, q2⟩ => hm pins s2 σ H2 x vs v us Q I2 r1 r2 q2
end
/-- a method's rule -/
structure BmR (X : Cx) (k : Kx) (m : Bm) (name : Str) : Prop where
  ex : ∃ (T id : String) (r : V → List V → Hp → VK → Prop), PlainAttrs T ∧ Slot T name id ∧ typeOf (.builtin id) = pure (.type "method_descriptor") ∧ MtR X id r ∧
    (∀ (F H : Hp) (v : V) (d : D), Sub F H → PkV k F H v d → m.rcv [d] = true → TyOk X T v H) ∧
    ∀ (F H : Hp) (x : V) (vs : List V) (d : D) (ds : List D) (s : Sl) (Q : VK), Sub F H → PkV k F H x d → Paired (PkV k F H) vs ds → m.ap (d :: ds) = .ok s → (∀ v F' H', New k F H F' H' v s → Q v H') → r x vs H Q
section
variable {X : Cx} {k : Kx}
theorem d_getG1 (hu : X.A.units + 65 < cLine) : MtR X "dict.get" (fun x vs H Q => (∃ a y o, x = .ref a ∧ vs = [y] ∧ DGet H a y o ∧ Q (o.getD .non) H) ∨ ∃ a y z o, x = .ref a ∧ vs = [y, z] ∧ DGet H a y o ∧ Q (o.getD z) H) := by
  intro pins s σ H x xs v us Q I rx rxs h
  rcases h with ⟨a, y, o, rfl, rfl, g, q⟩ | ⟨a, y, z, o, rfl, rfl, g, q⟩
  · cases rx
    obtain ⟨u, rfl, ru⟩ := vals1 rxs
    exact d_get1 (by omega) I g ru fun w' s3 I3 rw' => ⟨_, H, I3, rw', q⟩
  · cases rx
    cases rxs with
    | cons r1 rxs =>
      obtain ⟨u, rfl, ru⟩ := vals1 rxs
      exact d_get2 (by omega) I g r1 ru fun w' s3 I3 rw' => ⟨_, H, I3, rw', q⟩
theorem tyok_dict {H : Hp} {a : Addr} {kvs : List (L2.Key × V)} (h : Rd H a (.dK kvs)) : TyOk X "dict" (.ref a) H := fun pins σ s v I r => by
  cases r
  have g : DGet H a (.int 0) (valV kvs (.inl 0)) := .inl ⟨kvs, .inl 0, h, rfl, rfl⟩
  exact ⟨dict_typeIs I g, dict_noDict I g⟩
theorem repK_getD {F H : Hp} {x : Kk} {kvs : List (L2.Key × V)} {ks : List (Kk × D)} (r : RepK k F kvs ks) {z : V} {dz : D} (hz : PkV k F H z dz) : PkV k F H ((valV kvs x).getD z) ((getK ks x).getD dz) := by
  obtain ⟨h1, h2⟩ := r.get x
  cases q : getK ks x with
  | none => rw [h2 q]; exact hz
  | some d =>
    obtain ⟨v, e, rv⟩ := h1 d q
    rw [e]
    exact .inl rv
theorem pk_frz {F H : Hp} {v : V} {d : D} (h : PkV k F H v d) (no : ∀ a, ¬ OwnR k F H a d) : Rep k F v d := h.resolve_right fun ⟨a, _, z⟩ => no a z
theorem base_rep {F H : Hp} {v : V} {d : D} (h : PkV k F H v d) (hb : d.base = true) : Rep k F v d := pk_frz h fun a z => by
  cases d <;> first | exact z | cases hb
theorem bm_get (hu : X.A.units + 65 < cLine) : BmR X k .get "get" := by
  refine ⟨"dict", "dict.get", _, PySem.F.plainAttrs_dict, PySem.F.slot_dict_get, PySem.F.type_dict_get, d_getG1 hu, fun F H v d sb pv hr => ?_, fun F H x vs d ds s Q sb px pv ap q => ?_⟩
  · unfold Bm.rcv at hr
    split at hr
    · rename_i ks e
      cases e
      obtain ⟨a, kvs, rfl, hx, _⟩ := pk_dic sb pv
      exact tyok_dict hx
    · cases hr
  · unfold Bm.ap at ap
    split at ap
    · rename_i m0 l0 ks y e0 e
      cases e
      obtain ⟨kk, h1, h2⟩ := bind_ok ap
      cases h2
      obtain ⟨a, kvs, rfl, hx, rx⟩ := pk_dic sb px
      obtain ⟨u, rfl, hy⟩ := paired1 pv
      refine .inl ⟨a, u, _, rfl, rfl, .inl ⟨kvs, kk, hx, pk_kk hy (of_ok h1), rfl⟩, ?_⟩
      obtain ⟨z1, z2⟩ := rx.get kk
      cases hg : getK ks kk with
      | none =>
        rw [z2 hg]
        rw [hg] at q
        exact q _ F H (.same .non)
      | some d =>
        obtain ⟨w, e, rv⟩ := z1 d hg
        rw [e]
        rw [hg] at q
        exact q _ F H (.same rv)
    · rename_i m0 l0 ks y z e0 e
      cases e
      split at ap
      · rename_i hb
        obtain ⟨kk, h1, h2⟩ := bind_ok ap
        cases h2
        obtain ⟨a, kvs, rfl, hx, rx⟩ := pk_dic sb px
        obtain ⟨u, w, rfl, hy, hz⟩ := paired2 pv
        refine .inr ⟨a, u, w, _, rfl, rfl, .inl ⟨kvs, kk, hx, pk_kk hy (of_ok h1), rfl⟩, ?_⟩
        obtain ⟨z1, z2⟩ := rx.get kk
        cases hg : getK ks kk with
        | none =>
          rw [z2 hg]
          rw [hg] at q
          exact q _ F H (.same (base_rep hz hb))
        | some d =>
          obtain ⟨w, e, rv⟩ := z1 d hg
          rw [e]
          rw [hg] at q
          exact q _ F H (.same rv)
      · cases ap
    · cases ap
def bmName : Bm → Str
  | .get => "get"
theorem bm_rule (hu : X.A.units + 65 < cLine) (m : Bm) : BmR X k m (bmName m) := by
  cases m with
  | get => exact bm_get hu
theorem bm_noexc (m : Bm) (ds : List D) (c : Nat) (gs : List (Nat × D)) : m.ap ds ≠ .exc c gs := by
  unfold Bm.ap; split <;> first | exact bind_noexc (fun _ _ => of_noexc) fun _ _ _ => ok_ne | (split <;> first | exact bind_noexc (fun _ _ => of_noexc) fun _ _ _ => ok_ne | (intro h; cases h; done)) | (intro h; cases h; done)
end
def bmF (m : Bm) (f0 : Env → R (Pv × Env)) (fs : List (Env → R (Pv × Env))) (ρ : Env) : R (Sl × Env) :=
  (seqF [f0] ρ).bind fun q => (rs q.2 q.1).bind fun d0 => if m.rcv d0 then (seqF fs q.2).bind fun r => (rs r.2 (q.1 ++ r.1)).bind fun ds => (m.ap ds).bind fun s => .ok (s, r.2) else .stuck
section
variable {X : Cx} {k : Kx} {g : G} {c : Cs} {n : Nat} {E : XK}
theorem pe_bmX (x : XOk X k g c n E) (m : Bm) {apos pos : Pos} {o a : Expr} {es : List Expr} {f0 : Env → R (Pv × Env)} {fs : List (Env → R (Pv × Env))} (h0 : PCs X k E [o] [f0]) (h : PCs X k E (a :: es) fs)
    (hs : notSuper o = true) (hn : (a :: es).length < 29) (hl : (apos.endLine == pos.line) = true) : PE X (.Call (.Attribute o (bmName m) apos) (a :: es) [] pos) (tS k E (bmF m f0 fs)) := by
  obtain ⟨T, id, r, b1, b2, b3, b4, b5, b6⟩ := (bm_rule (X := X) (k := k) x.hu m).ex
  have hp := h.plain
  have hp' := hp
  rw [List.all_cons, Bool.and_eq_true] at hp'
  cases h0 with
  | cons n0 ho h0 =>
    refine pe_weak (pe_bmG b1 b2 b3 b4 ho h.pa (attrBase hs) (by rw [allNotStar hp]; simp only [Bool.true_and, Bool.and_eq_true]; exact ⟨rfl, decide_eq_true (by simp only [List.length_nil, List.isEmpty_nil, if_true]; omega)⟩) hl (starEach_plain hp'.1) (noStars hp'.2)) fun σ H Q ⟨F, ρ, K1, p⟩ => ?_
    have p0 : Post k E F H σ ρ ((seqF [f0] ρ).bind fun q => (rs q.2 q.1).bind fun d0 => if m.rcv d0 then (seqF fs q.2).bind fun r => (rs r.2 (q.1 ++ r.1)).bind fun ds => (m.ap ds).bind fun s => .ok (s, r.2) else .stuck) _ := p
    have e0 : seqF [f0] ρ = (f0 ρ).bind fun x => .ok ([x.1], x.2) := by
      show ((f0 ρ).bind fun x => (R.ok ([], x.2)).bind fun r => .ok (x.1 :: r.1, r.2)) = _
      rfl
    rw [e0, R.assoc] at p0
    refine ⟨F, ρ, K1, p0.split.mono fun p1 ρ1 F1 H1 K2 f1 q1 v hv => ?_⟩
    have q1 : Post k E F1 H1 σ ρ1 ((rs ρ1 [p1]).bind fun d0 => if m.rcv d0 then (seqF fs ρ1).bind fun r => (rs r.2 ([p1] ++ r.1)).bind fun ds => (m.ap ds).bind fun s => .ok (s, r.2) else .stuck) _ := q1
    obtain ⟨d0, r1, q2⟩ := Post.rs q1
    have pk := K2.pk (vs := [v]) (.cons hv .nil) r1
    have hd0 : ∃ d, d0 = [d] := by
      cases pk with
      | cons _ r => cases r; exact ⟨_, rfl⟩
    obtain ⟨d, rfl⟩ := hd0
    split at q2
    · rename_i hr
      cases pk with
      | cons pk _ =>
        refine ⟨b5 F1 H1 v d K2.sub pk hr, F1, ρ1, K2, q2.split.mono fun pv ρ2 F2 H2 K3 f2 q3 vs hvs => ?_⟩
        obtain ⟨ds, r2, q4⟩ := Post.rs q3
        have pk2 := K3.pk (vs := [v] ++ vs) (pairs_append (.cons (hv.mono f2.ext) .nil) hvs) r2
        cases pk2 with
        | cons px pv' =>
          obtain ⟨s, hs', hq⟩ := Fin.ok K3 (fun b q => f2.dom b (f1.dom b q)) (bm_noexc m _) q4
          exact b6 F2 H2 v vs _ _ s Q K3.sub px pv' hs' hq
    · exact q2.elim
end
/-! ### displays of dicts -/
/-- the operands of a display, in their order -/
def flatD : List (Option Expr) → List Expr → Option (List Expr)
  | [], [] => some []
  | some a :: ks, b :: vs => (flatD ks vs).map fun r => a :: b :: r
  | _, _ => none
def pairUp : List V → List (V × V)
  | x :: y :: r => (x, y) :: pairUp r
  | _ => []
def prF (k : Kx) (E : XK) : List (Env → R (Pv × Env)) → List (TE × TE)
  | f :: f' :: r => (tP k E f, tP k E f') :: prF k E r
  | _ => []
section
variable {X : Cx} {k : Kx} {E : XK} {F H H2 : Hp} {σ : St} {ρ : Env}
theorem Post.grow {α : Type} {r : R (α × Env)} {P : α → Env → Hp → Hp → Prop} (h : Post k E F H σ ρ r P) (e : ∀ b o, H b = some o → H2 b = some o) : Post k E F H2 σ ρ r (fun a ρ' F' H' => P a ρ' F' H' ∧ Fr F σ H2 ρ F' σ H' ρ') := by
  cases r with
  | ok a =>
    obtain ⟨a, ρ'⟩ := a
    exact fun F' H' K1 f => ⟨h F' H' K1 ⟨f.ext, fun b q => f.dom b (q.keep e), fun b o nt q1 q2 q3 => f.keep b o nt (e _ _ q1) q2 q3⟩, f⟩
  | exc c gs => exact fun cls d F' H' s f x => h cls d F' H' s ⟨f.ext, fun b q => f.dom b (q.keep e), fun b o nt q1 q2 q3 => f.keep b o nt (e _ _ q1) q2 q3, f.fnt⟩ x
  | stuck => exact h
theorem flat_pps : ∀ {keys : List (Option Expr)} {vals es : List Expr} {fs : List (Env → R (Pv × Env))} {pos : Pos}, flatD keys vals = some es → PCs X k E es fs → PPs X pos keys vals (prF k E fs) ∧ keys.all (·.isSome) = true ∧ keys.length = vals.length
  | [], [], es, fs, pos, h, p => by
    cases h
    cases p
    exact ⟨pps_nil, rfl, rfl⟩
  | [], _ :: _, es, fs, pos, h, p => by cases h
  | none :: _, _, es, fs, pos, h, p => by cases h
  | some a :: ks, [], es, fs, pos, h, p => by cases h
  | some a :: ks, b :: vs, es, fs, pos, h, p => by
    obtain ⟨r, h1, rfl⟩ := Option.map_eq_some_iff.mp (show (flatD ks vs).map (fun r => a :: b :: r) = some es from h)
    cases p with
    | cons n1 ha p =>
      cases p with
      | cons n2 hb p =>
        obtain ⟨z1, z2, z3⟩ := flat_pps (pos := pos) h1 p
        exact ⟨pps_cons ha hb z1, by rw [List.all_cons, z2]; rfl, congrArg (· + 1) z3⟩
theorem flat_run : ∀ {keys : List (Option Expr)} {vals es : List Expr} {fs : List (Env → R (Pv × Env))}, flatD keys vals = some es → PCs X k E es fs → ∀ {F H : Hp} {ρ : Env} {Q : List (V × V) → Hp → Prop}, Okk k F σ H ρ →
    Post k E F H σ ρ (seqF fs ρ) (fun pvs ρ' F' H' => ∀ vs, PvRs k F' σ vs pvs → Q (pairUp vs) H') → tPairs (prF k E fs) σ H Q
  | [], [], es, fs, h, p, F, H, ρ, Q, K1, q => by
    cases h
    cases p
    exact q.here K1 [] .nil
  | [], _ :: _, es, fs, h, p, F, H, ρ, Q, K1, q => by cases h
  | none :: _, _, es, fs, h, p, F, H, ρ, Q, K1, q => by cases h
  | some a :: ks, [], es, fs, h, p, F, H, ρ, Q, K1, q => by cases h
  | some a :: ks, b :: vs, es, fs, h, p, F, H, ρ, Q, K1, q => by
    obtain ⟨r, h1, rfl⟩ := Option.map_eq_some_iff.mp (show (flatD ks vs).map (fun r => a :: b :: r) = some es from h)
    cases p with
    | cons n1 ha p =>
      cases p with
      | @cons _ _ f2 fs n2 hb p =>
        rename_i f1
        have q : Post k E F H σ ρ ((f1 ρ).bind fun x => (seqF (f2 :: fs) x.2).bind fun r => .ok (x.1 :: r.1, r.2)) _ := q
        refine ⟨F, ρ, K1, q.split.mono fun x ρ1 F1 H1 K2 fr1 q1 v hv => ?_⟩
        have q1 : Post k E F1 H1 σ ρ1 ((((f2 ρ1).bind fun y => (seqF fs y.2).bind fun r => .ok (y.1 :: r.1, r.2))).bind fun r => .ok (x :: r.1, r.2)) _ := q1
        rw [R.assoc] at q1
        refine ⟨F1, ρ1, K2, q1.split.mono fun y ρ2 F2 H2 K3 fr2 q2 u hu => ?_⟩
        rw [R.assoc] at q2
        refine flat_run h1 p K3 (q2.split.mono fun pvs ρ3 F3 H3 K4 fr3 q3 vs hvs => ?_)
        exact q3.here K4 (v :: u :: vs) (.cons ((hv.mono fr2.ext).mono fr3.ext) (.cons (hu.mono fr3.ext) hvs))
theorem fold_rep : ∀ {ps : List (Kk × D)} {qs kvs : List (L2.Key × V)} {ks : List (Kk × D)}, RepK k F qs ps → RepK k F kvs ks → RepK k F (mergeK kvs qs) (ps.foldl (fun acc p => setK acc p.1 p.2) ks)
  | [], _, kvs, ks, h, r => by cases h; exact r
  | (x, d) :: ps, _, kvs, ks, h, r => by
    cases h with
    | cons h r' =>
      have := fold_rep r' (r.put h x)
      exact this
theorem pairs_rep : ∀ {ds : List D} {vs : List V} {ps : List (Kk × D)}, Reps k F vs ds → pairsD ds = some ps → ∃ qs, pairUp vs = qs.map (fun kv => (kV kv.1, kv.2)) ∧ RepK k F qs ps
  | [], vs, ps, r, h => by
    cases r
    cases h
    exact ⟨[], rfl, .nil⟩
  | [_], vs, ps, r, h => by cases h
  | d :: e :: ds, vs, ps, r, h => by
    cases r with
    | cons hd r =>
      cases r with
      | cons he r =>
        obtain ⟨kk, h1, h2⟩ := Option.bind_eq_some_iff.mp (show (keyD d).bind (fun k => (pairsD ds).map ((k, e) :: ·)) = some ps from h)
        obtain ⟨ps', h3, rfl⟩ := Option.map_eq_some_iff.mp h2
        obtain ⟨qs, q1, q2⟩ := pairs_rep r h3
        refine ⟨(kk, _) :: qs, ?_, .cons he q2⟩
        show (_, _) :: pairUp _ = _
        rw [q1, pk_kk (k := k) (F := F) (H := F) (.inl hd) h1]
        rfl
theorem pe_dspX (hc : X.calm = true) {keys : List (Option Expr)} {vals es : List Expr} {fs : List (Env → R (Pv × Env))} {pos : Pos} (hf : flatD keys vals = some es) (h : PCs X k E es fs) (h0 : keys ≠ []) (h15 : keys.length ≤ 15) :
    PE X (.Dict keys vals pos) (tS k E (opP false fs (Op.ap .dsp))) := by
  obtain ⟨z1, z2, z3⟩ := flat_pps (pos := pos) hf h
  refine pe_weak (pe_disp z1 z2 z3 h0 h15) fun σ H Q ⟨F, ρ, K1, p⟩ p0 hp0 => ?_
  have hk : ∀ b u, H b = some u → upd H p0 (.dK []) b = some u := fun b u q => by rw [upd_ne (ne_of_none q hp0)]; exact q
  have K2 : Okk k F σ (upd H p0 (.dK [])) ρ := K1.heap (fun b u q => hk _ _ (K1.sub b u q)) (fun b u _ q => hk b u q) (.of hk)
  have fp := none_of_sub K1.sub hp0
  have np := not_ow_new K1 hp0
  unfold opP at p
  cases hq : seqF fs ρ with
  | exc c gs =>
    rw [hq] at p
    refine flat_run hf h K2 ?_
    rw [hq]
    have p : Post k E F H σ ρ (R.exc c gs : R (List Pv × Env)) (fun _ _ _ _ => False) := p
    exact (p.grow hk)
  | stuck => rw [hq] at p; exact p.elim
  | ok q0 =>
    obtain ⟨pvs, ρ1⟩ := q0
    rw [hq] at p
    refine flat_run hf h K2 ?_
    rw [hq]
    intro F1 H1 K3 f2 vs hvs
    obtain ⟨y1, y2, y3⟩ := f2.keep p0 (HO.dK []) (fun ps z => HO.noConfusion z) upd_same fp np
    have q1 : Post k E F H σ ρ ((frzs pvs).bind fun ds => (dspD ds).bind fun s => .ok (s, ρ1)) _ := p
    cases hz0 : frzs pvs with
    | exc c gs => exact absurd hz0 frzs_noexc
    | stuck => rw [hz0] at q1; exact q1.elim
    | ok ds =>
      have rp := frzs_rep hvs hz0
      rw [hz0] at q1
      have q2 : Post k E F H σ ρ ((dspD ds).bind fun s => .ok (s, ρ1)) _ := q1
      unfold dspD at q2
      split at q2
      · rename_i ps hps
        split at q2
        · rename_i hz
          obtain ⟨qs, r1, r2⟩ := pairs_rep rp hps
          refine ⟨y1, qs, r1, by rw [r2.length]; exact hz.2, ?_⟩
          have ro : OwnR k F1 (upd H1 p0 (.dK (mergeK [] qs))) p0 (.dic (ps.foldl (fun acc p => setK acc p.1 p.2) [])) := ⟨_, upd_same, fold_rep r2 .nil⟩
          have K4 : Okk k F1 σ (upd H1 p0 (.dK (mergeK [] qs))) ρ1 := K3.heap (fun b u q => by
            have : b ≠ p0 := fun z => by rw [z, y2] at q; cases q
            rw [upd_ne this]
            exact K3.sub b u q) (fun a o ha q => by
            have : a ≠ p0 := fun z => y3 (z ▸ ha)
            rw [upd_ne this]
            exact q) (TbS.upd y1 (fun ps z => (nomatch z)) fun P z => (nomatch z))
          refine q2 F1 _ K4 ⟨f2.ext, fun b hb => dom_upd (o := .dK (mergeK [] qs)) (fun _ z => (nomatch z)) b (f2.dom b (hb.keep hk)), fun b o nt w1 w2 w3 => ?_⟩ (.ref p0) ⟨p0, rfl, y2, ro, y3, nz_none hp0⟩
          obtain ⟨x1, x2, x3⟩ := f2.keep b o nt (hk _ _ w1) w2 w3
          exact ⟨by rw [upd_ne (ne_of_none w1 hp0)]; exact x1, x2, x3⟩
        · exact q2.elim
      · exact q2.elim
end
end Rx

set_option Elab.async false
set_option linter.all false
set_option maxRecDepth 100000
/-! Rx14: statements. -/
namespace Rx
open PySem PySem.Spec PyProof.Rows L2
/-- a frame's state: what is owned and not lent is younger than the entry Hb -/
structure OkM (k : Kx) (lk : Nat → Bool) (Hb F H : Hp) (σ : St) (ρ : Env) : Prop where
  ok : Okk k F σ H ρ
  new : ∀ (i : Nat) (d : D) (a : Addr), lk i = false → ρ[i]? = some (some (Sl.own d)) → σ[i]? = some (some (V.ref a)) → ¬ Nz Hb a
  dom : ∀ b, Nz Hb b → Nz H b
def PostS (k : Kx) (E : XK) (lk : Nat → Bool) (Hb F H : Hp) (σ : St) (ρ : Env) (r : R (Fl × Env)) (P : Fl → Env → Hp → St → Hp → Prop) : Prop := match r with
  | .ok (a, ρ') => ∀ F' σ' H', OkM k lk Hb F' H' σ' ρ' → Fr F σ H ρ F' σ' H' ρ' → (∀ (i : Nat), lk i = true → σ'[i]? = σ[i]?) → P a ρ' F' σ' H'
  | .exc c gs => ∀ cls d F' H', Sub F' H' → FrX F σ H ρ F' H' → ExV k F' H' c gs cls d → E cls d H'
  | .stuck => False
def PM (k : Kx) (D : Ends) (Hb : Hp) : Fl → Env → Hp → St → Hp → Prop
  | .nx, _, _, σ, H => D.nx σ H
  | .bk, _, _, σ, H => D.bk σ H
  | .ct, _, _, σ, H => D.ct σ H
  | .rt s, ρ, F, σ, H => ∀ v, RsR k F H σ ρ Hb v s → D.rt v H
def tM (k : Kx) (E : XK) (lk : Nat → Bool) (f : Env → R (Fl × Env)) : TS := fun D σ H => ∃ Hb F ρ, OkM k lk Hb F H σ ρ ∧ PostS k E lk Hb F H σ ρ (f ρ) (PM k D Hb)
def Mono {α : Type} (f : Env → R (α × Env)) : Prop := ∀ ρ a ρ', f ρ = .ok (a, ρ') → Le ρ' ρ
section
variable {k : Kx} {E : XK} {lk : Nat → Bool} {Hb F H F1 H1 : Hp} {σ σ1 : St} {ρ ρ1 ρ' : Env} {P P' : Fl → Env → Hp → St → Hp → Prop} {r : R (Fl × Env)} {α : Type}
theorem PostS.shift (p : PostS k E lk Hb F H σ ρ r P) (f : Fr F σ H ρ F1 σ1 H1 ρ1) (l : ∀ (i : Nat), lk i = true → σ1[i]? = σ[i]?) : PostS k E lk Hb F1 H1 σ1 ρ1 r P := by
  cases r with
  | ok a =>
    obtain ⟨a, ρ'⟩ := a
    exact fun F2 σ2 H2 K2 f2 l2 => p F2 σ2 H2 K2 (f.trans f2) fun i h => (l2 i h).trans (l i h)
  | exc c gs => exact fun cls d F2 H2 s2 f2 x => p cls d F2 H2 s2 (f.x f2) x
  | stuck => exact p
theorem PostS.split {h : Fl × Env → R (Fl × Env)} (p : PostS k E lk Hb F H σ ρ (r.bind h) P) : PostS k E lk Hb F H σ ρ r fun a ρ1 F1 σ1 H1 => PostS k E lk Hb F1 H1 σ1 ρ1 (h (a, ρ1)) P := by
  cases r with
  | ok a =>
    obtain ⟨a, ρ1⟩ := a
    exact fun F1 σ1 H1 K1 f1 l1 => PostS.shift (r := h (a, ρ1)) p f1 l1
  | exc c gs => exact p
  | stuck => exact p
theorem PostS.mono (p : PostS k E lk Hb F H σ ρ r P) (m : ∀ a ρ1 F1 σ1 H1, OkM k lk Hb F1 H1 σ1 ρ1 → Fr F σ H ρ F1 σ1 H1 ρ1 → P a ρ1 F1 σ1 H1 → P' a ρ1 F1 σ1 H1) : PostS k E lk Hb F H σ ρ r P' := by
  cases r with
  | ok a =>
    obtain ⟨a, ρ1⟩ := a
    exact fun F1 σ1 H1 K1 f1 l1 => m _ _ _ _ _ K1 f1 (p F1 σ1 H1 K1 f1 l1)
  | exc c gs => exact p
  | stuck => exact p
theorem PostS.here {a : Fl} (p : PostS k E lk Hb F H σ ρ (.ok (a, ρ)) P) (K1 : OkM k lk Hb F H σ ρ) : P a ρ F σ H := p F σ H K1 .refl fun _ _ => rfl
theorem OkM.le (K : OkM k lk Hb F H σ ρ) (K1 : Okk k F1 σ H1 ρ1) (f : Fr F σ H ρ F1 σ H1 ρ1) (l : Le ρ1 ρ) : OkM k lk Hb F1 H1 σ ρ1 :=
  ⟨K1, fun i d a hi h1 h2 => by
    obtain ⟨d', h3⟩ := own_at (l i (by rw [h1]; rfl))
    exact K.new i d' a hi h3 h2, fun b hb => f.dom b (K.dom b hb)⟩
theorem OkM.got (K : OkM k lk Hb F H σ ρ) (z : GoT k lk F H σ ρ F1 H1 σ1 ρ1) : OkM k lk Hb F1 H1 σ1 ρ1 :=
  ⟨z.ok, fun i d a hi h1 h2 => by
    obtain ⟨q1, q2⟩ := z.own i (by rw [h1]; rfl)
    obtain ⟨d', h3⟩ := own_at q1
    exact K.new i d' a hi h3 (by rw [← q2]; exact h2), fun b hb => z.fr.dom b (K.dom b hb)⟩
/-- an expression is run first -/
theorem PostS.expr {f : R (α × Env)} {h : α × Env → R (Fl × Env)} (m : ∀ a ρ', f = .ok (a, ρ') → Le ρ' ρ) (K : OkM k lk Hb F H σ ρ) (p : PostS k E lk Hb F H σ ρ (f.bind h) P) :
    Post k E F H σ ρ f fun a ρ1 F1 H1 => OkM k lk Hb F1 H1 σ ρ1 ∧ PostS k E lk Hb F1 H1 σ ρ1 (h (a, ρ1)) P := by
  cases f with
  | ok a =>
    obtain ⟨a, ρ1⟩ := a
    exact fun F1 H1 K1 f1 => ⟨K.le K1 f1 (m _ _ rfl), PostS.shift (r := h (a, ρ1)) p f1 fun _ _ => rfl⟩
  | exc c gs => exact p
  | stuck => exact p
/-- .. and its value is kept whole -/
theorem PostS.exprO {f : R (α × Env)} {h : α × Env → R (Fl × Env)} (m : ∀ a ρ', f = .ok (a, ρ') → Le ρ' ρ) (K : OkM k lk Hb F H σ ρ) (p : PostS k E lk Hb F H σ ρ (f.bind h) P) :
    Post k E F H σ ρ f fun a ρ1 F1 H1 => OkM k lk Hb F1 H1 σ ρ1 ∧ Fr F σ H ρ F1 σ H1 ρ1 ∧ PostS k E lk Hb F H σ ρ (h (a, ρ1)) P := by
  cases f with
  | ok a =>
    obtain ⟨a, ρ1⟩ := a
    exact fun F1 H1 K1 f1 => ⟨K.le K1 f1 (m _ _ rfl), f1, p⟩
  | exc c gs => exact p
  | stuck => exact p
theorem PostS.look {γ : Type} {r : R γ} {g : γ → R (Fl × Env)} (h : PostS k E lk Hb F H σ ρ (r.bind g) P) : (∃ x, r = .ok x ∧ PostS k E lk Hb F H σ ρ (g x) P) ∨ (∃ c gs, r = .exc c gs) := by
  cases r with
  | ok x => exact .inl ⟨x, rfl, h⟩
  | exc c gs => exact .inr ⟨c, gs, rfl⟩
  | stuck => exact h.elim
/-- a value is stored in a name -/
theorem store_okm {v : V} {s : Sl} {i : Nat} (K0 : OkM k lk Hb F H σ ρ) (K1 : OkM k lk Hb F1 H1 σ ρ1) (f1 : Fr F σ H ρ F1 σ H1 ρ1) (r : RsR k F1 H1 σ ρ1 H v s) (hi : i < ρ1.length) (hk : lk i = false) :
    OkM k lk Hb F1 H1 (σ.set i (some v)) (ρ1.set i (some s)) ∧ Fr F σ H ρ F1 (σ.set i (some v)) H1 (ρ1.set i (some s)) ∧ ∀ (j : Nat), lk j = true → (σ.set i (some v))[j]? = σ[j]? := by
  have hl : i < σ.length := by rw [← K1.ok.len]; exact hi
  have lkk : ∀ (j : Nat), lk j = true → (σ.set i (some v))[j]? = σ[j]? := fun j hj => by
    have : j ≠ i := fun e => by subst e; rw [hk] at hj; cases hj
    rw [List.getElem?_set_ne (Ne.symm this)]
  cases s with
  | frz d =>
    have z := got_setf (lk := lk) K1.ok r hi hk
    exact ⟨K1.got z, f1.trans z.fr, lkk⟩
  | own d =>
    obtain ⟨a, rfl, r1, r2, r3, r4⟩ := r
    -- an owner behind the store: the new one, or one from before
    have own : ∀ {j : Nat} {e : D} {b : Addr}, (ρ1.set i (some (Sl.own d)))[j]? = some (some (Sl.own e)) → (σ.set i (some (V.ref a)))[j]? = some (some (V.ref b)) → (j = i ∧ b = a ∧ e = d) ∨ (j ≠ i ∧ ρ1[j]? = some (some (Sl.own e)) ∧ σ[j]? = some (some (V.ref b))) := fun {j e b} h1 h2 => by
      by_cases hj : j = i
      · subst hj
        rw [List.getElem?_set_self hi] at h1
        rw [List.getElem?_set_self hl] at h2
        cases h1
        cases h2
        exact .inl ⟨rfl, rfl, rfl⟩
      · rw [List.getElem?_set_ne (Ne.symm hj)] at h1 h2
        exact .inr ⟨hj, h1, h2⟩
    refine ⟨⟨⟨K1.ok.sub, by rw [List.length_set, List.length_set]; exact K1.ok.len, fun j s h => ?_, fun j j' b d1 d2 h1 h2 h3 h4 => ?_, K1.ok.tabs, K1.ok.fnt⟩, fun j e b hj h1 h2 => ?_, K1.dom⟩, ⟨f1.ext, f1.dom, fun b o nt q1 q2 q3 => ?_⟩, lkk⟩
    · by_cases hj : j = i
      · subst hj
        rw [List.getElem?_set_self hi] at h
        cases h
        exact ⟨.ref a, by rw [List.getElem?_set_self hl], a, rfl, r1, r2⟩
      · rw [List.getElem?_set_ne (Ne.symm hj)] at h
        obtain ⟨u, h1, h2⟩ := K1.ok.val j s h
        exact ⟨u, by rw [List.getElem?_set_ne (Ne.symm hj)]; exact h1, h2⟩
    · rcases own h1 h3 with ⟨e1, e2, _⟩ | ⟨n1, y1, y2⟩
      · rcases own h2 h4 with ⟨e1', e2', _⟩ | ⟨n1', y1', y2'⟩
        · rw [e1, e1']
        · exact absurd ⟨j', d2, y1', by rw [← e2]; exact y2'⟩ r3
      · rcases own h2 h4 with ⟨e1', e2', _⟩ | ⟨n1', y1', y2'⟩
        · exact absurd ⟨j, d1, y1, by rw [← e2']; exact y2⟩ r3
        · exact K1.ok.inj j j' b d1 d2 y1 y1' y2 y2'
    · rcases own h1 h2 with ⟨_, e2, _⟩ | ⟨_, y1, y2⟩
      · subst e2
        exact fun z => r4 (K0.dom b z)
      · exact K1.new j e b hj y1 y2
    · obtain ⟨z1, z2, z3⟩ := f1.keep b o nt q1 q2 q3
      refine ⟨z1, z2, fun ⟨j, e, y1, y2⟩ => ?_⟩
      rcases own y1 y2 with ⟨_, e2, _⟩ | ⟨_, w1, w2⟩
      · subst e2
        exact r4 ⟨o, q1, nt⟩
      · exact z3 ⟨j, e, w1, w2⟩
end
section
variable {X : Cx} {k : Kx} {g : G} {c : Cs} {n : Nat} {E : XK} {lk : Nat → Bool}
/-! ### blocks -/
theorem pss_nilX : PSs X [] (tM k E lk fun ρ => .ok (.nx, ρ)) := pss_weak pss_nil fun D σ H ⟨Hb, F, ρ, K, p⟩ => p.here K
theorem pss_consX {s : Stmt} {rest : List Stmt} {f h : Env → R (Fl × Env)} (h1 : PS X s (tM k E lk f)) (h2 : PSs X rest (tM k E lk h)) :
    PSs X (s :: rest) (tM k E lk fun ρ => (f ρ).bind fun x => match x.1 with | .nx => h x.2 | fl => .ok (fl, x.2)) := by
  refine pss_weak (pss_cons h1 h2) fun D σ H ⟨Hb, F, ρ, K, p⟩ => ?_
  refine ⟨Hb, F, ρ, K, PostS.mono (PostS.split p) fun a ρ1 F1 σ1 H1 K1 f1 p1 => ?_⟩
  cases a with
  | nx => exact ⟨Hb, F1, ρ1, K1, p1⟩
  | rt s => exact p1.here K1
  | bk => exact p1.here K1
  | ct => exact p1.here K1
theorem ps_passX {pos : Pos} : PS X (.Pass pos) (tM k E lk fun ρ => .ok (.nx, ρ)) := ps_weak ps_pass fun D σ H ⟨Hb, F, ρ, K, p⟩ => p.here K
theorem ps_brkX {pos : Pos} : PS X (.Break pos) (tM k E lk fun ρ => .ok (.bk, ρ)) := ps_weak ps_break fun D σ H ⟨Hb, F, ρ, K, p⟩ => p.here K
theorem ps_cntX {pos : Pos} : PS X (.Continue pos) (tM k E lk fun ρ => .ok (.ct, ρ)) := ps_weak ps_continue fun D σ H ⟨Hb, F, ρ, K, p⟩ => p.here K
theorem ps_retNX {pos : Pos} : PS X (.Return none pos) (tM k E lk fun ρ => .ok (.rt (.frz .non), ρ)) := ps_weak ps_retN fun D σ H ⟨Hb, F, ρ, K, p⟩ => p.here K .non .non
theorem ps_docX {t : Str} {j : Nat} {p pos : Pos} : PS X (.Expr (.Constant (.str t) j p) pos) (tM k E lk fun ρ => .ok (.nx, ρ)) := ps_weak ps_doc fun D σ H ⟨Hb, F, ρ, K, p⟩ => p.here K
theorem ps_exX {e : Expr} {f : Env → R (Sl × Env)} {pos : Pos} (he : PE X e (tS k E f)) (m : Mono f) (hs : swapsWith e none pos.line X.env = pure false) : PS X (.Expr e pos) (tM k E lk fun ρ => (f ρ).bind fun x => .ok (.nx, x.2)) := by
  refine ps_weak (ps_expr (pe_fz he) hs) fun D σ H ⟨Hb, F, ρ, K, p⟩ => ?_
  exact ⟨F, ρ, K.ok, (PostS.expr (fun a ρ' => m ρ a ρ') K p).mono fun s ρ1 F1 H1 K1 f1 ⟨K2, p2⟩ v r => p2.here K2⟩
def setF (lk : Nat → Bool) (i : Nat) (f : Env → R (Sl × Env)) (ρ : Env) : R (Fl × Env) := (f ρ).bind fun x => if lk i || decide (x.2.length ≤ i) then .stuck else .ok (.nx, x.2.set i (some x.1))
theorem set_weak {i : Nat} {f : Env → R (Sl × Env)} (m : Mono f) {D : Ends} {σ : St} {H : Hp} (q : tM k E lk (setF lk i f) D σ H) : tAsg (tS k E f) (gName i) D σ H := by
  obtain ⟨Hb, F, ρ, K, p⟩ := q
  refine ⟨F, ρ, K.ok, (PostS.exprO (fun a ρ' => m ρ a ρ') K p).mono fun s ρ1 F1 H1 K1 f1 ⟨K2, f1, p2⟩ v r => ?_⟩
  have p2 : PostS k E lk Hb F H σ ρ (if (lk i || decide (ρ1.length ≤ i)) = true then .stuck else .ok (.nx, ρ1.set i (some s))) (PM k D Hb) := p2
  by_cases hb : (lk i || decide (ρ1.length ≤ i)) = true
  · rw [if_pos hb] at p2; exact p2.elim
  · rw [if_neg hb] at p2
    rw [Bool.or_eq_true, not_or] at hb
    obtain ⟨z1, z2, z3⟩ := store_okm K K2 f1 r (by simpa using hb.2) (by simpa using hb.1)
    exact p2 _ _ _ z1 z2 z3
theorem ps_setX (x : XOk X k g c n E) {i : Nat} {nm : Str} {e : Expr} {f : Env → R (Sl × Env)} {pos' pos : Pos} (h : strB c i nm = true) (he : PE X e (tS k E f)) (m : Mono f) (hs : swapsWith e (some (.Name nm pos')) pos.line X.env = pure false) :
    PS X (.Assign [.Name nm pos'] e pos) (tM k E lk (setF lk i f)) := by
  obtain ⟨h1, h2, h3⟩ := strB_d x h
  exact ps_weak (ps_set x.nd h1 h2 he hs h3) fun D σ H q => set_weak m q
/-- target = e, the value frozen -/
def asgF (lk : Nat → Bool) (t : Tg) (f : Env → R (Sl × Env)) (ρ : Env) : R (Fl × Env) := (f ρ).bind fun x => (t.put lk x.1.d x.2).bind fun ρ1 => .ok (.nx, ρ1)
theorem put_noexc {lk : Nat → Bool} : ∀ (t : Tg) {d : D} {ρ : Env} {c : Nat} {gs : List (Nat × D)}, t.put lk d ρ ≠ .exc c gs := by
  intro t
  refine Tg.rec (motive_1 := fun t => ∀ {d : D} {ρ : Env} {c : Nat} {gs : List (Nat × D)}, t.put lk d ρ ≠ .exc c gs) (motive_2 := fun ts => ∀ {ds : List D} {ρ : Env} {c : Nat} {gs : List (Nat × D)}, Tgs.put lk ts ds ρ ≠ .exc c gs) ?_ ?_ ?_ ?_ ?_ t
  · intro i d ρ c gs h
    unfold Tg.put at h
    split at h
    · cases h
    · split at h <;> cases h
  · intro j f d ρ c gs h
    unfold Tg.put at h
    split at h
    · split at h <;> cases h
    · cases h
  · intro ts ih d ρ c gs h
    unfold Tg.put at h
    split at h
    · exact ih h
    · exact ih h
    · cases h
  · intro ds ρ c gs h
    cases ds <;> cases h
  · intro t ts ih1 ih2 ds ρ c gs h
    cases ds with
    | nil => cases h
    | cons d ds =>
      have h : ((t.put lk d ρ).bind fun ρ1 => Tgs.put lk ts ds ρ1) = .exc c gs := h
      exact bind_noexc (fun _ _ => ih1) (fun _ _ _ => ih2) h
theorem ps_asgX {tg e : Expr} {t : Tg} {f : Env → R (Sl × Env)} {pos : Pos} (hg : PG X tg (tG k lk t)) (he : PE X e (tS k E f)) (m : Mono f) (hs : swapsWithSole [tg] e pos.line X.env = pure false) (hw : swappedStores [tg] e X.env = pure none) (hn : notStarT tg = true) :
    PS X (.Assign [tg] e pos) (tM k E lk (asgF lk t f)) := by
  refine ps_weak (ps_asg (pe_fz he) hg hs hw (by rw [assignEach_plain hn]; rfl)) fun D σ H ⟨Hb, F, ρ, K, p⟩ => ?_
  refine ⟨F, ρ, K.ok, (PostS.expr (fun a ρ' => m ρ a ρ') K p).mono fun s ρ1 F1 H1 K1 f1 ⟨K2, p2⟩ v r => ?_⟩
  rcases p2.look with ⟨ρ2, h2, p3⟩ | ⟨_, _, z⟩
  · exact ⟨F1, ρ1, s.d, ρ2, K2.ok, r, h2, fun F' σ' H' z => p3 F' σ' H' (K2.got z) z.fr z.lk⟩
  · exact absurd z (put_noexc _)
/-! ### return -/
theorem ps_retE {e : Expr} {f : Env → R (Sl × Env)} {pos : Pos} (he : PE X e (tS k E f)) (m : Mono f) : PS X (.Return (some e) pos) (tM k E lk fun ρ => (f ρ).bind fun x => .ok (.rt x.1, x.2)) := by
  refine ps_weak (ps_ret he) fun D σ H ⟨Hb, F, ρ, K, p⟩ => ?_
  exact ⟨F, ρ, K.ok, (PostS.exprO (fun a ρ' => m ρ a ρ') K p).mono fun s ρ1 F1 H1 K1 f1 ⟨K2, f1, p2⟩ v r => p2 F1 σ H1 K2 f1 (fun _ _ => rfl) v (r.back K.dom)⟩
def retV (lk : Nat → Bool) (i : Nat) (ρ : Env) : R (Sl × Env) := if lk i then rdF ρ i else (match ρ[i]? with
    | some (some (.own d)) => .ok (.own d, ρ.set i none)
    | _ => rdF ρ i)
theorem ps_retVX (x : XOk X k g c n E) {i : Nat} {nm : Str} {p pos : Pos} (h : varB c i nm = true) : PS X (.Return (some (.Name nm p)) pos) (tM k E lk fun ρ => (retV lk i ρ).bind fun x => .ok (.rt x.1, x.2)) := by
  have hr := pe_rdF (pos := p) x h
  have h1 := pe_varX (pos := p) x h
  -- by what the name holds
  have key : PE X (.Name nm p) (fun σ H Q => ∃ b : Bool, if b = true then tVar i σ H Q else tS k E (fun ρ => rdF ρ i) σ H Q) := by
    refine pe_weak (pe_any (ι := Bool) (t := fun b => if b then tVar i else tS k E fun ρ => rdF ρ i) fun b => ?_) fun σ H Q ⟨b, q⟩ => ⟨b, ?_⟩
    · cases b with
      | true => exact h1
      | false => exact hr
    · cases b <;> exact q
  refine ps_weak (ps_ret key) fun D σ H ⟨Hb, F, ρ, K, p⟩ => ?_
  have go : retV lk i ρ = rdF ρ i → tRet (fun σ H Q => ∃ b : Bool, if b = true then tVar i σ H Q else tS k E (fun ρ => rdF ρ i) σ H Q) D σ H := fun e => by
    have p : PostS k E lk Hb F H σ ρ ((retV lk i ρ).bind fun x => .ok (.rt x.1, x.2)) (PM k D Hb) := p
    rw [e] at p
    refine ⟨false, F, ρ, K.ok, (PostS.exprO (fun a ρ' => le_rdF) K p).mono fun s ρ1 F1 H1 K1 f1 ⟨K2, f1, p2⟩ v r => p2 F1 σ H1 K2 f1 (fun _ _ => rfl) v (r.back K.dom)⟩
  by_cases hk : lk i = true
  · exact go (by unfold retV; rw [if_pos hk])
  · cases q : ρ[i]? with
    | none => exact go (by unfold retV; rw [if_neg hk, q])
    | some o =>
      cases o with
      | none => exact go (by unfold retV; rw [if_neg hk, q])
      | some s =>
        cases s with
        | frz d => exact go (by unfold retV; rw [if_neg hk, q])
        | own d =>
          have e : retV lk i ρ = .ok (.own d, ρ.set i none) := by unfold retV; rw [if_neg hk, q]
          have p : PostS k E lk Hb F H σ ρ ((retV lk i ρ).bind fun x => .ok (.rt x.1, x.2)) (PM k D Hb) := p
          rw [e] at p
          obtain ⟨v, h2, a, rfl, h3, h4⟩ := K.ok.val i _ q
          have hl : i < ρ.length := (List.getElem?_eq_some_iff.mp q).1
          have at' : ∀ {j : Nat} {s : Sl}, (ρ.set i none)[j]? = some (some s) → j ≠ i ∧ ρ[j]? = some (some s) := fun {j s} h => by
            by_cases hj : j = i
            · subst hj; rw [List.getElem?_set_self hl] at h; cases h
            · rw [List.getElem?_set_ne (Ne.symm hj)] at h; exact ⟨hj, h⟩
          have nw : ∀ {b}, Ow σ (ρ.set i none) b → Ow σ ρ b ∧ b ≠ a := fun {b} ⟨j, e, y1, y2⟩ => by
            obtain ⟨hj, y1⟩ := at' y1
            exact ⟨⟨j, e, y1, y2⟩, fun z => hj (K.ok.inj j i a e d y1 q (z ▸ y2) h2)⟩
          have K2 : OkM k lk Hb F H σ (ρ.set i none) := ⟨⟨K.ok.sub, by rw [List.length_set]; exact K.ok.len, fun j s h => K.ok.val j s (at' h).2, fun j j' b d1 d2 y1 y2 => K.ok.inj j j' b d1 d2 (at' y1).2 (at' y2).2, K.ok.tabs, K.ok.fnt⟩, fun j e b hj y1 => K.new j e b hj (at' y1).2, K.dom⟩
          refine ⟨true, .ref a, h2, p F σ H K2 ⟨fun _ _ h => h, fun _ h => h, fun b o _ q1 q2 q3 => ⟨q1, q2, fun z => q3 (nw z).1⟩⟩ (fun _ _ => rfl) (.ref a) ⟨a, rfl, h3, h4, fun z => (nw z).2 rfl, K.new i d a (by simpa using hk) q h2⟩⟩
/-! ### if -/
theorem ps_ifX {e : Expr} {a b : List Stmt} {pos : Pos} {f : Env → R (Bool × Env)} {fa fb : Env → R (Fl × Env)} (hc : PT X e (tT k E f)) (m : Mono f) (ha : PSs X a (tM k E lk fa)) (hb : PSs X b (tM k E lk fb)) :
    PS X (.If e a b pos) (tM k E lk fun ρ => (f ρ).bind fun t => if t.1 then fa t.2 else fb t.2) := by
  refine ps_weak (ps_if hc ha hb) fun D σ H ⟨Hb, F, ρ, K, p⟩ => ?_
  refine ⟨F, ρ, K.ok, (PostS.expr (fun a ρ' => m ρ a ρ') K p).mono fun t ρ1 F1 H1 K1 f1 ⟨K2, p2⟩ => ?_⟩
  cases t with
  | true => exact ⟨Hb, F1, ρ1, K2, p2⟩
  | false => exact ⟨Hb, F1, ρ1, K2, p2⟩
/-! ### while -/
theorem ps_whlX (x : XOk X k g c n E) {e : Expr} {b : List Stmt} {pos : Pos} {f : Env → R (Bool × Env)} {fb : Env → R (Fl × Env)} {w : Nat} (hc : PT X e (tT k E f)) (m : Mono f) (hb : PSs X b (tM k E lk fb)) :
    PS X (.While e b [] pos) (tM k E lk (whileN f fb w)) := by
  refine ps_weak (ps_while x.pown hc hb) fun D σ H ⟨Hb, F, ρ, K, p⟩ => ?_
  refine ⟨fun m σ H => ∃ F ρ, OkM k lk Hb F H σ ρ ∧ PostS k E lk Hb F H σ ρ (whileN f fb m ρ) (PM k D Hb), ⟨w, F, ρ, K, p⟩, ?_⟩
  rintro m' σ1 H1 ⟨F1, ρ1, K1, p1⟩
  cases m' with
  | zero => exact p1.elim
  | succ m' =>
    have p1 : PostS k E lk Hb F1 H1 σ1 ρ1 ((f ρ1).bind fun t => if t.1 then (fb t.2).bind fun r => match r.1 with
      | .nx => whileN f fb m' r.2
      | .ct => whileN f fb m' r.2
      | .bk => .ok (.nx, r.2)
      | .rt s => .ok (.rt s, r.2)
      else .ok (.nx, t.2)) (PM k D Hb) := p1
    refine ⟨F1, ρ1, K1.ok, (PostS.expr (fun a ρ' => m ρ1 a ρ') K1 p1).mono fun t ρ2 F2 H2 K2 f2 ⟨K2, p2⟩ => ?_⟩
    cases t with
    | true =>
      rw [if_pos rfl]
      refine ⟨fun σ' H' => ∃ F ρ, OkM k lk Hb F H' σ' ρ ∧ PostS k E lk Hb F H' σ' ρ (whileN f fb m' ρ) (PM k D Hb), fun σ' H' h => ⟨m', Nat.lt_succ_self _, h⟩, Hb, F2, ρ2, K2, ?_⟩
      have p2 : PostS k E lk Hb F2 H2 σ1 ρ2 ((fb ρ2).bind fun r => match r.1 with
        | .nx => whileN f fb m' r.2
        | .ct => whileN f fb m' r.2
        | .bk => .ok (.nx, r.2)
        | .rt s => .ok (.rt s, r.2)) (PM k D Hb) := p2
      refine p2.split.mono fun a ρ3 F3 σ3 H3 K3 f3 p3 => ?_
      cases a with
      | nx => exact ⟨F3, ρ3, K3, p3⟩
      | ct => exact ⟨F3, ρ3, K3, p3⟩
      | bk => exact p3.here K3
      | rt s => exact p3.here K3
    | false =>
      rw [if_neg Bool.false_ne_true]
      exact p2.here K2
/-! ### for -/
def forF (i : Ik) (fs : List (Env → R (Pv × Env))) (lk : Nat → Bool) (t : Tg) (fb : Env → R (Fl × Env)) (ρ : Env) : R (Fl × Env) := (itsF i fs ρ).bind fun r => loopL (fun d ρ1 => (t.put lk d ρ1).bind fun ρ2 => fb ρ2) r.1 r.2
theorem New.okm {Hb F H F' H' : Hp} {σ : St} {ρ : Env} {v : V} {s : Sl} (K : OkM k lk Hb F H σ ρ) (nw : New k F H F' H' v s) : OkM k lk Hb F' H' σ ρ ∧ Fr F σ H ρ F' σ H' ρ ∧ RsR k F' H' σ ρ H v s := by
  obtain ⟨z1, z2, z3⟩ := K.ok.new nw
  exact ⟨⟨z1, K.new, fun b hb => z2.dom b (K.dom b hb)⟩, z2, z3⟩
theorem ps_forX (x : XOk X k g c n E) {tg it : Expr} {b : List Stmt} {pos : Pos} {i : Ik} {fs : List (Env → R (Pv × Env))} {t : Tg} {fb : Env → R (Fl × Env)} (hi : PI X tg it (tI k E (itsF i fs))) (m : Mono (itsF i fs)) (hg : PG X tg (tG k lk t)) (hb : PSs X b (tM k E lk fb)) (hs : notSet it = true) :
    PS X (.For tg it b [] pos) (tM k E lk (forF i fs lk t fb)) := by
  refine ps_weak (ps_for x.pown x.calm hi hg hb (folded_plain hs)) fun D σ H ⟨Hb, F, ρ, K, p⟩ => ?_
  refine ⟨F, ρ, K.ok, (PostS.expr (fun a ρ' => m ρ a ρ') K p).mono fun its ρ1 F1 H1 K1 f1 ⟨K1, p1⟩ J w => ?_⟩
  let LI : Nat → St → Hp → Prop := fun j σ' H' => ∃ F2 ρ2, OkM k lk Hb F2 H' σ' ρ2 ∧ Sub F1 F2 ∧ PostS k E lk Hb F2 H' σ' ρ2 (loopL (fun d ρ1 => (t.put lk d ρ1).bind fun ρ2 => fb ρ2) (its.drop j) ρ2) (PM k D Hb)
  refine ⟨fun j m σ' H' => m = its.length - j ∧ j ≤ its.length ∧ LI j σ' H', ⟨its.length, by simp, Nat.zero_le _, F1, ρ1, K1, fun _ _ h => h, p1⟩, ?_⟩
  rintro j m' σ2 H2 ⟨rfl, hj, F2, ρ2, K2, s2, p2⟩
  by_cases hlt : j < its.length
  · refine .inr ⟨w.go j F2 H2 s2 K2.ok.sub hlt, LI (j + 1), fun σ' H' p' => ⟨its.length - (j + 1), by omega, rfl, hlt, p'⟩, fun v H3 y => ?_⟩
    obtain ⟨F3, nw⟩ := w.yld j its[j] F2 H2 v H3 s2 K2.ok.sub (List.getElem?_eq_getElem hlt) y
    obtain ⟨K3, f3, r3⟩ := New.okm K2 nw
    rw [List.drop_eq_getElem_cons hlt] at p2
    have p2 : PostS k E lk Hb F2 H2 σ2 ρ2 (((t.put lk its[j] ρ2).bind fun ρ2 => fb ρ2).bind fun r => match r.1 with
      | .nx => loopL (fun d ρ1 => (t.put lk d ρ1).bind fun ρ2 => fb ρ2) (its.drop (j + 1)) r.2
      | .ct => loopL (fun d ρ1 => (t.put lk d ρ1).bind fun ρ2 => fb ρ2) (its.drop (j + 1)) r.2
      | .bk => .ok (.nx, r.2)
      | .rt s => .ok (.rt s, r.2)) (PM k D Hb) := p2
    rw [R.assoc] at p2
    rcases p2.look with ⟨ρ4, h4, p3⟩ | ⟨_, _, z⟩
    · refine ⟨F3, ρ2, its[j], ρ4, K3.ok, r3, h4, fun F4 σ4 H4 z4 => ⟨Hb, F4, ρ4, K3.got z4, ?_⟩⟩
      have p4 := PostS.shift p3 (f3.trans z4.fr) z4.lk
      refine PostS.mono (PostS.split p4) fun a ρ5 F5 σ5 H5 K5 f5 p5 => ?_
      have s5 : Sub F1 F5 := fun b o h => f5.ext _ _ (z4.fr.ext _ _ (f3.ext _ _ (s2 _ _ h)))
      cases a with
      | nx => exact ⟨F5, ρ5, K5, s5, p5⟩
      | ct => exact ⟨F5, ρ5, K5, s5, p5⟩
      | bk => exact p5.here K5
      | rt s => exact p5.here K5
    · exact absurd z (put_noexc _)
  · have e : j = its.length := Nat.le_antisymm hj (Nat.le_of_not_lt hlt)
    subst e
    refine .inl ⟨w.stop F2 H2 s2 K2.ok.sub, ?_⟩
    rw [List.drop_length] at p2
    exact p2.here K2
end
end Rx

set_option Elab.async false
set_option linter.all false
set_option maxRecDepth 100000
/-! Rx15: statements that write; raise. -/
namespace Rx
open PySem PySem.Spec PyProof.Rows L2
section
variable {X : Cx} {k : Kx} {g : G} {c : Cs} {n : Nat} {E : XK} {lk : Nat → Bool}
theorem slot_le {ρ : Env} {j : Nat} {s : Sl} (h : slot ρ j = .ok s) : ρ[j]? = some (some s) := slot_ok h
/-! ### name op= e, of ints -/
def augF (lk : Nat → Bool) (i : Nat) (o : Bop) (f : Env → R (Sl × Env)) (ρ : Env) : R (Fl × Env) := (slot ρ i).bind fun s => (f ρ).bind fun x => match s, x.1.d with
      | .frz (.int a), .int b => if lk i || decide (x.2.length ≤ i) || !augB o then .stuck else .ok (.nx, x.2.set i (some (.frz (.int (augI o a b)))))
      | _, _ => .stuck
theorem ip_bop {o : Bop} (h : augB o = true) : PIp X (binOp o) (ipI (augI o)) := by
  cases o with
  | add => exact ip_add
  | sub => exact ip_sub
  | _ => cases h
theorem aug_inv {Hb F H : Hp} {σ : St} {ρ : Env} {P : Fl → Env → Hp → St → Hp → Prop} {i : Nat} {o : Bop} {s : Sl} {d : D} {ρ1 : Env} (p : PostS k E lk Hb F H σ ρ (match s, d with
      | .frz (.int a), .int b => if lk i || decide (ρ1.length ≤ i) || !augB o then .stuck else .ok (.nx, ρ1.set i (some (.frz (.int (augI o a b)))))
      | _, _ => .stuck) P) : ∃ a b, s = .frz (.int a) ∧ d = .int b ∧ PostS k E lk Hb F H σ ρ (if lk i || decide (ρ1.length ≤ i) || !augB o then .stuck else .ok (.nx, ρ1.set i (some (.frz (.int (augI o a b)))))) P := by
  split at p
  · exact ⟨_, _, rfl, rfl, p⟩
  · exact p.elim
theorem ps_augX (x : XOk X k g c n E) {i : Nat} {nm : Str} {e : Expr} {o : Bop} {f : Env → R (Sl × Env)} {pos' pos : Pos} (h : strB c i nm = true) (ho : augB o = true) (he : PE X e (tS k E f)) (m : Mono f) : PS X (.AugAssign (.Name nm pos') (binOp o) e pos) (tM k E lk (augF lk i o f)) := by
  obtain ⟨h1, h2, h3⟩ := strB_d x h
  refine ps_weak (ps_aug x.nd h1 h2 (pe_fz he) (ip_bop ho) h3) fun D σ H ⟨Hb, F, ρ, K, p⟩ => ?_
  rcases p.look with ⟨s, hs, p1⟩ | ⟨_, _, z⟩
  · have hs := slot_ok hs
    obtain ⟨v, hv, rv⟩ := K.ok.val i s hs
    refine ⟨v, hv, F, ρ, K.ok, (PostS.expr (fun a ρ' => m ρ a ρ') K p1).mono fun s' ρ1 F1 H1 K1 f1 ⟨K2, p2⟩ u ru => ?_⟩
    obtain ⟨a, b, es, hd, p4⟩ := aug_inv p2
    clear p2
    subst es
    have hd : s'.d = .int b := hd
    rw [hd] at ru
    have p4 : PostS k E lk Hb F1 H1 σ ρ1 (if lk i || decide (ρ1.length ≤ i) || !augB o then .stuck else .ok (.nx, ρ1.set i (some (.frz (.int (augI o a b)))))) (PM k D Hb) := p4
    have rv' : Rep k F v (.int a) := rv
    cases rv'
    cases ru
    refine ⟨a, b, rfl, rfl, ?_⟩
    by_cases hb : (lk i || decide (ρ1.length ≤ i) || !augB o) = true
    · rw [if_pos hb] at p4; exact p4.elim
    · rw [if_neg hb] at p4
      rw [Bool.or_eq_true, Bool.or_eq_true, not_or, not_or] at hb
      have z := got_setf (lk := lk) (v := .int (augI o a b)) (d := .int (augI o a b)) (i := i) K2.ok (.int _) (by simpa using hb.1.2) (by simpa using hb.1.1)
      exact p4 _ _ _ (K2.got z) z.fr z.lk
  · exact absurd z slot_noexc
/-! ### lists that are written -/
theorem own_lst {F H : Hp} {σ : St} {ρ : Env} {j : Nat} {xs : List D} (K1 : Okk k F σ H ρ) (h : ρ[j]? = some (some (Sl.own (.lst xs)))) : ∃ a vs, σ[j]? = some (some (V.ref a)) ∧ F a = none ∧ H a = some (.lst vs) ∧ Reps k F vs xs := by
  obtain ⟨v, h1, a, rfl, fa, vs, h2, h3⟩ := K1.val j _ h
  exact ⟨a, vs, h1, fa, h2, h3⟩
def appF (j : Nat) (f : Env → R (Sl × Env)) (ρ : Env) : R (Fl × Env) := match ρ[j]? with
      | some (some (.own (.lst _))) => (f ρ).bind fun x => (match x.2[j]? with
        | some (some (.own (.lst xs))) => if xs.length < sizeLine then .ok (.nx, x.2.set j (some (.own (.lst (xs ++ [x.1.d]))))) else .stuck
        | _ => .stuck)
      | _ => .stuck
theorem ps_appX (x : XOk X k g c n E) {j : Nat} {nm : Str} {e : Expr} {f : Env → R (Sl × Env)} {p apos cpos pos : Pos} (h : varB c j nm = true) (hn : notStar e = true) (hl : (apos.endLine == cpos.line) = true) (he : PE X e (tS k E f)) (m : Mono f) :
    PS X (.Expr (.Call (.Attribute (.Name nm p) "append" apos) [e] [] cpos) pos) (tM k E lk (appF j f)) := by
  refine ps_weak (ps_expr (pe_bm PySem.F.plainAttrs_list PySem.F.slot_list_append PySem.F.type_list_append mt_append (pe_varX x h) (pa_cons (pe_fz he) pa_nil (starEach_plain hn)) rfl (by rw [starOne hn]; rfl) hl (starEach_plain hn) rfl)) fun D σ H ⟨Hb, F, ρ, K, p⟩ => ?_
  unfold appF at p
  split at p
  · rename_i xs0 hj
    obtain ⟨a, vs0, h1, h2, h3, h4⟩ := own_lst K.ok hj
    refine ⟨.ref a, h1, .inl ⟨rfl, vs0, SqL.of h3⟩, F, ρ, K.ok, (PostS.expr (fun a ρ' => m ρ a ρ') K p).mono fun s ρ1 F1 H1 K1 f1 ⟨K2, p2⟩ v rv => ?_⟩
    split at p2
    · rename_i ys hj1
      split at p2
      · rename_i hz
        obtain ⟨b, vs, y1, y2, y3, y4⟩ := own_lst K2.ok hj1
        rw [h1] at y1
        cases y1
        refine ⟨a, vs, v, rfl, rfl, y3, by rw [y4.length]; exact hz, ?_⟩
        have z := okk_own (lk := lk) (o := .lst (vs ++ [v])) (e := .lst (ys ++ [s.d])) K2.ok hj1 h1 ⟨_, upd_same, y4.append (.cons rv .nil)⟩
        exact p2 _ _ _ (K2.got z) z.fr z.lk
      · exact p2.elim
    · exact p2.elim
  · exact p.elim
def putS (j : Nat) (fk f : Env → R (Sl × Env)) (ρ : Env) : R (Fl × Env) := (f ρ).bind fun x => match x.2[j]? with
      | some (some (.own (.lst _))) => (fk x.2).bind fun y => (match y.2[j]?, y.1.d with
        | some (some (.own (.lst xs))), .int i => (match ixN xs.length i with
          | some n => .ok (.nx, y.2.set j (some (.own (.lst (xs.set n x.1.d)))))
          | none => .stuck)
        | _, _ => .stuck)
      | some (some (.own (.dic _))) => (fk x.2).bind fun y => (match y.2[j]?, keyD y.1.d with
        | some (some (.own (.dic ks))), some kk => if ks.length < sizeLine then .ok (.nx, y.2.set j (some (.own (.dic (setK ks kk x.1.d))))) else .stuck
        | _, _ => .stuck)
      | some (some (.own (.dit _))) => (fk x.2).bind fun y => (match y.2[j]?, keyT y.1.d with
        | some (some (.own (.dit ks))), some kk => if ks.length < sizeLine then .ok (.nx, y.2.set j (some (.own (.dit (setK ks kk x.1.d))))) else .stuck
        | _, _ => .stuck)
      | _ => .stuck
theorem own_dic {F H : Hp} {σ : St} {ρ : Env} {j : Nat} {ks : List (Kk × D)} (K1 : Okk k F σ H ρ) (h : ρ[j]? = some (some (Sl.own (.dic ks)))) : ∃ a kvs, σ[j]? = some (some (V.ref a)) ∧ F a = none ∧ H a = some (.dK kvs) ∧ RepK k F kvs ks := by
  obtain ⟨v, h1, a, rfl, fa, vs, h2, h3⟩ := K1.val j _ h
  exact ⟨a, vs, h1, fa, h2, h3⟩
theorem own_dit {F H : Hp} {σ : St} {ρ : Env} {j : Nat} {ks : List (NestedKey × D)} (K1 : Okk k F σ H ρ) (h : ρ[j]? = some (some (Sl.own (.dit ks)))) : ∃ a xs, σ[j]? = some (some (V.ref a)) ∧ F a = none ∧ H a = some (dtO k.w a xs) ∧ RepT k F xs ks := by
  obtain ⟨v, h1, a, rfl, fa, vs, h2, h3⟩ := K1.val j _ h
  exact ⟨a, vs, h1, fa, h2, h3⟩
theorem assign_sub {o i : Expr} {pos : Pos} {env : PySem.Env} (h : notSlice i = true) : ∀ v, assign (.Subscript o i pos) env v = (do
      let ov ← holding [v] (eval o env)
      let iv ← holding [v, ov] (eval i env)
      standAt pos
      holding [v, ov, iv] (setItem ov iv v)
      release [v, ov, iv] []) := by
  intro v
  cases i <;> first | rfl | (simp [notSlice] at h)
theorem ps_putX (x : XOk X k g c n E) {j : Nat} {nm : Str} {e ke : Expr} {f fk : Env → R (Sl × Env)} {p tpos pos : Pos} (h : varB c j nm = true) (hs : notSlice ke = true) (he : PE X e (tS k E f)) (hk : PE X ke (tS k E fk)) (m : Mono f) (mk : Mono fk) (hw : swapsWithSole [.Subscript (.Name nm p) ke tpos] e pos.line X.env = pure false) :
    PS X (.Assign [.Subscript (.Name nm p) ke tpos] e pos) (tM k E lk (putS j fk f)) := by
  have hu := x.hu
  refine ps_weak (ps_asg (pe_fz he) (pg_sub (pe_varX x h) (pe_fz hk) (pset_or set_list (pset_or (set_dict (by omega)) (set_T hu))) (assign_sub hs)) hw rfl) fun D σ H ⟨Hb, F, ρ, K, p⟩ => ?_
  refine ⟨F, ρ, K.ok, (PostS.expr (fun a ρ' => m ρ a ρ') K p).mono fun s ρ1 F1 H1 K1 f1 ⟨K2, p2⟩ v rv => ?_⟩
  have p2 : PostS k E lk Hb F1 H1 σ ρ1 (match ρ1[j]? with
      | some (some (.own (.lst _))) => (fk ρ1).bind fun y => (match y.2[j]?, y.1.d with
        | some (some (.own (.lst xs))), .int i => (match ixN xs.length i with
          | some n => .ok (.nx, y.2.set j (some (.own (.lst (xs.set n s.d)))))
          | none => .stuck)
        | _, _ => .stuck)
      | some (some (.own (.dic _))) => (fk ρ1).bind fun y => (match y.2[j]?, keyD y.1.d with
        | some (some (.own (.dic ks))), some kk => if ks.length < sizeLine then .ok (.nx, y.2.set j (some (.own (.dic (setK ks kk s.d))))) else .stuck
        | _, _ => .stuck)
      | some (some (.own (.dit _))) => (fk ρ1).bind fun y => (match y.2[j]?, keyT y.1.d with
        | some (some (.own (.dit ks))), some kk => if ks.length < sizeLine then .ok (.nx, y.2.set j (some (.own (.dit (setK ks kk s.d))))) else .stuck
        | _, _ => .stuck)
      | _ => .stuck) (PM k D Hb) := p2
  split at p2
  · rename_i xs0 h0
    obtain ⟨a, vs0, hu, _⟩ := own_lst K2.ok h0
    refine ⟨.ref a, hu, F1, ρ1, K2.ok, (PostS.expr (fun a ρ' => mk ρ1 a ρ') K2 p2).mono fun ks ρ2 F2 H2 K3 f2 ⟨K3', p3⟩ kv rk => ?_⟩
    have p3 : PostS k E lk Hb F2 H2 σ ρ2 (match ρ2[j]?, ks.d with
      | some (some (.own (.lst xs))), .int i => (match ixN xs.length i with
        | some n => .ok (.nx, ρ2.set j (some (.own (.lst (xs.set n s.d)))))
        | none => .stuck)
      | _, _ => .stuck) (PM k D Hb) := p3
    split at p3
    · rename_i xs i hj hd
      split at p3
      · rename_i m' hm
        rw [hd] at rk
        cases rk
        obtain ⟨b, vs, y1, y2, y3, y4⟩ := own_lst K3 hj
        rw [hu] at y1
        cases y1
        refine .inl ⟨a, vs, i, m', rfl, rfl, y3, by rw [y4.length]; exact hm, ?_⟩
        have z := okk_own (lk := lk) (o := .lst (vs.set m' v)) (e := .lst (xs.set m' s.d)) K3 hj hu ⟨_, upd_same, y4.set (rv.mono f2.ext) m'⟩
        exact p3 _ _ _ (K3'.got z) z.fr z.lk
      · exact p3.elim
    · exact p3.elim
  · rename_i xs0 h0
    obtain ⟨a, vs0, hu, _⟩ := own_dic K2.ok h0
    refine ⟨.ref a, hu, F1, ρ1, K2.ok, (PostS.expr (fun a ρ' => mk ρ1 a ρ') K2 p2).mono fun ks ρ2 F2 H2 K3 f2 ⟨K3', p3⟩ kv rk => ?_⟩
    have p3 : PostS k E lk Hb F2 H2 σ ρ2 (match ρ2[j]?, keyD ks.d with
      | some (some (.own (.dic ks))), some kk => if ks.length < sizeLine then .ok (.nx, ρ2.set j (some (.own (.dic (setK ks kk s.d))))) else .stuck
      | _, _ => .stuck) (PM k D Hb) := p3
    split at p3
    · rename_i ds kk hj hd
      split at p3
      · rename_i hz
        obtain ⟨b, kvs, y1, y2, y3, y4⟩ := own_dic K3 hj
        rw [hu] at y1
        cases y1
        have ek : kv = kV kk := pk_kk (F := F2) (H := H2) (.inl rk) hd
        refine .inr (.inl ⟨a, _, rfl, .inl ⟨kvs, kk, y3, ek, by rw [y4.length]; exact hz, rfl⟩, ?_⟩)
        have z := okk_own (lk := lk) (o := .dK (putK kvs kk v)) (e := .dic (setK ds kk s.d)) K3 hj hu ⟨_, upd_same, y4.put (rv.mono f2.ext) kk⟩
        exact p3 _ _ _ (K3'.got z) z.fr z.lk
      · exact p3.elim
    · exact p3.elim
  · rename_i xs0 h0
    obtain ⟨a, vs0, hu, _⟩ := own_dit K2.ok h0
    refine ⟨.ref a, hu, F1, ρ1, K2.ok, (PostS.expr (fun a ρ' => mk ρ1 a ρ') K2 p2).mono fun ks ρ2 F2 H2 K3 f2 ⟨K3', p3⟩ kv rk => ?_⟩
    have p3 : PostS k E lk Hb F2 H2 σ ρ2 (match ρ2[j]?, keyT ks.d with
      | some (some (.own (.dit ks))), some kk => if ks.length < sizeLine then .ok (.nx, ρ2.set j (some (.own (.dit (setK ks kk s.d))))) else .stuck
      | _, _ => .stuck) (PM k D Hb) := p3
    split at p3
    · rename_i ds kk hj hd
      split at p3
      · rename_i hz
        obtain ⟨b, xs, y1, y2, y3, y4⟩ := own_dit K3 hj
        rw [hu] at y1
        cases y1
        obtain ⟨bk, rfl, hdp, hn, hrep⟩ := pk_kt (F := F2) (H := H2) K3.sub (.inl rk) hd
        refine .inr (.inr ⟨a, xs, kk, bk, rfl, rfl, by rw [x.gk.kW]; exact y3, by rw [x.gk.kK]; exact repT_keys K3.sub y4, hdp, by rw [x.gk.kK]; exact hn, by rw [y4.length]; exact hz, ?_⟩)
        have z := okk_own (lk := lk) (o := dtO k.w a (putT xs kk bk v)) (e := .dit (setK ds kk s.d)) K3 hj hu ⟨_, upd_same, y4.put hdp hrep (rv.mono f2.ext)⟩
        have z2 := p3 _ _ _ (K3'.got z) z.fr z.lk
        rw [← x.gk.kW] at z2
        exact z2
      · exact p3.elim
    · exact p3.elim
  · exact p2.elim
/-- o[i], o a list, i no less than 0 -/
def rGetL (K : PySem.W.Frag) : V → V → Hp → VK → Prop := fun x y H Q => ∃ p xs i v, x = .ref p ∧ y = .int i ∧ SqL K H p xs ∧ 0 ≤ i ∧ xs[i.toNat]? = some v ∧ Q v H
theorem get_list : PGet X (rGetL X.K) := by
  intro pins s σ H o i ov iv Q I ro ri h
  obtain ⟨p, xs, j, v, rfl, rfl, hq, h0, hv, q⟩ := h
  cases ro
  obtain ⟨t, rfl⟩ := ri
  obtain ⟨its, r, pl, hz⟩ := I.list hq
  obtain ⟨w, hw, rw'⟩ := r.get hv
  have hlt : j.toNat < xs.length := (List.getElem?_eq_some_iff.mp hv).1
  have hn := line63
  exact wpAny_getItem_list pl.isList h0 (by omega) (by simpa using hw) ⟨v, H, I, rw', q⟩
def augsF (j : Nat) (o : Bop) (fk f : Env → R (Sl × Env)) (ρ : Env) : R (Fl × Env) := match ρ[j]? with
      | some (some (.own (.lst _))) => (fk ρ).bind fun y => (match y.2[j]?, y.1.d with
        | some (some (.own (.lst xs))), .int i => if i < 0 then .stuck else (match xs[i.toNat]? with
          | some (.int a) => (f y.2).bind fun x => (match x.2[j]?, x.1.d with
            | some (some (.own (.lst ys))), .int b => if i.toNat < ys.length && augB o then .ok (.nx, x.2.set j (some (.own (.lst (ys.set i.toNat (.int (augI o a b))))))) else .stuck
            | _, _ => .stuck)
          | _ => .stuck)
        | _, _ => .stuck)
      | _ => .stuck
theorem augStore_plain {i : Expr} (h : notSlice i = true) (ov iv new : Value) : augStore i ov iv new = (do holding [new, ov, iv] (setItem ov iv new); release [new, ov, iv] []; pure .next) := by
  cases i <;> first | rfl | (simp [notSlice] at h)
theorem ps_augsX (x : XOk X k g c n E) {j : Nat} {nm : Str} {e ke : Expr} {o : Bop} {f fk : Env → R (Sl × Env)} {p tpos pos : Pos} (h : varB c j nm = true) (hs : notSlice ke = true) (ho : augB o = true) (he : PE X e (tS k E f)) (hk : PE X ke (tS k E fk)) (m : Mono f) (mk : Mono fk) :
    PS X (.AugAssign (.Subscript (.Name nm p) ke tpos) (binOp o) e pos) (tM k E lk (augsF j o fk f)) := by
  refine ps_weak (ps_augS (pe_varX x h) (pe_fz hk) get_list (pe_fz he) (ip_bop ho) set_list (augStore_plain hs)) fun D σ H ⟨Hb, F, ρ, K, p⟩ => ?_
  unfold augsF at p
  split at p
  · rename_i xs0 h0
    obtain ⟨a, vs0, hu, _⟩ := own_lst K.ok h0
    refine ⟨.ref a, hu, F, ρ, K.ok, (PostS.expr (fun a ρ' => mk ρ a ρ') K p).mono fun ks ρ1 F1 H1 K1 f1 ⟨K1', p1⟩ kv rk => ?_⟩
    have p1 : PostS k E lk Hb F1 H1 σ ρ1 (match ρ1[j]?, ks.d with
        | some (some (.own (.lst xs))), .int i => if i < 0 then .stuck else (match xs[i.toNat]? with
          | some (.int a) => (f ρ1).bind fun x => (match x.2[j]?, x.1.d with
            | some (some (.own (.lst ys))), .int b => if i.toNat < ys.length && augB o then .ok (.nx, x.2.set j (some (.own (.lst (ys.set i.toNat (.int (augI o a b))))))) else .stuck
            | _, _ => .stuck)
          | _ => .stuck)
        | _, _ => .stuck) (PM k D Hb) := p1
    split at p1
    · rename_i xs i hj hd
      rw [hd] at rk
      cases rk
      by_cases h0' : i < 0
      · rw [if_pos h0'] at p1; exact p1.elim
      rw [if_neg h0'] at p1
      split at p1
      · rename_i av hav
        obtain ⟨b, vs, y1, y2, y3, y4⟩ := own_lst K1 hj
        rw [hu] at y1
        cases y1
        obtain ⟨u, hu1, ru⟩ := y4.get hav
        cases ru
        refine ⟨a, vs, i, .int av, rfl, rfl, SqL.of y3, Int.not_lt.mp h0', hu1, F1, ρ1, K1, (PostS.expr (fun a ρ' => m ρ1 a ρ') K1' p1).mono fun es ρ2 F2 H2 K2 f2 ⟨K2', p2⟩ ev re => ?_⟩
        have p2 : PostS k E lk Hb F2 H2 σ ρ2 (match ρ2[j]?, es.d with
            | some (some (.own (.lst ys))), .int b => if i.toNat < ys.length && augB o then .ok (.nx, ρ2.set j (some (.own (.lst (ys.set i.toNat (.int (augI o av b))))))) else .stuck
            | _, _ => .stuck) (PM k D Hb) := p2
        split at p2
        · rename_i ys b' hj2 hd2
          rw [hd2] at re
          cases re
          split at p2
          · rename_i hz
            rw [Bool.and_eq_true] at hz
            obtain ⟨b2, us, w1, w2, w3, w4⟩ := own_lst K2 hj2
            rw [hu] at w1
            cases w1
            refine ⟨av, b', rfl, rfl, a, us, i, i.toNat, rfl, rfl, w3, ?_, ?_⟩
            · unfold L2.ixN
              rw [if_pos (Int.not_lt.mp h0'), if_pos]
              have := of_decide_eq_true hz.1
              rw [w4.length]
              omega
            · have z := okk_own (lk := lk) (o := .lst (us.set i.toNat (.int (augI o av b')))) (e := .lst (ys.set i.toNat (.int (augI o av b')))) K2 hj2 hu ⟨_, upd_same, w4.set (.int _) i.toNat⟩
              exact p2 _ _ _ (K2'.got z) z.fr z.lk
          · exact p2.elim
        · exact p2.elim
      · exact p1.elim
    · exact p1.elim
  · exact p.elim
end
end Rx

set_option Elab.async false
set_option linter.all false
set_option maxRecDepth 100000
/-! Rx16: a, b = x, y; raise. -/
namespace Rx
open PySem PySem.Spec PyProof.Rows L2
/-! ### stores that are swapped, that are not -/
section
variable {env : PySem.Env}
theorem blockK (hk : env.scope.kind = .function) : env.blockKind = .function := by unfold Env.blockKind; rw [hk]; rfl
theorem swap2 {x y : Str} {px py pt pt2 : Pos} {kt k2 : Nat} {a b : Expr} (hk : env.scope.kind = .function) (hx : env.scope.names.lookup x = some .local) (hy : env.scope.names.lookup y = some .local) (hl : (py.line == px.line) = true) (hn : (x == y) = false)
    (h1 : notStar a = true) (h2 : notStar b = true) (h3 : ([a, b].all (foldedForSure 8)) = false) (h4 : ([a, b].all (constantsAlone 8)) = false) :
    swappedStores [.Tuple [.Name x px, .Name y py] kt pt] (.Tuple [a, b] k2 pt2) env = pure (some [x, y]) := by
  have ex : env.kindOf x = some .local := hx
  have ey : env.kindOf y = some .local := hy
  have es : ∀ f : Expr → Bool, (∀ e, notStar e = true → f e = false) → ¬ ([a, b].any f) = true := fun f hf => by
    simp [hf a h1, hf b h2]
  have en : ([x, y] : List Str).eraseDups.length = 2 := by
    rw [List.eraseDups_cons]
    have : (y == x) = false := by rw [beq_eq_false_iff_ne] at hn ⊢; exact Ne.symm hn
    simp [List.filter, this, List.eraseDups_cons]
  unfold swappedStores
  simp only [blockK hk, h3, h4, Expr.pos, List.filterMap_cons, List.filterMap_nil, ex, ey, hl, List.head?_cons, Option.map_some, Option.getD_some, beq_self_eq_true, Bool.and_self, if_true, List.length_cons, List.length_nil, en]
  rw [if_neg (by decide), if_neg (es _ fun e h => by cases e <;> first | rfl | (simp [notStar] at h)), if_neg (by decide), if_neg (by decide), if_neg (by decide)]
theorem swap3 {x y z : Str} {px py pz pt pt2 : Pos} {kt k2 : Nat} {a b d : Expr} (hk : env.scope.kind = .function) (hx : env.scope.names.lookup x = some .local) (hy : env.scope.names.lookup y = some .local) (hz : env.scope.names.lookup z = some .local) (hl : (py.line == px.line) = true) (hl2 : (pz.line == px.line) = true) (hn : (x == y) = false) (hn2 : (x == z) = false) (hn3 : (y == z) = false)
    (h1 : notStar a = true) (h2 : notStar b = true) (h2' : notStar d = true) (h3 : ([a, b, d].all (foldedForSure 8)) = false) (h4 : ([a, b, d].all (constantsAlone 8)) = false) :
    swappedStores [.Tuple [.Name x px, .Name y py, .Name z pz] kt pt] (.Tuple [a, b, d] k2 pt2) env = pure (some [x, y, z]) := by
  have ex : env.kindOf x = some .local := hx
  have ey : env.kindOf y = some .local := hy
  have ez : env.kindOf z = some .local := hz
  have es : ∀ f : Expr → Bool, (∀ e, notStar e = true → f e = false) → ¬ ([a, b, d].any f) = true := fun f hf => by
    simp [hf a h1, hf b h2, hf d h2']
  have en : ([x, y, z] : List Str).eraseDups.length = 3 := by
    have q1 : (y == x) = false := by rw [beq_eq_false_iff_ne] at hn ⊢; exact Ne.symm hn
    have q2 : (z == x) = false := by rw [beq_eq_false_iff_ne] at hn2 ⊢; exact Ne.symm hn2
    have q3 : (z == y) = false := by rw [beq_eq_false_iff_ne] at hn3 ⊢; exact Ne.symm hn3
    rw [List.eraseDups_cons]
    simp [List.filter, q1, q2, q3, List.eraseDups_cons]
  unfold swappedStores
  simp only [blockK hk, h3, h4, Expr.pos, List.filterMap_cons, List.filterMap_nil, ex, ey, ez, hl, hl2, List.head?_cons, Option.map_some, Option.getD_some, beq_self_eq_true, Bool.and_self, if_true, List.length_cons, List.length_nil, en]
  rw [if_neg (by decide), if_neg (es _ fun e h => by cases e <;> first | rfl | (simp [notStar] at h)), if_neg (by decide), if_neg (by decide), if_neg (by decide)]
/-- a value that is no tuple's display -/
def notTup : Expr → Bool
  | .Tuple _ _ _ => false
  | _ => true
def notTupT : Expr → Bool
  | .Tuple _ _ _ => false
  | .List _ _ => false
  | _ => true
theorem noswap1 {t e : Expr} (h : notTup e = true) : swappedStores [t] e env = pure none := by
  cases e <;> first
    | (simp [notTup] at h; done)
    | (cases t <;> rfl)
theorem noswap2 {t e : Expr} (h : notTupT t = true) : swappedStores [t] e env = pure none := by
  cases t <;> first
    | (simp [notTupT] at h; done)
    | (cases e <;> rfl)
/-- a name among the targets that is no plain local, or no name -/
def isLocN (sc : Scope) (l : Nat) : Expr → Bool
  | .Name id pos => sc.names.lookup id == some .local && pos.line == l
  | _ => false
theorem fm_len {α β : Type} {F : α → Option β} : ∀ {l : List α}, (l.filterMap F).length ≤ l.length
  | [] => Nat.le_refl _
  | a :: l => by
    rw [List.filterMap_cons]
    split
    · exact Nat.le_succ_of_le fm_len
    · exact Nat.succ_le_succ fm_len
theorem fm_lt {α β : Type} {F : α → Option β} {p : α → Bool} (hp : ∀ a, p a = false → F a = none) : ∀ {l : List α}, l.all p = false → (l.filterMap F).length < l.length
  | [], h => by cases h
  | a :: l, h => by
    rw [List.filterMap_cons]
    by_cases q : p a = true
    · rw [List.all_cons, q, Bool.true_and] at h
      split
      · exact Nat.lt_succ_of_le fm_len
      · exact Nat.succ_lt_succ (fm_lt hp h)
    · rw [hp a (by simpa using q)]
      exact Nat.lt_succ_of_le fm_len
theorem noswap3 {ts vs : List Expr} {kt k2 : Nat} {pt pt2 : Pos} (h : ts.all (isLocN env.scope ((ts.head?.map (·.pos.line)).getD 0)) = false) : swappedStores [.Tuple ts kt pt] (.Tuple vs k2 pt2) env = pure none := by
  unfold swappedStores
  dsimp only
  split
  · rfl
  split
  · rfl
  refine if_pos ?_
  have q := fm_lt (F := fun | .Name id pos => if env.kindOf id == some .local && pos.line == ((ts.head?.map (·.pos.line)).getD 0) then some id else none | _ => none) (fun a ha => ?_) h
  · have q' : (ts.filterMap (fun | .Name id pos => if env.kindOf id == some .local && pos.line == ((ts.head?.map (·.pos.line)).getD 0) then some id else none | _ => none)).length ≠ ts.length := Nat.ne_of_lt q
    rw [Bool.or_eq_true]
    left
    exact bne_iff_ne.mpr q'
  · cases a <;> first | rfl | skip
    rename_i id pos
    have ha : (env.scope.names.lookup id == some .local && pos.line == ((ts.head?.map (·.pos.line)).getD 0)) = false := ha
    show (if (env.kindOf id == some .local && pos.line == ((ts.head?.map (·.pos.line)).getD 0)) = true then some id else none) = none
    rw [if_neg]
    have : env.kindOf id = env.scope.names.lookup id := rfl
    rw [this, ha]
    decide
theorem noswap4 {ts vs : List Expr} {kt k2 : Nat} {pt pt2 : Pos} (h : vs.all (foldedForSure 8) = true) : swappedStores [.Tuple ts kt pt] (.Tuple vs k2 pt2) env = pure none := by
  unfold swappedStores
  dsimp only
  rw [if_pos h]
  repeat' (first | rfl | split)
theorem noswap5 {ts vs : List Expr} {kt k2 : Nat} {pt pt2 : Pos} (h : (ts.length == 2 || ts.length == 3) = false) : swappedStores [.Tuple ts kt pt] (.Tuple vs k2 pt2) env = pure none := by
  unfold swappedStores
  dsimp only
  refine if_pos ?_
  rw [h]
  rfl
/-- the value is no comprehension -/
def notComp : Expr → Bool
  | .ListComp _ _ _ _ => false
  | .SetComp _ _ _ _ => false
  | .DictComp _ _ _ _ _ => false
  | _ => true
theorem nosw {e : Expr} {t : Option Expr} {l : Nat} (h : notComp e = true) : swapsWith e t l env = pure false := by
  cases e <;> first | rfl | (simp [notComp] at h)
def notNm : Expr → Bool
  | .Name _ _ => false
  | _ => true
theorem noswN {e t : Expr} {l : Nat} (h : notNm t = true) : swapsWith e (some t) l env = pure false := by
  unfold swapsWith
  split
  · cases t <;> first | rfl | (simp [notNm] at h)
  · rfl
/-- a comprehension's value for a name that is no plain local -/
theorem noswC {e : Expr} {y : Str} {p : Pos} {l : Nat} (h : (env.scope.names.lookup y == some .local) = false) : swapsWith e (some (.Name y p)) l env = pure false := by
  have hk : (env.kindOf y == some .local) = false := h
  unfold swapsWith
  split
  · simp [hk]
  · rfl
end
/-! ### a, b = x, y -/
def parF (lk : Nat → Bool) (is : List Nat) (fs : List (Env → R (Pv × Env))) (ρ : Env) : R (Fl × Env) := (seqF fs ρ).bind fun r => (frzs r.1).bind fun ds => (parE lk is ds r.2).bind fun ρ1 => .ok (.nx, ρ1)
section
variable {X : Cx} {k : Kx} {g : G} {c : Cs} {n : Nat} {E : XK} {lk : Nat → Bool}
theorem parE_got {F H : Hp} : ∀ {is : List Nat} {σ : St} {ρ ρ' : Env} {vs : List V} {ds : List D}, Okk k F σ H ρ → Reps k F vs ds → parE lk is ds ρ = .ok ρ' → ∃ σ', σ' = (is.zip vs).foldl (fun σ p => σ.set p.1 (some p.2)) σ ∧ GoT k lk F H σ ρ F H σ' ρ'
  | [], σ, ρ, ρ', vs, [], K1, r, h => by
    cases h
    exact ⟨σ, rfl, .refl K1⟩
  | [], σ, ρ, ρ', vs, _ :: _, K1, r, h => by cases h
  | _ :: _, σ, ρ, ρ', vs, [], K1, r, h => by cases h
  | i :: is, σ, ρ, ρ', _, d :: ds, K1, .cons r0 r, h => by
    unfold parE at h
    split at h
    · cases h
    · rename_i hb
      rw [Bool.or_eq_true, not_or] at hb
      rename_i v vs
      have z := got_setf (lk := lk) (i := i) K1 r0 (by simpa using hb.2) (by simpa using hb.1)
      obtain ⟨σ', e, z2⟩ := parE_got z.ok r h
      exact ⟨σ', e, z.trans z2⟩
theorem parE_noexc : ∀ {is : List Nat} {ds : List D} {ρ : Env} {c : Nat} {gs : List (Nat × D)}, parE lk is ds ρ ≠ .exc c gs
  | [], [], _, _, _, h => by cases h
  | [], _ :: _, _, _, _, h => by cases h
  | _ :: _, [], _, _, _, h => by cases h
  | i :: is, d :: ds, ρ, c, gs, h => by
    unfold parE at h
    split at h
    · cases h
    · exact parE_noexc h
theorem parE_len : ∀ {is : List Nat} {ds : List D} {ρ ρ' : Env}, parE lk is ds ρ = .ok ρ' → ds.length = is.length
  | [], [], _, _, _ => rfl
  | [], _ :: _, _, _, h => by cases h
  | _ :: _, [], _, _, h => by cases h
  | i :: is, d :: ds, ρ, ρ', h => by
    unfold parE at h
    split at h
    · cases h
    · exact congrArg (· + 1) (parE_len h)
theorem par_weak {is : List Nat} {fs : List (Env → R (Pv × Env))} (m : Mono (seqF fs)) {D : Ends} {σ : St} {H : Hp} (q : tM k E lk (parF lk is fs) D σ H) : tA k E (seqF fs) σ H fun vs H1 => vs.length = is.length ∧ D.nx ((is.zip vs).foldl (fun σ p => σ.set p.1 (some p.2)) σ) H1 := by
  obtain ⟨Hb, F, ρ, K, p⟩ := q
  refine ⟨F, ρ, K.ok, (PostS.expr (fun a ρ' => m ρ a ρ') K p).mono fun ps ρ1 F1 H1 K1 f1 ⟨K2, p2⟩ vs hv => ?_⟩
  rcases p2.look with ⟨ds, h1, p3⟩ | ⟨_, _, z⟩
  · have r := frzs_rep hv h1
    rcases p3.look with ⟨ρ2, h2, p4⟩ | ⟨_, _, z⟩
    · obtain ⟨σ', e, z⟩ := parE_got K2.ok r h2
      refine ⟨by rw [r.length, parE_len h2], ?_⟩
      rw [← e]
      exact p4 F1 σ' H1 (K2.got z) z.fr z.lk
    · exact absurd z parE_noexc
  · exact absurd z frzs_noexc
theorem ps_par2X (x : XOk X k g c n E) (hk : c.sc.kind = .function) {i j : Nat} {y z : Str} {a b : Expr} {py pz pt pt2 pos : Pos} {kt k2 : Nat} {fs : List (Env → R (Pv × Env))} (hi : c.N[i]? = some y) (hj : c.N[j]? = some z)
    (hy : c.sc.names.lookup y = some .local) (hz : c.sc.names.lookup z = some .local) (hl : (pz.line == py.line) = true) (hn : (y == z) = false) (h3 : ([a, b].all (foldedForSure 8)) = false) (h4 : ([a, b].all (constantsAlone 8)) = false)
    (h : PCs X k E [a, b] fs) (m : Mono (seqF fs)) : PS X (.Assign [.Tuple [.Name y py, .Name z pz] kt pt] (.Tuple [a, b] k2 pt2) pos) (tM k E lk (parF lk [i, j] fs)) := by
  have hp := h.plain
  rw [List.all_cons, Bool.and_eq_true, List.all_cons, Bool.and_eq_true] at hp
  have hij : i ≠ j := fun e => by
    subst e
    rw [hi] at hj
    cases hj
    simp at hn
  refine ps_weak (ps_par (i := i) (j := j) x.calm x.nd (by rw [x.hN]; exact hi) (by rw [x.hN]; exact hj) hij (by rw [x.sc]; exact hy) (by rw [x.sc]; exact hz) h.pa
    (swap2 (by rw [x.sc]; exact hk) (by rw [x.sc]; exact hy) (by rw [x.sc]; exact hz) hl hn hp.1 hp.2.1 h3 h4) rfl) fun D σ H q => ?_
  refine tA_mono (par_weak m q) fun vs H1 ⟨hv, q⟩ => ?_
  match vs, hv with
  | [v, w], _ => exact ⟨v, w, rfl, q⟩
theorem ps_par3X (x : XOk X k g c n E) (hk : c.sc.kind = .function) {i j l : Nat} {y z w : Str} {a b d : Expr} {py pz pw pt pt2 pos : Pos} {kt k2 : Nat} {fs : List (Env → R (Pv × Env))} (hi : c.N[i]? = some y) (hj : c.N[j]? = some z) (hl : c.N[l]? = some w)
    (hy : c.sc.names.lookup y = some .local) (hz : c.sc.names.lookup z = some .local) (hw : c.sc.names.lookup w = some .local) (hl1 : (pz.line == py.line) = true) (hl2 : (pw.line == py.line) = true) (hn : (y == z) = false) (hn2 : (y == w) = false) (hn3 : (z == w) = false)
    (h3 : ([a, b, d].all (foldedForSure 8)) = false) (h4 : ([a, b, d].all (constantsAlone 8)) = false)
    (h : PCs X k E [a, b, d] fs) (m : Mono (seqF fs)) : PS X (.Assign [.Tuple [.Name y py, .Name z pz, .Name w pw] kt pt] (.Tuple [a, b, d] k2 pt2) pos) (tM k E lk (parF lk [i, j, l] fs)) := by
  have hp := h.plain
  rw [List.all_cons, Bool.and_eq_true, List.all_cons, Bool.and_eq_true, List.all_cons, Bool.and_eq_true] at hp
  have ne : ∀ {i j : Nat} {y z : Str}, c.N[i]? = some y → c.N[j]? = some z → (y == z) = false → i ≠ j := fun {i j y z} hi hj hn e => by
    subst e
    rw [hi] at hj
    cases hj
    simp at hn
  refine ps_weak (ps_par3 (i := i) (j := j) (l := l) x.calm x.nd (by rw [x.hN]; exact hi) (by rw [x.hN]; exact hj) (by rw [x.hN]; exact hl) (ne hi hj hn) (ne hi hl hn2) (ne hj hl hn3) (by rw [x.sc]; exact hy) (by rw [x.sc]; exact hz) (by rw [x.sc]; exact hw) h.pa
    (swap3 (by rw [x.sc]; exact hk) (by rw [x.sc]; exact hy) (by rw [x.sc]; exact hz) (by rw [x.sc]; exact hw) hl1 hl2 hn hn2 hn3 hp.1 hp.2.1 hp.2.2.1 h3 h4) rfl) fun D σ H q => ?_
  refine tA_mono (par_weak m q) fun vs H1 ⟨hv, q⟩ => ?_
  match vs, hv with
  | [v, w, u], _ => exact ⟨v, w, u, rfl, q⟩
end
end Rx

set_option Elab.async false
set_option linter.all false
set_option maxRecDepth 100000
/-! Rx17: raise. -/
namespace Rx
open PySem PySem.Spec PyProof.Rows L2
section
variable {X : Cx} {k : Kx} {g : G} {c : Cs} {n : Nat} {E : XK} {lk : Nat → Bool}
def raiF (g : G) (c : Nat) (fs : List (Env → R (Pv × Env))) (ρ : Env) : R (Fl × Env) := (seqF fs ρ).bind fun r => (frzs r.1).bind fun ds => match g.exf c with
      | some ns => if ns.length = ds.length then .exc c (ns.zip ds).reverse else .stuck
      | none => .stuck
theorem RepF.append {F : Hp} : ∀ {fs fs' : List (Str × V)} {gs gs' : List (Nat × D)}, RepF k F fs gs → RepF k F fs' gs' → RepF k F (fs ++ fs') (gs ++ gs')
  | _, _, _, _, .nil, s => s
  | _, _, _, _, .cons n h r, s => .cons n h (RepF.append r s)
theorem RepF.rev {F : Hp} : ∀ {fs : List (Str × V)} {gs : List (Nat × D)}, RepF k F fs gs → RepF k F fs.reverse gs.reverse
  | _, _, .nil => .nil
  | _, _, .cons n h r => by
    rw [List.reverse_cons, List.reverse_cons]
    exact RepF.append (RepF.rev r) (.cons n h .nil)
theorem repF_zip {F : Hp} : ∀ {fs : List Nat} {ns : List Str} {vs : List V} {ds : List D}, Paired (fun (m : Nat) (y : Str) => k.nm[m]? = some y) fs ns → Reps k F vs ds → RepF k F (ns.zip vs) (fs.zip ds)
  | _, _, _, _, .nil, _ => .nil
  | _, _, _, _, .cons _ _, .nil => .nil
  | _, _, _, _, .cons h p, .cons h' r => .cons h h' (repF_zip p r)
theorem paired_len {α β : Type} {R : α → β → Prop} : ∀ {xs : List α} {ys : List β}, Paired R xs ys → xs.length = ys.length
  | _, _, .nil => rfl
  | _, _, .cons _ p => congrArg (· + 1) (paired_len p)
theorem ps_raiX (x : XOk X k g c n E) {cc : Nat} {nm : Str} {p pos2 pos : Pos} {a : Expr} {es : List Expr} {fs : List (Env → R (Pv × Env))} (hf : c.tb.exs[cc]? = some nm) (hg : glB c.sc nm = true) (hk : nameOk nm = true) (h : PCs X k E (a :: es) fs) (m : Mono (seqF fs)) :
    PS X (.Raise (some (.Call (.Name nm p) (a :: es) [] pos2)) none pos) (tM k E lk (raiF g cc fs)) := by
  obtain ⟨C, fI, ns, xs, h1, h2, h3, h4, h5, T, iC, tI, fd, ps, Fo, hb⟩ := x.exn cc nm hf
  have hp := h.plain
  rw [List.all_cons, Bool.and_eq_true] at hp
  refine ps_weak (ps_raise x.calm x.takes (pmk_oex T iC tI Fo x.room hb .nil (passes_call x.takes fun _ _ _ _ z => z.elim) (gl_of x hg) h2 h.pa (nameOk_d hk).1 (starEach_plain hp.1) (noStars hp.2))) fun D σ H ⟨Hb, F, ρ, K, p⟩ => ?_
  refine ⟨F, ρ, K.ok, (PostS.expr (fun a ρ' => m ρ a ρ') K p).mono fun pv ρ1 F1 H1 K1 f1 ⟨K2, p2⟩ vs hv => ?_⟩
  rcases p2.look with ⟨ds, hd, p3⟩ | ⟨_, _, z⟩
  · have r := frzs_rep hv hd
    rw [h3] at p3
    by_cases hl : ns.length = ds.length
    · have p3 : PostS k E lk Hb F1 H1 σ ρ1 (if ns.length = ds.length then .exc cc (ns.zip ds).reverse else .stuck) (PM k D Hb) := p3
      rw [if_pos hl] at p3
      have hlen : vs.length = xs.length := by rw [r.length, ← hl, paired_len h4]
      refine ⟨by rw [hlen, ← paired_len h4]; omega, fun a ha => ⟨a, vs, by rw [List.append_nil], hlen, upd_same, fun H2 d e1 e2 e3 e4 e5 => ?_⟩⟩
      have e3' : H1 d = none := by rw [upd_ne e4] at e3; exact e3
      have keep : ∀ b u, H1 b = some u → (upd (del H2 a) d (.xd (xs.zip vs).reverse)) b = some u := fun b u q => by
        have n1 : b ≠ a := ne_of_none q ha
        have n2 : b ≠ d := ne_of_none q e3'
        rw [upd_ne n2, del_ne n1, e5 b n1 n2, upd_ne n1]
        exact q
      refine ⟨rfl, d, _, e1, e2, e3', p3 _ _ F1 _ (fun b u q => keep b u (K2.ok.sub b u q)) ⟨fun _ _ z => z, fun b z => ?_, fun b u _ q1 q2 q3 => ⟨keep b u q1, q2⟩, K2.ok.fnt⟩ ⟨C, d, _, rfl, h1, rfl, upd_same, (repF_zip h4 r).rev, K2.ok.tabs.ext keep⟩⟩
      exact z.keep keep
    · have p3 : PostS k E lk Hb F1 H1 σ ρ1 (if ns.length = ds.length then .exc cc (ns.zip ds).reverse else .stuck) (PM k D Hb) := p3
      rw [if_neg hl] at p3
      exact p3.elim
  · exact absurd z frzs_noexc
end
end Rx

set_option Elab.async false
set_option linter.all false
set_option maxRecDepth 100000
/-! RxF1: try with several clauses «except C as n», the name one local. -/
namespace Rx
open PySem PySem.Spec PyProof.Rows L2
/-- behind a suite the clause's name is gone -/
def goneD (D : Ends) (i : Nat) : Ends := { nx := fun σ' H' => D.nx (σ'.set i none) H', rt := D.rt, bk := fun σ' H' => D.bk (σ'.set i none) H', ct := fun σ' H' => D.ct (σ'.set i none) H' }
def wFew (K : PySem.W.Frag) (Wout : WX) (D : Ends) (i : Nat) : List (Value × (Addr → Value → Option Addr → TS)) → WX
  | [] => Wout
  | (c, ts) :: r => fun cls d σ H => ∃ b, PySem.W.exmOne K cls c = some b ∧ (b = true → ∀ a, H a = none → ts a cls d (goneD D i) (σ.set i (some (.ref a))) H) ∧ (b = false → wFew K Wout D i r cls d σ H)
inductive HdsA (X : Cx) (n : Str) : List ExceptHandler → List (Value × (Addr → Value → Option Addr → TS)) → Prop
  | nil : HdsA X n [] []
  | cons {x : Str} {c : Value} {ts : Addr → Value → Option Addr → TS} {b₀ : Stmt} {suite : List Stmt} {np pos' : Pos} {hds : List ExceptHandler} {l : List (Value × (Addr → Value → Option Addr → TS))} : Names X x c →
      (∀ (a : Addr) (oe : Obj) (cls : Value) (d : Option Addr) (pn : List (Addr × Obj)), Zc cls d oe → (∃ vs, oe.data = .fields vs) → PSs (X.suite a ((a, oe) :: pn)) (b₀ :: suite) (ts a cls d)) → HdsA X n hds l →
      HdsA X n (.ExceptHandler (some (.Name x np)) (some n) (b₀ :: suite) pos' :: hds) ((c, ts) :: l)
section
variable {X : Cx} {n : Str} {i : Nat} {body : List Stmt} {h₀ : ExceptHandler} {hds : List ExceptHandler} {l : List (Value × (Addr → Value → Option Addr → TS))} {pos : Pos} {tb : WX → TS} {Wout : WX}
theorem ps_tryFew (hs : X.stack = X.env :: X.outer) (hf : X.env.frame = some X.env.locals) (hN : X.N.Nodup) (hi : X.N[i]? = some n) (hln : X.env.kindOf n = some .local) (tk : Takes X Wout)
    (hb : ∀ (W : WX) (pn : List (Addr × Obj)) (xe : Value → Shared → Prop), Takes (X.tr pn xe) W → PassesOwn (model X.prog X.w) X.A X.env xe → PSs (X.tr pn xe) body (tb W))
    (hh : HdsA X n (h₀ :: hds) l) : PS X (.Try body (h₀ :: hds) [] [] pos) (fun D σ H => tb (wFew X.K Wout D i l) D σ H) := by
  refine ⟨fun pins s σ H D I h => ?_⟩
  have ok := I.ok
  have hfr : X.A.frames = some (X.env :: X.outer) := by rw [ok.frames, hs]
  have hloc : Loc X.env.scope n := .inl hln
  refine wpAny_Try_except ?_
  refine wpAny_mono ((hb (wFew X.K Wout D i l) (X.pn ++ pins) (fun e s₁ => wpAny (model X.prog X.w) X.A (noteFrame e X.env) (fun _ s₂ => wpAny (model X.prog X.w) X.A (setFlight e none) (fun _ s₃ =>
    wpAny (model X.prog X.w) X.A (handleBy e X.env (h₀ :: hds)) (SP X pins D) X.xe s₃) X.xe s₂) X.xe s₁) (fun u s' xx => ?_) PassesOwn.looking).run [] s σ H D (I.toTry _) h) (fun f s1 hsp => ?_) (fun e s1 he => he)
  · obtain ⟨a, B, sI, pins', σ', H', cls, d, rfl, J', nb, up, sky, na, os, ag, w⟩ := xx
    have J : Inv X pins σ' H' sI := J'.ofTry ok
    have sky' : Sky B (X.env :: X.outer) a (Zc cls d) X.env.locals s'.heap := by rw [← hs]; exact sky
    show wpAny (model X.prog X.w) X.A (noteFrame (.ref a) X.env) _ _ _
    refine Sky.land Zc.steady hfr hf sky' fun h3 fl3 up3 => ?_
    have J3 : Inv X pins σ' H' { s' with heap := h3 } := J.landed nb fl3.1 (up.trans up3) os ag
    obtain ⟨oe3, vs3, he3, hz3, hd3⟩ := fl3.there
    have nfr : a ∉ frs (X.env :: X.outer) := fun hm => by
      obtain ⟨_, o', e', hnf⟩ := fl3.2.2.1.mem hm
      rw [he3] at e'; cases e'
      exact hnf _ hd3
    have nL : a ≠ X.env.locals := fun z => nfr (List.mem_filterMap.mpr ⟨X.env, List.mem_cons_self, by rw [hf, z]⟩)
    have nF : a ∉ X.fs := fun hm => by
      obtain ⟨e, he, q⟩ := List.mem_filterMap.mp hm
      exact nfr (List.mem_filterMap.mpr ⟨e, List.mem_cons_of_mem _ he, q⟩)
    have S3 := J3.suite he3 hd3 na nL nF
    have go : ∀ {hds' : List ExceptHandler} {l' : List (Value × (Addr → Value → Option Addr → TS))}, HdsA X n hds' l' → wFew X.K Wout D i l' cls d σ' H' →
        wpAny (model X.prog X.w) X.A (handleBy (.ref a) X.env hds') (SP X pins D) X.xe { s' with heap := h3 } := by
      intro hds' l' hk
      induction hk with
      | nil =>
        intro w
        refine wpAny_handleBy_nil ?_
        obtain ⟨k1, k2, k3, oe, vs, T, oT, ts', he, hz, hd, h1, hr⟩ := id fl3
        unfold PySem.passOn
        refine wpAny_bind (wpAny_field he hd h1 ?_)
        rw [if_neg (show ¬ ((Value.ref T == Value.none) = true) from by simp)]
        have fin : wpAny (model X.prog X.w) X.A (setFlight (.ref a) X.env.frame) (fun _ s4 => wpAny (model X.prog X.w) X.A (throw (.ref a) : Sem Flow) (SP X pins D) X.xe s4) X.xe { s' with heap := h3 } := by
          rw [hf]
          refine HandSPX.setFlight_upZ fl3 fun h4 hh4 up4 => wpAny_throw (tk _ _ ?_)
          exact ⟨a, B, sI, pins, σ', H', cls, d, rfl, J, nb, (up.trans up3).trans up4, .inr (.inr (by rw [hs]; exact hh4)), na, os, ag, w⟩
        first
          | exact wpAny_bind (wpAny_pure (wpAny_bind fin))
          | exact wpAny_bind fin
      | @cons x c ts b₀ suite np pos' hds2 l2 hc hsu r ih =>
        intro w
        obtain ⟨b, hb1, hyes, hno⟩ := w
        refine wpAny_handleBy_cons (codeAny_handlers_test ?_) (by intro q; cases q)
        have LT : PySem.W.Looks (model X.prog X.w) h3 (typeOf (.ref a)) cls := fun A Q E s k q => wpAny_typeOf_ref (k _ _ he3) (by rw [hz3.1]; exact q)
        have LM := PySem.W.exm_one (M := model X.prog X.w) (J3.kIn) LT hb1
        have test : ∀ {Q : Value → Shared → Prop} {E : Value → Shared → Prop}, Q c { s' with heap := h3 } → wpAny (model X.prog X.w) (X.A.mark (some (.ref a))) (eval (.Name x np) X.env) Q E { s' with heap := h3 } := fun {Q E} q => by
          obtain ⟨hg, hdbg, hm | ⟨hm, hv, hnn⟩⟩ := hc
          · exact ld_glob (X := X.suite a ((a, oe3) :: (X.pn ++ pins))) S3 hg hm q hdbg
          · exact ld_blt (X := X.suite a ((a, oe3) :: (X.pn ++ pins))) S3 hg hm hv q hnn hdbg
        refine test (LM.here ?_)
        cases b with
        | true =>
          refine codeAny_handlers_suite_as ?_
          refine HandSPX.lands_againZ fl3 fun h4 fl4 up4 => ?_
          have J4 : Inv X pins σ' H' { s' with heap := h4 } := J.landed nb fl4.1 ((up.trans up3).trans up4) os ag
          obtain ⟨oe4, vs4, he4, hz4, hd4⟩ := fl4.there
          have S4 := J4.suite he4 hd4 na nL nF
          refine store_ok (X := X.suite a ((a, oe4) :: (X.pn ++ pins))) (v := .ref a) S4 hN hi hloc rfl (fun s5 S5 => ?_) (.inr hln)
          refine wpAny_mono ((hsu a oe4 cls d (X.pn ++ pins) hz4 ⟨_, hd4⟩).run [] s5 _ H' _ S5 (hyes rfl a na)) (fun f s6 hsp => ?_) (fun _ _ z => False.elim z)
          have end_ : ∀ {σ6 : St} {H6 : Hp} {Q : Shared → Prop}, Inv (X.suite a ((a, oe4) :: (X.pn ++ pins))) [] σ6 H6 s6 → (∀ s7, Inv X pins (σ6.set i none) H6 s7 → Q s7) →
              wpAny (model X.prog X.w) X.A (do bindName X.env n .none; unbindBehindTheSuite X.env n pos') (fun _ s7 => Q s7) X.xe s6 := fun {σ6 H6 Q} S6 hq => gone_ok (S6.unsuite ok) hN hi hln hq
          cases f with
          | next =>
            obtain ⟨σ6, H6, S6, q6⟩ := hsp
            exact end_ S6 fun s7 J7 => ⟨_, _, J7, q6⟩
          | brk =>
            obtain ⟨σ6, H6, S6, q6⟩ := hsp
            exact end_ S6 fun s7 J7 => ⟨_, _, J7, q6⟩
          | cont =>
            obtain ⟨σ6, H6, S6, q6⟩ := hsp
            exact end_ S6 fun s7 J7 => ⟨_, _, J7, q6⟩
          | ret u =>
            obtain ⟨v6, σ6, H6, S6, r6, q6⟩ := hsp
            exact end_ S6 fun s7 J7 => ⟨_, _, _, J7, r6, q6⟩
        | false =>
          show wpAny _ X.A (handleBy (.ref a) X.env hds2) _ _ _
          exact ih (hno rfl)
    exact go hh w
  · cases f with
    | next =>
      obtain ⟨σ', H', J', q⟩ := hsp
      exact wpAny_execs_nil ⟨σ', H', J'.ofTry ok, q⟩
    | brk =>
      obtain ⟨σ', H', J', q⟩ := hsp
      exact ⟨σ', H', J'.ofTry ok, q⟩
    | cont =>
      obtain ⟨σ', H', J', q⟩ := hsp
      exact ⟨σ', H', J'.ofTry ok, q⟩
    | ret u =>
      obtain ⟨v, σ', H', J', r, q⟩ := hsp
      exact ⟨v, σ', H', J'.ofTry ok, r, q⟩
end
end Rx

set_option Elab.async false
set_option linter.all false
set_option maxRecDepth 100000
/-! RxF2: _law_fault(lambda: e). -/
namespace Rx
open PySem PySem.Spec PyProof.Rows L2
/-! ### what a clause gives -/
def hdQ (k : Kx) (fs : List (Str × V)) (h : Hd) (Q : VK) (H : Hp) : Prop := match h with
  | .fld m => ∃ x v, k.nm[m]? = some x ∧ fs.lookup x = some v ∧ Q v H
  | .tag s m => ∃ x v, k.nm[m]? = some x ∧ fs.lookup x = some v ∧ ∀ p, H p = none → Q (.ref p) (upd H p (.tup [.str s, v]))
def exW (k : Kx) (Q : VK) : List (Nat × Hd) → XK
  | [] => fun _ _ _ => False
  | (c, h) :: r => fun cls d H => ∃ C b, k.ce c = some C ∧ PySem.W.exmOne k.K cls (.ref C) = some b ∧ (b = true → cls = .ref C ∧ ∃ dd fs, d = some dd ∧ H dd = some (.xd fs) ∧ hdQ k fs h Q H) ∧ (b = false → exW k Q r cls d H)
/-- the suite of a clause -/
def tHd (a : Addr) (cls : Value) (d : Option Addr) (C : Addr) (x : Str) : Hd → TS
  | .fld _ => tRet (tXf a cls d C x (tVar 1))
  | .tag s _ => tRet (tTup (tCons (tC (.str s)) (tCons (tXf a cls d C x (tVar 1)) tNil)))
section
variable {Y : Cx} {k : Kx} {tb : Tb} {n : Str}
theorem nameB_d {x : Str} (h : nameB x = true) : (x == ("__debug__" : Str)) = false ∧ (x == ("__classdict__" : Str)) = false := by
  unfold nameB at h
  rw [Bool.and_eq_true, Bool.not_eq_true', Bool.not_eq_true'] at h
  exact h
/-- the clauses stand, what they want follows from exW -/
theorem hds_ok (eK : Y.K = k.K) (eN : k.nm = tb.nm) (ex : ExF Y.K Y.mg k tb) {sc : Scope} (esc : Y.env.scope = sc) (hn : Y.N[1]? = some n) (nl : sc.names.lookup n = some .local) (nb : nameB n = true) :
    ∀ {cl : List (Nat × Hd)} {hds : List ExceptHandler}, hdsB tb sc n cl hds = true → ∃ l, HdsA Y n hds l ∧ ∀ (Q : VK) (nx : St → Hp → Prop) (cls : Value) (d : Option Addr) (σ : St) (H : Hp), exW k Q cl cls d H → σ.length = 2 → wFew Y.K (fun _ _ _ _ => False) { nx := nx, rt := Q } 1 l cls d σ H
  | [], [], _ => ⟨[], .nil, fun Q nx cls d σ H h _ => h⟩
  | [], _ :: _, h => by cases h
  | _ :: _, [], h => by cases h
  | (c, hd) :: cl, h :: hds, hh => by
    unfold hdsB at hh
    rw [Bool.and_eq_true] at hh
    obtain ⟨l, r, w⟩ := hds_ok eK eN ex esc hn nl nb hh.2
    have h1 := hh.1
    obtain ⟨d1, d2⟩ := nameB_d nb
    have vis : Vis Y.env.scope n := by rw [esc]; exact .inl nl
    unfold hdB at h1
    split at h1
    · rename_i c1 m x xp n' n2 p1 f p2 p3 p4 eh
      cases eh
      simp only [Bool.and_eq_true, decide_eq_true_eq] at h1
      obtain ⟨⟨⟨⟨⟨⟨e1, e2⟩, e3⟩, e4⟩, e5⟩, e6⟩, e7⟩ := h1
      subst e4
      subst e5
      obtain ⟨C, z1, z2, z3⟩ := ex.cls _ _ e1
      have hno := ex.fno _ _ _ _ z1 e7 e6
      refine ⟨(.ref C, fun a cls d => tHd a cls d C f (.fld m)) :: l, .cons ⟨?_, (nameB_d e3).1, .inl z2⟩ (fun a oe cls d pn hz hf => ?_) r, fun Q nx cls d σ H h hl => ?_⟩
      · show Y.env.scope.names.lookup _ = some .globalImplicit
        rw [esc]
        unfold glbB at e2
        exact beq_iff_eq.mp e2
      · have pv : PE (Y.suite a ((a, oe) :: pn)) (.Name _ p1) (tVar 1) := pe_var (i := 1) hn vis d1 d2
        exact pss_one (ps_ret (pe_xf z3 hno hz hf pv))
      · obtain ⟨C', b, y1, y2, y3, y4⟩ := h
        rw [z1] at y1
        cases y1
        refine ⟨b, by rw [eK]; exact y2, fun hb a ha => ?_, fun hb => w Q nx cls d σ H (y4 hb) hl⟩
        obtain ⟨ecls, dd, fs, ed, eH, x', v, q1, q2, q3⟩ := y3 hb
        have q1 : k.nm[m]? = some x' := q1
        rw [eN, e6] at q1
        cases q1
        refine ⟨.ref a, by rw [List.getElem?_set_self (by rw [hl]; decide)], rfl, ecls, dd, fs, v, ed, eH, q2, q3⟩
    · rename_i c1 s m x xp n' s' j1 p0 n2 p1 f p2 j2 p3 p4 p5 eh
      cases eh
      simp only [Bool.and_eq_true, decide_eq_true_eq] at h1
      obtain ⟨⟨⟨⟨⟨⟨⟨e1, e2⟩, e3⟩, e4⟩, e4'⟩, e5⟩, e6⟩, e7⟩ := h1
      subst e4
      subst e4'
      subst e5
      obtain ⟨C, z1, z2, z3⟩ := ex.cls _ _ e1
      have hno := ex.fno _ _ _ _ z1 e7 e6
      refine ⟨(.ref C, fun a cls d => tHd a cls d C f (.tag s' m)) :: l, .cons ⟨?_, (nameB_d e3).1, .inl z2⟩ (fun a oe cls d pn hz hf => ?_) r, fun Q nx cls d σ H h hl => ?_⟩
      · show Y.env.scope.names.lookup _ = some .globalImplicit
        rw [esc]
        unfold glbB at e2
        exact beq_iff_eq.mp e2
      · have pv : PE (Y.suite a ((a, oe) :: pn)) (.Name _ p1) (tVar 1) := pe_var (i := 1) hn vis d1 d2
        exact pss_one (ps_ret (pe_tup (pa_cons pe_str (pa_cons (pe_xf z3 hno hz hf pv) pa_nil))))
      · obtain ⟨C', b, y1, y2, y3, y4⟩ := h
        rw [z1] at y1
        cases y1
        refine ⟨b, by rw [eK]; exact y2, fun hb a ha => ?_, fun hb => w Q nx cls d σ H (y4 hb) hl⟩
        obtain ⟨ecls, dd, fs, ed, eH, x', v, q1, q2, q3⟩ := y3 hb
        have q1 : k.nm[m]? = some x' := q1
        rw [eN, e6] at q1
        cases q1
        refine ⟨.ref a, by rw [List.getElem?_set_self (by rw [hl]; decide)], rfl, ecls, dd, fs, v, ed, eH, q2, ?_⟩
        exact ⟨by show 2 ≤ sizeLine; decide, q3⟩
    · cases h1
end
end Rx

set_option Elab.async false
set_option linter.all false
set_option maxRecDepth 100000
/-! RxF3: the def that tries what it got; a lambda's body; _law_fault(lambda: e). -/
namespace Rx
open PySem PySem.Spec PyProof.Rows L2 LamX
/-- what the def makes of the lambda's reading -/
def TTf (k : Kx) (fd : FltD) : (XK → Hp → VK → Prop) → Hp → VK → Prop := fun tl H Q => tl (exW k Q fd.cl) H fun _ H' => Q (.str fd.el) H'
section
variable {X : Cx} {k : Kx} {tb : Tb}
theorem fault_gives (eK : X.K = k.K) (eN : k.nm = tb.nm) (ex : ExF X.K X.mg k tb) {x a n q : Str} {sg : Scope} {ga : Addr} {cdg : Value} {fd : FltD} {body : List Stmt} (S : FnScope [a, n] [a] sg) (h : fltB tb sg a n fd body = true) :
    GivesTo X [a, n] x sg ga cdg body a q (TTf k fd) := by
  unfold fltB at h
  split at h
  · rename_i a' p1 p2 p3 h0 hs p4 el j p5 p6
    simp only [Bool.and_eq_true, decide_eq_true_eq] at h
    obtain ⟨⟨⟨⟨⟨⟨e1, e2⟩, e3⟩, e4⟩, e5⟩, e6⟩, e7⟩ := h
    subst e1
    subst e7
    intro f c' s H Q tl act hc hT
    obtain ⟨l, hh, hw⟩ := hds_ok (Y := (cxOf C8.CX0 X.prog X.w X.K X.mg X.base [a', n] x sg ga cdg X.A X.stack s H C8.E0).nox) eK eN ex rfl rfl e4 e3 e6
    refine ⟨_, pss_cons (ps_tryFew (X := (cxOf C8.CX0 X.prog X.w X.K X.mg X.base [a', n] x sg ga cdg X.A X.stack s H C8.E0).nox) (i := 1) (n := n) (l := l) (Wout := fun _ _ _ _ => False)
      (tb := fun W D σ H => ∃ Ech : XK, (∀ cls d σ' H', Ech cls d H' → σ'.length = 2 → W cls d σ' H') ∧ σ[0]? = some (some (.ref f)) ∧ H c' = some (CodeO c' q) ∧ tl Ech H (fun _ H' => D.nx σ H'))
      rfl rfl S.nd rfl e4 LamX.takes0 (fun W pn xe tk _ => ?_) hh) (pss_one (ps_ret pe_str)), ?_⟩
    · refine ⟨fun pins s' σ H' D I h' => ?_⟩
      obtain ⟨Ech, hW, h1, h2, h3⟩ := h'
      have tkg : Takes ((cxOf C8.CX0 X.prog X.w X.K X.mg X.base [a', n] x sg ga cdg X.A X.stack s H C8.E0).tr pn xe) (fun cls d σ H => σ.length = 2 → W cls d σ H) := fun u s' ⟨a0, B, sI, pins, σ, H, cls, d, e, I, nb, up, sky, na, os, ag, w⟩ =>
        tk u s' ⟨a0, B, sI, pins, σ, H, cls, d, e, I, nb, up, sky, na, os, ag, w I.len⟩
      have hp := act (fun cls d σ H => σ.length = 2 → W cls d σ H) pn xe Ech p1 p2 tkg fun cls d σ' H' z => hW cls d σ' H' z
      exact (pss_one (ps_expr (pos := p3) hp rfl)).run pins s' σ H' D I ⟨h1, h2, h3⟩
    · exact ⟨exW k Q fd.cl, fun cls d σ' H' z hl => hw Q _ cls d σ' H' z hl, rfl, hc, hT⟩
  · cases h
end
/-! ### names frozen, owners hidden -/
section
variable {k : Kx} {F H F' H' H1 : Hp} {σ : St} {ρ ρ' : Env}
theorem frz_one (K1 : Okk k F σ H ρ) (i : Nat) : ∃ F1, Okk k F1 σ H (ρ.set i (frzS ρ[i]?.join)) ∧ Fr F σ H ρ F1 σ H (ρ.set i (frzS ρ[i]?.join)) := by
  cases q : ρ[i]? with
  | none =>
    have : ρ.set i (frzS (none : Option (Option Sl)).join) = ρ := List.set_eq_of_length_le (List.getElem?_eq_none_iff.mp q)
    rw [this]
    exact ⟨F, K1, .refl⟩
  | some o =>
    have same : frzS o = o → ∃ F1, Okk k F1 σ H (ρ.set i (frzS (some o).join)) ∧ Fr F σ H ρ F1 σ H (ρ.set i (frzS (some o).join)) := fun e => by
      have : ρ.set i (frzS (some o).join) = ρ := by
        show ρ.set i (frzS o) = ρ
        rw [e]
        apply List.ext_getElem?
        intro j
        by_cases hj : i = j
        · subst hj
          rw [List.getElem?_set_self (List.getElem?_eq_some_iff.mp q).1, q]
        · rw [List.getElem?_set_ne hj]
      rw [this]
      exact ⟨F, K1, .refl⟩
    cases o with
    | none => exact same rfl
    | some s =>
      cases s with
      | frz d => exact same rfl
      | own d =>
        obtain ⟨v, h1, a, rfl, h3, h4⟩ := K1.val i _ q
        obtain ⟨o, h5, h6⟩ := h4.freeze h3
        have hi : i < ρ.length := (List.getElem?_eq_some_iff.mp q).1
        show ∃ F1, Okk k F1 σ H (ρ.set i (some (.frz d))) ∧ Fr F σ H ρ F1 σ H (ρ.set i (some (.frz d)))
        refine ⟨upd F a o, ⟨sub_upd K1.sub h5, by rw [List.length_set]; exact K1.len, fun j s hj => ?_, fun j j' b d1 d2 e1 e2 e3 e4 => ?_, K1.tabs, fnt_upd K1.fnt (h4.nt h5).1⟩, ⟨sub_upd_new h3, fun _ z => z, fun b u _ q1 q2 q3 => ?_⟩⟩
        · by_cases e : j = i
          · subst e
            rw [List.getElem?_set_self hi] at hj
            cases hj
            exact ⟨_, h1, h6⟩
          · rw [List.getElem?_set_ne (Ne.symm e)] at hj
            obtain ⟨u, hu, r⟩ := K1.val j s hj
            refine ⟨u, hu, ?_⟩
            cases s with
            | frz d' => exact Rep.mono (sub_upd_new h3) r
            | own d' =>
              obtain ⟨b, rfl, r1, r2⟩ := r
              have : b ≠ a := fun z => e (K1.inj j i a d' d hj q (z ▸ hu) h1)
              exact ⟨b, rfl, by rw [upd_ne this]; exact r1, r2.mono (sub_upd_new h3)⟩
        · have f1 : j ≠ i := fun z => by subst z; rw [List.getElem?_set_self hi] at e1; cases e1
          have f2 : j' ≠ i := fun z => by subst z; rw [List.getElem?_set_self hi] at e2; cases e2
          rw [List.getElem?_set_ne (Ne.symm f1)] at e1
          rw [List.getElem?_set_ne (Ne.symm f2)] at e2
          exact K1.inj j j' b d1 d2 e1 e2 e3 e4
        · have : b ≠ a := fun z => q3 (z ▸ ⟨i, d, q, h1⟩)
          refine ⟨q1, by rw [upd_ne this]; exact q2, fun z => q3 ?_⟩
          obtain ⟨j, d', z1, z2⟩ := z
          have f1 : j ≠ i := fun z => by subst z; rw [List.getElem?_set_self hi] at z1; cases z1
          rw [List.getElem?_set_ne (Ne.symm f1)] at z1
          exact ⟨j, d', z1, z2⟩
theorem frz_all : ∀ (is : List Nat) {F : Hp} {ρ : Env}, Okk k F σ H ρ → ∃ F1, Okk k F1 σ H (frzE ρ is) ∧ Fr F σ H ρ F1 σ H (frzE ρ is)
  | [], F, ρ, K1 => ⟨F, K1, .refl⟩
  | i :: is, F, ρ, K1 => by
    obtain ⟨F1, K2, f1⟩ := frz_one K1 i
    obtain ⟨F2, K3, f2⟩ := frz_all is K2
    exact ⟨F2, K3, f1.trans f2⟩
theorem hide_at {i : Nat} {s : Sl} (h : (hideE ρ)[i]? = some (some s)) : ρ[i]? = some (some s) ∧ ∃ d, s = .frz d := by
  unfold hideE at h
  rw [List.getElem?_map] at h
  cases q : ρ[i]? with
  | none => rw [q] at h; cases h
  | some o =>
    rw [q] at h
    have h : hideS o = some s := Option.some.inj h
    unfold hideS at h
    split at h
    · cases h
    · rename_i o' hne
      subst h
      cases s with
      | frz d => exact ⟨rfl, d, rfl⟩
      | own d => exact absurd rfl (hne d)
theorem hide_now {b : Addr} : ¬ Ow σ (hideE ρ) b := fun ⟨i, d, h1, _⟩ => by
  obtain ⟨_, d', e⟩ := hide_at h1
  cases e
/-- the lambda has been made: its maker's names, the owners hidden -/
theorem okk_hide (K1 : Okk k F σ H ρ) (e : ExtN H H1) (t : Tabs k.T H1) : Okk k F σ H1 (hideE ρ) := by
  refine ⟨fun b o q => e b o (K1.sub b o q) (K1.fnt b o q), by unfold hideE; rw [List.length_map]; exact K1.len, fun i s h => ?_, fun i j a d e h1 _ _ _ => ?_, t, K1.fnt⟩
  · obtain ⟨h1, d, rfl⟩ := hide_at h
    obtain ⟨v, h2, h3⟩ := K1.val i _ h1
    exact ⟨v, h2, h3⟩
  · obtain ⟨_, d', z⟩ := hide_at h1
    cases z
/-- .. and back -/
theorem okk_unhide (K1 : Okk k F σ H ρ) (e : ExtN H H1) (f : FrX F σ H1 (hideE ρ) F' H') (sb : Sub F' H') (t : Tabs k.T H') : Okk k F' σ H' ρ := by
  refine ⟨sb, K1.len, fun i s h => ?_, K1.inj, t, f.fnt⟩
  obtain ⟨v, h1, h2⟩ := K1.val i s h
  refine ⟨v, h1, ?_⟩
  cases s with
  | frz d => exact Rep.mono f.ext h2
  | own d =>
    obtain ⟨a, rfl, r1, r2⟩ := h2
    obtain ⟨o, ho⟩ := r2.at
    have nt := (r2.nt ho).1
    obtain ⟨q1, q2⟩ := f.keep a o nt (e a o ho nt) r1 hide_now
    exact ⟨a, rfl, q2, (r2.heap fun w hw => by rw [ho] at hw; cases hw; exact q1).mono f.ext⟩
theorem Fr.fx {σ' : St} (f : Fr F σ H ρ F' σ' H' ρ') (n : ∀ b o, F' b = some o → NT o) : FrX F σ H ρ F' H' := ⟨f.ext, f.dom, fun b o nt q1 q2 q3 => let ⟨z1, z2, _⟩ := f.keep b o nt q1 q2 q3; ⟨z1, z2⟩, n⟩
theorem fr_unhide (K1 : Okk k F σ H ρ) (e : ExtN H H1) (f : FrX F σ H1 (hideE ρ) F' H') : Fr F σ H ρ F' σ H' ρ := by
  refine ⟨f.ext, fun b ⟨o, q, n⟩ => f.dom b ⟨o, e b o q n, n⟩, fun b o nt q1 q2 q3 => ?_⟩
  obtain ⟨z1, z2⟩ := f.keep b o nt (e b o q1 nt) q2 hide_now
  exact ⟨z1, z2, q3⟩
end

/-! ### _law_fault(lambda: e) -/
def lamCs (c : Cs) (scope : Scope) : Cs := ⟨c.N, scope, fun _ => false, c.tb, false⟩
def noArgs : Arguments → Bool
  | ⟨[], [], none, [], [], none, []⟩ => true
  | _ => false
section
variable {X : Cx} {k : Kx} {g : G} {c : Cs} {n : Nat} {E : XK}
theorem lam_ok (x : XOk X k g c n E) (A : Around) (outer : List PySem.Env) (s : Shared) (H : Hp) (E' : XK) (scope : Scope) (f c' : Addr) (hr : Room (n + 2) (A.deeper (lamEnv X scope s.heap.objs.size f c'))) :
    XOk (lamCx X A outer s H E' scope f c') k g (lamCs c scope) n E' :=
  ⟨x.gk, x.eqm, x.st, x.exn, rfl, x.nd, x.hN, rfl, fun _ h => (nomatch h), takes_of rfl rfl rfl rfl, hr, passes_of rfl, fun h => (nomatch h)⟩
theorem lookup_nm {F : Hp} {m : Nat} (hm : k.nm[m]? = none) : ∀ {fs : List (Str × V)} {gs : List (Nat × D)} {d : D}, RepF k F fs gs → gs.lookup m = some d → False
  | _, _, d, .nil, h => by cases h
  | _, _, d, .cons (n := j) hy _ r, h => by
    by_cases e : m = j
    · subst e
      rw [hm] at hy
      cases hy
    · have e2 : (m == j) = false := beq_eq_false_iff_ne.mpr e
      simp only [List.lookup, e2] at h
      exact lookup_nm hm r h
theorem flt_get {fd : FltD} {cc : Nat} {gs : List (Nat × D)} {d : D} (h : fd.get cc gs = some d) : ∃ hd, fd.cl.lookup cc = some hd ∧ hd.get gs = some d := by
  unfold FltD.get at h
  cases q : fd.cl.lookup cc with
  | none => rw [q] at h; cases h
  | some hd => rw [q] at h; exact ⟨hd, rfl, h⟩
/-- the clause that serves the class -/
theorem exW_of (eK : X.K = k.K) (ex : ExF X.K X.mg k c.tb) {Q : VK} {cls : Value} {d : Option Addr} {H : Hp} {cc : Nat} {C : Addr} (hC : k.ce cc = some C) (ec : cls = .ref C) {dd : Addr} {fs : List (Str × V)} (ed : d = some dd) (eH : H dd = some (.xd fs)) :
    ∀ {cl : List (Nat × Hd)} {hd : Hd}, cl.lookup cc = some hd → (∀ q ∈ cl, ∃ C', k.ce q.1 = some C') → hdQ k fs hd Q H → exW k Q cl cls d H
  | [], hd, h, _, _ => by cases h
  | (c', hd') :: cl, hd, h, hh, q => by
    obtain ⟨C', h1⟩ := hh _ List.mem_cons_self
    have em := ex.exm cc c' C C' hC h1
    rw [eK] at em
    refine ⟨C', decide (cc = c'), h1, by rw [ec]; exact em, fun hb => ?_, fun hb => ?_⟩
    · have e := of_decide_eq_true hb
      subst e
      rw [hC] at h1
      cases h1
      simp only [List.lookup, beq_self_eq_true] at h
      cases h
      exact ⟨ec, dd, fs, ed, eH, q⟩
    · have e : cc ≠ c' := of_decide_eq_false hb
      have e2 : (cc == c') = false := beq_eq_false_iff_ne.mpr e
      simp only [List.lookup, e2] at h
      exact exW_of eK ex hC ec ed eH h (fun q hq => hh q (List.mem_cons_of_mem _ hq)) q
theorem cl_ce {K : PySem.W.Frag} {mg : Str → Option Value} {tb : Tb} (ex : ExF K mg k tb) {sc : Scope} {n : Str} : ∀ {cl : List (Nat × Hd)} {hs : List ExceptHandler}, hdsB tb sc n cl hs = true → ∀ q ∈ cl, ∃ C, k.ce q.1 = some C
  | [], _, _, q, hq => by simp at hq
  | _ :: _, [], h, q, hq => by cases h
  | (cc, hd) :: cl, h0 :: hs, h, q, hq => by
    unfold hdsB at h
    rw [Bool.and_eq_true] at h
    rcases List.mem_cons.mp hq with e | hq
    · subst e
      have h1 := h.1
      unfold hdB at h1
      split at h1
      · rename_i eh
        cases eh
        simp only [Bool.and_eq_true, decide_eq_true_eq] at h1
        obtain ⟨C, z, _⟩ := ex.cls _ _ h1.1.1.1.1.1.1
        exact ⟨C, z⟩
      · rename_i eh
        cases eh
        simp only [Bool.and_eq_true, decide_eq_true_eq] at h1
        obtain ⟨C, z, _⟩ := ex.cls _ _ h1.1.1.1.1.1.1.1
        exact ⟨C, z⟩
      · cases h1
    · exact cl_ce ex h.2 q hq
def fltF (g : G) (f : Nat) (fz : List Nat) (fe : Env → R (Sl × Env)) (ρ : Env) : R (Sl × Env) := (R.of (g.flt f)).bind fun fd => fltR fd (fe (hideE (frzE ρ fz))) (frzE ρ fz)
theorem se_flt (x : XOk X k g c n E) {f : Nat} {fz : List Nat} {fe : Env → R (Sl × Env)} {nm : Str} {p lpos pos : Pos} {params : Arguments} {body : Expr} {scope : Scope} (hl : c.lam = true) (hf : c.tb.flts[f]? = some nm) (hg : glB c.sc nm = true) (hk : nameOk nm = true) (hs : lamSB c.sc scope = true) (hp : noArgs params = true)
    (he : ∀ X' E', XOk X' k g (lamCs c scope) n E' → PE X' body (tF k E' fe)) : SE X k g E (.Call (.Name nm p) [.Lambda params body scope lpos] [] pos) (fltF g f fz fe) := by
  have L := x.lam hl
  obtain ⟨cc, P, TB, hcode, hmT, hu⟩ := L.cP
  obtain ⟨ga, fdg, st, a, en, fdat, h1, Fu, hb, S, h2, h3⟩ := L.flt f nm hf
  obtain ⟨oc, od, kV, doc, pm, an, cdv, ct, osl, rfl, lk, hcd⟩ := Fu.ex
  have eN := x.gk.nmE
  have h3' := h3
  unfold fltB at h3'
  have hpar : params = ⟨[], [], none, [], [], none, []⟩ := by
    unfold noArgs at hp
    split at hp
    · rfl
    · cases hp
  subst hpar
  split at h3'
  · rename_i a' q1 q2 q3 h0 hds q4 el j q5 q6 hbody
    simp only [Bool.and_eq_true, decide_eq_true_eq] at h3'
    obtain ⟨⟨⟨⟨⟨⟨e1, e2⟩, e3⟩, e4⟩, e5⟩, e6⟩, e7⟩ := h3'
    obtain ⟨d1, d2⟩ := nameB_d e2
    refine se_plain x (pe_weak (pe_lamcall (T := k.T) (k := n + 2) (t := fun E' => tF k E' fe) (gl_of x hg) h1 Fu.kp lk hcd hb S rfl (.inl e5) (fault_gives x.gk.kK eN L.exf S h3) TB hcode hmT hu L.room (lamS_by (by rw [x.sc]; exact hs)) rfl (fun _ _ _ _ _ => rfl)
      (fun A outer s H E' fa c' hr => he _ _ (lam_ok x A outer s H E' scope fa c' hr)) (nameOk_d hk).1 d1 d2) fun σ H Q ⟨F, ρ, K1, p⟩ => ?_) rfl
    have p : Post k E F H σ ρ ((R.of (g.flt f)).bind fun fd => fltR fd (fe (hideE (frzE ρ fz))) (frzE ρ fz)) _ := p
    rw [h2] at p
    have p : Post k E F H σ ρ (fltR fdat (fe (hideE (frzE ρ fz))) (frzE ρ fz)) (fun s ρ' F' H' => ∀ v, RsR k F' H' σ ρ' H v s → Q v H') := p
    refine ⟨K1.tabs, fun H1 eN1 T1 => ?_⟩
    obtain ⟨F1, K2, f1⟩ := frz_all fz K1
    refine ⟨F1, hideE (frzE ρ fz), okk_hide K2 eN1 T1, ?_⟩
    cases ev : fe (hideE (frzE ρ fz)) with
    | stuck => rw [ev] at p; exact p.elim
    | ok r =>
      obtain ⟨s, ρ'⟩ := r
      rw [ev] at p
      intro F' H' K3 f3 v rv
      have fx := Fr.fx f3 K3.fnt
      exact p F' H' (okk_unhide K2 eN1 fx K3.sub K3.tabs) (f1.trans (fr_unhide K2 eN1 fx)) _ (.str _)
    | exc ci gs =>
      rw [ev] at p
      intro cls d F' H' s2 fx xv
      obtain ⟨C, dd, fs, ec, hC, ed, eH, rf, tb'⟩ := xv
      have p : Post k E F H σ ρ (match fdat.get ci gs with | some d => R.ok (Sl.frz d, frzE ρ fz) | none => .stuck) (fun s ρ' F' H' => ∀ v, RsR k F' H' σ ρ' H v s → Q v H') := p
      cases hget : fdat.get ci gs with
      | none => rw [hget] at p; exact p.elim
      | some dv =>
        rw [hget] at p
        obtain ⟨hd, hl1, hl2⟩ := flt_get hget
        have K4 := okk_unhide K2 eN1 fx s2 tb'
        have f4 := f1.trans (fr_unhide K2 eN1 fx)
        have hnd : k.nm.Nodup := by rw [x.gk.nmE]; exact x.gk.nd
        refine exW_of x.gk.kK L.exf hC ec ed eH hl1 (cl_ce L.exf e6) ?_
        cases hd with
        | fld m =>
          have hl2 : gs.lookup m = some dv := hl2
          have hm : ∃ x', k.nm[m]? = some x' := by
            cases q : k.nm[m]? with
            | some x' => exact ⟨x', rfl⟩
            | none =>
              exfalso
              exact lookup_nm q rf hl2
          obtain ⟨x', hx'⟩ := hm
          obtain ⟨v, w1, w2⟩ := (RepF.look hnd hx' rf).1 dv hl2
          exact ⟨x', v, hx', w1, p F' H' K4 f4 v w2⟩
        | tag s m =>
          cases hl3 : gs.lookup m with
          | none => have hl2 : (gs.lookup m).map (fun d => D.tup [.str s, d]) = some dv := hl2; rw [hl3] at hl2; cases hl2
          | some dm =>
            have hl2 : (gs.lookup m).map (fun d => D.tup [.str s, d]) = some dv := hl2
            rw [hl3] at hl2
            cases hl2
            have hm : ∃ x', k.nm[m]? = some x' := by
              cases q : k.nm[m]? with
              | some x' => exact ⟨x', rfl⟩
              | none =>
                exfalso
                exact lookup_nm q rf hl3
            obtain ⟨x', hx'⟩ := hm
            obtain ⟨v, w1, w2⟩ := (RepF.look hnd hx' rf).1 dm hl3
            refine ⟨x', v, hx', w1, fun pa hpa => ?_⟩
            obtain ⟨y1, y2, y3⟩ := K4.new (new_tup K4.sub hpa (.cons (.str s) (.cons w2 .nil)))
            exact p _ _ y1 (f4.trans y2) _ (y3.back f4.dom)
  · cases h3'
end
end Rx

set_option Elab.async false
set_option linter.all false
set_option maxRecDepth 100000
/-! Rx18: the checker of expressions, and that it is sound. -/
namespace Rx
open PySem PySem.Spec PyProof.Rows L2
/-! ### shapes -/
def isVar (c : Cs) (i : Nat) : Expr → Bool
  | .Name x _ => varB c i x
  | _ => false
def isCon : Cn → Expr → Bool
  | k, .Constant q _ _ => decide (q = cnEx k)
  | _, _ => false
def isGlb (c : Cs) (j : Nat) : Expr → Bool
  | .Name x _ => decide (c.tb.glb[j]? = some x) && glB c.sc x && nameOk x
  | _ => false
def tyNms (c : Cs) : List Ty → List Expr → Bool
  | [], [] => true
  | T :: Ts, .Name nm _ :: es => decide (tyName c.tb T = some nm) && glB c.sc nm && nameOk nm && tyNms c Ts es
  | _, _ => false
def Ty.same : Ty → Ty → Bool
  | .int, .int => true
  | .bool, .bool => true
  | .str, .str => true
  | .tuple, .tuple => true
  | .list, .list => true
  | .cls a, .cls b => a == b
  | _, _ => false
theorem Ty.same_eq {a b : Ty} (h : a.same b = true) : a = b := by
  unfold Ty.same at h
  split at h <;> first
    | rfl
    | (rw [beq_iff_eq.mp h])
    | cases h
def tyIn (tys : List Ty) (T : Ty) : Bool := tys.any fun t => t.same T
theorem tyIn_mem {tys : List Ty} {T : Ty} (h : tyIn tys T = true) : T ∈ tys := by
  obtain ⟨t, h1, h2⟩ := List.any_eq_true.mp h
  rw [← Ty.same_eq h2]
  exact h1
def opArgs (c : Cs) : Op → Expr → Option (List Expr)
  | .bin o, .BinOp a op b _ => if op = binOp o then some [a, b] else none
  | .cmp o, .Compare a [op] [b] _ => if op = cmpOp o ∧ behindInMarks op b = false then some [a, b] else none
  | .ix, .Subscript a b _ => if notSlice b = true then some [a, b] else none
  | .attr f, .Attribute o nm _ => if (decide (c.tb.nm[f]? = some nm) && notSuper o && !(c.tb.mths.contains f)) = true then some [o] else none
  | .tup, .Tuple es _ _ => some es
  | .lst, .List es _ => some es
  | .inst Ts, .Call (.Name f _) [e, .Name nm _] [] _ => (match Ts with
    | [T] => if (decide (f = ("isinstance" : Str)) && glB c.sc f && decide (tyName c.tb T = some nm) && glB c.sc nm && nameOk nm && tyIn c.tb.tys T) = true then some [e] else none
    | _ => none)
  | .inst Ts, .Call (.Name f _) [e, .Tuple es _ _] [] _ => if (decide (f = ("isinstance" : Str)) && glB c.sc f && tyNms c Ts es && decide (Ts.length ≤ 100) && Ts.all fun T => tyIn c.tb.tys T) = true then some [e] else none
  | .neg, .UnaryOp .USub a _ => some [a]
  | .bi b, .Call (.Name f _) (a :: es) [] _ => if (decide (f = biName b) && glB c.sc f) = true then some (a :: es) else none
  | .slc false false, .Subscript o (.Slice none none none _) _ => some [o]
  | .slc true false, .Subscript o (.Slice (some l) none none _) _ => some [o, l]
  | .slc false true, .Subscript o (.Slice none (some h) none _) _ => some [o, h]
  | .slc true true, .Subscript o (.Slice (some l) (some h) none _) _ => some [o, l, h]
  | .dnew _, .Dict [] [] _ => some []
  | .dsp, .Dict keys vals _ => if (!keys.isEmpty && decide (keys.length ≤ 15)) = true then flatD keys vals else none
  | .rev, .Subscript a (.Slice none none (some (.UnaryOp .USub (.Constant (.int 1) _ _) _)) _) _ => some [a]
  | .lrng, .Call (.Name f _) [.Call (.Name r _) [a, b] [] _] [] _ => if (decide (f = ("list" : Str)) && decide (r = ("range" : Str)) && glB c.sc f && glB c.sc r) = true then some [a, b] else none
  | _, _ => none
def chnArgs (o p : Cop) : Expr → Option (Expr × Expr × Expr)
  | .Compare a [o1, p1] [b, d] _ => if o1 = cmpOp o ∧ p1 = cmpOp p ∧ behindInMarks p1 d = false then some (a, b, d) else none
  | _ => none
def eqvArgs (neg : Bool) : Expr → Option (List Expr)
  | .Compare a [o1] [b] _ => if o1 = eqOp neg then some [a, b] else none
  | _ => none
def truArg (c : Cs) : Expr → Option Expr
  | .Call (.Name f _) [e] [] _ => if (decide (f = ("bool" : Str)) && glB c.sc f && notStar e) = true then some e else none
  | _ => none
def callArgs (c : Cs) (f : Nat) : Expr → Option (List Expr)
  | .Call (.Name nm _) (a :: es) [] _ => if (decide (c.tb.fns[f]? = some nm) && glB c.sc nm && nameOk nm) = true then some (a :: es) else none
  | _ => none
def makeArgs (c : Cs) (cc : Nat) : Expr → Option (List Expr)
  | .Call (.Name nm _) (a :: es) [] _ => if (decide (c.tb.cls[cc]? = some nm) && glB c.sc nm && nameOk nm && decide (cc ∈ c.tb.inis)) = true then some (a :: es) else none
  | _ => none
def methArgs (c : Cs) (m : Nat) : Expr → Option (Expr × List Expr)
  | .Call (.Attribute o nm apos) es [] pos => if (decide (c.tb.nm[m]? = some nm) && notSuper o && decide (es.length < 30) && (apos.endLine == pos.line)) = true then some (o, es) else none
  | _ => none
def bmArgs (m : Bm) : Expr → Option (Expr × List Expr)
  | .Call (.Attribute o nm apos) (a :: es) [] pos => if (decide (nm = bmName m) && notSuper o && decide ((a :: es).length < 29) && (apos.endLine == pos.line)) = true then some (o, a :: es) else none
  | _ => none
def itArgs (c : Cs) (i : Ik) (tg it : Expr) : Option (List Expr) := match i with
  | .seq => some [it]
  | .rng => (match it with
    | .Call (.Name f _) [a] [] _ => if (decide (f = ("range" : Str)) && glB c.sc f) = true then some [a] else none
    | .Call (.Name f _) [a, b] [] _ => if (decide (f = ("range" : Str)) && glB c.sc f) = true then some [a, b] else none
    | _ => none)
  | .enm => (match tg, it with
    | .Tuple _ _ _, .Call (.Name f _) [a] [] _ => if (decide (f = ("enumerate" : Str)) && glB c.sc f) = true then some [a] else none
    | _, _ => none)
  | .zip => (match tg, it with
    | .Tuple _ _ _, .Call (.Name f _) [a, b] [] _ => if (decide (f = ("zip" : Str)) && glB c.sc f) = true then some [a, b] else none
    | _, _ => none)
def lcParts : Expr → Option (Expr × Expr × Expr × List Expr × Scope)
  | .ListComp elt [⟨tg, it, ifs, z⟩] scope _ => if z = 0 ∧ notSet it = true then some (elt, tg, it, ifs, scope) else none
  | _ => none
def dcParts : Expr → Option (Expr × Expr × Expr × Expr × List Expr × Scope)
  | .DictComp kx vx [⟨tg, it, ifs, z⟩] scope _ => if z = 0 ∧ notSet it = true then some (kx, vx, tg, it, ifs, scope) else none
  | _ => none
def lc2Parts : Expr → Option ((Expr × Expr × Expr × List Expr × Scope) × Expr × Expr × List Expr)
  | .ListComp elt [⟨tg, it, ifs, z⟩, ⟨tg1, it1, ifs1, z1⟩] scope _ => if z = 0 ∧ z1 = 0 ∧ notSet it = true ∧ notSet it1 = true then some ((elt, tg, it, ifs, scope), tg1, it1, ifs1) else none
  | _ => none
def ownOf (c : Cs) (vs : List Nat) : List (Str × Nat) := vs.map fun i => ((c.N[i]?).getD "", i)
/-- operands of which none is read in place, none raises (a slice's own limits) -/
def slPlain : Exs → Bool
  | .cons _ (.cons _ (.cons (.con _) .nil)) => true
  | .cons _ (.cons _ (.bor _ .nil)) => true
  | .bor _ (.cons _ (.cons (.con _) .nil)) => true
  | .bor _ (.cons _ (.bor _ .nil)) => true
  | .cons _ (.cons _ (.cons (.op (.bin _) (.bor _ (.cons (.con _) .nil))) .nil)) => true
  | .bor _ (.cons _ (.cons (.op (.bin _) (.bor _ (.cons (.con _) .nil))) .nil)) => true
  | .cons _ (.cons _ (.cons (.op (.bin _) (.bor _ (.bor _ .nil))) .nil)) => true
  | .bor _ (.cons _ (.cons (.op (.bin _) (.bor _ (.bor _ .nil))) .nil)) => true
  | _ => false
def opSide (o : Op) (as : Exs) : Bool := match o with
  | .slc true true => slPlain as
  | _ => true
def fltArgs (c : Cs) (f : Nat) : Expr → Option (Expr × Scope)
  | .Call (.Name nm _) [.Lambda params body scope _] [] _ => if (decide (c.tb.flts[f]? = some nm) && c.lam && glB c.sc nm && nameOk nm && LamX.lamSB c.sc scope && noArgs params) = true then some (body, scope) else none
  | _ => none
def unstar : List Bool → List Expr → Option (List Expr)
  | [], [] => some []
  | true :: fl, .Starred e _ :: es => (unstar fl es).map (e :: ·)
  | false :: fl, e :: es => (unstar fl es).map (e :: ·)
  | _, _ => none
def catArgs (tp : Bool) (fl : List Bool) : Expr → Option (List Expr)
  | .Tuple es _ _ => if tp then unstar fl es else none
  | .List es _ => if tp then none else unstar fl es
  | _ => none
mutual
def Tg.ck (c : Cs) : Tg → Expr → Bool
  | .var i, e => (match e with
    | .Name nm _ => strB c i nm
    | _ => false)
  | .fld j f, e => (match e with
    | .Attribute (.Name on _) nm _ => varB c j on && decide (c.tb.nm[f]? = some nm) && !(c.tb.mths.contains f)
    | _ => false)
  | .tup ts, e => (match e with
    | .Tuple es _ _ => Tgs.ck c ts es
    | _ => false)
def Tgs.ck (c : Cs) : Tgs → List Expr → Bool
  | .nil, es => es.isEmpty
  | .cons t ts, es => (match es with
    | e :: es => notStarT e && Tg.ck c t e && Tgs.ck c ts es
    | [] => false)
end
mutual
def Ex.ck : Ex → Cs → Expr → Bool
  | .var i, c, e => isVar c i e
  | .con k, c, e => isCon k e
  | .glb j, c, e => isGlb c j e
  | .op o as, c, e => (match opArgs c o e with
    | some es => Exs.ck as c es && opSide o as
    | none => false)
  | .chn o p a b d, c, e => (match chnArgs o p e with
    | some q => Ex.ck a c q.1 && Ex.ck b c q.2.1 && Ex.ck d c q.2.2
    | none => false)
  | .and a b, c, e => (match e with
    | .BoolOp .And (x :: y :: rest) pos => Ex.ck a c x && Ex.ck b c (match rest with
      | [] => y
      | _ => .BoolOp .And (y :: rest) pos)
    | _ => false)
  | .or a b, c, e => (match e with
    | .BoolOp .Or (x :: y :: rest) pos => Ex.ck a c x && Ex.ck b c (match rest with
      | [] => y
      | _ => .BoolOp .Or (y :: rest) pos)
    | _ => false)
  | .not a, c, e => (match e with
    | .UnaryOp .Not x _ => Ex.ck a c x
    | _ => false)
  | .tru a, c, e => (match truArg c e with
    | some x => Ex.ck a c x
    | none => false)
  | .eqv neg as, c, e => (match eqvArgs neg e with
    | some es => Exs.ck as c es
    | none => false)
  | .ife t a b, c, e => (match e with
    | .IfExp x y z _ => Ex.ck t c x && Ex.ck a c y && Ex.ck b c z
    | _ => false)
  | .call f as, c, e => (match callArgs c f e with
    | some es => Exs.ck as c es
    | none => false)
  | .make cc as, c, e => (match makeArgs c cc e with
    | some es => Exs.ck as c es
    | none => false)
  | .meth m o as, c, e => (match methArgs c m e with
    | some q => Exs.ck o c [q.1] && Exs.ck as c q.2
    | none => false)
  | .bm m o as, c, e => (match bmArgs m e with
    | some q => Exs.ck o c [q.1] && Exs.ck as c q.2
    | none => false)
  | .lc t vs i as cs el, c, e => (match lcParts e with
    | some q => blkC c.N c.sc q.2.2.2.2 (ownOf c vs) && (match itArgs c i q.2.1 q.2.2.1 with
        | some es => Exs.ck as c es
        | none => false) && Tg.ck (blkCs c q.2.2.2.2) t q.2.1 && Exs.ckT cs (blkCs c q.2.2.2.2) q.2.2.2.1 && Ex.ck el (blkCs c q.2.2.2.2) q.1
    | none => false)
  | .dc t vs i as cs kx vx, c, e => (match dcParts e with
    | some (ke, ve, tg, it, ifs, scope) => blkC c.N c.sc scope (ownOf c vs) && (match itArgs c i tg it with
        | some es => Exs.ck as c es
        | none => false) && Tg.ck (blkCs c scope) t tg && Exs.ckT cs (blkCs c scope) ifs && Ex.ck kx (blkCs c scope) ke && Ex.ck vx (blkCs c scope) ve
    | none => false)
  | .flt f fz el, c, e => (match fltArgs c f e with
    | some q => Ex.ck el (lamCs c q.2) q.1
    | none => false)
  | .lc2 t vs i as cs t1 vs1 i1 as1 cs1 el, c, e => (match lc2Parts e with
    | some (q, tg1, it1, ifs1) => blkC c.N c.sc q.2.2.2.2 (ownOf c vs) && (vs1.all fun i => vs.contains i) && (match itArgs c i q.2.1 q.2.2.1 with
        | some es => Exs.ck as c es
        | none => false) && Tg.ck (blkCs c q.2.2.2.2) t q.2.1 && Exs.ckT cs (blkCs c q.2.2.2.2) q.2.2.2.1 && Ex.ck el (blkCs c q.2.2.2.2) q.1 &&
        (match itArgs (blkCs c q.2.2.2.2) i1 tg1 it1 with
        | some es => Exs.ck as1 (blkCs c q.2.2.2.2) es
        | none => false) && Tg.ck (blkCs c q.2.2.2.2) t1 tg1 && Exs.ckT cs1 (blkCs c q.2.2.2.2) ifs1
    | none => false)
  | .cat tp fl as, c, e => (match catArgs tp fl e with
    | some es => Exs.ck as c es
    | none => false)
def Exs.ck : Exs → Cs → List Expr → Bool
  | .nil, c, es => es.isEmpty
  | .cons a as, c, es => (match es with
    | e :: es => notStar e && Ex.ck a c e && Exs.ck as c es
    | [] => false)
  | .bor i as, c, es => (match es with
    | e :: es => isVar c i e && Exs.ck as c es
    | [] => false)
/-- a clause's tests: none or one -/
def Exs.ckT : Exs → Cs → List Expr → Bool
  | .nil, c, es => es.isEmpty
  | .cons a as, c, es => (match as, es with
    | .nil, [e] => Ex.ck a c e
    | _, _ => false)
  | .bor i as, c, es => false
end
def Exs.fs (g : G) : Exs → List (Env → R (Pv × Env))
  | .nil => []
  | .cons a as => (fun ρ => (a.ev g ρ).bind fun x => .ok (.inl x.1.d, x.2)) :: as.fs g
  | .bor i as => (fun ρ => (slot ρ i).bind fun _ => .ok (.inr i, ρ)) :: as.fs g
theorem exs_ev (g : G) : ∀ (as : Exs) (ρ : Env), as.ev g ρ = seqF (as.fs g) ρ
  | .nil, ρ => by unfold Exs.ev; rfl
  | .cons a as, ρ => by
    unfold Exs.ev
    show _ = (((a.ev g ρ).bind fun x => R.ok (Sum.inl x.1.d, x.2)).bind fun x => (seqF (as.fs g) x.2).bind fun r => R.ok (x.1 :: r.1, r.2))
    rw [R.assoc]
    congr 1
    funext x
    rw [exs_ev g as x.2]
    rfl
  | .bor i as, ρ => by
    unfold Exs.ev
    show _ = (((slot ρ i).bind fun _ => R.ok ((Sum.inr i : Pv), ρ)).bind fun x => (seqF (as.fs g) x.2).bind fun r => R.ok (x.1 :: r.1, r.2))
    rw [R.assoc]
    congr 1
    funext x
    rw [exs_ev g as ρ]
    rfl
section
variable {X : Cx} {k : Kx} {g : G} {c : Cs} {n : Nat} {E : XK}
theorem isVar_d {i : Nat} {e : Expr} (h : isVar c i e = true) : ∃ nm pos, e = .Name nm pos ∧ varB c i nm = true := by
  unfold isVar at h
  split at h
  · exact ⟨_, _, rfl, h⟩
  · cases h
theorem mth_none (x : XOk X k g c n E) {f : Nat} (h : (c.tb.mths.contains f) = false) (c' : Nat) : g.mth c' f = none := x.st.mthN c' f fun z => by
  rw [List.contains_iff_mem.mpr z] at h
  cases h
theorem tyNms_d : ∀ {Ts : List Ty} {es : List Expr}, tyNms c Ts es = true → (∀ (i : Nat) (T : Ty), Ts[i]? = some T → ∃ nm pos, es[i]? = some (.Name nm pos) ∧ tyName c.tb T = some nm ∧ glB c.sc nm = true ∧ nameOk nm = true) ∧ es.length = Ts.length
  | [], [], _ => ⟨fun i T h => by simp at h, rfl⟩
  | [], _ :: _, h => by cases h
  | T :: Ts, [], h => by cases h
  | T :: Ts, e :: es, h => by
    cases e <;> first | (cases h; done) | skip
    rename_i nm pos
    have h : (decide (tyName c.tb T = some nm) && glB c.sc nm && nameOk nm && tyNms c Ts es) = true := h
    rw [Bool.and_eq_true, Bool.and_eq_true, Bool.and_eq_true] at h
    obtain ⟨q1, q2⟩ := tyNms_d h.2
    refine ⟨fun i T' hT => ?_, congrArg (· + 1) q2⟩
    cases i with
    | zero =>
      simp at hT
      subst hT
      exact ⟨nm, pos, rfl, of_decide_eq_true h.1.1.1, h.1.1.2, h.1.2⟩
    | succ i => simpa using q1 i T' (by simpa using hT)
theorem inl_fs {a : Ex} : ∀ ρ (x : Pv) ρ', ((a.ev g ρ).bind fun x => R.ok ((Sum.inl x.1.d : Pv), x.2)) = .ok (x, ρ') → ∃ d, x = .inl d := fun ρ x ρ' h => by
  obtain ⟨y, _, h⟩ := bind_ok h
  cases h
  exact ⟨_, rfl⟩
theorem con_noexc {k' : Cn} : ∀ ρ (cc : Nat) (gs : List (Nat × D)), (((Ex.con k').ev g ρ).bind fun x => R.ok ((Sum.inl x.1.d : Pv), x.2)) ≠ .exc cc gs := fun ρ cc gs h => by
  unfold Ex.ev at h
  cases h
theorem bor_noexc {i : Nat} : ∀ ρ (cc : Nat) (gs : List (Nat × D)), ((slot ρ i).bind fun _ => R.ok ((Sum.inr i : Pv), ρ)) ≠ .exc cc gs := fun ρ cc gs => bind_noexc (fun _ _ => slot_noexc) fun _ _ _ => ok_ne
theorem bin_noexc1 {o : Bop} {i : Nat} {k' : Cn} : ∀ ρ (cc : Nat) (gs : List (Nat × D)), (((Ex.op (.bin o) (.bor i (.cons (.con k') .nil))).ev g ρ).bind fun x => R.ok ((Sum.inl x.1.d : Pv), x.2)) ≠ .exc cc gs := fun ρ cc gs => by
  refine bind_noexc (fun c' gs' => ?_) fun _ _ _ => ok_ne
  unfold Ex.ev
  refine bind_noexc (fun _ _ => ?_) fun r _ _ => bind_noexc (fun _ _ => rs_noexc) fun ds _ _ => bind_noexc (fun _ _ => op_noexc _ _ _ _) fun _ _ _ => ok_ne
  unfold Exs.ev
  refine bind_noexc (fun _ _ => slot_noexc) fun _ _ _ => bind_noexc (fun _ _ => ?_) fun _ _ _ => ok_ne
  unfold Exs.ev Ex.ev Exs.ev
  exact ok_ne
theorem bin_noexc2 {o : Bop} {i j : Nat} : ∀ ρ (cc : Nat) (gs : List (Nat × D)), (((Ex.op (.bin o) (.bor i (.bor j .nil))).ev g ρ).bind fun x => R.ok ((Sum.inl x.1.d : Pv), x.2)) ≠ .exc cc gs := fun ρ cc gs => by
  refine bind_noexc (fun c' gs' => ?_) fun _ _ _ => ok_ne
  unfold Ex.ev
  refine bind_noexc (fun _ _ => ?_) fun r _ _ => bind_noexc (fun _ _ => rs_noexc) fun ds _ _ => bind_noexc (fun _ _ => op_noexc _ _ _ _) fun _ _ _ => ok_ne
  unfold Exs.ev
  refine bind_noexc (fun _ _ => slot_noexc) fun _ _ _ => bind_noexc (fun _ _ => ?_) fun _ _ _ => ok_ne
  unfold Exs.ev
  refine bind_noexc (fun _ _ => slot_noexc) fun _ _ _ => bind_noexc (fun _ _ => ?_) fun _ _ _ => ok_ne
  unfold Exs.ev
  exact ok_ne
/-- a slice with both limits -/
theorem sl3_side {as : Exs} {f1 f2 f3 : Env → R (Pv × Env)} (h : slPlain as = true) (e : as.fs g = [f1, f2, f3]) : (∀ ρ x ρ', f2 ρ = .ok (x, ρ') → ∃ d, x = .inl d) ∧ ∀ ρ cc gs, f3 ρ ≠ .exc cc gs := by
  unfold slPlain at h
  split at h
  all_goals first
    | (cases h; done)
    | (simp only [Exs.fs] at e
       cases e
       first
         | exact ⟨inl_fs, con_noexc⟩
         | exact ⟨inl_fs, bor_noexc⟩
         | exact ⟨inl_fs, bin_noexc1⟩
         | exact ⟨inl_fs, bin_noexc2⟩)
end
end Rx

set_option Elab.async false
set_option linter.all false
set_option maxRecDepth 100000
/-! Rx19: the checker of expressions is sound. -/
namespace Rx
open PySem PySem.Spec PyProof.Rows L2
section
variable {X : Cx} {k : Kx} {g : G} {c : Cs} {n : Nat} {E : XK}
theorem pcs1 {a : Expr} {fs : List (Env → R (Pv × Env))} (h : PCs X k E [a] fs) : ∃ f, fs = [f] := by
  cases h with
  | cons _ _ h => cases h; exact ⟨_, rfl⟩
theorem pcs2 {a b : Expr} {fs : List (Env → R (Pv × Env))} (h : PCs X k E [a, b] fs) : ∃ f f', fs = [f, f'] := by
  cases h with
  | cons _ _ h =>
    obtain ⟨f, rfl⟩ := pcs1 h
    exact ⟨_, f, rfl⟩
theorem pcs3 {a b d : Expr} {fs : List (Env → R (Pv × Env))} (h : PCs X k E [a, b, d] fs) : ∃ f f' f'', fs = [f, f', f''] := by
  cases h with
  | cons _ _ h =>
    obtain ⟨f, f', rfl⟩ := pcs2 h
    exact ⟨_, f, f', rfl⟩
def catF : List Bool → List (Env → R (Pv × Env)) → Env → R (List D × Env)
  | [], [], ρ => .ok ([], ρ)
  | b :: fl, f :: fs, ρ => (f ρ).bind fun x => (R.of (match x.1 with
      | .inl d => spread b d
      | .inr _ => none)).bind fun xs => (catF fl fs x.2).bind fun r => .ok (xs ++ r.1, r.2)
  | _, _, _ => .stuck
theorem exs_cat (g : G) : ∀ (as : Exs) (fl : List Bool) (ρ : Env), as.cat g fl ρ = catF fl (as.fs g) ρ
  | .nil, fl, ρ => by
    unfold Exs.cat
    cases fl <;> rfl
  | .cons a as, fl, ρ => by
    unfold Exs.cat
    cases fl with
    | nil => rfl
    | cons b fl =>
      show _ = (((a.ev g ρ).bind fun x => R.ok ((Sum.inl x.1.d : Pv), x.2)).bind fun x => (R.of (match x.1 with
        | .inl d => spread b d
        | .inr _ => none)).bind fun xs => (catF fl (as.fs g) x.2).bind fun r => R.ok (xs ++ r.1, r.2))
      rw [R.assoc]
      dsimp only
      congr 1
      funext x
      dsimp only [R.ok_bind]
      congr 1
      funext xs
      rw [exs_cat g as fl x.2]
  | .bor i as, fl, ρ => by
    unfold Exs.cat
    cases fl with
    | nil => rfl
    | cons b fl =>
      show _ = (((slot ρ i).bind fun _ => R.ok ((Sum.inr i : Pv), ρ)).bind fun x => (R.of (match x.1 with
        | .inl d => spread b d
        | .inr _ => none)).bind fun xs => (catF fl (as.fs g) x.2).bind fun r => R.ok (xs ++ r.1, r.2))
      cases q : slot ρ i with
      | ok s => rfl
      | exc c fs => exact absurd q slot_noexc
      | stuck => rfl
def tD (k : Kx) (E : XK) (f : Env → R (List D × Env)) : TA := fun σ H Q => ∃ F ρ, Okk k F σ H ρ ∧ Post k E F H σ ρ (f ρ) fun ds ρ' F' H' => ∀ vs, Reps k F' vs ds → Q vs H'
theorem reps_app {k : Kx} {F : Hp} : ∀ {us vs : List V} {ds es : List D}, Reps k F us ds → Reps k F vs es → Reps k F (us ++ vs) (ds ++ es)
  | _, _, _, _, .nil, h => h
  | _, _, _, _, .cons h r, h2 => .cons h (reps_app r h2)
/-- what is spread: a list or a tuple of the frozen heap -/
theorem elems_rep {k : Kx} {F H : Hp} {v : V} {d : D} {xs : List D} (sb : Sub F H) (r : Rep k F v d) (h : elems d = some xs) : ∃ p vs, v = .ref p ∧ (SqT k.K H p vs ∨ SqL k.K H p vs) ∧ Reps k F vs xs := by
  cases d with
  | tup ds =>
    cases h
    cases r with
    | tup h1 h2 => exact ⟨_, _, rfl, .inl (SqT_sub sb h1), h2⟩
  | lst ds =>
    cases h
    cases r with
    | lst h1 h2 => exact ⟨_, _, rfl, .inr (.inl (Rd_sub sb h1)), h2⟩
  | _ => cases h
theorem pcs_cat (x : XOk X k g c n E) : ∀ {fl : List Bool} {es' es : List Expr} {fs : List (Env → R (Pv × Env))}, unstar fl es' = some es → PCs X k E es fs → PA X es' (tD k E (catF fl fs))
  | [], [], es, fs, h, p => by
    cases h
    cases p
    exact pa_weak pa_nil fun σ H Q ⟨F, ρ, K1, q⟩ => q.here K1 [] .nil
  | [], _ :: _, es, fs, h, p => by cases h
  | b :: fl, [], es, fs, h, p => by cases b <;> cases h
  | true :: fl, e' :: es', es, fs, h, p => by
    cases e' <;> first | (cases h; done) | skip
    rename_i e pos
    obtain ⟨es2, h2, rfl⟩ := Option.map_eq_some_iff.mp (show (unstar fl es').map (e :: ·) = some es from h)
    cases p with
    | cons n1 ha r =>
      refine pa_weak (StX.pa_star ha (pcs_cat x h2 r)) fun σ H Q ⟨F, ρ, K1, q⟩ => ⟨F, ρ, K1, Post.mono (Post.split q) fun pv ρ1 F1 H1 K2 f1 q1 v hv => ?_⟩
      rcases Post.look q1 with ⟨xs, e1, q2⟩ | ⟨_, _, e1⟩
      · cases pv with
        | inr j => cases e1
        | inl d =>
          have e2 : elems d = some xs := by
            cases q : elems d with
            | none => exact absurd e1 (by show R.of (elems d) ≠ _; rw [q]; intro z; cases z)
            | some ys =>
              have e1 : R.of (elems d) = .ok xs := e1
              rw [q] at e1
              cases e1
              rfl
          obtain ⟨p0, us, rfl, hsq, rr⟩ := elems_rep K2.sub hv e2
          exact ⟨p0, us, rfl, by rw [x.gk.kK]; exact hsq, F1, ρ1, K2, Post.mono (Post.split q2) fun ds ρ2 F2 H2 K3 f2 q3 vs hvs => q3.here K3 (us ++ vs) (reps_app (rr.mono f2.ext) hvs)⟩
      · cases pv with
        | inr j => cases e1
        | inl d =>
          have e1 : R.of (elems d) = .exc _ _ := e1
          cases q : elems d <;> rw [q] at e1 <;> cases e1
  | false :: fl, e' :: es', es, fs, h, p => by
    obtain ⟨es2, h2, rfl⟩ := Option.map_eq_some_iff.mp (show (unstar fl es').map (e' :: ·) = some es from h)
    cases p with
    | cons n1 ha r =>
      refine pa_weak (pa_cons ha (pcs_cat x h2 r) (starEach_plain n1)) fun σ H Q ⟨F, ρ, K1, q⟩ => ⟨F, ρ, K1, Post.mono (Post.split q) fun pv ρ1 F1 H1 K2 f1 q1 v hv => ?_⟩
      rcases Post.look q1 with ⟨xs, e1, q2⟩ | ⟨_, _, e1⟩
      · cases pv with
        | inr j => cases e1
        | inl d =>
          cases e1
          exact ⟨F1, ρ1, K2, Post.mono (Post.split q2) fun ds ρ2 F2 H2 K3 f2 q3 vs hvs => q3.here K3 (v :: vs) (.cons (hv.mono f2.ext) hvs)⟩
      · cases pv <;> cases e1
/-- a display with stars -/
theorem catO_noexc {tp : Bool} {ds : List D} : ∀ c gs, catO tp ds ≠ .exc c gs := fun c gs h => by
  unfold catO at h
  split at h <;> cases h
theorem cat_sound (x : XOk X k g c n E) {tp : Bool} {fl : List Bool} {e : Expr} {es : List Expr} {as : Exs} (h : catArgs tp fl e = some es) (p : PCs X k E es (as.fs g)) : SE X k g E e (fun ρ => (catF fl (as.fs g) ρ).bind fun r => (catO tp r.1).bind fun s => .ok (s, r.2)) := by
  have fin : ∀ {tp : Bool} {σ : St} {H : Hp} {Q : VK}, tS k E (fun ρ => (catF fl (as.fs g) ρ).bind fun r => (catO tp r.1).bind fun s => .ok (s, r.2)) σ H Q →
      tD k E (catF fl (as.fs g)) σ H fun vs H1 => ∃ F1 ρ1 ds, Okk k F1 σ H1 ρ1 ∧ Reps k F1 vs ds ∧ (∀ b, Nz H b → Nz H1 b) ∧ Fin k E F1 H1 σ H ρ1 (catO tp ds) Q := fun {tp σ H Q} ⟨F, ρ, K1, q⟩ =>
    ⟨F, ρ, K1, Post.mono (Post.split q) fun ds ρ1 F1 H1 K2 f1 q1 vs hvs => ⟨F1, ρ1, ds, K2, hvs, f1.dom, q1⟩⟩
  have tdm : ∀ {f : Env → R (List D × Env)} {σ : St} {H : Hp} {P P' : List V → Hp → Prop}, tD k E f σ H P → (∀ x H1, P x H1 → P' x H1) → tD k E f σ H P' := fun {f σ H P P'} ⟨F, ρ, K1, p⟩ m => ⟨F, ρ, K1, p.mono fun x ρ1 F1 H1 _ _ q v hv => m v H1 (q v hv)⟩
  unfold catArgs at h
  split at h
  · rename_i es' kk pos
    split at h
    · rename_i ht
      subst ht
      refine se_plain x (pe_weak (pe_tup (pcs_cat x h p)) fun σ H Q q => ?_) rfl
      refine tdm (fin q) fun vs H1 q => ?_
      obtain ⟨F1, ρ1, ds, K1, r, dm, fn⟩ := q
      obtain ⟨s, hs, hq⟩ := fn.ok K1 dm catO_noexc
      unfold catO at hs
      split at hs
      · rename_i hz
        cases hs
        exact ⟨by rw [r.length]; exact szOk_le hz, fun p hp => hq _ _ _ (new_tup K1.sub hp r)⟩
      · cases hs
    · cases h
  · rename_i es' pos
    split at h
    · cases h
    · rename_i ht
      have ht : tp = false := by cases tp <;> simp_all
      subst ht
      refine se_plain x (pe_weak (pe_lst (pcs_cat x h p)) fun σ H Q q => ?_) rfl
      refine tdm (fin q) fun vs H1 q => ?_
      obtain ⟨F1, ρ1, ds, K1, r, dm, fn⟩ := q
      obtain ⟨s, hs, hq⟩ := fn.ok K1 dm catO_noexc
      unfold catO at hs
      split at hs
      · rename_i hz
        cases hs
        exact ⟨by rw [r.length]; exact szOk_le hz, fun p hp => hq _ _ _ (new_lst hp r)⟩
      · cases hs
  · cases h
theorem op_sound (x : XOk X k g c n E) {o : Op} {e : Expr} {es : List Expr} {as : Exs} (h : opArgs c o e = some es) (hs : opSide o as = true) (p : PCs X k E es (as.fs g)) : SE X k g E e (opP o.pk (as.fs g) o.ap) := by
  generalize hfs : as.fs g = fs at p ⊢
  unfold opArgs at h
  split at h
  · -- bin
    rename_i o a op b pos
    split at h
    · rename_i he
      cases h
      subst he
      obtain ⟨f, f', rfl⟩ := pcs2 p
      exact se_plain x (pe_binE x.gk.kK o p) rfl
    · cases h
  · -- cmp
    rename_i o a op b pos
    split at h
    · rename_i he
      cases h
      obtain ⟨rfl, hm⟩ := he
      obtain ⟨f, f', rfl⟩ := pcs2 p
      exact se_cmp x o p hm
    · cases h
  · -- ix
    rename_i a b pos
    split at h
    · rename_i he
      cases h
      obtain ⟨f, f', rfl⟩ := pcs2 p
      exact se_plain x (pe_ixE x.gk.kK x.gk.kW x.hu p he) rfl
    · cases h
  · -- attr
    rename_i f o nm pos
    split at h
    · rename_i he
      cases h
      rw [Bool.and_eq_true, Bool.and_eq_true, Bool.not_eq_true'] at he
      obtain ⟨f1, rfl⟩ := pcs1 p
      exact se_plain x (pe_attrX x p (of_decide_eq_true he.1.1) he.1.2 (mth_none x he.2)) rfl
    · cases h
  · -- tup
    cases h
    exact se_plain x (pe_tupE p) rfl
  · -- lst
    cases h
    exact se_plain x (pe_lstE p) rfl
  · -- inst
    rename_i Ts f fp e nm np pos
    split at h
    · rename_i T
      split at h
      · rename_i he
        cases h
        simp only [Bool.and_eq_true, decide_eq_true_eq] at he
        obtain ⟨⟨⟨⟨⟨h1, h2⟩, h3⟩, h4⟩, h5⟩, h6⟩ := he
        subst h1
        obtain ⟨f1, rfl⟩ := pcs1 p
        exact se_plain x (pe_inst1 x p h2 h3 h4 h5 (tyIn_mem h6)) rfl
      · cases h
    · cases h
  · -- inst of several
    rename_i Ts f fp e es' kk np pos
    split at h
    · rename_i he
      cases h
      simp only [Bool.and_eq_true, decide_eq_true_eq] at he
      obtain ⟨⟨⟨⟨h1, h2⟩, h3⟩, h4⟩, h5⟩ := he
      subst h1
      obtain ⟨f1, rfl⟩ := pcs1 p
      obtain ⟨q1, q2⟩ := tyNms_d h3
      exact se_plain x (pe_instN x p h2 q1 q2 (fun T hT => tyIn_mem (List.all_eq_true.mp h5 T hT)) h4) rfl
    · cases h
  · -- neg
    cases h
    obtain ⟨f1, rfl⟩ := pcs1 p
    exact se_plain x (pe_negE p) rfl
  · -- bi
    rename_i b f fp a es' pos
    split at h
    · rename_i he
      cases h
      simp only [Bool.and_eq_true, decide_eq_true_eq] at he
      obtain ⟨h1, h2⟩ := he
      subst h1
      exact se_plain x (pe_biE x.gk.kK x.gk.kW x.calm x.hu b (gl_of x h2) (blt_mem x (by cases b <;> decide +kernel)) p) rfl
    · cases h
  · cases h
    obtain ⟨f1, rfl⟩ := pcs1 p
    exact se_plain x (pe_sl0 x.gk.kK p) rfl
  · cases h
    obtain ⟨f, f', rfl⟩ := pcs2 p
    exact se_plain x (pe_sl1 x.gk.kK p) rfl
  · cases h
    obtain ⟨f, f', rfl⟩ := pcs2 p
    exact se_plain x (pe_sl2 x.gk.kK p) rfl
  · cases h
    obtain ⟨f, f', f'', rfl⟩ := pcs3 p
    obtain ⟨q1, q2⟩ := sl3_side hs hfs
    exact se_plain x (pe_sl3 x.gk.kK p q1 q2) rfl
  · rename_i t pos
    cases h
    cases p
    exact se_plain x (pe_dnewE t x.gk.kW) rfl
  · rename_i keys vals pos
    split at h
    · rename_i he
      rw [Bool.and_eq_true] at he
      refine se_plain x (pe_dspX x.calm h p (fun z => ?_) (of_decide_eq_true he.2)) rfl
      rw [z] at he
      exact absurd he.1 (by decide)
    · cases h
  · cases h
    obtain ⟨f1, rfl⟩ := pcs1 p
    exact se_plain x (pe_revE x.gk.kK p) rfl
  · rename_i f fp r rp a b p2 pos
    split at h
    · rename_i he
      cases h
      simp only [Bool.and_eq_true, decide_eq_true_eq] at he
      obtain ⟨⟨⟨h1, h2⟩, h3⟩, h4⟩ := he
      subst h1 h2
      obtain ⟨f, f', rfl⟩ := pcs2 p
      exact se_plain x (pe_lrngE x.calm (gl_of x h3) (blt_mem x (by decide +kernel)) (gl_of x h4) (blt_mem x (by decide +kernel)) p) rfl
    · cases h
  · cases h
theorem chn_d {o p : Cop} {e : Expr} {q : Expr × Expr × Expr} (h : chnArgs o p e = some q) : ∃ pos, e = .Compare q.1 [cmpOp o, cmpOp p] [q.2.1, q.2.2] pos ∧ behindInMarks (cmpOp p) q.2.2 = false := by
  unfold chnArgs at h
  split at h
  · split at h
    · rename_i he
      cases h
      obtain ⟨rfl, rfl, hm⟩ := he
      exact ⟨_, rfl, hm⟩
    · cases h
  · cases h
theorem eqv_d {neg : Bool} {e : Expr} {es : List Expr} (h : eqvArgs neg e = some es) : ∃ a b pos, e = .Compare a [eqOp neg] [b] pos ∧ es = [a, b] := by
  unfold eqvArgs at h
  split at h
  · split at h
    · rename_i he
      cases h
      subst he
      exact ⟨_, _, _, rfl, rfl⟩
    · cases h
  · cases h
theorem tru_d {e y : Expr} (h : truArg c e = some y) : ∃ p pos, e = .Call (.Name "bool" p) [y] [] pos ∧ glB c.sc "bool" = true ∧ notStar y = true := by
  unfold truArg at h
  split at h
  · split at h
    · rename_i he
      cases h
      simp only [Bool.and_eq_true, decide_eq_true_eq] at he
      obtain ⟨⟨h1, h2⟩, h3⟩ := he
      subst h1
      exact ⟨_, _, rfl, h2, h3⟩
    · cases h
  · cases h
theorem call_sound (x : XOk X k g c n E) {f : Nat} {e : Expr} {es : List Expr} {fs : List (Env → R (Pv × Env))} (h : callArgs c f e = some es) (p : PCs X k E es fs) : SE X k g E e (callF g f fs) := by
  unfold callArgs at h
  split at h
  · split at h
    · rename_i he
      cases h
      simp only [Bool.and_eq_true, decide_eq_true_eq] at he
      exact se_plain x (pe_callX x he.1.1 he.1.2 he.2 p) rfl
    · cases h
  · cases h
theorem make_sound (x : XOk X k g c n E) {f : Nat} {e : Expr} {es : List Expr} {fs : List (Env → R (Pv × Env))} (h : makeArgs c f e = some es) (p : PCs X k E es fs) : SE X k g E e (makeF g f fs) := by
  unfold makeArgs at h
  split at h
  · split at h
    · rename_i he
      cases h
      simp only [Bool.and_eq_true, decide_eq_true_eq] at he
      exact se_plain x (pe_makeX x he.1.1.1 he.1.1.2 he.1.2 p (x.st.iniS _ he.2)) rfl
    · cases h
  · cases h
theorem meth_sound (x : XOk X k g c n E) {m : Nat} {e : Expr} {q : Expr × List Expr} {f0 : Env → R (Pv × Env)} {fs : List (Env → R (Pv × Env))} (h : methArgs c m e = some q) (p0 : PCs X k E [q.1] [f0]) (p : PCs X k E q.2 fs) : SE X k g E e (methF g m f0 fs) := by
  unfold methArgs at h
  split at h
  · split at h
    · rename_i he
      cases h
      simp only [Bool.and_eq_true, decide_eq_true_eq] at he
      exact se_plain x (pe_methX x he.1.1.1 p0 p he.1.1.2 he.1.2 he.2) rfl
    · cases h
  · cases h
theorem bm_sound (x : XOk X k g c n E) {m : Bm} {e : Expr} {q : Expr × List Expr} {f0 : Env → R (Pv × Env)} {fs : List (Env → R (Pv × Env))} (h : bmArgs m e = some q) (p0 : PCs X k E [q.1] [f0]) (p : PCs X k E q.2 fs) : SE X k g E e (bmF m f0 fs) := by
  unfold bmArgs at h
  split at h
  · split at h
    · rename_i he
      cases h
      simp only [Bool.and_eq_true, decide_eq_true_eq] at he
      obtain ⟨⟨⟨rfl, h2⟩, h3⟩, h4⟩ := he
      exact se_plain x (pe_bmX x m p0 p h2 h3 h4) rfl
    · cases h
  · cases h
theorem it_sound (x : XOk X k g c n E) {i : Ik} {tg it : Expr} {es : List Expr} {fs : List (Env → R (Pv × Env))} (h : itArgs c i tg it = some es) (p : PCs X k E es fs) : PI X tg it (tI k E (itsF i fs)) := by
  unfold itArgs at h
  split at h
  · cases h
    cases p with
    | cons n1 ha p => cases p; exact pi_seqX x ha
  · split at h
    · split at h
      · rename_i he
        cases h
        simp only [Bool.and_eq_true, decide_eq_true_eq] at he
        obtain ⟨rfl, h2⟩ := he
        exact pi_rng1X x h2 p
      · cases h
    · split at h
      · rename_i he
        cases h
        simp only [Bool.and_eq_true, decide_eq_true_eq] at he
        obtain ⟨rfl, h2⟩ := he
        exact pi_rng2X x h2 p
      · cases h
    · cases h
  · split at h
    · split at h
      · rename_i he
        cases h
        simp only [Bool.and_eq_true, decide_eq_true_eq] at he
        obtain ⟨rfl, h2⟩ := he
        exact pi_enmX x h2 p
      · cases h
    · cases h
  · split at h
    · split at h
      · rename_i he
        cases h
        simp only [Bool.and_eq_true, decide_eq_true_eq] at he
        obtain ⟨rfl, h2⟩ := he
        exact pi_zipX x h2 p
      · cases h
    · cases h
theorem lc_d {e : Expr} {q : Expr × Expr × Expr × List Expr × Scope} (h : lcParts e = some q) : ∃ pos, e = .ListComp q.1 [⟨q.2.1, q.2.2.1, q.2.2.2.1, 0⟩] q.2.2.2.2 pos ∧ notSet q.2.2.1 = true := by
  unfold lcParts at h
  split at h
  · split at h
    · rename_i he
      cases h
      obtain ⟨rfl, h2⟩ := he
      exact ⟨_, rfl, h2⟩
    · cases h
  · cases h
theorem dc_d {e ke ve tg it : Expr} {ifs : List Expr} {scope : Scope} (h : dcParts e = some (ke, ve, tg, it, ifs, scope)) : ∃ pos, e = .DictComp ke ve [⟨tg, it, ifs, 0⟩] scope pos ∧ notSet it = true := by
  unfold dcParts at h
  split at h
  · split at h
    · rename_i he
      cases h
      obtain ⟨rfl, h2⟩ := he
      exact ⟨_, rfl, h2⟩
    · cases h
  · cases h
theorem dc_ev (t : Tg) (vs : List Nat) (i : Ik) (as cs : Exs) (kx vx : Ex) (ρ : Env) : (Ex.dc t vs i as cs kx vx).ev g ρ = dcF i (as.fs g) t vs (fun ρ => cs.tests g ρ) (fun ρ => kx.ev g ρ) (fun ρ => vx.ev g ρ) ρ := by
  rw [Ex.ev, exs_ev]
  unfold dcF itsF
  rw [R.assoc]
  congr 1
  funext r
  rw [R.assoc]
  congr 1
  funext ds
  rw [R.assoc]
  rfl
theorem lc2_d {e : Expr} {q : Expr × Expr × Expr × List Expr × Scope} {tg1 it1 : Expr} {ifs1 : List Expr} (h : lc2Parts e = some (q, tg1, it1, ifs1)) : ∃ pos, e = .ListComp q.1 [⟨q.2.1, q.2.2.1, q.2.2.2.1, 0⟩, ⟨tg1, it1, ifs1, 0⟩] q.2.2.2.2 pos ∧ notSet q.2.2.1 = true ∧ notSet it1 = true := by
  unfold lc2Parts at h
  split at h
  · split at h
    · rename_i he
      cases h
      obtain ⟨rfl, rfl, h2, h3⟩ := he
      exact ⟨_, rfl, h2, h3⟩
    · cases h
  · cases h
theorem lc2_ev (t : Tg) (vs : List Nat) (i : Ik) (as cs : Exs) (t1 : Tg) (vs1 : List Nat) (i1 : Ik) (as1 cs1 : Exs) (el : Ex) (ρ : Env) : (Ex.lc2 t vs i as cs t1 vs1 i1 as1 cs1 el).ev g ρ = lc2F i (as.fs g) t vs (fun ρ => cs.tests g ρ) (itsF i1 (as1.fs g)) t1 vs1 (fun ρ => cs1.tests g ρ) (fun ρ => el.ev g ρ) ρ := by
  rw [Ex.ev, exs_ev]
  unfold lc2F itsF
  rw [R.assoc]
  congr 1
  funext r
  rw [R.assoc]
  congr 1
  funext ds
  rw [R.assoc]
  congr 1
  funext its
  have e : (fun d acc ρ1 => (Tg.put (fun i => !(vs.contains i)) t d (wipeE ρ1 vs)).bind fun ρ2 => (Exs.tests g cs ρ2).bind fun b =>
        if b.1 then (Exs.ev g as1 b.2).bind fun r1 => (frzs r1.1).bind fun ds1 => (i1.its ds1).bind fun its1 =>
          lcL (fun d1 ρ3 => (Tg.put (fun i => !(vs1.contains i)) t1 d1 (wipeE ρ3 vs1)).bind fun ρ4 => (Exs.tests g cs1 ρ4).bind fun c =>
            if c.1 then (Ex.ev g el c.2).bind fun x => .ok (some x.1.d, x.2) else .ok (none, c.2)) its1 acc r1.2
        else .ok (acc, b.2)) = lc2T t vs (fun ρ => cs.tests g ρ) (fun ρ => (seqF (as1.fs g) ρ).bind fun r => (frzs r.1).bind fun ds => (i1.its ds).bind fun its => .ok (its, r.2)) t1 vs1 (fun ρ => cs1.tests g ρ) (fun ρ => el.ev g ρ) := by
    funext d acc ρ1
    unfold lc2T
    congr 1
    funext ρ2
    congr 1
    funext b
    split
    · rw [exs_ev, R.assoc]
      congr 1
      funext r1
      rw [R.assoc]
      congr 1
      funext ds1
      rw [R.assoc]
      rfl
    · rfl
  rw [e]
  rfl
theorem flt_d {f : Nat} {e : Expr} {q : Expr × Scope} (h : fltArgs c f e = some q) : ∃ nm p params lpos pos, e = .Call (.Name nm p) [.Lambda params q.1 q.2 lpos] [] pos ∧ c.tb.flts[f]? = some nm ∧ c.lam = true ∧ glB c.sc nm = true ∧ nameOk nm = true ∧ LamX.lamSB c.sc q.2 = true ∧ noArgs params = true := by
  unfold fltArgs at h
  split at h
  · split at h
    · rename_i he
      cases h
      simp only [Bool.and_eq_true, decide_eq_true_eq] at he
      obtain ⟨⟨⟨⟨⟨h1, h2⟩, h3⟩, h4⟩, h5⟩, h6⟩ := he
      exact ⟨_, _, _, _, _, rfl, h1, h2, h3, h4, h5, h6⟩
    · cases h
  · cases h
theorem ownOf_vs (c : Cs) (vs : List Nat) : (ownOf c vs).map (·.2) = vs := by
  unfold ownOf
  rw [List.map_map]
  exact (List.map_congr_left fun _ _ => rfl).trans (List.map_id vs)
end
mutual
theorem Tg.sound {X : Cx} {k : Kx} {g : G} {c : Cs} {n : Nat} {E : XK} {lk : Nat → Bool} (x : XOk X k g c n E) : ∀ (t : Tg) {e : Expr}, t.ck c e = true → PG X e (tG k lk t)
  | .var i, e, h => by
    unfold Tg.ck at h
    split at h
    · exact pg_varX x h
    · cases h
  | .fld j f, e, h => by
    unfold Tg.ck at h
    split at h
    · simp only [Bool.and_eq_true, decide_eq_true_eq, Bool.not_eq_true'] at h
      exact pg_fldX x h.1.1 h.1.2 (mth_none x h.2)
    · cases h
  | .tup ts, e, h => by
    unfold Tg.ck at h
    split at h
    · obtain ⟨h1, h2, h3⟩ := Tgs.sound (lk := lk) x ts h
      exact pg_tupX x h1 h2 h3
    · cases h
theorem Tgs.sound {X : Cx} {k : Kx} {g : G} {c : Cs} {n : Nat} {E : XK} {lk : Nat → Bool} (x : XOk X k g c n E) : ∀ (ts : Tgs) {es : List Expr}, ts.ck c es = true → es.all notStarT = true ∧ es.length = ts.len ∧ PGs X es (tGs k lk ts)
  | .nil, es, h => by
    unfold Tgs.ck at h
    cases es with
    | nil => exact ⟨rfl, rfl, pgs_nilX⟩
    | cons _ _ => cases h
  | .cons t ts, es, h => by
    unfold Tgs.ck at h
    cases es with
    | nil => cases h
    | cons e es =>
      simp only [Bool.and_eq_true] at h
      obtain ⟨h1, h2, h3⟩ := Tgs.sound (lk := lk) x ts h.2
      refine ⟨by rw [List.all_cons, h.1.1, h1]; rfl, congrArg (· + 1) h2, pgs_consX h.1.1 (Tg.sound x t h.1.2) h3⟩
end
theorem se_conv {X : Cx} {k : Kx} {g : G} {E : XK} {e : Expr} {f f' : Env → R (Sl × Env)} (h : SE X k g E e f) (hf : ∀ ρ, f ρ = f' ρ) : SE X k g E e f' := by
  have : f = f' := funext hf
  rw [← this]
  exact h
mutual
theorem Ex.sound {k : Kx} {g : G} {n : Nat} : ∀ (ex : Ex) {X : Cx} {c : Cs} {E : XK} {e : Expr}, XOk X k g c n E → ex.ck c e = true → SE X k g E e (fun ρ => ex.ev g ρ)
  | .var i, X, c, E, e, x, h => by
    unfold Ex.ck at h
    obtain ⟨nm, pos, rfl, h⟩ := isVar_d h
    exact se_conv (se_plain x (pe_rdF x h) rfl) fun ρ => by rw [Ex.ev]
  | .con q, X, c, E, e, x, h => by
    unfold Ex.ck isCon at h
    split at h
    · have h := of_decide_eq_true h
      subst h
      exact se_conv (se_plain x pe_conX rfl) fun ρ => by rw [Ex.ev]
    · cases h
  | .glb j, X, c, E, e, x, h => by
    unfold Ex.ck isGlb at h
    split at h
    · simp only [Bool.and_eq_true, decide_eq_true_eq] at h
      cases hd : g.glb j with
      | some d => exact se_conv (se_plain x (pe_glbX x h.1.1 h.1.2 h.2 hd) rfl) fun ρ => by rw [Ex.ev]
      | none =>
        have e0 : ∀ ρ, (Ex.glb j).ev g ρ = .stuck := fun ρ => by rw [Ex.ev, hd]; rfl
        exact ⟨⟨fun pins s σ H Q I ⟨F, ρ, K1, p⟩ => by
          have p : Post k E F H σ ρ ((Ex.glb j).ev g ρ) _ := p
          rw [e0 ρ] at p
          exact p.elim⟩, ⟨fun pins s σ H Q I ⟨F, ρ, K1, p⟩ => by
          have : testF g (fun ρ => (Ex.glb j).ev g ρ) ρ = .stuck := by
            show ((Ex.glb j).ev g ρ).bind _ = _
            rw [e0 ρ]
            rfl
          rw [this] at p
          exact p.elim⟩⟩
    · cases h
  | .op o as, X, c, E, e, x, h => by
    unfold Ex.ck at h
    split at h
    · rename_i es he
      rw [Bool.and_eq_true] at h
      refine se_conv (op_sound x he h.2 (Exs.sound as x h.1)) fun ρ => ?_
      rw [Ex.ev, exs_ev]
      rfl
    · cases h
  | .chn o p a b d, X, c, E, e, x, h => by
    unfold Ex.ck at h
    split at h
    · rename_i q hq
      simp only [Bool.and_eq_true] at h
      obtain ⟨pos, rfl, hm⟩ := chn_d hq
      exact se_conv (se_chn x o p (Ex.sound a x h.1.1) (Ex.sound b x h.1.2) (Ex.sound d x h.2) hm) fun ρ => by rw [Ex.ev]; rfl
    · cases h
  | .and a b, X, c, E, e, x, h => by
    unfold Ex.ck at h
    split at h
    · rename_i y z rest pos
      rw [Bool.and_eq_true] at h
      have ha := Ex.sound a x h.1
      have hb := Ex.sound b x h.2
      refine se_conv (f := andF g (fun ρ => a.ev g ρ) fun ρ => b.ev g ρ) (se_and x ha ?_) fun ρ => by rw [Ex.ev]; rfl
      cases rest with
      | nil => exact se_and1 hb
      | cons w rest => exact hb
    · cases h
  | .or a b, X, c, E, e, x, h => by
    unfold Ex.ck at h
    split at h
    · rename_i y z rest pos
      rw [Bool.and_eq_true] at h
      have ha := Ex.sound a x h.1
      have hb := Ex.sound b x h.2
      refine se_conv (f := orF g (fun ρ => a.ev g ρ) fun ρ => b.ev g ρ) (se_or x ha ?_) fun ρ => by rw [Ex.ev]; rfl
      cases rest with
      | nil => exact se_or1 hb
      | cons w rest => exact hb
    · cases h
  | .not a, X, c, E, e, x, h => by
    unfold Ex.ck at h
    split at h
    · exact se_conv (se_not x (Ex.sound a x h)) fun ρ => by rw [Ex.ev]; rfl
    · cases h
  | .tru a, X, c, E, e, x, h => by
    unfold Ex.ck at h
    split at h
    · rename_i y hy
      obtain ⟨p, pos, rfl, hg, hn⟩ := tru_d hy
      exact se_conv (se_tru x hg hn (Ex.sound a x h)) fun ρ => by rw [Ex.ev]; rfl
    · cases h
  | .eqv neg as, X, c, E, e, x, h => by
    unfold Ex.ck at h
    split at h
    · rename_i es he
      obtain ⟨a, b, pos, rfl, rfl⟩ := eqv_d he
      have p := Exs.sound as x h
      obtain ⟨f, f', hf⟩ := pcs2 p
      rw [hf] at p
      refine se_conv (se_eqv x p) fun ρ => ?_
      rw [Ex.ev, exs_ev, hf]
      rfl
    · cases h
  | .ife t a b, X, c, E, e, x, h => by
    unfold Ex.ck at h
    split at h
    · simp only [Bool.and_eq_true] at h
      exact se_conv (se_ife (Ex.sound t x h.1.1) (Ex.sound a x h.1.2) (Ex.sound b x h.2)) fun ρ => by rw [Ex.ev]; rfl
    · cases h
  | .call f as, X, c, E, e, x, h => by
    unfold Ex.ck at h
    split at h
    · rename_i es he
      refine se_conv (call_sound x he (Exs.sound as x h)) fun ρ => ?_
      rw [Ex.ev, exs_ev]
      rfl
    · cases h
  | .make cc as, X, c, E, e, x, h => by
    unfold Ex.ck at h
    split at h
    · rename_i es he
      refine se_conv (make_sound x he (Exs.sound as x h)) fun ρ => ?_
      rw [Ex.ev, exs_ev]
      rfl
    · cases h
  | .meth m o as, X, c, E, e, x, h => by
    unfold Ex.ck at h
    split at h
    · rename_i q he
      rw [Bool.and_eq_true] at h
      have p0 := Exs.sound o x h.1
      obtain ⟨f0, hf⟩ := pcs1 p0
      rw [hf] at p0
      refine se_conv (meth_sound x he p0 (Exs.sound as x h.2)) fun ρ => ?_
      rw [Ex.ev, exs_ev, hf]
      unfold methF
      congr 1
      funext q
      congr 1
      funext f
      rw [exs_ev]
    · cases h
  | .bm m o as, X, c, E, e, x, h => by
    unfold Ex.ck at h
    split at h
    · rename_i q he
      rw [Bool.and_eq_true] at h
      have p0 := Exs.sound o x h.1
      obtain ⟨f0, hf⟩ := pcs1 p0
      rw [hf] at p0
      refine se_conv (bm_sound x he p0 (Exs.sound as x h.2)) fun ρ => ?_
      rw [Ex.ev, exs_ev, hf]
      unfold bmF
      congr 1
      funext q
      congr 1
      funext d0
      split
      · rw [exs_ev]
      · rfl
    · cases h
  | .lc t vs i as cs el, X, c, E, e, x, h => by
    unfold Ex.ck at h
    split at h
    · rename_i q hq
      simp only [Bool.and_eq_true] at h
      obtain ⟨⟨⟨⟨h1, h2⟩, h3⟩, h4⟩, h5⟩ := h
      obtain ⟨pos, rfl, hns⟩ := lc_d hq
      split at h2
      · rename_i es hes
        have ok : LcOk X k g c n E q.2.2.2.2 (ownOf c vs) q.2.1 q.2.2.1 q.1 q.2.2.2.1 i (as.fs g) t (fun ρ => cs.tests g ρ) (fun ρ => el.ev g ρ) :=
          ⟨h1, it_sound x hes (Exs.sound as x h2), fun X' x' => Tg.sound x' t h3, fun X' x' => Exs.tsound cs x' h4, fun X' x' => pe_fz (Ex.sound el x' h5).pe, hns⟩
        have z := se_lc (pos := pos) x ok
        rw [ownOf_vs] at z
        refine se_conv z fun ρ => ?_
        rw [Ex.ev, exs_ev]
        unfold lcF itsF
        rw [R.assoc]
        congr 1
        funext r
        rw [R.assoc]
        congr 1
        funext ds
        rw [R.assoc]
        rfl
      · cases h2
    · cases h
  | .dc t vs i as cs kx vx, X, c, E, e, x, h => by
    unfold Ex.ck at h
    split at h
    · rename_i ke ve tg it ifs scope hq
      simp only [Bool.and_eq_true] at h
      obtain ⟨⟨⟨⟨⟨h1, h2⟩, h3⟩, h4⟩, h5⟩, h6⟩ := h
      obtain ⟨pos, rfl, hns⟩ := dc_d hq
      split at h2
      · rename_i es hes
        have ok : LcOk X k g c n E scope (ownOf c vs) tg it ke ifs i (as.fs g) t (fun ρ => cs.tests g ρ) (fun ρ => kx.ev g ρ) :=
          ⟨h1, it_sound x hes (Exs.sound as x h2), fun X' x' => Tg.sound x' t h3, fun X' x' => Exs.tsound cs x' h4, fun X' x' => pe_fz (Ex.sound kx x' h5).pe, hns⟩
        have z := se_dc (pos := pos) x ok (fv := fun ρ => vx.ev g ρ) (vx := ve) fun X' x' => pe_fz (Ex.sound vx x' h6).pe
        rw [ownOf_vs] at z
        exact se_conv z fun ρ => (dc_ev ..).symm
      · cases h2
    · cases h
  | .flt f fz el, X, c, E, e, x, h => by
    unfold Ex.ck at h
    split at h
    · rename_i q hq
      obtain ⟨nm, p, params, lpos, pos, rfl, h1, h2, h3, h4, h5, h6⟩ := flt_d hq
      exact se_conv (se_flt x h2 h1 h3 h4 h5 h6 fun X' E' x' => pe_fz (Ex.sound el x' h).pe) fun ρ => by rw [Ex.ev]; rfl
    · cases h
  | .lc2 t vs i as cs t1 vs1 i1 as1 cs1 el, X, c, E, e, x, h => by
    unfold Ex.ck at h
    split at h
    · rename_i q tg1 it1 ifs1 hq
      simp only [Bool.and_eq_true] at h
      obtain ⟨⟨⟨⟨⟨⟨⟨⟨h1, h1'⟩, h2⟩, h3⟩, h4⟩, h5⟩, h6⟩, h7⟩, h8⟩ := h
      obtain ⟨pos, rfl, hns, hns1⟩ := lc2_d hq
      split at h2
      · rename_i es hes
        split at h6
        · rename_i es1 hes1
          have ok : Lc2Ok X k g c n E q.2.2.2.2 (ownOf c vs) vs1 q.2.1 q.2.2.1 q.1 tg1 it1 q.2.2.2.1 ifs1 i (as.fs g) t (fun ρ => cs.tests g ρ) (itsF i1 (as1.fs g)) t1 (fun ρ => cs1.tests g ρ) (fun ρ => el.ev g ρ) :=
            ⟨⟨h1, it_sound x hes (Exs.sound as x h2), fun X' x' => Tg.sound x' t h3, fun X' x' => Exs.tsound cs x' h4, fun X' x' => pe_fz (Ex.sound el x' h5).pe, hns⟩, by rw [ownOf_vs]; exact fun i hi => List.contains_iff_mem.mp (List.all_eq_true.mp h1' i hi), fun X' x' => it_sound x' hes1 (Exs.sound as1 x' h6), fun X' x' => Tg.sound x' t1 h7, fun X' x' => Exs.tsound cs1 x' h8, hns1⟩
          have z := se_lc2 (pos := pos) x ok
          rw [ownOf_vs] at z
          exact se_conv z fun ρ => (lc2_ev ..).symm
        · cases h6
      · cases h2
    · cases h
  | .cat tp fl as, X, c, E, e, x, h => by
    unfold Ex.ck at h
    split at h
    · rename_i es he
      refine se_conv (cat_sound x he (Exs.sound as x h)) fun ρ => ?_
      rw [Ex.ev, exs_cat]
    · cases h
theorem Exs.sound {k : Kx} {g : G} {n : Nat} : ∀ (as : Exs) {X : Cx} {c : Cs} {E : XK} {es : List Expr}, XOk X k g c n E → as.ck c es = true → PCs X k E es (as.fs g)
  | .nil, X, c, E, es, x, h => by
    unfold Exs.ck at h
    cases es with
    | nil => exact .nil
    | cons _ _ => cases h
  | .cons a as, X, c, E, es, x, h => by
    unfold Exs.ck at h
    cases es with
    | nil => cases h
    | cons e es =>
      simp only [Bool.and_eq_true] at h
      exact .cons h.1.1 (pe_opd (Ex.sound a x h.1.2).pe) (Exs.sound as x h.2)
  | .bor i as, X, c, E, es, x, h => by
    unfold Exs.ck at h
    cases es with
    | nil => cases h
    | cons e es =>
      simp only [Bool.and_eq_true] at h
      obtain ⟨nm, pos, rfl, hv⟩ := isVar_d h.1
      exact .cons rfl (pe_bor (pe_varX x hv)) (Exs.sound as x h.2)
theorem Exs.tsound {k : Kx} {g : G} {n : Nat} : ∀ (as : Exs) {X : Cx} {c : Cs} {E : XK} {es : List Expr}, XOk X k g c n E → as.ckT c es = true → PTs X es (tT k E fun ρ => as.tests g ρ)
  | .nil, X, c, E, es, x, h => by
    unfold Exs.ckT at h
    cases es with
    | nil =>
      have e : (fun ρ => Exs.tests g .nil ρ) = fun ρ => .ok (true, ρ) := funext fun ρ => by unfold Exs.tests; rfl
      rw [e]
      exact pts_nilX
    | cons _ _ => cases h
  | .cons a as, X, c, E, es, x, h => by
    unfold Exs.ckT at h
    split at h
    · have q := pts_one (Ex.sound a x h).pt
      have e : (fun ρ => Exs.tests g (.cons a .nil) ρ) = testF g fun ρ => a.ev g ρ := funext fun ρ => by
        unfold Exs.tests testF
        congr 1
        funext r
        congr 1
        funext t
        cases t with
        | true => rw [if_pos rfl]; unfold Exs.tests; rfl
        | false => rfl
      rw [e]
      exact q
    · cases h
  | .bor i as, X, c, E, es, x, h => by
    unfold Exs.ckT at h
    cases h
end
end Rx

set_option Elab.async false
set_option linter.all false
set_option maxRecDepth 100000
/-! Rx20: the checker of statements, and that it is sound. -/
namespace Rx
open PySem PySem.Spec PyProof.Rows L2
def kindB (c : Cs) : Bool := decide (c.sc.kind = .function)
def setSide (c : Cs) (e : Ex) (nm : Str) (p : Pos) (v : Expr) : Bool := notComp v || !(c.sc.names.lookup nm == some .local) || (match e, v with
  | .lc2 _ _ _ _ _ _ _ _ _ _ _, .ListComp _ _ scope pos => (p.line == pos.line) && kindB c && decide (c.N.contains nm = true) && !(scope.names.any fun (n, k) => n == nm && (k == .local || k == .cell))
  | .lc _ _ _ _ _ _, .ListComp _ _ scope pos => (p.line == pos.line) && kindB c && decide (c.N.contains nm = true) && !(scope.names.any fun (n, k) => n == nm && (k == .local || k == .cell))
  | _, _ => false)
def asgSide (c : Cs) (tg v : Expr) : Bool := notTup v || notTupT tg || (match tg, v with
  | .Tuple ts _ _, .Tuple vs _ _ => !(ts.all (isLocN c.sc ((ts.head?.map (·.pos.line)).getD 0))) || vs.all (foldedForSure 8) || !(ts.length == 2 || ts.length == 3)
  | _, _ => false)
def isLoc (c : Cs) (i : Nat) (x : Str) : Bool := decide (c.N[i]? = some x) && decide (c.sc.names.lookup x = some .local)
def parSide (c : Cs) : List Nat → List Expr → List Expr → Bool
  | [i, j], [.Name y py, .Name z pz], vs => isLoc c i y && isLoc c j z && (pz.line == py.line) && !(y == z) && !(vs.all (foldedForSure 8)) && !(vs.all (constantsAlone 8)) && vs.length == 2
  | [i, j, l], [.Name y py, .Name z pz, .Name w pw], vs => isLoc c i y && isLoc c j z && isLoc c l w && (pz.line == py.line) && (pw.line == py.line) && !(y == z) && !(y == w) && !(z == w) && !(vs.all (foldedForSure 8)) && !(vs.all (constantsAlone 8)) && vs.length == 3
  | _, _, _ => false
def raiArgs (c : Cs) (cc : Nat) : Stmt → Option (List Expr)
  | .Raise (some (.Call (.Name nm _) (a :: es) [] _)) none _ => if (decide (c.tb.exs[cc]? = some nm) && glB c.sc nm && nameOk nm) = true then some (a :: es) else none
  | _ => none
mutual
def Sm.ck (c : Cs) : Sm → Stmt → Bool
  | .set i e, s => (match s with
    | .Assign [.Name nm p] v _ => strB c i nm && e.ck c v && setSide c e nm p v
    | _ => false)
  | .asg t e, s => (match s with
    | .Assign [tg] v _ => t.ck c tg && notStarT tg && e.ck c v && (notComp v || notNm tg) && asgSide c tg v
    | _ => false)
  | .par is as, s => (match s with
    | .Assign [.Tuple ts _ _] (.Tuple vs _ _) _ => parSide c is ts vs && as.ck c vs && kindB c
    | _ => false)
  | .aug i o e, s => (match s with
    | .AugAssign (.Name nm _) op v _ => strB c i nm && augB o && decide (op = binOp o) && e.ck c v
    | _ => false)
  | .put j q e, s => (match s with
    | .Assign [.Subscript (.Name nm _) ke _] v _ => varB c j nm && notSlice ke && q.ck c ke && e.ck c v
    | _ => false)
  | .augs j q o e, s => (match s with
    | .AugAssign (.Subscript (.Name nm _) ke _) op v _ => varB c j nm && notSlice ke && augB o && decide (op = binOp o) && q.ck c ke && e.ck c v
    | _ => false)
  | .app j e, s => (match s with
    | .Expr (.Call (.Attribute (.Name nm _) m apos) [v] [] cpos) _ => decide (m = ("append" : Str)) && varB c j nm && notStar v && (apos.endLine == cpos.line) && e.ck c v
    | _ => false)
  | .ex e, s => (match s with
    | .Expr v _ => notComp v && e.ck c v
    | _ => false)
  | .ret e, s => (match s with
    | .Return (some v) _ => e.ck c v
    | _ => false)
  | .retN, s => (match s with
    | .Return none _ => true
    | _ => false)
  | .ife t a b, s => (match s with
    | .If v x y _ => t.ck c v && Sms.ck c a x && Sms.ck c b y
    | _ => false)
  | .for_ t i as b, s => (match s with
    | .For tg it body [] _ => (match itArgs c i tg it with
        | some es => as.ck c es
        | none => false) && t.ck c tg && notSet it && Sms.ck c b body
    | _ => false)
  | .whl t b, s => (match s with
    | .While v body [] _ => t.ck c v && Sms.ck c b body
    | _ => false)
  | .rai cc as, s => (match raiArgs c cc s with
    | some es => as.ck c es
    | none => false)
  | .pass, s => (match s with
    | .Pass _ => true
    | _ => false)
  | .brk, s => (match s with
    | .Break _ => true
    | _ => false)
  | .cnt, s => (match s with
    | .Continue _ => true
    | _ => false)
def Sms.ck (c : Cs) : Sms → List Stmt → Bool
  | .nil, ss => ss.isEmpty
  | .cons s r, ss => (match ss with
    | t :: ts => Sm.ck c s t && Sms.ck c r ts
    | [] => false)
end
section
variable {X : Cx} {k : Kx} {g : G} {c : Cs} {n : Nat} {E : XK} {lk : Nat → Bool}
theorem ex_mono (e : Ex) : Mono (fun ρ => e.ev g ρ) := fun ρ a ρ' h => Ex.le g e h
theorem exs_mono (as : Exs) : Mono (seqF (as.fs g)) := fun ρ a ρ' h => Exs.le g as (by rw [exs_ev]; exact h)
theorem its_mono (i : Ik) (as : Exs) : Mono (itsF i (as.fs g)) := fun ρ a ρ' h => by
  obtain ⟨⟨r, ρ1⟩, h1, h⟩ := bind_ok h
  obtain ⟨_, _, h⟩ := bind_ok h
  obtain ⟨_, _, h⟩ := bind_ok h
  cases h
  exact exs_mono as _ _ _ h1
theorem test_mono (e : Ex) : Mono (testF g fun ρ => e.ev g ρ) := fun ρ a ρ' h => by
  obtain ⟨⟨r, ρ1⟩, h1, h⟩ := bind_ok h
  obtain ⟨_, _, h⟩ := bind_ok h
  cases h
  exact Ex.le g e h1
theorem ps_conv {s : Stmt} {f f' : Env → R (Fl × Env)} (h : PS X s (tM k E lk f)) (hf : ∀ ρ, f ρ = f' ρ) : PS X s (tM k E lk f') := by
  have : f = f' := funext hf
  rw [← this]
  exact h
theorem pss_conv {s : List Stmt} {f f' : Env → R (Fl × Env)} (h : PSs X s (tM k E lk f)) (hf : ∀ ρ, f ρ = f' ρ) : PSs X s (tM k E lk f') := by
  have : f = f' := funext hf
  rw [← this]
  exact h
/-- a comprehension, by its parts -/
theorem lc_parts (x : XOk X k g c n E) {t : Tg} {vs : List Nat} {i : Ik} {as cs : Exs} {el : Ex} {e : Expr} (h : (Ex.lc t vs i as cs el).ck c e = true) : ∃ elt tg it ifs scope pos, e = .ListComp elt [⟨tg, it, ifs, 0⟩] scope pos ∧
    LcOk X k g c n E scope (ownOf c vs) tg it elt ifs i (as.fs g) t (fun ρ => cs.tests g ρ) (fun ρ => el.ev g ρ) := by
  unfold Ex.ck at h
  split at h
  · rename_i q hq
    simp only [Bool.and_eq_true] at h
    obtain ⟨⟨⟨⟨h1, h2⟩, h3⟩, h4⟩, h5⟩ := h
    obtain ⟨pos, rfl, hns⟩ := lc_d hq
    split at h2
    · rename_i es hes
      exact ⟨_, _, _, _, _, pos, rfl, h1, it_sound x hes (Exs.sound as x h2), fun X' x' => Tg.sound x' t h3, fun X' x' => Exs.tsound cs x' h4, fun X' x' => pe_fz (Ex.sound el x' h5).pe, hns⟩
    · cases h2
  · cases h
theorem lc2_parts (x : XOk X k g c n E) {t t1 : Tg} {vs vs1 : List Nat} {i i1 : Ik} {as cs as1 cs1 : Exs} {el : Ex} {e : Expr} (h : (Ex.lc2 t vs i as cs t1 vs1 i1 as1 cs1 el).ck c e = true) : ∃ elt tg it ifs tg1 it1 ifs1 scope pos, e = .ListComp elt [⟨tg, it, ifs, 0⟩, ⟨tg1, it1, ifs1, 0⟩] scope pos ∧
    Lc2Ok X k g c n E scope (ownOf c vs) vs1 tg it elt tg1 it1 ifs ifs1 i (as.fs g) t (fun ρ => cs.tests g ρ) (itsF i1 (as1.fs g)) t1 (fun ρ => cs1.tests g ρ) (fun ρ => el.ev g ρ) := by
  unfold Ex.ck at h
  split at h
  · rename_i q tg1 it1 ifs1 hq
    simp only [Bool.and_eq_true] at h
    obtain ⟨⟨⟨⟨⟨⟨⟨⟨h1, h1'⟩, h2⟩, h3⟩, h4⟩, h5⟩, h6⟩, h7⟩, h8⟩ := h
    obtain ⟨pos, rfl, hns, hns1⟩ := lc2_d hq
    split at h2
    · rename_i es hes
      split at h6
      · rename_i es1 hes1
        exact ⟨_, _, _, _, _, _, _, _, pos, rfl, ⟨⟨h1, it_sound x hes (Exs.sound as x h2), fun X' x' => Tg.sound x' t h3, fun X' x' => Exs.tsound cs x' h4, fun X' x' => pe_fz (Ex.sound el x' h5).pe, hns⟩, by rw [ownOf_vs]; exact fun i hi => List.contains_iff_mem.mp (List.all_eq_true.mp h1' i hi), fun X' x' => it_sound x' hes1 (Exs.sound as1 x' h6), fun X' x' => Tg.sound x' t1 h7, fun X' x' => Exs.tsound cs1 x' h8, hns1⟩⟩
      · cases h6
    · cases h2
  · cases h
theorem lc_ev (t : Tg) (vs : List Nat) (i : Ik) (as cs : Exs) (el : Ex) (ρ : Env) : (Ex.lc t vs i as cs el).ev g ρ = lcF i (as.fs g) t vs (fun ρ => cs.tests g ρ) (fun ρ => el.ev g ρ) ρ := by
  rw [Ex.ev, exs_ev]
  unfold lcF itsF
  rw [R.assoc]
  congr 1
  funext r
  rw [R.assoc]
  congr 1
  funext ds
  rw [R.assoc]
  rfl
theorem set_sound (x : XOk X k g c n E) {i : Nat} {e : Ex} {nm : Str} {p pos : Pos} {v : Expr} (h1 : strB c i nm = true) (h2 : e.ck c v = true) (h3 : setSide c e nm p v = true) : PS X (.Assign [.Name nm p] v pos) (tM k E lk (setF lk i fun ρ => e.ev g ρ)) := by
  unfold setSide at h3
  rw [Bool.or_eq_true, Bool.or_eq_true] at h3
  rcases h3 with (h3 | h3) | h3
  · exact ps_setX x h1 (Ex.sound e x h2).pe (ex_mono e) (nosw h3)
  · rw [Bool.not_eq_true'] at h3
    exact ps_setX x h1 (Ex.sound e x h2).pe (ex_mono e) (noswC (by rw [x.sc]; exact h3))
  · split at h3
    · rename_i t vs ik as cs t1 vs1 ik1 as1 cs1 el elt0 gens0 scope0 pos0
      obtain ⟨elt, tg, it, ifs, tg1, it1, ifs1, scope, pos', he, ok⟩ := lc2_parts x h2
      cases he
      simp only [Bool.and_eq_true, decide_eq_true_eq, Bool.not_eq_true'] at h3
      obtain ⟨⟨⟨q1, q2⟩, q3⟩, q4⟩ := h3
      have hs := h1
      unfold strB at hs
      rw [Bool.and_eq_true, Bool.and_eq_true] at hs
      by_cases hl : c.sc.names.lookup nm = some .local
      · have z := ps_setLc2X (spos := pos) x ok (of_decide_eq_true q2) (of_decide_eq_true hs.1.1) hl q1 q4
        rw [ownOf_vs] at z
        refine ps_weak z fun D σ H q => ?_
        have e0 : (fun ρ => (Ex.lc2 t vs ik as cs t1 vs1 ik1 as1 cs1 el).ev g ρ) = lc2F ik (as.fs g) t vs (fun ρ => cs.tests g ρ) (itsF ik1 (as1.fs g)) t1 vs1 (fun ρ => cs1.tests g ρ) (fun ρ => el.ev g ρ) := funext fun ρ => lc2_ev ..
        have m := ex_mono (g := g) (Ex.lc2 t vs ik as cs t1 vs1 ik1 as1 cs1 el)
        rw [e0] at q m
        exact set_weak m q
      · exact ps_setX x h1 (Ex.sound _ x h2).pe (ex_mono _) (noswC (by rw [x.sc]; exact beq_eq_false_iff_ne.mpr hl))
    · rename_i t vs ik as cs el elt0 gens0 scope0 pos0
      obtain ⟨elt, tg, it, ifs, scope, pos', he, ok⟩ := lc_parts x h2
      cases he
      simp only [Bool.and_eq_true, decide_eq_true_eq, Bool.not_eq_true'] at h3
      obtain ⟨⟨⟨q1, q2⟩, q3⟩, q4⟩ := h3
      have hs := h1
      unfold strB at hs
      rw [Bool.and_eq_true, Bool.and_eq_true] at hs
      by_cases hl : c.sc.names.lookup nm = some .local
      · have z := ps_setLcX (spos := pos) x ok (of_decide_eq_true q2) (of_decide_eq_true hs.1.1) hl q1 q4
        rw [ownOf_vs] at z
        refine ps_weak z fun D σ H q => ?_
        have e0 : (fun ρ => (Ex.lc t vs ik as cs el).ev g ρ) = lcF ik (as.fs g) t vs (fun ρ => cs.tests g ρ) (fun ρ => el.ev g ρ) := funext fun ρ => lc_ev ..
        have m := ex_mono (g := g) (Ex.lc t vs ik as cs el)
        rw [e0] at q m
        exact set_weak m q
      · exact ps_setX x h1 (Ex.sound _ x h2).pe (ex_mono _) (noswC (by rw [x.sc]; exact beq_eq_false_iff_ne.mpr hl))
    · cases h3
theorem isLoc_d {i : Nat} {y : Str} (h : isLoc c i y = true) : c.N[i]? = some y ∧ c.sc.names.lookup y = some .local := by
  unfold isLoc at h
  rw [Bool.and_eq_true, decide_eq_true_eq, decide_eq_true_eq] at h
  exact h
theorem par_sound (x : XOk X k g c n E) {is : List Nat} {ts vs : List Expr} {as : Exs} {kt k2 : Nat} {pt pt2 pos : Pos} (h : parSide c is ts vs = true) (ha : as.ck c vs = true) (hk : kindB c = true) : PS X (.Assign [.Tuple ts kt pt] (.Tuple vs k2 pt2) pos) (tM k E lk (parF lk is (as.fs g))) := by
  have p := Exs.sound as x ha
  unfold parSide at h
  split at h
  · simp only [Bool.and_eq_true, Bool.not_eq_true', beq_iff_eq (α := Nat)] at h
    obtain ⟨⟨⟨⟨⟨⟨h1, h2⟩, h3⟩, h4⟩, h5⟩, h6⟩, h7⟩ := h
    match vs, h7, p, h5, h6 with
    | [a, b], _, p, h5, h6 =>
      obtain ⟨a1, a2⟩ := isLoc_d h1
      obtain ⟨b1, b2⟩ := isLoc_d h2
      exact ps_par2X x (of_decide_eq_true hk) a1 b1 a2 b2 (by simpa using h3) h4 h5 h6 p (exs_mono as)
  · simp only [Bool.and_eq_true, Bool.not_eq_true', beq_iff_eq (α := Nat)] at h
    obtain ⟨⟨⟨⟨⟨⟨⟨⟨⟨⟨h1, h2⟩, h2'⟩, h3⟩, h3'⟩, h4⟩, h4'⟩, h4''⟩, h5⟩, h6⟩, h7⟩ := h
    match vs, h7, p, h5, h6 with
    | [a, b, d], _, p, h5, h6 =>
      obtain ⟨a1, a2⟩ := isLoc_d h1
      obtain ⟨b1, b2⟩ := isLoc_d h2
      obtain ⟨d1, d2⟩ := isLoc_d h2'
      exact ps_par3X x (of_decide_eq_true hk) a1 b1 d1 a2 b2 d2 (by simpa using h3) (by simpa using h3') h4 h4' h4'' h5 h6 p (exs_mono as)
  · cases h
theorem asg_none (x : XOk X k g c n E) {tg v : Expr} (h : asgSide c tg v = true) : swappedStores [tg] v X.env = pure none := by
  unfold asgSide at h
  rw [Bool.or_eq_true, Bool.or_eq_true] at h
  rcases h with (h | h) | h
  · exact noswap1 h
  · exact noswap2 h
  · split at h
    · rw [Bool.or_eq_true, Bool.or_eq_true, Bool.not_eq_true', Bool.not_eq_true'] at h
      rcases h with (h | h) | h
      · exact noswap3 (by rw [x.sc]; exact h)
      · exact noswap4 h
      · exact noswap5 h
    · cases h
theorem rai_sound (x : XOk X k g c n E) {cc : Nat} {s : Stmt} {es : List Expr} {as : Exs} (h : raiArgs c cc s = some es) (ha : as.ck c es = true) : PS X s (tM k E lk (raiF g cc (as.fs g))) := by
  unfold raiArgs at h
  split at h
  · split at h
    · rename_i he
      cases h
      simp only [Bool.and_eq_true, decide_eq_true_eq] at he
      exact ps_raiX x he.1.1 he.1.2 he.2 (Exs.sound as x ha) (exs_mono as)
    · cases h
  · cases h
theorem ret_sound (x : XOk X k g c n E) {e : Ex} {v : Expr} {pos : Pos} (h : e.ck c v = true) : PS X (.Return (some v) pos) (tM k E lk fun ρ => (retE g lk e ρ).bind fun y => .ok (.rt y.1, y.2)) := by
  cases e with
  | var i =>
    unfold Ex.ck at h
    obtain ⟨nm, p, rfl, h⟩ := isVar_d h
    exact ps_conv (ps_retVX x h) fun ρ => rfl
  | _ => exact ps_conv (ps_retE (Ex.sound _ x h).pe (ex_mono _)) fun ρ => rfl
mutual
theorem Sm.sound (x : XOk X k g c n E) : ∀ (s : Sm) {st : Stmt}, s.ck c st = true → PS X st (tM k E lk (s.ev g lk))
  | .set i e, st, h => by
    unfold Sm.ck at h
    split at h
    · simp only [Bool.and_eq_true] at h
      exact ps_conv (set_sound x h.1.1 h.1.2 h.2) fun ρ => by rw [Sm.ev]; rfl
    · cases h
  | .asg t e, st, h => by
    unfold Sm.ck at h
    split at h
    · simp only [Bool.and_eq_true] at h
      obtain ⟨⟨⟨⟨h1, h2⟩, h3⟩, h4⟩, h5⟩ := h
      refine ps_conv (ps_asgX (Tg.sound x t h1) (Ex.sound e x h3).pe (ex_mono e) ?_ (asg_none x h5) h2) fun ρ => by rw [Sm.ev]; rfl
      rw [Bool.or_eq_true] at h4
      rcases h4 with h4 | h4
      · exact nosw h4
      · exact noswN h4
    · cases h
  | .par is as, st, h => by
    unfold Sm.ck at h
    split at h
    · simp only [Bool.and_eq_true] at h
      exact ps_conv (par_sound x h.1.1 h.1.2 h.2) fun ρ => by rw [Sm.ev, exs_ev]; rfl
    · cases h
  | .aug i o e, st, h => by
    unfold Sm.ck at h
    split at h
    · simp only [Bool.and_eq_true, decide_eq_true_eq] at h
      obtain ⟨⟨⟨h1, h2⟩, rfl⟩, h4⟩ := h
      exact ps_conv (ps_augX x h1 h2 (Ex.sound e x h4).pe (ex_mono e)) fun ρ => by rw [Sm.ev]; rfl
    · cases h
  | .put j q e, st, h => by
    unfold Sm.ck at h
    split at h
    · simp only [Bool.and_eq_true] at h
      obtain ⟨⟨⟨h1, h2⟩, h3⟩, h4⟩ := h
      rename_i nm p0 ke p1 v p2
      have hw : swapsWithSole [.Subscript (.Name nm p0) ke p1] v p2.line X.env = pure false   := by
        show swapsWith v (some (.Subscript (.Name nm p0) ke p1)) p2.line X.env = pure false
        exact noswN rfl
      exact ps_conv (ps_putX x h1 h2 (Ex.sound e x h4).pe (Ex.sound q x h3).pe (ex_mono e) (ex_mono q) hw) fun ρ => by rw [Sm.ev]; rfl
    · cases h
  | .augs j q o e, st, h => by
    unfold Sm.ck at h
    split at h
    · simp only [Bool.and_eq_true, decide_eq_true_eq] at h
      obtain ⟨⟨⟨⟨⟨h1, h2⟩, h3⟩, rfl⟩, h5⟩, h6⟩ := h
      exact ps_conv (ps_augsX x h1 h2 h3 (Ex.sound e x h6).pe (Ex.sound q x h5).pe (ex_mono e) (ex_mono q)) fun ρ => by rw [Sm.ev]; rfl
    · cases h
  | .app j e, st, h => by
    unfold Sm.ck at h
    split at h
    · simp only [Bool.and_eq_true, decide_eq_true_eq] at h
      obtain ⟨⟨⟨⟨rfl, h2⟩, h3⟩, h4⟩, h5⟩ := h
      exact ps_conv (ps_appX x h2 h3 h4 (Ex.sound e x h5).pe (ex_mono e)) fun ρ => by rw [Sm.ev]; rfl
    · cases h
  | .ex e, st, h => by
    unfold Sm.ck at h
    split at h
    · simp only [Bool.and_eq_true] at h
      exact ps_conv (ps_exX (Ex.sound e x h.2).pe (ex_mono e) (nosw h.1)) fun ρ => by rw [Sm.ev]
    · cases h
  | .ret e, st, h => by
    unfold Sm.ck at h
    split at h
    · exact ps_conv (ret_sound x h) fun ρ => by rw [Sm.ev]
    · cases h
  | .retN, st, h => by
    unfold Sm.ck at h
    split at h
    · exact ps_conv ps_retNX fun ρ => by rw [Sm.ev]
    · cases h
  | .ife t a b, st, h => by
    unfold Sm.ck at h
    split at h
    · simp only [Bool.and_eq_true] at h
      exact ps_conv (ps_ifX (Ex.sound t x h.1.1).pt (test_mono t) (Sms.sound x a h.1.2) (Sms.sound x b h.2)) fun ρ => by rw [Sm.ev]; rfl
    · cases h
  | .for_ t i as b, st, h => by
    unfold Sm.ck at h
    split at h
    · simp only [Bool.and_eq_true] at h
      obtain ⟨⟨⟨h1, h2⟩, h3⟩, h4⟩ := h
      split at h1
      · rename_i es hes
        refine ps_conv (ps_forX x (it_sound x hes (Exs.sound as x h1)) (its_mono i as) (Tg.sound x t h2) (Sms.sound x b h4) h3) fun ρ => ?_
        rw [Sm.ev, exs_ev]
        unfold forF itsF
        rw [R.assoc]
        congr 1
        funext r
        rw [R.assoc]
        congr 1
        funext ds
        rw [R.assoc]
        rfl
      · cases h1
    · cases h
  | .whl t b, st, h => by
    unfold Sm.ck at h
    split at h
    · simp only [Bool.and_eq_true] at h
      exact ps_conv (ps_whlX x (w := g.w) (Ex.sound t x h.1).pt (test_mono t) (Sms.sound x b h.2)) fun ρ => by rw [Sm.ev]; rfl
    · cases h
  | .rai cc as, st, h => by
    unfold Sm.ck at h
    split at h
    · rename_i es hes
      exact ps_conv (rai_sound x hes h) fun ρ => by rw [Sm.ev, exs_ev]; rfl
    · cases h
  | .pass, st, h => by
    unfold Sm.ck at h
    split at h
    · exact ps_conv ps_passX fun ρ => by rw [Sm.ev]
    · cases h
  | .brk, st, h => by
    unfold Sm.ck at h
    split at h
    · exact ps_conv ps_brkX fun ρ => by rw [Sm.ev]
    · cases h
  | .cnt, st, h => by
    unfold Sm.ck at h
    split at h
    · exact ps_conv ps_cntX fun ρ => by rw [Sm.ev]
    · cases h
theorem Sms.sound (x : XOk X k g c n E) : ∀ (ss : Sms) {sts : List Stmt}, ss.ck c sts = true → PSs X sts (tM k E lk (ss.ev g lk))
  | .nil, sts, h => by
    unfold Sms.ck at h
    cases sts with
    | nil => exact pss_conv pss_nilX fun ρ => by rw [Sms.ev]
    | cons _ _ => cases h
  | .cons s r, sts, h => by
    unfold Sms.ck at h
    cases sts with
    | nil => cases h
    | cons t ts =>
      simp only [Bool.and_eq_true] at h
      refine pss_conv (pss_consX (Sm.sound x s h.1) (Sms.sound x r h.2)) fun ρ => ?_
      rw [Sms.ev]
      all_goals congr 1
end
end
end Rx

set_option Elab.async false
set_option linter.all false
set_option maxRecDepth 100000
/-! Rx21: functions: every def of the text keeps the promise of its run. -/
namespace Rx
open PySem PySem.Spec PyProof.Rows L2
/-- a def of the text, to be checked -/
structure Df where
  x : Str
  q : Str
  st : Stmt
  N : List Str
  ps : List Str
def dfCs (tb : Tb) (d : Df) (lam : Bool) : Cs := ⟨d.N, defScope d.st, fun _ => true, tb, lam⟩
def scB (N P : List Str) (sc : Scope) : Bool :=
  decide (sc.kind = .function) && !sc.isCoroutine && !sc.isGenerator && decide N.Nodup && decide (N.take P.length = P) && P.all (fun x => decide (sc.names.lookup x = some .local) || decide (sc.names.lookup x = some .cell)) && sc.names.all (fun y => !decide (y.2 = .free))
theorem scB_ok {N P : List Str} {sc : Scope} (h : scB N P sc = true) : FnScope N P sc := by
  unfold scB at h
  simp only [Bool.and_eq_true, Bool.not_eq_true', decide_eq_true_eq, List.all_eq_true, Bool.or_eq_true, decide_eq_false_iff_not] at h
  obtain ⟨⟨⟨⟨⟨⟨h1, h2⟩, h3⟩, h4⟩, h5⟩, h6⟩, h7⟩ := h
  exact ⟨h1, h2, h3, h4, h5, h6, h7⟩
def dfB (tb : Tb) (d : Df) (lam : Bool) (fn : Fn) : Bool := scB d.N d.ps (defScope d.st) && d.ps.length == fn.np && d.N.length == fn.nn && fn.body.ck (dfCs tb d lam) (defBody d.st)
/-! ### what a body leaves -/
section
variable {k : Kx} {E : XK} {F H F' H' : Hp} {vs : List V} {ss : List Sl} {σ' : St} {ρ' : Env} {n : Nat}
theorem start_at {vs : List V} {n i : Nat} (h : i < vs.length) : (vs.map some ++ List.replicate n none)[i]? = (vs.map some)[i]? := by
  rw [List.getElem?_append_left (by rw [List.length_map]; exact h)]
theorem pad_some {α : Type} {l : List α} {m i : Nat} {a : α} (h : (l.map some ++ List.replicate m none)[i]? = some (some a)) : (l.map some)[i]? = some (some a) := by
  by_cases hi : i < l.length
  · rw [List.getElem?_append_left (by rw [List.length_map]; exact hi)] at h
    exact h
  · rw [List.getElem?_append_right (by rw [List.length_map]; exact Nat.le_of_not_lt hi)] at h
    rw [List.getElem?_replicate] at h
    split at h <;> cases h
theorem okk_pad (K1 : Okk k F (vs.map some) H (ss.map some)) (m : Nat) : Okk k F (vs.map some ++ List.replicate m none) H (ss.map some ++ List.replicate m none) := by
  have hl : ss.length = vs.length := by simpa using K1.len
  refine ⟨K1.sub, by simp [hl], fun i s h => ?_, fun i j a d e h1 h2 h3 h4 => K1.inj i j a d e (pad_some h1) (pad_some h2) (pad_some h3) (pad_some h4), K1.tabs, K1.fnt⟩
  have h := pad_some h
  obtain ⟨v, h1, h2⟩ := K1.val i s h
  refine ⟨v, ?_, h2⟩
  have hi : i < vs.length := by
    have := (List.getElem?_eq_some_iff.mp h1).1
    simpa using this
  rw [start_at hi]
  exact h1
theorem ow_pad {m : Nat} {b : Addr} (h : Ow (vs.map some ++ List.replicate m none) (ss.map some ++ List.replicate m none) b) : Ow (vs.map some) (ss.map some) b := by
  obtain ⟨i, d, h1, h2⟩ := h
  exact ⟨i, d, pad_some h1, pad_some h2⟩
theorem outs_at {i : Nat} {s : Sl} (h : (outs ss ρ')[i]? = some (some s)) : i < ss.length ∧ lkOf ss i = true ∧ ρ'[i]? = some (some s) := by
  unfold outs at h
  rw [List.getElem?_map] at h
  cases q : (List.range ss.length)[i]? with
  | none => rw [q] at h; cases h
  | some j =>
    rw [q] at h
    obtain ⟨h1, h2⟩ := List.getElem?_eq_some_iff.mp q
    rw [List.getElem_range] at h2
    subst h2
    have h : some (if lkOf ss i then ρ'[i]?.join else none) = some (some s) := h
    have h := Option.some.inj h
    by_cases hk : lkOf ss i = true
    · rw [if_pos hk] at h
      exact ⟨by simpa using h1, hk, join_some h⟩
    · rw [if_neg hk] at h
      cases h
/-- the caller sees what was lent -/
theorem outs_ok (K0 : Okk k F (vs.map some) H (ss.map some)) (K1 : Okk k F' σ' H' ρ') (f : Fr F (vs.map some ++ List.replicate n none) H (ss.map some ++ List.replicate n none) F' σ' H' ρ') (l : ∀ (i : Nat), lkOf ss i = true → σ'[i]? = (vs.map some ++ List.replicate n none)[i]?) :
    Okk k F' (vs.map some) H' (outs ss ρ') ∧ Fr F (vs.map some) H (ss.map some) F' (vs.map some) H' (outs ss ρ') ∧ ∀ b, Ow (vs.map some) (outs ss ρ') b → Ow σ' ρ' b := by
  have hl : ss.length = vs.length := by simpa using K0.len
  have at' : ∀ {i : Nat} {s : Sl}, (outs ss ρ')[i]? = some (some s) → ρ'[i]? = some (some s) ∧ σ'[i]? = (vs.map some)[i]? := fun {i s} h => by
    obtain ⟨h1, h2, h3⟩ := outs_at h
    exact ⟨h3, by rw [l i h2, start_at (by rw [← hl]; exact h1)]⟩
  have ow : ∀ b, Ow (vs.map some) (outs ss ρ') b → Ow σ' ρ' b := fun b ⟨i, d, h1, h2⟩ => by
    obtain ⟨z1, z2⟩ := at' h1
    exact ⟨i, d, z1, by rw [z2]; exact h2⟩
  refine ⟨⟨K1.sub, by unfold outs; simp [hl], fun i s h => ?_, fun i j a d e h1 h2 h3 h4 => ?_, K1.tabs, K1.fnt⟩, ⟨f.ext, f.dom, fun b o nt q1 q2 q3 => ?_⟩, ow⟩
  · obtain ⟨z1, z2⟩ := at' h
    obtain ⟨v, h1, h2⟩ := K1.val i s z1
    exact ⟨v, by rw [← z2]; exact h1, h2⟩
  · obtain ⟨z1, z2⟩ := at' h1
    obtain ⟨y1, y2⟩ := at' h2
    exact K1.inj i j a d e z1 y1 (by rw [z2]; exact h3) (by rw [y2]; exact h4)
  · obtain ⟨z1, z2, z3⟩ := f.keep b o nt q1 q2 fun z => q3 (ow_pad z)
    exact ⟨z1, z2, fun z => z3 (ow b z)⟩
end
section
variable {P : Program} {w : World} {K : PySem.W.Frag} {mg : Str → Option Value} {base : Heap} {k : Kx} {tb : Tb} {p : Pr} {m lv : Nat}
/-- the level of a run of depth m -/
def lev (m : Nat) : Nat := 3 * m + 1
theorem fn_sound {f : Nat} {d : Df} {fn : Fn} {fa : Addr} {fd : FuncData} {lam : Bool} {lv r : Nat} (hfn : p.fns[f]? = some fn) (hd : dfB tb d lam fn = true) (Fu : Fun K d.x d.q d.st fa fd)
    (hx : ∀ (X : Cx) (E : XK), X.prog = P → X.w = w → X.K = K → X.mg = mg → X.base = base → X.calm = true → X.N = d.N → X.env.scope = defScope d.st → X.fn = (fun _ => true) → Takes X (fun c d _ H => E c d H) → Room r X.A → PassesOwn (model X.prog X.w) X.A X.env X.xe → X.env.code = fd.code → X.env.qual = d.q ++ (".<locals>." : Str) → XOk X k (p.g (p.call m)) (dfCs tb d lam) lv E) :
    FnOk P w K mg base (L2.CX P w) (r + 1) fa fd d.ps (spOf k (p.g (p.call (m + 1))) f) := by
  unfold dfB at hd
  simp only [Bool.and_eq_true, beq_iff_eq (α := Nat)] at hd
  obtain ⟨⟨⟨h1, h2⟩, h3⟩, h4⟩ := hd
  have S := scB_ok h1
  have len : ∀ vs H Q E, spOf k (p.g (p.call (m + 1))) f vs H Q E → vs.length = d.ps.length := fun vs H Q E ⟨F, ss, K1, q⟩ => by
    have hl : ss.length = vs.length := by simpa using K1.len
    rw [← hl, h2]
    have q : Post k E F H (vs.map some) (ss.map some) (p.call (m + 1) f ss) _ := q
    unfold Pr.call at q
    rw [hfn] at q
    by_cases hn : ss.length = fn.np
    · exact hn
    · have q : Post k E F H (vs.map some) (ss.map some) (fn.run (p.g (p.call m)) ss) _ := q
      unfold Fn.run at q
      rw [if_neg hn] at q
      exact q.elim
  obtain ⟨oc, od, kV, doc, pm, an, cdv, ct, osl, rfl, lk, hcd⟩ := Fu.ex
  refine fn_of lk hcd S len fun A outer s H vs Q E hr hsp => ?_
  have hlen := len vs H Q E hsp
  obtain ⟨F, ss, K1, q⟩ := hsp
  have hl : ss.length = vs.length := by simpa using K1.len
  have x := hx (cxOf (L2.CX P w) P w K mg base d.N d.q (defScope d.st) fa cdv A outer s H E) E rfl rfl rfl rfl rfl rfl rfl rfl rfl (takes_of rfl rfl rfl rfl) hr (passes_of rfl) rfl rfl
  refine ⟨_, Sms.sound (lk := lkOf ss) x fn.body h4, H, F, ss.map some ++ List.replicate (fn.nn - fn.np) none, ?_, ?_⟩
  · show OkM k (lkOf ss) H F H (vs.map some ++ List.replicate (d.N.length - vs.length) none) _
    rw [h3, hlen, h2]
    refine ⟨okk_pad K1 _, fun i e a hk hh _ => ?_, fun _ z => z⟩
    have hh := pad_some hh
    rw [List.getElem?_map] at hh
    cases q : ss[i]? with
    | none => rw [q] at hh; cases hh
    | some s' =>
      rw [q] at hh
      cases hh
      unfold lkOf at hk
      rw [q] at hk
      cases hk
  · show PostS k E (lkOf ss) H F H (vs.map some ++ List.replicate (d.N.length - vs.length) none) _ _ _
    rw [h3, hlen, h2]
    have q : Post k E F H (vs.map some) (ss.map some) (p.call (m + 1) f ss) _ := q
    unfold Pr.call at q
    rw [hfn] at q
    have q : Post k E F H (vs.map some) (ss.map some) (fn.run (p.g (p.call m)) ss) _ := q
    unfold Fn.run at q
    rw [if_pos (by rw [hl, hlen, h2])] at q
    cases ev : fn.body.ev (p.g (p.call m)) (lkOf ss) (ss.map some ++ List.replicate (fn.nn - fn.np) none) with
    | stuck => rw [ev] at q; exact q.elim
    | exc c gs =>
      rw [ev] at q
      exact fun cls dd F' H' s2 f2 xv => q cls dd F' H' s2 ⟨f2.ext, f2.dom, fun b o nt q1 q2 q3 => f2.keep b o nt q1 q2 fun z => q3 (ow_pad z), f2.fnt⟩ xv
    | ok r =>
      obtain ⟨fl, ρ'⟩ := r
      rw [ev] at q
      intro F' σ' H' K2 f2 l2
      obtain ⟨z1, z2, z3⟩ := outs_ok K1 K2.ok f2 l2
      cases fl with
      | nx => exact q F' H' z1 z2 .non .non
      | bk => exact q.elim
      | ct => exact q.elim
      | rt s' =>
        intro v rv
        refine q F' H' z1 z2 v ?_
        cases s' with
        | frz e => exact rv
        | own e =>
          obtain ⟨a, r1, r2, r3, r4, r5⟩ := rv
          exact ⟨a, r1, r2, r3, fun z => r4 (z3 a z), r5⟩
end
end Rx

set_option Elab.async false
set_option linter.all false
set_option maxRecDepth 100000
/-! Rx22: the text's exceptions; the whole text; the law's head. -/
namespace Rx
open PySem PySem.Spec PyProof.Rows L2
/-! ### __init__ of an exception -/
def excB (c : Cs) (i : Nat) : List Str → List Stmt → Bool
  | [], [] => true
  | n :: ns, .Assign [.Attribute (.Name s _) f _] (.Name q _) _ :: r => varB c 0 s && decide (f = n) && varB c i q && excB c (i + 1) ns r
  | _, _ => false
def excOk (tb : Tb) (ns ps : List Str) (st : Stmt) : Bool := scB ps ps (defScope st) && ps.length == ns.length + 1 && !ns.isEmpty && decide (ns.length ≤ 100) && excB ⟨ps, defScope st, fun _ => true, tb, false⟩ 1 ns (defBody st)
def tExc (K : PySem.W.Frag) (i : Nat) : List Str → TS
  | [] => tNext
  | n :: ns => tSeq (tOst K n (tVar 0) (tVar i)) (tExc K (i + 1) ns)
section
variable {X : Cx} {c : Cs}
theorem pe_varC (hN : X.N = c.N) (hs : X.env.scope = c.sc) {i : Nat} {nm : Str} {pos : Pos} (h : varB c i nm = true) : PE X (.Name nm pos) (tVar i) := by
  unfold varB at h
  rw [Bool.and_eq_true, Bool.and_eq_true] at h
  obtain ⟨h1, h2⟩ := nameOk_d h.2
  exact pe_var (by rw [hN]; exact of_decide_eq_true h.1.1) (by rw [hs]; exact vis_of h.1.2) h1 h2
theorem exc_body (hN : X.N = c.N) (hs : X.env.scope = c.sc) : ∀ {ns : List Str} {body : List Stmt} {i : Nat}, excB c i ns body = true → PSs X body (tExc X.K i ns)
  | [], [], i, _ => pss_nil
  | [], _ :: _, i, h => by cases h
  | n :: ns, body, i, h => by
    unfold excB at h
    split at h
    · rename_i he
      cases he
    · rename_i n' ns' s p0 f p1 q p2 p3 r he
      cases he
      simp only [Bool.and_eq_true, decide_eq_true_eq] at h
      obtain ⟨⟨⟨h1, rfl⟩, h3⟩, h4⟩ := h
      exact pss_cons (ps_ost (pe_varC hN hs h1) (pe_varC hN hs h3) rfl) (exc_body hN hs h4)
    · cases h
end
section
variable {K : PySem.W.Frag} {C a : Addr} {D : Ends} {σ : St}
theorem exc_more (T : OexC K C) (h0 : σ[0]? = some (some (V.ref a))) {d : Addr} (hda : d ≠ a) : ∀ {ns : List Str} {ws : List V} {i : Nat} {acc : List (Str × V)} {H : Hp}, ws.length = ns.length → (∀ (j : Nat) (v : V), ws[j]? = some v → σ[i + j]? = some (some v)) → (∀ n ∈ ns, PySem.W.findIn K (.ref C) n = some none) →
    acc.length + ns.length ≤ 900 → H a = some (exo a C (some d)) → H d = some (exd d acc) →
    (∀ H2, H2 a = some (exo a C (some d)) → H2 d = some (exd d ((ns.zip ws).reverse ++ acc)) → (∀ b, b ≠ a → b ≠ d → H2 b = H b) → D.nx σ H2) → tExc K i ns D σ H
  | [], [], i, acc, H, _, _, _, _, ha, hd, k => k H ha (by simpa using hd) fun _ _ _ => rfl
  | [], _ :: _, i, acc, H, hl, _, _, _, _, _, _ => by cases hl
  | _ :: _, [], i, acc, H, hl, _, _, _, _, _, _ => by cases hl
  | n :: ns, w :: ws, i, acc, H, hl, hw, hf, hz, ha, hd, k => by
    refine ⟨w, by simpa using hw 0 w rfl, .ref a, h0, a, C, rfl, T, hf n List.mem_cons_self, .inr ⟨d, acc, ha, hd, by simp at hz; omega, ?_⟩⟩
    refine exc_more T h0 hda (acc := (n, w) :: acc) (by simpa using hl) (fun j v hj => by
      have := hw (j + 1) v (by simpa using hj)
      rw [Nat.add_assoc, Nat.add_comm 1 j]
      exact this) (fun m hm => hf m (List.mem_cons_of_mem _ hm)) (by simp at hz ⊢; omega) (by rw [upd_ne (Ne.symm hda)]; exact ha) upd_same fun H2 e1 e2 e3 => k H2 e1 (by simpa using e2) fun b n1 n2 => by rw [e3 b n1 n2, upd_ne n2]
theorem exc_first (T : OexC K C) (h0 : σ[0]? = some (some (V.ref a))) {n : Str} {ns : List Str} {w : V} {ws : List V} {H : Hp} (hl : ws.length = ns.length) (hw : ∀ (j : Nat) (v : V), (w :: ws)[j]? = some v → σ[1 + j]? = some (some v)) (hf : ∀ m ∈ n :: ns, PySem.W.findIn K (.ref C) m = some none)
    (hz : ns.length ≤ 800) (ha : H a = some (exo a C none))
    (k : ∀ H2 d, H2 a = some (exo a C (some d)) → H2 d = some (exd d (((n :: ns).zip (w :: ws)).reverse)) → H d = none → d ≠ a → (∀ b, b ≠ a → b ≠ d → H2 b = H b) → D.nx σ H2) : tExc K 1 (n :: ns) D σ H := by
  refine ⟨w, by simpa using hw 0 w rfl, .ref a, h0, a, C, rfl, T, hf n List.mem_cons_self, .inl ⟨ha, fun d hd hda => ?_⟩⟩
  refine exc_more T h0 hda (acc := [(n, w)]) hl (fun j v hj => by
    have := hw (j + 1) v (by simpa using hj)
    rw [Nat.add_comm j 1, ← Nat.add_assoc] at this
    exact this) (fun m hm => hf m (List.mem_cons_of_mem _ hm)) (by simp; omega) upd_same (by rw [upd_ne hda]; exact upd_same) fun H2 e1 e2 e3 => k H2 d e1 (by simpa using e2) hd hda fun b n1 n2 => by rw [e3 b n1 n2, upd_ne n1, upd_ne n2]
end
section
variable {P : Program} {w : World} {K : PySem.W.Frag} {mg : Str → Option Value} {base : Heap}
theorem exc_sound {tb : Tb} {ns ps : List Str} {st : Stmt} {x q : Str} {fI C : Addr} {fd : FuncData} (hk : excOk tb ns ps st = true) (Fu : Fun K x q st fI fd) (T : OexC K C) (hf : ∀ n ∈ ns, PySem.W.findIn K (.ref C) n = some none) : FnOk P w K mg base (L2.CX P w) 1 fI fd ps (spX ns C) := by
  unfold excOk at hk
  simp only [Bool.and_eq_true, beq_iff_eq (α := Nat), Bool.not_eq_true', decide_eq_true_eq] at hk
  obtain ⟨⟨⟨⟨h1, h2⟩, h3⟩, h4⟩, h5⟩ := hk
  have S := scB_ok h1
  refine Fu.okX S (fun vs H Q E ⟨a, ws, e, hl, _⟩ => by rw [e, h2, List.length_cons, hl]) (k := 0) fun cdv A outer s H vs Q E hr ⟨a, ws, e, hl, ha, kk⟩ => ?_
  refine ⟨_, exc_body (c := ⟨ps, defScope st, fun _ => true, tb, false⟩) rfl rfl h5, ?_⟩
  subst e
  cases ns with
  | nil => cases h3
  | cons n ns =>
    cases ws with
    | nil => cases hl
    | cons w0 ws =>
      refine exc_first T (a := a) rfl (by simpa using hl) (fun j v hj => ?_) hf (by simp at h4; omega) ha fun H2 d e1 e2 e3 e4 e5 => kk H2 d e1 e2 e3 e4 e5
      show ((V.ref a :: w0 :: ws).map some ++ List.replicate _ none)[1 + j]? = _
      have hlt := (List.getElem?_eq_some_iff.mp hj).1
      rw [start_at (by simp at hlt ⊢; omega), Nat.add_comm]
      show ((w0 :: ws).map some)[j]? = _
      rw [List.getElem?_map, hj]
      rfl
end
/-! ### the whole text -/
structure Top (w : World) (K : PySem.W.Frag) (mg : Str → Option Value) (k : Kx) (tb : Tb) (p : Pr) (dfs : List Df) (fas : List Addr) : Prop where
  kK : K = k.K
  kW : w = k.w
  nmE : k.nm = tb.nm
  nd : tb.nm.Nodup
  blt : ∀ x ∈ (["len", "int", "abs", "min", "max", "sum", "all", "any", "tuple", "list", "divmod", "isinstance", "bool", "str", "range", "enumerate", "zip"] : List Str), mg x = none
  funs : ∀ (f : Nat) (d : Df), dfs[f]? = some d → ∃ fa fd, fas[f]? = some fa ∧ Fun K d.x d.q d.st fa fd ∧ Binds K fd d.ps []
  chk : ∀ (f : Nat) (d : Df), dfs[f]? = some d → ∃ fn, p.fns[f]? = some fn ∧ dfB tb d false fn = true
  flen : fas.length = dfs.length
  fnm : ∀ (f : Nat) (x : Str), tb.fns[f]? = some x → ∃ fa, fas[f]? = some fa ∧ mg x = some (.ref fa)
  glb : ∀ (j : Nat) (x : Str) (d : D), tb.glb[j]? = some x → p.glb j = some d → ∃ v u, mg x = some u ∧ RelV v u ∧ Rep k (fun _ => none) v d
  cls : ∀ (c : Nat) (x : Str), tb.cls[c]? = some x → ∃ C, k.cm c = some C ∧ mg x = some (.ref C)
  clsF : ∀ (c : Nat) (C : Addr), k.cm c = some C → ClsF K C
  fld : ∀ (c : Nat) (C : Addr) (m : Nat) (x : Str), k.cm c = some C → tb.nm[m]? = some x → p.mth c m = none → NoAttr K C x
  inst : ∀ T ∈ tb.tys, ∀ (d : D) (t u : Value), tyOfD k d = some t → tyVal k T = some u → PySem.W.kitOne K t u = some (T.has d)
  mth : ∀ (c m f : Nat), p.mth c m = some f → ∃ C x fa, k.cm c = some C ∧ tb.nm[m]? = some x ∧ Meth K C x fa ∧ fas[f]? = some fa
  ini : ∀ (c f : Nat), p.ini c = some f → ∃ C fa, k.cm c = some C ∧ Mk K C fa ∧ fas[f]? = some fa
  tru : ∀ (c f : Nat), p.tru c = some f → ∃ C fa, k.cm c = some C ∧ PySem.W.findIn K (.ref C) "__bool__" = some (some (.ref fa)) ∧ PySem.W.isFn K (.ref fa) = true ∧ fas[f]? = some fa
  eqm : ∀ (c f : Nat), p.eqm c = some f → ∃ C fa, k.cm c = some C ∧ fas[f]? = some fa ∧ PySem.W.findIn K (.ref C) "__eq__" = some (some (.ref fa)) ∧ PySem.W.isFn K (.ref fa) = true ∧ PySem.W.findIn K (.ref C) "__ne__" = some (some (.builtin "object.__ne__")) ∧
    ∀ (c' : Nat) (C' : Addr), k.cm c' = some C' → PySem.W.notFirst K C (.ref C') = true
  mthN : ∀ (c m : Nat), m ∉ tb.mths → p.mth c m = none
  iniS : ∀ c ∈ tb.inis, ∃ f, p.ini c = some f
  exn : ∀ (cc : Nat) (x : Str), tb.exs[cc]? = some x → ∃ C fI fs ns q st ps fd, k.ce cc = some C ∧ mg x = some (.ref C) ∧ p.exf cc = some fs ∧ Paired (fun (m : Nat) (y : Str) => k.nm[m]? = some y) fs ns ∧ OexC K C ∧ PySem.W.findIn K (.ref C) "__init__" = some (some (.ref fI)) ∧ PySem.W.typeIn K (.ref fI) = some (.type "function") ∧
    Fun K "__init__" q st fI fd ∧ Binds K fd ps [] ∧ excOk tb ns ps st = true ∧ ∀ n ∈ ns, PySem.W.findIn K (.ref C) n = some none
section
variable {P : Program} {w : World} {K : PySem.W.Frag} {mg : Str → Option Value} {base : Heap} {k : Kx} {tb : Tb} {p : Pr} {dfs : List Df} {fas : List Addr}
theorem at_lt {α β : Type} {as : List α} {bs : List β} {i : Nat} {a : α} (h : as[i]? = some a) (hl : as.length = bs.length) : ∃ b, bs[i]? = some b := by
  have := (List.getElem?_eq_some_iff.mp h).1
  exact ⟨bs[i]'(by rw [← hl]; exact this), List.getElem?_eq_getElem _⟩
/-- a context of the text, its callees at the level of depth m -/
theorem xok_of (T : Top w K mg k tb p dfs fas) {m : Nat} (fnk : ∀ {f : Nat} {fa : Addr}, fas[f]? = some fa → FnK P w K mg base k (p.g (p.call m)) (lev m) f fa ∧ PySem.W.keepIn K (.ref fa) = true) {d : Df} {lam : Bool} (hnd : d.N.Nodup)
    {X : Cx} {E : XK} (e1 : X.prog = P) (e2 : X.w = w) (e3 : X.K = K) (e4 : X.mg = mg) (e5 : X.base = base) (hc : X.calm = true) (hN : X.N = d.N) (hs : X.env.scope = defScope d.st) (hf : X.fn = fun _ => true) (tk : Takes X (fun c d _ H => E c d H)) (hr : Room (lev m + 2) X.A) (po : PassesOwn (model X.prog X.w) X.A X.env X.xe)
    (hl : lam = true → LamF X k (p.g (p.call m)) tb (lev m)) : XOk X k (p.g (p.call m)) (dfCs tb d lam) (lev m) E := by
  have gk : Gk P w K mg base k (p.g (p.call m)) tb (lev m) :=
    ⟨T.kK, T.kW, T.nmE, T.nd, T.blt, fun f x hx => (by
      obtain ⟨fa, z1, z2⟩ := T.fnm f x hx
      obtain ⟨y1, y2⟩ := fnk z1
      exact ⟨fa, z2, y2, y1⟩), T.glb, T.cls, T.clsF, fun c C m x _ _ => T.fld c C m x, T.inst, fun c m f hm => (by
      obtain ⟨C, x, fa, z1, z2, z3, z4⟩ := T.mth c m f hm
      exact ⟨C, x, fa, z1, z2, z3, (fnk z4).1⟩), fun c f hm => (by
      obtain ⟨C, fa, z1, z2, z3⟩ := T.ini c f hm
      exact ⟨C, fa, z1, z2, (fnk z3).1⟩), fun c f hm => (by
      obtain ⟨C, fa, z1, z2, z3, z4⟩ := T.tru c f hm
      exact ⟨C, fa, z1, z2, z3, (fnk z4).1⟩)⟩
  subst e1
  subst e2
  subst e3
  subst e4
  subst e5
  refine ⟨gk, fun c f hm => ?_, ⟨T.mthN, T.iniS⟩, fun cc x hx => ?_, hc, by rw [hN]; exact hnd, hN, hs, fun x _ => by rw [hf], tk, hr, po, hl⟩
  · obtain ⟨C, fa, z1, z2, z3, z4, z5, z6⟩ := T.eqm c f hm
    exact ⟨C, z1, ⟨fa, z3, z4, (fnk z2).1⟩, z5, z6⟩
  · obtain ⟨C, fI, fs, ns, q, st, ps, fd, z1, z2, z3, z4, z5, z6, z7, z8, z9, z10, z11⟩ := T.exn cc x hx
    have hk := z10
    unfold excOk at hk
    simp only [Bool.and_eq_true, decide_eq_true_eq] at hk
    exact ⟨C, fI, fs, ns, z1, z2, z3, z4, by rw [paired_len z4]; exact hk.1.2, z5, z6, z7, fd, ps, (exc_sound z10 z8 z5 z11).mono (by unfold lev; omega), z9⟩
theorem dfB_nd {tb : Tb} {d : Df} {lam : Bool} {fn : Fn} (h : dfB tb d lam fn = true) : d.N.Nodup := by
  unfold dfB at h
  simp only [Bool.and_eq_true] at h
  exact (scB_ok h.1.1.1).nd
theorem all_ok (T : Top w K mg k tb p dfs fas) : ∀ (m f : Nat) (d : Df), dfs[f]? = some d → ∃ fa fd, fas[f]? = some fa ∧ FnOk P w K mg base (L2.CX P w) (lev m) fa fd d.ps (spOf k (p.g (p.call m)) f) ∧ Binds K fd d.ps [] ∧ PySem.W.keepIn K (.ref fa) = true
  | 0, f, d, h => by
    obtain ⟨fa, fd, h1, h2, h3⟩ := T.funs f d h
    have no : ∀ {vs H Q E}, spOf k (p.g (p.call 0)) f vs H Q E → False := fun {vs H Q E} ⟨F, ss, K1, q⟩ => q
    exact ⟨fa, fd, h1, ⟨fun vs H Q E z => (no z).elim, fun _ _ _ _ _ _ _ _ _ _ _ _ _ z => (no z).elim⟩, h3, h2.kp⟩
  | m + 1, f, d, h => by
    obtain ⟨fa, fd, h1, h2, h3⟩ := T.funs f d h
    obtain ⟨fn, h4, h5⟩ := T.chk f d h
    have fnk : ∀ {f : Nat} {fa : Addr}, fas[f]? = some fa → FnK P w K mg base k (p.g (p.call m)) (lev m) f fa ∧ PySem.W.keepIn K (.ref fa) = true := fun {f fa} hfa => by
      obtain ⟨d, hd⟩ := at_lt (bs := dfs) hfa T.flen
      obtain ⟨fa', fd, z1, z2, z3, z4⟩ := all_ok T m f d hd
      rw [hfa] at z1
      cases z1
      exact ⟨⟨fd, d.ps, z2, z3⟩, z4⟩
    refine ⟨fa, fd, h1, ?_, h3, h2.kp⟩
    have := fn_sound (P := P) (w := w) (base := base) (k := k) (m := m) (lv := lev m) (r := lev m + 2) h4 h5 h2 fun X E e1 e2 e3 e4 e5 hc hN hs hf tk hr po _ _ => xok_of T fnk (dfB_nd h5) e1 e2 e3 e4 e5 hc hN hs hf tk hr po fun z => nomatch z
    exact this
/-- the law's own def -/
theorem law_ok (T : Top w K mg k tb p dfs fas) {m f : Nat} {d : Df} {lam : Bool} {fn : Fn} {fa : Addr} {fd : FuncData} (hfn : p.fns[f]? = some fn) (hd : dfB tb d lam fn = true) (Fu : Fun K d.x d.q d.st fa fd)
    (hl : lam = true → (∃ cc Pt, LamX.TabB base mg cc Pt ∧ fd.code = .ref cc ∧ k.T = [(Pt, (d.q ++ (".<locals>." : Str)) ++ "<lambda>")]) ∧ (∀ (f : Nat) (x : Str), tb.flts[f]? = some x → FltK K mg tb (p.g (p.call m)) f x) ∧ ExF K mg k tb) :
    FnOk P w K mg base (L2.CX P w) (lev m + 5) fa fd d.ps (spOf k (p.g (p.call (m + 1))) f) := by
  have fnk : ∀ {f : Nat} {fa : Addr}, fas[f]? = some fa → FnK P w K mg base k (p.g (p.call m)) (lev m) f fa ∧ PySem.W.keepIn K (.ref fa) = true := fun {f fa} hfa => by
    obtain ⟨d, hd⟩ := at_lt (bs := dfs) hfa T.flen
    obtain ⟨fa', fd, z1, z2, z3, z4⟩ := all_ok (P := P) (w := w) (base := base) T m f d hd
    rw [hfa] at z1
    cases z1
    exact ⟨⟨fd, d.ps, z2, z3⟩, z4⟩
  refine fn_sound (lv := lev m) (r := lev m + 4) hfn hd Fu fun X E e1 e2 e3 e4 e5 hc hN hs hf tk hr po ecode equal => xok_of T fnk (dfB_nd hd) e1 e2 e3 e4 e5 hc hN hs hf tk (hr.mono (by omega)) po fun z => ?_
  obtain ⟨⟨cc, Pt, h1, h2, h3⟩, h4, h5⟩ := hl z
  refine ⟨⟨cc, Pt, by rw [e4, e5]; exact h1, by rw [ecode]; exact h2, by rw [h3, equal]; exact List.mem_singleton.mpr rfl, fun q hq _ => by rw [h3] at hq; rw [List.mem_singleton.mp hq, equal]⟩, hr, fun f x hx => by rw [e3, e4]; exact h4 f x hx, by rw [e3, e4]; exact h5⟩
end
/-! ### the law -/
theorem lev_room {m : Nat} (h : m ≤ 70) : Room (lev m + 5) callerA := by
  have : lev m + 5 ≤ lev 70 + 5 := by unfold lev; omega
  exact Room.mono ⟨rfl, by decide, by decide⟩ this
/-- all that a law's head is to bring -/
structure LawTop (w : World) (K : PySem.W.Frag) (mg : Str → Option Value) (tb : Tb) (p : Pr) (dfs : List Df) (d : Df) (f m : Nat) (fa : Addr) (h : Heap) : Prop where
  ex : ∃ k fas fd lam fn, Top w K mg k tb p dfs fas ∧ p.fns[f]? = some fn ∧ dfB tb d lam fn = true ∧ Fun K d.x d.q d.st fa fd ∧ (∀ (s : Shared) (u : Value), BindsTo s fd ⟨[u], []⟩ [("script", u)]) ∧
    ((lam = false ∧ k.T = []) ∨ ∃ cc Pt, h.get? Pt = some { cls := .none, data := .fields #[] } ∧ K.lookup Pt = none ∧ PySem.W.CodeHd h cc Pt ∧ fd.code = .ref cc ∧ k.T = [(Pt, (d.q ++ (".<locals>." : Str)) ++ "<lambda>")] ∧
      (∀ (f : Nat) (x : Str), tb.flts[f]? = some x → FltK K mg tb (p.g (p.call m)) f x) ∧ ExF K mg k tb)
theorem law_walk {l : PySem.W.OpenLaw} {n m f : Nat} {q : Program} {loose : List Str} {XP : (Str → Option Value) → Heap → Prop} {YP : World → Heap → Prop} {d : DefRec} {K : Params → PySem.W.Frag} {p : Pr} {tb : Tb} {dfs : List Df} {dl : Df} (hn : l.most = some n) (hn2 : n ≤ sizeLine) (hdf : d.params.defaults = []) (hm : m ≤ 70)
    (hrec : ((recsOf q).any fun e => e.name == d.name) = true) (hY : ∀ (w : World) (h : Heap), YP w h → (K w.params).In h) (hps : dl.ps = (["script"] : List Str))
    (F : ∀ (w : World) (mg : Str → Option Value) (fa : Addr) (h : Heap), YP w h → (K w.params).In h → h.Ns mainGlobals mg → mg d.name = some (.ref fa) → LamX.OwnTab (K w.params) fa h → LawTop w (K w.params) mg tb p dfs dl f m fa h)
    (law : ∀ ns : List Int, ns.length ≤ n → (∀ z ∈ ns, Builtin.Int.intBits z ≤ 1048576) → ∃ os, p.call (m + 1) f [.frz (.scr ns)] = .ok (.frz (.bl true), os)) :
    PySem.W.WalkO q loose XP YP l.row.toRowW d [] (fun f vs => PySem.call f vs) := by
  refine LamX.walk_ofOwn (n := n) (k := lev m + 5) (x := "script") (CX := fun w => L2.CX l.prog w) hn hn2 hdf (lev_room hm) hrec hY (fun w mg fa h Y KX G hmg own => ?_) fun w H s e s' z => ?_
  · obtain ⟨k, fas, fd, lam, fn, T, hfn, hd, Fu, hb, hl⟩ := (F w mg fa h Y KX G hmg own).ex
    -- the run of the law, from a heap with the script and the tables
    have go : ∀ (H : Hp) (a : Addr) (ns : List Int), ns.length ≤ n → (∀ z ∈ ns, Builtin.Int.intBits z ≤ 1048576) → LamX.Tabs k.T H → SqL (K w.params) H a (ns.map V.int) → spOf k (p.g (p.call (m + 1))) f [.ref a] H (fun v _ => v = .bl true) fun _ _ _ => False := by
      intro H a ns hlen hbits ht hS
      obtain ⟨os, ho⟩ := law ns hlen hbits
      have hF : ∃ F : Hp, Sub F H ∧ SqL k.K F a (ns.map V.int) ∧ ∀ b o, F b = some o → NT o := by
        rw [← T.kK]
        have one : ∀ o, H a = some o → NT o → ∃ F : Hp, Sub F H ∧ F a = some o ∧ ∀ b o, F b = some o → NT o := fun o ho nt => by
          refine ⟨fun b => if b = a then some o else none, fun b u q => ?_, if_pos rfl, fun b u q => ?_⟩
          · by_cases hb : b = a
            · subst hb
              have q : (if b = b then some o else none) = some u := q
              rw [if_pos rfl] at q
              cases q
              exact ho
            · have q : (if b = a then some o else none) = some u := q
              rw [if_neg hb] at q
              cases q
          · by_cases hb : b = a
            · have q : (if b = a then some o else none) = some u := q
              rw [if_pos hb] at q
              cases q
              exact nt
            · have q : (if b = a then some o else none) = some u := q
              rw [if_neg hb] at q
              cases q
        rcases hS with (hS | ⟨o, hS⟩) | hS
        · obtain ⟨F, h1, h2, h3⟩ := one _ hS fun ps z => nomatch z
          exact ⟨F, h1, .inl (.inl h2), h3⟩
        · obtain ⟨F, h1, h2, h3⟩ := one _ hS fun ps z => nomatch z
          exact ⟨F, h1, .inl (.inr ⟨o, h2⟩), h3⟩
        · exact ⟨fun _ => none, fun b u q => (by cases q), .inr hS, fun b u q => (by cases q)⟩
      obtain ⟨F, f1, f2, f3⟩ := hF
      refine ⟨F, [.frz (.scr ns)], ⟨f1, rfl, fun i s hs => ?_, fun i j b d1 d2 h1 h2 => ?_, ht, f3⟩, ?_⟩
      · cases i with
        | zero =>
          simp at hs
          subst hs
          exact ⟨.ref a, rfl, .scr f2⟩
        | succ i => simp at hs
      · cases i with
        | zero => simp at h1
        | succ i => simp at h1
      · show Post k (fun _ _ _ => False) F H _ _ (p.call (m + 1) f [.frz (.scr ns)]) _
        rw [ho]
        intro F' H' K2 f2 v rv
        cases rv
        rfl
    rcases hl with ⟨hl, hT⟩ | ⟨cc, Pt, g1, g2, g3, g4, g5, g6, g7⟩
    · refine ⟨fd, [], spOf k (p.g (p.call (m + 1))) f, fun p hp => by simp at hp, fun p hp => by simp at hp, fun p hp => by simp at hp, hb, fun H a ns hlen hbits _ hS => go H a ns hlen hbits (by rw [hT]; exact fun p hp => by simp at hp) hS, fun base _ _ _ => ?_⟩
      rw [← hps]
      exact law_ok T hfn hd Fu fun z => by rw [hl] at z; cases z
    · refine ⟨fd, [(cc, Pt)], spOf k (p.g (p.call (m + 1))) f, fun p hp => ?_, fun p hp => ?_, fun p hp => ?_, hb, fun H a ns hlen hbits htb hS => go H a ns hlen hbits ?_ hS, fun base _ _ hTB => ?_⟩
      · rw [List.mem_singleton.mp hp]; exact g1
      · rw [List.mem_singleton.mp hp]; exact g2
      · rw [List.mem_singleton.mp hp]; exact g3
      · rw [g5]
        intro q hq
        rw [List.mem_singleton.mp hq]
        exact LamX.TabS.nil (htb _ (List.mem_singleton.mpr rfl))
      · rw [← hps]
        exact law_ok T hfn hd Fu fun _ => ⟨⟨cc, Pt, hTB _ (List.mem_singleton.mpr rfl), g4, g5⟩, g6, g7⟩
  · obtain ⟨_, _, _, _, _, _, _, _, _, _, _, _, z⟩ := z
    exact z
end Rx

set_option Elab.async false
set_option linter.all false
set_option maxRecDepth 100000
/-! RxH: the head: all facts of the top by one Bool. -/
namespace Rx
open PySem PySem.Spec PyProof.Rows L2
structure XcD where
  x : Str
  ns : List Str
  fs : List Nat
  d : Df
structure FlD where
  d : Df
  a : Str
  n : Str
  fd : FltD
structure Tx where
  tb : Tb
  dfs : List (Df × He.Defn)
  mth : List ((Nat × Nat) × Nat)
  ini : List (Nat × Nat)
  tru : List (Nat × Nat)
  eqm : List (Nat × Nat)
  glb : List (Str × Cn)
  exs : List XcD
  flts : List FlD
structure Tx.Of (T : Tx) (p : Pr) : Prop where
  mth : p.mth = fun c m => T.mth.lookup (c, m)
  ini : p.ini = fun c => T.ini.lookup c
  tru : p.tru = fun c => T.tru.lookup c
  eqm : p.eqm = fun c => T.eqm.lookup c
  glb : p.glb = fun j => (T.glb[j]?).map fun q => q.2.d
  exf : p.exf = fun c => (T.exs[c]?).map (·.fs)
  flt : p.flt = fun f => (T.flts[f]?).map (·.fd)
def bltL : List Str := ["len", "int", "abs", "min", "max", "sum", "all", "any", "tuple", "list", "divmod", "isinstance", "bool", "str", "range", "enumerate", "zip"]
def Tx.cm (T : Tx) (K : PySem.W.Frag) (c : Nat) : Option Addr := (T.tb.cls[c]?).map (He.ga K)
def Tx.k (T : Tx) (w : World) (K : PySem.W.Frag) (ts : List (Addr × Str)) : Kx := ⟨K, T.cm K, fun c => (T.tb.exs[c]?).map (He.ga K), T.tb.nm, ts, w⟩
/-! ### what is checked of the texts alone -/
def atB (T : Tx) (f : Nat) (x : Option Str) (m : Option Str) : Bool := match (T.dfs[f]?).map (·.2), x with
  | some q, some x => decide (q = (x, m))
  | _, _ => false
theorem atB_ok {T : Tx} {f : Nat} {x m : Option Str} (h : atB T f x m = true) : ∃ d y, x = some y ∧ T.dfs[f]? = some (d, (y, m)) := by
  unfold atB at h
  split at h
  · rename_i q y e1
    obtain ⟨⟨d, r⟩, hz, e2⟩ := Option.map_eq_some_iff.mp e1
    have := of_decide_eq_true h
    have e3 : r = (y, m) := e2.trans this
    exact ⟨d, y, rfl, by rw [hz, e3]⟩
  · cases h
def fnsB (T : Tx) : Bool := (List.range T.tb.fns.length).all fun f => atB T f (T.tb.fns[f]?) none
def mthB (T : Tx) : Bool := T.mth.all fun q => atB T q.2 (T.tb.cls[q.1.1]?) (T.tb.nm[q.1.2]?) && (T.tb.nm[q.1.2]?).isSome && T.tb.mths.contains q.1.2
def oneB (T : Tx) (l : List (Nat × Nat)) (m : Str) : Bool := l.all fun q => atB T q.2 (T.tb.cls[q.1]?) (some m)
def paired (nm : List Str) : List Nat → List Str → Bool
  | [], [] => true
  | n :: ns, x :: xs => decide (nm[n]? = some x) && paired nm ns xs
  | _, _ => false
theorem paired_ok {nm : List Str} : ∀ {fs : List Nat} {ns : List Str}, paired nm fs ns = true → Paired (fun (m : Nat) (y : Str) => nm[m]? = some y) fs ns
  | [], [], _ => .nil
  | [], _ :: _, h => by cases h
  | _ :: _, [], h => by cases h
  | n :: fs, x :: ns, h => by
    have h : (decide (nm[n]? = some x) && paired nm fs ns) = true := h
    rw [Bool.and_eq_true] at h
    exact .cons (of_decide_eq_true h.1) (paired_ok h.2)
def excsB (T : Tx) : Bool := T.exs.all fun e => paired T.tb.nm e.fs e.ns && (excOk T.tb e.ns e.d.ps e.d.st && decide (e.d.x = "__init__"))
def fltsB (T : Tx) : Bool := T.flts.all fun f => scB [f.a, f.n] [f.a] (defScope f.d.st) && fltB T.tb (defScope f.d.st) f.a f.n f.fd (defBody f.d.st) && decide (f.d.ps = [f.a] ∧ f.d.q = f.d.x)
def chkB (tb : Tb) : List (Df × He.Defn) → List Fn → Bool
  | [], _ => true
  | d :: ds, f :: fs => dfB tb d.1 false f && chkB tb ds fs
  | _ :: _, [] => false
theorem chkB_ok {tb : Tb} : ∀ {ds : List (Df × He.Defn)} {fs : List Fn}, chkB tb ds fs = true → ∀ (f : Nat) (d : Df × He.Defn), ds[f]? = some d → ∃ fn, fs[f]? = some fn ∧ dfB tb d.1 false fn = true
  | [], fs, _, f, d, e => by simp at e
  | d0 :: ds, [], h, f, d, e => by cases h
  | d0 :: ds, f0 :: fs, h, f, d, e => by
    have h : (dfB tb d0.1 false f0 && chkB tb ds fs) = true := h
    rw [Bool.and_eq_true] at h
    cases f with
    | zero =>
      simp at e
      subst e
      exact ⟨f0, rfl, h.1⟩
    | succ f =>
      obtain ⟨fn, e1, e2⟩ := chkB_ok h.2 f d (by simpa using e)
      exact ⟨fn, by simpa using e1, e2⟩
structure Tx.OkS (T : Tx) (p : Pr) : Prop where
  nd : T.tb.nm.Nodup
  gE : T.tb.glb = T.glb.map (·.1)
  xE : T.tb.exs = T.exs.map (·.x)
  fE : T.tb.flts = T.flts.map (·.d.x)
  fns : fnsB T = true
  mth : mthB T = true
  ini : oneB T T.ini "__init__" = true
  tru : oneB T T.tru "__bool__" = true
  eqm : oneB T T.eqm "__eq__" = true
  inis : (T.tb.inis.all fun c => (T.ini.lookup c).isSome) = true
  excs : excsB T = true
  flts : fltsB T = true
  chk : chkB T.tb T.dfs p.fns = true
/-! ### what is checked of the top -/
def cnVal : Cn → Value → Bool
  | .non, .none => true
  | .bl b, .bool c => decide (b = c)
  | .int i, .int j _ => decide (i = j)
  | .str x, .str y _ => decide (x = y)
  | _, _ => false
theorem cnVal_ok {c : Cn} {u : Value} (h : cnVal c u = true) : ∃ v, RelV v u ∧ ∀ (k : Kx) (F : Hp), Rep k F v c.d := by
  unfold cnVal at h
  split at h
  · exact ⟨.non, rfl, fun _ _ => .non⟩
  · rename_i b c
    have := of_decide_eq_true h
    subst this
    exact ⟨.bl b, rfl, fun _ _ => .bl b⟩
  · rename_i i j t
    have := of_decide_eq_true h
    subst this
    exact ⟨.int i, ⟨t, rfl⟩, fun _ _ => .int i⟩
  · rename_i x y t
    have := of_decide_eq_true h
    subst this
    exact ⟨.str x, ⟨t, rfl⟩, fun _ _ => .str x⟩
  · cases h
def gloB (K : PySem.W.Frag) (x : Str) : Bool := He.eqO (PySem.W.nsIn K mainGlobals x) (some (some (.ref (He.ga K x))))
def freeB (K : PySem.W.Frag) (x : Str) : Bool := He.eqO (PySem.W.nsIn K mainGlobals x) (some none)
def noB (K : PySem.W.Frag) (C : Addr) (f : Str) : Bool := He.eqO (PySem.W.findIn K (.ref C) f) (some none)
def glbVB (K : PySem.W.Frag) (q : Str × Cn) : Bool := match PySem.W.nsIn K mainGlobals q.1 with
  | some (some u) => cnVal q.2 u
  | _ => false
def ehB (a b : Option (Option Value)) : Bool := decide (a = b)
def clsFB (K : PySem.W.Frag) (C : Addr) : Bool := PySem.W.plainGet K C Str.empty && (PySem.W.hasDictIn K C && (PySem.W.plainOver K C && (He.eqO (PySem.W.findIn K (.ref C) "__setattr__") (some (some (.builtin "object.__setattr__"))) &&
  (He.eqO (PySem.W.findIn K (.ref C) "__class__") (some (some (.builtin "object.__class__"))) && (He.eqO (PySem.W.specialIn K (.builtin "object.__class__") "__get__") (some (some (.builtin "getset_descriptor.__get__"))) &&
  (decide (PySem.W.takesIn K (.builtin "object.__class__") = some true) && decide (PySem.W.mroIn K C (.type "object") = some true)))))))
theorem clsFB_ok {K : PySem.W.Frag} {C : Addr} (h : clsFB K C = true) : ClsF K C := by
  unfold clsFB at h
  obtain ⟨h1, h⟩ := Bool.and_eq_true_iff.mp h
  obtain ⟨h2, h⟩ := Bool.and_eq_true_iff.mp h
  obtain ⟨h3, h⟩ := Bool.and_eq_true_iff.mp h
  obtain ⟨h4, h⟩ := Bool.and_eq_true_iff.mp h
  obtain ⟨h5, h⟩ := Bool.and_eq_true_iff.mp h
  obtain ⟨h6, h⟩ := Bool.and_eq_true_iff.mp h
  obtain ⟨h7, h8⟩ := Bool.and_eq_true_iff.mp h
  exact ⟨⟨h1, h2, h3, He.eqO_ok h4⟩, He.eqO_ok h5, He.eqO_ok h6, of_decide_eq_true h7, of_decide_eq_true h8⟩
def fldB (T : Tx) (K : PySem.W.Frag) : Bool := (List.range T.tb.cls.length).all fun c => (List.range T.tb.nm.length).all fun m => (T.mth.lookup (c, m)).isSome || (match T.tb.cls[c]?, T.tb.nm[m]? with
  | some x, some f => noB K (He.ga K x) f
  | _, _ => false)
def repD (T : Tx) : List D := [.non, .bl true, .int 0, .str "", .tup [], .lst [], .scr [], .dic []] ++ (List.range T.tb.cls.length).map fun c => .ins c []
def instB (T : Tx) (K : PySem.W.Frag) : Bool := T.tb.tys.all fun t => (repD T).all fun d => match tyOfC (T.cm K) d, tyValC (T.cm K) t with
  | some a, some b => decide (PySem.W.kitOne K a b = some (t.has d))
  | _, _ => true
def methB (K : PySem.W.Frag) (x m : Str) : Bool := He.eqO (PySem.W.findIn K (.ref (He.ga K x)) m) (some (some (.ref (He.ma K (He.ga K x) m)))) && (PySem.W.isFn K (.ref (He.ma K (He.ga K x) m)) && PySem.W.keepIn K (.ref (He.ma K (He.ga K x) m)))
theorem methB_ok {K : PySem.W.Frag} {x m : Str} (h : methB K x m = true) : Meth K (He.ga K x) m (He.ma K (He.ga K x) m) := He.meth_ok h
def mthsB (T : Tx) (K : PySem.W.Frag) : Bool := T.mth.all fun q => match T.tb.cls[q.1.1]?, T.tb.nm[q.1.2]? with
  | some x, some m => methB K x m
  | _, _ => false
def inisB (T : Tx) (K : PySem.W.Frag) : Bool := T.ini.all fun q => match T.tb.cls[q.1]? with
  | some x => methB K x "__init__" && (PySem.W.makesIn K (He.ga K x) && PySem.W.keepIn K (.ref (He.ga K x)))
  | none => false
def trusB (T : Tx) (K : PySem.W.Frag) : Bool := T.tru.all fun q => match T.tb.cls[q.1]? with
  | some x => methB K x "__bool__"
  | none => false
def eqmsB (T : Tx) (K : PySem.W.Frag) : Bool := T.eqm.all fun q => match T.tb.cls[q.1]? with
  | some x => methB K x "__eq__" && (He.eqO (PySem.W.findIn K (.ref (He.ga K x)) "__ne__") (some (some (.builtin "object.__ne__"))) && T.tb.cls.all fun y => PySem.W.notFirst K (He.ga K x) (.ref (He.ga K y)))
  | none => false
def xcB (K : PySem.W.Frag) (C : Addr) : Bool := match K.lookup C with
  | some ⟨.type t, _, .cls cd, sl⟩ => decide (t = "type") && (match cd.mro, sl.toList with
    | .ref C' :: bm, [_, _, _, _, some (.builtin n), _] => decide (C' = C) && (decide (n = "ValueError.__new__") && (cd.hasDict && (!cd.hasDel && PySem.HandSPX.refsVE bm)))
    | _, _ => false)
  | _ => false
theorem xcB_ok {K : PySem.W.Frag} {C : Addr} (h : xcB K C = true) : ∃ nm q N bs bm sn sub ab col dd k0 k1 k2 k3 k5, K.lookup C = some (excClassObj nm q C N bs bm true sn sub ab col dd k0 k1 k2 k3 k5 "ValueError.__new__") ∧ PySem.HandSPX.refsVE bm = true := by
  unfold xcB at h
  split at h
  · rename_i t dd cd sl ho
    obtain ⟨h0, h⟩ := Bool.and_eq_true_iff.mp h
    have h0 := of_decide_eq_true h0
    subst h0
    split at h
    · rename_i C' bm k0 k1 k2 k3 n k5 hm hs
      simp only [Bool.and_eq_true, decide_eq_true_eq, Bool.not_eq_true'] at h
      obtain ⟨_, rfl, rfl, hd, hdel, hv⟩ := h
      obtain ⟨nm, bs, mro, ns, qn, hdct, sn, sub, ab, col, del⟩ := cd
      dsimp only at hm hd hdel
      subst hm hd hdel
      have hsl : sl = #[k0, k1, k2, k3, some (.builtin "ValueError.__new__"), k5] := by
        obtain ⟨l⟩ := sl
        simp only at hs
        rw [hs]
      subst hsl
      exact ⟨nm, qn, ns, bs, bm, sn, sub, ab, col, dd, k0, k1, k2, k3, k5, ho, hv⟩
    · cases h
  · cases h
def excB1 (T : Tx) (K : PySem.W.Frag) (e : XcD) : Bool := xcB K (He.ga K e.x) && (He.eqO (PySem.W.findIn K (.ref (He.ga K e.x)) "__setattr__") (some (some (.builtin "object.__setattr__"))) && (decide (PySem.W.subIn K (.ref (He.ga K e.x)) (.type "BaseException") = some true) &&
  (decide (PySem.W.typeIn K (.ref (He.ga K e.x)) = some (.type "type")) && (PySem.W.keepIn K (.ref (He.ga K e.x)) && (He.eqO (PySem.W.findIn K (.ref (He.ga K e.x)) "__init__") (some (some (.ref (He.ma K (He.ga K e.x) "__init__")))) &&
  (decide (PySem.W.typeIn K (.ref (He.ma K (He.ga K e.x) "__init__")) = some (.type "function")) && (e.ns.all (fun n => noB K (He.ga K e.x) n) && xfB K (He.ga K e.x))))))))
def exmB (T : Tx) (K : PySem.W.Frag) : Bool := (List.range T.tb.exs.length).all fun c => (List.range T.tb.exs.length).all fun c' => match T.tb.exs[c]?, T.tb.exs[c']? with
  | some x, some y => decide (PySem.W.exmOne K (.ref (He.ga K x)) (.ref (He.ga K y)) = some (decide (c = c')))
  | _, _ => false
def exfB (T : Tx) (K : PySem.W.Frag) : Bool := T.tb.exf.all fun q => match T.tb.exs[q.1]?, T.tb.nm[q.2]? with
  | some x, some f => noB K (He.ga K x) f
  | _, _ => true
def exB (T : Tx) (K : PySem.W.Frag) : Bool := bltL.all (freeB K) && (T.tb.fns.all (gloB K) && (T.tb.cls.all (gloB K) && (T.tb.exs.all (gloB K) && (T.tb.flts.all (gloB K) && (T.glb.all (glbVB K) && (T.tb.cls.all (fun x => clsFB K (He.ga K x)) && (fldB T K && (instB T K && (mthsB T K && (inisB T K && (trusB T K && (eqmsB T K && (T.exs.all (excB1 T K) && (exmB T K && exfB T K))))))))))))))
/-! ### defs -/
def toD (d : Df × He.Defn) : He.DefD := ⟨d.2, d.1.x, d.1.q, defArgs d.1.st, defBody d.1.st, defScope d.1.st, [], []⟩
def Tx.fn (T : Tx) (law : Df × He.Defn) : List He.DefD := (T.dfs.map toD ++ T.exs.map fun e => toD (e.d, (e.x, some "__init__"))) ++ (T.flts.map (fun f => toD (f.d, (f.d.x, none))) ++ [toD law])
def BindOk (d : Df) : Prop := ∀ (kV doc pm : Value) (an : Option Addr) (cdv ct : Value) (us : List Value), us.length = d.ps.length → bindArgs (PySem.W.fnOf d.x d.q (defArgs d.st) (defBody d.st) (defScope d.st) .none kV doc pm an cdv ct) ⟨us, []⟩ = pure (d.ps.zip us)
def AllB : List Df → Prop
  | [] => True
  | d :: r => BindOk d ∧ AllB r
theorem AllB.at {l : List Df} (h : AllB l) {d : Df} (hd : d ∈ l) : BindOk d := by
  induction l with
  | nil => cases hd
  | cons e r ih =>
    rcases List.mem_cons.mp hd with q | q
    · rw [q]; exact h.1
    · exact ih h.2 q
theorem fun_of {K : PySem.W.Frag} {d : Df × He.Defn} {fd : FuncData} (F : FunD K d.1.x d.1.q (defArgs d.1.st) (defBody d.1.st) (defScope d.1.st) [] [] (He.fAd K d.2) fd) : Fun K d.1.x d.1.q d.1.st (He.fAd K d.2) fd := by
  obtain ⟨oc, od, dV, kV, doc, pm, an, cdv, ct, osl, e, lk, hc, hd, _⟩ := F.ex
  rcases hd with ⟨_, rfl⟩ | ⟨h, _⟩
  · exact ⟨⟨oc, od, kV, doc, pm, an, cdv, ct, osl, e, lk, hc⟩, F.kp⟩
  · exact (h rfl).elim
end Rx

set_option Elab.async false
set_option linter.all false
set_option maxRecDepth 100000
/-! RxH2: Top from the Bool. -/
namespace Rx
open PySem PySem.Spec PyProof.Rows L2
structure ExF2 (T : Tx) (K : PySem.W.Frag) : Prop where
  blt : bltL.all (freeB K) = true
  fns : T.tb.fns.all (gloB K) = true
  cls : T.tb.cls.all (gloB K) = true
  exs : T.tb.exs.all (gloB K) = true
  flts : T.tb.flts.all (gloB K) = true
  glb : T.glb.all (glbVB K) = true
  clsF : T.tb.cls.all (fun x => clsFB K (He.ga K x)) = true
  fld : fldB T K = true
  inst : instB T K = true
  mths : mthsB T K = true
  inis : inisB T K = true
  trus : trusB T K = true
  eqms : eqmsB T K = true
  excs : T.exs.all (excB1 T K) = true
  exm : exmB T K = true
  exf : exfB T K = true
theorem exB_ok {T : Tx} {K : PySem.W.Frag} (h : exB T K = true) : ExF2 T K := by
  unfold exB at h
  obtain ⟨h1, h⟩ := Bool.and_eq_true_iff.mp h
  obtain ⟨h2, h⟩ := Bool.and_eq_true_iff.mp h
  obtain ⟨h3, h⟩ := Bool.and_eq_true_iff.mp h
  obtain ⟨h4, h⟩ := Bool.and_eq_true_iff.mp h
  obtain ⟨h5, h⟩ := Bool.and_eq_true_iff.mp h
  obtain ⟨h6, h⟩ := Bool.and_eq_true_iff.mp h
  obtain ⟨h7, h⟩ := Bool.and_eq_true_iff.mp h
  obtain ⟨h8, h⟩ := Bool.and_eq_true_iff.mp h
  obtain ⟨h9, h⟩ := Bool.and_eq_true_iff.mp h
  obtain ⟨h10, h⟩ := Bool.and_eq_true_iff.mp h
  obtain ⟨h11, h⟩ := Bool.and_eq_true_iff.mp h
  obtain ⟨h12, h⟩ := Bool.and_eq_true_iff.mp h
  obtain ⟨h13, h⟩ := Bool.and_eq_true_iff.mp h
  obtain ⟨h14, h⟩ := Bool.and_eq_true_iff.mp h
  obtain ⟨h15, h16⟩ := Bool.and_eq_true_iff.mp h
  exact ⟨h1, h2, h3, h4, h5, h6, h7, h8, h9, h10, h11, h12, h13, h14, h15, h16⟩
section
variable {T : Tx} {p : Pr} {K : PySem.W.Frag} {mg : Str → Option Value} {h : Heap} {ts : List (Addr × Str)}
theorem glo_at (X : K.In h) (G : h.Ns mainGlobals mg) {l : List Str} (hl : l.all (gloB K) = true) {x : Str} (hx : x ∈ l) : mg x = some (.ref (He.ga K x)) := PySem.W.mg_of X G (He.eqO_ok (List.all_eq_true.mp hl x hx))
theorem look_mem {α β : Type} [BEq α] [LawfulBEq α] {l : List (α × β)} {a : α} {b : β} (h : l.lookup a = some b) : (a, b) ∈ l := by
  induction l with
  | nil => cases h
  | cons q r ih =>
    obtain ⟨a', b'⟩ := q
    rw [List.lookup_cons] at h
    split at h
    · rename_i e
      cases h
      rw [eq_of_beq e]
      exact List.mem_cons_self
    · exact List.mem_cons_of_mem _ (ih h)
theorem dfs_at {f : Nat} {d : Df} {q : He.Defn} (h : T.dfs[f]? = some (d, q)) : (T.dfs.map fun q => He.fAd K q.2)[f]? = some (He.fAd K q) := by
  rw [List.getElem?_map, h]
  rfl
theorem cls_k {c : Nat} {C : Addr} (h : (T.k w K ts).cm c = some C) : ∃ x, T.tb.cls[c]? = some x ∧ C = He.ga K x := by
  obtain ⟨x, h1, h2⟩ := Option.map_eq_some_iff.mp h
  exact ⟨x, h1, h2.symm⟩
theorem rep_of {k : Kx} {n : Nat} (hk : ∀ c C, k.cm c = some C → c < n) (d : D) {t : Value} (ht : tyOfD k d = some t) : ∃ d0 ∈ ([.non, .bl true, .int 0, .str "", .tup [], .lst [], .scr [], .dic []] ++ (List.range n).map fun c => D.ins c [] : List D), tyOfD k d0 = some t ∧ ∀ T : Ty, T.has d = T.has d0 := by
  cases d with
  | non => exact ⟨.non, by simp, ht, fun T => by cases T <;> rfl⟩
  | bl b => exact ⟨.bl true, by simp, ht, fun T => by cases T <;> rfl⟩
  | int i => exact ⟨.int 0, by simp, ht, fun T => by cases T <;> rfl⟩
  | str x => exact ⟨.str "", by simp, ht, fun T => by cases T <;> rfl⟩
  | tup xs => exact ⟨.tup [], by simp, ht, fun T => by cases T <;> rfl⟩
  | lst xs => exact ⟨.lst [], by simp, ht, fun T => by cases T <;> rfl⟩
  | scr ns => exact ⟨.scr [], by simp, ht, fun T => by cases T <;> rfl⟩
  | dic ks => exact ⟨.dic [], by simp, ht, fun T => by cases T <;> rfl⟩
  | dit ks => exact ⟨.dic [], by simp, ht, fun T => by cases T <;> rfl⟩
  | ins c fs =>
    obtain ⟨C, h1, h2⟩ := Option.map_eq_some_iff.mp (show (k.cm c).map Value.ref = some t from ht)
    refine ⟨.ins c [], ?_, ht, fun T => by cases T <;> rfl⟩
    simp
    exact hk c C h1
/-- all that the rest wants of the defs -/
structure DefsOk (T : Tx) (K : PySem.W.Frag) (law : Df × He.Defn) : Prop where
  all : ∀ d ∈ T.fn law, ∃ fd, FunD K d.name d.qual d.params d.body d.scope (d.dvs K) (d.kws K) (He.fAd K d.at_) fd
  bnd : AllB (T.dfs.map (·.1) ++ (T.exs.map (·.d) ++ (T.flts.map (·.d) ++ [law.1])))
theorem DefsOk.fun_ {law : Df × He.Defn} (D : DefsOk T K law) {d : Df × He.Defn} (h : toD d ∈ T.fn law) : ∃ fd, Fun K d.1.x d.1.q d.1.st (He.fAd K d.2) fd := by
  obtain ⟨fd, F⟩ := D.all _ h
  exact ⟨fd, fun_of F⟩
theorem bnd_of {d : Df} {f : Addr} {fd : FuncData} (B : BindOk d) (F : Fun K d.x d.q d.st f fd) : Binds K fd d.ps [] := F.binds B
theorem bndTo_of {d : Df} {f : Addr} {fd : FuncData} (B : BindOk d) (F : Fun K d.x d.q d.st f fd) (hps : d.ps = (["script"] : List Str)) (s : Shared) (u : Value) : BindsTo s fd ⟨[u], []⟩ [("script", u)] := by
  obtain ⟨oc, od, kV, doc, pm, an, cdv, ct, osl, rfl, lk, hcd⟩ := F.ex
  have := B kV doc pm an cdv ct [u] (by rw [hps]; rfl)
  rw [hps] at this
  exact BindsTo.of_eq this
theorem top_of {law : Df × He.Defn} (O : T.Of p) (S : T.OkS p) (X : K.In h) (G : h.Ns mainGlobals mg) (ex : ExF2 T K) (D : DefsOk T K law) : Top w K mg (T.k w K ts) T.tb p (T.dfs.map (·.1)) (T.dfs.map fun q => He.fAd K q.2) := by
  have glo := fun {l : List Str} (hl : l.all (gloB K) = true) {x : Str} (hx : x ∈ l) => glo_at X G hl hx
  refine ⟨rfl, rfl, rfl, S.nd, fun x hx => ?_, fun f d hd => ?_, fun f d hd => ?_, by simp, fun f x hx => ?_, fun j x d hx hd => ?_, fun c x hx => ?_, fun c C hC => ?_, fun c C m x hC hx hm => ?_, fun t ht d a b hd hb => ?_, fun c m f hm => ?_, fun c f hf => ?_, fun c f hf => ?_, fun c f hf => ?_, fun c m hm => ?_, fun c hc => ?_, fun cc x hx => ?_⟩
  · exact PySem.W.mg_none_of X G (He.eqO_ok (List.all_eq_true.mp ex.blt x hx))
  · rw [List.getElem?_map] at hd
    obtain ⟨q, hq, rfl⟩ := Option.map_eq_some_iff.mp hd
    obtain ⟨fd, F⟩ := D.fun_ (d := q) (List.mem_append_left _ (List.mem_append_left _ (List.mem_map.mpr ⟨q, List.mem_of_getElem? hq, rfl⟩)))
    exact ⟨_, fd, dfs_at (q := q.2) (d := q.1) hq, F, bnd_of (D.bnd.at (List.mem_append_left _ (List.mem_map.mpr ⟨q, List.mem_of_getElem? hq, rfl⟩))) F⟩
  · rw [List.getElem?_map] at hd
    obtain ⟨q, hq, rfl⟩ := Option.map_eq_some_iff.mp hd
    exact chkB_ok S.chk f q hq
  · have hf : f < T.tb.fns.length := (List.getElem?_eq_some_iff.mp hx).1
    obtain ⟨d, y, e1, e2⟩ := atB_ok (List.all_eq_true.mp S.fns f (List.mem_range.mpr hf))
    rw [hx] at e1
    cases e1
    exact ⟨_, dfs_at e2, glo ex.fns (List.mem_of_getElem? hx)⟩
  · rw [O.glb] at hd
    obtain ⟨q, hq, rfl⟩ := Option.map_eq_some_iff.mp hd
    rw [S.gE, List.getElem?_map, hq] at hx
    cases hx
    have := List.all_eq_true.mp ex.glb q (List.mem_of_getElem? hq)
    unfold glbVB at this
    split at this
    · rename_i u hu
      obtain ⟨v, h1, h2⟩ := cnVal_ok this
      exact ⟨v, u, PySem.W.mg_of X G hu, h1, h2 _ _⟩
    · cases this
  · exact ⟨_, by show (T.tb.cls[c]?).map _ = _; rw [hx]; rfl, glo ex.cls (List.mem_of_getElem? hx)⟩
  · obtain ⟨x, hx, rfl⟩ := cls_k hC
    exact clsFB_ok (List.all_eq_true.mp ex.clsF x (List.mem_of_getElem? hx))
  · obtain ⟨y, hy, rfl⟩ := cls_k hC
    rw [O.mth] at hm
    have hc := (List.getElem?_eq_some_iff.mp hy).1
    have hmm := (List.getElem?_eq_some_iff.mp hx).1
    have := List.all_eq_true.mp (List.all_eq_true.mp ex.fld c (List.mem_range.mpr hc)) m (List.mem_range.mpr hmm)
    have hm : T.mth.lookup (c, m) = none := hm
    rw [hm, hy, hx] at this
    exact He.eqO_ok this
  · obtain ⟨d0, m0, e0, hh⟩ := rep_of (k := T.k w K ts) (n := T.tb.cls.length) (fun c C hC => by
      obtain ⟨x, hx, _⟩ := cls_k hC
      exact (List.getElem?_eq_some_iff.mp hx).1) d hd
    have := List.all_eq_true.mp (List.all_eq_true.mp ex.inst t ht) d0 m0
    rw [hh t]
    have q1 : tyOfC (T.cm K) d0 = some a := e0
    have q2 : tyValC (T.cm K) t = some b := hb
    rw [q1, q2] at this
    exact of_decide_eq_true this
  · rw [O.mth] at hm
    have hm2 := look_mem (show T.mth.lookup (c, m) = some f from hm)
    have s := List.all_eq_true.mp S.mth _ hm2
    rw [Bool.and_eq_true, Bool.and_eq_true] at s
    obtain ⟨x, hx⟩ := Option.isSome_iff_exists.mp s.1.2
    have s1 := s.1.1
    rw [hx] at s1
    obtain ⟨d, y, e1, e2⟩ := atB_ok s1
    have e1 : T.tb.cls[c]? = some y := e1
    have e3 := List.all_eq_true.mp ex.mths _ hm2
    have hx : T.tb.nm[m]? = some x := hx
    simp only [e1, hx] at e3
    exact ⟨He.ga K y, x, He.ma K (He.ga K y) x, by show (T.tb.cls[c]?).map _ = _; rw [e1]; rfl, hx, methB_ok e3, dfs_at e2⟩
  · rw [O.ini] at hf
    have hm2 := look_mem (show T.ini.lookup c = some f from hf)
    obtain ⟨d, y, e1, e2⟩ := atB_ok (List.all_eq_true.mp S.ini _ hm2)
    have e1 : T.tb.cls[c]? = some y := e1
    have e3 := List.all_eq_true.mp ex.inis _ hm2
    simp only [e1] at e3
    rw [Bool.and_eq_true, Bool.and_eq_true] at e3
    have M := methB_ok e3.1
    exact ⟨He.ga K y, He.ma K (He.ga K y) "__init__", by show (T.tb.cls[c]?).map _ = _; rw [e1]; rfl, ⟨e3.2.1, M.at_, M.fn, e3.2.2⟩, dfs_at e2⟩
  · rw [O.tru] at hf
    have hm2 := look_mem (show T.tru.lookup c = some f from hf)
    obtain ⟨d, y, e1, e2⟩ := atB_ok (List.all_eq_true.mp S.tru _ hm2)
    have e1 : T.tb.cls[c]? = some y := e1
    have e3 := List.all_eq_true.mp ex.trus _ hm2
    simp only [e1] at e3
    have M := methB_ok e3
    exact ⟨He.ga K y, He.ma K (He.ga K y) "__bool__", by show (T.tb.cls[c]?).map _ = _; rw [e1]; rfl, M.at_, M.fn, dfs_at e2⟩
  · rw [O.eqm] at hf
    have hm2 := look_mem (show T.eqm.lookup c = some f from hf)
    obtain ⟨d, y, e1, e2⟩ := atB_ok (List.all_eq_true.mp S.eqm _ hm2)
    have e1 : T.tb.cls[c]? = some y := e1
    have e3 := List.all_eq_true.mp ex.eqms _ hm2
    simp only [e1] at e3
    rw [Bool.and_eq_true, Bool.and_eq_true] at e3
    have M := methB_ok e3.1
    refine ⟨He.ga K y, He.ma K (He.ga K y) "__eq__", by show (T.tb.cls[c]?).map _ = _; rw [e1]; rfl, dfs_at e2, M.at_, M.fn, He.eqO_ok e3.2.1, fun c' C' hC' => ?_⟩
    obtain ⟨z, hz, rfl⟩ := cls_k hC'
    exact List.all_eq_true.mp e3.2.2 z (List.mem_of_getElem? hz)
  · rw [O.mth]
    show T.mth.lookup (c, m) = none
    cases q : T.mth.lookup (c, m) with
    | none => rfl
    | some f =>
      have s := List.all_eq_true.mp S.mth _ (look_mem q)
      rw [Bool.and_eq_true] at s
      exact (hm (List.contains_iff_mem.mp s.2)).elim
  · rw [O.ini]
    exact Option.isSome_iff_exists.mp (List.all_eq_true.mp S.inis c hc)
  · have hx2 := hx
    rw [S.xE, List.getElem?_map] at hx2
    obtain ⟨e, he, rfl⟩ := Option.map_eq_some_iff.mp hx2
    have hmem := List.mem_of_getElem? he
    have s := List.all_eq_true.mp S.excs e hmem
    rw [Bool.and_eq_true] at s
    have c := List.all_eq_true.mp ex.excs e hmem
    unfold excB1 at c
    obtain ⟨c1, c⟩ := Bool.and_eq_true_iff.mp c
    obtain ⟨c2, c⟩ := Bool.and_eq_true_iff.mp c
    obtain ⟨c3, c⟩ := Bool.and_eq_true_iff.mp c
    obtain ⟨c4, c⟩ := Bool.and_eq_true_iff.mp c
    obtain ⟨c5, c⟩ := Bool.and_eq_true_iff.mp c
    obtain ⟨c6, c⟩ := Bool.and_eq_true_iff.mp c
    obtain ⟨c7, c⟩ := Bool.and_eq_true_iff.mp c
    obtain ⟨c8, c9⟩ := Bool.and_eq_true_iff.mp c
    obtain ⟨fd, F⟩ := D.fun_ (d := (e.d, (e.x, some "__init__"))) (List.mem_append_left _ (List.mem_append_right _ (List.mem_map.mpr ⟨e, hmem, rfl⟩)))
    have hx0 := of_decide_eq_true (Bool.and_eq_true_iff.mp s.2).2
    have F2 : Fun K "__init__" e.d.q e.d.st (He.ma K (He.ga K e.x) "__init__") fd := by
      have F3 : Fun K e.d.x e.d.q e.d.st (He.ma K (He.ga K e.x) "__init__") fd := F
      rw [hx0] at F3
      exact F3
    refine ⟨He.ga K e.x, He.ma K (He.ga K e.x) "__init__", e.fs, e.ns, e.d.q, e.d.st, e.d.ps, fd, by show (T.tb.exs[cc]?).map _ = _; rw [hx]; rfl, glo ex.exs (List.mem_of_getElem? hx), by rw [O.exf]; show (T.exs[cc]?).map _ = _; rw [he]; rfl, paired_ok s.1, ⟨xcB_ok c1, He.eqO_ok c2, of_decide_eq_true c3, of_decide_eq_true c4, c5⟩, He.eqO_ok c6, of_decide_eq_true c7, F2,
      bnd_of (D.bnd.at (List.mem_append_right _ (List.mem_append_left _ (List.mem_map.mpr ⟨e, hmem, rfl⟩)))) F, (Bool.and_eq_true_iff.mp s.2).1, fun n hn => He.eqO_ok (List.all_eq_true.mp c8 n hn)⟩
/-- exceptions, for except clauses -/
theorem exf_of (O : T.Of p) (S : T.OkS p) (X : K.In h) (G : h.Ns mainGlobals mg) (ex : ExF2 T K) : ExF K mg (T.k w K ts) T.tb := by
  refine ⟨fun c x hx => ?_, fun c m C x hC hm hx => ?_, fun c c' C C' hC hC' => ?_⟩
  · have hx2 := hx
    rw [S.xE, List.getElem?_map] at hx2
    obtain ⟨e, he, rfl⟩ := Option.map_eq_some_iff.mp hx2
    have c := List.all_eq_true.mp ex.excs e (List.mem_of_getElem? he)
    unfold excB1 at c
    obtain ⟨c1, c⟩ := Bool.and_eq_true_iff.mp c
    obtain ⟨c2, c⟩ := Bool.and_eq_true_iff.mp c
    obtain ⟨c3, c⟩ := Bool.and_eq_true_iff.mp c
    obtain ⟨c4, c⟩ := Bool.and_eq_true_iff.mp c
    obtain ⟨c5, c⟩ := Bool.and_eq_true_iff.mp c
    obtain ⟨c6, c⟩ := Bool.and_eq_true_iff.mp c
    obtain ⟨c7, c⟩ := Bool.and_eq_true_iff.mp c
    obtain ⟨c8, c9⟩ := Bool.and_eq_true_iff.mp c
    exact ⟨He.ga K e.x, by show (T.tb.exs[_]?).map _ = _; rw [hx]; rfl, glo_at X G ex.exs (List.mem_of_getElem? hx), xfB_ok c9⟩
  · obtain ⟨y, hy, rfl⟩ := Option.map_eq_some_iff.mp hC
    have c0 := List.all_eq_true.mp ex.exf _ hm
    have hy : T.tb.exs[c]? = some y := hy
    simp only [hy, hx] at c0
    exact He.eqO_ok c0
  · obtain ⟨y, hy, rfl⟩ := Option.map_eq_some_iff.mp hC
    obtain ⟨z, hz, rfl⟩ := Option.map_eq_some_iff.mp hC'
    have hy : T.tb.exs[c]? = some y := hy
    have hz : T.tb.exs[c']? = some z := hz
    have c1 := (List.getElem?_eq_some_iff.mp hy).1
    have c2 := (List.getElem?_eq_some_iff.mp hz).1
    have c0 := List.all_eq_true.mp (List.all_eq_true.mp ex.exm c (List.mem_range.mpr c1)) c' (List.mem_range.mpr c2)
    simp only [hy, hz] at c0
    exact of_decide_eq_true c0
theorem flt_of {law : Df × He.Defn} (O : T.Of p) (S : T.OkS p) (X : K.In h) (G : h.Ns mainGlobals mg) (ex : ExF2 T K) (D : DefsOk T K law) {m : Nat} (f : Nat) (x : Str) (hx : T.tb.flts[f]? = some x) : FltK K mg T.tb (p.g (p.call m)) f x := by
  have hx2 := hx
  rw [S.fE, List.getElem?_map] at hx2
  obtain ⟨e, he, rfl⟩ := Option.map_eq_some_iff.mp hx2
  have hmem := List.mem_of_getElem? he
  have s := List.all_eq_true.mp S.flts e hmem
  rw [Bool.and_eq_true, Bool.and_eq_true] at s
  obtain ⟨fd, F⟩ := D.fun_ (d := (e.d, (e.d.x, none))) (List.mem_append_right _ (List.mem_append_left _ (List.mem_map.mpr ⟨e, hmem, rfl⟩)))
  have B := bnd_of (D.bnd.at (List.mem_append_right _ (List.mem_append_right _ (List.mem_append_left _ (List.mem_map.mpr ⟨e, hmem, rfl⟩))))) F
  obtain ⟨s1, s2⟩ := of_decide_eq_true s.2
  rw [s1] at B
  have F2 : Fun K e.d.x e.d.x e.d.st (He.ga K e.d.x) fd := by
    have F3 : Fun K e.d.x e.d.q e.d.st (He.ga K e.d.x) fd := F
    rw [s2] at F3
    exact F3
  exact ⟨He.ga K e.d.x, fd, e.d.st, e.a, e.n, e.fd, glo_at X G ex.flts (List.mem_of_getElem? hx), F2, B, scB_ok s.1.1, by show p.flt f = _; rw [O.flt]; show (T.flts[f]?).map _ = _; rw [he]; rfl, s.1.2⟩
end
/-! ### the law's promise -/
theorem lawAt_of {l : PySem.W.OpenLaw} {w : World} {n m f : Nat} {K : PySem.W.Frag} {mg : Str → Option Value} {fa : Addr} {h : Heap} {p : Pr} {tb : Tb} {dfs : List Df} {dl : Df} (hps : dl.ps = (["script"] : List Str)) (T0 : LawTop w K mg tb p dfs dl f m fa h)
    (law : ∀ ns : List Int, ns.length ≤ n → (∀ z ∈ ns, Builtin.Int.intBits z ≤ 1048576) → ∃ os, p.call (m + 1) f [.frz (.scr ns)] = .ok (.frz (.bl true), os)) :
    LamX.LawAtS l w K (L2.CX l.prog w) (lev m + 5) n "script" mg fa h := by
  obtain ⟨k, fas, fd, lam, fn, T, hfn, hd, Fu, hb, hl⟩ := T0.ex
  -- the run of the law, from a heap with the script and the tables
  have go : ∀ (H : Hp) (a : Addr) (ns : List Int), ns.length ≤ n → (∀ z ∈ ns, Builtin.Int.intBits z ≤ 1048576) → LamX.Tabs k.T H → SqL K H a (ns.map V.int) → spOf k (p.g (p.call (m + 1))) f [.ref a] H (fun v _ => v = .bl true) fun _ _ _ => False := by
    intro H a ns hlen hbits ht hS
    obtain ⟨os, ho⟩ := law ns hlen hbits
    have hF : ∃ F : Hp, Sub F H ∧ SqL k.K F a (ns.map V.int) ∧ ∀ b o, F b = some o → NT o := by
      rw [← T.kK]
      have one : ∀ o, H a = some o → NT o → ∃ F : Hp, Sub F H ∧ F a = some o ∧ ∀ b o, F b = some o → NT o := fun o ho nt => by
        refine ⟨fun b => if b = a then some o else none, fun b u q => ?_, if_pos rfl, fun b u q => ?_⟩
        · by_cases hb : b = a
          · subst hb
            have q : (if b = b then some o else none) = some u := q
            rw [if_pos rfl] at q
            cases q
            exact ho
          · have q : (if b = a then some o else none) = some u := q
            rw [if_neg hb] at q
            cases q
        · by_cases hb : b = a
          · have q : (if b = a then some o else none) = some u := q
            rw [if_pos hb] at q
            cases q
            exact nt
          · have q : (if b = a then some o else none) = some u := q
            rw [if_neg hb] at q
            cases q
      rcases hS with (hS | ⟨o, hS⟩) | hS
      · obtain ⟨F, h1, h2, h3⟩ := one _ hS fun ps z => nomatch z
        exact ⟨F, h1, .inl (.inl h2), h3⟩
      · obtain ⟨F, h1, h2, h3⟩ := one _ hS fun ps z => nomatch z
        exact ⟨F, h1, .inl (.inr ⟨o, h2⟩), h3⟩
      · exact ⟨fun _ => none, fun b u q => (by cases q), .inr hS, fun b u q => (by cases q)⟩
    obtain ⟨F, f1, f2, f3⟩ := hF
    refine ⟨F, [.frz (.scr ns)], ⟨f1, rfl, fun i s hs => ?_, fun i j b d1 d2 h1 h2 => ?_, ht, f3⟩, ?_⟩
    · cases i with
      | zero =>
        simp at hs
        subst hs
        exact ⟨.ref a, rfl, .scr f2⟩
      | succ i => simp at hs
    · cases i with
      | zero => simp at h1
      | succ i => simp at h1
    · show Post k (fun _ _ _ => False) F H _ _ (p.call (m + 1) f [.frz (.scr ns)]) _
      rw [ho]
      intro F' H' K2 f2 v rv
      cases rv
      rfl
  rcases hl with ⟨hl, hT⟩ | ⟨cc, Pt, g1, g2, g3, g4, g5, g6, g7⟩
  · refine ⟨fd, [], spOf k (p.g (p.call (m + 1))) f, fun p hp => by simp at hp, fun p hp => by simp at hp, fun p hp => by simp at hp, hb, fun H a ns hlen hbits _ hS => go H a ns hlen hbits (by rw [hT]; exact fun p hp => by simp at hp) hS, fun base _ _ _ => ?_⟩
    rw [← hps]
    exact law_ok T hfn hd Fu fun z => by rw [hl] at z; cases z
  · refine ⟨fd, [(cc, Pt)], spOf k (p.g (p.call (m + 1))) f, fun p hp => ?_, fun p hp => ?_, fun p hp => ?_, hb, fun H a ns hlen hbits htb hS => go H a ns hlen hbits ?_ hS, fun base _ _ hTB => ?_⟩
    · rw [List.mem_singleton.mp hp]; exact g1
    · rw [List.mem_singleton.mp hp]; exact g2
    · rw [List.mem_singleton.mp hp]; exact g3
    · rw [g5]
      intro q hq
      rw [List.mem_singleton.mp hq]
      exact LamX.TabS.nil (htb _ (List.mem_singleton.mpr rfl))
    · rw [← hps]
      exact law_ok T hfn hd Fu fun _ => ⟨⟨cc, Pt, hTB _ (List.mem_singleton.mpr rfl), g4, g5⟩, g6, g7⟩
/-- what the Hook looks at beside the defs -/
def exL (T : Tx) (K : PySem.W.Frag) : Bool := exB T K && gloB K "law"
def lawAt : He.Defn := ("law", none)
def Tx.tf (lam : Bool) : List He.Defn := if lam then [lawAt] else []
theorem lawTop_of {T : Tx} {p : Pr} {K : PySem.W.Frag} {mg : Str → Option Value} {h : Heap} {w : World} {dl : Df} {lam : Bool} {fn : Fn} {f m : Nat} {fa : Addr} (O : T.Of p) (S : T.OkS p) (B : AllB (T.dfs.map (·.1) ++ (T.exs.map (·.d) ++ (T.flts.map (·.d) ++ [dl])))) (hps : dl.ps = (["script"] : List Str)) (hfn : p.fns[f]? = some fn) (hd : dfB T.tb dl lam fn = true)
    (X : K.In h) (G : h.Ns mainGlobals mg) (hmg : mg ("law" : Str) = some (.ref fa)) (c : He.SaysX [] (T.fn (dl, lawAt)) [] (Tx.tf lam) (exL T) w h K) : LawTop w K mg T.tb p (T.dfs.map (·.1)) dl f m fa h := by
  obtain ⟨c1, c2⟩ := Bool.and_eq_true_iff.mp (show (exB T K && gloB K "law") = true from c.more)
  have ex := exB_ok c1
  have D : DefsOk T K (dl, lawAt) := ⟨fun d hd => c.t.d.defs hd, B⟩
  obtain ⟨fd, F⟩ := D.fun_ (d := (dl, lawAt)) (List.mem_append_right _ (List.mem_append_right _ (List.mem_singleton.mpr rfl)))
  have e := hmg.symm.trans (PySem.W.mg_of X G (He.eqO_ok c2))
  cases e
  have BL : BindOk dl := B.at (List.mem_append_right _ (List.mem_append_right _ (List.mem_append_right _ (List.mem_singleton.mpr rfl))))
  cases lam with
  | false => exact ⟨_, _, fd, false, fn, top_of (ts := []) O S X G ex D, hfn, hd, F, bndTo_of BL F hps, .inl ⟨rfl, rfl⟩⟩
  | true =>
    have hm : lawAt ∈ Tx.tf true := List.mem_singleton.mpr rfl
    have h1 := PySem.W.codeHd_of_K X (c.hd _ hm)
    have h2 := c.out _ hm
    have h3 := c.empty _ hm
    have hcode : fd.code = .ref (He.cT K lawAt).1 := by
      obtain ⟨oc, od, kV, doc, pm, an, cdv, ct, osl, e1, lk, hcd⟩ := F.ex
      obtain ⟨cc, e2⟩ := He.codeIn_ref hcd
      have e3 : fd.code = .ref cc := by rw [e1]; exact e2
      have := He.codeOf_eq lk e3
      rw [e3]
      show Value.ref cc = .ref (He.codeOf K lawAt)
      rw [this]
    exact ⟨_, _, fd, true, fn, top_of (ts := [((He.cT K lawAt).2, (dl.q ++ (".<locals>." : Str)) ++ "<lambda>")]) O S X G ex D, hfn, hd, F, bndTo_of BL F hps, .inr ⟨(He.cT K lawAt).1, (He.cT K lawAt).2, h3, h2, h1, hcode, rfl, fun f x hx => flt_of O S X G ex D f x hx, exf_of O S X G ex⟩⟩
end Rx

set_option Elab.async false
set_option linter.all false
set_option maxRecDepth 100000
/-! RxW: a run that does not read a name runs alike whatever the name holds. -/
namespace Rx
open PySem
/-- what is known of ρ holds of ρ1 -/
structure Wk (ρ ρ1 : Env) : Prop where
  len : ρ.length = ρ1.length
  val : ∀ (i : Nat) (s : Sl), ρ[i]? = some (some s) → ρ1[i]? = some (some s)
def RW {α : Type} (r r1 : R (α × Env)) : Prop := match r with
  | .ok a => ∃ ρ1, r1 = .ok (a.1, ρ1) ∧ Wk a.2 ρ1
  | .exc c fs => r1 = .exc c fs
  | .stuck => True
def RP {α : Type} (r r1 : R α) : Prop := match r with
  | .ok a => r1 = .ok a
  | .exc c fs => r1 = .exc c fs
  | .stuck => True
section
variable {ρ ρ1 : Env} {α β : Type}
theorem Wk.refl : Wk ρ ρ := ⟨rfl, fun _ _ h => h⟩
theorem Wk.trans {ρ2 : Env} (a : Wk ρ ρ1) (b : Wk ρ1 ρ2) : Wk ρ ρ2 := ⟨a.len.trans b.len, fun i s h => b.val i s (a.val i s h)⟩
theorem Wk.set2 (h : Wk ρ ρ1) {i : Nat} {o o1 : Option Sl} (ho : ∀ s, o = some s → o1 = some s) : Wk (ρ.set i o) (ρ1.set i o1) := by
  refine ⟨by rw [List.length_set, List.length_set]; exact h.len, fun j s hj => ?_⟩
  by_cases e : i = j
  · subst e
    by_cases hl : i < ρ.length
    · rw [List.getElem?_set_self hl] at hj
      rw [List.getElem?_set_self (by rw [← h.len]; exact hl)]
      rw [ho s (Option.some.inj hj)]
    · rw [List.getElem?_eq_none (by rw [List.length_set]; exact Nat.le_of_not_lt hl)] at hj
      cases hj
  · rw [List.getElem?_set_ne e] at hj ⊢
    exact h.val j s hj
theorem Wk.set (h : Wk ρ ρ1) {i : Nat} {o : Option Sl} : Wk (ρ.set i o) (ρ1.set i o) := h.set2 fun _ z => z
theorem Wk.wipe1 (h : Wk ρ ρ1) {i : Nat} : Wk (ρ.set i none) ρ1 := by
  refine ⟨by rw [List.length_set]; exact h.len, fun j s hj => ?_⟩
  by_cases e : i = j
  · subst e
    by_cases hl : i < ρ.length
    · rw [List.getElem?_set_self hl] at hj
      cases hj
    · rw [List.getElem?_eq_none (by rw [List.length_set]; exact Nat.le_of_not_lt hl)] at hj
      cases hj
  · rw [List.getElem?_set_ne e] at hj
    exact h.val j s hj
theorem Wk.join (h : Wk ρ ρ1) {i : Nat} {s : Sl} (hj : ρ[i]?.join = some s) : ρ1[i]?.join = some s := by
  have : ρ[i]? = some (some s) := by
    cases q : ρ[i]? with
    | none => rw [q] at hj; cases hj
    | some o => rw [q] at hj; cases o with
      | none => cases hj
      | some t => cases hj; rfl
  rw [h.val i s this]
  rfl
theorem Wk.wipe : ∀ {vs : List Nat} {ρ ρ1 : Env}, Wk ρ ρ1 → Wk (wipeE ρ vs) (wipeE ρ1 vs)
  | [], _, _, h => h
  | _ :: vs, _, _, h => Wk.wipe (vs := vs) h.set
theorem Wk.wiped : ∀ {vs : List Nat} {ρ : Env}, Wk (wipeE ρ vs) ρ
  | [], _ => .refl
  | v :: vs, ρ => (Wk.wiped (vs := vs) (ρ := ρ.set v none)).trans (Wk.refl.wipe1)
theorem Wk.rest {ρ0 ρ01 : Env} (h0 : Wk ρ0 ρ01) : ∀ {vs : List Nat} {ρ ρ1 : Env}, Wk ρ ρ1 → Wk (restE ρ0 ρ vs) (restE ρ01 ρ1 vs)
  | [], _, _, h => h
  | v :: vs, _, _, h => Wk.rest h0 (vs := vs) (h.set2 fun s z => h0.join z)
theorem RW.ok {a : α} (h : Wk ρ ρ1) : RW (.ok (a, ρ)) (.ok (a, ρ1)) := ⟨ρ1, rfl, h⟩
theorem RW.bind {r r1 : R (α × Env)} {f f1 : α × Env → R (β × Env)} (h : RW r r1) (hf : ∀ a ρ ρ1, Wk ρ ρ1 → RW (f (a, ρ)) (f1 (a, ρ1))) : RW (r.bind f) (r1.bind f1) := by
  cases r with
  | ok a =>
    obtain ⟨a, ρ⟩ := a
    obtain ⟨ρ1, e, w⟩ := h
    rw [e]
    exact hf a ρ ρ1 w
  | exc c fs =>
    have h : r1 = .exc c fs := h
    rw [h]
    rfl
  | stuck => trivial
theorem RP.bind {γ : Type} {r r1 : R γ} {f f1 : γ → R (β × Env)} (h : RP r r1) (hf : ∀ a, RW (f a) (f1 a)) : RW (r.bind f) (r1.bind f1) := by
  cases r with
  | ok a =>
    have h : r1 = .ok a := h
    rw [h]
    exact hf a
  | exc c fs =>
    have h : r1 = .exc c fs := h
    rw [h]
    rfl
  | stuck => trivial
theorem RP.bindP {γ δ : Type} {r r1 : R γ} {f f1 : γ → R δ} (h : RP r r1) (hf : ∀ a, RP (f a) (f1 a)) : RP (r.bind f) (r1.bind f1) := by
  cases r with
  | ok a =>
    have h : r1 = .ok a := h
    rw [h]
    exact hf a
  | exc c fs =>
    have h : r1 = .exc c fs := h
    rw [h]
    rfl
  | stuck => trivial
theorem RP.rfl' {γ : Type} {r : R γ} : RP r r := by cases r <;> first | rfl | trivial
theorem RW.same {γ : Type} {r : R γ} {f f1 : γ → R (β × Env)} (hf : ∀ a, RW (f a) (f1 a)) : RW (r.bind f) (r.bind f1) := RP.bind .rfl' hf
theorem wk_slot (h : Wk ρ ρ1) {j : Nat} : RP (slot ρ j) (slot ρ1 j) := by
  unfold slot
  cases q : ρ[j]? with
  | none => trivial
  | some o =>
    cases o with
    | none => trivial
    | some s => rw [h.val j s q]; rfl
theorem wk_rs (h : Wk ρ ρ1) : ∀ {ps : List Pv}, RP (rs ρ ps) (rs ρ1 ps)
  | [] => rfl
  | .inl d :: r => (wk_rs h (ps := r)).bindP fun _ => rfl
  | .inr j :: r => (wk_slot h).bindP fun _ => (wk_rs h (ps := r)).bindP fun _ => rfl
theorem wk_sls (h : Wk ρ ρ1) : ∀ {ps : List Pv}, RP (sls ρ ps) (sls ρ1 ps)
  | [] => rfl
  | .inl d :: r => (wk_sls h (ps := r)).bindP fun _ => rfl
  | .inr j :: r => (wk_slot h).bindP fun _ => (wk_sls h (ps := r)).bindP fun _ => rfl
theorem wk_rdF (h : Wk ρ ρ1) {i : Nat} : RW (rdF ρ i) (rdF ρ1 i) := by
  unfold rdF
  cases q : ρ[i]? with
  | none => trivial
  | some o =>
    cases o with
    | none => trivial
    | some s =>
      rw [h.val i s q]
      cases s with
      | frz d => exact .ok h
      | own d => exact .ok h.set
theorem Wk.setR (h : Wk ρ ρ1) {j : Nat} (hn : ρ[j]?.join = none) {o : Option Sl} : Wk ρ (ρ1.set j o) := by
  refine ⟨by rw [List.length_set]; exact h.len, fun i s hi => ?_⟩
  by_cases e : j = i
  · subst e
    rw [hi] at hn
    cases hn
  · rw [List.getElem?_set_ne e]
    exact h.val i s hi
/-- what a call writes back -/
theorem wk_wb : ∀ (ps : List Pv) (os : List (Option Sl)) {ρ ρ1 : Env}, Wk ρ ρ1 → Wk (wb ps os ρ) (wb ps os ρ1)
  | [], os, _, _, h => by cases os <;> exact h
  | .inl d :: ps, [], _, _, h => h
  | .inr j :: ps, [], _, _, h => h
  | .inl d :: ps, o :: os, _, _, h => wk_wb ps os h
  | .inr j :: ps, o :: os, ρ, ρ1, h => by
    show Wk (wb ps os (if isOwn ρ[j]?.join then ρ.set j o else ρ)) (wb ps os (if isOwn ρ1[j]?.join then ρ1.set j o else ρ1))
    refine wk_wb ps os ?_
    cases q : ρ[j]?.join with
    | some s =>
      rw [h.join q]
      split
      · exact h.set
      · exact h
    | none =>
      rw [if_neg (by simp [isOwn])]
      split
      · exact h.setR q
      · exact h
theorem wk_eqS (h : Wk ρ ρ1) {g : G} {neg : Bool} {ps : List Pv} {ss : List Sl} : RW (eqS g neg ps ρ ss) (eqS g neg ps ρ1 ss) := by
  unfold eqS
  split
  · split
    · refine RW.same fun f => RW.same fun q => ?_
      split
      · exact .ok (wk_wb _ _ h)
      · trivial
    · exact RW.same fun b => .ok h
  · trivial
theorem wk_recv (h : Wk ρ ρ1) {g : G} {m : Nat} {ps : List Pv} : RP (recv g m ρ ps) (recv g m ρ1 ps) := (wk_rs h).bindP fun _ => .rfl'
theorem wk_frz : ∀ {is : List Nat} {ρ ρ1 : Env}, Wk ρ ρ1 → Wk (frzE ρ is) (frzE ρ1 is)
  | [], _, _, h => h
  | i :: is, ρ, ρ1, h => wk_frz (is := is) (h.set2 fun s z => by
    cases q : ρ[i]?.join with
    | none => rw [q] at z; cases z
    | some t => rw [q] at z; rw [h.join q]; exact z)
theorem wk_hide (h : Wk ρ ρ1) : Wk (hideE ρ) (hideE ρ1) := by
  refine ⟨by unfold hideE; rw [List.length_map, List.length_map]; exact h.len, fun i s hi => ?_⟩
  unfold hideE at hi ⊢
  rw [List.getElem?_map] at hi ⊢
  cases q : ρ[i]? with
  | none => rw [q] at hi; cases hi
  | some o =>
    rw [q] at hi
    cases o with
    | none => cases hi
    | some t => rw [h.val i t q]; exact hi
theorem wk_flt {fd : FltD} {r r1 : R (Sl × Env)} (hr : RW r r1) (h : Wk ρ ρ1) : RW (fltR fd r ρ) (fltR fd r1 ρ1) := by
  cases r with
  | ok a =>
    obtain ⟨ρ2, e, _⟩ := hr
    rw [e]
    exact .ok h
  | exc c fs =>
    have hr : r1 = .exc c fs := hr
    rw [hr]
    unfold fltR
    dsimp only
    split
    · exact .ok h
    · trivial
  | stuck => trivial
end
mutual
theorem wk_put {lk : Nat → Bool} : ∀ (t : Tg) {d : D} {ρ ρ1 : Env}, Wk ρ ρ1 → match t.put lk d ρ with
    | .ok ρ' => ∃ ρ1', t.put lk d ρ1 = .ok ρ1' ∧ Wk ρ' ρ1'
    | .exc c fs => t.put lk d ρ1 = .exc c fs
    | .stuck => True
  | .var i, d, ρ, ρ1, h => by
    unfold Tg.put
    split
    · rename_i ρ' q
      split at q
      · cases q
      · split at q
        · cases q
          rename_i h1 h2
          refine ⟨ρ1.set i (some (.frz d)), ?_, h.set⟩
          rw [if_neg h1, if_pos (by rw [← h.len]; exact h2)]
        · cases q
    · rename_i c fs q
      split at q
      · cases q
      · split at q <;> cases q
    · trivial
  | .fld j f, d, ρ, ρ1, h => by
    unfold Tg.put
    cases q : ρ[j]? with
    | none => trivial
    | some o =>
      cases o with
      | none => trivial
      | some s =>
        rw [h.val j s q]
        cases s with
        | frz d => trivial
        | own d =>
          cases d <;> first | trivial | skip
          dsimp only
          split
          · rename_i ρ' q2
            split at q2
            · rename_i hz
              cases q2
              exact ⟨_, if_pos hz, h.set⟩
            · cases q2
          · rename_i c fs q2
            split at q2 <;> cases q2
          · trivial
  | .tup ts, d, ρ, ρ1, h => by
    unfold Tg.put
    cases d <;> first | trivial | exact wk_puts ts h
theorem wk_puts {lk : Nat → Bool} : ∀ (ts : Tgs) {ds : List D} {ρ ρ1 : Env}, Wk ρ ρ1 → match Tgs.put lk ts ds ρ with
    | .ok ρ' => ∃ ρ1', Tgs.put lk ts ds ρ1 = .ok ρ1' ∧ Wk ρ' ρ1'
    | .exc c fs => Tgs.put lk ts ds ρ1 = .exc c fs
    | .stuck => True
  | .nil, [], ρ, ρ1, h => ⟨ρ1, rfl, h⟩
  | .nil, _ :: _, ρ, ρ1, h => trivial
  | .cons t ts, [], ρ, ρ1, h => trivial
  | .cons t ts, d :: ds, ρ, ρ1, h => by
    unfold Tgs.put
    have h1 := wk_put t (d := d) (lk := lk) h
    cases q : t.put lk d ρ with
    | ok ρ' =>
      rw [q] at h1
      obtain ⟨ρ1', e, w⟩ := h1
      rw [e]
      exact wk_puts ts w
    | exc c fs =>
      rw [q] at h1
      rw [h1]
      rfl
    | stuck => trivial
end
theorem wk_putb {lk : Nat → Bool} {β : Type} {t : Tg} {d : D} {ρ ρ1 : Env} {f f1 : Env → R (β × Env)} (h : Wk ρ ρ1) (hf : ∀ ρ ρ1, Wk ρ ρ1 → RW (f ρ) (f1 ρ1)) : RW ((t.put lk d ρ).bind f) ((t.put lk d ρ1).bind f1) := by
  have h1 := wk_put t (d := d) (lk := lk) h
  cases q : t.put lk d ρ with
  | ok ρ' =>
    rw [q] at h1
    obtain ⟨ρ1', e, w⟩ := h1
    rw [e]
    exact hf _ _ w
  | exc c fs =>
    rw [q] at h1
    rw [h1]
    rfl
  | stuck => trivial
theorem wk_calm {α : Type} {r r1 : R (α × Env)} (h : RW r r1) : RW r.calm r1.calm := by
  cases r with
  | ok a =>
    obtain ⟨ρ1, e, w⟩ := h
    rw [e]
    exact ⟨ρ1, rfl, w⟩
  | exc c fs => trivial
  | stuck => trivial
theorem wk_lcL {turn turn1 : D → Env → R (Option D × Env)} (ht : ∀ d ρ ρ1, Wk ρ ρ1 → RW (turn d ρ) (turn1 d ρ1)) : ∀ {ds acc : List D} {ρ ρ1 : Env}, Wk ρ ρ1 → RW (lcL turn ds acc ρ) (lcL turn1 ds acc ρ1)
  | [], acc, ρ, ρ1, h => .ok h
  | d :: ds, acc, ρ, ρ1, h => by
    unfold lcL
    refine (wk_calm (ht d ρ ρ1 h)).bind fun o ρ ρ1 h => ?_
    cases o with
    | some x =>
      dsimp only
      split
      · exact wk_lcL ht h
      · trivial
    | none => exact wk_lcL ht h
theorem wk_dcL {turn turn1 : D → Env → R (Option (Kk × D) × Env)} (ht : ∀ d ρ ρ1, Wk ρ ρ1 → RW (turn d ρ) (turn1 d ρ1)) : ∀ {ds : List D} {acc : List (Kk × D)} {ρ ρ1 : Env}, Wk ρ ρ1 → RW (dcL turn ds acc ρ) (dcL turn1 ds acc ρ1)
  | [], acc, ρ, ρ1, h => .ok h
  | d :: ds, acc, ρ, ρ1, h => by
    unfold dcL
    refine (wk_calm (ht d ρ ρ1 h)).bind fun o ρ ρ1 h => ?_
    cases o with
    | some x =>
      dsimp only
      split
      · exact wk_dcL ht h
      · trivial
    | none => exact wk_dcL ht h
theorem wk_lcM {turn turn1 : D → List D → Env → R (List D × Env)} (ht : ∀ d acc ρ ρ1, Wk ρ ρ1 → RW (turn d acc ρ) (turn1 d acc ρ1)) : ∀ {ds acc : List D} {ρ ρ1 : Env}, Wk ρ ρ1 → RW (lcM turn ds acc ρ) (lcM turn1 ds acc ρ1)
  | [], acc, ρ, ρ1, h => .ok h
  | d :: ds, acc, ρ, ρ1, h => by
    unfold lcM
    exact (wk_calm (ht d acc ρ ρ1 h)).bind fun o ρ ρ1 h => wk_lcM ht h
mutual
theorem Ex.wk (g : G) : ∀ (e : Ex) {ρ ρ1 : Env}, Wk ρ ρ1 → RW (e.ev g ρ) (e.ev g ρ1)
  | .var i, ρ, ρ1, h => by
    unfold Ex.ev
    exact wk_rdF h
  | .con c, ρ, ρ1, h => by
    unfold Ex.ev
    exact .ok h
  | .glb j, ρ, ρ1, h => by
    unfold Ex.ev
    exact RW.same fun _ => .ok h
  | .op o as, ρ, ρ1, h => by
    unfold Ex.ev
    refine (Exs.wk g as h).bind fun ps ρ ρ1 h => ?_
    dsimp only
    split
    · exact (wk_rs h).bind fun ds => RW.same fun s => .ok h
    · exact RW.same fun ds => RW.same fun s => .ok h
  | .chn o p a b c, ρ, ρ1, h => by
    unfold Ex.ev
    refine (Ex.wk g a h).bind fun x ρ ρ1 h => (Ex.wk g b h).bind fun y ρ ρ1 h => RW.same fun t => ?_
    dsimp only
    split
    · exact (Ex.wk g c h).bind fun z ρ ρ1 h => RW.same fun u => .ok h
    · exact .ok h
  | .and a b, ρ, ρ1, h => by
    unfold Ex.ev
    refine (Ex.wk g a h).bind fun x ρ ρ1 h => RW.same fun t => ?_
    dsimp only
    split
    · exact Ex.wk g b h
    · exact .ok h
  | .or a b, ρ, ρ1, h => by
    unfold Ex.ev
    refine (Ex.wk g a h).bind fun x ρ ρ1 h => RW.same fun t => ?_
    dsimp only
    split
    · exact .ok h
    · exact Ex.wk g b h
  | .not a, ρ, ρ1, h => by
    unfold Ex.ev
    exact (Ex.wk g a h).bind fun x ρ ρ1 h => RW.same fun t => .ok h
  | .tru a, ρ, ρ1, h => by
    unfold Ex.ev
    exact (Ex.wk g a h).bind fun x ρ ρ1 h => RW.same fun t => .ok h
  | .eqv neg as, ρ, ρ1, h => by
    unfold Ex.ev
    refine (Exs.wk g as h).bind fun ps ρ ρ1 h => ?_
    dsimp only
    split
    · exact (wk_sls h).bind fun ss => wk_eqS h
    · trivial
  | .ife c a b, ρ, ρ1, h => by
    unfold Ex.ev
    refine (Ex.wk g c h).bind fun x ρ ρ1 h => RW.same fun t => ?_
    dsimp only
    split
    · exact Ex.wk g a h
    · exact Ex.wk g b h
  | .call f as, ρ, ρ1, h => by
    unfold Ex.ev
    refine (Exs.wk g as h).bind fun ps ρ ρ1 h => ?_
    dsimp only
    split
    · exact (wk_sls h).bind fun ss => RW.same fun q => .ok (wk_wb _ _ h)
    · trivial
  | .make c as, ρ, ρ1, h => by
    unfold Ex.ev
    refine (Exs.wk g as h).bind fun ps ρ ρ1 h => RW.same fun ds => RW.same fun f => RW.same fun q => ?_
    split
    · exact .ok h
    · trivial
  | .meth m o as, ρ, ρ1, h => by
    unfold Ex.ev
    refine (Exs.wk g o h).bind fun q ρ ρ1 h => (wk_recv h).bind fun f => (Exs.wk g as h).bind fun r ρ ρ1 h => ?_
    dsimp only
    split
    · exact (wk_sls h).bind fun ss => RW.same fun z => .ok (wk_wb _ _ h)
    · trivial
  | .bm m o as, ρ, ρ1, h => by
    unfold Ex.ev
    refine (Exs.wk g o h).bind fun q ρ ρ1 h => (wk_rs h).bind fun d0 => ?_
    dsimp only
    split
    · exact (Exs.wk g as h).bind fun r ρ ρ1 h => (wk_rs h).bind fun ds => RW.same fun s => .ok h
    · trivial
  | .lc t vs k as cs e, ρ, ρ1, h => by
    unfold Ex.ev
    refine (Exs.wk g as h).bind fun r ρ ρ1 h => RW.same fun ds => RW.same fun its => ?_
    refine (wk_lcL (fun d ρ ρ1 h => ?_) h).bind fun q ρ2 ρ3 h2 => .ok (h.rest h2)
    refine wk_putb h.wipe fun ρ ρ1 h => (Exs.wkt g cs h).bind fun b ρ ρ1 h => ?_
    dsimp only
    split
    · exact (Ex.wk g e h).bind fun x ρ ρ1 h => .ok h
    · exact .ok h
  | .dc t vs k as cs kx vx, ρ, ρ1, h => by
    unfold Ex.ev
    refine (Exs.wk g as h).bind fun r ρ ρ1 h => RW.same fun ds => RW.same fun its => ?_
    refine (wk_dcL (fun d ρ ρ1 h => ?_) h).bind fun q ρ2 ρ3 h2 => .ok (h.rest h2)
    refine wk_putb h.wipe fun ρ ρ1 h => (Exs.wkt g cs h).bind fun b ρ ρ1 h => ?_
    dsimp only
    split
    · exact (Ex.wk g kx h).bind fun y ρ ρ1 h => RW.same fun kk => (Ex.wk g vx h).bind fun z ρ ρ1 h => .ok h
    · exact .ok h
  | .flt f fz e, ρ, ρ1, h => by
    unfold Ex.ev
    exact RW.same fun fd => wk_flt (Ex.wk g e (wk_hide (wk_frz h))) (wk_frz h)
  | .cat tp fl as, ρ, ρ1, h => by
    unfold Ex.ev
    exact (Exs.wkc g as h).bind fun r ρ ρ1 h => RW.same fun s => .ok h
  | .lc2 t vs k as cs t1 vs1 k1 as1 cs1 e, ρ, ρ1, h => by
    unfold Ex.ev
    refine (Exs.wk g as h).bind fun r ρ ρ1 h => RW.same fun ds => RW.same fun its => ?_
    refine (wk_lcM (fun d acc ρ ρ1 h => ?_) h).bind fun q ρ2 ρ3 h2 => .ok (h.rest h2)
    refine wk_putb h.wipe fun ρ ρ1 h => (Exs.wkt g cs h).bind fun b ρ ρ1 h => ?_
    dsimp only
    split
    · refine (Exs.wk g as1 h).bind fun r ρ ρ1 h => RW.same fun ds => RW.same fun its => ?_
      refine wk_lcL (fun d ρ ρ1 h => ?_) h
      refine wk_putb h.wipe fun ρ ρ1 h => (Exs.wkt g cs1 h).bind fun b ρ ρ1 h => ?_
      dsimp only
      split
      · exact (Ex.wk g e h).bind fun x ρ ρ1 h => .ok h
      · exact .ok h
    · exact .ok h
theorem Exs.wk (g : G) : ∀ (as : Exs) {ρ ρ1 : Env}, Wk ρ ρ1 → RW (as.ev g ρ) (as.ev g ρ1)
  | .nil, ρ, ρ1, h => by
    unfold Exs.ev
    exact .ok h
  | .cons a as, ρ, ρ1, h => by
    unfold Exs.ev
    exact (Ex.wk g a h).bind fun x ρ ρ1 h => (Exs.wk g as h).bind fun r ρ ρ1 h => .ok h
  | .bor i as, ρ, ρ1, h => by
    unfold Exs.ev
    exact (wk_slot h).bind fun _ => (Exs.wk g as h).bind fun r ρ ρ1 h => .ok h
theorem Exs.wkc (g : G) : ∀ (as : Exs) {fl : List Bool} {ρ ρ1 : Env}, Wk ρ ρ1 → RW (as.cat g fl ρ) (as.cat g fl ρ1)
  | .nil, fl, ρ, ρ1, h => by
    unfold Exs.cat
    cases fl with
    | nil => exact .ok h
    | cons _ _ => trivial
  | .cons a as, fl, ρ, ρ1, h => by
    unfold Exs.cat
    cases fl with
    | nil => trivial
    | cons b fl => exact (Ex.wk g a h).bind fun x ρ ρ1 h => RW.same fun xs => (Exs.wkc g as h).bind fun r ρ ρ1 h => .ok h
  | .bor i as, fl, ρ, ρ1, h => by
    unfold Exs.cat
    trivial
theorem Exs.wkt (g : G) : ∀ (as : Exs) {ρ ρ1 : Env}, Wk ρ ρ1 → RW (as.tests g ρ) (as.tests g ρ1)
  | .nil, ρ, ρ1, h => by
    unfold Exs.tests
    exact .ok h
  | .cons a as, ρ, ρ1, h => by
    unfold Exs.tests
    refine (Ex.wk g a h).bind fun x ρ ρ1 h => RW.same fun t => ?_
    dsimp only
    split
    · exact Exs.wkt g as h
    · exact .ok h
  | .bor i as, ρ, ρ1, h => by
    unfold Exs.tests
    trivial
end
theorem wk_test (g : G) (e : Ex) {ρ ρ1 : Env} (h : Wk ρ ρ1) : RW (e.test g ρ) (e.test g ρ1) := (e.wk g h).bind fun x ρ ρ1 h => RW.same fun t => .ok h
theorem wk_loop {turn turn1 : D → Env → R (Fl × Env)} (ht : ∀ d ρ ρ1, Wk ρ ρ1 → RW (turn d ρ) (turn1 d ρ1)) : ∀ {ds : List D} {ρ ρ1 : Env}, Wk ρ ρ1 → RW (loopL turn ds ρ) (loopL turn1 ds ρ1)
  | [], ρ, ρ1, h => .ok h
  | d :: ds, ρ, ρ1, h => by
    unfold loopL
    refine (ht d ρ ρ1 h).bind fun f ρ ρ1 h => ?_
    cases f with
    | nx => exact wk_loop ht h
    | ct => exact wk_loop ht h
    | bk => exact .ok h
    | rt s => exact .ok h
theorem wk_while {c c1 : Env → R (Bool × Env)} {b b1 : Env → R (Fl × Env)} (hc : ∀ ρ ρ1, Wk ρ ρ1 → RW (c ρ) (c1 ρ1)) (hb : ∀ ρ ρ1, Wk ρ ρ1 → RW (b ρ) (b1 ρ1)) : ∀ {n : Nat} {ρ ρ1 : Env}, Wk ρ ρ1 → RW (whileN c b n ρ) (whileN c1 b1 n ρ1)
  | 0, ρ, ρ1, h => trivial
  | n + 1, ρ, ρ1, h => by
    unfold whileN
    refine (hc ρ ρ1 h).bind fun t ρ ρ1 h => ?_
    dsimp only
    split
    · refine (hb ρ ρ1 h).bind fun f ρ ρ1 h => ?_
      cases f with
      | nx => exact wk_while hc hb h
      | ct => exact wk_while hc hb h
      | bk => exact .ok h
      | rt s => exact .ok h
    · exact .ok h
theorem wk_ret (g : G) (lk : Nat → Bool) (e : Ex) {ρ ρ1 : Env} (h : Wk ρ ρ1) : RW (retE g lk e ρ) (retE g lk e ρ1) := by
  cases e with
  | var i =>
    show RW (if lk i then rdF ρ i else _) (if lk i then rdF ρ1 i else _)
    split
    · exact wk_rdF h
    · cases q : ρ[i]? with
      | none =>
        have : rdF ρ i = .stuck := by unfold rdF; rw [q]
        simp only [this]
        trivial
      | some o =>
        cases o with
        | none =>
          have : rdF ρ i = .stuck := by unfold rdF; rw [q]
          simp only [this]
          trivial
        | some s =>
          rw [h.val i s q]
          cases s with
          | frz d => exact wk_rdF h
          | own d => exact .ok h.set
  | _ => exact Ex.wk g _ h
theorem wk_par {lk : Nat → Bool} : ∀ {is : List Nat} {ds : List D} {ρ ρ1 : Env}, Wk ρ ρ1 → match parE lk is ds ρ with
    | .ok ρ' => ∃ ρ1', parE lk is ds ρ1 = .ok ρ1' ∧ Wk ρ' ρ1'
    | .exc c fs => parE lk is ds ρ1 = .exc c fs
    | .stuck => True
  | [], [], ρ, ρ1, h => ⟨ρ1, rfl, h⟩
  | [], _ :: _, ρ, ρ1, h => trivial
  | _ :: _, [], ρ, ρ1, h => trivial
  | i :: is, d :: ds, ρ, ρ1, h => by
    unfold parE
    rw [h.len]
    cases (lk i || decide (ρ1.length ≤ i)) with
    | true => simp only [if_true]
    | false => simp only [Bool.false_eq_true, if_false]; exact wk_par h.set
mutual
theorem Sm.wk (g : G) (lk : Nat → Bool) : ∀ (s : Sm) {ρ ρ1 : Env}, Wk ρ ρ1 → RW (s.ev g lk ρ) (s.ev g lk ρ1)
  | .set i e, ρ, ρ1, h => by
    unfold Sm.ev
    refine (e.wk g h).bind fun x ρ ρ1 h => ?_
    dsimp only
    rw [h.len]
    split
    · trivial
    · exact .ok h.set
  | .asg t e, ρ, ρ1, h => by
    unfold Sm.ev
    exact (e.wk g h).bind fun x ρ ρ1 h => wk_putb h fun ρ ρ1 h => .ok h
  | .par is as, ρ, ρ1, h => by
    unfold Sm.ev
    refine (as.wk g h).bind fun r ρ ρ1 h => RW.same fun ds => ?_
    have h1 := wk_par (lk := lk) (is := is) (ds := ds) h
    dsimp only
    cases q : parE lk is ds ρ with
    | ok ρ' =>
      rw [q] at h1
      obtain ⟨ρ1', e, w⟩ := h1
      rw [e]
      exact .ok w
    | exc c fs =>
      rw [q] at h1
      rw [h1]
      rfl
    | stuck => trivial
  | .aug i o e, ρ, ρ1, h => by
    unfold Sm.ev
    refine (wk_slot h).bind fun s => (e.wk g h).bind fun x ρ ρ1 h => ?_
    dsimp only
    split
    · rw [h.len]
      split
      · trivial
      · exact .ok h.set
    · trivial
  | .put j k e, ρ, ρ1, h => by
    unfold Sm.ev
    refine (e.wk g h).bind fun x ρ ρ1 h => ?_
    dsimp only
    split
    · rename_i q
      rw [h.val j _ q]
      refine (k.wk g h).bind fun y ρ ρ1 h => ?_
      dsimp only
      split
      · rename_i q e1
        rw [h.val j _ q, e1]
        dsimp only
        split
        · exact .ok h.set
        · trivial
      · trivial
    · rename_i q
      rw [h.val j _ q]
      refine (k.wk g h).bind fun y ρ ρ1 h => ?_
      dsimp only
      split
      · rename_i q e1
        rw [h.val j _ q, e1]
        dsimp only
        split
        · exact .ok h.set
        · trivial
      · trivial
    · rename_i q
      rw [h.val j _ q]
      refine (k.wk g h).bind fun y ρ ρ1 h => ?_
      dsimp only
      split
      · rename_i q e1
        rw [h.val j _ q, e1]
        dsimp only
        split
        · exact .ok h.set
        · trivial
      · trivial
    · trivial
  | .augs j k o e, ρ, ρ1, h => by
    unfold Sm.ev
    split
    · rename_i q
      rw [h.val j _ q]
      refine (k.wk g h).bind fun y ρ ρ1 h => ?_
      dsimp only
      split
      · rename_i q e1
        rw [h.val j _ q, e1]
        dsimp only
        split
        · trivial
        · split
          · refine (e.wk g h).bind fun x ρ ρ1 h => ?_
            dsimp only
            split
            · rename_i q e2
              rw [h.val j _ q, e2]
              dsimp only
              split
              · exact .ok h.set
              · trivial
            · trivial
          · trivial
      · trivial
    · trivial
  | .app j e, ρ, ρ1, h => by
    unfold Sm.ev
    split
    · rename_i q
      rw [h.val j _ q]
      refine (e.wk g h).bind fun x ρ ρ1 h => ?_
      dsimp only
      split
      · rename_i q
        rw [h.val j _ q]
        dsimp only
        split
        · exact .ok h.set
        · trivial
      · trivial
    · trivial
  | .ex e, ρ, ρ1, h => by
    unfold Sm.ev
    exact (e.wk g h).bind fun x ρ ρ1 h => .ok h
  | .ret e, ρ, ρ1, h => by
    unfold Sm.ev
    exact (wk_ret g lk e h).bind fun x ρ ρ1 h => .ok h
  | .retN, ρ, ρ1, h => by
    unfold Sm.ev
    exact .ok h
  | .ife c a b, ρ, ρ1, h => by
    unfold Sm.ev
    refine (wk_test g c h).bind fun t ρ ρ1 h => ?_
    dsimp only
    split
    · exact Sms.wk g lk a h
    · exact Sms.wk g lk b h
  | .for_ t k as b, ρ, ρ1, h => by
    unfold Sm.ev
    refine (as.wk g h).bind fun r ρ ρ1 h => RW.same fun ds => RW.same fun its => ?_
    dsimp only
    refine wk_loop (fun d ρ ρ1 h => ?_) h
    refine wk_putb h fun ρ ρ1 h => ?_
    exact Sms.wk g lk b h
  | .whl c b, ρ, ρ1, h => by
    unfold Sm.ev
    exact wk_while (fun ρ ρ1 h => wk_test g c h) (fun ρ ρ1 h => Sms.wk g lk b h) h
  | .rai c as, ρ, ρ1, h => by
    unfold Sm.ev
    refine (as.wk g h).bind fun r ρ ρ1 h => RW.same fun ds => ?_
    cases g.exf c with
    | none => trivial
    | some fs =>
      dsimp only
      split
      · rfl
      · trivial
  | .pass, ρ, ρ1, h => by
    unfold Sm.ev
    exact .ok h
  | .brk, ρ, ρ1, h => by
    unfold Sm.ev
    exact .ok h
  | .cnt, ρ, ρ1, h => by
    unfold Sm.ev
    exact .ok h
theorem Sms.wk (g : G) (lk : Nat → Bool) : ∀ (b : Sms) {ρ ρ1 : Env}, Wk ρ ρ1 → RW (b.ev g lk ρ) (b.ev g lk ρ1)
  | .nil, ρ, ρ1, h => by
    unfold Sms.ev
    exact .ok h
  | .cons s r, ρ, ρ1, h => by
    unfold Sms.ev
    refine (Sm.wk g lk s h).bind fun f ρ ρ1 h => ?_
    cases f with
    | nx => exact Sms.wk g lk r h
    | _ => exact .ok h
end
end Rx

set_option Elab.async false
set_option linter.all false
set_option maxRecDepth 100000
/-! RxS: rules by which simp runs the evaluator. -/
namespace Rx.S
open PySem
class Kt (α β : Type) where
  k : α → R β
/-- bind, its continuation where simp does not look -/
def bnd {α β : Type} (r : R α) [K : Kt α β] : R β := r.bind K.k
@[simp ↓] theorem bind_bnd {α β : Type} {r : R α} {f : α → R β} : r.bind f = @bnd α β r ⟨f⟩ := id rfl
@[simp] theorem bnd_ok {α β : Type} {a : α} {f : α → R β} : @bnd α β (.ok a) ⟨f⟩ = f a := id rfl
@[simp] theorem bnd_exc {α β : Type} {c : Nat} {fs : List (Nat × D)} {f : α → R β} : @bnd α β (.exc c fs) ⟨f⟩ = .exc c fs := id rfl
@[simp] theorem bnd_stuck {α β : Type} {f : α → R β} : @bnd α β .stuck ⟨f⟩ = .stuck := id rfl
section
variable {g : G} {ρ : Env} {lk : Nat → Bool}
@[simp] theorem okb {α β : Type} (a : α) (f : α → R β) : (R.ok a).bind f = f a := id rfl
@[simp] theorem excb {α β : Type} (c : Nat) (fs : List (Nat × D)) (f : α → R β) : (R.exc c fs : R α).bind f = .exc c fs := id rfl
@[simp] theorem stuckb {α β : Type} (f : α → R β) : (R.stuck : R α).bind f = .stuck := id rfl
@[simp] theorem env_z {α : Type} {o : α} {l : List α} : (o :: l)[0]? = some o := id rfl
@[simp] theorem env_s {α : Type} {o : α} {l : List α} {n : Nat} : (o :: l)[n + 1]? = l[n]? := id rfl
def ndB (l : List Nat) : Bool := decide l.Nodup
@[simp] theorem ndB_nil : ndB [] = true := id rfl
@[simp] theorem ndB_1 {a : Nat} : ndB [a] = true := by simp [ndB]
@[simp] theorem ndB_2 {a b : Nat} {l : List Nat} : ndB (a :: b :: l) = (!((b :: l).contains a) && ndB (b :: l)) := by
  unfold ndB
  rw [Bool.eq_iff_iff]
  simp [List.nodup_cons]
@[simp] theorem ev_var {i} : Ex.ev g (.var i) ρ = rdF ρ i := by rw [Ex.ev]
@[simp] theorem ev_con {c} : Ex.ev g (.con c) ρ = .ok (.frz c.d, ρ) := by rw [Ex.ev]
@[simp] theorem ev_glb {j} : Ex.ev g (.glb j) ρ = (R.of (g.glb j)).bind fun d => .ok (.frz d, ρ) := by rw [Ex.ev]
@[simp] theorem ev_op {o as} : Ex.ev g (.op o as) ρ = (Exs.ev g as ρ).bind fun r => (if o.pk then rs r.2 r.1 else frzs r.1).bind fun ds => (o.ap ds).bind fun s => .ok (s, r.2) := by rw [Ex.ev]
@[simp] theorem ev_chn {o p a b c} : Ex.ev g (.chn o p a b c) ρ = (Ex.ev g a ρ).bind fun x => (Ex.ev g b x.2).bind fun y => (o.ap x.1.d y.1.d).bind fun t =>
      if t then (Ex.ev g c y.2).bind fun z => (p.ap y.1.d z.1.d).bind fun u => .ok (.frz (.bl u), z.2) else .ok (.frz (.bl false), y.2) := by rw [Ex.ev]
@[simp] theorem ev_and {a b} : Ex.ev g (.and a b) ρ = (Ex.ev g a ρ).bind fun x => (g.truth x.1.d).bind fun t => if t then Ex.ev g b x.2 else .ok (.frz x.1.d, x.2) := by rw [Ex.ev]
@[simp] theorem ev_or {a b} : Ex.ev g (.or a b) ρ = (Ex.ev g a ρ).bind fun x => (g.truth x.1.d).bind fun t => if t then .ok (.frz x.1.d, x.2) else Ex.ev g b x.2 := by rw [Ex.ev]
@[simp] theorem ev_not {a} : Ex.ev g (.not a) ρ = (Ex.ev g a ρ).bind fun x => (g.truth x.1.d).bind fun t => .ok (.frz (.bl (!t)), x.2) := by rw [Ex.ev]
@[simp] theorem ev_tru {a} : Ex.ev g (.tru a) ρ = (Ex.ev g a ρ).bind fun x => (g.truth x.1.d).bind fun t => .ok (.frz (.bl t), x.2) := by rw [Ex.ev]
@[simp] theorem ev_eqv {neg as} : Ex.ev g (.eqv neg as) ρ = (Exs.ev g as ρ).bind fun r => if ndB (bors r.1) then (sls r.2 r.1).bind fun ss => eqS g neg r.1 r.2 ss else .stuck := by rw [Ex.ev]; all_goals rfl
@[simp] theorem ev_ife {c a b} : Ex.ev g (.ife c a b) ρ = (Ex.ev g c ρ).bind fun x => (g.truth x.1.d).bind fun t => if t then Ex.ev g a x.2 else Ex.ev g b x.2 := by rw [Ex.ev]
@[simp] theorem ev_call {f as} : Ex.ev g (.call f as) ρ = (Exs.ev g as ρ).bind fun r => if ndB (bors r.1) then (sls r.2 r.1).bind fun ss => (g.call f ss).bind fun q => .ok (q.1, wb r.1 q.2 r.2) else .stuck := by rw [Ex.ev]; all_goals rfl
def mkR (q : Sl × List (Option Sl)) (ρ : Env) : R (Sl × Env) := match q.1.d, q.2 with
      | .non, some s :: _ => .ok (s, ρ)
      | _, _ => .stuck
@[simp] theorem mkR_ok {s os} : mkR (.frz .non, some s :: os) ρ = .ok (s, ρ) := id rfl
@[simp] theorem ev_make {c as} : Ex.ev g (.make c as) ρ = (Exs.ev g as ρ).bind fun r => (frzs r.1).bind fun ds => (R.of (g.ini c)).bind fun f => (g.call f (.own (.ins c []) :: ds.map .frz)).bind fun q => mkR q r.2 := by rw [Ex.ev]; all_goals rfl
@[simp] theorem ev_meth {m o as} : Ex.ev g (.meth m o as) ρ = (Exs.ev g o ρ).bind fun q => (recv g m q.2 q.1).bind fun f => (Exs.ev g as q.2).bind fun r => if ndB (bors (q.1 ++ r.1)) then (sls r.2 (q.1 ++ r.1)).bind fun ss => (g.call f ss).bind fun z => .ok (z.1, wb (q.1 ++ r.1) z.2 r.2) else .stuck := by rw [Ex.ev]; all_goals rfl
@[simp] theorem ev_bm {m o as} : Ex.ev g (.bm m o as) ρ = (Exs.ev g o ρ).bind fun q => (rs q.2 q.1).bind fun d0 => if m.rcv d0 then (Exs.ev g as q.2).bind fun r => (rs r.2 (q.1 ++ r.1)).bind fun ds => (m.ap ds).bind fun s => .ok (s, r.2) else .stuck := by rw [Ex.ev]; all_goals rfl
@[simp] theorem rcv_get {ks} : Bm.rcv .get [.dic ks] = true := id rfl
@[simp] theorem get_1 {ks x} : Bm.ap .get [.dic ks, x] = (R.of (keyD x)).bind fun k => .ok (.frz ((getK ks k).getD .non)) := id rfl
@[simp] theorem get_2 {ks x y} : Bm.ap .get [.dic ks, x, y] = if y.base then (R.of (keyD x)).bind fun k => .ok (.frz ((getK ks k).getD y)) else .stuck := id rfl
@[simp] theorem base_int {i} : D.base (.int i) = true := id rfl
@[simp] theorem base_non : D.base .non = true := id rfl
@[simp] theorem ev_cat {tp fl as} : Ex.ev g (.cat tp fl as) ρ = (Exs.cat g as fl ρ).bind fun r => (catO tp r.1).bind fun s => .ok (s, r.2) := by rw [Ex.ev]
@[simp] theorem cat_nil : Exs.cat g .nil [] ρ = .ok ([], ρ) := by rw [Exs.cat]
@[simp] theorem cat_cons {a as b fl} : Exs.cat g (.cons a as) (b :: fl) ρ = (Ex.ev g a ρ).bind fun x => (R.of (spread b x.1.d)).bind fun xs => (Exs.cat g as fl x.2).bind fun r => .ok (xs ++ r.1, r.2) := by rw [Exs.cat]
@[simp] theorem spread_f {d} : spread false d = some [d] := id rfl
@[simp] theorem spread_l {xs} : spread true (.lst xs) = some xs := id rfl
@[simp] theorem spread_t {xs} : spread true (.tup xs) = some xs := id rfl
@[simp] theorem catO_t {ds} : catO true ds = if szOk ds.length then .ok (.frz (.tup ds)) else .stuck := id rfl
@[simp] theorem catO_f {ds} : catO false ds = if szOk ds.length then .ok (.own (.lst ds)) else .stuck := id rfl
@[simp] theorem exs_nil : Exs.ev g .nil ρ = .ok ([], ρ) := by rw [Exs.ev]
@[simp] theorem exs_cons {a as} : Exs.ev g (.cons a as) ρ = (Ex.ev g a ρ).bind fun x => (Exs.ev g as x.2).bind fun r => .ok (.inl x.1.d :: r.1, r.2) := by rw [Exs.ev]
@[simp] theorem exs_bor {i as} : Exs.ev g (.bor i as) ρ = (slot ρ i).bind fun _ => (Exs.ev g as ρ).bind fun r => .ok (.inr i :: r.1, r.2) := by rw [Exs.ev]
@[simp] theorem sms_nil : Sms.ev g lk .nil ρ = .ok (.nx, ρ) := by rw [Sms.ev]
def goS (x : Fl × Env) (k : Env → R (Fl × Env)) : R (Fl × Env) := match x.1 with
      | .nx => k x.2
      | f => .ok (f, x.2)
@[simp] theorem goS_nx {k} : goS (.nx, ρ) k = k ρ := id rfl
@[simp] theorem goS_rt {s k} : goS (.rt s, ρ) k = .ok (.rt s, ρ) := id rfl
@[simp] theorem goS_bk {k} : goS (.bk, ρ) k = .ok (.bk, ρ) := id rfl
@[simp] theorem goS_ct {k} : goS (.ct, ρ) k = .ok (.ct, ρ) := id rfl
@[simp] theorem sms_cons {s r} : Sms.ev g lk (.cons s r) ρ = (Sm.ev g lk s ρ).bind fun x => goS x (Sms.ev g lk r) := by
  rw [Sms.ev]
  all_goals rfl
@[simp] theorem sm_set {i e} : Sm.ev g lk (.set i e) ρ = (e.ev g ρ).bind fun x => if lk i || decide (x.2.length ≤ i) then .stuck else .ok (.nx, x.2.set i (some x.1)) := by rw [Sm.ev]
@[simp] theorem sm_asg {t e} : Sm.ev g lk (.asg t e) ρ = (e.ev g ρ).bind fun x => (t.put lk x.1.d x.2).bind fun ρ1 => .ok (.nx, ρ1) := by rw [Sm.ev]
@[simp] theorem sm_par {is as} : Sm.ev g lk (.par is as) ρ = (as.ev g ρ).bind fun r => (frzs r.1).bind fun ds => (parE lk is ds r.2).bind fun ρ1 => .ok (.nx, ρ1) := by rw [Sm.ev]
@[simp] theorem sm_ex {e} : Sm.ev g lk (.ex e) ρ = (e.ev g ρ).bind fun x => .ok (.nx, x.2) := by rw [Sm.ev]
@[simp] theorem sm_ret {e} : Sm.ev g lk (.ret e) ρ = (retE g lk e ρ).bind fun x => .ok (.rt x.1, x.2) := by rw [Sm.ev]
@[simp] theorem sm_retN : Sm.ev g lk .retN ρ = .ok (.rt (.frz .non), ρ) := by rw [Sm.ev]
@[simp] theorem sm_ife {c a b} : Sm.ev g lk (.ife c a b) ρ = (c.test g ρ).bind fun t => if t.1 then Sms.ev g lk a t.2 else Sms.ev g lk b t.2 := by rw [Sm.ev]
@[simp] theorem sm_aug {i o e} : Sm.ev g lk (.aug i o e) ρ = (slot ρ i).bind fun s => (e.ev g ρ).bind fun x => match s, x.1.d with
      | .frz (.int a), .int b => if lk i || decide (x.2.length ≤ i) || !augB o then .stuck else .ok (.nx, x.2.set i (some (.frz (.int (augI o a b)))))
      | _, _ => .stuck := by rw [Sm.ev]; all_goals rfl
def putL (ρ : Env) (j : Nat) (v : D) (o : Option (Option Sl)) (y : D) : R (Fl × Env) := match o, y with
        | some (some (.own (.lst xs))), .int i => (match ixN xs.length i with
          | some n => .ok (.nx, ρ.set j (some (.own (.lst (xs.set n v)))))
          | none => .stuck)
        | _, _ => .stuck
def putC (ρ : Env) (j : Nat) (v : D) (o : Option (Option Sl)) (y : Option Kk) : R (Fl × Env) := match o, y with
        | some (some (.own (.dic ks))), some kk => if ks.length < sizeLine then .ok (.nx, ρ.set j (some (.own (.dic (setK ks kk v))))) else .stuck
        | _, _ => .stuck
def putN' (ρ : Env) (j : Nat) (v : D) (o : Option (Option Sl)) (y : Option NestedKey) : R (Fl × Env) := match o, y with
        | some (some (.own (.dit ks))), some kk => if ks.length < sizeLine then .ok (.nx, ρ.set j (some (.own (.dit (setK ks kk v))))) else .stuck
        | _, _ => .stuck
def putG (g : G) (j : Nat) (k : Ex) (v : D) (ρ : Env) (o : Option (Option Sl)) : R (Fl × Env) := match o with
      | some (some (.own (.lst _))) => (k.ev g ρ).bind fun y => putL y.2 j v y.2[j]? y.1.d
      | some (some (.own (.dic _))) => (k.ev g ρ).bind fun y => putC y.2 j v y.2[j]? (keyD y.1.d)
      | some (some (.own (.dit _))) => (k.ev g ρ).bind fun y => putN' y.2 j v y.2[j]? (keyT y.1.d)
      | _ => .stuck
@[simp] theorem sm_put {j k e} : Sm.ev g lk (.put j k e) ρ = (e.ev g ρ).bind fun x => putG g j k x.1.d x.2 x.2[j]? := by rw [Sm.ev]; all_goals rfl
@[simp] theorem putG_lst {j k v xs} : putG g j k v ρ (some (some (.own (.lst xs)))) = (k.ev g ρ).bind fun y => putL y.2 j v y.2[j]? y.1.d := id rfl
@[simp] theorem putG_dic {j k v xs} : putG g j k v ρ (some (some (.own (.dic xs)))) = (k.ev g ρ).bind fun y => putC y.2 j v y.2[j]? (keyD y.1.d) := id rfl
@[simp] theorem putG_dit {j k v xs} : putG g j k v ρ (some (some (.own (.dit xs)))) = (k.ev g ρ).bind fun y => putN' y.2 j v y.2[j]? (keyT y.1.d) := id rfl
theorem putL_ok {j v xs i} (h0 : 0 ≤ i) (h1 : i < (xs.length : Int)) : putL ρ j v (some (some (.own (.lst xs)))) (.int i) = .ok (.nx, ρ.set j (some (.own (.lst (xs.set i.toNat v))))) := by
  have : ixN xs.length i = some i.toNat := by unfold ixN; rw [if_pos h0, if_pos h1]
  simp only [putL, this]
@[simp] theorem putC_ok {j v ks kk} : putC ρ j v (some (some (.own (.dic ks)))) (some kk) = if ks.length < sizeLine then .ok (.nx, ρ.set j (some (.own (.dic (setK ks kk v))))) else .stuck := id rfl
@[simp] theorem putN_ok {j v ks kk} : putN' ρ j v (some (some (.own (.dit ks)))) (some kk) = if ks.length < sizeLine then .ok (.nx, ρ.set j (some (.own (.dit (setK ks kk v))))) else .stuck := id rfl
@[simp] theorem keyD_int {i} : keyD (.int i) = some (.inl i) := id rfl
@[simp] theorem keyD_str {i} : keyD (.str i) = some (.inr i) := id rfl
@[simp] theorem sm_augs {j k o e} : Sm.ev g lk (.augs j k o e) ρ = match ρ[j]? with
      | some (some (.own (.lst _))) => (k.ev g ρ).bind fun y => (match y.2[j]?, y.1.d with
        | some (some (.own (.lst xs))), .int i => if i < 0 then .stuck else (match xs[i.toNat]? with
          | some (.int a) => (e.ev g y.2).bind fun x => (match x.2[j]?, x.1.d with
            | some (some (.own (.lst ys))), .int b => if i.toNat < ys.length && augB o then .ok (.nx, x.2.set j (some (.own (.lst (ys.set i.toNat (.int (augI o a b))))))) else .stuck
            | _, _ => .stuck)
          | _ => .stuck)
        | _, _ => .stuck)
      | _ => .stuck := by rw [Sm.ev]; all_goals rfl
@[simp] theorem sm_app {j e} : Sm.ev g lk (.app j e) ρ = match ρ[j]? with
      | some (some (.own (.lst _))) => (e.ev g ρ).bind fun x => (match x.2[j]? with
        | some (some (.own (.lst xs))) => if xs.length < sizeLine then .ok (.nx, x.2.set j (some (.own (.lst (xs ++ [x.1.d]))))) else .stuck
        | _ => .stuck)
      | _ => .stuck := by rw [Sm.ev]; all_goals rfl
@[simp] theorem augB_add : augB .add = true := id rfl
@[simp] theorem augB_sub : augB .sub = true := id rfl
@[simp] theorem augI_add {a b} : augI .add a b = a + b := id rfl
@[simp] theorem augI_sub {a b} : augI .sub a b = a - b := id rfl
@[simp] theorem cd_int {i} : (Cn.int i).d = .int i := id rfl
@[simp] theorem cd_bl {i} : (Cn.bl i).d = .bl i := id rfl
@[simp] theorem cd_str {i} : (Cn.str i).d = .str i := id rfl
@[simp] theorem cd_non : Cn.non.d = .non := id rfl
@[simp] theorem bi_len {ds} : Bi.ap .len ds = lenD ds := id rfl
@[simp] theorem bi_int {ds} : Bi.ap .int ds = intD ds := id rfl
@[simp] theorem bi_abs {ds} : Bi.ap .abs ds = absD ds := id rfl
@[simp] theorem bi_min {ds} : Bi.ap .min ds = minD ds := id rfl
@[simp] theorem bi_max {ds} : Bi.ap .max ds = maxD ds := id rfl
@[simp] theorem bi_sum {ds} : Bi.ap .sum ds = sumD ds := id rfl
@[simp] theorem bi_all {ds} : Bi.ap .all ds = allD ds := id rfl
@[simp] theorem bi_any {ds} : Bi.ap .any ds = anyD ds := id rfl
@[simp] theorem bi_tuple {ds} : Bi.ap .tuple ds = tupD ds := id rfl
@[simp] theorem bi_list {ds} : Bi.ap .list ds = lstD ds := id rfl
@[simp] theorem bi_divmod {ds} : Bi.ap .divmod ds = dvmD ds := id rfl
@[simp] theorem len_lst {xs} : lenD [.lst xs] = .ok (.frz (.int xs.length)) := id rfl
@[simp] theorem len_tup {xs} : lenD [.tup xs] = .ok (.frz (.int xs.length)) := id rfl
@[simp] theorem len_scr {xs} : lenD [.scr xs] = .ok (.frz (.int xs.length)) := id rfl
@[simp] theorem int_int {i} : intD [.int i] = .ok (.frz (.int i)) := id rfl
@[simp] theorem ix_lst {xs i} : ixD (.lst xs) (.int i) = (atD xs i).bind fun d => .ok (.frz d) := id rfl
@[simp] theorem ix_tup {xs i} : ixD (.tup xs) (.int i) = (atD xs i).bind fun d => .ok (.frz d) := id rfl
theorem ix_scr {ns : List Int} {i : Int} (h0 : 0 ≤ i) (h1 : i < ns.length) : ixD (.scr ns) (.int i) = .ok (.frz (.int (ns[i.toNat]?.getD 0))) := by
  have hj : i.toNat < ns.length := by omega
  have : ixN ns.length i = some i.toNat := by unfold ixN; rw [if_pos h0, if_pos h1]
  simp only [ixD, this, List.getElem?_eq_getElem hj]
  rfl
theorem at_ok {xs : List D} {i : Int} (h0 : 0 ≤ i) (h1 : i < xs.length) : atD xs i = R.of xs[i.toNat]? := by
  have : ixN xs.length i = some i.toNat := by unfold ixN; rw [if_pos h0, if_pos h1]
  simp only [atD, this]
@[simp] theorem at_0 {x xs} : atD (x :: xs) 0 = .ok x := by rw [at_ok (by decide) (by simp only [List.length_cons]; omega)]; rfl
@[simp] theorem at_1 {x y xs} : atD (x :: y :: xs) 1 = .ok y := by rw [at_ok (by decide) (by simp only [List.length_cons]; omega)]; rfl
@[simp] theorem at_2 {x y z xs} : atD (x :: y :: z :: xs) 2 = .ok z := by rw [at_ok (by decide) (by simp only [List.length_cons]; omega)]; rfl
theorem plain_int {n : Nat} {i : Int} : D.plain n (.int i) = true := by unfold D.plain; rfl
theorem eqv_int {i j : Int} : D.eqv (.int i) (.int j) = (i == j) := by unfold D.eqv; rfl
@[simp] theorem eqD_int {i j : Int} : eqD (.int i) (.int j) = .ok (i == j) := by
  show (if D.plain 60 (.int i) && D.plain 60 (.int j) then R.ok (D.eqv (.int i) (.int j)) else R.stuck) = _
  rw [plain_int, plain_int, eqv_int]
  rfl
@[simp] theorem eqS_int {g : G} {neg ps ρ} {i j : Int} : eqS g neg ps ρ [.frz (.int i), .frz (.int j)] = .ok (.frz (.bl ((i == j) != neg)), ρ) := by
  simp only [eqS, Sl.d, eqD_int, R.ok_bind]
@[simp] theorem eqS_scr {g : G} {neg ps ρ ns} : eqS g neg ps ρ [.frz (.scr ns), .frz (.lst [])] = .ok (.frz (.bl (ns.isEmpty != neg)), ρ) := id rfl
@[simp] theorem eqD_scr {ns} : eqD (.scr ns) (.lst []) = .ok ns.isEmpty := id rfl
def raiR {α : Type} (c : Nat) (ds : List D) : Option (List Nat) → R α
  | some fs => if fs.length = ds.length then .exc c (fs.zip ds).reverse else .stuck
  | none => .stuck
@[simp] theorem raiR_some {α : Type} {c ds fs} : (raiR c ds (some fs) : R α) = if fs.length = ds.length then .exc c (fs.zip ds).reverse else .stuck := id rfl
@[simp] theorem sm_rai {c as} : Sm.ev g lk (.rai c as) ρ = (as.ev g ρ).bind fun r => (frzs r.1).bind fun ds => raiR c ds (g.exf c) := by
  rw [Sm.ev]
  all_goals congr 1
@[simp] theorem sm_pass : Sm.ev g lk .pass ρ = .ok (.nx, ρ) := by rw [Sm.ev]
@[simp] theorem sm_brk : Sm.ev g lk .brk ρ = .ok (.bk, ρ) := by rw [Sm.ev]
@[simp] theorem sm_cnt : Sm.ev g lk .cnt ρ = .ok (.ct, ρ) := by rw [Sm.ev]
@[simp] theorem put_var {i d} : Tg.put lk (.var i) d ρ = if lk i then .stuck else if i < ρ.length then .ok (ρ.set i (some (.frz d))) else .stuck := by rw [Tg.put]
def fldP (ρ : Env) (j f : Nat) (d : D) (o : Option (Option Sl)) : R Env := match o with
    | some (some (.own (.ins c fs))) => if fs.length < 1000 then .ok (ρ.set j (some (.own (.ins c (putN f d fs))))) else .stuck
    | _ => .stuck
@[simp] theorem put_fld {j f d} : Tg.put lk (.fld j f) d ρ = fldP ρ j f d ρ[j]? := by rw [Tg.put]; rfl
@[simp] theorem fldP_ok {j f d c fs} : fldP ρ j f d (some (some (.own (.ins c fs)))) = if fs.length < 1000 then .ok (ρ.set j (some (.own (.ins c (putN f d fs))))) else .stuck := id rfl
@[simp] theorem putN_nil {f d} : putN f d [] = [(f, d)] := id rfl
@[simp] theorem putN_cons {f d k x r} : putN f d ((k, x) :: r) = if k = f then (k, d) :: r else (k, x) :: putN f d r := id rfl
@[simp] theorem put_tup {ts ds} : Tg.put lk (.tup ts) (.tup ds) ρ = Tgs.put lk ts ds ρ := by rw [Tg.put]
@[simp] theorem put_tupL {ts ds} : Tg.put lk (.tup ts) (.lst ds) ρ = Tgs.put lk ts ds ρ := by rw [Tg.put]
@[simp] theorem puts_nil : Tgs.put lk .nil [] ρ = .ok ρ := by rw [Tgs.put]
@[simp] theorem puts_cons {t ts d ds} : Tgs.put lk (.cons t ts) (d :: ds) ρ = (Tg.put lk t d ρ).bind fun ρ1 => Tgs.put lk ts ds ρ1 := by rw [Tgs.put]
@[simp] theorem test_ev {e} : Ex.test g e ρ = (e.ev g ρ).bind fun x => (g.truth x.1.d).bind fun t => .ok (t, x.2) := id rfl
@[simp] theorem truth_bl {b} : g.truth (.bl b) = .ok b := id rfl
def trB (r : Sl × List (Option Sl)) : R Bool := match r.1.d with
      | .bl b => .ok b
      | _ => .stuck
@[simp] theorem trB_bl {b os} : trB (.frz (.bl b), os) = .ok b := id rfl
def trK (g : G) (c : Nat) (fs : List (Nat × D)) : Option Nat → R Bool
  | some f => (g.call f [.frz (.ins c fs)]).bind trB
  | none => .stuck
@[simp] theorem trK_some {c fs f} : trK g c fs (some f) = (g.call f [.frz (.ins c fs)]).bind trB := id rfl
@[simp] theorem truth_ins {c fs} : g.truth (.ins c fs) = trK g c fs (g.tru c) := by
  show (match g.tru c with
    | some f => (g.call f [.frz (.ins c fs)]).bind fun r => match r.1.d with
      | .bl b => R.ok b
      | _ => .stuck
    | none => .stuck) = _
  cases g.tru c <;> rfl
@[simp] theorem truth_non : g.truth .non = .ok false := id rfl
@[simp] theorem truth_int {i} : g.truth (.int i) = .ok (i != 0) := id rfl
@[simp] theorem rs_nil : rs ρ [] = .ok [] := id rfl
@[simp] theorem rs_inl {d r} : rs ρ (.inl d :: r) = (rs ρ r).bind fun ds => .ok (d :: ds) := id rfl
@[simp] theorem rs_inr {j r} : rs ρ (.inr j :: r) = (slot ρ j).bind fun s => (rs ρ r).bind fun ds => .ok (s.d :: ds) := id rfl
@[simp] theorem sls_nil : sls ρ [] = .ok [] := id rfl
@[simp] theorem sls_inl {d r} : sls ρ (.inl d :: r) = (sls ρ r).bind fun ds => .ok (.frz d :: ds) := id rfl
@[simp] theorem sls_inr {j r} : sls ρ (.inr j :: r) = (slot ρ j).bind fun s => (sls ρ r).bind fun ds => .ok (s :: ds) := id rfl
@[simp] theorem frzs_nil : frzs [] = .ok [] := id rfl
@[simp] theorem frzs_inl {d r} : frzs (.inl d :: r) = (frzs r).bind fun ds => .ok (d :: ds) := id rfl
@[simp] theorem bors_nil : bors [] = [] := id rfl
@[simp] theorem bors_inl {d r} : bors (.inl d :: r) = bors r := id rfl
@[simp] theorem bors_inr {j r} : bors (.inr j :: r) = j :: bors r := id rfl
@[simp] theorem wb_nil {os} : wb [] os ρ = ρ := by cases os <;> rfl
@[simp] theorem wb_nil2 {ps} : wb ps [] ρ = ρ := by
  cases ps with
  | nil => rfl
  | cons p ps => cases p <;> rfl
@[simp] theorem wb_inl {d r o os} : wb (.inl d :: r) (o :: os) ρ = wb r os ρ := id rfl
@[simp] theorem wb_inr {j r o os} : wb (.inr j :: r) (o :: os) ρ = wb r os (if isOwn ρ[j]?.join then ρ.set j o else ρ) := id rfl
@[simp] theorem isOwn_none : isOwn none = false := id rfl
@[simp] theorem isOwn_frz {d} : isOwn (some (.frz d)) = false := id rfl
@[simp] theorem isOwn_own {d} : isOwn (some (.own d)) = true := id rfl
@[simp] theorem d_frz {d} : (Sl.frz d).d = d := id rfl
@[simp] theorem d_own {d} : (Sl.own d).d = d := id rfl
theorem slot_ok {j s} (h : ρ[j]? = some (some s)) : slot ρ j = .ok s := by unfold slot; rw [h]
@[simp] theorem slot_eq {j} : slot ρ j = R.of (ρ[j]?.join) := by
  unfold slot
  cases h : ρ[j]? with
  | none => rfl
  | some o => cases o <;> rfl
@[simp] theorem of_some {α : Type} {a : α} : R.of (some a) = .ok a := id rfl
def rdS (ρ : Env) (i : Nat) : Option Sl → R (Sl × Env)
  | some (.frz d) => .ok (.frz d, ρ)
  | some (.own d) => .ok (.frz d, ρ.set i (some (.frz d)))
  | none => .stuck
@[simp] theorem rdS_frz {i d} : rdS ρ i (some (.frz d)) = .ok (.frz d, ρ) := id rfl
@[simp] theorem rdS_own {i d} : rdS ρ i (some (.own d)) = .ok (.frz d, ρ.set i (some (.frz d))) := id rfl
@[simp] theorem rdF_eq {i} : rdF ρ i = rdS ρ i (ρ[i]?.join) := by
  unfold rdF
  cases h : ρ[i]? with
  | none => rfl
  | some o => cases o with
    | none => rfl
    | some s => cases s <;> rfl
def rcK (g : G) (m : Nat) : Option Sl → R Nat
  | some s => match s.d with
    | .ins c fs => if (fs.lookup m).isSome then .stuck else R.of (g.mth c m)
    | _ => .stuck
  | none => .stuck
@[simp] theorem rcK_frz {m c fs} : rcK g m (some (.frz (.ins c fs))) = if (fs.lookup m).isSome then .stuck else R.of (g.mth c m) := id rfl
@[simp] theorem rcK_own {m c fs} : rcK g m (some (.own (.ins c fs))) = if (fs.lookup m).isSome then .stuck else R.of (g.mth c m) := id rfl
@[simp] theorem recv_inr {m j} : recv g m ρ [.inr j] = rcK g m ρ[j]?.join := by
  unfold recv
  simp only [rs_inr, slot_eq, rs_nil]
  cases ρ[j]?.join with
  | none => rfl
  | some s =>
    cases s with
    | frz d => cases d <;> rfl
    | own d => cases d <;> rfl
@[simp] theorem recv_inl {m c fs} : recv g m ρ [.inl (.ins c fs)] = if (fs.lookup m).isSome then .stuck else R.of (g.mth c m) := by
  unfold recv; simp
@[simp] theorem lkOf_eq {as i} : lkOf as i = isOwn as[i]? := id rfl
def goO : List Sl → List (Option Sl) → List (Option Sl)
  | [], _ => []
  | .own _ :: as, ρ => ρ.head?.join :: goO as ρ.tail
  | .frz _ :: as, ρ => none :: goO as ρ.tail
@[simp] theorem goO_nil : goO [] ρ = [] := id rfl
@[simp] theorem goO_frz {d as} : goO (.frz d :: as) ρ = none :: goO as ρ.tail := id rfl
@[simp] theorem goO_own {d as} : goO (.own d :: as) ρ = ρ.head?.join :: goO as ρ.tail := id rfl
theorem outs_go : ∀ {as : List Sl} {ρ : Env}, outs as ρ = goO as ρ
  | [], ρ => rfl
  | a :: as, ρ => by
    have ih := outs_go (as := as) (ρ := ρ.tail)
    have : outs (a :: as) ρ = (if isOwn (some a) then ρ.head?.join else none) :: outs as ρ.tail := by
      unfold outs
      rw [List.length_cons, List.range_succ_eq_map, List.map_cons, List.map_map]
      congr 1
      · cases ρ <;> rfl
      · apply List.map_congr_left
        intro i _
        cases ρ with
        | nil => simp
        | cons => rfl
    rw [this, ih]
    cases a <;> rfl
@[simp] theorem outs_eq {as} : outs as ρ = goO as ρ := outs_go
end

section
@[simp] theorem ap_bin {o x y} : Op.ap (.bin o) [x, y] = o.ap x y := id rfl
@[simp] theorem ap_cmp {o x y} : Op.ap (.cmp o) [x, y] = (o.ap x y).bind fun b => .ok (.frz (.bl b)) := id rfl
@[simp] theorem ap_ix {x y} : Op.ap .ix [x, y] = ixD x y := id rfl
@[simp] theorem ap_attr {f x} : Op.ap (.attr f) [x] = attrD f x := id rfl
@[simp] theorem ap_tup {ds} : Op.ap .tup ds = if szOk ds.length then .ok (.frz (.tup ds)) else .stuck := by cases ds <;> rfl
@[simp] theorem ap_lst {ds} : Op.ap .lst ds = if szOk ds.length then .ok (.own (.lst ds)) else .stuck := by cases ds <;> rfl
@[simp] theorem ap_inst {ts x} : Op.ap (.inst ts) [x] = if x.tyOk then .ok (.frz (.bl (ts.any fun t => t.has x))) else .stuck := id rfl
@[simp] theorem ty_non : D.tyOk .non = true := id rfl
@[simp] theorem ty_bl {b} : D.tyOk (.bl b) = true := id rfl
@[simp] theorem ty_int {b} : D.tyOk (.int b) = true := id rfl
@[simp] theorem ty_str {b} : D.tyOk (.str b) = true := id rfl
@[simp] theorem ty_tup {b} : D.tyOk (.tup b) = true := id rfl
@[simp] theorem ty_lst {b} : D.tyOk (.lst b) = true := id rfl
@[simp] theorem ty_scr {b} : D.tyOk (.scr b) = true := id rfl
@[simp] theorem ty_ins {b c} : D.tyOk (.ins b c) = true := id rfl
@[simp] theorem ty_dic {b} : D.tyOk (.dic b) = true := id rfl
@[simp] theorem ap_neg {i} : Op.ap .neg [.int i] = .ok (.frz (.int (-i))) := id rfl
@[simp] theorem ap_bi {b ds} : Op.ap (.bi b) ds = b.ap ds := by cases ds <;> rfl
@[simp] theorem ap_slc0 {x} : Op.ap (.slc false false) [x] = slcD x none none := id rfl
@[simp] theorem ap_slc1 {x i} : Op.ap (.slc true false) [x, .int i] = slcD x (some i) none := id rfl
@[simp] theorem ap_slc2 {x i} : Op.ap (.slc false true) [x, .int i] = slcD x none (some i) := id rfl
@[simp] theorem ap_slc3 {x i j} : Op.ap (.slc true true) [x, .int i, .int j] = slcD x (some i) (some j) := id rfl
@[simp] theorem b_add {i j} : Bop.ap .add (.int i) (.int j) = .ok (.frz (.int (i + j))) := id rfl
@[simp] theorem b_addT {xs ys} : Bop.ap .add (.tup xs) (.tup ys) = if szOk (xs.length + ys.length) then .ok (.frz (.tup (xs ++ ys))) else .stuck := id rfl
@[simp] theorem b_addL {xs ys} : Bop.ap .add (.lst xs) (.lst ys) = if szOk (xs.length + ys.length) then .ok (.own (.lst (xs ++ ys))) else .stuck := id rfl
@[simp] theorem b_rep {xs j} : Bop.ap .mul (.lst xs) (.int j) = if decide (-(2 ^ 63) ≤ j) && decide (j < 2 ^ 63) && szOk (xs.length * j.toNat) then .ok (.own (.lst (List.replicate j.toNat xs).flatten)) else .stuck := id rfl
@[simp] theorem b_sub {i j} : Bop.ap .sub (.int i) (.int j) = .ok (.frz (.int (i - j))) := id rfl
@[simp] theorem b_mul {i j} : Bop.ap .mul (.int i) (.int j) = if mulOk i j then .ok (.frz (.int (i * j))) else .stuck := id rfl
@[simp] theorem b_fdiv {i j} : Bop.ap .fdiv (.int i) (.int j) = if divOk j then .ok (.frz (.int (i.fdiv j))) else .stuck := id rfl
@[simp] theorem b_mod {i j} : Bop.ap .mod (.int i) (.int j) = if j = 0 then .stuck else .ok (.frz (.int (i.fmod j))) := id rfl
@[simp] theorem b_shl {i j} : Bop.ap .shl (.int i) (.int j) = if decide (0 ≤ j) && decide (i.natAbs.log2 + j.toNat + 2 ≤ 134217728) then .ok (.frz (.int (i * 2 ^ j.toNat))) else .stuck := id rfl
@[simp] theorem b_shr {i j} : Bop.ap .shr (.int i) (.int j) = if decide (0 ≤ j) then .ok (.frz (.int (i / 2 ^ j.toNat))) else .stuck := id rfl
@[simp] theorem ap_dnewF : Op.ap (.dnew false) [] = .ok (.own (.dic [])) := id rfl
@[simp] theorem ap_dnewT : Op.ap (.dnew true) [] = .ok (.own (.dit [])) := id rfl
@[simp] theorem ap_dsp {ds} : Op.ap .dsp ds = dspD ds := by cases ds <;> rfl
@[simp] theorem ap_rev {xs} : Op.ap .rev [.lst xs] = .ok (.own (.lst xs.reverse)) := id rfl
@[simp] theorem ap_lrng {a b} : Op.ap .lrng [.int a, .int b] = if lims a && lims b && szOk (b - a).toNat then .ok (.own (.lst (rngL a b))) else .stuck := id rfl
@[simp] theorem pk_dnew {t} : Op.pk (.dnew t) = true := id rfl
@[simp] theorem pk_dsp : Op.pk .dsp = false := id rfl
@[simp] theorem pk_rev : Op.pk .rev = true := id rfl
@[simp] theorem pk_lrng : Op.pk .lrng = true := id rfl
@[simp] theorem b_pow {i j} : Bop.ap .pow (.int i) (.int j) = if powOk i j then .ok (.frz (.int (i ^ j.toNat))) else .stuck := id rfl
@[simp] theorem c_lt {i j} : Cop.ap .lt (.int i) (.int j) = .ok (decide (i < j)) := id rfl
@[simp] theorem c_gt {i j} : Cop.ap .gt (.int i) (.int j) = .ok (decide (j < i)) := id rfl
@[simp] theorem c_le {i j} : Cop.ap .le (.int i) (.int j) = .ok (decide (i ≤ j)) := id rfl
@[simp] theorem c_ge {i j} : Cop.ap .ge (.int i) (.int j) = .ok (decide (j ≤ i)) := id rfl
@[simp] theorem c_isn0 : Cop.ap .isn .non .non = .ok true := id rfl
@[simp] theorem at_ins {f c fs} : attrD f (.ins c fs) = match fs.lookup f with
    | some d => .ok (.frz d)
    | none => .stuck := rfl
@[simp] theorem pk_bin {o} : Op.pk (.bin o) = true := id rfl
@[simp] theorem pk_cmp {o} : Op.pk (.cmp o) = true := id rfl
@[simp] theorem pk_ix : Op.pk .ix = true := id rfl
@[simp] theorem pk_attr {o} : Op.pk (.attr o) = true := id rfl
@[simp] theorem pk_inst {o} : Op.pk (.inst o) = true := id rfl
@[simp] theorem pk_neg : Op.pk .neg = true := id rfl
@[simp] theorem pk_bi {b} : Op.pk (.bi b) = true := id rfl
@[simp] theorem pk_slc {b c} : Op.pk (.slc b c) = true := id rfl
@[simp] theorem pk_tup : Op.pk .tup = false := id rfl
@[simp] theorem pk_lst : Op.pk .lst = false := id rfl
@[simp] theorem sz_lit {n : Nat} (h : n ≤ 16777216) : szOk n = true := decide_eq_true (Nat.le_trans h (by decide +kernel))
@[simp] theorem g_call {p : Pr} {c} : (p.g c).call = c := id rfl
@[simp] theorem g_glb {p : Pr} {c} : (p.g c).glb = p.glb := id rfl
@[simp] theorem g_mth {p : Pr} {c} : (p.g c).mth = p.mth := id rfl
@[simp] theorem g_ini {p : Pr} {c} : (p.g c).ini = p.ini := id rfl
@[simp] theorem g_tru {p : Pr} {c} : (p.g c).tru = p.tru := id rfl
@[simp] theorem g_eqm {p : Pr} {c} : (p.g c).eqm = p.eqm := id rfl
@[simp] theorem g_exf {p : Pr} {c} : (p.g c).exf = p.exf := id rfl
@[simp] theorem g_flt {p : Pr} {c} : (p.g c).flt = p.flt := id rfl
@[simp] theorem g_w {p : Pr} {c} : (p.g c).w = p.w := id rfl
@[simp] theorem retE_var {g : G} {lk : Nat → Bool} {i ρ} : retE g lk (.var i) ρ = if lk i then rdF ρ i else (match ρ[i]? with
    | some (some (.own d)) => .ok (.own d, ρ.set i none)
    | _ => rdF ρ i) := rfl
@[simp] theorem retE_op {g : G} {lk : Nat → Bool} {o as ρ} : retE g lk (.op o as) ρ = (Ex.op o as).ev g ρ := id rfl
@[simp] theorem retE_con {g : G} {lk : Nat → Bool} {o ρ} : retE g lk (.con o) ρ = (Ex.con o).ev g ρ := id rfl
@[simp] theorem retE_glb {g : G} {lk : Nat → Bool} {o ρ} : retE g lk (.glb o) ρ = (Ex.glb o).ev g ρ := id rfl
@[simp] theorem retE_chn {g : G} {lk : Nat → Bool} {o p a b c ρ} : retE g lk (.chn o p a b c) ρ = (Ex.chn o p a b c).ev g ρ := id rfl
@[simp] theorem retE_and {g : G} {lk : Nat → Bool} {a b ρ} : retE g lk (.and a b) ρ = (Ex.and a b).ev g ρ := id rfl
@[simp] theorem retE_or {g : G} {lk : Nat → Bool} {a b ρ} : retE g lk (.or a b) ρ = (Ex.or a b).ev g ρ := id rfl
@[simp] theorem retE_not {g : G} {lk : Nat → Bool} {a ρ} : retE g lk (.not a) ρ = (Ex.not a).ev g ρ := id rfl
@[simp] theorem retE_tru {g : G} {lk : Nat → Bool} {a ρ} : retE g lk (.tru a) ρ = (Ex.tru a).ev g ρ := id rfl
@[simp] theorem retE_eqv {g : G} {lk : Nat → Bool} {o as ρ} : retE g lk (.eqv o as) ρ = (Ex.eqv o as).ev g ρ := id rfl
@[simp] theorem retE_ife {g : G} {lk : Nat → Bool} {c a b ρ} : retE g lk (.ife c a b) ρ = (Ex.ife c a b).ev g ρ := id rfl
@[simp] theorem retE_call {g : G} {lk : Nat → Bool} {f as ρ} : retE g lk (.call f as) ρ = (Ex.call f as).ev g ρ := id rfl
@[simp] theorem retE_make {g : G} {lk : Nat → Bool} {f as ρ} : retE g lk (.make f as) ρ = (Ex.make f as).ev g ρ := id rfl
@[simp] theorem retE_meth {g : G} {lk : Nat → Bool} {m o as ρ} : retE g lk (.meth m o as) ρ = (Ex.meth m o as).ev g ρ := id rfl
@[simp] theorem retE_bm {g : G} {lk : Nat → Bool} {m o as ρ} : retE g lk (.bm m o as) ρ = (Ex.bm m o as).ev g ρ := id rfl
@[simp] theorem retE_cat {g : G} {lk : Nat → Bool} {m o as ρ} : retE g lk (.cat m o as) ρ = (Ex.cat m o as).ev g ρ := id rfl
@[simp] theorem retE_lc2 {g : G} {lk : Nat → Bool} {t vs k as cs t1 vs1 k1 as1 cs1 e ρ} : retE g lk (.lc2 t vs k as cs t1 vs1 k1 as1 cs1 e) ρ = (Ex.lc2 t vs k as cs t1 vs1 k1 as1 cs1 e).ev g ρ := id rfl
@[simp] theorem retE_lc {g : G} {lk : Nat → Bool} {t vs k as cs e ρ} : retE g lk (.lc t vs k as cs e) ρ = (Ex.lc t vs k as cs e).ev g ρ := id rfl
@[simp] theorem retE_flt {g : G} {lk : Nat → Bool} {f fz e ρ} : retE g lk (.flt f fz e) ρ = (Ex.flt f fz e).ev g ρ := id rfl
theorem run_eq {g : G} {f : Fn} {as : List Sl} (h : as.length = f.np) : f.run g as = (f.body.ev g (lkOf as) (as.map some ++ List.replicate (f.nn - f.np) none)).bind fun r => match r.1 with
      | .nx => .ok (.frz .non, outs as r.2)
      | .rt s => .ok (s, outs as r.2)
      | _ => .stuck := if_pos h
end
/-! bounds -/
class Bd (e : outParam Nat) (i : Int) : Prop where
  le : i.natAbs < 2 ^ e
theorem mulOk_bd {e f : Nat} {i j : Int} [h1 : Bd e i] [h2 : Bd f j] (h : e + f ≤ 100000000) : mulOk i j = true := by
  have l : ∀ {n e : Nat}, n < 2 ^ e → n.log2 ≤ e := fun {n e} h => by
    by_cases hn : n = 0
    · subst hn
      exact Nat.zero_le _
    · exact Nat.le_of_lt ((Nat.log2_lt hn).mpr h)
  have a := l h1.le
  have b := l h2.le
  exact decide_eq_true (by omega)
end Rx.S

set_option Elab.async false
set_option linter.all false
set_option maxRecDepth 100000
/-! RxS2: comprehensions, loops, bounds. -/
namespace Rx.S
open PySem
section
variable {g : G} {ρ : Env} {lk : Nat → Bool}
theorem wipe_len : ∀ {vs : List Nat} {ρ : Env}, (wipeE ρ vs).length = ρ.length
  | [], ρ => rfl
  | i :: vs, ρ => by unfold wipeE; rw [wipe_len, List.length_set]
theorem wipe_at : ∀ {vs : List Nat} {ρ : Env} {j : Nat}, (wipeE ρ vs)[j]? = if j ∈ vs then (if j < ρ.length then some none else none) else ρ[j]?
  | [], ρ, j => by simp [wipeE]
  | i :: vs, ρ, j => by
    unfold wipeE
    rw [wipe_at, List.length_set]
    by_cases h : j ∈ vs
    · simp [h]
    · by_cases e : j = i
      · subst e
        simp [h]
        by_cases hl : j < ρ.length
        · simp [hl]
        · simp [hl]
      · simp [h, e, List.getElem?_set_ne (Ne.symm e)]
theorem rest_at : ∀ {vs : List Nat} {ρ0 ρ : Env} {j : Nat}, (restE ρ0 ρ vs)[j]? = if j ∈ vs then (if j < ρ.length then some ρ0[j]?.join else none) else ρ[j]?
  | [], ρ0, ρ, j => by simp [restE]
  | i :: vs, ρ0, ρ, j => by
    unfold restE
    rw [rest_at, List.length_set]
    by_cases h : j ∈ vs
    · simp [h]
    · by_cases e : j = i
      · subst e
        by_cases hl : j < ρ.length
        · simp [h, hl]
        · simp [h, hl]
      · simp [h, e, List.getElem?_set_ne (Ne.symm e)]
theorem rest_wipe {vs : List Nat} {ρ0 ρ : Env} (h : wipeE ρ vs = wipeE ρ0 vs) : restE ρ0 ρ vs = ρ0 := by
  have hl : ρ.length = ρ0.length := by
    have := congrArg List.length h
    rwa [wipe_len, wipe_len] at this
  apply List.ext_getElem?
  intro j
  rw [rest_at]
  by_cases hj : j ∈ vs
  · simp only [hj, if_true]
    by_cases l : j < ρ.length
    · simp only [l, if_true]
      rw [List.getElem?_eq_getElem (by rw [← hl]; exact l)]
      rfl
    · simp only [l, if_false]
      rw [List.getElem?_eq_none (by omega)]
  · simp only [hj, if_false]
    have := congrArg (fun (l : Env) => l[j]?) h
    simp only [wipe_at, hj, if_false] at this
    exact this
theorem lcL_map {turn : D → Env → R (Option D × Env)} {W : Env → Env} {w : Env} {hs : D → Option D} : ∀ {its : List D} {acc : List D} {ρ : Env}, (∀ d ∈ its, ∀ ρ1, W ρ1 = w → ∃ ρ2, turn d ρ1 = .ok (hs d, ρ2) ∧ W ρ2 = w) → W ρ = w → acc.length + its.length ≤ sizeLine →
    ∃ ρ2, lcL turn its acc ρ = .ok (acc ++ its.filterMap hs, ρ2) ∧ W ρ2 = w
  | [], acc, ρ, _, hw, _ => ⟨ρ, by simp [lcL], hw⟩
  | d :: its, acc, ρ, h, hw, hl => by
    obtain ⟨ρ2, e, hw2⟩ := h d List.mem_cons_self ρ hw
    rw [List.length_cons] at hl
    unfold lcL
    rw [e]
    simp only [R.calm, R.ok_bind]
    cases hd : hs d with
    | none =>
      obtain ⟨ρ3, e3, h3⟩ := lcL_map (turn := turn) (its := its) (acc := acc) (ρ := ρ2) (fun d hd => h d (List.mem_cons_of_mem _ hd)) hw2 (by omega)
      exact ⟨ρ3, by simp only [e3, List.filterMap_cons, hd], h3⟩
    | some x =>
      obtain ⟨ρ3, e3, h3⟩ := lcL_map (turn := turn) (its := its) (acc := acc ++ [x]) (ρ := ρ2) (fun d hd => h d (List.mem_cons_of_mem _ hd)) hw2 (by rw [List.length_append, List.length_singleton]; omega)
      refine ⟨ρ3, ?_, h3⟩
      show (if acc.length < sizeLine then lcL turn its (acc ++ [x]) ρ2 else R.stuck) = _
      rw [if_pos (by omega), e3, List.filterMap_cons, hd, List.append_assoc]
      rfl
def lcT (g : G) (t : Tg) (vs : List Nat) (cs : Exs) (e : Ex) (d : D) (ρ1 : Env) : R (Option D × Env) :=
  (Tg.put (fun i => !(vs.contains i)) t d (wipeE ρ1 vs)).bind fun ρ2 => (Exs.tests g cs ρ2).bind fun b => if b.1 then (Ex.ev g e b.2).bind fun x => .ok (some x.1.d, x.2) else .ok (none, b.2)
def lcR (turn : D → Env → R (Option D × Env)) (vs : List Nat) (its : List D) (ρ : Env) : R (Sl × Env) := (lcL turn its [] ρ).bind fun q => .ok (.own (.lst q.1), restE ρ q.2 vs)
@[simp] theorem ev_lc {t vs k as cs e} : Ex.ev g (.lc t vs k as cs e) ρ = (Exs.ev g as ρ).bind fun r => (frzs r.1).bind fun ds => (k.its ds).bind fun its => lcR (lcT g t vs cs e) vs its r.2 := by rw [Ex.ev]; all_goals rfl
/-- a comprehension whose turns leave nothing behind -/
theorem lcR_ok {turn : D → Env → R (Option D × Env)} {vs : List Nat} {its : List D} (hs : D → Option D)
    (h2 : ∀ d ∈ its, ∀ ρ1, wipeE ρ1 vs = wipeE ρ vs → ∃ ρ2, turn d ρ1 = .ok (hs d, ρ2) ∧ wipeE ρ2 vs = wipeE ρ vs) (hl : its.length ≤ sizeLine) : lcR turn vs its ρ = .ok (.own (.lst (its.filterMap hs)), ρ) := by
  unfold lcR
  obtain ⟨ρ2, e2, w2⟩ := lcL_map (turn := turn) (W := fun ρ => wipeE ρ vs) (w := wipeE ρ vs) (hs := hs) (its := its) (acc := []) (ρ := ρ) h2 rfl (by simpa using hl)
  rw [e2]
  simp only [R.ok_bind, List.nil_append, rest_wipe w2]
theorem lc_ok {t : Tg} {vs : List Nat} {cs : Exs} {e : Ex} {its : List D} (hs : D → Option D)
    (h2 : ∀ d ∈ its, ∃ ρ2, lcT g t vs cs e d ρ = .ok (hs d, ρ2) ∧ wipeE ρ2 vs = wipeE ρ vs) (hl : its.length ≤ sizeLine) : lcR (lcT g t vs cs e) vs its ρ = .ok (.own (.lst (its.filterMap hs)), ρ) :=
  lcR_ok hs (fun d hd ρ1 hw => by
    obtain ⟨ρ2, h, h3⟩ := h2 d hd
    refine ⟨ρ2, ?_, h3⟩
    unfold lcT at h ⊢
    rw [hw]
    exact h) hl
@[simp] theorem tests_nil : Exs.tests g .nil ρ = .ok (true, ρ) := by rw [Exs.tests]
@[simp] theorem tests_cons {a as} : Exs.tests g (.cons a as) ρ = (Ex.ev g a ρ).bind fun x => (g.truth x.1.d).bind fun t => if t then Exs.tests g as x.2 else .ok (false, x.2) := by rw [Exs.tests]
@[simp] theorem wipe_nil : wipeE ρ [] = ρ := id rfl
@[simp] theorem wipe_cons {i is} : wipeE ρ (i :: is) = wipeE (ρ.set i none) is := id rfl
/-- a loop by what holds ahead of each turn -/
theorem loopL_inv {turn : D → Env → R (Fl × Env)} {Q : Fl × Env → Prop} (I : List D → Env → Prop)
    (h : ∀ d ds ρ, I (d :: ds) ρ → (∃ ρ', (turn d ρ = .ok (.nx, ρ') ∨ turn d ρ = .ok (.ct, ρ')) ∧ I ds ρ') ∨ (∃ ρ', turn d ρ = .ok (.bk, ρ') ∧ Q (.nx, ρ')) ∨ ∃ s ρ', turn d ρ = .ok (.rt s, ρ') ∧ Q (.rt s, ρ'))
    (h0 : ∀ ρ, I [] ρ → Q (.nx, ρ)) : ∀ (its : List D) (ρ : Env), I its ρ → ∃ r, loopL turn its ρ = .ok r ∧ Q r
  | [], ρ, hi => ⟨_, rfl, h0 ρ hi⟩
  | d :: its, ρ, hi => by
    unfold loopL
    rcases h d its ρ hi with ⟨ρ', e | e, h1⟩ | ⟨ρ', e, h1⟩ | ⟨s, ρ', e, h1⟩
    · rw [e]; exact loopL_inv I h h0 its ρ' h1
    · rw [e]; exact loopL_inv I h h0 its ρ' h1
    · rw [e]; exact ⟨_, rfl, h1⟩
    · rw [e]; exact ⟨_, rfl, h1⟩
theorem loopL_go {turn : D → Env → R (Fl × Env)} (I : List D → Env → Prop) (h : ∀ d ds ρ, I (d :: ds) ρ → ∃ ρ', turn d ρ = .ok (.nx, ρ') ∧ I ds ρ') (its : List D) (ρ : Env) (h0 : I its ρ) : ∃ ρ', loopL turn its ρ = .ok (.nx, ρ') ∧ I [] ρ' := by
  obtain ⟨r, e, ρ', q, h1⟩ := loopL_inv (turn := turn) (Q := fun r => ∃ ρ', r = (.nx, ρ') ∧ I [] ρ') I (fun d ds ρ hi => by
    obtain ⟨ρ', e, h1⟩ := h d ds ρ hi
    exact .inl ⟨ρ', .inl e, h1⟩) (fun ρ hi => ⟨ρ, rfl, hi⟩) its ρ h0
  subst q
  exact ⟨ρ', e, h1⟩
@[simp] theorem loopL_nil {turn : D → Env → R (Fl × Env)} {ρ : Env} : loopL turn [] ρ = .ok (.nx, ρ) := id rfl
theorem loopL_nx {turn : D → Env → R (Fl × Env)} {d its ρ ρ1} (h : turn d ρ = .ok (.nx, ρ1)) : loopL turn (d :: its) ρ = loopL turn its ρ1 := by
  rw [loopL, h]
  rfl
def forT (g : G) (lk : Nat → Bool) (t : Tg) (b : Sms) (d : D) (ρ1 : Env) : R (Fl × Env) := (t.put lk d ρ1).bind fun ρ2 => Sms.ev g lk b ρ2
@[simp] theorem sm_for {t k as b} : Sm.ev g lk (.for_ t k as b) ρ = (Exs.ev g as ρ).bind fun r => (frzs r.1).bind fun ds => (k.its ds).bind fun its => loopL (forT g lk t b) its r.2 := by rw [Sm.ev]; all_goals rfl
@[simp] theorem forT_eq {t b d ρ1} : forT g lk t b d ρ1 = (t.put lk d ρ1).bind fun ρ2 => Sms.ev g lk b ρ2 := id rfl
def tstK (g : G) (e : Ex) (b : Bool × Env) : R (Option D × Env) := if b.1 then (Ex.ev g e b.2).bind fun x => .ok (some x.1.d, x.2) else .ok (none, b.2)
@[simp] theorem tstK_t {e} : tstK g e (true, ρ) = (Ex.ev g e ρ).bind fun x => .ok (some x.1.d, x.2) := id rfl
@[simp] theorem tstK_f {e} : tstK g e (false, ρ) = .ok (none, ρ) := id rfl
@[simp] theorem lcT_eq {t vs cs e d ρ1} : lcT g t vs cs e d ρ1 = (Tg.put (fun i => !(vs.contains i)) t d (wipeE ρ1 vs)).bind fun ρ2 => (Exs.tests g cs ρ2).bind (tstK g e) := id rfl
def lpK (turn : D → Env → R (Fl × Env)) (ds : List D) (r : Fl × Env) : R (Fl × Env) := match r.1 with
    | .nx => loopL turn ds r.2
    | .ct => loopL turn ds r.2
    | .bk => .ok (.nx, r.2)
    | .rt s => .ok (.rt s, r.2)
@[simp] theorem lpK_nx {turn : D → Env → R (Fl × Env)} {ds} : lpK turn ds (.nx, ρ) = loopL turn ds ρ := id rfl
@[simp] theorem lpK_ct {turn : D → Env → R (Fl × Env)} {ds} : lpK turn ds (.ct, ρ) = loopL turn ds ρ := id rfl
@[simp] theorem lpK_bk {turn : D → Env → R (Fl × Env)} {ds} : lpK turn ds (.bk, ρ) = .ok (.nx, ρ) := id rfl
@[simp] theorem lpK_rt {turn : D → Env → R (Fl × Env)} {ds s} : lpK turn ds (.rt s, ρ) = .ok (.rt s, ρ) := id rfl
@[simp] theorem loopL_cons {turn : D → Env → R (Fl × Env)} {d ds} : loopL turn (d :: ds) ρ = (turn d ρ).bind fun r => lpK turn ds r := id rfl
def whC (g : G) (c : Ex) (ρ : Env) : R (Bool × Env) := c.test g ρ
def whB (g : G) (lk : Nat → Bool) (b : Sms) (ρ : Env) : R (Fl × Env) := Sms.ev g lk b ρ
@[simp] theorem sm_whl {c b} : Sm.ev g lk (.whl c b) ρ = whileN (whC g c) (whB g lk b) g.w ρ := by rw [Sm.ev]; all_goals rfl
end
/-! ranges -/
theorem rng_mem {lo hi : Int} {d : D} : d ∈ rngL lo hi ↔ ∃ v : Int, lo ≤ v ∧ v < hi ∧ d = .int v := by
  unfold rngL
  rw [List.mem_map]
  constructor
  · rintro ⟨k, hk, rfl⟩
    rw [List.mem_range] at hk
    exact ⟨lo + k, by omega, by omega, rfl⟩
  · rintro ⟨v, h1, h2, rfl⟩
    refine ⟨(v - lo).toNat, ?_, ?_⟩
    · rw [List.mem_range]; omega
    · congr 1; omega
@[simp] theorem rng_len {lo hi : Int} : (rngL lo hi).length = (hi - lo).toNat := by simp [rngL]
theorem rng_nil {lo hi : Int} (h : hi ≤ lo) : rngL lo hi = [] := by
  unfold rngL
  rw [show (hi - lo).toNat = 0 by omega]
  rfl
theorem rng_cons {lo hi : Int} (h : lo < hi) : rngL lo hi = .int lo :: rngL (lo + 1) hi := by
  unfold rngL
  obtain ⟨n, hn⟩ : ∃ n, (hi - lo).toNat = n + 1 := ⟨(hi - lo).toNat - 1, by omega⟩
  rw [hn, show (hi - (lo + 1)).toNat = n by omega, List.range_succ_eq_map, List.map_cons, List.map_map]
  congr 1
  · simp
  · apply List.map_congr_left
    intro k _
    simp
    omega
@[simp] theorem its_rng1 {n : Int} : Ik.its .rng [.int n] = if lims n then .ok (rngL 0 n) else .stuck := id rfl
@[simp] theorem its_rng2 {a n : Int} : Ik.its .rng [.int a, .int n] = if lims a && lims n then .ok (rngL a n) else .stuck := id rfl
@[simp] theorem its_lst {xs} : Ik.its .seq [.lst xs] = .ok xs := id rfl
@[simp] theorem its_tup {xs} : Ik.its .seq [.tup xs] = .ok xs := id rfl
@[simp] theorem parE_nil {lk : Nat → Bool} {ρ : Env} : parE lk [] [] ρ = .ok ρ := id rfl
@[simp] theorem parE_cons {lk : Nat → Bool} {ρ : Env} {i is d ds} : parE lk (i :: is) (d :: ds) ρ = if lk i || decide (ρ.length ≤ i) then .stuck else parE lk is ds (ρ.set i (some (.frz d))) := id rfl
@[simp] theorem slcD_lst {xs lo hi} : slcD (.lst xs) lo hi = .ok (.own (.lst (cutD xs lo hi))) := id rfl
@[simp] theorem slcD_tup {xs lo hi} : slcD (.tup xs) lo hi = .ok (.frz (.tup (cutD xs lo hi))) := id rfl
@[simp] theorem its_enm {xs} : Ik.its .enm [.lst xs] = .ok (enumL xs 0) := id rfl
@[simp] theorem its_enmT {xs} : Ik.its .enm [.tup xs] = .ok (enumL xs 0) := id rfl
@[simp] theorem its_zip {xs ys} : Ik.its .zip [.lst xs, .lst ys] = .ok (zipL xs ys) := id rfl
@[simp] theorem its_zipTL {xs ys} : Ik.its .zip [.tup xs, .lst ys] = .ok (zipL xs ys) := id rfl
@[simp] theorem its_zipLT {xs ys} : Ik.its .zip [.lst xs, .tup ys] = .ok (zipL xs ys) := id rfl
@[simp] theorem its_zipTT {xs ys} : Ik.its .zip [.tup xs, .tup ys] = .ok (zipL xs ys) := id rfl
/-! bounds -/
theorem bd_of {e : Nat} {i : Int} (h1 : -(2 ^ e : Nat) < i) (h2 : i < (2 ^ e : Nat)) : Bd e i := ⟨by omega⟩
theorem Bd.mono {e f : Nat} {i : Int} (h : Bd e i) (hl : e ≤ f) : Bd f i := ⟨Nat.lt_of_lt_of_le h.le (Nat.pow_le_pow_right (by decide) hl)⟩
theorem bd_add {e f : Nat} {i j : Int} (h1 : Bd e i) (h2 : Bd f j) : Bd (e + f + 1) (i + j) := ⟨by
  have a := h1.le
  have b := h2.le
  have c : 2 ^ (e + f + 1) = 2 ^ e * 2 ^ f * 2 := by rw [Nat.pow_succ, Nat.pow_add]
  have d : 2 ^ e ≤ 2 ^ e * 2 ^ f := Nat.le_mul_of_pos_right _ (Nat.two_pow_pos _)
  have d' : 2 ^ f ≤ 2 ^ e * 2 ^ f := Nat.le_mul_of_pos_left _ (Nat.two_pow_pos _)
  rw [c]
  omega⟩
theorem bd_neg {e : Nat} {i : Int} (h1 : Bd e i) : Bd e (-i) := ⟨by rw [Int.natAbs_neg]; exact h1.le⟩
theorem bd_sub {e f : Nat} {i j : Int} (h1 : Bd e i) (h2 : Bd f j) : Bd (e + f + 1) (i - j) := by
  rw [Int.sub_eq_add_neg]
  exact bd_add h1 (bd_neg h2)
theorem bd_mul {e f : Nat} {i j : Int} (h1 : Bd e i) (h2 : Bd f j) : Bd (e + f) (i * j) := ⟨by
  rw [Int.natAbs_mul, Nat.pow_add]
  exact Nat.mul_lt_mul'' h1.le h2.le⟩
theorem bd_lit {n : Nat} : Bd n (n : Int) := ⟨by
  rw [Int.natAbs_natCast]
  exact Nat.lt_two_pow_self⟩
theorem bd_div {e : Nat} {i j : Int} (h1 : Bd e i) : Bd e (i / j) := ⟨Nat.lt_of_le_of_lt (Int.natAbs_ediv_le_natAbs i j) h1.le⟩
theorem bd_mod {e f : Nat} {i j : Int} (h1 : Bd e i) (h2 : Bd f j) : Bd (e + f + 1) (i % j) := ⟨by
  have a := h1.le
  have b := h2.le
  have c : 2 ^ (e + f + 1) = 2 ^ e * 2 ^ f * 2 := by rw [Nat.pow_succ, Nat.pow_add]
  have d : 2 ^ e ≤ 2 ^ e * 2 ^ f := Nat.le_mul_of_pos_right _ (Nat.two_pow_pos _)
  have d' : 2 ^ f ≤ 2 ^ e * 2 ^ f := Nat.le_mul_of_pos_left _ (Nat.two_pow_pos _)
  rw [c]
  by_cases h : j = 0
  · subst h; rw [Int.emod_zero]; omega
  · have := Int.emod_nonneg i h
    have := Int.emod_lt i h
    omega⟩
end Rx.S

set_option Elab.async false
set_option linter.all false
set_option maxRecDepth 100000
/-! RxD: the draws of a law. -/
namespace Rx.S
open PySem
theorem call_at {p : Pr} {n k : Nat} {fn : Fn} {as} (h : p.fns[k]? = some fn) : p.call (n + 1) k as = fn.run (p.g (p.call n)) as := by
  rw [Pr.call, h]
theorem fdiv_pos {i j : Int} (h : 0 ≤ j) : i.fdiv j = i / j := Int.fdiv_eq_ediv_of_nonneg i h
theorem fmod_pos {i j : Int} (h : 0 ≤ j) : i.fmod j = i % j := Int.fmod_eq_emod_of_nonneg i h
def aNumber : Fn := ⟨2, 7, (.cons (.asg (.tup (.cons (.var 2) (.cons (.var 3) .nil))) (.ife (.eqv true (.bor 0 (.cons (.op .lst .nil) .nil))) (.op .tup (.cons (.op .ix (.bor 0 (.cons (.op (.bin .mod) (.bor 1 (.cons (.op (.bi .len) (.bor 0 .nil)) .nil))) .nil))) (.cons (.op (.bin .fdiv) (.bor 1 (.cons (.op (.bi .len) (.bor 0 .nil)) .nil))) .nil))) (.op .tup (.cons (.con (.int 12345)) (.cons (.con (.int 0)) .nil))))) (.cons (.set 4 (.ife (.op (.cmp .lt) (.bor 3 (.cons (.con (.int 60)) .nil))) (.op (.bin .sub) (.bor 2 (.cons (.op (.bin .pow) (.cons (.con (.int 10)) (.cons (.con (.int 18)) .nil))) .nil))) (.con (.int 0)))) (.cons (.for_ (.var 5) .rng (.cons (.op (.bin .mod) (.cons (.op (.bi .int) (.bor 3 .nil)) (.cons (.con (.int 60)) .nil))) .nil) (.cons (.set 4 (.op (.bin .fdiv) (.bor 4 (.cons (.con (.int 1009)) .nil)))) .nil)) (.cons (.ife (.op (.cmp .gt) (.bor 4 (.cons (.con (.int 0)) .nil))) (.cons (.ret (.op (.bin .mod) (.cons (.op (.bi .int) (.bor 4 .nil)) (.cons (.con (.int 1009)) .nil)))) .nil) .nil) (.cons (.set 6 (.op (.bin .mod) (.cons (.op (.bin .add) (.cons (.op (.bin .mul) (.cons (.op (.bi .int) (.cons (.op (.bin .add) (.bor 2 (.cons (.op (.bin .mul) (.cons (.con (.int 977)) (.bor 1 .nil))) .nil))) .nil)) (.cons (.con (.int 48271)) .nil))) (.cons (.op (.bin .mul) (.cons (.con (.int 31)) (.cons (.op (.bi .len) (.bor 0 .nil)) .nil))) .nil))) (.cons (.con (.int 2147483647)) .nil)))) (.cons (.set 6 (.op (.bin .mod) (.cons (.op (.bin .add) (.cons (.op (.bin .mul) (.bor 6 (.bor 6 .nil))) (.cons (.op (.bin .mul) (.cons (.con (.int 40503)) (.bor 1 .nil))) .nil))) (.cons (.con (.int 2147483629)) .nil)))) (.cons (.ret (.op (.bi .int) (.cons (.op (.bin .mod) (.cons (.op (.bin .add) (.cons (.op (.bin .mul) (.bor 6 (.cons (.con (.int 69621)) .nil))) (.cons (.op (.bin .fdiv) (.bor 6 (.cons (.con (.int 977)) .nil))) .nil))) (.cons (.con (.int 2147483587)) .nil))) .nil))) .nil)))))))⟩
def aTake (fN : Nat) : Fn := ⟨2, 2, (.cons (.augs 0 (.con (.int 1)) .add (.con (.int 1))) (.cons (.ret (.op (.bin .mod) (.cons (.op (.bi .int) (.cons (.call fN (.cons (.op .ix (.bor 0 (.cons (.con (.int 0)) .nil))) (.cons (.op (.bi .int) (.cons (.op .ix (.bor 0 (.cons (.con (.int 1)) .nil))) .nil)) .nil))) .nil)) (.bor 1 .nil)))) .nil))⟩
def rep9 : Nat → Int → Int
  | 0, r => r
  | n + 1, r => rep9 n (r / 1009)
def numH (r cell L i : Int) : Int := if 0 < r then r % 1009 else
  ((((cell + 977 * i) * 48271 + 31 * L) % 2147483647 * (((cell + 977 * i) * 48271 + 31 * L) % 2147483647) + 40503 * i) % 2147483629 * 69621 + (((cell + 977 * i) * 48271 + 31 * L) % 2147483647 * (((cell + 977 * i) * 48271 + 31 * L) % 2147483647) + 40503 * i) % 2147483629 / 977) % 2147483587
def numG (cell turn L i : Int) : Int := numH (rep9 (turn % 60).toNat (if turn < 60 then cell - 1000000000000000000 else 0)) cell L i
def numF (ns : List Int) (i : Int) : Int := numG (if ns = [] then 12345 else (ns[(i % (ns.length : Int)).toNat]?).getD 0) (if ns = [] then 0 else i / (ns.length : Int)) ns.length i
theorem numH_nn {r c L i : Int} : 0 ≤ numH r c L i := by
  unfold numH
  split <;> (refine Int.emod_nonneg _ ?_; decide)
theorem numH_lt {r c L i : Int} : numH r c L i < 2147483648 := by
  unfold numH
  split <;> (refine Int.lt_of_lt_of_le (Int.emod_lt_of_pos _ ?_) ?_ <;> decide)
theorem numF_nn {ns : List Int} {i : Int} : 0 ≤ numF ns i := numH_nn
theorem numF_lt {ns : List Int} {i : Int} : numF ns i < 2147483648 := numH_lt
theorem rep9_go {turn : D → Env → R (Fl × Env)} {a b c d f : Option Sl} (hT : ∀ v r e, turn (.int v) [a, b, c, d, some (.frz (.int r)), e, f] = .ok (.nx, [a, b, c, d, some (.frz (.int (r / 1009))), some (.frz (.int v)), f])) :
    ∀ (n : Nat) {lo hi : Int} {r : Int} {e : Option Sl}, (hi - lo).toNat = n → ∃ e', loopL turn (rngL lo hi) [a, b, c, d, some (.frz (.int r)), e, f] = .ok (.nx, [a, b, c, d, some (.frz (.int (rep9 n r))), e', f])
  | 0, lo, hi, r, e, hn => by
    rw [rng_nil (by omega)]
    exact ⟨e, rfl⟩
  | n + 1, lo, hi, r, e, hn => by
    rw [rng_cons (by omega), loopL_nx (hT _ _ _)]
    exact rep9_go hT n (by omega)
instance : Bd 20 977 := ⟨by decide⟩
instance : Bd 20 48271 := ⟨by decide⟩
instance : Bd 20 31 := ⟨by decide⟩
instance : Bd 20 40503 := ⟨by decide⟩
instance : Bd 20 69621 := ⟨by decide⟩
theorem len_bd {n : Nat} (h : n ≤ 63) : Bd 20 (n : Int) := ⟨by simp; omega⟩
theorem p18 : powOk 10 18 = true := by decide
theorem d1009 : divOk 1009 = true := by decide
theorem d977 : divOk 977 = true := by decide
theorem divOk_small {n : Int} (h : 0 < n) (h2 : n < 2 ^ 64) : divOk n = true := by
  unfold divOk
  rw [Bool.and_eq_true]
  refine ⟨decide_eq_true (by omega), decide_eq_true ?_⟩
  have : n.natAbs.log2 < 64 := (Nat.log2_lt (by omega)).mpr (by omega)
  omega
theorem lims_small {n : Int} (h : 0 ≤ n) (h2 : n < 1000000000) : lims n = true := by
  unfold lims
  rw [Bool.and_eq_true]
  exact ⟨decide_eq_true (by omega), decide_eq_true (by omega)⟩
/-- the script's numbers -/
def BitsOk (ns : List Int) : Prop := ns.length ≤ 63 ∧ ∀ z ∈ ns, z.natAbs < 2 ^ 1048576
theorem number_ok {p : Pr} {n f : Nat} {ns : List Int} {i : Int} (h : p.fns[f]? = some aNumber) (hs : BitsOk ns) (h0 : 0 ≤ i) (h1 : i < 2 ^ 50) : p.call (n + 1) f [.frz (.scr ns), .frz (.int i)] = .ok (.frz (.int (numF ns i)), [none, none]) := by
  rw [call_at h, run_eq rfl]
  unfold numF
  have hb : Bd 1048576 (if ns = [] then 12345 else (ns[(i % (ns.length : Int)).toNat]?).getD 0) := by
    split
    · exact ⟨Nat.lt_of_lt_of_le (by decide : (12345 : Int).natAbs < 2 ^ 14) (Nat.pow_le_pow_right (by decide) (by decide))⟩
    · cases hq : ns[(i % (ns.length : Int)).toNat]? with
      | none => exact ⟨Nat.two_pow_pos _⟩
      | some v => exact ⟨hs.2 v (List.mem_of_getElem? hq)⟩
  have hc : (0 : Int) ≤ (if ns = [] then 0 else i / (ns.length : Int)) := by
    split
    · decide
    · exact Int.ediv_nonneg h0 (by omega)
  have hlb : Bd 20 (ns.length : Int) := len_bd hs.1
  generalize hce : (if ns = [] then 12345 else (ns[(i % (ns.length : Int)).toNat]?).getD 0) = cell at *
  generalize htu : (if ns = [] then 0 else i / (ns.length : Int)) = turn at *
  have e1 : ∀ (g : G) (lk : Nat → Bool), lk 2 = false → lk 3 = false → ∀ b c d e f : Option Sl, Sm.ev g lk (.asg (.tup (.cons (.var 2) (.cons (.var 3) .nil))) (.ife (.eqv true (.bor 0 (.cons (.op .lst .nil) .nil))) (.op .tup (.cons (.op .ix (.bor 0 (.cons (.op (.bin .mod) (.bor 1 (.cons (.op (.bi .len) (.bor 0 .nil)) .nil))) .nil))) (.cons (.op (.bin .fdiv) (.bor 1 (.cons (.op (.bi .len) (.bor 0 .nil)) .nil))) .nil))) (.op .tup (.cons (.con (.int 12345)) (.cons (.con (.int 0)) .nil))))) [some (.frz (.scr ns)), some (.frz (.int i)), b, c, d, e, f]
      = .ok (.nx, [some (.frz (.scr ns)), some (.frz (.int i)), some (.frz (.int cell)), some (.frz (.int turn)), d, e, f]) := by
    intro g lk l2 l3 b c d e f
    by_cases hne : ns = []
    · subst hne
      have ht1 : cell = 12345 := by simpa using hce.symm
      have ht2 : turn = 0 := by simpa using htu.symm
      subst ht1
      subst ht2
      simp [-getElem?_pos, -getElem?_neg, -R.ok_bind, -R.exc_bind, -R.stuck_bind, -List.map_append, -List.map_drop, -List.map_take, l2, l3]
    · have hl : (0 : Int) < (ns.length : Int) := by have := List.length_pos_iff.mpr hne; omega
      have hl2 : ((ns.length : Nat) : Int) ≤ 63 := by have := hs.1; omega
      have hem : ns.isEmpty = false := by cases ns with
        | nil => exact (hne rfl).elim
        | cons => rfl
      rw [if_neg hne] at hce htu
      have ix : ixD (.scr ns) (.int (i % (ns.length : Int))) = .ok (.frz (.int cell)) := by
        rw [ix_scr (Int.emod_nonneg _ (by omega)) (Int.emod_lt_of_pos _ hl), ← hce]
      generalize hL : ((ns.length : Nat) : Int) = L at *
      have dv : divOk L = true := divOk_small hl (by omega)
      have hL0 : L ≠ 0 := by omega
      simp [-getElem?_pos, -getElem?_neg, -R.ok_bind, -R.exc_bind, -R.stuck_bind, -List.map_append, -List.map_drop, -List.map_take, l2, l3, hL, dv, fdiv_pos (Int.le_of_lt hl), fmod_pos (Int.le_of_lt hl), ix, htu, hL0, hem]
  have l2 : lkOf [.frz (.scr ns), .frz (.int i)] = fun _ => false := by
    funext j
    rw [lkOf_eq]
    match j with
    | 0 => rfl
    | 1 => rfl
    | j + 2 => rfl
  simp only [aNumber, sms_cons, l2, List.map, List.replicate, List.cons_append, List.nil_append]
  rw [e1 _ _ rfl rfl]
  have e2 : ∀ (g : G) (lk : Nat → Bool), lk 4 = false → ∀ d e f : Option Sl, Sm.ev g lk (.set 4 (.ife (.op (.cmp .lt) (.bor 3 (.cons (.con (.int 60)) .nil))) (.op (.bin .sub) (.bor 2 (.cons (.op (.bin .pow) (.cons (.con (.int 10)) (.cons (.con (.int 18)) .nil))) .nil))) (.con (.int 0)))) [some (.frz (.scr ns)), some (.frz (.int i)), some (.frz (.int cell)), some (.frz (.int turn)), d, e, f]
      = .ok (.nx, [some (.frz (.scr ns)), some (.frz (.int i)), some (.frz (.int cell)), some (.frz (.int turn)), some (.frz (.int (if turn < 60 then cell - 1000000000000000000 else 0))), e, f]) := by
    intro g lk l4 d e f
    by_cases ht : turn < 60 <;> simp [-getElem?_pos, -getElem?_neg, -R.ok_bind, -R.exc_bind, -R.stuck_bind, -List.map_append, -List.map_drop, -List.map_take, ht, l4, p18]
  simp only [R.ok_bind, goS_nx, sms_cons]
  rw [e2 _ _ rfl]
  simp only [R.ok_bind, goS_nx, sms_cons]
  rw [sm_for]
  generalize hT : forT _ _ _ _ = T
  obtain ⟨e', e3⟩ := rep9_go (turn := T) (a := some (.frz (.scr ns))) (b := some (.frz (.int i))) (c := some (.frz (.int cell))) (d := some (.frz (.int turn))) (f := none)
    (fun v r e => by subst hT; simp [-getElem?_pos, -getElem?_neg, -R.ok_bind, -R.exc_bind, -R.stuck_bind, -List.map_append, -List.map_drop, -List.map_take, forT, d1009, fdiv_pos]) (turn % 60).toNat (lo := 0) (hi := turn % 60) (r := if turn < 60 then cell - 1000000000000000000 else 0) (e := none) (by omega)
  simp only [exs_cons, exs_nil, ev_op, exs_bor, ev_con, fmod_pos, lims_small (Int.emod_nonneg turn (by decide : (60 : Int) ≠ 0)) (Int.lt_trans (Int.emod_lt_of_pos turn (by decide : (0 : Int) < 60)) (by decide))]
  simp [-getElem?_pos, -getElem?_neg, -R.ok_bind, -R.exc_bind, -R.stuck_bind, -List.map_append, -List.map_drop, -List.map_take, fmod_pos, lims_small (Int.emod_nonneg turn (by decide : (60 : Int) ≠ 0)) (Int.lt_trans (Int.emod_lt_of_pos turn (by decide : (0 : Int) < 60)) (by decide)), e3]
  clear e1 e2 e3 hT
  unfold numG
  generalize rep9 (turn % 60).toNat (if turn < 60 then cell - 1000000000000000000 else 0) = rest
  have hib : Bd 50 i := ⟨by omega⟩
  have m1 : mulOk 977 i = true := mulOk_bd (by decide)
  have m2 : mulOk (cell + 977 * i) 48271 = true := @mulOk_bd _ _ _ _ (bd_add hb (bd_mul (e := 20) (by infer_instance) hib)) (by infer_instance) (by decide)
  have m3 : mulOk 31 (ns.length : Int) = true := mulOk_bd (by decide)
  have m5 : mulOk 40503 i = true := mulOk_bd (by decide)
  unfold numH
  by_cases hr : 0 < rest
  · simp [-getElem?_pos, -getElem?_neg, -R.ok_bind, -R.exc_bind, -R.stuck_bind, -List.map_append, -List.map_drop, -List.map_take, hr, fmod_pos, goO]
  · generalize hb1 : ((cell + 977 * i) * 48271 + 31 * (ns.length : Int)) % 2147483647 = b1
    have q1 : Bd 40 b1 := ⟨by
      have := Int.emod_nonneg ((cell + 977 * i) * 48271 + 31 * (ns.length : Int)) (by decide : (2147483647 : Int) ≠ 0)
      have := Int.emod_lt_of_pos ((cell + 977 * i) * 48271 + 31 * (ns.length : Int)) (by decide : (0 : Int) < 2147483647)
      omega⟩
    have m4 : mulOk b1 b1 = true := mulOk_bd (by decide)
    generalize hb2 : (b1 * b1 + 40503 * i) % 2147483629 = b2
    have q2 : Bd 40 b2 := ⟨by
      have := Int.emod_nonneg (b1 * b1 + 40503 * i) (by decide : (2147483629 : Int) ≠ 0)
      have := Int.emod_lt_of_pos (b1 * b1 + 40503 * i) (by decide : (0 : Int) < 2147483629)
      omega⟩
    have m6 : mulOk b2 69621 = true := mulOk_bd (by decide)
    simp [-getElem?_pos, -getElem?_neg, -R.ok_bind, -R.exc_bind, -R.stuck_bind, -List.map_append, -List.map_drop, -List.map_take, hr, fmod_pos, fdiv_pos, m1, m2, m3, m4, m5, m6, hb1, hb2, d977, goO]
end Rx.S

set_option Elab.async false
set_option linter.all false
set_option maxRecDepth 100000
/-! RxD2: take, pick, long. -/
namespace Rx.S
open PySem
def aPick (fT : Nat) : Fn := ⟨2, 2, (.cons (.ret (.op .ix (.bor 1 (.cons (.call fT (.bor 0 (.cons (.op (.bi .len) (.bor 1 .nil)) .nil))) .nil)))) .nil)⟩
def aLongB (fT : Nat) : Sms := (.cons (.set 2 (.op (.bin .add) (.cons (.op (.bin .mul) (.cons (.con (.int 10)) (.bor 2 .nil))) (.cons (.call fT (.bor 0 (.cons (.con (.int 10)) .nil))) .nil)))) .nil)
def aLong (fT : Nat) : Fn := ⟨2, 4, (.cons (.set 2 (.con (.int 0))) (.cons (.for_ (.var 3) .rng (.cons (.call fT (.bor 0 (.cons (.op (.bin .add) (.bor 1 (.cons (.con (.int 1)) .nil))) .nil))) .nil) (aLongB fT)) (.cons (.ret (.ife (.eqv false (.cons (.call fT (.bor 0 (.cons (.con (.int 2)) .nil))) (.cons (.con (.int 0)) .nil))) (.var 2) (.op (.bin .sub) (.cons (.con (.int 0)) (.bor 2 .nil))))) .nil)))⟩
abbrev Dr (ns : List Int) (k : Int) : D := .lst [.scr ns, .int k]
/-- how far the draws go -/
def Kok (k : Int) : Prop := 0 ≤ k ∧ k < 1000000000000
structure Dw (p : Pr) (fN fT : Nat) (ns : List Int) : Prop where
  num : p.fns[fN]? = some aNumber
  take : p.fns[fT]? = some (aTake fN)
  bits : BitsOk ns
section
variable {p : Pr} {fN fT : Nat} {ns : List Int} {k : Int}
theorem take_eq (w : Dw p fN fT ns) (hk : Kok k) {n : Nat} {many : Int} (hm : 0 < many) : p.call (n + 2) fT [.own (Dr ns k), .frz (.int many)] = .ok (.frz (.int (numF ns (k + 1) % many)), [some (.own (Dr ns (k + 1))), none]) := by
  obtain ⟨h0, h1⟩ := hk
  rw [call_at w.take, run_eq rfl]
  have e := number_ok (n := n) w.num w.bits (i := k + 1) (by omega) (by omega)
  have m0 : many ≠ 0 := by omega
  simp [-getElem?_pos, -getElem?_neg, -R.ok_bind, -R.exc_bind, -R.stuck_bind, -List.map_append, -List.map_drop, -List.map_take, aTake, e, fmod_pos (Int.le_of_lt hm), m0]
theorem take_ok (w : Dw p fN fT ns) (hk : Kok k) (n : Nat) {many : Int} (hm : 0 < many) : ∃ v : Int, 0 ≤ v ∧ v < many ∧ p.call (n + 2) fT [.own (Dr ns k), .frz (.int many)] = .ok (.frz (.int v), [some (.own (Dr ns (k + 1))), none]) :=
  ⟨_, Int.emod_nonneg _ (by omega), Int.emod_lt_of_pos _ hm, take_eq w hk hm⟩
theorem pick_ok {fP : Nat} (w : Dw p fN fT ns) (hP : p.fns[fP]? = some (aPick fT)) (hk : Kok k) (n : Nat) {xs : List D} (hx : xs ≠ []) : ∃ d ∈ xs, p.call (n + 3) fP [.own (Dr ns k), .frz (.lst xs)] = .ok (.frz d, [some (.own (Dr ns (k + 1))), none]) := by
  have hl : 0 < xs.length := List.length_pos_iff.mpr hx
  obtain ⟨v, h0, h1, e⟩ := take_ok w hk n (many := xs.length) (by omega)
  have hj : v.toNat < xs.length := by omega
  refine ⟨xs[v.toNat], List.getElem_mem hj, ?_⟩
  rw [call_at hP, run_eq rfl]
  have e2 : atD xs v = .ok xs[v.toNat] := by
    rw [at_ok h0 h1, List.getElem?_eq_getElem hj]
    rfl
  simp [-getElem?_pos, -getElem?_neg, -R.ok_bind, -R.exc_bind, -R.stuck_bind, -List.map_append, -List.map_drop, -List.map_take, aPick, e, e2]
theorem pow10 : ∀ n : Nat, (10 : Int) ^ (n + 1) = 10 * 10 ^ n := fun n => by rw [Int.pow_succ, Int.mul_comm]
theorem long_go {turn : D → Env → R (Fl × Env)} {b : Option Sl}
    (hT : ∀ (v r k : Int) (j : Nat) e, Kok k → (-(10 ^ j) < r ∧ r < 10 ^ j) → j ≤ 100 → ∃ t : Int, 0 ≤ t ∧ t < 10 ∧ turn (.int v) [some (.own (Dr ns k)), b, some (.frz (.int r)), e] = .ok (.nx, [some (.own (Dr ns (k + 1))), b, some (.frz (.int (10 * r + t))), some (.frz (.int v))])) :
    ∀ (n j : Nat) {lo hi : Int} {r k : Int} {e : Option Sl}, (hi - lo).toNat = n → n + j ≤ 100 → Kok k → Kok (k + n) → 0 ≤ r → r < 10 ^ j → ∃ e' r', 0 ≤ r' ∧ r' < 10 ^ (j + n) ∧ loopL turn (rngL lo hi) [some (.own (Dr ns k)), b, some (.frz (.int r)), e] = .ok (.nx, [some (.own (Dr ns (k + n))), b, some (.frz (.int r')), e'])
  | 0, j, lo, hi, r, k, e, hn, _, hk, _, h0, h1 => by
    rw [rng_nil (by omega)]
    exact ⟨e, r, h0, h1, by simp⟩
  | n + 1, j, lo, hi, r, k, e, hn, hj, hk, hk2, h0, h1 => by
    have hp := pow10 j
    have hpp : (0 : Int) < 10 ^ j := Int.pow_pos (by decide)
    obtain ⟨t, t0, t1, et⟩ := hT lo r k j e hk ⟨by omega, h1⟩ (by omega)
    rw [rng_cons (by omega), loopL_nx et]
    obtain ⟨e', r', a, b, c⟩ := long_go hT n (j + 1) (lo := lo + 1) (hi := hi) (r := 10 * r + t) (k := k + 1) (e := some (.frz (.int lo))) (by omega) (by omega) ⟨by have := hk.1; omega, by have := hk2.2; omega⟩ ⟨by have := hk.1; omega, by have := hk2.2; omega⟩ (by omega) (by omega)
    refine ⟨e', r', a, by rwa [show j + (n + 1) = j + 1 + n by omega], ?_⟩
    rw [c]
    simp only [Int.natCast_add, Int.natCast_one, Int.add_assoc, Int.add_comm 1]
theorem bd_pow10 {r : Int} {j : Nat} (h : -(10 ^ j) < r ∧ r < 10 ^ j) (hj : j ≤ 1000) : Bd 4000 r := ⟨by
  have h1 : (10 : Nat) ^ j ≤ 2 ^ (4 * j) := by
    rw [Nat.pow_mul]
    exact Nat.pow_le_pow_left (by decide) j
  have h2 : 2 ^ (4 * j) ≤ 2 ^ 4000 := Nat.pow_le_pow_right (by decide) (by omega)
  have h3 : ((10 : Nat) ^ j : Int) = (10 : Int) ^ j := by simp
  omega⟩
instance : Bd 20 10 := ⟨by decide⟩
theorem long_ok {fL : Nat} (w : Dw p fN fT ns) (hL : p.fns[fL]? = some (aLong fT)) (hk : Kok k) (n : Nat) {f : Nat} (hf : f ≤ 90) (hk2 : Kok (k + 200)) : ∃ v k' : Int, -(10 ^ f) < v ∧ v < 10 ^ f ∧ k ≤ k' ∧ k' ≤ k + f + 2 ∧ p.call (n + 3) fL [.own (Dr ns k), .frz (.int f)] = .ok (.frz (.int v), [some (.own (Dr ns k')), none]) := by
  obtain ⟨m, m0, m1, e⟩ := take_ok w hk n (many := f + 1) (by omega)
  obtain ⟨m, rfl⟩ := Int.eq_ofNat_of_zero_le m0
  have hk1 : Kok (k + 1) := ⟨by have := hk.1; omega, by have := hk2.2; omega⟩
  have hl : lims (m : Int) = true := lims_small m0 (by omega)
  have hk4 : Kok (k + 1 + m) := ⟨by have := hk.1; omega, by have := hk2.2; omega⟩
  obtain ⟨s, s0, s1, e3⟩ := take_ok w hk4 n (many := 2) (by decide)
  have hpm : (10 : Int) ^ (0 + m) ≤ 10 ^ f := by
    have : (10 : Nat) ^ (0 + m) ≤ 10 ^ f := Nat.pow_le_pow_right (by decide) (by omega)
    have h3 : ∀ j, ((10 : Nat) ^ j : Int) = (10 : Int) ^ j := by simp
    rw [← h3, ← h3]
    omega
  obtain ⟨e', r', r0, r1, e2⟩ := long_go (ns := ns) (b := some (.frz (.int f))) (turn := forT (p.g (p.call (n + 2))) (lkOf [Sl.own (Dr ns k), Sl.frz (D.int f)]) (.var 3) (aLongB fT)) (fun v r k2 j e hk3 hr hj => by
      obtain ⟨t, t0, t1, et⟩ := take_ok w hk3 n (many := 10) (by decide)
      have := bd_pow10 hr (by omega)
      have hm : mulOk 10 r = true := mulOk_bd (by decide)
      exact ⟨t, t0, t1, by simp [-getElem?_pos, -getElem?_neg, -R.ok_bind, -R.exc_bind, -R.stuck_bind, -List.map_append, -List.map_drop, -List.map_take, aLongB, hm, et]⟩) m 0 (lo := 0) (hi := m) (r := 0) (k := k + 1) (e := none) (by omega) (by omega) hk1 ⟨by have := hk.1; omega, by have := hk2.2; omega⟩ (by decide) (by decide)
  rw [call_at hL, run_eq rfl]
  generalize hk5 : k + 1 + (m : Int) = k5 at *
  by_cases hs : s = 0
  · refine ⟨r', k5 + 1, by omega, by omega, by omega, by omega, ?_⟩
    simp [-getElem?_pos, -getElem?_neg, -R.ok_bind, -R.exc_bind, -R.stuck_bind, -List.map_append, -List.map_drop, -List.map_take, aLong, e, hl, e2, e3, hs]
  · refine ⟨-r', k5 + 1, by omega, by omega, by omega, by omega, ?_⟩
    simp [-getElem?_pos, -getElem?_neg, -R.ok_bind, -R.exc_bind, -R.stuck_bind, -List.map_append, -List.map_drop, -List.map_take, aLong, e, hl, e2, e3, hs]
theorem long_at {fL : Nat} (w : Dw p fN fT ns) (hL : p.fns[fL]? = some (aLong fT)) (hk : Kok k) (n : Nat) {F : Int} (f : Nat) (hF : F = (f : Int)) (hf : f ≤ 90) (hk2 : Kok (k + 200)) : ∃ v k' : Int, -(10 ^ f) < v ∧ v < 10 ^ f ∧ k ≤ k' ∧ k' ≤ k + f + 2 ∧ p.call (n + 3) fL [.own (Dr ns k), .frz (.int F)] = .ok (.frz (.int v), [some (.own (Dr ns k')), none]) := by
  subst hF
  exact long_ok w hL hk n hf hk2
end
end Rx.S

set_option Elab.async false
set_option linter.all false
set_option maxRecDepth 100000
/-! RxS3: equality, min and max, lists. -/
namespace Rx.S
open PySem
section
variable {g : G} {ρ : Env}
theorem plain_tup {n : Nat} {xs : List D} : D.plain (n + 1) (.tup xs) = D.plains n xs := by rw [D.plain]
theorem plain_lst {n : Nat} {xs : List D} : D.plain (n + 1) (.lst xs) = D.plains n xs := by rw [D.plain]
@[simp] theorem plainI {n : Nat} {i : Int} : D.plain n (.int i) = true := by rw [D.plain]
@[simp] theorem plainB {n : Nat} {i : Bool} : D.plain n (.bl i) = true := by rw [D.plain]
@[simp] theorem plainN {n : Nat} : D.plain n .non = true := by rw [D.plain]
@[simp] theorem plainT {n : Nat} {xs : List D} : D.plain (n + 1) (.tup xs) = D.plains n xs := plain_tup
@[simp] theorem plainL {n : Nat} {xs : List D} : D.plain (n + 1) (.lst xs) = D.plains n xs := plain_lst
@[simp] theorem plains_nil {n : Nat} : D.plains n [] = true := by rw [D.plains]
@[simp] theorem plains_cons {n : Nat} {x xs} : D.plains n (x :: xs) = (D.plain n x && D.plains n xs) := by rw [D.plains]
@[simp] theorem eqvI {i j : Int} : D.eqv (.int i) (.int j) = (i == j) := eqv_int
@[simp] theorem eqvB {i j : Bool} : D.eqv (.bl i) (.bl j) = (i == j) := by rw [D.eqv]
@[simp] theorem eqvN : D.eqv .non .non = true := by rw [D.eqv]
@[simp] theorem eqvT {xs ys : List D} : D.eqv (.tup xs) (.tup ys) = D.eqvs xs ys := by rw [D.eqv]
@[simp] theorem eqvL {xs ys : List D} : D.eqv (.lst xs) (.lst ys) = D.eqvs xs ys := by rw [D.eqv]
@[simp] theorem eqvs_nil : D.eqvs [] [] = true := by rw [D.eqvs]
@[simp] theorem eqvs_cons {x y xs ys} : D.eqvs (x :: xs) (y :: ys) = (D.eqv x y && D.eqvs xs ys) := by rw [D.eqvs]
@[simp] theorem eqvs_nc {y : D} {ys} : D.eqvs [] (y :: ys) = false := by
  rw [D.eqvs] <;> simp
@[simp] theorem eqvs_cn {y : D} {ys} : D.eqvs (y :: ys) [] = false := by
  rw [D.eqvs] <;> simp
@[simp] theorem eqD_tup {xs ys : List D} : eqD (.tup xs) (.tup ys) = if D.plains 59 xs && D.plains 59 ys then .ok (D.eqvs xs ys) else .stuck := by
  show (if D.plain 60 (.tup xs) && D.plain 60 (.tup ys) then R.ok (D.eqv (.tup xs) (.tup ys)) else R.stuck) = _
  rw [plain_tup, plain_tup, eqvT]
@[simp] theorem eqD_lst {xs ys : List D} : eqD (.lst xs) (.lst ys) = if D.plains 59 xs && D.plains 59 ys then .ok (D.eqvs xs ys) else .stuck := by
  show (if D.plain 60 (.lst xs) && D.plain 60 (.lst ys) then R.ok (D.eqv (.lst xs) (.lst ys)) else R.stuck) = _
  rw [plain_lst, plain_lst, eqvL]
@[simp] theorem eqD_bl {i j : Bool} : eqD (.bl i) (.bl j) = .ok (i == j) := by
  show (if D.plain 60 (.bl i) && D.plain 60 (.bl j) then R.ok (D.eqv (.bl i) (.bl j)) else R.stuck) = _
  rw [plainB, plainB, eqvB]
  rfl
@[simp] theorem eqS_tup {neg ps} {xs ys : List D} : eqS g neg ps ρ [.frz (.tup xs), .frz (.tup ys)] = (eqD (.tup xs) (.tup ys)).bind fun b => .ok (.frz (.bl (b != neg)), ρ) := by simp only [eqS, Sl.d]
@[simp] theorem eqS_lst {neg ps} {xs ys : List D} : eqS g neg ps ρ [.frz (.lst xs), .frz (.lst ys)] = (eqD (.lst xs) (.lst ys)).bind fun b => .ok (.frz (.bl (b != neg)), ρ) := by simp only [eqS, Sl.d]
@[simp] theorem eqS_lsto {neg ps} {xs ys : List D} : eqS g neg ps ρ [.own (.lst xs), .frz (.lst ys)] = (eqD (.lst xs) (.lst ys)).bind fun b => .ok (.frz (.bl (b != neg)), ρ) := by simp only [eqS, Sl.d]
@[simp] theorem eqS_olst {neg ps} {xs ys : List D} : eqS g neg ps ρ [.frz (.lst xs), .own (.lst ys)] = (eqD (.lst xs) (.lst ys)).bind fun b => .ok (.frz (.bl (b != neg)), ρ) := by simp only [eqS, Sl.d]
@[simp] theorem eqS_olsto {neg ps} {xs ys : List D} : eqS g neg ps ρ [.own (.lst xs), .own (.lst ys)] = (eqD (.lst xs) (.lst ys)).bind fun b => .ok (.frz (.bl (b != neg)), ρ) := by simp only [eqS, Sl.d]
@[simp] theorem eqS_bl {neg ps} {i j : Bool} : eqS g neg ps ρ [.frz (.bl i), .frz (.bl j)] = .ok (.frz (.bl ((i == j) != neg)), ρ) := by simp only [eqS, Sl.d, eqD_bl, okb]
@[simp] theorem eqS_ins {neg ps c fs e gs} : eqS g neg ps ρ [.frz (.ins c fs), .frz (.ins e gs)] = (R.of (g.eqm c)).bind fun f => (g.call f [.frz (.ins c fs), .frz (.ins e gs)]).bind fun q => (match q.1.d with
      | .bl b => .ok (.frz (.bl (b != neg)), wb ps q.2 ρ)
      | _ => .stuck) := by
  simp only [eqS, Sl.d]
  all_goals rfl
end
/-! ### lists of a range -/
def irng (lo hi : Int) : List Int := (List.range (hi - lo).toNat).map fun (k : Nat) => lo + (k : Int)
theorem irng_mem {lo hi v : Int} : v ∈ irng lo hi ↔ lo ≤ v ∧ v < hi := by
  unfold irng
  rw [List.mem_map]
  constructor
  · rintro ⟨k, hk, rfl⟩
    rw [List.mem_range] at hk
    omega
  · rintro ⟨h1, h2⟩
    exact ⟨(v - lo).toNat, by rw [List.mem_range]; omega, by omega⟩
theorem irng_len {lo hi : Int} : (irng lo hi).length = (hi - lo).toNat := by simp [irng]
theorem rngL_eq {lo hi : Int} : rngL lo hi = (irng lo hi).map D.int := by
  unfold rngL irng
  rw [List.map_map]
  rfl
def onI (f : Int → D) : D → Option D
  | .int v => some (f v)
  | _ => none
@[simp] theorem onI_int {f v} : onI f (.int v) = some (f v) := id rfl
theorem fm_rng {lo hi : Int} {f : Int → D} : (rngL lo hi).filterMap (onI f) = (irng lo hi).map f := by
  rw [rngL_eq, List.filterMap_map]
  rw [← List.filterMap_eq_map]
  rfl
theorem irng_ne {lo hi : Int} (h : lo < hi) : irng lo hi ≠ [] := fun e => by
  have := irng_mem.mpr ⟨Int.le_refl lo, h⟩
  rw [e] at this
  cases this
/-- a list made of the numbers of a range -/
theorem lc_rng {g : G} {ρ : Env} {t : Tg} {vs : List Nat} {cs : Exs} {e : Ex} {lo hi : Int} (f : Int → D)
    (h2 : ∀ v, lo ≤ v → v < hi → ∃ ρ2, lcT g t vs cs e (.int v) ρ = .ok (some (f v), ρ2) ∧ wipeE ρ2 vs = wipeE ρ vs) (hl : hi - lo ≤ 1000000) : lcR (lcT g t vs cs e) vs (rngL lo hi) ρ = .ok (.own (.lst ((irng lo hi).map f)), ρ) := by
  rw [lc_ok (onI f) (fun d hd => ?_) (by rw [rng_len]; unfold sizeLine; omega), fm_rng]
  obtain ⟨v, h3, h4, rfl⟩ := rng_mem.mp hd
  exact h2 v h3 h4
theorem lcL_inv {turn : D → Env → R (Option D × Env)} (I : List D → List D → Env → Prop) (h : ∀ d ds acc ρ, I (d :: ds) acc ρ → ∃ x ρ2, turn d ρ = .ok (some x, ρ2) ∧ I ds (acc ++ [x]) ρ2) : ∀ (its acc : List D) (ρ : Env), acc.length + its.length ≤ sizeLine → I its acc ρ → ∃ L ρ2, lcL turn its acc ρ = .ok (L, ρ2) ∧ I [] L ρ2
  | [], acc, ρ, _, hi => ⟨acc, ρ, rfl, hi⟩
  | d :: ds, acc, ρ, hl, hi => by
    obtain ⟨x, ρ2, e, h2⟩ := h d ds acc ρ hi
    rw [List.length_cons] at hl
    obtain ⟨L, ρ3, e3, h3⟩ := lcL_inv I h ds (acc ++ [x]) ρ2 (by rw [List.length_append, List.length_singleton]; omega) h2
    refine ⟨L, ρ3, ?_, h3⟩
    unfold lcL
    rw [e]
    show (if acc.length < sizeLine then lcL turn ds (acc ++ [x]) ρ2 else R.stuck) = _
    rw [if_pos (by omega), e3]
/-- a list whose turns leave something behind -/
theorem lcR_inv {turn : D → Env → R (Option D × Env)} {vs : List Nat} {its : List D} {ρ : Env} (I : List D → List D → Env → Prop) (h : ∀ d ds acc ρ, I (d :: ds) acc ρ → ∃ x ρ2, turn d ρ = .ok (some x, ρ2) ∧ I ds (acc ++ [x]) ρ2) (hl : its.length ≤ sizeLine) (h0 : I its [] ρ) : ∃ L ρ2, lcR turn vs its ρ = .ok (.own (.lst L), restE ρ ρ2 vs) ∧ I [] L ρ2 := by
  obtain ⟨L, ρ2, e, h2⟩ := lcL_inv I h its [] ρ (by simpa using hl) h0
  refine ⟨L, ρ2, ?_, h2⟩
  unfold lcR
  rw [e]
  rfl
@[simp] theorem rest_nil {ρ0 ρ : Env} : restE ρ0 ρ [] = ρ := id rfl
@[simp] theorem rest_cons {ρ0 ρ : Env} {i is} : restE ρ0 ρ (i :: is) = restE ρ0 (ρ.set i (ρ0[i]?.join)) is := id rfl
theorem plains_map {α : Type} {f : α → D} {n : Nat} : ∀ {L : List α}, (∀ v ∈ L, D.plain n (f v) = true) → D.plains n (L.map f) = true
  | [], _ => by simp
  | v :: L, h => by
    rw [List.map_cons, plains_cons, h v List.mem_cons_self, plains_map fun u hu => h u (List.mem_cons_of_mem _ hu)]
    rfl
@[simp] theorem c_inn {x y : D} : Cop.ap .inn x y = inD x y := id rfl
theorem inD_lst {x : D} {ys : List D} (h1 : D.plain 59 x = true) (h2 : D.plains 59 ys = true) : inD x (.lst ys) = .ok (ys.any fun y => y.eqv x) := by
  show (if D.plain 59 x && D.plain 60 (.lst ys) then R.ok (ys.any fun y => y.eqv x) else R.stuck) = _
  rw [h1, plain_lst, h2]
  rfl
@[simp] theorem c_isn {x y : D} : Cop.ap .isn x y = isnD x y := id rfl
@[simp] theorem c_notn {x y : D} : Cop.ap .notn x y = (isnD x y).bind fun b => .ok (!b) := id rfl
@[simp] theorem isn_non : isnD .non .non = .ok true := id rfl
@[simp] theorem isn_int {i : Int} : isnD (.int i) .non = .ok false := id rfl
@[simp] theorem isn_ins {c fs} : isnD (.ins c fs) .non = .ok false := id rfl
@[simp] theorem isn_tup {xs} : isnD (.tup xs) .non = .ok false := id rfl
@[simp] theorem isn_lst {xs} : isnD (.lst xs) .non = .ok false := id rfl
@[simp] theorem isn_str {x} : isnD (.str x) .non = .ok false := id rfl
@[simp] theorem ev_flt {g : G} {ρ : Env} {f fz e} : Ex.ev g (.flt f fz e) ρ = (R.of (g.flt f)).bind fun fd => fltR fd (Ex.ev g e (hideE (frzE ρ fz))) (frzE ρ fz) := by rw [Ex.ev]
@[simp] theorem fltR_ok {fd x} {ρ : Env} : fltR fd (.ok x) ρ = .ok (.frz (.str fd.el), ρ) := id rfl
def fltE (ρ : Env) : Option D → R (Sl × Env)
  | some d => .ok (.frz d, ρ)
  | none => .stuck
@[simp] theorem fltE_some {d} {ρ : Env} : fltE ρ (some d) = .ok (.frz d, ρ) := id rfl
@[simp] theorem fltR_exc {fd c fs} {ρ : Env} : fltR fd (.exc c fs) ρ = fltE ρ (fd.get c fs) := by
  show (match fd.get c fs with
    | some d => R.ok (Sl.frz d, ρ)
    | none => .stuck) = _
  cases fd.get c fs <;> rfl
@[simp] theorem frzE_nil {ρ : Env} : frzE ρ [] = ρ := id rfl
@[simp] theorem frzE_cons {ρ : Env} {i is} : frzE ρ (i :: is) = frzE (ρ.set i (frzS ρ[i]?.join)) is := id rfl
@[simp] theorem frzS_own {d} : frzS (some (.own d)) = some (.frz d) := id rfl
@[simp] theorem frzS_frz {d} : frzS (some (.frz d)) = some (.frz d) := id rfl
@[simp] theorem frzS_none : frzS none = none := id rfl
@[simp] theorem hideS_own {d} : hideS (some (.own d)) = none := id rfl
@[simp] theorem hideS_frz {d} : hideS (some (.frz d)) = some (.frz d) := id rfl
@[simp] theorem hideS_none : hideS none = none := id rfl
@[simp] theorem hideE_nil : hideE [] = [] := id rfl
@[simp] theorem hideE_cons {o} {ρ : Env} : hideE (o :: ρ) = hideS o :: hideE ρ := id rfl
theorem bd_addm {e f g : Nat} {i j : Int} (h1 : Bd e i) (h2 : Bd f j) (he : e ≤ g) (hf : f ≤ g) : Bd (g + 1) (i + j) := ⟨by
  have a := (h1.mono he).le
  have b := (h2.mono hf).le
  rw [Nat.pow_succ]
  omega⟩
theorem bd_subm {e f g : Nat} {i j : Int} (h1 : Bd e i) (h2 : Bd f j) (he : e ≤ g) (hf : f ≤ g) : Bd (g + 1) (i - j) := by
  rw [Int.sub_eq_add_neg]
  exact bd_addm h1 (bd_neg h2) he hf
theorem lcL_map2 {α : Type} {turn : D → Env → R (Option D × Env)} {W : Env → Env} {w : Env} {i o : α → D} : ∀ {L : List α} {acc : List D} {ρ : Env}, (∀ v ∈ L, ∀ ρ1, W ρ1 = w → ∃ ρ2, turn (i v) ρ1 = .ok (some (o v), ρ2) ∧ W ρ2 = w) → W ρ = w → acc.length + L.length ≤ sizeLine →
    ∃ ρ2, lcL turn (L.map i) acc ρ = .ok (acc ++ L.map o, ρ2) ∧ W ρ2 = w
  | [], acc, ρ, _, hw, _ => ⟨ρ, by simp [lcL], hw⟩
  | v :: L, acc, ρ, h, hw, hl => by
    obtain ⟨ρ2, e, hw2⟩ := h v List.mem_cons_self ρ hw
    rw [List.length_cons] at hl
    obtain ⟨ρ3, e3, h3⟩ := lcL_map2 (turn := turn) (L := L) (acc := acc ++ [o v]) (ρ := ρ2) (fun d hd => h d (List.mem_cons_of_mem _ hd)) hw2 (by rw [List.length_append, List.length_singleton]; omega)
    refine ⟨ρ3, ?_, h3⟩
    rw [List.map_cons]
    unfold lcL
    rw [e]
    show (if acc.length < sizeLine then lcL turn (L.map i) (acc ++ [o v]) ρ2 else R.stuck) = _
    rw [if_pos (by omega), e3, List.map_cons, List.append_assoc]
    rfl
/-- a list made of a list -/
theorem lc_map {α : Type} {g : G} {ρ : Env} {t : Tg} {vs : List Nat} {cs : Exs} {e : Ex} (i o : α → D) {L : List α}
    (h2 : ∀ v ∈ L, ∃ ρ2, lcT g t vs cs e (i v) ρ = .ok (some (o v), ρ2) ∧ wipeE ρ2 vs = wipeE ρ vs) (hl : L.length ≤ 1000000) : lcR (lcT g t vs cs e) vs (L.map i) ρ = .ok (.own (.lst (L.map o)), ρ) := by
  obtain ⟨ρ2, e2, w2⟩ := lcL_map2 (turn := lcT g t vs cs e) (W := fun ρ => wipeE ρ vs) (w := wipeE ρ vs) (i := i) (o := o) (L := L) (acc := []) (ρ := ρ) (fun v hv ρ1 hw => by
    obtain ⟨ρ2, h, h3⟩ := h2 v hv
    refine ⟨ρ2, ?_, h3⟩
    unfold lcT at h ⊢
    rw [hw]
    exact h) rfl (by rw [List.length_nil]; unfold sizeLine; omega)
  unfold lcR
  rw [e2]
  show R.ok (Sl.own (D.lst ([] ++ L.map o)), restE ρ ρ2 vs) = _
  rw [rest_wipe w2, List.nil_append]
theorem lcL_nx {turn : D → Env → R (Option D × Env)} {d ds acc x} {ρ ρ1 : Env} (h : turn d ρ = .ok (some x, ρ1)) (hl : acc.length < sizeLine) : lcL turn (d :: ds) acc ρ = lcL turn ds (acc ++ [x]) ρ1 := by
  rw [lcL, h]
  exact if_pos hl
@[simp] theorem eqS_str {g : G} {ρ : Env} {neg ps x y} : eqS g neg ps ρ [.frz (.str x), .frz (.str y)] = if PyData.strOk x && PyData.strOk y then .ok (.frz (.bl ((x == y) != neg)), ρ) else .stuck := by
  have e : eqD (.str x) (.str y) = if PyData.strOk x && PyData.strOk y then .ok (x == y) else .stuck := by
    show (if D.plain 60 (.str x) && D.plain 60 (.str y) then R.ok (D.eqv (.str x) (.str y)) else R.stuck) = _
    rw [D.plain, D.plain, D.eqv]
  simp only [eqS, Sl.d, e]
  split <;> rfl
/-! ### min, max -/
theorem fold_best {S : List D} (key : D → Int) {lt : D → D → Bool} (h1 : ∀ x ∈ S, ∀ y ∈ S, lt x y = true → key x ≤ key y) (h2 : ∀ x ∈ S, ∀ y ∈ S, lt x y = false → key y ≤ key x) : ∀ (xs : List D) (x : D), x ∈ S → (∀ y ∈ xs, y ∈ S) →
    (xs.foldl (fun a y => if lt a y then y else a) x) ∈ x :: xs ∧ ∀ y ∈ x :: xs, key y ≤ key (xs.foldl (fun a y => if lt a y then y else a) x)
  | [], x, _, _ => ⟨by simp, fun y hy => by simp at hy; rw [hy]; exact Int.le_refl _⟩
  | z :: xs, x, hx, hs => by
    rw [List.foldl_cons]
    have hz := hs z List.mem_cons_self
    cases q : lt x z with
    | true =>
      obtain ⟨a, b⟩ := fold_best key h1 h2 xs z hz fun y hy => hs y (List.mem_cons_of_mem _ hy)
      rw [if_pos rfl]
      refine ⟨List.mem_cons_of_mem _ a, fun y hy => ?_⟩
      rcases List.mem_cons.mp hy with e | e
      · subst e
        exact Int.le_trans (h1 y hx z hz q) (b z List.mem_cons_self)
      · exact b y e
    | false =>
      obtain ⟨a, b⟩ := fold_best key h1 h2 xs x hx fun y hy => hs y (List.mem_cons_of_mem _ hy)
      rw [if_neg (by simp)]
      refine ⟨?_, fun y hy => ?_⟩
      · rcases List.mem_cons.mp a with e | e
        · rw [e]; exact List.mem_cons_self
        · exact List.mem_cons_of_mem _ (List.mem_cons_of_mem _ e)
      · rcases List.mem_cons.mp hy with e | e
        · subst e; exact b _ List.mem_cons_self
        · rcases List.mem_cons.mp e with e | e
          · subst e; exact Int.le_trans (h2 x hx _ hz q) (b x List.mem_cons_self)
          · exact b y (List.mem_cons_of_mem _ e)
theorem us0_map {α : Type} {f : α → Int} : ∀ {L : List α}, D.us 0 (L.map fun v => D.int (f v)) = true
  | [] => by rw [List.map_nil, D.us]
  | v :: L => by
    rw [List.map_cons, D.us, us0_map (L := L), D.u]
    rfl
def prD (p : Int × Int) : D := .tup [.int p.1, .int p.2]
theorem us1_map {α : Type} {f h : α → Int} : ∀ {L : List α}, D.us 1 (L.map fun v => D.tup [.int (f v), .int (h v)]) = true
  | [] => by rw [List.map_nil, D.us]
  | v :: L => by
    rw [List.map_cons, D.us, us1_map (L := L), D.u, D.us, D.us, D.us, D.u, D.u]
    rfl
theorem ltx_int {i j : Int} : D.ltx (.int i) (.int j) = decide (i < j) := by rw [D.ltx]
theorem ltx_pr {a b c d : Int} : D.ltx (.tup [.int a, .int b]) (.tup [.int c, .int d]) = if a = c then decide (b < d) else decide (a < c) := by
  rw [D.ltx, D.ltxs, D.ltxs, D.ltxs, ltx_int, ltx_int, eqvI, eqvI]
  by_cases h : a = c
  · simp [h]
    omega
  · simp [h]
def keyD : D → Int
  | .int i => i
  | .tup (.int i :: _) => i
  | _ => 0
theorem max_ints {α : Type} (f : α → Int) {L : List α} (h : L ≠ []) : ∃ v ∈ L, (∀ u ∈ L, f u ≤ f v) ∧ maxD [.lst (L.map fun v => D.int (f v))] = .ok (.frz (.int (f v))) := by
  cases L with
  | nil => exact (h rfl).elim
  | cons z L =>
    have hu : uniL ((z :: L).map fun v => D.int (f v)) = true := by unfold uniL; rw [us0_map]; rfl
    rw [List.map_cons] at hu
    have := fold_best (S := (z :: L).map fun v => D.int (f v)) keyD (lt := D.ltx) (fun x hx y hy q => by
      obtain ⟨u, _, rfl⟩ := List.mem_map.mp hx
      obtain ⟨v, _, rfl⟩ := List.mem_map.mp hy
      rw [ltx_int] at q
      have := of_decide_eq_true q
      exact Int.le_of_lt this) (fun x hx y hy q => by
      obtain ⟨u, _, rfl⟩ := List.mem_map.mp hx
      obtain ⟨v, _, rfl⟩ := List.mem_map.mp hy
      rw [ltx_int] at q
      have := of_decide_eq_false q
      exact Int.not_lt.mp this) (L.map fun v => D.int (f v)) (.int (f z)) (by simp) (fun y hy => by rw [List.map_cons]; exact List.mem_cons_of_mem _ hy)
    obtain ⟨a, b⟩ := this
    have a' : (L.map fun v => D.int (f v)).foldl (fun a y => if a.ltx y then y else a) (.int (f z)) ∈ (z :: L).map fun v => D.int (f v) := by rw [List.map_cons]; exact a
    obtain ⟨v, hv, ev⟩ := List.mem_map.mp a'
    refine ⟨v, hv, fun u hu => ?_, ?_⟩
    · have := b (.int (f u)) (by rw [← List.map_cons (f := fun v => D.int (f v))]; exact List.mem_map.mpr ⟨u, hu, rfl⟩)
      rw [← ev] at this
      exact this
    · rw [List.map_cons]
      unfold maxD
      simp only [hu, if_true]
      unfold maxX
      rw [← ev]
theorem min_ints {α : Type} (f : α → Int) {L : List α} (h : L ≠ []) : ∃ v ∈ L, (∀ u ∈ L, f v ≤ f u) ∧ minD [.lst (L.map fun v => D.int (f v))] = .ok (.frz (.int (f v))) := by
  cases L with
  | nil => exact (h rfl).elim
  | cons z L =>
    have hu : uniL ((z :: L).map fun v => D.int (f v)) = true := by unfold uniL; rw [us0_map]; rfl
    rw [List.map_cons] at hu
    have := fold_best (S := (z :: L).map fun v => D.int (f v)) (fun d => - keyD d) (lt := fun a y => D.ltx y a) (fun x hx y hy q => by
      obtain ⟨u, _, rfl⟩ := List.mem_map.mp hx
      obtain ⟨v, _, rfl⟩ := List.mem_map.mp hy
      rw [ltx_int] at q
      have := of_decide_eq_true q
      show - f u ≤ - f v
      omega) (fun x hx y hy q => by
      obtain ⟨u, _, rfl⟩ := List.mem_map.mp hx
      obtain ⟨v, _, rfl⟩ := List.mem_map.mp hy
      rw [ltx_int] at q
      have := of_decide_eq_false q
      show - f v ≤ - f u
      omega) (L.map fun v => D.int (f v)) (.int (f z)) (by simp) (fun y hy => by rw [List.map_cons]; exact List.mem_cons_of_mem _ hy)
    obtain ⟨a, b⟩ := this
    have a' : (L.map fun v => D.int (f v)).foldl (fun a y => if y.ltx a then y else a) (.int (f z)) ∈ (z :: L).map fun v => D.int (f v) := by rw [List.map_cons]; exact a
    obtain ⟨v, hv, ev⟩ := List.mem_map.mp a'
    refine ⟨v, hv, fun u hu => ?_, ?_⟩
    · have := b (.int (f u)) (by rw [← List.map_cons (f := fun v => D.int (f v))]; exact List.mem_map.mpr ⟨u, hu, rfl⟩)
      rw [← ev] at this
      have : - f u ≤ - f v := this
      omega
    · rw [List.map_cons]
      unfold minD
      simp only [hu, if_true]
      unfold minX
      rw [← ev]
theorem max_prs {α : Type} (f h : α → Int) {L : List α} (hL : L ≠ []) : ∃ v ∈ L, (∀ u ∈ L, f u ≤ f v) ∧ maxD [.lst (L.map fun v => D.tup [.int (f v), .int (h v)])] = .ok (.frz (.tup [.int (f v), .int (h v)])) := by
  cases L with
  | nil => exact (hL rfl).elim
  | cons z L =>
    have hu : uniL ((z :: L).map fun v => D.tup [.int (f v), .int (h v)]) = true := by unfold uniL; rw [us1_map]; simp
    rw [List.map_cons] at hu
    have := fold_best (S := (z :: L).map fun v => D.tup [.int (f v), .int (h v)]) keyD (lt := D.ltx) (fun x hx y hy q => by
      obtain ⟨u, _, rfl⟩ := List.mem_map.mp hx
      obtain ⟨v, _, rfl⟩ := List.mem_map.mp hy
      rw [ltx_pr] at q
      show f u ≤ f v
      split at q
      · omega
      · have := of_decide_eq_true q
        omega) (fun x hx y hy q => by
      obtain ⟨u, _, rfl⟩ := List.mem_map.mp hx
      obtain ⟨v, _, rfl⟩ := List.mem_map.mp hy
      rw [ltx_pr] at q
      show f v ≤ f u
      split at q
      · omega
      · have := of_decide_eq_false q
        omega) (L.map fun v => D.tup [.int (f v), .int (h v)]) (.tup [.int (f z), .int (h z)]) (by simp) (fun y hy => by rw [List.map_cons]; exact List.mem_cons_of_mem _ hy)
    obtain ⟨a, b⟩ := this
    have a' : (L.map fun v => D.tup [.int (f v), .int (h v)]).foldl (fun a y => if a.ltx y then y else a) (.tup [.int (f z), .int (h z)]) ∈ (z :: L).map fun v => D.tup [.int (f v), .int (h v)] := by rw [List.map_cons]; exact a
    obtain ⟨v, hv, ev⟩ := List.mem_map.mp a'
    refine ⟨v, hv, fun u hu => ?_, ?_⟩
    · have := b (.tup [.int (f u), .int (h u)]) (by rw [← List.map_cons (f := fun v => D.tup [.int (f v), .int (h v)])]; exact List.mem_map.mpr ⟨u, hu, rfl⟩)
      rw [← ev] at this
      exact this
    · rw [List.map_cons]
      unfold maxD
      simp only [hu, if_true]
      unfold maxX
      rw [← ev]
theorem min_prs {α : Type} (f h : α → Int) {L : List α} (hL : L ≠ []) : ∃ v ∈ L, (∀ u ∈ L, f v ≤ f u) ∧ minD [.lst (L.map fun v => D.tup [.int (f v), .int (h v)])] = .ok (.frz (.tup [.int (f v), .int (h v)])) := by
  cases L with
  | nil => exact (hL rfl).elim
  | cons z L =>
    have hu : uniL ((z :: L).map fun v => D.tup [.int (f v), .int (h v)]) = true := by unfold uniL; rw [us1_map]; simp
    rw [List.map_cons] at hu
    have := fold_best (S := (z :: L).map fun v => D.tup [.int (f v), .int (h v)]) (fun d => - keyD d) (lt := fun a y => D.ltx y a) (fun x hx y hy q => by
      obtain ⟨u, _, rfl⟩ := List.mem_map.mp hx
      obtain ⟨v, _, rfl⟩ := List.mem_map.mp hy
      rw [ltx_pr] at q
      show - f u ≤ - f v
      split at q
      · omega
      · have := of_decide_eq_true q
        omega) (fun x hx y hy q => by
      obtain ⟨u, _, rfl⟩ := List.mem_map.mp hx
      obtain ⟨v, _, rfl⟩ := List.mem_map.mp hy
      rw [ltx_pr] at q
      show - f v ≤ - f u
      split at q
      · omega
      · have := of_decide_eq_false q
        omega) (L.map fun v => D.tup [.int (f v), .int (h v)]) (.tup [.int (f z), .int (h z)]) (by simp) (fun y hy => by rw [List.map_cons]; exact List.mem_cons_of_mem _ hy)
    obtain ⟨a, b⟩ := this
    have a' : (L.map fun v => D.tup [.int (f v), .int (h v)]).foldl (fun a y => if y.ltx a then y else a) (.tup [.int (f z), .int (h z)]) ∈ (z :: L).map fun v => D.tup [.int (f v), .int (h v)] := by rw [List.map_cons]; exact a
    obtain ⟨v, hv, ev⟩ := List.mem_map.mp a'
    refine ⟨v, hv, fun u hu => ?_, ?_⟩
    · have := b (.tup [.int (f u), .int (h u)]) (by rw [← List.map_cons (f := fun v => D.tup [.int (f v), .int (h v)])]; exact List.mem_map.mpr ⟨u, hu, rfl⟩)
      rw [← ev] at this
      have : - f u ≤ - f v := this
      omega
    · rw [List.map_cons]
      unfold minD
      simp only [hu, if_true]
      unfold minX
      rw [← ev]
end Rx.S

set_option Elab.async false
set_option linter.all false
set_option maxRecDepth 100000
/-! RxV: runs up to names that nobody reads; comprehensions and loops over lists of things. -/
namespace Rx.S
open PySem
section
variable {g : G} {lk : Nat → Bool} {r : R (Fl × Env)} {f : Fl} {w w1 ρ : Env}
/-- it ends so, and this is known of the names -/
def Ends (r : R (Fl × Env)) (f : Fl) (w : Env) : Prop := ∃ ρ', r = .ok (f, ρ') ∧ Wk w ρ'
theorem Ends.ok (h : Wk w ρ) : Ends (.ok (f, ρ)) f w := ⟨ρ, rfl, h⟩
theorem Ends.here : Ends (.ok (f, ρ)) f ρ := ⟨ρ, rfl, .refl⟩
theorem Ends.weak (h : Ends r f w) (hw : Wk w1 w) : Ends r f w1 := let ⟨ρ, e, k⟩ := h; ⟨ρ, e, hw.trans k⟩
theorem Ends.run {b : Sms} (h : Ends (Sms.ev g lk b w) f w1) (hw : Wk w ρ) : Ends (Sms.ev g lk b ρ) f w1 := by
  obtain ⟨ρ1, e, k⟩ := h
  have := Sms.wk g lk b hw
  rw [e] at this
  obtain ⟨ρ2, e2, k2⟩ := this
  exact ⟨ρ2, e2, k.trans k2⟩
theorem Ends.seq {rest : Sms} (h1 : Ends r .nx w1) (h2 : Ends (Sms.ev g lk rest w1) f w) : Ends (@bnd _ _ r ⟨fun x => goS x (Sms.ev g lk rest)⟩) f w := by
  obtain ⟨ρ, e, k⟩ := h1
  rw [e]
  exact h2.run k
theorem Ends.ret {s : Sl} {k : Env → R (Fl × Env)} (h1 : Ends r (.rt s) w) : Ends (@bnd _ _ r ⟨fun x => goS x k⟩) (.rt s) w := by
  obtain ⟨ρ, e, k⟩ := h1
  rw [e]
  exact ⟨ρ, rfl, k⟩
theorem Ends.nil (h : Wk w ρ) : Ends (Sms.ev g lk .nil ρ) .nx w := by rw [sms_nil]; exact .ok h
theorem Ends.of {b : Sms} (h : Sms.ev g lk b ρ = .ok (f, w)) : Ends (Sms.ev g lk b ρ) f w := ⟨w, h, .refl⟩
@[simp] theorem ends_ok {f' : Fl} : Ends (.ok (f, ρ)) f' w ↔ f = f' ∧ Wk w ρ := ⟨fun ⟨ρ', e, k⟩ => by cases e; exact ⟨rfl, k⟩, fun ⟨e, k⟩ => e ▸ .ok k⟩
/-- what follows runs alike where more is known -/
class Mo (K : Fl × Env → R (Fl × Env)) : Prop where
  mo : ∀ f ρ ρ1, Wk ρ ρ1 → RW (K (f, ρ)) (K (f, ρ1))
instance mo_goS {rest : Sms} : Mo (fun x => goS x (Sms.ev g lk rest)) := ⟨fun f ρ ρ1 h => by
  cases f with
  | nx => exact Sms.wk g lk rest h
  | _ => exact .ok h⟩
instance mo_okk : Mo R.ok := ⟨fun f ρ ρ1 h => .ok h⟩
instance mo_bind {A B : Fl × Env → R (Fl × Env)} [ha : Mo A] [hb : Mo B] : Mo (fun x => (A x).bind B) := ⟨fun f ρ ρ1 h => (ha.mo f ρ ρ1 h).bind hb.mo⟩
theorem mo_lp {turn : D → Env → R (Fl × Env)} (ht : ∀ d ρ ρ1, Wk ρ ρ1 → RW (turn d ρ) (turn d ρ1)) {ds : List D} : Mo (fun r => lpK turn ds r) := ⟨fun f ρ ρ1 h => by
  cases f with
  | nx => exact wk_loop ht h
  | ct => exact wk_loop ht h
  | bk => exact .ok h
  | rt s => exact .ok h⟩
theorem wk_forT {t : Tg} {b : Sms} {d : D} {ρ ρ1 : Env} (h : Wk ρ ρ1) : RW (forT g lk t b d ρ) (forT g lk t b d ρ1) := by
  unfold forT
  refine wk_putb h fun ρ ρ1 h => ?_
  exact Sms.wk g lk b h
instance mo_lpK {t : Tg} {b : Sms} {ds : List D} : Mo (fun r => lpK (forT g lk t b) ds r) := mo_lp (turn := forT g lk t b) fun d ρ ρ1 h => wk_forT h
theorem Ends.bnd {f1 : Fl} {K : Fl × Env → R (Fl × Env)} (h1 : Ends r f1 w1) [mo : Mo K] (h2 : Ends (K (f1, w1)) f w) : Ends (@bnd _ _ r ⟨K⟩) f w := by
  obtain ⟨ρ, e, k⟩ := h1
  obtain ⟨ρ2, e2, k2⟩ := h2
  have := mo.mo f1 w1 ρ k
  rw [e2] at this
  obtain ⟨ρ3, e3, k3⟩ := this
  rw [e]
  exact ⟨ρ3, e3, k2.trans k3⟩
theorem Ends.bndR {s : Sl} {K : Fl × Env → R (Fl × Env)} (h1 : Ends r (.rt s) w1) (h2 : ∀ ρ, K (.rt s, ρ) = .ok (.rt s, ρ)) : Ends (@Rx.S.bnd _ _ r ⟨K⟩) (.rt s) w1 := by
  obtain ⟨ρ, e, k⟩ := h1
  rw [e]
  exact ⟨ρ, h2 ρ, k⟩
@[simp] theorem bnd_assoc {α β γ : Type} {r : R α} {A : α → R β} {B : β → R γ} : @Rx.S.bnd _ _ (@Rx.S.bnd _ _ r ⟨A⟩) ⟨B⟩ = @Rx.S.bnd _ _ r ⟨fun x => (A x).bind B⟩ := by
  cases r <;> rfl
/-- what comes back of the owned arguments -/
def outW : List Sl → Env → Option (List (Option Sl))
  | [], _ => some []
  | .frz _ :: as, w => (outW as w.tail).map (none :: ·)
  | .own _ :: as, some s :: w => (outW as w).map (some s :: ·)
  | .own _ :: _, _ => none
theorem wk_tail : ∀ {w ρ : Env}, Wk w ρ → Wk w.tail ρ.tail
  | [], [], h => h
  | [], _ :: _, h => by have := h.len; simp at this
  | _ :: _, [], h => by have := h.len; simp at this
  | a :: w, b :: ρ, h => ⟨by have := h.len; simpa using this, fun i s hi => h.val (i + 1) s hi⟩
theorem outW_go : ∀ {as : List Sl} {w ρ : Env} {os : List (Option Sl)}, outW as w = some os → Wk w ρ → goO as ρ = os
  | [], w, ρ, os, h, k => by cases h; rfl
  | .frz d :: as, w, ρ, os, h, k => by
    obtain ⟨os', h1, rfl⟩ := Option.map_eq_some_iff.mp (show (outW as w.tail).map (none :: ·) = some os from h)
    show none :: goO as ρ.tail = _
    rw [outW_go h1 (wk_tail k)]
  | .own d :: as, w, ρ, os, h, k => by
    cases w with
    | nil => cases h
    | cons o w =>
      cases o with
      | none => cases h
      | some s =>
        obtain ⟨os', h1, rfl⟩ := Option.map_eq_some_iff.mp (show (outW as w).map (some s :: ·) = some os from h)
        show ρ.head?.join :: goO as ρ.tail = _
        rw [outW_go h1 (wk_tail k)]
        have := k.val 0 s rfl
        cases ρ with
        | nil => cases this
        | cons b ρ =>
          simp at this
          rw [this]
          rfl
theorem run_ends {fn : Fn} {as : List Sl} {s : Sl} {os : List (Option Sl)} (h : as.length = fn.np) (e : Ends (fn.body.ev g (lkOf as) (as.map some ++ List.replicate (fn.nn - fn.np) none)) (.rt s) w) (ho : outW as w = some os) : fn.run g as = .ok (s, os) := by
  obtain ⟨ρ, e, k⟩ := e
  rw [run_eq h, e]
  show R.ok (s, outs as ρ) = _
  rw [outs_go, outW_go ho k]
theorem run_endsN {fn : Fn} {as : List Sl} {os : List (Option Sl)} (h : as.length = fn.np) (e : Ends (fn.body.ev g (lkOf as) (as.map some ++ List.replicate (fn.nn - fn.np) none)) .nx w) (ho : outW as w = some os) : fn.run g as = .ok (.frz .non, os) := by
  obtain ⟨ρ, e, k⟩ := e
  rw [run_eq h, e]
  show R.ok (_, outs as ρ) = _
  rw [outs_go, outW_go ho k]
@[simp] theorem outW_nil : outW [] w = some [] := by cases w <;> rfl
@[simp] theorem outW_frz {d as} : outW (.frz d :: as) w = (outW as w.tail).map (none :: ·) := by cases w <;> rfl
@[simp] theorem outW_own {d as s} : outW (.own d :: as) (some s :: w) = (outW as w).map (some s :: ·) := id rfl
/-- what is known, name by name -/
@[simp] theorem wk_nn : Wk [] [] ↔ True := ⟨fun _ => trivial, fun _ => .refl⟩
@[simp] theorem wk_cc {a b : Option Sl} : Wk (a :: w) (b :: ρ) ↔ (a = none ∨ a = b) ∧ Wk w ρ := ⟨fun h => ⟨by
  cases a with
  | none => exact .inl rfl
  | some s => exact .inr (by have := h.val 0 s rfl; simpa using this.symm), ⟨by have := h.len; simpa using this, fun i s hi => h.val (i + 1) s hi⟩⟩, fun ⟨h1, h2⟩ => ⟨by simp [h2.len], fun i s hi => by
  cases i with
  | zero =>
    simp at hi
    subst hi
    rcases h1 with h1 | h1
    · cases h1
    · rw [← h1]; rfl
  | succ i => exact h2.val i s hi⟩⟩
theorem wk_none {o : Option Sl} (h : Wk w ρ) : Wk (none :: w) (o :: ρ) := ⟨by simp [h.len], fun i s hi => by
  cases i with
  | zero => simp at hi
  | succ i => exact h.val i s hi⟩
theorem wk_some {o : Option Sl} (h : Wk w ρ) : Wk (o :: w) (o :: ρ) := ⟨by simp [h.len], fun i s hi => by
  cases i with
  | zero => exact hi
  | succ i => exact h.val i s hi⟩
end
/-! ### comprehensions over lists of things -/
section
variable {g : G} {ρ : Env} {α : Type}
theorem lcL_fm {turn : D → Env → R (Option D × Env)} {W : Env → Env} {w : Env} {i : α → D} {o : α → Option D} : ∀ {L : List α} {acc : List D} {ρ : Env}, (∀ v ∈ L, ∀ ρ1, W ρ1 = w → ∃ ρ2, turn (i v) ρ1 = .ok (o v, ρ2) ∧ W ρ2 = w) → W ρ = w → acc.length + L.length ≤ sizeLine →
    ∃ ρ2, lcL turn (L.map i) acc ρ = .ok (acc ++ L.filterMap o, ρ2) ∧ W ρ2 = w
  | [], acc, ρ, _, hw, _ => ⟨ρ, by simp [lcL], hw⟩
  | v :: L, acc, ρ, h, hw, hl => by
    obtain ⟨ρ2, e, hw2⟩ := h v List.mem_cons_self ρ hw
    rw [List.length_cons] at hl
    rw [List.map_cons]
    unfold lcL
    rw [e]
    cases q : o v with
    | none =>
      obtain ⟨ρ3, e3, h3⟩ := lcL_fm (turn := turn) (L := L) (acc := acc) (ρ := ρ2) (fun d hd => h d (List.mem_cons_of_mem _ hd)) hw2 (by omega)
      refine ⟨ρ3, ?_, h3⟩
      rw [List.filterMap_cons, q]
      exact e3
    | some x =>
      obtain ⟨ρ3, e3, h3⟩ := lcL_fm (turn := turn) (L := L) (acc := acc ++ [x]) (ρ := ρ2) (fun d hd => h d (List.mem_cons_of_mem _ hd)) hw2 (by rw [List.length_append, List.length_singleton]; omega)
      refine ⟨ρ3, ?_, h3⟩
      show (if acc.length < sizeLine then lcL turn (L.map i) (acc ++ [x]) ρ2 else R.stuck) = _
      rw [if_pos (by omega), e3, List.filterMap_cons, q, List.append_assoc]
      rfl
def valT : R (Option D × Env) → Option D
  | .ok a => a.1
  | _ => none
open Classical in
/-- a list made of a list of things, T telling the turns -/
noncomputable def lcS (turn : D → Env → R (Option D × Env)) (vs : List Nat) (i : α → D) (T : α → R (Option D × Env)) (L : List α) (ρ : Env) : R (Sl × Env) :=
  if (∀ v ∈ L, ∃ x ρ2, T v = .ok (x, ρ2) ∧ wipeE ρ2 vs = wipeE ρ vs) ∧ L.length ≤ sizeLine then .ok (.own (.lst (L.filterMap fun v => valT (T v))), ρ) else lcR turn vs (L.map i) ρ
@[simp] theorem lcR_map {t : Tg} {vs : List Nat} {cs : Exs} {e : Ex} {i : α → D} {L : List α} : lcR (lcT g t vs cs e) vs (L.map i) ρ = lcS (lcT g t vs cs e) vs i (fun v => lcT g t vs cs e (i v) ρ) L ρ := by
  unfold lcS
  split
  · rename_i h
    obtain ⟨ρ2, e2, w2⟩ := lcL_fm (turn := lcT g t vs cs e) (W := fun ρ => wipeE ρ vs) (w := wipeE ρ vs) (i := i) (o := fun v => valT (lcT g t vs cs e (i v) ρ)) (L := L) (acc := []) (ρ := ρ) (fun v hv ρ1 hw => by
      obtain ⟨x, ρ2, e1, e2⟩ := h.1 v hv
      refine ⟨ρ2, ?_, e2⟩
      have : lcT g t vs cs e (i v) ρ1 = lcT g t vs cs e (i v) ρ := by
        unfold lcT
        rw [hw]
      have e1 : lcT g t vs cs e (i v) ρ = .ok (x, ρ2) := e1
      rw [this, e1]
      rfl) rfl (by simpa using h.2)
    unfold lcR
    rw [e2]
    show R.ok (Sl.own (D.lst ([] ++ _)), restE ρ ρ2 vs) = _
    rw [rest_wipe w2, List.nil_append]
  · rfl
theorem lcS_ok {turn : D → Env → R (Option D × Env)} {vs : List Nat} {i : α → D} {o : α → Option D} {E : α → Env} {L : List α} (hE : ∀ v ∈ L, wipeE (E v) vs = wipeE ρ vs) (hl : L.length ≤ sizeLine) :
    lcS turn vs i (fun v => .ok (o v, E v)) L ρ = .ok (.own (.lst (L.filterMap o)), ρ) := by
  unfold lcS
  exact if_pos ⟨fun v hv => ⟨_, _, rfl, hE v hv⟩, hl⟩
/-- lists that are not too long -/
class Sz {α : Type} (L : List α) : Prop where
  le : L.length ≤ 1000000
theorem Sz.line {L : List α} (h : Sz L) : L.length ≤ sizeLine := Nat.le_trans h.le (by decide +kernel)
instance {β : Type} {L : List α} {f : α → β} [h : Sz L] : Sz (L.map f) := ⟨by rw [List.length_map]; exact h.le⟩
instance {L : List α} {f : α → Bool} [h : Sz L] : Sz (L.filter f) := ⟨Nat.le_trans (List.length_filter_le _ _) h.le⟩
@[simp] theorem lcS_map {turn : D → Env → R (Option D × Env)} {vs : List Nat} {i o : α → D} {E : α → Env} {L : List α} (hE : ∀ v, wipeE (E v) vs = wipeE ρ vs) [hl : Sz L] :
    lcS turn vs i (fun v => .ok (some (o v), E v)) L ρ = .ok (.own (.lst (L.map o)), ρ) := by
  rw [lcS_ok (fun v _ => hE v) hl.line]
  congr 4
  clear hl
  induction L with
  | nil => rfl
  | cons v L ih => rw [List.filterMap_cons, List.map_cons, ih]
@[simp] theorem lcS_flt {turn : D → Env → R (Option D × Env)} {vs : List Nat} {i o : α → D} {E E' : α → Env} {p : α → Prop} {dp : ∀ v, Decidable (p v)} {L : List α} (hE : ∀ v, wipeE (E v) vs = wipeE ρ vs) (hE' : ∀ v, wipeE (E' v) vs = wipeE ρ vs) [hl : Sz L] :
    lcS turn vs i (fun v => if p v then .ok (some (o v), E v) else .ok (none, E' v)) L ρ = .ok (.own (.lst ((L.filter fun v => decide (p v)).map o)), ρ) := by
  have : (fun v => if p v then (R.ok (some (o v), E v) : R (Option D × Env)) else .ok (none, E' v)) = fun v => .ok (if p v then some (o v) else none, if p v then E v else E' v) := by
    funext v
    split <;> rfl
  rw [this, lcS_ok (fun v _ => (by split; exact hE v; exact hE' v)) hl.line]
  congr 4
  clear hl
  induction L with
  | nil => rfl
  | cons v L ih =>
    rw [List.filterMap_cons, List.filter_cons]
    by_cases h : p v
    · simp [h, ih]
    · simp [h, ih]
end
@[simp] theorem tst_ite {g : G} {e : Ex} {p : Prop} {dp : Decidable p} {a b : Bool × Env} : @bnd _ _ (if p then R.ok a else .ok b) ⟨tstK g e⟩ = if p then tstK g e a else tstK g e b := by
  split <;> rfl
/-! ### comprehensions over written lists -/
section
variable {g : G} {ρ ρ0 : Env}
def lcA (turn : D → Env → R (Option D × Env)) (vs : List Nat) (ρ0 : Env) (its acc : List D) (ρ : Env) : R (Sl × Env) := (lcL turn its acc ρ).bind fun q => .ok (.own (.lst q.1), restE ρ0 q.2 vs)
def lcB (turn : D → Env → R (Option D × Env)) (vs : List Nat) (ρ0 : Env) (its acc : List D) (ρ : Env) : Option D → R (Sl × Env)
  | some x => if acc.length < sizeLine then lcA turn vs ρ0 its (acc ++ [x]) ρ else .stuck
  | none => lcA turn vs ρ0 its acc ρ
@[simp] theorem lcR_lit {turn : D → Env → R (Option D × Env)} {vs d ds} : lcR turn vs (d :: ds) ρ = lcA turn vs ρ (d :: ds) [] ρ := id rfl
@[simp] theorem lcR_none {turn : D → Env → R (Option D × Env)} {vs} : lcR turn vs [] ρ = .ok (.own (.lst []), restE ρ ρ vs) := id rfl
@[simp] theorem lcA_nil {turn : D → Env → R (Option D × Env)} {vs acc} : lcA turn vs ρ0 [] acc ρ = .ok (.own (.lst acc), restE ρ0 ρ vs) := id rfl
@[simp] theorem lcA_cons {turn : D → Env → R (Option D × Env)} {vs d ds acc} : lcA turn vs ρ0 (d :: ds) acc ρ = (turn d ρ).calm.bind fun r => lcB turn vs ρ0 ds acc r.2 r.1 := by
  unfold lcA
  rw [lcL]
  cases (turn d ρ).calm with
  | ok a =>
    obtain ⟨o, ρ1⟩ := a
    cases o with
    | none => rfl
    | some x =>
      show (if acc.length < sizeLine then lcL turn ds (acc ++ [x]) ρ1 else R.stuck).bind _ = if acc.length < sizeLine then _ else _
      split <;> rfl
  | exc c fs => rfl
  | stuck => rfl
@[simp] theorem lcB_some {turn : D → Env → R (Option D × Env)} {vs its acc x} : lcB turn vs ρ0 its acc ρ (some x) = if acc.length < sizeLine then lcA turn vs ρ0 its (acc ++ [x]) ρ else .stuck := id rfl
@[simp] theorem lcB_none {turn : D → Env → R (Option D × Env)} {vs its acc} : lcB turn vs ρ0 its acc ρ none = lcA turn vs ρ0 its acc ρ := id rfl
@[simp] theorem calm_ok {α : Type} {a : α} : (R.ok a).calm = .ok a := id rfl
@[simp] theorem lt_line {n : Nat} (h : n ≤ 1000000) : n < sizeLine := Nat.lt_of_le_of_lt h (by decide +kernel)
end
/-! ### dicts made of written lists -/
section
variable {g : G} {ρ ρ0 : Env}
def dcT (g : G) (t : Tg) (vs : List Nat) (cs : Exs) (kx vx : Ex) (d : D) (ρ1 : Env) : R (Option (Kk × D) × Env) :=
  (Tg.put (fun i => !(vs.contains i)) t d (wipeE ρ1 vs)).bind fun ρ2 => (Exs.tests g cs ρ2).bind fun b =>
    if b.1 then (Ex.ev g kx b.2).bind fun y => (R.of (Rx.keyD y.1.d)).bind fun kk => (Ex.ev g vx y.2).bind fun z => .ok (some (kk, z.1.d), z.2) else .ok (none, b.2)
def dcA (turn : D → Env → R (Option (Kk × D) × Env)) (vs : List Nat) (ρ0 : Env) (its : List D) (acc : List (Kk × D)) (ρ : Env) : R (Sl × Env) := (dcL turn its acc ρ).bind fun q => .ok (.own (.dic q.1), restE ρ0 q.2 vs)
def dcB (turn : D → Env → R (Option (Kk × D) × Env)) (vs : List Nat) (ρ0 : Env) (its : List D) (acc : List (Kk × D)) (ρ : Env) : Option (Kk × D) → R (Sl × Env)
  | some x => if acc.length < sizeLine then dcA turn vs ρ0 its (setK acc x.1 x.2) ρ else .stuck
  | none => dcA turn vs ρ0 its acc ρ
@[simp] theorem ev_dc {t vs k as cs kx vx} : Ex.ev g (.dc t vs k as cs kx vx) ρ = (Exs.ev g as ρ).bind fun r => (frzs r.1).bind fun ds => (k.its ds).bind fun its => dcA (dcT g t vs cs kx vx) vs r.2 its [] r.2 := by rw [Ex.ev]; all_goals rfl
@[simp] theorem dcT_eq {t vs cs kx vx d ρ1} : dcT g t vs cs kx vx d ρ1 = (Tg.put (fun i => !(vs.contains i)) t d (wipeE ρ1 vs)).bind fun ρ2 => (Exs.tests g cs ρ2).bind fun b =>
    if b.1 then (Ex.ev g kx b.2).bind fun y => (R.of (Rx.keyD y.1.d)).bind fun kk => (Ex.ev g vx y.2).bind fun z => .ok (some (kk, z.1.d), z.2) else .ok (none, b.2) := id rfl
@[simp] theorem dcA_nil {turn : D → Env → R (Option (Kk × D) × Env)} {vs acc} : dcA turn vs ρ0 [] acc ρ = .ok (.own (.dic acc), restE ρ0 ρ vs) := id rfl
@[simp] theorem dcA_cons {turn : D → Env → R (Option (Kk × D) × Env)} {vs d ds acc} : dcA turn vs ρ0 (d :: ds) acc ρ = (turn d ρ).calm.bind fun r => dcB turn vs ρ0 ds acc r.2 r.1 := by
  unfold dcA
  rw [dcL]
  cases (turn d ρ).calm with
  | ok a =>
    obtain ⟨o, ρ1⟩ := a
    cases o with
    | none => rfl
    | some x =>
      show (if acc.length < sizeLine then dcL turn ds (setK acc x.1 x.2) ρ1 else R.stuck).bind _ = if acc.length < sizeLine then _ else _
      split <;> rfl
  | exc c fs => rfl
  | stuck => rfl
@[simp] theorem dcB_some {turn : D → Env → R (Option (Kk × D) × Env)} {vs its acc x} : dcB turn vs ρ0 its acc ρ (some x) = if acc.length < sizeLine then dcA turn vs ρ0 its (setK acc x.1 x.2) ρ else .stuck := id rfl
@[simp] theorem dcB_none {turn : D → Env → R (Option (Kk × D) × Env)} {vs its acc} : dcB turn vs ρ0 its acc ρ none = dcA turn vs ρ0 its acc ρ := id rfl
theorem setK_len {κ : Type} [DecidableEq κ] {ks : List (κ × D)} {k : κ} {v : D} : (setK ks k v).length ≤ ks.length + 1 := by
  unfold setK
  split
  · rw [List.length_map]; omega
  · rw [List.length_append]; exact Nat.le_refl _
end
/-! ### what is made of lists of things -/
section
variable {α β : Type}
theorem asBls_of {p : α → Bool} : ∀ {L : List α}, asBls (L.map fun v => D.bl (p v)) = some (L.map p)
  | [] => rfl
  | v :: L => by
    rw [List.map_cons, List.map_cons]
    unfold asBls
    rw [asBls_of]
    rfl
theorem asInts_of {p : α → Int} : ∀ {L : List α}, asInts (L.map fun v => D.int (p v)) = some (L.map p)
  | [] => rfl
  | v :: L => by
    rw [List.map_cons, List.map_cons]
    unfold asInts
    rw [asInts_of]
    rfl
@[simp] theorem all_map {p : α → Bool} {L : List α} : allD [.lst (L.map fun v => D.bl (p v))] = .ok (.frz (.bl (L.all p))) := by
  show (R.of (asBls (L.map fun v => D.bl (p v)))).bind _ = _
  rw [asBls_of]
  show R.ok (Sl.frz (D.bl ((L.map p).all id))) = _
  rw [List.all_map]
  rfl
@[simp] theorem any_map {p : α → Bool} {L : List α} : anyD [.lst (L.map fun v => D.bl (p v))] = .ok (.frz (.bl (L.any p))) := by
  show (R.of (asBls (L.map fun v => D.bl (p v)))).bind _ = _
  rw [asBls_of]
  show R.ok (Sl.frz (D.bl ((L.map p).any id))) = _
  rw [List.any_map]
  rfl
@[simp] theorem sum_map {p : α → Int} {L : List α} : sumD [.lst (L.map fun v => D.int (p v))] = .ok (.frz (.int (L.map p).sum)) := by
  show (R.of (asInts (L.map fun v => D.int (p v)))).bind _ = _
  rw [asInts_of]
  rfl
@[simp] theorem sum_mapT {p : α → Int} {L : List α} : sumD [.tup (L.map fun v => D.int (p v))] = .ok (.frz (.int (L.map p).sum)) := by
  show (R.of (asInts (L.map fun v => D.int (p v)))).bind _ = _
  rw [asInts_of]
  rfl
@[simp] theorem all_nil : allD [.lst []] = .ok (.frz (.bl true)) := id rfl
@[simp] theorem any_nil : anyD [.lst []] = .ok (.frz (.bl false)) := id rfl
@[simp] theorem sum_nil : sumD [.lst []] = .ok (.frz (.int 0)) := id rfl
def andS (b : Bool) : Sl → R Sl
  | .frz (.bl c) => .ok (.frz (.bl (b && c)))
  | _ => .stuck
def orS (b : Bool) : Sl → R Sl
  | .frz (.bl c) => .ok (.frz (.bl (b || c)))
  | _ => .stuck
def addS (b : Int) : Sl → R Sl
  | .frz (.int c) => .ok (.frz (.int (b + c)))
  | _ => .stuck
@[simp] theorem andS_ok {b c} : andS b (.frz (.bl c)) = .ok (.frz (.bl (b && c))) := id rfl
@[simp] theorem orS_ok {b c} : orS b (.frz (.bl c)) = .ok (.frz (.bl (b || c))) := id rfl
@[simp] theorem addS_ok {b c} : addS b (.frz (.int c)) = .ok (.frz (.int (b + c))) := id rfl
@[simp] theorem all_cons {b xs} : allD [.lst (.bl b :: xs)] = (allD [.lst xs]).bind (andS b) := by
  show ((R.of ((asBls xs).map (b :: ·))).bind _) = ((R.of (asBls xs)).bind _).bind (andS b)
  cases asBls xs <;> rfl
@[simp] theorem any_cons {b xs} : anyD [.lst (.bl b :: xs)] = (anyD [.lst xs]).bind (orS b) := by
  show ((R.of ((asBls xs).map (b :: ·))).bind _) = ((R.of (asBls xs)).bind _).bind (orS b)
  cases asBls xs <;> rfl
@[simp] theorem sum_cons {b xs} : sumD [.lst (.int b :: xs)] = (sumD [.lst xs]).bind (addS b) := by
  show ((R.of ((asInts xs).map (b :: ·))).bind _) = ((R.of (asInts xs)).bind _).bind (addS b)
  cases asInts xs with
  | none => rfl
  | some ns =>
    show R.ok (Sl.frz (D.int ((b :: ns).sum))) = R.ok (Sl.frz (D.int (b + ns.sum)))
    rw [List.sum_cons]
@[simp] theorem tup_lst {xs} : tupD [.lst xs] = .ok (.frz (.tup xs)) := id rfl
@[simp] theorem tup_tup {xs} : tupD [.tup xs] = .ok (.frz (.tup xs)) := id rfl
@[simp] theorem lst_lst {xs} : lstD [.lst xs] = .ok (.own (.lst xs)) := id rfl
@[simp] theorem lst_tup {xs} : lstD [.tup xs] = .ok (.own (.lst xs)) := id rfl
@[simp] theorem lst_dic {ks} : lstD [.dic ks] = .ok (.own (.lst (ks.map fun kv => kkB kv.1))) := id rfl
@[simp] theorem lst_dit {ks} : lstD [.dit ks] = .ok (.own (.lst (ks.map fun kv => keyB kv.1))) := id rfl
@[simp] theorem len_dic {ks} : lenD [.dic ks] = .ok (.frz (.int ks.length)) := id rfl
@[simp] theorem len_dit {ks} : lenD [.dit ks] = .ok (.frz (.int ks.length)) := id rfl
/-- the greatest, the least of some ints -/
def mxL : List Int → Int
  | [] => 0
  | x :: xs => xs.foldl (fun a y => if a < y then y else a) x
def mnL : List Int → Int
  | [] => 0
  | x :: xs => xs.foldl (fun a y => if y < a then y else a) x
theorem mxF : ∀ (xs : List Int) (x : Int), (xs.foldl (fun a y => if a < y then y else a) x ∈ x :: xs) ∧ ∀ y ∈ x :: xs, y ≤ xs.foldl (fun a y => if a < y then y else a) x
  | [], x => ⟨by simp, fun y h => by simp at h; rw [h]; exact Int.le_refl _⟩
  | z :: xs, x => by
    rw [List.foldl_cons]
    by_cases hc : x < z
    · rw [if_pos hc]
      obtain ⟨h1, h2⟩ := mxF xs z
      refine ⟨List.mem_cons_of_mem _ h1, fun y hy => ?_⟩
      have h0 := h2 _ List.mem_cons_self
      rcases List.mem_cons.mp hy with e | e
      · rw [e]; omega
      · exact h2 y e
    · rw [if_neg hc]
      obtain ⟨h1, h2⟩ := mxF xs x
      refine ⟨?_, fun y hy => ?_⟩
      · rcases List.mem_cons.mp h1 with e | e
        · rw [e]; exact List.mem_cons_self
        · exact List.mem_cons_of_mem _ (List.mem_cons_of_mem _ e)
      have h0 := h2 _ List.mem_cons_self
      rcases List.mem_cons.mp hy with e | e
      · rw [e]; exact h0
      · rcases List.mem_cons.mp e with e | e
        · rw [e]; omega
        · exact h2 y (List.mem_cons_of_mem _ e)
theorem mnF : ∀ (xs : List Int) (x : Int), (xs.foldl (fun a y => if y < a then y else a) x ∈ x :: xs) ∧ ∀ y ∈ x :: xs, xs.foldl (fun a y => if y < a then y else a) x ≤ y
  | [], x => ⟨by simp, fun y h => by simp at h; rw [h]; exact Int.le_refl _⟩
  | z :: xs, x => by
    rw [List.foldl_cons]
    by_cases hc : z < x
    · rw [if_pos hc]
      obtain ⟨h1, h2⟩ := mnF xs z
      refine ⟨List.mem_cons_of_mem _ h1, fun y hy => ?_⟩
      have h0 := h2 _ List.mem_cons_self
      rcases List.mem_cons.mp hy with e | e
      · rw [e]; omega
      · exact h2 y e
    · rw [if_neg hc]
      obtain ⟨h1, h2⟩ := mnF xs x
      refine ⟨?_, fun y hy => ?_⟩
      · rcases List.mem_cons.mp h1 with e | e
        · rw [e]; exact List.mem_cons_self
        · exact List.mem_cons_of_mem _ (List.mem_cons_of_mem _ e)
      have h0 := h2 _ List.mem_cons_self
      rcases List.mem_cons.mp hy with e | e
      · rw [e]; exact h0
      · rcases List.mem_cons.mp e with e | e
        · rw [e]; omega
        · exact h2 y (List.mem_cons_of_mem _ e)
theorem mxL_mem {xs : List Int} (h : xs ≠ []) : mxL xs ∈ xs := by
  cases xs with
  | nil => exact (h rfl).elim
  | cons x xs => exact (mxF xs x).1
theorem mnL_mem {xs : List Int} (h : xs ≠ []) : mnL xs ∈ xs := by
  cases xs with
  | nil => exact (h rfl).elim
  | cons x xs => exact (mnF xs x).1
theorem le_mxL {xs : List Int} {y : Int} (h : y ∈ xs) : y ≤ mxL xs := by
  cases xs with
  | nil => cases h
  | cons x xs => exact (mxF xs x).2 y h
theorem mnL_le {xs : List Int} {y : Int} (h : y ∈ xs) : mnL xs ≤ y := by
  cases xs with
  | nil => cases h
  | cons x xs => exact (mnF xs x).2 y h
theorem max_int {xs : List Int} (h : xs ≠ []) : maxD [.lst (xs.map D.int)] = .ok (.frz (.int (mxL xs))) := by
  cases xs with
  | nil => exact (h rfl).elim
  | cons x xs =>
    have hu : uniL ((x :: xs).map D.int) = true := by
      have := us0_map (f := fun v : Int => v) (L := x :: xs)
      unfold uniL
      rw [show D.us 0 ((x :: xs).map D.int) = true from this]
      rfl
    rw [List.map_cons] at hu ⊢
    unfold maxD
    simp only [hu, if_true]
    have : ∀ (xs : List Int) (x : Int), maxX (.int x) (xs.map D.int) = .int (xs.foldl (fun a y => if a < y then y else a) x) := by
      intro xs
      induction xs with
      | nil => intro x; rfl
      | cons y ys ih =>
        intro x
        rw [List.map_cons, List.foldl_cons]
        show maxX (if D.ltx (.int x) (.int y) then .int y else .int x) (ys.map D.int) = _
        rw [ltx_int]
        by_cases h : x < y
        · simp only [h, decide_true, if_true]; exact ih y
        · simp only [h, decide_false, if_false, Bool.false_eq_true]; exact ih x
    rw [this]
    rfl
theorem min_int {xs : List Int} (h : xs ≠ []) : minD [.lst (xs.map D.int)] = .ok (.frz (.int (mnL xs))) := by
  cases xs with
  | nil => exact (h rfl).elim
  | cons x xs =>
    have hu : uniL ((x :: xs).map D.int) = true := by
      have := us0_map (f := fun v : Int => v) (L := x :: xs)
      unfold uniL
      rw [show D.us 0 ((x :: xs).map D.int) = true from this]
      rfl
    rw [List.map_cons] at hu ⊢
    unfold minD
    simp only [hu, if_true]
    have : ∀ (xs : List Int) (x : Int), minX (.int x) (xs.map D.int) = .int (xs.foldl (fun a y => if y < a then y else a) x) := by
      intro xs
      induction xs with
      | nil => intro x; rfl
      | cons y ys ih =>
        intro x
        rw [List.map_cons, List.foldl_cons]
        show minX (if D.ltx (.int y) (.int x) then .int y else .int x) (ys.map D.int) = _
        rw [ltx_int]
        by_cases h : y < x
        · simp only [h, decide_true, if_true]; exact ih y
        · simp only [h, decide_false, if_false, Bool.false_eq_true]; exact ih x
    rw [this]
    rfl
/-- lists with something in them -/
class Ne {α : Type} (L : List α) : Prop where
  ne : L ≠ []
instance {f : α → β} {L : List α} [h : Ne L] : Ne (L.map f) := ⟨by simpa using h.ne⟩
@[simp] theorem max_map {f : α → Int} {L : List α} [h : Ne L] : maxD [.lst (L.map fun v => D.int (f v))] = .ok (.frz (.int (mxL (L.map f)))) := by
  have := max_int (xs := L.map f) (by simpa using h.ne)
  rwa [List.map_map] at this
@[simp] theorem min_map {f : α → Int} {L : List α} [h : Ne L] : minD [.lst (L.map fun v => D.int (f v))] = .ok (.frz (.int (mnL (L.map f)))) := by
  have := min_int (xs := L.map f) (by simpa using h.ne)
  rwa [List.map_map] at this
@[simp] theorem zip_map {i : α → D} {j : β → D} : ∀ {L : List α} {M : List β}, zipL (L.map i) (M.map j) = (L.zip M).map fun p => .tup [i p.1, j p.2]
  | [], M => by cases M <;> rfl
  | _ :: _, [] => rfl
  | x :: L, y :: M => by
    rw [List.map_cons, List.map_cons, List.zip_cons_cons, List.map_cons]
    unfold zipL
    rw [zip_map]
@[simp high] theorem zip_same {i j : α → D} : ∀ {L : List α}, zipL (L.map i) (L.map j) = L.map fun v => .tup [i v, j v]
  | [] => rfl
  | x :: L => by
    rw [List.map_cons, List.map_cons, List.map_cons]
    unfold zipL
    rw [zip_same]
instance {L : List α} {M : List β} [h : Sz L] : Sz (L.zip M) := ⟨by
  rw [List.length_zip]
  exact Nat.le_trans (Nat.min_le_left _ _) h.le⟩
@[simp] theorem enum_map {i : α → D} : ∀ {L : List α} {n : Nat}, enumL (L.map i) n = (L.zipIdx n).map fun p => .tup [.int p.2, i p.1]
  | [], n => rfl
  | x :: L, n => by
    rw [List.map_cons, List.zipIdx_cons, List.map_cons, ← enum_map]
    rfl
instance {L : List α} {n : Nat} [h : Sz L] : Sz (L.zipIdx n) := ⟨by rw [List.length_zipIdx]; exact h.le⟩
theorem sIx_nat (m d n : Nat) : sIx m d (some (n : Int)) = min n m := by
  show (if (n : Int) < 0 then ((n : Int) + (m : Int)).toNat else min (n : Int).toNat m) = _
  rw [if_neg (by omega), Int.toNat_natCast]
theorem cut_drop {xs : List D} {n : Nat} {k : Int} (h : k = n) : cutD xs (some k) none = xs.drop n := by
  subst h
  unfold cutD
  rw [sIx_nat]
  show (xs.drop (min n xs.length)).take (xs.length - min n xs.length) = _
  rw [List.take_of_length_le (by rw [List.length_drop]; omega)]
  by_cases hn : n ≤ xs.length
  · rw [Nat.min_eq_left hn]
  · rw [Nat.min_eq_right (by omega), List.drop_of_length_le (by omega), List.drop_of_length_le (by omega)]
theorem cut_take {xs : List D} {n : Nat} {k : Int} (h : k = n) : cutD xs none (some k) = xs.take n := by
  subst h
  unfold cutD
  rw [sIx_nat]
  show (xs.drop 0).take (min n xs.length - 0) = _
  rw [List.drop_zero, Nat.sub_zero]
  by_cases hn : n ≤ xs.length
  · rw [Nat.min_eq_left hn]
  · rw [Nat.min_eq_right (by omega), List.take_of_length_le (Nat.le_refl _), List.take_of_length_le (by omega)]
@[simp] theorem cut_dropM {f : α → D} {L : List α} {n : Nat} : cutD (L.map f) (some (n : Int)) none = (L.drop n).map f := by rw [cut_drop rfl, List.map_drop]
@[simp] theorem cut_dropM1 {f : α → D} {L : List α} {n : Nat} : cutD (L.map f) (some ((n : Int) + 1)) none = (L.drop (n + 1)).map f := by rw [cut_drop (n := n + 1) (by omega), List.map_drop]
@[simp] theorem cut_takeM {f : α → D} {L : List α} {n : Nat} : cutD (L.map f) none (some (n : Int)) = (L.take n).map f := by rw [cut_take rfl, List.map_take]
instance {L : List α} {n : Nat} [h : Sz L] : Sz (L.drop n) := ⟨by
  rw [List.length_drop]
  have := h.le
  omega⟩
instance {L : List α} {n : Nat} [h : Sz L] : Sz (L.take n) := ⟨by
  rw [List.length_take]
  have := h.le
  omega⟩
theorem szOk_i {L : List α} (h : Sz L) : szOk L.length = true := sz_lit (Nat.le_trans h.le (by decide))
@[simp] theorem szOk_len {L : List α} [h : Sz L] : szOk L.length = true := szOk_i h
@[simp] theorem szOk_len2 {L : List α} {M : List β} [h : Sz L] [h' : Sz M] : szOk (L.length + M.length) = true := sz_lit (by have := h.le; have := h'.le; omega)
end
/-! ### loops -/
section
variable {g : G} {lk : Nat → Bool} {α S : Type}
/-- a loop that goes through a state, or leaves with a value -/
def goF (step : α → S → Sl ⊕ S) : List α → S → Sl ⊕ S
  | [], s => .inr s
  | v :: L, s => match step v s with
    | .inl r => .inl r
    | .inr s' => goF step L s'
/-- what a turn does -/
def TurnOk (turn : D → Env → R (Fl × Env)) (d : D) (E : S → Env) (s : S) : Sl ⊕ S → Prop
  | .inl r => ∃ w, Ends (turn d (E s)) (.rt r) w
  | .inr s' => Ends (turn d (E s)) .nx (E s') ∨ Ends (turn d (E s)) .ct (E s')
theorem for_goF {t : Tg} {b : Sms} {i : α → D} {E : S → Env} {step : α → S → Sl ⊕ S} (I : List α → S → Prop) (hI : ∀ v L s s', I (v :: L) s → step v s = .inr s' → I L s') :
    ∀ {L : List α} {s : S} {ρ : Env}, (∀ v L s, I (v :: L) s → TurnOk (forT g lk t b) (i v) E s (step v s)) → I L s → Wk (E s) ρ → match goF step L s with
      | .inl r => ∃ w, Ends (loopL (forT g lk t b) (L.map i) ρ) (.rt r) w
      | .inr s' => I [] s' ∧ Ends (loopL (forT g lk t b) (L.map i) ρ) .nx (E s')
  | [], s, ρ, h, hi, hw => ⟨hi, ρ, rfl, hw⟩
  | v :: L, s, ρ, h, hi, hw => by
    have ht := h v L s hi
    have wk : ∀ {f w}, Ends (forT g lk t b (i v) (E s)) f w → Ends (forT g lk t b (i v) ρ) f w := fun {f w} ⟨ρ1, e, k⟩ => by
      have : RW (forT g lk t b (i v) (E s)) (forT g lk t b (i v) ρ) := wk_putb hw fun ρ ρ1 h => Sms.wk g lk b h
      rw [e] at this
      obtain ⟨ρ2, e2, k2⟩ := this
      exact ⟨ρ2, e2, k.trans k2⟩
    unfold goF
    rw [List.map_cons]
    cases q : step v s with
    | inl r =>
      rw [q] at ht
      obtain ⟨w, ht⟩ := ht
      obtain ⟨ρ1, e, k⟩ := wk ht
      refine ⟨w, ρ1, ?_, k⟩
      rw [loopL, e]
      rfl
    | inr s' =>
      rw [q] at ht
      dsimp only
      rcases ht with ht | ht
      · obtain ⟨ρ1, e, k⟩ := wk ht
        have e2 : loopL (forT g lk t b) (i v :: L.map i) ρ = loopL (forT g lk t b) (L.map i) ρ1 := by rw [loopL, e]; rfl
        rw [e2]
        exact for_goF I hI h (hI v L s s' hi q) k
      · obtain ⟨ρ1, e, k⟩ := wk ht
        have e2 : loopL (forT g lk t b) (i v :: L.map i) ρ = loopL (forT g lk t b) (L.map i) ρ1 := by rw [loopL, e]; rfl
        rw [e2]
        exact for_goF I hI h (hI v L s s' hi q) k
theorem turn_wk {t : Tg} {b : Sms} {d : D} {ρ0 ρ w : Env} {f : Fl} (hw : Wk ρ0 ρ) : Ends (forT g lk t b d ρ0) f w → Ends (forT g lk t b d ρ) f w := fun ⟨ρ1, e, k⟩ => by
  have : RW (forT g lk t b d ρ0) (forT g lk t b d ρ) := wk_putb hw fun ρ ρ1 h => Sms.wk g lk b h
  rw [e] at this
  obtain ⟨ρ2, e2, k2⟩ := this
  exact ⟨ρ2, e2, k.trans k2⟩
theorem lp_nx {turn : D → Env → R (Fl × Env)} {d : D} {ds : List D} {ρ ρ1 : Env} (h : turn d ρ = .ok (.nx, ρ1) ∨ turn d ρ = .ok (.ct, ρ1)) : loopL turn (d :: ds) ρ = loopL turn ds ρ1 := by
  rcases h with h | h <;> (rw [loopL, h]; rfl)
/-- each turn leaves things as they are -/
theorem for_still {t : Tg} {b : Sms} {i : α → D} {E : Env} : ∀ {L : List α} {ρ : Env}, (∀ v ∈ L, Ends (forT g lk t b (i v) E) .nx E ∨ Ends (forT g lk t b (i v) E) .ct E) → Wk E ρ → Ends (loopL (forT g lk t b) (L.map i) ρ) .nx E
  | [], ρ, _, hw => ⟨ρ, rfl, hw⟩
  | v :: L, ρ, h, hw => by
    rw [List.map_cons]
    obtain ⟨ρ1, e, k⟩ : ∃ ρ1, (forT g lk t b (i v) ρ = .ok (.nx, ρ1) ∨ forT g lk t b (i v) ρ = .ok (.ct, ρ1)) ∧ Wk E ρ1 := by
      rcases h v List.mem_cons_self with q | q
      · obtain ⟨ρ1, e, k⟩ := turn_wk hw q; exact ⟨ρ1, .inl e, k⟩
      · obtain ⟨ρ1, e, k⟩ := turn_wk hw q; exact ⟨ρ1, .inr e, k⟩
    rw [lp_nx e]
    exact for_still (fun u hu => h u (List.mem_cons_of_mem _ hu)) k
/-- each turn leaves things as they are, or leaves with a value -/
def Finds (r : R (Fl × Env)) (E : Env) : Option Sl → Prop
  | some s => ∃ w, Ends r (.rt s) w
  | none => Ends r .nx E
theorem for_find {t : Tg} {b : Sms} {i : α → D} {E : Env} (c : α → Option Sl) : ∀ {L : List α} {ρ : Env}, (∀ v ∈ L, Finds (forT g lk t b (i v) E) E (c v)) → Wk E ρ → Finds (loopL (forT g lk t b) (L.map i) ρ) E (L.findSome? c)
  | [], ρ, _, hw => ⟨ρ, rfl, hw⟩
  | v :: L, ρ, h, hw => by
    have h1 := h v List.mem_cons_self
    rw [List.map_cons, List.findSome?_cons]
    cases q : c v with
    | some s =>
      rw [q] at h1
      obtain ⟨w, h1⟩ := h1
      obtain ⟨ρ1, e, k⟩ := turn_wk hw h1
      exact ⟨w, ρ1, by rw [loopL, e]; rfl, k⟩
    | none =>
      rw [q] at h1
      obtain ⟨ρ1, e, k⟩ := turn_wk hw h1
      rw [lp_nx (.inl e)]
      exact for_find c (fun u hu => h u (List.mem_cons_of_mem _ hu)) k
theorem finds_ite {p : Prop} [Decidable p] {s : Sl} {ρ1 ρ2 E : Env} (h : Wk E ρ2) : Finds (if p then .ok (.rt s, ρ1) else .ok (.nx, ρ2)) E (if p then some s else none) := by
  split
  · exact ⟨ρ1, .here⟩
  · exact .ok h
theorem Finds.weak {r : R (Fl × Env)} {E E1 : Env} {c : Option Sl} (h : Finds r E c) (hw : Wk E1 E) : Finds r E1 c := by
  cases c with
  | none => exact Ends.weak h hw
  | some s => exact h
theorem Finds.bnd {r : R (Fl × Env)} {E E' : Env} {c d : Option Sl} {K : Fl × Env → R (Fl × Env)} (h : Finds r E c) [mo : Mo K] (h1 : ∀ s ρ, K (.rt s, ρ) = .ok (.rt s, ρ)) (h2 : Finds (K (.nx, E)) E' d) : Finds (@Rx.S.bnd _ _ r ⟨K⟩) E' (c <|> d) := by
  cases c with
  | some s =>
    obtain ⟨w, ρ, e, k⟩ := h
    rw [e]
    exact ⟨w, ρ, h1 s ρ, k⟩
  | none =>
    obtain ⟨ρ, e, k⟩ := h
    show Finds _ E' d
    rw [e]
    have m := mo.mo .nx E ρ k
    cases d with
    | some s =>
      obtain ⟨w, ρ2, e2, k2⟩ := h2
      rw [e2] at m
      obtain ⟨ρ3, e3, k3⟩ := m
      exact ⟨w, ρ3, e3, k2.trans k3⟩
    | none =>
      obtain ⟨ρ2, e2, k2⟩ := h2
      rw [e2] at m
      obtain ⟨ρ3, e3, k3⟩ := m
      exact ⟨ρ3, e3, k2.trans k3⟩
theorem Finds.last {r : R (Fl × Env)} {E E' : Env} {c : Option Sl} {K : Fl × Env → R (Fl × Env)} (h : Finds r E c) [mo : Mo K] (h1 : ∀ s ρ, K (.rt s, ρ) = .ok (.rt s, ρ)) (h2 : Ends (K (.nx, E)) .nx E') : Finds (@Rx.S.bnd _ _ r ⟨K⟩) E' c := by
  have := Finds.bnd (d := none) h h1 h2
  cases c <;> exact this
/-- each turn makes one state of another -/
theorem for_fold {t : Tg} {b : Sms} {i : α → D} {E : S → Env} (step : S → α → S) (I : List α → S → Prop) (hI : ∀ v L s, I (v :: L) s → I L (step s v)) :
    ∀ {L : List α} {s : S} {ρ : Env}, (∀ v L s, I (v :: L) s → Ends (forT g lk t b (i v) (E s)) .nx (E (step s v)) ∨ Ends (forT g lk t b (i v) (E s)) .ct (E (step s v))) → I L s → Wk (E s) ρ →
      I [] (L.foldl step s) ∧ Ends (loopL (forT g lk t b) (L.map i) ρ) .nx (E (L.foldl step s))
  | [], s, ρ, _, hi, hw => ⟨hi, ρ, rfl, hw⟩
  | v :: L, s, ρ, h, hi, hw => by
    rw [List.map_cons]
    obtain ⟨ρ1, e, k⟩ : ∃ ρ1, (forT g lk t b (i v) ρ = .ok (.nx, ρ1) ∨ forT g lk t b (i v) ρ = .ok (.ct, ρ1)) ∧ Wk (E (step s v)) ρ1 := by
      rcases h v L s hi with q | q
      · obtain ⟨ρ1, e, k⟩ := turn_wk hw q; exact ⟨ρ1, .inl e, k⟩
      · obtain ⟨ρ1, e, k⟩ := turn_wk hw q; exact ⟨ρ1, .inr e, k⟩
    rw [lp_nx e]
    exact for_fold step I hI h (hI v L s hi) k
/-- a while loop through a state -/
theorem while_go {c : Ex} {b : Sms} {E : S → Env} (I : S → Prop) (cond : S → Bool) (step : S → S) (μ : S → Nat) (hI : ∀ s, I s → cond s = true → I (step s) ∧ μ (step s) < μ s)
    (hc : ∀ s, I s → ∃ ρ, whC g c (E s) = .ok (cond s, ρ) ∧ Wk (E s) ρ) (hb : ∀ s, I s → cond s = true → Ends (whB g lk b (E s)) .nx (E (step s))) :
    ∀ {n : Nat} {s : S} {ρ : Env}, μ s < n → I s → Wk (E s) ρ → ∃ s', I s' ∧ cond s' = false ∧ Ends (whileN (whC g c) (whB g lk b) n ρ) .nx (E s')
  | 0, s, ρ, hn, _, _ => by omega
  | n + 1, s, ρ, hn, hi, hw => by
    obtain ⟨ρ1, e1, k1⟩ := hc s hi
    have w1 := wk_test g c hw
    rw [show Ex.test g c (E s) = .ok (cond s, ρ1) from e1] at w1
    obtain ⟨ρ2, e2, k2⟩ := w1
    have e2 : whC g c ρ = .ok (cond s, ρ2) := e2
    unfold whileN
    rw [e2]
    cases q : cond s with
    | false => exact ⟨s, hi, q, ρ2, rfl, k1.trans k2⟩
    | true =>
      obtain ⟨h1, h2⟩ := hI s hi q
      obtain ⟨ρ3, e3, k3⟩ := (hb s hi q)
      have w3 := Sms.wk g lk b (k1.trans k2)
      rw [show Sms.ev g lk b (E s) = .ok (.nx, ρ3) from e3] at w3
      obtain ⟨ρ4, e4, k4⟩ := w3
      have e4 : whB g lk b ρ2 = .ok (.nx, ρ4) := e4
      obtain ⟨s', z1, z2, z3⟩ := while_go I cond step μ hI hc hb (n := n) (s := step s) (ρ := ρ4) (by omega) h1 (k3.trans k4)
      refine ⟨s', z1, z2, ?_⟩
      simp only [R.ok_bind, if_true, e4]
      exact z3
end
/-! ### sizes by themselves -/
section
instance bd_iadd {e f : Nat} {i j : Int} [h1 : Bd e i] [h2 : Bd f j] : Bd (e + f + 1) (i + j) := bd_add h1 h2
instance bd_isub {e f : Nat} {i j : Int} [h1 : Bd e i] [h2 : Bd f j] : Bd (e + f + 1) (i - j) := bd_sub h1 h2
instance bd_imul {e f : Nat} {i j : Int} [h1 : Bd e i] [h2 : Bd f j] : Bd (e + f) (i * j) := bd_mul h1 h2
instance bd_ineg {e : Nat} {i : Int} [h1 : Bd e i] : Bd e (-i) := bd_neg h1
instance bd_iof {n : Nat} : Bd n (no_index (OfNat.ofNat n) : Int) := bd_lit
@[simp] theorem mulOk_i {e f : Nat} {i j : Int} [h1 : Bd e i] [h2 : Bd f j] (h : e + f ≤ 100000000) : mulOk i j = true := mulOk_bd h
theorem bdm {e f : Nat} {i : Int} (h : Bd e i) (hle : e ≤ f := by decide) : Bd f i := ⟨Nat.lt_of_lt_of_le h.le (Nat.pow_le_pow_right (by decide) hle)⟩
/-- a pair of numbers of at most so many bits -/
structure PB (e : Nat) where
  x : Int
  y : Int
  hx : Bd e x
  hy : Bd e y
instance {e : Nat} (p : PB e) : Bd e p.x := p.hx
instance {e : Nat} (p : PB e) : Bd e p.y := p.hy
def PB.T {e : Nat} (p : PB e) : D := .tup [.int p.x, .int p.y]
@[simp] theorem PB.tt {e : Nat} {p : PB e} : p.T = .tup [.int p.x, .int p.y] := rfl
@[simp] theorem app_map {α β : Type} {f : α → β} {L M : List α} : L.map f ++ M.map f = (L ++ M).map f := List.map_append.symm
instance {α : Type} {L M : List α} [h : Ne L] : Ne (L ++ M) := ⟨by
  have := h.ne
  intro z
  exact this (List.append_eq_nil_iff.mp z).1⟩
end
end Rx.S

set_option Elab.async false
set_option linter.all false
set_option maxRecDepth 100000
namespace K56
open PySem Rx Rx.S
def f0 : Fn := ⟨1, 1, (.cons (.ret (.and (.op (.inst [.int]) (.bor 0 .nil)) (.not (.op (.inst [.bool]) (.bor 0 .nil))))) .nil)⟩
@[simp] def f1_C0 : Ex := (.call 0 (.cons (.var 3) .nil))
@[simp] def f1_C1 : Ex := (.op (.cmp .gt) (.bor 3 (.cons (.con (.int 0)) .nil)))
@[simp] def f1_C2 : Ex := (.chn .le .lt (.con (.int 0)) (.var 3) (.op (.bi .len) (.bor 0 .nil)))
@[simp] def f1_C3 : Ex := (.op .ix (.bor 0 (.bor 3 .nil)))
@[simp] def f1_C4 : Ex := (.op (.bin .mul) (.bor 6 (.cons (.op .ix (.bor 7 (.cons (.con (.int 0)) .nil))) .nil)))
@[simp] def f1_C5 : Ex := (.op (.bin .mul) (.bor 6 (.cons (.op .ix (.bor 7 (.cons (.con (.int 1)) .nil))) .nil)))
def f1 : Fn := ⟨3, 8, (.cons (.ife (.or (.eqv true (.cons (.op (.bi .len) (.bor 1 .nil)) (.cons (.op (.bi .len) (.bor 2 .nil)) .nil))) (.not (.op (.bi .all) (.cons (.lc (.var 3) [3] .seq (.cons (.cat true [true, true] (.cons (.var 1) (.cons (.var 2) .nil))) .nil) .nil f1_C0) .nil)))) (.cons (.ret (.con .non)) .nil) .nil) (.cons (.ife (.or (.not (.op (.bi .all) (.cons (.lc (.var 3) [3] .seq (.cons (.var 1) .nil) .nil f1_C2) .nil))) (.not (.op (.bi .all) (.cons (.lc (.var 3) [3] .seq (.cons (.var 2) .nil) .nil f1_C1) .nil)))) (.cons (.ret (.con .non)) .nil) .nil) (.cons (.set 4 (.lc (.var 3) [3] .seq (.cons (.var 1) .nil) .nil f1_C3)) (.cons (.set 5 (.op (.bi .sum) (.cons (.lc (.tup (.cons (.var 6) (.cons (.var 7) .nil))) [6, 7] .zip (.cons (.var 2) (.cons (.var 4) .nil)) .nil f1_C4) .nil))) (.cons (.ret (.op .tup (.cons (.op (.bi .sum) (.bor 2 .nil)) (.cons (.var 5) (.cons (.op (.bi .sum) (.cons (.lc (.tup (.cons (.var 6) (.cons (.var 7) .nil))) [6, 7] .zip (.cons (.var 2) (.cons (.var 4) .nil)) .nil f1_C5) .nil)) .nil))))) .nil)))))⟩
@[simp] def f2_C0 : Ex := (.call 0 (.cons (.var 4) .nil))
def f2_L1 : Sms := (.cons (.ife (.or (.not (.op (.inst [.tuple]) (.bor 3 .nil))) (.or (.eqv true (.cons (.op (.bi .len) (.bor 3 .nil)) (.cons (.con (.int 2)) .nil))) (.not (.op (.bi .all) (.cons (.lc (.var 4) [4] .seq (.cons (.var 3) .nil) .nil f2_C0) .nil))))) (.cons (.rai 0 (.cons (.var 3) .nil)) .nil) .nil) .nil)
def f2_L2 : Sms := (.cons (.ife (.not (.op (.inst [.list, .tuple]) (.bor 2 .nil))) (.cons (.rai 0 (.cons (.var 2) .nil)) .nil) .nil) (.cons (.for_ (.var 3) .seq (.cons (.var 2) .nil) f2_L1) (.cons (.ife (.not (.chn .le .le (.con (.int 1)) (.op (.bi .len) (.bor 2 .nil)) (.glb 0))) (.cons (.rai 1 (.cons (.op (.bi .len) (.bor 2 .nil)) .nil)) .nil) .nil) .nil)))
def f2 : Fn := ⟨2, 5, (.cons (.for_ (.var 2) .seq (.cons (.op .tup (.cons (.var 0) (.cons (.var 1) .nil))) .nil) f2_L2) .nil)⟩
@[simp] def f3_C0 : Ex := (.op (.bin .add) (.cons (.op (.bin .mul) (.bor 8 (.cons (.op .ix (.bor 11 (.cons (.con (.int 0)) .nil))) .nil))) (.cons (.op (.bin .mul) (.bor 9 (.cons (.op .ix (.bor 11 (.cons (.con (.int 1)) .nil))) .nil))) .nil)))
@[simp] def f3_C1 : Ex := (.op (.bin .add) (.cons (.op (.bin .mul) (.bor 8 (.cons (.op .ix (.bor 11 (.cons (.con (.int 0)) .nil))) .nil))) (.cons (.op (.bin .mul) (.bor 9 (.cons (.op .ix (.bor 11 (.cons (.con (.int 1)) .nil))) .nil))) .nil)))
def f3_L2 : Sms := (.cons (.set 10 (.op (.bi .max) (.cons (.lc (.var 11) [11] .seq (.cons (.var 0) .nil) .nil f3_C0) .nil))) (.cons (.ife (.op (.cmp .lt) (.bor 10 (.cons (.op (.bi .min) (.cons (.lc (.var 11) [11] .seq (.cons (.var 1) .nil) .nil f3_C1) .nil)) .nil))) (.cons (.ret (.op .tup (.cons (.var 8) (.cons (.var 9) (.cons (.var 10) .nil))))) .nil) .nil) .nil))
def f3_L3 : Sms := (.cons (.par [6, 7] (.cons (.op (.bin .sub) (.cons (.op .ix (.bor 5 (.cons (.con (.int 0)) .nil))) (.cons (.op .ix (.bor 4 (.cons (.con (.int 0)) .nil))) .nil))) (.cons (.op (.bin .sub) (.cons (.op .ix (.bor 5 (.cons (.con (.int 1)) .nil))) (.cons (.op .ix (.bor 4 (.cons (.con (.int 1)) .nil))) .nil))) .nil))) (.cons (.for_ (.tup (.cons (.var 8) (.cons (.var 9) .nil))) .seq (.cons (.op .tup (.cons (.op .tup (.cons (.var 6) (.cons (.var 7) .nil))) (.cons (.op .tup (.cons (.op (.bin .sub) (.cons (.con (.int 0)) (.bor 6 .nil))) (.cons (.op (.bin .sub) (.cons (.con (.int 0)) (.bor 7 .nil))) .nil))) (.cons (.op .tup (.cons (.var 7) (.cons (.op (.bin .sub) (.cons (.con (.int 0)) (.bor 6 .nil))) .nil))) (.cons (.op .tup (.cons (.op (.bin .sub) (.cons (.con (.int 0)) (.bor 7 .nil))) (.cons (.var 6) .nil))) .nil))))) .nil) f3_L2) .nil))
def f3_L4 : Sms := (.cons (.for_ (.var 5) .seq (.cons (.op (.slc true false) (.bor 2 (.cons (.op (.bin .add) (.bor 3 (.cons (.con (.int 1)) .nil))) .nil))) .nil) f3_L3) .nil)
def f3 : Fn := ⟨2, 12, (.cons (.set 2 (.cat false [true, true] (.cons (.var 0) (.cons (.var 1) .nil)))) (.cons (.for_ (.tup (.cons (.var 3) (.cons (.var 4) .nil))) .enm (.cons (.var 2) .nil) f3_L4) (.cons (.ret (.con .non)) .nil)))⟩
def f4 : Fn := ⟨3, 3, (.cons (.ret (.op (.bin .sub) (.cons (.op (.bin .mul) (.cons (.op (.bin .sub) (.cons (.op .ix (.bor 1 (.cons (.con (.int 0)) .nil))) (.cons (.op .ix (.bor 0 (.cons (.con (.int 0)) .nil))) .nil))) (.cons (.op (.bin .sub) (.cons (.op .ix (.bor 2 (.cons (.con (.int 1)) .nil))) (.cons (.op .ix (.bor 0 (.cons (.con (.int 1)) .nil))) .nil))) .nil))) (.cons (.op (.bin .mul) (.cons (.op (.bin .sub) (.cons (.op .ix (.bor 1 (.cons (.con (.int 1)) .nil))) (.cons (.op .ix (.bor 0 (.cons (.con (.int 1)) .nil))) .nil))) (.cons (.op (.bin .sub) (.cons (.op .ix (.bor 2 (.cons (.con (.int 0)) .nil))) (.cons (.op .ix (.bor 0 (.cons (.con (.int 0)) .nil))) .nil))) .nil))) .nil)))) .nil)⟩
@[simp] def f5_C0 : Ex := (.op .ix (.bor 2 (.bor 1 .nil)))
def f5 : Fn := ⟨1, 7, (.cons (.ife (.eqv false (.cons (.op (.bi .len) (.bor 0 .nil)) (.cons (.con (.int 2)) .nil))) (.cons (.ret (.ife (.eqv false (.cons (.op .ix (.bor 0 (.cons (.con (.int 0)) .nil))) (.cons (.op .ix (.bor 0 (.cons (.con (.int 1)) .nil))) .nil))) (.op .tup (.cons (.con (.int 1)) (.cons (.op .neg (.cons (.con (.int 1)) .nil)) .nil))) (.con .non))) .nil) .nil) (.cons (.ife (.eqv false (.cons (.op (.bi .len) (.bor 0 .nil)) (.cons (.con (.int 3)) .nil))) (.cons (.ife (.eqv true (.cons (.call 4 (.cons (.op .ix (.bor 0 (.cons (.con (.int 0)) .nil))) (.cons (.op .ix (.bor 0 (.cons (.con (.int 1)) .nil))) (.cons (.op .ix (.bor 0 (.cons (.con (.int 2)) .nil))) .nil)))) (.cons (.con (.int 0)) .nil))) (.cons (.ret (.con .non)) .nil) .nil) (.cons (.set 1 (.ife (.op (.cmp .gt) (.cons (.op (.bi .len) (.cons (.dc (.var 2) [2] .seq (.cons (.var 0) .nil) .nil (.op .ix (.bor 2 (.cons (.con (.int 0)) .nil))) (.con (.bl true))) .nil)) (.cons (.con (.int 1)) .nil))) (.con (.int 0)) (.con (.int 1)))) (.cons (.asg (.tup (.cons (.var 3) (.cons (.var 4) (.cons (.var 5) .nil)))) (.lc (.var 2) [2] .seq (.cons (.var 0) .nil) .nil f5_C0)) (.cons (.ret (.op .tup (.cons (.op (.bin .sub) (.bor 4 (.bor 5 .nil))) (.cons (.op (.bin .sub) (.bor 5 (.bor 3 .nil))) (.cons (.op (.bin .sub) (.bor 3 (.bor 4 .nil))) .nil))))) .nil)))) .nil) (.cons (.asg (.tup (.cons (.var 3) (.cons (.var 4) (.cons (.var 5) (.cons (.var 6) .nil))))) (.var 0)) (.cons (.ret (.op .tup (.cons (.call 4 (.cons (.var 4) (.cons (.var 5) (.cons (.var 6) .nil)))) (.cons (.op (.bin .sub) (.cons (.con (.int 0)) (.cons (.call 4 (.cons (.var 3) (.cons (.var 5) (.cons (.var 6) .nil)))) .nil))) (.cons (.call 4 (.cons (.var 3) (.cons (.var 4) (.cons (.var 6) .nil)))) (.cons (.op (.bin .sub) (.cons (.con (.int 0)) (.cons (.call 4 (.cons (.var 3) (.cons (.var 4) (.cons (.var 5) .nil)))) .nil))) .nil)))))) .nil))))⟩
@[simp] def f6_C0 : Ex := (.op .ix (.bor 2 (.bor 5 .nil)))
@[simp] def f6_C1 : Ex := (.op .ix (.bor 0 (.bor 5 .nil)))
@[simp] def f6_C2 : Ex := (.eqv false (.bor 5 (.cons (.con (.int 0)) .nil)))
@[simp] def f6_C3 : Ex := (.op (.cmp .gt) (.bor 5 (.cons (.con (.int 0)) .nil)))
@[simp] def f6_C4 : Ex := (.op (.bin .sub) (.cons (.con (.int 0)) (.cons (.op (.bin .mul) (.bor 6 (.bor 5 .nil))) .nil)))
@[simp] def f6_C5 : Ex := (.op (.bin .mul) (.bor 6 (.bor 5 .nil)))
@[simp] def f6_C6 : Ex := (.eqv false (.bor 5 (.cons (.con (.int 0)) .nil)))
@[simp] def f6_C7 : Ex := (.op (.cmp .lt) (.bor 5 (.cons (.con (.int 0)) .nil)))
@[simp] def f6_C8 : Ex := (.op .tup (.cons (.var 10) (.cons (.var 11) .nil)))
@[simp] def f6_C9 : Ex := (.op .tup (.cons (.var 10) (.cons (.var 11) .nil)))
@[simp] def f6_C10 : Ex := (.var 11)
@[simp] def f6_C11 : Ex := (.var 10)
@[simp] def f6_C12 : Ex := (.var 11)
@[simp] def f6_C13 : Ex := (.var 10)
def f6 : Fn := ⟨4, 13, (.cons (.set 4 (.call 5 (.cons (.cat false [true, true] (.cons (.lc (.var 5) [5] .seq (.cons (.var 1) .nil) .nil f6_C1) (.cons (.lc (.var 5) [5] .seq (.cons (.var 3) .nil) .nil f6_C0) .nil))) .nil))) (.cons (.ife (.or (.op (.cmp .isn) (.bor 4 (.cons (.con .non) .nil))) (.op (.bi .all) (.cons (.lc (.var 5) [5] .seq (.cons (.var 4) .nil) .nil f6_C2) .nil))) (.cons (.ret (.con .non)) .nil) .nil) (.cons (.set 6 (.ife (.op (.bi .any) (.cons (.lc (.var 5) [5] .seq (.cons (.op (.slc false true) (.bor 4 (.cons (.op (.bi .len) (.bor 1 .nil)) .nil))) .nil) .nil f6_C3) .nil)) (.con (.int 1)) (.op .neg (.cons (.con (.int 1)) .nil)))) (.cons (.par [7, 8] (.cons (.lc (.var 5) [5] .seq (.cons (.op (.slc false true) (.bor 4 (.cons (.op (.bi .len) (.bor 1 .nil)) .nil))) .nil) .nil f6_C5) (.cons (.lc (.var 5) [5] .seq (.cons (.op (.slc true false) (.bor 4 (.cons (.op (.bi .len) (.bor 1 .nil)) .nil))) .nil) .nil f6_C4) .nil))) (.cons (.ife (.or (.op (.bi .any) (.cons (.lc (.var 5) [5] .seq (.cons (.cat true [true, true] (.cons (.var 7) (.cons (.var 8) .nil))) .nil) .nil f6_C7) .nil)) (.op (.bi .all) (.cons (.lc (.var 5) [5] .seq (.cons (.var 7) .nil) .nil f6_C6) .nil))) (.cons (.ret (.con .non)) .nil) .nil) (.cons (.set 9 (.lc (.tup (.cons (.var 10) (.cons (.var 11) .nil))) [10, 11] .zip (.cons (.var 1) (.cons (.var 7) .nil)) (.cons (.op (.cmp .gt) (.bor 11 (.cons (.con (.int 0)) .nil))) .nil) f6_C8)) (.cons (.set 12 (.lc (.tup (.cons (.var 10) (.cons (.var 11) .nil))) [10, 11] .zip (.cons (.var 3) (.cons (.var 8) .nil)) (.cons (.op (.cmp .gt) (.bor 11 (.cons (.con (.int 0)) .nil))) .nil) f6_C9)) (.cons (.ret (.make 1 (.cons (.lc (.tup (.cons (.var 10) (.cons (.var 11) .nil))) [10, 11] .seq (.cons (.var 9) .nil) .nil f6_C13) (.cons (.lc (.tup (.cons (.var 10) (.cons (.var 11) .nil))) [10, 11] .seq (.cons (.var 9) .nil) .nil f6_C12) (.cons (.lc (.tup (.cons (.var 10) (.cons (.var 11) .nil))) [10, 11] .seq (.cons (.var 12) .nil) .nil f6_C11) (.cons (.lc (.tup (.cons (.var 10) (.cons (.var 11) .nil))) [10, 11] .seq (.cons (.var 12) .nil) .nil f6_C10) .nil)))))) .nil))))))))⟩
@[simp] def f7_C0 : Ex := (.cat true [true, false] (.cons (.var 4) (.cons (.var 5) .nil)))
def f7_L1 : Sms := (.cons (.set 2 (.lc2 (.var 4) [4, 5] .seq (.cons (.var 2) .nil) .nil (.var 5) [5] .rng (.cons (.ife (.eqv true (.bor 4 (.cons (.op .tup .nil) .nil))) (.op (.bin .add) (.cons (.op .ix (.bor 4 (.cons (.op .neg (.cons (.con (.int 1)) .nil)) .nil))) (.cons (.con (.int 1)) .nil))) (.con (.int 0))) (.cons (.var 0) .nil)) .nil f7_C0)) .nil)
def f7 : Fn := ⟨2, 6, (.cons (.set 2 (.op .lst (.cons (.op .tup .nil) .nil))) (.cons (.for_ (.var 3) .rng (.cons (.var 1) .nil) f7_L1) (.cons (.ret (.var 2)) .nil)))⟩
def f8_L0 : Sms := (.cons (.set 7 (.call 6 (.cons (.var 0) (.cons (.var 5) (.cons (.var 1) (.cons (.var 6) .nil)))))) (.cons (.ife (.op (.cmp .notn) (.bor 7 (.cons (.con .non) .nil))) (.cons (.ret (.var 7)) .nil) .nil) .nil))
def f8_L1 : Sms := (.cons (.for_ (.var 6) .seq (.cons (.call 7 (.cons (.op (.bi .len) (.bor 1 .nil)) (.cons (.var 4) .nil))) .nil) f8_L0) .nil)
def f8_L2 : Sms := (.cons (.for_ (.var 5) .seq (.cons (.call 7 (.cons (.op (.bi .len) (.bor 0 .nil)) (.cons (.var 3) .nil))) .nil) f8_L1) .nil)
def f8 : Fn := ⟨2, 8, (.cons (.ex (.call 2 (.cons (.var 0) (.cons (.var 1) .nil)))) (.cons (.set 2 (.call 3 (.cons (.var 0) (.cons (.var 1) .nil)))) (.cons (.ife (.op (.cmp .notn) (.bor 2 (.cons (.con .non) .nil))) (.cons (.ret (.make 0 (.cons (.var 2) .nil))) .nil) .nil) (.cons (.for_ (.tup (.cons (.var 3) (.cons (.var 4) .nil))) .seq (.cons (.op .tup (.cons (.op .tup (.cons (.con (.int 1)) (.cons (.con (.int 1)) .nil))) (.cons (.op .tup (.cons (.con (.int 1)) (.cons (.con (.int 2)) .nil))) (.cons (.op .tup (.cons (.con (.int 2)) (.cons (.con (.int 1)) .nil))) (.cons (.op .tup (.cons (.con (.int 2)) (.cons (.con (.int 2)) .nil))) (.cons (.op .tup (.cons (.con (.int 1)) (.cons (.con (.int 3)) .nil))) (.cons (.op .tup (.cons (.con (.int 3)) (.cons (.con (.int 1)) .nil))) .nil))))))) .nil) f8_L2) (.cons (.ret (.con .non)) .nil)))))⟩
def f9 : Fn := ⟨2, 7, (.cons (.asg (.tup (.cons (.var 2) (.cons (.var 3) .nil))) (.ife (.eqv true (.bor 0 (.cons (.op .lst .nil) .nil))) (.op .tup (.cons (.op .ix (.bor 0 (.cons (.op (.bin .mod) (.bor 1 (.cons (.op (.bi .len) (.bor 0 .nil)) .nil))) .nil))) (.cons (.op (.bin .fdiv) (.bor 1 (.cons (.op (.bi .len) (.bor 0 .nil)) .nil))) .nil))) (.op .tup (.cons (.con (.int 12345)) (.cons (.con (.int 0)) .nil))))) (.cons (.set 4 (.ife (.op (.cmp .lt) (.bor 3 (.cons (.con (.int 60)) .nil))) (.op (.bin .sub) (.bor 2 (.cons (.op (.bin .pow) (.cons (.con (.int 10)) (.cons (.con (.int 18)) .nil))) .nil))) (.con (.int 0)))) (.cons (.for_ (.var 5) .rng (.cons (.op (.bin .mod) (.cons (.op (.bi .int) (.bor 3 .nil)) (.cons (.con (.int 60)) .nil))) .nil) (.cons (.set 4 (.op (.bin .fdiv) (.bor 4 (.cons (.con (.int 1009)) .nil)))) .nil)) (.cons (.ife (.op (.cmp .gt) (.bor 4 (.cons (.con (.int 0)) .nil))) (.cons (.ret (.op (.bin .mod) (.cons (.op (.bi .int) (.bor 4 .nil)) (.cons (.con (.int 1009)) .nil)))) .nil) .nil) (.cons (.set 6 (.op (.bin .mod) (.cons (.op (.bin .add) (.cons (.op (.bin .mul) (.cons (.op (.bi .int) (.cons (.op (.bin .add) (.bor 2 (.cons (.op (.bin .mul) (.cons (.con (.int 977)) (.bor 1 .nil))) .nil))) .nil)) (.cons (.con (.int 48271)) .nil))) (.cons (.op (.bin .mul) (.cons (.con (.int 31)) (.cons (.op (.bi .len) (.bor 0 .nil)) .nil))) .nil))) (.cons (.con (.int 2147483647)) .nil)))) (.cons (.set 6 (.op (.bin .mod) (.cons (.op (.bin .add) (.cons (.op (.bin .mul) (.bor 6 (.bor 6 .nil))) (.cons (.op (.bin .mul) (.cons (.con (.int 40503)) (.bor 1 .nil))) .nil))) (.cons (.con (.int 2147483629)) .nil)))) (.cons (.ret (.op (.bi .int) (.cons (.op (.bin .mod) (.cons (.op (.bin .add) (.cons (.op (.bin .mul) (.bor 6 (.cons (.con (.int 69621)) .nil))) (.cons (.op (.bin .fdiv) (.bor 6 (.cons (.con (.int 977)) .nil))) .nil))) (.cons (.con (.int 2147483587)) .nil))) .nil))) .nil)))))))⟩
def f10 : Fn := ⟨2, 2, (.cons (.augs 0 (.con (.int 1)) .add (.con (.int 1))) (.cons (.ret (.op (.bin .mod) (.cons (.op (.bi .int) (.cons (.call 9 (.cons (.op .ix (.bor 0 (.cons (.con (.int 0)) .nil))) (.cons (.op (.bi .int) (.cons (.op .ix (.bor 0 (.cons (.con (.int 1)) .nil))) .nil)) .nil))) .nil)) (.bor 1 .nil)))) .nil))⟩
def f11 : Fn := ⟨2, 2, (.cons (.ret (.op .ix (.bor 1 (.cons (.call 10 (.bor 0 (.cons (.op (.bi .len) (.bor 1 .nil)) .nil))) .nil)))) .nil)⟩
def f12 : Fn := ⟨1, 1, (.cons (.ret (.and (.op (.inst [.int]) (.bor 0 .nil)) (.not (.op (.inst [.bool]) (.bor 0 .nil))))) .nil)⟩
def f13_L0 : Sms := (.cons (.par [8, 9] (.cons (.op (.bin .sub) (.cons (.call 10 (.bor 0 (.cons (.var 2) .nil))) (.cons (.op (.bin .fdiv) (.bor 2 (.cons (.con (.int 2)) .nil))) .nil))) (.cons (.op (.bin .sub) (.cons (.call 10 (.bor 0 (.cons (.var 2) .nil))) (.cons (.op (.bin .fdiv) (.bor 2 (.cons (.con (.int 2)) .nil))) .nil))) .nil))) (.cons (.app 6 (.ife (.eqv false (.bor 3 (.cons (.con (.int 0)) .nil))) (.op .tup (.cons (.op (.bin .mul) (.bor 8 (.bor 4 .nil))) (.cons (.op (.bin .mul) (.bor 8 (.bor 5 .nil))) .nil))) (.op .tup (.cons (.var 8) (.cons (.var 9) .nil))))) .nil))
def f13 : Fn := ⟨3, 10, (.cons (.asg (.tup (.cons (.var 3) (.cons (.tup (.cons (.var 4) (.cons (.var 5) .nil))) .nil))) (.op .tup (.cons (.call 10 (.bor 0 (.cons (.con (.int 4)) .nil))) (.cons (.op .tup (.cons (.op (.bin .sub) (.cons (.call 10 (.bor 0 (.cons (.con (.int 5)) .nil))) (.cons (.con (.int 2)) .nil))) (.cons (.op (.bin .sub) (.cons (.call 10 (.bor 0 (.cons (.con (.int 5)) .nil))) (.cons (.con (.int 2)) .nil))) .nil))) .nil)))) (.cons (.set 6 (.op .lst .nil)) (.cons (.for_ (.var 7) .rng (.cons (.var 1) .nil) f13_L0) (.cons (.ret (.var 6)) .nil))))⟩
@[simp] def f14_C0 : Ex := (.call 12 (.cons (.var 3) .nil))
@[simp] def f14_C1 : Ex := (.op (.cmp .gt) (.bor 3 (.cons (.con (.int 0)) .nil)))
@[simp] def f14_C2 : Ex := (.chn .le .lt (.con (.int 0)) (.var 3) (.op (.bi .len) (.bor 0 .nil)))
@[simp] def f14_C3 : Ex := (.op .ix (.bor 0 (.bor 3 .nil)))
@[simp] def f14_C4 : Ex := (.op (.bin .mul) (.bor 6 (.cons (.op .ix (.bor 7 (.cons (.con (.int 0)) .nil))) .nil)))
@[simp] def f14_C5 : Ex := (.op (.bin .mul) (.bor 6 (.cons (.op .ix (.bor 7 (.cons (.con (.int 1)) .nil))) .nil)))
def f14 : Fn := ⟨3, 8, (.cons (.ife (.or (.eqv true (.cons (.op (.bi .len) (.bor 1 .nil)) (.cons (.op (.bi .len) (.bor 2 .nil)) .nil))) (.not (.op (.bi .all) (.cons (.lc (.var 3) [3] .seq (.cons (.op (.bin .add) (.bor 1 (.bor 2 .nil))) .nil) .nil f14_C0) .nil)))) (.cons (.ret (.con .non)) .nil) .nil) (.cons (.ife (.or (.not (.op (.bi .all) (.cons (.lc (.var 3) [3] .seq (.cons (.var 1) .nil) .nil f14_C2) .nil))) (.not (.op (.bi .all) (.cons (.lc (.var 3) [3] .seq (.cons (.var 2) .nil) .nil f14_C1) .nil)))) (.cons (.ret (.con .non)) .nil) .nil) (.cons (.set 4 (.lc (.var 3) [3] .seq (.cons (.var 1) .nil) .nil f14_C3)) (.cons (.set 5 (.op (.bi .sum) (.cons (.lc (.tup (.cons (.var 6) (.cons (.var 7) .nil))) [6, 7] .zip (.cons (.var 2) (.cons (.var 4) .nil)) .nil f14_C4) .nil))) (.cons (.ret (.op .tup (.cons (.op (.bi .sum) (.bor 2 .nil)) (.cons (.var 5) (.cons (.op (.bi .sum) (.cons (.lc (.tup (.cons (.var 6) (.cons (.var 7) .nil))) [6, 7] .zip (.cons (.var 2) (.cons (.var 4) .nil)) .nil f14_C5) .nil)) .nil))))) .nil)))))⟩
@[simp] def f15_C0 : Ex := (.op (.cmp .gt) (.cons (.op (.bin .add) (.cons (.op (.bin .mul) (.bor 3 (.bor 6 .nil))) (.cons (.op (.bin .mul) (.bor 4 (.bor 7 .nil))) .nil))) (.bor 5 .nil)))
@[simp] def f15_C1 : Ex := (.op (.cmp .le) (.cons (.op (.bin .add) (.cons (.op (.bin .mul) (.bor 3 (.bor 6 .nil))) (.cons (.op (.bin .mul) (.bor 4 (.bor 7 .nil))) .nil))) (.bor 5 .nil)))
def f15 : Fn := ⟨3, 9, (.cons (.ife (.op (.inst [.cls 0]) (.bor 2 .nil)) (.cons (.asg (.tup (.cons (.var 3) (.cons (.var 4) (.cons (.var 5) .nil)))) (.op (.attr 6) (.bor 2 .nil))) (.cons (.ret (.and (.op (.bi .all) (.cons (.lc (.tup (.cons (.var 6) (.cons (.var 7) .nil))) [6, 7] .seq (.cons (.var 0) .nil) .nil f15_C1) .nil)) (.op (.bi .all) (.cons (.lc (.tup (.cons (.var 6) (.cons (.var 7) .nil))) [6, 7] .seq (.cons (.var 1) .nil) .nil f15_C0) .nil)))) .nil)) .nil) (.cons (.ife (.or (.op (.cmp .gt) (.cons (.op (.bin .add) (.cons (.op (.bi .len) (.cons (.op (.attr 8) (.bor 2 .nil)) .nil)) (.cons (.op (.bi .len) (.cons (.op (.attr 7) (.bor 2 .nil)) .nil)) .nil))) (.cons (.con (.int 4)) .nil))) (.or (.eqv false (.cons (.op (.attr 8) (.bor 2 .nil)) (.cons (.op .tup .nil) .nil))) (.eqv false (.cons (.op (.attr 7) (.bor 2 .nil)) (.cons (.op .tup .nil) .nil))))) (.cons (.ret (.con (.bl false))) .nil) .nil) (.cons (.set 8 (.call 14 (.cons (.var 0) (.cons (.op (.attr 8) (.bor 2 .nil)) (.cons (.op (.attr 9) (.bor 2 .nil)) .nil))))) (.cons (.ret (.and (.op (.cmp .notn) (.bor 8 (.cons (.con .non) .nil))) (.eqv false (.bor 8 (.cons (.call 14 (.cons (.var 1) (.cons (.op (.attr 7) (.bor 2 .nil)) (.cons (.op (.attr 10) (.bor 2 .nil)) .nil)))) .nil))))) .nil))))⟩
def f16 : Fn := ⟨2, 2, (.cons (.asg (.fld 0 6) (.var 1)) .nil)⟩
def f17 : Fn := ⟨1, 1, (.cons (.ret (.con (.bl true))) .nil)⟩
def f18 : Fn := ⟨2, 2, (.cons (.ret (.and (.op (.inst [.cls 0]) (.bor 1 .nil)) (.eqv false (.cons (.op (.attr 6) (.bor 0 .nil)) (.cons (.op (.attr 6) (.bor 1 .nil)) .nil))))) .nil)⟩
@[simp] def f19_C0 : Ex := (.call 0 (.cons (.var 3) .nil))
@[simp] def f19_C1 : Ex := (.op (.cmp .le) (.cons (.op (.bin .add) (.cons (.op (.bin .mul) (.bor 4 (.bor 7 .nil))) (.cons (.op (.bin .mul) (.bor 5 (.bor 8 .nil))) .nil))) (.bor 6 .nil)))
@[simp] def f19_C2 : Ex := (.op (.cmp .gt) (.cons (.op (.bin .add) (.cons (.op (.bin .mul) (.bor 4 (.bor 7 .nil))) (.cons (.op (.bin .mul) (.bor 5 (.bor 8 .nil))) .nil))) (.bor 6 .nil)))
def f19 : Fn := ⟨3, 9, (.cons (.ex (.call 2 (.cons (.var 1) (.cons (.var 2) .nil)))) (.cons (.ife (.or (.not (.op (.inst [.tuple]) (.cons (.op (.attr 6) (.bor 0 .nil)) .nil))) (.or (.eqv true (.cons (.op (.bi .len) (.cons (.op (.attr 6) (.bor 0 .nil)) .nil)) (.cons (.con (.int 3)) .nil))) (.not (.op (.bi .all) (.cons (.lc (.var 3) [3] .seq (.cons (.op (.attr 6) (.bor 0 .nil)) .nil) .nil f19_C0) .nil))))) (.cons (.ret (.con (.bl false))) .nil) .nil) (.cons (.asg (.tup (.cons (.var 4) (.cons (.var 5) (.cons (.var 6) .nil)))) (.op (.attr 6) (.bor 0 .nil))) (.cons (.ife (.not (.op (.bi .all) (.cons (.lc (.tup (.cons (.var 7) (.cons (.var 8) .nil))) [7, 8] .seq (.cons (.var 1) .nil) .nil f19_C1) .nil))) (.cons (.ret (.con (.bl false))) .nil) .nil) (.cons (.ret (.op (.bi .all) (.cons (.lc (.tup (.cons (.var 7) (.cons (.var 8) .nil))) [7, 8] .seq (.cons (.var 2) .nil) .nil f19_C2) .nil))) .nil)))))⟩
def f20 : Fn := ⟨5, 5, (.cons (.asg (.fld 0 8) (.op (.bi .tuple) (.bor 1 .nil))) (.cons (.asg (.fld 0 9) (.op (.bi .tuple) (.bor 2 .nil))) (.cons (.asg (.fld 0 7) (.op (.bi .tuple) (.bor 3 .nil))) (.cons (.asg (.fld 0 10) (.op (.bi .tuple) (.bor 4 .nil))) .nil))))⟩
def f21 : Fn := ⟨1, 1, (.cons (.ret (.con (.bl false))) .nil)⟩
def f22 : Fn := ⟨2, 2, (.cons (.ife (.not (.op (.inst [.cls 1]) (.bor 1 .nil))) (.cons (.ret (.con (.bl false))) .nil) .nil) (.cons (.ife (.eqv true (.cons (.op .tup (.cons (.op (.attr 8) (.bor 0 .nil)) (.cons (.op (.attr 9) (.bor 0 .nil)) .nil))) (.cons (.op .tup (.cons (.op (.attr 8) (.bor 1 .nil)) (.cons (.op (.attr 9) (.bor 1 .nil)) .nil))) .nil))) (.cons (.ret (.con (.bl false))) .nil) .nil) (.cons (.ret (.eqv false (.cons (.op .tup (.cons (.op (.attr 7) (.bor 0 .nil)) (.cons (.op (.attr 10) (.bor 0 .nil)) .nil))) (.cons (.op .tup (.cons (.op (.attr 7) (.bor 1 .nil)) (.cons (.op (.attr 10) (.bor 1 .nil)) .nil))) .nil)))) .nil)))⟩
def f23 : Fn := ⟨3, 4, (.cons (.ex (.call 2 (.cons (.var 1) (.cons (.var 2) .nil)))) (.cons (.ife (.or (.op (.cmp .gt) (.cons (.op (.bin .add) (.cons (.op (.bi .len) (.cons (.op (.attr 8) (.bor 0 .nil)) .nil)) (.cons (.op (.bi .len) (.cons (.op (.attr 7) (.bor 0 .nil)) .nil)) .nil))) (.cons (.con (.int 4)) .nil))) (.or (.eqv false (.cons (.op (.bi .len) (.cons (.op (.attr 8) (.bor 0 .nil)) .nil)) (.cons (.con (.int 0)) .nil))) (.eqv false (.cons (.op (.bi .len) (.cons (.op (.attr 7) (.bor 0 .nil)) .nil)) (.cons (.con (.int 0)) .nil))))) (.cons (.ret (.con (.bl false))) .nil) .nil) (.cons (.set 3 (.call 1 (.cons (.var 1) (.cons (.op (.attr 8) (.bor 0 .nil)) (.cons (.op (.attr 9) (.bor 0 .nil)) .nil))))) (.cons (.ret (.and (.op (.cmp .notn) (.bor 3 (.cons (.con .non) .nil))) (.eqv false (.bor 3 (.cons (.call 1 (.cons (.var 2) (.cons (.op (.attr 7) (.bor 0 .nil)) (.cons (.op (.attr 10) (.bor 0 .nil)) .nil)))) .nil))))) .nil))))⟩
@[simp] def f24_C0 : Ex := (.op .tup (.cons (.op (.bin .add) (.bor 8 (.bor 6 .nil))) (.cons (.op (.bin .add) (.bor 9 (.bor 7 .nil))) .nil)))
@[simp] def f24_C1 : Ex := (.op (.bin .add) (.bor 16 (.cons (.call 10 (.bor 1 (.cons (.con (.int 2)) .nil))) .nil)))
def f24_L2_R10 : Sms := (.cons (.ife (.and (.not (.var 10)) (.and (.meth 3 (.cons (.make 1 (.cons (.op (.attr 8) (.bor 10 .nil)) (.cons (.op (.attr 9) (.bor 10 .nil)) (.cons (.op (.bin .add) (.cons (.op (.attr 7) (.bor 10 .nil)) (.cons (.op (.attr 7) (.bor 10 .nil)) .nil))) (.cons (.op (.bin .add) (.cons (.op (.attr 10) (.bor 10 .nil)) (.cons (.op (.attr 10) (.bor 10 .nil)) .nil))) .nil))))) .nil) (.cons (.var 4) (.cons (.var 5) .nil))) (.op (.cmp .gt) (.cons (.op (.bin .add) (.cons (.op (.bi .len) (.cons (.op (.attr 8) (.bor 10 .nil)) .nil)) (.cons (.op (.bin .mul) (.cons (.con (.int 2)) (.cons (.op (.bi .len) (.cons (.op (.attr 7) (.bor 10 .nil)) .nil)) .nil))) .nil))) (.cons (.con (.int 4)) .nil))))) (.cons (.ret (.con (.bl false))) .nil) .nil) .nil)
def f24_L2_R9 : Sms := (.cons (.ife (.or (.eqv true (.cons (.meth 3 (.bor 15 .nil) (.cons (.var 4) (.cons (.var 5) .nil))) (.cons (.call 15 (.cons (.var 4) (.cons (.var 5) (.cons (.var 15) .nil)))) .nil))) (.eqv true (.cons (.eqv false (.bor 15 (.bor 10 .nil))) (.cons (.ife (.var 10) (.eqv false (.cons (.op (.attr 6) (.bor 15 .nil)) (.cons (.op (.attr 6) (.bor 10 .nil)) .nil))) (.eqv false (.cons (.op (.attr 9) (.bor 15 .nil)) (.cons (.op (.attr 9) (.bor 10 .nil)) .nil)))) .nil)))) (.cons (.ret (.con (.bl false))) .nil) .nil) f24_L2_R10)
def f24_L2_R8 : Sms := (.cons (.ife (.op (.inst [.cls 0]) (.bor 10 .nil)) (.cons (.asg (.tup (.cons (.var 12) (.cons (.var 13) (.cons (.var 14) .nil)))) (.op (.attr 6) (.bor 10 .nil))) (.cons (.set 15 (.make 0 (.cons (.op .tup (.cons (.op (.bin .sub) (.cons (.op (.bin .add) (.bor 12 (.cons (.call 10 (.bor 1 (.cons (.con (.int 3)) .nil))) .nil))) (.cons (.con (.int 1)) .nil))) (.cons (.var 13) (.cons (.op (.bin .sub) (.cons (.op (.bin .add) (.bor 14 (.cons (.call 10 (.bor 1 (.cons (.con (.int 3)) .nil))) .nil))) (.cons (.con (.int 1)) .nil))) .nil)))) .nil))) .nil)) (.cons (.set 15 (.make 1 (.cons (.op (.attr 8) (.bor 10 .nil)) (.cons (.op (.bi .tuple) (.cons (.lc (.var 16) [16] .seq (.cons (.op (.attr 9) (.bor 10 .nil)) .nil) .nil f24_C1) .nil)) (.cons (.op (.attr 7) (.bor 10 .nil)) (.cons (.op (.attr 10) (.bor 10 .nil)) .nil)))))) .nil)) f24_L2_R9)
def f24_L2_R6 : Sms := (.cons (.set 11 (.call 8 (.cons (.var 5) (.cons (.var 4) .nil)))) (.cons (.ife (.eqv true (.cons (.tru (.var 11)) (.cons (.tru (.var 10)) .nil))) (.cons (.ret (.con (.bl false))) .nil) .nil) f24_L2_R8))
def f24_L2_R3 : Sms := (.cons (.set 10 (.call 8 (.cons (.var 4) (.cons (.var 5) .nil)))) (.cons (.ife (.or (.eqv true (.cons (.tru (.var 10)) (.cons (.op (.inst [.cls 0]) (.bor 10 .nil)) .nil))) (.and (.not (.op (.inst [.cls 0]) (.bor 10 .nil))) (.not (.op (.inst [.cls 1]) (.bor 10 .nil))))) (.cons (.ret (.con (.bl false))) .nil) .nil) (.cons (.ife (.or (.not (.call 15 (.cons (.var 4) (.cons (.var 5) (.cons (.var 10) .nil))))) (.not (.meth 3 (.bor 10 .nil) (.cons (.var 4) (.cons (.var 5) .nil))))) (.cons (.ret (.con (.bl false))) .nil) .nil) f24_L2_R6)))
def f24_L2 : Sms := (.cons (.set 3 (.call 11 (.bor 1 (.cons (.op .lst (.cons (.con (.int 2)) (.cons (.con (.int 4)) (.cons (.con (.int 10)) (.cons (.con (.int 60)) .nil))))) .nil)))) (.cons (.asg (.tup (.cons (.var 4) (.cons (.var 5) .nil))) (.op .tup (.cons (.call 13 (.bor 1 (.cons (.op (.bin .add) (.cons (.con (.int 1)) (.cons (.call 10 (.bor 1 (.cons (.con (.int 6)) .nil))) .nil))) (.cons (.var 3) .nil)))) (.cons (.call 13 (.bor 1 (.cons (.op (.bin .add) (.cons (.con (.int 1)) (.cons (.call 10 (.bor 1 (.cons (.con (.int 6)) .nil))) .nil))) (.cons (.var 3) .nil)))) .nil)))) (.cons (.ife (.eqv false (.cons (.call 10 (.bor 1 (.cons (.con (.int 2)) .nil))) (.cons (.con (.int 0)) .nil))) (.cons (.asg (.tup (.cons (.var 6) (.cons (.var 7) .nil))) (.op .tup (.cons (.call 10 (.bor 1 (.cons (.var 3) .nil))) (.cons (.call 10 (.bor 1 (.cons (.var 3) .nil))) .nil)))) (.cons (.set 5 (.lc (.tup (.cons (.var 8) (.cons (.var 9) .nil))) [8, 9] .seq (.cons (.var 5) .nil) .nil f24_C0)) .nil)) .nil) f24_L2_R3)))
def f24_R4 : Sms := (.cons (.set 18 (.call 11 (.bor 1 (.cons (.op .lst (.cons (.con (.int 0)) (.cons (.con (.int 13)) (.cons (.con (.int 20)) .nil)))) .nil)))) (.cons (.ret (.and (.eqv false (.cons (.flt 0 [4, 18] (.call 8 (.cons (.var 4) (.cons (.op (.bin .mul) (.cons (.op .lst (.cons (.op .tup (.cons (.con (.int 1)) (.cons (.con (.int 2)) .nil))) .nil)) (.bor 18 .nil))) .nil)))) (.cons (.op .tup (.cons (.con (.str (PySem.Str.ofString "large"))) (.cons (.var 18) .nil))) .nil))) (.meth 3 (.cons (.call 8 (.cons (.op (.bin .mul) (.cons (.op .lst (.cons (.op .tup (.cons (.con (.int 1)) (.cons (.con (.int 2)) .nil))) .nil)) (.cons (.con (.int 12)) .nil))) (.cons (.op .lst (.cons (.op .tup (.cons (.con (.int 3)) (.cons (.con (.int 4)) .nil))) .nil)) .nil))) .nil) (.cons (.op .lst (.cons (.op .tup (.cons (.con (.int 1)) (.cons (.con (.int 2)) .nil))) .nil)) (.cons (.op .lst (.cons (.op .tup (.cons (.con (.int 3)) (.cons (.con (.int 4)) .nil))) .nil)) .nil))))) .nil))
def f24_R2 : Sms := (.cons (.set 17 (.call 11 (.bor 1 (.cons (.op .lst (.cons (.con .non) (.cons (.op .tup (.cons (.con (.int 1)) .nil)) (.cons (.op .tup (.cons (.con (.int 1)) (.cons (.con (.str (PySem.Str.ofString "2"))) .nil))) (.cons (.op .lst (.cons (.con (.int 1)) (.cons (.con (.int 2)) .nil))) (.cons (.op .tup (.cons (.con (.int 1)) (.cons (.con (.int 2)) (.cons (.con (.int 3)) .nil)))) .nil)))))) .nil)))) (.cons (.ife (.eqv true (.cons (.flt 0 [4, 17] (.call 8 (.cons (.op (.bin .add) (.bor 4 (.cons (.op .lst (.cons (.var 17) .nil)) .nil))) (.cons (.con (.int 7)) .nil)))) (.cons (.op .tup (.cons (.con (.str (PySem.Str.ofString "number"))) (.cons (.var 17) .nil))) .nil))) (.cons (.ret (.con (.bl false))) .nil) .nil) f24_R4))
def f24_R1 : Sms := (.cons (.for_ (.var 2) .rng (.cons (.con (.int 3)) .nil) f24_L2) f24_R2)
def f24 : Fn := ⟨1, 19, (.cons (.set 1 (.op .lst (.cons (.var 0) (.cons (.con (.int 0)) .nil)))) f24_R1)⟩
def fns : List Fn := [f0, f1, f2, f3, f4, f5, f6, f7, f8, f9, f10, f11, f12, f13, f14, f15, f16, f17, f18, f19, f20, f21, f22, f23, f24]
def glbL : List (Str × Cn) := [((PySem.Str.ofString "MOST_POINTS"), (.int 12))]
def mthL : List ((Nat × Nat) × Nat) := [((0, 0), 16), ((1, 0), 20), ((0, 1), 17), ((1, 1), 21), ((0, 2), 18), ((1, 2), 22), ((0, 3), 19), ((1, 3), 23)]
def iniL : List (Nat × Nat) := [(0, 16), (1, 20)]
def truL : List (Nat × Nat) := [(0, 17), (1, 21)]
def eqmL : List (Nat × Nat) := [(0, 18), (1, 22)]
def exfL : List (List Nat) := [[4], [5]]
def fltL : List FltD := [⟨[(0, .tag (PySem.Str.ofString "number") 4), (1, .tag (PySem.Str.ofString "large") 5)], (PySem.Str.ofString "none")⟩]
def prog : Pr := ⟨fns, fun j => (glbL[j]?).map fun q => q.2.d, fun c m => mthL.lookup (c, m), fun c => iniL.lookup c, fun c => truL.lookup c, fun c => eqmL.lookup c, fun c => exfL[c]?, fun f => fltL[f]?, 100000⟩
@[simp] theorem mth_0_0 : prog.mth 0 0 = some 16 := id rfl
@[simp] theorem mth_1_0 : prog.mth 1 0 = some 20 := id rfl
@[simp] theorem mth_0_1 : prog.mth 0 1 = some 17 := id rfl
@[simp] theorem mth_1_1 : prog.mth 1 1 = some 21 := id rfl
@[simp] theorem mth_0_2 : prog.mth 0 2 = some 18 := id rfl
@[simp] theorem mth_1_2 : prog.mth 1 2 = some 22 := id rfl
@[simp] theorem mth_0_3 : prog.mth 0 3 = some 19 := id rfl
@[simp] theorem mth_1_3 : prog.mth 1 3 = some 23 := id rfl
@[simp] theorem ini_0 : prog.ini 0 = some 16 := id rfl
@[simp] theorem ini_1 : prog.ini 1 = some 20 := id rfl
@[simp] theorem tru_0 : prog.tru 0 = some 17 := id rfl
@[simp] theorem tru_1 : prog.tru 1 = some 21 := id rfl
@[simp] theorem eqm_0 : prog.eqm 0 = some 18 := id rfl
@[simp] theorem eqm_1 : prog.eqm 1 = some 22 := id rfl
@[simp] theorem exf_0 : prog.exf 0 = some [4] := id rfl
@[simp] theorem exf_1 : prog.exf 1 = some [5] := id rfl
@[simp] theorem flt_0 : prog.flt 0 = some ⟨[(0, .tag (PySem.Str.ofString "number") 4), (1, .tag (PySem.Str.ofString "large") 5)], (PySem.Str.ofString "none")⟩ := id rfl
@[simp] theorem glb_0 : prog.glb 0 = some (((.int 12) : Cn).d) := id rfl
theorem c0 {n : Nat} {as : List Sl} : prog.call (n + 1) 0 as = f0.run (prog.g (prog.call n)) as := call_at rfl
theorem c1 {n : Nat} {as : List Sl} : prog.call (n + 1) 1 as = f1.run (prog.g (prog.call n)) as := call_at rfl
theorem c2 {n : Nat} {as : List Sl} : prog.call (n + 1) 2 as = f2.run (prog.g (prog.call n)) as := call_at rfl
theorem c3 {n : Nat} {as : List Sl} : prog.call (n + 1) 3 as = f3.run (prog.g (prog.call n)) as := call_at rfl
theorem c4 {n : Nat} {as : List Sl} : prog.call (n + 1) 4 as = f4.run (prog.g (prog.call n)) as := call_at rfl
theorem c5 {n : Nat} {as : List Sl} : prog.call (n + 1) 5 as = f5.run (prog.g (prog.call n)) as := call_at rfl
theorem c6 {n : Nat} {as : List Sl} : prog.call (n + 1) 6 as = f6.run (prog.g (prog.call n)) as := call_at rfl
theorem c7 {n : Nat} {as : List Sl} : prog.call (n + 1) 7 as = f7.run (prog.g (prog.call n)) as := call_at rfl
theorem c8 {n : Nat} {as : List Sl} : prog.call (n + 1) 8 as = f8.run (prog.g (prog.call n)) as := call_at rfl
theorem c9 {n : Nat} {as : List Sl} : prog.call (n + 1) 9 as = f9.run (prog.g (prog.call n)) as := call_at rfl
theorem c10 {n : Nat} {as : List Sl} : prog.call (n + 1) 10 as = f10.run (prog.g (prog.call n)) as := call_at rfl
theorem c11 {n : Nat} {as : List Sl} : prog.call (n + 1) 11 as = f11.run (prog.g (prog.call n)) as := call_at rfl
theorem c12 {n : Nat} {as : List Sl} : prog.call (n + 1) 12 as = f12.run (prog.g (prog.call n)) as := call_at rfl
theorem c13 {n : Nat} {as : List Sl} : prog.call (n + 1) 13 as = f13.run (prog.g (prog.call n)) as := call_at rfl
theorem c14 {n : Nat} {as : List Sl} : prog.call (n + 1) 14 as = f14.run (prog.g (prog.call n)) as := call_at rfl
theorem c15 {n : Nat} {as : List Sl} : prog.call (n + 1) 15 as = f15.run (prog.g (prog.call n)) as := call_at rfl
theorem c16 {n : Nat} {as : List Sl} : prog.call (n + 1) 16 as = f16.run (prog.g (prog.call n)) as := call_at rfl
theorem c17 {n : Nat} {as : List Sl} : prog.call (n + 1) 17 as = f17.run (prog.g (prog.call n)) as := call_at rfl
theorem c18 {n : Nat} {as : List Sl} : prog.call (n + 1) 18 as = f18.run (prog.g (prog.call n)) as := call_at rfl
theorem c19 {n : Nat} {as : List Sl} : prog.call (n + 1) 19 as = f19.run (prog.g (prog.call n)) as := call_at rfl
theorem c20 {n : Nat} {as : List Sl} : prog.call (n + 1) 20 as = f20.run (prog.g (prog.call n)) as := call_at rfl
theorem c21 {n : Nat} {as : List Sl} : prog.call (n + 1) 21 as = f21.run (prog.g (prog.call n)) as := call_at rfl
theorem c22 {n : Nat} {as : List Sl} : prog.call (n + 1) 22 as = f22.run (prog.g (prog.call n)) as := call_at rfl
theorem c23 {n : Nat} {as : List Sl} : prog.call (n + 1) 23 as = f23.run (prog.g (prog.call n)) as := call_at rfl
theorem c24 {n : Nat} {as : List Sl} : prog.call (n + 1) 24 as = f24.run (prog.g (prog.call n)) as := call_at rfl
end K56

set_option Elab.async false
set_option linter.all false
set_option maxRecDepth 100000
namespace K56
open PySem Rx Rx.S
abbrev P2 := PB 7
/-- one to twelve -/
class Few {α : Type} (L : List α) : Prop where
  le : L.length ≤ 12
  ne : L ≠ []
instance {α β : Type} {L : List α} {f : α → β} [h : Few L] : Few (L.map f) := ⟨by rw [List.length_map]; exact h.le, by simpa using h.ne⟩
instance {α : Type} {L : List α} [h : Few L] : Sz L := ⟨Nat.le_trans h.le (by decide)⟩
instance {α : Type} {L : List α} [h : Few L] : Ne L := ⟨h.ne⟩
instance {α : Type} {L M : List α} [h : Few L] [h' : Few M] : Sz (L ++ M) := ⟨by rw [List.length_append]; have := h.le; have := h'.le; omega⟩
@[simp] theorem szOk_few {α : Type} {L M : List α} [h : Few L] [h' : Few M] : szOk (L.length + M.length) = true := by rw [← List.length_append]; exact szOk_len
section
variable {n : Nat} {P Q : List P2}
@[simp] theorem isnum_int {i : Int} : prog.call (n + 1) 0 [.frz (.int i)] = .ok (.frz (.bl true), [none]) := by
  rw [c0, run_eq rfl]
  simp [-getElem?_pos, -getElem?_neg, -R.ok_bind, -R.exc_bind, -R.stuck_bind, -List.map_append, -List.map_drop, -List.map_take, f0, Ty.has]
abbrev PD (P : List P2) : Rx.D := .lst (P.map PB.T)
theorem chk_row {lk : Nat → Bool} (hl : lk 3 = false) {a b r : Option Sl} (P : List P2) : Ends (loopL (forT (prog.g (prog.call (n + 1))) lk (.var 3) f2_L1) (P.map PB.T) [a, b, r, none, none]) .nx [a, b, r, none, none] :=
  for_still (fun v _ => .inl (by simp [-getElem?_pos, -getElem?_neg, -R.ok_bind, -R.exc_bind, -R.stuck_bind, -List.map_append, -List.map_drop, -List.map_take, f2_L1, Ty.has, hl])) .refl
theorem check_ok (h1 : 1 ≤ P.length ∧ P.length ≤ 12) (h2 : 1 ≤ Q.length ∧ Q.length ≤ 12) : prog.call (n + 2) 2 [.frz (PD P), .frz (PD Q)] = .ok (.frz .non, [none, none]) := by
  rw [c2]
  refine run_endsN rfl (w := [some (.frz (PD P)), some (.frz (PD Q)), none, none, none]) ?_ rfl
  simp [-getElem?_pos, -getElem?_neg, -R.ok_bind, -R.exc_bind, -R.stuck_bind, -List.map_append, -List.map_drop, -List.map_take, f2, f2_L2, Ty.has]
  refine (chk_row rfl P).bnd ?_
  have a1 : (1 : Int) ≤ P.length := by omega
  have a2 : (P.length : Int) ≤ 12 := by omega
  simp [-getElem?_pos, -getElem?_neg, -R.ok_bind, -R.exc_bind, -R.stuck_bind, -List.map_append, -List.map_drop, -List.map_take, f2_L2, Ty.has, a1, a2]
  refine (chk_row rfl Q).bnd ?_
  have b1 : (1 : Int) ≤ Q.length := by omega
  have b2 : (Q.length : Int) ≤ 12 := by omega
  simp [-getElem?_pos, -getElem?_neg, -R.ok_bind, -R.exc_bind, -R.stuck_bind, -List.map_append, -List.map_drop, -List.map_take, f2_L2, Ty.has, b1, b2]
/-! ### a row that parts -/
def lin (a b : Int) (p : P2) : Int := a * p.x + b * p.y
def cand (P Q : List P2) (v : PB 20) : Option Sl := if mxL (P.map (lin v.x v.y)) < mnL (Q.map (lin v.x v.y)) then some (.frz (.tup [.int v.x, .int v.y, .int (mxL (P.map (lin v.x v.y)))])) else none
theorem cand_turn [Few P] [Few Q] {lk : Nat → Bool} (h8 : lk 8 = false) (h9 : lk 9 = false) (h10 : lk 10 = false) {o2 o3 o4 o5 o6 o7 : Option Sl} (v : PB 20) :
    Finds (forT (prog.g (prog.call n)) lk (.tup (.cons (.var 8) (.cons (.var 9) .nil))) f3_L2 v.T [some (.frz (PD P)), some (.frz (PD Q)), o2, o3, o4, o5, o6, o7, none, none, none, none]) [some (.frz (PD P)), some (.frz (PD Q)), o2, o3, o4, o5, o6, o7, none, none, none, none] (cand P Q v) := by
  simp [-getElem?_pos, -getElem?_neg, -R.ok_bind, -R.exc_bind, -R.stuck_bind, -List.map_append, -List.map_drop, -List.map_take, f3_L2, h8, h9, h10]
  unfold cand lin
  by_cases h : mxL (P.map fun p => v.x * p.x + v.y * p.y) < mnL (Q.map fun p => v.x * p.x + v.y * p.y)
  · simp only [h, if_true]
    exact ⟨_, .here⟩
  · simp only [h, if_false]
    simp [-getElem?_pos, -getElem?_neg, -R.ok_bind, -R.exc_bind, -R.stuck_bind, -List.map_append, -List.map_drop, -List.map_take, Finds]
def tries4 (u v : P2) : List (PB 20) := [⟨v.x - u.x, v.y - u.y, bdm bd_isub, bdm bd_isub⟩, ⟨-(v.x - u.x), -(v.y - u.y), bdm bd_ineg, bdm bd_ineg⟩, ⟨v.y - u.y, -(v.x - u.x), bdm bd_isub, bdm bd_ineg⟩, ⟨-(v.y - u.y), v.x - u.x, bdm bd_ineg, bdm bd_isub⟩]
theorem pair_turn [Few P] [Few Q] {lk : Nat → Bool} (h5 : lk 5 = false) (h6 : lk 6 = false) (h7 : lk 7 = false) (h8 : lk 8 = false) (h9 : lk 9 = false) (h10 : lk 10 = false) {o2 o3 : Option Sl} (u v : P2) :
    Finds (forT (prog.g (prog.call n)) lk (.var 5) f3_L3 v.T [some (.frz (PD P)), some (.frz (PD Q)), o2, o3, some (.frz u.T), none, none, none, none, none, none, none]) [some (.frz (PD P)), some (.frz (PD Q)), o2, o3, some (.frz u.T), none, none, none, none, none, none, none] ((tries4 u v).findSome? (cand P Q)) := by
  simp [-getElem?_pos, -getElem?_neg, -R.ok_bind, -R.exc_bind, -R.stuck_bind, -List.map_append, -List.map_drop, -List.map_take, f3_L3, h5, h6, h7, -loopL_cons]
  refine Finds.last (for_find (i := PB.T) (L := tries4 u v) (cand P Q) (fun w _ => cand_turn h8 h9 h10 w) .refl) (fun s ρ => rfl) ?_
  simp [-getElem?_pos, -getElem?_neg, -R.ok_bind, -R.exc_bind, -R.stuck_bind, -List.map_append, -List.map_drop, -List.map_take, ]
def pairs4 (P Q : List P2) : Option Sl := ((P ++ Q).zipIdx).findSome? fun p => ((P ++ Q).drop (p.2 + 1)).findSome? fun v => (tries4 p.1 v).findSome? (cand P Q)
theorem row_turn [Few P] [Few Q] {lk : Nat → Bool} (h3 : lk 3 = false) (h4 : lk 4 = false) (h5 : lk 5 = false) (h6 : lk 6 = false) (h7 : lk 7 = false) (h8 : lk 8 = false) (h9 : lk 9 = false) (h10 : lk 10 = false) (p : P2 × Nat) :
    Finds (forT (prog.g (prog.call n)) lk (.tup (.cons (.var 3) (.cons (.var 4) .nil))) f3_L4 (.tup [.int p.2, p.1.T]) [some (.frz (PD P)), some (.frz (PD Q)), some (.frz (PD (P ++ Q))), none, none, none, none, none, none, none, none, none]) [some (.frz (PD P)), some (.frz (PD Q)), some (.frz (PD (P ++ Q))), none, none, none, none, none, none, none, none, none]
      (((P ++ Q).drop (p.2 + 1)).findSome? fun v => (tries4 p.1 v).findSome? (cand P Q)) := by
  simp [-getElem?_pos, -getElem?_neg, -R.ok_bind, -R.exc_bind, -R.stuck_bind, -List.map_append, -List.map_drop, -List.map_take, f3_L4, h3, h4]
  refine Finds.last (for_find (i := PB.T) (L := (P ++ Q).drop (p.2 + 1)) (fun v => (tries4 p.1 v).findSome? (cand P Q)) (fun w _ => pair_turn h5 h6 h7 h8 h9 h10 p.1 w) .refl) (fun s ρ => rfl) ?_
  simp [-getElem?_pos, -getElem?_neg, -R.ok_bind, -R.exc_bind, -R.stuck_bind, -List.map_append, -List.map_drop, -List.map_take, ]
theorem row_eq [Few P] [Few Q] : prog.call (n + 1) 3 [.frz (PD P), .frz (PD Q)] = .ok ((pairs4 P Q).getD (.frz .non), [none, none]) := by
  rw [c3]
  have key : Finds (f3.body.ev (prog.g (prog.call n)) (lkOf [.frz (PD P), .frz (PD Q)]) [some (.frz (PD P)), some (.frz (PD Q)), none, none, none, none, none, none, none, none, none, none]) [some (.frz (PD P)), some (.frz (PD Q)), none, none, none, none, none, none, none, none, none, none] (some ((pairs4 P Q).getD (.frz .non))) := by
    simp [-getElem?_pos, -getElem?_neg, -R.ok_bind, -R.exc_bind, -R.stuck_bind, -List.map_append, -List.map_drop, -List.map_take, f3]
    have h := for_find (i := fun p : P2 × Nat => .tup [.int p.2, p.1.T]) (L := (P ++ Q).zipIdx) _ (fun p _ => row_turn (n := n) (P := P) (Q := Q) (lk := lkOf [.frz (PD P), .frz (PD Q)]) rfl rfl rfl rfl rfl rfl rfl rfl p) .refl
    rw [show some ((pairs4 P Q).getD (.frz .non)) = (pairs4 P Q <|> some (.frz .non)) by cases pairs4 P Q <;> rfl]
    refine (Finds.bnd (d := some (.frz .non)) h (fun s ρ => rfl) ⟨[none, none, none, none, none, none, none, none, none, none, none, none], ?_⟩)
    simp [-getElem?_pos, -getElem?_neg, -R.ok_bind, -R.exc_bind, -R.stuck_bind, -List.map_append, -List.map_drop, -List.map_take, ]
  obtain ⟨w, h⟩ := key
  exact run_ends rfl h (by simp)
/-! ### what the row says -/
theorem tries_rev {u v : P2} (w : PB 20) (h : w ∈ tries4 u v) : ∃ w' ∈ tries4 v u, w'.x = w.x ∧ w'.y = w.y := by
  unfold tries4 at h ⊢
  simp only [List.mem_cons, List.not_mem_nil, or_false, exists_eq_or_imp, exists_eq_left] at h ⊢
  rcases h with rfl | rfl | rfl | rfl
  · exact .inr (.inl ⟨by show -(u.x - v.x) = v.x - u.x; omega, by show -(u.y - v.y) = v.y - u.y; omega⟩)
  · exact .inl ⟨by show (u.x - v.x) = -(v.x - u.x); omega, by show (u.y - v.y) = -(v.y - u.y); omega⟩
  · exact .inr (.inr (.inr ⟨by show -(u.y - v.y) = v.y - u.y; omega, by show (u.x - v.x) = -(v.x - u.x); omega⟩))
  · exact .inr (.inr (.inl ⟨by show (u.y - v.y) = -(v.y - u.y); omega, by show -(u.x - v.x) = v.x - u.x; omega⟩))
theorem pairs_none (h : pairs4 P Q = none) : ∀ u ∈ P ++ Q, ∀ v ∈ P ++ Q, u ≠ v → ∀ w ∈ tries4 u v, cand P Q w = none := by
  have h1 : ∀ (i j : Nat) (u v : P2), i < j → (P ++ Q)[i]? = some u → (P ++ Q)[j]? = some v → ∀ w ∈ tries4 u v, cand P Q w = none := by
    intro i j u v hij hu hv w hw
    unfold pairs4 at h
    rw [List.findSome?_eq_none_iff] at h
    have a := h (u, i) (by
      rw [List.mem_zipIdx_iff_getElem?]
      simpa using hu)
    rw [List.findSome?_eq_none_iff] at a
    have b := a v (by
      rw [List.mem_iff_getElem?]
      exact ⟨j - (i + 1), by rw [List.getElem?_drop, show i + 1 + (j - (i + 1)) = j by omega]; exact hv⟩)
    rw [List.findSome?_eq_none_iff] at b
    exact b w hw
  intro u hu v hv huv w hw
  obtain ⟨i, hi⟩ := List.mem_iff_getElem?.mp hu
  obtain ⟨j, hj⟩ := List.mem_iff_getElem?.mp hv
  rcases Nat.lt_trichotomy i j with c | c | c
  · exact h1 i j u v c hi hj w hw
  · subst c
    rw [hi] at hj
    cases hj
    exact (huv rfl).elim
  · obtain ⟨w', hw', ex, ey⟩ := tries_rev w hw
    have := h1 j i v u c hj hi w' hw'
    unfold cand at this ⊢
    rw [ex, ey] at this
    exact this
theorem pairs_some {s : Sl} (h : pairs4 P Q = some s) : ∃ w, cand P Q w = some s := by
  unfold pairs4 at h
  obtain ⟨_, _, h⟩ := List.exists_of_findSome?_eq_some h
  obtain ⟨_, _, h⟩ := List.exists_of_findSome?_eq_some h
  obtain ⟨w, _, h⟩ := List.exists_of_findSome?_eq_some h
  exact ⟨w, h⟩
/-- a row a, b, c parts them -/
def Parts (P Q : List P2) (a b c : Int) : Prop := (∀ p ∈ P, lin a b p ≤ c) ∧ ∀ q ∈ Q, c < lin a b q
theorem cand_some [Few P] [Few Q] {s : Sl} {w : PB 20} (h : cand P Q w = some s) : ∃ c, s = .frz (.tup [.int w.x, .int w.y, .int c]) ∧ Parts P Q w.x w.y c := by
  unfold cand at h
  split at h
  · rename_i hc
    cases h
    refine ⟨_, rfl, fun p hp => le_mxL (List.mem_map_of_mem hp), fun q hq => ?_⟩
    have := mnL_le (List.mem_map_of_mem (f := lin w.x w.y) hq)
    omega
  · cases h
theorem cand_of {w : PB 20} [hp : Few P] [hq : Few Q] (h : ∀ p ∈ P, ∀ q ∈ Q, lin w.x w.y p < lin w.x w.y q) : cand P Q w ≠ none := by
  unfold cand
  rw [if_pos]
  · intro z; cases z
  · have h1 := mxL_mem (xs := P.map (lin w.x w.y)) (by simpa using hp.ne)
    have h2 := mnL_mem (xs := Q.map (lin w.x w.y)) (by simpa using hq.ne)
    obtain ⟨p, hp, e1⟩ := List.mem_map.mp h1
    obtain ⟨q, hq, e2⟩ := List.mem_map.mp h2
    rw [← e1, ← e2]
    exact h p hp q hq
end
end K56

set_option Elab.async false
set_option linter.all false
set_option maxRecDepth 100000
namespace K56
open PySem Rx Rx.S
def toD {m : Nat} (l : List (Fin m)) : Rx.D := .tup (l.map fun k => .int (k.val : Int))
section
variable {n : Nat} {P Q : List P2}
def ar (a b c : P2) : Int := (b.x - a.x) * (c.y - a.y) - (b.y - a.y) * (c.x - a.x)
theorem area_eq (a b c : P2) : prog.call (n + 1) 4 [.frz a.T, .frz b.T, .frz c.T] = .ok (.frz (.int (ar a b c)), [none, none, none]) := by
  rw [c4, run_eq rfl]
  simp [-getElem?_pos, -getElem?_neg, -R.ok_bind, -R.exc_bind, -R.stuck_bind, -List.map_append, -List.map_drop, -List.map_take, f4, ar]
theorem area_bd (a b c : P2) : Bd 61 (ar a b c) := by
  unfold ar
  exact bdm bd_isub
/-- the balance of two -/
theorem bal2 (a b : P2) : prog.call (n + 2) 5 [.frz (.lst [a.T, b.T])] = .ok (if a.x = b.x ∧ a.y = b.y then .frz (.tup [.int 1, .int (-1)]) else .frz .non, [none]) := by
  rw [c5, run_eq rfl]
  simp [-getElem?_pos, -getElem?_neg, -R.ok_bind, -R.exc_bind, -R.stuck_bind, -List.map_append, -List.map_drop, -List.map_take, f5]
  by_cases h : a.x = b.x ∧ a.y = b.y
  · simp [-getElem?_pos, -getElem?_neg, -R.ok_bind, -R.exc_bind, -R.stuck_bind, -List.map_append, -List.map_drop, -List.map_take, h]
  · simp [-getElem?_pos, -getElem?_neg, -R.ok_bind, -R.exc_bind, -R.stuck_bind, -List.map_append, -List.map_drop, -List.map_take, h]
theorem bal4 (a b c d : P2) : prog.call (n + 2) 5 [.frz (.lst [a.T, b.T, c.T, d.T])] = .ok (.frz (.tup [.int (ar b c d), .int (0 - ar a c d), .int (ar a b d), .int (0 - ar a b c)]), [none]) := by
  rw [c5, run_eq rfl]
  have h := @area_eq n
  simp only [PB.tt] at h
  simp [-getElem?_pos, -getElem?_neg, -R.ok_bind, -R.exc_bind, -R.stuck_bind, -List.map_append, -List.map_drop, -List.map_take, f5, h]
theorem k3 (a b c : Int) (t : Rx.D) : (1 < (setK (setK (setK [] (.inl a : Kk) t) (.inl b) t) (.inl c) t).length) ↔ ¬ (a = b ∧ b = c) := by
  unfold setK
  by_cases h1 : a = b
  · subst h1
    by_cases h2 : a = c
    · subst h2; simp
    · simp [h2]
  · by_cases h2 : b = c
    · subst h2; simp [h1]
    · by_cases h3 : a = c
      · subst h3; simp [h1]
      · simp [h1, h2, h3]
theorem k1 (a : Int) (t : Rx.D) : (setK [] (.inl a : Kk) t).length < sizeLine := lt_line (by simp [setK])
theorem k2 (a b : Int) (t : Rx.D) : (setK (setK [] (.inl a : Kk) t) (.inl b) t).length < sizeLine := lt_line (by
  have h1 := setK_len (ks := setK [] (.inl a : Kk) t) (k := .inl b) (v := t)
  have h2 := setK_len (ks := ([] : List (Kk × Rx.D))) (k := .inl a) (v := t)
  simp only [List.length_nil] at h2
  omega)
theorem bal3 (a b c : P2) : prog.call (n + 2) 5 [.frz (.lst [a.T, b.T, c.T])] = .ok (if ar a b c = 0 then (if a.x = b.x ∧ b.x = c.x then .frz (.tup [.int (b.y - c.y), .int (c.y - a.y), .int (a.y - b.y)]) else .frz (.tup [.int (b.x - c.x), .int (c.x - a.x), .int (a.x - b.x)])) else .frz .non, [none]) := by
  rw [c5, run_eq rfl]
  have h := @area_eq n
  simp only [PB.tt] at h
  simp [-getElem?_pos, -getElem?_neg, -R.ok_bind, -R.exc_bind, -R.stuck_bind, -List.map_append, -List.map_drop, -List.map_take, f5, h]
  by_cases h0 : ar a b c = 0
  · simp [-getElem?_pos, -getElem?_neg, -R.ok_bind, -R.exc_bind, -R.stuck_bind, -List.map_append, -List.map_drop, -List.map_take, f5, h0, k1, k2]
    by_cases h2 : a.x = b.x ∧ b.x = c.x
    · have h3 : ¬ ((1 : Int) < (setK (setK (setK [] (.inl c.x : Kk) (.bl true)) (.inl c.x) (.bl true)) (.inl c.x) (.bl true)).length) := fun z => (k3 c.x c.x c.x (.bl true)).mp (by omega) ⟨rfl, rfl⟩
      simp [-getElem?_pos, -getElem?_neg, -R.ok_bind, -R.exc_bind, -R.stuck_bind, -List.map_append, -List.map_drop, -List.map_take, h2, h3]
    · have h3 : ((1 : Int) < (setK (setK (setK [] (.inl a.x : Kk) (.bl true)) (.inl b.x) (.bl true)) (.inl c.x) (.bl true)).length) := by
        have := (k3 _ _ _ (.bl true)).mpr h2
        omega
      simp [-getElem?_pos, -getElem?_neg, -R.ok_bind, -R.exc_bind, -R.stuck_bind, -List.map_append, -List.map_drop, -List.map_take, h3, h2]
  · simp [-getElem?_pos, -getElem?_neg, -R.ok_bind, -R.exc_bind, -R.stuck_bind, -List.map_append, -List.map_drop, -List.map_take, h0]
end
end K56
namespace K56
open PySem Rx Rx.S
/-- an int of at most so many bits -/
structure BI (e : Nat) where
  v : Int
  h : Bd e v
instance {e : Nat} (p : BI e) : Bd e p.v := p.h
def bal : List P2 → Option (List (BI 61))
  | [a, b] => if a.x = b.x ∧ a.y = b.y then some [⟨1, bdm bd_iof⟩, ⟨-1, bdm bd_ineg⟩] else none
  | [a, b, c] => if ar a b c = 0 then some (if a.x = b.x ∧ b.x = c.x then [⟨b.y - c.y, bdm bd_isub⟩, ⟨c.y - a.y, bdm bd_isub⟩, ⟨a.y - b.y, bdm bd_isub⟩] else [⟨b.x - c.x, bdm bd_isub⟩, ⟨c.x - a.x, bdm bd_isub⟩, ⟨a.x - b.x, bdm bd_isub⟩]) else none
  | [a, b, c, d] => some [⟨ar b c d, area_bd ..⟩, ⟨- ar a c d, @bd_ineg _ _ (area_bd ..)⟩, ⟨ar a b d, area_bd ..⟩, ⟨-ar a b c, @bd_ineg _ _ (area_bd ..)⟩]
  | _ => none
def balS : Option (List (BI 61)) → Sl
  | some l => .frz (.tup (l.map fun x => .int x.v))
  | none => .frz .non
theorem bal_eq {n : Nat} : ∀ {L : List P2}, 2 ≤ L.length → L.length ≤ 4 → prog.call (n + 2) 5 [.frz (PD L)] = .ok (balS (bal L), [none])
  | [a, b], _, _ => by
    show prog.call (n + 2) 5 [.frz (.lst [a.T, b.T])] = _
    rw [bal2]
    by_cases h : a.x = b.x ∧ a.y = b.y <;> simp [bal, balS, h]
  | [a, b, c], _, _ => by
    show prog.call (n + 2) 5 [.frz (.lst [a.T, b.T, c.T])] = _
    rw [bal3]
    by_cases h : ar a b c = 0
    · by_cases h2 : a.x = b.x ∧ b.x = c.x <;> simp [bal, balS, h, h2]
    · simp [bal, balS, h]
  | [a, b, c, d], _, _ => by
    show prog.call (n + 2) 5 [.frz (.lst [a.T, b.T, c.T, d.T])] = _
    rw [bal4]
    simp [bal, balS]
  | [], h, _ => by simp at h
  | [a], h, _ => by simp at h
  | a :: b :: c :: d :: e :: L, _, h => by simp at h
theorem bal_len : ∀ {L : List P2} {l : List (BI 61)}, bal L = some l → l.length = L.length
  | [a, b], l, h => by
    by_cases h1 : a.x = b.x ∧ a.y = b.y
    · simp [bal, h1] at h; rw [← h]; rfl
    · simp [bal, h1] at h
  | [a, b, c], l, h => by
    by_cases h1 : ar a b c = 0
    · by_cases h2 : a.x = b.x ∧ b.x = c.x
      · simp [bal, h1, h2] at h; cases h; rfl
      · simp [bal, h1, h2] at h; cases h; rfl
    · simp [bal, h1] at h
  | [a, b, c, d], l, h => by simp [bal] at h; cases h; rfl
  | [], _, h => by simp [bal] at h
  | [a], _, h => by simp [bal] at h
  | a :: b :: c :: d :: e :: L, _, h => by simp [bal] at h
/-! ### a meeting of some and some -/
section
variable {n : Nat} {P Q : List P2}
def pick (P : List P2) (N : List (Fin P.length)) : List P2 := N.map fun k => P[k]
@[simp] theorem atF {α : Type} {f : α → Rx.D} {L : List α} {k : Fin L.length} : atD (L.map f) (k.val : Int) = .ok (f L[k]) := by
  have hk := k.isLt
  rw [at_ok (by omega) (by rw [List.length_map]; omega), Int.toNat_natCast, List.getElem?_map, List.getElem?_eq_getElem hk]
  rfl
def BI.neg {e : Nat} (x : BI e) : BI e := ⟨-x.v, bd_ineg⟩
@[simp] theorem BI.neg_v {e : Nat} {x : BI e} : x.neg.v = -x.v := rfl
@[simp] theorem mt1 {A B : List (BI 61)} : A.map (fun x => Rx.D.int x.v) ++ B.map (fun v => Rx.D.int (-v.v)) = (A ++ B.map BI.neg).map fun x => Rx.D.int x.v := by
  rw [List.map_append, List.map_map]
  rfl
@[simp] theorem mt2 {A B : List (BI 61)} : A.map (fun x => Rx.D.int (-x.v)) ++ B.map (fun v => Rx.D.int v.v) = (A.map BI.neg ++ B).map fun x => Rx.D.int x.v := by
  rw [List.map_append, List.map_map]
  rfl
open Classical in
/-- the weighted numbers of both sides -/
noncomputable def meet (N : List (Fin P.length)) (M : List (Fin Q.length)) : Option (List (Fin P.length × BI 61) × List (Fin Q.length × BI 61)) := match bal (pick P N ++ pick Q M) with
  | none => none
  | some l =>
    if ∀ x, x ∈ l → x.v = 0 then none else
    if ∃ x, x ∈ l.take N.length ∧ 0 < x.v then
      if (∃ x, x ∈ l.take N.length ∧ x.v < 0) ∨ ∃ x, x ∈ l.drop N.length ∧ 0 < x.v then none else
      if ∀ x, x ∈ l.take N.length → x.v = 0 then none else some ((N.zip (l.take N.length)).filter fun p => 0 < p.2.v, (M.zip ((l.drop N.length).map BI.neg)).filter fun p => 0 < p.2.v)
    else
      if (∃ x, x ∈ l.take N.length ∧ 0 < x.v) ∨ ∃ x, x ∈ l.drop N.length ∧ x.v < 0 then none else
      if ∀ x, x ∈ l.take N.length → x.v = 0 then none else some ((N.zip ((l.take N.length).map BI.neg)).filter fun p => 0 < p.2.v, (M.zip (l.drop N.length)).filter fun p => 0 < p.2.v)
def nums {m e : Nat} (W : List (Fin m × BI e)) : List Rx.D := W.map fun p => .int (p.1.val : Int)
def wts {m e : Nat} (W : List (Fin m × BI e)) : List Rx.D := W.map fun p => .int p.2.v
def mkM {m k e f : Nat} (W : List (Fin m × BI e)) (V : List (Fin k × BI f)) : Rx.D := .ins 1 [(8, .tup (nums W)), (9, .tup (wts W)), (7, .tup (nums V)), (10, .tup (wts V))]
def meetS {m k : Nat} : Option (List (Fin m × BI 61) × List (Fin k × BI 61)) → Sl
  | some (W, V) => .own (mkM W V)
  | none => .frz .non
@[simp] theorem ini1 {a b c d : List Rx.D} : prog.call (n + 1) 20 [.own (.ins 1 []), .frz (.lst a), .frz (.lst b), .frz (.lst c), .frz (.lst d)] = .ok (.frz .non, [some (.own (.ins 1 [(8, .tup a), (9, .tup b), (7, .tup c), (10, .tup d)])), none, none, none, none]) := by
  rw [c20, run_eq rfl]
  simp [-getElem?_pos, -getElem?_neg, -R.ok_bind, -R.exc_bind, -R.stuck_bind, -List.map_append, -List.map_drop, -List.map_take, f20]
theorem flt_neg {α : Type} {N : List α} {l : List (BI 61)} (f : α → BI 61 → Rx.D) : ((N.zip (l.map BI.neg)).filter fun p => decide (0 < p.2.v)).map (fun p => f p.1 p.2) = ((N.zip l).filter fun p => decide (p.2.v < 0)).map fun p => f p.1 p.2.neg := by
  rw [List.zip_map_right, List.filter_map, List.map_map]
  congr 1
  congr 1
  funext p
  simp
theorem meet_eq [Few P] [Few Q] {N : List (Fin P.length)} {M : List (Fin Q.length)} (hN : 1 ≤ N.length) (hM : 1 ≤ M.length) (hl : N.length + M.length ≤ 4) [Sz N] [Sz M] : prog.call (n + 3) 6 [.frz (PD P), .frz (toD N), .frz (PD Q), .frz (toD M)] = .ok (meetS (meet N M), [none, none, none, none]) := by
  unfold meet
  have hb := @bal_eq n (pick P N ++ pick Q M) (by simp [pick]; omega) (by simp [pick]; omega)
  have e : (pick P N ++ pick Q M).map PB.T = N.map (fun k => (P[k]).T) ++ M.map (fun k => (Q[k]).T) := by rw [List.map_append, pick, pick, List.map_map, List.map_map]; rfl
  rw [PD, e] at hb
  rw [c6, run_eq rfl]
  simp only [PB.tt, Fin.getElem_fin] at hb
  simp [-getElem?_pos, -getElem?_neg, -R.ok_bind, -R.exc_bind, -R.stuck_bind, -List.map_append, -List.map_drop, -List.map_take, f6, toD, hb]
  have hbl := @bal_len (pick P N ++ pick Q M)
  cases q : bal (pick P N ++ pick Q M) with
  | none => simp [-getElem?_pos, -getElem?_neg, -R.ok_bind, -R.exc_bind, -R.stuck_bind, -List.map_append, -List.map_drop, -List.map_take, balS, meetS]
  | some l =>
    have hlen : l.length = N.length + M.length := by rw [hbl q]; simp [pick]
    haveI : Sz l := ⟨by omega⟩
    have hz : szOk (min N.length l.length + (l.length - N.length)) = true := sz_lit (by omega)
    haveI : Sz (l.take N.length ++ (l.drop N.length).map BI.neg) := ⟨by simp; omega⟩
    haveI : Sz ((l.take N.length).map BI.neg ++ l.drop N.length) := ⟨by simp; omega⟩
    simp [-getElem?_pos, -getElem?_neg, -R.ok_bind, -R.exc_bind, -R.stuck_bind, -List.map_append, -List.map_drop, -List.map_take, balS]
    by_cases h0 : ∀ x, x ∈ l → x.v = 0
    · simp only [if_pos h0]
      simp [-getElem?_pos, -getElem?_neg, -R.ok_bind, -R.exc_bind, -R.stuck_bind, -List.map_append, -List.map_drop, -List.map_take, meetS]
    · simp only [if_neg h0]
      simp [-getElem?_pos, -getElem?_neg, -R.ok_bind, -R.exc_bind, -R.stuck_bind, -List.map_append, -List.map_drop, -List.map_take, ]
      by_cases hs : ∃ x, x ∈ l.take N.length ∧ 0 < x.v
      · simp only [if_pos hs]
        simp [-getElem?_pos, -getElem?_neg, -R.ok_bind, -R.exc_bind, -R.stuck_bind, -List.map_append, -List.map_drop, -List.map_take, hz]
        by_cases h1 : (∃ x, x ∈ l.take N.length ∧ x.v < 0) ∨ ∃ x, x ∈ l.drop N.length ∧ 0 < x.v
        · simp only [if_pos h1]
          simp [-getElem?_pos, -getElem?_neg, -R.ok_bind, -R.exc_bind, -R.stuck_bind, -List.map_append, -List.map_drop, -List.map_take, h1, meetS]
        · simp only [if_neg h1]
          simp [-getElem?_pos, -getElem?_neg, -R.ok_bind, -R.exc_bind, -R.stuck_bind, -List.map_append, -List.map_drop, -List.map_take, h1]
          by_cases h2 : ∀ x, x ∈ l.take N.length → x.v = 0
          · simp only [if_pos h2]
            simp [-getElem?_pos, -getElem?_neg, -R.ok_bind, -R.exc_bind, -R.stuck_bind, -List.map_append, -List.map_drop, -List.map_take, h2, meetS]
          · simp only [if_neg h2]
            simp [-getElem?_pos, -getElem?_neg, -R.ok_bind, -R.exc_bind, -R.stuck_bind, -List.map_append, -List.map_drop, -List.map_take, meetS, mkM]
            unfold nums wts
            exact ⟨rfl, rfl, (flt_neg (fun (a : Fin Q.length) _ => Rx.D.int (a.val : Int))).symm, (flt_neg (fun (_ : Fin Q.length) b => Rx.D.int b.v)).symm⟩
      · simp only [if_neg hs]
        simp [-getElem?_pos, -getElem?_neg, -R.ok_bind, -R.exc_bind, -R.stuck_bind, -List.map_append, -List.map_drop, -List.map_take, hz]
        by_cases h1 : (∃ x, x ∈ l.take N.length ∧ 0 < x.v) ∨ ∃ x, x ∈ l.drop N.length ∧ x.v < 0
        · simp only [if_pos h1]
          simp [-getElem?_pos, -getElem?_neg, -R.ok_bind, -R.exc_bind, -R.stuck_bind, -List.map_append, -List.map_drop, -List.map_take, h1, meetS]
        · simp only [if_neg h1]
          simp [-getElem?_pos, -getElem?_neg, -R.ok_bind, -R.exc_bind, -R.stuck_bind, -List.map_append, -List.map_drop, -List.map_take, h1]
          by_cases h2 : ∀ x, x ∈ l.take N.length → x.v = 0
          · simp only [if_pos h2]
            simp [-getElem?_pos, -getElem?_neg, -R.ok_bind, -R.exc_bind, -R.stuck_bind, -List.map_append, -List.map_drop, -List.map_take, h2, meetS]
          · simp only [if_neg h2]
            simp [-getElem?_pos, -getElem?_neg, -R.ok_bind, -R.exc_bind, -R.stuck_bind, -List.map_append, -List.map_drop, -List.map_take, meetS, mkM]
            unfold nums wts
            exact ⟨(flt_neg (fun (a : Fin P.length) _ => Rx.D.int (a.val : Int))).symm, (flt_neg (fun (_ : Fin P.length) b => Rx.D.int b.v)).symm, rfl, rfl⟩
end
end K56

set_option Elab.async false
set_option linter.all false
set_option maxRecDepth 100000
namespace K56
open PySem Rx Rx.S
def more {m : Nat} (L : List (List (Fin m))) : List (List (Fin m)) := L.flatMap fun l => (List.finRange m).filterMap fun j => match l.getLast? with
  | some i => if i < j then some (l ++ [j]) else none
  | none => some (l ++ [j])
def lots (m : Nat) : Nat → List (List (Fin m))
  | 0 => [[]]
  | k + 1 => more (lots m k)
theorem lots_len {m : Nat} : ∀ {k : Nat} {l : List (Fin m)}, l ∈ lots m k → l.length = k
  | 0, l, h => by
    have := List.mem_singleton.mp h
    rw [this]
    rfl
  | k + 1, l, h => by
    obtain ⟨l0, h0, h1⟩ := List.mem_flatMap.mp h
    obtain ⟨j, _, h2⟩ := List.mem_filterMap.mp h1
    have e := lots_len h0
    split at h2
    · split at h2
      · cases h2
        simp [e]
      · cases h2
    · cases h2
      simp [e]
theorem more_mem {m : Nat} {L : List (List (Fin m))} {l : List (Fin m)} {i j : Fin m} (h : l ∈ L) (hl : l.getLast? = some i) (hij : i < j) : l ++ [j] ∈ more L :=
  List.mem_flatMap.mpr ⟨l, h, List.mem_filterMap.mpr ⟨j, List.mem_finRange j, by rw [hl]; simp [hij]⟩⟩
theorem lots1 {m : Nat} (i : Fin m) : [i] ∈ lots m 1 := List.mem_flatMap.mpr ⟨[], List.mem_singleton.mpr rfl, List.mem_filterMap.mpr ⟨i, List.mem_finRange i, rfl⟩⟩
theorem lots2 {m : Nat} {i j : Fin m} (h : i < j) : [i, j] ∈ lots m 2 := more_mem (lots1 i) rfl h
theorem lots3 {m : Nat} {i j k : Fin m} (h : i < j) (h' : j < k) : [i, j, k] ∈ lots m 3 := more_mem (lots2 h) rfl h'
theorem lots_eq {n m k : Nat} (hm : 1 ≤ m ∧ m ≤ 12) (hk : 1 ≤ k ∧ k ≤ 3) : prog.call (n + 1) 7 [.frz (.int (m : Int)), .frz (.int (k : Int))] = .ok (.own (.lst ((lots m k).map toD)), [none, none]) := by
  rw [c7]
  have h1 : m = 1 ∨ m = 2 ∨ m = 3 ∨ m = 4 ∨ m = 5 ∨ m = 6 ∨ m = 7 ∨ m = 8 ∨ m = 9 ∨ m = 10 ∨ m = 11 ∨ m = 12 := by omega
  have h2 : k = 1 ∨ k = 2 ∨ k = 3 := by omega
  rcases h2 with rfl | rfl | rfl <;> rcases h1 with rfl | rfl | rfl | rfl | rfl | rfl | rfl | rfl | rfl | rfl | rfl | rfl <;> kernel_rfl
end K56

set_option Elab.async false
set_option linter.all false
set_option maxRecDepth 100000
namespace K56
open PySem Rx Rx.S
section
variable {n : Nat} {P Q : List P2}
noncomputable def foundS (N : List (Fin P.length)) (M : List (Fin Q.length)) : Option Sl := (meet N M).map fun p => .own (mkM p.1 p.2)
theorem found_turn [Few P] [Few Q] {lk : Nat → Bool} (h6 : lk 6 = false) (h7 : lk 7 = false) {N : List (Fin P.length)} {M : List (Fin Q.length)} (hN : 1 ≤ N.length) (hM : 1 ≤ M.length) (hl : N.length + M.length ≤ 4) {o2 o3 o4 : Option Sl} :
    Finds (forT (prog.g (prog.call (n + 3))) lk (.var 6) f8_L0 (toD M) [some (.frz (PD P)), some (.frz (PD Q)), o2, o3, o4, some (.frz (toD N)), none, none]) [some (.frz (PD P)), some (.frz (PD Q)), o2, o3, o4, some (.frz (toD N)), none, none] (foundS N M) := by
  haveI : Sz N := ⟨by omega⟩
  haveI : Sz M := ⟨by omega⟩
  have hm := @meet_eq n P Q _ _ N M hN hM hl _ _
  simp [-getElem?_pos, -getElem?_neg, -R.ok_bind, -R.exc_bind, -R.stuck_bind, -List.map_append, -List.map_drop, -List.map_take, f8_L0, h6, h7, hm]
  unfold foundS
  cases q : meet N M with
  | none => simp [-getElem?_pos, -getElem?_neg, -R.ok_bind, -R.exc_bind, -R.stuck_bind, -List.map_append, -List.map_drop, -List.map_take, meetS, Finds]
  | some p =>
    simp [-getElem?_pos, -getElem?_neg, -R.ok_bind, -R.exc_bind, -R.stuck_bind, -List.map_append, -List.map_drop, -List.map_take, meetS, mkM, h7]
    exact ⟨_, .here⟩
noncomputable def foundL (k : Nat) (N : List (Fin P.length)) : Option Sl := (lots Q.length k).findSome? (foundS N)
theorem found_row [hp : Few P] [hq : Few Q] {lk : Nat → Bool} (h5 : lk 5 = false) (h6 : lk 6 = false) (h7 : lk 7 = false) {k : Nat} {N : List (Fin P.length)} (hN : 1 ≤ N.length) (hk : 1 ≤ k ∧ k ≤ 3) (hl : N.length + k ≤ 4) {o2 o3 : Option Sl} :
    Finds (forT (prog.g (prog.call (n + 3))) lk (.var 5) f8_L1 (toD N) [some (.frz (PD P)), some (.frz (PD Q)), o2, o3, some (.frz (.int (k : Int))), none, none, none]) [some (.frz (PD P)), some (.frz (PD Q)), o2, o3, some (.frz (.int (k : Int))), none, none, none] (foundL (Q := Q) k N) := by
  have hq1 : 1 ≤ Q.length ∧ Q.length ≤ 12 := ⟨List.length_pos_iff.mpr hq.ne, hq.le⟩
  have ht := @lots_eq (n + 2) Q.length k hq1 hk
  simp [-getElem?_pos, -getElem?_neg, -R.ok_bind, -R.exc_bind, -R.stuck_bind, -List.map_append, -List.map_drop, -List.map_take, f8_L1, h5, ht]
  refine Finds.last (for_find (i := toD) (L := lots Q.length k) (foundS N) (fun M hM => found_turn h6 h7 hN (by rw [lots_len hM]; exact hk.1) (by rw [lots_len hM]; exact hl)) .refl) (fun s ρ => rfl) ?_
  simp [-getElem?_pos, -getElem?_neg, -R.ok_bind, -R.exc_bind, -R.stuck_bind, -List.map_append, -List.map_drop, -List.map_take, ]
noncomputable def foundP (P Q : List P2) (p : Nat × Nat) : Option Sl := (lots P.length p.1).findSome? (foundL (Q := Q) p.2)
theorem found_pair [hp : Few P] [hq : Few Q] {lk : Nat → Bool} (h3 : lk 3 = false) (h4 : lk 4 = false) (h5 : lk 5 = false) (h6 : lk 6 = false) (h7 : lk 7 = false) {p : Nat × Nat} (h1 : 1 ≤ p.1 ∧ p.1 ≤ 3) (h2 : 1 ≤ p.2 ∧ p.2 ≤ 3) (hl : p.1 + p.2 ≤ 4) {o2 : Option Sl} :
    Finds (forT (prog.g (prog.call (n + 3))) lk (.tup (.cons (.var 3) (.cons (.var 4) .nil))) f8_L2 (.tup [.int (p.1 : Int), .int (p.2 : Int)]) [some (.frz (PD P)), some (.frz (PD Q)), o2, none, none, none, none, none]) [some (.frz (PD P)), some (.frz (PD Q)), o2, none, none, none, none, none] (foundP P Q p) := by
  have hp1 : 1 ≤ P.length ∧ P.length ≤ 12 := ⟨List.length_pos_iff.mpr hp.ne, hp.le⟩
  have ht := @lots_eq (n + 2) P.length p.1 hp1 h1
  simp [-getElem?_pos, -getElem?_neg, -R.ok_bind, -R.exc_bind, -R.stuck_bind, -List.map_append, -List.map_drop, -List.map_take, f8_L2, h3, h4, ht]
  refine Finds.last (for_find (i := toD) (L := lots P.length p.1) (foundL (Q := Q) p.2) (fun N hN => found_row h5 h6 h7 (by rw [lots_len hN]; exact h1.1) h2 (by rw [lots_len hN]; exact hl)) .refl) (fun s ρ => rfl) ?_
  simp [-getElem?_pos, -getElem?_neg, -R.ok_bind, -R.exc_bind, -R.stuck_bind, -List.map_append, -List.map_drop, -List.map_take, ]
def six : List (Nat × Nat) := [(1, 1), (1, 2), (2, 1), (2, 2), (1, 3), (3, 1)]
noncomputable def partS (P Q : List P2) : Sl := match pairs4 P Q with
  | some s => .own (.ins 0 [(6, s.d)])
  | none => (six.findSome? (foundP P Q)).getD (.frz .non)
@[simp] theorem ini0 {d : Rx.D} : prog.call (n + 1) 16 [.own (.ins 0 []), .frz d] = .ok (.frz .non, [some (.own (.ins 0 [(6, d)])), none]) := by
  rw [c16, run_eq rfl]
  simp [-getElem?_pos, -getElem?_neg, -R.ok_bind, -R.exc_bind, -R.stuck_bind, -List.map_append, -List.map_drop, -List.map_take, f16]
theorem part_eq [hp : Few P] [hq : Few Q] : prog.call (n + 4) 8 [.frz (PD P), .frz (PD Q)] = .ok (partS P Q, [none, none]) := by
  have hp1 : 1 ≤ P.length ∧ P.length ≤ 12 := ⟨List.length_pos_iff.mpr hp.ne, hp.le⟩
  have hq1 : 1 ≤ Q.length ∧ Q.length ≤ 12 := ⟨List.length_pos_iff.mpr hq.ne, hq.le⟩
  have hr := @row_eq (n + 2) P Q _ _
  have hc := @check_ok (n + 1) P Q hp1 hq1
  rw [c8]
  have key : Finds (f8.body.ev (prog.g (prog.call (n + 3))) (lkOf [.frz (PD P), .frz (PD Q)]) [some (.frz (PD P)), some (.frz (PD Q)), none, none, none, none, none, none]) [some (.frz (PD P)), some (.frz (PD Q)), none, none, none, none, none, none] (some (partS P Q)) := by
    simp [-getElem?_pos, -getElem?_neg, -R.ok_bind, -R.exc_bind, -R.stuck_bind, -List.map_append, -List.map_drop, -List.map_take, f8, hc, hr, -loopL_cons]
    unfold partS
    cases q : pairs4 P Q with
    | some s =>
      obtain ⟨w, hw⟩ := pairs_some q
      obtain ⟨c, rfl, _⟩ := cand_some hw
      simp [-getElem?_pos, -getElem?_neg, -R.ok_bind, -R.exc_bind, -R.stuck_bind, -List.map_append, -List.map_drop, -List.map_take, -loopL_cons]
      exact ⟨_, .here⟩
    | none =>
      simp [-getElem?_pos, -getElem?_neg, -R.ok_bind, -R.exc_bind, -R.stuck_bind, -List.map_append, -List.map_drop, -List.map_take, -loopL_cons]
      have h := for_find (g := prog.g (prog.call (n + 3))) (lk := lkOf [.frz (PD P), .frz (PD Q)]) (t := .tup (.cons (.var 3) (.cons (.var 4) .nil))) (b := f8_L2) (i := fun p : Nat × Nat => .tup [.int (p.1 : Int), .int (p.2 : Int)]) (E := [some (.frz (PD P)), some (.frz (PD Q)), some (.frz .non), none, none, none, none, none]) (L := six) (foundP P Q) (fun p hp => found_pair rfl rfl rfl rfl rfl (by
        revert p; decide) (by revert p; decide) (by revert p; decide)) .refl
      rw [show some ((six.findSome? (foundP P Q)).getD (.frz .non)) = (six.findSome? (foundP P Q) <|> some (.frz .non)) by cases six.findSome? (foundP P Q) <;> rfl]
      refine (Finds.bnd (d := some (.frz .non)) h (fun s ρ => rfl) ⟨[none, none, none, none, none, none, none, none], ?_⟩)
      simp [-getElem?_pos, -getElem?_neg, -R.ok_bind, -R.exc_bind, -R.stuck_bind, -List.map_append, -List.map_drop, -List.map_take, ]
  obtain ⟨w, h⟩ := key
  exact run_ends rfl h (by simp)
end
end K56

/-! K56m: two finite sets of whole points: a direction of their own that parts them, or few of them meet. Plain mathematics. -/
namespace Part
abbrev V2 := Int × Int
def cr (u v : V2) : Int := u.1 * v.2 - u.2 * v.1
def dt (u v : V2) : Int := u.1 * v.1 + u.2 * v.2
def Ahead (u v : V2) : Prop := 0 < cr u v ∨ (cr u v = 0 ∧ 0 < dt u v)
/-- nothing positive of at most three of them comes to nought -/
structure Free (S : List V2) : Prop where
  nz : ∀ s ∈ S, s ≠ (0, 0)
  two : ∀ s ∈ S, ∀ t ∈ S, cr s t = 0 → 0 ≤ dt s t
  three : ∀ r ∈ S, ∀ s ∈ S, ∀ t ∈ S, 0 < cr r s → 0 < cr s t → 0 < cr t r → False
theorem Free.tail {s : V2} {S : List V2} (h : Free (s :: S)) : Free S :=
  ⟨fun x hx => h.nz x (List.mem_cons_of_mem _ hx), fun x hx y hy => h.two x (List.mem_cons_of_mem _ hx) y (List.mem_cons_of_mem _ hy), fun x hx y hy z hz => h.three x (List.mem_cons_of_mem _ hx) y (List.mem_cons_of_mem _ hy) z (List.mem_cons_of_mem _ hz)⟩
theorem sq_pos {u : V2} (h : u ≠ (0, 0)) : 0 < dt u u := by
  obtain ⟨a, b⟩ := u
  show 0 < a * a + b * b
  have ha : 0 ≤ a * a := by
    rcases Int.le_total 0 a with h | h
    · exact Int.mul_nonneg h h
    · exact Int.mul_nonneg_of_nonpos_of_nonpos h h
  have hb : 0 ≤ b * b := by
    rcases Int.le_total 0 b with h | h
    · exact Int.mul_nonneg h h
    · exact Int.mul_nonneg_of_nonpos_of_nonpos h h
  by_cases e : a = 0
  · by_cases e2 : b = 0
    · exact absurd (by rw [e, e2]) h
    · have : 0 < b * b := by
        rcases Int.lt_or_gt_of_ne e2 with z | z
        · exact Int.mul_pos_of_neg_of_neg z z
        · exact Int.mul_pos z z
      omega
  · have : 0 < a * a := by
      rcases Int.lt_or_gt_of_ne e with z | z
      · exact Int.mul_pos_of_neg_of_neg z z
      · exact Int.mul_pos z z
    omega
theorem cr_anti (u v : V2) : cr v u = - cr u v := by unfold cr; grind
theorem dt_comm (u v : V2) : dt v u = dt u v := by unfold dt; grind
theorem id1 (t u v : V2) : cr t v * dt u u = cr t u * dt u v + dt t u * cr u v := by unfold cr dt; grind
theorem id2 (t u v : V2) : dt t v * dt u u = dt t u * dt u v - cr t u * cr u v := by unfold cr dt; grind
theorem pos_of_mul {a b : Int} (h : 0 < a * b) (hb : 0 < b) : 0 < a := by
  rcases Int.lt_or_le 0 a with z | z
  · exact z
  · have := Int.mul_nonpos_of_nonpos_of_nonneg z (Int.le_of_lt hb)
    omega
/-- one of them is ahead of none: all others lie to its left, or on its ray -/
theorem right_most : ∀ (S : List V2), S ≠ [] → Free S → ∃ s ∈ S, ∀ t ∈ S, Ahead s t
  | [], h, _ => (h rfl).elim
  | [s], _, f => ⟨s, List.mem_cons_self, fun t ht => by
    rw [List.mem_singleton.mp ht]
    exact .inr ⟨by unfold cr; grind, sq_pos (f.nz s List.mem_cons_self)⟩⟩
  | t :: s0 :: S, _, f => by
    obtain ⟨s, hs, hall⟩ := right_most (s0 :: S) (by simp) f.tail
    have hs' := List.mem_cons_of_mem t hs
    have ht' : t ∈ t :: s0 :: S := List.mem_cons_self
    have tt := sq_pos (f.nz t ht')
    have ss := sq_pos (f.nz s hs')
    by_cases h : Ahead s t
    · exact ⟨s, hs', fun u hu => by
        rcases List.mem_cons.mp hu with e | e
        · rw [e]; exact h
        · exact hall u e⟩
    · -- t is to the right of s
      have hc : cr s t < 0 := by
        rcases Int.lt_trichotomy (cr s t) 0 with z | z | z
        · exact z
        · have h2 := f.two s hs' t ht' z
          rcases Int.lt_or_eq_of_le h2 with q | q
          · exact (h (.inr ⟨z, q⟩)).elim
          · -- both nought: impossible
            have e := id1 t s t
            have e2 := id2 t s t
            rw [z] at e e2
            have e3 : cr t s = 0 := by rw [cr_anti]; omega
            rw [e3, ← q] at e2
            have : dt t t * dt s s = 0 := by rw [e2]; simp
            have := Int.mul_pos tt ss
            omega
        · exact (h (.inl z)).elim
      have hts : 0 < cr t s := by rw [cr_anti]; omega
      refine ⟨t, ht', fun u hu => ?_⟩
      rcases List.mem_cons.mp hu with e | e
      · rw [e]
        exact .inr ⟨by unfold cr; grind, tt⟩
      · have hu' := List.mem_cons_of_mem t e
        rcases hall u e with a | ⟨a, b⟩
        · -- u to the left of s
          rcases Int.lt_trichotomy (cr t u) 0 with z | z | z
          · exact (f.three t ht' s hs' u hu' hts a (by rw [cr_anti]; omega)).elim
          · have h2 := f.two t ht' u hu' z
            rcases Int.lt_or_eq_of_le h2 with q | q
            · exact .inr ⟨z, q⟩
            · have uu := sq_pos (f.nz u hu')
              have e2 := id2 u t u
              have e3 : cr u t = 0 := by rw [cr_anti]; omega
              rw [e3, dt_comm, ← q] at e2
              have : dt u u * dt t t = 0 := by rw [e2]; simp
              have := Int.mul_pos uu tt
              omega
          · exact .inl z
        · -- u on the ray of s
          have e := id1 t s u
          rw [a] at e
          have : 0 < cr t u * dt s s := by
            rw [e]
            have := Int.mul_pos hts b
            omega
          exact .inl (pos_of_mul this ss)
/-- the least by a number -/
theorem least_of {α : Type} (f : α → Int) : ∀ (L : List α), L ≠ [] → ∃ v ∈ L, ∀ u ∈ L, f v ≤ f u
  | [], h => (h rfl).elim
  | [v], _ => ⟨v, List.mem_cons_self, fun u hu => by rw [List.mem_singleton.mp hu]; exact Int.le_refl _⟩
  | w :: v0 :: L, _ => by
    obtain ⟨v, hv, h⟩ := least_of f (v0 :: L) (by simp)
    by_cases q : f v ≤ f w
    · exact ⟨v, List.mem_cons_of_mem _ hv, fun u hu => by
        rcases List.mem_cons.mp hu with e | e
        · rw [e]; exact q
        · exact h u e⟩
    · exact ⟨w, List.mem_cons_self, fun u hu => by
        rcases List.mem_cons.mp hu with e | e
        · rw [e]; exact Int.le_refl _
        · have := h u e; omega⟩
/-- of vectors to the left of a line, the one turned most to the left -/
theorem left_most (b : V2) : ∀ (L : List V2), L ≠ [] → (∀ v ∈ L, 0 < cr b v) → ∃ v ∈ L, ∀ u ∈ L, cr v u ≤ 0
  | [], h, _ => (h rfl).elim
  | [v], _, _ => ⟨v, List.mem_cons_self, fun u hu => by rw [List.mem_singleton.mp hu]; unfold cr; grind⟩
  | w :: v0 :: L, _, hp => by
    obtain ⟨v, hv, h⟩ := left_most b (v0 :: L) (by simp) fun v hv => hp v (List.mem_cons_of_mem _ hv)
    by_cases q : cr v w ≤ 0
    · exact ⟨v, List.mem_cons_of_mem _ hv, fun u hu => by
        rcases List.mem_cons.mp hu with e | e
        · rw [e]; exact q
        · exact h u e⟩
    · refine ⟨w, List.mem_cons_self, fun u hu => ?_⟩
      rcases List.mem_cons.mp hu with e | e
      · rw [e]; unfold cr; grind
      · have hu' := h u e
        have pb := hp w List.mem_cons_self
        have pv := hp v (List.mem_cons_of_mem _ hv)
        have pu := hp u (List.mem_cons_of_mem _ e)
        -- cr w u * cr b v = cr v u * cr b w + cr w v * cr b u
        have id : cr w u * cr b v = cr v u * cr b w + cr w v * cr b u := by unfold cr; grind
        have hwv : cr w v < 0 := by rw [cr_anti]; omega
        have a1 := Int.mul_nonpos_of_nonpos_of_nonneg hu' (Int.le_of_lt pb)
        have a2 := Int.mul_neg_of_neg_of_pos hwv pu
        rcases Int.lt_or_le 0 (cr w u) with z | z
        · have := Int.mul_pos z pv
          omega
        · exact z
/-- (B) a direction in which all are ahead, with two of them least, or along one of them -/
theorem direction {S : List V2} (hne : S ≠ []) (f : Free S) : (∃ s ∈ S, ∀ t ∈ S, 0 < dt s t) ∨ ∃ v0 ∈ S, ∃ v1 ∈ S, v0 ≠ v1 ∧ 0 < cr v0 v1 ∧ ∀ t ∈ S, cr v0 v1 ≤ (v1.2 - v0.2) * t.1 - (v1.1 - v0.1) * t.2 := by
  obtain ⟨s1, h1, hall⟩ := right_most S hne f
  have ss := sq_pos (f.nz s1 h1)
  let L := S.filter fun s => decide (0 < cr s1 s)
  by_cases hL : L = []
  · refine .inl ⟨s1, h1, fun t ht => ?_⟩
    rcases hall t ht with a | ⟨_, b⟩
    · have : t ∈ L := List.mem_filter.mpr ⟨ht, decide_eq_true a⟩
      rw [hL] at this
      cases this
    · exact b
  · -- the nearest on the ray
    let Ry := S.filter fun s => decide (cr s1 s = 0)
    have hR : Ry ≠ [] := fun e => by
      have : s1 ∈ Ry := List.mem_filter.mpr ⟨h1, decide_eq_true (by unfold cr; grind)⟩
      rw [e] at this
      cases this
    obtain ⟨v0, hv0, hnear⟩ := least_of (fun v => dt s1 v) Ry hR
    obtain ⟨m0, c0⟩ := List.mem_filter.mp hv0
    have c0 := of_decide_eq_true c0
    have d0 : 0 < dt s1 v0 := by
      rcases hall v0 m0 with a | ⟨_, b⟩
      · omega
      · exact b
    obtain ⟨v1', hv1', hleft⟩ := left_most s1 (L.map fun v => ((v.1 - v0.1, v.2 - v0.2) : V2)) (by simpa using hL) (fun v hv => by
      obtain ⟨w, hw, rfl⟩ := List.mem_map.mp hv
      have := of_decide_eq_true (List.mem_filter.mp hw).2
      have e : cr s1 (w.1 - v0.1, w.2 - v0.2) = cr s1 w - cr s1 v0 := by unfold cr; grind
      rw [e]
      omega)
    obtain ⟨v1, hv1, rfl⟩ := List.mem_map.mp hv1'
    obtain ⟨m1, c1⟩ := List.mem_filter.mp hv1
    have c1 := of_decide_eq_true c1
    have hpos : 0 < cr v0 v1 := by
      have e := id1 v1 s1 v0
      -- cr v1 v0 * |s1|^2 = cr v1 s1 * dt s1 v0
      rw [c0] at e
      have c1' : cr v1 s1 = - cr s1 v1 := cr_anti s1 v1
      have e2 : cr v0 v1 * dt s1 s1 = cr s1 v1 * dt s1 v0 := by
        rw [cr_anti v1 v0]
        have : cr v1 v0 * dt s1 s1 = - (cr s1 v1 * dt s1 v0) := by rw [e, c1']; grind
        grind
      have := Int.mul_pos c1 d0
      exact pos_of_mul (by omega) ss
    refine .inr ⟨v0, m0, v1, m1, fun e => by rw [e] at c0; omega, hpos, fun t ht => ?_⟩
    have key : (v1.2 - v0.2) * t.1 - (v1.1 - v0.1) * t.2 - cr v0 v1 = - cr (v1.1 - v0.1, v1.2 - v0.2) (t.1 - v0.1, t.2 - v0.2) := by unfold cr; grind
    have : cr (v1.1 - v0.1, v1.2 - v0.2) (t.1 - v0.1, t.2 - v0.2) ≤ 0 := by
      rcases hall t ht with a | ⟨a, b⟩
      · exact hleft _ (List.mem_map.mpr ⟨t, List.mem_filter.mpr ⟨ht, decide_eq_true a⟩, rfl⟩)
      · -- t on the ray, not nearer than v0
        have n := hnear t (List.mem_filter.mpr ⟨ht, decide_eq_true a⟩)
        -- t - v0 = c s1, c >= 0
        have e := id1 ((v1.1 - v0.1, v1.2 - v0.2) : V2) s1 (t.1 - v0.1, t.2 - v0.2)
        have z : cr s1 (t.1 - v0.1, t.2 - v0.2) = 0 := by
          have : cr s1 (t.1 - v0.1, t.2 - v0.2) = cr s1 t - cr s1 v0 := by unfold cr; grind
          omega
        have z2 : 0 ≤ dt s1 (t.1 - v0.1, t.2 - v0.2) := by
          have : dt s1 (t.1 - v0.1, t.2 - v0.2) = dt s1 t - dt s1 v0 := by unfold dt; grind
          omega
        have z3 : cr ((v1.1 - v0.1, v1.2 - v0.2) : V2) s1 ≤ 0 := by
          have : cr ((v1.1 - v0.1, v1.2 - v0.2) : V2) s1 = cr s1 v0 - cr s1 v1 := by unfold cr; grind
          omega
        rw [z] at e
        have z4 := Int.mul_nonpos_of_nonpos_of_nonneg z3 z2
        rcases Int.lt_or_le 0 (cr ((v1.1 - v0.1, v1.2 - v0.2) : V2) (t.1 - v0.1, t.2 - v0.2)) with q | q
        · have := Int.mul_pos q ss
          omega
        · exact q
    omega
end Part

namespace Part
def sm (n : Int) (v : V2) : V2 := (n * v.1, n * v.2)
def ad (u v : V2) : V2 := (u.1 + v.1, u.2 + v.2)
def df (u v : V2) : V2 := (u.1 - v.1, u.2 - v.2)
def area (a b c : V2) : Int := (b.1 - a.1) * (c.2 - a.2) - (b.2 - a.2) * (c.1 - a.1)
/-- the point X / n lies between -/
def In2 (p q : V2) (n : Int) (X : V2) : Prop := ∃ a b : Int, 0 ≤ a ∧ 0 ≤ b ∧ a + b = n ∧ X.1 = a * p.1 + b * q.1 ∧ X.2 = a * p.2 + b * q.2
def In3 (p q r : V2) (n : Int) (X : V2) : Prop := ∃ a b c : Int, 0 ≤ a ∧ 0 ≤ b ∧ 0 ≤ c ∧ a + b + c = n ∧ X.1 = a * p.1 + b * q.1 + c * r.1 ∧ X.2 = a * p.2 + b * q.2 + c * r.2
theorem In3.rot {p q r : V2} {n : Int} {X : V2} (h : In3 p q r n X) : In3 q r p n X := by
  obtain ⟨a, b, c, ha, hb, hc, e, e1, e2⟩ := h
  exact ⟨b, c, a, hb, hc, ha, by omega, by omega, by omega⟩
theorem In3.swap {p q r : V2} {n : Int} {X : V2} (h : In3 p q r n X) : In3 q p r n X := by
  obtain ⟨a, b, c, ha, hb, hc, e, e1, e2⟩ := h
  exact ⟨b, a, c, hb, ha, hc, by omega, by omega, by omega⟩
theorem In2.swap {p q : V2} {n : Int} {X : V2} (h : In2 p q n X) : In2 q p n X := by
  obtain ⟨a, b, ha, hb, e, e1, e2⟩ := h
  exact ⟨b, a, hb, ha, by omega, by omega, by omega⟩
/-- on a line: by a number along it -/
theorem on_line {p q : V2} {n f0 f1 F : Int} {X : V2} {u : V2} (h0 : f0 = dt u p) (h1 : f1 = dt u q) (hF : F = dt u X) (hl : f0 < f1) (ha : n * f0 ≤ F) (hb : F ≤ n * f1) (hc : cr u q = cr u p) (hx : cr u X = n * cr u p) (hu : 0 < dt u u) : In2 p q ((f1 - f0) * n) (sm (f1 - f0) X) := by
  refine ⟨n * f1 - F, F - n * f0, by omega, by omega, by grind, ?_, ?_⟩
  · -- both coordinates: what is asked has the same products with u, along and across
    have key : dt u u * ((sm (f1 - f0) X).1 - ((n * f1 - F) * p.1 + (F - n * f0) * q.1)) = 0 := by
      unfold sm; subst h0 h1 hF; unfold cr at hc hx; unfold dt; grind
    rcases Int.mul_eq_zero.mp key with z | z <;> omega
  · have key : dt u u * ((sm (f1 - f0) X).2 - ((n * f1 - F) * p.2 + (F - n * f0) * q.2)) = 0 := by
      unfold sm; subst h0 h1 hF; unfold cr at hc hx; unfold dt; grind
    rcases Int.mul_eq_zero.mp key with z | z <;> omega
theorem area_rot (a b c : V2) : area b c a = area a b c := by unfold area; grind
theorem area_swap (a b c : V2) : area b a c = - area a b c := by unfold area; grind
theorem area_sum (z a b c : V2) : area z b c + area z c a + area z a b = area a b c := by unfold area; grind
theorem cancel {A x y : Int} (hA : A ≠ 0) (h : A * x = A * y) : x = y := by
  have : A * (x - y) = 0 := by grind
  rcases Int.mul_eq_zero.mp this with z | z
  · exact (hA z).elim
  · omega
/-- on the way from X to p1 the first side is met -/
theorem step1 {p1 p2 p3 q1 q2 q3 : V2} {n : Int} {X : V2} {b1 b2 b3 : Int} (hn : 0 < n) (hp : In3 p1 p2 p3 n X) (h1 : 0 ≤ b1) (hs : b1 + b2 + b3 = n) (e1 : X.1 = b1 * q1.1 + b2 * q2.1 + b3 * q3.1) (e2 : X.2 = b1 * q1.2 + b2 * q2.2 + b3 * q3.2)
    (hA : 0 < area q1 q2 q3) (hl : area p1 q2 q3 < 0) (w2 : 0 ≤ b1 * area p1 q3 q1 - area p1 q2 q3 * b2) (w3 : 0 ≤ b1 * area p1 q1 q2 - area p1 q2 q3 * b3) :
    ∃ c X', 0 < c ∧ In3 p1 p2 p3 c X' ∧ In2 q2 q3 c X' := by
  have sum := area_sum p1 q1 q2 q3
  obtain ⟨a, b, c, ha, hb, hc, e, f1, f2⟩ := hp
  refine ⟨- area p1 q2 q3 * n + b1 * area q1 q2 q3, (- area p1 q2 q3 * X.1 + b1 * area q1 q2 q3 * p1.1, - area p1 q2 q3 * X.2 + b1 * area q1 q2 q3 * p1.2), ?_, ⟨- area p1 q2 q3 * a + b1 * area q1 q2 q3, - area p1 q2 q3 * b, - area p1 q2 q3 * c, ?_, ?_, ?_, ?_, ?_, ?_⟩, ⟨_, _, w2, w3, ?_, ?_, ?_⟩⟩
  · have := Int.mul_pos (show 0 < - area p1 q2 q3 by omega) hn
    have := Int.mul_nonneg h1 (Int.le_of_lt hA)
    omega
  · have := Int.mul_nonneg (show 0 ≤ - area p1 q2 q3 by omega) ha
    have := Int.mul_nonneg h1 (Int.le_of_lt hA)
    omega
  · exact Int.mul_nonneg (by omega) hb
  · exact Int.mul_nonneg (by omega) hc
  · subst e; grind
  · simp only; rw [f1]; grind
  · simp only; rw [f2]; grind
  · subst hs; rw [← sum]; grind
  · simp only; rw [e1]; unfold area; grind
  · simp only; rw [e2]; unfold area; grind
theorem r_nn {bi bj li lj : Int} (h1 : 0 ≤ bi) (h2 : 0 ≤ bj) (h3 : li < 0) (h4 : 0 ≤ lj) : 0 ≤ bi * lj - li * bj := by
  have := Int.mul_nonneg h1 h4
  have := Int.mul_nonneg (show 0 ≤ - li by omega) h2
  grind
def Out (p1 p2 p3 q1 q2 q3 : V2) : Prop := (∃ c, 0 < c ∧ In3 q1 q2 q3 c (sm c p1)) ∨ ∃ c X, 0 < c ∧ In3 p1 p2 p3 c X ∧ (In2 q1 q2 c X ∨ In2 q2 q3 c X ∨ In2 q3 q1 c X)
theorem exit_pos {p1 p2 p3 q1 q2 q3 : V2} {n : Int} {X : V2} (hn : 0 < n) (hp : In3 p1 p2 p3 n X) (hq : In3 q1 q2 q3 n X) (hA : 0 < area q1 q2 q3) : Out p1 p2 p3 q1 q2 q3 := by
  have sum := area_sum p1 q1 q2 q3
  obtain ⟨b1, b2, b3, h1, h2, h3, hs, e1, e2⟩ := hq
  have go1 : area p1 q2 q3 < 0 → 0 ≤ b1 * area p1 q3 q1 - area p1 q2 q3 * b2 → 0 ≤ b1 * area p1 q1 q2 - area p1 q2 q3 * b3 → Out p1 p2 p3 q1 q2 q3 := fun a b c => by
    obtain ⟨m, Y, m0, z1, z2⟩ := step1 hn hp h1 hs e1 e2 hA a b c
    exact .inr ⟨m, Y, m0, z1, .inr (.inl z2)⟩
  have go2 : area p1 q3 q1 < 0 → 0 ≤ b2 * area p1 q1 q2 - area p1 q3 q1 * b3 → 0 ≤ b2 * area p1 q2 q3 - area p1 q3 q1 * b1 → Out p1 p2 p3 q1 q2 q3 := fun a b c => by
    obtain ⟨m, Y, m0, z1, z2⟩ := step1 (q1 := q2) (q2 := q3) (q3 := q1) (b1 := b2) (b2 := b3) (b3 := b1) hn hp h2 (by omega) (by omega) (by omega) (by rw [area_rot]; exact hA) a b c
    exact .inr ⟨m, Y, m0, z1, .inr (.inr z2)⟩
  have go3 : area p1 q1 q2 < 0 → 0 ≤ b3 * area p1 q2 q3 - area p1 q1 q2 * b1 → 0 ≤ b3 * area p1 q3 q1 - area p1 q1 q2 * b2 → Out p1 p2 p3 q1 q2 q3 := fun a b c => by
    obtain ⟨m, Y, m0, z1, z2⟩ := step1 (q1 := q3) (q2 := q1) (q3 := q2) (b1 := b3) (b2 := b1) (b3 := b2) hn hp h3 (by omega) (by omega) (by omega) (by rw [area_rot, area_rot]; exact hA) a b c
    exact .inr ⟨m, Y, m0, z1, .inl z2⟩
  by_cases l1 : area p1 q2 q3 < 0
  · by_cases l2 : area p1 q3 q1 < 0
    · have l3 : 0 ≤ area p1 q1 q2 := by omega
      by_cases r : 0 ≤ b1 * area p1 q3 q1 - area p1 q2 q3 * b2
      · exact go1 l1 r (r_nn h1 h3 l1 l3)
      · exact go2 l2 (r_nn h2 h3 l2 l3) (by grind)
    · by_cases l3 : area p1 q1 q2 < 0
      · by_cases r : 0 ≤ b1 * area p1 q1 q2 - area p1 q2 q3 * b3
        · exact go1 l1 (r_nn h1 h2 l1 (by omega)) r
        · exact go3 l3 (by grind) (r_nn h3 h2 l3 (by omega))
      · exact go1 l1 (r_nn h1 h2 l1 (by omega)) (r_nn h1 h3 l1 (by omega))
  · by_cases l2 : area p1 q3 q1 < 0
    · by_cases l3 : area p1 q1 q2 < 0
      · by_cases r : 0 ≤ b2 * area p1 q1 q2 - area p1 q3 q1 * b3
        · exact go2 l2 r (r_nn h2 h1 l2 (by omega))
        · exact go3 l3 (r_nn h3 h1 l3 (by omega)) (by grind)
      · exact go2 l2 (r_nn h2 h3 l2 (by omega)) (r_nn h2 h1 l2 (by omega))
    · by_cases l3 : area p1 q1 q2 < 0
      · exact go3 l3 (r_nn h3 h1 l3 (by omega)) (r_nn h3 h2 l3 (by omega))
      · refine .inl ⟨area q1 q2 q3, hA, area p1 q2 q3, area p1 q3 q1, area p1 q1 q2, by omega, by omega, by omega, by omega, ?_, ?_⟩
        · unfold sm area; grind
        · unfold sm area; grind
theorem exit {p1 p2 p3 q1 q2 q3 : V2} {n : Int} {X : V2} (hn : 0 < n) (hp : In3 p1 p2 p3 n X) (hq : In3 q1 q2 q3 n X) (hA : area q1 q2 q3 ≠ 0) : Out p1 p2 p3 q1 q2 q3 := by
  rcases Int.lt_or_gt_of_ne hA with h | h
  · rcases exit_pos (q1 := q2) (q2 := q1) hn hp hq.swap (by rw [area_swap]; omega) with ⟨c, c0, z⟩ | ⟨c, Y, c0, z1, z2 | z2 | z2⟩
    · exact .inl ⟨c, c0, z.swap⟩
    · exact .inr ⟨c, Y, c0, z1, .inl z2.swap⟩
    · exact .inr ⟨c, Y, c0, z1, .inr (.inr z2.swap)⟩
    · exact .inr ⟨c, Y, c0, z1, .inr (.inl z2.swap)⟩
  · exact exit_pos hn hp hq h
theorem mean_bound {a b c f1 f2 f3 lo hi : Int} (ha : 0 ≤ a) (hb : 0 ≤ b) (hc : 0 ≤ c) (h1 : lo ≤ f1 ∧ f1 ≤ hi) (h2 : lo ≤ f2 ∧ f2 ≤ hi) (h3 : lo ≤ f3 ∧ f3 ≤ hi) : (a + b + c) * lo ≤ a * f1 + b * f2 + c * f3 ∧ a * f1 + b * f2 + c * f3 ≤ (a + b + c) * hi := by
  have a1 := Int.mul_le_mul_of_nonneg_left h1.1 ha
  have a2 := Int.mul_le_mul_of_nonneg_left h1.2 ha
  have b1 := Int.mul_le_mul_of_nonneg_left h2.1 hb
  have b2 := Int.mul_le_mul_of_nonneg_left h2.2 hb
  have c1 := Int.mul_le_mul_of_nonneg_left h3.1 hc
  have c2 := Int.mul_le_mul_of_nonneg_left h3.2 hc
  constructor <;> grind
def Two (q1 q2 q3 : V2) (n : Int) (X : V2) : Prop := ∃ c, 0 < c ∧ (In2 q1 q2 (c * n) (sm c X) ∨ In2 q2 q3 (c * n) (sm c X) ∨ In2 q3 q1 (c * n) (sm c X))
theorem line3 {q1 q2 q3 u : V2} {n : Int} {X : V2} (hq : In3 q1 q2 q3 n X) (hu : 0 < dt u u) (h12 : cr u q2 = cr u q1) (h13 : cr u q3 = cr u q1) (hne : ¬ (dt u q1 = dt u q2 ∧ dt u q2 = dt u q3)) : Two q1 q2 q3 n X := by
  obtain ⟨a, b, c, ha, hb, hc, e, e1, e2⟩ := hq
  have hF : dt u X = a * dt u q1 + b * dt u q2 + c * dt u q3 := by unfold dt; rw [e1, e2]; grind
  have hx : cr u X = n * cr u q1 := by
    have : cr u X = a * cr u q1 + b * cr u q2 + c * cr u q3 := by unfold cr; rw [e1, e2]; grind
    rw [this, h12, h13, ← e]
    grind
  have bd := fun lo hi h1 h2 h3 => mean_bound (a := a) (b := b) (c := c) (f1 := dt u q1) (f2 := dt u q2) (f3 := dt u q3) (lo := lo) (hi := hi) ha hb hc h1 h2 h3
  rw [e, ← hF] at bd
  -- the ends
  have use12 : dt u q1 < dt u q2 → (dt u q1 ≤ dt u q3 ∧ dt u q3 ≤ dt u q2) → Two q1 q2 q3 n X := fun h k => by
    obtain ⟨z1, z2⟩ := bd (dt u q1) (dt u q2) (by omega) (by omega) k
    exact ⟨dt u q2 - dt u q1, by omega, .inl (on_line rfl rfl rfl h z1 z2 h12 hx hu)⟩
  have use21 : dt u q2 < dt u q1 → (dt u q2 ≤ dt u q3 ∧ dt u q3 ≤ dt u q1) → Two q1 q2 q3 n X := fun h k => by
    obtain ⟨z1, z2⟩ := bd (dt u q2) (dt u q1) (by omega) (by omega) k
    exact ⟨dt u q1 - dt u q2, by omega, .inl (on_line rfl rfl rfl h z1 z2 h12.symm (by rw [h12]; exact hx) hu).swap⟩
  have use23 : dt u q2 < dt u q3 → (dt u q2 ≤ dt u q1 ∧ dt u q1 ≤ dt u q3) → Two q1 q2 q3 n X := fun h k => by
    obtain ⟨z1, z2⟩ := bd (dt u q2) (dt u q3) k (by omega) (by omega)
    exact ⟨dt u q3 - dt u q2, by omega, .inr (.inl (on_line rfl rfl rfl h z1 z2 (by omega) (by rw [h12]; exact hx) hu))⟩
  have use32 : dt u q3 < dt u q2 → (dt u q3 ≤ dt u q1 ∧ dt u q1 ≤ dt u q2) → Two q1 q2 q3 n X := fun h k => by
    obtain ⟨z1, z2⟩ := bd (dt u q3) (dt u q2) k (by omega) (by omega)
    exact ⟨dt u q2 - dt u q3, by omega, .inr (.inl (on_line rfl rfl rfl h z1 z2 (by omega) (by rw [h13]; exact hx) hu).swap)⟩
  have use31 : dt u q3 < dt u q1 → (dt u q3 ≤ dt u q2 ∧ dt u q2 ≤ dt u q1) → Two q1 q2 q3 n X := fun h k => by
    obtain ⟨z1, z2⟩ := bd (dt u q3) (dt u q1) (by omega) k (by omega)
    exact ⟨dt u q1 - dt u q3, by omega, .inr (.inr (on_line rfl rfl rfl h z1 z2 (by omega) (by rw [h13]; exact hx) hu))⟩
  have use13 : dt u q1 < dt u q3 → (dt u q1 ≤ dt u q2 ∧ dt u q2 ≤ dt u q3) → Two q1 q2 q3 n X := fun h k => by
    obtain ⟨z1, z2⟩ := bd (dt u q1) (dt u q3) (by omega) k (by omega)
    exact ⟨dt u q3 - dt u q1, by omega, .inr (.inr (on_line rfl rfl rfl h z1 z2 (by omega) hx hu).swap)⟩
  generalize dt u q1 = f1 at *
  generalize dt u q2 = f2 at *
  generalize dt u q3 = f3 at *
  by_cases c1 : f1 ≤ f2
  · by_cases c2 : f2 ≤ f3
    · exact use13 (by omega) ⟨c1, c2⟩
    · by_cases c3 : f1 ≤ f3
      · exact use12 (by omega) (by omega)
      · exact use32 (by omega) (by omega)
  · by_cases c2 : f1 ≤ f3
    · exact use23 (by omega) (by omega)
    · by_cases c3 : f2 ≤ f3
      · exact use21 (by omega) (by omega)
      · exact use31 (by omega) (by omega)
theorem col3 {q1 q2 q3 : V2} {n : Int} {X : V2} (hq : In3 q1 q2 q3 n X) (hA : area q1 q2 q3 = 0) : Two q1 q2 q3 n X := by
  by_cases h1 : df q2 q1 = (0, 0)
  · by_cases h2 : df q3 q1 = (0, 0)
    · -- all alike
      obtain ⟨a, b, c, ha, hb, hc, e, e1, e2⟩ := hq
      refine ⟨1, by decide, .inl ⟨n, 0, by omega, by omega, by omega, ?_, ?_⟩⟩
      · have z1 := congrArg Prod.fst h1
        have z2 := congrArg Prod.fst h2
        unfold df at z1 z2
        simp only at z1 z2
        unfold sm
        simp only
        rw [e1, ← e, show q2.1 = q1.1 by omega, show q3.1 = q1.1 by omega]
        grind
      · have z1 := congrArg Prod.snd h1
        have z2 := congrArg Prod.snd h2
        unfold df at z1 z2
        simp only at z1 z2
        unfold sm
        simp only
        rw [e2, ← e, show q2.2 = q1.2 by omega, show q3.2 = q1.2 by omega]
        grind
    · refine line3 (u := df q3 q1) hq (sq_pos h2) ?_ (by unfold cr df; grind) fun z => ?_
      · have z1 := congrArg Prod.fst h1
        have z2 := congrArg Prod.snd h1
        unfold df at z1 z2
        simp only at z1 z2
        unfold cr
        rw [show q2.1 = q1.1 by omega, show q2.2 = q1.2 by omega]
      · have := sq_pos h2
        have e : dt (df q3 q1) (df q3 q1) = dt (df q3 q1) q3 - dt (df q3 q1) q1 := by unfold dt df; grind
        omega
  · refine line3 (u := df q2 q1) hq (sq_pos h1) (by unfold cr df; grind) ?_ fun z => ?_
    · unfold area at hA
      unfold cr df
      grind
    · have := sq_pos h1
      have e : dt (df q2 q1) (df q2 q1) = dt (df q2 q1) q2 - dt (df q2 q1) q1 := by unfold dt df; grind
      omega
theorem In3.scale {p q r : V2} {n c : Int} {X : V2} (hc : 0 < c) (h : In3 p q r n X) : In3 p q r (c * n) (sm c X) := by
  obtain ⟨x, y, z, hx, hy, hz, e, e1, e2⟩ := h
  refine ⟨c * x, c * y, c * z, Int.mul_nonneg (by omega) hx, Int.mul_nonneg (by omega) hy, Int.mul_nonneg (by omega) hz, by rw [← e]; grind, by unfold sm; simp only; rw [e1]; grind, by unfold sm; simp only; rw [e2]; grind⟩
theorem In2.scale {p q : V2} {n c : Int} {X : V2} (hc : 0 < c) (h : In2 p q n X) : In2 p q (c * n) (sm c X) := by
  obtain ⟨x, y, hx, hy, e, e1, e2⟩ := h
  refine ⟨c * x, c * y, Int.mul_nonneg (by omega) hx, Int.mul_nonneg (by omega) hy, by rw [← e]; grind, by unfold sm; simp only; rw [e1]; grind, by unfold sm; simp only; rw [e2]; grind⟩
theorem In2.to3 {p q : V2} {n : Int} {X : V2} (h : In2 p q n X) : In3 p q q n X := by
  obtain ⟨x, y, hx, hy, e, e1, e2⟩ := h
  exact ⟨x, y, 0, hx, hy, by decide, by omega, by rw [e1]; grind, by rw [e2]; grind⟩
theorem In3.to2 {p q : V2} {n : Int} {X : V2} (h : In3 p q q n X) : In2 p q n X := by
  obtain ⟨x, y, z, hx, hy, hz, e, e1, e2⟩ := h
  exact ⟨x, y + z, hx, by omega, by omega, by rw [e1]; grind, by rw [e2]; grind⟩
def D33 (P Q : List V2) : Prop := ∃ p1 ∈ P, ∃ p2 ∈ P, ∃ p3 ∈ P, ∃ q1 ∈ Q, ∃ q2 ∈ Q, ∃ q3 ∈ Q, ∃ n X, 0 < n ∧ In3 p1 p2 p3 n X ∧ In3 q1 q2 q3 n X
def D32 (P Q : List V2) : Prop := ∃ p1 ∈ P, ∃ p2 ∈ P, ∃ p3 ∈ P, ∃ q1 ∈ Q, ∃ q2 ∈ Q, ∃ n X, 0 < n ∧ In3 p1 p2 p3 n X ∧ In2 q1 q2 n X
def D22 (P Q : List V2) : Prop := ∃ p1 ∈ P, ∃ p2 ∈ P, ∃ q1 ∈ Q, ∃ q2 ∈ Q, ∃ n X, 0 < n ∧ In2 p1 p2 n X ∧ In2 q1 q2 n X
/-- a point of the one in a triangle of the other -/
def D13 (P Q : List V2) : Prop := ∃ p ∈ P, ∃ q1 ∈ Q, ∃ q2 ∈ Q, ∃ q3 ∈ Q, ∃ n, 0 < n ∧ In3 q1 q2 q3 n (sm n p)
def D12 (P Q : List V2) : Prop := ∃ p ∈ P, ∃ q1 ∈ Q, ∃ q2 ∈ Q, ∃ n, 0 < n ∧ In2 q1 q2 n (sm n p)
theorem d33 {P Q : List V2} (h : D33 P Q) : D32 P Q ∨ D13 P Q := by
  obtain ⟨p1, m1, p2, m2, p3, m3, q1, k1, q2, k2, q3, k3, n, X, hn, hp, hq⟩ := h
  by_cases hA : area q1 q2 q3 = 0
  · obtain ⟨c, c0, z⟩ := col3 hq hA
    have hp' := hp.scale c0
    have hn' := Int.mul_pos c0 hn
    rcases z with z | z | z
    · exact .inl ⟨p1, m1, p2, m2, p3, m3, q1, k1, q2, k2, _, _, hn', hp', z⟩
    · exact .inl ⟨p1, m1, p2, m2, p3, m3, q2, k2, q3, k3, _, _, hn', hp', z⟩
    · exact .inl ⟨p1, m1, p2, m2, p3, m3, q3, k3, q1, k1, _, _, hn', hp', z⟩
  · rcases exit hn hp hq hA with ⟨c, c0, z⟩ | ⟨c, Y, c0, z1, z | z | z⟩
    · exact .inr ⟨p1, m1, q1, k1, q2, k2, q3, k3, c, c0, z⟩
    · exact .inl ⟨p1, m1, p2, m2, p3, m3, q1, k1, q2, k2, _, _, c0, z1, z⟩
    · exact .inl ⟨p1, m1, p2, m2, p3, m3, q2, k2, q3, k3, _, _, c0, z1, z⟩
    · exact .inl ⟨p1, m1, p2, m2, p3, m3, q3, k3, q1, k1, _, _, c0, z1, z⟩
theorem d32 {P Q : List V2} (h : D32 P Q) : D22 P Q ∨ D13 Q P := by
  obtain ⟨p1, m1, p2, m2, p3, m3, q1, k1, q2, k2, n, X, hn, hp, hq⟩ := h
  by_cases hA : area p1 p2 p3 = 0
  · obtain ⟨c, c0, z⟩ := col3 hp hA
    have hq' := hq.scale c0
    have hn' := Int.mul_pos c0 hn
    rcases z with z | z | z
    · exact .inl ⟨p1, m1, p2, m2, q1, k1, q2, k2, _, _, hn', z, hq'⟩
    · exact .inl ⟨p2, m2, p3, m3, q1, k1, q2, k2, _, _, hn', z, hq'⟩
    · exact .inl ⟨p3, m3, p1, m1, q1, k1, q2, k2, _, _, hn', z, hq'⟩
  · rcases exit hn hq.to3 hp hA with ⟨c, c0, z⟩ | ⟨c, Y, c0, z1, z | z | z⟩
    · exact .inr ⟨q1, k1, p1, m1, p2, m2, p3, m3, c, c0, z⟩
    · exact .inl ⟨p1, m1, p2, m2, q1, k1, q2, k2, _, _, c0, z, z1.to2⟩
    · exact .inl ⟨p2, m2, p3, m3, q1, k1, q2, k2, _, _, c0, z, z1.to2⟩
    · exact .inl ⟨p3, m3, p1, m1, q1, k1, q2, k2, _, _, c0, z, z1.to2⟩
/-- all q - p -/
def diffs (P Q : List V2) : List V2 := P.flatMap fun p => Q.map fun q => df q p
theorem mem_diffs {P Q : List V2} {s : V2} (h : s ∈ diffs P Q) : ∃ p ∈ P, ∃ q ∈ Q, s = df q p := by
  obtain ⟨p, hp, h⟩ := List.mem_flatMap.mp h
  obtain ⟨q, hq, rfl⟩ := List.mem_map.mp h
  exact ⟨p, hp, q, hq, rfl⟩
theorem df_mem {P Q : List V2} {p q : V2} (hp : p ∈ P) (hq : q ∈ Q) : df q p ∈ diffs P Q := List.mem_flatMap.mpr ⟨p, hp, List.mem_map.mpr ⟨q, hq, rfl⟩⟩
/-- what bars a parting direction comes to few points -/
theorem not_free {P Q : List V2} (h : ¬ Free (diffs P Q)) : D22 P Q ∨ D13 P Q ∨ D13 Q P := by
  apply Classical.byContradiction
  intro no
  simp only [not_or] at no
  obtain ⟨n22, n13, n31⟩ := no
  refine h ⟨fun s hs e => ?_, fun s hs t ht hc => ?_, fun r hr s hs t ht a b c => ?_⟩
  · obtain ⟨p, hp, q, hq, rfl⟩ := mem_diffs hs
    have z1 := congrArg Prod.fst e
    have z2 := congrArg Prod.snd e
    unfold df at z1 z2
    simp only at z1 z2
    refine n22 ⟨p, hp, p, hp, q, hq, q, hq, 1, p, by decide, ⟨1, 0, by decide, by decide, by decide, by omega, by omega⟩, ⟨1, 0, by decide, by decide, by decide, by omega, by omega⟩⟩
  · apply Classical.byContradiction
    intro neg
    obtain ⟨p, hp, q, hq, rfl⟩ := mem_diffs hs
    obtain ⟨p', hp', q', hq', rfl⟩ := mem_diffs ht
    have hnz : df q p ≠ (0, 0) := fun e => by
      apply neg
      rw [e]
      unfold dt
      simp
    have ss := sq_pos hnz
    refine n22 ⟨p, hp, p', hp', q, hq, q', hq', _, (- dt (df q p) (df q' p') * p.1 + dt (df q p) (df q p) * p'.1, - dt (df q p) (df q' p') * p.2 + dt (df q p) (df q p) * p'.2), ?_, ⟨- dt (df q p) (df q' p'), dt (df q p) (df q p), by omega, by omega, rfl, rfl, rfl⟩, ⟨- dt (df q p) (df q' p'), dt (df q p) (df q p), by omega, by omega, rfl, ?_, ?_⟩⟩
    · omega
    · unfold cr at hc
      unfold dt df at *
      simp only at *
      grind
    · unfold cr at hc
      unfold dt df at *
      simp only at *
      grind
  · obtain ⟨p, hp, q, hq, rfl⟩ := mem_diffs hr
    obtain ⟨p', hp', q', hq', rfl⟩ := mem_diffs hs
    obtain ⟨p'', hp'', q'', hq'', rfl⟩ := mem_diffs ht
    have d : D33 P Q := by
      refine ⟨p, hp, p', hp', p'', hp'', q, hq, q', hq', q'', hq'', _, (cr (df q' p') (df q'' p'') * p.1 + cr (df q'' p'') (df q p) * p'.1 + cr (df q p) (df q' p') * p''.1, cr (df q' p') (df q'' p'') * p.2 + cr (df q'' p'') (df q p) * p'.2 + cr (df q p) (df q' p') * p''.2), ?_, ⟨cr (df q' p') (df q'' p''), cr (df q'' p'') (df q p), cr (df q p) (df q' p'), by omega, by omega, by omega, rfl, rfl, rfl⟩, ⟨cr (df q' p') (df q'' p''), cr (df q'' p'') (df q p), cr (df q p) (df q' p'), by omega, by omega, by omega, rfl, ?_, ?_⟩⟩
      · omega
      · unfold cr df
        simp only
        grind
      · unfold cr df
        simp only
        grind
    rcases d33 d with d | d
    · rcases d32 d with d | d
      · exact n22 d
      · exact n31 d
    · exact n13 d
end Part

namespace Part
/-- a direction in which all of Q are beyond all of P -/
def Sep (P Q : List V2) (d : V2) : Prop := ∀ p ∈ P, ∀ q ∈ Q, dt d p < dt d q
theorem dt_df (d q p : V2) : dt d (df q p) = dt d q - dt d p := by unfold dt df; grind
/-- what parting_row tries, of two of the points -/
def tries (u v : V2) : List V2 := [df v u, (0 - (df v u).1, 0 - (df v u).2), ((df v u).2, 0 - (df v u).1), (0 - (df v u).2, (df v u).1)]
theorem along {P Q : List V2} {e w : V2} (he : e ≠ (0, 0)) (hz : cr e w = 0) (hw : w ≠ (0, 0)) (h : ∀ t ∈ diffs P Q, 0 < w.2 * t.1 - w.1 * t.2) : Sep P Q (e.2, 0 - e.1) ∨ Sep P Q (0 - e.2, e.1) := by
  have ww := sq_pos hw
  have ee := sq_pos he
  have id : ∀ t : V2, dt (e.2, 0 - e.1) t * dt w w = dt e w * (w.2 * t.1 - w.1 * t.2) := fun t => by
    unfold cr at hz
    unfold dt
    simp only
    grind
  have hne : dt e w ≠ 0 := fun z => by
    have := id2 e w e
    rw [z, hz] at this
    have z2 := Int.mul_pos ee ww
    simp at this
    omega
  rcases Int.lt_or_gt_of_ne hne with z | z
  · refine .inr fun p hp q hq => ?_
    have ht := h _ (df_mem hp hq)
    have i := id (df q p)
    have m := Int.mul_neg_of_neg_of_pos z ht
    have d1 := dt_df (e.2, 0 - e.1) q p
    have neg : dt (e.2, 0 - e.1) (df q p) < 0 := by
      rcases Int.lt_or_le (dt (e.2, 0 - e.1) (df q p)) 0 with y | y
      · exact y
      · have := Int.mul_nonneg y (Int.le_of_lt ww)
        omega
    have s1 : ∀ x : V2, dt (0 - e.2, e.1) x = - dt (e.2, 0 - e.1) x := fun x => by unfold dt; grind
    rw [s1, s1]
    omega
  · refine .inl fun p hp q hq => ?_
    have ht := h _ (df_mem hp hq)
    have i := id (df q p)
    have m := Int.mul_pos z ht
    have pos : 0 < dt (e.2, 0 - e.1) (df q p) := pos_of_mul (by omega) ww
    have d1 := dt_df (e.2, 0 - e.1) q p
    omega
theorem candidate {P Q : List V2} (hP : P ≠ []) (hQ : Q ≠ []) (f : Free (diffs P Q)) : ∃ u ∈ P ++ Q, ∃ v ∈ P ++ Q, u ≠ v ∧ ∃ d ∈ tries u v, Sep P Q d := by
  have hne : diffs P Q ≠ [] := fun e => by
    cases P with
    | nil => exact hP rfl
    | cons p P => cases Q with
      | nil => exact hQ rfl
      | cons q Q =>
        have := df_mem (P := p :: P) (Q := q :: Q) List.mem_cons_self List.mem_cons_self
        rw [e] at this
        cases this
  rcases direction hne f with ⟨s, hs, h⟩ | ⟨v0, h0, v1, h1, hn, hpos, h⟩
  · obtain ⟨p, hp, q, hq, rfl⟩ := mem_diffs hs
    refine ⟨p, List.mem_append_left _ hp, q, List.mem_append_right _ hq, fun e => f.nz _ hs (by rw [e]; unfold df; grind), df q p, List.mem_cons_self, fun p' hp' q' hq' => ?_⟩
    have := h _ (df_mem hp' hq')
    rw [dt_df] at this
    omega
  · obtain ⟨p0, hp0, q0, hq0, rfl⟩ := mem_diffs h0
    obtain ⟨p1, hp1, q1, hq1, rfl⟩ := mem_diffs h1
    have a := h _ (df_mem hp0 hq1)
    have b := h _ (df_mem hp1 hq0)
    have hw : df (df q1 p1) (df q0 p0) ≠ (0, 0) := fun e => by
      apply hn
      have z1 := congrArg Prod.fst e
      have z2 := congrArg Prod.snd e
      unfold df at *
      simp only at *
      exact Prod.ext (by simp only; omega) (by simp only; omega)
    have hall : ∀ t ∈ diffs P Q, 0 < (df (df q1 p1) (df q0 p0)).2 * t.1 - (df (df q1 p1) (df q0 p0)).1 * t.2 := fun t ht => by
      have := h t ht
      unfold df at *
      simp only at *
      omega
    -- d.q1 = d.q0 and d.p1 = d.p0
    have i1 : ((df q1 p1).2 - (df q0 p0).2) * (df q1 p0).1 - ((df q1 p1).1 - (df q0 p0).1) * (df q1 p0).2 - cr (df q0 p0) (df q1 p1) = cr (df q1 q0) (df (df q1 p1) (df q0 p0)) := by
      clear a b h hall hw hn hpos h0 h1 hne f
      unfold cr df
      grind
    have i2 : ((df q1 p1).2 - (df q0 p0).2) * (df q0 p1).1 - ((df q1 p1).1 - (df q0 p0).1) * (df q0 p1).2 - cr (df q0 p0) (df q1 p1) = - cr (df q1 q0) (df (df q1 p1) (df q0 p0)) := by
      clear a b h hall hw hn hpos h0 h1 hne f
      unfold cr df
      grind
    have i3 : ((df q1 p1).2 - (df q0 p0).2) * (df q1 p0).1 - ((df q1 p1).1 - (df q0 p0).1) * (df q1 p0).2 - cr (df q0 p0) (df q1 p1) = cr (df p1 p0) (df (df q1 p1) (df q0 p0)) := by
      clear a b h hall hw hn hpos h0 h1 hne f
      unfold cr df
      grind
    have i4 : ((df q1 p1).2 - (df q0 p0).2) * (df q0 p1).1 - ((df q1 p1).1 - (df q0 p0).1) * (df q0 p1).2 - cr (df q0 p0) (df q1 p1) = - cr (df p1 p0) (df (df q1 p1) (df q0 p0)) := by
      clear a b h hall hw hn hpos h0 h1 hne f
      unfold cr df
      grind
    have eq1 : cr (df q1 q0) (df (df q1 p1) (df q0 p0)) = 0 := by omega
    have eq2 : cr (df p1 p0) (df (df q1 p1) (df q0 p0)) = 0 := by omega
    by_cases hq : df q1 q0 = (0, 0)
    · have hp : df p1 p0 ≠ (0, 0) := fun e => by
        apply hw
        have z1 := congrArg Prod.fst e
        have z2 := congrArg Prod.snd e
        have y1 := congrArg Prod.fst hq
        have y2 := congrArg Prod.snd hq
        unfold df at *
        simp only at *
        exact Prod.ext (by simp only; omega) (by simp only; omega)
      refine ⟨p0, List.mem_append_left _ hp0, p1, List.mem_append_left _ hp1, fun e => hp (by rw [e]; unfold df; grind), ?_⟩
      rcases along hp eq2 hw hall with z | z
      · exact ⟨_, by unfold tries; simp, z⟩
      · exact ⟨_, by unfold tries; simp, z⟩
    · refine ⟨q0, List.mem_append_right _ hq0, q1, List.mem_append_right _ hq1, fun e => hq (by rw [e]; unfold df; grind), ?_⟩
      rcases along hq eq1 hw hall with z | z
      · exact ⟨_, by unfold tries; simp, z⟩
      · exact ⟨_, by unfold tries; simp, z⟩
end Part

namespace Part
/-- weights, the one's and the other's, that can be turned to be of one sign each -/
def Good (mine theirs : List Int) : Prop := ∃ s : Int, (s = 1 ∨ s = -1) ∧ (∀ x ∈ mine, 0 ≤ s * x) ∧ (∀ x ∈ theirs, 0 ≤ -(s * x)) ∧ ∃ x ∈ mine, x ≠ 0
def D11 (P Q : List V2) : Prop := ∃ p ∈ P, p ∈ Q
theorem nn_of {a b n : Int} (hn : 0 < n) (h : n * a = b) (hb : 0 ≤ b) : 0 ≤ a := by
  rcases Int.lt_or_le a 0 with z | z
  · have := Int.mul_neg_of_pos_of_neg hn z
    omega
  · exact z
theorem two12 {P Q : List V2} {p q1 q2 q3 : V2} {n : Int} (hp : p ∈ P) (h1 : q1 ∈ Q) (h2 : q2 ∈ Q) (h3 : q3 ∈ Q) (hn : 0 < n) (h : Two q1 q2 q3 n (sm n p)) : D12 P Q := by
  obtain ⟨c, c0, z⟩ := h
  have e : sm c (sm n p) = sm (c * n) p := by unfold sm; grind
  rw [e] at z
  have cn := Int.mul_pos c0 hn
  rcases z with z | z | z
  · exact ⟨p, hp, q1, h1, q2, h2, _, cn, z⟩
  · exact ⟨p, hp, q2, h2, q3, h3, _, cn, z⟩
  · exact ⟨p, hp, q3, h3, q1, h1, _, cn, z⟩
theorem d13 {P Q : List V2} (h : D13 P Q) : D12 P Q ∨ ∃ p ∈ P, ∃ q1 ∈ Q, ∃ q2 ∈ Q, ∃ q3 ∈ Q, area q1 q2 q3 ≠ 0 ∧ Good [area q1 q2 q3] [0 - area p q2 q3, area p q1 q3, 0 - area p q1 q2] := by
  obtain ⟨p, hp, q1, h1, q2, h2, q3, h3, n, hn, hq⟩ := h
  by_cases hA : area q1 q2 q3 = 0
  · exact .inl (two12 hp h1 h2 h3 hn (col3 hq hA))
  · refine .inr ⟨p, hp, q1, h1, q2, h2, q3, h3, hA, ?_⟩
    obtain ⟨b1, b2, b3, k1, k2, k3, e, e1, e2⟩ := hq
    unfold sm at e1 e2
    simp only at e1 e2
    have a1 : n * area p q2 q3 = b1 * area q1 q2 q3 := by unfold area; subst e; grind
    have a2 : n * area p q1 q3 = - (b2 * area q1 q2 q3) := by unfold area; subst e; grind
    have a3 : n * area p q1 q2 = b3 * area q1 q2 q3 := by unfold area; subst e; grind
    rcases Int.lt_or_gt_of_ne hA with z | z
    · refine ⟨-1, .inr rfl, fun x hx => ?_, fun x hx => ?_, _, List.mem_cons_self, hA⟩
      · simp at hx; subst hx; omega
      · have m1 := Int.mul_nonneg k1 (show 0 ≤ - area q1 q2 q3 by omega)
        have m2 := Int.mul_nonneg k2 (show 0 ≤ - area q1 q2 q3 by omega)
        have m3 := Int.mul_nonneg k3 (show 0 ≤ - area q1 q2 q3 by omega)
        simp at hx
        rcases hx with rfl | rfl | rfl
        · have := nn_of (a := - area p q2 q3) hn rfl (by grind); omega
        · have := nn_of (a := area p q1 q3) hn rfl (by grind); omega
        · have := nn_of (a := - area p q1 q2) hn rfl (by grind); omega
    · refine ⟨1, .inl rfl, fun x hx => ?_, fun x hx => ?_, _, List.mem_cons_self, hA⟩
      · simp at hx; subst hx; omega
      · have m1 := Int.mul_nonneg k1 (Int.le_of_lt z)
        have m2 := Int.mul_nonneg k2 (Int.le_of_lt z)
        have m3 := Int.mul_nonneg k3 (Int.le_of_lt z)
        simp at hx
        rcases hx with rfl | rfl | rfl
        · have := nn_of (a := area p q2 q3) hn rfl (by omega); omega
        · have := nn_of (a := - area p q1 q3) hn rfl (by grind); omega
        · have := nn_of (a := area p q1 q2) hn rfl (by omega); omega
/-- a point between two others, along a number that is not the same of both -/
theorem d12 {P Q : List V2} (h : D12 P Q) : D11 P Q ∨ ∃ p ∈ P, ∃ q1 ∈ Q, ∃ q2 ∈ Q, q1 ≠ q2 ∧ area p q1 q2 = 0 ∧ (q1.1 ≠ q2.1 → Good [q1.1 - q2.1] [q2.1 - p.1, p.1 - q1.1]) ∧ (q1.2 ≠ q2.2 → Good [q1.2 - q2.2] [q2.2 - p.2, p.2 - q1.2]) ∧ (q1.1 = q2.1 → p.1 = q1.1) := by
  obtain ⟨p, hp, q1, h1, q2, h2, n, hn, a, b, ha, hb, e, e1, e2⟩ := h
  unfold sm at e1 e2
  simp only at e1 e2
  have co : ∀ x y1 y2 : Int, n * x = a * y1 + b * y2 → y1 ≠ y2 → Good [y1 - y2] [y2 - x, x - y1] := fun x y1 y2 hx hy => by
    have z1 : n * (x - y1) = b * (y2 - y1) := by subst e; grind
    have z2 : n * (y2 - x) = a * (y2 - y1) := by subst e; grind
    rcases Int.lt_or_gt_of_ne hy with z | z
    · refine ⟨-1, .inr rfl, fun w hw => ?_, fun w hw => ?_, _, List.mem_cons_self, by omega⟩
      · simp at hw; subst hw; omega
      · have m1 := Int.mul_nonneg hb (show 0 ≤ y2 - y1 by omega)
        have m2 := Int.mul_nonneg ha (show 0 ≤ y2 - y1 by omega)
        simp at hw
        rcases hw with rfl | rfl
        · have := nn_of hn z2 m2; omega
        · have := nn_of hn z1 m1; omega
    · refine ⟨1, .inl rfl, fun w hw => ?_, fun w hw => ?_, _, List.mem_cons_self, by omega⟩
      · simp at hw; subst hw; omega
      · have m1 := Int.mul_nonneg hb (show 0 ≤ y1 - y2 by omega)
        have m2 := Int.mul_nonneg ha (show 0 ≤ y1 - y2 by omega)
        simp at hw
        rcases hw with rfl | rfl
        · have := nn_of (a := x - y2) hn (by grind) m2; omega
        · have := nn_of (a := y1 - x) hn (by grind) m1; omega
  by_cases hq : q1 = q2
  · subst hq
    left
    have z1 : n * p.1 = n * q1.1 := by rw [e1]; subst e; grind
    have z2 : n * p.2 = n * q1.2 := by rw [e2]; subst e; grind
    have : p = q1 := Prod.ext (cancel (by omega) z1) (cancel (by omega) z2)
    exact ⟨p, hp, by rw [this]; exact h1⟩
  · refine .inr ⟨p, hp, q1, h1, q2, h2, hq, ?_, co _ _ _ e1, co _ _ _ e2, fun z => ?_⟩
    · have : n * area p q1 q2 = n * 0 := by unfold area; subst e; grind
      exact cancel (by omega) this
    · exact cancel (A := n) (by omega) (by rw [e1, ← z]; subst e; grind)
end Part

namespace Part
theorem one_sign {α1 α2 a1 a2 n : Int} (k1 : 0 ≤ α1) (k2 : 0 ≤ α2) (e : α1 + α2 = n) (hn : 0 < n) (h : α1 * a1 + α2 * a2 = 0) : (0 ≤ a2 ∧ 0 ≤ -a1) ∨ (a2 ≤ 0 ∧ -a1 ≤ 0) := by
  rcases Int.lt_trichotomy a1 0 with z | z | z
  · rcases Int.lt_or_le a2 0 with y | y
    · exfalso
      have m1 := Int.mul_nonneg k1 (show 0 ≤ -a1 by omega)
      have m2 := Int.mul_nonneg k2 (show 0 ≤ -a2 by omega)
      have m3 : 0 ≤ α1 * (-a1 - 1) := Int.mul_nonneg k1 (by omega)
      have m4 : 0 ≤ α2 * (-a2 - 1) := Int.mul_nonneg k2 (by omega)
      grind
    · omega
  · omega
  · rcases Int.lt_or_le 0 a2 with y | y
    · exfalso
      have m3 : 0 ≤ α1 * (a1 - 1) := Int.mul_nonneg k1 (by omega)
      have m4 : 0 ≤ α2 * (a2 - 1) := Int.mul_nonneg k2 (by omega)
      grind
    · omega
theorem good2 {a b c d : Int} (h1 : (0 ≤ a ∧ 0 ≤ b) ∨ (a ≤ 0 ∧ b ≤ 0)) (h2 : (0 ≤ c ∧ 0 ≤ d) ∨ (c ≤ 0 ∧ d ≤ 0)) (hs : a + b + c + d = 0) (hz : ¬ (a = 0 ∧ b = 0 ∧ c = 0 ∧ d = 0)) : Good [a, b] [c, d] := by
  have nz : ∃ x ∈ [a, b], x ≠ 0 := by
    by_cases h : a = 0
    · exact ⟨b, by simp, by omega⟩
    · exact ⟨a, by simp, h⟩
  rcases h1 with h1 | h1
  · exact ⟨1, .inl rfl, fun x hx => by simp at hx; rcases hx with rfl | rfl <;> omega, fun x hx => by simp at hx; rcases hx with rfl | rfl <;> omega, nz⟩
  · exact ⟨-1, .inr rfl, fun x hx => by simp at hx; rcases hx with rfl | rfl <;> omega, fun x hx => by simp at hx; rcases hx with rfl | rfl <;> omega, nz⟩
theorem mean2 {a b n f1 f2 F : Int} (ha : 0 ≤ a) (hb : 0 ≤ b) (e : a + b = n) (hF : F = a * f1 + b * f2) (h : f1 ≤ f2) : n * f1 ≤ F ∧ F ≤ n * f2 := by
  have m1 := Int.mul_nonneg ha (show 0 ≤ f2 - f1 by omega)
  have m2 := Int.mul_nonneg hb (show 0 ≤ f2 - f1 by omega)
  rw [Int.mul_sub] at m1 m2
  subst e hF
  rw [Int.add_mul, Int.add_mul]
  omega
theorem seg {p1 p2 q1 q2 u : V2} {n : Int} {X : V2} (hn : 0 < n) (hp : In2 p1 p2 n X) (hq : In2 q1 q2 n X) (hu : 0 < dt u u) (cq : cr u q2 = cr u q1) (c1 : cr u p1 = cr u q1) (c2 : cr u p2 = cr u q1) (lq : dt u q1 < dt u q2) (lp : dt u p1 ≤ dt u p2) :
    (∃ c, 0 < c ∧ In2 q1 q2 c (sm c p1)) ∨ ∃ c, 0 < c ∧ In2 p1 p2 c (sm c q1) := by
  have bp : n * dt u p1 ≤ dt u X ∧ dt u X ≤ n * dt u p2 := by
    obtain ⟨a, b, ha, hb, e, e1, e2⟩ := hp
    exact mean2 ha hb e (by unfold dt; rw [e1, e2]; grind) (by omega)
  have bq : n * dt u q1 ≤ dt u X ∧ dt u X ≤ n * dt u q2 := by
    obtain ⟨a, b, ha, hb, e, e1, e2⟩ := hq
    exact mean2 ha hb e (by unfold dt; rw [e1, e2]; grind) (by omega)
  rcases Int.lt_or_le (dt u p1) (dt u q1) with z | z
  · right
    have y : dt u q1 ≤ dt u p2 := by
      rcases Int.lt_or_le (dt u p2) (dt u q1) with y | y
      · have := Int.mul_lt_mul_of_pos_left y hn; omega
      · exact y
    have := on_line (p := p1) (q := p2) (n := 1) (X := q1) (u := u) rfl rfl rfl (by omega) (by omega) (by omega) (by omega) (by omega) hu
    rw [Int.mul_one] at this
    exact ⟨_, by omega, this⟩
  · left
    have y : dt u p1 ≤ dt u q2 := by
      rcases Int.lt_or_le (dt u q2) (dt u p1) with y | y
      · have := Int.mul_lt_mul_of_pos_left y hn; omega
      · exact y
    have := on_line (p := q1) (q := q2) (n := 1) (X := p1) (u := u) rfl rfl rfl (by omega) (by omega) (by omega) (by omega) (by omega) hu
    rw [Int.mul_one] at this
    exact ⟨_, by omega, this⟩
theorem d22 {P Q : List V2} (h : D22 P Q) : (D12 P Q ∨ D12 Q P) ∨ ∃ p1 ∈ P, ∃ p2 ∈ P, ∃ q1 ∈ Q, ∃ q2 ∈ Q, p1 ≠ p2 ∧ q1 ≠ q2 ∧ Good [area p2 q1 q2, 0 - area p1 q1 q2] [area p1 p2 q2, 0 - area p1 p2 q1] := by
  obtain ⟨p1, h1, p2, h2, q1, g1, q2, g2, n, X, hn, hp, hq⟩ := h
  by_cases eq : q1 = q2
  · subst eq
    obtain ⟨a, b, ha, hb, e, e1, e2⟩ := hq
    have : X = sm n q1 := by unfold sm; refine Prod.ext ?_ ?_ <;> simp only [e1, e2] <;> subst e <;> grind
    rw [this] at hp
    exact .inl (.inr ⟨q1, g1, p1, h1, p2, h2, n, hn, hp⟩)
  by_cases ep : p1 = p2
  · subst ep
    obtain ⟨a, b, ha, hb, e, e1, e2⟩ := hp
    have : X = sm n p1 := by unfold sm; refine Prod.ext ?_ ?_ <;> simp only [e1, e2] <;> subst e <;> grind
    rw [this] at hq
    exact .inl (.inl ⟨p1, h1, q1, g1, q2, g2, n, hn, hq⟩)
  by_cases hz : area p2 q1 q2 = 0 ∧ 0 - area p1 q1 q2 = 0 ∧ area p1 p2 q2 = 0 ∧ 0 - area p1 p2 q1 = 0
  · left
    obtain ⟨z2, z1, -, -⟩ := hz
    let u : V2 := df q2 q1
    have hu : 0 < dt u u := sq_pos (fun h => eq (Prod.ext (by have := congrArg Prod.fst h; simp [u, df] at this; omega) (by have := congrArg Prod.snd h; simp [u, df] at this; omega)))
    have cq : cr u q2 = cr u q1 := by simp only [u, cr, df]; grind
    have c1 : cr u p1 = cr u q1 := by simp only [u, cr, df]; unfold area at z1; grind
    have c2 : cr u p2 = cr u q1 := by simp only [u, cr, df]; unfold area at z2; grind
    have lq : dt u q1 < dt u q2 := by
      have : dt u q2 - dt u q1 = dt u u := by simp only [u, dt, df]; grind
      omega
    rcases Int.le_total (dt u p1) (dt u p2) with lp | lp
    · rcases seg hn hp hq hu cq c1 c2 lq lp with ⟨c, k, w⟩ | ⟨c, k, w⟩
      · exact .inl ⟨p1, h1, q1, g1, q2, g2, c, k, w⟩
      · exact .inr ⟨q1, g1, p1, h1, p2, h2, c, k, w⟩
    · rcases seg hn hp.swap hq hu cq c2 c1 lq lp with ⟨c, k, w⟩ | ⟨c, k, w⟩
      · exact .inl ⟨p2, h2, q1, g1, q2, g2, c, k, w⟩
      · exact .inr ⟨q1, g1, p2, h2, p1, h1, c, k, w⟩
  · right
    refine ⟨p1, h1, p2, h2, q1, g1, q2, g2, ep, eq, good2 ?_ ?_ ?_ hz⟩
    · obtain ⟨a, b, ha, hb, e, e1, e2⟩ := hp
      obtain ⟨c, d, hc, hd, f, f1, f2⟩ := hq
      have : a * area p1 q1 q2 + b * area p2 q1 q2 = 0 := by
        have k1 : a * p1.1 + b * p2.1 = c * q1.1 + d * q2.1 := by rw [← e1, ← f1]
        have k2 : a * p1.2 + b * p2.2 = c * q1.2 + d * q2.2 := by rw [← e2, ← f2]
        have k3 : a + b = c + d := by rw [e, f]
        unfold area; grind
      have := one_sign ha hb e hn this
      omega
    · obtain ⟨a, b, ha, hb, e, e1, e2⟩ := hp
      obtain ⟨c, d, hc, hd, f, f1, f2⟩ := hq
      have : c * area p1 p2 q1 + d * area p1 p2 q2 = 0 := by
        have k1 : a * p1.1 + b * p2.1 = c * q1.1 + d * q2.1 := by rw [← e1, ← f1]
        have k2 : a * p1.2 + b * p2.2 = c * q1.2 + d * q2.2 := by rw [← e2, ← f2]
        have k3 : a + b = c + d := by rw [e, f]
        unfold area; grind
      have := one_sign hc hd f hn this
      omega
    · unfold area; grind
end Part

set_option Elab.async false
set_option linter.all false
set_option maxRecDepth 100000
namespace K56
open PySem Rx Rx.S
section
variable {P Q : List P2}
def pt (p : P2) : Part.V2 := (p.x, p.y)
theorem pt_area (a b c : P2) : Part.area (pt a) (pt b) (pt c) = ar a b c := rfl
theorem mem_pt {v : Part.V2} (h : v ∈ P.map pt) : ∃ i : Fin P.length, pt P[i] = v := by
  obtain ⟨p, hp, rfl⟩ := List.mem_map.mp h
  obtain ⟨i, hi, rfl⟩ := List.mem_iff_getElem.mp hp
  exact ⟨⟨i, hi⟩, rfl⟩
theorem meet_good {N : List (Fin P.length)} {M : List (Fin Q.length)} {l : List (BI 61)} (h : bal (pick P N ++ pick Q M) = some l) {mine theirs : List Int} (hl : l.map BI.v = mine ++ theirs) (hm : mine.length = N.length) (g : Part.Good mine theirs) : meet N M ≠ none := by
  have e1 : (l.take N.length).map BI.v = mine := by rw [List.map_take, hl, ← hm]; simp
  have e2 : (l.drop N.length).map BI.v = theirs := by rw [List.map_drop, hl, ← hm]; simp
  obtain ⟨s, hs, g1, g2, y, hy, hy0⟩ := g
  have a1 : ∀ x ∈ l.take N.length, 0 ≤ s * x.v := fun x hx => g1 _ (by rw [← e1]; exact List.mem_map_of_mem hx)
  have a2 : ∀ x ∈ l.drop N.length, 0 ≤ -(s * x.v) := fun x hx => g2 _ (by rw [← e2]; exact List.mem_map_of_mem hx)
  rw [← e1] at hy
  obtain ⟨x, hx, rfl⟩ := List.mem_map.mp hy
  have hxl : x ∈ l := List.mem_of_mem_take hx
  have n0 : ¬ ∀ x, x ∈ l → x.v = 0 := fun z => hy0 (z x hxl)
  have n2 : ¬ ∀ x, x ∈ l.take N.length → x.v = 0 := fun z => hy0 (z x hx)
  unfold meet
  rw [h]
  simp only [if_neg n0]
  rcases hs with rfl | rfl
  · have hs : ∃ x, x ∈ l.take N.length ∧ 0 < x.v := ⟨x, hx, by have := a1 x hx; omega⟩
    have n1 : ¬ ((∃ x, x ∈ l.take N.length ∧ x.v < 0) ∨ ∃ x, x ∈ l.drop N.length ∧ 0 < x.v) := by
      rintro (⟨z, hz, h0⟩ | ⟨z, hz, h0⟩)
      · have := a1 z hz; omega
      · have := a2 z hz; omega
    rw [if_pos hs, if_neg n1, if_neg n2]
    intro z; cases z
  · have hs : ¬ ∃ x, x ∈ l.take N.length ∧ 0 < x.v := by
      rintro ⟨z, hz, h0⟩
      have := a1 z hz; omega
    have n1 : ¬ ((∃ x, x ∈ l.take N.length ∧ 0 < x.v) ∨ ∃ x, x ∈ l.drop N.length ∧ x.v < 0) := by
      rintro (⟨z, hz, h0⟩ | ⟨z, hz, h0⟩)
      · have := a1 z hz; omega
      · have := a2 z hz; omega
    rw [if_neg hs, if_neg n1, if_neg n2]
    intro z; cases z
theorem good_neg {a b c d : List Int} (g : Part.Good a b) (h1 : ∀ x ∈ c, -x ∈ a) (h2 : ∀ x ∈ d, -x ∈ b) (h3 : ∀ x ∈ a, -x ∈ c) : Part.Good c d := by
  obtain ⟨s, hs, g1, g2, y, hy, hy0⟩ := g
  refine ⟨-s, by omega, fun x hx => ?_, fun x hx => ?_, -y, h3 y hy, by omega⟩
  · have := g1 _ (h1 x hx)
    rw [Int.mul_neg] at this
    rw [Int.neg_mul]
    exact this
  · have := g2 _ (h2 x hx)
    rw [Int.mul_neg] at this
    rw [Int.neg_mul]
    exact this
theorem good_flip {u v w : Int} (h : u + v + w = 0) (g : Part.Good [u] [v, w]) : Part.Good [v, w] [u] := by
  obtain ⟨s, hs, g1, g2, y, hy, hy0⟩ := g
  have h1 := g1 u (by simp)
  have h2 := g2 v (by simp)
  have h3 := g2 w (by simp)
  simp only [List.mem_singleton] at hy
  subst hy
  refine ⟨-s, by omega, fun x hx => ?_, fun x hx => ?_, ?_⟩
  · simp only [List.mem_cons, List.not_mem_nil, or_false] at hx
    rcases hx with rfl | rfl
    · rw [Int.neg_mul]; exact h2
    · rw [Int.neg_mul]; exact h3
  · simp only [List.mem_singleton] at hx
    subst hx
    rw [Int.neg_mul]
    omega
  · by_cases hv : v = 0
    · exact ⟨w, by simp, by omega⟩
    · exact ⟨v, by simp, hv⟩
theorem good_flip3 {u v w z : Int} (h : u + v + w + z = 0) (g : Part.Good [u] [v, w, z]) : Part.Good [-v, -w, -z] [-u] := by
  obtain ⟨s, hs, g1, g2, y, hy, hy0⟩ := g
  have h1 := g1 u (by simp)
  have h2 := g2 v (by simp)
  have h3 := g2 w (by simp)
  have h4 := g2 z (by simp)
  simp only [List.mem_singleton] at hy
  subst hy
  refine ⟨s, hs, fun x hx => ?_, fun x hx => ?_, ?_⟩
  · simp only [List.mem_cons, List.not_mem_nil, or_false] at hx
    rcases hx with rfl | rfl | rfl
    · rw [Int.mul_neg]; exact h2
    · rw [Int.mul_neg]; exact h3
    · rw [Int.mul_neg]; exact h4
  · simp only [List.mem_singleton] at hx
    subst hx
    rw [Int.mul_neg]
    omega
  · by_cases hv : v = 0
    · by_cases hw : w = 0
      · exact ⟨-z, by simp, by omega⟩
      · exact ⟨-w, by simp, by omega⟩
    · exact ⟨-v, by simp, by omega⟩
theorem ar12 (a b c : P2) : ar b a c = - ar a b c := by unfold ar; grind
theorem ar23 (a b c : P2) : ar a c b = - ar a b c := by unfold ar; grind
theorem ar_rot (a b c : P2) : ar b c a = ar a b c := by unfold ar; grind
theorem ar_sum (z a b c : P2) : ar z b c + ar z c a + ar z a b = ar a b c := by unfold ar; grind
theorem sort2 {m : Nat} {R : Fin m → Fin m → Prop} (s : ∀ a b, R a b → R b a) (h : ∀ a b, R a b → a ≠ b) {a b : Fin m} (r : R a b) : ∃ a' b', a' < b' ∧ R a' b' := by
  have := h a b r
  by_cases c : a < b
  · exact ⟨a, b, c, r⟩
  · exact ⟨b, a, by omega, s a b r⟩
theorem sort3 {m : Nat} {R : Fin m → Fin m → Fin m → Prop} (s1 : ∀ a b c, R a b c → R b a c) (s2 : ∀ a b c, R a b c → R a c b) (h : ∀ a b c, R a b c → a ≠ b) {a b c : Fin m} (r : R a b c) : ∃ a' b' c', a' < b' ∧ b' < c' ∧ R a' b' c' := by
  have n1 := h a b c r
  have n2 := h a c b (s2 _ _ _ r)
  have n3 := h c b a (s2 _ _ _ (s1 _ _ _ (s2 _ _ _ r)))
  rcases Nat.lt_or_ge a.val b.val with x | x <;> rcases Nat.lt_or_ge b.val c.val with y | y <;> rcases Nat.lt_or_ge a.val c.val with z | z
  · exact ⟨a, b, c, x, y, r⟩
  · exact ⟨a, b, c, x, y, r⟩
  · exact ⟨a, c, b, z, by omega, s2 _ _ _ r⟩
  · exact ⟨c, a, b, by omega, x, s1 _ _ _ (s2 _ _ _ r)⟩
  · exact ⟨b, a, c, by omega, z, s1 _ _ _ r⟩
  · exact ⟨b, c, a, y, by omega, s2 _ _ _ (s1 _ _ _ r)⟩
  · exact ⟨c, b, a, by omega, by omega, s2 _ _ _ (s1 _ _ _ (s2 _ _ _ r))⟩
  · exact ⟨c, b, a, by omega, by omega, s2 _ _ _ (s1 _ _ _ (s2 _ _ _ r))⟩
/-! ### the shapes -/
def T12 (a b c : P2) : Prop := ar a b c = 0 ∧ (b.x ≠ c.x → Part.Good [b.x - c.x] [c.x - a.x, a.x - b.x]) ∧ (b.y ≠ c.y → Part.Good [b.y - c.y] [c.y - a.y, a.y - b.y]) ∧ (b.x = c.x → a.x = b.x) ∧ ¬ (b.x = c.x ∧ b.y = c.y)
theorem mem2 {x a b : Int} : x ∈ [a, b] ↔ x = a ∨ x = b := by simp
theorem mem3 {x a b c : Int} : x ∈ [a, b, c] ↔ x = a ∨ x = b ∨ x = c := by simp
theorem mem1 {x a : Int} : x ∈ [a] ↔ x = a := by simp
theorem T12.swap {a b c : P2} (h : T12 a b c) : T12 a c b := by
  obtain ⟨h1, h2, h3, h4, h5⟩ := h
  refine ⟨by rw [ar23, h1]; rfl, fun z => good_neg (h2 (Ne.symm z)) ?_ ?_ ?_, fun z => good_neg (h3 (Ne.symm z)) ?_ ?_ ?_, fun z => by rw [h4 z.symm, z], fun z => h5 ⟨z.1.symm, z.2.symm⟩⟩ <;> (intro x hx; simp only [mem1, mem2] at hx ⊢; omega)
def T13 (a b c d : P2) : Prop := ar b c d ≠ 0 ∧ Part.Good [ar b c d] [0 - ar a c d, ar a b d, 0 - ar a b c]
theorem T13.s1 {a b c d : P2} (h : T13 a b c d) : T13 a c b d := by
  obtain ⟨h1, h2⟩ := h
  have e1 := ar12 b c d
  have e2 := ar23 a b c
  refine ⟨by omega, good_neg h2 ?_ ?_ ?_⟩ <;> (intro x hx; simp only [mem1, mem3] at hx ⊢; omega)
theorem T13.s2 {a b c d : P2} (h : T13 a b c d) : T13 a b d c := by
  obtain ⟨h1, h2⟩ := h
  have e1 := ar23 b c d
  have e2 := ar23 a c d
  refine ⟨by omega, good_neg h2 ?_ ?_ ?_⟩ <;> (intro x hx; simp only [mem1, mem3] at hx ⊢; omega)
def T22 (a b c d : P2) : Prop := Part.Good [ar b c d, 0 - ar a c d] [ar a b d, 0 - ar a b c]
theorem T22.s1 {a b c d : P2} (h : T22 a b c d) : T22 b a c d := by
  have e1 := ar12 a b d
  have e2 := ar12 a b c
  refine good_neg h ?_ ?_ ?_ <;> (intro x hx; simp only [mem2] at hx ⊢; omega)
theorem T22.s2 {a b c d : P2} (h : T22 a b c d) : T22 a b d c := by
  have e1 := ar23 b c d
  have e2 := ar23 a c d
  refine good_neg h ?_ ?_ ?_ <;> (intro x hx; simp only [mem2] at hx ⊢; omega)
end
end K56

set_option Elab.async false
set_option linter.all false
set_option maxRecDepth 100000
namespace K56
open PySem Rx Rx.S
section
variable {P Q : List P2}
theorem meet11 {i : Fin P.length} {j : Fin Q.length} (h : pt P[i] = pt Q[j]) : meet [i] [j] ≠ none := by
  have hx : P[i].x = Q[j].x := congrArg Prod.fst h
  have hy : P[i].y = Q[j].y := congrArg Prod.snd h
  have hb : bal (pick P [i] ++ pick Q [j]) = some [⟨1, bdm bd_iof⟩, ⟨-1, bdm bd_ineg⟩] := by
    show bal [P[i], Q[j]] = _
    simp only [bal]
    rw [if_pos ⟨hx, hy⟩]
  exact meet_good hb (mine := [1]) (theirs := [-1]) rfl rfl ⟨1, .inl rfl, by simp, by simp, 1, by simp, by decide⟩
theorem meet12 {i : Fin P.length} {j k : Fin Q.length} (h : T12 P[i] Q[j] Q[k]) : meet [i] [j, k] ≠ none := by
  obtain ⟨h1, h2, h3, h4, h5⟩ := h
  by_cases hx : P[i].x = Q[j].x ∧ Q[j].x = Q[k].x
  · refine meet_good (l := [⟨Q[j].y - Q[k].y, bdm bd_isub⟩, ⟨Q[k].y - P[i].y, bdm bd_isub⟩, ⟨P[i].y - Q[j].y, bdm bd_isub⟩]) ?_ rfl rfl (h3 fun z => h5 ⟨hx.2, z⟩)
    show bal [P[i], Q[j], Q[k]] = _
    simp only [bal]
    rw [if_pos h1, if_pos hx]
  · refine meet_good (l := [⟨Q[j].x - Q[k].x, bdm bd_isub⟩, ⟨Q[k].x - P[i].x, bdm bd_isub⟩, ⟨P[i].x - Q[j].x, bdm bd_isub⟩]) ?_ rfl rfl (h2 fun z => hx ⟨h4 z, z⟩)
    show bal [P[i], Q[j], Q[k]] = _
    simp only [bal]
    rw [if_pos h1, if_neg hx]
theorem meet21 {i k : Fin P.length} {j : Fin Q.length} (h : T12 Q[j] P[i] P[k]) : meet [i, k] [j] ≠ none := by
  obtain ⟨h1, h2, h3, h4, h5⟩ := h
  have h1' : ar P[i] P[k] Q[j] = 0 := by rw [ar_rot, h1]
  by_cases hx : P[i].x = P[k].x ∧ P[k].x = Q[j].x
  · refine meet_good (l := [⟨P[k].y - Q[j].y, bdm bd_isub⟩, ⟨Q[j].y - P[i].y, bdm bd_isub⟩, ⟨P[i].y - P[k].y, bdm bd_isub⟩]) ?_ (mine := [P[k].y - Q[j].y, Q[j].y - P[i].y]) (theirs := [P[i].y - P[k].y]) rfl rfl (good_flip (by omega) (h3 fun z => h5 ⟨hx.1, z⟩))
    show bal [P[i], P[k], Q[j]] = _
    simp only [bal]
    rw [if_pos h1', if_pos hx]
  · refine meet_good (l := [⟨P[k].x - Q[j].x, bdm bd_isub⟩, ⟨Q[j].x - P[i].x, bdm bd_isub⟩, ⟨P[i].x - P[k].x, bdm bd_isub⟩]) ?_ (mine := [P[k].x - Q[j].x, Q[j].x - P[i].x]) (theirs := [P[i].x - P[k].x]) rfl rfl (good_flip (by omega) (h2 fun z => hx ⟨z, by rw [h4 z, z]⟩))
    show bal [P[i], P[k], Q[j]] = _
    simp only [bal]
    rw [if_pos h1', if_neg hx]
theorem meet13 {i : Fin P.length} {j k m : Fin Q.length} (h : T13 P[i] Q[j] Q[k] Q[m]) : meet [i] [j, k, m] ≠ none :=
  meet_good (l := [⟨ar Q[j] Q[k] Q[m], area_bd ..⟩, ⟨- ar P[i] Q[k] Q[m], @bd_ineg _ _ (area_bd ..)⟩, ⟨ar P[i] Q[j] Q[m], area_bd ..⟩, ⟨-ar P[i] Q[j] Q[k], @bd_ineg _ _ (area_bd ..)⟩]) rfl (mine := [ar Q[j] Q[k] Q[m]]) (theirs := [- ar P[i] Q[k] Q[m], ar P[i] Q[j] Q[m], -ar P[i] Q[j] Q[k]]) rfl rfl (by
    have := h.2
    rw [Int.zero_sub, Int.zero_sub] at this
    exact this)
theorem meet31 {i k m : Fin P.length} {j : Fin Q.length} (h : T13 Q[j] P[i] P[k] P[m]) : meet [i, k, m] [j] ≠ none :=
  meet_good (l := [⟨ar P[k] P[m] Q[j], area_bd ..⟩, ⟨- ar P[i] P[m] Q[j], @bd_ineg _ _ (area_bd ..)⟩, ⟨ar P[i] P[k] Q[j], area_bd ..⟩, ⟨-ar P[i] P[k] P[m], @bd_ineg _ _ (area_bd ..)⟩]) rfl (mine := [ar P[k] P[m] Q[j], - ar P[i] P[m] Q[j], ar P[i] P[k] Q[j]]) (theirs := [-ar P[i] P[k] P[m]]) rfl rfl (by
    have g := h.2
    have e := ar_sum Q[j] P[i] P[k] P[m]
    have e2 := ar23 Q[j] P[i] P[m]
    have := good_flip3 (by omega) g
    rw [ar_rot Q[j] P[k] P[m], ar_rot Q[j] P[i] P[m], ar_rot Q[j] P[i] P[k]]
    rw [Int.zero_sub, Int.zero_sub, Int.neg_neg, Int.neg_neg] at this
    exact this)
theorem meet22 {i k : Fin P.length} {j m : Fin Q.length} (h : T22 P[i] P[k] Q[j] Q[m]) : meet [i, k] [j, m] ≠ none :=
  meet_good (l := [⟨ar P[k] Q[j] Q[m], area_bd ..⟩, ⟨- ar P[i] Q[j] Q[m], @bd_ineg _ _ (area_bd ..)⟩, ⟨ar P[i] P[k] Q[m], area_bd ..⟩, ⟨-ar P[i] P[k] Q[j], @bd_ineg _ _ (area_bd ..)⟩]) rfl (mine := [ar P[k] Q[j] Q[m], - ar P[i] Q[j] Q[m]]) (theirs := [ar P[i] P[k] Q[m], -ar P[i] P[k] Q[j]]) rfl rfl (by
    have := h
    unfold T22 at this
    rw [Int.zero_sub, Int.zero_sub] at this
    exact this)
theorem foundP_of {a b : Nat} {N : List (Fin P.length)} {M : List (Fin Q.length)} (hN : N ∈ lots P.length a) (hM : M ∈ lots Q.length b) (h : meet N M ≠ none) : foundP P Q (a, b) ≠ none := by
  intro z
  unfold foundP at z
  rw [List.findSome?_eq_none_iff] at z
  have z := z N hN
  unfold foundL at z
  rw [List.findSome?_eq_none_iff] at z
  have z := z M hM
  unfold foundS at z
  cases q : meet N M with
  | none => exact h q
  | some p => rw [q] at z; cases z
theorem d12_found (h : Part.D12 (P.map pt) (Q.map pt)) : foundP P Q (1, 1) ≠ none ∨ foundP P Q (1, 2) ≠ none := by
  rcases Part.d12 h with ⟨v, hv, hw⟩ | ⟨p, hp, q1, h1, q2, h2, hne, ha, g1, g2, g3⟩
  · obtain ⟨i, rfl⟩ := mem_pt hv
    obtain ⟨j, hj⟩ := mem_pt hw
    exact .inl (foundP_of (lots1 i) (lots1 j) (meet11 hj.symm))
  · obtain ⟨i, rfl⟩ := mem_pt hp
    obtain ⟨j, rfl⟩ := mem_pt h1
    obtain ⟨k, rfl⟩ := mem_pt h2
    have t : T12 P[i] Q[j] Q[k] := ⟨ha, g1, g2, g3, fun z => hne (by unfold pt; rw [z.1, z.2])⟩
    obtain ⟨j', k', hlt, t'⟩ := sort2 (R := fun j k : Fin Q.length => T12 P[i] Q[j] Q[k]) (fun a b t => t.swap) (fun a b t e => t.2.2.2.2 (by rw [e]; exact ⟨rfl, rfl⟩)) t
    exact .inr (foundP_of (lots1 i) (lots2 hlt) (meet12 t'))
theorem d12_found' (h : Part.D12 (Q.map pt) (P.map pt)) : foundP P Q (1, 1) ≠ none ∨ foundP P Q (2, 1) ≠ none := by
  rcases Part.d12 h with ⟨v, hv, hw⟩ | ⟨p, hp, q1, h1, q2, h2, hne, ha, g1, g2, g3⟩
  · obtain ⟨i, rfl⟩ := mem_pt hv
    obtain ⟨j, hj⟩ := mem_pt hw
    exact .inl (foundP_of (lots1 j) (lots1 i) (meet11 hj))
  · obtain ⟨i, rfl⟩ := mem_pt hp
    obtain ⟨j, rfl⟩ := mem_pt h1
    obtain ⟨k, rfl⟩ := mem_pt h2
    have t : T12 Q[i] P[j] P[k] := ⟨ha, g1, g2, g3, fun z => hne (by unfold pt; rw [z.1, z.2])⟩
    obtain ⟨j', k', hlt, t'⟩ := sort2 (R := fun j k : Fin P.length => T12 Q[i] P[j] P[k]) (fun a b t => t.swap) (fun a b t e => t.2.2.2.2 (by rw [e]; exact ⟨rfl, rfl⟩)) t
    exact .inr (foundP_of (lots2 hlt) (lots1 i) (meet21 t'))
theorem ar_eq0 (a c : P2) : ar a a c = 0 := by unfold ar; grind
theorem d13_found (h : Part.D13 (P.map pt) (Q.map pt)) : six.findSome? (foundP P Q) ≠ none := by
  intro z
  rw [List.findSome?_eq_none_iff] at z
  rcases Part.d13 h with h | ⟨p, hp, q1, h1, q2, h2, q3, h3, hne, g⟩
  · rcases d12_found h with h | h
    · exact h (z _ (by simp [six]))
    · exact h (z _ (by simp [six]))
  · obtain ⟨i, rfl⟩ := mem_pt hp
    obtain ⟨j, rfl⟩ := mem_pt h1
    obtain ⟨k, rfl⟩ := mem_pt h2
    obtain ⟨m, rfl⟩ := mem_pt h3
    have t : T13 P[i] Q[j] Q[k] Q[m] := ⟨hne, g⟩
    obtain ⟨j', k', m', l1, l2, t'⟩ := sort3 (R := fun j k m : Fin Q.length => T13 P[i] Q[j] Q[k] Q[m]) (fun a b c t => t.s1) (fun a b c t => t.s2) (fun a b c t e => t.1 (by rw [e]; exact ar_eq0 _ _)) t
    exact foundP_of (lots1 i) (lots3 l1 l2) (meet13 t') (z _ (by simp [six]))
theorem d13_found' (h : Part.D13 (Q.map pt) (P.map pt)) : six.findSome? (foundP P Q) ≠ none := by
  intro z
  rw [List.findSome?_eq_none_iff] at z
  rcases Part.d13 h with h | ⟨p, hp, q1, h1, q2, h2, q3, h3, hne, g⟩
  · rcases d12_found' h with h | h
    · exact h (z _ (by simp [six]))
    · exact h (z _ (by simp [six]))
  · obtain ⟨i, rfl⟩ := mem_pt hp
    obtain ⟨j, rfl⟩ := mem_pt h1
    obtain ⟨k, rfl⟩ := mem_pt h2
    obtain ⟨m, rfl⟩ := mem_pt h3
    have t : T13 Q[i] P[j] P[k] P[m] := ⟨hne, g⟩
    obtain ⟨j', k', m', l1, l2, t'⟩ := sort3 (R := fun j k m : Fin P.length => T13 Q[i] P[j] P[k] P[m]) (fun a b c t => t.s1) (fun a b c t => t.s2) (fun a b c t e => t.1 (by rw [e]; exact ar_eq0 _ _)) t
    exact foundP_of (lots3 l1 l2) (lots1 i) (meet31 t') (z _ (by simp [six]))
theorem d22_found (h : Part.D22 (P.map pt) (Q.map pt)) : six.findSome? (foundP P Q) ≠ none := by
  intro z
  have z0 := z
  rw [List.findSome?_eq_none_iff] at z
  rcases Part.d22 h with (h | h) | ⟨p1, hp1, p2, hp2, q1, h1, q2, h2, n1, n2, g⟩
  · rcases d12_found h with h | h
    · exact h (z _ (by simp [six]))
    · exact h (z _ (by simp [six]))
  · rcases d12_found' h with h | h
    · exact h (z _ (by simp [six]))
    · exact h (z _ (by simp [six]))
  · obtain ⟨i, rfl⟩ := mem_pt hp1
    obtain ⟨k, rfl⟩ := mem_pt hp2
    obtain ⟨j, rfl⟩ := mem_pt h1
    obtain ⟨m, rfl⟩ := mem_pt h2
    have t : T22 P[i] P[k] Q[j] Q[m] ∧ i ≠ k ∧ j ≠ m := ⟨g, fun e => n1 (by rw [e]), fun e => n2 (by rw [e])⟩
    obtain ⟨i', k', l1, t1⟩ := sort2 (R := fun i k : Fin P.length => T22 P[i] P[k] Q[j] Q[m] ∧ i ≠ k ∧ j ≠ m) (fun a b t => ⟨t.1.s1, t.2.1.symm, t.2.2⟩) (fun a b t => t.2.1) t
    obtain ⟨j', m', l2, t2⟩ := sort2 (R := fun j m : Fin Q.length => T22 P[i'] P[k'] Q[j] Q[m] ∧ j ≠ m) (fun a b t => ⟨t.1.s2, t.2.symm⟩) (fun a b t => t.2) ⟨t1.1, t1.2.2⟩
    exact foundP_of (lots2 l1) (lots2 l2) (meet22 t2.1) (z _ (by simp [six]))
theorem lin_dt (a b : Int) (p : P2) : lin a b p = Part.dt (a, b) (pt p) := rfl
theorem free_row [hp : Few P] [hq : Few Q] (h : Part.Free (Part.diffs (P.map pt) (Q.map pt))) : pairs4 P Q ≠ none := by
  intro z
  have z := pairs_none z
  obtain ⟨u, hu, v, hv, huv, d, hd, hs⟩ := Part.candidate (by simpa using hp.ne) (by simpa using hq.ne) h
  rw [← List.map_append] at hu hv
  obtain ⟨a, ha, rfl⟩ := List.mem_map.mp hu
  obtain ⟨b, hb, rfl⟩ := List.mem_map.mp hv
  obtain ⟨w, hw, rfl⟩ : ∃ w ∈ tries4 a b, (w.x, w.y) = d := by
    unfold Part.tries at hd
    simp only [List.mem_cons, List.not_mem_nil, or_false] at hd
    unfold tries4
    rcases hd with rfl | rfl | rfl | rfl
    · exact ⟨_, List.mem_cons_self, rfl⟩
    · refine ⟨_, List.mem_cons_of_mem _ List.mem_cons_self, ?_⟩
      simp [Part.df, pt]
    · refine ⟨_, List.mem_cons_of_mem _ (List.mem_cons_of_mem _ List.mem_cons_self), ?_⟩
      simp [Part.df, pt]
    · refine ⟨_, List.mem_cons_of_mem _ (List.mem_cons_of_mem _ (List.mem_cons_of_mem _ List.mem_cons_self)), ?_⟩
      simp [Part.df, pt]
  exact cand_of (fun p hp q hq => hs _ (List.mem_map_of_mem hp) _ (List.mem_map_of_mem hq)) (z a ha b hb (fun e => huv (by rw [e])) w hw)
/-- what part answers -/
theorem part_some [hp : Few P] [hq : Few Q] : (∃ s, pairs4 P Q = some s) ∨ pairs4 P Q = none ∧ ∃ s, six.findSome? (foundP P Q) = some s := by
  cases q : pairs4 P Q with
  | some s => exact .inl ⟨s, rfl⟩
  | none =>
    refine .inr ⟨rfl, ?_⟩
    have nf : ¬ Part.Free (Part.diffs (P.map pt) (Q.map pt)) := fun f => free_row f q
    have : six.findSome? (foundP P Q) ≠ none := by
      rcases Part.not_free nf with h | h | h
      · exact d22_found h
      · exact d13_found h
      · exact d13_found' h
    exact Option.ne_none_iff_exists'.mp this
end
end K56

set_option Elab.async false
set_option linter.all false
set_option maxRecDepth 100000
namespace K56
open PySem Rx Rx.S
section
variable {P Q : List P2}
def wsum {α : Type} (L : List (α × BI 61)) (g : α → Int) : Int := (L.map fun q => q.2.v * g q.1).sum
theorem bal_sum : ∀ {L : List P2} {l : List (BI 61)}, bal L = some l → wsum (L.zip l) (fun _ => 1) = 0 ∧ wsum (L.zip l) PB.x = 0 ∧ wsum (L.zip l) PB.y = 0
  | [a, b], l, h => by
    by_cases h1 : a.x = b.x ∧ a.y = b.y
    · simp [bal, h1] at h
      rw [← h]
      simp [wsum, h1]
      omega
    · simp [bal, h1] at h
  | [a, b, c], l, h => by
    by_cases h1 : ar a b c = 0
    · have h1' := h1
      unfold ar at h1'
      by_cases h2 : a.x = b.x ∧ b.x = c.x
      · simp [bal, h1, h2] at h
        rw [← h]
        simp only [wsum, List.zip_cons_cons, List.zip_nil_right, List.map_cons, List.map_nil, List.sum_cons, List.sum_nil]
        refine ⟨by omega, ?_, ?_⟩ <;> (obtain ⟨e1, e2⟩ := h2; grind)
      · simp [bal, h1, h2] at h
        rw [← h]
        simp only [wsum, List.zip_cons_cons, List.zip_nil_right, List.map_cons, List.map_nil, List.sum_cons, List.sum_nil]
        refine ⟨by omega, ?_, ?_⟩ <;> grind
    · simp [bal, h1] at h
  | [a, b, c, d], l, h => by
    simp [bal] at h
    rw [← h]
    simp only [wsum, List.zip_cons_cons, List.zip_nil_right, List.map_cons, List.map_nil, List.sum_cons, List.sum_nil, ar]
    refine ⟨?_, ?_, ?_⟩ <;> grind
  | [], _, h => by simp [bal] at h
  | [a], _, h => by simp [bal] at h
  | a :: b :: c :: d :: e :: L, _, h => by simp [bal] at h
theorem wsum_append {α : Type} {L M : List (α × BI 61)} {g : α → Int} : wsum (L ++ M) g = wsum L g + wsum M g := by
  unfold wsum
  rw [List.map_append, List.sum_append]
theorem wsum_neg {α : Type} {N : List α} {l : List (BI 61)} {g : α → Int} : wsum (N.zip (l.map BI.neg)) g = - wsum (N.zip l) g := by
  unfold wsum
  rw [List.zip_map_right, List.map_map]
  induction N.zip l with
  | nil => rfl
  | cons q L ih =>
    rw [List.map_cons, List.sum_cons, ih, List.map_cons, List.sum_cons]
    show -q.2.v * g q.1 + _ = _
    rw [Int.neg_mul]
    omega
theorem wsum_filter {α : Type} {g : α → Int} : ∀ {L : List (α × BI 61)}, (∀ q ∈ L, 0 ≤ q.2.v) → wsum (L.filter fun p => decide (0 < p.2.v)) g = wsum L g
  | [], _ => rfl
  | q :: L, h => by
    have ih := wsum_filter (g := g) fun q hq => h q (List.mem_cons_of_mem _ hq)
    have h0 := h q List.mem_cons_self
    rw [List.filter_cons]
    split
    · unfold wsum at ih ⊢
      rw [List.map_cons, List.sum_cons, ih, List.map_cons, List.sum_cons]
    · rename_i c
      have c : ¬ 0 < q.2.v := by simpa using c
      rw [ih]
      unfold wsum
      rw [List.map_cons, List.sum_cons, show q.2.v = 0 by omega]
      omega
theorem wsum_pick {N : List (Fin P.length)} {l : List (BI 61)} {g : P2 → Int} : wsum ((pick P N).zip l) g = wsum (N.zip l) fun k => g P[k] := by
  unfold wsum pick
  rw [List.zip_map_left, List.map_map]
  rfl
theorem zip_parts {α : Type} {A B : List α} {l : List (BI 61)} {g : α → Int} : wsum ((A ++ B).zip l) g = wsum (A.zip (l.take A.length)) g + wsum (B.zip (l.drop A.length)) g := by
  rw [← wsum_append]
  congr 1
  have : ∀ (A : List α) (l : List (BI 61)), (A ++ B).zip l = A.zip (l.take A.length) ++ B.zip (l.drop A.length) := by
    intro A
    induction A with
    | nil => intro l; simp
    | cons a A ih =>
      intro l
      cases l with
      | nil => simp
      | cons x l => simp [ih]
  exact this A l
/-- some weighted numbers of both sides, few, with one middle -/
structure Mid (P Q : List P2) (W : List (Fin P.length × BI 61)) (V : List (Fin Q.length × BI 61)) : Prop where
  nw : W ≠ []
  nv : V ≠ []
  few : W.length + V.length ≤ 4
  pw : ∀ q ∈ W, 0 < q.2.v
  pv : ∀ q ∈ V, 0 < q.2.v
  s1 : wsum W (fun _ => 1) = wsum V (fun _ => 1)
  sx : wsum W (fun k => P[k].x) = wsum V (fun k => Q[k].x)
  sy : wsum W (fun k => P[k].y) = wsum V (fun k => Q[k].y)
theorem wsum_pos {α : Type} : ∀ {L : List (α × BI 61)}, L ≠ [] → (∀ q ∈ L, 0 < q.2.v) → 0 < wsum L fun _ => 1
  | [q], _, h => by
    have := h q List.mem_cons_self
    simpa [wsum] using this
  | q :: r :: L, _, h => by
    have h1 := h q List.mem_cons_self
    have h2 := wsum_pos (L := r :: L) (by simp) fun q hq => h q (List.mem_cons_of_mem _ hq)
    unfold wsum at h2 ⊢
    rw [List.map_cons, List.sum_cons]
    show 0 < q.2.v * 1 + _
    omega
theorem mid_of {N : List (Fin P.length)} {M : List (Fin Q.length)} {A B : List (BI 61)} (hA : A.length = N.length) (hf : N.length + M.length ≤ 4) (pA : ∀ x ∈ A, 0 ≤ x.v) (pB : ∀ x ∈ B, 0 ≤ x.v) (hne : ∃ x ∈ A, x.v ≠ 0)
    (h : ∀ g : P2 → Int, g = (fun _ => 1) ∨ g = PB.x ∨ g = PB.y → wsum (N.zip A) (fun k => g P[k]) = wsum (M.zip B) (fun k => g Q[k])) :
    Mid P Q ((N.zip A).filter fun p => decide (0 < p.2.v)) ((M.zip B).filter fun p => decide (0 < p.2.v)) := by
  have fA : ∀ q ∈ N.zip A, 0 ≤ q.2.v := fun q hq => pA _ (List.of_mem_zip hq).2
  have fB : ∀ q ∈ M.zip B, 0 ≤ q.2.v := fun q hq => pB _ (List.of_mem_zip hq).2
  have nw : (N.zip A).filter (fun p => decide (0 < p.2.v)) ≠ [] := by
    obtain ⟨x, hx, h0⟩ := hne
    have e : (N.zip A).map Prod.snd = A := List.map_snd_zip (by omega)
    rw [← e] at hx
    obtain ⟨q, hq, rfl⟩ := List.mem_map.mp hx
    intro z
    have : q ∈ (N.zip A).filter (fun p => decide (0 < p.2.v)) := List.mem_filter.mpr ⟨hq, by have := fA q hq; simp; omega⟩
    rw [z] at this
    cases this
  have pw : ∀ q ∈ (N.zip A).filter (fun p => decide (0 < p.2.v)), 0 < q.2.v := fun q hq => by simpa using (List.mem_filter.mp hq).2
  have pv : ∀ q ∈ (M.zip B).filter (fun p => decide (0 < p.2.v)), 0 < q.2.v := fun q hq => by simpa using (List.mem_filter.mp hq).2
  have s1 := h (fun _ => 1) (.inl rfl)
  rw [← wsum_filter fA, ← wsum_filter fB] at s1
  have sx := h PB.x (.inr (.inl rfl))
  rw [← wsum_filter fA, ← wsum_filter fB] at sx
  have sy := h PB.y (.inr (.inr rfl))
  rw [← wsum_filter fA, ← wsum_filter fB] at sy
  refine ⟨nw, fun z => ?_, ?_, pw, pv, s1, sx, sy⟩
  · have := wsum_pos nw pw
    rw [s1, z] at this
    cases this
  · have l1 := List.length_filter_le (fun p : Fin P.length × BI 61 => decide (0 < p.2.v)) (N.zip A)
    have l2 := List.length_filter_le (fun p : Fin Q.length × BI 61 => decide (0 < p.2.v)) (M.zip B)
    rw [List.length_zip] at l1 l2
    omega
theorem meet_mid {N : List (Fin P.length)} {M : List (Fin Q.length)} {W V} (hf : N.length + M.length ≤ 4) (h : meet N M = some (W, V)) : Mid P Q W V := by
  unfold meet at h
  cases q : bal (pick P N ++ pick Q M) with
  | none => rw [q] at h; cases h
  | some l =>
    rw [q] at h
    dsimp only at h
    have hlen : l.length = N.length + M.length := by rw [bal_len q]; simp [pick]
    obtain ⟨z1, zx, zy⟩ := bal_sum q
    have key : ∀ g : P2 → Int, g = (fun _ => 1) ∨ g = PB.x ∨ g = PB.y → wsum (N.zip (l.take N.length)) (fun k => g P[k]) + wsum (M.zip (l.drop N.length)) (fun k => g Q[k]) = 0 := by
      intro g hg
      have e : wsum ((pick P N ++ pick Q M).zip l) g = 0 := by
        rcases hg with rfl | rfl | rfl
        · exact z1
        · exact zx
        · exact zy
      rw [zip_parts, wsum_pick, wsum_pick] at e
      have hl : (pick P N).length = N.length := by simp [pick]
      rw [hl] at e
      exact e
    split at h
    · cases h
    · split at h
      · split at h
        · cases h
        · rename_i hs h1
          split at h
          · cases h
          · rename_i h2
            cases h
            refine mid_of (by rw [List.length_take]; omega) hf (fun x hx => ?_) (fun x hx => ?_) ?_ fun g hg => ?_
            · exact Int.not_lt.mp fun z => h1 (.inl ⟨x, hx, z⟩)
            · obtain ⟨y, hy, rfl⟩ := List.mem_map.mp hx
              have : ¬ 0 < y.v := fun z => h1 (.inr ⟨y, hy, z⟩)
              rw [BI.neg_v]; omega
            · obtain ⟨x, hx, h0⟩ := hs
              exact ⟨x, hx, by omega⟩
            · rw [wsum_neg]
              have := key g hg
              omega
      · split at h
        · cases h
        · rename_i hs h1
          split at h
          · cases h
          · rename_i h2
            cases h
            refine mid_of (by rw [List.length_map, List.length_take]; omega) hf (fun x hx => ?_) (fun x hx => ?_) ?_ fun g hg => ?_
            · obtain ⟨y, hy, rfl⟩ := List.mem_map.mp hx
              have : ¬ 0 < y.v := fun z => h1 (.inl ⟨y, hy, z⟩)
              rw [BI.neg_v]; omega
            · exact Int.not_lt.mp fun z => h1 (.inr ⟨x, hx, z⟩)
            · by_cases ex : ∃ x ∈ l.take N.length, x.v ≠ 0
              · obtain ⟨x, hx, h0⟩ := ex
                exact ⟨_, List.mem_map_of_mem hx, by rw [BI.neg_v]; omega⟩
              · exact (h2 fun x hx => Decidable.byContradiction fun z => ex ⟨x, hx, z⟩).elim
            · rw [wsum_neg]
              have := key g hg
              omega
/-- what part answers -/
theorem part_cases [hp : Few P] [hq : Few Q] : (∃ (w : PB 20) (c : Int), partS P Q = .own (.ins 0 [(6, .tup [.int w.x, .int w.y, .int c])]) ∧ Parts P Q w.x w.y c) ∨ ∃ W V, partS P Q = .own (mkM W V) ∧ Mid P Q W V := by
  unfold partS
  rcases part_some (P := P) (Q := Q) with ⟨s, h⟩ | ⟨h, s, h2⟩
  · rw [h]
    obtain ⟨w, hw⟩ := pairs_some h
    obtain ⟨c, rfl, hc⟩ := cand_some hw
    exact .inl ⟨w, c, rfl, hc⟩
  · rw [h]
    dsimp only
    rw [h2]
    obtain ⟨p, hp, h3⟩ := List.exists_of_findSome?_eq_some h2
    obtain ⟨N, hN, h4⟩ := List.exists_of_findSome?_eq_some h3
    obtain ⟨M, hM, h5⟩ := List.exists_of_findSome?_eq_some h4
    unfold foundS at h5
    obtain ⟨⟨W, V⟩, h6, rfl⟩ := Option.map_eq_some_iff.mp h5
    refine .inr ⟨W, V, rfl, meet_mid ?_ h6⟩
    rw [lots_len hN, lots_len hM]
    exact (by decide : ∀ p ∈ six, p.1 + p.2 ≤ 4) p hp
end
end K56

set_option Elab.async false
set_option linter.all false
set_option maxRecDepth 100000
namespace K56
open PySem Rx Rx.S
section
variable {n e f : Nat} {P Q : List P2}
@[simp] theorem app_ints {α β : Type} {f : α → Int} {g : β → Int} {L : List α} {M : List β} : L.map (fun p => Rx.D.int (f p)) ++ M.map (fun p => Rx.D.int (g p)) = (L.map f ++ M.map g).map Rx.D.int := by
  rw [List.map_append, List.map_map, List.map_map]
  rfl
def m3 (P : List P2) (W : List (Fin P.length × BI e)) : Int × Int × Int := ((W.map fun q => q.2.v).sum, (W.map fun q => q.2.v * P[q.1].x).sum, (W.map fun q => q.2.v * P[q.1].y).sum)
def mid (P : List P2) (W : List (Fin P.length × BI e)) : Rx.D := .tup [.int (m3 P W).1, .int (m3 P W).2.1, .int (m3 P W).2.2]
@[simp] theorem isnum2 {i : Int} : prog.call (n + 1) 12 [.frz (.int i)] = .ok (.frz (.bl true), [none]) := by
  rw [c12, run_eq rfl]
  simp [-getElem?_pos, -getElem?_neg, -R.ok_bind, -R.exc_bind, -R.stuck_bind, -List.map_append, -List.map_drop, -List.map_take, f12, Ty.has]
theorem mid_ok [Few P] {W : List (Fin P.length × BI e)} [Few W] (hp : ∀ q ∈ W, 0 < q.2.v) (he : e + 7 ≤ 100000000) : prog.call (n + 2) 1 [.frz (PD P), .frz (.tup (nums W)), .frz (.tup (wts W))] = .ok (.frz (mid P W), [none, none, none]) := by
  unfold nums wts mid m3
  rw [c1, run_eq rfl]
  have hw : (W.all fun v => decide (0 < v.2.v)) = true := by simpa using fun a b hb => hp (a, b) hb
  simp [-getElem?_pos, -getElem?_neg, -R.ok_bind, -R.exc_bind, -R.stuck_bind, -List.map_append, -List.map_drop, -List.map_take, f1, Ty.has, he, hw]
theorem mid_ok2 [Few P] {W : List (Fin P.length × BI e)} [Few W] (hp : ∀ q ∈ W, 0 < q.2.v) (he : e + 7 ≤ 100000000) : prog.call (n + 2) 14 [.frz (PD P), .frz (.tup (nums W)), .frz (.tup (wts W))] = .ok (.frz (mid P W), [none, none, none]) := by
  unfold nums wts mid m3
  rw [c14, run_eq rfl]
  have hw : (W.all fun v => decide (0 < v.2.v)) = true := by simpa using fun a b hb => hp (a, b) hb
  simp [-getElem?_pos, -getElem?_neg, -R.ok_bind, -R.exc_bind, -R.stuck_bind, -List.map_append, -List.map_drop, -List.map_take, f14, Ty.has, he, hw]
/-- a row that is asked -/
def rowT (a b c : Int) : Rx.D := .ins 0 [(6, .tup [.int a, .int b, .int c])]
def holds (P Q : List P2) (a b c : Int) : Bool := (P.all fun p => decide (a * p.x + b * p.y ≤ c)) && (Q.all fun q => decide (a * q.x + b * q.y > c))
theorem rowShows [hp : Few P] [hq : Few Q] {a b c : Int} [Bd 40 a] [Bd 40 b] : prog.call (n + 3) 19 [.frz (rowT a b c), .frz (PD P), .frz (PD Q)] = .ok (.frz (.bl (holds P Q a b c)), [none, none, none]) := by
  have hp1 : 1 ≤ P.length ∧ P.length ≤ 12 := ⟨List.length_pos_iff.mpr hp.ne, hp.le⟩
  have hq1 : 1 ≤ Q.length ∧ Q.length ≤ 12 := ⟨List.length_pos_iff.mpr hq.ne, hq.le⟩
  have hc := @check_ok n P Q hp1 hq1
  rw [c19, run_eq rfl]
  unfold rowT holds
  simp [-getElem?_pos, -getElem?_neg, -R.ok_bind, -R.exc_bind, -R.stuck_bind, -List.map_append, -List.map_drop, -List.map_take, f19, Ty.has, hc]
  by_cases h : ∃ x, x ∈ P ∧ c < a * x.x + b * x.y
  · have h' : (P.all fun p => decide (a * p.x + b * p.y ≤ c)) = false := by
      obtain ⟨x, hx, h0⟩ := h
      exact List.all_eq_false.mpr ⟨x, hx, by simp; omega⟩
    simp only [if_pos h, h']
    simp [-getElem?_pos, -getElem?_neg, -R.ok_bind, -R.exc_bind, -R.stuck_bind, -List.map_append, -List.map_drop, -List.map_take, ]
  · have h' : (P.all fun p => decide (a * p.x + b * p.y ≤ c)) = true := List.all_eq_true.mpr fun x hx => by
      have : ¬ c < a * x.x + b * x.y := fun z => h ⟨x, hx, z⟩
      simp; omega
    simp only [if_neg h, h']
    simp [-getElem?_pos, -getElem?_neg, -R.ok_bind, -R.exc_bind, -R.stuck_bind, -List.map_append, -List.map_drop, -List.map_take, ]
theorem rowShowsO [hp : Few P] [hq : Few Q] {a b c : Int} [Bd 40 a] [Bd 40 b] : prog.call (n + 3) 19 [.own (rowT a b c), .frz (PD P), .frz (PD Q)] = .ok (.frz (.bl (holds P Q a b c)), [some (.own (rowT a b c)), none, none]) := by
  have hp1 : 1 ≤ P.length ∧ P.length ≤ 12 := ⟨List.length_pos_iff.mpr hp.ne, hp.le⟩
  have hq1 : 1 ≤ Q.length ∧ Q.length ≤ 12 := ⟨List.length_pos_iff.mpr hq.ne, hq.le⟩
  have hc := @check_ok n P Q hp1 hq1
  rw [c19, run_eq rfl]
  unfold rowT holds
  simp [-getElem?_pos, -getElem?_neg, -R.ok_bind, -R.exc_bind, -R.stuck_bind, -List.map_append, -List.map_drop, -List.map_take, f19, Ty.has, hc]
  by_cases h : ∃ x, x ∈ P ∧ c < a * x.x + b * x.y
  · have h' : (P.all fun p => decide (a * p.x + b * p.y ≤ c)) = false := by
      obtain ⟨x, hx, h0⟩ := h
      exact List.all_eq_false.mpr ⟨x, hx, by simp; omega⟩
    simp only [if_pos h, h']
    simp [-getElem?_pos, -getElem?_neg, -R.ok_bind, -R.exc_bind, -R.stuck_bind, -List.map_append, -List.map_drop, -List.map_take, ]
  · have h' : (P.all fun p => decide (a * p.x + b * p.y ≤ c)) = true := List.all_eq_true.mpr fun x hx => by
      have : ¬ c < a * x.x + b * x.y := fun z => h ⟨x, hx, z⟩
      simp; omega
    simp only [if_neg h, h']
    simp [-getElem?_pos, -getElem?_neg, -R.ok_bind, -R.exc_bind, -R.stuck_bind, -List.map_append, -List.map_drop, -List.map_take, ]
theorem rowRight [hp : Few P] [hq : Few Q] {a b c : Int} [Bd 40 a] [Bd 40 b] : prog.call (n + 3) 15 [.frz (PD P), .frz (PD Q), .frz (rowT a b c)] = .ok (.frz (.bl (holds P Q a b c)), [none, none, none]) := by
  rw [c15, run_eq rfl]
  unfold rowT holds
  simp [-getElem?_pos, -getElem?_neg, -R.ok_bind, -R.exc_bind, -R.stuck_bind, -List.map_append, -List.map_drop, -List.map_take, f15, Ty.has]
  by_cases h : ∀ x : PB 7, x ∈ P → a * x.x + b * x.y ≤ c
  · have h' : (P.all fun p => decide (a * p.x + b * p.y ≤ c)) = true := List.all_eq_true.mpr fun x hx => by
      have := h x hx
      simp; omega
    simp only [if_pos h, h']
    simp [-getElem?_pos, -getElem?_neg, -R.ok_bind, -R.exc_bind, -R.stuck_bind, -List.map_append, -List.map_drop, -List.map_take, ]
  · have h' : (P.all fun p => decide (a * p.x + b * p.y ≤ c)) = false := by
      have : ∃ x, x ∈ P ∧ ¬ a * x.x + b * x.y ≤ c := Decidable.byContradiction fun z => h fun x hx => Decidable.byContradiction fun y => z ⟨x, hx, y⟩
      obtain ⟨x, hx, h0⟩ := this
      exact List.all_eq_false.mpr ⟨x, hx, by simp; omega⟩
    simp only [if_neg h, h']
    simp [-getElem?_pos, -getElem?_neg, -R.ok_bind, -R.exc_bind, -R.stuck_bind, -List.map_append, -List.map_drop, -List.map_take, ]
theorem nums_len {m e : Nat} {W : List (Fin m × BI e)} : (nums W).length = W.length := List.length_map ..
theorem three_eq (a b : Int × Int × Int) : (a.1 == b.1 && (a.2.1 == b.2.1 && a.2.2 == b.2.2)) = decide (a = b) := by
  obtain ⟨a1, a2, a3⟩ := a
  obtain ⟨b1, b2, b3⟩ := b
  rw [Bool.eq_iff_iff]
  simp
theorem plains_nums {m d : Nat} (W : List (Fin m × BI e)) : D.plains d (nums W) = true := plains_map fun v _ => by rw [D.plain]
theorem nums_ne {m : Nat} {W : List (Fin m × BI e)} (h : W ≠ []) : D.eqvs (nums W) [] = false := by
  cases W with
  | nil => exact (h rfl).elim
  | cons w W => rfl
theorem meetShows [hp : Few P] [hq : Few Q] {W : List (Fin P.length × BI e)} {V : List (Fin Q.length × BI f)} (he : e + 7 ≤ 100000000) (hf : f + 7 ≤ 100000000) (nw : W ≠ []) (nv : V ≠ []) (hl : W.length + V.length ≤ 4) (pw : ∀ q ∈ W, 0 < q.2.v) (pv : ∀ q ∈ V, 0 < q.2.v) :
    prog.call (n + 3) 23 [.frz (mkM W V), .frz (PD P), .frz (PD Q)] = .ok (.frz (.bl (decide (m3 P W = m3 Q V))), [none, none, none]) := by
  have lw := List.length_pos_iff.mpr nw
  have lv := List.length_pos_iff.mpr nv
  haveI : Few W := ⟨by omega, nw⟩
  haveI : Few V := ⟨by omega, nv⟩
  have hp1 : 1 ≤ P.length ∧ P.length ≤ 12 := ⟨List.length_pos_iff.mpr hp.ne, hp.le⟩
  have hq1 : 1 ≤ Q.length ∧ Q.length ≤ 12 := ⟨List.length_pos_iff.mpr hq.ne, hq.le⟩
  have hc := @check_ok n P Q hp1 hq1
  have m1 := @mid_ok n e P _ W _ pw he
  have m2 := @mid_ok n f Q _ V _ pv hf
  have g1 : ¬ (4 : Int) < W.length + V.length := by omega
  have g2 : ¬ (W.length : Int) = 0 := by omega
  have g3 : ¬ (V.length : Int) = 0 := by omega
  rw [c23, run_eq rfl]
  unfold mkM
  unfold mid at m1 m2
  simp [-getElem?_pos, -getElem?_neg, -R.ok_bind, -R.exc_bind, -R.stuck_bind, -List.map_append, -List.map_drop, -List.map_take, f23, Ty.has, List.lookup, hc, m1, m2, nums_len, g1, g2, g3, nw, nv]
  exact three_eq _ _
theorem meetShowsO [hp : Few P] [hq : Few Q] {W : List (Fin P.length × BI e)} {V : List (Fin Q.length × BI f)} (he : e + 7 ≤ 100000000) (hf : f + 7 ≤ 100000000) (nw : W ≠ []) (nv : V ≠ []) (hl : W.length + V.length ≤ 4) (pw : ∀ q ∈ W, 0 < q.2.v) (pv : ∀ q ∈ V, 0 < q.2.v) :
    prog.call (n + 3) 23 [.own (mkM W V), .frz (PD P), .frz (PD Q)] = .ok (.frz (.bl (decide (m3 P W = m3 Q V))), [some (.own (mkM W V)), none, none]) := by
  have lw := List.length_pos_iff.mpr nw
  have lv := List.length_pos_iff.mpr nv
  haveI : Few W := ⟨by omega, nw⟩
  haveI : Few V := ⟨by omega, nv⟩
  have hp1 : 1 ≤ P.length ∧ P.length ≤ 12 := ⟨List.length_pos_iff.mpr hp.ne, hp.le⟩
  have hq1 : 1 ≤ Q.length ∧ Q.length ≤ 12 := ⟨List.length_pos_iff.mpr hq.ne, hq.le⟩
  have hc := @check_ok n P Q hp1 hq1
  have m1 := @mid_ok n e P _ W _ pw he
  have m2 := @mid_ok n f Q _ V _ pv hf
  have g1 : ¬ (4 : Int) < W.length + V.length := by omega
  have g2 : ¬ (W.length : Int) = 0 := by omega
  have g3 : ¬ (V.length : Int) = 0 := by omega
  rw [c23, run_eq rfl]
  unfold mkM
  unfold mid at m1 m2
  simp [-getElem?_pos, -getElem?_neg, -R.ok_bind, -R.exc_bind, -R.stuck_bind, -List.map_append, -List.map_drop, -List.map_take, f23, Ty.has, List.lookup, hc, m1, m2, nums_len, g1, g2, g3, nw, nv]
  exact three_eq _ _
theorem meetRight [hp : Few P] [hq : Few Q] {W : List (Fin P.length × BI e)} {V : List (Fin Q.length × BI f)} (he : e + 7 ≤ 100000000) (hf : f + 7 ≤ 100000000) (nw : W ≠ []) (nv : V ≠ []) (hl : W.length + V.length ≤ 4) (pw : ∀ q ∈ W, 0 < q.2.v) (pv : ∀ q ∈ V, 0 < q.2.v) :
    prog.call (n + 3) 15 [.frz (PD P), .frz (PD Q), .frz (mkM W V)] = .ok (.frz (.bl (decide (m3 P W = m3 Q V))), [none, none, none]) := by
  have lw := List.length_pos_iff.mpr nw
  have lv := List.length_pos_iff.mpr nv
  haveI : Few W := ⟨by omega, nw⟩
  haveI : Few V := ⟨by omega, nv⟩
  have m1 := @mid_ok2 n e P _ W _ pw he
  have m2 := @mid_ok2 n f Q _ V _ pv hf
  have g1 : ¬ (4 : Int) < W.length + V.length := by omega
  rw [c15, run_eq rfl]
  unfold mkM
  unfold mid at m1 m2
  have p1 := @plains_nums _ _ 59 W
  have p2 := @plains_nums _ _ 59 V
  have e1 := nums_ne nw
  have e2 := nums_ne nv
  simp [-getElem?_pos, -getElem?_neg, -R.ok_bind, -R.exc_bind, -R.stuck_bind, -List.map_append, -List.map_drop, -List.map_take, f15, Ty.has, List.lookup, m1, m2, nums_len, g1, nw, nv, p1, p2, e1, e2]
  exact three_eq _ _
theorem rowTrue {d : Rx.D} : prog.call (n + 1) 17 [.frz d] = .ok (.frz (.bl true), [none]) := by
  rw [c17, run_eq rfl]
  simp [-getElem?_pos, -getElem?_neg, -R.ok_bind, -R.exc_bind, -R.stuck_bind, -List.map_append, -List.map_drop, -List.map_take, f17]
theorem meetFalse {d : Rx.D} : prog.call (n + 1) 21 [.frz d] = .ok (.frz (.bl false), [none]) := by
  rw [c21, run_eq rfl]
  simp [-getElem?_pos, -getElem?_neg, -R.ok_bind, -R.exc_bind, -R.stuck_bind, -List.map_append, -List.map_drop, -List.map_take, f21]
theorem rowEq {a b c a' b' c' : Int} : prog.call (n + 1) 18 [.frz (rowT a b c), .frz (rowT a' b' c')] = .ok (.frz (.bl (a == a' && (b == b' && c == c'))), [none, none]) := by
  rw [c18, run_eq rfl]
  unfold rowT
  simp [-getElem?_pos, -getElem?_neg, -R.ok_bind, -R.exc_bind, -R.stuck_bind, -List.map_append, -List.map_drop, -List.map_take, f18, Ty.has, List.lookup]
end
end K56

set_option Elab.async false
set_option linter.all false
set_option maxRecDepth 100000
namespace K56
open PySem Rx Rx.S
/-- how far the draws went -/
class Ki (e : outParam Nat) (k : Int) : Prop where
  le : 0 ≤ k ∧ k ≤ e
instance ki_add {e : Nat} {k : Int} [h : Ki e k] : Ki (e + 1) (k + 1) := ⟨by have := h.le; omega⟩
class Ww (ns : List Int) : Prop where
  bits : BitsOk ns
theorem Ww.dw {ns : List Int} (w : Ww ns) : Dw prog 9 10 ns := ⟨rfl, rfl, w.bits⟩
def tk (ns : List Int) (k m : Int) : Int := numF ns (k + 1) % m
theorem tk_nn {ns : List Int} {k m : Int} (h : 0 < m) : 0 ≤ tk ns k m := Int.emod_nonneg _ (by omega)
theorem tk_lt {ns : List Int} {k m : Int} (h : 0 < m) : tk ns k m < m := Int.emod_lt_of_pos _ h
section
variable {n e : Nat} {ns : List Int} {k : Int}
@[simp] theorem take_s [w : Ww ns] [hk : Ki e k] {m : Int} (he : e ≤ 1000000) (hm : 0 < m) : prog.call (n + 2) 10 [.own (Dr ns k), .frz (.int m)] = .ok (.frz (.int (tk ns k m)), [some (.own (Dr ns (k + 1))), none]) :=
  take_eq w.dw ⟨hk.le.1, by have := hk.le.2; omega⟩ hm
/-- points no farther than 60 -/
def Near (L : List P2) : Prop := ∀ p ∈ L, (-60 ≤ p.x ∧ p.x ≤ 60) ∧ -60 ≤ p.y ∧ p.y ≤ 60
theorem near_mul {x a : Int} (hx : -30 ≤ x ∧ x ≤ 30) (ha : -2 ≤ a ∧ a ≤ 2) : -60 ≤ x * a ∧ x * a ≤ 60 := by
  have : a = -2 ∨ a = -1 ∨ a = 0 ∨ a = 1 ∨ a = 2 := by omega
  rcases this with rfl | rfl | rfl | rfl | rfl <;> omega
theorem bd7 {x : Int} (h : -127 ≤ x ∧ x ≤ 127) : Bd 7 x := ⟨by omega⟩
theorem near1 {p : P2} (h : (-60 ≤ p.x ∧ p.x ≤ 60) ∧ -60 ≤ p.y ∧ p.y ≤ 60) : Near [p] := fun q hq => by rw [List.mem_singleton.mp hq]; exact h
theorem pts_turn [w : Ww ns] [hk : Ki e k] (he : e ≤ 900000) {lk : Nat → Bool} (h6 : lk 6 = false) (h7 : lk 7 = false) (h8 : lk 8 = false) (h9 : lk 9 = false) {m wd c a b v : Int} (hw : 2 ≤ wd ∧ wd ≤ 60) (ha : -2 ≤ a ∧ a ≤ 2) (hb : -2 ≤ b ∧ b ≤ 2) {L : List P2} [Sz L] {o7 o8 o9 : Option Sl} :
    ∃ p : P2, Near [p] ∧ forT (prog.g (prog.call (n + 2))) lk (.var 7) f13_L0 (.int v) [some (.own (Dr ns k)), some (.frz (.int m)), some (.frz (.int wd)), some (.frz (.int c)), some (.frz (.int a)), some (.frz (.int b)), some (.own (PD L)), o7, o8, o9] = .ok (.nx, [some (.own (Dr ns (k + 1 + 1))), some (.frz (.int m)), some (.frz (.int wd)), some (.frz (.int c)), some (.frz (.int a)), some (.frz (.int b)), some (.own (PD (L ++ [p]))), some (.frz (.int v)), some (.frz (.int (tk ns k wd - wd / 2))), some (.frz (.int (tk ns (k + 1) wd - wd / 2)))]) := by
  have hm : 0 < wd := by omega
  have d2 : divOk 2 = true := by decide
  have t1 := tk_nn (ns := ns) (k := k) hm
  have t2 := tk_lt (ns := ns) (k := k) hm
  have t3 := tk_nn (ns := ns) (k := k + 1) hm
  have t4 := tk_lt (ns := ns) (k := k + 1) hm
  simp [-getElem?_pos, -getElem?_neg, -R.ok_bind, -R.exc_bind, -R.stuck_bind, -List.map_append, -List.map_drop, -List.map_take, f13_L0, h6, h7, h8, h9, hm, (by omega : e ≤ 1000000), (by omega : e + 1 ≤ 1000000), d2, fdiv_pos]
  have hx : -30 ≤ tk ns k wd - wd / 2 ∧ tk ns k wd - wd / 2 ≤ 30 := by omega
  have hy : -30 ≤ tk ns (k + 1) wd - wd / 2 ∧ tk ns (k + 1) wd - wd / 2 ≤ 30 := by omega
  generalize tk ns k wd - wd / 2 = x at hx ⊢
  generalize tk ns (k + 1) wd - wd / 2 = y at hy ⊢
  have hl : L.length < sizeLine := lt_line (inferInstance : Sz L).le
  have ea : ∀ p : P2, PD (L ++ [p]) = .lst (L.map PB.T ++ [p.T]) := fun p => by rw [PD, List.map_append]; rfl
  by_cases h : c = 0
  · have mx := near_mul hx ha
    have my := near_mul hx hb
    have b1 : Bd 7 x := bd7 (by omega)
    have b2 : Bd 7 a := bd7 (by omega)
    have b3 : Bd 7 b := bd7 (by omega)
    refine ⟨⟨x * a, x * b, bd7 (by omega), bd7 (by omega)⟩, near1 ⟨mx, my⟩, ?_⟩
    rw [ea]
    simp [-getElem?_pos, -getElem?_neg, -R.ok_bind, -R.exc_bind, -R.stuck_bind, -List.map_append, -List.map_drop, -List.map_take, h, hl, h6]
  · refine ⟨⟨x, y, bd7 (by omega), bd7 (by omega)⟩, near1 ⟨by show -60 ≤ x ∧ x ≤ 60; omega, by show -60 ≤ y ∧ y ≤ 60; omega⟩, ?_⟩
    rw [ea]
    simp [-getElem?_pos, -getElem?_neg, -R.ok_bind, -R.exc_bind, -R.stuck_bind, -List.map_append, -List.map_drop, -List.map_take, h, hl, h6]
theorem pts_loop [w : Ww ns] {lk : Nat → Bool} (h6 : lk 6 = false) (h7 : lk 7 = false) (h8 : lk 8 = false) (h9 : lk 9 = false) {m wd c a b : Int} (hw : 2 ≤ wd ∧ wd ≤ 60) (ha : -2 ≤ a ∧ a ≤ 2) (hb : -2 ≤ b ∧ b ≤ 2) :
    ∀ {V : List Int} {L : List P2} {e : Nat} {k : Int} {o7 o8 o9 : Option Sl} [hk : Ki e k], e + 2 * V.length ≤ 900000 → L.length + V.length ≤ 1000 → Near L → ∃ (L' : List P2) (k' : Int), Near L' ∧ L'.length = L.length + V.length ∧ Ki (e + 2 * V.length) k' ∧
      Ends (loopL (forT (prog.g (prog.call (n + 2))) lk (.var 7) f13_L0) (V.map .int) [some (.own (Dr ns k)), some (.frz (.int m)), some (.frz (.int wd)), some (.frz (.int c)), some (.frz (.int a)), some (.frz (.int b)), some (.own (PD L)), o7, o8, o9]) .nx
        [some (.own (Dr ns k')), some (.frz (.int m)), some (.frz (.int wd)), some (.frz (.int c)), some (.frz (.int a)), some (.frz (.int b)), some (.own (PD L')), none, none, none]
  | [], L, e, k, o7, o8, o9, hk, _, _, hn => ⟨L, k, hn, rfl, hk, _, rfl, by simp⟩
  | v :: V, L, e, k, o7, o8, o9, hk, he, hl, hn => by
    rw [List.length_cons] at he hl
    haveI : Sz L := ⟨by omega⟩
    obtain ⟨p, hp, e1⟩ := pts_turn (n := n) (ns := ns) (k := k) (c := c) (v := v) (m := m) (L := L) (o7 := o7) (o8 := o8) (o9 := o9) (by omega) h6 h7 h8 h9 hw ha hb
    obtain ⟨L', k', h1, h2, h3, h4⟩ := pts_loop h6 h7 h8 h9 hw ha hb (V := V) (L := L ++ [p]) (e := e + 1 + 1) (k := k + 1 + 1) (by omega) (by simp; omega) (fun q hq => by
      rcases List.mem_append.mp hq with hq | hq
      · exact hn q hq
      · exact hp q hq) (o7 := some (.frz (.int v))) (o8 := some (.frz (.int (tk ns k wd - wd / 2)))) (o9 := some (.frz (.int (tk ns (k + 1) wd - wd / 2))))
    refine ⟨L', k', h1, by rw [h2]; simp; omega, ⟨by have := h3.le; rw [List.length_cons]; omega⟩, ?_⟩
    rw [List.map_cons, loopL_nx e1]
    exact h4
theorem pts_eq [w : Ww ns] [hk : Ki e k] (he : e ≤ 800000) {m wd : Int} (hm : 1 ≤ m ∧ m ≤ 6) (hw : 2 ≤ wd ∧ wd ≤ 60) : ∃ (L : List P2) (k' : Int), Near L ∧ Few L ∧ Ki (e + 15) k' ∧
    prog.call (n + 3) 13 [.own (Dr ns k), .frz (.int m), .frz (.int wd)] = .ok (.own (PD L), [some (.own (Dr ns k')), none, none]) := by
  have hl : lims m = true := lims_small (by omega) (by omega)
  have t1 := tk_nn (ns := ns) (k := k + 1) (m := 5) (by decide)
  have t2 := tk_lt (ns := ns) (k := k + 1) (m := 5) (by decide)
  have t3 := tk_nn (ns := ns) (k := k + 1 + 1) (m := 5) (by decide)
  have t4 := tk_lt (ns := ns) (k := k + 1 + 1) (m := 5) (by decide)
  have hlen := irng_len (lo := 0) (hi := m)
  obtain ⟨L, k', h1, h2, h3, h4⟩ := pts_loop (n := n) (ns := ns) (lk := lkOf [.own (Dr ns k), .frz (.int m), .frz (.int wd)]) rfl rfl rfl rfl (m := m) (wd := wd) (c := tk ns k 4) (a := tk ns (k + 1) 5 - 2) (b := tk ns (k + 1 + 1) 5 - 2) hw (by omega) (by omega) (V := irng 0 m) (L := []) (e := e + 1 + 1 + 1) (k := k + 1 + 1 + 1) (by omega) (by simp; omega) (fun _ h => by cases h) (o7 := none) (o8 := none) (o9 := none)
  have hL : L.length = m.toNat := by rw [h2, hlen]; simp
  refine ⟨L, k', h1, ⟨by omega, fun z => by rw [z] at hL; simp at hL; omega⟩, ⟨by have := h3.le; omega⟩, ?_⟩
  rw [c13]
  refine run_ends rfl (w := [some (.own (Dr ns k')), none, none, none, none, none, none, none, none, none]) ?_ rfl
  simp [-getElem?_pos, -getElem?_neg, -R.ok_bind, -R.exc_bind, -R.stuck_bind, -List.map_append, -List.map_drop, -List.map_take, f13, (by omega : e ≤ 1000000), (by omega : e + 1 ≤ 1000000), (by omega : e + 1 + 1 ≤ 1000000), hl, rngL_eq]
  refine h4.bnd ?_
  simp [-getElem?_pos, -getElem?_neg, -R.ok_bind, -R.exc_bind, -R.stuck_bind, -List.map_append, -List.map_drop, -List.map_take, ]
end
end K56

set_option Elab.async false
set_option linter.all false
set_option maxRecDepth 100000
namespace K56
open PySem Rx Rx.S
section
variable {n e : Nat} {ns : List Int} {k : Int}
theorem pick_s {fP : Nat} [w : Ww ns] [hk : Ki e k] (he : e ≤ 1000000) {xs : List Rx.D} (hx : xs ≠ []) : ∃ d ∈ xs, prog.call (n + 3) 11 [.own (Dr ns k), .frz (.lst xs)] = .ok (.frz d, [some (.own (Dr ns (k + 1))), none]) :=
  pick_ok w.dw rfl ⟨hk.le.1, by have := hk.le.2; omega⟩ n hx
def shift (r d : Int) (p : P2) : P2 := if h : ((-127 ≤ p.x + r ∧ p.x + r ≤ 127) ∧ -127 ≤ p.y + d ∧ p.y + d ≤ 127) then ⟨p.x + r, p.y + d, bd7 h.1, bd7 h.2⟩ else p
theorem shift_map {r d : Int} {L : List P2} (hL : Near L) (hr : 0 ≤ r ∧ r ≤ 60) (hd : 0 ≤ d ∧ d ≤ 60) : L.map (fun v => Rx.D.tup [.int (v.x + r), .int (v.y + d)]) = (L.map (shift r d)).map PB.T := by
  rw [List.map_map]
  refine List.map_congr_left fun p hp => ?_
  obtain ⟨h1, h2⟩ := hL p hp
  show _ = (shift r d p).T
  unfold shift
  rw [dif_pos ⟨by omega, by omega⟩]
  rfl
abbrev lk1 (ns : List Int) : Nat → Bool := lkOf [.frz (.scr ns)]
def E3 (ns : List Int) (k : Int) (P : List P2) (s5 : Sl) : Rx.Env := [some (.frz (.scr ns)), some (.own (Dr ns k)), none, none, some (.frz (PD P)), some s5, none, none, none, none, none, none, none, none, none, none, none, none, none]
def E0 (ns : List Int) (k : Int) : Rx.Env := [some (.frz (.scr ns)), some (.own (Dr ns k)), none, none, none, none, none, none, none, none, none, none, none, none, none, none, none, none, none]
theorem stage1 [w : Ww ns] [hk : Ki e k] (he : e ≤ 1000) {v : Int} {W : Int → List P2 → Rx.Env}
    (H : ∀ (P Q : List P2) (k' : Int) (s5 : Sl), Few P → Few Q → Ki (e + 50) k' → (s5 = .frz (PD Q) ∨ s5 = .own (PD Q)) → ∃ k'', Ki (e + 60) k'' ∧ Ends (Sms.ev (prog.g (prog.call (n + 5))) (lk1 ns) f24_L2_R3 (E3 ns k' P s5)) .nx (W k'' P)) :
    ∃ k'' P, Few P ∧ Ki (e + 60) k'' ∧ Ends (forT (prog.g (prog.call (n + 5))) (lk1 ns) (.var 2) f24_L2 (.int v) (E0 ns k)) .nx (W k'' P) := by
  obtain ⟨d, hd, e1⟩ := pick_s (n := n + 2) (ns := ns) (k := k) (fP := 11) (by omega) (xs := [.int 2, .int 4, .int 10, .int 60]) (by simp)
  obtain ⟨wd, rfl, hw⟩ : ∃ wd : Int, d = .int wd ∧ 2 ≤ wd ∧ wd ≤ 60 := by
    simp only [List.mem_cons, List.not_mem_nil, or_false] at hd
    rcases hd with rfl | rfl | rfl | rfl
    · exact ⟨_, rfl, by decide⟩
    · exact ⟨_, rfl, by decide⟩
    · exact ⟨_, rfl, by decide⟩
    · exact ⟨_, rfl, by decide⟩
  have a1 := tk_nn (ns := ns) (k := k + 1) (m := 6) (by decide)
  have a2 := tk_lt (ns := ns) (k := k + 1) (m := 6) (by decide)
  obtain ⟨P, k1, nP, fP, hk1, e2⟩ := pts_eq (n := n + 2) (ns := ns) (k := k + 1 + 1) (by omega) (m := 1 + tk ns (k + 1) 6) (wd := wd) (by omega) hw
  have b1 := tk_nn (ns := ns) (k := k1) (m := 6) (by decide)
  have b2 := tk_lt (ns := ns) (k := k1) (m := 6) (by decide)
  obtain ⟨Q, k2, nQ, fQ, hk2, e3⟩ := pts_eq (n := n + 2) (ns := ns) (k := k1 + 1) (by omega) (m := 1 + tk ns k1 6) (wd := wd) (by omega) hw
  have hwp : 0 < wd := by omega
  by_cases h2 : tk ns k2 2 = 0
  · have c1 := tk_nn (ns := ns) (k := k2 + 1) (m := wd) hwp
    have c2 := tk_lt (ns := ns) (k := k2 + 1) (m := wd) hwp
    have c3 := tk_nn (ns := ns) (k := k2 + 1 + 1) (m := wd) hwp
    have c4 := tk_lt (ns := ns) (k := k2 + 1 + 1) (m := wd) hwp
    obtain ⟨k'', h1, h3⟩ := H P (Q.map (shift (tk ns (k2 + 1) wd) (tk ns (k2 + 1 + 1) wd))) (k2 + 1 + 1 + 1) _ fP inferInstance ⟨by have := hk2.le; omega⟩ (.inr rfl)
    refine ⟨k'', P, fP, h1, ?_⟩
    have hm := shift_map nQ (r := tk ns (k2 + 1) wd) (d := tk ns (k2 + 1 + 1) wd) (by omega) (by omega)
    unfold E0
    simp [-getElem?_pos, -getElem?_neg, -R.ok_bind, -R.exc_bind, -R.stuck_bind, -List.map_append, -List.map_drop, -List.map_take, f24_L2, e1, e2, e3, h2, hwp, (by omega : e ≤ 999999), (by omega : e ≤ 999983), (by omega : e ≤ 999967), (by omega : e ≤ 999966), (by omega : e ≤ 999965)]
    rw [hm]
    exact h3.run (by simp [E3])
  · obtain ⟨k'', h1, h3⟩ := H P Q (k2 + 1) _ fP inferInstance ⟨by have := hk2.le; omega⟩ (.inl rfl)
    refine ⟨k'', P, fP, h1, ?_⟩
    unfold E0
    simp [-getElem?_pos, -getElem?_neg, -R.ok_bind, -R.exc_bind, -R.stuck_bind, -List.map_append, -List.map_drop, -List.map_take, f24_L2, e1, e2, e3, h2, hwp, (by omega : e ≤ 999999), (by omega : e ≤ 999983), (by omega : e ≤ 999967), (by omega : e ≤ 999966), (by omega : e ≤ 999965)]
    exact h3.run (by simp [E3])
end
end K56

set_option Elab.async false
set_option linter.all false
set_option maxRecDepth 100000
namespace K56
open PySem Rx Rx.S
section
variable {n e : Nat} {ns : List Int} {k : Int} {P Q : List P2}
theorem holds_of {a b c : Int} (h : Parts P Q a b c) : holds P Q a b c = true := by
  unfold holds
  rw [Bool.and_eq_true]
  exact ⟨List.all_eq_true.mpr fun p hp => by have := h.1 p hp; unfold lin at this; simpa using this, List.all_eq_true.mpr fun q hq => by have := h.2 q hq; unfold lin at this; simpa using this⟩
theorem wsum_lin {m e : Nat} {L : List (Fin m × BI 61)} {g h : Fin m → Int} {a b : Int} : wsum L (fun k => a * g k + b * h k) = a * wsum L g + b * wsum L h := by
  unfold wsum
  induction L with
  | nil => simp
  | cons q L ih =>
    simp only [List.map_cons, List.sum_cons, ih]
    grind
theorem wsum_le {α : Type} {g : α → Int} {c : Int} : ∀ {L : List (α × BI 61)}, (∀ q ∈ L, 0 < q.2.v) → (∀ q ∈ L, g q.1 ≤ c) → wsum L g ≤ c * wsum L fun _ => 1
  | [], _, _ => by simp [wsum]
  | q :: L, h, hc => by
    have ih := wsum_le (g := g) (c := c) (fun q hq => h q (List.mem_cons_of_mem _ hq)) fun q hq => hc q (List.mem_cons_of_mem _ hq)
    have h1 := h q List.mem_cons_self
    have h2 := hc q List.mem_cons_self
    have h3 : q.2.v * g q.1 ≤ q.2.v * c := Int.mul_le_mul_of_nonneg_left h2 (Int.le_of_lt h1)
    unfold wsum at ih ⊢
    simp only [List.map_cons, List.sum_cons, Int.mul_one] at ih ⊢
    rw [Int.mul_add, Int.mul_comm c q.2.v]
    omega
theorem wsum_gt {α : Type} {g : α → Int} {c : Int} : ∀ {L : List (α × BI 61)}, L ≠ [] → (∀ q ∈ L, 0 < q.2.v) → (∀ q ∈ L, c < g q.1) → c * wsum L (fun _ => 1) < wsum L g
  | [q], _, h, hc => by
    have h1 := h q List.mem_cons_self
    have h2 := hc q List.mem_cons_self
    have h3 : q.2.v * c < q.2.v * g q.1 := Int.mul_lt_mul_of_pos_left h2 h1
    simp only [wsum, List.map_cons, List.map_nil, List.sum_cons, List.sum_nil, Int.mul_one]
    rw [Int.mul_add, Int.mul_comm c q.2.v]
    omega
  | q :: r :: L, _, h, hc => by
    have ih := wsum_gt (g := g) (c := c) (L := r :: L) (by simp) (fun q hq => h q (List.mem_cons_of_mem _ hq)) fun q hq => hc q (List.mem_cons_of_mem _ hq)
    have h1 := h q List.mem_cons_self
    have h2 := hc q List.mem_cons_self
    have h3 : q.2.v * c < q.2.v * g q.1 := Int.mul_lt_mul_of_pos_left h2 h1
    unfold wsum at ih ⊢
    generalize r :: L = M at ih
    simp only [List.map_cons, List.sum_cons, Int.mul_one] at ih ⊢
    rw [Int.mul_add, Int.mul_comm c q.2.v]
    omega
theorem no_both {a b c : Int} (h : Parts P Q a b c) {W V} (m : Mid P Q W V) : False := by
  have h1 := wsum_le (L := W) (g := fun k => a * P[k].x + b * P[k].y) (c := c) m.pw fun q _ => h.1 _ (List.getElem_mem _)
  have h2 := wsum_gt (L := V) (g := fun k => a * Q[k].x + b * Q[k].y) (c := c) m.nv m.pv fun q _ => h.2 _ (List.getElem_mem _)
  rw [wsum_lin (e := 0)] at h1 h2
  rw [m.sx, m.sy, m.s1] at h1
  omega
theorem Mid.symm {W V} (m : Mid P Q W V) : Mid Q P V W := ⟨m.nv, m.nw, by have := m.few; omega, m.pv, m.pw, m.s1.symm, m.sx.symm, m.sy.symm⟩
theorem Parts.symm {a b c : Int} (h : Parts P Q a b c) : ∀ {W V}, ¬ Mid Q P W V := fun m => no_both h m.symm
/-- two answers, one way and the other -/
theorem two_cases [hp : Few P] [hq : Few Q] :
    (∃ (w : PB 20) (c : Int) (w' : PB 20) (c' : Int), partS P Q = .own (.ins 0 [(6, .tup [.int w.x, .int w.y, .int c])]) ∧ Parts P Q w.x w.y c ∧ partS Q P = .own (.ins 0 [(6, .tup [.int w'.x, .int w'.y, .int c'])])) ∨
    ∃ W V W' V', partS P Q = .own (mkM W V) ∧ Mid P Q W V ∧ partS Q P = .own (mkM W' V') ∧ Mid Q P W' V' := by
  rcases part_cases (P := P) (Q := Q) with ⟨w, c, h1, h2⟩ | ⟨W, V, h1, h2⟩
  · rcases part_cases (P := Q) (Q := P) with ⟨w', c', h3, h4⟩ | ⟨W', V', h3, h4⟩
    · exact .inl ⟨w, c, w', c', h1, h2, h3⟩
    · exact (h2.symm h4).elim
  · rcases part_cases (P := Q) (Q := P) with ⟨w', c', h3, h4⟩ | ⟨W', V', h3, h4⟩
    · exact (h4.symm h2).elim
    · exact .inr ⟨W, V, W', V', h1, h2, h3, h4⟩
theorem m3_mid {W : List (Fin P.length × BI 61)} {V : List (Fin Q.length × BI 61)} (m : Mid P Q W V) : m3 P W = m3 Q V := by
  have h1 := m.s1
  have h2 := m.sx
  have h3 := m.sy
  unfold wsum at h1 h2 h3
  simp only [Int.mul_one] at h1
  unfold m3
  rw [h1, h2, h3]
def E8 (ns : List Int) (k : Int) (P Q : List P2) (t : Rx.D) : Rx.Env := [some (.frz (.scr ns)), some (.own (Dr ns k)), none, none, some (.frz (PD P)), some (.frz (PD Q)), none, none, none, none, some (.frz t), none, none, none, none, none, none, none, none]
/-- a row that parts them -/
theorem told_row [Few P] [Few Q] {W : Rx.Env} {s5 : Sl} (h5 : s5 = .frz (PD Q) ∨ s5 = .own (PD Q)) {w w' : PB 20} {c c' : Int} (h1 : partS P Q = .own (.ins 0 [(6, .tup [.int w.x, .int w.y, .int c])])) (h2 : Parts P Q w.x w.y c) (h3 : partS Q P = .own (.ins 0 [(6, .tup [.int w'.x, .int w'.y, .int c'])]))
    (H : Ends (Sms.ev (prog.g (prog.call (n + 5))) (lk1 ns) f24_L2_R8 (E8 ns k P Q (rowT w.x w.y c))) .nx W) : Ends (Sms.ev (prog.g (prog.call (n + 5))) (lk1 ns) f24_L2_R3 (E3 ns k P s5)) .nx W := by
  have e1 := @part_eq (n + 1) P Q _ _
  have e2 := @part_eq (n + 1) Q P _ _
  rw [h1] at e1
  rw [h3] at e2
  have r1 := @rowRight (n + 2) P Q _ _ w.x w.y c (bdm w.hx) (bdm w.hy)
  have r2 := @rowShows (n + 2) P Q _ _ w.x w.y c (bdm w.hx) (bdm w.hy)
  rw [holds_of h2] at r1 r2
  unfold rowT at r1 r2
  unfold rowT E8 at H
  rcases h5 with rfl | rfl
  · unfold E3
    simp [-getElem?_pos, -getElem?_neg, -R.ok_bind, -R.exc_bind, -R.stuck_bind, -List.map_append, -List.map_drop, -List.map_take, f24_L2_R3, f24_L2_R6, Ty.has, e1, e2, r1, r2, rowTrue]
    exact H.run (by simp)
  · unfold E3
    simp [-getElem?_pos, -getElem?_neg, -R.ok_bind, -R.exc_bind, -R.stuck_bind, -List.map_append, -List.map_drop, -List.map_take, f24_L2_R3, f24_L2_R6, Ty.has, e1, e2, r1, r2, rowTrue]
    exact H.run (by simp)
theorem told_meet [Few P] [Few Q] {Z : Rx.Env} {s5 : Sl} (h5 : s5 = .frz (PD Q) ∨ s5 = .own (PD Q)) {W V} {W' : List (Fin Q.length × BI 61)} {V' : List (Fin P.length × BI 61)} (h1 : partS P Q = .own (mkM W V)) (h2 : Mid P Q W V) (h3 : partS Q P = .own (mkM W' V'))
    (H : Ends (Sms.ev (prog.g (prog.call (n + 5))) (lk1 ns) f24_L2_R8 (E8 ns k P Q (mkM W V))) .nx Z) : Ends (Sms.ev (prog.g (prog.call (n + 5))) (lk1 ns) f24_L2_R3 (E3 ns k P s5)) .nx Z := by
  have e1 := @part_eq (n + 1) P Q _ _
  have e2 := @part_eq (n + 1) Q P _ _
  rw [h1] at e1
  rw [h3] at e2
  have r1 := @meetRight (n + 2) 61 61 P Q _ _ W V (by decide) (by decide) h2.nw h2.nv h2.few h2.pw h2.pv
  have r2 := @meetShows (n + 2) 61 61 P Q _ _ W V (by decide) (by decide) h2.nw h2.nv h2.few h2.pw h2.pv
  rw [m3_mid h2] at r1 r2
  simp only [decide_true] at r1 r2
  unfold mkM at r1 r2 e1 e2
  unfold mkM E8 at H
  rcases h5 with rfl | rfl
  · unfold E3
    simp [-getElem?_pos, -getElem?_neg, -R.ok_bind, -R.exc_bind, -R.stuck_bind, -List.map_append, -List.map_drop, -List.map_take, f24_L2_R3, f24_L2_R6, Ty.has, e1, e2, r1, r2, meetFalse]
    exact H.run (by simp)
  · unfold E3
    simp [-getElem?_pos, -getElem?_neg, -R.ok_bind, -R.exc_bind, -R.stuck_bind, -List.map_append, -List.map_drop, -List.map_take, f24_L2_R3, f24_L2_R6, Ty.has, e1, e2, r1, r2, meetFalse]
    exact H.run (by simp)
def E11 (ns : List Int) (k : Int) (P : List P2) : Rx.Env := [some (.frz (.scr ns)), some (.own (Dr ns k)), none, none, some (.frz (PD P)), none, none, none, none, none, none, none, none, none, none, none, none, none, none]
theorem late_row [w : Ww ns] [hk : Ki e k] (he : e ≤ 1000) [Few P] [Few Q] {v : PB 20} {c : Int} : Ends (Sms.ev (prog.g (prog.call (n + 5))) (lk1 ns) f24_L2_R8 (E8 ns k P Q (rowT v.x v.y c))) .nx (E11 ns (k + 1 + 1) P) := by
  have t1 := tk_nn (ns := ns) (k := k) (m := 3) (by decide)
  have t2 := tk_lt (ns := ns) (k := k) (m := 3) (by decide)
  haveI : Bd 3 (tk ns k 3) := ⟨by omega⟩
  have bx : Bd 40 (v.x + tk ns k 3 - 1) := bdm bd_isub
  have r1 := @rowRight (n + 2) P Q _ _ (v.x + tk ns k 3 - 1) v.y (c + tk ns (k + 1) 3 - 1) bx (bdm v.hy)
  have r2 := @rowShowsO (n + 2) P Q _ _ (v.x + tk ns k 3 - 1) v.y (c + tk ns (k + 1) 3 - 1) bx (bdm v.hy)
  have r3 := @rowEq (n + 4) (v.x + tk ns k 3 - 1) v.y (c + tk ns (k + 1) 3 - 1) v.x v.y c
  unfold rowT at r1 r2 r3
  unfold rowT E8 E11
  simp [-getElem?_pos, -getElem?_neg, -R.ok_bind, -R.exc_bind, -R.stuck_bind, -List.map_append, -List.map_drop, -List.map_take, f24_L2_R8, f24_L2_R9, f24_L2_R10, Ty.has, List.lookup, r1, r2, r3, rowTrue, (by omega : e ≤ 1000000), (by omega : e ≤ 999999)]
end
end K56

set_option Elab.async false
set_option linter.all false
set_option maxRecDepth 100000
namespace K56
open PySem Rx Rx.S
section
variable {n e : Nat} {ns : List Int} {k : Int} {P Q : List P2}
def E9 (ns : List Int) (k : Int) (P Q : List P2) (t : Rx.D) (o : Option Sl) : Rx.Env := [some (.frz (.scr ns)), some (.own (Dr ns k)), none, none, some (.frz (PD P)), some (.frz (PD Q)), none, none, none, none, some (.frz t), none, none, none, none, none, o, none, none]
theorem w_turn [w : Ww ns] [hk : Ki e k] (he : e ≤ 1000) {t : Rx.D} {o : Option Sl} {x : Int} : lcT (prog.g (prog.call (n + 5))) (.var 16) [16] .nil f24_C1 (.int x) (E9 ns k P Q t o) = .ok (some (.int (x + tk ns k 2)), E9 ns (k + 1) P Q t (some (.frz (.int x)))) := by
  unfold E9
  simp [-getElem?_pos, -getElem?_neg, -R.ok_bind, -R.exc_bind, -R.stuck_bind, -List.map_append, -List.map_drop, -List.map_take, (by omega : e ≤ 1000000)]
theorem w_loop {m : Nat} [w : Ww ns] {t : Rx.D} : ∀ {W : List (Fin m × BI 61)} {acc : List Rx.D} {e : Nat} {k : Int} {o : Option Sl} [hk : Ki e k], e + W.length ≤ 1000 → acc.length + W.length ≤ 1000 → (∀ q ∈ W, 0 < q.2.v) →
    ∃ (W' : List (Fin m × BI 70)) (k' : Int) (o' : Option Sl), Ki (e + W.length) k' ∧ nums W' = nums W ∧ (∀ q ∈ W', 0 < q.2.v) ∧ W'.length = W.length ∧
      lcL (lcT (prog.g (prog.call (n + 5))) (.var 16) [16] .nil f24_C1) (wts W) acc (E9 ns k P Q t o) = .ok (acc ++ wts W', E9 ns k' P Q t o')
  | [], acc, e, k, o, hk, _, _, _ => ⟨[], k, o, hk, rfl, (fun _ h => by cases h), rfl, by simp [wts, lcL]⟩
  | x :: W, acc, e, k, o, hk, he, hl, hp => by
    rw [List.length_cons] at he hl
    have t1 := tk_nn (ns := ns) (k := k) (m := 2) (by decide)
    have t2 := tk_lt (ns := ns) (k := k) (m := 2) (by decide)
    have b1 : Bd 1 (tk ns k 2) := ⟨by omega⟩
    obtain ⟨W', k', o', h1, h2, h3, h4, h5⟩ := w_loop (t := t) (W := W) (acc := acc ++ [.int (x.2.v + tk ns k 2)]) (e := e + 1) (k := k + 1) (o := some (.frz (.int x.2.v))) (by omega) (by simp; omega) fun q hq => hp q (List.mem_cons_of_mem _ hq)
    have hx := hp x List.mem_cons_self
    refine ⟨(x.1, ⟨x.2.v + tk ns k 2, bdm bd_iadd⟩) :: W', k', o', ⟨by have := h1.le; rw [List.length_cons]; omega⟩, ?_, fun q hq => ?_, by rw [List.length_cons, h4, List.length_cons], ?_⟩
    · unfold nums at h2 ⊢
      rw [List.map_cons, h2, List.map_cons]
    · rcases List.mem_cons.mp hq with rfl | hq
      · show 0 < x.2.v + tk ns k 2
        omega
      · exact h3 q hq
    · have hw : wts (x :: W) = .int x.2.v :: wts W := rfl
      rw [hw, lcL_nx (w_turn (by omega)) (lt_line (by omega)), h5]
      simp [wts]
theorem eqvs_self {α : Type} {f : α → Int} : ∀ {L : List α}, D.eqvs (L.map fun v => Rx.D.int (f v)) (L.map fun v => Rx.D.int (f v)) = true
  | [] => rfl
  | x :: L => by
    rw [List.map_cons]
    show ((Rx.D.int (f x)).eqv (.int (f x)) && D.eqvs _ _) = true
    rw [eqvs_self]
    simp
theorem plains_wts {m d : Nat} (W : List (Fin m × BI e)) : D.plains d (wts W) = true := plains_map fun v _ => by rw [D.plain]
theorem meetEq {m m' f : Nat} {W : List (Fin m × BI e)} {W' : List (Fin m × BI f)} {V : List (Fin m' × BI 61)} (h : nums W' = nums W) : prog.call (n + 1) 22 [.frz (mkM W' V), .frz (mkM W V)] = .ok (.frz (.bl (D.eqvs (wts W') (wts W))), [none, none]) := by
  have e1 : D.eqvs (nums W) (nums W) = true := eqvs_self
  have e2 : D.eqvs (nums V) (nums V) = true := eqvs_self
  have e3 : D.eqvs (wts V) (wts V) = true := eqvs_self
  rw [c22, run_eq rfl]
  unfold mkM
  rw [h]
  simp [-getElem?_pos, -getElem?_neg, -R.ok_bind, -R.exc_bind, -R.stuck_bind, -List.map_append, -List.map_drop, -List.map_take, f22, Ty.has, List.lookup, e1, e2, e3, plains_nums, plains_wts]
  cases q : D.eqvs (wts W') (wts W) with
  | true => simp [-getElem?_pos, -getElem?_neg, -R.ok_bind, -R.exc_bind, -R.stuck_bind, -List.map_append, -List.map_drop, -List.map_take, e1, e2, e3, plains_nums, plains_wts, List.lookup, q]
  | false => simp [-getElem?_pos, -getElem?_neg, -R.ok_bind, -R.exc_bind, -R.stuck_bind, -List.map_append, -List.map_drop, -List.map_take, q]
@[simp] theorem ini1T {a b c d : List Rx.D} : prog.call (n + 1) 20 [.own (.ins 1 []), .frz (.tup a), .frz (.tup b), .frz (.tup c), .frz (.tup d)] = .ok (.frz .non, [some (.own (.ins 1 [(8, .tup a), (9, .tup b), (7, .tup c), (10, .tup d)])), none, none, none, none]) := by
  rw [c20, run_eq rfl]
  simp [-getElem?_pos, -getElem?_neg, -R.ok_bind, -R.exc_bind, -R.stuck_bind, -List.map_append, -List.map_drop, -List.map_take, f20]
/-- too many of them -/
theorem manyShows [hp : Few P] [hq : Few Q] {m m' f : Nat} {W : List (Fin m × BI e)} {V : List (Fin m' × BI f)} (hl : 4 < W.length + V.length) : prog.call (n + 3) 23 [.frz (mkM W V), .frz (PD P), .frz (PD Q)] = .ok (.frz (.bl false), [none, none, none]) := by
  have hp1 : 1 ≤ P.length ∧ P.length ≤ 12 := ⟨List.length_pos_iff.mpr hp.ne, hp.le⟩
  have hq1 : 1 ≤ Q.length ∧ Q.length ≤ 12 := ⟨List.length_pos_iff.mpr hq.ne, hq.le⟩
  have hc := @check_ok n P Q hp1 hq1
  have g1 : (4 : Int) < W.length + V.length := by omega
  rw [c23, run_eq rfl]
  unfold mkM
  simp [-getElem?_pos, -getElem?_neg, -R.ok_bind, -R.exc_bind, -R.stuck_bind, -List.map_append, -List.map_drop, -List.map_take, f23, Ty.has, List.lookup, hc, nums_len, g1]
theorem manyShowsO [hp : Few P] [hq : Few Q] {m m' f : Nat} {W : List (Fin m × BI e)} {V : List (Fin m' × BI f)} (hl : 4 < W.length + V.length) : prog.call (n + 3) 23 [.own (mkM W V), .frz (PD P), .frz (PD Q)] = .ok (.frz (.bl false), [some (.own (mkM W V)), none, none]) := by
  have hp1 : 1 ≤ P.length ∧ P.length ≤ 12 := ⟨List.length_pos_iff.mpr hp.ne, hp.le⟩
  have hq1 : 1 ≤ Q.length ∧ Q.length ≤ 12 := ⟨List.length_pos_iff.mpr hq.ne, hq.le⟩
  have hc := @check_ok n P Q hp1 hq1
  have g1 : (4 : Int) < W.length + V.length := by omega
  rw [c23, run_eq rfl]
  unfold mkM
  simp [-getElem?_pos, -getElem?_neg, -R.ok_bind, -R.exc_bind, -R.stuck_bind, -List.map_append, -List.map_drop, -List.map_take, f23, Ty.has, List.lookup, hc, nums_len, g1]
theorem nums_app {m e : Nat} {V U : List (Fin m × BI e)} : nums V ++ nums U = nums (V ++ U) := by unfold nums; rw [List.map_append]
theorem wts_app {m e : Nat} {V U : List (Fin m × BI e)} : wts V ++ wts U = wts (V ++ U) := by unfold wts; rw [List.map_append]
theorem wts_len {m e : Nat} {W : List (Fin m × BI e)} : (wts W).length = W.length := List.length_map ..
theorem end_meet [Few P] [Few Q] {W V} (h : Mid P Q W V) : Ends (Sms.ev (prog.g (prog.call (n + 5))) (lk1 ns) f24_L2_R10 (E8 ns k P Q (mkM W V))) .nx (E11 ns k P) := by
  have hf := h.few
  have hv := List.length_pos_iff.mpr h.nv
  have z : szOk (V.length + V.length) = true := sz_lit (by omega)
  haveI : Bd 4 (V.length : Int) := ⟨by rw [Int.natAbs_natCast]; omega⟩
  unfold E8 E11
  by_cases c : 4 < W.length + (V ++ V).length
  · have r1 := @manyShows (n + 2) 61 P Q _ _ P.length Q.length 61 W (V ++ V) c
    unfold mkM at r1 ⊢
    simp [-getElem?_pos, -getElem?_neg, -R.ok_bind, -R.exc_bind, -R.stuck_bind, -List.map_append, -List.map_drop, -List.map_take, f24_L2_R10, List.lookup, meetFalse, nums_len, wts_len, z, nums_app, wts_app, r1]
  · have r1 := @meetShows (n + 2) 61 61 P Q _ _ W (V ++ V) (by decide) (by decide) h.nw (by simp [h.nv]) (by omega) h.pw (fun q hq => by
      rcases List.mem_append.mp hq with hq | hq
      · exact h.pv q hq
      · exact h.pv q hq)
    have g : ¬ (4 : Int) < W.length + 2 * V.length := by
      rw [List.length_append] at c
      omega
    unfold mkM at r1 ⊢
    by_cases hh : m3 P W = m3 Q (V ++ V)
    · simp only [hh, decide_true] at r1
      simp [-getElem?_pos, -getElem?_neg, -R.ok_bind, -R.exc_bind, -R.stuck_bind, -List.map_append, -List.map_drop, -List.map_take, f24_L2_R10, List.lookup, meetFalse, nums_len, wts_len, z, nums_app, wts_app, r1, g]
    · simp only [hh, decide_false] at r1
      simp [-getElem?_pos, -getElem?_neg, -R.ok_bind, -R.exc_bind, -R.stuck_bind, -List.map_append, -List.map_drop, -List.map_take, f24_L2_R10, List.lookup, meetFalse, nums_len, wts_len, z, nums_app, wts_app, r1, g]
theorem late_meet [w : Ww ns] [hk : Ki e k] (he : e ≤ 900) [Few P] [Few Q] {W V} (h : Mid P Q W V) : ∃ k', Ki (e + 8) k' ∧ Ends (Sms.ev (prog.g (prog.call (n + 5))) (lk1 ns) f24_L2_R8 (E8 ns k P Q (mkM W V))) .nx (E11 ns k' P) := by
  have hf := h.few
  obtain ⟨W', k', o', h1, h2, h3, h4, h5⟩ := w_loop (n := n) (ns := ns) (k := k) (P := P) (Q := Q) (t := mkM W V) (acc := []) (o := none) (W := W) (by omega) (by simp; omega) h.pw
  have hlc : lcR (lcT (prog.g (prog.call (n + 5))) (.var 16) [16] .nil f24_C1) [16] (wts W) (E9 ns k P Q (mkM W V) none) = .ok (.own (.lst (wts W')), E9 ns k' P Q (mkM W V) none) := by
    unfold lcR
    rw [h5]
    unfold E9
    simp [-getElem?_pos, -getElem?_neg, -R.ok_bind, -R.exc_bind, -R.stuck_bind, -List.map_append, -List.map_drop, -List.map_take, ]
  have nw' : W' ≠ [] := fun z => h.nw (List.length_eq_zero_iff.mp (by rw [← h4, z]; rfl))
  have r1 := @meetRight (n + 2) 70 61 P Q _ _ W' V (by decide) (by decide) nw' h.nv (by omega) h3 h.pv
  have r2 := @meetShowsO (n + 2) 70 61 P Q _ _ W' V (by decide) (by decide) nw' h.nv (by omega) h3 h.pv
  have r3 := @meetEq (n + 4) 61 P.length Q.length 70 W W' V h2
  refine ⟨k', ⟨by have := h1.le; omega⟩, ?_⟩
  unfold mkM at r1 r2 r3 hlc
  rw [h2] at r1 r2 r3
  unfold E9 at hlc
  simp only [f24_C1] at hlc
  unfold mkM E8 E11
  simp [-getElem?_pos, -getElem?_neg, -R.ok_bind, -R.exc_bind, -R.stuck_bind, -List.map_append, -List.map_drop, -List.map_take, f24_L2_R8, f24_L2_R9, Ty.has, List.lookup, hlc, r1, r2, r3, meetFalse, plains_wts]
  have he := @end_meet n ns k' P Q _ _ W V h
  unfold mkM E8 E11 at he
  exact he.run (by simp)
/-- one turn of the law -/
theorem turn_ok [w : Ww ns] [hk : Ki e k] (he : e ≤ 800) {v : Int} : ∃ k'' P, Few P ∧ Ki (e + 60) k'' ∧ Ends (forT (prog.g (prog.call (n + 5))) (lk1 ns) (.var 2) f24_L2 (.int v) (E0 ns k)) .nx (E11 ns k'' P) := by
  refine stage1 (n := n) (by omega) (W := fun k P => E11 ns k P) fun P Q k' s5 fP fQ hk' h5 => ?_
  rcases two_cases (P := P) (Q := Q) with ⟨w1, c, w', c', h1, h2, h3⟩ | ⟨W, V, W', V', h1, h2, h3, h4⟩
  · exact ⟨k' + 1 + 1, ⟨by have := hk'.le; omega⟩, told_row h5 h1 h2 h3 (late_row (e := e + 50) (by omega))⟩
  · obtain ⟨k'', h6, h7⟩ := late_meet (n := n) (ns := ns) (k := k') (e := e + 50) (by omega) h2
    exact ⟨k'', ⟨by have := h6.le; omega⟩, told_meet h5 h1 h2 h3 h7⟩
theorem turns_ok [w : Ww ns] : ∃ k P, Few P ∧ Ki 180 k ∧ Ends (loopL (forT (prog.g (prog.call (n + 5))) (lk1 ns) (.var 2) f24_L2) [.int 0, .int 1, .int 2] (E0 ns 0)) .nx (E11 ns k P) := by
  haveI : Ki 0 0 := ⟨by decide⟩
  obtain ⟨k1, P1, f1, h1, e1⟩ := turn_ok (n := n) (ns := ns) (k := 0) (e := 0) (by decide) (v := 0)
  obtain ⟨k2, P2, f2, h2, e2⟩ := turn_ok (n := n) (ns := ns) (k := k1) (e := 0 + 60) (by decide) (v := 1)
  obtain ⟨k3, P3, f3, h3, e3⟩ := turn_ok (n := n) (ns := ns) (k := k2) (e := 0 + 60 + 60) (by decide) (v := 2)
  refine ⟨k3, P3, f3, h3, ?_⟩
  obtain ⟨ρ1, a1, b1⟩ := e1
  obtain ⟨ρ2, a2, b2⟩ := turn_wk (Wk.trans (by simp [E0, E11]) b1) e2
  obtain ⟨ρ3, a3, b3⟩ := turn_wk (Wk.trans (by simp [E0, E11]) b2) e3
  rw [loopL_nx a1, loopL_nx a2, loopL_nx a3]
  exact ⟨ρ3, rfl, b3⟩
end
end K56

set_option Elab.async false
set_option linter.all false
set_option maxRecDepth 100000
namespace K56
open PySem Rx Rx.S
section
variable {n e : Nat} {ns : List Int} {k : Int} {P Q : List P2}
theorem bndX {r : R (Fl × Rx.Env)} {f1 : Fl} {w1 : Rx.Env} {K : Fl × Rx.Env → R (Fl × Rx.Env)} {c : Nat} {fs : List (Nat × Rx.D)} (h1 : Ends r f1 w1) [mo : Mo K] (h2 : K (f1, w1) = .exc c fs) : @Rx.S.bnd _ _ r ⟨K⟩ = .exc c fs := by
  obtain ⟨ρ, e, k⟩ := h1
  have m := mo.mo f1 w1 ρ k
  rw [h2] at m
  rw [e]
  exact m
def wrongs : List Rx.D := [.non, .tup [.int 1], .tup [.int 1, .str (PySem.Str.ofString "2")], .lst [.int 1, .int 2], .tup [.int 1, .int 2, .int 3]]
theorem isnum_str {s : Str} : prog.call (n + 1) 0 [.frz (.str s)] = .ok (.frz (.bl false), [none]) := by
  rw [c0, run_eq rfl]
  simp [-getElem?_pos, -getElem?_neg, -R.ok_bind, -R.exc_bind, -R.stuck_bind, -List.map_append, -List.map_drop, -List.map_take, f0, Ty.has]
theorem wrong_turn {lk : Nat → Bool} (hl : lk 3 = false) (hl4 : lk 4 = false) {d : Rx.D} (hd : d ∈ wrongs) {a b r : Option Sl} : forT (prog.g (prog.call (n + 1))) lk (.var 3) f2_L1 d [a, b, r, none, none] = .exc 0 [(4, d)] := by
  unfold wrongs at hd
  simp only [List.mem_cons, List.not_mem_nil, or_false] at hd
  rcases hd with rfl | rfl | rfl | rfl | rfl
  · simp [-getElem?_pos, -getElem?_neg, -R.ok_bind, -R.exc_bind, -R.stuck_bind, -List.map_append, -List.map_drop, -List.map_take, f2_L1, Ty.has, hl]
  · simp [-getElem?_pos, -getElem?_neg, -R.ok_bind, -R.exc_bind, -R.stuck_bind, -List.map_append, -List.map_drop, -List.map_take, f2_L1, Ty.has, hl]
  · simp [-getElem?_pos, -getElem?_neg, -R.ok_bind, -R.exc_bind, -R.stuck_bind, -List.map_append, -List.map_drop, -List.map_take, f2_L1, Ty.has, hl, isnum_str]
  · simp [-getElem?_pos, -getElem?_neg, -R.ok_bind, -R.exc_bind, -R.stuck_bind, -List.map_append, -List.map_drop, -List.map_take, f2_L1, Ty.has, hl]
  · simp [-getElem?_pos, -getElem?_neg, -R.ok_bind, -R.exc_bind, -R.stuck_bind, -List.map_append, -List.map_drop, -List.map_take, f2_L1, Ty.has, hl]
theorem wrong_loop {lk : Nat → Bool} (hl : lk 3 = false) (hl4 : lk 4 = false) {d : Rx.D} (hd : d ∈ wrongs) {a b r : Option Sl} : ∀ {P : List P2} {ρ : Rx.Env}, Wk [a, b, r, none, none] ρ → loopL (forT (prog.g (prog.call (n + 1))) lk (.var 3) f2_L1) (P.map PB.T ++ [d]) ρ = .exc 0 [(4, d)]
  | [], ρ, hw => by
    have := wk_forT (g := prog.g (prog.call (n + 1))) (lk := lk) (t := .var 3) (b := f2_L1) (d := d) hw
    rw [wrong_turn hl hl4 hd] at this
    have this : forT (prog.g (prog.call (n + 1))) lk (.var 3) f2_L1 d ρ = .exc 0 [(4, d)] := this
    show loopL _ [d] ρ = _
    rw [loopL, this]
    rfl
  | p :: P, ρ, hw => by
    have h1 : Ends (forT (prog.g (prog.call (n + 1))) lk (.var 3) f2_L1 p.T [a, b, r, none, none]) .nx [a, b, r, none, none] := by simp [-getElem?_pos, -getElem?_neg, -R.ok_bind, -R.exc_bind, -R.stuck_bind, -List.map_append, -List.map_drop, -List.map_take, f2_L1, Ty.has, hl]
    obtain ⟨ρ1, e, k⟩ := turn_wk hw h1
    rw [List.map_cons, List.cons_append, lp_nx (.inl e)]
    exact wrong_loop hl hl4 hd k
theorem check_wrong {d : Rx.D} (hd : d ∈ wrongs) : prog.call (n + 2) 2 [.frz (.lst (P.map PB.T ++ [d])), .frz (.int 7)] = .exc 0 [(4, d)] := by
  rw [c2, run_eq rfl]
  have h := wrong_loop (n := n) (lk := lkOf [.frz (.lst (P.map PB.T ++ [d])), .frz (.int 7)]) rfl rfl hd (P := P) (a := some (.frz (.lst (P.map PB.T ++ [d])))) (b := some (.frz (.int 7))) (r := some (.frz (.lst (P.map PB.T ++ [d])))) .refl
  simp [-getElem?_pos, -getElem?_neg, -R.ok_bind, -R.exc_bind, -R.stuck_bind, -List.map_append, -List.map_drop, -List.map_take, f2, f2_L2, Ty.has, h]
theorem run_exc {g : G} {fn : Fn} {as : List Sl} {c : Nat} {fs : List (Nat × Rx.D)} (h : as.length = fn.np) (e : fn.body.ev g (lkOf as) (as.map some ++ List.replicate (fn.nn - fn.np) none) = .exc c fs) : fn.run g as = .exc c fs := by
  rw [run_eq h, e]
  rfl
theorem check_large (h1 : 1 ≤ P.length ∧ P.length ≤ 12) (h2 : ¬ (1 ≤ Q.length ∧ Q.length ≤ 12)) : prog.call (n + 2) 2 [.frz (PD P), .frz (PD Q)] = .exc 1 [(5, .int Q.length)] := by
  rw [c2]
  refine run_exc rfl ?_
  have a1 : (1 : Int) ≤ P.length := by omega
  have a2 : (P.length : Int) ≤ 12 := by omega
  simp [-getElem?_pos, -getElem?_neg, -R.ok_bind, -R.exc_bind, -R.stuck_bind, -List.map_append, -List.map_drop, -List.map_take, f2, f2_L2, Ty.has]
  apply bndX (chk_row (lk := lkOf [.frz (PD P), .frz (PD Q)]) rfl P)
  simp [-getElem?_pos, -getElem?_neg, -R.ok_bind, -R.exc_bind, -R.stuck_bind, -List.map_append, -List.map_drop, -List.map_take, f2_L2, Ty.has, a1, a2]
  apply bndX (chk_row (lk := lkOf [.frz (PD P), .frz (PD Q)]) rfl Q)
  by_cases c : (1 : Int) ≤ Q.length
  · have c2 : ¬ (Q.length : Int) ≤ 12 := by omega
    simp [-getElem?_pos, -getElem?_neg, -R.ok_bind, -R.exc_bind, -R.stuck_bind, -List.map_append, -List.map_drop, -List.map_take, f2_L2, Ty.has, c, c2]
  · simp [-getElem?_pos, -getElem?_neg, -R.ok_bind, -R.exc_bind, -R.stuck_bind, -List.map_append, -List.map_drop, -List.map_take, f2_L2, Ty.has, c]
theorem part_wrong {d : Rx.D} (hd : d ∈ wrongs) : prog.call (n + 4) 8 [.frz (.lst (P.map PB.T ++ [d])), .frz (.int 7)] = .exc 0 [(4, d)] := by
  have h := check_wrong (n := n + 1) (P := P) hd
  rw [c8, run_eq rfl]
  simp [-getElem?_pos, -getElem?_neg, -R.ok_bind, -R.exc_bind, -R.stuck_bind, -List.map_append, -List.map_drop, -List.map_take, f8, h]
theorem part_large (h1 : 1 ≤ P.length ∧ P.length ≤ 12) (h2 : ¬ (1 ≤ Q.length ∧ Q.length ≤ 12)) : prog.call (n + 4) 8 [.frz (PD P), .frz (PD Q)] = .exc 1 [(5, .int Q.length)] := by
  have h := check_large (n := n + 1) h1 h2
  rw [c8, run_eq rfl]
  simp [-getElem?_pos, -getElem?_neg, -R.ok_bind, -R.exc_bind, -R.stuck_bind, -List.map_append, -List.map_drop, -List.map_take, f8, h]
def p12 : P2 := ⟨1, 2, bdm bd_iof, bdm bd_iof⟩
def p34 : P2 := ⟨3, 4, bdm bd_iof, bdm bd_iof⟩
theorem rep_D (j : Nat) : (List.replicate j [Rx.D.tup [.int 1, .int 2]]).flatten = (List.replicate j p12).map PB.T := by
  induction j with
  | zero => rfl
  | succ j ih =>
    rw [List.replicate_succ, List.flatten_cons, ih, List.replicate_succ, List.map_cons]
    rfl
instance few12 : Few (List.replicate 12 p12) := ⟨by simp, by simp⟩
instance few1 {p : P2} : Few [p] := ⟨by simp, by simp⟩
theorem parts12 : Parts (List.replicate 12 p12) [p34] 1 0 2 := ⟨fun p hp => by
  rw [List.eq_of_mem_replicate hp]
  decide, fun q hq => by
  rw [List.mem_singleton.mp hq]
  decide⟩
theorem last_ok : ∃ (w : PB 20) (c : Int), prog.call (n + 4) 8 [.frz (PD (List.replicate 12 p12)), .frz (PD [p34])] = .ok (.own (rowT w.x w.y c), [none, none]) ∧ holds [p12] [p34] w.x w.y c = true := by
  rcases part_cases (P := List.replicate 12 p12) (Q := [p34]) with ⟨w, c, h1, h2⟩ | ⟨W, V, h1, h2⟩
  · refine ⟨w, c, ?_, holds_of ⟨fun p hp => ?_, h2.2⟩⟩
    · rw [part_eq, h1]
      rfl
    · rw [List.mem_singleton.mp hp]
      exact h2.1 p12 (by simp)
  · exact (no_both parts12 h2).elim
theorem eqv_refl : ∀ d ∈ wrongs, d.eqv d = true ∧ D.plain 59 d = true := by
  intro d hd
  unfold wrongs at hd
  simp only [List.mem_cons, List.not_mem_nil, or_false] at hd
  rcases hd with rfl | rfl | rfl | rfl | rfl <;> exact ⟨by decide +kernel, by decide +kernel⟩
theorem law_ok (w : BitsOk ns) : prog.call (n + 6) 24 [.frz (.scr ns)] = .ok (.frz (.bl true), [none]) := by
  haveI : Ww ns := ⟨w⟩
  obtain ⟨k, P, fP, hk, e1⟩ := turns_ok (n := n) (ns := ns)
  have hp1 : 1 ≤ P.length ∧ P.length ≤ 12 := ⟨List.length_pos_iff.mpr fP.ne, fP.le⟩
  obtain ⟨d, hd, e2⟩ := pick_s (n := n + 2) (ns := ns) (k := k) (fP := 11) (by decide) (xs := wrongs) (by simp [wrongs])
  have e3 := part_wrong (n := n + 1) (P := P) hd
  obtain ⟨m, hm, e4⟩ := pick_s (n := n + 2) (ns := ns) (k := k + 1) (fP := 11) (by decide) (xs := [.int 0, .int 13, .int 20]) (by simp)
  obtain ⟨v, c, e5, h5⟩ := last_ok (n := n + 1)
  have e6 := @rowShows (n + 2) [p12] [p34] _ _ v.x v.y c (bdm v.hx) (bdm v.hy)
  rw [h5] at e6
  obtain ⟨q1, q2⟩ := eqv_refl d hd
  have l3 : lims 3 = true := by decide
  unfold wrongs at e2
  unfold rowT at e5 e6
  unfold E0 E11 at e1
  rw [c24]
  refine run_ends rfl (w := [none, none, none, none, none, none, none, none, none, none, none, none, none, none, none, none, none, none, none]) ?_ rfl
  have hr : rngL 0 3 = [.int 0, .int 1, .int 2] := by rfl
  simp [-getElem?_pos, -getElem?_neg, -R.ok_bind, -R.exc_bind, -R.stuck_bind, -List.map_append, -List.map_drop, -List.map_take, f24, f24_R1, l3, hr, -loopL_cons]
  refine e1.bnd ?_
  have hz : szOk (P.length + 1) = true := sz_lit (by omega)
  have s1 : D.plain 59 (.str (PySem.Str.ofString "number")) = true := by decide +kernel
  have s2 : (Rx.D.str (PySem.Str.ofString "number")).eqv (.str (PySem.Str.ofString "number")) = true := by decide +kernel
  have s3 : D.plain 59 (.str (PySem.Str.ofString "large")) = true := by decide +kernel
  have s4 : (Rx.D.str (PySem.Str.ofString "large")).eqv (.str (PySem.Str.ofString "large")) = true := by decide +kernel
  have z0 : szOk 0 = true := sz_lit (by decide)
  have z12 : szOk 12 = true := sz_lit (by decide)
  have z13 : szOk 13 = true := sz_lit (by decide)
  have z20 : szOk 20 = true := sz_lit (by decide)
  replace e5 : prog.call (n + 5) 8 [.frz (.lst (List.replicate 12 (.tup [.int 1, .int 2]))), .frz (.lst [.tup [.int 3, .int 4]])] = .ok (.own (.ins 0 [(6, .tup [.int v.x, .int v.y, .int c])]), [none, none]) := e5
  simp only [List.reduceReplicate] at e5
  replace e6 : prog.call (n + 5) 19 [.frz (.ins 0 [(6, .tup [.int v.x, .int v.y, .int c])]), .frz (.lst [.tup [.int 1, .int 2]]), .frz (.lst [.tup [.int 3, .int 4]])] = .ok (.frz (.bl true), [none, none, none]) := e6
  simp only [List.mem_cons, List.not_mem_nil, or_false] at hm
  rcases hm with rfl | rfl | rfl
  · have e7 : prog.call (n + 5) 8 [.frz (PD P), .frz (.lst [])] = .exc 1 [(5, .int 0)] := part_large (n := n + 1) (P := P) (Q := List.replicate 0 p12) hp1 (by decide)
    simp [-getElem?_pos, -getElem?_neg, -R.ok_bind, -R.exc_bind, -R.stuck_bind, -List.map_append, -List.map_drop, -List.map_take, f24_R2, f24_R4, e2, e3, hz, FltD.get, Hd.get, List.lookup, q1, q2, s1, s2, s3, s4, e4, e5, e6, e7, z0, z12, z13, z20]
  · have e7 : prog.call (n + 5) 8 [.frz (PD P), .frz (.lst (List.replicate 13 (.tup [.int 1, .int 2])))] = .exc 1 [(5, .int 13)] := part_large (n := n + 1) (P := P) (Q := List.replicate 13 p12) hp1 (by decide)
    simp only [List.reduceReplicate] at e7
    simp [-getElem?_pos, -getElem?_neg, -R.ok_bind, -R.exc_bind, -R.stuck_bind, -List.map_append, -List.map_drop, -List.map_take, f24_R2, f24_R4, e2, e3, hz, FltD.get, Hd.get, List.lookup, q1, q2, s1, s2, s3, s4, e4, e5, e6, e7, z0, z12, z13, z20]
  · have e7 : prog.call (n + 5) 8 [.frz (PD P), .frz (.lst (List.replicate 20 (.tup [.int 1, .int 2])))] = .exc 1 [(5, .int 20)] := part_large (n := n + 1) (P := P) (Q := List.replicate 20 p12) hp1 (by decide)
    simp only [List.reduceReplicate] at e7
    simp [-getElem?_pos, -getElem?_neg, -R.ok_bind, -R.exc_bind, -R.stuck_bind, -List.map_append, -List.map_drop, -List.map_take, f24_R2, f24_R4, e2, e3, hz, FltD.get, Hd.get, List.lookup, q1, q2, s1, s2, s3, s4, e4, e5, e6, e7, z0, z12, z13, z20]
end
end K56

set_option Elab.async false
set_option linter.all false
set_option maxRecDepth 100000
set_option maxHeartbeats 0
namespace K56
open PySem PySem.Spec PyProof.Rows L2 Rx
def top (i : Nat) : Stmt := PySem.Challenge.pw_pointorstrip_k56_whole_parting.main.body.getD i (.Pass ⟨0, 0, 0, 0⟩)
def df0 : Df := ⟨"is_number", "is_number", (top 5), (["value"] : List Str), (["value"] : List Str)⟩
def df1 : Df := ⟨"middle_of", "middle_of", (top 10), (["points", "numbers", "weights", "one", "some", "x", "weight", "point"] : List Str), (["points", "numbers", "weights"] : List Str)⟩
def df2 : Df := ⟨"check_points", "check_points", (top 11), (["points", "others", "row", "point", "one"] : List Str), (["points", "others"] : List Str)⟩
def df3 : Df := ⟨"parting_row", "parting_row", (top 12), (["points", "others", "every", "at", "one", "other", "x", "y", "a", "b", "most", "point"] : List Str), (["points", "others"] : List Str)⟩
def df4 : Df := ⟨"area", "area", (top 13), (["one", "two", "three"] : List Str), (["one", "two", "three"] : List Str)⟩
def df5 : Df := ⟨"balance", "balance", (top 14), (["some", "at", "point", "one", "two", "three", "four"] : List Str), (["some"] : List Str)⟩
def df6 : Df := ⟨"meeting_by", "meeting_by", (top 15), (["points", "numbers", "others", "late", "told", "one", "sign", "mine", "theirs", "first", "number", "weight", "last"] : List Str), (["points", "numbers", "others", "late"] : List Str)⟩
def df7 : Df := ⟨"lots_of", "lots_of", (top 16), (["many", "size", "found", "turn", "lot", "one"] : List Str), (["many", "size"] : List Str)⟩
def df8 : Df := ⟨"part", "part", (top 17), (["points", "others", "row", "mine", "theirs", "numbers", "late", "found"] : List Str), (["points", "others"] : List Str)⟩
def df9 : Df := ⟨"_law_number", "_law_number", (top 19), (["script", "index", "cell", "turn", "rest", "step", "blend"] : List Str), (["script", "index"] : List Str)⟩
def df10 : Df := ⟨"_law_take", "_law_take", (top 20), (["draw", "many"] : List Str), (["draw", "many"] : List Str)⟩
def df11 : Df := ⟨"_law_pick", "_law_pick", (top 21), (["draw", "items"] : List Str), (["draw", "items"] : List Str)⟩
def df12 : Df := ⟨"_law_is_number", "_law_is_number", (top 22), (["value"] : List Str), (["value"] : List Str)⟩
def df13 : Df := ⟨"_law_points", "_law_points", (top 23), (["draw", "many", "wide", "kind", "a", "b", "found", "turn", "x", "y"] : List Str), (["draw", "many", "wide"] : List Str)⟩
def df14 : Df := ⟨"_law_middle", "_law_middle", (top 24), (["points", "numbers", "weights", "one", "some", "x", "weight", "point"] : List Str), (["points", "numbers", "weights"] : List Str)⟩
def df15 : Df := ⟨"_law_is_right", "_law_is_right", (top 25), (["points", "others", "told", "a", "b", "c", "x", "y", "first"] : List Str), (["points", "others", "told"] : List Str)⟩
def df16 : Df := ⟨"__init__", "Parted.__init__", (inClass (top 8) 0), (["self", "row"] : List Str), (["self", "row"] : List Str)⟩
def df17 : Df := ⟨"__bool__", "Parted.__bool__", (inClass (top 8) 1), (["self"] : List Str), (["self"] : List Str)⟩
def df18 : Df := ⟨"__eq__", "Parted.__eq__", (inClass (top 8) 2), (["self", "other"] : List Str), (["self", "other"] : List Str)⟩
def df19 : Df := ⟨"shows", "Parted.shows", (inClass (top 8) 3), (["self", "points", "others", "one", "a", "b", "c", "x", "y"] : List Str), (["self", "points", "others"] : List Str)⟩
def df20 : Df := ⟨"__init__", "Meeting.__init__", (inClass (top 9) 0), (["self", "numbers", "weights", "others", "late"] : List Str), (["self", "numbers", "weights", "others", "late"] : List Str)⟩
def df21 : Df := ⟨"__bool__", "Meeting.__bool__", (inClass (top 9) 1), (["self"] : List Str), (["self"] : List Str)⟩
def df22 : Df := ⟨"__eq__", "Meeting.__eq__", (inClass (top 9) 2), (["self", "other"] : List Str), (["self", "other"] : List Str)⟩
def df23 : Df := ⟨"shows", "Meeting.shows", (inClass (top 9) 3), (["self", "points", "others", "first"] : List Str), (["self", "points", "others"] : List Str)⟩
def df24 : Df := ⟨"law", "law", (top 27), (["script", "draw", "again", "wide", "points", "others", "right", "down", "x", "y", "told", "back", "a", "b", "c", "late", "one", "wrong", "many"] : List Str), (["script"] : List Str)⟩
def tb : Tb := { fns := (["is_number", "middle_of", "check_points", "parting_row", "area", "balance", "meeting_by", "lots_of", "part", "_law_number", "_law_take", "_law_pick", "_law_is_number", "_law_points", "_law_middle", "_law_is_right"] : List Str), cls := (["Parted", "Meeting"] : List Str), exs := (["BadNumber", "TooLarge"] : List Str), nm := (["__init__", "__bool__", "__eq__", "shows", "value", "number", "row", "others", "numbers", "weights", "late"] : List Str), glb := (["MOST_POINTS"] : List Str), tys := [.bool, .cls 0, .cls 1, .int, .list, .tuple], mths := [0, 1, 2, 3], inis := [0, 1], flts := (["_law_fault"] : List Str), exf := [(0, 4), (1, 5)] }
def tx : Tx := { tb := tb, dfs := [(df0, ("is_number", none)), (df1, ("middle_of", none)), (df2, ("check_points", none)), (df3, ("parting_row", none)), (df4, ("area", none)), (df5, ("balance", none)), (df6, ("meeting_by", none)), (df7, ("lots_of", none)), (df8, ("part", none)), (df9, ("_law_number", none)), (df10, ("_law_take", none)), (df11, ("_law_pick", none)), (df12, ("_law_is_number", none)), (df13, ("_law_points", none)), (df14, ("_law_middle", none)), (df15, ("_law_is_right", none)), (df16, ("Parted", some "__init__")), (df17, ("Parted", some "__bool__")), (df18, ("Parted", some "__eq__")), (df19, ("Parted", some "shows")), (df20, ("Meeting", some "__init__")), (df21, ("Meeting", some "__bool__")), (df22, ("Meeting", some "__eq__")), (df23, ("Meeting", some "shows"))], mth := mthL, ini := iniL, tru := truL, eqm := eqmL, glb := glbL, exs := [⟨"BadNumber", (["value"] : List Str), [4], ⟨"__init__", "BadNumber.__init__", (inClass (top 2) 0), (["self", "value"] : List Str), (["self", "value"] : List Str)⟩⟩, ⟨"TooLarge", (["number"] : List Str), [5], ⟨"__init__", "TooLarge.__init__", (inClass (top 3) 0), (["self", "number"] : List Str), (["self", "number"] : List Str)⟩⟩], flts := [⟨⟨"_law_fault", "_law_fault", (top 26), (["deed", "fault"] : List Str), (["deed"] : List Str)⟩, "deed", "fault", ⟨[(0, .tag (PySem.Str.ofString "number") 4), (1, .tag (PySem.Str.ofString "large") 5)], (PySem.Str.ofString "none")⟩⟩] }
theorem bnd : AllB (tx.dfs.map (·.1) ++ (tx.exs.map (·.d) ++ (tx.flts.map (·.d) ++ [df24]))) := ⟨fun _ _ _ _ _ _ us hl => match us, hl with | [_], _ => rfl,
  fun _ _ _ _ _ _ us hl => match us, hl with | [_, _, _], _ => rfl,
  fun _ _ _ _ _ _ us hl => match us, hl with | [_, _], _ => rfl,
  fun _ _ _ _ _ _ us hl => match us, hl with | [_, _], _ => rfl,
  fun _ _ _ _ _ _ us hl => match us, hl with | [_, _, _], _ => rfl,
  fun _ _ _ _ _ _ us hl => match us, hl with | [_], _ => rfl,
  fun _ _ _ _ _ _ us hl => match us, hl with | [_, _, _, _], _ => rfl,
  fun _ _ _ _ _ _ us hl => match us, hl with | [_, _], _ => rfl,
  fun _ _ _ _ _ _ us hl => match us, hl with | [_, _], _ => rfl,
  fun _ _ _ _ _ _ us hl => match us, hl with | [_, _], _ => rfl,
  fun _ _ _ _ _ _ us hl => match us, hl with | [_, _], _ => rfl,
  fun _ _ _ _ _ _ us hl => match us, hl with | [_, _], _ => rfl,
  fun _ _ _ _ _ _ us hl => match us, hl with | [_], _ => rfl,
  fun _ _ _ _ _ _ us hl => match us, hl with | [_, _, _], _ => rfl,
  fun _ _ _ _ _ _ us hl => match us, hl with | [_, _, _], _ => rfl,
  fun _ _ _ _ _ _ us hl => match us, hl with | [_, _, _], _ => rfl,
  fun _ _ _ _ _ _ us hl => match us, hl with | [_, _], _ => rfl,
  fun _ _ _ _ _ _ us hl => match us, hl with | [_], _ => rfl,
  fun _ _ _ _ _ _ us hl => match us, hl with | [_, _], _ => rfl,
  fun _ _ _ _ _ _ us hl => match us, hl with | [_, _, _], _ => rfl,
  fun _ _ _ _ _ _ us hl => match us, hl with | [_, _, _, _, _], _ => rfl,
  fun _ _ _ _ _ _ us hl => match us, hl with | [_], _ => rfl,
  fun _ _ _ _ _ _ us hl => match us, hl with | [_, _], _ => rfl,
  fun _ _ _ _ _ _ us hl => match us, hl with | [_, _, _], _ => rfl,
  fun _ _ _ _ _ _ us hl => match us, hl with | [_, _], _ => rfl,
  fun _ _ _ _ _ _ us hl => match us, hl with | [_, _], _ => rfl,
  fun _ _ _ _ _ _ us hl => match us, hl with | [_], _ => rfl,
  fun _ _ _ _ _ _ us hl => match us, hl with | [_], _ => rfl, trivial⟩
theorem txOf : tx.Of prog := ⟨rfl, rfl, rfl, rfl, rfl, by funext c; match c with | 0 => rfl | 1 => rfl | _ + 2 => rfl, by funext c; match c with | 0 => rfl | _ + 1 => rfl⟩
theorem txS : tx.OkS prog := ⟨by decide +kernel, rfl, rfl, rfl, by decide +kernel, by decide +kernel, by decide +kernel, by decide +kernel, by decide +kernel, by decide +kernel, by decide +kernel, by decide +kernel, by decide +kernel⟩
theorem lawB : dfB tb df24 true f24 = true := by decide +kernel
abbrev R : PySem.W.OpenRow := PySem.W.OpenLaw.row PySem.Challenge.rw_pointorstrip_k56_whole_parting
abbrev hk : PySem.W.Hook := He.hookX 5 [] (tx.fn (df24, lawAt)) [] (Tx.tf true) (exL tx)
def ob (s : PySem.W.SharedT) : He.AlX := He.obsX 5 [] (tx.fn (df24, lawAt)) [] (Tx.tf true) (exL tx) (HandSHeadRun.getT s)
theorem ob_eq (s : PySem.W.SharedT) : ob s = hk.obs s.abs := He.obsX_eq (HandSHeadRun.getT_eq s)
def loose0 : List Str := (["PlaneError", "BadNumber", "TooLarge", "is_number", "MOST_POINTS", "Parted", "Meeting", "middle_of", "check_points", "parting_row", "area", "balance", "meeting_by", "lots_of", "part", "_law_number", "_law_take", "_law_pick", "_law_is_number", "_law_points", "_law_middle", "_law_is_right", "_law_fault"] : List Str)
abbrev loose : List Str := loose0
end K56

set_option Elab.async false
set_option linter.all false
set_option maxRecDepth 100000
set_option maxHeartbeats 0
namespace K56
open PySem PySem.Spec PyProof.Rows L2 Rx
theorem run (w : World) : HandSHeadRun.RunEq R (PySem.W.view R.prog [27]) hk ob 8000 loose w := by
  intro os
  kernel_rfl
end K56

set_option Elab.async false
set_option linter.all false
set_option maxRecDepth 100000
namespace K56
open PySem PySem.Spec PyProof.Rows L2 Rx
theorem bits_nat {z : Int} (h : Builtin.Int.intBits z ≤ 1048576) : z.natAbs < 2 ^ 1048576 := by
  unfold Builtin.Int.intBits at h
  split at h
  · rename_i e
    rw [beq_iff_eq.mp e]
    exact Nat.two_pow_pos _
  · rename_i e
    have e : z ≠ 0 := fun q => e (by rw [q]; rfl)
    exact (Nat.log2_lt (by omega)).mp (by omega)
theorem law_all (ns : List Int) (hl : ns.length ≤ 63) (hb : ∀ z ∈ ns, Builtin.Int.intBits z ≤ 1048576) : ∃ os, prog.call (6 + 1) 24 [.frz (.scr ns)] = .ok (.frz (.bl true), os) :=
  ⟨_, law_ok (n := 1) ⟨hl, fun z hz => bits_nat (hb z hz)⟩⟩
end K56
open PySem PySem.W PySem.Calls PyProof.Rows
set_option maxRecDepth 100000 in
set_option maxHeartbeats 0 in
theorem PySem.Challenge.cw_pointorstrip_k56_whole_parting_holds : PySem.Challenge.rw_pointorstrip_k56_whole_parting.Holds := by
  w_on; o_law
  refine HandSHeadRun.head_any (r := OpenLaw.row PySem.Challenge.rw_pointorstrip_k56_whole_parting) (q := view (OpenLaw.row PySem.Challenge.rw_pointorstrip_k56_whole_parting).prog [27]) (H := K56.hk) (ob := K56.ob) (M := 8000) (loose := K56.loose) (d := HandSHeadRun.topDef (OpenLaw.row PySem.Challenge.rw_pointorstrip_k56_whole_parting).prog 27) (kwd := []) K56.ob_eq
    (by kernel_rfl) (fun s => by kernel_rfl) K56.run (by kernel_rfl) (by kernel_rfl) (by kernel_rfl) (by rfl) (by first | assumption | decide +kernel) (by decide +kernel) ⟨rfl, rfl, rfl, rfl, rfl, by decide +kernel⟩ ?hw ?hc
  case hw => w_witness2
  case hc =>
    refine LamX.walk_ofTsE (l := PySem.Challenge.rw_pointorstrip_k56_whole_parting) (n := 63) (k := Rx.lev 6 + 5) (x := "script") (CX := fun w => L2.CX (PySem.Challenge.rw_pointorstrip_k56_whole_parting).prog w) rfl (by decide) (by kernel_rfl) (Rx.lev_room (by decide)) ?F (fun w H s e s' z => by
      obtain ⟨_, _, _, _, _, _, _, _, _, _, _, _, z⟩ := z
      exact z)
    intro w mg fa h Y G hmg0
    obtain ⟨K, KX, c⟩ := Y
    have hmg : mg ("law" : PySem.Str) = some (.ref fa) := by
      have e : (HandSHeadRun.topDef (OpenLaw.row PySem.Challenge.rw_pointorstrip_k56_whole_parting).prog 27).name = ("law" : PySem.Str) := by kernel_rfl
      rw [← e]
      exact hmg0
    exact ⟨K, KX, Rx.lawAt_of rfl (Rx.lawTop_of K56.txOf K56.txS K56.bnd rfl (fn := K56.f24) rfl K56.lawB KX G hmg c) K56.law_all⟩


