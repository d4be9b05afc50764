import PyProof.Rows.All
import Wide.All
import OpenK.AllK
import Wide.FinOn
import KE.SortData
import HandS.ForMost
import HandS.Defaults
import HandS.TupAny
import HandS.DictComp
import HandS.Flow
import HandS.IsInst
import KE.DataCmp
import HandS.Codes
import HandS.Style
import KE.DataMinMax
import KE.DataAny
import HandS.TupLen
import HandS.WordsDict
import HandS.More
import HandS.BoundList
import HandS.Conv
import HandS.Set
import KE.KStateDown
import HandS.Head0
import HandS.Head1
import HandS.Head2
import HandS.HeadEnd
import HandS.HeadHook1
import HandS.HeadHook2
import HandS.HeadHook3
import HandS.HeadHook4
import HandS.EndTab
import HandS.HeadWalk
import PySem.Challenge.RW_skein_k72_whole_searches_for_what_differ
section
set_option Elab.async false
set_option linter.all false
set_option maxRecDepth 100000
set_option maxHeartbeats 4000000
/-! SkA: pure data D, slots, the small language Ex, St and its evaluator. -/
namespace Sk
open PySem

/-- data: what a program's value is, without addresses; ref n: the n-th shared object -/
inductive D where
  | non | bl (b : Bool) | int (i : Int) | str (x : List Nat) | tup (xs : List D) | lst (xs : List D) | dct (kvs : List (D × D)) | ref (n : Nat)

mutual
def D.beq : D → D → Bool
  | .non, .non => true
  | .bl a, .bl b => a == b
  | .int a, .int b => a == b
  | .str a, .str b => a == b
  | .tup a, .tup b => D.beqs a b
  | .lst a, .lst b => D.beqs a b
  | .dct a, .dct b => D.beqk a b
  | .ref a, .ref b => a == b
  | _, _ => false
def D.beqs : List D → List D → Bool
  | [], [] => true
  | a :: as, b :: bs => D.beq a b && D.beqs as bs
  | _, _ => false
def D.beqk : List (D × D) → List (D × D) → Bool
  | [], [] => true
  | (k, a) :: as, (l, b) :: bs => D.beq k l && (D.beq a b && D.beqk as bs)
  | _, _ => false
end

mutual
theorem D.beq_eq : ∀ a b : D, D.beq a b = true → a = b
  | .non, b, h => by cases b <;> simp_all [D.beq]
  | .bl _, b, h => by cases b <;> simp_all [D.beq]
  | .int _, b, h => by cases b <;> simp_all [D.beq]
  | .str _, b, h => by cases b <;> simp_all [D.beq]
  | .tup xs, b, h => by
    cases b <;> simp only [D.beq, Bool.false_eq_true] at h
    rw [D.beqs_eq xs _ h]
  | .lst xs, b, h => by
    cases b <;> simp only [D.beq, Bool.false_eq_true] at h
    rw [D.beqs_eq xs _ h]
  | .dct xs, b, h => by
    cases b <;> simp only [D.beq, Bool.false_eq_true] at h
    rw [D.beqk_eq xs _ h]
  | .ref _, b, h => by cases b <;> simp_all [D.beq]
theorem D.beqs_eq : ∀ a b : List D, D.beqs a b = true → a = b
  | [], b, h => by cases b <;> simp_all [D.beqs]
  | x :: xs, b, h => by
    cases b with
    | nil => simp [D.beqs] at h
    | cons y ys =>
      simp only [D.beqs, Bool.and_eq_true] at h
      rw [D.beq_eq x y h.1, D.beqs_eq xs ys h.2]
theorem D.beqk_eq : ∀ a b : List (D × D), D.beqk a b = true → a = b
  | [], b, h => by cases b <;> simp_all [D.beqk]
  | (k, x) :: xs, b, h => by
    cases b with
    | nil => simp [D.beqk] at h
    | cons y ys =>
      obtain ⟨l, y⟩ := y
      simp only [D.beqk, Bool.and_eq_true] at h
      rw [D.beq_eq k l h.1, D.beq_eq x y h.2.1, D.beqk_eq xs ys h.2.2]
end
mutual
theorem D.beq_refl : ∀ a : D, D.beq a a = true
  | .non => rfl
  | .bl _ => by simp [D.beq]
  | .int _ => by simp [D.beq]
  | .str _ => by simp [D.beq]
  | .tup xs => by rw [D.beq]; exact D.beqs_refl xs
  | .lst xs => by rw [D.beq]; exact D.beqs_refl xs
  | .dct xs => by rw [D.beq]; exact D.beqk_refl xs
  | .ref _ => by simp [D.beq]
theorem D.beqs_refl : ∀ a : List D, D.beqs a a = true
  | [] => rfl
  | x :: xs => by rw [D.beqs, D.beq_refl x, D.beqs_refl xs]; rfl
theorem D.beqk_refl : ∀ a : List (D × D), D.beqk a a = true
  | [] => rfl
  | (k, x) :: xs => by rw [D.beqk, D.beq_refl k, D.beq_refl x, D.beqk_refl xs]; rfl
end
instance : DecidableEq D := fun a b => if h : D.beq a b = true then isTrue (D.beq_eq a b h) else isFalse fun e => h (e ▸ D.beq_refl a)

mutual
def toPy : D → PyData
  | .non => .none
  | .bl b => .bool b
  | .int i => .int i
  | .str x => .str ⟨x.toArray⟩
  | .tup xs => .tuple (toPys xs)
  | .lst xs => .list (toPys xs)
  | .dct _ => .dict []
  | .ref _ => .dict []
def toPys : List D → List PyData
  | [] => []
  | x :: xs => toPy x :: toPys xs
end
theorem toPys_map : ∀ xs : List D, toPys xs = xs.map toPy
  | [] => rfl
  | x :: xs => by rw [toPys, toPys_map xs]; rfl

/-- no dict and no shared object within, at most n deep -/
def okN : Nat → D → Bool
  | _, .non | _, .bl _ | _, .int _ | _, .str _ => true
  | n + 1, .tup xs => xs.all (okN n)
  | n + 1, .lst xs => xs.all (okN n)
  | _, _ => false
/-- a == b, a < b of data -/
def eqD (a b : D) : Bool := PyData.eqv (toPy a) (toPy b)
def ltD (a b : D) : Bool := PySem.W.dataLt (toPy a) (toPy b)
def alikeD (a b : D) : Bool := PySem.W.alike (toPy a) (toPy b)
def okEq (a b : D) : Bool := okN 20 a && (okN 20 b && alikeD a b)
def notNon : D → Bool
  | .non => false
  | _ => true
def okLt (a b : D) : Bool := notNon a && (okN 20 a && (okN 20 b && alikeD a b))
def okSort (xs : List D) : Bool := xs.all fun a => xs.all fun b => okLt a b
/-- sorted wants: all tuples that are not empty, or none a tuple -/
def tupNe : D → Bool
  | .tup (_ :: _) => true
  | _ => false
def notTup : D → Bool
  | .tup _ => false
  | .non => false
  | _ => true
def sortD (xs : List D) : List D := xs.mergeSort (PySem.W.dataLe false toPy)

/-- keys of dicts -/
def atomEq : D → D → Bool
  | .int i, .int j => i == j
  | .str x, .str y => x == y
  | _, _ => false
def atomsEq : List D → List D → Bool
  | [], [] => true
  | a :: as, b :: bs => atomEq a b && atomsEq as bs
  | _, _ => false
def keyEq : D → D → Bool
  | .tup xs, .tup ys => atomsEq xs ys
  | a, b => atomEq a b
def isAtom : D → Bool
  | .int _ => true
  | .str _ => true
  | _ => false
def isKeyT : D → Bool
  | .tup xs => xs.all isAtom
  | _ => false
def lookD (k : D) : List (D × D) → Option D
  | [] => none
  | (l, v) :: r => if keyEq l k then some v else lookD k r
def putD (k v : D) (kvs : List (D × D)) : List (D × D) := if kvs.any (fun p => keyEq p.1 k) = true then kvs.map fun p => if keyEq p.1 k = true then (p.1, v) else p else kvs ++ [(k, v)]
/-- the dict holds keys of the same sort as k (atoms, or tuples of atoms) -/
def fitsKey (k : D) (kvs : List (D × D)) : Bool := if isAtom k then kvs.all (fun p => isAtom p.1) else isKeyT k && kvs.all (fun p => isKeyT p.1)

/-- a local name: nothing, a shared value, an own list or dict, a lent list or dict -/
inductive Sl where
  | un | val (d : D) | own (d : D) | bor (d : D)
  deriving DecidableEq
/-- what an expression gives: a shared value, a new list or dict, or the list or dict that a local name has -/
inductive RV where
  | val (d : D) | own (d : D) | bor (i : Nat)
  deriving DecidableEq
/-- a shared object -/
inductive MO where
  | dct (kvs : List (D × D))
  /-- a list from outside: read, never written -/
  | scr (xs : List D)
abbrev MH := List MO
structure S where
  ρ : List Sl
  mh : MH
inductive Er where
  | bad (n : Nat)
  | exn (cls : Nat) (d : D) (s : S)
abbrev Rs (α : Type) := Except Er (α × S)
abbrev bad {α : Type} (n : Nat) : Except Er α := .error (.bad n)

def content : Sl → Option D
  | .un => none
  | .val d => some d
  | .own d => some d
  | .bor d => some d
def slotAt (s : S) (i : Nat) : Sl := s.ρ.getD i .un
/-- what is to be read -/
def peek (r : RV) (s : S) : Except Er D := match r with
  | .val d => .ok d
  | .own d => .ok d
  | .bor i => match content (slotAt s i) with
    | some d => .ok d
    | none => bad 1
/-- what is shared from now on -/
def freeze (r : RV) (s : S) : Rs D := match r with
  | .val d => .ok (d, s)
  | .own d => .ok (d, s)
  | .bor i => match slotAt s i with
    | .own d => .ok (d, { s with ρ := s.ρ.set i (.val d) })
    | .val d => .ok (d, s)
    | _ => bad 2

inductive BOp where
  | add | sub | mul | fdiv | md | pow
inductive COp where
  | eq | ne | lt | le | gt | ge | inn | nin
inductive Ty where
  | int | bool | str | tuple
  deriving DecidableEq
inductive Bi where
  | len | list | listr | tuple | sorted | sortset | min | abs | int | str | ord | all | any
inductive Me where
  | join | split | get
inductive Mu where
  | append | extend | pop | popi
inductive Tg where
  | nm (i : Nat) | tp (is : List Nat)

inductive Ex where
  | lit (d : D) | var (i : Nat) | tup (es : List Ex) | lst (es : List Ex) | dnew | disp (ks : List D) (es : List Ex)
  | bin (op : BOp) (a b : Ex) | cmp (op : COp) (a b : Ex) | isnone (a : Ex) | isinst (a : Ex) (t : Ty)
  | and (a b : Ex) | or (a b : Ex) | not (a : Ex) | ife (c a b : Ex)
  | idx (a b : Ex) | slc (a lo hi : Ex) | rev (a : Ex)
  | call (f : Nat) (es : List Ex) | blt (b : Bi) (a : Ex) | meth (m : Me) (o : Ex) (es : List Ex) | mut (m : Mu) (i : Nat) (es : List Ex)
  | rng (es : List Ex)
  | lc (own : List Nat) (t : Tg) (it : Ex) (cs : List Ex) (elt : Ex)
  | lc2 (own own1 : List Nat) (t : Tg) (it : Ex) (cs : List Ex) (t1 : Tg) (it1 : Ex) (cs1 : List Ex) (elt : Ex)
  | dc (own : List Nat) (t : Tg) (it : Ex) (k v : Ex)
  /-- [d[x] for x in d], d in slot i -/
  | dvals (i : Nat)
inductive St where
  | ex (e : Ex) | asg (t : Tg) (e : Ex) | par (i j : Nat) (a b : Ex) | sub (i : Nat) (k e : Ex)
  | ret (e : Ex) | ife (c : Ex) (a b : List St) | whl (c : Ex) (b : List St) | for_ (t : Tg) (it : Ex) (b : List St)
  | brk | cnt | pass | never
inductive Fl where
  | nx | brk | ct | ret (r : RV)

/-- the context: how a def is called; how often a while may turn -/
structure Ctx where
  call : Nat → List Sl → MH → Except Er (RV × MH)
  /-- the parameters that a def keeps -/
  esc : Nat → List Nat
  N : Nat

def sz : Nat := 16777216

def binD : BOp → D → D → Except Er RV
  | .add, .int i, .int j => .ok (.val (.int (i + j)))
  | .add, .str x, .str y => if x.length + y.length ≤ sz then .ok (.val (.str (x ++ y))) else bad 3
  | .add, .tup x, .tup y => if x.length + y.length ≤ sz then .ok (.val (.tup (x ++ y))) else bad 4
  | .add, .lst x, .lst y => if x.length + y.length ≤ sz then .ok (.own (.lst (x ++ y))) else bad 5
  | .sub, .int i, .int j => .ok (.val (.int (i - j)))
  | .mul, .int i, .int j => if i.natAbs < 2 ^ 64 ∨ j.natAbs < 2 ^ 64 then .ok (.val (.int (i * j))) else bad 6
  | .fdiv, .int i, .int j => if 0 < j ∧ j < 1073741824 then .ok (.val (.int (i / j))) else bad 7
  | .md, .int i, .int j => if 0 < j then .ok (.val (.int (i % j))) else bad 8
  | .pow, .int i, .int j => if 0 ≤ j ∧ j ≤ 1000000 ∧ i.natAbs < 2 ^ 64 then .ok (.val (.int (i ^ j.toNat))) else bad 9
  | _, _, _ => bad 10
def memD (x : D) (xs : List D) : Bool := xs.any fun y => eqD y x
def cmpD : COp → D → D → Except Er Bool
  | .eq, a, b => if okEq a b then .ok (eqD a b) else bad 11
  | .ne, a, b => if okEq a b then .ok (!eqD a b) else bad 12
  | .lt, a, b => if okLt a b then .ok (ltD a b) else bad 13
  | .le, a, b => if okLt a b then .ok (!ltD b a) else bad 107
  | .gt, a, b => if okLt a b then .ok (ltD b a) else bad 108
  | .ge, a, b => if okLt a b then .ok (!ltD a b) else bad 109
  | .inn, a, .lst xs => if xs.all (fun y => okEq y a) then .ok (memD a xs) else bad 14
  | .inn, a, .tup xs => if xs.all (fun y => okEq y a) then .ok (memD a xs) else bad 15
  | .inn, a, .dct kvs => if fitsKey a kvs then .ok (lookD a kvs).isSome else bad 16
  | .nin, a, .lst xs => if xs.all (fun y => okEq y a) then .ok (!memD a xs) else bad 17
  | .nin, a, .tup xs => if xs.all (fun y => okEq y a) then .ok (!memD a xs) else bad 18
  | .nin, a, .dct kvs => if fitsKey a kvs then .ok (!(lookD a kvs).isSome) else bad 19
  | _, _, _ => bad 20
def truth : D → Except Er Bool
  | .non => .ok false
  | .bl b => .ok b
  | .int i => .ok (i != 0)
  | .str x => if x.length ≤ sz then .ok (!x.isEmpty) else bad 111
  | .tup x => .ok (!x.isEmpty)
  | .lst x => .ok (!x.isEmpty)
  | .dct _ => bad 117
  | .ref _ => bad 21
def isTy : Ty → D → Except Er Bool
  | .int, .int _ => .ok true
  | .int, .bl _ => .ok true
  | .bool, .bl _ => .ok true
  | .str, .str _ => .ok true
  | .tuple, .tup _ => .ok true
  | _, .ref _ => bad 22
  | _, _ => .ok false
def idxD (mh : MH) : D → D → Except Er D
  | .lst xs, .int i => match L2.atI xs i with
    | some d => .ok d
    | none => bad 23
  | .tup xs, .int i => match L2.atI xs i with
    | some d => .ok d
    | none => bad 24
  | .str x, .int i => if x.length ≤ sz then (match L2.atI x i with
    | some c => .ok (.str [c])
    | none => bad 25) else bad 113
  | .dct kvs, k => if fitsKey k kvs then (match lookD k kvs with
    | some d => .ok d
    | none => bad 26) else bad 27
  | .ref n, k => match mh[n]? with
    | some (.dct kvs) => if isAtom k then (match lookD k kvs with
      | some d => .ok d
      | none => bad 28) else bad 29
    | some (.scr xs) => (match k with
      | .int i => (match L2.atI xs i with
        | some d => .ok d
        | none => bad 104)
      | _ => bad 105)
    | none => bad 30
  | _, _ => bad 31
def part : D → Except Er (Option Int)
  | .non => .ok none
  | .int i => .ok (some i)
  | _ => bad 32
def cutD {α : Type} (xs : List α) (lo hi : Option Int) : List α := (xs.drop (HT.sIx xs.length 0 lo)).take (HT.sIx xs.length xs.length hi - HT.sIx xs.length 0 lo)
def slcD (lo hi : Option Int) : D → Except Er RV
  | .lst xs => .ok (.own (.lst (cutD xs lo hi)))
  | .tup xs => .ok (.val (.tup (cutD xs lo hi)))
  | .str x => if x.length ≤ sz then .ok (.val (.str (cutD x lo hi))) else bad 114
  | _ => bad 33
def revD : D → Except Er RV
  | .lst xs => .ok (.own (.lst xs.reverse))
  | _ => bad 34
def joinAll (x : List Nat) : List (List Nat) → List Nat
  | [] => []
  | [a] => a
  | a :: b :: r => a ++ (x ++ joinAll x (b :: r))
def txts : List D → Option (List (List Nat))
  | [] => some []
  | .str x :: r => (txts r).map (x :: ·)
  | _ :: _ => none
/-- the different items, each once (which of several equal ones, and the order: no matter behind sorted) -/
def dedup : List D → List D
  | [] => []
  | x :: xs => if memD x xs then dedup xs else x :: dedup xs
def allStr : List D → Bool := fun xs => xs.all fun x => match x with
  | .str _ => true
  | _ => false
def minD : D → List D → D
  | m, [] => m
  | m, x :: xs => minD (if ltD x m then x else m) xs
def boolAll : List D → Option Bool
  | [] => some true
  | .bl b :: r => (boolAll r).map (b && ·)
  | _ :: _ => none
def boolAny : List D → Option Bool
  | [] => some false
  | .bl b :: r => (boolAny r).map (b || ·)
  | _ :: _ => none
def bltD : Bi → D → Except Er RV
  | .len, .lst xs => .ok (.val (.int xs.length))
  | .len, .tup xs => .ok (.val (.int xs.length))
  | .len, .str x => if x.length ≤ sz then .ok (.val (.int x.length)) else bad 112
  | .len, .dct x => .ok (.val (.int x.length))
  | .list, .lst xs => .ok (.own (.lst xs))
  | .list, .tup xs => .ok (.own (.lst xs))
  | .listr, .lst xs => if xs.length ≤ sz then .ok (.own (.lst xs)) else bad 118
  | .tuple, .lst xs => .ok (.val (.tup xs))
  | .tuple, .tup xs => .ok (.val (.tup xs))
  | .sorted, .lst xs => if okSort xs && (xs.all tupNe || xs.all notTup) then .ok (.own (.lst (sortD xs))) else bad 35
  | .sorted, .tup xs => if okSort xs && (xs.all tupNe || xs.all notTup) then .ok (.own (.lst (sortD xs))) else bad 35
  | .sorted, .dct kvs => if okSort (kvs.map (·.1)) && allStr (kvs.map (·.1)) then .ok (.own (.lst (sortD (kvs.map (·.1))))) else bad 36
  | .sortset, .lst xs => if allStr xs && decide (xs.length < 4000) then .ok (.own (.lst (sortD (dedup xs)))) else bad 37
  | .min, .lst (x :: xs) => if okSort (x :: xs) then .ok (.val (minD x xs)) else bad 38
  | .abs, .int i => .ok (.val (.int (if i < 0 then -i else i)))
  | .int, .int i => .ok (.val (.int i))
  | .int, .str x => match PySem.intText? ⟨x.toArray⟩ with
    | some n => if x.length ≤ 640 then .ok (.val (.int n)) else bad 42
    | none => bad 43
  | .str, .int i => if i.natAbs.log2 < 1920 then .ok (.val (.str (toString i : Str).cps.toList)) else bad 44
  | .ord, .str [c] => .ok (.val (.int c))
  | .all, .lst xs => match boolAll xs with
    | some b => .ok (.val (.bl b))
    | none => bad 39
  | .any, .lst xs => match boolAny xs with
    | some b => .ok (.val (.bl b))
    | none => bad 40
  | _, _ => bad 41
def bltM (mh : MH) (b : Bi) (x : D) : Except Er RV := match b, x with
  | .len, .ref n => (match mh[n]? with
    | some (.scr xs) => .ok (.val (.int xs.length))
    | _ => bad 106)
  | b, x => bltD b x
def methD : Me → D → List D → Except Er RV
  | .join, .str x, [.lst ys] => match txts ys with
    | some ts => if (ts.map (·.length)).sum + ts.length * x.length ≤ sz then .ok (.val (.str (joinAll x ts))) else bad 45
    | none => bad 46
  | .split, .str x, [.str y] => if y.length ≠ 0 ∧ x.length + 2 ≤ sz then .ok (.own (.lst ((PySem.Txt.split ⟨x.toArray⟩ ⟨y.toArray⟩).map fun z => .str z.cps.toList))) else bad 47
  | .get, .dct kvs, [k, d] => if fitsKey k kvs then .ok (.val ((lookD k kvs).getD d)) else bad 48
  | _, _, _ => bad 49
/-- an own list that a local name has, changed: the result, the list -/
def mutD : Mu → List D → List D → Except Er (D × List D)
  | .append, xs, [d] => if xs.length < sz then .ok (.non, xs ++ [d]) else bad 50
  | .extend, xs, [.lst ys] => if xs.length + ys.length ≤ sz then .ok (.non, xs ++ ys) else bad 51
  | .extend, xs, [.tup ys] => if xs.length + ys.length ≤ sz then .ok (.non, xs ++ ys) else bad 52
  | .pop, xs, [] => match xs[xs.length - 1]? with
    | some d => .ok (d, xs.dropLast)
    | none => bad 53
  | .popi, xs, [.int i] => if 0 ≤ i then (match xs[i.toNat]? with
    | some d => .ok (d, xs.eraseIdx i.toNat)
    | none => bad 54) else bad 55
  | _, _, _ => bad 56
/-- what is walked, item by item -/
def itemsD : D → Except Er (List D)
  | .lst xs => .ok xs
  | .tup xs => .ok xs
  | .str x => .ok (x.map fun c => .str [c])
  | _ => bad 57
/-- .. by a comprehension -/
def itemsC : D → Except Er (List D)
  | .str x => if x.length ≤ sz then .ok (x.map fun c => .str [c]) else bad 122
  | d => itemsD d
def rngD : List D → Except Er (List D)
  | [.int j] => if -4611686018427387904 ≤ j ∧ j ≤ 16777216 then .ok ((List.range j.toNat).map fun (k : Nat) => .int (k : Int)) else bad 58
  | [.int i, .int j] => if -16777216 ≤ i ∧ i ≤ 16777216 ∧ -16777216 ≤ j ∧ j ≤ 16777216 ∧ j - i ≤ 16777216 then .ok ((List.range (j - i).toNat).map fun (k : Nat) => .int (i + (k : Int))) else bad 59
  | _ => bad 60
def asgAll : List Nat → List D → S → Except Er S
  | [], [], s => .ok s
  | i :: is, d :: ds, s => asgAll is ds { s with ρ := s.ρ.set i (.val d) }
  | _, _, _ => bad 61
def asgD (t : Tg) (d : D) (s : S) : Except Er S := match t with
  | .nm i => .ok { s with ρ := s.ρ.set i (.val d) }
  | .tp is => match d with
    | .tup ds => asgAll is ds s
    | _ => bad 62
/-- name = value -/
def asgR (t : Tg) (r : RV) (s : S) : Except Er S := match t, r with
  | .nm i, .val d => .ok { s with ρ := s.ρ.set i (.val d) }
  | .nm i, .own d => .ok { s with ρ := s.ρ.set i (.own d) }
  | .nm i, .bor j => match slotAt s j with
    | .own d => .ok { s with ρ := (s.ρ.set j (.val d)).set i (.val d) }
    | .val d => .ok { s with ρ := s.ρ.set i (.val d) }
    | .bor d => .ok { s with ρ := s.ρ.set i (.bor d) }
    | .un => bad 63
  | .tp is, r => match peek r s with
    | .ok (.tup ds) => asgAll is ds s
    | .ok _ => bad 64
    | .error e => .error e
def wipeS (own : List Nat) (s : S) : S := { s with ρ := own.foldl (fun ρ i => ρ.set i .un) s.ρ }
def backS (own : List Nat) (s₀ s : S) : S := { s with ρ := own.foldl (fun ρ i => ρ.set i (s₀.ρ.getD i .un)) s.ρ }
/-- the name that is walked has still what it had -/
def still (r : RV) (s s' : S) : Bool := match r with
  | .bor i => decide (content (slotAt s i) = content (slotAt s' i))
  | _ => true
def lcLoop (f : D → S → Rs (Option D)) : List D → List D → S → Rs (List D)
  | [], acc, s => .ok (acc, s)
  | x :: xs, acc, s => match f x s with
    | .ok (some d, s') => lcLoop f xs (acc ++ [d]) s'
    | .ok (none, s') => lcLoop f xs acc s'
    | .error e => .error e
def lc2Loop (f : D → List D → S → Rs (List D)) : List D → List D → S → Rs (List D)
  | [], acc, s => .ok (acc, s)
  | x :: xs, acc, s => match f x acc s with
    | .ok (acc', s') => lc2Loop f xs acc' s'
    | .error e => .error e
def dcLoop (f : D → S → Rs (D × D)) : List D → List (D × D) → S → Rs (List (D × D))
  | [], acc, s => .ok (acc, s)
  | x :: xs, acc, s => match f x s with
    | .ok ((k, v), s') => if isAtom k && decide (acc.length < sz) then dcLoop f xs (putD k v acc) s' else bad 65
    | .error e => .error e
def forLoop (f : D → S → Rs Fl) : List D → S → Rs Fl
  | [], s => .ok (.nx, s)
  | x :: xs, s => match f x s with
    | .ok (.nx, s') => forLoop f xs s'
    | .ok (.ct, s') => forLoop f xs s'
    | .ok (.brk, s') => .ok (.nx, s')
    | .ok (.ret r, s') => .ok (.ret r, s')
    | .error e => .error e
def whLoop (t : S → Rs Bool) (f : S → Rs Fl) : Nat → S → Rs Fl
  | 0, _ => bad 66
  | n + 1, s => match t s with
    | .ok (false, s') => .ok (.nx, s')
    | .ok (true, s') => (match f s' with
      | .ok (.nx, s2) => whLoop t f n s2
      | .ok (.ct, s2) => whLoop t f n s2
      | .ok (.brk, s2) => .ok (.nx, s2)
      | .ok (.ret r, s2) => .ok (.ret r, s2)
      | .error e => .error e)
    | .error e => .error e
/-- an argument as the def gets it: kept, or lent -/
def toSl (keep : Bool) (r : RV) (s : S) : Rs Sl := match r with
  | .val d => .ok (.val d, s)
  | .own d => .ok (if keep then .val d else .bor d, s)
  | .bor i => match slotAt s i with
    | .val d => .ok (.val d, s)
    | .own d => .ok (if keep then (.val d, { s with ρ := s.ρ.set i (.val d) }) else (.bor d, s))
    | .bor d => if keep then bad 67 else .ok (.bor d, s)
    | .un => bad 68
def toSls (esc : List Nat) : Nat → List RV → S → Rs (List Sl)
  | _, [], s => .ok ([], s)
  | n, r :: rs, s => match toSl (esc.contains n) r s with
    | .ok (x, s') => (match toSls esc (n + 1) rs s' with
      | .ok (xs, s2) => .ok (x :: xs, s2)
      | .error e => .error e)
    | .error e => .error e
def boolOf : D → Except Er Bool
  | .bl b => .ok b
  | _ => bad 69

/-- the value as a test -/
def testR : Rs RV → Rs Bool
  | .ok (r, s1) => (match peek r s1 with
    | .ok d => (match truth d with
      | .ok b => .ok (b, s1)
      | .error e => .error e)
    | .error e => .error e)
  | .error e => .error e
/-- what is walked: shared from now on, or lent -/
def iterF (r : RV) (s : S) : Rs D := match r with
  | .val d => .ok (d, s)
  | .own d => .ok (d, s)
  | .bor i => match slotAt s i with
    | .own d => .ok (d, { s with ρ := s.ρ.set i (.val d) })
    | .val d => .ok (d, s)
    | .bor d => .ok (d, s)
    | .un => bad 123
def iterR (items : D → Except Er (List D)) : Rs RV → Rs (List D)
  | .ok (r, s1) => (match iterF r s1 with
    | .ok (d, s2) => (match items d with
      | .ok xs => .ok (xs, s2)
      | .error e => .error e)
    | .error e => .error e)
  | .error e => .error e
section
variable (c : Ctx)
mutual
def evE : Ex → S → Rs RV
  | .lit d, s => .ok (.val d, s)
  | .var i, s => match slotAt s i with
    | .val d => .ok (.val d, s)
    | .own _ => .ok (.bor i, s)
    | .bor _ => .ok (.bor i, s)
    | .un => bad 70
  | .tup es, s => match evA es s with
    | .ok (ds, s') => if ds.length ≤ sz then .ok (.val (.tup ds), s') else bad 71
    | .error e => .error e
  | .lst es, s => match evA es s with
    | .ok (ds, s') => if ds.length ≤ sz then .ok (.own (.lst ds), s') else bad 72
    | .error e => .error e
  | .dnew, s => .ok (.own (.dct []), s)
  | .disp ks es, s => match evA es s with
    | .ok (ds, s') => .ok (.val (.ref s'.mh.length), { s' with mh := s'.mh ++ [.dct (ks.zip ds)] })
    | .error e => .error e
  | .bin op a b, s => match evE a s with
    | .ok (ra, s1) => (match evE b s1 with
      | .ok (rb, s2) => (match peek ra s2, peek rb s2 with
        | .ok x, .ok y => (match binD op x y with
          | .ok r => .ok (r, s2)
          | .error e => .error e)
        | _, _ => bad 73)
      | .error e => .error e)
    | .error e => .error e
  | .cmp op a b, s => match evE a s with
    | .ok (ra, s1) => (match evE b s1 with
      | .ok (rb, s2) => (match peek ra s2, peek rb s2 with
        | .ok x, .ok y => (match cmpD op x y with
          | .ok r => .ok (.val (.bl r), s2)
          | .error e => .error e)
        | _, _ => bad 74)
      | .error e => .error e)
    | .error e => .error e
  | .isnone a, s => match evE a s with
    | .ok (ra, s1) => (match peek ra s1 with
      | .ok x => .ok (.val (.bl (decide (x = .non))), s1)
      | .error e => .error e)
    | .error e => .error e
  | .isinst a t, s => match evE a s with
    | .ok (ra, s1) => (match peek ra s1 with
      | .ok x => (match isTy t x with
        | .ok b => .ok (.val (.bl b), s1)
        | .error e => .error e)
      | .error e => .error e)
    | .error e => .error e
  | .and a b, s => match evE a s with
    | .ok (ra, s1) => (match peek ra s1 with
      | .ok x => (match truth x with
        | .ok true => evE b s1
        | .ok false => .ok (ra, s1)
        | .error e => .error e)
      | .error e => .error e)
    | .error e => .error e
  | .or a b, s => match evE a s with
    | .ok (ra, s1) => (match peek ra s1 with
      | .ok x => (match truth x with
        | .ok true => .ok (ra, s1)
        | .ok false => evE b s1
        | .error e => .error e)
      | .error e => .error e)
    | .error e => .error e
  | .not a, s => match testR (evE a s) with
    | .ok (k, s1) => .ok (.val (.bl !k), s1)
    | .error e => .error e
  | .ife t a b, s => match testR (evE t s) with
    | .ok (true, s1) => evE a s1
    | .ok (false, s1) => evE b s1
    | .error e => .error e
  | .idx a b, s => match evE a s with
    | .ok (ra, s1) => (match evE b s1 with
      | .ok (rb, s2) => (match peek ra s2, peek rb s2 with
        | .ok x, .ok y => (match idxD s2.mh x y with
          | .ok d => .ok (.val d, s2)
          | .error e => .error e)
        | _, _ => bad 75)
      | .error e => .error e)
    | .error e => .error e
  | .slc a lo hi, s => match evE a s with
    | .ok (ra, s1) => (match evE lo s1 with
      | .ok (.val l, s2) => (match evE hi s2 with
        | .ok (.val h, s3) => (match peek ra s3, part l, part h with
          | .ok x, .ok l, .ok h => (match slcD l h x with
            | .ok r => .ok (r, s3)
            | .error e => .error e)
          | _, _, _ => bad 76)
        | .ok _ => bad 77
        | .error e => .error e)
      | .ok _ => bad 78
      | .error e => .error e)
    | .error e => .error e
  | .rev a, s => match evE a s with
    | .ok (ra, s1) => (match peek ra s1 with
      | .ok x => (match revD x with
        | .ok r => .ok (r, s1)
        | .error e => .error e)
      | .error e => .error e)
    | .error e => .error e
  | .call f es, s => match evR es s with
    | .ok (rs, s1) => (match toSls (c.esc f) 0 rs s1 with
      | .ok (xs, s2) => (match c.call f xs s2.mh with
        | .ok (r, mh') => .ok (r, { s2 with mh := mh' })
        | .error e => .error e)
      | .error e => .error e)
    | .error e => .error e
  | .blt b a, s => match evE a s with
    | .ok (ra, s1) => (match peek ra s1 with
      | .ok x => (match bltM s1.mh b x with
        | .ok r => .ok (r, s1)
        | .error e => .error e)
      | .error e => .error e)
    | .error e => .error e
  | .meth m o es, s => match evE o s with
    | .ok (ro, s1) => (match peek ro s1 with
      | .ok x => (match evA es s1 with
        | .ok (ds, s2) => if still ro s1 s2 = true then (match methD m x ds with
          | .ok r => .ok (r, s2)
          | .error e => .error e) else bad 120
        | .error e => .error e)
      | .error e => .error e)
    | .error e => .error e
  | .mut m i es, s => match slotAt s i with
    | .own (.lst _) => (match evA es s with
      | .ok (ds, s1) => (match slotAt s1 i with
        | .own (.lst xs) => (match mutD m xs ds with
          | .ok (d, ys) => .ok (.val d, { s1 with ρ := s1.ρ.set i (.own (.lst ys)) })
          | .error e => .error e)
        | _ => bad 79)
      | .error e => .error e)
    | _ => bad 119
  | .rng es, s => match evA es s with
    | .ok (ds, s1) => (match rngD ds with
      | .ok xs => .ok (.val (.lst xs), s1)
      | .error e => .error e)
    | .error e => .error e
  | .lc own t it cs elt, s => match iterR itemsC (evE it s) with
    | .ok (xs, s1) => (match lcLoop (fun x s2 => match asgD t x s2 with
        | .ok s3 => (match evC cs s3 with
          | .ok (true, s4) => (match evE elt s4 with
            | .ok (re, s5) => (match freeze re s5 with
              | .ok (d, s6) => .ok (some d, wipeS own s6)
              | .error e => .error e)
            | .error e => .error e)
          | .ok (false, s4) => .ok (none, wipeS own s4)
          | .error e => .error e)
        | .error e => .error e) xs [] (wipeS own s1) with
      | .ok (ds, s7) => .ok (.own (.lst ds), backS own s1 s7)
      | .error e => .error e)
    | .error e => .error e
  | .lc2 own own1 t it cs t1 it1 cs1 elt, s => match iterR itemsC (evE it s) with
    | .ok (xs, s1) => (match lc2Loop (fun x acc s2 => match asgD t x s2 with
        | .ok s3 => (match evC cs s3 with
          | .ok (true, s4) => (match iterR itemsC (evE it1 s4) with
            | .ok (ys, s5) => if acc.length + ys.length ≤ sz then (match lcLoop (fun y s6 => match asgD t1 y s6 with
                | .ok s7 => (match evC cs1 s7 with
                  | .ok (true, s8) => (match evE elt s8 with
                    | .ok (re, s9) => (match freeze re s9 with
                      | .ok (d, s10) => .ok (some d, wipeS own1 s10)
                      | .error e => .error e)
                    | .error e => .error e)
                  | .ok (false, s8) => .ok (none, wipeS own1 s8)
                  | .error e => .error e)
                | .error e => .error e) ys acc (wipeS own1 s5) with
              | .ok (ds, s11) => .ok (ds, wipeS own s11)
              | .error e => .error e) else bad 86
            | .error e => .error e)
          | .ok (false, s4) => .ok (acc, wipeS own s4)
          | .error e => .error e)
        | .error e => .error e) xs [] (wipeS own s1) with
      | .ok (ds, s7) => .ok (.own (.lst ds), backS own s1 s7)
      | .error e => .error e)
    | .error e => .error e
  | .dc own t it k v, s => match iterR itemsC (evE it s) with
    | .ok (xs, s1) => (match dcLoop (fun x s2 => match asgD t x s2 with
        | .ok s3 => (match evE k s3 with
          | .ok (rk, s4) => (match freeze rk s4 with
            | .ok (dk, s5) => (match evE v s5 with
              | .ok (rv, s6) => (match freeze rv s6 with
                | .ok (dv, s7) => .ok ((dk, dv), wipeS own s7)
                | .error e => .error e)
              | .error e => .error e)
            | .error e => .error e)
          | .error e => .error e)
        | .error e => .error e) xs [] (wipeS own s1) with
      | .ok (ds, s7) => .ok (.own (.dct ds), backS own s1 s7)
      | .error e => .error e)
    | .error e => .error e
  | .dvals i, s => match slotAt s i with
    | .own (.dct kvs) => if kvs.all (fun p => isAtom p.1) then .ok (.own (.lst (kvs.map fun p => (lookD p.1 kvs).getD .non)), s) else bad 115
    | _ => bad 116
/-- values that are kept -/
def evA : List Ex → S → Rs (List D)
  | [], s => .ok ([], s)
  | e :: es, s => match evE e s with
    | .ok (r, s1) => (match freeze r s1 with
      | .ok (d, s2) => (match evA es s2 with
        | .ok (ds, s3) => .ok (d :: ds, s3)
        | .error e => .error e)
      | .error e => .error e)
    | .error e => .error e
/-- values as they come -/
def evR : List Ex → S → Rs (List RV)
  | [], s => .ok ([], s)
  | e :: es, s => match evE e s with
    | .ok (r, s1) => (match evR es s1 with
      | .ok (rs, s2) => .ok (r :: rs, s2)
      | .error e => .error e)
    | .error e => .error e
/-- tests one after the other -/
def evC : List Ex → S → Rs Bool
  | [], s => .ok (true, s)
  | e :: es, s => match testR (evE e s) with
    | .ok (true, s1) => evC es s1
    | .ok (false, s1) => .ok (false, s1)
    | .error e => .error e
end
mutual
def evS : St → S → Rs Fl
  | .ex e, s => match evE c e s with
    | .ok (_, s1) => .ok (.nx, s1)
    | .error e => .error e
  | .asg t e, s => match evE c e s with
    | .ok (r, s1) => (match asgR t r s1 with
      | .ok s2 => .ok (.nx, s2)
      | .error e => .error e)
    | .error e => .error e
  | .par i j a b, s => match evE c a s with
    | .ok (ra, s1) => (match evE c b s1 with
      | .ok (rb, s2) => (match ra, rb with
        | .bor _, _ => bad 90
        | _, .bor _ => bad 91
        | _, _ => (match asgR (.nm i) ra s2 with
          | .ok s3 => (match asgR (.nm j) rb s3 with
            | .ok s4 => .ok (.nx, s4)
            | .error e => .error e)
          | .error e => .error e))
      | .error e => .error e)
    | .error e => .error e
  | .sub i k e, s => match evE c e s with
    | .ok (r, s1) => (match freeze r s1 with
      | .ok (d, s2) => if (content (slotAt s2 i)).isSome = true then (match evE c k s2 with
        | .ok (.val dk, s3) => (match slotAt s3 i with
          | .own (.dct kvs) => if fitsKey dk kvs && decide (kvs.length < sz) then .ok (.nx, { s3 with ρ := s3.ρ.set i (.own (.dct (putD dk d kvs))) }) else bad 92
          | .val (.ref n) => (match s3.mh[n]? with
            | some (.dct kvs) => if isAtom dk && decide (kvs.length < sz) then .ok (.nx, { s3 with mh := s3.mh.set n (.dct (putD dk d kvs)) }) else bad 93
            | _ => bad 94)
          | _ => bad 95)
        | .ok _ => bad 96
        | .error e => .error e) else bad 124
      | .error e => .error e)
    | .error e => .error e
  | .ret e, s => match evE c e s with
    | .ok (r, s1) => .ok (.ret r, s1)
    | .error e => .error e
  | .ife t a b, s => match testR (evE c t s) with
    | .ok (true, s1) => evB a s1
    | .ok (false, s1) => evB b s1
    | .error e => .error e
  | .whl t b, s => whLoop (fun s => testR (evE c t s)) (evB b) c.N s
  | .for_ t it b, s => match iterR itemsD (evE c it s) with
    | .ok (xs, s1) => forLoop (fun x s2 => match asgD t x s2 with
        | .ok s3 => evB b s3
        | .error e => .error e) xs s1
    | .error e => .error e
  | .brk, s => .ok (.brk, s)
  | .cnt, s => .ok (.ct, s)
  | .pass, s => .ok (.nx, s)
  | .never, _ => bad 98
def evB : List St → S → Rs Fl
  | [], s => .ok (.nx, s)
  | t :: ts, s => match evS t s with
    | .ok (.nx, s1) => evB ts s1
    | .ok (f, s1) => .ok (f, s1)
    | .error e => .error e
end
end
/-- what a def hands back -/
def outR (r : RV) (s : S) : Except Er RV := match r with
  | .val d => .ok (.val d)
  | .own d => .ok (.own d)
  | .bor i => match slotAt s i with
    | .own d => .ok (.own d)
    | .val d => .ok (.val d)
    | _ => bad 99
structure Df where
  np : Nat
  ns : Nat
  body : List St
  esc : List Nat := []
/-- a call, at most k defs deep -/
def evF (pg : List Df) (N : Nat) : Nat → Nat → List Sl → MH → Except Er (RV × MH)
  | 0, _, _, _ => bad 100
  | k + 1, f, xs, mh => match pg[f]? with
    | none => bad 101
    | some d => if xs.length = d.np ∧ d.np ≤ d.ns then (match evB ⟨evF pg N k, fun g => ((pg[g]?).map Df.esc).getD [], N⟩ d.body ⟨xs ++ List.replicate (d.ns - d.np) .un, mh⟩ with
      | .ok (.ret r, s) => (match outR r s with
        | .ok r => .ok (r, s.mh)
        | .error e => .error e)
      | .ok (.nx, s) => .ok (.val .non, s.mh)
      | .ok _ => bad 102
      | .error e => .error e) else bad 103
end Sk

end

section
set_option Elab.async false
set_option linter.all false
set_option maxRecDepth 100000
set_option maxHeartbeats 4000000
/-! SkB: how the evaluator's states lie in the abstract heap. -/
namespace Sk
open PySem PySem.Spec PyProof.Rows L2

structure Wd where
  /-- what is shared and stays as it is -/
  Z : Addr → Prop
  /-- what others have and stays as it is -/
  P : Addr → Prop
  /-- what is lent to this def -/
  B : Addr → Prop
  ι : Nat → Addr
  n : Nat

def kD : Key → D
  | .inl i => .int i
  | .inr x => .str x.cps.toList
def tD (ks : List Key) : D := .tup (ks.map kD)

mutual
inductive VR (w : Wd) (H : Hp) : D → V → Prop
  | non : VR w H .non .non
  | bl (b : Bool) : VR w H (.bl b) (.bl b)
  | int (i : Int) : VR w H (.int i) (.int i)
  | str (x : List Nat) : VR w H (.str x) (.str ⟨x.toArray⟩)
  | tup {a : Addr} {vs : List V} {ds : List D} : w.Z a → H a = some (.tup vs) → VRs w H ds vs → VR w H (.tup ds) (.ref a)
  | lst {a : Addr} {vs : List V} {ds : List D} : w.Z a → H a = some (.lst vs) → VRs w H ds vs → VR w H (.lst ds) (.ref a)
  | dK {a : Addr} {kvs : List (Key × V)} {ds : List (D × D)} : w.Z a → H a = some (.dK kvs) → VRk w H ds (kvs.map fun p => (kD p.1, p.2)) → VR w H (.dct ds) (.ref a)
  | dT {a : Addr} {kvs : List (List Key × V)} {ds : List (D × D)} : w.Z a → H a = some (.dT kvs) → VRk w H ds (kvs.map fun p => (tD p.1, p.2)) → VR w H (.dct ds) (.ref a)
  | ref {n : Nat} : n < w.n → VR w H (.ref n) (.ref (w.ι n))
inductive VRs (w : Wd) (H : Hp) : List D → List V → Prop
  | nil : VRs w H [] []
  | cons {d : D} {ds : List D} {v : V} {vs : List V} : VR w H d v → VRs w H ds vs → VRs w H (d :: ds) (v :: vs)
inductive VRk (w : Wd) (H : Hp) : List (D × D) → List (D × V) → Prop
  | nil : VRk w H [] []
  | cons {k d : D} {ds : List (D × D)} {v : V} {vs : List (D × V)} : VR w H d v → VRk w H ds vs → VRk w H ((k, d) :: ds) ((k, v) :: vs)
end

/-- what is shared stays -/
structure Le (w : Wd) (H : Hp) (w' : Wd) (H' : Hp) : Prop where
  z : ∀ a, w.Z a → w'.Z a
  eq : ∀ a, w.Z a → H' a = H a
  ι : ∀ n, n < w.n → w'.ι n = w.ι n
  n : w.n ≤ w'.n
structure Ext (w : Wd) (H : Hp) (w' : Wd) (H' : Hp) : Prop extends Le w H w' H' where
  eqp : ∀ a, w.P a → H' a = H a
  p : w'.P = w.P
  b : w'.B = w.B
theorem Ext.refl (w : Wd) (H : Hp) : Ext w H w H := ⟨⟨fun _ h => h, fun _ _ => rfl, fun _ _ => rfl, Nat.le_refl _⟩, fun _ _ => rfl, rfl, rfl⟩
theorem Ext.trans {w w1 w2 : Wd} {H H1 H2 : Hp} (a : Ext w H w1 H1) (b : Ext w1 H1 w2 H2) : Ext w H w2 H2 :=
  ⟨⟨fun x h => b.z x (a.z x h), fun x h => (b.eq x (a.z x h)).trans (a.eq x h), fun n h => (b.ι n (Nat.lt_of_lt_of_le h a.n)).trans (a.ι n h), Nat.le_trans a.n b.n⟩,
    fun x h => (b.eqp x (by rw [a.p]; exact h)).trans (a.eqp x h), b.p.trans a.p, b.b.trans a.b⟩

section
variable {K : Cs} {w w' : Wd} {H H' : Hp}
mutual
theorem VR.ext (e : Le w H w' H') : ∀ {d : D} {v : V}, VR w H d v → VR w' H' d v
  | _, _, .non => .non
  | _, _, .bl b => .bl b
  | _, _, .int i => .int i
  | _, _, .str x => .str x
  | _, _, .tup z h r => .tup (e.z _ z) ((e.eq _ z).trans h) (VRs.ext e r)
  | _, _, .lst z h r => .lst (e.z _ z) ((e.eq _ z).trans h) (VRs.ext e r)
  | _, _, .dK z h r => .dK (e.z _ z) ((e.eq _ z).trans h) (VRk.ext e r)
  | _, _, .dT z h r => .dT (e.z _ z) ((e.eq _ z).trans h) (VRk.ext e r)
  | _, _, .ref (n := n) h => by
    have q : VR w' H' (.ref n) (.ref (w'.ι n)) := .ref (Nat.lt_of_lt_of_le h e.n)
    rw [e.ι n h] at q
    exact q
theorem VRs.ext (e : Le w H w' H') : ∀ {d : List D} {v : List V}, VRs w H d v → VRs w' H' d v
  | _, _, .nil => .nil
  | _, _, .cons h t => .cons (VR.ext e h) (VRs.ext e t)
theorem VRk.ext (e : Le w H w' H') : ∀ {d : List (D × D)} {v : List (D × V)}, VRk w H d v → VRk w' H' d v
  | _, _, .nil => .nil
  | _, _, .cons h t => .cons (VR.ext e h) (VRk.ext e t)
end
end

section
/-- the list or dict at a, its items shared -/
def CAt (w : Wd) (H : Hp) (a : Addr) : D → Prop
  | .lst ds => ∃ vs, H a = some (.lst vs) ∧ VRs w H ds vs
  | .dct ds => (∃ kvs : List (Key × V), H a = some (.dK kvs) ∧ VRk w H ds (kvs.map fun p => (kD p.1, p.2))) ∨ ∃ kvs : List (List Key × V), H a = some (.dT kvs) ∧ VRk w H ds (kvs.map fun p => (tD p.1, p.2))
  | _ => False
/-- what v is to be read as -/
def PVR (w : Wd) (H : Hp) (d : D) (v : V) : Prop := VR w H d v ∨ ∃ a, v = .ref a ∧ CAt w H a d
def SlR (w : Wd) (H : Hp) : Sl → Option V → Prop
  | .un, _ => True
  | .val d, v => ∃ x, v = some x ∧ VR w H d x
  | .own d, v => ∃ a, v = some (.ref a) ∧ CAt w H a d
  | .bor d, v => ∃ a, v = some (.ref a) ∧ w.B a ∧ CAt w H a d
def MOR (w : Wd) (H : Hp) (a : Addr) : MO → Prop
  | .dct ds => ∃ kvs : List (Key × V), H a = some (.dK kvs) ∧ VRk w H ds (kvs.map fun p => (kD p.1, p.2))
  | .scr ds => ∃ vs : List V, Rd H a (.lst vs) ∧ VRs w H ds vs
end
/-- who has what stands at a: a name, or the n-th shared object -/
def OwnAt (s : S) (σ : L2.St) (w : Wd) (x : Nat ⊕ Nat) (a : Addr) : Prop := match x with
  | .inl i => ∃ d, s.ρ[i]? = some (.own d) ∧ σ[i]? = some (some (.ref a))
  | .inr n => n < w.n ∧ w.ι n = a

/-- the module's tuples -/
abbrev Cs := List (Addr × D)
structure Sim (K : Cs) (w : Wd) (s : S) (σ : L2.St) (H : Hp) : Prop where
  con : ∀ p ∈ K, VR w H p.2 (.ref p.1)
  zd : ∀ a, w.Z a → ∃ o, H a = some o
  pd : ∀ a, w.P a → ∃ o, H a = some o
  bp : ∀ a, w.B a → w.P a
  zp : ∀ a, w.Z a → ¬ w.P a
  len : s.ρ.length = σ.length
  slot : ∀ (i : Nat) (x : Sl), s.ρ[i]? = some x → ∃ v : Option V, σ[i]? = some v ∧ SlR w H x v
  mlen : s.mh.length = w.n
  mo : ∀ (n : Nat) (o : MO), s.mh[n]? = some o → MOR w H (w.ι n) o
  fr : ∀ x a, OwnAt s σ w x a → ¬ w.Z a ∧ ¬ w.P a
  inj : ∀ x y a, OwnAt s σ w x a → OwnAt s σ w y a → x = y

def RVR (w : Wd) (s : S) (σ : L2.St) (H : Hp) : RV → V → Prop
  | .val d, v => VR w H d v
  | .own d, v => ∃ a, v = .ref a ∧ CAt w H a d ∧ ¬ w.Z a ∧ ¬ w.P a ∧ ∀ x, ¬ OwnAt s σ w x a
  | .bor i, v => σ[i]? = some (some v)

section
variable {K : Cs} {w w' : Wd} {H H' : Hp} {s s' : S} {σ : L2.St}
theorem CAt.has {w : Wd} {H : Hp} {a : Addr} {d : D} (h : CAt w H a d) : ∃ o, H a = some o := by
  cases d <;> first
    | exact h.elim
    | (rcases h with ⟨vs, e, _⟩ | ⟨vs, e, _⟩ <;> exact ⟨_, e⟩)
    | (obtain ⟨vs, e, _⟩ := h; exact ⟨_, e⟩)
theorem CAt.ext {a : Addr} {d : D} (e : Le w H w' H') (ha : H' a = H a) (h : CAt w H a d) : CAt w' H' a d := by
  cases d <;> first
    | exact h.elim
    | (obtain ⟨vs, q, r⟩ := h; exact ⟨vs, ha.trans q, VRs.ext e r⟩)
    | (rcases h with ⟨vs, q, r⟩ | ⟨vs, q, r⟩
       · exact .inl ⟨vs, ha.trans q, VRk.ext e r⟩
       · exact .inr ⟨vs, ha.trans q, VRk.ext e r⟩)
theorem CAt.vr {a : Addr} {d : D} (z : w.Z a) (h : CAt w H a d) : VR w H d (.ref a) := by
  cases d <;> first
    | exact h.elim
    | (obtain ⟨vs, q, r⟩ := h; exact .lst z q r)
    | (rcases h with ⟨vs, q, r⟩ | ⟨vs, q, r⟩
       · exact .dK z q r
       · exact .dT z q r)
theorem PVR.ext {d : D} {v : V} (e : Le w H w' H') (ha : ∀ a, v = .ref a → (∃ o, H a = some o) → H' a = H a) (h : PVR w H d v) : PVR w' H' d v := by
  rcases h with h | ⟨a, rfl, h⟩
  · exact .inl (VR.ext e h)
  · exact .inr ⟨a, rfl, h.ext e (ha a rfl h.has)⟩
theorem MOR.ext {a : Addr} {o : MO} (e : Le w H w' H') (ha : H' a = H a) (h : MOR w H a o) : MOR w' H' a o := by
  cases o with
  | dct ds => obtain ⟨kvs, q, r⟩ := h; exact ⟨kvs, ha.trans q, VRk.ext e r⟩
  | scr ds => obtain ⟨vs, q, r⟩ := h; exact ⟨vs, q.imp (fun q => ha.trans q) fun ⟨o, q⟩ => ⟨o, ha.trans q⟩, VRs.ext e r⟩
theorem MOR.has {a : Addr} {o : MO} (h : MOR w H a o) : ∃ u, H a = some u := by
  cases o with
  | dct ds => obtain ⟨kvs, q, r⟩ := h; exact ⟨_, q⟩
  | scr ds => obtain ⟨vs, q, r⟩ := h; exact q.elim (fun q => ⟨_, q⟩) fun ⟨o, q⟩ => ⟨_, q⟩
theorem Sim.moAt (I : Sim K w s σ H) {n : Nat} (h : n < w.n) : ∃ o, s.mh[n]? = some o ∧ MOR w H (w.ι n) o := by
  have q : n < s.mh.length := by rw [I.mlen]; exact h
  exact ⟨s.mh[n], by simp [q], I.mo n _ (by simp [q])⟩
theorem Sim.ownHas (I : Sim K w s σ H) {x : Nat ⊕ Nat} {a : Addr} (h : OwnAt s σ w x a) : ∃ o, H a = some o := by
  cases x with
  | inl i =>
    obtain ⟨d, e, q⟩ := h
    obtain ⟨v, e2, a', e3, c⟩ := I.slot i _ e
    rw [q] at e2
    cases e2
    cases e3
    exact c.has
  | inr n =>
    obtain ⟨h1, rfl⟩ := h
    obtain ⟨o, _, r⟩ := I.moAt h1
    exact r.has

/-- the heap has grown by what nobody has -/
structure Grow (w : Wd) (H : Hp) (w' : Wd) (H' : Hp) : Prop where
  keep : ∀ a o, H a = some o → H' a = some o
  z : ∀ a, w.Z a → w'.Z a
  new : ∀ a, w'.Z a → w.Z a ∨ (H a = none ∧ ∃ o, H' a = some o)
  p : w'.P = w.P
  b : w'.B = w.B
  ι : w'.ι = w.ι
  n : w'.n = w.n
theorem Grow.ext (I : Sim K w s σ H) (g : Grow w H w' H') : Ext w H w' H' :=
  ⟨⟨g.z, fun a h => by
    obtain ⟨o, e⟩ := I.zd a h
    rw [e, g.keep a o e], fun n _ => by rw [g.ι], by rw [g.n]; exact Nat.le_refl _⟩, fun a h => by
    obtain ⟨o, e⟩ := I.pd a h
    rw [e, g.keep a o e], g.p, g.b⟩
theorem OwnAt.same (hι : w'.ι = w.ι) (hn : w'.n = w.n) {x : Nat ⊕ Nat} {a : Addr} (h : OwnAt s σ w' x a) : OwnAt s σ w x a := by
  cases x with
  | inl i => exact h
  | inr n =>
    obtain ⟨h1, h2⟩ := h
    rw [hn] at h1
    rw [hι] at h2
    exact ⟨h1, h2⟩
theorem SlR.ext {x : Sl} {v : Option V} (e : Le w H w' H') (hb : w'.B = w.B) (k : ∀ a o, H a = some o → H' a = some o) (h : SlR w H x v) : SlR w' H' x v := by
  have kk : ∀ a, (∃ o, H a = some o) → H' a = H a := fun a ⟨o, q⟩ => by rw [q, k a o q]
  cases x with
  | un => exact h
  | val d => obtain ⟨y, q, r⟩ := h; exact ⟨y, q, VR.ext e r⟩
  | own d => obtain ⟨a, q, r⟩ := h; exact ⟨a, q, r.ext e (kk a r.has)⟩
  | bor d => obtain ⟨a, q, b, r⟩ := h; exact ⟨a, q, by rw [hb]; exact b, r.ext e (kk a r.has)⟩
theorem Grow.sim (I : Sim K w s σ H) (g : Grow w H w' H') : Sim K w' s σ H' := by
  have e := g.ext I
  have kk : ∀ a, (∃ o, H a = some o) → H' a = H a := fun a ⟨o, q⟩ => by rw [q, g.keep a o q]
  refine ⟨fun p h => VR.ext e.toLe (I.con p h), fun a h => ?_, fun a h => ?_, fun a h => ?_, fun a h => ?_, I.len, fun i x h => ?_, by rw [g.n]; exact I.mlen, fun n o h => ?_, fun x a h => ?_, fun x y a h1 h2 => I.inj x y a (OwnAt.same g.ι g.n h1) (OwnAt.same g.ι g.n h2)⟩
  · rcases g.new a h with z | ⟨_, o, z⟩
    · obtain ⟨o, q⟩ := I.zd a z
      exact ⟨o, g.keep a o q⟩
    · exact ⟨o, z⟩
  · rw [g.p] at h
    obtain ⟨o, q⟩ := I.pd a h
    exact ⟨o, g.keep a o q⟩
  · rw [g.b] at h
    rw [g.p]
    exact I.bp a h
  · rw [g.p]
    rcases g.new a h with z | ⟨z, _⟩
    · exact I.zp a z
    · intro hp
      obtain ⟨o, q⟩ := I.pd a hp
      rw [z] at q
      cases q
  · obtain ⟨v, q, r⟩ := I.slot i x h
    exact ⟨v, q, r.ext e.toLe g.b g.keep⟩
  · rw [g.ι]
    have q := I.mo n o h
    exact q.ext e.toLe (kk _ q.has)
  · have h' := OwnAt.same g.ι g.n h
    obtain ⟨o, q⟩ := I.ownHas h'
    obtain ⟨f1, f2⟩ := I.fr x a h'
    rw [g.p]
    refine ⟨fun z => ?_, f2⟩
    rcases g.new a z with z | ⟨z, _⟩
    · exact f1 z
    · rw [z] at q
      cases q
/-- a new own object at p -/
theorem Grow.own {p : Addr} {o : HO} (h : H p = none) : Grow w H w (upd H p o) :=
  ⟨fun a u e => by rw [upd_ne (ne_of_none e h)]; exact e, fun _ z => z, fun _ z => .inl z, rfl, rfl, rfl, rfl⟩
def Wd.put (w : Wd) (p : Addr) : Wd := { w with Z := fun a => w.Z a ∨ a = p }
/-- a new shared object at p -/
theorem Grow.shared {p : Addr} {o : HO} (h : H p = none) : Grow w H (w.put p) (upd H p o) :=
  ⟨fun a u e => by rw [upd_ne (ne_of_none e h)]; exact e, fun _ z => .inl z, fun a z => z.imp id fun e => by subst e; exact ⟨h, _, upd_same⟩, rfl, rfl, rfl, rfl⟩
/-- what is new is nobody's -/
theorem Sim.fresh (I : Sim K w s σ H) {p : Addr} (h : H p = none) : ¬ w.Z p ∧ ¬ w.P p ∧ ∀ x, ¬ OwnAt s σ w x p := by
  refine ⟨fun z => ?_, fun z => ?_, fun x z => ?_⟩
  · obtain ⟨o, q⟩ := I.zd p z
    rw [h] at q
    cases q
  · obtain ⟨o, q⟩ := I.pd p z
    rw [h] at q
    cases q
  · obtain ⟨o, q⟩ := I.ownHas z
    rw [h] at q
    cases q

theorem slotAt_some {i : Nat} {x : Sl} (h : slotAt s i = x) (hx : x ≠ .un) : s.ρ[i]? = some x := by
  unfold slotAt at h
  rw [List.getD_eq_getElem?_getD] at h
  cases q : s.ρ[i]? with
  | none => rw [q] at h; exact absurd h.symm hx
  | some y => rw [q] at h; exact congrArg some h
/-- a result is read -/
theorem Sim.peek (I : Sim K w s σ H) {r : RV} {v : V} {d : D} (h : RVR w s σ H r v) (e : peek r s = .ok d) : PVR w H d v := by
  cases r with
  | val d' => cases e; exact .inl h
  | own d' =>
    cases e
    obtain ⟨a, rfl, c, _⟩ := h
    exact .inr ⟨a, rfl, c⟩
  | bor i =>
    unfold Sk.peek at e
    have h : σ[i]? = some (some v) := h
    cases q : slotAt s i with
    | un => simp [q, content] at e
    | val d' =>
      simp [q, content] at e
      subst e
      obtain ⟨u, h1, x, h2, h3⟩ := I.slot i _ (slotAt_some q (by simp))
      rw [h] at h1
      cases h1
      cases h2
      exact .inl h3
    | own d' =>
      simp [q, content] at e
      subst e
      obtain ⟨u, h1, x, h2, h3⟩ := I.slot i _ (slotAt_some q (by simp))
      rw [h] at h1
      cases h1
      cases h2
      exact .inr ⟨_, rfl, h3⟩
    | bor d' =>
      simp [q, content] at e
      subst e
      obtain ⟨u, h1, x, h2, _, h3⟩ := I.slot i _ (slotAt_some q (by simp))
      rw [h] at h1
      cases h1
      cases h2
      exact .inr ⟨_, rfl, h3⟩

/-- a is nobody's in w, and has something -/
def Lone (K : Cs) (w : Wd) (s : S) (σ : L2.St) (H : Hp) (a : Addr) : Prop := (∃ o, H a = some o) ∧ ¬ w.Z a ∧ ¬ w.P a ∧ ∀ x, ¬ OwnAt s σ w x a
def Wd.hold (w : Wd) (p : Addr → Prop) : Wd := { w with P := fun a => w.P a ∨ p a }
def Wd.free (w' w : Wd) : Wd := { w' with P := w.P }
theorem Wd.hold_le (w : Wd) (p : Addr → Prop) (H : Hp) : Le w H (w.hold p) H := ⟨fun _ z => z, fun _ _ => rfl, fun _ _ => rfl, Nat.le_refl _⟩
/-- held while something else runs -/
theorem Sim.hold (I : Sim K w s σ H) {p : Addr → Prop} (h : ∀ a, p a → Lone K w s σ H a) : Sim K (w.hold p) s σ H := by
  have e := Wd.hold_le w p H
  refine ⟨fun p h => VR.ext e (I.con p h), I.zd, fun a q => q.elim (I.pd a) fun q => (h a q).1, fun a q => .inl (I.bp a q), fun a z q => q.elim (I.zp a z) fun q => (h a q).2.1 z, I.len, fun i x q => ?_, I.mlen, fun n o q => ?_, fun x a q => ?_, fun x y a h1 h2 => I.inj x y a (OwnAt.same rfl rfl h1) (OwnAt.same rfl rfl h2)⟩
  · obtain ⟨v, q1, r⟩ := I.slot i x q
    exact ⟨v, q1, r.ext e rfl fun _ _ q => q⟩
  · exact (I.mo n o q).ext e rfl
  · have f := I.fr x a (OwnAt.same rfl rfl q)
    exact ⟨f.1, fun z => z.elim f.2 fun z => (h a z).2.2.2 x (OwnAt.same rfl rfl q)⟩
theorem Wd.free_le (w' w : Wd) (H : Hp) : Le w' H (w'.free w) H := ⟨fun _ z => z, fun _ _ => rfl, fun _ _ => rfl, Nat.le_refl _⟩
/-- let go -/
theorem Sim.free {p : Addr → Prop} (hb : ∀ a, w.B a → w.P a) (I : Sim K w' s σ H') (e : Ext (w.hold p) H w' H') : Sim K (w'.free w) s σ H' := by
  have le := Wd.free_le w' w H'
  have pw : ∀ a, w.P a → w'.P a := fun a q => by rw [e.p]; exact .inl q
  refine ⟨fun p h => VR.ext le (I.con p h), I.zd, fun a q => I.pd a (pw a q), fun a q => ?_, fun a z q => I.zp a z (pw a q), I.len, fun i x q => ?_, I.mlen, fun n o q => ?_, fun x a q => ?_, fun x y a h1 h2 => I.inj x y a (OwnAt.same rfl rfl h1) (OwnAt.same rfl rfl h2)⟩
  · have q : w'.B a := q
    rw [e.b] at q
    exact hb a q
  · obtain ⟨v, q1, r⟩ := I.slot i x q
    exact ⟨v, q1, r.ext le rfl fun _ _ q => q⟩
  · exact (I.mo n o q).ext le rfl
  · have f := I.fr x a (OwnAt.same rfl rfl q)
    exact ⟨f.1, fun z => f.2 (pw a z)⟩
theorem Ext.free {p : Addr → Prop} (e : Ext (w.hold p) H w' H') : Ext w H (w'.free w) H' :=
  ⟨⟨e.z, e.eq, e.ι, e.n⟩, fun a q => e.eqp a (.inl q), rfl, e.b⟩
/-- what was held is as it was, and nobody's -/
theorem Lone.back {p : Addr → Prop} {a : Addr} (h : Lone K w s σ H a) (pa : p a) (I : Sim K w' s' σ H') (e : Ext (w.hold p) H w' H') : H' a = H a ∧ Lone K (w'.free w) s' σ H' a := by
  have q := e.eqp a (.inr pa)
  obtain ⟨o, ho⟩ := h.1
  have hp : w'.P a := by rw [e.p]; exact .inr pa
  exact ⟨q, ⟨o, q.trans ho⟩, fun z => I.zp a z hp, h.2.2.1, fun x z => (I.fr x a (OwnAt.same rfl rfl z)).2 hp⟩

/-! ### judgements -/
end
section
variable (K : Cs)
def tE (m : S → Rs RV) : TE := fun σ H Q => ∃ w s, Sim K w s σ H ∧ ∃ r s', m s = .ok (r, s') ∧ ∀ w' H' v, Ext w H w' H' → Sim K w' s' σ H' → RVR w' s' σ H' r v → Q v H'
def tT (m : S → Rs Bool) : TT := fun σ H Q => ∃ w s, Sim K w s σ H ∧ ∃ b s', m s = .ok (b, s') ∧ ∀ w' H', Ext w H w' H' → Sim K w' s' σ H' → Q b H'
def tA (m : S → Rs (List D)) : TA := fun σ H Q => ∃ w s, Sim K w s σ H ∧ ∃ ds s', m s = .ok (ds, s') ∧ ∀ w' H' vs, Ext w H w' H' → Sim K w' s' σ H' → VRs w' H' ds vs → Q vs H'
def FlR (w : Wd) (s : S) (σ : L2.St) (H : Hp) (D : Ends) : Fl → Prop
  | .nx => D.nx σ H
  | .brk => D.bk σ H
  | .ct => D.ct σ H
  | .ret r => ∀ v, RVR w s σ H r v → D.rt v H
def tS (m : S → Rs Fl) : TS := fun D σ H => ∃ w s, Sim K w s σ H ∧ ∃ f s', m s = .ok (f, s') ∧ ∀ w' σ' H', Ext w H w' H' → Sim K w' s' σ' H' →
  match f with
  | .nx => D.nx σ' H'
  | .brk => D.bk σ' H'
  | .ct => D.ct σ' H'
  | .ret r => ∀ v, RVR w' s' σ' H' r v → D.rt v H'
end
theorem _root_.L2.PE.imp {X : Cx} {e : Expr} {t t' : TE} (h : PE X e t) (i : ∀ σ H Q, t' σ H Q → t σ H Q) : PE X e t' := ⟨fun pins s σ H Q I q => h.run pins s σ H Q I (i σ H Q q)⟩
theorem _root_.L2.PT.imp {X : Cx} {e : Expr} {t t' : TT} (h : PT X e t) (i : ∀ σ H Q, t' σ H Q → t σ H Q) : PT X e t' := ⟨fun pins s σ H Q I q => h.run pins s σ H Q I (i σ H Q q)⟩
theorem _root_.L2.PA.imp {X : Cx} {e : List Expr} {t t' : TA} (h : PA X e t) (i : ∀ σ H Q, t' σ H Q → t σ H Q) : PA X e t' := ⟨fun pos pins s σ H Q I q => h.run pos pins s σ H Q I (i σ H Q q)⟩
theorem _root_.L2.PS.imp {X : Cx} {e : Stmt} {t t' : TS} (h : PS X e t) (i : ∀ D σ H, t' D σ H → t D σ H) : PS X e t' := ⟨fun pins s σ H D I q => h.run pins s σ H D I (i D σ H q)⟩
theorem _root_.L2.PSs.imp {X : Cx} {e : List Stmt} {t t' : TS} (h : PSs X e t) (i : ∀ D σ H, t' D σ H → t D σ H) : PSs X e t' := ⟨fun pins s σ H D I q => h.run pins s σ H D I (i D σ H q)⟩
section
variable {K : Cs} {w w' : Wd} {H H' : Hp} {s s' : S} {σ : L2.St}
/-- a result stays while the next expression runs -/
theorem two {m1 m2 : S → Rs RV} {ra rb : RV} {s1 s2 : S} {R : V → V → Hp → Prop} (I : Sim K w s σ H) (h1 : m1 s = .ok (ra, s1)) (h2 : m2 s1 = .ok (rb, s2))
    (hR : ∀ w' H' x y, Ext w H w' H' → Sim K w' s2 σ H' → RVR w' s2 σ H' ra x → RVR w' s2 σ H' rb y → (∀ d e, ra = .own d → rb = .own e → x ≠ y) → R x y H') : tE K m1 σ H fun x H1 => tE K m2 σ H1 fun y H2 => R x y H2 := by
  refine ⟨w, s, I, ra, s1, h1, fun w1 H1 x E1 I1 r1 => ?_⟩
  cases ra with
  | val d => exact ⟨w1, s1, I1, rb, s2, h2, fun w2 H2 y E2 I2 r2 => hR w2 H2 x y (E1.trans E2) I2 (VR.ext E2.toLe r1) r2 fun _ _ e => nomatch e⟩
  | bor i => exact ⟨w1, s1, I1, rb, s2, h2, fun w2 H2 y E2 I2 r2 => hR w2 H2 x y (E1.trans E2) I2 r1 r2 fun _ _ e => nomatch e⟩
  | own d =>
    obtain ⟨a, rfl, c, n1, n2, n3⟩ := r1
    have L : Lone K w1 s1 σ H1 a := ⟨c.has, n1, n2, n3⟩
    refine ⟨w1.hold (fun x => x = a), s1, I1.hold fun b hb => by subst hb; exact L, rb, s2, h2, fun w2 H2 y E2 I2 r2 => ?_⟩
    obtain ⟨q, L2⟩ := Lone.back (p := fun x => x = a) L rfl I2 E2
    have E3 := E2.free
    refine hR (w2.free w1) H2 _ y (E1.trans E3) (I2.free I1.bp E2) ⟨a, rfl, c.ext E3.toLe q, L2.2.1, L2.2.2.1, L2.2.2.2⟩ ?_ ?_
    · cases rb with
      | val d' => exact VR.ext (Wd.free_le w2 w1 H2) r2
      | bor i => exact r2
      | own d' =>
        obtain ⟨b, rfl, c', m1, m2, m3⟩ := r2
        exact ⟨b, rfl, c'.ext (Wd.free_le w2 w1 H2) rfl, m1, fun z => m2 (by rw [E2.p]; exact .inl z), fun x z => m3 x (OwnAt.same rfl rfl z)⟩
    · intro _ d' _ e hx
      subst e
      obtain ⟨b, rfl, c', m1, m2, m3⟩ := r2
      cases hx
      exact m2 (by rw [E2.p]; exact .inr rfl)
end
end Sk

end

section
set_option Elab.async false
set_option linter.all false
set_option maxRecDepth 100000
set_option maxHeartbeats 4000000
/-! SkC: the operators, by values. -/
namespace Sk
open PySem PySem.Spec PyProof.Rows L2

/-! ### data read off the abstract heap -/
section
variable {Kf : PySem.W.Frag} {w : Wd} {H : Hp}
mutual
theorem VR.dp : ∀ {n : Nat} {d : D} {v : V}, okN n d = true → VR w H d v → Dp Kf H v (toPy d)
  | _, _, _, _, .non => .non
  | _, _, _, _, .bl b => .bl b
  | _, _, _, _, .int i => .int i
  | _, _, _, _, .str x => .str _
  | 0, _, _, h, .tup _ _ _ => by simp [okN] at h
  | n + 1, _, _, h, .tup z e r => .tup (.of e) (VRs.dp (n := n) (by simpa [okN] using h) r)
  | 0, _, _, h, .lst _ _ _ => by simp [okN] at h
  | n + 1, _, _, h, .lst z e r => .lst (.of e) (VRs.dp (n := n) (by simpa [okN] using h) r)
  | n, _, _, h, .dK _ _ _ => by cases n <;> simp [okN] at h
  | n, _, _, h, .dT _ _ _ => by cases n <;> simp [okN] at h
  | n, _, _, h, .ref _ => by cases n <;> simp [okN] at h
theorem VRs.dp : ∀ {n : Nat} {ds : List D} {vs : List V}, (∀ d ∈ ds, okN n d = true) → VRs w H ds vs → DpAll Kf H vs (toPys ds)
  | _, _, _, _, .nil => .nil
  | n, _, _, h, .cons r t => .cons (VR.dp (n := n) (h _ List.mem_cons_self) r) (VRs.dp (n := n) (fun d hd => h d (List.mem_cons_of_mem _ hd)) t)
end
theorem PVR.dp {n : Nat} {d : D} {v : V} (h : okN n d = true) (r : PVR w H d v) : Dp Kf H v (toPy d) := by
  rcases r with r | ⟨a, rfl, r⟩
  · exact r.dp h
  · cases d with
    | lst ds =>
      obtain ⟨vs, e, r⟩ := r
      cases n with
      | zero => simp [okN] at h
      | succ n => exact .lst (.of e) (VRs.dp (n := n) (by simpa [okN] using h) r)
    | dct ds => cases n <;> simp [okN] at h
    | _ => exact r.elim
end
mutual
theorem depth_okN : ∀ (n : Nat) (d : D), okN n d = true → (toPy d).depth ≤ n
  | _, .non, _ => by simp [toPy, PyData.depth]
  | _, .bl _, _ => by simp [toPy, PyData.depth]
  | _, .int _, _ => by simp [toPy, PyData.depth]
  | _, .str _, _ => by simp [toPy, PyData.depth]
  | 0, .tup _, h => by simp [okN] at h
  | n + 1, .tup xs, h => by
    have := depths_okN n xs (by simpa [okN] using h)
    simp only [toPy, PyData.depth]
    omega
  | 0, .lst _, h => by simp [okN] at h
  | n + 1, .lst xs, h => by
    have := depths_okN n xs (by simpa [okN] using h)
    simp only [toPy, PyData.depth]
    omega
  | n, .dct _, h => by cases n <;> simp [okN] at h
  | n, .ref _, h => by cases n <;> simp [okN] at h
theorem depths_okN : ∀ (n : Nat) (ds : List D), (∀ d ∈ ds, okN n d = true) → PyData.depthAll (toPys ds) ≤ n
  | _, [], _ => by simp [toPys, PyData.depthAll]
  | n, d :: ds, h => by
    have h1 := depth_okN n d (h d List.mem_cons_self)
    have h2 := depths_okN n ds fun e he => h e (List.mem_cons_of_mem _ he)
    simp only [toPys, PyData.depthAll]
    omega
end
theorem toPy_none {d : D} (h : notNon d = true) : toPy d ≠ .none := by
  cases d <;> simp_all [notNon, toPy]

/-- a == b of alike data -/
theorem rcAt_alike {da db : PyData} {A : Around} {s : Shared} {a b : Value} {as bs : List Addr} (ra : Reads s.heap a da as) (rb : Reads s.heap b db bs) (h : PySem.W.alike da db = true)
    (hu : A.units + min da.depth db.depth < cLine) : SeqAt.RcAt A s a b (PyData.eqv da db) := by
  cases ra with
  | none =>
    cases rb <;> first
      | exact SeqAt.RcAt.none_none
      | exact absurd h (by simp [PySem.W.alike])
  | bool x =>
    cases rb <;> first
      | exact SeqAt.RcAt.bool_bool x _
      | exact absurd h (by simp [PySem.W.alike])
  | int x t =>
    cases rb <;> first
      | exact SeqAt.RcAt.int_int x t _ _
      | exact absurd h (by simp [PySem.W.alike])
  | str x t =>
    cases rb <;> first
      | exact SeqAt.RcAt.str_str x t _ _
      | exact absurd h (by simp [PySem.W.alike])
  | @list l o vs n xs as₁ h1 h2 h3 h4 =>
    cases rb with
    | @list l' o' vs' n' ys bs₁ k1 k2 k3 k4 =>
      have hl : s.heap.IsList l vs := ⟨_, h1, h2, _, h3⟩
      have hl' : s.heap.IsList l' vs' := ⟨_, k1, k2, _, k3⟩
      have hal : PySem.W.alikeAll xs ys = true := by simpa [PySem.W.alike] using h
      have n1 : vs.size = xs.length := by simpa using SeqAt.ReadsAll.length _ _ _ h4
      have n2 : vs'.size = ys.length := by simpa using SeqAt.ReadsAll.length _ _ _ k4
      have he : ∀ j (j1 : j < vs.size) (j2 : j < vs'.size), SeqAt.EqAt A.in1 s vs[j] vs'[j] (SeqAt.pairEq xs ys j) := fun j j1 j2 => by
        have q := PySem.W.eqAt_alikeAll xs ys A.in1 s vs.toList vs'.toList _ _ h4 k4 hal (SeqAt.room_in hu) j (by simpa using j1) (by simpa using j2)
        simpa using q
      show SeqAt.RcAt A s (.ref l) (.ref l') (PyData.eqvAll xs ys)
      by_cases hsz : vs.size = vs'.size
      · rw [← SeqAt.eqvAll_same_length (by omega : xs.length = ys.length), ← n1]
        exact SeqAt.RcAt.lists hl hl' hsz (SeqAt.room_here hu) he
      · rw [SeqAt.eqvAll_other_length (by omega : xs.length ≠ ys.length)]
        exact SeqAt.RcAt.lists_lengths hl hl' (by simpa using hsz) (SeqAt.room_here hu)
    | _ => exact absurd h (by simp [PySem.W.alike])
  | @tuple l o vs n xs as₁ h1 h2 h3 h4 =>
    cases rb with
    | @tuple l' o' vs' n' ys bs₁ k1 k2 k3 k4 =>
      have hl : s.heap.IsTuple l vs := ⟨_, h1, h2, _, h3⟩
      have hl' : s.heap.IsTuple l' vs' := ⟨_, k1, k2, _, k3⟩
      have hal : PySem.W.alikeAll xs ys = true := by simpa [PySem.W.alike] using h
      have n1 : vs.size = xs.length := by simpa using SeqAt.ReadsAll.length _ _ _ h4
      have n2 : vs'.size = ys.length := by simpa using SeqAt.ReadsAll.length _ _ _ k4
      have he : ∀ j (j1 : j < vs.size) (j2 : j < vs'.size), SeqAt.EqAt A.in1 s vs[j] vs'[j] (SeqAt.pairEq xs ys j) := fun j j1 j2 => by
        have q := PySem.W.eqAt_alikeAll xs ys A.in1 s vs.toList vs'.toList _ _ h4 k4 hal (SeqAt.room_in hu) j (by simpa using j1) (by simpa using j2)
        simpa using q
      show SeqAt.RcAt A s (.ref l) (.ref l') (PyData.eqvAll xs ys)
      rw [← SeqAt.eqvAll_eq xs ys, ← n1, ← n2]
      exact SeqAt.RcAt.tuples hl hl' (SeqAt.room_here hu) he
    | _ => exact absurd h (by simp [PySem.W.alike])
  | dict => exact absurd h (by simp [PySem.W.alike])

section
variable {X : Cx}
/-- a comparison of data that are alike -/
def rDat (K : PySem.W.Frag) (ok : D → D → Bool) (g : D → D → Bool) : R2 := fun x y H Q => ∃ (w : Wd) (d e : D), PVR w H d x ∧ PVR w H e y ∧ ok d e = true ∧ Q (.bl (g d e)) H
theorem dat_op {op : CmpOp} {ok g : D → D → Bool} (hok : ∀ d e, ok d e = true → okN 20 d = true ∧ okN 20 e = true ∧ alikeD d e = true)
    (rule : ∀ (A : Around) (s : Shared) (a b : Value) (as bs : List Addr) (d e : D) (E : Value → Shared → Prop) (Q : Value → Shared → Prop), Reads s.heap a (toPy d) as → Reads s.heap b (toPy e) bs → ok d e = true → A.units + min (toPy d).depth (toPy e).depth < cLine → Q (.bool (g d e)) s →
      wpAny (model X.prog X.w) A (compareOp op a b) Q E s) (hu : X.A.units + 64 < cLine) : OpR X (compareOp op) (rDat X.K ok g) := by
  intro pins s σ H x y v u Q I rx ry h
  obtain ⟨w, d, e, hd, he, q0, q⟩ := h
  obtain ⟨k1, k2, k3⟩ := hok d e q0
  obtain ⟨as, r1⟩ := Dp.reads I _ x v (hd.dp k1) rx
  obtain ⟨bs, r2⟩ := Dp.reads I _ y u (he.dp k2) ry
  have l1 := depth_okN 20 d k1
  exact rule X.A s v u as bs d e _ _ r1 r2 q0 (by omega) ⟨.bl _, H, I, rfl, q⟩
theorem okEq_of {d e : D} (h : okEq d e = true) : okN 20 d = true ∧ okN 20 e = true ∧ alikeD d e = true := by simpa [okEq, Bool.and_eq_true] using h
theorem okLt_of {d e : D} (h : okLt d e = true) : okN 20 d = true ∧ okN 20 e = true ∧ alikeD d e = true := by
  simp only [okLt, Bool.and_eq_true] at h
  exact h.2
theorem okLt_non {d e : D} (h : okLt d e = true) : toPy d ≠ .none := by
  simp only [okLt, Bool.and_eq_true] at h
  exact toPy_none h.1
theorem o_eq (hu : X.A.units + 64 < cLine) : OpR X (compareOp .Eq) (rDat X.K okEq eqD) :=
  dat_op (fun _ _ => okEq_of) (fun A s a b as bs d e E Q r1 r2 h l q => rcAt_alike r1 r2 (okEq_of h).2.2 l _ _ _ _ q) hu
theorem o_lt (hu : X.A.units + 64 < cLine) : OpR X (compareOp .Lt) (rDat X.K okLt ltD) :=
  dat_op (fun _ _ => okLt_of) (fun A s a b as bs d e E Q r1 r2 h l q => PySem.W.lt_data r1 r2 (okLt_of h).2.2 (okLt_non h) l q) hu
theorem o_gt (hu : X.A.units + 64 < cLine) : OpR X (compareOp .Gt) (rDat X.K okLt fun d e => ltD e d) :=
  dat_op (fun _ _ => okLt_of) (fun A s a b as bs d e E Q r1 r2 h l q => PySem.W.gt_data r1 r2 (okLt_of h).2.2 (okLt_non h) l q) hu
theorem o_le (hu : X.A.units + 64 < cLine) : OpR X (compareOp .LtE) (rDat X.K okLt fun d e => !ltD e d) :=
  dat_op (fun _ _ => okLt_of) (fun A s a b as bs d e E Q r1 r2 h l q => PySem.W.le_data r1 r2 (okLt_of h).2.2 (okLt_non h) l q) hu
theorem o_ge (hu : X.A.units + 64 < cLine) : OpR X (compareOp .GtE) (rDat X.K okLt fun d e => !ltD d e) :=
  dat_op (fun _ _ => okLt_of) (fun A s a b as bs d e E Q r1 r2 h l q => PySem.W.ge_data r1 r2 (okLt_of h).2.2 (okLt_non h) l q) hu
end
end Sk

end

section
set_option Elab.async false
set_option linter.all false
set_option maxRecDepth 100000
set_option maxHeartbeats 4000000
/-! SkD: !=, in, not in; + - * // % **; indices, slices. -/
namespace Sk
open PySem PySem.Spec PyProof.Rows L2

/-- a != b of alike data -/
theorem rcNeAt_alike {da db : PyData} {A : Around} {s : Shared} {a b : Value} {as bs : List Addr} (ra : Reads s.heap a da as) (rb : Reads s.heap b db bs) (h : PySem.W.alike da db = true)
    (hu : A.units + min da.depth db.depth < cLine) : SeqAt.RcNeAt A s a b (!PyData.eqv da db) := by
  cases ra with
  | none =>
    cases rb <;> first
      | exact SeqAt.RcNeAt.none_none
      | exact absurd h (by simp [PySem.W.alike])
  | bool x =>
    cases rb <;> first
      | exact SeqAt.RcNeAt.bool_bool x _
      | exact absurd h (by simp [PySem.W.alike])
  | int x t =>
    cases rb <;> first
      | exact SeqAt.RcNeAt.int_int x t _ _
      | exact absurd h (by simp [PySem.W.alike])
  | str x t =>
    cases rb <;> first
      | exact SeqAt.RcNeAt.str_str x t _ _
      | exact absurd h (by simp [PySem.W.alike])
  | @list l o vs n xs as₁ h1 h2 h3 h4 =>
    cases rb with
    | @list l' o' vs' n' ys bs₁ k1 k2 k3 k4 =>
      have hl : s.heap.IsList l vs := ⟨_, h1, h2, _, h3⟩
      have hl' : s.heap.IsList l' vs' := ⟨_, k1, k2, _, k3⟩
      have hal : PySem.W.alikeAll xs ys = true := by simpa [PySem.W.alike] using h
      have n1 : vs.size = xs.length := by simpa using SeqAt.ReadsAll.length _ _ _ h4
      have n2 : vs'.size = ys.length := by simpa using SeqAt.ReadsAll.length _ _ _ k4
      have he : ∀ j (j1 : j < vs.size) (j2 : j < vs'.size), SeqAt.EqAt A.in1 s vs[j] vs'[j] (SeqAt.pairEq xs ys j) := fun j j1 j2 => by
        have q := PySem.W.eqAt_alikeAll xs ys A.in1 s vs.toList vs'.toList _ _ h4 k4 hal (SeqAt.room_in hu) j (by simpa using j1) (by simpa using j2)
        simpa using q
      show SeqAt.RcNeAt A s (.ref l) (.ref l') (!PyData.eqvAll xs ys)
      by_cases hsz : vs.size = vs'.size
      · rw [← SeqAt.eqvAll_same_length (by omega : xs.length = ys.length), ← n1]
        exact SeqAt.RcNeAt.lists hl hl' hsz (SeqAt.room_here hu) he
      · rw [SeqAt.eqvAll_other_length (by omega : xs.length ≠ ys.length)]
        exact SeqAt.RcNeAt.lists_lengths hl hl' (by simpa using hsz) (SeqAt.room_here hu)
    | _ => exact absurd h (by simp [PySem.W.alike])
  | @tuple l o vs n xs as₁ h1 h2 h3 h4 =>
    cases rb with
    | @tuple l' o' vs' n' ys bs₁ k1 k2 k3 k4 =>
      have hl : s.heap.IsTuple l vs := ⟨_, h1, h2, _, h3⟩
      have hl' : s.heap.IsTuple l' vs' := ⟨_, k1, k2, _, k3⟩
      have hal : PySem.W.alikeAll xs ys = true := by simpa [PySem.W.alike] using h
      have n1 : vs.size = xs.length := by simpa using SeqAt.ReadsAll.length _ _ _ h4
      have n2 : vs'.size = ys.length := by simpa using SeqAt.ReadsAll.length _ _ _ k4
      have he : ∀ j (j1 : j < vs.size) (j2 : j < vs'.size), SeqAt.EqAt A.in1 s vs[j] vs'[j] (SeqAt.pairEq xs ys j) := fun j j1 j2 => by
        have q := PySem.W.eqAt_alikeAll xs ys A.in1 s vs.toList vs'.toList _ _ h4 k4 hal (SeqAt.room_in hu) j (by simpa using j1) (by simpa using j2)
        simpa using q
      show SeqAt.RcNeAt A s (.ref l) (.ref l') (!PyData.eqvAll xs ys)
      rw [← SeqAt.eqvAll_eq xs ys, ← n1, ← n2]
      exact SeqAt.RcNeAt.tuples hl hl' (SeqAt.room_here hu) he
    | _ => exact absurd h (by simp [PySem.W.alike])
  | dict => exact absurd h (by simp [PySem.W.alike])
theorem o_ne {X : Cx} (hu : X.A.units + 64 < cLine) : OpR X (compareOp .NotEq) (rDat X.K okEq fun d e => !eqD d e) :=
  dat_op (fun _ _ => okEq_of) (fun A s a b as bs d e E Q r1 r2 h l q => rcNeAt_alike r1 r2 (okEq_of h).2.2 l _ _ _ _ q) hu

/-! ### what a value stands for is told by the value -/
section
variable {w : Wd} {H : Hp}
mutual
theorem VR.uniq : ∀ {n : Nat} {d e : D} {v : V}, okN n d = true → okN n e = true → VR w H d v → VR w H e v → d = e
  | _, _, _, _, _, _, .non, r => by cases r; rfl
  | _, _, _, _, _, _, .bl b, r => by cases r; rfl
  | _, _, _, _, _, _, .int i, r => by cases r; rfl
  | _, _, _, _, _, _, .str x, r => by
    generalize hv : V.str ⟨x.toArray⟩ = v at r
    cases r with
    | str y =>
      have e : x.toArray = y.toArray := by injection hv with hv; injection hv
      rw [show x = y by simpa using congrArg Array.toList e]
    | _ => cases hv
  | 0, _, _, _, h, _, .tup _ _ _, _ => by simp [okN] at h
  | n + 1, _, _, _, h, h', .tup z e r, q => by
    cases q with
    | tup z' e' r' =>
      rw [e] at e'
      cases e'
      rw [VRs.uniq (n := n) (by simpa [okN] using h) (by simpa [okN] using h') r r']
    | lst z' e' r' => rw [e] at e'; cases e'
    | _ => simp [okN] at h'
  | 0, _, _, _, h, _, .lst _ _ _, _ => by simp [okN] at h
  | n + 1, _, _, _, h, h', .lst z e r, q => by
    cases q with
    | lst z' e' r' =>
      rw [e] at e'
      cases e'
      rw [VRs.uniq (n := n) (by simpa [okN] using h) (by simpa [okN] using h') r r']
    | tup z' e' r' => rw [e] at e'; cases e'
    | _ => simp [okN] at h'
  | n, _, _, _, h, _, .dK _ _ _, _ => by cases n <;> simp [okN] at h
  | n, _, _, _, h, _, .dT _ _ _, _ => by cases n <;> simp [okN] at h
  | n, _, _, _, h, _, .ref _, _ => by cases n <;> simp [okN] at h
theorem VRs.uniq : ∀ {n : Nat} {d e : List D} {v : List V}, (∀ x ∈ d, okN n x = true) → (∀ x ∈ e, okN n x = true) → VRs w H d v → VRs w H e v → d = e
  | _, _, _, _, _, _, .nil, r => by cases r; rfl
  | n, _, _, _, h, h', .cons r t, q => by
    cases q with
    | cons r' t' => rw [VR.uniq (n := n) (h _ List.mem_cons_self) (h' _ List.mem_cons_self) r r', VRs.uniq (n := n) (fun x hx => h x (List.mem_cons_of_mem _ hx)) (fun x hx => h' x (List.mem_cons_of_mem _ hx)) t t']
end
theorem VRs.length : ∀ {d : List D} {v : List V}, VRs w H d v → d.length = v.length
  | _, _, .nil => rfl
  | _, _, .cons _ t => by rw [List.length_cons, List.length_cons, VRs.length t]
theorem VRs.get : ∀ {d : List D} {v : List V} {i : Nat} {x : D}, VRs w H d v → d[i]? = some x → ∃ y, v[i]? = some y ∧ VR w H x y
  | _, _, _, _, .nil, e => by simp at e
  | _, _, 0, _, .cons r _, e => by simp at e; subst e; exact ⟨_, rfl, r⟩
  | _, _, i + 1, _, .cons _ t, e => by
    obtain ⟨y, h1, h2⟩ := VRs.get (i := i) t (by simpa using e)
    exact ⟨y, by simpa using h1, h2⟩
theorem VRs.getV : ∀ {d : List D} {v : List V} {i : Nat} {y : V}, VRs w H d v → v[i]? = some y → ∃ x, d[i]? = some x ∧ VR w H x y
  | _, _, _, _, .nil, e => by simp at e
  | _, _, 0, _, .cons r _, e => by simp at e; subst e; exact ⟨_, rfl, r⟩
  | _, _, i + 1, _, .cons _ t, e => by
    obtain ⟨x, h1, h2⟩ := VRs.getV (i := i) t (by simpa using e)
    exact ⟨x, by simpa using h1, h2⟩
theorem VRs.append : ∀ {d e : List D} {v u : List V}, VRs w H d v → VRs w H e u → VRs w H (d ++ e) (v ++ u)
  | _, _, _, _, .nil, q => q
  | _, _, _, _, .cons r t, q => .cons r (VRs.append t q)
theorem VRs.take : ∀ {d : List D} {v : List V} (n : Nat), VRs w H d v → VRs w H (d.take n) (v.take n)
  | _, _, 0, _ => .nil
  | _, _, _ + 1, .nil => .nil
  | _, _, n + 1, .cons r t => .cons r (VRs.take n t)
theorem VRs.drop : ∀ {d : List D} {v : List V} (n : Nat), VRs w H d v → VRs w H (d.drop n) (v.drop n)
  | _, _, 0, r => r
  | _, _, _ + 1, .nil => .nil
  | _, _, n + 1, .cons _ t => VRs.drop n t
theorem VRs.reverse {d : List D} {v : List V} (h : VRs w H d v) : VRs w H d.reverse v.reverse := by
  induction d generalizing v with
  | nil => cases h; exact .nil
  | cons x xs ih =>
    cases h with
    | cons r t =>
      rw [List.reverse_cons, List.reverse_cons]
      exact (ih t).append (.cons r .nil)
theorem VRs.cut {d : List D} {v : List V} (h : VRs w H d v) (lo hi : Option Int) : VRs w H (cutD d lo hi) (cutV v lo hi) := by
  unfold cutD cutV
  rw [h.length]
  exact (h.drop _).take _
theorem VRs.nil_iff {d : List D} {v : List V} (h : VRs w H d v) : d = [] ↔ v = [] := by
  cases h with
  | nil => simp
  | cons => simp
/-! what is read as d -/
theorem PVR.non_ {x : V} (h : PVR w H .non x) : x = .non := by
  rcases h with h | ⟨a, _, h⟩
  · cases h; rfl
  · exact h.elim
theorem PVR.bl_ {b : Bool} {x : V} (h : PVR w H (.bl b) x) : x = .bl b := by
  rcases h with h | ⟨a, _, h⟩
  · cases h; rfl
  · exact h.elim
theorem PVR.int_ {i : Int} {x : V} (h : PVR w H (.int i) x) : x = .int i := by
  rcases h with h | ⟨a, _, h⟩
  · cases h; rfl
  · exact h.elim
theorem PVR.str_ {t : List Nat} {x : V} (h : PVR w H (.str t) x) : x = .str ⟨t.toArray⟩ := by
  rcases h with h | ⟨a, _, h⟩
  · cases h; rfl
  · exact h.elim
theorem PVR.tup_ {ds : List D} {x : V} (h : PVR w H (.tup ds) x) : ∃ a vs, x = .ref a ∧ w.Z a ∧ H a = some (.tup vs) ∧ VRs w H ds vs := by
  rcases h with h | ⟨a, _, h⟩
  · cases h with
    | tup z e r => exact ⟨_, _, rfl, z, e, r⟩
  · exact h.elim
theorem PVR.lst_ {ds : List D} {x : V} (h : PVR w H (.lst ds) x) : ∃ a vs, x = .ref a ∧ H a = some (.lst vs) ∧ VRs w H ds vs := by
  rcases h with h | ⟨a, rfl, h⟩
  · cases h with
    | lst z e r => exact ⟨_, _, rfl, e, r⟩
  · obtain ⟨vs, e, r⟩ := h
    exact ⟨_, _, rfl, e, r⟩
theorem PVR.dct_ {ds : List (D × D)} {x : V} (h : PVR w H (.dct ds) x) : ∃ a, x = .ref a ∧ ((∃ kvs : List (Key × V), H a = some (.dK kvs) ∧ VRk w H ds (kvs.map fun p => (kD p.1, p.2))) ∨ ∃ kvs : List (List Key × V), H a = some (.dT kvs) ∧ VRk w H ds (kvs.map fun p => (tD p.1, p.2))) := by
  rcases h with h | ⟨a, rfl, h⟩
  · cases h with
    | dK z e r => exact ⟨_, rfl, .inl ⟨_, e, r⟩⟩
    | dT z e r => exact ⟨_, rfl, .inr ⟨_, e, r⟩⟩
  · exact ⟨_, rfl, h⟩
theorem PVR.ref_ {n : Nat} {x : V} (h : PVR w H (.ref n) x) : n < w.n ∧ x = .ref (w.ι n) := by
  rcases h with h | ⟨a, _, h⟩
  · cases h with
    | ref e => exact ⟨e, rfl⟩
  · exact h.elim

/-! ### in a list, a tuple -/
/-- whether the value stands for something that is x -/
noncomputable def eqW (w : Wd) (H : Hp) (x : D) (u : Value) : Bool := by
  classical
  exact if h : ∃ d : D, okEq d x = true ∧ ∃ v, RelV v u ∧ VR w H d v then eqD h.choose x else false
theorem eqW_of {x d : D} {v : V} {u : Value} (ok : okEq d x = true) (r : RelV v u) (q : VR w H d v) : eqW w H x u = eqD d x := by
  have h : ∃ d : D, okEq d x = true ∧ ∃ v, RelV v u ∧ VR w H d v := ⟨d, ok, v, r, q⟩
  unfold eqW
  rw [dif_pos h]
  obtain ⟨ok', v', r', q'⟩ := h.choose_spec
  have e : v' = v := r'.inj r
  subst e
  rw [VR.uniq (okEq_of ok').1 (okEq_of ok).1 q' q]
theorem eqW_any {x : D} : ∀ {ds : List D} {vs : List V} {us : List Value}, VRs w H ds vs → Vals vs us → (ds.all fun y => okEq y x) = true → us.any (eqW w H x) = memD x ds
  | _, _, _, .nil, .nil, _ => rfl
  | _, _, _, .cons r t, .cons q u, h => by
    simp only [List.all_cons, Bool.and_eq_true] at h
    show (eqW w H x _ || _) = _
    rw [eqW_of h.1 q r, eqW_any t u h.2]
    rfl
end
section
variable {X : Cx}
theorem eqW_at {A : Around} {pins : List (Addr × Obj)} {s : Shared} {σ : L2.St} {H : Hp} {w : Wd} {x : D} {xv : V} {v : Value} (hu : A.units + 32 < cLine) (I : Inv X pins σ H s) (hx : PVR w H x xv) (rx : RelV xv v) :
    ∀ {ds : List D} {vs : List V} {us : List Value}, VRs w H ds vs → Vals vs us → (ds.all fun y => okEq y x) = true → ∀ u ∈ us, SeqAt.EqAt A s u v (eqW w H x u)
  | _, _, _, .nil, .nil, _ => fun u hu => by cases hu
  | _, _, _, .cons r t, .cons q z, h => by
    simp only [List.all_cons, Bool.and_eq_true] at h
    intro u h'
    rcases List.mem_cons.mp h' with rfl | h'
    · rw [eqW_of h.1 q r]
      obtain ⟨k1, k2, k3⟩ := okEq_of h.1
      obtain ⟨as, r1⟩ := Dp.reads I _ _ _ (VR.dp (Kf := X.K) k1 r) q
      obtain ⟨bs, r2⟩ := Dp.reads I _ _ _ (hx.dp (Kf := X.K) k2) rx
      have l1 := depth_okN 20 _ k1
      exact PySem.W.eqAt_alike _ _ A s _ _ as bs r1 r2 k3 (by omega)
    · exact eqW_at hu I hx rx t z h.2 u h'
theorem in32 (hu : X.A.units + 64 < cLine) : X.A.in1.units + 32 < cLine := by
  have e : X.A.in1.units = X.A.units + 1 := rfl
  omega
def rMem (neg : Bool) : R2 := fun x y H Q => ∃ (w : Wd) (d : D) (es : List D) (p : Addr) (vs : List V), PVR w H d x ∧ y = .ref p ∧ (H p = some (.lst vs) ∨ H p = some (.tup vs)) ∧ VRs w H es vs ∧ (es.all fun y => okEq y d) = true ∧ Q (.bl (if neg then !memD d es else memD d es)) H
theorem o_in (hu : X.A.units + 64 < cLine) : OpR X (compareOp .In) (rMem false) := by
  intro pins s σ H x y v u Q I rx ry h
  obtain ⟨w, d, es, p, vs, hd, rfl, hp, r, ok, q⟩ := h
  cases ry
  rcases hp with hp | hp
  · obtain ⟨its, rv, pl, hz⟩ := I.list (.of hp)
    refine SeqAt.in_listAt (eqW w H d) pl.isList (fun z hz => eqW_at (in32 hu) I hd rx r rv ok z (by simpa using hz)) ⟨.bl _, H, I, rfl, ?_⟩
    rw [show its.toArray.any (eqW w H d) = its.any (eqW w H d) by simp, eqW_any r rv ok]
    exact q
  · obtain ⟨its, rv, pl, hz⟩ := I.tuple (.of hp)
    refine SeqAt.in_tupleAt (eqW w H d) pl (fun z hz => eqW_at (in32 hu) I hd rx r rv ok z (by simpa using hz)) ⟨.bl _, H, I, rfl, ?_⟩
    rw [show its.toArray.any (eqW w H d) = its.any (eqW w H d) by simp, eqW_any r rv ok]
    exact q
theorem o_nin (hu : X.A.units + 64 < cLine) : OpR X (compareOp .NotIn) (rMem true) := by
  intro pins s σ H x y v u Q I rx ry h
  obtain ⟨w, d, es, p, vs, hd, rfl, hp, r, ok, q⟩ := h
  cases ry
  rcases hp with hp | hp
  · obtain ⟨its, rv, pl, hz⟩ := I.list (.of hp)
    refine SeqAt.notIn_listAt (eqW w H d) pl.isList (fun z hz => eqW_at (in32 hu) I hd rx r rv ok z (by simpa using hz)) ⟨.bl _, H, I, rfl, ?_⟩
    rw [show its.toArray.any (eqW w H d) = its.any (eqW w H d) by simp, eqW_any r rv ok]
    exact q
  · obtain ⟨its, rv, pl, hz⟩ := I.tuple (.of hp)
    refine SeqAt.notIn_tupleAt (eqW w H d) pl (fun z hz => eqW_at (in32 hu) I hd rx r rv ok z (by simpa using hz)) ⟨.bl _, H, I, rfl, ?_⟩
    rw [show its.toArray.any (eqW w H d) = its.any (eqW w H d) by simp, eqW_any r rv ok]
    exact q
end
end Sk

end

section
set_option Elab.async false
set_option linter.all false
set_option maxRecDepth 100000
set_option maxHeartbeats 4000000
/-! SkE: what the operators give. -/
namespace Sk
open PySem PySem.Spec PyProof.Rows L2

def Cont (K : Cs) (w : Wd) (s : S) (σ : L2.St) (H : Hp) (r : RV) (Q : VK) : Prop := ∀ w' H' v, Ext w H w' H' → Sim K w' s σ H' → RVR w' s σ H' r v → Q v H'
section
variable {K : Cs} {w : Wd} {s : S} {σ : L2.St} {H : Hp} {Q : VK} {p : Addr} {ds : List D} {vs : List V}
theorem Cont.val (I : Sim K w s σ H) {d : D} {v : V} (c : Cont K w s σ H (.val d) Q) (h : VR w H d v) : Q v H := c w H v (.refl w H) I h
theorem Cont.int (I : Sim K w s σ H) {i : Int} (c : Cont K w s σ H (.val (.int i)) Q) : Q (.int i) H := c.val I (.int i)
theorem Cont.bl (I : Sim K w s σ H) {b : Bool} (c : Cont K w s σ H (.val (.bl b)) Q) : Q (.bl b) H := c.val I (.bl b)
theorem Cont.str (I : Sim K w s σ H) {x : List Nat} (c : Cont K w s σ H (.val (.str x)) Q) {y : Str} (h : y.cps.toList = x) : Q (.str y) H := by
  have e : y = ⟨x.toArray⟩ := by
    obtain ⟨a⟩ := y
    subst h
    simp
  rw [e]
  exact c.val I (.str x)
theorem Cont.tup (I : Sim K w s σ H) (c : Cont K w s σ H (.val (.tup ds)) Q) (hp : H p = none) (r : VRs w H ds vs) : Q (.ref p) (upd H p (.tup vs)) := by
  have g : Grow w H (w.put p) (upd H p (.tup vs)) := .shared hp
  exact c _ _ _ (g.ext I) (g.sim I) (.tup (.inr rfl) upd_same (VRs.ext (g.ext I).toLe r))
theorem Cont.own (I : Sim K w s σ H) {d : D} {o : HO} (c : Cont K w s σ H (.own d) Q) (hp : H p = none) (r : ∀ w', Le w H w' (upd H p o) → CAt w' (upd H p o) p d) : Q (.ref p) (upd H p o) := by
  have g : Grow w H w (upd H p o) := .own hp
  have f := I.fresh hp
  exact c _ _ _ (g.ext I) (g.sim I) ⟨p, rfl, r w (g.ext I).toLe, f.1, f.2.1, f.2.2⟩
theorem Cont.lst (I : Sim K w s σ H) (c : Cont K w s σ H (.own (.lst ds)) Q) (hp : H p = none) (r : VRs w H ds vs) : Q (.ref p) (upd H p (.lst vs)) :=
  c.own I hp fun w' e => ⟨vs, upd_same, VRs.ext e r⟩
theorem sz_eq : sz = sizeLine := by rw [sizeLine_eq]; rfl
theorem Str.length_mk (x : List Nat) : (Str.mk x.toArray).length = x.length := by show x.toArray.size = _; simp
end

/-! ### operators -/
section
variable {X : Cx}
def rAddA (Kf : PySem.W.Frag) : R2 := fun x y H Q => (rI0 fun i j => .int (i + j)) x y H Q ∨ (∃ i j, x = .str i ∧ y = .str j ∧ i.length + j.length ≤ sizeLine ∧ Q (.str (i ++ j)) H) ∨ rCatA Kf x y H Q ∨ rCat x y H Q
theorem o_add : OpR X (binaryOp .Add) (rAddA X.K) := op_add.or (op_add_str.or (op_catA.or op_cat))
def opOf : BOp → Operator
  | .add => .Add
  | .sub => .Sub
  | .mul => .Mult
  | .fdiv => .FloorDiv
  | .md => .Mod
  | .pow => .Pow
def rB (Kf : PySem.W.Frag) : BOp → R2
  | .add => rAddA Kf
  | .sub => rI0 fun i j => .int (i - j)
  | .mul => rI CMul fun i j => .int (i * j)
  | .fdiv => rI CDiv fun i j => .int (i / j)
  | .md => rI (fun _ j => 0 < j) fun i j => .int (i % j)
  | .pow => rI CPow fun i j => .int (i ^ j.toNat)
theorem o_bin : ∀ op : BOp, OpR X (binaryOp (opOf op)) (rB X.K op)
  | .add => o_add
  | .sub => op_sub
  | .mul => op_mul
  | .fdiv => op_fdiv
  | .md => op_mod
  | .pow => op_pow
theorem bin_ok {Kf : PySem.W.Frag} {K : Cs} {w : Wd} {s : S} {σ : L2.St} {H : Hp} {Q : VK} {op : BOp} {x y : V} {a b : D} {r : RV} (I : Sim K w s σ H) (hx : PVR w H a x) (hy : PVR w H b y) (e : binD op a b = .ok r)
    (c : Cont K w s σ H r Q) : rB Kf op x y H Q := by
  unfold binD at e
  split at e
  · cases hx.int_; cases hy.int_; cases e
    exact .inl ⟨_, _, rfl, rfl, c.int I⟩
  · cases hx.str_; cases hy.str_
    split at e <;> cases e
    rename_i h
    refine .inr (.inl ⟨_, _, rfl, rfl, ?_, c.str I (by show ((List.toArray _) ++ (List.toArray _)).toList = _; simp)⟩)
    rw [Str.length_mk, Str.length_mk, ← sz_eq]
    exact h
  · split at e <;> cases e
    rename_i h
    obtain ⟨p, vs, rfl, z1, e1, r1⟩ := hx.tup_
    obtain ⟨q, us, rfl, z2, e2, r2⟩ := hy.tup_
    refine .inr (.inr (.inl ⟨p, q, vs, us, rfl, rfl, .of e1, .of e2, ?_, fun n1 => ?_, fun _ n2 => ?_, fun _ _ t ht => c.tup I ht (r1.append r2)⟩))
    · rw [← r1.length, ← r2.length, ← sz_eq]
      exact h
    · rw [r1.nil_iff.mpr n1] at c
      exact c.val I (.tup z2 e2 r2)
    · rw [r2.nil_iff.mpr n2, List.append_nil] at c
      exact c.val I (.tup z1 e1 r1)
  · split at e <;> cases e
    rename_i h
    obtain ⟨p, vs, rfl, e1, r1⟩ := hx.lst_
    obtain ⟨q, us, rfl, e2, r2⟩ := hy.lst_
    refine .inr (.inr (.inr ⟨p, q, vs, us, rfl, rfl, e1, e2, ?_, fun t ht => c.lst I ht (r1.append r2)⟩))
    rw [← r1.length, ← r2.length, ← sz_eq]
    exact h
  · cases hx.int_; cases hy.int_; cases e
    exact ⟨_, _, rfl, rfl, c.int I⟩
  · cases hx.int_; cases hy.int_
    split at e <;> cases e
    rename_i h
    exact ⟨_, _, rfl, rfl, h.imp (fun h => by omega) (fun h => by omega), c.int I⟩
  · cases hx.int_; cases hy.int_
    split at e <;> cases e
    rename_i h
    exact ⟨_, _, rfl, rfl, h, c.int I⟩
  · cases hx.int_; cases hy.int_
    split at e <;> cases e
    rename_i h
    exact ⟨_, _, rfl, rfl, h, c.int I⟩
  · cases hx.int_; cases hy.int_
    split at e <;> cases e
    rename_i h
    exact ⟨_, _, rfl, rfl, h, c.int I⟩
  · cases e

/-! ### keys -/
def kOf : D → Option Key
  | .int i => some (.inl i)
  | .str x => some (.inr ⟨x.toArray⟩)
  | _ => none
theorem kD_kOf {d : D} {k : Key} (h : kOf d = some k) : kD k = d := by
  cases d <;> simp [kOf] at h <;> subst h <;> simp [kD]
theorem kOf_kD (k : Key) : kOf (kD k) = some k := by
  cases k with
  | inl i => rfl
  | inr x => obtain ⟨x⟩ := x; simp [kD, kOf]
theorem isAtom_kOf {d : D} (h : isAtom d = true) : ∃ k, kOf d = some k := by
  cases d <;> simp [isAtom] at h <;> exact ⟨_, rfl⟩
theorem kOf_v {w : Wd} {H : Hp} {d : D} {k : Key} {v : V} (h : kOf d = some k) (r : PVR w H d v) : v = kV k := by
  cases d with
  | int i => cases h; exact r.int_
  | str x => cases h; exact r.str_
  | _ => cases h
theorem atomEq_kD (k l : Key) : atomEq (kD k) (kD l) = decide (k = l) := by
  cases k with
  | inl i =>
    cases l with
    | inl j =>
      simp only [kD, atomEq]
      by_cases h : i = j
      · subst h; simp
      · rw [decide_eq_false (fun e => h (Sum.inl.inj e))]
        simpa using h
    | inr y => simp [kD, atomEq]
  | inr x =>
    cases l with
    | inl j => simp [kD, atomEq]
    | inr y =>
      obtain ⟨x⟩ := x
      obtain ⟨y⟩ := y
      simp only [kD, atomEq]
      by_cases h : x = y
      · subst h; simp
      · rw [decide_eq_false (fun e => h (by injection e with e; injection e))]
        simp only [beq_eq_false_iff_ne, ne_eq]
        exact fun e => h (Array.toList_inj.mp e)
theorem keyEq_kD (k l : Key) : keyEq (kD k) (kD l) = decide (k = l) := by
  have h : keyEq (kD k) (kD l) = atomEq (kD k) (kD l) := by
    rcases k with i | x <;> rcases l with j | y <;> rfl
  rw [h, atomEq_kD]
def tOf : List D → Option (List Key)
  | [] => some []
  | d :: ds => match kOf d, tOf ds with
    | some k, some ks => some (k :: ks)
    | _, _ => none
theorem tOf_map : ∀ {ds : List D} {ks : List Key}, tOf ds = some ks → ks.map kD = ds
  | [], _, h => by cases h; rfl
  | d :: ds, ks, h => by
    unfold tOf at h
    cases h1 : kOf d with
    | none => rw [h1] at h; cases h
    | some k =>
      cases h2 : tOf ds with
      | none => rw [h1, h2] at h; cases h
      | some ks' =>
        rw [h1, h2] at h
        cases h
        rw [List.map_cons, kD_kOf h1, tOf_map h2]
theorem tOf_some : ∀ {ds : List D}, ds.all isAtom = true → ∃ ks, tOf ds = some ks
  | [], _ => ⟨_, rfl⟩
  | d :: ds, h => by
    simp only [List.all_cons, Bool.and_eq_true] at h
    obtain ⟨k, e1⟩ := isAtom_kOf h.1
    obtain ⟨ks, e2⟩ := tOf_some h.2
    exact ⟨k :: ks, by unfold tOf; rw [e1, e2]⟩
theorem tOf_vs {w : Wd} {H : Hp} : ∀ {ds : List D} {ks : List Key} {vs : List V}, tOf ds = some ks → VRs w H ds vs → vs = ks.map kV
  | [], _, _, h, r => by cases h; cases r; rfl
  | d :: ds, ks, vs, h, r => by
    unfold tOf at h
    cases h1 : kOf d with
    | none => rw [h1] at h; cases h
    | some k =>
      cases h2 : tOf ds with
      | none => rw [h1, h2] at h; cases h
      | some ks' =>
        rw [h1, h2] at h
        cases h
        cases r with
        | cons r t => rw [List.map_cons, kOf_v h1 (.inl r), tOf_vs h2 t]
theorem atomsEq_tD : ∀ ks ls : List Key, atomsEq (ks.map kD) (ls.map kD) = decide (ks = ls)
  | [], [] => rfl
  | [], _ :: _ => by simp [atomsEq]
  | _ :: _, [] => by simp [atomsEq]
  | k :: ks, l :: ls => by
    simp only [List.map_cons, atomsEq]
    rw [atomEq_kD, atomsEq_tD ks ls]
    by_cases h1 : k = l <;> by_cases h2 : ks = ls <;> simp [h1, h2]
theorem keyEq_tD (ks ls : List Key) : keyEq (tD ks) (tD ls) = decide (ks = ls) := atomsEq_tD ks ls
theorem isAtom_tD (ks : List Key) : isAtom (tD ks) = false := rfl
theorem isKeyT_kD (k : Key) : isKeyT (kD k) = false := by rcases k with i | x <;> rfl
theorem isAtom_kD (k : Key) : isAtom (kD k) = true := by rcases k with i | x <;> rfl
theorem isKeyT_tD (ks : List Key) : isKeyT (tD ks) = true := by
  show (ks.map kD).all isAtom = true
  rw [List.all_map, List.all_eq_true]
  intro k _
  exact isAtom_kD k

/-! ### dicts -/
section
variable {κ : Type} [DecidableEq κ] {w w' : Wd} {H H' : Hp} (f : κ → D)
theorem look_val (hf : ∀ k l, keyEq (f k) (f l) = decide (k = l)) (k : κ) : ∀ {ds : List (D × D)} {kvs : List (κ × V)}, VRk w H ds (kvs.map fun p => (f p.1, p.2)) →
    match lookD (f k) ds, valV kvs k with
    | some d, some v => VR w H d v
    | none, none => True
    | _, _ => False
  | [], [], _ => by simp [lookD, valV]
  | [], q :: qs, h => by cases h
  | p :: ps, [], h => by cases h
  | p :: ps, q :: qs, h => by
    cases h with
    | cons r t =>
      have ih := look_val hf k t
      unfold lookD
      rw [hf]
      by_cases e : q.1 = k
      · rw [decide_eq_true e, if_pos rfl, valV_pos e]
        exact r
      · rw [decide_eq_false e, if_neg Bool.false_ne_true, valV_neg e]
        exact ih
theorem VRk.snoc : ∀ {ds : List (D × D)} {vs : List (D × V)} {k d : D} {v : V}, VRk w H ds vs → VR w H d v → VRk w H (ds ++ [(k, d)]) (vs ++ [(k, v)])
  | _, _, _, _, _, .nil, r => .cons r .nil
  | _, _, _, _, _, .cons q t, r => .cons q (VRk.snoc t r)
theorem any_keys (hf : ∀ k l, keyEq (f k) (f l) = decide (k = l)) (k : κ) : ∀ {ds : List (D × D)} {kvs : List (κ × V)}, VRk w H ds (kvs.map fun p => (f p.1, p.2)) → (ds.any fun p => keyEq p.1 (f k)) = kvs.any fun kv => decide (kv.1 = k)
  | [], [], _ => rfl
  | [], q :: qs, h => by cases h
  | p :: ps, [], h => by cases h
  | p :: ps, q :: qs, h => by
    cases h with
    | cons r t => rw [List.any_cons, List.any_cons, hf, any_keys hf k t]
theorem map_keys (hf : ∀ k l, keyEq (f k) (f l) = decide (k = l)) (k : κ) {d : D} {v : V} (rv : VR w H d v) : ∀ {ds : List (D × D)} {kvs : List (κ × V)}, VRk w H ds (kvs.map fun p => (f p.1, p.2)) →
    VRk w H (ds.map fun p => if keyEq p.1 (f k) = true then (p.1, d) else p) ((kvs.map fun kv => if kv.1 = k then (kv.1, v) else kv).map fun p => (f p.1, p.2))
  | [], [], _ => .nil
  | [], q :: qs, h => by cases h
  | p :: ps, [], h => by cases h
  | p :: ps, q :: qs, h => by
    cases h with
    | cons r t =>
      rw [List.map_cons, List.map_cons, List.map_cons]
      simp only [hf]
      by_cases e : q.1 = k
      · rw [if_pos (decide_eq_true e), if_pos e]
        exact .cons rv (map_keys hf k rv t)
      · rw [if_neg (by rw [decide_eq_false e]; exact Bool.false_ne_true), if_neg e]
        exact .cons r (map_keys hf k rv t)
theorem put_keys (hf : ∀ k l, keyEq (f k) (f l) = decide (k = l)) (k : κ) {d : D} {v : V} (rv : VR w H d v) {ds : List (D × D)} {kvs : List (κ × V)} (h : VRk w H ds (kvs.map fun p => (f p.1, p.2))) :
    VRk w H (putD (f k) d ds) ((putK kvs k v).map fun p => (f p.1, p.2)) := by
  unfold putD putK
  rw [any_keys f hf k h]
  by_cases a : (kvs.any fun kv => decide (kv.1 = k)) = true
  · rw [if_pos a, if_pos a]
    exact map_keys f hf k rv h
  · rw [if_neg a, if_neg a, List.map_append]
    exact VRk.snoc h rv
theorem VRk.length : ∀ {ds : List (D × D)} {vs : List (D × V)}, VRk w H ds vs → ds.length = vs.length
  | _, _, .nil => rfl
  | _, _, .cons _ t => by rw [List.length_cons, List.length_cons, VRk.length t]
end
end
end Sk

end

section
set_option Elab.async false
set_option linter.all false
set_option maxRecDepth 100000
set_option maxHeartbeats 4000000
/-! SkF: expressions, construct by construct. -/
namespace Sk
open PySem PySem.Spec PyProof.Rows L2

section
variable {X : Cx} {K : Cs} {c : Ctx} {pos : Pos}
/-- a test as any value's truth -/
def plainT : Expr → Bool
  | .UnaryOp .Not _ _ => false
  | .BoolOp _ _ _ => false
  | .IfExp _ _ _ _ => false
  | .Compare _ _ _ _ => false
  | _ => true
theorem plainT_is {a : Expr} {env : Env} (h : plainT a = true) (whole : Sem Value) : isTrue a env whole = (do let v ← whole; standAt a.pos; holding [v] (truthy v)) := by
  cases a with
  | UnaryOp op x p => cases op <;> first | rfl | simp [plainT] at h
  | BoolOp => simp [plainT] at h
  | IfExp => simp [plainT] at h
  | Compare => simp [plainT] at h
  | _ => rfl
section
variable {w : Wd} {H : Hp} {s : S} {σ : L2.St}
theorem truth_v {Kf : PySem.W.Frag} {d : D} {v : V} {b : Bool} (r : PVR w H d v) (e : truth d = .ok b) : TruV Kf v H b := by
  cases d with
  | non => cases e; cases r.non_; rfl
  | bl k => cases e; cases r.bl_; rfl
  | int i => cases e; cases r.int_; rfl
  | str x =>
    cases r.str_
    simp only [truth] at e
    split at e <;> cases e
    rename_i h
    refine ⟨by rw [Str.length_mk, ← sz_eq]; exact h, ?_⟩
    rw [Str.length_mk]
    cases x with
    | nil => rfl
    | cons a x =>
      simp only [List.length_cons, List.isEmpty_cons, Bool.not_false, bne_iff_ne, ne_eq, Bool.true_eq]
      omega
  | tup x =>
    cases e
    obtain ⟨a, vs, rfl, z, e1, r1⟩ := r.tup_
    exact .inr (.inl ⟨vs, .of e1, by cases r1 <;> rfl⟩)
  | lst x =>
    cases e
    obtain ⟨a, vs, rfl, e1, r1⟩ := r.lst_
    exact .inl ⟨vs, .of e1, by cases r1 <;> rfl⟩
  | dct x => cases e
  | ref n => cases e
end
theorem testR_ok {m : Rs RV} {b : Bool} {s' : S} (h : testR m = .ok (b, s')) : ∃ r d, m = .ok (r, s') ∧ peek r s' = .ok d ∧ truth d = .ok b := by
  cases m with
  | error e => cases h
  | ok p =>
    obtain ⟨r, s1⟩ := p
    simp only [testR] at h
    cases hp : peek r s1 with
    | error e => rw [hp] at h; cases h
    | ok d =>
      rw [hp] at h
      simp only at h
      cases ht : truth d with
      | error e => rw [ht] at h; cases h
      | ok b' =>
        rw [ht] at h
        cases h
        exact ⟨r, d, rfl, hp, ht⟩
/-- a test by the value -/
theorem pt_plain {e : Expr} {m : S → Rs RV} (h : PE X e (tE K m)) (hp : plainT e = true) : PT X e (tT K fun s => testR (m s)) := by
  refine (pt_truth h (plainT_is hp)).imp fun σ H Q ⟨w, s, I, b, s', hm, k⟩ => ?_
  obtain ⟨r, d, hr, hp, ht⟩ := testR_ok hm
  exact ⟨w, s, I, r, s', hr, fun w' H' v E' I' r' => ⟨_, truth_v (I'.peek r' hp) ht, k w' H' E' I'⟩⟩
theorem testR_of {m : Rs RV} {b : Bool} {s' : S} {r : RV} {d : D} (h : m = .ok (r, s')) (hp : peek r s' = .ok d) (ht : truth d = .ok b) : testR m = .ok (b, s') := by
  subst h
  simp only [testR, hp, ht]

/-! constants, names -/
theorem s_lit {e : Expr} {v : V} {d : D} (h : PE X e (tC v)) (r : ∀ w s σ H, Sim K w s σ H → VR w H d v) : PE X e (tE K (evE c (.lit d))) :=
  h.imp fun σ H Q ⟨w, s, I, r', s', hm, k⟩ => by
    rw [evE] at hm
    cases hm
    exact k w H v (.refl w H) I (r w s σ H I)
theorem s_var {i : Nat} {x : Str} (hN : X.N[i]? = some x) (hv : Vis X.env.scope x) (hd : (x == ("__debug__" : Str)) = false) (hcd : (x == ("__classdict__" : Str)) = false) : PE X (.Name x pos) (tE K (evE c (.var i))) :=
  (pe_var (pos := pos) hN hv hd hcd).imp fun σ H Q ⟨w, s, I, r', s', hm, k⟩ => by
    rw [evE] at hm
    cases q : slotAt s i with
    | un => rw [q] at hm; cases hm
    | val d =>
      rw [q] at hm
      cases hm
      obtain ⟨u, h1, v, h2, h3⟩ := I.slot i _ (slotAt_some q (by simp))
      subst h2
      exact ⟨v, h1, k w H v (.refl w H) I h3⟩
    | own d =>
      rw [q] at hm
      cases hm
      obtain ⟨u, h1, a, h2, h3⟩ := I.slot i _ (slotAt_some q (by simp))
      subst h2
      exact ⟨_, h1, k w H _ (.refl w H) I h1⟩
    | bor d =>
      rw [q] at hm
      cases hm
      obtain ⟨u, h1, a, h2, h3⟩ := I.slot i _ (slotAt_some q (by simp))
      subst h2
      exact ⟨_, h1, k w H _ (.refl w H) I h1⟩

/-! two operands -/
theorem bin_ev {op : BOp} {x y : Ex} {s s' : S} {r : RV} (h : evE c (.bin op x y) s = .ok (r, s')) : ∃ ra s1 rb a b, evE c x s = .ok (ra, s1) ∧ evE c y s1 = .ok (rb, s') ∧ peek ra s' = .ok a ∧ peek rb s' = .ok b ∧ binD op a b = .ok r := by
  rw [evE] at h
  split at h
  · rename_i ra s1 h1
    split at h
    · rename_i rb s2 h2
      split at h
      · rename_i a b ha hb
        split at h
        · rename_i r' hr
          cases h
          exact ⟨_, _, _, _, _, h1, h2, ha, hb, hr⟩
        · cases h
      · cases h
    · cases h
  · cases h
theorem s_bin {op : BOp} {ea eb : Expr} {x y : Ex} (ha : PE X ea (tE K (evE c x))) (hb : PE X eb (tE K (evE c y))) : PE X (.BinOp ea (opOf op) eb pos) (tE K (evE c (.bin op x y))) :=
  (pe_op (pos := pos) (o_bin op) ha hb).imp fun σ H Q ⟨w, s, I, r, s', hm, k⟩ => by
    obtain ⟨ra, s1, rb, a, b, h1, h2, p1, p2, hr⟩ := bin_ev hm
    exact two I h1 h2 fun w' H' u v E' I' r1 r2 _ => bin_ok I' (I'.peek r1 p1) (I'.peek r2 p2) hr fun w2 H2 z E2 I2 r3 => k w2 H2 z (E'.trans E2) I2 r3

/-! what is kept -/
section
variable {w : Wd} {H : Hp} {s s2 : S} {σ : L2.St}
theorem Wd.put_le (w : Wd) (a : Addr) (H : Hp) : Le w H (w.put a) H := ⟨fun _ z => .inl z, fun _ _ => rfl, fun _ _ => rfl, Nat.le_refl _⟩
theorem Wd.put_ext (w : Wd) (a : Addr) (H : Hp) : Ext w H (w.put a) H := ⟨w.put_le a H, fun _ _ => rfl, rfl, rfl⟩
theorem freeze_ok (I : Sim K w s σ H) {r : RV} {v : V} {d : D} (h : RVR w s σ H r v) (e : freeze r s = .ok (d, s2)) : ∃ w2, Ext w H w2 H ∧ Sim K w2 s2 σ H ∧ VR w2 H d v := by
  cases r with
  | val d' => cases e; exact ⟨w, .refl w H, I, h⟩
  | own d' =>
    cases e
    obtain ⟨a, rfl, ca, n1, n2, n3⟩ := h
    have le := w.put_le a H
    refine ⟨w.put a, w.put_ext a H, ⟨fun p h => VR.ext le (I.con p h), fun b q => q.elim (I.zd b) fun q => by subst q; exact ca.has, I.pd, I.bp, fun b q p => q.elim (fun q => I.zp b q p) fun q => by subst q; exact n2 p, I.len, fun i x q => ?_, I.mlen, fun n o q => (I.mo n o q).ext le rfl, fun x b q => ?_, fun x y b h1 h2 => I.inj x y b (OwnAt.same rfl rfl h1) (OwnAt.same rfl rfl h2)⟩, (ca.ext le rfl).vr (.inr rfl)⟩
    · obtain ⟨v, q1, r⟩ := I.slot i x q
      exact ⟨v, q1, r.ext le rfl fun _ _ q => q⟩
    · have q' : OwnAt s σ w x b := OwnAt.same rfl rfl q
      obtain ⟨f1, f2⟩ := I.fr x b q'
      exact ⟨fun z => z.elim f1 fun z => by subst z; exact n3 x q', f2⟩
  | bor i =>
    unfold freeze at e
    have h : σ[i]? = some (some v) := h
    cases q : slotAt s i with
    | un => simp [q] at e
    | bor d' => simp [q] at e
    | val d' =>
      simp only [q] at e
      cases e
      obtain ⟨u, h1, x, h2, h3⟩ := I.slot i _ (slotAt_some q (by simp))
      rw [h] at h1
      cases h1
      cases h2
      exact ⟨w, .refl w H, I, h3⟩
    | own d' =>
      simp only [q] at e
      cases e
      have hi := slotAt_some q (by simp)
      obtain ⟨u, h1, a, h2, ca⟩ := I.slot i _ hi
      rw [h] at h1
      cases h1
      cases h2
      have le := w.put_le a H
      have oa : OwnAt s σ w (.inl i) a := ⟨d, hi, h⟩
      obtain ⟨f1, f2⟩ := I.fr _ _ oa
      have back : ∀ {x b}, OwnAt { s with ρ := s.ρ.set i (.val d) } σ (w.put a) x b → OwnAt s σ w x b ∧ x ≠ .inl i := fun {x b} z => by
        cases x with
        | inl j =>
          obtain ⟨d2, z1, z2⟩ := z
          by_cases hj : i = j
          · subst hj
            have : i < s.ρ.length := (List.getElem?_eq_some_iff.mp hi).1
            rw [List.getElem?_set_self this] at z1
            cases z1
          · rw [List.getElem?_set_ne hj] at z1
            exact ⟨⟨d2, z1, z2⟩, fun e => hj (Sum.inl.inj e).symm⟩
        | inr n => exact ⟨z, fun e => by cases e⟩
      refine ⟨w.put a, w.put_ext a H, ⟨fun p h => VR.ext le (I.con p h), fun b q => q.elim (I.zd b) fun q => by subst q; exact ca.has, I.pd, I.bp, fun b q p => q.elim (fun q => I.zp b q p) fun q => by subst q; exact f2 p, by rw [List.length_set]; exact I.len, fun j x q => ?_, I.mlen, fun n o q => (I.mo n o q).ext le rfl, fun x b q => ?_, fun x y b h1 h2 => I.inj x y b (back h1).1 (back h2).1⟩, (ca.ext le rfl).vr (.inr rfl)⟩
      · by_cases hj : i = j
        · subst hj
          have : i < s.ρ.length := (List.getElem?_eq_some_iff.mp hi).1
          rw [List.getElem?_set_self this] at q
          cases q
          exact ⟨_, h, _, rfl, (ca.ext le rfl).vr (.inr rfl)⟩
        · rw [List.getElem?_set_ne hj] at q
          obtain ⟨v, q1, r⟩ := I.slot j x q
          exact ⟨v, q1, r.ext le rfl fun _ _ q => q⟩
      · obtain ⟨q1, q2⟩ := back q
        obtain ⟨g1, g2⟩ := I.fr x b q1
        exact ⟨fun z => z.elim g1 fun z => by subst z; exact q2 (I.inj _ _ _ q1 oa), g2⟩
end
def notStar : Expr → Bool
  | .Starred _ _ => false
  | _ => true
theorem star_ok {e : Expr} {es : List Expr} {env : Env} (h : notStar e = true) : starEach (e :: es) env = (false, eval e env) :: starEach es env := by
  cases e <;> first | rfl | simp [notStar] at h
theorem s_nil : PA X [] (tA K (evA c [])) := pa_nil.imp fun σ H Q ⟨w, s, I, ds, s', hm, k⟩ => by
  rw [evA] at hm
  cases hm
  exact k w H [] (.refl w H) I .nil
theorem s_cons {e : Expr} {es : List Expr} {x : Ex} {xs : List Ex} (h1 : PE X e (tE K (evE c x))) (hn : notStar e = true) (h2 : PA X es (tA K (evA c xs))) : PA X (e :: es) (tA K (evA c (x :: xs))) :=
  (pa_cons h1 h2 (star_ok hn)).imp fun σ H Q ⟨w, s, I, ds, s', hm, k⟩ => by
    rw [evA] at hm
    split at hm
    · rename_i r s1 h1
      split at hm
      · rename_i d s2 h2
        split at hm
        · rename_i ds' s3 h3
          cases hm
          refine ⟨w, s, I, r, s1, h1, fun w1 H1 v E1 I1 r1 => ?_⟩
          obtain ⟨w2, E2, I2, r2⟩ := freeze_ok I1 r1 h2
          exact ⟨w2, s2, I2, ds', s', h3, fun w3 H3 vs E3 I3 r3 => k w3 H3 _ ((E1.trans E2).trans E3) I3 (.cons (VR.ext E3.toLe r2) r3)⟩
        · cases hm
      · cases hm
    · cases hm
theorem s_tup {es : List Expr} {k : Nat} {xs : List Ex} (h : PA X es (tA K (evA c xs))) : PE X (.Tuple es k pos) (tE K (evE c (.tup xs))) :=
  (pe_tup (pos := pos) (x1 := k) h).imp fun σ H Q ⟨w, s, I, r, s', hm, k⟩ => by
    rw [evE] at hm
    split at hm
    · rename_i ds s1 h1
      split at hm <;> cases hm
      rename_i hl
      refine ⟨w, s, I, ds, s', h1, fun w1 H1 vs E1 I1 r1 => ⟨by rw [← r1.length, ← sz_eq]; exact hl, fun p hp => ?_⟩⟩
      exact Cont.tup I1 (fun w2 H2 z E2 I2 r2 => k w2 H2 z (E1.trans E2) I2 r2) hp r1
    · cases hm
theorem s_lst {es : List Expr} {xs : List Ex} (h : PA X es (tA K (evA c xs))) : PE X (.List es pos) (tE K (evE c (.lst xs))) :=
  (pe_lst (pos := pos) h).imp fun σ H Q ⟨w, s, I, r, s', hm, k⟩ => by
    rw [evE] at hm
    split at hm
    · rename_i ds s1 h1
      split at hm <;> cases hm
      rename_i hl
      refine ⟨w, s, I, ds, s', h1, fun w1 H1 vs E1 I1 r1 => ⟨by rw [← r1.length, ← sz_eq]; exact hl, fun p hp => ?_⟩⟩
      exact Cont.lst I1 (fun w2 H2 z E2 I2 r2 => k w2 H2 z (E1.trans E2) I2 r2) hp r1
    · cases hm
theorem s_dnew : PE X (.Dict [] [] pos) (tE K (evE c .dnew)) :=
  (pe_dnewK (X := X) (pos := pos)).imp fun σ H Q ⟨w, s, I, r, s', hm, k⟩ => by
    rw [evE] at hm
    cases hm
    exact fun p hp => Cont.own I k hp fun w' e => .inl ⟨[], upd_same, .nil⟩
end
end Sk

end

section
set_option Elab.async false
set_option linter.all false
set_option maxRecDepth 100000
set_option maxHeartbeats 4000000
/-! SkG: comparisons, tests, subscripts. -/
namespace Sk
open PySem PySem.Spec PyProof.Rows L2
section
variable {X : Cx} {K : Cs} {c : Ctx} {pos : Pos}

/-! ### comparisons -/
def copOf : COp → CmpOp
  | .eq => .Eq
  | .ne => .NotEq
  | .lt => .Lt
  | .le => .LtE
  | .gt => .Gt
  | .ge => .GtE
  | .inn => .In
  | .nin => .NotIn
/-- an empty dict asked by a key of the other sort -/
def Oth (H : Hp) (a : Addr) (x : V) : Prop := (H a = some (.dK []) ∧ ∃ (k : List Key) (b : Addr), x = .ref b ∧ H b = some (.tup (k.map kV))) ∨ (H a = some (.dT []) ∧ ∃ k : Key, x = kV k)
def rDin (neg : Bool) : R2 := fun x y H Q => ∃ (a : Addr) (o : Option V), y = .ref a ∧ (DGet H a x o ∨ (o = none ∧ Oth H a x)) ∧ Q (.bl (if neg then !o.isSome else o.isSome)) H
def rC (Kf : PySem.W.Frag) : COp → R2
  | .eq => rDat Kf okEq eqD
  | .ne => rDat Kf okEq fun d e => !eqD d e
  | .lt => rDat Kf okLt ltD
  | .le => rDat Kf okLt fun d e => !ltD e d
  | .gt => rDat Kf okLt fun d e => ltD e d
  | .ge => rDat Kf okLt fun d e => !ltD d e
  | .inn => fun x y H Q => rMem false x y H Q ∨ rDin false x y H Q
  | .nin => fun x y H Q => rMem true x y H Q ∨ rDin true x y H Q
/-! an empty dict is of both sorts -/
section
variable {pins : List (Addr × Obj)} {s : Shared} {σ : L2.St} {H : Hp} {a : Addr}
theorem both_sorts {P : Program} {w : World} {h : Heap} (H : Hp) : ObjOk P w H h a (.dK []) ↔ ObjOk P w H h a (.dT []) := by
  constructor
  · intro ⟨z, hd, vs, r, dd⟩
    cases r
    obtain ⟨o, es, ep, e1, e2, e3, e4, e5, e6⟩ := dd
    have e7 : es.toList = [] := by
      generalize es.toList = l at e5
      cases e5
      rfl
    exact ⟨z, hd, [], .nil, o, es, ep, e1, e2, e3, by rw [e7]; rfl, List.nodup_nil⟩
  · intro ⟨z, hd, xs, r, o, es, ep, e1, e2, e3, e4, e5⟩
    cases r
    have e7 : es = #[] := by simpa using e4
    subst e7
    exact ⟨z, hd, [], .nil, o, #[], ep, e1, e2, e3, fun e he => by simp at he, .nil, List.nodup_nil⟩
theorem to_dT (I : Inv X pins σ H s) (h : H a = some (.dK [])) : Inv X pins σ (upd H a (.dT [])) s := by
  obtain ⟨o, ho⟩ : ∃ o, s.heap.get? a = some o := by
    obtain ⟨_, _, _, _, o, _, _, e, _⟩ := I.hok a _ h
    exact ⟨o, e⟩
  refine I.write (x := a) (e := a) (h' := s.heap) (t' := s.toks) (by rw [h]; trivial) (.inl rfl) (fun _ _ _ q => q) ⟨o, ho⟩ ?_
  have q := (both_sorts (P := X.prog) (w := X.w) H).mp (I.hok a _ h)
  exact q.stay (fun _ _ _ q => q) (fun b q => by rw [upd_ne (ne_of q h (by simp))]; exact q) fun b xs q => by rw [upd_ne (ne_of q h (by simp))]; exact q
theorem to_dK (I : Inv X pins σ H s) (h : H a = some (.dT [])) : Inv X pins σ (upd H a (.dK [])) s := by
  obtain ⟨o, ho⟩ : ∃ o, s.heap.get? a = some o := by
    obtain ⟨_, _, _, _, o, _, _, e, _⟩ := I.hok a _ h
    exact ⟨o, e⟩
  refine I.write (x := a) (e := a) (h' := s.heap) (t' := s.toks) (by rw [h]; trivial) (.inl rfl) (fun _ _ _ q => q) ⟨o, ho⟩ ?_
  have q := (both_sorts (P := X.prog) (w := X.w) H).mpr (I.hok a _ h)
  exact q.stay (fun _ _ _ q => q) (fun b q => by rw [upd_ne (ne_of q h (by simp))]; exact q) fun b xs q => by rw [upd_ne (ne_of q h (by simp))]; exact q
end
theorem upd_back {H : Hp} {a : Addr} {o u : HO} (h : H a = some o) : upd (upd H a u) a o = H := by
  rw [upd_upd]
  funext b
  by_cases hb : b = a
  · subst hb
    rw [upd_same, h]
  · rw [upd_ne hb]
/-- .. has the other sort's answer: nothing -/
theorem oth_of {R : Shared → Prop} {pins : List (Addr × Obj)} {s : Shared} {σ : L2.St} {H : Hp} {a : Addr} {x : V} (I : Inv X pins σ H s) (h : Oth H a x)
    (go : ∀ H2, Inv X pins σ H2 s → DGet H2 a x none → (∀ s', Inv X pins σ H2 s' → Inv X pins σ H s') → R s) : R s := by
  rcases h with ⟨e, k, b, rfl, eb⟩ | ⟨e, k, rfl⟩
  · refine go _ (to_dT I e) (DGet.t (kvs := []) upd_same (by rw [upd_ne (ne_of eb e (by simp))]; exact eb)) fun s' I' => ?_
    have q := to_dK I' upd_same
    rw [upd_back e] at q
    exact q
  · refine go _ (to_dK I e) (DGet.k (kvs := []) upd_same) fun s' I' => ?_
    have q := to_dT I' upd_same
    rw [upd_back e] at q
    exact q
theorem o_din (hu : X.A.units + 1 < cLine) : OpR X (compareOp .In) (rDin false) := by
  intro pins s σ H x y v u Q I rx ry h
  obtain ⟨a, o, rfl, g, q⟩ := h
  cases ry
  rcases g with g | ⟨rfl, g⟩
  · exact d_in hu I g rx fun s' I' => ⟨.bl _, H, I', rfl, q⟩
  · exact oth_of I g fun H2 I2 g2 back => d_in hu I2 g2 rx fun s' I' => ⟨.bl _, H, back s' I', rfl, q⟩
theorem o_dnin (hu : X.A.units + 1 < cLine) : OpR X (compareOp .NotIn) (rDin true) := by
  intro pins s σ H x y v u Q I rx ry h
  obtain ⟨a, o, rfl, g, q⟩ := h
  cases ry
  rcases g with g | ⟨rfl, g⟩
  · exact d_notIn hu I g rx fun s' I' => ⟨.bl _, H, I', rfl, q⟩
  · exact oth_of I g fun H2 I2 g2 back => d_notIn hu I2 g2 rx fun s' I' => ⟨.bl _, H, back s' I', rfl, q⟩
theorem o_cmp (hu : X.A.units + 64 < cLine) : ∀ op : COp, OpR X (compareOp (copOf op)) (rC X.K op)
  | .eq => o_eq hu
  | .ne => o_ne hu
  | .lt => o_lt hu
  | .le => o_le hu
  | .gt => o_gt hu
  | .ge => o_ge hu
  | .inn => (o_in hu).or (o_din (by omega))
  | .nin => (o_nin hu).or (o_dnin (by omega))
section
variable {w : Wd} {H : Hp} {s : S} {σ : L2.St}
/-- what a dict holds at a key -/
theorem dget_of {ds : List (D × D)} {k : D} {x y : V} (hx : PVR w H (.dct ds) x) (hy : PVR w H k y) (hf : fitsKey k ds = true) : ∃ a o, x = .ref a ∧ (DGet H a y o ∨ (o = none ∧ Oth H a y)) ∧ (match lookD k ds, o with
    | some d, some v => VR w H d v
    | none, none => True
    | _, _ => False) := by
  obtain ⟨a, rfl, h⟩ := hx.dct_
  unfold fitsKey at hf
  split at hf
  · rename_i hk
    obtain ⟨kk, e1⟩ := isAtom_kOf hk
    have ey := kOf_v e1 hy
    subst ey
    rcases h with ⟨kvs, e, r⟩ | ⟨kvs, e, r⟩
    · refine ⟨a, _, rfl, .inl (DGet.k e), ?_⟩
      rw [← kD_kOf e1]
      exact look_val kD keyEq_kD kk r
    · cases kvs with
      | nil =>
        cases r
        exact ⟨a, none, rfl, .inr ⟨rfl, .inr ⟨e, _, rfl⟩⟩, trivial⟩
      | cons q qs =>
        cases ds with
        | nil => cases r
        | cons p ps =>
          cases r with
          | cons r t =>
            simp only [List.all_cons, Bool.and_eq_true] at hf
            rw [isAtom_tD] at hf
            exact absurd hf.1 (by decide)
  · rename_i hk
    simp only [Bool.and_eq_true] at hf
    obtain ⟨hf1, hf2⟩ := hf
    cases k with
    | tup ks =>
      obtain ⟨kk, e1⟩ := tOf_some (ds := ks) hf1
      obtain ⟨b, vs, rfl, z, e2, r2⟩ := hy.tup_
      have ev := tOf_vs e1 r2
      subst ev
      rcases h with ⟨kvs, e, r⟩ | ⟨kvs, e, r⟩
      · cases kvs with
        | nil =>
          cases r
          exact ⟨a, none, rfl, .inr ⟨rfl, .inl ⟨e, _, _, rfl, e2⟩⟩, trivial⟩
        | cons q qs =>
          cases ds with
          | nil => cases r
          | cons p ps =>
            cases r with
            | cons r t =>
              simp only [List.all_cons, Bool.and_eq_true] at hf2
              rw [isKeyT_kD] at hf2
              exact absurd hf2.1 (by decide)
      · refine ⟨a, _, rfl, .inl (DGet.t e e2), ?_⟩
        have ek : D.tup ks = tD kk := by rw [tD, tOf_map e1]
        rw [ek]
        exact look_val tD keyEq_tD kk r
    | _ => simp [isKeyT] at hf1
theorem cmp_ok {Kf : PySem.W.Frag} {Q : VK} {op : COp} {x y : V} {a b : D} {r : Bool} (I : Sim K w s σ H) (hx : PVR w H a x) (hy : PVR w H b y) (e : cmpD op a b = .ok r)
    (q : Q (.bl r) H) : rC Kf op x y H Q := by
  have mem : ∀ {neg : Bool} {es : List D}, (b = .lst es ∨ b = .tup es) → (es.all fun y => okEq y a) = true → Q (.bl (if neg then !memD a es else memD a es)) H → rMem neg x y H Q := fun {neg es} hb ok q => by
    rcases hb with rfl | rfl
    · obtain ⟨p, vs, rfl, e1, r1⟩ := hy.lst_
      exact ⟨w, a, es, p, vs, hx, rfl, .inl e1, r1, ok, q⟩
    · obtain ⟨p, vs, rfl, z, e1, r1⟩ := hy.tup_
      exact ⟨w, a, es, p, vs, hx, rfl, .inr e1, r1, ok, q⟩
  have din : ∀ {neg : Bool} {ds : List (D × D)}, b = .dct ds → fitsKey a ds = true → Q (.bl (if neg then !(lookD a ds).isSome else (lookD a ds).isSome)) H → rDin neg x y H Q := fun {neg ds} hb hf q => by
    subst hb
    obtain ⟨p, o, rfl, g, m⟩ := dget_of hy hx hf
    refine ⟨p, o, rfl, g, ?_⟩
    have es : o.isSome = (lookD a ds).isSome := by
      cases o <;> cases h : lookD a ds <;> rw [h] at m <;> first | rfl | exact m.elim
    rw [es]
    exact q
  cases op with
  | eq => simp only [cmpD] at e; split at e <;> cases e; rename_i h; exact ⟨w, a, b, hx, hy, h, q⟩
  | ne => simp only [cmpD] at e; split at e <;> cases e; rename_i h; exact ⟨w, a, b, hx, hy, h, q⟩
  | lt => simp only [cmpD] at e; split at e <;> cases e; rename_i h; exact ⟨w, a, b, hx, hy, h, q⟩
  | le => simp only [cmpD] at e; split at e <;> cases e; rename_i h; exact ⟨w, a, b, hx, hy, h, q⟩
  | gt => simp only [cmpD] at e; split at e <;> cases e; rename_i h; exact ⟨w, a, b, hx, hy, h, q⟩
  | ge => simp only [cmpD] at e; split at e <;> cases e; rename_i h; exact ⟨w, a, b, hx, hy, h, q⟩
  | inn =>
    cases b with
    | lst es => simp only [cmpD] at e; split at e <;> cases e; rename_i h; exact .inl (mem (neg := false) (.inl rfl) h q)
    | tup es => simp only [cmpD] at e; split at e <;> cases e; rename_i h; exact .inl (mem (neg := false) (.inr rfl) h q)
    | dct ds => simp only [cmpD] at e; split at e <;> cases e; rename_i h; exact .inr (din (neg := false) rfl h q)
    | _ => simp [cmpD] at e
  | nin =>
    cases b with
    | lst es => simp only [cmpD] at e; split at e <;> cases e; rename_i h; exact .inl (mem (neg := true) (.inl rfl) h q)
    | tup es => simp only [cmpD] at e; split at e <;> cases e; rename_i h; exact .inl (mem (neg := true) (.inr rfl) h q)
    | dct ds => simp only [cmpD] at e; split at e <;> cases e; rename_i h; exact .inr (din (neg := true) rfl h q)
    | _ => simp [cmpD] at e
end
theorem cmp_ev {op : COp} {x y : Ex} {s s' : S} {r : RV} (h : evE c (.cmp op x y) s = .ok (r, s')) : ∃ ra s1 rb a b k, evE c x s = .ok (ra, s1) ∧ evE c y s1 = .ok (rb, s') ∧ peek ra s' = .ok a ∧ peek rb s' = .ok b ∧ cmpD op a b = .ok k ∧ r = .val (.bl k) := by
  rw [evE] at h
  split at h
  · rename_i ra s1 h1
    split at h
    · rename_i rb s2 h2
      split at h
      · rename_i a b ha hb
        split at h
        · rename_i r' hr
          cases h
          exact ⟨_, _, _, _, _, _, h1, h2, ha, hb, hr, rfl⟩
        · cases h
      · cases h
    · cases h
  · cases h
def noSet : Expr → Bool
  | .Set _ _ _ => false
  | _ => true
theorem noSet_ok {op : CmpOp} {b : Expr} (h : noSet b = true) : behindInMarks op b = false := by
  cases b <;> first | rfl | simp [noSet] at h
theorem s_cmp {op : COp} {ea eb : Expr} {x y : Ex} (hu : X.A.units + 64 < cLine) (ha : PE X ea (tE K (evE c x))) (hb : PE X eb (tE K (evE c y))) (hs : noSet eb = true) : PE X (.Compare ea [copOf op] [eb] pos) (tE K (evE c (.cmp op x y))) :=
  (pe_cmpR (pos := pos) (o_cmp hu op) ha hb (noSet_ok hs)).imp fun σ H Q ⟨w, s, I, r, s', hm, k⟩ => by
    obtain ⟨ra, s1, rb, a, b, b', h1, h2, p1, p2, hr, e⟩ := cmp_ev hm
    subst e
    exact two I h1 h2 fun w' H' u v E' I' r1 r2 _ => cmp_ok I' (I'.peek r1 p1) (I'.peek r2 p2) hr (k w' H' _ E' I' (.bl b'))
theorem pt_cmp {op : COp} {ea eb : Expr} {x y : Ex} (hu : X.A.units + 64 < cLine) (ha : PE X ea (tE K (evE c x))) (hb : PE X eb (tE K (evE c y))) (hs : noSet eb = true) : PT X (.Compare ea [copOf op] [eb] pos) (tT K fun s => testR (evE c (.cmp op x y) s)) :=
  (pt_cmpR (pos := pos) (o_cmp hu op) ha hb (noSet_ok hs)).imp fun σ H Q ⟨w, s, I, k', s', hm, k⟩ => by
    obtain ⟨r, d, hm, hp, ht⟩ := testR_ok hm
    obtain ⟨ra, s1, rb, a, b, b', h1, h2, p1, p2, hr, e⟩ := cmp_ev hm
    subst e
    cases hp
    cases ht
    exact two I h1 h2 fun w' H' u v E' I' r1 r2 _ => cmp_ok I' (I'.peek r1 p1) (I'.peek r2 p2) hr ⟨_, rfl, k w' H' E' I'⟩
end
end Sk

end

section
set_option Elab.async false
set_option linter.all false
set_option maxRecDepth 100000
set_option maxHeartbeats 4000000
/-! SkH: tests, subscripts, slices. -/
namespace Sk
open PySem PySem.Spec PyProof.Rows L2
section
variable {X : Cx} {K : Cs} {c : Ctx} {pos : Pos}

/-! ### is None, isinstance -/
theorem s_isnone {ea : Expr} {x : Ex} {k : Nat} {p : Pos} (ha : PE X ea (tE K (evE c x))) : PE X (.Compare ea [.Is] [.Constant .none k p] pos) (tE K (evE c (.isnone x))) :=
  (pe_cmpR (pos := pos) op_isN ha (pe_non (j := k) (pos := p)) rfl).imp fun σ H Q ⟨w, s, I, r, s', hm, k⟩ => by
    rw [evE] at hm
    split at hm
    · rename_i ra s1 h1
      split at hm
      · rename_i d hp
        cases hm
        refine ⟨w, s, I, ra, s', h1, fun w1 H1 v E1 I1 r1 => ⟨rfl, ?_⟩⟩
        have q := I1.peek r1 hp
        have e : decide (v = V.non) = decide (d = .non) := by
          cases d with
          | non => rw [q.non_]; simp
          | bl b => rw [q.bl_]; simp
          | int i => rw [q.int_]; simp
          | str x => rw [q.str_]; simp
          | tup x => obtain ⟨a, vs, rfl, _⟩ := q.tup_; simp
          | lst x => obtain ⟨a, vs, rfl, _⟩ := q.lst_; simp
          | dct x => obtain ⟨a, rfl, _⟩ := q.dct_; simp
          | ref n => rw [q.ref_.2]; simp
        rw [e]
        exact k w1 H1 _ E1 I1 (.bl _)
      · cases hm
    · cases hm
def tyName : Ty → String
  | .int => "int"
  | .bool => "bool"
  | .str => "str"
  | .tuple => "tuple"
theorem isTy_ok {Kf : PySem.W.Frag} {w : Wd} {H : Hp} {t : Ty} {d : D} {v : V} {b : Bool} (q : PVR w H d v) (e : isTy t d = .ok b) : ∃ n, TyX Kf H v (.type n) ∧ kitB n (tyName t) = some b := by
  cases d with
  | non => cases q.non_; exact ⟨_, .base .non, by cases t <;> cases e <;> decide +kernel⟩
  | bl b => cases q.bl_; exact ⟨_, .base (.bl b), by cases t <;> cases e <;> decide +kernel⟩
  | int i => cases q.int_; exact ⟨_, .base (.int i), by cases t <;> cases e <;> decide +kernel⟩
  | str x => cases q.str_; exact ⟨_, .base (.str _), by cases t <;> cases e <;> decide +kernel⟩
  | tup x => obtain ⟨a, vs, rfl, _, e1, _⟩ := q.tup_; exact ⟨_, .base (.tup e1), by cases t <;> cases e <;> decide +kernel⟩
  | lst x => obtain ⟨a, vs, rfl, e1, _⟩ := q.lst_; exact ⟨_, .base (.lst e1), by cases t <;> cases e <;> decide +kernel⟩
  | dct x =>
    obtain ⟨a, rfl, h⟩ := q.dct_
    rcases h with ⟨kvs, e1, _⟩ | ⟨kvs, e1, _⟩
    · exact ⟨_, .base (.dK e1), by cases t <;> cases e <;> decide +kernel⟩
    · exact ⟨_, .base (.dT e1), by cases t <;> cases e <;> decide +kernel⟩
  | ref n => cases t <;> cases e
theorem s_isinst {ea : Expr} {x : Ex} {t : Ty} {f g : Str} {p1 p2 : Pos} (hn : notStar ea = true) (hf : f = "isinstance") (hgf : Gl X f) (hmf : X.mg f = none)
    (hgg : Gl X g) (hmg : X.mg g = none) (hg : bootBuiltins g = some (.type (tyName t))) (hg0 : g ≠ "__name__") (hg1 : (g == ("__debug__" : Str)) = false)
    (ha : PE X ea (tE K (evE c x))) : PE X (.Call (.Name f p1) [ea, .Name g p2] [] pos) (tE K (evE c (.isinst x t))) := by
  subst hf
  have hG : PE X (.Name g p2) (tC (.ty (tyName t))) := pe_bltn (pos := p2) hgg hmg hg rfl hg0 hg1
  have hA : PA X [ea, .Name g p2] (tCons (tE K (evE c x)) (tCons (tC (.ty (tyName t))) tNil)) := pa_cons ha (pa_cons hG pa_nil (star_ok rfl)) (star_ok hn)
  have hpl : (backTo pos (starEach [.Name g p2] X.env)).any (·.1) = false := rfl
  refine (pe_callB (p := p1) (pos := pos) call_isi hgf hmf rfl hA (he := star_ok hn) (hpl := hpl)).imp fun σ H Q ⟨w, s, I, r, s', hm, k⟩ => ?_
  rw [evE] at hm
  split at hm
  · rename_i ra s1 h1
    split at hm
    · rename_i d hp
      split at hm
      · rename_i b hb
        cases hm
        refine ⟨w, s, I, ra, s', h1, fun w1 H1 v E1 I1 r1 => ?_⟩
        obtain ⟨n, ty, hk⟩ := isTy_ok (Kf := X.K) (I1.peek r1 hp) hb
        exact ⟨v, .ty (tyName t), _, _, b, rfl, .ty _, ty, kit_ty hk, k w1 H1 _ E1 I1 (.bl b)⟩
      · cases hm
    · cases hm
  · cases hm

/-! ### not, and, or, if -/
theorem s_not {ea : Expr} {x : Ex} (ha : PE X ea (tE K (evE c x))) : PE X (.UnaryOp .Not ea pos) (tE K (evE c (.not x))) :=
  (pe_notT (pos := pos) ha).imp fun σ H Q ⟨w, s, I, r, s', hm, k⟩ => by
    rw [evE] at hm
    split at hm
    · rename_i b s1 h1
      cases hm
      obtain ⟨ra, d, hr, hp, ht⟩ := testR_ok h1
      exact ⟨w, s, I, ra, s', hr, fun w1 H1 v E1 I1 r1 => ⟨b, truth_v (I1.peek r1 hp) ht, k w1 H1 _ E1 I1 (.bl _)⟩⟩
    · cases hm
theorem t_not {ea : Expr} {x : Ex} (ha : PT X ea (tT K fun s => testR (evE c x s))) : PT X (.UnaryOp .Not ea pos) (tT K fun s => testR (evE c (.not x) s)) :=
  (pt_not (pos := pos) ha).imp fun σ H Q ⟨w, s, I, b, s', hm, k⟩ => by
    obtain ⟨ra, d, hr, hp, ht⟩ := testR_ok hm
    rw [evE] at hr
    split at hr
    · rename_i b' s1 h1
      cases hr
      cases hp
      cases ht
      exact ⟨w, s, I, b', s', h1, fun w1 H1 E1 I1 => k w1 H1 E1 I1⟩
    · cases hr
theorem and_ev {x y : Ex} {s s' : S} {r : RV} (h : evE c (.and x y) s = .ok (r, s')) : ∃ ra s1 d b, evE c x s = .ok (ra, s1) ∧ peek ra s1 = .ok d ∧ truth d = .ok b ∧ if b = true then evE c y s1 = .ok (r, s') else ra = r ∧ s1 = s' := by
  rw [evE] at h
  split at h
  · rename_i ra s1 h1
    split at h
    · rename_i d hp
      split at h
      · rename_i ht
        exact ⟨_, _, _, _, h1, hp, ht, by rw [if_pos rfl]; exact h⟩
      · rename_i ht
        cases h
        exact ⟨_, _, _, _, h1, hp, ht, by rw [if_neg (by decide)]; exact ⟨rfl, rfl⟩⟩
      · cases h
    · cases h
  · cases h
theorem or_ev {x y : Ex} {s s' : S} {r : RV} (h : evE c (.or x y) s = .ok (r, s')) : ∃ ra s1 d b, evE c x s = .ok (ra, s1) ∧ peek ra s1 = .ok d ∧ truth d = .ok b ∧ if b = true then ra = r ∧ s1 = s' else evE c y s1 = .ok (r, s') := by
  rw [evE] at h
  split at h
  · rename_i ra s1 h1
    split at h
    · rename_i d hp
      split at h
      · rename_i ht
        cases h
        exact ⟨_, _, _, _, h1, hp, ht, by rw [if_pos rfl]; exact ⟨rfl, rfl⟩⟩
      · rename_i ht
        exact ⟨_, _, _, _, h1, hp, ht, by rw [if_neg (by decide)]; exact h⟩
      · cases h
    · cases h
  · cases h
theorem s_and {ea eb : Expr} {rest : List Expr} {x y : Ex} (ha : PE X ea (tE K (evE c x))) (hb : PE X (.BoolOp .And (eb :: rest) pos) (tE K (evE c y))) : PE X (.BoolOp .And (ea :: eb :: rest) pos) (tE K (evE c (.and x y))) :=
  (pe_andT ha hb).imp fun σ H Q ⟨w, s, I, r, s', hm, k⟩ => by
    obtain ⟨ra, s1, d, b, h1, hp, ht, h2⟩ := and_ev hm
    refine ⟨w, s, I, ra, s1, h1, fun w1 H1 v E1 I1 r1 => ⟨b, truth_v (I1.peek r1 hp) ht, ?_⟩⟩
    cases b with
    | true =>
      rw [if_pos rfl] at h2 ⊢
      exact ⟨w1, s1, I1, r, s', h2, fun w2 H2 u E2 I2 r2 => k w2 H2 u (E1.trans E2) I2 r2⟩
    | false =>
      rw [if_neg (by decide)] at h2 ⊢
      obtain ⟨rfl, rfl⟩ := h2
      exact k w1 H1 v E1 I1 r1
theorem s_or {ea eb : Expr} {rest : List Expr} {x y : Ex} (ha : PE X ea (tE K (evE c x))) (hb : PE X (.BoolOp .Or (eb :: rest) pos) (tE K (evE c y))) : PE X (.BoolOp .Or (ea :: eb :: rest) pos) (tE K (evE c (.or x y))) :=
  (pe_orT ha hb).imp fun σ H Q ⟨w, s, I, r, s', hm, k⟩ => by
    obtain ⟨ra, s1, d, b, h1, hp, ht, h2⟩ := or_ev hm
    refine ⟨w, s, I, ra, s1, h1, fun w1 H1 v E1 I1 r1 => ⟨b, truth_v (I1.peek r1 hp) ht, ?_⟩⟩
    cases b with
    | false =>
      rw [if_neg (by decide)] at h2 ⊢
      exact ⟨w1, s1, I1, r, s', h2, fun w2 H2 u E2 I2 r2 => k w2 H2 u (E1.trans E2) I2 r2⟩
    | true =>
      rw [if_pos rfl] at h2 ⊢
      obtain ⟨rfl, rfl⟩ := h2
      exact k w1 H1 v E1 I1 r1
theorem t_and {ea eb : Expr} {rest : List Expr} {x y : Ex} (ha : PT X ea (tT K fun s => testR (evE c x s))) (hb : PW X (.BoolOp .And (eb :: rest) pos) (tT K fun s => testR (evE c y s))) : PW X (.BoolOp .And (ea :: eb :: rest) pos) (tT K fun s => testR (evE c (.and x y) s)) := by
  have h := pw_and ha hb
  refine ⟨fun wh pins s σ H Q I q => h.run wh pins s σ H Q I ?_⟩
  obtain ⟨w, s, I, b, s', hm, k⟩ := q
  obtain ⟨r, d, hr, hp, ht⟩ := testR_ok hm
  obtain ⟨ra, s1, d1, b1, h1, hp1, ht1, h2⟩ := and_ev hr
  refine ⟨w, s, I, b1, s1, testR_of h1 hp1 ht1, fun w1 H1 E1 I1 => ?_⟩
  cases b1 with
  | true =>
    rw [if_pos rfl] at h2 ⊢
    exact ⟨w1, s1, I1, b, s', testR_of h2 hp ht, fun w2 H2 E2 I2 => k w2 H2 (E1.trans E2) I2⟩
  | false =>
    rw [if_neg (by decide)] at h2 ⊢
    obtain ⟨rfl, rfl⟩ := h2
    rw [hp1] at hp
    cases hp
    rw [ht1] at ht
    cases ht
    exact k w1 H1 E1 I1
theorem t_or {ea eb : Expr} {rest : List Expr} {x y : Ex} (ha : PT X ea (tT K fun s => testR (evE c x s))) (hb : PW X (.BoolOp .Or (eb :: rest) pos) (tT K fun s => testR (evE c y s))) : PW X (.BoolOp .Or (ea :: eb :: rest) pos) (tT K fun s => testR (evE c (.or x y) s)) := by
  have h := pw_or ha hb
  refine ⟨fun wh pins s σ H Q I q => h.run wh pins s σ H Q I ?_⟩
  obtain ⟨w, s, I, b, s', hm, k⟩ := q
  obtain ⟨r, d, hr, hp, ht⟩ := testR_ok hm
  obtain ⟨ra, s1, d1, b1, h1, hp1, ht1, h2⟩ := or_ev hr
  refine ⟨w, s, I, b1, s1, testR_of h1 hp1 ht1, fun w1 H1 E1 I1 => ?_⟩
  cases b1 with
  | false =>
    rw [if_neg (by decide)] at h2 ⊢
    exact ⟨w1, s1, I1, b, s', testR_of h2 hp ht, fun w2 H2 E2 I2 => k w2 H2 (E1.trans E2) I2⟩
  | true =>
    rw [if_pos rfl] at h2 ⊢
    obtain ⟨rfl, rfl⟩ := h2
    rw [hp1] at hp
    cases hp
    rw [ht1] at ht
    cases ht
    exact k w1 H1 E1 I1
theorem s_ife {ec ea eb : Expr} {t x y : Ex} (hc : PT X ec (tT K fun s => testR (evE c t s))) (ha : PE X ea (tE K (evE c x))) (hb : PE X eb (tE K (evE c y))) : PE X (.IfExp ec ea eb pos) (tE K (evE c (.ife t x y))) :=
  (pe_ifExp (pos := pos) hc ha hb).imp fun σ H Q ⟨w, s, I, r, s', hm, k⟩ => by
    rw [evE] at hm
    split at hm
    · rename_i s1 h1
      exact ⟨w, s, I, true, s1, h1, fun w1 H1 E1 I1 => by
        show (if true = true then _ else _)
        rw [if_pos rfl]
        exact ⟨w1, s1, I1, r, s', hm, fun w2 H2 u E2 I2 r2 => k w2 H2 u (E1.trans E2) I2 r2⟩⟩
    · rename_i s1 h1
      exact ⟨w, s, I, false, s1, h1, fun w1 H1 E1 I1 => by
        show (if false = true then _ else _)
        rw [if_neg (by decide)]
        exact ⟨w1, s1, I1, r, s', hm, fun w2 H2 u E2 I2 r2 => k w2 H2 u (E1.trans E2) I2 r2⟩⟩
    · cases hm

/-! ### a[b] -/
def noSlc : Expr → Bool
  | .Slice _ _ _ _ => false
  | _ => true
theorem noSlc_ok {b : Expr} (h : noSlc b = true) : PlainIx b := fun o i => by
  cases b <;> first | rfl | simp [noSlc] at h
def rIxD : R2 := fun x y H Q => ∃ a v, x = .ref a ∧ DGet H a y (some v) ∧ Q v H
theorem ix_dict (hu : X.A.units + 64 < cLine) : IxR X rIxD := by
  intro value slice pins s σ H x y v u Q I rx ry h hs
  obtain ⟨a, z, rfl, g, q⟩ := h
  cases rx
  exact tail_any (dict_typeIs I g) PySem.F.slot_dict_getitem.lookup (d_getItem (by omega) I g ry fun w' s' I' r' => ⟨z, H, I', r', q⟩) hs
def rIdx (Kf : PySem.W.Frag) : R2 := fun x y H Q => rIx Kf x y H Q ∨ rIxD x y H Q
theorem o_idx (hu : X.A.units + 64 < cLine) : IxR X (rIdx X.K) := ix_seq.or (ix_dict hu)
theorem atI_map {α β : Type} {f : α → β} {xs : List α} {i : Int} {d : α} (h : atI xs i = some d) : atI (xs.map f) i = some (f d) := by
  unfold atI at h ⊢
  rw [List.length_map]
  cases q : ixN xs.length i with
  | none => rw [q] at h; cases h
  | some j =>
    rw [q] at h
    show (xs.map f)[j]? = _
    rw [List.getElem?_map]
    have h : xs[j]? = some d := h
    rw [h]
    rfl
section
variable {w : Wd} {H : Hp} {s : S} {σ : L2.St}
theorem VRs.atI {ds : List D} {vs : List V} {i : Int} {d : D} (r : VRs w H ds vs) (h : L2.atI ds i = some d) : ∃ v, L2.atI vs i = some v ∧ VR w H d v := by
  unfold L2.atI at h ⊢
  rw [← r.length]
  cases q : ixN ds.length i with
  | none => rw [q] at h; cases h
  | some j =>
    rw [q] at h
    exact r.get h
theorem ofo {α : Type} {x : Option α} {n : Nat} {d : α} {f : α → Except Er D} (h : (match x with | some d => .ok d | none => bad n : Except Er α) = .ok d) : x = some d := by
  cases x <;> cases h; rfl
theorem idx_ok {Kf : PySem.W.Frag} {Q : VK} {x y : V} {a b d : D} (I : Sim K w s σ H) (hx : PVR w H a x) (hy : PVR w H b y) (e : idxD s.mh a b = .ok d)
    (q : ∀ v, VR w H d v → Q v H) : rIdx Kf x y H Q := by
  have dct : ∀ {kvs : List (D × D)}, a = .dct kvs → fitsKey b kvs = true → lookD b kvs = some d → rIdx Kf x y H Q := fun {kvs} ha hf hl => by
    subst ha
    obtain ⟨p, o, rfl, g, m⟩ := dget_of hx hy hf
    rw [hl] at m
    cases o with
    | none => exact m.elim
    | some v =>
      refine .inr ⟨p, v, rfl, g.resolve_right (fun h => by cases h.1), q v m⟩
  unfold idxD at e
  split at e
  · rename_i xs i
    split at e <;> cases e
    rename_i h
    obtain ⟨p, vs, rfl, e1, r1⟩ := hx.lst_
    cases hy.int_
    obtain ⟨v, hv, rv⟩ := r1.atI h
    exact .inl (.inl ⟨p, vs, i, v, rfl, rfl, .of e1, hv, q v rv⟩)
  · rename_i xs i
    split at e <;> cases e
    rename_i h
    obtain ⟨p, vs, rfl, _, e1, r1⟩ := hx.tup_
    cases hy.int_
    obtain ⟨v, hv, rv⟩ := r1.atI h
    exact .inl (.inr (.inl ⟨p, vs, i, v, rfl, rfl, .of e1, hv, q v rv⟩))
  · rename_i xs i
    split at e
    · rename_i hz
      split at e <;> cases e
      rename_i ch h
      cases hx.str_
      cases hy.int_
      refine .inl (.inr (.inr ⟨_, i, ch, rfl, rfl, ?_, ?_, q _ (.str [ch])⟩))
      · rw [Str.length_mk, ← sz_eq]; exact hz
      · show L2.atI xs.toArray.toList i = some ch
        rw [List.toList_toArray]
        exact h
    · cases e
  · rename_i kvs k
    split at e
    · rename_i hf
      split at e <;> cases e
      rename_i h
      exact dct rfl hf h
    · cases e
  · rename_i n k
    obtain ⟨hn, rfl⟩ := hx.ref_
    split at e
    · rename_i kvs hmo
      split at e
      · rename_i hk
        split at e <;> cases e
        rename_i h
        obtain ⟨kvs', e1, r1⟩ := I.mo _ _ hmo
        obtain ⟨kk, ek⟩ := isAtom_kOf hk
        have ey := kOf_v ek hy
        subst ey
        have m := look_val kD keyEq_kD kk r1
        rw [kD_kOf ek, h] at m
        cases hv : valV kvs' kk with
        | none => rw [hv] at m; exact m.elim
        | some v =>
          rw [hv] at m
          have g := DGet.k (k := kk) e1
          rw [hv] at g
          exact .inr ⟨_, v, rfl, g, q v m⟩
      · cases e
    · rename_i xs hmo
      split at e
      · rename_i i
        split at e <;> cases e
        rename_i h
        obtain ⟨vs, e1, r1⟩ := I.mo _ _ hmo
        cases hy.int_
        obtain ⟨v, hv, rv⟩ := r1.atI h
        exact .inl (.inl ⟨_, vs, i, v, rfl, rfl, .inl e1, hv, q v rv⟩)
      · cases e
    · cases e
  · cases e
end
theorem s_idx {ea eb : Expr} {x y : Ex} (hu : X.A.units + 64 < cLine) (ha : PE X ea (tE K (evE c x))) (hb : PE X eb (tE K (evE c y))) (hs : noSlc eb = true) : PE X (.Subscript ea eb pos) (tE K (evE c (.idx x y))) :=
  (pe_ix (pos := pos) (o_idx hu) ha hb (noSlc_ok hs)).imp fun σ H Q ⟨w, s, I, r, s', hm, k⟩ => by
    rw [evE] at hm
    split at hm
    · rename_i ra s1 h1
      split at hm
      · rename_i rb s2 h2
        split at hm
        · rename_i a b p1 p2
          split at hm
          · rename_i d hd
            cases hm
            exact two I h1 h2 fun w' H' u v E' I' r1 r2 _ => idx_ok I' (I'.peek r1 p1) (I'.peek r2 p2) hd fun z rz => k w' H' z E' I' rz
          · cases hm
        · cases hm
      · cases hm
    · cases hm

/-! ### a[lo:hi] -/
def rSlc (Kf : PySem.W.Frag) : V → Option Int → Option Int → Hp → VK → Prop := fun x lo hi H Q => rSlL Kf x lo hi H Q ∨ (rSlA Kf x lo hi H Q ∨ rSlS x lo hi H Q)
theorem sl_all : L2.SlR X (rSlc X.K) := sl_list.or (sl_tupA.or sl_str)
theorem cutD_whole {xs : List D} {lo hi : Option Int} (h : HT.sIx xs.length 0 lo = 0 ∧ HT.sIx xs.length xs.length hi = xs.length) : cutD xs lo hi = xs := by
  unfold cutD
  rw [h.1, h.2]
  simp
section
variable {w : Wd} {H : Hp} {s : S} {σ : L2.St}
theorem slc_ok {Kf : PySem.W.Frag} {Q : VK} {x : V} {a : D} {lo hi : Option Int} {r : RV} (I : Sim K w s σ H) (hx : PVR w H a x) (e : slcD lo hi a = .ok r) (k : Cont K w s σ H r Q) : rSlc Kf x lo hi H Q := by
  unfold slcD at e
  split at e
  · cases e
    obtain ⟨p, vs, rfl, e1, r1⟩ := hx.lst_
    exact .inl ⟨p, vs, rfl, .of e1, fun t ht => k.lst I ht (r1.cut lo hi)⟩
  · cases e
    obtain ⟨p, vs, rfl, z, e1, r1⟩ := hx.tup_
    refine .inr (.inl ⟨p, vs, rfl, .of e1, fun h => ?_, fun _ t ht => k.tup I ht (r1.cut lo hi)⟩)
    rw [← r1.length] at h
    rw [cutD_whole h] at k
    exact k.val I (.tup z e1 r1)
  · split at e <;> cases e
    rename_i hz
    cases hx.str_
    refine .inr (.inr ⟨_, rfl, by rw [Str.length_mk, ← sz_eq]; exact hz, k.str I ?_⟩)
    show (List.toArray _).toList = _
    rw [Str.length_mk]
    simp [cutD]
  · cases e
end
/-- a slice's part -/
def oE (m : S → Rs RV) : TO := fun σ H Q => ∃ w s, Sim K w s σ H ∧ ∃ l s' o, m s = .ok (.val l, s') ∧ part l = .ok o ∧ ∀ w' H', Ext w H w' H' → Sim K w' s' σ H' → Q o H'
theorem _root_.L2.PO.imp {e : Option Expr} {t t' : TO} (h : PO X e t) (i : ∀ σ H Q, t' σ H Q → t σ H Q) : PO X e t' := ⟨fun pins s σ H Q I q => h.run pins s σ H Q I (i σ H Q q)⟩
theorem o_none : PO X none (oE (K := K) (evE c (.lit .non))) := po_none.imp fun σ H Q ⟨w, s, I, l, s', o, hm, hp, k⟩ => by
  rw [evE] at hm
  cases hm
  cases hp
  exact k w H (.refl w H) I
def somePart (x : Ex) : Bool := match x with
  | .lit .non => false
  | _ => true
theorem po_any {e : Expr} {te : TE} (h : PE X e te) : PO X (some e) (fun σ H Q => te σ H fun x H1 => (∃ i, x = .int i ∧ Q (some i) H1) ∨ (x = .non ∧ Q none H1)) := by
  refine ⟨fun pins s σ H Q I hw => ?_⟩
  rw [evalPart_some]
  refine thn (h.run pins s σ H _ I hw) fun u s1 ⟨x, H1, I1, r1, q1⟩ => ?_
  rcases q1 with ⟨i, rfl, q⟩ | ⟨rfl, q⟩
  · obtain ⟨t, rfl⟩ := r1
    exact ⟨some i, H1, I1, .int i t, q⟩
  · cases r1
    exact ⟨none, H1, I1, .none, q⟩
theorem o_some {e : Expr} {x : Ex} (h : PE X e (tE K (evE c x))) : PO X (some e) (oE (K := K) (evE c x)) := (po_any h).imp fun σ H Q ⟨w, s, I, l, s', o, hm, hp, k⟩ =>
  ⟨w, s, I, _, s', hm, fun w1 H1 v E1 I1 r1 => by
    cases l with
    | int i => cases hp; cases r1; exact .inl ⟨i, rfl, k w1 H1 E1 I1⟩
    | non => cases hp; cases r1; exact .inr ⟨rfl, k w1 H1 E1 I1⟩
    | _ => cases hp⟩
/-- a part that is written, or left out -/
def PartOk (X : Cx) (K : Cs) (c : Ctx) (e : Option Expr) (x : Ex) : Prop := (e = none ∧ x = .lit .non) ∨ ∃ e', e = some e' ∧ PE X e' (tE K (evE c x))
theorem PartOk.po {e : Option Expr} {x : Ex} (h : PartOk X K c e x) : PO X e (oE (K := K) (evE c x)) := by
  rcases h with ⟨rfl, rfl⟩ | ⟨e', rfl, h⟩
  · exact o_none
  · exact o_some h
/-- a result stays while other things run -/
theorem keepR {w : Wd} {H : Hp} {s : S} {σ : L2.St} {ra : RV} {x : V} (I : Sim K w s σ H) (r : RVR w s σ H ra x) : ∃ w1, Sim K w1 s σ H ∧ ∀ w2 H2 s2, Ext w1 H w2 H2 → Sim K w2 s2 σ H2 →
    ∃ w3, Ext w H w3 H2 ∧ Sim K w3 s2 σ H2 ∧ RVR w3 s2 σ H2 ra x ∧ (∀ rb y, RVR w2 s2 σ H2 rb y → RVR w3 s2 σ H2 rb y) ∧ (∀ d v, VR w2 H2 d v → VR w3 H2 d v) := by
  cases ra with
  | val d => exact ⟨w, I, fun w2 H2 s2 E2 I2 => ⟨w2, E2, I2, VR.ext E2.toLe r, fun _ _ h => h, fun _ _ h => h⟩⟩
  | bor i => exact ⟨w, I, fun w2 H2 s2 E2 I2 => ⟨w2, E2, I2, r, fun _ _ h => h, fun _ _ h => h⟩⟩
  | own d =>
    obtain ⟨a, rfl, ca, n1, n2, n3⟩ := r
    have L : Lone K w s σ H a := ⟨ca.has, n1, n2, n3⟩
    refine ⟨w.hold (fun x => x = a), I.hold fun b hb => by subst hb; exact L, fun w2 H2 s2 E2 I2 => ?_⟩
    obtain ⟨q, L2⟩ := Lone.back (p := fun x => x = a) L rfl I2 E2
    refine ⟨w2.free w, E2.free, I2.free I.bp E2, ⟨a, rfl, ca.ext E2.free.toLe q, L2.2.1, L2.2.2.1, L2.2.2.2⟩, fun rb y h => ?_, fun d v h => VR.ext (Wd.free_le w2 w H2) h⟩
    cases rb with
    | val d' => exact VR.ext (Wd.free_le w2 w H2) h
    | bor i => exact h
    | own d' =>
      obtain ⟨b, rfl, c', m1, m2, m3⟩ := h
      exact ⟨b, rfl, c'.ext (Wd.free_le w2 w H2) rfl, m1, fun z => m2 (by rw [E2.p]; exact .inl z), fun x z => m3 x (OwnAt.same rfl rfl z)⟩
theorem s_slc {ea : Expr} {lo hi : Option Expr} {x l h : Ex} {p : Pos} (ha : PE X ea (tE K (evE c x))) (hl : PartOk X K c lo l) (hh : PartOk X K c hi h) : PE X (.Subscript ea (.Slice lo hi none p) pos) (tE K (evE c (.slc x l h))) :=
  (pe_slice (pos := pos) (p2 := p) sl_all ha hl.po hh.po).imp fun σ H Q ⟨w, s, I, r, s', hm, k⟩ => by
    rw [evE] at hm
    split at hm
    · rename_i ra s1 h1
      split at hm
      · rename_i lv s2 h2
        split at hm
        · rename_i hv s3 h3
          split at hm
          · rename_i a lo hi hp q1 q2
            split at hm
            · rename_i r' hr
              cases hm
              refine ⟨w, s, I, ra, s1, h1, fun w1 H1 v E1 I1 r1 => ?_⟩
              obtain ⟨w1', I1', back⟩ := keepR I1 r1
              refine ⟨w1', s1, I1', lv, s2, _, h2, q1, fun w2 H2 E2 I2 => ⟨w2, s2, I2, hv, _, _, h3, q2, fun w3 H3 E3 I3 => ?_⟩⟩
              obtain ⟨w4, E4, I4, r4, _⟩ := back w3 H3 _ (E2.trans E3) I3
              exact slc_ok I4 (I4.peek r4 hp) hr fun w5 H5 z E5 I5 r5 => k w5 H5 z ((E1.trans E4).trans E5) I5 r5
            · cases hm
          · cases hm
        · cases hm
        · cases hm
      · cases hm
      · cases hm
    · cases hm
theorem s_rev {ea : Expr} {x : Ex} {k : Nat} {p1 p2 p3 : Pos} (ha : PE X ea (tE K (evE c x))) : PE X (.Subscript ea (.Slice none none (some (.UnaryOp .USub (.Constant (.int 1) k p1) p2)) p3) pos) (tE K (evE c (.rev x))) :=
  (pe_revL (pos := pos) (k := k) (p1 := p1) (p2 := p2) (p3 := p3) ha).imp fun σ H Q ⟨w, s, I, r, s', hm, k⟩ => by
    rw [evE] at hm
    split at hm
    · rename_i ra s1 h1
      split at hm
      · rename_i d hp
        unfold revD at hm
        split at hm
        · rename_i r' hr
          split at hr <;> cases hr
          cases hm
          refine ⟨w, s, I, ra, s', h1, fun w1 H1 v E1 I1 r1 => ?_⟩
          obtain ⟨p, vs, rfl, e1, r2⟩ := (I1.peek r1 hp).lst_
          exact ⟨p, vs, rfl, .of e1, fun t ht => Cont.lst I1 (fun w2 H2 z E2 I2 r2 => k w2 H2 z (E1.trans E2) I2 r2) ht r2.reverse⟩
        · cases hm
      · cases hm
    · cases hm
end
end Sk

end

section
set_option Elab.async false
set_option linter.all false
set_option maxRecDepth 100000
set_option maxHeartbeats 4000000
/-! SkI: calls of defs. -/
namespace Sk
open PySem PySem.Spec PyProof.Rows L2

/-- a def's promise -/
def spF (K : Cs) (np : Nat) (cl : List Sl → MH → Except Er (RV × MH)) : Sp := fun vs H Q _ => vs.length = np ∧ ∃ w xs mh r mh', Sim K w ⟨xs, mh⟩ (vs.map some) H ∧ cl xs mh = .ok (r, mh') ∧
  ∀ w' H' v, Ext w H w' H' → Sim K w' ⟨[], mh'⟩ [] H' → RVR w' ⟨[], mh'⟩ [] H' r v → Q v H'

inductive RRs (w : Wd) (s : S) (σ : L2.St) (H : Hp) : List RV → List V → Prop
  | nil : RRs w s σ H [] []
  | cons {r : RV} {rs : List RV} {v : V} {vs : List V} : RVR w s σ H r v → RRs w s σ H rs vs → RRs w s σ H (r :: rs) (v :: vs)
theorem RRs.imp {w w' : Wd} {s s' : S} {σ : L2.St} {H H' : Hp} (f : ∀ r v, RVR w s σ H r v → RVR w' s' σ H' r v) : ∀ {rs : List RV} {vs : List V}, RRs w s σ H rs vs → RRs w' s' σ H' rs vs
  | _, _, .nil => .nil
  | _, _, .cons h t => .cons (f _ _ h) (RRs.imp f t)
theorem RRs.get {w : Wd} {s : S} {σ : L2.St} {H : Hp} : ∀ {rs : List RV} {vs : List V} {i : Nat} {r : RV} {v : V}, RRs w s σ H rs vs → rs[i]? = some r → vs[i]? = some v → RVR w s σ H r v
  | _, _, _, _, _, .nil, h, _ => by simp at h
  | _, _, 0, _, _, .cons h t, e1, e2 => by
    cases e1
    cases e2
    exact h
  | _, _, i + 1, _, _, .cons h t, e1, e2 => RRs.get (i := i) t (by simpa using e1) (by simpa using e2)
def tR (K : Cs) (m : S → Rs (List RV)) : TA := fun σ H Q => ∃ w s, Sim K w s σ H ∧ ∃ rs s', m s = .ok (rs, s') ∧ ∀ w' H' vs, Ext w H w' H' → Sim K w' s' σ H' → RRs w' s' σ H' rs vs → Q vs H'
section
variable {X : Cx} {K : Cs} {c : Ctx} {pos : Pos}
theorem r_nil : PA X [] (tR K (evR c [])) := pa_nil.imp fun σ H Q ⟨w, s, I, rs, s', hm, k⟩ => by
  rw [evR] at hm
  cases hm
  exact k w H [] (.refl w H) I .nil
theorem r_cons {e : Expr} {es : List Expr} {x : Ex} {xs : List Ex} (h1 : PE X e (tE K (evE c x))) (hn : notStar e = true) (h2 : PA X es (tR K (evR c xs))) : PA X (e :: es) (tR K (evR c (x :: xs))) :=
  (pa_cons h1 h2 (star_ok hn)).imp fun σ H Q ⟨w, s, I, rs, s', hm, k⟩ => by
    rw [evR] at hm
    split at hm
    · rename_i r s1 h1
      split at hm
      · rename_i rs' s3 h3
        cases hm
        refine ⟨w, s, I, r, s1, h1, fun w1 H1 v E1 I1 r1 => ?_⟩
        obtain ⟨w1', I1', back⟩ := keepR I1 r1
        refine ⟨w1', s1, I1', rs', s', h3, fun w2 H2 vs E2 I2 r2 => ?_⟩
        obtain ⟨w3, E3, I3, r3, q, _⟩ := back w2 H2 s' E2 I2
        exact k w3 H2 _ (E1.trans E3) I3 (.cons r3 (r2.imp q))
      · cases hm
    · cases hm
section
variable {w : Wd} {s : S} {σ : L2.St} {H : Hp}
/-- what is in hand -/
def Tmp (rs : List RV) (vs : List V) (a : Addr) : Prop := ∃ (i : Nat) (d : D), rs[i]? = some (.own d) ∧ vs[i]? = some (.ref a)
theorem lend (I : Sim K w s σ H) : ∀ {rs : List RV} {vs : List V} {n : Nat} {xs : List Sl} {s2 : S}, RRs w s σ H rs vs → toSls [] n rs s = .ok (xs, s2) →
    s2 = s ∧ xs.length = vs.length ∧ ∀ wc : Wd, Le w H wc H → (∀ a, w.B a → wc.B a) → (∀ i a, OwnAt s σ w (.inl i) a → wc.B a) → (∀ a, Tmp rs vs a → wc.B a) →
      ∀ (i : Nat) (x : Sl), xs[i]? = some x → (∀ d, x ≠ .own d) ∧ ∃ v, vs[i]? = some v ∧ SlR wc H x (some v)
  | _, _, _, _, _, .nil, h => by
    cases h
    exact ⟨rfl, rfl, fun _ _ _ _ _ i x h => by simp at h⟩
  | _, _, n, _, _, .cons (r := r) (rs := rs) (v := v) (vs := vs) h t, e => by
    unfold toSls at e
    split at e
    · rename_i x s' h1
      split at e
      · rename_i xs s2 h2
        cases e
        have hk : ([] : List Nat).contains n = false := rfl
        rw [hk] at h1
        have one : s' = s ∧ ∀ wc : Wd, Le w H wc H → (∀ a, w.B a → wc.B a) → (∀ i a, OwnAt s σ w (.inl i) a → wc.B a) → (∀ d a, r = .own d → v = .ref a → wc.B a) → (∀ d, x ≠ .own d) ∧ SlR wc H x (some v) := by
          cases r with
          | val d =>
            cases h1
            exact ⟨rfl, fun wc L _ _ _ => ⟨(fun d h => nomatch h), v, rfl, VR.ext L h⟩⟩
          | own d =>
            cases h1
            obtain ⟨a, rfl, ca, _⟩ := h
            exact ⟨rfl, fun wc L _ _ hT => ⟨(fun d h => nomatch h), a, rfl, hT d a rfl rfl, ca.ext L rfl⟩⟩
          | bor i =>
            have h : σ[i]? = some (some v) := h
            simp only [toSl] at h1
            cases q : slotAt s i with
            | un => rw [q] at h1; cases h1
            | val d =>
              rw [q] at h1
              cases h1
              obtain ⟨u, h3, y, h4, h5⟩ := I.slot i _ (slotAt_some q (by simp))
              rw [h] at h3
              cases h3
              cases h4
              exact ⟨rfl, fun wc L _ _ _ => ⟨(fun d h => nomatch h), _, rfl, VR.ext L h5⟩⟩
            | own d =>
              rw [q] at h1
              cases h1
              have hi := slotAt_some q (by simp)
              obtain ⟨u, h3, a, h4, h5⟩ := I.slot i _ hi
              rw [h] at h3
              cases h3
              cases h4
              exact ⟨rfl, fun wc L _ hO _ => ⟨(fun d h => nomatch h), a, rfl, hO i a ⟨d, hi, h⟩, h5.ext L rfl⟩⟩
            | bor d =>
              rw [q] at h1
              cases h1
              obtain ⟨u, h3, a, h4, hB, h5⟩ := I.slot i _ (slotAt_some q (by simp))
              rw [h] at h3
              cases h3
              cases h4
              exact ⟨rfl, fun wc L hb _ _ => ⟨(fun d h => nomatch h), a, rfl, hb a hB, h5.ext L rfl⟩⟩
        obtain ⟨es, one⟩ := one
        rw [es] at h2
        obtain ⟨es2, hl, go⟩ := lend I t h2
        refine ⟨es2, congrArg Nat.succ hl, fun wc L h1 h2 h3 i y hy => ?_⟩
        cases i with
        | zero =>
          cases hy
          obtain ⟨q1, q2⟩ := one wc L h1 h2 fun d a e1 e2 => h3 a ⟨0, d, by rw [e1]; rfl, by rw [e2]; rfl⟩
          exact ⟨q1, v, rfl, q2⟩
        | succ i =>
          obtain ⟨q1, u, q2, q3⟩ := go wc L h1 h2 (fun a ⟨j, d, e1, e2⟩ => h3 a ⟨j + 1, d, by simpa using e1, by simpa using e2⟩) i y (by simpa using hy)
          exact ⟨q1, u, by simpa using q2, q3⟩
      · cases e
    · cases e
def Wd.call (w : Wd) (p : Addr → Prop) : Wd := { w with P := fun a => w.P a ∨ p a, B := fun a => w.P a ∨ p a }
theorem call_ok {rs : List RV} {vs : List V} {n : Nat} {xs : List Sl} {s2 : S} {Q : VK} {r : RV} {mh' : MH} (cl : List Sl → MH → Except Er (RV × MH)) {E : XK} (I : Sim K w s σ H) (hr : RRs w s σ H rs vs) (hs : toSls [] n rs s = .ok (xs, s2))
    (hc : cl xs s2.mh = .ok (r, mh')) (k : ∀ w' H' v, Ext w H w' H' → Sim K w' { s2 with mh := mh' } σ H' → RVR w' { s2 with mh := mh' } σ H' r v → Q v H') : spF K xs.length cl vs H Q E := by
  obtain ⟨rfl, hl, go⟩ := lend I hr hs
  let p : Addr → Prop := fun a => (∃ i, OwnAt s2 σ w (.inl i) a) ∨ Tmp rs vs a
  have L : Le w H (w.call p) H := ⟨fun _ z => z, fun _ _ => rfl, fun _ _ => rfl, Nat.le_refl _⟩
  have lone : ∀ a, Tmp rs vs a → (∃ o, H a = some o) ∧ ¬ w.Z a ∧ ¬ w.P a ∧ ∀ x, ¬ OwnAt s2 σ w x a := fun a ⟨i, d, e1, e2⟩ => by
    obtain ⟨b, e, ca, n1, n2, n3⟩ := hr.get e1 e2
    cases e
    exact ⟨ca.has, n1, n2, n3⟩
  have sl := go (w.call p) L (fun a h => .inl (I.bp a h)) (fun i a h => .inr (.inl ⟨i, h⟩)) fun a h => .inr (.inr h)
  have noOwn : ∀ {i : Nat} {a : Addr}, ¬ OwnAt ⟨xs, s2.mh⟩ (vs.map some) (w.call p) (.inl i) a := fun {i a} ⟨d, h, _⟩ => (sl i _ h).1 d rfl
  have IC : Sim K (w.call p) ⟨xs, s2.mh⟩ (vs.map some) H := by
    refine ⟨fun q h => VR.ext L (I.con q h), I.zd, fun a h => ?_, fun a h => h, fun a z h => ?_, by rw [List.length_map]; exact hl, fun i x h => ?_, I.mlen, fun m o h => (I.mo m o h).ext L rfl, fun x a h => ?_, fun x y a h1 h2 => ?_⟩
    · rcases h with h | ⟨i, h⟩ | h
      · exact I.pd a h
      · exact I.ownHas h
      · exact (lone a h).1
    · rcases h with h | ⟨i, h⟩ | h
      · exact I.zp a z h
      · exact (I.fr _ a h).1 z
      · exact (lone a h).2.1 z
    · obtain ⟨_, v, e1, e2⟩ := sl i x h
      exact ⟨some v, by rw [List.getElem?_map, e1]; rfl, e2⟩
    · cases x with
      | inl i => exact absurd h noOwn
      | inr m =>
        have h' : OwnAt s2 σ w (.inr m) a := h
        obtain ⟨f1, f2⟩ := I.fr _ a h'
        refine ⟨f1, fun z => ?_⟩
        rcases z with z | ⟨i, z⟩ | z
        · exact f2 z
        · have e := I.inj _ _ a h' z
          cases e
        · exact (lone a z).2.2.2 _ h'
    · cases x with
      | inl i => exact absurd h1 noOwn
      | inr m =>
        cases y with
        | inl i => exact absurd h2 noOwn
        | inr m' => exact I.inj (.inr m) (.inr m') a h1 h2
  refine ⟨hl.symm, w.call p, xs, s2.mh, r, mh', IC, hc, fun w' H' v E' I' r' => ?_⟩
  have keep : ∀ a, (w.call p).P a → H' a = H a := fun a h => E'.eqp a h
  have wP : w'.P = (w.call p).P := E'.p
  let w2 : Wd := { w' with P := w.P, B := w.B }
  have L1 : Le w H w2 H' := ⟨E'.z, E'.eq, E'.ι, E'.n⟩
  have L2 : Le w' H' w2 H' := ⟨fun _ z => z, fun _ _ => rfl, fun _ _ => rfl, Nat.le_refl _⟩
  have ofInl : ∀ {i a}, OwnAt { s2 with mh := mh' } σ w2 (.inl i) a → OwnAt s2 σ w (.inl i) a := fun {i a} h => h
  have ofInr : ∀ {m a}, OwnAt { s2 with mh := mh' } σ w2 (.inr m) a → OwnAt ⟨[], mh'⟩ [] w' (.inr m) a := fun {m a} h => h
  refine k w2 H' v ⟨L1, fun a h => keep a (.inl h), rfl, rfl⟩ ⟨fun q h => VR.ext L2 (I'.con q h), I'.zd, fun a h => I'.pd a (by rw [wP]; exact .inl h), fun a h => I.bp a h, fun a z h => I'.zp a z (by rw [wP]; exact .inl h), I.len, fun i x h => ?_, I'.mlen, fun m o h => (I'.mo m o h).ext L2 rfl, fun x a h => ?_, fun x y a h1 h2 => ?_⟩ ?_
  · obtain ⟨u, e, r⟩ := I.slot i x h
    refine ⟨u, e, ?_⟩
    cases x with
    | un => trivial
    | val d => obtain ⟨y, q, r⟩ := r; exact ⟨y, q, VR.ext L1 r⟩
    | own d => obtain ⟨a, q, r⟩ := r; subst q; exact ⟨a, rfl, r.ext L1 (keep a (.inr (.inl ⟨i, d, h, e⟩)))⟩
    | bor d => obtain ⟨a, q, b, r⟩ := r; exact ⟨a, q, b, r.ext L1 (keep a (.inl (I.bp a b)))⟩
  · cases x with
    | inl i =>
      have h' := ofInl h
      exact ⟨fun z => I'.zp a z (by rw [wP]; exact .inr (.inl ⟨i, h'⟩)), (I.fr _ a h').2⟩
    | inr m =>
      obtain ⟨f1, f2⟩ := I'.fr _ a (ofInr h)
      exact ⟨f1, fun z => f2 (by rw [wP]; exact .inl z)⟩
  · cases x with
    | inl i =>
      cases y with
      | inl j => exact I.inj _ _ a (ofInl h1) (ofInl h2)
      | inr m => exact absurd (show w'.P a by rw [wP]; exact .inr (.inl ⟨i, ofInl h1⟩)) (I'.fr _ a (ofInr h2)).2
    | inr m =>
      cases y with
      | inl j => exact absurd (show w'.P a by rw [wP]; exact .inr (.inl ⟨j, ofInl h2⟩)) (I'.fr _ a (ofInr h1)).2
      | inr m' => exact I'.inj _ _ a (ofInr h1) (ofInr h2)
  · cases r with
    | val d => exact VR.ext L2 r'
    | own d =>
      obtain ⟨a, rfl, ca, n1, n2, n3⟩ := r'
      refine ⟨a, rfl, ca.ext L2 rfl, n1, fun z => n2 (by rw [wP]; exact .inl z), fun x h => ?_⟩
      cases x with
      | inl i => exact n2 (by rw [wP]; exact .inr (.inl ⟨i, ofInl h⟩))
      | inr m => exact n3 _ (ofInr h)
    | bor i => exact absurd r' (by simp [RVR])
end
theorem toSls_len {esc : List Nat} : ∀ {rs : List RV} {n : Nat} {s s2 : S} {xs : List Sl}, toSls esc n rs s = .ok (xs, s2) → xs.length = rs.length
  | [], _, _, _, _, h => by cases h; rfl
  | r :: rs, _, _, _, _, h => by
    unfold toSls at h
    split at h
    · split at h
      · rename_i h2
        cases h
        exact congrArg Nat.succ (toSls_len h2)
      · cases h
    · cases h
theorem evR_len {es : List Ex} : ∀ {s s' : S} {rs : List RV}, evR c es s = .ok (rs, s') → rs.length = es.length := by
  induction es with
  | nil => intro s s' rs h; rw [evR] at h; cases h; rfl
  | cons e es ih =>
    intro s s' rs h
    rw [evR] at h
    split at h
    · split at h
      · rename_i h2
        cases h
        exact congrArg Nat.succ (ih h2)
      · cases h
    · cases h
/-- a def that may be called -/
structure CalF (X : Cx) (K : Cs) (c : Ctx) (x : Str) (f np : Nat) : Prop where
  esc : c.esc f = []
  ex : ∃ (k : Nat) (fa : Addr) (fd : FuncData) (ps : List Str), FnOk X.prog X.w X.K X.mg X.base C8.CX0 k fa fd ps (spF K np (c.call f)) ∧ Room k X.A ∧ X.mg x = some (.ref fa) ∧ PySem.W.keepIn X.K (.ref fa) = true ∧ Binds X.K fd ps []
theorem s_call {x : Str} {f : Nat} {e : Expr} {es : List Expr} {y : Ex} {ys : List Ex} {p : Pos} (F : CalF X K c x f (ys.length + 1)) (hg : Gl X x) (hdb : (x == ("__debug__" : Str)) = false) (hn : notStar e = true)
    (ha : PA X (e :: es) (tR K (evR c (y :: ys)))) (hpl : (backTo pos (starEach es X.env)).any (·.1) = false) : PE X (.Call (.Name x p) (e :: es) [] pos) (tE K (evE c (.call f (y :: ys)))) := by
  obtain ⟨k, fa, fd, ps, F1, hr, hm, hk, hb⟩ := F.ex
  refine (pe_call (p := p) (pos := pos) (E := fun _ _ _ => False) F1 hr hg hm hk hb .nil C8.pass0 ha hdb (star_ok hn) hpl).imp fun σ H Q ⟨w, s, I, r, s', hm, k⟩ => ?_
  rw [evE] at hm
  split at hm
  · rename_i rs s1 h1
    split at hm
    · rename_i xs s2 h2
      split at hm
      · rename_i r' mh' h3
        cases hm
        refine ⟨w, s, I, rs, s1, h1, fun w1 H1 vs E1 I1 r1 => ?_⟩
        show spF K (ys.length + 1) (c.call f) (vs ++ []) H1 Q fun _ _ _ => False
        rw [List.append_nil]
        rw [F.esc] at h2
        have q := call_ok (E := fun _ _ _ => False) (c.call f) I1 r1 h2 h3 fun w2 H2 v E2 I2 r2 => k w2 H2 v (E1.trans E2) I2 r2
        rw [toSls_len h2, evR_len h1] at q
        exact q
      · cases hm
    · cases hm
  · cases hm
end
end Sk

end

section
set_option Elab.async false
set_option linter.all false
set_option maxRecDepth 100000
set_option maxHeartbeats 4000000
/-! SkJ: sorted, min, the other builtins. -/
namespace Sk
open PySem PySem.Spec PyProof.Rows L2

mutual
theorem reads_at {h : Heap} : ∀ {d : PyData} {v : Value} {as : List Addr}, Reads h v d as → ∀ a ∈ as, ∃ o, h.get? a = some o
  | _, _, _, .none, _, m => by cases m
  | _, _, _, .bool _, _, m => by cases m
  | _, _, _, .int _ _, _, m => by cases m
  | _, _, _, .str _ _, _, m => by cases m
  | _, _, _, .list h1 h2 h3 h4, a, m => by
    rcases List.mem_cons.mp m with rfl | m
    · exact ⟨_, h1⟩
    · exact readsAll_at' h4 a m
  | _, _, _, .tuple h1 h2 h3 h4, a, m => readsAll_at' h4 a m
  | _, _, _, .dict h1 h2 h3 h4 h5, a, m => by
    rcases List.mem_append.mp m with m | m
    · rcases List.mem_cons.mp m with rfl | m
      · exact ⟨_, h1⟩
      · exact readsAll_at' h4 a m
    · exact readsAll_at' h5 a m
theorem readsAll_at' {h : Heap} : ∀ {d : List PyData} {v : List Value} {as : List Addr}, ReadsAll h v d as → ∀ a ∈ as, ∃ o, h.get? a = some o
  | _, _, _, .nil, _, m => by cases m
  | _, _, _, .cons h1 h2, a, m => by
    rcases List.mem_append.mp m with m | m
    · exact reads_at h1 a m
    · exact readsAll_at' h2 a m
end

section
variable {X : Cx} {K : Cs} {pins : List (Addr × Obj)} {s : Shared} {σ : L2.St} {H : Hp} {w : Wd}
theorem okSort_mem {ds : List D} (h : okSort ds = true) {a b : D} (ha : a ∈ ds) (hb : b ∈ ds) : okLt a b = true := by
  unfold okSort at h
  exact List.all_eq_true.mp (List.all_eq_true.mp h a ha) b hb
theorem okSort_one {ds : List D} (h : okSort ds = true) {a : D} (ha : a ∈ ds) : okN 20 a = true ∧ notNon a = true := by
  have q := okSort_mem h ha ha
  have q2 := okLt_of q
  simp only [okLt, Bool.and_eq_true] at q
  exact ⟨q2.1, q.1⟩
theorem all_alike {ds : List D} (h : okSort ds = true) : PySem.W.AllAlike (ds.map toPy) := fun d hd d' hd' => by
  obtain ⟨a, ha, rfl⟩ := List.mem_map.mp hd
  obtain ⟨b, hb, rfl⟩ := List.mem_map.mp hd'
  exact (okLt_of (okSort_mem h ha hb)).2.2
theorem all_sortable {ds : List D} (h : (ds.all tupNe || ds.all notTup) = true) : PySem.W.Sortable (ds.map toPy) := by
  rw [Bool.or_eq_true] at h
  rcases h with h | h
  · refine .inl fun d hd => ?_
    obtain ⟨a, ha, rfl⟩ := List.mem_map.mp hd
    have q := List.all_eq_true.mp h a ha
    cases a with
    | tup xs =>
      cases xs with
      | nil => simp [tupNe] at q
      | cons x xs => exact ⟨toPy x, toPys xs, by simp [toPy, toPys]⟩
    | _ => simp [tupNe] at q
  · refine .inr fun d hd => ?_
    obtain ⟨a, ha, rfl⟩ := List.mem_map.mp hd
    have q := List.all_eq_true.mp h a ha
    cases a <;> first
      | (simp [notTup] at q; done)
      | exact ⟨by simp [toPy], by simp [toPy]⟩
/-- a value stands for a datum -/
def Std (w : Wd) (H : Hp) (u : Value) (d : D) : Prop := ∃ v, RelV v u ∧ VR w H d v
theorem std_of : ∀ {ds : List D} {vs : List V} {us : List Value}, VRs w H ds vs → Vals vs us → PySem.W.EachIs (Std w H) us ds
  | _, _, _, .nil, .nil => .nil
  | _, _, _, .cons h t, .cons r q => .cons ⟨_, r, h⟩ (std_of t q)
theorem std_vals : ∀ {ds : List D} {us : List Value}, PySem.W.EachIs (Std w H) us ds → ∃ vs, Vals vs us ∧ VRs w H ds vs
  | _, _, .nil => ⟨[], .nil, .nil⟩
  | _, _, .cons ⟨v, r, h⟩ t => by
    obtain ⟨vs, q1, q2⟩ := std_vals t
    exact ⟨v :: vs, .cons r q1, .cons h q2⟩
theorem std_reads {s : Shared} (I : Inv X pins σ H s) : ∀ {ds : List D} {us : List Value}, (∀ d ∈ ds, okN 20 d = true) → PySem.W.EachIs (Std w H) us ds → PySem.W.EachIs (fun v b => ∃ as, Reads s.heap v (toPy b) as) us ds
  | _, _, _, .nil => .nil
  | _, _, ok, .cons ⟨v, r, h⟩ t => .cons (Dp.reads I _ v _ (VR.dp (ok _ List.mem_cons_self) h) r) (std_reads I (fun d hd => ok d (List.mem_cons_of_mem _ hd)) t)
/-- sorted(x), x collected to some vs -/
theorem sorted_y {x : Value} {Q : VK} {E : Value → Shared → Prop} (hu : X.A.units + 64 < cLine)
    (hc : wpAny (model X.prog X.w) X.A.in1 (collect x) (fun acc s1 => ∃ (w : Wd) (ds : List D) (vs : List V), Inv X pins σ H s1 ∧ Vals vs acc ∧ VRs w H ds vs ∧ okSort ds = true ∧ (ds.all tupNe || ds.all notTup) = true ∧ ds.length ≤ sizeLine ∧
      ∀ p us, H p = none → VRs w H (sortD ds) us → Q (.ref p) (upd H p (.lst us))) E s) : wpAny (model X.prog X.w) X.A (call (.builtin "sorted") [x]) (EP X pins σ Q) E s := by
  refine Calls.call_function_entry PyProof.Rows.kind_sorted PyProof.Rows.plain_sorted PyProof.Rows.entry_sorted (PyProof.Rows.args_sorted1 _) ?_
  unfold Builtin.«sorted»
  refine wpAny_bind (m := checkCount "sorted" 1 1 _) (wpAny_pure ?_)
  refine wpAny_bind (wpAny_mono hc (fun acc s1 ⟨w, ds, vs, I1, ra, r, ok, ok2, hl, q⟩ => ?_) fun _ _ e => e)
  have hal : acc.length = ds.length := by rw [r.length, ra.length]
  refine wpAny_bind (wpAny_newList ?_ (by rw [hal]; exact hl))
  have hoL : (s1.heap.push (seqObj "list" acc.toArray 0)).get? s1.heap.objs.size = some (seqObj "list" acc.toArray 0) := Heap.get?_push_size _ rfl
  have es := std_of r ra
  have okA : ∀ d ∈ ds, okN 20 d = true := fun d hd => (okSort_one ok hd).1
  have rd0 := std_reads I1 okA es
  have rd : PySem.W.EachIs (fun v b => ∃ as, Reads (s1.heap.push (seqObj "list" acc.toArray 0)) v (toPy b) as ∧ s1.heap.objs.size ∉ as) acc ds := rd0.mono fun v b ⟨as, h⟩ =>
    ⟨as, PyProof.Rows.Reads.keeps (fun _ _ e => Heap.get?_push_of_some _ e) h, fun hm => by
      obtain ⟨o, e⟩ := reads_at h _ hm
      exact absurd (Heap.lt_size e) (Nat.lt_irrefl _)⟩
  refine wpAny_bind (wpAny_holding (PySem.W.list_sort_data (s := { s1 with heap := s1.heap.push (seqObj "list" acc.toArray 0) }) (R := Std w H) hoL es rd (all_alike ok) (all_sortable ok2) hl (fun b hb => ?_) fun out ho eo => ?_))
  · have := depth_okN 20 b (okA b hb)
    show X.A.in1.units + 1 + _ < _
    have e : X.A.in1.units = X.A.units + 1 := rfl
    omega
  · obtain ⟨us, q1, q2⟩ := std_vals eo
    obtain ⟨c, hc⟩ := PyProof.Rows.sortedHeap_at (vs := acc) (out := List.toArray out) hoL
    refine wpAny_pure ⟨_, rfl, .ref s1.heap.objs.size, upd H s1.heap.objs.size (.lst us), I1.laid (t' := s1.toks) (fun b u e => ?_) (Nat.le_refl _) (show ObjOk X.prog X.w _ _ _ (.lst us) from ⟨?_, out, c, q1, hc⟩), rfl, q _ us (I1.hok.fresh (Nat.le_refl _)) q2⟩
    · have hb : b < s1.heap.objs.size := Heap.lt_size e
      rw [PyProof.Rows.sortedHeap_old (Nat.ne_of_lt hb) (by rw [size_push']; exact Nat.lt_succ_of_lt hb)]
      exact Heap.get?_push_of_some _ e
    · rw [q1.length, ho]
      exact hl
/-- sorted(x), x collected to vs -/
theorem sorted_x {x : Value} {Q : VK} {ds : List D} {vs : List V} {E : Value → Shared → Prop} (hu : X.A.units + 64 < cLine) (r : VRs w H ds vs) (ok : okSort ds = true) (ok2 : (ds.all tupNe || ds.all notTup) = true) (hl : ds.length ≤ sizeLine)
    (hc : wpAny (model X.prog X.w) X.A.in1 (collect x) (fun acc s1 => Inv X pins σ H s1 ∧ Vals vs acc) E s)
    (q : ∀ p us, H p = none → VRs w H (sortD ds) us → Q (.ref p) (upd H p (.lst us))) : wpAny (model X.prog X.w) X.A (call (.builtin "sorted") [x]) (EP X pins σ Q) E s :=
  sorted_y hu (wpAny_mono hc (fun acc s1 ⟨I1, ra⟩ => ⟨w, ds, vs, I1, ra, r, ok, ok2, hl, q⟩) fun _ _ e => e)

theorem okSort_non {ds : List D} (h : okSort ds = true) {a : D} (ha : a ∈ ds) : toPy a ≠ .none := toPy_none (okSort_one h ha).2
theorem vals_cat {vs : List V} {us : List Value} (r : Vals vs us) : us.length = vs.length := r.length.symm
/-- sorted of a list, a tuple -/
theorem sorted_seq {p : Addr} {Q : VK} {ds : List D} {vs : List V} (hu : X.A.units + 64 < cLine) (I : Inv X pins σ H s) (hp : H p = some (.lst vs) ∨ H p = some (.tup vs)) (r : VRs w H ds vs) (ok : okSort ds = true) (ok2 : (ds.all tupNe || ds.all notTup) = true)
    (q : ∀ p us, H p = none → VRs w H (sortD ds) us → Q (.ref p) (upd H p (.lst us))) : wpAny (model X.prog X.w) X.A (call (.builtin "sorted") [.ref p]) (EP X pins σ Q) X.xe s := by
  rcases hp with hp | hp
  · obtain ⟨z, its, n, rv, e⟩ := I.hok p _ hp
    refine sorted_x hu r ok ok2 (by rw [r.length]; exact z) ?_ q
    refine PySem.wpAny_collect_seq p (.inl rfl) e rfl rfl (fun h' k => ⟨I.kept (t' := s.toks) k, by rw [List.toList_toArray]; exact rv⟩) (by rw [List.size_toArray, ← rv.length]; exact z)
  · obtain ⟨z, its, rv, o, e, hc, n, hd⟩ := I.hok p _ hp
    refine sorted_x hu r ok ok2 (by rw [r.length]; exact z) ?_ q
    exact PySem.wpAny_collect_seq p (.inr rfl) e hc hd (fun h' k => ⟨I.kept (t' := s.toks) k, by rw [List.toList_toArray]; exact rv⟩) (by rw [List.size_toArray, ← rv.length]; exact z)
theorem VR.key (k : Key) : VR w H (kD k) (kV k) := by
  rcases k with i | x
  · exact .int i
  · obtain ⟨x⟩ := x
    have q : VR w H (.str x.toList) (.str ⟨x.toList.toArray⟩) := .str _
    simpa [kD, kV] using q
theorem VRk.keys : ∀ {ds : List (D × D)} {kvs : List (Key × V)}, VRk w H ds (kvs.map fun p => (kD p.1, p.2)) → VRs w H (ds.map (·.1)) (kvs.map fun p => kV p.1)
  | [], [], .nil => .nil
  | _ :: _, _ :: _, .cons _ t => .cons (.key _) (VRk.keys t)
/-- sorted of a dict -/
theorem sorted_dct {p : Addr} {Q : VK} {ds : List (D × D)} {kvs : List (Key × V)} (hu : X.A.units + 64 < cLine) (hc : X.calm = true) (I : Inv X pins σ H s) (hp : H p = some (.dK kvs)) (r : VRk w H ds (kvs.map fun p => (kD p.1, p.2)))
    (ok : okSort (ds.map (·.1)) = true) (ok2 : ((ds.map (·.1)).all tupNe || (ds.map (·.1)).all notTup) = true)
    (q : ∀ p us, H p = none → VRs w H (sortD (ds.map (·.1))) us → Q (.ref p) (upd H p (.lst us))) : wpAny (model X.prog X.w) X.A (call (.builtin "sorted") [.ref p]) (EP X pins σ Q) X.xe s := by
  obtain ⟨z, lo, vs, rel, dd⟩ := dk_rd I.hok (.inl hp)
  obtain ⟨ep, hat⟩ := dd.dictAt
  have ek : (kvs.map fun kv => kV kv.1) = vs.map fun p => kV p.1 := by
    have e := congrArg (List.map kV) rel.keys
    rw [List.map_map, List.map_map] at e
    exact e
  have hl : ds.length = kvs.length := by rw [r.length, List.length_map]
  refine sorted_x hu (VRk.keys r) ok ok2 (by rw [List.length_map, hl]; exact z) ?_ q
  refine PySem.W.kdu_collect (A := X.A.in1) (PySem.W.kdl_dict (knd := mixKind X.prog X.w) (kvs := vs) (ep := ep) lo) (I.ok.hd hc) hat (by rw [← rel.length]; exact z) fun h' tk acc hk hacc => ⟨I.kept hk, ?_⟩
  rw [ek]
  exact keys_at (by rw [Array.length_toList]; exact hacc.1) fun j v e => hacc.2 j v (by rw [← Array.getElem?_toList]; exact e)

theorem sorted_dct0 {p : Addr} {Q : VK} (hu : X.A.units + 64 < cLine) (hc : X.calm = true) (I : Inv X pins σ H s) (hp : H p = some (.dT []))
    (q : ∀ t, H t = none → Q (.ref t) (upd H t (.lst []))) : wpAny (model X.prog X.w) X.A (call (.builtin "sorted") [.ref p]) (EP X pins σ Q) X.xe s := by
  have I2 := to_dK I hp
  refine thn (sorted_dct (w := ⟨fun _ => False, fun _ => False, fun _ => False, fun _ => 0, 0⟩) (ds := []) (Q := fun v H3 => ∃ t, v = .ref t ∧ H t = none ∧ H3 = upd (upd H p (.dK [])) t (.lst [])) hu hc I2 upd_same .nil rfl rfl fun t us ht r => ?_) fun v s3 ⟨x, H3, I3, r3, t, e1, e2, e3⟩ => ?_
  · have hs : sortD ([] : List D) = [] := by unfold sortD; simp
    rw [List.map_nil, hs] at r
    cases r
    by_cases htp : t = p
    · subst htp
      rw [upd_same] at ht
      cases ht
    · rw [upd_ne htp] at ht
      exact ⟨t, rfl, ht, rfl⟩
  · subst e1 e3
    have htp : p ≠ t := fun e => by subst e; rw [hp] at e2; cases e2
    have I4 := to_dT I3 (a := p) (by rw [upd_ne htp, upd_same])
    have eH : upd (upd (upd H p (.dK [])) t (.lst [])) p (.dT []) = upd H t (.lst []) := by
      funext b
      by_cases hb : b = p
      · subst hb
        rw [upd_same, upd_ne htp, hp]
      · rw [upd_ne hb]
        by_cases hbt : b = t
        · subst hbt
          rw [upd_same, upd_same]
        · rw [upd_ne hbt, upd_ne hbt, upd_ne hb]
    rw [eH] at I4
    exact ⟨.ref t, _, I4, r3, q t e2⟩

/-! ### min -/
mutual
theorem toPy_inj : ∀ {n : Nat} {d e : D}, okN n d = true → okN n e = true → toPy d = toPy e → d = e
  | _, .non, e, _, h, q => by cases e <;> simp_all [toPy, okN]
  | _, .bl _, e, _, h, q => by cases e <;> simp_all [toPy, okN]
  | _, .int _, e, _, h, q => by cases e <;> simp_all [toPy, okN]
  | _, .str x, e, _, h, q => by
    cases e <;> simp only [toPy, reduceCtorEq, PyData.str.injEq, Str.mk.injEq] at q
    have q2 := congrArg Array.toList q
    simp only [List.toList_toArray] at q2
    rw [q2]
  | 0, .tup _, _, h, _, _ => by simp [okN] at h
  | n + 1, .tup xs, e, h1, h, q => by
    cases e <;> simp only [toPy, reduceCtorEq, PyData.tuple.injEq] at q
    simp only [okN] at h1 h
    rw [toPys_inj (n := n) (List.all_eq_true.mp h1) (List.all_eq_true.mp h) q]
  | 0, .lst _, _, h, _, _ => by simp [okN] at h
  | n + 1, .lst xs, e, h1, h, q => by
    cases e <;> simp only [toPy, reduceCtorEq, PyData.list.injEq] at q
    simp only [okN] at h1 h
    rw [toPys_inj (n := n) (List.all_eq_true.mp h1) (List.all_eq_true.mp h) q]
  | n, .dct _, _, h, _, _ => by cases n <;> simp [okN] at h
  | n, .ref _, _, h, _, _ => by cases n <;> simp [okN] at h
theorem toPys_inj : ∀ {n : Nat} {d e : List D}, (∀ x ∈ d, okN n x = true) → (∀ x ∈ e, okN n x = true) → toPys d = toPys e → d = e
  | _, [], e, _, _, q => by cases e <;> simp_all [toPys]
  | n, x :: xs, e, h1, h, q => by
    cases e with
    | nil => simp [toPys] at q
    | cons y ys =>
      simp only [toPys, List.cons.injEq] at q
      rw [toPy_inj (n := n) (h1 x List.mem_cons_self) (h y List.mem_cons_self) q.1, toPys_inj (n := n) (fun z hz => h1 z (List.mem_cons_of_mem _ hz)) (fun z hz => h z (List.mem_cons_of_mem _ hz)) q.2]
end
theorem minD_py : ∀ (xs : List D) (x : D), toPy (minD x xs) = PySem.W.minD (toPy x) (xs.map toPy) ∧ minD x xs ∈ x :: xs
  | [], x => ⟨rfl, List.mem_cons_self⟩
  | y :: ys, x => by
    obtain ⟨h1, h2⟩ := minD_py ys (if ltD y x then y else x)
    refine ⟨?_, ?_⟩
    · show toPy (minD (if ltD y x then y else x) ys) = _
      rw [h1]
      show PySem.W.minD _ _ = List.foldl _ _ _
      rw [List.map_cons, List.foldl_cons]
      unfold PySem.W.minD
      congr 1
      unfold ltD
      split <;> rfl
    · show minD (if ltD y x then y else x) ys ∈ _
      rcases List.mem_cons.mp h2 with h | h
      · rw [h]
        split
        · exact List.mem_cons_of_mem _ List.mem_cons_self
        · exact List.mem_cons_self
      · exact List.mem_cons_of_mem _ (List.mem_cons_of_mem _ h)
theorem min_seq {p : Addr} {Q : VK} {x : D} {xs : List D} {vs : List V} (hu : X.A.units + 64 < cLine) (hc : X.calm = true) (I : Inv X pins σ H s) (hp : H p = some (.lst vs)) (r : VRs w H (x :: xs) vs) (ok : okSort (x :: xs) = true)
    (q : ∀ v, VR w H (minD x xs) v → Q v H) : wpAny (model X.prog X.w) X.A (call (.builtin "min") [.ref p]) (EP X pins σ Q) X.xe s := by
  obtain ⟨z, its, n, rv, e⟩ := I.hok p _ hp
  have okA : ∀ d ∈ x :: xs, okN 20 d = true := fun d hd => (okSort_one ok hd).1
  obtain ⟨as, hr⟩ := Dp.readsAll I (toPys (x :: xs)) vs its (VRs.dp okA r) rv
  rw [toPys_map, List.map_cons] at hr
  have dep : PyData.depthAll (toPys (x :: xs)) ≤ 20 := depths_okN 20 _ okA
  rw [toPys_map, List.map_cons] at dep
  refine PySem.W.min_list_data (vs := its.toArray) (I.ok.hd hc) ⟨_, e, rfl, _, rfl⟩ (by rw [List.toList_toArray]; exact hr) ⟨?_, ?_⟩ (by omega) fun i v h' tk bs hv hm hk => ?_
  · have q := all_alike ok
    rw [List.map_cons] at q
    exact q
  · intro d hd
    rw [← List.map_cons (f := toPy)] at hd
    obtain ⟨a, ha, rfl⟩ := List.mem_map.mp hd
    exact okSort_non ok ha
  · obtain ⟨e1, e2⟩ := minD_py xs x
    have hv' : its[i]? = some v := by rw [← hv]; simp
    have hi : i < vs.length := by rw [rv.length]; exact (List.getElem?_eq_some_iff.mp hv').1
    obtain ⟨y, hy, ry⟩ := r.getV (List.getElem?_eq_getElem hi)
    obtain ⟨v2, hv2, rv2⟩ := rv.get (List.getElem?_eq_getElem hi)
    rw [hv'] at hv2
    cases hv2
    have my : y ∈ x :: xs := List.mem_of_getElem? hy
    obtain ⟨as2, rd⟩ := Dp.reads I _ _ v (VR.dp (okA y my) ry) rv2
    have rd' := PyProof.Rows.Reads.keeps hk rd
    have eq := (PySem.Reads.unique rd' _ _ hm).1
    rw [← e1] at eq
    have ey := toPy_inj (okA y my) (okA _ e2) eq
    rw [ey] at ry
    exact ⟨_, H, I.kept hk, rv2, q _ ry⟩

/-! ### all, any -/
theorem boolAll_of : ∀ {ds : List D} {b : Bool}, boolAll ds = some b → ∃ bs : List Bool, ds = bs.map .bl ∧ b = bs.all id
  | [], _, h => by cases h; exact ⟨[], rfl, rfl⟩
  | d :: ds, b, h => by
    cases d <;> simp only [boolAll, reduceCtorEq, Option.map_eq_some_iff] at h
    rename_i c
    obtain ⟨b', h, rfl⟩ := h
    obtain ⟨bs, rfl, rfl⟩ := boolAll_of h
    exact ⟨c :: bs, rfl, by simp⟩
theorem boolAny_of : ∀ {ds : List D} {b : Bool}, boolAny ds = some b → ∃ bs : List Bool, ds = bs.map .bl ∧ b = bs.any id
  | [], _, h => by cases h; exact ⟨[], rfl, rfl⟩
  | d :: ds, b, h => by
    cases d <;> simp only [boolAny, reduceCtorEq, Option.map_eq_some_iff] at h
    rename_i c
    obtain ⟨b', h, rfl⟩ := h
    obtain ⟨bs, rfl, rfl⟩ := boolAny_of h
    exact ⟨c :: bs, rfl, by simp⟩
theorem VRs.bls : ∀ {bs : List Bool} {vs : List V}, VRs w H (bs.map .bl) vs → vs = bs.map V.bl
  | [], _, .nil => rfl
  | b :: bs, _, .cons h t => by cases h; rw [VRs.bls t]; rfl
theorem reads_bls {h : Heap} : ∀ bs : List Bool, ReadsAll h (bs.map Value.bool) (bs.map PyData.bool) []
  | [] => .nil
  | b :: bs => .cons (.bool b) (reads_bls bs)
theorem plain_bls : ∀ bs : List Bool, PyData.plainAll (bs.map PyData.bool) = true
  | [] => rfl
  | b :: bs => by rw [List.map_cons, PyData.plainAll, plain_bls bs]; rfl
theorem fits_bls {bs : List Bool} : ∀ x ∈ bs.map PyData.bool, x.fits63 := fun x hx => by
  obtain ⟨b, _, rfl⟩ := List.mem_map.mp hx
  trivial
theorem all_seq {p : Addr} {Q : VK} {bs : List Bool} {vs : List V} (hc : X.calm = true) (I : Inv X pins σ H s) (hp : H p = some (.lst vs)) (r : VRs w H (bs.map .bl) vs) (q : Q (.bl (bs.all id)) H) : wpAny (model X.prog X.w) X.A (call (.builtin "all") [.ref p]) (EP X pins σ Q) X.xe s := by
  obtain ⟨z, its, n, rv, e⟩ := I.hok p _ hp
  rw [r.bls] at rv
  have ei := Vals.bls rv
  subst ei
  refine PySem.W.all_list_data (vs := (bs.map Value.bool).toArray) (xs := bs.map PyData.bool) (I.ok.hd hc) ⟨_, e, rfl, _, rfl⟩ (by rw [List.toList_toArray]; exact reads_bls bs) (plain_bls bs) fits_bls fun h' tk k => ?_
  have eb : (bs.map PyData.bool).all PyData.truthy = bs.all id := by rw [List.all_map]; rfl
  rw [eb]
  exact ⟨.bl _, H, I.kept k, rfl, q⟩
theorem any_seq {p : Addr} {Q : VK} {bs : List Bool} {vs : List V} (hc : X.calm = true) (I : Inv X pins σ H s) (hp : H p = some (.lst vs)) (r : VRs w H (bs.map .bl) vs) (q : Q (.bl (bs.any id)) H) : wpAny (model X.prog X.w) X.A (call (.builtin "any") [.ref p]) (EP X pins σ Q) X.xe s := by
  obtain ⟨z, its, n, rv, e⟩ := I.hok p _ hp
  rw [r.bls] at rv
  have ei := Vals.bls rv
  subst ei
  refine PySem.W.any_list_data (vs := (bs.map Value.bool).toArray) (xs := bs.map PyData.bool) (I.ok.hd hc) ⟨_, e, rfl, _, rfl⟩ (by rw [List.toList_toArray]; exact reads_bls bs) (plain_bls bs) fits_bls fun h' tk k => ?_
  have eb : (bs.map PyData.bool).any PyData.truthy = bs.any id := by rw [List.any_map]; rfl
  rw [eb]
  exact ⟨.bl _, H, I.kept k, rfl, q⟩
end

/-! ### the table -/
section
variable {X : Cx} {K : Cs} {c : Ctx} {pos : Pos}
def biV : Bi → Value
  | .len => .builtin "len"
  | .list => .type "list"
  | .listr => .none
  | .tuple => .type "tuple"
  | .sorted => .builtin "sorted"
  | .sortset => .none
  | .min => .builtin "min"
  | .abs => .builtin "abs"
  | .int => .type "int"
  | .str => .type "str"
  | .ord => .builtin "ord"
  | .all => .builtin "all"
  | .any => .builtin "any"
def biN : Bi → Str
  | .len => "len"
  | .list => "list"
  | .listr => ""
  | .tuple => "tuple"
  | .sorted => "sorted"
  | .sortset => ""
  | .min => "min"
  | .abs => "abs"
  | .int => "int"
  | .str => "str"
  | .ord => "ord"
  | .all => "all"
  | .any => "any"
def biOk : Bi → Bool
  | .listr => false
  | .sortset => false
  | _ => true
theorem bi_boot : ∀ b : Bi, biOk b = true → bootBuiltins (biN b) = some (biV b)
  | .len, _ => rfl
  | .list, _ => rfl
  | .tuple, _ => rfl
  | .sorted, _ => rfl
  | .min, _ => rfl
  | .abs, _ => rfl
  | .int, _ => rfl
  | .str, _ => rfl
  | .ord, _ => rfl
  | .all, _ => rfl
  | .any, _ => rfl
/-- what such a call wants and gives -/
def rBlt (K : Cs) (b : Bi) : List V → Hp → VK → Prop := fun xs H Q => ∃ (w : Wd) (s : S) (σ : L2.St) (x : V) (d : D) (r : RV), xs = [x] ∧ Sim K w s σ H ∧ PVR w H d x ∧ bltM s.mh b d = .ok r ∧ Cont K w s σ H r Q
theorem o_blt (hu : X.A.units + 64 < cLine) (hc : X.calm = true) : ∀ b : Bi, biOk b = true → CallR X (biV b) (rBlt K b) := by
  intro b hb pins s' σ' H xs us Q I rs h
  obtain ⟨w, s, σ, x, d, r, rfl, IS, hx, e, k⟩ := h
  obtain ⟨u, rfl, rx⟩ := vals1 rs
  cases b with
  | listr => cases hb
  | sortset => cases hb
  | len =>
    show wpAny _ _ (call (.builtin "len") _) _ _ _
    · cases d with
      | ref n =>
        simp only [bltM] at e
        split at e <;> cases e
        rename_i ys hmo
        obtain ⟨hn, rfl⟩ := hx.ref_
        obtain ⟨vs, e1, r1⟩ := IS.mo _ _ hmo
        refine call_len pins s' σ' H _ _ Q I rs ⟨_, vs.length, rfl, .inl ⟨vs, .inl e1, rfl⟩, ?_⟩
        rw [← r1.length]
        exact k.int IS
      | lst ys =>
        cases e
        obtain ⟨p, vs, rfl, e1, r1⟩ := hx.lst_
        refine call_len pins s' σ' H _ _ Q I rs ⟨_, vs.length, rfl, .inl ⟨vs, .of e1, rfl⟩, ?_⟩
        rw [← r1.length]
        exact k.int IS
      | tup ys =>
        cases e
        obtain ⟨p, vs, rfl, _, e1, r1⟩ := hx.tup_
        refine call_len pins s' σ' H _ _ Q I rs ⟨_, vs.length, rfl, .inr ⟨vs, .of e1, rfl⟩, ?_⟩
        rw [← r1.length]
        exact k.int IS
      | str y =>
        simp only [bltM, bltD] at e
        split at e <;> cases e
        rename_i hz
        cases hx.str_
        refine call_len pins s' σ' H _ _ Q I rs ⟨_, y.length, rfl, ⟨by rw [Str.length_mk, ← sz_eq]; exact hz, by rw [Str.length_mk]⟩, k.int IS⟩
      | dct y =>
        cases e
        obtain ⟨p, rfl, h⟩ := hx.dct_
        rcases h with ⟨kvs, e1, r1⟩ | ⟨kvs, e1, r1⟩
        · refine call_lenD pins s' σ' H _ _ Q I rs ⟨p, kvs, rfl, e1, ?_⟩
          have q := r1.length
          rw [List.length_map] at q
          rw [← q]
          exact k.int IS
        · refine call_len_dT pins s' σ' H _ _ Q I rs ⟨p, kvs, rfl, e1, ?_⟩
          have q := r1.length
          rw [List.length_map] at q
          rw [← q]
          exact k.int IS
      | _ => cases e
  | list =>
    show wpAny _ _ (call (.type "list") _) _ _ _
    have e : bltD .list d = .ok r := e
    cases d with
    | lst ys =>
      cases e
      obtain ⟨p, vs, rfl, e1, r1⟩ := hx.lst_
      exact call_list_of pins s' σ' H _ _ Q I rs ⟨p, vs, rfl, .inl (.of e1), fun t ht => k.lst IS ht r1⟩
    | tup ys =>
      cases e
      obtain ⟨p, vs, rfl, _, e1, r1⟩ := hx.tup_
      exact call_list_of pins s' σ' H _ _ Q I rs ⟨p, vs, rfl, .inr (.of e1), fun t ht => k.lst IS ht r1⟩
    | _ => cases e
  | tuple =>
    show wpAny _ _ (call (.type "tuple") _) _ _ _
    have e : bltD .tuple d = .ok r := e
    cases d with
    | lst ys =>
      cases e
      obtain ⟨p, vs, rfl, e1, r1⟩ := hx.lst_
      exact call_tuple_of pins s' σ' H _ _ Q I rs ⟨p, vs, rfl, .inl ⟨.of e1, fun t ht => k.tup IS ht r1⟩⟩
    | tup ys =>
      cases e
      obtain ⟨p, vs, rfl, z, e1, r1⟩ := hx.tup_
      exact call_tuple_of pins s' σ' H _ _ Q I rs ⟨p, vs, rfl, .inr ⟨.of e1, k.val IS (.tup z e1 r1)⟩⟩
    | _ => cases e
  | sorted =>
    show wpAny _ _ (call (.builtin "sorted") _) _ _ _
    have e : bltD .sorted d = .ok r := e
    cases d with
    | lst ys =>
      simp only [bltD] at e
      split at e <;> cases e
      rename_i h
      rw [Bool.and_eq_true] at h
      obtain ⟨p, vs, rfl, e1, r1⟩ := hx.lst_
      cases rx
      exact sorted_seq hu I (.inl e1) r1 h.1 h.2 fun t us ht rt => k.lst IS ht rt
    | tup ys =>
      simp only [bltD] at e
      split at e <;> cases e
      rename_i h
      rw [Bool.and_eq_true] at h
      obtain ⟨p, vs, rfl, _, e1, r1⟩ := hx.tup_
      cases rx
      exact sorted_seq hu I (.inr e1) r1 h.1 h.2 fun t us ht rt => k.lst IS ht rt
    | dct ys =>
      simp only [bltD] at e
      split at e <;> cases e
      rename_i h
      rw [Bool.and_eq_true] at h
      have h2 : ((ys.map (·.1)).all tupNe || (ys.map (·.1)).all notTup) = true := by
        rw [Bool.or_eq_true]
        refine .inr (List.all_eq_true.mpr fun d hd => ?_)
        have q := List.all_eq_true.mp h.2 d hd
        cases d <;> first | rfl | simp at q
      obtain ⟨p, rfl, h3⟩ := hx.dct_
      cases rx
      rcases h3 with ⟨kvs, e1, r1⟩ | ⟨kvs, e1, r1⟩
      · exact sorted_dct hu hc I e1 r1 h.1 h2 fun t us ht rt => k.lst IS ht rt
      · cases kvs with
        | nil =>
          cases r1
          have hs : sortD (([] : List (D × D)).map (·.1)) = [] := by unfold sortD; simp
          rw [hs] at k
          exact sorted_dct0 hu hc I e1 fun t ht => k.lst IS ht .nil
        | cons q qs =>
          cases ys with
          | nil => cases r1
          | cons y ys =>
            cases r1 with
            | cons r1 t1 =>
              have q := h.2
              simp [allStr, tD] at q
    | _ => cases e
  | min =>
    show wpAny _ _ (call (.builtin "min") _) _ _ _
    have e : bltD .min d = .ok r := e
    cases d with
    | lst ys =>
      cases ys with
      | nil => cases e
      | cons y ys =>
        simp only [bltD] at e
        split at e <;> cases e
        rename_i h
        obtain ⟨p, vs, rfl, e1, r1⟩ := hx.lst_
        cases rx
        exact min_seq hu hc I e1 r1 h fun v rv => k.val IS rv
    | _ => cases e
  | abs =>
    show wpAny _ _ (call (.builtin "abs") _) _ _ _
    have e : bltD .abs d = .ok r := e
    cases d with
    | int i =>
      cases e
      cases hx.int_
      exact call_abs pins s' σ' H _ _ Q I rs ⟨i, rfl, k.int IS⟩
    | _ => cases e
  | int =>
    show wpAny _ _ (call (.type "int") _) _ _ _
    have e : bltD .int d = .ok r := e
    cases d with
    | int i =>
      cases e
      cases hx.int_
      exact call_int1 pins s' σ' H _ _ Q I rs (.inl ⟨i, rfl, k.int IS⟩)
    | str y =>
      simp only [bltD] at e
      split at e
      · split at e <;> cases e
        rename_i h1 h2
        cases hx.str_
        exact call_int_str pins s' σ' H _ _ Q I rs ⟨_, _, rfl, h1, by rw [Str.length_mk]; exact h2, k.int IS⟩
      · cases e
    | _ => cases e
  | str =>
    show wpAny _ _ (call (.type "str") _) _ _ _
    have e : bltD .str d = .ok r := e
    cases d with
    | int i =>
      simp only [bltD] at e
      split at e <;> cases e
      rename_i h
      cases hx.int_
      exact call_str_int pins s' σ' H _ _ Q I rs ⟨i, rfl, h, k.str IS rfl⟩
    | _ => cases e
  | ord =>
    show wpAny _ _ (call (.builtin "ord") _) _ _ _
    have e : bltD .ord d = .ok r := e
    cases d with
    | str y =>
      match y, e with
      | [ch], e =>
        cases e
        cases hx.str_
        exact call_ord pins s' σ' H _ _ Q I rs ⟨_, rfl, rfl, k.int IS⟩
    | _ => cases e
  | all =>
    show wpAny _ _ (call (.builtin "all") _) _ _ _
    have e : bltD .all d = .ok r := e
    cases d with
    | lst ys =>
      simp only [bltD] at e
      split at e <;> cases e
      rename_i h
      obtain ⟨bs, rfl, rfl⟩ := boolAll_of h
      obtain ⟨p, vs, rfl, e1, r1⟩ := hx.lst_
      cases rx
      exact all_seq hc I e1 r1 (k.bl IS)
    | _ => cases e
  | any =>
    show wpAny _ _ (call (.builtin "any") _) _ _ _
    have e : bltD .any d = .ok r := e
    cases d with
    | lst ys =>
      simp only [bltD] at e
      split at e <;> cases e
      rename_i h
      obtain ⟨bs, rfl, rfl⟩ := boolAny_of h
      obtain ⟨p, vs, rfl, e1, r1⟩ := hx.lst_
      cases rx
      exact any_seq hc I e1 r1 (k.bl IS)
    | _ => cases e
theorem blt_ev {b : Bi} {x : Ex} {s s' : S} {r : RV} (h : evE c (.blt b x) s = .ok (r, s')) : ∃ ra d, evE c x s = .ok (ra, s') ∧ peek ra s' = .ok d ∧ bltM s'.mh b d = .ok r := by
  rw [evE] at h
  split at h
  · rename_i ra s1 h1
    split at h
    · rename_i d hp
      split at h
      · rename_i r' hr
        cases h
        exact ⟨_, _, h1, hp, hr⟩
      · cases h
    · cases h
  · cases h
theorem s_blt {b : Bi} {ea : Expr} {x : Ex} {f : Str} {p : Pos} (hu : X.A.units + 64 < cLine) (hc : X.calm = true) (hb : biOk b = true) (hf : f = biN b) (hg : Gl X f) (hm : X.mg f = none) (hn : notStar ea = true) (ha : PE X ea (tE K (evE c x))) :
    PE X (.Call (.Name f p) [ea] [] pos) (tE K (evE c (.blt b x))) := by
  have hA : PA X [ea] (tCons (tE K (evE c x)) tNil) := pa_cons ha pa_nil (star_ok hn)
  have hne : f ≠ "__name__" := by subst hf; cases b <;> first | (simp [biOk] at hb; done) | decide
  have hdb : (f == ("__debug__" : Str)) = false := by subst hf; cases b <;> first | (simp [biOk] at hb; done) | decide
  have hv : bootBuiltins f = some (biV b) := by subst hf; exact bi_boot b hb
  have key : ∀ {t : TE}, PE X (.Call (.Name f p) [ea] [] pos) t → (∀ σ H Q, tE K (evE c (.blt b x)) σ H Q → t σ H Q) → PE X (.Call (.Name f p) [ea] [] pos) (tE K (evE c (.blt b x))) := fun h i => h.imp i
  have go : ∀ σ H Q, tE K (evE c (.blt b x)) σ H Q → tCB (rBlt K b) (tCons (tE K (evE c x)) tNil) σ H Q := fun σ H Q ⟨w, s, I, r, s', hm, k⟩ => by
    obtain ⟨ra, d, h1, hp, hr⟩ := blt_ev hm
    exact ⟨w, s, I, ra, s', h1, fun w1 H1 v E1 I1 r1 => ⟨w1, s', σ, v, d, r, rfl, I1, I1.peek r1 hp, hr, fun w2 H2 z E2 I2 r2 => k w2 H2 z (E1.trans E2) I2 r2⟩⟩
  have hr := o_blt (K := K) hu hc b hb
  have he : starEach [ea] X.env = (false, eval ea X.env) :: starEach [] X.env := star_ok hn
  have hpl : (backTo pos (starEach ([] : List Expr) X.env)).any (·.1) = false := rfl
  cases b with
  | listr => cases hb
  | sortset => cases hb
  | len => exact (pe_callB (p := p) (pos := pos) hr hg hm hv hA hne hdb he hpl).imp go
  | list => exact (pe_callTy (p := p) (pos := pos) hr hg hm hv hA hne hdb he hpl).imp go
  | tuple => exact (pe_callTy (p := p) (pos := pos) hr hg hm hv hA hne hdb he hpl).imp go
  | sorted => exact (pe_callB (p := p) (pos := pos) hr hg hm hv hA hne hdb he hpl).imp go
  | min => exact (pe_callB (p := p) (pos := pos) hr hg hm hv hA hne hdb he hpl).imp go
  | abs => exact (pe_callB (p := p) (pos := pos) hr hg hm hv hA hne hdb he hpl).imp go
  | int => exact (pe_callTy (p := p) (pos := pos) hr hg hm hv hA hne hdb he hpl).imp go
  | str => exact (pe_callTy (p := p) (pos := pos) hr hg hm hv hA hne hdb he hpl).imp go
  | ord => exact (pe_callB (p := p) (pos := pos) hr hg hm hv hA hne hdb he hpl).imp go
  | all => exact (pe_callB (p := p) (pos := pos) hr hg hm hv hA hne hdb he hpl).imp go
  | any => exact (pe_callB (p := p) (pos := pos) hr hg hm hv hA hne hdb he hpl).imp go
end
end Sk

end

section
set_option Elab.async false
set_option linter.all false
set_option maxRecDepth 100000
set_option maxHeartbeats 4000000
/-! SkK: methods, changes of own lists, dict displays, list(range). -/
namespace Sk
open PySem PySem.Spec PyProof.Rows L2

/-! ### methods that read -/
theorem join_eqL (x : List Nat) : ∀ ts : List (List Nat), joinAll x ts = TL.joinL x ts
  | [] => rfl
  | [_] => rfl
  | a :: b :: r => by
    show a ++ (x ++ joinAll x (b :: r)) = a ++ (x ++ TL.joinL x (b :: r))
    rw [join_eqL x (b :: r)]
theorem join_all (x : List Nat) (ts : List (List Nat)) : (Txt.join ⟨x.toArray⟩ (ts.map fun t => (⟨t.toArray⟩ : Str))).cps.toList = joinAll x ts := by
  have q := SX.join_S x ts
  rw [join_eqL]
  have e : (SX.S (TL.joinL x ts)).cps.toList = TL.joinL x ts := by simp [SX.S]
  rw [← e, ← q]
theorem VRs.imp {w w' : Wd} {H H' : Hp} (q : ∀ d v, VR w H d v → VR w' H' d v) : ∀ {ds : List D} {vs : List V}, VRs w H ds vs → VRs w' H' ds vs
  | _, _, .nil => .nil
  | _, _, .cons h t => .cons (q _ _ h) (VRs.imp q t)
theorem meth_join {d : D} {ds : List D} {r : RV} (h : methD .join d ds = .ok r) : ∃ x ys ts, d = .str x ∧ ds = [.lst ys] ∧ txts ys = some ts ∧ (ts.map (·.length)).sum + ts.length * x.length ≤ sz ∧ r = .val (.str (joinAll x ts)) := by
  cases d with
  | str x =>
    match ds, h with
    | [.lst ys], h =>
      simp only [methD] at h
      split at h
      · rename_i ts ht
        split at h <;> cases h
        rename_i hz
        exact ⟨x, ys, ts, rfl, rfl, ht, hz, rfl⟩
      · cases h
  | _ => cases h
theorem meth_split {d : D} {ds : List D} {r : RV} (h : methD .split d ds = .ok r) : ∃ x y, d = .str x ∧ ds = [.str y] ∧ y.length ≠ 0 ∧ x.length + 2 ≤ sz ∧ r = .own (.lst ((Txt.split ⟨x.toArray⟩ ⟨y.toArray⟩).map fun z => .str z.cps.toList)) := by
  cases d with
  | str x =>
    match ds, h with
    | [.str y], h =>
      simp only [methD] at h
      split at h <;> cases h
      rename_i hz
      exact ⟨x, y, rfl, rfl, hz.1, hz.2, rfl⟩
  | _ => cases h
theorem meth_get {d : D} {ds : List D} {r : RV} (h : methD .get d ds = .ok r) : ∃ kvs k e, d = .dct kvs ∧ ds = [k, e] ∧ fitsKey k kvs = true ∧ r = .val ((lookD k kvs).getD e) := by
  cases d with
  | dct kvs =>
    match ds, h with
    | [k, e], h =>
      simp only [methD] at h
      split at h <;> cases h
      rename_i hz
      exact ⟨kvs, k, e, rfl, rfl, hz, rfl⟩
  | _ => cases h
section
variable {w : Wd} {H : Hp}
theorem txts_vs : ∀ {ds : List D} {ts : List (List Nat)} {vs : List V}, txts ds = some ts → VRs w H ds vs → vs = (ts.map fun t => (⟨t.toArray⟩ : Str)).map V.str
  | [], _, _, h, .nil => by cases h; rfl
  | d :: ds, _, _, h, .cons r t => by
    cases d <;> simp only [txts, reduceCtorEq, Option.map_eq_some_iff] at h
    obtain ⟨ts, h, rfl⟩ := h
    cases r
    rw [txts_vs h t]
    rfl
theorem strs_vr : ∀ zs : List Str, VRs w H (zs.map fun z => .str z.cps.toList) (zs.map V.str)
  | [] => .nil
  | z :: zs => .cons (by
    obtain ⟨z⟩ := z
    have q : VR w H (.str z.toList) (.str ⟨z.toList.toArray⟩) := .str _
    simpa using q) (strs_vr zs)
end
section
variable {X : Cx} {K : Cs} {c : Ctx} {pos : Pos}
def rMeth (K : Cs) (m : Me) : V → List V → Hp → VK → Prop := fun x xs H Q => ∃ (w : Wd) (s : S) (σ : L2.St) (d : D) (ds : List D) (r : RV), Sim K w s σ H ∧ PVR w H d x ∧ VRs w H ds xs ∧ methD m d ds = .ok r ∧ Cont K w s σ H r Q
def meI : Me → String
  | .join => "str.join"
  | .split => "str.split"
  | .get => "dict.get"
def meN : Me → Str
  | .join => "join"
  | .split => "split"
  | .get => "get"
def meT : Me → String
  | .join => "str"
  | .split => "str"
  | .get => "dict"
theorem m_join : MtR X "str.join" (rMeth K .join) := by
  intro pins s' σ' H x xs v us Q I rx rs h
  obtain ⟨w, s, σ, d, ds, r, IS, hx, hs, e, k⟩ := h
  obtain ⟨y, ys, ts, rfl, rfl, ht, hz, rfl⟩ := meth_join e
  cases hx.str_
  cases hs with
  | cons h1 h2 =>
    cases h2
    obtain ⟨p, vs, rfl, e1, r1⟩ := (show PVR w H (.lst ys) _ from .inl h1).lst_
    have ev := txts_vs ht r1
    refine mt_join pins s' σ' H _ _ v us Q I rx rs ⟨_, p, ts.map fun t => (⟨t.toArray⟩ : Str), rfl, rfl, .inl (.of (by rw [e1, ev])), ?_, k.str IS (join_all y ts)⟩
    rw [List.map_map, List.length_map, Str.length_mk]
    have e2 : (fun (x : Str) => x.length) ∘ (fun (t : List Nat) => (⟨t.toArray⟩ : Str)) = fun t => t.length := by
      funext t
      exact Str.length_mk t
    rw [e2]
    exact hz
theorem m_split : MtR X "str.split" (rMeth K .split) := by
  intro pins s' σ' H x xs v us Q I rx rs h
  obtain ⟨w, s, σ, d, ds, r, IS, hx, hs, e, k⟩ := h
  obtain ⟨y, z, rfl, rfl, h1, h2, rfl⟩ := meth_split e
  cases hx.str_
  cases hs with
  | cons r1 t1 =>
    cases t1
    cases r1
    refine mt_split pins s' σ' H _ _ v us Q I rx rs ⟨_, _, rfl, rfl, ?_, ?_, fun p hp => k.lst IS hp (strs_vr _)⟩
    · rw [Str.length_mk]
      simpa using h1
    · rw [Str.length_mk, ← sz_eq]
      exact h2
theorem oth_get {pins : List (Addr × Obj)} {s : Shared} {σ : L2.St} {H : Hp} {a : Addr} {y d : V} {u r : Value} {Q : VK} (hu : X.A.units + 64 < cLine) (I : Inv X pins σ H s) (g : Oth H a y) (ry : RelV y u) (rd : RelV d r) (q : Q d H) :
    wpAny (model X.prog X.w) X.A (call (.builtin "dict.get") [.ref a, u, r]) (EP X pins σ Q) X.xe s :=
  oth_of I g fun H2 I2 g2 back => d_get2 (by omega) I2 g2 ry rd fun w' s' I' rw' => ⟨d, H, back s' I', rw', q⟩
theorem m_get (hu : X.A.units + 64 < cLine) : MtR X "dict.get" (rMeth K .get) := by
  intro pins s' σ' H x xs v us Q I rx rs h
  obtain ⟨w, s, σ, d, ds, r, IS, hx, hs, e, k⟩ := h
  obtain ⟨kvs, kk, e, rfl, rfl, hf, rfl⟩ := meth_get e
  cases hs with
  | cons r1 t1 =>
    cases t1 with
    | cons r2 t2 =>
      cases t2
      obtain ⟨u1, u2, rfl, q1, q2⟩ := vals2 rs
      obtain ⟨p, o, rfl, g, m⟩ := dget_of hx (.inl r1) hf
      cases rx
      rcases g with g | ⟨rfl, g⟩
      · refine d_get2 (by omega) I g q1 q2 fun w' s2 I2 rw' => ⟨_, H, I2, rw', ?_⟩
        cases ho : lookD kk kvs with
        | none =>
          rw [ho] at m k
          cases o with
          | none => exact k.val IS r2
          | some _ => exact m.elim
        | some z =>
          rw [ho] at m k
          cases o with
          | none => exact m.elim
          | some _ => exact k.val IS m
      · cases ho : lookD kk kvs with
        | none =>
          rw [ho] at k
          exact oth_get hu I g q1 q2 (k.val IS r2)
        | some z => rw [ho] at m; exact m.elim
theorem o_meth (hu : X.A.units + 64 < cLine) : ∀ m : Me, MtR X (meI m) (rMeth K m)
  | .join => m_join
  | .split => m_split
  | .get => m_get hu
def plainBase : Expr → Bool
  | .Call (.Name _ _) [] [] _ => false
  | _ => true
theorem plainBase_ok {o : Expr} {a : Str} {env : Env} (h : plainBase o = true) (whole : Sem Value) : attributeBase o a env whole = whole := by
  unfold attributeBase
  split
  · simp [plainBase] at h
  · rfl
def noStars : List Expr → Bool
  | [] => true
  | e :: es => notStar e && noStars es
theorem noStars_each : ∀ {es : List Expr} {env : Env}, noStars es = true → starEach es env = es.map fun e => (false, eval e env)
  | [], _, _ => rfl
  | e :: es, env, h => by
    rw [noStars, Bool.and_eq_true] at h
    rw [star_ok h.1, noStars_each h.2]
    rfl
theorem noStars_any {es : List Expr} {env : Env} (h : noStars es = true) : (backTo pos (starEach es env)).any (·.1) = false := by
  rw [noStars_each h]
  unfold backTo
  rw [List.map_map, List.any_map]
  induction es with
  | nil => rfl
  | cons e es ih =>
    rw [noStars, Bool.and_eq_true] at h
    rw [List.any_cons, ih h.2]
    rfl
theorem noStars_few {es : List Expr} {env : Env} (h : noStars es = true) (hl : es.length < 30) : ((backTo pos (starEach es env)).all (fun x => !x.1) && (backToKw pos (keywordEach [] env)).all (fun x => x.1.isSome)
      && decide (es.length + ([] : List Keyword).length + (if ([] : List Keyword).isEmpty then 0 else 1) < 30)) = true := by
  have e1 : (backTo pos (starEach es env)).all (fun x => !x.1) = true := by
    have q := noStars_any (pos := pos) (env := env) h
    rw [List.all_eq_true]
    intro x hx
    cases hb : x.1 with
    | false => rfl
    | true =>
      have : (backTo pos (starEach es env)).any (·.1) = true := List.any_eq_true.mpr ⟨x, hx, hb⟩
      rw [q] at this
      cases this
  rw [e1]
  have e2 : (backToKw pos (keywordEach [] env)).all (fun x => x.1.isSome) = true := rfl
  rw [e2]
  simp [hl]
theorem meth_ev {m : Me} {o : Ex} {es : List Ex} {s s' : S} {r : RV} (h : evE c (.meth m o es) s = .ok (r, s')) : ∃ ro s1 d ds, evE c o s = .ok (ro, s1) ∧ peek ro s1 = .ok d ∧ evA c es s1 = .ok (ds, s') ∧ peek ro s' = .ok d ∧ methD m d ds = .ok r := by
  rw [evE] at h
  split at h
  · rename_i ro s1 h1
    split at h
    · rename_i d hp
      split at h
      · rename_i ds s2 h2
        split at h
        · rename_i hs
          split at h
          · rename_i r' hr
            cases h
            refine ⟨_, _, _, _, h1, hp, h2, ?_, hr⟩
            cases ro with
            | val d => exact hp
            | own d => exact hp
            | bor i =>
              unfold still at hs
              simp only [decide_eq_true_eq] at hs
              unfold Sk.peek at hp ⊢
              simp only at hp ⊢
              rw [← hs]
              exact hp
          · cases h
        · cases h
      · cases h
    · cases h
  · cases h
theorem s_meth {m : Me} {o e : Expr} {es : List Expr} {x y : Ex} {ys : List Ex} {f : Str} {apos : Pos} (hu : X.A.units + 64 < cLine) (ho : PE X o (tE K (evE c x))) (hf : f = meN m) (hb : plainBase o = true) (hn : noStars (e :: es) = true) (hl : (e :: es).length < 30)
    (hline : (apos.endLine == pos.line) = true) (ha : PA X (e :: es) (tA K (evA c (y :: ys)))) : PE X (.Call (.Attribute o f apos) (e :: es) [] pos) (tE K (evE c (.meth m x (y :: ys)))) := by
  have go : ∀ σ H Q, tE K (evE c (.meth m x (y :: ys))) σ H Q → tBM X.K (meT m) (rMeth K m) (tE K (evE c x)) (tA K (evA c (y :: ys))) σ H Q := fun σ H Q ⟨w, s, I, r, s', hm, k⟩ => by
    obtain ⟨ro, s1, d, ds, h1, hp, h2, hp2, hr⟩ := meth_ev hm
    refine ⟨w, s, I, ro, s1, h1, fun w1 H1 v E1 I1 r1 => ⟨?_, ?_⟩⟩
    · have q := I1.peek r1 hp
      cases m with
      | join =>
        obtain ⟨y, ys, ts, rfl, _⟩ := meth_join hr
        cases q.str_
        rfl
      | split =>
        obtain ⟨y, z, rfl, _⟩ := meth_split hr
        cases q.str_
        rfl
      | get =>
        obtain ⟨kvs, kk, e, rfl, _⟩ := meth_get hr
        obtain ⟨a, rfl, h⟩ := q.dct_
        refine .inr (.inr (.inl ⟨rfl, ?_⟩))
        rcases h with ⟨kvs, e1, _⟩ | ⟨kvs, e1, _⟩
        · exact .inl ⟨_, e1⟩
        · exact .inr ⟨_, e1⟩
    · obtain ⟨w1', I1', back⟩ := keepR I1 r1
      refine ⟨w1', s1, I1', ds, s', h2, fun w2 H2 vs E2 I2 r2 => ?_⟩
      obtain ⟨w3, E3, I3, r3, _, q⟩ := back w2 H2 s' E2 I2
      exact ⟨w3, s', σ, d, ds, r, I3, I3.peek r3 hp2, r2.imp q, hr, fun w4 H4 z E4 I4 r5 => k w4 H4 z ((E1.trans E3).trans E4) I4 r5⟩
  have hs : starEach (e :: es) X.env = (false, eval e X.env) :: starEach es X.env := star_ok (by rw [noStars, Bool.and_eq_true] at hn; exact hn.1)
  have hn2 : noStars es = true := by rw [noStars, Bool.and_eq_true] at hn; exact hn.2
  have hM := o_meth (K := K) hu m
  subst hf
  cases m with
  | join => exact (pe_bm (cpos := pos) F.plainAttrs_str F.slot_str_join F.type_str_join hM ho ha (plainBase_ok hb _) (noStars_few hn hl) hline hs (noStars_any hn2)).imp go
  | split => exact (pe_bm (cpos := pos) F.plainAttrs_str F.slot_str_split F.type_str_split hM ho ha (plainBase_ok hb _) (noStars_few hn hl) hline hs (noStars_any hn2)).imp go
  | get => exact (pe_bm (cpos := pos) F.plainAttrs_dict F.slot_dict_get F.type_dict_get hM ho ha (plainBase_ok hb _) (noStars_few hn hl) hline hs (noStars_any hn2)).imp go
end
end Sk

end

section
set_option Elab.async false
set_option linter.all false
set_option maxRecDepth 100000
set_option maxHeartbeats 4000000
/-! SkL: changes of own lists, dict displays, list(range). -/
namespace Sk
open PySem PySem.Spec PyProof.Rows L2

section
variable {K : Cs} {w w' : Wd} {H H' : Hp} {s s' : S} {σ : L2.St}
/-- an own list or dict is written -/
theorem Sim.put_own (I : Sim K w s σ H) {i : Nat} {a : Addr} {d d' : D} {o : HO} (hi : s.ρ[i]? = some (.own d)) (ha : σ[i]? = some (some (.ref a))) (hc : Le w H w (upd H a o) → CAt w (upd H a o) a d') :
    Ext w H w (upd H a o) ∧ Sim K w { s with ρ := s.ρ.set i (.own d') } σ (upd H a o) := by
  have oa : OwnAt s σ w (.inl i) a := ⟨d, hi, ha⟩
  obtain ⟨f1, f2⟩ := I.fr _ a oa
  have nz : ∀ b, w.Z b → upd H a o b = H b := fun b z => upd_ne fun e => f1 (e ▸ z)
  have np : ∀ b, w.P b → upd H a o b = H b := fun b z => upd_ne fun e => f2 (e ▸ z)
  have le : Le w H w (upd H a o) := ⟨fun _ z => z, nz, fun _ _ => rfl, Nat.le_refl _⟩
  have lt : i < s.ρ.length := (List.getElem?_eq_some_iff.mp hi).1
  have back : ∀ {x b}, OwnAt { s with ρ := s.ρ.set i (.own d') } σ w x b → OwnAt s σ w x b := fun {x b} z => by
    cases x with
    | inl j =>
      obtain ⟨d2, z1, z2⟩ := z
      by_cases hj : i = j
      · subst hj
        exact ⟨d, hi, z2⟩
      · rw [List.getElem?_set_ne hj] at z1
        exact ⟨d2, z1, z2⟩
    | inr n => exact z
  have has : ∀ b, (∃ u, H b = some u) → ∃ u, upd H a o b = some u := fun b ⟨u, e⟩ => by
    by_cases hb : b = a
    · subst hb; exact ⟨o, upd_same⟩
    · exact ⟨u, by rw [upd_ne hb]; exact e⟩
  refine ⟨⟨le, np, rfl, rfl⟩, ⟨fun p h => VR.ext le (I.con p h), fun b z => has b (I.zd b z), fun b z => has b (I.pd b z), I.bp, I.zp, by rw [List.length_set]; exact I.len, fun j x q => ?_, I.mlen, fun n u q => ?_, fun x b q => I.fr x b (back q), fun x y b h1 h2 => I.inj x y b (back h1) (back h2)⟩⟩
  · by_cases hj : i = j
    · subst hj
      rw [List.getElem?_set_self lt] at q
      cases q
      exact ⟨_, ha, a, rfl, hc le⟩
    · rw [List.getElem?_set_ne hj] at q
      obtain ⟨v, q1, r⟩ := I.slot j x q
      refine ⟨v, q1, ?_⟩
      cases x with
      | un => trivial
      | val d2 => obtain ⟨y, q2, r⟩ := r; exact ⟨y, q2, VR.ext le r⟩
      | own d2 =>
        obtain ⟨b, q2, r⟩ := r
        subst q2
        have hb : b ≠ a := fun e => by
          subst e
          have z := I.inj (.inl j) (.inl i) b ⟨d2, q, q1⟩ oa
          cases z
          exact hj rfl
        exact ⟨b, rfl, r.ext le (upd_ne hb)⟩
      | bor d2 => obtain ⟨b, q2, hb, r⟩ := r; exact ⟨b, q2, hb, r.ext le (np b (I.bp b hb))⟩
  · have q2 := I.mo n u q
    have hn : n < w.n := by rw [← I.mlen]; exact (List.getElem?_eq_some_iff.mp q).1
    have hb : w.ι n ≠ a := fun e => by
      have z := I.inj (.inr n) (.inl i) a ⟨hn, e⟩ oa
      cases z
    exact q2.ext le (upd_ne hb)
theorem VRs.dropLast : ∀ {ds : List D} {vs : List V}, VRs w H ds vs → VRs w H ds.dropLast vs.dropLast
  | _, _, .nil => .nil
  | _, _, .cons _ .nil => .nil
  | _, _, .cons h (.cons h2 t) => .cons h (VRs.dropLast (.cons h2 t))
theorem VRs.erase : ∀ {ds : List D} {vs : List V} (i : Nat), VRs w H ds vs → VRs w H (ds.eraseIdx i) (vs.eraseIdx i)
  | _, _, _, .nil => .nil
  | _, _, 0, .cons _ t => t
  | _, _, i + 1, .cons h t => .cons h (VRs.erase i t)
end

section
variable {X : Cx} {K : Cs} {c : Ctx} {pos : Pos}
/-- xs.extend(t), t a tuple -/
theorem ext_tupW (l b : Addr) (items items2 : Array Value) (n n2 : Nat) (dd2 : Option Addr) (sl2 : Array (Option Value)) (hs0 : ¬(!items.isEmpty && Builtin.List.listTooLong (items.size + items2.size)) = true) (hs1 : items.size ≤ sizeLine) (hs2 : items.size + items2.size ≤ sizeLine + 1) :
    Meets (Builtin.«list.extend» ⟨[.ref l, .ref b], []⟩) (fun _ R s => s.heap.get? l = some { cls := .type "list", dict := none, data := .seq items n, slots := #[] } ∧ s.heap.get? b = some { cls := .type "tuple", dict := dd2, data := .seq items2 n2, slots := sl2 } ∧ R (.ok (.ret Value.none)) { s with heap := s.heap.update l (Obj.mapSeq fun x => x ++ items2), toks := s.toks }) :=
  .of_wp fun prog w A R s h => by
    obtain ⟨hp, g, d, tk, os⟩ := s; obtain ⟨hl, hb, h⟩ := h; have f1 := AutoSeq1.idx_int; have f2 := AutoSeq1.sub_tuple_tuple; have f3 := AutoSeq1.sub_list_list; have f4 := AutoSeq1.sub_tuple_list; have f5 := AutoSeq1.sub_list_tuple;
    have hz' : (items ++ items2).size ≤ sizeLine + 1 := by rw [Array.size_append]; exact hs2
    wp_walk using (wpAny_updateSeq hl rfl (hz := hs1) (_hz' := hz')), AutoSeq1.wpAny_loadPart' hl, AutoSeq1.wpAny_loadPart' hb; exact ⟨_, rfl, h⟩
def rExtT : V → List V → Hp → VK → Prop := fun x vs H Q => ∃ l b xs zs, x = .ref l ∧ vs = [.ref b] ∧ H l = some (.lst xs) ∧ H b = some (.tup zs) ∧ xs.length + zs.length ≤ sizeLine ∧ Q .non (upd H l (.lst (xs ++ zs)))
theorem mt_extT : MtR X "list.extend" rExtT := by
  intro pins s σ H x vs v us Q I rx rv h
  obtain ⟨l, b, xs, zs, rfl, rfl, hH, hB, hz, q⟩ := h
  cases rx
  obtain ⟨u, rfl, ru⟩ := rv.one
  cases ru
  obtain ⟨z, its, n, r, hl, e⟩ := I.lstM hH
  obtain ⟨z2, its2, r2, ⟨cls2, dd2, data2, sl2⟩, e2, hc2, n2, hd2⟩ := I.hok b _ hB
  simp only at hc2 hd2
  subst hc2 hd2
  have hl2 := r2.length
  have hsz : its.toArray.size + its2.toArray.size ≤ sizeLine := by rw [List.size_toArray, List.size_toArray]; omega
  have hlong : ¬ (!its.toArray.isEmpty && Builtin.List.listTooLong (its.toArray.size + its2.toArray.size)) = true := by
    rw [notLongL hsz, Bool.and_false]
    exact Bool.false_ne_true
  refine call_meets F.slot_list_extend ⟨_, e, rfl⟩ F.entry_list_extend (F.args_list_extend_2 _ _)
    (ext_tupW l b its.toArray its2.toArray n n2 dd2 sl2 hlong (by rw [List.size_toArray]; omega) (by omega)) ⟨e, e2, ?_⟩
  refine ⟨.non, _, I.lset (its' := its ++ its2) hH e (by simp) (r.append r2) ?_, rfl, q⟩
  rw [List.length_append]
  omega
/-- such a change: the list's address, its items ahead and behind, the result -/
def rMut (m : Mu) : V → List V → Hp → VK → Prop := fun x xs H Q => ∃ (w : Wd) (a : Addr) (vs : List V) (ds es ys : List D) (d : D), x = .ref a ∧ H a = some (.lst vs) ∧ VRs w H ds vs ∧ VRs w H es xs ∧ mutD m ds es = .ok (d, ys) ∧
  ∀ us v, VRs w H ys us → VR w H d v → Q v (upd H a (.lst us))
def muI : Mu → String
  | .append => "list.append"
  | .extend => "list.extend"
  | .pop => "list.pop"
  | .popi => "list.pop"
def muN : Mu → Str
  | .append => "append"
  | .extend => "extend"
  | .pop => "pop"
  | .popi => "pop"
theorem o_mut : ∀ m : Mu, MtR X (muI m) (rMut m) := by
  intro m pins s' σ' H x xs v us Q I rx rs h
  obtain ⟨w, a, vs, ds, es, ys, d, rfl, hH, r1, r2, e, k⟩ := h
  cases m with
  | append =>
    show wpAny _ _ (call (.builtin "list.append") _) _ _ _
    match es, e, r2 with
    | [d1], e, r2 =>
      simp only [mutD] at e
      split at e <;> cases e
      rename_i hz
      cases r2 with
      | cons h1 t1 =>
        cases t1
        refine mt_append pins s' σ' H _ _ v us Q I rx rs ⟨a, vs, _, rfl, rfl, hH, ?_, k _ _ (r1.append (.cons h1 .nil)) .non⟩
        rw [← r1.length, ← sz_eq]
        exact hz
    | [], e, r2 => cases e
    | _ :: _ :: _, e, r2 => simp [mutD] at e
  | extend =>
    show wpAny _ _ (call (.builtin "list.extend") _) _ _ _
    match es, e, r2 with
    | [d1], e, r2 =>
      cases r2 with
      | cons h1 t1 =>
        cases t1
        cases d1 with
        | lst zs =>
          simp only [mutD] at e
          split at e <;> cases e
          rename_i hz
          obtain ⟨p, us', rfl, e1, r3⟩ := (show PVR w H (.lst zs) _ from .inl h1).lst_
          refine mt_extend pins s' σ' H _ _ v us Q I rx rs ⟨a, p, vs, us', rfl, rfl, hH, e1, ?_, k _ _ (r1.append r3) .non⟩
          rw [← r1.length, ← r3.length, ← sz_eq]
          exact hz
        | tup zs =>
          simp only [mutD] at e
          split at e <;> cases e
          rename_i hz
          obtain ⟨p, us', rfl, _, e1, r3⟩ := (show PVR w H (.tup zs) _ from .inl h1).tup_
          refine mt_extT pins s' σ' H _ _ v us Q I rx rs ⟨a, p, vs, us', rfl, rfl, hH, e1, ?_, k _ _ (r1.append r3) .non⟩
          rw [← r1.length, ← r3.length, ← sz_eq]
          exact hz
        | _ => cases e
    | [], e, r2 => cases e
    | _ :: _ :: _, e, r2 => simp [mutD] at e
  | pop =>
    show wpAny _ _ (call (.builtin "list.pop") _) _ _ _
    match es, e, r2 with
    | [], e, r2 =>
      simp only [mutD] at e
      split at e <;> cases e
      rename_i hz
      cases r2
      obtain ⟨y, hy, ry⟩ := r1.get hz
      rw [r1.length] at hy
      exact mt_pop pins s' σ' H _ _ v us Q I rx rs ⟨a, vs, y, rfl, rfl, hH, hy, k _ _ r1.dropLast ry⟩
    | _ :: _, e, r2 => cases e
  | popi =>
    show wpAny _ _ (call (.builtin "list.pop") _) _ _ _
    match es, e, r2 with
    | [.int i], e, r2 =>
      simp only [mutD] at e
      split at e
      · rename_i hi
        split at e <;> cases e
        rename_i hz
        cases r2 with
        | cons h1 t1 =>
          cases t1
          cases h1
          obtain ⟨y, hy, ry⟩ := r1.get hz
          obtain ⟨z, _⟩ := I.hok a _ hH
          have hl : i.toNat < vs.length := (List.getElem?_eq_some_iff.mp hy).1
          have h63 := line63
          refine mt_popAt pins s' σ' H _ _ v us Q I rx rs ⟨a, vs, i, i.toNat, y, rfl, rfl, hH, by omega, by omega, seqIndex_of hi (by omega), hy, k _ _ (r1.erase _) ry⟩
      · cases e
    | [], e, r2 => cases e
    | _ :: _ :: _, e, r2 => simp [mutD] at e
    | [.non], e, r2 => cases e
    | [.bl _], e, r2 => cases e
    | [.str _], e, r2 => cases e
    | [.tup _], e, r2 => cases e
    | [.lst _], e, r2 => cases e
    | [.dct _], e, r2 => cases e
    | [.ref _], e, r2 => cases e
theorem mut_ev {m : Mu} {i : Nat} {es : List Ex} {s s' : S} {r : RV} (h : evE c (.mut m i es) s = .ok (r, s')) : ∃ xs0 ds s1 xs d ys, slotAt s i = .own (.lst xs0) ∧ evA c es s = .ok (ds, s1) ∧ slotAt s1 i = .own (.lst xs) ∧ mutD m xs ds = .ok (d, ys) ∧
    r = .val d ∧ s' = { s1 with ρ := s1.ρ.set i (.own (.lst ys)) } := by
  rw [evE] at h
  split at h
  · rename_i xs0 h0
    split at h
    · rename_i ds s1 h1
      split at h
      · rename_i xs h2
        split at h
        · rename_i d ys h3
          cases h
          exact ⟨_, _, _, _, _, _, h0, h1, h2, h3, rfl, rfl⟩
        · cases h
      · cases h
    · cases h
  · cases h
theorem mut_fin {m : Mu} {i : Nat} {w1 : Wd} {H1 : Hp} {σ : L2.St} {Q : VK} {s1 : S} {xs ys' ds : List D} {d : D} {a : Addr} {vs' : List V} (I1 : Sim K w1 s1 σ H1) (h2 : slotAt s1 i = .own (.lst xs)) (hs : σ[i]? = some (some (.ref a))) (hm : mutD m xs ds = .ok (d, ys')) (r1 : VRs w1 H1 ds vs')
    (k : ∀ w' H' v, Ext w1 H1 w' H' → Sim K w' { s1 with ρ := s1.ρ.set i (.own (.lst ys')) } σ H' → RVR w' { s1 with ρ := s1.ρ.set i (.own (.lst ys')) } σ H' (.val d) v → Q v H') : rMut m (.ref a) vs' H1 Q := by
  have hi := slotAt_some h2 (by simp)
  obtain ⟨u, q1, b, q2, ⟨vs0, q3, r3⟩⟩ := I1.slot i _ hi
  rw [hs] at q1
  cases q1
  cases q2
  refine ⟨w1, a, vs0, xs, ds, ys', d, rfl, q3, r3, r1, hm, fun us v ru rv => ?_⟩
  obtain ⟨E2, I2⟩ := I1.put_own (o := .lst us) (d' := .lst ys') hi hs fun le => ⟨us, upd_same, VRs.ext le ru⟩
  exact k w1 _ v E2 I2 (VR.ext E2.toLe rv)
theorem s_pop {i : Nat} {x : Str} {f : Str} {p apos : Pos} (hN : X.N[i]? = some x) (hv : Vis X.env.scope x) (hd : (x == ("__debug__" : Str)) = false) (hcd : (x == ("__classdict__" : Str)) = false)
    (hf : f = muN .pop) (hline : (apos.endLine == pos.line) = true) : PE X (.Call (.Attribute (.Name x p) f apos) [] [] pos) (tE K (evE c (.mut .pop i []))) := by
  have ho : PE X (.Name x p) (tVar i) := pe_var (pos := p) hN hv hd hcd
  subst hf
  refine (pe_bm0 (cpos := pos) F.plainAttrs_list F.slot_list_pop F.type_list_pop (o_mut .pop) ho (plainBase_ok rfl _) hline).imp fun σ H Q ⟨w, s, I, r, s', hm, k⟩ => ?_
  obtain ⟨xs0, ds, s1, xs, d, ys', h0, h1, h2, h3, rfl, rfl⟩ := mut_ev hm
  rw [evA] at h1
  cases h1
  obtain ⟨u, q1, a, q2, ⟨vs0, q3, _⟩⟩ := I.slot i _ (slotAt_some h0 (by simp))
  subst q2
  exact ⟨_, q1, .inl ⟨rfl, vs0, .of q3⟩, mut_fin I h2 q1 h3 .nil fun w' H' v E' I' r' => k w' H' v E' I' r'⟩
theorem s_mut {m : Mu} {i : Nat} {x : Str} {e : Expr} {es : List Expr} {ys : List Ex} {f : Str} {p apos : Pos} (hN : X.N[i]? = some x) (hv : Vis X.env.scope x) (hd : (x == ("__debug__" : Str)) = false) (hcd : (x == ("__classdict__" : Str)) = false)
    (hf : f = muN m) (hn : noStars (e :: es) = true) (hl : (e :: es).length < 30) (hline : (apos.endLine == pos.line) = true) (ha : PA X (e :: es) (tA K (evA c ys))) : PE X (.Call (.Attribute (.Name x p) f apos) (e :: es) [] pos) (tE K (evE c (.mut m i ys))) := by
  have ho : PE X (.Name x p) (tVar i) := pe_var (pos := p) hN hv hd hcd
  subst hf
  have go : ∀ σ H Q, tE K (evE c (.mut m i ys)) σ H Q → tBM X.K "list" (rMut m) (tVar i) (tA K (evA c ys)) σ H Q := fun σ H Q ⟨w, s, I, r, s', hm, k⟩ => by
    obtain ⟨xs0, ds, s1, xs, d, ys', h0, h1, h2, h3, rfl, rfl⟩ := mut_ev hm
    obtain ⟨u, q1, a, q2, ⟨vs0, q3, _⟩⟩ := I.slot i _ (slotAt_some h0 (by simp))
    subst q2
    refine ⟨_, q1, .inl ⟨rfl, vs0, .of q3⟩, w, s, I, ds, s1, h1, fun w1 H1 vs E1 I1 r1 => ?_⟩
    exact mut_fin I1 h2 q1 h3 r1 fun w' H' v E' I' r' => k w' H' v (E1.trans E') I' r'
  have hs : starEach (e :: es) X.env = (false, eval e X.env) :: starEach es X.env := star_ok (by rw [noStars, Bool.and_eq_true] at hn; exact hn.1)
  have hn2 : noStars es = true := by rw [noStars, Bool.and_eq_true] at hn; exact hn.2
  cases m with
  | append => exact (pe_bm (cpos := pos) F.plainAttrs_list F.slot_list_append F.type_list_append (o_mut .append) ho ha (plainBase_ok rfl _) (noStars_few hn hl) hline hs (noStars_any hn2)).imp go
  | extend => exact (pe_bm (cpos := pos) F.plainAttrs_list F.slot_list_extend F.type_list_extend (o_mut .extend) ho ha (plainBase_ok rfl _) (noStars_few hn hl) hline hs (noStars_any hn2)).imp go
  | pop => exact (pe_bm (cpos := pos) F.plainAttrs_list F.slot_list_pop F.type_list_pop (o_mut .pop) ho ha (plainBase_ok rfl _) (noStars_few hn hl) hline hs (noStars_any hn2)).imp go
  | popi => exact (pe_bm (cpos := pos) F.plainAttrs_list F.slot_list_pop F.type_list_pop (o_mut .popi) ho ha (plainBase_ok rfl _) (noStars_few hn hl) hline hs (noStars_any hn2)).imp go
end
end Sk

end

section
set_option Elab.async false
set_option linter.all false
set_option maxRecDepth 100000
set_option maxHeartbeats 4000000
/-! SkM: what is walked; names stored. -/
namespace Sk
open PySem PySem.Spec PyProof.Rows L2

/-! ### what stays -/
structure Kp (w : Wd) (H : Hp) (w' : Wd) (H' : Hp) : Prop extends Le w H w' H' where
  eqb : ∀ a, w.B a → H' a = H a
  sub : ∀ a, w.B a → w'.B a
theorem Ext.kp {w w' : Wd} {H H' : Hp} (hb : ∀ a, w.B a → w.P a) (e : Ext w H w' H') : Kp w H w' H' := ⟨e.toLe, fun a h => e.eqp a (hb a h), fun a h => by rw [e.b]; exact h⟩
theorem Kp.refl (w : Wd) (H : Hp) : Kp w H w H := ⟨(Ext.refl w H).toLe, fun _ _ => rfl, fun _ h => h⟩
theorem Kp.hold (w : Wd) (H : Hp) (p : Addr → Prop) : Kp w H (w.hold p) H := ⟨Wd.hold_le w p H, fun _ _ => rfl, fun _ h => h⟩
theorem Kp.of_free (w' w : Wd) (H : Hp) : Kp w' H (w'.free w) H := ⟨Wd.free_le w' w H, fun _ _ => rfl, fun _ h => h⟩
theorem Kp.trans {w w1 w2 : Wd} {H H1 H2 : Hp} (a : Kp w H w1 H1) (b : Kp w1 H1 w2 H2) : Kp w H w2 H2 :=
  ⟨⟨fun x h => b.z x (a.z x h), fun x h => (b.eq x (a.z x h)).trans (a.eq x h), fun n h => (b.ι n (Nat.lt_of_lt_of_le h a.n)).trans (a.ι n h), Nat.le_trans a.n b.n⟩,
    fun x h => (b.eqb x (a.sub x h)).trans (a.eqb x h), fun x h => b.sub x (a.sub x h)⟩

/-- d lies at v and stays: shared, or another's -/
def HoldR (w : Wd) (H : Hp) (d : D) (v : V) : Prop := VR w H d v ∨ ∃ a, v = .ref a ∧ w.B a ∧ CAt w H a d
section
variable {K : Cs} {w w' : Wd} {H H' : Hp} {s s' : S} {σ : L2.St}
theorem HoldR.pvr {d : D} {v : V} (h : HoldR w H d v) : PVR w H d v := h.imp id fun ⟨a, e, _, c⟩ => ⟨a, e, c⟩
theorem iterF_ok (I : Sim K w s σ H) {r : RV} {v : V} {d : D} {s2 : S} (h : RVR w s σ H r v) (e : iterF r s = .ok (d, s2)) : ∃ w2, Ext w H w2 H ∧ Sim K w2 s2 σ H ∧ HoldR w2 H d v := by
  have fr : freeze r s = .ok (d, s2) → ∃ w2, Ext w H w2 H ∧ Sim K w2 s2 σ H ∧ HoldR w2 H d v := fun q => by
    obtain ⟨w2, E, I2, r2⟩ := freeze_ok I h q
    exact ⟨w2, E, I2, .inl r2⟩
  cases r with
  | val d' => exact fr e
  | own d' => exact fr e
  | bor i =>
    unfold iterF at e
    unfold freeze at fr
    cases q : slotAt s i with
    | un => simp [q] at e
    | val d' => simp only [q] at e fr; exact fr e
    | own d' => simp only [q] at e fr; exact fr e
    | bor d' =>
      simp only [q] at e
      cases e
      have h : σ[i]? = some (some v) := h
      obtain ⟨u, h1, a, h2, hb, c⟩ := I.slot i _ (slotAt_some q (by simp))
      rw [h] at h1
      cases h1
      cases h2
      exact ⟨w, .refl w H, I, .inr ⟨a, rfl, hb, c⟩⟩
/-- the list, the tuple at a as it is from now on -/
theorem HoldR.lst {ds : List D} {v : V} (h : HoldR w H (.lst ds) v) : ∃ a vs, v = .ref a ∧ H a = some (.lst vs) ∧ VRs w H ds vs ∧ ∀ w' H', Kp w H w' H' → H' a = some (.lst vs) := by
  rcases h with h | ⟨a, rfl, hp, vs, e, r⟩
  · cases h with
    | lst z e r => exact ⟨_, _, rfl, e, r, fun w' H' k => (k.eq _ z).trans e⟩
  · exact ⟨a, vs, rfl, e, r, fun w' H' k => (k.eqb _ hp).trans e⟩
theorem HoldR.tup {ds : List D} {v : V} (h : HoldR w H (.tup ds) v) : ∃ a vs, v = .ref a ∧ H a = some (.tup vs) ∧ VRs w H ds vs ∧ ∀ w' H', Kp w H w' H' → H' a = some (.tup vs) := by
  rcases h with h | ⟨a, rfl, hp, c⟩
  · cases h with
    | tup z e r => exact ⟨_, _, rfl, e, r, fun w' H' k => (k.eq _ z).trans e⟩
  · exact c.elim
end
/-- what an iterator gives, as long as what is shared and held stays -/
structure Wlk (J : It) (w : Wd) (H : Hp) (xs : List D) : Prop where
  go : ∀ w' H' i, Kp w H w' H' → i < xs.length → J.go i H'
  stop : ∀ w' H', Kp w H w' H' → J.stop xs.length H'
  yld : ∀ w' H' i x H2, Kp w H w' H' → J.yld i H' x H2 → H2 = H' ∧ ∀ d, xs[i]? = some d → VR w' H' d x
section
variable {Kf : PySem.W.Frag} {w : Wd} {H : Hp}
theorem sql_eq {H' : Hp} {a : Addr} {vs ys : List V} (h : H' a = some (.lst vs)) : Rd H' a (.lst ys) → ys = vs := fun q => by
  rcases q with q | ⟨o, q⟩ <;> rw [h] at q <;> cases q
  rfl
theorem sqt_eq {H' : Hp} {a : Addr} {vs ys : List V} (h : H' a = some (.tup vs)) : Rd H' a (.tup ys) → ys = vs := fun q => by
  rcases q with q | ⟨o, q⟩ <;> rw [h] at q <;> cases q
  rfl
theorem Wlk.list {ds : List D} {a : Addr} {vs : List V} (r : VRs w H ds vs) (st : ∀ w' H', Kp w H w' H' → H' a = some (.lst vs)) : Wlk (Itl Kf a) w H ds := by
  refine ⟨fun w' H' i k hi => ?_, fun w' H' k => ⟨vs, .of (st w' H' k), by rw [r.length]; exact Nat.le_refl _⟩, fun w' H' i x H2 k y => ⟨y.1, fun d hd => ?_⟩⟩
  · rw [r.length] at hi
    exact ⟨vs, vs[i], .of (st w' H' k), by simp [hi]⟩
  · obtain ⟨v, e, rv⟩ := (VRs.ext k.toLe r).get hd
    have q := y.2 vs (.of (st w' H' k))
    rw [e] at q
    cases q
    exact rv
theorem Wlk.tup {ds : List D} {a : Addr} {vs : List V} (r : VRs w H ds vs) (st : ∀ w' H', Kp w H w' H' → H' a = some (.tup vs)) : Wlk (Itt Kf a) w H ds := by
  refine ⟨fun w' H' i k hi => ?_, fun w' H' k => ⟨vs, .of (st w' H' k), by rw [r.length]; exact Nat.le_refl _⟩, fun w' H' i x H2 k y => ⟨y.1, fun d hd => ?_⟩⟩
  · rw [r.length] at hi
    exact ⟨vs, vs[i], .of (st w' H' k), by simp [hi]⟩
  · obtain ⟨v, e, rv⟩ := (VRs.ext k.toLe r).get hd
    have q := y.2 vs (.of (st w' H' k))
    rw [e] at q
    cases q
    exact rv
theorem Wlk.rng {lo : Int} {n : Nat} : Wlk (Itr lo n) w H ((List.range n).map fun (k : Nat) => .int (lo + (k : Int))) := by
  have hl : ((List.range n).map fun (k : Nat) => D.int (lo + (k : Int))).length = n := by simp
  refine ⟨fun w' H' i k hi => by rw [hl] at hi; exact hi, fun w' H' k => by rw [hl]; exact Nat.le_refl _, fun w' H' i x H2 k y => ⟨y.1, fun d hd => ?_⟩⟩
  rw [List.getElem?_map] at hd
  obtain ⟨j, hj, rfl⟩ := Option.map_eq_some_iff.mp hd
  rcases y with ⟨_, rfl⟩
  have hi := (List.getElem?_eq_some_iff.mp hj).1
  rw [List.length_range] at hi
  rw [List.getElem?_range hi] at hj
  cases hj
  exact .int _
theorem Wlk.str {x : List Nat} : Wlk (Its ⟨x.toArray⟩) w H (x.map fun c => .str [c]) := by
  refine ⟨fun w' H' i k hi => ?_, fun w' H' k => ?_, fun w' H' i v H2 k y => ⟨y.1, fun d hd => ?_⟩⟩
  · rw [List.length_map] at hi
    show i < x.toArray.size
    simpa using hi
  · rw [List.length_map]
    show x.toArray.size ≤ x.length
    simp
  · obtain ⟨_, c, hc, rfl⟩ := y
    rw [List.getElem?_map] at hd
    obtain ⟨j, hj, rfl⟩ := Option.map_eq_some_iff.mp hd
    have e : x[i]? = some c := by simpa using hc
    rw [e] at hj
    cases hj
    exact .str [c]
end
/-- the iterable's judgement; lb: the length is bounded -/
def tI (K : Cs) (lb : Bool) (m : S → Rs (List D)) : TI := fun σ H R => ∃ w s, Sim K w s σ H ∧ ∃ xs s1, m s = .ok (xs, s1) ∧ ∀ w' H' J, Ext w H w' H' → Sim K w' s1 σ H' → Wlk J w' H' xs → (lb = true → xs.length ≤ sizeLine) → R J H'
section
variable {X : Cx} {K : Cs} {c : Ctx} {pos : Pos} {tg : Expr}
def iAny (Kf : PySem.W.Frag) (tl : TE) : TI := fun σ H R => tl σ H fun x H1 => (∃ a vs, x = .ref a ∧ SqL Kf H1 a vs ∧ (vs.length ≤ sizeLine → R (Itl Kf a) H1)) ∨ (∃ a vs, x = .ref a ∧ SqT Kf H1 a vs ∧ (vs.length ≤ sizeLine → R (Itt Kf a) H1)) ∨ ∃ z, x = .str z ∧ R (Its z) H1
theorem pi_any {l : Expr} {tl : TE} (hl : PE X l tl) : PI X tg l (iAny X.K tl) := by
  refine ⟨fun pins s σ H R I h => ?_⟩
  refine thn (hl.run pins s σ H _ I h) fun v s1 ⟨x, H1, I1, r1, q1⟩ => ?_
  rcases q1 with ⟨a, vs, e, hq, q⟩ | ⟨a, vs, e, hq, q⟩ | ⟨z, e, q⟩
  · subst e
    cases r1
    obtain ⟨its, rv, p, hz⟩ := I1.list hq
    refine wpAny_pyIter_list p.isList ?_
    refine ⟨s1.heap.objs.size, [s1.heap.objs.size], _, _, H1, rfl, I1.kept (t' := s1.toks) fun b o e => Heap.get?_push_of_some _ e, turn_list a _, ⟨_, Heap.get?_push_size _ rfl, rfl, rfl⟩, fun b hb => ?_, q hz⟩
    have e : b = s1.heap.objs.size := by simpa using hb
    subst e
    exact I1.fpOk (Nat.le_refl _) (I1.hok.fresh (Nat.le_refl _))
  · subst e
    cases r1
    obtain ⟨its, rv, p, hz⟩ := I1.tuple hq
    refine wpAny_pyIter_tuple (show s1.heap.IsTuple a its.toArray from p) ?_
    refine ⟨s1.heap.objs.size, [s1.heap.objs.size], _, _, H1, rfl, I1.kept (t' := s1.toks) fun b o e => Heap.get?_push_of_some _ e, turn_tuple a _, ⟨_, Heap.get?_push_size _ rfl, rfl, rfl⟩, fun b hb => ?_, q hz⟩
    have e : b = s1.heap.objs.size := by simpa using hb
    subst e
    exact I1.fpOk (Nat.le_refl _) (I1.hok.fresh (Nat.le_refl _))
  · subst e
    obtain ⟨t, rfl⟩ := r1
    cases ha : z.cps.all (· < 128)
    · exact wpAny_pyIter_wide ha (pi_one (tk := s1.toks) I1 _ (turn_str _ z t "str_iterator" (.inr rfl)) ⟨_, Heap.get?_push_size _ rfl, rfl, rfl⟩ q)
    · exact wpAny_pyIter_ascii ha (pi_one (tk := s1.toks) I1 _ (turn_str _ z t "str_ascii_iterator" (.inl rfl)) ⟨_, Heap.get?_push_size _ rfl, rfl, rfl⟩ q)
theorem _root_.L2.PI.imp {X : Cx} {tg e : Expr} {t t' : TI} (h : PI X tg e t) (i : ∀ σ H R, t' σ H R → t σ H R) : PI X tg e t' := ⟨fun pins s σ H R I q => h.run pins s σ H R I (i σ H R q)⟩
theorem iterR_ok {items : D → Except Er (List D)} {m : Rs RV} {xs : List D} {s2 : S} (h : iterR items m = .ok (xs, s2)) : ∃ r s1 d, m = .ok (r, s1) ∧ iterF r s1 = .ok (d, s2) ∧ items d = .ok xs := by
  cases m with
  | error e => cases h
  | ok p =>
    obtain ⟨r, s1⟩ := p
    simp only [iterR] at h
    split at h
    · rename_i d s3 h1
      split at h
      · rename_i ys h2
        cases h
        exact ⟨r, s1, d, rfl, h1, h2⟩
      · cases h
    · cases h
def itms : Bool → D → Except Er (List D)
  | true => itemsC
  | false => itemsD
theorem s_iter {e : Expr} {x : Ex} {lb : Bool} (h : PE X e (tE K (evE c x))) : PI X tg e (tI K lb fun s => iterR (itms lb) (evE c x s)) :=
  (pi_any h).imp fun σ H R ⟨w, s, I, xs, s2, hm, k⟩ => by
    obtain ⟨r, s1, d, h1, h2, h3⟩ := iterR_ok hm
    refine ⟨w, s, I, r, s1, h1, fun w1 H1 v E1 I1 r1 => ?_⟩
    obtain ⟨w2, E2, I2, r2⟩ := iterF_ok I1 r1 h2
    have h3' : itemsD d = .ok xs ∧ (lb = true → ∀ z, d = .str z → z.length ≤ sizeLine) := by
      cases lb with
      | false => exact ⟨h3, fun h => by cases h⟩
      | true =>
        have h3 : itemsC d = .ok xs := h3
        cases d <;> simp only [itemsC] at h3 <;> first
          | exact ⟨h3, fun _ z e => by cases e⟩
          | skip
        split at h3 <;> cases h3
        rename_i hz
        exact ⟨rfl, fun _ z e => by cases e; rw [← sz_eq]; exact hz⟩
    obtain ⟨h3', hs⟩ := h3'
    cases d with
    | lst ds =>
      cases h3'
      obtain ⟨a, vs, rfl, e1, r3, st⟩ := r2.lst
      exact .inl ⟨a, vs, rfl, .of e1, fun hz => k w2 H1 _ (E1.trans E2) I2 (.list r3 st) fun _ => by rw [r3.length]; exact hz⟩
    | tup ds =>
      cases h3'
      obtain ⟨a, vs, rfl, e1, r3, st⟩ := r2.tup
      exact .inr (.inl ⟨a, vs, rfl, .of e1, fun hz => k w2 H1 _ (E1.trans E2) I2 (.tup r3 st) fun _ => by rw [r3.length]; exact hz⟩)
    | str z =>
      cases h3'
      cases r2.pvr.str_
      exact .inr (.inr ⟨_, rfl, k w2 H1 _ (E1.trans E2) I2 .str fun hb => by rw [List.length_map]; exact hs hb z rfl⟩)
    | _ => cases h3'
theorem rng_ev {es : List Ex} {lb : Bool} {s s2 : S} {xs : List D} (h : iterR (itms lb) (evE c (.rng es) s) = .ok (xs, s2)) : ∃ ds, evA c es s = .ok (ds, s2) ∧ rngD ds = .ok xs := by
  obtain ⟨r, s1, d, h1, h2, h3⟩ := iterR_ok h
  rw [evE] at h1
  split at h1
  · rename_i ds s3 h4
    split at h1 <;> cases h1
    rename_i ys h5
    cases h2
    refine ⟨ds, h4, ?_⟩
    rw [h5]
    cases lb <;> exact h3
  · cases h1
theorem rngD_ok {ds xs : List D} (h : rngD ds = .ok xs) : (∃ j, ds = [.int j] ∧ -4611686018427387904 ≤ j ∧ j ≤ 16777216 ∧ xs = (List.range j.toNat).map fun (k : Nat) => .int (k : Int)) ∨
    ∃ i j, ds = [.int i, .int j] ∧ (-16777216 ≤ i ∧ i ≤ 16777216 ∧ -16777216 ≤ j ∧ j ≤ 16777216 ∧ j - i ≤ 16777216) ∧ xs = (List.range (j - i).toNat).map fun (k : Nat) => .int (i + (k : Int)) := by
  unfold rngD at h
  split at h
  · split at h <;> cases h
    rename_i hj
    exact .inl ⟨_, rfl, hj.1, hj.2, rfl⟩
  · split at h <;> cases h
    rename_i hj
    exact .inr ⟨_, _, rfl, hj, rfl⟩
  · cases h
theorem evA_len {es : List Ex} : ∀ {s s' : S} {ds : List D}, evA c es s = .ok (ds, s') → ds.length = es.length := by
  induction es with
  | nil => intro s s' rs h; rw [evA] at h; cases h; rfl
  | cons e es ih =>
    intro s s' rs h
    rw [evA] at h
    split at h
    · split at h
      · split at h
        · rename_i h2
          cases h
          exact congrArg Nat.succ (ih h2)
        · cases h
      · cases h
    · cases h
theorem s_rng1 {e : Expr} {x : Ex} {f : Str} {p : Pos} {lb : Bool} (hf : f = "range") (hg : Gl X f) (hm : X.mg f = none) (hn : notStar e = true) (ha : PA X [e] (tA K (evA c [x]))) : PI X tg (.Call (.Name f p) [e] [] pos) (tI K lb fun s => iterR (itms lb) (evE c (.rng [x]) s)) := by
  subst hf
  refine (pi_range1 (p := p) (pos := pos) hg hm ha (star_ok hn)).imp fun σ H R ⟨w, s, I, xs, s2, hm, k⟩ => ?_
  obtain ⟨ds, h1, h2⟩ := rng_ev hm
  refine ⟨w, s, I, ds, s2, h1, fun w1 H1 vs E1 I1 r1 => ?_⟩
  rcases rngD_ok h2 with ⟨j, rfl, hj1, hj2, rfl⟩ | ⟨i, j, rfl, _⟩
  · cases r1 with
    | cons r t =>
      cases t
      cases r
      refine ⟨j, rfl, by omega, by omega, k w1 H1 _ E1 I1 ?_ fun _ => ?_⟩
      · have q : Wlk (Itr 0 j.toNat) w1 H1 ((List.range j.toNat).map fun (k : Nat) => .int (0 + (k : Int))) := .rng
        simpa using q
      · rw [List.length_map, List.length_range, sizeLine_eq]
        omega
  · have := evA_len h1
    simp at this
theorem s_rng2 {e e2 : Expr} {x y : Ex} {f : Str} {p : Pos} {lb : Bool} (hf : f = "range") (hg : Gl X f) (hm : X.mg f = none) (hn : notStar e = true) (hn2 : notStar e2 = true) (ha : PA X [e, e2] (tA K (evA c [x, y]))) : PI X tg (.Call (.Name f p) [e, e2] [] pos) (tI K lb fun s => iterR (itms lb) (evE c (.rng [x, y]) s)) := by
  subst hf
  have hs2 : starEach [e2] X.env = [(false, eval e2 X.env)] := star_ok hn2
  refine (pi_range2 (p := p) (pos := pos) hg hm ha (by rw [star_ok hn, hs2]) hs2).imp fun σ H R ⟨w, s, I, xs, s2, hm, k⟩ => ?_
  obtain ⟨ds, h1, h2⟩ := rng_ev hm
  refine ⟨w, s, I, ds, s2, h1, fun w1 H1 vs E1 I1 r1 => ?_⟩
  rcases rngD_ok h2 with ⟨j, rfl, _⟩ | ⟨i, j, rfl, ⟨h3, h4, h5, h6, h7⟩, rfl⟩
  · have := evA_len h1
    simp at this
  · cases r1 with
    | cons r t =>
      cases t with
      | cons r2 t =>
        cases t
        cases r
        cases r2
        refine ⟨i, j, rfl, ⟨by omega, by omega, by omega, by omega⟩, k w1 H1 _ E1 I1 .rng fun _ => ?_⟩
        rw [List.length_map, List.length_range, sizeLine_eq]
        omega

/-! ### list(range(..)) -/
theorem s_listr {f g : Str} {p p2 pos2 : Pos} {e : Expr} {x : Ex} (hc : X.calm = true) (hf : f = "list") (hgf : Gl X f) (hmf : X.mg f = none) (hg : g = "range") (hgg : Gl X g) (hmg : X.mg g = none) (hn : notStar e = true) (he : PE X e (tE K (evE c x))) :
    PE X (.Call (.Name f p) [.Call (.Name g p2) [e] [] pos2] [] pos) (tE K (evE c (.blt .listr (.rng [x])))) := by
  subst hf hg
  refine (pe_listRg (p := p) (pos := pos) hc hgf hmf (prg_1 (p := p2) (pos := pos2) hgg hmg he (star_ok hn)) (star_ok rfl)).imp fun σ H Q ⟨w, s, I, r, s', hm, k⟩ => ?_
  obtain ⟨ra, d, h1, hp, hr⟩ := blt_ev hm
  rw [evE] at h1
  split at h1
  · rename_i ds s3 h4
    split at h1 <;> cases h1
    rename_i xs h5
    cases hp
    rw [evA] at h4
    split at h4
    · rename_i r1 s1 h6
      split at h4
      · rename_i d1 s4 h7
        rw [evA] at h4
        cases h4
        rcases rngD_ok h5 with ⟨j, e1, hj1, hj2, rfl⟩ | ⟨i, j, e1, _⟩
        · cases e1
          refine ⟨w, s, I, r1, s1, h6, fun w1 H1 v E1 I1 q1 => ?_⟩
          obtain ⟨w2, E2, I2, r2⟩ := freeze_ok I1 q1 h7
          cases r2
          refine ⟨j, rfl, ⟨by omega, by omega, by omega, by omega, by omega⟩, fun t ht => ?_⟩
          have hr2 : bltD .listr (.lst ((List.range j.toNat).map fun (k : Nat) => .int (k : Int))) = .ok r := hr
          simp only [bltD] at hr2
          split at hr2 <;> cases hr2
          refine Cont.lst I2 (fun w3 H3 z E3 I3 r3 => k w3 H3 z ((E1.trans E2).trans E3) I3 r3) ht ?_
          unfold rgV
          have e0 : (j - 0).toNat = j.toNat := by congr 1; omega
          rw [e0]
          clear hr h5 hj1 hj2
          generalize List.range j.toNat = l
          induction l with
          | nil => exact .nil
          | cons a l ih =>
            refine .cons ?_ ih
            show VR w2 H1 (.int (a : Int)) (.int (0 + (a : Int)))
            rw [Int.zero_add]
            exact .int _
        · cases e1
      · cases h4
    · cases h4
  · cases h1
end

/-! ### names stored -/
section
variable {K : Cs} {w w' : Wd} {H H' : Hp} {s s' : S} {σ : L2.St}
theorem ownAt_set {i : Nat} {x : Sl} {v : Option V} {y : Nat ⊕ Nat} {a : Addr} (hx : ∀ d, x ≠ .own d) (h : OwnAt { s with ρ := s.ρ.set i x } (σ.set i v) w y a) : OwnAt s σ w y a ∧ y ≠ .inl i := by
  cases y with
  | inr n => exact ⟨h, fun e => by cases e⟩
  | inl j =>
    obtain ⟨d, h1, h2⟩ := h
    by_cases hj : i = j
    · subst hj
      rw [List.getElem?_set_self' ] at h1
      cases q : s.ρ[i]? with
      | none => rw [q] at h1; cases h1
      | some z => rw [q] at h1; cases h1; exact absurd rfl (hx d)
    · rw [List.getElem?_set_ne hj] at h1 h2
      exact ⟨⟨d, h1, h2⟩, fun e => hj (Sum.inl.inj e).symm⟩
theorem slot_set (I : Sim K w s σ H) {i : Nat} {x : Sl} {v : Option V} (hr : SlR w H x v) : ∀ (j : Nat) (y : Sl), (s.ρ.set i x)[j]? = some y → ∃ u : Option V, (σ.set i v)[j]? = some u ∧ SlR w H y u := fun j y h => by
  by_cases hj : i = j
  · subst hj
    have lt : i < s.ρ.length := by
      have := (List.getElem?_eq_some_iff.mp h).1
      rw [List.length_set] at this
      exact this
    rw [List.getElem?_set_self lt] at h
    cases h
    exact ⟨v, List.getElem?_set_self (by rw [← I.len]; exact lt), hr⟩
  · rw [List.getElem?_set_ne hj] at h ⊢
    exact I.slot j y h
/-- a shared or a lent value, or nothing, is stored -/
theorem Sim.set (I : Sim K w s σ H) {i : Nat} {x : Sl} {v : Option V} (hr : SlR w H x v) (hx : ∀ d, x ≠ .own d) : Sim K w { s with ρ := s.ρ.set i x } (σ.set i v) H :=
  ⟨I.con, I.zd, I.pd, I.bp, I.zp, by rw [List.length_set, List.length_set]; exact I.len, slot_set I hr, I.mlen, I.mo, fun y a h => I.fr y a (ownAt_set hx h).1, fun y z a h1 h2 => I.inj y z a (ownAt_set hx h1).1 (ownAt_set hx h2).1⟩
/-- a new list or dict is stored -/
theorem Sim.set_own (I : Sim K w s σ H) {i : Nat} {d : D} {v : V} (hr : RVR w s σ H (.own d) v) : Sim K w { s with ρ := s.ρ.set i (.own d) } (σ.set i (some v)) H := by
  obtain ⟨a, rfl, ca, n1, n2, n3⟩ := hr
  have sep : ∀ {y b}, OwnAt { s with ρ := s.ρ.set i (.own d) } (σ.set i (some (.ref a))) w y b → (y = .inl i ∧ b = a) ∨ OwnAt s σ w y b := fun {y b} h => by
    cases y with
    | inr n => exact .inr h
    | inl j =>
      obtain ⟨d2, h1, h2⟩ := h
      by_cases hj : i = j
      · subst hj
        rw [List.getElem?_set_self'] at h2
        cases q : σ[i]? with
        | none => rw [q] at h2; cases h2
        | some z => rw [q] at h2; cases h2; exact .inl ⟨rfl, rfl⟩
      · rw [List.getElem?_set_ne hj] at h1 h2
        exact .inr ⟨d2, h1, h2⟩
  refine ⟨I.con, I.zd, I.pd, I.bp, I.zp, by rw [List.length_set, List.length_set]; exact I.len, slot_set I ⟨a, rfl, ca⟩, I.mlen, I.mo, fun y b h => ?_, fun y z b h1 h2 => ?_⟩
  · rcases sep h with ⟨_, rfl⟩ | h
    · exact ⟨n1, n2⟩
    · exact I.fr y b h
  · rcases sep h1 with ⟨e1, e2⟩ | k1 <;> rcases sep h2 with ⟨e3, e4⟩ | k2
    · rw [e1, e3]
    · rw [e2] at k2
      exact absurd k2 (n3 _)
    · rw [e4] at k1
      exact absurd k1 (n3 _)
    · exact I.inj y z b k1 k2

theorem wipe_set {σ : L2.St} {i : Nat} {x : Option V} : ∀ {vs : List Nat}, i ∈ vs → L2.wipe (σ.set i x) vs = L2.wipe σ vs
  | [], h => by cases h
  | v :: vs, h => by
    unfold L2.wipe
    by_cases hi : i ∈ vs
    · rw [wipe_set hi]
    · have e : v = i := by
        rcases List.mem_cons.mp h with e | h
        · exact e.symm
        · exact absurd h hi
      subst e
      apply List.ext_getElem?
      intro j
      by_cases hj : v = j
      · subst hj
        rw [List.getElem?_set_self', List.getElem?_set_self', wipe_out hi, wipe_out hi, List.getElem?_set_self']
        cases σ[v]? <;> rfl
      · rw [List.getElem?_set_ne hj, List.getElem?_set_ne hj]
        by_cases hv : j ∈ vs
        · have e1 : ∀ {σ : L2.St} {vs : List Nat}, j ∈ vs → (L2.wipe σ vs)[j]? = if j < σ.length then some none else none := by
            intro σ vs
            induction vs with
            | nil => intro h; cases h
            | cons u us ih =>
              intro h
              unfold L2.wipe
              by_cases hu : u = j
              · subst hu
                rw [List.getElem?_set_self']
                by_cases hl : u < σ.length
                · rw [if_pos hl, List.getElem?_eq_getElem (by rw [wipe_length]; exact hl)]; rfl
                · rw [if_neg hl, List.getElem?_eq_none (by rw [wipe_length]; omega)]; rfl
              · rw [List.getElem?_set_ne hu]
                exact ih ((List.mem_cons.mp h).resolve_left fun e => hu e.symm)
          rw [e1 hv, e1 hv, List.length_set]
        · rw [wipe_out hv, wipe_out hv, List.getElem?_set_ne hj]
theorem wipe_at {j : Nat} {σ : L2.St} : ∀ {vs : List Nat}, j ∈ vs → (L2.wipe σ vs)[j]? = if j < σ.length then some none else none := by
  intro vs
  induction vs with
  | nil => intro h; cases h
  | cons u us ih =>
    intro h
    unfold L2.wipe
    by_cases hu : u = j
    · subst hu
      rw [List.getElem?_set_self']
      by_cases hl : u < σ.length
      · rw [if_pos hl, List.getElem?_eq_getElem (by rw [wipe_length]; exact hl)]; rfl
      · rw [if_neg hl, List.getElem?_eq_none (by rw [wipe_length]; omega)]; rfl
    · rw [List.getElem?_set_ne hu]
      exact ih ((List.mem_cons.mp h).resolve_left fun e => hu e.symm)
theorem wipe_wipe {σ : L2.St} {vs : List Nat} : L2.wipe (L2.wipe σ vs) vs = L2.wipe σ vs := by
  apply List.ext_getElem?
  intro j
  by_cases hj : j ∈ vs
  · rw [wipe_at hj, wipe_at hj, wipe_length]
  · rw [wipe_out hj]
end
/-- the names of a target -/
def tgs : Tg → List Nat
  | .nm i => [i]
  | .tp is => is
/-- what a target does with a shared value -/
def TgOk (K : Cs) (g : TG) (t : Tg) : Prop := ∀ {w : Wd} {s : S} {σ : L2.St} {H : Hp} {v : V} {d : D} {s' : S} {Q : L2.St → Hp → Prop}, Sim K w s σ H → VR w H d v → asgD t d s = .ok s' →
  (∀ σ', Sim K w s' σ' H → (∀ vs, (∀ i ∈ tgs t, i ∈ vs) → L2.wipe σ' vs = L2.wipe σ vs) → Q σ' H) → g v σ H Q
def gAll : List Nat → TGs
  | [] => gNil
  | i :: is => gCons (gName i) (gAll is)
theorem asgAll_ok {K : Cs} {w : Wd} {H : Hp} {Q : L2.St → Hp → Prop} : ∀ {is : List Nat} {ds : List D} {vs : List V} {s s' : S} {σ : L2.St}, Sim K w s σ H → VRs w H ds vs → asgAll is ds s = .ok s' →
    (∀ σ', Sim K w s' σ' H → (∀ us, (∀ i ∈ is, i ∈ us) → L2.wipe σ' us = L2.wipe σ us) → Q σ' H) → gAll is vs σ H Q ∧ vs.length = is.length
  | [], [], _, s, s', σ, I, .nil, e, k => by
    cases e
    exact ⟨⟨rfl, k σ I fun _ _ => rfl⟩, rfl⟩
  | [], d :: ds, _, s, s', σ, I, _, e, k => by cases e
  | i :: is, [], _, s, s', σ, I, _, e, k => by cases e
  | i :: is, d :: ds, _, s, s', σ, I, .cons (v := v) (vs := vs) r t, e, k => by
    have I2 := I.set (i := i) (x := .val d) (v := some v) ⟨v, rfl, r⟩ fun d h => by cases h
    obtain ⟨h1, h2⟩ := asgAll_ok I2 t e fun σ' I' h => k σ' I' fun us hu => by
      rw [h us fun j hj => hu j (List.mem_cons_of_mem _ hj), wipe_set (hu i List.mem_cons_self)]
    exact ⟨⟨v, vs, rfl, h1⟩, congrArg Nat.succ h2⟩
theorem tg_name {K : Cs} {i : Nat} : TgOk K (gName i) (.nm i) := fun {w s σ H v d s' Q} I r e k => by
  cases e
  exact k _ (I.set (i := i) (x := .val d) (v := some v) ⟨v, rfl, r⟩ fun d h => by cases h) fun vs h => wipe_set (h i List.mem_cons_self)
theorem tg_tup {K : Cs} {Kf : PySem.W.Frag} {is : List Nat} : TgOk K (gTup Kf is.length (gAll is)) (.tp is) := fun {w s σ H v d s' Q} I r e k => by
  cases d with
  | tup ds =>
    obtain ⟨a, vs, rfl, z, e1, r1⟩ := (show PVR w H (.tup ds) v from .inl r).tup_
    obtain ⟨h1, h2⟩ := asgAll_ok I r1 e k
    exact ⟨a, vs, rfl, .of e1, h2, h1⟩
  | _ => cases e
end Sk

end

section
set_option Elab.async false
set_option linter.all false
set_option maxRecDepth 100000
set_option maxHeartbeats 4000000
/-! SkN: comprehensions. -/
namespace Sk
open PySem PySem.Spec PyProof.Rows L2

theorem foldl_set {α : Type} (f : Nat → α) : ∀ (own : List Nat) (ρ : List α), (own.foldl (fun ρ i => ρ.set i (f i)) ρ).length = ρ.length ∧ ∀ j, (own.foldl (fun ρ i => ρ.set i (f i)) ρ)[j]? = if j ∈ own ∧ j < ρ.length then some (f j) else ρ[j]?
  | [], ρ => ⟨rfl, fun j => by simp⟩
  | i :: is, ρ => by
    obtain ⟨h1, h2⟩ := foldl_set f is (ρ.set i (f i))
    refine ⟨by rw [List.foldl_cons, h1, List.length_set], fun j => ?_⟩
    rw [List.foldl_cons, h2 j, List.length_set]
    by_cases hj : j ∈ is
    · by_cases hl : j < ρ.length
      · rw [if_pos ⟨hj, hl⟩, if_pos ⟨List.mem_cons_of_mem _ hj, hl⟩]
      · rw [if_neg (fun h => hl h.2), if_neg (fun h => hl h.2), List.getElem?_eq_none (by rw [List.length_set]; omega), List.getElem?_eq_none (by omega)]
    · rw [if_neg (fun h => hj h.1)]
      by_cases e : i = j
      · subst e
        by_cases hl : i < ρ.length
        · rw [if_pos ⟨List.mem_cons_self, hl⟩, List.getElem?_set_self hl]
        · rw [if_neg (fun h => hl h.2), List.getElem?_eq_none (by rw [List.length_set]; omega), List.getElem?_eq_none (by omega)]
      · rw [List.getElem?_set_ne e, if_neg]
        intro h
        rcases List.mem_cons.mp h.1 with h | h
        · exact e h.symm
        · exact hj h
theorem wipeS_len (own : List Nat) (s : S) : (wipeS own s).ρ.length = s.ρ.length := (foldl_set (fun _ => Sl.un) own s.ρ).1
theorem wipeS_get (own : List Nat) (s : S) (j : Nat) : (wipeS own s).ρ[j]? = if j ∈ own ∧ j < s.ρ.length then some .un else s.ρ[j]? := (foldl_set (fun _ => Sl.un) own s.ρ).2 j
theorem backS_len (own : List Nat) (s₀ s : S) : (backS own s₀ s).ρ.length = s.ρ.length := (foldl_set (fun i => s₀.ρ.getD i .un) own s.ρ).1
theorem backS_get (own : List Nat) (s₀ s : S) (j : Nat) : (backS own s₀ s).ρ[j]? = if j ∈ own ∧ j < s.ρ.length then some (s₀.ρ.getD j .un) else s.ρ[j]? := (foldl_set (fun i => s₀.ρ.getD i .un) own s.ρ).2 j
/-- what names of the block have outside of it -/
def POwn (s : S) (σ : L2.St) (w : Wd) (own : List Nat) (a : Addr) : Prop := ∃ i ∈ own, OwnAt s σ w (.inl i) a
section
variable {K : Cs} {w w' : Wd} {H H' : Hp} {s s' : S} {σ : L2.St} {own : List Nat}
theorem wipe_back {own : List Nat} {w₀ : Wd} {x : Nat ⊕ Nat} {a : Addr} (h : OwnAt (wipeS own s) (L2.wipe σ own) w x a) : OwnAt s σ w x a ∧ ∀ i ∈ own, x ≠ .inl i := by
  cases x with
  | inr n => exact ⟨h, fun i _ e => by cases e⟩
  | inl j =>
    obtain ⟨d, h1, h2⟩ := h
    have hj : j ∉ own := fun hj => by
      rw [wipe_at hj] at h2
      split at h2 <;> cases h2
    rw [wipe_out hj] at h2
    rw [wipeS_get, if_neg (fun h => hj h.1)] at h1
    exact ⟨⟨d, h1, h2⟩, fun i hi e => by cases e; exact hj hi⟩
/-- a block's names forgotten -/
theorem Sim.wiped (I : Sim K w s σ H) : Sim K w (wipeS own s) (L2.wipe σ own) H := by
  refine ⟨I.con, I.zd, I.pd, I.bp, I.zp, by rw [wipeS_len, wipe_length]; exact I.len, fun j x h => ?_, I.mlen, I.mo, fun x a h => I.fr x a (wipe_back (w₀ := w) h).1, fun x y a h1 h2 => I.inj x y a (wipe_back (w₀ := w) h1).1 (wipe_back (w₀ := w) h2).1⟩
  rw [wipeS_get] at h
  by_cases hj : j ∈ own
  · have hl : j < s.ρ.length := by
      refine Classical.byContradiction fun hl => ?_
      rw [if_neg (fun q => hl q.2), List.getElem?_eq_none (by omega)] at h
      cases h
    rw [if_pos ⟨hj, hl⟩] at h
    cases h
    refine ⟨none, ?_, trivial⟩
    rw [wipe_at hj, if_pos (by rw [← I.len]; exact hl)]
  · rw [if_neg (fun q => hj q.1)] at h
    rw [wipe_out hj]
    exact I.slot j x h
/-- at a block's start: what its names have outside is held -/
theorem Sim.wipe (I : Sim K w s σ H) : Sim K (w.hold (POwn s σ w own)) (wipeS own s) (L2.wipe σ own) H := by
  refine (I.wiped (own := own)).hold fun a ⟨i, hi, h⟩ => ⟨I.ownHas h, (I.fr _ a h).1, (I.fr _ a h).2, fun x hx => ?_⟩
  obtain ⟨h1, h2⟩ := wipe_back (w₀ := w) hx
  exact h2 i hi (I.inj x _ a h1 h)
/-- at its end -/
theorem Sim.back (I : Sim K w s σ H) (E : Ext (w.hold (POwn s σ w own)) H w' H') (I' : Sim K w' s' (L2.wipe σ own) H') : Sim K (w'.free w) (backS own s s') σ H' := by
  have le := Wd.free_le w' w H'
  have L0 : Le w H (w'.free w) H' := E.free.toLe
  have pw : ∀ a, w.P a → w'.P a := fun a q => by rw [E.p]; exact .inl q
  have po : ∀ a, POwn s σ w own a → w'.P a := fun a q => by rw [E.p]; exact .inr q
  have hlen : s'.ρ.length = s.ρ.length := by rw [I'.len, wipe_length, I.len]
  have slotIn : ∀ j ∈ own, ∀ x, (backS own s s').ρ[j]? = some x → s.ρ[j]? = some x := fun j hj x h => by
    rw [backS_get] at h
    have hl : j < s'.ρ.length := by
      refine Classical.byContradiction fun hl => ?_
      rw [if_neg (fun q => hl q.2), List.getElem?_eq_none (by omega)] at h
      cases h
    rw [if_pos ⟨hj, hl⟩] at h
    rw [← h, List.getElem?_eq_getElem (by omega), List.getD_eq_getElem?_getD, List.getElem?_eq_getElem (by omega)]
    rfl
  have slotOut : ∀ j, j ∉ own → (backS own s s').ρ[j]? = s'.ρ[j]? := fun j hj => by rw [backS_get, if_neg (fun q => hj q.1)]
  have own_ : ∀ {x a}, OwnAt (backS own s s') σ (w'.free w) x a → (POwn s σ w own a ∧ OwnAt s σ w x a ∧ ∃ i ∈ own, x = .inl i) ∨ OwnAt s' (L2.wipe σ own) w' x a := fun {x a} h => by
    cases x with
    | inr n => exact .inr h
    | inl j =>
      obtain ⟨d, h1, h2⟩ := h
      by_cases hj : j ∈ own
      · have q := slotIn j hj _ h1
        exact .inl ⟨⟨j, hj, d, q, h2⟩, ⟨d, q, h2⟩, j, hj, rfl⟩
      · rw [slotOut j hj] at h1
        exact .inr ⟨d, h1, by rw [wipe_out hj]; exact h2⟩
  refine ⟨fun p h => VR.ext le (I'.con p h), I'.zd, fun a q => I'.pd a (pw a q), fun a q => ?_, fun a z q => I'.zp a z (pw a q), ?_, fun j x h => ?_, I'.mlen, fun n o q => (I'.mo n o q).ext le rfl, fun x a h => ?_, fun x y a h1 h2 => ?_⟩
  · have q : w'.B a := q
    rw [E.b] at q
    exact I.bp a q
  · rw [backS_len, hlen]
    exact I.len
  · by_cases hj : j ∈ own
    · have q := slotIn j hj x h
      obtain ⟨v, q1, r⟩ := I.slot j x q
      refine ⟨v, q1, ?_⟩
      cases x with
      | un => trivial
      | val d => obtain ⟨y, q2, r⟩ := r; exact ⟨y, q2, VR.ext L0 r⟩
      | own d =>
        obtain ⟨a, q2, r⟩ := r
        subst q2
        exact ⟨a, rfl, r.ext L0 (E.eqp a (.inr ⟨j, hj, d, q, q1⟩))⟩
      | bor d =>
        obtain ⟨a, q2, hb, r⟩ := r
        refine ⟨a, q2, ?_, r.ext L0 (E.eqp a (.inl (I.bp a hb)))⟩
        show w'.B a
        rw [E.b]
        exact hb
    · rw [slotOut j hj] at h
      obtain ⟨v, q1, r⟩ := I'.slot j x h
      rw [wipe_out hj] at q1
      exact ⟨v, q1, r.ext le rfl fun _ _ q => q⟩
  · rcases own_ h with ⟨h1, h2, _⟩ | h
    · exact ⟨fun z => I'.zp a z (po a h1), (I.fr _ a h2).2⟩
    · have f := I'.fr x a h
      exact ⟨f.1, fun z => f.2 (pw a z)⟩
  · rcases own_ h1 with ⟨p1, k1, _⟩ | k1 <;> rcases own_ h2 with ⟨p2, k2, _⟩ | k2
    · exact I.inj x y a k1 k2
    · exact absurd (po a p1) (I'.fr y a k2).2
    · exact absurd (po a p2) (I'.fr x a k1).2
    · exact I'.inj x y a k1 k2
/-- a lone object written: nobody sees it -/
theorem Sim.lone (I : Sim K w s σ H) {a : Addr} {o : HO} (h : ¬ w.Z a ∧ ¬ w.P a ∧ ∀ x, ¬ OwnAt s σ w x a) : Ext w H w (upd H a o) ∧ Sim K w s σ (upd H a o) := by
  obtain ⟨n1, n2, n3⟩ := h
  have le : Le w H w (upd H a o) := ⟨fun _ z => z, fun b z => upd_ne fun e => n1 (e ▸ z), fun _ _ => rfl, Nat.le_refl _⟩
  have np : ∀ b, w.P b → upd H a o b = H b := fun b z => upd_ne fun e => n2 (e ▸ z)
  have has : ∀ b, (∃ u, H b = some u) → ∃ u, upd H a o b = some u := fun b ⟨u, e⟩ => by
    by_cases hb : b = a
    · subst hb; exact ⟨o, upd_same⟩
    · exact ⟨u, by rw [upd_ne hb]; exact e⟩
  refine ⟨⟨le, np, rfl, rfl⟩, fun p h => VR.ext le (I.con p h), fun b z => has b (I.zd b z), fun b z => has b (I.pd b z), I.bp, I.zp, I.len, fun j x q => ?_, I.mlen, fun n u q => ?_, I.fr, I.inj⟩
  · obtain ⟨v, q1, r⟩ := I.slot j x q
    refine ⟨v, q1, ?_⟩
    cases x with
    | un => trivial
    | val d2 => obtain ⟨y, q2, r⟩ := r; exact ⟨y, q2, VR.ext le r⟩
    | own d2 =>
      obtain ⟨b, q2, r⟩ := r
      subst q2
      exact ⟨b, rfl, r.ext le (upd_ne fun e => n3 (.inl j) (by subst e; exact ⟨d2, q, q1⟩))⟩
    | bor d2 => obtain ⟨b, q2, hb, r⟩ := r; exact ⟨b, q2, hb, r.ext le (np b (I.bp b hb))⟩
  · have hn : n < w.n := by rw [← I.mlen]; exact (List.getElem?_eq_some_iff.mp q).1
    exact (I.mo n u q).ext le (upd_ne fun e => n3 (.inr n) ⟨hn, e⟩)
end

/-! ### [elt for t in it if ..] -/
section
variable {X : Cx} {K : Cs} {c : Ctx} {pos : Pos}
/-- one turn -/
def lcF (c : Ctx) (own : List Nat) (t : Tg) (cs : List Ex) (elt : Ex) (x : D) (s2 : S) : Rs (Option D) := match asgD t x s2 with
  | .ok s3 => (match evC c cs s3 with
    | .ok (true, s4) => (match evE c elt s4 with
      | .ok (re, s5) => (match freeze re s5 with
        | .ok (d, s6) => .ok (some d, wipeS own s6)
        | .error e => .error e)
      | .error e => .error e)
    | .ok (false, s4) => .ok (none, wipeS own s4)
    | .error e => .error e)
  | .error e => .error e
theorem lc_ev {own : List Nat} {t : Tg} {it : Ex} {cs : List Ex} {elt : Ex} {s s' : S} {r : RV} (h : evE c (.lc own t it cs elt) s = .ok (r, s')) : ∃ xs s1 ds s7, iterR (itms true) (evE c it s) = .ok (xs, s1) ∧ lcLoop (lcF c own t cs elt) xs [] (wipeS own s1) = .ok (ds, s7) ∧ r = .own (.lst ds) ∧ s' = backS own s1 s7 := by
  rw [evE] at h
  split at h
  · rename_i xs s1 h1
    split at h
    · rename_i ds s7 h2
      cases h
      exact ⟨xs, s1, ds, s7, h1, h2, rfl, rfl⟩
    · cases h
  · cases h
/-- what a loop over lists does: the elements so far -/
structure LcSt (K : Cs) (w0 : Wd) (H0 : Hp) (D₀ : Addr) (σ : L2.St) (w : Wd) (s : S) (H : Hp) (acc : List D) : Prop where
  kp : Ext w0 H0 w H
  sim : Sim K w s σ H
  lone : ¬ w.Z D₀ ∧ ¬ w.P D₀ ∧ ∀ x, ¬ OwnAt s σ w x D₀
  at_ : ∃ vs, H D₀ = some (.lst vs) ∧ VRs w H acc vs
def addO (acc : List D) : Option D → List D
  | some d => acc ++ [d]
  | none => acc
theorem lcLoop_cons {f : D → S → Rs (Option D)} {x : D} {xs acc : List D} {s : S} {r : List D × S} (h : lcLoop f (x :: xs) acc s = .ok r) : ∃ o s', f x s = .ok (o, s') ∧ lcLoop f xs (addO acc o) s' = .ok r := by
  unfold lcLoop at h
  split at h
  · rename_i d s' h1
    exact ⟨some d, s', h1, h⟩
  · rename_i s' h1
    exact ⟨none, s', h1, h⟩
  · cases h
/-- the tests of a block -/
def tC (K : Cs) (c : Ctx) (cs : List Ex) : TT := tT K (evC c cs)
/-- one turn's walk -/
theorem lc_turn {own : List Nat} {t : Tg} {cs : List Ex} {elt : Ex} {g : TG} {tt : TT} {te : TE} {w0 w : Wd} {H0 H : Hp} {D₀ : Addr} {σ : L2.St} {s s2 : S} {acc : List D} {x : D} {v : V} {o : Option D} {Nx : Hp → Prop}
    (hg : TgOk K g t) (ht : ∀ i ∈ tgs t, i ∈ own) (htt : ∀ σ H Q, tC K c cs σ H Q → tt σ H Q) (hte : ∀ σ H Q, tE K (evE c elt) σ H Q → te σ H Q) (L : LcSt K w0 H0 D₀ (L2.wipe σ own) w s H acc) (hl : acc.length < sizeLine) (rv : VR w H x v)
    (hf : lcF c own t cs elt x s = .ok (o, s2)) (nx : ∀ w' H', LcSt K w0 H0 D₀ (L2.wipe σ own) w' s2 H' (addO acc o) → Nx H') :
    g v (L2.wipe σ own) H fun σ2 H2 => L2.wipe σ2 own = L2.wipe σ own ∧ tt σ2 H2 fun b H3 => if b = true then te σ2 H3 fun y H4 => ∃ acc, H4 D₀ = some (.lst acc) ∧ acc.length < sizeLine ∧ Nx (upd H4 D₀ (.lst (acc ++ [y]))) else Nx H3 := by
  obtain ⟨vs, hD, ra⟩ := L.at_
  have LO : Lone K w s (L2.wipe σ own) H D₀ := ⟨⟨_, hD⟩, L.lone⟩
  have I1 := L.sim.hold (p := fun a => a = D₀) fun b hb => by subst hb; exact LO
  have hE : Le w H (w.hold fun a => a = D₀) H := Wd.hold_le w _ H
  unfold lcF at hf
  split at hf
  · rename_i s3 h3
    refine hg I1 (VR.ext hE rv) h3 fun σ2 I2 hw => ⟨?_, htt _ _ _ ?_⟩
    · rw [hw own ht, wipe_wipe]
    have e2 : L2.wipe σ2 own = L2.wipe σ own := by rw [hw own ht, wipe_wipe]
    -- the end of the turn: D₀ let go
    have fin : ∀ {w' : Wd} {s' : S} {H' : Hp}, Ext (w.hold fun a => a = D₀) H w' H' → Sim K w' s' σ2 H' → Ext w H (w'.free w) H' ∧ Sim K (w'.free w) (wipeS own s') (L2.wipe σ own) H' ∧ (¬ (w'.free w).Z D₀ ∧ ¬ (w'.free w).P D₀ ∧ ∀ x, ¬ OwnAt (wipeS own s') (L2.wipe σ own) (w'.free w) x D₀) ∧ H' D₀ = some (.lst vs) ∧ VRs (w'.free w) H' acc vs := fun {w' s' H'} E' I' => by
      have IW : Sim K w' (wipeS own s') (L2.wipe σ own) H' := by
        have q := I'.wiped (own := own)
        rw [e2] at q
        exact q
      obtain ⟨q1, q2⟩ := Lone.back (p := fun a => a = D₀) LO rfl IW E'
      exact ⟨E'.free, IW.free L.sim.bp E', q2.2, q1.trans hD, VRs.ext E'.free.toLe ra⟩
    split at hf
    · rename_i s4 h4
      split at hf
      · rename_i re s5 h5
        split at hf
        · rename_i d s6 h6
          cases hf
          refine ⟨_, s3, I2, true, s4, h4, fun w3 H3 E3 I3 => ?_⟩
          show (if true = true then _ else _)
          rw [if_pos rfl]
          refine hte _ _ _ ⟨w3, s4, I3, re, s5, h5, fun w4 H4 y E4 I4 r4 => ?_⟩
          obtain ⟨w5, E5, I5, r5⟩ := freeze_ok I4 r4 h6
          obtain ⟨f1, f2, f3, f4, f5⟩ := fin ((E3.trans E4).trans E5) I5
          refine ⟨vs, f4, by rw [← ra.length]; exact hl, nx (w5.free w) _ ?_⟩
          obtain ⟨E6, I6⟩ := f2.lone (o := .lst (vs ++ [y])) f3
          refine ⟨(L.kp.trans f1).trans E6, I6, f3, vs ++ [y], upd_same, VRs.ext E6.toLe (f5.append (.cons (VR.ext (Wd.free_le w5 w H4) r5) .nil))⟩
        · cases hf
      · cases hf
    · rename_i s4 h4
      cases hf
      refine ⟨_, s3, I2, false, s4, h4, fun w3 H3 E3 I3 => ?_⟩
      show (if false = true then _ else _)
      rw [if_neg (by decide)]
      obtain ⟨f1, f2, f3, f4, f5⟩ := fin E3 I3
      exact nx (w3.free w) H3 ⟨L.kp.trans f1, f2, f3, vs, f4, f5⟩
    · cases hf
  · cases hf
theorem lc_ok {own : List Nat} {t : Tg} {it : Ex} {cs : List Ex} {elt : Ex} {wi : TI} {g : TG} {tt : TT} {te : TE} (hi : ∀ σ H R, tI K true (fun s => iterR (itms true) (evE c it s)) σ H R → wi σ H R)
    (hg : TgOk K g t) (ht : ∀ i ∈ tgs t, i ∈ own) (htt : ∀ σ H Q, tC K c cs σ H Q → tt σ H Q) (hte : ∀ σ H Q, tE K (evE c elt) σ H Q → te σ H Q) : ∀ σ H Q, tE K (evE c (.lc own t it cs elt)) σ H Q → tLc wi g tt te own σ H Q := by
  intro σ H Q ⟨w, s, I, r, s', hm, k⟩
  obtain ⟨xs, s1, ds, s7, h1, h2, rfl, rfl⟩ := lc_ev hm
  refine hi σ H _ ⟨w, s, I, xs, s1, h1, fun w1 H1 J E1 I1 W1 hlen D₀ hD₀ => ?_⟩
  -- the block's start
  have fD := I1.fresh hD₀
  have I2 : Sim K (w1.hold (POwn s1 σ w1 own)) (wipeS own s1) (L2.wipe σ own) H1 := I1.wipe
  have hnP : ¬ (w1.hold (POwn s1 σ w1 own)).P D₀ := fun z => z.elim fD.2.1 fun ⟨i, _, z⟩ => fD.2.2 _ z
  have hnO : ∀ x, ¬ OwnAt (wipeS own s1) (L2.wipe σ own) (w1.hold (POwn s1 σ w1 own)) x D₀ := fun x z => fD.2.2 x (OwnAt.same rfl rfl (wipe_back (w₀ := w1) z).1)
  obtain ⟨E3, I3⟩ := I2.lone (a := D₀) (o := .lst []) ⟨fD.1, hnP, hnO⟩
  have L0 : LcSt K (w1.hold (POwn s1 σ w1 own)) H1 D₀ (L2.wipe σ own) (w1.hold (POwn s1 σ w1 own)) (wipeS own s1) (upd H1 D₀ (.lst [])) [] := ⟨E3, I3, ⟨fD.1, hnP, hnO⟩, [], upd_same, .nil⟩
  refine ⟨fun i m H => m = xs.length - i ∧ i ≤ xs.length ∧ ∃ w' s' acc, LcSt K (w1.hold (POwn s1 σ w1 own)) H1 D₀ (L2.wipe σ own) w' s' H acc ∧ acc.length ≤ i ∧ lcLoop (lcF c own t cs elt) (xs.drop i) acc s' = .ok (ds, s7), ⟨xs.length, by simp, Nat.zero_le _, _, _, [], L0, Nat.le_refl _, by rw [List.drop_zero]; exact h2⟩, ?_⟩
  rintro i m H' ⟨rfl, hi', w', s', acc, L, ha, hloop⟩
  have kp : Kp w1 H1 w' H' := (Kp.hold w1 H1 _).trans (L.kp.kp I2.bp)
  by_cases hlt : i < xs.length
  · have hx : xs.drop i = xs[i] :: xs.drop (i + 1) := List.drop_eq_getElem_cons hlt
    rw [hx] at hloop
    obtain ⟨o, s2, hf, hrest⟩ := lcLoop_cons hloop
    refine .inr ⟨W1.go w' H' i kp hlt, fun H'' => ∃ w'' , LcSt K (w1.hold (POwn s1 σ w1 own)) H1 D₀ (L2.wipe σ own) w'' s2 H'' (addO acc o), fun H'' ⟨w'', L''⟩ => ⟨xs.length - (i + 1), by omega, rfl, hlt, w'', s2, _, L'', ?_, hrest⟩, fun v H2 y => ?_⟩
    · cases o with
      | some d => simp [addO]; omega
      | none => exact Nat.le_succ_of_le ha
    · obtain ⟨e, yv⟩ := W1.yld w' H' i v H2 kp y
      subst e
      have hl : acc.length < sizeLine := by have := hlen rfl; omega
      exact lc_turn hg ht htt hte L hl (yv xs[i] (List.getElem?_eq_getElem hlt)) hf fun w'' H'' L'' => ⟨w'', L''⟩
  · have e : i = xs.length := by omega
    subst e
    rw [List.drop_length] at hloop
    cases hloop
    refine .inl ⟨W1.stop w' H' kp, ?_⟩
    obtain ⟨vs, hD, ra⟩ := L.at_
    have IB := I1.back L.kp L.sim
    have EB : Ext w1 H1 (w'.free w1) H' := L.kp.free
    refine k (w'.free w1) H' _ (E1.trans EB) IB ⟨D₀, rfl, ⟨vs, hD, VRs.ext (Wd.free_le w' w1 H') ra⟩, L.lone.1, fD.2.1, fun x z => ?_⟩
    cases x with
    | inr n => exact L.lone.2.2 (.inr n) z
    | inl j =>
      obtain ⟨d, z1, z2⟩ := z
      have hl1 : s7.ρ.length = s1.ρ.length := by rw [L.sim.len, wipe_length, I1.len]
      rw [backS_get] at z1
      by_cases hj : j ∈ own ∧ j < s7.ρ.length
      · rw [if_pos hj] at z1
        have z3 : s1.ρ[j]? = some (.own d) := by
          rw [← z1, List.getElem?_eq_getElem (by omega), List.getD_eq_getElem?_getD, List.getElem?_eq_getElem (by omega)]
          rfl
        exact fD.2.2 (.inl j) ⟨d, z3, z2⟩
      · rw [if_neg hj] at z1
        have hj2 : j ∉ own := fun h => hj ⟨h, by have := (List.getElem?_eq_some_iff.mp z1).1; exact this⟩
        exact L.lone.2.2 (.inl j) ⟨d, z1, by rw [wipe_out hj2]; exact z2⟩
end
end Sk

end

section
set_option Elab.async false
set_option linter.all false
set_option maxRecDepth 100000
set_option maxHeartbeats 4000000
/-! SkO: comprehensions of two clauses, of dicts. -/
namespace Sk
open PySem PySem.Spec PyProof.Rows L2
section
variable {K : Cs} {w w' : Wd} {H H' : Hp} {s s' : S} {σ : L2.St} {own : List Nat}
theorem blk_lone {a : Addr} (I : Sim K w s σ H) (n0 : ∀ x, ¬ OwnAt s σ w x a) (I' : Sim K w' s' (L2.wipe σ own) H') (n1 : ∀ x, ¬ OwnAt s' (L2.wipe σ own) w' x a) : ∀ x, ¬ OwnAt (backS own s s') σ (w'.free w) x a := fun x z => by
  cases x with
  | inr n => exact n1 (.inr n) z
  | inl j =>
    obtain ⟨d, z1, z2⟩ := z
    have hl1 : s'.ρ.length = s.ρ.length := by rw [I'.len, wipe_length, I.len]
    rw [backS_get] at z1
    by_cases hj : j ∈ own ∧ j < s'.ρ.length
    · rw [if_pos hj] at z1
      have z3 : s.ρ[j]? = some (.own d) := by
        rw [← z1, List.getElem?_eq_getElem (by omega), List.getD_eq_getElem?_getD, List.getElem?_eq_getElem (by omega)]
        rfl
      exact n0 (.inl j) ⟨d, z3, z2⟩
    · rw [if_neg hj] at z1
      have hj2 : j ∉ own := fun h => hj ⟨h, (List.getElem?_eq_some_iff.mp z1).1⟩
      exact n1 (.inl j) ⟨d, z1, by rw [wipe_out hj2]; exact z2⟩
theorem Lone.back' {σ σ' : L2.St} {s s' : S} {p : Addr → Prop} {a : Addr} (h : Lone K w s σ H a) (pa : p a) (I : Sim K w' s' σ' H') (e : Ext (w.hold p) H w' H') : H' a = H a ∧ Lone K (w'.free w) s' σ' H' a := by
  have q := e.eqp a (.inr pa)
  obtain ⟨o, ho⟩ := h.1
  have hp : w'.P a := by rw [e.p]; exact .inr pa
  exact ⟨q, ⟨o, q.trans ho⟩, fun z => I.zp a z hp, h.2.2.1, fun x z => (I.fr x a (OwnAt.same rfl rfl z)).2 hp⟩
theorem wipe_sub {σ : L2.St} {own1 own : List Nat} (h : ∀ i ∈ own1, i ∈ own) : L2.wipe (L2.wipe σ own1) own = L2.wipe σ own := by
  apply List.ext_getElem?
  intro j
  by_cases hj : j ∈ own
  · rw [wipe_at hj, wipe_at hj, wipe_length]
  · rw [wipe_out hj, wipe_out hj, wipe_out fun q => hj (h j q)]
end
section
variable {X : Cx} {K : Cs} {c : Ctx} {pos : Pos}
def lc2F (c : Ctx) (own own1 : List Nat) (t : Tg) (cs : List Ex) (t1 : Tg) (it1 : Ex) (cs1 : List Ex) (elt : Ex) (x : D) (acc : List D) (s2 : S) : Rs (List D) := match asgD t x s2 with
  | .ok s3 => (match evC c cs s3 with
    | .ok (true, s4) => (match iterR itemsC (evE c it1 s4) with
      | .ok (ys, s5) => if acc.length + ys.length ≤ sz then (match lcLoop (lcF c own1 t1 cs1 elt) ys acc (wipeS own1 s5) with
        | .ok (ds, s11) => .ok (ds, wipeS own s11)
        | .error e => .error e) else bad 86
      | .error e => .error e)
    | .ok (false, s4) => .ok (acc, wipeS own s4)
    | .error e => .error e)
  | .error e => .error e
theorem lc2_ev {own own1 : List Nat} {t t1 : Tg} {it it1 : Ex} {cs cs1 : List Ex} {elt : Ex} {s s' : S} {r : RV} (h : evE c (.lc2 own own1 t it cs t1 it1 cs1 elt) s = .ok (r, s')) :
    ∃ xs s1 ds s7, iterR (itms true) (evE c it s) = .ok (xs, s1) ∧ lc2Loop (lc2F c own own1 t cs t1 it1 cs1 elt) xs [] (wipeS own s1) = .ok (ds, s7) ∧ r = .own (.lst ds) ∧ s' = backS own s1 s7 := by
  rw [evE] at h
  split at h
  · rename_i xs s1 h1
    split at h
    · rename_i ds s7 h2
      cases h
      exact ⟨xs, s1, ds, s7, h1, h2, rfl, rfl⟩
    · cases h
  · cases h
theorem lc2Loop_cons {f : D → List D → S → Rs (List D)} {x : D} {xs acc : List D} {s : S} {r : List D × S} (h : lc2Loop f (x :: xs) acc s = .ok r) : ∃ acc' s', f x acc s = .ok (acc', s') ∧ lc2Loop f xs acc' s' = .ok r := by
  unfold lc2Loop at h
  split at h
  · rename_i acc' s' h1
    exact ⟨acc', s', h1, h⟩
  · cases h
theorem lc2_ok {own own1 : List Nat} {t t1 : Tg} {it it1 : Ex} {cs cs1 : List Ex} {elt : Ex} {wi wi1 : TI} {g g1 : TG} {tt tt1 : TT} {te : TE} (hi : ∀ σ H R, tI K true (fun s => iterR (itms true) (evE c it s)) σ H R → wi σ H R)
    (hg : TgOk K g t) (ht : ∀ i ∈ tgs t, i ∈ own) (htt : ∀ σ H Q, tC K c cs σ H Q → tt σ H Q) (hi1 : ∀ σ H R, tI K true (fun s => iterR (itms true) (evE c it1 s)) σ H R → wi1 σ H R) (ho : ∀ i ∈ own1, i ∈ own)
    (hg1 : TgOk K g1 t1) (ht1 : ∀ i ∈ tgs t1, i ∈ own1) (htt1 : ∀ σ H Q, tC K c cs1 σ H Q → tt1 σ H Q) (hte : ∀ σ H Q, tE K (evE c elt) σ H Q → te σ H Q) : ∀ σ H Q, tE K (evE c (.lc2 own own1 t it cs t1 it1 cs1 elt)) σ H Q → tLc2 wi g tt wi1 g1 tt1 te own own1 σ H Q := by
  intro σ H Q ⟨w, s, I, r, s', hm, k⟩
  obtain ⟨xs, s1, ds, s7, h1, h2, rfl, rfl⟩ := lc2_ev hm
  refine hi σ H _ ⟨w, s, I, xs, s1, h1, fun w1 H1 J E1 I1 W1 hlen D₀ hD₀ => ?_⟩
  have fD := I1.fresh hD₀
  have I2 : Sim K (w1.hold (POwn s1 σ w1 own)) (wipeS own s1) (L2.wipe σ own) H1 := I1.wipe
  have hnP : ¬ (w1.hold (POwn s1 σ w1 own)).P D₀ := fun z => z.elim fD.2.1 fun ⟨i, _, z⟩ => fD.2.2 _ z
  have hnO : ∀ x, ¬ OwnAt (wipeS own s1) (L2.wipe σ own) (w1.hold (POwn s1 σ w1 own)) x D₀ := fun x z => fD.2.2 x (OwnAt.same rfl rfl (wipe_back (w₀ := w1) z).1)
  obtain ⟨E3, I3⟩ := I2.lone (a := D₀) (o := .lst []) ⟨fD.1, hnP, hnO⟩
  have L0 : LcSt K (w1.hold (POwn s1 σ w1 own)) H1 D₀ (L2.wipe σ own) (w1.hold (POwn s1 σ w1 own)) (wipeS own s1) (upd H1 D₀ (.lst [])) [] := ⟨E3, I3, ⟨fD.1, hnP, hnO⟩, [], upd_same, .nil⟩
  refine ⟨fun i m H => m = xs.length - i ∧ i ≤ xs.length ∧ ∃ w' s' acc, LcSt K (w1.hold (POwn s1 σ w1 own)) H1 D₀ (L2.wipe σ own) w' s' H acc ∧ lc2Loop (lc2F c own own1 t cs t1 it1 cs1 elt) (xs.drop i) acc s' = .ok (ds, s7), ⟨xs.length, by simp, Nat.zero_le _, _, _, [], L0, by rw [List.drop_zero]; exact h2⟩, ?_⟩
  rintro i m H' ⟨rfl, hi', w', s', acc, L, hloop⟩
  have kp : Kp w1 H1 w' H' := (Kp.hold w1 H1 _).trans (L.kp.kp I2.bp)
  by_cases hlt : i < xs.length
  · have hx : xs.drop i = xs[i] :: xs.drop (i + 1) := List.drop_eq_getElem_cons hlt
    rw [hx] at hloop
    obtain ⟨acc', s2, hf, hrest⟩ := lc2Loop_cons hloop
    refine .inr ⟨W1.go w' H' i kp hlt, fun H'' => ∃ w'' , LcSt K (w1.hold (POwn s1 σ w1 own)) H1 D₀ (L2.wipe σ own) w'' s2 H'' acc', fun H'' ⟨w'', L''⟩ => ⟨xs.length - (i + 1), by omega, rfl, hlt, w'', s2, _, L'', hrest⟩, fun v H2 y => ?_⟩
    obtain ⟨e, yv⟩ := W1.yld w' H' i v H2 kp y
    subst e
    have rv := yv xs[i] (List.getElem?_eq_getElem hlt)
    -- the outer turn
    obtain ⟨vs, hD, ra⟩ := L.at_
    have LO : Lone K w' s' (L2.wipe σ own) H2 D₀ := ⟨⟨_, hD⟩, L.lone⟩
    have J1 := L.sim.hold (p := fun a => a = D₀) fun b hb => by subst hb; exact LO
    have hE : Le w' H2 (w'.hold fun a => a = D₀) H2 := Wd.hold_le w' _ H2
    unfold lc2F at hf
    split at hf
    · rename_i s3 h3
      refine hg J1 (VR.ext hE rv) h3 fun σ2 J2 hw => ⟨?_, htt _ _ _ ?_⟩
      · rw [hw own ht, wipe_wipe]
      have e2 : L2.wipe σ2 own = L2.wipe σ own := by rw [hw own ht, wipe_wipe]
      -- D₀ let go, the names as they are
      have go : ∀ {w'' : Wd} {s'' : S} {H'' : Hp}, Ext (w'.hold fun a => a = D₀) H2 w'' H'' → Sim K w'' s'' σ2 H'' → Ext w' H2 (w''.free w') H'' ∧ Sim K (w''.free w') s'' σ2 H'' ∧ (¬ (w''.free w').Z D₀ ∧ ¬ (w''.free w').P D₀ ∧ ∀ x, ¬ OwnAt s'' σ2 (w''.free w') x D₀) ∧ H'' D₀ = some (.lst vs) ∧ VRs (w''.free w') H'' acc vs := fun {w'' s'' H''} E' I' => by
        obtain ⟨q1, q2⟩ := Lone.back' (p := fun a => a = D₀) LO rfl I' E'
        exact ⟨E'.free, I'.free L.sim.bp E', q2.2, q1.trans hD, VRs.ext E'.free.toLe ra⟩
      have wp : ∀ {w'' : Wd} {s'' : S} {H'' : Hp} {acc : List D} {own1 : List Nat}, (∀ i ∈ own1, i ∈ own) → LcSt K (w1.hold (POwn s1 σ w1 own)) H1 D₀ (L2.wipe σ2 own1) w'' s'' H'' acc → LcSt K (w1.hold (POwn s1 σ w1 own)) H1 D₀ (L2.wipe σ own) w'' (wipeS own s'') H'' acc := fun {w'' s'' H'' acc own1} hs L => by
        have q := L.sim.wiped (own := own)
        have eq : L2.wipe (L2.wipe σ2 own1) own = L2.wipe σ own := by rw [wipe_sub hs, e2]
        rw [eq] at q
        refine ⟨L.kp, q, ⟨L.lone.1, L.lone.2.1, fun x z => ?_⟩, L.at_⟩
        rw [← eq] at z
        exact L.lone.2.2 x (wipe_back (w₀ := w'') z).1
      split at hf
      · rename_i s4 h4
        split at hf
        · rename_i ys s5 h5
          split at hf
          · rename_i hsz
            split at hf
            · rename_i ds1 s11 h6
              cases hf
              refine ⟨_, s3, J2, true, s4, h4, fun w3 H3 E3 I3 => ?_⟩
              show (if true = true then _ else _)
              rw [if_pos rfl]
              refine hi1 _ _ _ ⟨w3, s4, I3, ys, s5, h5, fun w4 H4 J' E4 I4 W4 _ => ?_⟩
              obtain ⟨f1, f2, f3, f4, f5⟩ := go (E3.trans E4) I4
              have IW := f2.wiped (own := own1)
              have L4 : LcSt K (w1.hold (POwn s1 σ w1 own)) H1 D₀ (L2.wipe σ2 own1) (w4.free w') (wipeS own1 s5) H4 acc := ⟨L.kp.trans f1, IW, ⟨f3.1, f3.2.1, fun x z => f3.2.2 x (wipe_back (w₀ := w1) z).1⟩, vs, f4, f5⟩
              refine ⟨fun j n H => n = ys.length - j ∧ j ≤ ys.length ∧ ∃ wx sx ac, LcSt K (w1.hold (POwn s1 σ w1 own)) H1 D₀ (L2.wipe σ2 own1) wx sx H ac ∧ Kp w4 H4 wx H ∧ ac.length ≤ acc.length + j ∧ lcLoop (lcF c own1 t1 cs1 elt) (ys.drop j) ac sx = .ok (acc', s11),
                ⟨ys.length, by simp, Nat.zero_le _, _, _, acc, L4, Kp.of_free w4 w' H4, Nat.le_refl _, by rw [List.drop_zero]; exact h6⟩, ?_⟩
              rintro j n H5 ⟨rfl, hj', wx, sx, ac, Lx, kx, hac, hlx⟩
              by_cases hjl : j < ys.length
              · have hy : ys.drop j = ys[j] :: ys.drop (j + 1) := List.drop_eq_getElem_cons hjl
                rw [hy] at hlx
                obtain ⟨o, sy, hfy, hry⟩ := lcLoop_cons hlx
                refine .inr ⟨W4.go wx H5 j kx hjl, fun H'' => ∃ w'' , LcSt K (w1.hold (POwn s1 σ w1 own)) H1 D₀ (L2.wipe σ2 own1) w'' sy H'' (addO ac o) ∧ Kp w4 H4 w'' H'', fun H'' ⟨w'', L'', k''⟩ => ⟨ys.length - (j + 1), by omega, rfl, hjl, w'', sy, _, L'', k'', ?_, hry⟩, fun v H6 y => ?_⟩
                · cases o with
                  | some d => simp [addO]; omega
                  | none => simp [addO]; omega
                · obtain ⟨e, yv⟩ := W4.yld wx H5 j v H6 kx y
                  subst e
                  have hl : ac.length < sizeLine := by rw [← sz_eq]; omega
                  have L5 : LcSt K wx H6 D₀ (L2.wipe σ2 own1) wx sx H6 ac := ⟨.refl wx H6, Lx.sim, Lx.lone, Lx.at_⟩
                  exact lc_turn hg1 ht1 htt1 hte L5 hl (yv ys[j] (List.getElem?_eq_getElem hjl)) hfy fun w'' H'' L'' => ⟨w'', ⟨Lx.kp.trans L''.kp, L''.sim, L''.lone, L''.at_⟩, kx.trans (L''.kp.kp Lx.sim.bp)⟩
              · have e : j = ys.length := by omega
                subst e
                rw [List.drop_length] at hlx
                cases hlx
                exact .inl ⟨W4.stop wx H5 kx, wx, wp ho Lx⟩
            · cases hf
          · cases hf
        · cases hf
      · rename_i s4 h4
        cases hf
        refine ⟨_, s3, J2, false, s4, h4, fun w3 H3 E3 I3 => ?_⟩
        show (if false = true then _ else _)
        rw [if_neg (by decide)]
        obtain ⟨f1, f2, f3, f4, f5⟩ := go E3 I3
        exact ⟨w3.free w', wp (own1 := []) (fun i h => by cases h) ⟨L.kp.trans f1, f2, f3, vs, f4, f5⟩⟩
      · cases hf
    · cases hf
  · have e : i = xs.length := by omega
    subst e
    rw [List.drop_length] at hloop
    cases hloop
    refine .inl ⟨W1.stop w' H' kp, ?_⟩
    obtain ⟨vs, hD, ra⟩ := L.at_
    have EB : Ext w1 H1 (w'.free w1) H' := L.kp.free
    exact k (w'.free w1) H' _ (E1.trans EB) (I1.back L.kp L.sim) ⟨D₀, rfl, ⟨vs, hD, VRs.ext (Wd.free_le w' w1 H') ra⟩, L.lone.1, fD.2.1, blk_lone I1 fD.2.2 L.sim L.lone.2.2⟩

/-! ### {k: v for t in it} -/
def dcF (c : Ctx) (own : List Nat) (t : Tg) (k v : Ex) (x : D) (s2 : S) : Rs (D × D) := match asgD t x s2 with
  | .ok s3 => (match evE c k s3 with
    | .ok (rk, s4) => (match freeze rk s4 with
      | .ok (dk, s5) => (match evE c v s5 with
        | .ok (rv, s6) => (match freeze rv s6 with
          | .ok (dv, s7) => .ok ((dk, dv), wipeS own s7)
          | .error e => .error e)
        | .error e => .error e)
      | .error e => .error e)
    | .error e => .error e)
  | .error e => .error e
theorem dc_ev {own : List Nat} {t : Tg} {it kx vx : Ex} {s s' : S} {r : RV} (h : evE c (.dc own t it kx vx) s = .ok (r, s')) : ∃ xs s1 ds s7, iterR (itms true) (evE c it s) = .ok (xs, s1) ∧ dcLoop (dcF c own t kx vx) xs [] (wipeS own s1) = .ok (ds, s7) ∧ r = .own (.dct ds) ∧ s' = backS own s1 s7 := by
  rw [evE] at h
  split at h
  · rename_i xs s1 h1
    split at h
    · rename_i ds s7 h2
      cases h
      exact ⟨xs, s1, ds, s7, h1, h2, rfl, rfl⟩
    · cases h
  · cases h
structure DcSt (K : Cs) (w0 : Wd) (H0 : Hp) (D₀ : Addr) (σ : L2.St) (w : Wd) (s : S) (H : Hp) (acc : List (D × D)) : Prop where
  kp : Ext w0 H0 w H
  sim : Sim K w s σ H
  lone : ¬ w.Z D₀ ∧ ¬ w.P D₀ ∧ ∀ x, ¬ OwnAt s σ w x D₀
  at_ : ∃ kvs : List (Key × V), H D₀ = some (.dK kvs) ∧ VRk w H acc (kvs.map fun p => (kD p.1, p.2))
theorem dcLoop_cons {f : D → S → Rs (D × D)} {x : D} {xs : List D} {acc : List (D × D)} {s : S} {r : List (D × D) × S} (h : dcLoop f (x :: xs) acc s = .ok r) : ∃ k v s', f x s = .ok ((k, v), s') ∧ isAtom k = true ∧ acc.length < sz ∧ dcLoop f xs (putD k v acc) s' = .ok r := by
  unfold dcLoop at h
  split at h
  · rename_i k v s' h1
    split at h
    · rename_i hk
      simp only [Bool.and_eq_true, decide_eq_true_eq] at hk
      exact ⟨k, v, s', h1, hk.1, hk.2, h⟩
    · cases h
  · cases h
theorem yes_ok {σ : L2.St} {H : Hp} {P Q : Hp → Prop} (h : P H) : tYes σ H fun b H3 => if b = true then P H3 else Q H3 := by
  show (if true = true then P H else Q H)
  rw [if_pos rfl]
  exact h
theorem dc_ok {own : List Nat} {t : Tg} {it kx vx : Ex} {wi : TI} {g : TG} {tk tv : TE} (hi : ∀ σ H R, tI K true (fun s => iterR (itms true) (evE c it s)) σ H R → wi σ H R)
    (hg : TgOk K g t) (ht : ∀ i ∈ tgs t, i ∈ own) (htk : ∀ σ H Q, tE K (evE c kx) σ H Q → tk σ H Q) (htv : ∀ σ H Q, tE K (evE c vx) σ H Q → tv σ H Q) : ∀ σ H Q, tE K (evE c (.dc own t it kx vx)) σ H Q → tDc wi g tYes tk tv own σ H Q := by
  intro σ H Q ⟨w, s, I, r, s', hm, k⟩
  obtain ⟨xs, s1, ds, s7, h1, h2, rfl, rfl⟩ := dc_ev hm
  refine hi σ H _ ⟨w, s, I, xs, s1, h1, fun w1 H1 J E1 I1 W1 hlen D₀ hD₀ => ?_⟩
  have fD := I1.fresh hD₀
  have I2 : Sim K (w1.hold (POwn s1 σ w1 own)) (wipeS own s1) (L2.wipe σ own) H1 := I1.wipe
  have hnP : ¬ (w1.hold (POwn s1 σ w1 own)).P D₀ := fun z => z.elim fD.2.1 fun ⟨i, _, z⟩ => fD.2.2 _ z
  have hnO : ∀ x, ¬ OwnAt (wipeS own s1) (L2.wipe σ own) (w1.hold (POwn s1 σ w1 own)) x D₀ := fun x z => fD.2.2 x (OwnAt.same rfl rfl (wipe_back (w₀ := w1) z).1)
  obtain ⟨E3, I3⟩ := I2.lone (a := D₀) (o := .dK []) ⟨fD.1, hnP, hnO⟩
  have L0 : DcSt K (w1.hold (POwn s1 σ w1 own)) H1 D₀ (L2.wipe σ own) (w1.hold (POwn s1 σ w1 own)) (wipeS own s1) (upd H1 D₀ (.dK [])) [] := ⟨E3, I3, ⟨fD.1, hnP, hnO⟩, [], upd_same, .nil⟩
  refine ⟨fun i m H => m = xs.length - i ∧ i ≤ xs.length ∧ ∃ w' s' acc, DcSt K (w1.hold (POwn s1 σ w1 own)) H1 D₀ (L2.wipe σ own) w' s' H acc ∧ dcLoop (dcF c own t kx vx) (xs.drop i) acc s' = .ok (ds, s7), ⟨xs.length, by simp, Nat.zero_le _, _, _, [], L0, by rw [List.drop_zero]; exact h2⟩, ?_⟩
  rintro i m H' ⟨rfl, hi', w', s', acc, L, hloop⟩
  have kp : Kp w1 H1 w' H' := (Kp.hold w1 H1 _).trans (L.kp.kp I2.bp)
  by_cases hlt : i < xs.length
  · have hx : xs.drop i = xs[i] :: xs.drop (i + 1) := List.drop_eq_getElem_cons hlt
    rw [hx] at hloop
    obtain ⟨dk, dv, s2, hf, hk, hsz, hrest⟩ := dcLoop_cons hloop
    refine .inr ⟨W1.go w' H' i kp hlt, fun H'' => ∃ w'' , DcSt K (w1.hold (POwn s1 σ w1 own)) H1 D₀ (L2.wipe σ own) w'' s2 H'' (putD dk dv acc), fun H'' ⟨w'', L''⟩ => ⟨xs.length - (i + 1), by omega, rfl, hlt, w'', s2, _, L'', hrest⟩, fun v H2 y => ?_⟩
    obtain ⟨e, yv⟩ := W1.yld w' H' i v H2 kp y
    subst e
    have rv := yv xs[i] (List.getElem?_eq_getElem hlt)
    obtain ⟨kvs, hD, ra⟩ := L.at_
    have LO : Lone K w' s' (L2.wipe σ own) H2 D₀ := ⟨⟨_, hD⟩, L.lone⟩
    have J1 := L.sim.hold (p := fun a => a = D₀) fun b hb => by subst hb; exact LO
    have hE : Le w' H2 (w'.hold fun a => a = D₀) H2 := Wd.hold_le w' _ H2
    unfold dcF at hf
    split at hf
    · rename_i s3 h3
      split at hf
      · rename_i rk s4 h4
        split at hf
        · rename_i dk' s5 h5
          split at hf
          · rename_i rv' s6 h6
            split at hf
            · rename_i dv' s8 h8
              cases hf
              refine hg J1 (VR.ext hE rv) h3 fun σ2 J2 hw => ⟨?_, ?_⟩
              · rw [hw own ht, wipe_wipe]
              have e2 : L2.wipe σ2 own = L2.wipe σ own := by rw [hw own ht, wipe_wipe]
              refine yes_ok ?_
              refine htk _ _ _ ⟨_, s3, J2, rk, s4, h4, fun w3 H3 y3 E3 I3 r3 => ?_⟩
              obtain ⟨w4, E4, I4, r4⟩ := freeze_ok I3 r3 h5
              refine htv _ _ _ ⟨w4, s5, I4, rv', s6, h6, fun w5 H5 y5 E5 I5 r5 => ?_⟩
              obtain ⟨w6, E6, I6, r6⟩ := freeze_ok I5 r5 h8
              have EA := ((E3.trans E4).trans E5).trans E6
              have IW : Sim K w6 (wipeS own s8) (L2.wipe σ own) H5 := by
                have q := I6.wiped (own := own)
                rw [e2] at q
                exact q
              obtain ⟨q1, q2⟩ := Lone.back (p := fun a => a = D₀) LO rfl IW EA
              have I7 := IW.free L.sim.bp EA
              have ra7 : VRk (w6.free w') H5 acc (kvs.map fun p => (kD p.1, p.2)) := VRk.ext EA.free.toLe ra
              obtain ⟨kk, ek⟩ := isAtom_kOf hk
              have ey := kOf_v ek (.inl r4 : PVR w4 H3 dk y3)
              refine ⟨kvs, kk, ey, q1.trans hD, ?_, ?_⟩
              · have := ra.length
                rw [List.length_map] at this
                rw [← this, ← sz_eq]
                exact hsz
              · obtain ⟨E8, I8⟩ := I7.lone (o := .dK (putK kvs kk y5)) q2.2
                refine ⟨w6.free w', (L.kp.trans EA.free).trans E8, I8, q2.2, _, upd_same, VRk.ext E8.toLe ?_⟩
                rw [← kD_kOf ek]
                exact put_keys kD keyEq_kD kk (VR.ext (Wd.free_le w6 w' H5) r6) ra7
            · cases hf
          · cases hf
        · cases hf
      · cases hf
    · cases hf
  · have e : i = xs.length := by omega
    subst e
    rw [List.drop_length] at hloop
    cases hloop
    refine .inl ⟨W1.stop w' H' kp, ?_⟩
    obtain ⟨kvs, hD, ra⟩ := L.at_
    have EB : Ext w1 H1 (w'.free w1) H' := L.kp.free
    exact k (w'.free w1) H' _ (E1.trans EB) (I1.back L.kp L.sim) ⟨D₀, rfl, .inl ⟨kvs, hD, VRk.ext (Wd.free_le w' w1 H') ra⟩, L.lone.1, fD.2.1, blk_lone I1 fD.2.2 L.sim L.lone.2.2⟩
end
end Sk

end

section
set_option Elab.async false
set_option linter.all false
set_option maxRecDepth 100000
set_option maxHeartbeats 4000000
/-! SkP: statements. -/
namespace Sk
open PySem PySem.Spec PyProof.Rows L2

section
variable {K : Cs} {w w' : Wd} {H H' : Hp} {s s' : S} {σ : L2.St}
/-- name = a value -/
theorem asgR_ok (I : Sim K w s σ H) {i : Nat} {r : RV} {v : V} {s2 : S} (h : RVR w s σ H r v) (e : asgR (.nm i) r s = .ok s2) : ∃ w2, Ext w H w2 H ∧ Sim K w2 s2 (σ.set i (some v)) H := by
  cases r with
  | val d => cases e; exact ⟨w, .refl w H, I.set ⟨v, rfl, h⟩ fun d h => by cases h⟩
  | own d => cases e; exact ⟨w, .refl w H, I.set_own h⟩
  | bor j =>
    unfold asgR at e
    cases q : slotAt s j with
    | un => simp [q] at e
    | val d =>
      simp only [q] at e
      cases e
      have h : σ[j]? = some (some v) := h
      obtain ⟨u, h1, x, h2, h3⟩ := I.slot j _ (slotAt_some q (by simp))
      rw [h] at h1
      cases h1
      cases h2
      exact ⟨w, .refl w H, I.set ⟨v, rfl, h3⟩ fun d h => by cases h⟩
    | own d =>
      simp only [q] at e
      cases e
      obtain ⟨w2, E2, I2, r2⟩ := freeze_ok (s2 := { s with ρ := s.ρ.set j (.val d) }) (d := d) I h (by unfold freeze; simp only [q])
      exact ⟨w2, E2, I2.set (i := i) (x := .val d) ⟨v, rfl, r2⟩ fun d h => by cases h⟩
    | bor d =>
      simp only [q] at e
      cases e
      have h : σ[j]? = some (some v) := h
      obtain ⟨u, h1, a, h2, h3⟩ := I.slot j _ (slotAt_some q (by simp))
      rw [h] at h1
      cases h1
      cases h2
      exact ⟨w, .refl w H, I.set (x := .bor d) ⟨a, rfl, h3⟩ fun d h => by cases h⟩
/-- a shared dict is written -/
theorem Sim.put_mo (I : Sim K w s σ H) {n : Nat} {m m' : MO} {o : HO} (hn : s.mh[n]? = some m) (hc : Le w H w (upd H (w.ι n) o) → MOR w (upd H (w.ι n) o) (w.ι n) m') :
    Ext w H w (upd H (w.ι n) o) ∧ Sim K w { s with mh := s.mh.set n m' } σ (upd H (w.ι n) o) := by
  have hlt : n < w.n := by rw [← I.mlen]; exact (List.getElem?_eq_some_iff.mp hn).1
  have oa : OwnAt s σ w (.inr n) (w.ι n) := ⟨hlt, rfl⟩
  obtain ⟨f1, f2⟩ := I.fr _ _ oa
  have nz : ∀ b, w.Z b → upd H (w.ι n) o b = H b := fun b z => upd_ne fun e => f1 (e ▸ z)
  have np : ∀ b, w.P b → upd H (w.ι n) o b = H b := fun b z => upd_ne fun e => f2 (e ▸ z)
  have le : Le w H w (upd H (w.ι n) o) := ⟨fun _ z => z, nz, fun _ _ => rfl, Nat.le_refl _⟩
  have has : ∀ b, (∃ u, H b = some u) → ∃ u, upd H (w.ι n) o b = some u := fun b ⟨u, e⟩ => by
    by_cases hb : b = w.ι n
    · subst hb; exact ⟨o, upd_same⟩
    · exact ⟨u, by rw [upd_ne hb]; exact e⟩
  have back : ∀ {x b}, OwnAt { s with mh := s.mh.set n m' } σ w x b → OwnAt s σ w x b := fun {x b} z => by
    cases x with
    | inl j => exact z
    | inr k => exact z
  refine ⟨⟨le, np, rfl, rfl⟩, ⟨fun p h => VR.ext le (I.con p h), fun b z => has b (I.zd b z), fun b z => has b (I.pd b z), I.bp, I.zp, I.len, fun j x q => ?_, by rw [List.length_set]; exact I.mlen, fun k u q => ?_, fun x b q => I.fr x b (back q), fun x y b h1 h2 => I.inj x y b (back h1) (back h2)⟩⟩
  · obtain ⟨v, q1, r⟩ := I.slot j x q
    refine ⟨v, q1, ?_⟩
    cases x with
    | un => trivial
    | val d2 => obtain ⟨y, q2, r⟩ := r; exact ⟨y, q2, VR.ext le r⟩
    | own d2 =>
      obtain ⟨b, q2, r⟩ := r
      subst q2
      have hb : b ≠ w.ι n := fun e => by
        subst e
        have z := I.inj (.inl j) (.inr n) _ ⟨d2, q, q1⟩ oa
        cases z
      exact ⟨b, rfl, r.ext le (upd_ne hb)⟩
    | bor d2 => obtain ⟨b, q2, hb, r⟩ := r; exact ⟨b, q2, hb, r.ext le (np b (I.bp b hb))⟩
  · by_cases hk : n = k
    · subst hk
      have lt : n < s.mh.length := (List.getElem?_eq_some_iff.mp hn).1
      rw [List.getElem?_set_self lt] at q
      cases q
      exact hc le
    · rw [List.getElem?_set_ne hk] at q
      have hkl : k < w.n := by rw [← I.mlen]; exact (List.getElem?_eq_some_iff.mp q).1
      have hb : w.ι k ≠ w.ι n := fun e => by
        have z := I.inj (.inr k) (.inr n) (w.ι n) ⟨hkl, e⟩ oa
        cases z
        exact hk rfl
      exact (I.mo k u q).ext le (upd_ne hb)
/-- a dict with one more or another pair: the new object -/
theorem dput_of {ds : List (D × D)} {k d : D} {y v : V} {a : Addr} (hx : CAt w H a (.dct ds)) (hy : VR w H k y) (hv : VR w H d v) (hf : fitsKey k ds = true) (hl : ds.length < sizeLine) :
    ∃ o, (DPut H a y v (upd H a o) ∨ (H a = some (.dK []) ∧ ∃ (kk : List Key) (b : Addr), y = .ref b ∧ H b = some (.tup (kk.map kV)) ∧ o = .dT [(kk, v)]) ∨ (H a = some (.dT []) ∧ ∃ kk : Key, y = kV kk ∧ o = .dK [(kk, v)])) ∧
      ∀ {w' : Wd}, Le w H w' (upd H a o) → CAt w' (upd H a o) a (.dct (putD k d ds)) := by
  unfold fitsKey at hf
  split at hf
  · rename_i hk
    obtain ⟨kk, e1⟩ := isAtom_kOf hk
    have ey := kOf_v e1 (.inl hy : PVR w H k y)
    subst ey
    rcases hx with ⟨kvs, e, r⟩ | ⟨kvs, e, r⟩
    · have hl2 : kvs.length < sizeLine := by
        have := r.length
        rw [List.length_map] at this
        omega
      refine ⟨.dK (putK kvs kk v), .inl (DPut.k e hl2), fun {w'} le => .inl ⟨_, upd_same, VRk.ext le ?_⟩⟩
      rw [← kD_kOf e1]
      exact put_keys kD keyEq_kD kk hv r
    · cases kvs with
      | nil =>
        cases r
        refine ⟨.dK [(kk, v)], .inr (.inr ⟨e, kk, rfl, rfl⟩), fun {w'} le => .inl ⟨_, upd_same, ?_⟩⟩
        rw [← kD_kOf e1]
        exact .cons (VR.ext le hv) .nil
      | cons q qs =>
        cases ds with
        | nil => cases r
        | cons p ps =>
          cases r with
          | cons r t =>
            simp only [List.all_cons, Bool.and_eq_true] at hf
            rw [isAtom_tD] at hf
            exact absurd hf.1 (by decide)
  · rename_i hk
    simp only [Bool.and_eq_true] at hf
    obtain ⟨hf1, hf2⟩ := hf
    cases k with
    | tup ks =>
      obtain ⟨kk, e1⟩ := tOf_some (ds := ks) hf1
      obtain ⟨b, vs, rfl, z, e2, r2⟩ := (show PVR w H (.tup ks) y from .inl hy).tup_
      have ev := tOf_vs e1 r2
      subst ev
      have ek : D.tup ks = tD kk := by rw [tD, tOf_map e1]
      rcases hx with ⟨kvs, e, r⟩ | ⟨kvs, e, r⟩
      · cases kvs with
        | nil =>
          cases r
          refine ⟨.dT [(kk, v)], .inr (.inl ⟨e, kk, b, rfl, e2, rfl⟩), fun {w'} le => .inr ⟨_, upd_same, ?_⟩⟩
          rw [ek]
          exact .cons (VR.ext le hv) .nil
        | cons q qs =>
          cases ds with
          | nil => cases r
          | cons p ps =>
            cases r with
            | cons r t =>
              simp only [List.all_cons, Bool.and_eq_true] at hf2
              rw [isKeyT_kD] at hf2
              exact absurd hf2.1 (by decide)
      · have hl2 : kvs.length < sizeLine := by
          have := r.length
          rw [List.length_map] at this
          omega
        refine ⟨.dT (putK kvs kk v), .inl (DPut.t e e2 hl2), fun {w'} le => .inr ⟨_, upd_same, VRk.ext le ?_⟩⟩
        rw [ek]
        exact put_keys tD keyEq_tD kk hv r
    | _ => simp [isKeyT] at hf1
end
section
variable {X : Cx} {K : Cs} {c : Ctx} {pos : Pos}
/-- name = .. -/
theorem s_asg {i : Nat} {x : Str} {e : Expr} {y : Ex} {pos' : Pos} (hN : X.N.Nodup) (hi : X.N[i]? = some x) (hx : Loc X.env.scope x) (hf : X.fn x = true ∨ X.env.scope.names.lookup x = some .local) (he : PE X e (tE K (evE c y))) (hs : swapsWith e (some (.Name x pos')) pos.line X.env = pure false) :
    PS X (.Assign [.Name x pos'] e pos) (tS K (evS c (.asg (.nm i) y))) :=
  (ps_set (pos := pos) (pos' := pos') hN hi hx he hs hf).imp fun D σ H ⟨w, s, I, f, s', hm, k⟩ => by
    rw [evS] at hm
    split at hm
    · rename_i r s1 h1
      split at hm <;> cases hm
      rename_i h2
      refine ⟨w, s, I, r, s1, h1, fun w1 H1 v E1 I1 r1 => ?_⟩
      obtain ⟨w2, E2, I2⟩ := asgR_ok I1 r1 h2
      exact k w2 _ H1 (E1.trans E2) I2
    · cases hm
/-- the same by another rule -/
theorem asg_imp {i : Nat} {st : Stmt} {y : Ex} {te : TE} (h : PS X st (tAsg te (gName i))) (ht : ∀ σ H Q, tE K (evE c y) σ H Q → te σ H Q) : PS X st (tS K (evS c (.asg (.nm i) y))) :=
  h.imp fun D σ H ⟨w, s, I, f, s', hm, k⟩ => by
    rw [evS] at hm
    split at hm
    · rename_i r s1 h1
      split at hm <;> cases hm
      rename_i h2
      refine ht _ _ _ ⟨w, s, I, r, s1, h1, fun w1 H1 v E1 I1 r1 => ?_⟩
      obtain ⟨w2, E2, I2⟩ := asgR_ok I1 r1 h2
      exact k w2 _ H1 (E1.trans E2) I2
    · cases hm
/-- a, b = .. -/
theorem s_asgT {tg e : Expr} {is : List Nat} {y : Ex} {g : TG} (hg : PG X tg g) (hT : TgOk K g (.tp is)) (he : PE X e (tE K (evE c y))) (hs : swapsWithSole [tg] e pos.line X.env = pure false) (hw : swappedStores [tg] e X.env = pure none)
    (h1 : (assignEach [tg] X.env).map (·.2) = [assign tg X.env]) : PS X (.Assign [tg] e pos) (tS K (evS c (.asg (.tp is) y))) :=
  (ps_asg (pos := pos) he hg hs hw h1).imp fun D σ H ⟨w, s, I, f, s', hm, k⟩ => by
    rw [evS] at hm
    split at hm
    · rename_i r s1 h1
      split at hm <;> cases hm
      rename_i h2
      simp only [asgR] at h2
      split at h2
      · rename_i ds hp
        refine ⟨w, s, I, r, s1, h1, fun w1 H1 v E1 I1 r1 => ?_⟩
        obtain ⟨a, vs, rfl, z, e1, r2⟩ := (I1.peek r1 hp).tup_
        exact hT I1 (.tup z e1 r2) h2 fun σ' I' _ => k w1 σ' H1 E1 I'
      · cases h2
      · cases h2
    · cases hm
/-- a, b = x, y -/
theorem par_ok {w : Wd} {s : S} {σ : L2.St} {H : Hp} {i j : Nat} {ra rb : RV} {x y : V} {s3 s4 : S} (I : Sim K w s σ H) (r1 : RVR w s σ H ra x) (r2 : RVR w s σ H rb y) (na : ∀ n, ra ≠ .bor n) (nb : ∀ n, rb ≠ .bor n) (hd : ∀ d e, ra = .own d → rb = .own e → x ≠ y)
    (h1 : asgR (.nm i) ra s = .ok s3) (h2 : asgR (.nm j) rb s3 = .ok s4) : Sim K w s4 ((σ.set i (some x)).set j (some y)) H := by
  have one : Sim K w s3 (σ.set i (some x)) H ∧ RVR w s3 (σ.set i (some x)) H rb y := by
    cases ra with
    | bor n => exact absurd rfl (na n)
    | val d =>
      cases h1
      have I2 := I.set (i := i) (x := .val d) (v := some x) ⟨x, rfl, r1⟩ fun d h => by cases h
      refine ⟨I2, ?_⟩
      cases rb with
      | bor n => exact absurd rfl (nb n)
      | val d2 => exact r2
      | own d2 =>
        obtain ⟨a, e, ca, n1, n2, n3⟩ := r2
        exact ⟨a, e, ca, n1, n2, fun z hz => n3 z (ownAt_set (fun d h => by cases h) hz).1⟩
    | own d =>
      cases h1
      have I2 := I.set_own (i := i) r1
      refine ⟨I2, ?_⟩
      cases rb with
      | bor n => exact absurd rfl (nb n)
      | val d2 => exact r2
      | own d2 =>
        obtain ⟨a, rfl, ca, n1, n2, n3⟩ := r2
        refine ⟨a, rfl, ca, n1, n2, fun z hz => ?_⟩
        cases z with
        | inr n => exact n3 (.inr n) hz
        | inl l =>
          obtain ⟨d3, h1, h2⟩ := hz
          by_cases hl : i = l
          · subst hl
            rw [List.getElem?_set_self'] at h2
            cases q : σ[i]? with
            | none => rw [q] at h2; cases h2
            | some z => rw [q] at h2; cases h2; exact hd d d2 rfl rfl rfl
          · rw [List.getElem?_set_ne hl] at h1 h2
            exact n3 (.inl l) ⟨d3, h1, h2⟩
  obtain ⟨I2, r3⟩ := one
  cases rb with
  | bor n => exact absurd rfl (nb n)
  | val d2 => cases h2; exact I2.set ⟨y, rfl, r3⟩ fun d h => by cases h
  | own d2 => cases h2; exact I2.set_own r3
theorem s_par {i j : Nat} {x y : Str} {a b : Expr} {ea eb : Ex} {px py pt : Pos} {kt k2 : Nat} {pt2 : Pos} (hc : X.calm = true) (hN : X.N.Nodup) (hi : X.N[i]? = some x) (hj : X.N[j]? = some y) (hij : i ≠ j)
    (hx : X.env.scope.names.lookup x = some .local) (hy : X.env.scope.names.lookup y = some .local) (hna : notStar a = true) (hnb : notStar b = true) (ha : PE X a (tE K (evE c ea))) (hb : PE X b (tE K (evE c eb)))
    (hw : swappedStores [.Tuple [.Name x px, .Name y py] kt pt] (.Tuple [a, b] k2 pt2) X.env = pure (some [x, y]))
    (hs : swapsWithSole [.Tuple [.Name x px, .Name y py] kt pt] (.Tuple [a, b] k2 pt2) pos.line X.env = pure false) :
    PS X (.Assign [.Tuple [.Name x px, .Name y py] kt pt] (.Tuple [a, b] k2 pt2) pos) (tS K (evS c (.par i j ea eb))) :=
  (ps_par (pos := pos) hc hN hi hj hij hx hy (pa_cons ha (pa_cons hb pa_nil (star_ok hnb)) (star_ok hna)) hw hs).imp fun D σ H ⟨w, s, I, f, s', hm, k⟩ => by
    rw [evS] at hm
    split at hm
    · rename_i ra s1 h1
      split at hm
      · rename_i rb s2 h2
        split at hm
        · cases hm
        · cases hm
        · rename_i nb na
          split at hm
          · rename_i s3 h3
            split at hm <;> cases hm
            rename_i h4
            refine two (R := fun u v H' => ∃ v' w', [u, v] = [v', w'] ∧ D.nx ((σ.set i (some v')).set j (some w')) H') I h1 h2 fun w' H' u v E' I' r1 r2 hd => ⟨u, v, rfl, ?_⟩
            exact k w' _ H' E' (par_ok I' r1 r2 (fun n e => by subst e; exact nb n rfl) (fun n e => by subst e; exact na n rfl) hd h3 h4)
          · cases hm
      · cases hm
    · cases hm
theorem s_ex {e : Expr} {y : Ex} (he : PE X e (tE K (evE c y))) (hs : swapsWith e none pos.line X.env = pure false) : PS X (.Expr e pos) (tS K (evS c (.ex y))) :=
  (ps_expr (pos := pos) he hs).imp fun D σ H ⟨w, s, I, f, s', hm, k⟩ => by
    rw [evS] at hm
    split at hm
    · rename_i r s1 h1
      cases hm
      exact ⟨w, s, I, r, s', h1, fun w1 H1 v E1 I1 r1 => k w1 σ H1 E1 I1⟩
    · cases hm
theorem s_doc {x : Str} {j : Nat} {p : Pos} : PS X (.Expr (.Constant (.str x) j p) pos) (tS K (evS c .pass)) :=
  ps_doc.imp fun D σ H ⟨w, s, I, f, s', hm, k⟩ => by
    rw [evS] at hm
    cases hm
    exact k w σ H (.refl w H) I
theorem s_ret {e : Expr} {y : Ex} (he : PE X e (tE K (evE c y))) : PS X (.Return (some e) pos) (tS K (evS c (.ret y))) :=
  (ps_ret (pos := pos) he).imp fun D σ H ⟨w, s, I, f, s', hm, k⟩ => by
    rw [evS] at hm
    split at hm
    · rename_i r s1 h1
      cases hm
      exact ⟨w, s, I, r, s', h1, fun w1 H1 v E1 I1 r1 => k w1 σ H1 E1 I1 v r1⟩
    · cases hm
theorem s_pass : PS X (.Pass pos) (tS K (evS c .pass)) := ps_pass.imp fun D σ H ⟨w, s, I, f, s', hm, k⟩ => by
  rw [evS] at hm
  cases hm
  exact k w σ H (.refl w H) I
theorem s_brk : PS X (.Break pos) (tS K (evS c .brk)) := ps_break.imp fun D σ H ⟨w, s, I, f, s', hm, k⟩ => by
  rw [evS] at hm
  cases hm
  exact k w σ H (.refl w H) I
theorem s_cnt : PS X (.Continue pos) (tS K (evS c .cnt)) := ps_continue.imp fun D σ H ⟨w, s, I, f, s', hm, k⟩ => by
  rw [evS] at hm
  cases hm
  exact k w σ H (.refl w H) I
theorem s_never {st : Stmt} : PS X st (tS K (evS c .never)) := ps_never.imp fun D σ H ⟨w, s, I, f, s', hm, k⟩ => by
  rw [evS] at hm
  cases hm
theorem b_nil : PSs X [] (tS K (evB c [])) := pss_nil.imp fun D σ H ⟨w, s, I, f, s', hm, k⟩ => by
  rw [evB] at hm
  cases hm
  exact k w σ H (.refl w H) I
theorem b_cons {st : Stmt} {sts : List Stmt} {x : St} {xs : List St} (h1 : PS X st (tS K (evS c x))) (h2 : PSs X sts (tS K (evB c xs))) : PSs X (st :: sts) (tS K (evB c (x :: xs))) :=
  (pss_cons h1 h2).imp fun D σ H ⟨w, s, I, f, s', hm, k⟩ => by
    rw [evB] at hm
    split at hm
    · rename_i s1 h1
      refine ⟨w, s, I, .nx, s1, h1, fun w1 σ1 H1 E1 I1 => ⟨w1, s1, I1, f, s', hm, fun w2 σ2 H2 E2 I2 => k w2 σ2 H2 (E1.trans E2) I2⟩⟩
    · rename_i f1 s1 hne h1
      cases hm
      refine ⟨w, s, I, f, s', h1, fun w1 σ1 H1 E1 I1 => ?_⟩
      have q := k w1 σ1 H1 E1 I1
      cases f with
      | nx => exact (hne rfl).elim
      | brk => exact q
      | ct => exact q
      | ret r => exact q
    · cases hm
theorem s_if {ec : Expr} {a b : List Stmt} {t : Ex} {xs ys : List St} (hc : PT X ec (tT K fun s => testR (evE c t s))) (ha : PSs X a (tS K (evB c xs))) (hb : PSs X b (tS K (evB c ys))) : PS X (.If ec a b pos) (tS K (evS c (.ife t xs ys))) :=
  (ps_if (pos := pos) hc ha hb).imp fun D σ H ⟨w, s, I, f, s', hm, k⟩ => by
    rw [evS] at hm
    split at hm
    · rename_i s1 h1
      refine ⟨w, s, I, true, s1, h1, fun w1 H1 E1 I1 => ?_⟩
      show (if true = true then _ else _)
      rw [if_pos rfl]
      exact ⟨w1, s1, I1, f, s', hm, fun w2 σ2 H2 E2 I2 => k w2 σ2 H2 (E1.trans E2) I2⟩
    · rename_i s1 h1
      refine ⟨w, s, I, false, s1, h1, fun w1 H1 E1 I1 => ?_⟩
      show (if false = true then _ else _)
      rw [if_neg (by decide)]
      exact ⟨w1, s1, I1, f, s', hm, fun w2 σ2 H2 E2 I2 => k w2 σ2 H2 (E1.trans E2) I2⟩
    · cases hm
theorem s_while {ec : Expr} {body : List Stmt} {t : Ex} {xs : List St} (hp : PassesOwn (model X.prog X.w) X.A X.env X.xe) (hc : PT X ec (tT K fun s => testR (evE c t s))) (hb : PSs X body (tS K (evB c xs))) : PS X (.While ec body [] pos) (tS K (evS c (.whl t xs))) :=
  (ps_while (pos := pos) hp hc hb).imp fun D σ H0 ⟨w, s, I, f, s', hm, k⟩ => by
    rw [evS] at hm
    refine ⟨fun m σ H => ∃ w1 s1, Ext w H0 w1 H ∧ Sim K w1 s1 σ H ∧ whLoop (fun s => testR (evE c t s)) (evB c xs) m s1 = .ok (f, s'), ⟨c.N, w, s, .refl w _, I, hm⟩, ?_⟩
    rintro m σ1 H1 ⟨w1, s1, E1, I1, hl⟩
    cases m with
    | zero => cases hl
    | succ m =>
      unfold whLoop at hl
      split at hl
      · rename_i s2 h2
        cases hl
        refine ⟨w1, s1, I1, false, s', h2, fun w2 H2 E2 I2 => ?_⟩
        show (if false = true then _ else _)
        rw [if_neg (by decide)]
        exact k w2 σ1 H2 (E1.trans E2) I2
      · rename_i s2 h2
        refine ⟨w1, s1, I1, true, s2, h2, fun w2 H2 E2 I2 => ?_⟩
        show (if true = true then _ else _)
        rw [if_pos rfl]
        refine ⟨fun σ' H' => ∃ w3 s3, Ext w H0 w3 H' ∧ Sim K w3 s3 σ' H' ∧ whLoop (fun s => testR (evE c t s)) (evB c xs) m s3 = .ok (f, s'), fun σ' H' q => ⟨m, Nat.lt_succ_self m, q⟩, ?_⟩
        split at hl
        · rename_i s3 h3
          exact ⟨w2, s2, I2, .nx, s3, h3, fun w3 σ3 H3 E3 I3 => ⟨w3, s3, (E1.trans E2).trans E3, I3, hl⟩⟩
        · rename_i s3 h3
          exact ⟨w2, s2, I2, .ct, s3, h3, fun w3 σ3 H3 E3 I3 => ⟨w3, s3, (E1.trans E2).trans E3, I3, hl⟩⟩
        · rename_i s3 h3
          cases hl
          exact ⟨w2, s2, I2, .brk, s', h3, fun w3 σ3 H3 E3 I3 => k w3 σ3 H3 ((E1.trans E2).trans E3) I3⟩
        · rename_i r s3 h3
          cases hl
          exact ⟨w2, s2, I2, .ret r, s', h3, fun w3 σ3 H3 E3 I3 => k w3 σ3 H3 ((E1.trans E2).trans E3) I3⟩
        · cases hl
      · cases hl
theorem forLoop_cons {f : D → S → Rs Fl} {x : D} {xs : List D} {s : S} {r : Fl × S} (h : forLoop f (x :: xs) s = .ok r) : ∃ fl s', f x s = .ok (fl, s') ∧ (match fl with
    | .nx => forLoop f xs s' = .ok r
    | .ct => forLoop f xs s' = .ok r
    | .brk => r = (.nx, s')
    | .ret v => r = (.ret v, s')) := by
  unfold forLoop at h
  split at h
  · rename_i s' h1; exact ⟨.nx, s', h1, h⟩
  · rename_i s' h1; exact ⟨.ct, s', h1, h⟩
  · rename_i s' h1; cases h; exact ⟨.brk, s', h1, rfl⟩
  · rename_i v s' h1; cases h; exact ⟨.ret v, s', h1, rfl⟩
  · cases h
theorem s_for {tg iter : Expr} {body : List Stmt} {it : Ex} {t : Tg} {xs : List St} {g : TG} (hp : PassesOwn (model X.prog X.w) X.A X.env X.xe) (hc : X.calm = true) (hi : PI X tg iter (tI K false fun s => iterR (itms false) (evE c it s))) (hg : PG X tg g) (hT : TgOk K g t)
    (hb : PSs X body (tS K (evB c xs))) (hs : ∀ x, foldedSetIterable iter X.env x = pure x) : PS X (.For tg iter body [] pos) (tS K (evS c (.for_ t it xs))) :=
  (ps_for (pos := pos) hp hc hi hg hb hs).imp fun D σ H ⟨w, s, I, f, s', hm, k⟩ => by
    rw [evS] at hm
    split at hm
    · rename_i ys s1 h1
      refine ⟨w, s, I, ys, s1, h1, fun w1 H1 J E1 I1 W1 _ => ?_⟩
      refine ⟨fun i m σ H => m = ys.length - i ∧ i ≤ ys.length ∧ ∃ w2 s2, Ext w1 H1 w2 H ∧ Sim K w2 s2 σ H ∧ forLoop (fun x s2 => match asgD t x s2 with
          | .ok s3 => evB c xs s3
          | .error e => .error e) (ys.drop i) s2 = .ok (f, s'), ⟨ys.length, by simp, Nat.zero_le _, w1, s1, .refl w1 H1, I1, by rw [List.drop_zero]; exact hm⟩, ?_⟩
      rintro i m σ2 H2 ⟨rfl, hi', w2, s2, E2, I2, hl⟩
      have kp := E2.kp I1.bp
      by_cases hlt : i < ys.length
      · have hx : ys.drop i = ys[i] :: ys.drop (i + 1) := List.drop_eq_getElem_cons hlt
        rw [hx] at hl
        obtain ⟨fl, s3, hf, hrest⟩ := forLoop_cons hl
        refine .inr ⟨W1.go w2 H2 i kp hlt, fun σ' H' => ∃ w3 s3, Ext w1 H1 w3 H' ∧ Sim K w3 s3 σ' H' ∧ forLoop (fun x s2 => match asgD t x s2 with
          | .ok s3 => evB c xs s3
          | .error e => .error e) (ys.drop (i + 1)) s3 = .ok (f, s'), fun σ' H' ⟨w3, s3, q⟩ => ⟨ys.length - (i + 1), by omega, rfl, hlt, w3, s3, q⟩, fun v H3 y => ?_⟩
        obtain ⟨e, yv⟩ := W1.yld w2 H2 i v H3 kp y
        subst e
        have rv := yv ys[i] (List.getElem?_eq_getElem hlt)
        split at hf
        · rename_i s4 h4
          refine hT I2 rv h4 fun σ4 I4 _ => ⟨w2, s4, I4, fl, s3, hf, fun w5 σ5 H5 E5 I5 => ?_⟩
          cases fl with
          | nx => exact ⟨w5, s3, E2.trans E5, I5, hrest⟩
          | ct => exact ⟨w5, s3, E2.trans E5, I5, hrest⟩
          | brk =>
            cases hrest
            exact k w5 σ5 H5 ((E1.trans E2).trans E5) I5
          | ret r =>
            cases hrest
            exact k w5 σ5 H5 ((E1.trans E2).trans E5) I5
        · cases hf
      · have e : i = ys.length := by omega
        subst e
        rw [List.drop_length] at hl
        cases hl
        exact .inl ⟨W1.stop w2 H2 kp, k w2 σ2 H2 (E1.trans E2) I2⟩
    · cases hm
end
end Sk

end

section
set_option Elab.async false
set_option linter.all false
set_option maxRecDepth 100000
set_option maxHeartbeats 4000000
/-! SkQ: pairs stored in dicts, dict displays, [d[x] for x in d]. -/
namespace Sk
open PySem PySem.Spec PyProof.Rows L2
section
variable {X : Cx} {K : Cs} {c : Ctx} {pos : Pos}
def DPutO (H : Hp) (a : Addr) (y v : V) (o : HO) : Prop := DPut H a y v (upd H a o) ∨ (H a = some (.dK []) ∧ ∃ (kk : List Key) (b : Addr), y = .ref b ∧ H b = some (.tup (kk.map kV)) ∧ o = .dT [(kk, v)]) ∨ (H a = some (.dT []) ∧ ∃ kk : Key, y = kV kk ∧ o = .dK [(kk, v)])
def sPutO (i : Nat) (ty tv : TE) : TS := fun D σ H => tv σ H fun v H1 => ∃ x, σ[i]? = some (some x) ∧ ty σ H1 fun y H3 => ∃ a o, x = .ref a ∧ DPutO H3 a y v o ∧ D.nx σ (upd H3 a o)
theorem ps_putO {i : Nat} {o k value : Expr} {ty tv : TE} {pos' : Pos} (hu : X.A.units + 64 < cLine) (ho : PE X o (tVar i)) (hi : PE X k ty) (hv : PE X value tv) (hs : swapsWith value (some (.Subscript o k pos')) pos.line X.env = pure false) :
    PS X (.Assign [.Subscript o k pos'] value pos) (sPutO i ty tv) := by
  refine ⟨fun pins s σ H D I h => ?_⟩
  refine wpAny_Assign_Subscript (thn (hv.run pins s σ H _ I h) fun r s1 ⟨v, H1, I1, rv, x0, ea, q1⟩ => thn (ho.run pins s1 σ H1 (fun x H2 => x = x0 ∧ H2 = H1) I1 ⟨_, ea, rfl, rfl⟩) fun u s2 ⟨x, H2, I2, rx, ex, eH⟩ => ?_) hs
  subst ex eH
  refine thn (hi.run pins s2 σ H2 _ I2 q1) fun iv s3 ⟨y, H3, I3, ry, a, o, ea2, g, q3⟩ => ?_
  subst ea2
  obtain rfl : u = Value.ref a := rx
  rcases g with g | ⟨e, kk, b, rfl, eb, rfl⟩ | ⟨e, kk, rfl, rfl⟩
  · exact d_setItem (by omega) I3 g ry rv fun s4 I4 => ⟨σ, _, I4, q3⟩
  · have I4 := to_dT I3 e
    have g : DPut (upd H3 a (.dT [])) a (.ref b) v (upd (upd H3 a (.dT [])) a (.dT (putK [] kk v))) := DPut.t upd_same (by rw [upd_ne (ne_of eb e (by simp))]; exact eb) (by rw [sizeLine_eq]; decide)
    refine d_setItem (by omega) I4 g ry rv fun s4 I5 => ⟨σ, _, I5, ?_⟩
    rw [upd_upd]
    exact q3
  · have I4 := to_dK I3 e
    have g : DPut (upd H3 a (.dK [])) a (kV kk) v (upd (upd H3 a (.dK [])) a (.dK (putK [] kk v))) := DPut.k upd_same (by rw [sizeLine_eq]; decide)
    refine d_setItem (by omega) I4 g ry rv fun s4 I5 => ⟨σ, _, I5, ?_⟩
    rw [upd_upd]
    exact q3
theorem VRk.atoms {w : Wd} {H : Hp} : ∀ {ds : List (D × D)} {kvs : List (Key × V)}, VRk w H ds (kvs.map fun p => (kD p.1, p.2)) → (ds.all fun p => isAtom p.1) = true
  | [], [], .nil => rfl
  | _ :: _, q :: _, .cons _ t => by
    rw [List.all_cons, VRk.atoms t, Bool.and_true]
    exact isAtom_kD _
theorem sub_ev {i : Nat} {k e : Ex} {s s' : S} {f : Fl} (h : evS c (.sub i k e) s = .ok (f, s')) : ∃ r s1 d s2 dk s3, evE c e s = .ok (r, s1) ∧ freeze r s1 = .ok (d, s2) ∧ (content (slotAt s2 i)).isSome = true ∧ evE c k s2 = .ok (.val dk, s3) ∧ f = .nx ∧
    ((∃ kvs, slotAt s3 i = .own (.dct kvs) ∧ fitsKey dk kvs = true ∧ kvs.length < sz ∧ s' = { s3 with ρ := s3.ρ.set i (.own (.dct (putD dk d kvs))) }) ∨
     ∃ n kvs, slotAt s3 i = .val (.ref n) ∧ s3.mh[n]? = some (.dct kvs) ∧ isAtom dk = true ∧ kvs.length < sz ∧ s' = { s3 with mh := s3.mh.set n (.dct (putD dk d kvs)) }) := by
  rw [evS] at h
  split at h
  · rename_i r s1 h1
    split at h
    · rename_i d s2 h2
      split at h
      · rename_i h0
        split at h
        · rename_i dk s3 h3
          split at h
          · rename_i kvs h4
            split at h
            · rename_i h5
              cases h
              simp only [Bool.and_eq_true, decide_eq_true_eq] at h5
              exact ⟨r, s1, d, s2, dk, s3, h1, h2, h0, h3, rfl, .inl ⟨kvs, h4, h5.1, h5.2, rfl⟩⟩
            · cases h
          · rename_i n h4
            split at h
            · rename_i kvs h6
              split at h
              · rename_i h5
                cases h
                simp only [Bool.and_eq_true, decide_eq_true_eq] at h5
                exact ⟨r, s1, d, s2, dk, s3, h1, h2, h0, h3, rfl, .inr ⟨n, kvs, h4, h6, h5.1, h5.2, rfl⟩⟩
              · cases h
            · cases h
          · cases h
        · cases h
        · cases h
      · cases h
    · cases h
  · cases h
theorem content_at {i : Nat} {w : Wd} {s : S} {σ : L2.St} {H : Hp} (I : Sim K w s σ H) (h : (content (slotAt s i)).isSome = true) : ∃ x, σ[i]? = some (some x) := by
  cases q : slotAt s i with
  | un => rw [q] at h; cases h
  | val d =>
    obtain ⟨u, q1, x, q2, _⟩ := I.slot i _ (slotAt_some q (by simp))
    exact ⟨x, by rw [q1, q2]⟩
  | own d =>
    obtain ⟨u, q1, x, q2, _⟩ := I.slot i _ (slotAt_some q (by simp))
    exact ⟨_, by rw [q1, q2]⟩
  | bor d =>
    obtain ⟨u, q1, x, q2, _⟩ := I.slot i _ (slotAt_some q (by simp))
    exact ⟨_, by rw [q1, q2]⟩
theorem evE_slot {i : Nat} {w : Wd} {s : S} {σ : L2.St} {H : Hp} (I : Sim K w s σ H) {d : D} (h : slotAt s i = .own d) : ∃ a, σ[i]? = some (some (.ref a)) ∧ CAt w H a d := by
  obtain ⟨u, q1, a, q2, q3⟩ := I.slot i _ (slotAt_some h (by simp))
  subst q2
  exact ⟨a, q1, q3⟩
theorem s_sub {i : Nat} {x : Str} {k value : Expr} {ek ev : Ex} {px pos' : Pos} (hu : X.A.units + 64 < cLine) (hN : X.N[i]? = some x) (hv : Vis X.env.scope x) (hd : (x == ("__debug__" : Str)) = false) (hcd : (x == ("__classdict__" : Str)) = false)
    (hk : PE X k (tE K (evE c ek))) (he : PE X value (tE K (evE c ev))) (hs : swapsWith value (some (.Subscript (.Name x px) k pos')) pos.line X.env = pure false) : PS X (.Assign [.Subscript (.Name x px) k pos'] value pos) (tS K (evS c (.sub i ek ev))) :=
  (ps_putO (pos := pos) hu (pe_var (pos := px) hN hv hd hcd) hk he hs).imp fun D σ H ⟨w, s, I, f, s', hm, k⟩ => by
    obtain ⟨r, s1, d, s2, dk, s3, h1, h2, h0, h3, rfl, h4⟩ := sub_ev hm
    refine ⟨w, s, I, r, s1, h1, fun w1 H1 v E1 I1 r1 => ?_⟩
    obtain ⟨w2, E2, I2, r2⟩ := freeze_ok I1 r1 h2
    obtain ⟨xv, hxv⟩ := content_at I2 h0
    refine ⟨xv, hxv, w2, s2, I2, _, s3, h3, fun w3 H3 y E3 I3 r3 => ?_⟩
    have E := (E1.trans E2).trans E3
    have rv := VR.ext E3.toLe r2
    rcases h4 with ⟨kvs, hs, hf, hl, rfl⟩ | ⟨n, kvs, hs, hmo, hf, hl, rfl⟩
    · obtain ⟨a, ea, ca⟩ := evE_slot I3 hs
      rw [hxv] at ea
      cases ea
      obtain ⟨o, g, hc⟩ := dput_of ca r3 rv hf (by rw [← sz_eq]; exact hl)
      obtain ⟨E4, I4⟩ := I3.put_own (d' := .dct (putD dk d kvs)) (slotAt_some hs (by simp)) hxv hc
      exact ⟨a, o, rfl, g, k w3 σ _ (E.trans E4) I4⟩
    · obtain ⟨u, q1, x, q2, q3⟩ := I3.slot i _ (slotAt_some hs (by simp))
      subst q2
      rw [hxv] at q1
      cases q1
      cases q3 with
      | ref hn =>
        obtain ⟨kvs', e1, ra⟩ := I3.mo n _ hmo
        obtain ⟨kk, ek⟩ := isAtom_kOf hf
        have ey := kOf_v ek (.inl r3 : PVR w3 H3 dk y)
        subst ey
        obtain ⟨E4, I4⟩ := I3.put_mo (o := .dK (putK kvs' kk v)) (m' := .dct (putD dk d kvs)) hmo fun le => ⟨_, upd_same, VRk.ext le (by
          rw [← kD_kOf ek]
          exact put_keys kD keyEq_kD kk rv ra)⟩
        refine ⟨_, _, rfl, .inl (DPut.k e1 ?_), k w3 σ _ (E.trans E4) I4⟩
        have := ra.length
        rw [List.length_map] at this
        rw [← this, ← sz_eq]
        exact hl

/-! ### {k: v, ..}: a shared dict -/
/-- a kept value -/
def tF (K : Cs) (m : S → Rs RV) : TE := fun σ H Q => ∃ w s, Sim K w s σ H ∧ ∃ r s1 d s2, m s = .ok (r, s1) ∧ freeze r s1 = .ok (d, s2) ∧ ∀ w' H' v, Ext w H w' H' → Sim K w' s2 σ H' → VR w' H' d v → Q v H'
theorem f_of {e : Expr} {m : S → Rs RV} (h : PE X e (tE K m)) : PE X e (tF K m) := h.imp fun σ H Q ⟨w, s, I, r, s1, d, s2, h1, h2, k⟩ => ⟨w, s, I, r, s1, h1, fun w1 H1 v E1 I1 r1 => by
  obtain ⟨w2, E2, I2, r2⟩ := freeze_ok I1 r1 h2
  exact k w2 H1 v (E1.trans E2) I2 r2⟩
/-- the pairs of a display: texts, values -/
def trsOf (K : Cs) (c : Ctx) : List (List Nat) → List Ex → List (TE × TE)
  | k :: ks, x :: xs => (L2.tC (.str ⟨k.toArray⟩), tF K (evE c x)) :: trsOf K c ks xs
  | _, _ => []
theorem evA_cons {e : Ex} {es : List Ex} {s s' : S} {ds : List D} (h : evA c (e :: es) s = .ok (ds, s')) : ∃ r s1 d s2 ds', evE c e s = .ok (r, s1) ∧ freeze r s1 = .ok (d, s2) ∧ evA c es s2 = .ok (ds', s') ∧ ds = d :: ds' := by
  rw [evA] at h
  split at h
  · rename_i r s1 h1
    split at h
    · rename_i d s2 h2
      split at h
      · rename_i ds' s3 h3
        cases h
        exact ⟨r, s1, d, s2, ds', h1, h2, h3, rfl⟩
      · cases h
    · cases h
  · cases h
theorem pairs_ok : ∀ {ks : List (List Nat)} {xs : List Ex} {ds : List D} {w : Wd} {s s' : S} {σ : L2.St} {H : Hp} {Q : List (V × V) → Hp → Prop}, ks.length = xs.length → Sim K w s σ H → evA c xs s = .ok (ds, s') →
    (∀ w' H' vs, Ext w H w' H' → Sim K w' s' σ H' → VRs w' H' ds vs → Q ((ks.map fun k => V.str ⟨k.toArray⟩).zip vs) H') → tPairs (trsOf K c ks xs) σ H Q
  | [], [], _, w, s, s', σ, H, Q, _, I, e, k => by
    rw [evA] at e
    cases e
    exact k w H [] (.refl w H) I .nil
  | [], _ :: _, _, _, _, _, _, _, _, hl, _, _, _ => by cases hl
  | _ :: _, [], _, _, _, _, _, _, _, hl, _, _, _ => by cases hl
  | kk :: ks, x :: xs, _, w, s, s', σ, H, Q, hl, I, e, k => by
    obtain ⟨r, s1, d, s2, ds', h1, h2, h3, rfl⟩ := evA_cons e
    exact ⟨w, s, I, r, s1, d, s2, h1, h2, fun w1 H1 v E1 I1 r1 => pairs_ok (by simpa using hl) I1 h3 fun w2 H2 vs E2 I2 r2 => k w2 H2 (v :: vs) (E1.trans E2) I2 (.cons (VR.ext E2.toLe r1) r2)⟩
theorem merge_new : ∀ (more acc : List (Key × V)), (more.map (·.1)).Nodup → (∀ p ∈ more, valV acc p.1 = none) → mergeK acc more = acc ++ more
  | [], acc, _, _ => (List.append_nil acc).symm
  | p :: r, acc, hn, ha => by
    rw [List.map_cons, List.nodup_cons] at hn
    show mergeK (putK acc p.1 p.2) r = _
    rw [putK_new p.2 (ha p List.mem_cons_self), merge_new r _ hn.2 fun q hq => ?_, List.append_assoc]
    · rfl
    · have hne : q.1 ≠ p.1 := fun e => hn.1 (by rw [← e]; exact List.mem_map_of_mem hq)
      rw [valV_snoc p.1 q.1 p.2 acc (ha p List.mem_cons_self), if_neg hne]
      exact ha q (List.mem_cons_of_mem _ hq)
def strD (k : List Nat) : D := .str k
theorem zip_vrk {w : Wd} {H : Hp} : ∀ {ks : List (List Nat)} {ds : List D} {vs : List V}, ks.length = ds.length → VRs w H ds vs → VRk w H ((ks.map strD).zip ds) ((((ks.map fun k => (Sum.inr ⟨k.toArray⟩ : Key)).zip vs)).map fun p => (kD p.1, p.2))
  | [], _, _, hl, h => by
    cases h with
    | nil => exact .nil
    | cons _ _ => cases hl
  | k :: ks, _, _, hl, h => by
    cases h with
    | nil => cases hl
    | cons r t =>
      have e : kD (Sum.inr ⟨k.toArray⟩ : Key) = strD k := by simp [kD, strD]
      show VRk w H ((strD k, _) :: _) ((kD (Sum.inr ⟨k.toArray⟩ : Key), _) :: _)
      rw [e]
      exact .cons r (zip_vrk (by simpa using hl) t)
theorem zip_kv : ∀ (ks : List (List Nat)) (vs : List V), (ks.map fun k => V.str ⟨k.toArray⟩).zip vs = (((ks.map fun k => (Sum.inr ⟨k.toArray⟩ : Key)).zip vs)).map fun kv => (kV kv.1, kv.2)
  | [], _ => rfl
  | k :: ks, [] => rfl
  | k :: ks, v :: vs => by
    show (V.str ⟨k.toArray⟩, v) :: (ks.map fun k => V.str ⟨k.toArray⟩).zip vs = (kV (Sum.inr ⟨k.toArray⟩ : Key), v) :: _
    rw [zip_kv ks vs]
    rfl
/-- a new shared object -/
def Wd.more (w : Wd) (p : Addr) : Wd := { w with ι := fun n => if n = w.n then p else w.ι n, n := w.n + 1 }
theorem Sim.more {w : Wd} {s : S} {σ : L2.St} {H : Hp} (I : Sim K w s σ H) {p : Addr} {m : MO} (hl : ¬ w.Z p ∧ ¬ w.P p ∧ ∀ x, ¬ OwnAt s σ w x p) (hm : MOR w H p m) : Ext w H (w.more p) H ∧ Sim K (w.more p) { s with mh := s.mh ++ [m] } σ H := by
  have le : Le w H (w.more p) H := ⟨fun _ z => z, fun _ _ => rfl, fun n h => by show (if n = w.n then p else w.ι n) = _; rw [if_neg (by omega)], Nat.le_succ _⟩
  have sep : ∀ {x a}, OwnAt { s with mh := s.mh ++ [m] } σ (w.more p) x a → (x = .inr w.n ∧ a = p) ∨ OwnAt s σ w x a := fun {x a} h => by
    cases x with
    | inl j => exact .inr h
    | inr n =>
      obtain ⟨h1, h2⟩ := h
      have h1 : n < w.n + 1 := h1
      have h2 : (if n = w.n then p else w.ι n) = a := h2
      by_cases hn : n = w.n
      · rw [if_pos hn] at h2
        exact .inl ⟨by rw [hn], h2.symm⟩
      · rw [if_neg hn] at h2
        exact .inr ⟨by omega, h2⟩
  refine ⟨⟨le, fun _ _ => rfl, rfl, rfl⟩, fun q h => VR.ext le (I.con q h), I.zd, I.pd, I.bp, I.zp, I.len, fun j x h => ?_, ?_, fun n o h => ?_, fun x a h => ?_, fun x y a h1 h2 => ?_⟩
  · obtain ⟨v, q1, r⟩ := I.slot j x h
    exact ⟨v, q1, r.ext le rfl fun _ _ q => q⟩
  · show (s.mh ++ [m]).length = w.n + 1
    rw [List.length_append, I.mlen]
    rfl
  · have h : (s.mh ++ [m])[n]? = some o := h
    by_cases hn : n < s.mh.length
    · rw [List.getElem?_append_left hn] at h
      rw [le.ι n (by rw [← I.mlen]; exact hn)]
      exact (I.mo n o h).ext le rfl
    · rw [List.getElem?_append_right (by omega)] at h
      have e : n = w.n := by
        have := (List.getElem?_eq_some_iff.mp h).1
        simp at this
        have := I.mlen
        omega
      subst e
      rw [I.mlen, Nat.sub_self] at h
      cases h
      show MOR (w.more p) H (if w.n = w.n then p else w.ι w.n) m
      rw [if_pos rfl]
      exact hm.ext le rfl
  · rcases sep h with ⟨_, rfl⟩ | h
    · exact ⟨hl.1, hl.2.1⟩
    · exact I.fr x a h
  · rcases sep h1 with ⟨e1, e2⟩ | k1 <;> rcases sep h2 with ⟨e3, e4⟩ | k2
    · rw [e1, e3]
    · rw [e2] at k2; exact absurd k2 (hl.2.2 _)
    · rw [e4] at k1; exact absurd k1 (hl.2.2 _)
    · exact I.inj x y a k1 k2
theorem s_disp {keys : List (Option Expr)} {values : List Expr} {ks : List (List Nat)} {xs : List Ex} (h : PPs X pos keys values (trsOf K c ks xs)) (hall : keys.all (·.isSome) = true) (hl : keys.length = values.length) (h0 : keys ≠ []) (h15 : keys.length ≤ 15)
    (hk : ks.length = xs.length) (hk15 : ks.length ≤ 15) (hn : ks.Nodup) : PE X (.Dict keys values pos) (tE K (evE c (.disp (ks.map strD) xs))) :=
  (pe_disp (pos := pos) h hall hl h0 h15).imp fun σ H Q ⟨w, s, I, r, s', hm, k⟩ => by
    rw [evE] at hm
    split at hm
    · rename_i ds s1 h1
      cases hm
      intro p hp
      have fp := I.fresh hp
      have g : Grow w H w (upd H p (.dK [])) := .own hp
      have I1 := g.sim I
      have E1 := g.ext I
      have LO : Lone K w s σ (upd H p (.dK [])) p := ⟨⟨_, upd_same⟩, fp⟩
      have I2 := I1.hold (p := fun a => a = p) fun b hb => by subst hb; exact LO
      refine pairs_ok hk I2 h1 fun w2 H2 vs E2 I3 r3 => ?_
      obtain ⟨q1, q2⟩ := Lone.back (p := fun a => a = p) LO rfl I3 E2
      have I4 := I3.free I1.bp E2
      have r4 : VRs (w2.free w) H2 ds vs := VRs.ext (Wd.free_le w2 w H2) r3
      have hds : ks.length = ds.length := by rw [evA_len h1, hk]
      refine ⟨q1.trans upd_same, (ks.map fun k => (Sum.inr ⟨k.toArray⟩ : Key)).zip vs, zip_kv ks vs, ?_, ?_⟩
      · rw [List.length_zip, List.length_map]
        omega
      · have em : mergeK [] ((ks.map fun k => (Sum.inr ⟨k.toArray⟩ : Key)).zip vs) = (ks.map fun k => (Sum.inr ⟨k.toArray⟩ : Key)).zip vs := by
          rw [merge_new _ [] ?_ fun _ _ => rfl, List.nil_append]
          rw [List.map_fst_zip (by rw [List.length_map, hds, r4.length]; exact Nat.le_refl _)]
          refine List.Pairwise.map _ (fun a b hne e => hne ?_) hn
          have e2 := congrArg Str.cps (Sum.inr.inj e)
          have e3 := congrArg Array.toList e2
          simpa using e3
        rw [em]
        obtain ⟨E5, I5⟩ := I4.lone (o := .dK ((ks.map fun k => (Sum.inr ⟨k.toArray⟩ : Key)).zip vs)) q2.2
        obtain ⟨E6, I6⟩ := I5.more (m := .dct ((ks.map strD).zip ds)) q2.2 ⟨_, upd_same, VRk.ext E5.toLe (zip_vrk hds r4)⟩
        refine k _ _ _ (((E1.trans E2.free).trans E5).trans E6) I6 ?_
        have hr : VR ((w2.free w).more p) (upd H2 p (.dK ((ks.map fun k => (Sum.inr ⟨k.toArray⟩ : Key)).zip vs))) (.ref (w2.free w).n) (.ref (((w2.free w).more p).ι (w2.free w).n)) := .ref (Nat.lt_succ_self _)
        have e1 : ((w2.free w).more p).ι (w2.free w).n = p := by show (if _ = _ then p else _) = p; rw [if_pos rfl]
        rw [e1] at hr
        have e2 : s1.mh.length = (w2.free w).n := I4.mlen
        rw [e2]
        exact hr
    · cases hm

/-! ### [d[x] for x in d] -/
theorem dvals_ev {i : Nat} {s s' : S} {r : RV} (h : evE c (.dvals i) s = .ok (r, s')) : ∃ kvs, slotAt s i = .own (.dct kvs) ∧ (kvs.all fun p => isAtom p.1) = true ∧ r = .own (.lst (kvs.map fun p => (lookD p.1 kvs).getD .non)) ∧ s' = s := by
  rw [evE] at h
  split at h
  · rename_i kvs h1
    split at h <;> cases h
    rename_i h2
    exact ⟨kvs, h1, h2, rfl, rfl⟩
  · cases h
end
end Sk

end

section
set_option Elab.async false
set_option linter.all false
set_option maxRecDepth 100000
set_option maxHeartbeats 4000000
/-! SkR: rules for the checker. -/
namespace Sk
open PySem PySem.Spec PyProof.Rows L2

/-! ### what is known of a def's surroundings -/
structure Inf where
  N : List Str
  con : List (Str × D)
  defs : List (Str × Nat)
  bl : List Str
/-- a whole number, a text, a truth value, None: its value -/
def scalV : D → Option V
  | .int i => some (.int i)
  | .str x => some (.str ⟨x.toArray⟩)
  | .bl b => some (.bl b)
  | .non => some .non
  | _ => none
def atomV : D → V
  | .int i => .int i
  | .str x => .str ⟨x.toArray⟩
  | _ => .non
/-- a module's tuple of whole numbers and texts -/
structure KT (Kf : PySem.W.Frag) (a : Addr) (ds : List D) : Prop where
  atm : ds.all isAtom = true
  ex : ∃ (o : Obj) (its : Array Value) (n : Nat), Kf.lookup a = some o ∧ o.cls = .type "tuple" ∧ o.data = .seq its n ∧ its.size ≤ sizeLine ∧ Vals (ds.map atomV) its.toList
/-- what a module's name stands for -/
def ConOk (Kf : PySem.W.Frag) (mg : Str → Option Value) (x : Str) (d : D) : Prop := ∃ u, mg x = some u ∧ ((∃ v, scalV d = some v ∧ RelV v u) ∨ ∃ ds a, d = .tup ds ∧ u = .ref a ∧ KT Kf a ds)
structure Stat (X : Cx) (K : Cs) (c : Ctx) (inf : Inf) : Prop where
  calm : X.calm = true
  nd : X.N.Nodup
  hN : X.N = inf.N
  un : X.A.units + 64 < cLine
  defs : ∀ f x np, inf.defs[f]? = some (x, np) → CalF X K c x f np
  con : ∀ x d, (x, d) ∈ inf.con → ConOk X.K X.mg x d
  bl : ∀ x ∈ inf.bl, X.mg x = none
theorem Stat.blk {X : Cx} {K : Cs} {c : Ctx} {inf : Inf} (h : Stat X K c inf) (s : Shared) (H : Hp) (scope : Scope) (cenv : Env) (fp : List Addr) : Stat (X.blk s H scope cenv fp) K c inf :=
  ⟨h.calm, h.nd, h.hN, h.un, fun f x np e => ⟨(h.defs f x np e).esc, (h.defs f x np e).ex⟩, h.con, h.bl⟩
/-- the scope, and (in a block) the names that the block stores in cells -/
structure Scp (X : Cx) (sc : Scope) (bs : Option Scope) : Prop where
  sc : X.env.scope = sc
  fb : ∀ b x, bs = some b → (b.names.lookup x == some .cell) = true → X.fn x = true
  bn : bs = none → ∀ x, X.fn x = true
theorem Scp.blk {X : Cx} {sc : Scope} {bs : Option Scope} (h : Scp X sc bs) (s : Shared) (H : Hp) (C : Addr) (cl : List (Str × Addr)) (scope : Scope) (fp : List Addr) : Scp (X.blk s H scope (compEnvC scope cl C X.env) fp) (relS scope sc) (some scope) :=
  ⟨by rw [← h.sc]; rfl, (fun b x e q => by cases e; exact q), (fun e => nomatch e)⟩

/-! ### looks at a scope -/
def visC (sc : Scope) (x : Str) : Bool := match sc.names.lookup x with
  | some .local => true
  | some .cell => true
  | some .free => true
  | _ => false
def locC (sc : Scope) (bs : Option Scope) (x : Str) : Bool := match sc.names.lookup x with
  | some .local => true
  | some .cell => (match bs with
    | some b => b.names.lookup x == some .cell
    | none => true)
  | _ => false
def glC (sc : Scope) (x : Str) : Bool := match sc.names.lookup x with
  | some .globalImplicit => true
  | _ => false
def okN1 (x : Str) : Bool := !(x == ("__debug__" : Str)) && !(x == ("__classdict__" : Str))
section
variable {X : Cx} {K : Cs} {c : Ctx} {inf : Inf} {sc : Scope} {bs : Option Scope} {pos : Pos}
theorem vis_ok (h : Scp X sc bs) {x : Str} (e : visC sc x = true) : Vis X.env.scope x := by
  rw [h.sc]
  unfold visC at e
  split at e <;> first
    | (rename_i q; exact .inl q)
    | (rename_i q; exact .inr (.inl q))
    | (rename_i q; exact .inr (.inr q))
    | cases e
theorem loc_ok (h : Scp X sc bs) {x : Str} (e : locC sc bs x = true) : Loc X.env.scope x ∧ (X.fn x = true ∨ X.env.scope.names.lookup x = some .local) := by
  rw [h.sc]
  unfold locC at e
  split at e
  · rename_i q
    exact ⟨.inl q, .inr q⟩
  · rename_i q
    split at e
    · rename_i b
      exact ⟨.inr q, .inl (h.fb b x rfl e)⟩
    · exact ⟨.inr q, .inl (h.bn rfl x)⟩
  · cases e
theorem gl_ok (h : Scp X sc bs) {x : Str} (e : glC sc x = true) : Gl X x := by
  show X.env.scope.names.lookup x = _
  rw [h.sc]
  unfold glC at e
  split at e
  · assumption
  · cases e
theorem okN1_ok {x : Str} (h : okN1 x = true) : (x == ("__debug__" : Str)) = false ∧ (x == ("__classdict__" : Str)) = false := by
  unfold okN1 at h
  simpa using h

/-! ### constants -/
def ckLit (inf : Inf) (sc : Scope) : Expr → D → Bool
  | .Constant .none _ _, .non => true
  | .Constant (.bool b) _ _, .bl b' => b == b'
  | .Constant (.int i) _ _, .int j => i == j
  | .Constant (.str x) _ _, .str y => x.cps.toList == y
  | .UnaryOp .USub (.Constant (.int i) _ _) _, .int j => -i == j
  | .Name x _, d => glC sc x && (okN1 x && (decide ((x, d) ∈ inf.con) && (scalV d).isSome))
  | _, _ => false
theorem lit_ok (S : Stat X K c inf) (h : Scp X sc bs) {e : Expr} {d : D} (hc : ckLit inf sc e d = true) : PE X e (tE K (evE c (.lit d))) := by
  unfold ckLit at hc
  split at hc
  · exact s_lit pe_non fun _ _ _ _ _ => .non
  · rw [beq_iff_eq] at hc
    subst hc
    exact s_lit pe_bl fun _ _ _ _ _ => .bl _
  · rw [beq_iff_eq] at hc
    subst hc
    exact s_lit pe_int fun _ _ _ _ _ => .int _
  · rename_i x _ _ y
    rw [beq_iff_eq] at hc
    subst hc
    refine s_lit pe_str fun w s σ H _ => ?_
    obtain ⟨x⟩ := x
    have q : VR w H (.str x.toList) (.str ⟨x.toList.toArray⟩) := .str _
    simpa using q
  · rename_i i k1 p1 p2 j
    rw [beq_iff_eq] at hc
    subst hc
    have h0 : PE X (.UnaryOp .USub (.Constant (.int i) k1 p1) p2) (tUn (rU fun i => .int (-i)) (L2.tC (.int i))) := pe_un (pos := p2) un_neg (pe_int (j := k1) (pos := p1))
    exact h0.imp fun σ H Q ⟨w, s, I, r, s', hm, k⟩ => by
      rw [evE] at hm
      cases hm
      exact ⟨i, rfl, k w H _ (.refl w H) I (.int _)⟩
  · rename_i x p d
    simp only [Bool.and_eq_true, decide_eq_true_eq] at hc
    obtain ⟨u, hm, ⟨v, hv, rv⟩ | ⟨ds, a, rfl, _⟩⟩ := S.con _ _ hc.2.2.1
    · refine s_lit (pe_glob (gl_ok h hc.1) hm rv (okN1_ok hc.2.1).1) fun w s σ H _ => ?_
      unfold scalV at hv
      split at hv <;> first
        | (cases hv; first | exact .int _ | exact .str _ | exact .bl _ | exact .non)
        | cases hv
    · simp [scalV] at hc
  · cases hc
/-! ### comparisons with the module's tuples -/
theorem KT.dpAll {Kf : PySem.W.Frag} {H : Hp} : ∀ {ds : List D}, ds.all isAtom = true → DpAll Kf H (ds.map atomV) (toPys ds)
  | [], _ => .nil
  | d :: ds, h => by
    simp only [List.all_cons, Bool.and_eq_true] at h
    refine .cons ?_ (KT.dpAll h.2)
    cases d <;> simp only [isAtom, Bool.false_eq_true, false_and] at h
    · exact .int _
    · exact .str _
theorem KT.dp {Kf : PySem.W.Frag} {H : Hp} {a : Addr} {ds : List D} (h : KT Kf a ds) : Dp Kf H (.ref a) (toPy (.tup ds)) := .tup (.inr h.ex) (KT.dpAll h.atm)
theorem atomV_inj : ∀ {ds es : List D}, ds.all isAtom = true → es.all isAtom = true → ds.map atomV = es.map atomV → ds = es
  | [], [], _, _, _ => rfl
  | [], _ :: _, _, _, h => by cases h
  | _ :: _, [], _, _, h => by cases h
  | d :: ds, e :: es, h, h', q => by
    simp only [List.all_cons, Bool.and_eq_true] at h h'
    simp only [List.map_cons, List.cons.injEq] at q
    rw [atomV_inj h.2 h'.2 q.2]
    cases d <;> simp only [isAtom, Bool.false_eq_true, false_and] at h <;> cases e <;> simp only [isAtom, Bool.false_eq_true, false_and] at h' <;> have q1 := q.1 <;> simp only [atomV] at q1 <;> first
      | (injection q1 with q1; rw [q1])
      | (injection q1 with q1; injection q1 with q1; have q2 := congrArg Array.toList q1; simp only [List.toList_toArray] at q2; rw [q2])
      | cases q1
theorem KT.uniq {Kf : PySem.W.Frag} {a : Addr} {ds es : List D} (h : KT Kf a ds) (h' : KT Kf a es) : ds = es := by
  obtain ⟨o, its, n, e1, e2, e3, e4, e5⟩ := h.ex
  obtain ⟨o', its', n', f1, f2, f3, f4, f5⟩ := h'.ex
  rw [e1] at f1
  cases f1
  rw [e3] at f3
  cases f3
  exact atomV_inj h.atm h'.atm (Vals.inj e5 f5)
noncomputable def eqK (Kf : PySem.W.Frag) (x : D) (u : Value) : Bool := by
  classical
  exact if h : ∃ ds : List D, ∃ a, u = .ref a ∧ KT Kf a ds then eqD (.tup h.choose) x else false
theorem eqK_of {Kf : PySem.W.Frag} {x : D} {a : Addr} {ds : List D} (k : KT Kf a ds) : eqK Kf x (.ref a) = eqD (.tup ds) x := by
  have h : ∃ ds : List D, ∃ b, (Value.ref a : Value) = .ref b ∧ KT Kf b ds := ⟨ds, a, rfl, k⟩
  unfold eqK
  rw [dif_pos h]
  obtain ⟨b, e, k'⟩ := h.choose_spec
  cases e
  rw [k'.uniq k]
inductive KTs (Kf : PySem.W.Frag) : List Addr → List D → Prop
  | nil : KTs Kf [] []
  | cons {a : Addr} {as : List Addr} {ds : List D} {es : List D} : KT Kf a ds → KTs Kf as es → KTs Kf (a :: as) (.tup ds :: es)
theorem KTs.length {Kf : PySem.W.Frag} : ∀ {as : List Addr} {es : List D}, KTs Kf as es → as.length = es.length
  | _, _, .nil => rfl
  | _, _, .cons _ t => congrArg Nat.succ t.length
theorem eqK_any {Kf : PySem.W.Frag} {x : D} : ∀ {as : List Addr} {es : List D} {us : List Value}, KTs Kf as es → Vals (as.map V.ref) us → us.any (eqK Kf x) = memD x es
  | _, _, _, .nil, .nil => rfl
  | _, _, _, .cons k t, .cons q u => by
    cases q
    show (eqK Kf x _ || _) = _
    rw [eqK_of k, eqK_any t u]
    rfl
theorem eqK_at {A : Around} {pins : List (Addr × Obj)} {s : Shared} {σ : L2.St} {H : Hp} {w : Wd} {x : D} {xv : V} {v : Value} (hu : A.units + 32 < cLine) (I : Inv X pins σ H s) (hx : PVR w H x xv) (rx : RelV xv v) :
    ∀ {as : List Addr} {es : List D} {us : List Value}, KTs X.K as es → Vals (as.map V.ref) us → (es.all fun y => okEq y x) = true → ∀ u ∈ us, SeqAt.EqAt A s u v (eqK X.K x u)
  | _, _, _, .nil, .nil, _ => fun u hu => by cases hu
  | _, _, _, .cons k t, .cons q z, h => by
    simp only [List.all_cons, Bool.and_eq_true] at h
    intro u h'
    rcases List.mem_cons.mp h' with rfl | h'
    · cases q
      rw [eqK_of k]
      obtain ⟨k1, k2, k3⟩ := okEq_of h.1
      obtain ⟨as, r1⟩ := Dp.reads I _ _ (.ref _) (k.dp (H := H)) rfl
      obtain ⟨bs, r2⟩ := Dp.reads I _ _ _ (hx.dp (Kf := X.K) k2) rx
      have l1 := depth_okN 20 _ k1
      exact PySem.W.eqAt_alike _ _ A s _ _ as bs r1 r2 k3 (by omega)
    · exact eqK_at hu I hx rx t z h.2 u h'
def rEqK (Kf : PySem.W.Frag) : R2 := fun x y H Q => ∃ (w : Wd) (d : D) (ds : List D) (a : Addr), PVR w H d x ∧ y = .ref a ∧ KT Kf a ds ∧ okEq d (.tup ds) = true ∧ Q (.bl (eqD d (.tup ds))) H
theorem o_eqK (hu : X.A.units + 64 < cLine) : OpR X (compareOp .Eq) (rEqK X.K) := by
  intro pins s σ H x y v u Q I rx ry h
  obtain ⟨w, d, ds, a, hd, rfl, k, ok, q⟩ := h
  obtain ⟨k1, k2, k3⟩ := okEq_of ok
  obtain ⟨as, r1⟩ := Dp.reads I _ x v (hd.dp k1) rx
  obtain ⟨bs, r2⟩ := Dp.reads I _ _ u (k.dp (H := H)) ry
  have l1 := depth_okN 20 d k1
  exact rcAt_alike r1 r2 k3 (by omega) _ _ _ _ ⟨.bl _, H, I, rfl, q⟩
def rMemK (Kf : PySem.W.Frag) : R2 := fun x y H Q => ∃ (w : Wd) (d : D) (es : List D) (p : Addr) (as : List Addr), PVR w H d x ∧ y = .ref p ∧ H p = some (.tup (as.map V.ref)) ∧ KTs Kf as es ∧ (es.all fun y => okEq y d) = true ∧ Q (.bl (memD d es)) H
theorem o_inK (hu : X.A.units + 64 < cLine) : OpR X (compareOp .In) (rMemK X.K) := by
  intro pins s σ H x y v u Q I rx ry h
  obtain ⟨w, d, es, p, as, hd, rfl, hp, r, ok, q⟩ := h
  cases ry
  obtain ⟨its, rv, pl, hz⟩ := I.tuple (.of hp)
  refine SeqAt.in_tupleAt (eqK X.K d) pl (fun z hz => eqK_at (in32 hu) I hd rx r rv ok z (by simpa using hz)) ⟨.bl _, H, I, rfl, ?_⟩
  rw [show its.toArray.any (eqK X.K d) = its.any (eqK X.K d) by simp, eqK_any r rv]
  exact q
def ckTup (inf : Inf) (sc : Scope) : Expr → D → Bool
  | .Name x _, .tup ds => glC sc x && (okN1 x && decide ((x, .tup ds) ∈ inf.con))
  | _, _ => false
def ckTups (inf : Inf) (sc : Scope) : List Expr → List D → Bool
  | [], [] => true
  | e :: es, d :: ds => ckTup inf sc e d && ckTups inf sc es ds
  | _, _ => false
theorem ckTup_ok (S : Stat X K c inf) (h : Scp X sc bs) {e : Expr} {d : D} (hc : ckTup inf sc e d = true) : ∃ ds a, d = .tup ds ∧ KT X.K a ds ∧ PE X e (L2.tC (.ref a)) ∧ starEach [e] X.env = (false, eval e X.env) :: [] ∧ noSet e = true := by
  unfold ckTup at hc
  split at hc
  · simp only [Bool.and_eq_true, decide_eq_true_eq] at hc
    rename_i ds
    obtain ⟨u, hm, ⟨v, hv, rv⟩ | ⟨ds', a, e, rfl, k⟩⟩ := S.con _ _ hc.2.2
    · simp [scalV] at hv
    · cases e
      exact ⟨ds, a, rfl, k, pe_glob (gl_ok h hc.1) hm rfl (okN1_ok hc.2.1).1, rfl, rfl⟩
  · cases hc
def tCs : List Addr → TA
  | [] => tNil
  | a :: as => tCons (L2.tC (.ref a)) (tCs as)
theorem tCs_of {σ : L2.St} {H : Hp} : ∀ {as : List Addr} {Q : List V → Hp → Prop}, Q (as.map V.ref) H → tCs as σ H Q
  | [], _, h => h
  | a :: as, Q, h => tCs_of (as := as) (Q := fun xs H => Q (.ref a :: xs) H) h
theorem ckTups_ok (S : Stat X K c inf) (h : Scp X sc bs) : ∀ {es : List Expr} {ds : List D}, ckTups inf sc es ds = true → ∃ as, KTs X.K as ds ∧ PA X es (tCs as)
  | [], [], _ => ⟨[], .nil, pa_nil⟩
  | [], _ :: _, hc => by cases hc
  | _ :: _, [], hc => by cases hc
  | e :: es, d :: ds, hc => by
    unfold ckTups at hc
    rw [Bool.and_eq_true] at hc
    obtain ⟨ds', a, rfl, k, pe, hs, _⟩ := ckTup_ok S h hc.1
    obtain ⟨as, ks, pa⟩ := ckTups_ok S h hc.2
    refine ⟨a :: as, .cons k ks, pa_cons pe pa ?_⟩
    have hc1 := hc.1
    unfold ckTup at hc1
    split at hc1
    · rfl
    · cases hc1
theorem t_eqK (S : Stat X K c inf) (h : Scp X sc bs) {ea eb : Expr} {y : Ex} {d : D} (ha : PE X ea (tE K (evE c y))) (hc : ckTup inf sc eb d = true) : PT X (.Compare ea [.Eq] [eb] pos) (tT K fun s => testR (evE c (.cmp .eq y (.lit d)) s)) := by
  obtain ⟨ds, a, rfl, k, pe, _, _⟩ := ckTup_ok S h hc
  refine (pt_cmpR (pos := pos) (o_eqK S.un) ha pe (nomark _)).imp fun σ H Q ⟨w, s, I, k', s', hm, kk⟩ => ?_
  obtain ⟨r, d, hm, hp, ht⟩ := testR_ok hm
  obtain ⟨ra, s1, rb, x, b, b', h1, h2, p1, p2, hr, e⟩ := cmp_ev hm
  subst e
  cases hp
  cases ht
  rw [evE] at h2
  cases h2
  cases p2

  have ok : okEq x (.tup ds) = true := by
    cases q : okEq x (.tup ds) with
    | true => rfl
    | false => simp [cmpD, q] at hr
  have e : k' = eqD x (.tup ds) := by
    simp only [cmpD, ok, if_true] at hr
    cases hr; rfl
  subst e
  exact ⟨w, s, I, ra, s', h1, fun w1 H1 v E1 I1 r1 => ⟨w1, x, ds, a, I1.peek r1 p1, rfl, k, ok, _, rfl, kk w1 H1 E1 I1⟩⟩
theorem t_inK (S : Stat X K c inf) (h : Scp X sc bs) {ea : Expr} {es : List Expr} {y : Ex} {ds : List D} {p : Pos} {n : Nat} (ha : PE X ea (tE K (evE c y))) (hc : ckTups inf sc es ds = true) (hl : ds.length ≤ sz) (hm : behindInMarks .In (.Tuple es n p) = false) :
    PT X (.Compare ea [.In] [.Tuple es n p] pos) (tT K fun s => testR (evE c (.cmp .inn y (.lit (.tup ds))) s)) := by
  obtain ⟨as, ks, pa⟩ := ckTups_ok S h hc
  refine (pt_cmpR (pos := pos) (o_inK S.un) ha (pe_tup (pos := p) (x1 := n) pa) hm).imp fun σ H Q ⟨w, s, I, k', s', hm, kk⟩ => ?_
  obtain ⟨r, d, hm, hp, ht⟩ := testR_ok hm
  obtain ⟨ra, s1, rb, x, b, b', h1, h2, p1, p2, hr, e⟩ := cmp_ev hm
  subst e
  cases hp
  cases ht
  rw [evE] at h2
  cases h2
  cases p2

  have ok : (ds.all fun y => okEq y x) = true := by
    cases q : (ds.all fun y => okEq y x) with
    | true => rfl
    | false => simp [cmpD, q] at hr
  have e : k' = memD x ds := by
    simp only [cmpD, ok, if_true] at hr
    cases hr; rfl
  subst e
  refine ⟨w, s, I, ra, s', h1, fun w1 H1 v E1 I1 r1 => ?_⟩
  refine tCs_of ⟨by rw [List.length_map, ks.length, ← sz_eq]; exact hl, fun q hq => ?_⟩
  have g : Grow w1 H1 w1 (upd H1 q (.tup (as.map V.ref))) := .own hq
  have I2 := g.sim I1
  have E2 := g.ext I1
  have r2 : PVR w1 (upd H1 q (.tup (as.map V.ref))) x v := by
    rcases I1.peek r1 p1 with z | ⟨a, e, z⟩
    · exact .inl (z.ext E2.toLe)
    · obtain ⟨o, ho⟩ := z.has
      exact .inr ⟨a, e, z.ext E2.toLe (upd_ne (ne_of_none ho hq))⟩
  exact ⟨w1, x, ds, q, as, r2, rfl, upd_same, ks, ok, _, rfl, kk w1 _ (E1.trans E2) I2⟩
/-- a def's name -/
def ckVar (inf : Inf) (sc : Scope) (i : Nat) (x : Str) : Bool := (match inf.N[i]? with
  | some y => decide (y = x)
  | none => false) && (visC sc x && okN1 x)
theorem var_at (S : Stat X K c inf) (h : Scp X sc bs) {i : Nat} {x : Str} (hc : ckVar inf sc i x = true) : X.N[i]? = some x ∧ Vis X.env.scope x ∧ (x == ("__debug__" : Str)) = false ∧ (x == ("__classdict__" : Str)) = false := by
  unfold ckVar at hc
  simp only [Bool.and_eq_true] at hc
  obtain ⟨h1, h2, h3⟩ := hc
  refine ⟨?_, vis_ok h h2, okN1_ok h3⟩
  rw [S.hN]
  split at h1
  · rename_i y q
    rw [q, of_decide_eq_true h1]
  · cases h1

/-! ### more tests -/
theorem t_isnone {ea : Expr} {x : Ex} {k : Nat} {p : Pos} (ha : PE X ea (tE K (evE c x))) : PT X (.Compare ea [.Is] [.Constant .none k p] pos) (tT K fun s => testR (evE c (.isnone x) s)) :=
  (pt_cmpR (pos := pos) op_isN ha (pe_non (j := k) (pos := p)) rfl).imp fun σ H Q ⟨w, s, I, b, s', hm, k⟩ => by
    obtain ⟨r, d, hr, hp, ht⟩ := testR_ok hm
    rw [evE] at hr
    split at hr
    · rename_i ra s1 h1
      split at hr
      · rename_i d' hp'
        cases hr
        cases hp
        cases ht
        refine ⟨w, s, I, ra, s', h1, fun w1 H1 v E1 I1 r1 => ⟨rfl, ?_⟩⟩
        have q := I1.peek r1 hp'
        have e : decide (v = V.non) = decide (d' = .non) := by
          cases d' with
          | non => rw [q.non_]; simp
          | bl b => rw [q.bl_]; simp
          | int i => rw [q.int_]; simp
          | str x => rw [q.str_]; simp
          | tup x => obtain ⟨a, vs, rfl, _⟩ := q.tup_; simp
          | lst x => obtain ⟨a, vs, rfl, _⟩ := q.lst_; simp
          | dct x => obtain ⟨a, rfl, _⟩ := q.dct_; simp
          | ref n => rw [q.ref_.2]; simp
        exact ⟨_, rfl, by rw [e]; exact k w1 H1 E1 I1⟩
      · cases hr
    · cases hr

/-! ### targets -/
def noFold : Expr → Bool
  | .Set _ _ _ => false
  | _ => true
theorem noFold_ok {e : Expr} {env : Env} (h : noFold e = true) : ∀ x, foldedSetIterable e env x = pure x := fun x => by
  cases e <;> first | rfl | simp [noFold] at h
def ckNm (inf : Inf) (sc : Scope) (bs : Option Scope) (i : Nat) : Expr → Bool
  | .Name x _ => (match inf.N[i]? with
    | some y => decide (y = x)
    | none => false) && locC sc bs x
  | _ => false
theorem nm_at (S : Stat X K c inf) (h : Scp X sc bs) {i : Nat} {e : Expr} (hc : ckNm inf sc bs i e = true) : ∃ x p, e = .Name x p ∧ X.N[i]? = some x ∧ Loc X.env.scope x ∧ (X.fn x = true ∨ X.env.scope.names.lookup x = some .local) := by
  unfold ckNm at hc
  split at hc
  · rename_i x p
    rw [Bool.and_eq_true] at hc
    obtain ⟨h1, h2⟩ := hc
    obtain ⟨h3, h4⟩ := loc_ok h h2
    refine ⟨x, p, rfl, ?_, h3, h4⟩
    rw [S.hN]
    split at h1
    · rename_i y q
      rw [q, of_decide_eq_true h1]
    · cases h1
  · cases hc
def ckNms (inf : Inf) (sc : Scope) (bs : Option Scope) : List Nat → List Expr → Bool
  | [], [] => true
  | i :: is, e :: es => ckNm inf sc bs i e && ckNms inf sc bs is es
  | _, _ => false
theorem nms_each (S : Stat X K c inf) (h : Scp X sc bs) : ∀ {is : List Nat} {es : List Expr}, ckNms inf sc bs is es = true → (assignEach es X.env) = es.map (fun e => (false, assign e X.env)) ∧ es.length = is.length ∧ PGs X es (gAll is)
  | [], [], _ => ⟨rfl, rfl, pgs_nil⟩
  | [], _ :: _, hc => by cases hc
  | _ :: _, [], hc => by cases hc
  | i :: is, e :: es, hc => by
    unfold ckNms at hc
    rw [Bool.and_eq_true] at hc
    obtain ⟨x, p, rfl, h1, h2, h3⟩ := nm_at S h hc.1
    obtain ⟨h4, h5, h6⟩ := nms_each S h hc.2
    have e1 : assignEach (.Name x p :: es) X.env = (false, assign (.Name x p) X.env) :: assignEach es X.env := rfl
    refine ⟨by rw [e1, h4]; rfl, congrArg Nat.succ h5, pgs_cons (pg_name S.nd h1 h2 h3) h6 (by rw [e1]; rfl)⟩
def ckTg (inf : Inf) (sc : Scope) (bs : Option Scope) : Tg → Expr → Bool
  | .nm i, e => ckNm inf sc bs i e
  | .tp is, .Tuple es _ _ => ckNms inf sc bs is es
  | _, _ => false
def gOf (Kf : PySem.W.Frag) : Tg → TG
  | .nm i => gName i
  | .tp is => gTup Kf is.length (gAll is)
theorem map_idx {es : List Expr} {env : Env} : (es.map fun e => ((false, assign e env) : Bool × (Value → Sem Unit))).findIdx? (·.1) = none := by
  rw [List.findIdx?_eq_none_iff]
  intro p hp
  obtain ⟨e, _, rfl⟩ := List.mem_map.mp hp
  rfl
theorem tg_ok (S : Stat X K c inf) (h : Scp X sc bs) {t : Tg} {e : Expr} (hc : ckTg inf sc bs t e = true) : PG X e (gOf X.K t) ∧ TgOk K (gOf X.K t) t := by
  cases t with
  | nm i =>
    obtain ⟨x, p, rfl, h1, h2, h3⟩ := nm_at S h hc
    exact ⟨pg_name S.nd h1 h2 h3, tg_name⟩
  | tp is =>
    unfold ckTg at hc
    split at hc
    · rename_i q; cases q
    · rename_i is' es _ _ q
      cases q
      obtain ⟨h4, h5, h6⟩ := nms_each S h hc
      exact ⟨pg_tup S.calm h6 (by rw [h4, List.length_map, h5]) (by rw [h4]; exact map_idx), tg_tup⟩
    · cases hc
end
end Sk

end

section
set_option Elab.async false
set_option linter.all false
set_option maxRecDepth 100000
set_option maxHeartbeats 4000000
/-! SkS: comprehensions that are stored at once; [d[x] for x in d]; sorted(set(..)). -/
namespace Sk
open PySem PySem.Spec PyProof.Rows L2
section
variable {X : Cx} {K : Cs} {c : Ctx} {inf : Inf} {sc : Scope} {bs : Option Scope} {pos : Pos}
theorem ps_setDc {i : Nat} {y : Str} {py : Pos} {kx vx tg iter : Expr} {ifs : List Expr} {scope : Scope} {own : List (Str × Nat)} {spos : Pos} {wi : TI} {g : TG} {tt : TT} {tk tv : TE} (hc : X.calm = true) (hN : X.N.Nodup) (hy : X.N[i]? = some y) (hyl : X.env.scope.names.lookup y = some .local)
    (hsw : swapsWith (.DictComp kx vx [⟨tg, iter, ifs, 0⟩] scope pos) (some (.Name y py)) spos.line X.env = pure true) (hi : PI X tg iter wi) (ok : BlkOk X.N X.env.scope scope own)
    (hg : ∀ (s : Shared) (H : Hp) (C : Addr) (cl : List (Str × Addr)) (fp : List Addr), PG (X.blk s H scope (compEnvC scope cl C X.env) fp) tg g) (ht : ∀ (s : Shared) (H : Hp) (C : Addr) (cl : List (Str × Addr)) (fp : List Addr), PTs (X.blk s H scope (compEnvC scope cl C X.env) fp) ifs tt)
    (hk : ∀ (s : Shared) (H : Hp) (C : Addr) (cl : List (Str × Addr)) (fp : List Addr), PE (X.blk s H scope (compEnvC scope cl C X.env) fp) kx tk)
    (he : ∀ (s : Shared) (H : Hp) (C : Addr) (cl : List (Str × Addr)) (fp : List Addr), PE (X.blk s H scope (compEnvC scope cl C X.env) fp) vx tv) (hs : ∀ x, foldedSetIterable iter X.env x = pure x) :
    PS X (.Assign [.Name y py] (.DictComp kx vx [⟨tg, iter, ifs, 0⟩] scope pos) spos) (tAsg (tDc wi g tt tk tv (own.map (·.2))) (gName i)) := by
  refine ⟨fun pins s σ H D I h => ?_⟩
  rw [exec_Assign_Name_used _ _ _ _ hsw]
  refine wpAny_bind (wpAny_standAt (wpAny_bind ?_))
  show wpAny _ X.A (do let _ ← comprehension (.DictComp kx vx [⟨tg, iter, ifs, 0⟩] scope pos) scope X.env (firstIterPos [⟨tg, iter, ifs, 0⟩] pos) newDict false (eval iter X.env) (some (assign (.Name y py) X.env))) _ _ s
  have h : tDc wi g tt tk tv (own.map (·.2)) σ H (fun x H1 => gName i x σ H1 D.nx) := h
  refine wpAny_bind (thn (dc_core (Qf := fun _ s' => SP X pins D .next s') hc hN I hi ok hg ht hk he hs h fun L C s' m H' I' q hn f => ?_) fun _ s' hq => wpAny_pure (wpAny_pure hq))
  show wpAny _ _ (assign (.Name y py) X.env (.ref L)) _ _ _
  refine wpAny_assign_Name (store_ok2 (v := V.ref L) I' hN hy (.inl hyl) rfl (fun s2 I2 ⟨a, sb, ha⟩ => ?_) (.inr hyl))
  obtain ⟨f0, f1, f2, f3, f4, f5⟩ := f
  have haC : C ≠ a := by
    rcases ha with z | z
    · rw [z]; exact f1
    · exact fun e => f4 y a z e.symm
  refine ⟨m, hn.sameBut sb haC, fun h3 sb3 => ?_⟩
  exact ⟨_, H', I2.turned (t' := s2.toks) (fun b o hb e => (sb3.2 b hb).trans e) f0 f1 f3 f4 f5, q⟩

/-! ### what a store of a comprehension is -/
def isFnK (sc : Scope) : Bool := match sc.kind with
  | .function => true
  | _ => false
def swC (sc scope : Scope) (y : Str) (py p : Pos) : Bool := sc.names.lookup y == some .local && (py.line == p.line && !(scope.names.any fun (n, k) => n == y && (k == .local || k == .cell)))
theorem blockKind_fn {env : Env} (h : isFnK env.scope = true) : (env.blockKind == .function) = true := by
  unfold isFnK at h
  split at h
  · rename_i hk
    unfold Env.blockKind
    rw [hk]
    rfl
  · cases h
theorem sw_lc {env : Env} {elt : Expr} {gs : List Comprehension} {scope : Scope} {p py : Pos} {y : Str} {l : Nat} (h : isFnK env.scope = true) : swapsWith (.ListComp elt gs scope p) (some (.Name y py)) l env = pure (swC env.scope scope y py p) := by
  have hb := blockKind_fn h
  unfold swapsWith swC
  simp only [hb, Bool.true_and, Env.kindOf, Expr.pos]
  rw [Bool.and_assoc]
theorem sw_dc {env : Env} {kx vx : Expr} {gs : List Comprehension} {scope : Scope} {p py : Pos} {y : Str} {l : Nat} (h : isFnK env.scope = true) : swapsWith (.DictComp kx vx gs scope p) (some (.Name y py)) l env = pure (swC env.scope scope y py p) := by
  have hb := blockKind_fn h
  unfold swapsWith swC
  simp only [hb, Bool.true_and, Env.kindOf, Expr.pos]
  rw [Bool.and_assoc]
/-- no comprehension -/
def noComp : Expr → Bool
  | .ListComp _ _ _ _ => false
  | .SetComp _ _ _ _ => false
  | .DictComp _ _ _ _ _ => false
  | _ => true
theorem sw_no {e : Expr} {t : Option Expr} {l : Nat} {env : Env} (h : noComp e = true) : swapsWith e t l env = pure false := by
  cases e <;> first | rfl | simp [noComp] at h
theorem lookup_local {sc : Scope} {y : Str} {scope : Scope} {py p : Pos} (h : swC sc scope y py p = true) : sc.names.lookup y = some .local := by
  unfold swC at h
  simp only [Bool.and_eq_true, beq_iff_eq] at h
  exact h.1

/-! ### [d[x] for x in d] -/
theorem VRk.vals {w : Wd} {H : Hp} {ds : List (D × D)} {kvs : List (Key × V)} (r : VRk w H ds (kvs.map fun p => (kD p.1, p.2))) : ∀ {k : Key} {v : V}, (k, v) ∈ kvs → ∃ u d, valV kvs k = some u ∧ lookD (kD k) ds = some d ∧ VR w H d u := fun {k v} hm => by
  have m := look_val kD keyEq_kD k r
  have hs : (valV kvs k).isSome = true := by
    rw [← valV_any]
    exact List.any_eq_true.mpr ⟨(k, v), hm, by simp⟩
  obtain ⟨u, hu⟩ := Option.isSome_iff_exists.mp hs
  rw [hu] at m
  cases hl : lookD (kD k) ds with
  | none => rw [hl] at m; exact m.elim
  | some d => rw [hl] at m; exact ⟨u, d, hu, rfl, m⟩
theorem vals_list {w : Wd} {H : Hp} {ds : List (D × D)} {kvs : List (Key × V)} (r : VRk w H ds (kvs.map fun p => (kD p.1, p.2))) : ∀ {es : List (D × D)} {ls : List (Key × V)}, VRk w H es (ls.map fun p => (kD p.1, p.2)) → (∀ p ∈ ls, p ∈ kvs) →
    VRs w H (es.map fun p => (lookD p.1 ds).getD .non) (ls.map fun p => (valV kvs p.1).getD .non)
  | [], [], .nil, _ => .nil
  | _ :: _, q :: ls, .cons _ t, hm => by
    obtain ⟨u, d, h1, h2, h3⟩ := VRk.vals r (k := q.1) (v := q.2) (hm q List.mem_cons_self)
    refine .cons ?_ (vals_list r t fun p hp => hm p (List.mem_cons_of_mem _ hp))
    show VR w H ((lookD (kD q.1) ds).getD .non) ((valV kvs q.1).getD .non)
    rw [h1, h2]
    exact h3
/-- what the state tells at the start -/
theorem _root_.L2.PE.inv {X : Cx} {e : Expr} {t : TE} (h : PE X e t) : PE X e (fun σ H Q => (σ.length = X.N.length ∧ ∀ a kvs, H a = some (.dK kvs) → kvs.length ≤ sizeLine) → t σ H Q) :=
  ⟨fun pins s σ H Q I hw => h.run pins s σ H Q I (hw ⟨I.len, fun a kvs e => (I.hok a _ e).1⟩)⟩
theorem s_dvals {i j : Nat} {x y : Str} {scope : Scope} {p1 p2 p3 p4 p5 : Pos} (S : Stat X K c inf) (h : Scp X sc bs) (hi : ckVar inf sc i x = true) (hij : i ≠ j) (hb : blkC inf.N sc scope [(y, j)] = true)
    (hx : ckVar inf (relS scope sc) i x = true) (hy : ckVar inf (relS scope sc) j y = true) (hyt : ckNm inf (relS scope sc) (some scope) j (.Name y p4) = true) :
    PE X (.ListComp (.Subscript (.Name x p1) (.Name y p2) p3) [⟨.Name y p4, .Name x p5, [], 0⟩] scope pos) (tE K (evE c (.dvals i))) := by
  obtain ⟨v1, v2, v3, v4⟩ := var_at S h hi
  have hok : BlkOk X.N X.env.scope scope [(y, j)] := by
    rw [S.hN, h.sc]
    exact blkOk_by hb
  have hg : ∀ (s : Shared) (H : Hp) (C : Addr) (cl : List (Str × Addr)) (fp : List Addr), PG (X.blk s H scope (compEnvC scope cl C X.env) fp) (.Name y p4) (gName j) := fun s H C cl fp => by
    obtain ⟨x', p', e, h1, h2, h3⟩ := nm_at (S.blk s H scope (compEnvC scope cl C X.env) fp) (h.blk s H C cl scope fp) hyt
    cases e
    exact pg_name (X := X.blk s H scope (compEnvC scope cl C X.env) fp) S.nd h1 h2 h3
  have he : ∀ (s : Shared) (H : Hp) (C : Addr) (cl : List (Str × Addr)) (fp : List Addr), PE (X.blk s H scope (compEnvC scope cl C X.env) fp) (.Subscript (.Name x p1) (.Name y p2) p3) (tOp (rIdx X.K) (tVar i) (tVar j)) := fun s H C cl fp => by
    obtain ⟨a1, a2, a3, a4⟩ := var_at (S.blk s H scope (compEnvC scope cl C X.env) fp) (h.blk s H C cl scope fp) hx
    obtain ⟨b1, b2, b3, b4⟩ := var_at (S.blk s H scope (compEnvC scope cl C X.env) fp) (h.blk s H C cl scope fp) hy
    exact pe_ix (X := X.blk s H scope (compEnvC scope cl C X.env) fp) (pos := p3) (o_idx (X := X.blk s H scope (compEnvC scope cl C X.env) fp) S.un) (pe_var (pos := p1) a1 a2 a3 a4) (pe_var (pos := p2) b1 b2 b3 b4) (noSlc_ok rfl)
  refine (pe_lock (pe_lc (pos := pos) S.calm S.nd (pi_keys (pe_var (pos := p5) v1 v2 v3 v4)) hok hg (fun s H C cl fp => pts_nil) he (noFold_ok rfl))).inv.imp fun σ H Q ⟨w, s, I, r, s', hm, k⟩ ⟨hσ, hsz⟩ => ?_
  obtain ⟨ds, hs, hat, rfl, rfl⟩ := dvals_ev hm
  obtain ⟨a, ea, ca⟩ := evE_slot I hs
  have hlt : i < σ.length := (List.getElem?_eq_some_iff.mp ea).1
  -- the dict, its keys atoms
  have core : ∀ {kvs : List (Key × V)}, H a = some (.dK kvs) → VRk w H ds (kvs.map fun p => (kD p.1, p.2)) → tLockE (tLc (iKeys (tVar i)) (gName j) tYes (tOp (rIdx X.K) (tVar i) (tVar j)) [j]) σ H Q := fun {kvs} e r => by
    refine ⟨a, .dK kvs, e, trivial, fun od => ⟨_, ea, a, od, rfl, .inl ⟨kvs, upd_same, fun D₀ hD => ?_⟩⟩⟩
    have hDa : D₀ ≠ a := fun e2 => by subst e2; rw [upd_same] at hD; cases hD
    have hD0 : H D₀ = none := by rw [upd_ne hDa] at hD; exact hD
    have hw : ∀ H' : Hp, (wipe σ [j])[i]? = some (some (.ref a)) := fun _ => by
      show ((wipe σ []).set j none)[i]? = _
      rw [List.getElem?_set_ne (Ne.symm hij)]
      exact ea
    refine ⟨fun n m H' => m = kvs.length - n ∧ n ≤ kvs.length ∧ H' = upd (upd H a (.frz od (.dK kvs))) D₀ (.lst ((kvs.take n).map fun p => (valV kvs p.1).getD .non)), ⟨kvs.length, by simp, Nat.zero_le _, rfl⟩, ?_⟩
    rintro n m H' ⟨rfl, hn, rfl⟩
    have hfa : upd (upd H a (.frz od (.dK kvs))) D₀ (.lst ((kvs.take n).map fun p => (valV kvs p.1).getD .non)) a = some (.frz od (.dK kvs)) := by rw [upd_ne (Ne.symm hDa), upd_same]
    by_cases hl : n < kvs.length
    · refine .inr ⟨⟨hfa, hl⟩, fun H' => H' = upd (upd H a (.frz od (.dK kvs))) D₀ (.lst ((kvs.take (n + 1)).map fun p => (valV kvs p.1).getD .non)), fun H' e => ⟨_, by omega, rfl, hl, e⟩, fun z H' y => ?_⟩
      obtain ⟨rfl, kk, vv, hk, rfl⟩ := y
      refine ⟨?_, ?_⟩
      · show wipe ((wipe σ [j]).set j _) [j] = _
        rw [wipe_set (List.mem_singleton.mpr rfl), wipe_wipe]
      · refine yes_ok ?_
        obtain ⟨u, d, h1, h2, h3⟩ := VRk.vals r (List.mem_of_getElem? hk)
        have hjl : j < (wipe σ [j]).length := by
          rw [wipe_length, hσ, S.hN]
          unfold ckVar at hy
          rw [Bool.and_eq_true] at hy
          have hy1 := hy.1
          split at hy1
          · rename_i q
            exact (List.getElem?_eq_some_iff.mp q).1
          · cases hy1
        refine ⟨.ref a, ?_, kV kk, ?_, .inr ⟨a, u, rfl, .inl ⟨kvs, kk, .inr ⟨od, hfa⟩, rfl, h1.symm⟩, ?_⟩⟩
        · rw [List.getElem?_set_ne (Ne.symm hij)]
          exact hw H
        · rw [List.getElem?_set_self hjl]
        · refine ⟨(kvs.take n).map fun p => (valV kvs p.1).getD .non, upd_same, ?_, ?_⟩
          · rw [List.length_map, List.length_take]
            have := hsz a kvs e
            omega
          · rw [upd_upd]
            congr 2
            rw [List.take_succ, hk, List.map_append]
            simp [h1]
    · have e2 : n = kvs.length := by omega
      subst e2
      refine .inl ⟨⟨hfa, Nat.le_refl _⟩, hfa, ?_⟩
      rw [List.take_length]
      have eH : upd (upd (upd H a (.frz od (.dK kvs))) D₀ (.lst (kvs.map fun p => (valV kvs p.1).getD .non))) a (.dK kvs) = upd H D₀ (.lst (kvs.map fun p => (valV kvs p.1).getD .non)) := by
        funext b
        by_cases hb : b = a
        · subst hb
          rw [upd_same, upd_ne (Ne.symm hDa), e]
        · rw [upd_ne hb]
          by_cases hbd : b = D₀
          · subst hbd
            rw [upd_same, upd_same]
          · rw [upd_ne hbd, upd_ne hbd, upd_ne hb]
      rw [eH]
      exact Cont.lst I k hD0 (vals_list r r fun p hp => hp)
  rcases ca with ⟨kvs, e, r⟩ | ⟨kvs, e, r⟩
  · exact core e r
  · cases kvs with
    | cons q qs =>
      cases ds with
      | nil => cases r
      | cons p ps =>
        cases r with
        | cons r t =>
          simp only [List.all_cons, Bool.and_eq_true] at hat
          rw [isAtom_tD] at hat
          exact absurd hat.1 (by decide)
    | nil =>
      cases r
      refine ⟨a, .dT [], e, trivial, fun od => ⟨_, ea, a, od, rfl, .inr ⟨[], upd_same, fun D₀ hD => ?_⟩⟩⟩
      have hDa : D₀ ≠ a := fun e2 => by subst e2; rw [upd_same] at hD; cases hD
      have hD0 : H D₀ = none := by rw [upd_ne hDa] at hD; exact hD
      refine ⟨fun n m H' => n = 0 ∧ H' = upd (upd H a (.frz od (.dT []))) D₀ (.lst []), ⟨0, rfl, rfl⟩, ?_⟩
      rintro n m H' ⟨rfl, rfl⟩
      have hfa : upd (upd H a (.frz od (.dT []))) D₀ (.lst []) a = some (.frz od (.dT [])) := by rw [upd_ne (Ne.symm hDa), upd_same]
      refine .inl ⟨⟨hfa, Nat.le_refl _⟩, hfa, ?_⟩
      have eH : upd (upd (upd H a (.frz od (.dT []))) D₀ (.lst [])) a (.dT []) = upd H D₀ (.lst []) := by
        funext b
        by_cases hb : b = a
        · subst hb
          rw [upd_same, upd_ne (Ne.symm hDa), e]
        · rw [upd_ne hb]
          by_cases hbd : b = D₀
          · subst hbd
            rw [upd_same, upd_same]
          · rw [upd_ne hbd, upd_ne hbd, upd_ne hb]
      rw [eH]
      exact Cont.lst I k hD0 .nil
end
end Sk

end

section
set_option Elab.async false
set_option linter.all false
set_option maxRecDepth 100000
set_option maxHeartbeats 4000000
/-! SkSS: sorted(set(..)) of texts. -/
namespace Sk
open PySem PySem.Spec PyProof.Rows L2

/-! ### a set of texts -/
def keyS (e : Int × Value) : Str := match e.2 with | .str k _ => k | _ => Str.empty
abbrev txtK (P : Program) (w : World) := PySem.strKind P w
def GoodS (P : Program) (w : World) (e : Int × Value) : Prop := ∃ k tk, e.2 = Value.str k tk ∧ e.1 = (txtK P w).hash k
def SetS (P : Program) (w : World) (h : Heap) (a : Addr) (S : Str → Bool) (n : Nat) : Prop :=
  ∃ o es ep t, h.get? a = some o ∧ o.ExactSet ∧ o.data = .set es ep t ∧ (∀ e ∈ es.toList, GoodS P w e) ∧ (es.toList.map keyS).Nodup ∧ (∀ k, S k = true ↔ k ∈ es.toList.map keyS) ∧
    es.size < scanBound ∧ t.fits es.size = true ∧ es.size = n ∧ Ris t.place.toList ∧ (w.params.followText "set-order" = true ∨ t.led = true)
section
variable {P : Program} {w : World} {h h' : Heap} {a : Addr} {S : Str → Bool} {n : Nat}
theorem SetS.at (R : SetS P w h a S n) (k : ∀ o, h.get? a = some o → h'.get? a = some o) : SetS P w h' a S n := by
  obtain ⟨o, es, ep, t, ho, r⟩ := R
  exact ⟨o, es, ep, t, k o ho, r⟩
theorem SetS.congr {S' : Str → Bool} (R : SetS P w h a S n) (e : ∀ k, S' k = S k) : SetS P w h a S' n := by
  have q : S' = S := funext e
  rw [q]; exact R
theorem txt_is (k : Str) (t : Tok) : (txtK P w).is k (.str k t) = true := PySem.strKind_is P w k t
theorem goodS_elems {l : List (Int × Value)} (g : ∀ e ∈ l, GoodS P w e) : ElemsOf (txtK P w) l := fun e he => by
  obtain ⟨k, tk, h1, h2⟩ := g e he
  exact ⟨⟨k, by rw [h1]; exact txt_is k tk, h2⟩, by rw [h1] <;> rfl⟩
theorem goodS_is {e : Int × Value} (g : GoodS P w e) (k : Str) : (txtK P w).is k e.2 = true ↔ keyS e = k := by
  obtain ⟨k0, tk, h1, _⟩ := g
  unfold keyS
  rw [h1]
  show Value.isStrOf k (.str k0 tk) = true ↔ k0 = k
  simp [Value.isStrOf]
theorem goodS_mem {l : List (Int × Value)} (g : ∀ e ∈ l, GoodS P w e) (k : Str) : k ∈ l.map keyS ↔ ∃ e ∈ l, (txtK P w).is k e.2 = true := by
  rw [List.mem_map]
  constructor
  · rintro ⟨e, he, q⟩
    exact ⟨e, he, (goodS_is (g e he) k).2 q⟩
  · rintro ⟨e, he, q⟩
    exact ⟨e, he, (goodS_is (g e he) k).1 q⟩
end
section
variable {P : Program} {w : World} {A : Around} {E : Value → Shared → Prop} {s : Shared} {a : Addr} {S : Str → Bool} {n : Nat}
theorem setS_tail {g : Bool → Sem Unit} (hg : ∀ (b : Bool) (s₁ : Shared) (Q' : Unit → Shared → Prop), Q' () s₁ → wpAny (model P w) A (g b) Q' E s₁)
    {o : Obj} {es : Array (Int × Value)} {ep : Nat} {t : SetTable} (ho : s.heap.get? a = some o) (hex : o.ExactSet) (hd : o.data = .set es ep t)
    {es1 : Array (Int × Value)} {t2 : SetTable} {S' : Str → Bool} (g1 : ∀ e ∈ es1.toList, GoodS P w e) (nd1 : (es1.toList.map keyS).Nodup) (m1 : ∀ k, S' k = true ↔ k ∈ es1.toList.map keyS)
    (hb1 : es1.size < scanBound) (hf2 : t2.fits es1.size = true) (hr : Ris t2.place.toList) (hl : w.params.followText "set-order" = true ∨ t2.led = true) {wasDummy : Bool} {R : Option Bool → Shared → Prop}
    (hR : ∀ h', Heap.SameBut a s.heap h' → SetS P w h' a S' es1.size → R (some true) { s with heap := h' }) :
    wpAny (model P w) A (do
        storeSet a es1 t2
        if (!wasDummy && t2.tooFull) = true then do
            g (relayAll t2 es1 (SetTable.grown es1.size)).2.2
            storeSet a (relayAll t2 es1 (SetTable.grown es1.size)).1 (relayAll t2 es1 (SetTable.grown es1.size)).2.1
            pure (some true)
          else pure (some true)) R E s := by
  refine wpAny_bind (wpAny_storeSet_of ho hd ?_ (fits_of_scanBound hb1))
  have ho1 := store_at (es' := es1) (t' := t2) ho hd
  have sb1 := Heap.SameBut.update s.heap a (Obj.putSet es1 t2)
  split
  · have pm := relayAll_perm t2 es1 (SetTable.grown es1.size)
    have hf3 := relayAll_fits t2 es1 (SetTable.grown es1.size)
    have hr3 := relayAll_ris t2 es1 (SetTable.grown es1.size)
    have hl3 := relayAll_led t2 es1 (SetTable.grown es1.size)
    generalize relayAll t2 es1 (SetTable.grown es1.size) = Z at pm hf3 hr3 hl3 ⊢
    obtain ⟨es2, t3, gave⟩ := Z
    dsimp only at pm hf3 hr3 hl3 ⊢
    have hsz : es2.size = es1.size := by rw [← Array.length_toList, pm.length_eq, Array.length_toList]
    have hb2 : es2.size < scanBound := by rw [hsz]; exact hb1
    refine wpAny_bind (hg _ _ _ ?_)
    refine wpAny_bind (wpAny_storeSet_of ho1 rfl ?_ (fits_of_scanBound hb2))
    have ho2 := store_at (es' := es2) (t' := t3) ho1 rfl
    refine wpAny_pure (hR _ (sb1.trans (Heap.SameBut.update _ a _)) ?_)
    exact ⟨_, es2, _, t3, ho2, hex, rfl, fun e he => g1 e (pm.mem_iff.mp he), (pm.map keyS).nodup_iff.mpr nd1, fun k => (m1 k).trans (pm.map keyS).mem_iff.symm, hb2, hf3, hsz, hr3,
      hl.imp id fun z => by rw [hl3]; exact z⟩
  · exact wpAny_pure (hR _ sb1 ⟨_, es1, _, t2, ho1, hex, rfl, g1, nd1, m1, hb1, hf2, rfl, hr, hl⟩)
theorem setS_add {k : Str} {tk : Tok} {Q : Bool → Shared → Prop} (R : SetS P w s.heap a S n) (room : n + 1 < scanBound)
    (hQ : ∀ h', Heap.SameBut a s.heap h' → SetS P w h' a (fun j => S j || decide (j = k)) (if S k = true then n else n + 1) → Q (!S k) { s with heap := h' }) :
    wpAny (model P w) A (setAddHashed a (.str k tk) ((txtK P w).hash k)) Q E s := by
  obtain ⟨o, es, ep, t, ho, hex, hd, g, nd, hm, hb, hf, hn, hr, hl⟩ := R
  have hkey : (txtK P w).is k (.str k tk) = true := txt_is k tk
  have hsc : (Value.str k tk).scannable = true := rfl
  have hel : ElemsOf (txtK P w) es.toList := goodS_elems g
  unfold setAddHashed setAddHashedIn
  refine wpAny_holding (wpAny_bind (wpAny_setState_of ho hd hf ?_))
  dsimp only
  rw [byScan_of hsc hb hel]
  simp only [↓reduceIte]
  unfold setAddByScan
  refine wpAny_bind ?_
  refine wpAny_bind (wpAny_rule ?_)
  refine wpAny_bind (wpAny_setScan_of hkey ho hd hf hel ?_)
  cases hfi : List.findIdx? (fun e => (txtK P w).is k e.2) es.toList with
  | some j =>
    dsimp only
    obtain ⟨hj, pj, _⟩ := List.findIdx?_eq_some_iff_getElem.mp hfi
    have hSk : S k = true := (hm k).2 ((goodS_mem (P := P) (w := w) g k).2 ⟨es.toList[j], List.getElem_mem hj, pj⟩)
    refine wpAny_pure (wpAny_pure ?_)
    have q := hQ s.heap (Heap.SameBut.refl a s.heap) ⟨o, es, ep, t, ho, hex, hd, g, nd, fun i => by
      rw [Bool.or_eq_true, decide_eq_true_eq, ← hm i]
      exact ⟨fun z => z.elim id (fun e => e ▸ hSk), .inl⟩, hb, hf, by rw [if_pos hSk]; exact hn, hr, hl⟩
    rw [hSk] at q
    exact q
  | none =>
    dsimp only
    have hnk : k ∉ es.toList.map keyS := fun z => by
      obtain ⟨e, he, q⟩ := (goodS_mem (P := P) (w := w) g k).1 z
      have c := List.findIdx?_eq_none_iff.mp hfi e he
      rw [q] at c
      cases c
    have hSk : S k = false := by
      cases q : S k with
      | false => rfl
      | true => exact absurd ((hm k).1 q) hnk
    have hgw : ∀ (b : Bool) {s₁ : Shared} {Q' : Unit → Shared → Prop}, Q' () s₁ → wpAny (model P w) A (match b with | true => rule "set.scan.the-table-gave-way" | false => pure ()) Q' E s₁ :=
      fun b s₁ Q' q => by cases b <;> first | exact wpAny_pure q | exact wpAny_rule q
    have pm := layNew_perm t es ((txtK P w).hash k) (.str k tk)
    have hf1 := layNew_fits t es ((txtK P w).hash k) (.str k tk)
    have hr1 := layNew_ris t es ((txtK P w).hash k) (.str k tk) hr
    have hl1 := layNew_led t es ((txtK P w).hash k) (.str k tk)
    generalize layNew t es ((txtK P w).hash k) (.str k tk) = Z at pm hf1 hr1 hl1 ⊢
    obtain ⟨es1, t1, wasDummy, gave⟩ := Z
    dsimp only at pm hf1 hr1 hl1 ⊢
    rw [Array.toList_push] at pm
    have pc : es1.toList.Perm (((txtK P w).hash k, Value.str k tk) :: es.toList) := pm.trans (List.perm_append_singleton _ _)
    have pk : (es1.toList.map keyS).Perm (k :: es.toList.map keyS) := pc.map keyS
    have g1 : ∀ e ∈ es1.toList, GoodS P w e := fun e he => by
      rcases List.mem_cons.mp (pc.mem_iff.mp he) with z | z
      · rw [z]; exact ⟨k, tk, rfl, rfl⟩
      · exact g e z
    have nd1 : (es1.toList.map keyS).Nodup := pk.nodup_iff.mpr (List.nodup_cons.mpr ⟨hnk, nd⟩)
    have m1 : ∀ i, (S i || decide (i = k)) = true ↔ i ∈ es1.toList.map keyS := fun i => by
      rw [Bool.or_eq_true, decide_eq_true_eq, hm i, pk.mem_iff, List.mem_cons]
      exact Or.comm
    have hsz : es1.size = n + 1 := by rw [← Array.length_toList, pc.length_eq, List.length_cons, Array.length_toList, hn]
    have hb1 : es1.size < scanBound := by rw [hsz]; exact room
    have hled : w.params.followText "set-order" = true ∨ t1.led = true := hl.imp id fun z => by rw [hl1]; exact z
    have fin : ∀ h', Heap.SameBut a s.heap h' → SetS P w h' a (fun j => S j || decide (j = k)) es1.size → Q true { s with heap := h' } := fun h' sb r => by
      have q := hQ h' sb
      rw [hSk] at q
      rw [hsz] at r
      exact q r
    refine wpAny_bind (hgw _ ?_)
    split
    · refine wpAny_bind ?_
      rw [hashByValue_scannable 8 hsc]
      refine wpAny_pure ?_
      refine setS_tail ?_ ho hex hd g1 nd1 m1 hb1 ?_ ?_ ?_ ?_
      · intro b s₁ Q' q; cases b <;> first | exact wpAny_pure q | exact wpAny_rule q
      · first | (split <;> first | exact hf1 | exact SetTable.fits_plain_off hf1) | exact hf1
      · first | (split <;> exact hr1) | exact hr1
      · first | (split <;> exact hled) | exact hled
      · intro h' sb r; dsimp only; exact wpAny_pure (fin h' sb r)
    · refine wpAny_bind (wpAny_pure ?_)
      simp only [↓reduceIte]
      refine setS_tail ?_ ho hex hd g1 nd1 m1 hb1 hf1 hr1 hled ?_
      · intro b s₁ Q' q; cases b <;> first | exact wpAny_pure q | exact wpAny_rule q
      · intro h' sb r; dsimp only; exact wpAny_pure (fin h' sb r)
theorem setS_fresh {h : Heap} : SetS P w (h.push { cls := .type "set", dict := none, data := .set #[] 0 (.fresh 0 0 (!w.params.followText "set-order")) }) h.objs.size (fun _ => false) 0 :=
  ⟨_, #[], 0, _, Heap.get?_push_size _ rfl, ⟨rfl, rfl, rfl⟩, rfl, (fun e he => by simp at he), (by simp), (fun k => by simp), (by decide), (by rfl), rfl, List.Pairwise.nil, by
    show _ ∨ (!w.params.followText "set-order") = true
    cases w.params.followText "set-order"
    · exact .inr rfl
    · exact .inl rfl⟩
/-- set(xs): the new object -/
theorem code_setA_led (x : Value) {Q₁ : Value → Shared → Prop}
    (h : Q₁ (.ref s.heap.objs.size) { s with heap := s.heap.push { cls := .type "set", dict := none, data := .set #[] 0 (.fresh 0 0 (!w.params.followText "set-order")) } }) :
    codeAny (model P w) A (.call (.builtin "set.__new__") ⟨[.type "set", x], []⟩) (wants Q₁ E) s := by
  refine codeAny_of_tree ?_
  show wpAny _ A.in1 (do checkBuiltinCall "set.__new__" ⟨[.type "set", x], []⟩; again (.builtin "set.__new__" ⟨[.type "set", x], []⟩)) _ _ s
  refine wpAny_bind (wpAny_of_eq (F.newCall_set_1 x) (wpAny_pure ⟨plainId_quiet F.plain_set_new _, codeAny_builtin F.entry_set_new ?_⟩))
  rw [Around.under_plainId F.plain_set_new _]
  unfold Builtin.«set.__new__» Builtin.Frozenset.newClass
  have hsub := sub_set_self
  obtain ⟨hp, g, d, tk, os⟩ := s
  dsimp only
  wp_walk
  refine wpAny_askSetting (wpAny_pure ?_)
  dsimp only
  simp only [newObj]
  refine wpAny_bind (wpAny_alloc (wpAny_pure ?_))
  exact wpAny_pure h
end
section
variable {prog : Program} {w : World} {A : Around} {R : Result → Shared → Prop} {I : Addr} {fp wr : List Addr} {G : Array GenState → Array GenState → Prop} {n : Nat} {Pv : Nat → Value → Prop} {St : Nat → Shared → Prop}
theorem setS_loop (W : WalksS prog w A.in1 I fp wr G n Pv St) (S : Addr) (hSf : S ∉ fp) (xs : List Str) (hval : ∀ i v, Pv i v → ∃ x t, xs[i]? = some x ∧ v = .str x t) (hxs : xs.length = n) (hb : n + 1 < scanBound) :
    ∀ (k i : Nat) (s : Shared), n - i = k → i ≤ n → St i s → (∃ m, m ≤ i ∧ SetS prog w s.heap S (fun k' => decide (k' ∈ xs.take i)) m) →
      (∀ s', Moved (S :: wr) G s s' → (∃ m, m ≤ n ∧ SetS prog w s'.heap S (fun k' => decide (k' ∈ xs)) m) → R (.ok (.ret .none)) s') →
      codeAny (model prog w) A (.builtin "set.update.loop" ⟨[.ref S, .ref I], []⟩) R s := by
  have hSw : S ∉ wr := fun h => hSf (W.sub _ h)
  have hsub : ∀ b ∈ wr, b ∈ S :: wr := fun b hb => List.mem_cons_of_mem _ hb
  intro k
  induction k with
  | zero =>
    intro i s hk hi hst hS hR
    have hin : i = n := by omega
    subst hin
    refine codeAny_builtin F.entry_set_update_loop ?_
    rw [Around.under_plainId F.plain_set_update_loop _]
    show wpAny _ A.in1 (pyNext (.ref I) >>= _) _ _ s
    refine wpAny_bind (W.done s _ _ hst fun s' hm => ?_)
    show wpAny _ A.in1 (ret Value.none) _ _ s'
    obtain ⟨m, h1, h2⟩ := hS
    refine wpAny_pure (hR s' (hm.mono hsub) ⟨m, h1, ?_⟩)
    rw [← hxs, List.take_length] at h2
    exact h2.at fun o e => hm.heap S o hSw e
  | succ k ih =>
    intro i s hk hi hst hS hR
    have hlt : i < n := by omega
    refine codeAny_builtin F.entry_set_update_loop ?_
    rw [Around.under_plainId F.plain_set_update_loop _]
    show wpAny _ A.in1 (pyNext (.ref I) >>= _) _ _ s
    refine wpAny_bind (W.item i s _ _ hlt hst fun v s' hP hst' hm => ?_)
    obtain ⟨x, t, hx, rfl⟩ := hval i v hP
    obtain ⟨m, h1, h2⟩ := hS
    have hS' := h2.at (h' := s'.heap) fun o e => hm.heap S o hSw e
    show wpAny _ A.in1 (holding [Value.str x t] (setAdd S (.str x t)) >>= _) _ _ s'
    refine wpAny_bind (wpAny_holding ?_)
    unfold setAdd
    refine wpAny_holding ?_
    refine wpAny_bind ((txtK prog w).pyHash (k := x) (txt_is x t) ?_)
    refine setS_add (s := { s' with toks := s'.toks + 1 }) hS' (by omega) fun h' hsb hS2 => ?_
    have hSi : ∃ m', m' ≤ i + 1 ∧ SetS prog w h' S (fun k' => decide (k' ∈ xs.take (i + 1))) m' := by
      refine ⟨_, ?_, hS2.congr fun k' => ?_⟩
      · split <;> omega
      · rw [List.take_succ, hx]
        simp only [Option.toList_some, List.mem_append, List.mem_singleton, Bool.decide_or]
    refine wpAny_pure ⟨plainId_quiet F.plain_set_update_loop _, ih (i + 1) _ (by omega) hlt (W.frame _ s' _ _ hst' (Nat.le_succ _) fun b hb o e => ?_) hSi fun s'' hm'' hS'' => ?_⟩
    · rw [hsb.2 b (fun h : b = S => hSf (by rw [← h]; exact hb))]; exact e
    · refine hR s'' (Moved.trans W.gtrans ((hm.mono hsub).then_heap (Nat.le_succ _) fun b o hb e => ?_) hm'') hS''
      rw [hsb.2 b (fun h : b = S => hb (by rw [h]; exact List.mem_cons_self))]; exact e
end
end Sk

end

section
set_option Elab.async false
set_option linter.all false
set_option maxRecDepth 100000
set_option maxHeartbeats 8000000
namespace Sk
open PySem PySem.Spec PyProof.Rows L2
section
variable {prog : Program} {w : World} {A : Around} {E : Value → Shared → Prop} {s : Shared}
theorem call_setL {l : Addr} {items : Array Value} {xs : List Str} {Q : Value → Shared → Prop}
    (hh : A.handled = none) (hl : s.heap.IsList l items) (hi : PyProof.Rows.StrsAre items.toList xs) (hb : items.size + 1 < scanBound)
    (h : ∀ (h' : Heap) (tk : Nat), (∃ m, m ≤ items.size ∧ SetS prog w h' s.heap.objs.size (fun k' => decide (k' ∈ xs)) m) →
      (∀ b o, b < s.heap.objs.size → s.heap.get? b = some o → h'.get? b = some o) → Q (.ref s.heap.objs.size) { s with heap := h', toks := tk }) :
    wpAny (model prog w) A (call (.type "set") [.ref l]) Q E s := by
  obtain ⟨c, tl, hmro⟩ := F.called_set.mro
  have hmade := F.called_set.made
  have hsub := F.called_set.sub
  have hxl : xs.length = items.size := by
    have := (vals_of_strs hi).length
    rw [List.length_map, Array.length_toList] at this
    exact this
  refine wpAny_call (codeAny_of_tree ?_)
  show wpAny _ _ (callAny (.type "set") _) _ _ _
  refine wpAny_pure ⟨Code.quiet_builtin _ (by decide +kernel), codeAny_builtin F.entry_type_call ?_⟩
  rw [Around.under_plain (weight_type_call_type "set" [.ref l] []) rfl]
  have h1 := F.called_set.notType
  have h2 := F.called_set.canCreate
  have hct := F.typeCall_set_1 (.ref l)
  repeat (any_goals (first | assumption | wp_step))
  refine codeAny_mono (code_setA_led (.ref l) (E := E) (Q₁ := fun obj s₁ => obj = .ref s.heap.objs.size ∧ s₁ = { s with heap := s.heap.push { cls := .type "set", dict := none, data := .set #[] 0 (.fresh 0 0 (!w.params.followText "set-order")) } }) ⟨rfl, rfl⟩) fun r s₁ hr => ?_
  cases r with
  | error e => exact hr
  | ok fl =>
    cases fl with
    | ret obj =>
      obtain ⟨rfl, rfl⟩ := hr
      have hF : SetS prog w (s.heap.push { cls := .type "set", dict := none, data := .set #[] 0 (.fresh 0 0 (!w.params.followText "set-order")) }) s.heap.objs.size (fun _ => false) 0 := setS_fresh
      generalize hled : (!w.params.followText "set-order") = led at hF ⊢
      have hS : (s.heap.push { cls := .type "set", dict := none, data := .set #[] 0 (.fresh 0 0 led) }).get? s.heap.objs.size = some { cls := .type "set", dict := none, data := .set #[] 0 (.fresh 0 0 led) } := Heap.get?_push_size _ rfl
      have hT : Shared.TypeIs { s with heap := s.heap.push { cls := .type "set", dict := none, data := .set #[] 0 (.fresh 0 0 led) } } (.ref s.heap.objs.size) "set" := ⟨_, hS, rfl⟩
      have hli := F.called_set.init.lookup
      have hbi := F.called_set.init.bind (.ref s.heap.objs.size)
      repeat (any_goals (first | assumption | wp_step))
      refine codeAny_mono (codeAny_call_builtin (R := wants (fun r s₂ => r = .none ∧ ∃ h' tk, s₂ = { s with heap := h', toks := tk } ∧
          (∃ m, m ≤ items.size ∧ SetS prog w h' s.heap.objs.size (fun k' => decide (k' ∈ xs)) m) ∧
          (∀ b o, b < s.heap.objs.size → s.heap.get? b = some o → h'.get? b = some o)) E) F.called_set.init.plain F.entry_set_init (check_set_init_1 hT ?_)) fun r₂ s₂ hr₂ => ?_
      · obtain ⟨ol, hol, hcl, nl, hdl⟩ := hl
        obtain ⟨ocls, odict, odata, oslots⟩ := ol
        simp only at hcl hdl
        subst hcl; subst hdl
        have hol' : (s.heap.push { cls := .type "set", dict := none, data := .set #[] 0 (.fresh 0 0 led) }).get? l = some { cls := .type "list", dict := odict, data := .seq items nl, slots := oslots } := Heap.get?_push_of_some _ hol
        have hsls := F.sub_list_set
        have hslf := F.sub_list_frozenset
        have hne : (Value.type "list" == Value.type "dict") = false := by decide
        have hl1 : (s.heap.push { cls := .type "set", dict := none, data := .set #[] 0 (.fresh 0 0 led) }).IsList l items := ⟨_, hol', rfl, nl, rfl⟩
        unfold Builtin.«set.__init__» noKeywords Builtin.Frozenset.updateFrom
        generalize hPI : pyIter = PI
        wp_walk
        subst hPI
        refine wpAny_pyIter_list hl1 ?_
        refine wpAny_bind (wpAny_runValue ?_)
        have hlS : l < s.heap.objs.size := Heap.lt_size hol
        have hh3 : A.in1.in1.in1.handled = none := by simp [hh]
        have hneI : l ≠ (s.heap.push { cls := .type "set", dict := none, data := .set #[] 0 (.fresh 0 0 led) }).objs.size := by
          rw [Heap.size_push]; exact Nat.ne_of_lt (Nat.lt_succ_of_lt hlS)
        have hSf : s.heap.objs.size ∉ [(s.heap.push { cls := .type "set", dict := none, data := .set #[] 0 (.fresh 0 0 led) }).objs.size, l] := by
          rw [Heap.size_push]; simp only [List.mem_cons, List.mem_singleton, List.not_mem_nil, or_false, not_or]
          exact ⟨Nat.ne_of_lt (Nat.lt_succ_self _), Nat.ne_of_gt hlS⟩
        have hval : ∀ (i : Nat) (v : Value), items[i]? = some v → ∃ x t, xs[i]? = some x ∧ v = .str x t := fun i v hv => by
          have hv' : items.toList[i]? = some v := by rw [Array.getElem?_toList]; exact hv
          have rr := vals_of_strs hi
          have hil : i < (xs.map V.str).length := by rw [rr.length]; exact (List.getElem?_eq_some_iff.mp hv').1
          obtain ⟨u, hu, ru⟩ := rr.get (List.getElem?_eq_getElem hil)
          rw [hv'] at hu
          cases hu
          rw [List.getElem_map] at ru
          obtain ⟨t, rfl⟩ := ru
          exact ⟨_, t, List.getElem?_eq_getElem (by simpa using hil), rfl⟩
        refine setS_loop ((Walks.list hh3 _ l hneI items).toS) s.heap.objs.size
          hSf xs hval hxl hb (items.size - 0) 0 _ (by omega) (Nat.zero_le _)
          ⟨⟨_, Heap.get?_push_size _ rfl, rfl, rfl⟩, (hl1.push _)⟩ ?hS0 ?hR
        case hS0 =>
          refine ⟨0, Nat.le_refl _, (hF.at fun o e => Heap.get?_push_of_some _ e).congr fun k => ?_⟩
          simp
        case hR =>
          intro s' hm hS'
          obtain ⟨h', g', d', tk', os'⟩ := s'
          have eg : g' = s.gens := hm.gens
          have ed : d' = s.drawn := hm.drawn
          have eo : os' = s.os := hm.os
          subst eg; subst ed; subst eo
          show wpAny _ _ _ _ _ _
          refine wpAny_pure ?_
          show wpAny _ _ (ret Value.none) _ _ _
          refine wpAny_pure ⟨rfl, h', tk', rfl, hS', fun b o hb e => ?_⟩
          have hb1 : b ≠ s.heap.objs.size := Nat.ne_of_lt hb
          have hb2 : b ≠ (s.heap.push { cls := .type "set", dict := none, data := .set #[] 0 (.fresh 0 0 led) }).objs.size := by
            rw [Heap.size_push]; exact Nat.ne_of_lt (Nat.lt_succ_of_lt hb)
          refine hm.heap b o (fun z => ?_) (Heap.get?_push_of_some _ (Heap.get?_push_of_some _ e))
          simp only [List.mem_cons, List.not_mem_nil, or_false] at z
          rcases z with z | z
          · exact hb1 z
          · exact hb2 z
      · cases r₂ with
        | error e => exact hr₂
        | ok fl₂ =>
          cases fl₂ with
          | ret r =>
            obtain ⟨rfl, h', tk', rfl, hS', hk⟩ := hr₂
            have := h h' tk' hS' hk
            repeat (any_goals (first | assumption | wp_step))
          | _ => exact hr₂.elim
    | _ => exact hr.elim
end
end Sk

end

section
set_option Elab.async false
set_option linter.all false
set_option maxRecDepth 100000
set_option maxHeartbeats 4000000
/-! SkSS3: sorted(set(xs)). -/
namespace Sk
open PySem PySem.Spec PyProof.Rows L2

/-! ### the order of texts -/
theorem str_le_anti {x y : List Nat} (h1 : PySem.W.dataLe false toPy (.str x) (.str y) = true) (h2 : PySem.W.dataLe false toPy (.str y) (.str x) = true) : x = y := by
  have a1 : (!(listOrd itemOrd).blt [.inr y] [.inr x]) = true := h1
  have a2 : (!(listOrd itemOrd).blt [.inr x] [.inr y]) = true := h2
  rw [Bool.not_eq_true'] at a1 a2
  have e := (listOrd itemOrd).total _ _ a2 a1
  have e2 := List.cons.inj e
  exact Sum.inr.inj e2.1
theorem dataLe_total : PySem.W.TotalLe (PySem.W.dataLe false toPy) := PySem.W.sortLe_total _ _ _
theorem sortD_perm {xs ys : List D} (hs : ∀ x ∈ xs, ∃ t, x = .str t) (p : xs.Perm ys) : sortD xs = sortD ys := by
  unfold sortD
  have p1 := List.mergeSort_perm xs (PySem.W.dataLe false toPy)
  have p2 := List.mergeSort_perm ys (PySem.W.dataLe false toPy)
  refine List.Perm.eq_of_pairwise (le := fun a b => PySem.W.dataLe false toPy a b = true) (fun a b ha hb h1 h2 => ?_) (PySem.W.sort_pairwise dataLe_total _) (PySem.W.sort_pairwise dataLe_total _) ((p1.trans p).trans p2.symm)
  obtain ⟨x, rfl⟩ := hs a (p1.mem_iff.mp ha)
  obtain ⟨y, rfl⟩ := hs b (p.mem_iff.mpr (p2.mem_iff.mp hb))
  rw [str_le_anti h1 h2]
theorem eqD_str (x y : List Nat) : eqD (.str x) (.str y) = decide (x = y) := by
  show PyData.eqv (.str ⟨x.toArray⟩) (.str ⟨y.toArray⟩) = _
  by_cases h : x = y
  · subst h
    simp [PyData.eqv]
  · rw [decide_eq_false h]
    simp [PyData.eqv, h]
theorem allStr_of {xs : List D} (h : allStr xs = true) : ∃ ts : List (List Nat), xs = ts.map .str := by
  induction xs with
  | nil => exact ⟨[], rfl⟩
  | cons x xs ih =>
    unfold allStr at h ih
    rw [List.all_cons, Bool.and_eq_true] at h
    obtain ⟨ts, rfl⟩ := ih h.2
    cases x <;> first
      | (rename_i t; exact ⟨t :: ts, rfl⟩)
      | (have q := h.1; simp at q)
theorem memD_str (t : List Nat) : ∀ ts : List (List Nat), memD (.str t) (ts.map .str) = decide (t ∈ ts)
  | [] => rfl
  | u :: ts => by
    show (eqD (.str u) (.str t) || memD (.str t) (ts.map .str)) = _
    rw [eqD_str, memD_str t ts]
    by_cases h : u = t
    · subst h; simp
    · have h2 : ¬ t = u := fun e => h e.symm
      simp [h, h2]
theorem dedup_str : ∀ ts : List (List Nat), ∃ us : List (List Nat), dedup (ts.map .str) = us.map .str ∧ us.Nodup ∧ ∀ t, t ∈ us ↔ t ∈ ts
  | [] => ⟨[], rfl, List.nodup_nil, fun _ => Iff.rfl⟩
  | t :: ts => by
    obtain ⟨us, h1, h2, h3⟩ := dedup_str ts
    show ∃ us, (if memD (.str t) (ts.map .str) = true then dedup (ts.map .str) else .str t :: dedup (ts.map .str)) = _ ∧ _
    rw [memD_str]
    by_cases hm : t ∈ ts
    · rw [if_pos (by simpa using hm)]
      refine ⟨us, h1, h2, fun u => ?_⟩
      rw [h3, List.mem_cons]
      exact ⟨.inr, fun h => h.elim (fun e => e ▸ hm) id⟩
    · rw [if_neg (by simpa using hm), h1]
      refine ⟨t :: us, rfl, List.nodup_cons.mpr ⟨fun h => hm ((h3 t).mp h), h2⟩, fun u => ?_⟩
      rw [List.mem_cons, List.mem_cons, h3]
theorem okSort_str (ts : List (List Nat)) : okSort (ts.map .str) = true := by
  unfold okSort
  rw [List.all_eq_true]
  intro a ha
  rw [List.all_eq_true]
  intro b hb
  obtain ⟨x, _, rfl⟩ := List.mem_map.mp ha
  obtain ⟨y, _, rfl⟩ := List.mem_map.mp hb
  show (notNon (.str x) && (okN 20 (.str x) && (okN 20 (.str y) && alikeD (.str x) (.str y)))) = true
  rfl
theorem notTup_str (ts : List (List Nat)) : ((ts.map D.str).all tupNe || (ts.map D.str).all notTup) = true := by
  rw [Bool.or_eq_true]
  refine .inr (List.all_eq_true.mpr fun d hd => ?_)
  obtain ⟨x, _, rfl⟩ := List.mem_map.mp hd
  rfl
/-- the set as an object of the heap -/
def SetO (P : Program) (w : World) (a : Addr) (S : Str → Bool) (n : Nat) : HO := .ext fun h => SetS P w h a S n
section
variable {X : Cx} {K : Cs} {c : Ctx} {pos : Pos}
theorem setO_new {w : World} {P : Program} {H : Hp} {h : Heap} {a : Addr} {S : Str → Bool} {n : Nat} (R : SetS P w h a S n) : ObjOk P w H h a (SetO P w a S n) := by
  have ⟨o, _, _, _, ho, _⟩ := R
  exact ⟨R, ⟨o, ho⟩, fun h1 h2 p k => p.at k⟩
/-- set(xs) -/
def rSetL (P : Program) (w : World) : List V → Hp → VK → Prop := fun xs H Q => ∃ (p : Addr) (ts : List Str), xs = [.ref p] ∧ H p = some (.lst (ts.map V.str)) ∧ ts.length < 4000 ∧ ∀ q m, H q = none → m ≤ ts.length → Q (.ref q) (upd H q (SetO P w q (fun k => decide (k ∈ ts)) m))
theorem cr_setL (hc : X.calm = true) : CallR X (.type "set") (rSetL X.prog X.w) := by
  intro pins s σ H xs us Q I r h
  obtain ⟨p, ts, rfl, hp, hl, q⟩ := h
  rw [Vals.ref1 r]
  obtain ⟨z, its, n, rv, e⟩ := I.hok p _ hp
  have hS := rv.strs
  have hsz : its.toArray.size = ts.length := by
    rw [List.size_toArray, ← rv.length, List.length_map]
  refine call_setL (xs := ts) (I.ok.hd hc) ⟨_, e, rfl, _, rfl⟩ (by rw [List.toList_toArray]; exact hS) (by rw [hsz]; unfold scanBound; omega) fun h' tk ⟨m, hm, R⟩ hk => ?_
  rw [hsz] at hm
  exact ⟨.ref s.heap.objs.size, _, I.laid (t' := tk) (fun b u e => hk b u (Heap.lt_size e) e) (Nat.le_refl _) (setO_new R), rfl, q _ m (I.hok.fresh (Nat.le_refl _)) hm⟩
/-- sorted(a set of texts) -/
def rSortSet (P : Program) (w : World) : List V → Hp → VK → Prop := fun xs H Q => ∃ (p : Addr) (ts : List Str) (m : Nat), xs = [.ref p] ∧ H p = some (SetO P w p (fun k => decide (k ∈ ts)) m) ∧
  ∀ q us, H q = none → VRs ⟨fun _ => False, fun _ => False, fun _ => False, fun _ => 0, 0⟩ H (sortD (dedup (ts.map fun t => .str t.cps.toList))) us → Q (.ref q) (upd H q (.lst us))
theorem cr_sortSet (hu : X.A.units + 64 < cLine) (hc : X.calm = true) : CallR X (.builtin "sorted") (rSortSet X.prog X.w) := by
  intro pins s σ H xs us Q I r h
  obtain ⟨p, ts, m, rfl, hp, q⟩ := h
  rw [Vals.ref1 r]
  obtain ⟨R, _⟩ := I.hok p _ hp
  obtain ⟨o, es, ep, t, ho, hx, hd, g, nd, hm, hb, hf, hn, hr, hl⟩ := (show SetS X.prog X.w s.heap p (fun k => decide (k ∈ ts)) m from R)
  refine sorted_y (H := H) hu ?_
  refine collect_set (P := X.prog) (w := X.w) (A := X.A.in1) (I.ok.hd hc) ⟨o, ho, hx.1, hd⟩ hf hb hr hl fun s1 out k1 hz g1 o1 pm => ?_
  have hout : ∀ v ∈ out, ∃ k tk, v = Value.str k tk := fun v hv => by
    obtain ⟨e, he, q⟩ := List.mem_map.mp (pm.mem_iff.mp hv)
    obtain ⟨k, tk, h1, _⟩ := g e he
    exact ⟨k, tk, by rw [← q]; exact h1⟩
  let kv : Value → Str := fun v => match v with | .str k _ => k | _ => Str.empty
  have hI : Vals (out.map fun v => V.str (kv v)) out := by
    clear pm
    induction out with
    | nil => exact .nil
    | cons v out ih =>
      obtain ⟨k, tk, rfl⟩ := hout v List.mem_cons_self
      exact .cons ⟨tk, rfl⟩ (ih fun u hu => hout u (List.mem_cons_of_mem _ hu))
  have pk : (out.map kv).Perm (es.toList.map keyS) := by
    have q := pm.map kv
    rw [List.map_map] at q
    exact q
  have J : Inv X pins σ H { s with heap := s1.heap, gens := s1.gens, drawn := s1.drawn, toks := s1.toks } :=
    I.call (ch := []) (Un.kept k1) (I.hok.kept k1) (by rw [g1]; exact I.bare) (fun _ z => nomatch z)
  have es1 : s1 = { s with heap := s1.heap, gens := s1.gens, drawn := s1.drawn, toks := s1.toks } := by
    cases s1
    cases s
    cases o1
    rfl
  rw [← es1] at J
  have hcp : ∀ l : List Str, l.map (fun x => D.str x.cps.toList) = (l.map fun x => x.cps.toList).map D.str := fun l => by rw [List.map_map]; rfl
  refine ⟨⟨fun _ => False, fun _ => False, fun _ => False, fun _ => 0, 0⟩, (out.map kv).map fun x => D.str x.cps.toList, (out.map kv).map V.str, J, by rw [List.map_map]; exact hI, strs_vr _, ?_, ?_, ?_, fun q' us' hq' r' => q q' us' hq' ?_⟩
  · rw [hcp]; exact okSort_str _
  · rw [hcp]; exact notTup_str _
  · rw [List.length_map, List.length_map, pm.length_eq, List.length_map, Array.length_toList]
    exact fits_of_scanBound hb
  · have inj : ∀ a b : Str, a.cps.toList = b.cps.toList → a = b := fun a b h => PySem.W.str_of_cps h
    obtain ⟨us0, h1, h2, h3⟩ := dedup_str (ts.map fun x => x.cps.toList)
    have pp : ((out.map kv).map fun x => x.cps.toList).Perm us0 := by
      rw [List.perm_ext_iff_of_nodup ?_ h2]
      · intro t
        rw [h3, List.mem_map, List.mem_map]
        constructor
        · rintro ⟨x, hx, rfl⟩
          exact ⟨x, by simpa using (hm x).mpr (pk.mem_iff.mp hx), rfl⟩
        · rintro ⟨x, hx, rfl⟩
          exact ⟨x, pk.mem_iff.mpr ((hm x).mp (by simpa using hx)), rfl⟩
      · exact List.Pairwise.map _ (fun a b hne e => hne (inj a b e)) (pk.nodup_iff.mpr nd)
    rw [hcp ts, h1]
    rw [hcp (out.map kv)] at r'
    rw [← sortD_perm (xs := ((out.map kv).map fun x => x.cps.toList).map D.str) (fun x hx => by
      obtain ⟨t, _, rfl⟩ := List.mem_map.mp hx
      exact ⟨t, rfl⟩) (pp.map D.str)]
    exact r'
def noW : Wd := ⟨fun _ => False, fun _ => False, fun _ => False, fun _ => 0, 0⟩
/-- texts lie anywhere -/
theorem strs_any {w : Wd} {H H' : Hp} : ∀ {ds : List D} {vs : List V}, (∀ d ∈ ds, ∃ t, d = .str t) → VRs noW H ds vs → VRs w H' ds vs
  | _, _, _, .nil => .nil
  | _, _, hs, .cons h t => by
    refine .cons ?_ (strs_any (fun d hd => hs d (List.mem_cons_of_mem _ hd)) t)
    obtain ⟨x, rfl⟩ := hs _ List.mem_cons_self
    cases h
    exact .str x
theorem s_sortset {f g : Str} {p p2 pos2 : Pos} {e : Expr} {x : Ex} (hu : X.A.units + 64 < cLine) (hc : X.calm = true) (hf : f = "sorted") (hgf : Gl X f) (hmf : X.mg f = none) (hg : g = "set") (hgg : Gl X g) (hmg : X.mg g = none) (hn : notStar e = true) (he : PE X e (tE K (evE c x))) :
    PE X (.Call (.Name f p) [.Call (.Name g p2) [e] [] pos2] [] pos) (tE K (evE c (.blt .sortset x))) := by
  subst hf hg
  have h1 : PE X (.Call (.Name (Str.ofString "set") p2) [e] [] pos2) (tCB (rSetL X.prog X.w) (tCons (tE K (evE c x)) tNil)) := pe_callTy (p := p2) (pos := pos2) (cr_setL hc) hgg hmg rfl (pa_cons he pa_nil (star_ok hn)) (by decide) (by decide) (star_ok hn) rfl
  refine (pe_callB (p := p) (pos := pos) (cr_sortSet hu hc) hgf hmf rfl (pa_cons h1 pa_nil (star_ok rfl)) (by decide) (by decide) (star_ok rfl) rfl).imp fun σ H Q ⟨w, s, I, r, s', hm, k⟩ => ?_
  obtain ⟨ra, d, h2, hp, hr⟩ := blt_ev hm
  refine ⟨w, s, I, ra, s', h2, fun w1 H1 v E1 I1 r1 => ?_⟩
  have hr2 : bltD .sortset d = .ok r := hr
  cases d with
  | lst xs =>
    simp only [bltD] at hr2
    split at hr2 <;> cases hr2
    rename_i hs
    rw [Bool.and_eq_true, decide_eq_true_eq] at hs
    obtain ⟨ts, rfl⟩ := allStr_of hs.1
    obtain ⟨a, vs, rfl, e1, r2⟩ := (I1.peek r1 hp).lst_
    have htx : txts (ts.map D.str) = some ts := by
      clear hs r2 hp hr hm k
      induction ts with
      | nil => rfl
      | cons t ts ih => rw [List.map_cons, txts, ih]; rfl
    have ev := txts_vs htx r2
    refine ⟨a, ts.map fun t => (⟨t.toArray⟩ : Str), rfl, by rw [e1, ev], ?_, fun q m hq hm' => ?_⟩
    · have := hs.2
      simpa using this
    · have g : Grow w1 H1 w1 (upd H1 q (SetO X.prog X.w q (fun k => decide (k ∈ ts.map fun t => (⟨t.toArray⟩ : Str))) m)) := .own hq
      have I2 := g.sim I1
      have E2 := g.ext I1
      refine ⟨q, ts.map fun t => (⟨t.toArray⟩ : Str), m, rfl, upd_same, fun q2 us hq2 rus => ?_⟩
      have ed : (ts.map fun t => (⟨t.toArray⟩ : Str)).map (fun t => D.str t.cps.toList) = ts.map D.str := by
        rw [List.map_map]
        apply List.map_congr_left
        intro t _
        simp
      rw [ed] at rus
      refine Cont.lst I2 (fun w3 H3 z E3 I3 r3 => k w3 H3 z ((E1.trans E2).trans E3) I3 r3) hq2 (strs_any (fun d hd => ?_) rus)
      obtain ⟨us0, q1, q2', q3⟩ := dedup_str ts
      unfold sortD at hd
      have hd2 := (List.mergeSort_perm _ _).mem_iff.mp hd
      rw [q1] at hd2
      obtain ⟨t, _, rfl⟩ := List.mem_map.mp hd2
      exact ⟨t, rfl⟩
  | _ => cases hr2
end
end Sk

end

section
set_option Elab.async false
set_option linter.all false
set_option maxRecDepth 100000
set_option maxHeartbeats 8000000
/-! SkT: the checker: a text and its form in the small language. -/
namespace Sk
open PySem PySem.Spec PyProof.Rows L2

def eqB : BOp → Operator → Bool
  | .add, .Add => true
  | .sub, .Sub => true
  | .mul, .Mult => true
  | .fdiv, .FloorDiv => true
  | .md, .Mod => true
  | .pow, .Pow => true
  | _, _ => false
theorem eqB_ok {o : BOp} {p : Operator} (h : eqB o p = true) : p = opOf o := by
  cases o <;> cases p <;> first | rfl | simp [eqB] at h
def eqC : COp → CmpOp → Bool
  | .eq, .Eq => true
  | .ne, .NotEq => true
  | .lt, .Lt => true
  | .le, .LtE => true
  | .gt, .Gt => true
  | .ge, .GtE => true
  | .inn, .In => true
  | .nin, .NotIn => true
  | _, _ => false
theorem eqC_ok {o : COp} {p : CmpOp} (h : eqC o p = true) : p = copOf o := by
  cases o <;> cases p <;> first | rfl | simp [eqC] at h
def ckL (f : Expr → Ex → Bool) : List Expr → List Ex → Bool
  | [], [] => true
  | e :: es, x :: xs => notStar e && (f e x && ckL f es xs)
  | _, _ => false
def ckBo (f : Expr → Ex → Bool) (a : Bool) : List Expr → Ex → Bool
  | [e], x => f e x
  | e :: e2 :: es, .and x y => a && (f e x && ckBo f a (e2 :: es) y)
  | e :: e2 :: es, .or x y => !a && (f e x && ckBo f a (e2 :: es) y)
  | _, _ => false
def isAndOp : BoolOp → Bool
  | .And => true
  | .Or => false
def ckP (f : Expr → Ex → Bool) : Option Expr → Ex → Bool
  | none, .lit .non => true
  | some e, x => f e x
  | _, _ => false
/-- a name that is a builtin -/
def ckB (inf : Inf) (sc : Scope) (x y : Str) : Bool := decide (x = y) && (glC sc x && decide (x ∈ inf.bl))
def ownOf (inf : Inf) (own : List Nat) : List (Str × Nat) := own.map fun i => (inf.N.getD i Str.empty, i)
/-- an iterable -/
def ckI (inf : Inf) (f : Expr → Ex → Bool) (sc : Scope) (it : Expr) (x : Ex) : Bool := noFold it && (match x, it with
  | .rng [y], .Call (.Name g _) [e] [] _ => ckB inf sc g "range" && (notStar e && f e y)
  | .rng [y, z], .Call (.Name g _) [e, e2] [] _ => ckB inf sc g "range" && (notStar e && (notStar e2 && (f e y && f e2 z)))
  | .rng _, _ => false
  | y, e => f e y)
def ckIf (f : Expr → Ex → Bool) : List Expr → List Ex → Bool
  | [], [] => true
  | [e], [x] => f e x
  | _, _ => false
def ckKeys : List (Option Expr) → List D → Bool
  | [], [] => true
  | some (.Constant (.str x) _ _) :: ks, .str y :: ds => (x.cps.toList == y) && ckKeys ks ds
  | _, _ => false
def strsOf : List D → List (List Nat)
  | .str x :: r => x :: strsOf r
  | _ => []
def ck (inf : Inf) : Nat → Bool → Scope → Option Scope → Expr → Ex → Bool
  | 0, _, _, _, _, _ => false
  | n + 1, true, sc, bs, e, x => (match x, e with
    | .not y, .UnaryOp .Not a _ => ck inf n true sc bs a y
    | .cmp .eq y (.lit (.tup ds)), .Compare a [.Eq] [.Name g p] _ => ckTup inf sc (.Name g p) (.tup ds) && ck inf n false sc bs a y
    | .cmp .inn y (.lit (.tup ds)), .Compare a [.In] [.Tuple es k p] _ => ckTups inf sc es ds && (decide (ds.length ≤ 10) && ck inf n false sc bs a y)
    | .cmp o y z, .Compare a [p] [b] _ => eqC o p && (noSet b && (ck inf n false sc bs a y && ck inf n false sc bs b z))
    | .isnone y, .Compare a [.Is] [.Constant .none _ _] _ => ck inf n false sc bs a y
    | y, .BoolOp o es _ => ckBo (ck inf n true sc bs) (isAndOp o) es y
    | y, a => plainT a && ck inf n false sc bs a y)
  | n + 1, false, sc, bs, e, x => (match x, e with
    | .lit d, a => ckLit inf sc a d
    | .var i, .Name y _ => ckVar inf sc i y
    | .tup xs, .Tuple es _ _ => ckL (ck inf n false sc bs) es xs
    | .lst xs, .List es _ => ckL (ck inf n false sc bs) es xs
    | .dnew, .Dict [] [] _ => true
    | .disp ks xs, .Dict keys vals _ => ckKeys keys ks && (ckL (ck inf n false sc bs) vals xs && (decide (0 < keys.length) && (decide (keys.length ≤ 15) && decide (keys.length = vals.length)))) && decide (strsOf ks).Nodup
    | .bin o y z, .BinOp a p b _ => eqB o p && (ck inf n false sc bs a y && ck inf n false sc bs b z)
    | .cmp o y z, .Compare a [p] [b] _ => eqC o p && (noSet b && (ck inf n false sc bs a y && ck inf n false sc bs b z))
    | .isnone y, .Compare a [.Is] [.Constant .none _ _] _ => ck inf n false sc bs a y
    | .isinst y t, .Call (.Name f _) [a, .Name g _] [] _ => ckB inf sc f "isinstance" && (ckB inf sc g (tyName t) && (notStar a && ck inf n false sc bs a y))
    | .and y z, .BoolOp o es _ => ckBo (ck inf n false sc bs) (isAndOp o) es (.and y z)
    | .or y z, .BoolOp o es _ => ckBo (ck inf n false sc bs) (isAndOp o) es (.or y z)
    | .not y, .UnaryOp .Not a _ => ck inf n false sc bs a y
    | .ife t y z, .IfExp et a b _ => ck inf n true sc bs et t && (ck inf n false sc bs a y && ck inf n false sc bs b z)
    | .idx y z, .Subscript a b _ => noSlc b && (ck inf n false sc bs a y && ck inf n false sc bs b z)
    | .slc y l h, .Subscript a (.Slice lo hi none _) _ => ck inf n false sc bs a y && (ckP (ck inf n false sc bs) lo l && ckP (ck inf n false sc bs) hi h)
    | .rev y, .Subscript a (.Slice none none (some (.UnaryOp .USub (.Constant (.int i) _ _) _)) _) _ => decide (i = 1) && ck inf n false sc bs a y
    | .call f (y :: ys), .Call (.Name g _) (a :: es) [] _ => (match inf.defs[f]? with
      | some (h, np) => decide (h = g) && decide (np = ys.length + 1)
      | none => false) && (glC sc g && (okN1 g && ckL (ck inf n false sc bs) (a :: es) (y :: ys)))
    | .blt .listr (.rng [y]), .Call (.Name f _) [.Call (.Name g _) [a] [] _] [] _ => ckB inf sc f "list" && (ckB inf sc g "range" && (notStar a && ck inf n false sc bs a y))
    | .blt .sortset y, .Call (.Name f _) [.Call (.Name g _) [a] [] _] [] _ => ckB inf sc f "sorted" && (ckB inf sc g "set" && (notStar a && ck inf n false sc bs a y))
    | .blt b y, .Call (.Name f _) [a] [] _ => biOk b && (ckB inf sc f (biN b) && (notStar a && ck inf n false sc bs a y))
    | .meth m y (z :: zs), .Call (.Attribute o f ap) (a :: es) [] cp => decide (f = meN m) && (plainBase o && (decide ((a :: es).length < 30) && ((ap.endLine == cp.line) && (ck inf n false sc bs o y && ckL (ck inf n false sc bs) (a :: es) (z :: zs)))))
    | .mut m i zs, .Call (.Attribute (.Name y _) f ap) (a :: es) [] cp => decide (f = muN m) && (ckVar inf sc i y && (decide ((a :: es).length < 30) && ((ap.endLine == cp.line) && ckL (ck inf n false sc bs) (a :: es) zs)))
    | .mut .pop i [], .Call (.Attribute (.Name y _) f ap) [] [] cp => decide (f = muN .pop) && (ckVar inf sc i y && (ap.endLine == cp.line))
    | .lc own t it cs elt, .ListComp ee [⟨tg, iter, ifs, ia⟩] scope _ => decide (ia = 0) && (ckI inf (ck inf n false sc bs) sc iter it && (blkC inf.N sc scope (ownOf inf own) && ((tgs t).all (fun i => decide (i ∈ own)) &&
        (ckTg inf (relS scope sc) (some scope) t tg && (ckIf (ck inf n true (relS scope sc) (some scope)) ifs cs && ck inf n false (relS scope sc) (some scope) ee elt)))))
    | .lc2 own own1 t it cs t1 it1 cs1 elt, .ListComp ee [⟨tg, iter, ifs, ia⟩, ⟨tg1, iter1, ifs1, ia1⟩] scope _ => decide (ia = 0) && (decide (ia1 = 0) && (ckI inf (ck inf n false sc bs) sc iter it && (blkC inf.N sc scope (ownOf inf own) && ((tgs t).all (fun i => decide (i ∈ own)) &&
        (ckTg inf (relS scope sc) (some scope) t tg && (ckIf (ck inf n true (relS scope sc) (some scope)) ifs cs && (own1.all (fun i => decide (i ∈ own)) && ((tgs t1).all (fun i => decide (i ∈ own1)) && (ckI inf (ck inf n false (relS scope sc) (some scope)) (relS scope sc) iter1 it1 &&
        (ckTg inf (relS scope sc) (some scope) t1 tg1 && (ckIf (ck inf n true (relS scope sc) (some scope)) ifs1 cs1 && ck inf n false (relS scope sc) (some scope) ee elt)))))))))))
    | .dc own t it kx vx, .DictComp ek ev [⟨tg, iter, [], ia⟩] scope _ => decide (ia = 0) && (ckI inf (ck inf n false sc bs) sc iter it && (blkC inf.N sc scope (ownOf inf own) && ((tgs t).all (fun i => decide (i ∈ own)) &&
        (ckTg inf (relS scope sc) (some scope) t tg && (ck inf n false (relS scope sc) (some scope) ek kx && ck inf n false (relS scope sc) (some scope) ev vx)))))
    | .dvals i, .ListComp (.Subscript (.Name x1 _) (.Name y1 _) _) [⟨.Name y2 p4, .Name x2 _, [], ia⟩] scope _ => decide (ia = 0) && (decide (x1 = x2) && (decide (y1 = y2) && (match inf.N.findIdx? (· == y1) with
      | some j => ckVar inf sc i x1 && (decide (i ≠ j) && (blkC inf.N sc scope [(y1, j)] && (ckVar inf (relS scope sc) i x1 && (ckVar inf (relS scope sc) j y1 && ckNm inf (relS scope sc) (some scope) j (.Name y1 p4)))))
      | none => false)))
    | _, _ => false)

section
variable {X : Cx} {K : Cs} {c : Ctx} {inf : Inf} {sc : Scope} {bs : Option Scope}
theorem ckL_pa {f : Expr → Ex → Bool} (hf : ∀ e x, f e x = true → PE X e (tE K (evE c x))) : ∀ {es : List Expr} {xs : List Ex}, ckL f es xs = true → PA X es (tA K (evA c xs)) ∧ noStars es = true ∧ es.length = xs.length
  | [], [], _ => ⟨s_nil, rfl, rfl⟩
  | [], _ :: _, h => by cases h
  | _ :: _, [], h => by cases h
  | e :: es, x :: xs, h => by
    unfold ckL at h
    simp only [Bool.and_eq_true] at h
    obtain ⟨h1, h2, h3⟩ := ckL_pa hf h.2.2
    exact ⟨s_cons (hf e x h.2.1) h.1 h1, by rw [noStars, h.1, h2]; rfl, congrArg Nat.succ h3⟩
theorem ckL_pr {f : Expr → Ex → Bool} (hf : ∀ e x, f e x = true → PE X e (tE K (evE c x))) : ∀ {es : List Expr} {xs : List Ex}, ckL f es xs = true → PA X es (tR K (evR c xs)) ∧ noStars es = true
  | [], [], _ => ⟨r_nil, rfl⟩
  | [], _ :: _, h => by cases h
  | _ :: _, [], h => by cases h
  | e :: es, x :: xs, h => by
    unfold ckL at h
    simp only [Bool.and_eq_true] at h
    obtain ⟨h1, h2⟩ := ckL_pr hf h.2.2
    exact ⟨r_cons (hf e x h.2.1) h.1 h1, by rw [noStars, h.1, h2]; rfl⟩
theorem ckBo_pe {f : Expr → Ex → Bool} (hf : ∀ e x, f e x = true → PE X e (tE K (evE c x))) {o : BoolOp} {pos : Pos} : ∀ {es : List Expr} {x : Ex}, ckBo f (isAndOp o) es x = true → PE X (.BoolOp o es pos) (tE K (evE c x))
  | [], _, h => by unfold ckBo at h; cases h
  | [e], x, h => by
    unfold ckBo at h
    exact pe_one (hf e x h)
  | e :: e2 :: es, x, h => by
    cases x with
    | and x y =>
      simp only [ckBo, Bool.and_eq_true] at h
      cases o with
      | Or => cases h.1
      | And => exact s_and (hf _ _ h.2.1) (ckBo_pe hf h.2.2)
    | or x y =>
      simp only [ckBo, Bool.and_eq_true, Bool.not_eq_true'] at h
      cases o with
      | And => cases h.1
      | Or => exact s_or (hf _ _ h.2.1) (ckBo_pe hf h.2.2)
    | _ => simp [ckBo] at h
theorem ckBo_pw {f : Expr → Ex → Bool} (hf : ∀ e x, f e x = true → PT X e (tT K fun s => testR (evE c x s))) {o : BoolOp} {pos : Pos} : ∀ {es : List Expr} {x : Ex}, ckBo f (isAndOp o) es x = true → PW X (.BoolOp o es pos) (tT K fun s => testR (evE c x s))
  | [], _, h => by unfold ckBo at h; cases h
  | [e], x, h => by
    unfold ckBo at h
    cases o with
    | And => exact pw_and1 (hf e x h)
    | Or => exact pw_or1 (hf e x h)
  | e :: e2 :: es, x, h => by
    cases x with
    | and x y =>
      simp only [ckBo, Bool.and_eq_true] at h
      cases o with
      | Or => cases h.1
      | And => exact t_and (hf _ _ h.2.1) (ckBo_pw hf h.2.2)
    | or x y =>
      simp only [ckBo, Bool.and_eq_true, Bool.not_eq_true'] at h
      cases o with
      | And => cases h.1
      | Or => exact t_or (hf _ _ h.2.1) (ckBo_pw hf h.2.2)
    | _ => simp [ckBo] at h
theorem ckB_ok (S : Stat X K c inf) (h : Scp X sc bs) {x y : Str} (hc : ckB inf sc x y = true) : x = y ∧ Gl X x ∧ X.mg x = none := by
  unfold ckB at hc
  simp only [Bool.and_eq_true, decide_eq_true_eq] at hc
  exact ⟨hc.1, gl_ok h hc.2.1, S.bl x hc.2.2⟩
theorem ckI_ok (S : Stat X K c inf) (h : Scp X sc bs) {f : Expr → Ex → Bool} (hf : ∀ e x, f e x = true → PE X e (tE K (evE c x))) {tg it : Expr} {x : Ex} {lb : Bool} (hc : ckI inf f sc it x = true) : PI X tg it (tI K lb fun s => iterR (itms lb) (evE c x s)) ∧ noFold it = true := by
  unfold ckI at hc
  rw [Bool.and_eq_true] at hc
  refine ⟨?_, hc.1⟩
  have hc := hc.2
  split at hc
  · simp only [Bool.and_eq_true] at hc
    obtain ⟨h1, h2, h3⟩ := ckB_ok S h hc.1
    exact s_rng1 h1 h2 h3 hc.2.1 (s_cons (hf _ _ hc.2.2) hc.2.1 s_nil)
  · simp only [Bool.and_eq_true] at hc
    obtain ⟨h1, h2, h3⟩ := ckB_ok S h hc.1
    exact s_rng2 h1 h2 h3 hc.2.1 hc.2.2.1 (s_cons (hf _ _ hc.2.2.2.1) hc.2.1 (s_cons (hf _ _ hc.2.2.2.2) hc.2.2.1 s_nil))
  · cases hc
  · exact s_iter (hf _ _ hc)
theorem ckIf_ok {f : Expr → Ex → Bool} (hf : ∀ e x, f e x = true → PT X e (tT K fun s => testR (evE c x s))) : ∀ {es : List Expr} {xs : List Ex}, ckIf f es xs = true → ∃ tt, PTs X es tt ∧ ∀ σ H Q, tC K c xs σ H Q → tt σ H Q
  | [], [], _ => ⟨tYes, pts_nil, fun σ H Q ⟨w, s, I, b, s', hm, k⟩ => by
    rw [evC] at hm
    cases hm
    exact k w H (.refl w H) I⟩
  | [e], [x], h => by
    unfold ckIf at h
    refine ⟨_, pts_one (hf e x h), fun σ H Q ⟨w, s, I, b, s', hm, k⟩ => ⟨w, s, I, b, s', ?_, k⟩⟩
    rw [evC] at hm
    split at hm
    · rename_i s1 h1
      rw [evC] at hm
      cases hm
      exact h1
    · rename_i s1 h1
      cases hm
      exact h1
    · cases hm
  | [], _ :: _, h => by cases h
  | _ :: _, [], h => by unfold ckIf at h; split at h <;> simp_all
  | _ :: _ :: _, _ :: _, h => by unfold ckIf at h; split at h <;> simp_all
  | [_], _ :: _ :: _, h => by unfold ckIf at h; split at h <;> simp_all
theorem ckP_ok {f : Expr → Ex → Bool} (hf : ∀ e x, f e x = true → PE X e (tE K (evE c x))) {e : Option Expr} {x : Ex} (h : ckP f e x = true) : PartOk X K c e x := by
  unfold ckP at h
  split at h
  · exact .inl ⟨rfl, rfl⟩
  · exact .inr ⟨_, rfl, hf _ _ h⟩
  · cases h
theorem keys_pps {f : Expr → Ex → Bool} {pos : Pos} (hf : ∀ e x, f e x = true → PE X e (tE K (evE c x))) : ∀ {keys : List (Option Expr)} {ks : List D} {vals : List Expr} {xs : List Ex}, ckKeys keys ks = true → ckL f vals xs = true → keys.length = vals.length →
    PPs X pos keys vals (trsOf K c (strsOf ks) xs) ∧ keys.all (·.isSome) = true ∧ ks = (strsOf ks).map strD ∧ (strsOf ks).length = keys.length
  | [], [], [], [], _, _, _ => ⟨pps_nil, rfl, rfl, rfl⟩
  | [], [], _ :: _, _, _, _, h => by cases h
  | [], [], [], _ :: _, _, h, _ => by cases h
  | [], _ :: _, _, _, h, _, _ => by cases h
  | k :: keys, ks, vals, xs, hk, hv, hl => by
    cases vals with
    | nil => cases hl
    | cons v vals =>
      cases xs with
      | nil => cases hv
      | cons x xs =>
        unfold ckKeys at hk
        split at hk
        · rename_i q; cases q
        · rename_i y j p ks' z ds q
          cases q
          rw [Bool.and_eq_true, beq_iff_eq] at hk
          unfold ckL at hv
          simp only [Bool.and_eq_true] at hv
          obtain ⟨h1, h2, h3, h4⟩ := keys_pps (pos := pos) hf hk.2 hv.2.2 (by simpa using hl)
          refine ⟨?_, by rw [List.all_cons, h2]; rfl, by rw [strsOf, List.map_cons, ← h3]; rfl, by rw [strsOf, List.length_cons, List.length_cons, h4]⟩
          have e : (⟨z.toArray⟩ : Str) = y := by rw [← hk.1]
          have q0 : PE X (.Constant (.str y) j p) (L2.tC (.str ⟨z.toArray⟩)) := by rw [e]; exact pe_str
          exact pps_cons q0 (f_of (hf _ _ hv.2.1)) h1
        · cases hk
theorem ownOf_snd (own : List Nat) : (ownOf inf own).map (·.2) = own := by
  unfold ownOf
  rw [List.map_map]
  exact List.map_id _
end
end Sk

end

section
set_option Elab.async false
set_option linter.all false
set_option maxRecDepth 100000
set_option maxHeartbeats 8000000
/-! SkU: the checker is right. -/
namespace Sk
open PySem PySem.Spec PyProof.Rows L2
section
variable {K : Cs} {c : Ctx} {inf : Inf}
theorem notStar_of {e : Expr} {es : List Expr} (h : noStars (e :: es) = true) : notStar e = true ∧ noStars es = true := by
  rw [noStars, Bool.and_eq_true] at h
  exact h
/-- what a block's parts are -/
structure BlkPts (X : Cx) (K : Cs) (c : Ctx) (scope : Scope) (own : List Nat) (t : Tg) (tg : Expr) (ifs : List Expr) (cs : List Ex) (ownp : List (Str × Nat)) : Prop where
  ok : BlkOk X.N X.env.scope scope ownp
  snd : ownp.map (·.2) = own
theorem blk_ok {X : Cx} {sc : Scope} {bs : Option Scope} (S : Stat X K c inf) (h : Scp X sc bs) {scope : Scope} {own : List Nat} (hb : blkC inf.N sc scope (ownOf inf own) = true) : BlkOk X.N X.env.scope scope (ownOf inf own) := by
  rw [S.hN, h.sc]
  exact blkOk_by hb
theorem all_mem {l m : List Nat} (h : l.all (fun i => decide (i ∈ m)) = true) : ∀ i ∈ l, i ∈ m := fun i hi => of_decide_eq_true (List.all_eq_true.mp h i hi)
def Good (inf : Inf) (K : Cs) (c : Ctx) (n : Nat) : Prop := ∀ (X : Cx) (sc : Scope) (bs : Option Scope), Stat X K c inf → Scp X sc bs →
  (∀ e x, ck inf n false sc bs e x = true → PE X e (tE K (evE c x))) ∧ ∀ e x, ck inf n true sc bs e x = true → PT X e (tT K fun s => testR (evE c x s))
theorem good_T {n : Nat} (ih : Good inf K c n) {X : Cx} {sc : Scope} {bs : Option Scope} (S : Stat X K c inf) (h : Scp X sc bs) (e : Expr) (x : Ex) (hc : ck inf (n + 1) true sc bs e x = true) : PT X e (tT K fun s => testR (evE c x s)) := by
  obtain ⟨iE, iT⟩ := ih X sc bs S h
  unfold ck at hc
  split at hc
  · exact t_not (iT _ _ hc)
  · rw [Bool.and_eq_true] at hc
    exact t_eqK S h (iE _ _ hc.2) hc.1
  · simp only [Bool.and_eq_true, decide_eq_true_eq] at hc
    refine t_inK S h (iE _ _ hc.2.2) hc.1 (Nat.le_trans hc.2.1 (by decide)) ?_
    rfl
  · simp only [Bool.and_eq_true] at hc
    rw [eqC_ok hc.1]
    exact pt_cmp S.un (iE _ _ hc.2.2.1) (iE _ _ hc.2.2.2) hc.2.1
  · exact t_isnone (iE _ _ hc)
  · exact (ckBo_pw iT hc).pt
  · rw [Bool.and_eq_true] at hc
    exact pt_plain (iE _ _ hc.2) hc.1
theorem good_lc {n : Nat} (ih : Good inf K c n) {X : Cx} {sc : Scope} {bs : Option Scope} (S : Stat X K c inf) (h : Scp X sc bs) {own : List Nat} {t : Tg} {it : Ex} {cs : List Ex} {elt : Ex} {ee tg iter : Expr} {ifs : List Expr} {scope : Scope}
    (hc : (ckI inf (ck inf n false sc bs) sc iter it && (blkC inf.N sc scope (ownOf inf own) && ((tgs t).all (fun i => decide (i ∈ own)) &&
        (ckTg inf (relS scope sc) (some scope) t tg && (ckIf (ck inf n true (relS scope sc) (some scope)) ifs cs && ck inf n false (relS scope sc) (some scope) ee elt))))) = true) :
    ∃ wi g tt te, PI X tg iter wi ∧ noFold iter = true ∧ BlkOk X.N X.env.scope scope (ownOf inf own) ∧
      (∀ (s : Shared) (H : Hp) (C : Addr) (cl : List (Str × Addr)) (fp : List Addr), PG (X.blk s H scope (compEnvC scope cl C X.env) fp) tg g) ∧ (∀ (s : Shared) (H : Hp) (C : Addr) (cl : List (Str × Addr)) (fp : List Addr), PTs (X.blk s H scope (compEnvC scope cl C X.env) fp) ifs tt) ∧
      (∀ (s : Shared) (H : Hp) (C : Addr) (cl : List (Str × Addr)) (fp : List Addr), PE (X.blk s H scope (compEnvC scope cl C X.env) fp) ee te) ∧ ∀ σ H Q, tE K (evE c (.lc own t it cs elt)) σ H Q → tLc wi g tt te ((ownOf inf own).map (·.2)) σ H Q := by
  obtain ⟨iE, iT⟩ := ih X sc bs S h
  simp only [Bool.and_eq_true] at hc
  obtain ⟨h1, h2, h3, h4, h5, h6⟩ := hc
  obtain ⟨q1, q2⟩ := ckI_ok (tg := tg) (lb := true) S h iE h1
  have hI : ∃ tt, (∀ (s : Shared) (H : Hp) (C : Addr) (cl : List (Str × Addr)) (fp : List Addr), PTs (X.blk s H scope (compEnvC scope cl C X.env) fp) ifs tt) ∧ ∀ σ H Q, tC K c cs σ H Q → tt σ H Q := by
    refine ⟨tC K c cs, fun s H C cl fp => ?_, fun _ _ _ q => q⟩
    obtain ⟨tt, r1, r2⟩ := ckIf_ok (ih _ _ _ (S.blk s H scope (compEnvC scope cl C X.env) fp) (h.blk s H C cl scope fp)).2 h5
    exact ⟨fun pins s' σ H' Q I q => r1.run pins s' σ H' Q I (r2 σ H' Q q)⟩
  obtain ⟨tt, r1, r2⟩ := hI
  refine ⟨_, gOf X.K t, tt, tE K (evE c elt), q1, q2, blk_ok S h h2, fun s H C cl fp => (tg_ok (S.blk s H scope (compEnvC scope cl C X.env) fp) (h.blk s H C cl scope fp) h4).1, r1, fun s H C cl fp => (ih _ _ _ (S.blk s H scope (compEnvC scope cl C X.env) fp) (h.blk s H C cl scope fp)).1 _ _ h6, ?_⟩
  rw [ownOf_snd]
  have hT : TgOk K (gOf X.K t) t := by
    cases t with
    | nm i => exact tg_name
    | tp is => exact tg_tup
  exact lc_ok (fun _ _ _ q => q) hT (all_mem h3) r2 fun _ _ _ q => q
theorem good_dc {n : Nat} (ih : Good inf K c n) {X : Cx} {sc : Scope} {bs : Option Scope} (S : Stat X K c inf) (h : Scp X sc bs) {own : List Nat} {t : Tg} {it kx vx : Ex} {ek ev tg iter : Expr} {scope : Scope}
    (hc : (ckI inf (ck inf n false sc bs) sc iter it && (blkC inf.N sc scope (ownOf inf own) && ((tgs t).all (fun i => decide (i ∈ own)) &&
        (ckTg inf (relS scope sc) (some scope) t tg && (ck inf n false (relS scope sc) (some scope) ek kx && ck inf n false (relS scope sc) (some scope) ev vx))))) = true) :
    ∃ wi g tk tv, PI X tg iter wi ∧ noFold iter = true ∧ BlkOk X.N X.env.scope scope (ownOf inf own) ∧
      (∀ (s : Shared) (H : Hp) (C : Addr) (cl : List (Str × Addr)) (fp : List Addr), PG (X.blk s H scope (compEnvC scope cl C X.env) fp) tg g) ∧
      (∀ (s : Shared) (H : Hp) (C : Addr) (cl : List (Str × Addr)) (fp : List Addr), PE (X.blk s H scope (compEnvC scope cl C X.env) fp) ek tk) ∧ (∀ (s : Shared) (H : Hp) (C : Addr) (cl : List (Str × Addr)) (fp : List Addr), PE (X.blk s H scope (compEnvC scope cl C X.env) fp) ev tv) ∧
      ∀ σ H Q, tE K (evE c (.dc own t it kx vx)) σ H Q → tDc wi g tYes tk tv ((ownOf inf own).map (·.2)) σ H Q := by
  obtain ⟨iE, iT⟩ := ih X sc bs S h
  simp only [Bool.and_eq_true] at hc
  obtain ⟨h1, h2, h3, h4, h5, h6⟩ := hc
  obtain ⟨q1, q2⟩ := ckI_ok (tg := tg) (lb := true) S h iE h1
  refine ⟨_, gOf X.K t, tE K (evE c kx), tE K (evE c vx), q1, q2, blk_ok S h h2, fun s H C cl fp => (tg_ok (S.blk s H scope (compEnvC scope cl C X.env) fp) (h.blk s H C cl scope fp) h4).1, fun s H C cl fp => (ih _ _ _ (S.blk s H scope (compEnvC scope cl C X.env) fp) (h.blk s H C cl scope fp)).1 _ _ h5, fun s H C cl fp => (ih _ _ _ (S.blk s H scope (compEnvC scope cl C X.env) fp) (h.blk s H C cl scope fp)).1 _ _ h6, ?_⟩
  rw [ownOf_snd]
  have hT : TgOk K (gOf X.K t) t := by
    cases t with
    | nm i => exact tg_name
    | tp is => exact tg_tup
  exact dc_ok (fun _ _ _ q => q) hT (all_mem h3) (fun _ _ _ q => q) fun _ _ _ q => q
theorem good_E {n : Nat} (ih : Good inf K c n) {X : Cx} {sc : Scope} {bs : Option Scope} (S : Stat X K c inf) (h : Scp X sc bs) (e : Expr) (x : Ex) (hc : ck inf (n + 1) false sc bs e x = true) : PE X e (tE K (evE c x)) := by
  obtain ⟨iE, iT⟩ := ih X sc bs S h
  unfold ck at hc
  split at hc
  · exact lit_ok S h hc
  · obtain ⟨a1, a2, a3, a4⟩ := var_at S h hc
    exact s_var a1 a2 a3 a4
  · exact s_tup (ckL_pa iE hc).1
  · exact s_lst (ckL_pa iE hc).1
  · exact s_dnew
  · simp only [Bool.and_eq_true, decide_eq_true_eq] at hc
    obtain ⟨⟨h1, h2, h3, h4, h5⟩, h6⟩ := hc
    rename_i ks xs keys vals p
    obtain ⟨q1, q2, q3, q4⟩ := keys_pps (pos := p) iE h1 h2 h5
    obtain ⟨_, _, q5⟩ := ckL_pa (c := c) iE h2
    rw [q3]
    exact s_disp q1 q2 h5 (fun e => by rw [e] at h3; cases h3) h4 (by rw [q4, h5, q5]) (by rw [q4]; exact h4) h6
  · simp only [Bool.and_eq_true] at hc
    rw [eqB_ok hc.1]
    exact s_bin (iE _ _ hc.2.1) (iE _ _ hc.2.2)
  · simp only [Bool.and_eq_true] at hc
    rw [eqC_ok hc.1]
    exact s_cmp S.un (iE _ _ hc.2.2.1) (iE _ _ hc.2.2.2) hc.2.1
  · exact s_isnone (iE _ _ hc)
  · simp only [Bool.and_eq_true] at hc
    obtain ⟨h1, h2, h3, h4⟩ := hc
    obtain ⟨f1, f2, f3⟩ := ckB_ok S h h1
    obtain ⟨g1, g2, g3⟩ := ckB_ok S h h2
    rename_i y t f p1 a g p2 p3
    refine s_isinst h3 f1 f2 f3 g2 g3 ?_ ?_ ?_ (iE _ _ h4)
    · rw [g1]; cases t <;> rfl
    · rw [g1]; cases t <;> decide
    · rw [g1]; cases t <;> decide
  · exact ckBo_pe iE hc
  · exact ckBo_pe iE hc
  · exact s_not (iE _ _ hc)
  · simp only [Bool.and_eq_true] at hc
    exact s_ife (iT _ _ hc.1) (iE _ _ hc.2.1) (iE _ _ hc.2.2)
  · simp only [Bool.and_eq_true] at hc
    exact s_idx S.un (iE _ _ hc.2.1) (iE _ _ hc.2.2) hc.1
  · simp only [Bool.and_eq_true] at hc
    exact s_slc (iE _ _ hc.1) (ckP_ok iE hc.2.1) (ckP_ok iE hc.2.2)
  · simp only [Bool.and_eq_true, decide_eq_true_eq] at hc
    obtain ⟨rfl, hc⟩ := hc
    exact s_rev (iE _ _ hc)
  · simp only [Bool.and_eq_true] at hc
    obtain ⟨h1, h2, h3, h4⟩ := hc
    obtain ⟨r1, r2⟩ := ckL_pr iE h4
    split at h1
    · rename_i hh np hd
      simp only [Bool.and_eq_true, decide_eq_true_eq] at h1
      obtain ⟨rfl, rfl⟩ := h1
      exact s_call (S.defs _ _ _ hd) (gl_ok h h2) (okN1_ok h3).1 (notStar_of r2).1 r1 (noStars_any (notStar_of r2).2)
    · cases h1
  · simp only [Bool.and_eq_true] at hc
    obtain ⟨h1, h2, h3, h4⟩ := hc
    obtain ⟨f1, f2, f3⟩ := ckB_ok S h h1
    obtain ⟨g1, g2, g3⟩ := ckB_ok S h h2
    exact s_listr S.calm f1 f2 f3 g1 g2 g3 h3 (iE _ _ h4)
  · simp only [Bool.and_eq_true] at hc
    obtain ⟨h1, h2, h3, h4⟩ := hc
    obtain ⟨f1, f2, f3⟩ := ckB_ok S h h1
    obtain ⟨g1, g2, g3⟩ := ckB_ok S h h2
    exact s_sortset S.un S.calm f1 f2 f3 g1 g2 g3 h3 (iE _ _ h4)
  · simp only [Bool.and_eq_true] at hc
    obtain ⟨h1, h2, h3, h4⟩ := hc
    obtain ⟨f1, f2, f3⟩ := ckB_ok S h h2
    exact s_blt S.un S.calm h1 f1 f2 f3 h3 (iE _ _ h4)
  · simp only [Bool.and_eq_true, decide_eq_true_eq] at hc
    obtain ⟨h1, h2, h3, h4, h5, h6⟩ := hc
    obtain ⟨r1, r2, _⟩ := ckL_pa (c := c) iE h6
    exact s_meth S.un (iE _ _ h5) h1 h2 r2 h3 h4 r1
  · simp only [Bool.and_eq_true, decide_eq_true_eq] at hc
    obtain ⟨h1, h2, h3, h4, h5⟩ := hc
    obtain ⟨r1, r2, _⟩ := ckL_pa (c := c) iE h5
    obtain ⟨a1, a2, a3, a4⟩ := var_at S h h2
    exact s_mut a1 a2 a3 a4 h1 r2 h3 h4 r1
  · simp only [Bool.and_eq_true, decide_eq_true_eq] at hc
    obtain ⟨h1, h2, h3⟩ := hc
    obtain ⟨a1, a2, a3, a4⟩ := var_at S h h2
    exact s_pop a1 a2 a3 a4 h1 h3
  · rw [Bool.and_eq_true, decide_eq_true_eq] at hc
    obtain ⟨rfl, hc⟩ := hc
    obtain ⟨wi, g, tt, te, q1, q2, q3, q4, q5, q6, q7⟩ := good_lc ih S h hc
    exact (pe_lc S.calm S.nd q1 q3 q4 q5 q6 (noFold_ok q2)).imp q7
  · simp only [Bool.and_eq_true, decide_eq_true_eq] at hc
    obtain ⟨rfl, rfl, h1, h2, h3, h4, h5, h6, h7, h8, h9, h10, h11⟩ := hc
    rename_i own own1 t it cs t1 it1 cs1 elt ee tg iter ifs tg1 iter1 ifs1 scope p
    obtain ⟨q1, q2⟩ := ckI_ok (tg := tg) (lb := true) S h iE h1
    have hT : ∀ t, TgOk K (gOf X.K t) t := fun t => by
      cases t with
      | nm i => exact tg_name
      | tp is => exact tg_tup
    have hI : ∀ {ifs : List Expr} {cs : List Ex}, ckIf (ck inf n true (relS scope sc) (some scope)) ifs cs = true → ∀ (s : Shared) (H : Hp) (C : Addr) (cl : List (Str × Addr)) (fp : List Addr), PTs (X.blk s H scope (compEnvC scope cl C X.env) fp) ifs (tC K c cs) := fun hcc s H C cl fp => by
      obtain ⟨tt, r1, r2⟩ := ckIf_ok (ih _ _ _ (S.blk s H scope (compEnvC scope cl C X.env) fp) (h.blk s H C cl scope fp)).2 hcc
      exact ⟨fun pins s' σ H' Q I q => r1.run pins s' σ H' Q I (r2 σ H' Q q)⟩
    have hi1 : ∀ (s : Shared) (H : Hp) (C : Addr) (cl : List (Str × Addr)) (fp : List Addr), PI (X.blk s H scope (compEnvC scope cl C X.env) fp) tg1 iter1 (tI K true fun s => iterR (itms true) (evE c it1 s)) ∧ noFold iter1 = true := fun s H C cl fp =>
      ckI_ok (S.blk s H scope (compEnvC scope cl C X.env) fp) (h.blk s H C cl scope fp) (ih _ _ _ (S.blk s H scope (compEnvC scope cl C X.env) fp) (h.blk s H C cl scope fp)).1 h8
    have hnf : noFold iter1 = true := by
      unfold ckI at h8
      rw [Bool.and_eq_true] at h8
      exact h8.1
    refine (pe_lc2 (vs1 := own1) (g := gOf X.K t) (g1 := gOf X.K t1) S.calm S.nd q1 (blk_ok S h h2) (by rw [ownOf_snd]; exact all_mem h6) (fun s H C cl fp => (tg_ok (S.blk s H scope (compEnvC scope cl C X.env) fp) (h.blk s H C cl scope fp) h4).1) (hI h5) (fun s H C cl fp => (hi1 s H C cl fp).1)
      (fun s H C cl fp => (tg_ok (S.blk s H scope (compEnvC scope cl C X.env) fp) (h.blk s H C cl scope fp) h9).1) (hI h10) (fun s H C cl fp => (ih _ _ _ (S.blk s H scope (compEnvC scope cl C X.env) fp) (h.blk s H C cl scope fp)).1 _ _ h11) (noFold_ok q2) (fun env x => noFold_ok hnf x)).imp ?_
    rw [ownOf_snd]
    exact lc2_ok (fun _ _ _ q => q) (hT t) (all_mem h3) (fun _ _ _ q => q) (fun _ _ _ q => q) (all_mem h6) (hT t1) (all_mem h7) (fun _ _ _ q => q) fun _ _ _ q => q
  · rw [Bool.and_eq_true, decide_eq_true_eq] at hc
    obtain ⟨rfl, hc⟩ := hc
    obtain ⟨wi, g, tk, tv, q1, q2, q3, q4, q5, q6, q7⟩ := good_dc ih S h hc
    exact (pe_dc S.calm S.nd q1 q3 q4 (fun s H C cl fp => pts_nil) q5 q6 (noFold_ok q2)).imp q7
  · simp only [Bool.and_eq_true, decide_eq_true_eq] at hc
    obtain ⟨rfl, rfl, rfl, hc⟩ := hc
    split at hc
    · rename_i j hj
      simp only [Bool.and_eq_true, decide_eq_true_eq] at hc
      obtain ⟨h1, h2, h3, h4, h5, h6⟩ := hc
      exact s_dvals S h h1 h2 h3 h4 h5 h6
    · cases hc
  · cases hc
theorem ck_good : ∀ n : Nat, Good inf K c n
  | 0 => fun X sc bs S h => ⟨(fun e x hc => nomatch hc), (fun e x hc => nomatch hc)⟩
  | n + 1 => fun X sc bs S h => ⟨fun e x hc => good_E (ck_good n) S h e x hc, fun e x hc => good_T (ck_good n) S h e x hc⟩
end
end Sk

end

section
set_option Elab.async false
set_option linter.all false
set_option maxRecDepth 100000
set_option maxHeartbeats 8000000
/-! SkV: the checker for statements. -/
namespace Sk
open PySem PySem.Spec PyProof.Rows L2

def ckBl (f : Stmt → St → Bool) : List Stmt → List St → Bool
  | [], [] => true
  | e :: es, x :: xs => f e x && ckBl f es xs
  | _, _ => false
def notTupE : Expr → Bool
  | .Tuple _ _ _ => false
  | _ => true
/-- a name among them that is no plain local -/
def nlC (sc : Scope) (es : List Expr) : Bool := es.any fun
  | .Name a _ => !(sc.names.lookup a == some .local)
  | _ => false
/-- a, b = x, y: stored from the right -/
def parC (sc : Scope) (a b : Str) (pa pb : Pos) (e1 e2 : Expr) : Bool := (sc.names.lookup a == some .local) && ((sc.names.lookup b == some .local) && ((pb.line == pa.line) && (!(a == b) && (notStar e1 && (notStar e2 && (!(([e1, e2] : List Expr).all (foldedForSure 8)) && !(([e1, e2] : List Expr).all (constantsAlone 8))))))))
def ckAs (inf : Inf) (n : Nat) (sc : Scope) (i : Nat) (a : Str) (pa : Pos) (v : Expr) (y : Ex) : Bool := ckNm inf sc none i (.Name a pa) && (match v with
  | .ListComp ee gs scope p => (match swC sc scope a pa p with
    | true => (match gs, y with
      | [⟨tg, iter, ifs, ia⟩], .lc own t it cs elt => decide (ia = 0) && (ckI inf (ck inf n false sc none) sc iter it && (blkC inf.N sc scope (ownOf inf own) && ((tgs t).all (fun i => decide (i ∈ own)) &&
          (ckTg inf (relS scope sc) (some scope) t tg && (ckIf (ck inf n true (relS scope sc) (some scope)) ifs cs && ck inf n false (relS scope sc) (some scope) ee elt)))))
      | _, _ => false)
    | false => ck inf n false sc none (.ListComp ee gs scope p) y)
  | .DictComp ek ev gs scope p => (match swC sc scope a pa p with
    | true => (match gs, y with
      | [⟨tg, iter, [], ia⟩], .dc own t it kx vx => decide (ia = 0) && (ckI inf (ck inf n false sc none) sc iter it && (blkC inf.N sc scope (ownOf inf own) && ((tgs t).all (fun i => decide (i ∈ own)) &&
          (ckTg inf (relS scope sc) (some scope) t tg && (ck inf n false (relS scope sc) (some scope) ek kx && ck inf n false (relS scope sc) (some scope) ev vx)))))
      | _, _ => false)
    | false => ck inf n false sc none (.DictComp ek ev gs scope p) y)
  | v => noComp v && ck inf n false sc none v y)
def ckS (inf : Inf) (nE : Nat) (sc : Scope) : Nat → Stmt → St → Bool
  | 0, _, _ => false
  | n + 1, st, x => (match x, st with
    | .ex y, .Expr e _ => noComp e && ck inf nE false sc none e y
    | .asg (.nm i) y, .Assign [.Name a pa] v _ => ckAs inf nE sc i a pa v y
    | .asg (.tp is) y, .Assign [.Tuple es k pt] v _ => ckNms inf sc none is es && (noComp v && ((notTupE v || nlC sc es) && ck inf nE false sc none v y))
    | .par i j y z, .Assign [.Tuple [.Name a pa, .Name b pb] _ _] (.Tuple [e1, e2] _ _) _ => ckNm inf sc none i (.Name a pa) && (ckNm inf sc none j (.Name b pb) && (decide (i ≠ j) && (parC sc a b pa pb e1 e2 && (ck inf nE false sc none e1 y && ck inf nE false sc none e2 z))))
    | .sub i k y, .Assign [.Subscript (.Name a _) ke _] v _ => ckVar inf sc i a && (ck inf nE false sc none ke k && ck inf nE false sc none v y)
    | .ret y, .Return (some e) _ => ck inf nE false sc none e y
    | .ife t xs ys, .If e a b _ => ck inf nE true sc none e t && (ckBl (ckS inf nE sc n) a xs && ckBl (ckS inf nE sc n) b ys)
    | .whl t xs, .While e b [] _ => ck inf nE true sc none e t && ckBl (ckS inf nE sc n) b xs
    | .for_ t it xs, .For tg iter b [] _ => ckI inf (ck inf nE false sc none) sc iter it && (ckTg inf sc none t tg && ckBl (ckS inf nE sc n) b xs)
    | .brk, .Break _ => true
    | .cnt, .Continue _ => true
    | .pass, .Pass _ => true
    | .never, _ => true
    | _, _ => false)
section
variable {K : Cs} {c : Ctx} {inf : Inf} {X : Cx} {sc : Scope}
theorem ckBl_ok {f : Stmt → St → Bool} (hf : ∀ e x, f e x = true → PS X e (tS K (evS c x))) : ∀ {es : List Stmt} {xs : List St}, ckBl f es xs = true → PSs X es (tS K (evB c xs))
  | [], [], _ => b_nil
  | [], _ :: _, h => by cases h
  | _ :: _, [], h => by cases h
  | e :: es, x :: xs, h => by
    unfold ckBl at h
    rw [Bool.and_eq_true] at h
    exact b_cons (hf e x h.1) (ckBl_ok hf h.2)
theorem sw_sub {v o i : Expr} {p : Pos} {l : Nat} {env : Env} : swapsWith v (some (.Subscript o i p)) l env = pure false := by cases v <;> rfl
theorem st_none {es : List Expr} {k : Nat} {p : Pos} {v : Expr} {env : Env} (h : notTupE v = true) : swappedStores [.Tuple es k p] v env = pure none := by
  cases v <;> first | rfl | simp [notTupE] at h
theorem st_none2 {es : List Expr} {k : Nat} {p : Pos} {v : Expr} {env : Env} (h : (notTupE v || nlC env.scope es) = true) : swappedStores [.Tuple es k p] v env = pure none := by
  by_cases hv : notTupE v = true
  · exact st_none hv
  · rw [Bool.or_eq_true] at h
    have h2 := h.resolve_left hv
    clear h
    cases v with
    | Tuple vs k2 p2 =>
      unfold nlC at h2
      obtain ⟨e, he, hq⟩ := List.any_eq_true.mp h2
      have hlen : ∀ f : Expr → Option Str, f e = none → ((es.filterMap f).length != es.length) = true := fun f hf => by
        have := List.length_filterMap_lt_length_iff_exists.mpr ⟨e, he, hf⟩
        rw [bne_iff_ne]
        omega
      unfold swappedStores
      show (if (!(es.length == 2 || es.length == 3) || vs.length != es.length || env.blockKind != .function) = true then pure none else _) = _
      split
      · rfl
      show (if vs.any _ = true then pure none else _) = _
      split
      · rfl
      show (if ((es.filterMap _).length != es.length || _) = true then pure none else _) = _
      rw [hlen _ (by
        cases e with
        | Name a pa =>
          have hq : (!(env.scope.names.lookup a == some .local)) = true := hq
          rw [Bool.not_eq_true'] at hq
          have hq2 : (env.kindOf a == some .local) = false := hq
          show (if (env.kindOf a == some .local && _) = true then some a else none) = none
          rw [hq2]
          rfl
        | _ => cases hq)]
      rfl
    | _ => exact absurd rfl hv
theorem par_stores {a b : Str} {pa pb pt pt2 : Pos} {k k2 : Nat} {e1 e2 : Expr} {env : Env} (hk : isFnK env.scope = true) (h : parC env.scope a b pa pb e1 e2 = true) : swappedStores [.Tuple [.Name a pa, .Name b pb] k pt] (.Tuple [e1, e2] k2 pt2) env = pure (some [a, b]) := by
  unfold parC at h
  simp only [Bool.and_eq_true, Bool.not_eq_true', beq_eq_false_iff_ne, ne_eq] at h
  obtain ⟨h1, h2, h3, h4, h5, h6, h7, h8⟩ := h
  have hb := blockKind_fn hk
  have hbn : (env.blockKind != .function) = false := by unfold bne; rw [hb]; rfl
  have ka : (env.kindOf a == some .local) = true := h1
  have kb : (env.kindOf b == some .local) = true := h2
  have hany : ∀ p : Expr → Bool, (∀ e, notStar e = true → p e = false) → ([e1, e2] : List Expr).any p = false := fun p hp => by
    rw [List.any_cons, List.any_cons, List.any_nil, hp e1 h5, hp e2 h6]
    rfl
  have hnm : ∀ f : Expr → Option Str, f (.Name a pa) = some a → f (.Name b pb) = some b → ([.Name a pa, .Name b pb] : List Expr).filterMap f = [a, b] := fun f fa fb => by
    rw [List.filterMap_cons, fa]
    show a :: _ = _
    rw [List.filterMap_cons, fb]
    rfl
  have hab : (b == a) = false := by
    cases q : (b == a) with
    | false => rfl
    | true => rw [beq_iff_eq] at q; rw [q] at h4; simp at h4
  have e2n : ([a, b] : List Str).eraseDups = [a, b] := by
    rw [List.eraseDups_cons]
    have e3 : ([b] : List Str).filter (fun b => !b == a) = [b] := by
      rw [List.filter_cons, hab]
      rfl
    rw [e3, List.eraseDups_cons]
    rfl
  unfold swappedStores
  show (if (!((2 : Nat) == 2 || (2 : Nat) == 3) || (2 : Nat) != 2 || env.blockKind != .function) = true then pure none else _) = _
  rw [hbn]
  show (if ([e1, e2] : List Expr).any _ = true then pure none else _) = _
  rw [hany _ (fun e he => by cases e <;> first | rfl | simp [notStar] at he)]
  show (if ((([.Name a pa, .Name b pb] : List Expr).filterMap _).length != 2 || ((([.Name a pa, .Name b pb] : List Expr).filterMap _).eraseDups.length != (([.Name a pa, .Name b pb] : List Expr).filterMap _).length)) = true then pure none else _) = _
  rw [hnm _ (by show (if (env.kindOf a == some .local && pa.line == pa.line) = true then some a else none) = some a; rw [ka]; simp) (by show (if (env.kindOf b == some .local && pb.line == pa.line) = true then some b else none) = some b; rw [kb, h3]; rfl), e2n]
  show (if ([e1, e2] : List Expr).all (foldedForSure 8) = true then pure none else _) = _
  rw [if_neg (by rw [h7]; decide)]
  show (if ([e1, e2] : List Expr).all (constantsAlone 8) = true then _ else _) = _
  rw [if_neg (by rw [h8]; decide)]
theorem ckAs_ok (S : Stat X K c inf) (h : Scp X sc none) (hk : isFnK sc = true) {n i : Nat} {a : Str} {pa sp : Pos} {v : Expr} {y : Ex} (hc : ckAs inf n sc i a pa v y = true) : PS X (.Assign [.Name a pa] v sp) (tS K (evS c (.asg (.nm i) y))) := by
  obtain ⟨iE, iT⟩ := ck_good n X sc none S h
  have hk' : isFnK X.env.scope = true := by rw [h.sc]; exact hk
  unfold ckAs at hc
  rw [Bool.and_eq_true] at hc
  obtain ⟨x', p', e, a1, a2, a3⟩ := nm_at S h hc.1
  cases e
  have hc := hc.2
  split at hc
  · rename_i ee gs scope p
    split at hc
    · rename_i hsw
      split at hc
      · rename_i tg iter ifs ia own t it cs elt
        rw [Bool.and_eq_true, decide_eq_true_eq] at hc
        obtain ⟨rfl, hc⟩ := hc
        obtain ⟨wi, g, tt, te, q1, q2, q3, q4, q5, q6, q7⟩ := good_lc (ck_good n) S h hc
        exact asg_imp (ps_setLc S.calm S.nd a1 (by rw [h.sc]; exact lookup_local hsw) (by rw [sw_lc hk', h.sc, hsw]) q1 q3 q4 q5 q6 (noFold_ok q2)) q7
      · cases hc
    · rename_i hsw
      exact s_asg S.nd a1 a2 a3 (iE _ _ hc) (by rw [sw_lc hk', h.sc, hsw])
  · rename_i ek ev gs scope p
    split at hc
    · rename_i hsw
      split at hc
      · rename_i tg iter ia own t it kx vx
        rw [Bool.and_eq_true, decide_eq_true_eq] at hc
        obtain ⟨rfl, hc⟩ := hc
        obtain ⟨wi, g, tk, tv, q1, q2, q3, q4, q5, q6, q7⟩ := good_dc (ck_good n) S h hc
        exact asg_imp (ps_setDc S.calm S.nd a1 (by rw [h.sc]; exact lookup_local hsw) (by rw [sw_dc hk', h.sc, hsw]) q1 q3 q4 (fun s H C cl fp => pts_nil) q5 q6 (noFold_ok q2)) q7
      · cases hc
    · rename_i hsw
      exact s_asg S.nd a1 a2 a3 (iE _ _ hc) (by rw [sw_dc hk', h.sc, hsw])
  · rw [Bool.and_eq_true] at hc
    exact s_asg S.nd a1 a2 a3 (iE _ _ hc.2) (sw_no hc.1)
theorem ckS_ok (S : Stat X K c inf) (h : Scp X sc none) (hk : isFnK sc = true) (hp : PassesOwn (model X.prog X.w) X.A X.env X.xe) {nE : Nat} : ∀ (n : Nat) (st : Stmt) (x : St), ckS inf nE sc n st x = true → PS X st (tS K (evS c x))
  | 0, _, _, hc => by cases hc
  | n + 1, st, x, hc => by
    obtain ⟨iE, iT⟩ := ck_good nE X sc none S h
    have hk' : isFnK X.env.scope = true := by rw [h.sc]; exact hk
    have ih := ckS_ok S h hk hp (nE := nE) n
    unfold ckS at hc
    split at hc
    · rw [Bool.and_eq_true] at hc
      exact s_ex (iE _ _ hc.2) (sw_no hc.1)
    · exact ckAs_ok S h hk hc
    · simp only [Bool.and_eq_true] at hc
      obtain ⟨h1, h2, h3, h4⟩ := hc
      rename_i is y es k pt v p
      have ht : ckTg inf sc none (.tp is) (.Tuple es k pt) = true := h1
      obtain ⟨q1, q2⟩ := tg_ok S h ht
      exact s_asgT q1 q2 (iE _ _ h4) (show swapsWith v (some (.Tuple es k pt)) p.line X.env = pure false from sw_no h2) (st_none2 (by rw [h.sc]; exact h3)) rfl
    · simp only [Bool.and_eq_true, decide_eq_true_eq] at hc
      obtain ⟨h1, h2, h3, h4, h5, h6⟩ := hc
      obtain ⟨x', p', e, a1, a2, a3⟩ := nm_at S h h1
      cases e
      obtain ⟨x', p', e, b1, b2, b3⟩ := nm_at S h h2
      cases e
      have hpc := h4
      unfold parC at hpc
      simp only [Bool.and_eq_true, Bool.not_eq_true', beq_iff_eq] at hpc
      exact s_par S.calm S.nd a1 b1 h3 (by rw [h.sc]; exact hpc.1) (by rw [h.sc]; exact hpc.2.1) hpc.2.2.2.2.1 hpc.2.2.2.2.2.1 (iE _ _ h5) (iE _ _ h6) (par_stores hk' (by rw [h.sc]; exact h4)) rfl
    · simp only [Bool.and_eq_true] at hc
      obtain ⟨a1, a2, a3, a4⟩ := var_at S h hc.1
      exact s_sub S.un a1 a2 a3 a4 (iE _ _ hc.2.1) (iE _ _ hc.2.2) sw_sub
    · exact s_ret (iE _ _ hc)
    · simp only [Bool.and_eq_true] at hc
      exact s_if (iT _ _ hc.1) (ckBl_ok ih hc.2.1) (ckBl_ok ih hc.2.2)
    · rw [Bool.and_eq_true] at hc
      exact s_while hp (iT _ _ hc.1) (ckBl_ok ih hc.2)
    · simp only [Bool.and_eq_true] at hc
      obtain ⟨h1, h2, h3⟩ := hc
      rename_i t it xs tg iter b p
      obtain ⟨q1, q2⟩ := ckI_ok (tg := tg) (lb := false) S h iE h1
      obtain ⟨q3, q4⟩ := tg_ok S h h2
      exact s_for hp S.calm q1 q3 q4 (ckBl_ok ih h3) (noFold_ok q2)
    · exact s_brk
    · exact s_cnt
    · exact s_pass
    · exact s_never
    · cases hc
end
end Sk

end

section
set_option Elab.async false
set_option linter.all false
set_option maxRecDepth 100000
set_option maxHeartbeats 8000000
/-! SkW: all defs keep their promises. -/
namespace Sk
open PySem PySem.Spec PyProof.Rows L2
section
variable {K : Cs} {w : Wd} {s : S} {σ : L2.St} {H : Hp}
/-- the names behind the parameters -/
theorem Sim.start {xs : List Sl} {mh : MH} {σ : L2.St} (I : Sim K w ⟨xs, mh⟩ σ H) (n : Nat) : Sim K w ⟨xs ++ List.replicate n .un, mh⟩ (σ ++ List.replicate n none) H := by
  have hl : xs.length = σ.length := I.len
  have back : ∀ {x a}, OwnAt ⟨xs ++ List.replicate n .un, mh⟩ (σ ++ List.replicate n none) w x a → OwnAt ⟨xs, mh⟩ σ w x a := fun {x a} h => by
    cases x with
    | inr m => exact h
    | inl j =>
      obtain ⟨d, h1, h2⟩ := h
      by_cases hj : j < xs.length
      · rw [List.getElem?_append_left hj] at h1
        rw [List.getElem?_append_left (by omega)] at h2
        exact ⟨d, h1, h2⟩
      · have h1 : (xs ++ List.replicate n Sl.un)[j]? = some (.own d) := h1
        rw [List.getElem?_append_right (by omega), List.getElem?_replicate] at h1
        split at h1 <;> cases h1
  refine ⟨I.con, I.zd, I.pd, I.bp, I.zp, by simp [hl], fun j x h => ?_, I.mlen, I.mo, fun x a h => I.fr x a (back h), fun x y a h1 h2 => I.inj x y a (back h1) (back h2)⟩
  by_cases hj : j < xs.length
  · have h : (xs ++ List.replicate n Sl.un)[j]? = some x := h
    rw [List.getElem?_append_left hj] at h
    rw [List.getElem?_append_left (by omega)]
    exact I.slot j x h
  · have h : (xs ++ List.replicate n Sl.un)[j]? = some x := h
    rw [List.getElem?_append_right (by omega), List.getElem?_replicate] at h
    split at h
    · rename_i hn
      cases h
      refine ⟨none, ?_, trivial⟩
      rw [List.getElem?_append_right (by omega), List.getElem?_replicate, if_pos (by omega)]
    · cases h
theorem Sim.drop (I : Sim K w s σ H) : Sim K w ⟨[], s.mh⟩ [] H := by
  have back : ∀ {x a}, OwnAt ⟨[], s.mh⟩ [] w x a → OwnAt s σ w x a := fun {x a} h => by
    cases x with
    | inr m => exact h
    | inl j =>
      obtain ⟨d, h1, h2⟩ := h
      simp at h1
  exact ⟨I.con, I.zd, I.pd, I.bp, I.zp, rfl, fun j x h => by simp at h, I.mlen, I.mo, fun x a h => I.fr x a (back h), fun x y a h1 h2 => I.inj x y a (back h1) (back h2)⟩
theorem outR_ok (I : Sim K w s σ H) {r r2 : RV} {v : V} (h : RVR w s σ H r v) (e : outR r s = .ok r2) : RVR w ⟨[], s.mh⟩ [] H r2 v := by
  have noInl : ∀ {j a}, ¬ OwnAt ⟨[], s.mh⟩ [] w (.inl j) a := fun {j a} ⟨d, h1, _⟩ => by simp at h1
  cases r with
  | val d => cases e; exact h
  | own d =>
    cases e
    obtain ⟨a, rfl, ca, n1, n2, n3⟩ := h
    refine ⟨a, rfl, ca, n1, n2, fun x hx => ?_⟩
    cases x with
    | inl j => exact noInl hx
    | inr m => exact n3 (.inr m) hx
  | bor i =>
    unfold outR at e
    have h : σ[i]? = some (some v) := h
    cases q : slotAt s i with
    | un => simp [q] at e
    | bor d => simp [q] at e
    | val d =>
      simp only [q] at e
      cases e
      obtain ⟨u, h1, x, h2, h3⟩ := I.slot i _ (slotAt_some q (by simp))
      rw [h] at h1
      cases h1
      cases h2
      exact h3
    | own d =>
      simp only [q] at e
      cases e
      have hi := slotAt_some q (by simp)
      obtain ⟨u, h1, a, h2, ca⟩ := I.slot i _ hi
      rw [h] at h1
      cases h1
      cases h2
      have oa : OwnAt s σ w (.inl i) a := ⟨d, hi, h⟩
      obtain ⟨f1, f2⟩ := I.fr _ _ oa
      refine ⟨a, rfl, ca, f1, f2, fun x hx => ?_⟩
      cases x with
      | inl j => exact noInl hx
      | inr m =>
        have e := I.inj (.inr m) (.inl i) a hx oa
        cases e
end
theorem evF_ok {pg : List Df} {N k f : Nat} {xs : List Sl} {mh mh' : MH} {r : RV} (h : evF pg N (k + 1) f xs mh = .ok (r, mh')) : ∃ d, pg[f]? = some d ∧ xs.length = d.np ∧ d.np ≤ d.ns ∧
    ((∃ r0 s, evB ⟨evF pg N k, fun g => ((pg[g]?).map Df.esc).getD [], N⟩ d.body ⟨xs ++ List.replicate (d.ns - d.np) .un, mh⟩ = .ok (.ret r0, s) ∧ outR r0 s = .ok r ∧ mh' = s.mh) ∨
     ∃ s, evB ⟨evF pg N k, fun g => ((pg[g]?).map Df.esc).getD [], N⟩ d.body ⟨xs ++ List.replicate (d.ns - d.np) .un, mh⟩ = .ok (.nx, s) ∧ r = .val .non ∧ mh' = s.mh) := by
  unfold evF at h
  split at h
  · cases h
  · rename_i d hd
    split at h
    · rename_i hl
      refine ⟨d, hd, hl.1, hl.2, ?_⟩
      split at h
      · rename_i r0 s h1
        split at h
        · rename_i r1 h2
          cases h
          exact .inl ⟨r0, s, h1, h2, rfl⟩
        · cases h
      · rename_i s h1
        cases h
        exact .inr ⟨s, h1, rfl, rfl⟩
      · cases h
      · cases h
    · cases h
/-- what is known of the def number f -/
def DefC (Kf : PySem.W.Frag) (mg : Str → Option Value) (pg : List Df) (con : List (Str × D)) (defs : List (Str × Nat)) (bl : List Str) (f : Nat) (x : Str) (ps : List Str) (fa : Addr) (fd : FuncData) : Prop :=
  ∃ (N : List Str) (params : Arguments) (body : List Stmt) (scope : Scope) (d : Df) (nE nS : Nat), FunD Kf x x params body scope [] [] fa fd ∧ mg x = some (.ref fa) ∧ (∀ (s : Shared) (us : List Value), us.length = ps.length → BindsTo s fd ⟨us, []⟩ (ps.zip us)) ∧ FnScope N ps scope ∧
    pg[f]? = some d ∧ d.np = ps.length ∧ d.ns = N.length ∧ d.esc = [] ∧ isFnK scope = true ∧ ckBl (ckS ⟨N, con, defs, bl⟩ nE scope nS) body d.body = true
structure DefOk (Kf : PySem.W.Frag) (mg : Str → Option Value) (pg : List Df) (con : List (Str × D)) (defs : List (Str × Nat)) (bl : List Str) (f : Nat) (x : Str) (ps : List Str) : Prop where
  ex : ∃ (fa : Addr) (fd : FuncData), DefC Kf mg pg con defs bl f x ps fa fd
section
variable {K : Cs} {P : Program} {w : World} {Kf : PySem.W.Frag} {mg : Str → Option Value} {base : Heap} {pg : List Df} {con : List (Str × D)} {defs : List (Str × Nat)} {bl : List Str} {Nw : Nat}
theorem fn_zero {f : Nat} {fa : Addr} {fd : FuncData} {ps : List Str} {CX : CXT} : FnOk P w Kf mg base CX 0 fa fd ps (spF K ps.length (evF pg Nw 0 f)) :=
  ⟨fun vs H Q E h => h.1, fun A outer s H args us vs Q E _ _ _ _ ⟨_, w', xs, mh, r, mh', _, h, _⟩ => by cases h⟩
/-- the def at level k -/
def FnAt (K : Cs) (P : Program) (w : World) (Kf : PySem.W.Frag) (mg : Str → Option Value) (base : Heap) (pg : List Df) (Nw k f : Nat) (x : Str) (ps : List Str) : Prop :=
  ∃ (fa : Addr) (fd : FuncData), FnOk P w Kf mg base C8.CX0 k fa fd ps (spF K ps.length (evF pg Nw k f)) ∧ mg x = some (.ref fa) ∧ PySem.W.keepIn Kf (.ref fa) = true ∧ ∀ (s : Shared) (us : List Value), us.length = ps.length → BindsTo s fd ⟨us, []⟩ (ps.zip us)
theorem fn_core {k f : Nat} {x : Str} {ps : List Str} {fa : Addr} {fd : FuncData} (hd : ∀ f x np, defs[f]? = some (x, np) → ∃ ps, np = ps.length ∧ DefOk Kf mg pg con defs bl f x ps) (hc : ∀ x d, (x, d) ∈ con → ConOk Kf mg x d) (hb : ∀ x ∈ bl, mg x = none) (D : DefC Kf mg pg con defs bl f x ps fa fd)
    (ih : ∀ f x np, defs[f]? = some (x, np) → ∃ ps, np = ps.length ∧ FnAt K P w Kf mg base pg Nw k f x ps) : FnOk P w Kf mg base C8.CX0 (k + 1) fa fd ps (spF K ps.length (evF pg Nw (k + 1) f)) := by
  obtain ⟨N, params, body, scope, d, nE, nS, F, hm, hB, S, hp, h1, h3, h4, h5, h6⟩ := D
  refine F.ok S (fun vs H Q E hs => hs.1) fun cdv A outer s H vs Q E hr hs => ?_
  have SX : Stat (cxOf C8.CX0 P w Kf mg base N x scope fa cdv A outer s H E).nox K ⟨evF pg Nw k, fun g => ((pg[g]?).map Df.esc).getD [], Nw⟩ ⟨N, con, defs, bl⟩ := by
    refine ⟨rfl, S.nd, rfl, hr.units, fun g y nq hg => ?_, hc, hb⟩
    obtain ⟨ps', en, fa', fd', q1, q2, q3, q4⟩ := ih g y nq hg
    obtain ⟨ps2, _, D2⟩ := hd g y nq hg
    obtain ⟨_, _, _, _, _, _, d', _, _, _, _, _, _, hp', _, _, he', _, _⟩ := D2.ex
    subst en
    exact ⟨by show ((pg[g]?).map Df.esc).getD [] = []; rw [hp']; exact he', k, fa', fd', ps', q1, hr, q2, q3, fun s us _ hl => by rw [List.append_nil] at hl ⊢; exact q4 s us hl⟩
  have SC : Scp (cxOf C8.CX0 P w Kf mg base N x scope fa cdv A outer s H E).nox scope none := ⟨rfl, (fun b y e => nomatch e), fun _ _ => rfl⟩
  have hB : PSs (cxOf C8.CX0 P w Kf mg base N x scope fa cdv A outer s H E).nox body (tS K (evB ⟨evF pg Nw k, fun g => ((pg[g]?).map Df.esc).getD [], Nw⟩ d.body)) := ckBl_ok (ckS_ok SX SC h5 PassesOwn.never nS) h6
  refine ⟨_, hB.nox, ?_⟩
  obtain ⟨hl, w', xs, mh, r, mh', I, he, kk⟩ := hs
  obtain ⟨d', hd', hx, hle, cases_⟩ := evF_ok he
  rw [hp] at hd'
  cases hd'
  have I2 := I.start (d.ns - d.np)
  have hstart : L2.start N vs = vs.map some ++ List.replicate (d.ns - d.np) none := by
    unfold L2.start
    rw [h3, h1, hl]
  rw [hstart]
  rcases cases_ with ⟨r0, s', hb1, ho, rfl⟩ | ⟨s', hb1, rfl, rfl⟩
  · exact ⟨w', _, I2, .ret r0, s', hb1, fun w1 σ1 H1 E1 I1 v r1 => kk w1 H1 v E1 I1.drop (outR_ok I1 r1 ho)⟩
  · exact ⟨w', _, I2, .nx, s', hb1, fun w1 σ1 H1 E1 I1 => kk w1 H1 .non E1 I1.drop .non⟩
theorem fn_succ {k f : Nat} {x : Str} {ps : List Str} (hd : ∀ f x np, defs[f]? = some (x, np) → ∃ ps, np = ps.length ∧ DefOk Kf mg pg con defs bl f x ps) (hc : ∀ x d, (x, d) ∈ con → ConOk Kf mg x d) (hb : ∀ x ∈ bl, mg x = none) (D : DefOk Kf mg pg con defs bl f x ps)
    (ih : ∀ f x np, defs[f]? = some (x, np) → ∃ ps, np = ps.length ∧ FnAt K P w Kf mg base pg Nw k f x ps) : FnAt K P w Kf mg base pg Nw (k + 1) f x ps := by
  obtain ⟨fa, fd, D⟩ := D.ex
  have q := fn_core hd hc hb D ih
  obtain ⟨N, params, body, scope, d, nE, nS, F, hm, hB, S, hp, h1, h3, h4, h5, h6⟩ := D
  exact ⟨fa, fd, q, hm, F.kp, hB⟩
theorem fn_0 {f : Nat} {x : Str} {ps : List Str} (D : DefOk Kf mg pg con defs bl f x ps) : FnAt K P w Kf mg base pg Nw 0 f x ps := by
  obtain ⟨fa, fd, N, params, body, scope, d, nE, nS, F, hm, hB, S, hp, h1, h3, h4, h5, h6⟩ := D.ex
  exact ⟨fa, fd, fn_zero, hm, F.kp, hB⟩
theorem all_fn (hd : ∀ f x np, defs[f]? = some (x, np) → ∃ ps, np = ps.length ∧ DefOk Kf mg pg con defs bl f x ps) (hc : ∀ x d, (x, d) ∈ con → ConOk Kf mg x d) (hb : ∀ x ∈ bl, mg x = none) :
    ∀ (k f : Nat) (x : Str) (np : Nat), defs[f]? = some (x, np) → ∃ ps, np = ps.length ∧ FnAt K P w Kf mg base pg Nw k f x ps
  | 0, f, x, np, h => by
    obtain ⟨ps, e, D⟩ := hd f x np h
    exact ⟨ps, e, fn_0 D⟩
  | k + 1, f, x, np, h => by
    obtain ⟨ps, e, D⟩ := hd f x np h
    exact ⟨ps, e, fn_succ hd hc hb D (all_fn hd hc hb k)⟩
end
end Sk

end

section
set_option Elab.async false
set_option linter.all false
set_option maxRecDepth 100000
set_option maxHeartbeats 4000000
/-! SkX: data of one kind: equal, less, sorted. -/
namespace Sk
open PySem

/-- what a datum is: whole numbers, texts, truth values, tuples of one kind, tuples place by place -/
inductive Kd where
  | int | str | bl | all (k : Kd) | prod (ks : List Kd)
mutual
def Kd.has : Kd → D → Bool
  | .int, .int _ => true
  | .str, .str _ => true
  | .bl, .bl _ => true
  | .all k, .tup xs => xs.all (Kd.has k)
  | .prod ks, .tup xs => Kd.hass ks xs
  | _, _ => false
def Kd.hass : List Kd → List D → Bool
  | [], [] => true
  | k :: ks, x :: xs => Kd.has k x && Kd.hass ks xs
  | _, _ => false
end
mutual
def Kd.dep : Kd → Nat
  | .int | .str | .bl => 0
  | .all k => Kd.dep k + 1
  | .prod ks => Kd.deps ks + 1
def Kd.deps : List Kd → Nat
  | [] => 0
  | k :: ks => max (Kd.dep k) (Kd.deps ks)
end

mutual
theorem has_ok : ∀ (k : Kd) (n : Nat) (a : D), k.has a = true → k.dep ≤ n → okN n a = true
  | .int, n, a, h, _ => by cases a <;> simp [Kd.has] at h; simp [okN]
  | .str, n, a, h, _ => by cases a <;> simp [Kd.has] at h; simp [okN]
  | .bl, n, a, h, _ => by cases a <;> simp [Kd.has] at h; simp [okN]
  | .all k, n, a, h, hd => by
    cases a <;> simp only [Kd.has, Bool.false_eq_true] at h
    cases n with
    | zero => simp [Kd.dep] at hd
    | succ n =>
      simp only [okN, List.all_eq_true] at h ⊢
      exact fun x hx => has_ok k n x (h x hx) (by simp only [Kd.dep] at hd; omega)
  | .prod ks, n, a, h, hd => by
    cases a <;> simp only [Kd.has, Bool.false_eq_true] at h
    cases n with
    | zero => simp [Kd.dep] at hd
    | succ n =>
      simp only [okN, List.all_eq_true]
      exact hass_ok ks n _ h (by simp only [Kd.dep] at hd; omega)
theorem hass_ok : ∀ (ks : List Kd) (n : Nat) (xs : List D), Kd.hass ks xs = true → Kd.deps ks ≤ n → ∀ x ∈ xs, okN n x = true
  | [], n, xs, h, _ => by
    cases xs with
    | nil => intro x hx; cases hx
    | cons _ _ => simp [Kd.hass] at h
  | k :: ks, n, xs, h, hd => by
    cases xs with
    | nil => intro x hx; cases hx
    | cons y ys =>
      simp only [Kd.hass, Bool.and_eq_true] at h
      simp only [Kd.deps] at hd
      intro x hx
      rcases List.mem_cons.mp hx with e | hx
      · subst e; exact has_ok k n x h.1 (by omega)
      · exact hass_ok ks n ys h.2 (by omega) x hx
end

mutual
theorem has_alike : ∀ (k : Kd) (a b : D), k.has a = true → k.has b = true → PySem.W.alike (toPy a) (toPy b) = true
  | .int, a, b, h, h' => by cases a <;> simp [Kd.has] at h; cases b <;> simp [Kd.has] at h'; simp [toPy, PySem.W.alike]
  | .str, a, b, h, h' => by cases a <;> simp [Kd.has] at h; cases b <;> simp [Kd.has] at h'; simp [toPy, PySem.W.alike]
  | .bl, a, b, h, h' => by cases a <;> simp [Kd.has] at h; cases b <;> simp [Kd.has] at h'; simp [toPy, PySem.W.alike]
  | .all k, a, b, h, h' => by
    cases a <;> simp only [Kd.has, Bool.false_eq_true] at h
    cases b <;> simp only [Kd.has, Bool.false_eq_true] at h'
    rename_i xs ys
    simp only [toPy, PySem.W.alike]
    exact hall_alike k xs ys h h'
  | .prod ks, a, b, h, h' => by
    cases a <;> simp only [Kd.has, Bool.false_eq_true] at h
    cases b <;> simp only [Kd.has, Bool.false_eq_true] at h'
    simp only [toPy, PySem.W.alike]
    exact hass_alike ks _ _ h h'
theorem hall_alike : ∀ (k : Kd) (a b : List D), a.all (Kd.has k) = true → b.all (Kd.has k) = true → PySem.W.alikeAll (toPys a) (toPys b) = true
  | k, [], b, _, _ => by simp [toPys, PySem.W.alikeAll]
  | k, x :: xs, [], _, _ => by simp [toPys, PySem.W.alikeAll]
  | k, x :: xs, y :: ys, h, h' => by
    simp only [List.all_cons, Bool.and_eq_true] at h h'
    simp only [toPys, PySem.W.alikeAll, Bool.and_eq_true]
    exact ⟨has_alike k x y h.1 h'.1, hall_alike k xs ys h.2 h'.2⟩
theorem hass_alike : ∀ (ks : List Kd) (a b : List D), Kd.hass ks a = true → Kd.hass ks b = true → PySem.W.alikeAll (toPys a) (toPys b) = true
  | [], a, b, h, h' => by
    cases a with
    | nil => simp [toPys, PySem.W.alikeAll]
    | cons _ _ => simp [Kd.hass] at h
  | k :: ks, a, b, h, h' => by
    cases a with
    | nil => simp [Kd.hass] at h
    | cons x xs =>
      cases b with
      | nil => simp [Kd.hass] at h'
      | cons y ys =>
        simp only [Kd.hass, Bool.and_eq_true] at h h'
        simp only [toPys, PySem.W.alikeAll, Bool.and_eq_true]
        exact ⟨has_alike k x y h.1 h'.1, hass_alike ks xs ys h.2 h'.2⟩
end

theorem strOf_inj {x y : List Nat} (h : ((⟨x.toArray⟩ : Str) == ⟨y.toArray⟩) = true) : x = y := by
  have t := eq_of_beq h
  simpa using t

mutual
theorem has_eq : ∀ (k : Kd) (a b : D), k.has a = true → k.has b = true → (PyData.eqv (toPy a) (toPy b) = true ↔ a = b)
  | .int, a, b, h, h' => by cases a <;> simp [Kd.has] at h; cases b <;> simp [Kd.has] at h'; simp [toPy, PyData.eqv]
  | .str, a, b, h, h' => by
    cases a <;> simp [Kd.has] at h; cases b <;> simp [Kd.has] at h'
    simp only [toPy, PyData.eqv, D.str.injEq]
    exact ⟨strOf_inj, fun e => by rw [e]; exact beq_self_eq_true _⟩
  | .bl, a, b, h, h' => by cases a <;> simp [Kd.has] at h; cases b <;> simp [Kd.has] at h'; simp [toPy, PyData.eqv]
  | .all k, a, b, h, h' => by
    cases a <;> simp only [Kd.has, Bool.false_eq_true] at h
    cases b <;> simp only [Kd.has, Bool.false_eq_true] at h'
    rename_i xs ys
    simp only [toPy, PyData.eqv, D.tup.injEq]
    exact hall_eq k xs ys h h'
  | .prod ks, a, b, h, h' => by
    cases a <;> simp only [Kd.has, Bool.false_eq_true] at h
    cases b <;> simp only [Kd.has, Bool.false_eq_true] at h'
    simp only [toPy, PyData.eqv, D.tup.injEq]
    exact hass_eq ks _ _ h h'
theorem hall_eq : ∀ (k : Kd) (a b : List D), a.all (Kd.has k) = true → b.all (Kd.has k) = true → (PyData.eqvAll (toPys a) (toPys b) = true ↔ a = b)
  | k, [], b, _, _ => by cases b <;> simp [toPys, PyData.eqvAll]
  | k, x :: xs, [], _, _ => by simp [toPys, PyData.eqvAll]
  | k, x :: xs, y :: ys, h, h' => by
    simp only [List.all_cons, Bool.and_eq_true] at h h'
    simp only [toPys, PyData.eqvAll, Bool.and_eq_true, List.cons.injEq]
    rw [has_eq k x y h.1 h'.1, hall_eq k xs ys h.2 h'.2]
theorem hass_eq : ∀ (ks : List Kd) (a b : List D), Kd.hass ks a = true → Kd.hass ks b = true → (PyData.eqvAll (toPys a) (toPys b) = true ↔ a = b)
  | [], a, b, h, h' => by
    cases a with
    | cons _ _ => simp [Kd.hass] at h
    | nil =>
      cases b with
      | cons _ _ => simp [Kd.hass] at h'
      | nil => simp [toPys, PyData.eqvAll]
  | k :: ks, a, b, h, h' => by
    cases a with
    | nil => simp [Kd.hass] at h
    | cons x xs =>
      cases b with
      | nil => simp [Kd.hass] at h'
      | cons y ys =>
        simp only [Kd.hass, Bool.and_eq_true] at h h'
        simp only [toPys, PyData.eqvAll, Bool.and_eq_true, List.cons.injEq]
        rw [has_eq k x y h.1 h'.1, hass_eq ks xs ys h.2 h'.2]
end

theorem eqD_iff {k : Kd} {a b : D} (h : k.has a = true) (h' : k.has b = true) : eqD a b = true ↔ a = b := has_eq k a b h h'
theorem eqD_dec {k : Kd} {a b : D} (h : k.has a = true) (h' : k.has b = true) : eqD a b = decide (a = b) := by
  rw [Bool.eq_iff_iff, eqD_iff h h', decide_eq_true_iff]
theorem okEq_has {k : Kd} {a b : D} (h : k.has a = true) (h' : k.has b = true) (hd : k.dep ≤ 20) : okEq a b = true := by
  simp only [okEq, alikeD, Bool.and_eq_true]
  exact ⟨has_ok k 20 a h hd, has_ok k 20 b h' hd, has_alike k a b h h'⟩
theorem has_non {k : Kd} {a : D} (h : k.has a = true) : notNon a = true := by
  cases a <;> first | rfl | (cases k <;> simp [Kd.has] at h)
theorem okLt_has {k : Kd} {a b : D} (h : k.has a = true) (h' : k.has b = true) (hd : k.dep ≤ 20) : okLt a b = true := by
  simp only [okLt, alikeD, Bool.and_eq_true]
  exact ⟨has_non h, has_ok k 20 a h hd, has_ok k 20 b h' hd, has_alike k a b h h'⟩
theorem okSort_has {k : Kd} {xs : List D} (h : ∀ x ∈ xs, k.has x = true) (hd : k.dep ≤ 20) : okSort xs = true := by
  simp only [okSort, List.all_eq_true]
  exact fun a ha b hb => okLt_has (h a ha) (h b hb) hd

/-- the order -/
abbrev OD := PyProof.Rows.listOrd PyProof.Rows.itemOrd
def tk (a : D) : List (Int ⊕ List Nat) := PySem.W.keyToks (toPy a)
theorem ltD_tk (a b : D) : ltD a b = OD.blt (tk a) (tk b) := rfl
theorem ltD_irrefl (a : D) : ltD a a = false := OD.irrefl (tk a)
theorem ltD_trans {a b c : D} (h : ltD a b = true) (h' : ltD b c = true) : ltD a c = true := OD.trans _ _ _ h h'
theorem ltD_asymm {a b : D} (h : ltD a b = true) : ltD b a = false := PyProof.Rows.KeyOrd.klt_asymm (O := OD) h
theorem ltD_le_trans {a b c : D} (h : ltD b a = false) (h' : ltD c b = false) : ltD c a = false := PyProof.Rows.KeyOrd.kle_trans (O := OD) (a := tk a) (b := tk b) (c := tk c) h h'
theorem tk_inj {k : Kd} {a b : D} (h : k.has a = true) (h' : k.has b = true) (e : tk a = tk b) : a = b := by
  have hal := has_alike k a b h h'
  refine Decidable.byContradiction fun ne => ?_
  have hf : PyData.eqv (toPy a) (toPy b) = false := by
    cases hq : PyData.eqv (toPy a) (toPy b) with
    | false => rfl
    | true => exact absurd ((has_eq k a b h h').mp hq) ne
  have t := (PySem.W.toks_eqv _ _ hal).2 hf [] [.inl 0]
  unfold tk at e
  rw [e, PySem.W.lex_pre] at t
  have i : PyProof.Rows.lexLt PyProof.Rows.itemOrd (PySem.W.keyToks (toPy b)) (PySem.W.keyToks (toPy b)) = false := OD.irrefl _
  rw [i] at t
  exact Bool.noConfusion t
theorem ltD_total {k : Kd} {a b : D} (h : k.has a = true) (h' : k.has b = true) (l : ltD a b = false) (l' : ltD b a = false) : a = b := tk_inj h h' (OD.total _ _ l l')

theorem dataLe_eq (a b : D) : PySem.W.dataLe false toPy a b = !ltD b a := rfl
theorem sortX_perm (xs : List D) : (sortD xs).Perm xs := List.mergeSort_perm xs _
theorem sortD_sorted (xs : List D) : (sortD xs).Pairwise fun a b => ltD b a = false := by
  have t := List.pairwise_mergeSort (le := PySem.W.dataLe false toPy) (fun a b c h h' => by
    simp only [dataLe_eq, Bool.not_eq_true'] at h h' ⊢
    exact ltD_le_trans h h') (fun a b => by
    simp only [dataLe_eq, Bool.or_eq_true, Bool.not_eq_true']
    cases hl : ltD b a with
    | false => exact .inl rfl
    | true => exact .inr (ltD_asymm hl)) xs
  exact t.imp fun h => by simpa only [dataLe_eq, Bool.not_eq_true'] using h
theorem mem_sortD {xs : List D} {x : D} : x ∈ sortD xs ↔ x ∈ xs := (sortX_perm xs).mem_iff
theorem sortD_len (xs : List D) : (sortD xs).length = xs.length := (sortX_perm xs).length_eq

theorem sorted_eq {k : Kd} : ∀ {xs ys : List D}, (∀ x ∈ xs, k.has x = true) → xs.Perm ys → xs.Pairwise (fun a b => ltD b a = false) → ys.Pairwise (fun a b => ltD b a = false) → xs = ys := by
  intro xs ys h p hx hy
  exact p.eq_of_pairwise (le := fun a b => ltD b a = false) (fun a b ha hb l l' => ltD_total (h a ha) (h b (p.mem_iff.mpr hb)) l' l) hx hy
theorem sortD_congr {k : Kd} {xs ys : List D} (h : ∀ x ∈ xs, k.has x = true) (p : xs.Perm ys) : sortD xs = sortD ys :=
  sorted_eq (k := k) (fun x hx => h x (mem_sortD.mp hx)) ((sortX_perm xs).trans (p.trans (sortX_perm ys).symm)) (sortD_sorted xs) (sortD_sorted ys)
theorem sortD_self {k : Kd} {xs : List D} (h : ∀ x ∈ xs, k.has x = true) (hs : xs.Pairwise fun a b => ltD b a = false) : sortD xs = xs :=
  sorted_eq (k := k) (fun x hx => h x (mem_sortD.mp hx)) (sortX_perm xs) (sortD_sorted xs) hs

/-- membership -/
theorem memD_iff {k : Kd} {x : D} {xs : List D} (h : k.has x = true) (h' : ∀ y ∈ xs, k.has y = true) : memD x xs = true ↔ x ∈ xs := by
  simp only [memD, List.any_eq_true]
  constructor
  · rintro ⟨y, hy, e⟩
    rw [(eqD_iff (h' y hy) h).mp e] at hy
    exact hy
  · exact fun hx => ⟨x, hx, (eqD_iff h h).mpr rfl⟩
theorem memD_dec {k : Kd} {x : D} {xs : List D} (h : k.has x = true) (h' : ∀ y ∈ xs, k.has y = true) : memD x xs = decide (x ∈ xs) := by
  rw [Bool.eq_iff_iff, memD_iff h h', decide_eq_true_iff]
theorem all_okEq {k : Kd} {x : D} {xs : List D} (h : k.has x = true) (h' : ∀ y ∈ xs, k.has y = true) (hd : k.dep ≤ 20) : xs.all (fun y => okEq y x) = true := by
  simp only [List.all_eq_true]
  exact fun y hy => okEq_has (h' y hy) h hd
theorem mem_dedup {k : Kd} : ∀ {xs : List D} {x : D}, (∀ y ∈ xs, k.has y = true) → (x ∈ dedup xs ↔ x ∈ xs)
  | [], x, _ => by simp [dedup]
  | y :: ys, x, h => by
    have hy := h y (List.mem_cons_self ..)
    have hs : ∀ z ∈ ys, k.has z = true := fun z hz => h z (List.mem_cons_of_mem _ hz)
    rw [dedup]
    split
    · rename_i hm
      rw [mem_dedup hs, List.mem_cons]
      constructor
      · exact .inr
      · rintro (e | e)
        · subst e; exact (memD_iff hy hs).mp hm
        · exact e
    · rw [List.mem_cons, List.mem_cons, mem_dedup hs]
theorem dedup_nodup {k : Kd} : ∀ {xs : List D}, (∀ y ∈ xs, k.has y = true) → (dedup xs).Nodup
  | [], _ => by simp [dedup]
  | y :: ys, h => by
    have hy := h y (List.mem_cons_self ..)
    have hs : ∀ z ∈ ys, k.has z = true := fun z hz => h z (List.mem_cons_of_mem _ hz)
    rw [dedup]
    split
    · exact dedup_nodup hs
    · rename_i hm
      refine List.nodup_cons.mpr ⟨fun hi => hm ?_, dedup_nodup hs⟩
      exact (memD_iff hy hs).mpr ((mem_dedup hs).mp hi)
end Sk

end

section
set_option Elab.async false
set_option linter.all false
set_option maxRecDepth 100000
set_option maxHeartbeats 4000000
/-! SkY: what the evaluator gives, step by step (Ok r Q: it gives something, and Q holds of it). -/
namespace Sk
open PySem

/-- a mark whose type bears Q, so that the simplifier leaves Q alone -/
structure Mk0 {α : Type} (Q : α → Prop) : Type where
def Ok {α : Type} (r : Except Er α) (Q : α → Prop) (_ : Mk0 Q := ⟨⟩) : Prop := ∃ a, r = .ok a ∧ Q a
theorem Ok_ok {α : Type} {a : α} {Q : α → Prop} : Ok (.ok a : Except Er α) Q ↔ Q a := by
  constructor
  · rintro ⟨b, e, q⟩; cases e; exact q
  · exact fun q => ⟨a, rfl, q⟩
theorem Ok_er {α : Type} {e : Er} {Q : α → Prop} : Ok (.error e : Except Er α) Q ↔ False := by
  constructor
  · rintro ⟨b, e, q⟩; cases e
  · exact False.elim
theorem Ok.mono {α : Type} {r : Except Er α} {Q R : α → Prop} (h : Ok r Q) (i : ∀ a, Q a → R a) : Ok r R := by
  obtain ⟨a, e, q⟩ := h
  exact ⟨a, e, i a q⟩
theorem Ok_ite {α : Type} {p : Prop} [Decidable p] {a b : Except Er α} {Q : α → Prop} : Ok (if p then a else b) Q ↔ if p then Ok a Q else Ok b Q := by
  split <;> exact Iff.rfl
theorem Ok_gd {α : Type} {p : Prop} [Decidable p] {a : Except Er α} {n : Nat} {Q : α → Prop} : Ok (if p then a else bad n) Q ↔ p ∧ Ok a Q := by
  split
  · rename_i h; simp [h]
  · rename_i h; simp [h, Ok_er]

def varR (i : Nat) : Sl → Except Er RV
  | .val d => .ok (.val d)
  | .own _ => .ok (.bor i)
  | .bor _ => .ok (.bor i)
  | .un => bad 70

variable {c : Ctx} {s : S}

theorem w_lit {d : D} {Q : RV × S → Prop} : Ok (evE c (.lit d) s) Q ↔ Q (.val d, s) := by rw [evE]; exact Ok_ok
theorem w_var {i : Nat} {Q : RV × S → Prop} : Ok (evE c (.var i) s) Q ↔ Ok (varR i (slotAt s i)) fun r => Q (r, s) := by
  rw [evE]; cases slotAt s i <;> simp only [varR, Ok_ok, Ok_er]
theorem w_tup {es : List Ex} {Q : RV × S → Prop} : Ok (evE c (.tup es) s) Q ↔ Ok (evA c es s) fun p => p.1.length ≤ sz ∧ Q (.val (.tup p.1), p.2) := by
  rw [evE]
  cases evA c es s with
  | error e => simp only [Ok_er]
  | ok p => obtain ⟨a, b⟩ := p; simp only [Ok_ok, Ok_gd]
theorem w_lst {es : List Ex} {Q : RV × S → Prop} : Ok (evE c (.lst es) s) Q ↔ Ok (evA c es s) fun p => p.1.length ≤ sz ∧ Q (.own (.lst p.1), p.2) := by
  rw [evE]
  cases evA c es s with
  | error e => simp only [Ok_er]
  | ok p => obtain ⟨a, b⟩ := p; simp only [Ok_ok, Ok_gd]
theorem w_dnew {Q : RV × S → Prop} : Ok (evE c .dnew s) Q ↔ Q (.own (.dct []), s) := by rw [evE]; exact Ok_ok
theorem w_disp {ks : List D} {es : List Ex} {Q : RV × S → Prop} : Ok (evE c (.disp ks es) s) Q ↔ Ok (evA c es s) fun p => Q (.val (.ref p.2.mh.length), { p.2 with mh := p.2.mh ++ [.dct (ks.zip p.1)] }) := by
  rw [evE]
  cases evA c es s with
  | error e => simp only [Ok_er]
  | ok p => obtain ⟨a, b⟩ := p; simp only [Ok_ok]
theorem w_bin {op : BOp} {a b : Ex} {Q : RV × S → Prop} : Ok (evE c (.bin op a b) s) Q ↔ Ok (evE c a s) fun p => Ok (evE c b p.2) fun q => Ok (peek p.1 q.2) fun x => Ok (peek q.1 q.2) fun y => Ok (binD op x y) fun r => Q (r, q.2) := by
  rw [evE]
  cases evE c a s with
  | error e => simp only [Ok_er]
  | ok p =>
    obtain ⟨ra, s1⟩ := p
    simp only [Ok_ok]
    cases evE c b s1 with
    | error e => simp only [Ok_er]
    | ok q =>
      obtain ⟨rb, s2⟩ := q
      simp only [Ok_ok]
      cases peek ra s2 <;> cases peek rb s2 <;> simp only [Ok_ok, Ok_er]
      rename_i x y
      cases binD op x y <;> simp only [Ok_ok, Ok_er]
theorem w_cmp {op : COp} {a b : Ex} {Q : RV × S → Prop} : Ok (evE c (.cmp op a b) s) Q ↔ Ok (evE c a s) fun p => Ok (evE c b p.2) fun q => Ok (peek p.1 q.2) fun x => Ok (peek q.1 q.2) fun y => Ok (cmpD op x y) fun r => Q (.val (.bl r), q.2) := by
  rw [evE]
  cases evE c a s with
  | error e => simp only [Ok_er]
  | ok p =>
    obtain ⟨ra, s1⟩ := p
    simp only [Ok_ok]
    cases evE c b s1 with
    | error e => simp only [Ok_er]
    | ok q =>
      obtain ⟨rb, s2⟩ := q
      simp only [Ok_ok]
      cases peek ra s2 <;> cases peek rb s2 <;> simp only [Ok_ok, Ok_er]
      rename_i x y
      cases cmpD op x y <;> simp only [Ok_ok, Ok_er]
theorem w_isnone {a : Ex} {Q : RV × S → Prop} : Ok (evE c (.isnone a) s) Q ↔ Ok (evE c a s) fun p => Ok (peek p.1 p.2) fun x => Q (.val (.bl (decide (x = .non))), p.2) := by
  rw [evE]
  cases evE c a s with
  | error e => simp only [Ok_er]
  | ok p =>
    obtain ⟨ra, s1⟩ := p
    simp only [Ok_ok]
    cases peek ra s1 <;> simp only [Ok_ok, Ok_er]
theorem w_isinst {a : Ex} {t : Ty} {Q : RV × S → Prop} : Ok (evE c (.isinst a t) s) Q ↔ Ok (evE c a s) fun p => Ok (peek p.1 p.2) fun x => Ok (isTy t x) fun b => Q (.val (.bl b), p.2) := by
  rw [evE]
  cases evE c a s with
  | error e => simp only [Ok_er]
  | ok p =>
    obtain ⟨ra, s1⟩ := p
    simp only [Ok_ok]
    cases peek ra s1 <;> simp only [Ok_ok, Ok_er]
    rename_i x
    cases isTy t x <;> simp only [Ok_ok, Ok_er]
theorem w_and {a b : Ex} {Q : RV × S → Prop} : Ok (evE c (.and a b) s) Q ↔ Ok (evE c a s) fun p => Ok (peek p.1 p.2) fun x => Ok (truth x) fun t => if t = true then Ok (evE c b p.2) Q else Q p := by
  rw [evE]
  cases evE c a s with
  | error e => simp only [Ok_er]
  | ok p =>
    obtain ⟨ra, s1⟩ := p
    simp only [Ok_ok]
    cases peek ra s1 <;> simp only [Ok_ok, Ok_er]
    rename_i x
    cases truth x with
    | error e => simp only [Ok_er]
    | ok t => cases t <;> simp [Ok_ok]
theorem w_or {a b : Ex} {Q : RV × S → Prop} : Ok (evE c (.or a b) s) Q ↔ Ok (evE c a s) fun p => Ok (peek p.1 p.2) fun x => Ok (truth x) fun t => if t = true then Q p else Ok (evE c b p.2) Q := by
  rw [evE]
  cases evE c a s with
  | error e => simp only [Ok_er]
  | ok p =>
    obtain ⟨ra, s1⟩ := p
    simp only [Ok_ok]
    cases peek ra s1 <;> simp only [Ok_ok, Ok_er]
    rename_i x
    cases truth x with
    | error e => simp only [Ok_er]
    | ok t => cases t <;> simp [Ok_ok]
theorem w_test {r : Rs RV} {Q : Bool × S → Prop} : Ok (testR r) Q ↔ Ok r fun p => Ok (peek p.1 p.2) fun x => Ok (truth x) fun t => Q (t, p.2) := by
  cases r with
  | error e => simp only [testR, Ok_er]
  | ok p =>
    obtain ⟨ra, s1⟩ := p
    simp only [testR, Ok_ok]
    cases peek ra s1 <;> simp only [Ok_ok, Ok_er]
    rename_i x
    cases truth x <;> simp only [Ok_ok, Ok_er]
theorem w_not {a : Ex} {Q : RV × S → Prop} : Ok (evE c (.not a) s) Q ↔ Ok (evE c a s) fun p => Ok (peek p.1 p.2) fun x => Ok (truth x) fun t => Q (.val (.bl !t), p.2) := by
  rw [evE, ← w_test (Q := fun p => Q (.val (.bl !p.1), p.2))]
  cases testR (evE c a s) with
  | error e => simp only [Ok_er]
  | ok p => obtain ⟨b, s1⟩ := p; simp only [Ok_ok]
theorem w_ife {t a b : Ex} {Q : RV × S → Prop} : Ok (evE c (.ife t a b) s) Q ↔ Ok (evE c t s) fun p => Ok (peek p.1 p.2) fun x => Ok (truth x) fun t => if t = true then Ok (evE c a p.2) Q else Ok (evE c b p.2) Q := by
  rw [evE, ← w_test (Q := fun p => if p.1 = true then Ok (evE c a p.2) Q else Ok (evE c b p.2) Q)]
  cases testR (evE c t s) with
  | error e => simp only [Ok_er]
  | ok p => obtain ⟨b, s1⟩ := p; cases b <;> simp [Ok_ok]
theorem w_idx {a b : Ex} {Q : RV × S → Prop} : Ok (evE c (.idx a b) s) Q ↔ Ok (evE c a s) fun p => Ok (evE c b p.2) fun q => Ok (peek p.1 q.2) fun x => Ok (peek q.1 q.2) fun y => Ok (idxD q.2.mh x y) fun r => Q (.val r, q.2) := by
  rw [evE]
  cases evE c a s with
  | error e => simp only [Ok_er]
  | ok p =>
    obtain ⟨ra, s1⟩ := p
    simp only [Ok_ok]
    cases evE c b s1 with
    | error e => simp only [Ok_er]
    | ok q =>
      obtain ⟨rb, s2⟩ := q
      simp only [Ok_ok]
      cases peek ra s2 <;> cases peek rb s2 <;> simp only [Ok_ok, Ok_er]
      rename_i x y
      cases idxD s2.mh x y <;> simp only [Ok_ok, Ok_er]
def valR : RV → Except Er D
  | .val d => .ok d
  | _ => bad 77
theorem w_slc {a lo hi : Ex} {Q : RV × S → Prop} : Ok (evE c (.slc a lo hi) s) Q ↔ Ok (evE c a s) fun p => Ok (evE c lo p.2) fun q => Ok (valR q.1) fun l => Ok (evE c hi q.2) fun r => Ok (valR r.1) fun h => Ok (peek p.1 r.2) fun x => Ok (part l) fun l => Ok (part h) fun h => Ok (slcD l h x) fun z => Q (z, r.2) := by
  rw [evE]
  cases evE c a s with
  | error e => simp only [Ok_er]
  | ok p =>
    obtain ⟨ra, s1⟩ := p
    simp only [Ok_ok]
    cases evE c lo s1 with
    | error e => simp only [Ok_er]
    | ok q =>
      obtain ⟨rb, s2⟩ := q
      simp only [Ok_ok]
      cases rb <;> simp only [valR, Ok_ok, Ok_er]
      rename_i l
      cases evE c hi s2 with
      | error e => simp only [Ok_er]
      | ok r =>
        obtain ⟨rc, s3⟩ := r
        simp only [Ok_ok]
        cases rc <;> simp only [valR, Ok_ok, Ok_er]
        rename_i h
        cases peek ra s3 <;> cases part l <;> cases part h <;> simp only [Ok_ok, Ok_er]
        rename_i x l h
        cases slcD l h x <;> simp only [Ok_ok, Ok_er]
theorem w_rev {a : Ex} {Q : RV × S → Prop} : Ok (evE c (.rev a) s) Q ↔ Ok (evE c a s) fun p => Ok (peek p.1 p.2) fun x => Ok (revD x) fun r => Q (r, p.2) := by
  rw [evE]
  cases evE c a s with
  | error e => simp only [Ok_er]
  | ok p =>
    obtain ⟨ra, s1⟩ := p
    simp only [Ok_ok]
    cases peek ra s1 <;> simp only [Ok_ok, Ok_er]
    rename_i x
    cases revD x <;> simp only [Ok_ok, Ok_er]
theorem w_call {f : Nat} {es : List Ex} {Q : RV × S → Prop} : Ok (evE c (.call f es) s) Q ↔ Ok (evR c es s) fun p => Ok (toSls (c.esc f) 0 p.1 p.2) fun q => Ok (c.call f q.1 q.2.mh) fun r => Q (r.1, { q.2 with mh := r.2 }) := by
  rw [evE]
  cases evR c es s with
  | error e => simp only [Ok_er]
  | ok p =>
    obtain ⟨ra, s1⟩ := p
    simp only [Ok_ok]
    cases toSls (c.esc f) 0 ra s1 with
    | error e => simp only [Ok_er]
    | ok q =>
      obtain ⟨xs, s2⟩ := q
      simp only [Ok_ok]
      cases c.call f xs s2.mh with
      | error e => simp only [Ok_er]
      | ok r => obtain ⟨r, m⟩ := r; simp only [Ok_ok]
theorem w_blt {b : Bi} {a : Ex} {Q : RV × S → Prop} : Ok (evE c (.blt b a) s) Q ↔ Ok (evE c a s) fun p => Ok (peek p.1 p.2) fun x => Ok (bltM p.2.mh b x) fun r => Q (r, p.2) := by
  rw [evE]
  cases evE c a s with
  | error e => simp only [Ok_er]
  | ok p =>
    obtain ⟨ra, s1⟩ := p
    simp only [Ok_ok]
    cases peek ra s1 <;> simp only [Ok_ok, Ok_er]
    rename_i x
    cases bltM s1.mh b x <;> simp only [Ok_ok, Ok_er]
theorem w_meth {m : Me} {o : Ex} {es : List Ex} {Q : RV × S → Prop} : Ok (evE c (.meth m o es) s) Q ↔ Ok (evE c o s) fun p => Ok (peek p.1 p.2) fun x => Ok (evA c es p.2) fun q => still p.1 p.2 q.2 = true ∧ Ok (methD m x q.1) fun r => Q (r, q.2) := by
  rw [evE]
  cases evE c o s with
  | error e => simp only [Ok_er]
  | ok p =>
    obtain ⟨ra, s1⟩ := p
    simp only [Ok_ok]
    cases peek ra s1 <;> simp only [Ok_ok, Ok_er]
    rename_i x
    cases evA c es s1 with
    | error e => simp only [Ok_er]
    | ok q =>
      obtain ⟨ds, s2⟩ := q
      simp only [Ok_ok, Ok_gd]
      cases methD m x ds <;> simp only [Ok_ok, Ok_er]
def ownL : Sl → Except Er (List D)
  | .own (.lst xs) => .ok xs
  | _ => bad 79
theorem w_mut {m : Mu} {i : Nat} {es : List Ex} {Q : RV × S → Prop} : Ok (evE c (.mut m i es) s) Q ↔ Ok (ownL (slotAt s i)) fun _ => Ok (evA c es s) fun p => Ok (ownL (slotAt p.2 i)) fun xs => Ok (mutD m xs p.1) fun r => Q (.val r.1, { p.2 with ρ := p.2.ρ.set i (.own (.lst r.2)) }) := by
  rw [evE]
  rcases h : slotAt s i with _ | d | d | d <;> try simp only [ownL, Ok_er]
  cases d <;> simp only [ownL, Ok_er, Ok_ok]
  cases evA c es s with
  | error e => simp only [Ok_er]
  | ok p =>
    obtain ⟨ds, s1⟩ := p
    simp only [Ok_ok]
    rcases slotAt s1 i with _ | d | d | d <;> try simp only [ownL, Ok_er]
    cases d <;> simp only [ownL, Ok_er, Ok_ok]
    rename_i ys
    cases mutD m ys ds with
    | error e => simp only [Ok_er]
    | ok r => obtain ⟨r, zs⟩ := r; simp only [Ok_ok]
theorem w_rng {es : List Ex} {Q : RV × S → Prop} : Ok (evE c (.rng es) s) Q ↔ Ok (evA c es s) fun p => Ok (rngD p.1) fun xs => Q (.val (.lst xs), p.2) := by
  rw [evE]
  cases evA c es s with
  | error e => simp only [Ok_er]
  | ok p =>
    obtain ⟨ds, s1⟩ := p
    simp only [Ok_ok]
    cases rngD ds <;> simp only [Ok_ok, Ok_er]
theorem w_iterR {items : D → Except Er (List D)} {r : Rs RV} {Q : List D × S → Prop} : Ok (iterR items r) Q ↔ Ok r fun p => Ok (iterF p.1 p.2) fun q => Ok (items q.1) fun xs => Q (xs, q.2) := by
  cases r with
  | error e => simp only [iterR, Ok_er]
  | ok p =>
    obtain ⟨ra, s1⟩ := p
    simp only [iterR, Ok_ok]
    cases iterF ra s1 with
    | error e => simp only [Ok_er]
    | ok q =>
      obtain ⟨d, s2⟩ := q
      simp only [Ok_ok]
      cases items d <;> simp only [Ok_ok, Ok_er]
theorem w_A0 {Q : List D × S → Prop} : Ok (evA c [] s) Q ↔ Q ([], s) := by rw [evA]; exact Ok_ok
theorem w_A1 {e : Ex} {es : List Ex} {Q : List D × S → Prop} : Ok (evA c (e :: es) s) Q ↔ Ok (evE c e s) fun p => Ok (freeze p.1 p.2) fun q => Ok (evA c es q.2) fun r => Q (q.1 :: r.1, r.2) := by
  rw [evA]
  cases evE c e s with
  | error e => simp only [Ok_er]
  | ok p =>
    obtain ⟨ra, s1⟩ := p
    simp only [Ok_ok]
    cases freeze ra s1 with
    | error e => simp only [Ok_er]
    | ok q =>
      obtain ⟨d, s2⟩ := q
      simp only [Ok_ok]
      cases evA c es s2 with
      | error e => simp only [Ok_er]
      | ok r => obtain ⟨r, m⟩ := r; simp only [Ok_ok]
theorem w_R0 {Q : List RV × S → Prop} : Ok (evR c [] s) Q ↔ Q ([], s) := by rw [evR]; exact Ok_ok
theorem w_R1 {e : Ex} {es : List Ex} {Q : List RV × S → Prop} : Ok (evR c (e :: es) s) Q ↔ Ok (evE c e s) fun p => Ok (evR c es p.2) fun r => Q (p.1 :: r.1, r.2) := by
  rw [evR]
  cases evE c e s with
  | error e => simp only [Ok_er]
  | ok p =>
    obtain ⟨ra, s1⟩ := p
    simp only [Ok_ok]
    cases evR c es s1 with
    | error e => simp only [Ok_er]
    | ok r => obtain ⟨r, m⟩ := r; simp only [Ok_ok]
theorem w_C0 {Q : Bool × S → Prop} : Ok (evC c [] s) Q ↔ Q (true, s) := by rw [evC]; exact Ok_ok
theorem w_C1 {e : Ex} {es : List Ex} {Q : Bool × S → Prop} : Ok (evC c (e :: es) s) Q ↔ Ok (evE c e s) fun p => Ok (peek p.1 p.2) fun x => Ok (truth x) fun t => if t = true then Ok (evC c es p.2) Q else Q (false, p.2) := by
  rw [evC, ← w_test (Q := fun p => if p.1 = true then Ok (evC c es p.2) Q else Q (false, p.2))]
  cases testR (evE c e s) with
  | error e => simp only [Ok_er]
  | ok p => obtain ⟨b, s1⟩ := p; cases b <;> simp [Ok_ok]
end Sk

end

section
set_option Elab.async false
set_option linter.all false
set_option maxRecDepth 100000
set_option maxHeartbeats 4000000
/-! SkZ: loops, comprehensions, statements, calls, step by step. -/
namespace Sk
open PySem
variable {c : Ctx} {s : S}

def lcW (c : Ctx) (own : List Nat) (t : Tg) (cs : List Ex) (elt : Ex) (x : D) (s2 : S) : Rs (Option D) := match asgD t x s2 with
  | .ok s3 => (match evC c cs s3 with
    | .ok (true, s4) => (match evE c elt s4 with
      | .ok (re, s5) => (match freeze re s5 with
        | .ok (d, s6) => .ok (some d, wipeS own s6)
        | .error e => .error e)
      | .error e => .error e)
    | .ok (false, s4) => .ok (none, wipeS own s4)
    | .error e => .error e)
  | .error e => .error e
theorem w_lcW {own : List Nat} {t : Tg} {cs : List Ex} {elt : Ex} {x : D} {Q : Option D × S → Prop} : Ok (lcW c own t cs elt x s) Q ↔ Ok (asgD t x s) fun s3 => Ok (evC c cs s3) fun p => if p.1 = true then Ok (evE c elt p.2) (fun q => Ok (freeze q.1 q.2) fun r => Q (some r.1, wipeS own r.2)) else Q (none, wipeS own p.2) := by
  rw [lcW]
  cases asgD t x s with
  | error e => simp only [Ok_er]
  | ok s3 =>
    simp only [Ok_ok]
    cases evC c cs s3 with
    | error e => simp only [Ok_er]
    | ok p =>
      obtain ⟨b, s4⟩ := p
      cases b
      · simp [Ok_ok]
      · simp only [Ok_ok, if_true]
        cases evE c elt s4 with
        | error e => simp only [Ok_er]
        | ok q =>
          obtain ⟨re, s5⟩ := q
          simp only [Ok_ok]
          cases freeze re s5 with
          | error e => simp only [Ok_er]
          | ok r => obtain ⟨d, s6⟩ := r; simp only [Ok_ok]
theorem w_lc {own : List Nat} {t : Tg} {it : Ex} {cs : List Ex} {elt : Ex} {Q : RV × S → Prop} : Ok (evE c (.lc own t it cs elt) s) Q ↔ Ok (evE c it s) fun p => Ok (iterF p.1 p.2) fun q => Ok (itemsC q.1) fun xs => Ok (lcLoop (lcW c own t cs elt) xs [] (wipeS own q.2)) fun r => Q (.own (.lst r.1), backS own q.2 r.2) := by
  rw [evE, ← w_iterR (Q := fun p => Ok (lcLoop (lcW c own t cs elt) p.1 [] (wipeS own p.2)) fun r => Q (.own (.lst r.1), backS own p.2 r.2))]
  cases iterR itemsC (evE c it s) with
  | error e => simp only [Ok_er]
  | ok p =>
    obtain ⟨xs, s1⟩ := p
    simp only [Ok_ok]
    show Ok (match lcLoop (lcW c own t cs elt) xs [] (wipeS own s1) with
      | .ok (ds, s7) => .ok (.own (.lst ds), backS own s1 s7)
      | .error e => .error e) Q ↔ _
    cases lcLoop (lcW c own t cs elt) xs [] (wipeS own s1) with
    | error e => simp only [Ok_er]
    | ok r => obtain ⟨r, m⟩ := r; simp only [Ok_ok]
/-- the inner list of a comprehension with two clauses -/
def lc2W (c : Ctx) (own own1 : List Nat) (t : Tg) (cs : List Ex) (t1 : Tg) (it1 : Ex) (cs1 : List Ex) (elt : Ex) (x : D) (acc : List D) (s2 : S) : Rs (List D) := match asgD t x s2 with
  | .ok s3 => (match evC c cs s3 with
    | .ok (true, s4) => (match iterR itemsC (evE c it1 s4) with
      | .ok (ys, s5) => if acc.length + ys.length ≤ sz then (match lcLoop (lcW c own1 t1 cs1 elt) ys acc (wipeS own1 s5) with
        | .ok (ds, s11) => .ok (ds, wipeS own s11)
        | .error e => .error e) else bad 86
      | .error e => .error e)
    | .ok (false, s4) => .ok (acc, wipeS own s4)
    | .error e => .error e)
  | .error e => .error e
theorem w_lc2W {own own1 : List Nat} {t : Tg} {cs : List Ex} {t1 : Tg} {it1 : Ex} {cs1 : List Ex} {elt : Ex} {x : D} {acc : List D} {Q : List D × S → Prop} :
    Ok (lc2W c own own1 t cs t1 it1 cs1 elt x acc s) Q ↔ Ok (asgD t x s) fun s3 => Ok (evC c cs s3) fun p => if p.1 = true then Ok (evE c it1 p.2) (fun q => Ok (iterF q.1 q.2) fun r => Ok (itemsC r.1) fun ys => acc.length + ys.length ≤ sz ∧ Ok (lcLoop (lcW c own1 t1 cs1 elt) ys acc (wipeS own1 r.2)) fun z => Q (z.1, wipeS own z.2)) else Q (acc, wipeS own p.2) := by
  rw [lc2W]
  cases asgD t x s with
  | error e => simp only [Ok_er]
  | ok s3 =>
    simp only [Ok_ok]
    cases evC c cs s3 with
    | error e => simp only [Ok_er]
    | ok p =>
      obtain ⟨b, s4⟩ := p
      cases b
      · simp [Ok_ok]
      · simp only [Ok_ok, if_true]
        rw [← w_iterR (Q := fun p => acc.length + p.1.length ≤ sz ∧ Ok (lcLoop (lcW c own1 t1 cs1 elt) p.1 acc (wipeS own1 p.2)) fun z => Q (z.1, wipeS own z.2))]
        cases iterR itemsC (evE c it1 s4) with
        | error e => simp only [Ok_er]
        | ok q =>
          obtain ⟨ys, s5⟩ := q
          simp only [Ok_ok, Ok_gd]
          cases lcLoop (lcW c own1 t1 cs1 elt) ys acc (wipeS own1 s5) with
          | error e => simp only [Ok_er]
          | ok r => obtain ⟨r, m⟩ := r; simp only [Ok_ok]
theorem w_lc2 {own own1 : List Nat} {t : Tg} {it : Ex} {cs : List Ex} {t1 : Tg} {it1 : Ex} {cs1 : List Ex} {elt : Ex} {Q : RV × S → Prop} :
    Ok (evE c (.lc2 own own1 t it cs t1 it1 cs1 elt) s) Q ↔ Ok (evE c it s) fun p => Ok (iterF p.1 p.2) fun q => Ok (itemsC q.1) fun xs => Ok (lc2Loop (lc2W c own own1 t cs t1 it1 cs1 elt) xs [] (wipeS own q.2)) fun r => Q (.own (.lst r.1), backS own q.2 r.2) := by
  rw [evE, ← w_iterR (Q := fun p => Ok (lc2Loop (lc2W c own own1 t cs t1 it1 cs1 elt) p.1 [] (wipeS own p.2)) fun r => Q (.own (.lst r.1), backS own p.2 r.2))]
  cases iterR itemsC (evE c it s) with
  | error e => simp only [Ok_er]
  | ok p =>
    obtain ⟨xs, s1⟩ := p
    simp only [Ok_ok]
    show Ok (match lc2Loop (lc2W c own own1 t cs t1 it1 cs1 elt) xs [] (wipeS own s1) with
      | .ok (ds, s7) => .ok (.own (.lst ds), backS own s1 s7)
      | .error e => .error e) Q ↔ _
    cases lc2Loop (lc2W c own own1 t cs t1 it1 cs1 elt) xs [] (wipeS own s1) with
    | error e => simp only [Ok_er]
    | ok r => obtain ⟨r, m⟩ := r; simp only [Ok_ok]
def dcW (c : Ctx) (own : List Nat) (t : Tg) (k v : Ex) (x : D) (s2 : S) : Rs (D × D) := match asgD t x s2 with
  | .ok s3 => (match evE c k s3 with
    | .ok (rk, s4) => (match freeze rk s4 with
      | .ok (dk, s5) => (match evE c v s5 with
        | .ok (rv, s6) => (match freeze rv s6 with
          | .ok (dv, s7) => .ok ((dk, dv), wipeS own s7)
          | .error e => .error e)
        | .error e => .error e)
      | .error e => .error e)
    | .error e => .error e)
  | .error e => .error e
theorem w_dcW {own : List Nat} {t : Tg} {k v : Ex} {x : D} {Q : (D × D) × S → Prop} : Ok (dcW c own t k v x s) Q ↔ Ok (asgD t x s) fun s3 => Ok (evE c k s3) fun p => Ok (freeze p.1 p.2) fun q => Ok (evE c v q.2) fun r => Ok (freeze r.1 r.2) fun z => Q ((q.1, z.1), wipeS own z.2) := by
  rw [dcW]
  cases asgD t x s with
  | error e => simp only [Ok_er]
  | ok s3 =>
    simp only [Ok_ok]
    cases evE c k s3 with
    | error e => simp only [Ok_er]
    | ok p =>
      obtain ⟨b, s4⟩ := p
      simp only [Ok_ok]
      cases freeze b s4 with
      | error e => simp only [Ok_er]
      | ok q =>
        obtain ⟨dk, s5⟩ := q
        simp only [Ok_ok]
        cases evE c v s5 with
        | error e => simp only [Ok_er]
        | ok r =>
          obtain ⟨rv, s6⟩ := r
          simp only [Ok_ok]
          cases freeze rv s6 with
          | error e => simp only [Ok_er]
          | ok z => obtain ⟨dv, s7⟩ := z; simp only [Ok_ok]
theorem w_dc {own : List Nat} {t : Tg} {it k v : Ex} {Q : RV × S → Prop} : Ok (evE c (.dc own t it k v) s) Q ↔ Ok (evE c it s) fun p => Ok (iterF p.1 p.2) fun q => Ok (itemsC q.1) fun xs => Ok (dcLoop (dcW c own t k v) xs [] (wipeS own q.2)) fun r => Q (.own (.dct r.1), backS own q.2 r.2) := by
  rw [evE, ← w_iterR (Q := fun p => Ok (dcLoop (dcW c own t k v) p.1 [] (wipeS own p.2)) fun r => Q (.own (.dct r.1), backS own p.2 r.2))]
  cases iterR itemsC (evE c it s) with
  | error e => simp only [Ok_er]
  | ok p =>
    obtain ⟨xs, s1⟩ := p
    simp only [Ok_ok]
    show Ok (match dcLoop (dcW c own t k v) xs [] (wipeS own s1) with
      | .ok (ds, s7) => .ok (.own (.dct ds), backS own s1 s7)
      | .error e => .error e) Q ↔ _
    cases dcLoop (dcW c own t k v) xs [] (wipeS own s1) with
    | error e => simp only [Ok_er]
    | ok r => obtain ⟨r, m⟩ := r; simp only [Ok_ok]
def ownK : Sl → Except Er (List (D × D))
  | .own (.dct kvs) => .ok kvs
  | _ => bad 116
theorem w_dvals {i : Nat} {Q : RV × S → Prop} : Ok (evE c (.dvals i) s) Q ↔ Ok (ownK (slotAt s i)) fun kvs => kvs.all (fun p => isAtom p.1) = true ∧ Q (.own (.lst (kvs.map fun p => (lookD p.1 kvs).getD .non)), s) := by
  rw [evE]
  rcases slotAt s i with _ | d | d | d <;> try simp only [ownK, Ok_er]
  cases d <;> simp only [ownK, Ok_er, Ok_ok, Ok_gd]

/-! loops -/
/-- a comprehension over typed items: I of the items done, what is there, the state -/
theorem lc_inv {α : Type} {f : D → S → Rs (Option D)} {en : α → D} {ys : List α} {acc : List D} {Q : List D × S → Prop} (I : List α → List D → S → Prop) (h0 : I [] acc s)
    (hs : ∀ d x r a s, ys = d ++ x :: r → I d a s → Ok (f (en x) s) fun p => I (d ++ [x]) (match p.1 with | some v => a ++ [v] | none => a) p.2)
    (he : ∀ a s, I ys a s → Q (a, s)) : Ok (lcLoop f (ys.map en) acc s) Q := by
  have key : ∀ (r d : List α) (a : List D) (s : S), ys = d ++ r → I d a s → Ok (lcLoop f (r.map en) a s) Q := by
    intro r
    induction r with
    | nil =>
      intro d a s e i
      rw [List.append_nil] at e
      subst e
      exact Ok_ok.mpr (he _ _ i)
    | cons x r ih =>
      intro d a s e i
      obtain ⟨p, ep, ip⟩ := hs d x r a s e i
      rw [List.map_cons, lcLoop, ep]
      obtain ⟨o, s'⟩ := p
      cases o with
      | some v => exact ih (d ++ [x]) _ _ (by simp [e]) ip
      | none => exact ih (d ++ [x]) _ _ (by simp [e]) ip
  exact key ys [] acc s rfl h0
/-- a comprehension that changes nothing -/
theorem lc_pure {α : Type} {f : D → S → Rs (Option D)} {en : α → D} {ys : List α} {acc : List D} {Q : List D × S → Prop} (g : α → Option D)
    (hs : ∀ x, x ∈ ys → Ok (f (en x) s) fun p => p = (g x, s)) (he : Q (acc ++ ys.filterMap g, s)) : Ok (lcLoop f (ys.map en) acc s) Q := by
  refine lc_inv (fun d a s' => a = acc ++ d.filterMap g ∧ s' = s) ⟨by simp, rfl⟩ ?_ ?_
  · rintro d x r a s' e ⟨ha, hs'⟩
    subst hs'
    refine (hs x (by rw [e]; simp)).mono ?_
    rintro p rfl
    refine ⟨?_, rfl⟩
    rw [ha]
    cases hg : g x <;> simp [hg]
  · rintro a s' ⟨rfl, rfl⟩
    exact he
theorem lc2_inv {α : Type} {f : D → List D → S → Rs (List D)} {en : α → D} {ys : List α} {acc : List D} {Q : List D × S → Prop} (I : List α → List D → S → Prop) (h0 : I [] acc s)
    (hs : ∀ d x r a s, ys = d ++ x :: r → I d a s → Ok (f (en x) a s) fun p => I (d ++ [x]) p.1 p.2)
    (he : ∀ a s, I ys a s → Q (a, s)) : Ok (lc2Loop f (ys.map en) acc s) Q := by
  have key : ∀ (r d : List α) (a : List D) (s : S), ys = d ++ r → I d a s → Ok (lc2Loop f (r.map en) a s) Q := by
    intro r
    induction r with
    | nil =>
      intro d a s e i
      rw [List.append_nil] at e
      subst e
      exact Ok_ok.mpr (he _ _ i)
    | cons x r ih =>
      intro d a s e i
      obtain ⟨p, ep, ip⟩ := hs d x r a s e i
      rw [List.map_cons, lc2Loop, ep]
      obtain ⟨o, s'⟩ := p
      exact ih (d ++ [x]) _ _ (by simp [e]) ip
  exact key ys [] acc s rfl h0
theorem dc_inv {α : Type} {f : D → S → Rs (D × D)} {en : α → D} {ys : List α} {acc : List (D × D)} {Q : List (D × D) × S → Prop} (I : List α → List (D × D) → S → Prop) (h0 : I [] acc s)
    (hs : ∀ d x r a s, ys = d ++ x :: r → I d a s → Ok (f (en x) s) fun p => isAtom p.1.1 = true ∧ a.length < sz ∧ I (d ++ [x]) (putD p.1.1 p.1.2 a) p.2)
    (he : ∀ a s, I ys a s → Q (a, s)) : Ok (dcLoop f (ys.map en) acc s) Q := by
  have key : ∀ (r d : List α) (a : List (D × D)) (s : S), ys = d ++ r → I d a s → Ok (dcLoop f (r.map en) a s) Q := by
    intro r
    induction r with
    | nil =>
      intro d a s e i
      rw [List.append_nil] at e
      subst e
      exact Ok_ok.mpr (he _ _ i)
    | cons x r ih =>
      intro d a s e i
      obtain ⟨p, ep, ia, il, ip⟩ := hs d x r a s e i
      rw [List.map_cons, dcLoop, ep]
      obtain ⟨⟨k, v⟩, s'⟩ := p
      simp only at ia il ip ⊢
      rw [ia, decide_eq_true il]
      exact ih (d ++ [x]) _ _ (by simp [e]) ip
  exact key ys [] acc s rfl h0
/-- what a statement's end means for a loop -/
def turn (Q : Fl × S → Prop) (J : S → Prop) (p : Fl × S) : Prop := match p.1 with
  | .nx => J p.2
  | .ct => J p.2
  | .brk => Q (.nx, p.2)
  | .ret v => Q (.ret v, p.2)
theorem for_inv {α : Type} {f : D → S → Rs Fl} {en : α → D} {ys : List α} {Q : Fl × S → Prop} (I : List α → S → Prop) (h0 : I [] s)
    (hs : ∀ d x r s, ys = d ++ x :: r → I d s → Ok (f (en x) s) (turn Q (I (d ++ [x])))) (he : ∀ s, I ys s → Q (.nx, s)) : Ok (forLoop f (ys.map en) s) Q := by
  have key : ∀ (r d : List α) (s : S), ys = d ++ r → I d s → Ok (forLoop f (r.map en) s) Q := by
    intro r
    induction r with
    | nil =>
      intro d s e i
      rw [List.append_nil] at e
      subst e
      exact Ok_ok.mpr (he _ i)
    | cons x r ih =>
      intro d s e i
      obtain ⟨p, ep, ip⟩ := hs d x r s e i
      rw [List.map_cons, forLoop, ep]
      obtain ⟨o, s'⟩ := p
      cases o with
      | nx => exact ih (d ++ [x]) _ (by simp [e]) ip
      | ct => exact ih (d ++ [x]) _ (by simp [e]) ip
      | brk => exact Ok_ok.mpr ip
      | ret v => exact Ok_ok.mpr ip
  exact key ys [] s rfl h0
theorem wh_inv {t : S → Rs Bool} {f : S → Rs Fl} {Q : Fl × S → Prop} (I : Nat → S → Prop) {n N : Nat} (h0 : I n s) (hN : n < N)
    (hs : ∀ m s, I m s → Ok (t s) fun p => if p.1 = true then Ok (f p.2) (turn Q fun s' => ∃ m', m' < m ∧ I m' s') else Q (.nx, p.2)) : Ok (whLoop t f N s) Q := by
  induction N generalizing n s with
  | zero => omega
  | succ N ih =>
    obtain ⟨p, ep, ip⟩ := hs n s h0
    rw [whLoop, ep]
    obtain ⟨b, s1⟩ := p
    cases b with
    | false => exact Ok_ok.mpr (by simpa using ip)
    | true =>
      simp only [if_true] at ip
      obtain ⟨q, eq, iq⟩ := ip
      simp only [eq]
      obtain ⟨o, s2⟩ := q
      cases o with
      | nx => obtain ⟨m', hm, hi⟩ := iq; exact ih hi (by omega)
      | ct => obtain ⟨m', hm, hi⟩ := iq; exact ih hi (by omega)
      | brk => exact Ok_ok.mpr iq
      | ret v => exact Ok_ok.mpr iq

/-! statements -/
theorem w_ex {e : Ex} {Q : Fl × S → Prop} : Ok (evS c (.ex e) s) Q ↔ Ok (evE c e s) fun p => Q (.nx, p.2) := by
  rw [evS]
  cases evE c e s with
  | error e => simp only [Ok_er]
  | ok p => obtain ⟨a, b⟩ := p; simp only [Ok_ok]
theorem w_asg {t : Tg} {e : Ex} {Q : Fl × S → Prop} : Ok (evS c (.asg t e) s) Q ↔ Ok (evE c e s) fun p => Ok (asgR t p.1 p.2) fun s2 => Q (.nx, s2) := by
  rw [evS]
  cases evE c e s with
  | error e => simp only [Ok_er]
  | ok p =>
    obtain ⟨a, b⟩ := p
    simp only [Ok_ok]
    cases asgR t a b <;> simp only [Ok_ok, Ok_er]
def noBor : RV → Bool
  | .bor _ => false
  | _ => true
theorem w_par {i j : Nat} {a b : Ex} {Q : Fl × S → Prop} : Ok (evS c (.par i j a b) s) Q ↔ Ok (evE c a s) fun p => Ok (evE c b p.2) fun q => noBor p.1 = true ∧ noBor q.1 = true ∧ Ok (asgR (.nm i) p.1 q.2) fun s3 => Ok (asgR (.nm j) q.1 s3) fun s4 => Q (.nx, s4) := by
  rw [evS]
  cases evE c a s with
  | error e => simp only [Ok_er]
  | ok p =>
    obtain ⟨ra, s1⟩ := p
    simp only [Ok_ok]
    cases evE c b s1 with
    | error e => simp only [Ok_er]
    | ok q =>
      obtain ⟨rb, s2⟩ := q
      simp only [Ok_ok]
      cases ra <;> cases rb <;> simp only [noBor, Ok_er, true_and, false_and, and_false, Bool.false_eq_true]
      all_goals
        rename_i x y
        generalize asgR (.nm i) _ s2 = u
        cases u with
        | error e => simp only [Ok_er]
        | ok s3 =>
          simp only [Ok_ok]
          generalize asgR (.nm j) _ s3 = u
          cases u <;> simp only [Ok_ok, Ok_er]
/-- d[k] = v, by what name i has -/
def subW (i : Nat) (d dk : D) (s3 : S) : Except Er S := match slotAt s3 i with
  | .own (.dct kvs) => if (fitsKey dk kvs && decide (kvs.length < sz)) = true then .ok { s3 with ρ := s3.ρ.set i (.own (.dct (putD dk d kvs))) } else bad 92
  | .val (.ref n) => (match s3.mh[n]? with
    | some (.dct kvs) => if (isAtom dk && decide (kvs.length < sz)) = true then .ok { s3 with mh := s3.mh.set n (.dct (putD dk d kvs)) } else bad 93
    | _ => bad 94)
  | _ => bad 95
theorem w_sub {i : Nat} {k e : Ex} {Q : Fl × S → Prop} : Ok (evS c (.sub i k e) s) Q ↔ Ok (evE c e s) fun p => Ok (freeze p.1 p.2) fun q => (content (slotAt q.2 i)).isSome = true ∧ Ok (evE c k q.2) fun r => Ok (valR r.1) fun dk => Ok (subW i q.1 dk r.2) fun s' => Q (.nx, s') := by
  rw [evS]
  cases evE c e s with
  | error e => simp only [Ok_er]
  | ok p =>
    obtain ⟨ra, s1⟩ := p
    simp only [Ok_ok]
    cases freeze ra s1 with
    | error e => simp only [Ok_er]
    | ok q =>
      obtain ⟨d, s2⟩ := q
      simp only [Ok_ok, Ok_gd]
      cases evE c k s2 with
      | error e => simp only [Ok_er]
      | ok r =>
        obtain ⟨rk, s3⟩ := r
        cases rk <;> simp only [valR, Ok_ok, Ok_er]
        rename_i dk
        rw [subW]
        rcases slotAt s3 i with _ | d' | d' | d' <;> try simp only [Ok_er]
        · cases d' <;> try simp only [Ok_er]
          rename_i n
          rcases s3.mh[n]? with _ | o <;> try simp only [Ok_er]
          cases o <;> simp only [Ok_er, Ok_gd, Ok_ok]
        · cases d' <;> simp only [Ok_er, Ok_gd, Ok_ok]
theorem w_ret {e : Ex} {Q : Fl × S → Prop} : Ok (evS c (.ret e) s) Q ↔ Ok (evE c e s) fun p => Q (.ret p.1, p.2) := by
  rw [evS]
  cases evE c e s with
  | error e => simp only [Ok_er]
  | ok p => obtain ⟨a, b⟩ := p; simp only [Ok_ok]
theorem w_sif {t : Ex} {a b : List St} {Q : Fl × S → Prop} : Ok (evS c (.ife t a b) s) Q ↔ Ok (evE c t s) fun p => Ok (peek p.1 p.2) fun x => Ok (truth x) fun t => if t = true then Ok (evB c a p.2) Q else Ok (evB c b p.2) Q := by
  rw [evS, ← w_test (Q := fun p => if p.1 = true then Ok (evB c a p.2) Q else Ok (evB c b p.2) Q)]
  cases testR (evE c t s) with
  | error e => simp only [Ok_er]
  | ok p => obtain ⟨b, s1⟩ := p; cases b <;> simp [Ok_ok]
theorem w_whl {t : Ex} {b : List St} {Q : Fl × S → Prop} : Ok (evS c (.whl t b) s) Q ↔ Ok (whLoop (fun s => testR (evE c t s)) (evB c b) c.N s) Q := by rw [evS]
def forF (c : Ctx) (t : Tg) (b : List St) (x : D) (s2 : S) : Rs Fl := match asgD t x s2 with
  | .ok s3 => evB c b s3
  | .error e => .error e
theorem w_forF {t : Tg} {b : List St} {x : D} {Q : Fl × S → Prop} : Ok (forF c t b x s) Q ↔ Ok (asgD t x s) fun s3 => Ok (evB c b s3) Q := by
  rw [forF]
  cases asgD t x s <;> simp only [Ok_ok, Ok_er]
theorem w_for {t : Tg} {it : Ex} {b : List St} {Q : Fl × S → Prop} : Ok (evS c (.for_ t it b) s) Q ↔ Ok (evE c it s) fun p => Ok (iterF p.1 p.2) fun q => Ok (itemsD q.1) fun xs => Ok (forLoop (forF c t b) xs q.2) Q := by
  rw [evS, ← w_iterR (Q := fun p => Ok (forLoop (forF c t b) p.1 p.2) Q)]
  cases iterR itemsD (evE c it s) with
  | error e => simp only [Ok_er]
  | ok p =>
    obtain ⟨xs, s1⟩ := p
    simp only [Ok_ok]
    exact Iff.rfl
theorem w_pass {Q : Fl × S → Prop} : Ok (evS c .pass s) Q ↔ Q (.nx, s) := by rw [evS]; exact Ok_ok
theorem w_brk {Q : Fl × S → Prop} : Ok (evS c .brk s) Q ↔ Q (.brk, s) := by rw [evS]; exact Ok_ok
theorem w_cnt {Q : Fl × S → Prop} : Ok (evS c .cnt s) Q ↔ Q (.ct, s) := by rw [evS]; exact Ok_ok
theorem w_B0 {Q : Fl × S → Prop} : Ok (evB c [] s) Q ↔ Q (.nx, s) := by rw [evB]; exact Ok_ok
/-- what comes behind a statement -/
def next (Q R : Fl × S → Prop) (p : Fl × S) : Prop := match p.1 with
  | .nx => R p
  | _ => Q p
theorem w_B1 {t : St} {ts : List St} {Q : Fl × S → Prop} : Ok (evB c (t :: ts) s) Q ↔ Ok (evS c t s) (next Q fun p => Ok (evB c ts p.2) Q) := by
  rw [evB]
  cases evS c t s with
  | error e => simp only [Ok_er]
  | ok p =>
    obtain ⟨a, b⟩ := p
    cases a <;> simp only [Ok_ok, next]
theorem next_nx {Q R : Fl × S → Prop} {s : S} : next Q R (.nx, s) ↔ R (.nx, s) := Iff.rfl
theorem next_ret {Q R : Fl × S → Prop} {s : S} {r : RV} : next Q R (.ret r, s) ↔ Q (.ret r, s) := Iff.rfl
theorem next_brk {Q R : Fl × S → Prop} {s : S} : next Q R (.brk, s) ↔ Q (.brk, s) := Iff.rfl
theorem next_ct {Q R : Fl × S → Prop} {s : S} : next Q R (.ct, s) ↔ Q (.ct, s) := Iff.rfl
theorem turn_nx {Q : Fl × S → Prop} {J : S → Prop} {s : S} : turn Q J (.nx, s) ↔ J s := Iff.rfl
theorem turn_ct {Q : Fl × S → Prop} {J : S → Prop} {s : S} : turn Q J (.ct, s) ↔ J s := Iff.rfl
theorem turn_brk {Q : Fl × S → Prop} {J : S → Prop} {s : S} : turn Q J (.brk, s) ↔ Q (.nx, s) := Iff.rfl
theorem turn_ret {Q : Fl × S → Prop} {J : S → Prop} {s : S} {r : RV} : turn Q J (.ret r, s) ↔ Q (.ret r, s) := Iff.rfl

/-- the end of a def -/
def fin (Q : RV × MH → Prop) (p : Fl × S) : Prop := match p.1 with
  | .ret r => Ok (outR r p.2) fun r => Q (r, p.2.mh)
  | .nx => Q (.val .non, p.2.mh)
  | _ => False
theorem fin_ret {Q : RV × MH → Prop} {r : RV} {s : S} : fin Q (.ret r, s) ↔ Ok (outR r s) fun r => Q (r, s.mh) := Iff.rfl
theorem fin_nx {Q : RV × MH → Prop} {s : S} : fin Q (.nx, s) ↔ Q (.val .non, s.mh) := Iff.rfl
def cxF (pg : List Df) (N k : Nat) : Ctx := ⟨evF pg N k, fun g => ((pg[g]?).map Df.esc).getD [], N⟩
theorem w_F {pg : List Df} {N k f : Nat} {d : Df} {xs : List Sl} {mh : MH} {Q : RV × MH → Prop} (hf : pg[f]? = some d) (hl : xs.length = d.np) (hn : d.np ≤ d.ns)
    (h : Ok (evB (cxF pg N k) d.body ⟨xs ++ List.replicate (d.ns - d.np) .un, mh⟩) (fin Q)) : Ok (evF pg N (k + 1) f xs mh) Q := by
  rw [evF, hf]
  simp only [hl, hn, and_self, if_true]
  obtain ⟨p, e, q⟩ := h
  change Ok (match evB (cxF pg N k) d.body ⟨xs ++ List.replicate (d.ns - d.np) .un, mh⟩ with
      | .ok (.ret r, s) => (match outR r s with
        | .ok r => .ok (r, s.mh)
        | .error e => .error e)
      | .ok (.nx, s) => .ok (.val .non, s.mh)
      | .ok _ => bad 102
      | .error e => .error e) Q
  rw [e]
  obtain ⟨a, s⟩ := p
  cases a with
  | nx => exact Ok_ok.mpr q
  | brk => exact q.elim
  | ct => exact q.elim
  | ret r =>
    rw [fin_ret] at q
    obtain ⟨r', er, qr⟩ := q
    simp only [er]
    exact Ok_ok.mpr qr
end Sk

end

section
set_option Elab.async false
set_option linter.all false
set_option maxRecDepth 100000
set_option maxHeartbeats 8000000
/-! SkEnd: from the head's facts to the law's end. -/
namespace Sk
open PySem PySem.Spec PyProof.Rows L2

def dvOf : D → He.Dv
  | .int i => .int i
  | .str x => .str ⟨x.toArray⟩
  | _ => .non
def isLst (o : Obj) : Bool := match o.cls with
  | .type c => decide (c = "list")
  | _ => false
/-- the module's tuples are as told, no list is among what is known -/
def exB (cs : List (Str × List D)) (K : PySem.W.Frag) : Bool := (K.all fun q => !isLst q.2) && cs.all fun p => (He.Fa.glo p.1).ok K && (p.2.all isAtom && He.tupB K p.1 (p.2.map dvOf))
theorem kt_of {K : PySem.W.Frag} {x : Str} {ds : List D} (h1 : ds.all isAtom = true) (h : He.tupB K x (ds.map dvOf) = true) : KT K (He.ga K x) ds := by
  refine ⟨h1, ?_⟩
  have q := He.tupB_ok h fun _ => none
  rcases q with (q | ⟨o, q⟩) | q
  · cases q
  · cases q
  · have e : (ds.map dvOf).map (He.Dv.v K) = ds.map atomV := by
      rw [List.map_map]
      refine List.map_congr_left fun d hd => ?_
      have := List.all_eq_true.mp h1 d hd
      cases d <;> first | rfl | simp [isAtom] at this
    rw [e] at q
    exact q
theorem noList_of {cs : List (Str × List D)} {K : PySem.W.Frag} (h : exB cs K = true) {a : Addr} {o : Obj} (e : K.lookup a = some o) : o.cls ≠ .type "list" := by
  unfold exB at h
  rw [Bool.and_eq_true] at h
  have q := List.all_eq_true.mp h.1 _ (He.lookup_mem e)
  intro z
  simp [isLst, z] at q
theorem conT_of {cs : List (Str × List D)} {K : PySem.W.Frag} {h : Heap} {mg : Str → Option Value} (X : K.In h) (G : h.Ns mainGlobals mg) (hx : exB cs K = true) {x : Str} {ds : List D} (hm : (x, ds) ∈ cs) : ConOk K mg x (.tup ds) := by
  unfold exB at hx
  rw [Bool.and_eq_true] at hx
  have q := List.all_eq_true.mp hx.2 _ hm
  simp only [Bool.and_eq_true] at q
  exact ⟨_, He.glo_ok X G q.1, .inr ⟨ds, _, rfl, rfl, kt_of q.2.1 q.2.2⟩⟩
theorem conI_of {K : PySem.W.Frag} {h : Heap} {mg : Str → Option Value} (X : K.In h) (G : h.Ns mainGlobals mg) {x : Str} {i : Int} (c : (He.Fa.int x i).ok K = true) : ConOk K mg x (.int i) := by
  obtain ⟨t, e⟩ := He.int_ok X G c
  exact ⟨_, e, .inl ⟨_, rfl, t, rfl⟩⟩
theorem conS_of {K : PySem.W.Frag} {h : Heap} {mg : Str → Option Value} (X : K.In h) (G : h.Ns mainGlobals mg) {x : Str} {z : List Nat} (c : (He.Fa.str x ⟨z.toArray⟩).ok K = true) : ConOk K mg x (.str z) := by
  obtain ⟨t, e⟩ := He.str_ok X G c
  exact ⟨_, e, .inl ⟨_, rfl, t, rfl⟩⟩
/-- the script as the first shared object -/
theorem sim_start {H : Hp} {a : Addr} {ns : List Int} (h : Rd H a (.lst (ns.map V.int))) : Sim [] ⟨fun _ => False, fun _ => False, fun _ => False, fun _ => a, 1⟩ ⟨[.val (.ref 0)], [.scr (ns.map .int)]⟩ [some (.ref a)] H where
  con := fun p hp => by cases hp
  zd := fun _ z => z.elim
  pd := fun _ z => z.elim
  bp := fun _ z => z.elim
  zp := fun _ z => z.elim
  len := rfl
  slot := fun i x e => by
    cases i with
    | succ i => simp at e
    | zero =>
      cases e
      exact ⟨_, rfl, _, rfl, .ref (w := ⟨fun _ => False, fun _ => False, fun _ => False, fun _ => a, 1⟩) Nat.one_pos⟩
  mlen := rfl
  mo := fun n o e => by
    cases n with
    | succ n => simp at e
    | zero =>
      cases e
      refine ⟨_, h, ?_⟩
      have q : ∀ l : List Int, VRs ⟨fun _ => False, fun _ => False, fun _ => False, fun _ => a, 1⟩ H (l.map .int) (l.map V.int) := fun l => by
        induction l with
        | nil => exact .nil
        | cons i l ih => exact .cons (.int i) ih
      exact q ns
  fr := fun x b e => by
    cases x with
    | inr n => exact ⟨fun z => z, fun z => z⟩
    | inl i =>
      obtain ⟨d, e, _⟩ := e
      cases i with
      | succ i => simp at e
      | zero => cases e
  inj := fun x y b e f => by
    cases x with
    | inl i =>
      obtain ⟨d, e, _⟩ := e
      cases i with
      | succ i => simp at e
      | zero => cases e
    | inr n =>
      cases y with
      | inl i =>
        obtain ⟨d, e, _⟩ := f
        cases i with
        | succ i => simp at e
        | zero => cases e
      | inr m =>
        have h1 : n < 1 := e.1
        have h2 : m < 1 := f.1
        rw [show n = m by omega]
/-- the law's promise -/
theorem lawAt_of {l : PySem.W.OpenLaw} {w : World} {K : PySem.W.Frag} {mg : Str → Option Value} {fa : Addr} {h : Heap} {pg : List Df} {con : List (Str × D)} {defs : List (Str × Nat)} {bl : List Str} {Nw k i n : Nat} {nm x : Str} {cs : List (Str × List D)}
    (hd : ∀ f x np, defs[f]? = some (x, np) → ∃ ps, np = ps.length ∧ DefOk K mg pg con defs bl f x ps) (hc : ∀ x d, (x, d) ∈ con → ConOk K mg x d) (hb : ∀ x ∈ bl, mg x = none) (hi : DefOk K mg pg con defs bl i nm [x]) (hfa : mg nm = some (.ref fa)) (hx : exB cs K = true)
    (law : ∀ ns : List Int, ns.length ≤ n → (∀ z ∈ ns, Builtin.Int.intBits z ≤ 1048576) → ∃ mh, evF pg Nw (k + 1) i [.val (.ref 0)] [.scr (ns.map .int)] = .ok (.val (.bl true), mh)) : LamX.LawAtS l w K C8.CX0 (k + 1) n x mg fa h := by
  obtain ⟨fa', fd, DC⟩ := hi.ex
  obtain ⟨N, params, body, scope, d, nE, nS, F, hm, hB, S, hp, h1, h3, h4, h5, h6⟩ := id DC
  have e : fa = fa' := by
    rw [hfa] at hm
    cases hm
    rfl
  subst e
  refine ⟨fd, [], spF [] 1 (evF pg Nw (k + 1) i), (fun _ z => nomatch z), (fun _ z => nomatch z), (fun _ z => nomatch z), fun s u => hB s [u] rfl, fun H a ns hl hbits _ hS => ?_, fun base KX G _ => ?_⟩
  · obtain ⟨mh, e⟩ := law ns hl hbits
    have hr : Rd H a (.lst (ns.map V.int)) := by
      rcases hS with q | ⟨o, its, m, q1, q2, _⟩
      · exact q
      · exact absurd q2 (noList_of hx q1)
    exact ⟨rfl, _, _, _, _, _, sim_start hr, e, fun w' H' v E I r => by
      cases r
      rfl⟩
  · exact fn_core hd hc hb DC (all_fn hd hc hb k)
end Sk

end

section
set_option Elab.async false
set_option linter.all false
set_option maxRecDepth 100000
set_option maxHeartbeats 4000000
namespace Sk
open PySem
/-! SpL: rules for the steps of the evaluator. -/
theorem asgD_nm {i : Nat} {d : D} {ρ : List Sl} {mh : MH} : asgD (.nm i) d ⟨ρ, mh⟩ = .ok ⟨ρ.set i (.val d), mh⟩ := rfl
theorem asgD_tp {is : List Nat} {ds : List D} {s : S} : asgD (.tp is) (.tup ds) s = asgAll is ds s := rfl
theorem asgAll_nil {s : S} : asgAll [] [] s = .ok s := rfl
theorem asgAll_cons {i : Nat} {is : List Nat} {d : D} {ds : List D} {ρ : List Sl} {mh : MH} : asgAll (i :: is) (d :: ds) ⟨ρ, mh⟩ = asgAll is ds ⟨ρ.set i (.val d), mh⟩ := rfl
theorem asgR_val {i : Nat} {d : D} {ρ : List Sl} {mh : MH} : asgR (.nm i) (.val d) ⟨ρ, mh⟩ = .ok ⟨ρ.set i (.val d), mh⟩ := rfl
theorem asgR_own {i : Nat} {d : D} {ρ : List Sl} {mh : MH} : asgR (.nm i) (.own d) ⟨ρ, mh⟩ = .ok ⟨ρ.set i (.own d), mh⟩ := rfl
def agS (i j : Nat) (ρ : List Sl) (mh : MH) : Sl → Except Er S
  | .own d => .ok ⟨(ρ.set j (.val d)).set i (.val d), mh⟩
  | .val d => .ok ⟨ρ.set i (.val d), mh⟩
  | .bor d => .ok ⟨ρ.set i (.bor d), mh⟩
  | .un => bad 63
theorem asgR_bor {i j : Nat} {ρ : List Sl} {mh : MH} : asgR (.nm i) (.bor j) ⟨ρ, mh⟩ = agS i j ρ mh (slotAt ⟨ρ, mh⟩ j) := by
  simp only [asgR]
  cases slotAt ⟨ρ, mh⟩ j <;> rfl
theorem agS_own {i j : Nat} {ρ : List Sl} {mh : MH} {d : D} : agS i j ρ mh (.own d) = .ok ⟨(ρ.set j (.val d)).set i (.val d), mh⟩ := rfl
theorem agS_val {i j : Nat} {ρ : List Sl} {mh : MH} {d : D} : agS i j ρ mh (.val d) = .ok ⟨ρ.set i (.val d), mh⟩ := rfl
theorem agS_bor {i j : Nat} {ρ : List Sl} {mh : MH} {d : D} : agS i j ρ mh (.bor d) = .ok ⟨ρ.set i (.bor d), mh⟩ := rfl
theorem asgR_tp {is : List Nat} {ds : List D} {s : S} : asgR (.tp is) (.val (.tup ds)) s = asgAll is ds s := rfl
theorem slotAt_mk {ρ : List Sl} {mh : MH} {i : Nat} : slotAt ⟨ρ, mh⟩ i = ρ.getD i .un := rfl
theorem varR_val {i : Nat} {d : D} : varR i (.val d) = .ok (.val d) := rfl
theorem varR_own {i : Nat} {d : D} : varR i (.own d) = .ok (.bor i) := rfl
theorem varR_bor {i : Nat} {d : D} : varR i (.bor d) = .ok (.bor i) := rfl
theorem peek_val {d : D} {s : S} : peek (.val d) s = .ok d := rfl
theorem peek_own {d : D} {s : S} : peek (.own d) s = .ok d := rfl
def peekS : Sl → Except Er D
  | .un => bad 1
  | .val d => .ok d
  | .own d => .ok d
  | .bor d => .ok d
theorem peek_bor {i : Nat} {s : S} : peek (.bor i) s = peekS (slotAt s i) := by
  simp only [peek]
  cases slotAt s i <;> rfl
theorem peekS_val {d : D} : peekS (.val d) = .ok d := rfl
theorem peekS_own {d : D} : peekS (.own d) = .ok d := rfl
theorem peekS_bor {d : D} : peekS (.bor d) = .ok d := rfl
theorem freeze_val {d : D} {s : S} : freeze (.val d) s = .ok (d, s) := rfl
theorem freeze_own {d : D} {s : S} : freeze (.own d) s = .ok (d, s) := rfl
def frzS (i : Nat) (ρ : List Sl) (mh : MH) : Sl → Rs D
  | .own d => .ok (d, ⟨ρ.set i (.val d), mh⟩)
  | .val d => .ok (d, ⟨ρ, mh⟩)
  | _ => bad 2
theorem freeze_bor {i : Nat} {ρ : List Sl} {mh : MH} : freeze (.bor i) ⟨ρ, mh⟩ = frzS i ρ mh (slotAt ⟨ρ, mh⟩ i) := by
  simp only [freeze]
  cases slotAt ⟨ρ, mh⟩ i <;> rfl
theorem frzS_own {i : Nat} {ρ : List Sl} {mh : MH} {d : D} : frzS i ρ mh (.own d) = .ok (d, ⟨ρ.set i (.val d), mh⟩) := rfl
theorem frzS_val {i : Nat} {ρ : List Sl} {mh : MH} {d : D} : frzS i ρ mh (.val d) = .ok (d, ⟨ρ, mh⟩) := rfl
theorem iterF_val {d : D} {s : S} : iterF (.val d) s = .ok (d, s) := rfl
theorem iterF_own {d : D} {s : S} : iterF (.own d) s = .ok (d, s) := rfl
def itfS (i : Nat) (ρ : List Sl) (mh : MH) : Sl → Rs D
  | .own d => .ok (d, ⟨ρ.set i (.val d), mh⟩)
  | .val d => .ok (d, ⟨ρ, mh⟩)
  | .bor d => .ok (d, ⟨ρ, mh⟩)
  | .un => bad 123
theorem iterF_bor {i : Nat} {ρ : List Sl} {mh : MH} : iterF (.bor i) ⟨ρ, mh⟩ = itfS i ρ mh (slotAt ⟨ρ, mh⟩ i) := by
  simp only [iterF]
  cases slotAt ⟨ρ, mh⟩ i <;> rfl
theorem itfS_own {i : Nat} {ρ : List Sl} {mh : MH} {d : D} : itfS i ρ mh (.own d) = .ok (d, ⟨ρ.set i (.val d), mh⟩) := rfl
theorem itfS_val {i : Nat} {ρ : List Sl} {mh : MH} {d : D} : itfS i ρ mh (.val d) = .ok (d, ⟨ρ, mh⟩) := rfl
theorem itfS_bor {i : Nat} {ρ : List Sl} {mh : MH} {d : D} : itfS i ρ mh (.bor d) = .ok (d, ⟨ρ, mh⟩) := rfl
theorem wipeS_mk {own : List Nat} {ρ : List Sl} {mh : MH} : wipeS own ⟨ρ, mh⟩ = ⟨own.foldl (fun ρ i => ρ.set i .un) ρ, mh⟩ := rfl
theorem backS_mk {own : List Nat} {ρ0 : List Sl} {mh0 : MH} {ρ : List Sl} {mh : MH} : backS own ⟨ρ0, mh0⟩ ⟨ρ, mh⟩ = ⟨own.foldl (fun ρ i => ρ.set i (ρ0.getD i .un)) ρ, mh⟩ := rfl
theorem cxF_call {pg : List Df} {N k : Nat} : (cxF pg N k).call = evF pg N k := rfl
theorem cxF_N {pg : List Df} {N k : Nat} : (cxF pg N k).N = N := rfl
theorem toSls0 {esc : List Nat} {n : Nat} {s : S} : toSls esc n [] s = .ok ([], s) := rfl
theorem Ok_toSls1 {n : Nat} {r : RV} {rs : List RV} {s : S} {Q : List Sl × S → Prop} : Ok (toSls [] n (r :: rs) s) Q ↔ Ok (toSl false r s) fun p => Ok (toSls [] (n + 1) rs p.2) fun q => Q (p.1 :: q.1, q.2) := by
  rw [toSls]
  have e : ([] : List Nat).contains n = false := rfl
  rw [e]
  cases toSl false r s with
  | error e => simp only [Ok_er]
  | ok p =>
    obtain ⟨x, s'⟩ := p
    simp only [Ok_ok]
    cases toSls [] (n + 1) rs s' with
    | error e => simp only [Ok_er]
    | ok q => obtain ⟨x, s'⟩ := q; simp only [Ok_ok]
theorem toSl_val {b : Bool} {d : D} {s : S} : toSl b (.val d) s = .ok (.val d, s) := rfl
theorem toSl_own {d : D} {s : S} : toSl false (.own d) s = .ok (.bor d, s) := rfl
def tslS (s : S) : Sl → Rs Sl
  | .val d => .ok (.val d, s)
  | .own d => .ok (.bor d, s)
  | .bor d => .ok (.bor d, s)
  | .un => bad 68
theorem toSl_bor {i : Nat} {s : S} : toSl false (.bor i) s = tslS s (slotAt s i) := by
  simp only [toSl]
  cases slotAt s i <;> rfl
theorem tslS_val {s : S} {d : D} : tslS s (.val d) = .ok (.val d, s) := rfl
theorem tslS_own {s : S} {d : D} : tslS s (.own d) = .ok (.bor d, s) := rfl
theorem tslS_bor {s : S} {d : D} : tslS s (.bor d) = .ok (.bor d, s) := rfl
theorem outR_val {s : S} {d : D} : outR (.val d) s = .ok (.val d) := rfl
theorem outR_own {s : S} {d : D} : outR (.own d) s = .ok (.own d) := rfl
def outS : Sl → Except Er RV
  | .own d => .ok (.own d)
  | .val d => .ok (.val d)
  | _ => bad 99
theorem outR_bor {s : S} {i : Nat} : outR (.bor i) s = outS (slotAt s i) := by
  simp only [outR]
  cases slotAt s i <;> rfl
theorem outS_val {d : D} : outS (.val d) = .ok (.val d) := rfl
theorem outS_own {d : D} : outS (.own d) = .ok (.own d) := rfl
theorem content_val {d : D} : content (.val d) = some d := rfl
theorem content_own {d : D} : content (.own d) = some d := rfl
theorem content_bor {d : D} : content (.bor d) = some d := rfl
theorem valR_val {d : D} : valR (.val d) = .ok d := rfl
theorem ownL_own {xs : List D} : ownL (.own (.lst xs)) = .ok xs := rfl
theorem ownK_own {xs : List (D × D)} : ownK (.own (.dct xs)) = .ok xs := rfl
theorem noBor_val {d : D} : noBor (.val d) = true := rfl
theorem noBor_own {d : D} : noBor (.own d) = true := rfl
theorem add_int {i j : Int} : binD .add (.int i) (.int j) = .ok (.val (.int (i + j))) := rfl
theorem sub_int {i j : Int} : binD .sub (.int i) (.int j) = .ok (.val (.int (i - j))) := rfl
theorem Ok_md {i j : Int} {Q : RV → Prop} : Ok (binD .md (.int i) (.int j)) Q ↔ 0 < j ∧ Q (.val (.int (i % j))) := by
  simp only [binD, Ok_gd, Ok_ok]
theorem Ok_fdiv {i j : Int} {Q : RV → Prop} : Ok (binD .fdiv (.int i) (.int j)) Q ↔ (0 < j ∧ j < 1073741824) ∧ Q (.val (.int (i / j))) := by
  simp only [binD, Ok_gd, Ok_ok]
theorem Ok_mul {i j : Int} {Q : RV → Prop} : Ok (binD .mul (.int i) (.int j)) Q ↔ (i.natAbs < 2 ^ 64 ∨ j.natAbs < 2 ^ 64) ∧ Q (.val (.int (i * j))) := by
  simp only [binD, Ok_gd, Ok_ok]
theorem Ok_add_str {x y : List Nat} {Q : RV → Prop} : Ok (binD .add (.str x) (.str y)) Q ↔ x.length + y.length ≤ sz ∧ Q (.val (.str (x ++ y))) := by simp only [binD, Ok_gd, Ok_ok]
theorem Ok_add_tup {x y : List D} {Q : RV → Prop} : Ok (binD .add (.tup x) (.tup y)) Q ↔ x.length + y.length ≤ sz ∧ Q (.val (.tup (x ++ y))) := by simp only [binD, Ok_gd, Ok_ok]
theorem Ok_add_lst {x y : List D} {Q : RV → Prop} : Ok (binD .add (.lst x) (.lst y)) Q ↔ x.length + y.length ≤ sz ∧ Q (.own (.lst (x ++ y))) := by simp only [binD, Ok_gd, Ok_ok]
theorem len_lst {mh : MH} {x : List D} : bltM mh .len (.lst x) = .ok (.val (.int x.length)) := rfl
theorem len_tup {mh : MH} {x : List D} : bltM mh .len (.tup x) = .ok (.val (.int x.length)) := rfl
theorem len_dct {mh : MH} {x : List (D × D)} : bltM mh .len (.dct x) = .ok (.val (.int x.length)) := rfl
theorem Ok_len_str {mh : MH} {x : List Nat} {Q : RV → Prop} : Ok (bltM mh .len (.str x)) Q ↔ x.length ≤ sz ∧ Q (.val (.int x.length)) := by simp only [bltM, bltD, Ok_gd, Ok_ok]
theorem int_int {mh : MH} {i : Int} : bltM mh .int (.int i) = .ok (.val (.int i)) := rfl
theorem list_lst {mh : MH} {x : List D} : bltM mh .list (.lst x) = .ok (.own (.lst x)) := rfl
theorem list_tup {mh : MH} {x : List D} : bltM mh .list (.tup x) = .ok (.own (.lst x)) := rfl
theorem Ok_listr {mh : MH} {x : List D} {Q : RV → Prop} : Ok (bltM mh .listr (.lst x)) Q ↔ x.length ≤ sz ∧ Q (.own (.lst x)) := by simp only [bltM, bltD, Ok_gd, Ok_ok]
theorem tuple_lst {mh : MH} {x : List D} : bltM mh .tuple (.lst x) = .ok (.val (.tup x)) := rfl
theorem tuple_tup {mh : MH} {x : List D} : bltM mh .tuple (.tup x) = .ok (.val (.tup x)) := rfl
theorem ord_str {mh : MH} {x : Nat} : bltM mh .ord (.str [x]) = .ok (.val (.int x)) := rfl
theorem atI_nat {α : Type} {xs : List α} {i : Int} (h : 0 ≤ i) : L2.atI xs i = xs[i.toNat]? := by
  unfold L2.atI L2.ixN
  simp only [h, if_true]
  split
  · rfl
  · rename_i hi
    rw [List.getElem?_eq_none (by omega)]
    rfl
theorem atI_ofNat {α : Type} {xs : List α} {i : Nat} : L2.atI xs (i : Int) = xs[i]? := by
  rw [atI_nat (Int.natCast_nonneg i), Int.toNat_natCast]
theorem Ok_idx_lst {mh : MH} {xs : List D} {i : Int} {Q : D → Prop} : Ok (idxD mh (.lst xs) (.int i)) Q ↔ ∃ d, L2.atI xs i = some d ∧ Q d := by
  rw [idxD]
  cases L2.atI xs i with
  | none => simp [Ok_er]
  | some d => simp [Ok_ok]
theorem Ok_idx_tup {mh : MH} {xs : List D} {i : Int} {Q : D → Prop} : Ok (idxD mh (.tup xs) (.int i)) Q ↔ ∃ d, L2.atI xs i = some d ∧ Q d := by
  rw [idxD]
  cases L2.atI xs i with
  | none => simp [Ok_er]
  | some d => simp [Ok_ok]
theorem Ok_idx_str {mh : MH} {xs : List Nat} {i : Int} {Q : D → Prop} : Ok (idxD mh (.str xs) (.int i)) Q ↔ xs.length ≤ sz ∧ ∃ c, L2.atI xs i = some c ∧ Q (.str [c]) := by
  rw [idxD, Ok_gd]
  cases L2.atI xs i with
  | none => simp [Ok_er]
  | some d => simp [Ok_ok]
theorem itemsC_lst {xs : List D} : itemsC (.lst xs) = .ok xs := rfl
theorem itemsC_tup {xs : List D} : itemsC (.tup xs) = .ok xs := rfl
theorem itemsD_lst {xs : List D} : itemsD (.lst xs) = .ok xs := rfl
theorem itemsD_tup {xs : List D} : itemsD (.tup xs) = .ok xs := rfl
theorem itemsD_str {xs : List Nat} : itemsD (.str xs) = .ok (xs.map fun c => .str [c]) := rfl
theorem Ok_rng1 {j : Int} {Q : List D → Prop} : Ok (rngD [.int j]) Q ↔ (-4611686018427387904 ≤ j ∧ j ≤ 16777216) ∧ Q ((List.range j.toNat).map fun (k : Nat) => .int (k : Int)) := by simp only [rngD, Ok_gd, Ok_ok]
theorem Ok_rng2 {i j : Int} {Q : List D → Prop} : Ok (rngD [.int i, .int j]) Q ↔ (-16777216 ≤ i ∧ i ≤ 16777216 ∧ -16777216 ≤ j ∧ j ≤ 16777216 ∧ j - i ≤ 16777216) ∧ Q ((List.range (j - i).toNat).map fun (k : Nat) => .int (i + (k : Int))) := by simp only [rngD, Ok_gd, Ok_ok]
theorem Ok_append {xs : List D} {d : D} {Q : D × List D → Prop} : Ok (mutD .append xs [d]) Q ↔ xs.length < sz ∧ Q (.non, xs ++ [d]) := by simp only [mutD, Ok_gd, Ok_ok]
theorem Ok_extendL {xs ys : List D} {Q : D × List D → Prop} : Ok (mutD .extend xs [.lst ys]) Q ↔ xs.length + ys.length ≤ sz ∧ Q (.non, xs ++ ys) := by simp only [mutD, Ok_gd, Ok_ok]
theorem Ok_extendT {xs ys : List D} {Q : D × List D → Prop} : Ok (mutD .extend xs [.tup ys]) Q ↔ xs.length + ys.length ≤ sz ∧ Q (.non, xs ++ ys) := by simp only [mutD, Ok_gd, Ok_ok]
theorem pop_snoc {xs : List D} {d : D} : mutD .pop (xs ++ [d]) [] = .ok (d, xs) := by
  simp [mutD]
theorem slc_tup {lo hi : Option Int} {xs : List D} : slcD lo hi (.tup xs) = .ok (.val (.tup (cutD xs lo hi))) := rfl
theorem slc_lst {lo hi : Option Int} {xs : List D} : slcD lo hi (.lst xs) = .ok (.own (.lst (cutD xs lo hi))) := rfl
theorem Ok_slc_str {lo hi : Option Int} {xs : List Nat} {Q : RV → Prop} : Ok (slcD lo hi (.str xs)) Q ↔ xs.length ≤ sz ∧ Q (.val (.str (cutD xs lo hi))) := by simp only [slcD, Ok_gd, Ok_ok]
theorem cutD_to {α : Type} {xs : List α} {n : Nat} : cutD xs none (some (n : Int)) = xs.take n := by
  have e : HT.sIx xs.length xs.length (some (n : Int)) = min n xs.length := by
    simp only [HT.sIx]
    rw [if_neg (by omega), Int.toNat_natCast]
  have e0 : HT.sIx xs.length 0 none = 0 := rfl
  rw [cutD, e, e0, List.drop_zero, Nat.sub_zero]
  rcases Nat.le_total n xs.length with h | h
  · rw [Nat.min_eq_left h]
  · rw [Nat.min_eq_right h, List.take_length, List.take_of_length_le h]
theorem cutD_from {α : Type} {xs : List α} {n : Nat} : cutD xs (some (n : Int)) none = xs.drop n := by
  have e : HT.sIx xs.length 0 (some (n : Int)) = min n xs.length := by
    simp only [HT.sIx]
    rw [if_neg (by omega), Int.toNat_natCast]
  have e0 : HT.sIx xs.length xs.length none = xs.length := rfl
  rw [cutD, e, e0]
  rcases Nat.le_total n xs.length with h | h
  · rw [Nat.min_eq_left h, List.take_of_length_le (by rw [List.length_drop]; omega)]
  · rw [Nat.min_eq_right h, List.drop_length, List.drop_of_length_le h]
    simp
theorem part_non : part .non = .ok none := rfl
theorem part_int {i : Int} : part (.int i) = .ok (some i) := rfl
theorem rev_lst {xs : List D} : revD (.lst xs) = .ok (.own (.lst xs.reverse)) := rfl
theorem still_val {d : D} {s s' : S} : still (.val d) s s' = true := rfl
theorem truth_bl {b : Bool} : truth (.bl b) = .ok b := rfl
theorem truth_lst {x : List D} : truth (.lst x) = .ok (!x.isEmpty) := rfl
theorem truth_tup {x : List D} : truth (.tup x) = .ok (!x.isEmpty) := rfl
theorem if_true' {α : Type} {a b : α} : (if (true : Bool) = true then a else b) = a := rfl

/-! typed data: how a kind of data is written -/
class En {α : Type} (e : α → D) where
  k : Kd
  has : ∀ a, k.has (e a) = true
  inj : ∀ a b, e a = e b → a = b
  dep : k.dep ≤ 20
instance : En D.int := ⟨.int, fun _ => rfl, fun a b h => by cases h; rfl, by decide⟩
instance : En D.str := ⟨.str, fun _ => rfl, fun a b h => by cases h; rfl, by decide⟩
instance : En D.bl := ⟨.bl, fun _ => rfl, fun a b h => by cases h; rfl, by decide⟩
section
variable {α β : Type} {e : α → D} [En e]
theorem en_ok (a b : α) : okEq (e a) (e b) = true := okEq_has (En.has a) (En.has b) En.dep
theorem en_okLt (a b : α) : okLt (e a) (e b) = true := okLt_has (En.has a) (En.has b) En.dep
theorem en_eq [DecidableEq α] (a b : α) : eqD (e a) (e b) = decide (a = b) := by
  rw [eqD_dec (En.has a) (En.has b), Bool.eq_iff_iff, decide_eq_true_iff, decide_eq_true_iff]
  exact ⟨En.inj a b, fun h => by rw [h]⟩
theorem En.cmp_eq [DecidableEq α] (a b : α) : cmpD .eq (e a) (e b) = .ok (decide (a = b)) := by
  simp only [cmpD, en_ok, if_true, en_eq]
theorem En.cmp_ne [DecidableEq α] (a b : α) : cmpD .ne (e a) (e b) = .ok (!decide (a = b)) := by
  simp only [cmpD, en_ok, if_true, en_eq]
/-- the order of typed data -/
def ltE (e : α → D) (a b : α) : Bool := ltD (e a) (e b)
theorem En.cmp_lt (a b : α) : cmpD .lt (e a) (e b) = .ok (ltE e a b) := by
  simp only [cmpD, en_okLt, if_true, ltE]
theorem En.mem [DecidableEq α] (a : α) (xs : List α) : memD (e a) (xs.map e) = decide (a ∈ xs) := by
  simp only [memD, List.any_map]
  rw [Bool.eq_iff_iff, List.any_eq_true, decide_eq_true_iff]
  constructor
  · rintro ⟨y, hy, q⟩
    simp only [Function.comp, en_eq, decide_eq_true_eq] at q
    rw [← q]; exact hy
  · intro h
    exact ⟨a, h, by simp only [Function.comp, en_eq, decide_true]⟩
theorem En.allOk (a : α) (xs : List α) : ((xs.map e).all fun y => okEq y (e a)) = true := by
  simp only [List.all_map, List.all_eq_true]
  exact fun y _ => en_ok y a
theorem En.in_lst [DecidableEq α] (a : α) (xs : List α) : cmpD .inn (e a) (.lst (xs.map e)) = .ok (decide (a ∈ xs)) := by
  simp only [cmpD, En.allOk, if_true, En.mem]
theorem En.in_tup [DecidableEq α] (a : α) (xs : List α) : cmpD .inn (e a) (.tup (xs.map e)) = .ok (decide (a ∈ xs)) := by
  simp only [cmpD, En.allOk, if_true, En.mem]
theorem En.nin_lst [DecidableEq α] (a : α) (xs : List α) : cmpD .nin (e a) (.lst (xs.map e)) = .ok (!decide (a ∈ xs)) := by
  simp only [cmpD, En.allOk, if_true, En.mem]
theorem En.nin_tup [DecidableEq α] (a : α) (xs : List α) : cmpD .nin (e a) (.tup (xs.map e)) = .ok (!decide (a ∈ xs)) := by
  simp only [cmpD, En.allOk, if_true, En.mem]
/-- sorted -/
def sortE (e : α → D) (xs : List α) : List α := xs.mergeSort fun a b => !ltE e b a
theorem leE_trans (a b c : α) (h : (!ltE e b a) = true) (h' : (!ltE e c b) = true) : (!ltE e c a) = true := by
  simp only [Bool.not_eq_true', ltE] at h h' ⊢
  exact ltD_le_trans h h'
theorem leE_total (a b : α) : ((!ltE e b a) || (!ltE e a b)) = true := by
  simp only [Bool.or_eq_true, Bool.not_eq_true', ltE]
  cases hl : ltD (e b) (e a) with
  | false => exact .inl rfl
  | true => exact .inr (ltD_asymm hl)
theorem sortE_perm (xs : List α) : (sortE e xs).Perm xs := List.mergeSort_perm xs _
theorem sortE_sorted (xs : List α) : (sortE e xs).Pairwise fun a b => ltE e b a = false := by
  have t := List.pairwise_mergeSort (le := fun a b => !ltE e b a) leE_trans leE_total xs
  exact t.imp fun h => by simpa only [Bool.not_eq_true'] using h
theorem mem_sortE {xs : List α} {x : α} : x ∈ sortE e xs ↔ x ∈ xs := (sortE_perm xs).mem_iff
theorem sortE_len (xs : List α) : (sortE e xs).length = xs.length := (sortE_perm xs).length_eq
theorem ltE_total {a b : α} (h : ltE e a b = false) (h' : ltE e b a = false) : a = b := En.inj _ _ (ltD_total (En.has (e := e) a) (En.has b) h h')
theorem sortedE_eq {xs ys : List α} (p : xs.Perm ys) (hx : xs.Pairwise fun a b => ltE e b a = false) (hy : ys.Pairwise fun a b => ltE e b a = false) : xs = ys :=
  p.eq_of_pairwise (le := fun a b => ltE e b a = false) (fun a b _ _ l l' => ltE_total (e := e) l' l) hx hy
theorem sortE_congr {xs ys : List α} (p : xs.Perm ys) : sortE e xs = sortE e ys :=
  sortedE_eq (e := e) ((sortE_perm xs).trans (p.trans (sortE_perm ys).symm)) (sortE_sorted xs) (sortE_sorted ys)
theorem sortE_self {xs : List α} (h : xs.Pairwise fun a b => ltE e b a = false) : sortE e xs = xs :=
  sortedE_eq (e := e) (sortE_perm xs) (sortE_sorted xs) h
theorem sortD_map (xs : List α) : sortD (xs.map e) = (sortE e xs).map e := by
  refine sorted_eq (k := En.k e) (fun x hx => ?_) ((sortX_perm _).trans ((sortE_perm xs).map e).symm) (sortD_sorted _) ?_
  · obtain ⟨a, _, rfl⟩ := List.mem_map.mp (mem_sortD.mp hx)
    exact En.has a
  · exact List.pairwise_map.mpr (sortE_sorted xs)
theorem En.okSort (xs : List α) : okSort (xs.map e) = true := okSort_has (k := En.k e) (fun x hx => by
  obtain ⟨a, _, rfl⟩ := List.mem_map.mp hx
  exact En.has a) En.dep
end
/-- no tuple, or all tuples with something in it -/
class EnS {α : Type} (e : α → D) : Prop where
  ok : (∀ a, tupNe (e a) = true) ∨ ∀ a, notTup (e a) = true
instance : EnS D.int := ⟨.inr fun _ => rfl⟩
instance : EnS D.str := ⟨.inr fun _ => rfl⟩
section
variable {α : Type} {e : α → D} [En e] [EnS e]
theorem sortOk (xs : List α) : (okSort (xs.map e) && ((xs.map e).all tupNe || (xs.map e).all notTup)) = true := by
  rw [En.okSort, Bool.true_and, Bool.or_eq_true, List.all_map, List.all_map]
  rcases EnS.ok (e := e) with h | h
  · exact .inl (List.all_eq_true.mpr fun a _ => h a)
  · exact .inr (List.all_eq_true.mpr fun a _ => h a)
theorem sorted_lst {mh : MH} (xs : List α) : bltM mh .sorted (.lst (xs.map e)) = .ok (.own (.lst ((sortE e xs).map e))) := by
  simp only [bltM, bltD, sortOk, if_true, sortD_map]
theorem sorted_tup {mh : MH} (xs : List α) : bltM mh .sorted (.tup (xs.map e)) = .ok (.own (.lst ((sortE e xs).map e))) := by
  simp only [bltM, bltD, sortOk, if_true, sortD_map]
end
theorem eq_int {i j : Int} : cmpD .eq (.int i) (.int j) = .ok (decide (i = j)) := En.cmp_eq i j
theorem ne_int {i j : Int} : cmpD .ne (.int i) (.int j) = .ok (!decide (i = j)) := En.cmp_ne i j
theorem eq_str {i j : List Nat} : cmpD .eq (.str i) (.str j) = .ok (decide (i = j)) := En.cmp_eq i j
theorem ne_str {i j : List Nat} : cmpD .ne (.str i) (.str j) = .ok (!decide (i = j)) := En.cmp_ne i j
theorem ltD_int {i j : Int} : ltD (.int i) (.int j) = decide (i < j) := by
  simp [ltD, toPy, PySem.W.dataLt_int]
theorem lt_int {i j : Int} : cmpD .lt (.int i) (.int j) = .ok (decide (i < j)) := by
  simp only [cmpD, en_okLt (e := D.int), if_true, ltD_int]
theorem gt_int {i j : Int} : cmpD .gt (.int i) (.int j) = .ok (decide (j < i)) := by
  simp only [cmpD, en_okLt (e := D.int), if_true, ltD_int]
theorem le_int {i j : Int} : cmpD .le (.int i) (.int j) = .ok (!decide (j < i)) := by
  simp only [cmpD, en_okLt (e := D.int), if_true, ltD_int]
theorem ge_int {i j : Int} : cmpD .ge (.int i) (.int j) = .ok (!decide (i < j)) := by
  simp only [cmpD, en_okLt (e := D.int), if_true, ltD_int]
theorem ofOk {α : Type} {r : Except Er α} {a : α} (h : Ok r fun x => x = a) : r = .ok a := by
  obtain ⟨b, e, rfl⟩ := h
  exact e
theorem map_fm {α β : Type} {em : β → D} {g : α → Option β} (ys : List α) : ys.filterMap (fun x => (g x).map em) = (ys.filterMap g).map em := by
  rw [List.map_filterMap]
theorem lc_fm {α β : Type} {f : D → S → Rs (Option D)} {en : α → D} {em : β → D} {ys : List α} {s : S} {Q : List D × S → Prop} (g : α → Option β)
    (hs : ∀ x, x ∈ ys → Ok (f (en x) s) fun p => p = ((g x).map em, s)) (he : Q ((ys.filterMap g).map em, s)) : Ok (lcLoop f (ys.map en) [] s) Q :=
  lc_pure (fun x => (g x).map em) hs (by rw [List.nil_append, map_fm]; exact he)
theorem lc_mp {α β : Type} {f : D → S → Rs (Option D)} {en : α → D} {em : β → D} {ys : List α} {s : S} {Q : List D × S → Prop} (g : α → β)
    (hs : ∀ x, x ∈ ys → Ok (f (en x) s) fun p => p = (some (em (g x)), s)) (he : Q ((ys.map g).map em, s)) : Ok (lcLoop f (ys.map en) [] s) Q :=
  lc_pure (fun x => some (em (g x))) hs (by
    rw [List.nil_append]
    have e : ys.filterMap (fun x => some (em (g x))) = (ys.map g).map em := by rw [List.filterMap_eq_map', List.map_map]; rfl
    rw [e]; exact he)
theorem lc_fl {α : Type} {f : D → S → Rs (Option D)} {en : α → D} {ys : List α} {s : S} {Q : List D × S → Prop} (t : α → Bool)
    (hs : ∀ x, x ∈ ys → Ok (f (en x) s) fun p => p = (if t x = true then some (en x) else none, s)) (he : Q ((ys.filter t).map en, s)) : Ok (lcLoop f (ys.map en) [] s) Q :=
  lc_pure (fun x => if t x = true then some (en x) else none) hs (by
    rw [List.nil_append]
    have e : ys.filterMap (fun x => if t x = true then some (en x) else none) = (ys.filter t).map en := by
      clear he hs
      induction ys with
      | nil => rfl
      | cons y ys ih =>
        rw [List.filterMap_cons, List.filter_cons, ih]
        cases t y <;> rfl
    rw [e]; exact he)
theorem atI0 {α : Type} {a : α} {xs : List α} : L2.atI (a :: xs) 0 = some a := by rw [atI_nat (by decide)]; rfl
theorem atI1 {α : Type} {a b : α} {xs : List α} : L2.atI (a :: b :: xs) 1 = some b := by rw [atI_nat (by decide)]; rfl
theorem atI2 {α : Type} {a b c : α} {xs : List α} : L2.atI (a :: b :: c :: xs) 2 = some c := by rw [atI_nat (by decide)]; rfl
theorem atI3 {α : Type} {a b c d : α} {xs : List α} : L2.atI (a :: b :: c :: d :: xs) 3 = some d := by rw [atI_nat (by decide)]; rfl
/-- set(texts): each once -/
def ddE : List (List Nat) → List (List Nat)
  | [] => []
  | x :: xs => if x ∈ xs then ddE xs else x :: ddE xs
theorem mem_ddE : ∀ {xs : List (List Nat)} {x : List Nat}, x ∈ ddE xs ↔ x ∈ xs
  | [], x => by simp [ddE]
  | y :: ys, x => by
    rw [ddE]
    split
    · rename_i h
      rw [mem_ddE, List.mem_cons]
      exact ⟨.inr, fun h' => h'.elim (fun e => by rw [e]; exact h) id⟩
    · rw [List.mem_cons, List.mem_cons, mem_ddE]
theorem nodup_ddE : ∀ {xs : List (List Nat)}, (ddE xs).Nodup
  | [] => by simp [ddE]
  | y :: ys => by
    rw [ddE]
    split
    · exact nodup_ddE
    · rename_i h
      exact List.nodup_cons.mpr ⟨fun h' => h (mem_ddE.mp h'), nodup_ddE⟩
theorem len_ddE : ∀ {xs : List (List Nat)}, (ddE xs).length ≤ xs.length
  | [] => Nat.le_refl _
  | y :: ys => by
    rw [ddE]
    split
    · exact Nat.le_succ_of_le len_ddE
    · exact Nat.succ_le_succ len_ddE
theorem dedup_map : ∀ xs : List (List Nat), dedup (xs.map D.str) = (ddE xs).map D.str
  | [] => rfl
  | x :: xs => by
    rw [List.map_cons, dedup, ddE, En.mem, dedup_map xs]
    by_cases h : x ∈ xs <;> simp [h]
/-- sorted(set(texts)) -/
def setE (xs : List (List Nat)) : List (List Nat) := sortE D.str (ddE xs)
theorem mem_setE {xs : List (List Nat)} {x : List Nat} : x ∈ setE xs ↔ x ∈ xs := mem_sortE.trans mem_ddE
theorem nodup_setE {xs : List (List Nat)} : (setE xs).Nodup := (sortE_perm _).nodup_iff.mpr nodup_ddE
theorem sorted_setE {xs : List (List Nat)} : (setE xs).Pairwise fun a b => ltE D.str b a = false := sortE_sorted _
theorem len_setE {xs : List (List Nat)} : (setE xs).length ≤ xs.length := by
  rw [setE, sortE_len]; exact len_ddE
/-- two nodup lists with the same members, sorted -/
theorem sort_same {α : Type} {e : α → D} [En e] {xs ys : List α} (hx : xs.Nodup) (hy : ys.Nodup) (h : ∀ a, a ∈ xs ↔ a ∈ ys) : sortE e xs = sortE e ys :=
  sortE_congr ((List.perm_ext_iff_of_nodup hx hy).mpr h)
theorem setE_congr {xs ys : List (List Nat)} (h : ∀ a, a ∈ xs ↔ a ∈ ys) : setE xs = setE ys :=
  sort_same nodup_ddE nodup_ddE fun a => by rw [mem_ddE, mem_ddE, h]
theorem allStr_map (xs : List (List Nat)) : allStr (xs.map D.str) = true := by
  simp only [allStr, List.all_map, List.all_eq_true]
  exact fun _ _ => rfl
theorem Ok_sortset {mh : MH} {xs : List (List Nat)} {Q : RV → Prop} : Ok (bltM mh .sortset (.lst (xs.map D.str))) Q ↔ xs.length < 4000 ∧ Q (.own (.lst ((setE xs).map D.str))) := by
  simp only [bltM, bltD, allStr_map, Bool.true_and, Ok_gd, Ok_ok, List.length_map, decide_eq_true_eq, dedup_map, sortD_map, setE]
/-! dicts of typed keys and values -/
class Ky {α : Type} (e : α → D) : Prop where
  eq : ∀ a b, (keyEq (e a) (e b) = true ↔ a = b)
  fit : (∀ a, isAtom (e a) = true) ∨ ∀ a, isAtom (e a) = false ∧ isKeyT (e a) = true
instance : Ky D.int := ⟨fun a b => by simp [keyEq, atomEq], .inl fun _ => rfl⟩
instance : Ky D.str := ⟨fun a b => by simp [keyEq, atomEq], .inl fun _ => rfl⟩
section
variable {α β : Type} [DecidableEq α] {e : α → D} {v : β → D} [Ky e]
abbrev eK (e : α → D) (v : β → D) (l : List (α × β)) : List (D × D) := l.map fun q => (e q.1, v q.2)
abbrev eD (e : α → D) (v : β → D) (l : List (α × β)) : D := .dct (eK e v l)
def lk (k : α) : List (α × β) → Option β
  | [] => none
  | q :: l => if q.1 = k then some q.2 else lk k l
def pt (k : α) (x : β) (l : List (α × β)) : List (α × β) := if k ∈ l.map (·.1) then l.map fun q => if q.1 = k then (q.1, x) else q else l ++ [(k, x)]
theorem ky_eq (a b : α) : keyEq (e a) (e b) = decide (a = b) := by
  rw [Bool.eq_iff_iff, Ky.eq, decide_eq_true_iff]
theorem lookD_eK (k : α) : ∀ l : List (α × β), lookD (e k) (eK e v l) = (lk k l).map v
  | [] => rfl
  | q :: l => by
    show (if keyEq (e q.1) (e k) = true then some (v q.2) else lookD (e k) (eK e v l)) = _
    rw [lookD_eK k l, ky_eq, lk]
    by_cases h : q.1 = k <;> simp [h]
theorem fits_eK (k : α) (l : List (α × β)) : fitsKey (e k) (eK e v l) = true := by
  unfold fitsKey
  rcases Ky.fit (e := e) with h | h
  · rw [if_pos (h k), List.all_map, List.all_eq_true]
    exact fun q _ => h q.1
  · rw [if_neg (by rw [(h k).1]; exact Bool.false_ne_true), (h k).2, Bool.true_and, List.all_map, List.all_eq_true]
    exact fun q _ => (h q.1).2
theorem putD_eK (k : α) (x : β) (l : List (α × β)) : putD (e k) (v x) (eK e v l) = eK e v (pt k x l) := by
  have e1 : ((eK e v l).any fun p => keyEq p.1 (e k)) = decide (k ∈ l.map (·.1)) := by
    rw [Bool.eq_iff_iff, List.any_eq_true, decide_eq_true_iff]
    constructor
    · rintro ⟨p, hp, hq⟩
      obtain ⟨q, hq2, rfl⟩ := List.mem_map.mp hp
      have hq : keyEq (e q.1) (e k) = true := hq
      rw [ky_eq, decide_eq_true_iff] at hq
      exact List.mem_map.mpr ⟨q, hq2, hq⟩
    · intro h
      obtain ⟨q, hq, rfl⟩ := List.mem_map.mp h
      exact ⟨_, List.mem_map.mpr ⟨q, hq, rfl⟩, by show keyEq (e q.1) (e q.1) = true; rw [ky_eq]; exact decide_eq_true rfl⟩
  unfold putD pt
  rw [e1]
  by_cases h : k ∈ l.map (·.1)
  · rw [if_pos h, decide_eq_true h, if_pos rfl, eK, List.map_map, eK, List.map_map]
    refine List.map_congr_left fun q _ => ?_
    simp only [Function.comp, ky_eq, decide_eq_true_eq]
    split <;> rfl
  · rw [if_neg h, decide_eq_false h, if_neg Bool.false_ne_true, eK, eK, List.map_append]
    rfl
theorem lk_pt (j k : α) (x : β) (l : List (α × β)) : lk j (pt k x l) = if k = j then some x else lk j l := by
  have h1 : ∀ l : List (α × β), k ∈ l.map (·.1) → lk j (l.map fun q => if q.1 = k then (q.1, x) else q) = if k = j then some x else lk j l := by
    intro l
    induction l with
    | nil => intro h; cases h
    | cons q l ih =>
      intro h
      rw [List.map_cons, lk, lk]
      by_cases hq : q.1 = k
      · by_cases hj : k = j
        · simp [hq, hj]
        · have hqj : ¬ q.1 = j := fun z => hj (hq.symm.trans z)
          simp only [hq, if_true, hj, if_false]
          by_cases hm : k ∈ l.map (·.1)
          · rw [ih hm, if_neg hj]
          · have : (l.map fun q => if q.1 = k then (k, x) else q) = l := by
              conv => rhs; rw [← List.map_id l]
              refine List.map_congr_left fun p hp => ?_
              rw [if_neg (fun z => hm (List.mem_map.mpr ⟨p, hp, z⟩))]; rfl
            have e2 : (l.map fun q => if q.1 = k then (q.1, x) else q) = l := by
              conv => rhs; rw [← List.map_id l]
              refine List.map_congr_left fun p hp => ?_
              rw [if_neg (fun z => hm (List.mem_map.mpr ⟨p, hp, z⟩))]; rfl
            rw [e2]
      · have hm : k ∈ l.map (·.1) := by
          rcases List.mem_cons.mp (show k ∈ q.1 :: l.map (·.1) from h) with z | z
          · exact absurd z.symm hq
          · exact z
        simp only [hq, if_false]
        by_cases hj : q.1 = j
        · have : ¬ k = j := fun z => hq (hj.trans z.symm)
          simp [hj, this]
        · simp only [hj, if_false]
          exact ih hm
  have h2 : ∀ l : List (α × β), k ∉ l.map (·.1) → lk j (l ++ [(k, x)]) = if k = j then some x else lk j l := by
    intro l
    induction l with
    | nil => intro _; simp [lk]
    | cons q l ih =>
      intro h
      have h3 : k ∉ l.map (·.1) := fun z => h (List.mem_cons_of_mem _ z)
      have h4 : ¬ q.1 = k := fun z => h (by rw [← z]; exact List.mem_cons_self)
      rw [List.cons_append, lk, lk, ih h3]
      by_cases hj : q.1 = j
      · have : ¬ k = j := fun z => h4 (hj.trans z.symm)
        simp [hj, this]
      · simp [hj]
  unfold pt
  by_cases h : k ∈ l.map (·.1)
  · rw [if_pos h]; exact h1 l h
  · rw [if_neg h]; exact h2 l h
theorem pt_keys (k : α) (x : β) (l : List (α × β)) : (pt k x l).map (·.1) = if k ∈ l.map (·.1) then l.map (·.1) else l.map (·.1) ++ [k] := by
  unfold pt
  by_cases h : k ∈ l.map (·.1)
  · rw [if_pos h, if_pos h, List.map_map]
    refine List.map_congr_left fun q _ => ?_
    simp only [Function.comp]
    split <;> rfl
  · rw [if_neg h, if_neg h, List.map_append]; rfl
theorem pt_len (k : α) (x : β) (l : List (α × β)) : (pt k x l).length ≤ l.length + 1 := by
  unfold pt
  split
  · rw [List.length_map]; omega
  · rw [List.length_append]; exact Nat.le_refl _
theorem lk_some {k : α} {x : β} : ∀ {l : List (α × β)}, lk k l = some x → (k, x) ∈ l
  | [], h => by cases h
  | q :: l, h => by
    rw [lk] at h
    split at h
    · rename_i hq
      cases h
      rw [← hq]
      exact List.mem_cons_self
    · exact List.mem_cons_of_mem _ (lk_some h)
theorem lk_isSome {k : α} : ∀ {l : List (α × β)}, (lk k l).isSome = decide (k ∈ l.map (·.1))
  | [] => rfl
  | q :: l => by
    rw [lk, List.map_cons]
    by_cases h : q.1 = k
    · simp [h]
    · rw [if_neg h, lk_isSome]
      have : ¬ k = q.1 := fun z => h z.symm
      simp [this]
theorem Ok_idx_dct {mh : MH} {k : α} {l : List (α × β)} {Q : D → Prop} : Ok (idxD mh (.dct (eK e v l)) (e k)) Q ↔ ∃ x, lk k l = some x ∧ Q (v x) := by
  have q : idxD mh (.dct (eK e v l)) (e k) = if fitsKey (e k) (eK e v l) then (match lookD (e k) (eK e v l) with
    | some d => .ok d
    | none => bad 26) else bad 27 := by
    unfold idxD
    rfl
  rw [q, fits_eK, if_pos rfl, lookD_eK]
  cases lk k l <;> simp [Ok_ok, Ok_er]
theorem in_dct {k : α} {l : List (α × β)} : cmpD .inn (e k) (.dct (eK e v l)) = .ok (decide (k ∈ l.map (·.1))) := by
  simp only [cmpD, fits_eK, if_true, lookD_eK, Option.isSome_map, lk_isSome]
theorem nin_dct {k : α} {l : List (α × β)} : cmpD .nin (e k) (.dct (eK e v l)) = .ok (!decide (k ∈ l.map (·.1))) := by
  simp only [cmpD, fits_eK, if_true, lookD_eK, Option.isSome_map, lk_isSome]
/-- d[k] = v, by what the name has -/
def sbS (i : Nat) (ρ : List Sl) (mh : MH) (d dk : D) : Sl → Except Er S
  | .own (.dct kvs) => if (fitsKey dk kvs && decide (kvs.length < sz)) = true then .ok ⟨ρ.set i (.own (.dct (putD dk d kvs))), mh⟩ else bad 92
  | .val (.ref n) => (match mh[n]? with
    | some (.dct kvs) => if (isAtom dk && decide (kvs.length < sz)) = true then .ok ⟨ρ, mh.set n (.dct (putD dk d kvs))⟩ else bad 93
    | _ => bad 94)
  | _ => bad 95
theorem subW_mk {i : Nat} {ρ : List Sl} {mh : MH} {d dk : D} : subW i d dk ⟨ρ, mh⟩ = sbS i ρ mh d dk (ρ.getD i .un) := by
  rw [subW, slotAt_mk]
  rcases ρ.getD i .un with _ | d' | d' | d' <;> try rfl
  all_goals cases d' <;> rfl
theorem Ok_sbS {i : Nat} {ρ : List Sl} {mh : MH} {k : α} {x : β} {l : List (α × β)} {Q : S → Prop} : Ok (sbS i ρ mh (v x) (e k) (.own (.dct (eK e v l)))) Q ↔ l.length < sz ∧ Q ⟨ρ.set i (.own (.dct (eK e v (pt k x l)))), mh⟩ := by
  simp only [sbS, fits_eK, Bool.true_and, decide_eq_true_eq, List.length_map, Ok_gd, Ok_ok, putD_eK]
end
theorem noBor_bor {i : Nat} : noBor (.bor i) = false := rfl
theorem lc_mpA {α β : Type} {f : D → S → Rs (Option D)} {en : α → D} {em : β → D} {ys : List α} {zs : List β} {s : S} {Q : List D × S → Prop} (g : α → β)
    (hs : ∀ x, x ∈ ys → Ok (f (en x) s) fun p => p = (some (em (g x)), s)) (he : Q ((zs ++ ys.map g).map em, s)) : Ok (lcLoop f (ys.map en) (zs.map em) s) Q :=
  lc_pure (fun x => some (em (g x))) hs (by
    have e : zs.map em ++ ys.filterMap (fun x => some (em (g x))) = (zs ++ ys.map g).map em := by rw [List.filterMap_eq_map', List.map_append, List.map_map]; rfl
    rw [e]; exact he)
/-- tuples of one kind -/
theorem map_inj {α : Type} {e : α → D} (h : ∀ a b, e a = e b → a = b) : ∀ {xs ys : List α}, xs.map e = ys.map e → xs = ys
  | [], [], _ => rfl
  | [], _ :: _, q => by cases q
  | _ :: _, [], q => by cases q
  | x :: xs, y :: ys, q => by
    rw [List.map_cons, List.map_cons, List.cons.injEq] at q
    rw [h _ _ q.1, map_inj h q.2]
/-- shallow -/
class EnD {α : Type} (e : α → D) [En e] : Prop where
  dp : (En.k e).dep ≤ 19
instance : EnD D.int := ⟨by decide⟩
instance : EnD D.str := ⟨by decide⟩
instance enInts {α : Type} {e : α → D} [En e] [EnD e] : En (fun l : List α => D.tup (l.map e)) :=
  ⟨.all (En.k e), fun l => by simp only [Kd.has, List.all_map, List.all_eq_true]; exact fun a _ => En.has a, fun a b h => map_inj (En.inj (e := e)) (by injection h), by simp only [Kd.dep]; have := EnD.dp (e := e); omega⟩
theorem isE_map {α β : Type} {f : α → β} {l : List α} : (l.map f).isEmpty = l.isEmpty := by cases l <;> rfl
theorem isE_snoc {α : Type} {l : List α} {a : α} : (l ++ [a]).isEmpty = false := by cases l <;> rfl
theorem eqD_lst (xs ys : List D) : eqD (.lst xs) (.lst ys) = eqD (.tup xs) (.tup ys) := by
  simp only [eqD, toPy, PyData.eqv]
theorem okEq_lst (xs ys : List D) : okEq (.lst xs) (.lst ys) = okEq (.tup xs) (.tup ys) := by
  simp only [okEq, alikeD, toPy, PySem.W.alike, okN]
section
variable {α : Type} {e : α → D} [En e] [EnD e] [DecidableEq α]
theorem ne_lsts (a b : List α) : cmpD .ne (.lst (a.map e)) (.lst (b.map e)) = .ok (!decide (a = b)) := by
  have h := En.cmp_ne (e := fun l : List α => D.tup (l.map e)) a b
  simp only [cmpD, okEq_lst, eqD_lst] at h ⊢
  exact h
theorem eq_tups (a b : List α) : cmpD .eq (.tup (a.map e)) (.tup (b.map e)) = .ok (decide (a = b)) := En.cmp_eq (e := fun l : List α => D.tup (l.map e)) a b
theorem ne_tups (a b : List α) : cmpD .ne (.tup (a.map e)) (.tup (b.map e)) = .ok (!decide (a = b)) := En.cmp_ne (e := fun l : List α => D.tup (l.map e)) a b
end

end Sk

end

section
set_option Elab.async false
set_option linter.all false
set_option maxRecDepth 100000
namespace Sk
abbrev i_named_in : Nat := 0
abbrev i_needs_of : Nat := 1
abbrev i_sum_of : Nat := 2
abbrev i_spot_text : Nat := 3
abbrev i_write_patch : Nat := 4
abbrev i_patch_stamp : Nat := 5
abbrev i_stamps_of : Nat := 6
abbrev i_fold_row : Nat := 7
abbrev i_own_stamp : Nat := 8
abbrev i_begun_by : Nat := 9
abbrev i_branch_signs : Nat := 10
abbrev i_node_row : Nat := 11
abbrev i_node_digest : Nat := 12
abbrev i_stale_prefixes : Nat := 13
abbrev i_ranked_prefixes : Nat := 14
abbrev i_branch_pairs : Nat := 15
abbrev i_digest_tree : Nat := 16
abbrev i_digest_under : Nat := 17
abbrev i_differing_signs : Nat := 18
abbrev i_stamp_search : Nat := 19
abbrev i_reach_of : Nat := 20
abbrev i_cut_to : Nat := 21
abbrev i_together : Nat := 22
abbrev i__law_cell : Nat := 23
abbrev i__law_draws : Nat := 24
abbrev i__law_is_integer : Nat := 25
abbrev i__law_is : Nat := 26
abbrev i__law_take : Nat := 27
abbrev i__law_made_line : Nat := 28
abbrev i__law_made_text : Nat := 29
abbrev i__law_bent_lines : Nat := 30
abbrev i__law_keeping : Nat := 31
abbrev i__law_order : Nat := 32
abbrev i__law_alive : Nat := 33
abbrev i__law_line : Nat := 34
abbrev i__law_odds : Nat := 35
abbrev i__law_row : Nat := 36
abbrev i__law_text_of : Nat := 37
abbrev i__law_recorded : Nat := 38
abbrev i__law_needs : Nat := 39
abbrev i__law_reach : Nat := 40
abbrev i__law_some : Nat := 41
abbrev i__law_menu_store : Nat := 42
abbrev i__law_cut : Nat := 43
abbrev i__law_sum : Nat := 44
abbrev i__law_spot : Nat := 45
abbrev i__law_patch_rows : Nat := 46
abbrev i__law_stamp : Nat := 47
abbrev i__law_stamps : Nat := 48
abbrev i__law_fold : Nat := 49
abbrev i__law_own : Nat := 50
abbrev i__law_signs : Nat := 51
abbrev i__law_node : Nat := 52
abbrev i__law_node_sum : Nat := 53
abbrev i__law_begins : Nat := 54
abbrev i__law_tree : Nat := 55
abbrev i__law_made_stamps : Nat := 56
abbrev i__law_search : Nat := 57
abbrev i__law_begun : Nat := 58
abbrev i__law_differing : Nat := 59
abbrev i__law_search_due : Nat := 60
abbrev i__law_bent_stamps : Nat := 61
abbrev i_law : Nat := 62
def d_named_in : Df := ⟨1, 5, [.asg (.nm 1) (.blt .list (.idx (.var 0) (.lit (.int 2)))), .for_ (.tp [2, 2, 3, 4]) (.idx (.var 0) (.lit (.int 1))) [.ex (.mut .extend 1 [(.bin .add (.var 3) (.var 4))])], .ret (.var 1)], []⟩
def d_needs_of : Df := ⟨1, 2, [.ret (.blt .tuple (.blt .sortset (.lc [1] (.nm 1) (.call i_named_in [(.var 0)]) [(.cmp .nin (.idx (.var 1) (.lit (.int 0))) (.tup [(.lit (.str [])), (.idx (.var 0) (.lit (.int 0)))]))] (.idx (.var 1) (.lit (.int 0))))))], []⟩
def d_sum_of : Df := ⟨1, 3, [.asg (.nm 1) (.lit (.int 1)), .for_ (.nm 2) (.var 0) [.asg (.nm 1) (.bin .md (.bin .add (.bin .mul (.var 1) (.lit (.int 263))) (.blt .ord (.var 2))) (.lit (.int 65521)))], .ret (.var 1)], []⟩
def d_spot_text : Df := ⟨1, 1, [.ife (.cmp .inn (.var 0) (.lit (.tup [(.tup [(.str []), (.int 0)]), (.tup [(.str []), (.int 1)])]))) [.ret (.ife (.cmp .eq (.var 0) (.lit (.tup [(.str []), (.int 0)]))) (.lit (.str [116, 111, 112])) (.lit (.str [98, 111, 116, 116, 111, 109])))] [], .ret (.bin .add (.bin .add (.idx (.var 0) (.lit (.int 0))) (.lit (.str [46]))) (.blt .str (.idx (.var 0) (.lit (.int 1)))))], []⟩
def d_write_patch : Df := ⟨1, 14, [.asg (.tp [3, 4, 5]) (.var 0), .asg (.nm 1) (.lst [(.bin .add (.lit (.str [112, 97, 116, 99, 104, 32])) (.var 3))]), .for_ (.tp [6, 7, 8, 9]) (.var 4) [.asg (.nm 10) (.lc [11] (.nm 11) (.tup [(.var 8), (.var 9)]) [] (.meth .join (.lit (.str [32])) [(.lc [12] (.nm 12) (.var 11) [] (.call i_spot_text [(.var 12)]))])), .ex (.mut .append 1 [(.bin .add (.bin .add (.bin .add (.bin .add (.bin .add (.lit (.str [97, 100, 100, 32])) (.idx (.var 10) (.lit (.int 0)))) (.lit (.str [32, 60, 32]))) (.idx (.var 10) (.lit (.int 1)))) (.lit (.str [32, 58, 32]))) (.var 7))])], .ex (.mut .extend 1 [(.lc [12] (.nm 12) (.var 5) [] (.bin .add (.lit (.str [98, 97, 114, 32])) (.call i_spot_text [(.var 12)])))]), .asg (.nm 2) (.meth .join (.lit (.str [])) [(.lc [13] (.nm 13) (.var 1) [] (.bin .add (.var 13) (.lit (.str [10]))))]), .ret (.bin .add (.bin .add (.bin .add (.var 2) (.lit (.str [101, 110, 100, 32]))) (.blt .str (.call i_sum_of [(.var 2)]))) (.lit (.str [10])))], []⟩
def d_patch_stamp : Df := ⟨1, 1, [.ret (.blt .int (.slc (.idx (.meth .split (.call i_write_patch [(.var 0)]) [(.lit (.str [10]))]) (.lit (.int (-2)))) (.lit (.int 4)) (.lit .non)))], []⟩
def d_stamps_of : Df := ⟨1, 2, [.ret (.blt .tuple (.lc [1] (.nm 1) (.var 0) [] (.tup [(.idx (.var 1) (.lit (.int 0))), (.call i_patch_stamp [(.var 1)])])))], []⟩
def d_fold_row : Df := ⟨1, 3, [.asg (.nm 1) (.lit (.int 1)), .for_ (.nm 2) (.var 0) [.asg (.nm 1) (.bin .md (.bin .add (.bin .mul (.var 1) (.lit (.int 263))) (.var 2)) (.lit (.int 65521)))], .ret (.var 1)], []⟩
def d_own_stamp : Df := ⟨2, 4, [.ret (.blt .tuple (.lc [2, 3] (.tp [2, 3]) (.var 0) [(.cmp .eq (.var 2) (.var 1))] (.var 3)))], []⟩
def d_begun_by : Df := ⟨2, 4, [.asg (.nm 2) (.blt .len (.var 1)), .ret (.blt .tuple (.lc [3] (.nm 3) (.var 0) [(.cmp .eq (.slc (.idx (.var 3) (.lit (.int 0))) (.lit .non) (.var 2)) (.var 1))] (.var 3)))], []⟩
def d_branch_signs : Df := ⟨2, 5, [.asg (.nm 2) (.blt .len (.var 1)), .ret (.blt .tuple (.blt .sortset (.lc [3, 4] (.tp [3, 4]) (.call i_begun_by [(.var 0), (.var 1)]) [(.cmp .gt (.blt .len (.var 3)) (.var 2))] (.idx (.var 3) (.var 2)))))], []⟩
def d_node_row : Df := ⟨1, 6, [.asg (.tp [2, 3]) (.var 0), .asg (.nm 1) (.bin .add (.lst [(.blt .len (.var 2))]) (.blt .list (.var 2))), .for_ (.tp [4, 5]) (.var 3) [.ex (.mut .extend 1 [(.lst [(.blt .ord (.var 4)), (.var 5)])])], .ret (.blt .tuple (.var 1))], []⟩
def d_node_digest : Df := ⟨1, 1, [.ret (.call i_fold_row [(.call i_node_row [(.var 0)])])], []⟩
def d_stale_prefixes : Df := ⟨1, 3, [.ret (.blt .tuple (.blt .sortset (.bin .add (.lst [(.lit (.str []))]) (.lc2 [1, 2] [2] (.nm 1) (.var 0) [] (.nm 2) (.rng [(.bin .add (.blt .len (.var 1)) (.lit (.int 1)))]) [] (.slc (.var 1) (.lit .non) (.var 2))))))], []⟩
def d_ranked_prefixes : Df := ⟨1, 4, [.asg (.nm 1) (.blt .sorted (.lc [2] (.nm 2) (.call i_stale_prefixes [(.var 0)]) [] (.tup [(.bin .sub (.lit (.int 0)) (.blt .len (.var 2))), (.var 2)]))), .ret (.lc [3, 2] (.tp [3, 2]) (.var 1) [] (.var 2))], []⟩
def d_branch_pairs : Df := ⟨3, 4, [.ret (.blt .tuple (.lc [3] (.nm 3) (.call i_branch_signs [(.var 0), (.var 2)]) [] (.tup [(.var 3), (.idx (.var 1) (.bin .add (.var 2) (.var 3)))])))], []⟩
def d_digest_tree : Df := ⟨1, 5, [.asg (.nm 1) .dnew, .for_ (.nm 2) (.call i_ranked_prefixes [(.lc [3, 4] (.tp [3, 4]) (.var 0) [] (.var 3))]) [.sub 1 (.var 2) (.call i_node_digest [(.tup [(.call i_own_stamp [(.var 0), (.var 2)]), (.call i_branch_pairs [(.var 0), (.var 1), (.var 2)])])])], .ret (.blt .tuple (.lc [2] (.nm 2) (.blt .sorted (.var 1)) [] (.tup [(.var 2), (.idx (.var 1) (.var 2))])))], []⟩
def d_digest_under : Df := ⟨2, 6, [.asg (.nm 2) (.call i_begun_by [(.var 0), (.var 1)]), .ife (.not (.var 2)) [.ret (.call i_node_digest [(.tup [(.tup []), (.tup [])])])] [], .asg (.nm 3) (.dc [4, 5] (.tp [4, 5]) (.call i_digest_tree [(.var 2)]) (.var 4) (.var 5)), .ret (.idx (.var 3) (.var 1))], []⟩
def d_differing_signs : Df := ⟨3, 7, [.asg (.tp [5, 6]) (.tup [(.call i_branch_signs [(.var 0), (.var 2)]), (.call i_branch_signs [(.var 1), (.var 2)])]), .asg (.nm 3) (.bin .add (.lc [4] (.nm 4) (.var 5) [(.cmp .nin (.var 4) (.var 6))] (.var 4)) (.lc [4] (.nm 4) (.var 6) [(.cmp .nin (.var 4) (.var 5))] (.var 4))), .for_ (.nm 4) (.var 5) [.ife (.and (.cmp .inn (.var 4) (.var 6)) (.cmp .ne (.call i_digest_under [(.var 0), (.bin .add (.var 2) (.var 4))]) (.call i_digest_under [(.var 1), (.bin .add (.var 2) (.var 4))]))) [.ex (.mut .append 3 [(.var 4)])] []], .ret (.var 3)], []⟩
def d_stamp_search : Df := ⟨2, 7, [.par 3 4 (.lst []) (.lst []), .asg (.nm 2) (.lst [(.lit (.str []))]), .whl (.var 2) [.asg (.nm 5) (.mut .pop 2 []), .ex (.mut .append 4 [(.var 5)]), .ife (.cmp .ne (.call i_own_stamp [(.var 0), (.var 5)]) (.call i_own_stamp [(.var 1), (.var 5)])) [.ex (.mut .append 3 [(.var 5)])] [], .ex (.mut .extend 2 [(.lc [6] (.nm 6) (.call i_differing_signs [(.var 0), (.var 1), (.var 5)]) [] (.bin .add (.var 5) (.var 6)))])], .ret (.tup [(.blt .tuple (.blt .sorted (.var 3))), (.blt .tuple (.blt .sorted (.var 4)))])], []⟩
def d_reach_of : Df := ⟨2, 7, [.asg (.nm 2) (.dc [6] (.nm 6) (.var 0) (.idx (.var 6) (.lit (.int 0))) (.call i_needs_of [(.var 6)])), .asg (.nm 3) .dnew, .asg (.nm 4) (.blt .list (.var 1)), .whl (.var 4) [.asg (.nm 5) (.mut .pop 4 []), .ife (.cmp .nin (.var 5) (.var 3)) [.sub 3 (.var 5) (.lit (.bl true)), .ex (.mut .extend 4 [(.idx (.var 2) (.var 5))])] []], .ret (.blt .tuple (.blt .sorted (.var 3)))], []⟩
def d_cut_to : Df := ⟨2, 4, [.asg (.nm 2) (.call i_reach_of [(.var 0), (.var 1)]), .ret (.blt .tuple (.lc [3] (.nm 3) (.var 0) [(.cmp .inn (.idx (.var 3) (.lit (.int 0))) (.var 2))] (.var 3)))], []⟩
def d_together : Df := ⟨2, 5, [.asg (.nm 2) (.blt .sorted (.bin .add (.var 0) (.blt .tuple (.lc [4] (.nm 4) (.var 1) [(.cmp .nin (.var 4) (.var 0))] (.var 4))))), .for_ (.nm 3) (.rng [(.bin .sub (.blt .len (.var 2)) (.lit (.int 1)))]) [.ife (.cmp .eq (.idx (.idx (.var 2) (.var 3)) (.lit (.int 0))) (.idx (.idx (.var 2) (.bin .add (.var 3) (.lit (.int 1)))) (.lit (.int 0)))) [.never] []], .ret (.blt .tuple (.var 2))], []⟩
def d__law_cell : Df := ⟨2, 2, [.ife (.cmp .lt (.var 1) (.blt .len (.var 0))) [.ret (.idx (.var 0) (.var 1))] [], .ret (.bin .add (.bin .mul (.lit (.int 5)) (.var 1)) (.lit (.int 3)))], []⟩
def d__law_draws : Df := ⟨2, 8, [.asg (.nm 2) (.blt .abs (.blt .int (.var 0))), .asg (.nm 3) (.cmp .ge (.var 2) (.bin .pow (.lit (.int 10)) (.lit (.int 18)))), .asg (.nm 4) (.var 2), .asg (.nm 5) (.lst []), .for_ (.nm 6) (.rng [(.var 1)]) [.ife (.and (.var 3) (.cmp .gt (.var 2) (.lit (.int 0)))) [.ex (.mut .append 5 [(.bin .md (.blt .int (.var 2)) (.lit (.int 5040)))]), .asg (.nm 2) (.bin .fdiv (.var 2) (.lit (.int 5040)))] [.asg (.nm 7) (.bin .md (.blt .int (.bin .add (.bin .add (.bin .mul (.var 4) (.lit (.int 48271))) (.bin .mul (.bin .add (.var 6) (.lit (.int 1))) (.lit (.int 69621)))) (.lit (.int 11)))) (.lit (.int 2147483647))), .asg (.nm 7) (.bin .md (.blt .int (.bin .add (.bin .mul (.var 7) (.var 7)) (.bin .mul (.lit (.int 40692)) (.bin .add (.var 6) (.lit (.int 3)))))) (.lit (.int 2147483399))), .ex (.mut .append 5 [(.bin .md (.blt .int (.bin .fdiv (.var 7) (.lit (.int 64)))) (.lit (.int 5040)))])]], .ret (.var 5)], []⟩
def d__law_is_integer : Df := ⟨1, 1, [.ret (.and (.isinst (.var 0) .int) (.not (.isinst (.var 0) .bool)))], []⟩
def d__law_is : Df := ⟨2, 3, [.ife (.isnone (.var 1)) [.ret (.isnone (.var 0))] [], .ife (.isinst (.var 1) .bool) [.ret (.and (.isinst (.var 0) .bool) (.cmp .eq (.var 0) (.var 1)))] [], .ife (.isinst (.var 1) .int) [.ret (.and (.call i__law_is_integer [(.var 0)]) (.cmp .eq (.var 0) (.var 1)))] [], .ife (.isinst (.var 1) .str) [.ret (.and (.isinst (.var 0) .str) (.cmp .eq (.var 0) (.var 1)))] [], .ife (.or (.not (.isinst (.var 0) .tuple)) (.cmp .ne (.blt .len (.var 0)) (.blt .len (.var 1)))) [.ret (.lit (.bl false))] [], .ret (.blt .all (.lc [2] (.nm 2) (.rng [(.blt .len (.var 1))]) [] (.call i__law_is [(.idx (.var 0) (.var 2)), (.idx (.var 1) (.var 2))])))], []⟩
def d__law_take : Df := ⟨2, 4, [.asg (.nm 2) (.idx (.var 0) (.lit (.str [97, 116]))), .sub 0 (.lit (.str [97, 116])) (.bin .add (.var 2) (.lit (.int 1))), .asg (.nm 3) (.idx (.var 0) (.lit (.str [100, 114, 97, 119, 115]))), .ret (.bin .md (.bin .add (.bin .fdiv (.blt .int (.idx (.var 3) (.bin .md (.var 2) (.blt .len (.var 3))))) (.idx (.tup [(.lit (.int 1)), (.lit (.int 7)), (.lit (.int 59)), (.lit (.int 211))]) (.bin .md (.bin .fdiv (.var 2) (.blt .len (.var 3))) (.lit (.int 4))))) (.bin .fdiv (.var 2) (.bin .mul (.lit (.int 4)) (.blt .len (.var 3))))) (.var 1))], []⟩
def d__law_made_line : Df := ⟨1, 1, [.ret (.idx (.tup [(.lit (.str [97])), (.lit (.str [98])), (.lit (.str [99])), (.lit (.str [100])), (.lit (.str [97, 32, 98])), (.lit (.str [])), (.lit (.str [120, 32, 60, 32, 121, 32, 58, 32, 122])), (.lit (.str [101]))]) (.call i__law_take [(.var 0), (.lit (.int 8))]))], []⟩
def d__law_made_text : Df := ⟨2, 3, [.ret (.blt .tuple (.lc [2] (.nm 2) (.rng [(.call i__law_take [(.var 0), (.bin .add (.var 1) (.lit (.int 1)))])]) [] (.call i__law_made_line [(.var 0)])))], []⟩
def d__law_bent_lines : Df := ⟨2, 5, [.for_ (.nm 2) (.rng [(.bin .add (.lit (.int 1)) (.call i__law_take [(.var 0), (.lit (.int 3))]))]) [.asg (.nm 3) (.call i__law_take [(.var 0), (.bin .add (.blt .len (.var 1)) (.lit (.int 1)))]), .asg (.nm 4) (.call i__law_take [(.var 0), (.lit (.int 4))]), .ife (.cmp .eq (.var 4) (.lit (.int 0))) [.asg (.nm 1) (.bin .add (.slc (.var 1) (.lit .non) (.var 3)) (.slc (.var 1) (.bin .add (.var 3) (.lit (.int 1))) (.lit .non)))] [.ife (.cmp .eq (.var 4) (.lit (.int 1))) [.asg (.nm 1) (.bin .add (.bin .add (.slc (.var 1) (.lit .non) (.var 3)) (.tup [(.call i__law_made_line [(.var 0)])])) (.slc (.var 1) (.bin .add (.var 3) (.lit (.int 1))) (.lit .non)))] [.asg (.nm 1) (.bin .add (.bin .add (.slc (.var 1) (.lit .non) (.var 3)) (.tup [(.call i__law_made_line [(.var 0)])])) (.slc (.var 1) (.var 3) (.lit .non)))]]], .ret (.var 1)], []⟩
def d__law_keeping : Df := ⟨2, 7, [.asg (.nm 2) .dnew, .for_ (.nm 3) (.rev (.blt .listr (.rng [(.bin .add (.blt .len (.var 0)) (.lit (.int 1)))]))) [.for_ (.nm 4) (.rev (.blt .listr (.rng [(.bin .add (.blt .len (.var 1)) (.lit (.int 1)))]))) [.ife (.or (.cmp .eq (.var 3) (.blt .len (.var 0))) (.cmp .eq (.var 4) (.blt .len (.var 1)))) [.sub 2 (.tup [(.var 3), (.var 4)]) (.tup [])] [.asg (.nm 5) (.lst [(.idx (.var 2) (.tup [(.bin .add (.var 3) (.lit (.int 1))), (.var 4)])), (.idx (.var 2) (.tup [(.var 3), (.bin .add (.var 4) (.lit (.int 1)))]))]), .ife (.cmp .eq (.idx (.var 0) (.var 3)) (.idx (.var 1) (.var 4))) [.ex (.mut .append 5 [(.bin .add (.tup [(.tup [(.var 3), (.var 4)])]) (.idx (.var 2) (.tup [(.bin .add (.var 3) (.lit (.int 1))), (.bin .add (.var 4) (.lit (.int 1)))])))])] [], .sub 2 (.tup [(.var 3), (.var 4)]) (.idx (.blt .min (.lc [6] (.nm 6) (.var 5) [] (.tup [(.bin .sub (.lit (.int 0)) (.blt .len (.var 6))), (.var 6)]))) (.lit (.int 1)))]]], .ret (.idx (.var 2) (.tup [(.lit (.int 0)), (.lit (.int 0))]))], []⟩
def d__law_order : Df := ⟨1, 15, [.asg (.nm 1) .dnew, .asg (.nm 2) (.lst [(.tup [(.lit (.str [])), (.lit (.int 0))]), (.tup [(.lit (.str [])), (.lit (.int 1))])]), .for_ (.tp [5, 6, 7]) (.var 0) [.for_ (.tp [10, 11, 12, 13]) (.var 6) [.ex (.mut .append 2 [(.tup [(.var 5), (.var 10)])])]], .for_ (.nm 3) (.var 2) [.sub 1 (.var 3) (.lst [])], .for_ (.tp [5, 6, 7]) (.var 0) [.for_ (.tp [10, 11, 12, 13]) (.var 6) [.sub 1 (.tup [(.var 5), (.var 10)]) (.bin .add (.idx (.var 1) (.tup [(.var 5), (.var 10)])) (.blt .list (.var 13))), .for_ (.nm 3) (.var 12) [.sub 1 (.var 3) (.bin .add (.idx (.var 1) (.var 3)) (.lst [(.tup [(.var 5), (.var 10)])]))]]], .asg (.nm 4) .dnew, .for_ (.nm 3) (.var 2) [.asg (.nm 8) (.lst []), .asg (.nm 9) (.blt .list (.idx (.var 1) (.var 3))), .whl (.cmp .gt (.blt .len (.var 9)) (.lit (.int 0))) [.asg (.nm 14) (.mut .pop 9 []), .ife (.cmp .nin (.var 14) (.var 8)) [.ex (.mut .append 8 [(.var 14)]), .asg (.nm 9) (.bin .add (.var 9) (.idx (.var 1) (.var 14)))] []], .sub 4 (.var 3) (.var 8)], .sub 4 (.tup [(.lit (.str [])), (.lit (.int 0))]) (.bin .add (.idx (.var 4) (.tup [(.lit (.str [])), (.lit (.int 0))])) (.ife (.cmp .nin (.tup [(.lit (.str [])), (.lit (.int 1))]) (.idx (.var 4) (.tup [(.lit (.str [])), (.lit (.int 0))]))) (.lst [(.tup [(.lit (.str [])), (.lit (.int 1))])]) (.lst []))), .ret (.var 4)], []⟩
def d__law_alive : Df := ⟨1, 8, [.asg (.nm 1) (.lst []), .asg (.nm 2) (.lst []), .for_ (.tp [3, 4, 5]) (.var 0) [.asg (.nm 1) (.bin .add (.var 1) (.blt .list (.var 5))), .asg (.nm 2) (.bin .add (.var 2) (.lc [7] (.nm 7) (.var 4) [] (.tup [(.var 3), (.idx (.var 7) (.lit (.int 0)))])))], .ret (.blt .sorted (.lc [6] (.nm 6) (.var 2) [(.cmp .nin (.var 6) (.var 1))] (.var 6)))], []⟩
def d__law_line : Df := ⟨2, 5, [.asg (.nm 2) (.idx (.lc [3] (.nm 3) (.var 0) [(.cmp .eq (.idx (.var 3) (.lit (.int 0))) (.idx (.var 1) (.lit (.int 0))))] (.idx (.var 3) (.lit (.int 1)))) (.lit (.int 0))), .ret (.idx (.lc [4] (.nm 4) (.var 2) [(.cmp .eq (.idx (.var 4) (.lit (.int 0))) (.idx (.var 1) (.lit (.int 1))))] (.idx (.var 4) (.lit (.int 1)))) (.lit (.int 0)))], []⟩
def d__law_odds : Df := ⟨1, 5, [.asg (.nm 1) (.call i__law_order [(.var 0)]), .asg (.nm 2) (.call i__law_alive [(.var 0)]), .for_ (.nm 3) (.var 2) [.for_ (.nm 4) (.var 2) [.ife (.and (.cmp .lt (.var 3) (.var 4)) (.and (.cmp .nin (.var 4) (.idx (.var 1) (.var 3))) (.cmp .nin (.var 3) (.idx (.var 1) (.var 4))))) [.ret (.tup [(.var 3), (.var 4)])] []]], .ret (.lit .non)], []⟩
def d__law_row : Df := ⟨1, 7, [.asg (.nm 1) (.call i__law_order [(.var 0)]), .asg (.nm 2) (.call i__law_alive [(.var 0)]), .asg (.nm 3) (.lc [4] (.nm 4) (.var 2) [] (.tup [(.blt .len (.lc [6] (.nm 6) (.var 2) [(.cmp .inn (.var 4) (.idx (.var 1) (.var 6)))] (.var 6))), (.var 4)])), .ret (.lc [5] (.nm 5) (.blt .sorted (.var 3)) [] (.idx (.var 5) (.lit (.int 1))))], []⟩
def d__law_text_of : Df := ⟨1, 2, [.ret (.blt .tuple (.lc [1] (.nm 1) (.call i__law_row [(.var 0)]) [] (.call i__law_line [(.var 0), (.var 1)])))], []⟩
def d__law_recorded : Df := ⟨3, 14, [.asg (.nm 3) (.call i__law_row [(.var 0)]), .asg (.nm 4) .dnew, .for_ (.tp [9, 10]) (.call i__law_keeping [(.call i__law_text_of [(.var 0)]), (.var 2)]) [.sub 4 (.var 10) (.idx (.var 3) (.var 9))], .asg (.nm 5) (.lst []), .asg (.nm 6) (.tup [(.lit (.str [])), (.lit (.int 0))]), .for_ (.nm 7) (.rng [(.blt .len (.var 2))]) [.ife (.cmp .inn (.var 7) (.var 4)) [.asg (.nm 6) (.idx (.var 4) (.var 7))] [.asg (.nm 11) (.lc [13] (.nm 13) (.rng [(.bin .add (.var 7) (.lit (.int 1))), (.blt .len (.var 2))]) [(.cmp .inn (.var 13) (.var 4))] (.idx (.var 4) (.var 13))), .ex (.mut .append 5 [(.tup [(.bin .add (.blt .len (.var 5)) (.lit (.int 1))), (.idx (.var 2) (.var 7)), (.tup [(.var 6)]), (.tup [(.ife (.cmp .gt (.blt .len (.var 11)) (.lit (.int 0))) (.idx (.var 11) (.lit (.int 0))) (.tup [(.lit (.str [])), (.lit (.int 1))]))])])]), .asg (.nm 6) (.tup [(.var 1), (.blt .len (.var 5))])]], .asg (.nm 8) (.blt .sorted (.lc [12] (.nm 12) (.var 3) [(.cmp .nin (.var 12) (.dvals 4))] (.var 12))), .ret (.tup [(.var 1), (.blt .tuple (.var 5)), (.blt .tuple (.var 8))])], []⟩
def d__law_needs : Df := ⟨1, 8, [.asg (.nm 1) (.lc [6] (.nm 6) (.idx (.var 0) (.lit (.int 2))) [] (.idx (.var 6) (.lit (.int 0)))), .for_ (.tp [2, 3, 4, 5]) (.idx (.var 0) (.lit (.int 1))) [.asg (.nm 1) (.bin .add (.var 1) (.lc [6] (.nm 6) (.bin .add (.var 4) (.var 5)) [] (.idx (.var 6) (.lit (.int 0)))))], .ret (.blt .tuple (.blt .sortset (.lc [7] (.nm 7) (.var 1) [(.cmp .nin (.var 7) (.tup [(.lit (.str [])), (.idx (.var 0) (.lit (.int 0)))]))] (.var 7))))], []⟩
def d__law_reach : Df := ⟨2, 6, [.asg (.nm 2) (.lst []), .asg (.nm 3) (.blt .list (.var 1)), .whl (.cmp .gt (.blt .len (.var 3)) (.lit (.int 0))) [.asg (.nm 4) (.mut .pop 3 []), .ife (.cmp .nin (.var 4) (.var 2)) [.ex (.mut .append 2 [(.var 4)]), .asg (.nm 3) (.bin .add (.var 3) (.blt .list (.call i__law_needs [(.idx (.lc [5] (.nm 5) (.var 0) [(.cmp .eq (.idx (.var 5) (.lit (.int 0))) (.var 4))] (.var 5)) (.lit (.int 0)))])))] []], .ret (.blt .tuple (.blt .sorted (.var 2)))], []⟩
def d__law_some : Df := ⟨2, 3, [.ret (.blt .tuple (.lc [2] (.nm 2) (.var 1) [(.cmp .eq (.call i__law_take [(.var 0), (.lit (.int 2))]) (.lit (.int 0)))] (.var 2)))], []⟩
def d__law_menu_store : Df := ⟨2, 11, [.asg (.nm 2) (.tup []), .asg (.nm 3) (.lst [(.lit (.str [97])), (.lit (.str [97, 98])), (.lit (.str [98])), (.lit (.str [97, 49])), (.lit (.str [97, 98, 99])), (.lit (.str [112, 49])), (.lit (.str [112, 49, 48])), (.lit (.str [97, 98, 100])), (.lit (.str [113])), (.lit (.str [120, 48, 120, 48, 120, 48, 120, 48, 120, 48, 120, 48, 120, 48, 120, 48])), (.lit (.str [98, 97])), (.lit (.str [99])), (.lit (.str [98, 97, 98])), (.lit (.str [97, 48])), (.lit (.str [122]))]), .for_ (.nm 4) (.rng [(.bin .add (.lit (.int 1)) (.call i__law_take [(.var 0), (.var 1)]))]) [.asg (.nm 5) (.lc [10] (.nm 10) (.var 2) [(.cmp .gt (.call i__law_take [(.var 0), (.lit (.int 4))]) (.lit (.int 0)))] (.idx (.var 10) (.lit (.int 0)))), .asg (.nm 6) (.call i__law_cut [(.var 2), (.var 5)]), .ife (.isnone (.call i__law_odds [(.var 6)])) [.asg (.nm 7) (.call i__law_text_of [(.var 6)]), .asg (.nm 8) (.mut .popi 3 [(.call i__law_take [(.var 0), (.lit (.int 5))])]), .asg (.nm 9) (.ife (.cmp .eq (.blt .len (.var 7)) (.lit (.int 0))) (.call i__law_made_text [(.var 0), (.lit (.int 3))]) (.call i__law_bent_lines [(.var 0), (.var 7)])), .asg (.nm 2) (.blt .tuple (.blt .sorted (.bin .add (.var 2) (.tup [(.call i__law_recorded [(.var 6), (.var 8), (.var 9)])]))))] []], .ret (.var 2)], []⟩
def d__law_cut : Df := ⟨2, 4, [.asg (.nm 2) (.call i__law_reach [(.var 0), (.var 1)]), .ret (.blt .tuple (.lc [3] (.nm 3) (.var 0) [(.cmp .inn (.idx (.var 3) (.lit (.int 0))) (.var 2))] (.var 3)))], []⟩
def d__law_sum : Df := ⟨1, 3, [.asg (.nm 1) (.lit (.int 1)), .for_ (.nm 2) (.var 0) [.asg (.nm 1) (.bin .md (.bin .add (.bin .mul (.var 1) (.lit (.int 263))) (.blt .ord (.var 2))) (.lit (.int 65521)))], .ret (.var 1)], []⟩
def d__law_spot : Df := ⟨1, 1, [.ret (.ife (.cmp .eq (.var 0) (.tup [(.lit (.str [])), (.lit (.int 0))])) (.lit (.str [116, 111, 112])) (.ife (.cmp .eq (.var 0) (.tup [(.lit (.str [])), (.lit (.int 1))])) (.lit (.str [98, 111, 116, 116, 111, 109])) (.bin .add (.bin .add (.idx (.var 0) (.lit (.int 0))) (.lit (.str [46]))) (.blt .str (.idx (.var 0) (.lit (.int 1)))))))], []⟩
def d__law_patch_rows : Df := ⟨1, 8, [.asg (.nm 1) (.lst [(.bin .add (.lit (.str [112, 97, 116, 99, 104, 32])) (.idx (.var 0) (.lit (.int 0))))]), .for_ (.tp [2, 3, 4, 5]) (.idx (.var 0) (.lit (.int 1))) [.ex (.mut .append 1 [(.bin .add (.bin .add (.bin .add (.bin .add (.bin .add (.lit (.str [97, 100, 100, 32])) (.meth .join (.lit (.str [32])) [(.lc [6] (.nm 6) (.var 4) [] (.call i__law_spot [(.var 6)]))])) (.lit (.str [32, 60, 32]))) (.meth .join (.lit (.str [32])) [(.lc [6] (.nm 6) (.var 5) [] (.call i__law_spot [(.var 6)]))])) (.lit (.str [32, 58, 32]))) (.var 3))])], .asg (.nm 1) (.bin .add (.var 1) (.lc [6] (.nm 6) (.idx (.var 0) (.lit (.int 2))) [] (.bin .add (.lit (.str [98, 97, 114, 32])) (.call i__law_spot [(.var 6)])))), .ret (.meth .join (.lit (.str [])) [(.lc [7] (.nm 7) (.var 1) [] (.bin .add (.var 7) (.lit (.str [10]))))])], []⟩
def d__law_stamp : Df := ⟨1, 1, [.ret (.call i__law_sum [(.call i__law_patch_rows [(.var 0)])])], []⟩
def d__law_stamps : Df := ⟨1, 2, [.ret (.blt .tuple (.lc [1] (.nm 1) (.var 0) [] (.tup [(.idx (.var 1) (.lit (.int 0))), (.call i__law_stamp [(.var 1)])])))], []⟩
def d__law_fold : Df := ⟨1, 3, [.asg (.nm 1) (.lit (.int 1)), .for_ (.nm 2) (.var 0) [.asg (.nm 1) (.bin .md (.bin .add (.bin .mul (.var 1) (.lit (.int 263))) (.var 2)) (.lit (.int 65521)))], .ret (.var 1)], []⟩
def d__law_own : Df := ⟨2, 4, [.ret (.blt .tuple (.lc [2, 3] (.tp [2, 3]) (.var 0) [(.cmp .eq (.var 2) (.var 1))] (.var 3)))], []⟩
def d__law_signs : Df := ⟨2, 5, [.asg (.nm 2) (.blt .len (.var 1)), .ret (.blt .sortset (.lc [3, 4] (.tp [3, 4]) (.var 0) [(.and (.cmp .eq (.slc (.var 3) (.lit .non) (.var 2)) (.var 1)) (.cmp .gt (.blt .len (.var 3)) (.var 2)))] (.idx (.var 3) (.var 2))))], []⟩
def d__law_node : Df := ⟨3, 4, [.ret (.tup [(.call i__law_own [(.var 0), (.var 2)]), (.blt .tuple (.lc [3] (.nm 3) (.call i__law_signs [(.var 0), (.var 2)]) [] (.tup [(.var 3), (.idx (.var 1) (.bin .add (.var 2) (.var 3)))])))])], []⟩
def d__law_node_sum : Df := ⟨1, 4, [.asg (.nm 1) (.bin .add (.lst [(.blt .len (.idx (.var 0) (.lit (.int 0))))]) (.blt .list (.idx (.var 0) (.lit (.int 0))))), .for_ (.tp [2, 3]) (.idx (.var 0) (.lit (.int 1))) [.asg (.nm 1) (.bin .add (.var 1) (.lst [(.blt .ord (.var 2)), (.var 3)]))], .ret (.call i__law_fold [(.var 1)])], []⟩
def d__law_begins : Df := ⟨1, 4, [.asg (.nm 1) (.lst [(.lit (.str []))]), .for_ (.nm 2) (.var 0) [.asg (.nm 1) (.bin .add (.var 1) (.lc [3] (.nm 3) (.rng [(.lit (.int 1)), (.bin .add (.blt .len (.var 2)) (.lit (.int 1)))]) [(.cmp .nin (.slc (.var 2) (.lit .non) (.var 3)) (.var 1))] (.slc (.var 2) (.lit .non) (.var 3))))], .ret (.blt .sorted (.var 1))], []⟩
def d__law_tree : Df := ⟨1, 6, [.asg (.nm 1) .dnew, .for_ (.tp [2, 3]) (.blt .sorted (.lc [4] (.nm 4) (.call i__law_begins [(.lc [5] (.nm 5) (.var 0) [] (.idx (.var 5) (.lit (.int 0))))]) [] (.tup [(.bin .sub (.lit (.int 0)) (.blt .len (.var 4))), (.var 4)]))) [.sub 1 (.var 3) (.call i__law_node_sum [(.call i__law_node [(.var 0), (.var 1), (.var 3)])])], .ret (.var 1)], []⟩
def d__law_made_stamps : Df := ⟨2, 6, [.asg (.nm 2) (.lst [(.lit (.str [97])), (.lit (.str [97, 98])), (.lit (.str [98])), (.lit (.str [97, 49])), (.lit (.str [97, 98, 99])), (.lit (.str [112, 49])), (.lit (.str [112, 49, 48])), (.lit (.str [97, 98, 100])), (.lit (.str [113])), (.lit (.str [120, 48, 120, 48, 120, 48, 120, 48, 120, 48, 120, 48, 120, 48, 120, 48])), (.lit (.str [98, 97])), (.lit (.str [99])), (.lit (.str [98, 97, 98])), (.lit (.str [97, 48])), (.lit (.str [122]))]), .asg (.nm 3) (.lst []), .for_ (.nm 4) (.rng [(.call i__law_take [(.var 0), (.bin .add (.var 1) (.lit (.int 1)))])]) [.asg (.nm 5) (.idx (.tup [(.lit (.int 0)), (.lit (.int 1)), (.lit (.int 65520)), (.lit (.int 263)), (.bin .mul (.call i__law_take [(.var 0), (.lit (.int 5040))]) (.lit (.int 13))), (.call i__law_take [(.var 0), (.lit (.int 5040))])]) (.call i__law_take [(.var 0), (.lit (.int 6))])), .ex (.mut .append 3 [(.tup [(.mut .popi 2 [(.call i__law_take [(.var 0), (.lit (.int 6))])]), (.var 5)])])], .ret (.blt .tuple (.blt .sorted (.var 3)))], []⟩
def d__law_search : Df := ⟨2, 11, [.asg (.nm 2) (.call i__law_tree [(.var 0)]), .asg (.nm 3) (.call i__law_tree [(.var 1)]), .asg (.nm 4) (.lst []), .asg (.nm 5) (.lst []), .asg (.nm 6) (.lit (.bl false)), .asg (.nm 7) (.lst [(.lit (.str []))]), .whl (.cmp .gt (.blt .len (.var 7)) (.lit (.int 0))) [.asg (.nm 8) (.mut .pop 7 []), .ex (.mut .append 5 [(.var 8)]), .ife (.cmp .ne (.call i__law_own [(.var 0), (.var 8)]) (.call i__law_own [(.var 1), (.var 8)])) [.ex (.mut .append 4 [(.var 8)])] [], .for_ (.nm 9) (.blt .sortset (.bin .add (.call i__law_signs [(.var 0), (.var 8)]) (.call i__law_signs [(.var 1), (.var 8)]))) [.asg (.nm 10) (.bin .add (.var 8) (.var 9)), .ife (.or (.cmp .nin (.var 10) (.var 2)) (.or (.cmp .nin (.var 10) (.var 3)) (.cmp .ne (.idx (.var 2) (.var 10)) (.idx (.var 3) (.var 10))))) [.ex (.mut .append 7 [(.var 10)])] [.ife (.cmp .ne (.call i__law_begun [(.var 0), (.var 10)]) (.call i__law_begun [(.var 1), (.var 10)])) [.asg (.nm 6) (.lit (.bl true))] []]]], .ret (.tup [(.blt .tuple (.blt .sorted (.var 4))), (.blt .tuple (.blt .sorted (.var 5))), (.var 6)])], []⟩
def d__law_begun : Df := ⟨2, 3, [.ret (.lc [2] (.nm 2) (.var 0) [(.cmp .eq (.slc (.idx (.var 2) (.lit (.int 0))) (.lit .non) (.blt .len (.var 1))) (.var 1))] (.var 2))], []⟩
def d__law_differing : Df := ⟨2, 4, [.asg (.nm 2) (.lc [3] (.nm 3) (.var 0) [(.cmp .nin (.var 3) (.var 1))] (.idx (.var 3) (.lit (.int 0)))), .ret (.blt .tuple (.blt .sortset (.bin .add (.var 2) (.lc [3] (.nm 3) (.var 1) [(.cmp .nin (.var 3) (.var 0))] (.idx (.var 3) (.lit (.int 0)))))))], []⟩
def d__law_search_due : Df := ⟨2, 9, [.asg (.tp [4, 5, 6]) (.call i__law_search [(.var 0), (.var 1)]), .ife (.or (.not (.call i__law_is [(.call i_stamp_search [(.var 0), (.var 1)]), (.tup [(.var 4), (.var 5)])])) (.not (.call i__law_is [(.call i_stamp_search [(.var 1), (.var 0)]), (.tup [(.var 4), (.var 5)])]))) [.ret (.lit (.bl false))] [], .asg (.nm 2) (.call i__law_differing [(.var 0), (.var 1)]), .ife (.and (.not (.var 6)) (.cmp .ne (.var 4) (.var 2))) [.ret (.lit (.bl false))] [], .asg (.nm 3) (.call i__law_begins [(.var 2)]), .ife (.cmp .gt (.blt .len (.lc [7] (.nm 7) (.var 4) [(.cmp .nin (.var 7) (.var 2))] (.var 7))) (.lit (.int 0))) [.ret (.lit (.bl false))] [], .ret (.cmp .eq (.blt .len (.lc [8] (.nm 8) (.var 5) [(.cmp .nin (.var 8) (.var 3))] (.var 8))) (.lit (.int 0)))], []⟩
def d__law_bent_stamps : Df := ⟨2, 7, [.for_ (.nm 2) (.rng [(.bin .add (.lit (.int 1)) (.call i__law_take [(.var 0), (.lit (.int 3))]))]) [.asg (.nm 3) (.call i__law_take [(.var 0), (.bin .add (.blt .len (.var 1)) (.lit (.int 1)))]), .asg (.nm 4) (.call i__law_take [(.var 0), (.lit (.int 3))]), .ife (.and (.cmp .eq (.var 4) (.lit (.int 0))) (.cmp .lt (.var 3) (.blt .len (.var 1)))) [.asg (.nm 1) (.bin .add (.bin .add (.slc (.var 1) (.lit .non) (.var 3)) (.tup [(.tup [(.idx (.idx (.var 1) (.var 3)) (.lit (.int 0))), (.call i__law_take [(.var 0), (.lit (.int 5040))])])])) (.slc (.var 1) (.bin .add (.var 3) (.lit (.int 1))) (.lit .non)))] [.ife (.cmp .eq (.var 4) (.lit (.int 1))) [.asg (.nm 1) (.bin .add (.slc (.var 1) (.lit .non) (.var 3)) (.slc (.var 1) (.bin .add (.var 3) (.lit (.int 1))) (.lit .non)))] [.asg (.nm 5) (.idx (.tup [(.lit (.str [97, 98, 97, 98])), (.lit (.str [97])), (.lit (.str [120, 48, 120, 48])), (.lit (.str [98, 57])), (.lit (.str [112, 49])), (.lit (.str [122, 122]))]) (.call i__law_take [(.var 0), (.lit (.int 6))])), .asg (.nm 1) (.blt .tuple (.blt .sorted (.bin .add (.lc [6] (.nm 6) (.var 1) [(.cmp .ne (.idx (.var 6) (.lit (.int 0))) (.var 5))] (.var 6)) (.lst [(.tup [(.var 5), (.call i__law_take [(.var 0), (.lit (.int 5040))])])]))))]]], .ret (.var 1)], []⟩
def d_law : Df := ⟨1, 20, [.for_ (.nm 1) (.rng [(.lit (.int 2))]) [.asg (.nm 2) (.disp [(.str [100, 114, 97, 119, 115]), (.str [97, 116])] [(.call i__law_draws [(.call i__law_cell [(.var 0), (.var 1)]), (.lit (.int 150))]), (.lit (.int 0))]), .asg (.nm 3) (.call i__law_menu_store [(.var 2), (.lit (.int 7))]), .asg (.nm 4) (.lc [12] (.nm 12) (.var 3) [] (.idx (.var 12) (.lit (.int 0)))), .asg (.nm 5) (.call i_cut_to [(.var 3), (.call i__law_some [(.var 2), (.var 4)])]), .asg (.nm 6) (.call i_cut_to [(.var 3), (.call i__law_some [(.var 2), (.var 4)])]), .ife (.not (.call i__law_search_due [(.call i_stamps_of [(.var 5)]), (.call i_stamps_of [(.var 6)])])) [.ret (.lit (.bl false))] [], .asg (.nm 7) (.call i_stamps_of [(.call i_together [(.var 5), (.var 6)])]), .for_ (.nm 8) (.tup [(.var 5), (.var 6)]) [.ife (.not (.call i__law_search_due [(.var 7), (.call i_stamps_of [(.var 8)])])) [.ret (.lit (.bl false))] [], .asg (.tp [13, 14, 15]) (.call i__law_search [(.var 7), (.call i__law_stamps [(.var 8)])]), .asg (.nm 10) (.blt .tuple (.lc [12] (.nm 12) (.call i_together [(.var 5), (.var 6)]) [(.cmp .nin (.idx (.var 12) (.lit (.int 0))) (.var 13))] (.var 12))), .ife (.and (.not (.var 15)) (.cmp .ne (.var 10) (.var 8))) [.ret (.lit (.bl false))] []], .for_ (.nm 9) (.rng [(.lit (.int 4))]) [.asg (.nm 11) (.call i__law_made_stamps [(.var 2), (.lit (.int 7))]), .ife (.not (.call i__law_search_due [(.var 11), (.call i__law_bent_stamps [(.var 2), (.var 11)])])) [.ret (.lit (.bl false))] [], .ife (.or (.not (.call i__law_search_due [(.var 11), (.var 11)])) (.not (.call i__law_is [(.call i_stamp_search [(.var 11), (.var 11)]), (.tup [(.tup []), (.tup [(.lit (.str []))])])]))) [.ret (.lit (.bl false))] [], .ife (.cmp .gt (.blt .len (.var 11)) (.lit (.int 0))) [.asg (.nm 16) (.call i__law_take [(.var 2), (.blt .len (.var 11))]), .asg (.tp [18, 19]) (.idx (.var 11) (.var 16)), .asg (.nm 17) (.bin .add (.bin .add (.slc (.var 11) (.lit .non) (.var 16)) (.tup [(.tup [(.var 18), (.bin .md (.bin .add (.bin .add (.var 19) (.lit (.int 1))) (.call i__law_take [(.var 2), (.lit (.int 5040))])) (.lit (.int 65521)))])])) (.slc (.var 11) (.bin .add (.var 16) (.lit (.int 1))) (.lit .non))), .ife (.not (.call i__law_is [(.call i_stamp_search [(.var 11), (.var 17)]), (.tup [(.tup [(.var 18)]), (.blt .tuple (.call i__law_begins [(.lst [(.var 18)])]))])])) [.ret (.lit (.bl false))] []] []]], .ret (.and (.call i__law_is [(.call i_stamp_search [(.tup []), (.tup [(.tup [(.lit (.str [97, 98])), (.lit (.int 7))])])]), (.tup [(.tup [(.lit (.str [97, 98]))]), (.tup [(.lit (.str [])), (.lit (.str [97])), (.lit (.str [97, 98]))])])]) (.call i__law_is [(.call i_stamp_search [(.tup []), (.tup [])]), (.tup [(.tup []), (.tup [(.lit (.str []))])])]))], []⟩
def pg : List Df := [d_named_in, d_needs_of, d_sum_of, d_spot_text, d_write_patch, d_patch_stamp, d_stamps_of, d_fold_row, d_own_stamp, d_begun_by, d_branch_signs, d_node_row, d_node_digest, d_stale_prefixes, d_ranked_prefixes, d_branch_pairs, d_digest_tree, d_digest_under, d_differing_signs, d_stamp_search, d_reach_of, d_cut_to, d_together, d__law_cell, d__law_draws, d__law_is_integer, d__law_is, d__law_take, d__law_made_line, d__law_made_text, d__law_bent_lines, d__law_keeping, d__law_order, d__law_alive, d__law_line, d__law_odds, d__law_row, d__law_text_of, d__law_recorded, d__law_needs, d__law_reach, d__law_some, d__law_menu_store, d__law_cut, d__law_sum, d__law_spot, d__law_patch_rows, d__law_stamp, d__law_stamps, d__law_fold, d__law_own, d__law_signs, d__law_node, d__law_node_sum, d__law_begins, d__law_tree, d__law_made_stamps, d__law_search, d__law_begun, d__law_differing, d__law_search_due, d__law_bent_stamps, d_law]
theorem pg_named_in : pg[i_named_in]? = some d_named_in := rfl
theorem pg_needs_of : pg[i_needs_of]? = some d_needs_of := rfl
theorem pg_sum_of : pg[i_sum_of]? = some d_sum_of := rfl
theorem pg_spot_text : pg[i_spot_text]? = some d_spot_text := rfl
theorem pg_write_patch : pg[i_write_patch]? = some d_write_patch := rfl
theorem pg_patch_stamp : pg[i_patch_stamp]? = some d_patch_stamp := rfl
theorem pg_stamps_of : pg[i_stamps_of]? = some d_stamps_of := rfl
theorem pg_fold_row : pg[i_fold_row]? = some d_fold_row := rfl
theorem pg_own_stamp : pg[i_own_stamp]? = some d_own_stamp := rfl
theorem pg_begun_by : pg[i_begun_by]? = some d_begun_by := rfl
theorem pg_branch_signs : pg[i_branch_signs]? = some d_branch_signs := rfl
theorem pg_node_row : pg[i_node_row]? = some d_node_row := rfl
theorem pg_node_digest : pg[i_node_digest]? = some d_node_digest := rfl
theorem pg_stale_prefixes : pg[i_stale_prefixes]? = some d_stale_prefixes := rfl
theorem pg_ranked_prefixes : pg[i_ranked_prefixes]? = some d_ranked_prefixes := rfl
theorem pg_branch_pairs : pg[i_branch_pairs]? = some d_branch_pairs := rfl
theorem pg_digest_tree : pg[i_digest_tree]? = some d_digest_tree := rfl
theorem pg_digest_under : pg[i_digest_under]? = some d_digest_under := rfl
theorem pg_differing_signs : pg[i_differing_signs]? = some d_differing_signs := rfl
theorem pg_stamp_search : pg[i_stamp_search]? = some d_stamp_search := rfl
theorem pg_reach_of : pg[i_reach_of]? = some d_reach_of := rfl
theorem pg_cut_to : pg[i_cut_to]? = some d_cut_to := rfl
theorem pg_together : pg[i_together]? = some d_together := rfl
theorem pg__law_cell : pg[i__law_cell]? = some d__law_cell := rfl
theorem pg__law_draws : pg[i__law_draws]? = some d__law_draws := rfl
theorem pg__law_is_integer : pg[i__law_is_integer]? = some d__law_is_integer := rfl
theorem pg__law_is : pg[i__law_is]? = some d__law_is := rfl
theorem pg__law_take : pg[i__law_take]? = some d__law_take := rfl
theorem pg__law_made_line : pg[i__law_made_line]? = some d__law_made_line := rfl
theorem pg__law_made_text : pg[i__law_made_text]? = some d__law_made_text := rfl
theorem pg__law_bent_lines : pg[i__law_bent_lines]? = some d__law_bent_lines := rfl
theorem pg__law_keeping : pg[i__law_keeping]? = some d__law_keeping := rfl
theorem pg__law_order : pg[i__law_order]? = some d__law_order := rfl
theorem pg__law_alive : pg[i__law_alive]? = some d__law_alive := rfl
theorem pg__law_line : pg[i__law_line]? = some d__law_line := rfl
theorem pg__law_odds : pg[i__law_odds]? = some d__law_odds := rfl
theorem pg__law_row : pg[i__law_row]? = some d__law_row := rfl
theorem pg__law_text_of : pg[i__law_text_of]? = some d__law_text_of := rfl
theorem pg__law_recorded : pg[i__law_recorded]? = some d__law_recorded := rfl
theorem pg__law_needs : pg[i__law_needs]? = some d__law_needs := rfl
theorem pg__law_reach : pg[i__law_reach]? = some d__law_reach := rfl
theorem pg__law_some : pg[i__law_some]? = some d__law_some := rfl
theorem pg__law_menu_store : pg[i__law_menu_store]? = some d__law_menu_store := rfl
theorem pg__law_cut : pg[i__law_cut]? = some d__law_cut := rfl
theorem pg__law_sum : pg[i__law_sum]? = some d__law_sum := rfl
theorem pg__law_spot : pg[i__law_spot]? = some d__law_spot := rfl
theorem pg__law_patch_rows : pg[i__law_patch_rows]? = some d__law_patch_rows := rfl
theorem pg__law_stamp : pg[i__law_stamp]? = some d__law_stamp := rfl
theorem pg__law_stamps : pg[i__law_stamps]? = some d__law_stamps := rfl
theorem pg__law_fold : pg[i__law_fold]? = some d__law_fold := rfl
theorem pg__law_own : pg[i__law_own]? = some d__law_own := rfl
theorem pg__law_signs : pg[i__law_signs]? = some d__law_signs := rfl
theorem pg__law_node : pg[i__law_node]? = some d__law_node := rfl
theorem pg__law_node_sum : pg[i__law_node_sum]? = some d__law_node_sum := rfl
theorem pg__law_begins : pg[i__law_begins]? = some d__law_begins := rfl
theorem pg__law_tree : pg[i__law_tree]? = some d__law_tree := rfl
theorem pg__law_made_stamps : pg[i__law_made_stamps]? = some d__law_made_stamps := rfl
theorem pg__law_search : pg[i__law_search]? = some d__law_search := rfl
theorem pg__law_begun : pg[i__law_begun]? = some d__law_begun := rfl
theorem pg__law_differing : pg[i__law_differing]? = some d__law_differing := rfl
theorem pg__law_search_due : pg[i__law_search_due]? = some d__law_search_due := rfl
theorem pg__law_bent_stamps : pg[i__law_bent_stamps]? = some d__law_bent_stamps := rfl
theorem pg_law : pg[i_law]? = some d_law := rfl
theorem esc_pg (g : Nat) : (cxF pg N k).esc g = [] := by
  show ((pg[g]?).map Df.esc).getD [] = []
  cases h : pg[g]? with
  | none => rfl
  | some d =>
    have t : ∀ d ∈ pg, d.esc = [] := by decide
    simp only [Option.map_some, Option.getD_some]
    exact t d (List.mem_of_getElem? h)
end Sk

end

section
set_option Elab.async false
set_option linter.all false
set_option maxRecDepth 100000
set_option maxHeartbeats 4000000
namespace Sk
open PySem
local macro_rules
  | `(tactic| simp_arith [$as,*]) => `(tactic| simp only [w_lit, w_var, w_tup, w_lst, w_dnew, w_bin, w_cmp, w_isnone, w_isinst, w_and, w_or, w_not, w_ife, w_idx, w_slc, w_rev, w_call, w_blt, w_meth, w_mut, w_rng, w_A0, w_A1, w_R0, w_R1, w_C0, w_C1, w_lcW, w_lc, w_lc2, w_dcW, w_dc, w_dvals, w_ex, w_asg, w_par, w_sub, w_ret, w_sif, w_whl, w_for, w_forF, w_pass, w_brk, w_cnt, w_B0, w_B1, w_test, w_iterR, ↓next_nx, ↓next_ret, ↓next_brk, ↓next_ct, ↓turn_nx, ↓turn_ct, ↓turn_brk, ↓turn_ret, ↓fin_ret, ↓fin_nx, Ok_ok, Ok_er, slotAt_mk, List.getD_cons_succ, List.getD_cons_zero, List.set_cons_succ, List.set_cons_zero, List.cons_append, List.nil_append, List.append_nil, List.replicate, List.foldl, varR_val, varR_own, varR_bor, peek_val, peek_own, peek_bor, peekS_val, peekS_own, peekS_bor, freeze_val, freeze_own, freeze_bor, frzS_own, frzS_val, iterF_val, iterF_own, iterF_bor, itfS_own, itfS_val, itfS_bor, asgR_val, asgR_own, asgR_bor, agS_val, agS_own, agS_bor, asgR_tp, asgD_nm, asgD_tp, asgAll_nil, asgAll_cons, wipeS_mk, backS_mk, toSls0, Ok_toSls1, toSl_val, toSl_own, toSl_bor, tslS_val, tslS_own, tslS_bor, esc_pg, cxF_call, cxF_N, outR_val, outR_own, outR_bor, outS_val, outS_own, content_val, content_own, content_bor, Option.isSome_some, valR_val, ownL_own, ownK_own, noBor_val, noBor_own, add_int, sub_int, len_lst, len_tup, len_dct, int_int, list_lst, list_tup, tuple_lst, tuple_tup, ord_str, itemsC_lst, itemsC_tup, itemsD_lst, itemsD_tup, itemsD_str, eq_int, ne_int, lt_int, gt_int, le_int, ge_int, truth_bl, truth_lst, truth_tup, part_non, part_int, Ok_md, Ok_fdiv, Ok_mul, Ok_idx_lst, Ok_idx_tup, Ok_idx_str, Ok_listr, isE_map, isE_snoc, subW_mk, Ok_sortset, atI0, atI1, atI2, atI3, cutD_to, cutD_from, eq_str, ne_str, decide_true, decide_false, Option.map_some, Option.map_none, pop_snoc, Ok_add_str, Ok_add_tup, Ok_add_lst, Ok_len_str, Ok_rng1, Ok_rng2, Ok_append, Ok_extendL, Ok_extendT, slc_tup, slc_lst, Ok_slc_str, still_val, rev_lst, if_true, if_false, ite_true, ite_false, Bool.false_eq_true, if_true', reduceIte, true_and, and_true, Bool.not_true, Bool.not_false, Bool.not_not, exists_eq_left', exists_eq_left, Option.some.injEq, $as,*])
/-! SpA: stamps: own, begun, signs; folds. -/
def eN (p : (List Nat) × Int) : D := .tup [.str p.1, .int p.2]
abbrev eS (s : (List ((List Nat) × Int))) : D := .tup (s.map eN)
instance : En eN := ⟨.prod [.str, .int], fun _ => rfl, fun a b h => by cases a; cases b; simp only [eN, D.tup.injEq, List.cons.injEq, D.str.injEq, D.int.injEq, and_true] at h; exact Prod.ext h.1 h.2, by decide⟩
instance : EnS eN := ⟨.inl fun _ => rfl⟩
def own (s : (List ((List Nat) × Int))) (p : (List Nat)) : List Int := s.filterMap fun q => if q.1 = p then some q.2 else none
def begun (s : (List ((List Nat) × Int))) (p : (List Nat)) : (List ((List Nat) × Int)) := s.filter fun q => decide (q.1.take p.length = p)
section
variable {N k : Nat} {mh : MH} {s : (List ((List Nat) × Int))} {p : (List Nat)}
theorem e_own_stamp : evF pg N (k + 1) i_own_stamp [.val (eS s), .val (.str p)] mh = .ok (.val (.tup ((own s p).map .int)), mh) := by
  refine ofOk (w_F pg_own_stamp rfl (by decide) ?_)
  simp_arith [d_own_stamp]
  refine lc_fm (em := D.int) (fun q => if q.1 = p then some q.2 else none) (fun q hq => ?_) ?_
  · simp_arith [eN, eq_str]
    by_cases h : q.1 = p <;> simp_arith [h, decide_true, decide_false, Option.map_some, Option.map_none]
  · simp_arith [own]
theorem e_law_own : evF pg N (k + 1) i__law_own [.val (eS s), .val (.str p)] mh = .ok (.val (.tup ((own s p).map .int)), mh) := by
  refine ofOk (w_F pg__law_own rfl (by decide) ?_)
  simp_arith [d__law_own]
  refine lc_fm (em := D.int) (fun q => if q.1 = p then some q.2 else none) (fun q hq => ?_) ?_
  · simp_arith [eN, eq_str]
    by_cases h : q.1 = p <;> simp_arith [h, decide_true, decide_false, Option.map_some, Option.map_none]
  · simp_arith [own]
theorem e_begun_by (hp : p.length ≤ 1000) (hs : ∀ q ∈ s, q.1.length ≤ 1000) : evF pg N (k + 1) i_begun_by [.val (eS s), .val (.str p)] mh = .ok (.val (eS (begun s p)), mh) := by
  refine ofOk (w_F pg_begun_by rfl (by decide) ?_)
  simp_arith [d_begun_by]
  refine ⟨Nat.le_trans hp (by decide), ?_⟩
  refine lc_fl (fun q => decide (q.1.take p.length = p)) (fun q hq => ?_) ?_
  · simp_arith [eN]
    refine ⟨Nat.le_trans (hs q hq) (by decide), ?_⟩
    by_cases h : q.1.take p.length = p <;> simp_arith [h]
  · simp_arith [begun]
theorem e_law_begun (hp : p.length ≤ 1000) (hs : ∀ q ∈ s, q.1.length ≤ 1000) : evF pg N (k + 1) i__law_begun [.val (eS s), .val (.str p)] mh = .ok (.own (.lst ((begun s p).map eN)), mh) := by
  refine ofOk (w_F pg__law_begun rfl (by decide) ?_)
  simp_arith [d__law_begun]
  refine lc_fl (fun q => decide (q.1.take p.length = p)) (fun q hq => ?_) ?_
  · simp_arith [eN]
    refine ⟨Nat.le_trans hp (by decide), Nat.le_trans (hs q hq) (by decide), ?_⟩
    by_cases h : q.1.take p.length = p <;> simp_arith [h]
  · simp_arith [begun]
def kids (s : (List ((List Nat) × Int))) (p : (List Nat)) : List (List Nat) := (s.filter fun q => decide (q.1.take p.length = p)).filterMap fun q => (q.1[p.length]?).map fun c => [c]
def Short (s : (List ((List Nat) × Int))) : Prop := ∀ q ∈ s, q.1.length ≤ 1000
theorem begun_sub {q : (List Nat) × Int} (h : q ∈ begun s p) : q ∈ s := (List.mem_filter.mp h).1
theorem Short.begun (h : Short s) : Short (begun s p) := fun q hq => h q (begun_sub hq)
theorem gt_len {p q : (List Nat)} : (decide ((p.length : Int) < (q.length : Int))) = decide (p.length < q.length) := by
  rw [Bool.eq_iff_iff, decide_eq_true_iff, decide_eq_true_iff]; omega
theorem e_branch_signs (hp : p.length ≤ 1000) (hs : Short s) (hl : s.length < 4000) : evF pg N (k + 2) i_branch_signs [.val (eS s), .val (.str p)] mh = .ok (.val (.tup ((setE (kids s p)).map .str)), mh) := by
  refine ofOk (w_F pg_branch_signs rfl (by decide) ?_)
  simp_arith [d_branch_signs, e_begun_by hp hs]
  refine ⟨Nat.le_trans hp (by decide), ?_⟩
  refine lc_fm (em := D.str) (fun q => (q.1[p.length]?).map fun c => [c]) (fun q hq => ?_) ?_
  · simp_arith [eN]
    refine ⟨Nat.le_trans (hs q (begun_sub hq)) (by decide), ?_⟩
    by_cases h : p.length < q.1.length
    · simp_arith [gt_len, h, atI_ofNat, List.getElem?_eq_getElem h]
      exact Nat.le_trans (hs q (begun_sub hq)) (by decide)
    · simp_arith [gt_len, h, List.getElem?_eq_none (Nat.le_of_not_lt h)]
  · have e : (begun s p).filterMap (fun q => (q.1[p.length]?).map fun c => [c]) = kids s p := rfl
    simp_arith [e]
    refine Nat.lt_of_le_of_lt (Nat.le_trans (List.length_filterMap_le _ _) (List.length_filter_le _ _)) hl
theorem e_law_signs (hp : p.length ≤ 1000) (hs : Short s) (hl : s.length < 4000) : evF pg N (k + 2) i__law_signs [.val (eS s), .val (.str p)] mh = .ok (.own (.lst ((setE (kids s p)).map .str)), mh) := by
  refine ofOk (w_F pg__law_signs rfl (by decide) ?_)
  simp_arith [d__law_signs]
  refine ⟨Nat.le_trans hp (by decide), ?_⟩
  refine lc_fm (em := D.str) (fun q => if q.1.take p.length = p then (q.1[p.length]?).map (fun c => [c]) else none) (fun q hq => ?_) ?_
  · simp_arith [eN]
    refine ⟨Nat.le_trans (hs q hq) (by decide), ?_⟩
    by_cases h0 : q.1.take p.length = p
    · simp_arith [h0]
      refine ⟨Nat.le_trans (hs q hq) (by decide), ?_⟩
      by_cases h : p.length < q.1.length
      · simp_arith [gt_len, h, atI_ofNat, List.getElem?_eq_getElem h]
        exact Nat.le_trans (hs q hq) (by decide)
      · simp_arith [gt_len, h, List.getElem?_eq_none (Nat.le_of_not_lt h)]
    · simp_arith [h0]
  · have e : s.filterMap (fun q => if q.1.take p.length = p then (q.1[p.length]?).map (fun c => [c]) else none) = kids s p := by
      unfold kids
      clear hl hs hp
      induction s with
      | nil => rfl
      | cons q s ih =>
        rw [List.filterMap_cons, ih, List.filter_cons]
        by_cases h : q.1.take p.length = p
        · simp only [h, if_true, decide_true, List.filterMap_cons]
        · simp only [h, if_false, decide_false, Bool.false_eq_true]
    simp_arith [e]
    refine Nat.lt_of_le_of_lt (Nat.le_trans (List.length_filterMap_le _ _) (List.length_filter_le _ _)) hl
def fold (ns : List Int) : Int := ns.foldl (fun w n => (w * 263 + n) % 65521) 1
theorem fold_snoc (ns : List Int) (n : Int) : fold (ns ++ [n]) = (fold ns * 263 + n) % 65521 := by
  rw [fold, List.foldl_append]; rfl
theorem m263 {w : Int} : (w.natAbs < 2 ^ 64 ∨ Int.natAbs 263 < 2 ^ 64) ↔ True := iff_true_intro (.inr (by decide))
theorem p65521 : ((0 : Int) < 65521) ↔ True := iff_true_intro (by decide)
theorem e_fold_row {ns : List Int} : evF pg N (k + 1) i_fold_row [.val (.tup (ns.map .int))] mh = .ok (.val (.int (fold ns)), mh) := by
  refine ofOk (w_F pg_fold_row rfl (by decide) ?_)
  simp_arith [d_fold_row]
  refine for_inv (fun d s => ∃ x, s = ⟨[.val (.tup (ns.map .int)), .val (.int (fold d)), x], mh⟩) ⟨.un, rfl⟩ ?_ ?_
  · rintro d n r s e ⟨x, rfl⟩
    simp_arith [m263, p65521, fold_snoc]
    exact ⟨_, rfl⟩
  · rintro s ⟨x, rfl⟩
    simp_arith [w_lit]
theorem e_law_fold {ns : List Int} : evF pg N (k + 1) i__law_fold [.bor (.lst (ns.map .int))] mh = .ok (.val (.int (fold ns)), mh) := by
  refine ofOk (w_F pg__law_fold rfl (by decide) ?_)
  simp_arith [d__law_fold]
  refine for_inv (fun d s => ∃ x, s = ⟨[.bor (.lst (ns.map .int)), .val (.int (fold d)), x], mh⟩) ⟨.un, rfl⟩ ?_ ?_
  · rintro d n r s e ⟨x, rfl⟩
    simp_arith [m263, p65521, fold_snoc]
    exact ⟨_, rfl⟩
  · rintro s ⟨x, rfl⟩
    simp_arith [w_lit]
/-- the numbers of a node: own ones, and for each sign its number and its digest -/
def nodeR (ow : List Int) (ch : List (Nat × Int)) : List Int := (ow.length : Int) :: ow ++ ch.flatMap fun c => [(c.1 : Int), c.2]
theorem nodeR_snoc (ow : List Int) (ch : List (Nat × Int)) (c : Nat × Int) : nodeR ow (ch ++ [c]) = nodeR ow ch ++ [(c.1 : Int), c.2] := by
  simp [nodeR]
def eC (c : Nat × Int) : D := .tup [.str [c.1], .int c.2]
abbrev eNd (ow : List Int) (ch : List (Nat × Int)) : D := .tup [.tup (ow.map .int), .tup (ch.map eC)]
theorem nodeR_len (ow : List Int) (ch : List (Nat × Int)) : (nodeR ow ch).length = 1 + ow.length + 2 * ch.length := by
  induction ch with
  | nil => simp [nodeR]; omega
  | cons c ch ih =>
    simp only [nodeR, List.flatMap_cons, List.length_cons, List.length_append, List.cons_append, List.length_nil] at ih ⊢
    omega
theorem nodeR_nil (ow : List Int) : nodeR ow [] = (ow.length : Int) :: ow := by simp [nodeR]
theorem e_node_row {ow : List Int} {ch : List (Nat × Int)} (h1 : ow.length ≤ 10000) (h2 : ch.length ≤ 10000) : evF pg N (k + 1) i_node_row [.val (eNd ow ch)] mh = .ok (.val (.tup ((nodeR ow ch).map .int)), mh) := by
  refine ofOk (w_F pg_node_row rfl (by decide) ?_)
  simp_arith [d_node_row, List.length_map, List.length_cons, List.length_nil]
  have e0 : [D.int (ow.length : Int)] ++ ow.map .int = (nodeR ow []).map .int := by rw [nodeR_nil]; rfl
  refine ⟨by decide, by unfold sz; omega, ?_⟩
  refine for_inv (fun d s => ∃ x y, s = ⟨[.val (eNd ow ch), .own (.lst ((nodeR ow d).map .int)), .val (.tup (ow.map .int)), .val (.tup (ch.map eC)), x, y], mh⟩) ⟨.un, .un, by rw [nodeR_nil]; rfl⟩ ?_ ?_
  · rintro d c r s e ⟨x, y, rfl⟩
    have hd : d.length < 10000 := by
      have := congrArg List.length e
      rw [List.length_append, List.length_cons] at this
      omega
    simp_arith [eC, Ok_extendL, List.length_cons, List.length_nil, List.length_map, nodeR_len, nodeR_snoc, List.map_append]
    exact ⟨by decide, by unfold sz; omega, _, _, rfl⟩
  · rintro s ⟨x, y, rfl⟩
    simp_arith [w_lit]
theorem e_node_digest {ow : List Int} {ch : List (Nat × Int)} (h1 : ow.length ≤ 10000) (h2 : ch.length ≤ 10000) : evF pg N (k + 2) i_node_digest [.val (eNd ow ch)] mh = .ok (.val (.int (fold (nodeR ow ch))), mh) := by
  refine ofOk (w_F pg_node_digest rfl (by decide) ?_)
  simp_arith [d_node_digest, e_node_row h1 h2, e_fold_row]
theorem e_law_node_sum {ow : List Int} {ch : List (Nat × Int)} (h1 : ow.length ≤ 10000) (h2 : ch.length ≤ 10000) : evF pg N (k + 2) i__law_node_sum [.val (eNd ow ch)] mh = .ok (.val (.int (fold (nodeR ow ch))), mh) := by
  refine ofOk (w_F pg__law_node_sum rfl (by decide) ?_)
  simp_arith [d__law_node_sum, List.length_map, List.length_cons, List.length_nil]
  refine ⟨by decide, by unfold sz; omega, ?_⟩
  refine for_inv (fun d s => ∃ x y, s = ⟨[.val (eNd ow ch), .own (.lst ((nodeR ow d).map .int)), x, y], mh⟩) ⟨.un, .un, by rw [nodeR_nil]; rfl⟩ ?_ ?_
  · rintro d c r s e ⟨x, y, rfl⟩
    have hd : d.length < 10000 := by
      have := congrArg List.length e
      rw [List.length_append, List.length_cons] at this
      omega
    simp_arith [eC, List.length_cons, List.length_nil, List.length_map, nodeR_len, nodeR_snoc, List.map_append]
    exact ⟨by decide, by unfold sz; omega, _, _, rfl⟩
  · rintro s ⟨x, y, rfl⟩
    simp_arith [e_law_fold]
end

end Sk

end

section
set_option Elab.async false
set_option linter.all false
set_option maxRecDepth 100000
set_option maxHeartbeats 4000000
namespace Sk
open PySem
local macro_rules
  | `(tactic| simp_arith [$as,*]) => `(tactic| simp only [w_lit, w_var, w_tup, w_lst, w_dnew, w_bin, w_cmp, w_isnone, w_isinst, w_and, w_or, w_not, w_ife, w_idx, w_slc, w_rev, w_call, w_blt, w_meth, w_mut, w_rng, w_A0, w_A1, w_R0, w_R1, w_C0, w_C1, w_lcW, w_lc, w_lc2, w_dcW, w_dc, w_dvals, w_ex, w_asg, w_par, w_sub, w_ret, w_sif, w_whl, w_for, w_forF, w_pass, w_brk, w_cnt, w_B0, w_B1, w_test, w_iterR, ↓next_nx, ↓next_ret, ↓next_brk, ↓next_ct, ↓turn_nx, ↓turn_ct, ↓turn_brk, ↓turn_ret, ↓fin_ret, ↓fin_nx, Ok_ok, Ok_er, slotAt_mk, List.getD_cons_succ, List.getD_cons_zero, List.set_cons_succ, List.set_cons_zero, List.cons_append, List.nil_append, List.append_nil, List.replicate, List.foldl, varR_val, varR_own, varR_bor, peek_val, peek_own, peek_bor, peekS_val, peekS_own, peekS_bor, freeze_val, freeze_own, freeze_bor, frzS_own, frzS_val, iterF_val, iterF_own, iterF_bor, itfS_own, itfS_val, itfS_bor, asgR_val, asgR_own, asgR_bor, agS_val, agS_own, agS_bor, asgR_tp, asgD_nm, asgD_tp, asgAll_nil, asgAll_cons, wipeS_mk, backS_mk, toSls0, Ok_toSls1, toSl_val, toSl_own, toSl_bor, tslS_val, tslS_own, tslS_bor, esc_pg, cxF_call, cxF_N, outR_val, outR_own, outR_bor, outS_val, outS_own, content_val, content_own, content_bor, Option.isSome_some, valR_val, ownL_own, ownK_own, noBor_val, noBor_own, add_int, sub_int, len_lst, len_tup, len_dct, int_int, list_lst, list_tup, tuple_lst, tuple_tup, ord_str, itemsC_lst, itemsC_tup, itemsD_lst, itemsD_tup, itemsD_str, eq_int, ne_int, lt_int, gt_int, le_int, ge_int, truth_bl, truth_lst, truth_tup, part_non, part_int, Ok_md, Ok_fdiv, Ok_mul, Ok_idx_lst, Ok_idx_tup, Ok_idx_str, Ok_listr, isE_map, isE_snoc, subW_mk, Ok_sortset, atI0, atI1, atI2, atI3, cutD_to, cutD_from, eq_str, ne_str, decide_true, decide_false, Option.map_some, Option.map_none, pop_snoc, Ok_add_str, Ok_add_tup, Ok_add_lst, Ok_len_str, Ok_rng1, Ok_rng2, Ok_append, Ok_extendL, Ok_extendT, slc_tup, slc_lst, Ok_slc_str, still_val, rev_lst, if_true, if_false, ite_true, ite_false, Bool.false_eq_true, if_true', reduceIte, true_and, and_true, Bool.not_true, Bool.not_false, Bool.not_not, exists_eq_left', exists_eq_left, Option.some.injEq, $as,*])
/-! SpB: digests of all beginnings. -/
section
variable {N k : Nat} {mh : MH} {s : (List ((List Nat) × Int))} {p : (List Nat)}
def Sh (s : (List ((List Nat) × Int))) : Prop := s.length ≤ 60 ∧ ∀ q ∈ s, q.1.length ≤ 30
theorem Sh.short (h : Sh s) : Short s := fun q hq => Nat.le_trans (h.2 q hq) (by decide)
theorem Sh.begun (h : Sh s) : Sh (begun s p) := ⟨Nat.le_trans (List.length_filter_le _ _) h.1, fun q hq => h.2 q (begun_sub hq)⟩
theorem Sh.len (h : Sh s) : s.length < 4000 := Nat.lt_of_le_of_lt h.1 (by decide)
theorem take_pre {p n : (List Nat)} : n.take p.length = p ↔ p <+: n := by
  rw [List.prefix_iff_eq_take]
  exact eq_comm
theorem pre_snoc {p n : (List Nat)} {c : Nat} : (p ++ [c]) <+: n ↔ n.take p.length = p ∧ n[p.length]? = some c := by
  rw [take_pre]
  constructor
  · rintro ⟨r, rfl⟩
    refine ⟨⟨[c] ++ r, by simp⟩, by simp⟩
  · rintro ⟨⟨r, rfl⟩, h⟩
    cases r with
    | nil => simp at h
    | cons d r =>
      simp at h
      subst h
      exact ⟨r, by simp⟩
theorem mem_kids {x : (List Nat)} : x ∈ kids s p ↔ ∃ c, x = [c] ∧ ∃ q ∈ s, (p ++ [c]) <+: q.1 := by
  unfold kids
  rw [List.mem_filterMap]
  constructor
  · rintro ⟨q, hq, h⟩
    obtain ⟨hq1, hq2⟩ := List.mem_filter.mp hq
    rw [decide_eq_true_iff] at hq2
    cases e : q.1[p.length]? with
    | none => rw [e] at h; cases h
    | some c =>
      rw [e] at h
      cases h
      exact ⟨c, rfl, q, hq1, pre_snoc.mpr ⟨hq2, e⟩⟩
  · rintro ⟨c, rfl, q, hq, h⟩
    obtain ⟨h1, h2⟩ := pre_snoc.mp h
    exact ⟨q, List.mem_filter.mpr ⟨hq, decide_eq_true h1⟩, by rw [h2]; rfl⟩
theorem kid1 {x : (List Nat)} (h : x ∈ setE (kids s p)) : x = [x.headD 0] := by
  obtain ⟨c, rfl, _⟩ := mem_kids.mp (mem_setE.mp h)
  rfl
theorem kid_len {x : (List Nat)} (h : x ∈ setE (kids s p)) : (p ++ x).length = p.length + 1 := by
  rw [kid1 h]; simp
def dg (s : (List ((List Nat) × Int))) : Nat → (List Nat) → Int
  | 0, _ => 0
  | n + 1, p => fold (nodeR (own s p) ((setE (kids s p)).map fun x => (x.headD 0, dg s n (p ++ x))))
def DG (s : (List ((List Nat) × Int))) (p : (List Nat)) : Int := dg s 32 p
theorem no_kids (hs : Sh s) (h : 30 ≤ p.length) : setE (kids s p) = [] := by
  refine List.eq_nil_iff_forall_not_mem.mpr fun x hx => ?_
  obtain ⟨c, rfl, q, hq, hp⟩ := mem_kids.mp (mem_setE.mp hx)
  have h1 := hp.length_le
  have h2 := hs.2 q hq
  simp at h1
  omega
theorem dg_stable (hs : Sh s) : ∀ (n : Nat) (p : (List Nat)), 30 < p.length + (n + 1) → dg s (n + 1) p = dg s (n + 2) p
  | 0, p, h => by rw [dg, dg, no_kids hs (by omega)]; rfl
  | n + 1, p, h => by
    rw [dg, dg]
    refine congrArg (fun z => fold (nodeR (own s p) z)) (List.map_congr_left fun x hx => ?_)
    rw [dg_stable hs n (p ++ x) (by rw [kid_len hx]; omega)]
theorem DG_eq (hs : Sh s) (p : (List Nat)) : DG s p = fold (nodeR (own s p) ((setE (kids s p)).map fun x => (x.headD 0, DG s (p ++ x)))) := by
  unfold DG
  rw [dg]
  refine congrArg (fun z => fold (nodeR (own s p) z)) (List.map_congr_left fun x hx => ?_)
  rw [dg_stable hs 30 (p ++ x) (by omega)]
/-- what is begun by p has all that tells its digest -/
theorem own_begun {x : (List Nat)} : own (begun s p) (p ++ x) = own s (p ++ x) := by
  unfold own begun
  rw [List.filterMap_filter]
  congr 1
  funext q
  by_cases h : q.1 = p ++ x
  · rw [if_pos h, if_pos]
    rw [h, decide_eq_true_iff]; simp
  · rw [if_neg h]; split <;> rfl
theorem kids_begun {x : (List Nat)} : kids (begun s p) (p ++ x) = kids s (p ++ x) := by
  unfold kids begun
  rw [List.filter_filter]
  congr 1
  refine List.filter_congr fun q _ => ?_
  rw [Bool.eq_iff_iff, Bool.and_eq_true, decide_eq_true_iff, decide_eq_true_iff, take_pre, take_pre]
  exact ⟨And.left, fun h => ⟨h, (List.prefix_append p x).trans h⟩⟩
theorem dg_begun : ∀ (n : Nat) (x : (List Nat)), dg (begun s p) n (p ++ x) = dg s n (p ++ x)
  | 0, _ => rfl
  | n + 1, x => by
    rw [dg, dg, own_begun, kids_begun]
    refine congrArg (fun z => fold (nodeR _ z)) (List.map_congr_left fun y hy => ?_)
    rw [List.append_assoc, dg_begun n]
theorem DG_begun : DG (begun s p) p = DG s p := by
  have h := dg_begun (s := s) (p := p) 32 []
  rw [List.append_nil] at h
  exact h
/-- the beginnings of names -/
def pre (names : List (List Nat)) : List (List Nat) := setE ([] :: names.flatMap fun n => (List.range (n.length + 1)).map fun i => n.take i)
theorem mem_pre {names : List (List Nat)} {p : (List Nat)} : p ∈ pre names ↔ p = [] ∨ ∃ n ∈ names, p <+: n := by
  rw [pre, mem_setE, List.mem_cons, List.mem_flatMap]
  refine or_congr_right ⟨?_, ?_⟩
  · rintro ⟨n, hn, h⟩
    obtain ⟨i, _, rfl⟩ := List.mem_map.mp h
    exact ⟨n, hn, List.take_prefix i n⟩
  · rintro ⟨n, hn, h⟩
    refine ⟨n, hn, List.mem_map.mpr ⟨p.length, List.mem_range.mpr (Nat.lt_succ_of_le h.length_le), take_pre.mpr h⟩⟩
def nm (s : (List ((List Nat) × Int))) : List (List Nat) := s.map (·.1)
theorem flat_len {names : List (List Nat)} (h : ∀ n ∈ names, n.length ≤ 30) : (names.flatMap fun n => (List.range (n.length + 1)).map fun i => n.take i).length ≤ 31 * names.length := by
  induction names with
  | nil => simp
  | cons n ns ih =>
    have h1 := h n (List.mem_cons_self ..)
    have h2 := ih fun m hm => h m (List.mem_cons_of_mem _ hm)
    rw [List.flatMap_cons, List.length_append, List.length_map, List.length_range, List.length_cons]
    omega
structure NmOk (names : List (List Nat)) : Prop where
  len : names.length ≤ 128
  each : ∀ n ∈ names, n.length ≤ 30
theorem Sh.nm (h : Sh s) : NmOk (nm s) := ⟨by rw [Sk.nm, List.length_map]; exact Nat.le_trans h.1 (by decide), fun n hn => by
  obtain ⟨q, hq, rfl⟩ := List.mem_map.mp hn
  exact h.2 q hq⟩
theorem pre_len {names : List (List Nat)} (h : NmOk names) : (pre names).length ≤ 3969 := by
  refine Nat.le_trans len_setE ?_
  have := flat_len h.each
  have := h.len
  rw [List.length_cons]; omega
theorem mem_pre_len {names : List (List Nat)} (h : NmOk names) {p : (List Nat)} (hp : p ∈ pre names) : p.length ≤ 30 := by
  rcases mem_pre.mp hp with rfl | ⟨n, hn, q⟩
  · exact Nat.zero_le _
  · exact Nat.le_trans q.length_le (h.each n hn)
theorem kid_pre (hs : Sh s) {x : (List Nat)} (h : x ∈ setE (kids s p)) : p ++ x ∈ pre (nm s) := by
  obtain ⟨c, rfl, q, hq, hp⟩ := mem_kids.mp (mem_setE.mp h)
  exact mem_pre.mpr (.inr ⟨q.1, List.mem_map.mpr ⟨q, hq, rfl⟩, hp⟩)
theorem e_stale_prefixes {names : List (List Nat)} (h : NmOk names) : evF pg N (k + 1) i_stale_prefixes [.bor (.lst (names.map .str))] mh = .ok (.val (.tup ((pre names).map .str)), mh) := by
  refine ofOk (w_F pg_stale_prefixes rfl (by decide) ?_)
  simp_arith [d_stale_prefixes]
  refine ⟨by decide, ?_⟩
  refine lc2_inv (fun d a s => a = (d.flatMap fun n => (List.range (n.length + 1)).map fun i => n.take i).map D.str ∧ s = ⟨[.bor (.lst (names.map .str)), .un, .un], mh⟩) ⟨rfl, rfl⟩ ?_ ?_
  · rintro d n r a s e ⟨rfl, rfl⟩
    have hn : n ∈ names := by rw [e]; simp
    have hnl := h.each n hn
    simp_arith [w_lc2W]
    have e2 : ((n.length : Int) + 1).toNat = n.length + 1 := by omega
    simp_arith [e2, List.length_map, List.length_range]
    have hf : (d.flatMap fun n => (List.range (n.length + 1)).map fun i => n.take i).length ≤ 31 * d.length := flat_len fun m hm => h.each m (by rw [e]; exact List.mem_append_left _ hm)
    have hdl : d.length ≤ 128 := by
      have := h.len
      rw [e, List.length_append] at this
      omega
    refine ⟨by unfold sz; omega, by omega, by unfold sz; omega, ?_⟩
    refine lc_mpA (em := D.str) (fun i => n.take i) (fun i hi => ?_) ?_
    · simp_arith [w_lit]
      unfold sz; omega
    · simp_arith [w_lit]
      simp
  · rintro a s ⟨rfl, rfl⟩
    have hf := flat_len h.each
    have hl := h.len
    simp_arith [List.length_cons, List.length_map, List.length_nil]
    refine ⟨by unfold sz; omega, ?_⟩
    have e3 : D.str [] :: (names.flatMap fun n => (List.range (n.length + 1)).map fun i => n.take i).map D.str = ([] :: names.flatMap fun n => (List.range (n.length + 1)).map fun i => n.take i).map D.str := rfl
    rw [e3]
    simp_arith [List.length_cons]
    exact ⟨by omega, rfl⟩
end

end Sk

end

section
set_option Elab.async false
set_option linter.all false
set_option maxRecDepth 100000
set_option maxHeartbeats 4000000
namespace Sk
open PySem
local macro_rules
  | `(tactic| simp_arith [$as,*]) => `(tactic| simp only [w_lit, w_var, w_tup, w_lst, w_dnew, w_bin, w_cmp, w_isnone, w_isinst, w_and, w_or, w_not, w_ife, w_idx, w_slc, w_rev, w_call, w_blt, w_meth, w_mut, w_rng, w_A0, w_A1, w_R0, w_R1, w_C0, w_C1, w_lcW, w_lc, w_lc2, w_dcW, w_dc, w_dvals, w_ex, w_asg, w_par, w_sub, w_ret, w_sif, w_whl, w_for, w_forF, w_pass, w_brk, w_cnt, w_B0, w_B1, w_test, w_iterR, ↓next_nx, ↓next_ret, ↓next_brk, ↓next_ct, ↓turn_nx, ↓turn_ct, ↓turn_brk, ↓turn_ret, ↓fin_ret, ↓fin_nx, Ok_ok, Ok_er, slotAt_mk, List.getD_cons_succ, List.getD_cons_zero, List.set_cons_succ, List.set_cons_zero, List.cons_append, List.nil_append, List.append_nil, List.replicate, List.foldl, varR_val, varR_own, varR_bor, peek_val, peek_own, peek_bor, peekS_val, peekS_own, peekS_bor, freeze_val, freeze_own, freeze_bor, frzS_own, frzS_val, iterF_val, iterF_own, iterF_bor, itfS_own, itfS_val, itfS_bor, asgR_val, asgR_own, asgR_bor, agS_val, agS_own, agS_bor, asgR_tp, asgD_nm, asgD_tp, asgAll_nil, asgAll_cons, wipeS_mk, backS_mk, toSls0, Ok_toSls1, toSl_val, toSl_own, toSl_bor, tslS_val, tslS_own, tslS_bor, esc_pg, cxF_call, cxF_N, outR_val, outR_own, outR_bor, outS_val, outS_own, content_val, content_own, content_bor, Option.isSome_some, valR_val, ownL_own, ownK_own, noBor_val, noBor_own, add_int, sub_int, len_lst, len_tup, len_dct, int_int, list_lst, list_tup, tuple_lst, tuple_tup, ord_str, itemsC_lst, itemsC_tup, itemsD_lst, itemsD_tup, itemsD_str, eq_int, ne_int, lt_int, gt_int, le_int, ge_int, truth_bl, truth_lst, truth_tup, part_non, part_int, Ok_md, Ok_fdiv, Ok_mul, Ok_idx_lst, Ok_idx_tup, Ok_idx_str, Ok_listr, isE_map, isE_snoc, subW_mk, Ok_sortset, atI0, atI1, atI2, atI3, cutD_to, cutD_from, eq_str, ne_str, decide_true, decide_false, Option.map_some, Option.map_none, pop_snoc, Ok_add_str, Ok_add_tup, Ok_add_lst, Ok_len_str, Ok_rng1, Ok_rng2, Ok_append, Ok_extendL, Ok_extendT, slc_tup, slc_lst, Ok_slc_str, still_val, rev_lst, if_true, if_false, ite_true, ite_false, Bool.false_eq_true, if_true', reduceIte, true_and, and_true, Bool.not_true, Bool.not_false, Bool.not_not, exists_eq_left', exists_eq_left, Option.some.injEq, $as,*])
/-! SpC: ranks, the trees. -/
def eR (r : Int × (List Nat)) : D := .tup [.int r.1, .str r.2]
instance : En eR := ⟨.prod [.int, .str], fun _ => rfl, fun a b h => by cases a; cases b; simp only [eR, D.tup.injEq, List.cons.injEq, D.str.injEq, D.int.injEq, and_true] at h; exact Prod.ext h.1 h.2, by decide⟩
instance : EnS eR := ⟨.inl fun _ => rfl⟩
theorem eR_lt {i j : Int} {p q : (List Nat)} (h : i < j) : ltE eR (i, p) (j, q) = true := by
  unfold ltE ltD
  simp only [eR, toPy, toPys]
  rw [PySem.W.dataLt_pair (by simp [PySem.W.alike]) (by simp [PySem.W.alike])]
  have e : PyData.eqv (.int i) (.int j) = false := by
    simp only [PyData.eqv, beq_eq_false_iff_ne]
    omega
  rw [e, if_neg Bool.false_ne_true, PySem.W.dataLt_int, decide_eq_true h]
/-- longer ones first -/
def rk (ps : List (List Nat)) : List (List Nat) := (sortE eR (ps.map fun p => (0 - (p.length : Int), p))).map (·.2)
theorem rk_raw {ps : List (List Nat)} {r : Int × (List Nat)} (h : r ∈ sortE eR (ps.map fun p => (0 - (p.length : Int), p))) : r.1 = 0 - (r.2.length : Int) := by
  obtain ⟨p, _, rfl⟩ := List.mem_map.mp (mem_sortE.mp h)
  rfl
theorem rk_perm (ps : List (List Nat)) : (rk ps).Perm ps := by
  have h := ((sortE_perm (e := eR) (ps.map fun p => (0 - (p.length : Int), p))).map (·.2))
  rw [List.map_map] at h
  have e : ps.map ((·.2) ∘ fun p => (0 - (p.length : Int), p)) = ps := List.map_id' ps
  rw [e] at h
  exact h
theorem rk_sorted (ps : List (List Nat)) : (rk ps).Pairwise fun a b => b.length ≤ a.length := by
  unfold rk
  rw [List.pairwise_map]
  refine (sortE_sorted (e := eR) (ps.map fun p => (0 - (p.length : Int), p))).imp_of_mem ?_
  intro a b ha hb h
  have h1 := rk_raw ha
  have h2 := rk_raw hb
  refine Nat.le_of_not_lt fun z => ?_
  obtain ⟨i, p⟩ := a
  obtain ⟨j, q⟩ := b
  simp only at h1 h2 z
  rw [eR_lt (show j < i by omega)] at h
  cases h
/-- a longer one stands ahead -/
theorem rk_ahead {ps d r : List (List Nat)} {p q : (List Nat)} (e : rk ps = d ++ p :: r) (hq : q ∈ ps) (h : p.length < q.length) : q ∈ d := by
  have hm : q ∈ rk ps := (rk_perm ps).mem_iff.mpr hq
  rw [e, List.mem_append] at hm
  rcases hm with hm | hm
  · exact hm
  · have hs := rk_sorted ps
    rw [e, List.pairwise_append] at hs
    have hs2 := hs.2.1
    rw [List.pairwise_cons] at hs2
    rcases List.mem_cons.mp hm with rfl | hm
    · omega
    · have := hs2.1 q hm
      omega
section
variable {N k : Nat} {mh : MH} {s : (List ((List Nat) × Int))} {p : (List Nat)}
theorem len_sz {α : Type} {l : List α} (h : l.length ≤ 10000) : l.length ≤ sz := Nat.le_trans h (by decide)
theorem rk_pairs (ps : List (List Nat)) : (sortE eR (ps.map fun p => (0 - (p.length : Int), p))) = (rk ps).map fun p => (0 - (p.length : Int), p) := by
  unfold rk
  rw [List.map_map]
  conv => lhs; rw [← List.map_id (sortE eR _)]
  refine List.map_congr_left fun r hr => ?_
  have h := rk_raw hr
  obtain ⟨i, p⟩ := r
  simp only at h
  rw [h]; rfl
theorem e_ranked_prefixes {names : List (List Nat)} (h : NmOk names) : evF pg N (k + 2) i_ranked_prefixes [.bor (.lst (names.map .str))] mh = .ok (.own (.lst ((rk (pre names)).map .str)), mh) := by
  refine ofOk (w_F pg_ranked_prefixes rfl (by decide) ?_)
  simp_arith [d_ranked_prefixes, e_stale_prefixes h]
  refine lc_mp (em := eR) (fun p => (0 - (p.length : Int), p)) (fun p hp => ?_) ?_
  · simp_arith [eR, List.length_cons, List.length_nil]
    exact ⟨len_sz (Nat.le_trans (mem_pre_len h hp) (by decide)), by decide⟩
  · simp_arith [sorted_lst]
    refine lc_mp (em := D.str) (fun r => r.2) (fun r hr => ?_) ?_
    · simp_arith [eR]
    · simp_arith [w_lit]
      rfl
/-- a dict that has the digests of these -/
def Has (s : (List ((List Nat) × Int))) (d : List (List Nat)) (l : List ((List Nat) × Int)) : Prop := ∀ q, lk q l = if q ∈ d then some (DG s q) else none
theorem Has.nil : Has s [] [] := fun q => by simp [lk]
theorem Has.snoc {d : List (List Nat)} {l : List ((List Nat) × Int)} (h : Has s d l) (p : (List Nat)) : Has s (d ++ [p]) (pt p (DG s p) l) := fun q => by
  rw [lk_pt, h q]
  by_cases e : p = q
  · subst e; simp
  · have : q ≠ p := fun z => e z.symm
    simp [e, this]
theorem Has.congr {d d' : List (List Nat)} {l : List ((List Nat) × Int)} (h : Has s d l) (e : ∀ q, q ∈ d ↔ q ∈ d') : Has s d' l := fun q => by
  rw [h q]
  simp only [e q]
abbrev chs (s : (List ((List Nat) × Int))) (p : (List Nat)) : List (Nat × Int) := (setE (kids s p)).map fun x => (x.headD 0, DG s (p ++ x))
theorem chs_eC (s : (List ((List Nat) × Int))) (p : (List Nat)) : (chs s p).map eC = (setE (kids s p)).map fun x => .tup [.str x, .int (DG s (p ++ x))] := by
  rw [List.map_map]
  refine List.map_congr_left fun x hx => ?_
  show D.tup [.str [x.headD 0], .int (DG s (p ++ x))] = _
  rw [← kid1 hx]
theorem kids_len (hs : Sh s) : (setE (kids s p)).length ≤ 100 := Nat.le_trans len_setE (Nat.le_trans (Nat.le_trans (List.length_filterMap_le _ _) (List.length_filter_le _ _)) (Nat.le_trans hs.1 (by decide)))
theorem e_branch_pairs (hs : Sh s) (hp : p.length ≤ 30) {l : List ((List Nat) × Int)} (hl : ∀ x ∈ setE (kids s p), lk (p ++ x) l = some (DG s (p ++ x))) :
    evF pg N (k + 3) i_branch_pairs [.val (eS s), .bor (.dct (eK D.str D.int l)), .val (.str p)] mh = .ok (.val (.tup ((chs s p).map eC)), mh) := by
  refine ofOk (w_F pg_branch_pairs rfl (by decide) ?_)
  simp_arith [d_branch_pairs, e_branch_signs (Nat.le_trans hp (by decide)) hs.short hs.len]
  refine lc_mp (em := fun x => .tup [.str x, .int (DG s (p ++ x))]) (fun x => x) (fun x hx => ?_) ?_
  · simp_arith [Ok_idx_dct, hl x hx, List.length_cons, List.length_nil]
    refine ⟨?_, by decide⟩
    have := kid_len (p := p) hx
    rw [List.length_append] at this
    unfold sz; omega
  · rw [List.map_id']
    simp_arith [chs_eC]
theorem e_law_node (hs : Sh s) (hp : p.length ≤ 30) {l : List ((List Nat) × Int)} (hl : ∀ x ∈ setE (kids s p), lk (p ++ x) l = some (DG s (p ++ x))) :
    evF pg N (k + 3) i__law_node [.val (eS s), .bor (.dct (eK D.str D.int l)), .val (.str p)] mh = .ok (.val (eNd (own s p) (chs s p)), mh) := by
  refine ofOk (w_F pg__law_node rfl (by decide) ?_)
  simp_arith [d__law_node, e_law_signs (Nat.le_trans hp (by decide)) hs.short hs.len, e_law_own]
  refine lc_mp (em := fun x => .tup [.str x, .int (DG s (p ++ x))]) (fun x => x) (fun x hx => ?_) ?_
  · simp_arith [Ok_idx_dct, hl x hx, List.length_cons, List.length_nil]
    refine ⟨?_, by decide⟩
    have := kid_len (p := p) hx
    rw [List.length_append] at this
    unfold sz; omega
  · rw [List.map_id']
    simp_arith [List.length_cons, List.length_nil]
    exact ⟨by decide, by rw [eNd, chs_eC]⟩
theorem own_len : (own s p).length ≤ s.length := List.length_filterMap_le _ _
theorem e_node (hs : Sh s) : evF pg N (k + 2) i_node_digest [.val (.tup [.tup ((own s p).map .int), .tup ((chs s p).map eC)])] mh = .ok (.val (.int (DG s p)), mh) := by
  rw [DG_eq hs p]
  exact e_node_digest (Nat.le_trans own_len (Nat.le_trans hs.1 (by decide))) (by rw [List.length_map]; exact Nat.le_trans (kids_len hs) (by decide))
theorem e_law_nodes (hs : Sh s) : evF pg N (k + 2) i__law_node_sum [.val (.tup [.tup ((own s p).map .int), .tup ((chs s p).map eC)])] mh = .ok (.val (.int (DG s p)), mh) := by
  rw [DG_eq hs p]
  exact e_law_node_sum (Nat.le_trans own_len (Nat.le_trans hs.1 (by decide))) (by rw [List.length_map]; exact Nat.le_trans (kids_len hs) (by decide))
/-- the next one's node -/
theorem Has.kids {d r : List (List Nat)} {l : List ((List Nat) × Int)} (hs : Sh s) (h : Has s d l) (e : rk (pre (nm s)) = d ++ p :: r) : ∀ x ∈ setE (kids s p), lk (p ++ x) l = some (DG s (p ++ x)) := fun x hx => by
  rw [h, if_pos (rk_ahead e (kid_pre hs hx) (by rw [kid_len hx]; omega))]
theorem rk_mem_len (hs : Sh s) {d r : List (List Nat)} (e : rk (pre (nm s)) = d ++ p :: r) : p.length ≤ 30 :=
  mem_pre_len hs.nm ((rk_perm _).mem_iff.mp (by rw [e]; simp))
theorem rk_len (hs : Sh s) {d r : List (List Nat)} (e : rk (pre (nm s)) = d ++ r) : d.length ≤ 3969 := by
  have h1 := (rk_perm (pre (nm s))).length_eq
  have h2 := pre_len hs.nm
  rw [e, List.length_append] at h1
  omega
theorem e_digest_tree (hs : Sh s) : evF pg N (k + 4) i_digest_tree [.val (eS s)] mh = .ok (.val (.tup ((pre (nm s)).map fun p => eN (p, DG s p))), mh) := by
  refine ofOk (w_F pg_digest_tree rfl (by decide) ?_)
  simp_arith [d_digest_tree]
  refine lc_mp (em := D.str) (fun q => q.1) (fun q hq => ?_) ?_
  · simp_arith [eN]
  · have e0 : s.map (fun q => q.1) = nm s := rfl
    simp_arith [e0, e_ranked_prefixes hs.nm]
    refine for_inv (fun d st => ∃ x l, st = ⟨[.val (eS s), .own (.dct (eK D.str D.int l)), x, .un, .un], mh⟩ ∧ l.map (·.1) = d ∧ Has s d l) ⟨.un, [], rfl, rfl, .nil⟩ ?_ ?_
    · rintro d p r st e ⟨x, l, rfl, hk, hh⟩
      have hp := rk_mem_len hs e
      have hd := rk_len hs e
      have hnd : p ∉ d := by
        have h1 := (rk_perm (pre (nm s))).nodup_iff.mpr nodup_setE
        rw [e] at h1
        intro z
        exact (List.nodup_append.mp h1).2.2 p z p (List.mem_cons_self ..) rfl
      simp_arith [e_own_stamp, e_branch_pairs hs hp (hh.kids hs e), e_node hs, List.length_cons, List.length_nil, Ok_sbS]
      refine ⟨by decide, ?_, _, _, rfl, ?_, hh.snoc p⟩
      · have := congrArg List.length hk
        rw [List.length_map] at this
        unfold sz; omega
      · rw [pt_keys, hk, if_neg hnd]
    · rintro st ⟨x, l, rfl, hk, hh⟩
      have e1 : (eK D.str D.int l).map (·.1) = (l.map (·.1)).map D.str := by
        rw [eK, List.map_map, List.map_map]; rfl
      have e2 : bltM mh .sorted (.dct (eK D.str D.int l)) = .ok (.own (.lst ((pre (nm s)).map .str))) := by
        simp only [bltM, bltD, e1, En.okSort, allStr_map, Bool.and_self, if_true, sortD_map]
        have e3 : sortE D.str (l.map (·.1)) = pre (nm s) := by
          rw [hk, sortE_congr (e := D.str) (rk_perm _), pre, setE, sortE_self (sortE_sorted _)]
        rw [e3]
      simp_arith [e2]
      refine lc_mp (em := fun p => eN (p, DG s p)) (fun p => p) (fun p hp => ?_) ?_
      · have e4 : lk p l = some (DG s p) := by
          rw [hh, if_pos ((rk_perm _).mem_iff.mpr hp)]
        simp_arith [Ok_idx_dct, e4, List.length_cons, List.length_nil, eN]
        decide
      · rw [List.map_id']
        simp_arith [w_lit]
end

end Sk

end

section
set_option Elab.async false
set_option linter.all false
set_option maxRecDepth 100000
set_option maxHeartbeats 4000000
namespace Sk
open PySem
local macro_rules
  | `(tactic| simp_arith [$as,*]) => `(tactic| simp only [w_lit, w_var, w_tup, w_lst, w_dnew, w_bin, w_cmp, w_isnone, w_isinst, w_and, w_or, w_not, w_ife, w_idx, w_slc, w_rev, w_call, w_blt, w_meth, w_mut, w_rng, w_A0, w_A1, w_R0, w_R1, w_C0, w_C1, w_lcW, w_lc, w_lc2, w_dcW, w_dc, w_dvals, w_ex, w_asg, w_par, w_sub, w_ret, w_sif, w_whl, w_for, w_forF, w_pass, w_brk, w_cnt, w_B0, w_B1, w_test, w_iterR, ↓next_nx, ↓next_ret, ↓next_brk, ↓next_ct, ↓turn_nx, ↓turn_ct, ↓turn_brk, ↓turn_ret, ↓fin_ret, ↓fin_nx, Ok_ok, Ok_er, slotAt_mk, List.getD_cons_succ, List.getD_cons_zero, List.set_cons_succ, List.set_cons_zero, List.cons_append, List.nil_append, List.append_nil, List.replicate, List.foldl, varR_val, varR_own, varR_bor, peek_val, peek_own, peek_bor, peekS_val, peekS_own, peekS_bor, freeze_val, freeze_own, freeze_bor, frzS_own, frzS_val, iterF_val, iterF_own, iterF_bor, itfS_own, itfS_val, itfS_bor, asgR_val, asgR_own, asgR_bor, agS_val, agS_own, agS_bor, asgR_tp, asgD_nm, asgD_tp, asgAll_nil, asgAll_cons, wipeS_mk, backS_mk, toSls0, Ok_toSls1, toSl_val, toSl_own, toSl_bor, tslS_val, tslS_own, tslS_bor, esc_pg, cxF_call, cxF_N, outR_val, outR_own, outR_bor, outS_val, outS_own, content_val, content_own, content_bor, Option.isSome_some, valR_val, ownL_own, ownK_own, noBor_val, noBor_own, add_int, sub_int, len_lst, len_tup, len_dct, int_int, list_lst, list_tup, tuple_lst, tuple_tup, ord_str, itemsC_lst, itemsC_tup, itemsD_lst, itemsD_tup, itemsD_str, eq_int, ne_int, lt_int, gt_int, le_int, ge_int, truth_bl, truth_lst, truth_tup, part_non, part_int, Ok_md, Ok_fdiv, Ok_mul, Ok_idx_lst, Ok_idx_tup, Ok_idx_str, Ok_listr, isE_map, isE_snoc, subW_mk, Ok_sortset, atI0, atI1, atI2, atI3, cutD_to, cutD_from, eq_str, ne_str, decide_true, decide_false, Option.map_some, Option.map_none, pop_snoc, Ok_add_str, Ok_add_tup, Ok_add_lst, Ok_len_str, Ok_rng1, Ok_rng2, Ok_append, Ok_extendL, Ok_extendT, slc_tup, slc_lst, Ok_slc_str, still_val, rev_lst, if_true, if_false, ite_true, ite_false, Bool.false_eq_true, if_true', reduceIte, true_and, and_true, Bool.not_true, Bool.not_false, Bool.not_not, exists_eq_left', exists_eq_left, Option.some.injEq, $as,*])
/-! SpD: the law's tree, one digest. -/
section
variable {N k : Nat} {mh : MH} {s : (List ((List Nat) × Int))} {p : (List Nat)}
theorem flat1_len {names : List (List Nat)} (h : ∀ n ∈ names, n.length ≤ 30) : ∀ raw : List (List Nat), raw.length ≤ 31 * names.length + 1 → raw.length ≤ 31 * names.length + 1 := fun _ h => h
/-- what the law's begins has after some names -/
structure Raw (d raw : List (List Nat)) : Prop where
  nd : raw.Nodup
  mem : ∀ p, p ∈ raw ↔ p = [] ∨ ∃ n ∈ d, p <+: n
  len : raw.length ≤ 31 * d.length + 1
theorem Raw.snoc {d raw : List (List Nat)} (h : Raw d raw) {n : (List Nat)} (hn : n.length ≤ 30) :
    Raw (d ++ [n]) (raw ++ (List.range n.length).filterMap fun i => if n.take (1 + i) ∈ raw then none else some (n.take (1 + i))) := by
  have hm : ∀ p, (p ∈ (List.range n.length).filterMap fun i => if n.take (1 + i) ∈ raw then none else some (n.take (1 + i))) ↔ ∃ i < n.length, n.take (1 + i) ∉ raw ∧ n.take (1 + i) = p := fun p => by
    rw [List.mem_filterMap]
    constructor
    · rintro ⟨i, hi, e⟩
      split at e
      · cases e
      · rename_i hnr
        cases e
        exact ⟨i, List.mem_range.mp hi, hnr, rfl⟩
    · rintro ⟨i, hi, hnr, rfl⟩
      exact ⟨i, List.mem_range.mpr hi, by rw [if_neg hnr]⟩
  refine ⟨List.nodup_append.mpr ⟨h.nd, ?_, ?_⟩, fun p => ?_, ?_⟩
  · rw [List.nodup_iff_pairwise_ne, List.pairwise_filterMap]
    refine (List.pairwise_lt_range (n := n.length)).imp_of_mem ?_
    intro i j hi hj hij a ha b hb e
    have hi := List.mem_range.mp hi
    have hj := List.mem_range.mp hj
    split at ha
    · cases ha
    · split at hb
      · cases hb
      · cases ha
        cases hb
        have := congrArg List.length e
        rw [List.length_take, List.length_take] at this
        omega
  · rintro a ha b hb rfl
    obtain ⟨i, _, hnr, e⟩ := (hm a).mp hb
    exact hnr (by rw [e]; exact ha)
  · rw [List.mem_append, h.mem, hm]
    constructor
    · rintro ((rfl | ⟨m, hm1, hp⟩) | ⟨i, hi, hnr, rfl⟩)
      · exact .inl rfl
      · exact .inr ⟨m, List.mem_append_left _ hm1, hp⟩
      · exact .inr ⟨n, by simp, List.take_prefix _ _⟩
    · rintro (rfl | ⟨m, hm1, hp⟩)
      · exact .inl (.inl rfl)
      · rcases List.mem_append.mp hm1 with hm2 | hm2
        · exact .inl (.inr ⟨m, hm2, hp⟩)
        · rw [List.mem_singleton] at hm2
          subst hm2
          by_cases hr : p ∈ raw
          · exact .inl ((h.mem p).mp hr)
          · refine .inr ?_
            have hl := hp.length_le
            have hp0 : p ≠ [] := fun z => hr ((h.mem p).mpr (.inl z))
            have h0 : 0 < p.length := List.length_pos_iff.mpr hp0
            have e : 1 + (p.length - 1) = p.length := by omega
            refine ⟨p.length - 1, by omega, ?_, ?_⟩
            · rw [e, take_pre.mpr hp]; exact hr
            · rw [e, take_pre.mpr hp]
  · rw [List.length_append, List.length_append]
    have := List.length_filterMap_le (fun i => if n.take (1 + i) ∈ raw then none else some (n.take (1 + i))) (List.range n.length)
    rw [List.length_range] at this
    have := h.len
    simp only [List.length_cons, List.length_nil]
    omega
theorem Raw.pre {d raw : List (List Nat)} (h : Raw d raw) : sortE D.str raw = pre d := by
  unfold Sk.pre setE
  refine sort_same h.nd nodup_ddE fun a => ?_
  rw [h.mem, mem_ddE, ← mem_setE]
  exact mem_pre.symm
theorem e_law_begins_gen {names : List (List Nat)} (h : NmOk names) {x : Sl} {d : D} (hx : (x = .bor (.lst (names.map .str)) ∧ d = .lst (names.map .str)) ∨ (x = .val (.tup (names.map .str)) ∧ d = .tup (names.map .str))) :
    evF pg N (k + 1) i__law_begins [x] mh = .ok (.own (.lst ((pre names).map .str)), mh) := by
  have core : ∀ {Q : Fl × S → Prop}, (∀ y z raw, Raw names raw → Q (.nx, ⟨[x, .own (.lst (raw.map D.str)), y, z], mh⟩)) → Ok (forLoop (forF (cxF pg N k) (.nm 2) [.asg (.nm 1) (.bin .add (.var 1) (.lc [3] (.nm 3) (.rng [(.lit (.int 1)), (.bin .add (.blt .len (.var 2)) (.lit (.int 1)))]) [(.cmp .nin (.slc (.var 2) (.lit .non) (.var 3)) (.var 1))] (.slc (.var 2) (.lit .non) (.var 3))))]) (names.map .str) ⟨[x, .own (.lst [.str []]), .un, .un], mh⟩) Q := by
    intro Q hQ
    refine for_inv (fun d s => ∃ y z raw, s = ⟨[x, .own (.lst (raw.map D.str)), y, z], mh⟩ ∧ Raw d raw) ⟨.un, .un, [[]], rfl, ⟨by simp, fun p => by simp, by simp⟩⟩ ?_ ?_
    · rintro d n r s e ⟨y, z, raw, rfl, hr⟩
      have hnl : n.length ≤ 30 := h.each n (by rw [e]; simp)
      have hdl : d.length ≤ 128 := by
        have := h.len
        rw [e, List.length_append] at this
        omega
      have hrl := hr.len
      have e1 : ((n.length : Int) + 1 - 1).toNat = n.length := by omega
      simp_arith [e1]
      refine ⟨by unfold sz; omega, by omega, ?_⟩
      refine lc_fm (em := D.str) (en := fun (i : Nat) => D.int (1 + (i : Int))) (fun i => if n.take (1 + i) ∈ raw then none else some (n.take (1 + i))) (fun i hi => ?_) ?_
      · have e2 : (1 : Int) + (i : Int) = ((1 + i : Nat) : Int) := by omega
        simp_arith [e2]
        refine ⟨by unfold sz; omega, ?_⟩
        by_cases hm : n.take (1 + i) ∈ raw
        · simp_arith [En.nin_lst, hm]
        · simp_arith [En.nin_lst, hm]
          unfold sz; omega
      · simp_arith [List.length_map, ← List.map_append]
        have := (hr.snoc hnl).len
        rw [List.length_append, List.length_append] at this
        refine ⟨?_, _, _, _, rfl, hr.snoc hnl⟩
        simp only [List.length_cons, List.length_nil] at this
        unfold sz; omega
    · rintro s ⟨y, z, raw, rfl, hr⟩
      exact hQ _ _ _ hr
  refine ofOk (w_F pg__law_begins rfl (by decide) ?_)
  rcases hx with ⟨rfl, rfl⟩ | ⟨rfl, rfl⟩
  · simp_arith [d__law_begins, List.length_cons, List.length_nil]
    refine ⟨by decide, core fun y z raw hr => ?_⟩
    simp_arith [sorted_lst, hr.pre]
  · simp_arith [d__law_begins, List.length_cons, List.length_nil]
    refine ⟨by decide, core fun y z raw hr => ?_⟩
    simp_arith [sorted_lst, hr.pre]
theorem e_law_begins {names : List (List Nat)} (h : NmOk names) : evF pg N (k + 1) i__law_begins [.bor (.lst (names.map .str))] mh = .ok (.own (.lst ((pre names).map .str)), mh) := e_law_begins_gen h (.inl ⟨rfl, rfl⟩)
theorem e_law_beginsT {names : List (List Nat)} (h : NmOk names) : evF pg N (k + 1) i__law_begins [.val (.tup (names.map .str))] mh = .ok (.own (.lst ((pre names).map .str)), mh) := e_law_begins_gen h (.inr ⟨rfl, rfl⟩)
/-- the whole tree -/
abbrev Tree (s : (List ((List Nat) × Int))) (l : List ((List Nat) × Int)) : Prop := Has s (pre (nm s)) l
theorem e_law_tree (hs : Sh s) : ∃ l, Tree s l ∧ ∀ mh, evF pg N (k + 4) i__law_tree [.val (eS s)] mh = .ok (.own (.dct (eK D.str D.int l)), mh) := by
  have key : ∀ mh, ∃ l, Tree s l ∧ l = (rk (pre (nm s))).map (fun p => (p, DG s p)) ∧ evF pg N (k + 4) i__law_tree [.val (eS s)] mh = .ok (.own (.dct (eK D.str D.int l)), mh) := by
    intro mh
    refine ⟨_, ?_, rfl, ?_⟩
    · intro q
      have : ∀ ps : List (List Nat), lk q (ps.map fun p => (p, DG s p)) = if q ∈ ps then some (DG s q) else none := by
        intro ps
        induction ps with
        | nil => simp [lk]
        | cons p ps ih =>
          rw [List.map_cons, lk, ih]
          by_cases e : p = q
          · subst e; simp
          · have : q ≠ p := fun z => e z.symm
            simp [e, this]
      rw [this]
      simp only [(rk_perm _).mem_iff]
    · refine ofOk (w_F pg__law_tree rfl (by decide) ?_)
      simp_arith [d__law_tree]
      refine lc_mp (em := D.str) (fun q => q.1) (fun q hq => ?_) ?_
      · simp_arith [eN]
      · have e0 : s.map (fun q => q.1) = nm s := rfl
        simp_arith [e0, e_law_begins hs.nm]
        refine lc_mp (em := eR) (fun p => (0 - (p.length : Int), p)) (fun p hp => ?_) ?_
        · simp_arith [eR, List.length_cons, List.length_nil]
          exact ⟨len_sz (Nat.le_trans (mem_pre_len hs.nm hp) (by decide)), by decide⟩
        · simp_arith [sorted_lst, rk_pairs]
          rw [List.map_map]
          refine for_inv (fun d st => ∃ x y, st = ⟨[.val (eS s), .own (.dct (eK D.str D.int (d.map fun p => (p, DG s p)))), x, y, .un, .un], mh⟩) ⟨.un, .un, rfl⟩ ?_ ?_
          · rintro d p r st e ⟨x, y, rfl⟩
            have hp := rk_mem_len hs e
            have hd := rk_len hs e
            have hnd : p ∉ d := by
              have h1 := (rk_perm (pre (nm s))).nodup_iff.mpr nodup_setE
              rw [e] at h1
              intro z
              exact (List.nodup_append.mp h1).2.2 p z p (List.mem_cons_self ..) rfl
            have hh : Has s d (d.map fun p => (p, DG s p)) := fun q => by
              clear hd hnd e
              induction d with
              | nil => simp [lk]
              | cons p ps ih =>
                rw [List.map_cons, lk, ih]
                by_cases e : p = q
                · subst e; simp
                · have : q ≠ p := fun z => e z.symm
                  simp [e, this]
            have e5 : pt p (DG s p) (d.map fun p => (p, DG s p)) = (d ++ [p]).map fun p => (p, DG s p) := by
              unfold pt
              rw [if_neg, List.map_append]; rfl
              rw [List.map_map]
              intro z
              obtain ⟨q, hq, rfl⟩ := List.mem_map.mp z
              exact hnd hq
            simp_arith [e5, Function.comp, eR, e_law_node hs hp (hh.kids hs e), e_law_nodes hs, List.length_cons, List.length_nil, Ok_sbS, List.length_map]
            exact ⟨by unfold sz; omega, _, _, rfl⟩
          · rintro st ⟨x, y, rfl⟩
            simp_arith [w_lit]
  refine ⟨_, (key []).choose_spec.1, fun mh => ?_⟩
  obtain ⟨l, _, e, h⟩ := key mh
  rw [(key []).choose_spec.2.1, ← e]
  exact h
theorem e_digest_under (hs : Sh s) (hp : p.length ≤ 31) : evF pg N (k + 5) i_digest_under [.val (eS s), .val (.str p)] mh = .ok (.val (.int (DG s p)), mh) := by
  refine ofOk (w_F pg_digest_under rfl (by decide) ?_)
  simp_arith [d_digest_under, e_begun_by (Nat.le_trans hp (by decide)) hs.short]
  cases hb : begun s p with
  | nil =>
    have e0 : own s p = [] := by
      have := own_begun (s := s) (p := p) (x := [])
      rw [List.append_nil, hb] at this
      rw [← this]; rfl
    have e1 : chs s p = [] := by
      have := kids_begun (s := s) (p := p) (x := [])
      rw [List.append_nil, hb] at this
      rw [chs, ← this]
      simp [kids, setE, ddE, sortE]
    have e2 := e_node (N := N) (k := k + 2) (mh := mh) (p := p) hs
    rw [e0, e1] at e2
    simp only [List.map_nil] at e2
    simp_arith [List.map_nil, List.isEmpty_nil, e2, List.length_cons, List.length_nil]
    decide
  | cons q qs =>
    have hsb : Sh (begun s p) := hs.begun
    have e3 : (DG (begun s p) p) = DG s p := DG_begun
    have hpp : p ∈ pre (nm (begun s p)) := by
      have hq : q ∈ begun s p := by rw [hb]; exact List.mem_cons_self
      exact mem_pre.mpr (.inr ⟨q.1, List.mem_map.mpr ⟨q, hq, rfl⟩, take_pre.mp (of_decide_eq_true (List.mem_filter.mp hq).2)⟩)
    rw [← hb]
    have e4 : (begun s p).isEmpty = false := by rw [hb]; rfl
    simp_arith [e4, e_digest_tree hsb]
    refine dc_inv (fun d a st => ∃ l, a = eK D.str D.int l ∧ l.length ≤ d.length ∧ Has (begun s p) d l ∧ st = ⟨[.val (eS s), .val (.str p), .val (eS (begun s p)), .un, .un, .un], mh⟩) ⟨[], rfl, by simp, .nil, rfl⟩ ?_ ?_
    · rintro d x r a st e ⟨l, rfl, hll, hh, rfl⟩
      have hdl : d.length ≤ 3969 := by
        have h1 := pre_len hsb.nm
        rw [e, List.length_append] at h1
        omega
      simp_arith [eN, isAtom]
      refine ⟨by rw [List.length_map]; unfold sz; omega, _, putD_eK (e := D.str) (v := D.int) x _ l, ?_, hh.snoc x⟩
      have := pt_len x (DG (begun s p) x) l
      rw [List.length_append]
      simp only [List.length_cons, List.length_nil]
      omega
    · rintro a st ⟨l, rfl, hll, hh, rfl⟩
      have e5 : lk p l = some (DG s p) := by rw [hh, if_pos hpp, e3]
      simp_arith [Ok_idx_dct, e5]
end

end Sk

end

section
set_option Elab.async false
set_option linter.all false
set_option maxRecDepth 100000
set_option maxHeartbeats 4000000
namespace Sk
open PySem
local macro_rules
  | `(tactic| simp_arith [$as,*]) => `(tactic| simp only [w_lit, w_var, w_tup, w_lst, w_dnew, w_bin, w_cmp, w_isnone, w_isinst, w_and, w_or, w_not, w_ife, w_idx, w_slc, w_rev, w_call, w_blt, w_meth, w_mut, w_rng, w_A0, w_A1, w_R0, w_R1, w_C0, w_C1, w_lcW, w_lc, w_lc2, w_dcW, w_dc, w_dvals, w_ex, w_asg, w_par, w_sub, w_ret, w_sif, w_whl, w_for, w_forF, w_pass, w_brk, w_cnt, w_B0, w_B1, w_test, w_iterR, ↓next_nx, ↓next_ret, ↓next_brk, ↓next_ct, ↓turn_nx, ↓turn_ct, ↓turn_brk, ↓turn_ret, ↓fin_ret, ↓fin_nx, Ok_ok, Ok_er, slotAt_mk, List.getD_cons_succ, List.getD_cons_zero, List.set_cons_succ, List.set_cons_zero, List.cons_append, List.nil_append, List.append_nil, List.replicate, List.foldl, varR_val, varR_own, varR_bor, peek_val, peek_own, peek_bor, peekS_val, peekS_own, peekS_bor, freeze_val, freeze_own, freeze_bor, frzS_own, frzS_val, iterF_val, iterF_own, iterF_bor, itfS_own, itfS_val, itfS_bor, asgR_val, asgR_own, asgR_bor, agS_val, agS_own, agS_bor, asgR_tp, asgD_nm, asgD_tp, asgAll_nil, asgAll_cons, wipeS_mk, backS_mk, toSls0, Ok_toSls1, toSl_val, toSl_own, toSl_bor, tslS_val, tslS_own, tslS_bor, esc_pg, cxF_call, cxF_N, outR_val, outR_own, outR_bor, outS_val, outS_own, content_val, content_own, content_bor, Option.isSome_some, valR_val, ownL_own, ownK_own, noBor_val, noBor_own, add_int, sub_int, len_lst, len_tup, len_dct, int_int, list_lst, list_tup, tuple_lst, tuple_tup, ord_str, itemsC_lst, itemsC_tup, itemsD_lst, itemsD_tup, itemsD_str, eq_int, ne_int, lt_int, gt_int, le_int, ge_int, truth_bl, truth_lst, truth_tup, part_non, part_int, Ok_md, Ok_fdiv, Ok_mul, Ok_idx_lst, Ok_idx_tup, Ok_idx_str, Ok_listr, isE_map, isE_snoc, subW_mk, Ok_sortset, atI0, atI1, atI2, atI3, cutD_to, cutD_from, eq_str, ne_str, decide_true, decide_false, Option.map_some, Option.map_none, pop_snoc, Ok_add_str, Ok_add_tup, Ok_add_lst, Ok_len_str, Ok_rng1, Ok_rng2, Ok_append, Ok_extendL, Ok_extendT, slc_tup, slc_lst, Ok_slc_str, still_val, rev_lst, if_true, if_false, ite_true, ite_false, Bool.false_eq_true, if_true', reduceIte, true_and, and_true, Bool.not_true, Bool.not_false, Bool.not_not, exists_eq_left', exists_eq_left, Option.some.injEq, $as,*])
/-! SpE: what a search looks at. -/
section
variable {K K' : (List Nat) → List (List Nat)}
/-- all that is looked at below p -/
def vis (K : (List Nat) → List (List Nat)) : Nat → (List Nat) → List (List Nat)
  | 0, p => [p]
  | n + 1, p => p :: (K p).flatMap (vis K n)
theorem flat_perm {α β : Type} {f g : α → List β} : ∀ {l : List α}, (∀ a ∈ l, (f a).Perm (g a)) → (l.flatMap f).Perm (l.flatMap g)
  | [], _ => .refl _
  | a :: l, h => by
    rw [List.flatMap_cons, List.flatMap_cons]
    exact (h a (List.mem_cons_self ..)).append (flat_perm fun b hb => h b (List.mem_cons_of_mem _ hb))
theorem perm_flat {α β : Type} {f : α → List β} {l m : List α} (h : l.Perm m) : (l.flatMap f).Perm (m.flatMap f) := by
  induction h with
  | nil => exact .refl _
  | cons a _ ih => rw [List.flatMap_cons, List.flatMap_cons]; exact ih.append_left _
  | swap a b l =>
    rw [List.flatMap_cons, List.flatMap_cons, List.flatMap_cons, List.flatMap_cons, ← List.append_assoc, ← List.append_assoc]
    exact List.perm_append_comm.append_right _
  | trans _ _ i1 i2 => exact i1.trans i2
theorem vis_perm (h : ∀ p, (K p).Perm (K' p)) : ∀ (n : Nat) (p : (List Nat)), (vis K n p).Perm (vis K' n p)
  | 0, p => .refl _
  | n + 1, p => by
    rw [vis, vis]
    exact ((flat_perm fun a _ => vis_perm h n a).trans (perm_flat (h p))).cons p
/-- children are longer by one, none from 30 on -/
structure Grows (K : (List Nat) → List (List Nat)) : Prop where
  one : ∀ p, ∀ q ∈ K p, ∃ c, q = p ++ [c]
  nd : ∀ p, (K p).Nodup
  fin : ∀ p, 30 ≤ p.length → K p = []
theorem vis_stable (h : Grows K) : ∀ (n : Nat) (p : (List Nat)), 30 ≤ p.length + n → vis K n p = vis K (n + 1) p
  | 0, p, hn => by rw [vis, vis, h.fin p hn]; rfl
  | n + 1, p, hn => by
    have e : (K p).flatMap (vis K n) = (K p).flatMap (vis K (n + 1)) := by
      have : ∀ l : List (List Nat), (∀ q ∈ l, q ∈ K p) → l.flatMap (vis K n) = l.flatMap (vis K (n + 1)) := by
        intro l
        induction l with
        | nil => intro _; rfl
        | cons q l ih =>
          intro hl
          obtain ⟨c, rfl⟩ := h.one p q (hl q (List.mem_cons_self ..))
          rw [List.flatMap_cons, List.flatMap_cons, ih fun r hr => hl r (List.mem_cons_of_mem _ hr), vis_stable h n (p ++ [c]) (by simp; omega)]
      exact this _ fun _ hq => hq
    rw [vis, e]
    rfl
def V (K : (List Nat) → List (List Nat)) (p : (List Nat)) : List (List Nat) := vis K 32 p
theorem vis_succ (n : Nat) (p : (List Nat)) : vis K (n + 1) p = p :: (K p).flatMap (vis K n) := rfl
theorem vis_self : ∀ (n : Nat) (p : (List Nat)), p ∈ vis K n p
  | 0, p => by simp [vis]
  | n + 1, p => by rw [vis]; exact List.mem_cons_self
theorem V_eq (h : Grows K) (p : (List Nat)) : V K p = p :: (K p).flatMap (V K) := (vis_stable h 32 p (by omega)).trans (vis_succ 32 p)
theorem vis_pre (h : Grows K) : ∀ (n : Nat) (p q : (List Nat)), q ∈ vis K n p → p <+: q
  | 0, p, q, hq => by rw [vis, List.mem_singleton] at hq; rw [hq]; exact List.prefix_refl _
  | n + 1, p, q, hq => by
    rw [vis, List.mem_cons] at hq
    rcases hq with rfl | hq
    · exact List.prefix_refl _
    · obtain ⟨r, hr, hq⟩ := List.mem_flatMap.mp hq
      obtain ⟨c, rfl⟩ := h.one p r hr
      exact (List.prefix_append p [c]).trans (vis_pre h n _ q hq)
theorem vis_nodup (h : Grows K) : ∀ (n : Nat) (p : (List Nat)), (vis K n p).Nodup
  | 0, p => by simp [vis]
  | n + 1, p => by
    rw [vis, List.nodup_cons]
    constructor
    · intro hm
      obtain ⟨r, hr, hq⟩ := List.mem_flatMap.mp hm
      obtain ⟨c, rfl⟩ := h.one p r hr
      have := (vis_pre h n _ p hq).length_le
      simp at this
      omega
    · have : ∀ l : List (List Nat), l.Nodup → (∀ q ∈ l, q ∈ K p) → (l.flatMap (vis K n)).Nodup := by
        intro l
        induction l with
        | nil => intro _ _; simp
        | cons q l ih =>
          intro hn hl
          rw [List.flatMap_cons, List.nodup_append]
          obtain ⟨h1, h2⟩ := List.nodup_cons.mp hn
          refine ⟨vis_nodup h n q, ih h2 fun r hr => hl r (List.mem_cons_of_mem _ hr), ?_⟩
          rintro a ha b hb rfl
          obtain ⟨r, hr, hb⟩ := List.mem_flatMap.mp hb
          obtain ⟨c, e1⟩ := h.one p q (hl q (List.mem_cons_self ..))
          obtain ⟨d, e2⟩ := h.one p r (hl r (List.mem_cons_of_mem _ hr))
          have p1 := vis_pre h n q a ha
          have p2 := vis_pre h n r a hb
          have el : q.length = r.length := by rw [e1, e2]; simp
          have eq : q = r := by
            rw [List.prefix_iff_eq_take] at p1 p2
            rw [p1, p2, el]
          subst eq
          exact h1 hr
      exact this _ (h.nd p) fun _ hq => hq
/-- what is looked at, step by step -/
theorem vis_mem (h : Grows K) {P : (List Nat) → Prop} (hk : ∀ p, P p → ∀ q ∈ K p, P q) : ∀ (n : Nat) (p : (List Nat)), P p → ∀ q ∈ vis K n p, P q
  | 0, p, hp, q, hq => by rw [vis, List.mem_singleton] at hq; rw [hq]; exact hp
  | n + 1, p, hp, q, hq => by
    rw [vis, List.mem_cons] at hq
    rcases hq with rfl | hq
    · exact hp
    · obtain ⟨r, hr, hq⟩ := List.mem_flatMap.mp hq
      exact vis_mem h hk n r (hk p hp r hr) q hq
theorem V_kid (h : Grows K) {p q r : (List Nat)} (hq : q ∈ V K r) (hp : p ∈ K q) : p ∈ V K r := by
  have key : ∀ (n : Nat) (r : (List Nat)), 30 ≤ r.length + n → q ∈ vis K n r → p ∈ vis K (n + 1) r := by
    intro n
    induction n with
    | zero =>
      intro r hr hq
      rw [vis, List.mem_singleton] at hq
      subst hq
      rw [h.fin q hr] at hp
      cases hp
    | succ n ih =>
      intro r hr hq
      rw [vis, List.mem_cons] at hq
      rw [vis, List.mem_cons]
      rcases hq with rfl | hq
      · refine .inr (List.mem_flatMap.mpr ⟨p, hp, ?_⟩)
        rw [vis]
        exact List.mem_cons_self
      · obtain ⟨u, hu, hq⟩ := List.mem_flatMap.mp hq
        obtain ⟨c, rfl⟩ := h.one r u hu
        exact .inr (List.mem_flatMap.mpr ⟨_, hu, ih _ (by simp; omega) hq⟩)
  have e := vis_stable h 32 r (by omega)
  have q2 := key 32 r (by omega) hq
  rw [← e] at q2
  exact q2
theorem V_self (p : (List Nat)) : p ∈ V K p := vis_self 32 p
end
theorem nodup_len {α : Type} [DecidableEq α] : ∀ {l m : List α}, l.Nodup → (∀ a ∈ l, a ∈ m) → l.length ≤ m.length
  | [], _, _, _ => Nat.zero_le _
  | a :: l, m, h, hm => by
    obtain ⟨h1, h2⟩ := List.nodup_cons.mp h
    have h3 := hm a (List.mem_cons_self ..)
    have h4 := nodup_len (m := m.erase a) h2 fun b hb => by
      have hne : b ≠ a := fun z => h1 (by rw [← z]; exact hb)
      exact (List.mem_erase_of_ne hne).mpr (hm b (List.mem_cons_of_mem _ hb))
    have h5 := List.length_erase_of_mem h3
    have h6 := List.length_pos_of_mem h3
    rw [List.length_cons]
    omega
/-! the two ways to tell the children -/
section
variable {s t : (List ((List Nat) × Int))} {p : (List Nat)}
def df (s t : (List ((List Nat) × Int))) (p x : (List Nat)) : Bool := decide (p ++ x ∉ pre (nm s)) || (decide (p ++ x ∉ pre (nm t)) || !decide (DG s (p ++ x) = DG t (p ++ x)))
abbrev sg (s : (List ((List Nat) × Int))) (p : (List Nat)) : List (List Nat) := setE (kids s p)
def dsL (s t : (List ((List Nat) × Int))) (p : (List Nat)) : List (List Nat) := (setE (sg s p ++ sg t p)).filter (df s t p)
def dsP (s t : (List ((List Nat) × Int))) (p : (List Nat)) : List (List Nat) := (sg s p).filter (fun x => !decide (x ∈ sg t p)) ++ (sg t p).filter (fun x => !decide (x ∈ sg s p)) ++ (sg s p).filter (fun x => decide (x ∈ sg t p) && !decide (DG s (p ++ x) = DG t (p ++ x)))
theorem sg_pre {x : (List Nat)} (h : x ∈ sg s p ∨ x ∈ sg t p) : (p ++ x ∈ pre (nm s) ↔ x ∈ sg s p) := by
  have hx : ∃ c, x = [c] := by
    rcases h with h | h
    · exact ⟨_, kid1 h⟩
    · exact ⟨_, kid1 h⟩
  obtain ⟨c, rfl⟩ := hx
  rw [mem_pre, mem_setE, mem_kids]
  constructor
  · rintro (h | ⟨n, hn, h⟩)
    · simp at h
    · obtain ⟨q, hq, rfl⟩ := List.mem_map.mp hn
      exact ⟨c, rfl, q, hq, h⟩
  · rintro ⟨d, e, q, hq, h⟩
    cases e
    exact .inr ⟨q.1, List.mem_map.mpr ⟨q, hq, rfl⟩, h⟩
theorem mem_dsL {x : (List Nat)} : x ∈ dsL s t p ↔ (x ∈ sg s p ∨ x ∈ sg t p) ∧ (x ∉ sg s p ∨ x ∉ sg t p ∨ DG s (p ++ x) ≠ DG t (p ++ x)) := by
  rw [dsL, List.mem_filter, mem_setE, List.mem_append]
  refine and_congr_right fun h => ?_
  rw [df, Bool.or_eq_true, Bool.or_eq_true, decide_eq_true_iff, decide_eq_true_iff, sg_pre h, sg_pre h.symm]
  simp
theorem mem_dsP {x : (List Nat)} : x ∈ dsP s t p ↔ (x ∈ sg s p ∨ x ∈ sg t p) ∧ (x ∉ sg s p ∨ x ∉ sg t p ∨ DG s (p ++ x) ≠ DG t (p ++ x)) := by
  rw [dsP, List.mem_append, List.mem_append, List.mem_filter, List.mem_filter, List.mem_filter]
  by_cases h1 : x ∈ sg s p <;> by_cases h2 : x ∈ sg t p <;> simp [h1, h2]
theorem nodup_dsL : (dsL s t p).Nodup := nodup_setE.filter _
theorem nodup_dsP : (dsP s t p).Nodup := by
  rw [dsP, List.nodup_append, List.nodup_append]
  refine ⟨⟨nodup_setE.filter _, nodup_setE.filter _, ?_⟩, nodup_setE.filter _, ?_⟩
  · rintro a ha b hb rfl
    have h1 := (List.mem_filter.mp ha).1
    have h2 := (List.mem_filter.mp hb).2
    simp [h1] at h2
  · rintro a ha b hb rfl
    have h3 := (List.mem_filter.mp hb)
    rw [Bool.and_eq_true, decide_eq_true_iff] at h3
    rcases List.mem_append.mp ha with ha | ha
    · have := (List.mem_filter.mp ha).2
      simp [h3.2.1] at this
    · have := (List.mem_filter.mp ha).2
      simp [h3.1] at this
theorem ds_perm : (dsP s t p).Perm (dsL s t p) := (List.perm_ext_iff_of_nodup nodup_dsP nodup_dsL).mpr fun x => mem_dsP.trans mem_dsL.symm
theorem ds_comm : (dsL t s p).Perm (dsL s t p) := (List.perm_ext_iff_of_nodup nodup_dsL nodup_dsL).mpr fun x => by
  rw [mem_dsL, mem_dsL]
  refine and_congr or_comm ?_
  constructor
  · rintro (h | h | h)
    · exact .inr (.inl h)
    · exact .inl h
    · exact .inr (.inr fun z => h z.symm)
  · rintro (h | h | h)
    · exact .inr (.inl h)
    · exact .inl h
    · exact .inr (.inr fun z => h z.symm)
def KL (s t : (List ((List Nat) × Int))) (p : (List Nat)) : List (List Nat) := (dsL s t p).map (p ++ ·)
def KP (s t : (List ((List Nat) × Int))) (p : (List Nat)) : List (List Nat) := (dsP s t p).map (p ++ ·)
theorem K_grows {ds : (List Nat) → List (List Nat)} (hs : Sh s) (ht : Sh t) (h : ∀ p, ∀ x ∈ ds p, x ∈ sg s p ∨ x ∈ sg t p) (hn : ∀ p, (ds p).Nodup) : Grows fun p => (ds p).map (p ++ ·) := by
  refine ⟨fun p q hq => ?_, fun p => ?_, fun p hp => ?_⟩
  · obtain ⟨x, hx, rfl⟩ := List.mem_map.mp hq
    rcases h p x hx with h | h
    · exact ⟨_, congrArg (p ++ ·) (kid1 h)⟩
    · exact ⟨_, congrArg (p ++ ·) (kid1 h)⟩
  · rw [List.nodup_iff_pairwise_ne, List.pairwise_map]
    exact (List.nodup_iff_pairwise_ne.mp (hn p)).imp fun hab e => hab (List.append_cancel_left e)
  · have : ds p = [] := List.eq_nil_iff_forall_not_mem.mpr fun x hx => by
      rcases h p x hx with h | h
      · rw [sg, no_kids hs hp] at h; cases h
      · rw [sg, no_kids ht hp] at h; cases h
    rw [this]; rfl
theorem KL_grows (hs : Sh s) (ht : Sh t) : Grows (KL s t) := K_grows hs ht (fun p x hx => (mem_dsL.mp hx).1) fun p => nodup_dsL
theorem KP_grows (hs : Sh s) (ht : Sh t) : Grows (KP s t) := K_grows hs ht (fun p x hx => (mem_dsP.mp hx).1) fun p => nodup_dsP
theorem V_perm : (V (KP s t) p).Perm (V (KL s t) p) := vis_perm (fun p => ds_perm.map _) 32 p
theorem V_comm : (V (KL t s) p).Perm (V (KL s t) p) := vis_perm (fun p => ds_comm.map _) 32 p
theorem K_pre {ds : (List Nat) → List (List Nat)} (hs : Sh s) (ht : Sh t) (h : ∀ p, ∀ x ∈ ds p, x ∈ sg s p ∨ x ∈ sg t p) {q : (List Nat)} (hq : q ∈ (ds p).map (p ++ ·)) : q ∈ pre (nm s) ∨ q ∈ pre (nm t) := by
  obtain ⟨x, hx, rfl⟩ := List.mem_map.mp hq
  exact (h p x hx).imp (kid_pre hs) (kid_pre ht)
theorem nil_pre {names : List (List Nat)} : [] ∈ pre names := mem_pre.mpr (.inl rfl)
theorem V_pre (hs : Sh s) (ht : Sh t) : ∀ q ∈ V (KL s t) [], q ∈ pre (nm s) ∨ q ∈ pre (nm t) :=
  vis_mem (P := fun q => q ∈ pre (nm s) ∨ q ∈ pre (nm t)) (KL_grows hs ht) (fun p _ q hq => K_pre hs ht (fun p x hx => (mem_dsL.mp hx).1) hq) 32 [] (.inl nil_pre)
theorem V_len (hs : Sh s) (ht : Sh t) : (V (KL s t) []).length ≤ 7938 := by
  have h := nodup_len (m := pre (nm s) ++ pre (nm t)) (vis_nodup (KL_grows hs ht) 32 []) fun q hq => List.mem_append.mpr (V_pre hs ht q hq)
  rw [List.length_append] at h
  have h1 := pre_len hs.nm
  have h2 := pre_len ht.nm
  unfold V
  omega
end

end Sk

end

section
set_option Elab.async false
set_option linter.all false
set_option maxRecDepth 100000
set_option maxHeartbeats 4000000
namespace Sk
open PySem
local macro_rules
  | `(tactic| simp_arith [$as,*]) => `(tactic| simp only [w_lit, w_var, w_tup, w_lst, w_dnew, w_bin, w_cmp, w_isnone, w_isinst, w_and, w_or, w_not, w_ife, w_idx, w_slc, w_rev, w_call, w_blt, w_meth, w_mut, w_rng, w_A0, w_A1, w_R0, w_R1, w_C0, w_C1, w_lcW, w_lc, w_lc2, w_dcW, w_dc, w_dvals, w_ex, w_asg, w_par, w_sub, w_ret, w_sif, w_whl, w_for, w_forF, w_pass, w_brk, w_cnt, w_B0, w_B1, w_test, w_iterR, ↓next_nx, ↓next_ret, ↓next_brk, ↓next_ct, ↓turn_nx, ↓turn_ct, ↓turn_brk, ↓turn_ret, ↓fin_ret, ↓fin_nx, Ok_ok, Ok_er, slotAt_mk, List.getD_cons_succ, List.getD_cons_zero, List.set_cons_succ, List.set_cons_zero, List.cons_append, List.nil_append, List.append_nil, List.replicate, List.foldl, varR_val, varR_own, varR_bor, peek_val, peek_own, peek_bor, peekS_val, peekS_own, peekS_bor, freeze_val, freeze_own, freeze_bor, frzS_own, frzS_val, iterF_val, iterF_own, iterF_bor, itfS_own, itfS_val, itfS_bor, asgR_val, asgR_own, asgR_bor, agS_val, agS_own, agS_bor, asgR_tp, asgD_nm, asgD_tp, asgAll_nil, asgAll_cons, wipeS_mk, backS_mk, toSls0, Ok_toSls1, toSl_val, toSl_own, toSl_bor, tslS_val, tslS_own, tslS_bor, esc_pg, cxF_call, cxF_N, outR_val, outR_own, outR_bor, outS_val, outS_own, content_val, content_own, content_bor, Option.isSome_some, valR_val, ownL_own, ownK_own, noBor_val, noBor_own, add_int, sub_int, len_lst, len_tup, len_dct, int_int, list_lst, list_tup, tuple_lst, tuple_tup, ord_str, itemsC_lst, itemsC_tup, itemsD_lst, itemsD_tup, itemsD_str, eq_int, ne_int, lt_int, gt_int, le_int, ge_int, truth_bl, truth_lst, truth_tup, part_non, part_int, Ok_md, Ok_fdiv, Ok_mul, Ok_idx_lst, Ok_idx_tup, Ok_idx_str, Ok_listr, isE_map, isE_snoc, subW_mk, Ok_sortset, atI0, atI1, atI2, atI3, cutD_to, cutD_from, eq_str, ne_str, decide_true, decide_false, Option.map_some, Option.map_none, pop_snoc, Ok_add_str, Ok_add_tup, Ok_add_lst, Ok_len_str, Ok_rng1, Ok_rng2, Ok_append, Ok_extendL, Ok_extendT, slc_tup, slc_lst, Ok_slc_str, still_val, rev_lst, if_true, if_false, ite_true, ite_false, Bool.false_eq_true, if_true', reduceIte, true_and, and_true, Bool.not_true, Bool.not_false, Bool.not_not, exists_eq_left', exists_eq_left, Option.some.injEq, $as,*])
/-! SpF: the two searches. -/
section
variable {N k : Nat} {mh : MH} {s t : (List ((List Nat) × Int))} {p : (List Nat)}
theorem filt_len {α : Type} {f : α → Bool} {l : List α} {n : Nat} (h : l.length ≤ n) : (l.filter f).length ≤ n := Nat.le_trans (List.length_filter_le _ _) h
theorem e_differing_signs (hs : Sh s) (ht : Sh t) (hp : p.length ≤ 30) : evF pg N (k + 6) i_differing_signs [.val (eS s), .val (eS t), .val (.str p)] mh = .ok (.own (.lst ((dsP s t p).map .str)), mh) := by
  refine ofOk (w_F pg_differing_signs rfl (by decide) ?_)
  simp_arith [d_differing_signs, e_branch_signs (Nat.le_trans hp (by decide)) hs.short hs.len, e_branch_signs (Nat.le_trans hp (by decide)) ht.short ht.len, List.length_cons, List.length_nil]
  refine ⟨by decide, ?_⟩
  have l1 : (sg s p).length ≤ 100 := kids_len hs
  have l2 : (sg t p).length ≤ 100 := kids_len ht
  refine lc_fl (fun x => !decide (x ∈ sg t p)) (fun x hx => ?_) ?_
  · by_cases h : x ∈ sg t p <;> simp_arith [En.nin_tup, h]
  simp_arith [w_lit]
  refine lc_fl (fun x => !decide (x ∈ sg s p)) (fun x hx => ?_) ?_
  · by_cases h : x ∈ sg s p <;> simp_arith [En.nin_tup, h]
  simp_arith [List.length_map]
  refine ⟨?_, ?_⟩
  · have h1 := filt_len (f := fun x => !decide (x ∈ sg t p)) l1
    have h2 := filt_len (f := fun x => !decide (x ∈ sg s p)) (l := sg t p) l2
    have h3 : ∀ a b : Nat, a ≤ 100 → b ≤ 100 → a + b ≤ sz := fun a b ha hb => by unfold sz; omega
    exact h3 _ _ h1 h2
  refine for_inv (fun d st => ∃ y, st = ⟨[.val (eS s), .val (eS t), .val (.str p), .own (.lst (((sg s p).filter (fun x => !decide (x ∈ sg t p)) ++ (sg t p).filter (fun x => !decide (x ∈ sg s p)) ++ d.filter (fun x => decide (x ∈ sg t p) && !decide (DG s (p ++ x) = DG t (p ++ x)))).map D.str)), y, .val (.tup ((sg s p).map .str)), .val (.tup ((sg t p).map .str))], mh⟩) ⟨.un, by rw [List.filter_nil, List.append_nil, List.map_append]⟩ ?_ ?_
  · rintro d x r st e ⟨y, rfl⟩
    have hx : x ∈ sg s p := by show x ∈ setE (kids s p); rw [e]; simp
    have hxl : (p ++ x).length ≤ 31 := by rw [kid_len hx]; omega
    have hdl : d.length ≤ 100 := by
      have l3 : (setE (kids s p)).length ≤ 100 := l1
      rw [e, List.length_append] at l3
      omega
    by_cases h : x ∈ sg t p
    · simp_arith [En.in_tup, h]
      refine ⟨by rw [List.length_append] at hxl; unfold sz; omega, ?_⟩
      simp_arith [e_digest_under hs hxl]
      refine ⟨by rw [List.length_append] at hxl; unfold sz; omega, ?_⟩
      simp_arith [e_digest_under ht hxl]
      by_cases hd : DG s (p ++ x) = DG t (p ++ x)
      · simp_arith [hd]
        rw [List.filter_append]
        exact ⟨.val (.str x), by simp [hd]⟩
      · simp_arith [hd, Ok_append, List.length_map]
        refine ⟨?_, ?_⟩
        · have h1 := filt_len (f := fun x => !decide (x ∈ sg t p)) (l := sg s p) l1
          have h2 := filt_len (f := fun x => !decide (x ∈ sg s p)) (l := sg t p) l2
          have h3 := filt_len (f := fun x => decide (x ∈ sg t p) && !decide (DG s (p ++ x) = DG t (p ++ x))) hdl
          rw [List.length_append, List.length_append]
          unfold sz; omega
        · rw [List.filter_append]
          exact ⟨.val (.str x), by simp [hd, h]⟩
    · simp_arith [En.in_tup, h]
      rw [List.filter_append]
      exact ⟨.val (.str x), by simp [h]⟩
  · rintro st ⟨y, rfl⟩
    simp_arith [dsP]
theorem mem_dsP_sg {x : (List Nat)} (h : x ∈ dsP s t p) : x ∈ sg s p ∨ x ∈ sg t p := (mem_dsP.mp h).1
theorem mem_dsL_sg {x : (List Nat)} (h : x ∈ dsL s t p) : x ∈ sg s p ∨ x ∈ sg t p := (mem_dsL.mp h).1
theorem own_ne_len (hs : Sh s) : (own s p).length ≤ 100 := Nat.le_trans own_len (Nat.le_trans hs.1 (by decide))
/-- own numbers differ -/
def ne (s t : (List ((List Nat) × Int))) (p : (List Nat)) : Bool := !decide (own s p = own t p)
theorem ints_eq {a b : List Int} : cmpD .eq (.tup (a.map .int)) (.tup (b.map .int)) = .ok (decide (a = b)) := En.cmp_eq (e := fun l : List Int => D.tup (l.map .int)) a b
theorem cmp_own : cmpD .ne (.tup ((own s p).map .int)) (.tup ((own t p).map .int)) = .ok (ne s t p) := En.cmp_ne (e := fun l : List Int => D.tup (l.map .int)) _ _
theorem kp_len (hs : Sh s) (ht : Sh t) {l : List (List Nat)} (hn : l.Nodup) (h : ∀ x ∈ l, x ∈ sg s p ∨ x ∈ sg t p) : l.length ≤ 200 := by
  have h1 := nodup_len (m := sg s p ++ sg t p) hn fun x hx => List.mem_append.mpr (h x hx)
  have h2 : (sg s p).length ≤ 100 := kids_len hs
  have h3 : (sg t p).length ≤ 100 := kids_len ht
  rw [List.length_append] at h1
  omega
theorem truth_strs {l : List (List Nat)} : truth (.lst (l.map .str)) = .ok (!l.isEmpty) := by
  rw [truth_lst]
  cases l <;> rfl
/-- the state of a search: what waits, what was looked at -/
structure Srch (K : (List Nat) → List (List Nat)) (W L : List (List Nat)) : Prop where
  perm : (L ++ W.flatMap (V K)).Perm (V K [])
  len : ∀ q ∈ W, q.length ≤ 30
theorem Srch.start (K : (List Nat) → List (List Nat)) : Srch K [[]] [] := ⟨by simp, by simp⟩
theorem Srch.step {K : (List Nat) → List (List Nat)} (hK : Grows K) {W L : List (List Nat)} {p : (List Nat)} (h : Srch K (W ++ [p]) L) (hl : ∀ q ∈ K p, q.length ≤ 30) {W' : List (List Nat)} (e : W' = W ++ K p) : Srch K W' (L ++ [p]) := by
  subst e
  refine ⟨List.Perm.trans ?_ h.perm, fun q hq => ?_⟩
  · rw [List.flatMap_append, List.flatMap_append, List.flatMap_cons, List.flatMap_nil, List.append_nil, V_eq hK p, List.append_assoc]
    refine List.Perm.append_left _ ?_
    rw [List.singleton_append]
    exact List.perm_middle.symm
  · rcases List.mem_append.mp hq with hq | hq
    · exact h.len q (List.mem_append_left _ hq)
    · exact hl q hq
/-- the turns that are left -/
def Srch.m (K : (List Nat) → List (List Nat)) (W : List (List Nat)) : Nat := (W.flatMap (V K)).length
theorem Srch.m_step {K : (List Nat) → List (List Nat)} (hK : Grows K) {W : List (List Nat)} {p : (List Nat)} : Srch.m K (W ++ K p) < Srch.m K (W ++ [p]) := by
  unfold Srch.m
  rw [List.flatMap_append, List.flatMap_append, List.flatMap_cons, List.flatMap_nil, List.append_nil, V_eq hK p, List.length_append, List.length_append, List.length_cons]
  omega
theorem Srch.le {K : (List Nat) → List (List Nat)} {W L : List (List Nat)} (h : Srch K W L) {n : Nat} (hn : (V K []).length ≤ n) : L.length ≤ n ∧ W.length ≤ n := by
  have h1 := h.perm.length_eq
  rw [List.length_append] at h1
  have h2 : W.length ≤ (W.flatMap (V K)).length := by
    clear h h1
    induction W with
    | nil => exact Nat.zero_le _
    | cons q W ih =>
      rw [List.flatMap_cons, List.length_append, List.length_cons]
      have := List.length_pos_of_mem (V_self (K := K) q)
      omega
  omega
theorem Srch.done {K : (List Nat) → List (List Nat)} {L : List (List Nat)} (h : Srch K [] L) : L.Perm (V K []) := by
  have := h.perm
  rw [List.flatMap_nil, List.append_nil] at this
  exact this
theorem snoc_of {α : Type} {l : List α} (h : l ≠ []) : ∃ m a, l = m ++ [a] := ⟨_, _, (List.dropLast_concat_getLast h).symm⟩
def found (K : (List Nat) → List (List Nat)) (s t : (List ((List Nat) × Int))) : List (List Nat) := sortE D.str ((V K []).filter (ne s t))
def seen (K : (List Nat) → List (List Nat)) : List (List Nat) := sortE D.str (V K [])
theorem KP_len (hs : Sh s) (ht : Sh t) : ∀ q ∈ KP s t p, q.length ≤ 30 := fun q hq => (K_pre hs ht (fun p x hx => (mem_dsP.mp hx).1) hq).elim (mem_pre_len hs.nm) (mem_pre_len ht.nm)
theorem KL_len (hs : Sh s) (ht : Sh t) : ∀ q ∈ KL s t p, q.length ≤ 30 := fun q hq => (K_pre hs ht (fun p x hx => (mem_dsL.mp hx).1) hq).elim (mem_pre_len hs.nm) (mem_pre_len ht.nm)
theorem VP_len (hs : Sh s) (ht : Sh t) : (V (KP s t) []).length ≤ 7938 := by
  rw [V_perm.length_eq]; exact V_len hs ht
theorem e_stamp_search (hs : Sh s) (ht : Sh t) (hN : 10000 < N) : evF pg N (k + 7) i_stamp_search [.val (eS s), .val (eS t)] mh = .ok (.val (.tup [.tup ((found (KP s t) s t).map .str), .tup ((seen (KP s t)).map .str)]), mh) := by
  refine ofOk (w_F pg_stamp_search rfl (by decide) ?_)
  simp_arith [d_stamp_search, List.length_cons, List.length_nil]
  refine ⟨by decide, by decide, by decide, ?_⟩
  refine wh_inv (fun m st => ∃ W L x, m = Srch.m (KP s t) W ∧ Srch (KP s t) W L ∧ st = ⟨[.val (eS s), .val (eS t), .own (.lst (W.map .str)), .own (.lst ((L.filter (ne s t)).map .str)), .own (.lst (L.map .str)), x, .un], mh⟩) (n := Srch.m (KP s t) [[]]) ⟨[[]], [], .un, rfl, .start _, rfl⟩ ?_ ?_
  · have := VP_len hs ht
    simp only [Srch.m, List.flatMap_cons, List.flatMap_nil, List.append_nil]
    omega
  · rintro m st ⟨W, L, x, rfl, h, rfl⟩
    have hb := h.le (VP_len hs ht)
    simp_arith [truth_strs]
    by_cases hW : W = []
    · subst hW
      simp_arith [List.isEmpty_nil, sorted_lst, List.length_cons, List.length_nil]
      refine ⟨by decide, ?_⟩
      rw [sortE_congr (e := D.str) h.done, sortE_congr (e := D.str) (h.done.filter (ne s t))]
      rfl
    · obtain ⟨W, p, rfl⟩ := snoc_of hW
      have e1 : (W ++ [p]).isEmpty = false := by cases W <;> rfl
      have hp : p.length ≤ 30 := h.len p (by simp)
      have hb1 := hb.1
      have hb2 := hb.2
      rw [List.length_append] at hb2
      simp only [List.length_cons, List.length_nil] at hb2
      have e2 : (W ++ [p]).map D.str = W.map D.str ++ [D.str p] := by rw [List.map_append]; rfl
      have e3 : L.map D.str ++ [D.str p] = (L ++ [p]).map D.str := by rw [List.map_append]; rfl
      have hf : (L.filter (ne s t)).length ≤ 7938 := filt_len hb1
      simp_arith [e1, e2, e3, List.length_map, e_own_stamp, cmp_own]
      refine ⟨by unfold sz; omega, ?_⟩
      by_cases hne : ne s t p = true
      · simp_arith [hne, List.length_map]
        refine ⟨by unfold sz; omega, ?_⟩
        have e6 : (L.filter (ne s t)).map D.str ++ [D.str p] = ((L ++ [p]).filter (ne s t)).map D.str := by
          rw [List.filter_append, List.filter_cons, hne, List.map_append]; rfl
        rw [e6]
        simp_arith [e_differing_signs hs ht hp]
        refine lc_mp (em := D.str) (fun x => p ++ x) (fun x hx => ?_) ?_
        · have hx1 : (p ++ x).length = p.length + 1 := (mem_dsP_sg hx).elim (fun h => kid_len h) fun h => kid_len h
          rw [List.length_append] at hx1
          simp_arith [w_lit]
          unfold sz; omega
        · have e4 : W.map D.str ++ ((dsP s t p).map (fun x => p ++ x)).map D.str = (W ++ KP s t p).map D.str := by rw [List.map_append]; rfl
          have h5 : (dsP s t p).length ≤ 200 := kp_len hs ht nodup_dsP fun x hx => mem_dsP_sg hx
          simp_arith [Ok_extendL, List.length_map, e4]
          exact ⟨by unfold sz; omega, _, Srch.m_step (KP_grows hs ht), _, _, _, rfl, h.step (KP_grows hs ht) (KP_len hs ht) rfl, rfl⟩
      · rw [Bool.not_eq_true] at hne
        simp_arith [hne]
        have e6 : L.filter (ne s t) = (L ++ [p]).filter (ne s t) := by
          rw [List.filter_append, List.filter_cons, hne]; simp
        rw [e6]
        simp_arith [e_differing_signs hs ht hp]
        refine lc_mp (em := D.str) (fun x => p ++ x) (fun x hx => ?_) ?_
        · have hx1 : (p ++ x).length = p.length + 1 := (mem_dsP_sg hx).elim (fun h => kid_len h) fun h => kid_len h
          rw [List.length_append] at hx1
          simp_arith [w_lit]
          unfold sz; omega
        · have e4 : W.map D.str ++ ((dsP s t p).map (fun x => p ++ x)).map D.str = (W ++ KP s t p).map D.str := by rw [List.map_append]; rfl
          have h5 : (dsP s t p).length ≤ 200 := kp_len hs ht nodup_dsP fun x hx => mem_dsP_sg hx
          simp_arith [Ok_extendL, List.length_map, e4]
          exact ⟨by unfold sz; omega, _, Srch.m_step (KP_grows hs ht), _, _, _, rfl, h.step (KP_grows hs ht) (KP_len hs ht) rfl, rfl⟩
end

end Sk

end

section
set_option Elab.async false
set_option linter.all false
set_option maxRecDepth 100000
set_option maxHeartbeats 4000000
namespace Sk
open PySem
local macro_rules
  | `(tactic| simp_arith [$as,*]) => `(tactic| simp only [w_lit, w_var, w_tup, w_lst, w_dnew, w_bin, w_cmp, w_isnone, w_isinst, w_and, w_or, w_not, w_ife, w_idx, w_slc, w_rev, w_call, w_blt, w_meth, w_mut, w_rng, w_A0, w_A1, w_R0, w_R1, w_C0, w_C1, w_lcW, w_lc, w_lc2, w_dcW, w_dc, w_dvals, w_ex, w_asg, w_par, w_sub, w_ret, w_sif, w_whl, w_for, w_forF, w_pass, w_brk, w_cnt, w_B0, w_B1, w_test, w_iterR, ↓next_nx, ↓next_ret, ↓next_brk, ↓next_ct, ↓turn_nx, ↓turn_ct, ↓turn_brk, ↓turn_ret, ↓fin_ret, ↓fin_nx, Ok_ok, Ok_er, slotAt_mk, List.getD_cons_succ, List.getD_cons_zero, List.set_cons_succ, List.set_cons_zero, List.cons_append, List.nil_append, List.append_nil, List.replicate, List.foldl, varR_val, varR_own, varR_bor, peek_val, peek_own, peek_bor, peekS_val, peekS_own, peekS_bor, freeze_val, freeze_own, freeze_bor, frzS_own, frzS_val, iterF_val, iterF_own, iterF_bor, itfS_own, itfS_val, itfS_bor, asgR_val, asgR_own, asgR_bor, agS_val, agS_own, agS_bor, asgR_tp, asgD_nm, asgD_tp, asgAll_nil, asgAll_cons, wipeS_mk, backS_mk, toSls0, Ok_toSls1, toSl_val, toSl_own, toSl_bor, tslS_val, tslS_own, tslS_bor, esc_pg, cxF_call, cxF_N, outR_val, outR_own, outR_bor, outS_val, outS_own, content_val, content_own, content_bor, Option.isSome_some, valR_val, ownL_own, ownK_own, noBor_val, noBor_own, add_int, sub_int, len_lst, len_tup, len_dct, int_int, list_lst, list_tup, tuple_lst, tuple_tup, ord_str, itemsC_lst, itemsC_tup, itemsD_lst, itemsD_tup, itemsD_str, eq_int, ne_int, lt_int, gt_int, le_int, ge_int, truth_bl, truth_lst, truth_tup, part_non, part_int, Ok_md, Ok_fdiv, Ok_mul, Ok_idx_lst, Ok_idx_tup, Ok_idx_str, Ok_listr, isE_map, isE_snoc, subW_mk, Ok_sortset, atI0, atI1, atI2, atI3, cutD_to, cutD_from, eq_str, ne_str, decide_true, decide_false, Option.map_some, Option.map_none, pop_snoc, Ok_add_str, Ok_add_tup, Ok_add_lst, Ok_len_str, Ok_rng1, Ok_rng2, Ok_append, Ok_extendL, Ok_extendT, slc_tup, slc_lst, Ok_slc_str, still_val, rev_lst, if_true, if_false, ite_true, ite_false, Bool.false_eq_true, if_true', reduceIte, true_and, and_true, Bool.not_true, Bool.not_false, Bool.not_not, exists_eq_left', exists_eq_left, Option.some.injEq, $as,*])
/-! SpG: the law's search. -/
instance : EnD eN := ⟨by decide⟩
section
variable {N k : Nat} {mh : MH} {s t : (List ((List Nat) × Int))} {p : (List Nat)}
/-- hidden below p -/
def hx (s t : (List ((List Nat) × Int))) (p x : (List Nat)) : Bool := !df s t p x && !decide (begun s (p ++ x) = begun t (p ++ x))
def hp (s t : (List ((List Nat) × Int))) (p : (List Nat)) : Bool := (setE (sg s p ++ sg t p)).any (hx s t p)
def hid (s t : (List ((List Nat) × Int))) : Bool := (V (KL s t) []).any (hp s t)
theorem any_perm {α : Type} {f : α → Bool} {l m : List α} (h : l.Perm m) : l.any f = m.any f := by
  rw [Bool.eq_iff_iff, List.any_eq_true, List.any_eq_true]
  constructor
  · rintro ⟨a, ha, hf⟩; exact ⟨a, h.mem_iff.mp ha, hf⟩
  · rintro ⟨a, ha, hf⟩; exact ⟨a, h.mem_iff.mpr ha, hf⟩
theorem tree_in {l : List ((List Nat) × Int)} (h : Tree s l) (q : (List Nat)) : (q ∈ l.map (·.1)) ↔ q ∈ pre (nm s) := by
  have h1 := lk_isSome (k := q) (l := l)
  rw [h q] at h1
  by_cases hq : q ∈ pre (nm s)
  · simp [hq] at h1
    simpa [hq] using h1
  · simp [hq] at h1
    simpa [hq] using h1
theorem tree_lk {l : List ((List Nat) × Int)} (h : Tree s l) {q : (List Nat)} (hq : q ∈ pre (nm s)) : lk q l = some (DG s q) := by rw [h q, if_pos hq]
def resL (s t : (List ((List Nat) × Int))) : D := .tup [.tup ((found (KL s t) s t).map .str), .tup ((seen (KL s t)).map .str), .bl (hid s t)]
theorem e_law_search (hs : Sh s) (ht : Sh t) (hN : 10000 < N) : evF pg N (k + 5) i__law_search [.val (eS s), .val (eS t)] mh = .ok (.val (resL s t), mh) := by
  obtain ⟨l1, t1, e1⟩ := e_law_tree (N := N) (k := k) hs
  obtain ⟨l2, t2, e2⟩ := e_law_tree (N := N) (k := k) ht
  refine ofOk (w_F pg__law_search rfl (by decide) ?_)
  simp_arith [d__law_search, e1, e2, List.length_cons, List.length_nil]
  refine ⟨by decide, by decide, by decide, ?_⟩
  refine wh_inv (fun m st => ∃ W L x y z, m = Srch.m (KL s t) W ∧ Srch (KL s t) W L ∧ st = ⟨[.val (eS s), .val (eS t), .own (.dct (eK D.str D.int l1)), .own (.dct (eK D.str D.int l2)), .own (.lst ((L.filter (ne s t)).map .str)), .own (.lst (L.map .str)), .val (.bl (L.any (hp s t))), .own (.lst (W.map .str)), x, y, z], mh⟩) (n := Srch.m (KL s t) [[]]) ⟨[[]], [], .un, .un, .un, rfl, .start _, rfl⟩ ?_ ?_
  · have := V_len hs ht
    simp only [Srch.m, List.flatMap_cons, List.flatMap_nil, List.append_nil]
    omega
  · rintro m st ⟨W, L, x0, y0, z0, rfl, h, rfl⟩
    have hb := h.le (V_len hs ht)
    simp_arith [List.length_map]
    by_cases hW : W = []
    · subst hW
      simp_arith [List.length_nil, sorted_lst, List.length_cons]
      rw [if_neg (by decide)]
      refine ⟨by decide, ?_⟩
      rw [sortE_congr (e := D.str) h.done, sortE_congr (e := D.str) (h.done.filter (ne s t)), any_perm h.done]
      rfl
    · obtain ⟨W, p, rfl⟩ := snoc_of hW
      have hp : p.length ≤ 30 := h.len p (by simp)
      have hb1 := hb.1
      have hb2 := hb.2
      rw [List.length_append] at hb2
      simp only [List.length_cons, List.length_nil] at hb2
      have e2 : (W ++ [p]).map D.str = W.map D.str ++ [D.str p] := by rw [List.map_append]; rfl
      have e3 : L.map D.str ++ [D.str p] = (L ++ [p]).map D.str := by rw [List.map_append]; rfl
      have hf : (L.filter (ne s t)).length ≤ 7938 := filt_len hb1
      have h0 : (0 : Int) < ((W ++ [p]).length : Int) := by rw [List.length_append]; simp only [List.length_cons, List.length_nil]; omega
      have hg1 : (sg s p).length ≤ 100 := kids_len hs
      have hg2 : (sg t p).length ≤ 100 := kids_len ht
      rw [if_pos (decide_eq_true h0)]
      simp_arith [e2, e3, List.length_map, e_law_own, cmp_own, Ok_append]
      refine ⟨by unfold sz; omega, ?_⟩
      by_cases hne : ne s t p = true
      · simp_arith [hne, List.length_map, Ok_append]
        refine ⟨by unfold sz; omega, ?_⟩
        have e6 : (L.filter (ne s t)).map D.str ++ [D.str p] = ((L ++ [p]).filter (ne s t)).map D.str := by
          rw [List.filter_append, List.filter_cons, hne, List.map_append]; rfl
        rw [e6]
        simp_arith [e_law_signs (Nat.le_trans hp (by decide)) hs.short hs.len, e_law_signs (Nat.le_trans hp (by decide)) ht.short ht.len, List.length_map]
        refine ⟨by have h3 : ∀ a b : Nat, a ≤ 100 → b ≤ 100 → a + b ≤ sz := fun a b ha hb => by unfold sz; omega
                   exact h3 _ _ hg1 hg2, ?_⟩
        rw [← List.map_append]
        simp_arith [w_lit]
        refine ⟨by rw [List.length_append]; have h3 : ∀ a b : Nat, a ≤ 100 → b ≤ 100 → a + b < 4000 := fun a b ha hb => by omega
                   exact h3 _ _ hg1 hg2, ?_⟩
        refine for_inv (fun d st => ∃ y z, st = ⟨[.val (eS s), .val (eS t), .own (.dct (eK D.str D.int l1)), .own (.dct (eK D.str D.int l2)), .own (.lst (((L ++ [p]).filter (ne s t)).map .str)), .own (.lst ((L ++ [p]).map .str)), .val (.bl (L.any (Sk.hp s t) || d.any (hx s t p))), .own (.lst ((W ++ (d.filter (df s t p)).map (p ++ ·)).map .str)), .val (.str p), y, z], mh⟩) ⟨y0, z0, by simp⟩ ?_ ?_
        · rintro d x r st e ⟨y, z, rfl⟩
          have hxs : x ∈ sg s p ∨ x ∈ sg t p := by
            have : x ∈ setE (setE (kids s p) ++ setE (kids t p)) := by rw [e]; simp
            exact List.mem_append.mp (mem_setE.mp this)
          have hx1 : (p ++ x).length = p.length + 1 := hxs.elim (fun h => kid_len h) fun h => kid_len h
          have hdl : d.length ≤ 200 := by
            have h1 := kp_len hs ht (l := setE (setE (kids s p) ++ setE (kids t p))) nodup_setE fun x hx => List.mem_append.mp (mem_setE.mp hx)
            rw [e, List.length_append] at h1
            omega
          have hx2 := hx1
          rw [List.length_append] at hx2
          have hfd : (d.filter (df s t p)).length ≤ 200 := filt_len hdl
          simp_arith [nin_dct]
          refine ⟨by unfold sz; omega, ?_⟩
          by_cases h1 : p ++ x ∈ pre (nm s)
          · by_cases h2 : p ++ x ∈ pre (nm t)
            · have h3 := (tree_in t1 _).mpr h1
              have h4 := (tree_in t2 _).mpr h2
              simp_arith [h3, h4, Ok_idx_dct, tree_lk t1 h1, tree_lk t2 h2]
              by_cases hd : DG s (p ++ x) = DG t (p ++ x)
              · have hdf : df s t p x = false := by rw [df]; simp [h1, h2, hd]
                simp_arith [hd, e_law_begun (p := p ++ x) (by omega) hs.short, e_law_begun (p := p ++ x) (by omega) ht.short, ne_lsts (e := eN)]
                by_cases hbg : begun s (p ++ x) = begun t (p ++ x)
                · have hxx : hx s t p x = false := by rw [hx, hdf, hbg]; simp
                  simp_arith [hbg]
                  refine ⟨.val (.str x), .val (.str (p ++ x)), ?_⟩
                  rw [show (d ++ [x]).any (hx s t p) = (d.any (hx s t p) || hx s t p x) by simp, hxx, show (d ++ [x]).filter (df s t p) = d.filter (df s t p) ++ (if df s t p x = true then [x] else []) by simp [List.filter_cons], hdf]
                  simp
                · have hxx : hx s t p x = true := by rw [hx, hdf]; simp [hbg]
                  simp_arith [hbg]
                  refine ⟨.val (.str x), .val (.str (p ++ x)), ?_⟩
                  rw [show (d ++ [x]).any (hx s t p) = (d.any (hx s t p) || hx s t p x) by simp, hxx, show (d ++ [x]).filter (df s t p) = d.filter (df s t p) ++ (if df s t p x = true then [x] else []) by simp [List.filter_cons], hdf]
                  simp
              · have hdf : df s t p x = true := by rw [df]; simp [hd]
                simp_arith [hd]
                simp_arith [Ok_append, List.length_map, List.length_append]
                refine ⟨by unfold sz; omega, .val (.str x), .val (.str (p ++ x)), ?_⟩
                have hxx : hx s t p x = false := by rw [hx, hdf]; rfl
                rw [show (d ++ [x]).any (hx s t p) = (d.any (hx s t p) || hx s t p x) by simp, hxx, show (d ++ [x]).filter (df s t p) = d.filter (df s t p) ++ (if df s t p x = true then [x] else []) by simp [List.filter_cons], hdf]
                simp
            · have hdf : df s t p x = true := by rw [df]; simp [h2]
              have h3 := (tree_in t1 _).mpr h1
              have h4 : p ++ x ∉ l2.map (·.1) := fun z => h2 ((tree_in t2 _).mp z)
              simp_arith [h3, h4]
              simp_arith [Ok_append, List.length_map, List.length_append]
              refine ⟨by unfold sz; omega, .val (.str x), .val (.str (p ++ x)), ?_⟩
              have hxx : hx s t p x = false := by rw [hx, hdf]; rfl
              rw [show (d ++ [x]).any (hx s t p) = (d.any (hx s t p) || hx s t p x) by simp, hxx, show (d ++ [x]).filter (df s t p) = d.filter (df s t p) ++ (if df s t p x = true then [x] else []) by simp [List.filter_cons], hdf]
              simp
          · have hdf : df s t p x = true := by rw [df]; simp [h1]
            have h3 : p ++ x ∉ l1.map (·.1) := fun z => h1 ((tree_in t1 _).mp z)
            simp_arith [h3]
            simp_arith [Ok_append, List.length_map, List.length_append]
            refine ⟨by unfold sz; omega, .val (.str x), .val (.str (p ++ x)), ?_⟩
            have hxx : hx s t p x = false := by rw [hx, hdf]; rfl
            rw [show (d ++ [x]).any (hx s t p) = (d.any (hx s t p) || hx s t p x) by simp, hxx, show (d ++ [x]).filter (df s t p) = d.filter (df s t p) ++ (if df s t p x = true then [x] else []) by simp [List.filter_cons], hdf]
            simp
        · rintro st ⟨y, z, rfl⟩
          simp_arith [w_lit]
          refine ⟨_, Srch.m_step (KL_grows hs ht), _, _, .val (.str p), y, z, rfl, h.step (KL_grows hs ht) (KL_len hs ht) rfl, ?_⟩
          rw [show (L ++ [p]).any (Sk.hp s t) = (L.any (Sk.hp s t) || Sk.hp s t p) by simp]
          rfl
      · rw [Bool.not_eq_true] at hne
        simp_arith [hne]
        have e6 : L.filter (ne s t) = (L ++ [p]).filter (ne s t) := by
          rw [List.filter_append, List.filter_cons, hne]; simp
        rw [e6]
        simp_arith [e_law_signs (Nat.le_trans hp (by decide)) hs.short hs.len, e_law_signs (Nat.le_trans hp (by decide)) ht.short ht.len, List.length_map]
        refine ⟨by have h3 : ∀ a b : Nat, a ≤ 100 → b ≤ 100 → a + b ≤ sz := fun a b ha hb => by unfold sz; omega
                   exact h3 _ _ hg1 hg2, ?_⟩
        rw [← List.map_append]
        simp_arith [w_lit]
        refine ⟨by rw [List.length_append]; have h3 : ∀ a b : Nat, a ≤ 100 → b ≤ 100 → a + b < 4000 := fun a b ha hb => by omega
                   exact h3 _ _ hg1 hg2, ?_⟩
        refine for_inv (fun d st => ∃ y z, st = ⟨[.val (eS s), .val (eS t), .own (.dct (eK D.str D.int l1)), .own (.dct (eK D.str D.int l2)), .own (.lst (((L ++ [p]).filter (ne s t)).map .str)), .own (.lst ((L ++ [p]).map .str)), .val (.bl (L.any (Sk.hp s t) || d.any (hx s t p))), .own (.lst ((W ++ (d.filter (df s t p)).map (p ++ ·)).map .str)), .val (.str p), y, z], mh⟩) ⟨y0, z0, by simp⟩ ?_ ?_
        · rintro d x r st e ⟨y, z, rfl⟩
          have hxs : x ∈ sg s p ∨ x ∈ sg t p := by
            have : x ∈ setE (setE (kids s p) ++ setE (kids t p)) := by rw [e]; simp
            exact List.mem_append.mp (mem_setE.mp this)
          have hx1 : (p ++ x).length = p.length + 1 := hxs.elim (fun h => kid_len h) fun h => kid_len h
          have hdl : d.length ≤ 200 := by
            have h1 := kp_len hs ht (l := setE (setE (kids s p) ++ setE (kids t p))) nodup_setE fun x hx => List.mem_append.mp (mem_setE.mp hx)
            rw [e, List.length_append] at h1
            omega
          have hx2 := hx1
          rw [List.length_append] at hx2
          have hfd : (d.filter (df s t p)).length ≤ 200 := filt_len hdl
          simp_arith [nin_dct]
          refine ⟨by unfold sz; omega, ?_⟩
          by_cases h1 : p ++ x ∈ pre (nm s)
          · by_cases h2 : p ++ x ∈ pre (nm t)
            · have h3 := (tree_in t1 _).mpr h1
              have h4 := (tree_in t2 _).mpr h2
              simp_arith [h3, h4, Ok_idx_dct, tree_lk t1 h1, tree_lk t2 h2]
              by_cases hd : DG s (p ++ x) = DG t (p ++ x)
              · have hdf : df s t p x = false := by rw [df]; simp [h1, h2, hd]
                simp_arith [hd, e_law_begun (p := p ++ x) (by omega) hs.short, e_law_begun (p := p ++ x) (by omega) ht.short, ne_lsts (e := eN)]
                by_cases hbg : begun s (p ++ x) = begun t (p ++ x)
                · have hxx : hx s t p x = false := by rw [hx, hdf, hbg]; simp
                  simp_arith [hbg]
                  refine ⟨.val (.str x), .val (.str (p ++ x)), ?_⟩
                  rw [show (d ++ [x]).any (hx s t p) = (d.any (hx s t p) || hx s t p x) by simp, hxx, show (d ++ [x]).filter (df s t p) = d.filter (df s t p) ++ (if df s t p x = true then [x] else []) by simp [List.filter_cons], hdf]
                  simp
                · have hxx : hx s t p x = true := by rw [hx, hdf]; simp [hbg]
                  simp_arith [hbg]
                  refine ⟨.val (.str x), .val (.str (p ++ x)), ?_⟩
                  rw [show (d ++ [x]).any (hx s t p) = (d.any (hx s t p) || hx s t p x) by simp, hxx, show (d ++ [x]).filter (df s t p) = d.filter (df s t p) ++ (if df s t p x = true then [x] else []) by simp [List.filter_cons], hdf]
                  simp
              · have hdf : df s t p x = true := by rw [df]; simp [hd]
                simp_arith [hd]
                simp_arith [Ok_append, List.length_map, List.length_append]
                refine ⟨by unfold sz; omega, .val (.str x), .val (.str (p ++ x)), ?_⟩
                have hxx : hx s t p x = false := by rw [hx, hdf]; rfl
                rw [show (d ++ [x]).any (hx s t p) = (d.any (hx s t p) || hx s t p x) by simp, hxx, show (d ++ [x]).filter (df s t p) = d.filter (df s t p) ++ (if df s t p x = true then [x] else []) by simp [List.filter_cons], hdf]
                simp
            · have hdf : df s t p x = true := by rw [df]; simp [h2]
              have h3 := (tree_in t1 _).mpr h1
              have h4 : p ++ x ∉ l2.map (·.1) := fun z => h2 ((tree_in t2 _).mp z)
              simp_arith [h3, h4]
              simp_arith [Ok_append, List.length_map, List.length_append]
              refine ⟨by unfold sz; omega, .val (.str x), .val (.str (p ++ x)), ?_⟩
              have hxx : hx s t p x = false := by rw [hx, hdf]; rfl
              rw [show (d ++ [x]).any (hx s t p) = (d.any (hx s t p) || hx s t p x) by simp, hxx, show (d ++ [x]).filter (df s t p) = d.filter (df s t p) ++ (if df s t p x = true then [x] else []) by simp [List.filter_cons], hdf]
              simp
          · have hdf : df s t p x = true := by rw [df]; simp [h1]
            have h3 : p ++ x ∉ l1.map (·.1) := fun z => h1 ((tree_in t1 _).mp z)
            simp_arith [h3]
            simp_arith [Ok_append, List.length_map, List.length_append]
            refine ⟨by unfold sz; omega, .val (.str x), .val (.str (p ++ x)), ?_⟩
            have hxx : hx s t p x = false := by rw [hx, hdf]; rfl
            rw [show (d ++ [x]).any (hx s t p) = (d.any (hx s t p) || hx s t p x) by simp, hxx, show (d ++ [x]).filter (df s t p) = d.filter (df s t p) ++ (if df s t p x = true then [x] else []) by simp [List.filter_cons], hdf]
            simp
        · rintro st ⟨y, z, rfl⟩
          simp_arith [w_lit]
          refine ⟨_, Srch.m_step (KL_grows hs ht), _, _, .val (.str p), y, z, rfl, h.step (KL_grows hs ht) (KL_len hs ht) rfl, ?_⟩
          rw [show (L ++ [p]).any (Sk.hp s t) = (L.any (Sk.hp s t) || Sk.hp s t p) by simp]
          rfl
end

end Sk

end

section
set_option Elab.async false
set_option linter.all false
set_option maxRecDepth 100000
set_option maxHeartbeats 4000000
namespace Sk
open PySem
local macro_rules
  | `(tactic| simp_arith [$as,*]) => `(tactic| simp only [w_lit, w_var, w_tup, w_lst, w_dnew, w_bin, w_cmp, w_isnone, w_isinst, w_and, w_or, w_not, w_ife, w_idx, w_slc, w_rev, w_call, w_blt, w_meth, w_mut, w_rng, w_A0, w_A1, w_R0, w_R1, w_C0, w_C1, w_lcW, w_lc, w_lc2, w_dcW, w_dc, w_dvals, w_ex, w_asg, w_par, w_sub, w_ret, w_sif, w_whl, w_for, w_forF, w_pass, w_brk, w_cnt, w_B0, w_B1, w_test, w_iterR, ↓next_nx, ↓next_ret, ↓next_brk, ↓next_ct, ↓turn_nx, ↓turn_ct, ↓turn_brk, ↓turn_ret, ↓fin_ret, ↓fin_nx, Ok_ok, Ok_er, slotAt_mk, List.getD_cons_succ, List.getD_cons_zero, List.set_cons_succ, List.set_cons_zero, List.cons_append, List.nil_append, List.append_nil, List.replicate, List.foldl, varR_val, varR_own, varR_bor, peek_val, peek_own, peek_bor, peekS_val, peekS_own, peekS_bor, freeze_val, freeze_own, freeze_bor, frzS_own, frzS_val, iterF_val, iterF_own, iterF_bor, itfS_own, itfS_val, itfS_bor, asgR_val, asgR_own, asgR_bor, agS_val, agS_own, agS_bor, asgR_tp, asgD_nm, asgD_tp, asgAll_nil, asgAll_cons, wipeS_mk, backS_mk, toSls0, Ok_toSls1, toSl_val, toSl_own, toSl_bor, tslS_val, tslS_own, tslS_bor, esc_pg, cxF_call, cxF_N, outR_val, outR_own, outR_bor, outS_val, outS_own, content_val, content_own, content_bor, Option.isSome_some, valR_val, ownL_own, ownK_own, noBor_val, noBor_own, add_int, sub_int, len_lst, len_tup, len_dct, int_int, list_lst, list_tup, tuple_lst, tuple_tup, ord_str, itemsC_lst, itemsC_tup, itemsD_lst, itemsD_tup, itemsD_str, eq_int, ne_int, lt_int, gt_int, le_int, ge_int, truth_bl, truth_lst, truth_tup, part_non, part_int, Ok_md, Ok_fdiv, Ok_mul, Ok_idx_lst, Ok_idx_tup, Ok_idx_str, Ok_listr, isE_map, isE_snoc, subW_mk, Ok_sortset, atI0, atI1, atI2, atI3, cutD_to, cutD_from, eq_str, ne_str, decide_true, decide_false, Option.map_some, Option.map_none, pop_snoc, Ok_add_str, Ok_add_tup, Ok_add_lst, Ok_len_str, Ok_rng1, Ok_rng2, Ok_append, Ok_extendL, Ok_extendT, slc_tup, slc_lst, Ok_slc_str, still_val, rev_lst, if_true, if_false, ite_true, ite_false, Bool.false_eq_true, if_true', reduceIte, true_and, and_true, Bool.not_true, Bool.not_false, Bool.not_not, exists_eq_left', exists_eq_left, Option.some.injEq, $as,*])
/-! SpH: what the searches tell. -/
section
variable {s t : (List ((List Nat) × Int))} {p : (List Nat)}
/-- the names that differ -/
def dif (s t : (List ((List Nat) × Int))) : List (List Nat) := setE ((s.filter fun q => !decide (q ∈ t)).map (·.1) ++ (t.filter fun q => !decide (q ∈ s)).map (·.1))
theorem mem_dif {n : (List Nat)} : n ∈ dif s t ↔ (∃ v, (n, v) ∈ s ∧ (n, v) ∉ t) ∨ ∃ v, (n, v) ∈ t ∧ (n, v) ∉ s := by
  have one : ∀ a b : (List ((List Nat) × Int)), n ∈ (a.filter fun q => !decide (q ∈ b)).map (·.1) ↔ ∃ v, (n, v) ∈ a ∧ (n, v) ∉ b := fun a b => by
    rw [List.mem_map]
    constructor
    · rintro ⟨q, hq, rfl⟩
      obtain ⟨h1, h2⟩ := List.mem_filter.mp hq
      exact ⟨q.2, h1, by simpa using h2⟩
    · rintro ⟨v, h1, h2⟩
      exact ⟨(n, v), List.mem_filter.mpr ⟨h1, by simpa using h2⟩, rfl⟩
  rw [dif, mem_setE, List.mem_append, one, one]
theorem dif_comm {n : (List Nat)} : n ∈ dif t s ↔ n ∈ dif s t := by rw [mem_dif, mem_dif]; exact or_comm
theorem mem_own {v : Int} : v ∈ own s p ↔ (p, v) ∈ s := by
  rw [own, List.mem_filterMap]
  constructor
  · rintro ⟨q, hq, h⟩
    split at h
    · rename_i e
      cases h
      rw [← e]; exact hq
    · cases h
  · intro h
    exact ⟨(p, v), h, if_pos rfl⟩
/-- names once each -/
abbrev Dn (s : (List ((List Nat) × Int))) : Prop := (nm s).Nodup
theorem own_one (h : Dn s) : own s p = [] ∨ ∃ v, own s p = [v] := by
  induction s with
  | nil => exact .inl rfl
  | cons q s ih =>
    have h1 := List.nodup_cons.mp (show (q.1 :: nm s).Nodup from h)
    have e : own (q :: s) p = if q.1 = p then q.2 :: own s p else own s p := by
      unfold own
      rw [List.filterMap_cons]
      split <;> rename_i h <;> split at h <;> simp_all
    rw [e]
    by_cases hq : q.1 = p
    · rw [if_pos hq]
      refine .inr ⟨q.2, ?_⟩
      have : own s p = [] := List.eq_nil_iff_forall_not_mem.mpr fun v hv => h1.1 (by rw [hq]; exact List.mem_map.mpr ⟨_, mem_own.mp hv, rfl⟩)
      rw [this]
    · rw [if_neg hq]; exact ih h1.2
theorem own_eq (hs : Dn s) (ht : Dn t) (h : ∀ v, (p, v) ∈ s ↔ (p, v) ∈ t) : own s p = own t p := by
  rcases own_one (p := p) hs with e1 | ⟨v, e1⟩ <;> rcases own_one (p := p) ht with e2 | ⟨w, e2⟩
  · rw [e1, e2]
  · have := (h w).mpr (mem_own.mp (by rw [e2]; simp))
    rw [← mem_own, e1] at this
    cases this
  · have := (h v).mp (mem_own.mp (by rw [e1]; simp))
    rw [← mem_own, e2] at this
    cases this
  · have := (h v).mp (mem_own.mp (by rw [e1]; simp))
    rw [← mem_own, e2, List.mem_singleton] at this
    rw [e1, e2, this]
theorem not_dif {n : (List Nat)} (h : n ∉ dif s t) (v : Int) : (n, v) ∈ s ↔ (n, v) ∈ t := by
  rw [mem_dif, not_or, not_exists, not_exists] at h
  constructor
  · intro h1
    exact Decidable.byContradiction fun z => h.1 v ⟨h1, z⟩
  · intro h1
    exact Decidable.byContradiction fun z => h.2 v ⟨h1, z⟩
theorem ne_dif (hs : Dn s) (ht : Dn t) (h : ne s t p = true) : p ∈ dif s t := by
  refine Decidable.byContradiction fun z => ?_
  rw [ne, own_eq hs ht fun v => not_dif z v] at h
  simp at h
theorem dif_ne (h : p ∈ dif s t) : ne s t p = true := by
  rw [ne, Bool.not_eq_true', decide_eq_false_iff_not]
  intro e
  rcases mem_dif.mp h with ⟨v, h1, h2⟩ | ⟨v, h1, h2⟩
  · rw [← mem_own] at h1 h2
    rw [e] at h1; exact h2 h1
  · rw [← mem_own] at h1 h2
    rw [← e] at h1; exact h2 h1
/-- no name that differs begins so: nothing there differs -/
theorem own_same (hs : Dn s) (ht : Dn t) (h : ∀ n ∈ dif s t, ¬ p <+: n) : own s p = own t p :=
  own_eq hs ht fun v => not_dif (fun z => h p z (List.prefix_refl _)) v
theorem sg_same (h : ∀ n ∈ dif s t, ¬ p <+: n) : sg s p = sg t p := by
  refine setE_congr fun x => ?_
  rw [mem_kids, mem_kids]
  have key : ∀ a b : (List ((List Nat) × Int)), (∀ n v, p <+: n → (n, v) ∈ a → (n, v) ∈ b) → (∃ c, x = [c] ∧ ∃ q ∈ a, (p ++ [c]) <+: q.1) → ∃ c, x = [c] ∧ ∃ q ∈ b, (p ++ [c]) <+: q.1 := by
    rintro a b hab ⟨c, rfl, q, hq, hp⟩
    exact ⟨c, rfl, q, hab q.1 q.2 ((List.prefix_append _ _).trans hp) hq, hp⟩
  exact ⟨key s t fun n v hp hm => (not_dif (fun z => h n z hp) v).mp hm, key t s fun n v hp hm => (not_dif (fun z => h n z hp) v).mpr hm⟩
theorem dg_same (hs : Dn s) (ht : Dn t) : ∀ (m : Nat) (p : (List Nat)), (∀ n ∈ dif s t, ¬ p <+: n) → dg s m p = dg t m p
  | 0, _, _ => rfl
  | m + 1, p, h => by
    rw [dg, dg, own_same hs ht h, show setE (kids s p) = setE (kids t p) from sg_same h]
    refine congrArg (fun z => fold (nodeR _ z)) (List.map_congr_left fun x _ => ?_)
    rw [dg_same hs ht m (p ++ x) fun n hn hp => h n hn ((List.prefix_append _ _).trans hp)]
theorem DG_same (hs : Dn s) (ht : Dn t) (h : ∀ n ∈ dif s t, ¬ p <+: n) : DG s p = DG t p := dg_same hs ht 32 p h
/-- a child begins a name that differs -/
theorem kid_dif (hs : Dn s) (ht : Dn t) {q : (List Nat)} (hq : q ∈ KL s t p) : ∃ n ∈ dif s t, q <+: n := by
  obtain ⟨x, hx, rfl⟩ := List.mem_map.mp hq
  obtain ⟨h1, h2⟩ := mem_dsL.mp hx
  refine Decidable.byContradiction fun z => ?_
  have h : ∀ n ∈ dif s t, ¬ (p ++ x) <+: n := fun n hn hp => z ⟨n, hn, hp⟩
  have key : ∀ {a b : (List ((List Nat) × Int))}, (∀ n v, (p ++ x) <+: n → (n, v) ∈ a → (n, v) ∈ b) → x ∈ sg a p → x ∈ sg b p := by
    intro a b hab hxa
    obtain ⟨c, rfl, q, hq, hp⟩ := mem_kids.mp (mem_setE.mp hxa)
    exact mem_setE.mpr (mem_kids.mpr ⟨c, rfl, q, hab q.1 q.2 hp hq, hp⟩)
  have st : x ∈ sg s p ↔ x ∈ sg t p := ⟨key fun n v hp hm => (not_dif (fun z => h n z hp) v).mp hm, key fun n v hp hm => (not_dif (fun z => h n z hp) v).mpr hm⟩
  rcases h2 with h2 | h2 | h2
  · exact h1.elim h2 fun z => h2 (st.mpr z)
  · exact h1.elim (fun z => h2 (st.mp z)) h2
  · exact h2 (DG_same hs ht h)
theorem V_dif (hs : Sh s) (ht : Sh t) (ds : Dn s) (dt : Dn t) : ∀ q ∈ V (KL s t) [], q ∈ pre (dif s t) :=
  vis_mem (P := fun q => q ∈ pre (dif s t)) (KL_grows hs ht) (fun p _ q hq => mem_pre.mpr (.inr (kid_dif ds dt hq))) 32 [] nil_pre
theorem dif_sub {n : (List Nat)} (h : n ∈ dif s t) : n ∈ nm s ∨ n ∈ nm t := by
  rcases mem_dif.mp h with ⟨v, h1, _⟩ | ⟨v, h1, _⟩
  · exact .inl (List.mem_map.mpr ⟨_, h1, rfl⟩)
  · exact .inr (List.mem_map.mpr ⟨_, h1, rfl⟩)
theorem dif_ok (hs : Sh s) (ht : Sh t) : NmOk (dif s t) := by
  refine ⟨?_, fun n hn => (dif_sub hn).elim (fun h => hs.nm.each n h) fun h => ht.nm.each n h⟩
  have h1 := nodup_len (m := nm s ++ nm t) (l := dif s t) nodup_setE fun n hn => List.mem_append.mpr (dif_sub hn)
  rw [List.length_append, nm, nm, List.length_map, List.length_map] at h1
  have := hs.1
  have := ht.1
  omega
/-- nothing hidden: every beginning of a name that differs is looked at -/
theorem V_all (hs : Sh s) (ht : Sh t) (hh : hid s t = false) {n : (List Nat)} (hn : n ∈ dif s t) : ∀ m, m ≤ n.length → n.take m ∈ V (KL s t) []
  | 0, _ => by rw [List.take_zero]; exact V_self _
  | m + 1, hm => by
    have ih := V_all hs ht hh hn m (by omega)
    have hl : m < n.length := hm
    have e : n.take (m + 1) = n.take m ++ [n[m]] := by rw [List.take_append_getElem]
    have hp : (n.take m ++ [n[m]]) <+: n := by rw [← e]; exact List.take_prefix _ _
    have hx : [n[m]] ∈ sg s (n.take m) ∨ [n[m]] ∈ sg t (n.take m) := by
      rcases mem_dif.mp hn with ⟨v, h1, _⟩ | ⟨v, h1, _⟩
      · exact .inl (mem_setE.mpr (mem_kids.mpr ⟨_, rfl, _, h1, hp⟩))
      · exact .inr (mem_setE.mpr (mem_kids.mpr ⟨_, rfl, _, h1, hp⟩))
    rw [e]
    by_cases hd : df s t (n.take m) [n[m]] = true
    · refine V_kid (KL_grows hs ht) ih (List.mem_map.mpr ⟨[n[m]], ?_, rfl⟩)
      exact List.mem_filter.mpr ⟨mem_setE.mpr (List.mem_append.mpr hx), hd⟩
    · exfalso
      rw [Bool.not_eq_true] at hd
      have h1 : Sk.hp s t (n.take m) = false := by
        have := List.any_eq_false.mp (show (V (KL s t) []).any (Sk.hp s t) = false from hh) _ ih
        simpa using this
      have h2 := List.any_eq_false.mp (show (setE (sg s (n.take m) ++ sg t (n.take m))).any (Sk.hx s t (n.take m)) = false from h1) [n[m]] (mem_setE.mpr (List.mem_append.mpr hx))
      rw [Sk.hx, hd] at h2
      have h3 : begun s (n.take m ++ [n[m]]) = begun t (n.take m ++ [n[m]]) := by simpa using h2
      have h4 : n.take (n.take m ++ [n[m]]).length = n.take m ++ [n[m]] := take_pre.mpr hp
      rcases mem_dif.mp hn with ⟨v, h5, h6⟩ | ⟨v, h5, h6⟩
      · have : (n, v) ∈ begun s (n.take m ++ [n[m]]) := List.mem_filter.mpr ⟨h5, decide_eq_true h4⟩
        rw [h3] at this
        exact h6 (begun_sub this)
      · have : (n, v) ∈ begun t (n.take m ++ [n[m]]) := List.mem_filter.mpr ⟨h5, decide_eq_true h4⟩
        rw [← h3] at this
        exact h6 (begun_sub this)
theorem found_dif (hs : Sh s) (ht : Sh t) (ds : Dn s) (dt : Dn t) (hh : hid s t = false) : found (KL s t) s t = dif s t := by
  unfold found dif setE
  refine sort_same ((vis_nodup (KL_grows hs ht) 32 []).filter _) nodup_ddE fun n => ?_
  rw [mem_ddE]
  refine Iff.trans ?_ (mem_setE (x := n))
  rw [List.mem_filter]
  constructor
  · exact fun h => ne_dif ds dt h.2
  · intro h
    have := V_all hs ht hh h n.length (Nat.le_refl _)
    rw [List.take_length] at this
    exact ⟨this, dif_ne h⟩
theorem found_sub (ds : Dn s) (dt : Dn t) {n : (List Nat)} (h : n ∈ found (KL s t) s t) : n ∈ dif s t := ne_dif ds dt (List.mem_filter.mp (mem_sortE.mp h)).2
theorem seen_sub (hs : Sh s) (ht : Sh t) (ds : Dn s) (dt : Dn t) {n : (List Nat)} (h : n ∈ seen (KL s t)) : n ∈ pre (dif s t) := V_dif hs ht ds dt n (mem_sortE.mp h)
theorem ne_comm : ne t s = ne s t := by
  funext p
  show (!decide (own t p = own s p)) = (!decide (own s p = own t p))
  by_cases h : own s p = own t p
  · rw [decide_eq_true h, decide_eq_true h.symm]
  · rw [decide_eq_false h, decide_eq_false fun z => h z.symm]
theorem found_P : found (KP s t) s t = found (KL s t) s t := sortE_congr (V_perm.filter _)
theorem seen_P : seen (KP s t) = seen (KL s t) := sortE_congr V_perm
theorem found_C : found (KP t s) t s = found (KL s t) s t := by
  rw [found_P]
  unfold found
  rw [ne_comm]
  exact sortE_congr (V_comm.filter _)
theorem seen_C : seen (KP t s) = seen (KL s t) := by
  rw [seen_P]
  exact sortE_congr V_comm
end
/-! one number exchanged -/
theorem mod_inj {a b n : Int} (h : (a * 263 + n) % 65521 = (b * 263 + n) % 65521) : a % 65521 = b % 65521 := by
  have h1 : (a * 263 - b * 263) % 65521 = 0 := by omega
  omega
theorem foldl_mod (l : List Int) : ∀ {a b : Int}, a % 65521 ≠ b % 65521 → l.foldl (fun w n => (w * 263 + n) % 65521) a % 65521 ≠ l.foldl (fun w n => (w * 263 + n) % 65521) b % 65521 := by
  induction l with
  | nil => exact fun h => h
  | cons n l ih =>
    intro a b h
    rw [List.foldl_cons, List.foldl_cons]
    refine ih fun e => h (mod_inj (n := n) ?_)
    omega
theorem fold_inj {l r : List Int} {u v : Int} (h : u % 65521 ≠ v % 65521) : fold (l ++ u :: r) ≠ fold (l ++ v :: r) := by
  unfold fold
  rw [List.foldl_append, List.foldl_append, List.foldl_cons, List.foldl_cons]
  intro e
  refine foldl_mod r (a := (l.foldl (fun w n => (w * 263 + n) % 65521) 1 * 263 + u) % 65521) (b := (l.foldl (fun w n => (w * 263 + n) % 65521) 1 * 263 + v) % 65521) ?_ (congrArg (· % 65521) e)
  omega
theorem fold_range {l : List Int} (h : l ≠ []) : 0 ≤ fold l ∧ fold l < 65521 := by
  obtain ⟨m, a, rfl⟩ := snoc_of h
  rw [fold_snoc]
  omega
section
variable {s t : (List ((List Nat) × Int))} {p : (List Nat)}
theorem DG_range (hs : Sh s) : 0 ≤ DG s p ∧ DG s p < 65521 := by
  rw [DG_eq hs]
  exact fold_range (by simp [nodeR])
/-- t is s but for one number -/
structure One (s t : (List ((List Nat) × Int))) (n : (List Nat)) : Prop where
  nms : nm t = nm s
  dif : dif s t = [n]
  num : ∃ a b, own s n = [a] ∧ own t n = [b] ∧ a % 65521 ≠ b % 65521
theorem sg_names (h : nm t = nm s) : sg t p = sg s p := by
  refine setE_congr fun x => ?_
  rw [mem_kids, mem_kids]
  have key : ∀ {a b : (List ((List Nat) × Int))}, nm a = nm b → (∃ c, x = [c] ∧ ∃ q ∈ a, (p ++ [c]) <+: q.1) → ∃ c, x = [c] ∧ ∃ q ∈ b, (p ++ [c]) <+: q.1 := by
    rintro a b hab ⟨c, rfl, q, hq, hp⟩
    have : q.1 ∈ nm b := by rw [← hab]; exact List.mem_map.mpr ⟨q, hq, rfl⟩
    obtain ⟨r, hr, e⟩ := List.mem_map.mp this
    exact ⟨c, rfl, r, hr, by rw [e]; exact hp⟩
  exact ⟨key h, key h.symm⟩
theorem nodeR_mid {ow : List Int} {l r : List (Nat × Int)} {c : Nat} {u : Int} : nodeR ow (l ++ (c, u) :: r) = (nodeR ow l ++ [(c : Int)]) ++ u :: (r.flatMap fun c => [(c.1 : Int), c.2]) := by
  simp [nodeR]
theorem One.ne {n : (List Nat)} (hs : Sh s) (ht : Sh t) (ds : Dn s) (dt : Dn t) (h : One s t n) : ∀ (m : Nat) (p : (List Nat)), p <+: n → n.length = p.length + m → DG s p ≠ DG t p
  | 0, p, hp, hl => by
    have e : p = n := hp.eq_of_length (by omega)
    subst e
    obtain ⟨a, b, e1, e2, e3⟩ := h.num
    rw [DG_eq hs, DG_eq ht, e1, e2, show setE (kids t p) = setE (kids s p) from sg_names h.nms]
    have e4 : (setE (kids s p)).map (fun x => (x.headD 0, DG t (p ++ x))) = (setE (kids s p)).map fun x => (x.headD 0, DG s (p ++ x)) := by
      refine List.map_congr_left fun x hx => ?_
      rw [DG_same ds dt fun m hm hpx => ?_]
      rw [h.dif, List.mem_singleton] at hm
      subst hm
      have := hpx.length_le
      rw [kid_len hx] at this
      omega
    rw [e4]
    exact fold_inj (l := [1]) (u := a) (v := b) e3
  | m + 1, p, hp, hl => by
    have hlt : p.length < n.length := by omega
    have hpn : n.take p.length = p := take_pre.mpr hp
    have e : n.take (p.length + 1) = p ++ [n[p.length]] := by
      have := List.take_append_getElem (l := n) (i := p.length) hlt
      rw [hpn] at this
      exact this.symm
    have hq : (p ++ [n[p.length]]) <+: n := by rw [← e]; exact List.take_prefix _ _
    have ih := One.ne hs ht ds dt h m (p ++ [n[p.length]]) hq (by rw [List.length_append]; simp only [List.length_cons, List.length_nil]; omega)
    have hx : [n[p.length]] ∈ setE (kids s p) := by
      have : n ∈ Sk.dif s t := by rw [h.dif]; simp
      have : n ∈ nm s := (dif_sub this).elim id fun z => by rw [← h.nms]; exact z
      obtain ⟨q, hq1, e⟩ := List.mem_map.mp this
      exact mem_setE.mpr (mem_kids.mpr ⟨_, rfl, q, hq1, by rw [e]; exact hq⟩)
    obtain ⟨l, r, el⟩ := List.append_of_mem hx
    have hnd : (l ++ [n[p.length]] :: r).Nodup := by rw [← el]; exact nodup_setE
    have oth : ∀ y ∈ setE (kids s p), y ≠ [n[p.length]] → DG s (p ++ y) = DG t (p ++ y) := fun y hy hne => DG_same ds dt fun m hm hpx => by
      rw [h.dif, List.mem_singleton] at hm
      subst hm
      obtain ⟨c, rfl, _⟩ := mem_kids.mp (mem_setE.mp hy)
      have h1 := (pre_snoc.mp hpx).2
      rw [List.getElem?_eq_getElem hlt] at h1
      exact hne (by rw [Option.some.inj h1])
    have hown : own s p = own t p := by
      refine own_eq ds dt fun v => not_dif (fun z => ?_) v
      rw [h.dif, List.mem_singleton] at z
      rw [z] at hlt
      omega
    rw [DG_eq hs, DG_eq ht, hown, show setE (kids t p) = setE (kids s p) from sg_names h.nms, el]
    have e5 : ∀ k : List (List Nat), (∀ y ∈ k, y ∈ setE (kids s p) ∧ y ≠ [n[p.length]]) → k.map (fun x => (x.headD 0, DG s (p ++ x))) = k.map fun x => (x.headD 0, DG t (p ++ x)) := fun k hk => List.map_congr_left fun y hy => by rw [oth y (hk y hy).1 (hk y hy).2]
    obtain ⟨n1, n2, n3⟩ := List.nodup_append.mp hnd
    have hl1 := e5 l fun y hy => ⟨by rw [el]; exact List.mem_append_left _ hy, fun z => n3 y hy _ (List.mem_cons_self ..) z⟩
    have hr1 := e5 r fun y hy => ⟨by rw [el]; exact List.mem_append_right _ (List.mem_cons_of_mem _ hy), fun z => (List.nodup_cons.mp n2).1 (by rw [← z]; exact hy)⟩
    rw [List.map_append, List.map_append, List.map_cons, List.map_cons, hl1, hr1, nodeR_mid, nodeR_mid]
    refine fold_inj ?_
    have r1 := DG_range (p := p ++ [n[p.length]]) hs
    have r2 := DG_range (p := p ++ [n[p.length]]) ht
    omega
theorem One.V_all {n : (List Nat)} (hs : Sh s) (ht : Sh t) (ds : Dn s) (dt : Dn t) (h : One s t n) : ∀ m, m ≤ n.length → n.take m ∈ V (KL s t) []
  | 0, _ => by rw [List.take_zero]; exact V_self _
  | m + 1, hm => by
    have ih := One.V_all hs ht ds dt h m (by omega)
    have hl : m < n.length := hm
    have e : n.take (m + 1) = n.take m ++ [n[m]] := by rw [List.take_append_getElem]
    have hp : (n.take m ++ [n[m]]) <+: n := by rw [← e]; exact List.take_prefix _ _
    have hx : [n[m]] ∈ sg s (n.take m) ∨ [n[m]] ∈ sg t (n.take m) := by
      have : n ∈ Sk.dif s t := by rw [h.dif]; simp
      rcases mem_dif.mp this with ⟨v, h1, _⟩ | ⟨v, h1, _⟩
      · exact .inl (mem_setE.mpr (mem_kids.mpr ⟨_, rfl, _, h1, hp⟩))
      · exact .inr (mem_setE.mpr (mem_kids.mpr ⟨_, rfl, _, h1, hp⟩))
    rw [e]
    refine V_kid (KL_grows hs ht) ih (List.mem_map.mpr ⟨[n[m]], mem_dsL.mpr ⟨hx, .inr (.inr ?_)⟩, rfl⟩)
    exact One.ne hs ht ds dt h (n.length - (m + 1)) _ hp (by rw [← e, List.length_take]; omega)
theorem One.seen {n : (List Nat)} (hs : Sh s) (ht : Sh t) (ds : Dn s) (dt : Dn t) (h : One s t n) : Sk.seen (KL s t) = pre [n] := by
  unfold Sk.seen pre setE
  refine sort_same (vis_nodup (KL_grows hs ht) 32 []) nodup_ddE fun q => ?_
  rw [mem_ddE]
  refine Iff.trans ?_ (mem_setE (x := q))
  constructor
  · intro hq
    have := V_dif hs ht ds dt q hq
    rw [h.dif] at this
    exact this
  · intro hq
    rcases mem_pre.mp (show q ∈ pre [n] from hq) with rfl | ⟨m, hm, hp⟩
    · exact V_self _
    · rw [List.mem_singleton] at hm
      subst hm
      have := h.V_all hs ht ds dt q.length hp.length_le
      rw [take_pre.mpr hp] at this
      exact this
theorem One.found {n : (List Nat)} (hs : Sh s) (ht : Sh t) (ds : Dn s) (dt : Dn t) (h : One s t n) : Sk.found (KL s t) s t = [n] := by
  unfold Sk.found
  have e1 : [n] = sortE D.str [n] := (sortE_self (by simp)).symm
  rw [e1]
  refine sort_same ((vis_nodup (KL_grows hs ht) 32 []).filter _) (by simp) fun q => ?_
  rw [List.mem_filter, List.mem_singleton]
  constructor
  · intro hq
    have := ne_dif ds dt hq.2
    rw [h.dif, List.mem_singleton] at this
    exact this
  · rintro rfl
    refine ⟨?_, dif_ne (by rw [h.dif]; simp)⟩
    have := h.V_all hs ht ds dt q.length (Nat.le_refl _)
    rw [List.take_length] at this
    exact this
end

end Sk

end

section
set_option Elab.async false
set_option linter.all false
set_option maxRecDepth 100000
set_option maxHeartbeats 4000000
namespace Sk
open PySem
local macro_rules
  | `(tactic| simp_arith [$as,*]) => `(tactic| simp only [w_lit, w_var, w_tup, w_lst, w_dnew, w_bin, w_cmp, w_isnone, w_isinst, w_and, w_or, w_not, w_ife, w_idx, w_slc, w_rev, w_call, w_blt, w_meth, w_mut, w_rng, w_A0, w_A1, w_R0, w_R1, w_C0, w_C1, w_lcW, w_lc, w_lc2, w_dcW, w_dc, w_dvals, w_ex, w_asg, w_par, w_sub, w_ret, w_sif, w_whl, w_for, w_forF, w_pass, w_brk, w_cnt, w_B0, w_B1, w_test, w_iterR, ↓next_nx, ↓next_ret, ↓next_brk, ↓next_ct, ↓turn_nx, ↓turn_ct, ↓turn_brk, ↓turn_ret, ↓fin_ret, ↓fin_nx, Ok_ok, Ok_er, slotAt_mk, List.getD_cons_succ, List.getD_cons_zero, List.set_cons_succ, List.set_cons_zero, List.cons_append, List.nil_append, List.append_nil, List.replicate, List.foldl, varR_val, varR_own, varR_bor, peek_val, peek_own, peek_bor, peekS_val, peekS_own, peekS_bor, freeze_val, freeze_own, freeze_bor, frzS_own, frzS_val, iterF_val, iterF_own, iterF_bor, itfS_own, itfS_val, itfS_bor, asgR_val, asgR_own, asgR_bor, agS_val, agS_own, agS_bor, asgR_tp, asgD_nm, asgD_tp, asgAll_nil, asgAll_cons, wipeS_mk, backS_mk, toSls0, Ok_toSls1, toSl_val, toSl_own, toSl_bor, tslS_val, tslS_own, tslS_bor, esc_pg, cxF_call, cxF_N, outR_val, outR_own, outR_bor, outS_val, outS_own, content_val, content_own, content_bor, Option.isSome_some, valR_val, ownL_own, ownK_own, noBor_val, noBor_own, add_int, sub_int, len_lst, len_tup, len_dct, int_int, list_lst, list_tup, tuple_lst, tuple_tup, ord_str, itemsC_lst, itemsC_tup, itemsD_lst, itemsD_tup, itemsD_str, eq_int, ne_int, lt_int, gt_int, le_int, ge_int, truth_bl, truth_lst, truth_tup, part_non, part_int, Ok_md, Ok_fdiv, Ok_mul, Ok_idx_lst, Ok_idx_tup, Ok_idx_str, Ok_listr, isE_map, isE_snoc, subW_mk, Ok_sortset, atI0, atI1, atI2, atI3, cutD_to, cutD_from, eq_str, ne_str, decide_true, decide_false, Option.map_some, Option.map_none, pop_snoc, Ok_add_str, Ok_add_tup, Ok_add_lst, Ok_len_str, Ok_rng1, Ok_rng2, Ok_append, Ok_extendL, Ok_extendT, slc_tup, slc_lst, Ok_slc_str, still_val, rev_lst, if_true, if_false, ite_true, ite_false, Bool.false_eq_true, if_true', reduceIte, true_and, and_true, Bool.not_true, Bool.not_false, Bool.not_not, exists_eq_left', exists_eq_left, Option.some.injEq, $as,*])
/-! SpI: _law_is, _law_search_due. -/
theorem isint_int {i : Int} : isTy .int (.int i) = .ok true := rfl
theorem isbl_int {i : Int} : isTy .bool (.int i) = .ok false := rfl
theorem isbl_str {i : List Nat} : isTy .bool (.str i) = .ok false := rfl
theorem isint_str {i : List Nat} : isTy .int (.str i) = .ok false := rfl
theorem isstr_str {i : List Nat} : isTy .str (.str i) = .ok true := rfl
theorem isbl_tup {i : List D} : isTy .bool (.tup i) = .ok false := rfl
theorem isint_tup {i : List D} : isTy .int (.tup i) = .ok false := rfl
theorem isstr_tup {i : List D} : isTy .str (.tup i) = .ok false := rfl
theorem istup_tup {i : List D} : isTy .tuple (.tup i) = .ok true := rfl
theorem isbl_bl {b : Bool} : isTy .bool (.bl b) = .ok true := rfl
theorem eq_bl {i j : Bool} : cmpD .eq (.bl i) (.bl j) = .ok (decide (i = j)) := En.cmp_eq i j
/-- data that _law_is takes -/
def simD : Nat → D → Bool
  | _, .bl _ => true
  | _, .int _ => true
  | _, .str _ => true
  | n + 1, .tup xs => decide (xs.length ≤ 16777216) && xs.all (simD n)
  | _, _ => false
theorem boolAll_true : ∀ (l : List Nat), boolAll ((l.map fun _ => true).map D.bl) = some true
  | [] => rfl
  | _ :: l => by
    rw [List.map_cons, List.map_cons, boolAll, boolAll_true l]; rfl
theorem non_bl {b : Bool} : decide ((D.bl b) = .non) = false := decide_eq_false (fun z => nomatch z)
theorem non_int {b : Int} : decide ((D.int b) = .non) = false := decide_eq_false (fun z => nomatch z)
theorem non_str {b : List Nat} : decide ((D.str b) = .non) = false := decide_eq_false (fun z => nomatch z)
theorem non_tup {b : List D} : decide ((D.tup b) = .non) = false := decide_eq_false (fun z => nomatch z)
section
variable {N k : Nat} {mh : MH} {s t : (List ((List Nat) × Int))} {p : (List Nat)}
theorem e_law_is_integer {i : Int} : evF pg N (k + 1) i__law_is_integer [.val (.int i)] mh = .ok (.val (.bl true), mh) := by
  refine ofOk (w_F pg__law_is_integer rfl (by decide) ?_)
  simp_arith [d__law_is_integer, isint_int, isbl_int]
theorem e_law_is : ∀ (n : Nat) (d : D), simD n d = true → evF pg N (k + n + 2) i__law_is [.val d, .val d] mh = .ok (.val (.bl true), mh)
  | n, .bl b, _ => by
    refine ofOk (w_F pg__law_is rfl (by decide) ?_)
    simp_arith [d__law_is, isbl_bl, eq_bl, non_bl]
  | n, .int b, _ => by
    refine ofOk (w_F pg__law_is rfl (by decide) ?_)
    simp_arith [d__law_is, isbl_int, isint_int, non_int, e_law_is_integer]
  | n, .str b, _ => by
    refine ofOk (w_F pg__law_is rfl (by decide) ?_)
    simp_arith [d__law_is, isbl_str, isint_str, isstr_str, non_str]
  | n + 1, .tup xs, h => by
    simp only [simD, Bool.and_eq_true, decide_eq_true_eq] at h
    refine ofOk (w_F pg__law_is rfl (by decide) ?_)
    simp_arith [d__law_is, isbl_tup, isint_tup, isstr_tup, istup_tup, non_tup, Int.toNat_natCast]
    refine ⟨by omega, ?_⟩
    refine lc_mp (em := D.bl) (fun i => true) (fun i hi => ?_) ?_
    · have hi := List.mem_range.mp hi
      simp_arith [atI_ofNat, List.getElem?_eq_getElem hi]
      have q := e_law_is n xs[i] (List.all_eq_true.mp h.2 _ (List.getElem_mem hi))
      rw [show k + (n + 1) + 1 = k + n + 2 by omega]
      simp_arith [q]
    · have e : bltM mh .all (.lst (((List.range xs.length).map fun _ => true).map D.bl)) = .ok (.val (.bl true)) := by
        simp only [bltM, bltD, boolAll_true]
      simp_arith [e]
  | 0, .tup xs, h => by simp [simD] at h
  | _, .non, h => by simp [simD] at h
  | _, .lst _, h => by simp [simD] at h
  | _, .dct _, h => by simp [simD] at h
  | _, .ref _, h => by simp [simD] at h
theorem simD_strs {l : List (List Nat)} {n : Nat} (h : l.length ≤ 16777216) : simD (n + 1) (.tup (l.map .str)) = true := by
  simp only [simD, List.length_map, Bool.and_eq_true, decide_eq_true_eq, List.all_map, List.all_eq_true]
  exact ⟨h, fun x _ => by cases n <;> rfl⟩
theorem simD_two {a b : List (List Nat)} (h : a.length ≤ 16777216) (h' : b.length ≤ 16777216) : simD 2 (.tup [.tup (a.map .str), .tup (b.map .str)]) = true := by
  rw [simD]
  simp only [List.length_cons, List.length_nil, List.all_cons, List.all_nil, Bool.and_true, simD_strs h, simD_strs h']
  rfl
theorem e_law_is2 {a b : List (List Nat)} (h : a.length ≤ 16777216) (h' : b.length ≤ 16777216) : evF pg N (k + 4) i__law_is [.val (.tup [.tup (a.map .str), .tup (b.map .str)]), .val (.tup [.tup (a.map .str), .tup (b.map .str)])] mh = .ok (.val (.bl true), mh) := e_law_is 2 _ (simD_two h h')
theorem found_len (hs : Sh s) (ht : Sh t) : (found (KL s t) s t).length ≤ 7938 := by
  rw [found, sortE_len]; exact filt_len (V_len hs ht)
theorem seen_len (hs : Sh s) (ht : Sh t) : (seen (KL s t)).length ≤ 7938 := by
  rw [seen, sortE_len]; exact V_len hs ht
theorem e_law_differing (hs : Sh s) (ht : Sh t) : evF pg N (k + 1) i__law_differing [.val (eS s), .val (eS t)] mh = .ok (.val (.tup ((dif s t).map .str)), mh) := by
  have h1 := hs.1
  have h2 := ht.1
  have h3 : ∀ a b : Nat, a ≤ 60 → b ≤ 60 → a + b ≤ 1000 := fun a b ha hb => by omega
  have l1 : ((s.filter fun q => !decide (q ∈ t)).map (·.1)).length ≤ 60 := by rw [List.length_map]; exact filt_len h1
  have l2 : ((t.filter fun q => !decide (q ∈ s)).map (·.1)).length ≤ 60 := by rw [List.length_map]; exact filt_len h2
  refine ofOk (w_F pg__law_differing rfl (by decide) ?_)
  simp_arith [d__law_differing]
  have e1 : ∀ a b : (List ((List Nat) × Int)), (a.filter fun q => !decide (q ∈ b)).map (·.1) = a.filterMap fun q => if q ∈ b then none else some q.1 := fun a b => by
    induction a with
    | nil => rfl
    | cons q a ih =>
      rw [List.filter_cons, List.filterMap_cons]
      by_cases h : q ∈ b
      · simp [h] at ih ⊢; exact ih
      · simp [h] at ih ⊢; exact ih
  refine lc_fm (em := D.str) (fun q => if q ∈ t then none else some q.1) (fun q hq => ?_) ?_
  · by_cases h : q ∈ t
    · simp_arith [En.nin_tup (e := eN), h]
    · simp_arith [En.nin_tup (e := eN), h]
      simp_arith [eN]
      rw [if_neg h]; rfl
  rw [← e1]
  simp_arith [w_lit]
  refine lc_fm (em := D.str) (fun q => if q ∈ s then none else some q.1) (fun q hq => ?_) ?_
  · by_cases h : q ∈ s
    · simp_arith [En.nin_tup (e := eN), h]
    · simp_arith [En.nin_tup (e := eN), h]
      simp_arith [eN]
      rw [if_neg h]; rfl
  rw [← e1]
  simp_arith [← List.map_append]
  refine ⟨?_, ?_⟩
  · have := h3 _ _ l1 l2
    simp only [List.length_map] at this ⊢
    unfold sz; omega
  · have := h3 _ _ l1 l2
    rw [← List.length_append] at this
    exact ⟨by rw [List.map_append]; omega, by rw [List.map_append]; rfl⟩
theorem filt0 {α : Type} (l : List α) : l.filter (fun _ => false) = [] := by simp
theorem e_law_search_due (hs : Sh s) (ht : Sh t) (ds : Dn s) (dt : Dn t) (hN : 10000 < N) : evF pg N (k + 8) i__law_search_due [.val (eS s), .val (eS t)] mh = .ok (.val (.bl true), mh) := by
  have p1 := e_stamp_search (N := N) (k := k) (mh := mh) hs ht hN
  have p2 := e_stamp_search (N := N) (k := k) (mh := mh) ht hs hN
  rw [found_P, seen_P] at p1
  rw [found_C, seen_C] at p2
  have fl := found_len hs ht
  have sl := seen_len hs ht
  have q := e_law_is2 (N := N) (k := k + 3) (mh := mh) (a := found (KL s t) s t) (b := seen (KL s t)) (by omega) (by omega)
  refine ofOk (w_F pg__law_search_due rfl (by decide) ?_)
  cases hh : hid s t with
  | false =>
    have hd : (!decide (found (KL s t) s t = dif s t)) = false := by rw [found_dif hs ht ds dt hh]; simp
    simp_arith [d__law_search_due, e_law_search hs ht hN, resL, p1, p2, q, List.length_cons, List.length_nil, e_law_differing hs ht, ne_tups (e := D.str), e_law_beginsT (dif_ok hs ht), hh, hd]
    refine ⟨by decide, by decide, ?_⟩
    refine lc_fl (fun _ => false) (fun x hx => ?_) ?_
    · have hx := found_sub ds dt hx
      simp_arith [En.nin_tup, hx]
    · simp_arith [filt0, List.map_nil, List.length_nil]
      rw [if_neg (by decide)]
      refine lc_fl (fun _ => false) (fun x hx => ?_) ?_
      · have hx := seen_sub hs ht ds dt hx
        simp_arith [En.nin_lst, hx]
      · simp_arith [filt0, List.map_nil, List.length_nil]
        rfl
  | true =>
    simp_arith [d__law_search_due, e_law_search hs ht hN, resL, p1, p2, q, List.length_cons, List.length_nil, e_law_differing hs ht, ne_tups (e := D.str), e_law_beginsT (dif_ok hs ht), hh]
    refine ⟨by decide, by decide, ?_⟩
    refine lc_fl (fun _ => false) (fun x hx => ?_) ?_
    · have hx := found_sub ds dt hx
      simp_arith [En.nin_tup, hx]
    · simp_arith [filt0, List.map_nil, List.length_nil]
      rw [if_neg (by decide)]
      refine lc_fl (fun _ => false) (fun x hx => ?_) ?_
      · have hx := seen_sub hs ht ds dt hx
        simp_arith [En.nin_lst, hx]
      · simp_arith [filt0, List.map_nil, List.length_nil]
        rfl
end

end Sk

end

section
set_option Elab.async false
set_option linter.all false
set_option maxRecDepth 100000
set_option maxHeartbeats 4000000
namespace Sk
open PySem
local macro_rules
  | `(tactic| simp_arith [$as,*]) => `(tactic| simp only [w_lit, w_var, w_tup, w_lst, w_dnew, w_bin, w_cmp, w_isnone, w_isinst, w_and, w_or, w_not, w_ife, w_idx, w_slc, w_rev, w_call, w_blt, w_meth, w_mut, w_rng, w_A0, w_A1, w_R0, w_R1, w_C0, w_C1, w_lcW, w_lc, w_lc2, w_dcW, w_dc, w_dvals, w_ex, w_asg, w_par, w_sub, w_ret, w_sif, w_whl, w_for, w_forF, w_pass, w_brk, w_cnt, w_B0, w_B1, w_test, w_iterR, ↓next_nx, ↓next_ret, ↓next_brk, ↓next_ct, ↓turn_nx, ↓turn_ct, ↓turn_brk, ↓turn_ret, ↓fin_ret, ↓fin_nx, Ok_ok, Ok_er, slotAt_mk, List.getD_cons_succ, List.getD_cons_zero, List.set_cons_succ, List.set_cons_zero, List.cons_append, List.nil_append, List.append_nil, List.replicate, List.foldl, varR_val, varR_own, varR_bor, peek_val, peek_own, peek_bor, peekS_val, peekS_own, peekS_bor, freeze_val, freeze_own, freeze_bor, frzS_own, frzS_val, iterF_val, iterF_own, iterF_bor, itfS_own, itfS_val, itfS_bor, asgR_val, asgR_own, asgR_bor, agS_val, agS_own, agS_bor, asgR_tp, asgD_nm, asgD_tp, asgAll_nil, asgAll_cons, wipeS_mk, backS_mk, toSls0, Ok_toSls1, toSl_val, toSl_own, toSl_bor, tslS_val, tslS_own, tslS_bor, esc_pg, cxF_call, cxF_N, outR_val, outR_own, outR_bor, outS_val, outS_own, content_val, content_own, content_bor, Option.isSome_some, valR_val, ownL_own, ownK_own, noBor_val, noBor_own, add_int, sub_int, len_lst, len_tup, len_dct, int_int, list_lst, list_tup, tuple_lst, tuple_tup, ord_str, itemsC_lst, itemsC_tup, itemsD_lst, itemsD_tup, itemsD_str, eq_int, ne_int, lt_int, gt_int, le_int, ge_int, truth_bl, truth_lst, truth_tup, part_non, part_int, Ok_md, Ok_fdiv, Ok_mul, Ok_idx_lst, Ok_idx_tup, Ok_idx_str, Ok_listr, isE_map, isE_snoc, subW_mk, Ok_sortset, atI0, atI1, atI2, atI3, cutD_to, cutD_from, eq_str, ne_str, decide_true, decide_false, Option.map_some, Option.map_none, pop_snoc, Ok_add_str, Ok_add_tup, Ok_add_lst, Ok_len_str, Ok_rng1, Ok_rng2, Ok_append, Ok_extendL, Ok_extendT, slc_tup, slc_lst, Ok_slc_str, still_val, rev_lst, if_true, if_false, ite_true, ite_false, Bool.false_eq_true, if_true', reduceIte, true_and, and_true, Bool.not_true, Bool.not_false, Bool.not_not, exists_eq_left', exists_eq_left, Option.some.injEq, $as,*])
/-! SpJ: the draws. -/
/-- the object made of draws -/
def mkO (ds : List Int) (a : Int) : MO := .dct [(.str [100, 114, 97, 119, 115], .lst (ds.map .int)), (.str [97, 116], .int a)]
structure GoodD (ds : List Int) : Prop where
  len : ds.length = 150
  lo : ∀ d ∈ ds, 0 ≤ d
structure Made (mh : MH) (n : Nat) : Prop where
  ex : ∃ ds a, GoodD ds ∧ 0 ≤ a ∧ mh[n]? = some (mkO ds a)
structure Mv (n : Nat) (mh mh' : MH) : Prop where
  len : mh'.length = mh.length
  oth : ∀ j, j ≠ n → mh'[j]? = mh[j]?
  made : Made mh' n
theorem Mv.refl {n : Nat} {mh : MH} (h : Made mh n) : Mv n mh mh := ⟨rfl, fun _ _ => rfl, h⟩
theorem Mv.trans {n : Nat} {a b c : MH} (h : Mv n a b) (h' : Mv n b c) : Mv n a c := ⟨h'.len.trans h.len, fun j hj => (h'.oth j hj).trans (h.oth j hj), h'.made⟩
theorem idx_at {mh : MH} {n : Nat} {ds : List Int} {a : Int} (h : mh[n]? = some (mkO ds a)) : idxD mh (.ref n) (.str [97, 116]) = .ok (.int a) := by
  simp [idxD, h, mkO, isAtom, lookD, keyEq, atomEq]
theorem idx_draws {mh : MH} {n : Nat} {ds : List Int} {a : Int} (h : mh[n]? = some (mkO ds a)) : idxD mh (.ref n) (.str [100, 114, 97, 119, 115]) = .ok (.lst (ds.map .int)) := by
  simp [idxD, h, mkO, isAtom, lookD, keyEq, atomEq]
theorem set_mk {ds : List Int} {a b : Int} : putD (.str [97, 116]) (.int b) [(.str [100, 114, 97, 119, 115], .lst (ds.map .int)), (.str [97, 116], .int a)] = [(.str [100, 114, 97, 119, 115], .lst (ds.map .int)), (.str [97, 116], .int b)] := by
  simp [putD, keyEq, atomEq]
section
variable {N k n : Nat} {mh : MH}
theorem sbS_at {i : Nat} {ρ : List Sl} {ds : List Int} {a b : Int} (h : mh[n]? = some (mkO ds a)) : sbS i ρ mh (.int b) (.str [97, 116]) (.val (.ref n)) = .ok ⟨ρ, mh.set n (mkO ds b)⟩ := by
  simp only [sbS, h, mkO, isAtom, set_mk]
  rfl
theorem sp_take {m : Int} (hm : Made mh n) (h0 : 0 < m) : Ok (evF pg N (k + 1) i__law_take [.val (.ref n), .val (.int m)] mh) fun p => ∃ v : Int, 0 ≤ v ∧ v < m ∧ p.1 = .val (.int v) ∧ Mv n mh p.2 := by
  obtain ⟨ds, a, hg, ha, hn⟩ := hm
  refine w_F pg__law_take rfl (by decide) ?_
  have hn' : (mh.set n (mkO ds (a + 1)))[n]? = some (mkO ds (a + 1)) := by
    have hl : n < mh.length := by
      rcases Nat.lt_or_ge n mh.length with h | h
      · exact h
      · rw [List.getElem?_eq_none h] at hn; cases hn
    simp [hl]
  have hd : ((ds.map D.int).length : Int) = 150 := by rw [List.length_map, hg.len]; rfl
  simp_arith [d__law_take, idx_at hn, sbS_at hn, idx_draws hn', hd, List.length_cons, List.length_nil]
  have h1 : 0 ≤ a % 150 := Int.emod_nonneg _ (by decide)
  have h2 : a % 150 < 150 := Int.emod_lt_of_pos _ (by decide)
  have hl : (a % 150).toNat < ds.length := by rw [hg.len]; omega
  have h3 : 0 ≤ a / 150 % 4 := Int.emod_nonneg _ (by decide)
  have h4 : a / 150 % 4 < 4 := Int.emod_lt_of_pos _ (by decide)
  obtain ⟨w, hw, hw0, hw1⟩ : ∃ w : Int, L2.atI [D.int 1, D.int 7, D.int 59, D.int 211] (a / 150 % 4) = some (.int w) ∧ 0 < w ∧ w < 1073741824 := by
    rw [atI_nat h3]
    have h5 : (a / 150 % 4).toNat < 4 := by omega
    generalize (a / 150 % 4).toNat = j at h5
    match j, h5 with
    | 0, _ => exact ⟨1, rfl, by decide, by decide⟩
    | 1, _ => exact ⟨7, rfl, by decide, by decide⟩
    | 2, _ => exact ⟨59, rfl, by decide, by decide⟩
    | 3, _ => exact ⟨211, rfl, by decide, by decide⟩
  have hx : 0 ≤ ds[(a % 150).toNat] := hg.lo _ (List.getElem_mem hl)
  refine ⟨by decide, .int ds[(a % 150).toNat], ?_, ?_⟩
  · rw [atI_nat h1, List.getElem?_map, List.getElem?_eq_getElem hl]; rfl
  generalize ds[(a % 150).toNat] = x at hx
  simp_arith [hw, hd, List.length_cons, List.length_nil]
  refine ⟨by decide, by decide, by decide, ⟨hw0, hw1⟩, .inl (by decide), by decide, h0, _, ?_, ?_, rfl, ?_, ?_, ?_⟩
  · exact Int.emod_nonneg _ (by omega)
  · exact Int.emod_lt_of_pos _ h0
  · simp
  · intro j hj
    rw [List.getElem?_set_ne (Ne.symm hj)]
  · exact ⟨ds, a + 1, hg, by omega, hn'⟩
/-- one of some written things, by a draw -/
theorem pick {xs : List D} {v : Int} (h0 : 0 ≤ v) (h1 : v < (xs.length : Int)) : ∃ d, L2.atI xs v = some d ∧ d ∈ xs := by
  rw [atI_nat h0]
  have h : v.toNat < xs.length := by omega
  exact ⟨xs[v.toNat], List.getElem?_eq_getElem h, List.getElem_mem h⟩
def lineTexts : List (List Nat) := [[97], [98], [99], [100], [97, 32, 98], [], [120, 32, 60, 32, 121, 32, 58, 32, 122], [101]]
theorem sp_made_line (hm : Made mh n) : Ok (evF pg N (k + 2) i__law_made_line [.val (.ref n)] mh) fun p => ∃ x ∈ lineTexts, p.1 = .val (.str x) ∧ Mv n mh p.2 := by
  refine w_F pg__law_made_line rfl (by decide) ?_
  simp_arith [d__law_made_line, List.length_cons, List.length_nil]
  refine ⟨by decide, ?_⟩
  refine (sp_take hm (by decide)).mono ?_
  rintro ⟨r, mh'⟩ ⟨v, h0, h1, rfl, hv⟩
  simp_arith [w_lit]
  obtain ⟨d, e, hd⟩ := pick (xs := lineTexts.map D.str) h0 h1
  obtain ⟨x, hx, rfl⟩ := List.mem_map.mp hd
  exact ⟨_, e, x, hx, rfl, hv⟩
theorem sp_made_text {m : Int} (hm : Made mh n) (h0 : 0 ≤ m) (h1 : m ≤ 1000) : Ok (evF pg N (k + 3) i__law_made_text [.val (.ref n), .val (.int m)] mh) fun p => ∃ xs : List (List Nat), xs.length ≤ m.toNat ∧ (∀ x ∈ xs, x ∈ lineTexts) ∧ p.1 = .val (.tup (xs.map .str)) ∧ Mv n mh p.2 := by
  refine w_F pg__law_made_text rfl (by decide) ?_
  simp_arith [d__law_made_text]
  refine (sp_take hm (by omega)).mono ?_
  rintro ⟨r, mh1⟩ ⟨v, hv0, hv1, rfl, hv⟩
  simp_arith [w_lit]
  refine ⟨by omega, ?_⟩
  refine lc_inv (fun d a s => ∃ xs : List (List Nat), a = xs.map .str ∧ xs.length = d.length ∧ (∀ x ∈ xs, x ∈ lineTexts) ∧ ∃ mh', s = ⟨[.val (.ref n), .val (.int m), .un], mh'⟩ ∧ Mv n mh mh') ⟨[], rfl, rfl, by simp, mh1, rfl, hv⟩ ?_ ?_
  · rintro d x r a s e ⟨xs, rfl, hxl, hx, mh', rfl, hmv⟩
    simp_arith [w_lit]
    refine (sp_made_line hmv.made).mono ?_
    rintro ⟨r, mh2⟩ ⟨y, hy, rfl, hv2⟩
    simp_arith [w_lit]
    refine ⟨xs ++ [y], by simp, by simp [hxl], ?_, mh2, rfl, hmv.trans hv2⟩
    intro z hz
    rcases List.mem_append.mp hz with h | h
    · exact hx z h
    · rw [List.mem_singleton.mp h]; exact hy
  · rintro a s ⟨xs, rfl, hxl, hx, mh', rfl, hmv⟩
    simp_arith [w_lit]
    exact ⟨xs, by rw [hxl, List.length_range]; omega, hx, rfl, hmv⟩
theorem sp_some {xs : List D} {x : Sl} (hx : x = .val (.tup xs) ∨ x = .bor (.lst xs)) (hm : Made mh n) : Ok (evF pg N (k + 2) i__law_some [.val (.ref n), x] mh) fun p => ∃ ys, ys.Sublist xs ∧ p.1 = .val (.tup ys) ∧ Mv n mh p.2 := by
  have core : ∀ {Q : List D × S → Prop}, (∀ a mh', a.Sublist xs → Mv n mh mh' → Q (a, ⟨[.val (.ref n), x, .un], mh'⟩)) → Ok (lcLoop (lcW (cxF pg N (k + 1)) [2] (.nm 2) [.cmp .eq (.call i__law_take [.var 0, .lit (.int 2)]) (.lit (.int 0))] (.var 2)) xs [] ⟨[.val (.ref n), x, .un], mh⟩) Q := by
    intro Q hQ
    have e : xs = xs.map id := by simp
    rw [e]
    refine lc_inv (fun d a s => a.Sublist d ∧ ∃ mh', s = ⟨[.val (.ref n), x, .un], mh'⟩ ∧ Mv n mh mh') ⟨List.Sublist.refl _, mh, rfl, Mv.refl hm⟩ ?_ ?_
    · rintro d y r a s e ⟨hs, mh', rfl, hmv⟩
      simp_arith [w_lit]
      refine (sp_take hmv.made (by decide)).mono ?_
      rintro ⟨r, mh2⟩ ⟨v, hv0, hv1, rfl, hv2⟩
      simp_arith [decide_eq_true_eq]
      split
      · exact ⟨hs.append (List.Sublist.refl _), mh2, rfl, hmv.trans hv2⟩
      · exact ⟨hs.trans (List.sublist_append_left _ _), mh2, rfl, hmv.trans hv2⟩
    · rintro a s ⟨hs, mh', rfl, hmv⟩
      exact hQ a mh' (by simpa using hs) hmv
  refine w_F pg__law_some rfl (by decide) ?_
  rcases hx with rfl | rfl
  · simp_arith [d__law_some]
    refine core fun a mh' ha hmv => ?_
    simp_arith [w_lit]
    exact ⟨a, ha, rfl, hmv⟩
  · simp_arith [d__law_some]
    refine core fun a mh' ha hmv => ?_
    simp_arith [w_lit]
    exact ⟨a, ha, rfl, hmv⟩
theorem e_cell {ns : List Int} {i : Nat} (h : mh[0]? = some (.scr (ns.map .int))) (hi : i ≤ 1000) : ∃ z : Int, (z ∈ ns ∨ z = 5 * (i : Int) + 3) ∧ evF pg N (k + 1) i__law_cell [.val (.ref 0), .val (.int (i : Int))] mh = .ok (.val (.int z), mh) := by
  have hl : bltM mh .len (.ref 0) = .ok (.val (.int (ns.length : Int))) := by
    simp only [bltM, h, List.length_map]
  by_cases hh : i < ns.length
  · refine ⟨ns[i], .inl (List.getElem_mem hh), ?_⟩
    have hx : idxD mh (.ref 0) (.int (i : Int)) = .ok (.int ns[i]) := by
      simp only [idxD, h, atI_ofNat, List.getElem?_map, List.getElem?_eq_getElem hh, Option.map_some]
    have hc : decide ((i : Int) < (ns.length : Int)) = true := decide_eq_true (by omega)
    refine ofOk (w_F pg__law_cell rfl (by decide) ?_)
    simp_arith [d__law_cell, hl, hx, hc]
  · refine ⟨5 * (i : Int) + 3, .inr rfl, ?_⟩
    have hc : decide ((i : Int) < (ns.length : Int)) = false := decide_eq_false (by omega)
    refine ofOk (w_F pg__law_cell rfl (by decide) ?_)
    simp_arith [d__law_cell, hl, hc]
    exact .inl (by decide)
end

end Sk

end

section
set_option Elab.async false
set_option linter.all false
set_option maxRecDepth 100000
set_option maxHeartbeats 4000000
namespace Sk
open PySem
local macro_rules
  | `(tactic| simp_arith [$as,*]) => `(tactic| simp only [w_lit, w_var, w_tup, w_lst, w_dnew, w_bin, w_cmp, w_isnone, w_isinst, w_and, w_or, w_not, w_ife, w_idx, w_slc, w_rev, w_call, w_blt, w_meth, w_mut, w_rng, w_A0, w_A1, w_R0, w_R1, w_C0, w_C1, w_lcW, w_lc, w_lc2, w_dcW, w_dc, w_dvals, w_ex, w_asg, w_par, w_sub, w_ret, w_sif, w_whl, w_for, w_forF, w_pass, w_brk, w_cnt, w_B0, w_B1, w_test, w_iterR, ↓next_nx, ↓next_ret, ↓next_brk, ↓next_ct, ↓turn_nx, ↓turn_ct, ↓turn_brk, ↓turn_ret, ↓fin_ret, ↓fin_nx, Ok_ok, Ok_er, slotAt_mk, List.getD_cons_succ, List.getD_cons_zero, List.set_cons_succ, List.set_cons_zero, List.cons_append, List.nil_append, List.append_nil, List.replicate, List.foldl, varR_val, varR_own, varR_bor, peek_val, peek_own, peek_bor, peekS_val, peekS_own, peekS_bor, freeze_val, freeze_own, freeze_bor, frzS_own, frzS_val, iterF_val, iterF_own, iterF_bor, itfS_own, itfS_val, itfS_bor, asgR_val, asgR_own, asgR_bor, agS_val, agS_own, agS_bor, asgR_tp, asgD_nm, asgD_tp, asgAll_nil, asgAll_cons, wipeS_mk, backS_mk, toSls0, Ok_toSls1, toSl_val, toSl_own, toSl_bor, tslS_val, tslS_own, tslS_bor, esc_pg, cxF_call, cxF_N, outR_val, outR_own, outR_bor, outS_val, outS_own, content_val, content_own, content_bor, Option.isSome_some, valR_val, ownL_own, ownK_own, noBor_val, noBor_own, add_int, sub_int, len_lst, len_tup, len_dct, int_int, list_lst, list_tup, tuple_lst, tuple_tup, ord_str, itemsC_lst, itemsC_tup, itemsD_lst, itemsD_tup, itemsD_str, eq_int, ne_int, lt_int, gt_int, le_int, ge_int, truth_bl, truth_lst, truth_tup, part_non, part_int, Ok_md, Ok_fdiv, Ok_mul, Ok_idx_lst, Ok_idx_tup, Ok_idx_str, Ok_listr, isE_map, isE_snoc, subW_mk, Ok_sortset, atI0, atI1, atI2, atI3, cutD_to, cutD_from, eq_str, ne_str, decide_true, decide_false, Option.map_some, Option.map_none, pop_snoc, Ok_add_str, Ok_add_tup, Ok_add_lst, Ok_len_str, Ok_rng1, Ok_rng2, Ok_append, Ok_extendL, Ok_extendT, slc_tup, slc_lst, Ok_slc_str, still_val, rev_lst, if_true, if_false, ite_true, ite_false, Bool.false_eq_true, if_true', reduceIte, true_and, and_true, Bool.not_true, Bool.not_false, Bool.not_not, exists_eq_left', exists_eq_left, Option.some.injEq, $as,*])
/-! SpK: the draws of a cell, bent lines, stamps drawn and bent. -/
section
variable {N k n : Nat} {mh : MH}
theorem abs_int {i : Int} : bltM mh .abs (.int i) = .ok (.val (.int (if i < 0 then -i else i))) := rfl
theorem Ok_pow {i j : Int} {Q : RV → Prop} : Ok (binD .pow (.int i) (.int j)) Q ↔ (0 ≤ j ∧ j ≤ 1000000 ∧ i.natAbs < 2 ^ 64) ∧ Q (.val (.int (i ^ j.toNat))) := by
  simp only [binD, Ok_gd, Ok_ok]
theorem e_draws (z : Int) : ∃ ds, GoodD ds ∧ evF pg N (k + 1) i__law_draws [.val (.int z), .val (.int 150)] mh = .ok (.own (.lst (ds.map .int)), mh) := by
  have key : Ok (evF pg N (k + 1) i__law_draws [.val (.int z), .val (.int 150)] mh) fun p => ∃ ds, GoodD ds ∧ p = (.own (.lst (ds.map .int)), mh) := by
    refine w_F pg__law_draws rfl (by decide) ?_
    simp_arith [d__law_draws, abs_int, Ok_pow, List.length_nil]
    refine ⟨by decide, by decide, by decide, ?_⟩
    generalize (!decide ((if z < 0 then -z else z) < 10 ^ Int.toNat 18)) = b
    have hs : 0 ≤ (if z < 0 then -z else z) := by split <;> omega
    generalize (if z < 0 then -z else z) = seed at hs
    refine for_inv (fun d s => ∃ (rest : Int) (ds : List Int) (x y : Sl), 0 ≤ rest ∧ ds.length = d.length ∧ (∀ e ∈ ds, 0 ≤ e) ∧ s = ⟨[.val (.int z), .val (.int 150), .val (.int rest), .val (.bl b), .val (.int seed), .own (.lst (ds.map .int)), x, y], mh⟩) ⟨seed, [], .un, .un, hs, rfl, by simp, rfl⟩ ?_ ?_
    · rintro d i r s e ⟨rest, ds, x, y, hr, hl, h0, rfl⟩
      have hi : d.length ≤ 150 := by
        have := congrArg List.length e
        rw [List.length_range, List.length_append] at this
        simp only [show Int.toNat 150 = 150 from rfl] at this
        omega
      have sn : ∀ v : Int, ds.map D.int ++ [D.int v] = (ds ++ [v]).map D.int := fun v => by rw [List.map_append]; rfl
      have hall : ∀ v : Int, 0 ≤ v → ∀ e ∈ ds ++ [v], 0 ≤ e := fun v hv e he => by
        rcases List.mem_append.mp he with h | h
        · exact h0 e h
        · rw [List.mem_singleton.mp h]; exact hv
      have plain : Ok (evB (cxF pg N k) [.asg (.nm 7) (.bin .md (.blt .int (.bin .add (.bin .add (.bin .mul (.var 4) (.lit (.int 48271))) (.bin .mul (.bin .add (.var 6) (.lit (.int 1))) (.lit (.int 69621)))) (.lit (.int 11)))) (.lit (.int 2147483647))), .asg (.nm 7) (.bin .md (.blt .int (.bin .add (.bin .mul (.var 7) (.var 7)) (.bin .mul (.lit (.int 40692)) (.bin .add (.var 6) (.lit (.int 3)))))) (.lit (.int 2147483399))), .ex (.mut .append 5 [(.bin .md (.blt .int (.bin .fdiv (.var 7) (.lit (.int 64)))) (.lit (.int 5040)))])] ⟨[.val (.int z), .val (.int 150), .val (.int rest), .val (.bl b), .val (.int seed), .own (.lst (ds.map .int)), .val (.int (i : Int)), y], mh⟩) fun q => q.1 = .nx ∧ ∃ (rest : Int) (ds : List Int) (x y : Sl), 0 ≤ rest ∧ ds.length = (d ++ [i]).length ∧ (∀ e ∈ ds, 0 ≤ e) ∧ q.2 = ⟨[.val (.int z), .val (.int 150), .val (.int rest), .val (.bl b), .val (.int seed), .own (.lst (ds.map .int)), x, y], mh⟩ := by
        simp_arith [Ok_append, sn, List.length_map]
        refine ⟨.inr (by decide), .inr (by decide), by decide, .inl ?_, .inl (by decide), by decide, by decide, by decide, by unfold sz; omega, rest, _, _, _, hr, by simp [hl], hall _ (Int.emod_nonneg _ (by decide)), rfl⟩
        have h1 := Int.emod_nonneg (seed * 48271 + ((i : Int) + 1) * 69621 + 11) (show (2147483647 : Int) ≠ 0 by decide)
        have h2 := Int.emod_lt_of_pos (seed * 48271 + ((i : Int) + 1) * 69621 + 11) (show (0 : Int) < 2147483647 by decide)
        generalize (seed * 48271 + ((i : Int) + 1) * 69621 + 11) % 2147483647 = w at h1 h2
        omega
      have fin1 : ∀ {Q : Fl × S → Prop}, Ok (evB (cxF pg N k) [.asg (.nm 7) (.bin .md (.blt .int (.bin .add (.bin .add (.bin .mul (.var 4) (.lit (.int 48271))) (.bin .mul (.bin .add (.var 6) (.lit (.int 1))) (.lit (.int 69621)))) (.lit (.int 11)))) (.lit (.int 2147483647))), .asg (.nm 7) (.bin .md (.blt .int (.bin .add (.bin .mul (.var 7) (.var 7)) (.bin .mul (.lit (.int 40692)) (.bin .add (.var 6) (.lit (.int 3)))))) (.lit (.int 2147483399))), .ex (.mut .append 5 [(.bin .md (.blt .int (.bin .fdiv (.var 7) (.lit (.int 64)))) (.lit (.int 5040)))])] ⟨[.val (.int z), .val (.int 150), .val (.int rest), .val (.bl b), .val (.int seed), .own (.lst (ds.map .int)), .val (.int (i : Int)), y], mh⟩) (next (turn Q fun s => ∃ (rest : Int) (ds : List Int) (x y : Sl), 0 ≤ rest ∧ ds.length = (d ++ [i]).length ∧ (∀ e ∈ ds, 0 ≤ e) ∧ s = ⟨[.val (.int z), .val (.int 150), .val (.int rest), .val (.bl b), .val (.int seed), .own (.lst (ds.map .int)), x, y], mh⟩) fun p => Ok (evB (cxF pg N k) [] p.2) (turn Q fun s => ∃ (rest : Int) (ds : List Int) (x y : Sl), 0 ≤ rest ∧ ds.length = (d ++ [i]).length ∧ (∀ e ∈ ds, 0 ≤ e) ∧ s = ⟨[.val (.int z), .val (.int 150), .val (.int rest), .val (.bl b), .val (.int seed), .own (.lst (ds.map .int)), x, y], mh⟩)) := fun {Q} => plain.mono fun q hq => by
        obtain ⟨f, s⟩ := q
        obtain ⟨h1, h2⟩ := hq
        simp only at h1
        subst h1
        rw [next_nx, w_B0, turn_nx]
        exact h2
      rw [w_forF]
      simp only [asgD_nm, Ok_ok, List.set_cons_succ, List.set_cons_zero]
      rw [w_B1, w_sif]
      cases b with
      | false =>
        simp only [w_and, w_var, slotAt_mk, List.getD_cons_succ, List.getD_cons_zero, varR_val, Ok_ok, peek_val, truth_bl, Bool.false_eq_true, if_false]
        exact fin1
      | true =>
        simp only [w_and, w_var, w_cmp, w_lit, gt_int, slotAt_mk, List.getD_cons_succ, List.getD_cons_zero, varR_val, Ok_ok, peek_val, truth_bl, if_true, decide_eq_true_eq]
        split
        · simp_arith [Ok_append, sn, List.length_map]
          exact ⟨by decide, by unfold sz; omega, by decide, rest / 5040, _, _, _, by omega, by simp [hl], hall _ (by omega), rfl⟩
        · exact fin1
    · rintro s ⟨rest, ds, x, y, hr, hl, h0, rfl⟩
      simp_arith [w_lit]
      exact ⟨ds, ⟨by rw [hl, List.length_range]; rfl, h0⟩, rfl⟩
  obtain ⟨p, e, ds, hd, rfl⟩ := key
  exact ⟨ds, hd, e⟩
end

end Sk

end

section
set_option Elab.async false
set_option linter.all false
set_option maxRecDepth 100000
set_option maxHeartbeats 4000000
namespace Sk
open PySem
local macro_rules
  | `(tactic| simp_arith [$as,*]) => `(tactic| simp only [w_lit, w_var, w_tup, w_lst, w_dnew, w_bin, w_cmp, w_isnone, w_isinst, w_and, w_or, w_not, w_ife, w_idx, w_slc, w_rev, w_call, w_blt, w_meth, w_mut, w_rng, w_A0, w_A1, w_R0, w_R1, w_C0, w_C1, w_lcW, w_lc, w_lc2, w_dcW, w_dc, w_dvals, w_ex, w_asg, w_par, w_sub, w_ret, w_sif, w_whl, w_for, w_forF, w_pass, w_brk, w_cnt, w_B0, w_B1, w_test, w_iterR, ↓next_nx, ↓next_ret, ↓next_brk, ↓next_ct, ↓turn_nx, ↓turn_ct, ↓turn_brk, ↓turn_ret, ↓fin_ret, ↓fin_nx, Ok_ok, Ok_er, slotAt_mk, List.getD_cons_succ, List.getD_cons_zero, List.set_cons_succ, List.set_cons_zero, List.cons_append, List.nil_append, List.append_nil, List.replicate, List.foldl, varR_val, varR_own, varR_bor, peek_val, peek_own, peek_bor, peekS_val, peekS_own, peekS_bor, freeze_val, freeze_own, freeze_bor, frzS_own, frzS_val, iterF_val, iterF_own, iterF_bor, itfS_own, itfS_val, itfS_bor, asgR_val, asgR_own, asgR_bor, agS_val, agS_own, agS_bor, asgR_tp, asgD_nm, asgD_tp, asgAll_nil, asgAll_cons, wipeS_mk, backS_mk, toSls0, Ok_toSls1, toSl_val, toSl_own, toSl_bor, tslS_val, tslS_own, tslS_bor, esc_pg, cxF_call, cxF_N, outR_val, outR_own, outR_bor, outS_val, outS_own, content_val, content_own, content_bor, Option.isSome_some, valR_val, ownL_own, ownK_own, noBor_val, noBor_own, add_int, sub_int, len_lst, len_tup, len_dct, int_int, list_lst, list_tup, tuple_lst, tuple_tup, ord_str, itemsC_lst, itemsC_tup, itemsD_lst, itemsD_tup, itemsD_str, eq_int, ne_int, lt_int, gt_int, le_int, ge_int, truth_bl, truth_lst, truth_tup, part_non, part_int, Ok_md, Ok_fdiv, Ok_mul, Ok_idx_lst, Ok_idx_tup, Ok_idx_str, Ok_listr, isE_map, isE_snoc, subW_mk, Ok_sortset, atI0, atI1, atI2, atI3, cutD_to, cutD_from, eq_str, ne_str, decide_true, decide_false, Option.map_some, Option.map_none, pop_snoc, Ok_add_str, Ok_add_tup, Ok_add_lst, Ok_len_str, Ok_rng1, Ok_rng2, Ok_append, Ok_extendL, Ok_extendT, slc_tup, slc_lst, Ok_slc_str, still_val, rev_lst, if_true, if_false, ite_true, ite_false, Bool.false_eq_true, if_true', reduceIte, true_and, and_true, Bool.not_true, Bool.not_false, Bool.not_not, exists_eq_left', exists_eq_left, Option.some.injEq, $as,*])
/-! SpM: bent lines, stamps drawn and bent. -/
section
variable {N k n : Nat} {mh : MH}
theorem sp_takeN {m : Int} (hm : Made mh n) (h0 : 0 < m) : Ok (evF pg N (k + 1) i__law_take [.val (.ref n), .val (.int m)] mh) fun p => ∃ v : Nat, (v : Int) < m ∧ p.1 = .val (.int (v : Int)) ∧ Mv n mh p.2 :=
  (sp_take hm h0).mono fun p ⟨v, h1, h2, h3, h4⟩ => ⟨v.toNat, by omega, by rw [Int.toNat_of_nonneg h1]; exact h3, h4⟩
theorem cutD_from1 {α : Type} {xs : List α} {a : Nat} : cutD xs (some ((a : Int) + 1)) none = xs.drop (a + 1) := cutD_from (n := a + 1)
def LT (l : List (List Nat)) : Prop := ∀ x ∈ l, x ∈ lineTexts
theorem LT.take {l : List (List Nat)} (h : LT l) (a : Nat) : LT (l.take a) := fun x hx => h x (List.mem_of_mem_take hx)
theorem LT.drop {l : List (List Nat)} (h : LT l) (a : Nat) : LT (l.drop a) := fun x hx => h x (List.mem_of_mem_drop hx)
theorem LT.app {l m : List (List Nat)} (h : LT l) (h' : LT m) : LT (l ++ m) := fun x hx => (List.mem_append.mp hx).elim (h x) (h' x)
theorem LT.one {x : (List Nat)} (h : x ∈ lineTexts) : LT [x] := fun y hy => by rw [List.mem_singleton.mp hy]; exact h
theorem map_take' {α β : Type} {f : α → β} {l : List α} {a : Nat} : (l.map f).take a = (l.take a).map f := List.map_take.symm
theorem map_drop' {α β : Type} {f : α → β} {l : List α} {a : Nat} : (l.map f).drop a = (l.drop a).map f := List.map_drop.symm
theorem sp_bent_lines {text : List (List Nat)} (hm : Made mh n) (hl : text.length ≤ 100000) (ht : LT text) : Ok (evF pg N (k + 3) i__law_bent_lines [.val (.ref n), .val (.tup (text.map .str))] mh) fun p => ∃ xs : List (List Nat), xs.length ≤ text.length + 3 ∧ LT xs ∧ p.1 = .val (.tup (xs.map .str)) ∧ Mv n mh p.2 := by
  refine w_F pg__law_bent_lines rfl (by decide) ?_
  simp_arith [d__law_bent_lines]
  refine (sp_takeN hm (by omega)).mono ?_
  rintro ⟨r, mh1⟩ ⟨v, hv1, rfl, hv⟩
  simp_arith [w_lit]
  refine ⟨by omega, ?_⟩
  refine for_inv (fun d s => ∃ (xs : List (List Nat)) (a b c : Sl) (mh' : MH), xs.length ≤ text.length + d.length ∧ LT xs ∧ s = ⟨[.val (.ref n), .val (.tup (xs.map .str)), a, b, c], mh'⟩ ∧ Mv n mh mh') ⟨text, .un, .un, .un, mh1, by simp, ht, rfl, hv⟩ ?_ ?_
  · rintro d i r s e ⟨xs, a, b, c, mh', hxl, hx, rfl, hmv⟩
    have hdl : d.length ≤ 3 := by
      have := congrArg List.length e
      rw [List.length_range, List.length_append] at this
      omega
    simp_arith [List.length_map]
    refine (sp_takeN hmv.made (by omega)).mono ?_
    rintro ⟨r, mh2⟩ ⟨at', ha, rfl, hv2⟩
    simp_arith [w_lit]
    refine (sp_takeN hv2.made (by omega)).mono ?_
    rintro ⟨r, mh3⟩ ⟨way, hw, rfl, hv3⟩
    have hsz : ∀ a : Nat, a ≤ 200000 → a ≤ sz := fun a h => by unfold sz; omega
    by_cases w0 : (way : Int) = 0
    · simp_arith [w0, map_take', map_drop', cutD_from1, ← List.map_append]
      refine ⟨hsz _ ?_, xs.take at' ++ xs.drop (at' + 1), _, _, _, _, ?_, (hx.take _).app (hx.drop _), rfl, (hmv.trans hv2).trans hv3⟩
      · simp only [List.length_map, List.length_take, List.length_drop]; omega
      · simp only [List.length_append, List.length_take, List.length_drop, List.length_cons, List.length_nil]; omega
    · by_cases w1 : (way : Int) = 1
      · simp_arith [w1, map_take', map_drop', show decide ((1 : Int) = 0) = false from rfl]
        refine (sp_made_line hv3.made).mono ?_
        rintro ⟨r, mh4⟩ ⟨y, hy, rfl, hv4⟩
        simp_arith [map_take', map_drop', cutD_from1, List.length_cons, List.length_nil]
        refine ⟨by decide, hsz _ ?_, hsz _ ?_, xs.take at' ++ [y] ++ xs.drop (at' + 1), .val (.int i), .val (.int at'), .val (.int 1), _, ?_, ((hx.take _).app (LT.one hy)).app (hx.drop _), by simp only [List.map_append, List.map_cons, List.map_nil], ((hmv.trans hv2).trans hv3).trans hv4⟩
        · simp only [List.length_map, List.length_take]; omega
        · simp only [List.length_map, List.length_take, List.length_drop, List.length_append, List.length_cons, List.length_nil]; omega
        · simp only [List.length_append, List.length_take, List.length_drop, List.length_cons, List.length_nil]; omega
      · simp_arith [w0, w1, List.length_map, map_take', map_drop']
        refine (sp_made_line hv3.made).mono ?_
        rintro ⟨r, mh4⟩ ⟨y, hy, rfl, hv4⟩
        simp_arith [map_take', map_drop', List.length_cons, List.length_nil]
        refine ⟨by decide, hsz _ ?_, hsz _ ?_, xs.take at' ++ [y] ++ xs.drop at', .val (.int i), .val (.int at'), .val (.int way), _, ?_, ((hx.take _).app (LT.one hy)).app (hx.drop _), by simp only [List.map_append, List.map_cons, List.map_nil], ((hmv.trans hv2).trans hv3).trans hv4⟩
        · simp only [List.length_map, List.length_take]; omega
        · simp only [List.length_map, List.length_take, List.length_drop, List.length_append, List.length_cons, List.length_nil]; omega
        · simp only [List.length_append, List.length_take, List.length_drop, List.length_cons, List.length_nil]; omega
  · rintro s ⟨xs, a, b, c, mh', hxl, hx, rfl, hmv⟩
    simp_arith [w_lit]
    exact ⟨xs, by rw [List.length_range] at hxl; omega, hx, rfl, hmv⟩
/-- the names on the menu -/
def menu : List (List Nat) := [[97], [97, 98], [98], [97, 49], [97, 98, 99], [112, 49], [112, 49, 48], [97, 98, 100], [113], [120, 48, 120, 48, 120, 48, 120, 48, 120, 48, 120, 48, 120, 48, 120, 48], [98, 97], [99], [98, 97, 98], [97, 48], [122]]
theorem menu_nodup : menu.Nodup := by decide
theorem menu_len : ∀ x ∈ menu, x.length ≤ 16 := by decide
theorem erase_map {α β : Type} (f : α → β) : ∀ (l : List α) (i : Nat), (l.map f).eraseIdx i = (l.eraseIdx i).map f
  | [], _ => rfl
  | a :: l, 0 => rfl
  | a :: l, i + 1 => by
    show f a :: (l.map f).eraseIdx i = f a :: (l.eraseIdx i).map f
    rw [erase_map f l i]
theorem pop_perm : ∀ {xs : List (List Nat)} {i : Nat} (h : i < xs.length), (xs[i] :: xs.eraseIdx i).Perm xs
  | a :: l, 0, _ => .refl _
  | a :: l, i + 1, h => (List.Perm.swap a _ _).trans ((pop_perm (xs := l) (i := i) (Nat.lt_of_succ_lt_succ h)).cons a)
theorem Ok_popi {xs : List (List Nat)} {i : Nat} (h : i < xs.length) {Q : D × List D → Prop} : Ok (mutD .popi (xs.map .str) [.int (i : Int)]) Q ↔ Q (.str xs[i], (xs.eraseIdx i).map .str) := by
  have e1 : (xs.map D.str)[i]? = some (.str xs[i]) := by rw [List.getElem?_map, List.getElem?_eq_getElem h]; rfl
  have e2 : (xs.map D.str).eraseIdx i = (xs.eraseIdx i).map D.str := erase_map _ _ _
  have e3 : (0 : Int) ≤ (i : Int) := Int.natCast_nonneg i
  simp only [mutD, e3, if_true, Int.toNat_natCast, e1, e2, Ok_ok]
theorem sp_made_stamps {m : Int} (hm : Made mh n) (h0 : 0 ≤ m) (h7 : m ≤ 7) : Ok (evF pg N (k + 2) i__law_made_stamps [.val (.ref n), .val (.int m)] mh) fun p => ∃ s : (List ((List Nat) × Int)), s.length ≤ 7 ∧ (∀ q ∈ s, q.1.length ≤ 16) ∧ Dn s ∧ p.1 = .val (eS s) ∧ Mv n mh p.2 := by
  refine w_F pg__law_made_stamps rfl (by decide) ?_
  simp_arith [d__law_made_stamps, List.length_cons, List.length_nil]
  refine ⟨by decide, by decide, ?_⟩
  refine (sp_takeN hm (by omega)).mono ?_
  rintro ⟨r, mh1⟩ ⟨v, hv1, rfl, hv⟩
  simp_arith [w_lit]
  refine ⟨by omega, ?_⟩
  refine for_inv (fun d s => ∃ (rest : List (List Nat)) (ps : (List ((List Nat) × Int))) (a b : Sl) (mh' : MH), ps.length = d.length ∧ (ps.map (·.1) ++ rest).Perm menu ∧ s = ⟨[.val (.ref n), .val (.int m), .own (.lst (rest.map .str)), .own (.lst (ps.map eN)), a, b], mh'⟩ ∧ Mv n mh mh') ⟨menu, [], .un, .un, mh1, rfl, .refl _, rfl, hv⟩ ?_ ?_
  · rintro d i r s e ⟨rest, ps, a, b, mh', hpl, hp, rfl, hmv⟩
    have hdl : d.length < 7 := by
      have := congrArg List.length e
      rw [List.length_range, List.length_append, List.length_cons] at this
      omega
    have hrl : 6 ≤ rest.length := by
      have := hp.length_eq
      rw [List.length_append, List.length_map, show menu.length = 15 from rfl] at this
      omega
    simp_arith [w_lit]
    refine (sp_takeN hmv.made (by decide)).mono ?_
    rintro ⟨r, mh2⟩ ⟨v1, h1, rfl, hv2⟩
    simp_arith [w_lit]
    refine ⟨.inr (by decide), ?_⟩
    refine (sp_takeN hv2.made (by decide)).mono ?_
    rintro ⟨r, mh3⟩ ⟨v2, h2, rfl, hv3⟩
    simp_arith [List.length_cons, List.length_nil]
    refine ⟨by decide, ?_⟩
    refine (sp_takeN hv3.made (by decide)).mono ?_
    rintro ⟨r, mh4⟩ ⟨v3, h3, rfl, hv4⟩
    simp_arith [w_lit]
    obtain ⟨nd, en, hnd⟩ := pick (xs := [0, 1, 65520, 263, (v1 : Int) * 13, (v2 : Int)].map D.int) (v := (v3 : Int)) (by omega) (by simp only [List.length_map, List.length_cons, List.length_nil]; omega)
    obtain ⟨num, _, rfl⟩ := List.mem_map.mp hnd
    refine ⟨_, en, ?_⟩
    refine (sp_takeN hv4.made (by decide)).mono ?_
    rintro ⟨r, mh5⟩ ⟨v4, h4, rfl, hv5⟩
    have h4' : v4 < rest.length := by omega
    simp_arith [Ok_popi h4', Ok_append, List.length_cons, List.length_nil, List.length_map]
    refine ⟨by decide, by unfold sz; omega, rest.eraseIdx v4, ps ++ [(rest[v4], num)], .val (.int i), .val (.int num), _, by simp [hpl], ?_, ?_, (((hmv.trans hv2).trans hv3).trans hv4).trans hv5⟩
    · refine List.Perm.trans ?_ hp
      rw [List.map_append, List.append_assoc]
      exact List.Perm.append_left _ (pop_perm h4')
    · rw [List.map_append]; rfl
  · rintro s ⟨rest, ps, a, b, mh', hpl, hp, rfl, hmv⟩
    simp_arith [sorted_lst]
    have hps := sortE_perm (e := eN) ps
    refine ⟨sortE eN ps, ?_, ?_, ?_, rfl, hmv⟩
    · rw [sortE_len, hpl, List.length_range]; omega
    · intro q hq
      have : q.1 ∈ menu := hp.mem_iff.mp (List.mem_append_left _ (List.mem_map.mpr ⟨q, mem_sortE.mp hq, rfl⟩))
      exact menu_len _ this
    · have h1 := (List.nodup_append.mp (hp.nodup_iff.mpr menu_nodup)).1
      exact (hps.map (·.1)).nodup_iff.mpr h1
structure StOk (s : (List ((List Nat) × Int))) (l : Nat) : Prop where
  len : s.length ≤ l
  each : ∀ q ∈ s, q.1.length ≤ 16
  nd : Dn s
theorem StOk.sh {s : (List ((List Nat) × Int))} {l : Nat} (h : StOk s l) (hl : l ≤ 60) : Sh s := ⟨Nat.le_trans h.len hl, fun q hq => Nat.le_trans (h.each q hq) (by decide)⟩
theorem StOk.mono {s : (List ((List Nat) × Int))} {l m : Nat} (h : StOk s l) (hl : l ≤ m) : StOk s m := ⟨Nat.le_trans h.len hl, h.each, h.nd⟩
theorem nm_app {s t : (List ((List Nat) × Int))} : nm (s ++ t) = nm s ++ nm t := List.map_append
theorem StOk.set {s : (List ((List Nat) × Int))} {l : Nat} (h : StOk s l) {i : Nat} (hi : i < s.length) (v : Int) : StOk (s.take i ++ [(s[i].1, v)] ++ s.drop (i + 1)) l := by
  have e : nm (s.take i ++ [(s[i].1, v)] ++ s.drop (i + 1)) = nm s := by
    have : s = s.take i ++ [s[i]] ++ s.drop (i + 1) := by
      rw [List.take_append_getElem, List.take_append_drop]
    conv => rhs; rw [this]
    rw [nm_app, nm_app, nm_app, nm_app]; rfl
  refine ⟨?_, fun q hq => ?_, by rw [Dn, e]; exact h.nd⟩
  · have := congrArg List.length e
    rw [nm, nm, List.length_map, List.length_map] at this
    rw [this]; exact h.len
  · have : q.1 ∈ nm s := by rw [← e]; exact List.mem_map.mpr ⟨q, hq, rfl⟩
    obtain ⟨r, hr, e⟩ := List.mem_map.mp this
    rw [← e]; exact h.each r hr
theorem StOk.sub {s t : (List ((List Nat) × Int))} {l : Nat} (h : StOk s l) (hs : t.Sublist s) : StOk t l :=
  ⟨Nat.le_trans hs.length_le h.len, fun q hq => h.each q (hs.subset hq), by have h1 : (s.map (·.1)).Nodup := h.nd; exact (hs.map _).nodup h1⟩
theorem cut_sub {α : Type} (l : List α) (i : Nat) : (l.take i ++ l.drop (i + 1)).Sublist l := by
  conv => rhs; rw [← List.take_append_drop i l]
  exact (List.Sublist.refl _).append (List.drop_sublist_drop_left l (Nat.le_succ i))
theorem sp_bent_stamps {s : (List ((List Nat) × Int))} (hm : Made mh n) (hs : StOk s 40) : Ok (evF pg N (k + 2) i__law_bent_stamps [.val (.ref n), .val (eS s)] mh) fun p => ∃ t : (List ((List Nat) × Int)), StOk t 43 ∧ p.1 = .val (eS t) ∧ Mv n mh p.2 := by
  refine w_F pg__law_bent_stamps rfl (by decide) ?_
  simp_arith [d__law_bent_stamps]
  refine (sp_takeN hm (by omega)).mono ?_
  rintro ⟨r, mh1⟩ ⟨v, hv1, rfl, hv⟩
  simp_arith [w_lit]
  refine ⟨by omega, ?_⟩
  refine for_inv (fun d s => ∃ (t : (List ((List Nat) × Int))) (a b c e f : Sl) (mh' : MH), StOk t (40 + d.length) ∧ s = ⟨[.val (.ref n), .val (eS t), a, b, c, e, f], mh'⟩ ∧ Mv n mh mh') ⟨s, .un, .un, .un, .un, .un, mh1, hs, rfl, hv⟩ ?_ ?_
  · rintro d i r s e ⟨t, a, b, c, f, g, mh', ht, rfl, hmv⟩
    have hdl : d.length ≤ 3 := by
      have := congrArg List.length e
      rw [List.length_range, List.length_append] at this
      omega
    have htl := ht.len
    simp_arith [List.length_map]
    refine (sp_takeN hmv.made (by omega)).mono ?_
    rintro ⟨r, mh2⟩ ⟨at', ha, rfl, hv2⟩
    simp_arith [w_lit]
    refine (sp_takeN hv2.made (by omega)).mono ?_
    rintro ⟨r, mh3⟩ ⟨way, hw, rfl, hv3⟩
    have hsz : ∀ a : Nat, a ≤ 2000 → a ≤ sz := fun a h => by unfold sz; omega
    have hmono : 40 + d.length ≤ 40 + (d ++ [i]).length := by simp
    by_cases w0 : (way : Int) = 0
    · by_cases hat : at' < t.length
      · have hc : decide ((at' : Int) < (t.length : Int)) = true := decide_eq_true (by omega)
        simp_arith [w0, hc, List.length_map, map_take', map_drop', cutD_from1, atI_ofNat, List.getElem?_map, List.getElem?_eq_getElem hat]
        simp_arith [eN]
        refine (sp_takeN hv3.made (by decide)).mono ?_
        rintro ⟨r, mh4⟩ ⟨v4, h4, rfl, hv4⟩
        simp_arith [List.length_cons, List.length_nil, List.length_map, map_take', map_drop', cutD_from1, List.length_take, List.length_drop, List.length_append]
        refine ⟨by decide, by decide, hsz _ (by omega), hsz _ (by omega), t.take at' ++ [(t[at'].1, (v4 : Int))] ++ t.drop (at' + 1), .val (.int i), .val (.int at'), .val (.int 0), f, g, _, (ht.set hat _).mono (by omega), ?_, ((hmv.trans hv2).trans hv3).trans hv4⟩
        simp only [eS, List.map_append, List.map_cons, List.map_nil, eN]
      · have hc : decide ((at' : Int) < (t.length : Int)) = false := decide_eq_false (by omega)
        simp_arith [w0, hc, List.length_map, show decide ((0 : Int) = 1) = false from rfl, List.length_cons, List.length_nil]
        refine ⟨by decide, ?_⟩
        refine (sp_takeN hv3.made (by decide)).mono ?_
        rintro ⟨r, mh4⟩ ⟨v4, h4, rfl, hv4⟩
        simp_arith [w_lit]
        obtain ⟨nd, en, hnd⟩ := pick (xs := ([[97, 98, 97, 98], [97], [120, 48, 120, 48], [98, 57], [112, 49], [122, 122]] : List (List Nat)).map D.str) (v := (v4 : Int)) (by omega) (by simp only [List.length_map, List.length_cons, List.length_nil]; omega)
        obtain ⟨name, hname, rfl⟩ := List.mem_map.mp hnd
        have hnl : name.length ≤ 16 := by
          have : ∀ x ∈ ([[97, 98, 97, 98], [97], [120, 48, 120, 48], [98, 57], [112, 49], [122, 122]] : List (List Nat)), x.length ≤ 16 := by decide
          exact this _ hname
        refine ⟨_, en, ?_⟩
        refine lc_fl (fun q => !decide (q.1 = name)) (fun q hq => ?_) ?_
        · by_cases h : q.1 = name
          · simp_arith [eN, h]
          · simp_arith [eN, h]
        simp_arith [w_lit]
        refine (sp_takeN hv4.made (by decide)).mono ?_
        rintro ⟨r, mh5⟩ ⟨v5, h5, rfl, hv5⟩
        have e7 : (t.filter fun q => !decide (q.1 = name)).map eN ++ [D.tup [.str name, .int (v5 : Int)]] = (t.filter (fun q => !decide (q.1 = name)) ++ [(name, (v5 : Int))]).map eN := by rw [List.map_append]; rfl
        have hfl : (t.filter fun q => !decide (q.1 = name)).length ≤ t.length := List.length_filter_le _ _
        simp_arith [List.length_cons, List.length_nil, e7, sorted_lst, List.length_map]
        have hp := sortE_perm (e := eN) (t.filter (fun q => !decide (q.1 = name)) ++ [(name, (v5 : Int))])
        have hsub := ht.sub (t := t.filter fun q => !decide (q.1 = name)) List.filter_sublist
        refine ⟨by decide, by decide, hsz _ (by omega), sortE eN (t.filter (fun q => !decide (q.1 = name)) ++ [(name, (v5 : Int))]), .val (.int i), .val (.int at'), .val (.int 0), .val (.str name), g, _, ⟨?_, fun q hq => ?_, ?_⟩, ?_, (((hmv.trans hv2).trans hv3).trans hv4).trans hv5⟩
        · rw [sortE_len, List.length_append, List.length_append]; simp only [List.length_cons, List.length_nil]; omega
        · rcases List.mem_append.mp (mem_sortE.mp hq) with h | h
          · exact hsub.each q h
          · rw [List.mem_singleton.mp h]; exact hnl
        · refine (hp.map (·.1)).nodup_iff.mpr ?_
          rw [List.map_append, List.nodup_append]
          refine ⟨hsub.nd, by simp, ?_⟩
          rintro a ha b hb rfl
          obtain ⟨q, hq, rfl⟩ := List.mem_map.mp ha
          have h1 := (List.mem_filter.mp hq).2
          simp at h1 hb
          exact h1 hb
        · rfl
    · by_cases w1 : (way : Int) = 1
      · simp_arith [w0, w1, List.length_map, map_take', map_drop', cutD_from1, ← List.map_append]
        refine ⟨hsz _ ?_, _, .val (.int i), .val (.int at'), .val (.int 1), f, g, _, (ht.sub (cut_sub t at')).mono hmono, rfl, (hmv.trans hv2).trans hv3⟩
        simp only [List.length_map, List.length_take, List.length_drop]; omega
      · simp_arith [w0, w1, List.length_map, List.length_cons, List.length_nil]
        refine ⟨by decide, ?_⟩
        refine (sp_takeN hv3.made (by decide)).mono ?_
        rintro ⟨r, mh4⟩ ⟨v4, h4, rfl, hv4⟩
        simp_arith [w_lit]
        obtain ⟨nd, en, hnd⟩ := pick (xs := ([[97, 98, 97, 98], [97], [120, 48, 120, 48], [98, 57], [112, 49], [122, 122]] : List (List Nat)).map D.str) (v := (v4 : Int)) (by omega) (by simp only [List.length_map, List.length_cons, List.length_nil]; omega)
        obtain ⟨name, hname, rfl⟩ := List.mem_map.mp hnd
        have hnl : name.length ≤ 16 := by
          have : ∀ x ∈ ([[97, 98, 97, 98], [97], [120, 48, 120, 48], [98, 57], [112, 49], [122, 122]] : List (List Nat)), x.length ≤ 16 := by decide
          exact this _ hname
        refine ⟨_, en, ?_⟩
        refine lc_fl (fun q => !decide (q.1 = name)) (fun q hq => ?_) ?_
        · by_cases h : q.1 = name
          · simp_arith [eN, h]
          · simp_arith [eN, h]
        simp_arith [w_lit]
        refine (sp_takeN hv4.made (by decide)).mono ?_
        rintro ⟨r, mh5⟩ ⟨v5, h5, rfl, hv5⟩
        have e7 : (t.filter fun q => !decide (q.1 = name)).map eN ++ [D.tup [.str name, .int (v5 : Int)]] = (t.filter (fun q => !decide (q.1 = name)) ++ [(name, (v5 : Int))]).map eN := by rw [List.map_append]; rfl
        have hfl : (t.filter fun q => !decide (q.1 = name)).length ≤ t.length := List.length_filter_le _ _
        simp_arith [List.length_cons, List.length_nil, e7, sorted_lst, List.length_map]
        have hp := sortE_perm (e := eN) (t.filter (fun q => !decide (q.1 = name)) ++ [(name, (v5 : Int))])
        have hsub := ht.sub (t := t.filter fun q => !decide (q.1 = name)) List.filter_sublist
        refine ⟨by decide, by decide, hsz _ (by omega), sortE eN (t.filter (fun q => !decide (q.1 = name)) ++ [(name, (v5 : Int))]), .val (.int i), .val (.int at'), .val (.int way), .val (.str name), g, _, ⟨?_, fun q hq => ?_, ?_⟩, ?_, (((hmv.trans hv2).trans hv3).trans hv4).trans hv5⟩
        · rw [sortE_len, List.length_append, List.length_append]; simp only [List.length_cons, List.length_nil]; omega
        · rcases List.mem_append.mp (mem_sortE.mp hq) with h | h
          · exact hsub.each q h
          · rw [List.mem_singleton.mp h]; exact hnl
        · refine (hp.map (·.1)).nodup_iff.mpr ?_
          rw [List.map_append, List.nodup_append]
          refine ⟨hsub.nd, by simp, ?_⟩
          rintro a ha b hb rfl
          obtain ⟨q, hq, rfl⟩ := List.mem_map.mp ha
          have h1 := (List.mem_filter.mp hq).2
          simp at h1 hb
          exact h1 hb
        · rfl
  · rintro s ⟨t, a, b, c, f, g, mh', ht, rfl, hmv⟩
    simp_arith [w_lit]
    exact ⟨t, ht.mono (by rw [List.length_range]; omega), rfl, hmv⟩
end

end Sk

end

section
set_option Elab.async false
set_option linter.all false
set_option maxRecDepth 100000
set_option maxHeartbeats 4000000
namespace Sk
open PySem
local macro_rules
  | `(tactic| simp_arith [$as,*]) => `(tactic| simp only [w_lit, w_var, w_tup, w_lst, w_dnew, w_bin, w_cmp, w_isnone, w_isinst, w_and, w_or, w_not, w_ife, w_idx, w_slc, w_rev, w_call, w_blt, w_meth, w_mut, w_rng, w_A0, w_A1, w_R0, w_R1, w_C0, w_C1, w_lcW, w_lc, w_lc2, w_dcW, w_dc, w_dvals, w_ex, w_asg, w_par, w_sub, w_ret, w_sif, w_whl, w_for, w_forF, w_pass, w_brk, w_cnt, w_B0, w_B1, w_test, w_iterR, ↓next_nx, ↓next_ret, ↓next_brk, ↓next_ct, ↓turn_nx, ↓turn_ct, ↓turn_brk, ↓turn_ret, ↓fin_ret, ↓fin_nx, Ok_ok, Ok_er, slotAt_mk, List.getD_cons_succ, List.getD_cons_zero, List.set_cons_succ, List.set_cons_zero, List.cons_append, List.nil_append, List.append_nil, List.replicate, List.foldl, varR_val, varR_own, varR_bor, peek_val, peek_own, peek_bor, peekS_val, peekS_own, peekS_bor, freeze_val, freeze_own, freeze_bor, frzS_own, frzS_val, iterF_val, iterF_own, iterF_bor, itfS_own, itfS_val, itfS_bor, asgR_val, asgR_own, asgR_bor, agS_val, agS_own, agS_bor, asgR_tp, asgD_nm, asgD_tp, asgAll_nil, asgAll_cons, wipeS_mk, backS_mk, toSls0, Ok_toSls1, toSl_val, toSl_own, toSl_bor, tslS_val, tslS_own, tslS_bor, esc_pg, cxF_call, cxF_N, outR_val, outR_own, outR_bor, outS_val, outS_own, content_val, content_own, content_bor, Option.isSome_some, valR_val, ownL_own, ownK_own, noBor_val, noBor_own, add_int, sub_int, len_lst, len_tup, len_dct, int_int, list_lst, list_tup, tuple_lst, tuple_tup, ord_str, itemsC_lst, itemsC_tup, itemsD_lst, itemsD_tup, itemsD_str, eq_int, ne_int, lt_int, gt_int, le_int, ge_int, truth_bl, truth_lst, truth_tup, part_non, part_int, Ok_md, Ok_fdiv, Ok_mul, Ok_idx_lst, Ok_idx_tup, Ok_idx_str, Ok_listr, isE_map, isE_snoc, subW_mk, Ok_sortset, atI0, atI1, atI2, atI3, cutD_to, cutD_from, eq_str, ne_str, decide_true, decide_false, Option.map_some, Option.map_none, pop_snoc, Ok_add_str, Ok_add_tup, Ok_add_lst, Ok_len_str, Ok_rng1, Ok_rng2, Ok_append, Ok_extendL, Ok_extendT, slc_tup, slc_lst, Ok_slc_str, still_val, rev_lst, if_true, if_false, ite_true, ite_false, Bool.false_eq_true, if_true', reduceIte, true_and, and_true, Bool.not_true, Bool.not_false, Bool.not_not, exists_eq_left', exists_eq_left, Option.some.injEq, $as,*])
/-! SpN: patches and their stamps. -/
/-- a spot -/
abbrev eSp (s : (List Nat) × Nat) : D := .tup [.str s.1, .int (s.2 : Int)]
structure Ad where
  n : Nat
  line : (List Nat)
  ah : List ((List Nat) × Nat)
  be : List ((List Nat) × Nat)
  deriving DecidableEq
structure Pa where
  nm : (List Nat)
  adds : List Ad
  bars : List ((List Nat) × Nat)
  deriving DecidableEq
abbrev eSs (l : List ((List Nat) × Nat)) : D := .tup (l.map eSp)
def eAd (a : Ad) : D := .tup [.int (a.n : Int), .str a.line, eSs a.ah, eSs a.be]
def ePa (p : Pa) : D := .tup [.str p.nm, .tup (p.adds.map eAd), eSs p.bars]
abbrev eSto (st : List Pa) : D := .tup (st.map ePa)
def kSp : Kd := .prod [.str, .int]
def kAd : Kd := .prod [.int, .str, .all kSp, .all kSp]
theorem has_sps (l : List ((List Nat) × Nat)) : (Kd.all kSp).has (eSs l) = true := by
  simp only [eSs, Kd.has, List.all_map, List.all_eq_true]
  exact fun _ _ => rfl
theorem eSp_inj (a b : (List Nat) × Nat) (h : eSp a = eSp b) : a = b := by
  cases a; cases b
  simp only [eSp, D.tup.injEq, List.cons.injEq, D.str.injEq, D.int.injEq, and_true] at h
  exact Prod.ext h.1 (by have := h.2; omega)
instance : En eSp := ⟨kSp, fun _ => rfl, eSp_inj, by decide⟩
instance : EnS eSp := ⟨.inl fun _ => rfl⟩
instance : EnD eSp := ⟨by decide⟩
theorem eSs_inj (a b : List ((List Nat) × Nat)) (h : eSs a = eSs b) : a = b := map_inj eSp_inj (by injection h)
theorem eAd_has (a : Ad) : kAd.has (eAd a) = true := by
  simp only [kAd, eAd, Kd.has, Kd.hass, Bool.and_true, Bool.true_and, Bool.and_eq_true]
  exact ⟨has_sps _, has_sps _⟩
theorem eAd_inj (a b : Ad) (h : eAd a = eAd b) : a = b := by
  cases a; cases b
  simp only [eAd, D.tup.injEq, List.cons.injEq, D.str.injEq, D.int.injEq, and_true] at h
  obtain ⟨h1, h2, h3, h4⟩ := h
  rw [Ad.mk.injEq]
  exact ⟨by omega, h2, map_inj eSp_inj h3, map_inj eSp_inj h4⟩
instance : En eAd := ⟨kAd, eAd_has, eAd_inj, by decide⟩
instance : EnS eAd := ⟨.inl fun _ => rfl⟩
def kPa : Kd := .prod [.str, .all kAd, .all kSp]
instance : En ePa := ⟨kPa, fun p => by
  simp only [kPa, ePa, Kd.has, Kd.hass, Bool.and_true, Bool.true_and, Bool.and_eq_true]
  refine ⟨?_, has_sps _⟩
  simp only [List.all_map, List.all_eq_true]
  exact fun a _ => eAd_has a, fun a b h => by
  cases a; cases b
  simp only [ePa, D.tup.injEq, List.cons.injEq, D.str.injEq, D.int.injEq, and_true] at h
  obtain ⟨h1, h2, h3⟩ := h
  rw [Pa.mk.injEq]
  exact ⟨h1, map_inj eAd_inj h2, map_inj eSp_inj h3⟩, by decide⟩
instance : EnS ePa := ⟨.inl fun _ => rfl⟩
instance : EnD ePa := ⟨by decide⟩
/-! texts -/
def numT (n : Nat) : (List Nat) := TL.numL n
theorem str_num {mh : MH} {n : Nat} (h : n ≤ 1000000) : bltM mh .str (.int (n : Int)) = .ok (.val (.str (numT n))) := by
  have e : (toString (n : Int) : Str).cps.toList = numT n := by
    show (Str.ofString (toString ((n : Nat) : Int))).cps.toList = _
    exact TL.tl_num n
  have hb : (n : Int).natAbs.log2 < 1920 := by
    rw [Int.natAbs_natCast]
    by_cases h0 : n = 0
    · subst h0; decide
    · exact (Nat.log2_lt h0).mpr (Nat.lt_of_lt_of_le (show n < 2 ^ 20 by omega) (Nat.pow_le_pow_right (by decide) (by decide)))
  simp only [bltM, bltD, hb, if_true, e]
theorem numT_len {n : Nat} (h : n ≤ 1000000) : (numT n).length ≤ 7 := TL.numL_len (by decide) (by omega)
def topT : (List Nat) := [116, 111, 112]
def botT : (List Nat) := [98, 111, 116, 116, 111, 109]
def spT (s : (List Nat) × Nat) : (List Nat) := if s = ([], 0) then topT else if s = ([], 1) then botT else s.1 ++ [46] ++ numT s.2
structure SpOk (s : (List Nat) × Nat) : Prop where
  len : s.1.length ≤ 16
  num : s.2 ≤ 1000000
theorem spT_len {s : (List Nat) × Nat} (h : SpOk s) : (spT s).length ≤ 24 := by
  unfold spT
  split
  · decide
  · split
    · decide
    · have := numT_len h.num
      have := h.len
      rw [List.length_append, List.length_append]
      simp only [List.length_cons, List.length_nil]
      omega
section
variable {N k : Nat} {mh : MH}
theorem top_e : (.tup [.str [], .int 0] : D) = eSp ([], 0) := rfl
theorem bot_e : (.tup [.str [], .int 1] : D) = eSp ([], 1) := rfl
theorem e_spot_text {s : (List Nat) × Nat} (h : SpOk s) : evF pg N (k + 1) i_spot_text [.val (eSp s)] mh = .ok (.val (.str (spT s)), mh) := by
  have e1 : cmpD .inn (eSp s) (.tup [.tup [.str [], .int 0], .tup [.str [], .int 1]]) = .ok (decide (s = ([], 0) ∨ s = ([], 1))) := (En.in_tup (e := eSp) s [([], 0), ([], 1)]).trans (congrArg _ (by simp))
  have e2 : cmpD .eq (eSp s) (.tup [.str [], .int 0]) = .ok (decide (s = ([], 0))) := En.cmp_eq (e := eSp) s ([], 0)
  refine ofOk (w_F pg_spot_text rfl (by decide) ?_)
  simp_arith [d_spot_text, e1, e2]
  by_cases h0 : s = ([], 0)
  · have hm : decide (s = (([], 0) : (List Nat) × Nat) ∨ s = ([], 1)) = true := by simp [h0]
    simp_arith [hm]
    simp_arith [h0, spT]
    rfl
  · by_cases h1 : s = ([], 1)
    · have hm : decide (s = (([], 0) : (List Nat) × Nat) ∨ s = ([], 1)) = true := by simp [h1]
      have h0d : decide (s = (([], 0) : (List Nat) × Nat)) = false := decide_eq_false h0
      simp_arith [hm, h0d]
      rw [spT, if_neg h0, if_pos h1]; rfl
    · have hm : decide (s = (([], 0) : (List Nat) × Nat) ∨ s = ([], 1)) = false := by simp [h0, h1]
      have hl := h.len
      have hn := numT_len h.num
      simp_arith [hm, str_num h.num, spT, h0, h1, List.length_append, List.length_cons, List.length_nil]
      exact ⟨by unfold sz; omega, by unfold sz; omega⟩
theorem e_law_spot {s : (List Nat) × Nat} (h : SpOk s) : evF pg N (k + 1) i__law_spot [.val (eSp s)] mh = .ok (.val (.str (spT s)), mh) := by
  have e1 : cmpD .eq (eSp s) (.tup [.str [], .int 1]) = .ok (decide (s = ([], 1))) := En.cmp_eq (e := eSp) s ([], 1)
  have e2 : cmpD .eq (eSp s) (.tup [.str [], .int 0]) = .ok (decide (s = ([], 0))) := En.cmp_eq (e := eSp) s ([], 0)
  refine ofOk (w_F pg__law_spot rfl (by decide) ?_)
  simp_arith [d__law_spot, e1, e2, List.length_cons, List.length_nil]
  refine ⟨by decide, ?_⟩
  by_cases h0 : s = ([], 0)
  · simp_arith [h0, spT]
    rfl
  · by_cases h1 : s = ([], 1)
    · simp_arith [h1, show decide ((([], 1) : (List Nat) × Nat) = ([], 0)) = false from rfl, spT]
      exact ⟨by decide, rfl⟩
    · have hl := h.len
      have hn := numT_len h.num
      simp_arith [h0, h1, str_num h.num, spT, List.length_append, List.length_cons, List.length_nil]
      exact ⟨by decide, by unfold sz; omega, by unfold sz; omega⟩
end
theorem txts_map : ∀ l : List (List Nat), txts (l.map .str) = some l
  | [] => rfl
  | x :: l => by rw [List.map_cons, txts, txts_map l]; rfl
theorem Ok_join {x : (List Nat)} {l : List (List Nat)} {Q : RV → Prop} : Ok (methD .join (.str x) [.lst (l.map .str)]) Q ↔ (l.map (·.length)).sum + l.length * x.length ≤ sz ∧ Q (.val (.str (joinAll x l))) := by
  simp only [methD, txts_map, Ok_gd, Ok_ok]
def sumT (x : (List Nat)) : Int := fold (x.map fun (c : Nat) => (c : Int))
section
variable {N k : Nat} {mh : MH}
theorem e_sum_of {x : (List Nat)} : evF pg N (k + 1) i_sum_of [.val (.str x)] mh = .ok (.val (.int (sumT x)), mh) := by
  refine ofOk (w_F pg_sum_of rfl (by decide) ?_)
  simp_arith [d_sum_of]
  refine for_inv (fun d s => ∃ y, s = ⟨[.val (.str x), .val (.int (fold (d.map fun (c : Nat) => (c : Int)))), y], mh⟩) ⟨.un, rfl⟩ ?_ ?_
  · rintro d c r s e ⟨y, rfl⟩
    simp_arith [m263, p65521, List.map_append, fold_snoc, List.map_cons, List.map_nil]
    exact ⟨_, rfl⟩
  · rintro s ⟨y, rfl⟩
    simp_arith [sumT]
theorem e_law_sum {x : (List Nat)} : evF pg N (k + 1) i__law_sum [.val (.str x)] mh = .ok (.val (.int (sumT x)), mh) := by
  refine ofOk (w_F pg__law_sum rfl (by decide) ?_)
  simp_arith [d__law_sum]
  refine for_inv (fun d s => ∃ y, s = ⟨[.val (.str x), .val (.int (fold (d.map fun (c : Nat) => (c : Int)))), y], mh⟩) ⟨.un, rfl⟩ ?_ ?_
  · rintro d c r s e ⟨y, rfl⟩
    simp_arith [m263, p65521, List.map_append, fold_snoc, List.map_cons, List.map_nil]
    exact ⟨_, rfl⟩
  · rintro s ⟨y, rfl⟩
    simp_arith [sumT]
end
/-! rows -/
def sideT (l : List ((List Nat) × Nat)) : (List Nat) := joinAll [32] (l.map spT)
def rowA (a : Ad) : (List Nat) := [97, 100, 100, 32] ++ sideT a.ah ++ [32, 60, 32] ++ sideT a.be ++ [32, 58, 32] ++ a.line
def rowB (s : (List Nat) × Nat) : (List Nat) := [98, 97, 114, 32] ++ spT s
def rowN (x : (List Nat)) : (List Nat) := [112, 97, 116, 99, 104, 32] ++ x
def rowsT (p : Pa) : List (List Nat) := rowN p.nm :: p.adds.map rowA ++ p.bars.map rowB
def textT (p : Pa) : (List Nat) := joinAll [] ((rowsT p).map (· ++ [10]))
structure AdOk (a : Ad) : Prop where
  line : a.line.length ≤ 9
  ah : a.ah.length = 1
  be : a.be.length = 1
  sah : ∀ s ∈ a.ah, SpOk s
  sbe : ∀ s ∈ a.be, SpOk s
structure PaOk (p : Pa) : Prop where
  nm : p.nm.length ≤ 16
  la : p.adds.length ≤ 1000
  lb : p.bars.length ≤ 1000
  adds : ∀ a ∈ p.adds, AdOk a
  bars : ∀ s ∈ p.bars, SpOk s
theorem side_one {l : List ((List Nat) × Nat)} (h : l.length = 1) : ∃ s, l = [s] ∧ sideT l = spT s := by
  match l, h with
  | [s], _ => exact ⟨s, rfl, rfl⟩
theorem side_len {l : List ((List Nat) × Nat)} (h : l.length = 1) (h' : ∀ s ∈ l, SpOk s) : (sideT l).length ≤ 24 := by
  obtain ⟨s, rfl, e⟩ := side_one h
  rw [e]; exact spT_len (h' s (by simp))
theorem rowA_len {a : Ad} (h : AdOk a) : (rowA a).length ≤ 100 := by
  have h1 := side_len h.ah h.sah
  have h2 := side_len h.be h.sbe
  have h3 := h.line
  simp only [rowA, List.length_append, List.length_cons, List.length_nil]
  omega
theorem rowB_len {s : (List Nat) × Nat} (h : SpOk s) : (rowB s).length ≤ 100 := by
  have := spT_len h
  simp only [rowB, List.length_append, List.length_cons, List.length_nil]
  omega
theorem rows_len {p : Pa} (h : PaOk p) : (∀ r ∈ rowsT p, r.length ≤ 100) ∧ (rowsT p).length ≤ 6001 := by
  constructor
  · intro r hr
    rcases List.mem_append.mp hr with hr | hr
    · rcases List.mem_cons.mp hr with rfl | hr
      · have := h.nm
        simp only [rowN, List.length_append, List.length_cons, List.length_nil]
        omega
      · obtain ⟨a, ha, rfl⟩ := List.mem_map.mp hr
        exact rowA_len (h.adds a ha)
    · obtain ⟨a, ha, rfl⟩ := List.mem_map.mp hr
      exact rowB_len (h.bars a ha)
  · have := h.la
    have := h.lb
    simp only [rowsT, List.length_append, List.length_cons, List.length_map]
    omega
theorem sum_le {l : List Nat} {b : Nat} (h : ∀ x ∈ l, x ≤ b) : l.sum ≤ l.length * b := by
  induction l with
  | nil => simp
  | cons x l ih =>
    have := ih fun y hy => h y (List.mem_cons_of_mem _ hy)
    have := h x (List.mem_cons_self ..)
    rw [List.sum_cons, List.length_cons, Nat.succ_mul]
    omega
theorem text_sum {p : Pa} (h : PaOk p) : (((rowsT p).map (· ++ [10])).map (·.length)).sum + ((rowsT p).map (· ++ [10])).length * ([] : (List Nat)).length ≤ 700000 := by
  have h1 := rows_len h
  have h2 := sum_le (l := ((rowsT p).map (· ++ [10])).map (·.length)) (b := 101) fun x hx => by
    obtain ⟨y, hy, rfl⟩ := List.mem_map.mp hx
    obtain ⟨r, hr, rfl⟩ := List.mem_map.mp hy
    have := h1.1 r hr
    rw [List.length_append]; simp only [List.length_cons, List.length_nil]; omega
  rw [List.length_map, List.length_map] at h2
  have := h1.2
  simp only [List.length_nil, Nat.mul_zero]
  omega
theorem joinAll_nil : ∀ l : List (List Nat), joinAll [] l = l.flatten
  | [] => rfl
  | [a] => by simp [joinAll]
  | a :: b :: l => by rw [joinAll, joinAll_nil (b :: l)]; simp
theorem flat_sum (l : List (List Nat)) : l.flatten.length = (l.map (·.length)).sum := List.length_flatten
theorem text_len {p : Pa} (h : PaOk p) : (textT p).length ≤ 700000 := by
  rw [textT, joinAll_nil, flat_sum]
  have := text_sum h
  omega
theorem text_end (p : Pa) : ∃ y, textT p = y ++ [10] := by
  rw [textT, joinAll_nil]
  obtain ⟨m, a, e⟩ := snoc_of (l := rowsT p) (by simp [rowsT])
  rw [e]
  exact ⟨(m.map (· ++ [10])).flatten ++ a, by simp⟩

end Sk

end

section
set_option Elab.async false
set_option linter.all false
set_option maxRecDepth 100000
set_option maxHeartbeats 4000000
namespace Sk
open PySem
local macro_rules
  | `(tactic| simp_arith [$as,*]) => `(tactic| simp only [w_lit, w_var, w_tup, w_lst, w_dnew, w_bin, w_cmp, w_isnone, w_isinst, w_and, w_or, w_not, w_ife, w_idx, w_slc, w_rev, w_call, w_blt, w_meth, w_mut, w_rng, w_A0, w_A1, w_R0, w_R1, w_C0, w_C1, w_lcW, w_lc, w_lc2, w_dcW, w_dc, w_dvals, w_ex, w_asg, w_par, w_sub, w_ret, w_sif, w_whl, w_for, w_forF, w_pass, w_brk, w_cnt, w_B0, w_B1, w_test, w_iterR, ↓next_nx, ↓next_ret, ↓next_brk, ↓next_ct, ↓turn_nx, ↓turn_ct, ↓turn_brk, ↓turn_ret, ↓fin_ret, ↓fin_nx, Ok_ok, Ok_er, slotAt_mk, List.getD_cons_succ, List.getD_cons_zero, List.set_cons_succ, List.set_cons_zero, List.cons_append, List.nil_append, List.append_nil, List.replicate, List.foldl, varR_val, varR_own, varR_bor, peek_val, peek_own, peek_bor, peekS_val, peekS_own, peekS_bor, freeze_val, freeze_own, freeze_bor, frzS_own, frzS_val, iterF_val, iterF_own, iterF_bor, itfS_own, itfS_val, itfS_bor, asgR_val, asgR_own, asgR_bor, agS_val, agS_own, agS_bor, asgR_tp, asgD_nm, asgD_tp, asgAll_nil, asgAll_cons, wipeS_mk, backS_mk, toSls0, Ok_toSls1, toSl_val, toSl_own, toSl_bor, tslS_val, tslS_own, tslS_bor, esc_pg, cxF_call, cxF_N, outR_val, outR_own, outR_bor, outS_val, outS_own, content_val, content_own, content_bor, Option.isSome_some, valR_val, ownL_own, ownK_own, noBor_val, noBor_own, add_int, sub_int, len_lst, len_tup, len_dct, int_int, list_lst, list_tup, tuple_lst, tuple_tup, ord_str, itemsC_lst, itemsC_tup, itemsD_lst, itemsD_tup, itemsD_str, eq_int, ne_int, lt_int, gt_int, le_int, ge_int, truth_bl, truth_lst, truth_tup, part_non, part_int, Ok_md, Ok_fdiv, Ok_mul, Ok_idx_lst, Ok_idx_tup, Ok_idx_str, Ok_listr, isE_map, isE_snoc, subW_mk, Ok_sortset, atI0, atI1, atI2, atI3, cutD_to, cutD_from, eq_str, ne_str, decide_true, decide_false, Option.map_some, Option.map_none, pop_snoc, Ok_add_str, Ok_add_tup, Ok_add_lst, Ok_len_str, Ok_rng1, Ok_rng2, Ok_append, Ok_extendL, Ok_extendT, slc_tup, slc_lst, Ok_slc_str, still_val, rev_lst, if_true, if_false, ite_true, ite_false, Bool.false_eq_true, if_true', reduceIte, true_and, and_true, Bool.not_true, Bool.not_false, Bool.not_not, exists_eq_left', exists_eq_left, Option.some.injEq, $as,*])
/-! SpO: the file of a patch, its stamp. -/
theorem fold_any (l : List Int) : 0 ≤ fold l ∧ fold l < 65521 := by
  by_cases h : l = []
  · subst h; decide
  · exact fold_range h
def stN (x : (List Nat)) : Nat := (sumT x).toNat
theorem sum_st (x : (List Nat)) : sumT x = (stN x : Int) := (Int.toNat_of_nonneg (fold_any _).1).symm
theorem stN_lt (x : (List Nat)) : stN x < 65521 := by
  have := (fold_any (x.map fun (c : Nat) => (c : Int))).2
  unfold stN sumT
  omega
/-- a text's end -/
theorem spl_tail {w : (List Nat)} (hw : 10 ∉ w) : ∀ (a acc : (List Nat)), ∃ l, TL.spl [10] 0 acc (a ++ 10 :: (w ++ [10])) = l ++ [w, []]
  | [], acc => by
    refine ⟨[acc], ?_⟩
    rw [List.nil_append, TL.spl_hit (by rfl)]
    have h := TL.spl_part1 (s := 10) (S := []) (p := w) (rest := []) (acc := []) hw
    rw [List.append_nil, List.nil_append] at h
    show acc :: TL.spl [10] 0 [] (w ++ [10]) = _
    rw [h]
    rfl
  | c :: a, acc => by
    by_cases hc : c = 10
    · subst hc
      obtain ⟨l, e⟩ := spl_tail hw a []
      refine ⟨acc :: l, ?_⟩
      rw [List.cons_append, TL.spl_hit (by rfl)]
      show acc :: TL.spl [10] 0 [] _ = _
      rw [e]; rfl
    · obtain ⟨l, e⟩ := spl_tail hw a (acc ++ [c])
      refine ⟨l, ?_⟩
      rw [List.cons_append, TL.spl_miss (by
        show ([c] == [10]) = false
        simp [hc]), e]
theorem atI_m2 {α : Type} {l : List α} {a b : α} : L2.atI (l ++ [a, b]) (-2) = some a := by
  unfold L2.atI L2.ixN
  have h : ¬ ((0 : Int) ≤ -2) := by decide
  simp [h]
  rw [if_pos (by omega)]
  have : (-2 + ((l.length : Int) + 2)).toNat = l.length := by omega
  simp [this]
section
variable {N k : Nat} {mh : MH}
/-- the whole file -/
def fileT (p : Pa) : (List Nat) := textT p ++ [101, 110, 100, 32] ++ numT (stN (textT p)) ++ [10]
theorem e_side {l : List ((List Nat) × Nat)} (h : l.length = 1) (h' : ∀ s ∈ l, SpOk s) : (((l.map spT).map (·.length)).sum + (l.map spT).length * ([32] : (List Nat)).length) ≤ sz := by
  obtain ⟨s, rfl, _⟩ := side_one h
  have := spT_len (h' s (by simp))
  simp only [List.map_cons, List.map_nil, List.sum_cons, List.sum_nil, List.length_cons, List.length_nil]
  unfold sz; omega
theorem e_write_patch {p : Pa} (h : PaOk p) : evF pg N (k + 2) i_write_patch [.val (ePa p)] mh = .ok (.val (.str (fileT p)), mh) := by
  have hsz : ∀ a : Nat, a ≤ 1000000 → a ≤ sz := fun a h => by unfold sz; omega
  have hla := h.la
  have hlb := h.lb
  refine ofOk (w_F pg_write_patch rfl (by decide) ?_)
  simp_arith [d_write_patch, ePa, List.length_cons, List.length_nil]
  refine ⟨hsz _ (by have := h.nm; omega), by decide, ?_⟩
  refine for_inv (fun d s => ∃ a b c e f g i j, s = ⟨[.val (ePa p), .own (.lst ((rowN p.nm :: d.map rowA).map .str)), .un, .val (.str p.nm), .val (.tup (p.adds.map eAd)), .val (eSs p.bars), a, b, c, e, f, g, i, j], mh⟩) ⟨.un, .un, .un, .un, .un, .un, .un, .un, rfl⟩ ?_ ?_
  · rintro d x r s e ⟨a, b, c, e1, f, g, i, j, rfl⟩
    have hx : x ∈ p.adds := by rw [e]; simp
    have ok := h.adds x hx
    have hdl : d.length ≤ 3000 := by
      rw [e, List.length_append] at hla
      omega
    simp_arith [eAd, List.length_cons, List.length_nil]
    refine ⟨by decide, ?_⟩
    refine lc_mp (ys := [x.ah, x.be]) (en := eSs) (em := D.str) sideT (fun l hl => ?_) ?_
    · have hl1 : l.length = 1 ∧ ∀ s ∈ l, SpOk s := by
        rcases List.mem_cons.mp hl with rfl | hl
        · exact ⟨ok.ah, ok.sah⟩
        · rw [List.mem_singleton] at hl
          subst hl
          exact ⟨ok.be, ok.sbe⟩
      simp_arith [w_lit]
      refine lc_mp (em := D.str) spT (fun s hs => ?_) ?_
      · simp_arith [e_spot_text (hl1.2 s hs)]
      · simp_arith [Ok_join]
        exact ⟨e_side hl1.1 hl1.2, rfl⟩
    · have h1 := side_len ok.ah ok.sah
      have h2 := side_len ok.be ok.sbe
      have h3 := ok.line
      simp_arith [List.map_cons, List.map_nil, List.length_append, List.length_cons, List.length_nil, Ok_append, List.length_map]
      refine ⟨hsz _ (by omega), hsz _ (by omega), hsz _ (by omega), hsz _ (by omega), hsz _ (by omega), by unfold sz; omega, .val (.int x.n), .val (.str x.line), .val (eSs x.ah), .val (eSs x.be), .own (.lst [.str (sideT x.ah), .str (sideT x.be)]), g, i, j, ?_⟩
      simp only [List.map_cons, List.map_append, List.map_nil, rowA]
      rfl
  · rintro s ⟨a, b, c, e1, f, g, i, j, rfl⟩
    simp_arith [w_lit]
    refine lc_mp (em := D.str) rowB (fun s hs => ?_) ?_
    · have := spT_len (h.bars s hs)
      simp_arith [e_spot_text (h.bars s hs), List.length_cons, List.length_nil]
      exact ⟨hsz _ (by omega), rfl⟩
    · have e2 : (rowN p.nm :: p.adds.map rowA).map D.str ++ (p.bars.map rowB).map D.str = (rowsT p).map D.str := by rw [← List.map_append]; rfl
      have hr := rows_len h
      simp_arith [Ok_extendL, e2, List.length_map, List.length_cons]
      refine ⟨hsz _ (by omega), ?_⟩
      refine lc_mp (em := D.str) (fun r => r ++ [10]) (fun r hr' => ?_) ?_
      · have := hr.1 r hr'
        simp_arith [List.length_cons, List.length_nil]
        exact hsz _ (by omega)
      · have ht := text_len h
        have hn := numT_len (n := stN (textT p)) (by have := stN_lt (textT p); omega)
        have e3 : joinAll [] ((rowsT p).map fun r => r ++ [10]) = textT p := rfl
        simp_arith [Ok_join, e3, e_sum_of, sum_st, str_num (n := stN (textT p)) (by have := stN_lt (textT p); omega), List.length_append, List.length_cons, List.length_nil]
        exact ⟨hsz _ (by have := text_sum h; simp only [List.length_nil] at this; omega), hsz _ (by omega), hsz _ (by omega), hsz _ (by omega), rfl⟩
theorem e_law_patch_rows {p : Pa} (h : PaOk p) : evF pg N (k + 2) i__law_patch_rows [.val (ePa p)] mh = .ok (.val (.str (textT p)), mh) := by
  have hsz : ∀ a : Nat, a ≤ 1000000 → a ≤ sz := fun a h => by unfold sz; omega
  have hla := h.la
  have hlb := h.lb
  refine ofOk (w_F pg__law_patch_rows rfl (by decide) ?_)
  simp_arith [d__law_patch_rows, ePa, List.length_cons, List.length_nil]
  refine ⟨hsz _ (by have := h.nm; omega), by decide, ?_⟩
  refine for_inv (fun d s => ∃ a b c e f g, s = ⟨[.val (ePa p), .own (.lst ((rowN p.nm :: d.map rowA).map .str)), a, b, c, e, f, g], mh⟩) ⟨.un, .un, .un, .un, .un, .un, rfl⟩ ?_ ?_
  · rintro d x r s e ⟨a, b, c, e1, f, g, rfl⟩
    have hx : x ∈ p.adds := by rw [e]; simp
    have ok := h.adds x hx
    have hdl : d.length ≤ 3000 := by
      rw [e, List.length_append] at hla
      omega
    have h1 := side_len ok.ah ok.sah
    have h2 := side_len ok.be ok.sbe
    have h3 := ok.line
    simp_arith [eAd, List.length_cons, List.length_nil]
    refine lc_mp (em := D.str) spT (fun s hs => ?_) ?_
    · simp_arith [e_law_spot (ok.sah s hs)]
    have e5 : joinAll [32] (x.ah.map spT) = sideT x.ah := rfl
    simp_arith [Ok_join, e5, List.length_append, List.length_cons, List.length_nil]
    refine ⟨e_side ok.ah ok.sah, hsz _ (by omega), hsz _ (by omega), ?_⟩
    refine lc_mp (em := D.str) spT (fun s hs => ?_) ?_
    · simp_arith [e_law_spot (ok.sbe s hs)]
    have e6 : joinAll [32] (x.be.map spT) = sideT x.be := rfl
    simp_arith [Ok_join, e6, List.length_append, List.length_cons, List.length_nil, Ok_append, List.length_map]
    refine ⟨by have := e_side ok.be ok.sbe; simp only [List.length_map, List.length_cons, List.length_nil] at this; exact this, hsz _ (by omega), hsz _ (by omega), hsz _ (by omega), by unfold sz; omega, .val (.int x.n), .val (.str x.line), .val (eSs x.ah), .val (eSs x.be), f, g, ?_⟩
    simp only [List.map_cons, List.map_append, List.map_nil, rowA]
    rfl
  · rintro s ⟨a, b, c, e1, f, g, rfl⟩
    simp_arith [ePa]
    refine lc_mp (em := D.str) rowB (fun s hs => ?_) ?_
    · have := spT_len (h.bars s hs)
      simp_arith [e_law_spot (h.bars s hs), List.length_cons, List.length_nil]
      exact ⟨hsz _ (by omega), rfl⟩
    · have e2 : (rowN p.nm :: p.adds.map rowA).map D.str ++ (p.bars.map rowB).map D.str = (rowsT p).map D.str := by rw [← List.map_append]; rfl
      have hr := rows_len h
      simp_arith [e2, List.length_map, List.length_cons]
      refine ⟨hsz _ (by omega), ?_⟩
      refine lc_mp (em := D.str) (fun r => r ++ [10]) (fun r hr' => ?_) ?_
      · have := hr.1 r hr'
        simp_arith [List.length_cons, List.length_nil]
        exact hsz _ (by omega)
      · simp_arith [Ok_join]
        exact ⟨hsz _ (by have := text_sum h; omega), rfl⟩
def stamp (p : Pa) : Int := sumT (textT p)
theorem e_law_stamp {p : Pa} (h : PaOk p) : evF pg N (k + 3) i__law_stamp [.val (ePa p)] mh = .ok (.val (.int (stamp p)), mh) := by
  refine ofOk (w_F pg__law_stamp rfl (by decide) ?_)
  simp_arith [d__law_stamp, e_law_patch_rows h, e_law_sum, stamp]
theorem e_patch_stamp {p : Pa} (h : PaOk p) : evF pg N (k + 3) i_patch_stamp [.val (ePa p)] mh = .ok (.val (.int (stamp p)), mh) := by
  obtain ⟨y, ey⟩ := text_end p
  have hn := stN_lt (textT p)
  have hnl := numT_len (n := stN (textT p)) (by omega)
  have hfree : 10 ∉ ([101, 110, 100, 32] ++ numT (stN (textT p)) : (List Nat)) := fun z => by
    rcases List.mem_append.mp z with z | z
    · revert z; decide
    · exact TL.numL_free (.inl (by decide)) z
  obtain ⟨l, el⟩ := spl_tail hfree y []
  have e1 : fileT p = y ++ 10 :: (([101, 110, 100, 32] ++ numT (stN (textT p))) ++ [10]) := by
    rw [fileT, ey]; simp
  have e2 : (PySem.Txt.split ⟨(fileT p).toArray⟩ ⟨([10] : (List Nat)).toArray⟩).map (fun z => D.str z.cps.toList) = l.map D.str ++ [D.str ([101, 110, 100, 32] ++ numT (stN (textT p))), D.str []] := by
    rw [SX.split_S (a := fileT p) (b := [10]) (by simp) (by decide), e1, el, List.map_map, List.map_append]
    congr 1
  have hfl : (fileT p).length + 2 ≤ sz := by
    have := text_len h
    simp only [fileT, List.length_append, List.length_cons, List.length_nil]
    unfold sz; omega
  have e3 : methD .split (.str (fileT p)) [.str [10]] = .ok (.own (.lst (l.map D.str ++ [D.str ([101, 110, 100, 32] ++ numT (stN (textT p))), D.str []]))) := by
    rw [methD, if_pos ⟨by decide, hfl⟩, e2]
  have e4 : cutD (101 :: 110 :: 100 :: 32 :: numT (stN (textT p))) (some 4) none = numT (stN (textT p)) := by
    have := cutD_from (xs := ([101, 110, 100, 32] ++ numT (stN (textT p)) : (List Nat))) (n := 4)
    exact this
  have e5 : bltM mh .int (.str (numT (stN (textT p)))) = .ok (.val (.int (stamp p))) := by
    have h1 := SX.int_S (a := numT (stN (textT p))) (List.all_eq_true.mpr fun c hc => by
      have := TL.numL_digits (stN (textT p)) c hc
      simpa using this) (TL.numL_ne _) (by omega)
    have h2 : PySem.intText? ⟨(numT (stN (textT p))).toArray⟩ = some (stamp p) := by
      rw [stamp, sum_st]
      exact h1.trans (by rw [show NumText.digitsVal (numT (stN (textT p))) = stN (textT p) from TL.numL_val _])
    simp only [bltM, bltD, h2]
    rw [if_pos (by omega)]
  refine ofOk (w_F pg_patch_stamp rfl (by decide) ?_)
  simp_arith [d_patch_stamp, e_write_patch h, e3, atI_m2, e4, e5]
  simp only [List.length_append, List.length_cons, List.length_nil]
  unfold sz; omega
def sts (st : List Pa) : (List ((List Nat) × Int)) := st.map fun p => (p.nm, stamp p)
theorem e_stamps_of {st : List Pa} (h : ∀ p ∈ st, PaOk p) : evF pg N (k + 4) i_stamps_of [.val (eSto st)] mh = .ok (.val (eS (sts st)), mh) := by
  refine ofOk (w_F pg_stamps_of rfl (by decide) ?_)
  simp_arith [d_stamps_of]
  refine lc_mp (em := eN) (fun p => (p.nm, stamp p)) (fun p hp => ?_) ?_
  · have q := e_patch_stamp (N := N) (k := k) (mh := mh) (h p hp)
    simp only [ePa] at q
    simp_arith [ePa, q, List.length_cons, List.length_nil]
    exact ⟨by decide, rfl⟩
  · simp_arith [sts]
theorem e_law_stamps {st : List Pa} (h : ∀ p ∈ st, PaOk p) : evF pg N (k + 4) i__law_stamps [.val (eSto st)] mh = .ok (.val (eS (sts st)), mh) := by
  refine ofOk (w_F pg__law_stamps rfl (by decide) ?_)
  simp_arith [d__law_stamps]
  refine lc_mp (em := eN) (fun p => (p.nm, stamp p)) (fun p hp => ?_) ?_
  · have q := e_law_stamp (N := N) (k := k) (mh := mh) (h p hp)
    simp only [ePa] at q
    simp_arith [ePa, q, List.length_cons, List.length_nil]
    exact ⟨by decide, rfl⟩
  · simp_arith [sts]
end

end Sk

end

section
set_option Elab.async false
set_option linter.all false
set_option maxRecDepth 100000
set_option maxHeartbeats 4000000
namespace Sk
open PySem
local macro_rules
  | `(tactic| simp_arith [$as,*]) => `(tactic| simp only [w_lit, w_var, w_tup, w_lst, w_dnew, w_bin, w_cmp, w_isnone, w_isinst, w_and, w_or, w_not, w_ife, w_idx, w_slc, w_rev, w_call, w_blt, w_meth, w_mut, w_rng, w_A0, w_A1, w_R0, w_R1, w_C0, w_C1, w_lcW, w_lc, w_lc2, w_dcW, w_dc, w_dvals, w_ex, w_asg, w_par, w_sub, w_ret, w_sif, w_whl, w_for, w_forF, w_pass, w_brk, w_cnt, w_B0, w_B1, w_test, w_iterR, ↓next_nx, ↓next_ret, ↓next_brk, ↓next_ct, ↓turn_nx, ↓turn_ct, ↓turn_brk, ↓turn_ret, ↓fin_ret, ↓fin_nx, Ok_ok, Ok_er, slotAt_mk, List.getD_cons_succ, List.getD_cons_zero, List.set_cons_succ, List.set_cons_zero, List.cons_append, List.nil_append, List.append_nil, List.replicate, List.foldl, varR_val, varR_own, varR_bor, peek_val, peek_own, peek_bor, peekS_val, peekS_own, peekS_bor, freeze_val, freeze_own, freeze_bor, frzS_own, frzS_val, iterF_val, iterF_own, iterF_bor, itfS_own, itfS_val, itfS_bor, asgR_val, asgR_own, asgR_bor, agS_val, agS_own, agS_bor, asgR_tp, asgD_nm, asgD_tp, asgAll_nil, asgAll_cons, wipeS_mk, backS_mk, toSls0, Ok_toSls1, toSl_val, toSl_own, toSl_bor, tslS_val, tslS_own, tslS_bor, esc_pg, cxF_call, cxF_N, outR_val, outR_own, outR_bor, outS_val, outS_own, content_val, content_own, content_bor, Option.isSome_some, valR_val, ownL_own, ownK_own, noBor_val, noBor_own, add_int, sub_int, len_lst, len_tup, len_dct, int_int, list_lst, list_tup, tuple_lst, tuple_tup, ord_str, itemsC_lst, itemsC_tup, itemsD_lst, itemsD_tup, itemsD_str, eq_int, ne_int, lt_int, gt_int, le_int, ge_int, truth_bl, truth_lst, truth_tup, part_non, part_int, Ok_md, Ok_fdiv, Ok_mul, Ok_idx_lst, Ok_idx_tup, Ok_idx_str, Ok_listr, isE_map, isE_snoc, subW_mk, Ok_sortset, atI0, atI1, atI2, atI3, cutD_to, cutD_from, eq_str, ne_str, decide_true, decide_false, Option.map_some, Option.map_none, pop_snoc, Ok_add_str, Ok_add_tup, Ok_add_lst, Ok_len_str, Ok_rng1, Ok_rng2, Ok_append, Ok_extendL, Ok_extendT, slc_tup, slc_lst, Ok_slc_str, still_val, rev_lst, if_true, if_false, ite_true, ite_false, Bool.false_eq_true, if_true', reduceIte, true_and, and_true, Bool.not_true, Bool.not_false, Bool.not_not, exists_eq_left', exists_eq_left, Option.some.injEq, $as,*])
/-! SpP: needs, reaches, cuts. -/
def named (p : Pa) : List ((List Nat) × Nat) := p.bars ++ p.adds.flatMap fun a => a.ah ++ a.be
def needs (p : Pa) : List (List Nat) := setE (((named p).map (·.1)).filter fun x => !decide (x ∈ [[], p.nm]))
theorem mem_needs {p : Pa} {x : (List Nat)} : x ∈ needs p ↔ (∃ s ∈ named p, s.1 = x) ∧ x ≠ [] ∧ x ≠ p.nm := by
  rw [needs, mem_setE, List.mem_filter, List.mem_map]
  simp
theorem flat_ab {p : Pa} (h : PaOk p) : ∀ {l : List Ad}, (∀ a ∈ l, AdOk a) → (l.flatMap fun a => a.ah ++ a.be).length = 2 * l.length
  | [], _ => rfl
  | a :: l, h' => by
    have h1 := h' a (List.mem_cons_self ..)
    rw [List.flatMap_cons, List.length_append, flat_ab h fun b hb => h' b (List.mem_cons_of_mem _ hb), List.length_append, h1.ah, h1.be, List.length_cons]
    omega
theorem named_len {p : Pa} (h : PaOk p) : (named p).length ≤ 3000 := by
  rw [named, List.length_append, flat_ab h h.adds]
  have := h.la
  have := h.lb
  omega
theorem needs_len {p : Pa} (h : PaOk p) : (needs p).length ≤ 3000 := by
  refine Nat.le_trans len_setE (Nat.le_trans (List.length_filter_le _ _) ?_)
  rw [List.length_map]
  exact named_len h
section
variable {N k : Nat} {mh : MH}
theorem e_named_in {p : Pa} (h : PaOk p) : evF pg N (k + 1) i_named_in [.val (ePa p)] mh = .ok (.own (.lst ((named p).map eSp)), mh) := by
  have hla := h.la
  have hlb := h.lb
  refine ofOk (w_F pg_named_in rfl (by decide) ?_)
  simp_arith [d_named_in, ePa]
  refine for_inv (fun d s => ∃ a b c, s = ⟨[.val (ePa p), .own (.lst ((p.bars ++ d.flatMap fun a => a.ah ++ a.be).map eSp)), a, b, c], mh⟩) ⟨.un, .un, .un, by simp [ePa]⟩ ?_ ?_
  · rintro d x r s e ⟨a, b, c, rfl⟩
    have hx : x ∈ p.adds := by rw [e]; simp
    have ok := h.adds x hx
    have hd : ∀ a ∈ d, AdOk a := fun a ha => h.adds a (by rw [e]; exact List.mem_append_left _ ha)
    have hdl : d.length ≤ 1000 := by
      rw [e, List.length_append] at hla
      omega
    have h1 := flat_ab h hd
    simp_arith [eAd, Ok_extendT, List.length_map, List.length_append, h1, ok.ah, ok.be]
    refine ⟨by unfold sz; omega, by unfold sz; omega, .val (.str x.line), .val (eSs x.ah), .val (eSs x.be), ?_⟩
    simp
  · rintro s ⟨a, b, c, rfl⟩
    simp_arith [w_lit]
    rfl
theorem nin_two {x y : (List Nat)} : cmpD .nin (.str x) (.tup [.str [], .str y]) = .ok (!decide (x ∈ [[], y])) := (En.nin_tup (e := D.str) x [[], y]).trans (by congr)
theorem e_needs_of {p : Pa} (h : PaOk p) : evF pg N (k + 2) i_needs_of [.val (ePa p)] mh = .ok (.val (.tup ((needs p).map .str)), mh) := by
  refine ofOk (w_F pg_needs_of rfl (by decide) ?_)
  simp_arith [d_needs_of, e_named_in h]
  refine lc_fm (em := D.str) (fun s => if s.1 ∈ [[], p.nm] then none else some s.1) (fun s hs => ?_) ?_
  · simp_arith [ePa, List.length_cons, List.length_nil, nin_two]
    refine ⟨by decide, ?_⟩
    by_cases hm : s.1 ∈ [[], p.nm]
    · simp_arith [hm]
    · simp_arith [hm]
  · have e1 : (named p).filterMap (fun s => if s.1 ∈ [[], p.nm] then none else some s.1) = ((named p).map (·.1)).filter fun x => !decide (x ∈ [[], p.nm]) := by
      induction named p with
      | nil => rfl
      | cons s l ih =>
        rw [List.filterMap_cons, List.map_cons, List.filter_cons, ih]
        by_cases hm : s.1 ∈ [[], p.nm] <;> simp [hm]
    have hl : (((named p).map (·.1)).filter fun x => !decide (x ∈ [[], p.nm])).length ≤ 3000 := filt_len (by rw [List.length_map]; exact named_len h)
    rw [e1]
    simp_arith [w_lit]
    exact ⟨by omega, rfl⟩
theorem e_law_needs {p : Pa} (h : PaOk p) : evF pg N (k + 1) i__law_needs [.val (ePa p)] mh = .ok (.val (.tup ((needs p).map .str)), mh) := by
  have hla := h.la
  have hlb := h.lb
  refine ofOk (w_F pg__law_needs rfl (by decide) ?_)
  simp_arith [d__law_needs, ePa]
  refine lc_mp (em := D.str) (fun s => s.1) (fun s hs => ?_) ?_
  · simp_arith [w_lit]
  simp_arith [ePa]
  refine for_inv (fun d s => ∃ a b c e f g, s = ⟨[.val (ePa p), .own (.lst (((p.bars ++ d.flatMap fun a => a.ah ++ a.be).map (·.1)).map D.str)), a, b, c, e, f, g], mh⟩) ⟨.un, .un, .un, .un, .un, .un, by simp [ePa]⟩ ?_ ?_
  · rintro d x r s e ⟨a, b, c, e1, f, g, rfl⟩
    have hx : x ∈ p.adds := by rw [e]; simp
    have ok := h.adds x hx
    have hd : ∀ a ∈ d, AdOk a := fun a ha => h.adds a (by rw [e]; exact List.mem_append_left _ ha)
    have hdl : d.length ≤ 1000 := by
      rw [e, List.length_append] at hla
      omega
    have h1 := flat_ab h hd
    simp_arith [eAd, List.length_map, ok.ah, ok.be, ← List.map_append]
    refine ⟨by decide, ?_⟩
    refine lc_mp (em := D.str) (fun s => s.1) (fun s hs => ?_) ?_
    · simp_arith [w_lit]
    simp_arith [List.length_map, List.length_append, h1, ok.ah, ok.be]
    refine ⟨by unfold sz; omega, .val (.int x.n), .val (.str x.line), .val (eSs x.ah), .val (eSs x.be), f, g, ?_⟩
    simp
  · rintro s ⟨a, b, c, e1, f, g, rfl⟩
    simp_arith [w_lit]
    refine lc_fl (fun x => !decide (x ∈ [[], p.nm])) (fun x hx => ?_) ?_
    · simp_arith [ePa, List.length_cons, List.length_nil, nin_two]
      refine ⟨by decide, ?_⟩
      by_cases hm : x ∈ [[], p.nm]
      · simp_arith [hm]
      · simp_arith [hm]
    · have hl : (((named p).map (·.1)).filter fun x => !decide (x ∈ [[], p.nm])).length ≤ 3000 := filt_len (by rw [List.length_map]; exact named_len h)
      simp_arith [w_lit]
      exact ⟨Nat.lt_of_le_of_lt hl (by decide), rfl⟩
end
/-! stores -/
def pnm (st : List Pa) : List (List Nat) := st.map (·.nm)
def spots (st : List Pa) : List ((List Nat) × Nat) := st.flatMap fun q => q.adds.map fun a => (q.nm, a.n)
theorem mem_spots {st : List Pa} {s : (List Nat) × Nat} : s ∈ spots st ↔ ∃ q ∈ st, ∃ a ∈ q.adds, s = (q.nm, a.n) := by
  rw [spots, List.mem_flatMap]
  constructor
  · rintro ⟨q, hq, h⟩
    obtain ⟨a, ha, rfl⟩ := List.mem_map.mp h
    exact ⟨q, hq, a, ha, rfl⟩
  · rintro ⟨q, hq, a, ha, rfl⟩
    exact ⟨q, hq, List.mem_map.mpr ⟨a, ha, rfl⟩⟩
/-- a store: each name once, spots there, at most c spots -/
structure SOk (st : List Pa) (c : Nat) : Prop where
  nd : (pnm st).Nodup
  ok : ∀ p ∈ st, PaOk p
  ne : ∀ p ∈ st, p.nm ≠ []
  lt : ∀ p ∈ st, ∀ a ∈ p.adds, a.line ∈ lineTexts
  wf : ∀ p ∈ st, ∀ s ∈ named p, s = ([], 0) ∨ s = ([], 1) ∨ s ∈ spots st
  len : (spots st).length ≤ c
  num : ∀ s ∈ spots st, SpOk s
  sl : st.length ≤ 15
theorem nm_inj {st : List Pa} (h : (pnm st).Nodup) {p q : Pa} (hp : p ∈ st) (hq : q ∈ st) (e : p.nm = q.nm) : p = q := by
  induction st with
  | nil => cases hp
  | cons r st ih =>
    obtain ⟨h1, h2⟩ := List.nodup_cons.mp (show (r.nm :: pnm st).Nodup from h)
    rcases List.mem_cons.mp hp with rfl | hp' <;> rcases List.mem_cons.mp hq with rfl | hq'
    · rfl
    · exact absurd (show p.nm ∈ pnm st from List.mem_map.mpr ⟨q, hq', e.symm⟩) h1
    · exact absurd (show q.nm ∈ pnm st from List.mem_map.mpr ⟨p, hp', e⟩) h1
    · exact ih h2 hp' hq'
theorem SOk.need {st : List Pa} {c : Nat} (h : SOk st c) {p : Pa} (hp : p ∈ st) {x : (List Nat)} (hx : x ∈ needs p) : ∃ q ∈ st, q.nm = x := by
  obtain ⟨⟨s, hs, rfl⟩, h1, h2⟩ := mem_needs.mp hx
  rcases h.wf p hp s hs with rfl | rfl | hm
  · exact absurd rfl h1
  · exact absurd rfl h1
  · obtain ⟨q, hq, a, ha, rfl⟩ := mem_spots.mp hm
    exact ⟨q, hq, rfl⟩
/-- a part with all that it needs -/
theorem SOk.part {st : List Pa} {c : Nat} (h : SOk st c) {R : List (List Nat)} (hR : ∀ p ∈ st, p.nm ∈ R → ∀ x ∈ needs p, x ∈ R) : SOk (st.filter fun p => decide (p.nm ∈ R)) c := by
  have sub : ∀ p, p ∈ (st.filter fun p => decide (p.nm ∈ R)) → p ∈ st ∧ p.nm ∈ R := fun p hp => by
    obtain ⟨h1, h2⟩ := List.mem_filter.mp hp
    exact ⟨h1, of_decide_eq_true h2⟩
  refine ⟨(List.filter_sublist.map _).nodup h.nd, fun p hp => h.ok p (sub p hp).1, fun p hp => h.ne p (sub p hp).1, fun p hp => h.lt p (sub p hp).1, fun p hp s hs => ?_, ?_, fun s hs => ?_, Nat.le_trans (List.length_filter_le _ _) h.sl⟩
  · obtain ⟨h1, h2⟩ := sub p hp
    rcases h.wf p h1 s hs with e | e | hm
    · exact .inl e
    · exact .inr (.inl e)
    · obtain ⟨q, hq, a, ha, rfl⟩ := mem_spots.mp hm
      refine .inr (.inr (mem_spots.mpr ⟨q, List.mem_filter.mpr ⟨hq, decide_eq_true ?_⟩, a, ha, rfl⟩))
      by_cases e : q.nm = p.nm
      · rw [e]; exact h2
      · exact hR p h1 h2 q.nm (mem_needs.mpr ⟨⟨_, hs, rfl⟩, h.ne q hq, e⟩)
  · refine Nat.le_trans ?_ h.len
    have : ∀ l : List Pa, (spots (l.filter fun p => decide (p.nm ∈ R))).length ≤ (spots l).length := by
      intro l
      induction l with
      | nil => exact Nat.le_refl _
      | cons p l ih =>
        rw [List.filter_cons]
        split
        · rw [spots, spots, List.flatMap_cons, List.flatMap_cons, List.length_append, List.length_append]
          exact Nat.add_le_add_left ih _
        · rw [spots, spots, List.flatMap_cons, List.length_append]
          exact Nat.le_trans ih (Nat.le_add_left _ _)
    exact this st
  · obtain ⟨q, hq, a, ha, rfl⟩ := mem_spots.mp hs
    exact h.num _ (mem_spots.mpr ⟨q, (sub q hq).1, a, ha, rfl⟩)
/-- what is not yet reached: how much it needs -/
def left {α : Type} [DecidableEq α] (f : α → Nat) (all F : List α) : Nat := ((all.filter fun x => !decide (x ∈ F)).map f).sum
theorem left_snoc {α : Type} [DecidableEq α] (f : α → Nat) {x : α} {F F' : List α} (hF : ∀ y, y ∈ F' ↔ y ∈ F ∨ y = x) (hx : x ∉ F) : ∀ {all : List α}, x ∈ all → left f all F' + f x ≤ left f all F
  | [], h => by cases h
  | y :: all, h => by
    have mono : ∀ l : List α, left f l F' ≤ left f l F := by
      intro l
      induction l with
      | nil => exact Nat.le_refl _
      | cons z l ih =>
        unfold left at ih ⊢
        rw [List.filter_cons, List.filter_cons]
        by_cases h1 : z ∈ F
        · have h2 : z ∈ F' := (hF z).mpr (.inl h1)
          simp only [h1, h2, decide_true, Bool.not_true, Bool.false_eq_true, if_false]
          exact ih
        · by_cases h2 : z ∈ F'
          · simp only [h1, h2, decide_true, decide_false, Bool.not_true, Bool.not_false, Bool.false_eq_true, if_false, if_true, List.map_cons, List.sum_cons]
            omega
          · simp only [h1, h2, decide_false, Bool.not_false, if_true, List.map_cons, List.sum_cons]
            omega
    by_cases e : y = x
    · subst e
      have h2 : y ∈ F' := (hF y).mpr (.inr rfl)
      have := mono all
      unfold left at this ⊢
      rw [List.filter_cons, List.filter_cons]
      simp only [hx, h2, decide_true, decide_false, Bool.not_true, Bool.not_false, Bool.false_eq_true, if_false, if_true, List.map_cons, List.sum_cons]
      omega
    · have hm : x ∈ all := (List.mem_cons.mp h).resolve_left fun z => e z.symm
      have ih := left_snoc f hF hx hm
      unfold left at ih ⊢
      rw [List.filter_cons, List.filter_cons]
      by_cases h1 : y ∈ F
      · have h2 : y ∈ F' := (hF y).mpr (.inl h1)
        simp only [h1, h2, decide_true, Bool.not_true, Bool.false_eq_true, if_false]
        exact ih
      · have h2 : y ∉ F' := fun z => ((hF y).mp z).elim h1 e
        simp only [h1, h2, decide_false, Bool.not_false, if_true, List.map_cons, List.sum_cons]
        omega
theorem left_le {α : Type} [DecidableEq α] {f : α → Nat} {all F : List α} {b : Nat} (h : ∀ x ∈ all, f x ≤ b) : left f all F ≤ all.length * b := by
  unfold left
  refine Nat.le_trans (sum_le (b := b) fun y hy => ?_) ?_
  · obtain ⟨x, hx, rfl⟩ := List.mem_map.mp hy
    exact h x (List.mem_filter.mp hx).1
  · rw [List.length_map]
    exact Nat.mul_le_mul_right _ (List.length_filter_le _ _)

end Sk

end

section
set_option Elab.async false
set_option linter.all false
set_option maxRecDepth 100000
set_option maxHeartbeats 4000000
namespace Sk
open PySem
local macro_rules
  | `(tactic| simp_arith [$as,*]) => `(tactic| simp only [w_lit, w_var, w_tup, w_lst, w_dnew, w_bin, w_cmp, w_isnone, w_isinst, w_and, w_or, w_not, w_ife, w_idx, w_slc, w_rev, w_call, w_blt, w_meth, w_mut, w_rng, w_A0, w_A1, w_R0, w_R1, w_C0, w_C1, w_lcW, w_lc, w_lc2, w_dcW, w_dc, w_dvals, w_ex, w_asg, w_par, w_sub, w_ret, w_sif, w_whl, w_for, w_forF, w_pass, w_brk, w_cnt, w_B0, w_B1, w_test, w_iterR, ↓next_nx, ↓next_ret, ↓next_brk, ↓next_ct, ↓turn_nx, ↓turn_ct, ↓turn_brk, ↓turn_ret, ↓fin_ret, ↓fin_nx, Ok_ok, Ok_er, slotAt_mk, List.getD_cons_succ, List.getD_cons_zero, List.set_cons_succ, List.set_cons_zero, List.cons_append, List.nil_append, List.append_nil, List.replicate, List.foldl, varR_val, varR_own, varR_bor, peek_val, peek_own, peek_bor, peekS_val, peekS_own, peekS_bor, freeze_val, freeze_own, freeze_bor, frzS_own, frzS_val, iterF_val, iterF_own, iterF_bor, itfS_own, itfS_val, itfS_bor, asgR_val, asgR_own, asgR_bor, agS_val, agS_own, agS_bor, asgR_tp, asgD_nm, asgD_tp, asgAll_nil, asgAll_cons, wipeS_mk, backS_mk, toSls0, Ok_toSls1, toSl_val, toSl_own, toSl_bor, tslS_val, tslS_own, tslS_bor, esc_pg, cxF_call, cxF_N, outR_val, outR_own, outR_bor, outS_val, outS_own, content_val, content_own, content_bor, Option.isSome_some, valR_val, ownL_own, ownK_own, noBor_val, noBor_own, add_int, sub_int, len_lst, len_tup, len_dct, int_int, list_lst, list_tup, tuple_lst, tuple_tup, ord_str, itemsC_lst, itemsC_tup, itemsD_lst, itemsD_tup, itemsD_str, eq_int, ne_int, lt_int, gt_int, le_int, ge_int, truth_bl, truth_lst, truth_tup, part_non, part_int, Ok_md, Ok_fdiv, Ok_mul, Ok_idx_lst, Ok_idx_tup, Ok_idx_str, Ok_listr, isE_map, isE_snoc, subW_mk, Ok_sortset, atI0, atI1, atI2, atI3, cutD_to, cutD_from, eq_str, ne_str, decide_true, decide_false, Option.map_some, Option.map_none, pop_snoc, Ok_add_str, Ok_add_tup, Ok_add_lst, Ok_len_str, Ok_rng1, Ok_rng2, Ok_append, Ok_extendL, Ok_extendT, slc_tup, slc_lst, Ok_slc_str, still_val, rev_lst, if_true, if_false, ite_true, ite_false, Bool.false_eq_true, if_true', reduceIte, true_and, and_true, Bool.not_true, Bool.not_false, Bool.not_not, exists_eq_left', exists_eq_left, Option.some.injEq, $as,*])
/-! SpQ: reaches and cuts, together. -/
section
variable {N k : Nat} {mh : MH} {st : List Pa} {c : Nat}
theorem find_pa (h : SOk st c) {x : (List Nat)} (hx : x ∈ pnm st) : ∃ p ∈ st, p.nm = x ∧ st.filter (fun q => decide (q.nm = x)) = [p] := by
  obtain ⟨p, hp, rfl⟩ := List.mem_map.mp hx
  refine ⟨p, hp, rfl, ?_⟩
  have hn := h.nd
  clear hx
  have : ∀ l : List Pa, (pnm l).Nodup → p ∈ l → l.filter (fun q => decide (q.nm = p.nm)) = [p] := by
    intro l
    induction l with
    | nil => intro _ h; cases h
    | cons q l ih =>
      intro hn hp
      obtain ⟨h1, h2⟩ := List.nodup_cons.mp (show (q.nm :: pnm l).Nodup from hn)
      rw [List.filter_cons]
      by_cases e : q.nm = p.nm
      · have hpq : p = q := by
          rcases List.mem_cons.mp hp with rfl | hp
          · rfl
          · exact absurd (show q.nm ∈ pnm l from List.mem_map.mpr ⟨p, hp, e.symm⟩) h1
        subst hpq
        simp only [decide_true, if_true]
        congr 1
        refine List.filter_eq_nil_iff.mpr fun r hr => ?_
        intro z
        exact h1 (List.mem_map.mpr ⟨r, hr, of_decide_eq_true z⟩)
      · simp only [e, decide_false, Bool.false_eq_true, if_false]
        exact ih h2 ((List.mem_cons.mp hp).resolve_left fun z => e (by rw [z]))
  exact this st hn hp
/-- by name: how many names are needed -/
def nl (st : List Pa) (x : (List Nat)) : Nat := match st.find? (fun p => decide (p.nm = x)) with
  | some p => (needs p).length
  | none => 0
theorem nl_of (h : SOk st c) {p : Pa} (hp : p ∈ st) : nl st p.nm = (needs p).length := by
  have : st.find? (fun q => decide (q.nm = p.nm)) = some p := by
    cases e : st.find? (fun q => decide (q.nm = p.nm)) with
    | none => exact absurd (decide_eq_true rfl) (List.find?_eq_none.mp e p hp)
    | some q =>
      have h1 := List.mem_of_find?_eq_some e
      have h2 := List.find?_some e
      rw [nm_inj h.nd h1 hp (of_decide_eq_true h2)]
  rw [nl, this]
theorem nl_le (h : SOk st c) {x : (List Nat)} (hx : x ∈ pnm st) : nl st x ≤ 3000 := by
  obtain ⟨p, hp, rfl⟩ := List.mem_map.mp hx
  rw [nl_of h hp]
  exact needs_len (h.ok p hp)
theorem left_le3 (h : SOk st c) {F : List (List Nat)} : left (nl st) (pnm st) F ≤ 45000 := by
  have h1 := left_le (f := nl st) (all := pnm st) (F := F) (b := 3000) fun x hx => nl_le h hx
  have h2 := h.sl
  rw [pnm, List.length_map] at h1
  unfold pnm
  omega
def vTrue (_ : Unit) : D := .bl true
theorem sp_reach_of (h : SOk st c) {names : List (List Nat)} (hn : ∀ x ∈ names, x ∈ pnm st) (hl : names.length ≤ 100) (hN : 100000 < N) : Ok (evF pg N (k + 3) i_reach_of [.val (eSto st), .val (.tup (names.map .str))] mh) fun p => ∃ R : List (List Nat), p = (.val (.tup (R.map .str)), mh) := by
  refine w_F pg_reach_of rfl (by decide) ?_
  simp_arith [d_reach_of]
  refine dc_inv (fun d a s => ∃ l : List ((List Nat) × List (List Nat)), a = eK D.str (fun x => .tup (x.map .str)) l ∧ l.length ≤ d.length ∧ (∀ p ∈ d, lk p.nm l = some (needs p)) ∧ s = ⟨[.val (eSto st), .val (.tup (names.map .str)), .un, .un, .un, .un, .un], mh⟩) ⟨[], rfl, by simp, (fun p hp => by cases hp), rfl⟩ ?_ ?_
  · rintro d p r a s e ⟨l, rfl, hll, hh, rfl⟩
    have hp : p ∈ st := by rw [e]; simp
    have q := e_needs_of (N := N) (k := k) (mh := mh) (h.ok p hp)
    simp only [ePa] at q
    have hdl : d.length ≤ 15 := by
      have := h.sl
      rw [e, List.length_append] at this
      omega
    simp_arith [ePa, q, isAtom]
    refine ⟨by rw [List.length_map]; unfold sz; omega, _, putD_eK (e := D.str) (v := fun x => .tup (x.map .str)) p.nm (needs p) l, ?_, ?_⟩
    · have := pt_len p.nm (needs p) l
      rw [List.length_append]
      simp only [List.length_cons, List.length_nil]
      omega
    · intro q hq
      rw [lk_pt]
      rcases List.mem_append.mp hq with hq | hq
      · by_cases en : p.nm = q.nm
        · rw [if_pos en]
          have : p = q := nm_inj h.nd hp (by rw [e]; exact List.mem_append_left _ hq) en
          rw [this]
        · rw [if_neg en]; exact hh q hq
      · rw [List.mem_singleton.mp hq, if_pos rfl]
  · rintro a s ⟨l, rfl, hll, hh, rfl⟩
    simp_arith [w_lit]
    refine wh_inv (fun m s => ∃ (F : List ((List Nat) × Unit)) (W : List (List Nat)) (x : Sl), m = W.length + left (nl st) (pnm st) (F.map (·.1)) ∧ m ≤ 45100 ∧ (∀ y ∈ W, y ∈ pnm st) ∧ (F.map (·.1)).Nodup ∧ (∀ y ∈ F.map (·.1), y ∈ pnm st) ∧ s = ⟨[.val (eSto st), .val (.tup (names.map .str)), .own (.dct (eK D.str (fun x => .tup (x.map .str)) l)), .own (.dct (eK D.str vTrue F)), .own (.lst (W.map .str)), x, .un], mh⟩) (n := names.length + left (nl st) (pnm st) []) ⟨[], names, .un, rfl, by have := left_le3 h (F := []); omega, hn, by simp, by simp, rfl⟩ ?_ ?_
    · have := left_le3 h (F := [])
      omega
    · rintro m s ⟨F, W, x, rfl, hm, hW, hFn, hFs, rfl⟩
      by_cases hWe : W = []
      · subst hWe
        have e1 : (eK D.str vTrue F).map (·.1) = (F.map (·.1)).map D.str := by
          rw [eK, List.map_map, List.map_map]; rfl
        have e2 : bltM mh .sorted (.dct (eK D.str vTrue F)) = .ok (.own (.lst ((sortE D.str (F.map (·.1))).map .str))) := by
          simp only [bltM, bltD, e1, En.okSort, allStr_map, Bool.and_self, if_true, sortD_map]
        simp_arith [List.isEmpty_nil, e2]
        exact ⟨_, rfl⟩
      · obtain ⟨W, y, rfl⟩ := snoc_of hWe
        have hy := hW y (by simp)
        have hFl : F.length ≤ 15 := by
          have h1 := nodup_len hFn hFs
          rw [List.length_map, pnm, List.length_map] at h1
          exact Nat.le_trans h1 h.sl
        have hb := left_le3 h (F := F.map (·.1))
        have e2 : (W ++ [y]).map D.str = W.map D.str ++ [D.str y] := by rw [List.map_append]; rfl
        obtain ⟨p, hp, rfl⟩ := List.mem_map.mp hy
        have hlk := hh p hp
        by_cases hin : p.nm ∈ F.map (·.1)
        · simp_arith [e2, nin_dct (e := D.str) (v := vTrue), hin]
          rw [List.length_append] at hm
          simp only [List.length_cons, List.length_nil] at hm
          refine ⟨_, ?_, F, W, .val (.str p.nm), rfl, by omega, fun z hz => hW z (List.mem_append_left _ hz), hFn, hFs, rfl⟩
          rw [List.length_append]; simp only [List.length_cons, List.length_nil]; omega
        · have e3 : sbS 3 [.val (eSto st), .val (.tup (names.map .str)), .own (.dct (eK D.str (fun x => .tup (x.map .str)) l)), .own (.dct (eK D.str vTrue F)), .own (.lst (W.map .str)), .val (.str p.nm), .un] mh (.bl true) (.str p.nm) (.own (.dct (eK D.str vTrue F))) = .ok ⟨[.val (eSto st), .val (.tup (names.map .str)), .own (.dct (eK D.str (fun x => .tup (x.map .str)) l)), .own (.dct (eK D.str vTrue (pt p.nm () F))), .own (.lst (W.map .str)), .val (.str p.nm), .un], mh⟩ := by
            have q : Ok (sbS 3 [.val (eSto st), .val (.tup (names.map .str)), .own (.dct (eK D.str (fun x => .tup (x.map .str)) l)), .own (.dct (eK D.str vTrue F)), .own (.lst (W.map .str)), .val (.str p.nm), .un] mh (vTrue ()) (.str p.nm) (.own (.dct (eK D.str vTrue F)))) fun s => s = ⟨[.val (eSto st), .val (.tup (names.map .str)), .own (.dct (eK D.str (fun x => .tup (x.map .str)) l)), .own (.dct (eK D.str vTrue (pt p.nm () F))), .own (.lst (W.map .str)), .val (.str p.nm), .un], mh⟩ := Ok_sbS.mpr ⟨by unfold sz; omega, rfl⟩
            exact ofOk q
          simp_arith [e2, nin_dct (e := D.str) (v := vTrue), hin, e3, Ok_idx_dct (e := D.str) (v := fun x : List (List Nat) => D.tup (x.map .str)), hlk, Ok_extendT, List.length_map, ← List.map_append]
          have hnl := nl_of h hp
          have hk : (pt p.nm () F).map (·.1) = F.map (·.1) ++ [p.nm] := by rw [pt_keys, if_neg hin]
          have hls := left_snoc (nl st) (x := p.nm) (F := F.map (·.1)) (F' := F.map (·.1) ++ [p.nm]) (fun z => by simp) hin (all := pnm st) hy
          have hnd := needs_len (h.ok p hp)
          rw [List.length_append] at hm
          simp only [List.length_cons, List.length_nil] at hm
          refine ⟨by unfold sz; omega, _, ?_, pt p.nm () F, W ++ needs p, .val (.str p.nm), rfl, ?_, ?_, ?_, ?_, rfl⟩
          · rw [hk, List.length_append, List.length_append]; simp only [List.length_cons, List.length_nil]; omega
          · rw [hk, List.length_append]; omega
          · intro z hz
            rcases List.mem_append.mp hz with hz | hz
            · exact hW z (List.mem_append_left _ hz)
            · obtain ⟨q, hq, e⟩ := h.need hp hz
              exact List.mem_map.mpr ⟨q, hq, e⟩
          · rw [hk, List.nodup_append]
            refine ⟨hFn, by simp, ?_⟩
            rintro a ha b hb rfl
            rw [List.mem_singleton] at hb
            exact hin (hb ▸ ha)
          · intro z hz
            rw [hk] at hz
            rcases List.mem_append.mp hz with hz | hz
            · exact hFs z hz
            · rw [List.mem_singleton.mp hz]; exact hy
theorem sp_cut_to (h : SOk st c) {names : List (List Nat)} (hn : ∀ x ∈ names, x ∈ pnm st) (hl : names.length ≤ 100) (hN : 100000 < N) : Ok (evF pg N (k + 4) i_cut_to [.val (eSto st), .val (.tup (names.map .str))] mh) fun p => ∃ R : List (List Nat), p = (.val (eSto (st.filter fun q => decide (q.nm ∈ R))), mh) := by
  refine w_F pg_cut_to rfl (by decide) ?_
  simp_arith [d_cut_to]
  refine (sp_reach_of h hn hl hN).mono ?_
  rintro _ ⟨R, rfl⟩
  simp_arith [w_lit]
  refine lc_fl (fun q => decide (q.nm ∈ R)) (fun q hq => ?_) ?_
  · by_cases hm : q.nm ∈ R
    · simp_arith [ePa, En.in_tup, hm]
    · simp_arith [ePa, En.in_tup, hm]
  · simp_arith [w_lit]
    exact ⟨R, rfl⟩
/-- the two put together -/
def tog (a b : List Pa) : List Pa := sortE ePa (a ++ b.filter fun p => !decide (p ∈ a))
theorem e_together {a b : List Pa} (hn : (pnm (a ++ b.filter fun p => !decide (p ∈ a))).Nodup) (hl : (a ++ b.filter fun p => !decide (p ∈ a)).length ≤ 1000) : evF pg N (k + 1) i_together [.val (eSto a), .val (eSto b)] mh = .ok (.val (eSto (tog a b)), mh) := by
  have hl' := hl
  rw [List.length_append] at hl'
  have hnd : (pnm (tog a b)).Nodup := by
    have h1 : ((a ++ b.filter fun p => !decide (p ∈ a)).map (·.nm)).Nodup := hn
    exact ((sortE_perm (e := ePa) (a ++ b.filter fun p => !decide (p ∈ a))).map (·.nm)).nodup_iff.mpr h1
  have hlen : (tog a b).length ≤ 1000 := by rw [tog, sortE_len]; exact hl
  refine ofOk (w_F pg_together rfl (by decide) ?_)
  simp_arith [d_together]
  refine lc_fl (fun p => !decide (p ∈ a)) (fun p hp => ?_) ?_
  · by_cases hm : p ∈ a
    · simp_arith [En.nin_tup (e := ePa), hm]
    · simp_arith [En.nin_tup (e := ePa), hm]
  have e1 : a.map ePa ++ (b.filter fun p => !decide (p ∈ a)).map ePa = (a ++ b.filter fun p => !decide (p ∈ a)).map ePa := List.map_append.symm
  have e2 : sortE ePa (a ++ b.filter fun p => !decide (p ∈ a)) = tog a b := rfl
  simp_arith [e1, sorted_tup, e2, List.length_map]
  refine ⟨by unfold sz; omega, by omega, ?_⟩
  refine for_inv (fun d s => ∃ x y, s = ⟨[.val (eSto a), .val (eSto b), .own (.lst ((tog a b).map ePa)), x, y], mh⟩) ⟨.un, .un, rfl⟩ ?_ ?_
  · rintro d i r s e ⟨x, y, rfl⟩
    have hi : i + 1 < (tog a b).length := by
      have : i ∈ List.range (((tog a b).length : Int) - 1).toNat := by rw [e]; simp
      have := List.mem_range.mp this
      omega
    have hi0 : i < (tog a b).length := by omega
    have hne : decide ((tog a b)[i].nm = (tog a b)[i + 1].nm) = false := by
      refine decide_eq_false fun z => ?_
      have h1 := List.pairwise_iff_getElem.mp (List.nodup_iff_pairwise_ne.mp hnd) i (i + 1) (by rw [pnm, List.length_map]; omega) (by rw [pnm, List.length_map]; omega) (by omega)
      refine h1 ?_
      simp only [pnm, List.getElem_map]
      exact z
    have a1 : L2.atI ((tog a b).map ePa) ((i : Int) + 1) = some (ePa (tog a b)[i + 1]) := by
      have : L2.atI ((tog a b).map ePa) (((i + 1 : Nat)) : Int) = _ := atI_ofNat
      rw [List.getElem?_map, List.getElem?_eq_getElem hi] at this
      exact this
    have a0 : L2.atI ((tog a b).map ePa) (i : Int) = some (ePa (tog a b)[i]) := by
      rw [atI_ofNat, List.getElem?_map, List.getElem?_eq_getElem hi0]; rfl
    have i0 : ∀ p : Pa, idxD mh (ePa p) (.int 0) = .ok (.str p.nm) := fun p => by
      unfold ePa
      simp only [idxD, atI0]
    simp_arith [a0, a1, i0, hne]
    exact ⟨_, _, rfl⟩
  · rintro s ⟨x, y, rfl⟩
    simp_arith [w_lit]
/-- what a reach of the law has -/
structure Rch (st : List Pa) (R : List (List Nat)) : Prop where
  sub : ∀ x ∈ R, x ∈ pnm st
  cl : ∀ p ∈ st, p.nm ∈ R → ∀ x ∈ needs p, x ∈ R
theorem sp_law_reach (h : SOk st c) {names : List (List Nat)} (hn : ∀ x ∈ names, x ∈ pnm st) (hl : names.length ≤ 100) (hN : 100000 < N) : Ok (evF pg N (k + 2) i__law_reach [.val (eSto st), .bor (.lst (names.map .str))] mh) fun p => ∃ R : List (List Nat), Rch st R ∧ p = (.val (.tup (R.map .str)), mh) := by
  refine w_F pg__law_reach rfl (by decide) ?_
  simp_arith [d__law_reach, List.length_nil]
  refine ⟨by decide, ?_⟩
  refine wh_inv (fun m s => ∃ (F W : List (List Nat)) (x : Sl), m = W.length + left (nl st) (pnm st) F ∧ m ≤ 45100 ∧ (∀ y ∈ W, y ∈ pnm st) ∧ F.Nodup ∧ (∀ y ∈ F, y ∈ pnm st) ∧ (∀ p ∈ st, p.nm ∈ F → ∀ y ∈ needs p, y ∈ F ∨ y ∈ W) ∧ s = ⟨[.val (eSto st), .bor (.lst (names.map .str)), .own (.lst (F.map .str)), .own (.lst (W.map .str)), x, .un], mh⟩) (n := names.length + left (nl st) (pnm st) []) ⟨[], names, .un, rfl, by have := left_le3 h (F := []); omega, hn, by simp, by simp, (fun p _ z => by cases z), rfl⟩ ?_ ?_
  · have := left_le3 h (F := [])
    omega
  · rintro m s ⟨F, W, x, rfl, hm, hW, hFn, hFs, hcl, rfl⟩
    by_cases hWe : W = []
    · subst hWe
      simp_arith [List.length_nil, List.length_map, sorted_lst]
      rw [if_neg (by decide)]
      refine ⟨sortE D.str F, ⟨fun y hy => hFs y (mem_sortE.mp hy), fun p hp hpF y hy => ?_⟩, rfl⟩
      exact mem_sortE.mpr ((hcl p hp (mem_sortE.mp hpF) y hy).resolve_right fun z => by cases z)
    · obtain ⟨W, y, rfl⟩ := snoc_of hWe
      have hy := hW y (by simp)
      have hFl : F.length ≤ 15 := by
        have h1 := nodup_len hFn hFs
        rw [pnm, List.length_map] at h1
        exact Nat.le_trans h1 h.sl
      have hb := left_le3 h (F := F)
      have e2 : (W ++ [y]).map D.str = W.map D.str ++ [D.str y] := by rw [List.map_append]; rfl
      have h0 : decide ((0 : Int) < ((W ++ [y]).length : Int)) = true := decide_eq_true (by rw [List.length_append]; simp only [List.length_cons, List.length_nil]; omega)
      obtain ⟨p, hp, rfl, hfind⟩ := find_pa h hy
      have hm2 := hm
      rw [List.length_append] at hm2
      simp only [List.length_cons, List.length_nil] at hm2
      simp_arith [List.length_map]
      rw [if_pos h0]
      simp_arith [e2]
      by_cases hin : p.nm ∈ F
      · simp_arith [En.nin_lst, hin]
        refine ⟨_, ?_, F, W, .val (.str p.nm), rfl, by omega, fun z hz => hW z (List.mem_append_left _ hz), hFn, hFs, fun q hq hqF z hz => ?_, rfl⟩
        · rw [List.length_append]; simp only [List.length_cons, List.length_nil]; omega
        · rcases hcl q hq hqF z hz with h1 | h1
          · exact .inl h1
          · rcases List.mem_append.mp h1 with h1 | h1
            · exact .inr h1
            · rw [List.mem_singleton] at h1
              rw [h1]; exact .inl hin
      · have e3 : F.map D.str ++ [D.str p.nm] = (F ++ [p.nm]).map D.str := by rw [List.map_append]; rfl
        simp_arith [En.nin_lst, hin, Ok_append, List.length_map, e3]
        refine ⟨by unfold sz; omega, ?_⟩
        refine lc_fl (fun q => decide (q.nm = p.nm)) (fun q hq => ?_) ?_
        · by_cases hqp : q.nm = p.nm
          · simp_arith [ePa, hqp]
          · simp_arith [ePa, hqp]
        rw [hfind]
        have hnl := nl_of h hp
        have hls := left_snoc (nl st) (x := p.nm) (F := F) (F' := F ++ [p.nm]) (fun z => by simp) hin (all := pnm st) hy
        have hnd := needs_len (h.ok p hp)
        simp_arith [List.map_cons, List.map_nil, e_law_needs (h.ok p hp), List.length_map, ← List.map_append]
        refine ⟨by unfold sz; omega, _, ?_, F ++ [p.nm], W ++ needs p, .val (.str p.nm), rfl, ?_, ?_, ?_, ?_, ?_, rfl⟩
        · rw [List.length_append, List.length_append]; simp only [List.length_cons, List.length_nil]; omega
        · rw [List.length_append]; omega
        · intro z hz
          rcases List.mem_append.mp hz with hz | hz
          · exact hW z (List.mem_append_left _ hz)
          · obtain ⟨q, hq, e⟩ := h.need hp hz
            exact List.mem_map.mpr ⟨q, hq, e⟩
        · rw [List.nodup_append]
          refine ⟨hFn, by simp, ?_⟩
          rintro a ha b hb rfl
          rw [List.mem_singleton] at hb
          exact hin (hb ▸ ha)
        · intro z hz
          rcases List.mem_append.mp hz with hz | hz
          · exact hFs z hz
          · rw [List.mem_singleton.mp hz]; exact hy
        · intro q hq hqF z hz
          rcases List.mem_append.mp hqF with hqF | hqF
          · rcases hcl q hq hqF z hz with h1 | h1
            · exact .inl (List.mem_append_left _ h1)
            · rcases List.mem_append.mp h1 with h1 | h1
              · exact .inr (List.mem_append_left _ h1)
              · exact .inl (List.mem_append_right _ h1)
          · rw [List.mem_singleton] at hqF
            have := nm_inj h.nd hq hp hqF
            subst this
            exact .inr (List.mem_append_right _ hz)
theorem sp_law_cut (h : SOk st c) {names : List (List Nat)} (hn : ∀ x ∈ names, x ∈ pnm st) (hl : names.length ≤ 100) (hN : 100000 < N) : Ok (evF pg N (k + 3) i__law_cut [.val (eSto st), .bor (.lst (names.map .str))] mh) fun p => ∃ part, SOk part c ∧ (∀ q ∈ part, q ∈ st) ∧ p = (.val (eSto part), mh) := by
  refine w_F pg__law_cut rfl (by decide) ?_
  simp_arith [d__law_cut]
  refine (sp_law_reach h hn hl hN).mono ?_
  rintro _ ⟨R, hR, rfl⟩
  simp_arith [w_lit]
  refine lc_fl (fun q => decide (q.nm ∈ R)) (fun q hq => ?_) ?_
  · by_cases hm : q.nm ∈ R
    · simp_arith [ePa, En.in_tup, hm]
    · simp_arith [ePa, En.in_tup, hm]
  · simp_arith [w_lit]
    exact ⟨_, h.part hR.cl, fun q hq => (List.mem_filter.mp hq).1, rfl⟩
end

end Sk

end

section
set_option Elab.async false
set_option linter.all false
set_option maxRecDepth 100000
set_option maxHeartbeats 4000000
namespace Sk
open PySem
local macro_rules
  | `(tactic| simp_arith [$as,*]) => `(tactic| simp only [w_lit, w_var, w_tup, w_lst, w_dnew, w_bin, w_cmp, w_isnone, w_isinst, w_and, w_or, w_not, w_ife, w_idx, w_slc, w_rev, w_call, w_blt, w_meth, w_mut, w_rng, w_A0, w_A1, w_R0, w_R1, w_C0, w_C1, w_lcW, w_lc, w_lc2, w_dcW, w_dc, w_dvals, w_ex, w_asg, w_par, w_sub, w_ret, w_sif, w_whl, w_for, w_forF, w_pass, w_brk, w_cnt, w_B0, w_B1, w_test, w_iterR, ↓next_nx, ↓next_ret, ↓next_brk, ↓next_ct, ↓turn_nx, ↓turn_ct, ↓turn_brk, ↓turn_ret, ↓fin_ret, ↓fin_nx, Ok_ok, Ok_er, slotAt_mk, List.getD_cons_succ, List.getD_cons_zero, List.set_cons_succ, List.set_cons_zero, List.cons_append, List.nil_append, List.append_nil, List.replicate, List.foldl, varR_val, varR_own, varR_bor, peek_val, peek_own, peek_bor, peekS_val, peekS_own, peekS_bor, freeze_val, freeze_own, freeze_bor, frzS_own, frzS_val, iterF_val, iterF_own, iterF_bor, itfS_own, itfS_val, itfS_bor, asgR_val, asgR_own, asgR_bor, agS_val, agS_own, agS_bor, asgR_tp, asgD_nm, asgD_tp, asgAll_nil, asgAll_cons, wipeS_mk, backS_mk, toSls0, Ok_toSls1, toSl_val, toSl_own, toSl_bor, tslS_val, tslS_own, tslS_bor, esc_pg, cxF_call, cxF_N, outR_val, outR_own, outR_bor, outS_val, outS_own, content_val, content_own, content_bor, Option.isSome_some, valR_val, ownL_own, ownK_own, noBor_val, noBor_own, add_int, sub_int, len_lst, len_tup, len_dct, int_int, list_lst, list_tup, tuple_lst, tuple_tup, ord_str, itemsC_lst, itemsC_tup, itemsD_lst, itemsD_tup, itemsD_str, eq_int, ne_int, lt_int, gt_int, le_int, ge_int, truth_bl, truth_lst, truth_tup, part_non, part_int, Ok_md, Ok_fdiv, Ok_mul, Ok_idx_lst, Ok_idx_tup, Ok_idx_str, Ok_listr, isE_map, isE_snoc, subW_mk, Ok_sortset, atI0, atI1, atI2, atI3, cutD_to, cutD_from, eq_str, ne_str, decide_true, decide_false, Option.map_some, Option.map_none, pop_snoc, Ok_add_str, Ok_add_tup, Ok_add_lst, Ok_len_str, Ok_rng1, Ok_rng2, Ok_append, Ok_extendL, Ok_extendT, slc_tup, slc_lst, Ok_slc_str, still_val, rev_lst, if_true, if_false, ite_true, ite_false, Bool.false_eq_true, if_true', reduceIte, true_and, and_true, Bool.not_true, Bool.not_false, Bool.not_not, exists_eq_left', exists_eq_left, Option.some.injEq, $as,*])
/-! SpR: the order of spots. -/
abbrev eL (l : List ((List Nat) × Nat)) : D := .lst (l.map eSp)
instance : Ky eSp := ⟨fun a b => by
  constructor
  · intro h
    have h1 : atomsEq [.str a.1, .int (a.2 : Int)] [.str b.1, .int (b.2 : Int)] = true := h
    simp only [atomsEq, atomEq, Bool.and_true, Bool.and_eq_true, beq_iff_eq] at h1
    exact Prod.ext h1.1 (by have := h1.2; omega)
  · rintro rfl
    show atomsEq [.str a.1, .int (a.2 : Int)] [.str a.1, .int (a.2 : Int)] = true
    simp [atomsEq, atomEq], .inr fun _ => ⟨rfl, rfl⟩⟩
theorem pt_len_in {α β : Type} [DecidableEq α] {k : α} {x : β} {l : List (α × β)} (h : k ∈ l.map (·.1)) : (pt k x l).length = l.length := by
  unfold pt
  rw [if_pos h, List.length_map]
theorem lk_mem {α β : Type} [DecidableEq α] {k : α} {x : β} {l : List (α × β)} (h : lk k l = some x) : k ∈ l.map (·.1) := List.mem_map.mpr ⟨_, lk_some h, rfl⟩
def allSp (st : List Pa) : List ((List Nat) × Nat) := ([], 0) :: ([], 1) :: spots st
/-- a dict of steps -/
structure StpOk (st : List Pa) (l : List (((List Nat) × Nat) × List ((List Nat) × Nat))) (c : Nat) : Prop where
  has : ∀ s ∈ allSp st, ∃ v, lk s l = some v
  ok : ∀ s v, lk s l = some v → v.length ≤ c ∧ ∀ y ∈ v, y ∈ allSp st
  len : l.length ≤ 1002
theorem StpOk.mono {st : List Pa} {l : List (((List Nat) × Nat) × List ((List Nat) × Nat))} {c d : Nat} (h : StpOk st l c) (hc : c ≤ d) : StpOk st l d := ⟨h.has, fun s v e => ⟨Nat.le_trans (h.ok s v e).1 hc, (h.ok s v e).2⟩, h.len⟩
theorem StpOk.put {st : List Pa} {l : List (((List Nat) × Nat) × List ((List Nat) × Nat))} {c d : Nat} (h : StpOk st l c) {s : (List Nat) × Nat} {v w : List ((List Nat) × Nat)} (e : lk s l = some v) (hw : ∀ y ∈ w, y ∈ allSp st) (hd : c + w.length ≤ d) : StpOk st (pt s (v ++ w) l) d := by
  refine ⟨fun t ht => ?_, fun t u hu => ?_, ?_⟩
  · rw [lk_pt]
    split
    · exact ⟨_, rfl⟩
    · exact h.has t ht
  · rw [lk_pt] at hu
    split at hu
    · cases hu
      have := h.ok s v e
      refine ⟨by rw [List.length_append]; omega, fun y hy => ?_⟩
      rcases List.mem_append.mp hy with hy | hy
      · exact this.2 y hy
      · exact hw y hy
    · have := h.ok t u hu
      exact ⟨by omega, this.2⟩
  · rw [pt_len_in (lk_mem e)]; exact h.len
section
variable {N k : Nat} {mh : MH} {st : List Pa} {c : Nat}
theorem SOk.in_all {p : Pa} (h : SOk st c) (hp : p ∈ st) {s : (List Nat) × Nat} (hs : s ∈ named p) : s ∈ allSp st := by
  rcases h.wf p hp s hs with e | e | e
  · rw [e]; exact List.mem_cons_self
  · rw [e]; exact List.mem_cons_of_mem _ List.mem_cons_self
  · exact List.mem_cons_of_mem _ (List.mem_cons_of_mem _ e)
theorem own_in_all {p : Pa} (hp : p ∈ st) {a : Ad} (ha : a ∈ p.adds) : (p.nm, a.n) ∈ allSp st := List.mem_cons_of_mem _ (List.mem_cons_of_mem _ (mem_spots.mpr ⟨p, hp, a, ha, rfl⟩))
theorem spots_app (a b : List Pa) : spots (a ++ b) = spots a ++ spots b := List.flatMap_append
theorem spots_cons (p : Pa) (b : List Pa) : spots (p :: b) = (p.adds.map fun a => (p.nm, a.n)) ++ spots b := List.flatMap_cons
abbrev Dl := List (((List Nat) × Nat) × List ((List Nat) × Nat))
theorem sp_law_order (h : SOk st c) (hc : c ≤ 1000) (hN : 3000000 < N) : Ok (evF pg N (k + 1) i__law_order [.val (eSto st)] mh) fun p => ∃ l : List (((List Nat) × Nat) × List ((List Nat) × Nat)), (∀ s ∈ allSp st, ∃ v, lk s l = some v) ∧ p = (.own (.dct (eK eSp eL l)), mh) := by
  have hlen := h.len
  have hall : (allSp st).length ≤ 1002 := by unfold allSp; simp only [List.length_cons]; omega
  refine w_F pg__law_order rfl (by decide) ?_
  simp_arith [d__law_order, List.length_cons, List.length_nil]
  refine ⟨by decide, by decide, by decide, ?_⟩
  refine for_inv (fun d s => ∃ x5 x6 x7 x10 x11 x12 x13, s = ⟨[.val (eSto st), .own (.dct []), .own (.lst ((([], 0) :: ([], 1) :: spots d).map eSp)), .un, .un, x5, x6, x7, .un, .un, x10, x11, x12, x13, .un], mh⟩) ⟨.un, .un, .un, .un, .un, .un, .un, rfl⟩ ?_ ?_
  · rintro d p r s e ⟨x5, x6, x7, x10, x11, x12, x13, rfl⟩
    simp_arith [ePa]
    refine for_inv (fun d' s => ∃ x10 x11 x12 x13, s = ⟨[.val (eSto st), .own (.dct []), .own (.lst ((([], 0) :: ([], 1) :: (spots d ++ d'.map fun a => (p.nm, a.n))).map eSp)), .un, .un, .val (.str p.nm), .val (.tup (p.adds.map eAd)), .val (eSs p.bars), .un, .un, x10, x11, x12, x13, .un], mh⟩) ⟨x10, x11, x12, x13, by simp⟩ ?_ ?_
    · rintro d' a r' s e' ⟨x10, x11, x12, x13, rfl⟩
      have hl : (spots d ++ d'.map fun a => (p.nm, a.n)).length < 1000 := by
        rw [e, spots_app, spots_cons, e', List.map_append, List.map_cons] at hlen
        simp only [List.length_append, List.length_cons] at hlen ⊢
        omega
      simp_arith [eAd, List.length_cons, List.length_nil, Ok_append, List.length_map]
      refine ⟨by decide, by unfold sz; omega, .val (.int a.n), .val (.str a.line), .val (eSs a.ah), .val (eSs a.be), ?_⟩
      simp
    · rintro s ⟨x10, x11, x12, x13, rfl⟩
      have es : spots (d ++ [p]) = spots d ++ p.adds.map fun a => (p.nm, a.n) := by rw [spots_app, spots_cons]; simp [spots]
      simp_arith [es]
      exact ⟨_, _, _, _, _, _, _, rfl⟩
  · rintro s ⟨x5, x6, x7, x10, x11, x12, x13, rfl⟩
    simp_arith [w_lit]
    have ea : (([], 0) :: ([], 1) :: spots st) = allSp st := rfl
    rw [ea]
    have ins : ∀ {ρ : List Sl} {l : Dl} {s : (List Nat) × Nat} {w : List ((List Nat) × Nat)} {j : Nat}, l.length < sz → sbS j ρ mh (.lst (w.map eSp)) (eSp s) (.own (.dct (eK eSp eL l))) = .ok ⟨ρ.set j (.own (.dct (eK eSp eL (pt s w l)))), mh⟩ := fun {ρ l s w j} hl => ofOk (Ok_sbS (e := eSp) (v := eL) (x := w) (k := s) |>.mpr ⟨hl, rfl⟩)
    have insP : ∀ {ρ : List Sl} {l : Dl} {x : (List Nat)} {y : Nat} {w : List ((List Nat) × Nat)} {j : Nat}, l.length < sz → sbS j ρ mh (.lst (w.map eSp)) (.tup [.str x, .int (y : Int)]) (.own (.dct (eK eSp eL l))) = .ok ⟨ρ.set j (.own (.dct (eK eSp eL (pt (x, y) w l)))), mh⟩ := fun {ρ l x y w j} hl => ins (s := (x, y)) hl
    have ins0 : ∀ {ρ : List Sl} {l : Dl} {s : (List Nat) × Nat} {j : Nat}, l.length < sz → sbS j ρ mh (.lst []) (eSp s) (.own (.dct (eK eSp eL l))) = .ok ⟨ρ.set j (.own (.dct (eK eSp eL (pt s [] l)))), mh⟩ := fun {ρ l s j} hl => ins (w := []) hl
    have get : ∀ {l : Dl} {s : (List Nat) × Nat} {v : List ((List Nat) × Nat)}, lk s l = some v → idxD mh (.dct (eK eSp eL l)) (eSp s) = .ok (eL v) := fun {l s v} e => ofOk (Ok_idx_dct (e := eSp) (v := eL) (k := s) |>.mpr ⟨v, e, rfl⟩)
    have getP : ∀ {l : Dl} {x : (List Nat)} {y : Nat} {v : List ((List Nat) × Nat)}, lk (x, y) l = some v → idxD mh (.dct (eK eSp eL l)) (.tup [.str x, .int (y : Int)]) = .ok (eL v) := fun {l x y v} e => get (s := (x, y)) e
    have hsz : ∀ n : Nat, n ≤ 3000000 → n ≤ sz := fun n h => by unfold sz; omega
    have hsz' : ∀ n : Nat, n ≤ 3000000 → n < sz := fun n h => by unfold sz; omega
    refine for_inv (fun d s => ∃ (l : Dl) (x3 : Sl), s = ⟨[.val (eSto st), .own (.dct (eK eSp eL l)), .val (.lst ((allSp st).map eSp)), x3, .un, x5, x6, x7, .un, .un, x10, x11, x12, x13, .un], mh⟩ ∧ (∀ s ∈ d, lk s l = some []) ∧ (∀ s v, lk s l = some v → v = []) ∧ l.length ≤ d.length) ⟨[], .un, rfl, by simp, (fun s v e => by simp [lk] at e), by simp⟩ ?_ ?_
    · rintro d x r s e ⟨l, x3, rfl, h1, h2, h3⟩
      have hd : d.length ≤ 1002 := by
        rw [e, List.length_append] at hall
        omega
      simp_arith [ins0 (hsz' l.length (by omega)), List.length_nil]
      refine ⟨by decide, _, _, rfl, fun s hs => ?_, fun s v hv => ?_, ?_⟩
      · rw [lk_pt]
        split
        · rfl
        · rename_i hne
          rcases List.mem_append.mp hs with hs | hs
          · exact h1 s hs
          · exact absurd (List.mem_singleton.mp hs).symm hne
      · rw [lk_pt] at hv
        split at hv
        · cases hv; rfl
        · exact h2 s v hv
      · have := pt_len x ([] : List ((List Nat) × Nat)) l
        rw [List.length_append]; simp only [List.length_cons, List.length_nil]; omega
    · rintro s ⟨l, x3, rfl, h1, h2, h3⟩
      have hst : StpOk st l 0 := ⟨fun s hs => ⟨_, h1 s hs⟩, fun s v hv => by rw [h2 s v hv]; exact ⟨Nat.le_refl _, fun y hy => by cases hy⟩, Nat.le_trans h3 hall⟩
      simp_arith [w_lit]
      refine for_inv (fun d s => ∃ (l : Dl) (x3 x5 x6 x7 x10 x11 x12 x13 : Sl), s = ⟨[.val (eSto st), .own (.dct (eK eSp eL l)), .val (.lst ((allSp st).map eSp)), x3, .un, x5, x6, x7, .un, .un, x10, x11, x12, x13, .un], mh⟩ ∧ StpOk st l (2 * (spots d).length)) ⟨l, x3, x5, x6, x7, x10, x11, x12, x13, rfl, hst⟩ ?_ ?_
      · rintro d p r s e ⟨l, x3, x5, x6, x7, x10, x11, x12, x13, rfl, hl⟩
        have hp : p ∈ st := by rw [e]; simp
        have hpk := h.ok p hp
        simp_arith [ePa]
        refine for_inv (fun d' s => ∃ (l : Dl) (x3 x10 x11 x12 x13 : Sl), s = ⟨[.val (eSto st), .own (.dct (eK eSp eL l)), .val (.lst ((allSp st).map eSp)), x3, .un, .val (.str p.nm), .val (.tup (p.adds.map eAd)), .val (eSs p.bars), .un, .un, x10, x11, x12, x13, .un], mh⟩ ∧ StpOk st l (2 * ((spots d).length + d'.length))) ⟨l, x3, x10, x11, x12, x13, rfl, by simpa using hl⟩ ?_ ?_
        · rintro d' a r' s e' ⟨l, x3, x10, x11, x12, x13, rfl, hl⟩
          have ha : a ∈ p.adds := by rw [e']; simp
          have hak := hpk.adds a ha
          have hcl : (spots d).length + d'.length ≤ 1000 := by
            rw [e, spots_app, spots_cons, e', List.map_append, List.map_cons] at hlen
            simp only [List.length_append, List.length_cons, List.length_map] at hlen
            omega
          obtain ⟨v, hv⟩ := hl.has _ (own_in_all hp ha)
          have hvk := hl.ok _ v hv
          have hnam : ∀ s, s ∈ a.ah ∨ s ∈ a.be → s ∈ allSp st := fun s hs => h.in_all hp (List.mem_append_right _ (List.mem_flatMap.mpr ⟨a, ha, List.mem_append.mpr hs⟩))
          have hput := hl.put (d := 2 * ((spots d).length + d'.length) + 1) hv (w := a.be) (fun y hy => hnam y (.inr hy)) (by rw [hak.be]; exact Nat.le_refl _)
          obtain ⟨s1, es1, _⟩ := side_one hak.ah
          obtain ⟨v2, hv2⟩ := hput.has s1 (hnam s1 (.inl (by rw [es1]; simp)))
          have hv2k := hput.ok _ v2 hv2
          have hput2 := hput.put (d := 2 * ((spots d).length + (d' ++ [a]).length)) hv2 (w := [(p.nm, a.n)]) (fun y hy => by rw [List.mem_singleton.mp hy]; exact own_in_all hp ha) (by rw [List.length_append]; simp only [List.length_cons, List.length_nil]; omega)
          have e5 : v2.map eSp ++ [D.tup [.str p.nm, .int (a.n : Int)]] = (v2 ++ [(p.nm, a.n)]).map eSp := by rw [List.map_append]; rfl
          have hl1 : (pt (p.nm, a.n) (v ++ a.be) l).length < sz := hsz' _ (Nat.le_trans hput.len (by decide))
          have hl0 : l.length < sz := hsz' _ (Nat.le_trans hl.len (by decide))
          simp_arith [eAd, List.length_cons, List.length_nil, getP hv, ← List.map_append, insP hl0, List.length_map]
          refine ⟨by decide, hsz _ (by have := hak.be; omega), by decide, ?_⟩
          rw [es1]
          refine for_inv (en := eSp) (ys := [s1]) (fun d2 s => (d2 = [] ∧ s = ⟨[.val (eSto st), .own (.dct (eK eSp eL (pt (p.nm, a.n) (v ++ a.be) l))), .val (.lst ((allSp st).map eSp)), x3, .un, .val (.str p.nm), .val (.tup (p.adds.map eAd)), .val (eSs p.bars), .un, .un, .val (.int (a.n : Int)), .val (.str a.line), .val (eSs [s1]), .val (eSs a.be), .un], mh⟩) ∨ (d2 = [s1] ∧ s = ⟨[.val (eSto st), .own (.dct (eK eSp eL (pt s1 (v2 ++ [(p.nm, a.n)]) (pt (p.nm, a.n) (v ++ a.be) l)))), .val (.lst ((allSp st).map eSp)), .val (eSp s1), .un, .val (.str p.nm), .val (.tup (p.adds.map eAd)), .val (eSs p.bars), .un, .un, .val (.int (a.n : Int)), .val (.str a.line), .val (eSs [s1]), .val (eSs a.be), .un], mh⟩)) (.inl ⟨rfl, rfl⟩) ?_ ?_
          · rintro d2 y r2 s e2 hI
            have hd2 : d2 = [] ∧ y = s1 := by
              cases d2 with
              | nil => simp at e2; exact ⟨rfl, e2.1.symm⟩
              | cons z d2 =>
                exfalso
                have := congrArg List.length e2
                simp at this
            obtain ⟨rfl, rfl⟩ := hd2
            rcases hI with ⟨_, rfl⟩ | ⟨z, _⟩
            · simp_arith [get hv2, List.length_cons, List.length_nil, e5, ins hl1, List.length_map]
              exact ⟨by decide, by decide, hsz _ (by omega), .inr trivial⟩
            · cases z
          · rintro s hI
            rcases hI with ⟨z, _⟩ | ⟨_, rfl⟩
            · cases z
            · simp_arith [w_lit]
              exact ⟨_, _, _, _, _, _, rfl, hput2⟩
        · rintro s ⟨l, x3, x10, x11, x12, x13, rfl, hl⟩
          have es : (spots (d ++ [p])).length = (spots d).length + p.adds.length := by rw [spots_app, spots_cons]; simp [spots]
          simp_arith [w_lit]
          exact ⟨_, _, _, _, _, _, _, _, _, rfl, by rw [es]; exact hl⟩
      · rintro s ⟨l, x3, x5, x6, x7, x10, x11, x12, x13, rfl, hl⟩
        have hl : StpOk st l 2000 := hl.mono (by omega)
        clear hst h1 h2 h3
        simp_arith [w_lit]
        refine for_inv (fun d s => ∃ (l2 : Dl) (x3 x8 x9 x14 : Sl), s = ⟨[.val (eSto st), .own (.dct (eK eSp eL l)), .val (.lst ((allSp st).map eSp)), x3, .own (.dct (eK eSp eL l2)), x5, x6, x7, x8, x9, x10, x11, x12, x13, x14], mh⟩ ∧ (∀ s ∈ d, ∃ v, lk s l2 = some v ∧ v.length ≤ 1002) ∧ l2.length ≤ d.length) ⟨[], x3, .un, .un, .un, rfl, by simp, by simp⟩ ?_ ?_
        · rintro d x r s e ⟨l2, x3, x8, x9, x14, rfl, h1, h2⟩
          have hx : x ∈ allSp st := by rw [e]; simp
          have hd : d.length ≤ 1002 := by
            rw [e, List.length_append] at hall
            omega
          obtain ⟨v, hv⟩ := hl.has x hx
          have hvk := hl.ok _ v hv
          simp_arith [get hv, List.length_nil]
          refine ⟨by decide, ?_⟩
          have hf : ∀ y ∈ allSp st, ((lk y l).getD []).length ≤ 2000 := fun y hy => by
            obtain ⟨w, hw⟩ := hl.has y hy
            rw [hw]; exact (hl.ok _ w hw).1
          have hleft : ∀ F : List ((List Nat) × Nat), left (fun y => ((lk y l).getD []).length) (allSp st) F ≤ 2004000 := fun F => by
            have := left_le (F := F) hf
            omega
          refine wh_inv (fun m s => ∃ (F W : List ((List Nat) × Nat)) (x14 : Sl), m = W.length + left (fun y => ((lk y l).getD []).length) (allSp st) F ∧ m ≤ 2006000 ∧ (∀ y ∈ W, y ∈ allSp st) ∧ F.Nodup ∧ (∀ y ∈ F, y ∈ allSp st) ∧ s = ⟨[.val (eSto st), .own (.dct (eK eSp eL l)), .val (.lst ((allSp st).map eSp)), .val (eSp x), .own (.dct (eK eSp eL l2)), x5, x6, x7, .own (.lst (F.map eSp)), .own (.lst (W.map eSp)), x10, x11, x12, x13, x14], mh⟩) (n := v.length + left (fun y => ((lk y l).getD []).length) (allSp st) []) ⟨[], v, x14, rfl, by have := hleft []; omega, hvk.2, by simp, by simp, rfl⟩ ?_ ?_
          · have := hleft []
            omega
          · rintro m s ⟨F, W, x14, rfl, hm, hW, hFn, hFs, rfl⟩
            have hFl : F.length ≤ 1002 := Nat.le_trans (nodup_len hFn hFs) hall
            by_cases hWe : W = []
            · subst hWe
              simp_arith [List.length_nil, List.length_map]
              rw [if_neg (by decide)]
              simp_arith [ins (hsz' l2.length (by omega))]
              refine ⟨_, _, _, _, _, rfl, fun s hs => ?_, ?_⟩
              · rw [lk_pt]
                split
                · exact ⟨_, rfl, hFl⟩
                · rename_i hne
                  rcases List.mem_append.mp hs with hs | hs
                  · exact h1 s hs
                  · exact absurd (List.mem_singleton.mp hs).symm hne
              · have := pt_len x F l2
                rw [List.length_append]; simp only [List.length_cons, List.length_nil]; omega
            · obtain ⟨W, y, rfl⟩ := snoc_of hWe
              have hy := hW y (by simp)
              have e2 : (W ++ [y]).map eSp = W.map eSp ++ [eSp y] := by rw [List.map_append]; rfl
              have h0 : decide ((0 : Int) < ((W ++ [y]).length : Int)) = true := decide_eq_true (by rw [List.length_append]; simp only [List.length_cons, List.length_nil]; omega)
              have hm2 := hm
              rw [List.length_append] at hm2
              simp only [List.length_cons, List.length_nil] at hm2
              simp_arith [List.length_map]
              rw [if_pos h0]
              by_cases hin : y ∈ F
              · simp_arith [e2, En.nin_lst (e := eSp), hin]
                refine ⟨_, ?_, F, W, .val (eSp y), rfl, by omega, fun z hz => hW z (List.mem_append_left _ hz), hFn, hFs, rfl⟩
                rw [List.length_append]; simp only [List.length_cons, List.length_nil]; omega
              · obtain ⟨w, hw⟩ := hl.has y hy
                have hwk := hl.ok _ w hw
                have e3 : F.map eSp ++ [eSp y] = (F ++ [y]).map eSp := by rw [List.map_append]; rfl
                have hls := left_snoc (fun y => ((lk y l).getD []).length) (x := y) (F := F) (F' := F ++ [y]) (fun z => by simp) hin (all := allSp st) hy
                have hlw : ((lk y l).getD []).length = w.length := by rw [hw]; rfl
                simp only [hlw] at hls
                simp_arith [e2, En.nin_lst (e := eSp), hin, Ok_append, List.length_map, e3, get hw, ← List.map_append]
                refine ⟨hsz' _ (by omega), hsz _ (by omega), _, ?_, F ++ [y], W ++ w, .val (eSp y), rfl, ?_, ?_, ?_, ?_, rfl⟩
                · rw [List.length_append, List.length_append]; simp only [List.length_cons, List.length_nil]; omega
                · rw [List.length_append]; omega
                · intro z hz
                  rcases List.mem_append.mp hz with hz | hz
                  · exact hW z (List.mem_append_left _ hz)
                  · exact hwk.2 z hz
                · rw [List.nodup_append]
                  refine ⟨hFn, by simp, ?_⟩
                  rintro a ha b hb rfl
                  rw [List.mem_singleton] at hb
                  exact hin (hb ▸ ha)
                · intro z hz
                  rcases List.mem_append.mp hz with hz | hz
                  · exact hFs z hz
                  · rw [List.mem_singleton.mp hz]; exact hy
        · rintro s ⟨l2, x3, x8, x9, x14, rfl, h1, h2⟩
          obtain ⟨v, hv, hvl⟩ := h1 ([], 0) List.mem_cons_self
          have g0 : idxD mh (.dct (eK eSp eL l2)) (.tup [.str [], .int 0]) = .ok (eL v) := get (s := ([], 0)) hv
          have n1 : cmpD .nin (.tup [.str [], .int 1]) (eL v) = .ok (!decide ((([], 1) : (List Nat) × Nat) ∈ v)) := (En.nin_lst (e := eSp) ([], 1) v).trans (by congr)
          have hl2 : l2.length < sz := hsz' _ (by omega)
          have fin2 : ∀ w : List ((List Nat) × Nat), (∀ s ∈ allSp st, ∃ v, lk s (pt ([], 0) w l2) = some v) := fun w s hs => by
            rw [lk_pt]
            split
            · exact ⟨_, rfl⟩
            · obtain ⟨u, hu, _⟩ := h1 s hs
              exact ⟨u, hu⟩
          by_cases hm : (([], 1) : (List Nat) × Nat) ∈ v
          · have i0 : sbS 4 [.val (eSto st), .own (.dct (eK eSp eL l)), .val (.lst ((allSp st).map eSp)), x3, .own (.dct (eK eSp eL l2)), x5, x6, x7, x8, x9, x10, x11, x12, x13, x14] mh (.lst (v.map eSp)) (.tup [.str [], .int 0]) (.own (.dct (eK eSp eL l2))) = _ := ins (s := ([], 0)) (w := v) (j := 4) hl2
            simp_arith [List.length_cons, List.length_nil, g0, n1, hm, List.append_nil, i0]
            repeat (refine And.intro (by first | decide | exact hsz _ (by simp only [List.length_map]; omega)) ?_)
            exact ⟨_, fin2 _, rfl⟩
          · have i0 : sbS 4 [.val (eSto st), .own (.dct (eK eSp eL l)), .val (.lst ((allSp st).map eSp)), x3, .own (.dct (eK eSp eL l2)), x5, x6, x7, x8, x9, x10, x11, x12, x13, x14] mh (.lst (v.map eSp ++ [.tup [.str [], .int 1]])) (.tup [.str [], .int 0]) (.own (.dct (eK eSp eL l2))) = .ok ⟨[.val (eSto st), .own (.dct (eK eSp eL l)), .val (.lst ((allSp st).map eSp)), x3, .own (.dct (eK eSp eL (pt ([], 0) (v ++ [([], 1)]) l2))), x5, x6, x7, x8, x9, x10, x11, x12, x13, x14], mh⟩ := by
              have q := ins (ρ := [.val (eSto st), .own (.dct (eK eSp eL l)), .val (.lst ((allSp st).map eSp)), x3, .own (.dct (eK eSp eL l2)), x5, x6, x7, x8, x9, x10, x11, x12, x13, x14]) (s := ([], 0)) (w := v ++ [([], 1)]) (j := 4) hl2
              rw [List.map_append] at q
              exact q
            simp_arith [List.length_cons, List.length_nil, g0, n1, hm, i0]
            repeat (refine And.intro (by first | decide | exact hsz _ (by simp only [List.length_map]; omega)) ?_)
            exact ⟨_, fin2 _, rfl⟩
end

end Sk

end

section
set_option Elab.async false
set_option linter.all false
set_option maxRecDepth 100000
set_option maxHeartbeats 4000000
namespace Sk
open PySem
local macro_rules
  | `(tactic| simp_arith [$as,*]) => `(tactic| simp only [w_lit, w_var, w_tup, w_lst, w_dnew, w_bin, w_cmp, w_isnone, w_isinst, w_and, w_or, w_not, w_ife, w_idx, w_slc, w_rev, w_call, w_blt, w_meth, w_mut, w_rng, w_A0, w_A1, w_R0, w_R1, w_C0, w_C1, w_lcW, w_lc, w_lc2, w_dcW, w_dc, w_dvals, w_ex, w_asg, w_par, w_sub, w_ret, w_sif, w_whl, w_for, w_forF, w_pass, w_brk, w_cnt, w_B0, w_B1, w_test, w_iterR, ↓next_nx, ↓next_ret, ↓next_brk, ↓next_ct, ↓turn_nx, ↓turn_ct, ↓turn_brk, ↓turn_ret, ↓fin_ret, ↓fin_nx, Ok_ok, Ok_er, slotAt_mk, List.getD_cons_succ, List.getD_cons_zero, List.set_cons_succ, List.set_cons_zero, List.cons_append, List.nil_append, List.append_nil, List.replicate, List.foldl, varR_val, varR_own, varR_bor, peek_val, peek_own, peek_bor, peekS_val, peekS_own, peekS_bor, freeze_val, freeze_own, freeze_bor, frzS_own, frzS_val, iterF_val, iterF_own, iterF_bor, itfS_own, itfS_val, itfS_bor, asgR_val, asgR_own, asgR_bor, agS_val, agS_own, agS_bor, asgR_tp, asgD_nm, asgD_tp, asgAll_nil, asgAll_cons, wipeS_mk, backS_mk, toSls0, Ok_toSls1, toSl_val, toSl_own, toSl_bor, tslS_val, tslS_own, tslS_bor, esc_pg, cxF_call, cxF_N, outR_val, outR_own, outR_bor, outS_val, outS_own, content_val, content_own, content_bor, Option.isSome_some, valR_val, ownL_own, ownK_own, noBor_val, noBor_own, add_int, sub_int, len_lst, len_tup, len_dct, int_int, list_lst, list_tup, tuple_lst, tuple_tup, ord_str, itemsC_lst, itemsC_tup, itemsD_lst, itemsD_tup, itemsD_str, eq_int, ne_int, lt_int, gt_int, le_int, ge_int, truth_bl, truth_lst, truth_tup, part_non, part_int, Ok_md, Ok_fdiv, Ok_mul, Ok_idx_lst, Ok_idx_tup, Ok_idx_str, Ok_listr, isE_map, isE_snoc, subW_mk, Ok_sortset, atI0, atI1, atI2, atI3, cutD_to, cutD_from, eq_str, ne_str, decide_true, decide_false, Option.map_some, Option.map_none, pop_snoc, Ok_add_str, Ok_add_tup, Ok_add_lst, Ok_len_str, Ok_rng1, Ok_rng2, Ok_append, Ok_extendL, Ok_extendT, slc_tup, slc_lst, Ok_slc_str, still_val, rev_lst, if_true, if_false, ite_true, ite_false, Bool.false_eq_true, if_true', reduceIte, true_and, and_true, Bool.not_true, Bool.not_false, Bool.not_not, exists_eq_left', exists_eq_left, Option.some.injEq, $as,*])
/-! SpS: alive spots, rows, texts of a store. -/
def bars (st : List Pa) : List ((List Nat) × Nat) := st.flatMap (·.bars)
def alive (st : List Pa) : List ((List Nat) × Nat) := sortE eSp ((spots st).filter fun s => !decide (s ∈ bars st))
section
variable {N k : Nat} {mh : MH} {st : List Pa} {c : Nat}
theorem alive_sub {s : (List Nat) × Nat} (h : s ∈ alive st) : s ∈ spots st := (List.mem_filter.mp (mem_sortE.mp h)).1
theorem alive_len (h : SOk st c) : (alive st).length ≤ c := by
  rw [alive, sortE_len]
  exact Nat.le_trans (List.length_filter_le _ _) h.len
theorem alive_all {s : (List Nat) × Nat} (h : s ∈ alive st) : s ∈ allSp st := List.mem_cons_of_mem _ (List.mem_cons_of_mem _ (alive_sub h))
theorem bars_len (h : SOk st c) : (bars st).length ≤ 15000 := by
  have : ∀ l : List Pa, (∀ p ∈ l, PaOk p) → (bars l).length ≤ 1000 * l.length := by
    intro l
    induction l with
    | nil => intro _; simp [bars]
    | cons p l ih =>
      intro hl
      have h1 := ih fun q hq => hl q (List.mem_cons_of_mem _ hq)
      have h2 := (hl p (List.mem_cons_self ..)).lb
      unfold bars at h1 ⊢
      rw [List.flatMap_cons, List.length_append, List.length_cons]
      omega
  have h1 := this st h.ok
  have := h.sl
  omega
theorem bars_app (a b : List Pa) : bars (a ++ b) = bars a ++ bars b := List.flatMap_append
theorem e_law_alive (h : SOk st c) (hc : c ≤ 1000) : evF pg N (k + 1) i__law_alive [.val (eSto st)] mh = .ok (.own (.lst ((alive st).map eSp)), mh) := by
  have hlen := h.len
  have hbl := bars_len h
  have hsz : ∀ n : Nat, n ≤ 3000000 → n ≤ sz := fun n h => by unfold sz; omega
  refine ofOk (w_F pg__law_alive rfl (by decide) ?_)
  simp_arith [d__law_alive, List.length_nil]
  refine ⟨by decide, by decide, ?_⟩
  refine for_inv (fun d s => ∃ a b e, s = ⟨[.val (eSto st), .own (.lst ((bars d).map eSp)), .own (.lst ((spots d).map eSp)), a, b, e, .un, .un], mh⟩) ⟨.un, .un, .un, rfl⟩ ?_ ?_
  · rintro d p r s e ⟨a, b, e', rfl⟩
    have h1 : (bars (d ++ [p])).length ≤ 15000 := by
      have : (bars st).length = (bars (d ++ [p])).length + (bars r).length := by rw [← List.length_append, ← bars_app, e]; simp
      omega
    have h2 : (spots (d ++ [p])).length ≤ 1000 := by
      have : (spots st).length = (spots (d ++ [p])).length + (spots r).length := by rw [← List.length_append, ← spots_app, e]; simp
      omega
    have e1 : (bars d).map eSp ++ p.bars.map eSp = (bars (d ++ [p])).map eSp := by rw [bars_app, List.map_append]; simp [bars]
    have e2 : (spots d).map eSp ++ (p.adds.map fun a => (p.nm, a.n)).map eSp = (spots (d ++ [p])).map eSp := by rw [spots_app, spots_cons, List.map_append]; simp [spots]
    have l1 : (bars (d ++ [p])).length = (bars d).length + p.bars.length := by rw [bars_app, List.length_append]; simp [bars]
    have l2 : (spots (d ++ [p])).length = (spots d).length + p.adds.length := by rw [spots_app, spots_cons]; simp [spots]
    simp_arith [ePa, e1, List.length_map]
    refine ⟨hsz _ (by omega), ?_⟩
    refine lc_mp (em := eSp) (fun a => (p.nm, a.n)) (fun a ha => ?_) ?_
    · simp_arith [eAd, List.length_cons, List.length_nil]
      decide
    · simp_arith [e2, List.length_map]
      exact ⟨hsz _ (by omega), _, _, _, rfl⟩
  · rintro s ⟨a, b, e', rfl⟩
    simp_arith [w_lit]
    refine lc_fl (fun s => !decide (s ∈ bars st)) (fun s hs => ?_) ?_
    · by_cases hm : s ∈ bars st
      · simp_arith [En.nin_lst (e := eSp), hm]
      · simp_arith [En.nin_lst (e := eSp), hm]
    · simp_arith [sorted_lst]
      rfl
theorem fm_filter {α : Type} (t : α → Prop) [DecidablePred t] : ∀ l : List α, l.filterMap (fun p => if t p then some p else none) = l.filter fun p => decide (t p)
  | [] => rfl
  | p :: l => by
    rw [List.filterMap_cons, List.filter_cons, fm_filter t l]
    by_cases h : t p <;> simp [h]
theorem i_sp0 {mh : MH} {s : (List Nat) × Nat} : idxD mh (eSp s) (.int 0) = .ok (.str s.1) := by
  unfold eSp
  simp only [idxD, atI0]
theorem i_sp1 {mh : MH} {s : (List Nat) × Nat} : idxD mh (eSp s) (.int 1) = .ok (.int (s.2 : Int)) := by
  unfold eSp
  simp only [idxD, atI1]
theorem sp_law_line (h : SOk st c) {s : (List Nat) × Nat} (hs : s ∈ spots st) : Ok (evF pg N (k + 1) i__law_line [.val (eSto st), .val (eSp s)] mh) fun p => ∃ x ∈ lineTexts, p = (.val (.str x), mh) := by
  obtain ⟨q, hq, a, ha, rfl⟩ := mem_spots.mp hs
  obtain ⟨q', hq', e, hfind⟩ := find_pa h (x := q.nm) (List.mem_map.mpr ⟨q, hq, rfl⟩)
  have := nm_inj h.nd hq' hq e
  subst this
  refine w_F pg__law_line rfl (by decide) ?_
  simp_arith [d__law_line]
  refine lc_fm (em := fun p : Pa => .tup (p.adds.map eAd)) (fun p => if p.nm = q'.nm then some p else none) (fun p hp => ?_) ?_
  · simp_arith [ePa, i_sp0]
    by_cases e : p.nm = q'.nm
    · simp_arith [e]
    · simp_arith [e]
  have e1 : st.filterMap (fun p => if p.nm = q'.nm then some p else none) = [q'] := by
    rw [← hfind, fm_filter]
  rw [e1]
  simp_arith [List.map_cons, List.map_nil]
  refine lc_fm (em := D.str) (fun b => if b.n = a.n then some b.line else none) (fun b hb => ?_) ?_
  · simp_arith [eAd, i_sp1]
    by_cases e : b.n = a.n
    · simp_arith [e]
    · have : ¬ ((b.n : Int) = (a.n : Int)) := fun z => e (by omega)
      simp_arith [e, this]
  have hne : ∃ x l, q'.adds.filterMap (fun b => if b.n = a.n then some b.line else none) = x :: l ∧ x ∈ lineTexts := by
    have h1 : a.line ∈ q'.adds.filterMap (fun b => if b.n = a.n then some b.line else none) := List.mem_filterMap.mpr ⟨a, ha, if_pos rfl⟩
    cases el : q'.adds.filterMap (fun b => if b.n = a.n then some b.line else none) with
    | nil => rw [el] at h1; cases h1
    | cons x l =>
      refine ⟨x, l, rfl, ?_⟩
      have h2 : x ∈ q'.adds.filterMap (fun b => if b.n = a.n then some b.line else none) := by rw [el]; exact List.mem_cons_self
      obtain ⟨b, hb, e⟩ := List.mem_filterMap.mp h2
      split at e
      · cases e
        exact h.lt q' hq' b hb
      · cases e
  obtain ⟨x, l, e2, hx⟩ := hne
  rw [e2]
  simp_arith [List.map_cons]
  exact ⟨x, hx, rfl⟩
theorem in_eL {s : (List Nat) × Nat} {v : List ((List Nat) × Nat)} : cmpD .inn (eSp s) (.lst (v.map eSp)) = .ok (decide (s ∈ v)) := (En.in_lst (e := eSp) s v).trans (by congr)
theorem nin_eL {s : (List Nat) × Nat} {v : List ((List Nat) × Nat)} : cmpD .nin (eSp s) (.lst (v.map eSp)) = .ok (!decide (s ∈ v)) := (En.nin_lst (e := eSp) s v).trans (by congr)
theorem get_eL {l : Dl} {s : (List Nat) × Nat} {v : List ((List Nat) × Nat)} (e : lk s l = some v) : idxD mh (.dct (eK eSp eL l)) (eSp s) = .ok (.lst (v.map eSp)) := ofOk (Ok_idx_dct (e := eSp) (v := eL) (k := s) |>.mpr ⟨v, e, rfl⟩)
theorem sp_law_odds (h : SOk st c) (hc : c ≤ 1000) (hN : 3000000 < N) : Ok (evF pg N (k + 2) i__law_odds [.val (eSto st)] mh) fun p => ∃ d : D, p = (.val d, mh) := by
  refine w_F pg__law_odds rfl (by decide) ?_
  simp_arith [d__law_odds]
  refine (sp_law_order h hc hN).mono ?_
  rintro _ ⟨l, hl, rfl⟩
  simp_arith [e_law_alive h hc]
  refine for_inv (fun d s => ∃ a b, s = ⟨[.val (eSto st), .own (.dct (eK eSp eL l)), .val (.lst ((alive st).map eSp)), a, b], mh⟩) ⟨.un, .un, rfl⟩ ?_ ?_
  · rintro d x r s e ⟨a, b, rfl⟩
    have hx : x ∈ alive st := by rw [e]; simp
    obtain ⟨v, hv⟩ := hl x (alive_all hx)
    simp_arith [w_lit]
    refine for_inv (fun d s => ∃ b, s = ⟨[.val (eSto st), .own (.dct (eK eSp eL l)), .val (.lst ((alive st).map eSp)), .val (eSp x), b], mh⟩) ⟨b, rfl⟩ ?_ ?_
    · rintro d y r s e ⟨b, rfl⟩
      have hy : y ∈ alive st := by rw [e]; simp
      obtain ⟨w, hw⟩ := hl y (alive_all hy)
      simp_arith [En.cmp_lt (e := eSp)]
      cases ltE eSp x y with
      | false => simp_arith [w_lit]; exact ⟨_, rfl⟩
      | true =>
        simp_arith [get_eL hv, nin_eL]
        by_cases h1 : y ∈ v
        · simp_arith [h1]; exact ⟨_, rfl⟩
        · simp_arith [h1, get_eL hw, nin_eL]
          by_cases h2 : x ∈ w
          · simp_arith [h2]; exact ⟨_, rfl⟩
          · simp_arith [h2, List.length_cons, List.length_nil]
            exact ⟨by decide, _, rfl⟩
    · rintro s ⟨b, rfl⟩
      simp_arith [w_lit]
      exact ⟨_, _, rfl⟩
  · rintro s ⟨a, b, rfl⟩
    simp_arith [w_lit]
    exact ⟨_, rfl⟩
def eRk (r : Int × ((List Nat) × Nat)) : D := .tup [.int r.1, eSp r.2]
instance : En eRk := ⟨.prod [.int, kSp], fun _ => rfl, fun a b h => by
  cases a; cases b
  simp only [eRk, D.tup.injEq, List.cons.injEq, D.int.injEq, and_true] at h
  exact Prod.ext h.1 (eSp_inj _ _ (by simpa [eSp] using h.2)), by decide⟩
instance : EnS eRk := ⟨.inl fun _ => rfl⟩
theorem sp_law_row (h : SOk st c) (hc : c ≤ 1000) (hN : 3000000 < N) : Ok (evF pg N (k + 2) i__law_row [.val (eSto st)] mh) fun p => ∃ r : List ((List Nat) × Nat), r.Perm (alive st) ∧ p = (.own (.lst (r.map eSp)), mh) := by
  refine w_F pg__law_row rfl (by decide) ?_
  simp_arith [d__law_row]
  refine (sp_law_order h hc hN).mono ?_
  rintro _ ⟨l, hl, rfl⟩
  simp_arith [e_law_alive h hc]
  refine lc_mp (em := eRk) (fun s => ((((alive st).filter fun y => decide (s ∈ (lk y l).getD [])).length : Int), s)) (fun s hs => ?_) ?_
  · simp_arith [w_lit]
    refine lc_fl (fun y => decide (s ∈ (lk y l).getD [])) (fun y hy => ?_) ?_
    · obtain ⟨w, hw⟩ := hl y (alive_all hy)
      by_cases hm : s ∈ w
      · simp_arith [get_eL hw, in_eL, hm, hw, Option.getD_some]
      · simp_arith [get_eL hw, in_eL, hm, hw, Option.getD_some]
    · simp_arith [List.length_cons, List.length_nil, List.length_map]
      exact ⟨by decide, rfl⟩
  simp_arith [sorted_lst]
  refine lc_mp (em := eSp) (fun r => r.2) (fun r hr => ?_) ?_
  · simp_arith [eRk]
  simp_arith [w_lit]
  refine ⟨_, ?_, rfl⟩
  have hp := (sortE_perm (e := eRk) ((alive st).map fun s => ((((alive st).filter fun y => decide (s ∈ (lk y l).getD [])).length : Int), s))).map (·.2)
  rw [List.map_map] at hp
  refine hp.trans ?_
  have e : (alive st).map ((·.2) ∘ fun s => ((((alive st).filter fun y => decide (s ∈ (lk y l).getD [])).length : Int), s)) = alive st := List.map_id' _
  rw [e]
theorem sp_law_text_of (h : SOk st c) (hc : c ≤ 1000) (hN : 3000000 < N) : Ok (evF pg N (k + 3) i__law_text_of [.val (eSto st)] mh) fun p => ∃ xs : List (List Nat), xs.length = (alive st).length ∧ LT xs ∧ p = (.val (.tup (xs.map .str)), mh) := by
  refine w_F pg__law_text_of rfl (by decide) ?_
  simp_arith [d__law_text_of]
  refine (sp_law_row h hc hN).mono ?_
  rintro _ ⟨r, hr, rfl⟩
  simp_arith [w_lit]
  refine lc_inv (fun d a s => ∃ xs : List (List Nat), a = xs.map .str ∧ xs.length = d.length ∧ LT xs ∧ s = ⟨[.val (eSto st), .un], mh⟩) ⟨[], rfl, rfl, (fun x hx => by cases hx), rfl⟩ ?_ ?_
  · rintro d x r' a s e ⟨xs, rfl, hxl, hx, rfl⟩
    have hxm : x ∈ spots st := alive_sub (hr.mem_iff.mp (by rw [e]; simp))
    simp_arith [w_lit]
    refine (sp_law_line h hxm).mono ?_
    rintro _ ⟨y, hy, rfl⟩
    simp_arith [w_lit]
    exact ⟨xs ++ [y], by simp, by simp [hxl], LT.app hx (LT.one hy)⟩
  · rintro a s ⟨xs, rfl, hxl, hx, rfl⟩
    simp_arith [w_lit]
    exact ⟨xs, by rw [hxl]; exact hr.length_eq, hx, rfl⟩
end

end Sk

end

section
set_option Elab.async false
set_option linter.all false
set_option maxRecDepth 100000
set_option maxHeartbeats 4000000
namespace Sk
open PySem
local macro_rules
  | `(tactic| simp_arith [$as,*]) => `(tactic| simp only [w_lit, w_var, w_tup, w_lst, w_dnew, w_bin, w_cmp, w_isnone, w_isinst, w_and, w_or, w_not, w_ife, w_idx, w_slc, w_rev, w_call, w_blt, w_meth, w_mut, w_rng, w_A0, w_A1, w_R0, w_R1, w_C0, w_C1, w_lcW, w_lc, w_lc2, w_dcW, w_dc, w_dvals, w_ex, w_asg, w_par, w_sub, w_ret, w_sif, w_whl, w_for, w_forF, w_pass, w_brk, w_cnt, w_B0, w_B1, w_test, w_iterR, ↓next_nx, ↓next_ret, ↓next_brk, ↓next_ct, ↓turn_nx, ↓turn_ct, ↓turn_brk, ↓turn_ret, ↓fin_ret, ↓fin_nx, Ok_ok, Ok_er, slotAt_mk, List.getD_cons_succ, List.getD_cons_zero, List.set_cons_succ, List.set_cons_zero, List.cons_append, List.nil_append, List.append_nil, List.replicate, List.foldl, varR_val, varR_own, varR_bor, peek_val, peek_own, peek_bor, peekS_val, peekS_own, peekS_bor, freeze_val, freeze_own, freeze_bor, frzS_own, frzS_val, iterF_val, iterF_own, iterF_bor, itfS_own, itfS_val, itfS_bor, asgR_val, asgR_own, asgR_bor, agS_val, agS_own, agS_bor, asgR_tp, asgD_nm, asgD_tp, asgAll_nil, asgAll_cons, wipeS_mk, backS_mk, toSls0, Ok_toSls1, toSl_val, toSl_own, toSl_bor, tslS_val, tslS_own, tslS_bor, esc_pg, cxF_call, cxF_N, outR_val, outR_own, outR_bor, outS_val, outS_own, content_val, content_own, content_bor, Option.isSome_some, valR_val, ownL_own, ownK_own, noBor_val, noBor_own, add_int, sub_int, len_lst, len_tup, len_dct, int_int, list_lst, list_tup, tuple_lst, tuple_tup, ord_str, itemsC_lst, itemsC_tup, itemsD_lst, itemsD_tup, itemsD_str, eq_int, ne_int, lt_int, gt_int, le_int, ge_int, truth_bl, truth_lst, truth_tup, part_non, part_int, Ok_md, Ok_fdiv, Ok_mul, Ok_idx_lst, Ok_idx_tup, Ok_idx_str, Ok_listr, isE_map, isE_snoc, subW_mk, Ok_sortset, atI0, atI1, atI2, atI3, cutD_to, cutD_from, eq_str, ne_str, decide_true, decide_false, Option.map_some, Option.map_none, pop_snoc, Ok_add_str, Ok_add_tup, Ok_add_lst, Ok_len_str, Ok_rng1, Ok_rng2, Ok_append, Ok_extendL, Ok_extendT, slc_tup, slc_lst, Ok_slc_str, still_val, rev_lst, if_true, if_false, ite_true, ite_false, Bool.false_eq_true, if_true', reduceIte, true_and, and_true, Bool.not_true, Bool.not_false, Bool.not_not, exists_eq_left', exists_eq_left, Option.some.injEq, $as,*])
/-! SpT: what two texts keep. -/
abbrev eIj (q : Nat × Nat) : D := .tup [.int (q.1 : Int), .int (q.2 : Int)]
theorem eIj_inj (a b : Nat × Nat) (h : eIj a = eIj b) : a = b := by
  cases a; cases b
  simp only [eIj, D.tup.injEq, List.cons.injEq, D.int.injEq, and_true] at h
  exact Prod.ext (by have := h.1; omega) (by have := h.2; omega)
instance : Ky eIj := ⟨fun a b => by
  constructor
  · intro h
    have h1 : atomsEq [.int (a.1 : Int), .int (a.2 : Int)] [.int (b.1 : Int), .int (b.2 : Int)] = true := h
    simp only [atomsEq, atomEq, Bool.and_true, Bool.and_eq_true, beq_iff_eq] at h1
    exact Prod.ext (by have := h1.1; omega) (by have := h1.2; omega)
  · rintro rfl
    show atomsEq [.int (a.1 : Int), .int (a.2 : Int)] [.int (a.1 : Int), .int (a.2 : Int)] = true
    simp [atomsEq, atomEq], .inr fun _ => ⟨rfl, rfl⟩⟩
abbrev eP2 (l : List (Nat × Nat)) : D := .tup (l.map eIj)
def eMr (r : Int × List (Nat × Nat)) : D := .tup [.int r.1, eP2 r.2]
instance : En eMr := ⟨.prod [.int, .all (.prod [.int, .int])], fun a => by
  simp only [eMr, Kd.has, Kd.hass, Bool.and_true, Bool.true_and, eP2]
  simp only [List.all_map, List.all_eq_true]
  exact fun _ _ => rfl, fun a b h => by
  cases a; cases b
  simp only [eMr, D.tup.injEq, List.cons.injEq, D.int.injEq, and_true] at h
  exact Prod.ext h.1 (map_inj eIj_inj h.2), by decide⟩
theorem minE {α : Type} {e : α → D} : ∀ (a : α) (l : List α), ∃ b ∈ a :: l, minD (e a) (l.map e) = e b
  | a, [] => ⟨a, List.mem_cons_self, rfl⟩
  | a, x :: l => by
    rw [List.map_cons, minD]
    by_cases h : ltD (e x) (e a) = true
    · rw [if_pos h]
      obtain ⟨b, hb, eb⟩ := minE (e := e) x l
      exact ⟨b, List.mem_cons_of_mem _ hb, eb⟩
    · rw [if_neg h]
      obtain ⟨b, hb, eb⟩ := minE (e := e) a l
      refine ⟨b, ?_, eb⟩
      rcases List.mem_cons.mp hb with rfl | hb
      · exact List.mem_cons_self
      · exact List.mem_cons_of_mem _ (List.mem_cons_of_mem _ hb)
theorem min_lst {α : Type} {e : α → D} [En e] {mh : MH} {a : α} {l : List α} : ∃ b ∈ a :: l, bltM mh .min (.lst ((a :: l).map e)) = .ok (.val (e b)) := by
  obtain ⟨b, hb, eb⟩ := minE (e := e) a l
  refine ⟨b, hb, ?_⟩
  have h := En.okSort (e := e) (a :: l)
  rw [List.map_cons] at h ⊢
  simp only [bltM, bltD, h, if_true, eb]
theorem rev_ahead {n i : Nat} {d r : List Nat} (e : (List.range (n + 1)).reverse = d ++ i :: r) : i ≤ n ∧ d.length ≤ n ∧ (i < n → i + 1 ∈ d) := by
  have hp : ((List.range (n + 1)).reverse).Pairwise fun a b => b < a := by
    rw [List.pairwise_reverse]
    exact List.pairwise_lt_range
  have hi : i ∈ (List.range (n + 1)).reverse := by rw [e]; simp
  have hi' : i ≤ n := by
    have := List.mem_range.mp (List.mem_reverse.mp hi)
    omega
  refine ⟨hi', ?_, fun h => ?_⟩
  · have := congrArg List.length e
    rw [List.length_reverse, List.length_range, List.length_append, List.length_cons] at this
    omega
  · have hm : i + 1 ∈ (List.range (n + 1)).reverse := List.mem_reverse.mpr (List.mem_range.mpr (by omega))
    rw [e] at hp hm
    rcases List.mem_append.mp hm with hm | hm
    · exact hm
    · have h2 := (List.pairwise_append.mp hp).2.1
      rw [List.pairwise_cons] at h2
      rcases List.mem_cons.mp hm with hm | hm
      · omega
      · have := h2.1 _ hm
        omega
theorem rev_in {n i : Nat} : i ∈ (List.range (n + 1)).reverse ↔ i ≤ n := by
  rw [List.mem_reverse, List.mem_range]; omega
abbrev Bl := List ((Nat × Nat) × List (Nat × Nat))
/-- what the table has at a place -/
def At (n : Nat) (l : Bl) (i j : Nat) : Prop := ∃ v, lk (i, j) l = some v ∧ v.length ≤ n - i ∧ ∀ q ∈ v, q.1 < n
theorem At.put {n : Nat} {l : Bl} {i j i' j' : Nat} {w : List (Nat × Nat)} (h : At n l i j) (hl : w.length ≤ n - i') (hw : ∀ q ∈ w, q.1 < n) : At n (pt (i', j') w l) i j := by
  obtain ⟨v, h1, h2, h3⟩ := h
  by_cases e : (i', j') = (i, j)
  · cases e
    exact ⟨w, by rw [lk_pt, if_pos rfl], hl, hw⟩
  · exact ⟨v, by rw [lk_pt, if_neg e]; exact h1, h2, h3⟩
theorem At.new {n : Nat} {l : Bl} {i j : Nat} {w : List (Nat × Nat)} (hl : w.length ≤ n - i) (hw : ∀ q ∈ w, q.1 < n) : At n (pt (i, j) w l) i j := ⟨w, by rw [lk_pt, if_pos rfl], hl, hw⟩
section
variable {N k : Nat} {mh : MH}
theorem sp_law_keeping {f g : List (List Nat)} (hf : f.length ≤ 1000) (hg : g.length ≤ 1100) : Ok (evF pg N (k + 1) i__law_keeping [.val (.tup (f.map .str)), .val (.tup (g.map .str))] mh) fun p => ∃ v : List (Nat × Nat), (∀ q ∈ v, q.1 < f.length) ∧ v.length ≤ f.length ∧ p = (.val (eP2 v), mh) := by
  have ef : ((f.length : Int) + 1).toNat = f.length + 1 := by omega
  have eg : ((g.length : Int) + 1).toNat = g.length + 1 := by omega
  have hsz : ∀ n : Nat, n ≤ 3000000 → n ≤ sz := fun n h => by unfold sz; omega
  have ins : ∀ {ρ : List Sl} {l : Bl} {x y : Nat} {w : List (Nat × Nat)} {j : Nat}, l.length < sz → sbS j ρ mh (.tup (w.map eIj)) (.tup [.int (x : Int), .int (y : Int)]) (.own (.dct (eK eIj eP2 l))) = .ok ⟨ρ.set j (.own (.dct (eK eIj eP2 (pt (x, y) w l)))), mh⟩ := fun {ρ l x y w j} hl => ofOk (Ok_sbS (e := eIj) (v := eP2) (x := w) (k := (x, y)) |>.mpr ⟨hl, rfl⟩)
  have ins0 : ∀ {ρ : List Sl} {l : Bl} {x y : Nat} {j : Nat}, l.length < sz → sbS j ρ mh (.tup []) (.tup [.int (x : Int), .int (y : Int)]) (.own (.dct (eK eIj eP2 l))) = .ok ⟨ρ.set j (.own (.dct (eK eIj eP2 (pt (x, y) [] l)))), mh⟩ := fun {ρ l x y j} hl => ins (w := []) hl
  have get : ∀ {l : Bl} {x y : Nat} {v : List (Nat × Nat)}, lk (x, y) l = some v → idxD mh (.dct (eK eIj eP2 l)) (.tup [.int (x : Int), .int (y : Int)]) = .ok (.tup (v.map eIj)) := fun {l x y v} e => ofOk (Ok_idx_dct (e := eIj) (v := eP2) (k := (x, y)) |>.mpr ⟨v, e, rfl⟩)
  have get1 : ∀ {l : Bl} {x y : Nat} {v : List (Nat × Nat)}, lk (x + 1, y) l = some v → idxD mh (.dct (eK eIj eP2 l)) (.tup [.int ((x : Int) + 1), .int (y : Int)]) = .ok (.tup (v.map eIj)) := fun {l x y v} e => get (x := x + 1) e
  have get2 : ∀ {l : Bl} {x y : Nat} {v : List (Nat × Nat)}, lk (x, y + 1) l = some v → idxD mh (.dct (eK eIj eP2 l)) (.tup [.int (x : Int), .int ((y : Int) + 1)]) = .ok (.tup (v.map eIj)) := fun {l x y v} e => get (y := y + 1) e
  have get3 : ∀ {l : Bl} {x y : Nat} {v : List (Nat × Nat)}, lk (x + 1, y + 1) l = some v → idxD mh (.dct (eK eIj eP2 l)) (.tup [.int ((x : Int) + 1), .int ((y : Int) + 1)]) = .ok (.tup (v.map eIj)) := fun {l x y v} e => get (x := x + 1) (y := y + 1) e
  refine w_F pg__law_keeping rfl (by decide) ?_
  simp_arith [d__law_keeping, List.length_map, ef, List.length_range, ← List.map_reverse]
  refine ⟨by omega, hsz _ (by omega), ?_⟩
  refine for_inv (fun d s => ∃ (l : Bl) (x3 x4 x5 : Sl), s = ⟨[.val (.tup (f.map .str)), .val (.tup (g.map .str)), .own (.dct (eK eIj eP2 l)), x3, x4, x5, .un], mh⟩ ∧ (∀ i ∈ d, ∀ j ≤ g.length, At f.length l i j) ∧ l.length ≤ d.length * (g.length + 1)) ⟨[], .un, .un, .un, rfl, (fun i hi => by cases hi), by simp⟩ ?_ ?_
  · rintro d i r s e ⟨l, x3, x4, x5, rfl, h1, h2⟩
    obtain ⟨hi, hdl, hnext⟩ := rev_ahead e
    simp_arith [List.length_map, eg, List.length_range, ← List.map_reverse]
    refine ⟨by omega, hsz _ (by omega), ?_⟩
    refine for_inv (fun d' s => ∃ (l : Bl) (x4 x5 : Sl), s = ⟨[.val (.tup (f.map .str)), .val (.tup (g.map .str)), .own (.dct (eK eIj eP2 l)), .val (.int (i : Int)), x4, x5, .un], mh⟩ ∧ (∀ i ∈ d, ∀ j ≤ g.length, At f.length l i j) ∧ (∀ j ∈ d', At f.length l i j) ∧ l.length ≤ d.length * (g.length + 1) + d'.length) ⟨l, x4, x5, rfl, h1, (fun j hj => by cases hj), h2⟩ ?_ ?_
    · rintro d' j r' s e' ⟨l, x4, x5, rfl, h1, h2, h3⟩
      obtain ⟨hj, hdl', hnext'⟩ := rev_ahead e'
      have hll : l.length ≤ 2000000 := by
        have : d.length * (g.length + 1) ≤ 1000 * 1101 := Nat.mul_le_mul (by omega) (by omega)
        omega
      have hl1 : l.length < sz := by unfold sz; omega
      have fin : ∀ {w : List (Nat × Nat)}, w.length ≤ f.length - i → (∀ q ∈ w, q.1 < f.length) → (∀ i ∈ d, ∀ j ≤ g.length, At f.length (pt (i, j) w l) i j) → True := fun _ _ _ => trivial
      have done : ∀ {w : List (Nat × Nat)}, w.length ≤ f.length - i → (∀ q ∈ w, q.1 < f.length) → (∀ i' ∈ d, ∀ j' ≤ g.length, At f.length (pt (i, j) w l) i' j') ∧ (∀ j' ∈ d' ++ [j], At f.length (pt (i, j) w l) i j') ∧ (pt (i, j) w l).length ≤ d.length * (g.length + 1) + (d' ++ [j]).length := fun {w} hw1 hw2 => by
        refine ⟨fun i' hi' j' hj' => (h1 i' hi' j' hj').put hw1 hw2, fun j' hj' => ?_, ?_⟩
        · rcases List.mem_append.mp hj' with hj' | hj'
          · exact (h2 j' hj').put hw1 hw2
          · rw [List.mem_singleton.mp hj']; exact .new hw1 hw2
        · have := pt_len (i, j) w l
          rw [List.length_append]; simp only [List.length_cons, List.length_nil]; omega
      by_cases hin : i = f.length
      · have c1 : decide ((i : Int) = (f.length : Int)) = true := decide_eq_true (by omega)
        simp_arith [List.length_map, c1, List.length_nil, List.length_cons, ins0 hl1]
        obtain ⟨q1, q2, q3⟩ := done (w := []) (by simp) (by simp)
        exact ⟨by decide, by decide, _, _, _, rfl, q1, q2, q3⟩
      · have c1 : decide ((i : Int) = (f.length : Int)) = false := decide_eq_false (by omega)
        by_cases hjn : j = g.length
        · have c2 : decide ((j : Int) = (g.length : Int)) = true := decide_eq_true (by omega)
          simp_arith [List.length_map, c1, c2, List.length_nil, List.length_cons, ins0 hl1]
          obtain ⟨q1, q2, q3⟩ := done (w := []) (by simp) (by simp)
          exact ⟨by decide, by decide, _, _, _, rfl, q1, q2, q3⟩
        · have c2 : decide ((j : Int) = (g.length : Int)) = false := decide_eq_false (by omega)
          have hi1 : i < f.length := by omega
          have hj1 : j < g.length := by omega
          obtain ⟨v1, a1, b1, d1⟩ := h1 (i + 1) (hnext hi1) j (by omega)
          obtain ⟨v2, a2, b2, d2⟩ := h2 (j + 1) (hnext' hj1)
          obtain ⟨v3, a3, b3, d3⟩ := h1 (i + 1) (hnext hi1) (j + 1) (by omega)
          have xi : L2.atI (f.map D.str) (i : Int) = some (.str f[i]) := by rw [atI_ofNat, List.getElem?_map, List.getElem?_eq_getElem hi1]; rfl
          have xj : L2.atI (g.map D.str) (j : Int) = some (.str g[j]) := by rw [atI_ofNat, List.getElem?_map, List.getElem?_eq_getElem hj1]; rfl
          have pickmin : ∀ rows : List (List (Nat × Nat)), rows ≠ [] → (∀ w ∈ rows, w.length ≤ f.length - i ∧ ∀ q ∈ w, q.1 < f.length) → ∃ w : List (Nat × Nat), w.length ≤ f.length - i ∧ (∀ q ∈ w, q.1 < f.length) ∧ bltM mh .min (.lst ((rows.map fun w => (0 - (w.length : Int), w)).map eMr)) = .ok (.val (eMr (0 - (w.length : Int), w))) := fun rows hne hr => by
            cases rows with
            | nil => exact absurd rfl hne
            | cons w0 rows =>
              obtain ⟨b, hb, eb⟩ := min_lst (e := eMr) (mh := mh) (a := (0 - (w0.length : Int), w0)) (l := rows.map fun w => (0 - (w.length : Int), w))
              have : b ∈ (w0 :: rows).map fun w => (0 - (w.length : Int), w) := hb
              obtain ⟨w, hw, rfl⟩ := List.mem_map.mp this
              exact ⟨w, (hr w hw).1, (hr w hw).2, eb⟩
          by_cases heq : f[i] = g[j]
          · simp_arith [List.length_map, c1, c2, List.length_nil, List.length_cons, get1 a1, get2 a2, get3 a3, xi, xj, heq, Ok_append]
            refine ⟨by decide, by decide, by decide, by decide, by decide, by decide, hsz _ (by omega), by decide, ?_⟩
            obtain ⟨w, hw1, hw2, ew⟩ := pickmin [v1, v2, (i, j) :: v3] (by simp) (fun w hw => by
              rcases List.mem_cons.mp hw with rfl | hw
              · exact ⟨by omega, d1⟩
              · rcases List.mem_cons.mp hw with rfl | hw
                · exact ⟨b2, d2⟩
                · rw [List.mem_singleton] at hw
                  subst hw
                  refine ⟨by rw [List.length_cons]; omega, fun q hq => ?_⟩
                  rcases List.mem_cons.mp hq with rfl | hq
                  · exact hi1
                  · exact d3 q hq)
            refine lc_mp (ys := [v1, v2, (i, j) :: v3]) (en := eP2) (em := eMr) (fun w => (0 - (w.length : Int), w)) (fun w hw => ?_) ?_
            · simp_arith [eMr, List.length_map, List.length_cons, List.length_nil]
              decide
            · simp_arith [ew]
              simp_arith [eMr, List.length_cons, List.length_nil, ins hl1]
              obtain ⟨q1, q2, q3⟩ := done hw1 hw2
              exact ⟨by decide, _, _, _, rfl, q1, q2, q3⟩
          · simp_arith [List.length_map, c1, c2, List.length_nil, List.length_cons, get1 a1, get2 a2, xi, xj, heq]
            refine ⟨by decide, by decide, by decide, ?_⟩
            obtain ⟨w, hw1, hw2, ew⟩ := pickmin [v1, v2] (by simp) (fun w hw => by
              rcases List.mem_cons.mp hw with rfl | hw
              · exact ⟨by omega, d1⟩
              · rw [List.mem_singleton] at hw
                subst hw
                exact ⟨b2, d2⟩)
            refine lc_mp (ys := [v1, v2]) (en := eP2) (em := eMr) (fun w => (0 - (w.length : Int), w)) (fun w hw => ?_) ?_
            · simp_arith [eMr, List.length_map, List.length_cons, List.length_nil]
              decide
            · simp_arith [ew]
              simp_arith [eMr, List.length_cons, List.length_nil, ins hl1]
              obtain ⟨q1, q2, q3⟩ := done hw1 hw2
              exact ⟨by decide, _, _, _, rfl, q1, q2, q3⟩
    · rintro s ⟨l, x4, x5, rfl, h1, h2, h3⟩
      simp_arith [w_lit]
      refine ⟨l, _, _, _, rfl, fun i' hi' j hj => ?_, ?_⟩
      · rcases List.mem_append.mp hi' with hi' | hi'
        · exact h1 i' hi' j hj
        · rw [List.mem_singleton.mp hi']
          exact h2 j (rev_in.mpr hj)
      · rw [List.length_reverse, List.length_range] at h3
        rw [List.length_append, Nat.add_mul]
        simp only [List.length_cons, List.length_nil]
        omega
  · rintro s ⟨l, x3, x4, x5, rfl, h1, h2⟩
    obtain ⟨v, a1, b1, d1⟩ := h1 0 (rev_in.mpr (Nat.zero_le _)) 0 (Nat.zero_le _)
    have g0 : idxD mh (.dct (eK eIj eP2 l)) (.tup [.int 0, .int 0]) = .ok (.tup (v.map eIj)) := get (x := 0) (y := 0) a1
    simp_arith [List.length_cons, List.length_nil, g0]
    exact ⟨by decide, v, d1, by omega, rfl⟩
end

end Sk

end

section
set_option Elab.async false
set_option linter.all false
set_option maxRecDepth 100000
set_option maxHeartbeats 4000000
namespace Sk
open PySem
local macro_rules
  | `(tactic| simp_arith [$as,*]) => `(tactic| simp only [w_lit, w_var, w_tup, w_lst, w_dnew, w_bin, w_cmp, w_isnone, w_isinst, w_and, w_or, w_not, w_ife, w_idx, w_slc, w_rev, w_call, w_blt, w_meth, w_mut, w_rng, w_A0, w_A1, w_R0, w_R1, w_C0, w_C1, w_lcW, w_lc, w_lc2, w_dcW, w_dc, w_dvals, w_ex, w_asg, w_par, w_sub, w_ret, w_sif, w_whl, w_for, w_forF, w_pass, w_brk, w_cnt, w_B0, w_B1, w_test, w_iterR, ↓next_nx, ↓next_ret, ↓next_brk, ↓next_ct, ↓turn_nx, ↓turn_ct, ↓turn_brk, ↓turn_ret, ↓fin_ret, ↓fin_nx, Ok_ok, Ok_er, slotAt_mk, List.getD_cons_succ, List.getD_cons_zero, List.set_cons_succ, List.set_cons_zero, List.cons_append, List.nil_append, List.append_nil, List.replicate, List.foldl, varR_val, varR_own, varR_bor, peek_val, peek_own, peek_bor, peekS_val, peekS_own, peekS_bor, freeze_val, freeze_own, freeze_bor, frzS_own, frzS_val, iterF_val, iterF_own, iterF_bor, itfS_own, itfS_val, itfS_bor, asgR_val, asgR_own, asgR_bor, agS_val, agS_own, agS_bor, asgR_tp, asgD_nm, asgD_tp, asgAll_nil, asgAll_cons, wipeS_mk, backS_mk, toSls0, Ok_toSls1, toSl_val, toSl_own, toSl_bor, tslS_val, tslS_own, tslS_bor, esc_pg, cxF_call, cxF_N, outR_val, outR_own, outR_bor, outS_val, outS_own, content_val, content_own, content_bor, Option.isSome_some, valR_val, ownL_own, ownK_own, noBor_val, noBor_own, add_int, sub_int, len_lst, len_tup, len_dct, int_int, list_lst, list_tup, tuple_lst, tuple_tup, ord_str, itemsC_lst, itemsC_tup, itemsD_lst, itemsD_tup, itemsD_str, eq_int, ne_int, lt_int, gt_int, le_int, ge_int, truth_bl, truth_lst, truth_tup, part_non, part_int, Ok_md, Ok_fdiv, Ok_mul, Ok_idx_lst, Ok_idx_tup, Ok_idx_str, Ok_listr, isE_map, isE_snoc, subW_mk, Ok_sortset, atI0, atI1, atI2, atI3, cutD_to, cutD_from, eq_str, ne_str, decide_true, decide_false, Option.map_some, Option.map_none, pop_snoc, Ok_add_str, Ok_add_tup, Ok_add_lst, Ok_len_str, Ok_rng1, Ok_rng2, Ok_append, Ok_extendL, Ok_extendT, slc_tup, slc_lst, Ok_slc_str, still_val, rev_lst, if_true, if_false, ite_true, ite_false, Bool.false_eq_true, if_true', reduceIte, true_and, and_true, Bool.not_true, Bool.not_false, Bool.not_not, exists_eq_left', exists_eq_left, Option.some.injEq, $as,*])
/-! SpU: what is recorded; drawn stores. -/
abbrev eNt (n : Nat) : D := .int (n : Int)
instance : Ky eNt := ⟨fun a b => by simp [keyEq, atomEq]; omega, .inl fun _ => rfl⟩
/-- spots that a recorded patch may name, with m own ones -/
def Gsp (st : List Pa) (name : (List Nat)) (m : Nat) (s : (List Nat) × Nat) : Prop := s = ([], 0) ∨ s = ([], 1) ∨ s ∈ spots st ∨ ∃ k, 1 ≤ k ∧ k ≤ m ∧ s = (name, k)
theorem Gsp.mono {st : List Pa} {name : (List Nat)} {m m' : Nat} {s : (List Nat) × Nat} (h : Gsp st name m s) (hm : m ≤ m') : Gsp st name m' s := by
  rcases h with h | h | h | ⟨k, h1, h2, h3⟩
  · exact .inl h
  · exact .inr (.inl h)
  · exact .inr (.inr (.inl h))
  · exact .inr (.inr (.inr ⟨k, h1, Nat.le_trans h2 hm, h3⟩))
theorem Gsp.ok {st : List Pa} {c : Nat} {name : (List Nat)} {m : Nat} {s : (List Nat) × Nat} (h : Gsp st name m s) (hs : SOk st c) (hn : name.length ≤ 16) (hm : m ≤ 1000000) : SpOk s := by
  rcases h with rfl | rfl | h | ⟨k, h1, h2, rfl⟩
  · exact ⟨by decide, by decide⟩
  · exact ⟨by decide, by decide⟩
  · exact hs.num s h
  · exact ⟨hn, by simp only; omega⟩
/-- adds told so far -/
structure Adds (st : List Pa) (name : (List Nat)) (as : List Ad) : Prop where
  num : ∀ (i : Nat) (h : i < as.length), as[i].n = i + 1
  one : ∀ a ∈ as, a.ah.length = 1 ∧ a.be.length = 1
  lin : ∀ a ∈ as, a.line ∈ lineTexts
  sp : ∀ a ∈ as, ∀ s, s ∈ a.ah ∨ s ∈ a.be → Gsp st name as.length s
theorem line_len : ∀ x ∈ lineTexts, x.length ≤ 9 := by decide
/-- what a recorded patch is -/
structure Rec (st : List Pa) (name : (List Nat)) (m : Nat) (p : Pa) : Prop where
  nm : p.nm = name
  la : p.adds.length ≤ m
  adds : Adds st name p.adds
  lb : p.bars.length ≤ (spots st).length
  bars : ∀ s ∈ p.bars, s ∈ spots st
section
variable {N k : Nat} {mh : MH} {st : List Pa} {c : Nat}
theorem sp_law_recorded (h : SOk st c) (hc : c ≤ 1000) (hN : 3000000 < N) {name : (List Nat)} {text : List (List Nat)} (ht : LT text) (hl : text.length ≤ c + 3) : Ok (evF pg N (k + 4) i__law_recorded [.val (eSto st), .val (.str name), .val (.tup (text.map .str))] mh) fun q => ∃ p, Rec st name text.length p ∧ q = (.val (ePa p), mh) := by
  have hsz : ∀ n : Nat, n ≤ 3000000 → n ≤ sz := fun n h => by unfold sz; omega
  refine w_F pg__law_recorded rfl (by decide) ?_
  simp_arith [d__law_recorded]
  refine (sp_law_row h hc hN).mono ?_
  rintro _ ⟨r, hr, rfl⟩
  simp_arith [w_lit]
  refine (sp_law_text_of h hc hN).mono ?_
  rintro _ ⟨xs, hxl, hx, rfl⟩
  have hal := alive_len h
  have hrl := hr.length_eq
  simp_arith [w_lit]
  refine (sp_law_keeping (f := xs) (g := text) (by omega) (by omega)).mono ?_
  rintro _ ⟨v, hv, hvl, rfl⟩
  have insK : ∀ {ρ : List Sl} {l : List (Nat × ((List Nat) × Nat))} {x : Nat} {s : (List Nat) × Nat} {j : Nat}, l.length < sz → sbS j ρ mh (eSp s) (.int (x : Int)) (.own (.dct (eK eNt eSp l))) = .ok ⟨ρ.set j (.own (.dct (eK eNt eSp (pt x s l)))), mh⟩ := fun {ρ l x s j} hl => ofOk (Ok_sbS (e := eNt) (v := eSp) (x := s) (k := x) |>.mpr ⟨hl, rfl⟩)
  simp_arith [w_lit]
  refine for_inv (fun d s => ∃ (l : List (Nat × ((List Nat) × Nat))) (x9 x10 : Sl), s = ⟨[.val (eSto st), .val (.str name), .val (.tup (text.map .str)), .own (.lst (r.map eSp)), .own (.dct (eK eNt eSp l)), .un, .un, .un, .un, x9, x10, .un, .un, .un], mh⟩ ∧ l.length ≤ d.length ∧ ∀ q ∈ l, q.2 ∈ r) ⟨[], .un, .un, rfl, by simp, by simp⟩ ?_ ?_
  · rintro d q r' s e ⟨l, x9, x10, rfl, h1, h2⟩
    have hq : q.1 < xs.length := hv q (by rw [e]; simp)
    have hqr : q.1 < r.length := by omega
    have hdl : d.length ≤ 1000 := by
      rw [e, List.length_append] at hvl
      omega
    have gi : L2.atI (r.map eSp) (q.1 : Int) = some (eSp r[q.1]) := by rw [atI_ofNat, List.getElem?_map, List.getElem?_eq_getElem hqr]; rfl
    simp_arith [gi, insK (l := l) (by unfold sz; omega)]
    refine ⟨_, _, _, rfl, ?_, fun z hz => ?_⟩
    · have := pt_len q.2 r[q.1] l
      rw [List.length_append]; simp only [List.length_cons, List.length_nil]; omega
    · unfold pt at hz
      split at hz
      · obtain ⟨y, hy, rfl⟩ := List.mem_map.mp hz
        split
        · exact List.getElem_mem hqr
        · exact h2 y hy
      · rcases List.mem_append.mp hz with hz | hz
        · exact h2 z hz
        · rw [List.mem_singleton.mp hz]; exact List.getElem_mem hqr
  · rintro s ⟨l, x9, x10, rfl, h1, h2⟩
    have hlr : ∀ {x : Nat} {s : (List Nat) × Nat}, lk x l = some s → s ∈ spots st := fun {x s} e => alive_sub (hr.mem_iff.mp (h2 _ (lk_some e)))
    have inK : ∀ x : Nat, cmpD .inn (.int (x : Int)) (.dct (eK eNt eSp l)) = .ok (lk x l).isSome := fun x => by rw [lk_isSome]; exact in_dct (e := eNt) (v := eSp) (k := x)
    have getK : ∀ {x : Nat} {s : (List Nat) × Nat}, lk x l = some s → idxD mh (.dct (eK eNt eSp l)) (.int (x : Int)) = .ok (eSp s) := fun {x s} e => ofOk (Ok_idx_dct (e := eNt) (v := eSp) (k := x) |>.mpr ⟨s, e, rfl⟩)
    simp_arith [List.length_nil, List.length_cons, List.length_map]
    refine ⟨by decide, by decide, by omega, ?_⟩
    refine for_inv (fun d s => ∃ (as : List Ad) (last : (List Nat) × Nat) (x7 x11 : Sl), s = ⟨[.val (eSto st), .val (.str name), .val (.tup (text.map .str)), .own (.lst (r.map eSp)), .own (.dct (eK eNt eSp l)), .own (.lst (as.map eAd)), .val (eSp last), x7, .un, x9, x10, x11, .un, .un], mh⟩ ∧ as.length ≤ d.length ∧ Adds st name as ∧ Gsp st name as.length last) ⟨[], ([], 0), .un, .un, rfl, by simp, ⟨fun i h => by simp at h, fun a h => by simp at h, fun a h => by simp at h, fun a h => by simp at h⟩, .inl rfl⟩ ?_ ?_
    · rintro d i r' s e ⟨as, last, x7, x11, rfl, ha1, ha2, ha3⟩
      have hi : i < text.length := by
        have : i ∈ List.range (Int.toNat (text.length : Int)) := by rw [e]; simp
        simpa using this
      have hdl : d.length ≤ 1003 := by
        have := congrArg List.length e
        rw [List.length_range, List.length_append] at this
        omega
      cases hk : lk i l with
      | some s0 =>
        simp_arith [inK, hk, Option.isSome_some, getK hk]
        exact ⟨_, _, _, _, rfl, by rw [List.length_append]; omega, ha2, .inr (.inr (.inl (hlr hk)))⟩
      | none =>
        simp_arith [inK, hk, Option.isSome_none, List.length_map]
        refine ⟨by omega, ?_⟩
        have e9 : ∀ j : Nat, (i : Int) + 1 + (j : Int) = ((i + 1 + j : Nat) : Int) := fun j => by omega
        refine lc_fm (en := fun (j : Nat) => D.int ((i : Int) + 1 + (j : Int))) (em := eSp) (fun j => lk (i + 1 + j) l) (fun j hj => ?_) ?_
        · simp_arith [e9, inK]
          cases hkj : lk (i + 1 + j) l with
          | none => simp_arith [Option.isSome_none]
          | some s1 => simp_arith [Option.isSome_some, getK hkj]
        · have gi : L2.atI (text.map D.str) (i : Int) = some (D.str text[i]) := by rw [atI_ofNat, List.getElem?_map, List.getElem?_eq_getElem hi]; rfl
          have key : ∀ nx : (List Nat) × Nat, Gsp st name as.length nx → Adds st name (as ++ [⟨as.length + 1, text[i], [last], [nx]⟩]) := fun nx hnx => by
            refine ⟨fun j hj => ?_, fun a ha => ?_, fun a ha => ?_, fun a ha s hs => ?_⟩
            · by_cases hj2 : j < as.length
              · rw [List.getElem_append_left hj2]; exact ha2.num j hj2
              · have : j = as.length := by
                  rw [List.length_append] at hj
                  simp only [List.length_cons, List.length_nil] at hj
                  omega
                subst this
                simp
            · rcases List.mem_append.mp ha with ha | ha
              · exact ha2.one a ha
              · rw [List.mem_singleton.mp ha]; exact ⟨rfl, rfl⟩
            · rcases List.mem_append.mp ha with ha | ha
              · exact ha2.lin a ha
              · rw [List.mem_singleton.mp ha]; exact ht _ (List.getElem_mem hi)
            · have hm : as.length ≤ (as ++ [(⟨as.length + 1, text[i], [last], [nx]⟩ : Ad)]).length := by simp
              rcases List.mem_append.mp ha with ha | ha
              · exact (ha2.sp a ha s hs).mono hm
              · rw [List.mem_singleton.mp ha] at hs
                rcases hs with hs | hs
                · rw [List.mem_singleton.mp hs]; exact ha3.mono hm
                · rw [List.mem_singleton.mp hs]; exact hnx.mono hm
          have eApp : ∀ nx : (List Nat) × Nat, as.map eAd ++ [D.tup [.int ((as.length : Int) + 1), .str text[i], .tup [eSp last], .tup [eSp nx]]] = (as ++ ([⟨as.length + 1, text[i], [last], [nx]⟩] : List Ad)).map eAd := fun nx => by rw [List.map_append]; rfl
          have hlast : Gsp st name (as.length + 1) (name, as.length + 1) := .inr (.inr (.inr ⟨_, by omega, Nat.le_refl _, rfl⟩))
          simp_arith [List.length_map, gi, List.length_cons, List.length_nil, List.length_append]
          cases hlat : (List.range ((text.length : Int) - ((i : Int) + 1)).toNat).filterMap (fun j => lk (i + 1 + j) l) with
          | nil =>
            refine ⟨by decide, ?_⟩
            rw [if_neg (by decide)]
            repeat (refine And.intro (by first | decide | (unfold sz; omega)) ?_)
            refine ⟨as ++ [⟨as.length + 1, text[i], [last], [([], 1)]⟩], (name, as.length + 1), .val (.int i), .own (.lst []), ?_, by simp only [List.length_append, List.length_cons, List.length_nil]; omega, key _ (.inr (.inl rfl)), by rw [List.length_append]; exact hlast⟩
            simp only [List.map_append, List.map_cons, List.map_nil, eAd, List.length_append, List.length_map, List.length_cons, List.length_nil]
            rfl
          | cons s1 ls =>
            have hs1 : s1 ∈ spots st := by
              have : s1 ∈ (List.range ((text.length : Int) - ((i : Int) + 1)).toNat).filterMap (fun j => lk (i + 1 + j) l) := by rw [hlat]; exact List.mem_cons_self
              obtain ⟨j, _, ej⟩ := List.mem_filterMap.mp this
              exact hlr ej
            refine ⟨by decide, ?_⟩
            rw [if_pos (decide_eq_true (by simp only [List.length_cons]; omega))]
            refine ⟨eSp s1, by rw [List.map_cons, atI0], ?_⟩
            repeat (refine And.intro (by first | decide | (unfold sz; omega)) ?_)
            refine ⟨as ++ [⟨as.length + 1, text[i], [last], [s1]⟩], (name, as.length + 1), .val (.int i), .own (.lst ((s1 :: ls).map eSp)), ?_, by simp only [List.length_append, List.length_cons, List.length_nil]; omega, key _ (.inr (.inr (.inl hs1))), by rw [List.length_append]; exact hlast⟩
            simp only [List.map_append, List.map_cons, List.map_nil, eAd, List.length_append, List.length_map, List.length_cons, List.length_nil]
            rfl
    · rintro s ⟨as, last, x7, x11, rfl, ha1, ha2, ha3⟩
      have hat : ((eK eNt eSp l).all fun p => isAtom p.1) = true := by
        rw [eK, List.all_map, List.all_eq_true]
        exact fun _ _ => rfl
      have hvals : ∃ vs : List ((List Nat) × Nat), (eK eNt eSp l).map (fun p => (lookD p.1 (eK eNt eSp l)).getD .non) = vs.map eSp := by
        refine ⟨l.map fun q => (lk q.1 l).getD q.2, ?_⟩
        rw [eK, List.map_map, List.map_map]
        refine List.map_congr_left fun q hq => ?_
        show (lookD (eNt q.1) (eK eNt eSp l)).getD .non = eSp ((lk q.1 l).getD q.2)
        rw [lookD_eK (e := eNt) (v := eSp)]
        cases hk : lk q.1 l with
        | none =>
          have h3 := lk_isSome (k := q.1) (l := l)
          rw [hk] at h3
          have : q.1 ∈ l.map (·.1) := List.mem_map.mpr ⟨q, hq, rfl⟩
          simp [this] at h3
        | some x => rfl
      obtain ⟨vs, evs⟩ := hvals
      simp_arith [w_lit]
      refine lc_fl (fun s => !decide (s ∈ vs)) (fun s hs => ?_) ?_
      · simp_arith [hat, evs, nin_eL]
        by_cases hm : s ∈ vs
        · simp_arith [hm]
        · simp_arith [hm]
      · simp_arith [sorted_lst, List.length_cons, List.length_nil]
        refine ⟨by decide, ⟨name, as, sortE eSp (r.filter fun s => !decide (s ∈ vs))⟩, ⟨rfl, ?_, ha2, ?_, ?_⟩, rfl⟩
        · rw [List.length_range, Int.toNat_natCast] at ha1; exact ha1
        · rw [sortE_len]
          refine Nat.le_trans (List.length_filter_le _ _) ?_
          rw [hrl, alive, sortE_len]
          exact List.length_filter_le _ _
        · intro s hs
          exact alive_sub (hr.mem_iff.mp (List.mem_filter.mp (mem_sortE.mp hs)).1)
end

end Sk

end

section
set_option Elab.async false
set_option linter.all false
set_option maxRecDepth 100000
set_option maxHeartbeats 4000000
namespace Sk
open PySem
local macro_rules
  | `(tactic| simp_arith [$as,*]) => `(tactic| simp only [w_lit, w_var, w_tup, w_lst, w_dnew, w_bin, w_cmp, w_isnone, w_isinst, w_and, w_or, w_not, w_ife, w_idx, w_slc, w_rev, w_call, w_blt, w_meth, w_mut, w_rng, w_A0, w_A1, w_R0, w_R1, w_C0, w_C1, w_lcW, w_lc, w_lc2, w_dcW, w_dc, w_dvals, w_ex, w_asg, w_par, w_sub, w_ret, w_sif, w_whl, w_for, w_forF, w_pass, w_brk, w_cnt, w_B0, w_B1, w_test, w_iterR, ↓next_nx, ↓next_ret, ↓next_brk, ↓next_ct, ↓turn_nx, ↓turn_ct, ↓turn_brk, ↓turn_ret, ↓fin_ret, ↓fin_nx, Ok_ok, Ok_er, slotAt_mk, List.getD_cons_succ, List.getD_cons_zero, List.set_cons_succ, List.set_cons_zero, List.cons_append, List.nil_append, List.append_nil, List.replicate, List.foldl, varR_val, varR_own, varR_bor, peek_val, peek_own, peek_bor, peekS_val, peekS_own, peekS_bor, freeze_val, freeze_own, freeze_bor, frzS_own, frzS_val, iterF_val, iterF_own, iterF_bor, itfS_own, itfS_val, itfS_bor, asgR_val, asgR_own, asgR_bor, agS_val, agS_own, agS_bor, asgR_tp, asgD_nm, asgD_tp, asgAll_nil, asgAll_cons, wipeS_mk, backS_mk, toSls0, Ok_toSls1, toSl_val, toSl_own, toSl_bor, tslS_val, tslS_own, tslS_bor, esc_pg, cxF_call, cxF_N, outR_val, outR_own, outR_bor, outS_val, outS_own, content_val, content_own, content_bor, Option.isSome_some, valR_val, ownL_own, ownK_own, noBor_val, noBor_own, add_int, sub_int, len_lst, len_tup, len_dct, int_int, list_lst, list_tup, tuple_lst, tuple_tup, ord_str, itemsC_lst, itemsC_tup, itemsD_lst, itemsD_tup, itemsD_str, eq_int, ne_int, lt_int, gt_int, le_int, ge_int, truth_bl, truth_lst, truth_tup, part_non, part_int, Ok_md, Ok_fdiv, Ok_mul, Ok_idx_lst, Ok_idx_tup, Ok_idx_str, Ok_listr, isE_map, isE_snoc, subW_mk, Ok_sortset, atI0, atI1, atI2, atI3, cutD_to, cutD_from, eq_str, ne_str, decide_true, decide_false, Option.map_some, Option.map_none, pop_snoc, Ok_add_str, Ok_add_tup, Ok_add_lst, Ok_len_str, Ok_rng1, Ok_rng2, Ok_append, Ok_extendL, Ok_extendT, slc_tup, slc_lst, Ok_slc_str, still_val, rev_lst, if_true, if_false, ite_true, ite_false, Bool.false_eq_true, if_true', reduceIte, true_and, and_true, Bool.not_true, Bool.not_false, Bool.not_not, exists_eq_left', exists_eq_left, Option.some.injEq, $as,*])
/-! SpV: drawn stores. -/
theorem SOk.mono {st : List Pa} {c d : Nat} (h : SOk st c) (hc : c ≤ d) : SOk st d := ⟨h.nd, h.ok, h.ne, h.lt, h.wf, Nat.le_trans h.len hc, h.num, h.sl⟩
theorem spots_mem_app {a b : List Pa} {s : (List Nat) × Nat} (h : s ∈ spots a) (hab : ∀ q ∈ a, q ∈ b) : s ∈ spots b := by
  obtain ⟨q, hq, x, hx, rfl⟩ := mem_spots.mp h
  exact mem_spots.mpr ⟨q, hab q hq, x, hx, rfl⟩
theorem Adds.at_ {st : List Pa} {name : (List Nat)} {as : List Ad} (h : Adds st name as) {a : Ad} (ha : a ∈ as) : 1 ≤ a.n ∧ a.n ≤ as.length := by
  obtain ⟨i, hi, rfl⟩ := List.mem_iff_getElem.mp ha
  rw [h.num i hi]; omega
theorem SOk.add {st part : List Pa} {c m : Nat} {name : (List Nat)} {p : Pa} (h : SOk st c) (hq : SOk part c) (hsub : ∀ q ∈ part, q ∈ st) (R : Rec part name m p) (hn : name ∉ pnm st) (hn0 : name ≠ []) (hnl : name.length ≤ 16) (hm : m ≤ 1000) (hc : c ≤ 1000) (hl : st.length ≤ 14) : SOk (sortE ePa (st ++ [p])) (c + m) := by
  have hmem : ∀ q, q ∈ sortE ePa (st ++ [p]) ↔ q ∈ st ∨ q = p := fun q => by
    rw [mem_sortE, List.mem_append, List.mem_singleton]
  have hla := R.la
  have gs : ∀ {s : (List Nat) × Nat}, Gsp part name p.adds.length s → SpOk s := fun g => g.ok hq hnl (by omega)
  have pok : PaOk p := by
    refine ⟨by rw [R.nm]; exact hnl, Nat.le_trans R.la hm, Nat.le_trans R.lb (Nat.le_trans hq.len hc), fun a ha => ?_, fun s hs => hq.num s (R.bars s hs)⟩
    exact ⟨line_len _ (R.adds.lin a ha), (R.adds.one a ha).1, (R.adds.one a ha).2, fun s hs => gs (R.adds.sp a ha s (.inl hs)), fun s hs => gs (R.adds.sp a ha s (.inr hs))⟩
  have spn : ∀ s, s ∈ spots st → s ∈ spots (sortE ePa (st ++ [p])) := fun s hs => spots_mem_app hs fun q hq => (hmem q).mpr (.inl hq)
  refine ⟨?_, fun q hq => ?_, fun q hq => ?_, fun q hq => ?_, fun q hq s hs => ?_, ?_, fun s hs => ?_, ?_⟩
  · have h1 : ((st ++ [p]).map (·.nm)).Nodup := by
      rw [List.map_append, List.nodup_append]
      refine ⟨h.nd, by simp, ?_⟩
      rintro a ha b hb rfl
      simp only [List.map_cons, List.map_nil, List.mem_singleton] at hb
      rw [hb, R.nm] at ha
      exact hn ha
    exact ((sortE_perm (e := ePa) (st ++ [p])).map (·.nm)).nodup_iff.mpr h1
  · rcases (hmem q).mp hq with hq | rfl
    · exact h.ok q hq
    · exact pok
  · rcases (hmem q).mp hq with hq | rfl
    · exact h.ne q hq
    · rw [R.nm]; exact hn0
  · rcases (hmem q).mp hq with hq | rfl
    · exact h.lt q hq
    · exact R.adds.lin
  · rcases (hmem q).mp hq with hq' | rfl
    · rcases h.wf q hq' s hs with e | e | e
      · exact .inl e
      · exact .inr (.inl e)
      · exact .inr (.inr (spn s e))
    · have own : ∀ {s : (List Nat) × Nat}, Gsp part name q.adds.length s → s = ([], 0) ∨ s = ([], 1) ∨ s ∈ spots (sortE ePa (st ++ [q])) := fun {s} g => by
        rcases g with e | e | e | ⟨k, h1, h2, rfl⟩
        · exact .inl e
        · exact .inr (.inl e)
        · exact .inr (.inr (spn s (spots_mem_app e hsub)))
        · refine .inr (.inr (mem_spots.mpr ⟨q, (hmem q).mpr (.inr rfl), q.adds[k - 1]'(by omega), List.getElem_mem _, ?_⟩))
          rw [R.adds.num (k - 1) (by omega), R.nm]
          exact Prod.ext rfl (by simp only; omega)
      rcases List.mem_append.mp hs with hs | hs
      · exact .inr (.inr (spn s (spots_mem_app (R.bars s hs) hsub)))
      · obtain ⟨a, ha, hs⟩ := List.mem_flatMap.mp hs
        exact own (R.adds.sp a ha s (List.mem_append.mp hs))
  · have h1 : (spots (sortE ePa (st ++ [p]))).length = (spots (st ++ [p])).length := (perm_flat (sortE_perm (e := ePa) (st ++ [p]))).length_eq
    rw [h1, spots_app, List.length_append]
    have h2 : (spots [p]).length = p.adds.length := by simp [spots]
    have := h.len
    omega
  · obtain ⟨q, hq', a, ha, rfl⟩ := mem_spots.mp hs
    rcases (hmem q).mp hq' with hq' | rfl
    · exact h.num _ (mem_spots.mpr ⟨q, hq', a, ha, rfl⟩)
    · have := R.adds.at_ ha
      exact ⟨by rw [R.nm]; exact hnl, by simp only; omega⟩
  · rw [sortE_len, List.length_append]; simp only [List.length_cons, List.length_nil]; omega
theorem SOk.nil (c : Nat) : SOk [] c := ⟨by simp [pnm], by simp, by simp, by simp, by simp, by simp [spots], by simp [spots], by simp⟩
def cb : Nat → Nat
  | 0 => 0
  | n + 1 => 2 * cb n + 3
theorem cb_le : ∀ n, n ≤ 7 → cb n ≤ 381 := by decide
section
variable {N k n : Nat} {mh : MH}
/-- sorted patches -/
abbrev Srt (st : List Pa) : Prop := st.Pairwise fun a b => ltE ePa b a = false
theorem i_pa0 {mh : MH} {p : Pa} : idxD mh (ePa p) (.int 0) = .ok (.str p.nm) := by
  unfold ePa
  simp only [idxD, atI0]
theorem sp_menu_store (hm : Made mh n) (hN : 3000000 < N) : Ok (evF pg N (k + 6) i__law_menu_store [.val (.ref n), .val (.int 7)] mh) fun q => ∃ st, SOk st 381 ∧ Srt st ∧ q.1 = .val (eSto st) ∧ Mv n mh q.2 := by
  have hsz : ∀ n : Nat, n ≤ 3000000 → n ≤ sz := fun n h => by unfold sz; omega
  refine w_F pg__law_menu_store rfl (by decide) ?_
  simp_arith [d__law_menu_store, List.length_cons, List.length_nil]
  refine ⟨by decide, by decide, ?_⟩
  refine (sp_takeN hm (by decide)).mono ?_
  rintro ⟨r, mh1⟩ ⟨v, hv1, rfl, hv⟩
  simp_arith [w_lit]
  refine ⟨by omega, ?_⟩
  refine for_inv (fun d s => ∃ (st : List Pa) (rest : List (List Nat)) (x4 x5 x6 x7 x8 x9 : Sl) (mh' : MH), s = ⟨[.val (.ref n), .val (.int 7), .val (eSto st), .own (.lst (rest.map .str)), x4, x5, x6, x7, x8, x9, .un], mh'⟩ ∧ Mv n mh mh' ∧ SOk st (cb d.length) ∧ Srt st ∧ st.length ≤ d.length ∧ rest.Nodup ∧ (∀ x ∈ rest, x ∈ menu ∧ x ∉ pnm st) ∧ 15 ≤ rest.length + d.length) ⟨[], menu, .un, .un, .un, .un, .un, .un, mh1, rfl, hv, .nil _, .nil, by simp, menu_nodup, fun x hx => ⟨hx, by simp [pnm]⟩, by decide⟩ ?_ ?_
  · rintro d i r s e ⟨st, rest, x4, x5, x6, x7, x8, x9, mh', rfl, hmv, hst, hsrt, hsl, hrn, hrm, hrl⟩
    have hdl : d.length < 7 := by
      have := congrArg List.length e
      rw [List.length_range, List.length_append, List.length_cons] at this
      omega
    have hcb := cb_le d.length (by omega)
    have hcb1 := cb_le (d.length + 1) (by omega)
    have hmono : cb d.length ≤ cb (d ++ [i]).length := by
      rw [List.length_append]
      show cb d.length ≤ 2 * cb d.length + 3
      omega
    simp_arith [w_lit]
    refine lc_inv (fun d2 a s => ∃ (ns : List (List Nat)) (mh2 : MH), a = ns.map .str ∧ ns.length ≤ d2.length ∧ (∀ x ∈ ns, x ∈ pnm st) ∧ s = ⟨[.val (.ref n), .val (.int 7), .val (eSto st), .own (.lst (rest.map .str)), .val (.int (i : Int)), x5, x6, x7, x8, x9, .un], mh2⟩ ∧ Mv n mh mh2) ⟨[], mh', rfl, by simp, by simp, rfl, hmv⟩ ?_ ?_
    · rintro d2 p r2 a s e2 ⟨ns, mh2, rfl, hnl, hns, rfl, hmv2⟩
      simp_arith [w_lit]
      refine (sp_takeN hmv2.made (by decide)).mono ?_
      rintro ⟨r3, mh3⟩ ⟨v3, hv3, rfl, hmv3⟩
      simp_arith [w_lit]
      cases hc : decide ((0 : Int) < (v3 : Int)) with
      | true =>
        simp_arith [i_pa0]
        refine ⟨ns ++ [p.nm], mh3, by simp, by simp; exact hnl, fun x hx => ?_, rfl, hmv2.trans hmv3⟩
        rcases List.mem_append.mp hx with hx | hx
        · exact hns x hx
        · rw [List.mem_singleton.mp hx]
          exact List.mem_map.mpr ⟨p, by rw [e2]; simp, rfl⟩
      | false =>
        simp_arith [w_lit]
        exact ⟨ns, mh3, rfl, by simp; omega, hns, rfl, hmv2.trans hmv3⟩
    · rintro a s ⟨ns, mh2, rfl, hnl, hns, rfl, hmv2⟩
      simp_arith [w_lit]
      have hnl2 : ns.length ≤ 100 := by omega
      refine (sp_law_cut hst hns hnl2 (by omega)).mono ?_
      rintro _ ⟨part, hpart, hpsub, rfl⟩
      simp_arith [w_lit]
      refine (sp_law_odds hpart (by omega) hN).mono ?_
      rintro _ ⟨dd, rfl⟩
      simp_arith [w_lit]
      by_cases hdd : dd = .non
      · have hd1 : decide (dd = .non) = true := decide_eq_true hdd
        rw [if_pos hd1]
        refine (sp_law_text_of hpart (by omega) hN).mono ?_
        rintro _ ⟨text, htl, htx, rfl⟩
        have hal := alive_len hpart
        simp_arith [w_lit]
        refine (sp_takeN hmv2.made (by decide)).mono ?_
        rintro ⟨r3, mh3⟩ ⟨v3, hv3, rfl, hmv3⟩
        have hv3' : v3 < rest.length := by omega
        simp_arith [Ok_popi hv3', List.length_map]
        have hname := hrm _ (List.getElem_mem hv3')
        have hpp := pop_perm hv3'
        have hnd2 := hpp.nodup_iff.mpr hrn
        obtain ⟨hnot, hern⟩ := List.nodup_cons.mp hnd2
        have hers : ∀ x ∈ rest.eraseIdx v3, x ∈ rest := fun x hx => hpp.mem_iff.mp (List.mem_cons_of_mem _ hx)
        have herl : (rest.eraseIdx v3).length = rest.length - 1 := by
          have := hpp.length_eq
          rw [List.length_cons] at this
          omega
        have hnm0 : rest[v3] ≠ [] := by
          have : ∀ x ∈ menu, x ≠ [] := by decide
          exact this _ hname.1
        have hnm16 := menu_len _ hname.1
        by_cases ht0 : text.length = 0
        · rw [if_pos (decide_eq_true (by omega))]
          refine (sp_made_text (m := 3) hmv3.made (by decide) (by decide)).mono ?_
          rintro ⟨r4, mh4⟩ ⟨more, hml, hmt, rfl, hmv4⟩
          have hml : more.length ≤ cb d.length + 3 := by simp only [show Int.toNat 3 = 3 from rfl] at hml; omega
          simp_arith [w_lit]
          refine (sp_law_recorded hpart (by omega) hN hmt hml).mono ?_
          rintro _ ⟨p, hR, rfl⟩
          have e1 : st.map ePa ++ [ePa p] = (st ++ [p]).map ePa := by rw [List.map_append]; rfl
          simp_arith [List.length_cons, List.length_nil, e1, sorted_tup, List.length_map]
          have hnew := hst.add hpart hpsub hR hname.2 hnm0 hnm16 (by omega) (by omega) (by omega)
          refine ⟨by decide, hsz _ (by omega), sortE ePa (st ++ [p]), rest.eraseIdx v3, .val (.int i), .own (.lst (ns.map .str)), .val (eSto part), .val (.tup (text.map .str)), .val (.str rest[v3]), .val (.tup (more.map .str)), mh4, rfl, (hmv2.trans hmv3).trans hmv4, hnew.mono (by rw [List.length_append]; show _ ≤ 2 * cb d.length + 3; omega), sortE_sorted _, by rw [sortE_len, List.length_append, List.length_append]; simp only [List.length_cons, List.length_nil]; omega, hern, fun x hx => ⟨(hrm x (hers x hx)).1, fun z => ?_⟩, by rw [herl, List.length_append]; simp only [List.length_cons, List.length_nil]; omega⟩
          obtain ⟨q, hq, rfl⟩ := List.mem_map.mp z
          rcases List.mem_append.mp (mem_sortE.mp hq) with hq | hq
          · exact (hrm _ (hers _ hx)).2 (List.mem_map.mpr ⟨q, hq, rfl⟩)
          · rw [List.mem_singleton.mp hq, hR.nm] at hx
            exact hnot hx
        · rw [if_neg (fun z => ht0 (by have := of_decide_eq_true z; omega))]
          refine (sp_bent_lines hmv3.made (by omega) htx).mono ?_
          rintro ⟨r4, mh4⟩ ⟨more, hml, hmt, rfl, hmv4⟩
          have hml : more.length ≤ cb d.length + 3 := by omega
          simp_arith [w_lit]
          refine (sp_law_recorded hpart (by omega) hN hmt hml).mono ?_
          rintro _ ⟨p, hR, rfl⟩
          have e1 : st.map ePa ++ [ePa p] = (st ++ [p]).map ePa := by rw [List.map_append]; rfl
          simp_arith [List.length_cons, List.length_nil, e1, sorted_tup, List.length_map]
          have hnew := hst.add hpart hpsub hR hname.2 hnm0 hnm16 (by omega) (by omega) (by omega)
          refine ⟨by decide, hsz _ (by omega), sortE ePa (st ++ [p]), rest.eraseIdx v3, .val (.int i), .own (.lst (ns.map .str)), .val (eSto part), .val (.tup (text.map .str)), .val (.str rest[v3]), .val (.tup (more.map .str)), mh4, rfl, (hmv2.trans hmv3).trans hmv4, hnew.mono (by rw [List.length_append]; show _ ≤ 2 * cb d.length + 3; omega), sortE_sorted _, by rw [sortE_len, List.length_append, List.length_append]; simp only [List.length_cons, List.length_nil]; omega, hern, fun x hx => ⟨(hrm x (hers x hx)).1, fun z => ?_⟩, by rw [herl, List.length_append]; simp only [List.length_cons, List.length_nil]; omega⟩
          obtain ⟨q, hq, rfl⟩ := List.mem_map.mp z
          rcases List.mem_append.mp (mem_sortE.mp hq) with hq | hq
          · exact (hrm _ (hers _ hx)).2 (List.mem_map.mpr ⟨q, hq, rfl⟩)
          · rw [List.mem_singleton.mp hq, hR.nm] at hx
            exact hnot hx
      · have hd1 : ¬ decide (dd = .non) = true := fun z => hdd (of_decide_eq_true z)
        rw [if_neg hd1]
        exact ⟨st, rest, _, _, _, _, _, _, _, rfl, hmv2, hst.mono hmono, hsrt, by rw [List.length_append]; omega, hrn, hrm, by rw [List.length_append]; omega⟩
  · rintro s ⟨st, rest, x4, x5, x6, x7, x8, x9, mh', rfl, hmv, hst, hsrt, hsl, hrn, hrm, hrl⟩
    simp_arith [w_lit]
    refine ⟨st, hst.mono (cb_le _ ?_), hsrt, rfl, hmv⟩
    rw [List.length_range]; omega
end

end Sk

end

section
set_option Elab.async false
set_option linter.all false
set_option maxRecDepth 100000
set_option maxHeartbeats 4000000
namespace Sk
open PySem
local macro_rules
  | `(tactic| simp_arith [$as,*]) => `(tactic| simp only [w_lit, w_var, w_tup, w_lst, w_dnew, w_bin, w_cmp, w_isnone, w_isinst, w_and, w_or, w_not, w_ife, w_idx, w_slc, w_rev, w_call, w_blt, w_meth, w_mut, w_rng, w_A0, w_A1, w_R0, w_R1, w_C0, w_C1, w_lcW, w_lc, w_lc2, w_dcW, w_dc, w_dvals, w_ex, w_asg, w_par, w_sub, w_ret, w_sif, w_whl, w_for, w_forF, w_pass, w_brk, w_cnt, w_B0, w_B1, w_test, w_iterR, ↓next_nx, ↓next_ret, ↓next_brk, ↓next_ct, ↓turn_nx, ↓turn_ct, ↓turn_brk, ↓turn_ret, ↓fin_ret, ↓fin_nx, Ok_ok, Ok_er, slotAt_mk, List.getD_cons_succ, List.getD_cons_zero, List.set_cons_succ, List.set_cons_zero, List.cons_append, List.nil_append, List.append_nil, List.replicate, List.foldl, varR_val, varR_own, varR_bor, peek_val, peek_own, peek_bor, peekS_val, peekS_own, peekS_bor, freeze_val, freeze_own, freeze_bor, frzS_own, frzS_val, iterF_val, iterF_own, iterF_bor, itfS_own, itfS_val, itfS_bor, asgR_val, asgR_own, asgR_bor, agS_val, agS_own, agS_bor, asgR_tp, asgD_nm, asgD_tp, asgAll_nil, asgAll_cons, wipeS_mk, backS_mk, toSls0, Ok_toSls1, toSl_val, toSl_own, toSl_bor, tslS_val, tslS_own, tslS_bor, esc_pg, cxF_call, cxF_N, outR_val, outR_own, outR_bor, outS_val, outS_own, content_val, content_own, content_bor, Option.isSome_some, valR_val, ownL_own, ownK_own, noBor_val, noBor_own, add_int, sub_int, len_lst, len_tup, len_dct, int_int, list_lst, list_tup, tuple_lst, tuple_tup, ord_str, itemsC_lst, itemsC_tup, itemsD_lst, itemsD_tup, itemsD_str, eq_int, ne_int, lt_int, gt_int, le_int, ge_int, truth_bl, truth_lst, truth_tup, part_non, part_int, Ok_md, Ok_fdiv, Ok_mul, Ok_idx_lst, Ok_idx_tup, Ok_idx_str, Ok_listr, isE_map, isE_snoc, subW_mk, Ok_sortset, atI0, atI1, atI2, atI3, cutD_to, cutD_from, eq_str, ne_str, decide_true, decide_false, Option.map_some, Option.map_none, pop_snoc, Ok_add_str, Ok_add_tup, Ok_add_lst, Ok_len_str, Ok_rng1, Ok_rng2, Ok_append, Ok_extendL, Ok_extendT, slc_tup, slc_lst, Ok_slc_str, still_val, rev_lst, if_true, if_false, ite_true, ite_false, Bool.false_eq_true, if_true', reduceIte, true_and, and_true, Bool.not_true, Bool.not_false, Bool.not_not, exists_eq_left', exists_eq_left, Option.some.injEq, $as,*])
/-! SpW: the law. -/
section
variable {s t : (List ((List Nat) × Int))}
theorem seen_dif (hs : Sh s) (ht : Sh t) (ds : Dn s) (dt : Dn t) (hh : hid s t = false) : seen (KL s t) = pre (dif s t) := by
  unfold seen pre setE
  refine sort_same (vis_nodup (KL_grows hs ht) 32 []) nodup_ddE fun q => ?_
  rw [mem_ddE]
  refine Iff.trans ?_ (mem_setE (x := q))
  constructor
  · exact fun hq => V_dif hs ht ds dt q hq
  · intro hq
    rcases mem_pre.mp (show q ∈ pre (dif s t) from hq) with rfl | ⟨m, hm, hp⟩
    · exact V_self _
    · have := V_all hs ht hh hm q.length hp.length_le
      rw [take_pre.mpr hp] at this
      exact this
theorem hid_self : hid s s = false := by
  refine List.any_eq_false.mpr fun p _ => ?_
  rw [Bool.not_eq_true]
  refine List.any_eq_false.mpr fun x _ => ?_
  simp [hx]
theorem setE_nil : setE [] = [] := by simp [setE, ddE, sortE]
theorem dif_self : dif s s = [] := by
  have : s.filter (fun q => !decide (q ∈ s)) = [] := List.filter_eq_nil_iff.mpr fun q hq => by simp [hq]
  rw [dif, this]
  exact setE_nil
theorem pre_nil : pre [] = [[]] := by
  show sortE D.str (ddE [[]]) = [[]]
  exact sortE_self (by simp [ddE])
theorem hid_nil (h : nm s = []) : hid s t = false := by
  refine List.any_eq_false.mpr fun p _ => ?_
  rw [Bool.not_eq_true]
  refine List.any_eq_false.mpr fun x hxx => ?_
  have hm := List.mem_append.mp (mem_setE.mp hxx)
  have h1 : p ++ x ∉ pre (nm s) := fun z => by
    have hx1 := (sg_pre hm).mp z
    obtain ⟨c, rfl, q, hq, _⟩ := mem_kids.mp (mem_setE.mp hx1)
    have : q.1 ∈ nm s := List.mem_map.mpr ⟨q, hq, rfl⟩
    rw [h] at this
    cases this
  simp [hx, df, h1]
end
theorem abT : pre [[97, 98]] = [[], [97], [97, 98]] := by
  have h1 : ([[], [97], [97, 98]] : List (List Nat)).Pairwise fun a b => ltE D.str b a = false := by
    simp only [List.pairwise_cons, List.mem_cons, List.not_mem_nil, or_false, forall_eq_or_imp, forall_eq, List.Pairwise.nil, and_true, false_implies, implies_true]
    exact ⟨⟨by decide +kernel, by decide +kernel⟩, by decide +kernel⟩
  have h2 : ([[], [97], [97, 98]] : List (List Nat)) = sortE D.str [[], [97], [97, 98]] := (sortE_self h1).symm
  rw [h2]
  refine sort_same nodup_ddE (by decide) fun q => ?_
  rw [mem_ddE]
  constructor
  · intro hq
    have hq' : q ∈ pre [[97, 98]] := mem_setE.mpr hq
    rcases mem_pre.mp hq' with rfl | ⟨m, hm, hp⟩
    · simp
    · rw [List.mem_singleton] at hm
      subst hm
      have e := take_pre.mpr hp
      have hl := hp.length_le
      simp only [List.length_cons, List.length_nil] at hl
      have : q.length = 0 ∨ q.length = 1 ∨ q.length = 2 := by omega
      rcases this with h | h | h <;> rw [h] at e <;> rw [← e] <;> simp
  · intro hq
    have : q ∈ pre [[97, 98]] := by
      refine mem_pre.mpr ?_
      simp only [List.mem_cons, List.not_mem_nil, or_false] at hq
      rcases hq with rfl | rfl | rfl
      · exact .inl rfl
      · exact .inr ⟨_, List.mem_singleton.mpr rfl, ⟨[98], rfl⟩⟩
      · exact .inr ⟨_, List.mem_singleton.mpr rfl, List.prefix_refl _⟩
    exact mem_setE.mp this
section
variable {N k n : Nat} {mh : MH}
theorem e_search_hid {s t : (List ((List Nat) × Int))} (hs : Sh s) (ht : Sh t) (ds : Dn s) (dt : Dn t) (hh : hid s t = false) (hN : 10000 < N) : evF pg N (k + 7) i_stamp_search [.val (eS s), .val (eS t)] mh = .ok (.val (.tup [.tup ((dif s t).map .str), .tup ((pre (dif s t)).map .str)]), mh) := by
  rw [e_stamp_search hs ht hN, found_P, seen_P, found_dif hs ht ds dt hh, seen_dif hs ht ds dt hh]
theorem e_search_self {s : (List ((List Nat) × Int))} (hs : Sh s) (ds : Dn s) (hN : 10000 < N) : evF pg N (k + 7) i_stamp_search [.val (eS s), .val (eS s)] mh = .ok (.val (.tup [.tup [], .tup [.str []]]), mh) := by
  rw [e_search_hid hs hs ds ds hid_self hN, dif_self, pre_nil]; rfl
theorem e_search_one {s t : (List ((List Nat) × Int))} {x : (List Nat)} (hs : Sh s) (ht : Sh t) (ds : Dn s) (dt : Dn t) (h : One s t x) (hN : 10000 < N) : evF pg N (k + 7) i_stamp_search [.val (eS s), .val (eS t)] mh = .ok (.val (.tup [.tup ([x].map .str), .tup ((pre [x]).map .str)]), mh) := by
  rw [e_stamp_search hs ht hN, found_P, seen_P, h.found hs ht ds dt, h.seen hs ht ds dt]
theorem pre_len0 {names : List (List Nat)} (h : NmOk names) : (pre names).length ≤ 16777216 := Nat.le_trans (pre_len h) (by decide)
theorem one_set {s : (List ((List Nat) × Int))} {l : Nat} (h : StOk s l) {i : Nat} (hi : i < s.length) {v : Int} (hv : s[i].2 % 65521 ≠ v % 65521) : One s (s.take i ++ [(s[i].1, v)] ++ s.drop (i + 1)) s[i].1 := by
  have hset := h.set hi v
  have e0 : s = s.take i ++ [s[i]] ++ s.drop (i + 1) := by
    rw [List.take_append_getElem, List.take_append_drop]
  have en : nm (s.take i ++ [(s[i].1, v)] ++ s.drop (i + 1)) = nm s := by
    conv => rhs; rw [e0]
    rw [nm_app, nm_app, nm_app, nm_app]; rfl
  have hne : s[i].2 ≠ v := fun z => hv (by rw [z])
  have m1 : (s[i].1, s[i].2) ∈ s := List.getElem_mem hi
  have m2 : (s[i].1, v) ∈ s.take i ++ [(s[i].1, v)] ++ s.drop (i + 1) := by simp
  have val : ∀ {a : (List ((List Nat) × Int))}, Dn a → ∀ {x : (List Nat)} {y z : Int}, (x, y) ∈ a → (x, z) ∈ a → y = z := fun {a} ha x y z h1 h2 => by
    rcases own_one (p := x) ha with e | ⟨w, e⟩
    · have := mem_own.mpr h1
      rw [e] at this; cases this
    · have h1 := mem_own.mpr h1
      have h2 := mem_own.mpr h2
      rw [e, List.mem_singleton] at h1 h2
      rw [h1, h2]
  have ownv : ∀ {a : (List ((List Nat) × Int))}, Dn a → ∀ {x : (List Nat)} {y : Int}, (x, y) ∈ a → own a x = [y] := fun {a} ha x y h1 => by
    have h2 := mem_own.mpr h1
    rcases own_one (p := x) ha with e | ⟨w, e⟩
    · rw [e] at h2; cases h2
    · rw [e, List.mem_singleton] at h2
      rw [e, h2]
  refine ⟨en, ?_, s[i].2, v, ownv h.nd m1, ownv hset.nd m2, hv⟩
  have e1 : [s[i].1] = sortE D.str [s[i].1] := (sortE_self (by simp)).symm
  rw [e1]
  unfold dif setE
  refine sort_same nodup_ddE (by simp) fun x => ?_
  rw [mem_ddE, List.mem_singleton]
  refine Iff.trans (mem_setE (x := x)).symm ?_
  constructor
  · intro hx
    refine Decidable.byContradiction fun hne2 => ?_
    have oth : ∀ y : Int, (x, y) ∈ s ↔ (x, y) ∈ s.take i ++ [(s[i].1, v)] ++ s.drop (i + 1) := fun y => by
      conv => lhs; rw [e0]
      simp only [List.mem_append, List.mem_singleton]
      have h1 : (x, y) ≠ s[i] := fun z => hne2 (congrArg Prod.fst z)
      have h2 : (x, y) ≠ (s[i].1, v) := fun z => hne2 (congrArg Prod.fst z)
      simp [h1, h2]
    rcases mem_dif.mp (show x ∈ dif s (s.take i ++ [(s[i].1, v)] ++ s.drop (i + 1)) from hx) with ⟨y, h1, h2⟩ | ⟨y, h1, h2⟩
    · exact h2 ((oth y).mp h1)
    · exact h2 ((oth y).mpr h1)
  · rintro rfl
    refine mem_dif.mpr (.inl ⟨s[i].2, m1, fun z => hne (val hset.nd z m2)⟩)
/-! stores' stamps -/
theorem nm_sts {a : List Pa} : nm (sts a) = pnm a := by
  rw [nm, sts, List.map_map]; rfl
theorem sts_ok {a : List Pa} (hok : ∀ p ∈ a, PaOk p) (hn : (pnm a).Nodup) (hl : a.length ≤ 60) : Sh (sts a) ∧ Dn (sts a) := by
  refine ⟨⟨by rw [sts, List.length_map]; exact hl, fun q hq => ?_⟩, by rw [Dn, nm_sts]; exact hn⟩
  obtain ⟨p, hp, rfl⟩ := List.mem_map.mp hq
  exact Nat.le_trans (hok p hp).nm (by decide)
theorem mem_sts {a : List Pa} (hn : (pnm a).Nodup) {p : Pa} (hp : p ∈ a) {x : (List Nat)} {v : Int} : (x, v) ∈ sts a → x = p.nm → v = stamp p := by
  intro h e
  obtain ⟨q, hq, e2⟩ := List.mem_map.mp h
  cases e2
  rw [nm_inj hn hq hp e]
/-- what is left behind taking out what differs -/
theorem left_part {U a : List Pa} (hU : (pnm U).Nodup) (hsub : ∀ p ∈ a, p ∈ U) (ha : (pnm a).Nodup) (hsU : Srt U) (hsa : Srt a) : U.filter (fun p => !decide (p.nm ∈ dif (sts U) (sts a))) = a := by
  have nodup_of : ∀ {l : List Pa}, (pnm l).Nodup → l.Nodup := fun {l} h => by
    rw [List.nodup_iff_pairwise_ne] at h ⊢
    rw [pnm, List.pairwise_map] at h
    exact h.imp fun hab e => hab (by rw [e])
  refine sortedE_eq (e := ePa) ((List.perm_ext_iff_of_nodup ((nodup_of hU).filter _) (nodup_of ha)).mpr fun p => ?_) (hsU.filter _) hsa
  rw [List.mem_filter]
  constructor
  · rintro ⟨hp, hd⟩
    refine Decidable.byContradiction fun hpa => ?_
    have : p.nm ∈ dif (sts U) (sts a) := by
      refine mem_dif.mpr (.inl ⟨stamp p, List.mem_map.mpr ⟨p, hp, rfl⟩, fun z => ?_⟩)
      obtain ⟨q, hq, e⟩ := List.mem_map.mp z
      have e1 : q.nm = p.nm := congrArg Prod.fst e
      exact hpa (nm_inj hU (hsub q hq) hp e1 ▸ hq)
    simp [this] at hd
  · intro hp
    refine ⟨hsub p hp, ?_⟩
    have : p.nm ∉ dif (sts U) (sts a) := fun z => by
      rcases mem_dif.mp z with ⟨v, h1, h2⟩ | ⟨v, h1, h2⟩
      · have := mem_sts hU (hsub p hp) h1 rfl
        subst this
        exact h2 (List.mem_map.mpr ⟨p, hp, rfl⟩)
      · have := mem_sts ha hp h1 rfl
        subst this
        exact h2 (List.mem_map.mpr ⟨p, hsub p hp, rfl⟩)
    simp [this]
end

end Sk

end

section
set_option Elab.async false
set_option linter.all false
set_option maxRecDepth 100000
set_option maxHeartbeats 4000000
namespace Sk
open PySem
local macro_rules
  | `(tactic| simp_arith [$as,*]) => `(tactic| simp only [w_lit, w_var, w_tup, w_lst, w_dnew, w_bin, w_cmp, w_isnone, w_isinst, w_and, w_or, w_not, w_ife, w_idx, w_slc, w_rev, w_call, w_blt, w_meth, w_mut, w_rng, w_A0, w_A1, w_R0, w_R1, w_C0, w_C1, w_lcW, w_lc, w_lc2, w_dcW, w_dc, w_dvals, w_ex, w_asg, w_par, w_sub, w_ret, w_sif, w_whl, w_for, w_forF, w_pass, w_brk, w_cnt, w_B0, w_B1, w_test, w_iterR, ↓next_nx, ↓next_ret, ↓next_brk, ↓next_ct, ↓turn_nx, ↓turn_ct, ↓turn_brk, ↓turn_ret, ↓fin_ret, ↓fin_nx, Ok_ok, Ok_er, slotAt_mk, List.getD_cons_succ, List.getD_cons_zero, List.set_cons_succ, List.set_cons_zero, List.cons_append, List.nil_append, List.append_nil, List.replicate, List.foldl, varR_val, varR_own, varR_bor, peek_val, peek_own, peek_bor, peekS_val, peekS_own, peekS_bor, freeze_val, freeze_own, freeze_bor, frzS_own, frzS_val, iterF_val, iterF_own, iterF_bor, itfS_own, itfS_val, itfS_bor, asgR_val, asgR_own, asgR_bor, agS_val, agS_own, agS_bor, asgR_tp, asgD_nm, asgD_tp, asgAll_nil, asgAll_cons, wipeS_mk, backS_mk, toSls0, Ok_toSls1, toSl_val, toSl_own, toSl_bor, tslS_val, tslS_own, tslS_bor, esc_pg, cxF_call, cxF_N, outR_val, outR_own, outR_bor, outS_val, outS_own, content_val, content_own, content_bor, Option.isSome_some, valR_val, ownL_own, ownK_own, noBor_val, noBor_own, add_int, sub_int, len_lst, len_tup, len_dct, int_int, list_lst, list_tup, tuple_lst, tuple_tup, ord_str, itemsC_lst, itemsC_tup, itemsD_lst, itemsD_tup, itemsD_str, eq_int, ne_int, lt_int, gt_int, le_int, ge_int, truth_bl, truth_lst, truth_tup, part_non, part_int, Ok_md, Ok_fdiv, Ok_mul, Ok_idx_lst, Ok_idx_tup, Ok_idx_str, Ok_listr, isE_map, isE_snoc, subW_mk, Ok_sortset, atI0, atI1, atI2, atI3, cutD_to, cutD_from, eq_str, ne_str, decide_true, decide_false, Option.map_some, Option.map_none, pop_snoc, Ok_add_str, Ok_add_tup, Ok_add_lst, Ok_len_str, Ok_rng1, Ok_rng2, Ok_append, Ok_extendL, Ok_extendT, slc_tup, slc_lst, Ok_slc_str, still_val, rev_lst, if_true, if_false, ite_true, ite_false, Bool.false_eq_true, if_true', reduceIte, true_and, and_true, Bool.not_true, Bool.not_false, Bool.not_not, exists_eq_left', exists_eq_left, Option.some.injEq, $as,*])
/-! SpX: the law holds. -/
section
variable {N k : Nat}
theorem sub_names {st : List Pa} {ys : List D} (h : ys.Sublist ((pnm st).map D.str)) : ∃ ns : List (List Nat), ys = ns.map .str ∧ (∀ x ∈ ns, x ∈ pnm st) ∧ ns.length ≤ st.length := by
  obtain ⟨l, hl, rfl⟩ := List.sublist_map_iff.mp h
  exact ⟨l, rfl, fun x hx => hl.subset hx, by have := hl.length_le; rw [pnm, List.length_map] at this; exact this⟩
theorem e_law (ns : List Int) (hN : 3000000 < N) : Ok (evF pg N (k + 12) i_law [.val (.ref 0)] [.scr (ns.map .int)]) fun p => p.1 = .val (.bl true) := by
  have hsz : ∀ n : Nat, n ≤ 3000000 → n ≤ sz := fun n h => by unfold sz; omega
  have hN1 : 10000 < N := by omega
  have hN2 : 100000 < N := by omega
  refine w_F pg_law rfl (by decide) ?_
  simp_arith [d_law]
  refine ⟨by decide, ?_⟩
  refine for_inv (fun d s => ∃ (x1 x2 x3 x4 x5 x6 x7 x8 x9 x10 x11 x12 x13 x14 x15 x16 x17 x18 x19 : Sl) (mh : MH), s = ⟨[.val (.ref 0), x1, x2, x3, x4, x5, x6, x7, x8, x9, x10, x11, x12, x13, x14, x15, x16, x17, x18, x19], mh⟩ ∧ mh[0]? = some (.scr (ns.map .int))) ⟨_, _, _, _, _, _, _, _, _, _, _, _, _, _, _, _, _, _, _, _, rfl, rfl⟩ ?_ ?_
  · rintro d i r s e ⟨x1, x2, x3, x4, x5, x6, x7, x8, x9, x10, x11, x12, x13, x14, x15, x16, x17, x18, x19, mh, rfl, h0⟩
    have hi : i ≤ 1000 := by
      have : i ∈ List.range (Int.toNat 2) := by rw [e]; simp
      have := List.mem_range.mp this
      simp only [show Int.toNat 2 = 2 from rfl] at this
      omega
    obtain ⟨z, hz, ecell⟩ := e_cell (N := N) (k := k + 10) h0 hi
    obtain ⟨ds, hds, edr⟩ := e_draws (N := N) (k := k + 10) (mh := mh) z
    simp_arith [ecell, edr, w_disp]
    have hml : 0 < mh.length := by
      rcases Nat.eq_zero_or_pos mh.length with h | h
      · rw [List.getElem?_eq_none (by omega)] at h0; cases h0
      · exact h
    have hmade : Made (mh ++ [MO.dct ([D.str [100, 114, 97, 119, 115], D.str [97, 116]].zip [D.lst (ds.map .int), D.int 0])]) mh.length := ⟨⟨ds, 0, hds, Int.le_refl _, by simp; rfl⟩⟩
    have h1 : (mh ++ [MO.dct ([D.str [100, 114, 97, 119, 115], D.str [97, 116]].zip [D.lst (ds.map .int), D.int 0])])[0]? = some (.scr (ns.map .int)) := by rw [List.getElem?_append_left hml]; exact h0
    have still0 : ∀ {a b : MH}, a[0]? = some (.scr (ns.map .int)) → Mv mh.length a b → b[0]? = some (.scr (ns.map .int)) := fun {a b} ha hb => by rw [hb.oth 0 (by omega)]; exact ha
    refine (sp_menu_store hmade hN).mono ?_
    rintro ⟨r1, mh1⟩ ⟨st, hst, hsrt, rfl, hmv1⟩
    have h2 := still0 h1 hmv1
    simp_arith [w_lit]
    refine lc_mp (em := D.str) (fun p => p.nm) (fun p hp => ?_) ?_
    · simp_arith [i_pa0]
    simp_arith [w_lit]
    refine (sp_some (xs := (st.map fun p => p.nm).map D.str) (.inr rfl) hmv1.made).mono ?_
    rintro ⟨r2, mh2⟩ ⟨ys, hys, rfl, hmv2⟩
    obtain ⟨n1, rfl, hn1, hl1⟩ := sub_names (st := st) hys
    have hsl := hst.sl
    simp_arith [w_lit]
    refine (sp_cut_to hst hn1 (by omega) hN2).mono ?_
    rintro _ ⟨R1, rfl⟩
    simp_arith [w_lit]
    refine (sp_some (xs := (st.map fun p => p.nm).map D.str) (.inr rfl) hmv2.made).mono ?_
    rintro ⟨r3, mh3⟩ ⟨ys, hys, rfl, hmv3⟩
    obtain ⟨n2, rfl, hn2, hl2⟩ := sub_names (st := st) hys
    simp_arith [w_lit]
    refine (sp_cut_to hst hn2 (by omega) hN2).mono ?_
    rintro _ ⟨R2, rfl⟩
    generalize ea : st.filter (fun q => decide (q.nm ∈ R1)) = a
    generalize eb : st.filter (fun q => decide (q.nm ∈ R2)) = b
    have sa : a.Sublist st := by rw [← ea]; exact List.filter_sublist
    have sb : b.Sublist st := by rw [← eb]; exact List.filter_sublist
    have oka : ∀ p ∈ a, PaOk p := fun p hp => hst.ok p (sa.subset hp)
    have okb : ∀ p ∈ b, PaOk p := fun p hp => hst.ok p (sb.subset hp)
    have nda : (pnm a).Nodup := (sa.map _).nodup hst.nd
    have ndb : (pnm b).Nodup := (sb.map _).nodup hst.nd
    have la : a.length ≤ 15 := Nat.le_trans sa.length_le hsl
    have lb : b.length ≤ 15 := Nat.le_trans sb.length_le hsl
    have srta : Srt a := hsrt.sublist sa
    have srtb : Srt b := hsrt.sublist sb
    obtain ⟨sha, dna⟩ := sts_ok oka nda (by omega)
    obtain ⟨shb, dnb⟩ := sts_ok okb ndb (by omega)
    have ndU : (pnm (a ++ b.filter fun p => !decide (p ∈ a))).Nodup := by
      rw [pnm, List.map_append, List.nodup_append]
      refine ⟨nda, (List.filter_sublist.map _).nodup ndb, ?_⟩
      rintro x hx y hy rfl
      obtain ⟨p, hp, rfl⟩ := List.mem_map.mp hx
      obtain ⟨q, hq, e⟩ := List.mem_map.mp hy
      obtain ⟨hq1, hq2⟩ := List.mem_filter.mp hq
      have := nm_inj hst.nd (sb.subset hq1) (sa.subset hp) e
      subst this
      simp [hp] at hq2
    have lU : (a ++ b.filter fun p => !decide (p ∈ a)).length ≤ 30 := by
      have := List.length_filter_le (fun p => !decide (p ∈ a)) b
      rw [List.length_append]; omega
    have memU : ∀ p, p ∈ tog a b ↔ p ∈ a ∨ p ∈ b := fun p => by
      rw [tog, mem_sortE, List.mem_append, List.mem_filter]
      by_cases hpa : p ∈ a <;> simp [hpa]
    have okU : ∀ p ∈ tog a b, PaOk p := fun p hp => ((memU p).mp hp).elim (oka p) (okb p)
    have ndT : (pnm (tog a b)).Nodup := by
      have q : ((a ++ b.filter fun p => !decide (p ∈ a)).map (·.nm)).Nodup := ndU
      exact ((sortE_perm (e := ePa) (a ++ b.filter fun p => !decide (p ∈ a))).map (·.nm)).nodup_iff.mpr q
    have lT : (tog a b).length ≤ 30 := by rw [tog, sortE_len]; exact lU
    have srtT : Srt (tog a b) := sortE_sorted _
    obtain ⟨shT, dnT⟩ := sts_ok okU ndT (by omega)
    have etog : ∀ {k : Nat} {mh : MH}, evF pg N (k + 1) i_together [.val (eSto a), .val (eSto b)] mh = .ok (.val (eSto (tog a b)), mh) := fun {k mh} => e_together ndU (by omega)
    simp_arith [e_stamps_of oka, e_stamps_of okb, e_law_search_due sha shb dna dnb hN1, etog, e_stamps_of okU, List.length_cons, List.length_nil]
    refine ⟨by decide, ?_⟩
    refine for_inv (ys := [a, b]) (en := eSto) (fun d s => ∃ (y8 y9 y10 y12 y13 y14 y15 : Sl), s = ⟨[.val (.ref 0), .val (.int (i : Int)), .val (.ref mh.length), .val (eSto st), .own (.lst ((st.map fun p => p.nm).map D.str)), .val (eSto a), .val (eSto b), .val (eS (sts (tog a b))), y8, y9, y10, x11, y12, y13, y14, y15, x16, x17, x18, x19], mh3⟩) ⟨x8, x9, x10, x12, x13, x14, x15, rfl⟩ ?_ ?_
    · rintro d p r' s e' ⟨y8, y9, y10, y12, y13, y14, y15, rfl⟩
      have hp : p = a ∨ p = b := by
        have : p ∈ [a, b] := by rw [e']; simp
        simpa using this
      have okp : ∀ q ∈ p, PaOk q := by rcases hp with rfl | rfl <;> assumption
      have ndp : (pnm p).Nodup := by rcases hp with rfl | rfl <;> assumption
      have srtp : Srt p := by rcases hp with rfl | rfl <;> assumption
      have subp : ∀ q ∈ p, q ∈ tog a b := fun q hq => (memU q).mpr (by rcases hp with rfl | rfl <;> simp [hq])
      obtain ⟨shp, dnp⟩ := sts_ok okp ndp (by rcases hp with rfl | rfl <;> omega)
      have elp := left_part ndT subp ndp srtT srtp
      simp_arith [e_stamps_of okp, e_law_search_due shT shp dnT dnp hN1, e_law_stamps okp, e_law_search shT shp hN1, resL, etog]
      refine lc_fl (fun q => !decide (q.nm ∈ found (KL (sts (tog a b)) (sts p)) (sts (tog a b)) (sts p))) (fun q hq => ?_) ?_
      · simp_arith [i_pa0, En.nin_tup (e := D.str)]
        by_cases hm : q.nm ∈ found (KL (sts (tog a b)) (sts p)) (sts (tog a b)) (sts p)
        · simp_arith [hm]
        · simp_arith [hm]
      cases hh : hid (sts (tog a b)) (sts p) with
      | true =>
        simp_arith [w_lit]
        exact ⟨_, _, _, _, _, _, _, rfl⟩
      | false =>
        rw [found_dif shT shp dnT dnp hh, elp]
        simp_arith [ne_tups (e := ePa), decide_true]
        exact ⟨_, _, _, _, _, _, _, rfl⟩
    · rintro s ⟨y8, y9, y10, y12, y13, y14, y15, rfl⟩
      have h3 := still0 (still0 h2 hmv2) hmv3
      simp_arith [w_lit]
      refine ⟨by decide, ?_⟩
      refine for_inv (fun d s => ∃ (y9 y11 y16 y17 y18 y19 : Sl) (mh4 : MH), s = ⟨[.val (.ref 0), .val (.int (i : Int)), .val (.ref mh.length), .val (eSto st), .own (.lst ((st.map fun p => p.nm).map D.str)), .val (eSto a), .val (eSto b), .val (eS (sts (tog a b))), y8, y9, y10, y11, y12, y13, y14, y15, y16, y17, y18, y19], mh4⟩ ∧ Mv mh.length mh3 mh4) ⟨y9, x11, x16, x17, x18, x19, mh3, rfl, Mv.refl hmv3.made⟩ ?_ ?_
      · rintro d j r' s e' ⟨y9, y11, y16, y17, y18, y19, mh4, rfl, hmv4⟩
        simp_arith [w_lit]
        refine (sp_made_stamps (m := 7) hmv4.made (by decide) (by decide)).mono ?_
        rintro ⟨r5, mh5⟩ ⟨u, hu1, hu2, hu3, rfl, hmv5⟩
        have hu : StOk u 7 := ⟨hu1, hu2, hu3⟩
        have shu := hu.sh (by decide)
        simp_arith [w_lit]
        refine (sp_bent_stamps hmv5.made (hu.mono (by decide))).mono ?_
        rintro ⟨r6, mh6⟩ ⟨t, ht, rfl, hmv6⟩
        have sht := ht.sh (by decide)
        have his : ∀ {k : Nat} {mh : MH}, evF pg N (k + 4) i__law_is [.val (.tup [.tup [], .tup [.str []]]), .val (.tup [.tup [], .tup [.str []]])] mh = .ok (.val (.bl true), mh) := fun {k mh} => e_law_is2 (a := []) (b := [[]]) (by decide) (by decide)
        simp_arith [e_law_search_due shu sht hu.nd ht.nd hN1, e_law_search_due shu shu hu.nd hu.nd hN1, e_search_self shu hu.nd hN1, his, List.length_cons, List.length_nil, List.length_map]
        refine ⟨by decide, by decide, by decide, ?_⟩
        have hmv46 := (hmv4.trans hmv5).trans hmv6
        by_cases hpos : 0 < u.length
        · rw [if_pos (decide_eq_true (by omega))]
          refine (sp_takeN hmv6.made (by omega)).mono ?_
          rintro ⟨r7, mh7⟩ ⟨at', hat, rfl, hmv7⟩
          have hat' : at' < u.length := by omega
          simp_arith [atI_ofNat, List.getElem?_map, List.getElem?_eq_getElem hat']
          simp_arith [eN]
          refine (sp_takeN hmv7.made (by decide)).mono ?_
          rintro ⟨r8, mh8⟩ ⟨dv, hdv, rfl, hmv8⟩
          have hv : u[at'].2 % 65521 ≠ ((u[at'].2 + 1 + (dv : Int)) % 65521) % 65521 := by omega
          have h1 := one_set hu hat' hv
          have hset := hu.set hat' ((u[at'].2 + 1 + (dv : Int)) % 65521)
          have es := e_search_one (N := N) (k := k + 4) (mh := mh8) shu (hset.sh (by decide)) hu.nd hset.nd h1 hN1
          have nmk : NmOk [u[at'].1] := ⟨by simp, fun x hx => by
            rw [List.mem_singleton.mp hx]
            exact shu.2 _ (List.getElem_mem hat')⟩
          have il := e_law_is2 (N := N) (k := k + 7) (mh := mh8) (a := [u[at'].1]) (b := pre [u[at'].1]) (by simp) (pre_len0 nmk)
          have bg := e_law_begins (N := N) (k := k + 10) (mh := mh8) nmk
          have e9 : (u.take at').map eN ++ [D.tup [.str u[at'].1, .int ((u[at'].2 + 1 + (dv : Int)) % 65521)]] ++ (u.drop (at' + 1)).map eN = (u.take at' ++ [(u[at'].1, (u[at'].2 + 1 + (dv : Int)) % 65521)] ++ u.drop (at' + 1)).map eN := by
            simp only [List.map_append, List.map_cons, List.map_nil, eN]
          simp only [List.map_cons, List.map_nil] at il es bg
          have hl8 := hset.len
          have hl9 : (u.take at').length ≤ 7 ∧ (u.drop (at' + 1)).length ≤ 7 := by
            rw [List.length_take, List.length_drop]; omega
          simp_arith [p65521, map_take', map_drop', cutD_from1, e9, es, il, bg, List.length_cons, List.length_nil, List.length_map, List.length_append]
          repeat (refine And.intro (by first | decide | exact hsz _ (by omega)) ?_)
          exact ⟨_, _, _, _, _, _, _, rfl, (hmv46.trans hmv7).trans hmv8⟩
        · rw [if_neg (fun z => hpos (by have := of_decide_eq_true z; omega))]
          exact ⟨_, _, _, _, _, _, _, rfl, hmv46⟩
      · rintro s ⟨y9, y11, y16, y17, y18, y19, mh4, rfl, hmv4⟩
        simp_arith [w_lit]
        exact ⟨_, _, _, _, _, _, _, _, _, _, _, _, _, _, _, _, _, _, _, _, rfl, still0 h3 hmv4⟩
  · rintro s ⟨x1, x2, x3, x4, x5, x6, x7, x8, x9, x10, x11, x12, x13, x14, x15, x16, x17, x18, x19, mh, rfl, h0⟩
    have sh0 : Sh ([] : (List ((List Nat) × Int))) := ⟨by simp, by simp⟩
    have sh1 : Sh [(([97, 98] : (List Nat)), (7 : Int))] := ⟨by simp, by simp⟩
    have dn0 : Dn ([] : (List ((List Nat) × Int))) := by unfold Dn nm; simp
    have dn1 : Dn [(([97, 98] : (List Nat)), (7 : Int))] := by unfold Dn nm; simp
    have d01 : dif ([] : (List ((List Nat) × Int))) [(([97, 98] : (List Nat)), (7 : Int))] = [[97, 98]] := by
      show sortE D.str (ddE ([] ++ [[97, 98]])) = [[97, 98]]
      exact sortE_self (by simp [ddE])
    have q1 := e_search_hid (N := N) (k := k + 4) (mh := mh) sh0 sh1 dn0 dn1 (hid_nil rfl) hN1
    rw [d01, abT] at q1
    have q2 := e_search_self (N := N) (k := k + 4) (mh := mh) sh0 dn0 hN1
    have l1 := e_law_is2 (N := N) (k := k + 7) (mh := mh) (a := [[97, 98]]) (b := [[], [97], [97, 98]]) (by decide) (by decide)
    have l2 := e_law_is2 (N := N) (k := k + 7) (mh := mh) (a := []) (b := [[]]) (by decide) (by decide)
    simp only [List.map_cons, List.map_nil, eS, eN] at q1 q2 l1 l2
    simp_arith [List.length_cons, List.length_nil, q1, q2, l1, l2]
    repeat (refine And.intro (by decide) ?_)
    first | rfl | decide
end
theorem law_ok : ∀ ns : List Int, ns.length ≤ 63 → (∀ z ∈ ns, Builtin.Int.intBits z ≤ 1048576) → ∃ mh, evF pg 1000000000 62 62 [.val (.ref 0)] [.scr (ns.map .int)] = .ok (.val (.bl true), mh) := fun ns _ _ => by
  obtain ⟨⟨r, mh⟩, e, h⟩ := e_law (N := 1000000000) (k := 50) ns (by decide)
  have h : r = .val (.bl true) := h
  subst h
  exact ⟨mh, e⟩

end Sk

end

set_option Elab.async false
set_option linter.all false
set_option maxRecDepth 100000
set_option maxHeartbeats 0
namespace Sk
open PySem PySem.Spec PyProof.Rows L2
def top (i : Nat) : Stmt := PySem.Challenge.pw_skein_k72_whole_searches_for_what_differ.main.body.getD i (.Pass ⟨0, 0, 0, 0⟩)
def defs : List (Str × Nat) := [(("named_in" : Str), 1), (("needs_of" : Str), 1), (("sum_of" : Str), 1), (("spot_text" : Str), 1), (("write_patch" : Str), 1), (("patch_stamp" : Str), 1), (("stamps_of" : Str), 1), (("fold_row" : Str), 1), (("own_stamp" : Str), 2), (("begun_by" : Str), 2), (("branch_signs" : Str), 2), (("node_row" : Str), 1), (("node_digest" : Str), 1), (("stale_prefixes" : Str), 1), (("ranked_prefixes" : Str), 1), (("branch_pairs" : Str), 3), (("digest_tree" : Str), 1), (("digest_under" : Str), 2), (("differing_signs" : Str), 3), (("stamp_search" : Str), 2), (("reach_of" : Str), 2), (("cut_to" : Str), 2), (("together" : Str), 2), (("_law_cell" : Str), 2), (("_law_draws" : Str), 2), (("_law_is_integer" : Str), 1), (("_law_is" : Str), 2), (("_law_take" : Str), 2), (("_law_made_line" : Str), 1), (("_law_made_text" : Str), 2), (("_law_bent_lines" : Str), 2), (("_law_keeping" : Str), 2), (("_law_order" : Str), 1), (("_law_alive" : Str), 1), (("_law_line" : Str), 2), (("_law_odds" : Str), 1), (("_law_row" : Str), 1), (("_law_text_of" : Str), 1), (("_law_recorded" : Str), 3), (("_law_needs" : Str), 1), (("_law_reach" : Str), 2), (("_law_some" : Str), 2), (("_law_menu_store" : Str), 2), (("_law_cut" : Str), 2), (("_law_sum" : Str), 1), (("_law_spot" : Str), 1), (("_law_patch_rows" : Str), 1), (("_law_stamp" : Str), 1), (("_law_stamps" : Str), 1), (("_law_fold" : Str), 1), (("_law_own" : Str), 2), (("_law_signs" : Str), 2), (("_law_node" : Str), 3), (("_law_node_sum" : Str), 1), (("_law_begins" : Str), 1), (("_law_tree" : Str), 1), (("_law_made_stamps" : Str), 2), (("_law_search" : Str), 2), (("_law_begun" : Str), 2), (("_law_differing" : Str), 2), (("_law_search_due" : Str), 2), (("_law_bent_stamps" : Str), 2), (("law" : Str), 1)]
def con : List (Str × D) := [(("TOP" : Str), (.tup [(.str []), (.int 0)])), (("BOTTOM" : Str), (.tup [(.str []), (.int 1)])), (("PRIME" : Str), (.int 65521))]
def bl : List Str := [("ValueError" : Str), ("abs" : Str), ("all" : Str), ("bool" : Str), ("int" : Str), ("isinstance" : Str), ("len" : Str), ("list" : Str), ("min" : Str), ("ord" : Str), ("range" : Str), ("set" : Str), ("sorted" : Str), ("str" : Str), ("super" : Str), ("tuple" : Str)]
def dd (i : Nat) (n : Str) : He.DefD := ⟨(n, none), n, n, defArgs (top i), defBody (top i), defScope (top i), [], []⟩
def fn : List He.DefD := [dd 6 "named_in", dd 7 "needs_of", dd 9 "sum_of", dd 10 "spot_text", dd 11 "write_patch", dd 14 "patch_stamp", dd 15 "stamps_of", dd 16 "fold_row", dd 17 "own_stamp", dd 18 "begun_by", dd 19 "branch_signs", dd 20 "node_row", dd 21 "node_digest", dd 22 "stale_prefixes", dd 23 "ranked_prefixes", dd 24 "branch_pairs", dd 25 "digest_tree", dd 26 "digest_under", dd 27 "differing_signs", dd 28 "stamp_search", dd 30 "reach_of", dd 32 "cut_to", dd 33 "together", dd 35 "_law_cell", dd 36 "_law_draws", dd 37 "_law_is_integer", dd 38 "_law_is", dd 39 "_law_take", dd 40 "_law_made_line", dd 41 "_law_made_text", dd 42 "_law_bent_lines", dd 43 "_law_keeping", dd 44 "_law_order", dd 45 "_law_alive", dd 46 "_law_line", dd 47 "_law_odds", dd 48 "_law_row", dd 49 "_law_text_of", dd 50 "_law_recorded", dd 51 "_law_needs", dd 52 "_law_reach", dd 53 "_law_some", dd 54 "_law_menu_store", dd 55 "_law_cut", dd 56 "_law_sum", dd 57 "_law_spot", dd 58 "_law_patch_rows", dd 59 "_law_stamp", dd 60 "_law_stamps", dd 61 "_law_fold", dd 62 "_law_own", dd 63 "_law_signs", dd 64 "_law_node", dd 65 "_law_node_sum", dd 66 "_law_begins", dd 67 "_law_tree", dd 68 "_law_made_stamps", dd 69 "_law_search", dd 70 "_law_begun", dd 71 "_law_differing", dd 72 "_law_search_due", dd 73 "_law_bent_stamps", dd 74 "law"]
def fa : List He.Fa := [.glo "named_in", .glo "needs_of", .glo "sum_of", .glo "spot_text", .glo "write_patch", .glo "patch_stamp", .glo "stamps_of", .glo "fold_row", .glo "own_stamp", .glo "begun_by", .glo "branch_signs", .glo "node_row", .glo "node_digest", .glo "stale_prefixes", .glo "ranked_prefixes", .glo "branch_pairs", .glo "digest_tree", .glo "digest_under", .glo "differing_signs", .glo "stamp_search", .glo "reach_of", .glo "cut_to", .glo "together", .glo "_law_cell", .glo "_law_draws", .glo "_law_is_integer", .glo "_law_is", .glo "_law_take", .glo "_law_made_line", .glo "_law_made_text", .glo "_law_bent_lines", .glo "_law_keeping", .glo "_law_order", .glo "_law_alive", .glo "_law_line", .glo "_law_odds", .glo "_law_row", .glo "_law_text_of", .glo "_law_recorded", .glo "_law_needs", .glo "_law_reach", .glo "_law_some", .glo "_law_menu_store", .glo "_law_cut", .glo "_law_sum", .glo "_law_spot", .glo "_law_patch_rows", .glo "_law_stamp", .glo "_law_stamps", .glo "_law_fold", .glo "_law_own", .glo "_law_signs", .glo "_law_node", .glo "_law_node_sum", .glo "_law_begins", .glo "_law_tree", .glo "_law_made_stamps", .glo "_law_search", .glo "_law_begun", .glo "_law_differing", .glo "_law_search_due", .glo "_law_bent_stamps", .glo "law"] ++ [.free "ValueError", .free "abs", .free "all", .free "bool", .free "int", .free "isinstance", .free "len", .free "list", .free "min", .free "ord", .free "range", .free "set", .free "sorted", .free "str", .free "super", .free "tuple"] ++ [.int "PRIME" 65521]
def lo0 : List Str := ["SkeinError", "NotAllowed", "TOP", "BOTTOM", "named_in", "needs_of", "sum_of", "spot_text", "write_patch", "PRIME", "patch_stamp", "stamps_of", "fold_row", "own_stamp", "begun_by", "branch_signs", "node_row", "node_digest", "stale_prefixes", "ranked_prefixes", "branch_pairs", "digest_tree", "digest_under", "differing_signs", "stamp_search", "reach_of", "cut_to", "together", "_law_cell", "_law_draws"]
def lo1 : List Str := ["_law_is_integer", "_law_is", "_law_take", "_law_made_line", "_law_made_text", "_law_bent_lines", "_law_keeping", "_law_order", "_law_alive", "_law_line", "_law_odds", "_law_row", "_law_text_of", "_law_recorded", "_law_needs", "_law_reach", "_law_some", "_law_menu_store", "_law_cut", "_law_sum", "_law_spot", "_law_patch_rows", "_law_stamp", "_law_stamps", "_law_fold", "_law_own", "_law_signs", "_law_node", "_law_node_sum", "_law_begins"]
def lo2 : List Str := ["_law_tree", "_law_made_stamps", "_law_search", "_law_begun", "_law_differing", "_law_search_due", "_law_bent_stamps"]
def lo : List Str := lo0 ++ lo1 ++ lo2
def cs : List (Str × List D) := [(("TOP" : Str), [(.str []), (.int 0)]), (("BOTTOM" : Str), [(.str []), (.int 1)])]
abbrev R : PySem.W.OpenRow := PySem.W.OpenLaw.row PySem.Challenge.rw_skein_k72_whole_searches_for_what_differ
abbrev hk : PySem.W.Hook := He.hookX 4 fa fn [] [] (exB cs)
def ob (s : PySem.W.SharedT) : He.AlX := He.obsX 4 fa fn [] [] (exB cs) (HandSHeadRun.getT s)
theorem ob_eq (s : PySem.W.SharedT) : ob s = hk.obs s.abs := He.obsX_eq (HandSHeadRun.getT_eq s)
theorem run (w : World) : HandSHeadRun.RunEq R (PySem.W.view R.prog [74]) hk ob 4000 lo w := by
  intro os
  kernel_rfl
def n_named_in : List Str := [("patch" : Str), ("found" : Str), ("_" : Str), ("ahead" : Str), ("behind" : Str)]
def p_named_in : List Str := [("patch" : Str)]
theorem sc_named_in : FnScope n_named_in p_named_in (defScope (top 6)) := ⟨by rfl, by rfl, by rfl, by decide +kernel, by rfl, by decide +kernel, by decide +kernel⟩
theorem ck_named_in : ckBl (ckS ⟨n_named_in, con, defs, bl⟩ 40 (defScope (top 6)) 20) (defBody (top 6)) d_named_in.body = true := by decide +kernel
theorem dk_named_in {K : PySem.W.Frag} {h : Heap} {mg : Str → Option Value} (X : K.In h) (G : h.Ns mainGlobals mg) (c : He.SaysD fa fn K) : DefOk K mg pg con defs bl 0 "named_in" p_named_in := by
  obtain ⟨fd, F⟩ := c.def_ 0 (d := dd 6 "named_in") rfl
  exact ⟨_, fd, n_named_in, _, _, _, d_named_in, 40, 20, F, He.glo_ok X G (c.fact 0 (f := .glo "named_in") rfl), FunD.bindsA (ps := p_named_in) F (fun _ _ _ _ _ _ us hl => match us, hl with | [_], _ => by rfl), sc_named_in, rfl, rfl, rfl, rfl, by rfl, ck_named_in⟩
def n_needs_of : List Str := [("patch" : Str), ("spot" : Str)]
def p_needs_of : List Str := [("patch" : Str)]
theorem sc_needs_of : FnScope n_needs_of p_needs_of (defScope (top 7)) := ⟨by rfl, by rfl, by rfl, by decide +kernel, by rfl, by decide +kernel, by decide +kernel⟩
theorem ck_needs_of : ckBl (ckS ⟨n_needs_of, con, defs, bl⟩ 40 (defScope (top 7)) 20) (defBody (top 7)) d_needs_of.body = true := by decide +kernel
theorem dk_needs_of {K : PySem.W.Frag} {h : Heap} {mg : Str → Option Value} (X : K.In h) (G : h.Ns mainGlobals mg) (c : He.SaysD fa fn K) : DefOk K mg pg con defs bl 1 "needs_of" p_needs_of := by
  obtain ⟨fd, F⟩ := c.def_ 1 (d := dd 7 "needs_of") rfl
  exact ⟨_, fd, n_needs_of, _, _, _, d_needs_of, 40, 20, F, He.glo_ok X G (c.fact 1 (f := .glo "needs_of") rfl), FunD.bindsA (ps := p_needs_of) F (fun _ _ _ _ _ _ us hl => match us, hl with | [_], _ => by rfl), sc_needs_of, rfl, rfl, rfl, rfl, by rfl, ck_needs_of⟩
def n_sum_of : List Str := [("text" : Str), ("whole" : Str), ("sign" : Str)]
def p_sum_of : List Str := [("text" : Str)]
theorem sc_sum_of : FnScope n_sum_of p_sum_of (defScope (top 9)) := ⟨by rfl, by rfl, by rfl, by decide +kernel, by rfl, by decide +kernel, by decide +kernel⟩
theorem ck_sum_of : ckBl (ckS ⟨n_sum_of, con, defs, bl⟩ 40 (defScope (top 9)) 20) (defBody (top 9)) d_sum_of.body = true := by decide +kernel
theorem dk_sum_of {K : PySem.W.Frag} {h : Heap} {mg : Str → Option Value} (X : K.In h) (G : h.Ns mainGlobals mg) (c : He.SaysD fa fn K) : DefOk K mg pg con defs bl 2 "sum_of" p_sum_of := by
  obtain ⟨fd, F⟩ := c.def_ 2 (d := dd 9 "sum_of") rfl
  exact ⟨_, fd, n_sum_of, _, _, _, d_sum_of, 40, 20, F, He.glo_ok X G (c.fact 2 (f := .glo "sum_of") rfl), FunD.bindsA (ps := p_sum_of) F (fun _ _ _ _ _ _ us hl => match us, hl with | [_], _ => by rfl), sc_sum_of, rfl, rfl, rfl, rfl, by rfl, ck_sum_of⟩
def n_spot_text : List Str := [("spot" : Str)]
def p_spot_text : List Str := [("spot" : Str)]
theorem sc_spot_text : FnScope n_spot_text p_spot_text (defScope (top 10)) := ⟨by rfl, by rfl, by rfl, by decide +kernel, by rfl, by decide +kernel, by decide +kernel⟩
theorem ck_spot_text : ckBl (ckS ⟨n_spot_text, con, defs, bl⟩ 40 (defScope (top 10)) 20) (defBody (top 10)) d_spot_text.body = true := by decide +kernel
theorem dk_spot_text {K : PySem.W.Frag} {h : Heap} {mg : Str → Option Value} (X : K.In h) (G : h.Ns mainGlobals mg) (c : He.SaysD fa fn K) : DefOk K mg pg con defs bl 3 "spot_text" p_spot_text := by
  obtain ⟨fd, F⟩ := c.def_ 3 (d := dd 10 "spot_text") rfl
  exact ⟨_, fd, n_spot_text, _, _, _, d_spot_text, 40, 20, F, He.glo_ok X G (c.fact 3 (f := .glo "spot_text") rfl), FunD.bindsA (ps := p_spot_text) F (fun _ _ _ _ _ _ us hl => match us, hl with | [_], _ => by rfl), sc_spot_text, rfl, rfl, rfl, rfl, by rfl, ck_spot_text⟩
def n_write_patch : List Str := [("patch" : Str), ("rows" : Str), ("text" : Str), ("name" : Str), ("adds" : Str), ("bars" : Str), ("_" : Str), ("line" : Str), ("ahead" : Str), ("behind" : Str), ("sides" : Str), ("side" : Str), ("spot" : Str), ("row" : Str)]
def p_write_patch : List Str := [("patch" : Str)]
theorem sc_write_patch : FnScope n_write_patch p_write_patch (defScope (top 11)) := ⟨by rfl, by rfl, by rfl, by decide +kernel, by rfl, by decide +kernel, by decide +kernel⟩
theorem ck_write_patch : ckBl (ckS ⟨n_write_patch, con, defs, bl⟩ 40 (defScope (top 11)) 20) (defBody (top 11)) d_write_patch.body = true := by decide +kernel
theorem dk_write_patch {K : PySem.W.Frag} {h : Heap} {mg : Str → Option Value} (X : K.In h) (G : h.Ns mainGlobals mg) (c : He.SaysD fa fn K) : DefOk K mg pg con defs bl 4 "write_patch" p_write_patch := by
  obtain ⟨fd, F⟩ := c.def_ 4 (d := dd 11 "write_patch") rfl
  exact ⟨_, fd, n_write_patch, _, _, _, d_write_patch, 40, 20, F, He.glo_ok X G (c.fact 4 (f := .glo "write_patch") rfl), FunD.bindsA (ps := p_write_patch) F (fun _ _ _ _ _ _ us hl => match us, hl with | [_], _ => by rfl), sc_write_patch, rfl, rfl, rfl, rfl, by rfl, ck_write_patch⟩
def n_patch_stamp : List Str := [("patch" : Str)]
def p_patch_stamp : List Str := [("patch" : Str)]
theorem sc_patch_stamp : FnScope n_patch_stamp p_patch_stamp (defScope (top 14)) := ⟨by rfl, by rfl, by rfl, by decide +kernel, by rfl, by decide +kernel, by decide +kernel⟩
theorem ck_patch_stamp : ckBl (ckS ⟨n_patch_stamp, con, defs, bl⟩ 40 (defScope (top 14)) 20) (defBody (top 14)) d_patch_stamp.body = true := by decide +kernel
theorem dk_patch_stamp {K : PySem.W.Frag} {h : Heap} {mg : Str → Option Value} (X : K.In h) (G : h.Ns mainGlobals mg) (c : He.SaysD fa fn K) : DefOk K mg pg con defs bl 5 "patch_stamp" p_patch_stamp := by
  obtain ⟨fd, F⟩ := c.def_ 5 (d := dd 14 "patch_stamp") rfl
  exact ⟨_, fd, n_patch_stamp, _, _, _, d_patch_stamp, 40, 20, F, He.glo_ok X G (c.fact 5 (f := .glo "patch_stamp") rfl), FunD.bindsA (ps := p_patch_stamp) F (fun _ _ _ _ _ _ us hl => match us, hl with | [_], _ => by rfl), sc_patch_stamp, rfl, rfl, rfl, rfl, by rfl, ck_patch_stamp⟩
def n_stamps_of : List Str := [("store" : Str), ("patch" : Str)]
def p_stamps_of : List Str := [("store" : Str)]
theorem sc_stamps_of : FnScope n_stamps_of p_stamps_of (defScope (top 15)) := ⟨by rfl, by rfl, by rfl, by decide +kernel, by rfl, by decide +kernel, by decide +kernel⟩
theorem ck_stamps_of : ckBl (ckS ⟨n_stamps_of, con, defs, bl⟩ 40 (defScope (top 15)) 20) (defBody (top 15)) d_stamps_of.body = true := by decide +kernel
theorem dk_stamps_of {K : PySem.W.Frag} {h : Heap} {mg : Str → Option Value} (X : K.In h) (G : h.Ns mainGlobals mg) (c : He.SaysD fa fn K) : DefOk K mg pg con defs bl 6 "stamps_of" p_stamps_of := by
  obtain ⟨fd, F⟩ := c.def_ 6 (d := dd 15 "stamps_of") rfl
  exact ⟨_, fd, n_stamps_of, _, _, _, d_stamps_of, 40, 20, F, He.glo_ok X G (c.fact 6 (f := .glo "stamps_of") rfl), FunD.bindsA (ps := p_stamps_of) F (fun _ _ _ _ _ _ us hl => match us, hl with | [_], _ => by rfl), sc_stamps_of, rfl, rfl, rfl, rfl, by rfl, ck_stamps_of⟩
def n_fold_row : List Str := [("numbers" : Str), ("whole" : Str), ("number" : Str)]
def p_fold_row : List Str := [("numbers" : Str)]
theorem sc_fold_row : FnScope n_fold_row p_fold_row (defScope (top 16)) := ⟨by rfl, by rfl, by rfl, by decide +kernel, by rfl, by decide +kernel, by decide +kernel⟩
theorem ck_fold_row : ckBl (ckS ⟨n_fold_row, con, defs, bl⟩ 40 (defScope (top 16)) 20) (defBody (top 16)) d_fold_row.body = true := by decide +kernel
theorem dk_fold_row {K : PySem.W.Frag} {h : Heap} {mg : Str → Option Value} (X : K.In h) (G : h.Ns mainGlobals mg) (c : He.SaysD fa fn K) : DefOk K mg pg con defs bl 7 "fold_row" p_fold_row := by
  obtain ⟨fd, F⟩ := c.def_ 7 (d := dd 16 "fold_row") rfl
  exact ⟨_, fd, n_fold_row, _, _, _, d_fold_row, 40, 20, F, He.glo_ok X G (c.fact 7 (f := .glo "fold_row") rfl), FunD.bindsA (ps := p_fold_row) F (fun _ _ _ _ _ _ us hl => match us, hl with | [_], _ => by rfl), sc_fold_row, rfl, rfl, rfl, rfl, by rfl, ck_fold_row⟩
def n_own_stamp : List Str := [("stamps" : Str), ("prefix" : Str), ("name" : Str), ("stamp" : Str)]
def p_own_stamp : List Str := [("stamps" : Str), ("prefix" : Str)]
theorem sc_own_stamp : FnScope n_own_stamp p_own_stamp (defScope (top 17)) := ⟨by rfl, by rfl, by rfl, by decide +kernel, by rfl, by decide +kernel, by decide +kernel⟩
theorem ck_own_stamp : ckBl (ckS ⟨n_own_stamp, con, defs, bl⟩ 40 (defScope (top 17)) 20) (defBody (top 17)) d_own_stamp.body = true := by decide +kernel
theorem dk_own_stamp {K : PySem.W.Frag} {h : Heap} {mg : Str → Option Value} (X : K.In h) (G : h.Ns mainGlobals mg) (c : He.SaysD fa fn K) : DefOk K mg pg con defs bl 8 "own_stamp" p_own_stamp := by
  obtain ⟨fd, F⟩ := c.def_ 8 (d := dd 17 "own_stamp") rfl
  exact ⟨_, fd, n_own_stamp, _, _, _, d_own_stamp, 40, 20, F, He.glo_ok X G (c.fact 8 (f := .glo "own_stamp") rfl), FunD.bindsA (ps := p_own_stamp) F (fun _ _ _ _ _ _ us hl => match us, hl with | [_, _], _ => by rfl), sc_own_stamp, rfl, rfl, rfl, rfl, by rfl, ck_own_stamp⟩
def n_begun_by : List Str := [("stamps" : Str), ("prefix" : Str), ("size" : Str), ("pair" : Str)]
def p_begun_by : List Str := [("stamps" : Str), ("prefix" : Str)]
theorem sc_begun_by : FnScope n_begun_by p_begun_by (defScope (top 18)) := ⟨by rfl, by rfl, by rfl, by decide +kernel, by rfl, by decide +kernel, by decide +kernel⟩
theorem ck_begun_by : ckBl (ckS ⟨n_begun_by, con, defs, bl⟩ 40 (defScope (top 18)) 20) (defBody (top 18)) d_begun_by.body = true := by decide +kernel
theorem dk_begun_by {K : PySem.W.Frag} {h : Heap} {mg : Str → Option Value} (X : K.In h) (G : h.Ns mainGlobals mg) (c : He.SaysD fa fn K) : DefOk K mg pg con defs bl 9 "begun_by" p_begun_by := by
  obtain ⟨fd, F⟩ := c.def_ 9 (d := dd 18 "begun_by") rfl
  exact ⟨_, fd, n_begun_by, _, _, _, d_begun_by, 40, 20, F, He.glo_ok X G (c.fact 9 (f := .glo "begun_by") rfl), FunD.bindsA (ps := p_begun_by) F (fun _ _ _ _ _ _ us hl => match us, hl with | [_, _], _ => by rfl), sc_begun_by, rfl, rfl, rfl, rfl, by rfl, ck_begun_by⟩
def n_branch_signs : List Str := [("stamps" : Str), ("prefix" : Str), ("size" : Str), ("name" : Str), ("_" : Str)]
def p_branch_signs : List Str := [("stamps" : Str), ("prefix" : Str)]
theorem sc_branch_signs : FnScope n_branch_signs p_branch_signs (defScope (top 19)) := ⟨by rfl, by rfl, by rfl, by decide +kernel, by rfl, by decide +kernel, by decide +kernel⟩
theorem ck_branch_signs : ckBl (ckS ⟨n_branch_signs, con, defs, bl⟩ 40 (defScope (top 19)) 20) (defBody (top 19)) d_branch_signs.body = true := by decide +kernel
theorem dk_branch_signs {K : PySem.W.Frag} {h : Heap} {mg : Str → Option Value} (X : K.In h) (G : h.Ns mainGlobals mg) (c : He.SaysD fa fn K) : DefOk K mg pg con defs bl 10 "branch_signs" p_branch_signs := by
  obtain ⟨fd, F⟩ := c.def_ 10 (d := dd 19 "branch_signs") rfl
  exact ⟨_, fd, n_branch_signs, _, _, _, d_branch_signs, 40, 20, F, He.glo_ok X G (c.fact 10 (f := .glo "branch_signs") rfl), FunD.bindsA (ps := p_branch_signs) F (fun _ _ _ _ _ _ us hl => match us, hl with | [_, _], _ => by rfl), sc_branch_signs, rfl, rfl, rfl, rfl, by rfl, ck_branch_signs⟩
def n_node_row : List Str := [("node" : Str), ("numbers" : Str), ("own" : Str), ("branches" : Str), ("sign" : Str), ("digest" : Str)]
def p_node_row : List Str := [("node" : Str)]
theorem sc_node_row : FnScope n_node_row p_node_row (defScope (top 20)) := ⟨by rfl, by rfl, by rfl, by decide +kernel, by rfl, by decide +kernel, by decide +kernel⟩
theorem ck_node_row : ckBl (ckS ⟨n_node_row, con, defs, bl⟩ 40 (defScope (top 20)) 20) (defBody (top 20)) d_node_row.body = true := by decide +kernel
theorem dk_node_row {K : PySem.W.Frag} {h : Heap} {mg : Str → Option Value} (X : K.In h) (G : h.Ns mainGlobals mg) (c : He.SaysD fa fn K) : DefOk K mg pg con defs bl 11 "node_row" p_node_row := by
  obtain ⟨fd, F⟩ := c.def_ 11 (d := dd 20 "node_row") rfl
  exact ⟨_, fd, n_node_row, _, _, _, d_node_row, 40, 20, F, He.glo_ok X G (c.fact 11 (f := .glo "node_row") rfl), FunD.bindsA (ps := p_node_row) F (fun _ _ _ _ _ _ us hl => match us, hl with | [_], _ => by rfl), sc_node_row, rfl, rfl, rfl, rfl, by rfl, ck_node_row⟩
def n_node_digest : List Str := [("node" : Str)]
def p_node_digest : List Str := [("node" : Str)]
theorem sc_node_digest : FnScope n_node_digest p_node_digest (defScope (top 21)) := ⟨by rfl, by rfl, by rfl, by decide +kernel, by rfl, by decide +kernel, by decide +kernel⟩
theorem ck_node_digest : ckBl (ckS ⟨n_node_digest, con, defs, bl⟩ 40 (defScope (top 21)) 20) (defBody (top 21)) d_node_digest.body = true := by decide +kernel
theorem dk_node_digest {K : PySem.W.Frag} {h : Heap} {mg : Str → Option Value} (X : K.In h) (G : h.Ns mainGlobals mg) (c : He.SaysD fa fn K) : DefOk K mg pg con defs bl 12 "node_digest" p_node_digest := by
  obtain ⟨fd, F⟩ := c.def_ 12 (d := dd 21 "node_digest") rfl
  exact ⟨_, fd, n_node_digest, _, _, _, d_node_digest, 40, 20, F, He.glo_ok X G (c.fact 12 (f := .glo "node_digest") rfl), FunD.bindsA (ps := p_node_digest) F (fun _ _ _ _ _ _ us hl => match us, hl with | [_], _ => by rfl), sc_node_digest, rfl, rfl, rfl, rfl, by rfl, ck_node_digest⟩
def n_stale_prefixes : List Str := [("names" : Str), ("name" : Str), ("size" : Str)]
def p_stale_prefixes : List Str := [("names" : Str)]
theorem sc_stale_prefixes : FnScope n_stale_prefixes p_stale_prefixes (defScope (top 22)) := ⟨by rfl, by rfl, by rfl, by decide +kernel, by rfl, by decide +kernel, by decide +kernel⟩
theorem ck_stale_prefixes : ckBl (ckS ⟨n_stale_prefixes, con, defs, bl⟩ 40 (defScope (top 22)) 20) (defBody (top 22)) d_stale_prefixes.body = true := by decide +kernel
theorem dk_stale_prefixes {K : PySem.W.Frag} {h : Heap} {mg : Str → Option Value} (X : K.In h) (G : h.Ns mainGlobals mg) (c : He.SaysD fa fn K) : DefOk K mg pg con defs bl 13 "stale_prefixes" p_stale_prefixes := by
  obtain ⟨fd, F⟩ := c.def_ 13 (d := dd 22 "stale_prefixes") rfl
  exact ⟨_, fd, n_stale_prefixes, _, _, _, d_stale_prefixes, 40, 20, F, He.glo_ok X G (c.fact 13 (f := .glo "stale_prefixes") rfl), FunD.bindsA (ps := p_stale_prefixes) F (fun _ _ _ _ _ _ us hl => match us, hl with | [_], _ => by rfl), sc_stale_prefixes, rfl, rfl, rfl, rfl, by rfl, ck_stale_prefixes⟩
def n_ranked_prefixes : List Str := [("names" : Str), ("ranked" : Str), ("prefix" : Str), ("_" : Str)]
def p_ranked_prefixes : List Str := [("names" : Str)]
theorem sc_ranked_prefixes : FnScope n_ranked_prefixes p_ranked_prefixes (defScope (top 23)) := ⟨by rfl, by rfl, by rfl, by decide +kernel, by rfl, by decide +kernel, by decide +kernel⟩
theorem ck_ranked_prefixes : ckBl (ckS ⟨n_ranked_prefixes, con, defs, bl⟩ 40 (defScope (top 23)) 20) (defBody (top 23)) d_ranked_prefixes.body = true := by decide +kernel
theorem dk_ranked_prefixes {K : PySem.W.Frag} {h : Heap} {mg : Str → Option Value} (X : K.In h) (G : h.Ns mainGlobals mg) (c : He.SaysD fa fn K) : DefOk K mg pg con defs bl 14 "ranked_prefixes" p_ranked_prefixes := by
  obtain ⟨fd, F⟩ := c.def_ 14 (d := dd 23 "ranked_prefixes") rfl
  exact ⟨_, fd, n_ranked_prefixes, _, _, _, d_ranked_prefixes, 40, 20, F, He.glo_ok X G (c.fact 14 (f := .glo "ranked_prefixes") rfl), FunD.bindsA (ps := p_ranked_prefixes) F (fun _ _ _ _ _ _ us hl => match us, hl with | [_], _ => by rfl), sc_ranked_prefixes, rfl, rfl, rfl, rfl, by rfl, ck_ranked_prefixes⟩
def n_branch_pairs : List Str := [("stamps" : Str), ("digests" : Str), ("prefix" : Str), ("sign" : Str)]
def p_branch_pairs : List Str := [("stamps" : Str), ("digests" : Str), ("prefix" : Str)]
theorem sc_branch_pairs : FnScope n_branch_pairs p_branch_pairs (defScope (top 24)) := ⟨by rfl, by rfl, by rfl, by decide +kernel, by rfl, by decide +kernel, by decide +kernel⟩
theorem ck_branch_pairs : ckBl (ckS ⟨n_branch_pairs, con, defs, bl⟩ 40 (defScope (top 24)) 20) (defBody (top 24)) d_branch_pairs.body = true := by decide +kernel
theorem dk_branch_pairs {K : PySem.W.Frag} {h : Heap} {mg : Str → Option Value} (X : K.In h) (G : h.Ns mainGlobals mg) (c : He.SaysD fa fn K) : DefOk K mg pg con defs bl 15 "branch_pairs" p_branch_pairs := by
  obtain ⟨fd, F⟩ := c.def_ 15 (d := dd 24 "branch_pairs") rfl
  exact ⟨_, fd, n_branch_pairs, _, _, _, d_branch_pairs, 40, 20, F, He.glo_ok X G (c.fact 15 (f := .glo "branch_pairs") rfl), FunD.bindsA (ps := p_branch_pairs) F (fun _ _ _ _ _ _ us hl => match us, hl with | [_, _, _], _ => by rfl), sc_branch_pairs, rfl, rfl, rfl, rfl, by rfl, ck_branch_pairs⟩
def n_digest_tree : List Str := [("stamps" : Str), ("digests" : Str), ("prefix" : Str), ("name" : Str), ("_" : Str)]
def p_digest_tree : List Str := [("stamps" : Str)]
theorem sc_digest_tree : FnScope n_digest_tree p_digest_tree (defScope (top 25)) := ⟨by rfl, by rfl, by rfl, by decide +kernel, by rfl, by decide +kernel, by decide +kernel⟩
theorem ck_digest_tree : ckBl (ckS ⟨n_digest_tree, con, defs, bl⟩ 40 (defScope (top 25)) 20) (defBody (top 25)) d_digest_tree.body = true := by decide +kernel
theorem dk_digest_tree {K : PySem.W.Frag} {h : Heap} {mg : Str → Option Value} (X : K.In h) (G : h.Ns mainGlobals mg) (c : He.SaysD fa fn K) : DefOk K mg pg con defs bl 16 "digest_tree" p_digest_tree := by
  obtain ⟨fd, F⟩ := c.def_ 16 (d := dd 25 "digest_tree") rfl
  exact ⟨_, fd, n_digest_tree, _, _, _, d_digest_tree, 40, 20, F, He.glo_ok X G (c.fact 16 (f := .glo "digest_tree") rfl), FunD.bindsA (ps := p_digest_tree) F (fun _ _ _ _ _ _ us hl => match us, hl with | [_], _ => by rfl), sc_digest_tree, rfl, rfl, rfl, rfl, by rfl, ck_digest_tree⟩
def n_digest_under : List Str := [("stamps" : Str), ("prefix" : Str), ("some" : Str), ("digests" : Str), ("one" : Str), ("digest" : Str)]
def p_digest_under : List Str := [("stamps" : Str), ("prefix" : Str)]
theorem sc_digest_under : FnScope n_digest_under p_digest_under (defScope (top 26)) := ⟨by rfl, by rfl, by rfl, by decide +kernel, by rfl, by decide +kernel, by decide +kernel⟩
theorem ck_digest_under : ckBl (ckS ⟨n_digest_under, con, defs, bl⟩ 40 (defScope (top 26)) 20) (defBody (top 26)) d_digest_under.body = true := by decide +kernel
theorem dk_digest_under {K : PySem.W.Frag} {h : Heap} {mg : Str → Option Value} (X : K.In h) (G : h.Ns mainGlobals mg) (c : He.SaysD fa fn K) : DefOk K mg pg con defs bl 17 "digest_under" p_digest_under := by
  obtain ⟨fd, F⟩ := c.def_ 17 (d := dd 26 "digest_under") rfl
  exact ⟨_, fd, n_digest_under, _, _, _, d_digest_under, 40, 20, F, He.glo_ok X G (c.fact 17 (f := .glo "digest_under") rfl), FunD.bindsA (ps := p_digest_under) F (fun _ _ _ _ _ _ us hl => match us, hl with | [_, _], _ => by rfl), sc_digest_under, rfl, rfl, rfl, rfl, by rfl, ck_digest_under⟩
def n_differing_signs : List Str := [("one" : Str), ("other" : Str), ("prefix" : Str), ("found" : Str), ("sign" : Str), ("first" : Str), ("second" : Str)]
def p_differing_signs : List Str := [("one" : Str), ("other" : Str), ("prefix" : Str)]
theorem sc_differing_signs : FnScope n_differing_signs p_differing_signs (defScope (top 27)) := ⟨by rfl, by rfl, by rfl, by decide +kernel, by rfl, by decide +kernel, by decide +kernel⟩
theorem ck_differing_signs : ckBl (ckS ⟨n_differing_signs, con, defs, bl⟩ 40 (defScope (top 27)) 20) (defBody (top 27)) d_differing_signs.body = true := by decide +kernel
theorem dk_differing_signs {K : PySem.W.Frag} {h : Heap} {mg : Str → Option Value} (X : K.In h) (G : h.Ns mainGlobals mg) (c : He.SaysD fa fn K) : DefOk K mg pg con defs bl 18 "differing_signs" p_differing_signs := by
  obtain ⟨fd, F⟩ := c.def_ 18 (d := dd 27 "differing_signs") rfl
  exact ⟨_, fd, n_differing_signs, _, _, _, d_differing_signs, 40, 20, F, He.glo_ok X G (c.fact 18 (f := .glo "differing_signs") rfl), FunD.bindsA (ps := p_differing_signs) F (fun _ _ _ _ _ _ us hl => match us, hl with | [_, _, _], _ => by rfl), sc_differing_signs, rfl, rfl, rfl, rfl, by rfl, ck_differing_signs⟩
def n_stamp_search : List Str := [("one" : Str), ("other" : Str), ("waiting" : Str), ("names" : Str), ("looked" : Str), ("prefix" : Str), ("sign" : Str)]
def p_stamp_search : List Str := [("one" : Str), ("other" : Str)]
theorem sc_stamp_search : FnScope n_stamp_search p_stamp_search (defScope (top 28)) := ⟨by rfl, by rfl, by rfl, by decide +kernel, by rfl, by decide +kernel, by decide +kernel⟩
theorem ck_stamp_search : ckBl (ckS ⟨n_stamp_search, con, defs, bl⟩ 40 (defScope (top 28)) 20) (defBody (top 28)) d_stamp_search.body = true := by decide +kernel
theorem dk_stamp_search {K : PySem.W.Frag} {h : Heap} {mg : Str → Option Value} (X : K.In h) (G : h.Ns mainGlobals mg) (c : He.SaysD fa fn K) : DefOk K mg pg con defs bl 19 "stamp_search" p_stamp_search := by
  obtain ⟨fd, F⟩ := c.def_ 19 (d := dd 28 "stamp_search") rfl
  exact ⟨_, fd, n_stamp_search, _, _, _, d_stamp_search, 40, 20, F, He.glo_ok X G (c.fact 19 (f := .glo "stamp_search") rfl), FunD.bindsA (ps := p_stamp_search) F (fun _ _ _ _ _ _ us hl => match us, hl with | [_, _], _ => by rfl), sc_stamp_search, rfl, rfl, rfl, rfl, by rfl, ck_stamp_search⟩
def n_reach_of : List Str := [("store" : Str), ("names" : Str), ("needs" : Str), ("found" : Str), ("waiting" : Str), ("one" : Str), ("patch" : Str)]
def p_reach_of : List Str := [("store" : Str), ("names" : Str)]
theorem sc_reach_of : FnScope n_reach_of p_reach_of (defScope (top 30)) := ⟨by rfl, by rfl, by rfl, by decide +kernel, by rfl, by decide +kernel, by decide +kernel⟩
theorem ck_reach_of : ckBl (ckS ⟨n_reach_of, con, defs, bl⟩ 40 (defScope (top 30)) 20) (defBody (top 30)) d_reach_of.body = true := by decide +kernel
theorem dk_reach_of {K : PySem.W.Frag} {h : Heap} {mg : Str → Option Value} (X : K.In h) (G : h.Ns mainGlobals mg) (c : He.SaysD fa fn K) : DefOk K mg pg con defs bl 20 "reach_of" p_reach_of := by
  obtain ⟨fd, F⟩ := c.def_ 20 (d := dd 30 "reach_of") rfl
  exact ⟨_, fd, n_reach_of, _, _, _, d_reach_of, 40, 20, F, He.glo_ok X G (c.fact 20 (f := .glo "reach_of") rfl), FunD.bindsA (ps := p_reach_of) F (fun _ _ _ _ _ _ us hl => match us, hl with | [_, _], _ => by rfl), sc_reach_of, rfl, rfl, rfl, rfl, by rfl, ck_reach_of⟩
def n_cut_to : List Str := [("store" : Str), ("names" : Str), ("reach" : Str), ("patch" : Str)]
def p_cut_to : List Str := [("store" : Str), ("names" : Str)]
theorem sc_cut_to : FnScope n_cut_to p_cut_to (defScope (top 32)) := ⟨by rfl, by rfl, by rfl, by decide +kernel, by rfl, by decide +kernel, by decide +kernel⟩
theorem ck_cut_to : ckBl (ckS ⟨n_cut_to, con, defs, bl⟩ 40 (defScope (top 32)) 20) (defBody (top 32)) d_cut_to.body = true := by decide +kernel
theorem dk_cut_to {K : PySem.W.Frag} {h : Heap} {mg : Str → Option Value} (X : K.In h) (G : h.Ns mainGlobals mg) (c : He.SaysD fa fn K) : DefOk K mg pg con defs bl 21 "cut_to" p_cut_to := by
  obtain ⟨fd, F⟩ := c.def_ 21 (d := dd 32 "cut_to") rfl
  exact ⟨_, fd, n_cut_to, _, _, _, d_cut_to, 40, 20, F, He.glo_ok X G (c.fact 21 (f := .glo "cut_to") rfl), FunD.bindsA (ps := p_cut_to) F (fun _ _ _ _ _ _ us hl => match us, hl with | [_, _], _ => by rfl), sc_cut_to, rfl, rfl, rfl, rfl, by rfl, ck_cut_to⟩
def n_together : List Str := [("one" : Str), ("other" : Str), ("patches" : Str), ("at" : Str), ("patch" : Str)]
def p_together : List Str := [("one" : Str), ("other" : Str)]
theorem sc_together : FnScope n_together p_together (defScope (top 33)) := ⟨by rfl, by rfl, by rfl, by decide +kernel, by rfl, by decide +kernel, by decide +kernel⟩
theorem ck_together : ckBl (ckS ⟨n_together, con, defs, bl⟩ 40 (defScope (top 33)) 20) (defBody (top 33)) d_together.body = true := by decide +kernel
theorem dk_together {K : PySem.W.Frag} {h : Heap} {mg : Str → Option Value} (X : K.In h) (G : h.Ns mainGlobals mg) (c : He.SaysD fa fn K) : DefOk K mg pg con defs bl 22 "together" p_together := by
  obtain ⟨fd, F⟩ := c.def_ 22 (d := dd 33 "together") rfl
  exact ⟨_, fd, n_together, _, _, _, d_together, 40, 20, F, He.glo_ok X G (c.fact 22 (f := .glo "together") rfl), FunD.bindsA (ps := p_together) F (fun _ _ _ _ _ _ us hl => match us, hl with | [_, _], _ => by rfl), sc_together, rfl, rfl, rfl, rfl, by rfl, ck_together⟩
def n__law_cell : List Str := [("script" : Str), ("k" : Str)]
def p__law_cell : List Str := [("script" : Str), ("k" : Str)]
theorem sc__law_cell : FnScope n__law_cell p__law_cell (defScope (top 35)) := ⟨by rfl, by rfl, by rfl, by decide +kernel, by rfl, by decide +kernel, by decide +kernel⟩
theorem ck__law_cell : ckBl (ckS ⟨n__law_cell, con, defs, bl⟩ 40 (defScope (top 35)) 20) (defBody (top 35)) d__law_cell.body = true := by decide +kernel
theorem dk__law_cell {K : PySem.W.Frag} {h : Heap} {mg : Str → Option Value} (X : K.In h) (G : h.Ns mainGlobals mg) (c : He.SaysD fa fn K) : DefOk K mg pg con defs bl 23 "_law_cell" p__law_cell := by
  obtain ⟨fd, F⟩ := c.def_ 23 (d := dd 35 "_law_cell") rfl
  exact ⟨_, fd, n__law_cell, _, _, _, d__law_cell, 40, 20, F, He.glo_ok X G (c.fact 23 (f := .glo "_law_cell") rfl), FunD.bindsA (ps := p__law_cell) F (fun _ _ _ _ _ _ us hl => match us, hl with | [_, _], _ => by rfl), sc__law_cell, rfl, rfl, rfl, rfl, by rfl, ck__law_cell⟩
def n__law_draws : List Str := [("cell" : Str), ("count" : Str), ("rest" : Str), ("digits" : Str), ("seed" : Str), ("draws" : Str), ("k" : Str), ("mixed" : Str)]
def p__law_draws : List Str := [("cell" : Str), ("count" : Str)]
theorem sc__law_draws : FnScope n__law_draws p__law_draws (defScope (top 36)) := ⟨by rfl, by rfl, by rfl, by decide +kernel, by rfl, by decide +kernel, by decide +kernel⟩
theorem ck__law_draws : ckBl (ckS ⟨n__law_draws, con, defs, bl⟩ 40 (defScope (top 36)) 20) (defBody (top 36)) d__law_draws.body = true := by decide +kernel
theorem dk__law_draws {K : PySem.W.Frag} {h : Heap} {mg : Str → Option Value} (X : K.In h) (G : h.Ns mainGlobals mg) (c : He.SaysD fa fn K) : DefOk K mg pg con defs bl 24 "_law_draws" p__law_draws := by
  obtain ⟨fd, F⟩ := c.def_ 24 (d := dd 36 "_law_draws") rfl
  exact ⟨_, fd, n__law_draws, _, _, _, d__law_draws, 40, 20, F, He.glo_ok X G (c.fact 24 (f := .glo "_law_draws") rfl), FunD.bindsA (ps := p__law_draws) F (fun _ _ _ _ _ _ us hl => match us, hl with | [_, _], _ => by rfl), sc__law_draws, rfl, rfl, rfl, rfl, by rfl, ck__law_draws⟩
def n__law_is_integer : List Str := [("value" : Str)]
def p__law_is_integer : List Str := [("value" : Str)]
theorem sc__law_is_integer : FnScope n__law_is_integer p__law_is_integer (defScope (top 37)) := ⟨by rfl, by rfl, by rfl, by decide +kernel, by rfl, by decide +kernel, by decide +kernel⟩
theorem ck__law_is_integer : ckBl (ckS ⟨n__law_is_integer, con, defs, bl⟩ 40 (defScope (top 37)) 20) (defBody (top 37)) d__law_is_integer.body = true := by decide +kernel
theorem dk__law_is_integer {K : PySem.W.Frag} {h : Heap} {mg : Str → Option Value} (X : K.In h) (G : h.Ns mainGlobals mg) (c : He.SaysD fa fn K) : DefOk K mg pg con defs bl 25 "_law_is_integer" p__law_is_integer := by
  obtain ⟨fd, F⟩ := c.def_ 25 (d := dd 37 "_law_is_integer") rfl
  exact ⟨_, fd, n__law_is_integer, _, _, _, d__law_is_integer, 40, 20, F, He.glo_ok X G (c.fact 25 (f := .glo "_law_is_integer") rfl), FunD.bindsA (ps := p__law_is_integer) F (fun _ _ _ _ _ _ us hl => match us, hl with | [_], _ => by rfl), sc__law_is_integer, rfl, rfl, rfl, rfl, by rfl, ck__law_is_integer⟩
def n__law_is : List Str := [("value" : Str), ("due" : Str), ("at" : Str)]
def p__law_is : List Str := [("value" : Str), ("due" : Str)]
theorem sc__law_is : FnScope n__law_is p__law_is (defScope (top 38)) := ⟨by rfl, by rfl, by rfl, by decide +kernel, by rfl, by decide +kernel, by decide +kernel⟩
theorem ck__law_is : ckBl (ckS ⟨n__law_is, con, defs, bl⟩ 40 (defScope (top 38)) 20) (defBody (top 38)) d__law_is.body = true := by decide +kernel
theorem dk__law_is {K : PySem.W.Frag} {h : Heap} {mg : Str → Option Value} (X : K.In h) (G : h.Ns mainGlobals mg) (c : He.SaysD fa fn K) : DefOk K mg pg con defs bl 26 "_law_is" p__law_is := by
  obtain ⟨fd, F⟩ := c.def_ 26 (d := dd 38 "_law_is") rfl
  exact ⟨_, fd, n__law_is, _, _, _, d__law_is, 40, 20, F, He.glo_ok X G (c.fact 26 (f := .glo "_law_is") rfl), FunD.bindsA (ps := p__law_is) F (fun _ _ _ _ _ _ us hl => match us, hl with | [_, _], _ => by rfl), sc__law_is, rfl, rfl, rfl, rfl, by rfl, ck__law_is⟩
def n__law_take : List Str := [("made" : Str), ("most" : Str), ("at" : Str), ("draws" : Str)]
def p__law_take : List Str := [("made" : Str), ("most" : Str)]
theorem sc__law_take : FnScope n__law_take p__law_take (defScope (top 39)) := ⟨by rfl, by rfl, by rfl, by decide +kernel, by rfl, by decide +kernel, by decide +kernel⟩
theorem ck__law_take : ckBl (ckS ⟨n__law_take, con, defs, bl⟩ 40 (defScope (top 39)) 20) (defBody (top 39)) d__law_take.body = true := by decide +kernel
theorem dk__law_take {K : PySem.W.Frag} {h : Heap} {mg : Str → Option Value} (X : K.In h) (G : h.Ns mainGlobals mg) (c : He.SaysD fa fn K) : DefOk K mg pg con defs bl 27 "_law_take" p__law_take := by
  obtain ⟨fd, F⟩ := c.def_ 27 (d := dd 39 "_law_take") rfl
  exact ⟨_, fd, n__law_take, _, _, _, d__law_take, 40, 20, F, He.glo_ok X G (c.fact 27 (f := .glo "_law_take") rfl), FunD.bindsA (ps := p__law_take) F (fun _ _ _ _ _ _ us hl => match us, hl with | [_, _], _ => by rfl), sc__law_take, rfl, rfl, rfl, rfl, by rfl, ck__law_take⟩
def n__law_made_line : List Str := [("made" : Str)]
def p__law_made_line : List Str := [("made" : Str)]
theorem sc__law_made_line : FnScope n__law_made_line p__law_made_line (defScope (top 40)) := ⟨by rfl, by rfl, by rfl, by decide +kernel, by rfl, by decide +kernel, by decide +kernel⟩
theorem ck__law_made_line : ckBl (ckS ⟨n__law_made_line, con, defs, bl⟩ 40 (defScope (top 40)) 20) (defBody (top 40)) d__law_made_line.body = true := by decide +kernel
theorem dk__law_made_line {K : PySem.W.Frag} {h : Heap} {mg : Str → Option Value} (X : K.In h) (G : h.Ns mainGlobals mg) (c : He.SaysD fa fn K) : DefOk K mg pg con defs bl 28 "_law_made_line" p__law_made_line := by
  obtain ⟨fd, F⟩ := c.def_ 28 (d := dd 40 "_law_made_line") rfl
  exact ⟨_, fd, n__law_made_line, _, _, _, d__law_made_line, 40, 20, F, He.glo_ok X G (c.fact 28 (f := .glo "_law_made_line") rfl), FunD.bindsA (ps := p__law_made_line) F (fun _ _ _ _ _ _ us hl => match us, hl with | [_], _ => by rfl), sc__law_made_line, rfl, rfl, rfl, rfl, by rfl, ck__law_made_line⟩
def n__law_made_text : List Str := [("made" : Str), ("most" : Str), ("at" : Str)]
def p__law_made_text : List Str := [("made" : Str), ("most" : Str)]
theorem sc__law_made_text : FnScope n__law_made_text p__law_made_text (defScope (top 41)) := ⟨by rfl, by rfl, by rfl, by decide +kernel, by rfl, by decide +kernel, by decide +kernel⟩
theorem ck__law_made_text : ckBl (ckS ⟨n__law_made_text, con, defs, bl⟩ 40 (defScope (top 41)) 20) (defBody (top 41)) d__law_made_text.body = true := by decide +kernel
theorem dk__law_made_text {K : PySem.W.Frag} {h : Heap} {mg : Str → Option Value} (X : K.In h) (G : h.Ns mainGlobals mg) (c : He.SaysD fa fn K) : DefOk K mg pg con defs bl 29 "_law_made_text" p__law_made_text := by
  obtain ⟨fd, F⟩ := c.def_ 29 (d := dd 41 "_law_made_text") rfl
  exact ⟨_, fd, n__law_made_text, _, _, _, d__law_made_text, 40, 20, F, He.glo_ok X G (c.fact 29 (f := .glo "_law_made_text") rfl), FunD.bindsA (ps := p__law_made_text) F (fun _ _ _ _ _ _ us hl => match us, hl with | [_, _], _ => by rfl), sc__law_made_text, rfl, rfl, rfl, rfl, by rfl, ck__law_made_text⟩
def n__law_bent_lines : List Str := [("made" : Str), ("text" : Str), ("step" : Str), ("at" : Str), ("way" : Str)]
def p__law_bent_lines : List Str := [("made" : Str), ("text" : Str)]
theorem sc__law_bent_lines : FnScope n__law_bent_lines p__law_bent_lines (defScope (top 42)) := ⟨by rfl, by rfl, by rfl, by decide +kernel, by rfl, by decide +kernel, by decide +kernel⟩
theorem ck__law_bent_lines : ckBl (ckS ⟨n__law_bent_lines, con, defs, bl⟩ 40 (defScope (top 42)) 20) (defBody (top 42)) d__law_bent_lines.body = true := by decide +kernel
theorem dk__law_bent_lines {K : PySem.W.Frag} {h : Heap} {mg : Str → Option Value} (X : K.In h) (G : h.Ns mainGlobals mg) (c : He.SaysD fa fn K) : DefOk K mg pg con defs bl 30 "_law_bent_lines" p__law_bent_lines := by
  obtain ⟨fd, F⟩ := c.def_ 30 (d := dd 42 "_law_bent_lines") rfl
  exact ⟨_, fd, n__law_bent_lines, _, _, _, d__law_bent_lines, 40, 20, F, He.glo_ok X G (c.fact 30 (f := .glo "_law_bent_lines") rfl), FunD.bindsA (ps := p__law_bent_lines) F (fun _ _ _ _ _ _ us hl => match us, hl with | [_, _], _ => by rfl), sc__law_bent_lines, rfl, rfl, rfl, rfl, by rfl, ck__law_bent_lines⟩
def n__law_keeping : List Str := [("first" : Str), ("second" : Str), ("best" : Str), ("i" : Str), ("j" : Str), ("rows" : Str), ("row" : Str)]
def p__law_keeping : List Str := [("first" : Str), ("second" : Str)]
theorem sc__law_keeping : FnScope n__law_keeping p__law_keeping (defScope (top 43)) := ⟨by rfl, by rfl, by rfl, by decide +kernel, by rfl, by decide +kernel, by decide +kernel⟩
theorem ck__law_keeping : ckBl (ckS ⟨n__law_keeping, con, defs, bl⟩ 40 (defScope (top 43)) 20) (defBody (top 43)) d__law_keeping.body = true := by decide +kernel
theorem dk__law_keeping {K : PySem.W.Frag} {h : Heap} {mg : Str → Option Value} (X : K.In h) (G : h.Ns mainGlobals mg) (c : He.SaysD fa fn K) : DefOk K mg pg con defs bl 31 "_law_keeping" p__law_keeping := by
  obtain ⟨fd, F⟩ := c.def_ 31 (d := dd 43 "_law_keeping") rfl
  exact ⟨_, fd, n__law_keeping, _, _, _, d__law_keeping, 40, 20, F, He.glo_ok X G (c.fact 31 (f := .glo "_law_keeping") rfl), FunD.bindsA (ps := p__law_keeping) F (fun _ _ _ _ _ _ us hl => match us, hl with | [_, _], _ => by rfl), sc__law_keeping, rfl, rfl, rfl, rfl, by rfl, ck__law_keeping⟩
def n__law_order : List Str := [("store" : Str), ("steps" : Str), ("spots" : Str), ("spot" : Str), ("order" : Str), ("name" : Str), ("adds" : Str), ("bars" : Str), ("reached" : Str), ("waiting" : Str), ("number" : Str), ("line" : Str), ("ahead" : Str), ("behind" : Str), ("one" : Str)]
def p__law_order : List Str := [("store" : Str)]
theorem sc__law_order : FnScope n__law_order p__law_order (defScope (top 44)) := ⟨by rfl, by rfl, by rfl, by decide +kernel, by rfl, by decide +kernel, by decide +kernel⟩
theorem ck__law_order : ckBl (ckS ⟨n__law_order, con, defs, bl⟩ 40 (defScope (top 44)) 20) (defBody (top 44)) d__law_order.body = true := by decide +kernel
theorem dk__law_order {K : PySem.W.Frag} {h : Heap} {mg : Str → Option Value} (X : K.In h) (G : h.Ns mainGlobals mg) (c : He.SaysD fa fn K) : DefOk K mg pg con defs bl 32 "_law_order" p__law_order := by
  obtain ⟨fd, F⟩ := c.def_ 32 (d := dd 44 "_law_order") rfl
  exact ⟨_, fd, n__law_order, _, _, _, d__law_order, 40, 20, F, He.glo_ok X G (c.fact 32 (f := .glo "_law_order") rfl), FunD.bindsA (ps := p__law_order) F (fun _ _ _ _ _ _ us hl => match us, hl with | [_], _ => by rfl), sc__law_order, rfl, rfl, rfl, rfl, by rfl, ck__law_order⟩
def n__law_alive : List Str := [("store" : Str), ("barred" : Str), ("spots" : Str), ("name" : Str), ("adds" : Str), ("bars" : Str), ("spot" : Str), ("add" : Str)]
def p__law_alive : List Str := [("store" : Str)]
theorem sc__law_alive : FnScope n__law_alive p__law_alive (defScope (top 45)) := ⟨by rfl, by rfl, by rfl, by decide +kernel, by rfl, by decide +kernel, by decide +kernel⟩
theorem ck__law_alive : ckBl (ckS ⟨n__law_alive, con, defs, bl⟩ 40 (defScope (top 45)) 20) (defBody (top 45)) d__law_alive.body = true := by decide +kernel
theorem dk__law_alive {K : PySem.W.Frag} {h : Heap} {mg : Str → Option Value} (X : K.In h) (G : h.Ns mainGlobals mg) (c : He.SaysD fa fn K) : DefOk K mg pg con defs bl 33 "_law_alive" p__law_alive := by
  obtain ⟨fd, F⟩ := c.def_ 33 (d := dd 45 "_law_alive") rfl
  exact ⟨_, fd, n__law_alive, _, _, _, d__law_alive, 40, 20, F, He.glo_ok X G (c.fact 33 (f := .glo "_law_alive") rfl), FunD.bindsA (ps := p__law_alive) F (fun _ _ _ _ _ _ us hl => match us, hl with | [_], _ => by rfl), sc__law_alive, rfl, rfl, rfl, rfl, by rfl, ck__law_alive⟩
def n__law_line : List Str := [("store" : Str), ("spot" : Str), ("adds" : Str), ("patch" : Str), ("add" : Str)]
def p__law_line : List Str := [("store" : Str), ("spot" : Str)]
theorem sc__law_line : FnScope n__law_line p__law_line (defScope (top 46)) := ⟨by rfl, by rfl, by rfl, by decide +kernel, by rfl, by decide +kernel, by decide +kernel⟩
theorem ck__law_line : ckBl (ckS ⟨n__law_line, con, defs, bl⟩ 40 (defScope (top 46)) 20) (defBody (top 46)) d__law_line.body = true := by decide +kernel
theorem dk__law_line {K : PySem.W.Frag} {h : Heap} {mg : Str → Option Value} (X : K.In h) (G : h.Ns mainGlobals mg) (c : He.SaysD fa fn K) : DefOk K mg pg con defs bl 34 "_law_line" p__law_line := by
  obtain ⟨fd, F⟩ := c.def_ 34 (d := dd 46 "_law_line") rfl
  exact ⟨_, fd, n__law_line, _, _, _, d__law_line, 40, 20, F, He.glo_ok X G (c.fact 34 (f := .glo "_law_line") rfl), FunD.bindsA (ps := p__law_line) F (fun _ _ _ _ _ _ us hl => match us, hl with | [_, _], _ => by rfl), sc__law_line, rfl, rfl, rfl, rfl, by rfl, ck__law_line⟩
def n__law_odds : List Str := [("store" : Str), ("order" : Str), ("alive" : Str), ("one" : Str), ("other" : Str)]
def p__law_odds : List Str := [("store" : Str)]
theorem sc__law_odds : FnScope n__law_odds p__law_odds (defScope (top 47)) := ⟨by rfl, by rfl, by rfl, by decide +kernel, by rfl, by decide +kernel, by decide +kernel⟩
theorem ck__law_odds : ckBl (ckS ⟨n__law_odds, con, defs, bl⟩ 40 (defScope (top 47)) 20) (defBody (top 47)) d__law_odds.body = true := by decide +kernel
theorem dk__law_odds {K : PySem.W.Frag} {h : Heap} {mg : Str → Option Value} (X : K.In h) (G : h.Ns mainGlobals mg) (c : He.SaysD fa fn K) : DefOk K mg pg con defs bl 35 "_law_odds" p__law_odds := by
  obtain ⟨fd, F⟩ := c.def_ 35 (d := dd 47 "_law_odds") rfl
  exact ⟨_, fd, n__law_odds, _, _, _, d__law_odds, 40, 20, F, He.glo_ok X G (c.fact 35 (f := .glo "_law_odds") rfl), FunD.bindsA (ps := p__law_odds) F (fun _ _ _ _ _ _ us hl => match us, hl with | [_], _ => by rfl), sc__law_odds, rfl, rfl, rfl, rfl, by rfl, ck__law_odds⟩
def n__law_row : List Str := [("store" : Str), ("order" : Str), ("alive" : Str), ("ranks" : Str), ("spot" : Str), ("pair" : Str), ("one" : Str)]
def p__law_row : List Str := [("store" : Str)]
theorem sc__law_row : FnScope n__law_row p__law_row (defScope (top 48)) := ⟨by rfl, by rfl, by rfl, by decide +kernel, by rfl, by decide +kernel, by decide +kernel⟩
theorem ck__law_row : ckBl (ckS ⟨n__law_row, con, defs, bl⟩ 40 (defScope (top 48)) 20) (defBody (top 48)) d__law_row.body = true := by decide +kernel
theorem dk__law_row {K : PySem.W.Frag} {h : Heap} {mg : Str → Option Value} (X : K.In h) (G : h.Ns mainGlobals mg) (c : He.SaysD fa fn K) : DefOk K mg pg con defs bl 36 "_law_row" p__law_row := by
  obtain ⟨fd, F⟩ := c.def_ 36 (d := dd 48 "_law_row") rfl
  exact ⟨_, fd, n__law_row, _, _, _, d__law_row, 40, 20, F, He.glo_ok X G (c.fact 36 (f := .glo "_law_row") rfl), FunD.bindsA (ps := p__law_row) F (fun _ _ _ _ _ _ us hl => match us, hl with | [_], _ => by rfl), sc__law_row, rfl, rfl, rfl, rfl, by rfl, ck__law_row⟩
def n__law_text_of : List Str := [("store" : Str), ("spot" : Str)]
def p__law_text_of : List Str := [("store" : Str)]
theorem sc__law_text_of : FnScope n__law_text_of p__law_text_of (defScope (top 49)) := ⟨by rfl, by rfl, by rfl, by decide +kernel, by rfl, by decide +kernel, by decide +kernel⟩
theorem ck__law_text_of : ckBl (ckS ⟨n__law_text_of, con, defs, bl⟩ 40 (defScope (top 49)) 20) (defBody (top 49)) d__law_text_of.body = true := by decide +kernel
theorem dk__law_text_of {K : PySem.W.Frag} {h : Heap} {mg : Str → Option Value} (X : K.In h) (G : h.Ns mainGlobals mg) (c : He.SaysD fa fn K) : DefOk K mg pg con defs bl 37 "_law_text_of" p__law_text_of := by
  obtain ⟨fd, F⟩ := c.def_ 37 (d := dd 49 "_law_text_of") rfl
  exact ⟨_, fd, n__law_text_of, _, _, _, d__law_text_of, 40, 20, F, He.glo_ok X G (c.fact 37 (f := .glo "_law_text_of") rfl), FunD.bindsA (ps := p__law_text_of) F (fun _ _ _ _ _ _ us hl => match us, hl with | [_], _ => by rfl), sc__law_text_of, rfl, rfl, rfl, rfl, by rfl, ck__law_text_of⟩
def n__law_recorded : List Str := [("store" : Str), ("name" : Str), ("text" : Str), ("spots" : Str), ("kept" : Str), ("adds" : Str), ("last" : Str), ("at" : Str), ("gone" : Str), ("i" : Str), ("j" : Str), ("later" : Str), ("spot" : Str), ("one" : Str)]
def p__law_recorded : List Str := [("store" : Str), ("name" : Str), ("text" : Str)]
theorem sc__law_recorded : FnScope n__law_recorded p__law_recorded (defScope (top 50)) := ⟨by rfl, by rfl, by rfl, by decide +kernel, by rfl, by decide +kernel, by decide +kernel⟩
theorem ck__law_recorded : ckBl (ckS ⟨n__law_recorded, con, defs, bl⟩ 40 (defScope (top 50)) 20) (defBody (top 50)) d__law_recorded.body = true := by decide +kernel
theorem dk__law_recorded {K : PySem.W.Frag} {h : Heap} {mg : Str → Option Value} (X : K.In h) (G : h.Ns mainGlobals mg) (c : He.SaysD fa fn K) : DefOk K mg pg con defs bl 38 "_law_recorded" p__law_recorded := by
  obtain ⟨fd, F⟩ := c.def_ 38 (d := dd 50 "_law_recorded") rfl
  exact ⟨_, fd, n__law_recorded, _, _, _, d__law_recorded, 40, 20, F, He.glo_ok X G (c.fact 38 (f := .glo "_law_recorded") rfl), FunD.bindsA (ps := p__law_recorded) F (fun _ _ _ _ _ _ us hl => match us, hl with | [_, _, _], _ => by rfl), sc__law_recorded, rfl, rfl, rfl, rfl, by rfl, ck__law_recorded⟩
def n__law_needs : List Str := [("patch" : Str), ("names" : Str), ("number" : Str), ("line" : Str), ("ahead" : Str), ("behind" : Str), ("spot" : Str), ("name" : Str)]
def p__law_needs : List Str := [("patch" : Str)]
theorem sc__law_needs : FnScope n__law_needs p__law_needs (defScope (top 51)) := ⟨by rfl, by rfl, by rfl, by decide +kernel, by rfl, by decide +kernel, by decide +kernel⟩
theorem ck__law_needs : ckBl (ckS ⟨n__law_needs, con, defs, bl⟩ 40 (defScope (top 51)) 20) (defBody (top 51)) d__law_needs.body = true := by decide +kernel
theorem dk__law_needs {K : PySem.W.Frag} {h : Heap} {mg : Str → Option Value} (X : K.In h) (G : h.Ns mainGlobals mg) (c : He.SaysD fa fn K) : DefOk K mg pg con defs bl 39 "_law_needs" p__law_needs := by
  obtain ⟨fd, F⟩ := c.def_ 39 (d := dd 51 "_law_needs") rfl
  exact ⟨_, fd, n__law_needs, _, _, _, d__law_needs, 40, 20, F, He.glo_ok X G (c.fact 39 (f := .glo "_law_needs") rfl), FunD.bindsA (ps := p__law_needs) F (fun _ _ _ _ _ _ us hl => match us, hl with | [_], _ => by rfl), sc__law_needs, rfl, rfl, rfl, rfl, by rfl, ck__law_needs⟩
def n__law_reach : List Str := [("store" : Str), ("names" : Str), ("reached" : Str), ("waiting" : Str), ("one" : Str), ("patch" : Str)]
def p__law_reach : List Str := [("store" : Str), ("names" : Str)]
theorem sc__law_reach : FnScope n__law_reach p__law_reach (defScope (top 52)) := ⟨by rfl, by rfl, by rfl, by decide +kernel, by rfl, by decide +kernel, by decide +kernel⟩
theorem ck__law_reach : ckBl (ckS ⟨n__law_reach, con, defs, bl⟩ 40 (defScope (top 52)) 20) (defBody (top 52)) d__law_reach.body = true := by decide +kernel
theorem dk__law_reach {K : PySem.W.Frag} {h : Heap} {mg : Str → Option Value} (X : K.In h) (G : h.Ns mainGlobals mg) (c : He.SaysD fa fn K) : DefOk K mg pg con defs bl 40 "_law_reach" p__law_reach := by
  obtain ⟨fd, F⟩ := c.def_ 40 (d := dd 52 "_law_reach") rfl
  exact ⟨_, fd, n__law_reach, _, _, _, d__law_reach, 40, 20, F, He.glo_ok X G (c.fact 40 (f := .glo "_law_reach") rfl), FunD.bindsA (ps := p__law_reach) F (fun _ _ _ _ _ _ us hl => match us, hl with | [_, _], _ => by rfl), sc__law_reach, rfl, rfl, rfl, rfl, by rfl, ck__law_reach⟩
def n__law_some : List Str := [("made" : Str), ("items" : Str), ("item" : Str)]
def p__law_some : List Str := [("made" : Str), ("items" : Str)]
theorem sc__law_some : FnScope n__law_some p__law_some (defScope (top 53)) := ⟨by rfl, by rfl, by rfl, by decide +kernel, by rfl, by decide +kernel, by decide +kernel⟩
theorem ck__law_some : ckBl (ckS ⟨n__law_some, con, defs, bl⟩ 40 (defScope (top 53)) 20) (defBody (top 53)) d__law_some.body = true := by decide +kernel
theorem dk__law_some {K : PySem.W.Frag} {h : Heap} {mg : Str → Option Value} (X : K.In h) (G : h.Ns mainGlobals mg) (c : He.SaysD fa fn K) : DefOk K mg pg con defs bl 41 "_law_some" p__law_some := by
  obtain ⟨fd, F⟩ := c.def_ 41 (d := dd 53 "_law_some") rfl
  exact ⟨_, fd, n__law_some, _, _, _, d__law_some, 40, 20, F, He.glo_ok X G (c.fact 41 (f := .glo "_law_some") rfl), FunD.bindsA (ps := p__law_some) F (fun _ _ _ _ _ _ us hl => match us, hl with | [_, _], _ => by rfl), sc__law_some, rfl, rfl, rfl, rfl, by rfl, ck__law_some⟩
def n__law_menu_store : List Str := [("made" : Str), ("most" : Str), ("store" : Str), ("names" : Str), ("turn" : Str), ("some" : Str), ("part" : Str), ("text" : Str), ("name" : Str), ("more" : Str), ("patch" : Str)]
def p__law_menu_store : List Str := [("made" : Str), ("most" : Str)]
theorem sc__law_menu_store : FnScope n__law_menu_store p__law_menu_store (defScope (top 54)) := ⟨by rfl, by rfl, by rfl, by decide +kernel, by rfl, by decide +kernel, by decide +kernel⟩
theorem ck__law_menu_store : ckBl (ckS ⟨n__law_menu_store, con, defs, bl⟩ 40 (defScope (top 54)) 20) (defBody (top 54)) d__law_menu_store.body = true := by decide +kernel
theorem dk__law_menu_store {K : PySem.W.Frag} {h : Heap} {mg : Str → Option Value} (X : K.In h) (G : h.Ns mainGlobals mg) (c : He.SaysD fa fn K) : DefOk K mg pg con defs bl 42 "_law_menu_store" p__law_menu_store := by
  obtain ⟨fd, F⟩ := c.def_ 42 (d := dd 54 "_law_menu_store") rfl
  exact ⟨_, fd, n__law_menu_store, _, _, _, d__law_menu_store, 40, 20, F, He.glo_ok X G (c.fact 42 (f := .glo "_law_menu_store") rfl), FunD.bindsA (ps := p__law_menu_store) F (fun _ _ _ _ _ _ us hl => match us, hl with | [_, _], _ => by rfl), sc__law_menu_store, rfl, rfl, rfl, rfl, by rfl, ck__law_menu_store⟩
def n__law_cut : List Str := [("store" : Str), ("names" : Str), ("reach" : Str), ("patch" : Str)]
def p__law_cut : List Str := [("store" : Str), ("names" : Str)]
theorem sc__law_cut : FnScope n__law_cut p__law_cut (defScope (top 55)) := ⟨by rfl, by rfl, by rfl, by decide +kernel, by rfl, by decide +kernel, by decide +kernel⟩
theorem ck__law_cut : ckBl (ckS ⟨n__law_cut, con, defs, bl⟩ 40 (defScope (top 55)) 20) (defBody (top 55)) d__law_cut.body = true := by decide +kernel
theorem dk__law_cut {K : PySem.W.Frag} {h : Heap} {mg : Str → Option Value} (X : K.In h) (G : h.Ns mainGlobals mg) (c : He.SaysD fa fn K) : DefOk K mg pg con defs bl 43 "_law_cut" p__law_cut := by
  obtain ⟨fd, F⟩ := c.def_ 43 (d := dd 55 "_law_cut") rfl
  exact ⟨_, fd, n__law_cut, _, _, _, d__law_cut, 40, 20, F, He.glo_ok X G (c.fact 43 (f := .glo "_law_cut") rfl), FunD.bindsA (ps := p__law_cut) F (fun _ _ _ _ _ _ us hl => match us, hl with | [_, _], _ => by rfl), sc__law_cut, rfl, rfl, rfl, rfl, by rfl, ck__law_cut⟩
def n__law_sum : List Str := [("text" : Str), ("whole" : Str), ("sign" : Str)]
def p__law_sum : List Str := [("text" : Str)]
theorem sc__law_sum : FnScope n__law_sum p__law_sum (defScope (top 56)) := ⟨by rfl, by rfl, by rfl, by decide +kernel, by rfl, by decide +kernel, by decide +kernel⟩
theorem ck__law_sum : ckBl (ckS ⟨n__law_sum, con, defs, bl⟩ 40 (defScope (top 56)) 20) (defBody (top 56)) d__law_sum.body = true := by decide +kernel
theorem dk__law_sum {K : PySem.W.Frag} {h : Heap} {mg : Str → Option Value} (X : K.In h) (G : h.Ns mainGlobals mg) (c : He.SaysD fa fn K) : DefOk K mg pg con defs bl 44 "_law_sum" p__law_sum := by
  obtain ⟨fd, F⟩ := c.def_ 44 (d := dd 56 "_law_sum") rfl
  exact ⟨_, fd, n__law_sum, _, _, _, d__law_sum, 40, 20, F, He.glo_ok X G (c.fact 44 (f := .glo "_law_sum") rfl), FunD.bindsA (ps := p__law_sum) F (fun _ _ _ _ _ _ us hl => match us, hl with | [_], _ => by rfl), sc__law_sum, rfl, rfl, rfl, rfl, by rfl, ck__law_sum⟩
def n__law_spot : List Str := [("spot" : Str)]
def p__law_spot : List Str := [("spot" : Str)]
theorem sc__law_spot : FnScope n__law_spot p__law_spot (defScope (top 57)) := ⟨by rfl, by rfl, by rfl, by decide +kernel, by rfl, by decide +kernel, by decide +kernel⟩
theorem ck__law_spot : ckBl (ckS ⟨n__law_spot, con, defs, bl⟩ 40 (defScope (top 57)) 20) (defBody (top 57)) d__law_spot.body = true := by decide +kernel
theorem dk__law_spot {K : PySem.W.Frag} {h : Heap} {mg : Str → Option Value} (X : K.In h) (G : h.Ns mainGlobals mg) (c : He.SaysD fa fn K) : DefOk K mg pg con defs bl 45 "_law_spot" p__law_spot := by
  obtain ⟨fd, F⟩ := c.def_ 45 (d := dd 57 "_law_spot") rfl
  exact ⟨_, fd, n__law_spot, _, _, _, d__law_spot, 40, 20, F, He.glo_ok X G (c.fact 45 (f := .glo "_law_spot") rfl), FunD.bindsA (ps := p__law_spot) F (fun _ _ _ _ _ _ us hl => match us, hl with | [_], _ => by rfl), sc__law_spot, rfl, rfl, rfl, rfl, by rfl, ck__law_spot⟩
def n__law_patch_rows : List Str := [("patch" : Str), ("rows" : Str), ("number" : Str), ("line" : Str), ("ahead" : Str), ("behind" : Str), ("spot" : Str), ("row" : Str)]
def p__law_patch_rows : List Str := [("patch" : Str)]
theorem sc__law_patch_rows : FnScope n__law_patch_rows p__law_patch_rows (defScope (top 58)) := ⟨by rfl, by rfl, by rfl, by decide +kernel, by rfl, by decide +kernel, by decide +kernel⟩
theorem ck__law_patch_rows : ckBl (ckS ⟨n__law_patch_rows, con, defs, bl⟩ 40 (defScope (top 58)) 20) (defBody (top 58)) d__law_patch_rows.body = true := by decide +kernel
theorem dk__law_patch_rows {K : PySem.W.Frag} {h : Heap} {mg : Str → Option Value} (X : K.In h) (G : h.Ns mainGlobals mg) (c : He.SaysD fa fn K) : DefOk K mg pg con defs bl 46 "_law_patch_rows" p__law_patch_rows := by
  obtain ⟨fd, F⟩ := c.def_ 46 (d := dd 58 "_law_patch_rows") rfl
  exact ⟨_, fd, n__law_patch_rows, _, _, _, d__law_patch_rows, 40, 20, F, He.glo_ok X G (c.fact 46 (f := .glo "_law_patch_rows") rfl), FunD.bindsA (ps := p__law_patch_rows) F (fun _ _ _ _ _ _ us hl => match us, hl with | [_], _ => by rfl), sc__law_patch_rows, rfl, rfl, rfl, rfl, by rfl, ck__law_patch_rows⟩
def n__law_stamp : List Str := [("patch" : Str)]
def p__law_stamp : List Str := [("patch" : Str)]
theorem sc__law_stamp : FnScope n__law_stamp p__law_stamp (defScope (top 59)) := ⟨by rfl, by rfl, by rfl, by decide +kernel, by rfl, by decide +kernel, by decide +kernel⟩
theorem ck__law_stamp : ckBl (ckS ⟨n__law_stamp, con, defs, bl⟩ 40 (defScope (top 59)) 20) (defBody (top 59)) d__law_stamp.body = true := by decide +kernel
theorem dk__law_stamp {K : PySem.W.Frag} {h : Heap} {mg : Str → Option Value} (X : K.In h) (G : h.Ns mainGlobals mg) (c : He.SaysD fa fn K) : DefOk K mg pg con defs bl 47 "_law_stamp" p__law_stamp := by
  obtain ⟨fd, F⟩ := c.def_ 47 (d := dd 59 "_law_stamp") rfl
  exact ⟨_, fd, n__law_stamp, _, _, _, d__law_stamp, 40, 20, F, He.glo_ok X G (c.fact 47 (f := .glo "_law_stamp") rfl), FunD.bindsA (ps := p__law_stamp) F (fun _ _ _ _ _ _ us hl => match us, hl with | [_], _ => by rfl), sc__law_stamp, rfl, rfl, rfl, rfl, by rfl, ck__law_stamp⟩
def n__law_stamps : List Str := [("store" : Str), ("patch" : Str)]
def p__law_stamps : List Str := [("store" : Str)]
theorem sc__law_stamps : FnScope n__law_stamps p__law_stamps (defScope (top 60)) := ⟨by rfl, by rfl, by rfl, by decide +kernel, by rfl, by decide +kernel, by decide +kernel⟩
theorem ck__law_stamps : ckBl (ckS ⟨n__law_stamps, con, defs, bl⟩ 40 (defScope (top 60)) 20) (defBody (top 60)) d__law_stamps.body = true := by decide +kernel
theorem dk__law_stamps {K : PySem.W.Frag} {h : Heap} {mg : Str → Option Value} (X : K.In h) (G : h.Ns mainGlobals mg) (c : He.SaysD fa fn K) : DefOk K mg pg con defs bl 48 "_law_stamps" p__law_stamps := by
  obtain ⟨fd, F⟩ := c.def_ 48 (d := dd 60 "_law_stamps") rfl
  exact ⟨_, fd, n__law_stamps, _, _, _, d__law_stamps, 40, 20, F, He.glo_ok X G (c.fact 48 (f := .glo "_law_stamps") rfl), FunD.bindsA (ps := p__law_stamps) F (fun _ _ _ _ _ _ us hl => match us, hl with | [_], _ => by rfl), sc__law_stamps, rfl, rfl, rfl, rfl, by rfl, ck__law_stamps⟩
def n__law_fold : List Str := [("numbers" : Str), ("whole" : Str), ("number" : Str)]
def p__law_fold : List Str := [("numbers" : Str)]
theorem sc__law_fold : FnScope n__law_fold p__law_fold (defScope (top 61)) := ⟨by rfl, by rfl, by rfl, by decide +kernel, by rfl, by decide +kernel, by decide +kernel⟩
theorem ck__law_fold : ckBl (ckS ⟨n__law_fold, con, defs, bl⟩ 40 (defScope (top 61)) 20) (defBody (top 61)) d__law_fold.body = true := by decide +kernel
theorem dk__law_fold {K : PySem.W.Frag} {h : Heap} {mg : Str → Option Value} (X : K.In h) (G : h.Ns mainGlobals mg) (c : He.SaysD fa fn K) : DefOk K mg pg con defs bl 49 "_law_fold" p__law_fold := by
  obtain ⟨fd, F⟩ := c.def_ 49 (d := dd 61 "_law_fold") rfl
  exact ⟨_, fd, n__law_fold, _, _, _, d__law_fold, 40, 20, F, He.glo_ok X G (c.fact 49 (f := .glo "_law_fold") rfl), FunD.bindsA (ps := p__law_fold) F (fun _ _ _ _ _ _ us hl => match us, hl with | [_], _ => by rfl), sc__law_fold, rfl, rfl, rfl, rfl, by rfl, ck__law_fold⟩
def n__law_own : List Str := [("stamps" : Str), ("prefix" : Str), ("name" : Str), ("number" : Str)]
def p__law_own : List Str := [("stamps" : Str), ("prefix" : Str)]
theorem sc__law_own : FnScope n__law_own p__law_own (defScope (top 62)) := ⟨by rfl, by rfl, by rfl, by decide +kernel, by rfl, by decide +kernel, by decide +kernel⟩
theorem ck__law_own : ckBl (ckS ⟨n__law_own, con, defs, bl⟩ 40 (defScope (top 62)) 20) (defBody (top 62)) d__law_own.body = true := by decide +kernel
theorem dk__law_own {K : PySem.W.Frag} {h : Heap} {mg : Str → Option Value} (X : K.In h) (G : h.Ns mainGlobals mg) (c : He.SaysD fa fn K) : DefOk K mg pg con defs bl 50 "_law_own" p__law_own := by
  obtain ⟨fd, F⟩ := c.def_ 50 (d := dd 62 "_law_own") rfl
  exact ⟨_, fd, n__law_own, _, _, _, d__law_own, 40, 20, F, He.glo_ok X G (c.fact 50 (f := .glo "_law_own") rfl), FunD.bindsA (ps := p__law_own) F (fun _ _ _ _ _ _ us hl => match us, hl with | [_, _], _ => by rfl), sc__law_own, rfl, rfl, rfl, rfl, by rfl, ck__law_own⟩
def n__law_signs : List Str := [("stamps" : Str), ("prefix" : Str), ("size" : Str), ("name" : Str), ("number" : Str)]
def p__law_signs : List Str := [("stamps" : Str), ("prefix" : Str)]
theorem sc__law_signs : FnScope n__law_signs p__law_signs (defScope (top 63)) := ⟨by rfl, by rfl, by rfl, by decide +kernel, by rfl, by decide +kernel, by decide +kernel⟩
theorem ck__law_signs : ckBl (ckS ⟨n__law_signs, con, defs, bl⟩ 40 (defScope (top 63)) 20) (defBody (top 63)) d__law_signs.body = true := by decide +kernel
theorem dk__law_signs {K : PySem.W.Frag} {h : Heap} {mg : Str → Option Value} (X : K.In h) (G : h.Ns mainGlobals mg) (c : He.SaysD fa fn K) : DefOk K mg pg con defs bl 51 "_law_signs" p__law_signs := by
  obtain ⟨fd, F⟩ := c.def_ 51 (d := dd 63 "_law_signs") rfl
  exact ⟨_, fd, n__law_signs, _, _, _, d__law_signs, 40, 20, F, He.glo_ok X G (c.fact 51 (f := .glo "_law_signs") rfl), FunD.bindsA (ps := p__law_signs) F (fun _ _ _ _ _ _ us hl => match us, hl with | [_, _], _ => by rfl), sc__law_signs, rfl, rfl, rfl, rfl, by rfl, ck__law_signs⟩
def n__law_node : List Str := [("stamps" : Str), ("tree" : Str), ("prefix" : Str), ("sign" : Str)]
def p__law_node : List Str := [("stamps" : Str), ("tree" : Str), ("prefix" : Str)]
theorem sc__law_node : FnScope n__law_node p__law_node (defScope (top 64)) := ⟨by rfl, by rfl, by rfl, by decide +kernel, by rfl, by decide +kernel, by decide +kernel⟩
theorem ck__law_node : ckBl (ckS ⟨n__law_node, con, defs, bl⟩ 40 (defScope (top 64)) 20) (defBody (top 64)) d__law_node.body = true := by decide +kernel
theorem dk__law_node {K : PySem.W.Frag} {h : Heap} {mg : Str → Option Value} (X : K.In h) (G : h.Ns mainGlobals mg) (c : He.SaysD fa fn K) : DefOk K mg pg con defs bl 52 "_law_node" p__law_node := by
  obtain ⟨fd, F⟩ := c.def_ 52 (d := dd 64 "_law_node") rfl
  exact ⟨_, fd, n__law_node, _, _, _, d__law_node, 40, 20, F, He.glo_ok X G (c.fact 52 (f := .glo "_law_node") rfl), FunD.bindsA (ps := p__law_node) F (fun _ _ _ _ _ _ us hl => match us, hl with | [_, _, _], _ => by rfl), sc__law_node, rfl, rfl, rfl, rfl, by rfl, ck__law_node⟩
def n__law_node_sum : List Str := [("node" : Str), ("numbers" : Str), ("sign" : Str), ("digest" : Str)]
def p__law_node_sum : List Str := [("node" : Str)]
theorem sc__law_node_sum : FnScope n__law_node_sum p__law_node_sum (defScope (top 65)) := ⟨by rfl, by rfl, by rfl, by decide +kernel, by rfl, by decide +kernel, by decide +kernel⟩
theorem ck__law_node_sum : ckBl (ckS ⟨n__law_node_sum, con, defs, bl⟩ 40 (defScope (top 65)) 20) (defBody (top 65)) d__law_node_sum.body = true := by decide +kernel
theorem dk__law_node_sum {K : PySem.W.Frag} {h : Heap} {mg : Str → Option Value} (X : K.In h) (G : h.Ns mainGlobals mg) (c : He.SaysD fa fn K) : DefOk K mg pg con defs bl 53 "_law_node_sum" p__law_node_sum := by
  obtain ⟨fd, F⟩ := c.def_ 53 (d := dd 65 "_law_node_sum") rfl
  exact ⟨_, fd, n__law_node_sum, _, _, _, d__law_node_sum, 40, 20, F, He.glo_ok X G (c.fact 53 (f := .glo "_law_node_sum") rfl), FunD.bindsA (ps := p__law_node_sum) F (fun _ _ _ _ _ _ us hl => match us, hl with | [_], _ => by rfl), sc__law_node_sum, rfl, rfl, rfl, rfl, by rfl, ck__law_node_sum⟩
def n__law_begins : List Str := [("names" : Str), ("prefixes" : Str), ("name" : Str), ("size" : Str)]
def p__law_begins : List Str := [("names" : Str)]
theorem sc__law_begins : FnScope n__law_begins p__law_begins (defScope (top 66)) := ⟨by rfl, by rfl, by rfl, by decide +kernel, by rfl, by decide +kernel, by decide +kernel⟩
theorem ck__law_begins : ckBl (ckS ⟨n__law_begins, con, defs, bl⟩ 40 (defScope (top 66)) 20) (defBody (top 66)) d__law_begins.body = true := by decide +kernel
theorem dk__law_begins {K : PySem.W.Frag} {h : Heap} {mg : Str → Option Value} (X : K.In h) (G : h.Ns mainGlobals mg) (c : He.SaysD fa fn K) : DefOk K mg pg con defs bl 54 "_law_begins" p__law_begins := by
  obtain ⟨fd, F⟩ := c.def_ 54 (d := dd 66 "_law_begins") rfl
  exact ⟨_, fd, n__law_begins, _, _, _, d__law_begins, 40, 20, F, He.glo_ok X G (c.fact 54 (f := .glo "_law_begins") rfl), FunD.bindsA (ps := p__law_begins) F (fun _ _ _ _ _ _ us hl => match us, hl with | [_], _ => by rfl), sc__law_begins, rfl, rfl, rfl, rfl, by rfl, ck__law_begins⟩
def n__law_tree : List Str := [("stamps" : Str), ("tree" : Str), ("size" : Str), ("prefix" : Str), ("one" : Str), ("pair" : Str)]
def p__law_tree : List Str := [("stamps" : Str)]
theorem sc__law_tree : FnScope n__law_tree p__law_tree (defScope (top 67)) := ⟨by rfl, by rfl, by rfl, by decide +kernel, by rfl, by decide +kernel, by decide +kernel⟩
theorem ck__law_tree : ckBl (ckS ⟨n__law_tree, con, defs, bl⟩ 40 (defScope (top 67)) 20) (defBody (top 67)) d__law_tree.body = true := by decide +kernel
theorem dk__law_tree {K : PySem.W.Frag} {h : Heap} {mg : Str → Option Value} (X : K.In h) (G : h.Ns mainGlobals mg) (c : He.SaysD fa fn K) : DefOk K mg pg con defs bl 55 "_law_tree" p__law_tree := by
  obtain ⟨fd, F⟩ := c.def_ 55 (d := dd 67 "_law_tree") rfl
  exact ⟨_, fd, n__law_tree, _, _, _, d__law_tree, 40, 20, F, He.glo_ok X G (c.fact 55 (f := .glo "_law_tree") rfl), FunD.bindsA (ps := p__law_tree) F (fun _ _ _ _ _ _ us hl => match us, hl with | [_], _ => by rfl), sc__law_tree, rfl, rfl, rfl, rfl, by rfl, ck__law_tree⟩
def n__law_made_stamps : List Str := [("made" : Str), ("most" : Str), ("names" : Str), ("pairs" : Str), ("turn" : Str), ("number" : Str)]
def p__law_made_stamps : List Str := [("made" : Str), ("most" : Str)]
theorem sc__law_made_stamps : FnScope n__law_made_stamps p__law_made_stamps (defScope (top 68)) := ⟨by rfl, by rfl, by rfl, by decide +kernel, by rfl, by decide +kernel, by decide +kernel⟩
theorem ck__law_made_stamps : ckBl (ckS ⟨n__law_made_stamps, con, defs, bl⟩ 40 (defScope (top 68)) 20) (defBody (top 68)) d__law_made_stamps.body = true := by decide +kernel
theorem dk__law_made_stamps {K : PySem.W.Frag} {h : Heap} {mg : Str → Option Value} (X : K.In h) (G : h.Ns mainGlobals mg) (c : He.SaysD fa fn K) : DefOk K mg pg con defs bl 56 "_law_made_stamps" p__law_made_stamps := by
  obtain ⟨fd, F⟩ := c.def_ 56 (d := dd 68 "_law_made_stamps") rfl
  exact ⟨_, fd, n__law_made_stamps, _, _, _, d__law_made_stamps, 40, 20, F, He.glo_ok X G (c.fact 56 (f := .glo "_law_made_stamps") rfl), FunD.bindsA (ps := p__law_made_stamps) F (fun _ _ _ _ _ _ us hl => match us, hl with | [_, _], _ => by rfl), sc__law_made_stamps, rfl, rfl, rfl, rfl, by rfl, ck__law_made_stamps⟩
def n__law_search : List Str := [("one" : Str), ("other" : Str), ("first" : Str), ("second" : Str), ("names" : Str), ("looked" : Str), ("hidden" : Str), ("waiting" : Str), ("prefix" : Str), ("sign" : Str), ("longer" : Str)]
def p__law_search : List Str := [("one" : Str), ("other" : Str)]
theorem sc__law_search : FnScope n__law_search p__law_search (defScope (top 69)) := ⟨by rfl, by rfl, by rfl, by decide +kernel, by rfl, by decide +kernel, by decide +kernel⟩
theorem ck__law_search : ckBl (ckS ⟨n__law_search, con, defs, bl⟩ 40 (defScope (top 69)) 20) (defBody (top 69)) d__law_search.body = true := by decide +kernel
theorem dk__law_search {K : PySem.W.Frag} {h : Heap} {mg : Str → Option Value} (X : K.In h) (G : h.Ns mainGlobals mg) (c : He.SaysD fa fn K) : DefOk K mg pg con defs bl 57 "_law_search" p__law_search := by
  obtain ⟨fd, F⟩ := c.def_ 57 (d := dd 69 "_law_search") rfl
  exact ⟨_, fd, n__law_search, _, _, _, d__law_search, 40, 20, F, He.glo_ok X G (c.fact 57 (f := .glo "_law_search") rfl), FunD.bindsA (ps := p__law_search) F (fun _ _ _ _ _ _ us hl => match us, hl with | [_, _], _ => by rfl), sc__law_search, rfl, rfl, rfl, rfl, by rfl, ck__law_search⟩
def n__law_begun : List Str := [("stamps" : Str), ("prefix" : Str), ("pair" : Str)]
def p__law_begun : List Str := [("stamps" : Str), ("prefix" : Str)]
theorem sc__law_begun : FnScope n__law_begun p__law_begun (defScope (top 70)) := ⟨by rfl, by rfl, by rfl, by decide +kernel, by rfl, by decide +kernel, by decide +kernel⟩
theorem ck__law_begun : ckBl (ckS ⟨n__law_begun, con, defs, bl⟩ 40 (defScope (top 70)) 20) (defBody (top 70)) d__law_begun.body = true := by decide +kernel
theorem dk__law_begun {K : PySem.W.Frag} {h : Heap} {mg : Str → Option Value} (X : K.In h) (G : h.Ns mainGlobals mg) (c : He.SaysD fa fn K) : DefOk K mg pg con defs bl 58 "_law_begun" p__law_begun := by
  obtain ⟨fd, F⟩ := c.def_ 58 (d := dd 70 "_law_begun") rfl
  exact ⟨_, fd, n__law_begun, _, _, _, d__law_begun, 40, 20, F, He.glo_ok X G (c.fact 58 (f := .glo "_law_begun") rfl), FunD.bindsA (ps := p__law_begun) F (fun _ _ _ _ _ _ us hl => match us, hl with | [_, _], _ => by rfl), sc__law_begun, rfl, rfl, rfl, rfl, by rfl, ck__law_begun⟩
def n__law_differing : List Str := [("one" : Str), ("other" : Str), ("names" : Str), ("pair" : Str)]
def p__law_differing : List Str := [("one" : Str), ("other" : Str)]
theorem sc__law_differing : FnScope n__law_differing p__law_differing (defScope (top 71)) := ⟨by rfl, by rfl, by rfl, by decide +kernel, by rfl, by decide +kernel, by decide +kernel⟩
theorem ck__law_differing : ckBl (ckS ⟨n__law_differing, con, defs, bl⟩ 40 (defScope (top 71)) 20) (defBody (top 71)) d__law_differing.body = true := by decide +kernel
theorem dk__law_differing {K : PySem.W.Frag} {h : Heap} {mg : Str → Option Value} (X : K.In h) (G : h.Ns mainGlobals mg) (c : He.SaysD fa fn K) : DefOk K mg pg con defs bl 59 "_law_differing" p__law_differing := by
  obtain ⟨fd, F⟩ := c.def_ 59 (d := dd 71 "_law_differing") rfl
  exact ⟨_, fd, n__law_differing, _, _, _, d__law_differing, 40, 20, F, He.glo_ok X G (c.fact 59 (f := .glo "_law_differing") rfl), FunD.bindsA (ps := p__law_differing) F (fun _ _ _ _ _ _ us hl => match us, hl with | [_, _], _ => by rfl), sc__law_differing, rfl, rfl, rfl, rfl, by rfl, ck__law_differing⟩
def n__law_search_due : List Str := [("one" : Str), ("other" : Str), ("differing" : Str), ("begins" : Str), ("names" : Str), ("looked" : Str), ("hidden" : Str), ("name" : Str), ("prefix" : Str)]
def p__law_search_due : List Str := [("one" : Str), ("other" : Str)]
theorem sc__law_search_due : FnScope n__law_search_due p__law_search_due (defScope (top 72)) := ⟨by rfl, by rfl, by rfl, by decide +kernel, by rfl, by decide +kernel, by decide +kernel⟩
theorem ck__law_search_due : ckBl (ckS ⟨n__law_search_due, con, defs, bl⟩ 40 (defScope (top 72)) 20) (defBody (top 72)) d__law_search_due.body = true := by decide +kernel
theorem dk__law_search_due {K : PySem.W.Frag} {h : Heap} {mg : Str → Option Value} (X : K.In h) (G : h.Ns mainGlobals mg) (c : He.SaysD fa fn K) : DefOk K mg pg con defs bl 60 "_law_search_due" p__law_search_due := by
  obtain ⟨fd, F⟩ := c.def_ 60 (d := dd 72 "_law_search_due") rfl
  exact ⟨_, fd, n__law_search_due, _, _, _, d__law_search_due, 40, 20, F, He.glo_ok X G (c.fact 60 (f := .glo "_law_search_due") rfl), FunD.bindsA (ps := p__law_search_due) F (fun _ _ _ _ _ _ us hl => match us, hl with | [_, _], _ => by rfl), sc__law_search_due, rfl, rfl, rfl, rfl, by rfl, ck__law_search_due⟩
def n__law_bent_stamps : List Str := [("made" : Str), ("stamps" : Str), ("turn" : Str), ("at" : Str), ("way" : Str), ("name" : Str), ("pair" : Str)]
def p__law_bent_stamps : List Str := [("made" : Str), ("stamps" : Str)]
theorem sc__law_bent_stamps : FnScope n__law_bent_stamps p__law_bent_stamps (defScope (top 73)) := ⟨by rfl, by rfl, by rfl, by decide +kernel, by rfl, by decide +kernel, by decide +kernel⟩
theorem ck__law_bent_stamps : ckBl (ckS ⟨n__law_bent_stamps, con, defs, bl⟩ 40 (defScope (top 73)) 20) (defBody (top 73)) d__law_bent_stamps.body = true := by decide +kernel
theorem dk__law_bent_stamps {K : PySem.W.Frag} {h : Heap} {mg : Str → Option Value} (X : K.In h) (G : h.Ns mainGlobals mg) (c : He.SaysD fa fn K) : DefOk K mg pg con defs bl 61 "_law_bent_stamps" p__law_bent_stamps := by
  obtain ⟨fd, F⟩ := c.def_ 61 (d := dd 73 "_law_bent_stamps") rfl
  exact ⟨_, fd, n__law_bent_stamps, _, _, _, d__law_bent_stamps, 40, 20, F, He.glo_ok X G (c.fact 61 (f := .glo "_law_bent_stamps") rfl), FunD.bindsA (ps := p__law_bent_stamps) F (fun _ _ _ _ _ _ us hl => match us, hl with | [_, _], _ => by rfl), sc__law_bent_stamps, rfl, rfl, rfl, rfl, by rfl, ck__law_bent_stamps⟩
def n_law : List Str := [("script" : Str), ("k" : Str), ("made" : Str), ("store" : Str), ("names" : Str), ("one" : Str), ("other" : Str), ("both" : Str), ("part" : Str), ("turn" : Str), ("left" : Str), ("stamps" : Str), ("patch" : Str), ("lacking" : Str), ("looked" : Str), ("hidden" : Str), ("at" : Str), ("changed" : Str), ("name" : Str), ("number" : Str)]
def p_law : List Str := [("script" : Str)]
theorem sc_law : FnScope n_law p_law (defScope (top 74)) := ⟨by rfl, by rfl, by rfl, by decide +kernel, by rfl, by decide +kernel, by decide +kernel⟩
theorem ck_law : ckBl (ckS ⟨n_law, con, defs, bl⟩ 40 (defScope (top 74)) 20) (defBody (top 74)) d_law.body = true := by decide +kernel
theorem dk_law {K : PySem.W.Frag} {h : Heap} {mg : Str → Option Value} (X : K.In h) (G : h.Ns mainGlobals mg) (c : He.SaysD fa fn K) : DefOk K mg pg con defs bl 62 "law" p_law := by
  obtain ⟨fd, F⟩ := c.def_ 62 (d := dd 74 "law") rfl
  exact ⟨_, fd, n_law, _, _, _, d_law, 40, 20, F, He.glo_ok X G (c.fact 62 (f := .glo "law") rfl), FunD.bindsA (ps := p_law) F (fun _ _ _ _ _ _ us hl => match us, hl with | [_], _ => by rfl), sc_law, rfl, rfl, rfl, rfl, by rfl, ck_law⟩
theorem hd_all {K : PySem.W.Frag} {h : Heap} {mg : Str → Option Value} (X : K.In h) (G : h.Ns mainGlobals mg) (c : He.SaysD fa fn K) : ∀ (f : Nat) (x : Str) (np : Nat), defs[f]? = some (x, np) → ∃ ps, np = ps.length ∧ DefOk K mg pg con defs bl f x ps
  | 0, _, _, e => by cases e; exact ⟨_, rfl, dk_named_in X G c⟩
  | 1, _, _, e => by cases e; exact ⟨_, rfl, dk_needs_of X G c⟩
  | 2, _, _, e => by cases e; exact ⟨_, rfl, dk_sum_of X G c⟩
  | 3, _, _, e => by cases e; exact ⟨_, rfl, dk_spot_text X G c⟩
  | 4, _, _, e => by cases e; exact ⟨_, rfl, dk_write_patch X G c⟩
  | 5, _, _, e => by cases e; exact ⟨_, rfl, dk_patch_stamp X G c⟩
  | 6, _, _, e => by cases e; exact ⟨_, rfl, dk_stamps_of X G c⟩
  | 7, _, _, e => by cases e; exact ⟨_, rfl, dk_fold_row X G c⟩
  | 8, _, _, e => by cases e; exact ⟨_, rfl, dk_own_stamp X G c⟩
  | 9, _, _, e => by cases e; exact ⟨_, rfl, dk_begun_by X G c⟩
  | 10, _, _, e => by cases e; exact ⟨_, rfl, dk_branch_signs X G c⟩
  | 11, _, _, e => by cases e; exact ⟨_, rfl, dk_node_row X G c⟩
  | 12, _, _, e => by cases e; exact ⟨_, rfl, dk_node_digest X G c⟩
  | 13, _, _, e => by cases e; exact ⟨_, rfl, dk_stale_prefixes X G c⟩
  | 14, _, _, e => by cases e; exact ⟨_, rfl, dk_ranked_prefixes X G c⟩
  | 15, _, _, e => by cases e; exact ⟨_, rfl, dk_branch_pairs X G c⟩
  | 16, _, _, e => by cases e; exact ⟨_, rfl, dk_digest_tree X G c⟩
  | 17, _, _, e => by cases e; exact ⟨_, rfl, dk_digest_under X G c⟩
  | 18, _, _, e => by cases e; exact ⟨_, rfl, dk_differing_signs X G c⟩
  | 19, _, _, e => by cases e; exact ⟨_, rfl, dk_stamp_search X G c⟩
  | 20, _, _, e => by cases e; exact ⟨_, rfl, dk_reach_of X G c⟩
  | 21, _, _, e => by cases e; exact ⟨_, rfl, dk_cut_to X G c⟩
  | 22, _, _, e => by cases e; exact ⟨_, rfl, dk_together X G c⟩
  | 23, _, _, e => by cases e; exact ⟨_, rfl, dk__law_cell X G c⟩
  | 24, _, _, e => by cases e; exact ⟨_, rfl, dk__law_draws X G c⟩
  | 25, _, _, e => by cases e; exact ⟨_, rfl, dk__law_is_integer X G c⟩
  | 26, _, _, e => by cases e; exact ⟨_, rfl, dk__law_is X G c⟩
  | 27, _, _, e => by cases e; exact ⟨_, rfl, dk__law_take X G c⟩
  | 28, _, _, e => by cases e; exact ⟨_, rfl, dk__law_made_line X G c⟩
  | 29, _, _, e => by cases e; exact ⟨_, rfl, dk__law_made_text X G c⟩
  | 30, _, _, e => by cases e; exact ⟨_, rfl, dk__law_bent_lines X G c⟩
  | 31, _, _, e => by cases e; exact ⟨_, rfl, dk__law_keeping X G c⟩
  | 32, _, _, e => by cases e; exact ⟨_, rfl, dk__law_order X G c⟩
  | 33, _, _, e => by cases e; exact ⟨_, rfl, dk__law_alive X G c⟩
  | 34, _, _, e => by cases e; exact ⟨_, rfl, dk__law_line X G c⟩
  | 35, _, _, e => by cases e; exact ⟨_, rfl, dk__law_odds X G c⟩
  | 36, _, _, e => by cases e; exact ⟨_, rfl, dk__law_row X G c⟩
  | 37, _, _, e => by cases e; exact ⟨_, rfl, dk__law_text_of X G c⟩
  | 38, _, _, e => by cases e; exact ⟨_, rfl, dk__law_recorded X G c⟩
  | 39, _, _, e => by cases e; exact ⟨_, rfl, dk__law_needs X G c⟩
  | 40, _, _, e => by cases e; exact ⟨_, rfl, dk__law_reach X G c⟩
  | 41, _, _, e => by cases e; exact ⟨_, rfl, dk__law_some X G c⟩
  | 42, _, _, e => by cases e; exact ⟨_, rfl, dk__law_menu_store X G c⟩
  | 43, _, _, e => by cases e; exact ⟨_, rfl, dk__law_cut X G c⟩
  | 44, _, _, e => by cases e; exact ⟨_, rfl, dk__law_sum X G c⟩
  | 45, _, _, e => by cases e; exact ⟨_, rfl, dk__law_spot X G c⟩
  | 46, _, _, e => by cases e; exact ⟨_, rfl, dk__law_patch_rows X G c⟩
  | 47, _, _, e => by cases e; exact ⟨_, rfl, dk__law_stamp X G c⟩
  | 48, _, _, e => by cases e; exact ⟨_, rfl, dk__law_stamps X G c⟩
  | 49, _, _, e => by cases e; exact ⟨_, rfl, dk__law_fold X G c⟩
  | 50, _, _, e => by cases e; exact ⟨_, rfl, dk__law_own X G c⟩
  | 51, _, _, e => by cases e; exact ⟨_, rfl, dk__law_signs X G c⟩
  | 52, _, _, e => by cases e; exact ⟨_, rfl, dk__law_node X G c⟩
  | 53, _, _, e => by cases e; exact ⟨_, rfl, dk__law_node_sum X G c⟩
  | 54, _, _, e => by cases e; exact ⟨_, rfl, dk__law_begins X G c⟩
  | 55, _, _, e => by cases e; exact ⟨_, rfl, dk__law_tree X G c⟩
  | 56, _, _, e => by cases e; exact ⟨_, rfl, dk__law_made_stamps X G c⟩
  | 57, _, _, e => by cases e; exact ⟨_, rfl, dk__law_search X G c⟩
  | 58, _, _, e => by cases e; exact ⟨_, rfl, dk__law_begun X G c⟩
  | 59, _, _, e => by cases e; exact ⟨_, rfl, dk__law_differing X G c⟩
  | 60, _, _, e => by cases e; exact ⟨_, rfl, dk__law_search_due X G c⟩
  | 61, _, _, e => by cases e; exact ⟨_, rfl, dk__law_bent_stamps X G c⟩
  | 62, _, _, e => by cases e; exact ⟨_, rfl, dk_law X G c⟩
  | n + 63, _, _, e => by simp [defs] at e
theorem hb_all {K : PySem.W.Frag} {h : Heap} {mg : Str → Option Value} (X : K.In h) (G : h.Ns mainGlobals mg) (c : He.SaysD fa fn K) : ∀ x ∈ bl, mg x = none := by
  intro x hx
  have t : ∀ x ∈ bl, (He.Fa.free x) ∈ fa := by
    intro x hx
    simp only [fa, List.mem_append, List.mem_cons, He.Fa.free.injEq]
    simp only [bl, List.mem_cons, List.not_mem_nil, or_false] at hx
    simp [hx]
  exact He.free_ok X G (c.facts (t x hx))
theorem hc_all {K : PySem.W.Frag} {h : Heap} {mg : Str → Option Value} (X : K.In h) (G : h.Ns mainGlobals mg) (c : He.SaysD fa fn K) (hx : exB cs K = true) : ∀ x d, (x, d) ∈ con → ConOk K mg x d := by
  intro x d hm
  simp only [con, List.mem_cons, Prod.mk.injEq, List.not_mem_nil, or_false] at hm
  rcases hm with ⟨rfl, rfl⟩ | ⟨rfl, rfl⟩ | ⟨rfl, rfl⟩
  · exact conT_of X G hx (by decide +kernel)
  · exact conT_of X G hx (by decide +kernel)
  · exact conI_of X G (c.fact 79 rfl)
end Sk
open PySem PySem.W PySem.Calls PyProof.Rows
theorem PySem.Challenge.cw_skein_k72_whole_searches_for_what_differ_holds : PySem.Challenge.rw_skein_k72_whole_searches_for_what_differ.Holds := by
  w_on; o_law
  refine HandSHeadRun.head_any (r := OpenLaw.row PySem.Challenge.rw_skein_k72_whole_searches_for_what_differ) (q := view (OpenLaw.row PySem.Challenge.rw_skein_k72_whole_searches_for_what_differ).prog [74]) (H := Sk.hk) (ob := Sk.ob) (M := 4000) (loose := Sk.lo) (d := HandSHeadRun.topDef (OpenLaw.row PySem.Challenge.rw_skein_k72_whole_searches_for_what_differ).prog 74) (kwd := []) Sk.ob_eq
    (by kernel_rfl) (fun s => by kernel_rfl) Sk.run (by kernel_rfl) (by kernel_rfl) (by kernel_rfl) (by rfl) (by first | assumption | decide +kernel) (by decide +kernel) ⟨rfl, rfl, rfl, rfl, rfl, by decide +kernel⟩ ?hw ?hc
  case hw => w_witness2
  case hc =>
    refine LamX.walk_ofTsE (l := PySem.Challenge.rw_skein_k72_whole_searches_for_what_differ) (n := 63) (k := 62) (x := "script") (CX := fun _ => C8.CX0) rfl (by decide) (by kernel_rfl) ⟨rfl, by decide, by decide⟩ ?F (fun _ _ _ _ _ z => z)
    intro w mg fa h Y G hmg0
    obtain ⟨K, KX, c⟩ := Y
    have hmg : mg ("law" : PySem.Str) = some (.ref fa) := by
      have e : (HandSHeadRun.topDef (OpenLaw.row PySem.Challenge.rw_skein_k72_whole_searches_for_what_differ).prog 74).name = ("law" : PySem.Str) := by kernel_rfl
      rw [← e]
      exact hmg0
    exact ⟨K, KX, Sk.lawAt_of (Sk.hd_all KX G c.t.d) (Sk.hc_all KX G c.t.d c.more) (Sk.hb_all KX G c.t.d) (Sk.dk_law KX G c.t.d) hmg c.more Sk.law_ok⟩

