import PyProof.Rows.All
import PySem.Str
import Wide.All
import OpenK.AllK
import Wide.FinOn
import HandS.ForMost
import HandS.ForExc
import HandS.Wide
import HandS.TupMul
import HandS.TupAny
import HandS.IsInst
import HandS.Deep
import HandS.SlotsOwn
import KE.KEqNest
import HandS.DictComp
import HandS.ListItems
import HandS.WordsDict
import HandS.Finally
import PyProof.ListStr
import PyProof.ReprRoads
import PyProof.CallFns
import PyProof.P3In
import HandS.RaiseMore
import PyProof.Rows.StrMeet
import PyProof.Rows.StrPadWhole
import KE.KExcSuper
import KE.KExcInit
import HandS.ExcField
import HandS.ExcValue
import KE.KExcIs
import HandS.FStr
import HandS.Style
import HandS.Star
import KE.KCallOwn
import HandS.Ends
import HandS.Defaults
import HandS.Head0
import HandS.Head1
import HandS.Head2
import HandS.HeadEnd
import HandS.HeadHook1
import HandS.HeadHook2
import KE.KStateDown
import Lean
import PySem.Challenge.RW_munchbehind_k04_whole_subtrees_and_level
set_option linter.all false
set_option autoImplicit false
/-! The small machine: pure data, a heap of few mutable things, and what a program of this kind does over them. -/
namespace PI
abbrev Tx := PySem.Str

/-- pure values; `lst`, `dct`, `ins`: things that nobody changes any more; `scr`: a row that is handed in and only read; `loc n`: the n-th thing of the heap -/
inductive D where
  | non
  | bl (b : Bool)
  | int (i : Int)
  | str (s : Tx)
  | tup (xs : List D)
  | lst (xs : List D)
  | scr (xs : List Int)
  | dct (kvs : List (D × D))
  | ins (c : Nat) (fs : List D)
  | loc (n : Nat)
  deriving Inhabited

mutual
def D.same : D → D → Bool
  | .non, .non => true
  | .bl a, .bl b => a == b
  | .int a, .int b => a == b
  | .str a, .str b => decide (a = b)
  | .tup a, .tup b => D.sames a b
  | .lst a, .lst b => D.sames a b
  | .scr a, .scr b => decide (a = b)
  | .dct a, .dct b => D.sameps a b
  | .ins c a, .ins d b => c == d && D.sames a b
  | .loc a, .loc b => a == b
  | _, _ => false
def D.sames : List D → List D → Bool
  | [], [] => true
  | a :: x, b :: y => D.same a b && D.sames x y
  | _, _ => false
def D.sameps : List (D × D) → List (D × D) → Bool
  | [], [] => true
  | (a, b) :: x, (c, d) :: y => D.same a c && D.same b d && D.sameps x y
  | _, _ => false
end

mutual
theorem D.same_eq : ∀ (a b : D), D.same a b = true → a = b
  | .non, b, h => by cases b <;> simp_all [D.same]
  | .bl _, b, h => by cases b <;> simp_all [D.same]
  | .int _, b, h => by cases b <;> simp_all [D.same]
  | .str _, b, h => by cases b <;> simp_all [D.same]
  | .scr _, b, h => by cases b <;> simp_all [D.same]
  | .tup xs, b, h => by
    cases b <;> simp only [D.same, Bool.false_eq_true] at h
    rw [D.sames_eq _ _ h]
  | .lst xs, b, h => by
    cases b <;> simp only [D.same, Bool.false_eq_true] at h
    rw [D.sames_eq _ _ h]
  | .dct xs, b, h => by
    cases b <;> simp only [D.same, Bool.false_eq_true] at h
    rw [D.sameps_eq _ _ h]
  | .ins c xs, b, h => by
    cases b <;> simp only [D.same, Bool.false_eq_true, Bool.and_eq_true, beq_iff_eq] at h
    rw [h.1, D.sames_eq _ _ h.2]
  | .loc _, b, h => by cases b <;> simp_all [D.same]
theorem D.sames_eq : ∀ (a b : List D), D.sames a b = true → a = b
  | [], b, h => by cases b <;> simp_all [D.sames]
  | x :: xs, b, h => by
    cases b with
    | nil => simp [D.sames] at h
    | cons y ys =>
      simp only [D.sames, Bool.and_eq_true] at h
      rw [D.same_eq _ _ h.1, D.sames_eq _ _ h.2]
theorem D.sameps_eq : ∀ (a b : List (D × D)), D.sameps a b = true → a = b
  | [], b, h => by cases b <;> simp_all [D.sameps]
  | (x, z) :: xs, b, h => by
    cases b with
    | nil => simp [D.sameps] at h
    | cons y ys =>
      obtain ⟨y, w⟩ := y
      simp only [D.sameps, Bool.and_eq_true] at h
      rw [D.same_eq _ _ h.1.1, D.same_eq _ _ h.1.2, D.sameps_eq _ _ h.2]
end
mutual
theorem D.same_refl : ∀ (a : D), D.same a a = true
  | .non => rfl
  | .bl _ => by simp [D.same]
  | .int _ => by simp [D.same]
  | .str _ => by simp [D.same]
  | .scr _ => by simp [D.same]
  | .tup xs => by simp only [D.same]; exact D.sames_refl xs
  | .lst xs => by simp only [D.same]; exact D.sames_refl xs
  | .dct xs => by simp only [D.same]; exact D.sameps_refl xs
  | .ins c xs => by simp only [D.same, beq_self_eq_true, Bool.true_and]; exact D.sames_refl xs
  | .loc _ => by simp [D.same]
theorem D.sames_refl : ∀ (a : List D), D.sames a a = true
  | [] => rfl
  | x :: xs => by simp only [D.sames, D.same_refl x, D.sames_refl xs, Bool.and_self]
theorem D.sameps_refl : ∀ (a : List (D × D)), D.sameps a a = true
  | [] => rfl
  | (x, y) :: xs => by simp only [D.sameps, D.same_refl x, D.same_refl y, D.sameps_refl xs, Bool.and_self]
end
instance : DecidableEq D := fun a b => if h : D.same a b = true then isTrue (D.same_eq a b h) else isFalse fun e => h (e ▸ D.same_refl a)

/-- things of the heap -/
inductive AO where
  | dead
  | lst (xs : List D)
  | dct (kvs : List (D × D))
  | ins (c : Nat) (fs : List (Option D))
  deriving Inhabited
abbrev AH := List AO
abbrev Rho := List (Option D)

inductive Res (α : Type) where
  | ok (a : α) (h : AH)
  | exc (c : Nat) (p : D) (h : AH)
  | fail
def Res.bind {α β : Type} : Res α → (α → AH → Res β) → Res β
  | .ok a h, f => f a h
  | .exc c p h, _ => .exc c p h
  | .fail, _ => .fail
def Res.of {α : Type} (o : Option α) (h : AH) : Res α := match o with
  | some a => .ok a h
  | none => .fail

inductive Op2 | add | sub | mul | fdiv | mod | pow
inductive Cmp | eq | ne | lt | le | gt | ge | isIn | notIn | isNone | notNone
inductive Ty | int | bool | str | tuple | list | dict | cls (c : Nat) | exc (yes : List Nat)
inductive OwnK | meth | prop | len | str | isIn | notIn
inductive Prim | dict | abs | int | len | list | tuple | max2 | min2 | repr | str | all | bool | sum | sorted | max1 | min1
inductive Meth | append | pop | popAt | join | upper

inductive E where
  | var (i : Nat)
  | cst (d : D)
  | bin (m : Bool) (o : Op2) (a b : E)
  | neg (a : E)
  | not (a : E)
  | and (a b : E)
  | or (a b : E)
  | ite (c a b : E)
  | cmp (o : Cmp) (a b : E)
  | cmp2 (o p : Cmp) (a b c : E)
  | tup (es : List E)
  | lst (m : Bool) (es : List E)
  | dct (m : Bool) (ks vs : List E)
  | idx (a i : E)
  | slice (m : Bool) (a : E) (lo hi : Option E)
  | call (f : Nat) (es : List E)
  | prim (m : Bool) (p : Prim) (es : List E)
  | meth (k : Meth) (o : E) (es : List E)
  | isi (a : E) (t : Ty)
  | comp (m : Bool) (i : Nat) (src : E) (cond : Option E) (elt : E)
  | compR (m : Bool) (i : Nat) (n : E) (cond : Option E) (elt : E)
  | compR2 (m : Bool) (i : Nat) (ks : List E) (cond : Option E) (elt : E)
  | fld (o : E) (k : Nat)
  | newx (c : Nat) (e : E)
  | newm (c : Nat) (e : E)
  | fldv (o : E) (k : Nat)
  | dix (o k : E)
  | dget (o k z : E)
  | din (neg : Bool) (k o : E)
  | ditems (m : Bool) (o : E)
  | dclear (o : E)
  | dcomp (m : Bool) (i : Nat) (src : E) (cond : Option E) (k v : E)
  | compI (m : Bool) (i j : Nat) (src : E) (cond : Option E) (elt : E)
  | fstr (es : List E)
  | rev (a : E)
  | slot (c : Nat) (o : E) (i : Nat)
  | newo (c f : Nat) (es : List E)
  | own (k : OwnK) (c f : Nat) (o : E) (es : List E)

inductive T where
  | var (i : Nat)
  | tup (ts : List T)
  | idx (o i : E)
  | dix (o k : E)
  | slot (c : Nat) (o : E) (i : Nat)

inductive S where
  | asg (t : T) (e : E)
  | par (is : List Nat) (es : List E)
  | aug (i : Nat) (o : Op2) (e : E)
  | expr (e : E)
  | ret (e : E)
  | retN
  | cond (c : E) (a b : List S)
  | loop (c : E) (b : List S)
  | each (t : T) (src : E) (b : List S)
  | rng (t : T) (es : List E) (b : List S)
  | brk
  | cont
  | pass
  | raise (c : Nat) (e : Option E)
  | tryAs (b : List S) (c : Nat) (i : Nat) (s : List S)
  | dead

inductive Out where
  | next (r : Rho) (h : AH)
  | ret (d : D) (h : AH)
  | brk (r : Rho) (h : AH)
  | cont (r : Rho) (h : AH)
  | exc (c : Nat) (p : D) (r : Rho) (h : AH)
  | fail
def Out.bind : Out → (Rho → AH → Out) → Out
  | .next r h, f => f r h
  | o, _ => o
def Res.out {α : Type} (ρ : Rho) : Res α → (α → AH → Out) → Out
  | .ok a h, f => f a h
  | .exc c p h, _ => .exc c p ρ h
  | .fail, _ => .fail

/-- a list that is just being made: kept as it is, or laid into the heap to be changed -/
def mk (m : Bool) (xs : List D) (h : AH) : Res D := if m = true then .ok (.loc h.length) (h ++ [.lst xs]) else .ok (.lst xs) h
def mkD (m : Bool) (kvs : List (D × D)) (h : AH) : Res D := if m = true then .ok (.loc h.length) (h ++ [.dct kvs]) else .ok (.dct kvs) h
end PI
/-! What each operation gives, over pure data. -/
namespace PI
open PySem (PyData)
/-- the longest row of things that is spoken of -/
abbrev szl : Nat := 16777216

mutual
/-- plain data that hold no mutable thing -/
def toP : D → Option PyData
  | .non => some .none
  | .bl b => some (.bool b)
  | .int i => some (.int i)
  | .str s => some (.str s)
  | .tup xs => (toPs xs).map PyData.tuple
  | .lst xs => (toPs xs).map PyData.list
  | .dct kvs => (toPk kvs).map PyData.dict
  | .ins _ _ => none
  | .scr _ => none
  | .loc _ => none
def toPs : List D → Option (List PyData)
  | [] => some []
  | x :: xs => (toP x).bind fun a => (toPs xs).map fun r => a :: r
def toPk : List (D × D) → Option (List (PyData × PyData))
  | [] => some []
  | (k, v) :: xs => (toP k).bind fun a => (toP v).bind fun b => (toPk xs).map fun r => (a, b) :: r
end
mutual
def noDict : PyData → Bool
  | .list xs => noDicts xs
  | .tuple xs => noDicts xs
  | .dict _ => false
  | .none => true
  | .bool _ => true
  | .int _ => true
  | .str _ => true
def noDicts : List PyData → Bool
  | [] => true
  | x :: xs => noDict x && noDicts xs
end
/-- a list of the heap as it is now, else the thing itself -/
def look (h : AH) : D → D
  | .loc n => match h[n]? with
    | some (.lst xs) => .lst xs
    | some (.dct kvs) => .dct kvs
    | _ => .loc n
  | d => d
def isBox : D → Bool
  | .tup _ => true
  | .lst _ => true
  | .dct _ => true
  | _ => false
def isLst : D → Bool
  | .lst _ => true
  | _ => false
def eqG (h : AH) (a b : D) : Option Bool :=
  match toP (look h a), toP (look h b) with
  | some p, some q => if noDict p && noDict q && PySem.SeqAt.shaped p && PySem.SeqAt.shaped q then some (PyData.eqv p q) else if D.same a b && isBox a && decide (p.depth ≤ 64) then some true else none
  | _, _ => none
def neG (h : AH) (a b : D) : Option Bool :=
  match toP (look h a), toP (look h b) with
  | some p, some q => if noDict p && noDict q && PySem.SeqAt.shaped p && PySem.SeqAt.shaped q then some (!PyData.eqv p q) else if D.same a b && isLst a && decide (p.depth ≤ 64) then some false else none
  | _, _ => none
/-- what == tells, as far as it is spoken of -/
def eqO (h : AH) (a b : D) : Option Bool :=
  match a, b with
  | .str x, .str y => some (decide (x = y))
  | .int i, .int j => some (decide (i = j))
  | a, b => eqG h a b
/-- what != tells -/
def neO (h : AH) (a b : D) : Option Bool :=
  match a, b with
  | .str x, .str y => some (!decide (x = y))
  | .int i, .int j => some (!decide (i = j))
  | a, b => neG h a b
/-! ### dicts -/
def dkvs (h : AH) (d : D) : Option (List (D × D)) := match look h d with
  | .dct kvs => some kvs
  | _ => none
def keyK : D → Bool
  | .int _ => true
  | .str _ => true
  | _ => false
def dfind (kvs : List (D × D)) (k : D) : Option D := match kvs with
  | [] => none
  | p :: r => if D.same p.1 k then some p.2 else dfind r k
/-- a key gets a value -/
def dput (kvs : List (D × D)) (k v : D) : List (D × D) := if (dfind kvs k).isSome then kvs.map fun p => if D.same p.1 k then (p.1, v) else p else kvs ++ [(k, v)]
def flatD : D → Bool
  | .non => true
  | .bl _ => true
  | .int _ => true
  | .str _ => true
  | _ => false
def eqDct (h : AH) (a b : D) : Option Bool := match look h a, look h b with
  | .dct ks, .dct ls => if decide (ks.length = ls.length) && ks.all fun p => match dfind ls p.1 with
      | some v => D.same v p.2 && flatD p.2
      | none => false then some true else none
  | _, _ => none
def strK : List (D × D) → Option (List Tx)
  | [] => some []
  | (.str s, _) :: r => (strK r).map fun t => s :: t
  | _ => none
def insS (x : Tx) : List Tx → List Tx
  | [] => [x]
  | y :: ys => if decide (y.cps.toList < x.cps.toList) then y :: insS x ys else x :: y :: ys
def sortS : List Tx → List Tx
  | [] => []
  | x :: xs => insS x (sortS xs)
/-- pairs put one behind the other into a dict -/
def pairsD : List D → Option (List (D × D))
  | [] => some []
  | .tup [k, v] :: r => if keyK k then (pairsD r).map fun t => (k, v) :: t else none
  | _ => none
def mergeD (kvs more : List (D × D)) : List (D × D) := more.foldl (fun acc p => dput acc p.1 p.2) kvs
def isDct : Option AO → Bool
  | some (.dct _) => true
  | _ => false
def fmtD : D → Option Tx
  | .str y => if decide (y.length ≤ szl) then some y else none
  | .int i => if decide (i.natAbs.log2 < 1920) then some (PySem.Str.ofString (toString i)) else none
  | _ => none
def fmtL (acc : Tx) : List D → Option Tx
  | [] => some acc
  | d :: r => (fmtD d).bind fun y => if decide ((acc ++ y).length ≤ szl) then fmtL (acc ++ y) r else none
/-- an instance's slots -/
def slotsOf (c : Nat) (h : AH) : D → Option (List (Option D))
  | .loc n => match h[n]? with
    | some (.ins c' fs) => if c' = c then some fs else none
    | _ => none
  | _ => none
def putF (i : Nat) (d : D) (fs : List (Option D)) : List (Option D) := (fs ++ List.replicate (i + 1 - fs.length) none).set i (some d)
/-- the items of a tuple or a list -/
def items (h : AH) : D → Option (List D)
  | .tup xs => some xs
  | .lst xs => some xs
  | .scr xs => some (xs.map D.int)
  | .loc n => match h[n]? with
    | some (.lst xs) => some xs
    | _ => none
  | _ => none
/-- the items of a list -/
def litems (h : AH) : D → Option (List D)
  | .lst xs => some xs
  | .loc n => match h[n]? with
    | some (.lst xs) => some xs
    | _ => none
  | _ => none
/-- whether a list still has these items -/
def still (xs : List D) : D → AH → Bool
  | .loc n, h => match h[n]? with
    | some (.lst ys) => D.sames ys xs
    | _ => false
  | _, _ => true
def strL : List D → Option (List Tx)
  | [] => some []
  | .str s :: r => (strL r).map fun t => s :: t
  | _ => none
def boolL : List D → Option (List Bool)
  | [] => some []
  | .bl b :: r => (boolL r).map fun t => b :: t
  | _ => none
def intL : List D → Option (List Int)
  | [] => some []
  | .int b :: r => (intL r).map fun t => b :: t
  | _ => none
def signs (s : Tx) : List D := s.cps.toList.map fun c => .str ⟨#[c]⟩

def smallI (i : Int) : Bool := decide (-(2 ^ 64) < i) && decide (i < 2 ^ 64)
def bin2 (m : Bool) (o : Op2) (x y : D) (h : AH) : Res D :=
  match o, x, y with
  | .add, .int i, .int j => .ok (.int (i + j)) h
  | .sub, .int i, .int j => .ok (.int (i - j)) h
  | .mul, .int i, .int j => if smallI i || smallI j || decide (i.natAbs.log2 + j.natAbs.log2 < 1000000) then .ok (.int (i * j)) h else .fail
  | .fdiv, .int i, .int j => if decide (0 < j) && decide (j.natAbs.log2 < 9000) then .ok (.int (i / j)) h else .fail
  | .mod, .int i, .int j => if decide (0 < j) then .ok (.int (i % j)) h else .fail
  | .pow, .int i, .int j => if decide (0 ≤ j) && decide (j ≤ 1000000) && decide (i.natAbs < 2 ^ 64) then .ok (.int (i ^ j.toNat)) h else .fail
  | .add, .str i, .str j => if decide (i.length + j.length ≤ szl) then .ok (.str (i ++ j)) h else .fail
  | .add, .tup xs, .tup ys => if decide (xs.length + ys.length ≤ szl) then .ok (.tup (xs ++ ys)) h else .fail
  | .mul, .tup xs, .int k => if decide (xs = []) && decide (0 ≤ k) && decide (k ≤ 10000) then .ok (.tup []) h else if decide (xs ≠ []) && decide (2 ≤ k) && decide (k ≤ 10000) && decide (xs.length ≤ 1000) then .ok (.tup (List.replicate k.toNat xs).flatten) h else .fail
  | .mul, .str s, .int k => if decide (2 ≤ k) && decide (k ≤ 10000) && decide (1 ≤ s.length) && decide (s.length ≤ 1000) then .ok (.str ⟨(List.replicate k.toNat s.cps).foldl (· ++ ·) #[]⟩) h else .fail
  | .add, .lst xs, .lst ys => if decide (xs.length + ys.length ≤ szl) then mk m (xs ++ ys) h else .fail
  | .mul, .lst xs, .int k => if decide (-(2 ^ 63) ≤ k) && decide (k < 2 ^ 63) && decide (xs.length * k.toNat ≤ szl) then mk m (List.replicate k.toNat xs).flatten h else .fail
  | _, _, _ => .fail

def ltO : D → D → Option Bool
  | .int i, .int j => some (decide (i < j))
  | .str i, .str j => some (decide (i.cps.toList < j.cps.toList))
  | _, _ => none
def leO : D → D → Option Bool
  | .int i, .int j => some (decide (i ≤ j))
  | .str i, .str j => some (!decide (j.cps.toList < i.cps.toList))
  | _, _ => none
def inO (h : AH) : D → D → Option Bool
  | .str c, .str z => if c.length = 1 then some (decide (c.cps.getD 0 0 ∈ z.cps.toList)) else none
  | x, y => match toP (look h x), toP (look h y) with
    | some d, some (.list ds) => if noDict d && noDicts ds && PySem.SeqAt.shaped d && PySem.SeqAt.shaped (.list ds) then some (ds.any fun z => PyData.eqv z d) else none
    | some d, some (.tuple ds) => if noDict d && noDicts ds && PySem.SeqAt.shaped d && PySem.SeqAt.shaped (.tuple ds) then some (ds.any fun z => PyData.eqv z d) else none
    | _, _ => none
def cmp2 (o : Cmp) (x y : D) (h : AH) : Option Bool :=
  match o with
  | .eq => match eqO h x y with
    | some b => some b
    | none => eqDct h x y
  | .ne => match neO h x y with
    | some b => some b
    | none => (eqDct h x y).map not
  | .lt => ltO x y
  | .gt => ltO y x
  | .le => leO x y
  | .ge => leO y x
  | .isIn => inO h x y
  | .notIn => (inO h x y).map not
  | .isNone => if D.same y .non then some (D.same x .non) else none
  | .notNone => if D.same y .non then some (!D.same x .non) else none

def isTy (h : AH) (d : D) : Ty → Option Bool
  | .int => match look h d with
    | .int _ => some true
    | .bl _ => some true
    | .ins _ _ => none
    | .scr _ => none
    | .loc _ => none
    | _ => some false
  | .bool => match look h d with
    | .bl _ => some true
    | .ins _ _ => none
    | .scr _ => none
    | .loc _ => none
    | _ => some false
  | .str => match look h d with
    | .str _ => some true
    | .ins _ _ => none
    | .scr _ => none
    | .loc _ => none
    | _ => some false
  | .tuple => match look h d with
    | .tup _ => some true
    | .ins _ _ => none
    | .scr _ => none
    | .loc _ => none
    | _ => some false
  | .list => match look h d with
    | .lst _ => some true
    | .ins _ _ => none
    | .scr _ => none
    | .loc _ => none
    | _ => some false
  | .dict => match look h d with
    | .dct _ => some true
    | .ins _ _ => none
    | .scr _ => none
    | .loc _ => none
    | _ => some false
  | .cls _ => none
  | .exc yes => match look h d with
    | .ins c [] => some (yes.contains c)
    | .ins c [_, .non] => some (yes.contains c)
    | _ => none

/-- the greatest, the least of a row -/
def maxI : Int → List Int → Int
  | a, [] => a
  | a, b :: r => maxI (if b > a then b else a) r
def minI : Int → List Int → Int
  | a, [] => a
  | a, b :: r => minI (if b < a then b else a) r
def prim (m : Bool) (p : Prim) (xs : List D) (h : AH) : Res D :=
  match p, xs with
  | .abs, [.int i] => .ok (.int (if i < 0 then -i else i)) h
  | .int, [.int i] => .ok (.int i) h
  | .int, [.bl b] => .ok (.int (if b then 1 else 0)) h
  | .bool, [.int i] => .ok (.bl (i != 0)) h
  | .bool, [.bl b] => .ok (.bl b) h
  | .max2, [.int i, .int j] => .ok (.int (if j > i then j else i)) h
  | .min2, [.int i, .int j] => .ok (.int (if j < i then j else i)) h
  | .len, [.str s] => if decide (s.length ≤ szl) then .ok (.int s.length) h else .fail
  | .len, [d] => match items h d with
    | some xs => .ok (.int xs.length) h
    | none => match dkvs h d with
      | some kvs => .ok (.int kvs.length) h
      | none => .fail
  | .list, [.str s] => if decide (s.length ≤ szl) then mk m (signs s) h else .fail
  | .list, [d] => match items h d with
    | some xs => mk m xs h
    | none => match dkvs h d with
      | some kvs => mk m (kvs.map fun p => p.1) h
      | none => .fail
  | .dict, [d] => match dkvs h d with
    | some kvs => mkD m kvs h
    | none => match (litems h d).bind pairsD with
      | some kvs => mkD m (mergeD [] kvs) h
      | none => .fail
  | .sorted, [d] => match (dkvs h d).bind strK with
    | some ks => if decide (ks.length < 64) then mk m ((sortS ks).map D.str) h else .fail
    | none => .fail
  | .tuple, [d] => match items h d with
    | some xs => .ok (.tup xs) h
    | none => .fail
  | .str, [.int i] => if decide (i.natAbs.log2 < 1920) then .ok (.str (PySem.Str.ofString (toString i))) h else .fail
  | .str, [.str s] => .ok (.str s) h
  | .str, [d] => match toP (look h d) with
    | some p => if p.showable && decide (p.depth ≤ 64) && decide (p.shown.length ≤ szl) then .ok (.str p.shown) h else .fail
    | none => .fail
  | .all, [.lst xs] => match boolL xs with
    | some bs => .ok (.bl (bs.all id)) h
    | none => .fail
  | .sum, [.lst xs] => match intL xs with
    | some bs => .ok (.int bs.sum) h
    | none => .fail
  | .max1, [d] => match (litems h d).bind intL with
    | some (b :: bs) => .ok (.int (maxI b bs)) h
    | _ => .fail
  | .min1, [d] => match (litems h d).bind intL with
    | some (b :: bs) => .ok (.int (minI b bs)) h
    | _ => .fail
  | .repr, [d] => match toP (look h d) with
    | some p => if p.showable && decide (p.depth ≤ 64) && decide (p.shown.length ≤ szl) then .ok (.str p.shown) h else .fail
    | none => .fail
  | _, _ => .fail

/-- a place from the front or from behind -/
def ixN (n : Nat) (i : Int) : Option Nat := if 0 ≤ i then (if i < n then some i.toNat else none) else if -(n : Int) ≤ i then some (i + n).toNat else none
def index (h : AH) (x i : D) : Option D :=
  match x, i with
  | .str s, .int k => if decide (s.length ≤ szl) then (ixN s.length k).bind fun j => (s.cps.toList[j]?).map fun c => .str ⟨#[c]⟩ else none
  | x, .int k => (items h x).bind fun xs => (ixN xs.length k).bind fun j => xs[j]?
  | _, _ => none
def part : D → Option (Option Int)
  | .int i => some (some i)
  | _ => none
def cutL (xs : List D) (lo hi : Option Int) : List D := (xs.drop (HT.sIx xs.length 0 lo)).take (HT.sIx xs.length xs.length hi - HT.sIx xs.length 0 lo)
def cutT (s : Tx) (lo hi : Option Int) : Tx := ⟨((s.cps.toList.drop (HT.sIx s.length 0 lo)).take (HT.sIx s.length s.length hi - HT.sIx s.length 0 lo)).toArray⟩
def slice (m : Bool) (x : D) (lo hi : Option Int) (h : AH) : Res D :=
  match x with
  | .str s => if decide (s.length ≤ szl) then .ok (.str (cutT s lo hi)) h else .fail
  | .tup xs => .ok (.tup (cutL xs lo hi)) h
  | x => match litems h x with
    | some xs => mk m (cutL xs lo hi) h
    | none => .fail
def isL : Option AO → Bool
  | some (.lst _) => true
  | _ => false
/-- a thing of the heap gets other items -/
def put (n : Nat) (xs : List D) (h : AH) : AH := h.set n (.lst xs)
def meth (k : Meth) (o : D) (xs : List D) (h : AH) : Res D :=
  match k, o, xs with
  | .append, .loc n, [y] => match h[n]? with
    | some (.lst ys) => if decide (ys.length < szl) then .ok .non (put n (ys ++ [y]) h) else .fail
    | _ => .fail
  | .pop, .loc n, [] => match h[n]? with
    | some (.lst ys) => match ys[ys.length - 1]? with
      | some y => .ok y (put n ys.dropLast h)
      | none => .fail
    | _ => .fail
  | .popAt, .loc n, [.int i] => match h[n]? with
    | some (.lst ys) => if decide (0 ≤ i) && decide (i < ys.length) && decide (i < 2 ^ 63) then (match ys[i.toNat]? with
        | some y => .ok y (put n (ys.eraseIdx i.toNat) h)
        | none => .fail) else .fail
    | _ => .fail
  | .join, .str s, [d] => match items h d with
    | some ys => match strL ys with
      | some ts => if decide ((ts.map fun x => x.length).sum + ts.length * s.length ≤ 16777216) then .ok (.str (PySem.Txt.join s ts)) h else .fail
      | none => .fail
    | none => .fail
  | .upper, .str s, [] => if decide (s.length ≤ 5592405) then .ok (.str (PySem.Txt.upper s)) h else .fail
  | _, _, _ => .fail
/-- whether a thing has such a method -/
def methTy (k : Meth) (o : D) (h : AH) : Bool :=
  match k, o with
  | .append, .loc n => isL (h[n]?)
  | .pop, .loc n => isL (h[n]?)
  | .popAt, .loc n => isL (h[n]?)
  | .join, .str _ => true
  | .upper, .str _ => true
  | _, _ => false
/-- x[i] = v -/
def setIx (o i v : D) (h : AH) : Option AH :=
  match o, i with
  | .loc n, .int k => match h[n]? with
    | some (.lst xs) => (ixN xs.length k).map fun j => put n (xs.set j v) h
    | _ => none
  | _, _ => none
/-- d[k] = v -/
def setDx (o k v : D) (h : AH) : Option AH :=
  match o with
  | .loc n => match h[n]? with
    | some (.dct kvs) => if keyK k && decide (kvs.length < szl) then some (h.set n (.dct (dput kvs k v))) else none
    | _ => none
  | _ => none
/-- x.f = v, the i-th slot -/
def setSl (c : Nat) (o : D) (i : Nat) (v : D) (h : AH) : Option AH :=
  match o with
  | .loc n => match h[n]? with
    | some (.ins c' fs) => if c' = c then some (h.set n (.ins c (putF i v fs))) else none
    | _ => none
  | _ => none
/-- the value that an error of class k keeps -/
def field (o : D) (k : Nat) : Option D :=
  match o with
  | .ins c [p] => if c = k then some p else none
  | _ => none
/-- .. that is not at hand -/
def fieldv (o : D) (k : Nat) : Option D :=
  match o with
  | .ins c [p, .non] => if c = k then some p else none
  | _ => none
end PI
/-! The machine itself. -/
namespace PI
/-- what is called by number -/
abbrev Fn := Nat → List D → AH → Res D
def Res.nox {α : Type} : Res α → Res α
  | .exc _ _ _ => .fail
  | r => r
/-- a row that is made item by item -/
def goC (f : D → AH → Res (Option D)) (st : AH → Bool) : List D → AH → Res (List D)
  | [], h => if st h = true then .ok [] h else .fail
  | x :: xs, h => if st h = true then (f x h).bind fun o h1 => (goC f st xs h1).bind fun r h2 => .ok (o.toList ++ r) h2 else .fail
def rangeD (lo hi : Int) : List D := (List.range (hi - lo).toNat).map fun (k : Nat) => D.int (lo + (k : Int))
def rangeDn (lo hi : Int) : List D := (List.range (lo - hi).toNat).map fun (k : Nat) => D.int (lo - (k : Int))
def small62 (i : Int) : Bool := decide (-(2 ^ 62) ≤ i) && decide (i < 2 ^ 62)
/-- what a walk over a thing meets -/
def srcItems (h : AH) (s : D) : Option (List D) := match s with
  | .str z => if decide (z.length ≤ szl) then some (signs z) else none
  | s => items h s
def upTo (s : D) : Option (List D) := match s with
  | .int k => if small62 k then some (rangeD 0 k) else none
  | _ => none
def upTo2 (ks : List D) : Option (List D) := match ks with
  | [.int lo, .int hi] => if small62 lo && small62 hi then some (rangeD lo hi) else none
  | _ => none
def keyD : D → Bool
  | .int _ => true
  | .str _ => true
  | _ => false
def zipD : List D → List D → Option (List (D × D))
  | [], [] => some []
  | a :: x, b :: y => (zipD x y).map fun r => (a, b) :: r
  | _, _ => none
def nodupD : List D → Bool
  | [] => true
  | a :: x => !(x.any fun b => D.same a b) && nodupD x

mutual
/-- no error stands in it -/
def cold : D → Bool
  | .tup xs => colds xs
  | .lst xs => colds xs
  | .dct kvs => coldk kvs
  | .ins _ _ => false
  | .non => true
  | .bl _ => true
  | .int _ => true
  | .str _ => true
  | .scr _ => true
  | .loc _ => true
def colds : List D → Bool
  | [] => true
  | x :: xs => cold x && colds xs
def coldk : List (D × D) → Bool
  | [] => true
  | (_, v) :: xs => cold v && coldk xs
end
def coldA : AO → Bool
  | .lst xs => colds xs
  | .dct kvs => coldk kvs
  | .dead => true
  | .ins _ fs => fs.all fun o => match o with
    | some d => cold d
    | none => true
def coldR (ρ : Rho) : Bool := ρ.all fun o => match o with
  | some d => cold d
  | none => true
mutual
def evE (F : Fn) : E → Rho → AH → Res D
  | .var i, ρ, h => match ρ[i]? with
    | some (some d) => .ok d h
    | _ => .fail
  | .cst d, _, h => .ok d h
  | .bin m o a b, ρ, h => (evE F a ρ h).bind fun x h1 => (evE F b ρ h1).bind fun y h2 => bin2 m o x y h2
  | .neg a, ρ, h => (evE F a ρ h).bind fun x h1 => match x with
    | .int i => .ok (.int (-i)) h1
    | _ => .fail
  | .not a, ρ, h => (evE F a ρ h).bind fun x h1 => match x with
    | .bl b => .ok (.bl (!b)) h1
    | _ => .fail
  | .and a b, ρ, h => (evE F a ρ h).bind fun x h1 => match x with
    | .bl true => evE F b ρ h1
    | .bl false => .ok (.bl false) h1
    | _ => .fail
  | .or a b, ρ, h => (evE F a ρ h).bind fun x h1 => match x with
    | .bl true => .ok (.bl true) h1
    | .bl false => evE F b ρ h1
    | _ => .fail
  | .ite c a b, ρ, h => (evE F c ρ h).bind fun x h1 => match x with
    | .bl true => evE F a ρ h1
    | .bl false => evE F b ρ h1
    | _ => .fail
  | .cmp o a b, ρ, h => (evE F a ρ h).bind fun x h1 => (evE F b ρ h1).bind fun y h2 => (Res.of (cmp2 o x y h2) h2).bind fun k h3 => .ok (.bl k) h3
  | .cmp2 o p a b c, ρ, h => (evE F a ρ h).bind fun x h1 => (evE F b ρ h1).bind fun y h2 => (Res.of (cmp2 o x y h2) h2).bind fun k h3 =>
      match k with
      | true => (evE F c ρ h3).bind fun z h4 => (Res.of (cmp2 p y z h4) h4).bind fun j h5 => .ok (.bl j) h5
      | false => .ok (.bl false) h3
  | .tup es, ρ, h => (evEs F es ρ h).bind fun xs h1 => if decide (xs.length ≤ szl) then .ok (.tup xs) h1 else .fail
  | .lst m es, ρ, h => (evEs F es ρ h).bind fun xs h1 => if decide (xs.length ≤ szl) then mk m xs h1 else .fail
  | .dct m ks vs, ρ, h => ((evEs F ks ρ h).nox).bind fun xs h1 => ((evEs F vs ρ h1).nox).bind fun ys h2 =>
      if xs.all keyD then (Res.of (zipD xs ys) h2).bind fun kvs h3 => mkD m (mergeD [] kvs) h3 else .fail
  | .idx a i, ρ, h => (evE F a ρ h).bind fun x h1 => (evE F i ρ h1).bind fun y h2 => Res.of (index h2 x y) h2
  | .slice m a lo hi, ρ, h => (evE F a ρ h).bind fun x h1 => (evO F lo ρ h1).bind fun l h2 => (evO F hi ρ h2).bind fun u h3 => slice m x l u h3
  | .call f es, ρ, h => (evEs F es ρ h).bind fun xs h1 => F f xs h1
  | .prim m p es, ρ, h => (evEs F es ρ h).bind fun xs h1 => prim m p xs h1
  | .meth k o es, ρ, h => (evE F o ρ h).bind fun x h1 => if methTy k x h1 = true then (evEs F es ρ h1).bind fun xs h2 => meth k x xs h2 else .fail
  | .isi a t, ρ, h => (evE F a ρ h).bind fun x h1 => (Res.of (isTy h1 x t) h1).bind fun b h2 => .ok (.bl b) h2
  | .comp m i src cond elt, ρ, h => (evE F src ρ h).bind fun s h1 => (Res.of (srcItems h1 s) h1).bind fun xs h2 =>
      ((goC (fun x h3 => (evC F cond (ρ.set i (some x)) h3).bind fun b h4 => match b with
          | true => (evE F elt (ρ.set i (some x)) h4).bind fun y h5 => .ok (some y) h5
          | false => .ok none h4) (still xs s) xs h2).nox).bind fun ys h6 => if decide (ys.length ≤ szl) then mk m ys h6 else .fail
  | .compR m i n cond elt, ρ, h => (evE F n ρ h).bind fun s h1 => (Res.of (upTo s) h1).bind fun xs h2 =>
      ((goC (fun x h3 => (evC F cond (ρ.set i (some x)) h3).bind fun b h4 => match b with
          | true => (evE F elt (ρ.set i (some x)) h4).bind fun y h5 => .ok (some y) h5
          | false => .ok none h4) (fun _ => true) xs h2).nox).bind fun ys h6 => if decide (ys.length ≤ szl) then mk m ys h6 else .fail
  | .compR2 m i ks cond elt, ρ, h => (evEs F ks ρ h).bind fun ks h1 => (Res.of (upTo2 ks) h1).bind fun xs h2 =>
      ((goC (fun x h3 => (evC F cond (ρ.set i (some x)) h3).bind fun b h4 => match b with
          | true => (evE F elt (ρ.set i (some x)) h4).bind fun y h5 => .ok (some y) h5
          | false => .ok none h4) (fun _ => true) xs h2).nox).bind fun ys h6 => if decide (ys.length ≤ szl) then mk m ys h6 else .fail
  | .fld o k, ρ, h => (evE F o ρ h).bind fun x h1 => Res.of (field x k) h1
  | .newx c e, ρ, h => (evE F e ρ h).bind fun x h1 => .ok (.ins c [x, .non]) h1
  | .newm c e, ρ, h => (evE F e ρ h).bind fun x h1 => .ok (.ins c []) h1
  | .fldv o k, ρ, h => (evE F o ρ h).bind fun x h1 => Res.of (fieldv x k) h1
  | .dix o k, ρ, h => (evE F o ρ h).bind fun x h1 => (evE F k ρ h1).bind fun y h2 => if keyK y then Res.of ((dkvs h2 x).bind fun kvs => dfind kvs y) h2 else .fail
  | .dget o k z, ρ, h => (evE F o ρ h).bind fun x h1 => if (dkvs h1 x).isSome then (evE F k ρ h1).bind fun y h2 => (evE F z ρ h2).bind fun u h3 => if keyK y then Res.of ((dkvs h3 x).map fun kvs => (dfind kvs y).getD u) h3 else .fail else .fail
  | .din neg k o, ρ, h => (evE F k ρ h).bind fun y h1 => (evE F o ρ h1).bind fun x h2 => if keyK y then Res.of ((dkvs h2 x).map fun kvs => .bl (if neg then !(dfind kvs y).isSome else (dfind kvs y).isSome)) h2 else .fail
  | .ditems m o, ρ, h => (evE F o ρ h).bind fun x h1 => match x with
    | .loc n => match h1[n]? with
      | some (.dct kvs) => mk m (kvs.map fun p => .tup [p.1, p.2]) h1
      | _ => .fail
    | _ => .fail
  | .dclear o, ρ, h => (evE F o ρ h).bind fun x h1 => match x with
    | .loc n => match h1[n]? with
      | some (.dct _) => .ok .non (h1.set n (.dct []))
      | _ => .fail
    | _ => .fail
  | .dcomp m i src cond k v, ρ, h => (evE F src ρ h).bind fun s h1 => (Res.of (srcItems h1 s) h1).bind fun xs h2 =>
      ((goC (fun x h3 => (evC F cond (ρ.set i (some x)) h3).bind fun b h4 => match b with
          | true => (evE F k (ρ.set i (some x)) h4).bind fun y h5 => (evE F v (ρ.set i (some x)) h5).bind fun z h6 => if keyK y then .ok (some (.tup [y, z])) h6 else .fail
          | false => .ok none h4) (still xs s) xs h2).nox).bind fun ys h6 => if decide (ys.length ≤ szl) then (match pairsD ys with
            | some kvs => mkD m (mergeD [] kvs) h6
            | none => .fail) else .fail
  | .compI m i j src cond elt, ρ, h => (evE F src ρ h).bind fun s h1 => match s with
    | .dct kvs => ((goC (fun x h3 => match x with
          | .tup [a, b] => (evC F cond ((ρ.set i (some a)).set j (some b)) h3).bind fun t h4 => (match t with
            | true => (evE F elt ((ρ.set i (some a)).set j (some b)) h4).bind fun y h5 => .ok (some y) h5
            | false => .ok none h4)
          | _ => .fail) (fun _ => true) (kvs.map fun p => .tup [p.1, p.2]) h1).nox).bind fun ys h6 => if decide (ys.length ≤ szl) then mk m ys h6 else .fail
    | _ => .fail
  | .fstr es, ρ, h => ((evEs F es ρ h).nox).bind fun xs h1 => Res.of ((fmtL ⟨#[]⟩ xs).map D.str) h1
  | .rev a, ρ, h => (evE F a ρ h).bind fun x h1 => match x with
    | .tup xs => .ok (.tup xs.reverse) h1
    | _ => .fail
  | .slot c o i, ρ, h => (evE F o ρ h).bind fun x h1 => Res.of ((slotsOf c h1 x).bind fun fs => (fs[i]?).join) h1
  | .newo c f es, ρ, h => (evEs F es ρ h).bind fun xs h1 => (F f (.loc h1.length :: xs) (h1 ++ [.ins c []])).bind fun r h2 => match r with
    | .non => .ok (.loc h1.length) h2
    | _ => .fail
  | .own k c f o es, ρ, h => match k with
    | .meth => (evE F o ρ h).bind fun x h1 => if (slotsOf c h1 x).isSome then (evEs F es ρ h1).bind fun xs h2 => F f (x :: xs) h2 else .fail
    | .prop => (evE F o ρ h).bind fun x h1 => if (slotsOf c h1 x).isSome then (F f [x] h1).nox else .fail
    | .len => (evE F o ρ h).bind fun x h1 => if (slotsOf c h1 x).isSome then ((F f [x] h1).nox).bind fun r h2 => (match r with
      | .int i => if decide (0 ≤ i) && decide (i < 2 ^ 62) then .ok (.int i) h2 else .fail
      | _ => .fail) else .fail
    | .str => (evE F o ρ h).bind fun x h1 => if (slotsOf c h1 x).isSome then ((F f [x] h1).nox).bind fun r h2 => (match r with
      | .str s => .ok (.str s) h2
      | _ => .fail) else .fail
    | .isIn => (evEs F es ρ h).bind fun xs h1 => (evE F o ρ h1).bind fun x h2 => if (slotsOf c h2 x).isSome then ((F f (x :: xs) h2).nox).bind fun r h3 => (match r with
      | .bl b => .ok (.bl b) h3
      | _ => .fail) else .fail
    | .notIn => (evEs F es ρ h).bind fun xs h1 => (evE F o ρ h1).bind fun x h2 => if (slotsOf c h2 x).isSome then ((F f (x :: xs) h2).nox).bind fun r h3 => (match r with
      | .bl b => .ok (.bl (!b)) h3
      | _ => .fail) else .fail
def evEs (F : Fn) : List E → Rho → AH → Res (List D)
  | [], _, h => .ok [] h
  | e :: es, ρ, h => (evE F e ρ h).bind fun x h1 => (evEs F es ρ h1).bind fun xs h2 => .ok (x :: xs) h2
def evO (F : Fn) : Option E → Rho → AH → Res (Option Int)
  | none, _, h => .ok none h
  | some e, ρ, h => (evE F e ρ h).bind fun x h1 => match x with
    | .int i => .ok (some i) h1
    | _ => .fail
def evC (F : Fn) : Option E → Rho → AH → Res Bool
  | none, _, h => .ok true h
  | some e, ρ, h => (evE F e ρ h).bind fun x h1 => match x with
    | .bl b => .ok b h1
    | _ => .fail
end

mutual
def asT (F : Fn) : T → D → Rho → AH → Out
  | .var i, d, ρ, h => .next (ρ.set i (some d)) h
  | .tup ts, d, ρ, h => match d with
    | .tup xs => if xs.length = ts.length then asTs F ts xs ρ h else .fail
    | _ => .fail
  | .idx o i, d, ρ, h => (evE F o ρ h).out ρ fun x h1 => (evE F i ρ h1).out ρ fun y h2 => match setIx x y d h2 with
    | some h3 => .next ρ h3
    | none => .fail
  | .dix o k, d, ρ, h => (evE F o ρ h).out ρ fun x h1 => (evE F k ρ h1).out ρ fun y h2 => match setDx x y d h2 with
    | some h3 => .next ρ h3
    | none => .fail
  | .slot c o i, d, ρ, h => (evE F o ρ h).out ρ fun x h1 => match setSl c x i d h1 with
    | some h3 => .next ρ h3
    | none => .fail
def asTs (F : Fn) : List T → List D → Rho → AH → Out
  | [], [], ρ, h => .next ρ h
  | t :: ts, x :: xs, ρ, h => (asT F t x ρ h).bind fun ρ1 h1 => asTs F ts xs ρ1 h1
  | _, _, _, _ => .fail
end
/-- names get values side by side -/
def setAll : List Nat → List D → Rho → Option Rho
  | [], [], ρ => some ρ
  | i :: is, x :: xs, ρ => setAll is xs (ρ.set i (some x))
  | _, _, _ => none
def goF (g : D → Rho → AH → Out) (st : AH → Bool) : List D → Rho → AH → Out
  | [], ρ, h => if st h = true then .next ρ h else .fail
  | x :: xs, ρ, h => if st h = true then (match g x ρ h with
    | .next ρ1 h1 => goF g st xs ρ1 h1
    | .cont ρ1 h1 => goF g st xs ρ1 h1
    | .brk ρ1 h1 => .next ρ1 h1
    | o => o) else .fail
def whileN (c : Rho → AH → Res D) (b : Rho → AH → Out) : Nat → Rho → AH → Out
  | 0, _, _ => .fail
  | n + 1, ρ, h => (c ρ h).out ρ fun x h1 => match x with
    | .bl true => (match b ρ h1 with
      | .next ρ1 h2 => whileN c b n ρ1 h2
      | .cont ρ1 h2 => whileN c b n ρ1 h2
      | .brk ρ1 h2 => .next ρ1 h2
      | o => o)
    | .bl false => .next ρ h1
    | _ => .fail
/-- more turns than any loop here takes -/
def turns : Nat := 1000000

mutual
def evS (F : Fn) : S → Rho → AH → Out
  | .asg t e, ρ, h => (evE F e ρ h).out ρ fun x h1 => asT F t x ρ h1
  | .par is es, ρ, h => (evEs F es ρ h).out ρ fun xs h1 => match setAll is xs ρ with
    | some ρ1 => .next ρ1 h1
    | none => .fail
  | .aug i o e, ρ, h => match ρ[i]? with
    | some (some (.int x)) => (evE F e ρ h).out ρ fun y h1 => match o, y with
      | .add, .int y => .next (ρ.set i (some (.int (x + y)))) h1
      | _, _ => .fail
    | _ => .fail
  | .expr e, ρ, h => (evE F e ρ h).out ρ fun _ h1 => .next ρ h1
  | .ret e, ρ, h => (evE F e ρ h).out ρ fun x h1 => .ret x h1
  | .retN, _, h => .ret .non h
  | .cond c a b, ρ, h => (evE F c ρ h).out ρ fun x h1 => match x with
    | .bl true => evSs F a ρ h1
    | .bl false => evSs F b ρ h1
    | _ => .fail
  | .loop c b, ρ, h => whileN (evE F c) (evSs F b) turns ρ h
  | .each t src b, ρ, h => (evE F src ρ h).out ρ fun s h1 => match srcItems h1 s with
    | some xs => goF (fun x ρ1 h2 => (asT F t x ρ1 h2).bind fun ρ2 h3 => evSs F b ρ2 h3) (still xs s) xs ρ h1
    | none => .fail
  | .rng t es b, ρ, h => (evEs F es ρ h).out ρ fun ks h1 => match ks with
    | [.int hi] => if small62 hi then goF (fun x ρ1 h2 => (asT F t x ρ1 h2).bind fun ρ2 h3 => evSs F b ρ2 h3) (fun _ => true) (rangeD 0 hi) ρ h1 else .fail
    | [.int lo, .int hi] => if small62 lo && small62 hi then goF (fun x ρ1 h2 => (asT F t x ρ1 h2).bind fun ρ2 h3 => evSs F b ρ2 h3) (fun _ => true) (rangeD lo hi) ρ h1 else .fail
    | [.int lo, .int hi, .int c] => if decide (c = -1) && (small62 lo && small62 hi) then goF (fun x ρ1 h2 => (asT F t x ρ1 h2).bind fun ρ2 h3 => evSs F b ρ2 h3) (fun _ => true) (rangeDn lo hi) ρ h1 else .fail
    | _ => .fail
  | .brk, ρ, h => .brk ρ h
  | .cont, ρ, h => .cont ρ h
  | .pass, ρ, h => .next ρ h
  | .raise c none, ρ, h => .exc c .non ρ h
  | .raise c (some e), ρ, h => (evE F e ρ h).out ρ fun x h1 => .exc c x ρ h1
  | .dead, _, _ => .fail
  | .tryAs b c i s, ρ, h => match evSs F b ρ h with
    | .exc c' p ρ1 h1 => if c' = c then (match evSs F s (ρ1.set i (some (.ins c [p]))) h1 with
        | .next ρ2 h2 => if coldR (ρ2.set i none) && h2.all coldA then .next (ρ2.set i none) h2 else .fail
        | .brk ρ2 h2 => if coldR (ρ2.set i none) && h2.all coldA then .brk (ρ2.set i none) h2 else .fail
        | .cont ρ2 h2 => if coldR (ρ2.set i none) && h2.all coldA then .cont (ρ2.set i none) h2 else .fail
        | .ret d h2 => if cold d && h2.all coldA then .ret d h2 else .fail
        | _ => .fail) else .fail
    | o => o
def evSs (F : Fn) : List S → Rho → AH → Out
  | [], ρ, h => .next ρ h
  | s :: ss, ρ, h => (evS F s ρ h).bind fun ρ1 h1 => evSs F ss ρ1 h1
end

/-- a def: how many parameters, how many names in all, its body -/
structure FnDecl where
  np : Nat
  nl : Nat
  body : List S
def startR (fd : FnDecl) (xs : List D) : Rho := xs.map some ++ List.replicate (fd.nl - xs.length) none
def runBody (F : Fn) (fd : FnDecl) (xs : List D) (h : AH) : Res D :=
  if xs.length = fd.np then (match evSs F fd.body (startR fd xs) h with
    | .next _ h1 => .ok .non h1
    | .ret d h1 => .ok d h1
    | .exc c p _ h1 => .exc c p h1
    | _ => .fail) else .fail
def run (P : List FnDecl) : Nat → Fn
  | 0 => fun _ _ _ => .fail
  | n + 1 => fun f xs h => match P[f]? with
    | some fd => runBody (run P n) fd xs h
    | none => .fail
end PI
set_option maxRecDepth 100000
/-! How the small machine's data stand in the abstract heap. -/
namespace PI
open PySem L2

/-- mu: where the things of the heap stand; hid: what is being made and seen by no one -/
structure Wd where
  mu : List Addr
  ah : AH
  hid : Addr → Prop
def isDead : AO → Bool
  | .dead => true
  | _ => false
def Wd.Live (W : Wd) (a : Addr) : Prop := (∃ (n : Nat) (o : AO), W.mu[n]? = some a ∧ W.ah[n]? = some o ∧ isDead o = false) ∨ W.hid a
/-- what of the text is told: the written part, each class's place, the name under which its errors keep a value; the error at hand, its dict -/
structure Cls0 where
  K : PySem.W.Frag
  cA : Nat → Addr
  cF : Nat → Str
  hot : Option (Addr × Addr) := none
  nV : Nat := 0
  cO : Nat → Addr := fun _ => 0
/-- an error that is a value: its object, of the class cls, its dict at d -/
def ErO (cls : Value) (d : Option Addr) (a : Addr) : HO := .ext fun h => ∃ (oe : Obj) (vs : Array Value), h.get? a = some oe ∧ Zc cls d oe ∧ oe.data = .fields vs ∧ vs[1]? = some .none
variable (Γ : Cls0)
def FzL (W : Wd) (H : Hp) (a : Addr) (vs : List V) : Prop := H a = some (.lst vs) ∧ ¬ W.Live a
/-- a row that is handed in -/
def ScrAt (W : Wd) (H : Hp) (a : Addr) (ns : List Int) : Prop := FzL W H a (ns.map V.int) ∨ (∃ o, H a = some (.frz o (.lst (ns.map V.int)))) ∨ ∀ H' : Hp, SqL Γ.K H' a (ns.map V.int)
def FzD (W : Wd) (H : Hp) (a : Addr) (kvs : List (Key × V)) : Prop := (∃ o, H a = some (.frz o (.dK kvs))) ∧ ¬ W.Live a
def keyOf : D → Option Key
  | .int i => some (.inl i)
  | .str s => some (.inr s)
  | _ => none
mutual
inductive RelD (W : Wd) (H : Hp) : D → V → Prop
  | non : RelD W H .non .non
  | bl (b : Bool) : RelD W H (.bl b) (.bl b)
  | int (i : Int) : RelD W H (.int i) (.int i)
  | str (s : Str) : RelD W H (.str s) (.str s)
  | tup {a : Addr} {vs : List V} {ds : List D} : SqT Γ.K H a vs → RelDs W H ds vs → RelD W H (.tup ds) (.ref a)
  | lst {a : Addr} {vs : List V} {ds : List D} : FzL W H a vs → RelDs W H ds vs → RelD W H (.lst ds) (.ref a)
  | scr {a : Addr} {ns : List Int} : ScrAt Γ W H a ns → RelD W H (.scr ns) (.ref a)
  | dct {a : Addr} {vs : List (Key × V)} {ds : List (D × D)} : FzD W H a vs → RelKs W H ds vs → RelD W H (.dct ds) (.ref a)
  | loc {n : Nat} {a : Addr} : W.mu[n]? = some a → RelD W H (.loc n) (.ref a)
  | hot {c : Nat} {p : D} {a d : Addr} {v : V} : Γ.hot = some (a, d) → H d = some (.xd [(Γ.cF c, v)]) → ¬ W.Live d → RelD W H p v → RelD W H (.ins c [p]) (.ref a)
  | err {c : Nat} {p : D} {a d : Addr} {v : V} : c < Γ.nV → H a = some (ErO (.ref (Γ.cA c)) (some d) a) → ¬ W.Live a → H d = some (.xd [(Γ.cF c, v)]) → ¬ W.Live d → RelD W H p v → RelD W H (.ins c [p, .non]) (.ref a)
  | msg {c : Nat} {a : Addr} : c < Γ.nV → H a = some (ErO (.ref (Γ.cA c)) none a) → ¬ W.Live a → RelD W H (.ins c []) (.ref a)
inductive RelDs (W : Wd) (H : Hp) : List D → List V → Prop
  | nil : RelDs W H [] []
  | cons {d : D} {v : V} {ds : List D} {vs : List V} : RelD W H d v → RelDs W H ds vs → RelDs W H (d :: ds) (v :: vs)
inductive RelKs (W : Wd) (H : Hp) : List (D × D) → List (Key × V) → Prop
  | nil : RelKs W H [] []
  | cons {k d : D} {κ : Key} {v : V} {ds : List (D × D)} {vs : List (Key × V)} : keyOf k = some κ → RelD W H d v → RelKs W H ds vs → RelKs W H ((k, d) :: ds) ((κ, v) :: vs)
end
def RelO (W : Wd) (H : Hp) (a : Addr) : AO → Prop
  | .dead => True
  | .lst ds => ∃ vs, H a = some (.lst vs) ∧ RelDs Γ W H ds vs
  | .dct ds => ∃ vs, H a = some (.dK vs) ∧ RelKs Γ W H ds vs
  | .ins c fs => ∃ (dx : Addr) (vs : List (Option V)), H a = some (SlX.SlO a (Γ.cO c) dx vs) ∧ H dx = some (.xd []) ∧ ¬ W.Live dx ∧ ∀ (i : Nat) (d : D), fs[i]? = some (some d) → ∃ v, vs[i]? = some (some v) ∧ RelD Γ W H d v
structure RelH (W : Wd) (H : Hp) : Prop where
  len : W.mu.length = W.ah.length
  nd : W.mu.Nodup
  obj : ∀ (n : Nat) (a : Addr) (o : AO), W.mu[n]? = some a → W.ah[n]? = some o → RelO Γ W H a o
  dom : ∀ a ∈ W.mu, H a ≠ none
  hdom : ∀ a, W.hid a → H a ≠ none
  sep : ∀ a, W.hid a → a ∉ W.mu
structure RelSt (W : Wd) (H : Hp) (ρ : Rho) (σ : St) : Prop where
  len : ρ.length = σ.length
  at_ : ∀ (i : Nat) (d : D), ρ[i]? = some (some d) → ∃ v, σ[i]? = some (some v) ∧ RelD Γ W H d v
/-- what was told stays told -/
structure Ext0 (W : Wd) (H : Hp) (W' : Wd) (H' : Hp) : Prop where
  mu : ∀ (n : Nat) (a : Addr), W.mu[n]? = some a → W'.mu[n]? = some a
  stay : ∀ b o, H b = some o → ¬ W.Live b → H' b = some o ∧ ¬ W'.Live b
  tups : ∀ b xs, H b = some (.tup xs) → H' b = some (.tup xs)
  frzs : ∀ b o u, H b = some (.frz o u) → H' b = some (.frz o u)
structure Ext (W : Wd) (H : Hp) (W' : Wd) (H' : Hp) : Prop where
  hid : W'.hid = W.hid
  mu : ∀ (n : Nat) (a : Addr), W.mu[n]? = some a → W'.mu[n]? = some a
  stay : ∀ b o, H b = some o → ¬ W.Live b → H' b = some o ∧ ¬ W'.Live b
  tups : ∀ b xs, H b = some (.tup xs) → H' b = some (.tup xs)
  frzs : ∀ b o u, H b = some (.frz o u) → H' b = some (.frz o u)
  hidS : ∀ b, W.hid b → H' b = H b
variable {Γ : Cls0}
theorem Ext.to0 {W W' : Wd} {H H' : Hp} (x : Ext W H W' H') : Ext0 W H W' H' := ⟨x.mu, x.stay, x.tups, x.frzs⟩
theorem Ext0.trans {W W1 W2 : Wd} {H H1 H2 : Hp} (a : Ext0 W H W1 H1) (b : Ext0 W1 H1 W2 H2) : Ext0 W H W2 H2 where
  mu := fun n x h => b.mu n x (a.mu n x h)
  stay := fun c o h n => let ⟨h1, n1⟩ := a.stay c o h n; b.stay c o h1 n1
  tups := fun c xs h => b.tups c xs (a.tups c xs h)
  frzs := fun c o u h => b.frzs c o u (a.frzs c o u h)
theorem Ext.refl (W : Wd) (H : Hp) : Ext W H W H := ⟨rfl, fun _ _ h => h, fun _ _ h n => ⟨h, n⟩, fun _ _ h => h, fun _ _ _ h => h, fun _ _ => rfl⟩
theorem Ext.trans {W W1 W2 : Wd} {H H1 H2 : Hp} (a : Ext W H W1 H1) (b : Ext W1 H1 W2 H2) : Ext W H W2 H2 where
  hid := b.hid.trans a.hid
  mu := fun n x h => b.mu n x (a.mu n x h)
  stay := fun c o h n => let ⟨h1, n1⟩ := a.stay c o h n; b.stay c o h1 n1
  tups := fun c xs h => b.tups c xs (a.tups c xs h)
  frzs := fun c o u h => b.frzs c o u (a.frzs c o u h)
  hidS := fun c h => (b.hidS c (by rw [a.hid]; exact h)).trans (a.hidS c h)
theorem sqT_ext {K : PySem.W.Frag} {H H' : Hp} {a : Addr} {xs : List V} (ht : ∀ b xs, H b = some (.tup xs) → H' b = some (.tup xs)) (hf : ∀ b o u, H b = some (.frz o u) → H' b = some (.frz o u)) (h : SqT K H a xs) : SqT K H' a xs := by
  rcases h with (h | ⟨o, h⟩) | h
  · exact .inl (.inl (ht _ _ h))
  · exact .inl (.inr ⟨o, hf _ _ _ h⟩)
  · exact .inr h
theorem FzL.ext0 {W W' : Wd} {H H' : Hp} {a : Addr} {vs : List V} (x : Ext0 W H W' H') (h : FzL W H a vs) : FzL W' H' a vs := x.stay _ _ h.1 h.2
theorem ScrAt.ext0 {W W' : Wd} {H H' : Hp} {a : Addr} {ns : List Int} (x : Ext0 W H W' H') (h : ScrAt Γ W H a ns) : ScrAt Γ W' H' a ns := by
  rcases h with h | ⟨o, h⟩ | h
  · exact .inl (h.ext0 x)
  · exact .inr (.inl ⟨o, x.frzs _ _ _ h⟩)
  · exact .inr (.inr h)
theorem ScrAt.sq {W : Wd} {H : Hp} {a : Addr} {ns : List Int} (h : ScrAt Γ W H a ns) : SqL Γ.K H a (ns.map V.int) := by
  rcases h with h | ⟨o, h⟩ | h
  · exact .inl (.inl h.1)
  · exact .inl (.inr ⟨o, h⟩)
  · exact h H
theorem FzL.sq {K : PySem.W.Frag} {W : Wd} {H : Hp} {a : Addr} {vs : List V} (h : FzL W H a vs) : SqL K H a vs := .inl (.inl h.1)
mutual
theorem RelD.ext0 {W W' : Wd} {H H' : Hp} (x : Ext0 W H W' H') : ∀ {d : D} {v : V}, RelD Γ W H d v → RelD Γ W' H' d v
  | _, _, .non => .non
  | _, _, .bl b => .bl b
  | _, _, .int i => .int i
  | _, _, .str s => .str s
  | _, _, .tup h r => .tup (sqT_ext x.tups x.frzs h) (RelDs.ext0 x r)
  | _, _, .lst h r => .lst (h.ext0 x) (RelDs.ext0 x r)
  | _, _, .scr h => .scr (h.ext0 x)
  | _, _, .dct h r => .dct ⟨h.1.imp fun o e => (x.stay _ _ e h.2).1, h.1.elim fun o e => (x.stay _ _ e h.2).2⟩ (RelKs.ext0 x r)
  | _, _, .loc h => .loc (x.mu _ _ h)
  | _, _, .hot h1 h2 h3 r => .hot h1 (x.stay _ _ h2 h3).1 (x.stay _ _ h2 h3).2 (RelD.ext0 x r)
  | _, _, .err h0 h1 h2 h3 h4 r => .err h0 (x.stay _ _ h1 h2).1 (x.stay _ _ h1 h2).2 (x.stay _ _ h3 h4).1 (x.stay _ _ h3 h4).2 (RelD.ext0 x r)
  | _, _, .msg h0 h1 h2 => .msg h0 (x.stay _ _ h1 h2).1 (x.stay _ _ h1 h2).2
theorem RelDs.ext0 {W W' : Wd} {H H' : Hp} (x : Ext0 W H W' H') : ∀ {d : List D} {v : List V}, RelDs Γ W H d v → RelDs Γ W' H' d v
  | _, _, .nil => .nil
  | _, _, .cons r t => .cons (RelD.ext0 x r) (RelDs.ext0 x t)
theorem RelKs.ext0 {W W' : Wd} {H H' : Hp} (x : Ext0 W H W' H') : ∀ {d : List (D × D)} {v : List (Key × V)}, RelKs Γ W H d v → RelKs Γ W' H' d v
  | _, _, .nil => .nil
  | _, _, .cons k r t => .cons k (RelD.ext0 x r) (RelKs.ext0 x t)
end
theorem RelSt.ext0 {W W' : Wd} {H H' : Hp} {ρ : Rho} {σ : St} (x : Ext0 W H W' H') (h : RelSt Γ W H ρ σ) : RelSt Γ W' H' ρ σ :=
  ⟨h.len, fun i d e => let ⟨v, h1, h2⟩ := h.at_ i d e; ⟨v, h1, h2.ext0 x⟩⟩
theorem RelD.ext {W W' : Wd} {H H' : Hp} (x : Ext W H W' H') {d : D} {v : V} (r : RelD Γ W H d v) : RelD Γ W' H' d v := r.ext0 x.to0
theorem RelDs.ext {W W' : Wd} {H H' : Hp} (x : Ext W H W' H') {d : List D} {v : List V} (r : RelDs Γ W H d v) : RelDs Γ W' H' d v := r.ext0 x.to0
theorem RelKs.ext {W W' : Wd} {H H' : Hp} (x : Ext W H W' H') {d : List (D × D)} {v : List (Key × V)} (r : RelKs Γ W H d v) : RelKs Γ W' H' d v := r.ext0 x.to0
theorem RelSt.ext {W W' : Wd} {H H' : Hp} {ρ : Rho} {σ : St} (x : Ext W H W' H') (h : RelSt Γ W H ρ σ) : RelSt Γ W' H' ρ σ := h.ext0 x.to0
theorem RelSt.set {W : Wd} {H : Hp} {ρ : Rho} {σ : St} {d : D} {v : V} (h : RelSt Γ W H ρ σ) (i : Nat) (r : RelD Γ W H d v) : RelSt Γ W H (ρ.set i (some d)) (σ.set i (some v)) := by
  refine ⟨by rw [List.length_set, List.length_set, h.len], fun j e q => ?_⟩
  by_cases hj : i = j
  · subst hj
    have hl : i < ρ.length := by
      have := List.getElem?_eq_some_iff.mp q
      obtain ⟨z, _⟩ := this
      simpa using z
    rw [List.getElem?_set_self hl] at q
    cases q
    exact ⟨v, List.getElem?_set_self (by rw [← h.len]; exact hl), r⟩
  · rw [List.getElem?_set_ne hj] at q
    obtain ⟨u, h1, h2⟩ := h.at_ j e q
    exact ⟨u, by rw [List.getElem?_set_ne hj]; exact h1, h2⟩
theorem RelSt.unset {W : Wd} {H : Hp} {ρ : Rho} {σ : St} (h : RelSt Γ W H ρ σ) (i : Nat) (z : Option V) : RelSt Γ W H (ρ.set i none) (σ.set i z) := by
  refine ⟨by rw [List.length_set, List.length_set, h.len], fun j e q => ?_⟩
  by_cases hj : i = j
  · subst hj
    have hl : i < ρ.length := by
      have := List.getElem?_eq_some_iff.mp q
      obtain ⟨z, _⟩ := this
      simpa using z
    rw [List.getElem?_set_self hl] at q
    cases q
  · rw [List.getElem?_set_ne hj] at q
    obtain ⟨u, h1, h2⟩ := h.at_ j e q
    exact ⟨u, by rw [List.getElem?_set_ne hj]; exact h1, h2⟩
theorem RelDs.length {W : Wd} {H : Hp} : ∀ {ds : List D} {vs : List V}, RelDs Γ W H ds vs → ds.length = vs.length
  | _, _, .nil => rfl
  | _, _, .cons _ t => congrArg Nat.succ (RelDs.length t)
theorem RelDs.get {W : Wd} {H : Hp} : ∀ {ds : List D} {vs : List V} {i : Nat} {d : D}, RelDs Γ W H ds vs → ds[i]? = some d → ∃ v, vs[i]? = some v ∧ RelD Γ W H d v
  | _, _, _, _, .nil, e => by simp at e
  | _, _, 0, _, .cons r _, e => by simp at e; subst e; exact ⟨_, rfl, r⟩
  | _, _, i + 1, d, .cons _ t, e => by
    obtain ⟨u, h1, h2⟩ := RelDs.get (i := i) (d := d) t (by simpa using e)
    exact ⟨u, by simpa using h1, h2⟩
theorem RelDs.append {W : Wd} {H : Hp} : ∀ {ds es : List D} {vs us : List V}, RelDs Γ W H ds vs → RelDs Γ W H es us → RelDs Γ W H (ds ++ es) (vs ++ us)
  | _, _, _, _, .nil, s => s
  | _, _, _, _, .cons r t, s => .cons r (RelDs.append t s)
theorem RelDs.take {W : Wd} {H : Hp} : ∀ {ds : List D} {vs : List V} (n : Nat), RelDs Γ W H ds vs → RelDs Γ W H (ds.take n) (vs.take n)
  | _, _, 0, _ => .nil
  | _, _, _ + 1, .nil => .nil
  | _, _, n + 1, .cons r t => .cons r (RelDs.take n t)
theorem RelDs.drop {W : Wd} {H : Hp} : ∀ {ds : List D} {vs : List V} (n : Nat), RelDs Γ W H ds vs → RelDs Γ W H (ds.drop n) (vs.drop n)
  | _, _, 0, r => r
  | _, _, _ + 1, .nil => .nil
  | _, _, n + 1, .cons _ t => RelDs.drop n t
theorem RelDs.set {W : Wd} {H : Hp} {d : D} {v : V} (r : RelD Γ W H d v) : ∀ {ds : List D} {vs : List V} (i : Nat), RelDs Γ W H ds vs → RelDs Γ W H (ds.set i d) (vs.set i v)
  | _, _, _, .nil => .nil
  | _, _, 0, .cons _ t => .cons r t
  | _, _, i + 1, .cons q t => .cons q (RelDs.set r i t)
theorem RelDs.eraseIdx {W : Wd} {H : Hp} : ∀ {ds : List D} {vs : List V} (i : Nat), RelDs Γ W H ds vs → RelDs Γ W H (ds.eraseIdx i) (vs.eraseIdx i)
  | _, _, _, .nil => .nil
  | _, _, 0, .cons _ t => t
  | _, _, i + 1, .cons q t => .cons q (RelDs.eraseIdx i t)
theorem RelDs.dropLast {W : Wd} {H : Hp} : ∀ {ds : List D} {vs : List V}, RelDs Γ W H ds vs → RelDs Γ W H ds.dropLast vs.dropLast
  | _, _, .nil => .nil
  | _, _, .cons r .nil => .nil
  | _, _, .cons r (.cons q t) => by
    have := RelDs.dropLast (.cons q t)
    exact .cons r this
theorem RelDs.rep {W : Wd} {H : Hp} {ds : List D} {vs : List V} (r : RelDs Γ W H ds vs) : ∀ n : Nat, RelDs Γ W H (List.replicate n ds).flatten (List.replicate n vs).flatten
  | 0 => .nil
  | n + 1 => by
    rw [List.replicate_succ, List.replicate_succ, List.flatten_cons, List.flatten_cons]
    exact r.append (RelDs.rep r n)
theorem RelD.isInt {W : Wd} {H : Hp} {i : Int} {v : V} (r : RelD Γ W H (.int i) v) : v = .int i := by cases r; rfl
theorem RelD.isStr {W : Wd} {H : Hp} {i : Str} {v : V} (r : RelD Γ W H (.str i) v) : v = .str i := by cases r; rfl
theorem RelD.isBl {W : Wd} {H : Hp} {i : Bool} {v : V} (r : RelD Γ W H (.bl i) v) : v = .bl i := by cases r; rfl
theorem RelD.isNon {W : Wd} {H : Hp} {v : V} (r : RelD Γ W H .non v) : v = .non := by cases r; rfl

/-! ### new things -/
/-- the heap grows by an object that is seen by no world: a tuple, a list that nobody changes -/
theorem Ext.fresh {W : Wd} {H : Hp} {p : Addr} {o : HO} (hR : RelH Γ W H) (hp : H p = none) : Ext W H W (upd H p o) where
  hid := rfl
  mu := fun _ _ h => h
  stay := fun b u h n => ⟨by rw [upd_ne (ne_of_none h hp)]; exact h, n⟩
  tups := fun b xs h => by rw [upd_ne (ne_of_none h hp)]; exact h
  frzs := fun b u xs h => by rw [upd_ne (ne_of_none h hp)]; exact h
  hidS := fun b h => by
    refine upd_ne fun e => ?_
    subst e
    exact hR.hdom _ h hp
theorem not_live {W : Wd} {H : Hp} {p : Addr} (hR : RelH Γ W H) (hp : H p = none) : ¬ W.Live p := by
  rintro (⟨n, o, h1, _⟩ | h)
  · exact hR.dom p (List.mem_of_getElem? h1) hp
  · exact hR.hdom p h hp
theorem RelO.ext0 {W W' : Wd} {H H' : Hp} {a : Addr} {o : AO} (x : Ext0 W H W' H') (ha : ∀ u, H a = some u → H' a = some u) (h : RelO Γ W H a o) : RelO Γ W' H' a o := by
  cases o with
  | dead => trivial
  | lst ds => obtain ⟨vs, h1, h2⟩ := h; exact ⟨vs, ha _ h1, h2.ext0 x⟩
  | dct ds => obtain ⟨vs, h1, h2⟩ := h; exact ⟨vs, ha _ h1, h2.ext0 x⟩
  | ins c fs =>
    obtain ⟨dx, vs, h1, h2, h3, h4⟩ := h
    obtain ⟨g2, g3⟩ := x.stay _ _ h2 h3
    exact ⟨dx, vs, ha _ h1, g2, g3, fun i d e => let ⟨v, e1, r⟩ := h4 i d e; ⟨v, e1, r.ext0 x⟩⟩
theorem RelO.ext {W W' : Wd} {H H' : Hp} {a : Addr} {o : AO} (x : Ext W H W' H') (ha : ∀ u, H a = some u → H' a = some u) (h : RelO Γ W H a o) : RelO Γ W' H' a o := h.ext0 x.to0 ha
theorem RelH.fresh {W : Wd} {H : Hp} {p : Addr} {o : HO} (hR : RelH Γ W H) (hp : H p = none) : RelH Γ W (upd H p o) where
  len := hR.len
  nd := hR.nd
  obj := fun n a u h1 h2 => (hR.obj n a u h1 h2).ext (.fresh hR hp) fun z q => by rw [upd_ne (ne_of_none q hp)]; exact q
  dom := fun a h => by
    unfold upd
    split
    · exact fun z => nomatch z
    · exact hR.dom a h
  hdom := fun a h => by
    unfold upd
    split
    · exact fun z => nomatch z
    · exact hR.hdom a h
  sep := hR.sep
/-- a new thing of the heap at p -/
def Wd.add (W : Wd) (p : Addr) (o : AO) : Wd := { W with mu := W.mu ++ [p], ah := W.ah ++ [o] }
theorem Wd.add_live {W : Wd} {H : Hp} {p : Addr} {o : AO} (hR : RelH Γ W H) {b : Addr} (h : (W.add p o).Live b) : W.Live b ∨ b = p := by
  rcases h with ⟨n, u, h1, h2, h3⟩ | h
  · by_cases hn : n < W.mu.length
    · refine .inl (.inl ⟨n, u, ?_, ?_, h3⟩)
      · rw [← h1]; exact (List.getElem?_append_left hn).symm
      · rw [← h2]; exact (List.getElem?_append_left (by rw [← hR.len]; exact hn)).symm
    · right
      have : n = W.mu.length := by
        have := (List.getElem?_eq_some_iff.mp h1).1
        simp [Wd.add] at this
        omega
      subst this
      simp [Wd.add] at h1
      exact h1.symm
  · exact .inl (.inr h)
theorem Ext.add {W : Wd} {H : Hp} {p : Addr} {o : HO} {u : AO} (hR : RelH Γ W H) (hp : H p = none) : Ext W H (W.add p u) (upd H p o) where
  hid := rfl
  mu := fun n a h => by
    show (W.mu ++ [p])[n]? = some a
    rw [List.getElem?_append_left (List.getElem?_eq_some_iff.mp h).1]
    exact h
  stay := fun b v h n => ⟨by rw [upd_ne (ne_of_none h hp)]; exact h, fun l => by
    rcases Wd.add_live hR l with l | rfl
    · exact n l
    · rw [hp] at h; cases h⟩
  tups := fun b xs h => by rw [upd_ne (ne_of_none h hp)]; exact h
  frzs := fun b u xs h => by rw [upd_ne (ne_of_none h hp)]; exact h
  hidS := fun b h => by
    refine upd_ne fun e => ?_
    subst e
    exact hR.hdom _ h hp
theorem RelH.add {W : Wd} {H : Hp} {p : Addr} {o : HO} {u : AO} (hR : RelH Γ W H) (hp : H p = none) (new : RelO Γ (W.add p u) (upd H p o) p u) : RelH Γ (W.add p u) (upd H p o) where
  len := by simp [Wd.add, hR.len]
  nd := by
    show (W.mu ++ [p]).Nodup
    rw [List.nodup_append]
    refine ⟨hR.nd, by simp, fun a ha b hb => ?_⟩
    simp at hb
    subst hb
    exact fun e => hR.dom a ha (e ▸ hp)
  obj := fun n a v h1 h2 => by
    by_cases hn : n < W.mu.length
    · have h1' : W.mu[n]? = some a := by rw [← h1]; exact (List.getElem?_append_left hn).symm
      have h2' : W.ah[n]? = some v := by rw [← h2]; exact (List.getElem?_append_left (by rw [← hR.len]; exact hn)).symm
      exact (hR.obj n a v h1' h2').ext (.add hR hp) fun z q => by rw [upd_ne (ne_of_none q hp)]; exact q
    · have hlt := (List.getElem?_eq_some_iff.mp h1).1
      have : n = W.mu.length := by
        simp [Wd.add] at hlt
        omega
      subst this
      have e1 : a = p := by simpa [Wd.add] using h1.symm
      have e2 : v = u := by
        have : (W.ah ++ [u])[W.mu.length]? = some v := h2
        rw [hR.len] at this
        simpa using this.symm
      subst e1; subst e2
      exact new
  dom := fun a h => by
    unfold upd
    split
    · exact fun z => nomatch z
    · rename_i hne
      refine hR.dom a ?_
      have : a ∈ W.mu ++ [p] := h
      simp at this
      rcases this with h | h
      · exact h
      · exact absurd h hne
  hdom := fun a h => by
    unfold upd
    split
    · exact fun z => nomatch z
    · exact hR.hdom a h
  sep := fun a h hm => by
    have : a ∈ W.mu ++ [p] := hm
    simp at this
    rcases this with hm | rfl
    · exact hR.sep a h hm
    · exact hR.hdom _ h hp
/-! ### a thing is changed -/
def Wd.put (W : Wd) (n : Nat) (o : AO) : Wd := { W with ah := W.ah.set n o }
theorem Wd.put_live {W : Wd} {H : Hp} {n : Nat} {o u : AO} (h0 : W.ah[n]? = some u) (hu : isDead u = false) {b : Addr} (h : (W.put n o).Live b) : W.Live b := by
  rcases h with ⟨m, v, h1, h2, h3⟩ | h
  · by_cases e : n = m
    · subst e
      exact .inl ⟨n, u, h1, h0, hu⟩
    · exact .inl ⟨m, v, h1, by rw [← h2]; exact (List.getElem?_set_ne e).symm, h3⟩
  · exact .inr h
theorem Ext.put {W : Wd} {H : Hp} {n : Nat} {a : Addr} {o u : AO} {z z0 : HO} (hR : RelH Γ W H) (hm : W.mu[n]? = some a) (h0 : W.ah[n]? = some u) (hu : isDead u = false) (hz : H a = some z0) (ht : ∀ xs, z0 ≠ .tup xs) (hf : ∀ x y, z0 ≠ .frz x y) :
    Ext W H (W.put n o) (upd H a z) where
  hid := rfl
  mu := fun _ _ h => h
  stay := fun b v h nl => by
    have hb : b ≠ a := fun e => nl (.inl ⟨n, u, e ▸ hm, h0, hu⟩)
    exact ⟨by rw [upd_ne hb]; exact h, fun l => nl (Wd.put_live (H := H) h0 hu l)⟩
  tups := fun b xs h => by
    rw [upd_ne fun e => ?_]
    · exact h
    · subst e; rw [hz] at h; exact ht xs (Option.some.inj h)
  frzs := fun b x y h => by
    rw [upd_ne fun e => ?_]
    · exact h
    · subst e; rw [hz] at h; exact hf x y (Option.some.inj h)
  hidS := fun b h => by
    refine upd_ne fun e => ?_
    subst e
    exact hR.sep _ h (List.mem_of_getElem? hm)
theorem nodup_get {l : List Addr} (h : l.Nodup) {n m : Nat} {a : Addr} (h1 : l[n]? = some a) (h2 : l[m]? = some a) : n = m := by
  obtain ⟨l1, _⟩ := List.getElem?_eq_some_iff.mp h1
  exact (List.getElem?_inj l1 h).mp (h1.trans h2.symm)
theorem RelH.put {W : Wd} {H : Hp} {n : Nat} {a : Addr} {o u : AO} {z z0 : HO} (hR : RelH Γ W H) (hm : W.mu[n]? = some a) (h0 : W.ah[n]? = some u) (hu : isDead u = false) (hz : H a = some z0) (ht : ∀ xs, z0 ≠ .tup xs) (hf : ∀ x y, z0 ≠ .frz x y)
    (new : RelO Γ (W.put n o) (upd H a z) a o) : RelH Γ (W.put n o) (upd H a z) where
  len := by simp [Wd.put, hR.len]
  nd := hR.nd
  obj := fun m b v h1 h2 => by
    by_cases e : n = m
    · subst e
      have e1 : a = b := Option.some.inj (hm.symm.trans h1)
      subst e1
      have hl : n < W.ah.length := (List.getElem?_eq_some_iff.mp h0).1
      have e2 : o = v := by
        have : (W.ah.set n o)[n]? = some v := h2
        rw [List.getElem?_set_self hl] at this
        exact Option.some.inj this
      subst e2
      exact new
    · have h2' : W.ah[m]? = some v := by rw [← h2]; exact (List.getElem?_set_ne e).symm
      refine (hR.obj m b v h1 h2').ext (.put hR hm h0 hu hz ht hf) fun q hq => ?_
      have hb : b ≠ a := by
        rintro rfl
        exact e (nodup_get hR.nd hm h1)
      rw [upd_ne hb]
      exact hq
  dom := fun b h => by
    unfold upd
    split
    · exact fun z => nomatch z
    · exact hR.dom b h
  hdom := fun b h => by
    unfold upd
    split
    · exact fun z => nomatch z
    · exact hR.hdom b h
  sep := hR.sep
/-! ### a thing that is being made -/
def Wd.hide (W : Wd) (p : Addr) : Wd := { W with hid := fun a => a = p ∨ W.hid a }
theorem hide_live {W : Wd} {p b : Addr} : (W.hide p).Live b ↔ W.Live b ∨ b = p := by
  constructor
  · rintro (h | h | h)
    · exact .inl (.inl h)
    · exact .inr h
    · exact .inl (.inr h)
  · rintro ((h | h) | h)
    · exact .inl h
    · exact .inr (.inr h)
    · exact .inr (.inl h)
theorem Ext0.hide {W : Wd} {H : Hp} {p : Addr} {o : HO} (hp : H p = none) : Ext0 W H (W.hide p) (upd H p o) where
  mu := fun _ _ h => h
  stay := fun b u h n => by
    have hb := ne_of_none h hp
    exact ⟨by rw [upd_ne hb]; exact h, fun l => (hide_live.mp l).elim n hb⟩
  tups := fun b xs h => by rw [upd_ne (ne_of_none h hp)]; exact h
  frzs := fun b u xs h => by rw [upd_ne (ne_of_none h hp)]; exact h
theorem RelH.hide {W : Wd} {H : Hp} {p : Addr} {o : HO} (hR : RelH Γ W H) (hp : H p = none) : RelH Γ (W.hide p) (upd H p o) where
  len := hR.len
  nd := hR.nd
  obj := fun n a u h1 h2 => (hR.obj n a u h1 h2).ext0 (.hide hp) fun z q => by rw [upd_ne (ne_of_none q hp)]; exact q
  dom := fun a h => by
    unfold upd
    split
    · exact fun z => nomatch z
    · exact hR.dom a h
  hdom := fun a h => by
    unfold upd
    split
    · exact fun z => nomatch z
    · rename_i hne
      exact h.elim (fun e => absurd e hne) (hR.hdom a)
  sep := fun a h hm => h.elim (fun e => hR.dom a hm (e ▸ hp)) fun h => hR.sep a h hm
/-- what is being made grows -/
theorem Ext0.grow {W : Wd} {H : Hp} {p : Addr} {o z0 : HO} (hh : W.hid p) (hz : H p = some z0) (ht : ∀ xs, z0 ≠ .tup xs) (hf : ∀ x y, z0 ≠ .frz x y) : Ext0 W H W (upd H p o) where
  mu := fun _ _ h => h
  stay := fun b u h n => by
    have hb : b ≠ p := by
      rintro rfl
      exact n (.inr hh)
    exact ⟨by rw [upd_ne hb]; exact h, n⟩
  tups := fun b xs h => by
    rw [upd_ne fun e => ?_]
    · exact h
    · subst e; rw [hz] at h; exact ht xs (Option.some.inj h)
  frzs := fun b x y h => by
    rw [upd_ne fun e => ?_]
    · exact h
    · subst e; rw [hz] at h; exact hf x y (Option.some.inj h)
theorem RelH.grow {W : Wd} {H : Hp} {p : Addr} {o z0 : HO} (hR : RelH Γ W H) (hh : W.hid p) (hz : H p = some z0) (ht : ∀ xs, z0 ≠ .tup xs) (hf : ∀ x y, z0 ≠ .frz x y) : RelH Γ W (upd H p o) where
  len := hR.len
  nd := hR.nd
  obj := fun n a u h1 h2 => (hR.obj n a u h1 h2).ext0 (.grow hh hz ht hf) fun z q => by
    have hb : a ≠ p := by
      rintro rfl
      exact hR.sep _ hh (List.mem_of_getElem? h1)
    rw [upd_ne hb]
    exact q
  dom := fun a h => by
    unfold upd
    split
    · exact fun z => nomatch z
    · exact hR.dom a h
  hdom := fun a h => by
    unfold upd
    split
    · exact fun z => nomatch z
    · exact hR.hdom a h
  sep := hR.sep
/-- it is made: seen from now on, changed by no one -/
def Wd.show (W : Wd) (h : Addr → Prop) : Wd := { W with hid := h }
theorem Ext0.show {W : Wd} {H : Hp} {h : Addr → Prop} (hh : ∀ a, h a → W.hid a) : Ext0 W H (W.show h) H where
  mu := fun _ _ h => h
  stay := fun b u q n => ⟨q, fun l => n (l.elim .inl fun l => .inr (hh b l))⟩
  tups := fun _ _ h => h
  frzs := fun _ _ _ h => h
theorem RelH.show {W : Wd} {H : Hp} {h : Addr → Prop} (hR : RelH Γ W H) (hh : ∀ a, h a → W.hid a) : RelH Γ (W.show h) H where
  len := hR.len
  nd := hR.nd
  obj := fun n a u h1 h2 => (hR.obj n a u h1 h2).ext0 (.show hh) fun z q => q
  dom := hR.dom
  hdom := fun a q => hR.hdom a (hh a q)
  sep := fun a q => hR.sep a (hh a q)
/-- .. or a thing of the heap -/
def Wd.grant (W : Wd) (h : Addr → Prop) (p : Addr) (o : AO) : Wd := { W with mu := W.mu ++ [p], ah := W.ah ++ [o], hid := h }
theorem grant_live {W : Wd} {H : Hp} {h : Addr → Prop} {p : Addr} {o : AO} (hR : RelH Γ W H) (hh : ∀ a, h a → W.hid a) (hp : W.hid p) {b : Addr} (l : (W.grant h p o).Live b) : W.Live b := by
  rcases l with ⟨n, u, h1, h2, h3⟩ | l
  · by_cases hn : n < W.mu.length
    · refine .inl ⟨n, u, ?_, ?_, h3⟩
      · rw [← h1]; exact (List.getElem?_append_left hn).symm
      · rw [← h2]; exact (List.getElem?_append_left (by rw [← hR.len]; exact hn)).symm
    · right
      have hlt := (List.getElem?_eq_some_iff.mp h1).1
      have : n = W.mu.length := by
        simp [Wd.grant] at hlt
        omega
      subst this
      simp [Wd.grant] at h1
      exact h1 ▸ hp
  · exact .inr (hh b l)
theorem Ext0.grant {W : Wd} {H : Hp} {h : Addr → Prop} {p : Addr} {o : AO} (hR : RelH Γ W H) (hh : ∀ a, h a → W.hid a) (hp : W.hid p) : Ext0 W H (W.grant h p o) H where
  mu := fun n a q => by
    show (W.mu ++ [p])[n]? = some a
    rw [List.getElem?_append_left (List.getElem?_eq_some_iff.mp q).1]
    exact q
  stay := fun b u q n => ⟨q, fun l => n (grant_live hR hh hp l)⟩
  tups := fun _ _ h => h
  frzs := fun _ _ _ h => h
theorem RelH.grant {W : Wd} {H : Hp} {h : Addr → Prop} {p : Addr} {o : AO} (hR : RelH Γ W H) (hh : ∀ a, h a → W.hid a) (hp : W.hid p) (hn : ¬ h p) (new : RelO Γ (W.grant h p o) H p o) : RelH Γ (W.grant h p o) H where
  len := by simp [Wd.grant, hR.len]
  nd := by
    show (W.mu ++ [p]).Nodup
    rw [List.nodup_append]
    refine ⟨hR.nd, by simp, fun a ha b hb => ?_⟩
    simp at hb
    subst hb
    exact fun e => hR.sep _ hp (e ▸ ha)
  obj := fun n a v h1 h2 => by
    by_cases hn : n < W.mu.length
    · have h1' : W.mu[n]? = some a := by rw [← h1]; exact (List.getElem?_append_left hn).symm
      have h2' : W.ah[n]? = some v := by rw [← h2]; exact (List.getElem?_append_left (by rw [← hR.len]; exact hn)).symm
      exact (hR.obj n a v h1' h2').ext0 (.grant hR hh hp) fun z q => q
    · have hlt := (List.getElem?_eq_some_iff.mp h1).1
      have : n = W.mu.length := by
        simp [Wd.grant] at hlt
        omega
      subst this
      have e1 : a = p := by simpa [Wd.grant] using h1.symm
      have e2 : v = o := by
        have : (W.ah ++ [o])[W.mu.length]? = some v := h2
        rw [hR.len] at this
        simpa using this.symm
      subst e1; subst e2
      exact new
  dom := fun a q => by
    have : a ∈ W.mu ++ [p] := q
    simp at this
    rcases this with q | rfl
    · exact hR.dom a q
    · exact hR.hdom _ hp
  hdom := fun a q => hR.hdom a (hh a q)
  sep := fun a q hm => by
    have : a ∈ W.mu ++ [p] := hm
    simp at this
    rcases this with hm | rfl
    · exact hR.sep a (hh a q) hm
    · exact hn q
end PI
set_option maxRecDepth 100000
set_option maxHeartbeats 4000000
/-! Each operation, by values: what the small machine gives is what the model gives. -/
namespace PI
open PySem L2
variable {Γ : Cls0}
/-- what must hold so that a result leads to Q -/
def OkP (Γ : Cls0) (W : Wd) (H : Hp) (h' : AH) (d : D) (Q : VK) : Prop := ∀ (W' : Wd) (H' : Hp) (v : V), W'.ah = h' → Ext W H W' H' → RelH Γ W' H' → RelD Γ W' H' d v → Q v H'
theorem OkP.here {W : Wd} {H : Hp} {d : D} {v : V} {Q : VK} (hR : RelH Γ W H) (h : OkP Γ W H W.ah d Q) (r : RelD Γ W H d v) : Q v H := h W H v rfl (.refl W H) hR r
theorem szl_eq : szl = sizeLine := sizeLine_eq.symm
/-- a new list -/
theorem OkP.mk {W : Wd} {H : Hp} {m : Bool} {ds : List D} {vs : List V} {r : D} {h' : AH} {p : Addr} {Q : VK} (hR : RelH Γ W H) (hp : H p = none) (rs : RelDs Γ W H ds vs) (e : mk m ds W.ah = .ok r h') (h : OkP Γ W H h' r Q) :
    Q (.ref p) (upd H p (.lst vs)) := by
  unfold PI.mk at e
  split at e
  · cases e
    refine h (W.add p (.lst ds)) _ _ rfl (.add hR hp) (hR.add hp ⟨vs, upd_same, rs.ext (.add hR hp)⟩) (.loc ?_)
    show (W.mu ++ [p])[W.ah.length]? = some p
    rw [← hR.len]
    simp
  · cases e
    exact h W _ _ rfl (.fresh hR hp) (hR.fresh hp) (.lst ⟨upd_same, not_live hR hp⟩ (rs.ext (.fresh hR hp)))
/-- a new tuple -/
theorem OkP.tup {W : Wd} {H : Hp} {ds : List D} {vs : List V} {p : Addr} {Q : VK} (hR : RelH Γ W H) (hp : H p = none) (rs : RelDs Γ W H ds vs) (h : OkP Γ W H W.ah (.tup ds) Q) : Q (.ref p) (upd H p (.tup vs)) :=
  h W _ _ rfl (.fresh hR hp) (hR.fresh hp) (.tup (.inl (.inl upd_same)) (rs.ext (.fresh hR hp)))

theorem smallI_iff {i : Int} (h : smallI i = true) : -(2 ^ 64) < i ∧ i < 2 ^ 64 := by
  unfold smallI at h
  rw [Bool.and_eq_true] at h
  exact ⟨of_decide_eq_true h.1, of_decide_eq_true h.2⟩
def opPy : Op2 → Operator
  | .add => .Add
  | .sub => .Sub
  | .mul => .Mult
  | .fdiv => .FloorDiv
  | .mod => .Mod
  | .pow => .Pow
def rBin (Γ : Cls0) (m : Bool) (o : Op2) : R2 := fun x y H Q => ∃ W d e r h', RelD Γ W H d x ∧ RelD Γ W H e y ∧ RelH Γ W H ∧ bin2 m o d e W.ah = .ok r h' ∧ OkP Γ W H h' r Q
section
variable {X : Cx}
theorem or3 {a b c : Bool} (h : (a || b || c) = true) : a = true ∨ b = true ∨ c = true := by
  cases a <;> cases b <;> cases c <;> simp_all
theorem rep_size (a : Array Nat) : ∀ (k : Nat) (b : Array Nat), ((List.replicate k a).foldl (· ++ ·) b).size = b.size + k * a.size
  | 0, b => by simp
  | k + 1, b => by
    rw [List.replicate_succ, List.foldl_cons, rep_size a k, Array.size_append, Nat.succ_mul]
    omega
theorem str_mul_ok {pins : List (Addr × Obj)} {s : Shared} {σ : St} {H : Hp} {z : Str} {k : Int} {v u : Value} {Q : VK} (I : Inv X pins σ H s) (rx : RelV (.str z) v) (ry : RelV (.int k) u)
    (h1 : 2 ≤ k) (h2 : k ≤ 10000) (h3 : 1 ≤ z.length) (h4 : z.length ≤ 1000) (q : Q (.str ⟨(List.replicate k.toNat z.cps).foldl (· ++ ·) #[]⟩) H) :
    wpAny (model X.prog X.w) X.A (binaryOp .Mult v u) (EP X pins σ Q) X.xe s := by
  obtain ⟨t, rfl⟩ := rx
  obtain ⟨t', rfl⟩ := ry
  have hl : z.length * k.toNat ≤ 10000000 := Nat.le_trans (Nat.mul_le_mul h4 (show k.toNat ≤ 10000 by omega)) (by decide)
  refine PySem.P.mul_str (by simp; omega) (fun _ _ => ?_) (fun _ _ => ?_) ?_
  · have hq : (0 : Int) < k := by omega
    have h5 : (1000 : Int) ≤ (2 ^ 63 - 1) / k := (Int.le_ediv_iff_mul_le hq).mpr (by omega)
    omega
  · unfold Builtin.Str.tooLong
    exact decide_eq_false (by rw [PySem.sizeLine_eq]; omega)
  · rw [if_neg (by omega), if_neg (by simp; omega)]
    refine ⟨?_, .str _, H, I.tok _, ⟨_, rfl⟩, q⟩
    show ((List.replicate k.toNat z.cps).foldl (· ++ ·) #[]).size ≤ sizeLine
    rw [rep_size, PySem.sizeLine_eq, Nat.mul_comm]
    have : z.cps.size = z.length := rfl
    rw [this]
    simp
    omega
/-- t * k, not small -/
def rRepB (K : PySem.W.Frag) : R2 := fun x y H Q => ∃ l k xs, x = .ref l ∧ y = .int k ∧ SqT K H l xs ∧ xs ≠ [] ∧ 2 ≤ k ∧ k ≤ 10000 ∧ xs.length ≤ 1000 ∧ ∀ p, H p = none → Q (.ref p) (upd H p (.tup (List.replicate k.toNat xs).flatten))
theorem op_repB : OpR X (binaryOp .Mult) (rRepB X.K) := by
  rintro pins s σ H x y v u Q I rx ry ⟨l, k, xs, rfl, rfl, hT, hne, h1, h2, hz, q⟩
  cases rx
  obtain ⟨t, rfl⟩ := ry
  obtain ⟨its, r, hI, hs⟩ := I.tuple hT
  obtain ⟨⟨cls, dd, data, sl⟩, ho, hc, n, hd⟩ := id hI
  dsimp only at hc hd
  subst hc hd
  have len : its.toArray.size = xs.length := by rw [List.size_toArray]; exact r.length.symm
  have pos : 0 < xs.length := List.length_pos_iff.mpr hne
  have emp : its.toArray.isEmpty = false := by
    cases q : its.toArray.isEmpty with
    | false => rfl
    | true => rw [Array.isEmpty_iff_size_eq_zero] at q; omega
  have prod : ((its.toArray.size : Nat) : Int) * k ≤ 10000000 := by
    rw [len]
    exact Int.le_trans (Int.mul_le_mul_of_nonneg_right (c := k) (show (xs.length : Int) ≤ 1000 by omega) (by omega)) (by omega)
  have nprod : k.toNat * xs.length ≤ 10000000 := Nat.le_trans (Nat.mul_le_mul (show k.toNat ≤ 10000 by omega) hz) (by decide)
  have fl : (List.replicate k.toNat its).flatten.length = k.toNat * xs.length := by
    rw [PyProof.Rows.lm_len_rep_flat, ← len, List.size_toArray]
  have fit : (List.foldl (fun x1 x2 => x1 ++ x2) #[] (List.replicate k.toNat its.toArray)).size ≤ sizeLine := by
    rw [size_rep, List.size_toArray, fl, PySem.sizeLine_eq]
    omega
  have c0 : (decide (k < -(2 ^ 63)) || decide (k ≥ 2 ^ 63)) = false := by
    have a : decide (k < -(2 ^ 63)) = false := decide_eq_false (by omega)
    have b : decide (k ≥ 2 ^ 63) = false := decide_eq_false (by omega)
    rw [a, b]; rfl
  have c1 : (its.toArray.isEmpty || k == 1) = false := by
    have b : (k == 1) = false := beq_eq_false_iff_ne.mpr (by omega)
    rw [emp, b]; rfl
  have c2 : (decide (k ≤ 0) || its.toArray.isEmpty) = false := by
    have b : decide (k ≤ 0) = false := decide_eq_false (by omega)
    rw [emp, b]; rfl
  have c4 : Builtin.Tuple.tupleTooMany (((its.toArray.size : Nat) : Int) * k) = false := by
    unfold Builtin.Tuple.tupleTooMany
    exact decide_eq_false (by rw [PySem.sizeLine_eq]; omega)
  have end_ : EP X pins σ Q (.ref s.heap.objs.size) { s with heap := s.heap.push { cls := Value.type "tuple", data := Data.seq (List.foldl (fun x1 x2 => x1 ++ x2) #[] (List.replicate k.toNat its.toArray)) }, toks := s.toks } := by
    rw [size_rep]
    refine ⟨.ref s.heap.objs.size, _, I.laid (t' := s.toks) (o := .tup (List.replicate k.toNat xs).flatten) (fun b ob q => Heap.get?_push_of_some _ q) (Nat.le_refl _) ?_, rfl, q _ (I.hok.fresh (Nat.le_refl _))⟩
    refine ⟨?_, _, r.rep k.toNat, PyProof.Rows.IsTup.new _ _⟩
    rw [PyProof.Rows.lm_len_rep_flat, PySem.sizeLine_eq]
    omega
  have mul := tuple_mulW l its.toArray n dd sl k t c0 c1 c2 (by omega) c4 fit
  have low := int_rmul_tuple k t l its.toArray n dd sl
  have isT : s.TypeIs (.ref l) "tuple" := ⟨_, ho, rfl⟩
  refine wpAny_binaryOp_repeat_ref (T := "tuple") (U := "int") (by decide) isT (fun s' => typeIs_int s' k t) noFill_tuple_mul F.fills_int_mul F.slot_int_rmul repeat_tuple F.slot_int_index.lookup ?_
  refine call_meets F.slot_int_rmul (typeIs_int s k t) F.entry_int_rmul (F.args_int_rmul_2 _ _) low ⟨ho, ?_⟩
  refine ⟨rfl, isT, ?_⟩
  exact call_meets F.slot_tuple_mul isT F.entry_tuple_mul (F.args_tuple_mul_2 _ _) mul ⟨ho, end_⟩
/-- () * k -/
theorem tup_mul0 (l : Addr) (n : Nat) (dd : Option Addr) (sl : Array (Option Value)) (x : Int) (u : Tok) (c0 : (decide (x < -(2 ^ 63)) || decide (x ≥ 2 ^ 63)) = false) :
    Meets (Builtin.«tuple.__mul__» ⟨[.ref l, .int x u], []⟩) (fun _ R s => s.heap.get? l = some { cls := .type "tuple", dict := dd, data := .seq #[] n, slots := sl } ∧ R (.ok (.ret (Value.ref l))) s) := by
  refine .of_wp fun prog w A R s h => ?_
  obtain ⟨hp, g, d, tk, os⟩ := s
  obtain ⟨hl, h⟩ := h
  have ix := AutoSeq1.idx_int
  have hT : Shared.TypeIs ⟨hp, g, d, tk, os⟩ (.ref l) "tuple" := ⟨_, hl, rfl⟩
  wp_walk using wpAny_loadPart' hl, wpAny_typeOf hT
  refine wpAny_ite_false (decide_eq_false (by rw [c0]; exact Bool.false_ne_true)) ?_
  wp_walk using wpAny_loadPart' hl, wpAny_typeOf hT
  exact ⟨_, rfl, h⟩
theorem op_rep0 : OpR X (binaryOp .Mult) (fun x y H Q => ∃ l k, x = .ref l ∧ y = .int k ∧ SqT X.K H l [] ∧ 0 ≤ k ∧ k ≤ 10000 ∧ Q (.ref l) H) := by
  rintro pins s σ H x y v u Q I rx ry ⟨l, k, rfl, rfl, hT, h1, h2, q⟩
  cases rx
  obtain ⟨t, rfl⟩ := ry
  obtain ⟨its, r, hI, hs⟩ := I.tuple hT
  cases r
  obtain ⟨⟨cls, dd, data, sl⟩, ho, hc, n, hd⟩ := id hI
  dsimp only at hc hd
  subst hc hd
  have c0 : (decide (k < -(2 ^ 63)) || decide (k ≥ 2 ^ 63)) = false := by
    have a : decide (k < -(2 ^ 63)) = false := decide_eq_false (by omega)
    have b : decide (k ≥ 2 ^ 63) = false := decide_eq_false (by omega)
    rw [a, b]; rfl
  have mul := tup_mul0 l n dd sl k t c0
  have low := int_rmul_tuple k t l #[] n dd sl
  have isT : s.TypeIs (.ref l) "tuple" := ⟨_, ho, rfl⟩
  refine wpAny_binaryOp_repeat_ref (T := "tuple") (U := "int") (by decide) isT (fun s' => typeIs_int s' k t) noFill_tuple_mul F.fills_int_mul F.slot_int_rmul repeat_tuple F.slot_int_index.lookup ?_
  refine call_meets F.slot_int_rmul (typeIs_int s k t) F.entry_int_rmul (F.args_int_rmul_2 _ _) low ⟨ho, ?_⟩
  refine ⟨rfl, isT, ?_⟩
  exact call_meets F.slot_tuple_mul isT F.entry_tuple_mul (F.args_tuple_mul_2 _ _) mul ⟨ho, ⟨.ref l, H, I, rfl, q⟩⟩
theorem and3 {a b c : Bool} (h : (a && b && c) = true) : a = true ∧ b = true ∧ c = true := by
  cases a <;> cases b <;> cases c <;> simp_all
theorem and4 {a b c d : Bool} (h : (a && b && c && d) = true) : a = true ∧ b = true ∧ c = true ∧ d = true := by
  cases a <;> cases b <;> cases c <;> cases d <;> simp_all
theorem and2 {a b : Bool} (h : (a && b) = true) : a = true ∧ b = true := by
  cases a <;> cases b <;> simp_all
theorem of_if {α : Type} {c : Bool} {a b : Res α} {r : α} {h : AH} (e : (if c = true then a else b) = .ok r h) (hb : b = .fail) : c = true ∧ a = .ok r h := by
  subst hb
  split at e
  · exact ⟨by assumption, e⟩
  · cases e
theorem of_ifd {α : Type} {c : Prop} [Decidable c] {a : Res α} {r : α} {h : AH} (e : (if c then a else .fail) = .ok r h) : c ∧ a = .ok r h := by
  split at e
  · exact ⟨by assumption, e⟩
  · cases e
theorem opr_bin (hK : X.K = Γ.K) (m : Bool) (o : Op2) : OpR X (binaryOp (opPy o)) (rBin Γ m o) := by
  intro pins s σ H x y v u Q I rx ry h
  obtain ⟨W, d, e, r, h', rd, re, hR, hb, hQ⟩ := h
  unfold bin2 at hb
  split at hb
  · cases rd; cases re; cases hb
    exact op_add pins s σ H _ _ v u Q I rx ry ⟨_, _, rfl, rfl, hQ.here hR (.int _)⟩
  · cases rd; cases re; cases hb
    exact op_sub pins s σ H _ _ v u Q I rx ry ⟨_, _, rfl, rfl, hQ.here hR (.int _)⟩
  · obtain ⟨hc, hb⟩ := of_ifd hb
    cases rd; cases re; cases hb
    have q := hQ.here hR (.int _)
    rcases or3 hc with hc | hc | hc
    · exact op_mul pins s σ H _ _ v u Q I rx ry ⟨_, _, rfl, rfl, .inl (smallI_iff hc), q⟩
    · exact op_mul pins s σ H _ _ v u Q I rx ry ⟨_, _, rfl, rfl, .inr (smallI_iff hc), q⟩
    · exact op_mulW pins s σ H _ _ v u Q I rx ry ⟨_, _, rfl, rfl, (of_decide_eq_true hc : _ < 1000000), q⟩
  · obtain ⟨hc, hb⟩ := of_ifd hb
    cases rd; cases re; cases hb
    obtain ⟨c1, c2⟩ := and2 hc
    exact op_fdivW pins s σ H _ _ v u Q I rx ry ⟨_, _, rfl, rfl, ⟨of_decide_eq_true c1, of_decide_eq_true c2⟩, hQ.here hR (.int _)⟩
  · obtain ⟨hc, hb⟩ := of_ifd hb
    cases rd; cases re; cases hb
    exact op_mod pins s σ H _ _ v u Q I rx ry ⟨_, _, rfl, rfl, of_decide_eq_true hc, hQ.here hR (.int _)⟩
  · obtain ⟨hc, hb⟩ := of_ifd hb
    cases rd; cases re; cases hb
    obtain ⟨c1, c2, c3⟩ := and3 hc
    exact op_pow pins s σ H _ _ v u Q I rx ry ⟨_, _, rfl, rfl, ⟨of_decide_eq_true c1, of_decide_eq_true c2, of_decide_eq_true c3⟩, hQ.here hR (.int _)⟩
  · obtain ⟨hc, hb⟩ := of_ifd hb
    cases rd; cases re; cases hb
    exact op_add_str pins s σ H _ _ v u Q I rx ry ⟨_, _, rfl, rfl, by rw [← szl_eq]; exact of_decide_eq_true hc, hQ.here hR (.str _)⟩
  · obtain ⟨hc, hb⟩ := of_ifd hb
    cases rd with
    | tup h1 r1 =>
      cases re with
      | tup h2 r2 =>
        cases hb
        have l1 := r1.length
        have l2 := r2.length
        have hc := of_decide_eq_true hc
        rw [← hK] at h1 h2
        refine op_catA pins s σ H _ _ v u Q I rx ry ⟨_, _, _, _, rfl, rfl, h1, h2, by rw [← szl_eq, ← l1, ← l2]; exact hc, fun e1 => ?_, fun e1 e2 => ?_, fun e1 e2 p hp => ?_⟩
        · subst e1
          cases r1
          exact hQ.here hR (.tup (by rw [← hK]; exact h2) r2)
        · subst e2
          cases r2
          rw [List.append_nil] at hQ
          exact hQ.here hR (.tup (by rw [← hK]; exact h1) r1)
        · exact hQ.tup hR hp (r1.append r2)
  · split at hb
    · rename_i hc
      obtain ⟨hc, c3⟩ := and2 hc
      obtain ⟨c1, c2⟩ := and2 hc
      have c1 := of_decide_eq_true c1
      subst c1
      cases hb
      cases re
      cases rd with
      | tup h1 r1 =>
        cases r1
        have h1' := h1
        rw [← hK] at h1'
        exact op_rep0 pins s σ H _ _ v u Q I rx ry ⟨_, _, rfl, rfl, h1', of_decide_eq_true c2, of_decide_eq_true c3, hQ.here hR (.tup h1 .nil)⟩
    obtain ⟨hc, hb⟩ := of_ifd hb
    cases re
    cases rd with
    | tup h1 r1 =>
      cases hb
      obtain ⟨c1, c2, c3, c4⟩ := and4 hc
      have l1 := r1.length
      have n0 := of_decide_eq_true c1
      rw [← hK] at h1
      exact op_repB pins s σ H _ _ v u Q I rx ry ⟨_, _, _, rfl, rfl, h1, fun e => n0 (by subst e; cases r1; rfl), of_decide_eq_true c2, of_decide_eq_true c3, by rw [← l1]; exact of_decide_eq_true c4, fun p hp => hQ.tup hR hp (r1.rep _)⟩
  · obtain ⟨hc, hb⟩ := of_ifd hb
    cases rd; cases re; cases hb
    obtain ⟨c1, c2, c3, c4⟩ := and4 hc
    exact str_mul_ok I rx ry (of_decide_eq_true c1) (of_decide_eq_true c2) (of_decide_eq_true c3) (of_decide_eq_true c4) (hQ.here hR (.str _))
  · obtain ⟨hc, hb⟩ := of_ifd hb
    cases rd with
    | lst h1 r1 =>
      cases re with
      | lst h2 r2 =>
        have l1 := r1.length
        have l2 := r2.length
        exact op_cat pins s σ H _ _ v u Q I rx ry ⟨_, _, _, _, rfl, rfl, h1.1, h2.1, by rw [← szl_eq, ← l1, ← l2]; exact of_decide_eq_true hc, fun p hp => OkP.mk hR hp (r1.append r2) hb hQ⟩
  · obtain ⟨hc, hb⟩ := of_ifd hb
    cases re
    cases rd with
    | lst h1 r1 =>
      have l1 := r1.length
      obtain ⟨c1, c2, c3⟩ := and3 hc
      exact op_rep pins s σ H _ _ v u Q I rx ry ⟨_, _, _, rfl, rfl, h1.1, of_decide_eq_true c1, of_decide_eq_true c2, by rw [← szl_eq, ← l1]; exact of_decide_eq_true c3, fun p hp => OkP.mk hR hp (r1.rep _) hb hQ⟩
  · cases hb
end
end PI
set_option maxRecDepth 100000
set_option maxHeartbeats 4000000
namespace PI
open PySem L2
variable {Γ : Cls0}
/-! ### data -/
theorem opt_bind {α β : Type} {a : Option α} {f : α → Option β} {b : β} (h : a.bind f = some b) : ∃ x, a = some x ∧ f x = some b := by
  cases a with
  | none => cases h
  | some x => exact ⟨x, rfl, h⟩
theorem opt_map {α β : Type} {a : Option α} {f : α → β} {b : β} (h : a.map f = some b) : ∃ x, a = some x ∧ f x = b := by
  cases a with
  | none => cases h
  | some x => exact ⟨x, rfl, Option.some.inj h⟩
mutual
theorem dp_of {W : Wd} {H : Hp} : ∀ {d : D} {v : V} {p : PyData}, RelD Γ W H d v → toP d = some p → noDict p = true → Dp Γ.K H v p
  | .non, _, _, .non, e, _ => by cases e; exact .non
  | .bl b, _, _, .bl _, e, _ => by cases e; exact .bl b
  | .int b, _, _, .int _, e, _ => by cases e; exact .int b
  | .str b, _, _, .str _, e, _ => by cases e; exact .str b
  | .tup ds, _, _, .tup h r, e, n => by
    obtain ⟨ps, e1, rfl⟩ := opt_map (show (toPs ds).map PyData.tuple = _ from e)
    exact .tup h (dps_of r e1 n)
  | .lst ds, _, _, .lst h r, e, n => by
    obtain ⟨ps, e1, rfl⟩ := opt_map (show (toPs ds).map PyData.list = _ from e)
    exact .lst h.sq (dps_of r e1 n)
  | .dct ds, _, _, .dct h r, e, n => by
    obtain ⟨ps, e1, rfl⟩ := opt_map (show (toPk ds).map PyData.dict = _ from e)
    exact absurd n Bool.false_ne_true
theorem dps_of {W : Wd} {H : Hp} : ∀ {ds : List D} {vs : List V} {ps : List PyData}, RelDs Γ W H ds vs → toPs ds = some ps → noDicts ps = true → DpAll Γ.K H vs ps
  | [], _, _, .nil, e, _ => by cases e; exact .nil
  | d :: ds, _, _, .cons r t, e, n => by
    obtain ⟨p, e1, e2⟩ := opt_bind (show (toP d).bind _ = _ from e)
    obtain ⟨ps, e3, rfl⟩ := opt_map e2
    obtain ⟨n1, n2⟩ := and2 (show (noDict p && noDicts ps) = true from n)
    exact .cons (dp_of r e1 n1) (dps_of t e3 n2)
end
/-- what is seen of a thing of the heap -/
inductive Seen (Γ : Cls0) (W : Wd) (H : Hp) : D → V → Prop
  | rel {d : D} {v : V} : RelD Γ W H d v → Seen Γ W H d v
  | lst {a : Addr} {vs : List V} {ds : List D} : H a = some (.lst vs) → RelDs Γ W H ds vs → Seen Γ W H (.lst ds) (.ref a)
  | dct {a : Addr} {vs : List (Key × V)} {ds : List (D × D)} : Rd H a (.dK vs) → RelKs Γ W H ds vs → Seen Γ W H (.dct ds) (.ref a)
theorem seen_look {W : Wd} {H : Hp} {d : D} {v : V} (hR : RelH Γ W H) (r : RelD Γ W H d v) : Seen Γ W H (look W.ah d) v := by
  cases d with
  | loc n =>
    cases r with
    | loc hm =>
      show Seen Γ W H (match W.ah[n]? with
        | some (.lst xs) => .lst xs
        | some (.dct kvs) => .dct kvs
        | _ => .loc n) _
      split
      · rename_i xs e
        obtain ⟨vs, h1, h2⟩ := hR.obj _ _ _ hm e
        exact .lst h1 h2
      · rename_i kvs e
        obtain ⟨vs, h1, h2⟩ := hR.obj _ _ _ hm e
        exact .dct (.inl h1) h2
      · exact .rel (.loc hm)
  | _ => exact .rel r
theorem Seen.dp {W : Wd} {H : Hp} {d : D} {v : V} {p : PyData} (h : Seen Γ W H d v) (e : toP d = some p) (n : noDict p = true) : Dp Γ.K H v p := by
  cases h with
  | rel r => exact dp_of r e n
  | lst h r =>
    obtain ⟨ps, e1, rfl⟩ := opt_map (show (toPs _).map PyData.list = _ from e)
    exact .lst (.inl (.inl h)) (dps_of r e1 n)
  | dct h r =>
    obtain ⟨ps, e1, rfl⟩ := opt_map (show (toPk _).map PyData.dict = _ from e)
    exact absurd n Bool.false_ne_true
theorem items_rel {W : Wd} {H : Hp} {d : D} {v : V} {xs : List D} (hR : RelH Γ W H) (r : RelD Γ W H d v) (e : items W.ah d = some xs) : ∃ p vs, v = .ref p ∧ (SqL Γ.K H p vs ∨ SqT Γ.K H p vs) ∧ RelDs Γ W H xs vs := by
  cases r with
  | tup h r => cases e; exact ⟨_, _, rfl, .inr h, r⟩
  | lst h r => cases e; exact ⟨_, _, rfl, .inl h.sq, r⟩
  | scr h =>
    rename_i ns
    cases e
    refine ⟨_, _, rfl, .inl h.sq, ?_⟩
    clear h
    induction ns with
    | nil => exact .nil
    | cons n ns ih => exact .cons (.int n) ih
  | loc hm =>
    rename_i n a
    have e : (match W.ah[n]? with | some (.lst xs) => some xs | _ => none) = some xs := e
    split at e
    · rename_i ys e0
      cases e
      obtain ⟨vs, h1, h2⟩ := hR.obj _ _ _ hm e0
      exact ⟨_, _, rfl, .inl (.inl (.inl h1)), h2⟩
    · cases e
  | _ => cases e
theorem litems_rel {W : Wd} {H : Hp} {d : D} {v : V} {xs : List D} (hR : RelH Γ W H) (r : RelD Γ W H d v) (e : litems W.ah d = some xs) : ∃ p vs, v = .ref p ∧ H p = some (.lst vs) ∧ RelDs Γ W H xs vs := by
  cases r with
  | lst h r => cases e; exact ⟨_, _, rfl, h.1, r⟩
  | loc hm =>
    rename_i n a
    have e : (match W.ah[n]? with | some (.lst xs) => some xs | _ => none) = some xs := e
    split at e
    · rename_i ys e0
      cases e
      obtain ⟨vs, h1, h2⟩ := hR.obj _ _ _ hm e0
      exact ⟨_, _, rfl, h1, h2⟩
    · cases e
  | _ => cases e
theorem strL_rel {W : Wd} {H : Hp} : ∀ {ds : List D} {vs : List V} {ts : List Str}, RelDs Γ W H ds vs → strL ds = some ts → vs = ts.map V.str
  | [], _, _, .nil, e => by cases e; rfl
  | d :: ds, _, _, .cons r t, e => by
    cases r with
    | str s =>
      obtain ⟨ts, e1, rfl⟩ := opt_map (show (strL ds).map _ = _ from e)
      rw [strL_rel t e1]
      rfl
    | _ => cases e
theorem boolL_rel {W : Wd} {H : Hp} : ∀ {ds : List D} {vs : List V} {ts : List Bool}, RelDs Γ W H ds vs → boolL ds = some ts → vs = ts.map V.bl
  | [], _, _, .nil, e => by cases e; rfl
  | d :: ds, _, _, .cons r t, e => by
    cases r with
    | bl s =>
      obtain ⟨ts, e1, rfl⟩ := opt_map (show (boolL ds).map _ = _ from e)
      rw [boolL_rel t e1]
      rfl
    | _ => cases e
theorem intL_rel {W : Wd} {H : Hp} : ∀ {ds : List D} {vs : List V} {ts : List Int}, RelDs Γ W H ds vs → intL ds = some ts → vs = ts.map V.int
  | [], _, _, .nil, e => by cases e; rfl
  | d :: ds, _, _, .cons r t, e => by
    cases r with
    | int s =>
      obtain ⟨ts, e1, rfl⟩ := opt_map (show (intL ds).map _ = _ from e)
      rw [intL_rel t e1]
      rfl
    | _ => cases e
theorem signs_rel {W : Wd} {H : Hp} (s : Str) : RelDs Γ W H (signs s) (s.cps.toList.map fun c => V.str ⟨#[c]⟩) := by
  unfold signs
  induction s.cps.toList with
  | nil => exact .nil
  | cons c r ih => exact .cons (.str _) ih
end PI
set_option maxRecDepth 100000
set_option maxHeartbeats 400000
namespace PI
open PySem L2
variable {Γ : Cls0}
/-! ### equality where dicts stand within -/
theorem nodup_of {prog : Program} {w : World} {K : Type} [DecidableEq K] {knd : KeyKind prog w K} {h : Heap} {a : Addr} {kvs : List (K × Value)} (x : h.DictOf knd a kvs) : (kvs.map (·.1)).Nodup := by
  obtain ⟨_, _, _, _, _, _, _, _, n⟩ := x
  exact n
theorem valueAt_some {K : Type} [DecidableEq K] : ∀ {kvs : List (K × Value)} {k : K}, k ∈ kvs.map (·.1) → (valueAt kvs k).isSome = true
  | [], _, h => absurd h (by simp)
  | (a, b) :: r, k, h => by
    by_cases e : a = k
    · simp [valueAt, e]
    · have e2 : valueAt ((a, b) :: r) k = valueAt r k := by simp [valueAt, e]
      rw [e2]
      refine valueAt_some ?_
      rw [List.map_cons] at h
      rcases List.mem_cons.mp h with h | h
      · exact absurd h.symm e
      · exact h
section
variable {X : Cx} {pins : List (Addr × Obj)} {σ : St} {H : Hp} {s : Shared}
open PySem.W (EqTree)
def EqS (Γ : Cls0) (X : Cx) (W : Wd) (H : Hp) (s : Shared) (d : D) : Prop := ∀ (v v' : V) (p : PyData) (u u' : Value), RelD Γ W H d v → RelD Γ W H d v' → toP d = some p → RelV v u → RelV v' u' → ∀ n, p.depth ≤ n → EqTree X.prog X.w s n u u' true
def EqSs (Γ : Cls0) (X : Cx) (W : Wd) (H : Hp) (s : Shared) (ds : List D) : Prop := ∀ (vs vs' : List V) (ps : List PyData) (us us' : List Value), RelDs Γ W H ds vs → RelDs Γ W H ds vs' → toPs ds = some ps → Vals vs us → Vals vs' us' → ∀ n, PyData.depthAll ps ≤ n →
    ∀ (j : Nat) (h1 : j < us.length) (h2 : j < us'.length), EqTree X.prog X.w s n us[j] us'[j] true
def EqSk (Γ : Cls0) (X : Cx) (W : Wd) (H : Hp) (s : Shared) (ds : List (D × D)) : Prop := ∀ (vs vs' : List (Key × V)) (ps : List (PyData × PyData)) (us us' : List (Key × Value)), RelKs Γ W H ds vs → RelKs Γ W H ds vs' → toPk ds = some ps → KV vs us → KV vs' us' → ∀ n, PyData.depthKv ps ≤ n →
    us.map (·.1) = us'.map (·.1) ∧ ∀ k v y, (k, v) ∈ us → (us.map (·.1)).Nodup → valueAt us' k = some y → EqTree X.prog X.w s n v y true
theorem eqs_nil {W : Wd} : EqSs Γ X W H s [] := by
  intro vs vs' ps us us' r r' e ru ru' n hn j h1 h2
  cases r; cases ru
  exact absurd h1 (by simp)
theorem eqs_cons {W : Wd} {d : D} {ds : List D} (i1 : EqS Γ X W H s d) (i2 : EqSs Γ X W H s ds) : EqSs Γ X W H s (d :: ds) := by
  intro vs vs' ps us us' r r' e ru ru' n hn j h1 h2
  cases r with
  | cons r t =>
    cases r' with
    | cons r' t' =>
      cases ru with
      | cons q z =>
        cases ru' with
        | cons q' z' =>
          obtain ⟨p, e1, e2⟩ := opt_bind (show (toP d).bind _ = _ from e)
          obtain ⟨ps, e3, rfl⟩ := opt_map e2
          simp only [PyData.depthAll] at hn
          cases j with
          | zero => exact i1 _ _ p _ _ r r' e1 q q' n (by omega)
          | succ j => exact i2 _ _ ps _ _ t t' e3 z z' n (by omega) j (by simpa using h1) (by simpa using h2)
theorem eqk_nil {W : Wd} : EqSk Γ X W H s [] := by
  intro vs vs' ps us us' r r' e ru ru' n hn
  cases r; cases r'; cases ru; cases ru'
  exact ⟨rfl, fun _ _ _ h => absurd h (by simp)⟩
theorem eqk_cons {W : Wd} {k d : D} {ds : List (D × D)} (i1 : EqS Γ X W H s d) (i2 : EqSk Γ X W H s ds) : EqSk Γ X W H s ((k, d) :: ds) := by
  intro vs vs' ps us us' r r' e ru ru' n hn
  cases r with
  | cons c r t =>
    cases r' with
    | cons c' r' t' =>
      cases ru with
      | @cons _ b _ us q z =>
        cases ru' with
        | @cons _ b' _ us' q' z' =>
          obtain ⟨κ, u⟩ := b
          obtain ⟨κ', u'⟩ := b'
          obtain ⟨pk, e1, e2⟩ := opt_bind (show (toP k).bind _ = _ from e)
          obtain ⟨pd, e3, e4⟩ := opt_bind e2
          obtain ⟨ps, e5, rfl⟩ := opt_map e4
          simp only [PyData.depthKv] at hn
          have ih := i2 _ _ ps _ _ t t' e5 z z' n (by omega)
          obtain ⟨q1, q2⟩ := q
          obtain ⟨q1', q2'⟩ := q'
          have ek : κ' = κ := by
            have := c.symm.trans c'
            cases this
            exact q1'.symm.trans q1
          subst ek
          refine ⟨by rw [List.map_cons, List.map_cons, ih.1], fun k v y hm nd hv => ?_⟩
          rw [List.map_cons, List.nodup_cons] at nd
          rcases List.mem_cons.mp hm with hm | hm
          · cases hm
            have : valueAt ((κ', u') :: us') κ' = some u' := by simp [valueAt]
            rw [this] at hv
            cases hv
            exact i1 _ _ pd _ _ r r' e3 q2 q2' n (by omega)
          · have hne : κ' ≠ k := fun e' => nd.1 (e' ▸ List.mem_map_of_mem (f := (·.1)) hm)
            have : valueAt ((κ', u') :: us') k = valueAt us' k := by simp [valueAt, hne]
            rw [this] at hv
            exact ih.2 k v y hm nd.2 hv
theorem eq_tup (I : Inv X pins σ H s) (hK : X.K = Γ.K) {W : Wd} {ds : List D} (i : EqSs Γ X W H s ds) : EqS Γ X W H s (.tup ds) := by
  intro v v' p u u' r r' e ru ru' n hn
  obtain ⟨ps, e1, rfl⟩ := opt_map (show (toPs ds).map PyData.tuple = _ from e)
  cases r with
  | @tup a _ _ h r =>
    cases r' with
    | @tup b _ _ h' r' =>
      cases ru; cases ru'
      by_cases hab : a = b
      · subst hab; exact .same
      · rw [← hK] at h h'
        obtain ⟨its, rv, pl, _⟩ := I.tuple h
        obtain ⟨its', rv', pl', _⟩ := I.tuple h'
        simp only [PyData.depth] at hn
        obtain ⟨m, rfl⟩ : ∃ m, n = m + 1 := ⟨n - 1, by omega⟩
        have l1 := r.length
        have l2 := r'.length
        have l3 := rv.length
        have l4 := rv'.length
        have hh := EqTree.tuples (prog := X.prog) (w := X.w) (n := m) (e := fun _ => true) hab pl pl' (fun j h1 h2 => i _ _ ps _ _ r r' e1 rv rv' m (by omega) j (by simpa using h1) (by simpa using h2))
        have e2 : ((List.range (min its.toArray.size its'.toArray.size)).all (fun _ => true) && its.toArray.size == its'.toArray.size) = true := by
          have : its.toArray.size = its'.toArray.size := by simp only [List.size_toArray]; omega
          rw [this, beq_self_eq_true, Bool.and_true, List.all_eq_true]
          exact fun _ _ => rfl
        rw [e2] at hh
        exact hh
theorem eq_lst (I : Inv X pins σ H s) {W : Wd} {ds : List D} (i : EqSs Γ X W H s ds) : EqS Γ X W H s (.lst ds) := by
  intro v v' p u u' r r' e ru ru' n hn
  obtain ⟨ps, e1, rfl⟩ := opt_map (show (toPs ds).map PyData.list = _ from e)
  cases r with
  | @lst a _ _ h r =>
    cases r' with
    | @lst b _ _ h' r' =>
      cases ru; cases ru'
      by_cases hab : a = b
      · subst hab; exact .same
      · have h := h.sq (K := X.K)
        have h' := h'.sq (K := X.K)
        obtain ⟨its, rv, pl, _⟩ := I.list h
        obtain ⟨its', rv', pl', _⟩ := I.list h'
        simp only [PyData.depth] at hn
        obtain ⟨m, rfl⟩ : ∃ m, n = m + 1 := ⟨n - 1, by omega⟩
        have l1 := r.length
        have l2 := r'.length
        have l3 := rv.length
        have l4 := rv'.length
        have hh := EqTree.lists (prog := X.prog) (w := X.w) (n := m) (e := fun _ => true) hab pl.isList pl'.isList (by simp only [List.size_toArray]; omega) (fun j h1 h2 => i _ _ ps _ _ r r' e1 rv rv' m (by omega) j (by simpa using h1) (by simpa using h2))
        have e2 : ((List.range its.toArray.size).all (fun _ => true)) = true := by
          rw [List.all_eq_true]
          exact fun _ _ => rfl
        rw [e2] at hh
        exact hh
theorem eq_dct (I : Inv X pins σ H s) {W : Wd} {ds : List (D × D)} (i : EqSk Γ X W H s ds) : EqS Γ X W H s (.dct ds) := by
  intro v v' p u u' r r' e ru ru' n hn
  obtain ⟨ps, e1, rfl⟩ := opt_map (show (toPk ds).map PyData.dict = _ from e)
  cases r with
  | @dct a _ _ h r =>
    cases r' with
    | @dct b _ _ h' r' =>
      cases ru; cases ru'
      by_cases hab : a = b
      · subst hab; exact .same
      · obtain ⟨_, ha, vs, rv, da⟩ := rd_of I.hok (.inr h.1)
        obtain ⟨_, hb, vs', rv', db⟩ := rd_of I.hok (.inr h'.1)
        simp only [PyData.depth] at hn
        obtain ⟨m, rfl⟩ : ∃ m, n = m + 1 := ⟨n - 1, by omega⟩
        have key := i _ _ ps _ _ r r' e1 rv rv' m (by omega)
        have hh := EqTree.dicts (prog := X.prog) (w := X.w) (n := m) (e := fun _ => true) hab ha hb da db (fun k v y hm hv => key.2 k v y hm (nodup_of da) hv)
        have e2 : (vs.length == vs'.length && vs.all fun p => (valueAt vs' p.1).isSome && true) = true := by
          have l1 := congrArg List.length key.1
          rw [List.length_map, List.length_map] at l1
          rw [Bool.and_eq_true, List.all_eq_true]
          refine ⟨by rw [l1, beq_self_eq_true], fun p hp => ?_⟩
          rw [Bool.and_true]
          exact valueAt_some (by rw [← key.1]; exact List.mem_map_of_mem hp)
        rw [e2] at hh
        exact hh
theorem eq_leaf {W : Wd} {d : D} (h : ∀ v, RelD Γ W H d v → v = .non ∨ (∃ b, v = .bl b) ∨ (∃ b, v = .int b) ∨ ∃ b, v = .str b) (hd : ∀ v v', RelD Γ W H d v → RelD Γ W H d v' → v = v') : EqS Γ X W H s d := by
  intro v v' p u u' r r' e ru ru' n hn
  have := hd _ _ r r'
  subst this
  rcases h v r with rfl | ⟨b, rfl⟩ | ⟨b, rfl⟩ | ⟨b, rfl⟩
  · cases ru; cases ru'; exact .same
  · cases ru; cases ru'; exact .same
  · obtain ⟨t, rfl⟩ := ru
    obtain ⟨t', rfl⟩ := ru'
    refine .leaf fun A _ => ?_
    have := SeqAt.EqAt.int_int (A := A) (s := s) b t b t'
    rw [beq_self_eq_true] at this
    exact this
  · obtain ⟨t, rfl⟩ := ru
    obtain ⟨t', rfl⟩ := ru'
    refine .leaf fun A _ => ?_
    have := SeqAt.EqAt.str_str (A := A) (s := s) b t b t'
    rw [beq_self_eq_true] at this
    exact this
mutual
theorem eq_same (I : Inv X pins σ H s) (hK : X.K = Γ.K) (W : Wd) : ∀ d : D, EqS Γ X W H s d
  | .non => eq_leaf (fun v r => by cases r; exact .inl rfl) fun v v' r r' => by cases r; cases r'; rfl
  | .bl b => eq_leaf (fun v r => by cases r; exact .inr (.inl ⟨_, rfl⟩)) fun v v' r r' => by cases r; cases r'; rfl
  | .int b => eq_leaf (fun v r => by cases r; exact .inr (.inr (.inl ⟨_, rfl⟩))) fun v v' r r' => by cases r; cases r'; rfl
  | .str b => eq_leaf (fun v r => by cases r; exact .inr (.inr (.inr ⟨_, rfl⟩))) fun v v' r r' => by cases r; cases r'; rfl
  | .tup ds => eq_tup I hK (eqs_same I hK W ds)
  | .lst ds => eq_lst I (eqs_same I hK W ds)
  | .dct ds => eq_dct I (eqk_same I hK W ds)
  | .scr _ => fun _ _ _ _ _ _ _ e => nomatch e
  | .ins _ _ => fun _ _ _ _ _ _ _ e => nomatch e
  | .loc _ => fun _ _ _ _ _ _ _ e => nomatch e
theorem eqs_same (I : Inv X pins σ H s) (hK : X.K = Γ.K) (W : Wd) : ∀ ds : List D, EqSs Γ X W H s ds
  | [] => eqs_nil
  | d :: ds => eqs_cons (eq_same I hK W d) (eqs_same I hK W ds)
theorem eqk_same (I : Inv X pins σ H s) (hK : X.K = Γ.K) (W : Wd) : ∀ ds : List (D × D), EqSk Γ X W H s ds
  | [] => eqk_nil
  | (_, d) :: ds => eqk_cons (eq_same I hK W d) (eqk_same I hK W ds)
end
end
end PI
set_option maxRecDepth 100000
set_option maxHeartbeats 1000000
namespace PI
open PySem L2
/-! ### != of two lists whose items are alike, whatever they hold -/
section
open PySem.SeqAt AutoSeq1 MeetsSeq MeetsSeq2 MeetsSeq3 SeqRoads2
variable {P : Program} {w : World}
theorem alikeLoop (x y : Addr) (u v : Array Value) (n1 n2 : Nat) (d1 d2 : Option Addr) (o1 o2 : Array (Option Value)) (sz : u.size = v.size) (k : Nat) : ∀ i : Nat, u.size - i = k →
    MeetsIn P w (Builtin.«list.__eq__.loop» ⟨[.ref x, .ref y, rawInt i, rawInt 3], []⟩) fun A R s =>
      s.heap.get? x = some { cls := .type "list", dict := d1, data := .seq u n1, slots := o1 } ∧ s.heap.get? y = some { cls := .type "list", dict := d2, data := .seq v n2, slots := o2 } ∧
        (∀ j (a : j < u.size) (b : j < v.size), EqIn P w A.in1 s u[j] v[j] true) ∧ R (.ok (.ret (.bool false))) s := by
  induction k with
  | zero =>
    intro i ek A R s ⟨fx, fy, al, r⟩
    obtain ⟨hp, g, d, tk, os⟩ := s
    wp_walk using wpAny_loadPart' fx, wpAny_loadPart' fy
    have z1 : u[((i : Nat) : Int).toNat]? = none := by
      simp
      omega
    have z2 : v[((i : Nat) : Int).toNat]? = none := by
      simp
      omega
    rw [z1, z2]
    wp_walk using wpAny_loadPart' fx, wpAny_loadPart' fy
    have z3 : (u.size != v.size) = false := by rw [sz]; simp
    show R (.ok (.ret (.bool (u.size != v.size)))) _
    rw [z3]
    exact r
  | succ k more =>
    intro i ek A R s ⟨fx, fy, al, r⟩
    obtain ⟨hp, g, d, tk, os⟩ := s
    wp_walk using wpAny_loadPart' fx, wpAny_loadPart' fy
    have l1 : i < u.size := by omega
    have l2 : i < v.size := by omega
    have z1 : u[((i : Nat) : Int).toNat]? = some u[i] := by
      simp [l1]
    have z2 : v[((i : Nat) : Int).toNat]? = some v[i] := by
      simp [l2]
    have z3 : ((i : Int) + 1) = ((i + 1 : Nat) : Int) := by
      push_cast
      rfl
    rw [z1, z2]
    refine wpAny_bind (al i l1 l2 _ _ ?_)
    wp_walk
    rw [z3]
    refine ⟨plainId_quiet plain_eq_loop _, codeAny_builtin entry_eq_loop ?_⟩
    rw [Around.under_plainId plain_eq_loop _]
    exact more (i + 1) (by omega) A R _ ⟨fx, fy, al, r⟩
theorem alikeNe (x y : Addr) (u v : Array Value) (n1 n2 : Nat) (d1 d2 : Option Addr) (o1 o2 : Array (Option Value)) (sz : u.size = v.size) : MeetsIn P w (Builtin.«list.__ne__» ⟨[.ref x, .ref y], []⟩) fun A R s =>
      s.heap.get? x = some { cls := .type "list", dict := d1, data := .seq u n1, slots := o1 } ∧ s.heap.get? y = some { cls := .type "list", dict := d2, data := .seq v n2, slots := o2 } ∧
        (∀ j (a : j < u.size) (b : j < v.size), EqIn P w A.in1 s u[j] v[j] true) ∧ R (.ok (.ret (.bool false))) s := by
  intro A R s ⟨fx, fy, al, r⟩
  obtain ⟨hp, g, d, tk, os⟩ := s
  have f3 := AutoSeq1.sub_list_list
  have z : ¬ (u.size != v.size) = true := by
    rw [sz]
    simp
  wp_walk using wpAny_loadPart' fx, wpAny_loadPart' fy
  refine ⟨plainId_quiet plain_eq_loop _, codeAny_builtin entry_eq_loop ?_⟩
  rw [Around.under_plainId plain_eq_loop _]
  exact alikeLoop x y u v n1 n2 d1 d2 o1 o2 sz _ 0 rfl A R _ ⟨fx, fy, al, r⟩
theorem alike_lists {A : Around} {E : Value → Shared → Prop} {s : Shared} {x y : Addr} {u v : Array Value} {Q : Value → Shared → Prop} (hx : s.heap.IsList x u) (hy : s.heap.IsList y v) (sz : u.size = v.size) (hu : A.units < cLine)
    (al : ∀ j (a : j < u.size) (b : j < v.size), EqIn P w A.in1 s u[j] v[j] true) (q : Q (.bool false) s) : wpAny (model P w) A (compareOp .NotEq (.ref x) (.ref y)) Q E s := by
  obtain ⟨⟨c1, d1, t1, o1⟩, f1, e1, n1, e2⟩ := id hx
  obtain ⟨⟨c2, d2, t2, o2⟩, f2, e3, n2, e4⟩ := id hy
  simp only at e1 e2 e3 e4
  subst e1 e2 e3 e4
  refine wpAny_richCompare_same_room (T := "list") (op := .NotEq) ⟨_, f1, rfl⟩ ⟨_, f2, rfl⟩ F.slot_list_ne ?_ hu
  refine call_meetsIn F.slot_list_ne ⟨_, f1, rfl⟩ F.entry_list_ne (F.args_list_ne_2 _ _) (alikeNe x y u v n1 n2 d1 d2 o1 o2 sz) ?_
  exact ⟨f1, f2, al, show Value.bool false ≠ Value.notImplemented ∧ Q (.bool false) s from ⟨(fun z => nomatch z), q⟩⟩
end
variable {Γ : Cls0}
section
variable {X : Cx} {pins : List (Addr × Obj)} {σ : St} {H : Hp} {s : Shared}
/-- what is asked of the place where the machine stands -/
structure Here (Γ : Cls0) (X : Cx) : Prop where
  K : X.K = Γ.K
  calm : X.calm = true
  units : X.A.units + 100 < cLine
  guards : X.A.guards = some []
  sys : ∃ (o : Obj) (es : Array DictEntry) (ep : Nat), X.base.get? sysModules = some o ∧ o.data = .dict es ep
theorem eqG_ok (hx : Here Γ X) (I : Inv X pins σ H s) {W : Wd} {d e : D} {x y : V} {v u : Value} {b : Bool} {Q : VK} (hR : RelH Γ W H) (rd : RelD Γ W H d x) (re : RelD Γ W H e y) (rx : RelV x v) (ry : RelV y u) (h : eqG W.ah d e = some b) (q : Q (.bl b) H) :
    wpAny (model X.prog X.w) X.A (compareOp .Eq v u) (EP X pins σ Q) X.xe s := by
  have hu := hx.units
  unfold eqG at h
  split at h
  · rename_i p p' e1 e2
    split at h
    · rename_i hc
      cases h
      obtain ⟨n1, n2, n3, n4⟩ := and4 hc
      have d1 := (seen_look hR rd).dp e1 n1
      have d2 := (seen_look hR re).dp e2 n2
      rw [← hx.K] at d1 d2
      exact op_eqD (by omega) pins s σ H x y v u Q I rx ry ⟨_, _, d1, d2, n3, n4, q⟩
    · split at h
      · rename_i hs
        cases h
        obtain ⟨hs, hb, hd⟩ := and3 hs
        have hd := of_decide_eq_true hd
        have := D.same_eq _ _ hs
        subst this
        cases d with
        | tup ds =>
          obtain ⟨ps, e3, rfl⟩ := opt_map (show (toPs ds).map PyData.tuple = _ from e1)
          simp only [PyData.depth] at hd
          cases rd with
          | @tup a1 vs1 _ t1 r1 =>
            cases re with
            | @tup a2 vs2 _ t2 r2 =>
              cases rx; cases ry
              rw [← hx.K] at t1 t2
              obtain ⟨i1, rv1, p1, _⟩ := I.tuple t1
              obtain ⟨i2, rv2, p2, _⟩ := I.tuple t2
              have l1 := r1.length
              have l2 := r2.length
              have l3 := rv1.length
              have l4 := rv2.length
              refine PySem.W.eq_tuplesT (n := 64) (e := fun _ => true) p1 p2 (fun j a b => eqs_same I hx.K W ds _ _ ps _ _ r1 r2 e3 rv1 rv2 64 (by omega) j (by simpa using a) (by simpa using b)) (by omega) ⟨.bl true, H, I, ?_, q⟩
              have e2 : ((List.range (min i1.toArray.size i2.toArray.size)).all (fun _ => true) && i1.toArray.size == i2.toArray.size) = true := by
                have : i1.toArray.size = i2.toArray.size := by simp only [List.size_toArray]; omega
                rw [this, beq_self_eq_true, Bool.and_true, List.all_eq_true]
                exact fun _ _ => rfl
              show Value.bool _ = Value.bool true
              rw [e2]
        | lst ds =>
          obtain ⟨ps, e3, rfl⟩ := opt_map (show (toPs ds).map PyData.list = _ from e1)
          simp only [PyData.depth] at hd
          cases rd with
          | @lst a1 vs1 _ t1 r1 =>
            cases re with
            | @lst a2 vs2 _ t2 r2 =>
              cases rx; cases ry
              obtain ⟨i1, rv1, p1, _⟩ := I.list (t1.sq (K := X.K))
              obtain ⟨i2, rv2, p2, _⟩ := I.list (t2.sq (K := X.K))
              have l1 := r1.length
              have l2 := r2.length
              have l3 := rv1.length
              have l4 := rv2.length
              refine PySem.W.eq_listsT (n := 64) (e := fun _ => true) p1.isList p2.isList (by simp only [List.size_toArray]; omega) (fun j a b => eqs_same I hx.K W ds _ _ ps _ _ r1 r2 e3 rv1 rv2 64 (by omega) j (by simpa using a) (by simpa using b)) (by omega) ⟨.bl true, H, I, ?_, q⟩
              have e2 : ((List.range i1.toArray.size).all (fun _ => true)) = true := by
                rw [List.all_eq_true]
                exact fun _ _ => rfl
              show Value.bool _ = Value.bool true
              rw [e2]
        | dct ds =>
          obtain ⟨ps, e3, rfl⟩ := opt_map (show (toPk ds).map PyData.dict = _ from e1)
          simp only [PyData.depth] at hd
          cases rd with
          | @dct a1 vs1 _ t1 r1 =>
            cases re with
            | @dct a2 vs2 _ t2 r2 =>
              cases rx; cases ry
              obtain ⟨_, ha, kv1, rv, da⟩ := rd_of I.hok (.inr t1.1)
              obtain ⟨_, hb, kv2, rv', db⟩ := rd_of I.hok (.inr t2.1)
              have key := eqk_same I hx.K W ds _ _ ps _ _ r1 r2 e3 rv rv' 64 (by omega)
              refine PySem.W.eq_dictsT (n := 64) (e := fun _ => true) ha hb da db (fun k v y hm hv => key.2 k v y hm (nodup_of da) hv) (by omega) ⟨.bl true, H, I, ?_, q⟩
              have e2 : (kv1.length == kv2.length && kv1.all fun p => (valueAt kv2 p.1).isSome && true) = true := by
                have l1 := congrArg List.length key.1
                rw [List.length_map, List.length_map] at l1
                rw [Bool.and_eq_true, List.all_eq_true]
                refine ⟨by rw [l1, beq_self_eq_true], fun p hp => ?_⟩
                rw [Bool.and_true]
                exact valueAt_some (by rw [← key.1]; exact List.mem_map_of_mem hp)
              show Value.bool _ = Value.bool true
              rw [e2]
        | _ => cases hb
      · cases h
  · cases h
theorem neG_ok (hx : Here Γ X) (I : Inv X pins σ H s) {W : Wd} {d e : D} {x y : V} {v u : Value} {b : Bool} {Q : VK} (hR : RelH Γ W H) (rd : RelD Γ W H d x) (re : RelD Γ W H e y) (rx : RelV x v) (ry : RelV y u) (h : neG W.ah d e = some b) (q : Q (.bl b) H) :
    wpAny (model X.prog X.w) X.A (compareOp .NotEq v u) (EP X pins σ Q) X.xe s := by
  have hu := hx.units
  unfold neG at h
  split at h
  · rename_i p p' e1 e2
    split at h
    · rename_i hc
      cases h
      obtain ⟨n1, n2, n3, n4⟩ := and4 hc
      have d1 := (seen_look hR rd).dp e1 n1
      have d2 := (seen_look hR re).dp e2 n2
      rw [← hx.K] at d1 d2
      exact op_neD (by omega) pins s σ H x y v u Q I rx ry ⟨_, _, d1, d2, n3, n4, q⟩
    · split at h
      · rename_i hs
        cases h
        obtain ⟨hs, hb, hd⟩ := and3 hs
        have hd := of_decide_eq_true hd
        have := D.same_eq _ _ hs
        subst this
        cases d with
        | lst ds =>
          obtain ⟨ps, e3, rfl⟩ := opt_map (show (toPs ds).map PyData.list = _ from e1)
          simp only [PyData.depth] at hd
          cases rd with
          | @lst a1 vs1 _ t1 r1 =>
            cases re with
            | @lst a2 vs2 _ t2 r2 =>
              cases rx; cases ry
              obtain ⟨i1, rv1, p1, _⟩ := I.list (t1.sq (K := X.K))
              obtain ⟨i2, rv2, p2, _⟩ := I.list (t2.sq (K := X.K))
              have l1 := r1.length
              have l2 := r2.length
              have l3 := rv1.length
              have l4 := rv2.length
              refine alike_lists p1.isList p2.isList (by simp only [List.size_toArray]; omega) (by omega) (fun j a b => (eqs_same I hx.K W ds _ _ ps _ _ r1 r2 e3 rv1 rv2 64 (by omega) j (by simpa using a) (by simpa using b)).at _ ?_) ⟨.bl false, H, I, rfl, q⟩
              show X.A.units + 1 + 64 < cLine
              omega
        | _ => cases hb
      · cases h
  · cases h
theorem eqO_ok (hx : Here Γ X) (I : Inv X pins σ H s) {W : Wd} {d e : D} {x y : V} {v u : Value} {b : Bool} {Q : VK} (hR : RelH Γ W H) (rd : RelD Γ W H d x) (re : RelD Γ W H e y) (rx : RelV x v) (ry : RelV y u) (h : eqO W.ah d e = some b) (q : Q (.bl b) H) :
    wpAny (model X.prog X.w) X.A (compareOp .Eq v u) (EP X pins σ Q) X.xe s := by
  unfold eqO at h
  split at h
  · cases h
    cases rd; cases re
    exact op_eq pins s σ H _ _ v u Q I rx ry ⟨rfl, by simpa using q⟩
  · cases h
    cases rd; cases re
    exact op_eq pins s σ H _ _ v u Q I rx ry ⟨rfl, by simpa using q⟩
  · exact eqG_ok hx I hR rd re rx ry h q
theorem neO_ok (hx : Here Γ X) (I : Inv X pins σ H s) {W : Wd} {d e : D} {x y : V} {v u : Value} {b : Bool} {Q : VK} (hR : RelH Γ W H) (rd : RelD Γ W H d x) (re : RelD Γ W H e y) (rx : RelV x v) (ry : RelV y u) (h : neO W.ah d e = some b) (q : Q (.bl b) H) :
    wpAny (model X.prog X.w) X.A (compareOp .NotEq v u) (EP X pins σ Q) X.xe s := by
  unfold neO at h
  split at h
  · cases h
    cases rd; cases re
    exact op_ne pins s σ H _ _ v u Q I rx ry ⟨rfl, by simpa using q⟩
  · cases h
    cases rd; cases re
    exact op_ne pins s σ H _ _ v u Q I rx ry ⟨rfl, by simpa using q⟩
  · exact neG_ok hx I hR rd re rx ry h q
end
end PI
set_option maxRecDepth 100000
set_option maxHeartbeats 1000000
/-! Dicts. -/
namespace PI
open PySem L2
variable {Γ : Cls0}
theorem keyK_ok {d : D} (h : keyK d = true) : ∃ κ, keyOf d = some κ := by
  cases d <;> first | exact ⟨_, rfl⟩ | cases h
theorem key_rel {W : Wd} {H : Hp} {d : D} {v : V} {κ : Key} (r : RelD Γ W H d v) (h : keyOf d = some κ) : v = kV κ := by
  cases d with
  | int i => cases h; exact r.isInt
  | str s => cases h; exact r.isStr
  | _ => cases h
theorem key_same {a b : D} {κ : Key} (h : keyOf a = some κ) {μ : Key} (h' : keyOf b = some μ) : D.same a b = decide (κ = μ) := by
  cases a with
  | int i =>
    cases h
    cases b with
    | int j =>
      cases h'
      by_cases c : i = j
      · subst c; simp [D.same]
      · have c' : ¬ ((Sum.inl i : Key) = Sum.inl j) := fun e => c (Sum.inl.inj e)
        simp [D.same, c, c']
    | str s => cases h'; simp [D.same]
    | _ => cases h'
  | str s =>
    cases h
    cases b with
    | int j => cases h'; simp [D.same]
    | str t =>
      cases h'
      by_cases c : s = t
      · subst c; simp [D.same]
      · have c' : ¬ ((Sum.inr s : Key) = Sum.inr t) := fun e => c (Sum.inr.inj e)
        simp [D.same, c, c']
    | _ => cases h'
  | _ => cases h
theorem find_rel {W : Wd} {H : Hp} {k : D} {κ : Key} (hk : keyOf k = some κ) : ∀ {ds : List (D × D)} {vs : List (Key × V)}, RelKs Γ W H ds vs → (dfind ds k = none ∧ valV vs κ = none) ∨ ∃ d v, dfind ds k = some d ∧ valV vs κ = some v ∧ RelD Γ W H d v
  | _, _, .nil => .inl ⟨rfl, rfl⟩
  | _ :: ds, _ :: vs, .cons (k := k') (d := d) (κ := μ) (v := v) hk' r t => by
    have e := key_same hk' hk
    by_cases c : μ = κ
    · refine .inr ⟨d, v, ?_, valV_pos c, r⟩
      unfold dfind
      rw [e, if_pos (decide_eq_true c)]
    · have e1 : dfind ((k', d) :: ds) k = dfind ds k := by
        conv => lhs; unfold dfind
        rw [e, if_neg (by simpa using c)]
      rw [e1, valV_neg (p := (μ, v)) c]
      exact find_rel hk t
theorem ks_len {W : Wd} {H : Hp} : ∀ {ds : List (D × D)} {vs : List (Key × V)}, RelKs Γ W H ds vs → ds.length = vs.length
  | _, _, .nil => rfl
  | _, _, .cons _ _ t => congrArg Nat.succ (ks_len t)
theorem ks_app {W : Wd} {H : Hp} {k d : D} {κ : Key} {v : V} (hk : keyOf k = some κ) (r : RelD Γ W H d v) : ∀ {ds : List (D × D)} {vs : List (Key × V)}, RelKs Γ W H ds vs → RelKs Γ W H (ds ++ [(k, d)]) (vs ++ [(κ, v)])
  | _, _, .nil => .cons hk r .nil
  | _, _, .cons h q t => .cons h q (ks_app hk r t)
theorem ks_upd {W : Wd} {H : Hp} {k d : D} {κ : Key} {v : V} (hk : keyOf k = some κ) (r : RelD Γ W H d v) : ∀ {ds : List (D × D)} {vs : List (Key × V)}, RelKs Γ W H ds vs → RelKs Γ W H (ds.map fun p => if D.same p.1 k = true then (p.1, d) else p) (vs.map fun p => if p.1 = κ then (p.1, v) else p)
  | _, _, .nil => .nil
  | _, _, .cons (κ := μ) h q t => by
    rw [List.map_cons, List.map_cons]
    have e := key_same h hk
    dsimp only
    rw [e]
    by_cases c : μ = κ
    · rw [if_pos (decide_eq_true c), if_pos c]
      exact .cons h r (ks_upd hk r t)
    · rw [if_neg (by simpa using c), if_neg c]
      exact .cons h q (ks_upd hk r t)
theorem put_rel {W : Wd} {H : Hp} {k d : D} {κ : Key} {v : V} (hk : keyOf k = some κ) (r : RelD Γ W H d v) {ds : List (D × D)} {vs : List (Key × V)} (t : RelKs Γ W H ds vs) : RelKs Γ W H (dput ds k d) (putK vs κ v) := by
  unfold dput putK
  rw [valV_any]
  rcases find_rel hk t with ⟨e1, e2⟩ | ⟨d', v', e1, e2, _⟩
  · rw [e1, e2]
    exact ks_app hk r t
  · rw [e1, e2]
    exact ks_upd hk r t
theorem merge_rel {W : Wd} {H : Hp} : ∀ {es ds : List (D × D)} {us vs : List (Key × V)}, RelKs Γ W H es us → RelKs Γ W H ds vs → RelKs Γ W H (mergeD ds es) (mergeK vs us)
  | _, _, _, _, .nil, t => t
  | _ :: es, _, _ :: us, _, .cons h q e, t => merge_rel (es := es) (us := us) e (put_rel h q t)
theorem ks_at {W : Wd} {H : Hp} : ∀ {ds : List (D × D)} {vs : List (Key × V)}, RelKs Γ W H ds vs → ∀ {p : Key × V}, p ∈ vs → ∃ k d, (k, d) ∈ ds ∧ keyOf k = some p.1 ∧ RelD Γ W H d p.2
  | _, _, .nil, p, hp => by cases hp
  | _, _, .cons h q t, p, hp => by
    rcases List.mem_cons.mp hp with rfl | hp
    · exact ⟨_, _, List.mem_cons_self .., h, q⟩
    · obtain ⟨k, d, a, b, c⟩ := ks_at t hp
      exact ⟨k, d, List.mem_cons_of_mem _ a, b, c⟩
theorem seen_dct {W : Wd} {H : Hp} {d : D} {v : V} {kvs : List (D × D)} (hR : RelH Γ W H) (r : RelD Γ W H d v) (h : dkvs W.ah d = some kvs) : ∃ a vs, v = .ref a ∧ Rd H a (.dK vs) ∧ RelKs Γ W H kvs vs := by
  have s := seen_look hR r
  unfold dkvs at h
  generalize look W.ah d = d' at s h
  cases d' with
  | dct ds =>
    cases h
    cases s with
    | rel r =>
      cases r with
      | dct h1 h2 => exact ⟨_, _, rfl, .inr h1.1, h2⟩
    | dct h1 h2 => exact ⟨_, _, rfl, h1, h2⟩
  | _ => cases h
theorem flat_rel {W : Wd} {H : Hp} {d e : D} {u v : V} (r : RelD Γ W H d u) (q : RelD Γ W H e v) (h : D.same d e = true) (f : flatD e = true) : u = v ∧ flatB v = true := by
  have := D.same_eq _ _ h
  subst this
  cases d with
  | non => rw [r.isNon, q.isNon]; exact ⟨rfl, rfl⟩
  | bl b => rw [r.isBl, q.isBl]; exact ⟨rfl, rfl⟩
  | int i => rw [r.isInt, q.isInt]; exact ⟨rfl, rfl⟩
  | str s => rw [r.isStr, q.isStr]; exact ⟨rfl, rfl⟩
  | _ => cases f
section
variable {X : Cx} {pins : List (Addr × Obj)} {σ : St} {H : Hp} {s : Shared}
/-- == and != of two dicts that are equal, in any order -/
theorem eqDct_ok (hx : Here Γ X) (I : Inv X pins σ H s) {W : Wd} {d e : D} {x y : V} {v u : Value} {b : Bool} {Q : VK} (hR : RelH Γ W H) (rd : RelD Γ W H d x) (re : RelD Γ W H e y) (rx : RelV x v) (ry : RelV y u) (h : eqDct W.ah d e = some b) (neg : Bool) (q : Q (.bl (if neg then !b else b)) H) :
    wpAny (model X.prog X.w) X.A (compareOp (if neg then .NotEq else .Eq) v u) (EP X pins σ Q) X.xe s := by
  have hu := hx.units
  unfold eqDct at h
  split at h
  · rename_i ks ls e1 e2
    split at h
    · rename_i c
      cases h
      obtain ⟨c1, c2⟩ := and2 c
      have c1 := of_decide_eq_true c1
      obtain ⟨a, vs, rfl, ra, r1⟩ := seen_dct hR rd (by unfold dkvs; rw [e1])
      obtain ⟨a', us, rfl, rb, r2⟩ := seen_dct hR re (by unfold dkvs; rw [e2])
      obtain rfl : v = Value.ref a := rx
      obtain rfl : u = Value.ref a' := ry
      have hp : ∀ p ∈ vs, valV us p.1 = some p.2 ∧ flatB p.2 = true := fun p hp => by
        obtain ⟨k, dv, hm, hk, rv⟩ := ks_at r1 hp
        have c3 := List.all_eq_true.mp c2 _ hm
        dsimp only at c3
        rcases find_rel hk r2 with ⟨f1, _⟩ | ⟨d2, v2, f1, f2, rv2⟩
        · rw [f1] at c3; cases c3
        · rw [f1] at c3
          obtain ⟨c4, c5⟩ := and2 c3
          obtain ⟨e3, f3⟩ := flat_rel rv2 rv c4 c5
          exact ⟨by rw [f2, e3], f3⟩
      have hl : vs.length = us.length := by rw [← ks_len r1, ← ks_len r2]; exact c1
      obtain ⟨_, ya, va, rva, da⟩ := dk_rd I.hok ra
      obtain ⟨_, yb, vb, rvb, db⟩ := dk_rd I.hok rb
      have hl2 : va.length = vb.length := by rw [← rva.length, ← rvb.length]; exact hl
      cases neg with
      | false => exact PySem.W.keq_eq (knd := mixKind X.prog X.w) (r := true) ya yb da db (by omega) (fun _ => hits_all rvb rva hp) ⟨.bl true, H, I, by simp [hl2, RelV], q⟩
      | true => exact PySem.W.keq_ne (knd := mixKind X.prog X.w) (r := true) ya yb da db (by omega) (fun _ => hits_all rvb rva hp) ⟨.bl false, H, I, by simp [hl2, RelV], q⟩
    · cases h
  · cases h
end
end PI
set_option maxRecDepth 100000
set_option maxHeartbeats 1000000
namespace PI
open PySem L2
variable {Γ : Cls0}
section
variable {X : Cx} {pins : List (Addr × Obj)} {σ : St} {H : Hp} {s : Shared}
def cmpPy : Cmp → CmpOp
  | .eq => .Eq
  | .ne => .NotEq
  | .lt => .Lt
  | .le => .LtE
  | .gt => .Gt
  | .ge => .GtE
  | .isIn => .In
  | .notIn => .NotIn
  | .isNone => .Is
  | .notNone => .IsNot
def rCmp (Γ : Cls0) (o : Cmp) : R2 := fun x y H Q => ∃ W d e b, RelD Γ W H d x ∧ RelD Γ W H e y ∧ RelH Γ W H ∧ cmp2 o d e W.ah = some b ∧ Q (.bl b) H
theorem one_sign {c : Str} (h : c.length = 1) : c = ⟨#[c.cps.getD 0 0]⟩ := by
  obtain ⟨⟨l⟩⟩ := c
  match l, h with
  | [a], _ => rfl
theorem lt_ok (X : Cx) : OpR X (compareOp .Lt) (fun x y H Q => ∃ (W : Wd) (d e : D) (b : Bool), RelD Γ W H d x ∧ RelD Γ W H e y ∧ ltO d e = some b ∧ Q (.bl b) H) := by
  intro pins s σ H x y v u Q I rx ry ⟨W, d, e, b, rd, re, h, q⟩
  unfold ltO at h
  split at h
  · cases rd; cases re; cases h
    exact op_lt pins s σ H _ _ v u Q I rx ry ⟨_, _, rfl, rfl, q⟩
  · cases rd; cases re; cases h
    exact op_lt_str pins s σ H _ _ v u Q I rx ry ⟨_, _, rfl, rfl, q⟩
  · cases h
theorem gt_ok (X : Cx) : OpR X (compareOp .Gt) (fun x y H Q => ∃ (W : Wd) (d e : D) (b : Bool), RelD Γ W H d x ∧ RelD Γ W H e y ∧ ltO e d = some b ∧ Q (.bl b) H) := by
  intro pins s σ H x y v u Q I rx ry ⟨W, d, e, b, rd, re, h, q⟩
  unfold ltO at h
  split at h
  · cases rd; cases re; cases h
    exact op_gt pins s σ H _ _ v u Q I rx ry ⟨_, _, rfl, rfl, q⟩
  · cases rd; cases re; cases h
    exact op_gt_str pins s σ H _ _ v u Q I rx ry ⟨_, _, rfl, rfl, q⟩
  · cases h
theorem le_ok (X : Cx) : OpR X (compareOp .LtE) (fun x y H Q => ∃ (W : Wd) (d e : D) (b : Bool), RelD Γ W H d x ∧ RelD Γ W H e y ∧ leO d e = some b ∧ Q (.bl b) H) := by
  intro pins s σ H x y v u Q I rx ry ⟨W, d, e, b, rd, re, h, q⟩
  unfold leO at h
  split at h
  · cases rd; cases re; cases h
    exact op_le pins s σ H _ _ v u Q I rx ry ⟨_, _, rfl, rfl, q⟩
  · cases rd; cases re; cases h
    exact op_le_str pins s σ H _ _ v u Q I rx ry ⟨_, _, rfl, rfl, q⟩
  · cases h
theorem ge_ok (X : Cx) : OpR X (compareOp .GtE) (fun x y H Q => ∃ (W : Wd) (d e : D) (b : Bool), RelD Γ W H d x ∧ RelD Γ W H e y ∧ leO e d = some b ∧ Q (.bl b) H) := by
  intro pins s σ H x y v u Q I rx ry ⟨W, d, e, b, rd, re, h, q⟩
  unfold leO at h
  split at h
  · cases rd; cases re; cases h
    exact op_ge pins s σ H _ _ v u Q I rx ry ⟨_, _, rfl, rfl, q⟩
  · cases rd; cases re; cases h
    exact op_ge_str pins s σ H _ _ v u Q I rx ry ⟨_, _, rfl, rfl, q⟩
  · cases h
theorem in_tup {x y : V} {v u : Value} {Q : VK} {d : PyData} {ds : List PyData} (hu : X.A.units + 65 < cLine) (I : Inv X pins σ H s) (rx : RelV x v) (ry : RelV y u) (hd : Dp X.K H x d) (he : Dp X.K H y (.tuple ds)) (sd : SeqAt.shaped d = true) (se : SeqAt.shaped (.tuple ds) = true) (neg : Bool)
    (q : Q (.bl (if neg then !ds.any fun z => PyData.eqv z d else ds.any fun z => PyData.eqv z d)) H) : wpAny (model X.prog X.w) X.A (compareOp (if neg then .NotIn else .In) v u) (EP X pins σ Q) X.xe s := by
  obtain ⟨as, r1⟩ := Dp.reads I d x v hd rx
  obtain ⟨bs, r2⟩ := Dp.reads I (.tuple ds) y u he ry
  have room : X.A.units + 1 + min (PyData.depthAll ds) d.depth < cLine := by
    have h1 := SeqAt.depth_of_shaped sd
    have h2 : min (PyData.depthAll ds) d.depth ≤ d.depth := Nat.min_le_right _ _
    omega
  cases neg with
  | true => exact SeqAt.notIn_tuple_reads r2 r1 (SeqAt.canLay_of_shaped se) (SeqAt.canLay_of_shaped sd) room ⟨.bl _, H, I, rfl, q⟩
  | false => exact SeqAt.in_tuple_reads r2 r1 (SeqAt.canLay_of_shaped se) (SeqAt.canLay_of_shaped sd) room ⟨.bl _, H, I, rfl, q⟩
theorem inO_ok (hx : Here Γ X) (I : Inv X pins σ H s) {W : Wd} {d e : D} {x y : V} {v u : Value} {b : Bool} {Q : VK} (hR : RelH Γ W H) (rd : RelD Γ W H d x) (re : RelD Γ W H e y) (rx : RelV x v) (ry : RelV y u) (neg : Bool) (h : inO W.ah d e = some b) (q : Q (.bl (if neg then !b else b)) H) :
    wpAny (model X.prog X.w) X.A (compareOp (if neg then .NotIn else .In) v u) (EP X pins σ Q) X.xe s := by
  have hu := hx.units
  unfold inO at h
  split at h
  · split at h
    · rename_i c z hl
      cases h
      cases rd; cases re
      have e1 := one_sign hl
      cases neg with
      | true => exact op_notIn_sign pins s σ H _ _ v u Q I rx ry ⟨_, _, congrArg V.str e1, rfl, q⟩
      | false => exact op_in_sign pins s σ H _ _ v u Q I rx ry ⟨_, _, congrArg V.str e1, rfl, q⟩
    · cases h
  · split at h
    · rename_i p ds e1 e2
      split at h
      · rename_i hc
        cases h
        obtain ⟨n1, n2, n3, n4⟩ := and4 hc
        have d1 := (seen_look hR rd).dp e1 n1
        have d2 := (seen_look hR re).dp e2 n2
        rw [← hx.K] at d1 d2
        cases neg with
        | true => exact op_notInD (by omega) pins s σ H x y v u Q I rx ry ⟨_, _, d1, d2, n3, n4, q⟩
        | false => exact op_inD (by omega) pins s σ H x y v u Q I rx ry ⟨_, _, d1, d2, n3, n4, q⟩
      · cases h
    · rename_i p ds e1 e2
      split at h
      · rename_i hc
        cases h
        obtain ⟨n1, n2, n3, n4⟩ := and4 hc
        have d1 := (seen_look hR rd).dp e1 n1
        have d2 := (seen_look hR re).dp e2 n2
        rw [← hx.K] at d1 d2
        exact in_tup (by omega) I rx ry d1 d2 n3 n4 neg q
      · cases h
    · cases h
theorem same_non {d : D} {W : Wd} {v : V} (r : RelD Γ W H d v) : D.same d .non = decide (v = .non) := by
  cases r <;> rfl
theorem opr_cmp (hx : Here Γ X) (o : Cmp) : OpR X (compareOp (cmpPy o)) (rCmp Γ o) := by
  intro pins s σ H x y v u Q I rx ry ⟨W, d, e, b, rd, re, hR, h, q⟩
  cases o with
  | eq =>
    have h : (match eqO W.ah d e with
      | some b => some b
      | none => eqDct W.ah d e) = some b := h
    split at h
    · rename_i b' e'
      cases h
      exact eqO_ok hx I hR rd re rx ry e' q
    · exact eqDct_ok hx I hR rd re rx ry h false q
  | ne =>
    have h : (match neO W.ah d e with
      | some b => some b
      | none => (eqDct W.ah d e).map not) = some b := h
    split at h
    · rename_i b' e'
      cases h
      exact neO_ok hx I hR rd re rx ry e' q
    · obtain ⟨b', h', rfl⟩ := opt_map h
      exact eqDct_ok hx I hR rd re rx ry h' true q
  | lt => exact lt_ok X pins s σ H x y v u Q I rx ry ⟨W, d, e, b, rd, re, h, q⟩
  | le => exact le_ok X pins s σ H x y v u Q I rx ry ⟨W, d, e, b, rd, re, h, q⟩
  | gt => exact gt_ok X pins s σ H x y v u Q I rx ry ⟨W, d, e, b, rd, re, h, q⟩
  | ge => exact ge_ok X pins s σ H x y v u Q I rx ry ⟨W, d, e, b, rd, re, h, q⟩
  | isIn => exact inO_ok hx I hR rd re rx ry false h q
  | notIn =>
    obtain ⟨b', h', rfl⟩ := opt_map (show (inO W.ah d e).map not = _ from h)
    exact inO_ok hx I hR rd re rx ry true h' q
  | isNone =>
    have h : (if D.same e .non = true then some (D.same d .non) else none) = some b := h
    split at h
    · rename_i he
      cases h
      have := D.same_eq _ _ he
      subst this
      cases re
      rw [same_non rd] at q
      exact op_isN pins s σ H x _ v u Q I rx ry ⟨rfl, q⟩
    · cases h
  | notNone =>
    have h : (if D.same e .non = true then some (!D.same d .non) else none) = some b := h
    split at h
    · rename_i he
      cases h
      have := D.same_eq _ _ he
      subst this
      cases re
      rw [same_non rd] at q
      exact op_notN pins s σ H x _ v u Q I rx ry ⟨rfl, q⟩
    · cases h
/-! ### what is read of data: for repr -/
theorem ne_sys (hx : Here Γ X) (I : Inv X pins σ H s) {a : Addr} {o : HO} (h : H a = some o) : a ≠ sysModules := by
  obtain ⟨ob, es, ep, h1, h2⟩ := hx.sys
  rintro rfl
  rw [(I.bs _ _ h1).2] at h
  cases h
theorem ne_sysT (hx : Here Γ X) (I : Inv X pins σ H s) {a : Addr} {xs : List V} (h : SqT X.K H a xs) : a ≠ sysModules := by
  rcases h with (h | ⟨o, h⟩) | ⟨o, its, n, h1, h2, h3, _⟩
  · exact ne_sys hx I h
  · exact ne_sys hx I h
  · rintro rfl
    obtain ⟨ob, es, ep, g1, g2⟩ := hx.sys
    have q := I.kIn _ _ h1
    rw [(I.bs _ _ g1).1] at q
    cases q
    rw [g2] at h3
    cases h3
theorem key_reads {h : Heap} {k : D} {κ : Key} {p : PyData} {u : Value} (c : keyOf k = some κ) (e : toP k = some p) (q : keyIs κ u = true) : ∃ as, Reads h u p as ∧ sysModules ∉ as := by
  cases k with
  | int i =>
    cases c; cases e
    obtain ⟨t, rfl⟩ := Value.isInt_shape q
    exact ⟨_, .int i t, by simp⟩
  | str i =>
    cases c; cases e
    obtain ⟨t, rfl⟩ := Value.isStrOf_shape q
    exact ⟨_, .str i t, by simp⟩
  | _ => cases c
mutual
theorem reads_of (hx : Here Γ X) (I : Inv X pins σ H s) {W : Wd} : ∀ (d : D) (v : V) (p : PyData) (u : Value), RelD Γ W H d v → toP d = some p → RelV v u → ∃ as, Reads s.heap u p as ∧ sysModules ∉ as
  | .non => by
    intro v p u r e ru
    cases r; cases e; cases ru
    exact ⟨_, .none, by simp⟩
  | .bl b => by
    intro v p u r e ru
    cases r; cases e; cases ru
    exact ⟨_, .bool b, by simp⟩
  | .int b => by
    intro v p u r e ru
    cases r; cases e
    obtain ⟨t, rfl⟩ := ru
    exact ⟨_, .int b t, by simp⟩
  | .str b => by
    intro v p u r e ru
    cases r; cases e
    obtain ⟨t, rfl⟩ := ru
    exact ⟨_, .str b t, by simp⟩
  | .tup ds => by
    intro v p u r e ru
    obtain ⟨ps, e1, rfl⟩ := opt_map (show (toPs ds).map PyData.tuple = _ from e)
    cases r with
    | tup h r =>
      cases ru
      rw [← hx.K] at h
      obtain ⟨its, rv, ⟨o, ho, hc, n, hd⟩, _⟩ := I.tuple h
      obtain ⟨as, hr, hs⟩ := readss_of hx I ds _ ps its r e1 rv
      exact ⟨_, .tuple ho hc hd hr, hs⟩
  | .lst ds => by
    intro v p u r e ru
    obtain ⟨ps, e1, rfl⟩ := opt_map (show (toPs ds).map PyData.list = _ from e)
    cases r with
    | lst h r =>
      cases ru
      obtain ⟨its, rv, ⟨o, n, ho, hc, _, hd⟩, _⟩ := I.list (h.sq (K := X.K))
      obtain ⟨as, hr, hs⟩ := readss_of hx I ds _ ps its r e1 rv
      refine ⟨_, .list ho hc hd hr, ?_⟩
      simp only [List.mem_cons, not_or]
      exact ⟨fun e => ne_sys hx I h.1 e.symm, hs⟩
  | .dct ds => by
    intro v p u r e ru
    obtain ⟨ps, e1, rfl⟩ := opt_map (show (toPk ds).map PyData.dict = _ from e)
    cases r with
    | dct h r =>
      cases ru
      obtain ⟨_, hn, vs, rv, o, es, ep, ho, hc, hd, _, hp, _⟩ := rd_of I.hok (.inr h.1)
      obtain ⟨as, bs, h1, h2, h3⟩ := readsk_of hx I ds _ ps vs r e1 rv es.toList hp
      refine ⟨_, .dict ho hc.1 hd h1 h2, ?_⟩
      simp only [List.cons_append, List.mem_cons, List.mem_append, not_or]
      exact ⟨fun e => h.1.elim fun _ q => ne_sys hx I q e.symm, h3⟩
  | .scr _ => fun _ _ _ _ e => nomatch e
  | .ins _ _ => fun _ _ _ _ e => nomatch e
  | .loc _ => fun _ _ _ _ e => nomatch e
theorem readss_of (hx : Here Γ X) (I : Inv X pins σ H s) {W : Wd} : ∀ (ds : List D) (vs : List V) (ps : List PyData) (us : List Value), RelDs Γ W H ds vs → toPs ds = some ps → Vals vs us → ∃ as, ReadsAll s.heap us ps as ∧ sysModules ∉ as
  | [] => by
    intro vs ps us r e ru
    cases r; cases e; cases ru
    exact ⟨_, .nil, by simp⟩
  | d :: ds => by
    intro vs ps us r e ru
    obtain ⟨p, e1, e2⟩ := opt_bind (show (toP d).bind _ = _ from e)
    obtain ⟨ps, e3, rfl⟩ := opt_map e2
    cases r with
    | cons r t =>
      cases ru with
      | cons q z =>
        obtain ⟨as, h1, n1⟩ := reads_of hx I d _ p _ r e1 q
        obtain ⟨bs, h2, n2⟩ := readss_of hx I ds _ ps _ t e3 z
        exact ⟨_, .cons h1 h2, by simp [n1, n2]⟩
theorem readsk_of (hx : Here Γ X) (I : Inv X pins σ H s) {W : Wd} : ∀ (ds : List (D × D)) (vs : List (Key × V)) (ps : List (PyData × PyData)) (us : List (Key × Value)), RelKs Γ W H ds vs → toPk ds = some ps → KV vs us → ∀ es : List DictEntry, Pairs (mixKind X.prog X.w) es us →
    ∃ as bs, ReadsAll s.heap (es.map (·.key)) (ps.map (·.1)) as ∧ ReadsAll s.heap (es.map (·.val)) (ps.map (·.2)) bs ∧ (sysModules ∉ as ∧ sysModules ∉ bs)
  | [] => by
    intro vs ps us r e ru es hp
    cases r; cases e; cases ru; cases hp
    exact ⟨_, _, .nil, .nil, by simp⟩
  | (k, d) :: ds => by
    intro vs ps us r e ru es hp
    obtain ⟨pk, e1, e2⟩ := opt_bind (show (toP k).bind _ = _ from e)
    obtain ⟨pd, e3, e4⟩ := opt_bind e2
    obtain ⟨ps, e5, rfl⟩ := opt_map e4
    cases r with
    | @cons _ _ κ _ _ _ c r t =>
      cases ru with
      | @cons _ kv _ l2 q z =>
        cases hp with
        | @cons en _ es2 _ x y w =>
          obtain ⟨bs, h1, n1⟩ := reads_of hx I d _ pd _ r e3 q.2
          obtain ⟨as', bs', h2, h3, n2, n3⟩ := readsk_of hx I ds _ ps _ t e5 z _ w
          have q1 : κ = kv.1 := q.1
          obtain ⟨as, h0, n0⟩ := key_reads (h := s.heap) (u := en.key) c e1 (by rw [q1]; exact x)
          have h1' : Reads s.heap en.val pd bs := by
            rw [y]
            exact h1
          exact ⟨_, _, .cons h0 h2, .cons h1' h3, by simp [n0, n2], by simp [n1, n3]⟩
end
end
end PI
set_option maxRecDepth 100000
set_option maxHeartbeats 1000000
namespace PI
open PySem L2
variable {Γ : Cls0}
section
variable {X : Cx} {pins : List (Addr × Obj)} {σ : St} {H : Hp} {s : Shared}
def primPy : Prim → Value
  | .dict => .type "dict"
  | .abs => .builtin "abs"
  | .int => .type "int"
  | .len => .builtin "len"
  | .list => .type "list"
  | .tuple => .type "tuple"
  | .max2 => .builtin "max"
  | .min2 => .builtin "min"
  | .repr => .builtin "repr"
  | .str => .type "str"
  | .all => .builtin "all"
  | .bool => .type "bool"
  | .sum => .builtin "sum"
  | .sorted => .builtin "sorted"
  | .max1 => .builtin "max"
  | .min1 => .builtin "min"
def rPrim (Γ : Cls0) (m : Bool) (p : Prim) : List V → Hp → VK → Prop := fun vs H Q => ∃ W ds r h', RelDs Γ W H ds vs ∧ RelH Γ W H ∧ prim m p ds W.ah = .ok r h' ∧ OkP Γ W H h' r Q
theorem of_opt {α : Type} {o : Option α} {f : α → Res D} {r : D} {h : AH} (e : (match o with | some x => f x | none => .fail) = .ok r h) : ∃ x, o = some x ∧ f x = .ok r h := by
  cases o with
  | none => cases e
  | some x => exact ⟨x, rfl, e⟩
theorem vals_signs (x : Str) {acc : Array Value} (h : ItemsOf (SignAt x) acc x.cps.size) : Vals (x.cps.toList.map fun c => V.str ⟨#[c]⟩) acc.toList := by
  obtain ⟨h1, h2⟩ := h
  obtain ⟨⟨l⟩⟩ := x
  obtain ⟨a⟩ := acc
  have key : ∀ (l : List Nat) (a : List Value), a.length = l.length → (∀ (j : Nat) v, a[j]? = some v → ∃ c u, l[j]? = some c ∧ v = .str ⟨#[c]⟩ u) → Vals (l.map fun c => V.str ⟨#[c]⟩) a := by
    intro l
    induction l with
    | nil =>
      intro a e _
      cases a with
      | nil => exact .nil
      | cons _ _ => simp at e
    | cons c l ih =>
      intro a e f
      cases a with
      | nil => simp at e
      | cons v a =>
        obtain ⟨c', u, g1, rfl⟩ := f 0 _ rfl
        have g1 : c = c' := by simpa using g1
        subst g1
        exact .cons ⟨u, rfl⟩ (ih a (by simpa using e) fun j v q => by
          obtain ⟨c', u, g1, g2⟩ := f (j + 1) v (by simpa using q)
          exact ⟨c', u, by simpa using g1, g2⟩)
  refine key l a (by simpa using h1) fun j v q => ?_
  obtain ⟨c, u, g1, g2⟩ := h2 j v (by simpa using q)
  exact ⟨c, u, by simpa using g1, g2⟩
theorem list_str_ok (hx : Here Γ X) (I : Inv X pins σ H s) {z : Str} {u : Value} {Q : VK} (ru : RelV (.str z) u) (hz : z.length ≤ szl) (q : ∀ p, H p = none → Q (.ref p) (upd H p (.lst (z.cps.toList.map fun c => V.str ⟨#[c]⟩)))) :
    wpAny (model X.prog X.w) X.A (call (.type "list") [u]) (EP X pins σ Q) X.xe s := by
  obtain ⟨t, rfl⟩ := ru
  have hl : z.cps.size ≤ sizeLine := by rw [← szl_eq]; exact hz
  refine call_list_str (hn := hl) (I.ok.hd hx.calm) z t fun h' tk acc c hk hn hi => ?_
  have hv := vals_signs z hi
  refine ⟨.ref s.heap.objs.size, _, I.laid (t' := tk) (o := .lst (z.cps.toList.map fun c => V.str ⟨#[c]⟩)) hk (Nat.le_refl _) ?_, rfl, q _ (I.hok.fresh (Nat.le_refl _))⟩
  exact ⟨by simpa using hl, acc.toList, c, hv, by simpa using hn⟩
theorem repr_ok (hx : Here Γ X) (I : Inv X pins σ H s) {W : Wd} {d : D} {v : V} {u : Value} {p : PyData} {Q : VK} (hR : RelH Γ W H) (r : RelD Γ W H d v) (ru : RelV v u) (e : toP (look W.ah d) = some p) (c1 : p.showable = true) (c2 : p.depth ≤ 64) (c3 : p.shown.length ≤ szl) (q : Q (.str p.shown) H) :
    wpAny (model X.prog X.w) X.A (call (.builtin "repr") [u]) (EP X pins σ Q) X.xe s := by
  have hl : p.shown.length ≤ sizeLine := by rw [← szl_eq]; exact c3
  have hu := hx.units
  have box : ∀ a, u = .ref a → (∃ as, Reads s.heap u p as ∧ sysModules ∉ as) → wpAny (model X.prog X.w) X.A (call (.builtin "repr") [u]) (EP X pins σ Q) X.xe s := by
    rintro a rfl ⟨as, h1, h2⟩
    exact repr_of_reads' h1 c1 (fun _ => h2) hx.guards (by omega) (fun _ _ h => h) (fun h' t tk hk => ⟨.str _, H, I.kept (t' := tk) hk, ⟨_, rfl⟩, q⟩) hl
  have sn := seen_look hR r
  generalize look W.ah d = d' at sn e
  cases sn with
  | rel r =>
    have rd := reads_of hx I _ _ _ _ r e ru
    cases r with
    | non =>
      cases e; cases ru
      exact PySem.P.repr_of_none ⟨.str _, H, I.tok _, ⟨_, rfl⟩, q⟩
    | bl b =>
      cases e; cases ru
      exact PySem.P.repr_of_bool ⟨.str _, H, I.tok _, ⟨_, rfl⟩, q⟩
    | int i =>
      cases e
      obtain ⟨t, rfl⟩ := ru
      exact PySem.P.repr_of_int (by simpa [PyData.showable] using c1) ⟨.str _, H, I.tok _, ⟨_, rfl⟩, q⟩
    | str z =>
      cases e
      obtain ⟨t, rfl⟩ := ru
      exact PySem.P.repr_of_str ⟨.str _, H, I.tok _, ⟨_, rfl⟩, q⟩ hl
    | tup _ _ => cases ru; exact box _ rfl rd
    | lst _ _ => cases ru; exact box _ rfl rd
    | dct _ _ => cases ru; exact box _ rfl rd
    | scr _ => cases e
    | loc _ => cases e
    | hot _ _ _ _ => cases e
    | err _ _ _ _ _ _ => cases e
    | msg _ _ _ => cases e
  | lst h rl =>
    obtain ⟨ps, e1, rfl⟩ := opt_map (show (toPs _).map PyData.list = _ from e)
    cases ru
    obtain ⟨its, rv, ⟨o, n, ho, hc, _, hd⟩, _⟩ := I.list (show SqL X.K H _ _ from .inl (.inl h))
    obtain ⟨as, hr, hs⟩ := readss_of hx I _ _ ps its rl e1 rv
    refine box _ rfl ⟨_, .list ho hc hd hr, ?_⟩
    simp only [List.mem_cons, not_or]
    exact ⟨fun e => ne_sys hx I h e.symm, hs⟩
  | dct h rk =>
    obtain ⟨ps, e1, rfl⟩ := opt_map (show (toPk _).map PyData.dict = _ from e)
    cases ru
    obtain ⟨_, hn, vs, rv, o, es, ep, ho, hc, hd, _, hp, _⟩ := rd_of I.hok h
    obtain ⟨as, bs, h1, h2, h3⟩ := readsk_of hx I _ _ ps vs rk e1 rv es.toList hp
    refine box _ rfl ⟨_, .dict ho hc.1 hd h1 h2, ?_⟩
    simp only [List.cons_append, List.mem_cons, List.mem_append, not_or]
    exact ⟨fun e => h.elim (fun q => ne_sys hx I q e.symm) fun ⟨_, q⟩ => ne_sys hx I q e.symm, h3⟩
theorem look_nstr {h : AH} {d : D} {z : Str} (n : d ≠ .str z) : look h d ≠ .str z := by
  cases d with
  | loc k =>
    have key : ∀ o : Option AO, (match o with
      | some (.lst xs) => D.lst xs
      | some (.dct kvs) => .dct kvs
      | _ => .loc k) ≠ .str z := fun o => by
      rcases o with _ | (_ | _ | _ | _) <;> exact fun e => nomatch e
    exact key _
  | _ => exact n
/-- a rule for what makes a dict: it may be kept from change from now on -/
theorem callr_frz {f : Value} {r : List V → Hp → VK → Prop} (h : CallR X f r) : CallR X f (fun xs H Q => r xs H fun x H1 => Q x H1 ∨ ∃ p kvs, x = .ref p ∧ H1 p = some (.dK kvs) ∧ ∀ od, Q x (upd H1 p (.frz od (.dK kvs)))) := by
  intro pins s σ H xs us Q I rv hr
  refine wpAny_mono (h pins s σ H xs us _ I rv hr) (fun u s1 hu => ?_) fun _ _ x => x
  obtain ⟨x, H1, I1, rx, q⟩ := hu
  rcases q with q | ⟨p, kvs, _, hp, q⟩
  · exact ⟨x, H1, I1, rx, q⟩
  · obtain ⟨od, I2⟩ := I1.lock hp trivial
    exact ⟨x, _, I2, rx, q od⟩
theorem OkP.mkD {W : Wd} {H : Hp} {m : Bool} {ds : List (D × D)} {vs : List (Key × V)} {r : D} {h' : AH} {p : Addr} {Q : VK} (hR : RelH Γ W H) (hp : H p = none) (rk : RelKs Γ W H ds vs) (e : mkD m ds W.ah = .ok r h') (h : OkP Γ W H h' r Q) :
    Q (.ref p) (upd H p (.dK vs)) ∨ ∃ p' kvs, V.ref p = .ref p' ∧ upd H p (.dK vs) p' = some (.dK kvs) ∧ ∀ od, Q (.ref p) (upd (upd H p (.dK vs)) p' (.frz od (.dK kvs))) := by
  unfold PI.mkD at e
  split at e
  · cases e
    refine .inl (h (W.add p (.dct ds)) _ _ rfl (.add hR hp) (hR.add hp ⟨vs, upd_same, rk.ext (.add hR hp)⟩) (.loc ?_))
    show (W.mu ++ [p])[W.ah.length]? = some p
    rw [← hR.len]
    simp
  · cases e
    refine .inr ⟨p, vs, rfl, upd_same, fun od => ?_⟩
    rw [upd_upd]
    exact h W _ _ rfl (.fresh hR hp) (hR.fresh hp) (.dct ⟨⟨od, upd_same⟩, not_live hR hp⟩ (rk.ext (.fresh hR hp)))
/-! ### sorted texts -/
def leS (a b : Str) : Prop := ¬ (b.cps.toList < a.cps.toList)
theorem leS_anti {a b : Str} (h : leS a b) (h' : leS b a) : a = b := PyProof.Rows.str_of_list (List.le_antisymm h h')
theorem insS_perm (x : Str) : ∀ l : List Str, (insS x l).Perm (x :: l)
  | [] => .refl _
  | y :: ys => by
    unfold insS
    split
    · exact (List.Perm.cons y (insS_perm x ys)).trans (.swap _ _ _)
    · exact .refl _
theorem sortS_perm : ∀ l : List Str, (sortS l).Perm l
  | [] => .refl _
  | x :: xs => (insS_perm x _).trans (List.Perm.cons x (sortS_perm xs))
theorem insS_sorted (x : Str) : ∀ l : List Str, l.Pairwise leS → (insS x l).Pairwise leS
  | [], _ => by simp [insS]
  | y :: ys, h => by
    obtain ⟨h1, h2⟩ := List.pairwise_cons.mp h
    unfold insS
    split
    · rename_i c
      have c := of_decide_eq_true c
      refine List.pairwise_cons.mpr ⟨fun z hz => ?_, insS_sorted x ys h2⟩
      rcases List.mem_cons.mp ((insS_perm x ys).mem_iff.mp hz) with rfl | hz
      · exact fun q => List.lt_irrefl _ (List.lt_trans q c)
      · exact h1 z hz
    · rename_i c
      have c : ¬ (y.cps.toList < x.cps.toList) := by simpa using c
      refine List.pairwise_cons.mpr ⟨fun z hz => ?_, h⟩
      rcases List.mem_cons.mp hz with rfl | hz
      · exact c
      · exact List.le_trans (α := Nat) c (h1 z hz)
theorem sortS_sorted : ∀ l : List Str, (sortS l).Pairwise leS
  | [] => .nil
  | x :: xs => insS_sorted x _ (sortS_sorted xs)
theorem rising_pw : ∀ (p : Str) (l : List Str), PyProof.Rows.risingS p l = true → (p :: l).Pairwise leS
  | p, [], _ => by simp
  | p, x :: r, h => by
    unfold PyProof.Rows.risingS at h
    obtain ⟨h1, h2⟩ := and2 h
    have ih := rising_pw x r h2
    have h1 : leS p x := fun q => by
      rw [PyProof.Rows.ltCps_eq] at h1
      simp [q] at h1
    refine List.pairwise_cons.mpr ⟨fun z hz => ?_, ih⟩
    rcases List.mem_cons.mp hz with rfl | hz
    · exact h1
    · exact List.le_trans (α := Nat) h1 ((List.pairwise_cons.mp ih).1 z hz)
theorem sortS_only {l ys : List Str} (h : ys.Perm l) (hs : PyProof.Rows.sortedS ys = true) : ys = sortS l := by
  refine List.Perm.eq_of_pairwise (le := leS) (fun a b _ _ x y => leS_anti x y) ?_ (sortS_sorted l) (h.trans (sortS_perm l).symm)
  cases ys with
  | nil => exact .nil
  | cons y ys => exact rising_pw y ys hs
theorem keys_rel {W : Wd} {H : Hp} : ∀ {ds : List (D × D)} {vs : List (Key × V)}, RelKs Γ W H ds vs → RelDs Γ W H (ds.map fun p => p.1) (vs.map fun kv => kV kv.1)
  | _, _, .nil => .nil
  | _, _, .cons (k := k) hk r t => by
    refine .cons ?_ (keys_rel t)
    cases k with
    | int i => cases hk; exact .int i
    | str s => cases hk; exact .str s
    | _ => cases hk
theorem strs_rel {W : Wd} {H : Hp} : ∀ ks : List Str, RelDs Γ W H (ks.map D.str) (ks.map V.str)
  | [] => .nil
  | k :: ks => .cons (.str k) (strs_rel ks)
theorem pairs_rel {W : Wd} {H : Hp} : ∀ {xs : List D} {vs : List V} {ds : List (D × D)}, RelDs Γ W H xs vs → pairsD xs = some ds → ∃ (ps : List Addr) (us : List (Key × V)), vs = ps.map V.ref ∧ Paired (fun p kv => SqT Γ.K H p [kV kv.1, kv.2]) ps us ∧ RelKs Γ W H ds us
  | _, _, _, .nil, e => by cases e; exact ⟨[], [], rfl, .nil, .nil⟩
  | _, _, _, .cons (d := d) r t, e => by
    unfold pairsD at e
    split at e
    · rename_i hh
      cases hh
    · rename_i k w xs hh
      cases hh
      split at e
      · rename_i c
        obtain ⟨ds, e1, rfl⟩ := opt_map e
        obtain ⟨ps, us, rfl, pr, rk⟩ := pairs_rel t e1
        obtain ⟨κ, hκ⟩ := keyK_ok c
        cases r with
        | tup h q =>
          cases q with
          | cons q1 q2 =>
            cases q2 with
            | cons q2 q3 =>
              cases q3
              have := key_rel q1 hκ
              subst this
              exact ⟨_ :: ps, (κ, _) :: us, rfl, .cons h pr, .cons hκ q2 rk⟩
      · cases e
    · cases e
theorem strK_rel {W : Wd} {H : Hp} : ∀ {ds : List (D × D)} {vs : List (Key × V)} {ks : List Str}, RelKs Γ W H ds vs → strK ds = some ks → vs.map (·.1) = ks.map Sum.inr
  | _, _, _, .nil, e => by cases e; rfl
  | _, _, ks, .cons (k := k) hk r t, e => by
    cases k with
    | str s =>
      cases hk
      unfold strK at e
      obtain ⟨ks', e1, rfl⟩ := opt_map e
      rw [List.map_cons, List.map_cons, strK_rel t e1]
    | _ => cases e
theorem str_ok (hx : Here Γ X) (I : Inv X pins σ H s) {W : Wd} {d : D} {v : V} {u : Value} {p : PyData} {Q : VK} (hR : RelH Γ W H) (r : RelD Γ W H d v) (ru : RelV v u) (e : toP (look W.ah d) = some p) (hns : ∀ z, d ≠ .str z) (c1 : p.showable = true) (c2 : p.depth ≤ 64) (c3 : p.shown.length ≤ szl) (q : Q (.str p.shown) H) :
    wpAny (model X.prog X.w) X.A (call (.type "str") [u]) (EP X pins σ Q) X.xe s := by
  have hl : p.shown.length ≤ sizeLine := by rw [← szl_eq]; exact c3
  have hu := hx.units
  have box : ∀ a, u = .ref a → (∃ as, Reads s.heap u p as ∧ sysModules ∉ as) → wpAny (model X.prog X.w) X.A (call (.type "str") [u]) (EP X pins σ Q) X.xe s := by
    rintro a rfl ⟨as, h1, h2⟩
    exact str_of_reads h1 c1 (fun _ => h2) hx.guards (by omega) (fun _ _ h => h) (fun h' t tk hk => ⟨.str _, H, I.kept (t' := tk) hk, ⟨_, rfl⟩, q⟩) hl
  have sn := seen_look hR r
  have hns' : ∀ z, look W.ah d ≠ .str z := fun z => look_nstr (hns z)
  generalize look W.ah d = d' at sn e hns'
  cases sn with
  | rel r =>
    have rd := reads_of hx I _ _ _ _ r e ru
    cases r with
    | non =>
      cases e; cases ru
      exact PySem.P.str_of_none ⟨.str _, H, I.tok _, ⟨_, rfl⟩, q⟩
    | bl b =>
      cases e; cases ru
      exact PySem.P.str_of_bool ⟨.str _, H, I.tok _, ⟨_, rfl⟩, q⟩
    | int i =>
      cases e
      obtain ⟨t, rfl⟩ := ru
      exact PySem.P.str_of_int (by simpa [PyData.showable] using c1) ⟨.str _, H, I.tok _, ⟨_, rfl⟩, q⟩
    | str z => exact absurd rfl (hns' z)
    | tup _ _ => cases ru; exact box _ rfl rd
    | lst _ _ => cases ru; exact box _ rfl rd
    | dct _ _ => cases ru; exact box _ rfl rd
    | scr _ => cases e
    | loc _ => cases e
    | hot _ _ _ _ => cases e
    | err _ _ _ _ _ _ => cases e
    | msg _ _ _ => cases e
  | lst h rl =>
    obtain ⟨ps, e1, rfl⟩ := opt_map (show (toPs _).map PyData.list = _ from e)
    cases ru
    obtain ⟨its, rv, ⟨o, n, ho, hc, _, hd⟩, _⟩ := I.list (show SqL X.K H _ _ from .inl (.inl h))
    obtain ⟨as, hr, hs⟩ := readss_of hx I _ _ ps its rl e1 rv
    refine box _ rfl ⟨_, .list ho hc hd hr, ?_⟩
    simp only [List.mem_cons, not_or]
    exact ⟨fun e => ne_sys hx I h e.symm, hs⟩
  | dct h rk =>
    obtain ⟨ps, e1, rfl⟩ := opt_map (show (toPk _).map PyData.dict = _ from e)
    cases ru
    obtain ⟨_, hn, vs, rv, o, es, ep, ho, hc, hd, _, hp, _⟩ := rd_of I.hok h
    obtain ⟨as, bs, h1, h2, h3⟩ := readsk_of hx I _ _ ps vs rk e1 rv es.toList hp
    refine box _ rfl ⟨_, .dict ho hc.1 hd h1 h2, ?_⟩
    simp only [List.cons_append, List.mem_cons, List.mem_append, not_or]
    exact ⟨fun e => h.elim (fun q => ne_sys hx I q e.symm) fun ⟨_, q⟩ => ne_sys hx I q e.symm, h3⟩
theorem maxI_mem : ∀ (bs : List Int) (b : Int), maxI b bs ∈ b :: bs
  | [], b => by simp [maxI]
  | a :: r, b => by
    have := maxI_mem r (if a > b then a else b)
    unfold maxI
    rcases List.mem_cons.mp this with h | h
    · rw [h]
      split <;> simp
    · exact List.mem_cons_of_mem _ (List.mem_cons_of_mem _ h)
theorem maxI_le : ∀ (bs : List Int) (b y : Int), y ∈ b :: bs → y ≤ maxI b bs
  | [], b, y, h => by simp at h; subst h; exact Int.le_refl _
  | a :: r, b, y, h => by
    unfold maxI
    have top := maxI_le r (if a > b then a else b)
    have t0 := top _ (List.mem_cons_self)
    rcases List.mem_cons.mp h with rfl | h
    · refine Int.le_trans ?_ t0
      split <;> omega
    · rcases List.mem_cons.mp h with rfl | h
      · refine Int.le_trans ?_ t0
        split <;> omega
      · exact top y (List.mem_cons_of_mem _ h)
theorem minI_mem : ∀ (bs : List Int) (b : Int), minI b bs ∈ b :: bs
  | [], b => by simp [minI]
  | a :: r, b => by
    have := minI_mem r (if a < b then a else b)
    unfold minI
    rcases List.mem_cons.mp this with h | h
    · rw [h]
      split <;> simp
    · exact List.mem_cons_of_mem _ (List.mem_cons_of_mem _ h)
theorem minI_le : ∀ (bs : List Int) (b y : Int), y ∈ b :: bs → minI b bs ≤ y
  | [], b, y, h => by simp at h; subst h; exact Int.le_refl _
  | a :: r, b, y, h => by
    unfold minI
    have top := minI_le r (if a < b then a else b)
    have t0 := top _ (List.mem_cons_self)
    rcases List.mem_cons.mp h with rfl | h
    · refine Int.le_trans t0 ?_
      split <;> omega
    · rcases List.mem_cons.mp h with rfl | h
      · refine Int.le_trans t0 ?_
        split <;> omega
      · exact top y (List.mem_cons_of_mem _ h)
theorem callr_prim (hx : Here Γ X) (m : Bool) (p : Prim) : CallR X (primPy p) (rPrim Γ m p) := by
  intro pins s σ H vs us Q I rv ⟨W, ds, r, h', rd, hR, e, hQ⟩
  unfold prim at e
  split at e
  · cases rd with | cons r1 t1 => cases t1; cases r1; cases e; exact call_abs pins s σ H _ us Q I rv ⟨_, rfl, hQ.here hR (.int _)⟩
  · cases rd with | cons r1 t1 => cases t1; cases r1; cases e; exact call_int1 pins s σ H _ us Q I rv (.inl ⟨_, rfl, hQ.here hR (.int _)⟩)
  · cases rd with | cons r1 t1 => cases t1; cases r1; cases e; exact call_int1 pins s σ H _ us Q I rv (.inr ⟨_, rfl, hQ.here hR (.int _)⟩)
  · cases rd with | cons r1 t1 => cases t1; cases r1; cases e; exact call_bool1 pins s σ H _ us Q I rv (.inl ⟨_, rfl, hQ.here hR (.bl _)⟩)
  · cases rd with | cons r1 t1 => cases t1; cases r1; cases e; exact call_bool1 pins s σ H _ us Q I rv (.inr ⟨_, rfl, hQ.here hR (.bl _)⟩)
  · cases rd with | cons r1 t1 => cases t1 with | cons r2 t2 => cases t2; cases r1; cases r2; cases e; exact call_max2 hx.calm pins s σ H _ us Q I rv ⟨_, _, rfl, hQ.here hR (.int _)⟩
  · cases rd with | cons r1 t1 => cases t1 with | cons r2 t2 => cases t2; cases r1; cases r2; cases e; exact call_min2 hx.calm pins s σ H _ us Q I rv ⟨_, _, rfl, hQ.here hR (.int _)⟩
  · obtain ⟨c, e⟩ := of_ifd e
    cases rd with | cons r1 t1 => cases t1; cases r1; cases e; exact call_len_str pins s σ H _ us Q I rv ⟨_, rfl, by rw [← szl_eq]; exact of_decide_eq_true c, hQ.here hR (.int _)⟩
  · cases rd with
    | cons r1 t1 =>
      cases t1
      split at e
      · rename_i xs e1
        cases e
        obtain ⟨p, vs, rfl, h1, h2⟩ := items_rel hR r1 e1
        have l := h2.length
        rw [← hx.K] at h1
        refine call_len_seq pins s σ H _ us Q I rv ⟨p, vs, rfl, h1, ?_⟩
        rw [← l]
        exact hQ.here hR (.int _)
      · split at e
        rotate_left
        · cases e
        rename_i kvs e1
        cases e
        obtain ⟨a, vs, rfl, ra, rk⟩ := seen_dct hR r1 e1
        obtain ⟨u, rfl, ru⟩ := rv.one
        cases ru
        refine d_len I ra fun t s' I' => ⟨.int vs.length, H, I', ⟨t, rfl⟩, ?_⟩
        rw [← ks_len rk]
        exact hQ.here hR (.int _)
  · obtain ⟨c, e⟩ := of_ifd e
    cases rd with
    | cons r1 t1 =>
      cases t1; cases r1
      obtain ⟨u, rfl, ru⟩ := rv.one
      exact list_str_ok hx I ru (of_decide_eq_true c) fun p hp => OkP.mk hR hp (signs_rel _) e hQ
  · cases rd with
    | cons r1 t1 =>
      cases t1
      split at e
      · rename_i xs e1
        obtain ⟨p, vs, rfl, h1, h2⟩ := items_rel hR r1 e1
        rw [← hx.K] at h1
        exact call_list_of pins s σ H _ us Q I rv ⟨p, vs, rfl, h1, fun p hp => OkP.mk hR hp h2 e hQ⟩
      · split at e
        rotate_left
        · cases e
        rename_i kvs e1
        obtain ⟨a, vs, rfl, ra, rk⟩ := seen_dct hR r1 e1
        exact call_listD hx.calm pins s σ H _ us Q I rv ⟨a, vs, rfl, ra, fun p hp => OkP.mk hR hp (keys_rel rk) e hQ⟩
  · cases rd with
    | cons r1 t1 =>
      cases t1
      split at e
      · rename_i kvs e1
        obtain ⟨a, vs, rfl, ra, rk⟩ := seen_dct hR r1 e1
        exact callr_frz call_dictD pins s σ H _ us Q I rv ⟨a, vs, rfl, ra, fun p hp => OkP.mkD hR hp rk e hQ⟩
      · split at e
        rotate_left
        · cases e
        rename_i kvs e1
        obtain ⟨xs, e2, e3⟩ := opt_bind e1
        obtain ⟨a, vs, rfl, h1, h2⟩ := litems_rel hR r1 e2
        obtain ⟨ps, us', rfl, pr, rk⟩ := pairs_rel h2 e3
        rw [← hx.K] at pr
        exact callr_frz (call_dictP hx.calm) pins s σ H _ us Q I rv ⟨a, ps, us', rfl, .inl (.inl h1), pr, fun p hp => OkP.mkD hR hp (merge_rel rk .nil) e hQ⟩
  · split at e
    rotate_left
    · cases e
    rename_i ks e1
    obtain ⟨c, e⟩ := of_ifd e
    obtain ⟨kvs, e2, e3⟩ := opt_bind e1
    cases rd with
    | cons r1 t1 =>
      cases t1
      obtain ⟨a, vs, rfl, ra, rk⟩ := seen_dct hR r1 e2
      refine call_sortedD hx.calm pins s σ H _ us Q I rv ⟨a, vs, ks, rfl, ra, strK_rel rk e3, of_decide_eq_true c, fun ys p hp hs hn => ?_⟩
      rw [sortS_only hp hs]
      exact OkP.mk hR hn (strs_rel _) e hQ
  · split at e
    rotate_left
    · cases e
    rename_i xs e1
    cases rd with
    | cons r1 t1 =>
      cases t1; cases e
      obtain ⟨p, vs, rfl, h1, h2⟩ := items_rel hR r1 e1
      refine call_tuple_of pins s σ H _ us Q I rv ⟨p, vs, rfl, ?_⟩
      rcases h1 with h1 | h1
      · rw [← hx.K] at h1
        exact .inl ⟨h1, fun p hp => hQ.tup hR hp h2⟩
      · exact .inr ⟨by rw [hx.K]; exact h1, hQ.here hR (.tup h1 h2)⟩
  · obtain ⟨c, e⟩ := of_ifd e
    cases rd with | cons r1 t1 => cases t1; cases r1; cases e; exact call_str_int pins s σ H _ us Q I rv ⟨_, rfl, of_decide_eq_true c, hQ.here hR (.str _)⟩
  · cases rd with | cons r1 t1 => cases t1; cases r1; cases e; exact SkE.call_str_str pins s σ H _ us Q I rv ⟨_, rfl, hQ.here hR (.str _)⟩
  · rename_i d hni hns
    split at e
    rotate_left
    · cases e
    rename_i p e1
    obtain ⟨c, e⟩ := of_ifd e
    obtain ⟨c1, c2, c3⟩ := and3 c
    cases rd with
    | cons r1 t1 =>
      cases t1; cases e
      obtain ⟨u, rfl, ru⟩ := rv.one
      exact str_ok hx I hR r1 ru e1 (fun z q => hns z q) c1 (of_decide_eq_true c2) (of_decide_eq_true c3) (hQ.here hR (.str _))
  · split at e
    rotate_left
    · cases e
    rename_i bs e1
    cases rd with
    | cons r1 t1 =>
      cases t1; cases e
      cases r1 with
      | lst h1 r2 =>
        rw [boolL_rel r2 e1] at h1
        exact cr_all hx.calm pins s σ H _ us Q I rv ⟨_, bs, rfl, h1.sq, hQ.here hR (.bl _)⟩
  · split at e
    rotate_left
    · cases e
    rename_i bs e1
    cases rd with
    | cons r1 t1 =>
      cases t1; cases e
      cases r1 with
      | lst h1 r2 =>
        rw [intL_rel r2 e1] at h1
        exact cr_sum hx.calm pins s σ H _ us Q I rv ⟨_, bs, rfl, h1.sq, hQ.here hR (.int _)⟩
  · split at e
    rotate_left
    · cases e
    rename_i b bs e1
    cases e
    cases rd with
    | cons r1 t1 =>
      cases t1
      obtain ⟨xs, e2, e3⟩ := opt_bind e1
      obtain ⟨a, vs, rfl, h1, h2⟩ := litems_rel hR r1 e2
      rw [intL_rel h2 e3] at h1
      refine cr_max hx.calm pins s σ H _ us Q I rv ⟨a, b :: bs, rfl, .inl (.inl h1), Nat.succ_pos _, fun m hm hle => ?_⟩
      have : m = maxI b bs := Int.le_antisymm (maxI_le bs b m hm) (hle _ (maxI_mem bs b))
      subst this
      exact hQ.here hR (.int _)
  · split at e
    rotate_left
    · cases e
    rename_i b bs e1
    cases e
    cases rd with
    | cons r1 t1 =>
      cases t1
      obtain ⟨xs, e2, e3⟩ := opt_bind e1
      obtain ⟨a, vs, rfl, h1, h2⟩ := litems_rel hR r1 e2
      rw [intL_rel h2 e3] at h1
      refine cr_min hx.calm pins s σ H _ us Q I rv ⟨a, b :: bs, rfl, .inl (.inl h1), Nat.succ_pos _, fun m hm hle => ?_⟩
      have : m = minI b bs := Int.le_antisymm (hle _ (minI_mem bs b)) (minI_le bs b m hm)
      subst this
      exact hQ.here hR (.int _)
  · split at e
    rotate_left
    · cases e
    rename_i p e1
    obtain ⟨c, e⟩ := of_ifd e
    obtain ⟨c1, c2, c3⟩ := and3 c
    cases rd with
    | cons r1 t1 =>
      cases t1; cases e
      obtain ⟨u, rfl, ru⟩ := rv.one
      exact repr_ok hx I hR r1 ru e1 c1 (of_decide_eq_true c2) (of_decide_eq_true c3) (hQ.here hR (.str _))
  · cases e
end
end PI
set_option maxRecDepth 100000
set_option maxHeartbeats 1000000
namespace PI
open PySem L2
variable {Γ : Cls0}
section
variable {X : Cx} {pins : List (Addr × Obj)} {σ : St} {H : Hp} {s : Shared}
theorem OkP.put {W : Wd} {n : Nat} {a : Addr} {xs0 ds : List D} {vs0 vs : List V} {r : D} {v : V} {Q : VK} (hR : RelH Γ W H) (hm : W.mu[n]? = some a) (h0 : W.ah[n]? = some (.lst xs0)) (hz : H a = some (.lst vs0)) (rs : RelDs Γ W H ds vs) (rr : RelD Γ W H r v)
    (h : OkP Γ W H (PI.put n ds W.ah) r Q) : Q v (upd H a (.lst vs)) := by
  have x : Ext W H (W.put n (.lst ds)) (upd H a (.lst vs)) := .put hR hm h0 rfl hz (fun _ z => nomatch z) fun _ _ z => nomatch z
  exact h (W.put n (.lst ds)) _ v rfl x (hR.put hm h0 rfl hz (fun _ z => nomatch z) (fun _ _ z => nomatch z) ⟨vs, upd_same, rs.ext x⟩) (rr.ext x)
theorem seqIx {i : Int} {n : Nat} (h0 : 0 ≤ i) (h1 : i < n) : seqIndex? i n = some i.toNat := by
  unfold seqIndex?
  have e : (if i < 0 then i + (n : Int) else i) = i := if_neg (by omega)
  simp only [e]
  rw [if_pos (by simp; omega)]
def methId : Meth → String
  | .append => "list.append"
  | .pop => "list.pop"
  | .popAt => "list.pop"
  | .join => "str.join"
  | .upper => "str.upper"
def rMeth (Γ : Cls0) (k : Meth) : V → List V → Hp → VK → Prop := fun x vs H Q => ∃ W d ds r h', RelD Γ W H d x ∧ RelDs Γ W H ds vs ∧ RelH Γ W H ∧ meth k d ds W.ah = .ok r h' ∧ OkP Γ W H h' r Q
theorem mtr_meth (hx : Here Γ X) (k : Meth) : MtR X (methId k) (rMeth Γ k) := by
  intro pins s σ H x vs v us Q I rx rv ⟨W, d, ds, r, h', rd, rds, hR, e, hQ⟩
  unfold meth at e
  split at e
  · split at e
    · rename_i n y _ ys h0
      obtain ⟨c, e⟩ := of_ifd e
      cases e
      cases rd with
      | loc hm =>
        obtain ⟨vs0, z0, r0⟩ := hR.obj _ _ _ hm h0
        cases rds with
        | cons r1 t1 =>
          cases t1
          have l := r0.length
          exact mt_append pins s σ H _ _ v us Q I rx rv ⟨_, vs0, _, rfl, rfl, z0, by rw [← szl_eq, ← l]; exact of_decide_eq_true c, OkP.put hR hm h0 z0 (r0.append (.cons r1 .nil)) .non hQ⟩
    · cases e
  · split at e
    · rename_i n _ ys h0
      split at e
      · rename_i y hy
        cases e
        cases rd with
        | loc hm =>
          obtain ⟨vs0, z0, r0⟩ := hR.obj _ _ _ hm h0
          cases rds
          have l := r0.length
          obtain ⟨w, hw, rw'⟩ := r0.get hy
          exact mt_pop pins s σ H _ _ v us Q I rx rv ⟨_, vs0, w, rfl, rfl, z0, by rw [← l]; exact hw, OkP.put hR hm h0 z0 r0.dropLast rw' hQ⟩
      · cases e
    · cases e
  · split at e
    · rename_i n i _ ys h0
      obtain ⟨c, e⟩ := of_ifd e
      obtain ⟨c1, c2, c3⟩ := and3 c
      have c1 := of_decide_eq_true c1
      have c2 := of_decide_eq_true c2
      have c3 := of_decide_eq_true c3
      split at e
      · rename_i y hy
        cases e
        cases rd with
        | loc hm =>
          obtain ⟨vs0, z0, r0⟩ := hR.obj _ _ _ hm h0
          cases rds with
          | cons r1 t1 =>
            cases t1; cases r1
            have l := r0.length
            obtain ⟨w, hw, rw'⟩ := r0.get hy
            exact mt_popAt pins s σ H _ _ v us Q I rx rv ⟨_, vs0, i, i.toNat, w, rfl, rfl, z0, by omega, c3, by rw [← l]; exact seqIx c1 c2, hw, OkP.put hR hm h0 z0 (r0.eraseIdx _) rw' hQ⟩
      · cases e
    · cases e
  · split at e
    · rename_i z d' _ ys h0
      split at e
      · rename_i ts h1
        obtain ⟨c, e⟩ := of_ifd e
        cases e; cases rd
        cases rds with
        | cons r1 t1 =>
          cases t1
          obtain ⟨p, ws, rfl, g1, g2⟩ := items_rel hR r1 h0
          rw [strL_rel g2 h1, ← hx.K] at g1
          exact mt_join pins s σ H _ _ v us Q I rx rv ⟨_, p, ts, rfl, rfl, g1, of_decide_eq_true c, hQ.here hR (.str _)⟩
      · cases e
    · cases e
  · obtain ⟨c, e⟩ := of_ifd e
    cases e; cases rd; cases rds
    exact mt_upper pins s σ H _ _ v us Q I rx rv ⟨_, rfl, rfl, of_decide_eq_true c, hQ.here hR (.str _)⟩
  · cases e
theorem methTy_ok {W : Wd} {k : Meth} {d : D} {x : V} (hR : RelH Γ W H) (rd : RelD Γ W H d x) (h : methTy k d W.ah = true) (K : PySem.W.Frag) : (k = .join ∨ k = .upper) ∧ tyV K "str" x H ∨ (k = .append ∨ k = .pop ∨ k = .popAt) ∧ tyV K "list" x H := by
  have lst : ∀ n, d = .loc n → isL (W.ah[n]?) = true → tyV K "list" x H := by
    rintro n rfl h
    cases rd with
    | loc hm =>
      unfold isL at h
      split at h
      · rename_i ys h0
        obtain ⟨vs, z, _⟩ := hR.obj _ _ _ hm h0
        exact .inl ⟨rfl, vs, .inl (.inl z)⟩
      · cases h
  unfold methTy at h
  split at h
  · exact .inr ⟨.inl rfl, lst _ rfl h⟩
  · exact .inr ⟨.inr (.inl rfl), lst _ rfl h⟩
  · exact .inr ⟨.inr (.inr rfl), lst _ rfl h⟩
  · cases rd; exact .inl ⟨.inl rfl, rfl⟩
  · cases rd; exact .inl ⟨.inr rfl, rfl⟩
  · cases h
/-! ### x[i], x[a:b], x[i] = v -/
theorem ixN_eq {α : Type} (xs : List α) (i : Int) : atI xs i = (ixN xs.length i).bind fun j => xs[j]? := rfl
def rIndex (Γ : Cls0) : R2 := fun x y H Q => ∃ W d e r, RelD Γ W H d x ∧ RelD Γ W H e y ∧ RelH Γ W H ∧ index W.ah d e = some r ∧ OkP Γ W H W.ah r Q
theorem ixr_index (hx : Here Γ X) : IxR X (rIndex Γ) := by
  intro value slc pins s σ H x y v u Q I rx ry ⟨W, d, e, r, rd, re, hR, h, hQ⟩ hs
  unfold index at h
  split at h
  · split at h
    · rename_i z k hz
      obtain ⟨j, h1, h2⟩ := opt_bind h
      obtain ⟨c, h3, rfl⟩ := opt_map h2
      cases rd; cases re
      refine ix_str value slc pins s σ H _ _ v u Q I rx ry ⟨z, k, c, rfl, rfl, by rw [← szl_eq]; exact of_decide_eq_true hz, ?_, hQ.here hR (.str _)⟩ hs
      rw [ixN_eq]
      have : z.cps.toList.length = z.length := by simp [Str.length]
      rw [this, h1]
      exact h3
    · cases h
  · rename_i i0 k0 _
    obtain ⟨xs, h0, h⟩ := opt_bind h
    obtain ⟨j, h1, h2⟩ := opt_bind h
    cases re
    obtain ⟨p, ws, rfl, g1, g2⟩ := items_rel hR rd h0
    obtain ⟨w, hw, rw'⟩ := g2.get h2
    have l := g2.length
    have ha : atI ws k0 = some w := by
      rw [ixN_eq, ← l, h1]
      exact hw
    rcases g1 with g1 | g1
    · exact ix_list value slc pins s σ H _ _ v u Q I rx ry ⟨p, ws, _, w, rfl, rfl, by rw [hx.K]; exact g1, ha, hQ.here hR rw'⟩ hs
    · exact ix_tup value slc pins s σ H _ _ v u Q I rx ry ⟨p, ws, _, w, rfl, rfl, by rw [hx.K]; exact g1, ha, hQ.here hR rw'⟩ hs
  · cases h
theorem cut_rel {W : Wd} {ds : List D} {vs : List V} (r : RelDs Γ W H ds vs) (lo hi : Option Int) : RelDs Γ W H (cutL ds lo hi) (cutV vs lo hi) := by
  unfold cutL cutV
  rw [r.length]
  exact (r.drop _).take _
def rSlice (Γ : Cls0) (m : Bool) : V → Option Int → Option Int → Hp → VK → Prop := fun x lo hi H Q => ∃ W d r h', RelD Γ W H d x ∧ RelH Γ W H ∧ slice m d lo hi W.ah = .ok r h' ∧ OkP Γ W H h' r Q
theorem slr_slice (hx : Here Γ X) (m : Bool) : SlR X (rSlice Γ m) := by
  intro pins s σ H x v vl vu lo hi sl Q I rx hs pl pu ⟨W, d, r, h', rd, hR, e, hQ⟩
  unfold slice at e
  split at e
  · obtain ⟨c, e⟩ := of_ifd e
    cases e; cases rd
    exact sl_str pins s σ H _ v vl vu lo hi sl Q I rx hs pl pu ⟨_, rfl, by rw [← szl_eq]; exact of_decide_eq_true c, hQ.here hR (.str _)⟩
  · rename_i xs0
    cases e
    cases rd with
    | tup h1 r1 =>
      refine sl_tupA pins s σ H _ v vl vu lo hi sl Q I rx hs pl pu ⟨_, _, rfl, by rw [hx.K]; exact h1, fun hw => ?_, fun _ p hp => hQ.tup hR hp (cut_rel r1 lo hi)⟩
      have l := r1.length
      have : cutL xs0 lo hi = xs0 := by
        unfold cutL
        rw [l, hw.1, hw.2]
        simp only [List.drop_zero, Nat.sub_zero]
        rw [← l]
        exact List.take_length
      rw [this] at hQ
      exact hQ.here hR (.tup h1 r1)
  · split at e
    · rename_i xs h0
      obtain ⟨p, ws, rfl, g1, g2⟩ := litems_rel hR rd h0
      exact sl_list pins s σ H _ v vl vu lo hi sl Q I rx hs pl pu ⟨p, ws, rfl, .inl (.inl g1), fun q hq => OkP.mk hR hq (cut_rel g2 lo hi) e hQ⟩
    · cases e
/-- what must hold so that a changed heap leads to Q -/
def HpP (Γ : Cls0) (W : Wd) (H : Hp) (h' : AH) (Q : Hp → Prop) : Prop := ∀ (W' : Wd) (H' : Hp), W'.ah = h' → Ext W H W' H' → RelH Γ W' H' → Q H'
def rSetIx (Γ : Cls0) : TSet := fun o i v H Q => ∃ W d e x h', RelD Γ W H d o ∧ RelD Γ W H e i ∧ RelD Γ W H x v ∧ RelH Γ W H ∧ setIx d e x W.ah = some h' ∧ HpP Γ W H h' Q
theorem setIx_list {W : Wd} {d e x : D} {h' : AH} {o i v : V} {Q : Hp → Prop} (hR : RelH Γ W H) (rd : RelD Γ W H d o) (re : RelD Γ W H e i) (rx : RelD Γ W H x v) (h : setIx d e x W.ah = some h') (hQ : HpP Γ W H h' Q) : rSetL o i v H Q := by
  unfold setIx at h
  split at h
  · split at h
    · rename_i n k _ xs h0
      obtain ⟨j, h1, rfl⟩ := opt_map h
      cases re
      cases rd with
      | loc hm =>
        obtain ⟨vs, z, r0⟩ := hR.obj _ _ _ hm h0
        have l := r0.length
        refine ⟨_, vs, k, j, rfl, rfl, z, by rw [← l]; exact h1, ?_⟩
        have x' : Ext W H (W.put n (.lst (xs.set j x))) (upd H _ (.lst (vs.set j v))) := .put hR hm h0 rfl z (fun _ z => nomatch z) fun _ _ z => nomatch z
        exact hQ _ _ rfl x' (hR.put hm h0 rfl z (fun _ z => nomatch z) (fun _ _ z => nomatch z) ⟨_, upd_same, (RelDs.set rx j r0).ext x'⟩)
    · cases h
  · cases h
end
end PI
set_option maxRecDepth 100000
set_option maxHeartbeats 1000000
namespace PI
open PySem L2
variable {Γ : Cls0}
section
variable {X : Cx} {pins : List (Addr × Obj)} {σ : St} {H : Hp} {s : Shared}
def tyN : Ty → String
  | .int => "int"
  | .bool => "bool"
  | .str => "str"
  | .tuple => "tuple"
  | .list => "list"
  | .dict => "dict"
  | .cls _ => "type"
  | .exc _ => "type"
/-- each kind of data has its class -/
inductive Kind : D → String → Prop
  | non : Kind .non "NoneType"
  | bl (b : Bool) : Kind (.bl b) "bool"
  | int (b : Int) : Kind (.int b) "int"
  | str (b : Str) : Kind (.str b) "str"
  | tup (xs : List D) : Kind (.tup xs) "tuple"
  | lst (xs : List D) : Kind (.lst xs) "list"
  | dct (xs : List (D × D)) : Kind (.dct xs) "dict"
theorem kind_of (hK : X.K = Γ.K) {W : Wd} {d : D} {v : V} (h : Seen Γ W H d v) (h1 : ∀ c fs, d ≠ .ins c fs) (h2 : ∀ xs, d ≠ .scr xs) (h3 : ∀ n, d ≠ .loc n) : ∃ n, Kind d n ∧ TyX X.K H v (.type n) := by
  cases h with
  | rel r =>
    cases r with
    | non => exact ⟨_, .non, .base .non⟩
    | bl b => exact ⟨_, .bl b, .base (.bl b)⟩
    | int b => exact ⟨_, .int b, .base (.int b)⟩
    | str b => exact ⟨_, .str b, .base (.str b)⟩
    | tup h r =>
      refine ⟨_, .tup _, ?_⟩
      rw [hK]
      rcases h with (h | ⟨o, h⟩) | ⟨o, its, n, h, hc, _⟩
      · exact .base (.tup h)
      · exact .fTuple h
      · exact .kTuple h hc
    | lst h r => exact ⟨_, .lst _, .base (.lst h.1)⟩
    | dct h r =>
      obtain ⟨⟨o, e⟩, _⟩ := h
      exact ⟨_, .dct _, .fDict e⟩
    | scr h => exact absurd rfl (h2 _)
    | loc h => exact absurd rfl (h3 _)
    | hot _ _ _ _ => exact absurd rfl (h1 _ _)
    | err _ _ _ _ _ _ => exact absurd rfl (h1 _ _)
    | msg _ _ _ => exact absurd rfl (h1 _ _)
  | lst h r => exact ⟨_, .lst _, .base (.lst h)⟩
  | dct h r => exact h.elim (fun e => ⟨_, .dct _, .base (.dK e)⟩) fun ⟨_, e⟩ => ⟨_, .dct _, .fDict e⟩
theorem isTy_ok (hK : X.K = Γ.K) {W : Wd} {d : D} {v : V} {t : Ty} {b : Bool} (ht : ∀ y, t ≠ .exc y) (hR : RelH Γ W H) (rd : RelD Γ W H d v) (h : isTy W.ah d t = some b) : ∃ n, TyX X.K H v (.type n) ∧ PySem.W.kitOne X.K (.type n) (.type (tyN t)) = some b := by
  have sn := seen_look hR rd
  have key : (∀ c fs, look W.ah d ≠ .ins c fs) ∧ (∀ xs, look W.ah d ≠ .scr xs) ∧ (∀ n, look W.ah d ≠ .loc n) := by
    refine ⟨fun c fs e => ?_, fun xs e => ?_, fun n e => ?_⟩ <;> (unfold isTy at h; rw [e] at h; cases t <;> first | exact absurd rfl (ht _) | cases h)
  obtain ⟨n, k, ty⟩ := kind_of hK sn key.1 key.2.1 key.2.2
  refine ⟨n, ty, ?_⟩
  unfold isTy at h
  generalize look W.ah d = d' at k h
  cases k <;> cases t <;> first | exact absurd rfl (ht _) | (cases h; exact kit_ty (by decide +kernel)) | cases h
def rIsTy (Γ : Cls0) (t : Ty) : List V → Hp → VK → Prop := fun vs H Q => ∃ W d v b, vs = [v, .ty (tyN t)] ∧ RelD Γ W H d v ∧ RelH Γ W H ∧ isTy W.ah d t = some b ∧ Q (.bl b) H
theorem callr_isty (hx : Here Γ X) (t : Ty) (ht : ∀ y, t ≠ .exc y) : CallR X (.builtin "isinstance") (rIsTy Γ t) := by
  intro pins s σ H vs us Q I rv ⟨W, d, v, b, e, rd, hR, h, q⟩
  obtain ⟨n, ty, k⟩ := isTy_ok hx.K ht hR rd h
  exact call_isi pins s σ H vs us Q I rv ⟨v, _, _, _, b, e, .ty _, ty, k, q⟩
end
end PI
set_option maxRecDepth 100000
set_option maxHeartbeats 1000000
/-! Expressions: what the small machine gives is what the model gives. -/
namespace PI
open PySem L2
/-- how an error of a class keeps its value: under a name, or not at all -/
structure Cls1 extends Cls0 where
  cP : Nat → Bool
variable (Γ : Cls1) (F : Fn) (Wx : WX)
def Pay (W : Wd) (H : Hp) (c : Nat) (p : D) (od : Option Addr) : Prop :=
  (Γ.cP c = true ∧ ∃ d v, od = some d ∧ H d = some (.xd [(Γ.cF c, v)]) ∧ ¬ W.Live d ∧ RelD Γ.toCls0 W H p v) ∨ (Γ.cP c = false ∧ od = none)
def ExP (W : Wd) (H : Hp) (h' : AH) (c : Nat) (p : D) (E : XK) : Prop := ∀ (W' : Wd) (H' : Hp) (od : Option Addr), W'.ah = h' → Ext W H W' H' → RelH Γ.toCls0 W' H' → Pay Γ W' H' c p od → E (.ref (Γ.cA c)) od H'
def GoD (W : Wd) (H : Hp) (r : Res D) (Q : VK) (E : XK) : Prop := match r with
  | .ok d h' => OkP Γ.toCls0 W H h' d Q
  | .exc c p h' => ExP Γ W H h' c p E
  | .fail => False
def GoDs (W : Wd) (H : Hp) (r : Res (List D)) (Q : List V → Hp → Prop) (E : XK) : Prop := match r with
  | .ok d h' => ∀ (W' : Wd) (H' : Hp) (v : List V), W'.ah = h' → Ext W H W' H' → RelH Γ.toCls0 W' H' → RelDs Γ.toCls0 W' H' d v → Q v H'
  | .exc c p h' => ExP Γ W H h' c p E
  | .fail => False
def GoB (W : Wd) (H : Hp) (r : Res D) (Q : Bool → Hp → Prop) (E : XK) : Prop := match r with
  | .ok (.bl b) h' => ∀ (W' : Wd) (H' : Hp), W'.ah = h' → Ext W H W' H' → RelH Γ.toCls0 W' H' → Q b H'
  | .ok _ _ => False
  | .exc c p h' => ExP Γ W H h' c p E
  | .fail => False
def GoO (W : Wd) (H : Hp) (r : Res (Option Int)) (Q : Option Int → Hp → Prop) (E : XK) : Prop := match r with
  | .ok d h' => ∀ (W' : Wd) (H' : Hp), W'.ah = h' → Ext W H W' H' → RelH Γ.toCls0 W' H' → Q d H'
  | .exc c p h' => ExP Γ W H h' c p E
  | .fail => False
def wE (σ : St) : XK := fun cls d H => Wx cls d σ H
def tE (e : E) : TE := fun σ H Q => ∃ W ρ, RelSt Γ.toCls0 W H ρ σ ∧ RelH Γ.toCls0 W H ∧ GoD Γ W H (evE F e ρ W.ah) Q (wE Wx σ)
def tEs (es : List E) : TA := fun σ H Q => ∃ W ρ, RelSt Γ.toCls0 W H ρ σ ∧ RelH Γ.toCls0 W H ∧ GoDs Γ W H (evEs F es ρ W.ah) Q (wE Wx σ)
def tB (e : E) : TT := fun σ H Q => ∃ W ρ, RelSt Γ.toCls0 W H ρ σ ∧ RelH Γ.toCls0 W H ∧ GoB Γ W H (evE F e ρ W.ah) Q (wE Wx σ)
def tO (e : Option E) : TO := fun σ H Q => ∃ W ρ, RelSt Γ.toCls0 W H ρ σ ∧ RelH Γ.toCls0 W H ∧ GoO Γ W H (evO F e ρ W.ah) Q (wE Wx σ)
variable {Γ F Wx}
section
variable {W W' : Wd} {H H' : Hp}
theorem OkP.ext {Γ : Cls0} {h' : AH} {d : D} {Q : VK} (x : Ext W H W' H') (h : OkP Γ W H h' d Q) : OkP Γ W' H' h' d Q := fun W2 H2 v e y r s => h W2 H2 v e (x.trans y) r s
theorem ExP.ext {h' : AH} {c : Nat} {p : D} {E : XK} (x : Ext W H W' H') (h : ExP Γ W H h' c p E) : ExP Γ W' H' h' c p E := fun W2 H2 v e y r s => h W2 H2 v e (x.trans y) r s
theorem GoD.ext {r : Res D} {Q : VK} {E : XK} (x : Ext W H W' H') (h : GoD Γ W H r Q E) : GoD Γ W' H' r Q E := by
  cases r with
  | ok d h' => exact OkP.ext x h
  | exc c p h' => exact ExP.ext x h
  | fail => exact h
theorem GoDs.ext {r : Res (List D)} {Q : List V → Hp → Prop} {E : XK} (x : Ext W H W' H') (h : GoDs Γ W H r Q E) : GoDs Γ W' H' r Q E := by
  cases r with
  | ok d h' => exact fun W2 H2 v e y r s => h W2 H2 v e (x.trans y) r s
  | exc c p h' => exact ExP.ext x h
  | fail => exact h
theorem GoB.ext {r : Res D} {Q : Bool → Hp → Prop} {E : XK} (x : Ext W H W' H') (h : GoB Γ W H r Q E) : GoB Γ W' H' r Q E := by
  cases r with
  | ok d h' =>
    cases d with
    | bl b => exact fun W2 H2 e y r => h W2 H2 e (x.trans y) r
    | _ => exact h
  | exc c p h' => exact ExP.ext x h
  | fail => exact h
theorem GoO.ext {r : Res (Option Int)} {Q : Option Int → Hp → Prop} {E : XK} (x : Ext W H W' H') (h : GoO Γ W H r Q E) : GoO Γ W' H' r Q E := by
  cases r with
  | ok d h' => exact fun W2 H2 e y r => h W2 H2 e (x.trans y) r
  | exc c p h' => exact ExP.ext x h
  | fail => exact h
/-- an expression first, then the rest -/
theorem bindE {ρ : Rho} {σ : St} {e : E} {f : D → AH → Res D} {Q : VK} {Q1 : VK} (st : RelSt Γ.toCls0 W H ρ σ) (hR : RelH Γ.toCls0 W H) (g : GoD Γ W H ((evE F e ρ W.ah).bind f) Q (wE Wx σ))
    (k : ∀ d W' H' v, Ext W H W' H' → RelH Γ.toCls0 W' H' → RelSt Γ.toCls0 W' H' ρ σ → RelD Γ.toCls0 W' H' d v → GoD Γ W' H' (f d W'.ah) Q (wE Wx σ) → Q1 v H') : tE Γ F Wx e σ H Q1 := by
  refine ⟨W, ρ, st, hR, ?_⟩
  cases r : evE F e ρ W.ah with
  | ok d h' =>
    rw [r] at g
    intro W' H' v e x hR' rd
    subst e
    exact k d W' H' v x hR' (st.ext x) rd (GoD.ext x g)
  | exc c p h' => rw [r] at g; exact g
  | fail => rw [r] at g; exact g
theorem bindEB {ρ : Rho} {σ : St} {e : E} {f : D → AH → Res D} {Q : Bool → Hp → Prop} {Q1 : VK} (st : RelSt Γ.toCls0 W H ρ σ) (hR : RelH Γ.toCls0 W H) (g : GoB Γ W H ((evE F e ρ W.ah).bind f) Q (wE Wx σ))
    (k : ∀ d W' H' v, Ext W H W' H' → RelH Γ.toCls0 W' H' → RelSt Γ.toCls0 W' H' ρ σ → RelD Γ.toCls0 W' H' d v → GoB Γ W' H' (f d W'.ah) Q (wE Wx σ) → Q1 v H') : tE Γ F Wx e σ H Q1 := by
  refine ⟨W, ρ, st, hR, ?_⟩
  cases r : evE F e ρ W.ah with
  | ok d h' =>
    rw [r] at g
    intro W' H' v e x hR' rd
    subst e
    exact k d W' H' v x hR' (st.ext x) rd (GoB.ext x g)
  | exc c p h' => rw [r] at g; exact g
  | fail => rw [r] at g; exact g
theorem bindEs {ρ : Rho} {σ : St} {es : List E} {f : List D → AH → Res D} {Q : VK} {Q1 : List V → Hp → Prop} (st : RelSt Γ.toCls0 W H ρ σ) (hR : RelH Γ.toCls0 W H) (g : GoD Γ W H ((evEs F es ρ W.ah).bind f) Q (wE Wx σ))
    (k : ∀ d W' H' v, Ext W H W' H' → RelH Γ.toCls0 W' H' → RelSt Γ.toCls0 W' H' ρ σ → RelDs Γ.toCls0 W' H' d v → GoD Γ W' H' (f d W'.ah) Q (wE Wx σ) → Q1 v H') : tEs Γ F Wx es σ H Q1 := by
  refine ⟨W, ρ, st, hR, ?_⟩
  cases r : evEs F es ρ W.ah with
  | ok d h' =>
    rw [r] at g
    intro W' H' v e x hR' rd
    subst e
    exact k d W' H' v x hR' (st.ext x) rd (GoD.ext x g)
  | exc c p h' => rw [r] at g; exact g
  | fail => rw [r] at g; exact g
theorem bindL {ρ : Rho} {σ : St} {e : E} {f : D → AH → Res (List D)} {Q : List V → Hp → Prop} {Q1 : VK} (st : RelSt Γ.toCls0 W H ρ σ) (hR : RelH Γ.toCls0 W H) (g : GoDs Γ W H ((evE F e ρ W.ah).bind f) Q (wE Wx σ))
    (k : ∀ d W' H' v, Ext W H W' H' → RelH Γ.toCls0 W' H' → RelSt Γ.toCls0 W' H' ρ σ → RelD Γ.toCls0 W' H' d v → GoDs Γ W' H' (f d W'.ah) Q (wE Wx σ) → Q1 v H') : tE Γ F Wx e σ H Q1 := by
  refine ⟨W, ρ, st, hR, ?_⟩
  cases r : evE F e ρ W.ah with
  | ok d h' =>
    rw [r] at g
    intro W' H' v e x hR' rd
    subst e
    exact k d W' H' v x hR' (st.ext x) rd (GoDs.ext x g)
  | exc c p h' => rw [r] at g; exact g
  | fail => rw [r] at g; exact g
theorem bindLs {ρ : Rho} {σ : St} {e : List E} {f : List D → AH → Res (List D)} {Q : List V → Hp → Prop} {Q1 : List V → Hp → Prop} (st : RelSt Γ.toCls0 W H ρ σ) (hR : RelH Γ.toCls0 W H) (g : GoDs Γ W H ((evEs F e ρ W.ah).bind f) Q (wE Wx σ))
    (k : ∀ d W' H' v, Ext W H W' H' → RelH Γ.toCls0 W' H' → RelSt Γ.toCls0 W' H' ρ σ → RelDs Γ.toCls0 W' H' d v → GoDs Γ W' H' (f d W'.ah) Q (wE Wx σ) → Q1 v H') : tEs Γ F Wx e σ H Q1 := by
  refine ⟨W, ρ, st, hR, ?_⟩
  cases r : evEs F e ρ W.ah with
  | ok d h' =>
    rw [r] at g
    intro W' H' v e x hR' rd
    subst e
    exact k d W' H' v x hR' (st.ext x) rd (GoDs.ext x g)
  | exc c p h' => rw [r] at g; exact g
  | fail => rw [r] at g; exact g
theorem bindO {ρ : Rho} {σ : St} {e : Option E} {f : Option Int → AH → Res D} {Q : VK} {Q1 : Option Int → Hp → Prop} (st : RelSt Γ.toCls0 W H ρ σ) (hR : RelH Γ.toCls0 W H) (g : GoD Γ W H ((evO F e ρ W.ah).bind f) Q (wE Wx σ))
    (k : ∀ d W' H', Ext W H W' H' → RelH Γ.toCls0 W' H' → RelSt Γ.toCls0 W' H' ρ σ → GoD Γ W' H' (f d W'.ah) Q (wE Wx σ) → Q1 d H') : tO Γ F Wx e σ H Q1 := by
  refine ⟨W, ρ, st, hR, ?_⟩
  cases r : evO F e ρ W.ah with
  | ok d h' =>
    rw [r] at g
    intro W' H' e x hR'
    subst e
    exact k d W' H' x hR' (st.ext x) (GoD.ext x g)
  | exc c p h' => rw [r] at g; exact g
  | fail => rw [r] at g; exact g
end
theorem peImp {X : Cx} {e : Expr} {t t' : TE} (h : PE X e t) (k : ∀ σ H Q, t' σ H Q → t σ H Q) : PE X e t' := ⟨fun pins s σ H Q I q => h.run pins s σ H Q I (k σ H Q q)⟩
theorem ptImp {X : Cx} {e : Expr} {t t' : TT} (h : PT X e t) (k : ∀ σ H Q, t' σ H Q → t σ H Q) : PT X e t' := ⟨fun pins s σ H Q I q => h.run pins s σ H Q I (k σ H Q q)⟩
theorem pwImp {X : Cx} {e : Expr} {t t' : TT} (h : PW X e t) (k : ∀ σ H Q, t' σ H Q → t σ H Q) : PW X e t' := ⟨fun w pins s σ H Q I q => h.run w pins s σ H Q I (k σ H Q q)⟩
theorem paImp {X : Cx} {e : List Expr} {t t' : TA} (h : PA X e t) (k : ∀ σ H Q, t' σ H Q → t σ H Q) : PA X e t' := ⟨fun w pins s σ H Q I q => h.run w pins s σ H Q I (k σ H Q q)⟩
theorem poImp {X : Cx} {e : Option Expr} {t t' : TO} (h : PO X e t) (k : ∀ σ H Q, t' σ H Q → t σ H Q) : PO X e t' := ⟨fun pins s σ H Q I q => h.run pins s σ H Q I (k σ H Q q)⟩
theorem peOr {X : Cx} {e : Expr} {t t' : TE} (h : PE X e t) (h' : PE X e t') : PE X e (fun σ H Q => t σ H Q ∨ t' σ H Q) := ⟨fun pins s σ H Q I q => q.elim (h.run pins s σ H Q I) (h'.run pins s σ H Q I)⟩
/-! ### nothing raises here -/
theorem mk_noexc {m : Bool} {xs : List D} {h : AH} {c : Nat} {p : D} {h' : AH} (z : mk m xs h = .exc c p h') : False := by
  unfold mk at z
  split at z <;> cases z
theorem bin2_noexc {m : Bool} {o : Op2} {x y : D} {h : AH} {c : Nat} {p : D} {h' : AH} (z : bin2 m o x y h = .exc c p h') : False := by
  unfold bin2 at z
  repeat' split at z
  all_goals first | exact mk_noexc z | cases z
theorem mkD_noexc {m : Bool} {xs : List (D × D)} {h : AH} {c : Nat} {p : D} {h' : AH} (z : mkD m xs h = .exc c p h') : False := by
  unfold mkD at z
  split at z <;> cases z
theorem prim_noexc {m : Bool} {o : Prim} {x : List D} {h : AH} {c : Nat} {p : D} {h' : AH} (z : prim m o x h = .exc c p h') : False := by
  unfold prim at z
  repeat' split at z
  all_goals first | exact mk_noexc z | exact mkD_noexc z | cases z
theorem meth_noexc {o : Meth} {d : D} {x : List D} {h : AH} {c : Nat} {p : D} {h' : AH} (z : meth o d x h = .exc c p h') : False := by
  unfold meth at z
  repeat' split at z
  all_goals cases z
theorem slice_noexc {m : Bool} {d : D} {l u : Option Int} {h : AH} {c : Nat} {p : D} {h' : AH} (z : slice m d l u h = .exc c p h') : False := by
  unfold slice at z
  repeat' split at z
  all_goals first | exact mk_noexc z | cases z
theorem GoD.val {W : Wd} {H : Hp} {r : Res D} {Q : VK} {E : XK} (h : GoD Γ W H r Q E) (n : ∀ c p h', r ≠ .exc c p h') : ∃ d h', r = .ok d h' ∧ OkP Γ.toCls0 W H h' d Q := by
  cases r with
  | ok d h' => exact ⟨d, h', rfl, h⟩
  | exc c p h' => exact absurd rfl (n c p h')
  | fail => exact h.elim
theorem GoD.if_ {W : Wd} {H : Hp} {b : Bool} {r : Res D} {Q : VK} {E : XK} (h : GoD Γ W H (if b = true then r else .fail) Q E) : b = true ∧ GoD Γ W H r Q E := by
  split at h
  · exact ⟨by assumption, h⟩
  · exact h.elim
theorem GoD.of {α : Type} {W : Wd} {H : Hp} {o : Option α} {f : α → AH → Res D} {Q : VK} {E : XK} (h : GoD Γ W H ((Res.of o W.ah).bind f) Q E) : ∃ a, o = some a ∧ GoD Γ W H (f a W.ah) Q E := by
  cases o with
  | none => exact h.elim
  | some a => exact ⟨a, rfl, h⟩
theorem GoB.of {α : Type} {W : Wd} {H : Hp} {o : Option α} {f : α → AH → Res D} {Q : Bool → Hp → Prop} {E : XK} (h : GoB Γ W H ((Res.of o W.ah).bind f) Q E) : ∃ a, o = some a ∧ GoB Γ W H (f a W.ah) Q E := by
  cases o with
  | none => exact h.elim
  | some a => exact ⟨a, rfl, h⟩
/-! ### the expressions -/
section
variable {X : Cx} {a b c : Expr} {ia ib ic : E} {pos : Pos}
theorem s_var {i : Nat} {x : Str} (hN : X.N[i]? = some x) (hv : Vis X.env.scope x) (h1 : (x == ("__debug__" : Str)) = false) (h2 : (x == ("__classdict__" : Str)) = false) : PE X (.Name x pos) (tE Γ F Wx (.var i)) := by
  refine peImp (pe_var hN hv h1 h2) fun σ H Q ⟨W, ρ, st, hR, g⟩ => ?_
  unfold evE at g
  split at g
  · rename_i d e
    obtain ⟨v, h3, h4⟩ := st.at_ _ _ e
    exact ⟨v, h3, OkP.here hR g h4⟩
  · exact g.elim
theorem s_lit {v : V} {d : D} (h : PE X a (tC v)) (r : ∀ W H, RelD Γ.toCls0 W H d v) : PE X a (tE Γ F Wx (.cst d)) := by
  refine peImp h fun σ H Q ⟨W, ρ, st, hR, g⟩ => ?_
  exact OkP.here hR g (r W H)
theorem s_bin (hx : Here Γ.toCls0 X) (m : Bool) (o : Op2) (ha : PE X a (tE Γ F Wx ia)) (hb : PE X b (tE Γ F Wx ib)) : PE X (.BinOp a (opPy o) b pos) (tE Γ F Wx (.bin m o ia ib)) := by
  refine peImp (pe_op (opr_bin hx.K m o) ha hb) fun σ H Q ⟨W, ρ, st, hR, g⟩ => ?_
  unfold evE at g
  refine bindE st hR g fun d W1 H1 v x1 hR1 st1 rd g1 => bindE st1 hR1 g1 fun e W2 H2 u x2 hR2 st2 re g2 => ?_
  obtain ⟨r, h', e1, q⟩ := g2.val fun c p h' => bin2_noexc
  exact ⟨W2, d, e, r, h', rd.ext x2, re, hR2, e1, q⟩
theorem s_neg (ha : PE X a (tE Γ F Wx ia)) : PE X (.UnaryOp .USub a pos) (tE Γ F Wx (.neg ia)) := by
  refine peImp (pe_un un_neg ha) fun σ H Q ⟨W, ρ, st, hR, g⟩ => ?_
  unfold evE at g
  refine bindE st hR g fun d W1 H1 v x1 hR1 st1 rd g1 => ?_
  split at g1
  · cases rd
    exact ⟨_, rfl, OkP.here hR1 g1 (.int _)⟩
  · exact g1.elim
theorem s_not (ha : PE X a (tE Γ F Wx ia)) : PE X (.UnaryOp .Not a pos) (tE Γ F Wx (.not ia)) := by
  refine peImp (pe_not ha) fun σ H Q ⟨W, ρ, st, hR, g⟩ => ?_
  unfold evE at g
  refine bindE st hR g fun d W1 H1 v x1 hR1 st1 rd g1 => ?_
  split at g1
  · cases rd
    exact ⟨_, rfl, OkP.here hR1 g1 (.bl _)⟩
  · exact g1.elim
theorem s_one {op : BoolOp} (ha : PE X a (tE Γ F Wx ia)) : PE X (.BoolOp op [a] pos) (tE Γ F Wx ia) := pe_one ha
theorem s_and {rest : List Expr} (ha : PE X a (tE Γ F Wx ia)) (hb : PE X (.BoolOp .And (b :: rest) pos) (tE Γ F Wx ib)) : PE X (.BoolOp .And (a :: b :: rest) pos) (tE Γ F Wx (.and ia ib)) := by
  refine peImp (pe_and ha hb) fun σ H Q ⟨W, ρ, st, hR, g⟩ => ?_
  unfold evE at g
  refine bindE st hR g fun d W1 H1 v x1 hR1 st1 rd g1 => ?_
  split at g1
  · cases rd; exact ⟨true, rfl, by rw [if_pos rfl]; exact ⟨W1, ρ, st1, hR1, g1⟩⟩
  · cases rd; exact ⟨false, rfl, by rw [if_neg Bool.false_ne_true]; exact OkP.here hR1 g1 (.bl _)⟩
  · exact g1.elim
theorem s_or {rest : List Expr} (ha : PE X a (tE Γ F Wx ia)) (hb : PE X (.BoolOp .Or (b :: rest) pos) (tE Γ F Wx ib)) : PE X (.BoolOp .Or (a :: b :: rest) pos) (tE Γ F Wx (.or ia ib)) := by
  refine peImp (pe_or ha hb) fun σ H Q ⟨W, ρ, st, hR, g⟩ => ?_
  unfold evE at g
  refine bindE st hR g fun d W1 H1 v x1 hR1 st1 rd g1 => ?_
  split at g1
  · cases rd; exact ⟨true, rfl, by rw [if_pos rfl]; exact OkP.here hR1 g1 (.bl _)⟩
  · cases rd; exact ⟨false, rfl, by rw [if_neg Bool.false_ne_true]; exact ⟨W1, ρ, st1, hR1, g1⟩⟩
  · exact g1.elim
theorem bindT {W : Wd} {H : Hp} {ρ : Rho} {σ : St} {e : E} {f : D → AH → Res D} {Q : VK} {Q1 : Bool → Hp → Prop} (st : RelSt Γ.toCls0 W H ρ σ) (hR : RelH Γ.toCls0 W H) (g : GoD Γ W H ((evE F e ρ W.ah).bind f) Q (wE Wx σ))
    (hf : ∀ d h, (∀ b, d ≠ .bl b) → f d h = .fail)
    (k : ∀ b W' H', Ext W H W' H' → RelH Γ.toCls0 W' H' → RelSt Γ.toCls0 W' H' ρ σ → GoD Γ W' H' (f (.bl b) W'.ah) Q (wE Wx σ) → Q1 b H') : tB Γ F Wx e σ H Q1 := by
  refine ⟨W, ρ, st, hR, ?_⟩
  cases r : evE F e ρ W.ah with
  | ok d h' =>
    rw [r] at g
    have g : GoD Γ W H (f d h') Q (wE Wx σ) := g
    by_cases hd : ∃ b, d = .bl b
    · obtain ⟨b, rfl⟩ := hd
      intro W' H' e x hR'
      subst e
      exact k b W' H' x hR' (st.ext x) (GoD.ext x g)
    · rw [hf d h' fun b z => hd ⟨b, z⟩] at g
      exact g.elim
  | exc c p h' => rw [r] at g; exact g
  | fail => rw [r] at g; exact g
theorem s_ite (hc : PT X c (tB Γ F Wx ic)) (ha : PE X a (tE Γ F Wx ia)) (hb : PE X b (tE Γ F Wx ib)) : PE X (.IfExp c a b pos) (tE Γ F Wx (.ite ic ia ib)) := by
  refine peImp (pe_ifExp hc ha hb) fun σ H Q ⟨W, ρ, st, hR, g⟩ => ?_
  unfold evE at g
  refine bindT st hR g (fun d h n => ?_) fun k W1 H1 x1 hR1 st1 g1 => ?_
  · cases d with
    | bl b => exact absurd rfl (n b)
    | _ => rfl
  · cases k with
    | true => rw [if_pos rfl]; exact ⟨W1, ρ, st1, hR1, g1⟩
    | false => rw [if_neg Bool.false_ne_true]; exact ⟨W1, ρ, st1, hR1, g1⟩
theorem s_cmp (hx : Here Γ.toCls0 X) (o : Cmp) (ha : PE X a (tE Γ F Wx ia)) (hb : PE X b (tE Γ F Wx ib)) (hm : behindInMarks (cmpPy o) b = false) : PE X (.Compare a [cmpPy o] [b] pos) (tE Γ F Wx (.cmp o ia ib)) := by
  refine peImp (pe_cmpR (opr_cmp hx o) ha hb hm) fun σ H Q ⟨W, ρ, st, hR, g⟩ => ?_
  unfold evE at g
  refine bindE st hR g fun d W1 H1 v x1 hR1 st1 rd g1 => bindE st1 hR1 g1 fun e W2 H2 u x2 hR2 st2 re g2 => ?_
  obtain ⟨k, e1, q⟩ := g2.of
  exact ⟨W2, d, e, k, rd.ext x2, re, hR2, e1, OkP.here hR2 q (.bl _)⟩
theorem t_cmp (hx : Here Γ.toCls0 X) (o : Cmp) (ha : PE X a (tE Γ F Wx ia)) (hb : PE X b (tE Γ F Wx ib)) (hm : behindInMarks (cmpPy o) b = false) : PT X (.Compare a [cmpPy o] [b] pos) (tB Γ F Wx (.cmp o ia ib)) := by
  refine ptImp (pt_cmpR (opr_cmp hx o) ha hb hm) fun σ H Q ⟨W, ρ, st, hR, g⟩ => ?_
  unfold evE at g
  refine bindEB st hR g fun d W1 H1 v x1 hR1 st1 rd g1 => bindEB st1 hR1 g1 fun e W2 H2 u x2 hR2 st2 re g2 => ?_
  obtain ⟨k, e1, q⟩ := g2.of
  exact ⟨W2, d, e, k, rd.ext x2, re, hR2, e1, k, rfl, q W2 H2 rfl (.refl _ _) hR2⟩
theorem s_cmp2 (hx : Here Γ.toCls0 X) (o p : Cmp) (ha : PE X a (tE Γ F Wx ia)) (hb : PE X b (tE Γ F Wx ib)) (hc : PE X c (tE Γ F Wx ic)) (hm : lastMarks [cmpPy o, cmpPy p] [b, c] = false) : PE X (.Compare a [cmpPy o, cmpPy p] [b, c] pos) (tE Γ F Wx (.cmp2 o p ia ib ic)) := by
  refine peImp (pe_chain (opr_cmp hx o) (opr_cmp hx p) ha hb hc hm) fun σ H Q ⟨W, ρ, st, hR, g⟩ => ?_
  unfold evE at g
  refine bindE st hR g fun d W1 H1 v x1 hR1 st1 rd g1 => bindE st1 hR1 g1 fun e W2 H2 u x2 hR2 st2 re g2 => ?_
  obtain ⟨k, e1, g3⟩ := g2.of
  refine ⟨W2, d, e, k, rd.ext x2, re, hR2, e1, k, rfl, ?_⟩
  cases k with
  | true =>
    rw [if_pos rfl]
    refine bindE st2 hR2 g3 fun z W3 H3 w x3 hR3 st3 rz g4 => ?_
    obtain ⟨j, e2, q⟩ := g4.of
    exact ⟨W3, e, z, j, re.ext x3, rz, hR3, e2, OkP.here hR3 q (.bl _)⟩
  | false =>
    rw [if_neg Bool.false_ne_true]
    exact OkP.here hR2 g3 (.bl _)
theorem t_cmp2 (hx : Here Γ.toCls0 X) (o p : Cmp) (ha : PE X a (tE Γ F Wx ia)) (hb : PE X b (tE Γ F Wx ib)) (hc : PE X c (tE Γ F Wx ic)) (hm : lastMarks [cmpPy o, cmpPy p] [b, c] = false) : PT X (.Compare a [cmpPy o, cmpPy p] [b, c] pos) (tB Γ F Wx (.cmp2 o p ia ib ic)) := by
  refine ptImp (pt_chain (opr_cmp hx o) (opr_cmp hx p) ha hb hc hm) fun σ H Q ⟨W, ρ, st, hR, g⟩ => ?_
  unfold evE at g
  refine bindEB st hR g fun d W1 H1 v x1 hR1 st1 rd g1 => bindEB st1 hR1 g1 fun e W2 H2 u x2 hR2 st2 re g2 => ?_
  obtain ⟨k, e1, g3⟩ := g2.of
  refine ⟨W2, d, e, k, rd.ext x2, re, hR2, e1, k, rfl, ?_⟩
  cases k with
  | true =>
    rw [if_pos rfl]
    refine bindEB st2 hR2 g3 fun z W3 H3 w x3 hR3 st3 rz g4 => ?_
    obtain ⟨j, e2, q⟩ := g4.of
    exact ⟨W3, e, z, j, re.ext x3, rz, hR3, e2, j, rfl, q W3 H3 rfl (.refl _ _) hR3⟩
  | false =>
    rw [if_neg Bool.false_ne_true]
    exact ⟨false, rfl, g3 W2 H2 rfl (.refl _ _) hR2⟩
end
end PI
set_option maxRecDepth 100000
set_option maxHeartbeats 1000000
namespace PI
open PySem L2
variable {Γ : Cls1} {F : Fn} {Wx : WX}
section
variable {X : Cx} {a b c : Expr} {ia ib ic : E} {pos : Pos} {es : List Expr} {is : List E}
theorem s_nil : PA X [] (tEs Γ F Wx []) := paImp pa_nil fun σ H Q ⟨W, ρ, st, hR, g⟩ => g W H [] rfl (.refl _ _) hR .nil
theorem s_cons (ha : PE X a (tE Γ F Wx ia)) (hes : PA X es (tEs Γ F Wx is)) (hs : starEach (a :: es) X.env = (false, eval a X.env) :: starEach es X.env) : PA X (a :: es) (tEs Γ F Wx (ia :: is)) := by
  refine paImp (pa_cons ha hes hs) fun σ H Q ⟨W, ρ, st, hR, g⟩ => ?_
  unfold evEs at g
  exact bindL st hR g fun d W1 H1 v x1 hR1 st1 rd g1 => bindLs st1 hR1 g1 fun e W2 H2 u x2 hR2 st2 re g2 => g2 W2 H2 _ rfl (.refl _ _) hR2 (.cons (rd.ext x2) re)
theorem s_tup {k : Nat} (hes : PA X es (tEs Γ F Wx is)) : PE X (.Tuple es k pos) (tE Γ F Wx (.tup is)) := by
  refine peImp (pe_tup hes) fun σ H Q ⟨W, ρ, st, hR, g⟩ => ?_
  unfold evE at g
  refine bindEs st hR g fun d W1 H1 v x1 hR1 st1 rd g1 => ?_
  obtain ⟨hc, g2⟩ := g1.if_
  exact ⟨by rw [← szl_eq, ← rd.length]; exact of_decide_eq_true hc, fun p hp => OkP.tup hR1 hp rd g2⟩
theorem s_lst (m : Bool) (hes : PA X es (tEs Γ F Wx is)) : PE X (.List es pos) (tE Γ F Wx (.lst m is)) := by
  refine peImp (pe_lst hes) fun σ H Q ⟨W, ρ, st, hR, g⟩ => ?_
  unfold evE at g
  refine bindEs st hR g fun d W1 H1 v x1 hR1 st1 rd g1 => ?_
  obtain ⟨hc, g2⟩ := g1.if_
  obtain ⟨r, h', e1, q⟩ := g2.val fun c p h' => mk_noexc
  exact ⟨by rw [← szl_eq, ← rd.length]; exact of_decide_eq_true hc, fun p hp => OkP.mk hR1 hp rd e1 q⟩
theorem s_idx (hx : Here Γ.toCls0 X) (ha : PE X a (tE Γ F Wx ia)) (hb : PE X b (tE Γ F Wx ib)) (hs : PlainIx b) : PE X (.Subscript a b pos) (tE Γ F Wx (.idx ia ib)) := by
  refine peImp (pe_ix (ixr_index hx) ha hb hs) fun σ H Q ⟨W, ρ, st, hR, g⟩ => ?_
  unfold evE at g
  refine bindE st hR g fun d W1 H1 v x1 hR1 st1 rd g1 => bindE st1 hR1 g1 fun e W2 H2 u x2 hR2 st2 re g2 => ?_
  cases r : index W2.ah d e with
  | none => rw [r] at g2; exact g2.elim
  | some k => rw [r] at g2; exact ⟨W2, d, e, k, rd.ext x2, re, hR2, r, g2⟩
theorem s_po_none : PO X none (tO Γ F Wx none) := poImp po_none fun σ H Q ⟨W, ρ, st, hR, g⟩ => g W H rfl (.refl _ _) hR
theorem s_po (ha : PE X a (tE Γ F Wx ia)) : PO X (some a) (tO Γ F Wx (some ia)) := by
  refine poImp (po_some ha) fun σ H Q ⟨W, ρ, st, hR, g⟩ => ?_
  unfold evO at g
  refine ⟨W, ρ, st, hR, ?_⟩
  cases r : evE F ia ρ W.ah with
  | ok d h' =>
    rw [r] at g
    intro W' H' v e x hR' rd
    cases d with
    | int i =>
      cases rd
      exact ⟨i, rfl, g W' H' e x hR'⟩
    | _ => exact g.elim
  | exc c p h' => rw [r] at g; exact g
  | fail => rw [r] at g; exact g
theorem s_slice (hx : Here Γ.toCls0 X) (m : Bool) {lo hi : Option Expr} {il ih : Option E} {p2 : Pos} (ha : PE X a (tE Γ F Wx ia)) (hl : PO X lo (tO Γ F Wx il)) (hh : PO X hi (tO Γ F Wx ih)) : PE X (.Subscript a (.Slice lo hi none p2) pos) (tE Γ F Wx (.slice m ia il ih)) := by
  refine peImp (pe_slice (slr_slice hx m) ha hl hh) fun σ H Q ⟨W, ρ, st, hR, g⟩ => ?_
  unfold evE at g
  refine bindE st hR g fun d W1 H1 v x1 hR1 st1 rd g1 => bindO st1 hR1 g1 fun l W2 H2 x2 hR2 st2 g2 => bindO st2 hR2 g2 fun u W3 H3 x3 hR3 st3 g3 => ?_
  obtain ⟨r, h', e1, q⟩ := g3.val fun c p h' => slice_noexc
  exact ⟨W3, d, r, h', (rd.ext x2).ext x3, hR3, e1, q⟩
/-! ### built-in functions and methods -/
def noStar : Expr → Bool
  | .Starred _ _ => false
  | _ => true
theorem star_cons {env : Env} (h : noStar a = true) : starEach (a :: es) env = (false, eval a env) :: starEach es env := by
  cases a <;> first | rfl | cases h
theorem star_plain {env : Env} : ∀ {es : List Expr}, es.all noStar = true → starEach es env = es.map fun e => (false, eval e env)
  | [], _ => rfl
  | a :: es, h => by
    rw [List.all_cons, Bool.and_eq_true] at h
    rw [star_cons h.1, star_plain h.2, List.map_cons]
theorem back_any {env : Env} (h : es.all noStar = true) : (backTo pos (starEach es env)).any (·.1) = false := by
  rw [star_plain h]
  induction es with
  | nil => rfl
  | cons a es ih =>
    rw [List.all_cons, Bool.and_eq_true] at h
    have := ih h.2
    simp only [backTo, List.map_map, List.any_map, List.map_cons, List.any_cons] at this ⊢
    exact this
theorem back_all {env : Env} (h : es.all noStar = true) : (backTo pos (starEach es env)).all (fun x => !x.1) = true := by
  rw [star_plain h]
  induction es with
  | nil => rfl
  | cons a es ih =>
    rw [List.all_cons, Bool.and_eq_true] at h
    have := ih h.2
    simp only [backTo, List.map_map, List.all_map, List.map_cons, List.all_cons] at this ⊢
    exact this
def primName : Prim → Str
  | .dict => "dict"
  | .abs => "abs"
  | .int => "int"
  | .len => "len"
  | .list => "list"
  | .tuple => "tuple"
  | .max2 => "max"
  | .min2 => "min"
  | .repr => "repr"
  | .str => "str"
  | .all => "all"
  | .bool => "bool"
  | .sum => "sum"
  | .sorted => "sorted"
  | .max1 => "max"
  | .min1 => "min"
theorem s_primB (hx : Here Γ.toCls0 X) (m : Bool) (p : Prim) {id : String} {np : Pos} (e1 : primPy p = .builtin id) (e2 : bootBuiltins (primName p) = some (.builtin id)) (e3 : primName p ≠ "__name__") (e4 : (primName p == ("__debug__" : Str)) = false)
    (hg : Gl X (primName p)) (hm : X.mg (primName p) = none) (hes : PA X (a :: es) (tEs Γ F Wx is)) (hn : (a :: es).all noStar = true) : PE X (.Call (.Name (primName p) np) (a :: es) [] pos) (tE Γ F Wx (.prim m p is)) := by
  have cr := callr_prim (Γ := Γ.toCls0) hx m p
  rw [e1] at cr
  have hn' := hn
  rw [List.all_cons, Bool.and_eq_true] at hn'
  refine peImp (pe_callB cr hg hm e2 hes e3 e4 (star_cons hn'.1) (back_any hn'.2)) fun σ H Q ⟨W, ρ, st, hR, g⟩ => ?_
  unfold evE at g
  refine bindEs st hR g fun d W1 H1 v x1 hR1 st1 rd g1 => ?_
  obtain ⟨r, h', e1, q⟩ := g1.val fun c p h' => prim_noexc
  exact ⟨W1, d, r, h', rd, hR1, e1, q⟩
theorem s_primT (hx : Here Γ.toCls0 X) (m : Bool) (p : Prim) {id : String} {np : Pos} (e1 : primPy p = .type id) (e2 : bootBuiltins (primName p) = some (.type id)) (e3 : primName p ≠ "__name__") (e4 : (primName p == ("__debug__" : Str)) = false)
    (hg : Gl X (primName p)) (hm : X.mg (primName p) = none) (hes : PA X (a :: es) (tEs Γ F Wx is)) (hn : (a :: es).all noStar = true) : PE X (.Call (.Name (primName p) np) (a :: es) [] pos) (tE Γ F Wx (.prim m p is)) := by
  have cr := callr_prim (Γ := Γ.toCls0) hx m p
  rw [e1] at cr
  have hn' := hn
  rw [List.all_cons, Bool.and_eq_true] at hn'
  refine peImp (pe_callTy cr hg hm e2 hes e3 e4 (star_cons hn'.1) (back_any hn'.2)) fun σ H Q ⟨W, ρ, st, hR, g⟩ => ?_
  unfold evE at g
  refine bindEs st hR g fun d W1 H1 v x1 hR1 st1 rd g1 => ?_
  obtain ⟨r, h', e1, q⟩ := g1.val fun c p h' => prim_noexc
  exact ⟨W1, d, r, h', rd, hR1, e1, q⟩
theorem s_prim (hx : Here Γ.toCls0 X) (m : Bool) (p : Prim) {np : Pos} (hg : Gl X (primName p)) (hm : X.mg (primName p) = none) (hes : PA X (a :: es) (tEs Γ F Wx is)) (hn : (a :: es).all noStar = true) : PE X (.Call (.Name (primName p) np) (a :: es) [] pos) (tE Γ F Wx (.prim m p is)) := by
  cases p with
  | dict => exact s_primT hx m .dict rfl (by decide +kernel) (by decide +kernel) (by decide +kernel) hg hm hes hn
  | abs => exact s_primB hx m .abs rfl (by decide +kernel) (by decide +kernel) (by decide +kernel) hg hm hes hn
  | int => exact s_primT hx m .int rfl (by decide +kernel) (by decide +kernel) (by decide +kernel) hg hm hes hn
  | len => exact s_primB hx m .len rfl (by decide +kernel) (by decide +kernel) (by decide +kernel) hg hm hes hn
  | list => exact s_primT hx m .list rfl (by decide +kernel) (by decide +kernel) (by decide +kernel) hg hm hes hn
  | tuple => exact s_primT hx m .tuple rfl (by decide +kernel) (by decide +kernel) (by decide +kernel) hg hm hes hn
  | max2 => exact s_primB hx m .max2 rfl (by decide +kernel) (by decide +kernel) (by decide +kernel) hg hm hes hn
  | min2 => exact s_primB hx m .min2 rfl (by decide +kernel) (by decide +kernel) (by decide +kernel) hg hm hes hn
  | repr => exact s_primB hx m .repr rfl (by decide +kernel) (by decide +kernel) (by decide +kernel) hg hm hes hn
  | str => exact s_primT hx m .str rfl (by decide +kernel) (by decide +kernel) (by decide +kernel) hg hm hes hn
  | all => exact s_primB hx m .all rfl (by decide +kernel) (by decide +kernel) (by decide +kernel) hg hm hes hn
  | bool => exact s_primT hx m .bool rfl (by decide +kernel) (by decide +kernel) (by decide +kernel) hg hm hes hn
  | sum => exact s_primB hx m .sum rfl (by decide +kernel) (by decide +kernel) (by decide +kernel) hg hm hes hn
  | sorted => exact s_primB hx m .sorted rfl (by decide +kernel) (by decide +kernel) (by decide +kernel) hg hm hes hn
  | max1 => exact s_primB hx m .max1 rfl (by decide +kernel) (by decide +kernel) (by decide +kernel) hg hm hes hn
  | min1 => exact s_primB hx m .min1 rfl (by decide +kernel) (by decide +kernel) (by decide +kernel) hg hm hes hn
theorem s_isi (hx : Here Γ.toCls0 X) (t : Ty) (hte : ∀ y, t ≠ .exc y) {np cp : Pos} {T : Str} (ht : bootBuiltins T = some (.type (tyN t))) (ht1 : T ≠ "__name__") (ht2 : (T == ("__debug__" : Str)) = false) (hg : Gl X "isinstance") (hm : X.mg "isinstance" = none) (hgT : Gl X T) (hmT : X.mg T = none)
    (ha : PE X a (tE Γ F Wx ia)) (hn : noStar a = true) : PE X (.Call (.Name "isinstance" np) [a, .Name T cp] [] pos) (tE Γ F Wx (.isi ia t)) := by
  have hT : PE X (.Name T cp) (tC (.ty (tyN t))) := pe_bltn hgT hmT ht rfl ht1 ht2
  refine peImp (pe_callB (callr_isty (Γ := Γ.toCls0) hx t hte) hg hm (by decide +kernel) (pa_cons ha (pa_cons hT pa_nil rfl) (star_cons hn)) (by decide +kernel) (by decide +kernel) (star_cons hn) rfl) fun σ H Q ⟨W, ρ, st, hR, g⟩ => ?_
  unfold evE at g
  refine bindE st hR g fun d W1 H1 v x1 hR1 st1 rd g1 => ?_
  obtain ⟨k, e1, q⟩ := g1.of
  exact ⟨W1, d, v, k, rfl, rd, hR1, e1, OkP.here hR1 q (.bl _)⟩
/-! ### methods -/
def methName : Meth → Str
  | .append => "append"
  | .pop => "pop"
  | .popAt => "pop"
  | .join => "join"
  | .upper => "upper"
/-- a thing whose methods are asked straight -/
def plainO : Expr → Bool
  | .Name _ _ => true
  | .Constant _ _ _ => true
  | .Subscript _ _ _ => true
  | .Attribute _ _ _ => true
  | _ => false
theorem plainO_base {o : Expr} {env : Env} {x : Str} {w : Sem Value} (h : plainO o = true) : attributeBase o x env w = w := by
  cases o <;> first | rfl | cases h
theorem s_meth1 (hx : Here Γ.toCls0 X) (k : Meth) {T : String} {o : Expr} {io : E} {apos : Pos} (hT : ∀ (W : Wd) (H : Hp) d x, RelH Γ.toCls0 W H → RelD Γ.toCls0 W H d x → methTy k d W.ah = true → tyV X.K T x H) (pa : PlainAttrs T) (slot : Slot T (methName k) (methId k))
    (hty : typeOf (.builtin (methId k)) = pure (.type "method_descriptor")) (ho : PE X o (tE Γ F Wx io)) (hes : PA X (a :: es) (tEs Γ F Wx is)) (hn : (a :: es).all noStar = true) (hb : plainO o = true) (hl : (apos.endLine == pos.line) = true) (hz : (a :: es).length < 30) :
    PE X (.Call (.Attribute o (methName k) apos) (a :: es) [] pos) (tE Γ F Wx (.meth k io is)) := by
  have hn' := hn
  rw [List.all_cons, Bool.and_eq_true] at hn'
  refine peImp (pe_bm pa slot hty (mtr_meth hx k) ho hes (plainO_base hb) ?_ hl (star_cons hn'.1) (back_any hn'.2)) fun σ H Q ⟨W, ρ, st, hR, g⟩ => ?_
  · rw [back_all hn, Bool.true_and]
    show (true && decide ((a :: es).length + 0 + 0 < 30)) = true
    rw [Bool.true_and]
    exact decide_eq_true (by omega)
  · unfold evE at g
    refine bindE st hR g fun d W1 H1 v x1 hR1 st1 rd g1 => ?_
    obtain ⟨hc, g2⟩ := g1.if_
    refine ⟨hT W1 H1 d v hR1 rd hc, bindEs st1 hR1 g2 fun ds W2 H2 vs x2 hR2 st2 rds g3 => ?_⟩
    obtain ⟨r, h', e1, q⟩ := g3.val fun c p h' => meth_noexc
    exact ⟨W2, d, ds, r, h', rd.ext x2, rds, hR2, e1, q⟩
theorem s_meth0 (hx : Here Γ.toCls0 X) (k : Meth) {T : String} {o : Expr} {io : E} {apos : Pos} (hT : ∀ (W : Wd) (H : Hp) d x, RelH Γ.toCls0 W H → RelD Γ.toCls0 W H d x → methTy k d W.ah = true → tyV X.K T x H) (pa : PlainAttrs T) (slot : Slot T (methName k) (methId k))
    (hty : typeOf (.builtin (methId k)) = pure (.type "method_descriptor")) (ho : PE X o (tE Γ F Wx io)) (hb : plainO o = true) (hl : (apos.endLine == pos.line) = true) :
    PE X (.Call (.Attribute o (methName k) apos) [] [] pos) (tE Γ F Wx (.meth k io [])) := by
  refine peImp (pe_bm0 pa slot hty (mtr_meth hx k) ho (plainO_base hb) hl) fun σ H Q ⟨W, ρ, st, hR, g⟩ => ?_
  unfold evE at g
  refine bindE st hR g fun d W1 H1 v x1 hR1 st1 rd g1 => ?_
  obtain ⟨hc, g2⟩ := g1.if_
  refine ⟨hT W1 H1 d v hR1 rd hc, ?_⟩
  have g3 : GoD Γ W1 H1 (meth k d [] W1.ah) Q (wE Wx σ) := g2
  obtain ⟨r, h', e1, q⟩ := g3.val fun c p h' => meth_noexc
  exact ⟨W1, d, [], r, h', rd, .nil, hR1, e1, q⟩
theorem s_meth (hx : Here Γ.toCls0 X) (k : Meth) {o : Expr} {io : E} {apos : Pos} (ho : PE X o (tE Γ F Wx io)) (hes : PA X es (tEs Γ F Wx is)) (h0 : es = [] ↔ is = []) (hn : es.all noStar = true) (hb : plainO o = true) (hl : (apos.endLine == pos.line) = true) (hz : es.length < 30) :
    PE X (.Call (.Attribute o (methName k) apos) es [] pos) (tE Γ F Wx (.meth k io is)) := by
  have hT := fun (W : Wd) (H : Hp) d x (hR : RelH Γ.toCls0 W H) rd h => methTy_ok (W := W) (H := H) (k := k) (d := d) (x := x) hR rd h X.K
  have all : ∀ {T : String}, (∀ (W : Wd) (H : Hp) d x, RelH Γ.toCls0 W H → RelD Γ.toCls0 W H d x → methTy k d W.ah = true → tyV X.K T x H) → PlainAttrs T → Slot T (methName k) (methId k) →
      typeOf (.builtin (methId k)) = pure (.type "method_descriptor") → PE X (.Call (.Attribute o (methName k) apos) es [] pos) (tE Γ F Wx (.meth k io is)) := by
    intro T h1 h2 h3 h4
    cases es with
    | nil =>
      rw [h0.mp rfl]
      exact s_meth0 hx k h1 h2 h3 h4 ho hb hl
    | cons a es => exact s_meth1 hx k h1 h2 h3 h4 ho hes hn hb hl hz
  have L : ∀ (W : Wd) (H : Hp) d x, (k = .append ∨ k = .pop ∨ k = .popAt) → RelH Γ.toCls0 W H → RelD Γ.toCls0 W H d x → methTy k d W.ah = true → tyV X.K "list" x H := by
    intro W H d x hk hR rd h
    rcases hT W H d x hR rd h with ⟨h1, h2⟩ | ⟨_, h2⟩
    · rcases h1 with rfl | rfl <;> rcases hk with hk | hk | hk <;> cases hk
    · exact h2
  have S : ∀ (W : Wd) (H : Hp) d x, (k = .join ∨ k = .upper) → RelH Γ.toCls0 W H → RelD Γ.toCls0 W H d x → methTy k d W.ah = true → tyV X.K "str" x H := by
    intro W H d x hk hR rd h
    rcases hT W H d x hR rd h with ⟨_, h2⟩ | ⟨h1, h2⟩
    · exact h2
    · rcases h1 with rfl | rfl | rfl <;> rcases hk with hk | hk <;> cases hk
  cases k with
  | append => exact all (fun W H d x => L W H d x (.inl rfl)) PySem.F.plainAttrs_list PySem.F.slot_list_append PySem.F.type_list_append
  | pop => exact all (fun W H d x => L W H d x (.inr (.inl rfl))) PySem.F.plainAttrs_list PySem.F.slot_list_pop PySem.F.type_list_pop
  | popAt => exact all (fun W H d x => L W H d x (.inr (.inr rfl))) PySem.F.plainAttrs_list PySem.F.slot_list_pop PySem.F.type_list_pop
  | join => exact all (fun W H d x => S W H d x (.inl rfl)) PySem.F.plainAttrs_str PySem.F.slot_str_join PySem.F.type_str_join
  | upper => exact all (fun W H d x => S W H d x (.inr rfl)) PySem.F.plainAttrs_str PySem.F.slot_str_upper PySem.F.type_str_upper
/-! ### tests -/
def plainT : Expr → Bool
  | .Name _ _ => true
  | .Call _ _ _ _ => true
  | .Subscript _ _ _ => true
  | .Constant _ _ _ => true
  | .Attribute _ _ _ => true
  | _ => false
theorem t_val (ha : PE X a (tE Γ F Wx ia)) (h : plainT a = true) : PT X a (tB Γ F Wx ia) := by
  refine ptImp (pt_val ha ?_) fun σ H Q ⟨W, ρ, st, hR, g⟩ => ?_
  · intro whole
    cases a <;> first | rfl | cases h
  · refine ⟨W, ρ, st, hR, ?_⟩
    cases r : evE F ia ρ W.ah with
    | ok d h' =>
      rw [r] at g
      intro W' H' v e x hR' rd
      cases d with
      | bl i =>
        cases rd
        exact ⟨i, rfl, g W' H' e x hR'⟩
      | _ => exact g.elim
    | exc c p h' => rw [r] at g; exact g
    | fail => rw [r] at g; exact g
theorem bindTT {W : Wd} {H : Hp} {ρ : Rho} {σ : St} {e : E} {f : D → AH → Res D} {Q : Bool → Hp → Prop} {Q1 : Bool → Hp → Prop} (st : RelSt Γ.toCls0 W H ρ σ) (hR : RelH Γ.toCls0 W H) (g : GoB Γ W H ((evE F e ρ W.ah).bind f) Q (wE Wx σ))
    (hf : ∀ d h, (∀ b, d ≠ .bl b) → f d h = .fail)
    (k : ∀ b W' H', Ext W H W' H' → RelH Γ.toCls0 W' H' → RelSt Γ.toCls0 W' H' ρ σ → GoB Γ W' H' (f (.bl b) W'.ah) Q (wE Wx σ) → Q1 b H') : tB Γ F Wx e σ H Q1 := by
  refine ⟨W, ρ, st, hR, ?_⟩
  cases r : evE F e ρ W.ah with
  | ok d h' =>
    rw [r] at g
    have g : GoB Γ W H (f d h') Q (wE Wx σ) := g
    by_cases hd : ∃ b, d = .bl b
    · obtain ⟨b, rfl⟩ := hd
      intro W' H' e x hR'
      subst e
      exact k b W' H' x hR' (st.ext x) (GoB.ext x g)
    · rw [hf d h' fun b z => hd ⟨b, z⟩] at g
      exact g.elim
  | exc c p h' => rw [r] at g; exact g
  | fail => rw [r] at g; exact g
theorem nbl {α : Type} {d : D} {f : Bool → α} {z : α} (n : ∀ b, d ≠ .bl b) : (match d with | .bl b => f b | _ => z) = z := by
  cases d with
  | bl b => exact absurd rfl (n b)
  | _ => rfl
theorem t_not (ha : PT X a (tB Γ F Wx ia)) : PT X (.UnaryOp .Not a pos) (tB Γ F Wx (.not ia)) := by
  refine ptImp (pt_not ha) fun σ H Q ⟨W, ρ, st, hR, g⟩ => ?_
  unfold evE at g
  refine bindTT st hR g (fun d h n => ?_) fun k W1 H1 x1 hR1 st1 g1 => g1 W1 H1 rfl (.refl _ _) hR1
  cases d with
  | bl b => exact absurd rfl (n b)
  | _ => rfl
theorem w_one {op : BoolOp} (ha : PT X a (tB Γ F Wx ia)) : PW X (.BoolOp op [a] pos) (tB Γ F Wx ia) := by
  cases op
  · exact pw_and1 ha
  · exact pw_or1 ha
theorem w_and {rest : List Expr} (ha : PT X a (tB Γ F Wx ia)) (hb : PW X (.BoolOp .And (b :: rest) pos) (tB Γ F Wx ib)) : PW X (.BoolOp .And (a :: b :: rest) pos) (tB Γ F Wx (.and ia ib)) := by
  refine pwImp (pw_and ha hb) fun σ H Q ⟨W, ρ, st, hR, g⟩ => ?_
  unfold evE at g
  refine bindTT st hR g (fun d h n => ?_) fun k W1 H1 x1 hR1 st1 g1 => ?_
  · cases d with
    | bl b => exact absurd rfl (n b)
    | _ => rfl
  · cases k with
    | true => rw [if_pos rfl]; exact ⟨W1, ρ, st1, hR1, g1⟩
    | false => rw [if_neg Bool.false_ne_true]; exact g1 W1 H1 rfl (.refl _ _) hR1
theorem w_or {rest : List Expr} (ha : PT X a (tB Γ F Wx ia)) (hb : PW X (.BoolOp .Or (b :: rest) pos) (tB Γ F Wx ib)) : PW X (.BoolOp .Or (a :: b :: rest) pos) (tB Γ F Wx (.or ia ib)) := by
  refine pwImp (pw_or ha hb) fun σ H Q ⟨W, ρ, st, hR, g⟩ => ?_
  unfold evE at g
  refine bindTT st hR g (fun d h n => ?_) fun k W1 H1 x1 hR1 st1 g1 => ?_
  · cases d with
    | bl b => exact absurd rfl (n b)
    | _ => rfl
  · cases k with
    | true => rw [if_pos rfl]; exact g1 W1 H1 rfl (.refl _ _) hR1
    | false => rw [if_neg Bool.false_ne_true]; exact ⟨W1, ρ, st1, hR1, g1⟩
end
end PI
set_option maxRecDepth 100000
set_option maxHeartbeats 1000000
namespace PI
open PySem L2
open PySem.Spec
variable {Γ : Cls1} {F : Fn} {Wx : WX}
/-! ### defs and their calls: as the hand layer's promise, told of places where no repr is under way -/
/-- what a def does, called with related values -/
def spF (Γ : Cls1) (F : Fn) (f : Nat) : Sp := fun vs H Q E => ∃ W ds, RelDs Γ.toCls0 W H ds vs ∧ RelH Γ.toCls0 W H ∧ GoD Γ W H (F f ds W.ah) Q E
structure FnG (P : Program) (w : World) (K : PySem.W.Frag) (mg : Str → Option Value) (base : Heap) (k : Nat) (f : Addr) (fd : FuncData) (ps : List Str) (sp : Sp) : Prop where
  len : ∀ vs H Q E, sp vs H Q E → vs.length = ps.length
  run : ∀ (A : Around) (outer : List Env) (s : Shared) (H : Hp) (args : Args) (us : List Value) (vs : List V) (Q : VK) (E : XK),
    Room k A → A.guards = some [] → Env0 P w K mg base A outer s H → BindsTo s fd args (ps.zip us) → Vals vs us → sp vs H Q E →
    codeAny (model P w) A (.call (.ref f) args) (CR (L2.CX P w) outer P w H s Q E) s
section
variable {X : Cx} {k : Nat} {f : Addr} {fd : FuncData} {ps : List Str} {sp : Sp} {x : Str} {p pos : Pos} {a : Expr} {es : List Expr}
theorem FnG.call (G : FnG X.prog X.w X.K X.mg X.base k f fd ps sp) (hr : Room k X.A) (hg : X.A.guards = some []) (hb : Binds X.K fd ps []) (tk : Takes X Wx) {pins : List (Addr × Obj)} {σ : L2.St} {H : Hp} {s : Shared} {Q : VK} {us : List Value} {vs : List V}
    (I : Inv X pins σ H s) (r : Vals vs us) (q : sp vs H Q (wE Wx σ)) : wpAny (model X.prog X.w) X.A (PySem.call (.ref f) us) (EP X pins σ Q) X.xe s := by
  have l1 : us.length = ps.length := r.length.symm.trans (G.len _ _ _ _ q)
  have hb := hb s us I.kIn
  rw [List.append_nil] at hb
  refine wpAny_call (codeAny_mono (G.run X.A X.stack s H ⟨us, []⟩ us vs Q (wE Wx σ) hr hg I.env0 (hb l1) r q) fun z s' hz => ?_)
  cases z with
  | error e => exact passAt tk σ pins H s e s' I hz
  | ok fl =>
    cases fl with
    | ret u => exact I.after hz
    | _ => exact hz.elim
/-- what is known of a def that is called by a module's name -/
structure Def (Γ : Cls1) (F : Fn) (X : Cx) (x : Str) (n : Nat) : Prop where
  ex : ∃ (k : Nat) (f : Addr) (fd : FuncData) (ps : List Str), X.mg x = some (.ref f) ∧ PySem.W.keepIn X.K (.ref f) = true ∧ Binds X.K fd ps [] ∧ Room k X.A ∧ FnG X.prog X.w X.K X.mg X.base k f fd ps (spF Γ F n)
theorem s_call (hx : Here Γ.toCls0 X) (tk : Takes X Wx) {n : Nat} (D : Def Γ F X x n) {is : List E} (hg : Gl X x) (hd : (x == ("__debug__" : Str)) = false) (hes : PA X es (tEs Γ F Wx is)) (h0 : es = [] ↔ is = []) (hn : es.all noStar = true) : PE X (.Call (.Name x p) es [] pos) (tE Γ F Wx (.call n is)) := by
  obtain ⟨k, f, fd, ps, hm, hk, hb, hr, G⟩ := D.ex
  refine ⟨fun pins s σ H Q I ⟨W, ρ, st, hR, g⟩ => ?_⟩
  refine wpAny_Call_Name_kw (ld_glob I hg hm ?_ hd)
  unfold evE at g
  cases es with
  | nil =>
    have e0 := h0.mp rfl
    subst e0
    have g : GoD Γ W H (F n [] W.ah) Q (wE Wx σ) := g
    exact PySem.W.callWith_K0 I.kIn hk (G.call (us := []) hr hx.guards hb tk I .nil ⟨W, [], .nil, hR, g⟩)
  | cons a es =>
    rw [List.all_cons, Bool.and_eq_true] at hn
    refine PySem.W.callWith_K (h₀ := X.base) I.ok.mod.kin hk (thn (hes.run pos pins s σ H _ I (bindEs st hR g (Q1 := fun vs H1 => spF Γ F n vs H1 Q (wE Wx σ)) fun ds W1 H1 vs x1 hR1 st1 rd g1 => ?_)) fun us s1 ⟨vs, H1, I1, r, q⟩ => ⟨I1.kIn, ?_⟩) (star_cons hn.1) (back_any hn.2)
    · exact ⟨W1, ds, rd, hR1, g1⟩
    · exact G.call hr hx.guards hb tk I1 r q
end
end PI
set_option maxRecDepth 100000
set_option maxHeartbeats 1000000
namespace PI
open PySem L2
variable {Γ : Cls1} {F : Fn} {Wx : WX}
/-! ### what is walked -/
/-- an iterator that meets the items xs, as long as st holds and the source s stands at v -/
structure IterOK (Γ : Cls0) (J : It) (xs : List D) (st : AH → Bool) (s : D) (v : V) : Prop where
  go : ∀ (W : Wd) (H : Hp) (i : Nat) (d : D), RelH Γ W H → RelD Γ W H s v → st W.ah = true → xs[i]? = some d → J.go i H ∧ ∀ x H', J.yld i H x H' → Ext W H W H' ∧ RelH Γ W H' ∧ RelD Γ W H' d x
  stop : ∀ (W : Wd) (H : Hp), RelH Γ W H → RelD Γ W H s v → st W.ah = true → J.stop xs.length H
theorem still_start {h : AH} {s : D} {xs : List D} (e : srcItems h s = some xs) : still xs s h = true := by
  cases s with
  | loc n =>
    have e : (match h[n]? with | some (.lst xs) => some xs | _ => none) = some xs := e
    show (match h[n]? with | some (.lst ys) => D.sames ys xs | _ => false) = true
    split at e
    · rename_i ys e0
      cases e
      exact D.sames_refl _
    · cases e
  | _ => rfl
/-- a row in reach -/
theorem seq_now {Γ : Cls0} {W : Wd} {H : Hp} {s : D} {v : V} {xs : List D} {h0 : AH} (hR : RelH Γ W H) (r : RelD Γ W H s v) (e : items h0 s = some xs) (hst : still xs s W.ah = true) : ∃ p vs, v = .ref p ∧ RelDs Γ W H xs vs ∧ ((SqL Γ.K H p vs ∧ ∀ zs, s ≠ .tup zs) ∨ (SqT Γ.K H p vs ∧ s = .tup xs)) := by
  cases r with
  | tup h r => cases e; exact ⟨_, _, rfl, r, .inr ⟨h, rfl⟩⟩
  | lst h r => cases e; exact ⟨_, _, rfl, r, .inl ⟨h.sq, fun _ z => nomatch z⟩⟩
  | scr h =>
    rename_i ns
    cases e
    refine ⟨_, _, rfl, ?_, .inl ⟨h.sq, fun _ z => nomatch z⟩⟩
    clear h hst
    induction ns with
    | nil => exact .nil
    | cons n ns ih => exact .cons (.int n) ih
  | loc hm =>
    rename_i n a
    have hst : (match W.ah[n]? with | some (.lst ys) => D.sames ys xs | _ => false) = true := hst
    split at hst
    · rename_i ys e0
      have := D.sames_eq _ _ hst
      subst this
      obtain ⟨vs, h1, h2⟩ := hR.obj _ _ _ hm e0
      exact ⟨_, _, rfl, h2, .inl ⟨.inl (.inl h1), fun _ z => nomatch z⟩⟩
    · cases hst
  | _ => cases e
theorem iter_list {Γ : Cls0} {s : D} {a : Addr} {xs : List D} {h0 : AH} (e : items h0 s = some xs) (hn : ∀ zs, s ≠ .tup zs) : IterOK Γ (Itl Γ.K a) xs (still xs s) s (.ref a) where
  go := fun W H i d hR r hst hi => by
    obtain ⟨p, vs, e1, r2, h⟩ := seq_now hR r e hst
    cases e1
    rcases h with ⟨h, _⟩ | ⟨_, h⟩
    · obtain ⟨x, hx, rx⟩ := r2.get hi
      refine ⟨⟨vs, x, h, hx⟩, ?_⟩
      rintro y H' ⟨rfl, hy⟩
      have := (hy vs h).symm.trans hx
      cases this
      exact ⟨.refl _ _, hR, rx⟩
    · exact absurd h (hn _)
  stop := fun W H hR r hst => by
    obtain ⟨p, vs, e1, r2, h⟩ := seq_now hR r e hst
    cases e1
    rcases h with ⟨h, _⟩ | ⟨_, h⟩
    · exact ⟨vs, h, Nat.le_of_eq r2.length.symm⟩
    · exact absurd h (hn _)
theorem iter_tup {Γ : Cls0} {a : Addr} {xs : List D} : IterOK Γ (Itt Γ.K a) xs (still xs (.tup xs)) (.tup xs) (.ref a) where
  go := fun W H i d hR r hst hi => by
    cases r with
    | tup h r2 =>
      obtain ⟨x, hx, rx⟩ := r2.get hi
      refine ⟨⟨_, x, h, hx⟩, ?_⟩
      rintro y H' ⟨rfl, hy⟩
      have := (hy _ h).symm.trans hx
      cases this
      exact ⟨.refl _ _, hR, rx⟩
  stop := fun W H hR r hst => by
    cases r with
    | tup h r2 => exact ⟨_, h, Nat.le_of_eq r2.length.symm⟩
theorem iter_str {Γ : Cls0} {z : Str} {v : V} : IterOK Γ (Its z) (signs z) (still (signs z) (.str z)) (.str z) v where
  go := fun W H i d hR r hst hi => by
    unfold signs at hi
    rw [List.getElem?_map] at hi
    obtain ⟨c, hc, rfl⟩ := opt_map hi
    have hc' : z.cps[i]? = some c := by simpa using hc
    refine ⟨(Array.getElem?_eq_some_iff.mp hc').1, ?_⟩
    rintro y H' ⟨rfl, c', h1, rfl⟩
    rw [hc'] at h1
    cases h1
    exact ⟨.refl _ _, hR, .str _⟩
  stop := fun W H hR r hst => by
    show z.cps.size ≤ _
    simp [signs]
theorem iter_rng {Γ : Cls0} {lo hi : Int} {v : V} : IterOK Γ (Itr lo (hi - lo).toNat) (rangeD lo hi) (fun _ => true) .non v where
  go := fun W H i d hR r hst hi => by
    unfold rangeD at hi
    rw [List.getElem?_map] at hi
    obtain ⟨c, hc, rfl⟩ := opt_map hi
    obtain ⟨hlt, hc⟩ := List.getElem?_eq_some_iff.mp hc
    rw [List.getElem_range] at hc
    subst hc
    rw [List.length_range] at hlt
    refine ⟨hlt, ?_⟩
    rintro y H' ⟨rfl, rfl⟩
    exact ⟨.refl _ _, hR, .int _⟩
  stop := fun W H hR r hst => by
    show (hi - lo).toNat ≤ _
    simp [rangeD]
theorem iter_dn {Γ : Cls0} {lo hi : Int} {v : V} : IterOK Γ (Itc lo (-1) (lo - hi).toNat) (rangeDn lo hi) (fun _ => true) .non v where
  go := fun W H i d hR r hst hi => by
    unfold rangeDn at hi
    rw [List.getElem?_map] at hi
    obtain ⟨c, hc, rfl⟩ := opt_map hi
    obtain ⟨hlt, hc⟩ := List.getElem?_eq_some_iff.mp hc
    rw [List.getElem_range] at hc
    subst hc
    rw [List.length_range] at hlt
    refine ⟨hlt, ?_⟩
    rintro y H' ⟨rfl, rfl⟩
    have e : lo + (i : Int) * -1 = lo - (i : Int) := by omega
    rw [e]
    exact ⟨.refl _ _, hR, .int _⟩
  stop := fun W H hR r hst => by
    show (lo - hi).toNat ≤ _
    simp [rangeDn]
/-- the walk over a thing -/
def tI (Γ : Cls1) (F : Fn) (Wx : WX) (src : E) : TI := fun σ H R => ∃ W ρ, RelSt Γ.toCls0 W H ρ σ ∧ RelH Γ.toCls0 W H ∧ match evE F src ρ W.ah with
  | .ok s h1 => ∃ xs, srcItems h1 s = some xs ∧ ∀ (W' : Wd) (H' : Hp) (v : V) (J : It), W'.ah = h1 → Ext W H W' H' → RelH Γ.toCls0 W' H' → RelD Γ.toCls0 W' H' s v → IterOK Γ.toCls0 J xs (still xs s) s v → R J H'
  | .exc c p h' => ExP Γ W H h' c p (wE Wx σ)
  | .fail => False
section
variable {X : Cx} {tg iter : Expr}
theorem piOr {w1 w2 : TI} (h1 : PI X tg iter w1) (h2 : PI X tg iter w2) : PI X tg iter (fun σ H R => w1 σ H R ∨ w2 σ H R) := ⟨fun pins s σ H R I q => q.elim (h1.run pins s σ H R I) (h2.run pins s σ H R I)⟩
theorem piImp {w1 w2 : TI} (h1 : PI X tg iter w1) (k : ∀ σ H R, w2 σ H R → w1 σ H R) : PI X tg iter w2 := ⟨fun pins s σ H R I q => h1.run pins s σ H R I (k σ H R q)⟩
theorem s_src (hK : X.K = Γ.K) {src : E} (h : PE X iter (tE Γ F Wx src)) : PI X tg iter (tI Γ F Wx src) := by
  refine piImp (piOr (pi_list h) (piOr (pi_tup h) (pi_str h))) fun σ H R ⟨W, ρ, st, hR, g⟩ => ?_
  cases r : evE F src ρ W.ah with
  | ok s h1 =>
    rw [r] at g
    obtain ⟨xs, e, g⟩ := g
    have gen : ∀ (Q : VK), (∀ W' H' v, W'.ah = h1 → Ext W H W' H' → RelH Γ.toCls0 W' H' → RelD Γ.toCls0 W' H' s v → Q v H') → tE Γ F Wx src σ H Q := fun Q hq => ⟨W, ρ, st, hR, by rw [r]; exact hq⟩
    by_cases hs : ∃ z, s = .str z
    · obtain ⟨z, rfl⟩ := hs
      refine .inr (.inr (gen _ fun W' H' v e1 x hR' rd => ?_))
      have e : (if decide (z.length ≤ szl) = true then some (signs z) else none) = some xs := e
      split at e
      · cases e
        cases rd
        exact ⟨z, rfl, g W' H' _ _ e1 x hR' (.str z) iter_str⟩
      · cases e
    · have e : items h1 s = some xs := by
        cases s <;> first | exact e | exact absurd ⟨_, rfl⟩ hs
      by_cases ht : ∃ z, s = .tup z
      · obtain ⟨z, rfl⟩ := ht
        cases e
        refine .inr (.inl (gen _ fun W' H' v e1 x hR' rd => ?_))
        cases rd with
        | tup h r2 => exact ⟨_, rfl, ⟨_, by rw [hK]; exact h⟩, by rw [hK]; exact g W' H' _ _ e1 x hR' (.tup h r2) iter_tup⟩
      · refine .inl (gen _ fun W' H' v e1 x hR' rd => ?_)
        subst e1
        obtain ⟨p, vs, rfl, h, r2⟩ := items_rel hR' rd e
        refine ⟨p, rfl, ?_, by rw [hK]; exact g W' H' _ _ rfl x hR' rd (iter_list e fun z q => ht ⟨z, q⟩)⟩
        obtain ⟨p', vs', e2, _, h3⟩ := seq_now hR' rd e (still_start (by
          cases s <;> first | exact e | exact absurd ⟨_, rfl⟩ hs))
        cases e2
        rcases h3 with ⟨h3, _⟩ | ⟨_, h3⟩
        · exact ⟨_, by rw [hK]; exact h3⟩
        · exact absurd ⟨_, h3⟩ ht
  | exc c p h' =>
    rw [r] at g
    exact .inl ⟨W, ρ, st, hR, by rw [r]; exact g⟩
  | fail => rw [r] at g; exact g.elim
def tI1 (Γ : Cls1) (F : Fn) (Wx : WX) (n : E) : TI := fun σ H R => ∃ W ρ, RelSt Γ.toCls0 W H ρ σ ∧ RelH Γ.toCls0 W H ∧ match evE F n ρ W.ah with
  | .ok s h1 => ∃ xs, upTo s = some xs ∧ ∀ (W' : Wd) (H' : Hp) (J : It), W'.ah = h1 → Ext W H W' H' → RelH Γ.toCls0 W' H' → IterOK Γ.toCls0 J xs (fun _ => true) .non .non → R J H'
  | .exc c p h' => ExP Γ W H h' c p (wE Wx σ)
  | .fail => False
theorem small62_iff {i : Int} (h : small62 i = true) : -(2 ^ 62) ≤ i ∧ i < 2 ^ 62 := by
  unfold small62 at h
  obtain ⟨h1, h2⟩ := and2 h
  exact ⟨of_decide_eq_true h1, of_decide_eq_true h2⟩
theorem s_rng1 {a : Expr} {p pos : Pos} {n : E} (hg : Gl X "range") (hm : X.mg "range" = none) (ha : PE X a (tE Γ F Wx n)) (hs : noStar a = true) : PI X tg (.Call (.Name "range" p) [a] [] pos) (tI1 Γ F Wx n) := by
  refine piImp (pi_range1 hg hm (pa_cons ha pa_nil (star_cons hs)) (star_cons hs)) fun σ H R ⟨W, ρ, st, hR, g⟩ => ?_
  cases r : evE F n ρ W.ah with
  | ok s h1 =>
    rw [r] at g
    obtain ⟨xs, e, g⟩ := g
    refine ⟨W, ρ, st, hR, ?_⟩
    rw [r]
    intro W' H' v e1 x hR' rd
    unfold upTo at e
    split at e
    · split at e
      · rename_i k hk
        cases e
        cases rd
        have hk := small62_iff hk
        have := g W' H' (Itr 0 (k - 0).toNat) e1 x hR' iter_rng
        rw [Int.sub_zero] at this
        exact ⟨k, rfl, hk.1, hk.2, this⟩
      · cases e
    · cases e
  | exc c p h' =>
    rw [r] at g
    exact ⟨W, ρ, st, hR, by rw [r]; exact g⟩
  | fail => rw [r] at g; exact g.elim
end
end PI
set_option maxRecDepth 100000
set_option maxHeartbeats 1000000
namespace PI
open PySem L2
variable {Γ : Cls1} {F : Fn} {Wx : WX}
abbrev noW : WX := fun _ _ _ _ => False
/-- one item of a row that is made -/
def oneC (F : Fn) (ρ : Rho) (i : Nat) (cond : Option E) (elt : E) (x : D) (h : AH) : Res (Option D) := (evC F cond (ρ.set i (some x)) h).bind fun b h4 => match b with
  | true => (evE F elt (ρ.set i (some x)) h4).bind fun y h5 => .ok (some y) h5
  | false => .ok none h4
/-- a clause's tests -/
def tC1 (Γ : Cls1) (F : Fn) (Wx : WX) (c : Option E) : TT := fun σ H Q => ∃ W ρ, RelSt Γ.toCls0 W H ρ σ ∧ RelH Γ.toCls0 W H ∧ match evC F c ρ W.ah with
  | .ok b h' => ∀ (W' : Wd) (H' : Hp), W'.ah = h' → Ext W H W' H' → RelH Γ.toCls0 W' H' → Q b H'
  | .exc c p h' => ExP Γ W H h' c p (wE Wx σ)
  | .fail => False
section
variable {X : Cx}
theorem ts_nil : PTs X [] (tC1 Γ F Wx none) := ⟨fun pins s σ H Q I ⟨W, ρ, st, hR, g⟩ => pts_nil.run pins s σ H Q I (g W H rfl (.refl _ _) hR)⟩
theorem ts_one {c : Expr} {ic : E} (h : PT X c (tB Γ F Wx ic)) : PTs X [c] (tC1 Γ F Wx (some ic)) := ⟨fun pins s σ H Q I ⟨W, ρ, st, hR, g⟩ => (pts_one h).run pins s σ H Q I (by
  refine ⟨W, ρ, st, hR, ?_⟩
  unfold evC at g
  cases r : evE F ic ρ W.ah with
  | ok d h' =>
    rw [r] at g
    cases d with
    | bl b => exact fun W' H' e x hR' => g W' H' e x hR'
    | _ => exact g.elim
  | exc c p h' => rw [r] at g; exact g
  | fail => rw [r] at g; exact g)⟩
/-- how the row stands after some turns: D holds what is made, the machine makes the rest -/
def Made (Γ : Cls1) (F : Fn) (ρ : Rho) (σ : St) (i : Nat) (cond : Option E) (elt : E) (st : AH → Bool) (s : D) (v : V) (xs : List D) (W0 : Wd) (H0 : Hp) (ys : List D) (hf : AH) (D : Addr) (n : Nat) (H : Hp) : Prop :=
  ∃ (W : Wd) (acc : List V) (ds r : List PI.D), n ≤ xs.length ∧ H D = some (.lst acc) ∧ RelDs Γ.toCls0 W H ds acc ∧ RelSt Γ.toCls0 W H ρ σ ∧ RelH Γ.toCls0 W H ∧ RelD Γ.toCls0 W H s v ∧ W.hid = (W0.hide D).hid ∧ Ext0 W0 H0 W H ∧ (∀ b, W0.hid b → H b = H0 b) ∧
    goC (oneC F ρ i cond elt) st (xs.drop n) W.ah = .ok r hf ∧ ys = ds ++ r
theorem wipe_one (σ : St) (i : Nat) : wipe σ [i] = σ.set i none := rfl
theorem wipe_set (σ : St) (i : Nat) (z : Option V) : wipe ((wipe σ [i]).set i z) [i] = wipe σ [i] := by
  rw [wipe_one, wipe_one, List.set_set, List.set_set]
theorem goC_len (f : D → AH → Res (Option D)) (st : AH → Bool) : ∀ (xs : List D) (h : AH) (r : List D) (h' : AH), goC f st xs h = .ok r h' → True := fun _ _ _ _ _ => trivial
/-- a row from a walk -/
theorem comp_go (m : Bool) {ρ : Rho} {σ : St} {H : Hp} {W : Wd} {i : Nat} {cond : Option E} {elt : E} {J : It} {xs : List D} {st : AH → Bool} {s : D} {v : V} {ys : List D} {hf : AH} {Q : VK} {E : XK}
    (hst : RelSt Γ.toCls0 W H ρ σ) (hR : RelH Γ.toCls0 W H) (rs : RelD Γ.toCls0 W H s v) (iok : IterOK Γ.toCls0 J xs st s v) (e : goC (oneC F ρ i cond elt) st xs W.ah = .ok ys hf) (hl : ys.length ≤ szl) (q : GoD Γ W H (mk m ys hf) Q E) :
    ∀ D, H D = none → ∃ Wn : Nat → Nat → Hp → Prop, (∃ k, Wn 0 k (upd H D (.lst []))) ∧ ∀ n k H, Wn n k H →
      (J.stop n H ∧ Q (.ref D) H) ∨ (J.go n H ∧ ∃ Nx : Hp → Prop, (∀ H', Nx H' → ∃ k', k' < k ∧ Wn (n + 1) k' H') ∧ ∀ x H', J.yld n H x H' → gName i x (wipe σ [i]) H' fun σ2 H2 => wipe σ2 [i] = wipe σ [i] ∧ tC1 Γ F noW cond σ2 H2 fun b H3 =>
        if b = true then tE Γ F noW elt σ2 H3 fun y H4 => ∃ acc, H4 D = some (.lst acc) ∧ acc.length < sizeLine ∧ Nx (upd H4 D (.lst (acc ++ [y]))) else Nx H3) := by
  intro D hD
  refine ⟨fun n k H' => k = xs.length - n ∧ Made Γ F ρ σ i cond elt st s v xs W H ys hf D n H', ⟨xs.length, by simp, ?_⟩, ?_⟩
  · refine ⟨W.hide D, [], [], ys, Nat.zero_le _, upd_same, .nil, hst.ext0 (.hide hD), hR.hide hD, rs.ext0 (.hide hD), rfl, .hide hD, fun b hb => upd_ne fun e => ?_, by rw [List.drop_zero]; exact e, rfl⟩
    subst e
    exact hR.hdom _ hb hD
  · rintro n k H1 ⟨rfl, W1, acc, ds, r, hn, hacc, rds, st1, hR1, rs1, hh1, x1, hs1, e1, ey⟩
    have hidD : W1.hid D := by rw [hh1]; exact .inl rfl
    by_cases hlt : n < xs.length
    · right
      rw [List.drop_eq_getElem_cons hlt] at e1
      unfold goC at e1
      obtain ⟨c0, e1⟩ := of_ifd e1
      obtain ⟨g1, g2⟩ := iok.go W1 H1 n xs[n] hR1 rs1 c0 (List.getElem?_eq_getElem hlt)
      refine ⟨g1, fun H' => Made Γ F ρ σ i cond elt st s v xs W H ys hf D (n + 1) H', fun H' h' => ⟨_, by omega, rfl, h'⟩, fun x H2 hy => ?_⟩
      obtain ⟨x2, hR2, rx⟩ := g2 x H2 hy
      refine ⟨wipe_set _ _ _, ?_⟩
      have st2 : RelSt Γ.toCls0 W1 H2 (ρ.set i (some xs[n])) ((wipe σ [i]).set i (some x)) := by
        have := ((st1.ext x2).unset i none).set i rx
        rw [List.set_set] at this
        exact this
      refine ⟨W1, ρ.set i (some xs[n]), st2, hR2, ?_⟩
      unfold oneC at e1
      cases rc : evC F cond (ρ.set i (some xs[n])) W1.ah with
      | fail => rw [rc] at e1; cases e1
      | exc c p h' => rw [rc] at e1; cases e1
      | ok b h3 =>
        rw [rc] at e1
        intro W3 H3 e3 x3 hR3
        subst e3
        have x13 : Ext W1 H1 W3 H3 := x2.trans x3
        have hid3 : W3.hid = (W.hide D).hid := x13.hid.trans hh1
        have hs3 : ∀ b, W.hid b → H3 b = H b := fun b hb => (x13.hidS b (by rw [hh1]; exact .inr hb)).trans (hs1 b hb)
        have hD3 : H3 D = some (.lst acc) := (x13.hidS D hidD).trans hacc
        cases b with
        | false =>
          rw [if_neg Bool.false_ne_true]
          have e1 : ((goC (oneC F ρ i cond elt) st (xs.drop (n + 1)) W3.ah).bind fun r h2 => Res.ok r h2) = .ok r hf := e1
          have e2 : goC (oneC F ρ i cond elt) st (xs.drop (n + 1)) W3.ah = .ok r hf := by
            cases z : goC (oneC F ρ i cond elt) st (xs.drop (n + 1)) W3.ah with
            | ok a b => rw [z] at e1; exact e1
            | exc a b c => rw [z] at e1; cases e1
            | fail => rw [z] at e1; cases e1
          exact ⟨W3, acc, ds, r, hlt, hD3, rds.ext x13, st1.ext x13, hR3, rs1.ext x13, hid3, x1.trans x13.to0, hs3, e2, ey⟩
        | true =>
          rw [if_pos rfl]
          refine ⟨W3, ρ.set i (some xs[n]), st2.ext x3, hR3, ?_⟩
          have e1 : (((evE F elt (ρ.set i (some xs[n])) W3.ah).bind fun y h5 => Res.ok (some y) h5).bind fun o h1 => (goC (oneC F ρ i cond elt) st (xs.drop (n + 1)) h1).bind fun r h2 => Res.ok (o.toList ++ r) h2) = .ok r hf := e1
          cases re : evE F elt (ρ.set i (some xs[n])) W3.ah with
          | fail => rw [re] at e1; cases e1
          | exc c p h' => rw [re] at e1; cases e1
          | ok y h5 =>
            rw [re] at e1
            intro W4 H4 u e4 x4 hR4 ry
            subst e4
            have x14 : Ext W1 H1 W4 H4 := x13.trans x4
            have hD4 : H4 D = some (.lst acc) := (x14.hidS D hidD).trans hacc
            have hid4 : W4.hid = (W.hide D).hid := x14.hid.trans hh1
            have hidD4 : W4.hid D := by rw [hid4]; exact .inl rfl
            have e1 : ((goC (oneC F ρ i cond elt) st (xs.drop (n + 1)) W4.ah).bind fun r h2 => Res.ok ([y] ++ r) h2) = .ok r hf := e1
            cases z : goC (oneC F ρ i cond elt) st (xs.drop (n + 1)) W4.ah with
            | exc a b c => rw [z] at e1; cases e1
            | fail => rw [z] at e1; cases e1
            | ok r2 h6 =>
              rw [z] at e1
              cases e1
              have gr : Ext0 W4 H4 W4 (upd H4 D (.lst (acc ++ [u]))) := .grow hidD4 hD4 (fun _ z => nomatch z) fun _ _ z => nomatch z
              have lacc : acc.length < sizeLine := by
                rw [← szl_eq]
                have := rds.length
                have h2 : ys.length = ds.length + ([y] ++ r2).length := by rw [ey, List.length_append]
                simp only [List.length_append, List.length_cons, List.length_nil] at h2
                omega
              refine ⟨acc, hD4, lacc, W4, acc ++ [u], ds ++ [y], r2, hlt, upd_same, ((rds.ext x14).append (.cons ry .nil)).ext0 gr, (st1.ext x14).ext0 gr, hR4.grow hidD4 hD4 (fun _ z => nomatch z) (fun _ _ z => nomatch z), (rs1.ext x14).ext0 gr, hid4, (x1.trans x14.to0).trans gr,
                fun b hb => ?_, z, by rw [ey, List.append_assoc]⟩
              have hb' : b ≠ D := fun e => hR.hdom _ hb (e ▸ hD)
              rw [upd_ne hb']
              exact (x14.hidS b (by rw [hh1]; exact .inr hb)).trans (hs1 b hb)
    · left
      have hn' : n = xs.length := by omega
      subst hn'
      rw [List.drop_length] at e1
      unfold goC at e1
      obtain ⟨c0, e1⟩ := of_ifd e1
      cases e1
      refine ⟨iok.stop W1 H1 hR1 rs1 c0, ?_⟩
      rw [List.append_nil] at ey
      subst ey
      have hsub : ∀ a, W.hid a → W1.hid a := fun a ha => by rw [hh1]; exact .inr ha
      have hnD : ¬ W.hid D := fun h => hR.hdom _ h hD
      have mkx : ∀ (W' : Wd), W'.hid = W.hid → Ext0 W1 H1 W' H1 → Ext W H W' H1 := fun W' h1 h2 =>
        ⟨h1, (x1.trans h2).mu, (x1.trans h2).stay, (x1.trans h2).tups, (x1.trans h2).frzs, hs1⟩
      unfold PI.mk at q
      split at q
      · have gx : Ext0 W1 H1 (W1.grant W.hid D (.lst ys)) H1 := .grant hR1 hsub hidD
        refine q (W1.grant W.hid D (.lst ys)) H1 _ rfl (mkx _ rfl gx) (hR1.grant hsub hidD hnD ⟨acc, hacc, rds.ext0 gx⟩) (.loc ?_)
        show (W1.mu ++ [D])[W1.ah.length]? = some D
        rw [← hR1.len]
        simp
      · have sx : Ext0 W1 H1 (W1.show W.hid) H1 := .show hsub
        refine q (W1.show W.hid) H1 _ rfl (mkx _ rfl sx) (hR1.show hsub) (.lst ⟨hacc, ?_⟩ (rds.ext0 sx))
        rintro (⟨n, o, h1, _⟩ | h)
        · exact hR1.sep D hidD (List.mem_of_getElem? h1)
        · exact hnD h
end
end PI
set_option maxRecDepth 100000
set_option maxHeartbeats 1000000
namespace PI
open PySem L2
variable {Γ : Cls1} {F : Fn} {Wx : WX}
section
variable {X : Cx}
theorem nox_ok {α : Type} {r : Res α} {a : α} {h : AH} (e : r.nox = .ok a h) : r = .ok a h := by
  cases r with
  | ok _ _ => exact e
  | exc _ _ _ => cases e
  | fail => cases e
/-- what a walked row asks -/
theorem made_of {m : Bool} {W : Wd} {H : Hp} {Q : VK} {E : XK} {f : D → AH → Res (Option D)} {st : AH → Bool} {xs : List D} {h : AH} (g : GoD Γ W H (((goC f st xs h).nox).bind fun ys h6 => if decide (ys.length ≤ szl) = true then mk m ys h6 else .fail) Q E) :
    ∃ ys hf, goC f st xs h = .ok ys hf ∧ ys.length ≤ szl ∧ GoD Γ W H (mk m ys hf) Q E := by
  cases r : goC f st xs h with
  | ok ys hf =>
    rw [r] at g
    have g : GoD Γ W H (if decide (ys.length ≤ szl) = true then mk m ys hf else .fail) Q E := g
    obtain ⟨h1, h2⟩ := g.if_
    exact ⟨ys, hf, rfl, of_decide_eq_true h1, h2⟩
  | exc c p h' => rw [r] at g; exact g.elim
  | fail => rw [r] at g; exact g.elim
theorem s_comp (hc : X.calm = true) (hN : X.N.Nodup) (m : Bool) {elt tg iter : Expr} {ifs : List Expr} {scope : Scope} {x : Str} {i : Nat} {pos : Pos} {src ielt : E} {cond : Option E} (hi : PI X tg iter (tI Γ F Wx src)) (ok : BlkOk X.N X.env.scope scope [(x, i)])
    (hg : ∀ (s : Shared) (H : Hp) (C : Addr) (cl : List (Str × Addr)) (fp : List Addr), PG (X.blk s H scope (compEnvC scope cl C X.env) fp) tg (gName i)) (ht : ∀ (s : Shared) (H : Hp) (C : Addr) (cl : List (Str × Addr)) (fp : List Addr), PTs (X.blk s H scope (compEnvC scope cl C X.env) fp) ifs (tC1 Γ F noW cond))
    (he : ∀ (s : Shared) (H : Hp) (C : Addr) (cl : List (Str × Addr)) (fp : List Addr), PE (X.blk s H scope (compEnvC scope cl C X.env) fp) elt (tE Γ F noW ielt)) (hs : ∀ x, foldedSetIterable iter X.env x = pure x) :
    PE X (.ListComp elt [⟨tg, iter, ifs, 0⟩] scope pos) (tE Γ F Wx (.comp m i src cond ielt)) := by
  refine peImp (pe_lc hc hN hi ok hg ht he hs) fun σ H Q ⟨W, ρ, st, hR, g⟩ => ?_
  unfold evE at g
  refine ⟨W, ρ, st, hR, ?_⟩
  cases r : evE F src ρ W.ah with
  | ok s h1 =>
    rw [r] at g
    cases rs : srcItems h1 s with
    | none =>
      have g : GoD Γ W H ((Res.of (srcItems h1 s) h1).bind _) Q (wE Wx σ) := g
      rw [rs] at g
      exact g.elim
    | some xs =>
      have g : GoD Γ W H ((Res.of (srcItems h1 s) h1).bind _) Q (wE Wx σ) := g
      rw [rs] at g
      obtain ⟨ys, hf, e, hl, q⟩ := made_of (h := h1) g
      refine ⟨xs, rs, fun W' H' v J e1 x hR' rd iok => ?_⟩
      subst e1
      exact comp_go m (st.ext x) hR' rd iok e hl (q.ext x)
  | exc c p h' => rw [r] at g; exact g
  | fail => rw [r] at g; exact g
theorem s_compR (hc : X.calm = true) (hN : X.N.Nodup) (m : Bool) {elt tg iter : Expr} {ifs : List Expr} {scope : Scope} {x : Str} {i : Nat} {pos : Pos} {src ielt : E} {cond : Option E} (hi : PI X tg iter (tI1 Γ F Wx src)) (ok : BlkOk X.N X.env.scope scope [(x, i)])
    (hg : ∀ (s : Shared) (H : Hp) (C : Addr) (cl : List (Str × Addr)) (fp : List Addr), PG (X.blk s H scope (compEnvC scope cl C X.env) fp) tg (gName i)) (ht : ∀ (s : Shared) (H : Hp) (C : Addr) (cl : List (Str × Addr)) (fp : List Addr), PTs (X.blk s H scope (compEnvC scope cl C X.env) fp) ifs (tC1 Γ F noW cond))
    (he : ∀ (s : Shared) (H : Hp) (C : Addr) (cl : List (Str × Addr)) (fp : List Addr), PE (X.blk s H scope (compEnvC scope cl C X.env) fp) elt (tE Γ F noW ielt)) (hs : ∀ x, foldedSetIterable iter X.env x = pure x) :
    PE X (.ListComp elt [⟨tg, iter, ifs, 0⟩] scope pos) (tE Γ F Wx (.compR m i src cond ielt)) := by
  refine peImp (pe_lc hc hN hi ok hg ht he hs) fun σ H Q ⟨W, ρ, st, hR, g⟩ => ?_
  unfold evE at g
  refine ⟨W, ρ, st, hR, ?_⟩
  cases r : evE F src ρ W.ah with
  | ok s h1 =>
    rw [r] at g
    have g : GoD Γ W H ((Res.of (upTo s) h1).bind _) Q (wE Wx σ) := g
    cases rs : upTo s with
    | none => rw [rs] at g; exact g.elim
    | some xs =>
      rw [rs] at g
      obtain ⟨ys, hf, e, hl, q⟩ := made_of (h := h1) g
      refine ⟨xs, rs, fun W' H' J e1 x hR' iok => ?_⟩
      subst e1
      exact comp_go m (st.ext x) hR' .non iok e hl (q.ext x)
  | exc c p h' => rw [r] at g; exact g
  | fail => rw [r] at g; exact g
/-- the same, given to a name on one line: the name is a local, and no name of the row's block -/
theorem s_setComp (hc : X.calm = true) (hN : X.N.Nodup) (m : Bool) {y : Str} {j : Nat} {py spos : Pos} {elt tg iter : Expr} {ifs : List Expr} {scope : Scope} {x : Str} {i : Nat} {pos : Pos} {src ielt : E} {cond : Option E} (hy : X.N[j]? = some y) (hyl : X.env.scope.names.lookup y = some .local)
    (hsw : swapsWith (.ListComp elt [⟨tg, iter, ifs, 0⟩] scope pos) (some (.Name y py)) spos.line X.env = pure true) (hi : PI X tg iter (tI Γ F Wx src)) (ok : BlkOk X.N X.env.scope scope [(x, i)])
    (hg : ∀ (s : Shared) (H : Hp) (C : Addr) (cl : List (Str × Addr)) (fp : List Addr), PG (X.blk s H scope (compEnvC scope cl C X.env) fp) tg (gName i)) (ht : ∀ (s : Shared) (H : Hp) (C : Addr) (cl : List (Str × Addr)) (fp : List Addr), PTs (X.blk s H scope (compEnvC scope cl C X.env) fp) ifs (tC1 Γ F noW cond))
    (he : ∀ (s : Shared) (H : Hp) (C : Addr) (cl : List (Str × Addr)) (fp : List Addr), PE (X.blk s H scope (compEnvC scope cl C X.env) fp) elt (tE Γ F noW ielt)) (hs : ∀ x, foldedSetIterable iter X.env x = pure x) :
    PS X (.Assign [.Name y py] (.ListComp elt [⟨tg, iter, ifs, 0⟩] scope pos) spos) (fun D σ H => tE Γ F Wx (.comp m i src cond ielt) σ H fun v H1 => D.nx (σ.set j (some v)) H1) := by
  have := ps_setLc hc hN hy hyl hsw hi ok hg ht he hs
  refine ⟨fun pins s σ H D I ⟨W, ρ, st, hR, g⟩ => this.run pins s σ H D I ?_⟩
  unfold evE at g
  refine ⟨W, ρ, st, hR, ?_⟩
  cases r : evE F src ρ W.ah with
  | ok s h1 =>
    rw [r] at g
    have g : GoD Γ W H ((Res.of (srcItems h1 s) h1).bind _) _ (wE Wx σ) := g
    cases rs : srcItems h1 s with
    | none => rw [rs] at g; exact g.elim
    | some xs =>
      rw [rs] at g
      obtain ⟨ys, hf, e, hl, q⟩ := made_of (h := h1) g
      refine ⟨xs, rs, fun W' H' v J e1 x hR' rd iok => ?_⟩
      subst e1
      exact comp_go m (st.ext x) hR' rd iok e hl (q.ext x)
  | exc c p h' => rw [r] at g; exact g
  | fail => rw [r] at g; exact g
theorem s_setCompR (hc : X.calm = true) (hN : X.N.Nodup) (m : Bool) {y : Str} {j : Nat} {py spos : Pos} {elt tg iter : Expr} {ifs : List Expr} {scope : Scope} {x : Str} {i : Nat} {pos : Pos} {src ielt : E} {cond : Option E} (hy : X.N[j]? = some y) (hyl : X.env.scope.names.lookup y = some .local)
    (hsw : swapsWith (.ListComp elt [⟨tg, iter, ifs, 0⟩] scope pos) (some (.Name y py)) spos.line X.env = pure true) (hi : PI X tg iter (tI1 Γ F Wx src)) (ok : BlkOk X.N X.env.scope scope [(x, i)])
    (hg : ∀ (s : Shared) (H : Hp) (C : Addr) (cl : List (Str × Addr)) (fp : List Addr), PG (X.blk s H scope (compEnvC scope cl C X.env) fp) tg (gName i)) (ht : ∀ (s : Shared) (H : Hp) (C : Addr) (cl : List (Str × Addr)) (fp : List Addr), PTs (X.blk s H scope (compEnvC scope cl C X.env) fp) ifs (tC1 Γ F noW cond))
    (he : ∀ (s : Shared) (H : Hp) (C : Addr) (cl : List (Str × Addr)) (fp : List Addr), PE (X.blk s H scope (compEnvC scope cl C X.env) fp) elt (tE Γ F noW ielt)) (hs : ∀ x, foldedSetIterable iter X.env x = pure x) :
    PS X (.Assign [.Name y py] (.ListComp elt [⟨tg, iter, ifs, 0⟩] scope pos) spos) (fun D σ H => tE Γ F Wx (.compR m i src cond ielt) σ H fun v H1 => D.nx (σ.set j (some v)) H1) := by
  have := ps_setLc hc hN hy hyl hsw hi ok hg ht he hs
  refine ⟨fun pins s σ H D I ⟨W, ρ, st, hR, g⟩ => this.run pins s σ H D I ?_⟩
  unfold evE at g
  refine ⟨W, ρ, st, hR, ?_⟩
  cases r : evE F src ρ W.ah with
  | ok s h1 =>
    rw [r] at g
    have g : GoD Γ W H ((Res.of (upTo s) h1).bind _) _ (wE Wx σ) := g
    cases rs : upTo s with
    | none => rw [rs] at g; exact g.elim
    | some xs =>
      rw [rs] at g
      obtain ⟨ys, hf, e, hl, q⟩ := made_of (h := h1) g
      refine ⟨xs, rs, fun W' H' J e1 x hR' iok => ?_⟩
      subst e1
      exact comp_go m (st.ext x) hR' .non iok e hl (q.ext x)
  | exc c p h' => rw [r] at g; exact g
  | fail => rw [r] at g; exact g
/-- a new dict may be kept from change from now on -/
theorem pe_frz {e : Expr} {te : TE} (he : PE X e te) : PE X e (fun σ H Q => te σ H fun x H1 => Q x H1 ∨ ∃ p kvs, x = .ref p ∧ H1 p = some (.dK kvs) ∧ ∀ od, Q x (upd H1 p (.frz od (.dK kvs)))) :=
  ⟨fun pins s σ H Q I h => thn (he.run pins s σ H _ I h) fun u s1 ⟨x, H1, I1, rx, q⟩ => by
    rcases q with q | ⟨p, kvs, _, hp, q⟩
    · exact ⟨x, H1, I1, rx, q⟩
    · obtain ⟨od, I2⟩ := I1.lock hp trivial
      exact ⟨x, _, I2, rx, q od⟩⟩
theorem mkD_rel {W : Wd} {H : Hp} {m : Bool} {ds : List (D × D)} {vs : List (Key × V)} {Q : VK} {E : XK} (hR : RelH Γ.toCls0 W H) (rk : RelKs Γ.toCls0 W H ds vs) (g : GoD Γ W H (mkD m ds W.ah) Q E) (p : Addr) (hp : H p = none) :
    Q (.ref p) (upd H p (.dK vs)) ∨ ∃ p' kvs, V.ref p = .ref p' ∧ upd H p (.dK vs) p' = some (.dK kvs) ∧ ∀ od, Q (.ref p) (upd (upd H p (.dK vs)) p' (.frz od (.dK kvs))) := by
  unfold mkD at g
  split at g
  · refine .inl (g (W.add p (.dct ds)) _ _ rfl (.add hR hp) (hR.add hp ⟨vs, upd_same, rk.ext (.add hR hp)⟩) (.loc ?_))
    show (W.mu ++ [p])[W.ah.length]? = some p
    rw [← hR.len]
    simp
  · refine .inr ⟨p, vs, rfl, upd_same, fun od => ?_⟩
    rw [upd_upd]
    exact g W _ _ rfl (.fresh hR hp) (hR.fresh hp) (.dct ⟨⟨od, upd_same⟩, not_live hR hp⟩ (rk.ext (.fresh hR hp)))
/-- {} and a dict of one entry -/
theorem s_dnew (m : Bool) {pos : Pos} : PE X (.Dict [] [] pos) (tE Γ F Wx (.dct m [] [])) := by
  refine peImp (pe_frz pe_dnewK) fun σ H Q ⟨W, ρ, st, hR, g⟩ => ?_
  intro p hp
  have g : GoD Γ W H (mkD m [] W.ah) Q (wE Wx σ) := g
  exact mkD_rel hR .nil g p hp
end
end PI
set_option maxRecDepth 100000
set_option maxHeartbeats 1000000
/-! Statements. -/
namespace PI
open PySem L2
section
variable (Γ : Cls1) (F : Fn) (Wx : WX)
/-- how a block ends -/
def GoS (W : Wd) (H : Hp) (o : Out) (D : Ends) : Prop := match o with
  | .next ρ h' => ∀ (W' : Wd) (H' : Hp) (σ : St), W'.ah = h' → Ext W H W' H' → RelH Γ.toCls0 W' H' → RelSt Γ.toCls0 W' H' ρ σ → D.nx σ H'
  | .ret d h' => OkP Γ.toCls0 W H h' d D.rt
  | .brk ρ h' => ∀ (W' : Wd) (H' : Hp) (σ : St), W'.ah = h' → Ext W H W' H' → RelH Γ.toCls0 W' H' → RelSt Γ.toCls0 W' H' ρ σ → D.bk σ H'
  | .cont ρ h' => ∀ (W' : Wd) (H' : Hp) (σ : St), W'.ah = h' → Ext W H W' H' → RelH Γ.toCls0 W' H' → RelSt Γ.toCls0 W' H' ρ σ → D.ct σ H'
  | .exc c p ρ h' => ∀ (W' : Wd) (H' : Hp) (σ : St) (od : Option Addr), W'.ah = h' → Ext W H W' H' → RelH Γ.toCls0 W' H' → RelSt Γ.toCls0 W' H' ρ σ → Pay Γ W' H' c p od → Wx (.ref (Γ.cA c)) od σ H'
  | .fail => False
def tS (s : S) : TS := fun D σ H => ∃ W ρ, RelSt Γ.toCls0 W H ρ σ ∧ RelH Γ.toCls0 W H ∧ GoS Γ Wx W H (evS F s ρ W.ah) D
def tSs (s : List S) : TS := fun D σ H => ∃ W ρ, RelSt Γ.toCls0 W H ρ σ ∧ RelH Γ.toCls0 W H ∧ GoS Γ Wx W H (evSs F s ρ W.ah) D
def tT (t : T) : TG := fun x σ H Q => ∃ W ρ d, RelSt Γ.toCls0 W H ρ σ ∧ RelH Γ.toCls0 W H ∧ RelD Γ.toCls0 W H d x ∧ GoS Γ Wx W H (asT F t d ρ W.ah) { nx := Q, rt := fun _ _ => False, bk := fun _ _ => False, ct := fun _ _ => False }
def tTs (t : List T) : TGs := fun x σ H Q => ∃ W ρ d, RelSt Γ.toCls0 W H ρ σ ∧ RelH Γ.toCls0 W H ∧ RelDs Γ.toCls0 W H d x ∧ GoS Γ Wx W H (asTs F t d ρ W.ah) { nx := Q, rt := fun _ _ => False, bk := fun _ _ => False, ct := fun _ _ => False }
end
variable {Γ : Cls1} {F : Fn} {Wx : WX}
section
variable {W W' : Wd} {H H' : Hp}
theorem GoS.ext {o : Out} {D : Ends} (x : Ext W H W' H') (h : GoS Γ Wx W H o D) : GoS Γ Wx W' H' o D := by
  cases o with
  | next ρ h' => exact fun W2 H2 σ e y r s => h W2 H2 σ e (x.trans y) r s
  | ret d h' => exact OkP.ext x h
  | brk ρ h' => exact fun W2 H2 σ e y r s => h W2 H2 σ e (x.trans y) r s
  | cont ρ h' => exact fun W2 H2 σ e y r s => h W2 H2 σ e (x.trans y) r s
  | exc c p ρ h' => exact fun W2 H2 σ od e y r s => h W2 H2 σ od e (x.trans y) r s
  | fail => exact h
/-- an expression first, then a statement's rest -/
theorem bindS {ρ : Rho} {σ : St} {e : E} {f : D → AH → Out} {D : Ends} {Q1 : VK} (st : RelSt Γ.toCls0 W H ρ σ) (hR : RelH Γ.toCls0 W H) (g : GoS Γ Wx W H ((evE F e ρ W.ah).out ρ f) D)
    (k : ∀ d W' H' v, Ext W H W' H' → RelH Γ.toCls0 W' H' → RelSt Γ.toCls0 W' H' ρ σ → RelD Γ.toCls0 W' H' d v → GoS Γ Wx W' H' (f d W'.ah) D → Q1 v H') : tE Γ F Wx e σ H Q1 := by
  refine ⟨W, ρ, st, hR, ?_⟩
  cases r : evE F e ρ W.ah with
  | ok d h' =>
    rw [r] at g
    intro W' H' v e x hR' rd
    subst e
    exact k d W' H' v x hR' (st.ext x) rd (GoS.ext x g)
  | exc c p h' =>
    rw [r] at g
    exact fun W' H' od e x hR' py => g W' H' σ od e x hR' (st.ext x) py
  | fail => rw [r] at g; exact g
theorem bindSs {ρ : Rho} {σ : St} {e : List E} {f : List D → AH → Out} {D : Ends} {Q1 : List V → Hp → Prop} (st : RelSt Γ.toCls0 W H ρ σ) (hR : RelH Γ.toCls0 W H) (g : GoS Γ Wx W H ((evEs F e ρ W.ah).out ρ f) D)
    (k : ∀ d W' H' v, Ext W H W' H' → RelH Γ.toCls0 W' H' → RelSt Γ.toCls0 W' H' ρ σ → RelDs Γ.toCls0 W' H' d v → GoS Γ Wx W' H' (f d W'.ah) D → Q1 v H') : tEs Γ F Wx e σ H Q1 := by
  refine ⟨W, ρ, st, hR, ?_⟩
  cases r : evEs F e ρ W.ah with
  | ok d h' =>
    rw [r] at g
    intro W' H' v e x hR' rd
    subst e
    exact k d W' H' v x hR' (st.ext x) rd (GoS.ext x g)
  | exc c p h' =>
    rw [r] at g
    exact fun W' H' od e x hR' py => g W' H' σ od e x hR' (st.ext x) py
  | fail => rw [r] at g; exact g
theorem bindST {ρ : Rho} {σ : St} {e : E} {f : D → AH → Out} {D : Ends} {Q1 : Bool → Hp → Prop} (st : RelSt Γ.toCls0 W H ρ σ) (hR : RelH Γ.toCls0 W H) (g : GoS Γ Wx W H ((evE F e ρ W.ah).out ρ f) D)
    (hf : ∀ d h, (∀ b, d ≠ .bl b) → f d h = .fail)
    (k : ∀ b W' H', Ext W H W' H' → RelH Γ.toCls0 W' H' → RelSt Γ.toCls0 W' H' ρ σ → GoS Γ Wx W' H' (f (.bl b) W'.ah) D → Q1 b H') : tB Γ F Wx e σ H Q1 := by
  refine ⟨W, ρ, st, hR, ?_⟩
  cases r : evE F e ρ W.ah with
  | ok d h' =>
    rw [r] at g
    have g : GoS Γ Wx W H (f d h') D := g
    by_cases hd : ∃ b, d = .bl b
    · obtain ⟨b, rfl⟩ := hd
      intro W' H' e x hR'
      subst e
      exact k b W' H' x hR' (st.ext x) (GoS.ext x g)
    · rw [hf d h' fun b z => hd ⟨b, z⟩] at g
      exact g.elim
  | exc c p h' =>
    rw [r] at g
    exact fun W' H' od e x hR' py => g W' H' σ od e x hR' (st.ext x) py
  | fail => rw [r] at g; exact g
/-- a statement first, then the others -/
theorem GoS.seq {o : Out} {f : Rho → AH → Out} {D : Ends} (g : GoS Γ Wx W H (o.bind f) D) {N : St → Hp → Prop} (k : ∀ ρ W' H' σ, Ext W H W' H' → RelH Γ.toCls0 W' H' → RelSt Γ.toCls0 W' H' ρ σ → GoS Γ Wx W' H' (f ρ W'.ah) D → N σ H') : GoS Γ Wx W H o { D with nx := N } := by
  cases o with
  | next ρ h' =>
    intro W' H' σ e x hR st
    subst e
    exact k ρ W' H' σ x hR st (GoS.ext x g)
  | ret d h' => exact g
  | brk ρ h' => exact g
  | cont ρ h' => exact g
  | exc c p ρ h' => exact g
  | fail => exact g
end
theorem psImp {X : Cx} {s : Stmt} {t t' : TS} (h : PS X s t) (k : ∀ D σ H, t' D σ H → t D σ H) : PS X s t' := ⟨fun pins s σ H D I q => h.run pins s σ H D I (k D σ H q)⟩
theorem pssImp {X : Cx} {s : List Stmt} {t t' : TS} (h : PSs X s t) (k : ∀ D σ H, t' D σ H → t D σ H) : PSs X s t' := ⟨fun pins s σ H D I q => h.run pins s σ H D I (k D σ H q)⟩
theorem pgImp {X : Cx} {s : Expr} {t t' : TG} (h : PG X s t) (k : ∀ v σ H Q, t' v σ H Q → t v σ H Q) : PG X s t' := ⟨fun pins s σ H v u Q I r q => h.run pins s σ H v u Q I r (k v σ H Q q)⟩
theorem pgsImp {X : Cx} {s : List Expr} {t t' : TGs} (h : PGs X s t) (k : ∀ v σ H Q, t' v σ H Q → t v σ H Q) : PGs X s t' := ⟨fun pins s σ H v u Q I r q => h.run pins s σ H v u Q I r (k v σ H Q q)⟩
def okT : Out → Bool
  | .next _ _ => true
  | .exc _ _ _ _ => true
  | .fail => true
  | _ => false
theorem okT_out {α : Type} {r : Res α} {ρ : Rho} {f : α → AH → Out} (h : ∀ a h', okT (f a h') = true) : okT (r.out ρ f) = true := by
  cases r with
  | ok a h' => exact h a h'
  | exc c p h' => rfl
  | fail => rfl
theorem okT_bind {o : Out} {f : Rho → AH → Out} (h0 : okT o = true) (h : ∀ a h', okT (f a h') = true) : okT (o.bind f) = true := by
  cases o with
  | next a h' => exact h a h'
  | exc c p ρ h' => rfl
  | fail => rfl
  | _ => cases h0
mutual
theorem asT_ok (F : Fn) : ∀ (t : T) (d : D) (ρ : Rho) (h : AH), okT (asT F t d ρ h) = true
  | .var i, d, ρ, h => rfl
  | .tup ts, d, ρ, h => by
    unfold asT
    split
    · split
      · exact asTs_ok F ts _ ρ h
      · rfl
    · rfl
  | .idx o i, d, ρ, h => by
    unfold asT
    refine okT_out fun x h1 => okT_out fun y h2 => ?_
    split <;> rfl
  | .dix o i, d, ρ, h => by
    unfold asT
    refine okT_out fun x h1 => okT_out fun y h2 => ?_
    split <;> rfl
  | .slot c o i, d, ρ, h => by
    unfold asT
    refine okT_out fun x h1 => ?_
    split <;> rfl
theorem asTs_ok (F : Fn) : ∀ (t : List T) (d : List D) (ρ : Rho) (h : AH), okT (asTs F t d ρ h) = true
  | [], [], ρ, h => rfl
  | t :: ts, x :: xs, ρ, h => by
    unfold asTs
    exact okT_bind (asT_ok F t x ρ h) fun ρ1 h1 => asTs_ok F ts xs ρ1 h1
  | [], _ :: _, _, _ => rfl
  | _ :: _, [], _, _ => rfl
end
theorem asT_ret {t : T} {d x : D} {ρ : Rho} {h h' : AH} (e : asT F t d ρ h = .ret x h') : False := by
  have := asT_ok F t d ρ h
  rw [e] at this
  cases this
theorem asT_brk {t : T} {d : D} {ρ ρ' : Rho} {h h' : AH} (e : asT F t d ρ h = .brk ρ' h') : False := by
  have := asT_ok F t d ρ h
  rw [e] at this
  cases this
theorem asT_cont {t : T} {d : D} {ρ ρ' : Rho} {h h' : AH} (e : asT F t d ρ h = .cont ρ' h') : False := by
  have := asT_ok F t d ρ h
  rw [e] at this
  cases this
section
variable {X : Cx} {a b c : Expr} {ia ib ic : E} {pos : Pos} {ss bs : List Stmt} {is ibs : List S}
theorem z_nil : PSs X [] (tSs Γ F Wx []) := pssImp pss_nil fun D σ H ⟨W, ρ, st, hR, g⟩ => g W H σ rfl (.refl _ _) hR st
theorem z_cons {s : Stmt} {i : S} (h1 : PS X s (tS Γ F Wx i)) (h2 : PSs X ss (tSs Γ F Wx is)) : PSs X (s :: ss) (tSs Γ F Wx (i :: is)) := by
  refine pssImp (pss_cons h1 h2) fun D σ H ⟨W, ρ, st, hR, g⟩ => ?_
  unfold evSs at g
  exact ⟨W, ρ, st, hR, g.seq fun ρ' W' H' σ' x hR' st' g' => ⟨W', ρ', st', hR', g'⟩⟩
theorem z_pass : PS X (.Pass pos) (tS Γ F Wx .pass) := psImp ps_pass fun D σ H ⟨W, ρ, st, hR, g⟩ => g W H σ rfl (.refl _ _) hR st
theorem z_brk : PS X (.Break pos) (tS Γ F Wx .brk) := psImp ps_break fun D σ H ⟨W, ρ, st, hR, g⟩ => g W H σ rfl (.refl _ _) hR st
theorem z_cont : PS X (.Continue pos) (tS Γ F Wx .cont) := psImp ps_continue fun D σ H ⟨W, ρ, st, hR, g⟩ => g W H σ rfl (.refl _ _) hR st
theorem z_expr (ha : PE X a (tE Γ F Wx ia)) (hs : swapsWith a none pos.line X.env = pure false) : PS X (.Expr a pos) (tS Γ F Wx (.expr ia)) := by
  refine psImp (ps_expr ha hs) fun D σ H ⟨W, ρ, st, hR, g⟩ => ?_
  unfold evS at g
  exact bindS st hR g fun d W1 H1 v x1 hR1 st1 rd g1 => g1 W1 H1 σ rfl (.refl _ _) hR1 st1
theorem z_ret (ha : PE X a (tE Γ F Wx ia)) : PS X (.Return (some a) pos) (tS Γ F Wx (.ret ia)) := by
  refine psImp (ps_ret ha) fun D σ H ⟨W, ρ, st, hR, g⟩ => ?_
  unfold evS at g
  exact bindS st hR g fun d W1 H1 v x1 hR1 st1 rd g1 => OkP.here hR1 g1 rd
theorem z_retN : PS X (.Return none pos) (tS Γ F Wx .retN) := psImp ps_retN fun D σ H ⟨W, ρ, st, hR, g⟩ => OkP.here hR g .non
theorem z_set {i : Nat} {x : Str} {p : Pos} (hN : X.N.Nodup) (hi : X.N[i]? = some x) (hx : Loc X.env.scope x) (ha : PE X a (tE Γ F Wx ia)) (hs : swapsWith a (some (.Name x p)) pos.line X.env = pure false) (hf : X.fn x = true ∨ X.env.scope.names.lookup x = some .local) :
    PS X (.Assign [.Name x p] a pos) (tS Γ F Wx (.asg (.var i) ia)) := by
  refine psImp (ps_set hN hi hx ha hs hf) fun D σ H ⟨W, ρ, st, hR, g⟩ => ?_
  unfold evS at g
  exact bindS st hR g fun d W1 H1 v x1 hR1 st1 rd g1 => g1 W1 H1 _ rfl (.refl _ _) hR1 (st1.set i rd)
/-- name = [..] on one line -/
theorem z_setC {i : Nat} {x : Str} {p : Pos} (h : PS X (.Assign [.Name x p] a pos) (fun D σ H => tE Γ F Wx ia σ H fun v H1 => D.nx (σ.set i (some v)) H1)) : PS X (.Assign [.Name x p] a pos) (tS Γ F Wx (.asg (.var i) ia)) := by
  refine psImp h fun D σ H ⟨W, ρ, st, hR, g⟩ => ?_
  unfold evS at g
  exact bindS st hR g fun d W1 H1 v x1 hR1 st1 rd g1 => g1 W1 H1 _ rfl (.refl _ _) hR1 (st1.set i rd)
theorem as_plain {tg : Expr} {env : Env} (h : noStar tg = true) : List.map (fun x => x.2) (assignEach [tg] env) = [assign tg env] := by
  cases tg <;> first | rfl | cases h
theorem z_asg {tg : Expr} {t : T} (ha : PE X a (tE Γ F Wx ia)) (hg : PG X tg (tT Γ F Wx t)) (hs : swapsWithSole [tg] a pos.line X.env = pure false) (hw : swappedStores [tg] a X.env = pure none) (ht : noStar tg = true) : PS X (.Assign [tg] a pos) (tS Γ F Wx (.asg t ia)) := by
  refine psImp (ps_asg ha hg hs hw (as_plain ht)) fun D σ H ⟨W, ρ, st, hR, g⟩ => ?_
  unfold evS at g
  refine bindS st hR g fun d W1 H1 v x1 hR1 st1 rd g1 => ⟨W1, ρ, d, st1, hR1, rd, ?_⟩
  cases r : asT F t d ρ W1.ah with
  | next ρ' h' => rw [r] at g1; exact g1
  | exc c p ρ' h' => rw [r] at g1; exact g1
  | fail => rw [r] at g1; exact g1
  | ret d' h' => exact (asT_ret r).elim
  | brk ρ' h' => exact (asT_brk r).elim
  | cont ρ' h' => exact (asT_cont r).elim
theorem z_par {i j : Nat} {x y : Str} {px py pt : Pos} {kt k2 : Nat} {pt2 : Pos} (hc : X.calm = true) (hN : X.N.Nodup) (hi : X.N[i]? = some x) (hj : X.N[j]? = some y) (hij : i ≠ j) (hx : X.env.scope.names.lookup x = some .local) (hy : X.env.scope.names.lookup y = some .local)
    (hes : PA X [a, b] (tEs Γ F Wx [ia, ib])) (hw : swappedStores [.Tuple [.Name x px, .Name y py] kt pt] (.Tuple [a, b] k2 pt2) X.env = pure (some [x, y])) (hs : swapsWithSole [.Tuple [.Name x px, .Name y py] kt pt] (.Tuple [a, b] k2 pt2) pos.line X.env = pure false) :
    PS X (.Assign [.Tuple [.Name x px, .Name y py] kt pt] (.Tuple [a, b] k2 pt2) pos) (tS Γ F Wx (.par [i, j] [ia, ib])) := by
  refine psImp (ps_par hc hN hi hj hij hx hy hes hw hs) fun D σ H ⟨W, ρ, st, hR, g⟩ => ?_
  unfold evS at g
  refine bindSs st hR g fun d W1 H1 v x1 hR1 st1 rd g1 => ?_
  match d, rd, g1 with
  | [], _, g1 => exact g1.elim
  | [_], _, g1 => exact g1.elim
  | [d1, d2], .cons r1 (.cons r2 .nil), g1 => exact ⟨_, _, rfl, g1 W1 H1 _ rfl (.refl _ _) hR1 ((st1.set i r1).set j r2)⟩
  | _ :: _ :: _ :: _, _, g1 => exact g1.elim
theorem z_if (hc : PT X c (tB Γ F Wx ic)) (ha : PSs X ss (tSs Γ F Wx is)) (hb : PSs X bs (tSs Γ F Wx ibs)) : PS X (.If c ss bs pos) (tS Γ F Wx (.cond ic is ibs)) := by
  refine psImp (ps_if hc ha hb) fun D σ H ⟨W, ρ, st, hR, g⟩ => ?_
  unfold evS at g
  refine bindST st hR g (fun d h n => ?_) fun k W1 H1 x1 hR1 st1 g1 => ?_
  · cases d with
    | bl b => exact absurd rfl (n b)
    | _ => rfl
  · cases k with
    | true => rw [if_pos rfl]; exact ⟨W1, ρ, st1, hR1, g1⟩
    | false => rw [if_neg Bool.false_ne_true]; exact ⟨W1, ρ, st1, hR1, g1⟩
theorem z_while (hp : PassesOwn (model X.prog X.w) X.A X.env X.xe) (hc : PT X c (tB Γ F Wx ic)) (ha : PSs X ss (tSs Γ F Wx is)) : PS X (.While c ss [] pos) (tS Γ F Wx (.loop ic is)) := by
  refine psImp (ps_while hp hc ha) fun D σ H ⟨W, ρ, st, hR, g⟩ => ?_
  unfold evS at g
  refine ⟨fun n σ H => ∃ W ρ, RelSt Γ.toCls0 W H ρ σ ∧ RelH Γ.toCls0 W H ∧ GoS Γ Wx W H (whileN (evE F ic) (evSs F is) n ρ W.ah) D, ⟨turns, W, ρ, st, hR, g⟩, ?_⟩
  rintro n σ1 H1 ⟨W1, ρ1, st1, hR1, g1⟩
  cases n with
  | zero => exact g1.elim
  | succ n =>
    unfold whileN at g1
    refine bindST st1 hR1 g1 (fun d h n => ?_) fun k W2 H2 x2 hR2 st2 g2 => ?_
    · cases d with
      | bl b => exact absurd rfl (n b)
      | _ => rfl
    · cases k with
      | false =>
        rw [if_neg Bool.false_ne_true]
        exact g2 W2 H2 σ1 rfl (.refl _ _) hR2 st2
      | true =>
        rw [if_pos rfl]
        refine ⟨fun σ' H' => ∃ W ρ, RelSt Γ.toCls0 W H' ρ σ' ∧ RelH Γ.toCls0 W H' ∧ GoS Γ Wx W H' (whileN (evE F ic) (evSs F is) n ρ W.ah) D, fun σ' H' h => ⟨n, Nat.lt_succ_self _, h⟩, W2, ρ1, st2, hR2, ?_⟩
        cases r : evSs F is ρ1 W2.ah with
        | next ρ' h' =>
          simp only [r] at g2
          intro W' H' σ' e x hR' st'
          subst e
          exact ⟨W', ρ', st', hR', GoS.ext x g2⟩
        | cont ρ' h' =>
          simp only [r] at g2
          intro W' H' σ' e x hR' st'
          subst e
          exact ⟨W', ρ', st', hR', GoS.ext x g2⟩
        | brk ρ' h' =>
          simp only [r] at g2
          exact g2
        | ret d h' => simp only [r] at g2; exact g2
        | exc c p ρ' h' => simp only [r] at g2; exact g2
        | fail => simp only [r] at g2; exact g2
end
end PI
set_option maxRecDepth 100000
set_option maxHeartbeats 1000000
/-! Targets and walks. -/
namespace PI
open PySem L2
variable {Γ : Cls1} {F : Fn} {Wx : WX}
section
variable {X : Cx} {pos : Pos}
theorem g_var {i : Nat} {x : Str} (hN : X.N.Nodup) (hi : X.N[i]? = some x) (hx : Loc X.env.scope x) (hf : X.fn x = true ∨ X.env.scope.names.lookup x = some .local) : PG X (.Name x pos) (tT Γ F Wx (.var i)) :=
  pgImp (pg_name hN hi hx hf) fun v σ H Q ⟨W, ρ, d, st, hR, rd, g⟩ => g W H _ rfl (.refl _ _) hR (st.set i rd)
theorem g_nil : PGs X [] (tTs Γ F Wx []) := pgsImp pgs_nil fun v σ H Q ⟨W, ρ, d, st, hR, rd, g⟩ => by
  cases d with
  | nil => cases rd; exact ⟨rfl, g W H _ rfl (.refl _ _) hR st⟩
  | cons _ _ => exact g.elim
theorem seqT {W : Wd} {H : Hp} {o : Out} {f : Rho → AH → Out} {Q N : St → Hp → Prop} (ok : okT o = true) (g : GoS Γ Wx W H (o.bind f) { nx := Q, rt := fun _ _ => False, bk := fun _ _ => False, ct := fun _ _ => False }) (k : ∀ ρ W' H' σ, Ext W H W' H' → RelH Γ.toCls0 W' H' → RelSt Γ.toCls0 W' H' ρ σ → GoS Γ Wx W' H' (f ρ W'.ah) { nx := Q, rt := fun _ _ => False, bk := fun _ _ => False, ct := fun _ _ => False } → N σ H') :
    GoS Γ Wx W H o { nx := N, rt := fun _ _ => False, bk := fun _ _ => False, ct := fun _ _ => False } := by
  cases o with
  | next ρ h' =>
    intro W' H' σ e x hR st
    subst e
    exact k ρ W' H' σ x hR st (GoS.ext x g)
  | exc c p ρ h' => exact g
  | fail => exact g
  | _ => cases ok
theorem g_cons {e : Expr} {es : List Expr} {t : T} {ts : List T} (h1 : PG X e (tT Γ F Wx t)) (h2 : PGs X es (tTs Γ F Wx ts)) (ha : List.map (fun x => x.snd) (assignEach (e :: es) X.env) = assign e X.env :: List.map (fun x => x.snd) (assignEach es X.env)) : PGs X (e :: es) (tTs Γ F Wx (t :: ts)) := by
  refine pgsImp (pgs_cons h1 h2 ha) fun v σ H Q ⟨W, ρ, d, st, hR, rd, g⟩ => ?_
  match d, v, rd, g with
  | _, _, .nil, g => exact g.elim
  | _, _, @RelDs.cons _ _ _ d0 v0 ds vs r rs, g =>
    unfold asTs at g
    exact ⟨v0, vs, rfl, W, ρ, d0, st, hR, r, seqT (asT_ok F t d0 ρ W.ah) g fun ρ' W' H' σ' x hR' st' g' => ⟨W', ρ', ds, st', hR', rs.ext x, g'⟩⟩
theorem g_tup (hK : X.K = Γ.K) (hc : X.calm = true) {es : List Expr} {ts : List T} {k : Nat} (h : PGs X es (tTs Γ F Wx ts)) (hl : (assignEach es X.env).length = ts.length) (hs : List.findIdx? (fun x => x.fst) (assignEach es X.env) = none) : PG X (.Tuple es k pos) (tT Γ F Wx (.tup ts)) := by
  refine pgImp (pg_tup hc h hl hs) fun v σ H Q ⟨W, ρ, d, st, hR, rd, g⟩ => ?_
  unfold asT at g
  split at g
  · split at g
    · rename_i xs hn
      cases rd with
      | tup h1 r => exact ⟨_, _, rfl, by rw [hK]; exact h1, by rw [← r.length]; exact hn, W, ρ, xs, st, hR, r, g⟩
    · exact g.elim
  · exact g.elim
theorem g_idx {o i : Expr} {io ii : E} (ho : PE X o (tE Γ F Wx io)) (hi : PE X i (tE Γ F Wx ii)) (ha : ∀ (v : Value), assign (o.Subscript i pos) X.env v = do
      let ov ← holding [v] (eval o X.env)
      let iv ← holding [v, ov] (eval i X.env)
      standAt pos
      holding [v, ov, iv] (setItem ov iv v)
      release [v, ov, iv] []) : PG X (.Subscript o i pos) (tT Γ F Wx (.idx io ii)) := by
  refine pgImp (pg_sub ho hi set_list ha) fun v σ H Q ⟨W, ρ, d, st, hR, rd, g⟩ => ?_
  unfold asT at g
  refine bindS st hR g fun d1 W1 H1 v1 x1 hR1 st1 rd1 g1 => bindS st1 hR1 g1 fun d2 W2 H2 v2 x2 hR2 st2 rd2 g2 => ?_
  split at g2
  · rename_i h3 e3
    exact setIx_list hR2 (rd1.ext x2) rd2 ((rd.ext x1).ext x2) e3 fun W' H' e x hR' => g2 W' H' σ e x hR' (st2.ext x)
  · exact g2.elim
/-- a walk from its turns -/
theorem for_go {tg : T} {b : List S} {J : It} {xs : List D} {st : AH → Bool} {s : D} {v : V} {ρ : Rho} {σ : St} {H : Hp} {W : Wd} {D : Ends}
    (hst : RelSt Γ.toCls0 W H ρ σ) (hR : RelH Γ.toCls0 W H) (rs : RelD Γ.toCls0 W H s v) (iok : IterOK Γ.toCls0 J xs st s v)
    (g : GoS Γ Wx W H (goF (fun x ρ1 h2 => (asT F tg x ρ1 h2).bind fun ρ2 h3 => evSs F b ρ2 h3) st xs ρ W.ah) D) :
    ∃ Wn : Nat → Nat → St → Hp → Prop, (∃ m, Wn 0 m σ H) ∧ ∀ i m σ H, Wn i m σ H →
      (J.stop i H ∧ D.nx σ H) ∨ (J.go i H ∧ ∃ N : St → Hp → Prop, (∀ σ' H', N σ' H' → ∃ m', m' < m ∧ Wn (i + 1) m' σ' H') ∧ ∀ x H', J.yld i H x H' → tT Γ F Wx tg x σ H' fun σ2 H2 => tSs Γ F Wx b { D with nx := N, ct := N, bk := D.nx } σ2 H2) := by
  refine ⟨fun i m σ H => i ≤ xs.length ∧ m = xs.length - i ∧ ∃ W ρ, RelSt Γ.toCls0 W H ρ σ ∧ RelH Γ.toCls0 W H ∧ RelD Γ.toCls0 W H s v ∧ GoS Γ Wx W H (goF (fun x ρ1 h2 => (asT F tg x ρ1 h2).bind fun ρ2 h3 => evSs F b ρ2 h3) st (xs.drop i) ρ W.ah) D, ⟨xs.length, Nat.zero_le _, by simp, W, ρ, hst, hR, rs, by rw [List.drop_zero]; exact g⟩, ?_⟩
  rintro i m σ1 H1 ⟨hi, rfl, W1, ρ1, st1, hR1, rs1, g1⟩
  by_cases hlt : i < xs.length
  · right
    rw [List.drop_eq_getElem_cons hlt] at g1
    unfold goF at g1
    split at g1
    · rename_i c0
      obtain ⟨a1, a2⟩ := iok.go W1 H1 i xs[i] hR1 rs1 c0 (List.getElem?_eq_getElem hlt)
      refine ⟨a1, fun σ' H' => ∃ W ρ, RelSt Γ.toCls0 W H' ρ σ' ∧ RelH Γ.toCls0 W H' ∧ RelD Γ.toCls0 W H' s v ∧ GoS Γ Wx W H' (goF (fun x ρ1 h2 => (asT F tg x ρ1 h2).bind fun ρ2 h3 => evSs F b ρ2 h3) st (xs.drop (i + 1)) ρ W.ah) D, fun σ' H' h' => ⟨xs.length - (i + 1), by omega, by omega, rfl, h'⟩, fun x H2 hy => ?_⟩
      obtain ⟨x2, hR2, rx⟩ := a2 x H2 hy
      have st2 := st1.ext x2
      have rs2 := rs1.ext x2
      have g2 := GoS.ext x2 g1
      refine ⟨W1, ρ1, xs[i], st2, hR2, rx, ?_⟩
      cases r : asT F tg xs[i] ρ1 W1.ah with
      | next ρ' h' =>
        rw [r] at g2
        intro W3 H3 σ3 e x3 hR3 st3
        subst e
        refine ⟨W3, ρ', st3, hR3, ?_⟩
        have g2 : GoS Γ Wx W1 H2 (match evSs F b ρ' W3.ah with
          | .next ρ1 h1 => goF (fun x ρ1 h2 => (asT F tg x ρ1 h2).bind fun ρ2 h3 => evSs F b ρ2 h3) st (xs.drop (i + 1)) ρ1 h1
          | .cont ρ1 h1 => goF (fun x ρ1 h2 => (asT F tg x ρ1 h2).bind fun ρ2 h3 => evSs F b ρ2 h3) st (xs.drop (i + 1)) ρ1 h1
          | .brk ρ1 h1 => .next ρ1 h1
          | o => o) D := g2
        have rs3 := rs2.ext x3
        have g2 := GoS.ext x3 g2
        cases q : evSs F b ρ' W3.ah with
        | next ρ4 h4 =>
          simp only [q] at g2
          intro W' H' σ' e x hR' st'
          subst e
          exact ⟨W', ρ4, st', hR', rs3.ext x, GoS.ext x g2⟩
        | cont ρ4 h4 =>
          simp only [q] at g2
          intro W' H' σ' e x hR' st'
          subst e
          exact ⟨W', ρ4, st', hR', rs3.ext x, GoS.ext x g2⟩
        | brk ρ4 h4 => simp only [q] at g2; exact g2
        | ret d h4 => simp only [q] at g2; exact g2
        | exc c p ρ4 h4 => simp only [q] at g2; exact g2
        | fail => simp only [q] at g2; exact g2
      | exc c p ρ' h' => rw [r] at g2; exact g2
      | fail => rw [r] at g2; exact g2
      | ret d' h' => exact (asT_ret r).elim
      | brk ρ' h' => exact (asT_brk r).elim
      | cont ρ' h' => exact (asT_cont r).elim
    · exact g1.elim
  · left
    have : i = xs.length := by omega
    subst this
    rw [List.drop_length] at g1
    unfold goF at g1
    split at g1
    · rename_i c0
      exact ⟨iok.stop W1 H1 hR1 rs1 c0, g1 W1 H1 σ1 rfl (.refl _ _) hR1 st1⟩
    · exact g1.elim
section
variable {tg iter : Expr} {body : List Stmt} {t : T} {b : List S} {src na nb : E}
theorem z_each (hp : PassesOwn (model X.prog X.w) X.A X.env X.xe) (hc : X.calm = true) (hi : PI X tg iter (tI Γ F Wx src)) (hg : PG X tg (tT Γ F Wx t)) (hb : PSs X body (tSs Γ F Wx b)) (hs : ∀ (x : Value), foldedSetIterable iter X.env x = pure x) : PS X (.For tg iter body [] pos) (tS Γ F Wx (.each t src b)) := by
  refine psImp (ps_for hp hc hi hg hb hs) fun D σ H ⟨W, ρ, st, hR, g⟩ => ?_
  unfold evS at g
  refine ⟨W, ρ, st, hR, ?_⟩
  cases r : evE F src ρ W.ah with
  | ok s h1 =>
    rw [r] at g
    have g : GoS Γ Wx W H (match srcItems h1 s with
      | some xs => goF (fun x ρ1 h2 => (asT F t x ρ1 h2).bind fun ρ2 h3 => evSs F b ρ2 h3) (still xs s) xs ρ h1
      | none => .fail) D := g
    cases rs : srcItems h1 s with
    | none => simp only [rs] at g; exact g.elim
    | some xs =>
      simp only [rs] at g
      refine ⟨xs, rs, fun W' H' v J e x hR' rd iok => ?_⟩
      subst e
      exact for_go (st.ext x) hR' rd iok (GoS.ext x g)
  | exc c p h' => rw [r] at g; exact fun W' H' od e x hR' py => g W' H' σ od e x hR' (st.ext x) py
  | fail => rw [r] at g; exact g
theorem z_rng1 (hp : PassesOwn (model X.prog X.w) X.A X.env X.xe) (hc : X.calm = true) (hi : PI X tg iter (tI1 Γ F Wx src)) (hg : PG X tg (tT Γ F Wx t)) (hb : PSs X body (tSs Γ F Wx b)) (hs : ∀ (x : Value), foldedSetIterable iter X.env x = pure x) : PS X (.For tg iter body [] pos) (tS Γ F Wx (.rng t [src] b)) := by
  refine psImp (ps_for hp hc hi hg hb hs) fun D σ H ⟨W, ρ, st, hR, g⟩ => ?_
  unfold evS evEs evEs at g
  refine ⟨W, ρ, st, hR, ?_⟩
  cases r : evE F src ρ W.ah with
  | ok s h1 =>
    rw [r] at g
    cases s with
    | int k =>
      have g : GoS Γ Wx W H (if small62 k = true then goF (fun x ρ1 h2 => (asT F t x ρ1 h2).bind fun ρ2 h3 => evSs F b ρ2 h3) (fun _ => true) (rangeD 0 k) ρ h1 else .fail) D := g
      split at g
      · rename_i hk
        refine ⟨rangeD 0 k, by show (if small62 k = true then some (rangeD 0 k) else none) = _; rw [if_pos hk], fun W' H' J e x hR' iok => ?_⟩
        subst e
        exact for_go (st.ext x) hR' .non iok (GoS.ext x g)
      · exact g.elim
    | _ => exact g.elim
  | exc c p h' => rw [r] at g; exact fun W' H' od e x hR' py => g W' H' σ od e x hR' (st.ext x) py
  | fail => rw [r] at g; exact g
def tI2 (Γ : Cls1) (F : Fn) (Wx : WX) (ns : List E) : TI := fun σ H R => ∃ W ρ, RelSt Γ.toCls0 W H ρ σ ∧ RelH Γ.toCls0 W H ∧ match evEs F ns ρ W.ah with
  | .ok ks h1 => ∃ lo hi, ks = [.int lo, .int hi] ∧ small62 lo = true ∧ small62 hi = true ∧ ∀ (W' : Wd) (H' : Hp) (J : It), W'.ah = h1 → Ext W H W' H' → RelH Γ.toCls0 W' H' → IterOK Γ.toCls0 J (rangeD lo hi) (fun _ => true) .non .non → R J H'
  | .exc c p h' => ExP Γ W H h' c p (wE Wx σ)
  | .fail => False
theorem s_rng2 {a a2 : Expr} {p : Pos} (hg : Gl X "range") (hm : X.mg "range" = none) (h : PA X [a, a2] (tEs Γ F Wx [na, nb])) (h1 : noStar a = true) (h2 : noStar a2 = true) : PI X tg (.Call (.Name "range" p) [a, a2] [] pos) (tI2 Γ F Wx [na, nb]) := by
  refine piImp (pi_range2 hg hm h ?_ (star_cons h2)) fun σ H R ⟨W, ρ, st, hR, g⟩ => ?_
  · rw [star_cons h1, star_cons h2]; rfl
  refine ⟨W, ρ, st, hR, ?_⟩
  cases r : evEs F [na, nb] ρ W.ah with
  | ok ks h1 =>
    rw [r] at g
    obtain ⟨lo, hi, e, s1, s2, g⟩ := g
    subst e
    intro W' H' vs e1 x hR' rd
    cases rd with
    | cons r1 rs =>
      cases rs with
      | cons r2 rs =>
        cases rs
        cases r1
        cases r2
        have s1 := small62_iff s1
        have s2 := small62_iff s2
        exact ⟨lo, hi, rfl, ⟨s1.1, s1.2, s2.1, s2.2⟩, g W' H' _ e1 x hR' iter_rng⟩
  | exc c p h' => rw [r] at g; exact g
  | fail => rw [r] at g; exact g
theorem two_len {ρ : Rho} {h0 h2 : AH} {l : List D} (e : evEs F [na, nb] ρ h0 = .ok l h2) : l.length = 2 := by
  unfold evEs at e
  cases q : evE F na ρ h0 with
  | ok a b =>
    rw [q] at e
    unfold evEs at e
    have e : ((evE F nb ρ b).bind fun x h1 => (evEs F [] ρ h1).bind fun xs h2 => .ok (x :: xs) h2).bind (fun xs h2 => .ok (a :: xs) h2) = .ok l h2 := e
    cases q2 : evE F nb ρ b with
    | ok a2 b2 =>
      rw [q2] at e
      unfold evEs at e
      cases e
      rfl
    | exc _ _ _ => rw [q2] at e; cases e
    | fail => rw [q2] at e; cases e
  | exc _ _ _ => rw [q] at e; cases e
  | fail => rw [q] at e; cases e
theorem z_rng2 (hp : PassesOwn (model X.prog X.w) X.A X.env X.xe) (hc : X.calm = true) (hi : PI X tg iter (tI2 Γ F Wx [na, nb])) (hg : PG X tg (tT Γ F Wx t)) (hb : PSs X body (tSs Γ F Wx b)) (hs : ∀ (x : Value), foldedSetIterable iter X.env x = pure x) : PS X (.For tg iter body [] pos) (tS Γ F Wx (.rng t [na, nb] b)) := by
  refine psImp (ps_for hp hc hi hg hb hs) fun D σ H ⟨W, ρ, st, hR, g⟩ => ?_
  unfold evS at g
  refine ⟨W, ρ, st, hR, ?_⟩
  cases r : evEs F [na, nb] ρ W.ah with
  | ok ks h1 =>
    rw [r] at g
    obtain ⟨k1, k2, e0⟩ : ∃ k1 k2, ks = [k1, k2] := by
      have := two_len r
      match ks, this with
      | [k1, k2], _ => exact ⟨k1, k2, rfl⟩
    subst e0
    cases k1 with
    | int lo =>
      cases k2 with
      | int hi0 =>
        have g : GoS Γ Wx W H (if (small62 lo && small62 hi0) = true then goF (fun x ρ1 h2 => (asT F t x ρ1 h2).bind fun ρ2 h3 => evSs F b ρ2 h3) (fun _ => true) (rangeD lo hi0) ρ h1 else .fail) D := g
        split at g
        · rename_i hk
          obtain ⟨k1, k2⟩ := and2 hk
          refine ⟨lo, hi0, rfl, k1, k2, fun W' H' J e x hR' iok => ?_⟩
          subst e
          exact for_go (st.ext x) hR' .non iok (GoS.ext x g)
        · exact g.elim
      | _ => exact g.elim
    | _ => exact g.elim
  | exc c p h' => rw [r] at g; exact fun W' H' od e x hR' py => g W' H' σ od e x hR' (st.ext x) py
  | fail => rw [r] at g; exact g
def tI3 (Γ : Cls1) (F : Fn) (Wx : WX) (ns : List E) : TI := fun σ H R => ∃ W ρ, RelSt Γ.toCls0 W H ρ σ ∧ RelH Γ.toCls0 W H ∧ match evEs F ns ρ W.ah with
  | .ok ks h1 => ∃ lo hi, ks = [.int lo, .int hi, .int (-1)] ∧ small62 lo = true ∧ small62 hi = true ∧ ∀ (W' : Wd) (H' : Hp) (J : It), W'.ah = h1 → Ext W H W' H' → RelH Γ.toCls0 W' H' → IterOK Γ.toCls0 J (rangeDn lo hi) (fun _ => true) .non .non → R J H'
  | .exc c p h' => ExP Γ W H h' c p (wE Wx σ)
  | .fail => False
variable {nc : E}
theorem s_rng3 {a a2 a3 : Expr} {p : Pos} (hg : Gl X "range") (hm : X.mg "range" = none) (h : PA X [a, a2, a3] (tEs Γ F Wx [na, nb, nc])) (h1 : noStar a = true) (h2 : noStar a2 = true) (h3 : noStar a3 = true) : PI X tg (.Call (.Name "range" p) [a, a2, a3] [] pos) (tI3 Γ F Wx [na, nb, nc]) := by
  have n23 : [a2, a3].all noStar = true := by simp [h2, h3]
  refine piImp (pi_range3 hg hm h (star_cons h1) (back_any n23)) fun σ H R ⟨W, ρ, st, hR, g⟩ => ?_
  refine ⟨W, ρ, st, hR, ?_⟩
  cases r : evEs F [na, nb, nc] ρ W.ah with
  | ok ks h1 =>
    rw [r] at g
    obtain ⟨lo, hi, e, s1, s2, g⟩ := g
    subst e
    intro W' H' vs e1 x hR' rd
    cases rd with
    | cons r1 rs =>
      cases rs with
      | cons r2 rs =>
        cases rs with
        | cons r3 rs =>
          cases rs
          cases r1
          cases r2
          cases r3
          have s1 := small62_iff s1
          have s2 := small62_iff s2
          exact ⟨lo, hi, -1, (lo - hi).toNat, rfl, RgC.neg s1.1 s1.2 s2.1 s2.2, g W' H' _ e1 x hR' iter_dn⟩
  | exc c p h' => rw [r] at g; exact g
  | fail => rw [r] at g; exact g
theorem evs_len {F : Fn} {ρ : Rho} : ∀ {es : List E} {h0 h2 : AH} {l : List D}, evEs F es ρ h0 = .ok l h2 → l.length = es.length
  | [], _, _, _, e => by unfold evEs at e; cases e; rfl
  | a :: es, h0, h2, l, e => by
    unfold evEs at e
    cases q : evE F a ρ h0 with
    | ok x b =>
      rw [q] at e
      have e : (evEs F es ρ b).bind (fun xs h2 => .ok (x :: xs) h2) = .ok l h2 := e
      cases q2 : evEs F es ρ b with
      | ok xs c =>
        rw [q2] at e
        cases e
        exact congrArg Nat.succ (evs_len q2)
      | exc _ _ _ => rw [q2] at e; cases e
      | fail => rw [q2] at e; cases e
    | exc _ _ _ => rw [q] at e; cases e
    | fail => rw [q] at e; cases e
theorem three_len {ρ : Rho} {h0 h2 : AH} {l : List D} (e : evEs F [na, nb, nc] ρ h0 = .ok l h2) : l.length = 3 := evs_len e
theorem z_rng3 (hp : PassesOwn (model X.prog X.w) X.A X.env X.xe) (hc : X.calm = true) (hi : PI X tg iter (tI3 Γ F Wx [na, nb, nc])) (hg : PG X tg (tT Γ F Wx t)) (hb : PSs X body (tSs Γ F Wx b)) (hs : ∀ (x : Value), foldedSetIterable iter X.env x = pure x) : PS X (.For tg iter body [] pos) (tS Γ F Wx (.rng t [na, nb, nc] b)) := by
  refine psImp (ps_for hp hc hi hg hb hs) fun D σ H ⟨W, ρ, st, hR, g⟩ => ?_
  unfold evS at g
  refine ⟨W, ρ, st, hR, ?_⟩
  cases r : evEs F [na, nb, nc] ρ W.ah with
  | ok ks h1 =>
    rw [r] at g
    obtain ⟨k1, k2, k3, e0⟩ : ∃ k1 k2 k3, ks = [k1, k2, k3] := by
      have := three_len r
      match ks, this with
      | [k1, k2, k3], _ => exact ⟨k1, k2, k3, rfl⟩
    subst e0
    cases k1 with
    | int lo =>
      cases k2 with
      | int hi0 =>
        cases k3 with
        | int c =>
          have g2 : GoS Γ Wx W H (if (decide (c = -1) && (small62 lo && small62 hi0)) = true then goF (fun x ρ1 h2 => (asT F t x ρ1 h2).bind fun ρ2 h3 => evSs F b ρ2 h3) (fun _ => true) (rangeDn lo hi0) ρ h1 else .fail) D := g
          split at g2
          · rename_i hk
            obtain ⟨k0, hk⟩ := and2 hk
            obtain ⟨k1, k2⟩ := and2 hk
            have k0 := of_decide_eq_true k0
            subst k0
            refine ⟨lo, hi0, rfl, k1, k2, fun W' H' J e x hR' iok => ?_⟩
            subst e
            exact for_go (st.ext x) hR' .non iok (GoS.ext x g2)
          · exact g2.elim
        | _ => exact g.elim
      | _ => exact g.elim
    | _ => exact g.elim
  | exc c p h' => rw [r] at g; exact fun W' H' od e x hR' py => g W' H' σ od e x hR' (st.ext x) py
  | fail => rw [r] at g; exact g
end
end
end PI
set_option maxRecDepth 100000
set_option maxHeartbeats 1000000
/-! An error at hand, and none. -/
namespace PI
open PySem L2
section
variable {Γ : Cls0} {W : Wd} {H : Hp} {z : Option (Addr × Addr)}
mutual
theorem RelD.warm (h0 : Γ.hot = none) : ∀ {d : D} {v : V}, RelD Γ W H d v → RelD { Γ with hot := z } W H d v
  | _, _, .non => .non
  | _, _, .bl b => .bl b
  | _, _, .int i => .int i
  | _, _, .str s => .str s
  | _, _, .tup h r => .tup h (RelDs.warm h0 r)
  | _, _, .lst h r => .lst h (RelDs.warm h0 r)
  | _, _, .scr h => .scr h
  | _, _, .dct h r => .dct h (RelKs.warm h0 r)
  | _, _, .loc h => .loc h
  | _, _, .hot h1 _ _ _ => (by rw [h0] at h1; cases h1)
  | _, _, .err h1 h2 h3 h4 h5 r => .err h1 h2 h3 h4 h5 (RelD.warm h0 r)
  | _, _, .msg h1 h2 h3 => .msg h1 h2 h3
theorem RelDs.warm (h0 : Γ.hot = none) : ∀ {d : List D} {v : List V}, RelDs Γ W H d v → RelDs { Γ with hot := z } W H d v
  | _, _, .nil => .nil
  | _, _, .cons r t => .cons (RelD.warm h0 r) (RelDs.warm h0 t)
theorem RelKs.warm (h0 : Γ.hot = none) : ∀ {d : List (D × D)} {v : List (Key × V)}, RelKs Γ W H d v → RelKs { Γ with hot := z } W H d v
  | _, _, .nil => .nil
  | _, _, .cons k r t => .cons k (RelD.warm h0 r) (RelKs.warm h0 t)
end
mutual
theorem RelD.cool : ∀ {d : D} {v : V}, RelD { Γ with hot := z } W H d v → cold d = true → RelD Γ W H d v
  | _, _, .non, _ => .non
  | _, _, .bl b, _ => .bl b
  | _, _, .int i, _ => .int i
  | _, _, .str s, _ => .str s
  | _, _, .tup h r, c => .tup h (RelDs.cool r (by simpa only [cold] using c))
  | _, _, .lst h r, c => .lst h (RelDs.cool r (by simpa only [cold] using c))
  | _, _, .scr h, _ => .scr h
  | _, _, .dct h r, c => .dct h (RelKs.cool r (by simpa only [cold] using c))
  | _, _, .loc h, _ => .loc h
  | _, _, .hot _ _ _ _, c => (by simp [cold] at c)
  | _, _, .err _ _ _ _ _ _, c => (by simp [cold] at c)
  | _, _, .msg _ _ _, c => (by simp [cold] at c)
theorem RelDs.cool : ∀ {d : List D} {v : List V}, RelDs { Γ with hot := z } W H d v → colds d = true → RelDs Γ W H d v
  | _, _, .nil, _ => .nil
  | _, _, .cons r t, c => by
    simp only [colds, Bool.and_eq_true] at c
    exact .cons (RelD.cool r c.1) (RelDs.cool t c.2)
theorem RelKs.cool : ∀ {d : List (D × D)} {v : List (Key × V)}, RelKs { Γ with hot := z } W H d v → coldk d = true → RelKs Γ W H d v
  | _, _, .nil, _ => .nil
  | _, _, .cons k r t, c => by
    simp only [coldk, Bool.and_eq_true] at c
    exact .cons k (RelD.cool r c.1) (RelKs.cool t c.2)
end
theorem RelO.warm (h0 : Γ.hot = none) {a : Addr} {o : AO} (r : RelO Γ W H a o) : RelO { Γ with hot := z } W H a o := by
  cases o with
  | dead => trivial
  | lst ds => obtain ⟨vs, h1, h2⟩ := r; exact ⟨vs, h1, h2.warm h0⟩
  | dct ds => obtain ⟨vs, h1, h2⟩ := r; exact ⟨vs, h1, h2.warm h0⟩
  | ins c fs =>
    obtain ⟨dx, vs, h1, h2, h3, h4⟩ := r
    exact ⟨dx, vs, h1, h2, h3, fun i d e => let ⟨v, e1, q⟩ := h4 i d e; ⟨v, e1, q.warm h0⟩⟩
theorem RelO.cool {a : Addr} {o : AO} (r : RelO { Γ with hot := z } W H a o) (c : coldA o = true) : RelO Γ W H a o := by
  cases o with
  | dead => trivial
  | lst ds => obtain ⟨vs, h1, h2⟩ := r; exact ⟨vs, h1, h2.cool c⟩
  | dct ds => obtain ⟨vs, h1, h2⟩ := r; exact ⟨vs, h1, h2.cool c⟩
  | ins c fs =>
    obtain ⟨dx, vs, h1, h2, h3, h4⟩ := r
    exact ⟨dx, vs, h1, h2, h3, fun i d e => let ⟨v, e1, q⟩ := h4 i d e; ⟨v, e1, q.cool (by
      have := List.all_eq_true.mp (show (fs.all fun o => match o with
        | some d => cold d
        | none => true) = true from c) _ (List.mem_of_getElem? e)
      exact this)⟩⟩
theorem RelH.warm (h0 : Γ.hot = none) (r : RelH Γ W H) : RelH { Γ with hot := z } W H := ⟨r.len, r.nd, fun n a o h1 h2 => (r.obj n a o h1 h2).warm h0, r.dom, r.hdom, r.sep⟩
theorem RelH.cool (r : RelH { Γ with hot := z } W H) (c : W.ah.all coldA = true) : RelH Γ W H := ⟨r.len, r.nd, fun n a o h1 h2 => (r.obj n a o h1 h2).cool (List.all_eq_true.mp c o (List.mem_of_getElem? h2)), r.dom, r.hdom, r.sep⟩
theorem RelSt.warm {ρ : Rho} {σ : St} (h0 : Γ.hot = none) (r : RelSt Γ W H ρ σ) : RelSt { Γ with hot := z } W H ρ σ := ⟨r.len, fun i d e => let ⟨v, h1, h2⟩ := r.at_ i d e; ⟨v, h1, h2.warm h0⟩⟩
theorem RelSt.cool {ρ : Rho} {σ : St} (r : RelSt { Γ with hot := z } W H ρ σ) (c : coldR ρ = true) : RelSt Γ W H ρ σ := ⟨r.len, fun i d e => by
  obtain ⟨v, h1, h2⟩ := r.at_ i d e
  exact ⟨v, h1, h2.cool (List.all_eq_true.mp c _ (List.mem_of_getElem? e))⟩⟩
end
section
variable {Γ : Cls1} {Wx Wy : WX} {z : Option (Addr × Addr)} {W : Wd} {H : Hp}
/-- a suite's end, told outside -/
theorem suite_end (h0 : Γ.hot = none) {o : Out} {i : Nat} {D : Ends}
    (g : GoS Γ Wx W H (match o with
        | .next ρ2 h2 => if coldR (ρ2.set i none) && h2.all coldA then .next (ρ2.set i none) h2 else .fail
        | .brk ρ2 h2 => if coldR (ρ2.set i none) && h2.all coldA then .brk (ρ2.set i none) h2 else .fail
        | .cont ρ2 h2 => if coldR (ρ2.set i none) && h2.all coldA then .cont (ρ2.set i none) h2 else .fail
        | .ret d h2 => if cold d && h2.all coldA then .ret d h2 else .fail
        | _ => .fail) D) :
    GoS { Γ with hot := z } Wy W H o { nx := fun σ' H' => D.nx (σ'.set i none) H', rt := D.rt, bk := fun σ' H' => D.bk (σ'.set i none) H', ct := fun σ' H' => D.ct (σ'.set i none) H' } := by
  cases o with
  | next ρ2 h2 =>
    dsimp only at g
    split at g
    · rename_i c
      obtain ⟨c1, c2⟩ := and2 c
      intro W' H' σ e x hR st
      subst e
      exact g W' H' _ rfl x (hR.cool c2) ((st.unset i none).cool c1)
    · exact g.elim
  | brk ρ2 h2 =>
    dsimp only at g
    split at g
    · rename_i c
      obtain ⟨c1, c2⟩ := and2 c
      intro W' H' σ e x hR st
      subst e
      exact g W' H' _ rfl x (hR.cool c2) ((st.unset i none).cool c1)
    · exact g.elim
  | cont ρ2 h2 =>
    dsimp only at g
    split at g
    · rename_i c
      obtain ⟨c1, c2⟩ := and2 c
      intro W' H' σ e x hR st
      subst e
      exact g W' H' _ rfl x (hR.cool c2) ((st.unset i none).cool c1)
    · exact g.elim
  | ret d h2 =>
    dsimp only at g
    split at g
    · rename_i c
      obtain ⟨c1, c2⟩ := and2 c
      intro W' H' v e x hR r
      subst e
      exact g W' H' _ rfl x (hR.cool c2) (r.cool c1)
    · exact g.elim
  | exc c p ρ2 h2 => exact g.elim
  | fail => exact g.elim
end
end PI
set_option maxRecDepth 100000
set_option maxHeartbeats 1000000
/-! What a call binds. -/
namespace PI
open PySem L2
theorem look_zip : ∀ {ns : List Str} {us : List Value}, us.length = ns.length → ∀ n ∈ ns, ((ns.zip us).lookup n).isNone = false
  | [], _, _, n, h => by cases h
  | m :: ns, [], hl, n, h => by cases hl
  | m :: ns, u :: us, hl, n, h => by
    rw [List.zip_cons_cons, List.lookup_cons]
    cases q : n == m with
    | true => rfl
    | false =>
      have : n ∈ ns := by
        rcases List.mem_cons.mp h with rfl | h
        · rw [beq_self_eq_true] at q; cases q
        · exact h
      exact look_zip (by simpa using hl) n this
theorem filter_zip : ∀ {ns : List Str} {us : List Value}, us.length = ns.length → ns.Nodup → (ns.filterMap fun n => ((ns.zip us).lookup n).map fun v => (n, v)) = ns.zip us
  | [], [], _, _ => rfl
  | [], _ :: _, hl, _ => by cases hl
  | m :: ns, [], hl, _ => by cases hl
  | m :: ns, u :: us, hl, nd => by
    obtain ⟨h1, h2⟩ := List.nodup_cons.mp nd
    rw [List.zip_cons_cons, List.filterMap_cons, List.lookup_cons, beq_self_eq_true]
    dsimp only [Option.map]
    congr 1
    refine Eq.trans ?_ (filter_zip (ns := ns) (us := us) (by simpa using hl) h2)
    have gen : ∀ l : List Str, (∀ n ∈ l, n ≠ m) → (l.filterMap fun n => (((m, u) :: ns.zip us).lookup n).map fun v => (n, v)) = l.filterMap fun n => ((ns.zip us).lookup n).map fun v => (n, v) := by
      intro l hl
      induction l with
      | nil => rfl
      | cons a l ih =>
        have : (a == m) = false := by
          rw [beq_eq_false_iff_ne]
          exact hl a (List.mem_cons_self ..)
        rw [List.filterMap_cons, List.filterMap_cons, List.lookup_cons, this, ih fun n hn => hl n (List.mem_cons_of_mem _ hn)]
    exact gen ns fun n hn e => h1 (e ▸ hn)
/-- parameters without more -/
def plainA (p : Arguments) : Bool := p.posonlyargs.isEmpty && p.vararg.isNone && p.kwonlyargs.isEmpty && p.kwarg.isNone
theorem bind_all {fd : FuncData} {us : List Value} {ns : List Str} (hp : plainA fd.params = true) (hn : fd.params.args.map (fun a => a.arg) = ns) (hd : fd.defaults = .none) (nd : ns.Nodup) (hl : us.length = ns.length) : bindArgs fd ⟨us, []⟩ = pure (ns.zip us) := by
  obtain ⟨n1, n2, p, n4, n5, n6, n7, n8, n9, n10, n11, n12, n13, n14, n15⟩ := fd
  obtain ⟨a1, a2, a3, a4, a5, a6, a7⟩ := p
  unfold plainA at hp
  dsimp only at hp hn hd
  simp only [Bool.and_eq_true, List.isEmpty_iff, Option.isNone_iff_eq_none] at hp
  obtain ⟨⟨⟨rfl, rfl⟩, rfl⟩, rfl⟩ := hp
  subst hd
  unfold bindArgs
  dsimp only
  rw [hn]
  have e1 : ((ns.take ns.length).filter fun n => ((ns.zip us).lookup n).isNone) = [] := by
    rw [List.filter_eq_nil_iff]
    intro n h
    rw [List.take_length] at h
    rw [look_zip hl n h]
    exact Bool.false_ne_true
  simp only [List.map_nil, List.nil_append, List.append_nil, List.forIn_nil, pure_bind, hl, seqItems?, notAStandIn]
  have e0 : ((none : Option (Array Value)).getD #[]).toList = [] := rfl
  rw [e0]
  simp only [List.length_nil, Nat.zero_sub, List.drop_nil, Nat.sub_zero, e1, List.isEmpty_nil, Bool.not_true, Bool.false_eq_true, if_false, gt_iff_lt, Nat.lt_irrefl, decide_false, Bool.false_and, List.zip_nil_right, List.forIn_nil, pure_bind]
  exact congrArg pure (filter_zip hl nd)
end PI
set_option maxRecDepth 100000
set_option maxHeartbeats 1000000
/-! Own errors: class X(B) with an __init__ that calls the built-in one, then keeps a value. -/
namespace PIErr
open PySem PySem.W PySem.Calls PyProof.Rows
def isRf : Value → Bool
  | .ref _ => true
  | _ => false
theorem isRf_ok {v : Value} (h : isRf v = true) : ∃ a, v = .ref a := by
  cases v <;> first | exact ⟨_, rfl⟩ | cases h
/-- places of own classes, then a built-in class's line -/
def refsThen (bm : List Value) : List Value → Bool
  | [] => false
  | v :: l => isRf v && (decide (l = bm) || refsThen bm l)
theorem refs_pass {bm : List Value} {self : Value} (hp : refuseLoop self "__setattr__" bm = pure ()) : ∀ {l : List Value}, refsThen bm l = true → refuseLoop self "__setattr__" l = pure ()
  | [], h => by cases h
  | v :: l, h => by
    unfold refsThen at h
    rw [Bool.and_eq_true, Bool.or_eq_true, decide_eq_true_eq] at h
    obtain ⟨a, rfl⟩ := isRf_ok h.1
    rw [refuseLoop_ref]
    rcases h.2 with rfl | h2
    · exact hp
    · exact refs_pass hp h2
theorem refs_has {bm : List Value} {v : Value} (hv : bm.contains v = true) : ∀ {l : List Value}, refsThen bm l = true → l.contains v = true
  | [], h => by cases h
  | a :: l, h => by
    unfold refsThen at h
    rw [Bool.and_eq_true, Bool.or_eq_true, decide_eq_true_eq] at h
    rw [List.contains_cons]
    rcases h.2 with rfl | h2
    · rw [hv, Bool.or_true]
    · rw [refs_has hv h2, Bool.or_true]
theorem refs_ne {bm : List Value} : ∀ {l : List Value}, refsThen bm l = true → l.isEmpty = false
  | [], h => by cases h
  | a :: l, h => rfl
section
open Builtin Builtin.ObjectAttr
variable {prog : Program} {w : World} {A : Around} {R : Result → Shared → Prop} {hp : Heap} {g : Array GenState} {d : Drawn} {t : Nat} {os : OsState}
/-- self.name = v on an error that has no dict yet -/
theorem keep_new {B sid sow : String} {bm : List Value} (S : StoreFacts B bm sid sow) (hob0 : bm.contains (.type "object") = true) {K : Frag} {name : Str} {tk : Tok} {v : Value} {x C : Addr} {fv : Array Value} {cd : ClassData}
    (hK : K.In hp) (hx : hp.get? x = some { cls := .ref C, data := .fields fv }) (hcd : clsIn K C = some cd) (hm : refsThen bm cd.mro = true) (hh : cd.hasDict = true) (ha : findIn K (.ref C) name = some none)
    (hq : ∀ h' tk' dx, (∀ b o, b ≠ x → hp.get? b = some o → h'.get? b = some o) → hp.objs.size ≤ dx → dx ≠ x → h'.get? x = some { cls := .ref C, dict := some dx, data := .fields fv } → h'.Ns1 dx (fun y => if y = name then some v else none) → R (.ok (.ret .none)) ⟨h', g, d, tk', os⟩) :
    codeAny (model prog w) A (.call (.builtin "object.__setattr__") ⟨[.ref x, .str name tk, v], []⟩) R ⟨hp, g, d, t, os⟩ := by
  have inst : InstAt hp x { cls := .ref C, data := .fields fv } C none := ⟨hx, rfl, rfl, trivial⟩
  have facts := F.store_object
  have mem : mroIn K C (.type "object") = some true := by
    unfold mroIn
    rw [hcd, Option.bind_some, if_neg (by rw [refs_ne hm]; exact Bool.false_ne_true), refs_has hob0 hm]
  have far : x ≠ hp.objs.size := Nat.ne_of_lt (Heap.lt_size hx)
  have isO : Looks (model prog w) hp (isInstance (.ref x) (.type "object")) true := inst.type.andThen (looks_mroIn hK mem)
  refine codeAny_call_builtin facts.slot.plain facts.entry (@W.check_slot (model prog w) _ _ ⟨hp, g, d, t, os⟩ "object.__setattr__" "object" "__setattr__" (.ref x) [.str name tk, v] [] _ facts.kind facts.split isO (facts.args (.ref x) (.str name tk) v) ?_)
  have line : Looks (model prog w) hp (mroOf (.ref C)) cd.mro := (looks_clsIn hK hcd).andThen .now
  have noTaker : Looks (model prog w) hp (storeTaker? none) none := .now
  have cls : Looks (model prog w) hp (classData C) cd := looks_clsIn hK hcd
  rw [W.osa_eq, refuse_eq]
  refine wpAny_bind (wpAny_bind (inst.type.at (wpAny_bind (line.at ?_))))
  rw [refs_pass (S.passes _) hm]
  refine wpAny_pure (wpAny_bind (inst.type.at (wpAny_bind ((looks_findIn hK ha).at (wpAny_bind (noTaker.at ?_))))))
  show wpAny _ _ (storeInOwnDict (.ref x) (.ref C) (.str name tk) name v false) _ _ _
  obtain ⟨c1, c2, c3, c4, c5, c6, c7, c8, c9, c10, c11⟩ := cd
  dsimp only at hh
  subst hh
  unfold storeInOwnDict ownDictForStores
  repeat (first | with_reducible refine HandSPX.store_in_new ?_ ?_ | with_reducible refine wpAny_loadPart_at hx ?_ | with_reducible refine cls.at ?_ | wp_step)
  · exact ⟨_, #[], _, (Heap.get?_update_ne _ _ _ _ far.symm).trans (Heap.get?_push_at rfl rfl), rfl, fun e he => absurd he (by simp), fun _ => rfl⟩
  · intro h' tk' ns same
    have hx1 : (hp.push { cls := .type "dict", data := .dict #[] }).get? x = some { cls := .ref C, data := .fields fv } := Heap.get?_push_of_some _ hx
    refine hq h' tk' hp.objs.size (fun b o hb ho => ?_) (Nat.le_refl _) far.symm ?_ ns
    · exact (same.2 b (Nat.ne_of_lt (Heap.lt_size ho))).trans ((Heap.get?_update_ne _ _ _ _ hb).trans (Heap.get?_push_of_some _ ho))
    · exact (same.2 x far).trans (Heap.get?_update_self _ hx1 rfl)
end
section
variable {prog : Program} {w : World} {A : Around} {E : Value → Shared → Prop} {h : Heap} {g : Array GenState} {d : Drawn} {t : Nat} {os : OsState}
/-- the built-in __init__, bound, called -/
theorem call_bound {B i newId : String} {bmB : List Value} (FB : ExcBaseFacts B newId i bmB) {nm q : Str} {C N : Addr} {bs bm : List Value} {hdct : Bool} {sn : List Str} {sub : List Value} {ab : Bool} {col : Option Bool} {dd : Option Addr} {k0 k1 k2 k3 k5 : Option Value}
    {u e t0 : Addr} {rest : List Value} {Q : Value → Shared → Prop} (hC : h.get? C = some (excClassObj nm q C N bs bm hdct sn sub ab col dd k0 k1 k2 k3 k5 newId)) (he : h.get? e = some (HandSPX.excO C t0)) (hu : h.get? u = some (kxs_mw i e)) (hrest : rest.length ≤ sizeLine)
    (hq : ∀ h' t1, (∀ b o, b ≠ e → h.get? b = some o → h'.get? b = some o) → h'.get? e = some (HandSPX.excO C t1) → Q .none ⟨h', g, d, t, os⟩) : wpAny (model prog w) A (call (.ref u) rest) Q E ⟨h, g, d, t, os⟩ := by
  refine wpAny_call (codeAny_of_tree ?_)
  show wpAny _ A.in1 (callAny (.ref u) ⟨rest, []⟩) _ _ _
  simp only [callAny]
  refine wpAny_bind (wpAny_load hu ?_)
  simp only [kxs_mw, show (Value.type "method-wrapper" == Value.type "method" || Value.type "method-wrapper" == Value.type "builtin_function_or_method" || Value.type "method-wrapper" == Value.type "method-wrapper") = true by decide, if_true]
  refine KFB.if_so (by decide) (wpAny_bind (check_bound_init FB.toExcCallFacts hC he rfl ?_))
  refine wpAny_bind (wpAny_pure (wpAny_pure ⟨plainId_quiet FB.init.plain _, codeAny_builtin FB.initEntry ?_⟩))
  exact exc_init_tree (cls := .ref C) (t0 := t0) (dv := none) (c2 := .none) (c3 := .none) (b4 := .bool false) he hrest fun h' k e' _ => hq h' _ k e'
end
end PIErr
set_option maxRecDepth 100000
set_option maxHeartbeats 2000000
/-! Own errors over a built-in class that has no __new__ of its own (KeyError), and such without an __init__. -/
namespace PIErr
open PySem PySem.W PySem.Calls PyProof.Rows PySem.HandSPX
/-- the built-in __new__ of the class N -/
structure NewF (N newId : String) : Prop where
  ends : newId.endsWith ".__new__" = true
  owner : newId.dropRight 8 = N
  entry : entryFor table newId = some Builtin.«BaseException.__new__»
  quiet : newId.startsWith "lifetime." = false
  nsplit : splitId newId = some (N, "__new__")
  nkind : builtinKind newId = some .builtinFn
  nrow : Manifest.signature? newId = some ⟨.any, N, N, .cls, [⟨"args", .varPos, false⟩, ⟨"kwargs", .varKw, false⟩]⟩
  canon : Manifest.canonical newId = Manifest.canonical "BaseException.__new__"
  noStar : (N != "*") = true
theorem NewF.of {B newId i : String} {bm : List Value} (F : ExcBaseFacts B newId i bm) : NewF B newId := ⟨F.ends, F.owner, F.entry, F.quiet, F.newSplit, F.newKind, F.newRow, F.canon, F.noStar⟩
/-- the built-in __init__ of the class B -/
structure InitF (B i : String) : Prop where
  slot : Slot B "__init__" i
  ientry : entryFor table i = some Builtin.«BaseException.__init__»
  isplit : splitId i = some (B, "__init__")
  ikind : builtinKind i = some .slot
  irow : Manifest.signature? i = some ⟨.positional, "*", B, .self, [⟨"args", .varPos, false⟩]⟩
  noStar : (B != "*") = true
theorem InitF.of {B newId i : String} {bm : List Value} (F : ExcBaseFacts B newId i bm) : InitF B i := ⟨F.init, F.initEntry, F.initSplit, F.initKind, F.initRow, F.noStar⟩
/-- what is asked of a class's line -/
structure LineF (B N : String) (bm : List Value) : Prop where
  hN : bm.contains (.type N) = true
  hB : bm.contains (.type B) = true
  hE : bm.contains (.type "BaseException") = true
  noA : bm.contains (.type "AttributeError") = false
  noNm : bm.contains (.type "NameError") = false
structure BaseF (B i newId : String) (bm : List Value) : Prop where
  ex : ∃ N, NewF N newId ∧ LineF B N bm
  ini : InitF B i
theorem BaseF.of {B newId i : String} {bm : List Value} (F : ExcBaseFacts B newId i bm) : BaseF B i newId bm := ⟨⟨B, .of F, ⟨F.hasB, F.hasB, F.hasBase, F.noAttr, F.noName⟩⟩, .of F⟩
section
variable {M : Model} {A : Around} {E : Value → Shared → Prop} {h : Heap} {g : Array GenState} {d : Drawn} {t : Nat} {os : OsState}
variable {nm q : Str} {C N : Addr} {bs bm : List Value} {hdct : Bool} {sn : List Str} {sub : List Value} {ab : Bool} {col : Option Bool} {dd : Option Addr} {k0 k1 k2 k3 k5 : Option Value} {B NN newId i : String}
theorem new_asked (F : NewF NN newId) (hNN : bm.contains (.type NN) = true) {rest : List Value} {Q : Unit → Shared → Prop}
    (hC : h.get? C = some (excClassObj nm q C N bs bm hdct sn sub ab col dd k0 k1 k2 k3 k5 newId)) (hq : Q () ⟨h, g, d, t, os⟩) : wpAny M A (checkBuiltinCall newId ⟨.ref C :: rest, []⟩) Q E ⟨h, g, d, t, os⟩ := by
  have c1 : (Value.ref C :: bm).contains (.type NN) = true := by rw [List.contains_cons, hNN, Bool.or_true]
  have c2 := F.noStar
  simp only [F.nkind, F.nsplit, F.nrow, checkBuiltinCall]
  repeat (first | refine wpAny_loadPart_at hC ?_ | refine wpAny_staticBase_exc hC ?_ | refine wpAny_madeBy_exc hC ?_ | (refine wpAny_isSubtype_exc hC ?_; rw [c1]) | simp only [bne_self_eq_false, Bool.false_eq_true, if_false] | wp_step)
  exact hq
theorem init_asked (F : InitF B i) (hB : bm.contains (.type B) = true) {e : Addr} {oe : Obj} {rest : List Value} {Q : Unit → Shared → Prop}
    (hC : h.get? C = some (excClassObj nm q C N bs bm hdct sn sub ab col dd k0 k1 k2 k3 k5 newId)) (he : h.get? e = some oe) (hcls : oe.cls = .ref C) (hq : Q () ⟨h, g, d, t, os⟩) :
    wpAny M A (checkBuiltinCall i ⟨.ref e :: rest, []⟩) Q E ⟨h, g, d, t, os⟩ := by
  have c1 : (Value.ref C :: bm).contains (.type B) = true := by rw [List.contains_cons, hB, Bool.or_true]
  have c2 := F.noStar
  simp only [F.ikind, F.isplit, F.irow, checkBuiltinCall]
  repeat (first | with_reducible refine wpAny_loadPart_at hC ?_ | (with_reducible refine wpAny_loadPart_at he ?_; rw [hcls]) | (with_reducible refine wpAny_isSubtype_exc hC ?_; rw [c1]) | wp_step)
  refine wpAny_onRaise ?_
  have c3 : ∀ (x y : String) (n : Nat), Bind.check ⟨.positional, "*", B, .self, [⟨"args", .varPos, false⟩]⟩ x y n (List.map (fun z => z.fst) ({ pos := Value.ref e :: rest } : Args).kw) = pure () := fun x y n => check_star_args _ _ _ _ _ _
  rw [c3]
  exact wpAny_pure hq
theorem bound_asked (F : InitF B i) {e : Addr} {oe : Obj} {rest : List Value} {Q : Unit → Shared → Prop}
    (hC : h.get? C = some (excClassObj nm q C N bs bm hdct sn sub ab col dd k0 k1 k2 k3 k5 newId)) (he : h.get? e = some oe) (hcls : oe.cls = .ref C) (hq : Q () ⟨h, g, d, t, os⟩) : wpAny M A (checkBoundCall i ⟨.ref e :: rest, []⟩) Q E ⟨h, g, d, t, os⟩ := by
  have c2 := F.noStar
  simp only [F.ikind, F.irow, checkBoundCall]
  repeat (first | with_reducible refine wpAny_loadPart_at hC ?_ | (with_reducible refine wpAny_loadPart_at he ?_; rw [hcls]) | wp_step)
  refine wpAny_onRaise ?_
  have c3 : ∀ (x y : String) (n : Nat), Bind.check ⟨.positional, "*", B, .self, [⟨"args", .varPos, false⟩]⟩ x y n (List.map (fun z => z.fst) ({ pos := Value.ref e :: rest } : Args).kw) = pure () := fun x y n => check_star_args _ _ _ _ _ _
  rw [c3]
  exact wpAny_pure hq
end
section
variable {prog : Program} {w : World} {A : Around} {E : Value → Shared → Prop} {R : Result → Shared → Prop} {h : Heap} {g : Array GenState} {d : Drawn} {t : Nat} {os : OsState}
variable {nm q : Str} {C N : Addr} {bs bm : List Value} {hdct : Bool} {sn : List Str} {sub : List Value} {ab : Bool} {col : Option Bool} {dd : Option Addr} {k0 k1 k2 k3 k5 : Option Value} {B NN newId i : String}
theorem new_made (F : NewF NN newId) (L : LineF B NN bm) {rest : List Value} (hC : h.get? C = some (excClassObj nm q C N bs bm hdct sn sub ab col dd k0 k1 k2 k3 k5 newId))
    (hq : R (.ok (.ret (.ref (h.objs.size + 1)))) ⟨(h.push (kdv_tup rest)).push (excO C h.objs.size), g, d, t, os⟩) (hrest : rest.length ≤ sizeLine) : codeAny (model prog w) A (.builtin newId ⟨.ref C :: rest, []⟩) R ⟨h, g, d, t, os⟩ := by
  have ends := F.ends
  have c1 : (Value.ref C :: bm).contains (.type NN) = true := by rw [List.contains_cons, L.hN, Bool.or_true]
  have c2 : (Value.ref C :: bm).contains (.type "AttributeError") = false := by rw [List.contains_cons, L.noA]; rfl
  have c3 : (Value.ref C :: bm).contains (.type "NameError") = false := by rw [List.contains_cons, L.noNm]; rfl
  refine codeAny_builtinAt F.entry ?_
  unfold Builtin.«BaseException.__new__»
  refine PySem.wpAt_bind ?_; show PySem.wpAt _ _ _ (stack >>= _) _ _ _
  refine PySem.wpAt_bind (PySem.wpAt_stack fun _ _ => PySem.wpAt_of_wpAny ?_); wp_walk
  refine PySem.wpAt_of_wpAny ?_
  rw [F.owner]
  repeat (first | with_reducible refine wpAny_loadPart_at hC ?_ | with_reducible refine wpAny_madeHere_exc F.canon hC ?_ | (with_reducible refine wpAny_isSubtype_exc hC ?_; first | rw [c1] | rw [c2] | rw [c3]) | wp_step)
  show R _ _
  rw [Heap.size_push]
  exact hq
/-- X(..): made, then __init__, whatever it is -/
theorem made_own (F : NewF NN newId) (L : LineF B NN bm) {rest : List Value} {f : Value} (hC : h.get? C = some (excClassObj nm q C N bs bm hdct sn sub ab col dd k0 k1 k2 k3 k5 newId))
    (hi : Looks (model prog w) h (typeLookup (.ref C) "__init__") (some f)) (hb : ∀ self, Looks (model prog w) h (bindSpecial f self) (f, [self])) (hrest : rest.length ≤ sizeLine)
    (hq : codeAny (model prog w) (A.under (.builtin "type.__call__" ⟨.ref C :: rest, []⟩)) (.call f ⟨.ref (h.objs.size + 1) :: rest, []⟩) (InitBack (h.objs.size + 1) R) ⟨(h.push (kdv_tup rest)).push (excO C h.objs.size), g, d, t, os⟩) :
    codeAny (model prog w) A (.call (.ref C) ⟨rest, []⟩) R ⟨h, g, d, t, os⟩ := by
  have f1 := tc_lookup
  have f2 := tc_bind (.ref C)
  have f3 : (⟨h, g, d, t, os⟩ : Shared).TypeIs (.ref C) "type" := ⟨_, hC, rfl⟩
  refine codeAny_of_tree ?_
  show wpAny _ _ (callAny (.ref C) _) _ _ _
  repeat (any_goals (first | assumption | with_reducible refine wpAny_loadPart_at hC ?_ | wp_step))
  refine ⟨rfl, ?_⟩
  refine codeAny_call_builtin_at (Code.quiet_builtin _ (by decide +kernel)) entry_typeCall (wpAny_check_type_call_sub hC ?_)
  repeat (first | with_reducible refine wpAny_madeBy_exc hC ?_ | with_reducible refine wpAny_loadPart_at hC ?_ | wp_step)
  refine codeAny_call_builtin_code (Code.quiet_builtin _ F.quiet) (new_asked F L.hN hC ?_)
  refine new_made F L hC ?_ hrest
  show wpAny _ _ _ _ _ _
  have k : ∀ b o, h.get? b = some o → ((h.push (kdv_tup rest)).push (excO C h.objs.size)).get? b = some o := fun b o e => Heap.get?_push_of_some _ (Heap.get?_push_of_some _ e)
  have g1 := k _ _ hC
  have g2 : ((h.push (kdv_tup rest)).push (excO C h.objs.size)).get? (h.objs.size + 1) = some (excO C h.objs.size) := by heap_get
  have g3 : (Value.ref C :: bm).contains (.ref C) = true := by simp
  have i1 := hi.keeps k
  have i2 := (hb (.ref (h.objs.size + 1))).keeps k
  unfold isInstance
  repeat (first | with_reducible refine wpAny_loadPart_at g2 ?_ | wp_step)
  refine wpAny_isSubtype_exc (h := (h.push (kdv_tup rest)).push (excO C h.objs.size)) g1 ?_
  rw [g3]
  repeat (first | with_reducible refine wpAny_loadPart_at g2 ?_ | wp_step)
  show wpAny _ _ (typeLookup (.ref C) _) _ _ _
  refine i1.at (wpAny_holding (wpAny_bind (i2.at (wpAny_bind (wpAny_call (codeAny_mono hq fun r s' z => ?_))))))
  rcases r with e | (v | _ | _ | _) <;> first | exact z | exact z.elim | skip
  obtain ⟨rfl, z⟩ := z
  first
    | exact wpAny_pure (wpAny_pure z)
    | (wp_walk; exact z)
/-- the built-in __init__ on what was just made -/
theorem init_plain (F : InitF B i) (hB : bm.contains (.type B) = true) {e t0 : Addr} {rest : List Value} (hC : h.get? C = some (excClassObj nm q C N bs bm hdct sn sub ab col dd k0 k1 k2 k3 k5 newId)) (he : h.get? e = some (excO C t0)) (hrest : rest.length ≤ sizeLine)
    (hq : ∀ h' t1, (∀ b o, b ≠ e → h.get? b = some o → h'.get? b = some o) → h'.get? e = some (excO C t1) → R (.ok (.ret .none)) ⟨h', g, d, t, os⟩) : codeAny (model prog w) A (.call (.builtin i) ⟨.ref e :: rest, []⟩) R ⟨h, g, d, t, os⟩ := by
  refine codeAny_call_builtin F.slot.plain F.ientry (init_asked F hB hC he rfl ?_)
  wp_walk
  refine hq _ h.objs.size (fun b o n x => ?_) ?_
  · rw [Heap.get?_update_other _ _ (Ne.symm n)]; exact Heap.get?_push_of_some _ x
  · rw [Heap.get?_update_self _ (Heap.get?_push_of_some _ he) rfl]; rfl
end
section
variable {prog : Program} {w : World} {A : Around} {E : Value → Shared → Prop} {h : Heap} {g : Array GenState} {d : Drawn} {t : Nat} {os : OsState}
/-- the built-in __init__, bound, called -/
theorem call_bound2 {B i newId : String} (F : InitF B i) {nm q : Str} {C N : Addr} {bs bm : List Value} {hdct : Bool} {sn : List Str} {sub : List Value} {ab : Bool} {col : Option Bool} {dd : Option Addr} {k0 k1 k2 k3 k5 : Option Value}
    {u e t0 : Addr} {rest : List Value} {Q : Value → Shared → Prop} (hC : h.get? C = some (excClassObj nm q C N bs bm hdct sn sub ab col dd k0 k1 k2 k3 k5 newId)) (he : h.get? e = some (HandSPX.excO C t0)) (hu : h.get? u = some (kxs_mw i e)) (hrest : rest.length ≤ sizeLine)
    (hq : ∀ h' t1, (∀ b o, b ≠ e → h.get? b = some o → h'.get? b = some o) → h'.get? e = some (HandSPX.excO C t1) → Q .none ⟨h', g, d, t, os⟩) : wpAny (model prog w) A (call (.ref u) rest) Q E ⟨h, g, d, t, os⟩ := by
  refine wpAny_call (codeAny_of_tree ?_)
  show wpAny _ A.in1 (callAny (.ref u) ⟨rest, []⟩) _ _ _
  simp only [callAny]
  refine wpAny_bind (wpAny_load hu ?_)
  simp only [kxs_mw, show (Value.type "method-wrapper" == Value.type "method" || Value.type "method-wrapper" == Value.type "builtin_function_or_method" || Value.type "method-wrapper" == Value.type "method-wrapper") = true by decide, if_true]
  refine KFB.if_so (by decide) (wpAny_bind (bound_asked F hC he rfl ?_))
  refine wpAny_bind (wpAny_pure (wpAny_pure ⟨plainId_quiet F.slot.plain _, codeAny_builtin F.ientry ?_⟩))
  exact exc_init_tree (cls := .ref C) (t0 := t0) (dv := none) (c2 := .none) (c3 := .none) (b4 := .bool false) he hrest fun h' k e' _ => hq h' _ k e'
end
theorem refs_line {B N : String} {bmB : List Value} (L : LineF B N bmB) : ∀ {l : List Value}, refsThen bmB l = true → LineF B N l
  | [], e => by cases e
  | a :: l, e => by
    unfold refsThen at e
    rw [Bool.and_eq_true, Bool.or_eq_true, decide_eq_true_eq] at e
    obtain ⟨b, rfl⟩ := isRf_ok e.1
    have up : ∀ {x : List Value}, LineF B N x → LineF B N (.ref b :: x) := fun {x} q => ⟨by rw [List.contains_cons, q.hN, Bool.or_true], by rw [List.contains_cons, q.hB, Bool.or_true], by rw [List.contains_cons, q.hE, Bool.or_true], by rw [List.contains_cons, q.noA]; rfl, by rw [List.contains_cons, q.noNm]; rfl⟩
    rcases e.2 with rfl | h2
    · exact up L
    · exact up (refs_line L h2)
/-- .. behind the class itself -/
theorem refs_tail {B N : String} {bmB bm : List Value} {C : Addr} (L : LineF B N bmB) (h : refsThen bmB (.ref C :: bm) = true) : LineF B N bm := by
  unfold refsThen at h
  rw [Bool.and_eq_true, Bool.or_eq_true, decide_eq_true_eq] at h
  rcases h.2 with rfl | h2
  · exact L
  · exact refs_line L h2
end PIErr
set_option maxRecDepth 100000
set_option maxHeartbeats 2000000
namespace PIErr
open PySem PySem.W PySem.Calls PyProof.Rows
/-- the text of such an __init__ -/
def initBody (par fld msg : Str) (k : Nat) (a1 a2 a3 a4 a5 a6 b1 b2 b3 b4 : Pos) : List Stmt :=
  [.Expr (.Call (.Attribute (.Call (.Name "super" a1) [] [] a2) "__init__" a3) [.Constant (.str msg) k a4] [] a5) a6, .Assign [.Attribute (.Name "self" b1) fld b2] (.Name par b3) b4]
def initScope (par : Str) (sc : Scope) : Bool := decide (sc.kind = .function) && !sc.isCoroutine && !sc.isGenerator && (sc.names.all fun y => decide (y.2 ≠ .cell)) && decide (sc.names.lookup ("self" : Str) = some .local) && decide (sc.names.lookup par = some .local) &&
  decide (sc.names.lookup ("__class__" : Str) = some .free) && decide (sc.names.lookup ("super" : Str) = some .globalImplicit) && decide (par ≠ ("self" : Str)) && !(par == ("__debug__" : Str))
/-- what the written part tells of such a class, at C, and of its __init__, at fI -/
structure ErrTxt (P : Program) (K : Frag) (C fI : Addr) (B i newId sid sow : String) (bmB : List Value) (par fld msg : Str) : Prop where
  BF : BaseF B i newId bmB
  KF : KxsFacts B i
  ST : StoreFacts B bmB sid sow
  ob : bmB.contains (.type "object") = true
  cls : ∃ (nm q : Str) (N : Addr) (bs bm : List Value) (sn : List Str) (sub : List Value) (ab : Bool) (col : Option Bool) (dd : Option Addr) (k0 k1 k2 k3 k5 : Option Value), K.lookup C = some (excClassObj nm q C N bs bm true sn sub ab col dd k0 k1 k2 k3 k5 newId) ∧ refsThen bmB (.ref C :: bm) = true
  fn : ∃ (oc : Value) (od : Option Addr) (qual : Str) (params : Arguments) (body : List Stmt) (scope : Scope) (doc pm : Value) (an : Option Addr) (cda : Addr) (ct : Value) (cc : Addr) (osl : Array (Option Value)) (k : Nat) (a1 a2 a3 a4 a5 a6 b1 b2 b3 b4 : Pos),
    K.lookup fI = some ⟨oc, od, .func (ksFn "__init__" qual params body scope .none .none doc pm an (.ref cda) ct cc), osl⟩ ∧ codeIn K (.ref cda) qual = true ∧ body = initBody par fld msg k a1 a2 a3 a4 a5 a6 b1 b2 b3 b4 ∧ (a3.endLine == a5.line) = true ∧ initScope par scope = true ∧
    PI.plainA params = true ∧ (params.args.map fun a => a.arg) = [("self" : Str), par] ∧
    (∃ (ccl : Value) (cdd : Option Addr) (vs : Array Value) (ccs : Array (Option Value)) (file : Str) (tf : Tok), K.lookup cda = some ⟨ccl, cdd, .fields vs, ccs⟩ ∧ vs[2]? = some (.str file tf) ∧ ((P.main.file : Str) == file) = true) ∧
    ∃ (cl : Value) (cld : Option Addr) (csl : Array (Option Value)), K.lookup cc = some ⟨cl, cld, .cell (some (.ref C)), csl⟩
  sa : findIn K (.ref C) "__setattr__" = some (some (.builtin "object.__setattr__"))
  noF : findIn K (.ref C) fld = some none
  up : ks_superIn K C C "__init__" = some (some (.builtin i))
  subB : subIn K (.ref C) (.type B) = some true
  selfS : mroIn K C (.ref C) = some true
  opq : nsIn K cStatics "thirdparty.any" = some none
  sup : nsIn K mainGlobals "super" = some none
  top : (P.main.scope.names.lookup ("super" : Str)).isSome = false
theorem Txt.head {params : Arguments} {par : Str} (hp : PI.plainA params = true) (ha : (params.args.map fun a => a.arg) = [("self" : Str), par]) : ∃ ar : Arg, (params.posonlyargs ++ params.args).head? = some ar ∧ ar.arg = "self" := by
  unfold PI.plainA at hp
  simp only [Bool.and_eq_true, List.isEmpty_iff] at hp
  rw [hp.1.1.1, List.nil_append]
  cases e : params.args with
  | nil => rw [e] at ha; cases ha
  | cons a l =>
    rw [e] at ha
    simp only [List.map_cons, List.cons.injEq] at ha
    exact ⟨a, rfl, ha.1⟩
theorem eq_meth {o : Expr} {name : Str} {apos pos : Pos} {z : Str} {k : Nat} {p : Pos} {env : Env} (hline : (apos.endLine == pos.line) = true) : eval (.Call (.Attribute o name apos) [.Constant (.str z) k p] [] pos) env = (do
      let ov ← attributeBase o name env (eval o env)
      standAt apos.atName
      let (f, first) ← holding [ov] (getMethod ov name (do return (← importBound o env).getD true))
      callWith pos f first (backTo pos (starEach [.Constant (.str z) k p] env)) []) := by
  rw [arm_eval_Call]
  have hpos : methodCallPos true o env apos pos = pure pos := by
    unfold methodCallPos
    rw [hline]
    rfl
  have hform : methodCallForm (([.Constant (.str z) k p] : List Expr).length + ([] : List Keyword).length) (backTo pos (starEach [.Constant (.str z) k p] env)) (backToKw pos (keywordEach [] env)) = true := by rfl
  unfold methodCall
  rw [hform, hpos]
  rfl
section
variable {prog : Program} {w : World} {A : Around} {E : Value → Shared → Prop} {R : Result → Shared → Prop} {s : Shared} {K : Frag} {mg mb : Str → Option Value} {C fI : Addr} {B i newId sid sow : String} {bmB : List Value} {par fld msg : Str}
theorem err_init (T : ErrTxt prog K C fI B i newId sid sow bmB par fld msg) {x t0 : Addr} {v : Value} (hK : K.In s.heap) (hlim : s.heap.NoLimit) (hg : s.heap.Ns mainGlobals mg) (hb : s.heap.Ns builtinsNs mb) (hbb : ∀ x : Str, x ≠ "__name__" → mb x = bootBuiltins x) (hx : s.heap.get? x = some (HandSPX.excO C t0)) (hnx : K.lookup x = none) (hroom : A.depth < recursionLimit)
    (hq : ∀ h' tk dx t1, (∀ b o, b ≠ x → s.heap.get? b = some o → h'.get? b = some o) → h'.get? x = some { cls := .ref C, dict := some dx, data := .fields #[.ref t1, .none, .none, .none, .bool false, .none] } → s.heap.objs.size ≤ dx → dx ≠ x → h'.Ns1 dx (fun y => if y = fld then some v else none) → R (.ok (.ret .none)) { s with heap := h', toks := tk }) :
    codeAny (model prog w) A (.call (.ref fI) ⟨[.ref x, v], []⟩) R s := by
  obtain ⟨oc, od, qual, params, body, scope, doc, pm, an, cda, ct, cc, osl, k, a1, a2, a3, a4, a5, a6, b1, b2, b3, b4, ho, hcd, rfl, hline, hsc, hpl, har, ⟨ccl, cdd, vs, ccs, file, tf, hcda, hvs, hfile⟩, cl, cld, csl, hcc⟩ := T.fn
  obtain ⟨nm, q, N, bs, bm, sn, sub, ab, col, dd, k0, k1, k2, k3, k5, hC, hbm⟩ := T.cls
  unfold initScope at hsc
  simp only [Bool.and_eq_true, decide_eq_true_eq, Bool.not_eq_true', List.all_eq_true] at hsc
  obtain ⟨⟨⟨⟨⟨⟨⟨⟨⟨hk, hco⟩, hgen⟩, hcell⟩, hself⟩, hpar⟩, hcls⟩, hsup⟩, hne⟩, hdb⟩ := hsc
  obtain ⟨ar, hhead, harg⟩ := Txt.head hpl har
  have hnd : (["self", par] : List Str).Nodup := by
    simp only [List.nodup_cons, List.mem_singleton, List.not_mem_nil, not_false_eq_true, List.nodup_nil, and_true]
    exact fun e => hne e.symm
  have hbind : BindsTo s (ksFn "__init__" qual params (initBody par fld msg k a1 a2 a3 a4 a5 a6 b1 b2 b3 b4) scope .none .none doc pm an (.ref cda) ct cc) ⟨[.ref x, v], []⟩ [("self", .ref x), (par, v)] :=
    .of_eq (PI.bind_all (us := [.ref x, v]) hpl har rfl hnd rfl)
  refine ks_codeAny_call_defAt (binds := [("self", .ref x), (par, v)]) hroom (hK _ _ ho) rfl hlim (codeRec_of hK hcd) rfl hbind hcell (fun y hy => ?_) (fun h1 hns keep => ?_) hco hgen hk
  · simp only [List.mem_cons, List.not_mem_nil, or_false] at hy
    rcases hy with rfl | rfl
    · exact hself
    · exact hpar
  · obtain ⟨hh, g, d, t, os⟩ := s
    dsimp only at *
    have K1 : K.In h1 := hK.keeps keep
    have hv1 : ([(("self" : Str), Value.ref x), (par, v)].reverse.lookup ("self" : Str)) = some (.ref x) := by
      show List.lookup ("self" : Str) [(par, v), (("self" : Str), Value.ref x)] = _
      rw [List.lookup_cons, show (("self" : Str) == par) = false from by simpa using fun e => hne e.symm]
      rfl
    have hv2 : ([(("self" : Str), Value.ref x), (par, v)].reverse.lookup par) = some v := by
      show List.lookup par [(par, v), (("self" : Str), Value.ref x)] = _
      rw [List.lookup_cons, beq_self_eq_true]
    have inst : InstAt h1 x (HandSPX.excO C t0) C none := ⟨keep _ _ hx, rfl, rfl, trivial⟩
    have clsC : clsIn K C = some { name := nm, bases := bs, mro := .ref C :: bm, ns := N, qualname := q, hasDict := true, slotNames := sn, subclasses := sub, abstract := ab, collection := col, hasDel := false } := by
      unfold clsIn
      rw [hC]
    obtain ⟨oC, hC1, hC2⟩ : ∃ oC, h1.get? C = some oC ∧ oC.data = .cls { name := nm, bases := bs, mro := .ref C :: bm, ns := N, qualname := q, hasDict := true, slotNames := sn, subclasses := sub, abstract := ab, collection := col, hasDel := false } := ⟨_, K1 _ _ hC, rfl⟩
    have hint : interactive (callEnv (ksFn "__init__" qual params (initBody par fld msg k a1 a2 a3 a4 a5 a6 b1 b2 b3 b4) scope .none .none doc pm an (.ref cda) ct cc) hh.objs.size fI) = false := by
      unfold interactive
      show (scope.kind == .module && _) = false
      rw [hk]
      rfl
    refine ks_wpAt_execs_cons (ks_wpAt_Expr_any (ks_wpAt_MethodCall ?_ (eq_meth hline)) hint rfl)
    · refine ks_wpAt_super_base hsup hcls (by decide) rfl (K1 _ _ ho) rfl hhead rfl (K1 _ _ hcda) rfl hvs hfile T.top ?_
      refine ks_loadName_global hk hsup (loadGlobal_builtin (hg.keeps keep) (mg_none_of hK hg T.sup) (hb.keeps keep) ((hbb _ (by decide +kernel)).trans (by decide +kernel)) ⟨rfl, ?_⟩)
      refine wpAny_loadName_free hk hcls rfl ⟨_, K1 _ _ hcc, rfl⟩ ?_
      rw [harg]
      refine wpAny_loadName_local hk hself hns hv1 ?_
      refine ks_wpAny_isType_cls hC1 hC2 ⟨rfl, ?_⟩
      refine ks_wpAny_call_super hC1 hC2 (keep _ _ hx) rfl (fun c e => nomatch e) (looks_mroIn K1 T.selfS) (fun h2 hso k2 => ?_)
      have K2 : K.In h2 := K1.keeps k2
      have hx2 : h2.get? x = some (HandSPX.excO C t0) := k2 _ _ (keep _ _ hx)
      have inst2 : InstAt h2 x (HandSPX.excO C t0) C none := ⟨hx2, rfl, rfl, trivial⟩
      have up : alongIn K "__init__" (((Value.ref C :: bm).dropWhile (· != .ref C)).drop 1) = some (some (.builtin i)) := by
        have := T.up
        unfold ks_superIn at this
        rw [clsC] at this
        exact this
      refine kxs_getMethod T.KF hso (looks_opaque K2 T.opq) (l₀ := .ref C :: bm) (fun A Q E s k q => wpAny_bind ((looks_clsIn K2 clsC) A _ E s k (wpAny_pure q))) rfl K2 up (inst2.type.andThen (looks_subIn K2 T.subB)) (ks_ne K2 inst2 clsC) (by decide) ?_
      -- the call of the bound one
      have e3 : ∀ b o, h2.get? b = some o → (h2.push (kxs_mw i x)).get? b = some o := fun b o e => Heap.get?_push_of_some _ e
      have hu : (h2.push (kxs_mw i x)).get? h2.objs.size = some (kxs_mw i x) := Heap.get?_push_at rfl rfl
      refine kxs_callWith (i := i) (x := x) rfl (evalArgs_plain (Calls.spliced_cons (Calls.Constant_str (k := k) (pos := a4) (Calls.spliced_nil ⟨hu, ?_⟩))))
      refine call_bound2 T.BF.ini (e3 _ _ (K2 _ _ hC)) (e3 _ _ hx2) hu (by rw [sizeLine_eq]; show 1 ≤ 16777216; decide) (fun h4 t1 k4 hx4 => ?_)
      have hxL : hh.objs.size ≠ x := Nat.ne_of_gt (Heap.lt_size hx)
      have old4 : ∀ b o, b ≠ x → hh.get? b = some o → h4.get? b = some o := fun b o n e => k4 b o n (e3 _ _ (k2 _ _ (keep _ _ e)))
      have K4 : K.In h4 := fun b o e => old4 b o (fun z => by rw [z, hnx] at e; cases e) (hK b o e)
      have ns4 : h4.Ns hh.objs.size (fun y => [(("self" : Str), Value.ref x), (par, v)].reverse.lookup y) := by
        obtain ⟨o, es, ep, z1, z2⟩ := hns
        exact ⟨o, es, ep, k4 _ _ hxL (e3 _ _ (k2 _ _ z1)), z2⟩
      have big : hh.objs.size ≤ h4.objs.size := by
        obtain ⟨o, es, ep, z1, _⟩ := ns4
        exact Nat.le_of_lt (Heap.lt_size z1)
      refine wpAt_of_wpAny (wpAny_execs_cons (plainObj_wpAny_Assign_Attribute ?_))
      refine wpAny_Name (wpAny_loadName_local hk hpar ns4 hv2 ?_) hdb
      refine wpAny_Name (wpAny_loadName_local hk hself ns4 hv1 ?_) (by decide)
      refine set_plain K4 (ox := HandSPX.excO C t1) (od := none) ⟨hx4, rfl, rfl, trivial⟩ T.sa ?_
      refine keep_new T.ST T.ob K4 hx4 clsC hbm rfl T.noF (fun h5 tk5 dx k5 dn dne hx5 ns5 => ?_)
      show wpAny _ _ (execs _ _) _ _ _
      exact wpAny_execs_nil (hq h5 tk5 dx t1 (fun b o n e => k5 b o n (old4 b o n e)) hx5 (Nat.le_trans big dn) dne ns5)
end
end PIErr
set_option maxRecDepth 100000
set_option maxHeartbeats 2000000
namespace PIErr
section
open PySem PySem.W PySem.Calls PyProof.Rows PySem.HandSPX
theorem refs_type {bm : List Value} {n : String} : ∀ {l : List Value}, refsThen bm l = true → l.contains (.type n) = bm.contains (.type n)
  | [], h => by cases h
  | a :: l, h => by
    unfold refsThen at h
    rw [Bool.and_eq_true, Bool.or_eq_true, decide_eq_true_eq] at h
    obtain ⟨b, rfl⟩ := isRf_ok h.1
    rw [List.contains_cons, show (Value.type n == Value.ref b) = false from rfl, Bool.false_or]
    rcases h.2 with rfl | h2
    · rfl
    · exact refs_type h2
/-- a made error -/
structure Made (h h' : Heap) (e C d : Addr) (f : Str) (v : Value) : Prop where
  keep : ∀ b o, h.get? b = some o → h'.get? b = some o
  new : h.objs.size ≤ e
  obj : ∃ oe vs, h'.get? e = some oe ∧ oe.cls = .ref C ∧ oe.dict = some d ∧ oe.data = .fields vs ∧ vs[1]? = some .none
  dbig : h.objs.size ≤ d
  dne : d ≠ e
  ns : h'.Ns1 d (fun y => if y = f then some v else none)
variable {prog : Program} {w : World} {A : Around} {R : Result → Shared → Prop} {s : Shared} {K : Frag} {mg mb : Str → Option Value} {C fI : Addr} {B i newId sid sow : String} {bmB : List Value} {par fld msg : Str}
theorem err_made (T : ErrTxt prog K C fI B i newId sid sow bmB par fld msg) (iC : findIn K (.ref C) "__init__" = some (some (.ref fI))) (tC : typeIn K (.ref fI) = some (.type "function")) {v : Value} (hK : K.In s.heap) (hlim : s.heap.NoLimit) (hg : s.heap.Ns mainGlobals mg) (hb : s.heap.Ns builtinsNs mb) (hbb : ∀ x : Str, x ≠ "__name__" → mb x = bootBuiltins x) (hroom : A.depth + 1 < recursionLimit)
    (hq : ∀ h' tk e d, Made s.heap h' e C d fld v → R (.ok (.ret (.ref e))) { s with heap := h', toks := tk }) : codeAny (model prog w) A (.call (.ref C) ⟨[v], []⟩) R s := by
  obtain ⟨nm, q, N, bs, bm, sn, sub, ab, col, dd, k0, k1, k2, k3, k5, hC, hbm⟩ := T.cls
  obtain ⟨hp, g, dr, tk, os⟩ := s
  dsimp only at *
  have k : ∀ b o, hp.get? b = some o → ((hp.push (kdv_tup [v])).push (excO C hp.objs.size)).get? b = some o := fun b o e => Heap.get?_push_of_some _ (Heap.get?_push_of_some _ e)
  have hget : ((hp.push (kdv_tup [v])).push (excO C hp.objs.size)).get? (hp.objs.size + 1) = some (excO C hp.objs.size) := by heap_get
  have hnx : K.lookup (hp.objs.size + 1) = none := by
    rcases e : K.lookup (hp.objs.size + 1) with _ | o
    · rfl
    · exact absurd (Nat.lt_of_succ_lt (Heap.lt_size (hK _ _ e))) (Nat.lt_irrefl _)
  obtain ⟨NN, NF, L0⟩ := T.BF.ex
  have L := refs_tail L0 hbm
  refine made_own NF L (hK _ _ hC) (looks_findIn hK iC) (fun self => bind_fn hK self tC) (by rw [sizeLine_eq]; show 1 ≤ 16777216; decide) ?_
  refine err_init (s := ⟨(hp.push (kdv_tup [v])).push (excO C hp.objs.size), g, dr, tk, os⟩) T (hK.keeps k) (hlim.keeps k) (hg.keeps k) (hb.keeps k) hbb hget hnx hroom fun h' tk' dx t1 keep hx dn dne hns => ?_
  have old : ∀ b o, hp.get? b = some o → h'.get? b = some o := fun b o e => keep b o (Nat.ne_of_lt (Nat.lt_succ_of_lt (Heap.lt_size e))) (k b o e)
  have z : hp.objs.size + 1 + 1 ≤ dx := by
    have q := dn
    simp only [Heap.size_push] at q
    exact q
  exact ⟨rfl, hq h' tk' (hp.objs.size + 1) dx ⟨old, Nat.le_succ _, ⟨_, _, hx, rfl, rfl, rfl, rfl⟩, by omega, dne, hns⟩⟩
end
section
open PySem L2
theorem relO_one {f : Str} {v : V} {u : Value} (r : RelV v u) (y : Str) : RelO (List.lookup y [(f, v)]) (if y = f then some u else none) := by
  rw [List.lookup_cons]
  by_cases e : y = f
  · subst e
    rw [beq_self_eq_true, if_pos rfl]
    exact r
  · rw [show (y == f) = false from by simpa using e, if_neg e]
    trivial
variable {X : Cx} {C fI : Addr} {B i newId sid sow : String} {bmB : List Value} {par fld msg x : Str}
/-- X(e) -/
def tMkE (C : Addr) (fld : Str) (ta : TA) : St → Hp → XK → Prop := fun σ H Q => ta σ H fun vs H1 => ∃ v, vs = [v] ∧ ∀ d, H1 d = none → Q (.ref C) (some d) (upd H1 d (.xd [(fld, v)]))
theorem pmk_err (T : ErrTxt X.prog X.K C fI B i newId sid sow bmB par fld msg) (iC : PySem.W.findIn X.K (.ref C) "__init__" = some (some (.ref fI))) (tC : PySem.W.typeIn X.K (.ref fI) = some (.type "function")) (gC : X.mg x = some (.ref C)) (kC : PySem.W.keepIn X.K (.ref C) = true)
    (rs : Raises X (.ref C)) {a : Expr} {ta : TA} {p pos : Pos} (hr : X.A.depth + 1 < recursionLimit) (ha : PA X [a] ta) (hg : Gl X x) (hd : (x == ("__debug__" : Str)) = false) (hs : PI.noStar a = true) : PMk X (.Call (.Name x p) [a] [] pos) (tMkE C fld ta) := by
  intro pins s σ H Q I h
  refine wpAny_Call_Name_kw (ld_glob I hg gC ?_ hd)
  refine PySem.W.callWith_K (h₀ := X.base) I.ok.mod.kin kC (thn (ha.run pos pins s σ H _ I h) fun us s1 hh => ?_) (PI.star_cons hs) rfl
  obtain ⟨vs, H1, I1, r1, v, ev, q1⟩ := hh
  subst ev
  refine ⟨I1.kIn, ?_⟩
  cases r1 with
  | cons rv rn =>
    rename_i u us'
    cases rn
    show wpAny _ _ (call (.ref C) [u]) _ _ _
    have hlim := I1.nolimit
    obtain ⟨mb, hmb, hbb⟩ := I1.mod.blt
    have hgl := I1.mod.glob.keeps I1.bk
    have hbl := hmb.keeps I1.bk
    obtain ⟨hp, g, dr, tk, os⟩ := s1
    refine wpAny_call (err_made T iC tC I1.kIn hlim hgl hbl hbb hr fun h' tk' e d M => ?_)
    show MkP X pins σ Q (.ref e) ⟨h', g, dr, tk', os⟩
    obtain ⟨oe, fv, hoe, hc, hdi, hdat, h1⟩ := M.obj
    obtain ⟨G', g1, g2⟩ := restrict h' fun b => decide (b ≠ e)
    have off : ∀ b, b ≠ e → G'.get? b = h'.get? b := fun b hb => g1 b (decide_eq_true hb)
    have none_ : G'.get? e = none := g2 e (by simp)
    have old : ∀ b o, hp.get? b = some o → G'.get? b = some o := fun b o q => (off b (Nat.ne_of_lt (Nat.lt_of_lt_of_le (Heap.lt_size q) M.new))).trans (M.keep b o q)
    have ob : ObjOk X.prog X.w (upd H1 d (.xd [(fld, v)])) G' d (.xd [(fld, v)]) := ⟨_, M.ns.at (fun o q => (off d M.dne).trans q), fun f => relO_one rv f⟩
    have J : Inv X pins σ (upd H1 d (.xd [(fld, v)])) ⟨G', g, dr, tk', os⟩ := I1.laid (t' := tk') old M.dbig ob
    refine ⟨e, oe, fv, ⟨G', g, dr, tk', os⟩, _, .ref C, some d, rfl, J, fun b o q => ?_, none_, hoe, ⟨hc, hdi⟩, hdat, h1, ?_, rfl, I1.bare, rs, q1 d (I1.hok.fresh M.dbig)⟩
    · by_cases hb : b = e
      · have q' : G'.get? b = some o := q
        rw [hb, none_] at q'
        cases q'
      · exact (off b hb).symm.trans q
    · rw [upd_ne (Ne.symm M.dne)]
      exact I1.hok.fresh M.new
end
end PIErr
set_option maxRecDepth 100000
set_option maxHeartbeats 2000000
namespace PI
open PySem L2 PIErr
/-- the c-th class of the program, named x -/
structure ErrAt (Γ : Cls1) (X : Cx) (x : Str) (c : Nat) : Prop where
  ex : ∃ (fI : Addr) (B i newId sid sow : String) (bmB : List Value) (par msg : Str), ErrTxt X.prog X.K (Γ.cA c) fI B i newId sid sow bmB par (Γ.cF c) msg ∧ PySem.W.findIn X.K (.ref (Γ.cA c)) "__init__" = some (some (.ref fI)) ∧ PySem.W.typeIn X.K (.ref fI) = some (.type "function")
  mg : X.mg x = some (.ref (Γ.cA c))
  kp : PySem.W.keepIn X.K (.ref (Γ.cA c)) = true
  rs : Raises X (.ref (Γ.cA c))
  pay : Γ.cP c = true
section
variable {Γ : Cls1} {F : Fn} {Wx : WX} {X : Cx}
theorem z_raise (hc : X.calm = true) (hr : X.A.depth + 1 < recursionLimit) (tk : Takes X Wx) {x : Str} {c : Nat} (R : ErrAt Γ X x c) {a : Expr} {ia : E} {p pos pos2 : Pos} (ha : PE X a (tE Γ F Wx ia)) (hg : Gl X x) (hd : (x == ("__debug__" : Str)) = false) (hs : noStar a = true) :
    PS X (.Raise (some (.Call (.Name x p) [a] [] pos)) none pos2) (tS Γ F Wx (.raise c (some ia))) := by
  obtain ⟨fI, B, i, newId, sid, sow, bmB, par, msg, T, iC, tC⟩ := R.ex
  refine psImp (ps_raise hc tk (pmk_err T iC tC R.mg R.kp R.rs hr (pa_cons ha pa_nil (star_cons hs)) hg hd hs)) fun D σ H ⟨W, ρ, st, hR, g⟩ => ?_
  unfold evS at g
  refine bindS st hR g fun d W1 H1 v x1 hR1 st1 rd g1 => ⟨v, rfl, fun a ha => ?_⟩
  refine g1 W1 _ σ (some a) rfl (.fresh hR1 ha) (hR1.fresh ha) (st1.ext (.fresh hR1 ha)) (.inl ⟨R.pay, a, v, rfl, upd_same, not_live hR1 ha, rd.ext (.fresh hR1 ha)⟩)
end
end PI
set_option maxRecDepth 100000
set_option maxHeartbeats 2000000
namespace PI
open PySem L2 PIErr
section
variable {Γ : Cls1} {F : Fn} {Wx : WX} {X : Cx}
theorem z_try (h0 : Γ.hot = none) (hs : X.stack = X.env :: X.outer) (hf : X.env.frame = some X.env.locals) (hN : X.N.Nodup) {i c : Nat} {n x : Str} {body suite : List Stmt} {b₀ : Stmt} {np pos pos' : Pos} {b s : List S} (hi : X.N[i]? = some n) (hln : X.env.scope.names.lookup n = some .local)
    (R : ErrAt Γ X x c) (hex : PySem.W.exmOne X.K (.ref (Γ.cA c)) (.ref (Γ.cA c)) = some true) (hg : Gl X x) (hd : (x == ("__debug__" : Str)) = false) (tk : Takes X Wx)
    (hb : ∀ (W : WX) (pn : List (Addr × Obj)) (xe : Value → Shared → Prop), Takes (X.tr pn xe) W → PassesOwn (model X.prog X.w) X.A X.env xe → PSs (X.tr pn xe) body (tSs Γ F W b))
    (hsu : ∀ (a dd : Addr) (oe : Obj) (pn : List (Addr × Obj)), Zc (.ref (Γ.cA c)) (some dd) oe → (∃ vs, oe.data = .fields vs) → PSs (X.suite a ((a, oe) :: pn)) (b₀ :: suite) (tSs { Γ with hot := some (a, dd) } F noW s)) :
    PS X (.Try body [.ExceptHandler (some (.Name x np)) (some n) (b₀ :: suite) pos'] [] [] pos) (tS Γ F Wx (.tryAs b c i s)) := by
  refine psImp (ps_try_as (c := .ref (Γ.cA c)) (ts := fun a cls d D σ H => ∃ dd, cls = .ref (Γ.cA c) ∧ d = some dd ∧ tSs { Γ with hot := some (a, dd) } F noW s D σ H) (tb := fun W => tSs Γ F W b) hs hf hN hi hln ⟨hg, hd, .inl R.mg⟩ tk hb fun a oe cls d pn hz hfs => ?_) fun D σ H ⟨W, ρ, st, hR, g⟩ => ?_
  · refine ⟨fun pins s σ H D I ⟨dd, e1, e2, q⟩ => ?_⟩
    subst e1 e2
    exact (hsu a dd oe pn hz hfs).run pins s σ H D I q
  · refine ⟨W, ρ, st, hR, ?_⟩
    unfold evS at g
    cases r : evSs F b ρ W.ah with
    | next ρ1 h1 => rw [r] at g; exact g
    | ret d h1 => rw [r] at g; exact g
    | brk ρ1 h1 => rw [r] at g; exact g
    | cont ρ1 h1 => rw [r] at g; exact g
    | fail => rw [r] at g; exact g
    | exc c' p ρ1 h1 =>
      rw [r] at g
      dsimp only at g
      split at g
      · rename_i ec
        subst ec
        intro W' H' σ' od e x hR' st' py
        subst e
        refine ⟨true, hex, fun _ a ha => ?_, fun z => by cases z⟩
        rcases py with ⟨_, dd, v, rfl, hdd, nl, rv⟩ | ⟨z, _⟩
        · refine ⟨dd, rfl, rfl, W', ρ1.set i (some (.ins c' [p])), (st'.warm h0).set i (.hot rfl hdd nl (rv.warm h0)), hR'.warm h0, suite_end h0 (GoS.ext x g)⟩
        · rw [R.pay] at z
          cases z
      · exact g.elim
/-- the error's value, in a suite -/
theorem s_fld {a dd : Addr} {oe : Obj} {pn : List (Addr × Obj)} {e : Expr} {ie : E} {pos : Pos} {c : Nat} (hot : Γ.hot = some (a, dd)) (T : XfC X.K (Γ.cA c)) (hno : PySem.W.findIn X.K (.ref (Γ.cA c)) (Γ.cF c) = some none) (hz : Zc (.ref (Γ.cA c)) (some dd) oe) (hf : ∃ vs, oe.data = .fields vs)
    (he : PE (X.suite a ((a, oe) :: pn)) e (tE Γ F Wx ie)) (hb : attributeBase e (Γ.cF c) X.env (eval e X.env) = eval e X.env) : PE (X.suite a ((a, oe) :: pn)) (.Attribute e (Γ.cF c) pos) (tE Γ F Wx (.fld ie c)) := by
  refine peImp (pe_xf T hno hz hf he hb) fun σ H Q ⟨W, ρ, st, hR, g⟩ => ?_
  unfold evE at g
  refine bindE st hR g fun d W1 H1 v x1 hR1 st1 rd g1 => ?_
  cases rf : field d c with
  | none => rw [rf] at g1; exact g1.elim
  | some u =>
    rw [rf] at g1
    cases rd with
    | @hot c' p a' d' v' h1 h2 h3 r =>
      have h1 : Γ.hot = some (a', d') := h1
      rw [hot] at h1
      cases h1
      have rf2 : (if c' = c then some p else none) = some u := rf
      clear rf
      split at rf2
      · rename_i ec
        have ep : p = u := Option.some.inj rf2
        subst ec
        subst ep
        refine ⟨rfl, rfl, dd, _, v', rfl, h2, ?_, OkP.here hR1 g1 r⟩
        rw [List.lookup_cons, beq_self_eq_true]
      · cases rf2
    | _ => cases rf
end
end PI
set_option maxRecDepth 100000
set_option maxHeartbeats 2000000
/-! Errors as values. -/
namespace PI
open PySem L2 PIErr
section
variable {Γ : Cls1} {F : Fn} {Wx : WX} {X : Cx}
theorem s_compR2 (hc : X.calm = true) (hN : X.N.Nodup) (m : Bool) {elt tg iter : Expr} {ifs : List Expr} {scope : Scope} {x : Str} {i : Nat} {pos : Pos} {na nb ielt : E} {cond : Option E} (hi : PI X tg iter (tI2 Γ F Wx [na, nb])) (ok : BlkOk X.N X.env.scope scope [(x, i)])
    (hg : ∀ (s : Shared) (H : Hp) (C : Addr) (cl : List (Str × Addr)) (fp : List Addr), PG (X.blk s H scope (compEnvC scope cl C X.env) fp) tg (gName i)) (ht : ∀ (s : Shared) (H : Hp) (C : Addr) (cl : List (Str × Addr)) (fp : List Addr), PTs (X.blk s H scope (compEnvC scope cl C X.env) fp) ifs (tC1 Γ F noW cond))
    (he : ∀ (s : Shared) (H : Hp) (C : Addr) (cl : List (Str × Addr)) (fp : List Addr), PE (X.blk s H scope (compEnvC scope cl C X.env) fp) elt (tE Γ F noW ielt)) (hs : ∀ x, foldedSetIterable iter X.env x = pure x) :
    PE X (.ListComp elt [⟨tg, iter, ifs, 0⟩] scope pos) (tE Γ F Wx (.compR2 m i [na, nb] cond ielt)) := by
  refine peImp (pe_lc hc hN hi ok hg ht he hs) fun σ H Q ⟨W, ρ, st, hR, g⟩ => ?_
  unfold evE at g
  refine ⟨W, ρ, st, hR, ?_⟩
  cases r : evEs F [na, nb] ρ W.ah with
  | ok s h1 =>
    rw [r] at g
    have g : GoD Γ W H ((Res.of (upTo2 s) h1).bind _) Q (wE Wx σ) := g
    cases rs : upTo2 s with
    | none => rw [rs] at g; exact g.elim
    | some xs =>
      rw [rs] at g
      obtain ⟨ys, hf, e, hl, q⟩ := made_of (h := h1) g
      unfold upTo2 at rs
      split at rs
      · split at rs
        · rename_i c
          cases rs
          obtain ⟨c1, c2⟩ := and2 c
          refine ⟨_, _, rfl, c1, c2, fun W' H' J e1 x hR' iok => ?_⟩
          subst e1
          exact comp_go m (st.ext x) hR' .non iok e hl (q.ext x)
        · cases rs
      · cases rs
  | exc c p h' => rw [r] at g; exact g
  | fail => rw [r] at g; exact g
end
/-! ### made -/
/-- X(e), the class at C with an own __init__ -/
def tNewX (C : Addr) (fld : Str) (ta : TE) : TE := fun σ H Q => ta σ H fun v H1 => ∀ d e, H1 d = none → H1 e = none → d ≠ e → Q (.ref e) (upd (upd H1 d (.xd [(fld, v)])) e (ErO (.ref C) (some d) e))
def tNewM (C : Addr) (ta : TE) : TE := fun σ H Q => ta σ H fun _ H1 => ∀ e, H1 e = none → Q (.ref e) (upd H1 e (ErO (.ref C) none e))
theorem erO_ok {P : Program} {w : World} {H : Hp} {h : Heap} {a : Addr} {cls : Value} {d : Option Addr} {oe : Obj} {vs : Array Value} (e : h.get? a = some oe) (z : Zc cls d oe) (hd : oe.data = .fields vs) (h1 : vs[1]? = some .none) : ObjOk P w H h a (ErO cls d a) :=
  ⟨⟨oe, vs, e, z, hd, h1⟩, ⟨oe, e⟩, fun _ _ ⟨o, v, q, r⟩ k => ⟨o, v, k o q, r⟩⟩
section
open PySem.Spec PyProof.Rows
variable {X : Cx} {C fI : Addr} {B i newId sid sow : String} {bmB : List Value} {par fld msg x : Str}
theorem pe_newx (T : ErrTxt X.prog X.K C fI B i newId sid sow bmB par fld msg) (iC : PySem.W.findIn X.K (.ref C) "__init__" = some (some (.ref fI))) (tC : PySem.W.typeIn X.K (.ref fI) = some (.type "function")) (gC : X.mg x = some (.ref C)) (kC : PySem.W.keepIn X.K (.ref C) = true)
    {a : Expr} {ta : TE} {p pos : Pos} (hr : X.A.depth + 1 < recursionLimit) (ha : PE X a ta) (hg : Gl X x) (hd : (x == ("__debug__" : Str)) = false) (hs : noStar a = true) : PE X (.Call (.Name x p) [a] [] pos) (tNewX C fld ta) := by
  refine ⟨fun pins s σ H Q I h => ?_⟩
  refine wpAny_Call_Name_kw (ld_glob I hg gC ?_ hd)
  refine PySem.W.callWith_K (h₀ := X.base) I.ok.mod.kin kC ?_ (star_cons hs) rfl
  rw [star_cons hs]
  show wpAny _ _ (spliced ((false, eval a X.env) :: backTo pos (starEach [] X.env))) _ _ s
  refine Calls.spliced_cons (thn (ha.run pins s σ H _ I h) fun u s1 ⟨v, H1, I1, rv, q1⟩ => ?_)
  refine Calls.spliced_nil ⟨I1.kIn, ?_⟩
  show wpAny _ _ (call (.ref C) [u]) _ _ _
  have hlim := I1.nolimit
  obtain ⟨mb, hmb, hbb⟩ := I1.mod.blt
  have hgl := I1.mod.glob.keeps I1.bk
  have hbl := hmb.keeps I1.bk
  obtain ⟨hp, g, dr, tk, os⟩ := s1
  refine wpAny_call (err_made T iC tC I1.kIn hlim hgl hbl hbb hr fun h' tk' e d M => ?_)
  obtain ⟨oe, fv, hoe, hc, hdi, hdat, h1⟩ := M.obj
  obtain ⟨G', g1, g2⟩ := restrict h' fun b => decide (b ≠ e)
  have off : ∀ b, b ≠ e → G'.get? b = h'.get? b := fun b hb => g1 b (decide_eq_true hb)
  have none_ : G'.get? e = none := g2 e (by simp)
  have old : ∀ b o, hp.get? b = some o → G'.get? b = some o := fun b o q => (off b (Nat.ne_of_lt (Nat.lt_of_lt_of_le (Heap.lt_size q) M.new))).trans (M.keep b o q)
  have ob : ObjOk X.prog X.w (upd H1 d (.xd [(fld, v)])) G' d (.xd [(fld, v)]) := ⟨_, M.ns.at (fun o q => (off d M.dne).trans q), fun f => relO_one rv f⟩
  have J : Inv X pins σ (upd H1 d (.xd [(fld, v)])) ⟨G', g, dr, tk', os⟩ := I1.laid (t' := tk') old M.dbig ob
  have hd0 : H1 d = none := I1.hok.fresh M.dbig
  have he0 : H1 e = none := I1.hok.fresh M.new
  have he1 : upd H1 d (.xd [(fld, v)]) e = none := by rw [upd_ne (Ne.symm M.dne)]; exact he0
  have J2 := J.laidN (h' := h') (a := e) (o := ErO (.ref C) (some d) e) (t' := tk') (fun b o q => by
    by_cases hb : b = e
    · rw [hb, none_] at q
      cases q
    · exact (off b hb).symm.trans q) none_ he1 (erO_ok hoe ⟨hc, hdi⟩ hdat h1)
  exact ⟨.ref e, _, J2, rfl, q1 d e hd0 he0 M.dne⟩
end
end PI
set_option maxRecDepth 100000
set_option maxHeartbeats 2000000
namespace PIErr
open PySem PySem.W PySem.Calls PyProof.Rows PySem.HandSPX
/-- what the written part tells of an own class without an __init__ of its own -/
structure MsgTxt (K : Frag) (C : Addr) (B i newId : String) (bmB : List Value) : Prop where
  BF : BaseF B i newId bmB
  cls : ∃ (nm q : Str) (N : Addr) (bs bm : List Value) (sn : List Str) (sub : List Value) (ab : Bool) (col : Option Bool) (dd : Option Addr) (k0 k1 k2 k3 k5 : Option Value), K.lookup C = some (excClassObj nm q C N bs bm true sn sub ab col dd k0 k1 k2 k3 k5 newId) ∧ refsThen bmB (.ref C :: bm) = true
  iC : findIn K (.ref C) "__init__" = some (some (.builtin i))
variable {prog : Program} {w : World} {A : Around} {R : Result → Shared → Prop} {s : Shared} {K : Frag} {C : Addr} {B i newId : String} {bmB : List Value}
theorem msg_made (T : MsgTxt K C B i newId bmB) {v : Value} (hK : K.In s.heap)
    (hq : ∀ h' e t1, (∀ b o, s.heap.get? b = some o → h'.get? b = some o) → s.heap.objs.size ≤ e → h'.get? e = some (excO C t1) → R (.ok (.ret (.ref e))) { s with heap := h' }) : codeAny (model prog w) A (.call (.ref C) ⟨[v], []⟩) R s := by
  obtain ⟨nm, q, N, bs, bm, sn, sub, ab, col, dd, k0, k1, k2, k3, k5, hC, hbm⟩ := T.cls
  obtain ⟨NN, NF, L0⟩ := T.BF.ex
  have L := refs_tail L0 hbm
  obtain ⟨hp, g, dr, tk, os⟩ := s
  dsimp only at *
  have k : ∀ b o, hp.get? b = some o → ((hp.push (kdv_tup [v])).push (excO C hp.objs.size)).get? b = some o := fun b o e => Heap.get?_push_of_some _ (Heap.get?_push_of_some _ e)
  have hget : ((hp.push (kdv_tup [v])).push (excO C hp.objs.size)).get? (hp.objs.size + 1) = some (excO C hp.objs.size) := by heap_get
  have h1 : ([v] : List Value).length ≤ sizeLine := by rw [sizeLine_eq]; show 1 ≤ 16777216; decide
  refine made_own NF L (f := .builtin i) (hK _ _ hC) (looks_findIn hK T.iC) (fun self => Looks.of_pure (T.BF.ini.slot.bind self)) h1 ?_
  refine init_plain T.BF.ini L.hB (k _ _ (hK _ _ hC)) hget h1 fun h' t1 keep he => ?_
  exact ⟨rfl, hq h' (hp.objs.size + 1) t1 (fun b o e => keep b o (Nat.ne_of_lt (Nat.lt_succ_of_lt (Heap.lt_size e))) (k b o e)) (Nat.le_succ _) he⟩
end PIErr
namespace PI
open PySem L2 PIErr
section
open PySem.Spec PyProof.Rows
variable {X : Cx} {C : Addr} {B i newId : String} {bmB : List Value} {x : Str}
theorem pe_newm (T : MsgTxt X.K C B i newId bmB) (gC : X.mg x = some (.ref C)) (kC : PySem.W.keepIn X.K (.ref C) = true)
    {a : Expr} {ta : TE} {p pos : Pos} (ha : PE X a ta) (hg : Gl X x) (hd : (x == ("__debug__" : Str)) = false) (hs : noStar a = true) : PE X (.Call (.Name x p) [a] [] pos) (tNewM C ta) := by
  refine ⟨fun pins s σ H Q I h => ?_⟩
  refine wpAny_Call_Name_kw (ld_glob I hg gC ?_ hd)
  refine PySem.W.callWith_K (h₀ := X.base) I.ok.mod.kin kC ?_ (star_cons hs) rfl
  rw [star_cons hs]
  show wpAny _ _ (spliced ((false, eval a X.env) :: backTo pos (starEach [] X.env))) _ _ s
  refine Calls.spliced_cons (thn (ha.run pins s σ H _ I h) fun u s1 ⟨v, H1, I1, rv, q1⟩ => ?_)
  refine Calls.spliced_nil ⟨I1.kIn, ?_⟩
  show wpAny _ _ (call (.ref C) [u]) _ _ _
  refine wpAny_call (msg_made T I1.kIn fun h' e t1 keep new he => ?_)
  have he0 : H1 e = none := I1.hok.fresh new
  exact ⟨.ref e, _, I1.laid (t' := s1.toks) keep new (erO_ok he ⟨rfl, rfl⟩ rfl rfl), rfl, q1 e he0⟩
end
/-! ### read, asked -/
section
open PySem.Spec PyProof.Rows
variable {X : Cx} {C : Addr} {n : Str}
/-- e.n, e an error that is a value -/
def tFv (C : Addr) (n : Str) (te : TE) : TE := fun σ H Q => te σ H fun x H1 => ∃ (a d : Addr) (v : V), x = .ref a ∧ H1 a = some (ErO (.ref C) (some d) a) ∧ H1 d = some (.xd [(n, v)]) ∧ Q v H1
theorem pe_fv (T : XfC X.K C) (hno : PySem.W.findIn X.K (.ref C) n = some none) {e : Expr} {te : TE} {pos : Pos} (he : PE X e te) (hb : attributeBase e n X.env (eval e X.env) = eval e X.env) : PE X (.Attribute e n pos) (tFv C n te) := by
  refine ⟨fun pins s σ H Q I h => ?_⟩
  refine attr_of hb (thn (he.run pins s σ H _ I h) fun u s1 hh => ?_)
  obtain ⟨x, H1, I1, rx, a, d, v, ex, ea, ed, q⟩ := hh
  subst ex
  obtain rfl : u = Value.ref a := rx
  obtain ⟨⟨oe, vs, ha, hz, hd, _⟩, _, _⟩ := I1.hok a _ ea
  have hx : ObjOk X.prog X.w H1 s1.heap d (.xd [(n, v)]) := I1.hok d _ ed
  obtain ⟨mA, hns, hr⟩ := hx
  obtain ⟨od, ho, hl⟩ := lookIn_ns hns
  have l : List.lookup n [(n, v)] = some v := by rw [List.lookup_cons, beq_self_eq_true]
  obtain ⟨u, hu, ru⟩ := RelO.some_of (v := v) (o := mA n) (by rw [← l]; exact hr n)
  have J : PySem.W.InstAt s1.heap a oe C (some od) := ⟨ha, hz.1, by unfold PySem.W.notCls; rw [hd] <;> rfl, by rw [hz.2]; exact ho⟩
  exact HandSPX.exc_get I1.kIn J T.ga T.gg T.exC (PySem.W.findObj_own T.hdC hno rfl (by rw [hl, hu])) (handed_of ru) ⟨v, H1, I1.tok _, ru, q⟩
/-- what isinstance asks of an error class -/
structure IsaC (K : PySem.W.Frag) (C : Addr) : Prop where
  xf : XfC K C
  cl : (PySem.W.clsIn K C).isSome = true
  ca : PySem.W.findIn K (.ref C) "__class__" = some (some (.builtin "object.__class__"))
  cn : PySem.W.specialIn K (.builtin "object.__class__") "__get__" = some (some (.builtin "getset_descriptor.__get__"))
  ct : PySem.W.takesIn K (.builtin "object.__class__") = some true
  cm : PySem.W.mroIn K C (.type "object") = some true
def isaB (K : PySem.W.Frag) (C : Addr) : Bool := xfB K C && ((PySem.W.clsIn K C).isSome && (decide (PySem.W.findIn K (.ref C) "__class__" = some (some (.builtin "object.__class__"))) && (decide (PySem.W.specialIn K (.builtin "object.__class__") "__get__" = some (some (.builtin "getset_descriptor.__get__"))) &&
  (decide (PySem.W.takesIn K (.builtin "object.__class__") = some true) && decide (PySem.W.mroIn K C (.type "object") = some true)))))
theorem isaB_ok {K : PySem.W.Frag} {C : Addr} (h : isaB K C = true) : IsaC K C := by
  unfold isaB at h
  simp only [Bool.and_eq_true, decide_eq_true_eq] at h
  obtain ⟨h1, h2, h3, h4, h5, h6⟩ := h
  exact ⟨xfB_ok h1, h2, h3, h4, h5, h6⟩
variable {pins : List (Addr × Obj)} {σ : L2.St} {H : Hp} {s : Shared}
def rIsX (K : PySem.W.Frag) (cv : V) (u : Value) : List V → Hp → VK → Prop := fun vs H Q => ∃ (a C : Addr) (od : Option Addr) (b : Bool), vs = [.ref a, cv] ∧ H a = some (ErO (.ref C) od a) ∧ (∀ d, od = some d → ∃ fs, H d = some (.xd fs)) ∧ IsaC K C ∧ PySem.W.kitOne K (.ref C) u = some b ∧ Q (.bl b) H
theorem callr_isx {cv : V} {u : Value} (one : ∀ w, RelV cv w → w = u) : CallR X (.builtin "isinstance") (rIsX X.K cv u) := by
  intro pins s σ H vs us Q I rv ⟨a, C, od, b, e, ea, hd0, hc, hk, q⟩
  subst e
  obtain ⟨u1, u2, rfl, r1, r2⟩ := rv.two
  cases (show u1 = Value.ref a from r1)
  cases one _ r2
  obtain ⟨⟨oe, vs, ha, hz, hd, _⟩, _, _⟩ := I.hok a _ ea
  have J : ∃ o, PySem.W.InstAt s.heap a oe C o := by
    cases od with
    | none => exact ⟨none, ha, hz.1, by unfold PySem.W.notCls; rw [hd] <;> rfl, by rw [hz.2]; trivial⟩
    | some d =>
      obtain ⟨fs, ed⟩ := hd0 d rfl
      have hx : ObjOk X.prog X.w H s.heap d (.xd fs) := I.hok d _ ed
      obtain ⟨mA, hns, hr⟩ := hx
      obtain ⟨o, ho, hl⟩ := lookIn_ns hns
      exact ⟨some o, ha, hz.1, by unfold PySem.W.notCls; rw [hd] <;> rfl, by rw [hz.2]; exact ho⟩
  obtain ⟨o, J⟩ := J
  exact PySem.W.kia_one (PySem.W.kitx_exc hc.cl hc.xf.ga hc.xf.gg hc.xf.exC hc.ca hc.cn hc.ct hc.cm) I.kIn J hk (fun z => nomatch z) fun tk => ⟨.bl b, H, I.tok _, rfl, q⟩
end
end PI
set_option maxRecDepth 100000
set_option maxHeartbeats 2000000
namespace PI
open PySem L2 PIErr
/-- the c-th class, named x, whose errors are values; they keep a value under f, or nothing -/
structure ValAt (Γ : Cls1) (X : Cx) (x : Str) (f : Option Str) (c : Nat) : Prop where
  lt : c < Γ.nV
  mg : X.mg x = some (.ref (Γ.cA c))
  kp : PySem.W.keepIn X.K (.ref (Γ.cA c)) = true
  isa : IsaC X.K (Γ.cA c)
  own : ∀ y, f = some y → Γ.cF c = y ∧ (∃ (fI : Addr) (B i newId sid sow : String) (bmB : List Value) (par msg : Str), ErrTxt X.prog X.K (Γ.cA c) fI B i newId sid sow bmB par (Γ.cF c) msg ∧ PySem.W.findIn X.K (.ref (Γ.cA c)) "__init__" = some (some (.ref fI)) ∧ PySem.W.typeIn X.K (.ref fI) = some (.type "function")) ∧
    PySem.W.findIn X.K (.ref (Γ.cA c)) (Γ.cF c) = some none
  msg : f = none → ∃ (B i newId : String) (bmB : List Value), MsgTxt X.K (Γ.cA c) B i newId bmB
/-- the name T, asked about by isinstance -/
structure IsaAt (Γ : Cls1) (X : Cx) (T : Str) (yes : List Nat) : Prop where
  ex : ∃ (cv : V) (u : Value), RelV cv u ∧ (∀ w, RelV cv w → w = u) ∧ (X.mg T = some u ∨ (X.mg T = none ∧ bootBuiltins T = some u ∧ T ≠ "__name__")) ∧ ∀ c, c < Γ.nV → PySem.W.kitOne X.K (.ref (Γ.cA c)) u = some (yes.contains c)
  isa : ∀ c, c < Γ.nV → IsaC X.K (Γ.cA c)
theorem ValAt.to {Γ : Cls1} {X Y : Cx} {x : Str} {f : Option Str} {c : Nat} (h : ValAt Γ X x f c) (e1 : Y.prog = X.prog := by rfl) (e2 : Y.K = X.K := by rfl) (e3 : Y.mg = X.mg := by rfl) : ValAt Γ Y x f c :=
  ⟨h.lt, by rw [e3]; exact h.mg, by rw [e2]; exact h.kp, by rw [e2]; exact h.isa, fun y e => by rw [e1, e2]; exact h.own y e, fun e => by rw [e2]; exact h.msg e⟩
theorem IsaAt.to {Γ : Cls1} {X Y : Cx} {T : Str} {yes : List Nat} (h : IsaAt Γ X T yes) (e2 : Y.K = X.K := by rfl) (e3 : Y.mg = X.mg := by rfl) : IsaAt Γ Y T yes := ⟨by rw [e2, e3]; exact h.ex, by rw [e2]; exact h.isa⟩
section
variable {Γ : Cls1} {F : Fn} {Wx : WX} {X : Cx}
theorem s_newx (hr : X.A.depth + 1 < recursionLimit) {x f : Str} {c : Nat} (R : ValAt Γ X x (some f) c) {a : Expr} {ia : E} {p pos : Pos} (ha : PE X a (tE Γ F Wx ia)) (hg : Gl X x) (hd : (x == ("__debug__" : Str)) = false) (hs : noStar a = true) :
    PE X (.Call (.Name x p) [a] [] pos) (tE Γ F Wx (.newx c ia)) := by
  obtain ⟨ef, ⟨fI, B, i, newId, sid, sow, bmB, par, msg, T, iC, tC⟩, _⟩ := R.own f rfl
  refine peImp (pe_newx T iC tC R.mg R.kp hr ha hg hd hs) fun σ H Q ⟨W, ρ, st, hR, g⟩ => ?_
  unfold evE at g
  refine bindE st hR g fun d W1 H1 v x1 hR1 st1 rd g1 => fun dd e hdd he ne => ?_
  have he' : upd H1 dd (.xd [(Γ.cF c, v)]) e = none := by rw [upd_ne (Ne.symm ne)]; exact he
  have hR2 := hR1.fresh (o := .xd [(Γ.cF c, v)]) hdd
  have x2 : Ext W1 H1 W1 (upd (upd H1 dd (.xd [(Γ.cF c, v)])) e (ErO (.ref (Γ.cA c)) (some dd) e)) := (Ext.fresh hR1 hdd).trans (.fresh hR2 he')
  refine g1 W1 _ _ rfl x2 (hR2.fresh he') (.err R.lt upd_same (not_live hR1 he) ?_ (not_live hR1 hdd) (rd.ext x2))
  rw [upd_ne ne, upd_same]
theorem s_newm {x : Str} {c : Nat} (R : ValAt Γ X x none c) {a : Expr} {ia : E} {p pos : Pos} (ha : PE X a (tE Γ F Wx ia)) (hg : Gl X x) (hd : (x == ("__debug__" : Str)) = false) (hs : noStar a = true) :
    PE X (.Call (.Name x p) [a] [] pos) (tE Γ F Wx (.newm c ia)) := by
  obtain ⟨B, i, newId, bmB, T⟩ := R.msg rfl
  refine peImp (pe_newm T R.mg R.kp ha hg hd hs) fun σ H Q ⟨W, ρ, st, hR, g⟩ => ?_
  unfold evE at g
  refine bindE st hR g fun d W1 H1 v x1 hR1 st1 rd g1 => fun e he => ?_
  exact g1 W1 _ _ rfl (.fresh hR1 he) (hR1.fresh he) (.msg R.lt upd_same (not_live hR1 he))
theorem s_fldv {x f : Str} {c : Nat} (R : ValAt Γ X x (some f) c) {e : Expr} {ie : E} {pos : Pos} (he : PE X e (tE Γ F Wx ie)) (hb : attributeBase e f X.env (eval e X.env) = eval e X.env) : PE X (.Attribute e f pos) (tE Γ F Wx (.fldv ie c)) := by
  obtain ⟨ef, _, no⟩ := R.own f rfl
  subst ef
  refine peImp (pe_fv R.isa.xf no he hb) fun σ H Q ⟨W, ρ, st, hR, g⟩ => ?_
  unfold evE at g
  refine bindE st hR g fun d W1 H1 v x1 hR1 st1 rd g1 => ?_
  cases rf : fieldv d c with
  | none => rw [rf] at g1; exact g1.elim
  | some u =>
    rw [rf] at g1
    cases rd with
    | @err c' p a d' v' h0 h1 h2 h3 h4 r =>
      have rf2 : (if c' = c then some p else none) = some u := rf
      clear rf
      split at rf2
      · rename_i ec
        subst ec
        cases rf2
        exact ⟨a, d', v', rfl, h1, h3, OkP.here hR1 g1 r⟩
      · cases rf2
    | _ => cases rf
theorem s_isx (hx : Here Γ.toCls0 X) {T : Str} {yes : List Nat} (R : IsaAt Γ X T yes) {a : Expr} {ia : E} {np cp pos : Pos} (hg : Gl X "isinstance") (hm : X.mg "isinstance" = none) (hgT : Gl X T) (hT : (T == ("__debug__" : Str)) = false)
    (ha : PE X a (tE Γ F Wx ia)) (hn : noStar a = true) : PE X (.Call (.Name "isinstance" np) [a, .Name T cp] [] pos) (tE Γ F Wx (.isi ia (.exc yes))) := by
  obtain ⟨cv, u, rv, one, hu, kit⟩ := R.ex
  have hN : PE X (.Name T cp) (tC cv) := by
    rcases hu with hu | ⟨h1, h2, h3⟩
    · exact pe_glob hgT hu rv hT
    · exact pe_bltn hgT h1 h2 rv h3 hT
  refine peImp (pe_callB (callr_isx one) hg hm (by decide +kernel) (pa_cons ha (pa_cons hN pa_nil rfl) (star_cons hn)) (by decide +kernel) (by decide +kernel) (star_cons hn) rfl) fun σ H Q ⟨W, ρ, st, hR, g⟩ => ?_
  unfold evE at g
  refine bindE st hR g fun d W1 H1 v x1 hR1 st1 rd g1 => ?_
  obtain ⟨k, e1, q⟩ := g1.of
  have e1 : (match look W1.ah d with
    | .ins c [] => some (yes.contains c)
    | .ins c [_, .non] => some (yes.contains c)
    | _ => none) = some k := e1
  cases rd with
  | @err c p a d' v' h0 h1 h2 h3 h4 r =>
    have e1 : some (yes.contains c) = some k := e1
    exact ⟨a, Γ.cA c, some d', k, rfl, h1, (fun d e => by cases e; exact ⟨_, h3⟩), R.isa c h0, by rw [← e1]; exact kit c h0, OkP.here hR1 q (.bl _)⟩
  | @msg c a h0 h1 h2 =>
    have e1 : some (yes.contains c) = some k := e1
    exact ⟨a, Γ.cA c, none, k, rfl, h1, (fun d e => by cases e), R.isa c h0, by rw [← e1]; exact kit c h0, OkP.here hR1 q (.bl _)⟩
  | @loc n a h =>
    exfalso
    have key : ∀ o : Option AO, (match (match o with
      | some (.lst xs) => D.lst xs
      | some (.dct kvs) => .dct kvs
      | _ => .loc n) with
      | .ins c [] => some (yes.contains c)
      | .ins c [_, .non] => some (yes.contains c)
      | _ => none) = some k → False := fun o => by
      rcases o with _ | (_ | _ | _ | _) <;> intro z <;> cases z
    exact key _ e1
  | _ => cases e1
end
end PI
set_option maxRecDepth 100000
set_option maxHeartbeats 2000000
/-! Rules for dicts. -/
namespace PI
open PySem L2
section
variable {Γ : Cls1} {F : Fn} {Wx : WX} {X : Cx} {a b c : Expr} {ia ib ic : E} {pos : Pos}
theorem noSl_ok {i : Expr} (h : PlainIx i) : NoSl i := fun ov iv => h ov iv
theorem keyK_of {d : D} {f : Res D} {W : Wd} {H : Hp} {Q : VK} {E : XK} (g : GoD Γ W H (if keyK d = true then f else .fail) Q E) : (∃ κ, keyOf d = some κ) ∧ GoD Γ W H f Q E := by
  obtain ⟨h1, h2⟩ := g.if_
  exact ⟨keyK_ok h1, h2⟩
/-- d[k] -/
theorem s_dix (hx : Here Γ.toCls0 X) (hi : PlainIx b) (ha : PE X a (tE Γ F Wx ia)) (hb : PE X b (tE Γ F Wx ib)) : PE X (.Subscript a b pos) (tE Γ F Wx (.dix ia ib)) := by
  have hu := hx.units
  refine peImp (pe_dget (by omega) ha hb (noSl_ok hi)) fun σ H Q ⟨W, ρ, st, hR, g⟩ => ?_
  unfold evE at g
  refine bindE st hR g fun d W1 H1 v x1 hR1 st1 rd g1 => bindE st1 hR1 g1 fun e W2 H2 u x2 hR2 st2 re g2 => ?_
  obtain ⟨⟨κ, hκ⟩, g3⟩ := keyK_of g2
  cases q : (dkvs W2.ah d).bind fun kvs => dfind kvs e with
  | none => rw [q] at g3; exact g3.elim
  | some r =>
    rw [q] at g3
    obtain ⟨kvs, q1, q2⟩ := opt_bind q
    obtain ⟨p, vs, rfl, rp, rk⟩ := seen_dct hR2 (rd.ext x2) q1
    have := key_rel re hκ
    subst this
    rcases find_rel hκ rk with ⟨f1, _⟩ | ⟨d2, v2, f1, f2, rv⟩
    · rw [f1] at q2; cases q2
    · rw [f1] at q2
      cases q2
      exact ⟨p, v2, rfl, .inl ⟨vs, κ, rp, rfl, f2.symm⟩, OkP.here hR2 g3 rv⟩
/-- k in d, k not in d -/
theorem pc_din_ok (hx : Here Γ.toCls0 X) (neg : Bool) (ha : PE X a (tE Γ F Wx ia)) (hb : PE X b (tE Γ F Wx ib)) : PC X (if neg then .NotIn else .In) a b (tE Γ F Wx (.din neg ia ib)) := by
  have hu := hx.units
  have key : ∀ σ H Q, tE Γ F Wx (.din neg ia ib) σ H Q → tE Γ F Wx ia σ H fun y H1 => tE Γ F Wx ib σ H1 fun x H2 => ∃ a o, x = .ref a ∧ DGet H2 a y o ∧ Q (.bl (if neg then !o.isSome else o.isSome)) H2 := fun σ H Q ⟨W, ρ, st, hR, g⟩ => by
    unfold evE at g
    refine bindE st hR g fun d W1 H1 v x1 hR1 st1 rd g1 => bindE st1 hR1 g1 fun e W2 H2 u x2 hR2 st2 re g2 => ?_
    obtain ⟨⟨κ, hκ⟩, g3⟩ := keyK_of g2
    cases q : dkvs W2.ah e with
    | none => rw [q] at g3; exact g3.elim
    | some kvs =>
      rw [q] at g3
      obtain ⟨p, vs, rfl, rp, rk⟩ := seen_dct hR2 re q
      have := key_rel (rd.ext x2) hκ
      subst this
      have g3 : GoD Γ W2 H2 (.ok (.bl (if neg then !(dfind kvs d).isSome else (dfind kvs d).isSome)) W2.ah) Q (wE Wx σ) := g3
      refine ⟨p, valV vs κ, rfl, .inl ⟨vs, κ, rp, rfl, rfl⟩, ?_⟩
      rcases find_rel hκ rk with ⟨f1, f2⟩ | ⟨d2, v2, f1, f2, rv⟩
      · rw [f1] at g3; rw [f2]; exact OkP.here hR2 g3 (.bl _)
      · rw [f1] at g3; rw [f2]; exact OkP.here hR2 g3 (.bl _)
  cases neg with
  | false => exact ⟨fun pins s σ H Q I h => (pc_din (by omega) ha hb).run pins s σ H Q I (key σ H Q h)⟩
  | true => exact ⟨fun pins s σ H Q I h => (pc_dnotin (by omega) ha hb).run pins s σ H Q I (key σ H Q h)⟩
theorem s_din (hx : Here Γ.toCls0 X) (neg : Bool) (ha : PE X a (tE Γ F Wx ia)) (hb : PE X b (tE Γ F Wx ib)) (hm : behindInMarks (if neg then .NotIn else .In) b = false) : PE X (.Compare a [if neg then .NotIn else .In] [b] pos) (tE Γ F Wx (.din neg ia ib)) := pe_cmp (pc_din_ok hx neg ha hb) hm
theorem din_bl {neg : Bool} {ρ : Rho} {h h' : AH} {d : D} (e : evE F (.din neg ia ib) ρ h = .ok d h') : ∃ k, d = .bl k := by
  unfold evE at e
  cases q : evE F ia ρ h with
  | ok y h1 =>
    rw [q] at e
    have e : ((evE F ib ρ h1).bind fun x h2 => if keyK y then Res.of ((dkvs h2 x).map fun kvs => D.bl (if neg then !(dfind kvs y).isSome else (dfind kvs y).isSome)) h2 else .fail) = .ok d h' := e
    cases q2 : evE F ib ρ h1 with
    | ok x h2 =>
      rw [q2] at e
      have e : (if keyK y then Res.of ((dkvs h2 x).map fun kvs => D.bl (if neg then !(dfind kvs y).isSome else (dfind kvs y).isSome)) h2 else .fail) = .ok d h' := e
      split at e
      · cases q3 : dkvs h2 x with
        | none => rw [q3] at e; cases e
        | some kvs => rw [q3] at e; cases e; exact ⟨_, rfl⟩
      · cases e
    | exc _ _ _ => rw [q2] at e; cases e
    | fail => rw [q2] at e; cases e
  | exc _ _ _ => rw [q] at e; cases e
  | fail => rw [q] at e; cases e
/-- an expression that gives a truth value alone, as a test -/
theorem bool_test {i : E} {t : TE} {tt : TT} (hb : ∀ (ρ : Rho) (h h' : AH) (d : D), evE F i ρ h = .ok d h' → ∃ k, d = .bl k) {σ : St} {H : Hp} {Q : Bool → Hp → Prop} (h : tB Γ F Wx i σ H Q) : tE Γ F Wx i σ H fun x H1 => ∃ k, x = .bl k ∧ Q k H1 := by
  obtain ⟨W, ρ, st, hR, g⟩ := h
  refine ⟨W, ρ, st, hR, ?_⟩
  cases q : evE F i ρ W.ah with
  | ok d h' =>
    rw [q] at g
    obtain ⟨k, rfl⟩ := hb _ _ _ _ q
    intro W' H' v e x hR' r
    exact ⟨k, r.isBl, g W' H' e x hR'⟩
  | exc c p h' => rw [q] at g; exact g
  | fail => rw [q] at g; exact g
theorem t_din (hx : Here Γ.toCls0 X) (neg : Bool) (ha : PE X a (tE Γ F Wx ia)) (hb : PE X b (tE Γ F Wx ib)) (hm : behindInMarks (if neg then .NotIn else .In) b = false) : PT X (.Compare a [if neg then .NotIn else .In] [b] pos) (tB Γ F Wx (.din neg ia ib)) :=
  ptImp (pt_cmp (pc_din_ok hx neg ha hb) hm) fun σ H Q h => bool_test (tt := fun _ _ _ => True) (t := fun _ _ _ => True) (fun ρ h h' d e => din_bl e) h
end
end PI
set_option maxRecDepth 100000
set_option maxHeartbeats 2000000
namespace PI
open PySem L2
section
variable {Γ : Cls1} {F : Fn} {Wx : WX} {X : Cx} {a b c : Expr} {ia ib ic : E} {pos : Pos}
/-- d.get(k, z) -/
theorem s_dget (hx : Here Γ.toCls0 X) {apos : Pos} (ha : PE X a (tE Γ F Wx ia)) (hb : PE X b (tE Γ F Wx ib)) (hc : PE X c (tE Γ F Wx ic)) (h1 : plainO a = true) (h2 : noStar b = true) (h3 : noStar c = true) (hl : (apos.endLine == pos.line) = true) :
    PE X (.Call (.Attribute a "get" apos) [b, c] [] pos) (tE Γ F Wx (.dget ia ib ic)) := by
  have hu := hx.units
  have es : starEach [b, c] X.env = [(false, eval b X.env), (false, eval c X.env)] := by rw [star_cons h2, star_cons h3]; rfl
  have m : M2 X a "get" apos b c pos := ⟨plainO_base h1, by rw [es]; rfl, hl, by rw [es]; rfl⟩
  refine peImp (pe_dget2 (by omega) ha hb hc m) fun σ H Q ⟨W, ρ, st, hR, g⟩ => ?_
  unfold evE at g
  refine bindE st hR g fun d W1 H1 v x1 hR1 st1 rd g1 => ?_
  obtain ⟨hd, g1⟩ := g1.if_
  obtain ⟨kvs0, q0⟩ := Option.isSome_iff_exists.mp hd
  obtain ⟨p, vs0, rfl, rp0, _⟩ := seen_dct hR1 rd q0
  refine ⟨p, rfl, .inl ⟨vs0, rp0⟩, bindE st1 hR1 g1 fun e W2 H2 u x2 hR2 st2 re g2 => bindE st2 hR2 g2 fun z W3 H3 w x3 hR3 st3 rz g3 => ?_⟩
  obtain ⟨⟨κ, hκ⟩, g4⟩ := keyK_of g3
  cases q : dkvs W3.ah d with
  | none => rw [q] at g4; exact g4.elim
  | some kvs =>
    rw [q] at g4
    obtain ⟨p', vs, ep, rp, rk⟩ := seen_dct hR3 ((rd.ext x2).ext x3) q
    cases ep
    have := key_rel (re.ext x3) hκ
    subst this
    have g4 : GoD Γ W3 H3 (.ok ((dfind kvs e).getD z) W3.ah) Q (wE Wx σ) := g4
    refine ⟨valV vs κ, .inl ⟨vs, κ, rp, rfl, rfl⟩, ?_⟩
    rcases find_rel hκ rk with ⟨f1, f2⟩ | ⟨d2, v2, f1, f2, rv⟩
    · rw [f1] at g4; rw [f2]; exact OkP.here hR3 g4 rz
    · rw [f1] at g4; rw [f2]; exact OkP.here hR3 g4 rv
/-- the heap's dict n gets other entries -/
theorem put_dct {W : Wd} {H : Hp} {n : Nat} {p : Addr} {kvs ds : List (D × D)} {vs us : List (Key × V)} (hR : RelH Γ.toCls0 W H) (hm : W.mu[n]? = some p) (h0 : W.ah[n]? = some (.dct kvs)) (hz : H p = some (.dK vs)) (rk : RelKs Γ.toCls0 W H ds us) :
    Ext W H (W.put n (.dct ds)) (upd H p (.dK us)) ∧ RelH Γ.toCls0 (W.put n (.dct ds)) (upd H p (.dK us)) := by
  have x : Ext W H (W.put n (.dct ds)) (upd H p (.dK us)) := .put hR hm h0 rfl hz (fun _ z => nomatch z) fun _ _ z => nomatch z
  exact ⟨x, hR.put hm h0 rfl hz (fun _ z => nomatch z) (fun _ _ z => nomatch z) ⟨us, upd_same, rk.ext x⟩⟩
/-- d[k] = v -/
theorem z_dput (hx : Here Γ.toCls0 X) {p' : Pos} (ha : PE X a (tE Γ F Wx ia)) (hb : PE X b (tE Γ F Wx ib)) (hc : PE X c (tE Γ F Wx ic)) (hs : swapsWith c (some (.Subscript a b p')) pos.line X.env = pure false) :
    PS X (.Assign [.Subscript a b p'] c pos) (tS Γ F Wx (.asg (.dix ia ib) ic)) := by
  have hu := hx.units
  refine psImp (ps_dput (by omega) ha hb hc hs) fun D σ H ⟨W, ρ, st, hR, g⟩ => ?_
  unfold evS at g
  refine bindS st hR g fun z W1 H1 w x1 hR1 st1 rz g1 => ?_
  unfold asT at g1
  refine bindS st1 hR1 g1 fun d W2 H2 v x2 hR2 st2 rd g2 => bindS st2 hR2 g2 fun e W3 H3 u x3 hR3 st3 re g3 => ?_
  cases q : setDx d e z W3.ah with
  | none => rw [q] at g3; exact g3.elim
  | some h' =>
    rw [q] at g3
    unfold setDx at q
    split at q
    · split at q
      · rename_i n _ kvs h0
        split at q
        · rename_i k
          cases q
          obtain ⟨k1, k2⟩ := and2 k
          obtain ⟨κ, hκ⟩ := keyK_ok k1
          have := key_rel re hκ
          subst this
          cases rd.ext x3 with
          | loc hm =>
            rename_i p
            obtain ⟨vs, z0, rk⟩ := hR3.obj _ _ _ hm h0
            have rz3 := (rz.ext x2).ext x3
            obtain ⟨y1, y2⟩ := put_dct hR3 hm h0 z0 (put_rel hκ rz3 rk)
            refine ⟨p, _, rfl, DPut.k z0 (by rw [← szl_eq, ← ks_len rk]; exact of_decide_eq_true k2), ?_⟩
            exact g3 _ _ σ rfl y1 y2 (st3.ext y1)
        · cases q
      · cases q
    · cases q
end
end PI
set_option maxRecDepth 100000
set_option maxHeartbeats 2000000
namespace PI
open PySem L2
section
variable {Γ : Cls0} {W : Wd} {H H' : Hp}
theorem Ext.grows (hR : RelH Γ W H) (k : ∀ b o, H b = some o → H' b = some o) : Ext W H W H' where
  hid := rfl
  mu := fun _ _ h => h
  stay := fun b o h n => ⟨k b o h, n⟩
  tups := fun b xs h => k b _ h
  frzs := fun b o u h => k b _ h
  hidS := fun b h => by
    cases q : H b with
    | none => exact absurd q (hR.hdom b h)
    | some o => exact k b o q
theorem RelH.grows (hR : RelH Γ W H) (k : ∀ b o, H b = some o → H' b = some o) : RelH Γ W H' where
  len := hR.len
  nd := hR.nd
  obj := fun n a o h1 h2 => (hR.obj n a o h1 h2).ext (.grows hR k) fun u q => k a u q
  dom := fun a h => by
    cases q : H a with
    | none => exact absurd q (hR.dom a h)
    | some o => rw [k a o q]; exact fun z => nomatch z
  hdom := fun a h => by
    cases q : H a with
    | none => exact absurd q (hR.hdom a h)
    | some o => rw [k a o q]; exact fun z => nomatch z
  sep := hR.sep
end
section
variable {Γ : Cls1} {F : Fn} {Wx : WX} {X : Cx} {a b c : Expr} {ia ib ic : E} {pos : Pos}
theorem tups_rel {Γ : Cls0} {W : Wd} {H : Hp} : ∀ {ds : List (D × D)} {vs : List (Key × V)} {ts : List Addr}, RelKs Γ W H ds vs → Paired (fun (t : Addr) (q : Key × V) => H t = some (.tup [kV q.1, q.2])) ts vs → RelDs Γ W H (ds.map fun p => .tup [p.1, p.2]) (ts.map V.ref)
  | _, _, _, .nil, .nil => .nil
  | _, _, _, .cons (k := k) hk r t, .cons h p => by
    refine .cons (.tup (.inl (.inl h)) (.cons ?_ (.cons r .nil))) (tups_rel t p)
    cases k with
    | int i => cases hk; exact .int i
    | str s => cases hk; exact .str s
    | _ => cases hk
/-- list(d.items()) -/
theorem s_ditems (hx : Here Γ.toCls0 X) {p apos cpos : Pos} (hg : Gl X "list") (hm : X.mg "list" = none) (ha : PE X a (tE Γ F Wx ia)) (h1 : plainO a = true) (hl : (apos.endLine == cpos.line) = true) :
    PE X (.Call (.Name "list" p) [.Call (.Attribute a "items" apos) [] [] cpos] [] pos) (tE Γ F Wx (.ditems false ia)) := by
  refine peImp (LiI.pe_listItems hx.calm ha hg hm (by decide +kernel) (plainO_base h1) hl rfl) fun σ H Q ⟨W, ρ, st, hR, g⟩ => ?_
  unfold evE at g
  refine bindE st hR g fun d W1 H1 v x1 hR1 st1 rd g1 => ?_
  cases d with
  | loc n =>
    have g1 : GoD Γ W1 H1 (match W1.ah[n]? with
      | some (.dct kvs) => mk false (kvs.map fun p => .tup [p.1, p.2]) W1.ah
      | _ => .fail) Q (wE Wx σ) := g1
    have key : ∃ kvs, W1.ah[n]? = some (.dct kvs) ∧ GoD Γ W1 H1 (.ok (.lst (kvs.map fun p => .tup [p.1, p.2])) W1.ah) Q (wE Wx σ) := by
      cases h0 : W1.ah[n]? with
      | none => rw [h0] at g1; exact g1.elim
      | some o =>
        rw [h0] at g1
        cases o with
        | dct kvs => exact ⟨kvs, rfl, g1⟩
        | _ => exact g1.elim
    obtain ⟨kvs, h0, g2⟩ := key
    cases rd with
    | loc hmu =>
      rename_i q
      obtain ⟨vs, z, rk⟩ := hR1.obj _ _ _ hmu h0
      refine ⟨q, vs, rfl, z, fun H' p' ts k hp ht hpt hl' pr => ?_⟩
      have x := Ext.grows hR1 k
      exact g2 W1 H' _ rfl x (hR1.grows k) (.lst ⟨hl', not_live hR1 hp⟩ (tups_rel (rk.ext x) pr))
  | _ => exact g1.elim
/-- d.clear() -/
theorem s_dclear (hx : Here Γ.toCls0 X) {apos : Pos} (ha : PE X a (tE Γ F Wx ia)) (h1 : plainO a = true) (hl : (apos.endLine == pos.line) = true) : PE X (.Call (.Attribute a "clear" apos) [] [] pos) (tE Γ F Wx (.dclear ia)) := by
  refine peImp (pe_dclear ha (plainO_base h1) hl) fun σ H Q ⟨W, ρ, st, hR, g⟩ => ?_
  unfold evE at g
  refine bindE st hR g fun d W1 H1 v x1 hR1 st1 rd g1 => ?_
  cases d with
  | loc n =>
    have key : ∃ kvs, W1.ah[n]? = some (.dct kvs) ∧ GoD Γ W1 H1 (.ok .non (W1.ah.set n (.dct []))) Q (wE Wx σ) := by
      have g1 : GoD Γ W1 H1 (match W1.ah[n]? with
        | some (.dct _) => .ok .non (W1.ah.set n (.dct []))
        | _ => .fail) Q (wE Wx σ) := g1
      cases h0 : W1.ah[n]? with
      | none => rw [h0] at g1; exact g1.elim
      | some o =>
        rw [h0] at g1
        cases o with
        | dct kvs => exact ⟨kvs, rfl, g1⟩
        | _ => exact g1.elim
    obtain ⟨kvs, h0, g2⟩ := key
    cases rd with
    | loc hmu =>
      rename_i q
      obtain ⟨vs, z, rk⟩ := hR1.obj _ _ _ hmu h0
      refine ⟨.inr (.inr (.inl ⟨rfl, .inl ⟨vs, z⟩⟩)), q, vs, rfl, rfl, z, ?_⟩
      obtain ⟨y1, y2⟩ := put_dct hR1 hmu h0 z (.nil : RelKs Γ.toCls0 W1 H1 [] [])
      exact g2 _ _ .non rfl y1 y2 .non
  | _ => exact g1.elim
/-! ### x += e -/
theorem z_aug (hN : X.N.Nodup) {i : Nat} {x : Str} {p : Pos} (hi : X.N[i]? = some x) (hl : Loc X.env.scope x) (hf : X.fn x = true ∨ X.env.scope.names.lookup x = some .local) (ha : PE X a (tE Γ F Wx ia)) : PS X (.AugAssign (.Name x p) .Add a pos) (tS Γ F Wx (.aug i .add ia)) := by
  refine psImp (ps_aug hN hi hl ha ip_add hf) fun D σ H ⟨W, ρ, st, hR, g⟩ => ?_
  unfold evS at g
  cases q : ρ[i]? with
  | none => rw [q] at g; exact g.elim
  | some o =>
    cases o with
    | none => rw [q] at g; exact g.elim
    | some d =>
      cases d with
      | int k =>
        rw [q] at g
        obtain ⟨v, e1, rd⟩ := st.at_ i _ q
        refine ⟨v, e1, ?_⟩
        refine bindS st hR g fun e W1 H1 u x1 hR1 st1 re g1 => ?_
        cases e with
        | int j => exact ⟨k, j, rd.isInt, re.isInt, g1 W1 H1 _ rfl (.refl _ _) hR1 (st1.set i (.int _))⟩
        | _ => exact g1.elim
      | _ => rw [q] at g; exact g.elim
end
end PI
set_option maxRecDepth 100000
set_option maxHeartbeats 2000000
namespace PI
open PySem L2
section
variable {Γ : Cls1} {F : Fn} {Wx : WX} {X : Cx} {a b c : Expr} {ia ib ic : E} {pos : Pos}
/-! ### f'..' -/
def tFm (Γ : Cls1) (F : Fn) (Wx : WX) (i : E) : TE := fun σ H Q => ∃ W ρ, RelSt Γ.toCls0 W H ρ σ ∧ RelH Γ.toCls0 W H ∧ GoD Γ W H ((evE F i ρ W.ah).bind fun x h => Res.of ((fmtD x).map D.str) h) Q (wE Wx σ)
theorem fm_val (he : PE X a (tE Γ F Wx ia)) : PE X (.FormattedValue a (-1) none pos) (tFm Γ F Wx ia) := by
  refine peImp (pe_fmt he) fun σ H Q ⟨W, ρ, st, hR, g⟩ => ?_
  refine bindE st hR g fun d W1 H1 v x1 hR1 st1 rd g1 => ?_
  cases q : fmtD d with
  | none => rw [q] at g1; exact g1.elim
  | some y =>
    rw [q] at g1
    unfold fmtD at q
    split at q
    · split at q
      · rename_i c
        cases q
        exact .inl ⟨y, rd.isStr, by rw [← szl_eq]; exact of_decide_eq_true c, OkP.here hR1 g1 (.str _)⟩
      · cases q
    · split at q
      · rename_i i c
        cases q
        exact .inr ⟨i, rd.isInt, of_decide_eq_true c, OkP.here hR1 g1 (.str _)⟩
      · cases q
    · cases q
theorem fm_cst {s : Str} {k : Nat} : PE X (.Constant (.str s) k pos) (tFm Γ F Wx (.cst (.str s))) := by
  refine peImp pe_str fun σ H Q ⟨W, ρ, st, hR, g⟩ => ?_
  have g : GoD Γ W H (Res.of ((fmtD (.str s)).map D.str) W.ah) Q (wE Wx σ) := g
  have e : fmtD (.str s) = if decide (s.length ≤ szl) = true then some s else none := rfl
  rw [e] at g
  split at g
  · exact OkP.here hR g (.str _)
  · exact g.elim
/-- texts and formatted values -/
inductive FJ (Γ : Cls1) (F : Fn) (Wx : WX) (X : Cx) : List Expr → List E → Prop where
  | nil : FJ Γ F Wx X [] []
  | cons {e : Expr} {i : E} {es : List Expr} {is : List E} : PE X e (tFm Γ F Wx i) → FJ Γ F Wx X es is → FJ Γ F Wx X (e :: es) (i :: is)
theorem FJ.pj : ∀ {es : List Expr} {is : List E}, FJ Γ F Wx X es is → PJ X es (is.map (tFm Γ F Wx))
  | _, _, .nil => .nil
  | _, _, .cons h t => .cons h t.pj
theorem fstr_go {Q : Str → Hp → Prop} : ∀ (is : List E) (acc : Str) (W : Wd) (H : Hp) (ρ : Rho) (σ : St) (xs : List D) (h' : AH) (out : Str), RelSt Γ.toCls0 W H ρ σ → RelH Γ.toCls0 W H → evEs F is ρ W.ah = .ok xs h' → fmtL acc xs = some out →
    (∀ W' H', W'.ah = h' → Ext W H W' H' → RelH Γ.toCls0 W' H' → Q out H') → tJs (is.map (tFm Γ F Wx)) acc σ H Q
  | [], acc, W, H, ρ, σ, xs, h', out, st, hR, e, f, q => by
    unfold evEs at e
    cases e
    cases f
    exact q W H rfl (.refl _ _) hR
  | i :: is, acc, W, H, ρ, σ, xs, h', out, st, hR, e, f, q => by
    unfold evEs at e
    cases e1 : evE F i ρ W.ah with
    | ok x h1 =>
      rw [e1] at e
      have e : ((evEs F is ρ h1).bind fun xs h2 => .ok (x :: xs) h2) = .ok xs h' := e
      cases e2 : evEs F is ρ h1 with
      | ok ys h2 =>
        rw [e2] at e
        cases e
        obtain ⟨y, f1, f2⟩ := opt_bind (show (fmtD x).bind _ = some out from f)
        have f2 : (if decide ((acc ++ y).length ≤ szl) = true then fmtL (acc ++ y) ys else none) = some out := f2
        split at f2
        · rename_i c
          refine ⟨W, ρ, st, hR, ?_⟩
          rw [e1]
          have : GoD Γ W H (Res.of ((fmtD x).map D.str) h1) (fun x H1 => ∃ y, x = .str y ∧ (acc ++ y).length ≤ sizeLine ∧ tJs (is.map (tFm Γ F Wx)) (acc ++ y) σ H1 Q) (wE Wx σ) := by
            rw [f1]
            intro W' H' v ea x' hR' r
            subst ea
            exact ⟨y, r.isStr, by rw [← szl_eq]; exact of_decide_eq_true c, fstr_go is (acc ++ y) W' H' ρ σ ys h' out (st.ext x') hR' e2 f2 fun W2 H2 eb x2 hR2 => q W2 H2 eb (x'.trans x2) hR2⟩
          exact this
        · cases f2
      | exc _ _ _ => rw [e2] at e; cases e
      | fail => rw [e2] at e; cases e
    | exc _ _ _ => rw [e1] at e; cases e
    | fail => rw [e1] at e; cases e
theorem s_fstr {es : List Expr} {is : List E} (h : FJ Γ F Wx X (a :: b :: es) is) : PE X (.JoinedStr (a :: b :: es) pos) (tE Γ F Wx (.fstr is)) := by
  refine peImp (pe_joined h.pj) fun σ H Q ⟨W, ρ, st, hR, g⟩ => ?_
  unfold evE at g
  cases e : evEs F is ρ W.ah with
  | ok xs h' =>
    rw [e] at g
    have g : GoD Γ W H (Res.of ((fmtL ⟨#[]⟩ xs).map D.str) h') Q (wE Wx σ) := g
    cases f : fmtL ⟨#[]⟩ xs with
    | none => rw [f] at g; exact g.elim
    | some out =>
      rw [f] at g
      exact fstr_go is _ W H ρ σ xs h' out st hR e f fun W' H' ea x hR' => g W' H' _ ea x hR' (.str _)
  | exc c p h' => rw [e] at g; exact g.elim
  | fail => rw [e] at g; exact g.elim
/-! ### three names side by side -/
theorem z_par3 {i j l : Nat} {x y z : Str} {px py pz pt : Pos} {kt k2 : Nat} {pt2 : Pos} (hc : X.calm = true) (hN : X.N.Nodup) (hi : X.N[i]? = some x) (hj : X.N[j]? = some y) (hl : X.N[l]? = some z) (hij : i ≠ j) (hil : i ≠ l) (hjl : j ≠ l)
    (hx : X.env.scope.names.lookup x = some .local) (hy : X.env.scope.names.lookup y = some .local) (hz : X.env.scope.names.lookup z = some .local) (hes : PA X [a, b, c] (tEs Γ F Wx [ia, ib, ic]))
    (hw : swappedStores [.Tuple [.Name x px, .Name y py, .Name z pz] kt pt] (.Tuple [a, b, c] k2 pt2) X.env = pure (some [x, y, z])) (hs : swapsWithSole [.Tuple [.Name x px, .Name y py, .Name z pz] kt pt] (.Tuple [a, b, c] k2 pt2) pos.line X.env = pure false) :
    PS X (.Assign [.Tuple [.Name x px, .Name y py, .Name z pz] kt pt] (.Tuple [a, b, c] k2 pt2) pos) (tS Γ F Wx (.par [i, j, l] [ia, ib, ic])) := by
  refine psImp (ps_par3 hc hN hi hj hl hij hil hjl hx hy hz hes hw hs) fun D σ H ⟨W, ρ, st, hR, g⟩ => ?_
  unfold evS at g
  refine bindSs st hR g fun d W1 H1 v x1 hR1 st1 rd g1 => ?_
  match d, rd, g1 with
  | [], _, g1 => exact g1.elim
  | [_], _, g1 => exact g1.elim
  | [_, _], _, g1 => exact g1.elim
  | [d1, d2, d3], .cons r1 (.cons r2 (.cons r3 .nil)), g1 => exact ⟨_, _, _, rfl, g1 W1 H1 _ rfl (.refl _ _) hR1 (((st1.set i r1).set j r2).set l r3)⟩
  | _ :: _ :: _ :: _ :: _, _, g1 => exact g1.elim
end
end PI
set_option maxRecDepth 100000
set_option maxHeartbeats 2000000
/-! t[::-1] of a tuple. -/
namespace PI
open PySem L2
section
open PySem.Spec PyProof.Rows HT
variable {prog : Program} {w : World} {A : Around} {E : Value → Shared → Prop} {s : Shared}
theorem back_adjust (n : Nat) : Builtin.Slice.sliceAdjust none none (-1) (n : Int) = ((n : Int) - 1, -1) := rfl
theorem back_places (n : Nat) : Builtin.Slice.slicePlaces ((n : Int) - 1) (-1) (-1) = n := by
  unfold Builtin.Slice.slicePlaces
  have h1 : ¬ ((-1 : Int) > 0) := by decide
  rw [if_neg h1]
  split
  · rw [show (-(-1) : Int) = 1 by decide, Int.ediv_one]; omega
  · omega
theorem fm_same {α β : Type} {f g : α → Option β} : ∀ {l : List α}, (∀ x ∈ l, f x = g x) → l.filterMap f = l.filterMap g
  | [], _ => rfl
  | a :: t, h => by
    rw [List.filterMap_cons, List.filterMap_cons, h a (List.mem_cons_self), fm_same fun x hx => h x (List.mem_cons_of_mem _ hx)]
theorem back_pick (xs : Array Value) : ((List.range xs.size).filterMap fun (k : Nat) => xs[((xs.size : Int) - 1 + (k : Int) * (-1)).toNat]?).toArray = xs.toList.reverse.toArray := by
  have e : ((List.range xs.size).filterMap fun (k : Nat) => xs[((xs.size : Int) - 1 + (k : Int) * (-1)).toNat]?) = ((List.range xs.size).map (fun k => xs.size - 1 - k)).filterMap (xs[·]?) := by
    rw [List.filterMap_map]
    refine fm_same fun k hk => ?_
    have hk := List.mem_range.mp hk
    have : ((xs.size : Int) - 1 + (k : Int) * (-1)).toNat = xs.size - 1 - k := by omega
    rw [this]
    rfl
  rw [e, PySem.W.krv_range, List.filterMap_reverse, PySem.W.krv_all]
theorem back_parts {sl : Addr} {vs : Value} {n : Nat} {Q : Int × Int × Nat → Shared → Prop} (hs : s.heap.IsSliceOf sl .none .none vs) (ps : IsPart vs (some (-1)))
    (h : Q ((n : Int) - 1, -1, n) s) : wpAny (model prog w) A (Builtin.Slice.sliceApplied (.ref sl) (pure (n : Int))) Q E s := by
  obtain ⟨os, hos, hcs, hds⟩ := id hs
  unfold Builtin.Slice.sliceApplied Builtin.Slice.sliceFields
  have f2 := @wpAny_field
  refine wpAny_bind (wpAny_bind (wpAny_field hos hds (x := .none) rfl (wpAny_bind (wpAny_field hos hds (x := .none) rfl (wpAny_bind (wpAny_field hos hds (x := vs) rfl (wpAny_pure ?_)))))))
  refine wpAny_bind (slicePart_ ps ?_)
  show wpAny _ _ (if ((-1 : Int) == 0) = true then _ else _) _ _ s
  rw [if_neg (by decide)]
  refine wpAny_bind (slicePart_none (wpAny_bind (slicePart_none (wpAny_bind (wpAny_pure ?_)))))
  show wpAny _ _ (match Builtin.Slice.sliceAdjust none none (-1) (n : Int) with | (lo, hi) => pure (lo, (-1 : Int), Builtin.Slice.slicePlaces lo hi (-1))) _ _ s
  rw [back_adjust]
  show wpAny _ _ (pure ((n : Int) - 1, (-1 : Int), Builtin.Slice.slicePlaces ((n : Int) - 1) (-1) (-1))) _ _ s
  rw [back_places]
  exact wpAny_pure h
theorem back_get {t sl : Addr} {items : Array Value} {vs : Value} {Q : Value → Shared → Prop} (ht : IsTup s.heap t items) (hs : s.heap.IsSliceOf sl .none .none vs) (ps : IsPart vs (some (-1)))
    (h : Q (.ref s.heap.objs.size) { s with heap := s.heap.push { cls := .type "tuple", data := .seq items.toList.reverse.toArray } }) (hsz : items.size ≤ sizeLine) : wpAny (model prog w) A (getItem (.ref t) (.ref sl)) Q E s := by
  have fit : sizeOk (.seq items.toList.reverse.toArray) := by
    show items.toList.reverse.toArray.size ≤ sizeLine
    rw [List.size_toArray, List.length_reverse, Array.length_toList]
    exact hsz
  obtain ⟨os, hos, hcs, hds⟩ := id hs
  have isS : s.TypeIs (.ref sl) "slice" := ⟨os, hos, hcs⟩
  unfold getItem
  try with_reducible refine wpAny_holding ?_
  first | refine wpAny_bind (wpAny_pure ?_) | skip
  refine wpAny_bind (wpAny_sequenceKey ht.typeIs (by decide) ?_)
  have sg := @PyProof.Rows.slot_tuple_getitem
  refine wpAny_bind (wpAny_callSpecial?_slot (name := Str.ofString "__getitem__") ht.typeIs sg (wpAny_call_entry sg ht.typeIs entry_tuple_getitem ?_ (args_tuple_getitem _ _)))
  show wpAny _ _ (Builtin.Tuple.tupleItemsOf (.ref t) >>= _) _ _ s
  refine wpAny_bind (tupleItemsOf_ ht ?_)
  refine wpAny_bind (wpAny_typeOf isS ?_)
  rw [if_pos (by decide)]
  refine wpAny_bind (back_parts hs ps ?_)
  have no : ¬ ((((items.size : Int) - 1) == 0 && (-1 : Int) == 1 && items.size == items.size) = true) := by simp
  show wpAny _ _ (if ((((items.size : Int) - 1) == 0 && (-1 : Int) == 1 && items.size == items.size) = true) then _ else _) _ _ s
  rw [if_neg no, back_pick]
  first
    | exact wpAny_bind (m := Builtin.Tuple.tupleExact _) (wpAny_newObj_type (wpAny_pure ⟨_, rfl, wpAny_pure h⟩) fit)
    | exact wpAny_bind (m := Builtin.Tuple.tupleExact _) (wpAny_newObj_type (wpAny_bind (wpAny_pure (wpAny_pure ⟨_, rfl, wpAny_pure h⟩))) fit)
    | exact wpAny_bind (wpAny_bind (m := Builtin.Tuple.tupleExact _) (wpAny_newObj_type (wpAny_pure (wpAny_pure ⟨_, rfl, wpAny_pure h⟩)) fit))
    | exact wpAny_bind (wpAny_bind (m := Builtin.Tuple.tupleExact _) (wpAny_newObj_type (wpAny_pure ⟨_, rfl, wpAny_pure h⟩) fit))
end
section
open PySem.Spec PyProof.Rows
variable {X : Cx}
/-- t[::-1] -/
def tBack (K : PySem.W.Frag) (te : TE) : TE := fun σ H Q => te σ H fun x H1 => ∃ a xs, x = .ref a ∧ SqT K H1 a xs ∧ ∀ p, H1 p = none → Q (.ref p) (upd H1 p (.tup xs.reverse))
theorem pe_back {e : Expr} {te : TE} {k : Nat} {p1 p2 p3 pos : Pos} (he : PE X e te) : PE X (.Subscript e (.Slice none none (some (.UnaryOp .USub (.Constant (.int 1) k p1) p2)) p3) pos) (tBack X.K te) := by
  refine ⟨fun pins s σ H Q I h => Subscript_ (thn (he.run pins s σ H _ I h) fun v s1 ⟨x, H1, I1, r1, q1⟩ => ?_)⟩
  obtain ⟨a, xs, ex, hx, q⟩ := q1
  subst ex
  cases r1
  have hst : PO X (some (.UnaryOp .USub (.Constant (.int 1) k p1) p2)) (tPart (tUn (rU fun i => .int (-i)) (tC (.int 1)))) := po_some (pe_un un_neg pe_int)
  have hno := fun (s : Shared) (H : Hp) (I : Inv X pins σ H s) => (po_none (X := X)).run pins s σ H (fun o H2 => o = none ∧ H2 = H) I ⟨rfl, rfl⟩
  refine wpAny_Slice (thn (hno s1 H1 I1) fun vl s2 ⟨l, H2, I2, pl, el, e2⟩ => ?_)
  subst el e2
  refine thn (hno s2 H2 I2) fun vu s3 ⟨u, H3, I3, pu, eu, e3⟩ => ?_
  subst eu e3
  refine thn (hst.run pins s3 σ H3 (fun o H4 => o = some (-1) ∧ H4 = H3) I3 ⟨1, rfl, -1, rfl, rfl, rfl⟩) fun vs s4 ⟨o, H4, I4, ps, eo, e4⟩ => ?_
  subst eo e4
  cases pl
  cases pu
  generalize hS5 : ({ s4 with heap := s4.heap.push { cls := .type "slice", data := .fields #[.none, .none, vs] } } : Shared) = s5
  have I5 : Inv X pins σ H4 s5 := by subst hS5; exact I4.kept (t' := s4.toks) fun b ob q => Heap.get?_push_of_some _ q
  have sl : s5.heap.IsSliceOf s4.heap.objs.size .none .none vs := by subst hS5; exact Heap.IsSliceOf.new _ _ _ _
  obtain ⟨its, r, ht, hz⟩ := I5.tuple hx
  have hlen := r.length
  have goal : wpAny (model X.prog X.w) X.A (getItem (.ref a) (.ref s4.heap.objs.size)) (EP X pins σ Q) X.xe s5 := by
    refine back_get ht sl ps ?_ (by rw [List.size_toArray]; omega)
    refine ⟨.ref s5.heap.objs.size, _, I5.laid (t' := s5.toks) (o := .tup xs.reverse) (fun b ob q => Heap.get?_push_of_some _ q) (Nat.le_refl _) ?_, rfl, q _ (I5.hok.fresh (Nat.le_refl _))⟩
    exact ⟨by rw [List.length_reverse]; exact hz, _, r.reverse, IsTup.new _ _⟩
  show wpAny (model X.prog X.w) X.A (subscriptTail e (.Slice none none (some (.UnaryOp .USub (.Constant (.int 1) k p1) p2)) p3) (.ref a) (.ref s4.heap.objs.size)) (EP X pins σ Q) X.xe _
  exact tail_any (ops := [.ref a, .ref s4.heap.objs.size]) ht.typeIs PyProof.Rows.slot_tuple_getitem.lookup goal (by with_unfolding_all rfl)
end
section
variable {Γ : Cls1} {F : Fn} {Wx : WX} {X : Cx} {a b c : Expr} {ia ib ic : E} {pos : Pos}
theorem RelDs.reverse {Γ : Cls0} {W : Wd} {H : Hp} : ∀ {ds : List D} {vs : List V}, RelDs Γ W H ds vs → RelDs Γ W H ds.reverse vs.reverse
  | _, _, .nil => .nil
  | _, _, .cons r t => by rw [List.reverse_cons, List.reverse_cons]; exact (RelDs.reverse t).append (.cons r .nil)
theorem s_rev (hx : Here Γ.toCls0 X) {k : Nat} {p1 p2 p3 : Pos} (ha : PE X a (tE Γ F Wx ia)) : PE X (.Subscript a (.Slice none none (some (.UnaryOp .USub (.Constant (.int 1) k p1) p2)) p3) pos) (tE Γ F Wx (.rev ia)) := by
  refine peImp (pe_back ha) fun σ H Q ⟨W, ρ, st, hR, g⟩ => ?_
  unfold evE at g
  refine bindE st hR g fun d W1 H1 v x1 hR1 st1 rd g1 => ?_
  cases d with
  | tup xs =>
    cases rd with
    | tup h r => exact ⟨_, _, rfl, by rw [hx.K]; exact h, fun p hp => OkP.tup hR1 hp r.reverse g1⟩
  | _ => exact g1.elim
end
end PI
set_option maxRecDepth 100000
set_option maxHeartbeats 2000000
/-! Rows made by a walk, of any target; dicts made by a walk. -/
namespace PI
open PySem L2
variable {Γ : Cls1} {F : Fn} {Wx : WX}
/-- what an iterator that meets xs leans on -/
structure IterG (Γ : Cls0) (J : It) (xs : List D) (st : AH → Bool) (R : Wd → Hp → Prop) : Prop where
  keep : ∀ (W W' : Wd) (H H' : Hp), Ext0 W H W' H' → R W H → R W' H'
  go : ∀ (W : Wd) (H : Hp) (i : Nat) (d : D), RelH Γ W H → R W H → st W.ah = true → xs[i]? = some d → J.go i H ∧ ∀ x H', J.yld i H x H' → Ext W H W H' ∧ RelH Γ W H' ∧ RelD Γ W H' d x
  stop : ∀ (W : Wd) (H : Hp), RelH Γ W H → R W H → st W.ah = true → J.stop xs.length H
theorem IterOK.g {J : It} {xs : List D} {st : AH → Bool} {s : D} {v : V} (h : IterOK Γ.toCls0 J xs st s v) : IterG Γ.toCls0 J xs st (fun W H => RelD Γ.toCls0 W H s v) :=
  ⟨fun _ _ _ _ x r => r.ext0 x, fun W H i d a b c e => h.go W H i d a b c e, fun W H a b c => h.stop W H a b c⟩
/-- the pairs of a locked dict -/
theorem iter_items {a : Addr} {o : Obj} {vs : List (Key × V)} {ds : List (D × D)} : IterG Γ.toCls0 (Iti a o vs) (ds.map fun p => .tup [p.1, p.2]) (fun _ => true) (fun W H => H a = some (.frz o (.dK vs)) ∧ RelKs Γ.toCls0 W H ds vs) where
  keep := fun W W' H H' x h => ⟨x.frzs _ _ _ h.1, h.2.ext0 x⟩
  go := fun W H i d hR h _ e => by
    obtain ⟨h1, h2⟩ := h
    rw [List.getElem?_map] at e
    obtain ⟨p, e1, rfl⟩ := opt_map e
    have key : ∀ {ds : List (D × D)} {vs : List (Key × V)} {i : Nat} {p : D × D}, RelKs Γ.toCls0 W H ds vs → ds[i]? = some p → ∃ κ v, vs[i]? = some (κ, v) ∧ keyOf p.1 = some κ ∧ RelD Γ.toCls0 W H p.2 v := by
      intro ds
      induction ds with
      | nil => intro vs i p _ e; simp at e
      | cons q t ih =>
        intro vs i p r e
        cases r with
        | cons hk rd rt =>
          cases i with
          | zero => simp at e; subst e; exact ⟨_, _, rfl, hk, rd⟩
          | succ i =>
            obtain ⟨κ, v, a1, a2, a3⟩ := ih rt (by simpa using e)
            exact ⟨κ, v, by simpa using a1, a2, a3⟩
    obtain ⟨κ, v, e2, hk, rd⟩ := key h2 e1
    refine ⟨⟨h1, (List.getElem?_eq_some_iff.mp e2).1⟩, ?_⟩
    rintro x H' ⟨T, k, v', e3, rfl, hT, rfl⟩
    rw [e2] at e3
    cases e3
    have x := Ext.fresh (o := .tup [kV κ, v]) hR hT
    refine ⟨x, hR.fresh hT, .tup (.inl (.inl upd_same)) (.cons ?_ (.cons (rd.ext x) .nil))⟩
    cases hd : p.1 with
    | int i => rw [hd] at hk; cases hk; exact .int i
    | str s => rw [hd] at hk; cases hk; exact .str s
    | _ => rw [hd] at hk; cases hk
  stop := fun W H hR h _ => ⟨h.1, by rw [List.length_map, ks_len h.2]; exact Nat.le_refl _⟩
/-- one item -/
def oneG (F : Fn) (B : D → Option Rho) (cond : Option E) (elt : E) (x : D) (h : AH) : Res (Option D) := match B x with
  | some ρ => (evC F cond ρ h).bind fun b h4 => (match b with
    | true => (evE F elt ρ h4).bind fun y h5 => .ok (some y) h5
    | false => .ok none h4)
  | none => .fail
/-- a target takes an item as the machine does -/
def TgOK (Γ : Cls0) (g : TG) (vs : List Nat) (ρ : Rho) (σ : St) (B : D → Option Rho) : Prop := ∀ (W : Wd) (H : Hp) (x : V) (d : D) (ρ' : Rho) (Q : St → Hp → Prop), RelSt Γ W H ρ σ → RelD Γ W H d x → B d = some ρ' →
  (∀ σ2, wipe σ2 vs = wipe σ vs → RelSt Γ W H ρ' σ2 → Q σ2 H) → g x (wipe σ vs) H Q
theorem tg_name {ρ : Rho} {σ : St} {i : Nat} : TgOK Γ.toCls0 (gName i) [i] ρ σ (fun d => some (ρ.set i (some d))) := by
  intro W H x d ρ' Q st rd e q
  cases e
  refine q _ (wipe_set _ _ _) ?_
  have := (st.unset i none).set i rd
  rw [List.set_set] at this
  exact this
def MadeG (Γ : Cls1) (F : Fn) (ρ : Rho) (σ : St) (B : D → Option Rho) (cond : Option E) (elt : E) (st : AH → Bool) (R : Wd → Hp → Prop) (xs : List D) (W0 : Wd) (H0 : Hp) (ys : List D) (hf : AH) (D : Addr) (n : Nat) (H : Hp) : Prop :=
  ∃ (W : Wd) (acc : List V) (ds r : List PI.D), n ≤ xs.length ∧ H D = some (.lst acc) ∧ RelDs Γ.toCls0 W H ds acc ∧ RelSt Γ.toCls0 W H ρ σ ∧ RelH Γ.toCls0 W H ∧ R W H ∧ W.hid = (W0.hide D).hid ∧ Ext0 W0 H0 W H ∧ (∀ b, W0.hid b → H b = H0 b) ∧
    goC (oneG F B cond elt) st (xs.drop n) W.ah = .ok r hf ∧ ys = ds ++ r
theorem bind_ok' {α β : Type} {r : Res α} {f : α → AH → Res β} {b : β} {h : AH} (e : r.bind f = .ok b h) : ∃ a h1, r = .ok a h1 ∧ f a h1 = .ok b h := by
  cases r with
  | ok a h1 => exact ⟨a, h1, rfl, e⟩
  | exc _ _ _ => cases e
  | fail => cases e
theorem comp_goG (m : Bool) {ρ : Rho} {σ : St} {H : Hp} {W : Wd} {B : D → Option Rho} {g : TG} {vs : List Nat} {cond : Option E} {elt : E} {J : It} {xs : List D} {st : AH → Bool} {R : Wd → Hp → Prop} {ys : List D} {hf : AH} {Q : VK} {E : XK}
    (hst : RelSt Γ.toCls0 W H ρ σ) (hR : RelH Γ.toCls0 W H) (rs : R W H) (iok : IterG Γ.toCls0 J xs st R) (tg : TgOK Γ.toCls0 g vs ρ σ B) (e : goC (oneG F B cond elt) st xs W.ah = .ok ys hf) (hl : ys.length ≤ szl) (q : GoD Γ W H (mk m ys hf) Q E) :
    ∀ D, H D = none → ∃ Wn : Nat → Nat → Hp → Prop, (∃ k, Wn 0 k (upd H D (.lst []))) ∧ ∀ n k H, Wn n k H →
      (J.stop n H ∧ Q (.ref D) H) ∨ (J.go n H ∧ ∃ Nx : Hp → Prop, (∀ H', Nx H' → ∃ k', k' < k ∧ Wn (n + 1) k' H') ∧ ∀ x H', J.yld n H x H' → g x (wipe σ vs) H' fun σ2 H2 => wipe σ2 vs = wipe σ vs ∧ tC1 Γ F noW cond σ2 H2 fun b H3 =>
        if b = true then tE Γ F noW elt σ2 H3 fun y H4 => ∃ acc, H4 D = some (.lst acc) ∧ acc.length < sizeLine ∧ Nx (upd H4 D (.lst (acc ++ [y]))) else Nx H3) := by
  intro D hD
  refine ⟨fun n k H' => k = xs.length - n ∧ MadeG Γ F ρ σ B cond elt st R xs W H ys hf D n H', ⟨xs.length, by simp, ?_⟩, ?_⟩
  · refine ⟨W.hide D, [], [], ys, Nat.zero_le _, upd_same, .nil, hst.ext0 (.hide hD), hR.hide hD, iok.keep _ _ _ _ (.hide hD) rs, rfl, .hide hD, fun b hb => upd_ne fun e => ?_, by rw [List.drop_zero]; exact e, rfl⟩
    subst e
    exact hR.hdom _ hb hD
  · rintro n k H1 ⟨rfl, W1, acc, ds, r, hn, hacc, rds, st1, hR1, rs1, hh1, x1, hs1, e1, ey⟩
    have hidD : W1.hid D := by rw [hh1]; exact .inl rfl
    by_cases hlt : n < xs.length
    · right
      rw [List.drop_eq_getElem_cons hlt] at e1
      unfold goC at e1
      obtain ⟨c0, e1⟩ := of_ifd e1
      obtain ⟨g1, g2⟩ := iok.go W1 H1 n xs[n] hR1 rs1 c0 (List.getElem?_eq_getElem hlt)
      refine ⟨g1, fun H' => MadeG Γ F ρ σ B cond elt st R xs W H ys hf D (n + 1) H', fun H' h' => ⟨_, by omega, rfl, h'⟩, fun x H2 hy => ?_⟩
      obtain ⟨x2, hR2, rx⟩ := g2 x H2 hy
      obtain ⟨o1, h1, eo, e1⟩ := bind_ok' e1
      unfold oneG at eo
      cases hB : B xs[n] with
      | none => rw [hB] at eo; cases eo
      | some ρ' =>
        rw [hB] at eo
        obtain ⟨b, h3, rc, eo⟩ := bind_ok' eo
        refine tg W1 H2 x xs[n] ρ' _ (st1.ext x2) rx hB fun σ2 hw2 st2 => ⟨hw2, W1, ρ', st2, hR2, ?_⟩
        rw [rc]
        intro W3 H3 e3 x3 hR3
        subst e3
        have x13 : Ext W1 H1 W3 H3 := x2.trans x3
        have hid3 : W3.hid = (W.hide D).hid := x13.hid.trans hh1
        have hs3 : ∀ b, W.hid b → H3 b = H b := fun b hb => (x13.hidS b (by rw [hh1]; exact .inr hb)).trans (hs1 b hb)
        have hD3 : H3 D = some (.lst acc) := (x13.hidS D hidD).trans hacc
        cases b with
        | false =>
          rw [if_neg Bool.false_ne_true]
          cases eo
          obtain ⟨r2, h6, z, e1⟩ := bind_ok' e1
          cases e1
          exact ⟨W3, acc, ds, _, hlt, hD3, rds.ext x13, st1.ext x13, hR3, iok.keep _ _ _ _ x13.to0 rs1, hid3, x1.trans x13.to0, hs3, z, ey⟩
        | true =>
          rw [if_pos rfl]
          refine ⟨W3, ρ', st2.ext x3, hR3, ?_⟩
          obtain ⟨y, h5, re, eo⟩ := bind_ok' eo
          cases eo
          rw [re]
          intro W4 H4 u e4 x4 hR4 ry
          subst e4
          have x14 : Ext W1 H1 W4 H4 := x13.trans x4
          have hD4 : H4 D = some (.lst acc) := (x14.hidS D hidD).trans hacc
          have hid4 : W4.hid = (W.hide D).hid := x14.hid.trans hh1
          have hidD4 : W4.hid D := by rw [hid4]; exact .inl rfl
          obtain ⟨r2, h6, z, e1⟩ := bind_ok' e1
          cases e1
          have gr : Ext0 W4 H4 W4 (upd H4 D (.lst (acc ++ [u]))) := .grow hidD4 hD4 (fun _ z => nomatch z) fun _ _ z => nomatch z
          have lacc : acc.length < sizeLine := by
            rw [← szl_eq]
            have := rds.length
            have h2 : ys.length = ds.length + ([y] ++ r2).length := by rw [ey, List.length_append]; rfl
            simp only [List.length_append, List.length_cons, List.length_nil] at h2
            omega
          refine ⟨acc, hD4, lacc, W4, acc ++ [u], ds ++ [y], r2, hlt, upd_same, ((rds.ext x14).append (.cons ry .nil)).ext0 gr, (st1.ext x14).ext0 gr, hR4.grow hidD4 hD4 (fun _ z => nomatch z) (fun _ _ z => nomatch z), iok.keep _ _ _ _ (x14.to0.trans gr) rs1, hid4, (x1.trans x14.to0).trans gr,
            fun b hb => ?_, z, by rw [ey, List.append_assoc]; rfl⟩
          have hb' : b ≠ D := fun e => hR.hdom _ hb (e ▸ hD)
          rw [upd_ne hb']
          exact (x14.hidS b (by rw [hh1]; exact .inr hb)).trans (hs1 b hb)
    · left
      have hn' : n = xs.length := by omega
      subst hn'
      rw [List.drop_length] at e1
      unfold goC at e1
      obtain ⟨c0, e1⟩ := of_ifd e1
      cases e1
      refine ⟨iok.stop W1 H1 hR1 rs1 c0, ?_⟩
      rw [List.append_nil] at ey
      subst ey
      have hsub : ∀ a, W.hid a → W1.hid a := fun a ha => by rw [hh1]; exact .inr ha
      have hnD : ¬ W.hid D := fun h => hR.hdom _ h hD
      have mkx : ∀ (W' : Wd), W'.hid = W.hid → Ext0 W1 H1 W' H1 → Ext W H W' H1 := fun W' h1 h2 =>
        ⟨h1, (x1.trans h2).mu, (x1.trans h2).stay, (x1.trans h2).tups, (x1.trans h2).frzs, hs1⟩
      unfold PI.mk at q
      split at q
      · have gx : Ext0 W1 H1 (W1.grant W.hid D (.lst ys)) H1 := .grant hR1 hsub hidD
        refine q (W1.grant W.hid D (.lst ys)) H1 _ rfl (mkx _ rfl gx) (hR1.grant hsub hidD hnD ⟨acc, hacc, rds.ext0 gx⟩) (.loc ?_)
        show (W1.mu ++ [D])[W1.ah.length]? = some D
        rw [← hR1.len]
        simp
      · have sx : Ext0 W1 H1 (W1.show W.hid) H1 := .show hsub
        refine q (W1.show W.hid) H1 _ rfl (mkx _ rfl sx) (hR1.show hsub) (.lst ⟨hacc, ?_⟩ (rds.ext0 sx))
        rintro (⟨n, o, h1, _⟩ | h)
        · exact hR1.sep D hidD (List.mem_of_getElem? h1)
        · exact hnD h
end PI
set_option maxRecDepth 100000
set_option maxHeartbeats 2000000
namespace PI
open PySem L2
variable {Γ : Cls1} {F : Fn} {Wx : WX}
def oneD (F : Fn) (B : D → Option Rho) (cond : Option E) (k v : E) (x : D) (h : AH) : Res (Option D) := match B x with
  | some ρ => (evC F cond ρ h).bind fun b h4 => (match b with
    | true => (evE F k ρ h4).bind fun y h5 => (evE F v ρ h5).bind fun z h6 => if keyK y then .ok (some (.tup [y, z])) h6 else .fail
    | false => .ok none h4)
  | none => .fail
def pairT (p : D × D) : D := .tup [p.1, p.2]
theorem pairsD_map : ∀ {ds : List (D × D)}, (∀ p ∈ ds, keyK p.1 = true) → pairsD (ds.map pairT) = some ds
  | [], _ => rfl
  | p :: t, h => by
    show (if keyK p.1 = true then (pairsD (t.map pairT)).map fun t => (p.1, p.2) :: t else none) = _
    rw [if_pos (h p (List.mem_cons_self)), pairsD_map fun q hq => h q (List.mem_cons_of_mem _ hq)]
    rfl
theorem dput_len (kvs : List (D × D)) (k v : D) : (dput kvs k v).length ≤ kvs.length + 1 := by
  unfold dput
  split
  · rw [List.length_map]; omega
  · simp
theorem mergeD_len : ∀ (es kvs : List (D × D)), (mergeD kvs es).length ≤ kvs.length + es.length
  | [], kvs => by simp [mergeD]
  | p :: t, kvs => by
    have h := mergeD_len t (dput kvs p.1 p.2)
    have h2 := dput_len kvs p.1 p.2
    show (mergeD (dput kvs p.1 p.2) t).length ≤ _
    simp only [List.length_cons]
    omega
theorem mergeD_snoc (ds : List (D × D)) (y z : D) : mergeD [] (ds ++ [(y, z)]) = dput (mergeD [] ds) y z := by
  unfold mergeD
  rw [List.foldl_append]
  rfl
def MadeD (Γ : Cls1) (F : Fn) (ρ : Rho) (σ : St) (B : D → Option Rho) (cond : Option E) (k v : E) (st : AH → Bool) (R : Wd → Hp → Prop) (xs : List D) (W0 : Wd) (H0 : Hp) (ys : List D) (hf : AH) (D : Addr) (n : Nat) (H : Hp) : Prop :=
  ∃ (W : Wd) (acc : List (Key × V)) (ds : List (PI.D × PI.D)) (r : List PI.D), n ≤ xs.length ∧ H D = some (.dK acc) ∧ RelKs Γ.toCls0 W H (mergeD [] ds) acc ∧ RelSt Γ.toCls0 W H ρ σ ∧ RelH Γ.toCls0 W H ∧ R W H ∧ W.hid = (W0.hide D).hid ∧ Ext0 W0 H0 W H ∧ (∀ b, W0.hid b → H b = H0 b) ∧
    goC (oneD F B cond k v) st (xs.drop n) W.ah = .ok r hf ∧ ys = ds.map pairT ++ r ∧ ∀ p ∈ ds, keyK p.1 = true
theorem dcomp_goG (m : Bool) {ρ : Rho} {σ : St} {H : Hp} {W : Wd} {B : D → Option Rho} {g : TG} {vs : List Nat} {cond : Option E} {ik iv : E} {J : It} {xs : List D} {st : AH → Bool} {R : Wd → Hp → Prop} {ys : List D} {kvs : List (D × D)} {hf : AH} {Q : VK} {E : XK}
    (hst : RelSt Γ.toCls0 W H ρ σ) (hR : RelH Γ.toCls0 W H) (rs : R W H) (iok : IterG Γ.toCls0 J xs st R) (tg : TgOK Γ.toCls0 g vs ρ σ B) (e : goC (oneD F B cond ik iv) st xs W.ah = .ok ys hf) (hl : ys.length ≤ szl) (hk : pairsD ys = some kvs) (q : GoD Γ W H (mkD m (mergeD [] kvs) hf) Q E) :
    ∀ D, H D = none → ∃ Wn : Nat → Nat → Hp → Prop, (∃ k, Wn 0 k (upd H D (.dK []))) ∧ ∀ n k H, Wn n k H →
      (J.stop n H ∧ (Q (.ref D) H ∨ ∃ p us, V.ref D = .ref p ∧ H p = some (.dK us) ∧ ∀ od, Q (.ref D) (upd H p (.frz od (.dK us))))) ∨ (J.go n H ∧ ∃ Nx : Hp → Prop, (∀ H', Nx H' → ∃ k', k' < k ∧ Wn (n + 1) k' H') ∧ ∀ x H', J.yld n H x H' → g x (wipe σ vs) H' fun σ2 H2 => wipe σ2 vs = wipe σ vs ∧ tC1 Γ F noW cond σ2 H2 fun b H3 =>
        if b = true then tE Γ F noW ik σ2 H3 fun y H4 => tE Γ F noW iv σ2 H4 fun z H5 => ∃ acc κ, y = kV κ ∧ H5 D = some (.dK acc) ∧ acc.length < sizeLine ∧ Nx (upd H5 D (.dK (putK acc κ z))) else Nx H3) := by
  intro D hD
  refine ⟨fun n k H' => k = xs.length - n ∧ MadeD Γ F ρ σ B cond ik iv st R xs W H ys hf D n H', ⟨xs.length, by simp, ?_⟩, ?_⟩
  · refine ⟨W.hide D, [], [], ys, Nat.zero_le _, upd_same, .nil, hst.ext0 (.hide hD), hR.hide hD, iok.keep _ _ _ _ (.hide hD) rs, rfl, .hide hD, fun b hb => upd_ne fun e => ?_, by rw [List.drop_zero]; exact e, rfl, fun p hp => (List.not_mem_nil hp).elim⟩
    subst e
    exact hR.hdom _ hb hD
  · rintro n k H1 ⟨rfl, W1, acc, ds, r, hn, hacc, rds, st1, hR1, rs1, hh1, x1, hs1, e1, ey, kd⟩
    have hidD : W1.hid D := by rw [hh1]; exact .inl rfl
    by_cases hlt : n < xs.length
    · right
      rw [List.drop_eq_getElem_cons hlt] at e1
      unfold goC at e1
      obtain ⟨c0, e1⟩ := of_ifd e1
      obtain ⟨g1, g2⟩ := iok.go W1 H1 n xs[n] hR1 rs1 c0 (List.getElem?_eq_getElem hlt)
      refine ⟨g1, fun H' => MadeD Γ F ρ σ B cond ik iv st R xs W H ys hf D (n + 1) H', fun H' h' => ⟨_, by omega, rfl, h'⟩, fun x H2 hy => ?_⟩
      obtain ⟨x2, hR2, rx⟩ := g2 x H2 hy
      obtain ⟨o1, h1, eo, e1⟩ := bind_ok' e1
      unfold oneD at eo
      cases hB : B xs[n] with
      | none => rw [hB] at eo; cases eo
      | some ρ' =>
        rw [hB] at eo
        obtain ⟨b, h3, rc, eo⟩ := bind_ok' eo
        refine tg W1 H2 x xs[n] ρ' _ (st1.ext x2) rx hB fun σ2 hw2 st2 => ⟨hw2, W1, ρ', st2, hR2, ?_⟩
        rw [rc]
        intro W3 H3 e3 x3 hR3
        subst e3
        have x13 : Ext W1 H1 W3 H3 := x2.trans x3
        have hid3 : W3.hid = (W.hide D).hid := x13.hid.trans hh1
        have hs3 : ∀ b, W.hid b → H3 b = H b := fun b hb => (x13.hidS b (by rw [hh1]; exact .inr hb)).trans (hs1 b hb)
        have hD3 : H3 D = some (.dK acc) := (x13.hidS D hidD).trans hacc
        cases b with
        | false =>
          rw [if_neg Bool.false_ne_true]
          cases eo
          obtain ⟨r2, h6, z, e1⟩ := bind_ok' e1
          cases e1
          exact ⟨W3, acc, ds, _, hlt, hD3, rds.ext x13, st1.ext x13, hR3, iok.keep _ _ _ _ x13.to0 rs1, hid3, x1.trans x13.to0, hs3, z, ey, kd⟩
        | true =>
          rw [if_pos rfl]
          refine ⟨W3, ρ', st2.ext x3, hR3, ?_⟩
          obtain ⟨y, h5, re, eo⟩ := bind_ok' eo
          rw [re]
          intro W4 H4 u e4 x4 hR4 ry
          subst e4
          refine ⟨W4, ρ', (st2.ext x3).ext x4, hR4, ?_⟩
          obtain ⟨z, h6, rz, eo⟩ := bind_ok' eo
          obtain ⟨ck, eo⟩ := of_if eo rfl
          cases eo
          rw [rz]
          intro W5 H5 w e5 x5 hR5 rw_
          subst e5
          have x15 : Ext W1 H1 W5 H5 := (x13.trans x4).trans x5
          have hD5 : H5 D = some (.dK acc) := (x15.hidS D hidD).trans hacc
          have hid5 : W5.hid = (W.hide D).hid := x15.hid.trans hh1
          have hidD5 : W5.hid D := by rw [hid5]; exact .inl rfl
          obtain ⟨κ, hκ⟩ := keyK_ok ck
          have eu := key_rel (ry.ext x5) hκ
          subst eu
          obtain ⟨r2, h7, zz, e1⟩ := bind_ok' e1
          cases e1
          have gr : Ext0 W5 H5 W5 (upd H5 D (.dK (putK acc κ w))) := .grow hidD5 hD5 (fun _ z => nomatch z) fun _ _ z => nomatch z
          have lacc : acc.length < sizeLine := by
            rw [← szl_eq]
            have a1 := ks_len rds
            have a2 := mergeD_len ds []
            have h2 : ys.length = ds.length + (1 + r2.length) := by rw [ey, List.length_append, List.length_map]; simp [Option.toList]; omega
            simp only [List.length_nil] at a2
            omega
          refine ⟨acc, κ, rfl, hD5, lacc, W5, putK acc κ w, ds ++ [(y, z)], r2, hlt, upd_same, ?_, (st1.ext x15).ext0 gr, hR5.grow hidD5 hD5 (fun _ z => nomatch z) (fun _ _ z => nomatch z), iok.keep _ _ _ _ (x15.to0.trans gr) rs1, hid5, (x1.trans x15.to0).trans gr, fun b hb => ?_, zz, ?_, fun p hp => ?_⟩
          · rw [mergeD_snoc]
            exact (put_rel hκ rw_ (rds.ext x15)).ext0 gr
          · have hb' : b ≠ D := fun e => hR.hdom _ hb (e ▸ hD)
            rw [upd_ne hb']
            exact (x15.hidS b (by rw [hh1]; exact .inr hb)).trans (hs1 b hb)
          · rw [ey, List.map_append, List.append_assoc]; rfl
          · rcases List.mem_append.mp hp with hp | hp
            · exact kd p hp
            · have : p = (y, z) := by simpa using hp
              subst this
              exact ck
    · left
      have hn' : n = xs.length := by omega
      subst hn'
      rw [List.drop_length] at e1
      unfold goC at e1
      obtain ⟨c0, e1⟩ := of_ifd e1
      cases e1
      refine ⟨iok.stop W1 H1 hR1 rs1 c0, ?_⟩
      rw [List.append_nil] at ey
      subst ey
      rw [pairsD_map kd] at hk
      cases hk
      have hsub : ∀ a, W.hid a → W1.hid a := fun a ha => by rw [hh1]; exact .inr ha
      have hnD : ¬ W.hid D := fun h => hR.hdom _ h hD
      have mkx : ∀ (W' : Wd) (H' : Hp), W'.hid = W.hid → Ext0 W1 H1 W' H' → (∀ b, W.hid b → H' b = H1 b) → Ext W H W' H' := fun W' H' h1 h2 h3 =>
        ⟨h1, (x1.trans h2).mu, (x1.trans h2).stay, (x1.trans h2).tups, (x1.trans h2).frzs, fun b hb => (h3 b hb).trans (hs1 b hb)⟩
      unfold PI.mkD at q
      split at q
      · have gx : Ext0 W1 H1 (W1.grant W.hid D (.dct (mergeD [] kvs))) H1 := .grant hR1 hsub hidD
        refine .inl (q (W1.grant W.hid D (.dct (mergeD [] kvs))) H1 _ rfl (mkx _ _ rfl gx fun _ _ => rfl) (hR1.grant hsub hidD hnD ⟨acc, hacc, rds.ext0 gx⟩) (.loc ?_))
        show (W1.mu ++ [D])[W1.ah.length]? = some D
        rw [← hR1.len]
        simp
      · refine .inr ⟨D, acc, rfl, hacc, fun od => ?_⟩
        have gr : Ext0 W1 H1 W1 (upd H1 D (.frz od (.dK acc))) := .grow hidD hacc (fun _ z => nomatch z) fun _ _ z => nomatch z
        have hR2 := hR1.grow (o := .frz od (.dK acc)) hidD hacc (fun _ z => nomatch z) fun _ _ z => nomatch z
        have sx : Ext0 W1 (upd H1 D (.frz od (.dK acc))) (W1.show W.hid) (upd H1 D (.frz od (.dK acc))) := .show hsub
        refine q (W1.show W.hid) _ _ rfl (mkx _ _ rfl (gr.trans sx) fun b hb => upd_ne fun e => hnD (e ▸ hb)) (hR2.show hsub) (.dct ⟨⟨od, upd_same⟩, ?_⟩ (rds.ext0 (gr.trans sx)))
        rintro (⟨n, o, h1, _⟩ | h)
        · exact hR1.sep D hidD (List.mem_of_getElem? h1)
        · exact hnD h
section
variable {X : Cx}
theorem nox_made {W : Wd} {H : Hp} {Q : VK} {E : XK} {f : D → AH → Res (Option D)} {st : AH → Bool} {xs : List D} {h : AH} {k : List D → AH → Res D} (g : GoD Γ W H (((goC f st xs h).nox).bind k) Q E) :
    ∃ ys hf, goC f st xs h = .ok ys hf ∧ GoD Γ W H (k ys hf) Q E := by
  cases r : goC f st xs h with
  | ok ys hf => rw [r] at g; exact ⟨ys, hf, rfl, g⟩
  | exc c p h' => rw [r] at g; exact g.elim
  | fail => rw [r] at g; exact g.elim
theorem s_dcomp (hc : X.calm = true) (hN : X.N.Nodup) (m : Bool) {kx vx tg iter : Expr} {ifs : List Expr} {scope : Scope} {x : Str} {i : Nat} {pos : Pos} {src ik iv : E} {cond : Option E} (hi : PI X tg iter (tI Γ F Wx src)) (ok : BlkOk X.N X.env.scope scope [(x, i)])
    (hg : ∀ (s : Shared) (H : Hp) (C : Addr) (cl : List (Str × Addr)) (fp : List Addr), PG (X.blk s H scope (compEnvC scope cl C X.env) fp) tg (gName i)) (ht : ∀ (s : Shared) (H : Hp) (C : Addr) (cl : List (Str × Addr)) (fp : List Addr), PTs (X.blk s H scope (compEnvC scope cl C X.env) fp) ifs (tC1 Γ F noW cond))
    (hk : ∀ (s : Shared) (H : Hp) (C : Addr) (cl : List (Str × Addr)) (fp : List Addr), PE (X.blk s H scope (compEnvC scope cl C X.env) fp) kx (tE Γ F noW ik))
    (he : ∀ (s : Shared) (H : Hp) (C : Addr) (cl : List (Str × Addr)) (fp : List Addr), PE (X.blk s H scope (compEnvC scope cl C X.env) fp) vx (tE Γ F noW iv)) (hs : ∀ x, foldedSetIterable iter X.env x = pure x) :
    PE X (.DictComp kx vx [⟨tg, iter, ifs, 0⟩] scope pos) (tE Γ F Wx (.dcomp m i src cond ik iv)) := by
  refine peImp (pe_frz (pe_dc hc hN hi ok hg ht hk he hs)) fun σ H Q ⟨W, ρ, st, hR, g⟩ => ?_
  unfold evE at g
  refine ⟨W, ρ, st, hR, ?_⟩
  cases r : evE F src ρ W.ah with
  | ok s h1 =>
    rw [r] at g
    cases rs : srcItems h1 s with
    | none =>
      have g : GoD Γ W H ((Res.of (srcItems h1 s) h1).bind _) Q (wE Wx σ) := g
      rw [rs] at g
      exact g.elim
    | some xs =>
      have g : GoD Γ W H ((Res.of (srcItems h1 s) h1).bind _) Q (wE Wx σ) := g
      rw [rs] at g
      obtain ⟨ys, hf, e, q⟩ := nox_made (h := h1) g
      obtain ⟨hl, q⟩ := q.if_
      cases hp : pairsD ys with
      | none => rw [hp] at q; exact q.elim
      | some kvs =>
        rw [hp] at q
        refine ⟨xs, rs, fun W' H' v J e1 x hR' rd iok => ?_⟩
        subst e1
        exact dcomp_goG (B := fun d => some (ρ.set i (some d))) m (st.ext x) hR' rd iok.g tg_name e (of_decide_eq_true hl) hp (q.ext x)
  | exc c p h' => rw [r] at g; exact g
  | fail => rw [r] at g; exact g
/-- [.. for a, b in d.items()], d a dict that stays -/
def iIt (Γ : Cls1) (F : Fn) (Wx : WX) (src : E) : TI := fun σ H R => ∃ W ρ, RelSt Γ.toCls0 W H ρ σ ∧ RelH Γ.toCls0 W H ∧ match evE F src ρ W.ah with
  | .ok (.dct ds) h1 => ∀ (W' : Wd) (H' : Hp) (a : Addr) (o : Obj) (vs : List (Key × V)), W'.ah = h1 → Ext W H W' H' → RelH Γ.toCls0 W' H' → H' a = some (.frz o (.dK vs)) → RelKs Γ.toCls0 W' H' ds vs → R (Iti a o vs) H'
  | .exc c p h' => ExP Γ W H h' c p (wE Wx σ)
  | _ => False
theorem s_items {a : Expr} {elts : List Expr} {kk : Nat} {tpos apos cpos : Pos} {src : E} (ha : PE X a (tE Γ F Wx src)) (h1 : plainO a = true) (hl : (apos.endLine == cpos.line) = true) : PI X (.Tuple elts kk tpos) (.Call (.Attribute a "items" apos) [] [] cpos) (iIt Γ F Wx src) := by
  refine piImp (pi_items ha (plainO_base h1) hl) fun σ H R ⟨W, ρ, st, hR, g⟩ => ?_
  refine ⟨W, ρ, st, hR, ?_⟩
  cases r : evE F src ρ W.ah with
  | ok s h1 =>
    rw [r] at g
    cases s with
    | dct ds =>
      intro W' H' v e x hR' rd
      cases rd with
      | dct h rk =>
        obtain ⟨⟨o, ho⟩, hn⟩ := h
        exact ⟨_, o, _, rfl, ho, g W' H' _ o _ e x hR' ho rk⟩
    | _ => exact g.elim
  | exc c p h' => rw [r] at g; exact g
  | fail => rw [r] at g; exact g
def B2 (i j : Nat) (ρ : Rho) : D → Option Rho
  | .tup [a, b] => some ((ρ.set i (some a)).set j (some b))
  | _ => none
theorem wipe2 (σ : St) (i j : Nat) : wipe σ [i, j] = (σ.set j none).set i none := rfl
theorem tg_two {ρ : Rho} {σ : St} {i j : Nat} (hij : i ≠ j) : TgOK Γ.toCls0 (gTup Γ.K 2 (gCons (gName i) (gCons (gName j) gNil))) [i, j] ρ σ (B2 i j ρ) := by
  intro W H x d ρ' Q st rd e q
  unfold B2 at e
  split at e
  · rename_i a b
    cases e
    cases rd with
    | tup h r =>
      cases r with
      | cons r1 r => cases r with
        | cons r2 r =>
          cases r
          refine ⟨_, _, rfl, h, rfl, _, _, rfl, _, _, rfl, rfl, q _ ?_ ?_⟩
          · rw [wipe2, wipe2]
            apply List.ext_getElem?
            intro n
            simp only [List.getElem?_set]
            by_cases hi : i = n <;> by_cases hj : j = n <;> simp [hi, hj] <;> (try split) <;> simp_all
          · have s2 := (((st.unset j none).unset i none).set i r1).set j r2
            have e : ((((ρ.set j none).set i none).set i (some a)).set j (some b)) = (ρ.set i (some a)).set j (some b) := by
              apply List.ext_getElem?
              intro n
              simp only [List.getElem?_set, List.length_set]
              by_cases hi : i = n <;> by_cases hj : j = n <;> simp [hi, hj]
            rw [e] at s2
            exact s2
  · cases e
theorem s_compI (hK : X.K = Γ.K) (hc : X.calm = true) (hN : X.N.Nodup) (m : Bool) {elt iter t1 t2 : Expr} {kk : Nat} {tp : Pos} {ifs : List Expr} {scope : Scope} {x y : Str} {i j : Nat} {pos : Pos} {src ielt : E} {cond : Option E} (hij : i ≠ j) (hi : PI X (.Tuple [t1, t2] kk tp) iter (iIt Γ F Wx src)) (ok : BlkOk X.N X.env.scope scope [(x, i), (y, j)])
    (hg : ∀ (s : Shared) (H : Hp) (C : Addr) (cl : List (Str × Addr)) (fp : List Addr), PG (X.blk s H scope (compEnvC scope cl C X.env) fp) (.Tuple [t1, t2] kk tp) (gTup X.K 2 (gCons (gName i) (gCons (gName j) gNil)))) (ht : ∀ (s : Shared) (H : Hp) (C : Addr) (cl : List (Str × Addr)) (fp : List Addr), PTs (X.blk s H scope (compEnvC scope cl C X.env) fp) ifs (tC1 Γ F noW cond))
    (he : ∀ (s : Shared) (H : Hp) (C : Addr) (cl : List (Str × Addr)) (fp : List Addr), PE (X.blk s H scope (compEnvC scope cl C X.env) fp) elt (tE Γ F noW ielt)) (hs : ∀ x, foldedSetIterable iter X.env x = pure x) :
    PE X (.ListComp elt [⟨.Tuple [t1, t2] kk tp, iter, ifs, 0⟩] scope pos) (tE Γ F Wx (.compI m i j src cond ielt)) := by
  refine peImp (pe_lc hc hN hi ok hg ht he hs) fun σ H Q ⟨W, ρ, st, hR, g⟩ => ?_
  unfold evE at g
  refine ⟨W, ρ, st, hR, ?_⟩
  cases r : evE F src ρ W.ah with
  | ok s h1 =>
    rw [r] at g
    cases s with
    | dct ds =>
      obtain ⟨ys, hf, e, q⟩ := nox_made (h := h1) g
      obtain ⟨hl, q⟩ := q.if_
      intro W' H' a o vs e1 x' hR' ho rk
      subst e1
      have e' : goC (oneG F (B2 i j ρ) cond ielt) (fun _ => true) (ds.map fun p => .tup [p.1, p.2]) W'.ah = .ok ys hf := by
        rw [← e]
        congr 1
        funext d h
        unfold oneG B2
        cases d with
        | tup zs => rcases zs with _ | ⟨a, _ | ⟨b, _ | ⟨c, r⟩⟩⟩ <;> rfl
        | _ => rfl
      rw [hK]
      exact comp_goG m (st.ext x') hR' ⟨ho, rk⟩ iter_items (tg_two hij) e' (of_decide_eq_true hl) (q.ext x')
    | _ => exact g.elim
  | exc c p h' => rw [r] at g; exact g
  | fail => rw [r] at g; exact g
end
end PI
set_option maxRecDepth 100000
set_option maxHeartbeats 2000000
/-! {k: v} -/
namespace PI
open PySem L2
section
variable {Γ : Cls1} {F : Fn} {Wx : WX} {X : Cx} {a b : Expr} {ia ib : E} {pos : Pos}
theorem keyD_ok {d : D} (h : keyD d = true) : ∃ κ, keyOf d = some κ := by
  cases d <;> first | exact ⟨_, rfl⟩ | cases h
/-- an expression that ends well -/
theorem plainE {W : Wd} {H : Hp} {ρ : Rho} {σ : St} {e : E} {d : D} {h' : AH} {Q : VK} (st : RelSt Γ.toCls0 W H ρ σ) (hR : RelH Γ.toCls0 W H) (e1 : evE F e ρ W.ah = .ok d h') (q : ∀ W' H' v, W'.ah = h' → Ext W H W' H' → RelH Γ.toCls0 W' H' → RelD Γ.toCls0 W' H' d v → Q v H') : tE Γ F Wx e σ H Q :=
  ⟨W, ρ, st, hR, by rw [e1]; exact q⟩
theorem evEs_one {ρ : Rho} {h : AH} {e : E} {xs : List D} {h' : AH} (q : (evEs F [e] ρ h).nox = .ok xs h') : ∃ x, evE F e ρ h = .ok x h' ∧ xs = [x] := by
  have q := nox_ok q
  unfold evEs at q
  obtain ⟨x, h1, q1, q2⟩ := bind_ok' q
  unfold evEs at q2
  cases q2
  exact ⟨x, q1, rfl⟩
theorem nox_bind {α : Type} {W : Wd} {H : Hp} {r : Res α} {f : α → AH → Res D} {Q : VK} {E : XK} (g : GoD Γ W H ((r.nox).bind f) Q E) : ∃ a h', r.nox = .ok a h' ∧ GoD Γ W H (f a h') Q E := by
  cases q : r with
  | ok a h' => rw [q] at g; exact ⟨a, h', rfl, g⟩
  | exc c p h' => rw [q] at g; exact g.elim
  | fail => rw [q] at g; exact g.elim
theorem s_dct1 (m : Bool) (ha : PE X a (tE Γ F Wx ia)) (hb : PE X b (tE Γ F Wx ib)) : PE X (.Dict [some a] [b] pos) (tE Γ F Wx (.dct m [ia] [ib])) := by
  refine peImp (pe_frz (pe_disp (pps_cons ha hb pps_nil) rfl rfl (by simp) (by simp))) fun σ H Q ⟨W, ρ, st, hR, g⟩ => ?_
  unfold evE at g
  obtain ⟨xs, h1, e1, g⟩ := nox_bind g
  obtain ⟨ys, h2, e2, g⟩ := nox_bind g
  obtain ⟨x, ex, rfl⟩ := evEs_one e1
  obtain ⟨y, ey, rfl⟩ := evEs_one e2
  obtain ⟨hk, g⟩ := g.if_
  have hk : keyD x = true := by simpa using hk
  obtain ⟨κ, hκ⟩ := keyD_ok hk
  have g : GoD Γ W H (mkD m [(x, y)] h2) Q (wE Wx σ) := g
  intro p hp
  refine plainE (W := W.hide p) (st.ext0 (.hide hp)) (hR.hide hp) ex fun W1 H1 u a1 x1 hR1 r1 => ?_
  subst a1
  refine plainE ((st.ext0 (.hide hp)).ext x1) hR1 ey fun W2 H2 v a2 x2 hR2 r2 => ?_
  subst a2
  have x02 := x1.trans x2
  have eu := key_rel (r1.ext x2) hκ
  subst eu
  have hH : H2 p = some (.dK []) := (x02.hidS p (.inl rfl)).trans upd_same
  have hid2 : W2.hid = (W.hide p).hid := x02.hid
  have hidp : W2.hid p := by rw [hid2]; exact .inl rfl
  have hsub : ∀ a, W.hid a → W2.hid a := fun a ha => by rw [hid2]; exact .inr ha
  have hnp : ¬ W.hid p := fun h => hR.hdom _ h hp
  refine ⟨hH, [(κ, v)], rfl, by simp, ?_⟩
  show Q (.ref p) (upd H2 p (.dK [(κ, v)])) ∨ _
  have nt : ∀ xs, (HO.dK [] : HO) ≠ .tup xs := fun _ z => nomatch z
  have nf : ∀ x y, (HO.dK [] : HO) ≠ .frz x y := fun _ _ z => nomatch z
  have z0 : Ext0 W H (W.hide p) (upd H p (.dK [])) := .hide hp
  have mkx : ∀ (W' : Wd) (H' : Hp), W'.hid = W.hid → Ext0 W2 H2 W' H' → (∀ b, W.hid b → H' b = H2 b) → Ext W H W' H' := fun W' H' h1 h2 h3 =>
    have t := (z0.trans x02.to0).trans h2
    ⟨h1, t.mu, t.stay, t.tups, t.frzs, fun b hb => (h3 b hb).trans ((x02.hidS b (.inr hb)).trans (upd_ne fun e => hnp (e ▸ hb)))⟩
  have rk : RelKs Γ.toCls0 W2 H2 [(x, y)] [(κ, v)] := .cons hκ r2 .nil
  have other : ∀ b, W.hid b → ∀ o, (upd H2 p o) b = H2 b := fun b hb o => upd_ne fun e => hnp (e ▸ hb)
  unfold PI.mkD at g
  split at g
  · have gr : Ext0 W2 H2 W2 (upd H2 p (.dK [(κ, v)])) := .grow hidp hH nt nf
    have hR3 := hR2.grow (o := .dK [(κ, v)]) hidp hH nt nf
    have gx : Ext0 W2 (upd H2 p (.dK [(κ, v)])) (W2.grant W.hid p (.dct [(x, y)])) (upd H2 p (.dK [(κ, v)])) := .grant hR3 hsub hidp
    refine .inl (g (W2.grant W.hid p (.dct [(x, y)])) _ _ rfl (mkx _ _ rfl (gr.trans gx) fun b hb => other b hb _) (hR3.grant hsub hidp hnp ⟨_, upd_same, (rk.ext0 gr).ext0 gx⟩) (.loc ?_))
    show (W2.mu ++ [p])[W2.ah.length]? = some p
    rw [← hR2.len]
    simp
  · refine .inr ⟨p, _, rfl, upd_same, fun od => ?_⟩
    rw [upd_upd]
    have gr : Ext0 W2 H2 W2 (upd H2 p (.frz od (.dK [(κ, v)]))) := .grow hidp hH nt nf
    have hR3 := hR2.grow (o := .frz od (.dK [(κ, v)])) hidp hH nt nf
    have sx : Ext0 W2 (upd H2 p (.frz od (.dK [(κ, v)]))) (W2.show W.hid) (upd H2 p (.frz od (.dK [(κ, v)]))) := .show hsub
    refine g (W2.show W.hid) _ _ rfl (mkx _ _ rfl (gr.trans sx) fun b hb => other b hb _) (hR3.show hsub) (.dct ⟨⟨od, upd_same⟩, ?_⟩ ((rk.ext0 gr).ext0 sx))
    rintro (⟨n, o, h1, _⟩ | h)
    · exact hR2.sep p hidp (List.mem_of_getElem? h1)
    · exact hnp h
end
end PI
set_option maxRecDepth 100000
set_option maxHeartbeats 2000000
/-! Objects with slots. -/
namespace PI
open PySem L2
/-- what the checker is told of a class -/
structure ObjG where
  name : Str
  slots : List Str
  init : Option Nat
  meths : List (Str × Nat)
  props : List (Str × Nat)
theorem Room.le {k n : Nat} {A : Around} (h : k ≤ n) (r : Room n A) : Room k A := ⟨r.hd, by have := r.dp; omega, by have := r.un; omega⟩
/-- a def that is reached by its address -/
structure MDef (Γ : Cls1) (F : Fn) (X : Cx) (f : Addr) (n : Nat) : Prop where
  ex : ∃ (k : Nat) (fd : FuncData) (ps : List Str), Binds X.K fd ps [] ∧ Room (k + 2) X.A ∧ FnG X.prog X.w X.K X.mg X.base k f fd ps (spF Γ F n)
structure PropAt (Γ : Cls1) (F : Fn) (X : Cx) (C : Addr) (f : Str) (n : Nat) (p g : Addr) : Prop where
  at_ : PySem.W.findIn X.K (.ref C) f = some (some (.ref p))
  get : PySem.W.specialIn X.K (.ref p) "__get__" = some (some (.builtin "property.__get__"))
  tk : PySem.W.takesIn X.K (.ref p) = some true
  rc : ∃ rest, PySem.W.recIn X.K p "property" = some (.ref g :: rest)
  df : MDef Γ F X g n
structure ObjAt (Γ : Cls1) (F : Fn) (X : Cx) (o : ObjG) (c : Nat) : Prop where
  cl : SlX.SCls X.K (Γ.cO c)
  new_ : ∀ n, o.init = some n → X.mg o.name = some (.ref (Γ.cO c)) ∧ ∃ g, Mk X.K (Γ.cO c) g ∧ MDef Γ F X g n
  slots : ∀ (i : Nat) (f : Str), o.slots[i]? = some f → ∃ p, SlX.Slot1 X.K (Γ.cO c) f p i
  meths : ∀ (m : Str) (n : Nat), (m, n) ∈ o.meths → ∃ g, L2.Meth X.K (Γ.cO c) m g ∧ MDef Γ F X g n
  props : ∀ (m : Str) (n : Nat), (m, n) ∈ o.props → ∃ p g, PropAt Γ F X (Γ.cO c) m n p g
section
variable {Γ : Cls1} {F : Fn} {Wx : WX} {X : Cx} {a b : Expr} {ia ib : E} {pos : Pos}
theorem MDef.to {Y : Cx} {f : Addr} {n : Nat} (h : MDef Γ F X f n) (eK : Y.K = X.K) (ep : Y.prog = X.prog) (ew : Y.w = X.w) (em : Y.mg = X.mg) (eb : Y.base = X.base) (eA : Y.A = X.A) : MDef Γ F Y f n := by
  obtain ⟨k, fd, ps, h1, h2, h3⟩ := h.ex
  exact ⟨k, fd, ps, by rw [eK]; exact h1, by rw [eA]; exact h2, by rw [ep, ew, eK, em, eb]; exact h3⟩
theorem ObjAt.to {Y : Cx} {o : ObjG} {c : Nat} (h : ObjAt Γ F X o c) (eK : Y.K = X.K) (ep : Y.prog = X.prog) (ew : Y.w = X.w) (em : Y.mg = X.mg) (eb : Y.base = X.base) (eA : Y.A = X.A) : ObjAt Γ F Y o c where
  cl := by rw [eK]; exact h.cl
  new_ := fun n e => by
    obtain ⟨h1, g, h2, h3⟩ := h.new_ n e
    exact ⟨by rw [em]; exact h1, g, by rw [eK]; exact h2, h3.to eK ep ew em eb eA⟩
  slots := fun i f e => by rw [eK]; exact h.slots i f e
  meths := fun m n e => by
    obtain ⟨g, h2, h3⟩ := h.meths m n e
    exact ⟨g, by rw [eK]; exact h2, h3.to eK ep ew em eb eA⟩
  props := fun m n e => by
    obtain ⟨p, g, h1, h2, h3, h4, h5⟩ := h.props m n e
    exact ⟨p, g, by rw [eK]; exact h1, by rw [eK]; exact h2, by rw [eK]; exact h3, by rw [eK]; exact h4, h5.to eK ep ew em eb eA⟩
/-- a call from any place below -/
theorem FnG.callAt {k : Nat} {f : Addr} {fd : FuncData} {ps : List Str} {sp : Sp} (G : FnG X.prog X.w X.K X.mg X.base k f fd ps sp) {A : Around} (hr : Room k A) (hg : A.guards = some []) (hb : Binds X.K fd ps []) (tk : Takes X Wx) {pins : List (Addr × Obj)} {σ : L2.St} {H : Hp} {s : Shared} {Q : VK} {us : List Value} {vs : List V}
    (e0 : Env0 X.prog X.w X.K X.mg X.base A X.stack s H) (I : Inv X pins σ H s) (r : Vals vs us) (q : sp vs H Q (wE Wx σ)) :
    codeAny (model X.prog X.w) A (.call (.ref f) ⟨us, []⟩) (fun r s' => match r with | .ok (.ret v) => EP X pins σ Q v s' | .ok _ => False | .error e => X.xe e s') s := by
  have l1 : us.length = ps.length := r.length.symm.trans (G.len _ _ _ _ q)
  have hb := hb s us I.kIn
  rw [List.append_nil] at hb
  refine codeAny_mono (G.run A X.stack s H ⟨us, []⟩ us vs Q (wE Wx σ) hr hg e0 (hb l1) r q) fun z s' hz => ?_
  match z, hz with
  | .error e, hz => exact passAt tk σ pins H s e s' I hz
  | .ok (.ret u), hz => exact I.after hz
  | .ok .next, hz => exact hz.elim
  | .ok .brk, hz => exact hz.elim
  | .ok .cont, hz => exact hz.elim
theorem slots_rel {Γ : Cls0} {W : Wd} {H : Hp} {d : D} {v : V} {c : Nat} {fs : List (Option D)} (hR : RelH Γ W H) (rd : RelD Γ W H d v) (h : slotsOf c W.ah d = some fs) :
    ∃ n a dx vs, d = .loc n ∧ v = .ref a ∧ W.mu[n]? = some a ∧ W.ah[n]? = some (.ins c fs) ∧ H a = some (SlX.SlO a (Γ.cO c) dx vs) ∧ H dx = some (.xd []) ∧ ¬ W.Live dx ∧ ∀ (i : Nat) (d : D), fs[i]? = some (some d) → ∃ v, vs[i]? = some (some v) ∧ RelD Γ W H d v := by
  unfold slotsOf at h
  split at h
  · rename_i n
    split at h
    · rename_i c' fs' h0
      split at h
      · rename_i e
        cases h
        subst e
        cases rd with
        | loc hm =>
          obtain ⟨dx, vs, h1, h2, h3, h4⟩ := hR.obj _ _ _ hm h0
          exact ⟨n, _, dx, vs, rfl, rfl, hm, h0, h1, h2, h3, h4⟩
      · cases h
    · cases h
  · cases h
/-- e.f, a slot -/
theorem s_slot (hx : Here Γ.toCls0 X) {o : ObjG} {c i : Nat} {f : Str} (O : ObjAt Γ F X o c) (hi : o.slots[i]? = some f) (ha : PE X a (tE Γ F Wx ia)) (h1 : plainO a = true) : PE X (.Attribute a f pos) (tE Γ F Wx (.slot c ia i)) := by
  refine peImp (SlX.pe_sl ha (plainO_base h1)) fun σ H Q ⟨W, ρ, st, hR, g⟩ => ?_
  unfold evE at g
  refine bindE st hR g fun d W1 H1 v x1 hR1 st1 rd g1 => ?_
  cases q : (slotsOf c W1.ah d).bind fun fs => (fs[i]?).join with
  | none => rw [q] at g1; exact g1.elim
  | some r =>
    rw [q] at g1
    obtain ⟨fs, q1, q2⟩ := opt_bind q
    obtain ⟨n, p, dx, vs, rfl, rfl, hm, h0, z1, z2, z3, z4⟩ := slots_rel hR1 rd q1
    obtain ⟨p', hs⟩ := O.slots i f hi
    have q3 : fs[i]? = some (some r) := by
      cases e : fs[i]? with
      | none => rw [e] at q2; cases q2
      | some z => rw [e] at q2; exact congrArg some q2
    obtain ⟨v, e1, rv⟩ := z4 i r q3
    exact ⟨p, Γ.cO c, dx, p', vs, i, v, rfl, .inr ⟨z1, z2⟩, O.cl, hs, e1, OkP.here hR1 g1 rv⟩
theorem putF_at {i j : Nat} {d e : D} {fs : List (Option D)} (h : (putF i d fs)[j]? = some (some e)) : (j = i ∧ e = d) ∨ (j ≠ i ∧ fs[j]? = some (some e)) := by
  unfold putF at h
  by_cases hj : j = i
  · subst hj
    rw [List.getElem?_set_self (by simp only [List.length_append, List.length_replicate]; omega)] at h
    cases h
    exact .inl ⟨rfl, rfl⟩
  · rw [List.getElem?_set_ne (Ne.symm hj)] at h
    refine .inr ⟨hj, ?_⟩
    by_cases hl : j < fs.length
    · rw [List.getElem?_append_left hl] at h
      exact h
    · rw [List.getElem?_append_right (by omega), List.getElem?_replicate] at h
      split at h <;> cases h
/-- e.f = v -/
theorem z_slot (hx : Here Γ.toCls0 X) {o : ObjG} {c i : Nat} {f : Str} {p' : Pos} (O : ObjAt Γ F X o c) (hi : o.slots[i]? = some f) (ha : PE X a (tE Γ F Wx ia)) (hb : PE X b (tE Γ F Wx ib)) (hs : swapsWith b (some (.Attribute a f p')) pos.line X.env = pure false) :
    PS X (.Assign [.Attribute a f p'] b pos) (tS Γ F Wx (.asg (.slot c ia i) ib)) := by
  refine psImp (SlX.ps_sl ha hb hs) fun D σ H ⟨W, ρ, st, hR, g⟩ => ?_
  unfold evS at g
  refine bindS st hR g fun z W1 H1 w x1 hR1 st1 rz g1 => ?_
  unfold asT at g1
  refine bindS st1 hR1 g1 fun d W2 H2 v x2 hR2 st2 rd g2 => ?_
  cases q : setSl c d i z W2.ah with
  | none => rw [q] at g2; exact g2.elim
  | some h' =>
    rw [q] at g2
    unfold setSl at q
    split at q
    · split at q
      · rename_i n _ c' fs h0
        split at q
        · rename_i ec
          cases q
          subst ec
          have e0 : slotsOf c' W2.ah (.loc n) = some fs := by
            unfold slotsOf
            dsimp only
            rw [h0]
            exact if_pos rfl
          obtain ⟨n', p, dx, vs, en, rfl, hm, h0', z1, z2, z3, z4⟩ := slots_rel hR2 rd e0
          cases en
          obtain ⟨q', hs'⟩ := O.slots i f hi
          refine ⟨p, Γ.cO c', dx, q', vs, i, rfl, .inr ⟨z1, z2⟩, O.cl, hs', ?_⟩
          have nd : dx ≠ p := fun e => by
            rw [e, z1] at z2
            exact SlX.slO_not (Option.some.inj z2)
          have eH : SlX.slH H2 p (Γ.cO c') dx (SlX.putS i w vs) = upd H2 p (SlX.SlO p (Γ.cO c') dx (SlX.putS i w vs)) := by
            funext b
            unfold SlX.slH
            by_cases e1 : b = p
            · rw [e1, upd_same, upd_same]
            · rw [upd_ne e1, upd_ne e1]
              by_cases e2 : b = dx
              · rw [e2, upd_same, z2]
              · rw [upd_ne e2]
          rw [eH]
          have nt : ∀ xs, SlX.SlO p (Γ.cO c') dx vs ≠ .tup xs := fun _ z => by unfold SlX.SlO at z; cases z
          have nf : ∀ x y, SlX.SlO p (Γ.cO c') dx vs ≠ .frz x y := fun _ _ z => by unfold SlX.SlO at z; cases z
          have x : Ext W2 H2 (W2.put n (.ins c' (putF i z fs))) (upd H2 p (SlX.SlO p (Γ.cO c') dx (SlX.putS i w vs))) := .put hR2 hm h0 rfl z1 nt nf
          have rz2 := (rz.ext x2).ext x
          refine g2 _ _ σ rfl x (hR2.put hm h0 rfl z1 nt nf ⟨dx, _, upd_same, by rw [upd_ne nd]; exact z2, fun l => z3 (Wd.put_live (H := H2) h0 rfl l), fun j e ej => ?_⟩) (st2.ext x)
          rcases putF_at ej with ⟨rfl, rfl⟩ | ⟨hj, ej⟩
          · exact ⟨w, SlX.putS_get _ _ _, rz2⟩
          · obtain ⟨u, e1, ru⟩ := z4 j e ej
            exact ⟨u, (SlX.putS_ne hj).mpr e1, ru.ext x⟩
        · cases q
      · cases q
    · cases q
theorem z_dead {s : Stmt} : PS X s (tS Γ F Wx .dead) := ⟨fun pins s σ H D I ⟨W, ρ, st, hR, g⟩ => by
  unfold evS at g
  exact g.elim⟩
end
end PI
set_option maxRecDepth 100000
set_option maxHeartbeats 2000000
namespace PI
open PySem L2
section
variable {Γ : Cls1} {F : Fn} {Wx : WX} {X : Cx} {a b : Expr} {ia ib : E} {es : List Expr} {is : List E} {pos : Pos}
theorem relRef (a : Addr) : RelV (.ref a) (.ref a) := rfl
theorem make_guards {A : Around} {C : Addr} {us : List Value} (h : A.guards = some []) : (A.under (.builtin "type.__call__" ⟨.ref C :: us, []⟩)).guards = some [] := by
  have e : (Code.builtin "type.__call__" ⟨.ref C :: us, []⟩).guards = [] := by
    unfold Code.guards
    have : (Code.builtin "type.__call__" ⟨.ref C :: us, []⟩).isGuard = false := by
      show guardIds.contains "type.__call__" = false
      decide +kernel
    rw [this]
    rfl
  show pushGuards (Code.builtin "type.__call__" ⟨.ref C :: us, []⟩).guards A.guards = _
  rw [e]
  exact h
/-- a new object, as the callee is told of it -/
def newH (H : Hp) (x C dx : Addr) : Hp := upd (upd H dx (.xd [])) x (SlX.SlO x C dx [])
theorem run_new {C g : Addr} {n k : Nat} {fd : FuncData} {ps : List Str} (M : Mk X.K C g) (hg : X.A.guards = some []) (tk : Takes X Wx) (hb : Binds X.K fd ps []) (hr : Room (k + 2) X.A) (G : FnG X.prog X.w X.K X.mg X.base k g fd ps (spF Γ F n))
    {pins : List (Addr × Obj)} {σ : L2.St} {H : Hp} {s : Shared} {Q : VK} {us : List Value} {vs : List V} (I : Inv X pins σ H s) (r : Vals vs us)
    (h : ∀ x dx, H x = none → H dx = none → dx ≠ x → spF Γ F n (V.ref x :: vs) (newH H x C dx) (fun v H2 => v = .non ∧ Q (.ref x) H2) (wE Wx σ)) :
    wpAny (model X.prog X.w) X.A (PySem.call (.ref C) us) (EP X pins σ Q) X.xe s := by
  have n1 : H (s.heap.objs.size + 1) = none := I.hok.fresh (Nat.le_succ _)
  have n2 : H s.heap.objs.size = none := I.hok.fresh (Nat.le_refl _)
  have ne : s.heap.objs.size ≠ s.heap.objs.size + 1 := Nat.ne_of_lt (Nat.lt_succ_self _)
  have q := h _ _ n1 n2 ne
  have J := Inv.made (C := C) I
  have sl : SlX.Slt (upd (upd H s.heap.objs.size (.own (s.heap.objs.size + 1))) (s.heap.objs.size + 1) (.ins C s.heap.objs.size [])) (s.heap.objs.size + 1) C s.heap.objs.size [] := .inl ⟨upd_same, rfl⟩
  obtain ⟨_, so, mA, o1, o2, _, _⟩ := SlX.slt_at J sl
  have J2 := SlX.inv_slot (vs' := []) (sl' := so) (h' := (s.heap.push PySem.W.emptyDict).push (PySem.W.instObj C s.heap.objs.size)) (t' := s.toks) J sl (fun _ _ _ _ z => z) (fun _ z => z) o1 o2
  have eH : SlX.slH (upd (upd H s.heap.objs.size (.own (s.heap.objs.size + 1))) (s.heap.objs.size + 1) (.ins C s.heap.objs.size [])) (s.heap.objs.size + 1) C s.heap.objs.size [] = newH H (s.heap.objs.size + 1) C s.heap.objs.size := by
    funext z
    unfold SlX.slH newH
    by_cases e1 : z = s.heap.objs.size + 1
    · rw [e1, upd_same, upd_same]
    · rw [upd_ne e1, upd_ne e1]
      by_cases e2 : z = s.heap.objs.size
      · rw [e2, upd_same, upd_same]
      · rw [upd_ne e2, upd_ne e2, upd_ne e1, upd_ne e2]
  rw [eH] at J2
  have hr1 : Room (k + 1) X.A := Room.le (by omega) hr
  have run := FnG.callAt (A := X.A.under (.builtin "type.__call__" ⟨.ref C :: us, []⟩)) G (hr1.make C us []) (make_guards hg) hb tk (J2.env0.make C us []) J2 (.cons (relRef _) r) q
  refine wpAny_call (make_map I.kIn M.makes M.init (beq_iff_eq.mp M.fn) (codeAny_mono run fun z s' hz => ?_))
  match z, hz with
  | .error e, hz => exact hz
  | .ok .next, hz => exact hz.elim
  | .ok .brk, hz => exact hz.elim
  | .ok .cont, hz => exact hz.elim
  | .ok (.ret u), hz =>
    obtain ⟨v, H', I3, rv, ev, q3⟩ := hz
    subst ev
    exact ⟨rv, .ref (s.heap.objs.size + 1), H', I3, rfl, q3⟩
theorem s_newo (hx : Here Γ.toCls0 X) (tk : Takes X Wx) {o : ObjG} {c n : Nat} {p : Pos} (O : ObjAt Γ F X o c) (hi : o.init = some n) (hg : Gl X o.name) (hd : (o.name == ("__debug__" : Str)) = false) (hes : PA X (a :: es) (tEs Γ F Wx is)) (hn : (a :: es).all noStar = true) :
    PE X (.Call (.Name o.name p) (a :: es) [] pos) (tE Γ F Wx (.newo c n is)) := by
  obtain ⟨hm, g, M, D⟩ := O.new_ n hi
  obtain ⟨k, fd, ps, hb, hr, G⟩ := D.ex
  refine ⟨fun pins s σ H Q I ⟨W, ρ, st, hR, g0⟩ => wpAny_Call_Name_kw (ld_glob I hg hm ?_ hd)⟩
  unfold evE at g0
  rw [List.all_cons, Bool.and_eq_true] at hn
  have args := hes.run pos pins s σ H (fun vs H1 => ∀ x dx, H1 x = none → H1 dx = none → dx ≠ x → spF Γ F n (V.ref x :: vs) (newH H1 x (Γ.cO c) dx) (fun v H2 => v = .non ∧ Q (.ref x) H2) (wE Wx σ)) I (bindEs st hR g0 fun ds W1 H1 vs x1 hR1 st1 rd g1 => ?_)
  · refine PySem.W.callWith_K (h₀ := X.base) I.ok.mod.kin M.kp (thn args fun us s1 ⟨vs, H1, I1, r, q⟩ => ⟨I1.kIn, ?_⟩) (star_cons hn.1) (back_any hn.2)
    exact run_new M hx.guards tk hb hr G I1 r q
  · intro x dx hx1 hd1 ne
    have f1 : Ext W1 H1 W1 (upd H1 dx (.xd [])) := .fresh hR1 hd1
    have R1 : RelH Γ.toCls0 W1 (upd H1 dx (.xd [])) := hR1.fresh hd1
    have hx2 : (upd H1 dx (.xd [])) x = none := by rw [upd_ne (Ne.symm ne)]; exact hx1
    have f2 : Ext W1 (upd H1 dx (.xd [])) (W1.add x (.ins c [])) (newH H1 x (Γ.cO c) dx) := .add R1 hx2
    have e12 := f1.trans f2
    have R2 : RelH Γ.toCls0 (W1.add x (.ins c [])) (newH H1 x (Γ.cO c) dx) := by
      refine R1.add hx2 ⟨dx, [], upd_same, by rw [upd_ne ne, upd_same], fun l => ?_, fun i d e => by simp at e⟩
      rcases Wd.add_live R1 l with l | l
      · exact not_live hR1 hd1 l
      · exact ne l
    have hmu : (W1.add x (.ins c [])).mu[W1.ah.length]? = some x := by
      show (W1.mu ++ [x])[W1.ah.length]? = some x
      rw [← hR1.len]
      simp
    refine ⟨W1.add x (.ins c []), .loc W1.ah.length :: ds, .cons (.loc hmu) (rd.ext e12), R2, ?_⟩
    have g1 : GoD Γ W1 H1 ((F n (.loc W1.ah.length :: ds) (W1.ah ++ [.ins c []])).bind fun r h2 => match r with
      | .non => .ok (.loc W1.ah.length) h2
      | _ => .fail) Q (wE Wx σ) := g1
    show GoD Γ _ _ (F n (.loc W1.ah.length :: ds) (W1.ah ++ [.ins c []])) _ _
    cases q : F n (.loc W1.ah.length :: ds) (W1.ah ++ [.ins c []]) with
    | ok r h2 =>
      rw [q] at g1
      cases r with
      | non => exact fun W2 H2 v e x2 hR2 rv => ⟨rv.isNon, g1 W2 H2 (.ref x) e (e12.trans x2) hR2 (.loc (x2.mu _ _ hmu))⟩
      | _ => exact g1.elim
    | exc c' p' h2 => rw [q] at g1; exact ExP.ext e12 g1
    | fail => rw [q] at g1; exact g1.elim
/-! ### methods -/
theorem own_form {o : Expr} {m : Str} {apos : Pos} {env : Env} (hb : attributeBase o m env (eval o env) = eval o env) (hn : es.all noStar = true) (hz : es.length < 30) (hl : (apos.endLine == pos.line) = true) :
    eval (.Call (.Attribute o m apos) es [] pos) env = (do
      let ov ← eval o env
      standAt apos.atName
      let (f, first) ← holding [ov] (getMethod ov m (do return (← importBound o env).getD true))
      callWith pos f first (backTo pos (starEach es env)) (backToKw pos (keywordEach [] env))) := by
  have form : methodCallForm (es.length + ([] : List Keyword).length) (backTo pos (starEach es env)) (backToKw pos (keywordEach [] env)) = true := by
    unfold methodCallForm
    rw [back_all hn]
    show (true && true && decide (es.length + 0 + 0 < 30)) = true
    rw [Bool.true_and, Bool.true_and]
    exact decide_eq_true (by omega)
  have hp : methodCallPos true o env apos pos = pure pos := by
    unfold methodCallPos
    rw [hl]
    rfl
  rw [arm_eval_Call, hb]
  unfold methodCall
  rw [form, hp]
  rfl
theorem s_ometh (hx : Here Γ.toCls0 X) (tk : Takes X Wx) {o : ObjG} {c n : Nat} {m : Str} {apos : Pos} (O : ObjAt Γ F X o c) (hi : (m, n) ∈ o.meths) (ha : PE X a (tE Γ F Wx ia)) (hes : PA X es (tEs Γ F Wx is)) (h0 : es = [] ↔ is = []) (hn : es.all noStar = true) (h1 : plainO a = true) (hl : (apos.endLine == pos.line) = true) (hz : es.length < 30) :
    PE X (.Call (.Attribute a m apos) es [] pos) (tE Γ F Wx (.own .meth c n ia is)) := by
  obtain ⟨g, M, D⟩ := O.meths m n hi
  obtain ⟨k, fd, ps, hb, hr, G⟩ := D.ex
  refine ⟨fun pins s σ H Q I ⟨W, ρ, st, hR, g0⟩ => ?_⟩
  unfold evE at g0
  have obj := ha.run pins s σ H (fun v H1 => ∃ p dx vs, v = .ref p ∧ SlX.Slt H1 p (Γ.cO c) dx vs ∧ tEs Γ F Wx is σ H1 fun ws H2 => spF Γ F n (v :: ws) H2 Q (wE Wx σ)) I (bindE st hR g0 fun d W1 H1 v x1 hR1 st1 rd g1 => ?_)
  · refine PySem.W.methodCall_KW (thn obj fun u s1 ⟨x, H1, I1, rx, q, dx, vs, ex, hs, qa⟩ => ?_) (own_form (plainO_base h1) hn hz hl)
    subst ex
    obtain rfl : u = Value.ref q := rx
    refine SlX.getmethsl_ok I1 hs O.cl M ?_
    have hr0 : Room k X.A := Room.le (by omega) hr
    cases es with
    | nil =>
      have e0 := h0.mp rfl
      subst e0
      obtain ⟨W1, ρ1, st1, hR1, ga⟩ := qa
      have ga := ga W1 H1 [] rfl (.refl _ _) hR1 .nil
      exact PySem.W.callWith_K0 (first := [.ref q]) I1.kIn M.kp (wpAny_call (FnG.callAt G hr0 hx.guards hb tk I1.env0 I1 (.cons (relRef _) .nil) ga))
    | cons e es =>
      rw [List.all_cons, Bool.and_eq_true] at hn
      refine PySem.W.callWith_K (first := [.ref q]) (h₀ := X.base) I.ok.mod.kin M.kp (thn (hes.run pos pins s1 σ H1 _ I1 qa) fun us s2 ⟨ws, H2, I2, r, q2⟩ => ⟨I2.kIn, ?_⟩) (star_cons hn.1) (back_any hn.2)
      exact wpAny_call (FnG.callAt G hr0 hx.guards hb tk I2.env0 I2 (.cons (relRef _) r) q2)
  · cases q : slotsOf c W1.ah d with
    | none =>
      have g1 : GoD Γ W1 H1 (if (slotsOf c W1.ah d).isSome = true then (evEs F is ρ W1.ah).bind fun xs h2 => F n (d :: xs) h2 else .fail) Q (wE Wx σ) := g1
      rw [q] at g1
      exact g1.elim
    | some fs =>
      obtain ⟨_, p, dx, vs, e1, rfl, hm, h0', z1, z2, z3, z4⟩ := slots_rel hR1 rd q
      obtain ⟨_, g2⟩ := g1.if_
      exact ⟨p, dx, vs, rfl, .inr ⟨z1, z2⟩, bindEs st1 hR1 g2 fun ds W2 H2 ws x2 hR2 st2 rds g3 => ⟨W2, d :: ds, .cons (rd.ext x2) rds, hR2, g3⟩⟩
/-- a call that ends well -/
theorem nox_call {W : Wd} {H : Hp} {n : Nat} {ds : List D} {f : D → AH → Res D} {Q : VK} {E : XK} (g : GoD Γ W H (((F n ds W.ah).nox).bind f) Q E) : ∃ r h', F n ds W.ah = .ok r h' ∧ GoD Γ W H (f r h') Q E := by
  cases q : F n ds W.ah with
  | ok r h' => rw [q] at g; exact ⟨r, h', rfl, g⟩
  | exc c p h' => rw [q] at g; exact g.elim
  | fail => rw [q] at g; exact g.elim
theorem sp_ok {W : Wd} {H : Hp} {n : Nat} {ds : List D} {vs : List V} {r : D} {h' : AH} {Q : VK} {E : XK} (rd : RelDs Γ.toCls0 W H ds vs) (hR : RelH Γ.toCls0 W H) (e : F n ds W.ah = .ok r h') (q : OkP Γ.toCls0 W H h' r Q) : spF Γ F n vs H Q E :=
  ⟨W, ds, rd, hR, by rw [e]; exact q⟩
/-- a call that raises nothing -/
theorem FnG.quiet {k : Nat} {f : Addr} {fd : FuncData} {ps : List Str} {sp : Sp} (G : FnG X.prog X.w X.K X.mg X.base k f fd ps sp) {A : Around} (hr : Room k A) (hg : A.guards = some []) (hb : Binds X.K fd ps []) {pins : List (Addr × Obj)} {σ : L2.St} {H : Hp} {s : Shared} {Q : VK} {us : List Value} {vs : List V}
    (e0 : Env0 X.prog X.w X.K X.mg X.base A X.stack s H) (I : Inv X pins σ H s) (r : Vals vs us) (q : sp vs H Q fun _ _ _ => False) :
    codeAny (model X.prog X.w) A (.call (.ref f) ⟨us, []⟩) (fun r s' => match r with | .ok (.ret v) => EP X pins σ Q v s' | _ => False) s := by
  have l1 : us.length = ps.length := r.length.symm.trans (G.len _ _ _ _ q)
  have hb := hb s us I.kIn
  rw [List.append_nil] at hb
  refine codeAny_mono (G.run A X.stack s H ⟨us, []⟩ us vs Q _ hr hg e0 (hb l1) r q) fun z s' hz => ?_
  match z, hz with
  | .error e, ⟨_, _, _, _, _, _, _, _, _, _, _, _, z⟩ => exact z.elim
  | .ok (.ret u), hz => exact I.after hz
  | .ok .next, hz => exact hz.elim
  | .ok .brk, hz => exact hz.elim
  | .ok .cont, hz => exact hz.elim
/-- the call's value -/
theorem FnG.value {k : Nat} {f : Addr} {fd : FuncData} {ps : List Str} {sp : Sp} (G : FnG X.prog X.w X.K X.mg X.base k f fd ps sp) {A : Around} (hr : Room k A) (hg : A.guards = some []) (hb : Binds X.K fd ps []) {pins : List (Addr × Obj)} {σ : L2.St} {H : Hp} {s : Shared} {Q : VK} {us : List Value} {vs : List V} {E : Value → Shared → Prop}
    (e0 : Env0 X.prog X.w X.K X.mg X.base A X.stack s H) (I : Inv X pins σ H s) (r : Vals vs us) (q : sp vs H Q fun _ _ _ => False) : wpAny (model X.prog X.w) A (PySem.call (.ref f) us) (EP X pins σ Q) E s := by
  refine wpAny_call (codeAny_mono (FnG.quiet G hr hg hb e0 I r q) fun z s' hz => ?_)
  match z, hz with
  | .error e, hz => exact hz.elim
  | .ok (.ret u), hz => exact hz
  | .ok .next, hz => exact hz.elim
  | .ok .brk, hz => exact hz.elim
  | .ok .cont, hz => exact hz.elim
/-- a.f, a property -/
theorem s_prop (hx : Here Γ.toCls0 X) {o : ObjG} {c n : Nat} {m : Str} (O : ObjAt Γ F X o c) (hi : (m, n) ∈ o.props) (ha : PE X a (tE Γ F Wx ia)) (h1 : plainO a = true) : PE X (.Attribute a m pos) (tE Γ F Wx (.own .prop c n ia [])) := by
  obtain ⟨p, g, P⟩ := O.props m n hi
  obtain ⟨k, fd, ps, hb, hr, G⟩ := P.df.ex
  refine ⟨fun pins s σ H Q I ⟨W, ρ, st, hR, g0⟩ => ?_⟩
  unfold evE at g0
  have obj := ha.run pins s σ H (fun v H1 => ∃ p dx vs, v = .ref p ∧ SlX.Slt H1 p (Γ.cO c) dx vs ∧ spF Γ F n [v] H1 Q fun _ _ _ => False) I (bindE st hR g0 fun d W1 H1 v x1 hR1 st1 rd g1 => ?_)
  · refine attr_of (plainO_base h1) (thn obj fun u s1 ⟨x, H1, I1, rx, q, dx, vs, ex, hs, qa⟩ => ?_)
    subst ex
    obtain rfl : u = Value.ref q := rx
    obtain ⟨sl, od, _, J, _⟩ := SlX.slt_inst I1 hs
    obtain ⟨rest, hrec⟩ := P.rc
    have pg := PySem.W.plainGet_of (O.cl.get m)
    have J1 : Inv X pins σ H1 { s1 with toks := s1.toks + 1 } := I1.tok (s1.toks + 1)
    have hr1 : Room (k + 1) X.A := Room.le (by omega) hr
    have run := FnG.quiet (A := X.A.in1) G hr1.in1 hx.guards hb J1.env0.in1 J1 (.cons (relRef _) .nil) qa
    refine PySem.W.get_bind I1.kIn J pg.1 (PySem.W.findObj_data O.cl.ic P.at_ P.get P.tk) pg.2 (wpAny_call ?_)
    refine PySem.W.prop_get (s := { s1 with toks := s1.toks + 1 }) I1.kIn hrec (codeAny_mono run fun z s' hz => ?_)
    match z, hz with
    | .error e, hz => exact hz.elim
    | .ok .next, hz => exact hz.elim
    | .ok .brk, hz => exact hz.elim
    | .ok .cont, hz => exact hz.elim
    | .ok (.ret u), hz =>
      obtain ⟨v, H', I2, rv, q⟩ := hz
      exact wpAny_of_eq (PySem.W.handedOut_of (handed_of rv)) ⟨v, H', I2, rv, q⟩
  · cases q : slotsOf c W1.ah d with
    | none =>
      have g1 : GoD Γ W1 H1 (if (slotsOf c W1.ah d).isSome = true then (F n [d] W1.ah).nox else .fail) Q (wE Wx σ) := g1
      rw [q] at g1
      exact g1.elim
    | some fs =>
      obtain ⟨_, p', dx, vs, e1, rfl, hm, h0', z1, z2, z3, z4⟩ := slots_rel hR1 rd q
      obtain ⟨_, g2⟩ := g1.if_
      refine ⟨p', dx, vs, rfl, .inr ⟨z1, z2⟩, ?_⟩
      cases e : F n [d] W1.ah with
      | ok r h' => rw [e] at g2; exact sp_ok (.cons rd .nil) hR1 e g2
      | exc c p h' => rw [e] at g2; exact g2.elim
      | fail => rw [e] at g2; exact g2.elim
end
end PI
set_option maxRecDepth 100000
set_option maxHeartbeats 2000000
namespace PI
open PySem L2
section
variable {Γ : Cls1} {F : Fn} {Wx : WX} {X : Cx} {a b : Expr} {ia ib : E} {es : List Expr} {is : List E} {pos : Pos}
def rObj (Γ : Cls1) (F : Fn) (c n : Nat) (ok : V → (VK) → Hp → Prop) : List V → Hp → VK → Prop := fun xs H Q => ∃ p dx vs, xs = [V.ref p] ∧ SlX.Slt H p (Γ.cO c) dx vs ∧ spF Γ F n [.ref p] H (fun r H' => ok r Q H') fun _ _ _ => False
def okLen : V → VK → Hp → Prop := fun r Q H' => ∃ i : Int, r = .int i ∧ 0 ≤ i ∧ i < 2 ^ 62 ∧ Q (.int i) H'
def okStr : V → VK → Hp → Prop := fun r Q H' => ∃ z : Str, r = .str z ∧ Q (.str z) H'
theorem callr_len (hx : Here Γ.toCls0 X) {c n : Nat} {g : Addr} (M : L2.Meth X.K (Γ.cO c) "__len__" g) (D : MDef Γ F X g n) : CallR X (.builtin "len") (rObj Γ F c n okLen) := by
  rintro pins s σ H xs us Q I r ⟨p, dx, vs, rfl, hs, q⟩
  obtain ⟨k, fd, ps, hb, hr, G⟩ := D.ex
  obtain ⟨u, rfl, ru⟩ := r.one
  obtain rfl : u = Value.ref p := ru
  obtain ⟨sl, od, _, J, _⟩ := SlX.slt_inst I hs
  obtain ⟨m, hF⟩ := I.fr
  have hr1 : Room (k + 1) X.A := Room.le (by omega) hr
  have run := FnG.value (A := X.A.in1) (E := X.xe) G hr1.in1 hx.guards hb I.env0.in1 I (.cons (relRef p) .nil) q
  refine PySem.W.len_K hF I.mod.kin J M.at_ M.fn (wpAny_mono run (fun w s' z => ?_) fun _ _ x => x)
  obtain ⟨_, H', I', rz, i, rfl, h0, h1, qz⟩ := z
  obtain ⟨t, rfl⟩ := rz
  exact ⟨⟨h0, by omega⟩, .int i, H', I'.tok _, ⟨_, rfl⟩, qz⟩
theorem callr_str (hx : Here Γ.toCls0 X) {c n : Nat} {g : Addr} (M : L2.Meth X.K (Γ.cO c) "__str__" g) (D : MDef Γ F X g n) : CallR X (.type "str") (rObj Γ F c n okStr) := by
  rintro pins s σ H xs us Q I r ⟨p, dx, vs, rfl, hs, q⟩
  obtain ⟨k, fd, ps, hb, hr, G⟩ := D.ex
  obtain ⟨u, rfl, ru⟩ := r.one
  obtain rfl : u = Value.ref p := ru
  obtain ⟨sl, od, _, J, _⟩ := SlX.slt_inst I hs
  have hu : X.A.in1.in1.units < cLine := by
    have := hx.units
    show X.A.units + 1 + 1 < _
    omega
  have run := FnG.value (A := X.A.in1.in1) (E := X.xe) G (show Room (k + 1) X.A.in1 from Room.in1 hr).in1 hx.guards hb I.env0.in1.in1 I (.cons (relRef p) .nil) q
  refine PySem.W.kso_call hu I.kIn J M.at_ M.fn (wpAny_mono run (fun w s' z => ?_) fun _ _ x => x)
  obtain ⟨_, H', I', rz, y, rfl, qz⟩ := z
  obtain ⟨t, rfl⟩ := rz
  exact ⟨.str y, H', I', ⟨_, rfl⟩, qz⟩
/-- v in o, v not in o -/
def rObjIn (Γ : Cls1) (F : Fn) (c n : Nat) (neg : Bool) : R2 := fun x y H Q => ∃ p dx vs, y = V.ref p ∧ SlX.Slt H p (Γ.cO c) dx vs ∧ spF Γ F n [.ref p, x] H (fun r H' => ∃ k, r = .bl k ∧ Q (.bl (if neg then !k else k)) H') fun _ _ _ => False
theorem opr_in (hx : Here Γ.toCls0 X) {c n : Nat} {g : Addr} (M : L2.Meth X.K (Γ.cO c) "__contains__" g) (D : MDef Γ F X g n) (neg : Bool) : OpR X (compareOp (if neg then .NotIn else .In)) (rObjIn Γ F c n neg) := by
  rintro pins s σ H x y v u Q I rx ry ⟨p, dx, vs, rfl, hs, q⟩
  obtain ⟨k, fd, ps, hb, hr, G⟩ := D.ex
  obtain rfl : u = Value.ref p := ry
  obtain ⟨sl, od, _, J, _⟩ := SlX.slt_inst I hs
  obtain ⟨m, hF⟩ := I.fr
  have hr0 : Room k X.A := Room.le (by omega) hr
  have run := FnG.value (E := X.xe) G hr0 hx.guards hb I.env0 I (.cons (relRef p) (.cons rx .nil)) q
  cases neg with
  | false =>
    refine PySem.W.in_K hF I.mod.kin J M.at_ M.fn (wpAny_mono run (fun w s' z => ?_) fun _ _ x => x)
    obtain ⟨_, H', I', rz, j, rfl, qz⟩ := z
    obtain rfl : w = Value.bool j := rz
    exact wpAny_of_eq (a := j) rfl ⟨.bl j, H', I', rfl, qz⟩
  | true =>
    refine PySem.W.notIn_K hF I.mod.kin J M.at_ M.fn (wpAny_mono run (fun w s' z => ?_) fun _ _ x => x)
    obtain ⟨_, H', I', rz, j, rfl, qz⟩ := z
    obtain rfl : w = Value.bool j := rz
    exact wpAny_of_eq (a := j) rfl ⟨.bl (!j), H', I', rfl, qz⟩
/-- the object of an own call -/
theorem own_obj {W : Wd} {H : Hp} {c n : Nat} {d : D} {v : V} {f : D → AH → Res D} {Q : VK} {E : XK} (hR : RelH Γ.toCls0 W H) (rd : RelD Γ.toCls0 W H d v) (g : GoD Γ W H (if (slotsOf c W.ah d).isSome = true then ((F n [d] W.ah).nox).bind f else .fail) Q E) :
    ∃ p dx vs, v = .ref p ∧ SlX.Slt H p (Γ.cO c) dx vs ∧ ∃ r h', F n [d] W.ah = .ok r h' ∧ GoD Γ W H (f r h') Q E := by
  cases q : slotsOf c W.ah d with
  | none => rw [q] at g; exact g.elim
  | some fs =>
    obtain ⟨_, p, dx, vs, e1, rfl, hm, h0', z1, z2, z3, z4⟩ := slots_rel hR rd q
    obtain ⟨_, g2⟩ := g.if_
    exact ⟨p, dx, vs, rfl, .inr ⟨z1, z2⟩, nox_call g2⟩
theorem s_olen (hx : Here Γ.toCls0 X) {o : ObjG} {c n : Nat} {p : Pos} (O : ObjAt Γ F X o c) (hi : (("__len__" : Str), n) ∈ o.meths) (hg : Gl X "len") (hm : X.mg "len" = none) (ha : PE X a (tE Γ F Wx ia)) (hn : noStar a = true) : PE X (.Call (.Name "len" p) [a] [] pos) (tE Γ F Wx (.own .len c n ia [])) := by
  obtain ⟨g, M, D⟩ := O.meths _ n hi
  refine peImp (pe_callB (callr_len hx M D) hg hm (by decide +kernel) (pa_cons ha pa_nil (star_cons hn)) (by decide +kernel) (by decide +kernel) (star_cons hn) rfl) fun σ H Q ⟨W, ρ, st, hR, g0⟩ => ?_
  unfold evE at g0
  refine bindE st hR g0 fun d W1 H1 v x1 hR1 st1 rd g1 => ?_
  obtain ⟨p, dx, vs, rfl, hs, r, h', e, g2⟩ := own_obj hR1 rd g1
  refine ⟨p, dx, vs, rfl, hs, sp_ok (.cons rd .nil) hR1 e ?_⟩
  cases r with
  | int i =>
    have g2 : GoD Γ W1 H1 (if (decide (0 ≤ i) && decide (i < 2 ^ 62)) = true then .ok (.int i) h' else .fail) Q (wE Wx σ) := g2
    obtain ⟨hc, g3⟩ := g2.if_
    obtain ⟨c1, c2⟩ := and2 hc
    exact fun W2 H2 v e x2 hR2 rv => ⟨i, rv.isInt, of_decide_eq_true c1, of_decide_eq_true c2, g3 W2 H2 (.int i) e x2 hR2 (.int i)⟩
  | _ => exact g2.elim
theorem s_ostr (hx : Here Γ.toCls0 X) {o : ObjG} {c n : Nat} {p : Pos} (O : ObjAt Γ F X o c) (hi : (("__str__" : Str), n) ∈ o.meths) (hg : Gl X "str") (hm : X.mg "str" = none) (ha : PE X a (tE Γ F Wx ia)) (hn : noStar a = true) : PE X (.Call (.Name "str" p) [a] [] pos) (tE Γ F Wx (.own .str c n ia [])) := by
  obtain ⟨g, M, D⟩ := O.meths _ n hi
  refine peImp (pe_callTy (callr_str hx M D) hg hm (by decide +kernel) (pa_cons ha pa_nil (star_cons hn)) (by decide +kernel) (by decide +kernel) (star_cons hn) rfl) fun σ H Q ⟨W, ρ, st, hR, g0⟩ => ?_
  unfold evE at g0
  refine bindE st hR g0 fun d W1 H1 v x1 hR1 st1 rd g1 => ?_
  obtain ⟨p, dx, vs, rfl, hs, r, h', e, g2⟩ := own_obj hR1 rd g1
  refine ⟨p, dx, vs, rfl, hs, sp_ok (.cons rd .nil) hR1 e ?_⟩
  cases r with
  | str i => exact fun W2 H2 v e x2 hR2 rv => ⟨i, rv.isStr, g2 W2 H2 (.str i) e x2 hR2 (.str i)⟩
  | _ => exact g2.elim
def ownIn (neg : Bool) (c n : Nat) (ib ia : E) : E := if neg then .own .notIn c n ib [ia] else .own .isIn c n ib [ia]
theorem own_key {c n : Nat} (neg : Bool) (ia ib : E) (σ : L2.St) (H : Hp) (Q : VK) (h : tE Γ F Wx (ownIn neg c n ib ia) σ H Q) : tE Γ F Wx ia σ H fun x H1 => tE Γ F Wx ib σ H1 fun y H2 => rObjIn Γ F c n neg x y H2 Q := by
  obtain ⟨W, ρ, st, hR, g0⟩ := h
  have key : ∀ {k : OwnK} {f : Bool → Bool}, (k = .isIn ∧ f = id) ∨ (k = .notIn ∧ f = not) → GoD Γ W H (evE F (.own k c n ib [ia]) ρ W.ah) Q (wE Wx σ) →
      GoD Γ W H ((evE F ia ρ W.ah).bind fun y h1 => (evE F ib ρ h1).bind fun x h2 => if (slotsOf c h2 x).isSome = true then ((F n [x, y] h2).nox).bind fun r h3 => (match r with
        | .bl b => .ok (.bl (f b)) h3
        | _ => .fail) else .fail) Q (wE Wx σ) := by
    rintro k f hk g
    rcases hk with ⟨rfl, rfl⟩ | ⟨rfl, rfl⟩
    all_goals
      unfold evE at g
      dsimp only at g
      unfold evEs at g
      cases q : evE F ia ρ W.ah with
      | ok y h1 =>
        rw [q] at g
        exact g
      | exc c' p' h' => rw [q] at g; exact g
      | fail => rw [q] at g; exact g
  have g1 : GoD Γ W H ((evE F ia ρ W.ah).bind fun y h1 => (evE F ib ρ h1).bind fun x h2 => if (slotsOf c h2 x).isSome = true then ((F n [x, y] h2).nox).bind fun r h3 => (match r with
        | .bl b => .ok (.bl (if neg then !b else b)) h3
        | _ => .fail) else .fail) Q (wE Wx σ) := by
    cases neg with
    | false => exact key (.inl ⟨rfl, rfl⟩) g0
    | true => exact key (.inr ⟨rfl, rfl⟩) g0
  refine bindE st hR g1 fun y W1 H1 v x1 hR1 st1 ry g2 => bindE st1 hR1 g2 fun d W2 H2 u x2 hR2 st2 rd g3 => ?_
  cases q : slotsOf c W2.ah d with
  | none => rw [q] at g3; exact g3.elim
  | some fs =>
    obtain ⟨_, p, dx, vs, e1, rfl, hm, h0', z1, z2, z3, z4⟩ := slots_rel hR2 rd q
    obtain ⟨_, g4⟩ := g3.if_
    obtain ⟨r, h', e, g5⟩ := nox_call g4
    refine ⟨p, dx, vs, rfl, .inr ⟨z1, z2⟩, sp_ok (.cons rd (.cons (ry.ext x2) .nil)) hR2 e ?_⟩
    cases r with
    | bl j => exact fun W3 H3 v e x3 hR3 rv => ⟨j, rv.isBl, g5 W3 H3 _ e x3 hR3 (.bl _)⟩
    | _ => exact g5.elim
theorem own_bl {c n : Nat} {neg : Bool} {ρ : Rho} {h h' : AH} {d : D} (e : evE F (ownIn neg c n ib ia) ρ h = .ok d h') : ∃ k, d = .bl k := by
  have fin : ∀ {f : Bool → Bool} {r : D} {h1 : AH}, (match r with
        | .bl b => Res.ok (D.bl (f b)) h1
        | _ => .fail) = .ok d h' → ∃ k, d = .bl k := by
    intro f r h1 z
    split at z
    · cases z; exact ⟨_, rfl⟩
    · cases z
  cases neg
  all_goals
    unfold ownIn at e
    simp only [Bool.false_eq_true, if_false, if_true] at e
    unfold evE at e
    dsimp only at e
    obtain ⟨xs, h1, _, e⟩ := bind_ok' e
    obtain ⟨x, h2, _, e⟩ := bind_ok' e
    obtain ⟨_, e⟩ := of_if e rfl
    obtain ⟨r, h3, _, e⟩ := bind_ok' e
  · exact fin (f := id) e
  · exact fin e
theorem s_oin (hx : Here Γ.toCls0 X) {o : ObjG} {c n : Nat} (neg : Bool) (O : ObjAt Γ F X o c) (hi : (("__contains__" : Str), n) ∈ o.meths) (ha : PE X a (tE Γ F Wx ia)) (hb : PE X b (tE Γ F Wx ib)) (hm : behindInMarks (if neg then .NotIn else .In) b = false) :
    PE X (.Compare a [if neg then .NotIn else .In] [b] pos) (tE Γ F Wx (ownIn neg c n ib ia)) := by
  obtain ⟨g, M, D⟩ := O.meths _ n hi
  exact peImp (pe_cmpR (opr_in hx M D neg) ha hb hm) fun σ H Q h => own_key neg ia ib σ H Q h
theorem t_oin (hx : Here Γ.toCls0 X) {o : ObjG} {c n : Nat} (neg : Bool) (O : ObjAt Γ F X o c) (hi : (("__contains__" : Str), n) ∈ o.meths) (ha : PE X a (tE Γ F Wx ia)) (hb : PE X b (tE Γ F Wx ib)) (hm : behindInMarks (if neg then .NotIn else .In) b = false) :
    PT X (.Compare a [if neg then .NotIn else .In] [b] pos) (tB Γ F Wx (ownIn neg c n ib ia)) := by
  obtain ⟨g, M, D⟩ := O.meths _ n hi
  exact ptImp (pt_cmpR (opr_in hx M D neg) ha hb hm) fun σ H Q h => own_key neg ia ib σ H _ (bool_test (tt := fun _ _ _ => True) (t := fun _ _ _ => True) (fun ρ h h' d e => own_bl e) h)
end
end PI
set_option maxRecDepth 100000
set_option maxHeartbeats 1000000
/-! A text and its form for the small machine: a test that they go together. -/
namespace PI
open PySem L2
/-- names of the module: its defs in order, its constants, names that it leaves to the builtins, its errors and what they keep their value under -/
structure GT where
  fns : List Str
  cst : List (Str × D)
  free : List Str
  errs : List (Str × Str) := []
  vals : List (Str × Option Str) := []
  isas : List (Str × List Nat) := []
  objs : List ObjG := []
def isLoc (sc : Scope) (x : Str) : Bool := decide (sc.names.lookup x = some .local) || decide (sc.names.lookup x = some .cell)
def isVis (sc : Scope) (x : Str) : Bool := decide (sc.names.lookup x = some .local) || (decide (sc.names.lookup x = some .cell) || decide (sc.names.lookup x = some .free))
def isGl (sc : Scope) (x : Str) : Bool := decide (sc.names.lookup x = some .globalImplicit)
def okN (x : Str) : Bool := !(x == ("__debug__" : Str)) && !(x == ("__classdict__" : Str))
def at_ (N : List Str) (i : Nat) (x : Str) : Bool := decide (N[i]? = some x)
def cstOk : Const → D → Bool
  | .none, .non => true
  | .bool b, .bl c => b == c
  | .int i, .int j => decide (i = j)
  | .str x, .str y => decide (x = y)
  | _, _ => false
def zipAll {α β : Type} (f : α → β → Bool) : List α → List β → Bool
  | [], [] => true
  | a :: x, b :: y => f a b && zipAll f x y
  | _, _ => false
def plainIx : Expr → Bool
  | .Slice _ _ _ _ => false
  | _ => true
def isSet : Expr → Bool
  | .Set _ _ _ => true
  | _ => false
def isComp : Expr → Bool
  | .ListComp _ _ _ _ => true
  | .SetComp _ _ _ _ => true
  | .DictComp _ _ _ _ _ => true
  | _ => false
def isRange (G : GT) (sc : Scope) : Expr → Bool
  | .Name x _ => decide (x = ("range" : Str)) && isGl sc "range" && G.free.any fun y => decide (y = ("range" : Str))
  | _ => false
def free_ (G : GT) (sc : Scope) (x : Str) : Bool := isGl sc x && G.free.any fun y => decide (y = x)
def optAll {α β : Type} (f : α → β → Bool) : Option α → Option β → Bool
  | none, none => true
  | some a, some b => f a b
  | _, _ => false
def tyW : Ty → Str
  | .int => "int"
  | .bool => "bool"
  | .str => "str"
  | .tuple => "tuple"
  | .list => "list"
  | .dict => "dict"
  | .cls _ => ""
  | .exc _ => ""
def plainTy : Ty → Bool
  | .cls _ => false
  | .exc _ => false
  | _ => true
/-- a class that isinstance is asked about -/
def isaOk (G : GT) (sc : Scope) (t : Ty) (T : Str) : Bool := match t with
  | .exc yes => (G.isas.any fun p => decide (p.1 = T) && decide (p.2 = yes)) && isGl sc T && okN T
  | t => plainTy t && decide (T = tyW t) && free_ G sc T
/-- class c is named x, and its errors are values that keep something, or nothing -/
def valX (G : GT) (c : Nat) (x : Str) : Bool := match G.vals[c]? with
  | some (y, some _) => decide (y = x)
  | _ => false
def valM (G : GT) (c : Nat) (x : Str) : Bool := match G.vals[c]? with
  | some (y, none) => decide (y = x)
  | _ => false
def valF (G : GT) (c : Nat) (f : Str) : Bool := match G.vals[c]? with
  | some (_, some g) => decide (g = f)
  | _ => false
/-- class c of objects: its name and __init__, a slot, a def, a property -/
def objI (G : GT) (c : Nat) (x : Str) (f : Nat) : Bool := match G.objs[c]? with
  | some o => decide (o.name = x) && decide (o.init = some f)
  | none => false
def objF (G : GT) (c i : Nat) (f : Str) : Bool := match G.objs[c]? with
  | some o => decide (o.slots[i]? = some f)
  | none => false
def objM (G : GT) (c : Nat) (m : Str) (f : Nat) : Bool := match G.objs[c]? with
  | some o => o.meths.any fun p => decide (p.1 = m) && decide (p.2 = f)
  | none => false
def objP (G : GT) (c : Nat) (m : Str) (f : Nat) : Bool := match G.objs[c]? with
  | some o => o.props.any fun p => decide (p.1 = m) && decide (p.2 = f)
  | none => false
def cstE : Expr → E → Bool
  | .Constant c _ _, .cst d => cstOk c d
  | _, _ => false
def cstK : Option Expr → E → Bool
  | some (.Constant c _ _), .cst d => cstOk c d && keyD d
  | _, _ => false
def noIs (s : List Expr) (t : List (Option Expr)) : Bool := s.isEmpty && t.isEmpty
def isSub : Expr → Bool
  | .Subscript _ _ _ => true
  | _ => false
def inBlk (sc scope : Scope) (x : Str) : Bool := decide ((relS scope sc).names.lookup x = some .local) || (decide ((relS scope sc).names.lookup x = some .cell) && decide (scope.names.lookup x = some .cell))
mutual
def chkE (G : GT) (N : List Str) : Nat → Scope → Expr → E → Bool
  | 0, _, _, _ => false
  | n + 1, sc, e, i => match i with
    | .var k => (match e with
      | .Name x _ => at_ N k x && isVis sc x && okN x
      | .BoolOp _ [a] _ => chkE G N n sc a i
      | _ => false)
    | .cst d => (match e with
      | .Constant c _ _ => cstOk c d
      | .Name x _ => (G.cst.any fun p => decide (p.1 = x) && D.same p.2 d) && isGl sc x && okN x
      | .BoolOp _ [a] _ => chkE G N n sc a i
      | _ => false)
    | .bin m o a b => (match e with
      | .BinOp l op r _ => decide (op = opPy o) && chkE G N n sc l a && chkE G N n sc r b
      | .BoolOp _ [a] _ => chkE G N n sc a i
      | _ => false)
    | .neg a => (match e with
      | .UnaryOp .USub l _ => chkE G N n sc l a
      | .BoolOp _ [a] _ => chkE G N n sc a i
      | _ => false)
    | .not a => (match e with
      | .UnaryOp .Not l _ => chkE G N n sc l a
      | .BoolOp _ [a] _ => chkE G N n sc a i
      | _ => false)
    | .and a b => (match e with
      | .BoolOp .And (l :: r :: rs) p => chkE G N n sc l a && chkE G N n sc (.BoolOp .And (r :: rs) p) b
      | .BoolOp _ [a] _ => chkE G N n sc a i
      | _ => false)
    | .or a b => (match e with
      | .BoolOp .Or (l :: r :: rs) p => chkE G N n sc l a && chkE G N n sc (.BoolOp .Or (r :: rs) p) b
      | .BoolOp _ [a] _ => chkE G N n sc a i
      | _ => false)
    | .ite c a b => (match e with
      | .IfExp t l r _ => chkT G N n sc t c && chkE G N n sc l a && chkE G N n sc r b
      | .BoolOp _ [a] _ => chkE G N n sc a i
      | _ => false)
    | .cmp o a b => (match e with
      | .Compare l [op] [r] _ => decide (op = cmpPy o) && chkE G N n sc l a && chkE G N n sc r b && !behindInMarks (cmpPy o) r
      | .BoolOp _ [a] _ => chkE G N n sc a i
      | _ => false)
    | .cmp2 o q a b c => (match e with
      | .Compare l [op, oq] [r, z] _ => decide (op = cmpPy o) && decide (oq = cmpPy q) && chkE G N n sc l a && chkE G N n sc r b && chkE G N n sc z c && !lastMarks [cmpPy o, cmpPy q] [r, z]
      | .BoolOp _ [a] _ => chkE G N n sc a i
      | _ => false)
    | .tup is => (match e with
      | .Tuple es _ _ => zipAll (chkE G N n sc) es is && es.all noStar
      | .BoolOp _ [a] _ => chkE G N n sc a i
      | _ => false)
    | .lst m is => (match e with
      | .List es _ => zipAll (chkE G N n sc) es is && es.all noStar
      | .BoolOp _ [a] _ => chkE G N n sc a i
      | _ => false)
    | .dct m ks vs => (match e, ks, vs with
      | .Dict [] [] _, [], [] => true
      | .Dict [some a] [b] _, [ia], [ib] => chkE G N n sc a ia && chkE G N n sc b ib
      | .Dict as bs _, ks, vs => zipAll cstK as ks && zipAll cstE bs vs && decide (as.length = bs.length) && decide (as.length ≤ 15) && !as.isEmpty
      | _, _, _ => false)
    | .idx a b => (match e with
      | .Subscript l r _ => chkE G N n sc l a && chkE G N n sc r b && plainIx r
      | .BoolOp _ [a] _ => chkE G N n sc a i
      | _ => false)
    | .slice m a lo hi => (match e with
      | .Subscript l (.Slice lo' hi' none _) _ => chkE G N n sc l a && optAll (chkE G N n sc) lo' lo && optAll (chkE G N n sc) hi' hi
      | .BoolOp _ [a] _ => chkE G N n sc a i
      | _ => false)
    | .call f is => (match e with
      | .Call (.Name x _) es [] _ => at_ G.fns f x && isGl sc x && okN x && zipAll (chkE G N n sc) es is && es.all noStar
      | .BoolOp _ [a] _ => chkE G N n sc a i
      | _ => false)
    | .prim m p is => (match e with
      | .Call (.Name x _) (a :: es) [] _ => decide (x = primName p) && free_ G sc x && zipAll (chkE G N n sc) (a :: es) is && (a :: es).all noStar
      | .BoolOp _ [a] _ => chkE G N n sc a i
      | _ => false)
    | .meth k io is => (match e with
      | .Call (.Attribute o at' ap) es [] pos => decide (at' = methName k) && chkE G N n sc o io && zipAll (chkE G N n sc) es is && es.all noStar && plainO o && ap.endLine == pos.line && decide (es.length < 30)
      | .BoolOp _ [a] _ => chkE G N n sc a i
      | _ => false)
    | .isi a t => (match e with
      | .Call (.Name x _) [b, .Name T _] [] _ => decide (x = ("isinstance" : Str)) && free_ G sc x && isaOk G sc t T && chkE G N n sc b a && noStar b
      | .BoolOp _ [a] _ => chkE G N n sc a i
      | _ => false)
    | .comp m k src cond elt => (match e with
      | .ListComp el [⟨.Name x _, iter, ifs, 0⟩] scope _ => chkE G N n sc iter src && !isSet iter && chkB G N n sc x k scope ifs cond el elt
      | .BoolOp _ [a] _ => chkE G N n sc a i
      | _ => false)
    | .compR m k src cond elt => (match e with
      | .ListComp el [⟨.Name x _, .Call r [iter] [] _, ifs, 0⟩] scope _ => isRange G sc r && chkE G N n sc iter src && noStar iter && chkB G N n sc x k scope ifs cond el elt
      | .BoolOp _ [a] _ => chkE G N n sc a i
      | _ => false)
    | .compR2 m k ks cond elt => (match e, ks with
      | .ListComp el [⟨.Name x _, .Call r [i1, i2] [] _, ifs, 0⟩] scope _, [ia, ib] => isRange G sc r && chkE G N n sc i1 ia && noStar i1 && chkE G N n sc i2 ib && noStar i2 && chkB G N n sc x k scope ifs cond el elt
      | _, _ => false)
    | .fld o k => false
    | .newx c ie => (match e with
      | .Call (.Name x _) [a] [] _ => valX G c x && isGl sc x && okN x && chkE G N n sc a ie && noStar a
      | _ => false)
    | .newm c ie => (match e with
      | .Call (.Name x _) [a] [] _ => valM G c x && isGl sc x && okN x && chkE G N n sc a ie && noStar a
      | _ => false)
    | .fldv o k => (match e with
      | .Attribute l f _ => valF G k f && isSub l && chkE G N n sc l o
      | _ => false)
    | .dix a b => (match e with
      | .Subscript l r _ => chkE G N n sc l a && chkE G N n sc r b && plainIx r
      | .BoolOp _ [a] _ => chkE G N n sc a i
      | _ => false)
    | .dget o k z => (match e with
      | .Call (.Attribute l at' ap) [x, y] [] pos => decide (at' = ("get" : Str)) && chkE G N n sc l o && chkE G N n sc x k && chkE G N n sc y z && plainO l && noStar x && noStar y && ap.endLine == pos.line
      | .BoolOp _ [a] _ => chkE G N n sc a i
      | _ => false)
    | .din neg k o => (match e with
      | .Compare l [op] [r] _ => decide (op = if neg then CmpOp.NotIn else CmpOp.In) && chkE G N n sc l k && chkE G N n sc r o && !behindInMarks (if neg then .NotIn else .In) r
      | .BoolOp _ [a] _ => chkE G N n sc a i
      | _ => false)
    | .ditems m o => (match e with
      | .Call (.Name x _) [.Call (.Attribute l at' ap) [] [] cp] [] _ => decide (at' = ("items" : Str)) && decide (x = ("list" : Str)) && !m && free_ G sc x && chkE G N n sc l o && plainO l && ap.endLine == cp.line
      | .BoolOp _ [a] _ => chkE G N n sc a i
      | _ => false)
    | .dclear o => (match e with
      | .Call (.Attribute l at' ap) [] [] pos => decide (at' = ("clear" : Str)) && chkE G N n sc l o && plainO l && ap.endLine == pos.line
      | .BoolOp _ [a] _ => chkE G N n sc a i
      | _ => false)
    | .dcomp m k src cond ik iv => (match e with
      | .DictComp kx vx [⟨.Name x _, iter, ifs, 0⟩] scope _ => chkE G N n sc iter src && !isSet iter && chkB G N n sc x k scope ifs cond kx ik && chkB G N n sc x k scope ifs cond vx iv
      | .BoolOp _ [a] _ => chkE G N n sc a i
      | _ => false)
    | .compI m i1 j src cond elt => (match e with
      | .ListComp el [⟨.Tuple [.Name x _, .Name y _] _ _, .Call (.Attribute l at' ap) [] [] cp, ifs, 0⟩] scope _ => decide (at' = ("items" : Str)) && chkE G N n sc l src && plainO l && ap.endLine == cp.line && chkB2 G N n sc x y i1 j scope ifs cond el elt
      | .BoolOp _ [a] _ => chkE G N n sc a i
      | _ => false)
    | .fstr is => (match e with
      | .JoinedStr (a :: b :: es) _ => zipAll (chkFm G N n sc) (a :: b :: es) is
      | .BoolOp _ [a] _ => chkE G N n sc a i
      | _ => false)
    | .rev a => (match e with
      | .Subscript l (.Slice none none (some (.UnaryOp .USub (.Constant (.int 1) _ _) _)) _) _ => chkE G N n sc l a
      | .BoolOp _ [a] _ => chkE G N n sc a i
      | _ => false)
    | .slot c o i1 => (match e with
      | .Attribute l f _ => objF G c i1 f && chkE G N n sc l o && plainO l
      | .BoolOp _ [a] _ => chkE G N n sc a i
      | _ => false)
    | .newo c f is => (match e with
      | .Call (.Name x _) (a :: es) [] _ => objI G c x f && isGl sc x && okN x && zipAll (chkE G N n sc) (a :: es) is && (a :: es).all noStar
      | .BoolOp _ [a] _ => chkE G N n sc a i
      | _ => false)
    | .own k c f o is => (match e with
      | .BoolOp _ [a] _ => chkE G N n sc a i
      | e => (match k with
      | .meth => (match e with
        | .Call (.Attribute l m ap) es [] pos => objM G c m f && chkE G N n sc l o && zipAll (chkE G N n sc) es is && es.all noStar && plainO l && ap.endLine == pos.line && decide (es.length < 30)
        | _ => false)
      | .prop => (match e, is with
        | .Attribute l m _, [] => objP G c m f && chkE G N n sc l o && plainO l
        | _, _ => false)
      | .len => (match e, is with
        | .Call (.Name x _) [l] [] _, [] => decide (x = ("len" : Str)) && objM G c "__len__" f && free_ G sc x && chkE G N n sc l o && noStar l
        | _, _ => false)
      | .str => (match e, is with
        | .Call (.Name x _) [l] [] _, [] => decide (x = ("str" : Str)) && objM G c "__str__" f && free_ G sc x && chkE G N n sc l o && noStar l
        | _, _ => false)
      | .isIn => (match e, is with
        | .Compare l [op] [r] _, [iv] => decide (op = CmpOp.In) && objM G c "__contains__" f && chkE G N n sc l iv && chkE G N n sc r o && !behindInMarks .In r
        | _, _ => false)
      | .notIn => (match e, is with
        | .Compare l [op] [r] _, [iv] => decide (op = CmpOp.NotIn) && objM G c "__contains__" f && chkE G N n sc l iv && chkE G N n sc r o && !behindInMarks .NotIn r
        | _, _ => false)))
/-- a part of a formatted text -/
def chkFm (G : GT) (N : List Str) : Nat → Scope → Expr → E → Bool
  | 0, _, _, _ => false
  | n + 1, sc, e, i => match e with
    | .FormattedValue v conv none _ => decide (conv = -1) && chkE G N n sc v i
    | .Constant (.str s) _ _ => (match i with
      | .cst (.str z) => decide (s = z)
      | _ => false)
    | _ => false
def chkB2 (G : GT) (N : List Str) : Nat → Scope → Str → Str → Nat → Nat → Scope → List Expr → Option E → Expr → E → Bool
  | 0, _, _, _, _, _, _, _, _, _, _ => false
  | n + 1, sc, x, y, i, j, scope, ifs, cond, el, elt => blkC N sc scope [(x, i), (y, j)] && at_ N i x && at_ N j y && decide (i ≠ j) && inBlk sc scope x && inBlk sc scope y && chkE G N n (relS scope sc) el elt &&
      (match ifs, cond with
      | [], none => true
      | [c], some ic => chkT G N n (relS scope sc) c ic
      | _, _ => false)
def chkB (G : GT) (N : List Str) : Nat → Scope → Str → Nat → Scope → List Expr → Option E → Expr → E → Bool
  | 0, _, _, _, _, _, _, _, _ => false
  | n + 1, sc, x, k, scope, ifs, cond, el, elt => blkC N sc scope [(x, k)] && at_ N k x && (decide ((relS scope sc).names.lookup x = some .local) || (decide ((relS scope sc).names.lookup x = some .cell) && decide (scope.names.lookup x = some .cell))) && chkE G N n (relS scope sc) el elt &&
      (match ifs, cond with
      | [], none => true
      | [c], some ic => chkT G N n (relS scope sc) c ic
      | _, _ => false)
def chkT (G : GT) (N : List Str) : Nat → Scope → Expr → E → Bool
  | 0, _, _, _ => false
  | n + 1, sc, e, i => match e with
    | .BoolOp .And (l :: r :: rs) p => (match i with
      | .and a b => chkT G N n sc l a && chkT G N n sc (.BoolOp .And (r :: rs) p) b
      | _ => false)
    | .BoolOp .Or (l :: r :: rs) p => (match i with
      | .or a b => chkT G N n sc l a && chkT G N n sc (.BoolOp .Or (r :: rs) p) b
      | _ => false)
    | .BoolOp _ [a] _ => chkT G N n sc a i
    | .UnaryOp .Not l _ => (match i with
      | .not a => chkT G N n sc l a
      | _ => false)
    | .Compare l [op] [r] _ => (match i with
      | .cmp o a b => decide (op = cmpPy o) && chkE G N n sc l a && chkE G N n sc r b && !behindInMarks (cmpPy o) r
      | .din neg k o => decide (op = if neg then CmpOp.NotIn else CmpOp.In) && chkE G N n sc l k && chkE G N n sc r o && !behindInMarks (if neg then .NotIn else .In) r
      | .own .isIn c f o [iv] => decide (op = CmpOp.In) && objM G c "__contains__" f && chkE G N n sc l iv && chkE G N n sc r o && !behindInMarks .In r
      | .own .notIn c f o [iv] => decide (op = CmpOp.NotIn) && objM G c "__contains__" f && chkE G N n sc l iv && chkE G N n sc r o && !behindInMarks .NotIn r
      | _ => false)
    | .Compare l [op, oq] [r, z] _ => (match i with
      | .cmp2 o q a b c => decide (op = cmpPy o) && decide (oq = cmpPy q) && chkE G N n sc l a && chkE G N n sc r b && chkE G N n sc z c && !lastMarks [cmpPy o, cmpPy q] [r, z]
      | _ => false)
    | e => plainT e && chkE G N n sc e i
end
end PI
set_option maxRecDepth 100000
set_option maxHeartbeats 1000000
/-! .. and what the test means. -/
namespace PI
open PySem L2
/-- where a text stands -/
structure Amb (Γ : Cls1) (F : Fn) (G : GT) (N : List Str) (sc : Scope) (Wx : WX) (X : Cx) : Prop where
  here : Here Γ.toCls0 X
  eN : X.N = N
  eS : X.env.scope = sc
  nd : N.Nodup
  tk : Takes X Wx
  fns : ∀ (n : Nat) (x : Str), G.fns[n]? = some x → Def Γ F X x n
  cst : ∀ (x : Str) (d : D), (x, d) ∈ G.cst → ∃ (v : V) (u : Value), X.mg x = some u ∧ RelV v u ∧ ∀ W H, RelD Γ.toCls0 W H d v
  free : ∀ x ∈ G.free, X.mg x = none
  vals : ∀ (c : Nat) (x : Str) (f : Option Str), G.vals[c]? = some (x, f) → ValAt Γ X x f c
  isas : ∀ p ∈ G.isas, IsaAt Γ X p.1 p.2
  objs : ∀ (c : Nat) (o : ObjG), G.objs[c]? = some o → ObjAt Γ F X o c
  dep0 : X.A.depth + 1 < recursionLimit
section
variable {Γ : Cls1} {F : Fn} {G : GT} {N : List Str} {sc : Scope} {Wx : WX} {X : Cx}
theorem Amb.blk (h : Amb Γ F G N sc Wx X) (s : Shared) (H : Hp) (C : Addr) (cl : List (Str × Addr)) (fp : List Addr) (scope : Scope) : Amb Γ F G N (relS scope sc) noW (X.blk s H scope (compEnvC scope cl C X.env) fp) where
  here := ⟨h.here.K, h.here.calm, h.here.units, h.here.guards, h.here.sys⟩
  eN := h.eN
  eS := by rw [← h.eS]; rfl
  nd := h.nd
  tk := takes0
  fns := fun n x e => ⟨(h.fns n x e).ex⟩
  cst := h.cst
  free := h.free
  vals := fun c x f e => (h.vals c x f e).to
  isas := fun p hp => (h.isas p hp).to
  objs := fun c o e => (h.objs c o e).to rfl rfl rfl rfl rfl rfl
  dep0 := h.dep0
theorem isGl_ok (h : Amb Γ F G N sc Wx X) {x : Str} (c : isGl sc x = true) : Gl X x := by
  show X.env.scope.names.lookup x = _
  rw [h.eS]
  exact of_decide_eq_true c
theorem free_ok (h : Amb Γ F G N sc Wx X) {x : Str} (c : free_ G sc x = true) : Gl X x ∧ X.mg x = none := by
  unfold free_ at c
  obtain ⟨c1, c2⟩ := and2 c
  obtain ⟨y, hy, e⟩ := List.any_eq_true.mp c2
  have e := of_decide_eq_true e
  subst e
  exact ⟨isGl_ok h c1, h.free y hy⟩
theorem okN1 {x : Str} (c : okN x = true) : (x == ("__debug__" : Str)) = false ∧ (x == ("__classdict__" : Str)) = false := by
  unfold okN at c
  simp only [Bool.and_eq_true, Bool.not_eq_true'] at c
  exact c
theorem isVis_ok (h : Amb Γ F G N sc Wx X) {x : Str} (c : isVis sc x = true) : Vis X.env.scope x := by
  rw [h.eS]
  unfold isVis at c
  simp only [Bool.or_eq_true, decide_eq_true_eq] at c
  exact c
theorem isLoc_ok {x : Str} (h : X.env.scope = sc) (c : isLoc sc x = true) : Loc X.env.scope x := by
  rw [h]
  unfold isLoc at c
  simp only [Bool.or_eq_true, decide_eq_true_eq] at c
  exact c
theorem at_ok (h : Amb Γ F G N sc Wx X) {x : Str} {i : Nat} (c : at_ N i x = true) : X.N[i]? = some x := by
  rw [h.eN]
  exact of_decide_eq_true c
theorem cst_ok {c : Const} {d : D} {j : Nat} {pos : Pos} (h : cstOk c d = true) : ∃ v, PE X (.Constant c j pos) (tC v) ∧ (∀ W H, RelD Γ.toCls0 W H d v) := by
  cases c <;> cases d <;> simp only [cstOk, Bool.false_eq_true, decide_eq_true_eq, beq_iff_eq] at h
  · exact ⟨_, pe_non, fun _ _ => .non⟩
  · subst h; exact ⟨_, pe_bl, fun _ _ => .bl _⟩
  · subst h; exact ⟨_, pe_int, fun _ _ => .int _⟩
  · subst h; exact ⟨_, pe_str, fun _ _ => .str _⟩
/-- a dict of constants -/
theorem cst_pps {pos : Pos} : ∀ {as : List (Option Expr)} {bs : List Expr} {ks vs : List E}, zipAll cstK as ks = true → zipAll cstE bs vs = true → as.length = bs.length → ∃ (trs : List (TE × TE)) (us : List (Key × V)) (ds es : List D) (kvs : List (D × D)), PPs X pos as bs trs ∧ as.all (·.isSome) = true ∧
    (∀ σ H Q, Q (us.map fun kv => (kV kv.1, kv.2)) H → tPairs trs σ H Q) ∧ us.length = as.length ∧ (∀ ρ h, evEs F ks ρ h = .ok ds h) ∧ (∀ ρ h, evEs F vs ρ h = .ok es h) ∧ ds.all keyD = true ∧ zipD ds es = some kvs ∧ ∀ W H, RelKs Γ.toCls0 W H kvs us
  | [], [], [], [], _, _, _ => ⟨[], [], [], [], [], pps_nil, rfl, fun _ _ _ h => h, rfl, fun _ _ => rfl, fun _ _ => rfl, rfl, rfl, fun _ _ => .nil⟩
  | a :: as, b :: bs, k :: ks, v :: vs, h1, h2, h3 => by
    obtain ⟨a1, a2⟩ := and2 h1
    obtain ⟨b1, b2⟩ := and2 h2
    obtain ⟨trs, us, ds, es, kvs, p1, p2, p3, p4, p5, p6, p7, p8, p9⟩ := cst_pps a2 b2 (by simpa using h3)
    unfold cstK at a1
    split at a1
    · rename_i c j p d
      obtain ⟨a1, hk⟩ := and2 a1
      unfold cstE at b1
      split at b1
      · rename_i c' j' p' d'
        obtain ⟨x, x1, x2⟩ := cst_ok (Γ := Γ) (X := X) (j := j) (pos := p) a1
        obtain ⟨y, y1, y2⟩ := cst_ok (Γ := Γ) (X := X) (j := j') (pos := p') b1
        obtain ⟨κ, hκ⟩ := keyD_ok hk
        have ex := key_rel (x2 ⟨[], [], fun _ => False⟩ fun _ => none) hκ
        subst ex
        refine ⟨(tC (kV κ), tC y) :: trs, (κ, y) :: us, d :: ds, d' :: es, (d, d') :: kvs, pps_cons x1 y1 p1, ?_, fun σ H Q q => ?_, congrArg Nat.succ p4, fun ρ h => ?_, fun ρ h => ?_, ?_, ?_, fun W H => .cons hκ (y2 W H) (p9 W H)⟩
        · rw [List.all_cons, p2]; rfl
        · exact p3 σ H _ q
        · unfold evEs evE; rw [Res.bind, p5]; rfl
        · unfold evEs evE; rw [Res.bind, p6]; rfl
        · rw [List.all_cons, p7, hk]; rfl
        · unfold zipD; rw [p8]; rfl
      · cases b1
    · cases a1
  | [], [], [], _ :: _, _, h, _ => by cases h
  | [], [], _ :: _, _, h, _, _ => by cases h
  | [], _ :: _, _, _, _, _, h => by cases h
  | _ :: _, [], _, _, _, _, h => by cases h
  | _ :: _, _ :: _, [], _, h, _, _ => by cases h
  | _ :: _, _ :: _, _ :: _, [], _, h, _ => by cases h
theorem s_dctK (m : Bool) {pos : Pos} {as : List (Option Expr)} {bs : List Expr} {ks vs : List E} (h1 : zipAll cstK as ks = true) (h2 : zipAll cstE bs vs = true) (h3 : as.length = bs.length) (h4 : as.length ≤ 15) (h5 : as ≠ []) : PE X (.Dict as bs pos) (tE Γ F Wx (.dct m ks vs)) := by
  obtain ⟨trs, us, ds, es, kvs, p1, p2, p3, p4, p5, p6, p7, p8, p9⟩ := cst_pps (Γ := Γ) (F := F) (X := X) (pos := pos) h1 h2 h3
  refine peImp (pe_frz (pe_disp p1 p2 h3 h5 h4)) fun σ H Q ⟨W, ρ, st, hR, g⟩ => ?_
  unfold evE at g
  rw [p5] at g
  have g : GoD Γ W H (((evEs F vs ρ W.ah).nox).bind fun ys h2 => if ds.all keyD = true then (Res.of (zipD ds ys) h2).bind fun kvs h3 => mkD m (mergeD [] kvs) h3 else .fail) Q (wE Wx σ) := g
  rw [p6] at g
  have g : GoD Γ W H (if ds.all keyD = true then (Res.of (zipD ds es) W.ah).bind fun kvs h3 => mkD m (mergeD [] kvs) h3 else .fail) Q (wE Wx σ) := g
  obtain ⟨_, g⟩ := g.if_
  rw [p8] at g
  have g : GoD Γ W H (mkD m (mergeD [] kvs) W.ah) Q (wE Wx σ) := g
  intro p hp
  refine p3 _ _ _ ⟨upd_same, us, rfl, by rw [p4]; exact h4, ?_⟩
  rw [upd_upd]
  exact mkD_rel hR (merge_rel (p9 _ _) .nil) g p hp
theorem plainIx_ok {b : Expr} (h : plainIx b = true) : PlainIx b := by
  cases b <;> first | exact fun _ _ => rfl | cases h
theorem notSet_ok {e : Expr} {env : Env} (h : (!isSet e) = true) (x : Value) : foldedSetIterable e env x = pure x := by
  cases e <;> first | rfl | cases h
theorem zipAll_len {α β : Type} {f : α → β → Bool} : ∀ {a : List α} {b : List β}, zipAll f a b = true → (a = [] ↔ b = [])
  | [], [], _ => ⟨fun _ => rfl, fun _ => rfl⟩
  | _ :: _, _ :: _, _ => ⟨fun h => (by cases h), fun h => (by cases h)⟩
  | [], _ :: _, h => by cases h
  | _ :: _, [], h => by cases h
theorem zipAll_pa {f : Expr → E → Bool} (hf : ∀ e i, f e i = true → PE X e (tE Γ F Wx i)) : ∀ {es : List Expr} {is : List E}, zipAll f es is = true → es.all noStar = true → PA X es (tEs Γ F Wx is)
  | [], [], _, _ => s_nil
  | e :: es, i :: is, h, hn => by
    obtain ⟨h1, h2⟩ := and2 h
    rw [List.all_cons] at hn
    obtain ⟨n1, n2⟩ := and2 hn
    exact s_cons (hf e i h1) (zipAll_pa hf h2 n2) (star_cons n1)
  | [], _ :: _, h, _ => by cases h
  | _ :: _, [], h, _ => by cases h
theorem primFree {p : Prim} {x : Str} (h : x = primName p) (c : free_ G sc x = true) : free_ G sc (primName p) = true := h ▸ c
theorem tyW_ok {t : Ty} (h : plainTy t = true) : bootBuiltins (tyW t) = some (.type (tyN t)) ∧ tyW t ≠ "__name__" ∧ (tyW t == ("__debug__" : Str)) = false := by
  cases t <;> first | (exfalso; exact Bool.false_ne_true h) | exact ⟨by decide +kernel, by decide +kernel, by decide +kernel⟩
end
end PI
set_option maxRecDepth 100000
set_option maxHeartbeats 4000000
namespace PI
open PySem L2
section
variable {Γ : Cls1} {F : Fn} {G : GT} {N : List Str}
def isBool : Expr → Bool
  | .BoolOp _ _ _ => true
  | _ => false
abbrev OkE (Γ : Cls1) (F : Fn) (G : GT) (N : List Str) (n : Nat) : Prop := ∀ (sc : Scope) (Wx : WX) (X : Cx), Amb Γ F G N sc Wx X → ∀ (e : Expr) (i : E), chkE G N n sc e i = true → PE X e (tE Γ F Wx i)
abbrev OkT (Γ : Cls1) (F : Fn) (G : GT) (N : List Str) (n : Nat) : Prop := ∀ (sc : Scope) (Wx : WX) (X : Cx), Amb Γ F G N sc Wx X → ∀ (e : Expr) (i : E), chkT G N n sc e i = true → PT X e (tB Γ F Wx i) ∧ (isBool e = true → PW X e (tB Γ F Wx i))
/-- a row's block -/
structure BlkOkS (Γ : Cls1) (F : Fn) (N : List Str) (X : Cx) (tg : Expr) (x : Str) (k : Nat) (scope : Scope) (ifs : List Expr) (cond : Option E) (el : Expr) (elt : E) : Prop where
  ok : BlkOk X.N X.env.scope scope [(x, k)]
  hg : ∀ (s : Shared) (H : Hp) (C : Addr) (cl : List (Str × Addr)) (fp : List Addr), PG (X.blk s H scope (compEnvC scope cl C X.env) fp) tg (gName k)
  ht : ∀ (s : Shared) (H : Hp) (C : Addr) (cl : List (Str × Addr)) (fp : List Addr), PTs (X.blk s H scope (compEnvC scope cl C X.env) fp) ifs (tC1 Γ F noW cond)
  he : ∀ (s : Shared) (H : Hp) (C : Addr) (cl : List (Str × Addr)) (fp : List Addr), PE (X.blk s H scope (compEnvC scope cl C X.env) fp) el (tE Γ F noW elt)
abbrev OkB (Γ : Cls1) (F : Fn) (G : GT) (N : List Str) (n : Nat) : Prop := ∀ (sc : Scope) (Wx : WX) (X : Cx), Amb Γ F G N sc Wx X → ∀ (x : Str) (p : Pos) (k : Nat) (scope : Scope) (ifs : List Expr) (cond : Option E) (el : Expr) (elt : E), chkB G N n sc x k scope ifs cond el elt = true → BlkOkS Γ F N X (.Name x p) x k scope ifs cond el elt
theorem stepB {n : Nat} (hE : OkE Γ F G N n) (hT : OkT Γ F G N n) : OkB Γ F G N (n + 1) := by
  intro sc Wx X A x p k scope ifs cond el elt h
  unfold chkB at h
  obtain ⟨h, h5⟩ := and2 h
  obtain ⟨h, h4⟩ := and2 h
  obtain ⟨h, h3⟩ := and2 h
  obtain ⟨h1, h2⟩ := and2 h
  refine ⟨by rw [A.eN, A.eS]; exact blkOk_by h1, fun s H C cl fp => ?_, fun s H C cl fp => ?_, fun s H C cl fp => ?_⟩
  · have B := A.blk s H C cl fp scope
    have ei : (X.blk s H scope (compEnvC scope cl C X.env) fp).N[k]? = some x := at_ok B h2
    simp only [Bool.or_eq_true, Bool.and_eq_true, decide_eq_true_eq] at h3
    refine pg_name (by rw [B.eN]; exact B.nd) ei ?_ ?_
    · show Loc (X.blk s H scope (compEnvC scope cl C X.env) fp).env.scope x
      rw [B.eS]
      rcases h3 with h3 | ⟨h3, _⟩
      · exact .inl h3
      · exact .inr h3
    · rcases h3 with h3 | ⟨_, h3⟩
      · refine .inr ?_
        rw [B.eS]
        exact h3
      · refine .inl ?_
        show (scope.names.lookup x == some .cell) = true
        rw [h3]
        rfl
  · have B := A.blk s H C cl fp scope
    split at h5
    · exact ts_nil
    · exact ts_one (hT _ _ _ B _ _ h5).1
    · cases h5
  · exact hE _ _ _ (A.blk s H C cl fp scope) _ _ h4
abbrev OkB2 (Γ : Cls1) (F : Fn) (G : GT) (N : List Str) (n : Nat) : Prop := ∀ (sc : Scope) (Wx : WX) (X : Cx), Amb Γ F G N sc Wx X → ∀ (x y : Str) (p q r : Pos) (kk i j : Nat) (scope : Scope) (ifs : List Expr) (cond : Option E) (el : Expr) (elt : E), chkB2 G N n sc x y i j scope ifs cond el elt = true → i ≠ j ∧ BlkOk X.N X.env.scope scope [(x, i), (y, j)] ∧
  (∀ (s : Shared) (H : Hp) (C : Addr) (cl : List (Str × Addr)) (fp : List Addr), PG (X.blk s H scope (compEnvC scope cl C X.env) fp) (.Tuple [.Name x p, .Name y q] kk r) (gTup X.K 2 (gCons (gName i) (gCons (gName j) gNil)))) ∧
  (∀ (s : Shared) (H : Hp) (C : Addr) (cl : List (Str × Addr)) (fp : List Addr), PTs (X.blk s H scope (compEnvC scope cl C X.env) fp) ifs (tC1 Γ F noW cond)) ∧ (∀ (s : Shared) (H : Hp) (C : Addr) (cl : List (Str × Addr)) (fp : List Addr), PE (X.blk s H scope (compEnvC scope cl C X.env) fp) el (tE Γ F noW elt))
theorem in_blk {sc scope : Scope} {X : Cx} {s : Shared} {H : Hp} {C : Addr} {cl : List (Str × Addr)} {fp : List Addr} {x : Str} {p : Pos} {k : Nat} (B : Amb Γ F G N (relS scope sc) noW (X.blk s H scope (compEnvC scope cl C X.env) fp)) (h2 : at_ N k x = true) (h3 : inBlk sc scope x = true) : PG (X.blk s H scope (compEnvC scope cl C X.env) fp) (.Name x p) (gName k) := by
  have ei : (X.blk s H scope (compEnvC scope cl C X.env) fp).N[k]? = some x := at_ok B h2
  unfold inBlk at h3
  simp only [Bool.or_eq_true, Bool.and_eq_true, decide_eq_true_eq] at h3
  refine pg_name (by rw [B.eN]; exact B.nd) ei ?_ ?_
  · show Loc (X.blk s H scope (compEnvC scope cl C X.env) fp).env.scope x
    rw [B.eS]
    rcases h3 with h3 | ⟨h3, _⟩
    · exact .inl h3
    · exact .inr h3
  · rcases h3 with h3 | ⟨_, h3⟩
    · refine .inr ?_
      rw [B.eS]
      exact h3
    · refine .inl ?_
      show (scope.names.lookup x == some .cell) = true
      rw [h3]
      rfl
theorem stepB2 {n : Nat} (hE : OkE Γ F G N n) (hT : OkT Γ F G N n) : OkB2 Γ F G N (n + 1) := by
  intro sc Wx X A x y p q r kk i j scope ifs cond el elt h
  unfold chkB2 at h
  obtain ⟨h, h8⟩ := and2 h
  obtain ⟨h, h7⟩ := and2 h
  obtain ⟨h, h6⟩ := and2 h
  obtain ⟨h, h5⟩ := and2 h
  obtain ⟨h, h4⟩ := and2 h
  obtain ⟨h, h3⟩ := and2 h
  obtain ⟨h1, h2⟩ := and2 h
  refine ⟨of_decide_eq_true h4, by rw [A.eN, A.eS]; exact blkOk_by h1, fun s H C cl fp => ?_, fun s H C cl fp => ?_, fun s H C cl fp => ?_⟩
  · have B := A.blk s H C cl fp scope
    exact pg_tup A.here.calm (pgs_cons (in_blk B h2 h5) (pgs_cons (in_blk B h3 h6) pgs_nil rfl) rfl) rfl rfl
  · have B := A.blk s H C cl fp scope
    split at h8
    · exact ts_nil
    · exact ts_one (hT _ _ _ B _ _ h8).1
    · cases h8
  · exact hE _ _ _ (A.blk s H C cl fp scope) _ _ h7
abbrev OkFm (Γ : Cls1) (F : Fn) (G : GT) (N : List Str) (n : Nat) : Prop := ∀ (sc : Scope) (Wx : WX) (X : Cx), Amb Γ F G N sc Wx X → ∀ (e : Expr) (i : E), chkFm G N n sc e i = true → PE X e (tFm Γ F Wx i)
theorem stepFm {n : Nat} (hE : OkE Γ F G N n) : OkFm Γ F G N (n + 1) := by
  intro sc Wx X A e i h
  unfold chkFm at h
  split at h
  · obtain ⟨h1, h2⟩ := and2 h
    have e1 := of_decide_eq_true h1
    subst e1
    exact fm_val (hE sc Wx X A _ _ h2)
  · split at h
    · have e1 := of_decide_eq_true h
      subst e1
      exact fm_cst
    · cases h
  · cases h
theorem zipFm {X : Cx} {Wx : WX} {f : Expr → E → Bool} (hf : ∀ e i, f e i = true → PE X e (tFm Γ F Wx i)) : ∀ {es : List Expr} {is : List E}, zipAll f es is = true → FJ Γ F Wx X es is
  | [], [], _ => .nil
  | e :: es, i :: is, h => .cons (hf e i (and2 h).1) (zipFm hf (and2 h).2)
  | [], _ :: _, h => by cases h
  | _ :: _, [], h => by cases h
theorem objI_ok {sc : Scope} {Wx : WX} {X : Cx} (A : Amb Γ F G N sc Wx X) {c f : Nat} {x : Str} (h : objI G c x f = true) : ∃ o, ObjAt Γ F X o c ∧ o.name = x ∧ o.init = some f := by
  unfold objI at h
  split at h
  · rename_i o e
    obtain ⟨h1, h2⟩ := and2 h
    exact ⟨o, A.objs _ _ e, of_decide_eq_true h1, of_decide_eq_true h2⟩
  · cases h
theorem objF_ok {sc : Scope} {Wx : WX} {X : Cx} (A : Amb Γ F G N sc Wx X) {c i : Nat} {f : Str} (h : objF G c i f = true) : ∃ o, ObjAt Γ F X o c ∧ o.slots[i]? = some f := by
  unfold objF at h
  split at h
  · rename_i o e
    exact ⟨o, A.objs _ _ e, of_decide_eq_true h⟩
  · cases h
theorem objM_ok {sc : Scope} {Wx : WX} {X : Cx} (A : Amb Γ F G N sc Wx X) {c f : Nat} {m : Str} (h : objM G c m f = true) : ∃ o, ObjAt Γ F X o c ∧ (m, f) ∈ o.meths := by
  unfold objM at h
  split at h
  · rename_i o e
    obtain ⟨⟨a, b⟩, hy, q⟩ := List.any_eq_true.mp h
    obtain ⟨h1, h2⟩ := and2 q
    have h1 : a = m := of_decide_eq_true h1
    have h2 : b = f := of_decide_eq_true h2
    subst h1 h2
    exact ⟨o, A.objs _ _ e, hy⟩
  · cases h
theorem objP_ok {sc : Scope} {Wx : WX} {X : Cx} (A : Amb Γ F G N sc Wx X) {c f : Nat} {m : Str} (h : objP G c m f = true) : ∃ o, ObjAt Γ F X o c ∧ (m, f) ∈ o.props := by
  unfold objP at h
  split at h
  · rename_i o e
    obtain ⟨⟨a, b⟩, hy, q⟩ := List.any_eq_true.mp h
    obtain ⟨h1, h2⟩ := and2 q
    have h1 : a = m := of_decide_eq_true h1
    have h2 : b = f := of_decide_eq_true h2
    subst h1 h2
    exact ⟨o, A.objs _ _ e, hy⟩
  · cases h
theorem zipOpt {X : Cx} {Wx : WX} {f : Expr → E → Bool} (hf : ∀ e i, f e i = true → PE X e (tE Γ F Wx i)) : ∀ {a : Option Expr} {b : Option E}, optAll f a b = true → PO X a (tO Γ F Wx b)
  | none, none, _ => s_po_none
  | some a, some b, h => s_po (hf a b h)
  | none, some _, h => by cases h
  | some _, none, h => by cases h
theorem range_ok {sc : Scope} {Wx : WX} {X : Cx} (A : Amb Γ F G N sc Wx X) {r : Expr} (h : isRange G sc r = true) : ∃ p, r = .Name "range" p ∧ Gl X "range" ∧ X.mg "range" = none := by
  unfold isRange at h
  split at h
  · rename_i x p
    obtain ⟨h, h3⟩ := and2 h
    obtain ⟨h1, h2⟩ := and2 h
    have e := of_decide_eq_true h1
    subst e
    obtain ⟨y, hy, e⟩ := List.any_eq_true.mp h3
    have e := of_decide_eq_true e
    subst e
    exact ⟨p, rfl, isGl_ok A h2, A.free _ hy⟩
  · cases h
theorem notb {b : Bool} (h : (!b) = true) : b = false := by
  cases b
  · rfl
  · cases h
theorem isa_cases {sc : Scope} {Wx : WX} {X : Cx} (A : Amb Γ F G N sc Wx X) {t : Ty} {T : Str} (h : isaOk G sc t T = true) : (∃ yes, t = .exc yes ∧ IsaAt Γ X T yes ∧ Gl X T ∧ (T == ("__debug__" : Str)) = false) ∨ ((∀ y, t ≠ .exc y) ∧ T = tyW t ∧ plainTy t = true ∧ free_ G sc (tyW t) = true) := by
  unfold isaOk at h
  split at h
  · rename_i yes
    obtain ⟨h, h3⟩ := and2 h
    obtain ⟨h1, h2⟩ := and2 h
    obtain ⟨p, hp, e⟩ := List.any_eq_true.mp h1
    obtain ⟨e1, e2⟩ := and2 e
    have e1 := of_decide_eq_true e1
    have e2 := of_decide_eq_true e2
    subst e1 e2
    exact .inl ⟨_, rfl, A.isas p hp, isGl_ok A h2, (okN1 h3).1⟩
  · rename_i hne
    obtain ⟨h, h3⟩ := and2 h
    obtain ⟨h1, h2⟩ := and2 h
    have e := of_decide_eq_true h2
    subst e
    exact .inr ⟨fun y z => hne y z, rfl, h1, h3⟩
theorem valX_ok {sc : Scope} {Wx : WX} {X : Cx} (A : Amb Γ F G N sc Wx X) {c : Nat} {x : Str} (h : valX G c x = true) : ∃ f, ValAt Γ X x (some f) c := by
  unfold valX at h
  split at h
  · rename_i y f e
    have := of_decide_eq_true h
    subst this
    exact ⟨f, A.vals _ _ _ e⟩
  · cases h
theorem valM_ok {sc : Scope} {Wx : WX} {X : Cx} (A : Amb Γ F G N sc Wx X) {c : Nat} {x : Str} (h : valM G c x = true) : ValAt Γ X x none c := by
  unfold valM at h
  split at h
  · rename_i y e
    have := of_decide_eq_true h
    subst this
    exact A.vals _ _ _ e
  · cases h
theorem valF_ok {sc : Scope} {Wx : WX} {X : Cx} (A : Amb Γ F G N sc Wx X) {c : Nat} {f : Str} (h : valF G c f = true) : ∃ x, ValAt Γ X x (some f) c := by
  unfold valF at h
  split at h
  · rename_i y g e
    have := of_decide_eq_true h
    subst this
    exact ⟨y, A.vals _ _ _ e⟩
  · cases h
theorem isSub_base {o : Expr} {env : Env} {f : Str} {w : Sem Value} (h : isSub o = true) : attributeBase o f env w = w := by
  cases o <;> first | rfl | (exfalso; exact Bool.false_ne_true h)
theorem stepE {n : Nat} (hE : OkE Γ F G N n) (hT : OkT Γ F G N n) (hB : OkB Γ F G N n) (hB2 : OkB2 Γ F G N n) (hFm : OkFm Γ F G N n) : OkE Γ F G N (n + 1) := by
  intro sc Wx X A e i h
  have hx := A.here
  have one : ∀ {op : BoolOp} {a : Expr} {p : Pos} {j : E}, chkE G N n sc a j = true → PE X (.BoolOp op [a] p) (tE Γ F Wx j) := fun h => s_one (hE sc Wx X A _ _ h)
  have E1 : ∀ e i, chkE G N n sc e i = true → PE X e (tE Γ F Wx i) := hE sc Wx X A
  have hN : X.N.Nodup := by rw [A.eN]; exact A.nd
  cases i <;> unfold chkE at h <;> dsimp only at h
  case var k =>
    split at h
    · obtain ⟨h, h3⟩ := and2 h
      obtain ⟨h1, h2⟩ := and2 h
      exact s_var (at_ok A h1) (isVis_ok A h2) (okN1 h3).1 (okN1 h3).2
    · exact one h
    · cases h
  case cst d =>
    split at h
    · obtain ⟨v, h1, h2⟩ := cst_ok (Γ := Γ) (X := X) h
      exact s_lit h1 h2
    · obtain ⟨h, h3⟩ := and2 h
      obtain ⟨h1, h2⟩ := and2 h
      obtain ⟨⟨y, d'⟩, hy, q⟩ := List.any_eq_true.mp h1
      obtain ⟨q1, q2⟩ := and2 q
      have e1 := of_decide_eq_true q1
      have e2 := D.same_eq _ _ q2
      have e1 : y = _ := e1
      have e2 : d' = d := e2
      subst e1 e2
      obtain ⟨v, u, m1, m2, m3⟩ := A.cst _ _ hy
      exact s_lit (pe_glob (isGl_ok A h2) m1 m2 (okN1 h3).1) m3
    · exact one h
    · cases h
  case bin m o a b =>
    split at h
    · obtain ⟨h, h3⟩ := and2 h
      obtain ⟨h1, h2⟩ := and2 h
      have e := of_decide_eq_true h1
      subst e
      exact s_bin hx m o (E1 _ _ h2) (E1 _ _ h3)
    · exact one h
    · cases h
  case neg a =>
    split at h
    · exact s_neg (E1 _ _ h)
    · exact one h
    · cases h
  case not a =>
    split at h
    · exact s_not (E1 _ _ h)
    · exact one h
    · cases h
  case and a b =>
    split at h
    · obtain ⟨h1, h2⟩ := and2 h
      exact s_and (E1 _ _ h1) (E1 _ _ h2)
    · exact one h
    · cases h
  case or a b =>
    split at h
    · obtain ⟨h1, h2⟩ := and2 h
      exact s_or (E1 _ _ h1) (E1 _ _ h2)
    · exact one h
    · cases h
  case ite c a b =>
    split at h
    · obtain ⟨h, h3⟩ := and2 h
      obtain ⟨h1, h2⟩ := and2 h
      exact s_ite (hT sc Wx X A _ _ h1).1 (E1 _ _ h2) (E1 _ _ h3)
    · exact one h
    · cases h
  case cmp o a b =>
    split at h
    · obtain ⟨h, h4⟩ := and2 h
      obtain ⟨h, h3⟩ := and2 h
      obtain ⟨h1, h2⟩ := and2 h
      have e := of_decide_eq_true h1
      subst e
      exact s_cmp hx o (E1 _ _ h2) (E1 _ _ h3) (notb h4)
    · exact one h
    · cases h
  case cmp2 o q a b c =>
    split at h
    · obtain ⟨h, h6⟩ := and2 h
      obtain ⟨h, h5⟩ := and2 h
      obtain ⟨h, h4⟩ := and2 h
      obtain ⟨h, h3⟩ := and2 h
      obtain ⟨h1, h2⟩ := and2 h
      have e := of_decide_eq_true h1
      have e' := of_decide_eq_true h2
      subst e e'
      exact s_cmp2 hx o q (E1 _ _ h3) (E1 _ _ h4) (E1 _ _ h5) (notb h6)
    · exact one h
    · cases h
  case tup is =>
    split at h
    · obtain ⟨h1, h2⟩ := and2 h
      exact s_tup (zipAll_pa E1 h1 h2)
    · exact one h
    · cases h
  case lst m is =>
    split at h
    · obtain ⟨h1, h2⟩ := and2 h
      exact s_lst m (zipAll_pa E1 h1 h2)
    · exact one h
    · cases h
  case dct m ks vs =>
    split at h
    · exact s_dnew m
    · obtain ⟨h1, h2⟩ := and2 h
      exact s_dct1 m (E1 _ _ h1) (E1 _ _ h2)
    · obtain ⟨h, h5⟩ := and2 h
      obtain ⟨h, h4⟩ := and2 h
      obtain ⟨h, h3⟩ := and2 h
      obtain ⟨h1, h2⟩ := and2 h
      refine s_dctK m h1 h2 (of_decide_eq_true h3) (of_decide_eq_true h4) fun e => ?_
      have := notb h5
      rw [e] at this
      cases this
    · cases h
  case idx a b =>
    split at h
    · obtain ⟨h, h3⟩ := and2 h
      obtain ⟨h1, h2⟩ := and2 h
      exact s_idx hx (E1 _ _ h1) (E1 _ _ h2) (plainIx_ok h3)
    · exact one h
    · cases h
  case slice m a lo hi =>
    split at h
    · obtain ⟨h, h3⟩ := and2 h
      obtain ⟨h1, h2⟩ := and2 h
      exact s_slice hx m (E1 _ _ h1) (zipOpt E1 h2) (zipOpt E1 h3)
    · exact one h
    · cases h
  case call f is =>
    split at h
    · obtain ⟨h, h5⟩ := and2 h
      obtain ⟨h, h4⟩ := and2 h
      obtain ⟨h, h3⟩ := and2 h
      obtain ⟨h1, h2⟩ := and2 h
      exact s_call hx A.tk (A.fns _ _ (of_decide_eq_true h1)) (isGl_ok A h2) (okN1 h3).1 (zipAll_pa E1 h4 h5) (zipAll_len h4) h5
    · exact one h
    · cases h
  case prim m p is =>
    split at h
    · obtain ⟨h, h4⟩ := and2 h
      obtain ⟨h, h3⟩ := and2 h
      obtain ⟨h1, h2⟩ := and2 h
      have e := of_decide_eq_true h1
      subst e
      exact s_prim hx m p (free_ok A h2).1 (free_ok A h2).2 (zipAll_pa E1 h3 h4) h4
    · exact one h
    · cases h
  case meth k io is =>
    split at h
    · obtain ⟨h, h7⟩ := and2 h
      obtain ⟨h, h6⟩ := and2 h
      obtain ⟨h, h5⟩ := and2 h
      obtain ⟨h, h4⟩ := and2 h
      obtain ⟨h, h3⟩ := and2 h
      obtain ⟨h1, h2⟩ := and2 h
      have e := of_decide_eq_true h1
      subst e
      exact s_meth hx k (E1 _ _ h2) (zipAll_pa E1 h3 h4) (zipAll_len h3) h4 h5 h6 (of_decide_eq_true h7)
    · exact one h
    · cases h
  case isi a t =>
    split at h
    · obtain ⟨h, h7⟩ := and2 h
      obtain ⟨h, h6⟩ := and2 h
      obtain ⟨h, h3⟩ := and2 h
      obtain ⟨h1, h2⟩ := and2 h
      have e := of_decide_eq_true h1
      subst e
      rcases isa_cases A h3 with ⟨yes, rfl, R, g1, g2⟩ | ⟨hte, rfl, hp, hf⟩
      · exact s_isx hx R (free_ok A h2).1 (free_ok A h2).2 g1 g2 (E1 _ _ h6) h7
      · obtain ⟨t1, t2, t3⟩ := tyW_ok hp
        exact s_isi hx t hte t1 t2 t3 (free_ok A h2).1 (free_ok A h2).2 (free_ok A hf).1 (free_ok A hf).2 (E1 _ _ h6) h7
    · exact one h
    · cases h
  case comp m k src cond elt =>
    split at h
    · obtain ⟨h, h3⟩ := and2 h
      obtain ⟨h1, h2⟩ := and2 h
      have B := fun p => hB sc Wx X A _ p _ _ _ _ _ _ h3
      exact s_comp hx.calm hN m (s_src hx.K (E1 _ _ h1)) (B ⟨0, 0, 0, 0⟩).ok (B _).hg (B ⟨0, 0, 0, 0⟩).ht (B ⟨0, 0, 0, 0⟩).he (notSet_ok h2)
    · exact one h
    · cases h
  case compR m k src cond elt =>
    split at h
    · obtain ⟨h, h4⟩ := and2 h
      obtain ⟨h, h3⟩ := and2 h
      obtain ⟨h1, h2⟩ := and2 h
      obtain ⟨p, e, r1, r2⟩ := range_ok A h1
      subst e
      have B := fun p => hB sc Wx X A _ p _ _ _ _ _ _ h4
      exact s_compR hx.calm hN m (s_rng1 r1 r2 (E1 _ _ h2) h3) (B ⟨0, 0, 0, 0⟩).ok (B _).hg (B ⟨0, 0, 0, 0⟩).ht (B ⟨0, 0, 0, 0⟩).he fun _ => rfl
    · exact one h
    · cases h
  case compR2 m k ks cond elt =>
    split at h
    · obtain ⟨h, h6⟩ := and2 h
      obtain ⟨h, h5⟩ := and2 h
      obtain ⟨h, h4⟩ := and2 h
      obtain ⟨h, h3⟩ := and2 h
      obtain ⟨h1, h2⟩ := and2 h
      obtain ⟨p, e, r1, r2⟩ := range_ok A h1
      subst e
      have B := fun p => hB sc Wx X A _ p _ _ _ _ _ _ h6
      exact s_compR2 hx.calm hN m (s_rng2 r1 r2 (s_cons (E1 _ _ h2) (s_cons (E1 _ _ h4) s_nil (star_cons h5)) (star_cons h3)) h3 h5) (B ⟨0, 0, 0, 0⟩).ok (B _).hg (B ⟨0, 0, 0, 0⟩).ht (B ⟨0, 0, 0, 0⟩).he fun _ => rfl
    · cases h
  case fld => cases h
  case newx c ie =>
    split at h
    · obtain ⟨h, h5⟩ := and2 h
      obtain ⟨h, h4⟩ := and2 h
      obtain ⟨h, h3⟩ := and2 h
      obtain ⟨h1, h2⟩ := and2 h
      obtain ⟨f, R⟩ := valX_ok A h1
      exact s_newx A.dep0 R (E1 _ _ h4) (isGl_ok A h2) (okN1 h3).1 h5
    · cases h
  case newm c ie =>
    split at h
    · obtain ⟨h, h5⟩ := and2 h
      obtain ⟨h, h4⟩ := and2 h
      obtain ⟨h, h3⟩ := and2 h
      obtain ⟨h1, h2⟩ := and2 h
      exact s_newm (valM_ok A h1) (E1 _ _ h4) (isGl_ok A h2) (okN1 h3).1 h5
    · cases h
  case fldv o k =>
    split at h
    · obtain ⟨h, h3⟩ := and2 h
      obtain ⟨h1, h2⟩ := and2 h
      obtain ⟨x, R⟩ := valF_ok A h1
      exact s_fldv R (E1 _ _ h3) (isSub_base h2)
    · cases h
  case dix a b =>
    split at h
    · obtain ⟨h, h3⟩ := and2 h
      obtain ⟨h1, h2⟩ := and2 h
      exact s_dix hx (plainIx_ok h3) (E1 _ _ h1) (E1 _ _ h2)
    · exact one h
    · cases h
  case dget o k z =>
    split at h
    · obtain ⟨h, h8⟩ := and2 h
      obtain ⟨h, h7⟩ := and2 h
      obtain ⟨h, h6⟩ := and2 h
      obtain ⟨h, h5⟩ := and2 h
      obtain ⟨h, h4⟩ := and2 h
      obtain ⟨h, h3⟩ := and2 h
      obtain ⟨h1, h2⟩ := and2 h
      have e1 := of_decide_eq_true h1
      subst e1
      exact s_dget hx (E1 _ _ h2) (E1 _ _ h3) (E1 _ _ h4) h5 h6 h7 h8
    · exact one h
    · cases h
  case din neg k o =>
    split at h
    · obtain ⟨h, h4⟩ := and2 h
      obtain ⟨h, h3⟩ := and2 h
      obtain ⟨h1, h2⟩ := and2 h
      have e1 := of_decide_eq_true h1
      subst e1
      exact s_din hx neg (E1 _ _ h2) (E1 _ _ h3) (notb h4)
    · exact one h
    · cases h
  case ditems m o =>
    split at h
    · obtain ⟨h, h7⟩ := and2 h
      obtain ⟨h, h6⟩ := and2 h
      obtain ⟨h, h5⟩ := and2 h
      obtain ⟨h, h4⟩ := and2 h
      obtain ⟨h, h3⟩ := and2 h
      obtain ⟨h1, h2⟩ := and2 h
      have e1 := of_decide_eq_true h1
      have e2 := of_decide_eq_true h2
      subst e1 e2
      have e3 := notb h3
      subst e3
      exact s_ditems hx (free_ok A h4).1 (free_ok A h4).2 (E1 _ _ h5) h6 h7
    · exact one h
    · cases h
  case dclear o =>
    split at h
    · obtain ⟨h, h4⟩ := and2 h
      obtain ⟨h, h3⟩ := and2 h
      obtain ⟨h1, h2⟩ := and2 h
      have e1 := of_decide_eq_true h1
      subst e1
      exact s_dclear hx (E1 _ _ h2) h3 h4
    · exact one h
    · cases h
  case dcomp m k src cond ik iv =>
    split at h
    · obtain ⟨h, h4⟩ := and2 h
      obtain ⟨h, h3⟩ := and2 h
      obtain ⟨h1, h2⟩ := and2 h
      have B := fun p => hB sc Wx X A _ p _ _ _ _ _ _ h3
      have B' := fun p => hB sc Wx X A _ p _ _ _ _ _ _ h4
      exact s_dcomp hx.calm hN m (s_src hx.K (E1 _ _ h1)) (B ⟨0, 0, 0, 0⟩).ok (B _).hg (B ⟨0, 0, 0, 0⟩).ht (B ⟨0, 0, 0, 0⟩).he (B' ⟨0, 0, 0, 0⟩).he (notSet_ok h2)
    · exact one h
    · cases h
  case compI m i j src cond elt =>
    split at h
    · obtain ⟨h, h5⟩ := and2 h
      obtain ⟨h, h4⟩ := and2 h
      obtain ⟨h, h3⟩ := and2 h
      obtain ⟨h1, h2⟩ := and2 h
      have e1 := of_decide_eq_true h1
      subst e1
      have B := fun p q r kk => hB2 sc Wx X A _ _ p q r kk _ _ _ _ _ _ _ h5
      obtain ⟨b1, b2, _, b4, b5⟩ := B ⟨0, 0, 0, 0⟩ ⟨0, 0, 0, 0⟩ ⟨0, 0, 0, 0⟩ 0
      exact s_compI hx.K hx.calm hN m b1 (s_items (E1 _ _ h2) h3 h4) b2 (B _ _ _ _).2.2.1 b4 b5 fun _ => rfl
    · exact one h
    · cases h
  case fstr is =>
    split at h
    · exact s_fstr (zipFm (hFm sc Wx X A) h)
    · exact one h
    · cases h
  case rev a =>
    split at h
    · exact s_rev hx (E1 _ _ h)
    · exact one h
    · cases h
  case slot c o i =>
    split at h
    · obtain ⟨h, h3⟩ := and2 h
      obtain ⟨h1, h2⟩ := and2 h
      obtain ⟨_, O, hi⟩ := objF_ok A h1
      exact s_slot hx O hi (E1 _ _ h2) h3
    · exact one h
    · cases h
  case newo c f is =>
    split at h
    · obtain ⟨h, h5⟩ := and2 h
      obtain ⟨h, h4⟩ := and2 h
      obtain ⟨h, h3⟩ := and2 h
      obtain ⟨h1, h2⟩ := and2 h
      obtain ⟨_, O, en, hi⟩ := objI_ok A h1
      subst en
      exact s_newo hx A.tk O hi (isGl_ok A h2) (okN1 h3).1 (zipAll_pa E1 h4 h5) h5
    · exact one h
    · cases h
  case own k c f o is =>
    split at h
    · exact one h
    cases k <;> dsimp only at h
    case meth =>
      split at h
      · obtain ⟨h, h7⟩ := and2 h
        obtain ⟨h, h6⟩ := and2 h
        obtain ⟨h, h5⟩ := and2 h
        obtain ⟨h, h4⟩ := and2 h
        obtain ⟨h, h3⟩ := and2 h
        obtain ⟨h1, h2⟩ := and2 h
        obtain ⟨_, O, hi⟩ := objM_ok A h1
        exact s_ometh hx A.tk O hi (E1 _ _ h2) (zipAll_pa E1 h3 h4) (zipAll_len h3) h4 h5 h6 (of_decide_eq_true h7)
      · cases h
    case prop =>
      split at h
      · obtain ⟨h, h3⟩ := and2 h
        obtain ⟨h1, h2⟩ := and2 h
        obtain ⟨_, O, hi⟩ := objP_ok A h1
        exact s_prop hx O hi (E1 _ _ h2) h3
      · cases h
    case len =>
      split at h
      · obtain ⟨h, h5⟩ := and2 h
        obtain ⟨h, h4⟩ := and2 h
        obtain ⟨h, h3⟩ := and2 h
        obtain ⟨h1, h2⟩ := and2 h
        have e1 := of_decide_eq_true h1
        subst e1
        obtain ⟨_, O, hi⟩ := objM_ok A h2
        exact s_olen hx O hi (free_ok A h3).1 (free_ok A h3).2 (E1 _ _ h4) h5
      · cases h
    case str =>
      split at h
      · obtain ⟨h, h5⟩ := and2 h
        obtain ⟨h, h4⟩ := and2 h
        obtain ⟨h, h3⟩ := and2 h
        obtain ⟨h1, h2⟩ := and2 h
        have e1 := of_decide_eq_true h1
        subst e1
        obtain ⟨_, O, hi⟩ := objM_ok A h2
        exact s_ostr hx O hi (free_ok A h3).1 (free_ok A h3).2 (E1 _ _ h4) h5
      · cases h
    case isIn =>
      split at h
      · obtain ⟨h, h5⟩ := and2 h
        obtain ⟨h, h4⟩ := and2 h
        obtain ⟨h, h3⟩ := and2 h
        obtain ⟨h1, h2⟩ := and2 h
        have e1 := of_decide_eq_true h1
        subst e1
        obtain ⟨_, O, hi⟩ := objM_ok A h2
        exact s_oin hx false O hi (E1 _ _ h3) (E1 _ _ h4) (notb h5)
      · cases h
    case notIn =>
      split at h
      · obtain ⟨h, h5⟩ := and2 h
        obtain ⟨h, h4⟩ := and2 h
        obtain ⟨h, h3⟩ := and2 h
        obtain ⟨h1, h2⟩ := and2 h
        have e1 := of_decide_eq_true h1
        subst e1
        obtain ⟨_, O, hi⟩ := objM_ok A h2
        exact s_oin hx true O hi (E1 _ _ h3) (E1 _ _ h4) (notb h5)
      · cases h
theorem plainT_nb {e : Expr} (h1 : plainT e = true) (z : isBool e = true) : False := by
  cases e <;> first | exact absurd z Bool.false_ne_true | exact absurd h1 Bool.false_ne_true
theorem stepT {n : Nat} (hE : OkE Γ F G N n) (hT : OkT Γ F G N n) : OkT Γ F G N (n + 1) := by
  intro sc Wx X A e i h
  have hx := A.here
  have T1 := hT sc Wx X A
  have E1 := hE sc Wx X A
  unfold chkT at h
  split at h
  · split at h
    · obtain ⟨h1, h2⟩ := and2 h
      have := w_and (T1 _ _ h1).1 ((T1 _ _ h2).2 rfl)
      exact ⟨this.pt, fun _ => this⟩
    · cases h
  · split at h
    · obtain ⟨h1, h2⟩ := and2 h
      have := w_or (T1 _ _ h1).1 ((T1 _ _ h2).2 rfl)
      exact ⟨this.pt, fun _ => this⟩
    · cases h
  · have := w_one (pos := by assumption) (op := by assumption) (T1 _ _ h).1
    exact ⟨this.pt, fun _ => this⟩
  · split at h
    · exact ⟨t_not (T1 _ _ h).1, fun z => nomatch z⟩
    · cases h
  · split at h
    · obtain ⟨h, h4⟩ := and2 h
      obtain ⟨h, h3⟩ := and2 h
      obtain ⟨h1, h2⟩ := and2 h
      have e := of_decide_eq_true h1
      subst e
      exact ⟨t_cmp hx _ (E1 _ _ h2) (E1 _ _ h3) (notb h4), fun z => nomatch z⟩
    · obtain ⟨h, h4⟩ := and2 h
      obtain ⟨h, h3⟩ := and2 h
      obtain ⟨h1, h2⟩ := and2 h
      have e := of_decide_eq_true h1
      subst e
      exact ⟨t_din hx _ (E1 _ _ h2) (E1 _ _ h3) (notb h4), fun z => nomatch z⟩
    · obtain ⟨h, h5⟩ := and2 h
      obtain ⟨h, h4⟩ := and2 h
      obtain ⟨h, h3⟩ := and2 h
      obtain ⟨h1, h2⟩ := and2 h
      have e := of_decide_eq_true h1
      subst e
      obtain ⟨_, O, hi⟩ := objM_ok A h2
      exact ⟨t_oin hx false O hi (E1 _ _ h3) (E1 _ _ h4) (notb h5), fun z => nomatch z⟩
    · obtain ⟨h, h5⟩ := and2 h
      obtain ⟨h, h4⟩ := and2 h
      obtain ⟨h, h3⟩ := and2 h
      obtain ⟨h1, h2⟩ := and2 h
      have e := of_decide_eq_true h1
      subst e
      obtain ⟨_, O, hi⟩ := objM_ok A h2
      exact ⟨t_oin hx true O hi (E1 _ _ h3) (E1 _ _ h4) (notb h5), fun z => nomatch z⟩
    · cases h
  · split at h
    · obtain ⟨h, h6⟩ := and2 h
      obtain ⟨h, h5⟩ := and2 h
      obtain ⟨h, h4⟩ := and2 h
      obtain ⟨h, h3⟩ := and2 h
      obtain ⟨h1, h2⟩ := and2 h
      have e := of_decide_eq_true h1
      have e' := of_decide_eq_true h2
      subst e e'
      exact ⟨t_cmp2 hx _ _ (E1 _ _ h3) (E1 _ _ h4) (E1 _ _ h5) (notb h6), fun z => nomatch z⟩
    · cases h
  · obtain ⟨h1, h2⟩ := and2 h
    exact ⟨t_val (E1 _ _ h2) h1, fun z => (plainT_nb h1 z).elim⟩
theorem allOk' : ∀ n : Nat, OkE Γ F G N n ∧ OkT Γ F G N n ∧ OkB Γ F G N n ∧ OkB2 Γ F G N n ∧ OkFm Γ F G N n
  | 0 => ⟨fun _ _ _ _ _ _ h => (by unfold chkE at h; cases h), fun _ _ _ _ _ _ h => (by unfold chkT at h; cases h), fun _ _ _ _ _ _ _ _ _ _ _ _ h => (by unfold chkB at h; cases h), fun _ _ _ _ _ _ _ _ _ _ _ _ _ _ _ _ _ h => (by unfold chkB2 at h; cases h), fun _ _ _ _ _ _ h => (by unfold chkFm at h; cases h)⟩
  | n + 1 => ⟨stepE (allOk' n).1 (allOk' n).2.1 (allOk' n).2.2.1 (allOk' n).2.2.2.1 (allOk' n).2.2.2.2, stepT (allOk' n).1 (allOk' n).2.1, stepB (allOk' n).1 (allOk' n).2.1, stepB2 (allOk' n).1 (allOk' n).2.1, stepFm (allOk' n).1⟩
theorem allOk (n : Nat) : OkE Γ F G N n ∧ OkT Γ F G N n ∧ OkB Γ F G N n := ⟨(allOk' n).1, (allOk' n).2.1, (allOk' n).2.2.1⟩
end
end PI
set_option maxRecDepth 100000
set_option maxHeartbeats 4000000
/-! Statements: the test. -/
namespace PI
open PySem L2
/-- what the model does about stores side by side: none: not told -/
def ssC (sc : Scope) (ts vs : List Expr) : Option (Option (List Str)) :=
  if (!(ts.length == 2 || ts.length == 3) || vs.length != ts.length) = true then some none
  else if (vs.any fun v => match v with
      | .Starred _ _ => true
      | _ => false) = true then some none
  else
    let names := ts.filterMap fun t => match t with
      | .Name id pos => if (sc.names.lookup id == some .local && pos.line == ((ts.head?.map fun x => x.pos.line).getD 0)) = true then some id else none
      | _ => none
    if (names.length != ts.length || names.eraseDups.length != names.length) = true then some none
    else if vs.all (foldedForSure 8) = true then some none
    else if vs.all (constantsAlone 8) = true then none
    else some (some names)
theorem ss_ok {sc : Scope} {env : Env} (hs : env.scope = sc) (hk : sc.kind = .function) {ts vs : List Expr} {k k2 : Nat} {p p2 : Pos} {r : Option (List Str)} (h : ssC sc ts vs = some r) : swappedStores [.Tuple ts k p] (.Tuple vs k2 p2) env = pure r := by
  subst hs
  have hb : env.blockKind = .function := by
    unfold Env.blockKind
    rw [hk]
    rfl
  unfold ssC at h
  unfold swappedStores
  dsimp only at h ⊢
  rw [hb]
  simp only [bne_self_eq_false, Bool.or_false, Env.kindOf] at h ⊢
  split at h
  · rename_i c
    cases h
    exact if_pos c
  · rename_i c
    refine (if_neg c).trans ?_
    split at h
    · rename_i c
      cases h
      exact if_pos c
    · rename_i c
      refine (if_neg c).trans ?_
      split at h
      · rename_i c
        cases h
        exact if_pos c
      · rename_i c
        refine (if_neg c).trans ?_
        split at h
        · rename_i c
          cases h
          exact if_pos c
        · rename_i c
          refine (if_neg c).trans ?_
          split at h
          · cases h
          · rename_i c
            cases h
            exact if_neg c
/-- a row on one line that is given to a name -/
def swC (sc : Scope) (x : Str) (line : Nat) : Expr → Bool
  | .ListComp _ _ s p => sc.names.lookup x == some .local && line == p.line && !s.names.any fun (n, k) => n == x && (k == .local || k == .cell)
  | _ => false
def isLC : Expr → Bool
  | .ListComp _ _ _ _ => true
  | _ => false
def notR2 : E → Bool
  | .compR2 _ _ _ _ _ => false
  | .compI _ _ _ _ _ _ => false
  | _ => true
def isTupE : Expr → Bool
  | .Tuple _ _ _ => true
  | _ => false
/-- class c is named x -/
def errN (G : GT) (c : Nat) (x : Str) : Bool := decide ((G.errs[c]?).map (fun p => p.1) = some x)
/-- in a suite: plain expressions, the error's value -/
def chkQE (G : GT) (N : List Str) (c : Nat) : Nat → Scope → Expr → E → Bool
  | 0, _, _, _ => false
  | n + 1, sc, e, i => match i with
    | .var k => (match e with
      | .Name x _ => at_ N k x && isVis sc x && okN x
      | _ => false)
    | .cst d => (match e with
      | .Constant k _ _ => cstOk k d
      | _ => false)
    | .tup is => (match e with
      | .Tuple es _ _ => zipAll (chkQE G N c n sc) es is && es.all noStar
      | _ => false)
    | .lst m is => (match e with
      | .List es _ => zipAll (chkQE G N c n sc) es is && es.all noStar
      | _ => false)
    | .fld o k => (match e with
      | .Attribute (.Name x p) f _ => decide (k = c) && decide ((G.errs[c]?).map (fun p => p.2) = some f) && chkQE G N c n sc (.Name x p) o
      | _ => false)
    | _ => false
def chkQ (G : GT) (N : List Str) (c : Nat) (n : Nat) (sc : Scope) (s : Stmt) (i : S) : Bool := match s, i with
  | .Return (some e) _, .ret ie => chkQE G N c n sc e ie
  | _, _ => false
section
variable (G : GT) (N : List Str)
def chkG : Nat → Scope → Expr → T → Bool
  | 0, _, _, _ => false
  | n + 1, sc, e, t => match e, t with
    | .Name x _, .var i => at_ N i x && isLoc sc x
    | .Tuple es _ _, .tup ts => zipAll (chkG n sc) es ts && es.all noStar
    | .Subscript o j _, .idx io ij => chkE G N n sc o io && chkE G N n sc j ij && plainIx j
    | _, _ => false
def chkS : Nat → Scope → Stmt → S → Bool
  | 0, _, _, _ => false
  | n + 1, sc, s, i => match i with
    | .asg t ie => (match s with
      | .Assign [.Name y py] e pos => (match t with
        | .var j => if isComp e then (isLC e && notR2 ie && (at_ N j y && isLoc sc y && chkE G N n sc e ie)) else at_ N j y && isLoc sc y && chkE G N n sc e ie
        | _ => false)
      | .Assign [tg] e pos => (match t with
        | .slot c io i => (match tg with
          | .Attribute l f _ => objF G c i f && chkE G N n sc l io && chkE G N n sc e ie && plainO l
          | _ => false)
        | .dix io ik => (match tg with
          | .Subscript l k _ => chkE G N n sc l io && chkE G N n sc k ik && chkE G N n sc e ie
          | _ => false)
        | t => chkE G N n sc e ie && chkG G N n sc tg t && noStar tg && (match tg with
          | .Tuple ts _ _ => (match e with
            | .Tuple vs _ _ => decide (ssC sc ts vs = some none)
            | _ => true)
          | .Subscript _ _ _ => true
          | _ => false))
      | _ => false)
    | .par is ies => (match s, is, ies with
      | .Assign [.Tuple [.Name x px, .Name y py] kt pt] (.Tuple [a, b] k2 pt2) pos, [i, j], [ia, ib] => at_ N i x && at_ N j y && decide (i ≠ j) && decide (sc.names.lookup x = some .local) && decide (sc.names.lookup y = some .local) &&
          chkE G N n sc a ia && chkE G N n sc b ib && noStar a && noStar b && decide (ssC sc [.Name x px, .Name y py] [a, b] = some (some [x, y]))
      | .Assign [.Tuple [.Name x px, .Name y py, .Name z pz] kt pt] (.Tuple [a, b, c] k2 pt2) pos, [i, j, l], [ia, ib, ic] => at_ N i x && at_ N j y && at_ N l z && decide (i ≠ j ∧ i ≠ l ∧ j ≠ l) && decide (sc.names.lookup x = some .local ∧ sc.names.lookup y = some .local ∧ sc.names.lookup z = some .local) &&
          chkE G N n sc a ia && chkE G N n sc b ib && chkE G N n sc c ic && noStar a && noStar b && noStar c && decide (ssC sc [.Name x px, .Name y py, .Name z pz] [a, b, c] = some (some [x, y, z]))
      | _, _, _ => false)
    | .aug i o ie => (match s, o with
      | .AugAssign (.Name x _) op e _, .add => decide (op = Operator.Add) && at_ N i x && isLoc sc x && chkE G N n sc e ie
      | _, _ => false)
    | .dead => true
    | .expr ie => (match s with
      | .Expr e _ => chkE G N n sc e ie && !isComp e
      | _ => false)
    | .ret ie => (match s with
      | .Return (some e) _ => chkE G N n sc e ie
      | _ => false)
    | .retN => (match s with
      | .Return none _ => true
      | _ => false)
    | .cond ic a b => (match s with
      | .If c x y _ => chkT G N n sc c ic && zipAll (chkS n sc) x a && zipAll (chkS n sc) y b
      | _ => false)
    | .loop ic b => (match s with
      | .While c x [] _ => chkT G N n sc c ic && zipAll (chkS n sc) x b
      | _ => false)
    | .each t src b => (match s with
      | .For tg iter x [] _ => chkE G N n sc iter src && !isSet iter && chkG G N n sc tg t && zipAll (chkS n sc) x b
      | _ => false)
    | .rng t ies b => (match s, ies with
      | .For tg (.Call r [a] [] _) x [] _, [ia] => isRange G sc r && chkE G N n sc a ia && noStar a && chkG G N n sc tg t && zipAll (chkS n sc) x b
      | .For tg (.Call r [a, a2] [] _) x [] _, [ia, ib] => isRange G sc r && chkE G N n sc a ia && noStar a && chkE G N n sc a2 ib && noStar a2 && chkG G N n sc tg t && zipAll (chkS n sc) x b
      | .For tg (.Call r [a, a2, a3] [] _) x [] _, [ia, ib, ic] => isRange G sc r && chkE G N n sc a ia && noStar a && chkE G N n sc a2 ib && noStar a2 && chkE G N n sc a3 ic && noStar a3 && chkG G N n sc tg t && zipAll (chkS n sc) x b
      | _, _ => false)
    | .brk => (match s with
      | .Break _ => true
      | _ => false)
    | .cont => (match s with
      | .Continue _ => true
      | _ => false)
    | .pass => (match s with
      | .Pass _ => true
      | _ => false)
    | .raise c o => (match s, o with
      | .Raise (some (.Call (.Name x _) [a] [] _)) none _, some ia => errN G c x && isGl sc x && okN x && chkE G N n sc a ia && noStar a
      | _, _ => false)
    | .tryAs b c i q => (match s with
      | .Try body [.ExceptHandler (some (.Name x _)) (some y) (b0 :: suite) _] [] [] _ => errN G c x && isGl sc x && okN x && at_ N i y && decide (sc.names.lookup y = some .local) && zipAll (chkS n sc) body b && zipAll (chkQ G N c n sc) (b0 :: suite) q
      | _ => false)
end
/-- what is asked of an error class -/
structure ErrUse (Γ : Cls1) (X : Cx) (x f : Str) (c : Nat) : Prop where
  at_ : ErrAt Γ X x c
  eF : Γ.cF c = f
  ex : PySem.W.exmOne X.K (.ref (Γ.cA c)) (.ref (Γ.cA c)) = some true
  xf : XfC X.K (Γ.cA c)
  no : PySem.W.findIn X.K (.ref (Γ.cA c)) (Γ.cF c) = some none
/-- where statements stand: a def's body -/
structure AmbS (Γ : Cls1) (F : Fn) (G : GT) (N : List Str) (sc : Scope) (Wx : WX) (X : Cx) : Prop extends Amb Γ F G N sc Wx X where
  po : PassesOwn (model X.prog X.w) X.A X.env X.xe
  fn : ∀ x, X.fn x = true
  kind : sc.kind = .function
  errs : ∀ (c : Nat) (x f : Str), G.errs[c]? = some (x, f) → ErrUse Γ X x f c
  stk : X.stack = X.env :: X.outer
  frm : X.env.frame = some X.env.locals
  dep : X.A.depth + 1 < recursionLimit
  cool : Γ.hot = none
section
variable {Γ : Cls1} {F : Fn} {G : GT} {N : List Str} {sc : Scope} {Wx : WX} {X : Cx}
theorem asgEach {e : Expr} {es : List Expr} {env : Env} (h : noStar e = true) : assignEach (e :: es) env = (false, assign e env) :: assignEach es env := by
  cases e <;> first | rfl | exact absurd h Bool.false_ne_true
theorem asg_len {env : Env} : ∀ {es : List Expr}, es.all noStar = true → (assignEach es env).length = es.length ∧ List.findIdx? (fun x => x.fst) (assignEach es env) = none
  | [], _ => ⟨rfl, rfl⟩
  | e :: es, h => by
    rw [List.all_cons] at h
    obtain ⟨h1, h2⟩ := and2 h
    obtain ⟨a, b⟩ := asg_len (env := env) h2
    rw [asgEach h1]
    refine ⟨congrArg Nat.succ a, ?_⟩
    rw [List.findIdx?_cons]
    simp only [Bool.false_eq_true, if_false, b]
    rfl
theorem zip_len {α β : Type} {f : α → β → Bool} : ∀ {a : List α} {b : List β}, zipAll f a b = true → a.length = b.length
  | [], [], _ => rfl
  | _ :: _, _ :: _, h => congrArg Nat.succ (zip_len (and2 h).2)
  | [], _ :: _, h => by cases h
  | _ :: _, [], h => by cases h
theorem zipG {f : Expr → T → Bool} (hf : ∀ e t, f e t = true → PG X e (tT Γ F Wx t)) : ∀ {es : List Expr} {ts : List T}, zipAll f es ts = true → es.all noStar = true → PGs X es (tTs Γ F Wx ts)
  | [], [], _, _ => g_nil
  | e :: es, t :: ts, h, hn => by
    obtain ⟨h1, h2⟩ := and2 h
    rw [List.all_cons] at hn
    obtain ⟨n1, n2⟩ := and2 hn
    exact g_cons (hf e t h1) (zipG hf h2 n2) (by rw [asgEach n1]; rfl)
  | [], _ :: _, h, _ => by cases h
  | _ :: _, [], h, _ => by cases h
theorem idxAssign {o i : Expr} {env : Env} {pos : Pos} (h : plainIx i = true) (v : Value) : assign (o.Subscript i pos) env v = (do
      let ov ← holding [v] (eval o env)
      let iv ← holding [v, ov] (eval i env)
      standAt pos
      holding [v, ov, iv] (setItem ov iv v)
      release [v, ov, iv] []) := by
  cases i <;> first | rfl | exact absurd h Bool.false_ne_true
theorem okG (A : AmbS Γ F G N sc Wx X) : ∀ (n : Nat) (e : Expr) (t : T), chkG G N n sc e t = true → PG X e (tT Γ F Wx t)
  | 0, e, t, h => by unfold chkG at h; cases h
  | n + 1, e, t, h => by
    unfold chkG at h
    split at h
    · obtain ⟨h1, h2⟩ := and2 h
      exact g_var (by rw [A.eN]; exact A.nd) (at_ok A.toAmb h1) (isLoc_ok A.eS h2) (.inl (A.fn _))
    · obtain ⟨h1, h2⟩ := and2 h
      have := asg_len (env := X.env) h2
      exact g_tup A.here.K A.here.calm (zipG (okG A n) h1 h2) (this.1.trans (zip_len h1)) this.2
    · obtain ⟨h, h3⟩ := and2 h
      obtain ⟨h1, h2⟩ := and2 h
      exact g_idx ((allOk n).1 _ _ _ A.toAmb _ _ h1) ((allOk n).1 _ _ _ A.toAmb _ _ h2) (idxAssign h3)
    · cases h
theorem notComp_sw {e : Expr} {t : Option Expr} {l : Nat} {env : Env} (h : isComp e = false) : swapsWith e t l env = pure false := by
  cases e <;> first | rfl | exact absurd h.symm Bool.false_ne_true
theorem lc_sw {e : Expr} {y : Str} {py : Pos} {l : Nat} {env : Env} (hs : env.scope = sc) (hk : sc.kind = .function) (h : isLC e = true) : swapsWith e (some (.Name y py)) l env = pure (swC sc y py.line e) := by
  subst hs
  have hb : env.blockKind = .function := by
    unfold Env.blockKind
    rw [hk]
    rfl
  cases e <;> first | (exfalso; exact Bool.false_ne_true h) | skip
  unfold swapsWith swC
  dsimp only
  rw [hb]
  rfl
end
end PI
set_option maxRecDepth 100000
set_option maxHeartbeats 4000000
namespace PI
open PySem L2
section
variable {Γ : Cls1} {F : Fn} {G : GT} {N : List Str} {sc : Scope} {Wx : WX} {X : Cx}
theorem setLC (A : AmbS Γ F G N sc Wx X) {n : Nat} {e : Expr} {ie : E} {y : Str} {py pos : Pos} {j : Nat} (hy : X.N[j]? = some y) (h : chkE G N n sc e ie = true) (hl : isLC e = true) (hr : notR2 ie = true) (hw : swC sc y py.line e = true) :
    PS X (.Assign [.Name y py] e pos) (fun D σ H => tE Γ F Wx ie σ H fun v H1 => D.nx (σ.set j (some v)) H1) := by
  have hN : X.N.Nodup := by rw [A.eN]; exact A.nd
  have sw : swapsWith e (some (.Name y py)) pos.line X.env = pure true := by rw [lc_sw A.eS A.kind hl, hw]
  have hloc : X.env.scope.names.lookup y = some .local := by
    rw [A.eS]
    unfold swC at hw
    split at hw
    · obtain ⟨hw, _⟩ := and2 hw
      exact beq_iff_eq.mp (and2 hw).1
    · cases hw
  cases n with
  | zero => unfold chkE at h; cases h
  | succ n =>
    have E1 := (allOk (Γ := Γ) (F := F) (G := G) (N := N) n).1 sc Wx X A.toAmb
    have hB := (allOk (Γ := Γ) (F := F) (G := G) (N := N) n).2.2 sc Wx X A.toAmb
    cases e <;> first | (exfalso; exact Bool.false_ne_true hl) | skip
    unfold chkE at h
    cases ie <;> dsimp only at h <;> try (exfalso; exact Bool.false_ne_true h)
    case comp m k src cond elt =>
      split at h
      · rename_i heq
        cases heq
        obtain ⟨h, h3⟩ := and2 h
        obtain ⟨h1, h2⟩ := and2 h
        have B := fun p => hB _ p _ _ _ _ _ _ h3
        exact s_setComp A.here.calm hN m hy hloc sw (s_src A.here.K (E1 _ _ h1)) (B ⟨0, 0, 0, 0⟩).ok (B _).hg (B ⟨0, 0, 0, 0⟩).ht (B ⟨0, 0, 0, 0⟩).he (notSet_ok h2)
      · rename_i heq; cases heq
      · cases h
    case compR m k src cond elt =>
      split at h
      · rename_i heq
        cases heq
        obtain ⟨h, h4⟩ := and2 h
        obtain ⟨h, h3⟩ := and2 h
        obtain ⟨h1, h2⟩ := and2 h
        obtain ⟨p, e, r1, r2⟩ := range_ok A.toAmb h1
        subst e
        have B := fun p => hB _ p _ _ _ _ _ _ h4
        exact s_setCompR A.here.calm hN m hy hloc sw (s_rng1 r1 r2 (E1 _ _ h2) h3) (B ⟨0, 0, 0, 0⟩).ok (B _).hg (B ⟨0, 0, 0, 0⟩).ht (B ⟨0, 0, 0, 0⟩).he fun _ => rfl
      · rename_i heq; cases heq
      · cases h
    case compR2 => exact (Bool.false_ne_true hr).elim
    case compI => exact (Bool.false_ne_true hr).elim
    case own k _ _ _ _ => cases k <;> dsimp only at h <;> first | (exfalso; exact Bool.false_ne_true h) | (split at h <;> first | (rename_i heq; cases heq) | cases h)
    all_goals (split at h <;> first | (rename_i heq; cases heq) | cases h)
theorem zipS {f : Stmt → S → Bool} (hf : ∀ s i, f s i = true → PS X s (tS Γ F Wx i)) : ∀ {ss : List Stmt} {is : List S}, zipAll f ss is = true → PSs X ss (tSs Γ F Wx is)
  | [], [], _ => z_nil
  | s :: ss, i :: is, h => z_cons (hf s i (and2 h).1) (zipS hf (and2 h).2)
  | [], _ :: _, h => by cases h
  | _ :: _, [], h => by cases h
theorem asgLC (A : AmbS Γ F G N sc Wx X) {n : Nat} {e : Expr} {ie : E} {y : Str} {py pos : Pos} {j : Nat} (hy : X.N[j]? = some y) (hl : Loc X.env.scope y) (h : chkE G N n sc e ie = true) (hc : isLC e = true) (hr : notR2 ie = true) : PS X (.Assign [.Name y py] e pos) (tS Γ F Wx (.asg (.var j) ie)) := by
  have hN : X.N.Nodup := by rw [A.eN]; exact A.nd
  cases hw : swC sc y py.line e with
  | true => exact z_setC (setLC A hy h hc hr hw)
  | false => exact z_set hN hy hl ((allOk n).1 sc Wx X A.toAmb _ _ h) (by rw [lc_sw A.eS A.kind hc, hw]) (.inl (A.fn _))
theorem tgt_sw2 {e tg : Expr} {l : Nat} {env : Env} (h : (∃ o f p, tg = .Attribute o f p) ∨ ∃ o i p, tg = .Subscript o i p) : swapsWith e (some tg) l env = pure false := by
  rcases h with ⟨o, f, p, rfl⟩ | ⟨o, i, p, rfl⟩ <;> cases e <;> rfl
theorem tgt_sw {e tg : Expr} {l : Nat} {env : Env} (h : (∃ ts k p, tg = .Tuple ts k p) ∨ ∃ o i p, tg = .Subscript o i p) : swapsWithSole [tg] e l env = pure false := by
  rcases h with ⟨ts, k, p, rfl⟩ | ⟨o, i, p, rfl⟩ <;> cases e <;> rfl
theorem ss_other {e : Expr} {ts : List Expr} {k : Nat} {p : Pos} {env : Env} (h : ∀ vs k p, e = .Tuple vs k p → False) : swappedStores [.Tuple ts k p] e env = pure none := by
  cases e <;> first | rfl | exact (h _ _ _ rfl).elim
theorem AmbS.tr (A : AmbS Γ F G N sc Wx X) {W : WX} {pn : List (Addr × Obj)} {xe : Value → Shared → Prop} (tk : Takes (X.tr pn xe) W) (po : PassesOwn (model X.prog X.w) X.A X.env xe) : AmbS Γ F G N sc W (X.tr pn xe) :=
  { here := ⟨A.here.K, A.here.calm, A.here.units, A.here.guards, A.here.sys⟩, eN := A.eN, eS := A.eS, nd := A.nd, tk := tk, fns := fun n x e => ⟨(A.fns n x e).ex⟩, cst := A.cst, free := A.free, vals := fun c x f e => (A.vals c x f e).to, isas := fun p hp => (A.isas p hp).to, objs := fun c o e => (A.objs c o e).to rfl rfl rfl rfl rfl rfl, dep0 := A.dep0, po := po, fn := A.fn, kind := A.kind,
    errs := fun c x f e => ⟨⟨(A.errs c x f e).at_.ex, (A.errs c x f e).at_.mg, (A.errs c x f e).at_.kp, (A.errs c x f e).at_.rs, (A.errs c x f e).at_.pay⟩, (A.errs c x f e).eF, (A.errs c x f e).ex, (A.errs c x f e).xf, (A.errs c x f e).no⟩, stk := A.stk, frm := A.frm, dep := A.dep, cool := A.cool }
theorem errN_ok {c : Nat} {x : Str} (h : errN G c x = true) : ∃ f, G.errs[c]? = some (x, f) := by
  have h := of_decide_eq_true h
  cases e : G.errs[c]? with
  | none => rw [e] at h; cases h
  | some p =>
    obtain ⟨y, f⟩ := p
    rw [e] at h
    have : y = x := Option.some.inj h
    exact ⟨f, by rw [this]⟩
theorem okQE (A : AmbS Γ F G N sc Wx X) {c : Nat} {x f : Str} (he : G.errs[c]? = some (x, f)) {a dd : Addr} {oe : Obj} {pn : List (Addr × Obj)} (hz : Zc (.ref (Γ.cA c)) (some dd) oe) (hf : ∃ vs, oe.data = .fields vs) : ∀ (n : Nat) (e : Expr) (i : E), chkQE G N c n sc e i = true → PE (X.suite a ((a, oe) :: pn)) e (tE { Γ with hot := some (a, dd) } F noW i)
  | 0, e, i, h => by unfold chkQE at h; cases h
  | n + 1, e, i, h => by
    have U := A.errs c x f he
    have ih := okQE A he (pn := pn) (a := a) hz hf n
    unfold chkQE at h
    split at h
    · split at h
      · obtain ⟨h, h3⟩ := and2 h
        obtain ⟨h1, h2⟩ := and2 h
        exact s_var (at_ok A.toAmb h1) (isVis_ok A.toAmb h2) (okN1 h3).1 (okN1 h3).2
      · cases h
    · split at h
      · obtain ⟨v, h1, h2⟩ := cst_ok (Γ := { Γ with hot := some (a, dd) }) (X := X.suite a ((a, oe) :: pn)) h
        exact s_lit h1 h2
      · cases h
    · split at h
      · obtain ⟨h1, h2⟩ := and2 h
        exact s_tup (zipAll_pa ih h1 h2)
      · cases h
    · split at h
      · obtain ⟨h1, h2⟩ := and2 h
        exact s_lst _ (zipAll_pa ih h1 h2)
      · cases h
    · split at h
      · obtain ⟨h, h3⟩ := and2 h
        obtain ⟨h1, h2⟩ := and2 h
        have e1 := of_decide_eq_true h1
        subst e1
        have e2 := of_decide_eq_true h2
        rw [he] at e2
        have e2 : f = _ := Option.some.inj e2
        subst e2
        have := U.eF
        subst this
        exact s_fld (Γ := { Γ with hot := some (a, dd) }) rfl U.xf U.no hz hf (ih _ _ h3) rfl
      · cases h
    · cases h
theorem okQ (A : AmbS Γ F G N sc Wx X) {c : Nat} {x f : Str} (he : G.errs[c]? = some (x, f)) {a dd : Addr} {oe : Obj} {pn : List (Addr × Obj)} (hz : Zc (.ref (Γ.cA c)) (some dd) oe) (hf : ∃ vs, oe.data = .fields vs) (n : Nat) (s : Stmt) (i : S) (h : chkQ G N c n sc s i = true) : PS (X.suite a ((a, oe) :: pn)) s (tS { Γ with hot := some (a, dd) } F noW i) := by
  unfold chkQ at h
  split at h
  · exact z_ret (okQE A he hz hf n _ _ h)
  · cases h
theorem okS : ∀ (n : Nat) {Wx : WX} {X : Cx} (A : AmbS Γ F G N sc Wx X) (s : Stmt) (i : S), chkS G N n sc s i = true → PS X s (tS Γ F Wx i)
  | 0, _, _, A, s, i, h => by unfold chkS at h; cases h
  | n + 1, Wx, X, A, s, i, h => by
    have E1 := (allOk (Γ := Γ) (F := F) (G := G) (N := N) n).1 sc Wx X A.toAmb
    have T1 := fun e i h => ((allOk (Γ := Γ) (F := F) (G := G) (N := N) n).2.1 sc Wx X A.toAmb e i h).1
    have hN : X.N.Nodup := by rw [A.eN]; exact A.nd
    have S1 := okS n A
    cases i <;> unfold chkS at h <;> dsimp only at h
    case asg t ie =>
      split at h
      · split at h
        · split at h
          · obtain ⟨h0, h⟩ := and2 h
            obtain ⟨h, h3⟩ := and2 h
            obtain ⟨h1, h2⟩ := and2 h
            exact asgLC A (at_ok A.toAmb h1) (isLoc_ok A.eS h2) h3 (and2 h0).1 (and2 h0).2
          · rename_i c
            obtain ⟨h, h3⟩ := and2 h
            obtain ⟨h1, h2⟩ := and2 h
            exact z_set hN (at_ok A.toAmb h1) (isLoc_ok A.eS h2) (E1 _ _ h3) (notComp_sw (by simpa using c)) (.inl (A.fn _))
        · cases h
      · split at h
        · split at h
          · obtain ⟨h, h4⟩ := and2 h
            obtain ⟨h, h3⟩ := and2 h
            obtain ⟨h1, h2⟩ := and2 h
            obtain ⟨_, O, hi⟩ := objF_ok A.toAmb h1
            exact z_slot A.here O hi (E1 _ _ h2) (E1 _ _ h3) (tgt_sw2 (.inl ⟨_, _, _, rfl⟩))
          · cases h
        · split at h
          · obtain ⟨h, h3⟩ := and2 h
            obtain ⟨h1, h2⟩ := and2 h
            exact z_dput A.here (E1 _ _ h1) (E1 _ _ h2) (E1 _ _ h3) (tgt_sw2 (.inr ⟨_, _, _, rfl⟩))
          · cases h
        · obtain ⟨h, h4⟩ := and2 h
          obtain ⟨h, h3⟩ := and2 h
          obtain ⟨h1, h2⟩ := and2 h
          refine z_asg (E1 _ _ h1) (okG A n _ _ h2) ?_ ?_ h3
          · split at h4
            · exact tgt_sw (.inl ⟨_, _, _, rfl⟩)
            · exact tgt_sw (.inr ⟨_, _, _, rfl⟩)
            · cases h4
          · split at h4
            · split at h4
              · exact ss_ok A.eS A.kind (of_decide_eq_true h4)
              · rename_i hne
                exact ss_other hne
            · rfl
            · cases h4
      · cases h
    case par is ies =>
      split at h
      · obtain ⟨h, h10⟩ := and2 h
        obtain ⟨h, h9⟩ := and2 h
        obtain ⟨h, h8⟩ := and2 h
        obtain ⟨h, h7⟩ := and2 h
        obtain ⟨h, h6⟩ := and2 h
        obtain ⟨h, h5⟩ := and2 h
        obtain ⟨h, h4⟩ := and2 h
        obtain ⟨h, h3⟩ := and2 h
        obtain ⟨h1, h2⟩ := and2 h
        exact z_par A.here.calm hN (at_ok A.toAmb h1) (at_ok A.toAmb h2) (of_decide_eq_true h3) (by rw [A.eS]; exact of_decide_eq_true h4) (by rw [A.eS]; exact of_decide_eq_true h5)
          (s_cons (E1 _ _ h6) (s_cons (E1 _ _ h7) s_nil (star_cons h9)) (star_cons h8)) (ss_ok A.eS A.kind (of_decide_eq_true h10)) rfl
      · obtain ⟨h, h12⟩ := and2 h
        obtain ⟨h, h11⟩ := and2 h
        obtain ⟨h, h10⟩ := and2 h
        obtain ⟨h, h9⟩ := and2 h
        obtain ⟨h, h8⟩ := and2 h
        obtain ⟨h, h7⟩ := and2 h
        obtain ⟨h, h6⟩ := and2 h
        obtain ⟨h, h5⟩ := and2 h
        obtain ⟨h, h4⟩ := and2 h
        obtain ⟨h, h3⟩ := and2 h
        obtain ⟨h1, h2⟩ := and2 h
        obtain ⟨d1, d2, d3⟩ := of_decide_eq_true h4
        obtain ⟨l1, l2, l3⟩ := of_decide_eq_true h5
        exact z_par3 A.here.calm hN (at_ok A.toAmb h1) (at_ok A.toAmb h2) (at_ok A.toAmb h3) d1 d2 d3 (by rw [A.eS]; exact l1) (by rw [A.eS]; exact l2) (by rw [A.eS]; exact l3)
          (s_cons (E1 _ _ h6) (s_cons (E1 _ _ h7) (s_cons (E1 _ _ h8) s_nil (star_cons h11)) (star_cons h10)) (star_cons h9)) (ss_ok A.eS A.kind (of_decide_eq_true h12)) rfl
      · cases h
    case aug i o ie =>
      split at h
      · obtain ⟨h, h4⟩ := and2 h
        obtain ⟨h, h3⟩ := and2 h
        obtain ⟨h1, h2⟩ := and2 h
        have e1 := of_decide_eq_true h1
        subst e1
        exact z_aug hN (at_ok A.toAmb h2) (isLoc_ok A.eS h3) (.inl (A.fn _)) (E1 _ _ h4)
      · cases h
    case dead => exact z_dead
    case expr ie =>
      split at h
      · obtain ⟨h1, h2⟩ := and2 h
        exact z_expr (E1 _ _ h1) (notComp_sw (notb h2))
      · cases h
    case ret ie =>
      split at h
      · exact z_ret (E1 _ _ h)
      · cases h
    case retN =>
      split at h
      · exact z_retN
      · cases h
    case cond ic a b =>
      split at h
      · obtain ⟨h, h3⟩ := and2 h
        obtain ⟨h1, h2⟩ := and2 h
        exact z_if (T1 _ _ h1) (zipS S1 h2) (zipS S1 h3)
      · cases h
    case loop ic b =>
      split at h
      · obtain ⟨h1, h2⟩ := and2 h
        exact z_while A.po (T1 _ _ h1) (zipS S1 h2)
      · cases h
    case each t src b =>
      split at h
      · obtain ⟨h, h4⟩ := and2 h
        obtain ⟨h, h3⟩ := and2 h
        obtain ⟨h1, h2⟩ := and2 h
        exact z_each A.po A.here.calm (s_src A.here.K (E1 _ _ h1)) (okG A n _ _ h3) (zipS S1 h4) (notSet_ok h2)
      · cases h
    case rng t ies b =>
      split at h
      · obtain ⟨h, h5⟩ := and2 h
        obtain ⟨h, h4⟩ := and2 h
        obtain ⟨h, h3⟩ := and2 h
        obtain ⟨h1, h2⟩ := and2 h
        obtain ⟨p, e, r1, r2⟩ := range_ok A.toAmb h1
        subst e
        exact z_rng1 A.po A.here.calm (s_rng1 r1 r2 (E1 _ _ h2) h3) (okG A n _ _ h4) (zipS S1 h5) fun _ => rfl
      · obtain ⟨h, h7⟩ := and2 h
        obtain ⟨h, h6⟩ := and2 h
        obtain ⟨h, h5⟩ := and2 h
        obtain ⟨h, h4⟩ := and2 h
        obtain ⟨h, h3⟩ := and2 h
        obtain ⟨h1, h2⟩ := and2 h
        obtain ⟨p, e, r1, r2⟩ := range_ok A.toAmb h1
        subst e
        exact z_rng2 A.po A.here.calm (s_rng2 r1 r2 (s_cons (E1 _ _ h2) (s_cons (E1 _ _ h4) s_nil (star_cons h5)) (star_cons h3)) h3 h5) (okG A n _ _ h6) (zipS S1 h7) fun _ => rfl
      · obtain ⟨h, h9⟩ := and2 h
        obtain ⟨h, h8⟩ := and2 h
        obtain ⟨h, h7⟩ := and2 h
        obtain ⟨h, h6⟩ := and2 h
        obtain ⟨h, h5⟩ := and2 h
        obtain ⟨h, h4⟩ := and2 h
        obtain ⟨h, h3⟩ := and2 h
        obtain ⟨h1, h2⟩ := and2 h
        obtain ⟨p, e, r1, r2⟩ := range_ok A.toAmb h1
        subst e
        exact z_rng3 A.po A.here.calm (s_rng3 r1 r2 (s_cons (E1 _ _ h2) (s_cons (E1 _ _ h4) (s_cons (E1 _ _ h6) s_nil (star_cons h7)) (star_cons h5)) (star_cons h3)) h3 h5 h7) (okG A n _ _ h8) (zipS S1 h9) fun _ => rfl
      · cases h
    case brk =>
      split at h
      · exact z_brk
      · cases h
    case cont =>
      split at h
      · exact z_cont
      · cases h
    case pass =>
      split at h
      · exact z_pass
      · cases h
    case raise c o =>
      split at h
      · obtain ⟨h, h5⟩ := and2 h
        obtain ⟨h, h4⟩ := and2 h
        obtain ⟨h, h3⟩ := and2 h
        obtain ⟨h1, h2⟩ := and2 h
        obtain ⟨f, he⟩ := errN_ok h1
        exact z_raise A.here.calm A.dep A.tk (A.errs _ _ _ he).at_ (E1 _ _ h4) (isGl_ok A.toAmb h2) (okN1 h3).1 h5
      · cases h
    case tryAs b c j q =>
      split at h
      · obtain ⟨h, h7⟩ := and2 h
        obtain ⟨h, h6⟩ := and2 h
        obtain ⟨h, h5⟩ := and2 h
        obtain ⟨h, h4⟩ := and2 h
        obtain ⟨h, h3⟩ := and2 h
        obtain ⟨h1, h2⟩ := and2 h
        obtain ⟨f, he⟩ := errN_ok h1
        have U := A.errs _ _ _ he
        exact z_try A.cool A.stk A.frm hN (at_ok A.toAmb h4) (by rw [A.eS]; exact of_decide_eq_true h5) U.at_ U.ex (isGl_ok A.toAmb h2) (okN1 h3).1 A.tk (fun W pn xe tk po => zipS (okS n (A.tr tk po)) h6) (fun a dd oe pn hz hf => zipS (okQ A he hz hf n) h7)
      · cases h
end
end PI
set_option maxRecDepth 100000
set_option maxHeartbeats 1000000
/-! Defs. -/
namespace PI
open PySem L2
section
open PySem.Spec PyProof.Rows
variable {Γ : Cls1} {P : Program} {w : World} {K : PySem.W.Frag} {mg : Str → Option Value} {base : Heap}
/-- a def's body, entered -/
theorem fnG_body {x qual : Str} {params : Arguments} {body : List Stmt} {scope : Scope} {f : Addr} {fd : FuncData} {dvs : List V} {kws : List (Str × V)} {N ps : List Str} {k : Nat} {sp : Sp} (D : FunD K x qual params body scope dvs kws f fd) (hs : FnScope N ps scope)
    (hlen : ∀ vs H Q E, sp vs H Q E → vs.length = ps.length)
    (hb : ∀ (c : Value) (A : Around) (outer : List Env) (s : Shared) (H : Hp) (vs : List V) (Q : VK) (E : XK), Room k (A.deeper (envOfC qual scope s.heap.objs.size f c)) → A.guards = some [] → sp vs H Q E →
      ∃ t, PSs (cxOf (L2.CX P w) P w K mg base N qual scope f c A outer s H E) body t ∧ t { nx := fun _ H1 => Q .non H1, rt := Q } (L2.start N vs) H) : FnG P w K mg base (k + 1) f fd ps sp := by
  obtain ⟨oc, od, dV, kV, doc, pm, an, c, ct, osl, e, lk, hc, _, _⟩ := D.ex
  subst e
  constructor
  · exact hlen
  · intro A outer s H args us vs Q E rm hg e0 bt rel h
    have keep : ∀ b o, base.get? b = some o → s.heap.get? b = some o := fun b o z => (e0.bs b o z).1
    have kin : K.In s.heap := e0.mod.kin.keeps keep
    refine codeAny_call_function rm.depth (kin _ _ lk) rfl hs.co hs.gen rfl (PySem.W.codeRec_of kin hc) (bt _ _ _ _ ?_)
    have kinds : ∀ z ∈ ps.zip us, scope.names.lookup z.1 = some .local ∨ (scope.names.lookup z.1 = some .cell ∧ ((cellsFrom (s.heap.objs.size + 1) scope.names []).lookup z.1).isSome = true) := by
      rintro ⟨n, v⟩ hz
      rcases hs.par n (List.of_mem_zip hz).1 with q | q
      · exact .inl q
      · exact .inr ⟨q, PySem.W.cellsFrom_some _ _ _ (.inl q)⟩
    refine wpAny_newFunctionEnv_cells hs.kind kinds fun env he s1 ic => ?_
    subst he
    refine ⟨(e0.mod.nolimit.keeps keep).keeps ic.toInCall.keep, codeAny_func ?_⟩
    obtain ⟨t, ht, q⟩ := hb c A outer s H vs Q E (rm.deeper _) hg h
    have start := inv_start (CX := L2.CX P w) (E := E) hs rm.hd e0 (hlen _ _ _ _ h) rel ic
    refine wpAny_mono (ht.run [] s1 _ H _ start q) (fun fl s2 z => ?_) fun _ _ z => z
    match fl, z with
    | .ret u, z =>
      obtain ⟨v, _, H1, J, r, q⟩ := z
      exact ⟨v, H1, J.os, J.bare, J.base, J.hok, r, q⟩
    | .next, z =>
      obtain ⟨_, H1, J, q⟩ := z
      exact ⟨.non, H1, J.os, J.bare, J.base, J.hok, rfl, q⟩
    | .brk, ⟨_, _, _, q⟩ => exact q.elim
    | .cont, ⟨_, _, _, q⟩ => exact q.elim
end
/-! ### the test of a def -/
def scC (N ps : List Str) (sc : Scope) : Bool := decide (sc.kind = .function) && !sc.isCoroutine && !sc.isGenerator && decide N.Nodup && decide (N.take ps.length = ps) && (ps.all fun x => isLoc sc x) && sc.names.all fun y => decide (y.2 ≠ .free)
theorem scC_ok {N ps : List Str} {sc : Scope} (h : scC N ps sc = true) : FnScope N ps sc := by
  unfold scC at h
  obtain ⟨h, h7⟩ := and2 h
  obtain ⟨h, h6⟩ := and2 h
  obtain ⟨h, h5⟩ := and2 h
  obtain ⟨h, h4⟩ := and2 h
  obtain ⟨h, h3⟩ := and2 h
  obtain ⟨h1, h2⟩ := and2 h
  refine ⟨of_decide_eq_true h1, notb h2, notb h3, of_decide_eq_true h4, of_decide_eq_true h5, fun x hx => ?_, fun y hy => of_decide_eq_true (List.all_eq_true.mp h7 y hy)⟩
  have := List.all_eq_true.mp h6 x hx
  unfold isLoc at this
  simp only [Bool.or_eq_true, decide_eq_true_eq] at this
  exact this
def fuel : Nat := 60
def chkDef (G : GT) (N : List Str) (d : He.DefD) (fd : FnDecl) : Bool := plainA d.params && d.dfl.isEmpty && d.kwd.isEmpty && decide ((d.params.args.map fun a => a.arg).length = fd.np) && decide (N.length = fd.nl) && scC N (d.params.args.map fun a => a.arg) d.scope && zipAll (chkS G N fuel d.scope) d.body fd.body
theorem relSt_start {Γ : Cls1} {W : Wd} {H : Hp} {ds : List D} {vs : List V} {N : List Str} {fd : FnDecl} (r : RelDs Γ.toCls0 W H ds vs) (h : N.length = fd.nl) : RelSt Γ.toCls0 W H (startR fd ds) (L2.start N vs) := by
  have hl := r.length
  unfold startR L2.start
  refine ⟨by simp [hl, h], fun i d e => ?_⟩
  by_cases hi : i < ds.length
  · rw [List.getElem?_append_left (by simpa using hi), List.getElem?_map] at e
    obtain ⟨d', e1, e2⟩ := opt_map e
    cases e2
    obtain ⟨v, e3, e4⟩ := r.get e1
    exact ⟨v, by rw [List.getElem?_append_left (by simpa [← hl] using hi), List.getElem?_map, e3]; rfl, e4⟩
  · rw [List.getElem?_append_right (by simpa using hi), List.getElem?_replicate] at e
    split at e <;> cases e
/-- def i is a property's getter -/
def isPr (G : GT) (i : Nat) : Bool := G.objs.any fun o => o.props.any fun p => decide (p.2 = i)
def getA (K : PySem.W.Frag) (p : Addr) : Addr := match PySem.W.recIn K p "property" with
  | some (.ref g :: _) => g
  | _ => 0
/-- where def i stands -/
def adrO (G : GT) (D : List He.DefD) (K : PySem.W.Frag) (i : Nat) : Addr := match D[i]? with
  | some d => if isPr G i then getA K (He.ma K (He.ga K d.at_.1) (d.at_.2.getD "")) else He.fAd K d.at_
  | none => 0
/-- what the head left of a class of objects -/
structure ObjK (K : PySem.W.Frag) (mg : Str → Option Value) (C : Addr) (adr : Nat → Addr) (D : List He.DefD) (o : ObjG) : Prop where
  cl : SlX.SCls K C
  new_ : ∀ n, o.init = some n → mg o.name = some (.ref C) ∧ Mk K C (adr n) ∧ n < D.length
  slots : ∀ (i : Nat) (f : Str), o.slots[i]? = some f → ∃ p, SlX.Slot1 K C f p i
  meths : ∀ (m : Str) (n : Nat), (m, n) ∈ o.meths → L2.Meth K C m (adr n) ∧ n < D.length
  props : ∀ (m : Str) (n : Nat), (m, n) ∈ o.props → n < D.length ∧ ∃ p, PySem.W.findIn K (.ref C) m = some (some (.ref p)) ∧ PySem.W.specialIn K (.ref p) "__get__" = some (some (.builtin "property.__get__")) ∧ PySem.W.takesIn K (.ref p) = some true ∧ ∃ rest, PySem.W.recIn K p "property" = some (.ref (adr n) :: rest)
/-- what the module's head left, as far as the defs lean on it -/
structure Mods (P : Program) (Γ : Cls1) (G : GT) (D : List He.DefD) (Ns : List (List Str)) (Pr : List FnDecl) (K : PySem.W.Frag) (mg : Str → Option Value) (base : Heap) : Prop where
  eK : Γ.K = K
  dfs : ∀ (i : Nat) (d : He.DefD), D[i]? = some d → (∃ fd, FunD K d.name d.qual d.params d.body d.scope (d.dvs K) (d.kws K) (adrO G D K i) fd) ∧ ∃ N fd, Ns[i]? = some N ∧ Pr[i]? = some fd ∧ chkDef G N d fd = true
  len : ∀ (i : Nat) (x : Str), G.fns[i]? = some x → ∃ d, D[i]? = some d ∧ d.at_.1 = x ∧ mg x = some (.ref (adrO G D K i))
  frees : ∀ x ∈ G.free, mg x = none
  csts : ∀ (x : Str) (d : PI.D), (x, d) ∈ G.cst → ∃ (v : V) (u : Value), mg x = some u ∧ RelV v u ∧ ∀ W H, RelD Γ.toCls0 W H d v
  sys : ∃ (o : Obj) (es : Array DictEntry) (ep : Nat), base.get? sysModules = some o ∧ o.data = .dict es ep
  cool : Γ.hot = none
  errs : ∀ X : Cx, X.prog = P → X.K = K → X.mg = mg → ∀ (c : Nat) (x f : Str), G.errs[c]? = some (x, f) → ErrUse Γ X x f c
  vals : ∀ X : Cx, X.prog = P → X.K = K → X.mg = mg → ∀ (c : Nat) (x : Str) (f : Option Str), G.vals[c]? = some (x, f) → ValAt Γ X x f c
  isas : ∀ X : Cx, X.prog = P → X.K = K → X.mg = mg → ∀ p ∈ G.isas, IsaAt Γ X p.1 p.2
  objs : ∀ (c : Nat) (o : ObjG), G.objs[c]? = some o → ObjK K mg (Γ.cO c) (adrO G D K) D o
section
variable {Γ : Cls1} {G : GT} {D : List He.DefD} {Ns : List (List Str)} {Pr : List FnDecl} {P : Program} {w : World} {K : PySem.W.Frag} {mg : Str → Option Value} {base : Heap}
def parN (d : He.DefD) : List Str := d.params.args.map fun a => a.arg
theorem binds_ok {d : He.DefD} {N : List Str} {fd : FnDecl} {fdv : FuncData} {f : Addr} (F : FunD K d.name d.qual d.params d.body d.scope (d.dvs K) (d.kws K) f fdv) (h : chkDef G N d fd = true) : Binds K fdv (parN d) [] ∧ ∀ (s : Shared) (us : List Value), us.length = (parN d).length → BindsTo s fdv ⟨us, []⟩ ((parN d).zip us) := by
  unfold chkDef at h
  obtain ⟨h, h7⟩ := and2 h
  obtain ⟨h, h6⟩ := and2 h
  obtain ⟨h, h5⟩ := and2 h
  obtain ⟨h, h4⟩ := and2 h
  obtain ⟨h, h3⟩ := and2 h
  obtain ⟨h1, h2⟩ := and2 h
  have S := scC_ok h6
  have nd : (parN d).Nodup := by rw [show parN d = d.params.args.map (fun a => a.arg) from rfl, ← S.pre]; exact S.nd.sublist (List.take_sublist _ _)
  have key : ∀ us : List Value, us.length = (parN d).length → bindArgs fdv ⟨us, []⟩ = pure ((parN d).zip us) := by
    intro us hl
    obtain ⟨oc, od, dV, kV, doc, pm, an, c, ct, osl, e, lk, hc, hD, _⟩ := F.ex
    subst e
    have ed : d.dvs K = [] := by
      show d.dfl.map _ = []
      rw [List.isEmpty_iff.mp h2]; rfl
    rw [ed] at hD
    rcases hD with ⟨_, rfl⟩ | ⟨e, _⟩
    · exact bind_all h1 rfl rfl nd hl
    · exact absurd rfl e
  exact ⟨.all key, fun s us hl => .of_eq (key us hl)⟩
theorem objAt_of {F : Fn} {X : Cx} {adr : Nat → Addr} {o : ObjG} {c : Nat} (O : ObjK X.K X.mg (Γ.cO c) adr D o) (df : ∀ n, n < D.length → MDef Γ F X (adr n) n) : ObjAt Γ F X o c := by
  refine ⟨O.cl, fun n en => ?_, O.slots, fun m n hmn => ?_, fun m n hmn => ?_⟩
  · obtain ⟨a1, a2, a3⟩ := O.new_ n en
    exact ⟨a1, _, a2, df n a3⟩
  · obtain ⟨a1, a2⟩ := O.meths m n hmn
    exact ⟨_, a1, df n a2⟩
  · obtain ⟨a0, p, a1, a2, a3, a4⟩ := O.props m n hmn
    exact ⟨p, _, a1, a2, a3, a4, df n a0⟩
/-- every def keeps its promise -/
theorem levels (M : Mods P Γ G D Ns Pr K mg base) : ∀ (k i : Nat) (d : He.DefD) (fdv : FuncData), D[i]? = some d → FunD K d.name d.qual d.params d.body d.scope (d.dvs K) (d.kws K) (adrO G D K i) fdv → FnG P w K mg base (3 * k) (adrO G D K i) fdv (parN d) (spF Γ (run Pr k) i)
  | 0, i, d, fdv, _, _ => ⟨fun vs H Q E ⟨W, ds, _, _, g⟩ => g.elim, fun A outer s H args us vs Q E _ _ _ _ _ ⟨W, ds, _, _, g⟩ => g.elim⟩
  | k + 1, i, d, fdv, hd, F => by
    obtain ⟨_, N, fd, hN, hfd, hc⟩ := M.dfs i d hd
    have hc0 := hc
    unfold chkDef at hc
    obtain ⟨hc, h7⟩ := and2 hc
    obtain ⟨hc, h6⟩ := and2 hc
    obtain ⟨hc, h5⟩ := and2 hc
    obtain ⟨hc, h4⟩ := and2 hc
    have S := scC_ok h6
    have h4 := of_decide_eq_true h4
    have h5 := of_decide_eq_true h5
    have er : ∀ xs h, run Pr (k + 1) i xs h = runBody (run Pr k) fd xs h := by
      intro xs h
      show (match Pr[i]? with
        | some fd => runBody (run Pr k) fd xs h
        | none => .fail) = _
      rw [hfd]
    refine fnG_body (k := 3 * k + 2) F S ?_ ?_
    · rintro vs H Q E ⟨W, ds, r, hR, g⟩
      rw [er] at g
      unfold runBody at g
      split at g
      · rename_i hl
        rw [← r.length, hl, ← h4]; rfl
      · exact g.elim
    · rintro c A outer s H vs Q E rm hg ⟨W, ds, r, hR, g⟩
      rw [er] at g
      unfold runBody at g
      split at g
      · refine ⟨tSs Γ (run Pr k) (fun cls d _ H => E cls d H) fd.body, ?_, W, startR fd ds, relSt_start r h5, hR, ?_⟩
        · refine zipS (okS (G := G) (N := N) (sc := d.scope) fuel ?_) h7
          refine { here := ⟨M.eK.symm, rfl, ?_, hg, M.sys⟩, eN := rfl, eS := rfl, nd := S.nd, tk := takes_of rfl rfl rfl rfl, fns := ?_, cst := M.csts, free := M.frees, po := passes_of rfl, fn := fun _ => rfl, kind := S.kind, errs := M.errs _ rfl rfl rfl, vals := M.vals _ rfl rfl rfl, isas := M.isas _ rfl rfl rfl, objs := ?_, dep0 := ?_, stk := rfl, frm := rfl, dep := ?_, cool := M.cool }
          · have := rm.un
            show (A.deeper _).units + 100 < _
            omega
          · intro n x e
            obtain ⟨d', hd', rfl, hm⟩ := M.len n x e
            obtain ⟨⟨fdv', F'⟩, N', fd', _, _, hc'⟩ := M.dfs n d' hd'
            exact ⟨3 * k, _, fdv', parN d', hm, F'.kp, (binds_ok F' hc').1, Room.le (by omega) rm, levels M k n d' fdv' hd' F'⟩
          · intro c' o e
            refine objAt_of (M.objs c' o e) fun n hn => ?_
            have hd' : D[n]? = some D[n] := List.getElem?_eq_getElem hn
            obtain ⟨⟨fdv', F'⟩, N', fd', _, _, hc'⟩ := M.dfs n _ hd'
            exact ⟨3 * k, fdv', parN D[n], (binds_ok F' hc').1, rm, levels M k n _ fdv' hd' F'⟩
          · have := rm.dp
            show (A.deeper _).depth + 1 < _
            omega
          · have := rm.dp
            show (A.deeper _).depth + 1 < _
            omega
        · cases q : evSs (run Pr k) fd.body (startR fd ds) W.ah with
          | next ρ h' => rw [q] at g; exact fun W' H' σ e x hR' st => g W' H' .non e x hR' .non
          | ret v h' => rw [q] at g; exact g
          | brk ρ h' => rw [q] at g; exact g.elim
          | cont ρ h' => rw [q] at g; exact g.elim
          | exc c p ρ h' => rw [q] at g; exact fun W' H' σ od e x hR' st py => g W' H' od e x hR' py
          | fail => rw [q] at g; exact g.elim
      · exact g.elim
end
end PI
set_option maxRecDepth 100000
set_option maxHeartbeats 1000000
/-! A law's end. -/
namespace PI
open PySem L2
section
open PySem.Spec PyProof.Rows
theorem law_ends {P : Program} {w : World} {K : PySem.W.Frag} {mg mb : Str → Option Value} {k : Nat} {fa a : Addr} {fd : FuncData} {x : Str} {sp : Sp} {s1 : Shared} {vs : List Value} {ns : List Int}
    (hK : K.In s1.heap) (hg : s1.heap.Ns mainGlobals mg) (hb : s1.heap.Ns builtinsNs mb) (hbb : ∀ x : Str, x ≠ "__name__" → mb x = bootBuiltins x) (hlim : s1.heap.NoLimit) (hgen : s1.gens = #[])
    (ha : s1.heap.get? a = some { cls := .type "list", data := .seq vs.toArray }) (hi : IntsAre vs ns) (hl : ns.length ≤ sizeLine) (hr : Room k callerA)
    (F : ∀ base : Heap, K.In base → base.Ns mainGlobals mg → FnG P w K mg base k fa fd [x] sp) (hbind : ∀ (s : Shared) (u : Value), BindsTo s fd ⟨[u], []⟩ [(x, u)])
    (hsp : ∀ H : Hp, ((∃ o, H a = some (.frz o (.lst (ns.map V.int)))) ∨ ∀ H', SqL K H' a (ns.map V.int)) → sp [.ref a] H (fun v _ => v = .bl true) fun _ _ _ => False) :
    codeAny (model P w) callerA (.call (.ref fa) ⟨[.ref a], []⟩) (fun r s' => r = .ok (.ret (.bool true)) ∧ OldK s1.heap s'.heap ∧ s'.os = s1.os ∧ AllBare s'.gens) s1 := by
  have rv := vals_ints hi
  have main : ∀ H : Hp, Only H → ((∃ o, H a = some (.frz o (.lst (ns.map V.int)))) ∨ ∀ H', SqL K H' a (ns.map V.int)) → HOk P w H s1.heap → (∀ b, H b ≠ none → b = a) → (H a ≠ none → K.lookup a = none) →
      codeAny (model P w) callerA (.call (.ref fa) ⟨[.ref a], []⟩) (fun r s' => r = .ok (.ret (.bool true)) ∧ OldK s1.heap s'.heap ∧ s'.os = s1.os ∧ AllBare s'.gens) s1 := by
    intro H hO hS ok only hk
    have stay : ∀ {b : Addr} {o : Obj}, s1.heap.get? b = some o → H b = none → (hidT s1.heap H).get? b = some o := fun e n => hidT_get e n
    have untold : ∀ {b : Addr} {o : Obj} {es : Array DictEntry} {ep : Nat}, s1.heap.get? b = some o → o.data = .dict es ep → H b = none := by
      intro b o es ep e d
      rcases hb : H b with _ | u
      · rfl
      · have e1 : b = a := only b (by rw [hb]; exact fun z => nomatch z)
        subst e1
        rw [ha] at e
        cases e
        exact nomatch (show Data.seq vs.toArray _ = Data.dict es ep from d)
    have names : ∀ {b : Addr} {m : Str → Option Value}, s1.heap.Ns b m → (hidT s1.heap H).Ns b m := fun ⟨o, es, ep, e, d, r⟩ => ⟨o, es, ep, stay e (untold e d), d, r⟩
    have kin : K.In (hidT s1.heap H) := by
      intro b o e
      refine stay (hK b o e) ?_
      rcases hb : H b with _ | u
      · rfl
      · have e1 : b = a := only b (by rw [hb]; exact fun z => nomatch z)
        subst e1
        rw [hk (by rw [hb]; exact fun z => nomatch z)] at e
        cases e
    have md : Mod K mg (hidT s1.heap H) := ⟨kin, names hg, ⟨mb, names hb, hbb⟩, let ⟨mc, h1, h2⟩ := hlim; ⟨mc, names h1, h2⟩⟩
    have e0 : Env0 P w K mg (hidT s1.heap H) callerA [] s1 H := ⟨rfl, md, fun b o e => of_hidT e, Nat.le_of_eq (hidT_size _ _), trivial, fun b z => (List.not_mem_nil z).elim, ok, .of_eq hgen⟩
    refine codeAny_mono ((F _ kin (names hg)).run callerA [] s1 H ⟨[.ref a], []⟩ [.ref a] [.ref a] _ _ hr rfl e0 (hbind s1 (.ref a)) (.cons rfl .nil) (hsp H hS)) fun r s' h => ?_
    match r, h with
    | .error e, ⟨_, _, _, _, _, _, _, _, _, _, _, _, z⟩ => exact z.elim
    | .ok .next, h => exact h.elim
    | .ok .brk, h => exact h.elim
    | .ok .cont, h => exact h.elim
    | .ok (.ret u), h =>
      obtain ⟨v, H', os, bare, un, ok', r, q⟩ := h
      have q : v = .bl true := q
      subst q
      have r : u = Value.bool true := r
      subst r
      refine ⟨rfl, OldK.of_keep fun b o e => ?_, os, bare⟩
      rcases hO b with z | ⟨ob, xs, z⟩
      · exact un.keep b o e z (fun z => (List.not_mem_nil z).elim) (fun z => (List.not_mem_nil z).elim)
      · obtain ⟨e1, _⟩ := ok b _ z
        obtain ⟨e2, _⟩ := ok' b _ (un.frzs b ob _ z)
        rw [e] at e1
        cases e1
        exact e2
  rcases hk : K.lookup a with _ | o
  · refine main (fun b => if b = a then some (.frz { cls := .type "list", data := .seq vs.toArray } (.lst (ns.map V.int))) else none) (fun b => ?_) (.inl ⟨{ cls := .type "list", data := .seq vs.toArray }, if_pos rfl⟩) (fun b u z => ?_) (fun b z => ?_) fun _ => hk
    · by_cases e : b = a
      · exact .inr ⟨_, _, if_pos e⟩
      · exact .inl (if_neg e)
    · by_cases e : b = a
      · have z := (if_pos e).symm.trans z
        cases z
        subst e
        exact ⟨ha, by rw [List.length_map]; exact hl, vs, _, rv, ha⟩
      · have z := (if_neg e).symm.trans z
        cases z
    · by_cases e : b = a
      · exact e
      · exact absurd (if_neg e) z
  · have e := hK a o hk
    rw [ha] at e
    cases e
    refine main (fun _ => none) (fun _ => .inl rfl) (.inr fun H' => .inr ⟨_, vs.toArray, _, hk, rfl, rfl, rfl, by rw [List.size_toArray, hi.length]; exact hl, by simpa using rv⟩) (fun b u z => ?_) (fun b z => absurd rfl z) fun z => absurd rfl z
    exact nomatch (show (none : Option HO) = some u from z)
end
/-! ### what the head must tell -/
def cstFa : Str × D → Option He.Fa
  | (x, .int i) => some (.int x i)
  | (x, .str s) => some (.str x s)
  | _ => none
def faOf (G : GT) : List He.Fa := G.fns.map He.Fa.glo ++ (G.free.map He.Fa.free ++ G.cst.filterMap cstFa)
def chkDefs (G : GT) : List He.DefD → List (List Str) → List FnDecl → Bool
  | [], [], [] => true
  | d :: ds, n :: ns, f :: fs => chkDef G n d f && chkDefs G ds ns fs
  | _, _, _ => false
theorem chkDefs_at {G : GT} : ∀ {D : List He.DefD} {Ns : List (List Str)} {Pr : List FnDecl} {i : Nat} {d : He.DefD}, chkDefs G D Ns Pr = true → D[i]? = some d → ∃ N fd, Ns[i]? = some N ∧ Pr[i]? = some fd ∧ chkDef G N d fd = true
  | [], [], [], i, d, _, e => by simp at e
  | d :: ds, n :: ns, f :: fs, 0, d', h, e => by
    simp at e
    subst e
    exact ⟨n, f, rfl, rfl, (and2 h).1⟩
  | d :: ds, n :: ns, f :: fs, i + 1, d', h, e => by
    obtain ⟨N, fd, h1, h2, h3⟩ := chkDefs_at (i := i) (d := d') (and2 h).2 (by simpa using e)
    exact ⟨N, fd, by simpa using h1, by simpa using h2, h3⟩
  | [], [], _ :: _, _, _, h, _ => by cases h
  | [], _ :: _, _, _, _, h, _ => by cases h
  | _ :: _, [], _, _, _, h, _ => by cases h
  | _ :: _, _ :: _, [], _, _, h, _ => by cases h
section
variable {G : GT} {D : List He.DefD} {Ns : List (List Str)} {Pr : List FnDecl} {K : PySem.W.Frag}
theorem fact_in {fa : List He.Fa} {fn : List He.DefD} (c : He.SaysD fa fn K) {f : He.Fa} (h : f ∈ fa) : f.ok K = true := by
  have c1 := (He.ba (show ((fa.all fun f => f.ok K) && fn.all fun d => d.ok K) = true from congrArg (fun z : He.AlD => z.1) c)).1
  exact List.all_eq_true.mp c1 f h
end
/-! ### the head's hook: the defs, the facts, the modules' dict -/
def dict1 (K : PySem.W.Frag) : Bool := match K.lookup sysModules with
  | some ⟨_, _, .dict _ _, _⟩ => true
  | _ => false
theorem dict1_ok {K : PySem.W.Frag} {h : Heap} (hK : K.In h) (c : dict1 K = true) : ∃ (o : Obj) (es : Array DictEntry) (ep : Nat), h.get? sysModules = some o ∧ o.data = .dict es ep := by
  unfold dict1 at c
  cases e : K.lookup sysModules with
  | none => rw [e] at c; cases c
  | some o =>
    rw [e] at c
    obtain ⟨oc, od, dt, sl⟩ := o
    cases dt with
    | dict es ep => exact ⟨_, es, ep, hK _ _ e, rfl⟩
    | _ => cases c
section
open PySem.Spec PyProof.Rows
theorem room_pi {k : Nat} (h : k ≤ 230) : Room k callerA := ⟨rfl, by show 1 + claimMargin + 3 * k + 5 < recursionLimit; unfold claimMargin recursionLimit; omega, by show 4 + 16 * k + 200 < cLine; unfold cLine; omega⟩
end
end PI
namespace PI
open PySem L2
def nameOf : Stmt → Str
  | .FunctionDef x _ _ _ _ _ _ _ _ _ => x
  | .ClassDef x _ _ _ _ _ _ _ _ _ _ => x
  | _ => ""
/-- the datum of a def at the module's top -/
def topD (s : Stmt) : He.DefD := { at_ := (nameOf s, none), name := nameOf s, qual := nameOf s, params := defArgs s, body := defBody s, scope := defScope s }
def stsOf : Stmt → List Stmt
  | .ClassDef _ _ _ b _ _ _ _ _ _ _ => b
  | _ => []
/-- the datum of a class's def -/
def methD (s : Stmt) (m : Str) : He.DefD :=
  let f := ((stsOf s).find? fun d => decide (nameOf d = m)).getD (.Pass ⟨0, 0, 0, 0⟩)
  { at_ := (nameOf s, some m), name := m, qual := nameOf s ++ ("." : Str) ++ m, params := defArgs f, body := defBody f, scope := defScope f }
end PI
set_option maxRecDepth 100000
set_option maxHeartbeats 1000000
/-! Tests over the written part: a class of errors. -/
namespace PIErr
open PySem PySem.W
def clsB (K : Frag) (C : Addr) (bmB : List Value) (newId : String) : Bool := match K.lookup C with
  | some ⟨.type "type", _, .cls cd, sl⟩ => (match cd.mro, sl.toList with
    | .ref C' :: bm, [_, _, _, _, some (.builtin n), _] => decide (C' = C) && (decide (n = newId) && (!cd.hasDel && (cd.hasDict && refsThen bmB (.ref C' :: bm))))
    | _, _ => false)
  | _ => false
theorem clsB_ok {K : Frag} {C : Addr} {bmB : List Value} {newId : String} (h : clsB K C bmB newId = true) : ∃ (nm q : Str) (N : Addr) (bs bm : List Value) (sn : List Str) (sub : List Value) (ab : Bool) (col : Option Bool) (dd : Option Addr) (k0 k1 k2 k3 k5 : Option Value), K.lookup C = some (excClassObj nm q C N bs bm true sn sub ab col dd k0 k1 k2 k3 k5 newId) ∧ refsThen bmB (.ref C :: bm) = true := by
  unfold clsB at h
  split at h
  · rename_i dd cd sl ho
    split at h
    · rename_i C' bm k0 k1 k2 k3 n k5 hm hs
      simp only [Bool.and_eq_true, decide_eq_true_eq, Bool.not_eq_true'] at h
      obtain ⟨rfl, rfl, hdel, hdct, ht⟩ := h
      obtain ⟨nm, bs, mro, ns, qn, hd, sn, sub, ab, col, del⟩ := cd
      dsimp only at hm hdel hdct
      subst hm hdel hdct
      have hsl : sl = #[k0, k1, k2, k3, some (.builtin n), k5] := by
        obtain ⟨l⟩ := sl
        simp only at hs
        rw [hs]
      subst hsl
      exact ⟨nm, qn, ns, bs, bm, sn, sub, ab, col, dd, k0, k1, k2, k3, k5, ho, ht⟩
    · cases h
  · cases h
end PIErr
set_option maxRecDepth 100000
set_option maxHeartbeats 1000000
namespace PIErr
open PySem PySem.W
/-- what an __init__ shows of itself -/
abbrev InitV : Type := Option (Str × Str × Arguments × FuncBody × Scope × Addr × List Str × Addr)
def initObs (K : Frag) (f : Addr) : InitV := match K.lookup f with
  | some ⟨_, _, .func fd, _⟩ => some (fd.name, fd.qualname, fd.params, fd.body, fd.scope, fd.globals, fd.closure.map (fun z => z.1), fd.builtins)
  | _ => none
/-- .. and the rest, as a test: no defaults, its code's name and file, its cell holds the class at C -/
def initB (K : Frag) (f C : Addr) (file : Str) : Bool := match K.lookup f with
  | some ⟨_, _, .func fd, _⟩ => (match fd.defaults, fd.kwdefaults, fd.code, fd.closure with
    | .none, .none, .ref cda, [(_, cc)] => codeIn K (.ref cda) fd.qualname && ((match K.lookup cda with
      | some ⟨_, _, .fields vs, _⟩ => (match (vs[2]? : Option Value) with
        | some (Value.str z _) => file == z
        | _ => false)
      | _ => false) && (match K.lookup cc with
      | some ⟨_, _, .cell (some (.ref D)), _⟩ => decide (D = C)
      | _ => false))
    | _, _, _, _ => false)
  | _ => false
theorem init_ok {K : Frag} {f C : Addr} {file qual : Str} {params : Arguments} {body : List Stmt} {scope : Scope} (e : initObs K f = (some (("__init__" : Str), qual, params, FuncBody.stmts body, scope, mainGlobals, [("__class__" : Str)], builtinsNs) : InitV)) (h : initB K f C file = true) :
    ∃ (oc : Value) (od : Option Addr) (doc pm : Value) (an : Option Addr) (cda : Addr) (ct : Value) (cc : Addr) (osl : Array (Option Value)), K.lookup f = some ⟨oc, od, .func (ksFn "__init__" qual params body scope .none .none doc pm an (.ref cda) ct cc), osl⟩ ∧ codeIn K (.ref cda) qual = true ∧
    (∃ (ccl : Value) (cdd : Option Addr) (vs : Array Value) (ccs : Array (Option Value)) (z : Str) (tf : Tok), K.lookup cda = some ⟨ccl, cdd, .fields vs, ccs⟩ ∧ vs[2]? = some (.str z tf) ∧ (file == z) = true) ∧ ∃ (cl : Value) (cld : Option Addr) (csl : Array (Option Value)), K.lookup cc = some ⟨cl, cld, .cell (some (.ref C)), csl⟩ := by
  unfold initObs at e
  unfold initB at h
  cases q : K.lookup f with
  | none => rw [q] at e; cases e
  | some o =>
    obtain ⟨oc, od, dt, osl⟩ := o
    rw [q] at e h
    cases dt with
    | func fd =>
      obtain ⟨n1, n2, n3, n4, n5, n6, n7, n8, n9, n10, n11, n12, n13, n14, n15⟩ := fd
      dsimp only at e h
      simp only [Option.some.injEq, Prod.mk.injEq] at e
      obtain ⟨h1, h2, h3, h4, h5, h6, h7, h8⟩ := e
      subst h1 h2 h3 h4 h5 h6 h8
      split at h
      · rename_i cda nm cc
        simp only [List.map_cons, List.map_nil, List.cons.injEq, and_true] at h7
        subst h7
        rw [Bool.and_eq_true, Bool.and_eq_true] at h
        obtain ⟨g1, g2, g3⟩ := h
        refine ⟨oc, od, _, _, _, cda, _, cc, osl, rfl, g1, ?_, ?_⟩
        · split at g2
          · rename_i vs _ q2
            split at g2
            · rename_i z tf q3
              exact ⟨_, _, vs, _, z, tf, q2, q3, g2⟩
            · cases g2
          · cases g2
        · split at g3
          · rename_i D _ q4
            have := of_decide_eq_true g3
            subst this
            exact ⟨_, _, _, q4⟩
          · cases g3
      · cases h
    | _ => cases e
end PIErr
set_option maxRecDepth 100000
set_option maxHeartbeats 1000000
namespace PIErr
open PySem PySem.W
/-- a built-in class that errors are derived from -/
structure BaseOk (B i newId sid sow : String) (bmB : List Value) : Prop where
  BF : BaseF B i newId bmB
  KF : KxsFacts B i
  ST : StoreFacts B bmB sid sow
  ob : bmB.contains (.type "object") = true
theorem base_IndexError : BaseOk "IndexError" "IndexError.__init__" "IndexError.__new__" "object.__setattr__" "object" [.type "IndexError", .type "LookupError", .type "Exception", .type "BaseException", .type "object"] := ⟨.of F.excBase_IndexError, kxs_IndexError, F.store_IndexError, by decide +kernel⟩
/-- everything else that is asked of the class named x -/
def errB (K : Frag) (x fld file : Str) (B i newId : String) (bmB : List Value) : Bool :=
  clsB K (He.ga K x) bmB newId && initB K (He.ma K (He.ga K x) "__init__") (He.ga K x) file && decide (findIn K (.ref (He.ga K x)) "__setattr__" = some (some (.builtin "object.__setattr__"))) && decide (findIn K (.ref (He.ga K x)) fld = some none) &&
  decide (ks_superIn K (He.ga K x) (He.ga K x) "__init__" = some (some (.builtin i))) && decide (subIn K (.ref (He.ga K x)) (.type B) = some true) && decide (mroIn K (He.ga K x) (.ref (He.ga K x)) = some true) && decide (nsIn K cStatics "thirdparty.any" = some none) && decide (nsIn K mainGlobals "super" = some none) &&
  decide (findIn K (.ref (He.ga K x)) "__init__" = some (some (.ref (He.ma K (He.ga K x) "__init__")))) && decide (typeIn K (.ref (He.ma K (He.ga K x) "__init__")) = some (.type "function")) && keepIn K (.ref (He.ga K x)) && decide (subIn K (.ref (He.ga K x)) (.type "BaseException") = some true) &&
  decide (typeIn K (.ref (He.ga K x)) = some (.type "type")) && decide (exmOne K (.ref (He.ga K x)) (.ref (He.ga K x)) = some true) && L2.xfB K (He.ga K x) && decide (nsIn K mainGlobals x = some (some (.ref (He.ga K x))))
end PIErr
namespace PIErr
open PySem PySem.W
theorem and2' {a b : Bool} (h : (a && b) = true) : a = true ∧ b = true := Bool.and_eq_true_iff.mp h
theorem errTxt_of {P : Program} {K : Frag} {x par fld msg qual : Str} {B i newId sid sow : String} {bmB : List Value} {params : Arguments} {body : List Stmt} {scope : Scope} {k : Nat} {a1 a2 a3 a4 a5 a6 b1 b2 b3 b4 : Pos}
    (O : BaseOk B i newId sid sow bmB) (eb : body = initBody par fld msg k a1 a2 a3 a4 a5 a6 b1 b2 b3 b4) (hl : (a3.endLine == a5.line) = true) (hs : initScope par scope = true) (hp : PI.plainA params = true) (ha : (params.args.map fun a => a.arg) = [("self" : Str), par]) (top : (P.main.scope.names.lookup ("super" : Str)).isSome = false)
    (e : initObs K (He.ma K (He.ga K x) "__init__") = (some (("__init__" : Str), qual, params, FuncBody.stmts body, scope, mainGlobals, [("__class__" : Str)], builtinsNs) : InitV)) (h : errB K x fld P.main.file B i newId bmB = true) : ErrTxt P K (He.ga K x) (He.ma K (He.ga K x) "__init__") B i newId sid sow bmB par fld msg := by
  unfold errB at h
  simp only [Bool.and_eq_true, decide_eq_true_eq] at h
  obtain ⟨⟨⟨⟨⟨⟨⟨⟨⟨⟨⟨⟨⟨⟨⟨⟨h1, h2⟩, h3⟩, h4⟩, h5⟩, h6⟩, h7⟩, h8⟩, h9⟩, h10⟩, h11⟩, h12⟩, h13⟩, h14⟩, h15⟩, h16⟩, h17⟩ := h
  obtain ⟨oc, od, doc, pm, an, cda, ct, cc, osl, q1, q2, ⟨ccl, cdd, vs, ccs, z, tf, q3, q4, q5⟩, q6⟩ := init_ok e h2
  exact { BF := O.BF, KF := O.KF, ST := O.ST, ob := O.ob, cls := clsB_ok h1, sa := h3, noF := h4, up := h5, subB := h6, selfS := h7, opq := h8, sup := h9, top := top, fn := ⟨oc, od, qual, params, body, scope, doc, pm, an, cda, ct, cc, osl, k, a1, a2, a3, a4, a5, a6, b1, b2, b3, b4, q1, q2, eb, hl, hs, hp, ha, ⟨ccl, cdd, vs, ccs, z, tf, q3, q4, q5⟩, q6⟩ }
end PIErr
set_option maxRecDepth 100000
set_option maxHeartbeats 1000000
/-! A law's end where the text has errors of its own. -/
namespace PI
open PySem L2 PIErr
/-- a class of errors, as the text has it -/
structure ErrD where
  x : Str
  par : Str
  fld : Str
  msg : Str
  B : String
  i : String
  newId : String
  sid : String
  sow : String
  bmB : List Value
  st : Stmt
def initSt : Stmt → Stmt
  | .ClassDef _ _ _ (s :: _) _ _ _ _ _ _ _ => s
  | s => s
def ErrD.qual (d : ErrD) : Str := d.x ++ (".__init__" : Str)
def ErrD.val (d : ErrD) : InitV := some (("__init__" : Str), d.qual, defArgs (initSt d.st), FuncBody.stmts (defBody (initSt d.st)), defScope (initSt d.st), mainGlobals, [("__class__" : Str)], builtinsNs)
/-- the text of __init__ has the form -/
def formB (d : ErrD) : Bool := match defBody (initSt d.st) with
  | [.Expr (.Call (.Attribute (.Call (.Name u a1) [] [] a2) v a3) [.Constant (.str m) k a4] [] a5) a6, .Assign [.Attribute (.Name w b1) f b2] (.Name p b3) b4] =>
    decide (u = ("super" : Str)) && (decide (v = ("__init__" : Str)) && (decide (m = d.msg) && (decide (w = ("self" : Str)) && (decide (f = d.fld) && (decide (p = d.par) && a3.endLine == a5.line)))))
  | _ => false
theorem form_ok {d : ErrD} (h : formB d = true) : ∃ (k : Nat) (a1 a2 a3 a4 a5 a6 b1 b2 b3 b4 : Pos), defBody (initSt d.st) = initBody d.par d.fld d.msg k a1 a2 a3 a4 a5 a6 b1 b2 b3 b4 ∧ (a3.endLine == a5.line) = true := by
  unfold formB at h
  split at h
  · rename_i u a1 a2 v a3 m k a4 a5 a6 w b1 f b2 p b3 b4 e
    simp only [Bool.and_eq_true, decide_eq_true_eq] at h
    obtain ⟨rfl, rfl, rfl, rfl, rfl, rfl, hl⟩ := h
    exact ⟨k, a1, a2, a3, a4, a5, a6, b1, b2, b3, b4, e, hl⟩
  · cases h
end PI
namespace PI
open PySem L2 PIErr
/-- the test of a class's text -/
def chkErr (P : Program) (d : ErrD) : Bool := formB d && (initScope d.par (defScope (initSt d.st)) && (plainA (defArgs (initSt d.st)) && (decide (((defArgs (initSt d.st)).args.map fun a => a.arg) = [("self" : Str), d.par]) && decide ((P.main.scope.names.lookup ("super" : Str)).isSome = false))))
/-- places and names of classes -/
def errA (K : PySem.W.Frag) (es : List ErrD) (c : Nat) : Addr := match es[c]? with
  | some d => He.ga K d.x
  | none => 0
def errF (es : List ErrD) (c : Nat) : Str := match es[c]? with
  | some d => d.fld
  | none => ""
def errΓ (K : PySem.W.Frag) (es : List ErrD) : Cls1 := { K := K, cA := errA K es, cF := errF es, cP := fun _ => true }
theorem errUse_of {P : Program} {K : PySem.W.Frag} {es : List ErrD} {c : Nat} {d : ErrD} (he : es[c]? = some d) (O : BaseOk d.B d.i d.newId d.sid d.sow d.bmB) (h : chkErr P d = true) (e : initObs K (He.ma K (He.ga K d.x) "__init__") = d.val) (hb : errB K d.x d.fld P.main.file d.B d.i d.newId d.bmB = true)
    {X : Cx} (eP : X.prog = P) (eK : X.K = K) (hm : X.mg d.x = some (.ref (He.ga K d.x))) : ErrUse (errΓ K es) X d.x d.fld c := by
  subst eP eK
  unfold chkErr at h
  obtain ⟨h1, h⟩ := and2 h
  obtain ⟨h2, h⟩ := and2 h
  obtain ⟨h3, h⟩ := and2 h
  obtain ⟨h4, h5⟩ := and2 h
  obtain ⟨k, a1, a2, a3, a4, a5, a6, b1, b2, b3, b4, eb, hl⟩ := form_ok h1
  have T := errTxt_of O eb hl h2 h3 (of_decide_eq_true h4) (of_decide_eq_true h5) e hb
  have eA : (errΓ X.K es).cA c = He.ga X.K d.x := by
    show errA X.K es c = _
    unfold errA
    rw [he]
  have eF : (errΓ X.K es).cF c = d.fld := by
    show errF es c = _
    unfold errF
    rw [he]
  unfold errB at hb
  simp only [Bool.and_eq_true, decide_eq_true_eq] at hb
  obtain ⟨⟨⟨⟨⟨⟨⟨⟨⟨⟨⟨⟨⟨⟨⟨⟨g1, g2⟩, g3⟩, g4⟩, g5⟩, g6⟩, g7⟩, g8⟩, g9⟩, g10⟩, g11⟩, g12⟩, g13⟩, g14⟩, g15⟩, g16⟩, g17⟩ := hb
  refine ⟨⟨⟨He.ma X.K (He.ga X.K d.x) "__init__", d.B, d.i, d.newId, d.sid, d.sow, d.bmB, d.par, d.msg, ?_, ?_, g11⟩, ?_, ?_, ?_, rfl⟩, eF, ?_, ?_, ?_⟩
  · rw [eA, eF]; exact T
  · rw [eA]; exact g10
  · rw [eA]; exact hm
  · rw [eA]; exact g12
  · rw [eA]; exact raises_own g13 g14
  · rw [eA]; exact g15
  · rw [eA]; exact xfB_ok g16
  · rw [eA, eF]; exact g4
end PI
set_option maxRecDepth 100000
set_option maxHeartbeats 1000000
/-! A law's end: errors, objects. -/
namespace PI
open PySem L2 PIErr
def fnA (K : PySem.W.Frag) (a : Addr) : He.FnW := match K.lookup a with
  | some o => (match o.data with
    | .func fd => some (fd.name, fd.qualname, fd.params, fd.body, fd.scope, fd.globals, fd.closure, fd.builtins)
    | _ => none)
  | none => none
def okA (K : PySem.W.Frag) (a : Addr) (d : He.DefD) : Bool := PySem.W.keepIn K (.ref a) && (match K.lookup a with
  | some o => (match o.data with
    | .func fd => PySem.W.codeIn K fd.code d.qual && He.dflB K fd.defaults (d.dvs K) && He.kwdB K fd.kwdefaults (d.kws K)
    | _ => false)
  | none => false)
theorem funD_at {K : PySem.W.Frag} {a : Addr} {d : He.DefD} (e : fnA K a = d.val) (c : okA K a d = true) : ∃ fd, FunD K d.name d.qual d.params d.body d.scope (d.dvs K) (d.kws K) a fd := by
  unfold okA at c
  obtain ⟨kp, c⟩ := and2 c
  unfold fnA at e
  cases q : K.lookup a with
  | none => rw [q] at c; cases c
  | some o =>
    rw [q] at c e
    obtain ⟨o1, o2, o3, o4⟩ := o
    dsimp only at c e
    split at c
    · rename_i fd
      obtain ⟨f1, f2, f3, f4, f5, f6, f7, f8, f9, f10, f11, f12, f13, f14, f15⟩ := fd
      obtain ⟨c, c3⟩ := and2 c
      obtain ⟨c1, c2⟩ := and2 c
      unfold He.DefD.val at e
      simp only [Option.some.injEq, Prod.mk.injEq] at e
      obtain ⟨rfl, rfl, rfl, rfl, rfl, rfl, rfl, rfl⟩ := e
      exact ⟨_, ⟨o1, o2, f8, f9, f10, f11, f12, f13, f14, o4, rfl, q, c1, He.dflB_ok c2, He.kwdB_ok c3⟩, kp⟩
    · cases c
/-! ### a class of objects -/
def slotB (K : PySem.W.Frag) (C : Addr) (f : Str) (i : Nat) : Bool := decide (PySem.W.findIn K (.ref C) f = some (some (.ref (He.ma K C f)))) && (decide (PySem.W.specialIn K (.ref (He.ma K C f)) "__get__" = some (some (.builtin "member_descriptor.__get__"))) &&
  (decide (PySem.W.takesIn K (.ref (He.ma K C f)) = some true) && (decide (PySem.W.typeIn K (.ref (He.ma K C f)) = some (.type "member_descriptor")) && (decide (PySem.W.slotIn K (He.ma K C f) C = some i) && decide (i < 1000)))))
theorem slotB_ok {K : PySem.W.Frag} {C : Addr} {f : Str} {i : Nat} (h : slotB K C f i = true) : ∃ p, SlX.Slot1 K C f p i := by
  unfold slotB at h
  obtain ⟨h1, h⟩ := and2 h
  obtain ⟨h2, h⟩ := and2 h
  obtain ⟨h3, h⟩ := and2 h
  obtain ⟨h4, h⟩ := and2 h
  obtain ⟨h5, h6⟩ := and2 h
  exact ⟨_, of_decide_eq_true h1, of_decide_eq_true h2, of_decide_eq_true h3, of_decide_eq_true h4, of_decide_eq_true h5, of_decide_eq_true h6⟩
def methB (K : PySem.W.Frag) (C : Addr) (m : Str) (a : Addr) : Bool := decide (PySem.W.findIn K (.ref C) m = some (some (.ref a))) && (PySem.W.isFn K (.ref a) && PySem.W.keepIn K (.ref a))
theorem methB_ok {K : PySem.W.Frag} {C : Addr} {m : Str} {a : Addr} (h : methB K C m a = true) : L2.Meth K C m a := by
  unfold methB at h
  obtain ⟨h1, h⟩ := and2 h
  obtain ⟨h2, h3⟩ := and2 h
  exact ⟨of_decide_eq_true h1, h2, h3⟩
def headIs (a : Addr) : Option (List Value) → Bool
  | some (.ref g :: _) => g == a
  | _ => false
def propB (K : PySem.W.Frag) (C : Addr) (m : Str) (a : Addr) : Bool := decide (PySem.W.findIn K (.ref C) m = some (some (.ref (He.ma K C m)))) && (decide (PySem.W.specialIn K (.ref (He.ma K C m)) "__get__" = some (some (.builtin "property.__get__"))) &&
  (decide (PySem.W.takesIn K (.ref (He.ma K C m)) = some true) && headIs a (PySem.W.recIn K (He.ma K C m) "property")))
theorem propB_ok {K : PySem.W.Frag} {C : Addr} {m : Str} {a : Addr} (h : propB K C m a = true) : ∃ p, PySem.W.findIn K (.ref C) m = some (some (.ref p)) ∧ PySem.W.specialIn K (.ref p) "__get__" = some (some (.builtin "property.__get__")) ∧ PySem.W.takesIn K (.ref p) = some true ∧ ∃ rest, PySem.W.recIn K p "property" = some (.ref a :: rest) := by
  unfold propB at h
  obtain ⟨h1, h⟩ := and2 h
  obtain ⟨h2, h⟩ := and2 h
  obtain ⟨h3, h4⟩ := and2 h
  refine ⟨_, of_decide_eq_true h1, of_decide_eq_true h2, of_decide_eq_true h3, ?_⟩
  unfold headIs at h4
  split at h4
  · rename_i g rest e
    have e2 : g = a := eq_of_beq h4
    subst e2
    exact ⟨rest, e⟩
  · cases h4
def objB (K : PySem.W.Frag) (adr : Nat → Addr) (nD : Nat) (o : ObjG) : Bool :=
  PySem.W.plainGet K (He.ga K o.name) Str.empty && (PySem.W.isClsIn K (He.ga K o.name) && (PySem.W.plainOver K (He.ga K o.name) && (decide (PySem.W.findIn K (.ref (He.ga K o.name)) "__setattr__" = some (some (.builtin "object.__setattr__"))) &&
  ((match o.init with
    | none => true
    | some n => PySem.W.makesIn K (He.ga K o.name) && (decide (PySem.W.findIn K (.ref (He.ga K o.name)) "__init__" = some (some (.ref (adr n)))) && (PySem.W.isFn K (.ref (adr n)) && (PySem.W.keepIn K (.ref (He.ga K o.name)) && decide (n < nD))))) &&
  ((List.range o.slots.length).all (fun i => match o.slots[i]? with
    | some f => slotB K (He.ga K o.name) f i
    | none => true) &&
  (o.meths.all (fun p => methB K (He.ga K o.name) p.1 (adr p.2) && decide (p.2 < nD)) &&
  o.props.all fun p => propB K (He.ga K o.name) p.1 (adr p.2) && decide (p.2 < nD)))))))
theorem objB_ok {K : PySem.W.Frag} {mg : Str → Option Value} {adr : Nat → Addr} {D : List He.DefD} {o : ObjG} (hm : mg o.name = some (.ref (He.ga K o.name))) (h : objB K adr D.length o = true) : ObjK K mg (He.ga K o.name) adr D o := by
  unfold objB at h
  obtain ⟨h1, h⟩ := and2 h
  obtain ⟨h2, h⟩ := and2 h
  obtain ⟨h3, h⟩ := and2 h
  obtain ⟨h4, h⟩ := and2 h
  obtain ⟨h5, h⟩ := and2 h
  obtain ⟨h6, h⟩ := and2 h
  obtain ⟨h7, h8⟩ := and2 h
  refine ⟨⟨h1, h2, h3, of_decide_eq_true h4⟩, fun n en => ?_, fun i f e => ?_, fun m n e => ?_, fun m n e => ?_⟩
  · rw [en] at h5
    obtain ⟨g1, h5⟩ := and2 h5
    obtain ⟨g2, h5⟩ := and2 h5
    obtain ⟨g3, h5⟩ := and2 h5
    obtain ⟨g4, g5⟩ := and2 h5
    exact ⟨hm, ⟨g1, of_decide_eq_true g2, g3, g4⟩, of_decide_eq_true g5⟩
  · have := List.all_eq_true.mp h6 i (List.mem_range.mpr (List.getElem?_eq_some_iff.mp e).1)
    rw [e] at this
    exact slotB_ok this
  · obtain ⟨g1, g2⟩ := and2 (List.all_eq_true.mp h7 _ e)
    exact ⟨methB_ok g1, of_decide_eq_true g2⟩
  · obtain ⟨g1, g2⟩ := and2 (List.all_eq_true.mp h8 _ e)
    exact ⟨of_decide_eq_true g2, propB_ok g1⟩
/-! ### the hook -/
def faO (G : GT) (es : List ErrD) : List He.Fa := faOf G ++ (es.map (fun d => He.Fa.glo d.x) ++ G.objs.map fun o => He.Fa.glo o.name)
abbrev AlO : Type := Bool × (Bool × (List InitV × (Bool × List He.FnW)))
def obsO (file : Str) (es : List ErrD) (G : GT) (D : List He.DefD) (K : PySem.W.Frag) : AlO :=
  (dict1 K, es.all (fun d => errB K d.x d.fld file d.B d.i d.newId d.bmB), es.map (fun d => initObs K (He.ma K (He.ga K d.x) "__init__")),
    (faO G es).all (fun f => f.ok K) && ((List.range D.length).all (fun i => match D[i]? with
      | some d => okA K (adrO G D K i) d
      | none => true) && G.objs.all (objB K (adrO G D K) D.length)), (List.range D.length).map fun i => fnA K (adrO G D K i))
def obsOG (file : Str) (es : List ErrD) (G : GT) (D : List He.DefD) (n : Nat) (g : Addr → Option Obj) : AlO := obsO file es G D (He.frG g (sysModules :: cStatics :: He.asD g n))
def valO (es : List ErrD) (D : List He.DefD) : AlO := (true, true, es.map ErrD.val, true, D.map He.DefD.val)
def saysO (file : Str) (es : List ErrD) (G : GT) (D : List He.DefD) (h : Heap) : Prop := ∃ K : PySem.W.Frag, K.In h ∧ obsO file es G D K = valO es D
def hookO (file : Str) (es : List ErrD) (G : GT) (D : List He.DefD) (n : Nat) : PySem.W.Hook where
  α := AlO
  obs := fun s => obsOG file es G D n s.heap.get?
  val := fun _ => valO es D
  says := fun _ h => saysO file es G D h
  of := fun _ _ e => ⟨_, He.frG_in, e⟩
  keeps := fun _ _ _ ⟨K, hK, c⟩ k => ⟨K, PySem.W.Frag.In.keeps hK k, c⟩
theorem obsOG_eq {file : Str} {es : List ErrD} {G : GT} {D : List He.DefD} {n : Nat} {g : Addr → Option Obj} {s : Shared} (h : ∀ a, g a = s.heap.get? a) : obsOG file es G D n g = (hookO file es G D n).obs s := by
  have e : g = s.heap.get? := funext h
  subst e
  rfl
def chkAllO (P : Program) (es : List ErrD) (G : GT) (D : List He.DefD) (Ns : List (List Str)) (Pr : List FnDecl) : Bool := decide (G.fns = (D.take G.fns.length).map fun d => d.at_.1) && ((D.take G.fns.length).all (fun d => d.at_.2.isNone) && ((List.range G.fns.length).all (fun i => !isPr G i) &&
  (G.cst.all (fun p => (cstFa p).isSome) && (decide (G.errs = es.map fun d => (d.x, d.fld)) && (es.all (chkErr P) && (G.vals.isEmpty && (G.isas.isEmpty && chkDefs G D Ns Pr)))))))
/-- each class's base has its facts -/
def Bases (es : List ErrD) : Prop := ∀ d ∈ es, BaseOk d.B d.i d.newId d.sid d.sow d.bmB
def objA (K : PySem.W.Frag) (G : GT) (c : Nat) : Addr := match G.objs[c]? with
  | some o => He.ga K o.name
  | none => 0
def objΓ (K : PySem.W.Frag) (es : List ErrD) (G : GT) : Cls1 := { K := K, cA := errA K es, cF := errF es, cP := fun _ => true, cO := objA K G }
section
variable {G : GT} {D : List He.DefD} {Ns : List (List Str)} {Pr : List FnDecl} {K : PySem.W.Frag} {es : List ErrD}
theorem mods_ofO {P : Program} (bs : Bases es) (chk : chkAllO P es G D Ns Pr = true) (c : obsO P.main.file es G D K = valO es D) {h base : Heap} {mg : Str → Option Value} (hK : K.In h) (hg : h.Ns mainGlobals mg)
    (sys : ∃ (o : Obj) (es : Array DictEntry) (ep : Nat), base.get? sysModules = some o ∧ o.data = .dict es ep) : Mods P (objΓ K es G) G D Ns Pr K mg base := by
  have cE : (es.all fun d => errB K d.x d.fld P.main.file d.B d.i d.newId d.bmB) = true := congrArg (fun z : AlO => z.2.1) c
  have cI : (es.map fun d => initObs K (He.ma K (He.ga K d.x) "__init__")) = es.map ErrD.val := congrArg (fun z : AlO => z.2.2.1) c
  have cB := congrArg (fun z : AlO => z.2.2.2.1) c
  have cF : (List.range D.length).map (fun i => fnA K (adrO G D K i)) = D.map He.DefD.val := congrArg (fun z : AlO => z.2.2.2.2) c
  obtain ⟨b1, cB⟩ := and2 (show ((faO G es).all (fun f => f.ok K) && ((List.range D.length).all (fun i => match D[i]? with
      | some d => okA K (adrO G D K i) d
      | none => true) && G.objs.all (objB K (adrO G D K) D.length))) = true from cB)
  obtain ⟨b2, b3⟩ := and2 cB
  unfold chkAllO at chk
  obtain ⟨c1, chk⟩ := and2 chk
  obtain ⟨c2, chk⟩ := and2 chk
  obtain ⟨c3, chk⟩ := and2 chk
  obtain ⟨c4, chk⟩ := and2 chk
  obtain ⟨c5, chk⟩ := and2 chk
  obtain ⟨c6, chk⟩ := and2 chk
  obtain ⟨c7, chk⟩ := and2 chk
  obtain ⟨c8, c9⟩ := and2 chk
  have c1 := of_decide_eq_true c1
  have c5 := of_decide_eq_true c5
  have fact : ∀ f ∈ faO G es, f.ok K = true := fun f hf => List.all_eq_true.mp b1 f hf
  have factG : ∀ f ∈ faOf G, f.ok K = true := fun f hf => fact f (List.mem_append_left _ hf)
  refine ⟨rfl, fun i d e => ⟨?_, chkDefs_at c9 e⟩, fun i x e => ?_, fun x hx => ?_, fun x d hx => ?_, sys, rfl, fun X eP eK em c' x f e => ?_, fun X _ _ _ c x f e => (by rw [List.isEmpty_iff.mp c7] at e; simp at e), fun X _ _ _ p hp => (by rw [List.isEmpty_iff.mp c8] at hp; simp at hp), fun c' o e => ?_⟩
  · have hi : i < D.length := (List.getElem?_eq_some_iff.mp e).1
    have e1 := congrArg (fun l : List He.FnW => l[i]?) cF
    simp only [List.getElem?_map, List.getElem?_range hi, e, Option.map_some, Option.some.injEq] at e1
    have e2 := List.all_eq_true.mp b2 i (List.mem_range.mpr hi)
    rw [e] at e2
    exact funD_at e1 e2
  · have hl : i < G.fns.length := (List.getElem?_eq_some_iff.mp e).1
    have e0 := e
    rw [c1, List.getElem?_map, List.getElem?_take, if_pos hl] at e
    obtain ⟨d, h1, h2⟩ := opt_map e
    refine ⟨d, h1, h2, ?_⟩
    have n1 : isPr G i = false := notb (List.all_eq_true.mp c3 i (List.mem_range.mpr hl))
    have n2 := List.all_eq_true.mp c2 d (List.mem_of_getElem? (show (D.take G.fns.length)[i]? = some d by rw [List.getElem?_take, if_pos hl, h1]))
    have e4 : adrO G D K i = He.ga K d.at_.1 := by
      unfold adrO
      rw [h1]
      dsimp only
      rw [n1, if_neg Bool.false_ne_true]
      unfold He.fAd
      cases q : d.at_.2 with
      | none => rfl
      | some _ => rw [q] at n2; cases n2
    rw [e4, h2]
    exact He.glo_ok hK hg (factG _ (List.mem_append_left _ (List.mem_map_of_mem (List.mem_of_getElem? e0))))
  · exact He.free_ok hK hg (factG _ (List.mem_append_right _ (List.mem_append_left _ (List.mem_map_of_mem hx))))
  · have e0 : ∀ f, cstFa (x, d) = some f → f.ok K = true := fun f e => factG _ (List.mem_append_right _ (List.mem_append_right _ (List.mem_filterMap.mpr ⟨_, hx, e⟩)))
    have e1 := List.all_eq_true.mp c4 _ hx
    cases d with
    | int i =>
      obtain ⟨t, e⟩ := He.int_ok hK hg (e0 _ rfl)
      exact ⟨.int i, _, e, ⟨t, rfl⟩, fun _ _ => .int i⟩
    | str s =>
      obtain ⟨t, e⟩ := He.str_ok hK hg (e0 _ rfl)
      exact ⟨.str s, _, e, ⟨t, rfl⟩, fun _ _ => .str s⟩
    | _ => cases e1
  · rw [c5, List.getElem?_map] at e
    obtain ⟨d, h1, h2⟩ := opt_map e
    cases h2
    have hd := List.mem_of_getElem? h1
    have o1 : initObs K (He.ma K (He.ga K d.x) "__init__") = d.val := by
      have := congrArg (fun l : List InitV => l[c']?) cI
      simp only [List.getElem?_map, h1] at this
      exact Option.some.inj this
    have o2 := He.glo_ok hK hg (fact _ (List.mem_append_right _ (List.mem_append_left _ (List.mem_map_of_mem (f := fun d : ErrD => He.Fa.glo d.x) hd))))
    have U := errUse_of h1 (bs d hd) (List.all_eq_true.mp c6 d hd) o1 (List.all_eq_true.mp cE d hd) eP eK (by rw [em]; exact o2)
    exact ⟨⟨U.at_.ex, U.at_.mg, U.at_.kp, U.at_.rs, U.at_.pay⟩, U.eF, U.ex, U.xf, U.no⟩
  · have ho := List.mem_of_getElem? e
    have eC : (objΓ K es G).cO c' = He.ga K o.name := by
      show objA K G c' = _
      unfold objA
      rw [e]
    rw [eC]
    exact objB_ok (He.glo_ok hK hg (fact _ (List.mem_append_right _ (List.mem_append_right _ (List.mem_map_of_mem (f := fun o : ObjG => He.Fa.glo o.name) ho))))) (List.all_eq_true.mp b3 o ho)
end
section
open PySem.Spec PyProof.Rows
theorem walk_piO {l : PySem.W.OpenLaw} {n k i : Nat} {G : GT} {D : List He.DefD} {Ns : List (List Str)} {Pr : List FnDecl} {x : Str} {dd : He.DefD} {q : Program} {loose : List Str} {XP : (Str → Option Value) → Heap → Prop} {d : DefRec} {es : List ErrD}
    (hn : l.most = some n) (hn2 : n ≤ sizeLine) (hdf : d.params.defaults = []) (hk : 3 * k ≤ 230) (bs : Bases es) (chk : chkAllO l.prog es G D Ns Pr = true) (hi : D[i]? = some dd) (hf : G.fns[i]? = some d.name) (hx : parN dd = [x])
    (plain : ∀ ns : List Int, ns.length ≤ n → ∃ h', run Pr k i [.scr ns] [] = .ok (.bl true) h') : PySem.W.WalkO q loose XP (fun _ h => saysO l.prog.main.file es G D h) l.row.toRowW d [] (fun f vs => PySem.call f vs) := by
  refine Att.attach_call hn hdf fun w s₀ s₁ mg mb fa o pm cd doc a vs ns Gr Y ho hd hcd hmg hobj hints hlen hg => ?_
  obtain ⟨K, hK, c⟩ := Y
  have cd1 : dict1 K = true := congrArg (fun z : AlO => z.1) c
  have sysB := fun (base : Heap) (kin : K.In base) => dict1_ok kin cd1
  have mods := fun base sys => mods_ofO (P := l.prog) (base := base) bs chk c hK Gr.T.g sys
  have sys0 := sysB _ hK
  obtain ⟨⟨fdv, F⟩, N, fd, _, _, hc⟩ := (mods _ sys0).dfs i dd hi
  obtain ⟨_, _, _, m1⟩ := (mods _ sys0).len i _ hf
  have e : fa = adrO G D K i := by
    rw [hmg] at m1
    cases m1
    rfl
  subst e
  obtain ⟨_, hb⟩ := binds_ok F hc
  rw [hx] at hb
  refine law_ends hK Gr.T.g Gr.T.b Gr.T.builtins Gr.T.nolimit hg hobj hints (Nat.le_trans hlen hn2) (room_pi hk) (k := 3 * k) (sp := spF (objΓ K es G) (run Pr k) i) (x := x) (fun base kin hgb => ?_) (fun s u => hb s [u] rfl) fun H hS => ?_
  · rw [← hx]
    exact levels (mods base (sysB base kin)) k i dd fdv hi F
  · obtain ⟨h', e⟩ := plain ns hlen
    refine ⟨⟨[], [], fun _ => False⟩, [.scr ns], .cons (.scr (.inr hS)) .nil, ⟨rfl, .nil, fun n a o e => (by simp at e), fun a z => (List.not_mem_nil z).elim, fun a z => z.elim, fun a z => z.elim⟩, ?_⟩
    show GoD _ _ H (run Pr k i [.scr ns] []) _ _
    rw [e]
    intro W' H' v _ _ _ r
    exact r.isBl
end
end PI
/-! Ways to say what a run gives. -/
namespace PI
theorem run_at {P : List FnDecl} {f : Nat} {fd : FnDecl} (e : P[f]? = some fd) (n : Nat) (xs : List D) (h : AH) : run P (n + 1) f xs h = runBody (run P n) fd xs h := by
  show (match P[f]? with
    | some fd => runBody (run P n) fd xs h
    | none => .fail) = _
  rw [e]
/-- a walk, by what stays true from turn to turn -/
theorem goF_inv {g : D → Rho → AH → Out} {st : AH → Bool} {xs : List D} {ρ : Rho} {h : AH} (I : Nat → Rho → AH → Prop) (h0 : I 0 ρ h) (hst : ∀ i ρ h, i ≤ xs.length → I i ρ h → st h = true)
    (step : ∀ i ρ h x, I i ρ h → xs[i]? = some x → ∃ ρ' h', (g x ρ h = .next ρ' h' ∨ g x ρ h = .cont ρ' h') ∧ I (i + 1) ρ' h') : ∃ ρ' h', goF g st xs ρ h = .next ρ' h' ∧ I xs.length ρ' h' := by
  have main : ∀ (ys : List D) (i : Nat) (ρ : Rho) (h : AH), xs.drop i = ys → i + ys.length = xs.length → I i ρ h → ∃ ρ' h', goF g st ys ρ h = .next ρ' h' ∧ I xs.length ρ' h' := by
    intro ys
    induction ys with
    | nil =>
      intro i ρ h e l hI
      have : i = xs.length := by simpa using l
      subst this
      exact ⟨ρ, h, by unfold goF; rw [hst _ _ _ (Nat.le_refl _) hI]; rfl, hI⟩
    | cons y ys ih =>
      intro i ρ h e l hI
      have hx : xs[i]? = some y := by
        have := congrArg List.head? e
        rw [List.head?_drop] at this
        simpa using this
      have e2 : xs.drop (i + 1) = ys := by
        have := congrArg List.tail e
        rw [List.tail_drop] at this
        simpa using this
      obtain ⟨ρ1, h1, q, hI1⟩ := step i ρ h y hI hx
      have l1 : i ≤ xs.length := by omega
      obtain ⟨ρ2, h2, q2, hI2⟩ := ih (i + 1) ρ1 h1 e2 (by simp at l; omega) hI1
      refine ⟨ρ2, h2, ?_, hI2⟩
      unfold goF
      rw [hst _ _ _ l1 hI]
      rcases q with q | q <;> simp only [q, if_true] <;> exact q2
  exact main xs 0 ρ h rfl (by simp) h0
/-- a row made item by item; each gives one -/
theorem goC_inv {f : D → AH → Res (Option D)} {st : AH → Bool} {xs : List D} {h : AH} (I : Nat → AH → Prop) (R : D → Prop) (h0 : I 0 h) (hst : ∀ i h, i ≤ xs.length → I i h → st h = true)
    (step : ∀ i h x, I i h → xs[i]? = some x → ∃ y h', f x h = .ok (some y) h' ∧ R y ∧ I (i + 1) h') : ∃ ys h', goC f st xs h = .ok ys h' ∧ ys.length = xs.length ∧ (∀ y ∈ ys, R y) ∧ I xs.length h' := by
  have main : ∀ (zs : List D) (i : Nat) (h : AH), xs.drop i = zs → i + zs.length = xs.length → I i h → ∃ ys h', goC f st zs h = .ok ys h' ∧ ys.length = zs.length ∧ (∀ y ∈ ys, R y) ∧ I xs.length h' := by
    intro zs
    induction zs with
    | nil =>
      intro i h e l hI
      have : i = xs.length := by simpa using l
      subst this
      exact ⟨[], h, by unfold goC; rw [hst _ _ (Nat.le_refl _) hI]; rfl, rfl, by simp, hI⟩
    | cons y zs ih =>
      intro i h e l hI
      have hx : xs[i]? = some y := by
        have := congrArg List.head? e
        rw [List.head?_drop] at this
        simpa using this
      have e2 : xs.drop (i + 1) = zs := by
        have := congrArg List.tail e
        rw [List.tail_drop] at this
        simpa using this
      obtain ⟨z, h1, q, r, hI1⟩ := step i h y hI hx
      have l1 : i ≤ xs.length := by omega
      obtain ⟨ys, h2, q2, q3, q4, hI2⟩ := ih (i + 1) h1 e2 (by simp at l; omega) hI1
      refine ⟨z :: ys, h2, ?_, by simp [q3], ?_, hI2⟩
      · unfold goC
        rw [hst _ _ l1 hI]
        simp only [q, if_true, Res.bind, q2, Option.toList]
        rfl
      · intro w hw
        rcases List.mem_cons.mp hw with rfl | hw
        · exact r
        · exact q4 w hw
  exact main xs 0 h rfl (by simp) h0
/-- .. where nothing of the heap changes -/
theorem goC_pure {f : D → AH → Res (Option D)} {st : AH → Bool} {h : AH} {g : D → Option D} (hst : st h = true) : ∀ {xs : List D}, (∀ x ∈ xs, f x h = .ok (g x) h) → goC f st xs h = .ok (xs.filterMap g) h
  | [], _ => by unfold goC; rw [hst]; rfl
  | x :: xs, hf => by
    unfold goC
    rw [hst, hf x (List.mem_cons_self ..), List.filterMap_cons]
    simp only [if_true, Res.bind, goC_pure hst fun y hy => hf y (List.mem_cons_of_mem _ hy)]
    cases g x <;> rfl

/-! ### running by rewriting: first what stands in front -/
section
variable {α β : Type} {a : α} {h : AH} {c : Nat} {p : D} {ρ ρ' : Rho} {d : D}
@[simp] theorem bind_ok {f : α → AH → Res β} : (Res.ok a h).bind f = f a h := rfl
@[simp] theorem bind_exc {f : α → AH → Res β} : (Res.exc c p h).bind f = .exc c p h := rfl
@[simp] theorem bind_fail {f : α → AH → Res β} : (Res.fail).bind f = .fail := rfl
@[simp] theorem out_ok {f : α → AH → Out} : (Res.ok a h).out ρ f = f a h := rfl
@[simp] theorem out_exc {f : α → AH → Out} : (Res.exc c p h).out ρ f = .exc c p ρ h := rfl
@[simp] theorem out_fail {f : α → AH → Out} : (Res.fail).out ρ f = .fail := rfl
@[simp] theorem of_some : Res.of (some a) h = .ok a h := rfl
@[simp] theorem of_none : Res.of (none : Option α) h = .fail := rfl
@[simp] theorem obind_next {f : Rho → AH → Out} : (Out.next ρ h).bind f = f ρ h := rfl
@[simp] theorem obind_ret {f : Rho → AH → Out} : (Out.ret d h).bind f = .ret d h := rfl
@[simp] theorem obind_brk {f : Rho → AH → Out} : (Out.brk ρ h).bind f = .brk ρ h := rfl
@[simp] theorem obind_cont {f : Rho → AH → Out} : (Out.cont ρ h).bind f = .cont ρ h := rfl
@[simp] theorem obind_exc {f : Rho → AH → Out} : (Out.exc c p ρ h).bind f = .exc c p ρ h := rfl
@[simp] theorem obind_fail {f : Rho → AH → Out} : (Out.fail).bind f = .fail := rfl
theorem bind_cg {x y : Res α} {f : α → AH → Res β} (e : x = y) : x.bind f = y.bind f := by rw [e]
theorem out_cg {x y : Res α} {f : α → AH → Out} (e : x = y) : x.out ρ f = y.out ρ f := by rw [e]
theorem obind_cg {x y : Out} {f : Rho → AH → Out} (e : x = y) : x.bind f = y.bind f := by rw [e]
end
theorem bcong {α β : Type} {x : Res α} {f g : α → AH → Res β} (e : ∀ a h, f a h = g a h) : x.bind f = x.bind g := by
  rw [show f = g from funext fun a => funext fun h => e a h]
theorem ocong {α : Type} {x : Res α} {ρ : Rho} {f g : α → AH → Out} (e : ∀ a h, f a h = g a h) : x.out ρ f = x.out ρ g := by
  rw [show f = g from funext fun a => funext fun h => e a h]
section
variable {F : Fn} {ρ : Rho} {h : AH}
@[simp] theorem e_var {i : Nat} : evE F (.var i) ρ h = (match ρ[i]? with
    | some (some d) => .ok d h
    | _ => .fail) := rfl
@[simp] theorem e_cst {d : D} : evE F (.cst d) ρ h = .ok d h := rfl
@[simp] theorem e_bin {m : Bool} {o : Op2} {a b : E} : evE F (.bin m o a b) ρ h = (evE F a ρ h).bind fun x h1 => (evE F b ρ h1).bind fun y h2 => bin2 m o x y h2 := rfl
def negD : D → AH → Res D
  | .int i, h => .ok (.int (-i)) h
  | _, _ => .fail
@[simp] theorem e_neg {a : E} : evE F (.neg a) ρ h = (evE F a ρ h).bind negD := by
  refine bcong (x := evE F a ρ h) fun x h1 => ?_
  cases x <;> rfl
@[simp] theorem negD_int {i : Int} : negD (.int i) h = .ok (.int (-i)) h := rfl
/-- on a truth value -/
def ifD {α : Type} (a b : AH → Res α) : D → AH → Res α
  | .bl true, h => a h
  | .bl false, h => b h
  | _, _ => .fail
@[simp] theorem ifD_t {α : Type} {a b : AH → Res α} : ifD a b (.bl true) h = a h := rfl
@[simp] theorem ifD_f {α : Type} {a b : AH → Res α} : ifD a b (.bl false) h = b h := rfl
@[simp] theorem ifD_b {α : Type} {a b : AH → Res α} {c : Bool} : ifD a b (.bl c) h = if c = true then a h else b h := by cases c <;> rfl
@[simp] theorem e_not {a : E} : evE F (.not a) ρ h = (evE F a ρ h).bind (ifD (fun h => .ok (.bl false) h) (fun h => .ok (.bl true) h)) := by
  refine bcong (x := evE F a ρ h) fun x h1 => ?_
  cases x <;> first | rfl | (rename_i b; cases b <;> rfl)
@[simp] theorem e_and {a b : E} : evE F (.and a b) ρ h = (evE F a ρ h).bind (ifD (fun h => evE F b ρ h) (fun h => .ok (.bl false) h)) := by
  refine bcong (x := evE F a ρ h) fun x h1 => ?_
  cases x <;> first | rfl | (rename_i b; cases b <;> rfl)
@[simp] theorem e_or {a b : E} : evE F (.or a b) ρ h = (evE F a ρ h).bind (ifD (fun h => .ok (.bl true) h) (fun h => evE F b ρ h)) := by
  refine bcong (x := evE F a ρ h) fun x h1 => ?_
  cases x <;> first | rfl | (rename_i b; cases b <;> rfl)
@[simp] theorem e_ite {c a b : E} : evE F (.ite c a b) ρ h = (evE F c ρ h).bind (ifD (fun h => evE F a ρ h) (fun h => evE F b ρ h)) := by
  refine bcong (x := evE F c ρ h) fun x h1 => ?_
  cases x <;> first | rfl | (rename_i b; cases b <;> rfl)
/-- a comparison's answer -/
def blR (o : Option Bool) (h : AH) : Res D := match o with
  | some b => .ok (.bl b) h
  | none => .fail
@[simp] theorem blR_some {b : Bool} : blR (some b) h = .ok (.bl b) h := rfl
@[simp] theorem e_cmp {o : Cmp} {a b : E} : evE F (.cmp o a b) ρ h = (evE F a ρ h).bind fun x h1 => (evE F b ρ h1).bind fun y h2 => blR (cmp2 o x y h2) h2 := by
  refine bcong (x := evE F a ρ h) fun x h1 => bcong (x := evE F b ρ h1) fun y h2 => ?_
  cases cmp2 o x y h2 <;> rfl
@[simp] theorem e_cmp2 {o p : Cmp} {a b c : E} : evE F (.cmp2 o p a b c) ρ h = (evE F a ρ h).bind fun x h1 => (evE F b ρ h1).bind fun y h2 => (blR (cmp2 o x y h2) h2).bind (ifD (fun h3 => (evE F c ρ h3).bind fun z h4 => blR (cmp2 p y z h4) h4) (fun h => .ok (.bl false) h)) := by
  refine bcong (x := evE F a ρ h) fun x h1 => bcong (x := evE F b ρ h1) fun y h2 => ?_
  cases cmp2 o x y h2 with
  | none => rfl
  | some k =>
    cases k
    · rfl
    · refine bcong (x := evE F c ρ h2) fun z h4 => ?_
      cases cmp2 p y z h4 <;> rfl
@[simp] theorem e_tup {es : List E} : evE F (.tup es) ρ h = (evEs F es ρ h).bind fun xs h1 => if xs.length ≤ szl then .ok (.tup xs) h1 else .fail := by
  refine bcong (x := evEs F es ρ h) fun xs h1 => ?_
  simp only [decide_eq_true_eq]
@[simp] theorem e_lst {m : Bool} {es : List E} : evE F (.lst m es) ρ h = (evEs F es ρ h).bind fun xs h1 => if xs.length ≤ szl then mk m xs h1 else .fail := by
  refine bcong (x := evEs F es ρ h) fun xs h1 => ?_
  simp only [decide_eq_true_eq]
@[simp] theorem e_dct0 {m : Bool} : evE F (.dct m [] []) ρ h = mkD m [] h := rfl
@[simp] theorem e_dct1 {m : Bool} {k : Tx} {v : D} : evE F (.dct m [.cst (.str k)] [.cst v]) ρ h = mkD m [(.str k, v)] h := by
  rfl
@[simp] theorem e_idx {a i : E} : evE F (.idx a i) ρ h = (evE F a ρ h).bind fun x h1 => (evE F i ρ h1).bind fun y h2 => Res.of (index h2 x y) h2 := rfl
@[simp] theorem e_slice {m : Bool} {a : E} {lo hi : Option E} : evE F (.slice m a lo hi) ρ h = (evE F a ρ h).bind fun x h1 => (evO F lo ρ h1).bind fun l h2 => (evO F hi ρ h2).bind fun u h3 => slice m x l u h3 := rfl
@[simp] theorem e_call {f : Nat} {es : List E} : evE F (.call f es) ρ h = (evEs F es ρ h).bind fun xs h1 => F f xs h1 := rfl
@[simp] theorem e_prim {m : Bool} {p : Prim} {es : List E} : evE F (.prim m p es) ρ h = (evEs F es ρ h).bind fun xs h1 => prim m p xs h1 := rfl
@[simp] theorem e_meth {k : Meth} {o : E} {es : List E} : evE F (.meth k o es) ρ h = (evE F o ρ h).bind fun x h1 => if methTy k x h1 = true then (evEs F es ρ h1).bind fun xs h2 => meth k x xs h2 else .fail := rfl
@[simp] theorem e_isi {a : E} {t : Ty} : evE F (.isi a t) ρ h = (evE F a ρ h).bind fun x h1 => blR (isTy h1 x t) h1 := by
  refine bcong (x := evE F a ρ h) fun x h1 => ?_
  cases isTy h1 x t <;> rfl
@[simp] theorem e_nil : evEs F [] ρ h = .ok [] h := rfl
@[simp] theorem e_cons {e : E} {es : List E} : evEs F (e :: es) ρ h = (evE F e ρ h).bind fun x h1 => (evEs F es ρ h1).bind fun xs h2 => .ok (x :: xs) h2 := rfl
def optD : D → AH → Res (Option Int)
  | .int i, h => .ok (some i) h
  | _, _ => .fail
@[simp] theorem optD_int {i : Int} : optD (.int i) h = .ok (some i) h := rfl
@[simp] theorem o_none : evO F none ρ h = .ok none h := rfl
@[simp] theorem o_some {e : E} : evO F (some e) ρ h = (evE F e ρ h).bind optD := by
  refine bcong (x := evE F e ρ h) fun x h1 => ?_
  cases x <;> rfl
@[simp] theorem a_var {i : Nat} {d : D} : asT F (.var i) d ρ h = .next (ρ.set i (some d)) h := rfl
@[simp] theorem a_tup {ts : List T} {xs : List D} : asT F (.tup ts) (.tup xs) ρ h = if xs.length = ts.length then asTs F ts xs ρ h else .fail := rfl
@[simp] theorem a_nil : asTs F [] [] ρ h = .next ρ h := rfl
@[simp] theorem a_cons {t : T} {ts : List T} {x : D} {xs : List D} : asTs F (t :: ts) (x :: xs) ρ h = (asT F t x ρ h).bind fun ρ1 h1 => asTs F ts xs ρ1 h1 := rfl
def putR (o : Option AH) (ρ : Rho) : Out := match o with
  | some h => .next ρ h
  | none => .fail
@[simp] theorem putR_some : putR (some h) ρ = .next ρ h := rfl
@[simp] theorem a_idx {o i : E} {d : D} : asT F (.idx o i) d ρ h = (evE F o ρ h).out ρ fun x h1 => (evE F i ρ h1).out ρ fun y h2 => putR (setIx x y d h2) ρ := by
  refine ocong (x := evE F o ρ h) fun x h1 => ocong (x := evE F i ρ h1) fun y h2 => ?_
  cases setIx x y d h2 <;> rfl
@[simp] theorem x_asg {t : T} {e : E} : evS F (.asg t e) ρ h = (evE F e ρ h).out ρ fun x h1 => asT F t x ρ h1 := rfl
def parR (o : Option Rho) (h : AH) : Out := match o with
  | some ρ => .next ρ h
  | none => .fail
@[simp] theorem parR_some : parR (some ρ) h = .next ρ h := rfl
@[simp] theorem x_par {is : List Nat} {es : List E} : evS F (.par is es) ρ h = (evEs F es ρ h).out ρ fun xs h1 => parR (setAll is xs ρ) h1 := by
  refine ocong (x := evEs F es ρ h) fun x h1 => ?_
  cases setAll is x ρ <;> rfl
@[simp] theorem x_expr {e : E} : evS F (.expr e) ρ h = (evE F e ρ h).out ρ fun _ h1 => .next ρ h1 := rfl
@[simp] theorem x_ret {e : E} : evS F (.ret e) ρ h = (evE F e ρ h).out ρ fun x h1 => .ret x h1 := rfl
@[simp] theorem x_retN : evS F .retN ρ h = .ret .non h := rfl
def ifO (a b : AH → Out) : D → AH → Out
  | .bl true, h => a h
  | .bl false, h => b h
  | _, _ => .fail
@[simp] theorem ifO_t {a b : AH → Out} : ifO a b (.bl true) h = a h := rfl
@[simp] theorem ifO_f {a b : AH → Out} : ifO a b (.bl false) h = b h := rfl
@[simp] theorem ifO_b {a b : AH → Out} {c : Bool} : ifO a b (.bl c) h = if c = true then a h else b h := by cases c <;> rfl
@[simp] theorem x_cond {c : E} {a b : List S} : evS F (.cond c a b) ρ h = (evE F c ρ h).out ρ (ifO (fun h => evSs F a ρ h) (fun h => evSs F b ρ h)) := by
  refine ocong (x := evE F c ρ h) fun x h1 => ?_
  cases x <;> first | rfl | (rename_i b; cases b <;> rfl)
@[simp] theorem x_brk : evS F .brk ρ h = .brk ρ h := rfl
@[simp] theorem x_cont : evS F .cont ρ h = .cont ρ h := rfl
@[simp] theorem x_pass : evS F .pass ρ h = .next ρ h := rfl
@[simp] theorem x_nil : evSs F [] ρ h = .next ρ h := rfl
@[simp] theorem x_cons {s : S} {ss : List S} : evSs F (s :: ss) ρ h = (evS F s ρ h).bind fun ρ1 h1 => evSs F ss ρ1 h1 := rfl
end
/-- what a def's body gives its caller -/
def endR : Out → Res D
  | .next _ h => .ok .non h
  | .ret d h => .ok d h
  | .exc c p _ h => .exc c p h
  | _ => .fail
@[simp] theorem endR_ret {d : D} {h : AH} : endR (.ret d h) = .ok d h := rfl
@[simp] theorem endR_next {ρ : Rho} {h : AH} : endR (.next ρ h) = .ok .non h := rfl
@[simp] theorem endR_exc {c : Nat} {p : D} {ρ : Rho} {h : AH} : endR (.exc c p ρ h) = .exc c p h := rfl
theorem run_def {P : List FnDecl} {f np nl : Nat} {b : List S} (e : P[f]? = some ⟨np, nl, b⟩) (n : Nat) {xs : List D} {h : AH} (hl : xs.length = np) : run P (n + 1) f xs h = endR (evSs (run P n) b (xs.map some ++ List.replicate (nl - xs.length) none) h) := by
  rw [run_at e]
  unfold runBody
  rw [if_pos hl]
  unfold startR
  dsimp only
  cases evSs (run P n) b (xs.map some ++ List.replicate (nl - xs.length) none) h <;> rfl
/-! ### operations -/
section
variable {h : AH} {m : Bool} {i j : Int}
@[simp] theorem b_add : bin2 m .add (.int i) (.int j) h = .ok (.int (i + j)) h := rfl
@[simp] theorem b_sub : bin2 m .sub (.int i) (.int j) h = .ok (.int (i - j)) h := rfl
@[simp] theorem b_mod : bin2 m .mod (.int i) (.int j) h = if 0 < j then .ok (.int (i % j)) h else .fail := by
  show (if decide (0 < j) = true then _ else _) = _
  simp only [decide_eq_true_eq]
@[simp] theorem c_lt : cmp2 .lt (.int i) (.int j) h = some (decide (i < j)) := rfl
@[simp] theorem c_gt : cmp2 .gt (.int i) (.int j) h = some (decide (j < i)) := rfl
@[simp] theorem c_le : cmp2 .le (.int i) (.int j) h = some (decide (i ≤ j)) := rfl
@[simp] theorem c_ge : cmp2 .ge (.int i) (.int j) h = some (decide (j ≤ i)) := rfl
@[simp] theorem p_int : prim m .int [.int i] h = .ok (.int i) h := rfl
@[simp] theorem p_intb {b : Bool} : prim m .int [.bl b] h = .ok (.int (if b then 1 else 0)) h := rfl
@[simp] theorem p_abs : prim m .abs [.int i] h = .ok (.int (if i < 0 then -i else i)) h := rfl
@[simp] theorem p_max : prim m .max2 [.int i, .int j] h = .ok (.int (if j > i then j else i)) h := rfl
@[simp] theorem p_min : prim m .min2 [.int i, .int j] h = .ok (.int (if j < i then j else i)) h := rfl
theorem b_mul (c : smallI i = true ∨ smallI j = true) : bin2 m .mul (.int i) (.int j) h = .ok (.int (i * j)) h := by
  show (if (smallI i || smallI j || decide (i.natAbs.log2 + j.natAbs.log2 < 1000000)) = true then _ else _) = _
  rw [if_pos]
  rcases c with c | c <;> simp [c]
@[simp] theorem b_mull (c : smallI i = true) : bin2 m .mul (.int i) (.int j) h = .ok (.int (i * j)) h := b_mul (.inl c)
@[simp] theorem b_mulr (c : smallI j = true) : bin2 m .mul (.int i) (.int j) h = .ok (.int (i * j)) h := b_mul (.inr c)
theorem small_of {i : Int} (h1 : -(2 ^ 64) < i) (h2 : i < 2 ^ 64) : smallI i = true := by
  unfold smallI
  simp only [Bool.and_eq_true, decide_eq_true_eq]
  exact ⟨h1, h2⟩
@[simp] theorem b_fdiv (h1 : 0 < j) (h2 : j.natAbs.log2 < 9000) : bin2 m .fdiv (.int i) (.int j) h = .ok (.int (i / j)) h := by
  show (if (decide (0 < j) && decide (j.natAbs.log2 < 9000)) = true then _ else _) = _
  rw [if_pos]
  simp [h1, h2]
theorem log_of {j : Int} {k : Nat} (h1 : 0 < j) (h2 : j < 2 ^ k) : j.natAbs.log2 < k := by
  have h0 : j.natAbs ≠ 0 := by omega
  refine (Nat.log2_lt h0).mpr ?_
  have : ((j.natAbs : Nat) : Int) < ((2 ^ k : Nat) : Int) := by
    rw [Int.natAbs_of_nonneg (by omega)]
    push_cast
    exact h2
  exact_mod_cast this
@[simp] theorem b_pow (h1 : 0 ≤ j) (h2 : j ≤ 1000000) (h3 : i.natAbs < 2 ^ 64) : bin2 m .pow (.int i) (.int j) h = .ok (.int (i ^ j.toNat)) h := by
  show (if (decide (0 ≤ j) && decide (j ≤ 1000000) && decide (i.natAbs < 2 ^ 64)) = true then _ else _) = _
  rw [if_pos]
  simp only [Bool.and_eq_true, decide_eq_true_eq]
  exact ⟨⟨h1, h2⟩, h3⟩
end
/-- a place of the heap as a list -/
def listAt : Option AO → Option (List D)
  | some (.lst xs) => some xs
  | _ => none
@[simp] theorem listAt_some {xs : List D} : listAt (some (.lst xs)) = some xs := rfl
section
variable {h : AH} {n a : Nat} {k : Int} {xs ys : List D} {d v : D} {m : Bool}
@[simp] theorem items_loc : items h (.loc n) = listAt h[n]? := by
  have key : ∀ o : Option AO, (match o with
    | some (.lst xs) => some xs
    | _ => none) = listAt o := fun o => by
    rcases o with _ | (_ | _ | _ | _) <;> rfl
  exact key h[n]?
@[simp] theorem items_tup : items h (.tup xs) = some xs := rfl
@[simp] theorem items_lst : items h (.lst xs) = some xs := rfl
@[simp] theorem items_scr {ns : List Int} : items h (.scr ns) = some (ns.map D.int) := rfl
theorem index_seq (hd : ∀ s, d ≠ .str s) : index h d (.int k) = (items h d).bind fun xs => (ixN xs.length k).bind fun j => xs[j]? := by
  cases d <;> first | rfl | exact absurd rfl (hd _)
@[simp] theorem index_loc : index h (.loc n) (.int k) = (listAt h[n]?).bind fun xs => (ixN xs.length k).bind fun j => xs[j]? := by
  rw [index_seq (d := .loc n) (by intro s z; cases z), items_loc]
@[simp] theorem index_lst : index h (.lst xs) (.int k) = (ixN xs.length k).bind fun j => xs[j]? := rfl
@[simp] theorem index_tup : index h (.tup xs) (.int k) = (ixN xs.length k).bind fun j => xs[j]? := rfl
@[simp] theorem setIx_loc : setIx (.loc n) (.int k) v h = (listAt h[n]?).bind fun xs => (ixN xs.length k).map fun j => put n (xs.set j v) h := by
  unfold setIx listAt
  dsimp only
  rcases h[n]? with _ | (_ | _ | _ | _) <;> rfl
@[simp] theorem put_len : (put n xs h).length = h.length := by simp [put]
@[simp] theorem put_put : put n ys (put n xs h) = put n ys h := by simp [put]
theorem put_at (l : n < h.length) : (put n xs h)[n]? = some (.lst xs) := by simp [put, l]
theorem put_ne (l : a ≠ n) : (put n xs h)[a]? = h[a]? := by
  unfold put
  rw [List.getElem?_set_ne (Ne.symm l)]
@[simp] theorem mk_t : mk true xs h = .ok (.loc h.length) (h ++ [.lst xs]) := rfl
@[simp] theorem mk_f : mk false xs h = .ok (.lst xs) h := rfl
@[simp] theorem mkD_f {kvs : List (D × D)} : mkD false kvs h = .ok (.dct kvs) h := rfl
theorem len_seq (hd : ∀ s, d ≠ .str s) (e : items h d = some xs) : prim m .len [d] h = .ok (.int xs.length) h := by
  have key : prim m .len [d] h = (match items h d with
    | some xs => .ok (.int xs.length) h
    | none => match dkvs h d with
      | some kvs => .ok (.int kvs.length) h
      | none => .fail) := by
    cases d <;> first | exact absurd rfl (hd _) | rfl
  rw [key, e]
end
end PI
set_option maxRecDepth 100000
set_option maxHeartbeats 1000000
/-! What the laws have in common: numbers drawn from a script. -/
namespace PI
/-- the dice at a, thrown at most m times -/
def Dice (h : AH) (a : Nat) (m : Int) : Prop := ∃ x y z : Int, h[a]? = some (.lst [.int x, .int y, .int z]) ∧ 0 ≤ x ∧ 0 ≤ y ∧ y < 2 ^ 60 ∧ 0 ≤ z ∧ z ≤ m
/-- nothing but the dice changes; what is new lies behind -/
structure Frame (a : Nat) (h h' : AH) : Prop where
  len : h.length ≤ h'.length
  same : ∀ n, n ≠ a → n < h.length → h'[n]? = h[n]?
theorem Frame.refl (a : Nat) (h : AH) : Frame a h h := ⟨Nat.le_refl _, fun _ _ _ => rfl⟩
theorem Frame.trans {a : Nat} {h h1 h2 : AH} (x : Frame a h h1) (y : Frame a h1 h2) : Frame a h h2 := ⟨Nat.le_trans x.len y.len, fun n e l => (y.same n e (Nat.lt_of_lt_of_le l x.len)).trans (x.same n e l)⟩
theorem Dice.lt {h : AH} {a : Nat} {m : Int} (d : Dice h a m) : a < h.length := by
  obtain ⟨x, y, z, e, _⟩ := d
  exact (List.getElem?_eq_some_iff.mp e).1
theorem Dice.mono {h : AH} {a : Nat} {m k : Int} (d : Dice h a m) (l : m ≤ k) : Dice h a k := by
  obtain ⟨x, y, z, e, h1, h2, h3, h4, h5⟩ := d
  exact ⟨x, y, z, e, h1, h2, h3, h4, by omega⟩
/-- something new behind -/
theorem Dice.push {h : AH} {a : Nat} {m : Int} (d : Dice h a m) (l : AH) : Dice (h ++ l) a m := by
  have lt := d.lt
  obtain ⟨x, y, z, e, r⟩ := d
  exact ⟨x, y, z, by rw [List.getElem?_append_left lt]; exact e, r⟩
theorem Frame.push (a : Nat) (h l : AH) : Frame a h (h ++ l) := ⟨by simp, fun n _ lt => List.getElem?_append_left lt⟩
theorem Dice.put {h : AH} {a n : Nat} {m : Int} {xs : List D} (d : Dice h a m) (ne : n ≠ a) : Dice (put n xs h) a m := by
  obtain ⟨x, y, z, e, r⟩ := d
  exact ⟨x, y, z, by rw [put_ne (Ne.symm ne)]; exact e, r⟩
/-! ### the defs' forms -/
def bDice : List S := [.asg (.var 2) (.ite (.cmp .lt (.var 1) (.prim false .len [.var 0])) (.prim false .int [.idx (.var 0) (.var 1)]) (.bin false .add (.bin false .mul (.cst (.int 47)) (.var 1)) (.cst (.int 9)))),
  .asg (.var 3) (.bin false .mod (.prim false .abs [.var 2]) (.bin false .pow (.cst (.int 10)) (.cst (.int 59)))),
  .asg (.var 4) (.prim false .max2 [.cst (.int 0), .bin false .sub (.prim false .abs [.var 2]) (.bin false .pow (.cst (.int 10)) (.cst (.int 17)))]),
  .ret (.lst true [.bin false .mod (.var 4) (.bin false .mul (.bin false .pow (.cst (.int 10)) (.cst (.int 60))) (.bin false .pow (.cst (.int 10)) (.cst (.int 60)))), .bin false .add (.bin false .add (.bin false .add (.bin false .mul (.bin false .mod (.var 3) (.cst (.int 2147483563))) (.cst (.int 41))) (.bin false .mul (.cst (.int 613)) (.var 1))) (.bin false .mul (.cst (.int 17)) (.prim false .int [.cmp .lt (.var 2) (.cst (.int 0))]))) (.cst (.int 7)), .cst (.int 0)])]
def bRoll : List S := [.cond (.cmp .gt (.idx (.var 0) (.cst (.int 0))) (.cst (.int 0)))
  [.asg (.var 2) (.bin false .mod (.prim false .int [.idx (.var 0) (.cst (.int 0))]) (.var 1)),
  .asg (.idx (.var 0) (.cst (.int 0))) (.bin false .fdiv (.idx (.var 0) (.cst (.int 0))) (.var 1)),
  .ret (.var 2)]
  [],
  .asg (.idx (.var 0) (.cst (.int 2))) (.bin false .add (.idx (.var 0) (.cst (.int 2))) (.cst (.int 1))),
  .asg (.var 3) (.bin false .mod (.prim false .int [.bin false .add (.idx (.var 0) (.cst (.int 1))) (.bin false .mul (.cst (.int 7901)) (.idx (.var 0) (.cst (.int 2))))]) (.cst (.int 2305843009213693907))),
  .asg (.var 4) (.bin false .add (.bin false .mul (.bin false .mod (.prim false .int [.bin false .add (.bin false .mul (.var 3) (.var 3)) (.bin false .mul (.cst (.int 71)) (.idx (.var 0) (.cst (.int 2))))]) (.cst (.int 2305843009213693921))) (.cst (.int 6700417))) (.var 3)),
  .ret (.bin false .mod (.prim false .int [.bin false .fdiv (.var 4) (.cst (.int 32768))]) (.var 1))]
def bPick (r : Nat) : List S := [.ret (.idx (.var 1) (.call r [.var 0, .prim false .len [.var 1]]))]
def bMixed (r : Nat) : List S := [.par [2, 3] [.prim true .list [.var 1], .lst true []],
  .rng (.var 4) [.prim false .len [.var 1]]
  [.expr (.meth .append (.var 3) [.meth .popAt (.var 2) [.call r [.var 0, .prim false .len [.var 2]]]])],
  .ret (.var 3)]
def bOdd (x : Nat) : List S := [.asg (.var 1) (.lst false [.cst (.non), .cst (.int 0), .cst (.int 1), .neg (.cst (.int 1)), .cst (.bl true), .cst (.bl false), .cst (.str ""), .cst (.str "a"), .cst (.str "A b"), .tup [], .tup [.cst (.str "c")], .lst false [], .lst false [.cst (.str "c")], .dct false [] [], .dct false [.cst (.str "c")] [.cst (.int 0)], .tup [.tup []], .bin false .pow (.cst (.int 10)) (.cst (.int 60)), .cst (.str "_")]),
  .asg (.var 1) (.bin false .add (.var 1) (.lst false [.bin false .mul (.cst (.str "x")) (.cst (.int 4000)), .bin false .mul (.tup [.cst (.str "c")]) (.cst (.int 30)), .tup [.cst (.int 1), .cst (.int 2)], .tup [.cst (.non)], .tup [.tup [.tup [.cst (.str "c")]]], .cst (.str "\n"), .bin false .mul (.bin false .pow (.cst (.int 10)) (.cst (.int 60))) (.bin false .pow (.cst (.int 10)) (.cst (.int 39)))])),
  .ret (.call x [.var 0, .bin false .add (.var 1) (.lst false [.bin false .sub (.cst (.int 0)) (.bin false .pow (.cst (.int 10)) (.cst (.int 60)))])])]
section
variable {P : List FnDecl} {f r : Nat}
theorem roll_ok (hP : P[f]? = some ⟨2, 5, bRoll⟩) (n : Nat) {h : AH} {a : Nat} {m t : Int} (d : Dice h a m) (hm : m < 2 ^ 40) (ht : 0 < t) (hl : t < 2 ^ 1000) : ∃ r h', run P (n + 1) f [.loc a, .int t] h = .ok (.int r) h' ∧ 0 ≤ r ∧ r < t ∧ Dice h' a (m + 1) ∧ Frame a h h' ∧ h'.length = h.length := by
  have hl : t.natAbs.log2 < 9000 := Nat.lt_of_lt_of_le (log_of ht hl) (by decide)
  have hlt := d.lt
  obtain ⟨x, y, z, e, hx, hy, hy2, hz, hz2⟩ := d
  rw [run_def hP n rfl]
  by_cases c : 0 < x
  · refine ⟨x % t, PI.put a [.int (x / t), .int y, .int z] h, by simp [bRoll, e, ixN, c, ht, hl], Int.emod_nonneg _ (by omega), Int.emod_lt_of_pos _ ht, ⟨x / t, y, z, put_at hlt, ?_, hy, hy2, hz, by omega⟩, ⟨by simp, fun k hk _ => put_ne hk⟩, by simp⟩
    exact Int.ediv_nonneg hx (by omega)
  · have s1 : smallI ((y + 7901 * (z + 1)) % 2305843009213693907) = true := small_of (by have := Int.emod_nonneg (y + 7901 * (z + 1)) (b := 2305843009213693907) (by decide); omega) (by have := Int.emod_lt_of_pos (y + 7901 * (z + 1)) (b := 2305843009213693907) (by decide); omega)
    have l1 : Nat.log2 32768 < 9000 := by decide
    have k1 : smallI 7901 = true := by decide
    have k2 : smallI 71 = true := by decide
    have k3 : smallI 6700417 = true := by decide
    refine ⟨_, PI.put a [.int x, .int y, .int (z + 1)] h, by simp [bRoll, e, ixN, c, ht, hl, put_at hlt, k1, k2, k3, s1, l1]; rfl, Int.emod_nonneg _ (by omega), Int.emod_lt_of_pos _ ht, ⟨x, y, z + 1, put_at hlt, hx, hy, hy2, by omega, by omega⟩, ⟨by simp, fun k hk _ => put_ne hk⟩, by simp⟩
theorem ixN_ok {n : Nat} {i : Int} (h0 : 0 ≤ i) (h1 : i < n) : ixN n i = some i.toNat := by
  unfold ixN
  rw [if_pos h0, if_pos h1]
theorem pick_ok {g : Nat} (hP : P[f]? = some ⟨2, 5, bRoll⟩) (hG : P[g]? = some ⟨2, 2, bPick f⟩) (n : Nat) {h : AH} {a : Nat} {m : Int} {d : D} {xs : List D} (dc : Dice h a m) (hm : m < 2 ^ 40) (hd : ∀ s, d ≠ .str s) (e : ∀ h' : AH, Frame a h h' → items h' d = some xs) (h0 : xs ≠ []) (h1 : xs.length < 2 ^ 60) :
    ∃ v h', run P (n + 2) g [.loc a, d] h = .ok v h' ∧ v ∈ xs ∧ Dice h' a (m + 1) ∧ Frame a h h' ∧ h'.length = h.length := by
  have hp : 0 < xs.length := List.length_pos_iff.mpr h0
  obtain ⟨r, h', er, r0, r1, d', fr, hl⟩ := roll_ok hP n (t := (xs.length : Int)) dc hm (by omega) (by
    have : (xs.length : Int) < 2 ^ 60 := by exact_mod_cast h1
    exact Int.lt_trans this (by decide))
  have hj : r.toNat < xs.length := by omega
  refine ⟨xs[r.toNat], h', ?_, List.getElem_mem _, d', fr, hl⟩
  rw [run_def hG (n + 1) rfl]
  simp [bPick, len_seq hd (e h (.refl _ _)), er, index_seq hd, e h' fr, ixN_ok r0 r1, hj]
end
end PI
set_option maxRecDepth 100000
set_option maxHeartbeats 1000000
namespace PI
/-! ### walks over numbers -/
theorem x_rng1 {F : Fn} {t : T} {e : E} {b : List S} {ρ : Rho} {h h1 : AH} {k : Int} (he : evE F e ρ h = .ok (.int k) h1) (hk : small62 k = true) : evS F (.rng t [e] b) ρ h = goF (fun x ρ1 h2 => (asT F t x ρ1 h2).bind fun ρ2 h3 => evSs F b ρ2 h3) (fun _ => true) (rangeD 0 k) ρ h1 := by
  have : evS F (.rng t [e] b) ρ h = ((evEs F [e] ρ h).out ρ fun ks h1 => match ks with
    | [.int hi] => if small62 hi then goF (fun x ρ1 h2 => (asT F t x ρ1 h2).bind fun ρ2 h3 => evSs F b ρ2 h3) (fun _ => true) (rangeD 0 hi) ρ h1 else .fail
    | [.int lo, .int hi] => if small62 lo && small62 hi then goF (fun x ρ1 h2 => (asT F t x ρ1 h2).bind fun ρ2 h3 => evSs F b ρ2 h3) (fun _ => true) (rangeD lo hi) ρ h1 else .fail
    | [.int lo, .int hi, .int c] => if decide (c = -1) && (small62 lo && small62 hi) then goF (fun x ρ1 h2 => (asT F t x ρ1 h2).bind fun ρ2 h3 => evSs F b ρ2 h3) (fun _ => true) (rangeDn lo hi) ρ h1 else .fail
    | _ => .fail) := rfl
  rw [this]
  simp [he, hk]
theorem small62_of {k : Int} (h0 : -(2 ^ 62) ≤ k) (h1 : k < 2 ^ 62) : small62 k = true := by
  unfold small62
  simp only [Bool.and_eq_true, decide_eq_true_eq]
  exact ⟨h0, h1⟩
theorem rangeD_get {lo hi : Int} {i : Nat} {x : D} (e : (rangeD lo hi)[i]? = some x) : x = .int (lo + i) ∧ lo + i < hi := by
  unfold rangeD at e
  rw [List.getElem?_map] at e
  cases q : (List.range (hi - lo).toNat)[i]? with
  | none => rw [q] at e; cases e
  | some k =>
    rw [q] at e
    obtain ⟨l, e2⟩ := List.getElem?_eq_some_iff.mp q
    rw [List.getElem_range] at e2
    subst e2
    cases e
    rw [List.length_range] at l
    exact ⟨rfl, by omega⟩
theorem rangeDn_get {lo hi : Int} {i : Nat} {x : D} (e : (rangeDn lo hi)[i]? = some x) : x = .int (lo - i) ∧ hi < lo - i := by
  unfold rangeDn at e
  rw [List.getElem?_map] at e
  cases q : (List.range (lo - hi).toNat)[i]? with
  | none => rw [q] at e; cases e
  | some k =>
    rw [q] at e
    obtain ⟨l, e2⟩ := List.getElem?_eq_some_iff.mp q
    rw [List.getElem_range] at e2
    subst e2
    cases e
    rw [List.length_range] at l
    exact ⟨rfl, by omega⟩
theorem rangeDn_len {lo hi : Int} : (rangeDn lo hi).length = (lo - hi).toNat := by simp [rangeDn]
theorem rangeD_len {lo hi : Int} : (rangeD lo hi).length = (hi - lo).toNat := by simp [rangeD]
/-- a walk over a thing -/
theorem x_each {F : Fn} {t : T} {e : E} {b : List S} {ρ : Rho} {h h1 : AH} {s : D} {xs : List D} (he : evE F e ρ h = .ok s h1) (hs : srcItems h1 s = some xs) : evS F (.each t e b) ρ h = goF (fun x ρ1 h2 => (asT F t x ρ1 h2).bind fun ρ2 h3 => evSs F b ρ2 h3) (still xs s) xs ρ h1 := by
  have : evS F (.each t e b) ρ h = ((evE F e ρ h).out ρ fun s h1 => match srcItems h1 s with
    | some xs => goF (fun x ρ1 h2 => (asT F t x ρ1 h2).bind fun ρ2 h3 => evSs F b ρ2 h3) (still xs s) xs ρ h1
    | none => .fail) := rfl
  rw [this, he]
  simp [hs]
theorem perm_erase {α : Type} : ∀ {l : List α} {j : Nat} (h : j < l.length), l.Perm (l[j] :: l.eraseIdx j)
  | a :: l, 0, _ => .refl _
  | a :: l, j + 1, h => by
    have := perm_erase (l := l) (j := j) (by simpa using h)
    exact (List.Perm.cons a this).trans (.swap _ _ _)
section
variable {P : List FnDecl} {f r : Nat}
theorem list_pure {h : AH} {d : D} {xs : List D} (hd : ∀ s, d ≠ .str s) (e : items h d = some xs) : prim true .list [d] h = .ok (.loc h.length) (h ++ [.lst xs]) := by
  have key : prim true .list [d] h = (match items h d with
    | some xs => mk true xs h
    | none => match dkvs h d with
      | some kvs => mk true (kvs.map fun p => p.1) h
      | none => .fail) := by
    cases d <;> first | exact absurd rfl (hd _) | rfl
  rw [key, e]
  rfl
/-- rows mixed by dice: the same items, in some order -/
theorem mixed_ok2 {g : Nat} (hP : P[f]? = some ⟨2, 5, bRoll⟩) (hG : P[g]? = some ⟨2, 5, bMixed f⟩) (n : Nat) {h : AH} {a : Nat} {m : Int} {d : D} {xs : List D} (dc : Dice h a m) (hm : m + xs.length < 2 ^ 40) (hm0 : 0 ≤ m) (hd : ∀ s, d ≠ .str s) (hl : ∀ k, d ≠ .loc k) (e : ∀ h' : AH, items h' d = some xs) (h1 : xs.length < szl) :
    ∃ k h' ys, run P (n + 2) g [.loc a, d] h = .ok (.loc k) h' ∧ h'[k]? = some (.lst ys) ∧ ys.Perm xs ∧ Dice h' a (m + xs.length) ∧ Frame a h h' ∧ k ≠ a ∧ h.length ≤ k ∧ k = h.length + 1 ∧ h'.length = h.length + 2 ∧ h'[h.length]? = some (.lst []) := by
  have ha := dc.lt
  have h1' : xs.length < 16777216 := h1
  rw [run_def hG (n + 1) rfl]
  -- the walk
  have walk := goF_inv (g := fun x ρ1 h2 => (asT (run P (n + 1)) (.var 4) x ρ1 h2).bind fun ρ2 h3 => evSs (run P (n + 1)) [.expr (.meth .append (.var 3) [.meth .popAt (.var 2) [.call f [.var 0, .prim false .len [.var 2]]]])] ρ2 h3) (st := fun _ => true) (xs := rangeD 0 xs.length)
    (ρ := [some (.loc a), some d, some (.loc h.length), some (.loc (h.length + 1)), none]) (h := h ++ [.lst xs] ++ [.lst []])
    (fun i ρ h' => ∃ (ls fs : List D) (o : Option D), ρ = [some (.loc a), some d, some (.loc h.length), some (.loc (h.length + 1)), o] ∧ h'.length = h.length + 2 ∧ h'[h.length]? = some (.lst ls) ∧ h'[h.length + 1]? = some (.lst fs) ∧ fs.length = i ∧ i + ls.length = xs.length ∧ (fs ++ ls).Perm xs ∧ Dice h' a (m + i) ∧ Frame a h h')
    ⟨xs, [], none, rfl, by simp, by simp, by simp, rfl, by simp, by simp, by
      have := (dc.push [.lst xs]).push [.lst []]
      simpa using this, (Frame.push a h [.lst xs]).trans (.push a _ [.lst []])⟩ (fun _ _ _ _ _ => rfl) ?_
  · obtain ⟨ρ', h', ew, ls, fs, o, eρ, el, e1, e2, l1, l2, pm, d', fr⟩ := walk
    rw [rangeD_len] at l1 l2 d'
    have : ((xs.length : Int) - 0).toNat = xs.length := by omega
    rw [this] at l1 l2 d'
    have : ls = [] := List.eq_nil_of_length_eq_zero (by omega)
    subst this
    rw [List.append_nil] at pm
    refine ⟨h.length + 1, h', fs, ?_, e2, pm, d', fr, by omega, by omega, rfl, el, e1⟩
    have r1 := x_rng1 (F := run P (n + 1)) (t := .var 4) (e := .prim false .len [.var 1]) (b := [.expr (.meth .append (.var 3) [.meth .popAt (.var 2) [.call f [.var 0, .prim false .len [.var 2]]]])]) (ρ := [some (.loc a), some d, some (.loc h.length), some (.loc (h.length + 1)), none]) (h := h ++ [.lst xs] ++ [.lst []]) (k := xs.length) (h1 := h ++ [.lst xs] ++ [.lst []])
      (by simp [len_seq hd (e _)]) (small62_of (by omega) (by omega))
    rw [ew] at r1
    simp [bMixed, list_pure hd (e h), setAll]
    simp at r1
    rw [r1]
    simp [eρ]
  · rintro i ρ h2 x ⟨ls, fs, o, rfl, el, e1, e2, l1, l2, pm, d', fr⟩ hx
    obtain ⟨rfl, hlt⟩ := rangeD_get hx
    have hls : 0 < ls.length := by omega
    obtain ⟨r, h3, er, r0, r1, d3, fr3, len3⟩ := roll_ok hP n (t := (ls.length : Int)) d' (by omega) (by omega) (by
      have : (ls.length : Int) < 2 ^ 60 := by omega
      exact Int.lt_trans this (by decide))
    have hj : r.toNat < ls.length := by omega
    have e1' : h3[h.length]? = some (.lst ls) := by rw [fr3.same _ (by omega) (by omega)]; exact e1
    have e2' : h3[h.length + 1]? = some (.lst fs) := by rw [fr3.same _ (by omega) (by omega)]; exact e2
    have q1 : (PI.put h.length (ls.eraseIdx r.toNat) h3)[h.length + 1]? = some (.lst fs) := by rw [put_ne (by omega)]; exact e2'
    have hsz : fs.length < szl := by show fs.length < 16777216; omega
    have hr63 : r < 9223372036854775808 := by omega
    refine ⟨[some (.loc a), some d, some (.loc h.length), some (.loc (h.length + 1)), some (.int (0 + (i : Int)))], PI.put (h.length + 1) (fs ++ [ls[r.toNat]]) (PI.put h.length (ls.eraseIdx r.toNat) h3), .inl ?_, ls.eraseIdx r.toNat, fs ++ [ls[r.toNat]], _, rfl, by simp; omega, ?_, put_at (by simp; omega), by simp [l1], by
        rw [List.length_eraseIdx_of_lt hj]; omega, ?_, ?_, ?_⟩
    · simp [methTy, isL, e2, e1, len_seq (d := .loc h.length) (by intro s z; cases z) (by simp [e1] : items h2 (.loc h.length) = some ls), er, meth, e1', r0, r1, hr63, hj, q1, hsz]
    · rw [put_ne (by omega)]
      exact put_at (by omega)
    · have p1 := perm_erase hj
      refine List.Perm.trans ?_ pm
      rw [List.append_assoc]
      exact (List.Perm.append_left fs p1.symm)
    · have := (d3.put (n := h.length) (xs := ls.eraseIdx r.toNat) (by omega)).put (n := h.length + 1) (xs := fs ++ [ls[r.toNat]]) (by omega)
      refine this.mono ?_
      omega
    · refine ⟨by simp; omega, fun k hk hkl => ?_⟩
      rw [put_ne (by omega), put_ne (by omega), fr3.same k hk (by omega)]
      exact fr.same k hk hkl
theorem mixed_ok {g : Nat} (hP : P[f]? = some ⟨2, 5, bRoll⟩) (hG : P[g]? = some ⟨2, 5, bMixed f⟩) (n : Nat) {h : AH} {a : Nat} {m : Int} {d : D} {xs : List D} (dc : Dice h a m) (hm : m + xs.length < 2 ^ 40) (hm0 : 0 ≤ m) (hd : ∀ s, d ≠ .str s) (hl : ∀ k, d ≠ .loc k) (e : ∀ h' : AH, items h' d = some xs) (h1 : xs.length < szl) :
    ∃ k h' ys, run P (n + 2) g [.loc a, d] h = .ok (.loc k) h' ∧ h'[k]? = some (.lst ys) ∧ ys.Perm xs ∧ Dice h' a (m + xs.length) ∧ Frame a h h' ∧ k ≠ a ∧ h.length ≤ k := by
  obtain ⟨k, h', ys, q1, q2, q3, q4, q5, q6, q7, _⟩ := mixed_ok2 hP hG n dc hm hm0 hd hl e h1
  exact ⟨k, h', ys, q1, q2, q3, q4, q5, q6, q7⟩
end
end PI
set_option maxRecDepth 100000
set_option maxHeartbeats 1000000
namespace PI
open PySem (PyData)
/-! ### rows from rows -/
section
variable {F : Fn} {m : Bool} {i : Nat} {src elt : E} {ρ : Rho} {h h1 : AH} {s : D} {xs : List D}
theorem comp_eq {cond : Option E} : evE F (.comp m i src cond elt) ρ h = (evE F src ρ h).bind fun s h1 => (Res.of (srcItems h1 s) h1).bind fun xs h2 =>
      ((goC (fun x h3 => (evC F cond (ρ.set i (some x)) h3).bind fun b h4 => match b with
          | true => (evE F elt (ρ.set i (some x)) h4).bind fun y h5 => .ok (some y) h5
          | false => .ok none h4) (still xs s) xs h2).nox).bind fun ys h6 => if decide (ys.length ≤ szl) then mk m ys h6 else .fail := rfl
theorem compR_eq {n : E} {cond : Option E} : evE F (.compR m i n cond elt) ρ h = (evE F n ρ h).bind fun s h1 => (Res.of (upTo s) h1).bind fun xs h2 =>
      ((goC (fun x h3 => (evC F cond (ρ.set i (some x)) h3).bind fun b h4 => match b with
          | true => (evE F elt (ρ.set i (some x)) h4).bind fun y h5 => .ok (some y) h5
          | false => .ok none h4) (fun _ => true) xs h2).nox).bind fun ys h6 => if decide (ys.length ≤ szl) then mk m ys h6 else .fail := rfl
theorem still_now {xs : List D} {s : D} {h : AH} (e : srcItems h s = some xs) : still xs s h = true := by
  cases s with
  | loc n =>
    have e : (match h[n]? with | some (.lst xs) => some xs | _ => none) = some xs := e
    show (match h[n]? with | some (.lst ys) => D.sames ys xs | _ => false) = true
    split at e
    · rename_i ys e0
      cases e
      exact D.sames_refl _
    · cases e
  | _ => rfl
theorem e_compM (f : D → D) (hs : evE F src ρ h = .ok s h1) (hx : srcItems h1 s = some xs) (hf : ∀ x ∈ xs, evE F elt (ρ.set i (some x)) h1 = .ok (f x) h1) (hl : xs.length ≤ szl) : evE F (.comp m i src none elt) ρ h = mk m (xs.map f) h1 := by
  rw [comp_eq, hs]
  simp only [bind_ok, hx, of_some]
  rw [goC_pure (g := fun x => some (f x)) (still_now hx) fun x hx => by simp [evC, hf x hx]]
  rw [show xs.filterMap (fun x => some (f x)) = xs.map f from by rw [← List.filterMap_eq_map]; rfl]
  simp [Res.nox, hl]
theorem e_compF (b : D → Bool) {c : E} (f : D → D) (hs : evE F src ρ h = .ok s h1) (hx : srcItems h1 s = some xs) (hb : ∀ x ∈ xs, evE F c (ρ.set i (some x)) h1 = .ok (.bl (b x)) h1) (hf : ∀ x ∈ xs, evE F elt (ρ.set i (some x)) h1 = .ok (f x) h1) (hl : xs.length ≤ szl) : evE F (.comp m i src (some c) elt) ρ h = mk m ((xs.filter b).map f) h1 := by
  rw [comp_eq, hs]
  simp only [bind_ok, hx, of_some]
  rw [goC_pure (g := fun x => if b x = true then some (f x) else none) (still_now hx) fun x hx => by
    simp only [evC, hb x hx, bind_ok]
    cases b x <;> simp [hf x hx]]
  have e : xs.filterMap (fun x => if b x = true then some (f x) else none) = (xs.filter b).map f := by
    clear hx hb hf hl
    induction xs with
    | nil => rfl
    | cons y ys ih =>
      rw [List.filterMap_cons, List.filter_cons]
      cases b y <;> simp [ih]
  rw [e]
  have hl2 : ((xs.filter b).map f).length ≤ szl := by
    rw [List.length_map]
    exact Nat.le_trans (List.length_filter_le _ _) hl
  simp only [Res.nox, bind_ok, hl2, decide_true, if_true]
/-- .. and one that changes the heap: each item gives one -/
theorem e_compR {n : E} {k : Int} (I : Nat → AH → Prop) (R : D → Prop) (hn : evE F n ρ h = .ok (.int k) h1) (hk : small62 k = true) (h0 : I 0 h1)
    (step : ∀ (j : Nat) (h2 : AH), I j h2 → (j : Int) < k → ∃ y h3, evE F elt (ρ.set i (some (.int j))) h2 = .ok y h3 ∧ R y ∧ I (j + 1) h3) (hl : k.toNat ≤ szl) :
    ∃ ys h2, evE F (.compR m i n none elt) ρ h = mk m ys h2 ∧ ys.length = k.toNat ∧ (∀ y ∈ ys, R y) ∧ I k.toNat h2 := by
  rw [compR_eq, hn]
  obtain ⟨ys, h2, e, l, r, hI⟩ := goC_inv (f := fun x h3 => (evC F none (ρ.set i (some x)) h3).bind fun b h4 => match b with
          | true => (evE F elt (ρ.set i (some x)) h4).bind fun y h5 => .ok (some y) h5
          | false => .ok none h4) (st := fun _ => true) (xs := rangeD 0 k) (h := h1) I R h0 (fun _ _ _ _ => rfl) (fun j h2 x hI hx => by
    obtain ⟨rfl, lt⟩ := rangeD_get hx
    obtain ⟨y, h3, e, r, hI'⟩ := step j h2 hI (by omega)
    rw [Int.zero_add]
    exact ⟨y, h3, by simp [evC, e], r, hI'⟩)
  rw [rangeD_len, Int.sub_zero] at l hI
  refine ⟨ys, h2, ?_, l, r, hI⟩
  have e0 : upTo (.int k) = some (rangeD 0 k) := by
    show (if small62 k = true then some (rangeD 0 k) else none) = _
    rw [if_pos hk]
  have hl2 : ys.length ≤ szl := by rw [l]; exact hl
  simp only [bind_ok, e0, of_some]
  rw [e]
  simp only [Res.nox, bind_ok, hl2, decide_true, if_true]
end
/-! ### plain data that can be shown and compared -/
structure Good (n k : Nat) (d : D) : Prop where
  ex : ∃ p, toP d = some p ∧ p.canLay0 = true ∧ p.intsShort 200 = true ∧ p.showable = true ∧ p.depth ≤ n ∧ p.weight ≤ k
theorem Good.mono {n k n' k' : Nat} {d : D} (g : Good n k d) (h1 : n ≤ n') (h2 : k ≤ k') : Good n' k' d := by
  obtain ⟨p, a, b, c, d, e, f⟩ := g
  exact ⟨p, a, b, c, d, Nat.le_trans e h1, Nat.le_trans f h2⟩
theorem good_non : Good 0 0 .non := ⟨.none, rfl, rfl, rfl, rfl, Nat.le_refl _, Nat.le_refl _⟩
theorem good_bl (b : Bool) : Good 0 0 (.bl b) := ⟨.bool b, rfl, rfl, rfl, rfl, Nat.le_refl _, Nat.le_refl _⟩
theorem good_int {i : Int} (h : i.natAbs < 10 ^ 190) : Good 0 640 (.int i) := by
  have hl : i = 0 ∨ i.natAbs.log2 < 640 := by
    by_cases h0 : i = 0
    · exact .inl h0
    · exact .inr ((Nat.log2_lt (by omega)).mpr (Nat.lt_of_lt_of_le h (by decide +kernel)))
  refine ⟨.int i, rfl, by simp only [PyData.canLay0], ?_, ?_, Nat.le_refl _, ?_⟩
  · simp only [PyData.intsShort]
    refine decide_eq_true ?_
    have e := PySem.int_text_length_le10 (k := 190) (by decide) h
    show (PySem.Str.ofString (toString i)).length ≤ 200
    rw [PySem.ofString_length]
    omega
  · simp only [PyData.showable, decide_eq_true_eq]
    rcases hl with rfl | hl
    · decide
    · omega
  · simp only [PyData.weight]
    split
    · omega
    · rename_i h0
      have : i ≠ 0 := by simpa using h0
      rcases hl with e | hl
      · exact absurd e this
      · omega
theorem good_str {s : Tx} {k : Nat} (h : s.length ≤ k) (h1 : ∀ c ∈ s.cps.toList, c < 0x110000) : Good 0 k (.str s) := by
  refine ⟨.str s, rfl, ?_, rfl, rfl, Nat.le_refl _, h⟩
  show PyData.strOk s = true
  unfold PyData.strOk
  rw [Array.all_eq_true_iff_forall_mem]
  intro c hc
  exact decide_eq_true (h1 c (Array.mem_toList_iff.mpr hc))
theorem toPs_good {n k : Nat} : ∀ {xs : List D}, (∀ x ∈ xs, Good n k x) → ∃ ps, toPs xs = some ps ∧ PyData.canLayAll0 ps = true ∧ PyData.intsShortAll 200 ps = true ∧ PyData.showableAll ps = true ∧ PyData.depthAll ps ≤ n ∧ PyData.weightAll ps ≤ (k + 1) * xs.length ∧ ps.length = xs.length
  | [], _ => ⟨[], rfl, rfl, rfl, rfl, Nat.zero_le _, Nat.zero_le _, rfl⟩
  | x :: xs, h => by
    obtain ⟨p, a, b, c, d, e, f⟩ := h x (List.mem_cons_self ..)
    obtain ⟨ps, a', b', c', d', e', f', g'⟩ := toPs_good fun y hy => h y (List.mem_cons_of_mem _ hy)
    refine ⟨p :: ps, by simp [toPs, a, a'], by simp [PyData.canLayAll0, b, b'], by simp [PyData.intsShortAll, c, c'], by simp [PyData.showableAll, d, d'], ?_, ?_, by simp [g']⟩
    · simp only [PyData.depthAll]
      exact Nat.max_le.mpr ⟨e, e'⟩
    · simp only [PyData.weightAll, List.length_cons]
      rw [Nat.mul_succ]
      omega
theorem good_tup {n k : Nat} {xs : List D} (h : ∀ x ∈ xs, Good n k x) : Good (n + 1) ((k + 1) * xs.length) (.tup xs) := by
  obtain ⟨ps, a, b, c, d, e, f, _⟩ := toPs_good h
  exact ⟨.tuple ps, by simp [toP, a], by simpa only [PyData.canLay0] using b, by simpa only [PyData.intsShort] using c, by simpa only [PyData.showable] using d, by simp only [PyData.depth]; omega, by simpa only [PyData.weight] using f⟩
theorem good_lst {n k : Nat} {xs : List D} (h : ∀ x ∈ xs, Good n k x) : Good (n + 1) ((k + 1) * xs.length) (.lst xs) := by
  obtain ⟨ps, a, b, c, d, e, f, _⟩ := toPs_good h
  exact ⟨.list ps, by simp [toP, a], by simpa only [PyData.canLay0] using b, by simpa only [PyData.intsShort] using c, by simpa only [PyData.showable] using d, by simp only [PyData.depth]; omega, by simpa only [PyData.weight] using f⟩

theorem Good.not_str_loc {n k : Nat} {d : D} (g : Good n k d) : (∀ j, d ≠ .loc j) ∧ (∀ ns, d ≠ .scr ns) ∧ (∀ c fs, d ≠ .ins c fs) := by
  obtain ⟨p, a, _⟩ := g
  refine ⟨fun j e => ?_, fun j e => ?_, fun j fs e => ?_⟩ <;> subst e <;> cases a
theorem look_pure {d : D} {h : AH} (g : ∀ j, d ≠ .loc j) : look h d = d := by
  cases d <;> first | rfl | exact absurd rfl (g _)
theorem look_tup {xs : List D} {h : AH} : look h (.tup xs) = .tup xs := rfl
theorem look_lst {xs : List D} {h : AH} : look h (.lst xs) = .lst xs := rfl
mutual
theorem noDict_of : ∀ p : PyData, p.canLay0 = true → noDict p = true
  | .none, _ => rfl
  | .bool _, _ => rfl
  | .int _, _ => rfl
  | .str _, _ => rfl
  | .list xs, h => by simp only [noDict]; exact noDicts_of xs (by simpa only [PyData.canLay0] using h)
  | .tuple xs, h => by simp only [noDict]; exact noDicts_of xs (by simpa only [PyData.canLay0] using h)
  | .dict _, h => by simp [PyData.canLay0] at h
theorem noDicts_of : ∀ p : List PyData, PyData.canLayAll0 p = true → noDicts p = true
  | [], _ => rfl
  | x :: xs, h => by
    simp only [PyData.canLayAll0, Bool.and_eq_true] at h
    simp only [noDicts, noDict_of x h.1, noDicts_of xs h.2, Bool.and_self]
end
theorem repr_good {n k : Nat} {d : D} (g : Good n k d) (hn : n ≤ 64) (hk : k ≤ 80000) : ∃ t, ∀ (m : Bool) (h : AH), prim m .repr [d] h = .ok (.str t) h := by
  have hl := g.not_str_loc.1
  obtain ⟨p, a, b, c, e, f, w⟩ := g
  refine ⟨p.shown, fun m h => ?_⟩
  have key : prim m .repr [d] h = (match toP (look h d) with
    | some p => if p.showable && decide (p.depth ≤ 64) && decide (p.shown.length ≤ szl) then .ok (.str p.shown) h else .fail
    | none => .fail) := by cases d <;> rfl
  have l := PyData.shown_le 200 (by decide) p (PyData.leavesShort_of_canLay0 200 p b c)
  have l2 : p.shown.length ≤ szl := by
    show _ ≤ 16777216
    have : (200 + 2) * p.weight ≤ 202 * 80000 := Nat.mul_le_mul (by decide) (by omega)
    omega
  have l3 : p.depth ≤ 64 := by omega
  rw [key, look_pure hl, a]
  simp only [e, l2, l3, decide_true, Bool.and_self, if_true]
/-- a list of such data, beside the empty one -/
theorem eq_nil {n k : Nat} {xs : List D} {h : AH} (g : ∀ x ∈ xs, Good n k x) (hn : n < 64) : eqO h (.lst xs) (.lst []) = some (decide (xs = [])) := by
  obtain ⟨ps, a, b, c, d, e, f, l⟩ := toPs_good g
  show eqG h (.lst xs) (.lst []) = _
  unfold eqG
  rw [look_lst, look_lst]
  have e1 : toP (.lst xs) = some (.list ps) := by simp [toP, a]
  have e2 : toP (.lst []) = some (.list []) := rfl
  have n1 : noDict (.list ps) = true := noDict_of _ (by simpa only [PyData.canLay0] using b)
  have s1 : PySem.SeqAt.shaped (.list ps) = true := by
    unfold PySem.SeqAt.shaped
    simp only [PyData.canLay0, b, PyData.depth, Bool.true_and, decide_eq_true_eq]
    refine decide_eq_true ?_
    omega
  have s2 : PySem.SeqAt.shaped (.list []) = true := by decide
  rw [e1, e2]
  simp only [n1, s1, s2, show noDict (.list []) = true from rfl, Bool.and_self, if_true]
  cases xs with
  | nil =>
    have : ps = [] := List.eq_nil_of_length_eq_zero l
    subst this
    rfl
  | cons x xs =>
    cases ps with
    | nil => cases l
    | cons p ps => rfl
/-- of which class something is -/
def kindB : Ty → D → Bool
  | .int, .int _ => true
  | .int, .bl _ => true
  | .bool, .bl _ => true
  | .str, .str _ => true
  | .tuple, .tup _ => true
  | .list, .lst _ => true
  | .dict, .dct _ => true
  | _, _ => false
theorem isTy_pure {t : Ty} {d : D} {h : AH} (ht : ∀ c, t ≠ .cls c) (h1 : ∀ j, d ≠ .loc j) (h2 : ∀ ns, d ≠ .scr ns) (h3 : ∀ c fs, d ≠ .ins c fs) (ht2 : ∀ c, t ≠ .exc c) : isTy h d t = some (kindB t d) := by
  cases d <;> first | exact absurd rfl (h1 _) | exact absurd rfl (h2 _) | exact absurd rfl (h3 _ _) | (cases t <;> first | exact absurd rfl (ht _) | exact absurd rfl (ht2 _) | rfl)
end PI
namespace PI
open PySem (PyData)
theorem good_at {n k : Nat} : ∀ {xs : List D} {ps : List PyData}, toPs xs = some ps → PyData.canLayAll0 ps = true → PyData.intsShortAll 200 ps = true → PyData.showableAll ps = true → PyData.depthAll ps ≤ n → PyData.weightAll ps ≤ k → ∀ x ∈ xs, Good n k x
  | [], _, _, _, _, _, _, _, x, hx => by cases hx
  | y :: ys, ps, e, a, b, c, d, w, x, hx => by
    simp only [toPs] at e
    cases e1 : toP y with
    | none => rw [e1] at e; cases e
    | some p =>
      rw [e1] at e
      cases e2 : toPs ys with
      | none => rw [e2] at e; cases e
      | some qs =>
        rw [e2] at e
        cases e
        simp only [PyData.canLayAll0, PyData.intsShortAll, PyData.showableAll, Bool.and_eq_true] at a b c
        simp only [PyData.depthAll] at d
        simp only [PyData.weightAll] at w
        rcases List.mem_cons.mp hx with rfl | hx
        · exact ⟨p, e1, a.1, b.1, c.1, Nat.le_trans (Nat.le_max_left _ _) d, by omega⟩
        · exact good_at e2 a.2 b.2 c.2 (Nat.le_trans (Nat.le_max_right _ _) d) (by omega) x hx
theorem Good.of_tup {n k : Nat} {xs : List D} (g : Good n k (.tup xs)) : ∀ x ∈ xs, Good n k x := by
  obtain ⟨p, a, b, c, d, e, w⟩ := g
  simp only [toP] at a
  cases e1 : toPs xs with
  | none => rw [e1] at a; cases a
  | some ps =>
    rw [e1] at a
    cases a
    simp only [PyData.depth] at e
    exact good_at e1 (by simpa only [PyData.canLay0] using b) (by simpa only [PyData.intsShort] using c) (by simpa only [PyData.showable] using d) (by omega) (by simpa only [PyData.weight] using w)
theorem toPs_len : ∀ {xs : List D} {ps : List PyData}, toPs xs = some ps → xs.length ≤ PyData.weightAll ps
  | [], _, _ => Nat.zero_le _
  | y :: ys, ps, e => by
    simp only [toPs] at e
    cases e1 : toP y with
    | none => rw [e1] at e; cases e
    | some p =>
      rw [e1] at e
      cases e2 : toPs ys with
      | none => rw [e2] at e; cases e
      | some qs =>
        rw [e2] at e
        cases e
        have := toPs_len e2
        simp only [PyData.weightAll, List.length_cons]
        omega
theorem Good.tup_len {n k : Nat} {xs : List D} (g : Good n k (.tup xs)) : xs.length ≤ k := by
  obtain ⟨p, a, b, c, d, e, w⟩ := g
  simp only [toP] at a
  cases e1 : toPs xs with
  | none => rw [e1] at a; cases a
  | some ps =>
    rw [e1] at a
    cases a
    exact Nat.le_trans (toPs_len e1) (by simpa only [PyData.weight] using w)
theorem Good.of_str {n k : Nat} {s : Tx} (g : Good n k (.str s)) : s.length ≤ k ∧ ∀ c ∈ s.cps.toList, c < 0x110000 := by
  obtain ⟨p, a, b, c, d, e, w⟩ := g
  cases a
  refine ⟨w, fun c hc => ?_⟩
  have b : PyData.strOk s = true := by simpa only [PyData.canLay0] using b
  unfold PyData.strOk at b
  rw [Array.all_eq_true_iff_forall_mem] at b
  exact of_decide_eq_true (b c (Array.mem_toList_iff.mp hc))
theorem boolL_map {α : Type} (f : α → Bool) : ∀ xs : List α, boolL (xs.map fun x => D.bl (f x)) = some (xs.map f)
  | [] => rfl
  | x :: xs => by simp [boolL, boolL_map f xs]
theorem p_all {m : Bool} {α : Type} {f : α → Bool} {xs : List α} {h : AH} : prim m .all [.lst (xs.map fun x => D.bl (f x))] h = .ok (.bl (xs.all f)) h := by
  show (match boolL (xs.map fun x => D.bl (f x)) with
    | some bs => Res.ok (D.bl (bs.all id)) h
    | none => .fail) = _
  rw [boolL_map]
  simp [List.all_map]
theorem src_str {s : Tx} {h : AH} (l : s.length ≤ szl) : srcItems h (.str s) = some (signs s) := by
  show (if decide (s.length ≤ szl) = true then some (signs s) else none) = _
  rw [if_pos (by simp [l])]
theorem signs_len {s : Tx} : (signs s).length = s.length := by simp [signs, PySem.Str.length]
end PI
set_option maxRecDepth 100000
set_option maxHeartbeats 1000000
namespace PI
open PySem (PyData)
section
variable {P : List FnDecl} {f : Nat}
theorem b_mulg {m : Bool} {i j : Int} {h : AH} (c : i.natAbs.log2 + j.natAbs.log2 < 1000000) : bin2 m .mul (.int i) (.int j) h = .ok (.int (i * j)) h := by
  show (if (smallI i || smallI j || decide (i.natAbs.log2 + j.natAbs.log2 < 1000000)) = true then _ else _) = _
  rw [if_pos]
  simp [c]
theorem big60 {m : Bool} {h : AH} : bin2 m .mul (.int 1000000000000000000000000000000000000000000000000000000000000) (.int 1000000000000000000000000000000000000000000000000000000000000) h = .ok (.int 1000000000000000000000000000000000000000000000000000000000000000000000000000000000000000000000000000000000000000000000000) h := by
  rw [b_mulg (by decide +kernel)]
  rfl
theorem dice_ok (hP : P[f]? = some ⟨2, 5, bDice⟩) (n : Nat) {h : AH} {ns : List Int} {s : Int} (h0 : 0 ≤ s) (h1 : s < 2 ^ 30) : ∃ l, run P (n + 1) f [.scr ns, .int s] h = .ok (.loc h.length) (h ++ [.lst l]) ∧ Dice (h ++ [.lst l]) h.length 0 := by
  rw [run_def hP n rfl]
  have first : ∃ c : Int, evE (run P n) (.ite (.cmp .lt (.var 1) (.prim false .len [.var 0])) (.prim false .int [.idx (.var 0) (.var 1)]) (.bin false .add (.bin false .mul (.cst (.int 47)) (.var 1)) (.cst (.int 9)))) [some (.scr ns), some (.int s), none, none, none] h = .ok (.int c) h := by
    by_cases c : s < ns.length
    · have hj : s.toNat < ns.length := by omega
      refine ⟨ns[s.toNat], ?_⟩
      simp [len_seq (d := .scr ns) (by intro s z; cases z) rfl, c, index_seq (d := .scr ns) (by intro s z; cases z), ixN_ok h0 c, hj]
    · refine ⟨47 * s + 9, ?_⟩
      have k1 : smallI 47 = true := by decide
      simp [len_seq (d := .scr ns) (by intro s z; cases z) rfl, c, k1]
  obtain ⟨c, e⟩ := first
  have k1 : smallI 41 = true := by decide
  have k2 : smallI 613 = true := by decide
  have k3 : smallI 17 = true := by decide
  have a0 : 0 ≤ (if c < 0 then -c else c) := by split <;> omega
  obtain ⟨A, eA⟩ : ∃ A, A = (if c < 0 then -c else c) := ⟨_, rfl⟩
  obtain ⟨g, eg⟩ : ∃ g, g = A % 10 ^ 59 := ⟨_, rfl⟩
  obtain ⟨u, eu⟩ : ∃ u, u = (if A - 10 ^ 17 > 0 then A - 10 ^ 17 else 0) := ⟨_, rfl⟩
  obtain ⟨v, ev⟩ : ∃ v : Int, v = (if c < 0 then 1 else 0) := ⟨_, rfl⟩
  refine ⟨[.int (u % 10 ^ 120), .int (g % 2147483563 * 41 + 613 * s + 17 * v + 7), .int 0], ?_, ⟨u % 10 ^ 120, g % 2147483563 * 41 + 613 * s + 17 * v + 7, 0, by simp, Int.emod_nonneg _ (by decide), ?_, ?_, by omega, by omega⟩⟩
  · simp [bDice, -e_ite, e, k1, k2, k3, big60, szl]
    simp [eA, eg, eu, ev]
  · have := Int.emod_nonneg g (b := 2147483563) (by decide)
    have : 0 ≤ v := by rw [ev]; split <;> omega
    omega
  · have := Int.emod_lt_of_pos g (b := 2147483563) (by decide)
    have : v ≤ 1 := by rw [ev]; split <;> omega
    omega
theorem big99 {m : Bool} {h : AH} : bin2 m .mul (.int 1000000000000000000000000000000000000000000000000000000000000) (.int 1000000000000000000000000000000000000000) h = .ok (.int 1000000000000000000000000000000000000000000000000000000000000000000000000000000000000000000000000000) h := by
  rw [b_mulg (by decide +kernel)]
  rfl
/-- a text again and again -/
def repS (s : Tx) (k : Int) : Tx := ⟨(List.replicate k.toNat s.cps).foldl (· ++ ·) #[]⟩
theorem b_reps {m : Bool} {s : Tx} {k : Int} {h : AH} (h1 : 2 ≤ k) (h2 : k ≤ 10000) (h3 : 1 ≤ s.length) (h4 : s.length ≤ 1000) : bin2 m .mul (.str s) (.int k) h = .ok (.str (repS s k)) h := by
  show (if (decide (2 ≤ k) && decide (k ≤ 10000) && decide (1 ≤ s.length) && decide (s.length ≤ 1000)) = true then _ else _) = _
  rw [if_pos (by simp [h1, h2, h3, h4])]
  rfl
theorem repS_list {s : Tx} {k : Int} : (repS s k).cps.toList = (List.replicate k.toNat s.cps.toList).flatten := by
  have gen : ∀ (l : List (Array Nat)) (acc : Array Nat), (l.foldl (· ++ ·) acc).toList = acc.toList ++ (l.map Array.toList).flatten := by
    intro l
    induction l with
    | nil => intro acc; simp
    | cons a l ih => intro acc; rw [List.foldl_cons, ih, Array.toList_append]; simp
  unfold repS
  rw [gen]
  simp
theorem repS_len {s : Tx} {k : Int} : (repS s k).length = k.toNat * s.length := by
  show (repS s k).cps.size = _
  rw [← Array.length_toList, repS_list]
  simp [PySem.Str.length]
theorem repS_mem {s : Tx} {k : Int} {c : Nat} (h : c ∈ (repS s k).cps.toList) : c ∈ s.cps.toList := by
  rw [repS_list, List.mem_flatten] at h
  obtain ⟨l, h1, h2⟩ := h
  rw [List.mem_replicate] at h1
  rw [h1.2] at h2
  exact h2
theorem b_rept {m : Bool} {xs : List D} {k : Int} {h : AH} (h0 : xs ≠ []) (h1 : 2 ≤ k) (h2 : k ≤ 10000) (h3 : xs.length ≤ 1000) : bin2 m .mul (.tup xs) (.int k) h = .ok (.tup (List.replicate k.toNat xs).flatten) h := by
  show (if (decide (xs = []) && decide (0 ≤ k) && decide (k ≤ 10000)) = true then _ else if (decide (xs ≠ []) && decide (2 ≤ k) && decide (k ≤ 10000) && decide (xs.length ≤ 1000)) = true then _ else _) = _
  rw [if_neg (by simp [h0]), if_pos (by simp [h0, h1, h2, h3])]
theorem b_rept0 {m : Bool} {k : Int} {h : AH} (h1 : 0 ≤ k) (h2 : k ≤ 10000) : bin2 m .mul (.tup []) (.int k) h = .ok (.tup []) h := by
  show (if (decide (([] : List D) = []) && decide (0 ≤ k) && decide (k ≤ 10000)) = true then _ else _) = _
  rw [if_pos (by simp [h1, h2])]
@[simp] theorem b_addl {m : Bool} {xs ys : List D} {h : AH} : bin2 m .add (.lst xs) (.lst ys) h = if xs.length + ys.length ≤ szl then mk m (xs ++ ys) h else .fail := by
  show (if decide (xs.length + ys.length ≤ szl) = true then _ else _) = _
  simp only [decide_eq_true_eq]
@[simp] theorem b_addt {m : Bool} {xs ys : List D} {h : AH} : bin2 m .add (.tup xs) (.tup ys) h = if xs.length + ys.length ≤ szl then .ok (.tup (xs ++ ys)) h else .fail := by
  show (if decide (xs.length + ys.length ≤ szl) = true then _ else _) = _
  simp only [decide_eq_true_eq]
@[simp] theorem b_adds {m : Bool} {x y : Tx} {h : AH} : bin2 m .add (.str x) (.str y) h = if x.length + y.length ≤ szl then .ok (.str (x ++ y)) h else .fail := by
  show (if decide (x.length + y.length ≤ szl) = true then _ else _) = _
  simp only [decide_eq_true_eq]
/-- odd values -/
def oddL : List D := [.non, .int 0, .int 1, .int (-1), .bl true, .bl false, .str "", .str "a", .str "A b", .tup [], .tup [.str "c"], .lst [], .lst [.str "c"], .dct [], .dct [(.str "c", .int 0)], .tup [.tup []], .int 1000000000000000000000000000000000000000000000000000000000000, .str "_",
  .str (repS "x" 4000), .tup (List.replicate 30 [D.str "c"]).flatten, .tup [.int 1, .int 2], .tup [.non], .tup [.tup [.tup [.str "c"]]], .str "\n", .int 1000000000000000000000000000000000000000000000000000000000000000000000000000000000000000000000000000, .int (-1000000000000000000000000000000000000000000000000000000000000)]
theorem odd_ok2 {g x : Nat} (hP : P[f]? = some ⟨2, 5, bRoll⟩) (hG : P[x]? = some ⟨2, 5, bMixed f⟩) (hO : P[g]? = some ⟨1, 2, bOdd x⟩) (n : Nat) {h : AH} {a : Nat} {m : Int} (dc : Dice h a m) (hm : m < 2 ^ 39) (hm0 : 0 ≤ m) :
    ∃ k h' ys, run P (n + 3) g [.loc a] h = .ok (.loc k) h' ∧ h'[k]? = some (.lst ys) ∧ ys.Perm oddL ∧ Dice h' a (m + 26) ∧ Frame a h h' ∧ k ≠ a ∧ h.length ≤ k ∧ k = h.length + 1 ∧ h'.length = h.length + 2 ∧ h'[h.length]? = some (.lst []) := by
  obtain ⟨k, h', ys, e, e1, p, d, fr, ne, le, t1, t2, t3⟩ := mixed_ok2 hP hG n (d := .lst oddL) (xs := oddL) dc (by show m + 26 < _; omega) hm0 (by intro s z; cases z) (by intro s z; cases z) (fun _ => rfl) (by decide)
  refine ⟨k, h', ys, ?_, e1, p, d, fr, ne, le, t1, t2, t3⟩
  rw [run_def hO (n + 2) rfl]
  have r1 : ∀ h : AH, bin2 false .mul (.str "x") (.int 4000) h = .ok (.str (repS "x" 4000)) h := fun h => b_reps (by decide) (by decide) (by decide) (by decide)
  have r2 : ∀ h : AH, bin2 false .mul (.tup [.str "c"]) (.int 30) h = .ok (.tup (List.replicate 30 [D.str "c"]).flatten) h := fun h => b_rept (by decide) (by decide) (by decide) (by decide)
  have e' := e
  simp [oddL] at e'
  simp [bOdd, szl, big99, r1, r2, e']
theorem odd_ok {g x : Nat} (hP : P[f]? = some ⟨2, 5, bRoll⟩) (hG : P[x]? = some ⟨2, 5, bMixed f⟩) (hO : P[g]? = some ⟨1, 2, bOdd x⟩) (n : Nat) {h : AH} {a : Nat} {m : Int} (dc : Dice h a m) (hm : m < 2 ^ 39) (hm0 : 0 ≤ m) :
    ∃ k h' ys, run P (n + 3) g [.loc a] h = .ok (.loc k) h' ∧ h'[k]? = some (.lst ys) ∧ ys.Perm oddL ∧ Dice h' a (m + 26) ∧ Frame a h h' ∧ k ≠ a ∧ h.length ≤ k := by
  obtain ⟨k, h', ys, q1, q2, q3, q4, q5, q6, q7, _⟩ := odd_ok2 hP hG hO n dc hm hm0
  exact ⟨k, h', ys, q1, q2, q3, q4, q5, q6, q7⟩
end
end PI
set_option maxRecDepth 100000
set_option maxHeartbeats 1000000
/-! Runs with dicts and objects; rows of good data. -/
namespace PI
open PySem (PyData)
section
variable {F : Fn} {ρ : Rho} {h h1 : AH}
theorem e_dix {o k : E} : evE F (.dix o k) ρ h = (evE F o ρ h).bind fun x h1 => (evE F k ρ h1).bind fun y h2 => if keyK y then Res.of ((dkvs h2 x).bind fun kvs => dfind kvs y) h2 else .fail := rfl
theorem e_dget {o k z : E} : evE F (.dget o k z) ρ h = (evE F o ρ h).bind fun x h1 => if (dkvs h1 x).isSome then (evE F k ρ h1).bind fun y h2 => (evE F z ρ h2).bind fun u h3 => if keyK y then Res.of ((dkvs h3 x).map fun kvs => (dfind kvs y).getD u) h3 else .fail else .fail := rfl
theorem e_din {neg : Bool} {k o : E} : evE F (.din neg k o) ρ h = (evE F k ρ h).bind fun y h1 => (evE F o ρ h1).bind fun x h2 => if keyK y then Res.of ((dkvs h2 x).map fun kvs => .bl (if neg then !(dfind kvs y).isSome else (dfind kvs y).isSome)) h2 else .fail := rfl
theorem e_slot {c i : Nat} {o : E} : evE F (.slot c o i) ρ h = (evE F o ρ h).bind fun x h1 => Res.of ((slotsOf c h1 x).bind fun fs => (fs[i]?).join) h1 := rfl
theorem e_own_meth {c f : Nat} {o : E} {es : List E} : evE F (.own .meth c f o es) ρ h = (evE F o ρ h).bind fun x h1 => if (slotsOf c h1 x).isSome then (evEs F es ρ h1).bind fun xs h2 => F f (x :: xs) h2 else .fail := rfl
theorem e_own_prop {c f : Nat} {o : E} {es : List E} : evE F (.own .prop c f o es) ρ h = (evE F o ρ h).bind fun x h1 => if (slotsOf c h1 x).isSome then (F f [x] h1).nox else .fail := rfl
theorem dkvs_dct {kvs : List (D × D)} : dkvs h (.dct kvs) = some kvs := rfl
theorem dkvs_loc {n : Nat} {kvs : List (D × D)} (e : h[n]? = some (.dct kvs)) : dkvs h (.loc n) = some kvs := by
  have : look h (.loc n) = .dct kvs := by
    show (match h[n]? with
      | some (.lst xs) => D.lst xs
      | some (.dct kvs) => .dct kvs
      | _ => .loc n) = _
    rw [e]
  unfold dkvs
  rw [this]
theorem slots_at {c n : Nat} {fs : List (Option D)} (e : h[n]? = some (.ins c fs)) : slotsOf c h (.loc n) = some fs := by
  show (match h[n]? with
    | some (.ins c' fs) => if c' = c then some fs else none
    | _ => none) = _
  rw [e]
  exact if_pos rfl
theorem nox_val {α : Type} {a : α} : (Res.ok a h).nox = .ok a h := rfl
/-- a row over the pairs of a dict -/
theorem e_compI {m : Bool} {i j : Nat} {src elt : E} {kvs : List (D × D)} (f : D × D → D) (hs : evE F src ρ h = .ok (.dct kvs) h1) (hf : ∀ p ∈ kvs, evE F elt ((ρ.set i (some p.1)).set j (some p.2)) h1 = .ok (f p) h1) (hl : kvs.length ≤ szl) : evE F (.compI m i j src none elt) ρ h = mk m (kvs.map f) h1 := by
  have : evE F (.compI m i j src none elt) ρ h = (evE F src ρ h).bind fun s h1 => match s with
    | .dct kvs => ((goC (fun x h3 => match x with
          | .tup [a, b] => (evC F none ((ρ.set i (some a)).set j (some b)) h3).bind fun t h4 => (match t with
            | true => (evE F elt ((ρ.set i (some a)).set j (some b)) h4).bind fun y h5 => .ok (some y) h5
            | false => .ok none h4)
          | _ => .fail) (fun _ => true) (kvs.map fun p => .tup [p.1, p.2]) h1).nox).bind fun ys h6 => if decide (ys.length ≤ szl) then mk m ys h6 else .fail
    | _ => .fail := rfl
  rw [this, hs, bind_ok]
  dsimp only
  have key : ∀ l : List (D × D), (∀ p ∈ l, p ∈ kvs) → goC (fun x h3 => match x with
          | .tup [a, b] => (evC F none ((ρ.set i (some a)).set j (some b)) h3).bind fun t h4 => (match t with
            | true => (evE F elt ((ρ.set i (some a)).set j (some b)) h4).bind fun y h5 => .ok (some y) h5
            | false => .ok none h4)
          | _ => .fail) (fun _ => true) (l.map fun p => .tup [p.1, p.2]) h1 = .ok (l.map f) h1 := by
    intro l
    induction l with
    | nil => intro _; rfl
    | cons p l ih =>
      intro hl
      rw [List.map_cons]
      unfold goC
      rw [if_pos rfl]
      dsimp only
      rw [show evC F none ((ρ.set i (some p.1)).set j (some p.2)) h1 = .ok true h1 from rfl, bind_ok]
      dsimp only
      rw [hf p (hl p (List.mem_cons_self)), bind_ok, bind_ok, ih fun q hq => hl q (List.mem_cons_of_mem _ hq), bind_ok]
      rfl
  rw [key kvs fun p hp => hp, nox_val, bind_ok, List.length_map]
  exact if_pos (decide_eq_true hl)
theorem e_compIF {m : Bool} {i j : Nat} {src elt c : E} {kvs : List (D × D)} (b : D × D → Bool) (f : D × D → D) (hs : evE F src ρ h = .ok (.dct kvs) h1) (hb : ∀ p ∈ kvs, evE F c ((ρ.set i (some p.1)).set j (some p.2)) h1 = .ok (.bl (b p)) h1) (hf : ∀ p ∈ kvs, evE F elt ((ρ.set i (some p.1)).set j (some p.2)) h1 = .ok (f p) h1) (hl : kvs.length ≤ szl) : evE F (.compI m i j src (some c) elt) ρ h = mk m ((kvs.filter b).map f) h1 := by
  have : evE F (.compI m i j src (some c) elt) ρ h = (evE F src ρ h).bind fun s h1 => match s with
    | .dct kvs => ((goC (fun x h3 => match x with
          | .tup [u, v] => (evC F (some c) ((ρ.set i (some u)).set j (some v)) h3).bind fun t h4 => (match t with
            | true => (evE F elt ((ρ.set i (some u)).set j (some v)) h4).bind fun y h5 => .ok (some y) h5
            | false => .ok none h4)
          | _ => .fail) (fun _ => true) (kvs.map fun p => .tup [p.1, p.2]) h1).nox).bind fun ys h6 => if decide (ys.length ≤ szl) then mk m ys h6 else .fail
    | _ => .fail := rfl
  rw [this, hs, bind_ok]
  dsimp only
  have key : ∀ l : List (D × D), (∀ p ∈ l, p ∈ kvs) → goC (fun x h3 => match x with
          | .tup [u, v] => (evC F (some c) ((ρ.set i (some u)).set j (some v)) h3).bind fun t h4 => (match t with
            | true => (evE F elt ((ρ.set i (some u)).set j (some v)) h4).bind fun y h5 => .ok (some y) h5
            | false => .ok none h4)
          | _ => .fail) (fun _ => true) (l.map fun p => .tup [p.1, p.2]) h1 = .ok ((l.filter b).map f) h1 := by
    intro l
    induction l with
    | nil => intro _; rfl
    | cons p l ih =>
      intro hl
      rw [List.map_cons]
      unfold goC
      rw [if_pos rfl]
      dsimp only
      have hc : evC F (some c) ((ρ.set i (some p.1)).set j (some p.2)) h1 = .ok (b p) h1 := by
        unfold evC
        rw [hb p (hl p (List.mem_cons_self)), bind_ok]
      rw [hc, bind_ok, List.filter_cons]
      cases hbp : b p with
      | true =>
        dsimp only
        rw [hf p (hl p (List.mem_cons_self)), bind_ok, bind_ok, ih fun q hq => hl q (List.mem_cons_of_mem _ hq), bind_ok]
        rfl
      | false =>
        dsimp only
        rw [bind_ok, ih fun q hq => hl q (List.mem_cons_of_mem _ hq), bind_ok]
        rfl
  rw [key kvs fun p hp => hp, nox_val, bind_ok, List.length_map]
  exact if_pos (decide_eq_true (Nat.le_trans (List.length_filter_le _ _) hl))
end
/-! ### rows of good data -/
structure Gl (n k : Nat) (xs : List D) : Prop where
  ex : ∃ ps, toPs xs = some ps ∧ PyData.canLayAll0 ps = true ∧ PyData.intsShortAll 200 ps = true ∧ PyData.showableAll ps = true ∧ PyData.depthAll ps ≤ n ∧ PyData.weightAll ps ≤ k
theorem Gl.mono {n k n' k' : Nat} {xs : List D} (g : Gl n k xs) (h1 : n ≤ n') (h2 : k ≤ k') : Gl n' k' xs := by
  obtain ⟨p, a, b, c, d, e, f⟩ := g
  exact ⟨p, a, b, c, d, Nat.le_trans e h1, Nat.le_trans f h2⟩
theorem Gl.nil (n : Nat) : Gl n 0 [] := ⟨[], rfl, rfl, rfl, rfl, Nat.zero_le _, Nat.le_refl _⟩
theorem Gl.cons {n k l : Nat} {x : D} {xs : List D} (g : Good n k x) (t : Gl n l xs) : Gl n (k + 1 + l) (x :: xs) := by
  obtain ⟨p, a, b, c, d, e, f⟩ := g
  obtain ⟨ps, a', b', c', d', e', f'⟩ := t
  refine ⟨p :: ps, by simp [toPs, a, a'], by simp [PyData.canLayAll0, b, b'], by simp [PyData.intsShortAll, c, c'], by simp [PyData.showableAll, d, d'], ?_, ?_⟩
  · simp only [PyData.depthAll]
    exact Nat.max_le.mpr ⟨e, e'⟩
  · simp only [PyData.weightAll]
    omega
theorem Gl.of_cons {n k : Nat} {x : D} {xs : List D} (g : Gl n k (x :: xs)) : ∃ a b, a + 1 + b ≤ k ∧ Good n a x ∧ Gl n b xs := by
  obtain ⟨ps, a, b, c, d, e, w⟩ := g
  simp only [toPs] at a
  cases e1 : toP x with
  | none => rw [e1] at a; cases a
  | some p =>
    rw [e1] at a
    cases e2 : toPs xs with
    | none => rw [e2] at a; cases a
    | some qs =>
      rw [e2] at a
      cases a
      simp only [PyData.canLayAll0, PyData.intsShortAll, PyData.showableAll, Bool.and_eq_true] at b c d
      simp only [PyData.depthAll] at e
      simp only [PyData.weightAll] at w
      exact ⟨p.weight, PyData.weightAll qs, by omega, ⟨p, e1, b.1, c.1, d.1, by omega, Nat.le_refl _⟩, ⟨qs, e2, b.2, c.2, d.2, by omega, Nat.le_refl _⟩⟩
theorem Gl.append {n : Nat} : ∀ {xs ys : List D} {k l : Nat}, Gl n k xs → Gl n l ys → Gl n (k + l) (xs ++ ys)
  | [], ys, k, l, _, h => h.mono (Nat.le_refl _) (by omega)
  | x :: xs, ys, k, l, g, h => by
    obtain ⟨a, b, hab, gx, gt⟩ := g.of_cons
    exact (Gl.cons gx (gt.append h)).mono (Nat.le_refl _) (by omega)
theorem Gl.split {n : Nat} : ∀ {xs ys : List D} {k : Nat}, Gl n k (xs ++ ys) → ∃ a b, a + b ≤ k ∧ Gl n a xs ∧ Gl n b ys
  | [], ys, k, h => ⟨0, k, by omega, .nil n, h⟩
  | x :: xs, ys, k, h => by
    obtain ⟨a, b, hab, gx, gt⟩ := Gl.of_cons (xs := xs ++ ys) h
    obtain ⟨c, d, hcd, g1, g2⟩ := gt.split
    exact ⟨a + 1 + c, d, by omega, .cons gx g1, g2⟩
theorem Gl.take {n k : Nat} {xs : List D} (g : Gl n k xs) (i : Nat) : Gl n k (xs.take i) := by
  rw [← List.take_append_drop i xs] at g
  obtain ⟨a, b, hab, g1, g2⟩ := g.split
  exact g1.mono (Nat.le_refl _) (by omega)
theorem Gl.drop {n k : Nat} {xs : List D} (g : Gl n k xs) (i : Nat) : Gl n k (xs.drop i) := by
  rw [← List.take_append_drop i xs] at g
  obtain ⟨a, b, hab, g1, g2⟩ := g.split
  exact g2.mono (Nat.le_refl _) (by omega)
theorem Gl.cut {n k : Nat} {xs : List D} (g : Gl n k xs) (i : Nat) : ∃ a b, a + b ≤ k ∧ Gl n a (xs.take i) ∧ Gl n b (xs.drop i) := by
  rw [← List.take_append_drop i xs] at g
  obtain ⟨a, b, hab, g1, g2⟩ := g.split
  refine ⟨a, b, hab, ?_, ?_⟩
  · simpa using g1
  · simpa using g2
theorem Gl.reverse {n : Nat} : ∀ {xs : List D} {k : Nat}, Gl n k xs → Gl n k xs.reverse
  | [], _, g => g
  | x :: xs, k, g => by
    obtain ⟨a, b, hab, gx, gt⟩ := g.of_cons
    rw [List.reverse_cons]
    exact (gt.reverse.append (Gl.cons gx (.nil n))).mono (Nat.le_refl _) (by omega)
theorem Gl.rep {n k : Nat} {xs : List D} (g : Gl n k xs) : ∀ m : Nat, Gl n (m * k) (List.replicate m xs).flatten
  | 0 => (Gl.nil n).mono (Nat.le_refl _) (by omega)
  | m + 1 => by
    rw [List.replicate_succ, List.flatten_cons]
    exact (g.append (Gl.rep g m)).mono (Nat.le_refl _) (by rw [Nat.succ_mul]; omega)
theorem Gl.mem {n : Nat} : ∀ {xs : List D} {k : Nat}, Gl n k xs → ∀ x ∈ xs, Good n k x
  | [], _, _, x, hx => by cases hx
  | y :: ys, k, g, x, hx => by
    obtain ⟨a, b, hab, gx, gt⟩ := g.of_cons
    rcases List.mem_cons.mp hx with rfl | hx
    · exact gx.mono (Nat.le_refl _) (by omega)
    · exact (gt.mem x hx).mono (Nat.le_refl _) (by omega)
theorem Gl.len {n : Nat} : ∀ {xs : List D} {k : Nat}, Gl n k xs → xs.length ≤ k
  | [], _, _ => Nat.zero_le _
  | y :: ys, k, g => by
    obtain ⟨a, b, hab, gx, gt⟩ := g.of_cons
    have := gt.len
    simp only [List.length_cons]
    omega
theorem Gl.all {n k : Nat} : ∀ {xs : List D}, (∀ x ∈ xs, Good n k x) → Gl n ((k + 1) * xs.length) xs
  | [], _ => (Gl.nil n).mono (Nat.le_refl _) (by omega)
  | x :: xs, h => ((Gl.cons (h x (List.mem_cons_self)) (Gl.all fun y hy => h y (List.mem_cons_of_mem _ hy)))).mono (Nat.le_refl _) (by rw [List.length_cons, Nat.mul_succ]; omega)
theorem Gl.tup {n k : Nat} {xs : List D} (g : Gl n k xs) : Good (n + 1) k (.tup xs) := by
  obtain ⟨ps, a, b, c, d, e, w⟩ := g
  exact ⟨.tuple ps, by simp [toP, a], by simpa only [PyData.canLay0] using b, by simpa only [PyData.intsShort] using c, by simpa only [PyData.showable] using d, by simp only [PyData.depth]; omega, by simpa only [PyData.weight] using w⟩
theorem Gl.lst {n k : Nat} {xs : List D} (g : Gl n k xs) : Good (n + 1) k (.lst xs) := by
  obtain ⟨ps, a, b, c, d, e, w⟩ := g
  exact ⟨.list ps, by simp [toP, a], by simpa only [PyData.canLay0] using b, by simpa only [PyData.intsShort] using c, by simpa only [PyData.showable] using d, by simp only [PyData.depth]; omega, by simpa only [PyData.weight] using w⟩
end PI
set_option maxRecDepth 100000
set_option maxHeartbeats 1000000
/-! The signs of what repr shows. -/
namespace PI
open PySem (PyData Str)
def chOk (s : Str) : Prop := ∀ c ∈ s.cps.toList, c < 16 ^ 8
theorem chOk.append {a b : Str} (h : chOk a) (k : chOk b) : chOk (a ++ b) := by
  intro c hc
  have e : (a ++ b).cps = a.cps ++ b.cps := rfl
  rw [e, Array.toList_append] at hc
  rcases List.mem_append.mp hc with hc | hc
  · exact h c hc
  · exact k c hc
theorem chr_lt (c : Char) : c.toNat < 16 ^ 8 := by
  have h := c.valid
  have : c.toNat < 0x110000 := by
    rcases h with h | ⟨_, h⟩
    · have : c.val.toNat < 0xd800 := h
      exact Nat.lt_trans this (by decide)
    · exact h
  exact Nat.lt_trans this (by decide)
theorem chOk_of (s : String) : chOk (PySem.Str.ofString s) := by
  intro c hc
  have e : (PySem.Str.ofString s).cps.toList = s.toList.map Char.toNat := by
    rw [PySem.Str.ofString_eq_toList]
  rw [e] at hc
  obtain ⟨x, _, rfl⟩ := List.mem_map.mp hc
  exact chr_lt x
theorem repr1_ok {q c : Nat} (hq : q < 16 ^ 8) (hc : c < 16 ^ 8) : ∀ d ∈ PySem.Builtin.Str.reprChar q c, d < 16 ^ 8 := by
  have hx : ∀ d ∈ (Nat.toDigits 16 c).map Char.toNat, d < 16 ^ 8 := by
    intro d hd
    obtain ⟨x, _, rfl⟩ := List.mem_map.mp hd
    exact chr_lt x
  have hr : ∀ n : Nat, ∀ d ∈ List.replicate n 48, d < 16 ^ 8 := by
    intro n d hd
    have := (List.mem_replicate.mp hd).2
    subst this
    decide
  unfold PySem.Builtin.Str.reprChar
  dsimp only
  repeat' split
  all_goals
    intro d hd
    simp only [List.mem_append, List.mem_cons, List.not_mem_nil, or_false] at hd
  all_goals first
    | (rcases hd with (rfl | rfl) | hd | hd <;> first | decide | exact hr _ _ hd | exact hx _ hd)
    | (rcases hd with rfl | rfl | hd | hd <;> first | decide | exact hr _ _ hd | exact hx _ hd)
    | (rcases hd with rfl | rfl <;> first | decide | assumption)
    | (subst hd; assumption)
theorem fold_ok {q : Nat} (hq : q < 16 ^ 8) : ∀ (l : List Nat) (acc : Array Nat), (∀ c ∈ l, c < 16 ^ 8) → (∀ c ∈ acc.toList, c < 16 ^ 8) → ∀ c ∈ (l.foldl (fun out c => out ++ (PySem.Builtin.Str.reprChar q c).toArray) acc).toList, c < 16 ^ 8
  | [], _, _, ha => ha
  | x :: l, acc, hl, ha => by
    rw [List.foldl_cons]
    refine fold_ok hq l _ (fun c hc => hl c (List.mem_cons_of_mem _ hc)) fun c hc => ?_
    rw [Array.toList_append] at hc
    rcases List.mem_append.mp hc with hc | hc
    · exact ha c hc
    · exact repr1_ok hq (hl x (List.mem_cons_self)) c (by simpa using hc)
theorem quote_lt (x : Str) : PySem.reprQuote x < 16 ^ 8 := by
  unfold PySem.reprQuote
  split <;> decide
theorem reprT_ok {x : Str} (h : chOk x) : chOk (PySem.reprText x) := by
  intro c hc
  have hc : c ∈ ((x.cps.foldl (fun out c => out ++ (PySem.Builtin.Str.reprChar (PySem.reprQuote x) c).toArray) #[PySem.reprQuote x]).push (PySem.reprQuote x)).toList := hc
  rw [Array.toList_push, ← Array.foldl_toList] at hc
  rcases List.mem_append.mp hc with hc | hc
  · exact fold_ok (quote_lt x) _ _ h (fun c hc => by
      have : c = PySem.reprQuote x := by simpa using hc
      subst this
      exact quote_lt x) c hc
  · have : c = PySem.reprQuote x := by simpa using hc
    subst this
    exact quote_lt x
theorem from_ok : ∀ (ts : List Str) (k : Nat) (acc : Str), chOk acc → (∀ t ∈ ts, chOk t) → chOk (PySem.textFrom k acc ts)
  | [], _, _, h, _ => h
  | t :: ts, k, acc, h, ht => by
    refine from_ok ts (k + 1) _ ((h.append ?_).append (ht t (List.mem_cons_self))) fun u hu => ht u (List.mem_cons_of_mem _ hu)
    exact chOk_of _
theorem join_ok {sep : Str} (hs : chOk sep) : ∀ (ts : List Str), (∀ t ∈ ts, chOk t) → chOk (PySem.Str.join sep ts)
  | [], _ => by intro c hc; cases hc
  | [x], h => h x (List.mem_cons_self)
  | x :: y :: r, h => (((h x (List.mem_cons_self)).append hs).append (join_ok hs (y :: r) fun t ht => h t (List.mem_cons_of_mem _ ht)))
mutual
theorem shown_ok : ∀ d : PyData, d.canLay0 = true → chOk d.shown
  | .none, _ => chOk_of _
  | .bool b, _ => by cases b <;> exact chOk_of _
  | .int i, _ => chOk_of _
  | .str x, h => by
    refine reprT_ok fun c hc => ?_
    have h : PyData.strOk x = true := by simpa only [PyData.canLay0] using h
    unfold PyData.strOk at h
    rw [Array.all_eq_true_iff_forall_mem] at h
    have := of_decide_eq_true (h c (Array.mem_toList_iff.mp hc))
    exact Nat.lt_trans this (by decide)
  | .list xs, h => by
    have h := shownAll_ok xs (by simpa only [PyData.canLay0] using h)
    exact (from_ok _ _ _ (chOk_of _) h).append (chOk_of _)
  | .tuple xs, h => by
    have h := shownAll_ok xs (by simpa only [PyData.canLay0] using h)
    exact ((chOk_of "(").append (join_ok (chOk_of ", ") _ h)).append (chOk_of _)
  | .dict _, h => by simp [PyData.canLay0] at h
theorem shownAll_ok : ∀ xs : List PyData, PyData.canLayAll0 xs = true → ∀ t ∈ PyData.shownAll xs, chOk t
  | [], _, t, ht => by cases ht
  | x :: xs, h, t, ht => by
    simp only [PyData.canLayAll0, Bool.and_eq_true] at h
    rcases List.mem_cons.mp ht with rfl | ht
    · exact shown_ok x h.1
    · exact shownAll_ok xs h.2 t ht
end
/-- str of good data -/
theorem str_good {n k : Nat} {d : D} (g : Good n k d) (hn : n ≤ 64) (hk : k ≤ 80000) : ∃ t, (∀ (m : Bool) (h : AH), prim m .str [d] h = .ok (.str t) h) ∧ t.length ≤ 202 * (k + 1) ∧ chOk t := by
  have hl := g.not_str_loc.1
  by_cases hs : ∃ s, d = .str s
  · obtain ⟨s, rfl⟩ := hs
    have := g.of_str
    exact ⟨s, fun m h => rfl, by omega, fun c hc => Nat.lt_trans (this.2 c hc) (by decide)⟩
  obtain ⟨p, a, b, c, e, f, w⟩ := g
  have l := PyData.shown_le 200 (by decide) p (PyData.leavesShort_of_canLay0 200 p b c)
  have l0 : (200 + 2) * p.weight ≤ 202 * k := Nat.mul_le_mul (by decide) (by omega)
  by_cases hi : ∃ i, d = .int i
  · obtain ⟨i, rfl⟩ := hi
    cases a
    refine ⟨PySem.Str.ofString (toString i), fun m h => ?_, ?_, chOk_of _⟩
    · show (if decide (i.natAbs.log2 < 1920) = true then _ else _) = _
      rw [if_pos]
      have : decide (i.natAbs.log2 < 1920) = true := by simpa only [PyData.showable] using e
      exact this
    · have : (PySem.Str.ofString (toString i)).length ≤ (200 + 2) * (PyData.int i).weight + 200 := l
      omega
  · refine ⟨p.shown, fun m h => ?_, by omega, shown_ok p b⟩
    have key : prim m .str [d] h = (match toP (look h d) with
      | some p => if p.showable && decide (p.depth ≤ 64) && decide (p.shown.length ≤ szl) then .ok (.str p.shown) h else .fail
      | none => .fail) := by cases d <;> first | rfl | exact absurd ⟨_, rfl⟩ hs | exact absurd ⟨_, rfl⟩ hi
    have l2 : p.shown.length ≤ szl := by
      show _ ≤ 16777216
      have : 202 * k ≤ 202 * 80000 := Nat.mul_le_mul (by decide) hk
      omega
    have l3 : p.depth ≤ 64 := by omega
    rw [key, look_pure hl, a]
    simp only [e, l2, l3, decide_true, Bool.and_self, if_true]
/-- repr of any text -/
theorem repr_text {s : Str} (h : chOk s) (hl : s.length ≤ 1600000) : ∃ t, ∀ (m : Bool) (h : AH), prim m .repr [.str s] h = .ok (.str t) h := by
  refine ⟨PySem.reprText s, fun m h' => ?_⟩
  have l := PySem.StrLaws.reprText_len s h
  have key : prim m .repr [.str s] h' = (if (PyData.str s).showable && decide ((PyData.str s).depth ≤ 64) && decide ((PyData.str s).shown.length ≤ szl) then .ok (.str (PyData.str s).shown) h' else .fail) := rfl
  have l2 : (PyData.str s).shown.length ≤ szl := by
    show (PySem.reprText s).length ≤ 16777216
    omega
  have l3 : (PyData.str s).depth ≤ 64 := by show 0 ≤ 64; omega
  rw [key]
  simp only [l2, l3, show (PyData.str s).showable = true from rfl, decide_true, Bool.and_self, if_true]
  rfl
end PI
set_option maxRecDepth 100000
set_option maxHeartbeats 1000000
namespace PITree
open PI
open PySem (PyData Str)
/-! ### arities, trees, contexts -/
abbrev Ar := List (Str × Int)
def kvD (ar : Ar) : List (D × D) := ar.map fun p => (.str p.1, .int p.2)
def gt : Ar → Str → Option Int
  | [], _ => none
  | p :: r, s => if p.1 = s then some p.2 else gt r s
theorem gt_cons {p : Str × Int} {r : Ar} {s : Str} : gt (p :: r) s = if p.1 = s then some p.2 else gt r s := rfl
theorem dfind_kv (s : Str) : ∀ ar : Ar, dfind (kvD ar) (.str s) = (gt ar s).map D.int
  | [] => rfl
  | p :: r => by
    show (if D.same (.str p.1) (.str s) = true then some (D.int p.2) else dfind (kvD r) (.str s)) = _
    have : D.same (.str p.1) (.str s) = decide (p.1 = s) := by simp [D.same]
    rw [this, dfind_kv s r, gt_cons]
    by_cases h : p.1 = s
    · simp [h]
    · simp [h]
theorem gt_mem : ∀ {ar : Ar} {s : Str} {i : Int}, gt ar s = some i → (s, i) ∈ ar
  | [], _, _, h => by cases h
  | p :: r, s, i, h => by
    unfold gt at h
    split at h
    · rename_i e
      cases h
      subst e
      exact List.mem_cons_self
    · exact List.mem_cons_of_mem _ (gt_mem h)
theorem gt_of : ∀ {ar : Ar} {s : Str} {i : Int}, (ar.map (·.1)).Nodup → (s, i) ∈ ar → gt ar s = some i
  | [], _, _, _, h => by cases h
  | p :: r, s, i, nd, h => by
    rw [List.map_cons, List.nodup_cons] at nd
    unfold gt
    rcases List.mem_cons.mp h with rfl | h
    · exact if_pos rfl
    · rw [if_neg, gt_of nd.2 h]
      rintro rfl
      exact nd.1 (List.mem_map.mpr ⟨_, h, rfl⟩)
theorem gt_none {ar : Ar} {s : Str} (h : ∀ i, (s, i) ∉ ar) : gt ar s = none := by
  cases e : gt ar s with
  | none => rfl
  | some i => exact absurd (gt_mem e) (h i)
theorem gt_perm {ar br : Ar} (nd : (ar.map (·.1)).Nodup) (p : br.Perm ar) : gt br = gt ar := by
  funext s
  have nd' : (br.map (·.1)).Nodup := (p.map _).nodup_iff.mpr nd
  cases e : gt ar s with
  | some i => exact gt_of nd' (p.mem_iff.mpr (gt_mem e))
  | none =>
    refine gt_none fun i h => ?_
    rw [gt_of nd (p.mem_iff.mp h)] at e
    cases e
theorem goF_nil {g : D → Rho → AH → Out} {st : AH → Bool} {ρ : Rho} {h : AH} : goF g st [] ρ h = if st h = true then .next ρ h else .fail := rfl
theorem goF_cons {g : D → Rho → AH → Out} {st : AH → Bool} {x : D} {xs : List D} {ρ : Rho} {h : AH} : goF g st (x :: xs) ρ h = if st h = true then (match g x ρ h with
    | .next ρ1 h1 => goF g st xs ρ1 h1
    | .cont ρ1 h1 => goF g st xs ρ1 h1
    | .brk ρ1 h1 => .next ρ1 h1
    | o => o) else .fail := rfl
/-- open ends behind some words -/
def opn (g : Str → Option Int) : List Str → Int → Option Int
  | [], l => some l
  | w :: ws, l => if l = 0 then none else opn g ws (l + ((g w).getD 0 - 1))
def lenB (xs : List D) : Bool := decide (1 ≤ xs.length ∧ xs.length ≤ 5000)
def treeB (g : Str → Option Int) : D → Bool
  | .tup xs => lenB xs && (match strL xs with
    | some ts => ts.all (fun s => (g s).isSome) && decide (opn g ts 1 = some 0)
    | none => false)
  | _ => false
def ctxB (g : Str → Option Int) : D → Bool
  | .tup xs => lenB xs && (match strL xs with
    | some ts => ts.all (fun s => decide (s = ("_" : Str)) || (g s).isSome) && (decide ((ts.filter fun s => decide (s = ("_" : Str))).length = 1) && decide (opn g ts 1 = some 0))
    | none => false)
  | _ => false
theorem treeB_tup {g : Str → Option Int} {xs : List D} : treeB g (.tup xs) = (lenB xs && (match strL xs with
    | some ts => ts.all (fun s => (g s).isSome) && decide (opn g ts 1 = some 0)
    | none => false)) := rfl
theorem ctxB_tup {g : Str → Option Int} {xs : List D} : ctxB g (.tup xs) = (lenB xs && (match strL xs with
    | some ts => ts.all (fun s => decide (s = ("_" : Str)) || (g s).isSome) && (decide ((ts.filter fun s => decide (s = ("_" : Str))).length = 1) && decide (opn g ts 1 = some 0))
    | none => false)) := rfl
def knB (g : Str → Option Int) : D → Bool
  | .str s => (g s).isSome
  | _ => false
def isS : D → Bool
  | .str _ => true
  | _ => false
/-- pure: no place, no script, no error -/
def Pu (d : D) : Prop := (∀ j, d ≠ .loc j) ∧ (∀ ns, d ≠ .scr ns) ∧ (∀ c fs, d ≠ .ins c fs)
theorem Pu.ty {d : D} (v : Pu d) (t : Ty) (ht : ∀ c, t ≠ .cls c) (h : AH) (ht2 : ∀ c, t ≠ .exc c := by intro _ z; cases z) : isTy h d t = some (kindB t d) := isTy_pure ht v.1 v.2.1 v.2.2 ht2
theorem Pu.str (s : Str) : Pu (.str s) := ⟨fun _ z => (by cases z), fun _ z => (by cases z), fun _ _ z => (by cases z)⟩
theorem pu_good {n k : Nat} {d : D} (g : Good n k d) : Pu d := g.not_str_loc
theorem kind_str (d : D) : kindB .str d = isS d := by cases d <;> rfl
theorem strL_map : ∀ ts : List Str, strL (ts.map D.str) = some ts
  | [] => rfl
  | t :: ts => by simp [strL, strL_map ts]
theorem strL_some : ∀ {xs : List D} {ts : List Str}, strL xs = some ts → xs = ts.map D.str
  | [], ts, h => by cases h; rfl
  | x :: xs, ts, h => by
    cases x <;> simp only [strL, reduceCtorEq] at h
    cases e : strL xs with
    | none => rw [e] at h; cases h
    | some us => rw [e] at h; cases h; rw [strL_some e]; rfl
theorem strL_none : ∀ {xs : List D}, strL xs = none → xs.all isS = false
  | [], h => by cases h
  | x :: xs, h => by
    cases x <;> simp only [strL, List.all_cons, isS, Bool.false_and, Bool.true_and] at h ⊢
    cases e : strL xs with
    | none => exact strL_none e
    | some us => rw [e] at h; cases h
abbrev lW : List S := [.cond (.cmp .eq (.var 2) (.cst (.int 0)))
  [.ret (.cst (.bl false))]
  [],
  .aug 2 .add (.bin false .sub (.dget (.var 0) (.var 3) (.cst (.int 0))) (.cst (.int 1)))]
abbrev lO : List S := [.cond (.cmp .eq (.var 2) (.cst (.int 0)))
  [.ret (.neg (.cst (.int 1)))]
  [],
  .asg (.var 2) (.bin false .add (.bin false .sub (.var 2) (.cst (.int 1))) (.dget (.var 0) (.var 3) (.cst (.int 0))))]
abbrev bKnown : List S := [.ret (.and (.isi (.var 1) .str) (.din false (.var 1) (.var 0)))]
abbrev bWhole : List S := [.asg (.var 2) (.cst (.int 1)), .each (.var 3) (.var 1) lW, .ret (.cmp .eq (.var 2) (.cst (.int 0)))]
theorem c_eqi {i j : Int} {h : AH} : cmp2 .eq (.int i) (.int j) h = some (decide (i = j)) := rfl
section
variable {P : List FnDecl} {f : Nat} {n : Nat} {h : AH} {ar : Ar} {d : D}
theorem is_known (hP : P[f]? = some ⟨2, 2, bKnown⟩) (v : Pu d) : run P (n + 1) f [.dct (kvD ar), d] h = .ok (.bl (knB (gt ar) d)) h := by
  rw [run_def hP n rfl]
  have t1 := v.ty .str (by intro _ z; cases z) h
  cases d <;> simp [bKnown, t1, kindB, knB, e_din, keyK, dkvs_dct, dfind_kv]
theorem e_get {F : Fn} {ρ : Rho} {s : Str} (h0 : ρ[0]? = some (some (.dct (kvD ar)))) (h3 : ρ[3]? = some (some (.str s))) : evE F (.dget (.var 0) (.var 3) (.cst (.int 0))) ρ h = .ok (.int ((gt ar s).getD 0)) h := by
  rw [e_dget]
  simp only [e_var, h0, h3, bind_ok, dkvs_dct, Option.isSome_some, if_true, e_cst, keyK, Option.map_some, of_some, dfind_kv]
  cases gt ar s <;> rfl
theorem x_aug {F : Fn} {ρ : Rho} {i : Nat} {e : E} {x y : Int} {h1 : AH} (h0 : ρ[i]? = some (some (.int x))) (he : evE F e ρ h = .ok (.int y) h1) : evS F (.aug i .add e) ρ h = .next (ρ.set i (some (.int (x + y)))) h1 := by
  have : evS F (.aug i .add e) ρ h = (match ρ[i]? with
    | some (some (.int x)) => (evE F e ρ h).out ρ fun y h1 => match Op2.add, y with
      | .add, .int y => .next (ρ.set i (some (.int (x + y)))) h1
      | _, _ => .fail
    | _ => .fail) := rfl
  rw [this, h0]
  dsimp only
  rw [he]
  rfl
theorem whole_go {F : Fn} {d1 : D} {st : AH → Bool} (hs : st h = true) : ∀ (ts : List Str) (l : Int) (o : Option D), ∃ o', goF (fun x ρ1 h2 => (asT F (.var 3) x ρ1 h2).bind fun ρ2 h3 => evSs F lW ρ2 h3) st (ts.map D.str) [some (.dct (kvD ar)), some d1, some (.int l), o] h =
    (match opn (gt ar) ts l with
    | some r => .next [some (.dct (kvD ar)), some d1, some (.int r), o'] h
    | none => .ret (.bl false) h)
  | [], l, o => ⟨o, by rw [List.map_nil, goF_nil, if_pos hs]; rfl⟩
  | t :: ts, l, o => by
    by_cases c : l = 0
    · refine ⟨none, ?_⟩
      subst c
      rw [List.map_cons, goF_cons]
      unfold opn
      rw [if_pos hs, if_pos rfl]
      rfl
    · obtain ⟨o', e⟩ := whole_go hs ts (l + ((gt ar t).getD 0 - 1)) (some (.str t))
      refine ⟨o', ?_⟩
      rw [List.map_cons, goF_cons]
      unfold opn
      rw [if_pos hs, if_neg c]
      have eg := e_get (F := F) (h := h) (ar := ar) (ρ := [some (.dct (kvD ar)), some d1, some (.int l), some (.str t)]) (s := t) rfl rfl
      have a1 : evS F (.aug 2 .add (.bin false .sub (.dget (.var 0) (.var 3) (.cst (.int 0))) (.cst (.int 1)))) [some (.dct (kvD ar)), some d1, some (.int l), some (.str t)] h = .next [some (.dct (kvD ar)), some d1, some (.int (l + ((gt ar t).getD 0 - 1))), some (.str t)] h :=
        x_aug (y := (gt ar t).getD 0 - 1) rfl (by rw [e_bin, eg, bind_ok, e_cst, bind_ok, b_sub])
      have a0 : evS F (.cond (.cmp .eq (.var 2) (.cst (.int 0))) [.ret (.cst (.bl false))] []) [some (.dct (kvD ar)), some d1, some (.int l), some (.str t)] h = .next [some (.dct (kvD ar)), some d1, some (.int l), some (.str t)] h := by
        simp [c_eqi, c]
      rw [a_var, obind_next]
      show (match evSs F lW [some (.dct (kvD ar)), some d1, some (.int l), some (.str t)] h with
        | .next ρ1 h1 => goF _ st (ts.map D.str) ρ1 h1
        | .cont ρ1 h1 => goF _ st (ts.map D.str) ρ1 h1
        | .brk ρ1 h1 => .next ρ1 h1
        | o => o) = _
      rw [x_cons, a0, obind_next, x_cons, a1, obind_next, x_nil]
      exact e
theorem open_go {F : Fn} {d1 : D} {st : AH → Bool} (hs : st h = true) : ∀ (ts : List Str) (l : Int) (o : Option D), ∃ o', goF (fun x ρ1 h2 => (asT F (.var 3) x ρ1 h2).bind fun ρ2 h3 => evSs F lO ρ2 h3) st (ts.map D.str) [some (.dct (kvD ar)), some d1, some (.int l), o] h =
    (match opn (gt ar) ts l with
    | some r => .next [some (.dct (kvD ar)), some d1, some (.int r), o'] h
    | none => .ret (.int (-1)) h)
  | [], l, o => ⟨o, by rw [List.map_nil, goF_nil, if_pos hs]; rfl⟩
  | t :: ts, l, o => by
    by_cases c : l = 0
    · refine ⟨none, ?_⟩
      subst c
      rw [List.map_cons, goF_cons]
      unfold opn
      rw [if_pos hs, if_pos rfl]
      rfl
    · obtain ⟨o', e⟩ := open_go hs ts (l + ((gt ar t).getD 0 - 1)) (some (.str t))
      refine ⟨o', ?_⟩
      rw [List.map_cons, goF_cons]
      unfold opn
      rw [if_pos hs, if_neg c]
      have eg := e_get (F := F) (h := h) (ar := ar) (ρ := [some (.dct (kvD ar)), some d1, some (.int l), some (.str t)]) (s := t) rfl rfl
      have a1 : evS F (.asg (.var 2) (.bin false .add (.bin false .sub (.var 2) (.cst (.int 1))) (.dget (.var 0) (.var 3) (.cst (.int 0))))) [some (.dct (kvD ar)), some d1, some (.int l), some (.str t)] h = .next [some (.dct (kvD ar)), some d1, some (.int (l + ((gt ar t).getD 0 - 1))), some (.str t)] h := by
        have ev : evE F (.bin false .add (.bin false .sub (.var 2) (.cst (.int 1))) (.dget (.var 0) (.var 3) (.cst (.int 0)))) [some (.dct (kvD ar)), some d1, some (.int l), some (.str t)] h = .ok (.int (l - 1 + (gt ar t).getD 0)) h := by
          rw [e_bin, e_bin]
          simp only [e_var, List.getElem?_cons_zero, List.getElem?_cons_succ, bind_ok, e_cst, b_sub, eg, b_add]
        rw [x_asg, ev, out_ok, a_var]
        have : l - 1 + (gt ar t).getD 0 = l + ((gt ar t).getD 0 - 1) := by omega
        rw [this]
        rfl
      have a0 : evS F (.cond (.cmp .eq (.var 2) (.cst (.int 0))) [.ret (.neg (.cst (.int 1)))] []) [some (.dct (kvD ar)), some d1, some (.int l), some (.str t)] h = .next [some (.dct (kvD ar)), some d1, some (.int l), some (.str t)] h := by
        simp [c_eqi, c]
      rw [a_var, obind_next]
      show (match evSs F lO [some (.dct (kvD ar)), some d1, some (.int l), some (.str t)] h with
        | .next ρ1 h1 => goF _ st (ts.map D.str) ρ1 h1
        | .cont ρ1 h1 => goF _ st (ts.map D.str) ρ1 h1
        | .brk ρ1 h1 => .next ρ1 h1
        | o => o) = _
      rw [x_cons, a0, obind_next, x_cons, a1, obind_next, x_nil]
      exact e
theorem is_whole (hP : P[f]? = some ⟨2, 4, bWhole⟩) (ts : List Str) : run P (n + 1) f [.dct (kvD ar), .tup (ts.map D.str)] h = .ok (.bl (decide (opn (gt ar) ts 1 = some 0))) h := by
  rw [run_def hP n rfl]
  obtain ⟨o', e⟩ := whole_go (F := run P n) (h := h) (ar := ar) (d1 := .tup (ts.map D.str)) (st := still (ts.map D.str) (.tup (ts.map D.str))) rfl ts 1 none
  have r2 := x_each (F := run P n) (t := .var 3) (e := .var 1) (b := lW) (ρ := [some (.dct (kvD ar)), some (.tup (ts.map D.str)), some (.int 1), none]) (h := h) (h1 := h) (s := .tup (ts.map D.str)) (xs := ts.map D.str) rfl rfl
  rw [e] at r2
  have e0 : evSs (run P n) bWhole [some (.dct (kvD ar)), some (.tup (ts.map D.str)), none, none] h = .ret (.bl (decide (opn (gt ar) ts 1 = some 0))) h := by
    show evSs (run P n) [.asg (.var 2) (.cst (.int 1)), .each (.var 3) (.var 1) lW, .ret (.cmp .eq (.var 2) (.cst (.int 0)))] _ h = _
    rw [x_cons, x_asg, e_cst, out_ok, a_var, obind_next]
    show evSs (run P n) [.each (.var 3) (.var 1) lW, .ret (.cmp .eq (.var 2) (.cst (.int 0)))] [some (.dct (kvD ar)), some (.tup (ts.map D.str)), some (.int 1), none] h = _
    rw [x_cons, r2]
    cases opn (gt ar) ts 1 with
    | none => rfl
    | some r => simp [c_eqi]
  exact congrArg endR e0
end
end PITree
set_option maxRecDepth 100000
set_option maxHeartbeats 1000000
namespace PITree
open PI
open PySem (PyData Str)
/-! ### rows of words compared -/
theorem toPs_strs : ∀ ts : List Str, toPs (ts.map D.str) = some (ts.map PyData.str)
  | [] => rfl
  | t :: ts => by simp [toPs, toP, toPs_strs ts]
theorem eqv_strs : ∀ ts us : List Str, PyData.eqvAll (ts.map PyData.str) (us.map PyData.str) = decide (ts = us)
  | [], [] => rfl
  | [], _ :: _ => rfl
  | _ :: _, [] => rfl
  | t :: ts, u :: us => by
    show (PyData.eqv (.str t) (.str u) && PyData.eqvAll (ts.map PyData.str) (us.map PyData.str)) = _
    rw [eqv_strs ts us]
    have : PyData.eqv (.str t) (.str u) = decide (t = u) := by
      show (t == u) = _
      rw [Bool.beq_eq_decide_eq]
    rw [this]
    by_cases h : t = u <;> by_cases h2 : ts = us <;> simp [h, h2]
def sOk (s : Str) : Prop := ∀ c ∈ s.cps.toList, c < 0x110000
theorem lay_strs : ∀ {ts : List Str}, (∀ t ∈ ts, sOk t) → PyData.canLayAll0 (ts.map PyData.str) = true
  | [], _ => rfl
  | t :: ts, h => by
    have h1 : PyData.canLay0 (.str t) = true := by
      show PyData.strOk t = true
      unfold PyData.strOk
      rw [Array.all_eq_true_iff_forall_mem]
      intro c hc
      exact decide_eq_true (h t (List.mem_cons_self) c (Array.mem_toList_iff.mpr hc))
    simp only [List.map_cons, PyData.canLayAll0, h1, lay_strs fun u hu => h u (List.mem_cons_of_mem _ hu), Bool.and_self]
theorem dep_strs : ∀ ts : List Str, PyData.depthAll (ts.map PyData.str) = 0
  | [] => rfl
  | t :: ts => by
    show max 0 (PyData.depthAll (ts.map PyData.str)) = 0
    rw [dep_strs ts]
    rfl
theorem shaped_strs {ts : List Str} (h : ∀ t ∈ ts, sOk t) : PySem.SeqAt.shaped (.list (ts.map PyData.str)) = true := by
  have h1 : PyData.canLay0 (.list (ts.map PyData.str)) = true := by simpa only [PyData.canLay0] using lay_strs h
  have h2 : PyData.depth (.list (ts.map PyData.str)) ≤ 64 := by simp only [PyData.depth, dep_strs]; omega
  unfold PySem.SeqAt.shaped
  rw [h1, decide_eq_true h2]
  rfl
theorem noD_strs {ts : List Str} (h : ∀ t ∈ ts, sOk t) : noDict (.list (ts.map PyData.str)) = true := noDict_of _ (by simpa only [PyData.canLay0] using lay_strs h)
theorem shapedT_strs {ts : List Str} (h : ∀ t ∈ ts, sOk t) : PySem.SeqAt.shaped (.tuple (ts.map PyData.str)) = true := by
  have h1 : PyData.canLay0 (.tuple (ts.map PyData.str)) = true := by simpa only [PyData.canLay0] using lay_strs h
  have h2 : PyData.depth (.tuple (ts.map PyData.str)) ≤ 64 := by simp only [PyData.depth, dep_strs]; omega
  unfold PySem.SeqAt.shaped
  rw [h1, decide_eq_true h2]
  rfl
theorem noDT_strs {ts : List Str} (h : ∀ t ∈ ts, sOk t) : noDict (.tuple (ts.map PyData.str)) = true := noDict_of _ (by simpa only [PyData.canLay0] using lay_strs h)
/-- two rows of texts -/
theorem eq_strs {ts us : List Str} {h : AH} (a : ∀ t ∈ ts, sOk t) (b : ∀ t ∈ us, sOk t) : cmp2 .eq (.lst (ts.map D.str)) (.lst (us.map D.str)) h = some (decide (ts = us)) := by
  have : eqO h (.lst (ts.map D.str)) (.lst (us.map D.str)) = some (decide (ts = us)) := by
    show eqG h (.lst (ts.map D.str)) (.lst (us.map D.str)) = _
    unfold eqG
    rw [look_lst, look_lst]
    have e1 : ∀ ts : List Str, toP (.lst (ts.map D.str)) = some (.list (ts.map PyData.str)) := fun ts => by simp [toP, toPs_strs]
    rw [e1, e1]
    dsimp only
    rw [noD_strs a, noD_strs b, shaped_strs a, shaped_strs b]
    show some (PyData.eqvAll _ _) = _
    rw [eqv_strs]
  show (match eqO h (.lst (ts.map D.str)) (.lst (us.map D.str)) with
    | some b => some b
    | none => eqDct h (.lst (ts.map D.str)) (.lst (us.map D.str))) = _
  rw [this]
theorem ne_strs {ts us : List Str} {h : AH} (a : ∀ t ∈ ts, sOk t) (b : ∀ t ∈ us, sOk t) : cmp2 .ne (.lst (ts.map D.str)) (.lst (us.map D.str)) h = some (!decide (ts = us)) := by
  have : neO h (.lst (ts.map D.str)) (.lst (us.map D.str)) = some (!decide (ts = us)) := by
    show neG h (.lst (ts.map D.str)) (.lst (us.map D.str)) = _
    unfold neG
    rw [look_lst, look_lst]
    have e1 : ∀ ts : List Str, toP (.lst (ts.map D.str)) = some (.list (ts.map PyData.str)) := fun ts => by simp [toP, toPs_strs]
    rw [e1, e1]
    dsimp only
    rw [noD_strs a, noD_strs b, shaped_strs a, shaped_strs b]
    show some (!PyData.eqvAll _ _) = _
    rw [eqv_strs]
  show (match neO h (.lst (ts.map D.str)) (.lst (us.map D.str)) with
    | some b => some b
    | none => (eqDct h (.lst (ts.map D.str)) (.lst (us.map D.str))).map not) = _
  rw [this]
theorem neT_strs {ts us : List Str} {h : AH} (a : ∀ t ∈ ts, sOk t) (b : ∀ t ∈ us, sOk t) : cmp2 .ne (.tup (ts.map D.str)) (.tup (us.map D.str)) h = some (!decide (ts = us)) := by
  have : neO h (.tup (ts.map D.str)) (.tup (us.map D.str)) = some (!decide (ts = us)) := by
    show neG h (.tup (ts.map D.str)) (.tup (us.map D.str)) = _
    unfold neG
    rw [look_tup, look_tup]
    have e1 : ∀ ts : List Str, toP (.tup (ts.map D.str)) = some (.tuple (ts.map PyData.str)) := fun ts => by simp [toP, toPs_strs]
    rw [e1, e1]
    dsimp only
    rw [noDT_strs a, noDT_strs b, shapedT_strs a, shapedT_strs b]
    show some (!PyData.eqvAll _ _) = _
    rw [eqv_strs]
  show (match neO h (.tup (ts.map D.str)) (.tup (us.map D.str)) with
    | some b => some b
    | none => (eqDct h (.tup (ts.map D.str)) (.tup (us.map D.str))).map not) = _
  rw [this]
theorem ne_nil {n k : Nat} {xs : List D} {h : AH} (g : ∀ x ∈ xs, Good n k x) (hn : n < 64) : cmp2 .ne (.lst xs) (.lst []) h = some (!decide (xs = [])) := by
  have : neO h (.lst xs) (.lst []) = some (!decide (xs = [])) := by
    obtain ⟨ps, a, b, c, d, e, f, l⟩ := toPs_good g
    show neG h (.lst xs) (.lst []) = _
    unfold neG
    rw [look_lst, look_lst]
    have e1 : toP (.lst xs) = some (.list ps) := by simp [toP, a]
    have e2 : toP (.lst []) = some (.list []) := rfl
    have b' : PyData.canLay0 (.list ps) = true := by simpa only [PyData.canLay0] using b
    have n1 : noDict (.list ps) = true := noDict_of _ b'
    have s1 : PySem.SeqAt.shaped (.list ps) = true := by
      have h2 : PyData.depth (.list ps) ≤ 64 := by simp only [PyData.depth]; omega
      unfold PySem.SeqAt.shaped
      rw [b', decide_eq_true h2]
      rfl
    rw [e1, e2]
    dsimp only
    rw [n1, s1, show noDict (.list []) = true from rfl, show PySem.SeqAt.shaped (.list []) = true by decide]
    cases xs with
    | nil =>
      have : ps = [] := List.eq_nil_of_length_eq_zero l
      subst this
      rfl
    | cons x xs =>
      cases ps with
      | nil => cases l
      | cons p ps => rfl
  show (match neO h (.lst xs) (.lst []) with
    | some b => some b
    | none => (eqDct h (.lst xs) (.lst [])).map not) = _
  rw [this]
theorem eq_nil' {n k : Nat} {xs : List D} {h : AH} (g : ∀ x ∈ xs, Good n k x) (hn : n < 64) : cmp2 .eq (.lst xs) (.lst []) h = some (decide (xs = [])) := by
  show (match eqO h (.lst xs) (.lst []) with
    | some b => some b
    | none => eqDct h (.lst xs) (.lst [])) = _
  rw [eq_nil g hn]
/-! ### is_right_tree, is_right_context -/
abbrev lenC : E := .or (.not (.isi (.var 1) .tuple)) (.not (.cmp2 .le .le (.cst (.int 1)) (.prim false .len [.var 1]) (.cst (.int 5000))))
abbrev bRightTree (kn wh : Nat) : List S := [.cond lenC [.ret (.cst (.bl false))] [],
  .ret (.and (.prim false .all [.comp false 2 (.var 1) none (.call kn [.var 0, .var 2])]) (.call wh [.var 0, .var 1]))]
abbrev bRightCtx (wh : Nat) : List S := [.cond lenC [.ret (.cst (.bl false))] [],
  .cond (.not (.prim false .all [.comp false 2 (.var 1) none (.and (.isi (.var 2) .str) (.or (.cmp .eq (.var 2) (.cst (.str "_"))) (.din false (.var 2) (.var 0))))]))
  [.ret (.cst (.bl false))]
  [],
  .ret (.and (.cmp .eq (.prim false .len [.comp false 2 (.var 1) (some (.cmp .eq (.var 2) (.cst (.str "_")))) (.var 2)]) (.cst (.int 1))) (.call wh [.var 0, .var 1]))]
def lenD : D → Bool
  | .tup xs => lenB xs
  | _ => false
section
variable {P : List FnDecl} {F : Fn} {f kn wh : Nat} {n : Nat} {h : AH} {ar : Ar} {d : D}
theorem lenC_ok (v : Pu d) {o0 o2 : Option D} : evE F lenC [o0, some d, o2] h = .ok (.bl (!lenD d)) h := by
  have t1 := v.ty .tuple (by intro _ z; cases z) h
  cases d with
  | tup xs =>
    have hl := len_seq (m := false) (h := h) (d := .tup xs) (xs := xs) (by intro s z; cases z) rfl
    simp only [e_or, e_not, e_isi, e_var, List.getElem?_cons_succ, List.getElem?_cons_zero, bind_ok, t1, kindB, blR_some, ifD_t, ifD_f, e_cmp2, e_cst, e_prim, e_cons, e_nil, hl, c_le, lenD, lenB]
    by_cases h1 : (1 : Int) ≤ (xs.length : Int)
    · by_cases h2 : (xs.length : Int) ≤ 5000
      · have : decide (1 ≤ xs.length ∧ xs.length ≤ 5000) = true := decide_eq_true (by omega)
        rw [this]
        simp [h1, h2]
      · have : decide (1 ≤ xs.length ∧ xs.length ≤ 5000) = false := decide_eq_false (by omega)
        rw [this]
        simp [h1, h2]
    · have : decide (1 ≤ xs.length ∧ xs.length ≤ 5000) = false := decide_eq_false (by omega)
      rw [this]
      simp [h1]
  | _ => simp only [e_or, e_not, e_isi, e_var, List.getElem?_cons_succ, List.getElem?_cons_zero, bind_ok, t1, kindB, blR_some, ifD_t, ifD_f, lenD, Bool.not_false]
theorem map_id' (xs : List D) : xs.map (fun x => x) = xs := List.map_id' xs
theorem allS {g : Str → Option Int} {xs : List D} (e : strL xs = none) : (xs.all fun x => knB g x) = false := by
  have := strL_none e
  rw [List.all_eq_false] at this ⊢
  obtain ⟨x, hx, hn⟩ := this
  refine ⟨x, hx, ?_⟩
  cases x <;> first | (exact Bool.false_ne_true) | (exact absurd rfl hn)
theorem right_tree (hK : P[kn]? = some ⟨2, 2, bKnown⟩) (hW : P[wh]? = some ⟨2, 4, bWhole⟩) (hP : P[f]? = some ⟨2, 3, bRightTree kn wh⟩) (v : Pu d) (vs : ∀ xs, d = .tup xs → ∀ x ∈ xs, Pu x) : run P (n + 2) f [.dct (kvD ar), d] h = .ok (.bl (treeB (gt ar) d)) h := by
  rw [run_def hP (n + 1) rfl]
  have c := lenC_ok (F := run P (n + 1)) (h := h) v (o0 := some (.dct (kvD ar))) (o2 := none)
  have e0 : evSs (run P (n + 1)) (bRightTree kn wh) [some (.dct (kvD ar)), some d, none] h = .ret (.bl (treeB (gt ar) d)) h := by
    rw [x_cons, x_cond, c, out_ok]
    cases hl : lenD d with
    | false =>
      have : treeB (gt ar) d = false := by
        cases d <;> first | rfl | (have hl : lenB _ = false := hl; rw [treeB_tup, hl]; rfl)
      rw [this]
      rfl
    | true =>
      cases d with
      | tup xs =>
        have hl : lenB xs = true := hl
        have hz : xs.length ≤ szl := by
          unfold lenB at hl
          have := of_decide_eq_true hl
          show _ ≤ 16777216
          omega
        have hv := vs xs rfl
        have ec : evE (run P (n + 1)) (.comp false 2 (.var 1) none (.call kn [.var 0, .var 2])) [some (.dct (kvD ar)), some (.tup xs), none] h = .ok (.lst (xs.map fun x => .bl (knB (gt ar) x))) h :=
          e_compM (fun x => .bl (knB (gt ar) x)) (s := .tup xs) rfl rfl (fun x hx => by
            have := is_known (n := n) (h := h) (ar := ar) hK (hv x hx)
            simp only [e_call, e_cons, e_nil, e_var, List.set_cons_succ, List.set_cons_zero, List.getElem?_cons_zero, List.getElem?_cons_succ, bind_ok, this]) hz
        rw [Bool.not_true, ifO_f, x_nil, obind_next, x_cons, x_ret, e_and, e_prim, e_cons, ec, bind_ok, e_nil, bind_ok, bind_ok, p_all, bind_ok]
        rw [treeB_tup, hl, Bool.true_and]
        cases es : strL xs with
        | none =>
          rw [allS es]
          rfl
        | some ts =>
          have ex := strL_some es
          subst ex
          have ea : ((ts.map D.str).all fun x => knB (gt ar) x) = ts.all fun s => (gt ar s).isSome := by rw [List.all_map]; rfl
          rw [ea]
          dsimp only
          cases ha : (ts.all fun s => (gt ar s).isSome) with
          | false => rfl
          | true =>
            have w := is_whole (n := n) (h := h) (ar := ar) hW ts
            rw [ifD_t, e_call, e_cons, e_var]
            simp only [List.getElem?_cons_zero, List.getElem?_cons_succ, bind_ok, e_cons, e_nil, e_var, w, out_ok, obind_ret, Bool.true_and]
      | _ => cases hl
  exact congrArg endR e0
def cxB (g : Str → Option Int) : D → Bool
  | .str s => decide (s = ("_" : Str)) || (g s).isSome
  | _ => false
theorem allC {g : Str → Option Int} {xs : List D} (e : strL xs = none) : (xs.all fun x => cxB g x) = false := by
  have := strL_none e
  rw [List.all_eq_false] at this ⊢
  obtain ⟨x, hx, hn⟩ := this
  refine ⟨x, hx, ?_⟩
  cases x <;> first | (exact Bool.false_ne_true) | (exact absurd rfl hn)
theorem c_eqs {s t : Str} {h : AH} : cmp2 .eq (.str s) (.str t) h = some (decide (s = t)) := rfl
def holeB : D → Bool
  | .str s => decide (s = ("_" : Str))
  | _ => false
theorem right_ctx (hW : P[wh]? = some ⟨2, 4, bWhole⟩) (hP : P[f]? = some ⟨2, 3, bRightCtx wh⟩) (v : Pu d) (vs : ∀ xs, d = .tup xs → ∀ x ∈ xs, Pu x) : run P (n + 2) f [.dct (kvD ar), d] h = .ok (.bl (ctxB (gt ar) d)) h := by
  rw [run_def hP (n + 1) rfl]
  have c := lenC_ok (F := run P (n + 1)) (h := h) v (o0 := some (.dct (kvD ar))) (o2 := none)
  have e0 : evSs (run P (n + 1)) (bRightCtx wh) [some (.dct (kvD ar)), some d, none] h = .ret (.bl (ctxB (gt ar) d)) h := by
    rw [x_cons, x_cond, c, out_ok]
    cases hl : lenD d with
    | false =>
      have : ctxB (gt ar) d = false := by
        cases d <;> first | rfl | (have hl : lenB _ = false := hl; rw [ctxB_tup, hl]; rfl)
      rw [this]
      rfl
    | true =>
      cases d with
      | tup xs =>
        have hl : lenB xs = true := hl
        have hz : xs.length ≤ szl := by
          unfold lenB at hl
          have := of_decide_eq_true hl
          show _ ≤ 16777216
          omega
        have hv := vs xs rfl
        have ec : evE (run P (n + 1)) (.comp false 2 (.var 1) none (.and (.isi (.var 2) .str) (.or (.cmp .eq (.var 2) (.cst (.str "_"))) (.din false (.var 2) (.var 0))))) [some (.dct (kvD ar)), some (.tup xs), none] h = .ok (.lst (xs.map fun x => .bl (cxB (gt ar) x))) h :=
          e_compM (fun x => .bl (cxB (gt ar) x)) (s := .tup xs) rfl rfl (fun x hx => by
            have t1 := (hv x hx).ty .str (by intro _ z; cases z) h
            cases x with
            | str s =>
              simp only [e_and, e_or, e_isi, e_cmp, e_cst, e_din, e_var, List.set_cons_succ, List.set_cons_zero, List.getElem?_cons_zero, List.getElem?_cons_succ, bind_ok, t1, kindB, blR_some, ifD_t, c_eqs, ifD_b, keyK, if_true, dkvs_dct, Option.map_some, of_some, dfind_kv, cxB]
              by_cases e : s = ("_" : Str)
              · simp [e]
              · cases q : gt ar s <;> simp [e]
            | _ => simp only [e_and, e_isi, e_var, List.set_cons_succ, List.set_cons_zero, List.getElem?_cons_zero, List.getElem?_cons_succ, bind_ok, t1, kindB, blR_some, ifD_f, cxB]) hz
        rw [Bool.not_true, ifO_f, x_nil, obind_next, x_cons, x_cond, e_not, e_prim, e_cons, ec, bind_ok, e_nil, bind_ok, bind_ok, p_all, bind_ok]
        rw [ctxB_tup, hl, Bool.true_and]
        cases es : strL xs with
        | none =>
          rw [allC es]
          rfl
        | some ts =>
          have ex := strL_some es
          subst ex
          have ea : ((ts.map D.str).all fun x => cxB (gt ar) x) = ts.all fun s => decide (s = ("_" : Str)) || (gt ar s).isSome := by rw [List.all_map]; rfl
          rw [ea]
          dsimp only
          cases ha : (ts.all fun s => decide (s = ("_" : Str)) || (gt ar s).isSome) with
          | false => rfl
          | true =>
            have w := is_whole (n := n) (h := h) (ar := ar) hW ts
            have ef : evE (run P (n + 1)) (.comp false 2 (.var 1) (some (.cmp .eq (.var 2) (.cst (.str "_")))) (.var 2)) [some (.dct (kvD ar)), some (.tup (ts.map D.str)), none] h = .ok (.lst (((ts.map D.str).filter holeB).map fun x => x)) h :=
              e_compF holeB (fun x => x) (s := .tup (ts.map D.str)) rfl rfl (fun x hx => by
                obtain ⟨s, _, rfl⟩ := List.mem_map.mp hx
                simp only [e_cmp, e_cst, e_var, List.set_cons_succ, List.set_cons_zero, List.getElem?_cons_zero, List.getElem?_cons_succ, bind_ok, c_eqs, blR_some, holeB]) (fun x hx => by
                simp only [e_var, List.set_cons_succ, List.set_cons_zero, List.getElem?_cons_zero, List.getElem?_cons_succ]) hz
            have el : ((ts.map D.str).filter holeB).map (fun x => x) = (ts.filter fun s => decide (s = ("_" : Str))).map D.str := by
              rw [map_id', List.filter_map]
              rfl
            rw [el] at ef
            have hp := len_seq (m := false) (h := h) (d := .lst ((ts.filter fun s => decide (s = ("_" : Str))).map D.str)) (xs := (ts.filter fun s => decide (s = ("_" : Str))).map D.str) (by intro s z; cases z) rfl
            rw [List.length_map] at hp
            rw [ifD_t, out_ok, ifO_f, x_nil, obind_next, x_cons, x_ret, e_and, e_cmp, e_prim, e_cons, ef, bind_ok, e_nil, bind_ok, bind_ok, hp, bind_ok, e_cst, bind_ok, c_eqi, blR_some, bind_ok]
            rw [ifD_b]
            by_cases e1 : (ts.filter fun s => decide (s = ("_" : Str))).length = 1
            · have : decide (((ts.filter fun s => decide (s = ("_" : Str))).length : Int) = 1) = true := decide_eq_true (by omega)
              rw [this, if_pos rfl, e_call, e_cons, e_var]
              simp only [List.getElem?_cons_zero, List.getElem?_cons_succ, bind_ok, e_cons, e_nil, e_var, w, out_ok, obind_ret, Bool.true_and, e1, decide_true]
            · have : decide (((ts.filter fun s => decide (s = ("_" : Str))).length : Int) = 1) = false := decide_eq_false (by omega)
              rw [this, if_neg Bool.false_ne_true, out_ok, obind_ret]
              have : decide ((ts.filter fun s => decide (s = ("_" : Str))).length = 1) = false := decide_eq_false e1
              rw [this]
              rfl
      | _ => cases hl
  exact congrArg endR e0
end
end PITree
set_option maxRecDepth 100000
set_option maxHeartbeats 1000000
/-! What holds behind a run, said step by step. -/
namespace PI
def wR {α : Type} (r : Res α) (Q : α → AH → Prop) (X : Nat → D → AH → Prop) : Prop := match r with
  | .ok a h => Q a h
  | .exc c p h => X c p h
  | .fail => False
def wO (o : Out) (N : Rho → AH → Prop) (R : D → AH → Prop) (B C : Rho → AH → Prop) (X : Nat → D → Rho → AH → Prop) : Prop := match o with
  | .next ρ h => N ρ h
  | .ret d h => R d h
  | .brk ρ h => B ρ h
  | .cont ρ h => C ρ h
  | .exc c p ρ h => X c p ρ h
  | .fail => False
def wP {α : Type} (o : Option α) (k : α → Prop) : Prop := match o with
  | some a => k a
  | none => False
/-- a truth value -/
def wB (x : D) (k : Bool → Prop) : Prop := match x with
  | .bl b => k b
  | _ => False
def wN (x : D) (k : Int → Prop) : Prop := match x with
  | .int b => k b
  | _ => False
def wI (b : Bool) (T E : Prop) : Prop := (b = true → T) ∧ (b = false → E)
def noX : Nat → D → AH → Prop := fun _ _ _ => False
section
variable {α β : Type} {Q : α → AH → Prop} {X : Nat → D → AH → Prop} {a : α} {h : AH}
theorem wR_ok (k : Q a h) : wR (.ok a h) Q X := k
theorem wR_eq {r : Res α} (e : r = .ok a h) (k : Q a h) : wR r Q X := by subst e; exact k
theorem wR_mono {r : Res α} {Q' : α → AH → Prop} {X' : Nat → D → AH → Prop} (w : wR r Q' X') (k : ∀ a h, Q' a h → Q a h) (kx : ∀ c p h, X' c p h → X c p h) : wR r Q X := by
  cases r with
  | ok a h => exact k a h w
  | exc c p h => exact kx c p h w
  | fail => exact w
/-- by what is known of it -/
theorem wR_by {r : Res α} {Q' : α → AH → Prop} (w : wR r Q' noX) (k : ∀ a h, Q' a h → Q a h) : wR r Q X := wR_mono w k fun _ _ _ z => z.elim
theorem wR_ex {r : Res α} (w : wR r Q noX) : ∃ a h, r = .ok a h ∧ Q a h := by
  cases r with
  | ok a h => exact ⟨a, h, rfl, w⟩
  | exc c p h => exact w.elim
  | fail => exact w.elim
theorem wR_to {r : Res α} (w : wR r (fun b h' => b = a ∧ h' = h) noX) : r = .ok a h := by
  obtain ⟨b, h', e, rfl, rfl⟩ := wR_ex w
  exact e
theorem wR_bind {r : Res β} {f : β → AH → Res α} (k : wR r (fun a h => wR (f a h) Q X) X) : wR (r.bind f) Q X := by
  cases r <;> exact k
theorem wR_nox {r : Res α} (k : wR r Q noX) : wR r.nox Q X := by
  cases r with
  | ok a h => exact k
  | exc c p h => exact k.elim
  | fail => exact k
theorem wR_of {o : Option α} (k : wP o fun a => Q a h) : wR (Res.of o h) Q X := by
  cases o <;> exact k
theorem wP_some {o : Option α} {k : α → Prop} (e : o = some a) (q : k a) : wP o k := by subst e; exact q
theorem wB_b {b : Bool} {k : Bool → Prop} (q : k b) : wB (.bl b) k := q
theorem wN_i {i : Int} {k : Int → Prop} (q : k i) : wN (.int i) k := q
theorem wI_t {T E : Prop} (q : T) : wI true T E := ⟨fun _ => q, fun z => by cases z⟩
theorem wI_f {T E : Prop} (q : E) : wI false T E := ⟨(fun z => by cases z), fun _ => q⟩
theorem wI_d {p : Prop} [Decidable p] {T E : Prop} (t : p → T) (e : ¬p → E) : wI (decide p) T E := ⟨fun z => t (of_decide_eq_true z), fun z => e (of_decide_eq_false z)⟩
theorem wI_dt {p : Prop} [Decidable p] {T E : Prop} (c : p) (t : T) : wI (decide p) T E := wI_d (fun _ => t) fun n => absurd c n
theorem wI_df {p : Prop} [Decidable p] {T E : Prop} (c : ¬p) (t : E) : wI (decide p) T E := wI_d (fun n => absurd n c) fun _ => t
theorem wI_n {b : Bool} {T E : Prop} (k : wI b E T) : wI (!b) T E := by
  cases b with
  | false => exact wI_t (k.2 rfl)
  | true => exact wI_f (k.1 rfl)
theorem wI_same {b : Bool} {T : Prop} (k : T) : wI b T T := ⟨fun _ => k, fun _ => k⟩
end
section
variable {N : Rho → AH → Prop} {R : D → AH → Prop} {B C : Rho → AH → Prop} {X : Nat → D → Rho → AH → Prop} {ρ : Rho} {h : AH} {d : D}
theorem wO_bind {o : Out} {f : Rho → AH → Out} (k : wO o (fun ρ h => wO (f ρ h) N R B C X) R B C X) : wO (o.bind f) N R B C X := by
  cases o <;> exact k
theorem wR_out {α : Type} {r : Res α} {f : α → AH → Out} (k : wR r (fun a h => wO (f a h) N R B C X) (fun c p h => X c p ρ h)) : wO (r.out ρ f) N R B C X := by
  cases r <;> exact k
theorem wO_mono {o : Out} {N' : Rho → AH → Prop} {R' : D → AH → Prop} {B' C' : Rho → AH → Prop} {X' : Nat → D → Rho → AH → Prop} (w : wO o N' R' B' C' X') (n : ∀ ρ h, N' ρ h → N ρ h) (r : ∀ d h, R' d h → R d h) (b : ∀ ρ h, B' ρ h → B ρ h) (c : ∀ ρ h, C' ρ h → C ρ h) (x : ∀ c p ρ h, X' c p ρ h → X c p ρ h) : wO o N R B C X := by
  cases o with
  | next ρ h => exact n _ _ w
  | ret d h => exact r _ _ w
  | brk ρ h => exact b _ _ w
  | cont ρ h => exact c _ _ w
  | exc c p ρ h => exact x _ _ _ _ w
  | fail => exact w
end
/-! ### expressions -/
section
variable {F : Fn} {ρ : Rho} {h : AH} {Q : D → AH → Prop} {X : Nat → D → AH → Prop}
theorem w_var {i : Nat} {d : D} (e : ρ[i]? = some (some d)) (k : Q d h) : wR (evE F (.var i) ρ h) Q X := by
  rw [e_var, e]; exact k
theorem w_cst {d : D} (k : Q d h) : wR (evE F (.cst d) ρ h) Q X := k
theorem w_bin {m : Bool} {o : Op2} {a b : E} (k : wR (evE F a ρ h) (fun x h1 => wR (evE F b ρ h1) (fun y h2 => wR (bin2 m o x y h2) Q X) X) X) : wR (evE F (.bin m o a b) ρ h) Q X := by
  rw [e_bin]
  exact wR_bind (wR_mono k (fun _ _ k => wR_bind k) fun _ _ _ z => z)
theorem w_neg {a : E} (k : wR (evE F a ρ h) (fun x h1 => wN x fun i => Q (.int (-i)) h1) X) : wR (evE F (.neg a) ρ h) Q X := by
  rw [e_neg]
  exact wR_bind (wR_mono k (fun x _ k => by cases x <;> exact k) fun _ _ _ z => z)
theorem w_not {a : E} (k : wR (evE F a ρ h) (fun x h1 => wB x fun b => Q (.bl (!b)) h1) X) : wR (evE F (.not a) ρ h) Q X := by
  rw [e_not]
  exact wR_bind (wR_mono k (fun x _ k => by
    cases x <;> first | exact k | (rename_i b; cases b <;> exact k)) fun _ _ _ z => z)
theorem w_andE {a b : E} (k : wR (evE F a ρ h) (fun x h1 => wB x fun c => wI c (wR (evE F b ρ h1) Q X) (Q (.bl false) h1)) X) : wR (evE F (.and a b) ρ h) Q X := by
  rw [e_and]
  exact wR_bind (wR_mono k (fun x _ k => by
    cases x <;> first | exact k | (rename_i b; cases b; exact k.2 rfl; exact k.1 rfl)) fun _ _ _ z => z)
theorem w_orE {a b : E} (k : wR (evE F a ρ h) (fun x h1 => wB x fun c => wI c (Q (.bl true) h1) (wR (evE F b ρ h1) Q X)) X) : wR (evE F (.or a b) ρ h) Q X := by
  rw [e_or]
  exact wR_bind (wR_mono k (fun x _ k => by
    cases x <;> first | exact k | (rename_i b; cases b; exact k.2 rfl; exact k.1 rfl)) fun _ _ _ z => z)
theorem w_ite {c a b : E} (k : wR (evE F c ρ h) (fun x h1 => wB x fun c => wI c (wR (evE F a ρ h1) Q X) (wR (evE F b ρ h1) Q X)) X) : wR (evE F (.ite c a b) ρ h) Q X := by
  rw [e_ite]
  exact wR_bind (wR_mono k (fun x _ k => by
    cases x <;> first | exact k | (rename_i b; cases b; exact k.2 rfl; exact k.1 rfl)) fun _ _ _ z => z)
theorem w_cmp {o : Cmp} {a b : E} (k : wR (evE F a ρ h) (fun x h1 => wR (evE F b ρ h1) (fun y h2 => wP (cmp2 o x y h2) fun t => Q (.bl t) h2) X) X) : wR (evE F (.cmp o a b) ρ h) Q X := by
  rw [e_cmp]
  exact wR_bind (wR_mono k (fun x _ k => wR_bind (wR_mono k (fun y h2 k => by
    cases q : cmp2 o x y h2 <;> rw [q] at k <;> exact k) fun _ _ _ z => z)) fun _ _ _ z => z)
theorem w_cmp2 {o p : Cmp} {a b c : E} (k : wR (evE F a ρ h) (fun x h1 => wR (evE F b ρ h1) (fun y h2 => wP (cmp2 o x y h2) fun t => wI t (wR (evE F c ρ h2) (fun z h4 => wP (cmp2 p y z h4) fun t => Q (.bl t) h4) X) (Q (.bl false) h2)) X) X) : wR (evE F (.cmp2 o p a b c) ρ h) Q X := by
  rw [e_cmp2]
  refine wR_bind (wR_mono k (fun x _ k => wR_bind (wR_mono k (fun y h2 k => ?_) fun _ _ _ z => z)) fun _ _ _ z => z)
  cases q : cmp2 o x y h2 with
  | none => rw [q] at k; exact k
  | some t =>
    rw [q] at k
    cases t with
    | false => exact k.2 rfl
    | true =>
      refine wR_bind (wR_ok (wR_bind (wR_mono (k.1 rfl) (fun z h4 k => ?_) fun _ _ _ z => z)))
      cases q : cmp2 p y z h4 <;> rw [q] at k <;> exact k
theorem w_tup {es : List E} (k : wR (evEs F es ρ h) (fun xs h1 => xs.length ≤ szl ∧ Q (.tup xs) h1) X) : wR (evE F (.tup es) ρ h) Q X := by
  rw [e_tup]
  exact wR_bind (wR_mono k (fun xs _ k => by rw [if_pos k.1]; exact k.2) fun _ _ _ z => z)
theorem w_lst {m : Bool} {es : List E} (k : wR (evEs F es ρ h) (fun xs h1 => xs.length ≤ szl ∧ wR (mk m xs h1) Q X) X) : wR (evE F (.lst m es) ρ h) Q X := by
  rw [e_lst]
  exact wR_bind (wR_mono k (fun xs _ k => by rw [if_pos k.1]; exact k.2) fun _ _ _ z => z)
theorem w_idx {a i : E} (k : wR (evE F a ρ h) (fun x h1 => wR (evE F i ρ h1) (fun y h2 => wP (index h2 x y) fun d => Q d h2) X) X) : wR (evE F (.idx a i) ρ h) Q X := by
  rw [e_idx]
  exact wR_bind (wR_mono k (fun x _ k => wR_bind (wR_mono k (fun y h2 k => wR_of k) fun _ _ _ z => z)) fun _ _ _ z => z)
def wOpt (F : Fn) (o : Option E) (ρ : Rho) (h : AH) (Q : Option Int → AH → Prop) (X : Nat → D → AH → Prop) : Prop := match o with
  | none => Q none h
  | some e => wR (evE F e ρ h) (fun x h1 => wN x fun i => Q (some i) h1) X
theorem wOpt_n {Q : Option Int → AH → Prop} (k : Q none h) : wOpt F none ρ h Q X := k
theorem wOpt_s {e : E} {Q : Option Int → AH → Prop} (k : wR (evE F e ρ h) (fun x h1 => wN x fun i => Q (some i) h1) X) : wOpt F (some e) ρ h Q X := k
theorem wOpt_ok {o : Option E} {Q : Option Int → AH → Prop} (k : wOpt F o ρ h Q X) : wR (evO F o ρ h) Q X := by
  cases o with
  | none => exact k
  | some e =>
    rw [o_some]
    exact wR_bind (wR_mono k (fun x _ k => by cases x <;> exact k) fun _ _ _ z => z)
theorem w_slice {m : Bool} {a : E} {lo hi : Option E} (k : wR (evE F a ρ h) (fun x h1 => wOpt F lo ρ h1 (fun l h2 => wOpt F hi ρ h2 (fun u h3 => wR (slice m x l u h3) Q X) X) X) X) : wR (evE F (.slice m a lo hi) ρ h) Q X := by
  rw [e_slice]
  refine wR_bind (wR_mono k (fun x _ k => wR_bind (wR_mono (wOpt_ok k) (fun l h2 k => wR_bind (wOpt_ok k)) fun _ _ _ z => z)) fun _ _ _ z => z)
theorem w_call {f : Nat} {es : List E} (k : wR (evEs F es ρ h) (fun xs h1 => wR (F f xs h1) Q X) X) : wR (evE F (.call f es) ρ h) Q X := by
  rw [e_call]; exact wR_bind k
theorem w_prim {m : Bool} {p : Prim} {es : List E} (k : wR (evEs F es ρ h) (fun xs h1 => wR (prim m p xs h1) Q X) X) : wR (evE F (.prim m p es) ρ h) Q X := by
  rw [e_prim]; exact wR_bind k
theorem w_meth {k : Meth} {o : E} {es : List E} (w : wR (evE F o ρ h) (fun x h1 => methTy k x h1 = true ∧ wR (evEs F es ρ h1) (fun xs h2 => wR (meth k x xs h2) Q X) X) X) : wR (evE F (.meth k o es) ρ h) Q X := by
  rw [e_meth]
  exact wR_bind (wR_mono w (fun x _ k => by rw [if_pos k.1]; exact wR_bind k.2) fun _ _ _ z => z)
theorem w_isi {a : E} {t : Ty} (k : wR (evE F a ρ h) (fun x h1 => wP (isTy h1 x t) fun b => Q (.bl b) h1) X) : wR (evE F (.isi a t) ρ h) Q X := by
  rw [e_isi]
  exact wR_bind (wR_mono k (fun x h1 k => by cases q : isTy h1 x t <;> rw [q] at k <;> exact k) fun _ _ _ z => z)
theorem w_dix {o k : E} (w : wR (evE F o ρ h) (fun x h1 => wR (evE F k ρ h1) (fun y h2 => keyK y = true ∧ wP ((dkvs h2 x).bind fun kvs => dfind kvs y) fun d => Q d h2) X) X) : wR (evE F (.dix o k) ρ h) Q X := by
  rw [e_dix]
  exact wR_bind (wR_mono w (fun x _ k => wR_bind (wR_mono k (fun y h2 k => by rw [if_pos k.1]; exact wR_of k.2) fun _ _ _ z => z)) fun _ _ _ z => z)
theorem w_dget {o k z : E} (w : wR (evE F o ρ h) (fun x h1 => (dkvs h1 x).isSome = true ∧ wR (evE F k ρ h1) (fun y h2 => wR (evE F z ρ h2) (fun u h3 => keyK y = true ∧ wP ((dkvs h3 x).map fun kvs => (dfind kvs y).getD u) fun d => Q d h3) X) X) X) : wR (evE F (.dget o k z) ρ h) Q X := by
  rw [e_dget]
  exact wR_bind (wR_mono w (fun x _ k => by
    rw [if_pos k.1]
    exact wR_bind (wR_mono k.2 (fun y h2 k => wR_bind (wR_mono k (fun u h3 k => by rw [if_pos k.1]; exact wR_of k.2) fun _ _ _ z => z)) fun _ _ _ z => z)) fun _ _ _ z => z)
theorem w_din {neg : Bool} {k o : E} (w : wR (evE F k ρ h) (fun y h1 => wR (evE F o ρ h1) (fun x h2 => keyK y = true ∧ wP (dkvs h2 x) fun kvs => Q (.bl (if neg then !(dfind kvs y).isSome else (dfind kvs y).isSome)) h2) X) X) : wR (evE F (.din neg k o) ρ h) Q X := by
  rw [e_din]
  refine wR_bind (wR_mono w (fun y _ k => wR_bind (wR_mono k (fun x h2 k => by
    rw [if_pos k.1]
    refine wR_of ?_
    have k2 := k.2
    cases q : dkvs h2 x <;> rw [q] at k2 <;> exact k2) fun _ _ _ z => z)) fun _ _ _ z => z)
theorem w_slot {c i : Nat} {o : E} (k : wR (evE F o ρ h) (fun x h1 => wP ((slotsOf c h1 x).bind fun fs => (fs[i]?).join) fun d => Q d h1) X) : wR (evE F (.slot c o i) ρ h) Q X := by
  rw [e_slot]
  exact wR_bind (wR_mono k (fun x _ k => wR_of k) fun _ _ _ z => z)
theorem w_ownm {c f : Nat} {o : E} {es : List E} (k : wR (evE F o ρ h) (fun x h1 => (slotsOf c h1 x).isSome = true ∧ wR (evEs F es ρ h1) (fun xs h2 => wR (F f (x :: xs) h2) Q X) X) X) : wR (evE F (.own .meth c f o es) ρ h) Q X := by
  rw [e_own_meth]
  exact wR_bind (wR_mono k (fun x _ k => by rw [if_pos k.1]; exact wR_bind k.2) fun _ _ _ z => z)
theorem w_ownp {c f : Nat} {o : E} {es : List E} (k : wR (evE F o ρ h) (fun x h1 => (slotsOf c h1 x).isSome = true ∧ wR (F f [x] h1) Q noX) X) : wR (evE F (.own .prop c f o es) ρ h) Q X := by
  rw [e_own_prop]
  exact wR_bind (wR_mono k (fun x _ k => by rw [if_pos k.1]; exact wR_nox k.2) fun _ _ _ z => z)
theorem w_ownl {c f : Nat} {o : E} {es : List E} (k : wR (evE F o ρ h) (fun x h1 => (slotsOf c h1 x).isSome = true ∧ wR (F f [x] h1) (fun r h2 => wN r fun i => (0 ≤ i ∧ i < 2 ^ 62) ∧ Q (.int i) h2) noX) X) : wR (evE F (.own .len c f o es) ρ h) Q X := by
  have : evE F (.own .len c f o es) ρ h = (evE F o ρ h).bind fun x h1 => if (slotsOf c h1 x).isSome then ((F f [x] h1).nox).bind fun r h2 => (match r with
      | .int i => if decide (0 ≤ i) && decide (i < 2 ^ 62) then .ok (.int i) h2 else .fail
      | _ => .fail) else .fail := rfl
  rw [this]
  refine wR_bind (wR_mono k (fun x _ k => ?_) fun _ _ _ z => z)
  rw [if_pos k.1]
  refine wR_bind (wR_nox (wR_mono k.2 (fun r h2 k => ?_) fun _ _ _ z => z))
  cases r <;> first | exact k.elim | skip
  rename_i i
  have c : (decide (0 ≤ i) && decide (i < 2 ^ 62)) = true := by rw [Bool.and_eq_true]; exact ⟨decide_eq_true k.1.1, decide_eq_true k.1.2⟩
  dsimp only
  rw [if_pos c]
  exact k.2
theorem w_owns {c f : Nat} {o : E} {es : List E} (k : wR (evE F o ρ h) (fun x h1 => (slotsOf c h1 x).isSome = true ∧ wR (F f [x] h1) (fun r h2 => (∃ s, r = .str s) ∧ Q r h2) noX) X) : wR (evE F (.own .str c f o es) ρ h) Q X := by
  have : evE F (.own .str c f o es) ρ h = (evE F o ρ h).bind fun x h1 => if (slotsOf c h1 x).isSome then ((F f [x] h1).nox).bind fun r h2 => (match r with
      | .str s => .ok (.str s) h2
      | _ => .fail) else .fail := rfl
  rw [this]
  refine wR_bind (wR_mono k (fun x _ k => ?_) fun _ _ _ z => z)
  rw [if_pos k.1]
  refine wR_bind (wR_nox (wR_mono k.2 (fun r h2 k => ?_) fun _ _ _ z => z))
  obtain ⟨⟨s, rfl⟩, k⟩ := k
  exact k
theorem w_owni {c f : Nat} {o : E} {es : List E} (k : wR (evEs F es ρ h) (fun xs h1 => wR (evE F o ρ h1) (fun x h2 => (slotsOf c h2 x).isSome = true ∧ wR (F f (x :: xs) h2) (fun r h3 => wB r fun b => Q (.bl b) h3) noX) X) X) : wR (evE F (.own .isIn c f o es) ρ h) Q X := by
  have : evE F (.own .isIn c f o es) ρ h = (evEs F es ρ h).bind fun xs h1 => (evE F o ρ h1).bind fun x h2 => if (slotsOf c h2 x).isSome then ((F f (x :: xs) h2).nox).bind fun r h3 => (match r with
      | .bl b => .ok (.bl b) h3
      | _ => .fail) else .fail := rfl
  rw [this]
  refine wR_bind (wR_mono k (fun xs _ k => wR_bind (wR_mono k (fun x h2 k => ?_) fun _ _ _ z => z)) fun _ _ _ z => z)
  rw [if_pos k.1]
  refine wR_bind (wR_nox (wR_mono k.2 (fun r h2 k => ?_) fun _ _ _ z => z))
  cases r <;> exact k
theorem w_ownn {c f : Nat} {o : E} {es : List E} (k : wR (evEs F es ρ h) (fun xs h1 => wR (evE F o ρ h1) (fun x h2 => (slotsOf c h2 x).isSome = true ∧ wR (F f (x :: xs) h2) (fun r h3 => wB r fun b => Q (.bl (!b)) h3) noX) X) X) : wR (evE F (.own .notIn c f o es) ρ h) Q X := by
  have : evE F (.own .notIn c f o es) ρ h = (evEs F es ρ h).bind fun xs h1 => (evE F o ρ h1).bind fun x h2 => if (slotsOf c h2 x).isSome then ((F f (x :: xs) h2).nox).bind fun r h3 => (match r with
      | .bl b => .ok (.bl (!b)) h3
      | _ => .fail) else .fail := rfl
  rw [this]
  refine wR_bind (wR_mono k (fun xs _ k => wR_bind (wR_mono k (fun x h2 k => ?_) fun _ _ _ z => z)) fun _ _ _ z => z)
  rw [if_pos k.1]
  refine wR_bind (wR_nox (wR_mono k.2 (fun r h2 k => ?_) fun _ _ _ z => z))
  cases r <;> exact k
theorem w_newo {c f : Nat} {es : List E} (k : wR (evEs F es ρ h) (fun xs h1 => wR (F f (.loc h1.length :: xs) (h1 ++ [.ins c []])) (fun r h2 => r = .non ∧ Q (.loc h1.length) h2) X) X) : wR (evE F (.newo c f es) ρ h) Q X := by
  have : evE F (.newo c f es) ρ h = (evEs F es ρ h).bind fun xs h1 => (F f (.loc h1.length :: xs) (h1 ++ [.ins c []])).bind fun r h2 => match r with
    | .non => .ok (.loc h1.length) h2
    | _ => .fail := rfl
  rw [this]
  refine wR_bind (wR_mono k (fun xs _ k => wR_bind (wR_mono k (fun r h2 k => ?_) fun _ _ _ z => z)) fun _ _ _ z => z)
  obtain ⟨rfl, k⟩ := k
  exact k
theorem w_rev {a : E} (k : wR (evE F a ρ h) (fun x h1 => ∃ xs, x = .tup xs ∧ Q (.tup xs.reverse) h1) X) : wR (evE F (.rev a) ρ h) Q X := by
  have : evE F (.rev a) ρ h = (evE F a ρ h).bind fun x h1 => match x with
    | .tup xs => .ok (.tup xs.reverse) h1
    | _ => .fail := rfl
  rw [this]
  refine wR_bind (wR_mono k (fun x _ k => ?_) fun _ _ _ z => z)
  obtain ⟨xs, rfl, k⟩ := k
  exact k
theorem w_fstr {es : List E} (k : wR (evEs F es ρ h) (fun xs h1 => wP (fmtL ⟨#[]⟩ xs) fun t => Q (.str t) h1) noX) : wR (evE F (.fstr es) ρ h) Q X := by
  have : evE F (.fstr es) ρ h = ((evEs F es ρ h).nox).bind fun xs h1 => Res.of ((fmtL ⟨#[]⟩ xs).map D.str) h1 := rfl
  rw [this]
  refine wR_bind (wR_nox (wR_mono k (fun x _ k => ?_) fun _ _ _ z => z))
  refine wR_of ?_
  cases q : fmtL ⟨#[]⟩ x <;> rw [q] at k <;> exact k
theorem w_dclear {o : E} (k : wR (evE F o ρ h) (fun x h1 => ∃ n kvs, x = .loc n ∧ h1[n]? = some (.dct kvs) ∧ Q .non (h1.set n (.dct []))) X) : wR (evE F (.dclear o) ρ h) Q X := by
  have : evE F (.dclear o) ρ h = (evE F o ρ h).bind fun x h1 => match x with
    | .loc n => match h1[n]? with
      | some (.dct _) => .ok .non (h1.set n (.dct []))
      | _ => .fail
    | _ => .fail := rfl
  rw [this]
  refine wR_bind (wR_mono k (fun x _ k => ?_) fun _ _ _ z => z)
  obtain ⟨n, kvs, rfl, e, k⟩ := k
  dsimp only
  rw [e]
  exact k
theorem w_ditems {m : Bool} {o : E} (k : wR (evE F o ρ h) (fun x h1 => ∃ n kvs, x = .loc n ∧ h1[n]? = some (.dct kvs) ∧ wR (mk m (kvs.map fun p => .tup [p.1, p.2]) h1) Q X) X) : wR (evE F (.ditems m o) ρ h) Q X := by
  have : evE F (.ditems m o) ρ h = (evE F o ρ h).bind fun x h1 => match x with
    | .loc n => match h1[n]? with
      | some (.dct kvs) => mk m (kvs.map fun p => .tup [p.1, p.2]) h1
      | _ => .fail
    | _ => .fail := rfl
  rw [this]
  refine wR_bind (wR_mono k (fun x _ k => ?_) fun _ _ _ z => z)
  obtain ⟨n, kvs, rfl, e, k⟩ := k
  dsimp only
  rw [e]
  exact k
theorem w_dct0 {m : Bool} (k : wR (mkD m [] h) Q X) : wR (evE F (.dct m [] []) ρ h) Q X := k
theorem w_nil {Q : List D → AH → Prop} (k : Q [] h) : wR (evEs F [] ρ h) Q X := k
theorem w_cons {e : E} {es : List E} {Q : List D → AH → Prop} (k : wR (evE F e ρ h) (fun x h1 => wR (evEs F es ρ h1) (fun xs h2 => Q (x :: xs) h2) X) X) : wR (evEs F (e :: es) ρ h) Q X := by
  rw [e_cons]
  exact wR_bind (wR_mono k (fun _ _ k => wR_bind k) fun _ _ _ z => z)
/-! ### operations -/
theorem w_add {m : Bool} {i j : Int} (k : Q (.int (i + j)) h) : wR (bin2 m .add (.int i) (.int j) h) Q X := k
theorem w_sub {m : Bool} {i j : Int} (k : Q (.int (i - j)) h) : wR (bin2 m .sub (.int i) (.int j) h) Q X := k
theorem w_addt {m : Bool} {xs ys : List D} (l : xs.length + ys.length ≤ szl) (k : Q (.tup (xs ++ ys)) h) : wR (bin2 m .add (.tup xs) (.tup ys) h) Q X := by
  rw [b_addt, if_pos l]; exact k
theorem w_addl {m : Bool} {xs ys : List D} (l : xs.length + ys.length ≤ szl) (k : wR (mk m (xs ++ ys) h) Q X) : wR (bin2 m .add (.lst xs) (.lst ys) h) Q X := by
  rw [b_addl, if_pos l]; exact k
theorem w_mulc {m : Bool} {i j : Int} (c : (smallI i || smallI j) = true) (k : Q (.int (i * j)) h) : wR (bin2 m .mul (.int i) (.int j) h) Q X := by
  rw [b_mul (by simpa using c)]; exact k
theorem w_mod {m : Bool} {i j : Int} (c : 0 < j) (k : Q (.int (i % j)) h) : wR (bin2 m .mod (.int i) (.int j) h) Q X := by
  rw [b_mod, if_pos c]; exact k
theorem w_mk {xs : List D} (k : Q (.lst xs) h) : wR (mk false xs h) Q X := k
theorem w_mkt {xs : List D} (k : Q (.loc h.length) (h ++ [.lst xs])) : wR (mk true xs h) Q X := k
theorem w_mkD {xs : List (D × D)} (k : Q (.dct xs) h) : wR (mkD false xs h) Q X := k
theorem w_mkDt {xs : List (D × D)} (k : Q (.loc h.length) (h ++ [.dct xs])) : wR (mkD true xs h) Q X := k
theorem c_wlt {i j : Int} {k : Bool → Prop} (q : k (decide (i < j))) : wP (cmp2 .lt (.int i) (.int j) h) k := q
theorem c_wle {i j : Int} {k : Bool → Prop} (q : k (decide (i ≤ j))) : wP (cmp2 .le (.int i) (.int j) h) k := q
theorem c_wgt {i j : Int} {k : Bool → Prop} (q : k (decide (j < i))) : wP (cmp2 .gt (.int i) (.int j) h) k := q
theorem c_wge {i j : Int} {k : Bool → Prop} (q : k (decide (j ≤ i))) : wP (cmp2 .ge (.int i) (.int j) h) k := q
theorem c_weq {i j : Int} {k : Bool → Prop} (q : k (decide (i = j))) : wP (cmp2 .eq (.int i) (.int j) h) k := q
theorem c_wne {i j : Int} {k : Bool → Prop} (q : k (!decide (i = j))) : wP (cmp2 .ne (.int i) (.int j) h) k := q
theorem c_weqs {i j : Tx} {k : Bool → Prop} (q : k (decide (i = j))) : wP (cmp2 .eq (.str i) (.str j) h) k := q
theorem c_wnes {i j : Tx} {k : Bool → Prop} (q : k (!decide (i = j))) : wP (cmp2 .ne (.str i) (.str j) h) k := q
theorem p_wlen {m : Bool} {d : D} {xs : List D} (hd : ∀ s, d ≠ .str s) (e : items h d = some xs) (k : Q (.int xs.length) h) : wR (prim m .len [d] h) Q X := by
  rw [len_seq hd e]; exact k
theorem p_wlenT {m : Bool} {xs : List D} (k : Q (.int xs.length) h) : wR (prim m .len [.tup xs] h) Q X := k
theorem p_wlenL {m : Bool} {xs : List D} (k : Q (.int xs.length) h) : wR (prim m .len [.lst xs] h) Q X := k
theorem p_wlenD {m : Bool} {xs : List (D × D)} (k : Q (.int xs.length) h) : wR (prim m .len [.dct xs] h) Q X := k
theorem p_wlenH {m : Bool} {n : Nat} {xs : List D} (e : h[n]? = some (.lst xs)) (k : Q (.int xs.length) h) : wR (prim m .len [.loc n] h) Q X := p_wlen (by intro s z; cases z) (by rw [items_loc, e]; rfl) k
theorem p_wmax {m : Bool} {i j : Int} (k : Q (.int (if j > i then j else i)) h) : wR (prim m .max2 [.int i, .int j] h) Q X := k
theorem p_wmin {m : Bool} {i j : Int} (k : Q (.int (if j < i then j else i)) h) : wR (prim m .min2 [.int i, .int j] h) Q X := k
theorem p_wtupL {m : Bool} {xs : List D} (k : Q (.tup xs) h) : wR (prim m .tuple [.lst xs] h) Q X := k
theorem p_wtupH {m : Bool} {n : Nat} {xs : List D} (e : h[n]? = some (.lst xs)) (k : Q (.tup xs) h) : wR (prim m .tuple [.loc n] h) Q X := by
  have : prim m .tuple [.loc n] h = .ok (.tup xs) h := by
    show (match items h (.loc n) with
      | some xs => Res.ok (D.tup xs) h
      | none => .fail) = _
    rw [items_loc, e]
    rfl
  rw [this]; exact k
theorem p_wlistT {m : Bool} {xs : List D} (k : wR (mk m xs h) Q X) : wR (prim m .list [.tup xs] h) Q X := k
theorem p_wlistL {m : Bool} {xs : List D} (k : wR (mk m xs h) Q X) : wR (prim m .list [.lst xs] h) Q X := k
theorem i_wlst {xs : List D} {i : Int} {k : D → Prop} (h0 : 0 ≤ i) (h1 : i < xs.length) (q : ∀ d, xs[i.toNat]? = some d → k d) : wP (index h (.lst xs) (.int i)) k := by
  rw [index_lst, ixN_ok h0 h1]
  have l : i.toNat < xs.length := by omega
  show wP (xs[i.toNat]?) k
  rw [List.getElem?_eq_getElem l]
  exact q _ (List.getElem?_eq_getElem l)
theorem i_wtup {xs : List D} {i : Int} {k : D → Prop} (h0 : 0 ≤ i) (h1 : i < xs.length) (q : ∀ d, xs[i.toNat]? = some d → k d) : wP (index h (.tup xs) (.int i)) k := i_wlst (h := h) h0 h1 q
theorem i_wloc {n : Nat} {xs : List D} {i : Int} {k : D → Prop} (e : h[n]? = some (.lst xs)) (h0 : 0 ≤ i) (h1 : i < xs.length) (q : ∀ d, xs[i.toNat]? = some d → k d) : wP (index h (.loc n) (.int i)) k := by
  rw [index_loc, e]
  exact i_wlst (h := h) h0 h1 q
theorem s_wtup {m : Bool} {xs : List D} {lo hi : Option Int} (k : Q (.tup (cutL xs lo hi)) h) : wR (slice m (.tup xs) lo hi h) Q X := k
theorem s_wlst {m : Bool} {xs : List D} {lo hi : Option Int} (k : wR (mk m (cutL xs lo hi) h) Q X) : wR (slice m (.lst xs) lo hi h) Q X := k
theorem t_loc {n : Nat} {xs : List D} {k : Meth} (e : h[n]? = some (.lst xs)) (hk : k = .append ∨ k = .pop ∨ k = .popAt) : methTy k (.loc n) h = true := by
  rcases hk with rfl | rfl | rfl <;> (show isL h[n]? = true; rw [e]; rfl)
theorem m_wapp {n : Nat} {xs : List D} {v : D} (e : h[n]? = some (.lst xs)) (l : xs.length < szl) (k : Q .non (put n (xs ++ [v]) h)) : wR (meth .append (.loc n) [v] h) Q X := by
  have : meth .append (.loc n) [v] h = (match h[n]? with
    | some (.lst ys) => if decide (ys.length < szl) = true then .ok .non (put n (ys ++ [v]) h) else .fail
    | _ => .fail) := rfl
  rw [this, e]
  dsimp only
  rw [if_pos (decide_eq_true l)]
  exact k
theorem m_wpop {n : Nat} {xs : List D} {v : D} (e : h[n]? = some (.lst (xs ++ [v]))) (k : Q v (put n xs h)) : wR (meth .pop (.loc n) [] h) Q X := by
  have : meth .pop (.loc n) [] h = (match h[n]? with
    | some (.lst ys) => (match ys[ys.length - 1]? with
      | some y => .ok y (put n ys.dropLast h)
      | none => .fail)
    | _ => .fail) := rfl
  rw [this, e]
  dsimp only
  have l : (xs ++ [v])[(xs ++ [v]).length - 1]? = some v := by
    rw [List.length_append]
    show (xs ++ [v])[xs.length + 1 - 1]? = _
    rw [Nat.add_sub_cancel, List.getElem?_append_right (Nat.le_refl _), Nat.sub_self]
    rfl
  rw [l, List.dropLast_concat]
  exact k
end
/-! ### targets, statements -/
section
variable {F : Fn} {ρ : Rho} {h : AH} {N : Rho → AH → Prop} {R : D → AH → Prop} {B C : Rho → AH → Prop} {X : Nat → D → Rho → AH → Prop}
theorem t_var {i : Nat} {d : D} (k : N (ρ.set i (some d)) h) : wO (asT F (.var i) d ρ h) N R B C X := k
theorem t_tup {ts : List T} {xs : List D} (l : xs.length = ts.length) (k : wO (asTs F ts xs ρ h) N R B C X) : wO (asT F (.tup ts) (.tup xs) ρ h) N R B C X := by
  rw [a_tup, if_pos l]; exact k
theorem t_nil (k : N ρ h) : wO (asTs F [] [] ρ h) N R B C X := k
theorem t_cons {t : T} {ts : List T} {x : D} {xs : List D} (k : wO (asT F t x ρ h) (fun ρ1 h1 => wO (asTs F ts xs ρ1 h1) N R B C X) R B C X) : wO (asTs F (t :: ts) (x :: xs) ρ h) N R B C X := by
  rw [a_cons]; exact wO_bind k
theorem t_idx {o i : E} {d : D} (k : wR (evE F o ρ h) (fun x h1 => wR (evE F i ρ h1) (fun y h2 => wP (setIx x y d h2) fun h3 => N ρ h3) (fun c p h => X c p ρ h)) (fun c p h => X c p ρ h)) : wO (asT F (.idx o i) d ρ h) N R B C X := by
  rw [a_idx]
  refine wR_out (wR_mono k (fun x h1 k => wR_out (wR_mono k (fun y h2 k => ?_) fun _ _ _ z => z)) fun _ _ _ z => z)
  cases q : setIx x y d h2 <;> rw [q] at k <;> exact k
theorem t_dix {o i : E} {d : D} (k : wR (evE F o ρ h) (fun x h1 => wR (evE F i ρ h1) (fun y h2 => wP (setDx x y d h2) fun h3 => N ρ h3) (fun c p h => X c p ρ h)) (fun c p h => X c p ρ h)) : wO (asT F (.dix o i) d ρ h) N R B C X := by
  have : asT F (.dix o i) d ρ h = (evE F o ρ h).out ρ fun x h1 => (evE F i ρ h1).out ρ fun y h2 => match setDx x y d h2 with
    | some h3 => .next ρ h3
    | none => .fail := rfl
  rw [this]
  refine wR_out (wR_mono k (fun x h1 k => wR_out (wR_mono k (fun y h2 k => ?_) fun _ _ _ z => z)) fun _ _ _ z => z)
  cases q : setDx x y d h2 <;> rw [q] at k <;> exact k
theorem t_slot {c i : Nat} {o : E} {d : D} (k : wR (evE F o ρ h) (fun x h1 => wP (setSl c x i d h1) fun h3 => N ρ h3) (fun c p h => X c p ρ h)) : wO (asT F (.slot c o i) d ρ h) N R B C X := by
  have : asT F (.slot c o i) d ρ h = (evE F o ρ h).out ρ fun x h1 => match setSl c x i d h1 with
    | some h3 => .next ρ h3
    | none => .fail := rfl
  rw [this]
  refine wR_out (wR_mono k (fun x h1 k => ?_) fun _ _ _ z => z)
  cases q : setSl c x i d h1 <;> rw [q] at k <;> exact k
theorem x_wnil (k : N ρ h) : wO (evSs F [] ρ h) N R B C X := k
theorem x_wcons {s : S} {ss : List S} (k : wO (evS F s ρ h) (fun ρ1 h1 => wO (evSs F ss ρ1 h1) N R B C X) R B C X) : wO (evSs F (s :: ss) ρ h) N R B C X := by
  rw [x_cons]; exact wO_bind k
theorem x_wone {s : S} (k : wO (evS F s ρ h) N R B C X) : wO (evSs F [s] ρ h) N R B C X := x_wcons (wO_mono k (fun _ _ k => k) (fun _ _ k => k) (fun _ _ k => k) (fun _ _ k => k) fun _ _ _ _ k => k)
theorem x_wasg {t : T} {e : E} (k : wR (evE F e ρ h) (fun x h1 => wO (asT F t x ρ h1) N R B C X) (fun c p h => X c p ρ h)) : wO (evS F (.asg t e) ρ h) N R B C X := by
  rw [x_asg]; exact wR_out k
theorem x_wpar {is : List Nat} {es : List E} (k : wR (evEs F es ρ h) (fun xs h1 => wP (setAll is xs ρ) fun ρ1 => N ρ1 h1) (fun c p h => X c p ρ h)) : wO (evS F (.par is es) ρ h) N R B C X := by
  rw [x_par]
  refine wR_out (wR_mono k (fun xs h1 k => ?_) fun _ _ _ z => z)
  cases q : setAll is xs ρ <;> rw [q] at k <;> exact k
theorem sa_nil {k : Rho → Prop} (q : k ρ) : wP (setAll [] [] ρ) k := q
theorem sa_cons {i : Nat} {is : List Nat} {x : D} {xs : List D} {k : Rho → Prop} (q : wP (setAll is xs (ρ.set i (some x))) k) : wP (setAll (i :: is) (x :: xs) ρ) k := q
theorem x_wexpr {e : E} (k : wR (evE F e ρ h) (fun _ h1 => N ρ h1) (fun c p h => X c p ρ h)) : wO (evS F (.expr e) ρ h) N R B C X := by
  rw [x_expr]; exact wR_out k
theorem x_wret {e : E} (k : wR (evE F e ρ h) R (fun c p h => X c p ρ h)) : wO (evS F (.ret e) ρ h) N R B C X := by
  rw [x_ret]; exact wR_out k
theorem x_wretN (k : R .non h) : wO (evS F .retN ρ h) N R B C X := k
theorem x_wcond {c : E} {a b : List S} (k : wR (evE F c ρ h) (fun x h1 => wB x fun t => wI t (wO (evSs F a ρ h1) N R B C X) (wO (evSs F b ρ h1) N R B C X)) (fun c p h => X c p ρ h)) : wO (evS F (.cond c a b) ρ h) N R B C X := by
  rw [x_cond]
  refine wR_out (wR_mono k (fun x h1 k => ?_) fun _ _ _ z => z)
  cases x <;> first | exact k.elim | (rename_i b; cases b; exact k.2 rfl; exact k.1 rfl)
theorem x_wbrk (k : B ρ h) : wO (evS F .brk ρ h) N R B C X := k
theorem x_wcont (k : C ρ h) : wO (evS F .cont ρ h) N R B C X := k
theorem x_wpass (k : N ρ h) : wO (evS F .pass ρ h) N R B C X := k
theorem x_waug {i : Nat} {e : E} {x : Int} (h0 : ρ[i]? = some (some (.int x))) (k : wR (evE F e ρ h) (fun y h1 => wN y fun y => N (ρ.set i (some (.int (x + y)))) h1) (fun c p h => X c p ρ h)) : wO (evS F (.aug i .add e) ρ h) N R B C X := by
  have : evS F (.aug i .add e) ρ h = (match ρ[i]? with
    | some (some (.int x)) => (evE F e ρ h).out ρ fun y h1 => match Op2.add, y with
      | .add, .int y => .next (ρ.set i (some (.int (x + y)))) h1
      | _, _ => .fail
    | _ => .fail) := rfl
  rw [this, h0]
  refine wR_out (wR_mono k (fun y h1 k => ?_) fun _ _ _ z => z)
  cases y <;> exact k
theorem x_wraise {c : Nat} {e : E} (k : wR (evE F e ρ h) (fun x h1 => X c x ρ h1) (fun c p h => X c p ρ h)) : wO (evS F (.raise c (some e)) ρ h) N R B C X := by
  have : evS F (.raise c (some e)) ρ h = (evE F e ρ h).out ρ fun x h1 => .exc c x ρ h1 := rfl
  rw [this]; exact wR_out k
theorem x_wraiseN {c : Nat} (k : X c .non ρ h) : wO (evS F (.raise c none) ρ h) N R B C X := k
/-- a walk, by what stays true -/
theorem goF_w {g : D → Rho → AH → Out} {st : AH → Bool} {xs : List D} (I : Nat → Rho → AH → Prop) (h0 : I 0 ρ h) (hst : ∀ i ρ h, i ≤ xs.length → I i ρ h → st h = true)
    (step : ∀ i ρ h x, I i ρ h → xs[i]? = some x → i < xs.length → wO (g x ρ h) (I (i + 1)) R (fun ρ h => N ρ h) (I (i + 1)) X) (hN : ∀ ρ h, I xs.length ρ h → N ρ h) : wO (goF g st xs ρ h) N R B C X := by
  have main : ∀ (ys : List D) (i : Nat) (ρ : Rho) (h : AH), xs.drop i = ys → i + ys.length = xs.length → I i ρ h → wO (goF g st ys ρ h) N R B C X := by
    intro ys
    induction ys with
    | nil =>
      intro i ρ h e l hI
      have : i = xs.length := by simpa using l
      subst this
      unfold goF
      rw [hst _ _ _ (Nat.le_refl _) hI]
      exact hN _ _ hI
    | cons y ys ih =>
      intro i ρ h e l hI
      have hx : xs[i]? = some y := by
        have := congrArg List.head? e
        rw [List.head?_drop] at this
        simpa using this
      have e2 : xs.drop (i + 1) = ys := by
        have := congrArg List.tail e
        rw [List.tail_drop] at this
        simpa using this
      have l1 : i < xs.length := by simp at l; omega
      have l2 : i + 1 + ys.length = xs.length := by simp at l; omega
      have w := step i ρ h y hI hx l1
      unfold goF
      rw [hst _ _ _ (Nat.le_of_lt l1) hI]
      show wO (match g y ρ h with
        | .next ρ1 h1 => goF g st ys ρ1 h1
        | .cont ρ1 h1 => goF g st ys ρ1 h1
        | .brk ρ1 h1 => .next ρ1 h1
        | o => o) N R B C X
      cases q : g y ρ h with
      | next ρ1 h1 => rw [q] at w; exact ih (i + 1) ρ1 h1 e2 l2 w
      | cont ρ1 h1 => rw [q] at w; exact ih (i + 1) ρ1 h1 e2 l2 w
      | brk ρ1 h1 => rw [q] at w; exact w
      | ret d h1 => rw [q] at w; exact w
      | exc c p ρ1 h1 => rw [q] at w; exact w
      | fail => rw [q] at w; exact w
  exact main xs 0 ρ h rfl (by simp) h0
theorem x_weach {t : T} {e : E} {b : List S} (k : wR (evE F e ρ h) (fun s h1 => wP (srcItems h1 s) fun xs => wO (goF (fun x ρ1 h2 => (asT F t x ρ1 h2).bind fun ρ2 h3 => evSs F b ρ2 h3) (still xs s) xs ρ h1) N R B C X) (fun c p h => X c p ρ h)) : wO (evS F (.each t e b) ρ h) N R B C X := by
  have : evS F (.each t e b) ρ h = ((evE F e ρ h).out ρ fun s h1 => match srcItems h1 s with
    | some xs => goF (fun x ρ1 h2 => (asT F t x ρ1 h2).bind fun ρ2 h3 => evSs F b ρ2 h3) (still xs s) xs ρ h1
    | none => .fail) := rfl
  rw [this]
  refine wR_out (wR_mono k (fun s h1 k => ?_) fun _ _ _ z => z)
  cases q : srcItems h1 s <;> rw [q] at k <;> exact k
theorem x_wrng1 {t : T} {e : E} {b : List S} (k : wR (evE F e ρ h) (fun s h1 => wN s fun n => small62 n = true ∧ wO (goF (fun x ρ1 h2 => (asT F t x ρ1 h2).bind fun ρ2 h3 => evSs F b ρ2 h3) (fun _ => true) (rangeD 0 n) ρ h1) N R B C X) (fun c p h => X c p ρ h)) : wO (evS F (.rng t [e] b) ρ h) N R B C X := by
  have : evS F (.rng t [e] b) ρ h = ((evEs F [e] ρ h).out ρ fun ks h1 => match ks with
    | [.int hi] => if small62 hi then goF (fun x ρ1 h2 => (asT F t x ρ1 h2).bind fun ρ2 h3 => evSs F b ρ2 h3) (fun _ => true) (rangeD 0 hi) ρ h1 else .fail
    | [.int lo, .int hi] => if small62 lo && small62 hi then goF (fun x ρ1 h2 => (asT F t x ρ1 h2).bind fun ρ2 h3 => evSs F b ρ2 h3) (fun _ => true) (rangeD lo hi) ρ h1 else .fail
    | [.int lo, .int hi, .int c] => if decide (c = -1) && (small62 lo && small62 hi) then goF (fun x ρ1 h2 => (asT F t x ρ1 h2).bind fun ρ2 h3 => evSs F b ρ2 h3) (fun _ => true) (rangeDn lo hi) ρ h1 else .fail
    | _ => .fail) := rfl
  rw [this]
  refine wR_out (w_cons (wR_mono k (fun s h1 k => w_nil ?_) fun _ _ _ z => z))
  cases s <;> first | exact k.elim | skip
  dsimp only
  rw [if_pos k.1]
  exact k.2
theorem x_wrng2 {t : T} {e1 e2 : E} {b : List S} (k : wR (evE F e1 ρ h) (fun s h1 => wR (evE F e2 ρ h1) (fun u h2 => wN s fun m => wN u fun n => (small62 m && small62 n) = true ∧ wO (goF (fun x ρ1 h2 => (asT F t x ρ1 h2).bind fun ρ2 h3 => evSs F b ρ2 h3) (fun _ => true) (rangeD m n) ρ h2) N R B C X) (fun c p h => X c p ρ h)) (fun c p h => X c p ρ h)) : wO (evS F (.rng t [e1, e2] b) ρ h) N R B C X := by
  have : evS F (.rng t [e1, e2] b) ρ h = ((evEs F [e1, e2] ρ h).out ρ fun ks h1 => match ks with
    | [.int hi] => if small62 hi then goF (fun x ρ1 h2 => (asT F t x ρ1 h2).bind fun ρ2 h3 => evSs F b ρ2 h3) (fun _ => true) (rangeD 0 hi) ρ h1 else .fail
    | [.int lo, .int hi] => if small62 lo && small62 hi then goF (fun x ρ1 h2 => (asT F t x ρ1 h2).bind fun ρ2 h3 => evSs F b ρ2 h3) (fun _ => true) (rangeD lo hi) ρ h1 else .fail
    | [.int lo, .int hi, .int c] => if decide (c = -1) && (small62 lo && small62 hi) then goF (fun x ρ1 h2 => (asT F t x ρ1 h2).bind fun ρ2 h3 => evSs F b ρ2 h3) (fun _ => true) (rangeDn lo hi) ρ h1 else .fail
    | _ => .fail) := rfl
  rw [this]
  refine wR_out (w_cons (wR_mono k (fun s h1 k => w_cons (wR_mono k (fun u h2 k => w_nil ?_) fun _ _ _ z => z)) fun _ _ _ z => z))
  cases s <;> first | exact k.elim | skip
  cases u <;> first | exact k.elim | skip
  dsimp only
  rw [if_pos k.1]
  exact k.2
theorem x_wrng3 {t : T} {e1 e2 e3 : E} {b : List S} (k : wR (evE F e1 ρ h) (fun s h1 => wR (evE F e2 ρ h1) (fun u h2 => wR (evE F e3 ρ h2) (fun v h3 => wN s fun m => wN u fun n => wN v fun c => (decide (c = -1) && (small62 m && small62 n)) = true ∧ wO (goF (fun x ρ1 h2 => (asT F t x ρ1 h2).bind fun ρ2 h3 => evSs F b ρ2 h3) (fun _ => true) (rangeDn m n) ρ h3) N R B C X) (fun c p h => X c p ρ h)) (fun c p h => X c p ρ h)) (fun c p h => X c p ρ h)) : wO (evS F (.rng t [e1, e2, e3] b) ρ h) N R B C X := by
  have : evS F (.rng t [e1, e2, e3] b) ρ h = ((evEs F [e1, e2, e3] ρ h).out ρ fun ks h1 => match ks with
    | [.int hi] => if small62 hi then goF (fun x ρ1 h2 => (asT F t x ρ1 h2).bind fun ρ2 h3 => evSs F b ρ2 h3) (fun _ => true) (rangeD 0 hi) ρ h1 else .fail
    | [.int lo, .int hi] => if small62 lo && small62 hi then goF (fun x ρ1 h2 => (asT F t x ρ1 h2).bind fun ρ2 h3 => evSs F b ρ2 h3) (fun _ => true) (rangeD lo hi) ρ h1 else .fail
    | [.int lo, .int hi, .int c] => if decide (c = -1) && (small62 lo && small62 hi) then goF (fun x ρ1 h2 => (asT F t x ρ1 h2).bind fun ρ2 h3 => evSs F b ρ2 h3) (fun _ => true) (rangeDn lo hi) ρ h1 else .fail
    | _ => .fail) := rfl
  rw [this]
  refine wR_out (w_cons (wR_mono k (fun s h1 k => w_cons (wR_mono k (fun u h2 k => w_cons (wR_mono k (fun v h3 k => w_nil ?_) fun _ _ _ z => z)) fun _ _ _ z => z)) fun _ _ _ z => z))
  cases s <;> first | exact k.elim | skip
  cases u <;> first | exact k.elim | skip
  cases v <;> first | exact k.elim | skip
  dsimp only
  rw [if_pos k.1]
  exact k.2
/-- while, with a number that falls -/
theorem while_w {c : Rho → AH → Res D} {b : Rho → AH → Out} (I : Nat → Rho → AH → Prop) (step : ∀ k ρ h, I k ρ h → wR (c ρ h) (fun x h1 => wB x fun t => wI t (wO (b ρ h1) (fun ρ h => ∃ j, j < k ∧ I j ρ h) R (fun ρ h => N ρ h) (fun ρ h => ∃ j, j < k ∧ I j ρ h) X) (N ρ h1)) (fun c p h => X c p ρ h)) : ∀ (n k : Nat) (ρ : Rho) (h : AH), k < n → I k ρ h → wO (whileN c b n ρ h) N R B C X
  | 0, k, ρ, h, l, _ => absurd l (Nat.not_lt_zero _)
  | n + 1, k, ρ, h, l, hI => by
    have w := step k ρ h hI
    unfold whileN
    refine wR_out (wR_mono w (fun x h1 k1 => ?_) fun _ _ _ z => z)
    cases x <;> first | exact k1.elim | skip
    rename_i t
    cases t with
    | false => exact k1.2 rfl
    | true =>
      have w2 := k1.1 rfl
      dsimp only
      cases q : b ρ h1 with
      | next ρ1 h2 => rw [q] at w2; obtain ⟨j, hj, hI⟩ := w2; exact while_w I step n j ρ1 h2 (by omega) hI
      | cont ρ1 h2 => rw [q] at w2; obtain ⟨j, hj, hI⟩ := w2; exact while_w I step n j ρ1 h2 (by omega) hI
      | brk ρ1 h2 => rw [q] at w2; exact w2
      | ret d h2 => rw [q] at w2; exact w2
      | exc c p ρ1 h2 => rw [q] at w2; exact w2
      | fail => rw [q] at w2; exact w2
theorem x_wloop {c : E} {b : List S} (I : Nat → Rho → AH → Prop) {k0 : Nat} (hk : k0 < 1000000) (h0 : I k0 ρ h) (step : ∀ k ρ h, I k ρ h → wR (evE F c ρ h) (fun x h1 => wB x fun t => wI t (wO (evSs F b ρ h1) (fun ρ h => ∃ j, j < k ∧ I j ρ h) R (fun ρ h => N ρ h) (fun ρ h => ∃ j, j < k ∧ I j ρ h) X) (N ρ h1)) (fun c p h => X c p ρ h)) : wO (evS F (.loop c b) ρ h) N R B C X := by
  have : evS F (.loop c b) ρ h = whileN (evE F c) (evSs F b) turns ρ h := rfl
  rw [this]
  exact while_w I step turns k0 ρ h hk h0
theorem x_wtry {b s : List S} {c i : Nat} (k : wO (evSs F b ρ h) N R B C (fun c' p ρ1 h1 => c' = c ∧ wO (evSs F s (ρ1.set i (some (.ins c [p]))) h1)
    (fun ρ2 h2 => (coldR (ρ2.set i none) && h2.all coldA) = true ∧ N (ρ2.set i none) h2) (fun d h2 => (cold d && h2.all coldA) = true ∧ R d h2)
    (fun ρ2 h2 => (coldR (ρ2.set i none) && h2.all coldA) = true ∧ B (ρ2.set i none) h2) (fun ρ2 h2 => (coldR (ρ2.set i none) && h2.all coldA) = true ∧ C (ρ2.set i none) h2) (fun _ _ _ _ => False))) : wO (evS F (.tryAs b c i s) ρ h) N R B C X := by
  have : evS F (.tryAs b c i s) ρ h = (match evSs F b ρ h with
    | .exc c' p ρ1 h1 => if c' = c then (match evSs F s (ρ1.set i (some (.ins c [p]))) h1 with
        | .next ρ2 h2 => if coldR (ρ2.set i none) && h2.all coldA then .next (ρ2.set i none) h2 else .fail
        | .brk ρ2 h2 => if coldR (ρ2.set i none) && h2.all coldA then .brk (ρ2.set i none) h2 else .fail
        | .cont ρ2 h2 => if coldR (ρ2.set i none) && h2.all coldA then .cont (ρ2.set i none) h2 else .fail
        | .ret d h2 => if cold d && h2.all coldA then .ret d h2 else .fail
        | _ => .fail) else .fail
    | o => o) := rfl
  rw [this]
  cases q : evSs F b ρ h with
  | next ρ1 h1 => rw [q] at k; exact k
  | ret d h1 => rw [q] at k; exact k
  | brk ρ1 h1 => rw [q] at k; exact k
  | cont ρ1 h1 => rw [q] at k; exact k
  | fail => rw [q] at k; exact k
  | exc c' p ρ1 h1 =>
    rw [q] at k
    obtain ⟨rfl, k⟩ := k
    dsimp only
    rw [if_pos rfl]
    cases q2 : evSs F s (ρ1.set i (some (.ins c' [p]))) h1 with
    | next ρ2 h2 => rw [q2] at k; dsimp only; rw [if_pos k.1]; exact k.2
    | brk ρ2 h2 => rw [q2] at k; dsimp only; rw [if_pos k.1]; exact k.2
    | cont ρ2 h2 => rw [q2] at k; dsimp only; rw [if_pos k.1]; exact k.2
    | ret d h2 => rw [q2] at k; dsimp only; rw [if_pos k.1]; exact k.2
    | exc c p ρ2 h2 => rw [q2] at k; exact k.elim
    | fail => rw [q2] at k; exact k
end
/-- a def's run -/
theorem w_run {P : List FnDecl} {f np nl : Nat} {b : List S} {n : Nat} {xs : List D} {h : AH} {Q : D → AH → Prop} {X : Nat → D → AH → Prop} (hP : P[f]? = some ⟨np, nl, b⟩) (hl : xs.length = np) (k : wO (evSs (run P n) b (xs.map some ++ List.replicate (nl - xs.length) none) h) (fun _ h => Q .non h) Q (fun _ _ => False) (fun _ _ => False) (fun c p _ h => X c p h)) : wR (run P (n + 1) f xs h) Q X := by
  rw [run_def hP n hl]
  cases q : evSs (run P n) b (xs.map some ++ List.replicate (nl - xs.length) none) h <;> rw [q] at k <;> exact k
/-! ### rows -/
section
variable {F : Fn} {ρ : Rho} {h : AH} {Q : D → AH → Prop} {X : Nat → D → AH → Prop}
/-- a row over a thing, the same heap throughout -/
theorem w_comp {m : Bool} {i : Nat} {src elt : E} (f : D → D) (k : wR (evE F src ρ h) (fun s h1 => wP (srcItems h1 s) fun xs => xs.length ≤ szl ∧ (∀ x ∈ xs, wR (evE F elt (ρ.set i (some x)) h1) (fun d h' => d = f x ∧ h' = h1) noX) ∧ wR (mk m (xs.map f) h1) Q X) noX) : wR (evE F (.comp m i src none elt) ρ h) Q X := by
  obtain ⟨s, h1, e, k⟩ := wR_ex k
  cases q : srcItems h1 s with
  | none => rw [q] at k; exact k.elim
  | some xs =>
    rw [q] at k
    obtain ⟨l, k1, k2⟩ := k
    rw [e_compM f e q (fun x hx => wR_to (k1 x hx)) l]
    exact k2
theorem w_compF {m : Bool} {i : Nat} {src elt c : E} (b : D → Bool) (f : D → D) (k : wR (evE F src ρ h) (fun s h1 => wP (srcItems h1 s) fun xs => xs.length ≤ szl ∧ (∀ x ∈ xs, wR (evE F c (ρ.set i (some x)) h1) (fun d h' => d = .bl (b x) ∧ h' = h1) noX) ∧ (∀ x ∈ xs, b x = true → wR (evE F elt (ρ.set i (some x)) h1) (fun d h' => d = f x ∧ h' = h1) noX) ∧ wR (mk m ((xs.filter b).map f) h1) Q X) noX) : wR (evE F (.comp m i src (some c) elt) ρ h) Q X := by
  obtain ⟨s, h1, e, k⟩ := wR_ex k
  cases q : srcItems h1 s with
  | none => rw [q] at k; exact k.elim
  | some xs =>
    rw [q] at k
    obtain ⟨l, k1, k2, k3⟩ := k
    have st := still_now q
    have key : goC (fun x h3 => (evC F (some c) (ρ.set i (some x)) h3).bind fun b h4 => match b with
          | true => (evE F elt (ρ.set i (some x)) h4).bind fun y h5 => .ok (some y) h5
          | false => .ok none h4) (still xs s) xs h1 = .ok (xs.filterMap fun x => if b x then some (f x) else none) h1 :=
      goC_pure st fun x hx => by
        have hc : evC F (some c) (ρ.set i (some x)) h1 = .ok (b x) h1 := by
          unfold evC
          rw [wR_to (k1 x hx), bind_ok]
        rw [hc, bind_ok]
        cases hb : b x with
        | true =>
          dsimp only
          rw [wR_to (k2 x hx hb), bind_ok]
          rfl
        | false => rfl
    have e9 : evE F (.comp m i src (some c) elt) ρ h = (evE F src ρ h).bind fun s h1 => (Res.of (srcItems h1 s) h1).bind fun xs h2 =>
      ((goC (fun x h3 => (evC F (some c) (ρ.set i (some x)) h3).bind fun b h4 => match b with
          | true => (evE F elt (ρ.set i (some x)) h4).bind fun y h5 => .ok (some y) h5
          | false => .ok none h4) (still xs s) xs h2).nox).bind fun ys h6 => if decide (ys.length ≤ szl) then mk m ys h6 else .fail := rfl
    rw [e9, e, bind_ok, q, of_some, bind_ok, key, nox_val, bind_ok]
    have e3 : xs.filterMap (fun x => if b x = true then some (f x) else none) = (xs.filter b).map f := by
      clear k k1 k2 k3 st key q l
      induction xs with
      | nil => rfl
      | cons x xs ih =>
        rw [List.filterMap_cons, List.filter_cons]
        cases b x with
        | true => simp [ih]
        | false => simp [ih]
    rw [e3, if_pos (decide_eq_true (by rw [List.length_map]; exact Nat.le_trans (List.length_filter_le _ _) l))]
    exact k3
end
end PI
set_option maxRecDepth 100000
set_option maxHeartbeats 1000000
namespace PI
/-- a name gets a value -/
def wS (ρ : Rho) (i : Nat) (d : D) (k : Rho → Prop) : Prop := k (ρ.set i (some d))
section
variable {F : Fn} {ρ ρ' : Rho} {h : AH} {N : Rho → AH → Prop} {R : D → AH → Prop} {B C : Rho → AH → Prop} {X : Nat → D → Rho → AH → Prop}
theorem wS_n {i : Nat} {d : D} {k : Rho → Prop} (e : ρ.set i (some d) = ρ') (q : k ρ') : wS ρ i d k := by subst e; exact q
theorem t_varN {i : Nat} {d : D} (k : wS ρ i d fun ρ' => N ρ' h) : wO (asT F (.var i) d ρ h) N R B C X := k
theorem sa_consN {i : Nat} {is : List Nat} {x : D} {xs : List D} {k : Rho → Prop} (q : wS ρ i x fun ρ' => wP (setAll is xs ρ') k) : wP (setAll (i :: is) (x :: xs) ρ) k := q
theorem x_waugN {i : Nat} {e : E} {x : Int} (h0 : ρ[i]? = some (some (.int x))) (k : wR (evE F e ρ h) (fun y h1 => wN y fun y => wS ρ i (.int (x + y)) fun ρ' => N ρ' h1) (fun c p h => X c p ρ h)) : wO (evS F (.aug i .add e) ρ h) N R B C X := x_waug h0 k
theorem wO_seq {o : Out} {f : Rho → AH → Out} (k : wO o (fun ρ h => wO (f ρ h) N R B C X) R B C X) : wO (o.bind f) N R B C X := wO_bind k
end
theorem wR_eqG {α : Type} {r : Res α} {v : α} {G : AH → Prop} {Q : α → AH → Prop} {X : Nat → D → AH → Prop} (w : wR r (fun d h' => d = v ∧ G h') noX) (k : ∀ h', G h' → Q v h') : wR r Q X := wR_by w fun d h' z => by
  obtain ⟨rfl, z⟩ := z
  exact k h' z
theorem w_len {xs : List D} {p : Prop} (l : decide (xs.length ≤ 16777216) = true) (k : p) : xs.length ≤ szl ∧ p := ⟨of_decide_eq_true l, k⟩
theorem w_keyS {s : Tx} {p : Prop} (k : p) : keyK (.str s) = true ∧ p := ⟨rfl, k⟩
theorem w_keyI {i : Int} {p : Prop} (k : p) : keyK (.int i) = true ∧ p := ⟨rfl, k⟩
theorem w_sm {i : Int} {p : Prop} (l : -(4611686018427387904) ≤ i ∧ i < 4611686018427387904) (k : p) : small62 i = true ∧ p := ⟨small62_of l.1 l.2, k⟩
theorem w_lenN {xs : List D} {p : Prop} (l : xs.length ≤ 16777216) (k : p) : xs.length ≤ szl ∧ p := ⟨l, k⟩
theorem w_tr {b : Bool} {p : Prop} (e : b = true) (k : p) : b = true ∧ p := ⟨e, k⟩
section
variable {h : AH} {Q : D → AH → Prop} {X : Nat → D → AH → Prop}
theorem w_sl {c n : Nat} {fs : List (Option D)} {p : Prop} (e : h[n]? = some (.ins c fs)) (k : p) : (slotsOf c h (.loc n)).isSome = true ∧ p := ⟨by rw [slots_at e]; rfl, k⟩
theorem w_slg {c n i : Nat} {d : D} {fs : List (Option D)} {k : D → Prop} (e : h[n]? = some (.ins c fs)) (e2 : (fs[i]?).join = some d) (q : k d) : wP ((slotsOf c h (.loc n)).bind fun fs => (fs[i]?).join) k := wP_some (by rw [slots_at e]; exact e2) q
theorem w_ty {d : D} {t : Ty} {b : Bool} {k : Bool → Prop} (e : isTy h d t = some b) (q : k b) : wP (isTy h d t) k := wP_some e q
theorem w_app {n : Nat} {xs : List D} {p : Prop} (e : h[n]? = some (.lst xs)) (k : p) : methTy .append (.loc n) h = true ∧ p := ⟨t_loc e (.inl rfl), k⟩
theorem w_popT {n : Nat} {xs : List D} {p : Prop} (e : h[n]? = some (.lst xs)) (k : p) : methTy .pop (.loc n) h = true ∧ p := ⟨t_loc e (.inr (.inl rfl)), k⟩
theorem m_wappN {n : Nat} {xs : List D} {v : D} (e : h[n]? = some (.lst xs)) (l : xs.length < 16777216) (k : Q .non (put n (xs ++ [v]) h)) : wR (meth .append (.loc n) [v] h) Q X := m_wapp e l k
theorem w_addtN {m : Bool} {xs ys : List D} (l : xs.length + ys.length ≤ 16777216) (k : Q (.tup (xs ++ ys)) h) : wR (bin2 m .add (.tup xs) (.tup ys) h) Q X := w_addt l k
theorem w_addlN {m : Bool} {xs ys : List D} (l : xs.length + ys.length ≤ 16777216) (k : wR (mk m (xs ++ ys) h) Q X) : wR (bin2 m .add (.lst xs) (.lst ys) h) Q X := w_addl l k
theorem w_dfk {kvs : List (D × D)} {y d : D} {k : D → Prop} (e : dfind kvs y = some d) (q : k d) : wP ((dkvs h (.dct kvs)).bind fun kvs => dfind kvs y) k := wP_some (by rw [dkvs_dct]; exact e) q
theorem w_dgk {kvs : List (D × D)} {y u d : D} {k : D → Prop} (e : (dfind kvs y).getD u = d) (q : k d) : wP ((dkvs h (.dct kvs)).map fun kvs => (dfind kvs y).getD u) k := wP_some (by rw [dkvs_dct]; exact congrArg some e) q
theorem w_dsome {kvs : List (D × D)} {p : Prop} (k : p) : (dkvs h (.dct kvs)).isSome = true ∧ p := ⟨rfl, k⟩
theorem w_dk {kvs : List (D × D)} {k : List (D × D) → Prop} (q : k kvs) : wP (dkvs h (.dct kvs)) k := q
theorem w_srcT {xs : List D} {k : List D → Prop} (q : k xs) : wP (srcItems h (.tup xs)) k := q
theorem w_srcL {xs : List D} {k : List D → Prop} (q : k xs) : wP (srcItems h (.lst xs)) k := q
theorem w_srcH {n : Nat} {xs : List D} {k : List D → Prop} (e : h[n]? = some (.lst xs)) (q : k xs) : wP (srcItems h (.loc n)) k := wP_some (by
  show items h (.loc n) = _
  rw [items_loc, e]
  rfl) q
theorem w_pl {n : Nat} {xs : List D} {i : Int} {v : D} {j : Nat} {k : AH → Prop} (e : h[n]? = some (.lst xs)) (ej : ixN xs.length i = some j) (q : k (put n (xs.set j v) h)) : wP (setIx (.loc n) (.int i) v h) k := wP_some (by rw [setIx_loc, e]; show (ixN xs.length i).map _ = _; rw [ej]; rfl) q
theorem w_mulN {m : Bool} {i j : Int} (c : (smallI i || smallI j) = true) (k : Q (.int (i * j)) h) : wR (bin2 m .mul (.int i) (.int j) h) Q X := w_mulc c k
theorem w_notB {b : Bool} {k : Bool → Prop} (q : k b) : wB (.bl b) k := q
end
end PI
set_option maxRecDepth 100000
set_option maxHeartbeats 1000000
/-! Operators: arities drawn, objects made; generic in the table of defs. -/
namespace PITree
open PI
open PySem (PyData Str)
local macro_rules | `(tactic| walk_at "set") => `(tactic| with_reducible refine wS_n (by simp only [List.set_cons_succ, List.set_cons_zero]; exact rfl) ?_)
local macro_rules | `(tactic| walk_at "one") => `(tactic| first | with_reducible refine x_wcons ?_ | with_reducible refine x_wnil ?_ | with_reducible refine x_wasg ?_ | with_reducible refine t_varN ?_ | walk_at "set" | with_reducible refine w_var (by with_unfolding_all exact rfl) ?_ | with_reducible refine w_cst ?_ | with_reducible refine w_bin ?_ | with_reducible refine w_cmp ?_ | with_reducible refine w_call ?_ | with_reducible refine w_cons ?_ | with_reducible refine w_nil ?_ | with_reducible refine w_prim ?_ | with_reducible refine wB_b ?_ | with_reducible refine wI_t ?_ | with_reducible refine wI_f ?_ | with_reducible refine wI_n ?_ | with_reducible refine wN_i ?_ | with_reducible refine x_wcond ?_ | with_reducible refine x_wret ?_ | with_reducible refine x_wexpr ?_ | with_reducible refine x_wpar ?_ | with_reducible refine sa_consN ?_ | with_reducible refine sa_nil ?_ | with_reducible refine w_add ?_ | with_reducible refine w_sub ?_ | with_reducible refine c_wlt ?_ | with_reducible refine c_wle ?_ | with_reducible refine c_weq ?_ | with_reducible refine c_wne ?_ | with_reducible refine c_wgt ?_ | with_reducible refine c_wge ?_ | with_reducible refine c_weqs ?_ | with_reducible refine c_wnes ?_ | with_reducible refine w_idx ?_ | with_reducible refine w_not ?_ | with_reducible refine w_andE ?_ | with_reducible refine w_orE ?_ | with_reducible refine w_ite ?_ | with_reducible refine w_cmp2 ?_ | with_reducible refine w_tup ?_ | with_reducible refine w_lst ?_ | with_reducible refine w_len (by with_unfolding_all exact rfl) ?_ | with_reducible refine w_mk ?_ | with_reducible refine w_mkt ?_ | with_reducible refine w_slice ?_ | with_reducible refine wOpt_n ?_ | with_reducible refine wOpt_s ?_ | with_reducible refine s_wtup ?_ | with_reducible refine s_wlst ?_ | with_reducible refine w_meth ?_ | with_reducible refine w_app (by assumption) ?_ | with_reducible refine w_popT (by assumption) ?_ | with_reducible refine w_isi ?_ | with_reducible refine w_ty (by with_unfolding_all exact rfl) ?_ | with_reducible refine w_neg ?_ | with_reducible refine w_dix ?_ | with_reducible refine w_dget ?_ | with_reducible refine w_din ?_ | with_reducible refine w_dsome ?_ | with_reducible refine w_dk ?_ | with_reducible refine w_slot ?_ | with_reducible refine w_ownm ?_ | with_reducible refine w_ownp ?_ | with_reducible refine w_ownl ?_ | with_reducible refine w_owns ?_ | with_reducible refine w_owni ?_ | with_reducible refine w_ownn ?_ | with_reducible refine w_sl (by assumption) ?_ | with_reducible refine w_slg (by assumption) (by with_unfolding_all exact rfl) ?_ | with_reducible refine w_fstr ?_ | with_reducible refine p_wlenT ?_ | with_reducible refine p_wlenL ?_ | with_reducible refine p_wlenD ?_ | with_reducible refine p_wlenH (by assumption) ?_ | with_reducible refine p_wmax ?_ | with_reducible refine p_wmin ?_ | with_reducible refine p_wtupL ?_ | with_reducible refine p_wtupH (by assumption) ?_ | with_reducible refine p_wlistT ?_ | with_reducible refine p_wlistL ?_ | with_reducible refine x_wbrk ?_ | with_reducible refine x_wcont ?_ | with_reducible refine x_wpass ?_ | with_reducible refine x_wretN ?_ | with_reducible refine x_waugN (by with_unfolding_all exact rfl) ?_ | with_reducible refine x_wraise ?_ | with_reducible refine x_wtry ?_ | with_reducible refine x_weach ?_ | with_reducible refine x_wrng1 ?_ | with_reducible refine x_wrng2 ?_ | with_reducible refine x_wrng3 ?_ | with_reducible refine w_srcT ?_ | with_reducible refine w_srcL ?_ | with_reducible refine w_srcH (by assumption) ?_ | with_reducible refine wO_seq ?_ | with_reducible refine t_tup rfl ?_ | with_reducible refine t_cons ?_ | with_reducible refine t_nil ?_ | with_reducible refine t_idx ?_ | with_reducible refine t_dix ?_ | with_reducible refine t_slot ?_ | with_reducible refine w_newo ?_ | with_reducible refine w_mkD ?_ | with_reducible refine w_mkDt ?_ | with_reducible refine w_dct0 ?_ | with_reducible refine w_tr (by with_unfolding_all exact rfl) ?_)
local macro_rules | `(tactic| walk_at "pi") => `(tactic| repeat walk_at "one")
local macro_rules | `(tactic| walk_at "def") => `(tactic| (simp only [List.map_cons, List.map_nil, List.cons_append, List.nil_append, List.length_cons, List.length_nil, Nat.reduceAdd, Nat.reduceSub, List.replicate]))
local macro_rules | `(tactic| walk_at "len") => `(tactic| first | omega | (simp only [List.length_map, List.length_append, List.length_cons, List.length_nil]; omega))

theorem sok_good {n k : Nat} {s : Str} (g : Good n k (.str s)) : sOk s := g.of_str.2

theorem gl_of {n k : Nat} {xs : List D} (g : Good n k (.tup xs)) : Gl n k xs := by
  obtain ⟨p, a, b, c, d, e, w⟩ := g
  simp only [toP] at a
  cases e1 : toPs xs with
  | none => rw [e1] at a; cases a
  | some ps =>
    rw [e1] at a
    cases a
    simp only [PyData.depth] at e
    exact ⟨ps, e1, by simpa only [PyData.canLay0] using b, by simpa only [PyData.intsShort] using c, by simpa only [PyData.showable] using d, by omega, by simpa only [PyData.weight] using w⟩

theorem cons_all {p : D → Prop} {a : D} {l : List D} (h : p a) (t : ∀ x ∈ l, p x) : ∀ x ∈ a :: l, p x := fun x hx => (List.mem_cons.mp hx).elim (fun e => e ▸ h) (t x)
theorem nil_all {p : D → Prop} : ∀ x ∈ ([] : List D), p x := fun _ h => (List.not_mem_nil h).elim

def NM : List Str := ["c", "v", "p", "s", "add", "operator", "aa", "z", "op", "goal"]
structure Ari (ar : Ar) : Prop where
  nd : (ar.map (·.1)).Nodup
  nm : ∀ p ∈ ar, p.1 ∈ NM
  ari : ∀ p ∈ ar, 0 ≤ p.2 ∧ p.2 ≤ 2
  leaf : ∃ p ∈ ar, p.2 = 0
  len : ar.length ≤ 8
def srt (ar : Ar) : List Str := sortS (ar.map (·.1))
theorem strK_kv : ∀ ar : Ar, strK (kvD ar) = some (ar.map (·.1))
  | [] => rfl
  | p :: r => by
    show (strK (kvD r)).map (fun t => p.1 :: t) = _
    rw [strK_kv r]
    rfl
theorem p_sorted {m : Bool} {ar : Ar} {h : AH} (hl : ar.length ≤ 8) : prim m .sorted [.dct (kvD ar)] h = mk m ((srt ar).map D.str) h := by
  show (match (dkvs h (.dct (kvD ar))).bind strK with
    | some ks => if decide (ks.length < 64) then mk m ((sortS ks).map D.str) h else .fail
    | none => .fail) = _
  have : (dkvs h (.dct (kvD ar))).bind strK = some (ar.map (·.1)) := strK_kv ar
  rw [this]
  dsimp only
  rw [if_pos (decide_eq_true (by rw [List.length_map]; omega))]
  rfl
theorem srt_mem {ar : Ar} {s : Str} : s ∈ srt ar ↔ ∃ i, (s, i) ∈ ar := by
  unfold srt
  rw [(sortS_perm _).mem_iff, List.mem_map]
  constructor
  · rintro ⟨p, hp, rfl⟩; exact ⟨p.2, hp⟩
  · rintro ⟨i, hi⟩; exact ⟨_, hi, rfl⟩
theorem word_good : ∀ s ∈ NM, Good 0 8 (.str s) := by
  intro s hs
  have : NM.all (fun s => decide (s.length ≤ 8) && s.cps.toList.all fun c => decide (c < 0x110000)) = true := by decide +kernel
  have := List.all_eq_true.mp this s hs
  simp only [Bool.and_eq_true, decide_eq_true_eq, List.all_eq_true] at this
  exact good_str this.1 this.2
theorem hole_good : Good 0 8 (.str "_") := good_str (by decide +kernel) (by decide +kernel)
/-! ### near rows -/

theorem e_dix_kv {F : Fn} {ρ : Rho} {h : AH} {ar : Ar} {a b : E} {s : Str} {i : Int} (ha : evE F a ρ h = .ok (.dct (kvD ar)) h) (hb : evE F b ρ h = .ok (.str s) h) (hg : gt ar s = some i) : evE F (.dix a b) ρ h = .ok (.int i) h := by
  rw [e_dix, ha, bind_ok, hb, bind_ok]
  have : (dkvs h (.dct (kvD ar))).bind (fun kvs => dfind kvs (.str s)) = some (.int i) := by
    show dfind (kvD ar) (.str s) = _
    rw [dfind_kv, hg]
    rfl
  rw [this]
  rfl

section
variable {h : AH} {ar : Ar}
def csts (ar : Ar) : List Str := (srt ar).filter fun s => decide (gt ar s = some 0)
abbrev eC : E := .comp false 8 (.var 5) (some (.cmp .eq (.dix (.var 1) (.var 8)) (.cst (.int 0)))) (.var 8)
theorem gt_at (A : Ari ar) {s : Str} (hs : s ∈ srt ar) : ∃ i, gt ar s = some i ∧ 0 ≤ i ∧ i ≤ 2 := by
  obtain ⟨i, hi⟩ := srt_mem.mp hs
  exact ⟨i, gt_of A.nd hi, A.ari _ hi⟩
theorem srt_len (A : Ari ar) : (srt ar).length ≤ 8 := by
  unfold srt
  rw [(sortS_perm _).length_eq, List.length_map]
  exact A.len
theorem csts_ne (A : Ari ar) : csts ar ≠ [] := by
  obtain ⟨⟨s, i⟩, hp, e⟩ := A.leaf
  have e : i = 0 := e
  subst e
  intro z
  have : s ∈ csts ar := List.mem_filter.mpr ⟨srt_mem.mpr ⟨0, hp⟩, decide_eq_true (gt_of A.nd hp)⟩
  rw [z] at this
  cases this
theorem srt_ne (A : Ari ar) : srt ar ≠ [] := fun z => csts_ne A (by unfold csts; rw [z]; rfl)
/-- [name for name in names if arities[name] == 0] -/
theorem csts_ok (A : Ari ar) {F : Fn} {v k di si : Nat} {ρ : Rho} (h1 : ρ[di]? = some (some (.dct (kvD ar)))) (h5 : ρ[si]? = some (some (.lst ((srt ar).map D.str)))) (hv : v < ρ.length) (n1 : di ≠ v) (n2 : si ≠ v) :
    evE F (.comp false v (.var si) (some (.cmp .eq (.dix (.var di) (.var v)) (.cst (.int 0)))) (.var v)) ρ h = .ok (.lst ((csts ar).map D.str)) h := by
  have hz : ((srt ar).map D.str).length ≤ szl := by rw [List.length_map]; have := srt_len A; show _ ≤ 16777216; omega
  have es : evE F (.var si) ρ h = .ok (.lst ((srt ar).map D.str)) h := by rw [e_var, h5]
  have := e_compF (m := false) (i := v) (elt := .var v) (c := .cmp .eq (.dix (.var di) (.var v)) (.cst (.int 0))) (fun x => match x with
    | .str s => decide (gt ar s = some 0)
    | _ => false) (fun x => x) (s := .lst ((srt ar).map D.str)) (xs := (srt ar).map D.str) es rfl (fun x hx => by
      obtain ⟨s, hs, rfl⟩ := List.mem_map.mp hx
      obtain ⟨i, hg, _⟩ := gt_at A hs
      have q := e_dix_kv (F := F) (ρ := ρ.set v (some (.str s))) (h := h) (ar := ar) (a := .var di) (b := .var v) (s := s) (i := i) (by rw [e_var, List.getElem?_set_ne (Ne.symm n1), h1]) (by rw [e_var, List.getElem?_set_self hv]) hg
      rw [e_cmp, q, bind_ok, e_cst, bind_ok, c_eqi, blR_some]
      dsimp only
      rw [hg]
      congr 2
      by_cases z : i = 0
      · simp [z]
      · simp [z]) (fun x hx => by rw [e_var, List.getElem?_set_self hv]) hz
  rw [this, map_id', List.filter_map]
  rfl
end

theorem perm_inv {α β : Type} {f : α → β} {g : β → α} (hg : ∀ a, g (f a) = a) {ys : List β} {xs : List α} (p : ys.Perm (xs.map f)) : ∃ zs : List α, ys = zs.map f ∧ zs.Perm xs := by
  refine ⟨ys.map g, ?_, ?_⟩
  · rw [List.map_map]
    symm
    have : ∀ l : List β, (∀ y ∈ l, y ∈ xs.map f) → l.map (f ∘ g) = l := by
      intro l hl
      induction l with
      | nil => rfl
      | cons y t ih =>
        obtain ⟨a, _, e⟩ := List.mem_map.mp (hl y (List.mem_cons_self))
        rw [List.map_cons, ih fun z hz => hl z (List.mem_cons_of_mem _ hz)]
        show f (g y) :: t = _
        rw [← e, hg]
    exact this ys fun y hy => p.mem_iff.mp hy
  · have := p.map g
    rw [List.map_map] at this
    have e : xs.map (g ∘ f) = xs := by
      rw [show g ∘ f = id from funext hg, List.map_id]
    rw [e] at this
    exact this
def wd : D → Str
  | .str s => s
  | _ => ""
def pr : D → Str × Int
  | .tup [.str s, .int i] => (s, i)
  | _ => ("", 0)
theorem dfind_fresh {ar : Ar} {s : Str} (h : s ∉ ar.map (·.1)) : dfind (kvD ar) (.str s) = none := by
  rw [dfind_kv, gt_none fun i hi => h (List.mem_map.mpr ⟨_, hi, rfl⟩)]
  rfl
theorem dput_fresh {ar : Ar} {s : Str} {i : Int} (h : s ∉ ar.map (·.1)) : dput (kvD ar) (.str s) (.int i) = kvD (ar ++ [(s, i)]) := by
  unfold dput
  rw [dfind_fresh h]
  show kvD ar ++ [(.str s, .int i)] = _
  unfold kvD
  rw [List.map_append]
  rfl
theorem merge_kv : ∀ (br ar : Ar), ((ar ++ br).map (·.1)).Nodup → mergeD (kvD ar) (kvD br) = kvD (ar ++ br)
  | [], ar, _ => by rw [List.append_nil]; rfl
  | p :: r, ar, nd => by
    have e : ar ++ p :: r = (ar ++ [p]) ++ r := by rw [List.append_assoc]; rfl
    have hp : p.1 ∉ ar.map (·.1) := by
      rw [List.map_append, List.map_cons, List.nodup_append] at nd
      intro h
      exact nd.2.2 _ h _ (List.mem_cons_self) rfl
    show mergeD (dput (kvD ar) (.str p.1) (.int p.2)) (kvD r) = _
    rw [dput_fresh hp, e, merge_kv r (ar ++ [p]) (by rw [← e]; exact nd)]
theorem merge_nil {ar : Ar} (nd : (ar.map (·.1)).Nodup) : mergeD [] (kvD ar) = kvD ar := merge_kv ar [] nd
theorem pairs_kv (ar : Ar) : pairsD ((kvD ar).map pairT) = some (kvD ar) := pairsD_map fun p hp => by
  obtain ⟨q, _, rfl⟩ := List.mem_map.mp hp
  rfl
theorem Dice.set {h : AH} {a n : Nat} {m : Int} {o : AO} (d : Dice h a m) (ne : n ≠ a) : Dice (h.set n o) a m := by
  obtain ⟨x, y, z, e, r⟩ := d
  exact ⟨x, y, z, by rw [List.getElem?_set_ne ne]; exact e, r⟩
theorem e_dct_one {F : Fn} {ρ : Rho} {h h1 h2 : AH} {m : Bool} {a b : E} {s : Str} {v : D} (ha : evE F a ρ h = .ok (.str s) h1) (hb : evE F b ρ h1 = .ok v h2) : evE F (.dct m [a] [b]) ρ h = mkD m [(.str s, v)] h2 := by
  have : evE F (.dct m [a] [b]) ρ h = ((evEs F [a] ρ h).nox).bind fun xs h1 => ((evEs F [b] ρ h1).nox).bind fun ys h2 =>
      if xs.all keyD then (Res.of (zipD xs ys) h2).bind fun kvs h3 => mkD m (mergeD [] kvs) h3 else .fail := rfl
  rw [this, e_cons, ha, bind_ok, e_nil, bind_ok, nox_val, bind_ok, e_cons, hb, bind_ok, e_nil, bind_ok, nox_val, bind_ok]
  rfl
theorem a_dix {F : Fn} {ρ : Rho} {h : AH} {o k : E} {d : D} : asT F (.dix o k) d ρ h = (evE F o ρ h).out ρ fun x h1 => (evE F k ρ h1).out ρ fun y h2 => putR (setDx x y d h2) ρ := by
  refine ocong (x := evE F o ρ h) fun x h1 => ocong (x := evE F k ρ h1) fun y h2 => ?_
  cases setDx x y d h2 <;> rfl
theorem set_dx {h : AH} {c : Nat} {kvs : List (D × D)} {s : Str} {v : D} (hc : h[c]? = some (.dct kvs)) (hl : kvs.length < szl) : setDx (.loc c) (.str s) v h = some (h.set c (.dct (dput kvs (.str s) v))) := by
  have : setDx (.loc c) (.str s) v h = (match h[c]? with
    | some (.dct kvs) => if keyK (.str s) && decide (kvs.length < szl) then some (h.set c (.dct (dput kvs (.str s) v))) else none
    | _ => none) := rfl
  rw [this, hc]
  dsimp only
  rw [if_pos (by rw [decide_eq_true hl]; rfl)]

section
variable {ar : Ar}
theorem word_all {us : List Str} (A : Ari ar) (hu : ∀ u ∈ us, u ∈ srt ar) : Gl 2 (9 * us.length) (us.map D.str) := by
  have := Gl.all (n := 2) (k := 8) (xs := us.map D.str) (fun x hx => by
    obtain ⟨s, hs, rfl⟩ := List.mem_map.mp hx
    obtain ⟨i, hi⟩ := srt_mem.mp (hu s hs)
    exact (word_good _ (A.nm _ hi)).mono (by omega) (Nat.le_refl _))
  rwa [List.length_map] at this
end

abbrev eNM : E := .lst false [.cst (.str "c"), .cst (.str "v"), .cst (.str "p"), .cst (.str "s"), .cst (.str "add"), .cst (.str "operator"), .cst (.str "aa"), .cst (.str "z"), .cst (.str "op"), .cst (.str "goal")]
abbrev eSl (iR : Nat) : E := .slice false (.var 1) (some (.cst (.int 1))) (some (.bin false .add (.cst (.int 1)) (.call iR [.var 0, .cst (.int 4)])))
abbrev l15 (iR : Nat) : List S := [.asg (.dix (.var 2) (.var 3)) (.call iR [.var 0, .cst (.int 3)])]
def bAr (iR iM : Nat) : List S := [.asg (.var 1) (.call iM [.var 0, eNM]), .asg (.var 2) (.dct true [.idx (.var 1) (.cst (.int 0))] [.cst (.int 0)]), .each (.var 3) (eSl iR) (l15 iR), .ret (.prim false .dict [.call iM [.var 0, .ditems false (.var 2)]])]
theorem bAr_eq {iR iM : Nat} : bAr iR iM = [.asg (.var 1) (.call iM [.var 0, eNM]), .asg (.var 2) (.dct true [.idx (.var 1) (.cst (.int 0))] [.cst (.int 0)]), .each (.var 3) (eSl iR) (l15 iR), .ret (.prim false .dict [.call iM [.var 0, .ditems false (.var 2)]])] := rfl
section
variable {P : List FnDecl} {N : Nat} {h : AH} {ar : Ar} {iR iM iA : Nat}
theorem drawn_ar (hR : P[iR]? = some ⟨2, 5, bRoll⟩) (hM : P[iM]? = some ⟨2, 5, bMixed iR⟩) (hA : P[iA]? = some ⟨1, 4, bAr iR iM⟩) {a : Nat} {m : Int} (dc : Dice h a m) (hm : m < 2 ^ 38) (hm0 : 0 ≤ m) : ∃ ar h', run P (N + 3) iA [.loc a] h = .ok (.dct (kvD ar)) h' ∧ Ari ar ∧ Dice h' a (m + 40) ∧ Frame a h h' := by
  have ha := dc.lt
  obtain ⟨k1, h1, ys, e1, q1, p1, d1, f1, n1, n2, n3, n4, _⟩ := mixed_ok2 hR hM N (d := .lst (NM.map D.str)) (xs := NM.map D.str) dc (by rw [List.length_map]; show m + 10 < _; omega) hm0 (by intro s z; cases z) (by intro s z; cases z) (fun _ => rfl) (by decide)
  have d1 : Dice h1 a (m + 10) := d1
  obtain ⟨ts, et, pt⟩ := perm_inv (f := D.str) (g := wd) (fun _ => rfl) p1
  subst et
  have lt10 : ts.length = 10 := pt.length_eq
  have ndt : ts.Nodup := pt.nodup_iff.mpr (by decide +kernel)
  obtain ⟨t0, tr, ett⟩ : ∃ t0 tr, ts = t0 :: tr := by
    cases ts with
    | nil => cases lt10
    | cons a b => exact ⟨a, b, rfl⟩
  obtain ⟨c, ec⟩ : ∃ c, c = h1.length := ⟨_, rfl⟩
  obtain ⟨H, eH⟩ : ∃ H : AH, H = h1 ++ [.dct (kvD [(t0, 0)])] := ⟨_, rfl⟩
  have dH : Dice H a (m + 10) := by rw [eH]; exact d1.push _
  have fH : Frame a h H := by rw [eH]; exact f1.trans (Frame.push a h1 _)
  have qH : H[k1]? = some (.lst (ts.map D.str)) := by rw [eH, List.getElem?_append_left (by omega)]; exact q1
  have cH : H[c]? = some (.dct (kvD [(t0, 0)])) := by rw [eH, ec]; simp
  have lH : c < H.length := by rw [eH, ec]; simp
  obtain ⟨r, h2, e2, r0, r1, d2, f2, l2⟩ := roll_ok hR (N + 1) (t := 4) dH (by omega) (by omega) (by decide)
  have q2 : h2[k1]? = some (.lst (ts.map D.str)) := by rw [f2.same k1 n1 (by omega)]; exact qH
  have c2 : h2[c]? = some (.dct (kvD [(t0, 0)])) := by rw [f2.same c (by omega) lH]; exact cH
  obtain ⟨L, eL, L1, L2⟩ : ∃ L : List Str, PI.cutL (ts.map D.str) (some 1) (some (1 + r)) = L.map D.str ∧ L.length ≤ 3 ∧ L.Sublist tr := by
    refine ⟨(ts.drop (HT.sIx (ts.map D.str).length 0 (some 1))).take (HT.sIx (ts.map D.str).length (ts.map D.str).length (some (1 + r)) - HT.sIx (ts.map D.str).length 0 (some 1)), ?_, ?_, ?_⟩
    · unfold PI.cutL
      rw [List.map_take, List.map_drop]
    · have s1 : HT.sIx (ts.map D.str).length 0 (some 1) = 1 := by
        rw [List.length_map, lt10]
        rfl
      have s2 : HT.sIx (ts.map D.str).length (ts.map D.str).length (some (1 + r)) ≤ 4 := by
        rw [List.length_map, lt10]
        show (if 1 + r < 0 then (1 + r + (10 : Nat)).toNat else min (1 + r).toNat 10) ≤ 4
        rw [if_neg (by omega)]
        omega
      rw [List.length_take, s1]
      omega
    · have s1 : HT.sIx (ts.map D.str).length 0 (some 1) = 1 := by
        rw [List.length_map, lt10]
        rfl
      rw [s1, ett]
      exact List.take_sublist _ _
  have ndL : (t0 :: L).Nodup := by
    rw [ett, List.nodup_cons] at ndt
    rw [List.nodup_cons]
    exact ⟨fun z => ndt.1 (L2.subset z), ndt.2.sublist L2⟩
  have inNM : ∀ s ∈ t0 :: L, s ∈ NM := by
    intro s hs
    refine pt.mem_iff.mp ?_
    rw [ett]
    rcases List.mem_cons.mp hs with rfl | hs
    · exact List.mem_cons_self
    · exact List.mem_cons_of_mem _ (L2.subset hs)
  obtain ⟨ρ', h3, e3, acc, o3, rfl, g1, g2, g3, g4, g5, g6, g7⟩ := goF_inv (g := fun x ρ1 h2 => (asT (run P (N + 2)) (.var 3) x ρ1 h2).bind fun ρ2 h3 => evSs (run P (N + 2)) (l15 iR) ρ2 h3) (st := still (L.map D.str) (.lst (L.map D.str))) (xs := L.map D.str)
    (ρ := [some (.loc a), some (.loc k1), some (.loc c), none]) (h := h2)
    (fun i ρ h' => ∃ (acc : Ar) (o3 : Option D), ρ = [some (.loc a), some (.loc k1), some (.loc c), o3] ∧ h'[c]? = some (.dct (kvD acc)) ∧ acc.map (·.1) = t0 :: L.take i ∧ (∀ p ∈ acc, 0 ≤ p.2 ∧ p.2 ≤ 2) ∧ (t0, 0) ∈ acc ∧ Dice h' a (m + 11 + i) ∧ Frame a h h' ∧ c < h'.length)
    ⟨[(t0, 0)], none, rfl, c2, rfl, fun p hp => by
      have : p = (t0, 0) := by simpa using hp
      subst this
      exact ⟨Int.le_refl _, (by decide : (0 : Int) ≤ 2)⟩, List.mem_cons_self, d2.mono (by omega), fH.trans f2, by omega⟩ (fun _ _ _ _ _ => rfl) (by
      rintro i ρ hh x ⟨acc, o3, rfl, g1, g2, g3, g4, g5, g6, g7⟩ hx
      have il : i < (L.map D.str).length := (List.getElem?_eq_some_iff.mp hx).1
      rw [List.length_map] at il
      rw [List.getElem?_map, List.getElem?_eq_getElem il] at hx
      cases hx
      obtain ⟨w, h4, e4, w0, w1, d4, f4, l4⟩ := roll_ok hR (N + 1) (t := 3) g5 (by omega) (by omega) (by decide)
      have c4 : h4[c]? = some (.dct (kvD acc)) := by rw [f4.same c (by omega) g7]; exact g1
      have la : acc.length ≤ 8 := by
        have := congrArg List.length g2
        rw [List.length_map, List.length_cons, List.length_take] at this
        omega
      have fresh : L[i] ∉ acc.map (·.1) := by
        rw [g2]
        have hn := ndL
        rw [List.nodup_cons] at hn
        intro z
        rcases List.mem_cons.mp z with z | z
        · exact hn.1 (z ▸ List.getElem_mem il)
        · obtain ⟨j, hj, ej⟩ := List.getElem_of_mem z
          rw [List.length_take] at hj
          rw [List.getElem_take] at ej
          have := (List.getElem_inj hn.2).mp ej
          omega
      refine ⟨[some (.loc a), some (.loc k1), some (.loc c), some (.str L[i])], h4.set c (.dct (kvD (acc ++ [(L[i], w)]))), .inl ?_, acc ++ [(L[i], w)], _, rfl, ?_, ?_, fun p hp => ?_, List.mem_append_left _ g4, (Dice.set d4 (by omega)).mono (by omega), ?_, by rw [List.length_set]; omega⟩
      · rw [a_var, obind_next]
        simp only [List.set_cons_succ, List.set_cons_zero]
        have s1 : evE (run P (N + 2)) (.call iR [.var 0, .cst (.int 3)]) [some (.loc a), some (.loc k1), some (.loc c), some (.str L[i])] hh = .ok (.int w) h4 := by
          simp only [e_call, e_cons, e_nil, e_cst, e_var, List.getElem?_cons_zero, List.getElem?_cons_succ, bind_ok, e4]
        rw [x_cons, x_asg, s1, out_ok, a_dix]
        simp only [e_var, List.getElem?_cons_zero, List.getElem?_cons_succ, out_ok]
        rw [set_dx c4 (by unfold kvD; rw [List.length_map]; show _ < 16777216; omega), dput_fresh fresh, putR_some, obind_next, x_nil]
      · exact List.getElem?_set_self (by omega)
      · rw [List.map_append, g2, List.cons_append]
        congr 1
        exact (List.take_append_getElem il)
      · rcases List.mem_append.mp hp with hp | hp
        · exact g3 p hp
        · have : p = (L[i], w) := by simpa using hp
          subst this
          exact ⟨w0, by omega⟩
      · refine ⟨by rw [List.length_set]; exact Nat.le_trans g6.len (by omega), fun n hn hl => ?_⟩
        rw [List.getElem?_set_ne (by omega), f4.same n hn (Nat.lt_of_lt_of_le hl g6.len)]
        exact g6.same n hn hl)
  rw [List.length_map] at g2 g5
  rw [List.take_length] at g2
  have lacc : acc.length ≤ 4 := by
    have := congrArg List.length g2
    rw [List.length_map, List.length_cons] at this
    omega
  have ndacc : (acc.map (·.1)).Nodup := by rw [g2]; exact ndL
  obtain ⟨k5, h5, zs, e5, q5, p5, d5, f5, n5, _⟩ := mixed_ok2 hR hM N (d := .lst ((kvD acc).map pairT)) (xs := (kvD acc).map pairT) g5 (by unfold kvD; rw [List.length_map, List.length_map]; omega) (by omega) (by intro s z; cases z) (by intro s z; cases z) (fun _ => rfl) (by unfold kvD; rw [List.length_map, List.length_map]; show _ < 16777216; omega)
  have p5 : zs.Perm (acc.map fun p => pairT (.str p.1, .int p.2)) := by
    unfold kvD at p5
    rw [List.map_map] at p5
    exact p5
  obtain ⟨br, eb, pb⟩ := perm_inv (f := fun p : Str × Int => pairT (.str p.1, .int p.2)) (g := pr) (fun _ => rfl) p5
  have ez : zs = (kvD br).map pairT := by
    rw [eb]
    unfold kvD
    rw [List.map_map]
    rfl
  have ndb : (br.map (·.1)).Nodup := (pb.map _).nodup_iff.mpr ndacc
  have ld : ((kvD acc).map pairT).length ≤ 4 := by unfold kvD; rw [List.length_map, List.length_map]; exact lacc
  refine ⟨br, h5, ?_, ⟨ndb, fun p hp => ?_, fun p hp => g3 p (pb.mem_iff.mp hp), ⟨(t0, 0), pb.mem_iff.mpr g4, rfl⟩, by rw [pb.length_eq]; omega⟩, d5.mono (by omega), g6.trans f5⟩
  · rw [run_def hA (N + 2) rfl]
    have s1 : evE (run P (N + 2)) (.call iM [.var 0, eNM]) [some (.loc a), none, none, none] h = .ok (.loc k1) h1 := by
      have e0 : evE (run P (N + 2)) eNM [some (.loc a), none, none, none] h = .ok (.lst (NM.map D.str)) h := rfl
      rw [e_call, e_cons, e_var]
      simp only [List.getElem?_cons_zero, bind_ok]
      rw [e_cons, e0, bind_ok, e_nil, bind_ok, bind_ok, bind_ok, e1]
    have s2 : evE (run P (N + 2)) (.dct true [.idx (.var 1) (.cst (.int 0))] [.cst (.int 0)]) [some (.loc a), some (.loc k1), none, none] h1 = .ok (.loc c) H := by
      have s0 : evE (run P (N + 2)) (.idx (.var 1) (.cst (.int 0))) [some (.loc a), some (.loc k1), none, none] h1 = .ok (.str t0) h1 := by
        simp only [e_idx, e_var, e_cst, List.getElem?_cons_zero, List.getElem?_cons_succ, bind_ok, index_loc, q1, listAt_some, Option.bind_some]
        rw [ixN_ok (Int.le_refl _) (by rw [List.length_map, lt10]; decide), ett]
        rfl
      rw [e_dct_one s0 e_cst, ec, eH]
      rfl
    have s3 : evE (run P (N + 2)) (eSl iR) [some (.loc a), some (.loc k1), some (.loc c), none] H = .ok (.lst (L.map D.str)) h2 := by
      have sl : slice false (.loc k1) (some 1) (some (1 + r)) h2 = .ok (.lst (L.map D.str)) h2 := by
        show (match litems h2 (.loc k1) with
          | some xs => mk false (PI.cutL xs (some 1) (some (1 + r))) h2
          | none => .fail) = _
        have : litems h2 (.loc k1) = some (ts.map D.str) := by
          show (match h2[k1]? with
            | some (.lst xs) => some xs
            | _ => none) = _
          rw [q2]
        rw [this]
        dsimp only
        rw [eL]
        rfl
      simp only [e_slice, e_bin, e_call, e_cons, e_nil, e_var, e_cst, List.getElem?_cons_zero, List.getElem?_cons_succ, bind_ok, o_some, optD_int, e2, b_add, sl]
    have r2 := x_each (F := run P (N + 2)) (t := .var 3) (b := (l15 iR)) (ρ := [some (.loc a), some (.loc k1), some (.loc c), none]) (s := .lst (L.map D.str)) (xs := L.map D.str) s3 rfl
    rw [e3] at r2
    have s4 : evE (run P (N + 2)) (.prim false .dict [.call iM [.var 0, .ditems false (.var 2)]]) [some (.loc a), some (.loc k1), some (.loc c), o3] h3 = .ok (.dct (kvD br)) h5 := by
      have e0 : evE (run P (N + 2)) (.ditems false (.var 2)) [some (.loc a), some (.loc k1), some (.loc c), o3] h3 = .ok (.lst ((kvD acc).map pairT)) h3 := by
        show (match h3[c]? with
          | some (.dct kvs) => mk false (kvs.map fun p : D × D => D.tup [p.1, p.2]) h3
          | _ => Res.fail) = _
        rw [g1]
        rfl
      have ep : prim false .dict [.loc k5] h5 = .ok (.dct (kvD br)) h5 := by
        have k0 : prim false .dict [.loc k5] h5 = (match dkvs h5 (.loc k5) with
          | some kvs => mkD false kvs h5
          | none => match (litems h5 (.loc k5)).bind pairsD with
            | some kvs => mkD false (mergeD [] kvs) h5
            | none => .fail) := rfl
        have k1' : dkvs h5 (.loc k5) = none := by
          have : look h5 (.loc k5) = .lst zs := by
            show (match h5[k5]? with
              | some (.lst xs) => D.lst xs
              | some (.dct kvs) => .dct kvs
              | _ => .loc k5) = _
            rw [q5]
          unfold dkvs
          rw [this]
        have k2 : (litems h5 (.loc k5)).bind pairsD = some (kvD br) := by
          have : litems h5 (.loc k5) = some zs := by
            show (match h5[k5]? with
              | some (.lst xs) => some xs
              | _ => none) = _
            rw [q5]
          rw [this, ez]
          exact pairs_kv br
        rw [k0, k1']
        dsimp only
        rw [k2]
        dsimp only
        rw [merge_nil ndb]
        rfl
      rw [e_prim, e_cons, e_call, e_cons, e_var]
      simp only [List.getElem?_cons_zero, bind_ok]
      rw [e_cons, e0, bind_ok, e_nil, bind_ok, bind_ok, bind_ok, e5, bind_ok, e_nil, bind_ok, bind_ok, ep]
    have e0 : evSs (run P (N + 2)) (bAr iR iM) [some (.loc a), none, none, none] h = .ret (.dct (kvD br)) h5 := by
      rw [bAr_eq, x_cons, x_asg, s1, out_ok, a_var, obind_next]
      simp only [List.set_cons_succ, List.set_cons_zero]
      rw [x_cons, x_asg, s2, out_ok, a_var, obind_next]
      simp only [List.set_cons_succ, List.set_cons_zero]
      rw [x_cons, r2, obind_next, x_cons, x_ret, s4, out_ok, obind_ret]
    exact congrArg endR e0
  · have hp := pb.mem_iff.mp hp
    have : p.1 ∈ acc.map (·.1) := List.mem_map.mpr ⟨p, hp, rfl⟩
    rw [g2] at this
    exact inNM _ this
end

/-- an object of class 0 at p, made of these arities -/
structure Ops (h : AH) (p : Nat) (sr : Ar) (ls : List D) : Prop where
  at_ : h[p]? = some (.ins 0 [some (.dct (kvD sr)), some (.tup ls)])

theorem Ops.push {h : AH} {p : Nat} {sr : Ar} {ls : List D} (o : Ops h p sr ls) (l : AH) : Ops (h ++ l) p sr ls :=
  ⟨by rw [List.getElem?_append_left (List.getElem?_eq_some_iff.mp o.at_).1]; exact o.at_⟩
theorem Ops.frame {h h' : AH} {a p : Nat} {sr : Ar} {ls : List D} (o : Ops h p sr ls) (f : Frame a h h') (ne : p ≠ a) : Ops h' p sr ls :=
  ⟨by rw [f.same p ne (List.getElem?_eq_some_iff.mp o.at_).1]; exact o.at_⟩
theorem Ops.lt {h : AH} {p : Nat} {sr : Ar} {ls : List D} (o : Ops h p sr ls) : p < h.length := (List.getElem?_eq_some_iff.mp o.at_).1
theorem Ops.set {h : AH} {p q : Nat} {x : AO} {sr : Ar} {ls : List D} (o : Ops h p sr ls) (ne : q ≠ p) : Ops (h.set q x) p sr ls :=
  ⟨by rw [List.getElem?_set_ne ne]; exact o.at_⟩
/-- what an object of these arities keeps -/
def sr (ar : Ar) : Ar := (srt ar).map fun s => (s, (gt ar s).getD 0)
theorem srt_nd {ar : Ar} (A : Ari ar) : (srt ar).Nodup := (sortS_perm _).nodup_iff.mpr A.nd
theorem sr_keys {ar : Ar} : (sr ar).map (·.1) = srt ar := by
  unfold sr
  rw [List.map_map]
  exact List.map_id _
theorem sr_nd {ar : Ar} (A : Ari ar) : ((sr ar).map (·.1)).Nodup := by rw [sr_keys]; exact srt_nd A
theorem gt_sr {ar : Ar} (A : Ari ar) : gt (sr ar) = gt ar := by
  funext s
  by_cases hs : s ∈ srt ar
  · obtain ⟨i, hg, _⟩ := gt_at A hs
    rw [hg]
    refine gt_of (sr_nd A) (List.mem_map.mpr ⟨s, hs, ?_⟩)
    rw [hg]
    rfl
  · rw [gt_none fun i hi => hs (by
      have : s ∈ (sr ar).map (·.1) := List.mem_map.mpr ⟨_, hi, rfl⟩
      rwa [sr_keys] at this), gt_none fun i hi => hs (srt_mem.mpr ⟨i, hi⟩)]
theorem sr_len {ar : Ar} : (sr ar).length = (srt ar).length := by unfold sr; rw [List.length_map]
theorem sr_mem {ar : Ar} (A : Ari ar) {p : Str × Int} (hp : p ∈ sr ar) : p.1 ∈ NM ∧ 0 ≤ p.2 ∧ p.2 ≤ 2 := by
  obtain ⟨s, hs, rfl⟩ := List.mem_map.mp hp
  obtain ⟨i, hg, h0, h2⟩ := gt_at A hs
  obtain ⟨j, hj⟩ := srt_mem.mp hs
  refine ⟨A.nm (s, j) hj, ?_, ?_⟩
  · show 0 ≤ (gt ar s).getD 0; rw [hg]; exact h0
  · show (gt ar s).getD 0 ≤ 2; rw [hg]; exact h2

section
variable {P : List FnDecl} {n : Nat} {h : AH} {ar : Ar} {iInt iIx iNm iAre iIn : Nat}
theorem all_true {α : Type} : ∀ xs : List α, (xs.all fun _ => true) = true
  | [] => rfl
  | _ :: t => all_true t
theorem p_len_dct {m : Bool} {kvs : List (D × D)} : prim m .len [.dct kvs] h = .ok (.int kvs.length) h := rfl

def bInt : List S := [.ret (.and (.isi (.var 0) .int) (.and (.not (.isi (.var 0) .bool)) (.cmp2 .lt .lt (.neg (.cst (.int 1000000000000000000000000000000000000000000000000000000000000))) (.var 0) (.cst (.int 1000000000000000000000000000000000000000000000000000000000000)))))]
def bIx (iInt : Nat) : List S := [.ret (.and (.call iInt [.var 0]) (.cmp2 .le .lt (.cst (.int 0)) (.var 0) (.var 1)))]
def bNm : List S := [.ret (.and (.isi (.var 0) .str) (.and (.cmp2 .le .le (.cst (.int 1)) (.prim false .len [.var 0]) (.cst (.int 8))) (.prim false .all [.comp false 1 (.var 0) none (.cmp .isIn (.var 1) (.cst (.str "abcdefghijklmnopqrstuvwxyz")))])))]
theorem is_name (hNm : P[iNm]? = some ⟨1, 2, bNm⟩) {s : Str} (hs : s ∈ NM) : run P (n + 1) iNm [.str s] h = .ok (.bl true) h := by
  rw [run_def hNm n rfl]
  simp only [NM, List.mem_cons, List.not_mem_nil, or_false] at hs
  rcases hs with rfl | rfl | rfl | rfl | rfl | rfl | rfl | rfl | rfl | rfl <;> kernel_rfl
/-- is_index, for numbers -/
theorem is_index (hInt : P[iInt]? = some ⟨1, 1, bInt⟩) (hIx : P[iIx]? = some ⟨2, 2, bIx iInt⟩) {i m : Int} (hb : -(10 ^ 60) < i) (hb2 : i < 10 ^ 60) : run P (n + 2) iIx [.int i, .int m] h = .ok (.bl (decide (0 ≤ i ∧ i < m))) h := by
  refine wR_to (w_run hIx rfl ?_)
  walk_at "def"
  unfold bIx
  walk_at "pi"
  refine w_run hInt rfl ?_
  walk_at "def"
  unfold bInt
  walk_at "pi"
  refine wI_dt (by omega) ?_
  walk_at "pi"
  refine wI_dt (by omega) ?_
  walk_at "pi"
  refine wI_d (fun c => ?_) (fun c => ?_)
  · walk_at "pi"
    exact ⟨congrArg D.bl (by rw [decide_eq_decide]; omega), rfl⟩
  · exact ⟨congrArg D.bl (by rw [decide_eq_false]; omega), rfl⟩
abbrev eAr (iNm iIx : Nat) : E := .compI false 1 2 (.var 0) none (.and (.call iNm [.var 1]) (.call iIx [.var 2, .cst (.int 3)]))
def bAre (iNm iIx : Nat) : List S := [.cond (.or (.not (.isi (.var 0) .dict)) (.not (.cmp2 .le .le (.cst (.int 1)) (.prim false .len [.var 0]) (.cst (.int 8)))))
  [.ret (.cst (.bl false))]
  [],
  .ret (.prim false .all [eAr iNm iIx])]

theorem are_arities (hInt : P[iInt]? = some ⟨1, 1, bInt⟩) (hIx : P[iIx]? = some ⟨2, 2, bIx iInt⟩) (hNm : P[iNm]? = some ⟨1, 2, bNm⟩) (hAre : P[iAre]? = some ⟨1, 3, bAre iNm iIx⟩) (hm : ∀ p ∈ ar, p.1 ∈ NM ∧ 0 ≤ p.2 ∧ p.2 ≤ 2) (l0 : 1 ≤ ar.length) (l8 : ar.length ≤ 8) : run P (n + 3) iAre [.dct (kvD ar)] h = .ok (.bl true) h := by
  rw [run_def hAre (n + 2) rfl]
  have lk : (kvD ar).length = ar.length := by unfold kvD; rw [List.length_map]
  have ec : evE (run P (n + 2)) (eAr iNm iIx) [some (.dct (kvD ar)), none, none] h = .ok (.lst ((kvD ar).map fun _ => .bl true)) h :=
    e_compI (fun _ => .bl true) (kvs := kvD ar) rfl (fun p hp => by
      obtain ⟨q, hq, rfl⟩ := List.mem_map.mp hp
      obtain ⟨h1, h2, h3⟩ := hm q hq
      have w1 := is_name (n := n + 1) (h := h) hNm h1
      have w2 : run P (n + 2) iIx [.int q.2, .int 3] h = .ok (.bl true) h := by
        rw [is_index (n := n) (h := h) hInt hIx (by omega) (by omega), decide_eq_true (by omega)]
      simp only [e_and, e_call, e_cons, e_nil, e_cst, e_var, List.set_cons_succ, List.set_cons_zero, List.getElem?_cons_zero, List.getElem?_cons_succ, bind_ok, w1, w2, ifD_t]) (by rw [lk]; show _ ≤ 16777216; omega)
  have e0 : evSs (run P (n + 2)) (bAre iNm iIx) [some (.dct (kvD ar)), none, none] h = .ret (.bl true) h := by
    show evSs _ [.cond (.or (.not (.isi (.var 0) .dict)) (.not (.cmp2 .le .le (.cst (.int 1)) (.prim false .len [.var 0]) (.cst (.int 8))))) [.ret (.cst (.bl false))] [], .ret (.prim false .all [eAr iNm iIx])] _ h = _
    have t1 : isTy h (.dct (kvD ar)) .dict = some true := rfl
    have c1 : evE (run P (n + 2)) (.or (.not (.isi (.var 0) .dict)) (.not (.cmp2 .le .le (.cst (.int 1)) (.prim false .len [.var 0]) (.cst (.int 8))))) [some (.dct (kvD ar)), none, none] h = .ok (.bl false) h := by
      simp only [e_or, e_not, e_isi, e_var, List.getElem?_cons_zero, bind_ok, t1, blR_some, ifD_t, ifD_f, e_cmp2, e_cst, e_prim, e_cons, e_nil, p_len_dct, c_le]
      rw [lk, decide_eq_true (show (1 : Int) ≤ (ar.length : Int) by omega), ifD_t]
      simp only [e_cst, bind_ok, c_le, blR_some]
      rw [decide_eq_true (show (ar.length : Int) ≤ 8 by omega), ifD_t]
    rw [x_cons, x_cond, c1, out_ok, ifO_f, x_nil, obind_next, x_cons, x_ret, e_prim, e_cons, ec, bind_ok, e_nil, bind_ok, bind_ok]
    have := p_all (m := false) (f := fun _ : D × D => true) (xs := kvD ar) (h := h)
    rw [all_true] at this
    rw [this, out_ok, obind_ret]
  exact congrArg endR e0

/-! ### an object is made -/
theorem e_dcomp {F : Fn} {ρ : Rho} {h1 : AH} {m : Bool} {i : Nat} {src k v : E} {s : D} {xs : List D} (fk fv : D → D) (hs : evE F src ρ h = .ok s h1) (hx : srcItems h1 s = some xs) (hk : ∀ x ∈ xs, evE F k (ρ.set i (some x)) h1 = .ok (fk x) h1) (hv : ∀ x ∈ xs, evE F v (ρ.set i (some x)) h1 = .ok (fv x) h1)
    (kk : ∀ x ∈ xs, keyK (fk x) = true) (hl : xs.length ≤ szl) : evE F (.dcomp m i src none k v) ρ h = mkD m (mergeD [] (xs.map fun x => (fk x, fv x))) h1 := by
  have e : evE F (.dcomp m i src none k v) ρ h = (evE F src ρ h).bind fun s h1 => (Res.of (srcItems h1 s) h1).bind fun xs h2 =>
      ((goC (fun x h3 => (evC F none (ρ.set i (some x)) h3).bind fun b h4 => match b with
          | true => (evE F k (ρ.set i (some x)) h4).bind fun y h5 => (evE F v (ρ.set i (some x)) h5).bind fun z h6 => if keyK y then .ok (some (.tup [y, z])) h6 else .fail
          | false => .ok none h4) (still xs s) xs h2).nox).bind fun ys h6 => if decide (ys.length ≤ szl) then (match pairsD ys with
            | some kvs => mkD m (mergeD [] kvs) h6
            | none => .fail) else .fail := rfl
  rw [e, hs]
  simp only [bind_ok, hx, of_some]
  rw [goC_pure (g := fun x => some (.tup [fk x, fv x])) (still_now hx) fun x hx => by
    simp only [evC, bind_ok, hk x hx, hv x hx]
    rw [if_pos (kk x hx)]]
  rw [show xs.filterMap (fun x => some (D.tup [fk x, fv x])) = xs.map (fun x => D.tup [fk x, fv x]) from by rw [← List.filterMap_eq_map]; rfl]
  have ep : pairsD (xs.map fun x => D.tup [fk x, fv x]) = some (xs.map fun x => (fk x, fv x)) := by
    have := pairsD_map (ds := xs.map fun x => (fk x, fv x)) (fun p hp => by
      obtain ⟨x, hx, rfl⟩ := List.mem_map.mp hp
      exact kk x hx)
    rw [List.map_map] at this
    exact this
  rw [nox_val, bind_ok, ep, if_pos (decide_eq_true (by rw [List.length_map]; exact hl))]
def lineT (s : Str) (i : Int) : Str := (fmtL ⟨#[]⟩ [.str "op", .str " ", .str s, .str " ", .int i]).getD ""
theorem line_ok {s : Str} {i : Int} (hs : s ∈ NM) (h0 : 0 ≤ i) (h2 : i ≤ 2) : fmtL ⟨#[]⟩ [.str "op", .str " ", .str s, .str " ", .int i] = some (lineT s i) := by
  have key : NM.all (fun s => [(0 : Int), 1, 2].all fun i => (fmtL ⟨#[]⟩ [.str "op", .str " ", .str s, .str " ", .int i]).isSome) = true := by decide +kernel
  have hi : i ∈ [(0 : Int), 1, 2] := by
    have : i = 0 ∨ i = 1 ∨ i = 2 := by omega
    rcases this with rfl | rfl | rfl <;> simp
  have := List.all_eq_true.mp (List.all_eq_true.mp key s hs) i hi
  unfold lineT
  cases q : fmtL ⟨#[]⟩ [.str "op", .str " ", .str s, .str " ", .int i] with
  | none => rw [q] at this; cases this
  | some t => rfl
def linesD (ar : Ar) : List D := ar.map fun p => .str (lineT p.1 p.2)
theorem a_slot {F : Fn} {ρ : Rho} {c i : Nat} {o : E} {d : D} : asT F (.slot c o i) d ρ h = (evE F o ρ h).out ρ fun x h1 => putR (setSl c x i d h1) ρ := by
  refine ocong (x := evE F o ρ h) fun x h1 => ?_
  cases setSl c x i d h1 <;> rfl
theorem set_sl {c p i : Nat} {fs : List (Option D)} {v : D} (e : h[p]? = some (.ins c fs)) : setSl c (.loc p) i v h = some (h.set p (.ins c (putF i v fs))) := by
  have : setSl c (.loc p) i v h = (match h[p]? with
    | some (.ins c' fs) => if c' = c then some (h.set p (.ins c (putF i v fs))) else none
    | _ => none) := rfl
  rw [this, e]
  exact if_pos rfl
abbrev eIn1 : E := .dcomp false 2 (.prim false .sorted [.var 1]) none (.var 2) (.dix (.var 1) (.var 2))
abbrev eIn2 : E := .prim false .tuple [.compI false 2 3 (.slot 0 (.var 0) 0) none (.fstr [.cst (.str "op"), .cst (.str " "), .var 2, .cst (.str " "), .var 3])]
theorem e_fstr {F : Fn} {ρ : Rho} {es : List E} {xs : List D} {t : Str} {h1 : AH} (he : evEs F es ρ h = .ok xs h1) (hf : fmtL ⟨#[]⟩ xs = some t) : evE F (.fstr es) ρ h = .ok (.str t) h1 := by
  have : evE F (.fstr es) ρ h = ((evEs F es ρ h).nox).bind fun xs h1 => Res.of ((fmtL ⟨#[]⟩ xs).map D.str) h1 := rfl
  rw [this, he, nox_val, bind_ok, hf]
  rfl

def bInit (iAre : Nat) : List S := [.cond (.not (.call iAre [.var 1]))
  [.dead]
  [],
  .asg (.slot 0 (.var 0) 0) eIn1,
  .asg (.slot 0 (.var 0) 1) eIn2]

theorem init_ok (hInt : P[iInt]? = some ⟨1, 1, bInt⟩) (hIx : P[iIx]? = some ⟨2, 2, bIx iInt⟩) (hNm : P[iNm]? = some ⟨1, 2, bNm⟩) (hAre : P[iAre]? = some ⟨1, 3, bAre iNm iIx⟩) (hIn : P[iIn]? = some ⟨2, 4, bInit iAre⟩) (A : Ari ar) : run P (n + 4) iIn [.loc h.length, .dct (kvD ar)] (h ++ [.ins 0 []]) = .ok .non (h ++ [.ins 0 [some (.dct (kvD (sr ar))), some (.tup (linesD (sr ar)))]]) := by
  rw [run_def hIn (n + 3) rfl]
  have ls := srt_len A
  have l0 : 1 ≤ ar.length := by
    obtain ⟨p, hp, _⟩ := A.leaf
    exact List.length_pos_iff.mpr (List.ne_nil_of_mem hp)
  have w := are_arities (n := n) (h := h ++ [.ins 0 []]) (ar := ar) hInt hIx hNm hAre (fun p hp => ⟨A.nm p hp, A.ari p hp⟩) l0 A.len
  have e1 : evE (run P (n + 3)) eIn1 [some (.loc h.length), some (.dct (kvD ar)), none, none] (h ++ [.ins 0 []]) = .ok (.dct (kvD (sr ar))) (h ++ [.ins 0 []]) := by
    have es : evE (run P (n + 3)) (.prim false .sorted [.var 1]) [some (.loc h.length), some (.dct (kvD ar)), none, none] (h ++ [.ins 0 []]) = .ok (.lst ((srt ar).map D.str)) (h ++ [.ins 0 []]) := by
      simp only [e_prim, e_cons, e_nil, e_var, List.getElem?_cons_zero, List.getElem?_cons_succ, bind_ok, p_sorted A.len, mk_f]
    rw [e_dcomp (fun x => x) (fun x => .int ((gt ar (wd x)).getD 0)) es rfl (fun x hx => by simp only [e_var, List.set_cons_succ, List.set_cons_zero, List.getElem?_cons_zero, List.getElem?_cons_succ]) (fun x hx => by
      obtain ⟨s, hs, rfl⟩ := List.mem_map.mp hx
      obtain ⟨i, hg, _⟩ := gt_at A hs
      have := e_dix_kv (F := run P (n + 3)) (ρ := [some (.loc h.length), some (.dct (kvD ar)), some (.str s), none]) (h := h ++ [.ins 0 []]) (ar := ar) (a := .var 1) (b := .var 2) (s := s) (i := i) rfl rfl hg
      simp only [List.set_cons_succ, List.set_cons_zero]
      rw [this]
      show _ = Res.ok (D.int ((gt ar s).getD 0)) _
      rw [hg]
      rfl) (fun x hx => by
      obtain ⟨s, hs, rfl⟩ := List.mem_map.mp hx
      rfl) (by rw [List.length_map]; show _ ≤ 16777216; omega)]
    have : ((srt ar).map D.str).map (fun x => (x, D.int ((gt ar (wd x)).getD 0))) = kvD (sr ar) := by
      unfold sr kvD
      rw [List.map_map, List.map_map]
      rfl
    rw [this, merge_nil (sr_nd A)]
    rfl
  obtain ⟨H, eH⟩ : ∃ H : AH, H = h ++ [.ins 0 [some (.dct (kvD (sr ar)))]] := ⟨_, rfl⟩
  have atH : H[h.length]? = some (.ins 0 [some (.dct (kvD (sr ar)))]) := by rw [eH]; simp
  have e2 : evE (run P (n + 3)) eIn2 [some (.loc h.length), some (.dct (kvD ar)), none, none] H = .ok (.tup (linesD (sr ar))) H := by
    have es : evE (run P (n + 3)) (.slot 0 (.var 0) 0) [some (.loc h.length), some (.dct (kvD ar)), none, none] H = .ok (.dct (kvD (sr ar))) H := by
      rw [e_slot, e_var]
      simp only [List.getElem?_cons_zero, bind_ok, slots_at atH]
      rfl
    have lk : (kvD (sr ar)).length = (srt ar).length := by unfold kvD; rw [List.length_map, sr_len]
    have ec : evE (run P (n + 3)) (.compI false 2 3 (.slot 0 (.var 0) 0) none (.fstr [.cst (.str "op"), .cst (.str " "), .var 2, .cst (.str " "), .var 3])) [some (.loc h.length), some (.dct (kvD ar)), none, none] H = .ok (.lst ((kvD (sr ar)).map fun p => .str (lineT (wd p.1) (match p.2 with
        | .int i => i
        | _ => 0)))) H :=
      e_compI (fun p => .str (lineT (wd p.1) (match p.2 with
        | .int i => i
        | _ => 0))) es (fun p hp => by
        obtain ⟨q, hq, rfl⟩ := List.mem_map.mp hp
        obtain ⟨h1, h2, h3⟩ := sr_mem A hq
        exact e_fstr rfl (line_ok h1 h2 h3)) (by rw [lk]; show _ ≤ 16777216; omega)
    rw [e_prim, e_cons, ec, bind_ok, e_nil, bind_ok, bind_ok]
    have : (kvD (sr ar)).map (fun p => D.str (lineT (wd p.1) (match p.2 with
        | .int i => i
        | _ => 0))) = linesD (sr ar) := by
      unfold kvD linesD
      rw [List.map_map]
      rfl
    rw [this]
    rfl
  have e0 : evSs (run P (n + 3)) (bInit iAre) [some (.loc h.length), some (.dct (kvD ar)), none, none] (h ++ [.ins 0 []]) = .next [some (.loc h.length), some (.dct (kvD ar)), none, none] (h ++ [.ins 0 [some (.dct (kvD (sr ar))), some (.tup (linesD (sr ar)))]]) := by
    show evSs _ [.cond (.not (.call iAre [.var 1])) [.dead] [], .asg (.slot 0 (.var 0) 0) eIn1, .asg (.slot 0 (.var 0) 1) eIn2] _ _ = _
    have c1 : evE (run P (n + 3)) (.not (.call iAre [.var 1])) [some (.loc h.length), some (.dct (kvD ar)), none, none] (h ++ [.ins 0 []]) = .ok (.bl false) (h ++ [.ins 0 []]) := by
      simp only [e_not, e_call, e_cons, e_nil, e_var, List.getElem?_cons_zero, List.getElem?_cons_succ, bind_ok, w, ifD_t]
    have at0 : (h ++ [AO.ins 0 []])[h.length]? = some (.ins 0 []) := by simp
    have p0 : (h ++ [AO.ins 0 []]).set h.length (.ins 0 (putF 0 (.dct (kvD (sr ar))) [])) = H := by
      rw [eH, List.set_append_right _ _ (Nat.le_refl _)]
      simp
      rfl
    have p1 : H.set h.length (.ins 0 (putF 1 (.tup (linesD (sr ar))) [some (.dct (kvD (sr ar)))])) = h ++ [.ins 0 [some (.dct (kvD (sr ar))), some (.tup (linesD (sr ar)))]] := by
      rw [eH, List.set_append_right _ _ (Nat.le_refl _)]
      simp
      rfl
    rw [x_cons, x_cond, c1, out_ok, ifO_f, x_nil, obind_next, x_cons, x_asg, e1, out_ok, a_slot, e_var]
    simp only [List.getElem?_cons_zero, out_ok]
    rw [set_sl at0, putR_some, obind_next, p0, x_cons, x_asg, e2, out_ok, a_slot, e_var]
    simp only [List.getElem?_cons_zero, out_ok]
    rw [set_sl atH, putR_some, obind_next, p1, x_nil]
  exact congrArg endR e0

end

section
variable {P : List FnDecl} {N : Nat} {h : AH} {ar : Ar} {p : Nat} {ls : List D}

theorem slot0 {F : Fn} {ρ : Rho} (o : Ops h p ar ls) (h0 : ρ[0]? = some (some (.loc p))) : evE F (.slot 0 (.var 0) 0) ρ h = .ok (.dct (kvD ar)) h := by
  rw [e_slot]
  simp only [e_var, h0, bind_ok, slots_at o.at_]
  rfl
theorem slot1 {F : Fn} {ρ : Rho} (o : Ops h p ar ls) (h0 : ρ[0]? = some (some (.loc p))) : evE F (.slot 0 (.var 0) 1) ρ h = .ok (.tup ls) h := by
  rw [e_slot]
  simp only [e_var, h0, bind_ok, slots_at o.at_]
  rfl

end

/-- rows of words -/
def rp (k : Nat) (ws : List Str) : List Str := (List.replicate k ws).flatten
theorem rp_len (k : Nat) (ws : List Str) : (rp k ws).length = k * ws.length := by unfold rp; rw [PyProof.Rows.lm_len_rep_flat]
theorem rp_map (k : Nat) (ws : List Str) : (rp k ws).map D.str = (List.replicate k (ws.map D.str)).flatten := by
  unfold rp
  rw [List.map_flatten, List.map_replicate]
theorem rp_mem {k : Nat} {ws : List Str} {w : Str} (h : w ∈ rp k ws) : w ∈ ws := by
  unfold rp at h
  obtain ⟨l, hl, hw⟩ := List.mem_flatten.mp h
  rw [(List.mem_replicate.mp hl).2] at hw
  exact hw

def ar3 : Ar := [("c", 0), ("s", 1), ("p", 2)]
theorem A3 : Ari ar3 := ⟨by decide +kernel, by decide +kernel, by decide, ⟨("c", 0), by decide +kernel, rfl⟩, by decide⟩

section
variable {h : AH}
theorem w_mult {m : Bool} (ws : List Str) (n : Nat) {k : Int} {Q : D → AH → Prop} {X : Nat → D → AH → Prop} (h0 : ws ≠ []) (h1 : 2 ≤ k) (h2 : k ≤ 10000) (h3 : ws.length ≤ 1000) (e : k.toNat = n) (q : Q (.tup ((rp n ws).map D.str)) h) : wR (bin2 m .mul (.tup (ws.map D.str)) (.int k) h) Q X := by
  subst e
  rw [b_rept (by simpa using h0) h1 h2 (by rwa [List.length_map]), ← rp_map]; exact q
theorem w_addw {m : Bool} (us vs : List Str) {Q : D → AH → Prop} {X : Nat → D → AH → Prop} (l : us.length + vs.length ≤ 16777216) (q : Q (.tup ((us ++ vs).map D.str)) h) : wR (bin2 m .add (.tup (us.map D.str)) (.tup (vs.map D.str)) h) Q X := by
  rw [b_addt, if_pos (by rw [List.length_map, List.length_map]; exact l), ← List.map_append]; exact q
end

end PITree
set_option maxRecDepth 100000
set_option maxHeartbeats 1000000
/-! Trees as rows of arities: where each subtree ends. -/
namespace PITree
/-- open ends behind some arities -/
def opnN : List Nat → Nat → Option Nat
  | [], l => some l
  | a :: r, l => if l = 0 then none else opnN r (l - 1 + a)
/-- the ends of all places, and the ends of the row of trees from here on (the nearest first) -/
def sk : List Nat → Nat → List Nat × List Nat
  | [], _ => ([], [])
  | a :: r, p => ((if a = 0 then p + 1 else ((sk r (p + 1)).2)[a - 1]?.getD 0) :: (sk r (p + 1)).1, (if a = 0 then p + 1 else ((sk r (p + 1)).2)[a - 1]?.getD 0) :: (sk r (p + 1)).2.drop a)
theorem sk_len1 : ∀ (as : List Nat) (p : Nat), (sk as p).1.length = as.length
  | [], _ => rfl
  | a :: r, p => by
    show (_ :: (sk r (p + 1)).1).length = _
    rw [List.length_cons, sk_len1 r (p + 1), List.length_cons]
theorem sk_drop : ∀ (as : List Nat) (p k : Nat), (sk as p).1.drop k = (sk (as.drop k) (p + k)).1
  | as, p, 0 => rfl
  | [], p, k + 1 => by simp [sk]
  | a :: r, p, k + 1 => by
    show (_ :: (sk r (p + 1)).1).drop (k + 1) = _
    rw [List.drop_succ_cons, sk_drop r (p + 1) k, List.drop_succ_cons]
    congr 2
    omega
theorem sk_len2 : ∀ (as : List Nat) (p l : Nat), opnN as l = some 0 → (sk as p).2.length = l
  | [], p, l, h => by
    unfold opnN at h
    cases h
    rfl
  | a :: r, p, l, h => by
    unfold opnN at h
    split at h
    · cases h
    · have ih := sk_len2 r (p + 1) _ h
      show (_ :: (sk r (p + 1)).2.drop a).length = l
      rw [List.length_cons, List.length_drop, ih]
      omega
/-- f again and again -/
def it (f : Nat → Nat) : Nat → Nat → Nat
  | 0, x => x
  | k + 1, x => it f k (f x)
theorem it_succ (f : Nat → Nat) : ∀ (k x : Nat), it f (k + 1) x = f (it f k x)
  | 0, _ => rfl
  | k + 1, x => it_succ f k (f x)
theorem it_add (f : Nat → Nat) : ∀ (j k x : Nat), it f (j + k) x = it f k (it f j x)
  | 0, k, x => by rw [Nat.zero_add]; rfl
  | j + 1, k, x => by
    rw [show j + 1 + k = (j + k) + 1 from by omega]
    exact it_add f j k (f x)
/-- a row of ends from x to n -/
inductive Ch (f : Nat → Nat) (n : Nat) : List Nat → Nat → Prop
  | nil : Ch f n [] n
  | cons {s : List Nat} {x : Nat} : x < f x → Ch f n s (f x) → Ch f n (f x :: s) x
theorem Ch.le {f : Nat → Nat} {n : Nat} : ∀ {s : List Nat} {x : Nat}, Ch f n s x → x ≤ n
  | _, _, .nil => Nat.le_refl _
  | _, _, .cons h t => Nat.le_trans (Nat.le_of_lt h) (Ch.le t)
theorem Ch.drop {f : Nat → Nat} {n : Nat} : ∀ (a : Nat) {s : List Nat} {x : Nat}, Ch f n s x → a ≤ s.length → Ch f n (s.drop a) (it f a x)
  | 0, _, _, h, _ => h
  | a + 1, _, _, .nil, l => by simp at l
  | a + 1, _, _, .cons h t, l => Ch.drop a t (by simpa using l)
theorem Ch.at_ {f : Nat → Nat} {n : Nat} : ∀ (a : Nat) {s : List Nat} {x : Nat}, Ch f n s x → a < s.length → s[a]? = some (it f (a + 1) x)
  | _, _, _, .nil, l => by simp at l
  | 0, _, _, .cons h t, _ => rfl
  | a + 1, _, _, .cons h t, l => by
    rw [List.getElem?_cons_succ]
    exact Ch.at_ a t (by simpa using l)
theorem Ch.up {f : Nat → Nat} {n : Nat} : ∀ (a : Nat) {s : List Nat} {x : Nat}, Ch f n s x → a < s.length → it f a x < it f (a + 1) x
  | _, _, _, .nil, l => by simp at l
  | 0, _, _, .cons h t, _ => h
  | a + 1, _, _, .cons h t, l => Ch.up a t (by simpa using l)
theorem Ch.inv {f : Nat → Nat} {n e : Nat} {s : List Nat} {x : Nat} (h : Ch f n (e :: s) x) : e = f x ∧ x < f x ∧ Ch f n s (f x) := by
  cases h with
  | cons a b => exact ⟨rfl, a, b⟩
theorem Ch.inv0 {f : Nat → Nat} {n x : Nat} (h : Ch f n [] x) : x = n := by
  cases h
  rfl
/-- what the ends of a tree are like -/
structure Tr (as : List Nat) (f : Nat → Nat) : Prop where
  pos : 0 < as.length
  lt : ∀ p, p < as.length → p < f p
  le : ∀ p, p < as.length → f p ≤ as.length
  ch : ∀ p (h : p < as.length), it f as[p] (p + 1) = f p
  up : ∀ p (h : p < as.length) i, i < as[p] → it f i (p + 1) < it f (i + 1) (p + 1)
  root : f 0 = as.length
/-- the end of each place -/
def en (as : List Nat) (p : Nat) : Nat := ((sk as 0).1)[p]?.getD 0
theorem drop_cons {α : Type} {l : List α} {p : Nat} (h : p < l.length) : l.drop p = l[p] :: l.drop (p + 1) := List.drop_eq_getElem_cons h
theorem opn_suffix : ∀ (as : List Nat) (l : Nat), opnN as l = some 0 → ∀ p ≤ as.length, ∃ k, opnN (as.drop p) k = some 0
  | as, l, h, 0, _ => ⟨l, h⟩
  | [], l, h, p + 1, hp => by simp at hp
  | a :: r, l, h, p + 1, hp => by
    unfold opnN at h
    split at h
    · cases h
    · exact opn_suffix r _ h p (by simpa using hp)
theorem en_at {as : List Nat} {p : Nat} (h : p < as.length) : some (en as p) = (sk (as.drop p) p).1[0]? := by
  have := congrArg (fun l => l[0]?) (sk_drop as 0 p)
  simp only [Nat.zero_add, List.getElem?_drop, Nat.add_zero] at this
  rw [← this]
  unfold en
  have l : p < (sk as 0).1.length := by rw [sk_len1]; exact h
  rw [List.getElem?_eq_getElem l]
  rfl
theorem chain {as : List Nat} {l : Nat} (h : opnN as l = some 0) : ∀ k p, p + k = as.length → Ch (en as) as.length (sk (as.drop p) p).2 p
  | 0, p, e => by
    have : p = as.length := by omega
    subst this
    rw [List.drop_length]
    exact .nil
  | k + 1, p, e => by
    have hp : p < as.length := by omega
    have ih := chain h k (p + 1) (by omega)
    obtain ⟨q, hq⟩ := opn_suffix as l h p (by omega)
    have e1 := en_at hp
    rw [drop_cons hp] at hq e1 ⊢
    unfold opnN at hq
    split at hq
    · cases hq
    · have len := sk_len2 _ (p + 1) _ hq
      have e1 : en as p = (if as[p] = 0 then p + 1 else ((sk (as.drop (p + 1)) (p + 1)).2)[as[p] - 1]?.getD 0) := by
        have : (sk (as[p] :: as.drop (p + 1)) p).1[0]? = some (if as[p] = 0 then p + 1 else ((sk (as.drop (p + 1)) (p + 1)).2)[as[p] - 1]?.getD 0) := rfl
        rw [this] at e1
        exact Option.some.inj e1
      have e2 : en as p = it (en as) as[p] (p + 1) := by
        rw [e1]
        split
        · rename_i z
          rw [z]
          rfl
        · have := ih.at_ (as[p] - 1) (by omega)
          rw [this]
          show it (en as) (as[p] - 1 + 1) (p + 1) = _
          congr 1
          omega
      show Ch (en as) as.length ((if as[p] = 0 then p + 1 else ((sk (as.drop (p + 1)) (p + 1)).2)[as[p] - 1]?.getD 0) :: (sk (as.drop (p + 1)) (p + 1)).2.drop as[p]) p
      rw [← e1]
      have d := ih.drop as[p] (by omega)
      rw [← e2] at d
      refine .cons ?_ d
      have up : ∀ j, j ≤ as[p] → p + 1 ≤ it (en as) j (p + 1) := by
        intro j hj
        induction j with
        | zero => exact Nat.le_refl _
        | succ j ihj =>
          have := ih.up j (by omega)
          have := ihj (by omega)
          omega
      have := up as[p] (Nat.le_refl _)
      omega
theorem tree_of {as : List Nat} (h : opnN as 1 = some 0) : Tr as (en as) := by
  have key : ∀ p (hp : p < as.length), ∃ st, Ch (en as) as.length st (p + 1) ∧ as[p] ≤ st.length ∧ en as p = it (en as) as[p] (p + 1) ∧ Ch (en as) as.length (en as p :: st.drop as[p]) p := by
    intro p hp
    have c := chain h (as.length - p) p (by omega)
    have c1 := chain h (as.length - (p + 1)) (p + 1) (by omega)
    obtain ⟨q, hq⟩ := opn_suffix as 1 h p (by omega)
    have e1 := en_at hp
    rw [drop_cons hp] at hq c e1
    unfold opnN at hq
    split at hq
    · cases hq
    · have len := sk_len2 _ (p + 1) _ hq
      refine ⟨_, c1, by omega, ?_, ?_⟩
      · have : (sk (as[p] :: as.drop (p + 1)) p).1[0]? = some (if as[p] = 0 then p + 1 else ((sk (as.drop (p + 1)) (p + 1)).2)[as[p] - 1]?.getD 0) := rfl
        rw [this] at e1
        rw [Option.some.inj e1]
        split
        · rename_i z
          rw [z]
          rfl
        · have := c1.at_ (as[p] - 1) (by omega)
          rw [this]
          show it (en as) (as[p] - 1 + 1) (p + 1) = _
          congr 1
          omega
      · have : (sk (as[p] :: as.drop (p + 1)) p).1[0]? = some (if as[p] = 0 then p + 1 else ((sk (as.drop (p + 1)) (p + 1)).2)[as[p] - 1]?.getD 0) := rfl
        rw [this] at e1
        rw [Option.some.inj e1]
        exact c
  have hpos : 0 < as.length := by
    cases as with
    | nil => cases h
    | cons => simp
  refine ⟨hpos, fun p hp => ?_, fun p hp => ?_, fun p hp => ?_, fun p hp i hi => ?_, ?_⟩
  · obtain ⟨st, c1, l, e, c⟩ := key p hp
    exact c.inv.2.1
  · obtain ⟨st, c1, l, e, c⟩ := key p hp
    exact c.inv.2.2.le
  · obtain ⟨st, c1, l, e, c⟩ := key p hp
    exact e.symm
  · obtain ⟨st, c1, l, e, c⟩ := key p hp
    exact c1.up i (by omega)
  · have c := chain h as.length 0 (by omega)
    have l := sk_len2 as 0 1 h
    rw [List.drop_zero] at c
    obtain ⟨e, he⟩ := List.length_eq_one_iff.mp l
    rw [he] at c
    exact c.inv.2.2.inv0
namespace Tr
variable {as : List Nat} {f : Nat → Nat}
theorem mono (T : Tr as f) {p : Nat} (h : p < as.length) {i j : Nat} (hij : i ≤ j) (hj : j ≤ as[p]) : it f i (p + 1) ≤ it f j (p + 1) := by
  induction j with
  | zero => have : i = 0 := by omega
            subst this; exact Nat.le_refl _
  | succ j ih =>
    by_cases e : i = j + 1
    · subst e; exact Nat.le_refl _
    · have := T.up p h j (by omega)
      have := ih (by omega) (by omega)
      omega
theorem child_le (T : Tr as f) {p : Nat} (h : p < as.length) {j : Nat} (hj : j ≤ as[p]) : it f j (p + 1) ≤ f p := by
  have := T.mono h hj (Nat.le_refl _)
  rw [T.ch p h] at this
  exact this
theorem child_lt (T : Tr as f) {p : Nat} (h : p < as.length) {j : Nat} (hj : j < as[p]) : it f j (p + 1) < f p := Nat.lt_of_lt_of_le (T.up p h j hj) (T.child_le h hj)
theorem child_gt (T : Tr as f) {p : Nat} (h : p < as.length) {j : Nat} (hj : j ≤ as[p]) : p < it f j (p + 1) := T.mono h (Nat.zero_le j) hj
/-- each place behind p within it lies in one child -/
theorem in_child (T : Tr as f) {p q : Nat} (h : p < as.length) (h1 : p < q) (h2 : q < f p) : ∃ i, i < as[p] ∧ it f i (p + 1) ≤ q ∧ q < it f (i + 1) (p + 1) := by
  have : ∀ k, k ≤ as[p] → q < it f k (p + 1) → ∃ i, i < k ∧ it f i (p + 1) ≤ q ∧ q < it f (i + 1) (p + 1) := by
    intro k
    induction k with
    | zero => intro _ z; have z : q < p + 1 := z; omega
    | succ k ih =>
      intro hk hq
      by_cases c : it f k (p + 1) ≤ q
      · exact ⟨k, Nat.lt_succ_self _, c, hq⟩
      · obtain ⟨i, h3, h4⟩ := ih (by omega) (by omega)
        exact ⟨i, by omega, h4⟩
  obtain ⟨i, h3, h4⟩ := this as[p] (Nat.le_refl _) (by rw [T.ch p h]; exact h2)
  exact ⟨i, h3, h4⟩
/-- subtrees lie within one another or apart -/
theorem lam (T : Tr as f) : ∀ (k p q : Nat), as.length ≤ p + k → p < as.length → p < q → q < f p → f q ≤ f p
  | 0, p, q, hk, h, _, _ => by omega
  | k + 1, p, q, hk, h, h1, h2 => by
    obtain ⟨i, hi, c1, c2⟩ := T.in_child h h1 h2
    have g := T.child_gt h (Nat.le_of_lt hi)
    have t := T.child_le h hi
    rw [it_succ] at c2 t
    by_cases e : it f i (p + 1) = q
    · rw [← e]; exact t
    · have l := T.le p h
      have := lam T k (it f i (p + 1)) q (by omega) (by omega) (by omega) c2
      omega
theorem nest (T : Tr as f) {p q : Nat} (h : p < as.length) (h1 : p ≤ q) (h2 : q < f p) : f q ≤ f p := by
  by_cases e : p = q
  · subst e; exact Nat.le_refl _
  · exact T.lam as.length p q (by omega) h (by omega) h2
/-- the ends are told by the arities -/
theorem uniq {g : Nat → Nat} (T : Tr as f) (G : Tr as g) : ∀ (k p : Nat), as.length ≤ p + k → p < as.length → f p = g p
  | 0, p, h, hp => by omega
  | k + 1, p, h, hp => by
    have key : ∀ j, j ≤ as[p] → it f j (p + 1) = it g j (p + 1) := by
      intro j
      induction j with
      | zero => intro _; rfl
      | succ j ih =>
        intro hj
        have e := ih (by omega)
        rw [it_succ, it_succ, e]
        have l := T.child_lt hp (j := j) (by omega)
        have t := T.le p hp
        have gt := T.child_gt hp (j := j) (by omega)
        rw [e] at l gt
        exact uniq T G k _ (by omega) (by omega)
    have := key as[p] (Nat.le_refl _)
    rw [T.ch p hp, G.ch p hp] at this
    exact this
theorem eq {g : Nat → Nat} (T : Tr as f) (G : Tr as g) {p : Nat} (h : p < as.length) : f p = g p := uniq T G as.length p (by omega) h
end Tr
end PITree
set_option maxRecDepth 100000
set_option maxHeartbeats 1000000
namespace PITree
/-- the part from x to y -/
def slc {α : Type} (l : List α) (x y : Nat) : List α := (l.drop x).take (y - x)
theorem slc_len {α : Type} {l : List α} {x y : Nat} (h : y ≤ l.length) : (slc l x y).length = y - x := by
  unfold slc
  rw [List.length_take, List.length_drop]
  omega
theorem slc_app {α : Type} {l : List α} {x y z : Nat} (h1 : x ≤ y) (h2 : y ≤ z) : slc l x z = slc l x y ++ slc l y z := by
  unfold slc
  have e : z - x = (y - x) + (z - y) := by omega
  rw [e, List.take_add, List.drop_drop]
  congr 3
  omega
theorem slc_get {α : Type} {l : List α} {x y i : Nat} (h : i < y - x) : (slc l x y)[i]? = l[x + i]? := by
  unfold slc
  rw [List.getElem?_take, if_pos h, List.getElem?_drop]
theorem slc_cons {α : Type} {l : List α} {x y : Nat} (h : x < l.length) (h2 : x < y) : slc l x y = l[x] :: slc l (x + 1) y := by
  unfold slc
  have e : y - x = (y - (x + 1)) + 1 := by omega
  rw [e, List.drop_eq_getElem_cons h, List.take_succ_cons]
namespace Tr
variable {as : List Nat} {f : Nat → Nat}
/-- a subtree closes one open end -/
theorem opn_part (T : Tr as f) : ∀ (k p : Nat) (rest : List Nat) (l : Nat), as.length ≤ p + k → p < as.length → opnN (slc as p (f p) ++ rest) (l + 1) = opnN rest l
  | 0, p, rest, l, h, hp => by omega
  | k + 1, p, rest, l, h, hp => by
    have lt := T.lt p hp
    have le := T.le p hp
    rw [slc_cons hp lt, List.cons_append]
    show (if l + 1 = 0 then none else opnN (slc as (p + 1) (f p) ++ rest) (l + 1 - 1 + as[p])) = _
    rw [if_neg (by omega), Nat.add_sub_cancel]
    have key : ∀ j, j ≤ as[p] → ∀ (rest : List Nat) (l : Nat), opnN (slc as (p + 1) (it f j (p + 1)) ++ rest) (l + j) = opnN rest l := by
      intro j
      induction j with
      | zero =>
        intro _ rest l
        have : slc as (p + 1) (it f 0 (p + 1)) = [] := by
          unfold slc it
          rw [Nat.sub_self, List.take_zero]
        rw [this]
        rfl
      | succ j ih =>
        intro hj rest l
        have g1 := T.child_gt hp (j := j) (by omega)
        have g2 := T.up p hp j (by omega)
        have g3 := T.child_le hp (j := j + 1) hj
        rw [slc_app (y := it f j (p + 1)) (by omega) (by omega), List.append_assoc]
        have := ih (by omega) (slc as (it f j (p + 1)) (it f (j + 1) (p + 1)) ++ rest) (l + 1)
        rw [show l + (j + 1) = l + 1 + j from by omega, this, it_succ]
        exact opn_part T k _ rest l (by omega) (by omega)
    have := key as[p] (Nat.le_refl _) rest l
    rw [T.ch p hp] at this
    exact this
theorem opn_sub (T : Tr as f) {p : Nat} (h : p < as.length) : opnN (slc as p (f p)) 1 = some 0 := by
  have := T.opn_part as.length p [] 0 (by omega) h
  rw [List.append_nil] at this
  exact this
end Tr
/-- the ends within a subtree -/
def sh (f : Nat → Nat) (p : Nat) : Nat → Nat := fun i => f (p + i) - p
namespace Tr
variable {as : List Nat} {f : Nat → Nat}
theorem sub (T : Tr as f) {p : Nat} (h : p < as.length) : Tr (slc as p (f p)) (sh f p) := by
  have lt := T.lt p h
  have le := T.le p h
  have len : (slc as p (f p)).length = f p - p := slc_len le
  have at_ : ∀ i (hi : i < (slc as p (f p)).length), (slc as p (f p))[i] = as[p + i]'(by omega) := by
    intro i hi
    have := slc_get (l := as) (x := p) (y := f p) (i := i) (by omega)
    rw [List.getElem?_eq_getElem hi, List.getElem?_eq_getElem (by omega)] at this
    exact Option.some.inj this
  have its : ∀ i, i < f p - p → ∀ (hi : p + i < as.length) j, j ≤ as[p + i] → it (sh f p) j (i + 1) = it f j (p + i + 1) - p := by
    intro i _ hi j
    induction j with
    | zero => intro _; show i + 1 = p + i + 1 - p; omega
    | succ j ih =>
      intro hj
      have g1 := T.child_gt hi (j := j) (by omega)
      rw [it_succ, it_succ, ih (by omega)]
      show f (p + (it f j (p + i + 1) - p)) - p = _
      congr 2
      omega
  refine ⟨by omega, fun i hi => ?_, fun i hi => ?_, fun i hi => ?_, fun i hi j hj => ?_, ?_⟩
  · have := T.lt (p + i) (by omega)
    show i < f (p + i) - p
    omega
  · have := T.nest h (q := p + i) (by omega) (by omega)
    show f (p + i) - p ≤ _
    omega
  · rw [at_ i hi, its i (by omega) (by omega) _ (Nat.le_refl _), T.ch (p + i) (by omega)]
    rfl
  · rw [at_ i hi] at hj
    rw [its i (by omega) (by omega) j (by omega), its i (by omega) (by omega) (j + 1) (by omega)]
    have := T.up (p + i) (by omega) j hj
    have := T.child_gt (p := p + i) (by omega) (j := j) (by omega)
    omega
  · rw [len]
    rfl
/-- the ends of a subtree by itself -/
theorem en_sub (T : Tr as f) {p i : Nat} (h : p < as.length) (hi : i < f p - p) : en (slc as p (f p)) i = f (p + i) - p := by
  have l : (slc as p (f p)).length = f p - p := slc_len (T.le p h)
  exact (tree_of (T.opn_sub h)).eq (T.sub h) (by omega)
end Tr
/-! ### the places above -/
def anc (f : Nat → Nat) (p : Nat) : List Nat := (List.range p).filter fun q => decide (p < f q)
theorem anc_mem {f : Nat → Nat} {p q : Nat} : q ∈ anc f p ↔ q < p ∧ p < f q := by
  unfold anc
  rw [List.mem_filter, List.mem_range, decide_eq_true_eq]
theorem last_max : ∀ {l : List Nat} {q : Nat}, l.Pairwise (· < ·) → l.getLast? = some q → ∀ x ∈ l, x ≤ q
  | [], _, _, e, _, _ => by simp at e
  | [a], q, _, e, x, hx => by
    simp at e hx
    omega
  | a :: b :: l, q, pw, e, x, hx => by
    rw [List.getLast?_cons_cons] at e
    obtain ⟨h1, h2⟩ := List.pairwise_cons.mp pw
    have t := last_max h2 e
    rcases List.mem_cons.mp hx with rfl | hx
    · exact Nat.le_of_lt (Nat.lt_of_lt_of_le (h1 b List.mem_cons_self) (t b List.mem_cons_self))
    · exact t x hx
theorem anc_pw (f : Nat → Nat) (p : Nat) : (anc f p).Pairwise (· < ·) := List.Pairwise.sublist List.filter_sublist List.pairwise_lt_range
theorem Tr.anc_last {as : List Nat} {f : Nat → Nat} (T : Tr as f) {p : Nat} (h : p < as.length) (h0 : 0 < p) : ∃ q, ∃ hq : q < as.length, (anc f p).getLast? = some q ∧ q < p ∧ p < f q ∧ ∃ i, i < as[q] ∧ it f i (q + 1) = p := by
  have m0 : 0 ∈ anc f p := anc_mem.mpr ⟨h0, by rw [T.root]; exact h⟩
  cases e : (anc f p).getLast? with
  | none =>
    rw [List.getLast?_eq_none_iff] at e
    rw [e] at m0
    cases m0
  | some q =>
    have mq := List.mem_of_getLast? e
    obtain ⟨q1, q2⟩ := anc_mem.mp mq
    have hq : q < as.length := by omega
    refine ⟨q, hq, rfl, q1, q2, ?_⟩
    obtain ⟨i, hi, c1, c2⟩ := T.in_child hq q1 q2
    refine ⟨i, hi, ?_⟩
    by_cases z : it f i (q + 1) = p
    · exact z
    · rw [it_succ] at c2
      have := last_max (anc_pw f p) e (it f i (q + 1)) (anc_mem.mpr ⟨by omega, c2⟩)
      have := T.child_gt hq (j := i) (by omega)
      omega
/-- the children -/
def chl (f : Nat → Nat) (a p : Nat) : List Nat := (List.range a).map fun i => it f i (p + 1)
/-! ### levels -/
def levN (f : Nat → Nat) : Nat → Nat
  | 0 => 0
  | p + 1 => max (levN f p) (1 + (anc f p).length)
theorem levN_ge {f : Nat → Nat} : ∀ {n p : Nat}, p < n → 1 + (anc f p).length ≤ levN f n
  | 0, p, h => by omega
  | n + 1, p, h => by
    unfold levN
    by_cases e : p = n
    · subst e; omega
    · have := levN_ge (f := f) (n := n) (p := p) (by omega)
      omega
theorem levN_at {f : Nat → Nat} : ∀ {n : Nat}, 0 < n → ∃ p, p < n ∧ levN f n = 1 + (anc f p).length
  | 0, h => by omega
  | n + 1, h => by
    unfold levN
    by_cases c : levN f n ≤ 1 + (anc f n).length
    · exact ⟨n, by omega, by omega⟩
    · by_cases z : n = 0
      · subst z; exact absurd (Nat.zero_le _) c
      · obtain ⟨p, h1, h2⟩ := levN_at (f := f) (n := n) (by omega)
        exact ⟨p, by omega, by omega⟩
theorem anc_congr {f g : Nat → Nat} {p : Nat} (h : ∀ q, q < p → f q = g q) : anc f p = anc g p := List.filter_congr fun q hq => by rw [h q (List.mem_range.mp hq)]
theorem levN_congr {f g : Nat → Nat} : ∀ {n : Nat}, (∀ q, q < n → f q = g q) → levN f n = levN g n
  | 0, _ => rfl
  | n + 1, h => by
    unfold levN
    rw [levN_congr (n := n) fun q hq => h q (by omega), anc_congr (p := n) fun q hq => h q (by omega)]
/-- one place more above within a child -/
theorem Tr.anc_child {as : List Nat} {f : Nat → Nat} (T : Tr as f) {p i r : Nat} (h : p < as.length) (hi : i < as[p]) (h1 : it f i (p + 1) ≤ r) (h2 : r < it f (i + 1) (p + 1)) :
    (anc (sh f p) (r - p)).length = 1 + (anc (sh f (it f i (p + 1))) (r - it f i (p + 1))).length := by
  obtain ⟨c, ec⟩ : ∃ c, c = it f i (p + 1) := ⟨_, rfl⟩
  have cp := T.child_gt h (j := i) (by omega)
  have cl := T.child_lt h hi
  have le := T.le p h
  have up := T.child_le h (j := i + 1) (by omega)
  rw [← ec] at h1 cp cl ⊢
  have e : r - p = 1 + (c - p - 1) + (r - c) := by omega
  have mid : ∀ j, j < c - p - 1 → f (p + (1 + j)) ≤ r := by
    intro j hj
    obtain ⟨t, ht, d1, d2⟩ := T.in_child h (q := p + (1 + j)) (by omega) (by omega)
    have lt : t < i := by
      rcases Nat.lt_or_ge t i with q | q
      · exact q
      · have := T.mono h (i := i) (j := t) q (by omega)
        omega
    have g1 := T.child_gt h (j := t) (by omega)
    have g2 := T.child_lt h (j := t) (by omega)
    rw [it_succ] at d2
    have := T.nest (p := it f t (p + 1)) (q := p + (1 + j)) (by omega) d1 d2
    have := T.mono h (i := t + 1) (j := i) (by omega) (by omega)
    rw [it_succ] at this
    omega
  unfold anc
  have e0 : List.range (r - p) = [0] ++ ((List.range (c - p - 1)).map fun j => 1 + j) ++ ((List.range (r - c)).map fun j => (1 + (c - p - 1)) + j) := by
    rw [e, List.range_add, List.range_add]
    rfl
  rw [e0, List.filter_append, List.filter_append, List.length_append, List.length_append]
  have p1 : ([0].filter fun q => decide (r - p < sh f p q)).length = 1 := by
    have : decide (r - p < sh f p 0) = true := decide_eq_true (by show r - p < f (p + 0) - p; rw [Nat.add_zero]; omega)
    rw [List.filter_cons, this]
    rfl
  have p2 : (((List.range (c - p - 1)).map fun j => 1 + j).filter fun q => decide (r - p < sh f p q)).length = 0 := by
    rw [List.length_eq_zero_iff, List.filter_eq_nil_iff]
    intro x hx
    obtain ⟨j, hj, rfl⟩ := List.mem_map.mp hx
    have := mid j (List.mem_range.mp hj)
    rw [decide_eq_true_eq]
    show ¬ (r - p < f (p + (1 + j)) - p)
    omega
  rw [p1, p2, List.filter_map, List.length_map]
  have : (List.range (r - c)).filter ((fun q => decide (r - p < sh f p q)) ∘ fun j => (1 + (c - p - 1)) + j) = (List.range (r - c)).filter fun q => decide (r - c < sh f c q) := by
    refine List.filter_congr fun j hj => ?_
    show decide (r - p < f (p + (1 + (c - p - 1) + j)) - p) = decide (r - c < f (c + j) - c)
    rw [show p + (1 + (c - p - 1) + j) = c + j from by omega, decide_eq_decide]
    omega
  rw [this]
/-- the greatest of a row, at least 0 -/
def mx (l : List Nat) : Nat := l.foldr max 0
theorem mx_ge {l : List Nat} : ∀ {x : Nat}, x ∈ l → x ≤ mx l := by
  induction l with
  | nil => intro x h; cases h
  | cons a l ih =>
    intro x h
    show x ≤ max a (mx l)
    rcases List.mem_cons.mp h with rfl | h
    · omega
    · have := ih h; omega
theorem mx_at : ∀ l : List Nat, mx l = 0 ∨ mx l ∈ l
  | [] => .inl rfl
  | a :: l => by
    have e : mx (a :: l) = max a (mx l) := rfl
    rw [e]
    by_cases c : mx l ≤ a
    · rw [Nat.max_eq_left c]; exact .inr List.mem_cons_self
    · rw [Nat.max_eq_right (by omega)]
      rcases mx_at l with h | h
      · omega
      · exact .inr (List.mem_cons_of_mem _ h)
/-- the levels of the subtree at p -/
def levS (f : Nat → Nat) (p : Nat) : Nat := levN (sh f p) (f p - p)
theorem Tr.lev_rec {as : List Nat} {f : Nat → Nat} (T : Tr as f) {p : Nat} (h : p < as.length) : levS f p = 1 + mx ((chl f as[p] p).map (levS f)) := by
  have lt := T.lt p h
  refine Nat.le_antisymm ?_ ?_
  · obtain ⟨j, hj, e⟩ := levN_at (f := sh f p) (n := f p - p) (by omega)
    have e' : levS f p = 1 + (anc (sh f p) j).length := e
    rw [e']
    by_cases z : j = 0
    · subst z
      show 1 + 0 ≤ _
      omega
    · obtain ⟨i, hi, c1, c2⟩ := T.in_child h (q := p + j) (by omega) (by omega)
      have := T.anc_child h hi c1 c2
      rw [Nat.add_sub_cancel_left] at this
      rw [this]
      have m : levS f (it f i (p + 1)) ∈ (chl f as[p] p).map (levS f) := List.mem_map.mpr ⟨_, List.mem_map.mpr ⟨i, List.mem_range.mpr hi, rfl⟩, rfl⟩
      have := mx_ge m
      rw [it_succ] at c2
      have := levN_ge (f := sh f (it f i (p + 1))) (n := f (it f i (p + 1)) - it f i (p + 1)) (p := p + j - it f i (p + 1)) (by omega)
      unfold levS at *
      omega
  · rcases mx_at ((chl f as[p] p).map (levS f)) with z | m
    · rw [z]
      have := levN_ge (f := sh f p) (n := f p - p) (p := 0) (by omega)
      unfold levS
      omega
    · obtain ⟨c, hc, e⟩ := List.mem_map.mp m
      obtain ⟨i, hi, rfl⟩ := List.mem_map.mp hc
      have hi := List.mem_range.mp hi
      have cl := T.child_lt h hi
      have cg := T.child_gt h (j := i) (by omega)
      have le := T.le p h
      have lc := T.lt (it f i (p + 1)) (by omega)
      obtain ⟨j, hj, e2⟩ := levN_at (f := sh f (it f i (p + 1))) (n := f (it f i (p + 1)) - it f i (p + 1)) (by omega)
      have up := T.child_le h (j := i + 1) (by omega)
      have c2 : it f i (p + 1) + j < it f (i + 1) (p + 1) := by rw [it_succ]; omega
      have a := T.anc_child h hi (r := it f i (p + 1) + j) (by omega) c2
      rw [Nat.add_sub_cancel_left] at a
      have g := levN_ge (f := sh f p) (n := f p - p) (p := it f i (p + 1) + j - p) (by rw [it_succ] at up c2; omega)
      unfold levS at *
      omega
end PITree
set_option maxRecDepth 100000
set_option maxHeartbeats 1000000
namespace PITree
open PI
open PySem (PyData Str)
local macro_rules | `(tactic| walk_at "set") => `(tactic| with_reducible refine wS_n (by simp only [List.set_cons_succ, List.set_cons_zero]; exact rfl) ?_)
local macro_rules | `(tactic| walk_at "one") => `(tactic| first | with_reducible refine x_wcons ?_ | with_reducible refine x_wnil ?_ | with_reducible refine x_wasg ?_ | with_reducible refine t_varN ?_ | walk_at "set" | with_reducible refine w_var (by with_unfolding_all exact rfl) ?_ | with_reducible refine w_cst ?_ | with_reducible refine w_bin ?_ | with_reducible refine w_cmp ?_ | with_reducible refine w_call ?_ | with_reducible refine w_cons ?_ | with_reducible refine w_nil ?_ | with_reducible refine w_prim ?_ | with_reducible refine wB_b ?_ | with_reducible refine wI_t ?_ | with_reducible refine wI_f ?_ | with_reducible refine wI_n ?_ | with_reducible refine wN_i ?_ | with_reducible refine x_wcond ?_ | with_reducible refine x_wret ?_ | with_reducible refine x_wexpr ?_ | with_reducible refine x_wpar ?_ | with_reducible refine sa_consN ?_ | with_reducible refine sa_nil ?_ | with_reducible refine w_add ?_ | with_reducible refine w_sub ?_ | with_reducible refine c_wlt ?_ | with_reducible refine c_wle ?_ | with_reducible refine c_weq ?_ | with_reducible refine c_wne ?_ | with_reducible refine c_wgt ?_ | with_reducible refine c_wge ?_ | with_reducible refine c_weqs ?_ | with_reducible refine c_wnes ?_ | with_reducible refine w_idx ?_ | with_reducible refine w_not ?_ | with_reducible refine w_andE ?_ | with_reducible refine w_orE ?_ | with_reducible refine w_ite ?_ | with_reducible refine w_cmp2 ?_ | with_reducible refine w_tup ?_ | with_reducible refine w_lst ?_ | with_reducible refine w_len (by with_unfolding_all exact rfl) ?_ | with_reducible refine w_mk ?_ | with_reducible refine w_mkt ?_ | with_reducible refine w_slice ?_ | with_reducible refine wOpt_n ?_ | with_reducible refine wOpt_s ?_ | with_reducible refine s_wtup ?_ | with_reducible refine s_wlst ?_ | with_reducible refine w_meth ?_ | with_reducible refine w_app (by assumption) ?_ | with_reducible refine w_popT (by assumption) ?_ | with_reducible refine w_isi ?_ | with_reducible refine w_ty (by with_unfolding_all exact rfl) ?_ | with_reducible refine w_neg ?_ | with_reducible refine w_dix ?_ | with_reducible refine w_dget ?_ | with_reducible refine w_din ?_ | with_reducible refine w_dsome ?_ | with_reducible refine w_dk ?_ | with_reducible refine w_slot ?_ | with_reducible refine w_ownm ?_ | with_reducible refine w_ownp ?_ | with_reducible refine w_ownl ?_ | with_reducible refine w_owns ?_ | with_reducible refine w_owni ?_ | with_reducible refine w_ownn ?_ | with_reducible refine w_sl (by assumption) ?_ | with_reducible refine w_slg (by assumption) (by with_unfolding_all exact rfl) ?_ | with_reducible refine w_fstr ?_ | with_reducible refine p_wlenT ?_ | with_reducible refine p_wlenL ?_ | with_reducible refine p_wlenD ?_ | with_reducible refine p_wlenH (by assumption) ?_ | with_reducible refine p_wmax ?_ | with_reducible refine p_wmin ?_ | with_reducible refine p_wtupL ?_ | with_reducible refine p_wtupH (by assumption) ?_ | with_reducible refine p_wlistT ?_ | with_reducible refine p_wlistL ?_ | with_reducible refine x_wbrk ?_ | with_reducible refine x_wcont ?_ | with_reducible refine x_wpass ?_ | with_reducible refine x_wretN ?_ | with_reducible refine x_waugN (by with_unfolding_all exact rfl) ?_ | with_reducible refine x_wraise ?_ | with_reducible refine x_wtry ?_ | with_reducible refine x_weach ?_ | with_reducible refine x_wrng1 ?_ | with_reducible refine x_wrng2 ?_ | with_reducible refine x_wrng3 ?_ | with_reducible refine w_srcT ?_ | with_reducible refine w_srcL ?_ | with_reducible refine w_srcH (by assumption) ?_ | with_reducible refine wO_seq ?_ | with_reducible refine t_tup rfl ?_ | with_reducible refine t_cons ?_ | with_reducible refine t_nil ?_ | with_reducible refine t_idx ?_ | with_reducible refine t_dix ?_ | with_reducible refine t_slot ?_ | with_reducible refine w_newo ?_ | with_reducible refine w_mkD ?_ | with_reducible refine w_mkDt ?_ | with_reducible refine w_dct0 ?_ | with_reducible refine w_tr (by with_unfolding_all exact rfl) ?_)
local macro_rules | `(tactic| walk_at "pi") => `(tactic| repeat walk_at "one")
local macro_rules | `(tactic| walk_at "def") => `(tactic| (simp only [List.map_cons, List.map_nil, List.cons_append, List.nil_append, List.length_cons, List.length_nil, Nat.reduceAdd, Nat.reduceSub, List.replicate]))
local macro_rules | `(tactic| walk_at "len") => `(tactic| first | omega | (simp only [List.length_map, List.length_append, List.length_cons, List.length_nil]; omega))
theorem wO_cut {o : Out} {N N' : Rho → AH → Prop} {R : D → AH → Prop} {B C : Rho → AH → Prop} {X : Nat → D → Rho → AH → Prop} (w : wO o N' R B C X) (n : ∀ ρ h, N' ρ h → N ρ h) : wO o N R B C X := wO_mono w n (fun _ _ z => z) (fun _ _ z => z) (fun _ _ z => z) fun _ _ _ _ z => z
theorem opn_app (g : Str → Option Int) (w : Str) : ∀ (us : List Str) (l : Int), opn g (us ++ [w]) l = (opn g us l).bind fun k => if k = 0 then none else some (k + ((g w).getD 0 - 1))
  | [], l => by
    show (if l = 0 then none else opn g [] (l + ((g w).getD 0 - 1))) = _
    rfl
  | u :: us, l => by
    show (if l = 0 then none else opn g (us ++ [w]) (l + ((g u).getD 0 - 1))) = (if l = 0 then none else opn g us (l + ((g u).getD 0 - 1))).bind _
    split
    · rfl
    · exact opn_app g w us _
abbrev lDrawn (iP : Nat) : List S := [.cond (.cmp .eq (.var 4) (.cst (.int 0)))
  [.brk]
  [],
  .asg (.var 8) (.call iP [.var 0, .ite (.cmp .lt (.bin false .add (.prim false .len [.var 3]) (.var 4)) (.var 2)) (.var 5) (.var 6)]),
  .expr (.meth .append (.var 3) [.var 8]),
  .asg (.var 4) (.bin false .add (.bin false .sub (.var 4) (.cst (.int 1))) (.dix (.var 1) (.var 8)))]
def bDrawn (iP : Nat) : List S := [.par [3, 4, 5] [.lst true [], .cst (.int 1), .prim false .sorted [.var 1]],
  .asg (.var 6) (.comp false 8 (.var 5) (some (.cmp .eq (.dix (.var 1) (.var 8)) (.cst (.int 0)))) (.var 8)),
  .rng (.var 7) [.bin false .add (.bin false .mul (.cst (.int 2)) (.var 2)) (.cst (.int 3))]
  (lDrawn iP),
  .ret (.prim false .tuple [.var 3])]
/-- a drawn tree: its words are known, and all open ends are closed -/
structure Tree (ar : Ar) (us : List Str) : Prop where
  kn : ∀ u ∈ us, u ∈ srt ar
  cl : opn (gt ar) us 1 = some 0
  ne : us ≠ []
section
variable {P : List FnDecl} {N : Nat} {h : AH} {ar : Ar} {iR iP iD : Nat}
theorem drawn_tree (hR : P[iR]? = some ⟨2, 5, bRoll⟩) (hP : P[iP]? = some ⟨2, 2, bPick iR⟩) (hD : P[iD]? = some ⟨3, 9, bDrawn iP⟩) (A : Ari ar) {a : Nat} {m cap : Int} (dc : Dice h a m) (hm : m < 2 ^ 38) (hc0 : 1 ≤ cap) (hc1 : cap ≤ 10000) :
    wR (run P (N + 3) iD [.loc a, .dct (kvD ar), .int cap] h) (fun d h' => ∃ us : List Str, d = .tup (us.map D.str) ∧ Tree ar us ∧ (us.length : Int) ≤ cap + 1 ∧ Dice h' a (m + (2 * cap + 3)) ∧ Frame a h h') noX := by
  have ha := dc.lt
  have ls := srt_len A
  refine w_run hD rfl ?_
  walk_at "def"
  unfold bDrawn
  walk_at "pi"
  rw [p_sorted A.len]
  walk_at "pi"
  refine wR_eq (csts_ok (k := 0) A rfl rfl (by show 8 < 9; decide) (by decide) (by decide)) ?_
  walk_at "pi"
  refine ⟨small62_of (by omega) (by omega), ?_⟩
  obtain ⟨c, ec⟩ : ∃ c, c = h.length := ⟨_, rfl⟩
  obtain ⟨nm, en⟩ : ∃ nm, nm = (srt ar).map D.str := ⟨_, rfl⟩
  obtain ⟨cs, es⟩ : ∃ cs, cs = (csts ar).map D.str := ⟨_, rfl⟩
  have lcs : (csts ar).length ≤ 8 := Nat.le_trans (List.length_filter_le _ _) ls
  have n1 : nm ≠ [] := by rw [en]; simp [srt_ne A]
  have n2 : cs ≠ [] := by rw [es]; simp [csts_ne A]
  rw [← en, ← es, ← ec]
  refine wO_cut (N' := fun ρ h' => ∃ (us : List Str) (o7 o8 : Option D), ρ = [some (.loc a), some (.dct (kvD ar)), some (.int cap), some (.loc c), some (.int 0), some (.lst nm), some (.lst cs), o7, o8] ∧ h'[c]? = some (.lst (us.map D.str)) ∧ opn (gt ar) us 1 = some 0 ∧ us ≠ [] ∧ (us.length : Int) ≤ cap + 1 ∧ (∀ u ∈ us, u ∈ srt ar) ∧ Dice h' a (m + (2 * cap + 3)) ∧ Frame a h h') ?_ ?_
  · refine goF_w (fun i ρ h' => ∃ (us : List Str) (l : Int) (o7 o8 : Option D), ρ = [some (.loc a), some (.dct (kvD ar)), some (.int cap), some (.loc c), some (.int l), some (.lst nm), some (.lst cs), o7, o8] ∧ h'[c]? = some (.lst (us.map D.str)) ∧ us.length = i ∧ opn (gt ar) us 1 = some l ∧ 0 ≤ l ∧ (i = 0 → l = 1) ∧ (us.length : Int) + l ≤ cap + 1 ∧ (∀ u ∈ us, u ∈ srt ar) ∧ Dice h' a (m + i) ∧ Frame a h h' ∧ c < h'.length)
      ⟨[], 1, none, none, rfl, by rw [ec]; simp, rfl, rfl, by decide, fun _ => rfl, by show (0 : Int) + 1 ≤ _; omega, fun _ z => (List.not_mem_nil z).elim, (dc.push _).mono (by omega), Frame.push a h _, by rw [ec]; simp⟩ (fun _ _ _ _ _ => rfl) ?_ ?_
    · rintro i ρ h1 x ⟨us, l, o7, o8, rfl, g1, g2, g3, g4, g5, g6, g7, g8, g9, g10⟩ hx hi
      obtain ⟨rfl, hlt⟩ := rangeD_get hx
      rw [rangeD_len] at hi
      walk_at "pi"
      refine wI_d (fun z => ?_) (fun z => ?_)
      · subst z
        walk_at "pi"
        have i0 : i ≠ 0 := fun z => absurd (g5 z) (by decide)
        refine ⟨us, _, _, rfl, g1, g3, ?_, by omega, g7, g8.mono (by omega), g9⟩
        intro q
        rw [q] at g2
        exact i0 g2.symm
      · walk_at "pi"
        have go : ∀ L : List D, L ≠ [] → L.length ≤ 8 → (∀ x ∈ L, ∃ s ∈ srt ar, x = .str s ∧ ∀ k, gt ar s = some k → (us.length : Int) + l + k ≤ cap + 1) → ∃ s h2, run P (N + 2) iP [.loc a, .lst L] h1 = .ok (.str s) h2 ∧ s ∈ srt ar ∧ (∀ k, gt ar s = some k → (us.length : Int) + l + k ≤ cap + 1) ∧ Dice h2 a (m + i + 1) ∧ Frame a h1 h2 ∧ h2.length = h1.length := by
          intro L h0 h8 hL
          obtain ⟨v, h2, e2, v2, d2, f2, l2⟩ := pick_ok hR hP N (d := .lst L) (xs := L) g8 (by omega) (by intro s z; cases z) (fun _ _ => rfl) h0 (by omega)
          obtain ⟨s, hs, rfl, hk⟩ := hL v v2
          exact ⟨s, h2, e2, hs, hk, d2, f2, l2⟩
        have nxt : ∀ (L : List D) {Q : D → AH → Prop} {X : Nat → D → AH → Prop}, L ≠ [] → L.length ≤ 8 → (∀ x ∈ L, ∃ s ∈ srt ar, x = .str s ∧ ∀ k, gt ar s = some k → (us.length : Int) + l + k ≤ cap + 1) → (∀ s h2, s ∈ srt ar → (∀ k, gt ar s = some k → (us.length : Int) + l + k ≤ cap + 1) → Dice h2 a (m + i + 1) → Frame a h1 h2 → h2.length = h1.length → Q (.str s) h2) → wR (run P (N + 2) iP [.loc a, .lst L] h1) Q X := by
          intro L Q X h0 h8 hL k
          obtain ⟨s, h2, e2, q1, q2, q3, q4, q5⟩ := go L h0 h8 hL
          exact wR_eq e2 (k s h2 q1 q2 q3 q4 q5)
        have fin : ∀ s h2, s ∈ srt ar → (∀ k, gt ar s = some k → (us.length : Int) + l + k ≤ cap + 1) → Dice h2 a (m + i + 1) → Frame a h1 h2 → h2.length = h1.length → wO (evSs (run P (N + 2)) [.expr (.meth .append (.var 3) [.var 8]), .asg (.var 4) (.bin false .add (.bin false .sub (.var 4) (.cst (.int 1))) (.dix (.var 1) (.var 8)))] [some (.loc a), some (.dct (kvD ar)), some (.int cap), some (.loc c), some (.int l), some (.lst nm), some (.lst cs), some (.int (0 + (i : Int))), some (.str s)] h2)
            (fun ρ h' => ∃ (us : List Str) (l : Int) (o7 o8 : Option D), ρ = [some (.loc a), some (.dct (kvD ar)), some (.int cap), some (.loc c), some (.int l), some (.lst nm), some (.lst cs), o7, o8] ∧ h'[c]? = some (.lst (us.map D.str)) ∧ us.length = i + 1 ∧ opn (gt ar) us 1 = some l ∧ 0 ≤ l ∧ (i + 1 = 0 → l = 1) ∧ (us.length : Int) + l ≤ cap + 1 ∧ (∀ u ∈ us, u ∈ srt ar) ∧ Dice h' a (m + (i + 1 : Nat)) ∧ Frame a h h' ∧ c < h'.length) (fun _ _ => False) (fun _ _ => False) (fun _ _ => False) (fun _ _ _ _ => False) := by
          intro s h2 hs hk d2 f2 l2
          obtain ⟨k, hg, k0, k2⟩ := gt_at A hs
          have hkk := hk k hg
          have c2 : h2[c]? = some (.lst (us.map D.str)) := by rw [f2.same c (by omega) g10]; exact g1
          walk_at "pi"
          refine m_wappN c2 (by rw [List.length_map]; omega) ?_
          walk_at "pi"
          refine w_dfk (d := .int k) (by rw [dfind_kv, hg]; rfl) ?_
          walk_at "pi"
          refine ⟨us ++ [s], l - 1 + k, _, _, rfl, ?_, by rw [List.length_append, g2]; rfl, ?_, by omega, fun z => by omega, by rw [List.length_append]; show ((us.length + 1 : Nat) : Int) + _ ≤ _; omega, fun u hu => ?_, (d2.put (by omega)).mono (by omega), ?_, by rw [put_len]; omega⟩
          · rw [put_at (by omega), List.map_append]
            rfl
          · rw [opn_app, g3, hg]
            show (if l = 0 then none else some (l + (k - 1))) = _
            rw [if_neg z]
            congr 1
            omega
          · rcases List.mem_append.mp hu with hu | hu
            · exact g7 u hu
            · have : u = s := by simpa using hu
              subst this
              exact hs
          · refine ⟨by rw [put_len]; exact Nat.le_trans g9.len (by omega), fun n hn hl => ?_⟩
            rw [put_ne (by omega), f2.same n hn (Nat.lt_of_lt_of_le hl g9.len)]
            exact g9.same n hn hl
        refine wI_d (fun lt => ?_) (fun ge => ?_)
        · rw [List.length_map] at lt
          walk_at "pi"
          refine nxt nm n1 (by rw [en, List.length_map]; exact ls) (fun x hx => ?_) fun s h2 q1 q2 q3 q4 q5 => ?_
          · rw [en] at hx
            obtain ⟨s, hs, rfl⟩ := List.mem_map.mp hx
            refine ⟨s, hs, rfl, fun k hk => ?_⟩
            obtain ⟨k', hk', _, k2⟩ := gt_at A hs
            rw [hk] at hk'
            cases hk'
            omega
          · refine t_varN ?_
            walk_at "set"
            exact wO_mono (fin s h2 q1 q2 q3 q4 q5) (fun _ _ z => z) (fun _ _ z => z.elim) (fun _ _ z => z.elim) (fun _ _ z => z.elim) fun _ _ _ _ z => z.elim
        · rw [List.length_map] at ge
          walk_at "pi"
          refine nxt cs n2 (by rw [es, List.length_map]; exact lcs) (fun x hx => ?_) fun s h2 q1 q2 q3 q4 q5 => ?_
          · rw [es] at hx
            obtain ⟨s, hs, rfl⟩ := List.mem_map.mp hx
            obtain ⟨q1, q2⟩ := List.mem_filter.mp hs
            refine ⟨s, q1, rfl, fun k hk => ?_⟩
            have := of_decide_eq_true q2
            rw [hk] at this
            cases this
            omega
          · refine t_varN ?_
            walk_at "set"
            exact wO_mono (fin s h2 q1 q2 q3 q4 q5) (fun _ _ z => z) (fun _ _ z => z.elim) (fun _ _ z => z.elim) (fun _ _ z => z.elim) fun _ _ _ _ z => z.elim
    · rintro ρ h1 ⟨us, l, o7, o8, rfl, g1, g2, g3, g4, g5, g6, g7, g8, g9, g10⟩
      rw [rangeD_len] at g2
      omega
  · rintro ρ h1 ⟨us, o7, o8, rfl, g1, g3, g5, g6, g7, g8, g9⟩
    walk_at "pi"
    exact ⟨us, rfl, ⟨g7, g3, g5⟩, g6, g8, g9⟩
end
end PITree
set_option maxRecDepth 100000
set_option maxHeartbeats 1000000
namespace PITree
open PI
open PySem (PyData Str)
local macro_rules | `(tactic| walk_at "set") => `(tactic| with_reducible refine wS_n (by simp only [List.set_cons_succ, List.set_cons_zero]; exact rfl) ?_)
local macro_rules | `(tactic| walk_at "one") => `(tactic| first | with_reducible refine x_wcons ?_ | with_reducible refine x_wnil ?_ | with_reducible refine x_wasg ?_ | with_reducible refine t_varN ?_ | walk_at "set" | with_reducible refine w_var (by with_unfolding_all exact rfl) ?_ | with_reducible refine w_cst ?_ | with_reducible refine w_bin ?_ | with_reducible refine w_cmp ?_ | with_reducible refine w_call ?_ | with_reducible refine w_cons ?_ | with_reducible refine w_nil ?_ | with_reducible refine w_prim ?_ | with_reducible refine wB_b ?_ | with_reducible refine wI_t ?_ | with_reducible refine wI_f ?_ | with_reducible refine wI_n ?_ | with_reducible refine wN_i ?_ | with_reducible refine x_wcond ?_ | with_reducible refine x_wret ?_ | with_reducible refine x_wexpr ?_ | with_reducible refine x_wpar ?_ | with_reducible refine sa_consN ?_ | with_reducible refine sa_nil ?_ | with_reducible refine w_add ?_ | with_reducible refine w_sub ?_ | with_reducible refine c_wlt ?_ | with_reducible refine c_wle ?_ | with_reducible refine c_weq ?_ | with_reducible refine c_wne ?_ | with_reducible refine c_wgt ?_ | with_reducible refine c_wge ?_ | with_reducible refine c_weqs ?_ | with_reducible refine c_wnes ?_ | with_reducible refine w_idx ?_ | with_reducible refine w_not ?_ | with_reducible refine w_andE ?_ | with_reducible refine w_orE ?_ | with_reducible refine w_ite ?_ | with_reducible refine w_cmp2 ?_ | with_reducible refine w_tup ?_ | with_reducible refine w_lst ?_ | with_reducible refine w_len (by with_unfolding_all exact rfl) ?_ | with_reducible refine w_mk ?_ | with_reducible refine w_mkt ?_ | with_reducible refine w_slice ?_ | with_reducible refine wOpt_n ?_ | with_reducible refine wOpt_s ?_ | with_reducible refine s_wtup ?_ | with_reducible refine s_wlst ?_ | with_reducible refine w_meth ?_ | with_reducible refine w_app (by assumption) ?_ | with_reducible refine w_popT (by assumption) ?_ | with_reducible refine w_isi ?_ | with_reducible refine w_ty (by with_unfolding_all exact rfl) ?_ | with_reducible refine w_neg ?_ | with_reducible refine w_dix ?_ | with_reducible refine w_dget ?_ | with_reducible refine w_din ?_ | with_reducible refine w_dsome ?_ | with_reducible refine w_dk ?_ | with_reducible refine w_slot ?_ | with_reducible refine w_ownm ?_ | with_reducible refine w_ownp ?_ | with_reducible refine w_ownl ?_ | with_reducible refine w_owns ?_ | with_reducible refine w_owni ?_ | with_reducible refine w_ownn ?_ | with_reducible refine w_sl (by assumption) ?_ | with_reducible refine w_slg (by assumption) (by with_unfolding_all exact rfl) ?_ | with_reducible refine w_fstr ?_ | with_reducible refine p_wlenT ?_ | with_reducible refine p_wlenL ?_ | with_reducible refine p_wlenD ?_ | with_reducible refine p_wlenH (by assumption) ?_ | with_reducible refine p_wmax ?_ | with_reducible refine p_wmin ?_ | with_reducible refine p_wtupL ?_ | with_reducible refine p_wtupH (by assumption) ?_ | with_reducible refine p_wlistT ?_ | with_reducible refine p_wlistL ?_ | with_reducible refine x_wbrk ?_ | with_reducible refine x_wcont ?_ | with_reducible refine x_wpass ?_ | with_reducible refine x_wretN ?_ | with_reducible refine x_waugN (by with_unfolding_all exact rfl) ?_ | with_reducible refine x_wraise ?_ | with_reducible refine x_wtry ?_ | with_reducible refine x_weach ?_ | with_reducible refine x_wrng1 ?_ | with_reducible refine x_wrng2 ?_ | with_reducible refine x_wrng3 ?_ | with_reducible refine w_srcT ?_ | with_reducible refine w_srcL ?_ | with_reducible refine w_srcH (by assumption) ?_ | with_reducible refine wO_seq ?_ | with_reducible refine t_tup rfl ?_ | with_reducible refine t_cons ?_ | with_reducible refine t_nil ?_ | with_reducible refine t_idx ?_ | with_reducible refine t_dix ?_ | with_reducible refine t_slot ?_ | with_reducible refine w_newo ?_ | with_reducible refine w_mkD ?_ | with_reducible refine w_mkDt ?_ | with_reducible refine w_dct0 ?_ | with_reducible refine w_tr (by with_unfolding_all exact rfl) ?_)
local macro_rules | `(tactic| walk_at "pi") => `(tactic| repeat walk_at "one")
local macro_rules | `(tactic| walk_at "def") => `(tactic| (simp only [List.map_cons, List.map_nil, List.cons_append, List.nil_append, List.length_cons, List.length_nil, Nat.reduceAdd, Nat.reduceSub, List.replicate]))
local macro_rules | `(tactic| walk_at "len") => `(tactic| first | omega | (simp only [List.length_map, List.length_append, List.length_cons, List.length_nil]; omega))
/-! ### words as arities -/
def asN (g : Str → Option Int) (ts : List Str) : List Nat := ts.map fun w => ((g w).getD 0).toNat
theorem opn_N {g : Str → Option Int} : ∀ {ts : List Str} {l : Nat}, (∀ w ∈ ts, 0 ≤ (g w).getD 0) → opn g ts l = (opnN (asN g ts) l).map fun k : Nat => (k : Int)
  | [], l, _ => rfl
  | w :: ts, l, h => by
    have h0 := h w List.mem_cons_self
    show (if (l : Int) = 0 then none else opn g ts ((l : Int) + ((g w).getD 0 - 1))) = (if l = 0 then none else opnN (asN g ts) (l - 1 + ((g w).getD 0).toNat)).map _
    by_cases z : l = 0
    · subst z; rfl
    · rw [if_neg (by omega), if_neg z]
      have : (l : Int) + ((g w).getD 0 - 1) = ((l - 1 + ((g w).getD 0).toNat : Nat) : Int) := by omega
      rw [this]
      exact opn_N fun v hv => h v (List.mem_cons_of_mem _ hv)
section
variable {ar : Ar} {ts : List Str}
theorem Tree.nn (A : Ari ar) (t : Tree ar ts) : ∀ w ∈ ts, 0 ≤ (gt ar w).getD 0 := fun w hw => by
  obtain ⟨i, e, h0, _⟩ := gt_at A (t.kn w hw)
  rw [e]
  exact h0
theorem Tree.opn1 (A : Ari ar) (t : Tree ar ts) : opnN (asN (gt ar) ts) 1 = some 0 := by
  have := opn_N (g := gt ar) (ts := ts) (l := 1) (t.nn A)
  have c := t.cl
  rw [show ((1 : Nat) : Int) = 1 from rfl, c] at this
  cases e : opnN (asN (gt ar) ts) 1 with
  | none => rw [e] at this; cases this
  | some k =>
    rw [e] at this
    have h0 : (0 : Int) = (k : Int) := Option.some.inj this
    congr 1
    omega
theorem Tree.tr (A : Ari ar) (t : Tree ar ts) : Tr (asN (gt ar) ts) (en (asN (gt ar) ts)) := tree_of (t.opn1 A)
theorem asN_len {g : Str → Option Int} : (asN g ts).length = ts.length := List.length_map ..
theorem asN_get {g : Str → Option Int} {p : Nat} (h : p < ts.length) : (asN g ts)[p]'(by rw [asN_len]; exact h) = ((g ts[p]).getD 0).toNat := by
  unfold asN
  rw [List.getElem_map]
theorem asN_slc {g : Str → Option Int} {x y : Nat} : asN g (slc ts x y) = slc (asN g ts) x y := by
  unfold asN slc
  rw [List.map_take, List.map_drop]
end
/-- the ends, as data -/
def nI (l : List Nat) : List D := l.map fun k : Nat => D.int (k : Int)
theorem nI_snoc {l : List Nat} {k : Nat} : nI (l ++ [k]) = nI l ++ [.int k] := by unfold nI; rw [List.map_append]; rfl
def endsD (as : List Nat) : List D := nI (sk as 0).1
theorem endsD_len {as : List Nat} : (endsD as).length = as.length := by unfold endsD nI; rw [List.length_map, sk_len1]
theorem endsD_get {as : List Nat} {p : Nat} (h : p < as.length) : (endsD as)[p]? = some (.int (en as p)) := by
  unfold endsD nI en
  rw [List.getElem?_map, List.getElem?_eq_getElem (by rw [sk_len1]; exact h)]
  rfl
/-! ### the heap only grows -/
def Grow (h h' : AH) : Prop := ∃ l, h' = h ++ l
theorem Grow.refl (h : AH) : Grow h h := ⟨[], by rw [List.append_nil]⟩
theorem Grow.trans {a b c : AH} (x : Grow a b) (y : Grow b c) : Grow a c := by
  obtain ⟨l, rfl⟩ := x
  obtain ⟨m, rfl⟩ := y
  exact ⟨l ++ m, by rw [List.append_assoc]⟩
theorem Grow.push (h l : AH) : Grow h (h ++ l) := ⟨l, rfl⟩
theorem Grow.dice {h h' : AH} {a : Nat} {m : Int} (g : Grow h h') (d : Dice h a m) : Dice h' a m := by
  obtain ⟨l, rfl⟩ := g
  exact d.push l
theorem Grow.ops {h h' : AH} {p : Nat} {ar : Ar} {ls : List D} (g : Grow h h') (o : Ops h p ar ls) : Ops h' p ar ls := by
  obtain ⟨l, rfl⟩ := g
  exact o.push l
theorem Grow.frame {h h' : AH} {a : Nat} (g : Grow h h') : Frame a h h' := by
  obtain ⟨l, rfl⟩ := g
  exact Frame.push a h l
theorem Grow.at_ {h h' : AH} {n : Nat} {o : AO} (g : Grow h h') (e : h[n]? = some o) : h'[n]? = some o := by
  obtain ⟨l, rfl⟩ := g
  rw [List.getElem?_append_left (List.getElem?_eq_some_iff.mp e).1]
  exact e
theorem two_at0 {h : AH} {A B : AO} : (h ++ [A, B])[h.length]? = some A := by simp
theorem two_at1 {h : AH} {A B : AO} : (h ++ [A, B])[h.length + 1]? = some B := by simp
theorem two_put0 {h : AH} {A B : AO} {xs : List D} : put h.length xs (h ++ [A, B]) = h ++ [.lst xs, B] := by
  unfold put
  rw [List.set_append, if_neg (Nat.lt_irrefl _), Nat.sub_self]
  rfl
theorem two_put1 {h : AH} {A B : AO} {xs : List D} : put (h.length + 1) xs (h ++ [A, B]) = h ++ [A, .lst xs] := by
  unfold put
  rw [List.set_append, if_neg (by omega), Nat.add_sub_cancel_left]
  rfl
abbrev lEnds (ea : E) : List S := [.asg (.var 5) (.bin false .add (.var 4) (.cst (.int 1))),
  .rng (.var 6) [ea]
  [.asg (.var 5) (.meth .pop (.var 3) [])],
  .expr (.meth .append (.var 3) [.var 5]),
  .asg (.idx (.var 2) (.var 4)) (.var 5)]
section
variable {ar : Ar} {ts : List Str}
/-- the loop of ends_of, and of the law's own stops -/
theorem ends_go (A : Ari ar) (T : Tree ar ts) (hl : ts.length ≤ 16000000) {F : Fn} {h : AH} {ea : E} {d0 d1 o4 o5 o6 : Option D} {tl : Rho} {N : Rho → AH → Prop} {R : D → AH → Prop} {B C : Rho → AH → Prop} {X : Nat → D → Rho → AH → Prop}
    (hea : ∀ (p : Nat) (w : Str) (h' : AH) (o5 o6 : Option D), ts[p]? = some w → evE F ea (d0 :: d1 :: some (.loc h.length) :: some (.loc (h.length + 1)) :: some (.int p) :: o5 :: o6 :: tl) h' = .ok (.int ((gt ar w).getD 0)) h')
    (k : ∀ (o4 o5 o6 : Option D) (st : List Nat), N (d0 :: d1 :: some (.loc h.length) :: some (.loc (h.length + 1)) :: o4 :: o5 :: o6 :: tl) (h ++ [.lst (endsD (asN (gt ar) ts)), .lst (nI st)])) :
    wO (goF (fun x ρ1 h2 => (asT F (.var 4) x ρ1 h2).bind fun ρ2 h3 => evSs F (lEnds ea) ρ2 h3) (fun _ => true) (rangeDn ((ts.length : Int) - 1) (-1)) (d0 :: d1 :: some (.loc h.length) :: some (.loc (h.length + 1)) :: o4 :: o5 :: o6 :: tl) (h ++ [.lst (List.replicate ts.length (.int 0)), .lst []])) N R B C X := by
  obtain ⟨as, eas⟩ : ∃ as, as = asN (gt ar) ts := ⟨_, rfl⟩
  have las : as.length = ts.length := by rw [eas, asN_len]
  have op := T.opn1 A
  rw [← eas] at op k
  refine goF_w (fun i ρ h' => ∃ o4 o5 o6, ρ = d0 :: d1 :: some (.loc h.length) :: some (.loc (h.length + 1)) :: o4 :: o5 :: o6 :: tl ∧ h' = h ++ [.lst (List.replicate (ts.length - i) (.int 0) ++ nI (sk (as.drop (ts.length - i)) (ts.length - i)).1), .lst (nI (sk (as.drop (ts.length - i)) (ts.length - i)).2.reverse)])
    ⟨_, _, _, rfl, by
      rw [Nat.sub_zero, ← las, List.drop_length]
      show _ = h ++ [AO.lst (List.replicate as.length (.int 0) ++ []), .lst []]
      rw [List.append_nil]⟩ (fun _ _ _ _ _ => rfl) ?_ ?_
  · rintro i ρ h' x ⟨o4, o5, o6, rfl, rfl⟩ hx hi
    obtain ⟨rfl, hlt⟩ := rangeDn_get hx
    rw [rangeDn_len] at hi
    have hin : i < ts.length := by omega
    obtain ⟨p, ep⟩ : ∃ p, p + 1 + i = ts.length := ⟨ts.length - 1 - i, by omega⟩
    have e1 : ts.length - i = p + 1 := by omega
    have e2 : ts.length - (i + 1) = p := by omega
    have e3 : (ts.length : Int) - 1 - (i : Int) = (p : Int) := by omega
    have hp : p < as.length := by omega
    have hpt : p < ts.length := by omega
    have hw : ts[p]? = some ts[p] := List.getElem?_eq_getElem hpt
    have hnn := T.nn A ts[p] (List.getElem_mem hpt)
    have hap : as[p] = ((gt ar ts[p]).getD 0).toNat := by
      subst eas
      exact asN_get hpt
    rw [e1, e2, e3]
    obtain ⟨f1, ef1⟩ : ∃ f1, f1 = (sk (as.drop (p + 1)) (p + 1)).1 := ⟨_, rfl⟩
    obtain ⟨st, est⟩ : ∃ st, st = (sk (as.drop (p + 1)) (p + 1)).2 := ⟨_, rfl⟩
    obtain ⟨q, hq⟩ := opn_suffix as 1 op p (by omega)
    rw [drop_cons hp] at hq
    unfold opnN at hq
    split at hq
    · cases hq
    rename_i q0
    have lst := sk_len2 _ (p + 1) _ hq
    rw [← est] at lst
    have ar2 : as[p] ≤ 2 := by
      obtain ⟨j, ej, _, j2⟩ := gt_at A (T.kn ts[p] (List.getElem_mem hpt))
      rw [hap, ej]
      show j.toNat ≤ 2
      omega
    rw [drop_cons hp]
    show wO _ _ _ _ _ _
    rw [← ef1, ← est]
    have eE : sk (as[p] :: as.drop (p + 1)) p = ((if as[p] = 0 then p + 1 else st[as[p] - 1]?.getD 0) :: f1, (if as[p] = 0 then p + 1 else st[as[p] - 1]?.getD 0) :: st.drop as[p]) := by
      rw [ef1, est]; rfl
    rw [eE]
    obtain ⟨ed, eed⟩ : ∃ ed, ed = (if as[p] = 0 then p + 1 else st[as[p] - 1]?.getD 0) := ⟨_, rfl⟩
    rw [← eed]
    walk_at "pi"
    refine wR_eq (hea p ts[p] _ _ _ hw) ?_
    walk_at "pi"
    have ev : (gt ar ts[p]).getD 0 = ((as[p] : Nat) : Int) := by rw [hap]; omega
    rw [ev]
    refine ⟨small62_of (by omega) (by omega), ?_⟩
    refine goF_w (fun t ρ h' => ∃ o6, ρ = d0 :: d1 :: some (.loc h.length) :: some (.loc (h.length + 1)) :: some (.int p) :: some (.int ((if t = 0 then p + 1 else st[t - 1]?.getD 0 : Nat) : Int)) :: o6 :: tl ∧ h' = h ++ [.lst (List.replicate (p + 1) (.int 0) ++ nI f1), .lst (nI (st.drop t).reverse)])
      ⟨_, rfl, rfl⟩ (fun _ _ _ _ _ => rfl) ?_ ?_
    · rintro t ρ h' x ⟨o6, rfl, rfl⟩ hx ht
      rw [rangeD_len] at ht
      have hts : t < st.length := by omega
      have hv : st[t]? = some st[t] := List.getElem?_eq_getElem hts
      have es : nI (st.drop t).reverse = nI (st.drop (t + 1)).reverse ++ [.int st[t]] := by
        rw [List.drop_eq_getElem_cons hts, List.reverse_cons, nI_snoc]
      have a1 := two_at1 (h := h) (A := AO.lst (List.replicate (p + 1) (.int 0) ++ nI f1)) (B := .lst (nI (st.drop t).reverse))
      walk_at "pi"
      rw [es] at a1 ⊢
      refine m_wpop a1 ?_
      rw [two_put1]
      walk_at "pi"
      refine ⟨some x, ?_, rfl⟩
      rw [if_neg (Nat.succ_ne_zero t), Nat.add_sub_cancel, hv]
      rfl
    · rintro ρ h' ⟨o6, rfl, rfl⟩
      have le : (rangeD 0 ((as[p] : Nat) : Int)).length = as[p] := by rw [rangeD_len]; omega
      rw [le, ← eed]
      have a1 := two_at1 (h := h) (A := AO.lst (List.replicate (p + 1) (.int 0) ++ nI f1)) (B := .lst (nI (st.drop as[p]).reverse))
      walk_at "pi"
      have lq : (nI (st.drop as[p]).reverse).length ≤ st.length := by
        unfold nI
        rw [List.length_map, List.length_reverse, List.length_drop]
        omega
      have lst2 : st.length ≤ ts.length + 1 := by
        have := sk_len2 (as[p] :: as.drop (p + 1)) p q (by unfold opnN; rw [if_neg q0]; exact hq)
        have c := chain op (as.length - (p + 1)) (p + 1) (by omega)
        rw [← est] at c
        have key : ∀ {s : List Nat} {x : Nat}, Ch (en as) as.length s x → s.length + x ≤ as.length := by
          intro s x c
          induction c with
          | nil => simp
          | cons h t ih => rw [List.length_cons]; omega
        have := key c
        omega
      refine m_wappN a1 (by omega) ?_
      rw [two_put1]
      walk_at "pi"
      have a0 := two_at0 (h := h) (A := AO.lst (List.replicate (p + 1) (.int 0) ++ nI f1)) (B := .lst (nI (st.drop as[p]).reverse ++ [.int ed]))
      refine w_pl (j := p) a0 ?_ ?_
      · unfold ixN
        rw [if_pos (by omega), if_pos (by rw [List.length_append, List.length_replicate]; omega)]
        congr 1
      · rw [two_put0]
        walk_at "pi"
        refine ⟨_, _, _, rfl, ?_⟩
        congr 3
        · rw [List.set_append, if_pos (by rw [List.length_replicate]; omega)]
          have : (List.replicate (p + 1) (D.int 0)).set p (.int ed) = List.replicate p (D.int 0) ++ [.int ed] := by
            rw [List.replicate_succ', List.set_append, if_neg (by rw [List.length_replicate]; omega), List.length_replicate, Nat.sub_self]
            rfl
          rw [this, List.append_assoc]
          rfl
        · show AO.lst (nI (st.drop as[p]).reverse ++ [D.int ed]) = AO.lst (nI (ed :: st.drop as[p]).reverse)
          rw [List.reverse_cons, nI_snoc]
  · rintro ρ h' ⟨o4, o5, o6, rfl, rfl⟩
    have : (rangeDn ((ts.length : Int) - 1) (-1)).length = ts.length := by rw [rangeDn_len]; omega
    rw [this, Nat.sub_self, List.drop_zero]
    exact k o4 o5 o6 _
end
end PITree
set_option maxRecDepth 100000
set_option maxHeartbeats 1000000
/-! Plain data compared with the same data. -/
namespace PI
open PySem (PyData)
mutual
theorem eqv_self : ∀ p : PyData, noDict p = true → PyData.eqv p p = true
  | .none, _ => by simp [PyData.eqv]
  | .bool _, _ => by simp [PyData.eqv]
  | .int _, _ => by simp [PyData.eqv]
  | .str _, _ => by simp [PyData.eqv]
  | .list xs, h => by rw [PyData.eqv]; exact eqv_selfs xs h
  | .tuple xs, h => by rw [PyData.eqv]; exact eqv_selfs xs h
  | .dict _, h => by cases h
theorem eqv_selfs : ∀ p : List PyData, noDicts p = true → PyData.eqvAll p p = true
  | [], _ => by simp only [PyData.eqvAll]
  | x :: xs, h => by
    simp only [noDicts, Bool.and_eq_true] at h
    simp only [PyData.eqvAll, eqv_self x h.1, eqv_selfs xs h.2, Bool.and_self]
end
/-- data that can be compared -/
structure Cmpb (h : AH) (d : D) (p : PyData) : Prop where
  to : toP (look h d) = some p
  nd : noDict p = true
  sh : PySem.SeqAt.shaped p = true
theorem eqO_of {h : AH} {a b : D} {p q : PyData} (x : Cmpb h a p) (y : Cmpb h b q) : eqO h a b = some (PyData.eqv p q) := by
  have g : eqG h a b = some (PyData.eqv p q) := by
    unfold eqG
    rw [x.to, y.to]
    dsimp only
    rw [x.nd, x.sh, y.nd, y.sh]
    rfl
  cases a <;> cases b <;> first
    | exact g
    | (have e1 := x.to; have e2 := y.to; cases e1; cases e2; simp [eqO, PyData.eqv]; try (rw [Bool.eq_iff_iff]; simp))
theorem neO_of {h : AH} {a b : D} {p q : PyData} (x : Cmpb h a p) (y : Cmpb h b q) : neO h a b = some (!PyData.eqv p q) := by
  have g : neG h a b = some (!PyData.eqv p q) := by
    unfold neG
    rw [x.to, y.to]
    dsimp only
    rw [x.nd, x.sh, y.nd, y.sh]
    rfl
  cases a <;> cases b <;> first
    | exact g
    | (have e1 := x.to; have e2 := y.to; cases e1; cases e2; simp [neO, PyData.eqv]; try (rw [Bool.eq_iff_iff]; simp))
theorem cmp_eq_of {h : AH} {a b : D} {p q : PyData} (x : Cmpb h a p) (y : Cmpb h b q) : cmp2 .eq a b h = some (PyData.eqv p q) := by
  show (match eqO h a b with
    | some b => some b
    | none => eqDct h a b) = _
  rw [eqO_of x y]
theorem cmp_ne_of {h : AH} {a b : D} {p q : PyData} (x : Cmpb h a p) (y : Cmpb h b q) : cmp2 .ne a b h = some (!PyData.eqv p q) := by
  show (match neO h a b with
    | some b => some b
    | none => (eqDct h a b).map not) = _
  rw [neO_of x y]
theorem good_p {n k : Nat} {d : D} (g : Good n k d) (hn : n ≤ 64) : ∃ p, toP d = some p ∧ noDict p = true ∧ PySem.SeqAt.shaped p = true := by
  obtain ⟨p, a, b, _, _, e, _⟩ := g
  refine ⟨p, a, noDict_of _ b, ?_⟩
  unfold PySem.SeqAt.shaped
  rw [b, decide_eq_true (show p.depth ≤ 64 by omega)]
  rfl
theorem good_cmp {n k : Nat} {d : D} {h : AH} (g : Good n k d) (hn : n ≤ 64) : ∃ p, Cmpb h d p := by
  obtain ⟨p, a, b, c⟩ := good_p g hn
  exact ⟨p, by rw [look_pure g.not_str_loc.1]; exact a, b, c⟩
theorem look_list {h : AH} {c : Nat} {xs : List D} (e : h[c]? = some (.lst xs)) : look h (.loc c) = .lst xs := by
  show (match h[c]? with
    | some (.lst xs) => D.lst xs
    | some (.dct kvs) => .dct kvs
    | _ => .loc c) = _
  rw [e]
/-- the same data: at a place of the heap, or kept -/
theorem same_cmp {n k : Nat} {d : D} {h : AH} {a b : D} (g : Good n k d) (hn : n ≤ 64) (ha : look h a = d) (hb : look h b = d) : cmp2 .eq a b h = some true ∧ cmp2 .ne a b h = some false := by
  obtain ⟨p, e, nd, s⟩ := good_p g hn
  have x : Cmpb h a p := ⟨by rw [ha]; exact e, nd, s⟩
  have y : Cmpb h b p := ⟨by rw [hb]; exact e, nd, s⟩
  have r := eqv_self p nd
  exact ⟨by rw [cmp_eq_of x y, r], by rw [cmp_ne_of x y, r]; rfl⟩
theorem eq_self {n k : Nat} {d : D} {h : AH} (g : Good n k d) (hn : n ≤ 64) : cmp2 .eq d d h = some true := (same_cmp g hn (look_pure g.not_str_loc.1) (look_pure g.not_str_loc.1)).1
theorem ne_self {n k : Nat} {d : D} {h : AH} (g : Good n k d) (hn : n ≤ 64) : cmp2 .ne d d h = some false := (same_cmp g hn (look_pure g.not_str_loc.1) (look_pure g.not_str_loc.1)).2
/-- a list of the heap beside the empty one -/
theorem ne_loc_nil {n k : Nat} {xs : List D} {h : AH} {c : Nat} (e : h[c]? = some (.lst xs)) (g : ∀ x ∈ xs, Good n k x) (hn : n < 64) : cmp2 .ne (.loc c) (.lst []) h = some (!decide (xs = [])) := by
  obtain ⟨p, a, b, s⟩ := good_p (good_lst g) (by omega : n + 1 ≤ 64)
  have x : Cmpb h (.loc c) p := ⟨by rw [look_list e]; exact a, b, s⟩
  have x2 : Cmpb h (.lst xs) p := ⟨a, b, s⟩
  have y : Cmpb h (.lst []) (.list []) := ⟨rfl, rfl, by decide⟩
  rw [cmp_ne_of x y, ← cmp_ne_of x2 y]
  exact PITree.ne_nil g hn
/-! ### rows of numbers -/
theorem good_nat {k : Nat} (h : k < 10 ^ 100) : Good 0 640 (.int (k : Int)) := good_int (by
  rw [Int.natAbs_natCast]
  exact Nat.lt_of_lt_of_le h (Nat.pow_le_pow_right (by decide) (by decide)))
end PI
set_option maxRecDepth 100000
set_option maxHeartbeats 1000000
namespace PI
section
variable {F : Fn} {ρ : Rho} {h : AH} {Q : D → AH → Prop} {X : Nat → D → AH → Prop}
/-- a row over numbers, filtered; the same heap throughout -/
theorem w_compRF {m : Bool} {i : Nat} {n elt c : E} (b : D → Bool) (f : D → D) (k : wR (evE F n ρ h) (fun s h1 => wN s fun u => small62 u = true ∧ (rangeD 0 u).length ≤ szl ∧ (∀ x ∈ rangeD 0 u, wR (evE F c (ρ.set i (some x)) h1) (fun d h' => d = .bl (b x) ∧ h' = h1) noX) ∧ (∀ x ∈ rangeD 0 u, b x = true → wR (evE F elt (ρ.set i (some x)) h1) (fun d h' => d = f x ∧ h' = h1) noX) ∧ wR (mk m (((rangeD 0 u).filter b).map f) h1) Q X) noX) : wR (evE F (.compR m i n (some c) elt) ρ h) Q X := by
  obtain ⟨s, h1, e, k⟩ := wR_ex k
  cases s <;> first | exact k.elim | skip
  rename_i u
  obtain ⟨hu, l, k1, k2, k3⟩ := k
  have e9 : evE F (.compR m i n (some c) elt) ρ h = (evE F n ρ h).bind fun s h1 => (Res.of (upTo s) h1).bind fun xs h2 =>
      ((goC (fun x h3 => (evC F (some c) (ρ.set i (some x)) h3).bind fun b h4 => match b with
          | true => (evE F elt (ρ.set i (some x)) h4).bind fun y h5 => .ok (some y) h5
          | false => .ok none h4) (fun _ => true) xs h2).nox).bind fun ys h6 => if decide (ys.length ≤ szl) then mk m ys h6 else .fail := rfl
  have key : goC (fun x h3 => (evC F (some c) (ρ.set i (some x)) h3).bind fun b h4 => match b with
          | true => (evE F elt (ρ.set i (some x)) h4).bind fun y h5 => .ok (some y) h5
          | false => .ok none h4) (fun _ => true) (rangeD 0 u) h1 = .ok ((rangeD 0 u).filterMap fun x => if b x then some (f x) else none) h1 :=
      goC_pure rfl fun x hx => by
        have hc : evC F (some c) (ρ.set i (some x)) h1 = .ok (b x) h1 := by
          unfold evC
          rw [wR_to (k1 x hx), bind_ok]
        rw [hc, bind_ok]
        cases hb : b x with
        | true =>
          dsimp only
          rw [wR_to (k2 x hx hb), bind_ok]
          rfl
        | false => rfl
  have up : upTo (.int u) = some (rangeD 0 u) := by
    show (if small62 u = true then some (rangeD 0 u) else none) = _
    rw [if_pos hu]
  rw [e9, e, bind_ok, up, of_some, bind_ok, key, nox_val, bind_ok]
  have e3 : ∀ xs : List D, xs.filterMap (fun x => if b x = true then some (f x) else none) = (xs.filter b).map f := by
    intro xs
    induction xs with
    | nil => rfl
    | cons x xs ih =>
      rw [List.filterMap_cons, List.filter_cons]
      cases b x with
      | true => simp [ih]
      | false => simp [ih]
  rw [e3, if_pos (decide_eq_true (by rw [List.length_map]; exact Nat.le_trans (List.length_filter_le _ _) l))]
  exact k3
end
end PI
namespace PITree
open PI
open PySem (PyData Str)
local macro_rules | `(tactic| walk_at "set") => `(tactic| with_reducible refine wS_n (by simp only [List.set_cons_succ, List.set_cons_zero]; exact rfl) ?_)
local macro_rules | `(tactic| walk_at "one") => `(tactic| first | with_reducible refine x_wcons ?_ | with_reducible refine x_wnil ?_ | with_reducible refine x_wasg ?_ | with_reducible refine t_varN ?_ | walk_at "set" | with_reducible refine w_var (by with_unfolding_all exact rfl) ?_ | with_reducible refine w_cst ?_ | with_reducible refine w_bin ?_ | with_reducible refine w_cmp ?_ | with_reducible refine w_call ?_ | with_reducible refine w_cons ?_ | with_reducible refine w_nil ?_ | with_reducible refine w_prim ?_ | with_reducible refine wB_b ?_ | with_reducible refine wI_t ?_ | with_reducible refine wI_f ?_ | with_reducible refine wI_n ?_ | with_reducible refine wN_i ?_ | with_reducible refine x_wcond ?_ | with_reducible refine x_wret ?_ | with_reducible refine x_wexpr ?_ | with_reducible refine x_wpar ?_ | with_reducible refine sa_consN ?_ | with_reducible refine sa_nil ?_ | with_reducible refine w_add ?_ | with_reducible refine w_sub ?_ | with_reducible refine c_wlt ?_ | with_reducible refine c_wle ?_ | with_reducible refine c_weq ?_ | with_reducible refine c_wne ?_ | with_reducible refine c_wgt ?_ | with_reducible refine c_wge ?_ | with_reducible refine c_weqs ?_ | with_reducible refine c_wnes ?_ | with_reducible refine w_idx ?_ | with_reducible refine w_not ?_ | with_reducible refine w_andE ?_ | with_reducible refine w_orE ?_ | with_reducible refine w_ite ?_ | with_reducible refine w_cmp2 ?_ | with_reducible refine w_tup ?_ | with_reducible refine w_lst ?_ | with_reducible refine w_lenN (by first | (simp only [List.length_cons, List.length_nil]; done) | (simp only [List.length_cons, List.length_nil]; omega) | omega) ?_ | with_reducible refine w_mk ?_ | with_reducible refine w_mkt ?_ | with_reducible refine w_slice ?_ | with_reducible refine wOpt_n ?_ | with_reducible refine wOpt_s ?_ | with_reducible refine s_wtup ?_ | with_reducible refine s_wlst ?_ | with_reducible refine w_meth ?_ | with_reducible refine w_app (by assumption) ?_ | with_reducible refine w_popT (by assumption) ?_ | with_reducible refine w_isi ?_ | with_reducible refine w_ty (by with_unfolding_all exact rfl) ?_ | with_reducible refine w_neg ?_ | with_reducible refine w_dix ?_ | with_reducible refine w_dget ?_ | with_reducible refine w_din ?_ | with_reducible refine w_dsome ?_ | with_reducible refine w_dk ?_ | with_reducible refine w_slot ?_ | with_reducible refine w_ownm ?_ | with_reducible refine w_ownp ?_ | with_reducible refine w_ownl ?_ | with_reducible refine w_owns ?_ | with_reducible refine w_owni ?_ | with_reducible refine w_ownn ?_ | with_reducible refine w_sl (by assumption) ?_ | with_reducible refine w_slg (by assumption) (by with_unfolding_all exact rfl) ?_ | with_reducible refine w_fstr ?_ | with_reducible refine p_wlenT ?_ | with_reducible refine p_wlenL ?_ | with_reducible refine p_wlenD ?_ | with_reducible refine p_wlenH (by assumption) ?_ | with_reducible refine p_wmax ?_ | with_reducible refine p_wmin ?_ | with_reducible refine p_wtupL ?_ | with_reducible refine p_wtupH (by assumption) ?_ | with_reducible refine p_wlistT ?_ | with_reducible refine p_wlistL ?_ | with_reducible refine x_wbrk ?_ | with_reducible refine x_wcont ?_ | with_reducible refine x_wpass ?_ | with_reducible refine x_wretN ?_ | with_reducible refine x_waugN (by with_unfolding_all exact rfl) ?_ | with_reducible refine x_wraise ?_ | with_reducible refine x_wtry ?_ | with_reducible refine x_weach ?_ | with_reducible refine x_wrng1 ?_ | with_reducible refine x_wrng2 ?_ | with_reducible refine x_wrng3 ?_ | with_reducible refine w_srcT ?_ | with_reducible refine w_srcL ?_ | with_reducible refine w_srcH (by assumption) ?_ | with_reducible refine wO_seq ?_ | with_reducible refine t_tup rfl ?_ | with_reducible refine t_cons ?_ | with_reducible refine t_nil ?_ | with_reducible refine t_idx ?_ | with_reducible refine t_dix ?_ | with_reducible refine t_slot ?_ | with_reducible refine w_newo ?_ | with_reducible refine w_mkD ?_ | with_reducible refine w_mkDt ?_ | with_reducible refine w_dct0 ?_ | with_reducible refine w_keyS ?_ | with_reducible refine w_keyI ?_ | with_reducible refine w_sm (by omega) ?_)
local macro_rules | `(tactic| walk_at "pi") => `(tactic| repeat walk_at "one")
local macro_rules | `(tactic| walk_at "def") => `(tactic| (simp only [List.map_cons, List.map_nil, List.cons_append, List.nil_append, List.length_cons, List.length_nil, Nat.reduceAdd, Nat.reduceSub, List.replicate]))
local macro_rules | `(tactic| walk_at "len") => `(tactic| first | omega | (simp only [List.length_map, List.length_append, List.length_cons, List.length_nil]; omega))
theorem rep_one {n : Nat} {x : D} : (List.replicate n [x]).flatten = List.replicate n x := by
  induction n with
  | zero => rfl
  | succ n ih => rw [List.replicate_succ, List.flatten_cons, ih, List.replicate_succ]; rfl
theorem w_mull {m : Bool} {h : AH} {xs : List D} {k : Int} {Q : D → AH → Prop} {X : Nat → D → AH → Prop} (h1 : -(2 ^ 63) ≤ k) (h2 : k < 2 ^ 63) (h3 : xs.length * k.toNat ≤ 16777216) (q : wR (mk m (List.replicate k.toNat xs).flatten h) Q X) : wR (bin2 m .mul (.lst xs) (.int k) h) Q X := by
  have : bin2 m .mul (.lst xs) (.int k) h = if decide (-(2 ^ 63) ≤ k) && decide (k < 2 ^ 63) && decide (xs.length * k.toNat ≤ szl) then mk m (List.replicate k.toNat xs).flatten h else .fail := rfl
  rw [this, if_pos]
  · exact q
  · rw [Bool.and_eq_true, Bool.and_eq_true]
    exact ⟨⟨decide_eq_true h1, decide_eq_true h2⟩, decide_eq_true h3⟩
theorem i_wneg1 {h : AH} {n : Nat} {xs : List D} {v : D} {k : D → Prop} (e : h[n]? = some (.lst (xs ++ [v]))) (q : k v) : wP (index h (.loc n) (.int (-1))) k := by
  refine wP_some ?_ q
  rw [index_loc, e]
  show (ixN (xs ++ [v]).length (-1)).bind _ = _
  have : ixN (xs ++ [v]).length (-1) = some xs.length := by
    unfold ixN
    rw [if_neg (by decide), if_pos (by rw [List.length_append]; show -((xs.length + 1 : Nat) : Int) ≤ -1; omega), List.length_append]
    congr 1
    show ((-1 : Int) + ((xs.length + 1 : Nat) : Int)).toNat = _
    omega
  rw [this]
  show (xs ++ [v])[xs.length]? = some v
  simp
theorem cut_nat {xs : List D} {a b : Nat} (h1 : a ≤ b) (h2 : b ≤ xs.length) : PI.cutL xs (some (a : Int)) (some (b : Int)) = slc xs a b := by
  unfold PI.cutL slc
  have s1 : HT.sIx xs.length 0 (some (a : Int)) = a := by
    show (if (a : Int) < 0 then ((a : Int) + xs.length).toNat else min (a : Int).toNat xs.length) = a
    rw [if_neg (by omega)]
    omega
  have s2 : HT.sIx xs.length xs.length (some (b : Int)) = b := by
    show (if (b : Int) < 0 then ((b : Int) + xs.length).toNat else min (b : Int).toNat xs.length) = b
    rw [if_neg (by omega)]
    omega
  rw [s1, s2]
theorem slc_map {α β : Type} {f : α → β} {l : List α} {x y : Nat} : slc (l.map f) x y = (slc l x y).map f := by
  unfold slc
  rw [List.map_take, List.map_drop]
/-! ### the defs of trees -/
def bEnds : List S := [.par [2, 3] [.bin true .mul (.lst false [.cst (.int 0)]) (.prim false .len [.var 1]), .lst true []],
  .rng (.var 4) [.bin false .sub (.prim false .len [.var 1]) (.cst (.int 1)), .neg (.cst (.int 1)), .neg (.cst (.int 1))]
  (lEnds (.dget (.var 0) (.idx (.var 1) (.var 4)) (.cst (.int 0)))),
  .ret (.prim false .tuple [.var 2])]
def bReqT (iRT : Nat) : List S := [.cond (.not (.call iRT [.slot 0 (.var 0) 0, .var 1]))
  [.dead]
  []]
def bReqP (iIx : Nat) : List S := [.cond (.not (.call iIx [.var 1, .prim false .len [.var 0]]))
  [.dead]
  []]
def bReq (iReqT iReqP iE : Nat) : List S := [.expr (.call iReqT [.var 0, .var 1]),
  .expr (.call iReqP [.var 1, .var 2]),
  .ret (.call iE [.slot 0 (.var 0) 0, .var 1])]
def bEnd (iReq : Nat) : List S := [.ret (.idx (.own .meth 0 iReq (.var 0) [.var 1, .var 2]) (.var 2))]
def bSub (iReq : Nat) : List S := [.ret (.slice false (.var 1) (some (.var 2)) (some (.idx (.own .meth 0 iReq (.var 0) [.var 1, .var 2]) (.var 2))))]
def bChl (iReq : Nat) : List S := [.par [3, 4, 5] [.own .meth 0 iReq (.var 0) [.var 1, .var 2], .lst true [], .bin false .add (.var 2) (.cst (.int 1))],
  .loop (.cmp .lt (.var 5) (.idx (.var 3) (.var 2)))
  [.expr (.meth .append (.var 4) [.var 5]),
  .asg (.var 5) (.idx (.var 3) (.var 5))],
  .ret (.prim false .tuple [.var 4])]
def bAbv (iReq : Nat) : List S := [.asg (.var 3) (.own .meth 0 iReq (.var 0) [.var 1, .var 2]),
  .ret (.prim false .tuple [.compR false 4 (.var 2) (some (.cmp .gt (.idx (.var 3) (.var 4)) (.var 2))) (.var 4)])]
abbrev lPop : List S := [.expr (.meth .pop (.var 3) [])]
abbrev cPop : E := .and (.cmp .ne (.var 3) (.lst false [])) (.cmp .le (.idx (.var 3) (.neg (.cst (.int 1)))) (.var 5))
def bLev (iReqT iE : Nat) : List S := [.expr (.call iReqT [.var 0, .var 1]),
  .par [2, 3, 4] [.call iE [.slot 0 (.var 0) 0, .var 1], .lst true [], .cst (.int 0)],
  .rng (.var 5) [.prim false .len [.var 1]]
  [.loop cPop lPop,
  .expr (.meth .append (.var 3) [.idx (.var 2) (.var 5)]),
  .asg (.var 4) (.prim false .max2 [.var 4, .prim false .len [.var 3]])],
  .ret (.var 4)]
def bTreeM (iRT : Nat) : List S := [.ret (.call iRT [.slot 0 (.var 0) 0, .var 1])]
section
variable {P : List FnDecl} {N : Nat} {h : AH} {ar br : Ar} {ts : List Str} {p : Nat} {ls : List D} {iInt iIx iKn iWh iRT iE iReqT iReqP iReq i : Nat}
theorem ends_ok (hE : P[iE]? = some ⟨2, 7, bEnds⟩) (A : Ari ar) (eg : gt br = gt ar) (T : Tree ar ts) (hl : ts.length ≤ 5000) : wR (run P (N + 1) iE [.dct (kvD br), .tup (ts.map D.str)] h) (fun d h' => d = .tup (endsD (asN (gt ar) ts)) ∧ Grow h h') noX := by
  refine w_run hE rfl ?_
  walk_at "def"
  unfold bEnds
  walk_at "pi"
  rw [List.length_map]
  with_reducible refine w_mull (by omega) (by omega) (by simp only [List.length_cons, List.length_nil]; omega) ?_
  rw [rep_one, show ((ts.length : Int)).toNat = ts.length from by omega]
  walk_at "pi"
  rw [List.length_map]
  refine ⟨by rw [decide_eq_true rfl, small62_of (by omega) (by omega)]; rfl, ?_⟩
  have e1 : (h ++ [AO.lst (List.replicate ts.length (D.int 0))]).length = h.length + 1 := by simp
  have e2 : h ++ [AO.lst (List.replicate ts.length (D.int 0))] ++ [AO.lst []] = h ++ [AO.lst (List.replicate ts.length (D.int 0)), .lst []] := by simp
  rw [e1, e2]
  refine ends_go A T (by omega) (fun p w h' o5 o6 hw => ?_) (fun o4 o5 o6 st => ?_)
  · have hp : p < ts.length := (List.getElem?_eq_some_iff.mp hw).1
    refine wR_to ?_
    walk_at "pi"
    refine i_wtup (by omega) (by rw [List.length_map]; omega) fun d hd => ?_
    rw [show ((p : Int)).toNat = p from by omega, List.getElem?_map, hw] at hd
    cases hd
    walk_at "pi"
    refine w_dgk (d := .int ((gt ar w).getD 0)) ?_ ⟨rfl, rfl⟩
    rw [dfind_kv, eg]
    cases gt ar w <;> rfl
  · have a0 := two_at0 (h := h) (A := AO.lst (endsD (asN (gt ar) ts))) (B := .lst (nI st))
    walk_at "pi"
    exact ⟨rfl, ⟨_, rfl⟩⟩
theorem tree_B (A : Ari ar) (T : Tree ar ts) (hl : ts.length ≤ 5000) : treeB (gt ar) (.tup (ts.map D.str)) = true := by
  rw [treeB_tup, strL_map]
  have : 0 < ts.length := List.length_pos_iff.mpr T.ne
  have a : lenB (ts.map D.str) = true := by
    unfold lenB
    rw [List.length_map]
    exact decide_eq_true ⟨by omega, hl⟩
  dsimp only
  rw [a, T.cl, decide_eq_true rfl, Bool.and_true, Bool.true_and]
  refine List.all_eq_true.mpr fun w hw => ?_
  obtain ⟨j, ej, _⟩ := gt_at A (T.kn w hw)
  rw [ej]
  rfl
theorem pu_words (ts : List Str) : Pu (.tup (ts.map D.str)) ∧ ∀ xs, D.tup (ts.map D.str) = .tup xs → ∀ x ∈ xs, Pu x := by
  refine ⟨⟨fun _ z => (by cases z), fun _ z => (by cases z), fun _ _ z => (by cases z)⟩, fun xs e x hx => ?_⟩
  cases e
  obtain ⟨s, _, rfl⟩ := List.mem_map.mp hx
  exact Pu.str s
theorem is_tree_ok (hK : P[iKn]? = some ⟨2, 2, bKnown⟩) (hW : P[iWh]? = some ⟨2, 4, bWhole⟩) (hRT : P[iRT]? = some ⟨2, 3, bRightTree iKn iWh⟩) (A : Ari ar) (eg : gt br = gt ar) (T : Tree ar ts) (hl : ts.length ≤ 5000) : run P (N + 2) iRT [.dct (kvD br), .tup (ts.map D.str)] h = .ok (.bl true) h := by
  have := right_tree (n := N) (h := h) (ar := br) hK hW hRT (pu_words ts).1 (pu_words ts).2
  rw [this, eg, tree_B A T hl]
theorem reqT_ok (hK : P[iKn]? = some ⟨2, 2, bKnown⟩) (hW : P[iWh]? = some ⟨2, 4, bWhole⟩) (hRT : P[iRT]? = some ⟨2, 3, bRightTree iKn iWh⟩) (hT : P[iReqT]? = some ⟨2, 2, bReqT iRT⟩) (A : Ari ar) (o : Ops h p (sr ar) ls) (T : Tree ar ts) (hl : ts.length ≤ 5000) : run P (N + 3) iReqT [.loc p, .tup (ts.map D.str)] h = .ok .non h := by
  refine wR_to (w_run hT rfl ?_)
  have a0 := o.at_
  walk_at "def"
  unfold bReqT
  walk_at "pi"
  refine wR_eq (is_tree_ok hK hW hRT A (gt_sr A) T hl) ?_
  walk_at "pi"
  exact ⟨trivial, rfl⟩
theorem reqP_ok (hInt : P[iInt]? = some ⟨1, 1, bInt⟩) (hIx : P[iIx]? = some ⟨2, 2, bIx iInt⟩) (hP : P[iReqP]? = some ⟨2, 2, bReqP iIx⟩) {xs : List D} {q : Nat} (hq : q < xs.length) (hx : xs.length ≤ 5000) : run P (N + 3) iReqP [.tup xs, .int q] h = .ok .non h := by
  refine wR_to (w_run hP rfl ?_)
  walk_at "def"
  unfold bReqP
  walk_at "pi"
  refine wR_eq (is_index hInt hIx (by omega) (by omega)) ?_
  walk_at "pi"
  refine wI_dt (by omega) ?_
  walk_at "pi"
  exact ⟨trivial, rfl⟩
/-- where the defs stand -/
structure Defs (P : List FnDecl) (iInt iIx iKn iWh iRT iE iReqT iReqP iReq : Nat) : Prop where
  hInt : P[iInt]? = some ⟨1, 1, bInt⟩
  hIx : P[iIx]? = some ⟨2, 2, bIx iInt⟩
  hK : P[iKn]? = some ⟨2, 2, bKnown⟩
  hW : P[iWh]? = some ⟨2, 4, bWhole⟩
  hRT : P[iRT]? = some ⟨2, 3, bRightTree iKn iWh⟩
  hE : P[iE]? = some ⟨2, 7, bEnds⟩
  hT : P[iReqT]? = some ⟨2, 2, bReqT iRT⟩
  hP : P[iReqP]? = some ⟨2, 2, bReqP iIx⟩
  hR : P[iReq]? = some ⟨3, 3, bReq iReqT iReqP iE⟩
theorem req_ok (D0 : Defs P iInt iIx iKn iWh iRT iE iReqT iReqP iReq) (A : Ari ar) (o : Ops h p (sr ar) ls) (T : Tree ar ts) (hl : ts.length ≤ 5000) {q : Nat} (hq : q < ts.length) : wR (run P (N + 4) iReq [.loc p, .tup (ts.map D.str), .int q] h) (fun d h' => d = .tup (endsD (asN (gt ar) ts)) ∧ Grow h h') noX := by
  refine w_run D0.hR rfl ?_
  have a0 := o.at_
  walk_at "def"
  unfold bReq
  walk_at "pi"
  refine wR_eq (reqT_ok D0.hK D0.hW D0.hRT D0.hT A o T hl) ?_
  walk_at "pi"
  refine wR_eq (reqP_ok D0.hInt D0.hIx D0.hP (by rw [List.length_map]; exact hq) (by rw [List.length_map]; exact hl)) ?_
  walk_at "pi"
  exact ends_ok D0.hE A (gt_sr A) T hl
/-- ends, read at a place -/
theorem i_ends {as : List Nat} {q : Nat} {k : D → Prop} (hq : q < as.length) (c : k (.int (en as q))) : wP (index h (.tup (endsD as)) (.int (q : Int))) k := by
  refine i_wtup (by omega) (by rw [endsD_len]; omega) fun d hd => ?_
  rw [show ((q : Int)).toNat = q from by omega, endsD_get hq] at hd
  cases hd
  exact c
theorem end_ok (D0 : Defs P iInt iIx iKn iWh iRT iE iReqT iReqP iReq) (hM : P[i]? = some ⟨3, 3, bEnd iReq⟩) (A : Ari ar) (o : Ops h p (sr ar) ls) (T : Tree ar ts) (hl : ts.length ≤ 5000) {q : Nat} (hq : q < ts.length) : wR (run P (N + 5) i [.loc p, .tup (ts.map D.str), .int q] h) (fun d h' => d = .int (en (asN (gt ar) ts) q) ∧ Grow h h') noX := by
  refine w_run hM rfl ?_
  have a0 := o.at_
  walk_at "def"
  unfold bEnd
  walk_at "pi"
  refine wR_by (req_ok D0 A o T hl hq) ?_
  rintro _ h1 ⟨rfl, g1⟩
  walk_at "pi"
  exact i_ends (by rw [asN_len]; exact hq) ⟨rfl, g1⟩
theorem sub_ok (D0 : Defs P iInt iIx iKn iWh iRT iE iReqT iReqP iReq) (hM : P[i]? = some ⟨3, 3, bSub iReq⟩) (A : Ari ar) (o : Ops h p (sr ar) ls) (T : Tree ar ts) (hl : ts.length ≤ 5000) {q : Nat} (hq : q < ts.length) : wR (run P (N + 5) i [.loc p, .tup (ts.map D.str), .int q] h) (fun d h' => d = .tup ((slc ts q (en (asN (gt ar) ts) q)).map D.str) ∧ Grow h h') noX := by
  refine w_run hM rfl ?_
  have a0 := o.at_
  walk_at "def"
  unfold bSub
  walk_at "pi"
  refine wR_by (req_ok D0 A o T hl hq) ?_
  rintro _ h1 ⟨rfl, g1⟩
  walk_at "pi"
  refine i_ends (by rw [asN_len]; exact hq) ?_
  walk_at "pi"
  have tr := T.tr A
  have t1 := tr.lt q (by rw [asN_len]; exact hq)
  have t2 := tr.le q (by rw [asN_len]; exact hq)
  rw [asN_len] at t2
  rw [cut_nat (by omega) (by rw [List.length_map]; omega), slc_map]
  exact ⟨rfl, g1⟩
theorem chl_ok (D0 : Defs P iInt iIx iKn iWh iRT iE iReqT iReqP iReq) (hM : P[i]? = some ⟨3, 6, bChl iReq⟩) (A : Ari ar) (o : Ops h p (sr ar) ls) (T : Tree ar ts) (hl : ts.length ≤ 5000) {q : Nat} (hq : q < (asN (gt ar) ts).length) : wR (run P (N + 5) i [.loc p, .tup (ts.map D.str), .int q] h) (fun d h' => d = .tup (nI (chl (en (asN (gt ar) ts)) (asN (gt ar) ts)[q] q)) ∧ Grow h h') noX := by
  have tr := T.tr A
  obtain ⟨as, eas⟩ : ∃ as, as = asN (gt ar) ts := ⟨_, rfl⟩
  have las : as.length = ts.length := by rw [eas, asN_len]
  have R := req_ok (N := N) D0 A o T hl (q := q) (by rw [← las, eas]; exact hq)
  rw [← eas] at tr R
  simp only [← eas]
  have hq' : q < as.length := by rw [eas]; exact hq
  have aq : as[q] ≤ as.length := by
    have c := tr.le q hq'
    have key : ∀ j, j ≤ as[q] → q + 1 + j ≤ it (en as) j (q + 1) := by
      intro j
      induction j with
      | zero => intro _; exact Nat.le_refl _
      | succ j ih =>
        intro hj
        have := ih (by omega)
        have := tr.up q hq' j (by omega)
        omega
    have := key as[q] (Nat.le_refl _)
    rw [tr.ch q hq'] at this
    omega
  refine w_run hM rfl ?_
  have a0 := o.at_
  walk_at "def"
  unfold bChl
  walk_at "pi"
  refine wR_by R ?_
  rintro _ h1 ⟨rfl, g1⟩
  walk_at "pi"
  refine x_wloop (fun k ρ h' => ∃ j, j + k = as[q] ∧ ρ = [some (.loc p), some (.tup (ts.map D.str)), some (.int q), some (.tup (endsD as)), some (.loc h1.length), some (.int (it (en as) j (q + 1)))] ∧ h' = h1 ++ [.lst (nI ((List.range j).map fun i => it (en as) i (q + 1)))]) (k0 := as[q]) ?_ ⟨0, by omega, rfl, rfl⟩ ?_
  · omega
  · rintro k ρ h' ⟨j, hj, rfl, rfl⟩
    walk_at "pi"
    refine i_ends hq' ?_
    walk_at "pi"
    have a1 : (h1 ++ [AO.lst (nI ((List.range j).map fun i => it (en as) i (q + 1)))])[h1.length]? = some (.lst (nI ((List.range j).map fun i => it (en as) i (q + 1)))) := by simp
    refine wI_d (fun c => ?_) (fun c => ?_)
    · have jl : j < as[q] := by
        rcases Nat.lt_or_ge j as[q] with z | z
        · exact z
        · have : j = as[q] := by omega
          subst this
          rw [tr.ch q hq'] at c
          omega
      have cl := tr.child_lt hq' jl
      have cg := tr.child_gt hq' (j := j) (by omega)
      have cc := tr.le q hq'
      walk_at "pi"
      refine m_wappN a1 (by unfold nI; rw [List.length_map, List.length_map, List.length_range]; omega) ?_
      walk_at "pi"
      refine i_ends (by omega) ?_
      walk_at "pi"
      refine ⟨k - 1, by omega, j + 1, by omega, ?_, ?_⟩
      · rw [it_succ]
      · unfold put
        rw [List.set_append, if_neg (Nat.lt_irrefl _), Nat.sub_self, List.range_succ, List.map_append]
        show _ = h1 ++ [AO.lst (nI ((List.range j).map (fun i => it (en as) i (q + 1)) ++ [it (en as) j (q + 1)]))]
        rw [nI_snoc]
        rfl
    · have jl : j = as[q] := by
        rcases Nat.lt_or_ge j as[q] with z | z
        · have := tr.child_lt hq' z
          omega
        · omega
      subst jl
      walk_at "pi"
      exact ⟨rfl, g1.trans (.push _ _)⟩
theorem range_nI {n : Nat} : rangeD 0 (n : Int) = nI (List.range n) := by
  unfold rangeD nI
  have : ((n : Int) - 0).toNat = n := by omega
  rw [this]
  refine List.map_congr_left fun k _ => ?_
  rw [Int.zero_add]
def ancB (f : Nat → Nat) (q : Nat) : D → Bool
  | .int k => decide (q < f k.toNat)
  | _ => false
theorem above_ok (D0 : Defs P iInt iIx iKn iWh iRT iE iReqT iReqP iReq) (hM : P[i]? = some ⟨3, 5, bAbv iReq⟩) (A : Ari ar) (o : Ops h p (sr ar) ls) (T : Tree ar ts) (hl : ts.length ≤ 5000) {q : Nat} (hq : q < ts.length) : wR (run P (N + 5) i [.loc p, .tup (ts.map D.str), .int q] h) (fun d h' => d = .tup (nI (anc (en (asN (gt ar) ts)) q)) ∧ Grow h h') noX := by
  refine w_run hM rfl ?_
  have a0 := o.at_
  walk_at "def"
  unfold bAbv
  walk_at "pi"
  have R := req_ok (N := N) (h := h) D0 A o T hl hq
  refine wR_by R ?_
  intro d h1 hh
  have hd := hh.1
  have g1 := hh.2
  clear hh
  subst hd
  walk_at "pi"
  with_reducible refine w_compRF (ancB (en (asN (gt ar) ts)) q) (fun x => x) ?_
  walk_at "pi"
  have mem : ∀ x ∈ rangeD 0 (q : Int), ∃ k : Nat, x = .int k ∧ k < q := by
    intro x hx
    rw [range_nI] at hx
    obtain ⟨k, hk, rfl⟩ := List.mem_map.mp hx
    exact ⟨k, rfl, List.mem_range.mp hk⟩
  refine ⟨by rw [rangeD_len]; show _ ≤ 16777216; omega, fun x hx => ?_, fun x hx _ => ?_, ?_⟩
  · obtain ⟨k, rfl, hk⟩ := mem x hx
    walk_at "pi"
    refine i_ends (by rw [asN_len]; omega) ?_
    walk_at "pi"
    refine ⟨congrArg D.bl ?_, rfl⟩
    show decide ((q : Int) < ((en (asN (gt ar) ts) k : Nat) : Int)) = decide (q < en (asN (gt ar) ts) k)
    rw [decide_eq_decide]
    omega
  · walk_at "pi"
    exact ⟨rfl, rfl⟩
  · walk_at "pi"
    refine ⟨congrArg D.tup ?_, g1⟩
    rw [map_id', range_nI]
    unfold nI anc
    rw [List.filter_map]
    rfl
end
end PITree
set_option maxRecDepth 100000
set_option maxHeartbeats 1000000
namespace PITree
open PI
open PySem (PyData Str)
local macro_rules | `(tactic| walk_at "set") => `(tactic| with_reducible refine wS_n (by simp only [List.set_cons_succ, List.set_cons_zero]; exact rfl) ?_)
local macro_rules | `(tactic| walk_at "one") => `(tactic| first | with_reducible refine x_wcons ?_ | with_reducible refine x_wnil ?_ | with_reducible refine x_wasg ?_ | with_reducible refine t_varN ?_ | walk_at "set" | with_reducible refine w_var (by with_unfolding_all exact rfl) ?_ | with_reducible refine w_cst ?_ | with_reducible refine w_bin ?_ | with_reducible refine w_cmp ?_ | with_reducible refine w_call ?_ | with_reducible refine w_cons ?_ | with_reducible refine w_nil ?_ | with_reducible refine w_prim ?_ | with_reducible refine wB_b ?_ | with_reducible refine wI_t ?_ | with_reducible refine wI_f ?_ | with_reducible refine wI_n ?_ | with_reducible refine wN_i ?_ | with_reducible refine x_wcond ?_ | with_reducible refine x_wret ?_ | with_reducible refine x_wexpr ?_ | with_reducible refine x_wpar ?_ | with_reducible refine sa_consN ?_ | with_reducible refine sa_nil ?_ | with_reducible refine w_add ?_ | with_reducible refine w_sub ?_ | with_reducible refine c_wlt ?_ | with_reducible refine c_wle ?_ | with_reducible refine c_weq ?_ | with_reducible refine c_wne ?_ | with_reducible refine c_wgt ?_ | with_reducible refine c_wge ?_ | with_reducible refine c_weqs ?_ | with_reducible refine c_wnes ?_ | with_reducible refine w_idx ?_ | with_reducible refine w_not ?_ | with_reducible refine w_andE ?_ | with_reducible refine w_orE ?_ | with_reducible refine w_ite ?_ | with_reducible refine w_cmp2 ?_ | with_reducible refine w_tup ?_ | with_reducible refine w_lst ?_ | with_reducible refine w_lenN (by first | (simp only [List.length_cons, List.length_nil]; done) | (simp only [List.length_cons, List.length_nil]; omega) | omega) ?_ | with_reducible refine w_mk ?_ | with_reducible refine w_mkt ?_ | with_reducible refine w_slice ?_ | with_reducible refine wOpt_n ?_ | with_reducible refine wOpt_s ?_ | with_reducible refine s_wtup ?_ | with_reducible refine s_wlst ?_ | with_reducible refine w_meth ?_ | with_reducible refine w_app (by assumption) ?_ | with_reducible refine w_popT (by assumption) ?_ | with_reducible refine w_isi ?_ | with_reducible refine w_ty (by with_unfolding_all exact rfl) ?_ | with_reducible refine w_neg ?_ | with_reducible refine w_dix ?_ | with_reducible refine w_dget ?_ | with_reducible refine w_din ?_ | with_reducible refine w_dsome ?_ | with_reducible refine w_dk ?_ | with_reducible refine w_slot ?_ | with_reducible refine w_ownm ?_ | with_reducible refine w_ownp ?_ | with_reducible refine w_ownl ?_ | with_reducible refine w_owns ?_ | with_reducible refine w_owni ?_ | with_reducible refine w_ownn ?_ | with_reducible refine w_sl (by assumption) ?_ | with_reducible refine w_slg (by assumption) (by with_unfolding_all exact rfl) ?_ | with_reducible refine w_fstr ?_ | with_reducible refine p_wlenT ?_ | with_reducible refine p_wlenL ?_ | with_reducible refine p_wlenD ?_ | with_reducible refine p_wlenH (by assumption) ?_ | with_reducible refine p_wmax ?_ | with_reducible refine p_wmin ?_ | with_reducible refine p_wtupL ?_ | with_reducible refine p_wtupH (by assumption) ?_ | with_reducible refine p_wlistT ?_ | with_reducible refine p_wlistL ?_ | with_reducible refine x_wbrk ?_ | with_reducible refine x_wcont ?_ | with_reducible refine x_wpass ?_ | with_reducible refine x_wretN ?_ | with_reducible refine x_waugN (by with_unfolding_all exact rfl) ?_ | with_reducible refine x_wraise ?_ | with_reducible refine x_wtry ?_ | with_reducible refine x_weach ?_ | with_reducible refine x_wrng1 ?_ | with_reducible refine x_wrng2 ?_ | with_reducible refine x_wrng3 ?_ | with_reducible refine w_srcT ?_ | with_reducible refine w_srcL ?_ | with_reducible refine w_srcH (by assumption) ?_ | with_reducible refine wO_seq ?_ | with_reducible refine t_tup rfl ?_ | with_reducible refine t_cons ?_ | with_reducible refine t_nil ?_ | with_reducible refine t_idx ?_ | with_reducible refine t_dix ?_ | with_reducible refine t_slot ?_ | with_reducible refine w_newo ?_ | with_reducible refine w_mkD ?_ | with_reducible refine w_mkDt ?_ | with_reducible refine w_dct0 ?_ | with_reducible refine w_keyS ?_ | with_reducible refine w_keyI ?_ | with_reducible refine w_sm (by omega) ?_)
local macro_rules | `(tactic| walk_at "pi") => `(tactic| repeat walk_at "one")
local macro_rules | `(tactic| walk_at "def") => `(tactic| (simp only [List.map_cons, List.map_nil, List.cons_append, List.nil_append, List.length_cons, List.length_nil, Nat.reduceAdd, Nat.reduceSub, List.replicate]))
local macro_rules | `(tactic| walk_at "len") => `(tactic| first | omega | (simp only [List.length_map, List.length_append, List.length_cons, List.length_nil]; omega))
/-- the ends of the open places, ahead of p -/
def pst (f : Nat → Nat) (p : Nat) : List Nat := ((List.range p).filter fun q => decide (p ≤ f q)).map f
theorem pst_succ {f : Nat → Nat} {p : Nat} (h : p < f p) : pst f (p + 1) = (anc f p).map f ++ [f p] := by
  unfold pst anc
  rw [List.range_succ, List.filter_append, List.map_append]
  congr 1
  rw [List.filter_cons, decide_eq_true (show p + 1 ≤ f p from h)]
  rfl
theorem pst_filter {f : Nat → Nat} {p : Nat} : (pst f p).filter (fun x => decide (p < x)) = (anc f p).map f := by
  unfold pst anc
  rw [List.filter_map, List.filter_filter]
  congr 1
  refine List.filter_congr fun q _ => ?_
  show (decide (p < f q) && decide (p ≤ f q)) = decide (p < f q)
  by_cases c : p < f q
  · rw [decide_eq_true c, decide_eq_true (Nat.le_of_lt c)]; rfl
  · rw [decide_eq_false c]; rfl
theorem Tr.pst_mono {as : List Nat} {f : Nat → Nat} (T : Tr as f) {p : Nat} (h : p ≤ as.length) : (pst f p).Pairwise (fun a b => b ≤ a) := by
  unfold pst
  rw [List.pairwise_map]
  have pw : ((List.range p).filter fun q => decide (p ≤ f q)).Pairwise (· < ·) := List.Pairwise.sublist List.filter_sublist List.pairwise_lt_range
  refine List.Pairwise.imp_of_mem (fun {a b} ha hb hab => ?_) pw
  obtain ⟨a1, a2⟩ := List.mem_filter.mp ha
  obtain ⟨b1, b2⟩ := List.mem_filter.mp hb
  have a1 := List.mem_range.mp a1
  have b1 := List.mem_range.mp b1
  have a2 := of_decide_eq_true a2
  exact T.nest (by omega) (Nat.le_of_lt hab) (by omega)
/-- what is popped -/
theorem pop_done {M R : List Nat} {p : Nat} (pw : (M ++ R).Pairwise (fun a b => b ≤ a)) (hR : ∀ x ∈ R, x ≤ p) (hM : M = [] ∨ ∃ M' x, M = M' ++ [x] ∧ p < x) : (M ++ R).filter (fun x => decide (p < x)) = M := by
  rw [List.filter_append]
  have e2 : R.filter (fun x => decide (p < x)) = [] := by
    rw [List.filter_eq_nil_iff]
    intro x hx
    have := hR x hx
    rw [decide_eq_true_eq]
    omega
  have e1 : M.filter (fun x => decide (p < x)) = M := by
    rw [List.filter_eq_self]
    intro x hx
    rw [decide_eq_true_eq]
    rcases hM with z | ⟨M', y, rfl, hy⟩
    · rw [z] at hx; cases hx
    · rcases List.mem_append.mp hx with q | q
      · have pm := (List.pairwise_append.mp pw).1
        have := (List.pairwise_append.mp pm).2.2 x q y List.mem_cons_self
        omega
      · have : x = y := by simpa using q
        omega
  rw [e1, e2, List.append_nil]
theorem nI_len {l : List Nat} : (nI l).length = l.length := List.length_map ..
theorem good_nI {l : List Nat} (h : ∀ x ∈ l, x < 10 ^ 100) : ∀ x ∈ nI l, Good 0 640 x := by
  intro x hx
  obtain ⟨k, hk, rfl⟩ := List.mem_map.mp hx
  exact good_nat (h k hk)
section
variable {P : List FnDecl} {N : Nat} {h : AH} {ar br : Ar} {ts : List Str} {p : Nat} {ls : List D} {iInt iIx iKn iWh iRT iE iReqT iReqP iReq i : Nat}
theorem lev_ok (D0 : Defs P iInt iIx iKn iWh iRT iE iReqT iReqP iReq) (hM : P[i]? = some ⟨2, 6, bLev iReqT iE⟩) (A : Ari ar) (o : Ops h p (sr ar) ls) (T : Tree ar ts) (hl : ts.length ≤ 5000) : wR (run P (N + 4) i [.loc p, .tup (ts.map D.str)] h) (fun d h' => d = .int (levN (en (asN (gt ar) ts)) ts.length) ∧ Grow h h') noX := by
  have tr := T.tr A
  obtain ⟨as, eas⟩ : ∃ as, as = asN (gt ar) ts := ⟨_, rfl⟩
  have las : as.length = ts.length := by rw [eas, asN_len]
  have EO := ends_ok (N := N + 2) (h := h) D0.hE A (gt_sr A) T hl
  rw [← eas] at tr EO ⊢
  refine w_run hM rfl ?_
  have a0 := o.at_
  walk_at "def"
  unfold bLev
  walk_at "pi"
  refine wR_eq (reqT_ok D0.hK D0.hW D0.hRT D0.hT A o T hl) ?_
  walk_at "pi"
  refine wR_eqG EO fun h1 g1 => ?_
  walk_at "pi"
  rw [List.length_map]
  refine w_sm (by omega) ?_
  have bnd : ∀ m, m ≤ as.length → ∀ x ∈ pst (en as) m, x < 10 ^ 100 := by
    intro m hm x hx
    obtain ⟨q, hq, rfl⟩ := List.mem_map.mp hx
    have := List.mem_range.mp (List.mem_filter.mp hq).1
    have := tr.le q (by omega)
    have : (5000 : Nat) < 10 ^ 100 := by decide
    omega
  refine goF_w (fun m ρ h' => ∃ o5, ρ = [some (.loc p), some (.tup (ts.map D.str)), some (.tup (endsD as)), some (.loc h1.length), some (.int ((levN (en as) m : Nat) : Int)), o5] ∧ h' = h1 ++ [.lst (nI (pst (en as) m))]) ⟨_, rfl, rfl⟩ (fun _ _ _ _ _ => rfl) ?_ ?_
  · rintro m ρ h' x ⟨o5, rfl, rfl⟩ hx hm
    obtain ⟨rfl, hlt⟩ := rangeD_get hx
    rw [rangeD_len] at hm
    have hm : m < as.length := by omega
    have em : (0 : Int) + (m : Int) = (m : Int) := by omega
    rw [em]
    have pw := tr.pst_mono (p := m) (by omega)
    have bd := bnd m (by omega)
    have pl : (pst (en as) m).length ≤ m := by
      unfold pst
      rw [List.length_map]
      exact Nat.le_trans (List.length_filter_le _ _) (by rw [List.length_range]; exact Nat.le_refl _)
    walk_at "pi"
    refine x_wloop (fun k ρ h' => ∃ M R, M.length = k ∧ M ++ R = pst (en as) m ∧ (∀ x ∈ R, x ≤ m) ∧ ρ = [some (.loc p), some (.tup (ts.map D.str)), some (.tup (endsD as)), some (.loc h1.length), some (.int ((levN (en as) m : Nat) : Int)), some (.int (m : Int))] ∧ h' = h1 ++ [.lst (nI M)]) (k0 := (pst (en as) m).length) (by omega) ⟨_, [], rfl, List.append_nil _, fun _ z => (List.not_mem_nil z).elim, rfl, rfl⟩ ?_
    rintro k ρ h' ⟨M, R, hk, eMR, hR, rfl, rfl⟩
    have a1 : (h1 ++ [AO.lst (nI M)])[h1.length]? = some (.lst (nI M)) := by simp
    have gM : ∀ x ∈ nI M, Good 0 640 x := good_nI fun x hx => bd x (by rw [← eMR]; exact List.mem_append_left _ hx)
    walk_at "pi"
    refine wP_some (ne_loc_nil a1 gM (by decide)) ?_
    have fin : ∀ M R, M ++ R = pst (en as) m → (∀ x ∈ R, x ≤ m) → (M = [] ∨ ∃ M' x, M = M' ++ [x] ∧ m < x) → wO (evSs (run P (N + 3)) [.expr (.meth .append (.var 3) [.idx (.var 2) (.var 5)]), .asg (.var 4) (.prim false .max2 [.var 4, .prim false .len [.var 3]])] [some (.loc p), some (.tup (ts.map D.str)), some (.tup (endsD as)), some (.loc h1.length), some (.int ((levN (en as) m : Nat) : Int)), some (.int (m : Int))] (h1 ++ [.lst (nI M)]))
        (fun ρ h' => ∃ o5, ρ = [some (.loc p), some (.tup (ts.map D.str)), some (.tup (endsD as)), some (.loc h1.length), some (.int ((levN (en as) (m + 1) : Nat) : Int)), o5] ∧ h' = h1 ++ [.lst (nI (pst (en as) (m + 1)))]) (fun _ _ => False) (fun _ _ => False) (fun _ _ => False) (fun _ _ _ _ => False) := by
      intro M R eMR hR hM
      have eM : M = (anc (en as) m).map (en as) := by
        rw [← pst_filter, ← eMR]
        exact (pop_done (by rw [eMR]; exact pw) hR hM).symm
      have a1 : (h1 ++ [AO.lst (nI M)])[h1.length]? = some (.lst (nI M)) := by simp
      have lM : M.length ≤ m := by
        have := congrArg List.length eMR
        rw [List.length_append] at this
        omega
      walk_at "pi"
      refine i_ends hm ?_
      walk_at "pi"
      refine m_wappN a1 (by rw [nI_len]; omega) ?_
      have e2 : put h1.length (nI M ++ [.int (en as m)]) (h1 ++ [AO.lst (nI M)]) = h1 ++ [.lst (nI (pst (en as) (m + 1)))] := by
        unfold put
        rw [List.set_append, if_neg (Nat.lt_irrefl _), Nat.sub_self, pst_succ (tr.lt m hm), ← eM, nI_snoc]
        rfl
      rw [e2]
      have a2 : (h1 ++ [AO.lst (nI (pst (en as) (m + 1)))])[h1.length]? = some (.lst (nI (pst (en as) (m + 1)))) := by simp
      walk_at "pi"
      refine ⟨some (.int (m : Int)), ?_, rfl⟩
      have lp : (pst (en as) (m + 1)).length = 1 + (anc (en as) m).length := by
        rw [pst_succ (tr.lt m hm), List.length_append, List.length_map]
        show (anc (en as) m).length + 1 = _
        omega
      rw [nI_len, lp]
      have el : levN (en as) (m + 1) = max (levN (en as) m) (1 + (anc (en as) m).length) := rfl
      have em2 : (if ((1 + (anc (en as) m).length : Nat) : Int) > ((levN (en as) m : Nat) : Int) then ((1 + (anc (en as) m).length : Nat) : Int) else ((levN (en as) m : Nat) : Int)) = ((levN (en as) (m + 1) : Nat) : Int) := by
        rw [el]
        split <;> omega
      rw [em2]
    have rest : (M = [] ∨ ∃ M' x, M = M' ++ [x] ∧ m < x) → wO (evSs (run P (N + 3)) [.expr (.meth .append (.var 3) [.idx (.var 2) (.var 5)]), .asg (.var 4) (.prim false .max2 [.var 4, .prim false .len [.var 3]])] [some (.loc p), some (.tup (ts.map D.str)), some (.tup (endsD as)), some (.loc h1.length), some (.int ((levN (en as) m : Nat) : Int)), some (.int (m : Int))] (h1 ++ [.lst (nI M)]))
        (fun ρ h' => ∃ o5, ρ = [some (.loc p), some (.tup (ts.map D.str)), some (.tup (endsD as)), some (.loc h1.length), some (.int ((levN (en as) (m + 1) : Nat) : Int)), o5] ∧ h' = h1 ++ [.lst (nI (pst (en as) (m + 1)))]) (fun _ _ => False) (fun _ _ => False) (fun _ _ => False) (fun _ _ _ _ => False) := fin M R eMR hR
    walk_at "pi"
    rcases List.eq_nil_or_concat M with z | ⟨M', x, z⟩
    · have hM : M = [] ∨ ∃ M' x, M = M' ++ [x] ∧ m < x := .inl z
      refine wI_dt (by rw [z]; rfl) ?_
      refine wB_b ?_
      refine wI_f ?_
      exact wO_mono (rest hM) (fun _ _ z => z) (fun _ _ z => z.elim) (fun _ _ z => z.elim) (fun _ _ z => z.elim) fun _ _ _ _ z => z.elim
    · rw [List.concat_eq_append] at z
      refine wI_df (by rw [z, nI_snoc]; simp) ?_
      walk_at "pi"
      rw [z, nI_snoc] at a1 ⊢
      refine i_wneg1 a1 ?_
      walk_at "pi"
      refine wI_d (fun c => ?_) (fun c => ?_)
      · walk_at "pi"
        refine m_wpop a1 ?_
        refine ⟨k - 1, by rw [z, List.length_append] at hk; show k - 1 < k; have : M'.length + 1 = k := hk; omega, M', x :: R, by rw [z, List.length_append] at hk; have : M'.length + 1 = k := hk; omega, by rw [← eMR, z, List.append_assoc]; rfl, fun y hy => ?_, rfl, ?_⟩
        · rcases List.mem_cons.mp hy with rfl | hy
          · omega
          · exact hR y hy
        · unfold put
          rw [List.set_append, if_neg (Nat.lt_irrefl _), Nat.sub_self]
          rfl
      · have hM : M = [] ∨ ∃ M' x, M = M' ++ [x] ∧ m < x := .inr ⟨M', x, z, by omega⟩
        have := rest hM
        rw [z, nI_snoc] at this
        exact wO_mono this (fun _ _ z => z) (fun _ _ z => z.elim) (fun _ _ z => z.elim) (fun _ _ z => z.elim) fun _ _ _ _ z => z.elim
  · rintro ρ h' ⟨o5, rfl, rfl⟩
    have : (rangeD 0 (ts.length : Int)).length = ts.length := by rw [rangeD_len]; omega
    rw [this]
    walk_at "pi"
    exact ⟨rfl, g1.trans (.push _ _)⟩
end
end PITree
set_option maxRecDepth 100000
set_option maxHeartbeats 1000000
namespace PI
section
variable {F : Fn} {ρ : Rho} {h : AH} {Q : D → AH → Prop} {X : Nat → D → AH → Prop}
theorem goC_g {f : D → AH → Res (Option D)} {st : AH → Bool} (g : D → D) (I : AH → Prop) (hst : ∀ h, I h → st h = true) : ∀ {xs : List D} {h : AH}, I h → (∀ x ∈ xs, ∀ h, I h → wR (f x h) (fun o h' => o = some (g x) ∧ I h') noX) → ∃ h', goC f st xs h = .ok (xs.map g) h' ∧ I h'
  | [], h, h0, _ => ⟨h, by unfold goC; rw [hst h h0]; rfl, h0⟩
  | x :: xs, h, h0, step => by
    obtain ⟨o, h1, e, rfl, I1⟩ := wR_ex (step x List.mem_cons_self h h0)
    obtain ⟨h2, e2, I2⟩ := goC_g g I hst I1 fun y hy => step y (List.mem_cons_of_mem _ hy)
    refine ⟨h2, ?_, I2⟩
    unfold goC
    rw [hst h h0, if_pos rfl, e, bind_ok, e2, bind_ok]
    rfl
/-- a row over a thing, where the heap may change -/
theorem w_compG {m : Bool} {i : Nat} {src elt : E} (f : D → D) (I : AH → Prop) (k : wR (evE F src ρ h) (fun s h1 => wP (srcItems h1 s) fun xs => xs.length ≤ szl ∧ I h1 ∧ (∀ h, I h → still xs s h = true) ∧ (∀ x ∈ xs, ∀ h, I h → wR (evE F elt (ρ.set i (some x)) h) (fun d h' => d = f x ∧ I h') noX) ∧ ∀ h', I h' → wR (mk m (xs.map f) h') Q X) noX) : wR (evE F (.comp m i src none elt) ρ h) Q X := by
  obtain ⟨s, h1, e, k⟩ := wR_ex k
  cases q : srcItems h1 s with
  | none => rw [q] at k; exact k.elim
  | some xs =>
    rw [q] at k
    obtain ⟨l, k0, k1, k2, k3⟩ := k
    have e9 : evE F (.comp m i src none elt) ρ h = (evE F src ρ h).bind fun s h1 => (Res.of (srcItems h1 s) h1).bind fun xs h2 =>
      ((goC (fun x h3 => (evC F none (ρ.set i (some x)) h3).bind fun b h4 => match b with
          | true => (evE F elt (ρ.set i (some x)) h4).bind fun y h5 => .ok (some y) h5
          | false => .ok none h4) (still xs s) xs h2).nox).bind fun ys h6 => if decide (ys.length ≤ szl) then mk m ys h6 else .fail := rfl
    obtain ⟨h2, key, I2⟩ := goC_g (f := fun x h3 => (evC F none (ρ.set i (some x)) h3).bind fun b h4 => match b with
          | true => (evE F elt (ρ.set i (some x)) h4).bind fun y h5 => .ok (some y) h5
          | false => .ok none h4) (st := still xs s) f I k1 (xs := xs) k0 fun x hx h hI => by
        have hc : evC F none (ρ.set i (some x)) h = .ok true h := rfl
        rw [hc, bind_ok]
        dsimp only
        refine wR_bind (wR_mono (k2 x hx h hI) (fun d h' z => ?_) fun _ _ _ z => z)
        obtain ⟨rfl, z⟩ := z
        exact ⟨rfl, z⟩
    rw [e9, e, bind_ok, q, of_some, bind_ok, key, nox_val, bind_ok, if_pos (decide_eq_true (by rw [List.length_map]; exact l))]
    exact k3 h2 I2
end
end PI
namespace PITree
open PI
open PySem (PyData Str)
section
variable {ar : Ar} {ts : List Str}
theorem Tree.sub (A : Ari ar) (T : Tree ar ts) {q : Nat} (h : q < ts.length) : Tree ar (slc ts q (en (asN (gt ar) ts) q)) := by
  have tr := T.tr A
  have hq : q < (asN (gt ar) ts).length := by rw [asN_len]; exact h
  have lt := tr.lt q hq
  have le := tr.le q hq
  rw [asN_len] at le
  have kn : ∀ u ∈ slc ts q (en (asN (gt ar) ts) q), u ∈ srt ar := fun u hu => T.kn u (List.mem_of_mem_drop (List.mem_of_mem_take hu))
  refine ⟨kn, ?_, ?_⟩
  · have nn : ∀ w ∈ slc ts q (en (asN (gt ar) ts) q), 0 ≤ (gt ar w).getD 0 := fun w hw => by
      obtain ⟨i, e, h0, _⟩ := gt_at A (kn w hw)
      rw [e]
      exact h0
    have := opn_N (g := gt ar) (l := 1) nn
    rw [asN_slc, tr.opn_sub hq] at this
    exact this
  · intro z
    have := congrArg List.length z
    rw [slc_len le] at this
    have z0 : ([] : List Str).length = 0 := rfl
    omega
theorem good_words (A : Ari ar) {us : List Str} (hu : ∀ u ∈ us, u ∈ srt ar) : ∀ x ∈ us.map D.str, Good 0 8 x := by
  intro x hx
  obtain ⟨s, hs, rfl⟩ := List.mem_map.mp hx
  obtain ⟨i, hi⟩ := srt_mem.mp (hu s hs)
  exact word_good _ (A.nm _ hi)
theorem ne_words (A : Ari ar) {us : List Str} (hu : ∀ u ∈ us, u ∈ srt ar) {h : AH} : cmp2 .ne (.tup (us.map D.str)) (.tup (us.map D.str)) h = some false := ne_self (good_tup (good_words A hu)) (by decide)
theorem eq_words (A : Ari ar) {us : List Str} (hu : ∀ u ∈ us, u ∈ srt ar) {h : AH} : cmp2 .eq (.tup (us.map D.str)) (.tup (us.map D.str)) h = some true := eq_self (good_tup (good_words A hu)) (by decide)
theorem ne_nats {l : List Nat} (hb : ∀ x ∈ l, x < 10 ^ 100) {h : AH} : cmp2 .ne (.tup (nI l)) (.tup (nI l)) h = some false := ne_self (good_tup (good_nI hb)) (by decide)
theorem small100 {x : Nat} (h : x ≤ 1000000) : x < 10 ^ 100 := Nat.lt_of_le_of_lt h (by decide)
theorem chl_le {as : List Nat} {f : Nat → Nat} (T : Tr as f) {p : Nat} (h : p < as.length) : ∀ x ∈ chl f as[p] p, p < x ∧ x < as.length := by
  intro x hx
  obtain ⟨i, hi, rfl⟩ := List.mem_map.mp hx
  have hi := List.mem_range.mp hi
  have := T.child_lt h hi
  have := T.le p h
  exact ⟨T.child_gt h (Nat.le_of_lt hi), by omega⟩
/-- ends in a list of the heap, read at a place -/
theorem i_stops {as : List Nat} {q s : Nat} {h : AH} {k : D → Prop} (e : h[s]? = some (.lst (endsD as))) (hq : q < as.length) (c : k (.int (en as q))) : wP (index h (.loc s) (.int (q : Int))) k := by
  refine i_wloc e (by omega) (by rw [endsD_len]; omega) fun d hd => ?_
  rw [show ((q : Int)).toNat = q from by omega, endsD_get hq] at hd
  cases hd
  exact c
/-- a number in a row of numbers -/
theorem in_nats {l : List Nat} {q : Nat} {h : AH} (hb : ∀ x ∈ l, x < 10 ^ 100) (hq : q < 10 ^ 100) (m : q ∈ l) : inO h (.int (q : Int)) (.tup (nI l)) = some true := by
  obtain ⟨p, e, nd, s⟩ := good_p (good_tup (good_nI hb)) (by decide)
  obtain ⟨p1, e1, nd1, s1⟩ := good_p (good_nat hq) (by decide)
  have ek : toPs (nI l) = some (l.map fun k : Nat => PyData.int (k : Int)) := by
    clear hb m e nd s
    induction l with
    | nil => rfl
    | cons a l ih =>
      show (toP (.int (a : Int))).bind (fun x => (toPs (nI l)).map fun r => x :: r) = _
      rw [ih]
      rfl
  have e2 : p = .tuple (l.map fun k : Nat => PyData.int (k : Int)) := by
    have : (toPs (nI l)).map PyData.tuple = some p := e
    rw [ek] at this
    exact (Option.some.inj this).symm
  subst e2
  cases e1
  have nd : noDicts (l.map fun k : Nat => PyData.int (k : Int)) = true := nd
  show (match toP (look h (.int (q : Int))), toP (look h (.tup (nI l))) with
    | some d, some (.list ds) => if noDict d && noDicts ds && PySem.SeqAt.shaped d && PySem.SeqAt.shaped (.list ds) then some (ds.any fun z => PyData.eqv z d) else none
    | some d, some (.tuple ds) => if noDict d && noDicts ds && PySem.SeqAt.shaped d && PySem.SeqAt.shaped (.tuple ds) then some (ds.any fun z => PyData.eqv z d) else none
    | _, _ => none) = some true
  have t1 : toP (look h (.int (q : Int))) = some (.int (q : Int)) := rfl
  have t2 : toP (look h (.tup (nI l))) = some (.tuple (l.map fun k : Nat => PyData.int (k : Int))) := by rw [look_tup]; exact e
  rw [t1, t2]
  dsimp only
  rw [nd1, nd, s1, s]
  show some _ = some true
  congr 1
  rw [List.any_eq_true]
  exact ⟨.int (q : Int), List.mem_map.mpr ⟨q, m, rfl⟩, by simp [PyData.eqv]⟩
end
end PITree
set_option maxRecDepth 100000
set_option maxHeartbeats 0
namespace K04
open PySem
def b0 : List PI.S := [.ret (.and (.isi (.var 0) .int) (.and (.not (.isi (.var 0) .bool)) (.cmp2 .lt .lt (.neg (.cst (.int 1000000000000000000000000000000000000000000000000000000000000))) (.var 0) (.cst (.int 1000000000000000000000000000000000000000000000000000000000000)))))]
def b1 : List PI.S := [.ret (.and (.call 0 [.var 0]) (.cmp2 .le .lt (.cst (.int 0)) (.var 0) (.var 1)))]
def b2 : List PI.S := [.ret (.and (.isi (.var 0) .str) (.and (.cmp2 .le .le (.cst (.int 1)) (.prim false .len [.var 0]) (.cst (.int 8))) (.prim false .all [.comp false 1 (.var 0) none (.cmp .isIn (.var 1) (.cst (.str "abcdefghijklmnopqrstuvwxyz")))])))]
def b3 : List PI.S := [.cond (.or (.not (.isi (.var 0) .dict)) (.not (.cmp2 .le .le (.cst (.int 1)) (.prim false .len [.var 0]) (.cst (.int 8)))))
  [.ret (.cst (.bl false))]
  [],
  .ret (.prim false .all [.compI false 1 2 (.var 0) none (.and (.call 2 [.var 1]) (.call 1 [.var 2, .cst (.int 3)]))])]
def b4 : List PI.S := [.ret (.and (.isi (.var 1) .str) (.din false (.var 1) (.var 0)))]
def b5 : List PI.S := [.asg (.var 2) (.cst (.int 1)),
  .each (.var 3) (.var 1)
  [.cond (.cmp .eq (.var 2) (.cst (.int 0)))
  [.ret (.cst (.bl false))]
  [],
  .aug 2 .add (.bin false .sub (.dget (.var 0) (.var 3) (.cst (.int 0))) (.cst (.int 1)))],
  .ret (.cmp .eq (.var 2) (.cst (.int 0)))]
def b6 : List PI.S := [.cond (.or (.not (.isi (.var 1) .tuple)) (.not (.cmp2 .le .le (.cst (.int 1)) (.prim false .len [.var 1]) (.cst (.int 5000)))))
  [.ret (.cst (.bl false))]
  [],
  .ret (.and (.prim false .all [.comp false 2 (.var 1) none (.call 4 [.var 0, .var 2])]) (.call 5 [.var 0, .var 1]))]
def b7 : List PI.S := [.par [2, 3] [.bin true .mul (.lst false [.cst (.int 0)]) (.prim false .len [.var 1]), .lst true []],
  .rng (.var 4) [.bin false .sub (.prim false .len [.var 1]) (.cst (.int 1)), .neg (.cst (.int 1)), .neg (.cst (.int 1))]
  [.asg (.var 5) (.bin false .add (.var 4) (.cst (.int 1))),
  .rng (.var 6) [.dget (.var 0) (.idx (.var 1) (.var 4)) (.cst (.int 0))]
  [.asg (.var 5) (.meth .pop (.var 3) [])],
  .expr (.meth .append (.var 3) [.var 5]),
  .asg (.idx (.var 2) (.var 4)) (.var 5)],
  .ret (.prim false .tuple [.var 2])]
def b8 : List PI.S := [.cond (.not (.call 6 [.slot 0 (.var 0) 0, .var 1]))
  [.dead]
  []]
def b9 : List PI.S := [.cond (.not (.call 1 [.var 1, .prim false .len [.var 0]]))
  [.dead]
  []]
def b10 : List PI.S := [.asg (.var 2) (.ite (.cmp .lt (.var 1) (.prim false .len [.var 0])) (.prim false .int [.idx (.var 0) (.var 1)]) (.bin false .add (.bin false .mul (.cst (.int 47)) (.var 1)) (.cst (.int 9)))),
  .asg (.var 3) (.bin false .mod (.prim false .abs [.var 2]) (.bin false .pow (.cst (.int 10)) (.cst (.int 59)))),
  .asg (.var 4) (.prim false .max2 [.cst (.int 0), .bin false .sub (.prim false .abs [.var 2]) (.bin false .pow (.cst (.int 10)) (.cst (.int 17)))]),
  .ret (.lst true [.bin false .mod (.var 4) (.bin false .mul (.bin false .pow (.cst (.int 10)) (.cst (.int 60))) (.bin false .pow (.cst (.int 10)) (.cst (.int 60)))), .bin false .add (.bin false .add (.bin false .add (.bin false .mul (.bin false .mod (.var 3) (.cst (.int 2147483563))) (.cst (.int 41))) (.bin false .mul (.cst (.int 613)) (.var 1))) (.bin false .mul (.cst (.int 17)) (.prim false .int [.cmp .lt (.var 2) (.cst (.int 0))]))) (.cst (.int 7)), .cst (.int 0)])]
def b11 : List PI.S := [.cond (.cmp .gt (.idx (.var 0) (.cst (.int 0))) (.cst (.int 0)))
  [.asg (.var 2) (.bin false .mod (.prim false .int [.idx (.var 0) (.cst (.int 0))]) (.var 1)),
  .asg (.idx (.var 0) (.cst (.int 0))) (.bin false .fdiv (.idx (.var 0) (.cst (.int 0))) (.var 1)),
  .ret (.var 2)]
  [],
  .asg (.idx (.var 0) (.cst (.int 2))) (.bin false .add (.idx (.var 0) (.cst (.int 2))) (.cst (.int 1))),
  .asg (.var 3) (.bin false .mod (.prim false .int [.bin false .add (.idx (.var 0) (.cst (.int 1))) (.bin false .mul (.cst (.int 7901)) (.idx (.var 0) (.cst (.int 2))))]) (.cst (.int 2305843009213693907))),
  .asg (.var 4) (.bin false .add (.bin false .mul (.bin false .mod (.prim false .int [.bin false .add (.bin false .mul (.var 3) (.var 3)) (.bin false .mul (.cst (.int 71)) (.idx (.var 0) (.cst (.int 2))))]) (.cst (.int 2305843009213693921))) (.cst (.int 6700417))) (.var 3)),
  .ret (.bin false .mod (.prim false .int [.bin false .fdiv (.var 4) (.cst (.int 32768))]) (.var 1))]
def b12 : List PI.S := [.ret (.idx (.var 1) (.call 11 [.var 0, .prim false .len [.var 1]]))]
def b13 : List PI.S := [.par [2, 3] [.prim true .list [.var 1], .lst true []],
  .rng (.var 4) [.prim false .len [.var 1]]
  [.expr (.meth .append (.var 3) [.meth .popAt (.var 2) [.call 11 [.var 0, .prim false .len [.var 2]]]])],
  .ret (.var 3)]
def b14 : List PI.S := [.par [3, 4, 5] [.lst true [], .cst (.int 1), .prim false .sorted [.var 1]],
  .asg (.var 6) (.comp false 8 (.var 5) (some (.cmp .eq (.dix (.var 1) (.var 8)) (.cst (.int 0)))) (.var 8)),
  .rng (.var 7) [.bin false .add (.bin false .mul (.cst (.int 2)) (.var 2)) (.cst (.int 3))]
  [.cond (.cmp .eq (.var 4) (.cst (.int 0)))
  [.brk]
  [],
  .asg (.var 8) (.call 12 [.var 0, .ite (.cmp .lt (.bin false .add (.prim false .len [.var 3]) (.var 4)) (.var 2)) (.var 5) (.var 6)]),
  .expr (.meth .append (.var 3) [.var 8]),
  .asg (.var 4) (.bin false .add (.bin false .sub (.var 4) (.cst (.int 1))) (.dix (.var 1) (.var 8)))],
  .ret (.prim false .tuple [.var 3])]
def b15 : List PI.S := [.asg (.var 1) (.call 13 [.var 0, .lst false [.cst (.str "c"), .cst (.str "v"), .cst (.str "p"), .cst (.str "s"), .cst (.str "add"), .cst (.str "operator"), .cst (.str "aa"), .cst (.str "z"), .cst (.str "op"), .cst (.str "goal")]]),
  .asg (.var 2) (.dct true [.idx (.var 1) (.cst (.int 0))] [.cst (.int 0)]),
  .each (.var 3) (.slice false (.var 1) (some (.cst (.int 1))) (some (.bin false .add (.cst (.int 1)) (.call 11 [.var 0, .cst (.int 4)]))))
  [.asg (.dix (.var 2) (.var 3)) (.call 11 [.var 0, .cst (.int 3)])],
  .ret (.prim false .dict [.call 13 [.var 0, .ditems false (.var 2)]])]
def b16 : List PI.S := [.par [2, 3] [.comp true 7 (.var 1) none (.cst (.int 0)), .lst true []],
  .rng (.var 4) [.bin false .sub (.prim false .len [.var 1]) (.cst (.int 1)), .neg (.cst (.int 1)), .neg (.cst (.int 1))]
  [.asg (.var 5) (.bin false .add (.var 4) (.cst (.int 1))),
  .rng (.var 6) [.dix (.var 0) (.idx (.var 1) (.var 4))]
  [.asg (.var 5) (.meth .pop (.var 3) [])],
  .expr (.meth .append (.var 3) [.var 5]),
  .asg (.idx (.var 2) (.var 4)) (.var 5)],
  .ret (.var 2)]
def b17 : List PI.S := [.par [5, 6] [.idx (.var 3) (.var 4), .compR false 8 (.var 4) (some (.cmp .gt (.idx (.var 3) (.var 8)) (.var 4))) (.var 8)],
  .par [7, 8] [.lst true [], .bin false .add (.var 4) (.cst (.int 1))],
  .rng (.var 9) [.dix (.var 1) (.idx (.var 2) (.var 4))]
  [.expr (.meth .append (.var 7) [.var 8]),
  .asg (.var 8) (.idx (.var 3) (.var 8))],
  .cond (.or (.cmp .ne (.own .meth 0 23 (.var 0) [.var 2, .var 4]) (.var 5)) (.or (.cmp .ne (.own .meth 0 24 (.var 0) [.var 2, .var 4]) (.slice false (.var 2) (some (.var 4)) (some (.var 5)))) (.cmp .ne (.var 8) (.var 5))))
  [.ret (.cst (.bl false))]
  [],
  .cond (.or (.cmp .ne (.own .meth 0 25 (.var 0) [.var 2, .var 4]) (.prim false .tuple [.var 7])) (.cmp .ne (.own .meth 0 26 (.var 0) [.var 2, .var 4]) (.prim false .tuple [.var 6])))
  [.ret (.cst (.bl false))]
  [],
  .cond (.and (.cmp .gt (.var 4) (.cst (.int 0))) (.cmp .notIn (.var 4) (.own .meth 0 25 (.var 0) [.var 2, .idx (.var 6) (.neg (.cst (.int 1)))])))
  [.ret (.cst (.bl false))]
  [],
  .asg (.var 10) (.tup []),
  .each (.var 11) (.var 7)
  [.asg (.var 10) (.bin false .add (.var 10) (.own .meth 0 24 (.var 0) [.var 2, .var 11]))],
  .ret (.and (.cmp .eq (.slice false (.var 2) (some (.var 4)) (some (.var 5))) (.bin false .add (.tup [.idx (.var 2) (.var 4)]) (.var 10))) (.own .meth 0 21 (.var 0) [.slice false (.var 2) (some (.var 4)) (some (.var 5))]))]
def b18 : List PI.S := [.asg (.tup [.var 2, .var 3]) (.tup [.cst (.int 0), .call 16 [.var 0, .var 1]]),
  .rng (.var 4) [.prim false .len [.var 1]]
  [.asg (.var 2) (.prim false .max2 [.var 2, .bin false .add (.cst (.int 1)) (.prim false .len [.compR false 5 (.var 4) (some (.cmp .gt (.idx (.var 3) (.var 5)) (.var 4))) (.var 5)])])],
  .ret (.var 2)]
def b19 : List PI.S := [.rng (.var 1) [.prim false .max2 [.cst (.int 1), .prim false .min2 [.cst (.int 4), .prim false .len [.var 0]]]]
  [.asg (.var 2) (.call 10 [.var 0, .var 1]),
  .asg (.var 3) (.call 15 [.var 2]),
  .asg (.var 4) (.newo 0 20 [.var 3]),
  .rng (.var 5) [.cst (.int 8)]
  [.asg (.var 6) (.call 14 [.var 2, .var 3, .bin false .add (.cst (.int 1)) (.call 11 [.var 2, .cst (.int 28)])]),
  .asg (.var 7) (.call 16 [.var 3, .var 6]),
  .cond (.cmp .ne (.own .meth 0 27 (.var 4) [.var 6]) (.call 18 [.var 3, .var 6]))
  [.ret (.cst (.bl false))]
  [],
  .rng (.var 8) [.prim false .len [.var 6]]
  [.cond (.not (.call 17 [.var 4, .var 3, .var 6, .var 7, .var 8]))
  [.ret (.cst (.bl false))]
  []],
  .rng (.var 8) [.prim false .len [.var 6]]
  [.asg (.var 9) (.bin false .add (.cst (.int 1)) (.prim false .max1 [.bin false .add (.lst false [.cst (.int 0)]) (.comp false 12 (.own .meth 0 25 (.var 4) [.var 6, .var 8]) none (.own .meth 0 27 (.var 4) [.own .meth 0 24 (.var 4) [.var 6, .var 12]]))])),
  .cond (.cmp .ne (.own .meth 0 27 (.var 4) [.own .meth 0 24 (.var 4) [.var 6, .var 8]]) (.var 9))
  [.ret (.cst (.bl false))]
  []]]],
  .asg (.tup [.var 4, .var 10]) (.tup [.newo 0 20 [.dct false [.cst (.str "c"), .cst (.str "s"), .cst (.str "p")] [.cst (.int 0), .cst (.int 1), .cst (.int 2)]], .bin false .add (.bin false .add (.bin false .mul (.tup [.cst (.str "s")]) (.cst (.int 2000))) (.bin false .mul (.tup [.cst (.str "p"), .cst (.str "c")]) (.cst (.int 1000)))) (.tup [.cst (.str "c")])]),
  .asg (.var 11) (.lst true [.own .meth 0 27 (.var 4) [.var 10], .own .meth 0 23 (.var 4) [.var 10, .cst (.int 0)], .own .meth 0 23 (.var 4) [.var 10, .cst (.int 2001)], .prim false .len [.own .meth 0 26 (.var 4) [.var 10, .cst (.int 4000)]]]),
  .expr (.meth .append (.var 11) [.own .meth 0 25 (.var 4) [.var 10, .cst (.int 2000)]]),
  .cond (.or (.cmp .ne (.var 11) (.lst false [.cst (.int 3001), .cst (.int 4001), .cst (.int 2002), .cst (.int 3000), .tup [.cst (.int 2001), .cst (.int 2002)]])) (.cmp .ne (.own .meth 0 27 (.var 4) [.tup [.cst (.str "c")]]) (.cst (.int 1))))
  [.ret (.cst (.bl false))]
  [],
  .asg (.var 6) (.tup [.cst (.str "p"), .cst (.str "p"), .cst (.str "c"), .cst (.str "c"), .cst (.str "s"), .cst (.str "c")]),
  .asg (.var 11) (.lst true [.own .meth 0 23 (.var 4) [.var 6, .cst (.int 1)], .own .meth 0 24 (.var 4) [.var 6, .cst (.int 1)], .own .meth 0 25 (.var 4) [.var 6, .cst (.int 0)], .own .meth 0 26 (.var 4) [.var 6, .cst (.int 3)], .own .meth 0 27 (.var 4) [.var 6]]),
  .ret (.cmp .eq (.var 11) (.lst false [.cst (.int 4), .tup [.cst (.str "p"), .cst (.str "c"), .cst (.str "c")], .tup [.cst (.int 1), .cst (.int 4)], .tup [.cst (.int 0), .cst (.int 1)], .cst (.int 3)]))]
def b20 : List PI.S := [.cond (.not (.call 3 [.var 1]))
  [.dead]
  [],
  .asg (.slot 0 (.var 0) 0) (.dcomp false 2 (.prim false .sorted [.var 1]) none (.var 2) (.dix (.var 1) (.var 2))),
  .asg (.slot 0 (.var 0) 1) (.prim false .tuple [.compI false 2 3 (.slot 0 (.var 0) 0) none (.fstr [.cst (.str "op"), .cst (.str " "), .var 2, .cst (.str " "), .var 3])])]
def b21 : List PI.S := [.ret (.call 6 [.slot 0 (.var 0) 0, .var 1])]
def b22 : List PI.S := [.expr (.call 8 [.var 0, .var 1]),
  .expr (.call 9 [.var 1, .var 2]),
  .ret (.call 7 [.slot 0 (.var 0) 0, .var 1])]
def b23 : List PI.S := [.ret (.idx (.own .meth 0 22 (.var 0) [.var 1, .var 2]) (.var 2))]
def b24 : List PI.S := [.ret (.slice false (.var 1) (some (.var 2)) (some (.idx (.own .meth 0 22 (.var 0) [.var 1, .var 2]) (.var 2))))]
def b25 : List PI.S := [.par [3, 4, 5] [.own .meth 0 22 (.var 0) [.var 1, .var 2], .lst true [], .bin false .add (.var 2) (.cst (.int 1))],
  .loop (.cmp .lt (.var 5) (.idx (.var 3) (.var 2)))
  [.expr (.meth .append (.var 4) [.var 5]),
  .asg (.var 5) (.idx (.var 3) (.var 5))],
  .ret (.prim false .tuple [.var 4])]
def b26 : List PI.S := [.asg (.var 3) (.own .meth 0 22 (.var 0) [.var 1, .var 2]),
  .ret (.prim false .tuple [.compR false 4 (.var 2) (some (.cmp .gt (.idx (.var 3) (.var 4)) (.var 2))) (.var 4)])]
def b27 : List PI.S := [.expr (.call 8 [.var 0, .var 1]),
  .par [2, 3, 4] [.call 7 [.slot 0 (.var 0) 0, .var 1], .lst true [], .cst (.int 0)],
  .rng (.var 5) [.prim false .len [.var 1]]
  [.loop (.and (.cmp .ne (.var 3) (.lst false [])) (.cmp .le (.idx (.var 3) (.neg (.cst (.int 1)))) (.var 5)))
  [.expr (.meth .pop (.var 3) [])],
  .expr (.meth .append (.var 3) [.idx (.var 2) (.var 5)]),
  .asg (.var 4) (.prim false .max2 [.var 4, .prim false .len [.var 3]])],
  .ret (.var 4)]
def b28 : List PI.S := [.ret (.prim false .len [.slot 0 (.var 0) 1])]
def b29 : List PI.S := [.ret (.call 4 [.slot 0 (.var 0) 0, .var 1])]
def b30 : List PI.S := [.ret (.fstr [.prim false .len [.slot 0 (.var 0) 1], .cst (.str " operators")])]
def Pr : List PI.FnDecl := [⟨1, 1, b0⟩, ⟨2, 2, b1⟩, ⟨1, 2, b2⟩, ⟨1, 3, b3⟩, ⟨2, 2, b4⟩, ⟨2, 4, b5⟩, ⟨2, 3, b6⟩, ⟨2, 7, b7⟩, ⟨2, 2, b8⟩, ⟨2, 2, b9⟩, ⟨2, 5, b10⟩, ⟨2, 5, b11⟩, ⟨2, 2, b12⟩, ⟨2, 5, b13⟩, ⟨3, 9, b14⟩, ⟨1, 4, b15⟩, ⟨2, 8, b16⟩, ⟨5, 12, b17⟩, ⟨2, 6, b18⟩, ⟨1, 13, b19⟩, ⟨2, 4, b20⟩, ⟨2, 2, b21⟩, ⟨3, 3, b22⟩, ⟨3, 3, b23⟩, ⟨3, 3, b24⟩, ⟨3, 6, b25⟩, ⟨3, 5, b26⟩, ⟨2, 6, b27⟩, ⟨1, 1, b28⟩, ⟨2, 2, b29⟩, ⟨1, 1, b30⟩]
def Ns0 : List (List String) := [["value"],
  ["value", "many"],
  ["value", "sign"],
  ["value", "name", "arity"],
  ["arities", "value"],
  ["arities", "words", "left", "word"],
  ["arities", "value", "word"],
  ["arities", "words", "found", "open_ends", "place", "end", "turn"],
  ["ops", "value"],
  ["tree", "place"],
  ["script", "spot", "cell", "great", "left"],
  ["dice", "total", "found", "one", "two"],
  ["dice", "items"],
  ["dice", "items", "left", "found", "turn"],
  ["dice", "arities", "cap", "found", "open_ends", "names", "constants", "turn", "name"],
  ["dice", "names", "found", "name"],
  ["arities", "tree", "found", "waiting", "at", "stop", "turn", "name"],
  ["ops", "arities", "tree", "stops", "place", "end", "above", "children", "at", "turn", "parts", "child"],
  ["arities", "tree", "most", "stops", "place", "at"],
  ["script", "spot", "dice", "arities", "ops", "turn", "tree", "stops", "place", "due", "long", "told", "child"],
  ["self", "arities", "name", "arity"],
  ["self", "value"],
  ["self", "tree", "place"],
  ["self", "tree", "place"],
  ["self", "tree", "place"],
  ["self", "tree", "place", "ends", "found", "here"],
  ["self", "tree", "place", "ends", "here"],
  ["self", "tree", "ends", "open_ends", "most", "place"],
  ["self"],
  ["self", "value"],
  ["self"]]
def Ns : List (List Str) := Ns0.map fun l => l.map Str.ofString
def G : PI.GT := ⟨["is_integer", "is_index", "is_name", "are_arities", "is_known", "is_whole", "is_right_tree", "ends_of", "require_tree", "require_place", "_law_dice", "_law_roll", "_law_pick", "_law_mixed", "_law_drawn_tree", "_law_arities", "_law_stops", "_law_place_right", "_law_levels", "law"],
  [("GREATEST", .int 1000000000000000000000000000000000000000000000000000000000000), ("LETTERS", .str "abcdefghijklmnopqrstuvwxyz"), ("MAX_LETTERS", .int 8), ("MAX_OPERATORS", .int 8), ("MAX_TREE", .int 5000), ("OPERATOR", .str "op")],
  ["abs", "all", "bool", "dict", "int", "isinstance", "len", "list", "max", "min", "range", "sorted", "str", "tuple"],
  [],
  [],
  [],
  [⟨"Operators", ["own_arities", "own_lines"], some 20, [("is_tree", 21), ("require", 22), ("end", 23), ("subtree", 24), ("children", 25), ("above", 26), ("levels", 27), ("__len__", 28), ("__contains__", 29), ("__str__", 30)], []⟩]⟩
def dd (k : Nat) : He.DefD := PI.topD (PySem.Challenge.pw_munchbehind_k04_whole_subtrees_and_level.main.body.getD k (.Pass ⟨0, 0, 0, 0⟩))
def mm (k : Nat) (m : Str) : He.DefD := PI.methD (PySem.Challenge.pw_munchbehind_k04_whole_subtrees_and_level.main.body.getD k (.Pass ⟨0, 0, 0, 0⟩)) m
def Ds : List He.DefD := [dd 10, dd 11, dd 12, dd 17, dd 18, dd 19, dd 20, dd 21, dd 22, dd 23, dd 26, dd 27, dd 28, dd 29, dd 30, dd 31, dd 32, dd 33, dd 34, dd 35, mm 24 "__init__", mm 24 "is_tree", mm 24 "require", mm 24 "end", mm 24 "subtree", mm 24 "children", mm 24 "above", mm 24 "levels", mm 24 "__len__", mm 24 "__contains__", mm 24 "__str__"]
end K04
set_option maxRecDepth 100000
set_option maxHeartbeats 1000000
namespace K04
open PI PITree
open PySem (PyData Str)
local macro_rules | `(tactic| walk_at "set") => `(tactic| with_reducible refine wS_n (by simp only [List.set_cons_succ, List.set_cons_zero]; exact rfl) ?_)
local macro_rules | `(tactic| walk_at "one") => `(tactic| first | with_reducible refine x_wcons ?_ | with_reducible refine x_wnil ?_ | with_reducible refine x_wasg ?_ | with_reducible refine t_varN ?_ | walk_at "set" | with_reducible refine w_var (by with_unfolding_all exact rfl) ?_ | with_reducible refine w_cst ?_ | with_reducible refine w_bin ?_ | with_reducible refine w_cmp ?_ | with_reducible refine w_call ?_ | with_reducible refine w_cons ?_ | with_reducible refine w_nil ?_ | with_reducible refine w_prim ?_ | with_reducible refine wB_b ?_ | with_reducible refine wI_t ?_ | with_reducible refine wI_f ?_ | with_reducible refine wI_n ?_ | with_reducible refine wN_i ?_ | with_reducible refine x_wcond ?_ | with_reducible refine x_wret ?_ | with_reducible refine x_wexpr ?_ | with_reducible refine x_wpar ?_ | with_reducible refine sa_consN ?_ | with_reducible refine sa_nil ?_ | with_reducible refine w_add ?_ | with_reducible refine w_sub ?_ | with_reducible refine c_wlt ?_ | with_reducible refine c_wle ?_ | with_reducible refine c_weq ?_ | with_reducible refine c_wne ?_ | with_reducible refine c_wgt ?_ | with_reducible refine c_wge ?_ | with_reducible refine c_weqs ?_ | with_reducible refine c_wnes ?_ | with_reducible refine w_idx ?_ | with_reducible refine w_not ?_ | with_reducible refine w_andE ?_ | with_reducible refine w_orE ?_ | with_reducible refine w_ite ?_ | with_reducible refine w_cmp2 ?_ | with_reducible refine w_tup ?_ | with_reducible refine w_lst ?_ | with_reducible refine w_lenN (by first | (simp only [List.length_cons, List.length_nil]; done) | (simp only [List.length_cons, List.length_nil]; omega) | omega) ?_ | with_reducible refine w_mk ?_ | with_reducible refine w_mkt ?_ | with_reducible refine w_slice ?_ | with_reducible refine wOpt_n ?_ | with_reducible refine wOpt_s ?_ | with_reducible refine s_wtup ?_ | with_reducible refine s_wlst ?_ | with_reducible refine w_meth ?_ | with_reducible refine w_app (by assumption) ?_ | with_reducible refine w_popT (by assumption) ?_ | with_reducible refine w_isi ?_ | with_reducible refine w_ty (by with_unfolding_all exact rfl) ?_ | with_reducible refine w_neg ?_ | with_reducible refine w_dix ?_ | with_reducible refine w_dget ?_ | with_reducible refine w_din ?_ | with_reducible refine w_dsome ?_ | with_reducible refine w_dk ?_ | with_reducible refine w_slot ?_ | with_reducible refine w_ownm ?_ | with_reducible refine w_ownp ?_ | with_reducible refine w_ownl ?_ | with_reducible refine w_owns ?_ | with_reducible refine w_owni ?_ | with_reducible refine w_ownn ?_ | with_reducible refine w_sl (by assumption) ?_ | with_reducible refine w_slg (by assumption) (by with_unfolding_all exact rfl) ?_ | with_reducible refine w_fstr ?_ | with_reducible refine p_wlenT ?_ | with_reducible refine p_wlenL ?_ | with_reducible refine p_wlenD ?_ | with_reducible refine p_wlenH (by assumption) ?_ | with_reducible refine p_wmax ?_ | with_reducible refine p_wmin ?_ | with_reducible refine p_wtupL ?_ | with_reducible refine p_wtupH (by assumption) ?_ | with_reducible refine p_wlistT ?_ | with_reducible refine p_wlistL ?_ | with_reducible refine x_wbrk ?_ | with_reducible refine x_wcont ?_ | with_reducible refine x_wpass ?_ | with_reducible refine x_wretN ?_ | with_reducible refine x_waugN (by with_unfolding_all exact rfl) ?_ | with_reducible refine x_wraise ?_ | with_reducible refine x_wtry ?_ | with_reducible refine x_weach ?_ | with_reducible refine x_wrng1 ?_ | with_reducible refine x_wrng2 ?_ | with_reducible refine x_wrng3 ?_ | with_reducible refine w_srcT ?_ | with_reducible refine w_srcL ?_ | with_reducible refine w_srcH (by assumption) ?_ | with_reducible refine wO_seq ?_ | with_reducible refine t_tup rfl ?_ | with_reducible refine t_cons ?_ | with_reducible refine t_nil ?_ | with_reducible refine t_idx ?_ | with_reducible refine t_dix ?_ | with_reducible refine t_slot ?_ | with_reducible refine w_newo ?_ | with_reducible refine w_mkD ?_ | with_reducible refine w_mkDt ?_ | with_reducible refine w_dct0 ?_ | with_reducible refine w_keyS ?_ | with_reducible refine w_keyI ?_ | with_reducible refine w_sm (by omega) ?_)
local macro_rules | `(tactic| walk_at "pi") => `(tactic| repeat walk_at "one")
local macro_rules | `(tactic| walk_at "def") => `(tactic| (simp only [List.map_cons, List.map_nil, List.cons_append, List.nil_append, List.length_cons, List.length_nil, Nat.reduceAdd, Nat.reduceSub, List.replicate]))
local macro_rules | `(tactic| walk_at "len") => `(tactic| first | omega | (simp only [List.length_map, List.length_append, List.length_cons, List.length_nil]; omega))
theorem D0 : Defs Pr 0 1 4 5 6 7 8 9 22 := ⟨rfl, rfl, rfl, rfl, rfl, rfl, rfl, rfl, rfl⟩
theorem hDi : Pr[10]? = some ⟨2, 5, bDice⟩ := rfl
theorem hRo : Pr[11]? = some ⟨2, 5, bRoll⟩ := rfl
theorem hPi : Pr[12]? = some ⟨2, 2, bPick 11⟩ := rfl
theorem hMi : Pr[13]? = some ⟨2, 5, bMixed 11⟩ := rfl
theorem hDr : Pr[14]? = some ⟨3, 9, bDrawn 12⟩ := rfl
theorem hAr : Pr[15]? = some ⟨1, 4, bAr 11 13⟩ := rfl
theorem hNm : Pr[2]? = some ⟨1, 2, bNm⟩ := rfl
theorem hAre : Pr[3]? = some ⟨1, 3, bAre 2 1⟩ := rfl
theorem hIn : Pr[20]? = some ⟨2, 4, bInit 3⟩ := rfl
theorem hTr : Pr[21]? = some ⟨2, 2, bTreeM 6⟩ := rfl
theorem hEn : Pr[23]? = some ⟨3, 3, bEnd 22⟩ := rfl
theorem hSu : Pr[24]? = some ⟨3, 3, bSub 22⟩ := rfl
theorem hCh : Pr[25]? = some ⟨3, 6, bChl 22⟩ := rfl
theorem hAb : Pr[26]? = some ⟨3, 5, bAbv 22⟩ := rfl
theorem hLe : Pr[27]? = some ⟨2, 6, bLev 8 7⟩ := rfl
section
variable {N : Nat} {h : AH} {ar : Ar} {ts : List Str} {p : Nat} {ls : List D}
theorem map_zero (xs : List D) : xs.map (fun _ => D.int 0) = List.replicate xs.length (.int 0) := by
  induction xs with
  | nil => rfl
  | cons x xs ih => rw [List.map_cons, ih, List.length_cons, List.replicate_succ]
theorem stops_ok (A : Ari ar) (T : Tree ar ts) (hl : ts.length ≤ 5000) : wR (run Pr (N + 1) 16 [.dct (kvD ar), .tup (ts.map D.str)] h) (fun d h' => d = .loc h.length ∧ (h'[h.length]? = some (.lst (endsD (asN (gt ar) ts))) ∧ Grow h h')) noX := by
  refine w_run (show Pr[16]? = some ⟨2, 8, b16⟩ from rfl) rfl ?_
  walk_at "def"
  unfold b16
  walk_at "pi"
  refine w_comp (fun _ => .int 0) ?_
  walk_at "pi"
  refine ⟨by rw [List.length_map]; show _ ≤ 16777216; omega, fun x hx => ?_, ?_⟩
  · walk_at "pi"
    exact ⟨rfl, rfl⟩
  rw [map_zero, List.length_map]
  walk_at "pi"
  rw [List.length_map]
  refine ⟨by rw [decide_eq_true rfl, small62_of (by omega) (by omega)]; rfl, ?_⟩
  have e1 : (h ++ [AO.lst (List.replicate ts.length (D.int 0))]).length = h.length + 1 := by simp
  have e2 : h ++ [AO.lst (List.replicate ts.length (D.int 0))] ++ [AO.lst []] = h ++ [AO.lst (List.replicate ts.length (D.int 0)), .lst []] := by simp
  rw [e1, e2]
  refine ends_go A T (by omega) (fun p w h' o5 o6 hw => ?_) (fun o4 o5 o6 st => ?_)
  · have hp : p < ts.length := (List.getElem?_eq_some_iff.mp hw).1
    have mw : w ∈ ts := List.mem_of_getElem? hw
    obtain ⟨j, ej, _⟩ := gt_at A (T.kn w mw)
    refine wR_to ?_
    walk_at "pi"
    refine i_wtup (by omega) (by rw [List.length_map]; omega) fun d hd => ?_
    rw [show ((p : Int)).toNat = p from by omega, List.getElem?_map, hw] at hd
    cases hd
    walk_at "pi"
    refine w_dfk (d := .int j) (by rw [dfind_kv, ej]; rfl) ?_
    rw [ej]
    exact ⟨rfl, rfl⟩
  · have a0 := two_at0 (h := h) (A := AO.lst (endsD (asN (gt ar) ts))) (B := .lst (nI st))
    walk_at "pi"
    exact ⟨rfl, a0, ⟨_, rfl⟩⟩
theorem is_tree_m (A : Ari ar) (o : Ops h p (sr ar) ls) (T : Tree ar ts) (hl : ts.length ≤ 5000) : run Pr (N + 3) 21 [.loc p, .tup (ts.map D.str)] h = .ok (.bl true) h := by
  refine wR_to (w_run hTr rfl ?_)
  have a0 := o.at_
  walk_at "def"
  unfold bTreeM
  walk_at "pi"
  refine wR_eq (is_tree_ok D0.hK D0.hW D0.hRT A (gt_sr A) T hl) ?_
  exact ⟨rfl, rfl⟩
/-- [at for at in range(place) if stops[at] > place] -/
theorem abv_comp {F : Fn} {as : List Nat} {q s vi : Nat} {ρ : Rho} (e : h[s]? = some (.lst (endsD as))) (hq : q < as.length) (h5 : as.length ≤ 5000) (h3 : ρ[3]? = some (some (.loc s))) (h4 : ρ[4]? = some (some (.int q))) (hv : vi < ρ.length) (n3 : vi ≠ 3) (n4 : vi ≠ 4) : evE F (.compR false vi (.var 4) (some (.cmp .gt (.idx (.var 3) (.var vi)) (.var 4))) (.var vi)) ρ h = .ok (.lst (nI (anc (en as) q))) h := by
  refine wR_to ?_
  with_reducible refine w_compRF (ancB (en as) q) (fun x => x) ?_
  refine w_var h4 ?_
  refine wN_i ?_
  refine w_sm (by omega) ?_
  have mem : ∀ x ∈ rangeD 0 (q : Int), ∃ k : Nat, x = .int k ∧ k < q := by
    intro x hx
    rw [range_nI] at hx
    obtain ⟨k, hk, rfl⟩ := List.mem_map.mp hx
    exact ⟨k, rfl, List.mem_range.mp hk⟩
  refine ⟨by rw [rangeD_len]; show _ ≤ 16777216; omega, fun x hx => ?_, fun x hx _ => ?_, ?_⟩
  · obtain ⟨k, rfl, hk⟩ := mem x hx
    refine w_cmp (w_idx (w_var (by rw [List.getElem?_set_ne n3]; exact h3) (w_var (List.getElem?_set_self hv) ?_)))
    refine i_stops e (by omega) ?_
    refine w_var (by rw [List.getElem?_set_ne n4]; exact h4) ?_
    refine c_wgt ⟨congrArg D.bl ?_, rfl⟩
    show decide ((q : Int) < ((en as k : Nat) : Int)) = decide (q < en as k)
    rw [decide_eq_decide]
    omega
  · exact w_var (List.getElem?_set_self hv) ⟨rfl, rfl⟩
  · refine w_mk ⟨?_, rfl⟩
    rw [map_id', range_nI]
    unfold nI anc
    rw [List.filter_map]
    rfl
theorem still_loc {xs : List D} {c : Nat} {h : AH} (e : h[c]? = some (.lst xs)) : still xs (.loc c) h = true := by
  show (match h[c]? with
    | some (.lst ys) => D.sames ys xs
    | _ => false) = true
  rw [e]
  exact D.sames_refl _
theorem i_wlast {xs : List D} {v : D} {h : AH} {k : D → Prop} (e : xs.getLast? = some v) (q : k v) : wP (index h (.lst xs) (.int (-1))) k := by
  refine wP_some ?_ q
  rw [index_lst]
  rw [List.getLast?_eq_getElem?] at e
  have l : 0 < xs.length := by
    cases xs with
    | nil => cases e
    | cons => simp
  have : ixN xs.length (-1) = some (xs.length - 1) := by
    unfold ixN
    rw [if_neg (by decide), if_pos (by omega)]
    congr 1
    omega
  rw [this]
  exact e
theorem nI_last {l : List Nat} {r : Nat} (e : l.getLast? = some r) : (nI l).getLast? = some (.int r) := by
  unfold nI
  rw [List.getLast?_map, e]
  rfl
theorem nI_get {l : List Nat} {i : Nat} {x : D} (e : (nI l)[i]? = some x) : ∃ k, l[i]? = some k ∧ x = .int k := by
  unfold nI at e
  rw [List.getElem?_map] at e
  cases q : l[i]? with
  | none => rw [q] at e; cases e
  | some k => rw [q] at e; cases e; exact ⟨k, rfl, rfl⟩
theorem abv_w {F : Fn} {as : List Nat} {q s vi : Nat} {ρ : Rho} {Q : D → AH → Prop} {X : Nat → D → AH → Prop} (e : h[s]? = some (.lst (endsD as))) (hq : q < as.length) (h5 : as.length ≤ 5000) (h3 : ρ[3]? = some (some (.loc s))) (h4 : ρ[4]? = some (some (.int q))) (hv : vi < ρ.length) (n3 : vi ≠ 3) (n4 : vi ≠ 4) (k : Q (.lst (nI (anc (en as) q))) h) : wR (evE F (.compR false vi (.var 4) (some (.cmp .gt (.idx (.var 3) (.var vi)) (.var 4))) (.var vi)) ρ h) Q X := wR_eq (abv_comp e hq h5 h3 h4 hv n3 n4) k
/-- _law_place_right -/
theorem place_right (A : Ari ar) (T : Tree ar ts) (hl : ts.length ≤ 5000) (o : Ops h p (sr ar) ls) {s : Nat} (es : h[s]? = some (.lst (endsD (asN (gt ar) ts)))) {q : Nat} (hq : q < (asN (gt ar) ts).length) :
    wR (run Pr (N + 6) 17 [.loc p, .dct (kvD ar), .tup (ts.map D.str), .loc s, .int q] h) (fun d h' => d = .bl true ∧ Grow h h') noX := by
  have tr := T.tr A
  obtain ⟨as, eas⟩ : ∃ as, as = asN (gt ar) ts := ⟨_, rfl⟩
  have las : as.length = ts.length := by rw [eas, asN_len]
  have ch0 : ∀ {h : AH} (_ : Ops h p (sr ar) ls) (q : Nat) (hq : q < as.length), wR (run Pr (N + 5) 25 [.loc p, .tup (ts.map D.str), .int q] h) (fun d h' => d = .tup (nI (chl (en as) as[q] q)) ∧ Grow h h') noX := by
    intro h o q hq
    subst eas
    exact chl_ok D0 hCh A o T hl hq
  have en0 : ∀ {h : AH} (_ : Ops h p (sr ar) ls) (q : Nat) (hq : q < as.length), wR (run Pr (N + 5) 23 [.loc p, .tup (ts.map D.str), .int q] h) (fun d h' => d = .int (en as q) ∧ Grow h h') noX := by
    intro h o q hq
    rw [eas]
    exact end_ok D0 hEn A o T hl (by omega)
  have su0 : ∀ {h : AH} (_ : Ops h p (sr ar) ls) (q : Nat) (hq : q < as.length), wR (run Pr (N + 5) 24 [.loc p, .tup (ts.map D.str), .int q] h) (fun d h' => d = .tup ((slc ts q (en as q)).map D.str) ∧ Grow h h') noX := by
    intro h o q hq
    rw [eas]
    exact sub_ok D0 hSu A o T hl (by omega)
  have ab0 : ∀ {h : AH} (_ : Ops h p (sr ar) ls) (q : Nat) (hq : q < as.length), wR (run Pr (N + 5) 26 [.loc p, .tup (ts.map D.str), .int q] h) (fun d h' => d = .tup (nI (anc (en as) q)) ∧ Grow h h') noX := by
    intro h o q hq
    rw [eas]
    exact above_ok D0 hAb A o T hl (by omega)
  have ts0 : ∀ (q : Nat) (hq : q < as.length), Tree ar (slc ts q (en as q)) := by
    intro q hq
    rw [eas]
    exact T.sub A (by omega)
  have aq : ∀ (hq2 : q < ts.length) (hq : q < as.length), as[q] = ((gt ar ts[q]).getD 0).toNat := by
    intro h1 h2
    subst eas
    exact asN_get h1
  rw [← eas] at tr es hq
  have le := tr.le q hq
  have lt := tr.lt q hq
  have hqt : q < ts.length := by omega
  have aq := aq hqt hq
  have ia : as[q] ≤ as.length := by
    have key : ∀ j, j ≤ as[q] → q + 1 + j ≤ it (en as) j (q + 1) := by
      intro j
      induction j with
      | zero => intro _; exact Nat.le_refl _
      | succ j ih =>
        intro hj
        have := ih (by omega)
        have := tr.up q hq j (by omega)
        omega
    have := key as[q] (Nat.le_refl _)
    rw [tr.ch q hq] at this
    omega
  refine w_run (show Pr[17]? = some ⟨5, 12, b17⟩ from rfl) rfl ?_
  walk_at "def"
  unfold b17
  walk_at "pi"
  refine i_stops es hq ?_
  walk_at "pi"
  with_reducible refine abv_w es hq (by omega) (by with_unfolding_all exact rfl) (by with_unfolding_all exact rfl) (by simp) (by decide) (by decide) ?_
  walk_at "pi"
  refine i_wtup (by omega) (by rw [List.length_map]; omega) fun d hd => ?_
  rw [show ((q : Int)).toNat = q from by omega, List.getElem?_map, List.getElem?_eq_getElem hqt] at hd
  cases hd
  walk_at "pi"
  obtain ⟨j, ej, j0, j2⟩ := gt_at A (T.kn ts[q] (List.getElem_mem hqt))
  rw [ej] at aq
  have ej2 : j = ((as[q] : Nat) : Int) := by rw [aq]; show j = ((j.toNat : Nat) : Int); omega
  refine w_dfk (d := .int ((as[q] : Nat) : Int)) (by rw [dfind_kv, ej, ej2]; rfl) ?_
  walk_at "pi"
  refine goF_w (fun t ρ h' => ∃ o9, ρ = [some (.loc p), some (.dct (kvD ar)), some (.tup (ts.map D.str)), some (.loc s), some (.int q), some (.int (en as q)), some (.lst (nI (anc (en as) q))), some (.loc h.length), some (.int (it (en as) t (q + 1))), o9, none, none] ∧ h' = h ++ [.lst (nI ((List.range t).map fun i => it (en as) i (q + 1)))]) ⟨_, rfl, rfl⟩ (fun _ _ _ _ _ => rfl) ?_ ?_
  · rintro t ρ h' x ⟨o9, rfl, rfl⟩ hx ht
    rw [rangeD_len] at ht
    have ht : t < as[q] := by omega
    have a1 : (h ++ [AO.lst (nI ((List.range t).map fun i => it (en as) i (q + 1)))])[h.length]? = some (.lst (nI ((List.range t).map fun i => it (en as) i (q + 1)))) := by simp
    have cl := tr.child_lt hq ht
    have e2 : put h.length (nI ((List.range t).map fun i => it (en as) i (q + 1)) ++ [.int (it (en as) t (q + 1))]) (h ++ [AO.lst (nI ((List.range t).map fun i => it (en as) i (q + 1)))]) = h ++ [.lst (nI ((List.range (t + 1)).map fun i => it (en as) i (q + 1)))] := by
      unfold put
      rw [List.set_append, if_neg (Nat.lt_irrefl _), Nat.sub_self, List.range_succ, List.map_append]
      show _ = h ++ [AO.lst (nI ((List.range t).map (fun i => it (en as) i (q + 1)) ++ [it (en as) t (q + 1)]))]
      rw [nI_snoc]
      rfl
    walk_at "pi"
    refine m_wappN a1 (by rw [nI_len, List.length_map, List.length_range]; omega) ?_
    rw [e2]
    walk_at "pi"
    have es2 : (h ++ [AO.lst (nI ((List.range (t + 1)).map fun i => it (en as) i (q + 1)))])[s]? = some (.lst (endsD as)) := (Grow.push h _).at_ es
    refine i_stops es2 (by omega) ?_
    walk_at "pi"
    exact ⟨_, by rw [it_succ], rfl⟩
  rintro ρ h' ⟨o9, rfl, rfl⟩
  have lr : (rangeD 0 ((as[q] : Nat) : Int)).length = as[q] := by rw [rangeD_len]; omega
  rw [lr, tr.ch q hq]
  obtain ⟨cs, ecs⟩ : ∃ cs, cs = chl (en as) as[q] q := ⟨_, rfl⟩
  have ecs2 : (List.range as[q]).map (fun i => it (en as) i (q + 1)) = cs := by rw [ecs]; rfl
  have bcs : ∀ x ∈ cs, q < x ∧ x < as.length := by rw [ecs]; exact chl_le tr hq
  have b100 : ∀ x ∈ cs, x < 10 ^ 100 := fun x hx => small100 (by have := (bcs x hx).2; omega)
  have a100 : ∀ x ∈ anc (en as) q, x < 10 ^ 100 := fun x hx => small100 (by have := (anc_mem.mp hx).1; omega)
  rw [ecs2]
  obtain ⟨h1, eh1⟩ : ∃ h1, h1 = h ++ [AO.lst (nI cs)] := ⟨_, rfl⟩
  have g1 : Grow h h1 := ⟨_, eh1⟩
  obtain ⟨c, ec⟩ : ∃ c, c = h.length := ⟨_, rfl⟩
  have c1 : h1[c]? = some (.lst (nI cs)) := by rw [eh1, ec]; simp
  rw [← eh1, ← ec]
  have o1 := g1.ops o
  have a1 := o1.at_
  walk_at "pi"
  refine wR_eqG (en0 o1 q hq) fun h2 G2 => ?_
  walk_at "pi"
  refine wI_dt rfl ?_
  have a2 := (G2.ops o1).at_
  walk_at "pi"
  refine wR_eqG (su0 (G2.ops o1) q hq) fun h3 g3 => ?_
  have G3 := G2.trans g3
  walk_at "pi"
  rw [cut_nat (by omega) (by rw [List.length_map]; omega), slc_map]
  refine wP_some (ne_words A (ts0 q hq).kn) ?_
  walk_at "pi"
  refine wI_dt rfl ?_
  have a3 := (G3.ops o1).at_
  walk_at "pi"
  refine wR_eqG (ch0 (G3.ops o1) q hq) fun h4 g4 => ?_
  have G4 := G3.trans g4
  have c4 := G4.at_ c1
  have a4 := (G4.ops o1).at_
  walk_at "pi"
  rw [← ecs]
  refine wP_some (ne_nats b100) ?_
  walk_at "pi"
  refine wR_eqG (ab0 (G4.ops o1) q hq) fun h5 g5 => ?_
  have G5 := G4.trans g5
  walk_at "pi"
  refine wP_some (ne_nats a100) ?_
  walk_at "pi"
  have o5 := G5.ops o1
  have a5 := o5.at_
  have fin : ∀ h6, Grow h1 h6 → wO (evSs (run Pr (N + 5)) [.asg (.var 10) (.tup []), .each (.var 11) (.var 7) [.asg (.var 10) (.bin false .add (.var 10) (.own .meth 0 24 (.var 0) [.var 2, .var 11]))], .ret (.and (.cmp .eq (.slice false (.var 2) (some (.var 4)) (some (.var 5))) (.bin false .add (.tup [.idx (.var 2) (.var 4)]) (.var 10))) (.own .meth 0 21 (.var 0) [.slice false (.var 2) (some (.var 4)) (some (.var 5))]))]
      [some (.loc p), some (.dct (kvD ar)), some (.tup (ts.map D.str)), some (.loc s), some (.int q), some (.int (en as q)), some (.lst (nI (anc (en as) q))), some (.loc c), some (.int (en as q)), o9, none, none] h6) (fun _ _ => False) (fun d h' => d = .bl true ∧ Grow h h') (fun _ _ => False) (fun _ _ => False) (fun _ _ _ _ => False) := by
    intro h6 G6
    have o6 := G6.ops o1
    have a6 := o6.at_
    have c6 := G6.at_ c1
    walk_at "pi"
    have lcs : (nI cs).length = as[q] := by rw [nI_len, ecs]; unfold chl; rw [List.length_map, List.length_range]
    refine goF_w (fun t ρ h' => (∃ o11, ρ = [some (.loc p), some (.dct (kvD ar)), some (.tup (ts.map D.str)), some (.loc s), some (.int q), some (.int (en as q)), some (.lst (nI (anc (en as) q))), some (.loc c), some (.int (en as q)), o9, some (.tup ((slc ts (q + 1) (it (en as) t (q + 1))).map D.str)), o11]) ∧ Grow h1 h') ⟨⟨_, by
      have : slc ts (q + 1) (it (en as) 0 (q + 1)) = [] := by
        show slc ts (q + 1) (q + 1) = []
        unfold slc
        rw [Nat.sub_self, List.take_zero]
      rw [this]
      rfl⟩, G6⟩ (fun _ _ _ _ hh => still_loc (hh.2.at_ c1)) ?_ ?_
    · rintro t ρ h7 x ⟨⟨o11, rfl⟩, G7⟩ hx ht
      rw [lcs] at ht
      obtain ⟨kk, hk, rfl⟩ := nI_get hx
      have hk2 : kk = it (en as) t (q + 1) := by
        rw [ecs] at hk
        unfold chl at hk
        rw [List.getElem?_map, List.getElem?_range ht] at hk
        exact (Option.some.inj hk).symm
      subst hk2
      have cl := tr.child_lt hq ht
      have cg := tr.child_gt hq (j := t) (by omega)
      have cu := tr.up q hq t ht
      have c2 := tr.child_le hq (j := t + 1) (by omega)
      have a7 := (G7.ops o1).at_
      walk_at "pi"
      refine wR_eqG (su0 (G7.ops o1) (it (en as) t (q + 1)) (by omega)) fun h8 g8 => ?_
      walk_at "pi"
      rw [← it_succ (en as) t (q + 1)]
      refine w_addw _ _ (by rw [slc_len (by omega), slc_len (by omega)]; omega) ?_
      rw [← slc_app (by omega) (by omega)]
      walk_at "pi"
      exact ⟨⟨_, rfl⟩, G7.trans g8⟩
    · rintro ρ h7 ⟨⟨o11, rfl⟩, G7⟩
      rw [lcs, tr.ch q hq]
      have a7 := (G7.ops o1).at_
      walk_at "pi"
      rw [cut_nat (by omega) (by rw [List.length_map]; omega), slc_map]
      refine i_wtup (by omega) (by rw [List.length_map]; omega) fun d hd => ?_
      rw [show ((q : Int)).toNat = q from by omega, List.getElem?_map, List.getElem?_eq_getElem hqt] at hd
      cases hd
      walk_at "pi"
      refine w_addtN (by rw [List.length_map, slc_len (by omega)]; show 1 + _ ≤ _; omega) ?_
      have e9 : [D.str ts[q]] ++ (slc ts (q + 1) (en as q)).map D.str = (slc ts q (en as q)).map D.str := by
        rw [slc_cons hqt lt]
        rfl
      rw [e9]
      refine wP_some (eq_words A (ts0 q hq).kn) ?_
      walk_at "pi"
      rw [cut_nat (by omega) (by rw [List.length_map]; omega), slc_map]
      refine wR_eq (is_tree_m (N := N + 2) A (G7.ops o1) (ts0 q hq) (by rw [slc_len (by omega)]; omega)) ?_
      exact ⟨rfl, g1.trans G7⟩
  have fin2 : ∀ {NN : Rho → AH → Prop} {B C : Rho → AH → Prop} {X : Nat → D → Rho → AH → Prop} h6, Grow h1 h6 → wO (evSs (run Pr (N + 5)) [.asg (.var 10) (.tup []), .each (.var 11) (.var 7) [.asg (.var 10) (.bin false .add (.var 10) (.own .meth 0 24 (.var 0) [.var 2, .var 11]))], .ret (.and (.cmp .eq (.slice false (.var 2) (some (.var 4)) (some (.var 5))) (.bin false .add (.tup [.idx (.var 2) (.var 4)]) (.var 10))) (.own .meth 0 21 (.var 0) [.slice false (.var 2) (some (.var 4)) (some (.var 5))]))]
      [some (.loc p), some (.dct (kvD ar)), some (.tup (ts.map D.str)), some (.loc s), some (.int q), some (.int (en as q)), some (.lst (nI (anc (en as) q))), some (.loc c), some (.int (en as q)), o9, none, none] h6) NN (fun d h' => d = .bl true ∧ Grow h h') B C X := fun h6 G6 =>
    wO_mono (fin h6 G6) (fun _ _ z => z.elim) (fun _ _ z => z) (fun _ _ z => z.elim) (fun _ _ z => z.elim) fun _ _ _ _ z => z.elim
  refine wI_d (fun q0 => ?_) (fun q0 => ?_)
  · walk_at "pi"
    obtain ⟨r, hr, er, r1, r2, i, hi, ei⟩ := tr.anc_last hq (by omega)
    refine i_wlast (nI_last er) ?_
    walk_at "pi"
    refine wR_eqG (ch0 o5 r hr) fun h6 g6 => ?_
    have brs : ∀ x ∈ chl (en as) as[r] r, x < 10 ^ 100 := fun x hx => small100 (by have := (chl_le tr hr x hx).2; omega)
    have mem : q ∈ chl (en as) as[r] r := List.mem_map.mpr ⟨i, List.mem_range.mpr hi, ei⟩
    refine wP_some (a := false) (by
      show (inO h6 _ _).map not = some false
      rw [in_nats brs (small100 (by omega)) mem]
      rfl) ?_
    refine wB_b ?_
    refine wI_f ?_
    refine x_wnil ?_
    exact fin2 h6 (G5.trans g6)
  · refine wB_b ?_
    refine wI_f ?_
    refine x_wnil ?_
    exact fin2 h5 G5
end
end K04
set_option maxRecDepth 100000
set_option maxHeartbeats 1000000
namespace K04
open PI PITree
open PySem (PyData Str)
local macro_rules | `(tactic| walk_at "set") => `(tactic| with_reducible refine wS_n (by simp only [List.set_cons_succ, List.set_cons_zero]; exact rfl) ?_)
local macro_rules | `(tactic| walk_at "one") => `(tactic| first | with_reducible refine x_wcons ?_ | with_reducible refine x_wnil ?_ | with_reducible refine x_wasg ?_ | with_reducible refine t_varN ?_ | walk_at "set" | with_reducible refine w_var (by with_unfolding_all exact rfl) ?_ | with_reducible refine w_cst ?_ | with_reducible refine w_bin ?_ | with_reducible refine w_cmp ?_ | with_reducible refine w_call ?_ | with_reducible refine w_cons ?_ | with_reducible refine w_nil ?_ | with_reducible refine w_prim ?_ | with_reducible refine wB_b ?_ | with_reducible refine wI_t ?_ | with_reducible refine wI_f ?_ | with_reducible refine wI_n ?_ | with_reducible refine wN_i ?_ | with_reducible refine x_wcond ?_ | with_reducible refine x_wret ?_ | with_reducible refine x_wexpr ?_ | with_reducible refine x_wpar ?_ | with_reducible refine sa_consN ?_ | with_reducible refine sa_nil ?_ | with_reducible refine w_add ?_ | with_reducible refine w_sub ?_ | with_reducible refine c_wlt ?_ | with_reducible refine c_wle ?_ | with_reducible refine c_weq ?_ | with_reducible refine c_wne ?_ | with_reducible refine c_wgt ?_ | with_reducible refine c_wge ?_ | with_reducible refine c_weqs ?_ | with_reducible refine c_wnes ?_ | with_reducible refine w_idx ?_ | with_reducible refine w_not ?_ | with_reducible refine w_andE ?_ | with_reducible refine w_orE ?_ | with_reducible refine w_ite ?_ | with_reducible refine w_cmp2 ?_ | with_reducible refine w_tup ?_ | with_reducible refine w_lst ?_ | with_reducible refine w_lenN (by first | (simp only [List.length_cons, List.length_nil]; done) | (simp only [List.length_cons, List.length_nil]; omega) | omega) ?_ | with_reducible refine w_mk ?_ | with_reducible refine w_mkt ?_ | with_reducible refine w_slice ?_ | with_reducible refine wOpt_n ?_ | with_reducible refine wOpt_s ?_ | with_reducible refine s_wtup ?_ | with_reducible refine s_wlst ?_ | with_reducible refine w_meth ?_ | with_reducible refine w_app (by assumption) ?_ | with_reducible refine w_popT (by assumption) ?_ | with_reducible refine w_isi ?_ | with_reducible refine w_ty (by with_unfolding_all exact rfl) ?_ | with_reducible refine w_neg ?_ | with_reducible refine w_dix ?_ | with_reducible refine w_dget ?_ | with_reducible refine w_din ?_ | with_reducible refine w_dsome ?_ | with_reducible refine w_dk ?_ | with_reducible refine w_slot ?_ | with_reducible refine w_ownm ?_ | with_reducible refine w_ownp ?_ | with_reducible refine w_ownl ?_ | with_reducible refine w_owns ?_ | with_reducible refine w_owni ?_ | with_reducible refine w_ownn ?_ | with_reducible refine w_sl (by assumption) ?_ | with_reducible refine w_slg (by assumption) (by with_unfolding_all exact rfl) ?_ | with_reducible refine w_fstr ?_ | with_reducible refine p_wlenT ?_ | with_reducible refine p_wlenL ?_ | with_reducible refine p_wlenD ?_ | with_reducible refine p_wlenH (by assumption) ?_ | with_reducible refine p_wmax ?_ | with_reducible refine p_wmin ?_ | with_reducible refine p_wtupL ?_ | with_reducible refine p_wtupH (by assumption) ?_ | with_reducible refine p_wlistT ?_ | with_reducible refine p_wlistL ?_ | with_reducible refine x_wbrk ?_ | with_reducible refine x_wcont ?_ | with_reducible refine x_wpass ?_ | with_reducible refine x_wretN ?_ | with_reducible refine x_waugN (by with_unfolding_all exact rfl) ?_ | with_reducible refine x_wraise ?_ | with_reducible refine x_wtry ?_ | with_reducible refine x_weach ?_ | with_reducible refine x_wrng1 ?_ | with_reducible refine x_wrng2 ?_ | with_reducible refine x_wrng3 ?_ | with_reducible refine w_srcT ?_ | with_reducible refine w_srcL ?_ | with_reducible refine w_srcH (by assumption) ?_ | with_reducible refine wO_seq ?_ | with_reducible refine t_tup rfl ?_ | with_reducible refine t_cons ?_ | with_reducible refine t_nil ?_ | with_reducible refine t_idx ?_ | with_reducible refine t_dix ?_ | with_reducible refine t_slot ?_ | with_reducible refine w_newo ?_ | with_reducible refine w_mkD ?_ | with_reducible refine w_mkDt ?_ | with_reducible refine w_dct0 ?_ | with_reducible refine w_keyS ?_ | with_reducible refine w_keyI ?_ | with_reducible refine w_sm (by omega) ?_)
local macro_rules | `(tactic| walk_at "pi") => `(tactic| repeat walk_at "one")
local macro_rules | `(tactic| walk_at "def") => `(tactic| (simp only [List.map_cons, List.map_nil, List.cons_append, List.nil_append, List.length_cons, List.length_nil, Nat.reduceAdd, Nat.reduceSub, List.replicate]))
local macro_rules | `(tactic| walk_at "len") => `(tactic| first | omega | (simp only [List.length_map, List.length_append, List.length_cons, List.length_nil]; omega))
section
variable {N : Nat} {h : AH} {ar : Ar} {ts : List Str} {p : Nat} {ls : List D}
theorem law_levels (A : Ari ar) (T : Tree ar ts) (hl : ts.length ≤ 5000) : wR (run Pr (N + 2) 18 [.dct (kvD ar), .tup (ts.map D.str)] h) (fun d h' => d = .int (levN (en (asN (gt ar) ts)) ts.length) ∧ Grow h h') noX := by
  have so := stops_ok (N := N) (h := h) A T hl
  have tr := T.tr A
  obtain ⟨as, eas⟩ : ∃ as, as = asN (gt ar) ts := ⟨_, rfl⟩
  have las : as.length = ts.length := by rw [eas, asN_len]
  rw [← eas] at tr so ⊢
  refine w_run (show Pr[18]? = some ⟨2, 6, b18⟩ from rfl) rfl ?_
  walk_at "def"
  unfold b18
  walk_at "pi"
  refine wR_eqG so fun h1 g1 => ?_
  obtain ⟨s1, g1⟩ := g1
  walk_at "pi"
  rw [List.length_map]
  refine w_sm (by omega) ?_
  refine goF_w (fun t ρ h' => ∃ o4, ρ = [some (.dct (kvD ar)), some (.tup (ts.map D.str)), some (.int ((levN (en as) t : Nat) : Int)), some (.loc h.length), o4, none] ∧ h' = h1) ⟨_, rfl, rfl⟩ (fun _ _ _ _ _ => rfl) ?_ ?_
  · rintro t ρ h' x ⟨o4, rfl, rfl⟩ hx ht
    obtain ⟨rfl, hlt⟩ := rangeD_get hx
    rw [rangeD_len] at ht
    have ht : t < as.length := by omega
    have em : (0 : Int) + (t : Int) = (t : Int) := by omega
    rw [em]
    walk_at "pi"
    with_reducible refine abv_w s1 ht (by omega) (by with_unfolding_all exact rfl) (by with_unfolding_all exact rfl) (by simp) (by decide) (by decide) ?_
    walk_at "pi"
    refine ⟨some (.int (t : Int)), ?_, rfl⟩
    rw [nI_len]
    have el : levN (en as) (t + 1) = max (levN (en as) t) (1 + (anc (en as) t).length) := rfl
    have em2 : (if (1 + ((anc (en as) t).length : Int)) > ((levN (en as) t : Nat) : Int) then 1 + ((anc (en as) t).length : Int) else ((levN (en as) t : Nat) : Int)) = ((levN (en as) (t + 1) : Nat) : Int) := by
      rw [el]
      split <;> omega
    rw [em2]
  · rintro ρ h' ⟨o4, rfl, rfl⟩
    have : (rangeD 0 (ts.length : Int)).length = ts.length := by rw [rangeD_len]; omega
    rw [this]
    walk_at "pi"
    exact ⟨rfl, g1⟩
/-! ### the long tree -/
theorem opn_s (l : Int) (hl : l ≠ 0) (r : List Str) : ∀ k : Nat, opn (gt ar3) (rp k [("s" : Str)] ++ r) l = opn (gt ar3) r l
  | 0 => rfl
  | k + 1 => by
    have e : rp (k + 1) [("s" : Str)] ++ r = ("s" : Str) :: (rp k [("s" : Str)] ++ r) := by unfold rp; rw [List.replicate_succ]; rfl
    rw [e]
    show (if l = 0 then none else opn (gt ar3) (rp k [("s" : Str)] ++ r) (l + ((gt ar3 "s").getD 0 - 1))) = _
    have g : (gt ar3 "s").getD 0 = 1 := by decide +kernel
    rw [if_neg hl, g, opn_s _ (by omega) r k]
    congr 1
    omega
theorem opn_pc (l : Int) (hl : 0 < l) (r : List Str) : ∀ k : Nat, opn (gt ar3) (rp k [("p" : Str), "c"] ++ r) l = opn (gt ar3) r l
  | 0 => rfl
  | k + 1 => by
    have e : rp (k + 1) [("p" : Str), "c"] ++ r = ("p" : Str) :: ("c" : Str) :: (rp k [("p" : Str), "c"] ++ r) := by unfold rp; rw [List.replicate_succ]; rfl
    rw [e]
    have g : (gt ar3 "p").getD 0 = 2 := by decide +kernel
    have g2 : (gt ar3 "c").getD 0 = 0 := by decide +kernel
    show (if l = 0 then none else if l + ((gt ar3 "p").getD 0 - 1) = 0 then none else opn (gt ar3) (rp k [("p" : Str), "c"] ++ r) (l + ((gt ar3 "p").getD 0 - 1) + ((gt ar3 "c").getD 0 - 1))) = _
    rw [g, g2, if_neg (by omega), if_neg (by omega), opn_pc _ (by omega) r k]
    congr 1
    omega
def long : List Str := rp 2000 ["s"] ++ rp 1000 ["p", "c"] ++ [("c" : Str)]
theorem long_len : long.length = 4001 := by
  unfold long
  rw [List.length_append, List.length_append, rp_len, rp_len]
  rfl
theorem known3 : ∀ u ∈ (["c", "s", "p"] : List Str), u ∈ srt ar3 := by decide +kernel
theorem long_tree : Tree ar3 long := by
  refine ⟨fun u hu => ?_, ?_, ?_⟩
  · refine known3 u ?_
    unfold long at hu
    rcases List.mem_append.mp hu with hu | hu
    · rcases List.mem_append.mp hu with hu | hu
      · have := rp_mem hu; simp at this; subst this; simp
      · have := rp_mem hu; simp at this; rcases this with rfl | rfl <;> simp
    · simp at hu; subst hu; simp
  · unfold long
    rw [List.append_assoc, opn_s 1 (by decide), opn_pc 1 (by decide)]
    decide +kernel
  · intro z
    have := congrArg List.length z
    rw [long_len] at this
    cases this
def aL (p : Nat) : Nat := if p < 2000 then 1 else if p = 4000 then 0 else if p % 2 = 0 then 2 else 0
def fL (p : Nat) : Nat := if p < 2000 then 4001 else if p = 4000 then 4001 else if p % 2 = 0 then 4001 else p + 1
theorem rep2 : ∀ (k j : Nat), j < 2 * k → (List.replicate k [2, 0]).flatten[j]? = some (if j % 2 = 0 then 2 else 0)
  | 0, j, h => by omega
  | k + 1, j, h => by
    rw [List.replicate_succ, List.flatten_cons]
    match j with
    | 0 => rfl
    | 1 => rfl
    | j + 2 =>
      show (List.replicate k [2, 0]).flatten[j]? = _
      rw [rep2 k j (by omega)]
      congr 2
      rw [Nat.add_mod_right]
theorem long_as : ∀ p, p < 4001 → (asN (gt ar3) long)[p]? = some (aL p) := by
  have e : asN (gt ar3) long = List.replicate 2000 1 ++ (List.replicate 1000 [2, 0]).flatten ++ [0] := by
    unfold asN long rp
    rw [List.map_append, List.map_append, List.map_flatten, List.map_flatten, List.map_replicate, List.map_replicate]
    have e1 : List.map (fun w => ((gt ar3 w).getD 0).toNat) [("s" : Str)] = [1] := by decide +kernel
    have e2 : List.map (fun w => ((gt ar3 w).getD 0).toNat) [("p" : Str), "c"] = [2, 0] := by decide +kernel
    have e3 : List.map (fun w => ((gt ar3 w).getD 0).toNat) [("c" : Str)] = [0] := by decide +kernel
    rw [e1, e2, e3]
    congr 2
  intro p hp
  rw [e]
  have l1 : (List.replicate 2000 1).length = 2000 := List.length_replicate
  have l2 : (List.replicate 1000 [2, 0]).flatten.length = 2000 := by rw [PyProof.Rows.lm_len_rep_flat]; rfl
  have l3 : (List.replicate 2000 1 ++ (List.replicate 1000 [2, 0]).flatten).length = 4000 := by rw [List.length_append, l1, l2]
  unfold aL
  by_cases c1 : p < 2000
  · rw [List.getElem?_append_left (by omega), List.getElem?_append_left (by omega), List.getElem?_replicate, if_pos c1, if_pos c1]
  · rw [if_neg c1]
    by_cases c2 : p = 4000
    · subst c2
      rw [List.getElem?_append_right (by omega), l3]
      rfl
    · rw [if_neg c2, List.getElem?_append_left (by omega), List.getElem?_append_right (by omega), l1, rep2 1000 (p - 2000) (by omega)]
      congr 1
      have : (p - 2000) % 2 = p % 2 := by omega
      rw [this]
theorem long_len2 : (asN (gt ar3) long).length = 4001 := by rw [asN_len, long_len]
theorem long_tr : Tr (asN (gt ar3) long) fL := by
  have at_ : ∀ p (h : p < (asN (gt ar3) long).length), (asN (gt ar3) long)[p] = aL p := by
    intro p h
    have := long_as p (by rw [long_len2] at h; exact h)
    rw [List.getElem?_eq_getElem h] at this
    exact Option.some.inj this
  refine ⟨by rw [long_len2]; decide, fun p h => ?_, fun p h => ?_, fun p h => ?_, fun p h i hi => ?_, ?_⟩
  · rw [long_len2] at h
    unfold fL
    split
    · omega
    · split
      · omega
      · split <;> omega
  · rw [long_len2] at h ⊢
    unfold fL
    split
    · omega
    · split
      · omega
      · split <;> omega
  · rw [at_ p h]
    rw [long_len2] at h
    unfold aL
    split
    · rename_i c
      show fL (p + 1) = fL p
      unfold fL
      rw [if_pos c]
      split
      · rfl
      · rw [if_neg (by omega), if_pos (by omega)]
    · rename_i c
      split
      · rename_i c2
        subst c2
        rfl
      · rename_i c2
        split
        · rename_i c3
          show fL (fL (p + 1)) = fL p
          have e1 : fL (p + 1) = p + 2 := by
            unfold fL
            rw [if_neg (by omega), if_neg (by omega), if_neg (by omega)]
          have e2 : fL p = 4001 := by
            unfold fL
            rw [if_neg c, if_neg c2, if_pos c3]
          rw [e1, e2]
          unfold fL
          rw [if_neg (by omega)]
          split
          · rfl
          · rw [if_pos (by omega)]
        · rename_i c3
          show p + 1 = fL p
          unfold fL
          rw [if_neg c, if_neg c2, if_neg c3]
  · rw [at_ p h] at hi
    rw [long_len2] at h
    unfold aL at hi
    have lt : ∀ x, x < 4001 → x < fL x := by
      intro x hx
      unfold fL
      split
      · omega
      · split
        · omega
        · split <;> omega
    split at hi
    · have : i = 0 := by omega
      subst this
      exact lt (p + 1) (by omega)
    · split at hi
      · omega
      · rename_i c c2
        split at hi
        · rename_i c3
          have e1 : fL (p + 1) = p + 2 := by
            unfold fL
            rw [if_neg (by omega), if_neg (by omega), if_neg (by omega)]
          have : i = 0 ∨ i = 1 := by omega
          rcases this with rfl | rfl
          · exact lt (p + 1) (by omega)
          · show fL (p + 1) < fL (fL (p + 1))
            rw [e1]
            exact lt _ (by omega)
        · omega
  · rw [long_len2]
    rfl
theorem long_en {p : Nat} (h : p < 4001) : en (asN (gt ar3) long) p = fL p := (long_tree.tr A3).eq long_tr (by rw [long_len2]; exact h)
/-- places that stay open -/
def goodP (q : Nat) : Bool := decide (q < 2000) || decide (q % 2 = 0)
def cN (p : Nat) : Nat := ((List.range p).filter goodP).length
theorem cN_succ (p : Nat) : cN (p + 1) = cN p + (if goodP p then 1 else 0) := by
  unfold cN
  rw [List.range_succ, List.filter_append, List.length_append]
  congr 1
  rw [List.filter_cons]
  split <;> rfl
theorem cN_is : ∀ p, cN p = if p ≤ 2000 then p else 2000 + (p - 2000 + 1) / 2
  | 0 => rfl
  | p + 1 => by
    rw [cN_succ, cN_is p]
    unfold goodP
    by_cases c : p < 2000
    · rw [if_pos (by omega), decide_eq_true c, Bool.true_or, if_pos rfl, if_pos (by omega)]
    · rw [decide_eq_false c, Bool.false_or]
      by_cases c2 : p % 2 = 0
      · rw [decide_eq_true c2, if_pos rfl]
        split <;> split <;> omega
      · rw [decide_eq_false c2]
        show (if p ≤ 2000 then p else 2000 + (p - 2000 + 1) / 2) + 0 = _
        split <;> split <;> omega
theorem long_anc {p : Nat} (h : p ≤ 4000) : (anc fL p).length = cN p := by
  unfold anc cN
  congr 1
  refine List.filter_congr fun q hq => ?_
  have hq := List.mem_range.mp hq
  unfold goodP fL
  by_cases c : q < 2000
  · rw [if_pos c, decide_eq_true c, Bool.true_or, decide_eq_true (by omega)]
  · rw [if_neg c, if_neg (by omega), decide_eq_false c, Bool.false_or]
    by_cases c2 : q % 2 = 0
    · rw [if_pos c2, decide_eq_true c2, decide_eq_true (by omega)]
    · rw [if_neg c2, decide_eq_false c2, decide_eq_false (by omega)]
theorem long_lev : levN (en (asN (gt ar3) long)) 4001 = 3001 := by
  rw [levN_congr (g := fL) fun q hq => long_en hq]
  refine Nat.le_antisymm ?_ ?_
  · obtain ⟨p, hp, e⟩ := levN_at (f := fL) (n := 4001) (by decide)
    rw [e, long_anc (by omega), cN_is]
    split <;> omega
  · have := levN_ge (f := fL) (n := 4001) (p := 4000) (by decide)
    rw [long_anc (by decide), cN_is] at this
    exact this
end
end K04
set_option maxRecDepth 100000
set_option maxHeartbeats 1000000
namespace K04
open PI PITree
open PySem (PyData Str)
local macro_rules | `(tactic| walk_at "set") => `(tactic| with_reducible refine wS_n (by simp only [List.set_cons_succ, List.set_cons_zero]; exact rfl) ?_)
local macro_rules | `(tactic| walk_at "one") => `(tactic| first | with_reducible refine x_wcons ?_ | with_reducible refine x_wnil ?_ | with_reducible refine x_wasg ?_ | with_reducible refine t_varN ?_ | walk_at "set" | with_reducible refine w_var (by with_unfolding_all exact rfl) ?_ | with_reducible refine w_cst ?_ | with_reducible refine w_bin ?_ | with_reducible refine w_cmp ?_ | with_reducible refine w_call ?_ | with_reducible refine w_cons ?_ | with_reducible refine w_nil ?_ | with_reducible refine w_prim ?_ | with_reducible refine wB_b ?_ | with_reducible refine wI_t ?_ | with_reducible refine wI_f ?_ | with_reducible refine wI_n ?_ | with_reducible refine wN_i ?_ | with_reducible refine x_wcond ?_ | with_reducible refine x_wret ?_ | with_reducible refine x_wexpr ?_ | with_reducible refine x_wpar ?_ | with_reducible refine sa_consN ?_ | with_reducible refine sa_nil ?_ | with_reducible refine w_add ?_ | with_reducible refine w_sub ?_ | with_reducible refine c_wlt ?_ | with_reducible refine c_wle ?_ | with_reducible refine c_weq ?_ | with_reducible refine c_wne ?_ | with_reducible refine c_wgt ?_ | with_reducible refine c_wge ?_ | with_reducible refine c_weqs ?_ | with_reducible refine c_wnes ?_ | with_reducible refine w_idx ?_ | with_reducible refine w_not ?_ | with_reducible refine w_andE ?_ | with_reducible refine w_orE ?_ | with_reducible refine w_ite ?_ | with_reducible refine w_cmp2 ?_ | with_reducible refine w_tup ?_ | with_reducible refine w_lst ?_ | with_reducible refine w_lenN (by first | (simp only [List.length_cons, List.length_nil]; done) | (simp only [List.length_cons, List.length_nil]; omega) | omega) ?_ | with_reducible refine w_mk ?_ | with_reducible refine w_mkt ?_ | with_reducible refine w_slice ?_ | with_reducible refine wOpt_n ?_ | with_reducible refine wOpt_s ?_ | with_reducible refine s_wtup ?_ | with_reducible refine s_wlst ?_ | with_reducible refine w_meth ?_ | with_reducible refine w_app (by assumption) ?_ | with_reducible refine w_popT (by assumption) ?_ | with_reducible refine w_isi ?_ | with_reducible refine w_ty (by with_unfolding_all exact rfl) ?_ | with_reducible refine w_neg ?_ | with_reducible refine w_dix ?_ | with_reducible refine w_dget ?_ | with_reducible refine w_din ?_ | with_reducible refine w_dsome ?_ | with_reducible refine w_dk ?_ | with_reducible refine w_slot ?_ | with_reducible refine w_ownm ?_ | with_reducible refine w_ownp ?_ | with_reducible refine w_ownl ?_ | with_reducible refine w_owns ?_ | with_reducible refine w_owni ?_ | with_reducible refine w_ownn ?_ | with_reducible refine w_sl (by assumption) ?_ | with_reducible refine w_slg (by assumption) (by with_unfolding_all exact rfl) ?_ | with_reducible refine w_fstr ?_ | with_reducible refine p_wlenT ?_ | with_reducible refine p_wlenL ?_ | with_reducible refine p_wlenD ?_ | with_reducible refine p_wlenH (by assumption) ?_ | with_reducible refine p_wmax ?_ | with_reducible refine p_wmin ?_ | with_reducible refine p_wtupL ?_ | with_reducible refine p_wtupH (by assumption) ?_ | with_reducible refine p_wlistT ?_ | with_reducible refine p_wlistL ?_ | with_reducible refine x_wbrk ?_ | with_reducible refine x_wcont ?_ | with_reducible refine x_wpass ?_ | with_reducible refine x_wretN ?_ | with_reducible refine x_waugN (by with_unfolding_all exact rfl) ?_ | with_reducible refine x_wraise ?_ | with_reducible refine x_wtry ?_ | with_reducible refine x_weach ?_ | with_reducible refine x_wrng1 ?_ | with_reducible refine x_wrng2 ?_ | with_reducible refine x_wrng3 ?_ | with_reducible refine w_srcT ?_ | with_reducible refine w_srcL ?_ | with_reducible refine w_srcH (by assumption) ?_ | with_reducible refine wO_seq ?_ | with_reducible refine t_tup rfl ?_ | with_reducible refine t_cons ?_ | with_reducible refine t_nil ?_ | with_reducible refine t_idx ?_ | with_reducible refine t_dix ?_ | with_reducible refine t_slot ?_ | with_reducible refine w_newo ?_ | with_reducible refine w_mkD ?_ | with_reducible refine w_mkDt ?_ | with_reducible refine w_dct0 ?_ | with_reducible refine w_keyS ?_ | with_reducible refine w_keyI ?_ | with_reducible refine w_sm (by omega) ?_)
local macro_rules | `(tactic| walk_at "pi") => `(tactic| repeat walk_at "one")
local macro_rules | `(tactic| walk_at "def") => `(tactic| (simp only [List.map_cons, List.map_nil, List.cons_append, List.nil_append, List.length_cons, List.length_nil, Nat.reduceAdd, Nat.reduceSub, List.replicate]))
local macro_rules | `(tactic| walk_at "len") => `(tactic| first | omega | (simp only [List.length_map, List.length_append, List.length_cons, List.length_nil]; omega))
section
variable {N : Nat} {ns : List Int}
theorem init0 {h : AH} {ar : Ar} (A : Ari ar) : run Pr (N + 4) 20 [.loc h.length, .dct (kvD ar)] (h ++ [.ins 0 []]) = .ok .non (h ++ [.ins 0 [some (.dct (kvD (sr ar))), some (.tup (linesD (sr ar)))]]) := init_ok D0.hInt D0.hIx hNm hAre hIn A
def levD (f : Nat → Nat) : D → D
  | .int i => .int ((levS f i.toNat : Nat) : Int)
  | _ => .non
theorem nat_cs (l : List Nat) (f : Nat → Nat) : (nI l).map (levD f) = l.map fun k => D.int ((levS f k : Nat) : Int) := by
  unfold nI
  rw [List.map_map]
  rfl
theorem maxI_mx : ∀ (l : List Nat) (a : Nat), maxI (a : Int) (l.map fun k : Nat => (k : Int)) = ((max a (mx l) : Nat) : Int)
  | [], a => by
    show (a : Int) = ((max a 0 : Nat) : Int)
    omega
  | b :: l, a => by
    show maxI (if (b : Int) > (a : Int) then (b : Int) else (a : Int)) (l.map fun k : Nat => (k : Int)) = _
    have e : (if (b : Int) > (a : Int) then (b : Int) else (a : Int)) = ((max a b : Nat) : Int) := by split <;> omega
    rw [e, maxI_mx l]
    have : mx (b :: l) = max b (mx l) := rfl
    rw [this]
    congr 1
    omega
theorem intL_nat : ∀ l : List Nat, intL (l.map fun k : Nat => D.int (k : Int)) = some (l.map fun k : Nat => (k : Int))
  | [] => rfl
  | a :: l => by
    show (intL (l.map fun k : Nat => D.int (k : Int))).map (fun t => (a : Int) :: t) = _
    rw [intL_nat l]
    rfl
/-- levels of a subtree -/
theorem lev_sub {h : AH} {ar : Ar} {ts : List Str} {p : Nat} {ls : List D} (A : Ari ar) (T : Tree ar ts) (hl : ts.length ≤ 5000) (o : Ops h p (sr ar) ls) {q : Nat} (hq : q < (asN (gt ar) ts).length) : wR (run Pr (N + 4) 27 [.loc p, .tup ((slc ts q (en (asN (gt ar) ts) q)).map D.str)] h) (fun d h' => d = .int (levS (en (asN (gt ar) ts)) q) ∧ Grow h h') noX := by
  have tr := T.tr A
  have le := tr.le q hq
  rw [asN_len] at le
  have l := slc_len (l := ts) (x := q) le
  have w := lev_ok (N := N) (h := h) D0 hLe A o (T.sub A (by rw [asN_len] at hq; exact hq)) (by rw [l]; omega)
  have e : levN (en (asN (gt ar) (slc ts q (en (asN (gt ar) ts) q)))) (slc ts q (en (asN (gt ar) ts) q)).length = levS (en (asN (gt ar) ts)) q := by
    rw [l]
    unfold levS
    refine levN_congr fun i hi => ?_
    rw [asN_slc, tr.en_sub hq hi]
    rfl
  rw [e] at w
  exact w
/-- [ops.levels(ops.subtree(tree, child)) for child in ops.children(tree, place)] -/
theorem due_ok {h : AH} {ar : Ar} {ts : List Str} {p : Nat} {ls : List D} (A : Ari ar) (T : Tree ar ts) (hl : ts.length ≤ 5000) (o : Ops h p (sr ar) ls) {q : Nat} (hq : q < (asN (gt ar) ts).length) {o0 o1 o2 o3 o5 o7 o9 o10 o11 o12 : Option D} {Q : D → AH → Prop} {X : Nat → D → AH → Prop}
    (k : ∀ h', Grow h h' → Q (.lst (((chl (en (asN (gt ar) ts)) (asN (gt ar) ts)[q] q).map (levS (en (asN (gt ar) ts)))).map fun k : Nat => D.int (k : Int))) h') :
    wR (evE (run Pr (N + 9)) (.comp false 12 (.own .meth 0 25 (.var 4) [.var 6, .var 8]) none (.own .meth 0 27 (.var 4) [.own .meth 0 24 (.var 4) [.var 6, .var 12]])) [o0, o1, o2, o3, some (.loc p), o5, some (.tup (ts.map D.str)), o7, some (.int q), o9, o10, o11, o12] h) Q X := by
  have tr := T.tr A
  have bc := chl_le tr hq
  have a0 := o.at_
  have su := fun (h : AH) (o : Ops h p (sr ar) ls) (q : Nat) (hq : q < ts.length) => sub_ok (N := N + 4) D0 hSu A o T hl hq
  have ls0 := fun (h : AH) (o : Ops h p (sr ar) ls) (q : Nat) (hq : q < (asN (gt ar) ts).length) => lev_sub (N := N + 5) A T hl o hq
  have ch := chl_ok (N := N + 4) D0 hCh A o T hl hq
  obtain ⟨as, eas⟩ : ∃ as, as = asN (gt ar) ts := ⟨_, rfl⟩
  have las : as.length = ts.length := by rw [eas, asN_len]
  obtain ⟨cs, ecs⟩ : ∃ cs, cs = chl (en (asN (gt ar) ts)) (asN (gt ar) ts)[q] q := ⟨_, rfl⟩
  rw [← ecs] at ch bc k
  rw [← eas] at tr bc k
  simp only [← eas] at su ls0
  have lcs : cs.length ≤ 5000 := by
    have : cs.length = (asN (gt ar) ts)[q] := by rw [ecs]; unfold chl; rw [List.length_map, List.length_range]
    rw [this]
    rw [asN_len] at hq
    have e := asN_get (g := gt ar) hq
    obtain ⟨j, ej, j0, j2⟩ := gt_at A (T.kn ts[q] (List.getElem_mem hq))
    rw [e, ej]
    show j.toNat ≤ 5000
    omega
  with_reducible refine w_compG (levD (en as)) (fun h' => Grow h h') ?_
  walk_at "pi"
  refine wR_eqG ch fun h1 g1 => ?_
  walk_at "pi"
  refine ⟨by rw [nI_len]; show _ ≤ 16777216; omega, g1, fun _ _ => rfl, fun x hx h2 g2 => ?_, fun h2 g2 => ?_⟩
  · obtain ⟨c, hc, rfl⟩ := List.mem_map.mp hx
    have a2 := (g2.ops o).at_
    have b := bc c hc
    walk_at "pi"
    refine wR_eqG (su h2 (g2.ops o) c (by omega)) fun h3 g3 => ?_
    walk_at "pi"
    refine wR_eqG (ls0 h3 ((g2.trans g3).ops o) c b.2) fun h4 g4 => ?_
    exact ⟨rfl, (g2.trans g3).trans g4⟩
  · refine w_mk ?_
    rw [nat_cs cs (en as)]
    rw [List.map_map] at k
    exact k h2 g2
theorem turn_ok {h : AH} {ar : Ar} {p a s : Nat} {ls : List D} (A : Ari ar) (o : Ops h p (sr ar) ls) {ts : List Str} (T : Tree ar ts) (hl : ts.length ≤ 100) (es : h[s]? = some (.lst (endsD (asN (gt ar) ts)))) {o0 o1 o2 o5 o8 o9 o10 o11 o12 : Option D} {NN : Rho → AH → Prop} {R : D → AH → Prop} {B C : Rho → AH → Prop} {X : Nat → D → Rho → AH → Prop}
    (k : ∀ o8 o9 h', Grow h h' → NN [o0, o1, o2, some (.dct (kvD ar)), some (.loc p), o5, some (.tup (ts.map D.str)), some (.loc s), o8, o9, o10, o11, o12] h') :
    wO (evSs (run Pr (N + 9)) [.cond (.cmp .ne (.own .meth 0 27 (.var 4) [.var 6]) (.call 18 [.var 3, .var 6]))
  [.ret (.cst (.bl false))]
  [],
  .rng (.var 8) [.prim false .len [.var 6]]
  [.cond (.not (.call 17 [.var 4, .var 3, .var 6, .var 7, .var 8]))
  [.ret (.cst (.bl false))]
  []],
  .rng (.var 8) [.prim false .len [.var 6]]
  [.asg (.var 9) (.bin false .add (.cst (.int 1)) (.prim false .max1 [.bin false .add (.lst false [.cst (.int 0)]) (.comp false 12 (.own .meth 0 25 (.var 4) [.var 6, .var 8]) none (.own .meth 0 27 (.var 4) [.own .meth 0 24 (.var 4) [.var 6, .var 12]]))])),
  .cond (.cmp .ne (.own .meth 0 27 (.var 4) [.own .meth 0 24 (.var 4) [.var 6, .var 8]]) (.var 9))
  [.ret (.cst (.bl false))]
  []]] [o0, o1, o2, some (.dct (kvD ar)), some (.loc p), o5, some (.tup (ts.map D.str)), some (.loc s), o8, o9, o10, o11, o12] h) NN R B C X := by
  have a0 := o.at_
  have lt : (rangeD 0 (ts.length : Int)).length = ts.length := by rw [rangeD_len]; omega
  walk_at "pi"
  refine wR_eqG (lev_ok (N := N + 5) D0 hLe A o T (by omega)) fun h1 g1 => ?_
  walk_at "pi"
  refine wR_eqG (law_levels (N := N + 7) A T (by omega)) fun h2 g2 => ?_
  have g2 := g1.trans g2
  walk_at "pi"
  refine wI_dt rfl ?_
  walk_at "pi"
  rw [List.length_map]
  refine w_sm (by omega) ?_
  refine goF_w (fun i ρ h' => (∃ o8, ρ = [o0, o1, o2, some (.dct (kvD ar)), some (.loc p), o5, some (.tup (ts.map D.str)), some (.loc s), o8, o9, o10, o11, o12]) ∧ Grow h h') ⟨⟨_, rfl⟩, g2⟩ (fun _ _ _ _ _ => rfl) ?_ ?_
  · rintro i ρ h3 x ⟨⟨o8, rfl⟩, g3⟩ hx hi
    obtain ⟨rfl, hlt⟩ := rangeD_get hx
    rw [lt] at hi
    have em : (0 : Int) + (i : Int) = (i : Int) := by omega
    rw [em]
    walk_at "pi"
    refine wR_eqG (place_right (N := N + 3) A T (by omega) (g3.ops o) (g3.at_ es) (q := i) (by rw [asN_len]; exact hi)) fun h4 g4 => ?_
    walk_at "pi"
    exact ⟨⟨_, rfl⟩, g3.trans g4⟩
  · rintro ρ h3 ⟨⟨o8, rfl⟩, g3⟩
    walk_at "pi"
    rw [List.length_map]
    refine w_sm (by omega) ?_
    refine goF_w (fun i ρ h' => (∃ o8 o9, ρ = [o0, o1, o2, some (.dct (kvD ar)), some (.loc p), o5, some (.tup (ts.map D.str)), some (.loc s), o8, o9, o10, o11, o12]) ∧ Grow h h') ⟨⟨_, _, rfl⟩, g3⟩ (fun _ _ _ _ _ => rfl) ?_ ?_
    · rintro i ρ h4 x ⟨⟨o8, o9, rfl⟩, g4⟩ hx hi
      obtain ⟨rfl, hlt⟩ := rangeD_get hx
      rw [lt] at hi
      have em : (0 : Int) + (i : Int) = (i : Int) := by omega
      have hi' : i < (asN (gt ar) ts).length := by rw [asN_len]; exact hi
      rw [em]
      have rc := (T.tr A).lev_rec hi'
      walk_at "pi"
      with_reducible refine due_ok A T (by omega) (g4.ops o) hi' ?_
      intro h5 g5
      have g5 := g4.trans g5
      have a5 := (g5.ops o).at_
      have lc : (chl (en (asN (gt ar) ts)) (asN (gt ar) ts)[i] i).length ≤ 5000 := by
        unfold chl
        rw [List.length_map, List.length_range]
        have e := asN_get (g := gt ar) hi
        obtain ⟨j, ej, j0, j2⟩ := gt_at A (T.kn ts[i] (List.getElem_mem hi))
        rw [e, ej]
        show j.toNat ≤ 5000
        omega
      walk_at "pi"
      refine w_addlN (by rw [List.length_map, List.length_map]; show 1 + _ ≤ _; omega) ?_
      walk_at "pi"
      have em1 : prim false .max1 [.lst ([D.int 0] ++ ((chl (en (asN (gt ar) ts)) (asN (gt ar) ts)[i] i).map (levS (en (asN (gt ar) ts)))).map fun k : Nat => D.int (k : Int))] h5 = .ok (.int ((mx ((chl (en (asN (gt ar) ts)) (asN (gt ar) ts)[i] i).map (levS (en (asN (gt ar) ts)))) : Nat) : Int)) h5 := by
        have e1 : intL ([D.int 0] ++ ((chl (en (asN (gt ar) ts)) (asN (gt ar) ts)[i] i).map (levS (en (asN (gt ar) ts)))).map fun k : Nat => D.int (k : Int)) = some ((0 : Int) :: ((chl (en (asN (gt ar) ts)) (asN (gt ar) ts)[i] i).map (levS (en (asN (gt ar) ts)))).map fun k : Nat => (k : Int)) := by
          show (intL (((chl (en (asN (gt ar) ts)) (asN (gt ar) ts)[i] i).map (levS (en (asN (gt ar) ts)))).map fun k : Nat => D.int (k : Int))).map (fun t => (0 : Int) :: t) = _
          rw [intL_nat]
          rfl
        show (match (some ([D.int 0] ++ ((chl (en (asN (gt ar) ts)) (asN (gt ar) ts)[i] i).map (levS (en (asN (gt ar) ts)))).map fun k : Nat => D.int (k : Int))).bind intL with
          | some (b :: bs) => Res.ok (D.int (maxI b bs)) h5
          | _ => .fail) = _
        show (match intL ([D.int 0] ++ ((chl (en (asN (gt ar) ts)) (asN (gt ar) ts)[i] i).map (levS (en (asN (gt ar) ts)))).map fun k : Nat => D.int (k : Int)) with
          | some (b :: bs) => Res.ok (D.int (maxI b bs)) h5
          | _ => .fail) = _
        rw [e1]
        show Res.ok (D.int (maxI ((0 : Nat) : Int) _)) h5 = _
        rw [maxI_mx, Nat.zero_max]
      refine wR_eq em1 ?_
      walk_at "pi"
      refine wR_eqG (sub_ok (N := N + 4) D0 hSu A (g5.ops o) T (by omega) hi) fun h6 g6 => ?_
      have g6 := g5.trans g6
      walk_at "pi"
      refine wR_eqG (lev_sub (N := N + 5) A T (by omega) (g6.ops o) hi') fun h7 g7 => ?_
      walk_at "pi"
      rw [rc]
      refine wI_dt (by push_cast; rfl) ?_
      walk_at "pi"
      exact ⟨⟨_, _, rfl⟩, g6.trans g7⟩
    · rintro ρ h4 ⟨⟨o8, o9, rfl⟩, g4⟩
      walk_at "pi"
      exact k o8 o9 h4 g4
end
end K04
set_option maxRecDepth 100000
set_option maxHeartbeats 1000000
namespace K04
open PI PITree
open PySem (PyData Str)
local macro_rules | `(tactic| walk_at "set") => `(tactic| with_reducible refine wS_n (by simp only [List.set_cons_succ, List.set_cons_zero]; exact rfl) ?_)
local macro_rules | `(tactic| walk_at "one") => `(tactic| first | with_reducible refine x_wcons ?_ | with_reducible refine x_wnil ?_ | with_reducible refine x_wasg ?_ | with_reducible refine t_varN ?_ | walk_at "set" | with_reducible refine w_var (by with_unfolding_all exact rfl) ?_ | with_reducible refine w_cst ?_ | with_reducible refine w_bin ?_ | with_reducible refine w_cmp ?_ | with_reducible refine w_call ?_ | with_reducible refine w_cons ?_ | with_reducible refine w_nil ?_ | with_reducible refine w_prim ?_ | with_reducible refine wB_b ?_ | with_reducible refine wI_t ?_ | with_reducible refine wI_f ?_ | with_reducible refine wI_n ?_ | with_reducible refine wN_i ?_ | with_reducible refine x_wcond ?_ | with_reducible refine x_wret ?_ | with_reducible refine x_wexpr ?_ | with_reducible refine x_wpar ?_ | with_reducible refine sa_consN ?_ | with_reducible refine sa_nil ?_ | with_reducible refine w_add ?_ | with_reducible refine w_sub ?_ | with_reducible refine c_wlt ?_ | with_reducible refine c_wle ?_ | with_reducible refine c_weq ?_ | with_reducible refine c_wne ?_ | with_reducible refine c_wgt ?_ | with_reducible refine c_wge ?_ | with_reducible refine c_weqs ?_ | with_reducible refine c_wnes ?_ | with_reducible refine w_idx ?_ | with_reducible refine w_not ?_ | with_reducible refine w_andE ?_ | with_reducible refine w_orE ?_ | with_reducible refine w_ite ?_ | with_reducible refine w_cmp2 ?_ | with_reducible refine w_tup ?_ | with_reducible refine w_lst ?_ | with_reducible refine w_lenN (by first | (simp only [List.length_cons, List.length_nil]; done) | (simp only [List.length_cons, List.length_nil]; omega) | omega) ?_ | with_reducible refine w_mk ?_ | with_reducible refine w_mkt ?_ | with_reducible refine w_slice ?_ | with_reducible refine wOpt_n ?_ | with_reducible refine wOpt_s ?_ | with_reducible refine s_wtup ?_ | with_reducible refine s_wlst ?_ | with_reducible refine w_meth ?_ | with_reducible refine w_app (by assumption) ?_ | with_reducible refine w_popT (by assumption) ?_ | with_reducible refine w_isi ?_ | with_reducible refine w_ty (by with_unfolding_all exact rfl) ?_ | with_reducible refine w_neg ?_ | with_reducible refine w_dix ?_ | with_reducible refine w_dget ?_ | with_reducible refine w_din ?_ | with_reducible refine w_dsome ?_ | with_reducible refine w_dk ?_ | with_reducible refine w_slot ?_ | with_reducible refine w_ownm ?_ | with_reducible refine w_ownp ?_ | with_reducible refine w_ownl ?_ | with_reducible refine w_owns ?_ | with_reducible refine w_owni ?_ | with_reducible refine w_ownn ?_ | with_reducible refine w_sl (by assumption) ?_ | with_reducible refine w_slg (by assumption) (by with_unfolding_all exact rfl) ?_ | with_reducible refine w_fstr ?_ | with_reducible refine p_wlenT ?_ | with_reducible refine p_wlenL ?_ | with_reducible refine p_wlenD ?_ | with_reducible refine p_wlenH (by assumption) ?_ | with_reducible refine p_wmax ?_ | with_reducible refine p_wmin ?_ | with_reducible refine p_wtupL ?_ | with_reducible refine p_wtupH (by assumption) ?_ | with_reducible refine p_wlistT ?_ | with_reducible refine p_wlistL ?_ | with_reducible refine x_wbrk ?_ | with_reducible refine x_wcont ?_ | with_reducible refine x_wpass ?_ | with_reducible refine x_wretN ?_ | with_reducible refine x_waugN (by with_unfolding_all exact rfl) ?_ | with_reducible refine x_wraise ?_ | with_reducible refine x_wtry ?_ | with_reducible refine x_weach ?_ | with_reducible refine x_wrng1 ?_ | with_reducible refine x_wrng2 ?_ | with_reducible refine x_wrng3 ?_ | with_reducible refine w_srcT ?_ | with_reducible refine w_srcL ?_ | with_reducible refine w_srcH (by assumption) ?_ | with_reducible refine wO_seq ?_ | with_reducible refine t_tup rfl ?_ | with_reducible refine t_cons ?_ | with_reducible refine t_nil ?_ | with_reducible refine t_idx ?_ | with_reducible refine t_dix ?_ | with_reducible refine t_slot ?_ | with_reducible refine w_newo ?_ | with_reducible refine w_mkD ?_ | with_reducible refine w_mkDt ?_ | with_reducible refine w_dct0 ?_ | with_reducible refine w_keyS ?_ | with_reducible refine w_keyI ?_ | with_reducible refine w_sm (by omega) ?_)
local macro_rules | `(tactic| walk_at "pi") => `(tactic| repeat walk_at "one")
local macro_rules | `(tactic| walk_at "def") => `(tactic| (simp only [List.map_cons, List.map_nil, List.cons_append, List.nil_append, List.length_cons, List.length_nil, Nat.reduceAdd, Nat.reduceSub, List.replicate]))
local macro_rules | `(tactic| walk_at "len") => `(tactic| first | omega | (simp only [List.length_map, List.length_append, List.length_cons, List.length_nil]; omega))
section
variable {N : Nat} {ns : List Int}
def goodB (d : D) : Bool := match toP d with
  | some p => p.canLay0 && p.intsShort 200 && p.showable && decide (p.depth ≤ 30) && decide (p.weight ≤ 9000)
  | none => false
theorem goodB_ok {d : D} (h : goodB d = true) : Good 30 9000 d := by
  unfold goodB at h
  cases e : toP d with
  | none => rw [e] at h; cases h
  | some p =>
    rw [e] at h
    simp only [Bool.and_eq_true, decide_eq_true_eq] at h
    exact ⟨p, e, h.1.1.1.1, h.1.1.1.2, h.1.1.2, h.1.2, h.2⟩
theorem cons_all {p : D → Prop} {a : D} {l : List D} (h : p a) (t : ∀ x ∈ l, p x) : ∀ x ∈ a :: l, p x := fun x hx => (List.mem_cons.mp hx).elim (fun e => e ▸ h) (t x)
theorem cap0 (us : List Str) : us.length ≤ 29 → us.length ≤ 100 := fun h => by omega
theorem small_tree : Tree ar3 ["p", "p", "c", "c", "s", "c"] := ⟨by decide +kernel, by decide +kernel, by simp⟩
theorem one_tree : Tree ar3 ["c"] := ⟨by decide +kernel, by decide +kernel, by simp⟩
theorem v_one {h : AH} {p : Nat} {ls : List D} (A : Ari ar3) (o : Ops h p (sr ar3) ls) : wR (run Pr (N + 9) 27 [.loc p, .tup [.str "c"]] h) (fun d h' => d = .int 1 ∧ Grow h h') noX := by
  have L := lev_ok (N := N + 5) (h := h) D0 hLe A3 o one_tree (by decide)
  have v1 : levN (en (asN (gt ar3) [("c" : Str)])) [("c" : Str)].length = 1 := by decide +kernel
  rw [v1] at L
  exact L
abbrev sT : List D := [.str "p", .str "p", .str "c", .str "c", .str "s", .str "c"]
def tS : List Str := ["p", "p", "c", "c", "s", "c"]
theorem tS_tree : Tree ar3 tS := small_tree
theorem hq0 : 0 < (asN (gt ar3) tS).length := by rw [asN_len]; decide
theorem tS_len : tS.length = 6 := rfl
section
variable {h : AH} {p : Nat} {ls : List D}
theorem v_end (o : Ops h p (sr ar3) ls) : wR (run Pr (N + 9) 23 [.loc p, .tup sT, .int 1] h) (fun d h' => d = .int 4 ∧ Grow h h') noX := by
  have L := end_ok (N := N + 4) (h := h) (q := 1) D0 hEn A3 o tS_tree (by decide) (by decide)
  have v : en (asN (gt ar3) tS) 1 = 4 := by decide +kernel
  rw [v] at L
  exact L
theorem v_sub (o : Ops h p (sr ar3) ls) : wR (run Pr (N + 9) 24 [.loc p, .tup sT, .int 1] h) (fun d h' => d = .tup [.str "p", .str "c", .str "c"] ∧ Grow h h') noX := by
  have L := sub_ok (N := N + 4) (h := h) (q := 1) D0 hSu A3 o tS_tree (by decide) (by decide)
  have v : en (asN (gt ar3) tS) 1 = 4 := by decide +kernel
  rw [v] at L
  exact L
theorem v_chl (o : Ops h p (sr ar3) ls) : wR (run Pr (N + 9) 25 [.loc p, .tup sT, .int 0] h) (fun d h' => d = .tup [.int 1, .int 4] ∧ Grow h h') noX := by
  have L := chl_ok (N := N + 4) (h := h) (q := 0) D0 hCh A3 o tS_tree (by decide) hq0
  have v : nI (chl (en (asN (gt ar3) tS)) ((asN (gt ar3) tS)[0]'hq0) 0) = [.int 1, .int 4] := by decide +kernel
  rw [v] at L
  exact L
theorem v_abv (o : Ops h p (sr ar3) ls) : wR (run Pr (N + 9) 26 [.loc p, .tup sT, .int 3] h) (fun d h' => d = .tup [.int 0, .int 1] ∧ Grow h h') noX := by
  have L := above_ok (N := N + 4) (h := h) (q := 3) D0 hAb A3 o tS_tree (by decide) (by decide)
  have v : nI (anc (en (asN (gt ar3) tS)) 3) = [.int 0, .int 1] := by decide +kernel
  rw [v] at L
  exact L
theorem v_lev (o : Ops h p (sr ar3) ls) : wR (run Pr (N + 9) 27 [.loc p, .tup sT] h) (fun d h' => d = .int 3 ∧ Grow h h') noX := by
  have L := lev_ok (N := N + 5) (h := h) D0 hLe A3 o tS_tree (by decide)
  have v : levN (en (asN (gt ar3) tS)) tS.length = 3 := by decide +kernel
  rw [v] at L
  exact L
end
theorem plain (hl : ns.length ≤ 63) : ∃ h', run Pr (N + 10) 19 [.scr ns] [] = .ok (.bl true) h' := by
  suffices w : wR (run Pr (N + 10) 19 [.scr ns] []) (fun d _ => d = .bl true) noX by
    obtain ⟨d, h', e, rfl⟩ := wR_ex w
    exact ⟨h', e⟩
  refine w_run (show Pr[19]? = some ⟨1, 13, b19⟩ from rfl) rfl ?_
  walk_at "def"
  unfold b19
  walk_at "pi"
  refine p_wlen (by intro s z; cases z) rfl ?_
  walk_at "pi"
  obtain ⟨k, ek⟩ : ∃ k : Int, k = (if (if ((ns.map D.int).length : Int) < 4 then ((ns.map D.int).length : Int) else 4) > 1 then (if ((ns.map D.int).length : Int) < 4 then ((ns.map D.int).length : Int) else 4) else 1) := ⟨_, rfl⟩
  rw [← ek]
  have k1 : 1 ≤ k ∧ k ≤ 4 := by rw [ek]; repeat' split
                                all_goals omega
  clear ek
  refine goF_w (fun _ ρ _ => ∃ o1 o2 o3 o4 o5 o6 o7 o8 o9 o10 o11 o12, ρ = [some (.scr ns), o1, o2, o3, o4, o5, o6, o7, o8, o9, o10, o11, o12]) ⟨_, _, _, _, _, _, _, _, _, _, _, _, rfl⟩ (fun _ _ _ _ _ => rfl) ?_ ?_
  · rintro i ρ h x ⟨o1, o2, o3, o4, o5, o6, o7, o8, o9, o10, o11, o12, rfl⟩ hx _
    obtain ⟨rfl, hlt⟩ := rangeD_get hx
    walk_at "pi"
    obtain ⟨l, e1, d1⟩ := dice_ok hDi (N + 8) (h := h) (ns := ns) (s := 0 + (i : Int)) (by omega) (by omega)
    refine wR_eq e1 ?_
    walk_at "pi"
    obtain ⟨ar, h2, e2, A, d2, f2⟩ := drawn_ar (N := N + 6) hRo hMi hAr d1 (by omega) (by omega)
    refine wR_eq e2 ?_
    walk_at "pi"
    refine wR_eq (init0 (N := N + 5) A) ?_
    refine ⟨rfl, ?_⟩
    walk_at "pi"
    obtain ⟨a, ea⟩ : ∃ a, a = h.length := ⟨_, rfl⟩
    obtain ⟨p, ep⟩ : ∃ p, p = h2.length := ⟨_, rfl⟩
    obtain ⟨h3, e3⟩ : ∃ h3, h3 = h2 ++ [AO.ins 0 [some (D.dct (kvD (sr ar))), some (D.tup (linesD (sr ar)))]] := ⟨_, rfl⟩
    have d3 : Dice h3 a (0 + 40) := by rw [e3, ea]; exact d2.push _
    have o3 : Ops h3 p (sr ar) (linesD (sr ar)) := ⟨by rw [e3, ep]; simp⟩
    have nea : p ≠ a := by
      have := d2.lt
      omega
    rw [← e3, ← ea, ← ep]
    refine goF_w (fun j ρ h' => (∃ o5 o6 o7 o8 o9 o10 o11 o12, ρ = [some (.scr ns), some (.int (0 + (i : Int))), some (.loc a), some (.dct (kvD ar)), some (.loc p), o5, o6, o7, o8, o9, o10, o11, o12]) ∧ Dice h' a (80 + 200 * j) ∧ Ops h' p (sr ar) (linesD (sr ar))) ⟨⟨_, _, _, _, _, _, _, _, rfl⟩, d3.mono (by omega), o3⟩ (fun _ _ _ _ _ => rfl) ?_ ?_
    · rintro j ρ h5 x ⟨⟨o5, o6, o7, o8, o9, o10, o11, o12, rfl⟩, d5, o5'⟩ hx hj
      obtain ⟨rfl, hlt⟩ := rangeD_get hx
      have lr : (rangeD 0 8).length = 8 := rfl
      walk_at "pi"
      obtain ⟨r, h6, e6, r0, r1, d6, f6, l6⟩ := roll_ok hRo (N + 8) (t := 28) d5 (by omega) (by omega) (by decide)
      refine wR_eq e6 ?_
      walk_at "pi"
      refine wR_by (drawn_tree (N := N + 6) hRo hPi hDr A d6 (cap := 1 + r) (by omega) (by omega) (by omega)) ?_
      rintro _ h7 ⟨us, rfl, T, lu, d7, f7⟩
      have lu : us.length ≤ 100 := by omega
      have o7' := (o5'.frame f6 nea).frame f7 nea
      walk_at "pi"
      refine wR_eqG (stops_ok (N := N + 8) A T (by omega)) fun h8 g8 => ?_
      obtain ⟨s8, g8⟩ := g8
      refine t_varN ?_
      walk_at "set"
      refine turn_ok (a := a) A (g8.ops o7') T lu s8 fun o8 o9 h9 g9 => ?_
      exact ⟨⟨_, _, _, _, _, _, _, _, rfl⟩, (g9.dice (g8.dice d7)).mono (by omega), g9.ops (g8.ops o7')⟩
    · rintro ρ h5 ⟨⟨o5, o6, o7, o8, o9, o10, o11, o12, rfl⟩, d5, o5'⟩
      walk_at "pi"
      exact ⟨_, _, _, _, _, _, _, _, _, _, _, _, rfl⟩
  · rintro ρ h ⟨o1, o2, o3, o4, o5, o6, o7, o8, o9, o10, o11, o12, rfl⟩
    walk_at "pi"
    have ed : evE (run Pr (N + 9)) (.dct false [.cst (.str "c"), .cst (.str "s"), .cst (.str "p")] [.cst (.int 0), .cst (.int 1), .cst (.int 2)]) [some (.scr ns), o1, o2, o3, o4, o5, o6, o7, o8, o9, o10, o11, o12] h = .ok (.dct (kvD ar3)) h := by
      kernel_rfl
    refine wR_eq ed ?_
    walk_at "pi"
    refine wR_eq (init0 (N := N + 5) A3) ?_
    refine ⟨rfl, ?_⟩
    obtain ⟨p, ep⟩ : ∃ p, p = h.length := ⟨_, rfl⟩
    obtain ⟨h0, e0⟩ : ∃ h0, h0 = h ++ [AO.ins 0 [some (D.dct (kvD (sr ar3))), some (D.tup (linesD (sr ar3)))]] := ⟨_, rfl⟩
    have op : Ops h0 p (sr ar3) (linesD (sr ar3)) := ⟨by rw [e0, ep]; simp⟩
    have a0 := op.at_
    rw [← e0, ← ep]
    walk_at "pi"
    refine w_mult ["s"] 2000 (by decide) (by decide) (by decide) (by decide) rfl ?_
    walk_at "pi"
    refine w_mult ["p", "c"] 1000 (by decide) (by decide) (by decide) (by decide) rfl ?_
    refine w_addw _ _ (by rw [rp_len, rp_len]; decide) ?_
    walk_at "pi"
    refine w_addw _ ["c"] (by rw [List.length_append, rp_len, rp_len]; decide) ?_
    have el : rp 2000 ["s"] ++ rp 1000 ["p", "c"] ++ [("c" : Str)] = long := rfl
    rw [el]
    have ll : long.length ≤ 5000 := by rw [long_len]; decide
    have l4 : ∀ q, q < 4001 → q < (asN (gt ar3) long).length := fun q h => by rw [long_len2]; exact h
    have l5 : ∀ q, q < 4001 → q < long.length := fun q h => by rw [long_len]; exact h
    walk_at "pi"
    refine wR_eqG (lev_ok (N := N + 5) D0 hLe A3 op long_tree ll) fun h1 g1 => ?_
    rw [long_len, long_lev]
    have a1 := (g1.ops op).at_
    walk_at "pi"
    refine wR_eqG (end_ok (N := N + 4) (q := 0) D0 hEn A3 (g1.ops op) long_tree ll (l5 _ (by decide))) fun h2 g2 => ?_
    have g2 := g1.trans g2
    rw [long_en (by decide)]
    have a2 := (g2.ops op).at_
    walk_at "pi"
    refine wR_eqG (end_ok (N := N + 4) (q := 2001) D0 hEn A3 (g2.ops op) long_tree ll (l5 _ (by decide))) fun h3 g3 => ?_
    have g3 := g2.trans g3
    rw [long_en (by decide)]
    have a3 := (g3.ops op).at_
    walk_at "pi"
    refine wR_eqG (above_ok (N := N + 4) (q := 4000) D0 hAb A3 (g3.ops op) long_tree ll (l5 _ (by decide))) fun h4 g4 => ?_
    have g4 := g3.trans g4
    have la : (nI (anc (en (asN (gt ar3) long)) 4000)).length = 3000 := by
      rw [nI_len, anc_congr (g := fL) fun q hq => long_en (by omega), long_anc (by decide), cN_is]
      decide
    walk_at "pi"
    rw [la]
    have f0 : ((fL 0 : Nat) : Int) = 4001 := rfl
    have f1 : ((fL 2001 : Nat) : Int) = 2002 := rfl
    rw [f0, f1]
    obtain ⟨c, ec⟩ : ∃ c, c = h4.length := ⟨_, rfl⟩
    obtain ⟨h5, e5⟩ : ∃ h5, h5 = h4 ++ [AO.lst [D.int ((3001 : Nat) : Int), .int 4001, .int 2002, .int ((3000 : Nat) : Int)]] := ⟨_, rfl⟩
    have g5 : Grow h0 h5 := g4.trans ⟨_, e5⟩
    have c5 : h5[c]? = some (.lst [D.int ((3001 : Nat) : Int), .int 4001, .int 2002, .int ((3000 : Nat) : Int)]) := by rw [e5, ec]; simp
    have pc : c ≠ p := by
      have l1 := op.lt
      obtain ⟨l, el⟩ := g4
      have := congrArg List.length el
      rw [List.length_append] at this
      omega
    have a5 := (g5.ops op).at_
    rw [← e5, ← ec]
    walk_at "pi"
    refine wR_eqG (chl_ok (N := N + 4) (q := 2000) D0 hCh A3 (g5.ops op) long_tree ll (l4 _ (by decide))) fun h6 g6 => ?_
    have ck : nI (chl (en (asN (gt ar3) long)) ((asN (gt ar3) long)[2000]'(l4 _ (by decide))) 2000) = [.int 2001, .int 2002] := by
      have e := long_as 2000 (by decide)
      rw [List.getElem?_eq_getElem (l4 2000 (by decide))] at e
      rw [Option.some.inj e]
      show [D.int ((2001 : Nat) : Int), .int ((en (asN (gt ar3) long) 2001 : Nat) : Int)] = _
      rw [long_en (by decide)]
      rfl
    rw [ck]
    have c6 := g6.at_ c5
    walk_at "pi"
    refine m_wappN c6 (by decide) ?_
    obtain ⟨h7, e7⟩ : ∃ h7, h7 = put c ([D.int ((3001 : Nat) : Int), .int 4001, .int 2002, .int ((3000 : Nat) : Int)] ++ [.tup [.int 2001, .int 2002]]) h6 := ⟨_, rfl⟩
    have o7' : Ops h7 p (sr ar3) (linesD (sr ar3)) := by rw [e7]; exact (g6.ops (g5.ops op)).set pc
    have c7 : h7[c]? = some (.lst [.int 3001, .int 4001, .int 2002, .int 3000, .tup [.int 2001, .int 2002]]) := by
      rw [e7, put_at (List.getElem?_eq_some_iff.mp c6).1]
      rfl
    have a7 := o7'.at_
    rw [← e7]
    walk_at "pi"
    refine wP_some (same_cmp (goodB_ok (d := .lst [.int 3001, .int 4001, .int 2002, .int 3000, .tup [.int 2001, .int 2002]]) (by decide +kernel)) (by decide) (look_list c7) rfl).2 ?_
    walk_at "pi"
    have L1 : wR (run Pr (N + 9) 27 [.loc p, .tup [.str "c"]] h7) (fun d h' => d = .int 1 ∧ Grow h7 h') noX := v_one A3 o7'
    refine wR_eqG L1 fun h8 g8 => ?_
    walk_at "pi"
    refine wI_dt rfl ?_
    walk_at "pi"
    have o8' := g8.ops o7'
    have a8 := o8'.at_
    walk_at "pi"
    refine wR_eqG (v_end o8') fun h9 g9 => ?_
    have a9 := (g9.ops o8').at_
    walk_at "pi"
    refine wR_eqG (v_sub (g9.ops o8')) fun h10 g10 => ?_
    have g10 := g9.trans g10
    have a10 := (g10.ops o8').at_
    walk_at "pi"
    refine wR_eqG (v_chl (g10.ops o8')) fun h11 g11 => ?_
    have g11 := g10.trans g11
    have a11 := (g11.ops o8').at_
    walk_at "pi"
    refine wR_eqG (v_abv (g11.ops o8')) fun h12 g12 => ?_
    have g12 := g11.trans g12
    have a12 := (g12.ops o8').at_
    walk_at "pi"
    refine wR_eqG (v_lev (g12.ops o8')) fun h13 g13 => ?_
    walk_at "pi"
    refine wP_some (same_cmp (goodB_ok (d := .lst [.int 4, .tup [.str "p", .str "c", .str "c"], .tup [.int 1, .int 4], .tup [.int 0, .int 1], .int 3]) (by decide +kernel)) (by decide) (look_list (by simp)) rfl).1 ?_
    rfl
end
end K04
set_option maxRecDepth 100000
namespace K04
open PySem PySem.W PyProof.Rows
abbrev rw0 : PySem.W.OpenLaw := PySem.Challenge.rw_munchbehind_k04_whole_subtrees_and_level
abbrev R0 : PySem.W.OpenRow := PySem.W.OpenLaw.row rw0
def es : List PI.ErrD := []
abbrev nm : Str := R0.prog.main.file
abbrev hk0 : PySem.W.Hook := PI.hookO nm es G Ds 7
def ob0 (s : PySem.W.SharedT) : PI.AlO := PI.obsOG nm es G Ds 7 (HandSHeadRun.getT s)
theorem ob0_eq (s : PySem.W.SharedT) : ob0 s = hk0.obs s.abs := PI.obsOG_eq (HandSHeadRun.getT_eq s)
def loose1 : List String := ["_wall", "CoverError", "InvalidOperators", "InvalidTree", "InvalidNumber", "MAX_LETTERS", "GREATEST", "LETTERS", "is_integer", "is_index", "is_name", "MAX_OPERATORS", "MAX_TREE", "OPERATOR", "are_arities", "is_known", "is_whole", "is_right_tree", "ends_of", "require_tree", "require_place", "Operators", "_law_dice", "_law_roll", "_law_pick", "_law_mixed", "_law_drawn_tree", "_law_arities", "_law_stops", "_law_place_right", "_law_levels"]
def loose0 : List PySem.Str := loose1.map PySem.Str.ofString
set_option maxHeartbeats 0 in
theorem chk0 : PI.chkAllO rw0.prog es G Ds Ns Pr = true := by decide +kernel
set_option maxHeartbeats 0 in
theorem run0 (w : World) : HandSHeadRun.RunEq R0 (PySem.W.view R0.prog [35]) hk0 ob0 9000 loose0 w := by
  intro os
  kernel_rfl
end K04
set_option maxHeartbeats 0
open PySem PyProof.Rows PySem.Calls PySem.W
theorem PySem.Challenge.cw_munchbehind_k04_whole_subtrees_and_level_holds : PySem.Challenge.rw_munchbehind_k04_whole_subtrees_and_level.Holds := by
  w_on; o_law
  refine HandSHeadRun.head_any (r := K04.R0) (q := PySem.W.view K04.R0.prog [35]) (H := K04.hk0) (ob := K04.ob0) (M := 9000) (loose := K04.loose0) (d := HandSHeadRun.topDef K04.R0.prog 35) (kwd := []) K04.ob0_eq
    (by kernel_rfl) (fun s => by kernel_rfl) K04.run0 (by kernel_rfl) (by kernel_rfl) (by kernel_rfl) (by rfl) (by first | assumption | decide +kernel) (by decide +kernel) ⟨rfl, rfl, rfl, rfl, rfl, by decide +kernel⟩ ?hw ?hc
  case hw => w_witness2
  case hc => exact PI.walk_piO (l := K04.rw0) (n := 63) (k := 20) (i := 19) (G := K04.G) (D := K04.Ds) (Ns := K04.Ns) (Pr := K04.Pr) (x := "script") (dd := K04.dd 35) (es := K04.es) rfl (by decide) (by kernel_rfl) (by decide) (fun d hd => absurd hd (List.not_mem_nil)) K04.chk0 (by kernel_rfl) (by kernel_rfl) (by kernel_rfl) (fun ns hl => K04.plain hl)
#print axioms PySem.Challenge.cw_munchbehind_k04_whole_subtrees_and_level_holds
