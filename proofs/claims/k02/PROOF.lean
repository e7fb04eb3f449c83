import PyProof.Rows.All
import Wide.All
import OpenK.AllK
import Wide.FinOn
import HandS.ForMost
import HandS.TupAny
import HandS.TupMul
import HandS.Deep
import HandS.Flow
import HandS.Style
import KE.KDictKeyed
import KE.KeyNested
import HandS.IsInst
import HandS.Codes
import HandS.Ends
import PySem.Challenge.RW_lassohold_k02_all_short_lassos
set_option Elab.async false
set_option linter.all false
section
/-! The small interpreter: data, the program form, its run. Plain Lean, no library. -/
namespace Lz

/-- of a list, a dict, an object: own (nobody else holds it), shared (made here, never changed again), given (never changed here), kept (of the text or the script) -/
inductive Fg where
  | o | s | g | k
  deriving Inhabited, Repr, DecidableEq
def Fg.sh : Fg → Fg
  | .o => .s
  | f => f
/-- as an argument is seen by a def -/
def Fg.gv : Fg → Fg
  | .k => .k
  | _ => .g
def Fg.isO : Fg → Bool
  | .o => true
  | _ => false
def Fg.isG : Fg → Bool
  | .g => true
  | _ => false
/-- handed on as the changed one -/
def Fg.low : Fg → Fg
  | .o => .o
  | .k => .k
  | _ => .g

/-- data -/
inductive D where
  | non
  | bl (b : Bool)
  | int (i : Int)
  | str (s : String)
  | tup (xs : List D)
  | lst (f : Fg) (xs : List D)
  | dic (f : Fg) (kvs : List (D × D))
  | obj (f : Fg) (c : String) (fs : List (String × D))
  deriving Inhabited, Repr

inductive Err where
  | stuck (m : String)
  | exc (c : String) (fs : List (String × D))
  deriving Inhabited, Repr

abbrev Env := List (Option D)
abbrev Ex (α : Type) := Except Err α

def stuck {α : Type} (m : String) : Ex α := .error (.stuck m)

mutual
/-- the flags changed, all the way down -/
def D.fl (m : Fg → Fg) : D → D
  | .non => .non
  | .bl b => .bl b
  | .int i => .int i
  | .str s => .str s
  | .tup xs => .tup (flL m xs)
  | .lst f xs => .lst (m f) (flL m xs)
  | .dic f kvs => .dic (m f) (flK m kvs)
  | .obj f c fs => .obj (m f) c (flF m fs)
def flL (m : Fg → Fg) : List D → List D
  | [] => []
  | x :: xs => x.fl m :: flL m xs
def flK (m : Fg → Fg) : List (D × D) → List (D × D)
  | [] => []
  | (k, v) :: r => (k.fl m, v.fl m) :: flK m r
def flF (m : Fg → Fg) : List (String × D) → List (String × D)
  | [] => []
  | (k, v) :: r => (k, v.fl m) :: flF m r
end
abbrev D.share (d : D) : D := d.fl Fg.sh
abbrev shareL (xs : List D) : List D := flL Fg.sh xs
/-- as an argument is seen by a def -/
abbrev D.lend (d : D) : D := d.fl Fg.gv
abbrev lendL (xs : List D) : List D := flL Fg.gv xs
abbrev D.lower (d : D) : D := d.fl Fg.low

/-- is an own thing (an own thing is held by own things alone) -/
def D.own : D → Bool
  | .lst f _ => f.isO
  | .dic f _ => f.isO
  | .obj f _ _ => f.isO
  | _ => false

mutual
/-- the very same data -/
def D.same : D → D → Bool
  | .non, .non => true
  | .bl a, .bl b => a == b
  | .int i, .int j => decide (i = j)
  | .str a, .str b => decide (a = b)
  | .tup a, .tup b => sameL a b
  | .lst f a, .lst g b => decide (f = g) && sameL a b
  | .dic f a, .dic g b => decide (f = g) && sameK a b
  | .obj f c a, .obj g d b => decide (f = g) && decide (c = d) && sameF a b
  | _, _ => false
def sameL : List D → List D → Bool
  | [], [] => true
  | a :: as, b :: bs => D.same a b && sameL as bs
  | _, _ => false
def sameK : List (D × D) → List (D × D) → Bool
  | [], [] => true
  | (k, v) :: as, (l, w) :: bs => D.same k l && D.same v w && sameK as bs
  | _, _ => false
def sameF : List (String × D) → List (String × D) → Bool
  | [], [] => true
  | (k, v) :: as, (l, w) :: bs => decide (k = l) && D.same v w && sameF as bs
  | _, _ => false
end
mutual
theorem D.same_self : ∀ d : D, D.same d d = true
  | .non => by simp [D.same]
  | .bl a => by simp [D.same]
  | .int i => by simp [D.same]
  | .str a => by simp [D.same]
  | .tup a => by simp [D.same, sameL_self a]
  | .lst f a => by simp [D.same, sameL_self a]
  | .dic f a => by simp [D.same, sameK_self a]
  | .obj f c a => by simp [D.same, sameF_self a]
theorem sameL_self : ∀ d : List D, sameL d d = true
  | [] => by simp [sameL]
  | a :: as => by simp [sameL, D.same_self a, sameL_self as]
theorem sameK_self : ∀ d : List (D × D), sameK d d = true
  | [] => by simp [sameK]
  | (k, v) :: as => by simp [sameK, D.same_self k, D.same_self v, sameK_self as]
theorem sameF_self : ∀ d : List (String × D), sameF d d = true
  | [] => by simp [sameF]
  | (k, v) :: as => by simp [sameF, D.same_self v, sameF_self as]
end
mutual
theorem D.eq_of_same : ∀ a b : D, D.same a b = true → a = b
  | .non, b, h => by cases b <;> simp_all [D.same]
  | .bl a, b, h => by cases b <;> simp_all [D.same]
  | .int i, b, h => by cases b <;> simp_all [D.same]
  | .str a, b, h => by cases b <;> simp_all [D.same]
  | .tup a, b, h => by
    cases b <;> simp only [D.same, Bool.false_eq_true] at h
    rw [sameL_eq a _ h]
  | .lst f a, b, h => by
    cases b <;> simp only [D.same, Bool.false_eq_true, Bool.and_eq_true, decide_eq_true_eq] at h
    rw [h.1, sameL_eq a _ h.2]
  | .dic f a, b, h => by
    cases b <;> simp only [D.same, Bool.false_eq_true, Bool.and_eq_true, decide_eq_true_eq] at h
    rw [h.1, sameK_eq a _ h.2]
  | .obj f c a, b, h => by
    cases b <;> simp only [D.same, Bool.false_eq_true, Bool.and_eq_true, decide_eq_true_eq] at h
    rw [h.1.1, h.1.2, sameF_eq a _ h.2]
theorem sameL_eq : ∀ a b : List D, sameL a b = true → a = b
  | [], b, h => by cases b <;> simp_all [sameL]
  | a :: as, b, h => by
    cases b <;> simp only [sameL, Bool.false_eq_true, Bool.and_eq_true] at h
    rw [D.eq_of_same a _ h.1, sameL_eq as _ h.2]
theorem sameK_eq : ∀ a b : List (D × D), sameK a b = true → a = b
  | [], b, h => by cases b <;> simp_all [sameK]
  | (k, v) :: as, b, h => by
    cases b with
    | nil => simp [sameK] at h
    | cons p bs =>
      obtain ⟨l, w⟩ := p
      simp only [sameK, Bool.and_eq_true] at h
      rw [D.eq_of_same k _ h.1.1, D.eq_of_same v _ h.1.2, sameK_eq as _ h.2]
theorem sameF_eq : ∀ a b : List (String × D), sameF a b = true → a = b
  | [], b, h => by cases b <;> simp_all [sameF]
  | (k, v) :: as, b, h => by
    cases b with
    | nil => simp [sameF] at h
    | cons p bs =>
      obtain ⟨l, w⟩ := p
      simp only [sameF, Bool.and_eq_true, decide_eq_true_eq] at h
      rw [h.1.1, D.eq_of_same v _ h.1.2, sameF_eq as _ h.2]
end

mutual
/-- Python's == on data (objects: never asked) -/
def D.eq : D → D → Bool
  | .non, .non => true
  | .bl a, .bl b => a == b
  | .bl a, .int j => decide ((if a then 1 else 0 : Int) = j)
  | .int i, .bl b => decide (i = (if b then 1 else 0 : Int))
  | .int i, .int j => decide (i = j)
  | .str a, .str b => decide (a = b)
  | .tup a, .tup b => eqL a b
  | .lst _ a, .lst _ b => eqL a b
  | _, _ => false
def eqL : List D → List D → Bool
  | [], [] => true
  | a :: as, b :: bs => D.eq a b && eqL as bs
  | _, _ => false
end

def D.scal : D → Bool
  | .non => true
  | .bl _ => true
  | .int _ => true
  | .str _ => true
  | _ => false
/-- None, bools, ints, texts, lists and tuples of such, n deep: what == may be asked of -/
def flatN : Nat → D → Bool
  | 0, d => d.scal
  | n + 1, .tup xs => xs.all (flatN n)
  | n + 1, .lst _ xs => xs.all (flatN n)
  | _ + 1, d => d.scal
abbrev D.flat (d : D) : Bool := flatN 60 d
abbrev flatL (xs : List D) : Bool := xs.all D.flat
/-- scalars and tuples of such, n deep: what may be a key -/
def keyN : Nat → D → Bool
  | 0, d => d.scal
  | n + 1, .tup xs => xs.all (keyN n)
  | _ + 1, d => d.scal
abbrev D.isKey (d : D) : Bool := keyN 8 d

mutual
/-- Python's < on data; none: a type error -/
def D.lt : D → D → Option Bool
  | .int i, .int j => some (decide (i < j))
  | .bl a, .bl b => some (!a && b)
  | .bl a, .int j => some (decide ((if a then 1 else 0 : Int) < j))
  | .int i, .bl b => some (decide (i < (if b then 1 else 0 : Int)))
  | .str a, .str b => some (decide (a < b))
  | .tup a, .tup b => ltL a b
  | .lst _ a, .lst _ b => ltL a b
  | _, _ => none
def ltL : List D → List D → Option Bool
  | [], [] => some false
  | [], _ :: _ => some true
  | _ :: _, [] => some false
  | a :: as, b :: bs => if D.eq a b then ltL as bs else D.lt a b
end

def look (kvs : List (D × D)) (k : D) : Option D := (kvs.find? fun p => D.eq p.1 k).map (·.2)
def has (kvs : List (D × D)) (k : D) : Bool := kvs.any fun p => D.eq p.1 k
def put : List (D × D) → D → D → List (D × D)
  | [], k, v => [(k, v)]
  | (k', v') :: r, k, v => if D.eq k' k then (k', v) :: r else (k', v') :: put r k v
def drop (kvs : List (D × D)) (k : D) : List (D × D) := kvs.filter fun p => !D.eq p.1 k
def putAll (kvs : List (D × D)) : List (D × D) → List (D × D)
  | [] => kvs
  | (k, v) :: r => putAll (put kvs k v) r

def getF (fs : List (String × D)) (n : String) : Option D := fs.lookup n
def putF : List (String × D) → String → D → List (String × D)
  | [], n, v => [(n, v)]
  | (m, u) :: r, n, v => if m = n then (n, v) :: r else (m, u) :: putF r n v

/-- the place that an index tells -/
def ixN (n : Nat) (i : Int) : Option Nat :=
  if 0 ≤ i then (if i < n then some i.toNat else none) else if -(n : Int) ≤ i then some (i + n).toNat else none
/-- a slice's end -/
def sIx (n d : Nat) : Option Int → Nat
  | none => d
  | some i => if i < 0 then (i + n).toNat else min i.toNat n
def cut {α : Type} (xs : List α) (lo hi : Option Int) : List α :=
  (xs.drop (sIx xs.length 0 lo)).take (sIx xs.length xs.length hi - sIx xs.length 0 lo)

inductive Op where
  | add | sub | mul | fdiv | mod | shl | shr | band | pow
  deriving Inhabited, Repr, DecidableEq
inductive Cm where
  | eq | ne | lt | le | gt | ge | isin | notin
  deriving Inhabited, Repr, DecidableEq

mutual
inductive E where
  | lit (d : D)
  | var (i : Nat)
  | glob (n : String)
  | fld (e : E) (n : String)
  | idx (e i : E)
  | slc (e : E) (lo hi : Option E)
  | rvs (e : E)
  | tup (es : List E)
  | lst (es : List E)
  | dic (ks vs : List E)
  | bin (o : Op) (a b : E)
  | neg (a : E)
  | notE (a : E)
  | andE (a b : E)
  | orE (a b : E)
  | ite (c a b : E)
  | cmp (o : Cm) (a b : E)
  | chain (o1 o2 : Cm) (a b c : E)
  | isN (a : E)
  | notN (a : E)
  | bi (n : String) (es : List E)
  | isi (e : E) (cs : List String)
  | meth (e : E) (n : String) (es : List E)
  | isB (a : E) (b : Bool)
  | mmeth (i : Nat) (n : String) (es : List E)
  | mcal (i : Nat) (f : String) (es : List E)
  | pop (p : E) (es : List E)
  | call (f : String) (es : List E)
  | mk (c : String) (es : List E)
  | comp (keep : Bool) (t : List Nat) (one : Bool) (it : I) (cond : Option E) (elt : E)
inductive I where
  | val (e : E)
  | keep (e : E)
  | rng (es : List E)
  | enum (it : I)
  | rvs (it : I)
  | zip (a b : I)
end
instance : Inhabited E := ⟨.lit .non⟩

inductive Tg where
  | var (i : Nat)
  | tup (is : List Nat)
  | idx (keep : Bool) (p i : E)
  | fld (p : E) (n : String)
  deriving Inhabited

inductive S where
  | asg (t : Tg) (e : E)
  | aug (t : Tg) (o : Op) (e : E)
  | ex (e : E)
  | mut (keep : Bool) (n : String) (p : E) (es : List E)
  | del (p i : E)
  | ret (e : E)
  | ifS (c : E) (a b : List S)
  | forS (t : Tg) (it : I) (body : List S)
  | whl (c : E) (body : List S)
  | brk | cnt | pass
  | raise (c : String) (es : List E)
  | tryS (body : List S) (c : String) (slot : Option Nat) (handler : List S)
  deriving Inhabited

/-- a way down into data -/
inductive Acc where
  | fld (n : String)
  | at (k : D)

inductive Fl where
  | nx | brk | cnt | ret (d : D)
  deriving Inhabited, Repr

/-- what a run leans on -/
structure Ctx where
  /-- a def -/
  call : String → List D → Ex D
  /-- a method: self, arguments; what comes back, self behind it -/
  mcall : String → String → D → List D → Ex (D × D)
  /-- a def that changes its first argument -/
  icall : String → D → List D → Ex (D × D)
  /-- an instance made -/
  make : String → List D → Ex D
  glob : String → Option D
  /-- is the class one of the other -/
  sub : String → String → Bool
  /-- the fields that an error of the class is made with -/
  efields : String → List String
  /-- the fields that instances of the class may have -/
  flds : String → List String
  fuel : Nat

/-! ### operators -/
/-- the longest list, tuple, text -/
def line : Nat := 16777216
def big : Int := 18446744073709551616
/-- fits an index -/
def isIx (i : Int) : Bool := decide (-9223372036854775808 ≤ i) && decide (i < 9223372036854775808)
/-- fits a range -/
def isRg (i : Int) : Bool := decide (-4611686018427387904 ≤ i) && decide (i < 4611686018427387904)
def isSmall (i : Int) : Bool := decide (-big < i) && decide (i < big)
def binop (o : Op) (a b : D) : Ex D := match o, a, b with
  | .add, .int i, .int j => .ok (.int (i + j))
  | .add, .int i, .bl b => .ok (.int (i + if b then 1 else 0))
  | .add, .str a, .str b => if a.length + b.length ≤ line then .ok (.str (a ++ b)) else stuck "add: long"
  | .add, .tup a, .tup b => if a.length + b.length ≤ line then .ok (.tup (a ++ b)) else stuck "add: long"
  | .add, .lst f a, .lst g b => if a.length + b.length ≤ line ∧ f ≠ .k ∧ g ≠ .k then (if (a ++ b).any D.own then stuck "add: own items" else .ok (.lst .o (a ++ b))) else stuck "add: long"
  | .sub, .int i, .int j => .ok (.int (i - j))
  | .mul, .int i, .int j => if isSmall i || isSmall j then .ok (.int (i * j)) else stuck "mul: great"
  | .mul, .lst f a, .int k => if f ≠ .k ∧ a.length * k.toNat ≤ line ∧ isIx k then (if a.any D.own then stuck "mul: own items" else .ok (.lst .o (List.replicate k.toNat a).flatten)) else stuck "mul: long"
  | .mul, .tup a, .int k => if (a.isEmpty || k == 1) && isIx k then .ok (.tup (List.replicate k.toNat a).flatten) else if !a.isEmpty ∧ 2 ≤ k ∧ k ≤ 1000 ∧ a.length ≤ 1000 then .ok (.tup (List.replicate k.toNat a).flatten) else stuck "mul: tuple"
  | .fdiv, .int i, .int j => if j ≠ 0 ∧ j.natAbs < 1073741824 then .ok (.int (i.fdiv j)) else stuck "fdiv"
  | .mod, .int i, .int j => if j ≠ 0 then .ok (.int (i.fmod j)) else stuck "mod"
  | .shl, .int i, .int j => if 0 ≤ j ∧ j ≤ 1000 ∧ isSmall i then .ok (.int (i * 2 ^ j.toNat)) else stuck "shl"
  | .shr, .int i, .int j => if 0 ≤ j then .ok (.int (i.fdiv (2 ^ j.toNat))) else stuck "shr"
  | .band, .int i, .int j => if j = 1 then .ok (.int (i.fmod 2)) else if 0 ≤ i ∧ 0 ≤ j then .ok (.int (Nat.land i.toNat j.toNat)) else stuck "band"
  | .pow, .int i, .int j => if 0 ≤ j ∧ j ≤ 1000 ∧ isSmall i then .ok (.int (i ^ j.toNat)) else stuck "pow"
  | _, _, _ => stuck s!"binop"
def truth : D → Ex Bool
  | .non => .ok false
  | .bl b => .ok b
  | .int i => .ok (i != 0)
  | .str s => if s.length ≤ line then .ok (s != "") else stuck "truth: long"
  | .tup xs => .ok (!xs.isEmpty)
  | .lst _ xs => .ok (!xs.isEmpty)
  | .dic _ _ => stuck "truth: dict"
  | .obj _ _ _ => stuck "truth: object"
def isIn (x c : D) : Ex Bool := match c with
  | .lst _ xs => if x.flat && flatL xs then .ok (xs.any fun y => D.eq y x) else stuck "in: items"
  | .tup xs => if x.scal && xs.all D.scal then .ok (xs.any fun y => D.eq y x) else stuck "in: items"
  | _ => stuck "in"
def item (c i : D) : Ex D := match c, i with
  | .lst _ xs, .int k => match ixN xs.length k with
    | some j => match xs[j]? with
      | some d => .ok d
      | none => stuck "item"
    | none => stuck "item: out of range"
  | .tup xs, .int k => match ixN xs.length k with
    | some j => match xs[j]? with
      | some d => .ok d
      | none => stuck "item"
    | none => stuck "item: out of range"
  | .str s, .int k => if s.length ≤ line then match ixN s.length k with
    | some j => match s.toList[j]? with
      | some ch => .ok (.str (String.ofList [ch]))
      | none => stuck "item"
    | none => stuck "item: out of range"
    else stuck "item: long"
  | _, _ => stuck "item"
/-- the items of what is walked -/
def items : D → Ex (List D)
  | .lst _ xs => .ok xs
  | .tup xs => .ok xs
  | .str s => .ok (s.toList.map fun c => .str (String.ofList [c]))
  | _ => stuck "items"
def number (i : Nat) : List D → List D
  | [] => []
  | x :: xs => .tup [.int i, x.share] :: number (i + 1) xs
def rangeL (lo : Int) (n : Nat) : List D := (List.range n).map fun (i : Nat) => .int (lo + (i : Int))
def zipD : List D → List D → List D
  | a :: as, b :: bs => .tup [a.share, b.share] :: zipD as bs
  | _, _ => []
def ltB (a b : D) : Bool := (D.lt a b).getD false
def sortable (xs : List D) : Bool := xs.all fun x => xs.all fun y => (D.lt x y).isSome
def sortD (xs : List D) : List D := xs.mergeSort fun a b => !ltB b a
def dedup : List D → List D → List D
  | acc, [] => acc
  | acc, x :: xs => if acc.any (fun y => D.eq y x) then dedup acc xs else dedup (acc ++ [x]) xs
def D.isNone : D → Bool
  | .non => true
  | _ => false
def isInt : D → Bool
  | .int _ => true
  | _ => false
def intsL : List D → Option (List Int)
  | [] => some []
  | .int i :: r => (intsL r).map (i :: ·)
  | _ => none
def maxI (x : Int) (r : List Int) : Int := r.foldl (fun m y => if y > m then y else m) x
def minI (x : Int) (r : List Int) : Int := r.foldl (fun m y => if y < m then y else m) x
def minD (x : D) (r : List D) : D := r.foldl (fun m y => if ltB y m then y else m) x
def idxOf (xs : List D) (y : D) : Option Nat := match xs with
  | [] => none
  | x :: r => if D.eq x y then some 0 else (idxOf r y).map (· + 1)

/-- a built-in function: its arguments are only looked at -/
def builtin (n : String) (ds : List D) : Ex D :=
  if n = "len" then match ds with
    | [.lst _ xs] => .ok (.int xs.length)
    | [.tup xs] => .ok (.int xs.length)
    | [.str s] => if s.length ≤ line then .ok (.int s.length) else stuck "len"
    | _ => stuck "len"
  else if n = "int" then match ds with
    | [.int i] => .ok (.int i)
    | [.bl b] => .ok (.int (if b then 1 else 0))
    | _ => stuck "int"
  else if n = "tuple" then match ds with
    | [.tup xs] => .ok (.tup xs)
    | [.lst _ xs] => if xs.any D.own then stuck "tuple: own items" else .ok (.tup xs)
    | _ => stuck "tuple"
  else if n = "list" then match ds with
    | [.tup xs] => .ok (.lst .o xs)
    | [.lst _ xs] => if xs.any D.own then stuck "list: own items" else .ok (.lst .o xs)
    | [.dic _ kvs] => .ok (.lst .o (kvs.map (·.1)))
    | _ => stuck "list"
  else if n = "dict" then match ds with
    | [.dic _ kvs] => if kvs.any (fun p => p.2.own) then stuck "dict: own items" else .ok (.dic .o kvs)
    | _ => stuck "dict"
  else if n = "sorted" then match ds with
    | [d] => do
      let xs ← items d
      if sortable xs && !xs.any D.own then .ok (.lst .o (sortD xs)) else stuck "sorted"
    | _ => stuck "sorted"
  else if n = "sortedset" then match ds with
    | [d] => do
      let xs ← items d
      if sortable xs && xs.all D.isKey then .ok (.lst .o (sortD (dedup [] xs))) else stuck "sortedset"
    | _ => stuck "sortedset"
  else if n = "lenset" then match ds with
    | [d] => do
      let xs ← items d
      if xs.all D.isKey then .ok (.int (dedup [] xs).length) else stuck "lenset"
    | _ => stuck "lenset"
  else if n = "sum" then match ds with
    | [d] => do
      let xs ← items d
      match intsL xs with
      | some is => .ok (.int is.sum)
      | none => stuck "sum"
    | _ => stuck "sum"
  else if n = "max" then match ds with
    | [.int i, .int j] => .ok (.int (if j > i then j else i))
    | [.int i, .int j, .int k] => .ok (.int (maxI i [j, k]))
    | [d] => do
      let xs ← items d
      match intsL xs with
      | some (i :: r) => .ok (.int (maxI i r))
      | _ => stuck "max"
    | _ => stuck "max"
  else if n = "maxd" then match ds with
    | [d, e] => do
      let xs ← items d
      match intsL xs with
      | some [] => .ok e
      | some (i :: r) => .ok (.int (maxI i r))
      | _ => stuck "maxd"
    | _ => stuck "maxd"
  else if n = "min" then match ds with
    | [.int i, .int j] => .ok (.int (if j < i then j else i))
    | [d] => do
      let xs ← items d
      match intsL xs with
      | some (i :: r) => .ok (.int (minI i r))
      | _ => match xs with
        | x :: r => if sortable xs then .ok (minD x r).share else stuck "min"
        | [] => stuck "min"
    | _ => stuck "min"
  else if n = "str" then match ds with
    | [.int i] => .ok (.str (toString i))
    | [.str s] => .ok (.str s)
    | _ => stuck "str"
  else if n = "range" then match ds with
    | [.int j] => .ok (.tup (rangeL 0 j.toNat))
    | [.int i, .int j] => .ok (.tup (rangeL i (j - i).toNat))
    | _ => stuck "range"
  else stuck ("builtin " ++ n)

def strsL : List D → Option (List String)
  | [] => some []
  | .str i :: r => (strsL r).map (i :: ·)
  | _ => none
/-- a method of a built-in type that changes nothing -/
def bmeth (n : String) (d : D) (ds : List D) : Ex D :=
  if n = "index" then match d, ds with
    | .lst _ xs, [y] => if y.flat && flatL xs then match idxOf xs y with
      | some i => .ok (.int i)
      | none => stuck "index: not there"
      else stuck "index"
    | .tup xs, [y] => if y.flat && flatL xs then match idxOf xs y with
      | some i => .ok (.int i)
      | none => stuck "index: not there"
      else stuck "index"
    | .str s, [.str t] => match s.splitOn t with
      | a :: _ :: _ => .ok (.int a.length)
      | _ => stuck "index: not there"
    | _, _ => stuck "index"
  else if n = "count" then match d, ds with
    | .lst _ xs, [y] => if y.flat && flatL xs then .ok (.int (xs.countP fun x => D.eq x y)) else stuck "count"
    | .str s, [.str t] => .ok (.int ((s.splitOn t).length - 1 : Nat))
    | _, _ => stuck "count"
  else if n = "get" then match d, ds with
    | .dic _ kvs, [k, x] => if k.isKey then .ok ((look kvs k).getD x) else stuck "get"
    | .dic _ kvs, [k] => if k.isKey then .ok ((look kvs k).getD .non) else stuck "get"
    | _, _ => stuck "get"
  else if n = "values" then match d, ds with
    | .dic _ kvs, [] => .ok (.tup (kvs.map fun p => p.2.share))
    | _, _ => stuck "values"
  else if n = "join" then match d, ds with
    | .str s, [x] => do
      let xs ← items x
      match strsL xs with
      | some ts => .ok (.str (s.intercalate ts))
      | none => stuck "join"
    | _, _ => stuck "join"
  else if n = "split" then match d, ds with
    | .str s, [.str t] => if t = "" then stuck "split" else .ok (.lst .o ((s.splitOn t).map D.str))
    | _, _ => stuck "split"
  else if n = "strip" then match d, ds with
    | .str s, [.str t] => .ok (.str (String.ofList ((s.toList.dropWhile fun c => t.toList.contains c).reverse.dropWhile fun c => t.toList.contains c).reverse))
    | _, _ => stuck "strip"
  else if n = "startswith" then match d, ds with
    | .str s, [.str t] => .ok (.bl (t.toList.isPrefixOf s.toList))
    | _, _ => stuck "startswith"
  else if n = "endswith" then match d, ds with
    | .str s, [.str t] => .ok (.bl (t.toList.isSuffixOf s.toList))
    | _, _ => stuck "endswith"
  else if n = "replace" then match d, ds with
    | .str s, [.str t, .str u] => .ok (.str (u.intercalate (s.splitOn t)))
    | _, _ => stuck "replace"
  else stuck ("method " ++ n)

def isOf (c : Ctx) (d : D) (n : String) : Ex Bool :=
  match d with
  | .non => .ok false
  | .bl _ => .ok (n == "bool" || n == "int")
  | .int _ => .ok (n == "int")
  | .str _ => .ok (n == "str")
  | .tup _ => .ok (n == "tuple")
  | .lst _ _ => .ok (n == "list")
  | .dic _ _ => .ok (n == "dict")
  | .obj _ k _ => .ok (c.sub k n)

def cmpD (c : Ctx) (o : Cm) (a b : D) : Ex Bool := match o with
  | .eq => if a.flat && b.flat then .ok (D.eq a b) else stuck "=="
  | .ne => if a.flat && b.flat then .ok (!D.eq a b) else stuck "!="
  | .lt => match a, b with
    | .int i, .int j => .ok (decide (i < j))
    | _, _ => stuck "<"
  | .gt => match a, b with
    | .int i, .int j => .ok (decide (j < i))
    | _, _ => stuck ">"
  | .le => match a, b with
    | .int i, .int j => .ok (decide (i ≤ j))
    | _, _ => stuck "<="
  | .ge => match a, b with
    | .int i, .int j => .ok (decide (j ≤ i))
    | _, _ => stuck ">="
  | .isin => isIn a b
  | .notin => do
    let r ← isIn a b
    .ok (!r)

/-! ### ways down -/
def getP : D → List Acc → Ex D
  | d, [] => .ok d
  | .obj _ _ fs, .fld n :: r => match getF fs n with
    | some d => getP d r
    | none => stuck ("no field " ++ n)
  | d, .at k :: r => do
    let e ← item d k
    getP e r
  | _, .fld n :: _ => stuck ("field " ++ n)
/-- change what stands there; all above it is own -/
def modP (f : D → Ex (D × D)) : D → List Acc → Ex (D × D)
  | d, [] => f d
  | .obj .o c fs, .fld n :: r => match getF fs n with
    | some d => do
      let (x, d') ← modP f d r
      .ok (x, .obj .o c (putF fs n d'))
    | none => stuck ("no field " ++ n)
  | .lst .o xs, .at (.int k) :: r => match ixN xs.length k with
    | some j => match xs[j]? with
      | some d => do
        let (x, d') ← modP f d r
        .ok (x, .lst .o (xs.set j d'))
      | none => stuck "modP"
    | none => stuck "modP: out of range"
  | .dic .o kvs, .at k :: r => if k.isKey then match look kvs k with
    | some d => do
      let (x, d') ← modP f d r
      .ok (x, .dic .o (put kvs k d'))
    | none => stuck "modP: no such key"
    else stuck "modP: no key"
  | _, _ => stuck "modP: not own"
def getS (env : Env) (i : Nat) : Ex D := match env[i]? with
  | some (some d) => .ok d
  | _ => stuck s!"no value in slot {i}"

def isPath : E → Bool
  | .var _ => true
  | .fld e _ => isPath e
  | .idx e _ => isPath e
  | _ => false
def rootOf : E → Nat
  | .var i => i
  | .fld e _ => rootOf e
  | .idx e _ => rootOf e
  | _ => 0

mutual
/-- changes nothing that stands, by its form -/
def roE : E → Bool
  | .lit _ => true
  | .var _ => true
  | .glob _ => true
  | .fld e _ => roE e
  | .idx e i => roE e && roE i
  | .slc e lo hi => roE e && roO lo && roO hi
  | .rvs e => roE e
  | .tup es => roL es
  | .lst es => roL es
  | .dic ks vs => roL ks && roL vs
  | .bin _ a b => roE a && roE b
  | .neg a => roE a
  | .notE a => roE a
  | .andE a b => roE a && roE b
  | .orE a b => roE a && roE b
  | .ite c a b => roE c && roE a && roE b
  | .cmp _ a b => roE a && roE b
  | .chain _ _ a b c => roE a && roE b && roE c
  | .isN a => roE a
  | .notN a => roE a
  | .bi _ es => roL es
  | .isi e _ => roE e
  | .meth e _ es => roE e && roL es
  | .isB a _ => roE a
  | .mmeth _ _ _ => false
  | .mcal _ _ _ => false
  | .pop _ _ => false
  | .call _ es => roL es
  | .mk _ es => roL es
  | .comp _ _ _ it cond elt => roI it && roO cond && roE elt
def roO : Option E → Bool
  | none => true
  | some e => roE e
def roL : List E → Bool
  | [] => true
  | e :: es => roE e && roL es
def roI : I → Bool
  | .val e => roE e
  | .keep e => roE e
  | .rng es => roL es
  | .enum it => roI it
  | .rvs it => roI it
  | .zip a b => roI a && roI b
end

def bindOne (t : List Nat) (one : Bool) (d : D) (env : Env) : Ex Env :=
  if one then match t with
    | [i] => if i < env.length then .ok (env.set i (some d)) else stuck "slot"
    | _ => stuck "target"
  else do
    let xs ← match d with
      | .tup xs => .ok xs
      | _ => stuck "unpack"
    if xs.length = t.length ∧ (t.all fun i => decide (i < env.length)) = true then .ok ((t.zip xs).foldl (fun e p => e.set p.1 (some p.2)) env) else stuck "unpack: length"

mutual
/-- holds a given list, dict or object -/
def D.lent : D → Bool
  | .lst f xs => f.isG || lentL xs
  | .dic f kvs => f.isG || lentK kvs
  | .obj f _ fs => f.isG || lentF fs
  | .tup xs => lentL xs
  | _ => false
def lentL : List D → Bool
  | [] => false
  | x :: xs => x.lent || lentL xs
def lentK : List (D × D) → Bool
  | [] => false
  | (_, v) :: r => v.lent || lentK r
def lentF : List (String × D) → Bool
  | [] => false
  | (_, v) :: r => v.lent || lentF r
end

/-- the slot that a way begins at -/
def pathOf (e : E) : Option Nat := if isPath e then some (rootOf e) else none
def freezeRoot (env : Env) (i : Nat) : Env := match env[i]? with
  | some (some d) => env.set i (some d.share)
  | _ => env
def ownRoots : List E → List D → List Nat
  | e :: es, d :: ds => if isPath e && d.own then rootOf e :: ownRoots es ds else ownRoots es ds
  | _, _ => []
/-- behind a call: what came back may hold what was lent -/
def settle (ro : Bool) (es : List E) (ds : List D) (r : D) (env : Env) : Ex (D × Env) :=
  match ownRoots es ds with
  | [] => .ok (r, env)
  | is => if r.lent then (if ro then stuck "lent in a read" else .ok (r, is.foldl freezeRoot env)) else .ok (r, env)

/-- a part of the value of e, taken out -/
def take (ro pk : Bool) (e : E) (x : D) (env : Env) : Ex (D × Env) :=
  if pk && isPath e then .ok (x, env)
  else if !x.own then .ok (x, env)
  else if !isPath e then .ok (x.share, env)
  else if ro then stuck "own part in a read"
  else .ok (x.share, freezeRoot env (rootOf e))

/-! ### expressions -/
abbrev Watch := List (Nat × D)
/-- what is walked stands as it stood -/
def stands (w : Watch) (env : Env) : Bool := w.all fun p => match env[p.1]? with
  | some (some d) => D.same d p.2
  | _ => false
def apartFrom (w : Watch) (is : List Nat) : Bool := w.all fun p => !is.contains p.1
/-- no error leaves -/
def calm {α : Type} (r : Ex α) : Ex α := match r with
  | .error (.exc _ _) => stuck "an error in a comprehension"
  | r => r
/-- slots forgotten -/
def wipeE (t : List Nat) (env : Env) : Env := t.foldl (fun e i => e.set i none) env
/-- .. and as they were -/
def resE (t : List Nat) (env1 env2 : Env) : Env := t.foldl (fun e i => e.set i (env1[i]?.getD none)) env2
def compLoop (w : Watch) (step : D → Env → Ex (Option D × Env)) : List D → Env → Ex (List D × Env)
  | [], env => if stands w env then .ok ([], env) else stuck "what is walked was changed"
  | x :: xs, env => if !stands w env then stuck "what is walked was changed" else do
    let (r, env1) ← step x env
    let (rs, env2) ← compLoop w step xs env1
    .ok ((match r with
      | some d => d :: rs
      | none => rs), env2)

mutual
/-- ro: nothing that stands may change; pk: the value is only looked at -/
def ev (c : Ctx) (ro pk : Bool) : E → Env → Ex (D × Env)
  | .lit d, env => .ok (d, env)
  | .var i, env => do
    let d ← getS env i
    if pk || !d.own then .ok (d, env) else if ro then stuck s!"own in a read: slot {i}" else .ok (d.share, env.set i (some d.share))
  | .glob n, env => match c.glob n with
    | some d => .ok (d, env)
    | none => stuck ("glob " ++ n)
  | .fld e n, env => do
    let (d, env1) ← ev c ro true e env
    match d with
    | .obj _ _ fs => match getF fs n with
      | some x => take ro pk e x env1
      | none => stuck ("no field " ++ n)
    | _ => stuck ("field " ++ n)
  | .idx e i, env => do
    if roE i then do
      let (d, env1) ← ev c ro true e env
      let (k, env2) ← ev c true false i env1
      let x ← item d k
      take ro pk e x env2
    else do
      let (d, env1) ← ev c ro false e env
      let (k, env2) ← ev c ro false i env1
      let x ← item d k
      .ok (x.share, env2)
  | .slc e lo hi, env => do
    let (d, env1) ← ev c ro true e env
    let (l, env2) ← evO c lo env1
    let (h, env3) ← evO c hi env2
    match d with
    | .lst _ xs => if xs.any D.own then stuck "slice: own items" else .ok (.lst .o (cut xs l h), env3)
    | .tup xs => .ok (.tup (cut xs l h), env3)
    | .str s => if s.length ≤ line then .ok (.str (String.ofList (cut s.toList l h)), env3) else stuck "slice: long"
    | _ => stuck "slice"
  | .rvs e, env => do
    let (d, env1) ← ev c ro true e env
    match d with
    | .lst _ xs => if xs.any D.own then stuck "slice: own items" else .ok (.lst .o xs.reverse, env1)
    | .tup xs => .ok (.tup xs.reverse, env1)
    | .str s => .ok (.str (String.ofList s.toList.reverse), env1)
    | _ => stuck "slice"
  | .tup es, env => do
    let (ds, env1) ← evs c ro false es env
    .ok (.tup (shareL ds), env1)
  | .lst es, env => do
    let (ds, env1) ← evs c ro false es env
    .ok (.lst .o ds, env1)
  | .dic ks vs, env => do
    let (kds, env1) ← evs c ro false ks env
    let (vds, env2) ← evs c ro false vs env1
    if kds.all D.isKey then .ok (.dic .o (putAll [] (kds.zip vds)), env2) else stuck "dict: keys"
  | .bin o a b, env => do
    let m := roE b
    let (x, env1) ← ev c ro m a env
    let (y, env2) ← ev c (ro || m) m b env1
    let r ← binop o x y
    .ok (r, env2)
  | .neg a, env => do
    let (x, env1) ← ev c ro true a env
    match x with
    | .int i => .ok (.int (-i), env1)
    | _ => stuck "neg"
  | .notE a, env => do
    let (x, env1) ← ev c ro true a env
    let t ← truth x
    .ok (.bl (!t), env1)
  | .andE a b, env => do
    let (x, env1) ← ev c ro false a env
    let t ← truth x
    if t then ev c ro false b env1 else .ok (x, env1)
  | .orE a b, env => do
    let (x, env1) ← ev c ro false a env
    let t ← truth x
    if t then .ok (x, env1) else ev c ro false b env1
  | .ite t a b, env => do
    let (x, env1) ← ev c ro true t env
    let t ← truth x
    if t then ev c ro false a env1 else ev c ro false b env1
  | .cmp o a b, env => do
    let m := roE b
    let (x, env1) ← ev c ro m a env
    let (y, env2) ← ev c (ro || m) m b env1
    let r ← cmpD c o x y
    .ok (.bl r, env2)
  | .chain o1 o2 a b e, env => do
    let m := roE b && roE e
    let (x, env1) ← ev c ro m a env
    let (y, env2) ← ev c (ro || m) m b env1
    let r ← cmpD c o1 x y
    if r then do
      let (z, env3) ← ev c (ro || m) m e env2
      let r2 ← cmpD c o2 y z
      .ok (.bl r2, env3)
    else .ok (.bl false, env2)
  | .isN a, env => do
    let (x, env1) ← ev c ro true a env
    .ok (.bl x.isNone, env1)
  | .notN a, env => do
    let (x, env1) ← ev c ro true a env
    .ok (.bl (!x.isNone), env1)
  | .bi n es, env => do
    let m := roL es
    let (ds, env1) ← evs c (ro || m) m es env
    let r ← builtin n ds
    .ok (r, env1)
  | .isi e cs, env => do
    let (x, env1) ← ev c ro true e env
    let bs ← cs.mapM (isOf c x)
    .ok (.bl (bs.any id), env1)
  | .meth e n es, env => do
    let m := roL es
    let (x, env1) ← ev c ro m e env
    let (ds, env2) ← evs c (ro || m) m es env1
    match x with
    | .obj _ k _ => do
      let (r, _) ← c.mcall k n x.lend (lendL ds)
      settle ro (e :: es) (x :: ds) r env2
    | _ => do
      let r ← bmeth n x ds
      .ok (r, env2)
  | .isB a b, env => do
    let (x, env1) ← ev c ro true a env
    .ok (.bl (match x with
      | .bl k => k == b
      | _ => false), env1)
  | .mmeth i n es, env => do
    if ro then stuck "mmeth in a read" else
    let m := roL es
    let (ds, env1) ← evs c m m es env
    let x ← getS env1 i
    match x with
    | .obj .o k _ => do
      let (r, x') ← c.mcall k n x.lower (lendL ds)
      let env2 := env1.set i (some x')
      settle false es ds r env2
    | _ => stuck "mmeth: not own"
  | .mcal i f es, env => do
    if ro then stuck "mcal in a read" else
    let m := roL es
    let (ds, env1) ← evs c m m es env
    let x ← getS env1 i
    if x.own then do
      let (r, x') ← c.icall f x.lower (lendL ds)
      let env2 := env1.set i (some x')
      settle false es ds r env2
    else stuck "mcal: not own"
  | .pop p es, env => do
    if ro then stuck "pop in a read" else
    let (ds, env1) ← evs c true false es env
    let (i, as) ← resolve c p env1
    let d ← getS env1 i
    let (x, d') ← modP (fun t => match t with
      | .lst .o xs => match ds with
        | [] => match xs.getLast? with
          | some y => .ok (y, .lst .o xs.dropLast)
          | none => stuck "pop: empty"
        | [.int k] => match ixN xs.length k with
          | some j => match xs[j]? with
            | some y => .ok (y, .lst .o (xs.eraseIdx j))
            | none => stuck "pop"
          | none => stuck "pop"
        | _ => stuck "pop"
      | _ => stuck "pop: not own") d as
    .ok (x, env1.set i (some d'))
  | .call f es, env => do
    let m := roL es
    let (ds, env1) ← evs c (ro || m) m es env
    let r ← c.call f (lendL ds)
    settle ro es ds r env1
  | .mk k es, env => do
    let m := roL es
    let (ds, env1) ← evs c (ro || m) m es env
    let r ← c.make k (lendL ds)
    settle ro es ds r env1
  | .comp keep t one it cond elt, env => do
    let (xs, w, env1) ← evI c ro it env
    if (!apartFrom w t || decide (xs.length > line)) = true then stuck "what is walked is bound, or long" else do
    let (rs, env2) ← calm (compLoop w (fun x e0 => do
      let e1 ← bindOne t one x e0
      let (b, e2) ← evO' c ro cond e1
      if b then do
        let (d, e3) ← ev c ro false elt e2
        .ok (some (if keep then d else d.share), wipeE t e3)
      else .ok (none, wipeE t e2)) xs (wipeE t env1))
    .ok (.lst .o rs, resE t env1 env2)
def evO (c : Ctx) : Option E → Env → Ex (Option Int × Env)
  | none, env => .ok (none, env)
  | some e, env => do
    let (d, env1) ← ev c true false e env
    match d with
    | .int i => .ok (some i, env1)
    | _ => stuck "slice's end"
/-- a condition that may lack -/
def evO' (c : Ctx) (ro : Bool) : Option E → Env → Ex (Bool × Env)
  | none, env => .ok (true, env)
  | some e, env => do
    let (d, env1) ← ev c ro true e env
    let t ← truth d
    .ok (t, env1)
def evs (c : Ctx) (ro pk : Bool) : List E → Env → Ex (List D × Env)
  | [], env => .ok ([], env)
  | e :: es, env => do
    let (d, env1) ← ev c ro pk e env
    let (ds, env2) ← evs c ro pk es env1
    .ok (d :: ds, env2)
def evI (c : Ctx) (ro : Bool) : I → Env → Ex (List D × Watch × Env)
  | .val e, env => do
    let (d, env1) ← ev c ro true e env
    let xs ← items d
    if !d.own then .ok (xs, [], env1)
    else if !isPath e then .ok (shareL xs, [], env1)
    else match e, d with
      | .var i, .lst _ _ =>
        if !xs.any D.own then .ok (xs, [(i, d)], env1)
        else if ro then stuck "own items in a read" else .ok (shareL xs, [], freezeRoot env1 i)
      | _, _ => if ro then stuck "own things walked in a read" else .ok (shareL xs, [], freezeRoot env1 (rootOf e))
  | .keep e, env => do
    let (d, env1) ← ev c ro false e env
    let xs ← items d
    .ok (shareL xs, [], env1)
  | .rng es, env => do
    let (ds, env1) ← evs c ro false es env
    match ds with
    | [.int j] => if isRg j then .ok (rangeL 0 j.toNat, [], env1) else stuck "range"
    | [.int i, .int j] => if isRg i && isRg j then .ok (rangeL i (j - i).toNat, [], env1) else stuck "range"
    | _ => stuck "range"
  | .enum it, env => do
    let (xs, w, env1) ← evI c ro it env
    .ok (number 0 xs, w, env1)
  | .rvs it, env => do
    let (xs, w, env1) ← evI c ro it env
    .ok (xs.reverse, w, env1)
  | .zip a b, env => do
    let (xs, w, env1) ← evI c ro a env
    let (ys, v, env2) ← evI c ro b env1
    .ok (zipD xs ys, w ++ v, env2)
def resolve (c : Ctx) : E → Env → Ex (Nat × List Acc)
  | .var i, _ => .ok (i, [])
  | .fld e n, env => do
    let (i, as) ← resolve c e env
    .ok (i, as ++ [.fld n])
  | .idx e k, env => do
    let (i, as) ← resolve c e env
    let (d, _) ← ev c true false k env
    .ok (i, as ++ [.at d])
  | _, _ => stuck "no path"
end

/-! ### statements -/
def storeAt (d i v : D) : Ex (D × D) := match d, i with
  | .lst .o xs, .int k => match ixN xs.length k with
    | some j => .ok (.non, .lst .o (xs.set j v))
    | none => stuck "store: out of range"
  | .dic .o kvs, k => if k.isKey then .ok (.non, .dic .o (put kvs k v)) else stuck "store: no key"
  | _, _ => stuck "store: not own"
def setTg (c : Ctx) (t : Tg) (v : D) (env : Env) : Ex Env := match t with
  | .var i => bindOne [i] true v env
  | .tup is => bindOne is false v env
  | .idx keep p i => do
    let (s, as) ← resolve c p env
    let (k, _) ← ev c true false i env
    let d ← getS env s
    let (_, d') ← modP (fun t => storeAt t k (if keep then v else v.share)) d as
    .ok (env.set s (some d'))
  | .fld p n => do
    let (s, as) ← resolve c p env
    let d ← getS env s
    let (_, d') ← modP (fun t => match t with
      | .obj .o k fs => if (c.flds k).contains n then .ok (.non, .obj .o k (putF fs n v)) else stuck "field"
      | _ => stuck "field: not own") d as
    .ok (env.set s (some d'))
def mutate (n : String) (ds : List D) (t : D) : Ex (D × D) :=
  if n = "append" then match t, ds with
    | .lst .o xs, [d] => if xs.length < line then .ok (.non, .lst .o (xs ++ [d])) else stuck "append: long"
    | _, _ => stuck "append: not own"
  else if n = "extend" then match t, ds with
    | .lst .o xs, [.lst f ys] => if f ≠ .k ∧ xs.length + ys.length ≤ line then .ok (.non, .lst .o (xs ++ ys)) else stuck "extend: long"
    | _, _ => stuck "extend: not own"
  else if n = "insert" then match t, ds with
    | .lst .o xs, [.int k, d] => .ok (.non, .lst .o (xs.take (sIx xs.length 0 (some k)) ++ d :: xs.drop (sIx xs.length 0 (some k))))
    | _, _ => stuck "insert: not own"
  else if n = "reverse" then match t, ds with
    | .lst .o xs, [] => .ok (.non, .lst .o xs.reverse)
    | _, _ => stuck "reverse: not own"
  else if n = "update" then match t, ds with
    | .dic .o kvs, [.dic _ more] => .ok (.non, .dic .o (putAll kvs more))
    | _, _ => stuck "update: not own"
  else stuck ("mutate " ++ n)
/-- of the type that has the method -/
def listy (n : String) (d : D) : Bool := match d with
  | .lst _ _ => n != "update"
  | .dic _ _ => n == "update"
  | _ => false
/-- x op= y of what is not changed in place -/
def augop (o : Op) (x y : D) : Ex D := match o, x, y with
  | .add, .int i, .int j => .ok (.int (i + j))
  | .sub, .int i, .int j => .ok (.int (i - j))
  | .mul, .int i, .int j => binop .mul (.int i) (.int j)
  | .add, .str a, .str b => binop .add (.str a) (.str b)
  | _, _, _ => stuck "aug"
def forLoop (w : Watch) (step : D → Env → Ex (Fl × Env)) : List D → Env → Ex (Fl × Env)
  | [], env => if stands w env then .ok (.nx, env) else stuck "what is walked was changed"
  | x :: xs, env => if !stands w env then stuck "what is walked was changed" else do
    let (f, env1) ← step x env
    match f with
    | .nx => forLoop w step xs env1
    | .cnt => forLoop w step xs env1
    | .brk => .ok (.nx, env1)
    | .ret d => .ok (.ret d, env1)
def whileLoop (test : Env → Ex (Bool × Env)) (step : Env → Ex (Fl × Env)) : Nat → Env → Ex (Fl × Env)
  | 0, _ => stuck "fuel"
  | n + 1, env => do
    let (t, env0) ← test env
    if t then do
      let (f, env1) ← step env0
      match f with
      | .nx => whileLoop test step n env1
      | .cnt => whileLoop test step n env1
      | .brk => .ok (.nx, env1)
      | .ret d => .ok (.ret d, env1)
    else .ok (.nx, env0)

mutual
/-- slots that are bound -/
def asgS : S → List Nat
  | .asg (.var i) _ => [i]
  | .asg (.tup is) _ => is
  | .aug (.var i) _ _ => [i]
  | .ifS _ a b => asgSs a ++ asgSs b
  | .forS (.var i) _ b => i :: asgSs b
  | .forS (.tup is) _ b => is ++ asgSs b
  | .whl _ b => asgSs b
  | .tryS b _ (some i) h => i :: asgSs b ++ asgSs h
  | .tryS b _ none h => asgSs b ++ asgSs h
  | _ => []
def asgSs : List S → List Nat
  | [] => []
  | s :: r => asgS s ++ asgSs r
end

mutual
def exec (c : Ctx) : S → Env → Ex (Fl × Env)
  | .asg t e, env => do
    let (d, env1) ← ev c false false e env
    let env2 ← setTg c t d env1
    .ok (.nx, env2)
  | .aug t o e, env => match t with
    | .var i => do
      let x ← getS env i
      let (y, env1) ← ev c true true e env
      let r ← augop o x y
      let env2 ← bindOne [i] true r env1
      .ok (.nx, env2)
    | .idx _ p i => do
      let (x, env1) ← ev c true true (.idx p i) env
      let (y, env2) ← ev c true true e env1
      let r ← augop o x y
      let env3 ← setTg c t r env2
      .ok (.nx, env3)
    | .fld p n => do
      let (x, env1) ← ev c true true (.fld p n) env
      let (y, env2) ← ev c true true e env1
      let r ← augop o x y
      let env3 ← setTg c t r env2
      .ok (.nx, env3)
    | .tup _ => stuck "aug"
  | .ex e, env => do
    let (_, env1) ← ev c false true e env
    .ok (.nx, env1)
  | .mut keep n p es, env => do
    let (t0, _) ← ev c true true p env
    if !listy n t0 then stuck "mut: no list" else do
    let (ds, env1) ← evs c false false es env
    let (s, as) ← resolve c p env1
    let d ← getS env1 s
    let (_, d') ← modP (mutate n (if keep then ds else shareL ds)) d as
    .ok (.nx, env1.set s (some d'))
  | .del p i, env => do
    let (s, as) ← resolve c p env
    let (k, _) ← ev c true false i env
    let d ← getS env s
    let (_, d') ← modP (fun t => match t with
      | .dic .o kvs => if k.isKey && has kvs k then .ok (.non, .dic .o (drop kvs k)) else stuck "del"
      | _ => stuck "del: not own") d as
    .ok (.nx, env.set s (some d'))
  | .ret e, env => do
    let (d, env1) ← ev c false false e env
    .ok (.ret d, env1)
  | .ifS t a b, env => do
    let (x, env1) ← ev c false true t env
    let r ← truth x
    if r then execs c a env1 else execs c b env1
  | .forS t it body, env => do
    let (xs, w, env1) ← evI c false it env
    if !apartFrom w (asgS (.forS t it body)) then stuck "what is walked is bound" else
    forLoop w (fun x e0 => do
      let e1 ← setTg c t x e0
      execs c body e1) xs env1
  | .whl t body, env =>
    whileLoop (fun e0 => do
      let (x, e1) ← ev c false true t e0
      let r ← truth x
      .ok (r, e1)) (fun e0 => execs c body e0) c.fuel env
  | .brk, env => .ok (.brk, env)
  | .cnt, env => .ok (.cnt, env)
  | .pass, env => .ok (.nx, env)
  | .raise k es, env => do
    let (ds, _) ← evs c false false es env
    .error (.exc k ((c.efields k).zip (shareL ds)))
  | .tryS body k slot handler, env =>
    let env0 : Env := env.map fun o => o.map D.share
    match execs c body env0 with
    | .ok r => .ok r
    | .error (.exc n fs) =>
      if c.sub n k then
        let env1 : Env := (asgSs body).foldl (fun e i => e.set i none) env0
        match slot with
        | some i => do
          let (f, env2) ← execs c handler (env1.set i (some (.obj .s n fs)))
          .ok (f, env2.set i none)
        | none => execs c handler env1
      else .error (.exc n fs)
    | .error e => .error e
def execs (c : Ctx) : List S → Env → Ex (Fl × Env)
  | [], env => .ok (.nx, env)
  | s :: r, env => do
    let (f, env1) ← exec c s env
    match f with
    | .nx => execs c r env1
    | _ => .ok (f, env1)
end

/-! ### the program -/
structure Fn where
  np : Nat
  ns : Nat
  body : List S
structure Cl where
  base : List String            -- itself and all above it
  fields : List String := []    -- of an error: its parameters; else the fields of its instances
  init : Option Fn := none
  meths : List (String × Fn) := []
structure Prog where
  fns : List (String × Fn)
  cls : List (String × Cl)
  globs : List (String × D)

/-- a def's run: what comes back, the slots behind it -/
def runFn (c : Ctx) (f : Fn) (ds : List D) : Ex (D × Env) :=
  if ds.length = f.np then do
    let (fl, env) ← execs c f.body (ds.map some ++ List.replicate (f.ns - f.np) none)
    match fl with
    | .ret d => .ok (d, env)
    | .nx => .ok (.non, env)
    | _ => stuck "flow"
  else stuck "arguments"
/-- .. that changes its first argument -/
def runFnI (c : Ctx) (f : Fn) (s : D) (ds : List D) : Ex (D × D) :=
  if (asgSs f.body).contains 0 then stuck "the first argument is bound" else do
    let (r, env) ← runFn c f (s :: ds)
    let s' ← getS env 0
    .ok (r, s')

def ctx0 (P : Prog) (fuel : Nat) : Ctx where
  call := fun _ _ => stuck "depth"
  mcall := fun _ _ _ _ => stuck "depth"
  icall := fun _ _ _ => stuck "depth"
  make := fun _ _ => stuck "depth"
  glob := (P.globs.lookup ·)
  sub := fun a b => match P.cls.lookup a with
    | some k => k.base.contains b
    | none => false
  efields := fun k => ((P.cls.lookup k).map Cl.fields).getD []
  flds := fun k => ((P.cls.lookup k).map Cl.fields).getD []
  fuel := fuel
def ctxS (P : Prog) (c : Ctx) : Ctx :=
  { c with
    call := fun f ds => match P.fns.lookup f with
      | some fn => do
        let (r, _) ← runFn c fn ds
        .ok r
      | none => stuck ("no def " ++ f)
    mcall := fun k m s ds => match P.cls.lookup k with
      | some cl => match cl.meths.lookup m with
        | some fn => runFnI c fn s ds
        | none => stuck ("no method " ++ m)
      | none => stuck ("no class " ++ k)
    icall := fun f s ds => match P.fns.lookup f with
      | some fn => runFnI c fn s ds
      | none => stuck ("no def " ++ f)
    make := fun k ds => match P.cls.lookup k with
      | some cl => match cl.init with
        | some fn => do
          let (_, s') ← runFnI c fn (.obj .o k []) ds
          .ok s'
        | none => if cl.base.contains "BaseException" then .ok (.obj .s k (cl.fields.zip ds)) else .ok (.obj .o k [])
      | none => stuck ("no class " ++ k) }
def ctx (P : Prog) (fuel : Nat) : Nat → Ctx
  | 0 => ctx0 P fuel
  | n + 1 => ctxS P (ctx P fuel n)

def runLaw (P : Prog) (fuel depth : Nat) (script : List Int) : Ex D :=
  (ctx P fuel (depth + 1)).call "law" [.lst .k (script.map D.int)]

end Lz
end

section
set_option maxRecDepth 100000
/-! How the small interpreter's data lie in the abstract heap of the hand layer. -/
namespace Lz
open PySem PySem.Spec PyProof.Rows L2

/-- the object at a is this very one -/
def pin (a : Addr) (o : Obj) : HO := .ext fun h => h.get? a = some o

mutual
/-- data as a key -/
def toNK : D → Option NestedKey
  | .non => some .none
  | .bl b => some (.num (if b = true then 1 else 0))
  | .int i => some (.num i)
  | .str s => some (.text (Str.ofString s))
  | .tup xs => (toNKs xs).map NestedKey.tup
  | _ => none
def toNKs : List D → Option (List NestedKey)
  | [] => some []
  | x :: xs => match toNK x, toNKs xs with
    | some k, some ks => some (k :: ks)
    | _, _ => none
end

/-- a dict's object by its keys and values -/
def DictObj (w : World) (o : Obj) (ts : List (NestedKey × V × V)) : Prop :=
  o.ExactDict ∧ ∃ es ep, o.data = .dict es ep ∧ (ts.map (·.1)).Nodup ∧ ts.length ≤ sizeLine ∧
    Paired (fun (t : NestedKey × V × V) (e : DictEntry) => e.hash = t.1.hash w ∧ RelV t.2.1 e.key ∧ RelV t.2.2 e.val) ts es.toList

/-- what is fixed: the text, its world, the classes' addresses -/
structure Gm where
  P : Program
  w : World
  K : PySem.W.Frag
  mg : Str → Option Value
  base : Heap
  cA : String → Option Addr
  flds : String → List String

/-- the activation's own: what it may own (N), what was frozen at its start (S0), the heap then (E0) -/
structure Ac where
  N : Addr → Prop
  S0 : Addr → Prop
  E0 : Hp

/-- a list of the text or the script -/
def SqK (K : PySem.W.Frag) (H : Hp) (a : Addr) (xs : List V) : Prop :=
  (∃ ob, H a = some (.frz ob (.lst xs))) ∨
    ∃ (o : Obj) (its : Array Value) (n : Nat), K.lookup a = some o ∧ o.cls = .type "list" ∧ o.dict = none ∧ o.data = .seq its n ∧ its.size ≤ sizeLine ∧ Vals xs its.toList
theorem SqK.seq {K : PySem.W.Frag} {H : Hp} {a : Addr} {xs : List V} (h : SqK K H a xs) : SqL K H a xs := by
  rcases h with ⟨o, h⟩ | h
  · exact .inl (.inr ⟨o, h⟩)
  · exact .inr h

mutual
/-- the value v is the data d; F: the addresses of its own things -/
inductive Rep (Γ : Gm) (N S : Addr → Prop) (H : Hp) : D → V → List Addr → Prop
  | non : Rep Γ N S H .non .non []
  | bl (b : Bool) : Rep Γ N S H (.bl b) (.bl b) []
  | int (i : Int) : Rep Γ N S H (.int i) (.int i) []
  | str (s : String) : Rep Γ N S H (.str s) (.str (Str.ofString s)) []
  | tup {ds : List D} {a : Addr} {vs : List V} : SqT Γ.K H a vs → RepL Γ N S H ds vs [] → Rep Γ N S H (.tup ds) (.ref a) []
  | lstO {ds : List D} {a : Addr} {vs : List V} {F : List Addr} : H a = some (.lst vs) → RepL Γ N S H ds vs F → Rep Γ N S H (.lst .o ds) (.ref a) (a :: F)
  | lstS {ds : List D} {a : Addr} {vs : List V} : H a = some (.lst vs) → S a → N a → RepL Γ N S H ds vs [] → Rep Γ N S H (.lst .s ds) (.ref a) []
  | lstG {ds : List D} {a : Addr} {vs : List V} : H a = some (.lst vs) → S a → RepL Γ N S H ds vs [] → Rep Γ N S H (.lst .g ds) (.ref a) []
  | lstK {ds : List D} {a : Addr} {vs : List V} : SqK Γ.K H a vs → RepL Γ N S H ds vs [] → Rep Γ N S H (.lst .k ds) (.ref a) []
  | dicO {kvs : List (D × D)} {a : Addr} {o : Obj} {ts : List (NestedKey × V × V)} {F : List Addr} : H a = some (pin a o) → DictObj Γ.w o ts → (a == sysModules) = false → RepK Γ N S H kvs ts F → Rep Γ N S H (.dic .o kvs) (.ref a) (a :: F)
  | dicS {kvs : List (D × D)} {a : Addr} {o : Obj} {ts : List (NestedKey × V × V)} : H a = some (pin a o) → DictObj Γ.w o ts → (a == sysModules) = false → S a → N a → RepK Γ N S H kvs ts [] → Rep Γ N S H (.dic .s kvs) (.ref a) []
  | dicG {kvs : List (D × D)} {a : Addr} {o : Obj} {ts : List (NestedKey × V × V)} : H a = some (pin a o) → DictObj Γ.w o ts → (a == sysModules) = false → S a → RepK Γ N S H kvs ts [] → Rep Γ N S H (.dic .g kvs) (.ref a) []
  | objO {c : String} {fs : List (String × D)} {a C dx : Addr} {gs : List (Str × V)} {F : List Addr} : H a = some (.ins C dx gs) → Γ.cA c = some C → RepF Γ N S H (Γ.flds c) fs gs F → Rep Γ N S H (.obj .o c fs) (.ref a) (a :: F)
  | objS {c : String} {fs : List (String × D)} {a C dx : Addr} {gs : List (Str × V)} : H a = some (.ins C dx gs) → Γ.cA c = some C → S a → N a → RepF Γ N S H (Γ.flds c) fs gs [] → Rep Γ N S H (.obj .s c fs) (.ref a) []
  | objG {c : String} {fs : List (String × D)} {a C dx : Addr} {gs : List (Str × V)} : H a = some (.ins C dx gs) → Γ.cA c = some C → S a → RepF Γ N S H (Γ.flds c) fs gs [] → Rep Γ N S H (.obj .g c fs) (.ref a) []
inductive RepL (Γ : Gm) (N S : Addr → Prop) (H : Hp) : List D → List V → List Addr → Prop
  | nil : RepL Γ N S H [] [] []
  | cons {d : D} {v : V} {F : List Addr} {ds : List D} {vs : List V} {G : List Addr} : Rep Γ N S H d v F → RepL Γ N S H ds vs G → RepL Γ N S H (d :: ds) (v :: vs) (F ++ G)
inductive RepK (Γ : Gm) (N S : Addr → Prop) (H : Hp) : List (D × D) → List (NestedKey × V × V) → List Addr → Prop
  | nil : RepK Γ N S H [] [] []
  | cons {k : D} {nk : NestedKey} {kv : V} {d : D} {v : V} {F : List Addr} {ds : List (D × D)} {ts : List (NestedKey × V × V)} {G : List Addr} : toNK k = some nk → nk.depth ≤ 8 → Rep Γ N S H k kv [] → Rep Γ N S H d v F → RepK Γ N S H ds ts G → RepK Γ N S H ((k, d) :: ds) ((nk, kv, v) :: ts) (F ++ G)
inductive RepF (Γ : Gm) (N S : Addr → Prop) (H : Hp) : List String → List (String × D) → List (Str × V) → List Addr → Prop
  | nil {fl : List String} : RepF Γ N S H fl [] [] []
  | cons {fl : List String} {n : String} {d : D} {v : V} {F : List Addr} {ds : List (String × D)} {gs : List (Str × V)} {G : List Addr} : n ∈ fl → Rep Γ N S H d v F → RepF Γ N S H fl ds gs G → RepF Γ N S H fl ((n, d) :: ds) ((Str.ofString n, v) :: gs) (F ++ G)
end

/-- what a description leans on stands -/
def Stay (S : Addr → Prop) (F : List Addr) (H H' : Hp) : Prop := ∀ a o, H a = some o → (S a ∨ a ∈ F ∨ ¬ Mut (some o)) → H' a = some o

section
variable {Γ : Gm} {N N' S S' : Addr → Prop} {H H' : Hp} {F G : List Addr} {a : Addr}
theorem Stay.sub {F G : List Addr} (s : Stay S F H H') (h : ∀ a ∈ G, a ∈ F) : Stay S G H H' := fun a o e c =>
  s a o e (c.elim .inl fun c => .inr (c.elim (fun c => .inl (h a c)) .inr))
theorem nm_tup {vs : List V} : ¬ Mut (some (HO.tup vs)) := fun h => h
theorem nm_frz {o : Obj} {u : HO} : ¬ Mut (some (HO.frz o u)) := fun h => h
theorem sqT_stay {K : PySem.W.Frag} {vs : List V} (h : SqT K H a vs) (s : Stay S F H H') : SqT K H' a vs := by
  rcases h with (h | ⟨o, h⟩) | h
  · exact .inl (.inl (s _ _ h (.inr (.inr nm_tup))))
  · exact .inl (.inr ⟨o, s _ _ h (.inr (.inr nm_frz))⟩)
  · exact .inr h

theorem sqK_stay {K : PySem.W.Frag} {vs : List V} (h : SqK K H a vs) (s : Stay S F H H') : SqK K H' a vs := by
  rcases h with ⟨o, h⟩ | h
  · exact .inl ⟨o, s _ _ h (.inr (.inr nm_frz))⟩
  · exact .inr h

mutual
theorem Rep.stay : ∀ (d : D) (v : V) (F : List Addr), Rep Γ N S H d v F → Stay S F H H' → (∀ a, S a → S' a) → (∀ a, N a → N' a) → Rep Γ N' S' H' d v F
  | .non, _, _, h, _, _, _ => by cases h; exact .non
  | .bl b, _, _, h, _, _, _ => by cases h; exact .bl b
  | .int i, _, _, h, _, _, _ => by cases h; exact .int i
  | .str x, _, _, h, _, _, _ => by cases h; exact .str x
  | .tup ds, _, _, h, s, hs, hn => by
    cases h with
    | tup h1 h2 => exact .tup (sqT_stay h1 s) (RepL.stay ds _ _ h2 s hs hn)
  | .lst .o ds, _, _, h, s, hs, hn => by
    cases h with
    | lstO h1 h2 => exact .lstO (s _ _ h1 (.inr (.inl List.mem_cons_self))) (RepL.stay ds _ _ h2 (s.sub fun _ => List.mem_cons_of_mem _) hs hn)
  | .lst .s ds, _, _, h, s, hs, hn => by
    cases h with
    | lstS h1 h2 h3 h4 => exact .lstS (s _ _ h1 (.inl h2)) (hs _ h2) (hn _ h3) (RepL.stay ds _ _ h4 s hs hn)
  | .lst .g ds, _, _, h, s, hs, hn => by
    cases h with
    | lstG h1 h2 h4 => exact .lstG (s _ _ h1 (.inl h2)) (hs _ h2) (RepL.stay ds _ _ h4 s hs hn)
  | .lst .k ds, _, _, h, s, hs, hn => by
    cases h with
    | lstK h1 h4 => exact .lstK (sqK_stay h1 s) (RepL.stay ds _ _ h4 s hs hn)
  | .dic .o ds, _, _, h, s, hs, hn => by
    cases h with
    | dicO h1 h2 h3 h4 => exact .dicO (s _ _ h1 (.inr (.inl List.mem_cons_self))) h2 h3 (RepK.stay ds _ _ h4 (s.sub fun _ => List.mem_cons_of_mem _) hs hn)
  | .dic .s ds, _, _, h, s, hs, hn => by
    cases h with
    | dicS h1 h2 h3 h4 h5 h6 => exact .dicS (s _ _ h1 (.inl h4)) h2 h3 (hs _ h4) (hn _ h5) (RepK.stay ds _ _ h6 s hs hn)
  | .dic .g ds, _, _, h, s, hs, hn => by
    cases h with
    | dicG h1 h2 h3 h4 h6 => exact .dicG (s _ _ h1 (.inl h4)) h2 h3 (hs _ h4) (RepK.stay ds _ _ h6 s hs hn)
  | .dic .k ds, _, _, h, _, _, _ => by cases h
  | .obj .o c ds, _, _, h, s, hs, hn => by
    cases h with
    | objO h1 h2 h4 => exact .objO (s _ _ h1 (.inr (.inl List.mem_cons_self))) h2 (RepF.stay ds _ _ _ h4 (s.sub fun _ => List.mem_cons_of_mem _) hs hn)
  | .obj .s c ds, _, _, h, s, hs, hn => by
    cases h with
    | objS h1 h2 h4 h5 h6 => exact .objS (s _ _ h1 (.inl h4)) h2 (hs _ h4) (hn _ h5) (RepF.stay ds _ _ _ h6 s hs hn)
  | .obj .g c ds, _, _, h, s, hs, hn => by
    cases h with
    | objG h1 h2 h4 h6 => exact .objG (s _ _ h1 (.inl h4)) h2 (hs _ h4) (RepF.stay ds _ _ _ h6 s hs hn)
  | .obj .k c ds, _, _, h, _, _, _ => by cases h
theorem RepL.stay : ∀ (ds : List D) (vs : List V) (F : List Addr), RepL Γ N S H ds vs F → Stay S F H H' → (∀ a, S a → S' a) → (∀ a, N a → N' a) → RepL Γ N' S' H' ds vs F
  | [], _, _, h, _, _, _ => by cases h; exact .nil
  | d :: ds, _, _, h, s, hs, hn => by
    cases h with
    | cons h1 h2 => exact .cons (Rep.stay d _ _ h1 (s.sub fun _ => List.mem_append_left _) hs hn) (RepL.stay ds _ _ h2 (s.sub fun _ => List.mem_append_right _) hs hn)
theorem RepK.stay : ∀ (ds : List (D × D)) (ts : List (NestedKey × V × V)) (F : List Addr), RepK Γ N S H ds ts F → Stay S F H H' → (∀ a, S a → S' a) → (∀ a, N a → N' a) → RepK Γ N' S' H' ds ts F
  | [], _, _, h, _, _, _ => by cases h; exact .nil
  | (k, d) :: ds, _, _, h, s, hs, hn => by
    cases h with
    | cons h1 h2 h3 h4 h5 => exact .cons h1 h2 (Rep.stay k _ _ h3 (s.sub fun _ z => nomatch z) hs hn) (Rep.stay d _ _ h4 (s.sub fun _ => List.mem_append_left _) hs hn) (RepK.stay ds _ _ h5 (s.sub fun _ => List.mem_append_right _) hs hn)
theorem RepF.stay : ∀ (ds : List (String × D)) (fl : List String) (gs : List (Str × V)) (F : List Addr), RepF Γ N S H fl ds gs F → Stay S F H H' → (∀ a, S a → S' a) → (∀ a, N a → N' a) → RepF Γ N' S' H' fl ds gs F
  | [], _, _, _, h, _, _, _ => by cases h; exact .nil
  | (n, d) :: ds, _, _, _, h, s, hs, hn => by
    cases h with
    | cons h1 h2 h3 => exact .cons h1 (Rep.stay d _ _ h2 (s.sub fun _ => List.mem_append_left _) hs hn) (RepF.stay ds _ _ _ h3 (s.sub fun _ => List.mem_append_right _) hs hn)
end
end
end Lz
end

section
set_option maxRecDepth 100000
namespace Lz
open PySem PySem.Spec PyProof.Rows L2

section
variable {Γ : Gm} {N N' S S' : Addr → Prop} {H H' : Hp} {F G : List Addr} {a : Addr}

theorem nil_of_append {α : Type} {a b : List α} (h : a ++ b = []) : a = [] ∧ b = [] := List.append_eq_nil_iff.mp h

/-! ### flags changed -/
mutual
theorem toNK_fl (m : Fg → Fg) : ∀ d : D, toNK (d.fl m) = toNK d
  | .non => rfl
  | .bl b => rfl
  | .int i => rfl
  | .str x => rfl
  | .tup ds => by simp only [D.fl, toNK, toNKs_fl m ds]
  | .lst f ds => rfl
  | .dic f ds => rfl
  | .obj f c ds => rfl
theorem toNKs_fl (m : Fg → Fg) : ∀ ds : List D, toNKs (flL m ds) = toNKs ds
  | [] => rfl
  | d :: ds => by simp only [flL, toNKs, toNK_fl m d, toNKs_fl m ds]
end
mutual
theorem Rep.share : ∀ (d : D) (v : V) (F : List Addr), Rep Γ N S H d v F → (∀ a, S a → S' a) → (∀ a ∈ F, S' a ∧ N a) → Rep Γ N S' H d.share v []
  | .non, _, _, h, _, _ => by cases h; exact .non
  | .bl b, _, _, h, _, _ => by cases h; exact .bl b
  | .int i, _, _, h, _, _ => by cases h; exact .int i
  | .str x, _, _, h, _, _ => by cases h; exact .str x
  | .tup ds, _, _, h, hs, hf => by
    cases h with
    | tup h1 h2 => exact .tup h1 (RepL.share ds _ _ h2 hs fun _ z => nomatch z)
  | .lst .o ds, _, _, h, hs, hf => by
    cases h with
    | lstO h1 h2 => exact .lstS h1 (hf _ List.mem_cons_self).1 (hf _ List.mem_cons_self).2 (RepL.share ds _ _ h2 hs fun a z => hf a (List.mem_cons_of_mem _ z))
  | .lst .s ds, _, _, h, hs, hf => by
    cases h with
    | lstS h1 h2 h3 h4 => exact .lstS h1 (hs _ h2) h3 (RepL.share ds _ _ h4 hs hf)
  | .lst .g ds, _, _, h, hs, hf => by
    cases h with
    | lstG h1 h2 h4 => exact .lstG h1 (hs _ h2) (RepL.share ds _ _ h4 hs hf)
  | .lst .k ds, _, _, h, hs, hf => by
    cases h with
    | lstK h1 h4 => exact .lstK h1 (RepL.share ds _ _ h4 hs hf)
  | .dic .o ds, _, _, h, hs, hf => by
    cases h with
    | dicO h1 h2 h3 h4 => exact .dicS h1 h2 h3 (hf _ List.mem_cons_self).1 (hf _ List.mem_cons_self).2 (RepK.share ds _ _ h4 hs fun a z => hf a (List.mem_cons_of_mem _ z))
  | .dic .s ds, _, _, h, hs, hf => by
    cases h with
    | dicS h1 h2 h3 h4 h5 h6 => exact .dicS h1 h2 h3 (hs _ h4) h5 (RepK.share ds _ _ h6 hs hf)
  | .dic .g ds, _, _, h, hs, hf => by
    cases h with
    | dicG h1 h2 h3 h4 h6 => exact .dicG h1 h2 h3 (hs _ h4) (RepK.share ds _ _ h6 hs hf)
  | .dic .k ds, _, _, h, _, _ => by cases h
  | .obj .o c ds, _, _, h, hs, hf => by
    cases h with
    | objO h1 h2 h4 => exact .objS h1 h2 (hf _ List.mem_cons_self).1 (hf _ List.mem_cons_self).2 (RepF.share ds _ _ _ h4 hs fun a z => hf a (List.mem_cons_of_mem _ z))
  | .obj .s c ds, _, _, h, hs, hf => by
    cases h with
    | objS h1 h2 h4 h5 h6 => exact .objS h1 h2 (hs _ h4) h5 (RepF.share ds _ _ _ h6 hs hf)
  | .obj .g c ds, _, _, h, hs, hf => by
    cases h with
    | objG h1 h2 h4 h6 => exact .objG h1 h2 (hs _ h4) (RepF.share ds _ _ _ h6 hs hf)
  | .obj .k c ds, _, _, h, _, _ => by cases h
theorem RepL.share : ∀ (ds : List D) (vs : List V) (F : List Addr), RepL Γ N S H ds vs F → (∀ a, S a → S' a) → (∀ a ∈ F, S' a ∧ N a) → RepL Γ N S' H (shareL ds) vs []
  | [], _, _, h, _, _ => by cases h; exact .nil
  | d :: ds, _, _, h, hs, hf => by
    cases h with
    | cons h1 h2 => exact .cons (F := []) (G := []) (Rep.share d _ _ h1 hs fun a z => hf a (List.mem_append_left _ z)) (RepL.share ds _ _ h2 hs fun a z => hf a (List.mem_append_right _ z))
theorem RepK.share : ∀ (ds : List (D × D)) (ts : List (NestedKey × V × V)) (F : List Addr), RepK Γ N S H ds ts F → (∀ a, S a → S' a) → (∀ a ∈ F, S' a ∧ N a) → RepK Γ N S' H (flK Fg.sh ds) ts []
  | [], _, _, h, _, _ => by cases h; exact .nil
  | (k, d) :: ds, _, _, h, hs, hf => by
    cases h with
    | cons h1 h2 h3 h4 h5 => exact .cons (F := []) (G := []) (by rw [toNK_fl]; exact h1) h2 (Rep.share k _ _ h3 hs fun _ z => nomatch z) (Rep.share d _ _ h4 hs fun a z => hf a (List.mem_append_left _ z)) (RepK.share ds _ _ h5 hs fun a z => hf a (List.mem_append_right _ z))
theorem RepF.share : ∀ (ds : List (String × D)) (fl : List String) (gs : List (Str × V)) (F : List Addr), RepF Γ N S H fl ds gs F → (∀ a, S a → S' a) → (∀ a ∈ F, S' a ∧ N a) → RepF Γ N S' H fl (flF Fg.sh ds) gs []
  | [], _, _, _, h, _, _ => by cases h; exact .nil
  | (n, d) :: ds, _, _, _, h, hs, hf => by
    cases h with
    | cons h1 h2 h3 => exact .cons (F := []) (G := []) h1 (Rep.share d _ _ h2 hs fun a z => hf a (List.mem_append_left _ z)) (RepF.share ds _ _ _ h3 hs fun a z => hf a (List.mem_append_right _ z))
end
mutual
theorem Rep.lend : ∀ (d : D) (v : V) (F : List Addr), Rep Γ N S H d v F → (∀ a, S a → S' a) → (∀ a ∈ F, S' a) → Rep Γ N' S' H d.lend v []
  | .non, _, _, h, _, _ => by cases h; exact .non
  | .bl b, _, _, h, _, _ => by cases h; exact .bl b
  | .int i, _, _, h, _, _ => by cases h; exact .int i
  | .str x, _, _, h, _, _ => by cases h; exact .str x
  | .tup ds, _, _, h, hs, hf => by
    cases h with
    | tup h1 h2 => exact .tup h1 (RepL.lend ds _ _ h2 hs fun _ z => nomatch z)
  | .lst .o ds, _, _, h, hs, hf => by
    cases h with
    | lstO h1 h2 => exact .lstG h1 (hf _ List.mem_cons_self) (RepL.lend ds _ _ h2 hs fun a z => hf a (List.mem_cons_of_mem _ z))
  | .lst .s ds, _, _, h, hs, hf => by
    cases h with
    | lstS h1 h2 h3 h4 => exact .lstG h1 (hs _ h2) (RepL.lend ds _ _ h4 hs hf)
  | .lst .g ds, _, _, h, hs, hf => by
    cases h with
    | lstG h1 h2 h4 => exact .lstG h1 (hs _ h2) (RepL.lend ds _ _ h4 hs hf)
  | .lst .k ds, _, _, h, hs, hf => by
    cases h with
    | lstK h1 h4 => exact .lstK h1 (RepL.lend ds _ _ h4 hs hf)
  | .dic .o ds, _, _, h, hs, hf => by
    cases h with
    | dicO h1 h2 h3 h4 => exact .dicG h1 h2 h3 (hf _ List.mem_cons_self) (RepK.lend ds _ _ h4 hs fun a z => hf a (List.mem_cons_of_mem _ z))
  | .dic .s ds, _, _, h, hs, hf => by
    cases h with
    | dicS h1 h2 h3 h4 h5 h6 => exact .dicG h1 h2 h3 (hs _ h4) (RepK.lend ds _ _ h6 hs hf)
  | .dic .g ds, _, _, h, hs, hf => by
    cases h with
    | dicG h1 h2 h3 h4 h6 => exact .dicG h1 h2 h3 (hs _ h4) (RepK.lend ds _ _ h6 hs hf)
  | .dic .k ds, _, _, h, _, _ => by cases h
  | .obj .o c ds, _, _, h, hs, hf => by
    cases h with
    | objO h1 h2 h4 => exact .objG h1 h2 (hf _ List.mem_cons_self) (RepF.lend ds _ _ _ h4 hs fun a z => hf a (List.mem_cons_of_mem _ z))
  | .obj .s c ds, _, _, h, hs, hf => by
    cases h with
    | objS h1 h2 h4 h5 h6 => exact .objG h1 h2 (hs _ h4) (RepF.lend ds _ _ _ h6 hs hf)
  | .obj .g c ds, _, _, h, hs, hf => by
    cases h with
    | objG h1 h2 h4 h6 => exact .objG h1 h2 (hs _ h4) (RepF.lend ds _ _ _ h6 hs hf)
  | .obj .k c ds, _, _, h, _, _ => by cases h
theorem RepL.lend : ∀ (ds : List D) (vs : List V) (F : List Addr), RepL Γ N S H ds vs F → (∀ a, S a → S' a) → (∀ a ∈ F, S' a) → RepL Γ N' S' H (lendL ds) vs []
  | [], _, _, h, _, _ => by cases h; exact .nil
  | d :: ds, _, _, h, hs, hf => by
    cases h with
    | cons h1 h2 => exact .cons (F := []) (G := []) (Rep.lend d _ _ h1 hs fun a z => hf a (List.mem_append_left _ z)) (RepL.lend ds _ _ h2 hs fun a z => hf a (List.mem_append_right _ z))
theorem RepK.lend : ∀ (ds : List (D × D)) (ts : List (NestedKey × V × V)) (F : List Addr), RepK Γ N S H ds ts F → (∀ a, S a → S' a) → (∀ a ∈ F, S' a) → RepK Γ N' S' H (flK Fg.gv ds) ts []
  | [], _, _, h, _, _ => by cases h; exact .nil
  | (k, d) :: ds, _, _, h, hs, hf => by
    cases h with
    | cons h1 h2 h3 h4 h5 => exact .cons (F := []) (G := []) (by rw [toNK_fl]; exact h1) h2 (Rep.lend k _ _ h3 hs fun _ z => nomatch z) (Rep.lend d _ _ h4 hs fun a z => hf a (List.mem_append_left _ z)) (RepK.lend ds _ _ h5 hs fun a z => hf a (List.mem_append_right _ z))
theorem RepF.lend : ∀ (ds : List (String × D)) (fl : List String) (gs : List (Str × V)) (F : List Addr), RepF Γ N S H fl ds gs F → (∀ a, S a → S' a) → (∀ a ∈ F, S' a) → RepF Γ N' S' H fl (flF Fg.gv ds) gs []
  | [], _, _, _, h, _, _ => by cases h; exact .nil
  | (n, d) :: ds, _, _, _, h, hs, hf => by
    cases h with
    | cons h1 h2 h3 => exact .cons (F := []) (G := []) h1 (Rep.lend d _ _ h2 hs fun a z => hf a (List.mem_append_left _ z)) (RepF.lend ds _ _ _ h3 hs fun a z => hf a (List.mem_append_right _ z))
end
mutual
theorem Rep.lower : ∀ (d : D) (v : V) (F : List Addr), Rep Γ N S H d v F → (∀ a, S a → S' a) → Rep Γ N' S' H d.lower v F
  | .non, _, _, h, _ => by cases h; exact .non
  | .bl b, _, _, h, _ => by cases h; exact .bl b
  | .int i, _, _, h, _ => by cases h; exact .int i
  | .str x, _, _, h, _ => by cases h; exact .str x
  | .tup ds, _, _, h, hs => by
    cases h with
    | tup h1 h2 => exact .tup h1 (RepL.lower ds _ _ h2 hs)
  | .lst .o ds, _, _, h, hs => by
    cases h with
    | lstO h1 h2 => exact .lstO h1 (RepL.lower ds _ _ h2 hs)
  | .lst .s ds, _, _, h, hs => by
    cases h with
    | lstS h1 h2 h3 h4 => exact .lstG h1 (hs _ h2) (RepL.lower ds _ _ h4 hs)
  | .lst .g ds, _, _, h, hs => by
    cases h with
    | lstG h1 h2 h4 => exact .lstG h1 (hs _ h2) (RepL.lower ds _ _ h4 hs)
  | .lst .k ds, _, _, h, hs => by
    cases h with
    | lstK h1 h4 => exact .lstK h1 (RepL.lower ds _ _ h4 hs)
  | .dic .o ds, _, _, h, hs => by
    cases h with
    | dicO h1 h2 h3 h4 => exact .dicO h1 h2 h3 (RepK.lower ds _ _ h4 hs)
  | .dic .s ds, _, _, h, hs => by
    cases h with
    | dicS h1 h2 h3 h4 h5 h6 => exact .dicG h1 h2 h3 (hs _ h4) (RepK.lower ds _ _ h6 hs)
  | .dic .g ds, _, _, h, hs => by
    cases h with
    | dicG h1 h2 h3 h4 h6 => exact .dicG h1 h2 h3 (hs _ h4) (RepK.lower ds _ _ h6 hs)
  | .dic .k ds, _, _, h, _ => by cases h
  | .obj .o c ds, _, _, h, hs => by
    cases h with
    | objO h1 h2 h4 => exact .objO h1 h2 (RepF.lower ds _ _ _ h4 hs)
  | .obj .s c ds, _, _, h, hs => by
    cases h with
    | objS h1 h2 h4 h5 h6 => exact .objG h1 h2 (hs _ h4) (RepF.lower ds _ _ _ h6 hs)
  | .obj .g c ds, _, _, h, hs => by
    cases h with
    | objG h1 h2 h4 h6 => exact .objG h1 h2 (hs _ h4) (RepF.lower ds _ _ _ h6 hs)
  | .obj .k c ds, _, _, h, _ => by cases h
theorem RepL.lower : ∀ (ds : List D) (vs : List V) (F : List Addr), RepL Γ N S H ds vs F → (∀ a, S a → S' a) → RepL Γ N' S' H (flL Fg.low ds) vs F
  | [], _, _, h, _ => by cases h; exact .nil
  | d :: ds, _, _, h, hs => by
    cases h with
    | cons h1 h2 => exact .cons (Rep.lower d _ _ h1 hs) (RepL.lower ds _ _ h2 hs)
theorem RepK.lower : ∀ (ds : List (D × D)) (ts : List (NestedKey × V × V)) (F : List Addr), RepK Γ N S H ds ts F → (∀ a, S a → S' a) → RepK Γ N' S' H (flK Fg.low ds) ts F
  | [], _, _, h, _ => by cases h; exact .nil
  | (k, d) :: ds, _, _, h, hs => by
    cases h with
    | cons h1 h2 h3 h4 h5 => exact .cons (by rw [toNK_fl]; exact h1) h2 (Rep.lower k _ _ h3 hs) (Rep.lower d _ _ h4 hs) (RepK.lower ds _ _ h5 hs)
theorem RepF.lower : ∀ (ds : List (String × D)) (fl : List String) (gs : List (Str × V)) (F : List Addr), RepF Γ N S H fl ds gs F → (∀ a, S a → S' a) → RepF Γ N' S' H fl (flF Fg.low ds) gs F
  | [], _, _, _, h, _ => by cases h; exact .nil
  | (n, d) :: ds, _, _, _, h, hs => by
    cases h with
    | cons h1 h2 h3 => exact .cons h1 (Rep.lower d _ _ h2 hs) (RepF.lower ds _ _ _ h3 hs)
end
mutual
/-- a key holds nothing lent -/
theorem lent_key : ∀ {k : D} {nk : NestedKey}, toNK k = some nk → k.lent = false
  | .non, _, _ => rfl
  | .bl b, _, _ => rfl
  | .int i, _, _ => rfl
  | .str x, _, _ => rfl
  | .tup ds, _, h => by
    simp only [toNK] at h
    cases q : toNKs ds with
    | none => rw [q] at h; cases h
    | some ks => exact lent_keys (ks := ks) q
  | .lst f ds, _, h => by cases h
  | .dic f ds, _, h => by cases h
  | .obj f c ds, _, h => by cases h
theorem lent_keys : ∀ {ds : List D} {ks : List NestedKey}, toNKs ds = some ks → lentL ds = false
  | [], _, _ => rfl
  | d :: ds, _, h => by
    simp only [toNKs] at h
    cases q : toNK d with
    | none => rw [q] at h; cases h
    | some k =>
      cases q2 : toNKs ds with
      | none => rw [q, q2] at h; cases h
      | some ks => simp only [lentL, lent_key q, lent_keys q2, Bool.or_self]
end
mutual
theorem Rep.unlent : ∀ (d : D) (v : V) (F : List Addr), Rep Γ N S H d v F → d.lent = false → (∀ a, S a → N a → S' a) → (∀ a, N a → N' a) → Rep Γ N' S' H d v F
  | .non, _, _, h, _, _, _ => by cases h; exact .non
  | .bl b, _, _, h, _, _, _ => by cases h; exact .bl b
  | .int i, _, _, h, _, _, _ => by cases h; exact .int i
  | .str x, _, _, h, _, _, _ => by cases h; exact .str x
  | .tup ds, _, _, h, hl, hs, hn => by
    cases h with
    | tup h1 h2 => exact .tup h1 (RepL.unlent ds _ _ h2 (by first | exact hl | simpa [D.lent, Fg.isG] using hl | (simp only [lentL, Bool.or_eq_false_iff] at hl; exact hl.2)) hs hn)
  | .lst .o ds, _, _, h, hl, hs, hn => by
    cases h with
    | lstO h1 h2 => exact .lstO h1 (RepL.unlent ds _ _ h2 (by first | exact hl | simpa [D.lent, Fg.isG] using hl | (simp only [lentL, Bool.or_eq_false_iff] at hl; exact hl.2)) hs hn)
  | .lst .s ds, _, _, h, hl, hs, hn => by
    cases h with
    | lstS h1 h2 h3 h4 => exact .lstS h1 (hs _ h2 h3) (hn _ h3) (RepL.unlent ds _ _ h4 (by simpa [D.lent, Fg.isG] using hl) hs hn)
  | .lst .g ds, _, _, h, hl, hs, hn => by
    cases h with
    | lstG h1 h2 h4 => simp [D.lent, Fg.isG] at hl
  | .lst .k ds, _, _, h, hl, hs, hn => by
    cases h with
    | lstK h1 h4 => exact .lstK h1 (RepL.unlent ds _ _ h4 (by simpa [D.lent, Fg.isG] using hl) hs hn)
  | .dic .o ds, _, _, h, hl, hs, hn => by
    cases h with
    | dicO h1 h2 h3 h4 => exact .dicO h1 h2 h3 (RepK.unlent ds _ _ h4 (by simpa [D.lent, Fg.isG] using hl) hs hn)
  | .dic .s ds, _, _, h, hl, hs, hn => by
    cases h with
    | dicS h1 h2 h3 h4 h5 h6 => exact .dicS h1 h2 h3 (hs _ h4 h5) (hn _ h5) (RepK.unlent ds _ _ h6 (by simpa [D.lent, Fg.isG] using hl) hs hn)
  | .dic .g ds, _, _, h, hl, hs, hn => by
    cases h with
    | dicG h1 h2 h3 h4 h6 => simp [D.lent, Fg.isG] at hl
  | .dic .k ds, _, _, h, _, _, _ => by cases h
  | .obj .o c ds, _, _, h, hl, hs, hn => by
    cases h with
    | objO h1 h2 h4 => exact .objO h1 h2 (RepF.unlent ds _ _ _ h4 (by simpa [D.lent, Fg.isG] using hl) hs hn)
  | .obj .s c ds, _, _, h, hl, hs, hn => by
    cases h with
    | objS h1 h2 h4 h5 h6 => exact .objS h1 h2 (hs _ h4 h5) (hn _ h5) (RepF.unlent ds _ _ _ h6 (by simpa [D.lent, Fg.isG] using hl) hs hn)
  | .obj .g c ds, _, _, h, hl, hs, hn => by
    cases h with
    | objG h1 h2 h4 h6 => simp [D.lent, Fg.isG] at hl
  | .obj .k c ds, _, _, h, _, _, _ => by cases h
theorem RepL.unlent : ∀ (ds : List D) (vs : List V) (F : List Addr), RepL Γ N S H ds vs F → lentL ds = false → (∀ a, S a → N a → S' a) → (∀ a, N a → N' a) → RepL Γ N' S' H ds vs F
  | [], _, _, h, _, _, _ => by cases h; exact .nil
  | d :: ds, _, _, h, hl, hs, hn => by
    cases h with
    | cons h1 h2 => exact .cons (Rep.unlent d _ _ h1 (by simp only [lentL, Bool.or_eq_false_iff] at hl; exact hl.1) hs hn) (RepL.unlent ds _ _ h2 (by first | exact hl | simpa [D.lent, Fg.isG] using hl | (simp only [lentL, Bool.or_eq_false_iff] at hl; exact hl.2)) hs hn)
theorem RepK.unlent : ∀ (ds : List (D × D)) (ts : List (NestedKey × V × V)) (F : List Addr), RepK Γ N S H ds ts F → lentK ds = false → (∀ a, S a → N a → S' a) → (∀ a, N a → N' a) → RepK Γ N' S' H ds ts F
  | [], _, _, h, _, _, _ => by cases h; exact .nil
  | (k, d) :: ds, _, _, h, hl, hs, hn => by
    cases h with
    | cons h1 h2 h3 h4 h5 => exact .cons h1 h2 (Rep.unlent k _ _ h3 (lent_key h1) hs hn) (Rep.unlent d _ _ h4 (by simp only [lentK, Bool.or_eq_false_iff] at hl; exact hl.1) hs hn) (RepK.unlent ds _ _ h5 (by simp only [lentK, Bool.or_eq_false_iff] at hl; exact hl.2) hs hn)
theorem RepF.unlent : ∀ (ds : List (String × D)) (fl : List String) (gs : List (Str × V)) (F : List Addr), RepF Γ N S H fl ds gs F → lentF ds = false → (∀ a, S a → N a → S' a) → (∀ a, N a → N' a) → RepF Γ N' S' H fl ds gs F
  | [], _, _, _, h, _, _, _ => by cases h; exact .nil
  | (n, d) :: ds, _, _, _, h, hl, hs, hn => by
    cases h with
    | cons h1 h2 h3 => exact .cons h1 (Rep.unlent d _ _ h2 (by simp only [lentF, Bool.or_eq_false_iff] at hl; exact hl.1) hs hn) (RepF.unlent ds _ _ _ h3 (by simp only [lentF, Bool.or_eq_false_iff] at hl; exact hl.2) hs hn)
end

theorem Rep.noF {d : D} {v : V} (h : Rep Γ N S H d v F) (o : d.own = false) : F = [] := by
  cases h <;> first | rfl | (simp [D.own, Fg.isO] at o)
mutual
theorem Rep.share_id : ∀ (d : D) (v : V), Rep Γ N S H d v [] → d.share = d
  | .non, _, _ => rfl
  | .bl b, _, _ => rfl
  | .int i, _, _ => rfl
  | .str x, _, _ => rfl
  | .tup ds, _, h => by
    cases h with
    | tup h1 h2 => show D.tup (shareL ds) = _; rw [RepL.share_id ds _ h2]
  | .lst f ds, _, h => by
    cases h with
    | lstS h1 h2 h3 h4 => show D.lst .s (shareL ds) = _; rw [RepL.share_id ds _ h4]
    | lstG h1 h2 h4 => show D.lst .g (shareL ds) = _; rw [RepL.share_id ds _ h4]
    | lstK h1 h4 => show D.lst .k (shareL ds) = _; rw [RepL.share_id ds _ h4]
  | .dic f ds, _, h => by
    cases h with
    | dicS h1 h2 h3 h4 h5 h6 => show D.dic .s (flK Fg.sh ds) = _; rw [RepK.share_id ds _ h6]
    | dicG h1 h2 h3 h4 h6 => show D.dic .g (flK Fg.sh ds) = _; rw [RepK.share_id ds _ h6]
  | .obj f c ds, _, h => by
    cases h with
    | objS h1 h2 h4 h5 h6 => show D.obj .s c (flF Fg.sh ds) = _; rw [RepF.share_id ds _ _ h6]
    | objG h1 h2 h4 h6 => show D.obj .g c (flF Fg.sh ds) = _; rw [RepF.share_id ds _ _ h6]
theorem RepL.share_id : ∀ (ds : List D) (vs : List V), RepL Γ N S H ds vs [] → shareL ds = ds
  | [], _, _ => rfl
  | d :: ds, _, h => by
    generalize e : ([] : List Addr) = F0 at h
    cases h with
    | cons h1 h2 =>
      obtain ⟨rfl, rfl⟩ := nil_of_append e.symm
      show d.share :: shareL ds = _
      rw [Rep.share_id d _ h1, RepL.share_id ds _ h2]
theorem RepK.share_id : ∀ (ds : List (D × D)) (ts : List (NestedKey × V × V)), RepK Γ N S H ds ts [] → flK Fg.sh ds = ds
  | [], _, _ => rfl
  | (k, d) :: ds, _, h => by
    generalize e : ([] : List Addr) = F0 at h
    cases h with
    | cons h1 h2 h3 h4 h5 =>
      obtain ⟨rfl, rfl⟩ := nil_of_append e.symm
      show (k.share, d.share) :: flK Fg.sh ds = _
      rw [Rep.share_id k _ h3, Rep.share_id d _ h4, RepK.share_id ds _ h5]
theorem RepF.share_id : ∀ (ds : List (String × D)) (fl : List String) (gs : List (Str × V)), RepF Γ N S H fl ds gs [] → flF Fg.sh ds = ds
  | [], _, _, _ => rfl
  | (n, d) :: ds, _, _, h => by
    generalize e : ([] : List Addr) = F0 at h
    cases h with
    | cons h1 h2 h3 =>
      obtain ⟨rfl, rfl⟩ := nil_of_append e.symm
      show (n, d.share) :: flF Fg.sh ds = _
      rw [Rep.share_id d _ h2, RepF.share_id ds _ _ h3]
end
end
end Lz
end

section
set_option autoImplicit false
set_option maxRecDepth 100000
namespace Lz
open PySem PySem.Spec L2

/-- the slots' data lie in the heap: S what is frozen, Fs the slots' own things -/
structure SR (Γ : Gm) (A : Ac) (S : Addr → Prop) (Fs : Nat → List Addr) (σ : St) (H : Hp) (env : Lz.Env) : Prop where
  len : env.length = σ.length
  rep : ∀ i d, env[i]? = some (some d) → ∃ v, σ[i]? = some (some v) ∧ Rep Γ A.N S H d v (Fs i)
  non : ∀ i, (∀ d, env[i]? ≠ some (some d)) → Fs i = []
  nd : ∀ i, (Fs i).Nodup
  dis : ∀ i j a, a ∈ Fs i → a ∈ Fs j → i = j
  frz : ∀ i a, a ∈ Fs i → A.N a ∧ ¬ S a ∧ Mut (H a)
  trk : ∀ a, S a → ∃ o, H a = some o
  new : ∀ a, H a = none → A.N a
  old : ∀ a o, A.E0 a = some o → ¬ A.N a → H a = some o
  s0 : ∀ a, S a → A.S0 a ∨ A.N a

/-- from one state to a later one; ro: nothing that stood was changed -/
structure Chg (ro : Bool) (S : Addr → Prop) (Fs : Nat → List Addr) (H : Hp) (env : Lz.Env) (S' : Addr → Prop) (Fs' : Nat → List Addr) (H' : Hp) (env' : Lz.Env) : Prop where
  sub : ∀ a, S a → S' a
  sup : ∀ a, S' a → S a ∨ H a = none ∨ (ro = false ∧ ∃ i, a ∈ Fs i)
  fs : ∀ i a, a ∈ Fs' i → (∃ j, a ∈ Fs j) ∨ H a = none
  keep : ∀ a o, H a = some o → (ro = true ∨ ∀ i, a ∉ Fs i) → H' a = some o
  there : ∀ a o, H a = some o → ∃ o', H' a = some o'
  roE : ro = true → env' = env ∧ Fs' = Fs

section
variable {Γ : Gm} {A : Ac} {ro ro' : Bool} {S S1 S2 S' : Addr → Prop} {Fs Fs1 Fs2 Fs' : Nat → List Addr} {σ : St} {H H1 H2 H' : Hp} {env env1 env2 env' : Lz.Env} {d : D} {v : V} {F : List Addr} {a : Addr}

theorem Chg.refl : Chg ro S Fs H env S Fs H env :=
  ⟨fun _ h => h, fun _ h => .inl h, fun i _ h => .inl ⟨i, h⟩, fun _ _ h _ => h, fun _ o h => ⟨o, h⟩, fun _ => ⟨rfl, rfl⟩⟩
theorem Chg.none (c : Chg ro S Fs H env S1 Fs1 H1 env1) (h : H1 a = none) : H a = none := by
  cases q : H a with
  | none => rfl
  | some o =>
    obtain ⟨o', e⟩ := c.there a o q
    rw [h] at e; cases e
theorem Chg.trans (c : Chg ro S Fs H env S1 Fs1 H1 env1) (d : Chg ro S1 Fs1 H1 env1 S2 Fs2 H2 env2) : Chg ro S Fs H env S2 Fs2 H2 env2 where
  sub := fun a h => d.sub a (c.sub a h)
  sup := fun a h => by
    rcases d.sup a h with h | h | ⟨h1, i, h2⟩
    · exact c.sup a h
    · exact .inr (.inl (c.none h))
    · rcases c.fs i a h2 with ⟨j, z⟩ | z
      · exact .inr (.inr ⟨h1, j, z⟩)
      · exact .inr (.inl z)
  fs := fun i a h => by
    rcases d.fs i a h with ⟨j, z⟩ | z
    · exact c.fs j a z
    · exact .inr (c.none z)
  keep := fun a o e h => by
    refine d.keep a o (c.keep a o e h) (h.imp_right fun h i z => ?_)
    rcases c.fs i a z with ⟨j, z⟩ | z
    · exact h j z
    · rw [e] at z; cases z
  there := fun a o e => by
    obtain ⟨o1, e1⟩ := c.there a o e
    exact d.there a o1 e1
  roE := fun r => ⟨(d.roE r).1.trans (c.roE r).1, (d.roE r).2.trans (c.roE r).2⟩
theorem Chg.weak (c : Chg ro' S Fs H env S1 Fs1 H1 env1) (h : ro = true → ro' = true) : Chg ro S Fs H env S1 Fs1 H1 env1 where
  sub := c.sub
  sup := fun a z => by
    rcases c.sup a z with z | z | ⟨z, w⟩
    · exact .inl z
    · exact .inr (.inl z)
    · refine .inr (.inr ⟨?_, w⟩)
      cases ro with
      | false => rfl
      | true => rw [h rfl] at z; cases z
  fs := c.fs
  keep := fun a o e z => c.keep a o e (z.imp_left h)
  there := c.there
  roE := fun r => c.roE (h r)

/-- a thing that is not a slot's own lies as it lay -/
theorem SR.stay (s : SR Γ A S Fs σ H env) (c : Chg ro S Fs H env S1 Fs1 H1 env1) (hF : ro = true ∨ ∀ a ∈ F, ∀ i, a ∉ Fs i) : Stay S F H H1 := fun a o e h => by
  refine c.keep a o e ?_
  rcases h with h | h | h
  · exact .inr fun i z => (s.frz i a z).2.1 h
  · exact hF.imp_right fun q => q a h
  · exact .inr fun i z => h (by have := (s.frz i a z).2.2; rw [e] at this; exact this)
theorem SR.stayR (s : SR Γ A S Fs σ H env) (c : Chg ro S Fs H env S1 Fs1 H1 env1) (hF : ro = true ∨ ∀ a ∈ F, ∀ i, a ∉ Fs i) (r : Rep Γ A.N S H d v F) : Rep Γ A.N S1 H1 d v F :=
  Rep.stay d v F r (s.stay c hF) c.sub fun _ h => h
theorem SR.stayL {ds : List D} {vs : List V} (s : SR Γ A S Fs σ H env) (c : Chg ro S Fs H env S1 Fs1 H1 env1) (hF : ro = true ∨ ∀ a ∈ F, ∀ i, a ∉ Fs i) (r : RepL Γ A.N S H ds vs F) : RepL Γ A.N S1 H1 ds vs F :=
  RepL.stay ds vs F r (s.stay c hF) c.sub fun _ h => h

/-- all that was tracked is as it was -/
theorem SR.ext (s : SR Γ A S Fs σ H env) (h : ∀ a o, H a = some o → H1 a = some o) : SR Γ A S Fs σ H1 env where
  len := s.len
  rep := fun i d e => by
    obtain ⟨v, e1, r⟩ := s.rep i d e
    exact ⟨v, e1, Rep.stay d v _ r (fun a o q _ => h a o q) (fun _ z => z) fun _ z => z⟩
  non := s.non
  nd := s.nd
  dis := s.dis
  frz := fun i a z => by
    obtain ⟨h1, h2, h3⟩ := s.frz i a z
    refine ⟨h1, h2, ?_⟩
    cases q : H a with
    | none => rw [q] at h3; exact h3.elim
    | some o => rw [h a o q, ← q]; exact h3
  trk := fun a z => by
    obtain ⟨o, e⟩ := s.trk a z
    exact ⟨o, h a o e⟩
  new := fun a z => s.new a (by
    cases q : H a with
    | none => rfl
    | some o => rw [h a o q] at z; cases z)
  old := fun a o e n => h a o (s.old a o e n)
  s0 := s.s0
theorem Chg.ext (h : ∀ a o, H a = some o → H1 a = some o) : Chg ro S Fs H env S Fs H1 env :=
  ⟨fun _ h => h, fun _ h => .inl h, fun i _ h => .inl ⟨i, h⟩, fun a o e _ => h a o e, fun a o e => ⟨o, h a o e⟩, fun _ => ⟨rfl, rfl⟩⟩
theorem ext_upd {o : HO} {p : Addr} (h : H p = none) : ∀ a u, H a = some u → upd H p o a = some u := fun a u e => by
  rw [upd_ne (ne_of_none e h)]; exact e

/-- more is frozen -/
theorem SR.addS (s : SR Γ A S Fs σ H env) (hs : ∀ a, S a → S1 a) (h : ∀ a, S1 a → S a ∨ (A.N a ∧ (∃ o, H a = some o) ∧ ∀ i, a ∉ Fs i)) : SR Γ A S1 Fs σ H env where
  len := s.len
  rep := fun i d e => by
    obtain ⟨v, e1, r⟩ := s.rep i d e
    exact ⟨v, e1, Rep.stay d v _ r (fun a o q _ => q) hs fun _ z => z⟩
  non := s.non
  nd := s.nd
  dis := s.dis
  frz := fun i a z => by
    obtain ⟨h1, h2, h3⟩ := s.frz i a z
    refine ⟨h1, fun q => ?_, h3⟩
    rcases h a q with w | ⟨_, _, w⟩
    · exact h2 w
    · exact w i z
  trk := fun a z => (h a z).elim (s.trk a) fun w => w.2.1
  new := s.new
  old := s.old
  s0 := fun a z => (h a z).elim (s.s0 a) fun w => .inr w.1

/-- what an expression hands on -/
structure Got (Γ : Gm) (A : Ac) (ro pk : Bool) (pth : Option Nat) (S : Addr → Prop) (Fs : Nat → List Addr) (σ : St) (H : Hp) (env : Lz.Env) (d : D) (env' : Lz.Env) (S' : Addr → Prop) (Fs' : Nat → List Addr) (H' : Hp) (v : V) (F : List Addr) : Prop where
  sr : SR Γ A S' Fs' σ H' env'
  chg : Chg ro S Fs H env S' Fs' H' env'
  rep : Rep Γ A.N S' H' d v F
  fresh : (pk = false ∨ pth = Option.none) → F.Nodup ∧ ∀ a ∈ F, A.N a ∧ ¬ S' a ∧ (∀ i, a ∉ Fs' i) ∧ Mut (H' a) ∧ (H a = none ∨ ro = false ∧ ∃ i, a ∈ Fs i)
  way : ∀ r, pth = some r → pk = true → ∀ a ∈ F, a ∈ Fs' r
theorem Got.flat {pk : Bool} {pth : Option Nat} (s : SR Γ A S' Fs' σ H' env') (c : Chg ro S Fs H env S' Fs' H' env') (r : Rep Γ A.N S' H' d v []) : Got Γ A ro pk pth S Fs σ H env d env' S' Fs' H' v [] :=
  ⟨s, c, r, fun _ => ⟨List.nodup_nil, fun _ z => nomatch z⟩, fun _ _ _ _ z => nomatch z⟩
/-- behind a first change -/
theorem Got.after {pk : Bool} {pth : Option Nat} (c : Chg ro S Fs H env S1 Fs1 H1 env1) (g : Got Γ A ro pk pth S1 Fs1 σ H1 env1 d env' S' Fs' H' v F) : Got Γ A ro pk pth S Fs σ H env d env' S' Fs' H' v F where
  sr := g.sr
  chg := c.trans g.chg
  rep := g.rep
  fresh := fun p => by
    obtain ⟨h1, h2⟩ := g.fresh p
    refine ⟨h1, fun a z => ?_⟩
    obtain ⟨q1, q2, q3, q4, q5⟩ := h2 a z
    refine ⟨q1, q2, q3, q4, ?_⟩
    rcases q5 with q5 | ⟨q5, i, q6⟩
    · exact .inl (c.none q5)
    · rcases c.fs i a q6 with ⟨j, w⟩ | w
      · exact .inr ⟨q5, j, w⟩
      · exact .inl w
  way := g.way
theorem ro_of {p : Prop} (h : ro = true → ro' = true) (q : ro' = false ∧ p) : ro = false ∧ p := by
  refine ⟨?_, q.2⟩
  cases ro with
  | false => rfl
  | true => rw [h rfl] at q; cases q.1
/-- kept, it may be looked at -/
theorem Got.weak {pk : Bool} {pth pth' : Option Nat} (g : Got Γ A ro' false pth' S Fs σ H env d env' S' Fs' H' v F) (h : ro = true → ro' = true) (hp : pk = false ∨ pth = Option.none) : Got Γ A ro pk pth S Fs σ H env d env' S' Fs' H' v F where
  sr := g.sr
  chg := g.chg.weak h
  rep := g.rep
  fresh := fun _ => by
    obtain ⟨h1, h2⟩ := g.fresh (.inl rfl)
    refine ⟨h1, fun a z => ?_⟩
    obtain ⟨q1, q2, q3, q4, q5⟩ := h2 a z
    exact ⟨q1, q2, q3, q4, q5.imp_right (ro_of h)⟩
  way := fun r h1 h2 => by
    rcases hp with hp | hp
    · rw [hp] at h2; cases h2
    · rw [hp] at h1; cases h1
end

/-- the reading of an expression: its run -/
def TEv (Γ : Gm) (A : Ac) (c : Ctx) (ro pk : Bool) (ir : E) : TE := fun σ H Q => ∃ S Fs env d env', SR Γ A S Fs σ H env ∧ ev c ro pk ir env = .ok (d, env') ∧
  ∀ S' Fs' H' v F, Got Γ A ro pk (pathOf ir) S Fs σ H env d env' S' Fs' H' v F → Q v H'
/-- .. as a test -/
def TTv (Γ : Gm) (A : Ac) (c : Ctx) (ro pk : Bool) (ir : E) : TT := fun σ H Q => ∃ S Fs env d env' b, SR Γ A S Fs σ H env ∧ ev c ro pk ir env = .ok (d, env') ∧ truth d = .ok b ∧
  ∀ S' Fs' H', SR Γ A S' Fs' σ H' env' → Chg ro S Fs H env S' Fs' H' env' → Q b H'

theorem bok {α β : Type} {x : Ex α} {f : α → Ex β} {r : β} (h : (x >>= f) = .ok r) : ∃ a, x = .ok a ∧ f a = .ok r := by
  cases x with
  | error e => cases h
  | ok a => exact ⟨a, rfl, h⟩

section
variable {X : Cx} {e : Expr} {t u : TE} {tt uu : TT}
theorem pe_weak (h : PE X e t) (w : ∀ σ H Q, u σ H Q → t σ H Q) : PE X e u := ⟨fun pins s σ H Q I q => h.run pins s σ H Q I (w σ H Q q)⟩
theorem pt_weak (h : PT X e tt) (w : ∀ σ H Q, uu σ H Q → tt σ H Q) : PT X e uu := ⟨fun pins s σ H Q I q => h.run pins s σ H Q I (w σ H Q q)⟩
theorem pw_weak (h : PW X e tt) (w : ∀ σ H Q, uu σ H Q → tt σ H Q) : PW X e uu := ⟨fun wh pins s σ H Q I q => h.run wh pins s σ H Q I (w σ H Q q)⟩
end

/-- what is fixed, off the context -/
abbrev gm (X : Cx) (cA : String → Option Addr) (fl : String → List String) : Gm := ⟨X.prog, X.w, X.K, X.mg, X.base, cA, fl⟩
end Lz
end

section
set_option autoImplicit false
set_option maxRecDepth 100000
namespace Lz
open PySem PySem.Spec L2

section
variable {Γ : Gm} {A : Ac} {ro pk : Bool} {S S1 S2 S' : Addr → Prop} {Fs Fs1 Fs2 Fs' : Nat → List Addr} {σ : St} {H H1 H2 H' : Hp} {env env1 env2 env' : Lz.Env} {d : D} {v : V} {F : List Addr} {a : Addr} {i : Nat}

/-- the slots' own things but i's -/
def less (Fs : Nat → List Addr) (i : Nat) : Nat → List Addr := fun j => if j = i then [] else Fs j
theorem less_self : less Fs i i = [] := by unfold less; rw [if_pos rfl]
theorem less_ne {j : Nat} (h : j ≠ i) : less Fs i j = Fs j := by unfold less; rw [if_neg h]
theorem mem_less {j : Nat} (h : a ∈ less Fs i j) : a ∈ Fs j ∧ j ≠ i := by
  unfold less at h
  split at h
  · cases h
  · exact ⟨h, by assumption⟩

/-- a slot is frozen -/
theorem SR.freeze (s : SR Γ A S Fs σ H env) (e : env[i]? = some (some d)) : SR Γ A (fun a => S a ∨ a ∈ Fs i) (less Fs i) σ H (env.set i (some d.share)) where
  len := by rw [List.length_set]; exact s.len
  rep := fun j d' e' => by
    by_cases hj : j = i
    · subst hj
      have hlt : j < env.length := (List.getElem?_eq_some_iff.mp e).1
      rw [List.getElem?_set_self hlt] at e'
      cases e'
      obtain ⟨v, e1, r⟩ := s.rep j d e
      refine ⟨v, e1, ?_⟩
      rw [less_self]
      exact Rep.share d v _ r (fun _ h => .inl h) fun a z => ⟨.inr z, (s.frz j a z).1⟩
    · rw [List.getElem?_set_ne (Ne.symm hj)] at e'
      obtain ⟨v, e1, r⟩ := s.rep j d' e'
      refine ⟨v, e1, ?_⟩
      rw [less_ne hj]
      exact Rep.stay d' v _ r (fun a o q _ => q) (fun _ h => .inl h) fun _ h => h
  non := fun j h => by
    by_cases hj : j = i
    · rw [hj]; exact less_self
    · rw [less_ne hj]
      refine s.non j fun d' q => h d' ?_
      rw [List.getElem?_set_ne (Ne.symm hj)]; exact q
  nd := fun j => by
    by_cases hj : j = i
    · rw [hj, less_self]; exact List.nodup_nil
    · rw [less_ne hj]; exact s.nd j
  dis := fun j k a h1 h2 => s.dis j k a (mem_less h1).1 (mem_less h2).1
  frz := fun j a h => by
    obtain ⟨h1, h2⟩ := mem_less h
    obtain ⟨q1, q2, q3⟩ := s.frz j a h1
    exact ⟨q1, fun z => z.elim q2 fun z => h2 (s.dis j i a h1 z), q3⟩
  trk := fun a h => h.elim (s.trk a) fun h => by
    have q := (s.frz i a h).2.2
    cases e : H a with
    | none => rw [e] at q; exact q.elim
    | some o => exact ⟨o, rfl⟩
  new := s.new
  old := s.old
  s0 := fun a h => h.elim (s.s0 a) fun h => .inr (s.frz i a h).1
theorem Chg.freeze (s : SR Γ A S Fs σ H env) : Chg false S Fs H env (fun a => S a ∨ a ∈ Fs i) (less Fs i) H env' where
  sub := fun _ h => .inl h
  sup := fun a h => h.elim .inl fun h => .inr (.inr ⟨rfl, i, h⟩)
  fs := fun j a h => .inl ⟨j, (mem_less h).1⟩
  keep := fun _ _ h _ => h
  there := fun _ o h => ⟨o, h⟩
  roE := fun h => nomatch h

theorem getS_ok {d : D} (h : getS env i = .ok d) : env[i]? = some (some d) := by
  unfold getS at h
  split at h
  · rename_i d' e
    cases h
    exact e
  · cases h
theorem getS_of {d : D} (h : env[i]? = some (some d)) : getS env i = .ok d := by
  unfold getS
  rw [h]

/-- the slot at the root of a way is frozen -/
theorem SR.freezeRoot (s : SR Γ A S Fs σ H env) (i : Nat) : SR Γ A (fun a => S a ∨ a ∈ Fs i) (less Fs i) σ H (freezeRoot env i) := by
  unfold Lz.freezeRoot
  split
  · rename_i d e
    exact s.freeze e
  · rename_i h
    have z : Fs i = [] := s.non i fun d q => h d q
    have e : less Fs i = Fs := by
      funext j
      by_cases hj : j = i
      · rw [hj, less_self, z]
      · exact less_ne hj
    rw [e]
    exact s.addS (fun _ h => .inl h) fun a h => .inl (h.elim id fun h => by rw [z] at h; cases h)

/-- a part that is taken out -/
theorem take_got {pth : Option Nat} {e : E} {x : D} {vx : V} {Fx : List Addr} {r : D} {env3 : Lz.Env}
    (g : Got Γ A ro true (pathOf e) S Fs σ H env d env1 S1 Fs1 H1 v F) (s2 : SR Γ A S2 Fs1 σ H2 env1) (c2 : Chg true S1 Fs1 H1 env1 S2 Fs1 H2 env1) (rx : Rep Γ A.N S2 H2 x vx Fx) (hx : ∀ a ∈ Fx, a ∈ F)
    (h : take ro pk e x env1 = .ok (r, env3)) (hp : pathOf e = pth) : ∃ S3 Fs3 F3, Got Γ A ro pk pth S Fs σ H env r env3 S3 Fs3 H2 vx F3 := by
  have c12 : Chg ro S Fs H env S2 Fs1 H2 env1 := g.chg.trans (c2.weak fun _ => rfl)
  unfold take at h
  by_cases h1 : (pk && isPath e) = true
  · rw [if_pos h1] at h
    cases h
    obtain ⟨rfl, h1'⟩ := Bool.and_eq_true_iff.mp h1
    have hpe : pathOf e = some (rootOf e) := by unfold pathOf; rw [if_pos h1']
    refine ⟨S2, Fs1, Fx, s2, c12, rx, fun z => ?_, fun w hw _ a ha => ?_⟩
    · rcases z with z | z
      · cases z
      · rw [← hp, hpe] at z; cases z
    · exact g.way w (hp.trans hw) rfl a (hx a ha)
  rw [if_neg h1] at h
  by_cases h2 : (!x.own) = true
  · rw [if_pos h2] at h
    cases h
    have ho : x.own = false := by simpa using h2
    have z := rx.noF ho
    subst z
    exact ⟨S2, Fs1, [], Got.flat s2 c12 rx⟩
  rw [if_neg h2] at h
  by_cases h3 : (!isPath e) = true
  · rw [if_pos h3] at h
    cases h
    have hpe : pathOf e = none := by
      unfold pathOf
      rw [if_neg (by simpa using h3)]
    obtain ⟨_, fr⟩ := g.fresh (.inr hpe)
    have s3 : SR Γ A (fun a => S2 a ∨ a ∈ Fx) Fs1 σ H2 env1 := by
      refine s2.addS (fun _ z => .inl z) fun a z => z.imp_right fun z => ?_
      obtain ⟨q1, _, q3, q4, _⟩ := fr a (hx a z)
      refine ⟨q1, ?_, q3⟩
      cases e1 : H1 a with
      | none => rw [e1] at q4; exact q4.elim
      | some o => exact c2.there a o e1
    have c3 : Chg ro S Fs H env (fun a => S2 a ∨ a ∈ Fx) Fs1 H2 env1 := {
      sub := fun a z => .inl (c12.sub a z)
      sup := fun a z => z.elim (c12.sup a) fun z => .inr (fr a (hx a z)).2.2.2.2
      fs := c12.fs
      keep := c12.keep
      there := c12.there
      roE := c12.roE }
    refine ⟨_, Fs1, [], Got.flat s3 c3 (Rep.share x vx Fx rx (fun _ z => .inl z) fun a z => ⟨.inr z, (fr a (hx a z)).1⟩)⟩
  rw [if_neg h3] at h
  have hpath : isPath e = true := by simpa using h3
  have hpe : pathOf e = some (rootOf e) := by unfold pathOf; rw [if_pos hpath]
  by_cases h4 : ro = true
  · rw [if_pos h4] at h; cases h
  rw [if_neg h4] at h
  cases h
  have hro : ro = false := by simpa using h4
  subst hro
  have hin : ∀ a ∈ Fx, a ∈ Fs1 (rootOf e) := fun a z => g.way _ hpe rfl a (hx a z)
  refine ⟨_, _, [], Got.flat (s2.freezeRoot (rootOf e)) (c12.trans (Chg.freeze s2)) (Rep.share x vx Fx rx (fun _ z => .inl z) fun a z => ⟨.inr (hin a z), (s2.frz _ a (hin a z)).1⟩)⟩

/-! ### parts -/
theorem RepL.get {S : Addr → Prop} {N : Addr → Prop} : ∀ {ds : List D} {vs : List V} {F : List Addr} {j : Nat} {x : D}, RepL Γ N S H ds vs F → ds[j]? = some x → ∃ v Fx, vs[j]? = some v ∧ Rep Γ N S H x v Fx ∧ (∀ a ∈ Fx, a ∈ F) ∧ (F.Nodup → Fx.Nodup)
  | [], _, _, _, _, h, e => by simp at e
  | d :: ds, _, _, 0, x, h, e => by
    cases h with
    | cons h1 h2 =>
      simp at e
      subst e
      exact ⟨_, _, rfl, h1, fun a z => List.mem_append_left _ z, fun n => (List.nodup_append.mp n).1⟩
  | d :: ds, _, _, j + 1, x, h, e => by
    cases h with
    | cons h1 h2 =>
      obtain ⟨v, Fx, e1, r, hs, hn⟩ := RepL.get (j := j) (x := x) h2 (by simpa using e)
      exact ⟨v, Fx, by simpa using e1, r, fun a z => List.mem_append_right _ (hs a z), fun n => hn (List.nodup_append.mp n).2.1⟩
theorem RepL.length {S : Addr → Prop} {N : Addr → Prop} : ∀ {ds : List D} {vs : List V} {F : List Addr}, RepL Γ N S H ds vs F → ds.length = vs.length
  | [], _, _, h => by cases h; rfl
  | d :: ds, _, _, h => by
    cases h with
    | cons h1 h2 => simp [RepL.length h2]
/-- the list behind a value -/
theorem Rep.lst_inv {S : Addr → Prop} {N : Addr → Prop} {f : Fg} {ds : List D} (h : Rep Γ N S H (.lst f ds) v F) : ∃ a vs F', v = .ref a ∧ SqL Γ.K H a vs ∧ RepL Γ N S H ds vs F' ∧ (∀ b ∈ F', b ∈ F) ∧ (f ≠ .k → H a = some (.lst vs)) := by
  cases h with
  | lstO h1 h2 => exact ⟨_, _, _, rfl, .inl (.inl h1), h2, fun b z => List.mem_cons_of_mem _ z, fun _ => h1⟩
  | lstS h1 h2 h3 h4 => exact ⟨_, _, _, rfl, .inl (.inl h1), h4, fun b z => z, fun _ => h1⟩
  | lstG h1 h2 h4 => exact ⟨_, _, _, rfl, .inl (.inl h1), h4, fun b z => z, fun _ => h1⟩
  | lstK h1 h4 => exact ⟨_, _, _, rfl, h1.seq, h4, fun b z => z, fun q => absurd rfl q⟩
theorem Rep.tup_inv {S : Addr → Prop} {N : Addr → Prop} {ds : List D} (h : Rep Γ N S H (.tup ds) v F) : ∃ a vs, v = .ref a ∧ SqT Γ.K H a vs ∧ RepL Γ N S H ds vs [] ∧ F = [] := by
  cases h with
  | tup h1 h2 => exact ⟨_, _, rfl, h1, h2, rfl⟩
end

/-! ### expressions -/
section
variable {X : Cx} {cA : String → Option Addr} {fl : String → List String} {A : Ac} {c : Ctx} {ro pk : Bool} {pos pos' : Pos} {k : Nat}

theorem te_int {i : Int} : PE X (.Constant (.int i) k pos) (TEv (gm X cA fl) A c ro pk (.lit (.int i))) := pe_weak pe_int fun σ H Q h => by
  obtain ⟨S, Fs, env, d, env', s, e, q⟩ := h
  rw [ev] at e; cases e
  exact q _ _ _ _ _ (Got.flat s Chg.refl (.int i))
theorem te_bl {b : Bool} : PE X (.Constant (.bool b) k pos) (TEv (gm X cA fl) A c ro pk (.lit (.bl b))) := pe_weak pe_bl fun σ H Q h => by
  obtain ⟨S, Fs, env, d, env', s, e, q⟩ := h
  rw [ev] at e; cases e
  exact q _ _ _ _ _ (Got.flat s Chg.refl (.bl b))
theorem te_non : PE X (.Constant .none k pos) (TEv (gm X cA fl) A c ro pk (.lit .non)) := pe_weak pe_non fun σ H Q h => by
  obtain ⟨S, Fs, env, d, env', s, e, q⟩ := h
  rw [ev] at e; cases e
  exact q _ _ _ _ _ (Got.flat s Chg.refl .non)
theorem te_str {x : String} : PE X (.Constant (.str (Str.ofString x)) k pos) (TEv (gm X cA fl) A c ro pk (.lit (.str x))) := pe_weak pe_str fun σ H Q h => by
  obtain ⟨S, Fs, env, d, env', s, e, q⟩ := h
  rw [ev] at e; cases e
  exact q _ _ _ _ _ (Got.flat s Chg.refl (.str x))

theorem te_var {i : Nat} {x : Str} (hN : X.N[i]? = some x) (hv : Vis X.env.scope x) (hd : (x == ("__debug__" : Str)) = false) (hcd : (x == ("__classdict__" : Str)) = false) : PE X (.Name x pos) (TEv (gm X cA fl) A c ro pk (.var i)) :=
  pe_weak (pe_var hN hv hd hcd) fun σ H Q h => by
  obtain ⟨S, Fs, env, d, env', s, e, q⟩ := h
  rw [ev] at e
  obtain ⟨d0, e0, e⟩ := bok e
  have e1 := getS_ok e0
  obtain ⟨v, e2, r⟩ := s.rep i d0 e1
  refine ⟨v, e2, ?_⟩
  by_cases h1 : (pk || !d0.own) = true
  · rw [if_pos h1] at e
    cases e
    refine q S Fs H v (Fs i) ⟨s, Chg.refl, r, fun z => ?_, fun w hw hp a ha => ?_⟩
    · rcases z with z | z
      · subst z
        have ho : d.own = false := by simpa using h1
        rw [r.noF ho]
        exact ⟨List.nodup_nil, fun _ z => nomatch z⟩
      · cases z
    · have : i = w := by simpa [pathOf, isPath, rootOf] using hw
      subst this
      exact ha
  · rw [if_neg h1] at e
    by_cases h2 : ro = true
    · rw [if_pos h2] at e; cases e
    · rw [if_neg h2] at e
      cases e
      have hro : ro = false := by simpa using h2
      subst hro
      exact q _ _ _ _ _ (Got.flat (s.freeze e1) (Chg.freeze s) (Rep.share d0 v _ r (fun _ z => .inl z) fun a z => ⟨.inr z, (s.frz i a z).1⟩))
end
end Lz
end

section
set_option autoImplicit false
set_option maxRecDepth 100000
namespace Lz
open PySem PySem.Spec L2

/-- what a row of expressions hands on -/
structure GotL (Γ : Gm) (A : Ac) (ro pk : Bool) (irs : List E) (S : Addr → Prop) (Fs : Nat → List Addr) (σ : St) (H : Hp) (env : Lz.Env) (ds : List D) (env' : Lz.Env) (S' : Addr → Prop) (Fs' : Nat → List Addr) (H' : Hp) (vs : List V) (F : List Addr) : Prop where
  sr : SR Γ A S' Fs' σ H' env'
  chg : Chg ro S Fs H env S' Fs' H' env'
  rep : RepL Γ A.N S' H' ds vs F
  fresh : pk = false → F.Nodup ∧ ∀ a ∈ F, A.N a ∧ ¬ S' a ∧ (∀ i, a ∉ Fs' i) ∧ Mut (H' a) ∧ (H a = none ∨ ro = false ∧ ∃ i, a ∈ Fs i)
  way : ∀ a ∈ F, (∃ r ∈ ownRoots irs ds, a ∈ Fs' r) ∨ (A.N a ∧ ¬ S' a ∧ (∀ i, a ∉ Fs' i) ∧ Mut (H' a) ∧ (H a = none ∨ ro = false ∧ ∃ i, a ∈ Fs i))
def TEvs (Γ : Gm) (A : Ac) (c : Ctx) (ro pk : Bool) (irs : List E) : TA := fun σ H Q => ∃ S Fs env ds env', SR Γ A S Fs σ H env ∧ evs c ro pk irs env = .ok (ds, env') ∧
  ∀ S' Fs' H' vs F, GotL Γ A ro pk irs S Fs σ H env ds env' S' Fs' H' vs F → Q vs H'
theorem pa_weak {X : Cx} {es : List Expr} {t u : TA} (h : PA X es t) (w : ∀ σ H Q, u σ H Q → t σ H Q) : PA X es u := ⟨fun pos pins s σ H Q I q => h.run pos pins s σ H Q I (w σ H Q q)⟩

theorem mut_some {H : Hp} {a : Addr} (h : Mut (H a)) : ∃ o, H a = some o := by
  cases e : H a with
  | none => rw [e] at h; exact h.elim
  | some o => exact ⟨o, rfl⟩
section
variable {X : Cx} {cA : String → Option Addr} {fl : String → List String} {A : Ac} {c : Ctx} {ro pk : Bool} {pos pos' : Pos} {k : Nat} {e b : Expr} {es : List Expr} {ir ib : E} {irs : List E}

theorem tes_nil : PA X [] (TEvs (gm X cA fl) A c ro pk []) := pa_weak pa_nil fun σ H Q h => by
  obtain ⟨S, Fs, env, ds, env', s, e, q⟩ := h
  rw [evs] at e; cases e
  exact q _ _ _ _ _ ⟨s, Chg.refl, .nil, fun _ => ⟨List.nodup_nil, fun _ z => nomatch z⟩, fun _ z => nomatch z⟩

theorem tes_cons (ha : PE X e (TEv (gm X cA fl) A c ro pk ir)) (hr : PA X es (TEvs (gm X cA fl) A c ro pk irs)) (hm : pk = true → ro = true)
    (hs : starEach (e :: es) X.env = (false, eval e X.env) :: starEach es X.env) : PA X (e :: es) (TEvs (gm X cA fl) A c ro pk (ir :: irs)) := pa_weak (pa_cons ha hr hs) fun σ H Q h => by
  obtain ⟨S, Fs, env, ds, env', s, h1, q⟩ := h
  rw [evs] at h1
  obtain ⟨⟨d, env1⟩, h2, h1⟩ := bok h1
  obtain ⟨⟨ds2, env2⟩, h3, h1⟩ := bok h1
  cases h1
  refine ⟨S, Fs, env, d, env1, s, h2, fun S1 Fs1 H1 v F g => ?_⟩
  refine ⟨S1, Fs1, env1, ds2, _, g.sr, h3, fun S2 Fs2 H2 vs G gl => ?_⟩
  have hF : ro = true ∨ ∀ a ∈ F, ∀ i, a ∉ Fs1 i := by
    cases pk with
    | true => exact .inl (hm rfl)
    | false => exact .inr fun a z => ((g.fresh (.inl rfl)).2 a z).2.2.1
  have hback : ∀ a, (H1 a = none ∨ ro = false ∧ ∃ i, a ∈ Fs1 i) → (H a = none ∨ ro = false ∧ ∃ i, a ∈ Fs i) := fun a z => by
    rcases z with z | ⟨z, i, w⟩
    · exact .inl (g.chg.none z)
    · rcases g.chg.fs i a w with ⟨j, w⟩ | w
      · exact .inr ⟨z, j, w⟩
      · exact .inl w
  -- a thing of the first value lies as it lay
  have hkeep : ∀ a ∈ F, A.N a ∧ ¬ S1 a ∧ (∀ i, a ∉ Fs1 i) ∧ Mut (H1 a) ∧ (H a = none ∨ ro = false ∧ ∃ i, a ∈ Fs i) → A.N a ∧ ¬ S2 a ∧ (∀ i, a ∉ Fs2 i) ∧ Mut (H2 a) ∧ (H a = none ∨ ro = false ∧ ∃ i, a ∈ Fs i) := fun a z ⟨q1, q2, q3, q4, q5⟩ => by
    obtain ⟨o, ho⟩ := mut_some q4
    refine ⟨q1, fun w => ?_, fun i w => ?_, ?_, q5⟩
    · rcases gl.chg.sup a w with w | w | ⟨_, i, w⟩
      · exact q2 w
      · rw [ho] at w; cases w
      · exact q3 i w
    · rcases gl.chg.fs i a w with ⟨j, w⟩ | w
      · exact q3 j w
      · rw [ho] at w; cases w
    · rw [gl.chg.keep a o ho (.inr q3), ← ho]; exact q4
  refine q S2 Fs2 H2 (v :: vs) (F ++ G) ⟨gl.sr, g.chg.trans gl.chg, .cons (g.sr.stayR gl.chg hF g.rep) gl.rep, fun p => ?_, fun a z => ?_⟩
  · obtain ⟨n1, f1⟩ := g.fresh (.inl p)
    obtain ⟨n2, f2⟩ := gl.fresh p
    refine ⟨List.nodup_append.mpr ⟨n1, n2, fun a z b w e => ?_⟩, fun a z => ?_⟩
    · subst e
      obtain ⟨q1, q2, q3, q4, q5⟩ := f1 a z
      obtain ⟨o, ho⟩ := mut_some q4
      rcases (f2 a w).2.2.2.2 with w | ⟨_, i, w⟩
      · rw [ho] at w; cases w
      · exact q3 i w
    · rcases List.mem_append.mp z with z | z
      · exact hkeep a z (f1 a z)
      · obtain ⟨q1, q2, q3, q4, q5⟩ := f2 a z
        exact ⟨q1, q2, q3, q4, hback a q5⟩
  · rcases List.mem_append.mp z with z | z
    · by_cases hp : isPath ir = true ∧ pk = true
      · have hpe : pathOf ir = some (rootOf ir) := by unfold pathOf; rw [if_pos hp.1]
        have ho : d.own = true := by
          cases q : d.own with
          | true => rfl
          | false => rw [g.rep.noF q] at z; cases z
        refine .inl ⟨rootOf ir, ?_, ?_⟩
        · show rootOf ir ∈ (if isPath ir && d.own then rootOf ir :: ownRoots irs ds2 else ownRoots irs ds2)
          rw [hp.1, ho]
          exact List.mem_cons_self
        · rw [(gl.chg.roE (hm hp.2)).2]
          exact g.way _ hpe hp.2 a z
      · refine .inr (hkeep a z ((g.fresh ?_).2 a z))
        cases pk with
        | false => exact .inl rfl
        | true =>
          refine .inr ?_
          unfold pathOf
          rw [if_neg fun w => hp ⟨w, rfl⟩]
    · rcases gl.way a z with ⟨r, w1, w2⟩ | ⟨q1, q2, q3, q4, q5⟩
      · refine .inl ⟨r, ?_, w2⟩
        show r ∈ (if isPath ir && d.own then rootOf ir :: ownRoots irs ds2 else ownRoots irs ds2)
        split
        · exact List.mem_cons_of_mem _ w1
        · exact w1
      · exact .inr ⟨q1, q2, q3, q4, hback a q5⟩

/-! ### displays -/
theorem addS_of {Γ : Gm} {S Sx : Addr → Prop} {Fs : Nat → List Addr} {σ : St} {H Hx : Hp} {env env' : Lz.Env} {Fsx : Nat → List Addr} {F : List Addr} (s : SR Γ A Sx Fsx σ Hx env') (c : Chg ro S Fs H env Sx Fsx Hx env')
    (fr : ∀ a ∈ F, A.N a ∧ ¬ Sx a ∧ (∀ i, a ∉ Fsx i) ∧ Mut (Hx a) ∧ (H a = none ∨ ro = false ∧ ∃ i, a ∈ Fs i)) :
    SR Γ A (fun a => Sx a ∨ a ∈ F) Fsx σ Hx env' ∧ Chg ro S Fs H env (fun a => Sx a ∨ a ∈ F) Fsx Hx env' :=
  ⟨s.addS (fun _ z => .inl z) fun a z => z.imp_right fun z => ⟨(fr a z).1, mut_some (fr a z).2.2.2.1, (fr a z).2.2.1⟩,
    { sub := fun a z => .inl (c.sub a z), sup := fun a z => z.elim (c.sup a) fun z => .inr (fr a z).2.2.2.2, fs := c.fs, keep := c.keep, there := c.there, roE := c.roE }⟩
theorem sizeLine_line : sizeLine = line := by rw [sizeLine_eq]; rfl

theorem evs_length : ∀ {irs : List E} {env : Lz.Env} {ds : List D} {env' : Lz.Env}, evs c ro pk irs env = .ok (ds, env') → ds.length = irs.length
  | [], env, ds, env', h => by
    rw [evs] at h
    cases h
    rfl
  | e :: es, env, ds, env', h => by
    rw [evs] at h
    obtain ⟨⟨d, env1⟩, h2, h1⟩ := bok h
    obtain ⟨⟨ds2, env2⟩, h3, h1⟩ := bok h1
    cases h1
    simp [evs_length h3]
theorem te_tup (ha : PA X es (TEvs (gm X cA fl) A c ro false irs)) {x1 : Nat} (hl : irs.length ≤ 1000) : PE X (.Tuple es x1 pos) (TEv (gm X cA fl) A c ro pk (.tup irs)) := pe_weak (pe_tup ha) fun σ H Q h => by
  obtain ⟨S, Fs, env, d, env', s, h1, q⟩ := h
  rw [ev] at h1
  obtain ⟨⟨ds, env1⟩, h2, h1⟩ := bok h1
  cases h1
  refine ⟨S, Fs, env, ds, _, s, h2, fun S1 Fs1 H1 vs F g => ?_⟩
  have hlen : vs.length = irs.length := by
    rw [← g.rep.length]
    exact evs_length h2
  refine ⟨by rw [sizeLine_line]; unfold line; omega, fun p hp => ?_⟩
  obtain ⟨n1, fr⟩ := g.fresh rfl
  obtain ⟨s2, c2⟩ := addS_of g.sr g.chg fr
  have s3 := s2.ext (ext_upd (o := .tup vs) hp)
  have c3 := c2.trans (Chg.ext (ro := ro) (S := fun a => S1 a ∨ a ∈ F) (Fs := Fs1) (env := env') (ext_upd (o := .tup vs) hp))
  refine q _ _ _ _ _ (Got.flat s3 c3 (.tup (.inl (.inl upd_same)) ?_))
  have r1 := RepL.share ds vs F g.rep (S' := fun a => S1 a ∨ a ∈ F) (fun _ z => .inl z) fun a z => ⟨.inr z, (fr a z).1⟩
  exact RepL.stay _ _ _ r1 (fun a o e _ => ext_upd hp a o e) (fun _ z => z) fun _ z => z
theorem te_lst (ha : PA X es (TEvs (gm X cA fl) A c ro false irs)) (hl : irs.length ≤ 1000) : PE X (.List es pos) (TEv (gm X cA fl) A c ro pk (.lst irs)) := pe_weak (pe_lst ha) fun σ H Q h => by
  obtain ⟨S, Fs, env, d, env', s, h1, q⟩ := h
  rw [ev] at h1
  obtain ⟨⟨ds, env1⟩, h2, h1⟩ := bok h1
  cases h1
  refine ⟨S, Fs, env, ds, _, s, h2, fun S1 Fs1 H1 vs F g => ?_⟩
  have hlen : vs.length = irs.length := by
    rw [← g.rep.length]
    exact evs_length h2
  refine ⟨by rw [sizeLine_line]; unfold line; omega, fun p hp => ?_⟩
  obtain ⟨n1, fr⟩ := g.fresh rfl
  have s3 := g.sr.ext (ext_upd (o := .lst vs) hp)
  have c3 := g.chg.trans (Chg.ext (ro := ro) (S := S1) (Fs := Fs1) (env := env') (ext_upd (o := .lst vs) hp))
  have hpS : ¬ S1 p := fun z => by
    obtain ⟨o, e⟩ := g.sr.trk p z
    rw [hp] at e; cases e
  have hpF : ∀ i, p ∉ Fs1 i := fun i z => by
    have := (g.sr.frz i p z).2.2
    rw [hp] at this; exact this
  have hpG : p ∉ F := fun z => by
    have := (fr p z).2.2.2.1
    rw [hp] at this; exact this
  refine q _ _ _ _ (p :: F) ⟨s3, c3, .lstO upd_same (RepL.stay _ _ _ g.rep (fun a o e _ => ext_upd hp a o e) (fun _ z => z) fun _ z => z), fun _ => ⟨List.nodup_cons.mpr ⟨hpG, n1⟩, fun a z => ?_⟩, fun _ w => nomatch w⟩
  rcases List.mem_cons.mp z with z | z
  · subst z
    exact ⟨g.sr.new _ hp, hpS, hpF, by rw [upd_same]; trivial, .inl (g.chg.none hp)⟩
  · obtain ⟨q1, q2, q3, q4, q5⟩ := fr a z
    refine ⟨q1, q2, q3, ?_, q5⟩
    obtain ⟨o, ho⟩ := mut_some q4
    rw [ext_upd hp a o ho, ← ho]; exact q4
end
end Lz
end

section
set_option autoImplicit false
set_option maxRecDepth 100000
namespace Lz
open PySem PySem.Spec L2

/-! ### operators by values -/
/-- what an operation on values hands on: a value, perhaps new things -/
structure Res (Γ : Gm) (N S : Addr → Prop) (H : Hp) (d : D) (H' : Hp) (v : V) (F : List Addr) : Prop where
  ext : ∀ a o, H a = some o → H' a = some o
  rep : Rep Γ N S H' d v F
  nd : F.Nodup
  new : ∀ a ∈ F, H a = none ∧ Mut (H' a)
def Val2 (Γ : Gm) (r : R2) (f : D → D → Ex D) : Prop := ∀ (N S : Addr → Prop) (H : Hp) (x y d : D) (vx : V) (Fx : List Addr) (vy : V) (Fy : List Addr) (Q : VK), f x y = .ok d → Rep Γ N S H x vx Fx → Rep Γ N S H y vy Fy →
  (∀ H' v F, Res Γ N S H d H' v F → Q v H') → r vx vy H Q

section
variable {Γ : Gm} {A : Ac} {ro pk : Bool} {S S1 S2 S' N : Addr → Prop} {Fs Fs1 Fs2 Fs' : Nat → List Addr} {σ : St} {H H1 H2 H' : Hp} {env env1 env2 env' : Lz.Env} {d : D} {v : V} {F : List Addr} {a : Addr} {i : Nat}
theorem Res.flat {d : D} (r : Rep Γ N S H d v []) : Res Γ N S H d H v [] := ⟨fun _ _ h => h, r, List.nodup_nil, fun _ z => nomatch z⟩
theorem Res.newT {ds : List D} {vs : List V} {p : Addr} (hp : H p = none) (r : RepL Γ N S H ds vs []) : Res Γ N S H (.tup ds) (upd H p (.tup vs)) (.ref p) [] :=
  ⟨ext_upd hp, .tup (.inl (.inl upd_same)) (RepL.stay _ _ _ r (fun a o e _ => ext_upd hp a o e) (fun _ z => z) fun _ z => z), List.nodup_nil, fun _ z => nomatch z⟩
theorem Res.newL {ds : List D} {vs : List V} {p : Addr} (hp : H p = none) (r : RepL Γ N S H ds vs []) : Res Γ N S H (.lst .o ds) (upd H p (.lst vs)) (.ref p) [p] :=
  ⟨ext_upd hp, .lstO upd_same (RepL.stay _ _ _ r (fun a o e _ => ext_upd hp a o e) (fun _ z => z) fun _ z => z), by simp, fun a z => by
    have e : a = p := by simpa using z
    subst e
    exact ⟨hp, by rw [upd_same]; trivial⟩⟩
theorem Res.got (s : SR Γ A S Fs σ H env) (c : Chg ro S1 Fs1 H1 env1 S Fs H env) (r : Res Γ A.N S H d H' v F) : Got Γ A ro pk none S1 Fs1 σ H1 env1 d env S Fs H' v F where
  sr := s.ext r.ext
  chg := c.trans (Chg.ext r.ext)
  rep := r.rep
  fresh := fun _ => ⟨r.nd, fun a z => by
    obtain ⟨h1, h2⟩ := r.new a z
    refine ⟨s.new a h1, fun w => ?_, fun i w => ?_, h2, .inl (c.none h1)⟩
    · obtain ⟨o, e⟩ := s.trk a w
      rw [h1] at e; cases e
    · have := (s.frz i a w).2.2
      rw [h1] at this; exact this⟩
  way := fun _ h => nomatch h
end

theorem OpR.or {X : Cx} {f : Value → Value → Sem Value} {r r' : R2} (h : OpR X f r) (h' : OpR X f r') : OpR X f (fun x y H Q => r x y H Q ∨ r' x y H Q) := by
  intro pins s σ H x y v u Q I rx ry q
  rcases q with q | q
  · exact h pins s σ H x y v u Q I rx ry q
  · exact h' pins s σ H x y v u Q I rx ry q

section
variable {X : Cx} {cA : String → Option Addr} {fl : String → List String} {A : Ac} {c : Ctx} {ro pk : Bool} {pos pos' : Pos} {k : Nat} {a b : Expr} {ia ib : E}

/-- two operands, one after the other -/
theorem two {f : D → D → Ex D} {r : R2} (hv : Val2 (gm X cA fl) r f) {ir : E} (hir : pathOf ir = none)
    (hev : ∀ env d env', ev c ro pk ir env = .ok (d, env') → ∃ x env1 y, ev c ro (roE ib) ia env = .ok (x, env1) ∧ ev c (ro || roE ib) (roE ib) ib env1 = .ok (y, env') ∧ f x y = .ok d)
    (σ : St) (H : Hp) (Q : VK) (h : TEv (gm X cA fl) A c ro pk ir σ H Q) :
    tOp r (TEv (gm X cA fl) A c ro (roE ib) ia) (TEv (gm X cA fl) A c (ro || roE ib) (roE ib) ib) σ H Q := by
  obtain ⟨S, Fs, env, d, env', s, h1, q⟩ := h
  obtain ⟨x, env1, y, h2, h3, h4⟩ := hev env d env' h1
  refine ⟨S, Fs, env, x, env1, s, h2, fun S1 Fs1 H1 v F g => ?_⟩
  refine ⟨S1, Fs1, env1, y, env', g.sr, h3, fun S2 Fs2 H2 u G g2 => ?_⟩
  have hF : (ro || roE ib) = true ∨ ∀ a ∈ F, ∀ i, a ∉ Fs1 i := by
    cases hm : roE ib with
    | true => exact .inl (by simp)
    | false => exact .inr fun a z => ((g.fresh (.inl hm)).2 a z).2.2.1
  have c2 : Chg ro S1 Fs1 H1 env1 S2 Fs2 H2 env' := g2.chg.weak fun h => by simp [h]
  refine hv A.N S2 H2 x y d v F u G Q h4 (g.sr.stayR g2.chg hF g.rep) g2.rep fun H' w F' rs => ?_
  rw [hir] at q
  exact q _ _ _ _ _ (rs.got g2.sr (g.chg.trans c2))

theorem te_bin {op : Operator} {o : Op} {r : R2} (hr : OpR X (binaryOp op) r) (hv : Val2 (gm X cA fl) r (binop o)) (ha : ∀ ro pk, PE X a (TEv (gm X cA fl) A c ro pk ia)) (hb : ∀ ro pk, PE X b (TEv (gm X cA fl) A c ro pk ib)) :
    PE X (.BinOp a op b pos) (TEv (gm X cA fl) A c ro pk (.bin o ia ib)) :=
  pe_weak (pe_op hr (ha ro (roE ib)) (hb (ro || roE ib) (roE ib))) (two hv rfl fun env d env' h => by
    rw [ev] at h
    obtain ⟨⟨x, env1⟩, h2, h⟩ := bok h
    obtain ⟨⟨y, env2⟩, h3, h⟩ := bok h
    obtain ⟨d', h4, h⟩ := bok h
    cases h
    exact ⟨x, env1, y, h2, h3, h4⟩)
/-- a comparison by its operator -/
def cmpV (c : Ctx) (o : Cm) (x y : D) : Ex D := (cmpD c o x y).map D.bl
theorem cmpV_ok {o : Cm} {x y d : D} (h : cmpV c o x y = .ok d) : ∃ b, cmpD c o x y = .ok b ∧ d = .bl b := by
  unfold cmpV at h
  cases e : cmpD c o x y with
  | error q => rw [e] at h; cases h
  | ok b => rw [e] at h; cases h; exact ⟨b, rfl, rfl⟩
theorem ev_cmp {o : Cm} {env env' : Lz.Env} {d : D} (h : ev c ro pk (.cmp o ia ib) env = .ok (d, env')) : ∃ x env1 y, ev c ro (roE ib) ia env = .ok (x, env1) ∧ ev c (ro || roE ib) (roE ib) ib env1 = .ok (y, env') ∧ cmpV c o x y = .ok d := by
  rw [ev] at h
  obtain ⟨⟨x, env1⟩, h2, h⟩ := bok h
  obtain ⟨⟨y, env2⟩, h3, h⟩ := bok h
  obtain ⟨d', h4, h⟩ := bok h
  cases h
  exact ⟨x, env1, y, h2, h3, by unfold cmpV; rw [h4]; rfl⟩
theorem te_cmp {op : CmpOp} {o : Cm} {r : R2} (hr : OpR X (compareOp op) r) (hv : Val2 (gm X cA fl) r (cmpV c o)) (ha : ∀ ro pk, PE X a (TEv (gm X cA fl) A c ro pk ia)) (hb : ∀ ro pk, PE X b (TEv (gm X cA fl) A c ro pk ib)) (hm : behindInMarks op b = false) :
    PE X (.Compare a [op] [b] pos) (TEv (gm X cA fl) A c ro pk (.cmp o ia ib)) :=
  pe_weak (pe_cmpR hr (ha ro (roE ib)) (hb (ro || roE ib) (roE ib)) hm) (two hv rfl fun env d env' h => ev_cmp h)
/-- from a value to a test -/
theorem tt_of {ir : E} (hir : pathOf ir = none) {t : TE} (h : ∀ σ H Q, TEv (gm X cA fl) A c ro pk ir σ H Q → t σ H Q) (hb : ∀ env d env', ev c ro pk ir env = .ok (d, env') → ∃ b, d = .bl b) (σ : St) (H : Hp) (Q : Bool → Hp → Prop)
    (q : TTv (gm X cA fl) A c ro pk ir σ H Q) : t σ H fun x H' => ∃ k, x = .bl k ∧ Q k H' := by
  obtain ⟨S, Fs, env, d, env', b, s, h1, h2, q⟩ := q
  obtain ⟨b', e0⟩ := hb _ _ _ h1
  subst e0
  have e9 : b' = b := by cases h2; rfl
  subst e9
  refine h σ H _ ⟨S, Fs, env, _, env', s, h1, fun S' Fs' H' v F g => ?_⟩
  have e : v = .bl b' := by
    have r := g.rep
    cases r
    rfl
  exact ⟨b', e, q S' Fs' H' g.sr g.chg⟩
theorem tt_cmp {op : CmpOp} {o : Cm} {r : R2} (hr : OpR X (compareOp op) r) (hv : Val2 (gm X cA fl) r (cmpV c o)) (ha : ∀ ro pk, PE X a (TEv (gm X cA fl) A c ro pk ia)) (hb : ∀ ro pk, PE X b (TEv (gm X cA fl) A c ro pk ib)) (hm : behindInMarks op b = false) :
    PT X (.Compare a [op] [b] pos) (TTv (gm X cA fl) A c ro pk (.cmp o ia ib)) :=
  pt_weak (pt_cmpR hr (ha ro (roE ib)) (hb (ro || roE ib) (roE ib)) hm) (tt_of rfl (two hv rfl fun env d env' h => ev_cmp h) fun env d env' h => by
    obtain ⟨x, env1, y, _, _, h4⟩ := ev_cmp h
    obtain ⟨b, _, e⟩ := cmpV_ok h4
    exact ⟨b, e⟩)

/-! ### the operators -/
theorem int_small {i : Int} (h : isSmall i = true) : -(2 ^ 64) < i ∧ i < 2 ^ 64 := by
  unfold isSmall big at h
  rw [Bool.and_eq_true, decide_eq_true_eq, decide_eq_true_eq] at h
  omega
theorem RepL.append' {Γ : Gm} {N S : Addr → Prop} {H : Hp} : ∀ {ds es : List D} {vs us : List V} {F G : List Addr}, RepL Γ N S H ds vs F → RepL Γ N S H es us G → RepL Γ N S H (ds ++ es) (vs ++ us) (F ++ G)
  | [], _, _, _, _, _, h, g => by cases h; exact g
  | d :: ds, es, _, us, _, G, h, g => by
    cases h with
    | @cons _ v F1 _ vs G1 h1 h2 =>
      rw [List.append_assoc]
      exact .cons h1 (RepL.append' h2 g)
theorem RepL.noOwn {Γ : Gm} {N S : Addr → Prop} {H : Hp} : ∀ {ds : List D} {vs : List V} {F : List Addr}, RepL Γ N S H ds vs F → ds.any D.own = false → F = []
  | [], _, _, h, _ => by cases h; rfl
  | d :: ds, _, _, h, o => by
    cases h with
    | cons h1 h2 =>
      rw [List.any_cons, Bool.or_eq_false_iff] at o
      rw [h1.noF o.1, RepL.noOwn h2 o.2]; rfl
theorem RepL.rep' {Γ : Gm} {N S : Addr → Prop} {H : Hp} {ds : List D} {vs : List V} (h : RepL Γ N S H ds vs []) : ∀ n : Nat, RepL Γ N S H (List.replicate n ds).flatten (List.replicate n vs).flatten []
  | 0 => .nil
  | n + 1 => by
    rw [List.replicate_succ, List.flatten_cons, List.replicate_succ, List.flatten_cons]
    exact RepL.append' (F := []) (G := []) h (RepL.rep' h n)

abbrev rAddA (K : PySem.W.Frag) : R2 := fun x y H Q => rI0 (fun i j => .int (i + j)) x y H Q ∨ (∃ i k, x = .int i ∧ y = .bl k ∧ Q (.int (i + PyProof.Rows.b2i k)) H) ∨ (∃ i j, x = .str i ∧ y = .str j ∧ i.length + j.length ≤ sizeLine ∧ Q (.str (i ++ j)) H) ∨ rCatA K x y H Q ∨ rCat x y H Q
theorem opr_add : OpR X (binaryOp .Add) (rAddA X.K) := op_add.or (op_add_ib.or (op_add_str.or (op_catA.or op_cat)))
theorem ofString_length (s : String) : (Str.ofString s).length = s.length := by
  rw [Str.ofString_eq_toList]
  show ((s.toList.map Char.toNat).toArray).size = _
  rw [List.size_toArray, List.length_map]
  exact String.length_toList
theorem ofString_append (s t : String) : Str.ofString (s ++ t) = Str.ofString s ++ Str.ofString t := by
  rw [Str.ofString_eq_toList, Str.ofString_eq_toList, Str.ofString_eq_toList]
  show _ = Str.mk (_ ++ _)
  simp
theorem val_add {Γ : Gm} : Val2 Γ (rAddA Γ.K) (binop .add) := by
  intro N S H x y d vx Fx vy Fy Q h rx ry q
  cases x <;> cases y <;> simp only [binop] at h <;> first
    | (cases h; done)
    | skip
  case int.bl i b =>
    cases h; cases rx; cases ry
    refine .inr (.inl ⟨i, b, rfl, rfl, q _ _ _ (Res.flat ?_)⟩)
    have e : (if b = true then (1 : Int) else 0) = PyProof.Rows.b2i b := by cases b <;> rfl
    rw [e]
    exact .int _
  case int.int i j =>
    cases h; cases rx; cases ry
    exact .inl ⟨i, j, rfl, rfl, q _ _ _ (Res.flat (.int _))⟩
  case str.str i j =>
    split at h
    · rename_i hl
      cases h; cases rx; cases ry
      refine .inr (.inr (.inl ⟨_, _, rfl, rfl, ?_, q _ _ _ (Res.flat ?_)⟩))
      · rw [ofString_length, ofString_length, sizeLine_line]; exact hl
      · rw [← ofString_append]; exact .str _
    · cases h
  case tup.tup ds es =>
    split at h
    · rename_i hl
      cases h
      obtain ⟨p, vs, rfl, hp, r1, rfl⟩ := rx.tup_inv
      obtain ⟨p2, us, rfl, hp2, r2, rfl⟩ := ry.tup_inv
      have l1 := r1.length
      have l2 := r2.length
      refine .inr (.inr (.inr (.inl ⟨p, p2, vs, us, rfl, rfl, hp, hp2, by rw [sizeLine_line]; omega, fun e => ?_, fun _ e => ?_, fun _ _ p hp => ?_⟩)))
      · subst e
        have e1 : ds = [] := List.length_eq_zero_iff.mp l1
        subst e1
        exact q _ _ _ (Res.flat ry)
      · subst e
        have e1 : es = [] := List.length_eq_zero_iff.mp l2
        subst e1
        rw [List.append_nil] at q
        exact q _ _ _ (Res.flat rx)
      · exact q _ _ _ (Res.newT hp (RepL.append' (F := []) (G := []) r1 r2))
    · cases h
  case lst.lst f ds g es =>
    split at h
    · rename_i hl
      obtain ⟨hl, hf, hg⟩ := hl
      split at h
      · cases h
      · rename_i ho
        cases h
        have ho' : ds.any D.own = false ∧ es.any D.own = false := by simpa [List.any_append] using ho
        obtain ⟨p, vs, F1, rfl, _, r1, _, hp⟩ := rx.lst_inv
        obtain ⟨p2, us, F2, rfl, _, r2, _, hp2⟩ := ry.lst_inv
        have e1 := r1.noOwn ho'.1
        have e2 := r2.noOwn ho'.2
        subst e1; subst e2
        have l1 := r1.length
        have l2 := r2.length
        refine .inr (.inr (.inr (.inr ⟨p, p2, vs, us, rfl, rfl, hp hf, hp2 hg, by rw [sizeLine_line]; omega, fun p hp => ?_⟩)))
        exact q _ _ _ (Res.newL hp (RepL.append' (F := []) (G := []) r1 r2))
    · cases h
end
end Lz
end

section
set_option autoImplicit false
set_option maxRecDepth 100000
namespace Lz
open PySem PySem.Spec L2

/-! ### data as PyData -/
mutual
def pyd : D → PyData
  | .non => .none
  | .bl b => .bool b
  | .int i => .int i
  | .str s => .str (Str.ofString s)
  | .tup xs => .tuple (pyds xs)
  | .lst _ xs => .list (pyds xs)
  | .dic _ _ => .none
  | .obj _ _ _ => .none
def pyds : List D → List PyData
  | [] => []
  | x :: xs => pyd x :: pyds xs
end
theorem ofString_inj {s t : String} (h : Str.ofString s = Str.ofString t) : s = t := by
  rw [Str.ofString_eq_toList, Str.ofString_eq_toList] at h
  have h1 : s.toList.map Char.toNat = t.toList.map Char.toNat := by
    have := congrArg (fun z : Str => z.cps.toList) h
    simpa using this
  have inj : ∀ a b : List Char, a.map Char.toNat = b.map Char.toNat → a = b := by
    intro a
    induction a with
    | nil => intro b h; cases b with
      | nil => rfl
      | cons _ _ => cases h
    | cons x xs ih =>
      intro b h
      cases b with
      | nil => cases h
      | cons y ys =>
        simp only [List.map_cons, List.cons.injEq] at h
        rw [ih ys h.2, Char.toNat_inj.mp h.1]
  exact String.toList_injective (inj _ _ h1)
theorem ofString_ok (s : String) : PyData.strOk (Str.ofString s) = true := by
  rw [Str.ofString_eq_toList]
  unfold PyData.strOk
  rw [Array.all_eq_true']
  intro x hx
  have hx' : x ∈ s.toList.map Char.toNat := by simpa using hx
  obtain ⟨c, _, rfl⟩ := List.mem_map.mp hx'
  have := c.valid
  have h2 : c.toNat < 0x110000 := by
    have := c.valid
    unfold UInt32.isValidChar Nat.isValidChar at this
    unfold Char.toNat
    omega
  exact decide_eq_true h2
theorem pyds_map : ∀ xs : List D, pyds xs = xs.map pyd
  | [] => rfl
  | x :: xs => by simp [pyds, pyds_map xs]
theorem scal_pyd {d : D} (h : d.scal = true) : (pyd d).canLay0 = true ∧ (pyd d).depth = 0 := by
  cases d <;> first
    | (simp [D.scal] at h; done)
    | exact ⟨by simp [pyd, PyData.canLay0, ofString_ok], by simp [pyd, PyData.depth]⟩
theorem canLayAll0_iff : ∀ xs : List PyData, PyData.canLayAll0 xs = xs.all PyData.canLay0
  | [] => rfl
  | x :: xs => by simp [PyData.canLayAll0, canLayAll0_iff xs]
theorem depthAll_le {n : Nat} : ∀ xs : List PyData, (∀ x ∈ xs, x.depth ≤ n) → PyData.depthAll xs ≤ n
  | [], _ => by simp [PyData.depthAll]
  | x :: xs, h => by
    have h1 := h x List.mem_cons_self
    have h2 := depthAll_le xs fun y z => h y (List.mem_cons_of_mem _ z)
    simp only [PyData.depthAll]
    omega
theorem flatN_pyd : ∀ (n : Nat) (d : D), flatN n d = true → (pyd d).canLay0 = true ∧ (pyd d).depth ≤ n
  | 0, d, h => by
    have := scal_pyd (d := d) h
    exact ⟨this.1, by omega⟩
  | n + 1, d, h => by
    have many : ∀ xs : List D, xs.all (flatN n) = true → PyData.canLayAll0 (pyds xs) = true ∧ PyData.depthAll (pyds xs) ≤ n := fun xs hx => by
      rw [List.all_eq_true] at hx
      rw [pyds_map]
      refine ⟨?_, depthAll_le _ fun y hy => ?_⟩
      · rw [canLayAll0_iff, List.all_eq_true]
        intro y hy
        obtain ⟨x, hx', rfl⟩ := List.mem_map.mp hy
        exact (flatN_pyd n x (hx x hx')).1
      · obtain ⟨x, hx', rfl⟩ := List.mem_map.mp hy
        exact (flatN_pyd n x (hx x hx')).2
    cases d with
    | tup xs =>
      obtain ⟨h1, h2⟩ := many xs h
      exact ⟨by simpa [pyd, PyData.canLay0] using h1, by simp only [pyd, PyData.depth]; omega⟩
    | lst f xs =>
      obtain ⟨h1, h2⟩ := many xs h
      exact ⟨by simpa [pyd, PyData.canLay0] using h1, by simp only [pyd, PyData.depth]; omega⟩
    | _ =>
      have := scal_pyd (d := _) h
      exact ⟨this.1, by omega⟩
theorem flat_shaped {d : D} (h : d.flat = true) : SeqAt.shaped (pyd d) = true := by
  obtain ⟨h1, h2⟩ := flatN_pyd 60 d h
  unfold SeqAt.shaped
  rw [h1, decide_eq_true (by omega)]; rfl
theorem flats_shaped {xs : List D} (h : flatL xs = true) : SeqAt.shaped (.list (pyds xs)) = true := by
  have h2 : flatN 61 (.lst .o xs) = true := h
  obtain ⟨h1, h2⟩ := flatN_pyd 61 _ h2
  unfold SeqAt.shaped
  have e : pyd (.lst .o xs) = .list (pyds xs) := by simp [pyd]
  rw [e] at h1 h2
  rw [h1, decide_eq_true (by omega)]; rfl
theorem beq_eq_decide' (a b : Int) : (a == b) = decide (a = b) := by
  by_cases h : a = b
  · subst h; simp
  · rw [decide_eq_false h]; exact beq_eq_false_iff_ne.mpr h
theorem flat_tup {xs : List D} (h : ∃ n, flatN n (.tup xs) = true) : ∀ a ∈ xs, ∃ n, flatN n a = true := by
  obtain ⟨n, h⟩ := h
  cases n with
  | zero => simp [flatN, D.scal] at h
  | succ n => exact fun a z => ⟨n, List.all_eq_true.mp h a z⟩
theorem flat_lst {f : Fg} {xs : List D} (h : ∃ n, flatN n (.lst f xs) = true) : ∀ a ∈ xs, ∃ n, flatN n a = true := by
  obtain ⟨n, h⟩ := h
  cases n with
  | zero => simp [flatN, D.scal] at h
  | succ n => exact fun a z => ⟨n, List.all_eq_true.mp h a z⟩
mutual
theorem eqv_pyd : ∀ (a b : D), (∃ n, flatN n a = true) → (∃ n, flatN n b = true) → PyData.eqv (pyd a) (pyd b) = D.eq a b
  | .non, b, _, _ => by cases b <;> simp_all [pyd, PyData.eqv, D.eq] <;> (obtain ⟨n, h⟩ := ‹∃ n, _›; cases n <;> simp [flatN, D.scal] at h)
  | .bl a, b, _, _ => by
    cases b <;> first
      | (simp [pyd, PyData.eqv, D.eq]; done)
      | (rename_i j _ _; simp only [pyd, PyData.eqv, D.eq]; exact beq_eq_decide' _ _)
  | .int i, b, _, _ => by
    cases b <;> first
      | (simp [pyd, PyData.eqv, D.eq]; done)
      | (simp only [pyd, PyData.eqv, D.eq]; exact beq_eq_decide' _ _)
  | .str s, b, _, _ => by
    cases b <;> first
      | (simp [pyd, PyData.eqv, D.eq]; done)
      | skip
    case str t _ =>
      simp only [pyd, PyData.eqv, D.eq]
      by_cases h : s = t
      · subst h; simp
      · have h2 : ¬ Str.ofString s = Str.ofString t := fun e => h (ofString_inj e)
        rw [decide_eq_false h]
        exact beq_eq_false_iff_ne.mpr h2
  | .tup xs, b, hx, hb => by
    cases b <;> first
      | (simp [pyd, PyData.eqv, D.eq]; done)
      | skip
    case tup ys => simp only [pyd, PyData.eqv, D.eq]; exact eqvAll_pyd xs ys (flat_tup hx) (flat_tup hb)
  | .lst f xs, b, hx, hb => by
    cases b <;> first
      | (simp [pyd, PyData.eqv, D.eq]; done)
      | skip
    case lst g ys => simp only [pyd, PyData.eqv, D.eq]; exact eqvAll_pyd xs ys (flat_lst hx) (flat_lst hb)
  | .dic f xs, b, hx, _ => by obtain ⟨n, h⟩ := hx; cases n <;> simp [flatN, D.scal] at h
  | .obj f c xs, b, hx, _ => by obtain ⟨n, h⟩ := hx; cases n <;> simp [flatN, D.scal] at h
theorem eqvAll_pyd : ∀ (as bs : List D), (∀ a ∈ as, ∃ n, flatN n a = true) → (∀ b ∈ bs, ∃ n, flatN n b = true) → PyData.eqvAll (pyds as) (pyds bs) = eqL as bs
  | [], [], _, _ => by simp [pyds, PyData.eqvAll, eqL]
  | [], _ :: _, _, _ => by simp [pyds, PyData.eqvAll, eqL]
  | _ :: _, [], _, _ => by simp [pyds, PyData.eqvAll, eqL]
  | a :: as, b :: bs, ha, hb => by
    simp only [pyds, PyData.eqvAll, eqL]
    rw [eqv_pyd a b (ha a List.mem_cons_self) (hb b List.mem_cons_self), eqvAll_pyd as bs (fun x z => ha x (List.mem_cons_of_mem _ z)) fun x z => hb x (List.mem_cons_of_mem _ z)]
end
end Lz
end

section
set_option autoImplicit false
set_option maxRecDepth 100000
set_option maxHeartbeats 4000000
namespace Lz
open PySem PySem.Spec L2 PyProof.Rows
/-- a tuple times one, or an empty one times an int, is that tuple -/
theorem tuple_mul_same (l : Addr) (items : Array Value) (n : Nat) (dd : Option Addr) (sl : Array (Option Value)) (x : Int) (u : Tok) (c0 : (decide (x < -(2 ^ 63)) || decide (x ≥ 2 ^ 63)) = false) (c1 : (items.isEmpty || x == 1) = true) :
    Meets (Builtin.«tuple.__mul__» ⟨[.ref l, .int x u], []⟩) (fun _ R s => s.heap.get? l = some { cls := .type "tuple", dict := dd, data := .seq items n, slots := sl } ∧ R (.ok (.ret (Value.ref l))) s) :=
  .of_wp fun prog w A R s h => by
    obtain ⟨hp, g, d, tk, os⟩ := s
    obtain ⟨hl, h⟩ := h
    have f1 := AutoSeq1.idx_int
    wp_walk using wpAny_loadPart' hl
    repeat (first
      | (refine wpAny_ite_false (decide_eq_false (by rw [c0]; exact Bool.false_ne_true)) ?_; wp_walk using wpAny_loadPart' hl)
      | (refine wpAny_ite_true (decide_eq_true (by rw [c1])) ?_; wp_walk using wpAny_loadPart' hl))
    exact ⟨_, rfl, h⟩
/-- a tuple times one, an empty tuple times an int -/
def rRepS (K : PySem.W.Frag) : R2 := fun x y H Q => ∃ l k xs, x = .ref l ∧ y = .int k ∧ SqT K H l xs ∧ -(2 ^ 63) ≤ k ∧ k < 2 ^ 63 ∧ (xs = [] ∨ k = 1) ∧ Q (.ref l) H
theorem op_repS {X : Cx} : OpR X (binaryOp .Mult) (rRepS X.K) := by
  intro pins s σ H x y v u Q I rx ry h
  obtain ⟨l, k, xs, rfl, rfl, hT, h1, h2, hc, q⟩ := h
  cases rx
  obtain ⟨t, rfl⟩ := ry
  obtain ⟨its, r, ⟨⟨cls, dd, data, sl⟩, ho, hc', n, hd⟩, hs⟩ := I.tuple hT
  simp only at hc' hd
  subst hc' hd
  have c0 : (decide (k < -(2 ^ 63)) || decide (k ≥ 2 ^ 63)) = false := by
    rw [decide_eq_false (by omega), decide_eq_false (by omega)] <;> rfl
  have c1 : (its.toArray.isEmpty || k == 1) = true := by
    rcases hc with e | e
    · subst e
      cases r
      rfl
    · subst e
      simp
  refine wpAny_binaryOp_repeat_ref (T := "tuple") (U := "int") (by decide) ⟨_, ho, rfl⟩ (fun s' => typeIs_int s' k t) noFill_tuple_mul F.fills_int_mul F.slot_int_rmul repeat_tuple F.slot_int_index.lookup
    (call_meets F.slot_int_rmul (typeIs_int s k t) F.entry_int_rmul (F.args_int_rmul_2 _ _) (int_rmul_tuple k t l its.toArray n dd sl)
      ⟨ho, rfl, ⟨_, ho, rfl⟩, call_meets F.slot_tuple_mul ⟨_, ho, rfl⟩ F.entry_tuple_mul (F.args_tuple_mul_2 _ _) (tuple_mul_same l its.toArray n dd sl k t c0 c1) ⟨ho, ?_⟩⟩)
  exact ⟨.ref l, H, I, rfl, q⟩
end Lz
end

section
set_option autoImplicit false
set_option maxRecDepth 100000
namespace Lz
open PySem PySem.Spec L2

mutual
/-- data that == may be asked of, as HandS tells them -/
theorem Rep.dp {Γ : Gm} {N S : Addr → Prop} {H : Hp} : ∀ (d : D) (v : V) (F : List Addr), Rep Γ N S H d v F → (∃ n, flatN n d = true) → Dp Γ.K H v (pyd d)
  | .non, _, _, h, _ => by cases h; rw [pyd]; exact .non
  | .bl b, _, _, h, _ => by cases h; rw [pyd]; exact .bl b
  | .int i, _, _, h, _ => by cases h; rw [pyd]; exact .int i
  | .str s, _, _, h, _ => by cases h; rw [pyd]; exact .str _
  | .tup ds, _, _, h, fl => by
    cases h with
    | tup h1 h2 => rw [pyd]; exact .tup h1 (RepL.dp ds _ _ h2 (flat_tup fl))
  | .lst f ds, _, _, h, fl => by
    obtain ⟨a, vs, F', rfl, h1, h2, _, _⟩ := h.lst_inv
    rw [pyd]
    exact .lst h1 (RepL.dp ds _ _ h2 (flat_lst fl))
  | .dic f ds, _, _, h, fl => by obtain ⟨n, fl⟩ := fl; cases n <;> simp [flatN, D.scal] at fl
  | .obj f c ds, _, _, h, fl => by obtain ⟨n, fl⟩ := fl; cases n <;> simp [flatN, D.scal] at fl
theorem RepL.dp {Γ : Gm} {N S : Addr → Prop} {H : Hp} : ∀ (ds : List D) (vs : List V) (F : List Addr), RepL Γ N S H ds vs F → (∀ d ∈ ds, ∃ n, flatN n d = true) → DpAll Γ.K H vs (pyds ds)
  | [], _, _, h, _ => by cases h; rw [pyds]; exact .nil
  | d :: ds, _, _, h, fl => by
    cases h with
    | cons h1 h2 => rw [pyds]; exact .cons (Rep.dp d _ _ h1 (fl d List.mem_cons_self)) (RepL.dp ds _ _ h2 fun x z => fl x (List.mem_cons_of_mem _ z))
end

section
variable {Γ : Gm} {c : Ctx}
theorem val_sub : Val2 Γ (rI0 fun i j => .int (i - j)) (binop .sub) := by
  intro N S H x y d vx Fx vy Fy Q h rx ry q
  cases x <;> cases y <;> simp only [binop] at h <;> first
    | (cases h; done)
    | skip
  case int.int i j =>
    cases h; cases rx; cases ry
    exact ⟨i, j, rfl, rfl, q _ _ _ (Res.flat (.int _))⟩
abbrev rMulA (K : PySem.W.Frag) : R2 := fun x y H Q => rI CMul (fun i j => .int (i * j)) x y H Q ∨ rRepS K x y H Q ∨ rRepT K x y H Q ∨ rRep x y H Q
theorem opr_mul {X : Cx} : OpR X (binaryOp .Mult) (rMulA X.K) := op_mul.or (op_repS.or (op_repT.or op_rep))
theorem isIx_of {k : Int} (h : isIx k = true) : -(2 ^ 63) ≤ k ∧ k < 2 ^ 63 := by
  unfold isIx at h
  rw [Bool.and_eq_true, decide_eq_true_eq, decide_eq_true_eq] at h
  omega
theorem val_mul : Val2 Γ (rMulA Γ.K) (binop .mul) := by
  intro N S H x y d vx Fx vy Fy Q h rx ry q
  cases x <;> cases y <;> simp only [binop] at h <;> first
    | (cases h; done)
    | skip
  case int.int i j =>
    split at h
    · rename_i hs
      cases h; cases rx; cases ry
      refine .inl ⟨i, j, rfl, rfl, ?_, q _ _ _ (Res.flat (.int _))⟩
      rw [Bool.or_eq_true] at hs
      exact hs.imp int_small int_small
    · cases h
  case tup.int ds k =>
    obtain ⟨p, vs, rfl, hp, r1, rfl⟩ := rx.tup_inv
    have l1 := r1.length
    split at h
    · rename_i hc
      rw [Bool.and_eq_true, Bool.or_eq_true] at hc
      obtain ⟨hc, h3⟩ := hc
      cases h
      cases ry
      obtain ⟨h4, h5⟩ := isIx_of h3
      have e : (List.replicate k.toNat ds).flatten = ds := by
        rcases hc with hc | hc
        · have e1 : ds = [] := List.isEmpty_iff.mp hc
          subst e1
          simp
        · have e1 : k = 1 := by simpa using hc
          subst e1
          simp
      rw [e] at q
      refine .inr (.inl ⟨p, k, vs, rfl, rfl, hp, h4, h5, ?_, q _ _ _ (Res.flat rx)⟩)
      rcases hc with hc | hc
      · have e1 : ds = [] := List.isEmpty_iff.mp hc
        subst e1
        exact .inl (List.length_eq_zero_iff.mp l1.symm)
      · exact .inr (by simpa using hc)
    · split at h
      · rename_i hc
        cases h
        obtain ⟨hne, h2, h3, h4⟩ := hc
        cases ry
        refine .inr (.inr (.inl ⟨p, k, vs, rfl, rfl, hp, ?_, h2, h3, by omega, fun p hp => q _ _ _ (Res.newT hp (r1.rep' _))⟩))
        intro e
        subst e
        have e1 : ds = [] := List.length_eq_zero_iff.mp l1
        subst e1
        simp at hne
      · cases h
  case lst.int f ds k =>
    split at h
    · rename_i hc
      obtain ⟨hf, h2, h3⟩ := hc
      split at h
      · cases h
      · rename_i ho
        cases h
        obtain ⟨p, vs, F1, rfl, _, r1, _, hp⟩ := rx.lst_inv
        have e1 := r1.noOwn (by simpa using ho)
        subst e1
        cases ry
        have l1 := r1.length
        obtain ⟨h4, h5⟩ := isIx_of h3
        refine .inr (.inr (.inr ⟨p, k, vs, rfl, rfl, hp hf, h4, h5, by rw [sizeLine_line, ← l1]; exact h2, fun p hp => q _ _ _ (Res.newL hp (r1.rep' _))⟩))
    · cases h
theorem val_fdiv : Val2 Γ (rI CDivN fun i j => .int (i.fdiv j)) (binop .fdiv) := by
  intro N S H x y d vx Fx vy Fy Q h rx ry q
  cases x <;> cases y <;> simp only [binop] at h <;> first
    | (cases h; done)
    | skip
  case int.int i j =>
    split at h
    · rename_i hs
      cases h; cases rx; cases ry
      exact ⟨i, j, rfl, rfl, hs, q _ _ _ (Res.flat (.int _))⟩
    · cases h
theorem val_mod : Val2 Γ (rI (fun _ j => j ≠ 0) fun i j => .int (i.fmod j)) (binop .mod) := by
  intro N S H x y d vx Fx vy Fy Q h rx ry q
  cases x <;> cases y <;> simp only [binop] at h <;> first
    | (cases h; done)
    | skip
  case int.int i j =>
    split at h
    · rename_i hs
      cases h; cases rx; cases ry
      exact ⟨i, j, rfl, rfl, hs, q _ _ _ (Res.flat (.int _))⟩
    · cases h
theorem small_abs {i : Int} (h : isSmall i = true) : i.natAbs < 2 ^ 64 := by
  have := int_small h
  omega
theorem val_shl : Val2 Γ (rI CPow fun i j => .int (i * 2 ^ j.toNat)) (binop .shl) := by
  intro N S H x y d vx Fx vy Fy Q h rx ry q
  cases x <;> cases y <;> simp only [binop] at h <;> first
    | (cases h; done)
    | skip
  case int.int i j =>
    split at h
    · rename_i hs
      cases h; cases rx; cases ry
      exact ⟨i, j, rfl, rfl, ⟨hs.1, by omega, small_abs hs.2.2⟩, q _ _ _ (Res.flat (.int _))⟩
    · cases h
theorem val_pow : Val2 Γ (rI CPow fun i j => .int (i ^ j.toNat)) (binop .pow) := by
  intro N S H x y d vx Fx vy Fy Q h rx ry q
  cases x <;> cases y <;> simp only [binop] at h <;> first
    | (cases h; done)
    | skip
  case int.int i j =>
    split at h
    · rename_i hs
      cases h; cases rx; cases ry
      exact ⟨i, j, rfl, rfl, ⟨hs.1, by omega, small_abs hs.2.2⟩, q _ _ _ (Res.flat (.int _))⟩
    · cases h
theorem val_shr : Val2 Γ (rI (fun _ j => 0 ≤ j) fun i j => .int (i / 2 ^ j.toNat)) (binop .shr) := by
  intro N S H x y d vx Fx vy Fy Q h rx ry q
  cases x <;> cases y <;> simp only [binop] at h <;> first
    | (cases h; done)
    | skip
  case int.int i j =>
    split at h
    · rename_i hs
      cases h; cases rx; cases ry
      refine ⟨i, j, rfl, rfl, hs, ?_⟩
      show Q (.int (i / 2 ^ j.toNat)) H
      rw [← Int.fdiv_eq_ediv_of_nonneg i (two_pow_nn _)]
      exact q _ _ _ (Res.flat (.int _))
    · cases h
theorem bitAnd_one (x : Int) : Builtin.bitAnd x 1 = x.fmod 2 := by
  rw [Int.fmod_eq_emod_of_nonneg x (by decide)]
  by_cases h : 0 ≤ x
  · rw [PyProof.Rows.bitAnd_pp h (by decide)]
    have e : (x.toNat &&& (1 : Int).toNat) = x.toNat % 2 := by
      rw [show (1 : Int).toNat = 1 from rfl, Nat.and_one_is_mod]
    rw [e]
    omega
  · rw [PyProof.Rows.bitAnd_np h (by decide)]
    have e : ((1 : Int).toNat &&& (Builtin.bitNot x).toNat) = (Builtin.bitNot x).toNat % 2 := by
      rw [show (1 : Int).toNat = 1 from rfl, Nat.and_comm, Nat.and_one_is_mod]
    rw [e]
    unfold Builtin.bitNot
    omega
theorem val_band : Val2 Γ (rI0 fun i j => .int (Builtin.bitAnd i j)) (binop .band) := by
  intro N S H x y d vx Fx vy Fy Q h rx ry q
  cases x <;> cases y <;> simp only [binop] at h <;> first
    | (cases h; done)
    | skip
  case int.int i j =>
    split at h
    · rename_i hs
      subst hs
      cases h; cases rx; cases ry
      refine ⟨i, 1, rfl, rfl, ?_⟩
      show Q (.int (Builtin.bitAnd i 1)) H
      rw [bitAnd_one]
      exact q _ _ _ (Res.flat (.int _))
    · split at h
      · rename_i hs
        cases h; cases rx; cases ry
        refine ⟨i, j, rfl, rfl, ?_⟩
        show Q (.int (Builtin.bitAnd i j)) H
        rw [PyProof.Rows.bitAnd_pp hs.1 hs.2]
        exact q _ _ _ (Res.flat (.int _))
      · cases h

/-! ### comparisons -/
theorem val_eq : Val2 Γ (rEqD Γ.K) (cmpV c .eq) := by
  intro N S H x y d vx Fx vy Fy Q h rx ry q
  obtain ⟨b, h1, e1⟩ := cmpV_ok h
  subst e1
  clear h
  have h := h1
  clear h1
  unfold cmpD at h
  dsimp only at h
  split at h
  · rename_i hf
    rw [Bool.and_eq_true] at hf
    cases h
    refine ⟨pyd x, pyd y, Rep.dp x _ _ rx ⟨_, hf.1⟩, Rep.dp y _ _ ry ⟨_, hf.2⟩, flat_shaped hf.1, flat_shaped hf.2, ?_⟩
    rw [eqv_pyd x y ⟨_, hf.1⟩ ⟨_, hf.2⟩]
    exact q _ _ _ (Res.flat (.bl _))
  · cases h
theorem val_ne : Val2 Γ (rNeD Γ.K) (cmpV c .ne) := by
  intro N S H x y d vx Fx vy Fy Q h rx ry q
  obtain ⟨b, h1, e1⟩ := cmpV_ok h
  subst e1
  clear h
  have h := h1
  clear h1
  unfold cmpD at h
  dsimp only at h
  split at h
  · rename_i hf
    rw [Bool.and_eq_true] at hf
    cases h
    refine ⟨pyd x, pyd y, Rep.dp x _ _ rx ⟨_, hf.1⟩, Rep.dp y _ _ ry ⟨_, hf.2⟩, flat_shaped hf.1, flat_shaped hf.2, ?_⟩
    rw [eqv_pyd x y ⟨_, hf.1⟩ ⟨_, hf.2⟩]
    exact q _ _ _ (Res.flat (.bl _))
  · cases h
theorem pyds_any (xs : List D) (x : D) (hx : x.flat = true) (hxs : flatL xs = true) : ((pyds xs).any fun z => PyData.eqv z (pyd x)) = xs.any fun y => D.eq y x := by
  rw [pyds_map, List.any_map]
  have h2 := List.all_eq_true.mp hxs
  induction xs with
  | nil => rfl
  | cons y ys ih =>
    rw [List.any_cons, List.any_cons]
    have e : ((fun z => PyData.eqv z (pyd x)) ∘ pyd) y = D.eq y x := eqv_pyd y x ⟨_, h2 y List.mem_cons_self⟩ ⟨_, hx⟩
    rw [e, ih (by unfold flatL at hxs ⊢; rw [List.all_cons, Bool.and_eq_true] at hxs; exact hxs.2) fun z hz => h2 z (List.mem_cons_of_mem _ hz)]
end
end Lz
end

section
set_option autoImplicit false
set_option maxRecDepth 100000
namespace Lz
open PySem PySem.Spec L2

section
variable {Γ : Gm} {c : Ctx}
theorem val_gt : Val2 Γ (rI0 fun i j => .bl (decide (j < i))) (cmpV c .gt) := by
  intro N S H x y d vx Fx vy Fy Q h rx ry q
  obtain ⟨b, h1, e1⟩ := cmpV_ok h
  subst e1
  unfold cmpD at h1
  dsimp only at h1
  split at h1
  · cases h1; cases rx; cases ry
    exact ⟨_, _, rfl, rfl, q _ _ _ (Res.flat (.bl _))⟩
  · cases h1
theorem val_le : Val2 Γ (rI0 fun i j => .bl (decide (i ≤ j))) (cmpV c .le) := by
  intro N S H x y d vx Fx vy Fy Q h rx ry q
  obtain ⟨b, h1, e1⟩ := cmpV_ok h
  subst e1
  unfold cmpD at h1
  dsimp only at h1
  split at h1
  · cases h1; cases rx; cases ry
    exact ⟨_, _, rfl, rfl, q _ _ _ (Res.flat (.bl _))⟩
  · cases h1
theorem val_ge : Val2 Γ (rI0 fun i j => .bl (decide (j ≤ i))) (cmpV c .ge) := by
  intro N S H x y d vx Fx vy Fy Q h rx ry q
  obtain ⟨b, h1, e1⟩ := cmpV_ok h
  subst e1
  unfold cmpD at h1
  dsimp only at h1
  split at h1
  · cases h1; cases rx; cases ry
    exact ⟨_, _, rfl, rfl, q _ _ _ (Res.flat (.bl _))⟩
  · cases h1
theorem val_lt : Val2 Γ (rI0 fun i j => .bl (decide (i < j))) (cmpV c .lt) := by
  intro N S H x y d vx Fx vy Fy Q h rx ry q
  obtain ⟨b, h1, e1⟩ := cmpV_ok h
  subst e1
  unfold cmpD at h1
  dsimp only at h1
  split at h1
  · cases h1; cases rx; cases ry
    exact ⟨_, _, rfl, rfl, q _ _ _ (Res.flat (.bl _))⟩
  · cases h1
/-- in a list of data, in a tuple of scalars -/
abbrev rInA (K : PySem.W.Frag) : R2 := fun x y H Q => rInD K x y H Q ∨ rIn K false x y H Q
abbrev rNotInA (K : PySem.W.Frag) : R2 := fun x y H Q => rNotInD K x y H Q ∨ rIn K true x y H Q
theorem opr_in {X : Cx} (hu : X.A.units + 65 < cLine) : OpR X (compareOp .In) (rInA X.K) := (op_inD hu).or op_in_seq
theorem opr_notin {X : Cx} (hu : X.A.units + 65 < cLine) : OpR X (compareOp .NotIn) (rNotInA X.K) := (op_notInD hu).or op_notIn_seq
theorem scal_flatV {N S : Addr → Prop} {H : Hp} {d : D} {v : V} {F : List Addr} (h : d.scal = true) (r : Rep Γ N S H d v F) : flatV v = true := by
  cases r <;> first | rfl | (simp [D.scal] at h)
theorem ofString_dec (s t : String) : (Str.ofString s == Str.ofString t) = decide (s = t) := by
  by_cases h : s = t
  · subst h; simp
  · have h2 : ¬ Str.ofString s = Str.ofString t := fun e => h (ofString_inj e)
    rw [decide_eq_false h]
    exact beq_eq_false_iff_ne.mpr h2
theorem scal_eqV {N S : Addr → Prop} {H : Hp} {d e : D} {v u : V} {F G : List Addr} (h : d.scal = true) (h' : e.scal = true) (r : Rep Γ N S H d v F) (r' : Rep Γ N S H e u G) : eqV v u = D.eq d e := by
  cases r <;> first | (simp [D.scal] at h; done) | (cases r' <;> first | (simp [D.scal] at h'; done) | (simp [eqV, D.eq]; done) | (simp only [eqV, D.eq]; exact beq_eq_decide' _ _) | (simp only [eqV, D.eq]; exact ofString_dec _ _))
theorem scals_flatV {N S : Addr → Prop} {H : Hp} : ∀ {ds : List D} {vs : List V} {F : List Addr}, ds.all D.scal = true → RepL Γ N S H ds vs F → vs.all flatV = true
  | [], _, _, _, r => by cases r; rfl
  | d :: ds, _, _, h, r => by
    cases r with
    | cons r1 r2 =>
      rw [List.all_cons, Bool.and_eq_true] at h
      rw [List.all_cons, scal_flatV h.1 r1, scals_flatV h.2 r2]; rfl
theorem scals_inV {N S : Addr → Prop} {H : Hp} {x : D} {vx : V} {Fx : List Addr} (hx : x.scal = true) (rx : Rep Γ N S H x vx Fx) : ∀ {ds : List D} {vs : List V} {F : List Addr}, ds.all D.scal = true → RepL Γ N S H ds vs F → inV vx vs = ds.any fun y => D.eq y x
  | [], _, _, _, r => by cases r; rfl
  | d :: ds, _, _, h, r => by
    cases r with
    | cons r1 r2 =>
      rw [List.all_cons, Bool.and_eq_true] at h
      have ih := scals_inV hx rx h.2 r2
      unfold inV at ih ⊢
      rw [List.any_cons, List.any_cons, ih, scal_eqV h.1 hx r1 rx]
theorem val_in : Val2 Γ (rInA Γ.K) (cmpV c .isin) := by
  intro N S H x y d vx Fx vy Fy Q h rx ry q
  obtain ⟨b, h1, e1⟩ := cmpV_ok h
  subst e1
  unfold cmpD at h1
  dsimp only at h1
  unfold isIn at h1
  cases y with
  | lst f xs =>
    dsimp only at h1
    split at h1
    · rename_i hf
      rw [Bool.and_eq_true] at hf
      cases h1
      obtain ⟨p, vs, F1, rfl, hl, r1, _, _⟩ := ry.lst_inv
      refine .inl ⟨pyd x, pyds xs, Rep.dp x _ _ rx ⟨_, hf.1⟩, .lst hl (RepL.dp xs _ _ r1 fun d hd => ⟨60, List.all_eq_true.mp hf.2 d hd⟩), flat_shaped hf.1, flats_shaped hf.2, ?_⟩
      rw [pyds_any xs x hf.1 hf.2]
      exact q _ _ _ (Res.flat (.bl _))
    · cases h1
  | tup xs =>
    dsimp only at h1
    split at h1
    · rename_i hf
      rw [Bool.and_eq_true] at hf
      cases h1
      obtain ⟨p, vs, rfl, hl, r1, _⟩ := ry.tup_inv
      refine .inr ⟨p, vs, rfl, .inr hl, scal_flatV hf.1 rx, scals_flatV hf.2 r1, ?_⟩
      rw [scals_inV hf.1 rx hf.2 r1]
      exact q _ _ _ (Res.flat (.bl _))
    · cases h1
  | _ => cases h1
theorem val_notin : Val2 Γ (rNotInA Γ.K) (cmpV c .notin) := by
  intro N S H x y d vx Fx vy Fy Q h rx ry q
  obtain ⟨b, h1, e1⟩ := cmpV_ok h
  subst e1
  unfold cmpD at h1
  dsimp only at h1
  obtain ⟨b', h3, e3⟩ := bok h1
  clear h1 h
  have h1 := h3
  clear h3
  have e4 : b = !b' := by cases e3; rfl
  subst e4
  unfold isIn at h1
  cases y with
  | lst f xs =>
    dsimp only at h1
    split at h1
    · rename_i hf
      rw [Bool.and_eq_true] at hf
      cases h1
      obtain ⟨p, vs, F1, rfl, hl, r1, _, _⟩ := ry.lst_inv
      refine .inl ⟨pyd x, pyds xs, Rep.dp x _ _ rx ⟨_, hf.1⟩, .lst hl (RepL.dp xs _ _ r1 fun d hd => ⟨60, List.all_eq_true.mp hf.2 d hd⟩), flat_shaped hf.1, flats_shaped hf.2, ?_⟩
      rw [pyds_any xs x hf.1 hf.2]
      exact q _ _ _ (Res.flat (.bl _))
    · cases h1
  | tup xs =>
    dsimp only at h1
    split at h1
    · rename_i hf
      rw [Bool.and_eq_true] at hf
      cases h1
      obtain ⟨p, vs, rfl, hl, r1, _⟩ := ry.tup_inv
      refine .inr ⟨p, vs, rfl, .inr hl, scal_flatV hf.1 rx, scals_flatV hf.2 r1, ?_⟩
      rw [scals_inV hf.1 rx hf.2 r1]
      exact q _ _ _ (Res.flat (.bl _))
    · cases h1
  | _ => cases h1
end
end Lz
end

section
set_option autoImplicit false
set_option maxRecDepth 100000
namespace Lz
open PySem PySem.Spec L2

/-- a value's truth: HandS's, or a dict of ours -/
def TruW (K : PySem.W.Frag) (w : World) (x : V) (H : Hp) (k : Bool) : Prop :=
  TruV K x H k
theorem paired_len {α β : Type} {P : α → β → Prop} {xs : List α} {ys : List β} (h : Paired P xs ys) : xs.length = ys.length := Paired.length h
theorem empty_len {α β : Type} {xs : List α} {ys : List β} (h : xs.length = ys.length) : xs.isEmpty = ys.isEmpty := by
  cases xs <;> cases ys <;> first | rfl | (simp at h)
theorem tru_okW {X : Cx} : TruR X (fun x H Q => ∃ k, TruW X.K X.w x H k ∧ Q k H) := by
  intro pins s σ H x v Q I rx h
  obtain ⟨k, e, q⟩ := h
  exact tru_ok pins s σ H x v Q I rx ⟨k, e, q⟩

theorem RepK.length {Γ : Gm} {N S : Addr → Prop} {H : Hp} : ∀ {ds : List (D × D)} {ts : List (NestedKey × V × V)} {F : List Addr}, RepK Γ N S H ds ts F → ds.length = ts.length
  | [], _, _, h => by cases h; rfl
  | (k, d) :: ds, _, _, h => by
    cases h with
    | cons _ _ _ _ h5 => simp [RepK.length h5]
theorem Rep.dic_inv {Γ : Gm} {N S : Addr → Prop} {H : Hp} {f : Fg} {ds : List (D × D)} {v : V} {F : List Addr} (h : Rep Γ N S H (.dic f ds) v F) : ∃ a o ts F', v = .ref a ∧ H a = some (pin a o) ∧ DictObj Γ.w o ts ∧ (a == sysModules) = false ∧ RepK Γ N S H ds ts F' ∧ (∀ b ∈ F', b ∈ F) := by
  cases h with
  | dicO h1 h2 h3 h4 => exact ⟨_, _, _, _, rfl, h1, h2, h3, h4, fun b z => List.mem_cons_of_mem _ z⟩
  | dicS h1 h2 h3 h4 h5 h6 => exact ⟨_, _, _, _, rfl, h1, h2, h3, h6, fun b z => z⟩
  | dicG h1 h2 h3 h4 h6 => exact ⟨_, _, _, _, rfl, h1, h2, h3, h6, fun b z => z⟩
theorem rep_tru {Γ : Gm} {N S : Addr → Prop} {H : Hp} {d : D} {v : V} {F : List Addr} {b : Bool} (r : Rep Γ N S H d v F) (h : truth d = .ok b) : TruW Γ.K Γ.w v H b := by
  cases d with
  | non => cases h; cases r; exact rfl
  | bl b => cases h; cases r; exact rfl
  | int i => cases h; cases r; exact rfl
  | str s =>
    unfold truth at h
    dsimp only at h
    split at h
    · rename_i hl
      cases h; cases r
      refine show _ ∧ _ from ⟨by rw [ofString_length, sizeLine_line]; exact hl, ?_⟩
      rw [ofString_length]
      by_cases e : s = ""
      · subst e; rfl
      · have e1 : (s != "") = true := by simpa using e
        have e2 : s.length ≠ 0 := fun z => e (String.length_eq_zero_iff.mp z)
        rw [e1]
        have e3 : ((s.length : Int) != 0) = true := by simpa using e2
        exact e3.symm
    · cases h
  | tup xs =>
    cases h
    obtain ⟨p, vs, rfl, hp, r1, _⟩ := r.tup_inv
    exact .inr (.inl ⟨vs, hp, by rw [empty_len r1.length]⟩)
  | lst f xs =>
    cases h
    obtain ⟨p, vs, F1, rfl, hp, r1, _, _⟩ := r.lst_inv
    exact .inl ⟨vs, hp, by rw [empty_len r1.length]⟩
  | dic f xs => cases h
  | obj f c xs => cases h

section
variable {X : Cx} {cA : String → Option Addr} {fl : String → List String} {A : Ac} {c : Ctx} {ro pk : Bool} {pos pos' : Pos} {k : Nat} {a b e : Expr} {ia ib ic : E} {rest : List Expr}

theorem tt_truth (ha : ∀ ro pk, PE X a (TEv (gm X cA fl) A c ro pk ia)) (he : ∀ whole, isTrue a X.env whole = (do let v ← whole; standAt a.pos; holding [v] (truthy v))) : PT X a (TTv (gm X cA fl) A c ro pk ia) := by
  refine ⟨fun pins s σ H Q I h => ?_⟩
  obtain ⟨S, Fs, env, d, env', b, s0, h1, h2, q⟩ := h
  refine PyProof.Rows.isTrue_plain (thn ((ha ro pk).run pins s σ H (fun v H1 => TruW X.K X.w v H1 b ∧ Q b H1) I ⟨S, Fs, env, d, env', s0, h1, fun S' Fs' H' v F g => ⟨rep_tru g.rep h2, q S' Fs' H' g.sr g.chg⟩⟩) fun v s1 ⟨x, H1, I1, r1, q1, q2⟩ => ?_) (he _)
  exact tru_okW pins s1 σ H1 x v Q I1 r1 ⟨b, q1, q2⟩

theorem te_isN {j : Nat} (ha : ∀ ro pk, PE X a (TEv (gm X cA fl) A c ro pk ia)) : PE X (.Compare a [.Is] [.Constant .none j pos'] pos) (TEv (gm X cA fl) A c ro pk (.isN ia)) :=
  pe_weak (pe_cmpR op_isN (ha ro true) pe_non (nomark _)) fun σ H Q h => by
  obtain ⟨S, Fs, env, d, env', s, h1, q⟩ := h
  rw [ev] at h1
  obtain ⟨⟨x, env1⟩, h2, h1⟩ := bok h1
  cases h1
  refine ⟨S, Fs, env, x, _, s, h2, fun S1 Fs1 H1 v F g => ⟨rfl, ?_⟩⟩
  have e : decide (v = V.non) = x.isNone := by
    have r := g.rep
    cases r <;> first | rfl | exact decide_eq_false (fun q => nomatch q)
  rw [e]
  exact q _ _ _ _ _ (Got.flat g.sr g.chg (.bl _))
theorem te_notN {j : Nat} (ha : ∀ ro pk, PE X a (TEv (gm X cA fl) A c ro pk ia)) : PE X (.Compare a [.IsNot] [.Constant .none j pos'] pos) (TEv (gm X cA fl) A c ro pk (.notN ia)) :=
  pe_weak (pe_cmpR op_notN (ha ro true) pe_non (nomark _)) fun σ H Q h => by
  obtain ⟨S, Fs, env, d, env', s, h1, q⟩ := h
  rw [ev] at h1
  obtain ⟨⟨x, env1⟩, h2, h1⟩ := bok h1
  cases h1
  refine ⟨S, Fs, env, x, _, s, h2, fun S1 Fs1 H1 v F g => ⟨rfl, ?_⟩⟩
  have e : (!decide (v = V.non)) = !x.isNone := by
    have r := g.rep
    cases r <;> first | rfl | (rw [decide_eq_false (fun q => nomatch q)]; rfl)
  rw [e]
  exact q _ _ _ _ _ (Got.flat g.sr g.chg (.bl _))
theorem ev_isN {env env' : Lz.Env} {d : D} (h : ev c ro pk (.isN ia) env = .ok (d, env')) : ∃ b, d = .bl b := by
  rw [ev] at h
  obtain ⟨⟨x, env1⟩, h2, h1⟩ := bok h
  cases h1
  exact ⟨_, rfl⟩
theorem ev_notN {env env' : Lz.Env} {d : D} (h : ev c ro pk (.notN ia) env = .ok (d, env')) : ∃ b, d = .bl b := by
  rw [ev] at h
  obtain ⟨⟨x, env1⟩, h2, h1⟩ := bok h
  cases h1
  exact ⟨_, rfl⟩
/-- a test of a comparison by its value's rule -/
theorem tt_cmp1 {op : CmpOp} {ir : E} (hir : pathOf ir = none) {r : R2} {ta tb : TE} (hr : OpR X (compareOp op) r) (ha : PE X a ta) (hb : PE X b tb) (hm : behindInMarks op b = false)
    (hw : ∀ σ H Q, TEv (gm X cA fl) A c ro pk ir σ H Q → tOp r ta tb σ H Q) (hbl : ∀ env d env', ev c ro pk ir env = .ok (d, env') → ∃ b, d = .bl b) : PT X (.Compare a [op] [b] pos) (TTv (gm X cA fl) A c ro pk ir) :=
  pt_weak (pt_cmpR hr ha hb hm) (tt_of hir hw hbl)

theorem te_neg (ha : ∀ ro pk, PE X a (TEv (gm X cA fl) A c ro pk ia)) : PE X (.UnaryOp .USub a pos) (TEv (gm X cA fl) A c ro pk (.neg ia)) :=
  pe_weak (pe_un un_neg (ha ro true)) fun σ H Q h => by
  obtain ⟨S, Fs, env, d, env', s, h1, q⟩ := h
  rw [ev] at h1
  obtain ⟨⟨x, env1⟩, h2, h1⟩ := bok h1
  dsimp only at h1
  split at h1
  · cases h1
    refine ⟨S, Fs, env, _, _, s, h2, fun S1 Fs1 H1 v F g => ?_⟩
    have r := g.rep
    cases r
    exact ⟨_, rfl, q _ _ _ _ _ (Got.flat g.sr g.chg (.int _))⟩
  · cases h1
theorem te_not (ha : ∀ ro pk, PE X a (TEv (gm X cA fl) A c ro pk ia)) : PE X (.UnaryOp .Not a pos) (TEv (gm X cA fl) A c ro pk (.notE ia)) := by
  refine ⟨fun pins s σ H Q I h => ?_⟩
  obtain ⟨S, Fs, env, d, env', s0, h1, q⟩ := h
  rw [ev] at h1
  obtain ⟨⟨x, env1⟩, h2, h1⟩ := bok h1
  obtain ⟨t, h3, h1⟩ := bok h1
  cases h1
  refine PyProof.Rows.UnaryOp_ (thn ((ha ro true).run pins s σ H (fun v H1 => TruW X.K X.w v H1 t ∧ Q (.bl (!t)) H1) I ⟨S, Fs, env, x, _, s0, h2, fun S' Fs' H' v F g => ⟨rep_tru g.rep h3, q _ _ _ _ _ (Got.flat g.sr g.chg (.bl _))⟩⟩) fun v s1 ⟨y, H1, I1, r1, q1, q2⟩ => ?_)
  refine PyProof.Rows.not_of (thn (tru_okW pins s1 σ H1 y v (fun b H2 => b = t ∧ H2 = H1) I1 r1 ⟨t, q1, rfl, rfl⟩) fun b s2 ⟨H2, I2, e1, e2⟩ => ?_)
  subst e1; subst e2
  exact ⟨.bl (!b), _, I2, rfl, q2⟩
theorem tt_not (ha : PT X a (TTv (gm X cA fl) A c ro true ia)) : PT X (.UnaryOp .Not a pos) (TTv (gm X cA fl) A c ro pk (.notE ia)) := pt_weak (pt_not ha) fun σ H Q h => by
  obtain ⟨S, Fs, env, d, env', b, s, h1, h2, q⟩ := h
  rw [ev] at h1
  obtain ⟨⟨x, env1⟩, h3, h1⟩ := bok h1
  obtain ⟨t, h4, h1⟩ := bok h1
  cases h1
  cases h2
  exact ⟨S, Fs, env, x, _, t, s, h3, h4, fun S' Fs' H' s' c' => q S' Fs' H' s' c'⟩
end
end Lz
end

section
set_option autoImplicit false
set_option maxRecDepth 100000
namespace Lz
open PySem PySem.Spec L2

section
variable {X : Cx} {cA : String → Option Addr} {fl : String → List String} {A : Ac} {c : Ctx} {ro pk : Bool} {pos pos' : Pos} {k : Nat} {a b e : Expr} {ia ib ic : E} {rest : List Expr}

theorem ev_and {env env' : Lz.Env} {d : D} (h : ev c ro pk (.andE ia ib) env = .ok (d, env')) : ∃ x env1 t, ev c ro false ia env = .ok (x, env1) ∧ truth x = .ok t ∧ (t = true → ev c ro false ib env1 = .ok (d, env')) ∧ (t = false → d = x ∧ env' = env1) := by
  rw [ev] at h
  obtain ⟨⟨x, env1⟩, h2, h1⟩ := bok h
  obtain ⟨t, h3, h1⟩ := bok h1
  refine ⟨x, env1, t, h2, h3, fun z => ?_, fun z => ?_⟩
  · subst z; exact h1
  · subst z; cases h1; exact ⟨rfl, rfl⟩
theorem ev_or {env env' : Lz.Env} {d : D} (h : ev c ro pk (.orE ia ib) env = .ok (d, env')) : ∃ x env1 t, ev c ro false ia env = .ok (x, env1) ∧ truth x = .ok t ∧ (t = false → ev c ro false ib env1 = .ok (d, env')) ∧ (t = true → d = x ∧ env' = env1) := by
  rw [ev] at h
  obtain ⟨⟨x, env1⟩, h2, h1⟩ := bok h
  obtain ⟨t, h3, h1⟩ := bok h1
  refine ⟨x, env1, t, h2, h3, fun z => ?_, fun z => ?_⟩
  · subst z; exact h1
  · subst z; cases h1; exact ⟨rfl, rfl⟩

theorem te_and (ha : ∀ ro pk, PE X a (TEv (gm X cA fl) A c ro pk ia)) (hb : ∀ ro pk, PE X (.BoolOp .And (b :: rest) pos) (TEv (gm X cA fl) A c ro pk ib)) : PE X (.BoolOp .And (a :: b :: rest) pos) (TEv (gm X cA fl) A c ro pk (.andE ia ib)) := by
  refine ⟨fun pins s σ H Q I h => ?_⟩
  obtain ⟨S, Fs, env, d, env', s0, h1, q⟩ := h
  obtain ⟨x, env1, t, h2, h3, ht, hf⟩ := ev_and h1
  refine PyProof.Rows.BoolOp_and (thn ((ha ro false).run pins s σ H (fun v H1 => TruW X.K X.w v H1 t ∧ if t = true then TEv (gm X cA fl) A c ro false ib σ H1 Q else Q v H1) I ⟨S, Fs, env, x, env1, s0, h2, fun S' Fs' H' v F g => ⟨rep_tru g.rep h3, ?_⟩⟩) fun v s1 ⟨y, H1, I1, r1, q1, q2⟩ => ?_)
  · cases t with
    | true =>
      rw [if_pos rfl]
      exact ⟨S', Fs', env1, d, env', g.sr, ht rfl, fun S2 Fs2 H2 v2 F2 g2 => q _ _ _ _ _ (Got.after g.chg (g2.weak (fun h => h) (.inr rfl)))⟩
    | false =>
      rw [if_neg Bool.false_ne_true]
      obtain ⟨e1, e2⟩ := hf rfl
      subst e1; subst e2
      exact q _ _ _ _ _ (g.weak (fun h => h) (.inr rfl))
  · refine thn (tru_okW pins s1 σ H1 y v (fun b H2 => b = t ∧ H2 = H1) I1 r1 ⟨t, q1, rfl, rfl⟩) fun b s2 ⟨H2, I2, e1, e2⟩ => ?_
    subst e1; subst e2
    cases b with
    | true => exact (hb ro false).run pins s2 σ _ Q I2 q2
    | false => exact ⟨y, _, I2, r1, q2⟩
theorem te_or (ha : ∀ ro pk, PE X a (TEv (gm X cA fl) A c ro pk ia)) (hb : ∀ ro pk, PE X (.BoolOp .Or (b :: rest) pos) (TEv (gm X cA fl) A c ro pk ib)) : PE X (.BoolOp .Or (a :: b :: rest) pos) (TEv (gm X cA fl) A c ro pk (.orE ia ib)) := by
  refine ⟨fun pins s σ H Q I h => ?_⟩
  obtain ⟨S, Fs, env, d, env', s0, h1, q⟩ := h
  obtain ⟨x, env1, t, h2, h3, ht, hf⟩ := ev_or h1
  refine PyProof.Rows.BoolOp_or (thn ((ha ro false).run pins s σ H (fun v H1 => TruW X.K X.w v H1 t ∧ if t = true then Q v H1 else TEv (gm X cA fl) A c ro false ib σ H1 Q) I ⟨S, Fs, env, x, env1, s0, h2, fun S' Fs' H' v F g => ⟨rep_tru g.rep h3, ?_⟩⟩) fun v s1 ⟨y, H1, I1, r1, q1, q2⟩ => ?_)
  · cases t with
    | false =>
      rw [if_neg Bool.false_ne_true]
      exact ⟨S', Fs', env1, d, env', g.sr, ht rfl, fun S2 Fs2 H2 v2 F2 g2 => q _ _ _ _ _ (Got.after g.chg (g2.weak (fun h => h) (.inr rfl)))⟩
    | true =>
      rw [if_pos rfl]
      obtain ⟨e1, e2⟩ := hf rfl
      subst e1; subst e2
      exact q _ _ _ _ _ (g.weak (fun h => h) (.inr rfl))
  · refine thn (tru_okW pins s1 σ H1 y v (fun b H2 => b = t ∧ H2 = H1) I1 r1 ⟨t, q1, rfl, rfl⟩) fun b s2 ⟨H2, I2, e1, e2⟩ => ?_
    subst e1; subst e2
    cases b with
    | false => exact (hb ro false).run pins s2 σ _ Q I2 q2
    | true => exact ⟨y, _, I2, r1, q2⟩
theorem te_one {op : BoolOp} (ha : PE X a (TEv (gm X cA fl) A c ro pk ia)) : PE X (.BoolOp op [a] pos) (TEv (gm X cA fl) A c ro pk ia) := pe_one ha

/-! ### as tests -/
theorem tw_and (ha : PT X a (TTv (gm X cA fl) A c ro false ia)) (hb : PW X (.BoolOp .And (b :: rest) pos) (TTv (gm X cA fl) A c ro false ib)) : PW X (.BoolOp .And (a :: b :: rest) pos) (TTv (gm X cA fl) A c ro pk (.andE ia ib)) :=
  pw_weak (pw_and ha hb) fun σ H Q h => by
  obtain ⟨S, Fs, env, d, env', r, s, h1, h2, q⟩ := h
  obtain ⟨x, env1, t, h3, h4, ht, hf⟩ := ev_and h1
  refine ⟨S, Fs, env, x, env1, t, s, h3, h4, fun S' Fs' H' s' c' => ?_⟩
  cases t with
  | true =>
    rw [if_pos rfl]
    exact ⟨S', Fs', env1, d, env', r, s', ht rfl, h2, fun S2 Fs2 H2 s2 c2 => q S2 Fs2 H2 s2 (c'.trans c2)⟩
  | false =>
    rw [if_neg Bool.false_ne_true]
    obtain ⟨e1, e2⟩ := hf rfl
    subst e1; subst e2
    rw [h4] at h2
    cases h2
    exact q S' Fs' H' s' c'
theorem tw_or (ha : PT X a (TTv (gm X cA fl) A c ro false ia)) (hb : PW X (.BoolOp .Or (b :: rest) pos) (TTv (gm X cA fl) A c ro false ib)) : PW X (.BoolOp .Or (a :: b :: rest) pos) (TTv (gm X cA fl) A c ro pk (.orE ia ib)) :=
  pw_weak (pw_or ha hb) fun σ H Q h => by
  obtain ⟨S, Fs, env, d, env', r, s, h1, h2, q⟩ := h
  obtain ⟨x, env1, t, h3, h4, ht, hf⟩ := ev_or h1
  refine ⟨S, Fs, env, x, env1, t, s, h3, h4, fun S' Fs' H' s' c' => ?_⟩
  cases t with
  | false =>
    rw [if_neg Bool.false_ne_true]
    exact ⟨S', Fs', env1, d, env', r, s', ht rfl, h2, fun S2 Fs2 H2 s2 c2 => q S2 Fs2 H2 s2 (c'.trans c2)⟩
  | true =>
    rw [if_pos rfl]
    obtain ⟨e1, e2⟩ := hf rfl
    subst e1; subst e2
    rw [h4] at h2
    cases h2
    exact q S' Fs' H' s' c'
theorem tw_and1 (ha : PT X a (TTv (gm X cA fl) A c ro pk ia)) : PW X (.BoolOp .And [a] pos) (TTv (gm X cA fl) A c ro pk ia) := pw_and1 ha
theorem tw_or1 (ha : PT X a (TTv (gm X cA fl) A c ro pk ia)) : PW X (.BoolOp .Or [a] pos) (TTv (gm X cA fl) A c ro pk ia) := pw_or1 ha

theorem te_ite {t : Expr} {it : E} (ht : PT X t (TTv (gm X cA fl) A c ro true it)) (ha : ∀ ro pk, PE X a (TEv (gm X cA fl) A c ro pk ia)) (hb : ∀ ro pk, PE X b (TEv (gm X cA fl) A c ro pk ib)) : PE X (.IfExp t a b pos) (TEv (gm X cA fl) A c ro pk (.ite it ia ib)) :=
  pe_weak (pe_ifExp ht (ha ro false) (hb ro false)) fun σ H Q h => by
  obtain ⟨S, Fs, env, d, env', s, h1, q⟩ := h
  rw [ev] at h1
  obtain ⟨⟨x, env1⟩, h2, h1⟩ := bok h1
  obtain ⟨r, h3, h1⟩ := bok h1
  refine ⟨S, Fs, env, x, env1, r, s, h2, h3, fun S' Fs' H' s' c' => ?_⟩
  cases r with
  | true =>
    rw [if_pos rfl]
    exact ⟨S', Fs', env1, d, env', s', h1, fun S2 Fs2 H2 v2 F2 g2 => q _ _ _ _ _ (Got.after c' (g2.weak (fun h => h) (.inr rfl)))⟩
  | false =>
    rw [if_neg Bool.false_ne_true]
    exact ⟨S', Fs', env1, d, env', s', h1, fun S2 Fs2 H2 v2 F2 g2 => q _ _ _ _ _ (Got.after c' (g2.weak (fun h => h) (.inr rfl)))⟩

/-! ### chains -/
theorem chain_reads {o1 o2 : Cm} {r1 r2 : R2} (h1 : Val2 (gm X cA fl) r1 (cmpV c o1)) (h2 : Val2 (gm X cA fl) r2 (cmpV c o2)) (σ : St) (H : Hp) (Q : VK) (h : TEv (gm X cA fl) A c ro pk (.chain o1 o2 ia ib ic) σ H Q) :
    tChain r1 r2 (TEv (gm X cA fl) A c ro (roE ib && roE ic) ia) (TEv (gm X cA fl) A c (ro || (roE ib && roE ic)) (roE ib && roE ic) ib) (TEv (gm X cA fl) A c (ro || (roE ib && roE ic)) (roE ib && roE ic) ic) σ H Q := by
  obtain ⟨S, Fs, env, d, env', s, h0, q⟩ := h
  rw [ev] at h0
  generalize hm : (roE ib && roE ic) = m at *
  dsimp only at h0
  obtain ⟨⟨x, env1⟩, e1, h0⟩ := bok h0
  obtain ⟨⟨y, env2⟩, e2, h0⟩ := bok h0
  obtain ⟨b1, e3, h0⟩ := bok h0
  refine ⟨S, Fs, env, x, env1, s, e1, fun S1 Fs1 H1 v F g => ?_⟩
  refine ⟨S1, Fs1, env1, y, env2, g.sr, e2, fun S2 Fs2 H2 u G g2 => ?_⟩
  have hF : (ro || m) = true ∨ ∀ a ∈ F, ∀ i, a ∉ Fs1 i := by
    cases m with
    | true => exact .inl (by simp)
    | false => exact .inr fun a z => ((g.fresh (.inl rfl)).2 a z).2.2.1
  have c2 : Chg ro S1 Fs1 H1 env1 S2 Fs2 H2 env2 := g2.chg.weak fun h => by simp [h]
  refine h1 A.N S2 H2 x y (.bl b1) v F u G _ (by unfold cmpV; rw [e3]; rfl) (g.sr.stayR g2.chg hF g.rep) g2.rep fun H' w F' rs => ?_
  have ew : w = .bl b1 := by
    have r := rs.rep
    cases r
    rfl
  refine ⟨b1, ew, ?_⟩
  have s3 := g2.sr.ext rs.ext
  have c3 : Chg ro S Fs H env S2 Fs2 H' env2 := (g.chg.trans c2).trans (Chg.ext rs.ext)
  cases b1 with
  | false =>
    rw [if_neg Bool.false_ne_true]
    cases h0
    exact q _ _ _ _ _ (Got.flat s3 c3 (.bl _))
  | true =>
    rw [if_pos rfl]
    obtain ⟨⟨z, env3⟩, e4, h0⟩ := bok h0
    obtain ⟨b2, e5, h0⟩ := bok h0
    cases h0
    refine ⟨S2, Fs2, env2, z, _, s3, e4, fun S4 Fs4 H4 t T g4 => ?_⟩
    have hG : (ro || m) = true ∨ ∀ a ∈ G, ∀ i, a ∉ Fs2 i := by
      cases m with
      | true => exact .inl (by simp)
      | false => exact .inr fun a z => ((g2.fresh (.inl rfl)).2 a z).2.2.1
    have ry : Rep (gm X cA fl) A.N S2 H' y u G := Rep.stay y u G g2.rep (fun a o e _ => rs.ext a o e) (fun _ h => h) fun _ h => h
    have c4 : Chg ro S2 Fs2 H' env2 S4 Fs4 H4 _ := g4.chg.weak fun h => by simp [h]
    refine h2 A.N S4 H4 y z (.bl b2) u G t T _ (by unfold cmpV; rw [e5]; rfl) (s3.stayR g4.chg hG ry) g4.rep fun H5 w5 F5 r5 => ?_
    exact q _ _ _ _ _ (r5.got g4.sr (c3.trans c4))
end
end Lz
end

section
set_option autoImplicit false
set_option maxRecDepth 100000
namespace Lz
open PySem PySem.Spec L2

theorem atI_of {α : Type} {xs : List α} {i : Int} {j : Nat} {x : α} (h : ixN xs.length i = some j) (e : xs[j]? = some x) : L2.atI xs i = some x := by
  unfold L2.atI
  have h' : L2.ixN xs.length i = some j := h
  rw [h']
  exact e
theorem ixN_lt {n : Nat} {i : Int} {j : Nat} (h : ixN n i = some j) : j < n := (ixN_seq (show L2.ixN n i = some j from h)).2.1

/-- what an item's reading asks: lists, tuples, texts (dicts: below) -/
abbrev rIxA (K : PySem.W.Frag) (rd : R2) : R2 := fun x y H Q => rIx K x y H Q ∨ rd x y H Q
section
variable {Γ : Gm} {N S : Addr → Prop} {H : Hp} {d k x : D} {v u : V} {F G : List Addr} {Q : VK}
theorem ofString_get (s : String) (j : Nat) : (Str.ofString s).cps.toList[j]? = (s.toList[j]?).map Char.toNat := by
  rw [Str.ofString_eq_toList]
  simp
theorem ofString_one (ch : Char) : Str.ofString (String.ofList [ch]) = ⟨#[ch.toNat]⟩ := by
  rw [Str.ofString_eq_toList]
  simp
theorem item_seq (h : item d k = .ok x) (r : Rep Γ N S H d v F) (rk : Rep Γ N S H k u G) (hd : ∀ f kvs, d ≠ .dic f kvs) (q : ∀ vx Fx, Rep Γ N S H x vx Fx → (∀ a ∈ Fx, a ∈ F) → Q vx H) : rIx Γ.K v u H Q := by
  cases d with
  | lst f xs =>
    cases k <;> simp only [item] at h <;> first | (cases h; done) | skip
    case int i =>
      split at h
      · rename_i j hj
        split at h
        · rename_i y hy
          cases h
          obtain ⟨p, vs, F1, rfl, hp, r1, hs, _⟩ := r.lst_inv
          obtain ⟨vx, Fx, e1, rx, hx, _⟩ := RepL.get r1 hy
          cases rk
          refine .inl ⟨p, vs, i, vx, rfl, rfl, hp, atI_of (j := j) (by rw [← r1.length]; exact hj) e1, q vx Fx rx fun a z => hs a (hx a z)⟩
        · cases h
      · cases h
  | tup xs =>
    cases k <;> simp only [item] at h <;> first | (cases h; done) | skip
    case int i =>
      split at h
      · rename_i j hj
        split at h
        · rename_i y hy
          cases h
          obtain ⟨p, vs, rfl, hp, r1, e0⟩ := r.tup_inv
          subst e0
          obtain ⟨vx, Fx, e1, rx, hx, _⟩ := RepL.get r1 hy
          cases rk
          exact .inr (.inl ⟨p, vs, i, vx, rfl, rfl, hp, atI_of (j := j) (by rw [← r1.length]; exact hj) e1, q vx Fx rx hx⟩)
        · cases h
      · cases h
  | str s =>
    cases k <;> simp only [item] at h <;> first | (cases h; done) | skip
    case int i =>
      split at h
      · rename_i hl
        split at h
        · rename_i j hj
          split at h
          · rename_i ch hch
            cases h
            cases r
            cases rk
            refine .inr (.inr ⟨_, i, ch.toNat, rfl, rfl, by rw [ofString_length, sizeLine_line]; exact hl, ?_, ?_⟩)
            · have hlen : (Str.ofString s).cps.toList.length = s.length := by
                have := ofString_length s
                simpa [Str.length] using this
              refine atI_of (j := j) (by rw [hlen]; exact hj) ?_
              rw [ofString_get, hch]; rfl
            · have q' := q (.str (Str.ofString (String.ofList [ch]))) [] (.str _) fun _ z => nomatch z
              rw [ofString_one] at q'
              exact q'
          · cases h
        · cases h
      · cases h
  | dic f kvs => exact absurd rfl (hd f kvs)
  | _ => cases h
end

section
variable {X : Cx} {cA : String → Option Addr} {fl : String → List String} {A : Ac} {c : Ctx} {ro pk : Bool} {pos pos' : Pos} {a b : Expr} {ia ib : E}
theorem item_all {Γ : Gm} {N S : Addr → Prop} {H : Hp} {d k x : D} {v u : V} {F G : List Addr} {Q : VK} (h : item d k = .ok x) (r : Rep Γ N S H d v F) (rk : Rep Γ N S H k u G) (q : ∀ vx Fx, Rep Γ N S H x vx Fx → (∀ a ∈ Fx, a ∈ F) → Q vx H) : rIx Γ.K v u H Q := by
  cases d with
  | dic f kvs => simp only [item] at h; cases h
  | _ => exact item_seq h r rk (fun _ _ z => nomatch z) q
theorem plain_ix {b : Expr} (h : ∀ lo hi st p, b ≠ .Slice lo hi st p) : PlainIx b := by
  intro o i
  cases b <;> first | rfl | exact absurd rfl (h _ _ _ _)

theorem te_idx (ha : ∀ ro pk, PE X a (TEv (gm X cA fl) A c ro pk ia)) (hb : ∀ ro pk, PE X b (TEv (gm X cA fl) A c ro pk ib)) (hs : PlainIx b) : PE X (.Subscript a b pos) (TEv (gm X cA fl) A c ro pk (.idx ia ib)) := by
  by_cases hm : roE ib = true
  · refine pe_weak (pe_ix (ix_seq) (ha ro true) (hb true false) hs) fun σ H Q h => ?_
    obtain ⟨S, Fs, env, d, env', s, h0, q⟩ := h
    rw [ev, if_pos hm] at h0
    obtain ⟨⟨x, env1⟩, h1, h0⟩ := bok h0
    obtain ⟨⟨y, env2⟩, h2, h0⟩ := bok h0
    obtain ⟨z, h3, h4⟩ := bok h0
    refine ⟨S, Fs, env, x, env1, s, h1, fun S1 Fs1 H1 v F g => ?_⟩
    refine ⟨S1, Fs1, env1, y, env2, g.sr, h2, fun S2 Fs2 H2 u G g2 => ?_⟩
    obtain ⟨e1, e2⟩ := g2.chg.roE rfl
    subst e1; subst e2
    refine item_all h3 (g.sr.stayR g2.chg (.inl rfl) g.rep) g2.rep fun vx Fx rx hx => ?_
    obtain ⟨S3, Fs3, F3, g3⟩ := take_got g g2.sr g2.chg rx hx h4 (pth := pathOf (.idx ia ib)) (by unfold pathOf; rfl)
    exact q _ _ _ _ _ g3
  · refine pe_weak (pe_ix (ix_seq) (ha ro false) (hb ro false) hs) fun σ H Q h => ?_
    obtain ⟨S, Fs, env, d, env', s, h0, q⟩ := h
    rw [ev, if_neg hm] at h0
    obtain ⟨⟨x, env1⟩, h1, h0⟩ := bok h0
    obtain ⟨⟨y, env2⟩, h2, h0⟩ := bok h0
    obtain ⟨z, h3, h0⟩ := bok h0
    cases h0
    refine ⟨S, Fs, env, x, env1, s, h1, fun S1 Fs1 H1 v F g => ?_⟩
    refine ⟨S1, Fs1, env1, y, _, g.sr, h2, fun S2 Fs2 H2 u G g2 => ?_⟩
    obtain ⟨n1, fr⟩ := g.fresh (.inl rfl)
    refine item_all h3 (g.sr.stayR g2.chg (.inr fun a z => (fr a z).2.2.1) g.rep) g2.rep fun vx Fx rx hx => ?_
    have fr2 : ∀ a ∈ Fx, A.N a ∧ ¬ S2 a ∧ (∀ i, a ∉ Fs2 i) ∧ Mut (H2 a) ∧ (H a = none ∨ ro = false ∧ ∃ i, a ∈ Fs i) := fun a z => by
      obtain ⟨q1, q2, q3, q4, q5⟩ := fr a (hx a z)
      obtain ⟨o, ho⟩ := mut_some q4
      refine ⟨q1, fun w => ?_, fun i w => ?_, ?_, q5⟩
      · rcases g2.chg.sup a w with w | w | ⟨_, i, w⟩
        · exact q2 w
        · rw [ho] at w; cases w
        · exact q3 i w
      · rcases g2.chg.fs i a w with ⟨j, w⟩ | w
        · exact q3 j w
        · rw [ho] at w; cases w
      · rw [g2.chg.keep a o ho (.inr q3), ← ho]; exact q4
    obtain ⟨s3, c3⟩ := addS_of g2.sr (g.chg.trans g2.chg) fr2
    exact q _ _ _ _ _ (Got.flat s3 c3 (Rep.share z vx Fx rx (fun _ w => .inl w) fun a w => ⟨.inr w, (fr2 a w).1⟩))

/-! ### slices -/
def TOv (Γ : Gm) (A : Ac) (c : Ctx) (ir : Option E) : TO := fun σ H Q => ∃ S Fs env o env', SR Γ A S Fs σ H env ∧ evO c ir env = .ok (o, env') ∧ ∀ S' H', SR Γ A S' Fs σ H' env' → Chg true S Fs H env S' Fs H' env' → Q o H'
theorem to_none : PO X none (TOv (gm X cA fl) A c none) := ⟨fun pins s σ H Q I h => by
  obtain ⟨S, Fs, env, o, env', s0, h0, q⟩ := h
  rw [evO] at h0; cases h0
  exact po_none.run pins s σ H Q I (q S H s0 Chg.refl)⟩
theorem to_some (ha : ∀ ro pk, PE X a (TEv (gm X cA fl) A c ro pk ia)) : PO X (some a) (TOv (gm X cA fl) A c (some ia)) := ⟨fun pins s σ H Q I h => by
  obtain ⟨S, Fs, env, o, env', s0, h0, q⟩ := h
  rw [evO] at h0
  obtain ⟨⟨x, env1⟩, h1, h0⟩ := bok h0
  dsimp only at h0
  split at h0
  · cases h0
    refine (po_some (ha true false)).run pins s σ H Q I ⟨S, Fs, env, _, _, s0, h1, fun S1 Fs1 H1 v F g => ?_⟩
    obtain ⟨e1, e2⟩ := g.chg.roE rfl
    cases e2
    have r := g.rep
    cases r
    exact ⟨_, rfl, q S1 H1 g.sr g.chg⟩
  · cases h0⟩
end
end Lz
end

section
set_option autoImplicit false
set_option maxRecDepth 100000
namespace Lz
open PySem PySem.Spec L2

section
variable {Γ : Gm} {N S : Addr → Prop} {H : Hp}
theorem RepL.noF : ∀ {ds : List D} {vs : List V} {F : List Addr}, RepL Γ N S H ds vs F → ds.any D.own = false → F = []
  | [], _, _, h, _ => by cases h; rfl
  | d :: ds, _, _, h, o => by
    cases h with
    | cons h1 h2 =>
      rw [List.any_cons, Bool.or_eq_false_iff] at o
      rw [h1.noF o.1, RepL.noF h2 o.2]; rfl
theorem RepL.flat : ∀ {ds : List D} {vs : List V}, RepL Γ N S H ds vs [] → ∀ {d : D} {v : V} {j : Nat}, ds[j]? = some d → vs[j]? = some v → Rep Γ N S H d v [] := fun {ds vs} h {d v j} e1 e2 => by
  obtain ⟨v', F, e3, r, hs, _⟩ := h.get e1
  rw [e2] at e3
  cases e3
  have : F = [] := by
    cases F with
    | nil => rfl
    | cons a F => exact nomatch hs a List.mem_cons_self
  subst this
  exact r
theorem RepL.of_get : ∀ {ds : List D} {vs : List V}, ds.length = vs.length → (∀ (j : Nat) (d : D) (v : V), ds[j]? = some d → vs[j]? = some v → Rep Γ N S H d v []) → RepL Γ N S H ds vs []
  | [], [], _, _ => .nil
  | d :: ds, v :: vs, hl, h => by
    have r := RepL.of_get (ds := ds) (vs := vs) (by simpa using hl) fun j d v e1 e2 => h (j + 1) d v (by simpa using e1) (by simpa using e2)
    exact .cons (F := []) (h 0 d v rfl rfl) r
  | [], _ :: _, hl, _ => by simp at hl
  | _ :: _, [], hl, _ => by simp at hl
theorem RepL.sub {ds es : List D} {vs us : List V} (r : RepL Γ N S H ds vs []) (f : Nat → Nat) (hl : es.length = us.length) (h1 : ∀ j d, es[j]? = some d → ds[f j]? = some d) (h2 : ∀ j v, us[j]? = some v → vs[f j]? = some v) : RepL Γ N S H es us [] :=
  .of_get hl fun j d v e1 e2 => r.flat (h1 j d e1) (h2 j v e2)
theorem sIx_eq (n d : Nat) (o : Option Int) : HT.sIx n d o = sIx n d o := by
  cases o <;> rfl
theorem RepL.cut {ds : List D} {vs : List V} (r : RepL Γ N S H ds vs []) (lo hi : Option Int) : RepL Γ N S H (cut ds lo hi) (cutV vs lo hi) [] := by
  have hl := r.length
  refine r.sub (fun j => sIx ds.length 0 lo + j) ?_ (fun j d e => ?_) (fun j v e => ?_)
  · unfold Lz.cut cutV
    simp only [List.length_take, List.length_drop, sIx_eq, hl]
  · unfold Lz.cut at e
    rw [List.getElem?_take] at e
    split at e
    · rw [List.getElem?_drop] at e; exact e
    · cases e
  · unfold cutV at e
    rw [List.getElem?_take] at e
    split at e
    · rw [List.getElem?_drop, sIx_eq, ← hl] at e; exact e
    · cases e
theorem RepL.reverse {ds : List D} {vs : List V} (r : RepL Γ N S H ds vs []) : RepL Γ N S H ds.reverse vs.reverse [] := by
  have hl := r.length
  refine .of_get (by simp [hl]) fun j d v e1 e2 => ?_
  have hj : j < ds.length := by
    have := (List.getElem?_eq_some_iff.mp e1).1
    simpa using this
  rw [List.getElem?_reverse hj] at e1
  rw [List.getElem?_reverse (by omega)] at e2
  rw [← hl] at e2
  exact r.flat e1 e2
end

theorem cut_all {α : Type} {xs : List α} {lo hi : Option Int} (h1 : sIx xs.length 0 lo = 0) (h2 : sIx xs.length xs.length hi = xs.length) : cut xs lo hi = xs := by
  unfold cut
  rw [h1, h2]
  simp
theorem cutS_of (s : String) (lo hi : Option Int) : cutS (Str.ofString s) lo hi = Str.ofString (String.ofList (cut s.toList lo hi)) := by
  have hl : (Str.ofString s).length = s.toList.length := by rw [ofString_length]; exact String.length_toList.symm
  have e1 : (Str.ofString s).cps.toList = s.toList.map Char.toNat := by
    apply List.ext_getElem?
    intro j
    rw [ofString_get, List.getElem?_map]
  have e2 : (Str.ofString (String.ofList (cut s.toList lo hi))).cps.toList = (cut s.toList lo hi).map Char.toNat := by
    apply List.ext_getElem?
    intro j
    rw [ofString_get, List.getElem?_map]
    simp
  have e3 : (cutS (Str.ofString s) lo hi).cps.toList = (Str.ofString (String.ofList (cut s.toList lo hi))).cps.toList := by
    rw [e2]
    unfold cutS cut
    rw [hl, e1]
    simp only [sIx_eq, List.map_take, List.map_drop]
  cases h : cutS (Str.ofString s) lo hi with
  | mk c1 =>
    cases h' : Str.ofString (String.ofList (cut s.toList lo hi)) with
    | mk c2 =>
      rw [h, h'] at e3
      have : c1 = c2 := by
        have e4 : c1.toList = c2.toList := e3
        exact Array.toList_inj.mp e4
      rw [this]

section
variable {X : Cx} {cA : String → Option Addr} {fl : String → List String} {A : Ac} {c : Ctx} {ro pk : Bool} {pos pos' : Pos} {a b : Expr} {ia ib : E} {lo hi : Option Expr} {il ih : Option E}

theorem te_slc (ha : ∀ ro pk, PE X a (TEv (gm X cA fl) A c ro pk ia)) (hlo : PO X lo (TOv (gm X cA fl) A c il)) (hhi : PO X hi (TOv (gm X cA fl) A c ih)) : PE X (.Subscript a (.Slice lo hi none pos') pos) (TEv (gm X cA fl) A c ro pk (.slc ia il ih)) := by
  refine pe_weak (pe_slice (sl_list.or (sl_tupA.or sl_str)) (ha ro true) hlo hhi) fun σ H Q h => ?_
  obtain ⟨S, Fs, env, d, env', s, h0, q⟩ := h
  rw [ev] at h0
  obtain ⟨⟨x, env1⟩, h1, h0⟩ := bok h0
  obtain ⟨⟨l, env2⟩, h2, h0⟩ := bok h0
  obtain ⟨⟨u, env3⟩, h3, h0⟩ := bok h0
  refine ⟨S, Fs, env, x, env1, s, h1, fun S1 Fs1 H1 v F g => ?_⟩
  refine ⟨S1, Fs1, env1, l, env2, g.sr, h2, fun S2 H2 s2 c2 => ?_⟩
  have e2 : env2 = env1 := (c2.roE rfl).1
  cases e2
  refine ⟨S2, Fs1, _, u, _, s2, h3, fun S3 H3 s3 c3 => ?_⟩
  have e3 := (c3.roE rfl).1
  cases e3
  have c123 : Chg ro S Fs H env S3 Fs1 H3 _ := g.chg.trans ((c2.trans c3).weak fun _ => rfl)
  have r3 : Rep (gm X cA fl) A.N S3 H3 x v F := g.sr.stayR (c2.trans c3) (.inl rfl) g.rep
  dsimp only at h0
  cases x with
  | lst f xs =>
    dsimp only at h0
    split at h0
    · cases h0
    · rename_i ho
      cases h0
      obtain ⟨p, vs, F1, rfl, hp, r1, _, _⟩ := r3.lst_inv
      have z := RepL.noF r1 (by simpa using ho)
      subst z
      refine .inl ⟨p, vs, rfl, hp, fun y hy => ?_⟩
      exact q _ _ _ _ _ (Res.got s3 c123 (Res.newL hy (r1.cut l u)))
  | tup xs =>
    cases h0
    obtain ⟨p, vs, rfl, hp, r1, _⟩ := r3.tup_inv
    refine .inr (.inl ⟨p, vs, rfl, hp, fun ⟨w1, w2⟩ => ?_, fun _ y hy => ?_⟩)
    · rw [sIx_eq, ← r1.length] at w1 w2
      have e : cut xs l u = xs := cut_all w1 w2
      rw [e] at q
      exact q _ _ _ _ _ (Got.flat s3 c123 (.tup hp r1))
    · exact q _ _ _ _ _ (Res.got s3 c123 (Res.newT hy (r1.cut l u)))
  | str z =>
    dsimp only at h0
    split at h0
    · rename_i hl
      cases h0
      cases r3
      refine .inr (.inr ⟨_, rfl, by rw [ofString_length, sizeLine_line]; exact hl, ?_⟩)
      rw [cutS_of]
      exact q _ _ _ _ _ (Got.flat s3 c123 (.str _))
    · cases h0
  | _ => cases h0
end
end Lz
end

section
set_option autoImplicit false
set_option maxRecDepth 100000
namespace Lz
open PySem PySem.Spec L2

/-! ### built-in functions -/
def BOk (Γ : Gm) (r : List V → Hp → VK → Prop) (f : List D → Ex D) : Prop := ∀ (N S : Addr → Prop) (H : Hp) (ds : List D) (d : D) (vs : List V) (F : List Addr) (Q : VK), f ds = .ok d → RepL Γ N S H ds vs F →
  (∀ H' v G, Res Γ N S H d H' v G → Q v H') → r vs H Q

section
variable {X : Cx} {cA : String → Option Addr} {fl : String → List String} {A : Ac} {c : Ctx} {ro pk : Bool} {pos pos' : Pos} {a b : Expr} {ia ib : E} {es : List Expr} {irs : List E}
theorem bi_reads {n : String} {r : List V → Hp → VK → Prop} (hb : BOk (gm X cA fl) r (builtin n)) (σ : St) (H : Hp) (Q : VK) (h : TEv (gm X cA fl) A c ro pk (.bi n irs) σ H Q) : tCB r (TEvs (gm X cA fl) A c (ro || roL irs) (roL irs) irs) σ H Q := by
  obtain ⟨S, Fs, env, d, env', s, h0, q⟩ := h
  rw [ev] at h0
  obtain ⟨⟨ds, env1⟩, h1, h0⟩ := bok h0
  obtain ⟨d1, h2, h0⟩ := bok h0
  cases h0
  refine ⟨S, Fs, env, ds, _, s, h1, fun S1 Fs1 H1 vs F g => ?_⟩
  refine hb A.N S1 H1 ds d vs F Q h2 g.rep fun H' v G rs => ?_
  exact q _ _ _ _ _ (rs.got g.sr (g.chg.weak fun h => by simp [h]))

/-- f(e, ..) of a built-in function -/
theorem te_bi {n : String} {id : String} {x : Str} {e : Expr} {p : Pos} {r : List V → Hp → VK → Prop} (hb : BOk (gm X cA fl) r (builtin n)) (hc : CallR X (.builtin id) r) (hg : Gl X x) (hm : X.mg x = none) (hv : bootBuiltins x = some (.builtin id)) (ha : ∀ ro pk, (pk = true → ro = true) → PA X (e :: es) (TEvs (gm X cA fl) A c ro pk irs)) (hn : x ≠ "__name__") (hdb : (x == ("__debug__" : Str)) = false)
    (he : starEach (e :: es) X.env = (false, eval e X.env) :: starEach es X.env) (hpl : (backTo pos (starEach es X.env)).any (·.1) = false) : PE X (.Call (.Name x p) (e :: es) [] pos) (TEv (gm X cA fl) A c ro pk (.bi n irs)) :=
  pe_weak (pe_callB hc hg hm hv (ha (ro || roL irs) (roL irs) fun h => by simp [h]) hn hdb he hpl) (bi_reads hb)
theorem te_biT {n : String} {T : String} {x : Str} {e : Expr} {p : Pos} {r : List V → Hp → VK → Prop} (hb : BOk (gm X cA fl) r (builtin n)) (hc : CallR X (.type T) r) (hg : Gl X x) (hm : X.mg x = none) (hv : bootBuiltins x = some (.type T)) (ha : ∀ ro pk, (pk = true → ro = true) → PA X (e :: es) (TEvs (gm X cA fl) A c ro pk irs)) (hn : x ≠ "__name__") (hdb : (x == ("__debug__" : Str)) = false)
    (he : starEach (e :: es) X.env = (false, eval e X.env) :: starEach es X.env) (hpl : (backTo pos (starEach es X.env)).any (·.1) = false) : PE X (.Call (.Name x p) (e :: es) [] pos) (TEv (gm X cA fl) A c ro pk (.bi n irs)) :=
  pe_weak (pe_callTy hc hg hm hv (ha (ro || roL irs) (roL irs) fun h => by simp [h]) hn hdb he hpl) (bi_reads hb)
end

section
variable {Γ : Gm} {X : Cx}
theorem RepL.one {N S : Addr → Prop} {H : Hp} {d : D} {vs : List V} {F : List Addr} (h : RepL Γ N S H [d] vs F) : ∃ v, vs = [v] ∧ Rep Γ N S H d v F := by
  cases h with
  | cons h1 h2 =>
    cases h2
    rw [List.append_nil]
    exact ⟨_, rfl, h1⟩
theorem bok_len : BOk Γ (fun xs H Q => ∃ x n, xs = [x] ∧ LenV Γ.K x H n ∧ Q (.int n) H) (builtin "len") := by
  intro N S H ds d vs F Q h r q
  unfold builtin at h
  rw [if_pos rfl] at h
  split at h
  · obtain ⟨v, rfl, r0⟩ := r.one
    cases h
    obtain ⟨a, vs, F', rfl, hp, r1, _, _⟩ := r0.lst_inv
    refine ⟨_, _, rfl, .inl ⟨vs, hp, r1.length⟩, ?_⟩
    exact q _ _ _ (.flat (.int _))
  · obtain ⟨v, rfl, r0⟩ := r.one
    cases h
    obtain ⟨a, vs, rfl, hp, r1, _⟩ := r0.tup_inv
    refine ⟨_, _, rfl, .inr ⟨vs, hp, r1.length⟩, ?_⟩
    exact q _ _ _ (.flat (.int _))
  · split at h
    · rename_i hl
      obtain ⟨v, rfl, r0⟩ := r.one
      cases h
      cases r0
      refine ⟨_, _, rfl, show _ ∧ _ from ⟨by rw [ofString_length, sizeLine_line]; exact hl, (ofString_length _).symm⟩, ?_⟩
      exact q _ _ _ (.flat (.int _))
    · cases h
  · cases h
theorem bok_int : BOk Γ (fun xs H Q => (∃ i, xs = [.int i] ∧ Q (.int i) H) ∨ ∃ k, xs = [.bl k] ∧ Q (.int (if k then 1 else 0)) H) (builtin "int") := by
  intro N S H ds d vs F Q h r q
  unfold builtin at h
  rw [if_neg (by decide), if_pos rfl] at h
  split at h
  · obtain ⟨v, rfl, r0⟩ := r.one
    cases h
    cases r0
    exact .inl ⟨_, rfl, q _ _ _ (.flat (.int _))⟩
  · obtain ⟨v, rfl, r0⟩ := r.one
    cases h
    cases r0
    exact .inr ⟨_, rfl, q _ _ _ (.flat (.int _))⟩
  · cases h
theorem bok_tuple : BOk Γ (fun xs H Q => ∃ p ys, xs = [.ref p] ∧ ((SqL Γ.K H p ys ∧ ∀ l, H l = none → Q (.ref l) (upd H l (.tup ys))) ∨ (SqT Γ.K H p ys ∧ Q (.ref p) H))) (builtin "tuple") := by
  intro N S H ds d vs F Q h r q
  unfold builtin at h
  rw [if_neg (by decide), if_neg (by decide), if_pos rfl] at h
  split at h
  · obtain ⟨v, rfl, r0⟩ := r.one
    cases h
    obtain ⟨a, vs, rfl, hp, r1, e⟩ := r0.tup_inv
    exact ⟨a, vs, rfl, .inr ⟨hp, q _ _ _ (.flat (.tup hp r1))⟩⟩
  · split at h
    · cases h
    · rename_i ho
      obtain ⟨v, rfl, r0⟩ := r.one
      cases h
      obtain ⟨a, vs, F', rfl, hp, r1, _, _⟩ := r0.lst_inv
      have z := r1.noF (by simpa using ho)
      subst z
      exact ⟨a, vs, rfl, .inl ⟨hp, fun l hl => q _ _ _ (.newT hl r1)⟩⟩
  · cases h
end
end Lz
end

section
set_option autoImplicit false
set_option maxRecDepth 100000
namespace Lz
open PySem PySem.Spec L2

/-! ### calls -/
/-- what a call hands on -/
structure Back (Γ : Gm) (N S0 : Addr → Prop) (H : Hp) (d : D) (H' : Hp) (S' : Addr → Prop) (v : V) (F : List Addr) : Prop where
  old : ∀ a o, H a = some o → ¬ N a → H' a = some o
  there : ∀ a o, H a = some o → ∃ o', H' a = some o'
  rep : Rep Γ N S' H' d v F
  nd : F.Nodup
  fr : ∀ a ∈ F, N a ∧ ¬ S' a ∧ Mut (H' a)
  sub : ∀ a, S0 a → S' a
  sup : ∀ a, S' a → S0 a ∨ N a
  trk : ∀ a, S' a → ∃ o, H' a = some o
/-- the promise of a def that changes nothing -/
def SpCall (Γ : Gm) (c : Ctx) (f : String) (n : Nat) : Sp := fun vs H Q _ => vs.length = n ∧ ∃ (S0 : Addr → Prop) (ds : List D) (d : D), (∀ a, S0 a → ∃ o, H a = some o) ∧ RepL Γ (fun a => H a = none) S0 H ds vs [] ∧ c.call f ds = .ok d ∧
  ∀ H' S' v F, Back Γ (fun a => H a = none) S0 H d H' S' v F → Q v H'

section
variable {Γ : Gm} {A : Ac} {ro pk : Bool} {S S1 S2 S' : Addr → Prop} {Fs Fs1 Fs2 Fs' : Nat → List Addr} {σ : St} {H H1 H2 H' : Hp} {env env1 env2 env' : Lz.Env} {d : D} {v : V} {F : List Addr} {a : Addr} {i : Nat}
def lessL (Fs : Nat → List Addr) : List Nat → Nat → List Addr
  | [] => Fs
  | i :: is => lessL (less Fs i) is
theorem mem_lessL : ∀ {is : List Nat} {Fs : Nat → List Addr} {j : Nat} {a : Addr}, a ∈ lessL Fs is j → a ∈ Fs j ∧ j ∉ is
  | [], Fs, j, a, h => ⟨h, by simp⟩
  | i :: is, Fs, j, a, h => by
    obtain ⟨h1, h2⟩ := mem_lessL (is := is) h
    obtain ⟨h3, h4⟩ := mem_less h1
    exact ⟨h3, by simp only [List.mem_cons, not_or]; exact ⟨h4, h2⟩⟩
/-- several slots are frozen -/
theorem SR.freezeRoots : ∀ {is : List Nat} {S : Addr → Prop} {Fs : Nat → List Addr} {env : Lz.Env}, SR Γ A S Fs σ H env → ∃ S2, SR Γ A S2 (lessL Fs is) σ H (is.foldl Lz.freezeRoot env) ∧ (∀ a, S2 a ↔ S a ∨ ∃ r ∈ is, a ∈ Fs r)
  | [], S, Fs, env, s => ⟨S, s, fun a => by simp⟩
  | i :: is, S, Fs, env, s => by
    obtain ⟨S2, h1, h2⟩ := SR.freezeRoots (is := is) (s.freezeRoot i)
    refine ⟨S2, h1, fun a => ?_⟩
    rw [h2]
    constructor
    · rintro ((h | h) | ⟨r, h3, h4⟩)
      · exact .inl h
      · exact .inr ⟨i, List.mem_cons_self, h⟩
      · exact .inr ⟨r, List.mem_cons_of_mem _ h3, (mem_less h4).1⟩
    · rintro (h | ⟨r, h3, h4⟩)
      · exact .inl (.inl h)
      · rcases List.mem_cons.mp h3 with e | h3
        · subst e; exact .inl (.inr h4)
        · by_cases e : r = i
          · subst e; exact .inl (.inr h4)
          · exact .inr ⟨r, h3, by rw [less_ne e]; exact h4⟩

theorem settle_got {irs : List E} {ds : List D} {vs : List V} {d0 : D} {v : V} {S' : Addr → Prop} {env2 : Lz.Env} {F2 : List Addr}
    (g : GotL Γ A ro pk irs S Fs σ H env ds env1 S1 Fs1 H1 vs F) (b : Back Γ (fun a => H1 a = none) (fun a => S1 a ∨ a ∈ F) H1 d0 H' S' v F2) (h : settle ro irs ds d0 env1 = .ok (d, env2)) :
    ∃ S3 Fs3 F3, Got Γ A ro pk none S Fs σ H env d env2 S3 Fs3 H' v F3 := by
  have ext : ∀ a o, H1 a = some o → H' a = some o := fun a o e => b.old a o e (by rw [e]; exact fun z => nomatch z)
  have sE := g.sr.ext ext
  -- the temporary things, and the new frozen ones
  generalize hS : (fun a => S1 a ∨ (a ∈ F ∧ ∀ i, a ∉ Fs1 i) ∨ (S' a ∧ H1 a = none)) = S2
  have m2 : ∀ a, S2 a ↔ S1 a ∨ (a ∈ F ∧ ∀ i, a ∉ Fs1 i) ∨ (S' a ∧ H1 a = none) := fun a => by rw [← hS]
  have tmp : ∀ a ∈ F, (∀ i, a ∉ Fs1 i) → A.N a ∧ ¬ S1 a ∧ Mut (H1 a) ∧ (H a = none ∨ ro = false ∧ ∃ i, a ∈ Fs i) := fun a z w => by
    rcases g.way a z with ⟨r, _, q⟩ | ⟨q1, q2, q3, q4, q5⟩
    · exact absurd q (w r)
    · exact ⟨q1, q2, q4, q5⟩
  have notF : ∀ a, H1 a = none → ∀ i, a ∉ Fs1 i := fun a e i z => by
    have := (g.sr.frz i a z).2.2
    rw [e] at this; exact this
  have notF2 : ∀ a, H1 a = none → a ∉ F := fun a e z => by
    have q := tmp a z (notF a e)
    have q := q.2.2.1
    rw [e] at q; exact q
  have s2 : SR Γ A S2 Fs1 σ H' env1 := sE.addS (fun a z => (m2 a).mpr (.inl z)) fun a z => by
    rcases (m2 a).mp z with z | ⟨z, w⟩ | ⟨z, w⟩
    · exact .inl z
    · obtain ⟨q1, _, q3, _⟩ := tmp a z w
      obtain ⟨o, e⟩ := mut_some q3
      exact .inr ⟨q1, ⟨o, ext a o e⟩, w⟩
    · exact .inr ⟨g.sr.new a w, b.trk a z, notF a w⟩
  have c2 : Chg ro S Fs H env S2 Fs1 H' env1 := {
    sub := fun a z => (m2 a).mpr (.inl (g.chg.sub a z))
    sup := fun a z => by
      rcases (m2 a).mp z with z | ⟨z, w⟩ | ⟨z, w⟩
      · exact g.chg.sup a z
      · exact .inr (tmp a z w).2.2.2
      · exact .inr (.inl (g.chg.none w))
    fs := g.chg.fs
    keep := fun a o e z => ext a o (g.chg.keep a o e z)
    there := fun a o e => by
      obtain ⟨o', e'⟩ := g.chg.there a o e
      exact ⟨o', ext a o' e'⟩
    roE := g.chg.roE }
  -- the result's own things are new
  have fr : ∀ a ∈ F2, A.N a ∧ ¬ S2 a ∧ (∀ i, a ∉ Fs1 i) ∧ Mut (H' a) ∧ (H a = none ∨ ro = false ∧ ∃ i, a ∈ Fs i) := fun a z => by
    obtain ⟨q1, q2, q3⟩ := b.fr a z
    refine ⟨g.sr.new a q1, fun w => ?_, notF a q1, q3, .inl (g.chg.none q1)⟩
    rcases (m2 a).mp w with w | ⟨w, _⟩ | ⟨w, _⟩
    · obtain ⟨o, e⟩ := g.sr.trk a w
      rw [q1] at e; cases e
    · exact notF2 a q1 w
    · exact q2 w
  unfold settle at h
  split at h
  · rename_i hroots
    cases h
    refine ⟨S2, Fs1, F2, s2, c2, Rep.stay d v F2 b.rep (fun a o e _ => e) (fun a z => ?_) fun a z => g.sr.new a z, fun _ => ⟨b.nd, fr⟩, fun _ w => nomatch w⟩
    rcases b.sup a z with (w | w) | w
    · exact (m2 a).mpr (.inl w)
    · refine (m2 a).mpr (.inr (.inl ⟨w, ?_⟩))
      rcases g.way a w with ⟨r, q, _⟩ | ⟨_, _, q, _, _⟩
      · rw [hroots] at q; cases q
      · exact q
    · exact (m2 a).mpr (.inr (.inr ⟨z, w⟩))
  · rename_i is hroots
    by_cases hl : d0.lent = true
    · rw [if_pos hl] at h
      by_cases hro : ro = true
      · rw [if_pos hro] at h; cases h
      rw [if_neg hro] at h
      have hro' : ro = false := by simpa using hro
      subst hro'
      cases h
      obtain ⟨S3, s3, m3⟩ := SR.freezeRoots (is := ownRoots irs ds) s2
      have c3 : Chg false S Fs H env S3 (lessL Fs1 (ownRoots irs ds)) H' ((ownRoots irs ds).foldl Lz.freezeRoot env1) := {
        sub := fun a z => (m3 a).mpr (.inl (c2.sub a z))
        sup := fun a z => by
          rcases (m3 a).mp z with z | ⟨r, _, z⟩
          · exact c2.sup a z
          · rcases g.chg.fs r a z with ⟨j, w⟩ | w
            · exact .inr (.inr ⟨rfl, j, w⟩)
            · exact .inr (.inl w)
        fs := fun j a z => c2.fs j a (mem_lessL z).1
        keep := fun a o e z => c2.keep a o e z
        there := c2.there
        roE := fun z => nomatch z }
      refine ⟨S3, _, F2, s3, c3, Rep.stay d v F2 b.rep (fun a o e _ => e) (fun a z => ?_) fun a z => g.sr.new a z, fun _ => ⟨b.nd, fun a z => ?_⟩, fun _ w => nomatch w⟩
      · rcases b.sup a z with (w | w) | w
        · exact (m3 a).mpr (.inl ((m2 a).mpr (.inl w)))
        · rcases g.way a w with ⟨r, q, q2⟩ | ⟨_, _, q, _, _⟩
          · exact (m3 a).mpr (.inr ⟨r, q, q2⟩)
          · exact (m3 a).mpr (.inl ((m2 a).mpr (.inr (.inl ⟨w, q⟩))))
        · exact (m3 a).mpr (.inl ((m2 a).mpr (.inr (.inr ⟨z, w⟩))))
      · obtain ⟨q1, q2, q3, q4, q5⟩ := fr a z
        refine ⟨q1, fun w => ?_, fun i w => q3 i (mem_lessL w).1, q4, q5⟩
        rcases (m3 a).mp w with w | ⟨r, _, w⟩
        · exact q2 w
        · exact q3 r w
    · rw [if_neg hl] at h
      cases h
      refine ⟨S2, Fs1, F2, s2, c2, Rep.unlent d v F2 b.rep (by simpa using hl) (fun a z w => (m2 a).mpr (.inr (.inr ⟨z, w⟩))) fun a z => g.sr.new a z, fun _ => ⟨b.nd, fr⟩, fun _ w => nomatch w⟩
end

section
variable {X : Cx} {cA : String → Option Addr} {fl : String → List String} {A : Ac} {c : Ctx} {ro pk : Bool} {pos pos' p : Pos} {e : Expr} {es : List Expr} {irs : List E}
theorem call_reads {f : String} {n : Nat} (hn : irs.length = n) (σ : St) (H : Hp) (Q : VK) (h : TEv (gm X cA fl) A c ro pk (.call f irs) σ H Q) : tCall (SpCall (gm X cA fl) c f n) [] C8.E0 (TEvs (gm X cA fl) A c (ro || roL irs) (roL irs) irs) σ H Q := by
  obtain ⟨S, Fs, env, d, env', s, h0, q⟩ := h
  rw [ev] at h0
  obtain ⟨⟨ds, env1⟩, h1, h0⟩ := bok h0
  obtain ⟨d0, h2, h0⟩ := bok h0
  refine ⟨S, Fs, env, ds, _, s, h1, fun S1 Fs1 H1 vs F g => ?_⟩
  show SpCall _ _ _ _ (vs ++ []) H1 Q _
  rw [List.append_nil]
  refine ⟨by rw [← hn, ← evs_length h1, g.rep.length], fun a => S1 a ∨ a ∈ F, lendL ds, d0, fun a z => ?_, RepL.lend ds vs F g.rep (fun _ z => .inl z) (fun _ z => .inr z), h2, fun H' S' v F2 b => ?_⟩
  · rcases z with z | z
    · exact g.sr.trk a z
    · rcases g.way a z with ⟨r, _, w⟩ | ⟨_, _, _, w, _⟩
      · exact mut_some (g.sr.frz r a w).2.2
      · exact mut_some w
  · have g' : GotL (gm X cA fl) A ro (roL irs) irs S Fs σ H env ds env1 S1 Fs1 H1 vs F := {
      sr := g.sr
      chg := g.chg.weak fun h => by simp [h]
      rep := g.rep
      fresh := fun z => by
        obtain ⟨q1, q2⟩ := g.fresh z
        refine ⟨q1, fun a w => ?_⟩
        obtain ⟨w1, w2, w3, w4, w5⟩ := q2 a w
        exact ⟨w1, w2, w3, w4, w5.imp_right fun w => ⟨by cases ro with | false => rfl | true => simp at w, w.2⟩⟩
      way := fun a w => (g.way a w).imp_right fun ⟨w1, w2, w3, w4, w5⟩ => ⟨w1, w2, w3, w4, w5.imp_right fun w => ⟨by cases ro with | false => rfl | true => simp at w, w.2⟩⟩ }
    obtain ⟨S3, Fs3, F3, g3⟩ := settle_got g' b h0
    exact q _ _ _ _ _ ⟨g3.sr, g3.chg, g3.rep, fun _ => g3.fresh (.inr rfl), fun _ w => nomatch w⟩
theorem te_call {f : String} {n k : Nat} {fa : Addr} {fd : FuncData} {ps : List Str} {x : Str} (hn : irs.length = n) (F : FnOk X.prog X.w X.K X.mg X.base C8.CX0 k fa fd ps (SpCall (gm X cA fl) c f n)) (hr : Room k X.A) (hg : Gl X x) (hm : X.mg x = some (.ref fa)) (hk : PySem.W.keepIn X.K (.ref fa) = true) (hb : Binds X.K fd ps [])
    (ha : ∀ ro pk, (pk = true → ro = true) → PA X (e :: es) (TEvs (gm X cA fl) A c ro pk irs)) (hdb : (x == ("__debug__" : Str)) = false) (he : starEach (e :: es) X.env = (false, eval e X.env) :: starEach es X.env) (hpl : (backTo pos (starEach es X.env)).any (·.1) = false) :
    PE X (.Call (.Name x p) (e :: es) [] pos) (TEv (gm X cA fl) A c ro pk (.call f irs)) :=
  pe_weak (pe_call F hr hg hm hk hb .nil C8.pass0 (ha (ro || roL irs) (roL irs) fun h => by simp [h]) hdb he hpl) (call_reads hn)
theorem te_call0 {f : String} {k : Nat} {fa : Addr} {fd : FuncData} {ps : List Str} {x : Str} (F : FnOk X.prog X.w X.K X.mg X.base C8.CX0 k fa fd ps (SpCall (gm X cA fl) c f 0)) (hr : Room k X.A) (hg : Gl X x) (hm : X.mg x = some (.ref fa)) (hk : PySem.W.keepIn X.K (.ref fa) = true) (hb : Binds X.K fd ps [])
    (hdb : (x == ("__debug__" : Str)) = false) : PE X (.Call (.Name x p) [] [] pos) (TEv (gm X cA fl) A c ro pk (.call f [])) :=
  pe_weak (pe_call0 (E := C8.E0) F hr hg hm hk hb .nil C8.pass0 hdb) fun σ H Q h => by
    have h' := call_reads (n := 0) rfl σ H Q h
    obtain ⟨S, Fs, env, ds, env', s, h1, q⟩ := h'
    rw [evs] at h1
    cases h1
    exact q S Fs H [] [] ⟨s, Chg.refl, .nil, fun _ => ⟨List.nodup_nil, fun _ z => nomatch z⟩, fun _ z => nomatch z⟩
end
end Lz
end

section
set_option autoImplicit false
set_option maxRecDepth 100000
namespace Lz
open PySem PySem.Spec L2

/-! ### isinstance -/
structure ClF (K : PySem.W.Frag) (C : Addr) : Prop where
  cl : Cls K C
  k1 : PySem.W.findIn K (.ref C) "__class__" = some (some (.builtin "object.__class__"))
  k2 : PySem.W.specialIn K (.builtin "object.__class__") "__get__" = some (some (.builtin "getset_descriptor.__get__"))
  k3 : PySem.W.takesIn K (.builtin "object.__class__") = some true
  k4 : PySem.W.mroIn K C (.type "object") = some true
def tyN : D → String
  | .non => "NoneType"
  | .bl _ => "bool"
  | .int _ => "int"
  | .str _ => "str"
  | .tup _ => "tuple"
  | .lst _ _ => "list"
  | .dic _ _ => "dict"
  | .obj _ _ _ => ""
def tyNs : List String := ["NoneType", "bool", "int", "str", "tuple", "list", "dict"]
def bT (T n : String) : Bool := if T = "NoneType" then false else if T = "bool" then n == "bool" || n == "int" else n == T
theorem isOf_tyN {c : Ctx} {d : D} {n : String} (h : ∀ f k fs, d ≠ .obj f k fs) : isOf c d n = .ok (bT (tyN d) n) ∧ tyN d ∈ tyNs := by
  cases d with
  | obj f k fs => exact absurd rfl (h f k fs)
  | _ => exact ⟨rfl, by simp [tyN, tyNs]⟩
def rIsiD (K : PySem.W.Frag) : List V → Hp → VK → Prop := fun xs H Q => ∃ (a : Addr) (o : Obj) (cv : V) (u : Value) (b : Bool), xs = [.ref a, cv] ∧ ClsV cv u ∧ H a = some (pin a o) ∧ o.cls = .type "dict" ∧ PySem.W.kitOne K (.type "dict") u = some b ∧ Q (.bl b) H
section
variable {X : Cx}
theorem call_isiD : CallR X (.builtin "isinstance") (rIsiD X.K) := by
  intro pins s σ H xs us Q I r h
  obtain ⟨a, o, cv, u, b, rfl, k, ea, hc, e, q⟩ := h
  obtain ⟨u1, u2, rfl, r1, r2⟩ := vals2 r
  have e2 := k.eq r2
  subst e2
  cases r1
  have ho : s.heap.get? a = some o := by
    have := I.hok a _ ea
    exact this.1
  exact PySem.W.kia_one PySem.W.kitx_dict I.kIn ⟨o, ho, hc⟩ e (fun z => nomatch z) fun tk => ⟨.bl b, H, I.tok tk, rfl, q⟩
end
section
variable {Γ : Gm} {N S : Addr → Prop} {H : Hp} {d : D} {v : V} {F : List Addr}
theorem rep_ty (r : Rep Γ N S H d v F) (ho : ∀ f k fs, d ≠ .obj f k fs) (hd : ∀ f kvs, d ≠ .dic f kvs) : TyX Γ.K H v (.type (tyN d)) := by
  cases d with
  | non => cases r; exact .base .non
  | bl b => cases r; exact .base (.bl _)
  | int i => cases r; exact .base (.int _)
  | str s => cases r; exact .base (.str _)
  | tup xs =>
    obtain ⟨p, vs, rfl, hp, _, _⟩ := r.tup_inv
    rcases hp with (h | ⟨o, h⟩) | ⟨o, its, n, h, hc, _⟩
    · exact .base (.tup h)
    · exact .fTuple h
    · exact .kTuple h hc
  | lst f xs =>
    obtain ⟨p, vs, F1, rfl, hp, _, _, _⟩ := r.lst_inv
    rcases hp with (h | ⟨o, h⟩) | ⟨o, its, n, h, hc, _⟩
    · exact .base (.lst h)
    · exact .base (.frz h)
    · exact .kList h hc
  | dic f kvs => exact absurd rfl (hd f kvs)
  | obj f k fs => exact absurd rfl (ho f k fs)
theorem rep_tyO {f : Fg} {k : String} {fs : List (String × D)} (r : Rep Γ N S H (.obj f k fs) v F) (hO : ∀ C, Γ.cA k = some C → ClF Γ.K C) : ∃ C, Γ.cA k = some C ∧ TyX Γ.K H v (.ref C) := by
  have key : ∀ {a C dx : Addr} {gs : List (Str × V)}, H a = some (.ins C dx gs) → Γ.cA k = some C → TyX Γ.K H (.ref a) (.ref C) := fun {a C dx gs} h1 h2 => by
    obtain ⟨cl, k1, k2, k3, k4⟩ := hO C h2
    exact .base (.ins h1 cl k1 k2 k3 k4)
  cases r with
  | objO h1 h2 h3 => exact ⟨_, h2, key h1 h2⟩
  | objS h1 h2 h3 => exact ⟨_, h2, key h1 h2⟩
  | objG h1 h2 h3 => exact ⟨_, h2, key h1 h2⟩
end

section
variable {X : Cx} {cA : String → Option Addr} {fl : String → List String} {A : Ac} {c : Ctx} {ro pk : Bool} {pos pos' p : Pos} {a t : Expr} {ia : E}
theorem te_isi {n : String} {cv : V} {u : Value} (ha : ∀ ro pk, PE X a (TEv (gm X cA fl) A c ro pk ia)) (hk : ClsV cv u) (ht : PE X t (tC cv)) (hB : ∀ T ∈ tyNs, PySem.W.kitOne X.K (.type T) u = some (bT T n)) (hO : ∀ k C, cA k = some C → ClF X.K C ∧ PySem.W.kitOne X.K (.ref C) u = some (c.sub k n))
    (hg : Gl X "isinstance") (hm : X.mg "isinstance" = none) (h1 : starEach [a, t] X.env = (false, eval a X.env) :: starEach [t] X.env) (h2 : starEach [t] X.env = (false, eval t X.env) :: starEach [] X.env) (hpl : (backTo pos (starEach [t] X.env)).any (·.1) = false) :
    PE X (.Call (.Name "isinstance" p) [a, t] [] pos) (TEv (gm X cA fl) A c ro pk (.isi ia [n])) := by
  refine pe_weak (pe_callB (call_isi.or call_isiD) hg hm PyProof.Rows.boot_isinstance (pa_cons (ha ro true) (pa_cons ht pa_nil h2) h1) (by decide) (by decide) h1 hpl) fun σ H Q h => ?_
  obtain ⟨S, Fs, env, d, env', s, h0, q⟩ := h
  rw [ev] at h0
  obtain ⟨⟨x, env1⟩, e1, h0⟩ := bok h0
  obtain ⟨bs, e2, h0⟩ := bok h0
  cases h0
  refine ⟨S, Fs, env, x, _, s, e1, fun S1 Fs1 H1 v F g => ?_⟩
  have e3 : ∃ b, isOf c x n = .ok b ∧ bs = [b] := by
    rw [List.mapM_cons] at e2
    obtain ⟨b, e4, e5⟩ := bok e2
    rw [List.mapM_nil] at e5
    cases e5
    exact ⟨b, e4, rfl⟩
  obtain ⟨b, e3, rfl⟩ := e3
  have fin : Q (.bl b) H1 := by
    have := q _ _ _ _ _ (Got.flat (pth := pathOf (.isi ia [n])) (pk := pk) g.sr g.chg (.bl ([b].any id)))
    simpa using this
  show (∃ (x c : V) (t u : Value) (b : Bool), [v, cv] = [x, c] ∧ _) ∨ _
  by_cases ho : ∃ f k fs, x = .obj f k fs
  · obtain ⟨f, k, fs, rfl⟩ := ho
    obtain ⟨C, hC, ty⟩ := rep_tyO g.rep (fun C h => (hO k C h).1)
    refine .inl ⟨_, _, _, _, b, rfl, hk, ty, ?_, fin⟩
    rw [(hO k C hC).2]
    unfold isOf at e3
    cases e3
    rfl
  · have ho' : ∀ f k fs, x ≠ .obj f k fs := fun f k fs z => ho ⟨f, k, fs, z⟩
    obtain ⟨e4, e5⟩ := isOf_tyN (c := c) (n := n) ho'
    rw [e4] at e3
    cases e3
    by_cases hd : ∃ f kvs, x = .dic f kvs
    · obtain ⟨f, kvs, rfl⟩ := hd
      obtain ⟨a', o, ts, F', e6, h1, h2, _, _, _⟩ := g.rep.dic_inv
      subst e6
      exact .inr ⟨_, o, _, _, _, rfl, hk, h1, h2.1.1, hB _ e5, fin⟩
    · exact .inl ⟨_, _, _, _, _, rfl, hk, rep_ty g.rep ho' (fun f kvs z => hd ⟨f, kvs, z⟩), hB _ e5, fin⟩
theorem kit_six (K : PySem.W.Frag) {n : String} (h : n ∈ ["bool", "int", "str", "tuple", "list", "dict"]) : ∀ T ∈ tyNs, PySem.W.kitOne K (.type T) (.type n) = some (bT T n) := by
  unfold tyNs
  simp only [List.mem_cons, List.not_mem_nil, or_false] at h
  intro T hT
  simp only [List.mem_cons, List.not_mem_nil, or_false] at hT
  rcases h with rfl | rfl | rfl | rfl | rfl | rfl <;> rcases hT with rfl | rfl | rfl | rfl | rfl | rfl | rfl <;> with_unfolding_all rfl

/-! ### chains -/
theorem te_chain {op op' : CmpOp} {o1 o2 : Cm} {r1 r2 : R2} {b e : Expr} {ib ie : E} (hr1 : OpR X (compareOp op) r1) (hr2 : OpR X (compareOp op') r2) (h1 : Val2 (gm X cA fl) r1 (cmpV c o1)) (h2 : Val2 (gm X cA fl) r2 (cmpV c o2)) (ha : ∀ ro pk, PE X a (TEv (gm X cA fl) A c ro pk ia)) (hb : ∀ ro pk, PE X b (TEv (gm X cA fl) A c ro pk ib)) (he : ∀ ro pk, PE X e (TEv (gm X cA fl) A c ro pk ie))
    (hm : lastMarks [op, op'] [b, e] = false) : PE X (.Compare a [op, op'] [b, e] pos) (TEv (gm X cA fl) A c ro pk (.chain o1 o2 ia ib ie)) :=
  pe_weak (pe_chain hr1 hr2 (ha ro _) (hb _ _) (he _ _) hm) (chain_reads h1 h2)
theorem tt_chain {op op' : CmpOp} {o1 o2 : Cm} {r1 r2 : R2} {b e : Expr} {ib ie : E} (hr1 : OpR X (compareOp op) r1) (hr2 : OpR X (compareOp op') r2) (h1 : Val2 (gm X cA fl) r1 (cmpV c o1)) (h2 : Val2 (gm X cA fl) r2 (cmpV c o2)) (ha : ∀ ro pk, PE X a (TEv (gm X cA fl) A c ro pk ia)) (hb : ∀ ro pk, PE X b (TEv (gm X cA fl) A c ro pk ib)) (he : ∀ ro pk, PE X e (TEv (gm X cA fl) A c ro pk ie))
    (hm : lastMarks [op, op'] [b, e] = false) : PT X (.Compare a [op, op'] [b, e] pos) (TTv (gm X cA fl) A c ro pk (.chain o1 o2 ia ib ie)) := by
  refine pt_weak (pt_chain hr1 hr2 (ha ro (roE ib && roE ie)) (hb (ro || (roE ib && roE ie)) (roE ib && roE ie)) (he (ro || (roE ib && roE ie)) (roE ib && roE ie)) hm) fun σ H Q h => ?_
  refine tt_of (ir := .chain o1 o2 ia ib ie) rfl (chain_reads h1 h2) (fun env d env' h => ?_) σ H Q h
  rw [ev] at h
  obtain ⟨⟨x, env1⟩, e1, h0⟩ := bok h
  obtain ⟨⟨y, env2⟩, e2, h0⟩ := bok h0
  obtain ⟨b1, e3, h0⟩ := bok h0
  dsimp only at h0
  split at h0
  · obtain ⟨⟨z, env3⟩, e4, h0⟩ := bok h0
    obtain ⟨b2, e5, h0⟩ := bok h0
    cases h0
    exact ⟨_, rfl⟩
  · cases h0
    exact ⟨_, rfl⟩
end
end Lz
end

section
set_option autoImplicit false
set_option maxRecDepth 100000
namespace Lz
open PySem PySem.Spec L2

section
variable {Γ : Gm} {A : Ac} {ro pk : Bool} {asg0 : List Nat} {S S0 S1 S2 S' : Addr → Prop} {Fs Fs0 Fs1 Fs2 Fs' : Nat → List Addr} {σ σ0 σ1 : St} {H H0 H1 H2 H' : Hp} {env env0 env1 env2 env' : Lz.Env} {d : D} {v : V} {F : List Addr} {a : Addr} {i : Nat}
def put1 (Fs : Nat → List Addr) (i : Nat) (F : List Addr) : Nat → List Addr := fun j => if j = i then F else Fs j
theorem put1_self : put1 Fs i F i = F := by unfold put1; rw [if_pos rfl]
theorem put1_ne {j : Nat} (h : j ≠ i) : put1 Fs i F j = Fs j := by unfold put1; rw [if_neg h]
/-- own, held by nobody -/
def Free (A : Ac) (S : Addr → Prop) (Fs : Nat → List Addr) (H : Hp) (F : List Addr) : Prop := F.Nodup ∧ ∀ a ∈ F, A.N a ∧ ¬ S a ∧ (∀ j, a ∉ Fs j) ∧ Mut (H a)
theorem Free.nil : Free A S Fs H [] := ⟨List.nodup_nil, fun _ z => nomatch z⟩
theorem SR.set (s : SR Γ A S Fs σ H env) (hi : i < env.length) (r : Rep Γ A.N S H d v F) (fr : Free A S Fs H F) : SR Γ A S (put1 Fs i F) (σ.set i (some v)) H (env.set i (some d)) where
  len := by rw [List.length_set, List.length_set]; exact s.len
  rep := fun j d' e' => by
    by_cases hj : j = i
    · subst hj
      rw [List.getElem?_set_self hi] at e'
      cases e'
      refine ⟨v, by rw [List.getElem?_set_self (by rw [← s.len]; exact hi)], ?_⟩
      rw [put1_self]; exact r
    · rw [List.getElem?_set_ne (Ne.symm hj)] at e'
      obtain ⟨w, e1, r1⟩ := s.rep j d' e'
      exact ⟨w, by rw [List.getElem?_set_ne (Ne.symm hj)]; exact e1, by rw [put1_ne hj]; exact r1⟩
  non := fun j h => by
    by_cases hj : j = i
    · subst hj
      exact absurd (List.getElem?_set_self hi) (h d)
    · rw [put1_ne hj]
      exact s.non j fun d' q => h d' (by rw [List.getElem?_set_ne (Ne.symm hj)]; exact q)
  nd := fun j => by
    by_cases hj : j = i
    · rw [hj, put1_self]; exact fr.1
    · rw [put1_ne hj]; exact s.nd j
  dis := fun j k a h1 h2 => by
    by_cases hj : j = i
    · by_cases hk : k = i
      · rw [hj, hk]
      · rw [hj, put1_self] at h1
        rw [put1_ne hk] at h2
        exact absurd h2 ((fr.2 a h1).2.2.1 k)
    · rw [put1_ne hj] at h1
      by_cases hk : k = i
      · rw [hk, put1_self] at h2
        exact absurd h1 ((fr.2 a h2).2.2.1 j)
      · rw [put1_ne hk] at h2
        exact s.dis j k a h1 h2
  frz := fun j a h => by
    by_cases hj : j = i
    · rw [hj, put1_self] at h
      obtain ⟨q1, q2, _, q4⟩ := fr.2 a h
      exact ⟨q1, q2, q4⟩
    · rw [put1_ne hj] at h
      exact s.frz j a h
  trk := s.trk
  new := s.new
  old := s.old
  s0 := s.s0
theorem Chg.set (c : Chg ro S0 Fs0 H0 env0 S Fs H env) (fr : ∀ a ∈ F, H0 a = Option.none ∨ ∃ j, a ∈ Fs0 j) : Chg false S0 Fs0 H0 env0 S (put1 Fs i F) H env' where
  sub := c.sub
  sup := (c.weak (ro := false) fun h => nomatch h).sup
  fs := fun j a h => by
    by_cases hj : j = i
    · rw [hj, put1_self] at h
      exact (fr a h).symm
    · rw [put1_ne hj] at h
      exact c.fs j a h
  keep := (c.weak (ro := false) fun h => nomatch h).keep
  there := c.there
  roE := fun h => nomatch h
/-- a slot is emptied -/
theorem SR.unset (s : SR Γ A S Fs σ H env) : SR Γ A S (less Fs i) σ H (env.set i none) where
  len := by rw [List.length_set]; exact s.len
  rep := fun j d' e' => by
    by_cases hj : j = i
    · subst hj
      by_cases hi : j < env.length
      · rw [List.getElem?_set_self hi] at e'; cases e'
      · rw [List.getElem?_eq_none (by rw [List.length_set]; omega)] at e'; cases e'
    · rw [List.getElem?_set_ne (Ne.symm hj)] at e'
      obtain ⟨w, e1, r1⟩ := s.rep j d' e'
      exact ⟨w, e1, by rw [less_ne hj]; exact r1⟩
  non := fun j h => by
    by_cases hj : j = i
    · subst hj; exact less_self
    · rw [less_ne hj]
      exact s.non j fun d' q => h d' (by rw [List.getElem?_set_ne (Ne.symm hj)]; exact q)
  nd := fun j => by
    by_cases hj : j = i
    · rw [hj, less_self]; exact List.nodup_nil
    · rw [less_ne hj]; exact s.nd j
  dis := fun j k a h1 h2 => s.dis j k a (mem_less h1).1 (mem_less h2).1
  frz := fun j a h => s.frz j a (mem_less h).1
  trk := s.trk
  new := s.new
  old := s.old
  s0 := s.s0

/-- slots that stand -/
abbrev Same (asg : List Nat) (σ σ' : St) : Prop := ∀ j, j ∉ asg → σ'[j]? = σ[j]?
/-- what is handed back -/
structure Ret (Γ : Gm) (A : Ac) (S' : Addr → Prop) (Fs' : Nat → List Addr) (H' : Hp) (d : D) (v : V) (F : List Addr) : Prop where
  rep : Rep Γ A.N S' H' d v F
  fr : Free A S' Fs' H' F
def Aft (Γ : Gm) (A : Ac) (De : Ends) (asg : List Nat) (fl : Fl) (env' : Lz.Env) (S : Addr → Prop) (Fs : Nat → List Addr) (σ : St) (H : Hp) (env : Lz.Env) : Prop :=
  ∀ S' Fs' σ' H', SR Γ A S' Fs' σ' H' env' → Chg false S Fs H env S' Fs' H' env' → Same asg σ σ' → match fl with
    | .nx => De.nx σ' H'
    | .brk => De.bk σ' H'
    | .cnt => De.ct σ' H'
    | .ret d => ∀ v F, Ret Γ A S' Fs' H' d v F → De.rt v H'
theorem Aft.later {De : Ends} {asg asg1 : List Nat} {fl : Fl} (h : Aft Γ A De asg fl env' S Fs σ H env) (c : Chg ro S Fs H env S1 Fs1 H1 env1) (sm : Same asg1 σ σ1) (hs : ∀ j ∈ asg1, j ∈ asg) (ha : ∀ j ∈ asg0, j ∈ asg) : Aft Γ A De asg0 fl env' S1 Fs1 σ1 H1 env1 := fun S' Fs' σ' H' s' c' m' =>
  h S' Fs' σ' H' s' ((c.weak (ro := false) fun h => nomatch h).trans c') fun j hj => (m' j fun z => hj (ha j z)).trans (sm j fun z => hj (hs j z))
end

def TSv (Γ : Gm) (A : Ac) (c : Ctx) (st : Lz.S) : TS := fun De σ H => ∃ S Fs env fl env', SR Γ A S Fs σ H env ∧ exec c st env = .ok (fl, env') ∧ Aft Γ A De (asgS st) fl env' S Fs σ H env
def TSsv (Γ : Gm) (A : Ac) (c : Ctx) (st : List Lz.S) : TS := fun De σ H => ∃ S Fs env fl env', SR Γ A S Fs σ H env ∧ execs c st env = .ok (fl, env') ∧ Aft Γ A De (asgSs st) fl env' S Fs σ H env

section
variable {X : Cx} {e : Stmt} {t u : TS}
theorem ps_weak (h : PS X e t) (w : ∀ De σ H, u De σ H → t De σ H) : PS X e u := ⟨fun pins s σ H De I q => h.run pins s σ H De I (w De σ H q)⟩
theorem pss_weak {es : List Stmt} (h : PSs X es t) (w : ∀ De σ H, u De σ H → t De σ H) : PSs X es u := ⟨fun pins s σ H De I q => h.run pins s σ H De I (w De σ H q)⟩
end

section
variable {X : Cx} {cA : String → Option Addr} {fl : String → List String} {A : Ac} {c : Ctx} {pos pos' p : Pos} {a e : Expr} {ia : E} {st : Stmt} {sts : List Stmt} {is : Lz.S} {iss : List Lz.S}
theorem tss_nil : PSs X [] (TSsv (gm X cA fl) A c []) := pss_weak pss_nil fun De σ H h => by
  obtain ⟨S, Fs, env, fl, env', s, h0, q⟩ := h
  rw [execs] at h0
  cases h0
  exact q S Fs σ H s Chg.refl fun _ _ => rfl
theorem tss_cons (h1 : PS X st (TSv (gm X cA fl) A c is)) (h2 : PSs X sts (TSsv (gm X cA fl) A c iss)) : PSs X (st :: sts) (TSsv (gm X cA fl) A c (is :: iss)) := pss_weak (pss_cons h1 h2) fun De σ H h => by
  obtain ⟨S, Fs, env, fl, env', s, h0, q⟩ := h
  rw [execs] at h0
  obtain ⟨⟨f, env1⟩, e1, h0⟩ := bok h0
  refine ⟨S, Fs, env, f, env1, s, e1, fun S1 Fs1 σ1 H1 s1 c1 m1 => ?_⟩
  have l1 : ∀ j ∈ asgS is, j ∈ asgSs (is :: iss) := fun j z => List.mem_append_left _ z
  have l2 : ∀ j ∈ asgSs iss, j ∈ asgSs (is :: iss) := fun j z => List.mem_append_right _ z
  have m1' : Same (asgSs (is :: iss)) σ σ1 := fun j hj => m1 j fun z => hj (l1 j z)
  cases f with
  | nx => exact ⟨S1, Fs1, env1, fl, env', s1, h0, q.later c1 m1 l1 l2⟩
  | brk => cases h0; exact q S1 Fs1 σ1 H1 s1 c1 m1'
  | cnt => cases h0; exact q S1 Fs1 σ1 H1 s1 c1 m1'
  | ret d => cases h0; exact q S1 Fs1 σ1 H1 s1 c1 m1'
theorem ts_pass : PS X (.Pass pos) (TSv (gm X cA fl) A c .pass) := ps_weak ps_pass fun De σ H h => by
  obtain ⟨S, Fs, env, fl, env', s, h0, q⟩ := h
  rw [exec] at h0; cases h0
  exact q S Fs σ H s Chg.refl fun _ _ => rfl
theorem ts_brk : PS X (.Break pos) (TSv (gm X cA fl) A c .brk) := ps_weak ps_break fun De σ H h => by
  obtain ⟨S, Fs, env, fl, env', s, h0, q⟩ := h
  rw [exec] at h0; cases h0
  exact q S Fs σ H s Chg.refl fun _ _ => rfl
theorem ts_cnt : PS X (.Continue pos) (TSv (gm X cA fl) A c .cnt) := ps_weak ps_continue fun De σ H h => by
  obtain ⟨S, Fs, env, fl, env', s, h0, q⟩ := h
  rw [exec] at h0; cases h0
  exact q S Fs σ H s Chg.refl fun _ _ => rfl
theorem ts_ret (he : ∀ ro pk, PE X e (TEv (gm X cA fl) A c ro pk ia)) : PS X (.Return (some e) pos) (TSv (gm X cA fl) A c (.ret ia)) := ps_weak (ps_ret (he false false)) fun De σ H h => by
  obtain ⟨S, Fs, env, fl, env', s, h0, q⟩ := h
  rw [exec] at h0
  obtain ⟨⟨d, env1⟩, e1, h0⟩ := bok h0
  cases h0
  refine ⟨S, Fs, env, d, _, s, e1, fun S' Fs' H' v F g => ?_⟩
  obtain ⟨n1, fr⟩ := g.fresh (.inl rfl)
  exact q S' Fs' σ H' g.sr g.chg (fun _ _ => rfl) v F ⟨g.rep, n1, fun a z => ⟨(fr a z).1, (fr a z).2.1, (fr a z).2.2.1, (fr a z).2.2.2.1⟩⟩
theorem ts_retN : PS X (.Return none pos) (TSv (gm X cA fl) A c (.ret (.lit .non))) := ps_weak ps_retN fun De σ H h => by
  obtain ⟨S, Fs, env, fl, env', s, h0, q⟩ := h
  rw [exec, ev] at h0
  cases h0
  exact q S Fs σ H s Chg.refl (fun _ _ => rfl) .non [] ⟨.non, Free.nil⟩
theorem ts_ex (he : ∀ ro pk, PE X e (TEv (gm X cA fl) A c ro pk ia)) (hs : swapsWith e none pos.line X.env = pure false) : PS X (.Expr e pos) (TSv (gm X cA fl) A c (.ex ia)) := ps_weak (ps_expr (he false true) hs) fun De σ H h => by
  obtain ⟨S, Fs, env, fl, env', s, h0, q⟩ := h
  rw [exec] at h0
  obtain ⟨⟨d, env1⟩, e1, h0⟩ := bok h0
  cases h0
  exact ⟨S, Fs, env, d, _, s, e1, fun S' Fs' H' v F g => q S' Fs' σ H' g.sr g.chg fun _ _ => rfl⟩
theorem ts_doc {x : Str} {j : Nat} : PS X (.Expr (.Constant (.str x) j pos') pos) (TSv (gm X cA fl) A c .pass) := ps_weak ps_doc fun De σ H h => by
  obtain ⟨S, Fs, env, fl, env', s, h0, q⟩ := h
  rw [exec] at h0; cases h0
  exact q S Fs σ H s Chg.refl fun _ _ => rfl
theorem ts_if {b1 b2 : List Stmt} {i1 i2 : List Lz.S} (ht : PT X e (TTv (gm X cA fl) A c false true ia)) (h1 : PSs X b1 (TSsv (gm X cA fl) A c i1)) (h2 : PSs X b2 (TSsv (gm X cA fl) A c i2)) : PS X (.If e b1 b2 pos) (TSv (gm X cA fl) A c (.ifS ia i1 i2)) :=
  ps_weak (ps_if ht h1 h2) fun De σ H h => by
  obtain ⟨S, Fs, env, fl, env', s, h0, q⟩ := h
  rw [exec] at h0
  obtain ⟨⟨x, env1⟩, e1, h0⟩ := bok h0
  obtain ⟨r, e2, h0⟩ := bok h0
  refine ⟨S, Fs, env, x, env1, r, s, e1, e2, fun S1 Fs1 H1 s1 c1 => ?_⟩
  have q' : ∀ {l : List Nat}, (∀ j ∈ l, j ∈ asgS (.ifS ia i1 i2)) → Aft (gm X cA _) A De l fl env' S1 Fs1 σ H1 env1 := fun {l} z => q.later (σ1 := σ) (asg1 := []) c1 (fun _ _ => rfl) (fun j z => nomatch z) z
  cases r with
  | true => dsimp only; rw [if_pos rfl]; exact ⟨S1, Fs1, env1, fl, env', s1, h0, q' fun j z => List.mem_append_left _ z⟩
  | false => dsimp only; rw [if_neg Bool.false_ne_true]; exact ⟨S1, Fs1, env1, fl, env', s1, h0, q' fun j z => List.mem_append_right _ z⟩

/-! ### targets -/
/-- storing data in a target: what the target's rule asks -/
def TGv (Γ : Gm) (A : Ac) (c : Ctx) (t : Tg) (is : List Nat) : TG := fun v σ H Q => ∃ S Fs env d env' F, SR Γ A S Fs σ H env ∧ setTg c t d env = .ok env' ∧ Rep Γ A.N S H d v F ∧ Free A S Fs H F ∧
  ∀ S' Fs' σ' H', SR Γ A S' Fs' σ' H' env' → (∀ S0 Fs0 H0 env0, Chg false S0 Fs0 H0 env0 S Fs H env → (∀ a ∈ F, H0 a = none ∨ ∃ j, a ∈ Fs0 j) → Chg false S0 Fs0 H0 env0 S' Fs' H' env') → Same is σ σ' → Q σ' H'
theorem pg_weak {t u : TG} (h : PG X e t) (w : ∀ v σ H Q, u v σ H Q → t v σ H Q) : PG X e u := ⟨fun pins s σ H v vu Q I r q => h.run pins s σ H v vu Q I r (w v σ H Q q)⟩
theorem tg_var {i : Nat} {x : Str} (hN : X.N.Nodup) (hi : X.N[i]? = some x) (hx : Loc X.env.scope x) (hf : X.fn x = true ∨ X.env.scope.names.lookup x = some .local) : PG X (.Name x pos) (TGv (gm X cA fl) A c (.var i) [i]) :=
  pg_weak (pg_name hN hi hx hf) fun v σ H Q h => by
  obtain ⟨S, Fs, env, d, env', F, s, h0, r, fr, q⟩ := h
  simp only [setTg, bindOne, if_true] at h0
  split at h0
  · rename_i hl
    cases h0
    exact q S (put1 Fs i F) _ H (s.set hl r fr) (fun S0 Fs0 H0 env0 c0 f0 => c0.set f0) fun j hj => List.getElem?_set_ne (fun z => hj (by rw [z]; exact List.mem_cons_self))
  · cases h0
def gNames : List Nat → TGs
  | [] => gNil
  | i :: is => gCons (gName i) (gNames is)
theorem gNames_set {S : Addr → Prop} {H : Hp} {Q : St → Hp → Prop} {is0 : List Nat} : ∀ {is : List Nat} {xs : List D} {vs : List V} {Fs : Nat → List Addr} {env : Lz.Env} {σ : St}, SR (gm X cA fl) A S Fs σ H env → RepL (gm X cA fl) A.N S H xs vs [] → xs.length = is.length → (∀ i ∈ is, i < env.length) → (∀ i ∈ is, i ∈ is0) →
    (∀ Fs' σ', SR (gm X cA fl) A S Fs' σ' H ((is.zip xs).foldl (fun e p => e.set p.1 (some p.2)) env) → (∀ j a, a ∈ Fs' j → a ∈ Fs j) → Same is0 σ σ' → Q σ' H) → gNames is vs σ H Q
  | [], xs, vs, Fs, env, σ, s, r, hl, _, _, q => by
    cases xs with
    | nil =>
      cases r
      exact ⟨rfl, q Fs σ s (fun j a z => z) fun _ _ => rfl⟩
    | cons x xs => simp at hl
  | i :: is, xs, vs, Fs, env, σ, s, r, hl, hlt, hs, q => by
    cases xs with
    | nil => simp at hl
    | cons x xs =>
      generalize hF : ([] : List Addr) = F at r
      cases r with
      | cons r1 r2 =>
        obtain ⟨e1, e2⟩ := nil_of_append hF.symm
        subst e1; subst e2
        refine ⟨_, _, rfl, ?_⟩
        refine gNames_set (is0 := is0) (s.set (hlt i List.mem_cons_self) r1 Free.nil) r2 (by simpa using hl) (fun j z => by rw [List.length_set]; exact hlt j (List.mem_cons_of_mem _ z)) (fun j z => hs j (List.mem_cons_of_mem _ z)) fun Fs' σ' s' f' m' => ?_
        refine q Fs' σ' s' (fun j a z => ?_) fun j hj => ?_
        · have := f' j a z
          by_cases hji : j = i
          · rw [hji, put1_self] at this; cases this
          · rw [put1_ne hji] at this; exact this
        · rw [m' j hj, List.getElem?_set_ne]
          intro z
          exact hj (by rw [← z]; exact hs i List.mem_cons_self)
theorem pgs_names : ∀ {xs : List Str} {is : List Nat} {es : List Expr}, X.N.Nodup → Paired (fun (i : Nat) (e : Expr) => ∃ x pos, e = .Name x pos ∧ X.N[i]? = some x ∧ Loc X.env.scope x ∧ (X.fn x = true ∨ X.env.scope.names.lookup x = some .local)) is es → PGs X es (gNames is)
  | _, [], [], _, .nil => pgs_nil
  | xs, i :: is, e :: es, hN, .cons h hr => by
    obtain ⟨x, pos, rfl, h1, h2, h3⟩ := h
    exact pgs_cons (pg_name hN h1 h2 h3) (pgs_names (xs := xs) hN hr)
end
end Lz
end

section
set_option autoImplicit false
set_option maxRecDepth 100000
namespace Lz
open PySem PySem.Spec L2

section
variable {X : Cx} {cA : String → Option Addr} {fl : String → List String} {A : Ac} {c : Ctx} {pos pos' p : Pos} {a e : Expr} {ia : E} {st : Stmt} {sts : List Stmt} {is : List Nat} {iss : List Lz.S}
theorem assignEach_len : ∀ (es : List Expr) (env : PySem.Env), (assignEach es env).length = es.length
  | [], _ => rfl
  | e :: es, env => by
    have : (assignEach (e :: es) env).length = (assignEach es env).length + 1 := by cases e <;> rfl
    rw [this, assignEach_len es env]; rfl
theorem assignEach_names {R : Nat → Str → Pos → Prop} (env : PySem.Env) : ∀ {is : List Nat} {es : List Expr}, Paired (fun (i : Nat) (e : Expr) => ∃ x pos, e = .Name x pos ∧ R i x pos) is es → (assignEach es env).findIdx? (·.1) = none
  | [], [], .nil => rfl
  | i :: is, e :: es, .cons h hr => by
    obtain ⟨x, pos, rfl, _⟩ := h
    have ih := assignEach_names env hr
    have e1 : assignEach (.Name x pos :: es) env = (false, assign (.Name x pos) env) :: assignEach es env := rfl
    rw [e1, List.findIdx?_cons, ih]
    rfl
theorem tg_tup {es : List Expr} {k : Nat} (hc : X.calm = true) (hN : X.N.Nodup) (h : Paired (fun (i : Nat) (e : Expr) => ∃ x pos, e = .Name x pos ∧ X.N[i]? = some x ∧ Loc X.env.scope x ∧ (X.fn x = true ∨ X.env.scope.names.lookup x = some .local)) is es) :
    PG X (.Tuple es k pos) (TGv (gm X cA fl) A c (.tup is) is) := by
  have hn : (assignEach es X.env).length = es.length := assignEach_len es X.env
  have hst : (assignEach es X.env).findIdx? (·.1) = none := assignEach_names (R := fun i x pos => X.N[i]? = some x ∧ Loc X.env.scope x ∧ (X.fn x = true ∨ X.env.scope.names.lookup x = some .local)) X.env h
  refine pg_weak (pg_tup hc (pgs_names (xs := []) hN h) hn hst) fun v σ H Q h0 => ?_
  obtain ⟨S, Fs, env, d, env', F, s, h1, r, fr, q⟩ := h0
  simp only [setTg, bindOne] at h1
  rw [if_neg Bool.false_ne_true] at h1
  split at h1
  · rename_i xs
    obtain ⟨xs', h2, h1⟩ := bok h1
    cases h2
    split at h1
    · rename_i hl
      cases h1
      obtain ⟨a, vs, rfl, ht, rl, eF⟩ := r.tup_inv
      have hlen : es.length = is.length := h.length.symm
      refine ⟨a, vs, rfl, ht, by rw [← rl.length, hl.1, hlen], ?_⟩
      have hlt : ∀ i ∈ is, i < env.length := fun i hi => by simpa using List.all_eq_true.mp hl.2 i hi
      refine gNames_set (is0 := is) s rl hl.1 hlt (fun _ z => z) fun Fs' σ' s' f' m' => ?_
      refine q S Fs' σ' H s' (fun S0 Fs0 H0 env0 c0 _ => ?_) m'
      exact {
        sub := c0.sub
        sup := c0.sup
        fs := fun j a z => c0.fs j a (f' j a z)
        keep := c0.keep
        there := c0.there
        roE := fun z => nomatch z }
    · cases h1
  · cases h1

/-! ### stores -/
def tgS : Tg → List Nat
  | .var i => [i]
  | .tup is => is
  | _ => []
theorem asg_tgS (t : Tg) (e : E) : asgS (.asg t e) = tgS t := by cases t <;> rfl
theorem ts_asg {tg : Expr} {t : Tg} (he : ∀ ro pk, PE X e (TEv (gm X cA fl) A c ro pk ia)) (hg : PG X tg (TGv (gm X cA fl) A c t (tgS t))) (hs : swapsWithSole [tg] e pos.line X.env = pure false) (hw : swappedStores [tg] e X.env = pure none)
    (h1 : (assignEach [tg] X.env).map (·.2) = [assign tg X.env]) : PS X (.Assign [tg] e pos) (TSv (gm X cA fl) A c (.asg t ia)) := ps_weak (ps_asg (he false false) hg hs hw h1) fun De σ H h => by
  obtain ⟨S, Fs, env, f, env', s, h0, q⟩ := h
  rw [exec] at h0
  obtain ⟨⟨d, env1⟩, e1, h0⟩ := bok h0
  obtain ⟨env2, e2, h0⟩ := bok h0
  cases h0
  refine ⟨S, Fs, env, d, env1, s, e1, fun S1 Fs1 H1 v F g => ?_⟩
  obtain ⟨n1, fr⟩ := g.fresh (.inl rfl)
  refine ⟨S1, Fs1, env1, d, _, F, g.sr, e2, g.rep, ⟨n1, fun a z => ⟨(fr a z).1, (fr a z).2.1, (fr a z).2.2.1, (fr a z).2.2.2.1⟩⟩, fun S' Fs' σ' H' s' c' m' => ?_⟩
  refine q S' Fs' σ' H' s' (c' _ _ _ _ g.chg fun a z => ((fr a z).2.2.2.2).imp_right (·.2)) ?_
  rw [asg_tgS]
  exact m'

/-! ### name op= e -/
theorem ts_aug {i : Nat} {x : Str} {op : Operator} {o : Op} {r : R2} (hN : X.N.Nodup) (hi : X.N[i]? = some x) (hx : Loc X.env.scope x) (hf : X.fn x = true ∨ X.env.scope.names.lookup x = some .local) (he : ∀ ro pk, PE X e (TEv (gm X cA fl) A c ro pk ia)) (hr : OpR X (inplaceOp op) r) (hv : Val2 (gm X cA fl) r (augop o)) :
    PS X (.AugAssign (.Name x pos') op e pos) (TSv (gm X cA fl) A c (.aug (.var i) o ia)) := ps_weak (ps_aug (ti := r) hN hi hx (he true true) hr hf) fun De σ H h => by
  obtain ⟨S, Fs, env, f, env', s, h0, q⟩ := h
  rw [exec] at h0
  obtain ⟨d, e1, h0⟩ := bok h0
  obtain ⟨⟨y, env1⟩, e2, h0⟩ := bok h0
  obtain ⟨z, e3, h0⟩ := bok h0
  obtain ⟨env2, e4, h0⟩ := bok h0
  cases h0
  obtain ⟨v, e5, rv⟩ := s.rep i d (getS_ok e1)
  refine ⟨v, e5, S, Fs, env, y, env1, s, e2, fun S1 Fs1 H1 u G g => ?_⟩
  have hE := g.chg.roE rfl
  obtain ⟨e6, e7⟩ := hE
  cases e6; cases e7
  refine hv A.N S1 H1 d y z v (Fs i) u G _ e3 (s.stayR g.chg (.inl rfl) rv) g.rep fun H' w F' rs => ?_
  have g3 : Got (gm X cA fl) A false false none S Fs σ H env z env S1 Fs H' w F' := rs.got g.sr (g.chg.weak fun h => nomatch h)
  obtain ⟨n1, fr⟩ := g3.fresh (.inl rfl)
  simp only [bindOne, if_true] at e4
  split at e4
  · rename_i hl
    cases e4
    refine q S1 (put1 Fs i F') _ H' (g3.sr.set hl g3.rep ⟨n1, fun a z => ⟨(fr a z).1, (fr a z).2.1, (fr a z).2.2.1, (fr a z).2.2.2.1⟩⟩) (g3.chg.set fun a z => ((fr a z).2.2.2.2).imp_right (·.2)) ?_
    intro j hj
    exact List.getElem?_set_ne (fun z => hj (by rw [z]; exact List.mem_cons_self))
  · cases e4
theorem aug_add {Γ : Gm} : Val2 Γ (fun x y H Q => rI0 (fun i j => .int (i + j)) x y H Q ∨ ∃ i j, x = V.str i ∧ y = V.str j ∧ i.length + j.length ≤ sizeLine ∧ Q (.str (i ++ j)) H) (augop .add) := by
  intro N S H x y d vx Fx vy Fy Q h rx ry q
  unfold augop at h
  split at h
  · cases h; cases rx; cases ry
    exact .inl ⟨_, _, rfl, rfl, q _ _ _ (.flat (.int _))⟩
  · rename_i z; cases z
  · rename_i z; cases z
  · simp only [binop] at h
    split at h
    · rename_i hl
      cases h; cases rx; cases ry
      refine .inr ⟨_, _, rfl, rfl, by rw [ofString_length, ofString_length, sizeLine_line]; exact hl, ?_⟩
      rw [← ofString_append]
      exact q _ _ _ (.flat (.str _))
    · cases h
  · cases h
theorem aug_sub {Γ : Gm} : Val2 Γ (rI0 fun i j => .int (i - j)) (augop .sub) := by
  intro N S H x y d vx Fx vy Fy Q h rx ry q
  unfold augop at h
  split at h
  · rename_i z; cases z
  · cases h; cases rx; cases ry
    exact ⟨_, _, rfl, rfl, q _ _ _ (.flat (.int _))⟩
  · rename_i z; cases z
  · rename_i z; cases z
  · cases h
theorem aug_mul {Γ : Gm} : Val2 Γ (rI CMul fun i j => .int (i * j)) (augop .mul) := by
  intro N S H x y d vx Fx vy Fy Q h rx ry q
  unfold augop at h
  split at h
  · rename_i z; cases z
  · rename_i z; cases z
  · simp only [binop] at h
    split at h
    · rename_i hs
      cases h; cases rx; cases ry
      refine ⟨_, _, rfl, rfl, ?_, q _ _ _ (.flat (.int _))⟩
      rcases (by simpa using hs : _ ∨ _) with z | z
      · exact .inl (int_small z)
      · exact .inr (int_small z)
    · cases h
  · rename_i z; cases z
  · cases h

/-! ### what changes a slot's own thing -/
theorem SR.mut {Γ : Gm} {S : Addr → Prop} {Fs : Nat → List Addr} {σ : St} {H H' : Hp} {env : Lz.Env} {i : Nat} {d d' : D} {v : V} {F' : List Addr} (s : SR Γ A S Fs σ H env) (hd : env[i]? = some (some d)) (hv : σ[i]? = some (some v)) (h1 : ∀ b o, H b = some o → b ∉ Fs i → H' b = some o) (h2 : ∀ b o, H b = some o → ∃ o', H' b = some o')
    (r : Rep Γ A.N S H' d' v F') (n : F'.Nodup) (fr : ∀ b ∈ F', Mut (H' b) ∧ (b ∈ Fs i ∨ (A.N b ∧ ¬ S b ∧ ∀ j, b ∉ Fs j))) : SR Γ A S (put1 Fs i F') σ H' (env.set i (some d')) where
  len := by rw [List.length_set]; exact s.len
  rep := fun j e' he => by
    by_cases hj : j = i
    · subst hj
      have hl : j < env.length := (List.getElem?_eq_some_iff.mp hd).1
      rw [List.getElem?_set_self hl] at he
      cases he
      exact ⟨v, hv, by rw [put1_self]; exact r⟩
    · rw [List.getElem?_set_ne (Ne.symm hj)] at he
      obtain ⟨w, e1, r1⟩ := s.rep j e' he
      refine ⟨w, e1, ?_⟩
      rw [put1_ne hj]
      refine Rep.stay e' w _ r1 (fun a o q z => h1 a o q fun z2 => ?_) (fun _ z => z) fun _ z => z
      obtain ⟨q1, q2, q3⟩ := s.frz i a z2
      rcases z with z | z | z
      · exact q2 z
      · exact hj (s.dis j i a z z2)
      · rw [q] at q3; exact z q3
  non := fun j he => by
    by_cases hj : j = i
    · subst hj
      exact absurd (List.getElem?_set_self (List.getElem?_eq_some_iff.mp hd).1) (he d')
    · rw [put1_ne hj]
      exact s.non j fun d2 q => he d2 (by rw [List.getElem?_set_ne (Ne.symm hj)]; exact q)
  nd := fun j => by
    by_cases hj : j = i
    · rw [hj, put1_self]; exact n
    · rw [put1_ne hj]; exact s.nd j
  dis := fun j k a z1 z2 => by
    have key : ∀ {k : Nat}, k ≠ i → a ∈ F' → a ∉ Fs k := fun {k} hk z w => by
      rcases (fr a z).2 with q | ⟨_, _, q⟩
      · exact hk (s.dis k i a w q)
      · exact q k w
    by_cases hj : j = i
    · by_cases hk : k = i
      · rw [hj, hk]
      · rw [hj, put1_self] at z1
        rw [put1_ne hk] at z2
        exact absurd z2 (key hk z1)
    · rw [put1_ne hj] at z1
      by_cases hk : k = i
      · rw [hk, put1_self] at z2
        exact absurd z1 (key hj z2)
      · rw [put1_ne hk] at z2
        exact s.dis j k a z1 z2
  frz := fun j a z => by
    by_cases hj : j = i
    · rw [hj, put1_self] at z
      obtain ⟨q1, q2⟩ := fr a z
      rcases q2 with q2 | ⟨q2, q3, _⟩
      · exact ⟨(s.frz i a q2).1, (s.frz i a q2).2.1, q1⟩
      · exact ⟨q2, q3, q1⟩
    · rw [put1_ne hj] at z
      obtain ⟨q1, q2, q3⟩ := s.frz j a z
      refine ⟨q1, q2, ?_⟩
      obtain ⟨o, e⟩ := mut_some q3
      rw [h1 a o e fun w => hj (s.dis j i a z w), ← e]; exact q3
  trk := fun a z => by
    obtain ⟨o, e⟩ := s.trk a z
    exact h2 a o e
  new := fun a z => s.new a (by
    cases e : H a with
    | none => rfl
    | some o =>
      obtain ⟨o', e'⟩ := h2 a o e
      rw [z] at e'; cases e')
  old := fun a o e q => h1 a o (s.old a o e q) fun z => q (s.frz i a z).1
  s0 := s.s0
theorem Chg.mut {S0 S : Addr → Prop} {Fs0 Fs : Nat → List Addr} {H0 H H' : Hp} {env0 env env' : Lz.Env} {i : Nat} {F' : List Addr} (c : Chg false S0 Fs0 H0 env0 S Fs H env) (h1 : ∀ b o, H b = some o → b ∉ Fs i → H' b = some o) (h2 : ∀ b o, H b = some o → ∃ o', H' b = some o')
    (fr : ∀ b ∈ F', b ∈ Fs i ∨ (H0 b = Option.none ∨ ∃ j, b ∈ Fs0 j)) : Chg false S0 Fs0 H0 env0 S (put1 Fs i F') H' env' where
  sub := c.sub
  sup := c.sup
  fs := fun j a z => by
    by_cases hj : j = i
    · rw [hj, put1_self] at z
      rcases fr a z with q | q | q
      · exact c.fs i a q
      · exact .inr q
      · exact .inl q
    · rw [put1_ne hj] at z
      exact c.fs j a z
  keep := fun a o e z => by
    have z : ∀ i, a ∉ Fs0 i := z.resolve_left (fun q => nomatch q)
    refine h1 a o (c.keep a o e (.inr z)) fun w => ?_
    rcases c.fs i a w with ⟨j, w⟩ | w
    · exact z j w
    · rw [e] at w; cases w
  there := fun a o e => by
    obtain ⟨o', e'⟩ := c.there a o e
    exact h2 a o' e'
  roE := fun z => nomatch z
end
end Lz
end

section
set_option autoImplicit false
set_option maxRecDepth 100000
namespace Lz
open PySem PySem.Spec L2

section
variable {X : Cx} {cA : String → Option Addr} {fl : String → List String} {A : Ac} {c : Ctx} {pos pos' p apos cpos : Pos} {a e : Expr} {ia : E} {st : Stmt} {sts : List Stmt} {iss : List Lz.S}
theorem upd_there {H : Hp} {p : Addr} {o : HO} : ∀ b o', H b = some o' → ∃ o2, upd H p o b = some o2 := fun b o' h => by
  by_cases e : b = p
  · subst e; exact ⟨o, upd_same⟩
  · exact ⟨o', by rw [upd_ne e]; exact h⟩

/-- the flags of what is stored -/
theorem store_items {Γ : Gm} {keep : Bool} {S0 S : Addr → Prop} {Fs0 Fs : Nat → List Addr} {σ : St} {H0 H : Hp} {env0 env : Lz.Env} {ds : List D} {vs : List V} {F : List Addr} {irs : List E} (g : GotL Γ A false false irs S0 Fs0 σ H0 env0 ds env S Fs H vs F) :
    ∃ S1 F1, SR Γ A S1 Fs σ H env ∧ Chg false S0 Fs0 H0 env0 S1 Fs H env ∧ RepL Γ A.N S1 H (if keep = true then ds else shareL ds) vs F1 ∧ F1.Nodup ∧ ∀ a ∈ F1, A.N a ∧ ¬ S1 a ∧ (∀ i, a ∉ Fs i) ∧ Mut (H a) ∧ (H0 a = none ∨ ∃ i, a ∈ Fs0 i) := by
  obtain ⟨n1, fr⟩ := g.fresh rfl
  cases keep with
  | true =>
    refine ⟨S, F, g.sr, g.chg, by rw [if_pos rfl]; exact g.rep, n1, fun a z => ?_⟩
    obtain ⟨q1, q2, q3, q4, q5⟩ := fr a z
    exact ⟨q1, q2, q3, q4, q5.imp_right (·.2)⟩
  | false =>
    obtain ⟨s2, c2⟩ := addS_of g.sr g.chg fr
    refine ⟨_, [], s2, c2, ?_, List.nodup_nil, fun _ z => nomatch z⟩
    rw [if_neg Bool.false_ne_true]
    exact RepL.share ds vs F g.rep (fun _ z => .inl z) fun a z => ⟨.inr z, (fr a z).1⟩

theorem mut_slot {Γ : Gm} {S0 S : Addr → Prop} {Fs0 Fs : Nat → List Addr} {σ : St} {H0 H : Hp} {env0 env : Lz.Env} {i : Nat} {xs : List D} {l : Addr} {vs us : List V} {ds' : List D} {F1 : List Addr} 
    (s : SR Γ A S Fs σ H env) (c : Chg false S0 Fs0 H0 env0 S Fs H env) (hd : env[i]? = some (some (.lst .o xs))) (hv : σ[i]? = some (some (.ref l))) (hl : H l = some (.lst vs)) (F0 : List Addr) (hF : Fs i = l :: F0) (r : RepL Γ A.N S H ds' us (F0 ++ F1)) (n1 : F1.Nodup)
    (fr : ∀ a ∈ F1, A.N a ∧ ¬ S a ∧ (∀ i, a ∉ Fs i) ∧ Mut (H a) ∧ (H0 a = none ∨ ∃ i, a ∈ Fs0 i)) :
    ∃ Fs', SR Γ A S Fs' σ (upd H l (.lst us)) (env.set i (some (.lst .o ds'))) ∧ Chg false S0 Fs0 H0 env0 S Fs' (upd H l (.lst us)) (env.set i (some (.lst .o ds'))) := by
  have hli : l ∈ Fs i := by rw [hF]; exact List.mem_cons_self
  have nd := s.nd i
  rw [hF, List.nodup_cons] at nd
  have hlF1 : l ∉ F1 := fun z => (fr l z).2.2.1 i hli
  have hln : l ∉ F0 ++ F1 := fun z => (List.mem_append.mp z).elim nd.1 hlF1
  have h1 : ∀ b o, H b = some o → b ∉ Fs i → upd H l (.lst us) b = some o := fun b o e z => by
    rw [upd_ne]
    · exact e
    · intro q; subst q; exact z hli
  have hst : Stay S (F0 ++ F1) H (upd H l (.lst us)) := fun b o e z => by
    rw [upd_ne]
    · exact e
    · intro q
      subst q
      rcases z with z | z | z
      · exact (s.frz i _ hli).2.1 z
      · exact hln z
      · rw [hl] at e; cases e; exact z trivial
  have rep : Rep Γ A.N S (upd H l (.lst us)) (.lst .o ds') (.ref l) (l :: (F0 ++ F1)) := .lstO upd_same (RepL.stay _ _ _ r hst (fun _ z => z) fun _ z => z)
  have mu : ∀ b ∈ l :: (F0 ++ F1), Mut (upd H l (.lst us) b) := fun b z => by
    by_cases q : b = l
    · subst q; rw [upd_same]; trivial
    · rw [upd_ne q]
      rcases List.mem_cons.mp z with z | z
      · exact absurd z q
      · rcases List.mem_append.mp z with z | z
        · exact (s.frz i b (by rw [hF]; exact List.mem_cons_of_mem _ z)).2.2
        · exact (fr b z).2.2.2.1
  refine ⟨put1 Fs i (l :: (F0 ++ F1)), s.mut hd hv h1 upd_there rep ?_ (fun b z => ⟨mu b z, ?_⟩), c.mut h1 upd_there fun b z => ?_⟩
  · refine List.nodup_cons.mpr ⟨hln, List.nodup_append.mpr ⟨nd.2, n1, fun a z b w q => ?_⟩⟩
    subst q
    exact (fr a w).2.2.1 i (by rw [hF]; exact List.mem_cons_of_mem _ z)
  · rcases List.mem_cons.mp z with z | z
    · subst z; exact .inl hli
    · rcases List.mem_append.mp z with z | z
      · exact .inl (by rw [hF]; exact List.mem_cons_of_mem _ z)
      · exact .inr ⟨(fr b z).1, (fr b z).2.1, (fr b z).2.2.1⟩
  · rcases List.mem_cons.mp z with z | z
    · subst z; exact .inl hli
    · rcases List.mem_append.mp z with z | z
      · exact .inl (by rw [hF]; exact List.mem_cons_of_mem _ z)
      · exact .inr (fr b z).2.2.2.2
theorem Rep.own_inv {Γ : Gm} {N S : Addr → Prop} {H : Hp} {xs : List D} {v : V} {F : List Addr} (r : Rep Γ N S H (.lst .o xs) v F) : ∃ l vs F0, v = .ref l ∧ H l = some (.lst vs) ∧ F = l :: F0 ∧ RepL Γ N S H xs vs F0 := by
  cases r with
  | lstO h1 h2 => exact ⟨_, _, _, rfl, h1, rfl, h2⟩

theorem mutate_own {n : String} {ds : List D} {d q d' : D} (h : mutate n ds d = .ok (q, d')) (hn : n ≠ "update") : ∃ xs, d = .lst .o xs := by
  unfold mutate at h
  by_cases h1 : n = "append"
  · rw [if_pos h1] at h
    split at h
    · exact ⟨_, rfl⟩
    · cases h
  rw [if_neg h1] at h
  by_cases h2 : n = "extend"
  · rw [if_pos h2] at h
    split at h
    · exact ⟨_, rfl⟩
    · cases h
  rw [if_neg h2] at h
  by_cases h3 : n = "insert"
  · rw [if_pos h3] at h
    split at h
    · exact ⟨_, rfl⟩
    · cases h
  rw [if_neg h3] at h
  by_cases h4 : n = "reverse"
  · rw [if_pos h4] at h
    split at h
    · exact ⟨_, rfl⟩
    · cases h
  rw [if_neg h4, if_neg hn] at h
  cases h
/-- x.append(e), x.extend(e): a slot's own list -/
theorem ts_mutV {n : String} {id : String} {x : Str} {nm : Str} {i : Nat} {keep : Bool} {r : V → List V → Hp → VK → Prop} {es : List Expr} {irs : List E} (hN : X.N[i]? = some x) (hv : Vis X.env.scope x) (hdb : (x == ("__debug__" : Str)) = false) (hcd : (x == ("__classdict__" : Str)) = false)
    (slot : Slot "list" nm id) (hty : typeOf (.builtin id) = pure (.type "method_descriptor")) (hm : MtR X id r) (hli : n ≠ "update") (ha : PA X (e :: es) (TEvs (gm X cA fl) A c false false irs))
    (hr : ∀ (Γ : Gm) (N S : Addr → Prop) (H : Hp) (l : Addr) (vs : List V) (ds xs : List D) (us : List V) (F1 F0 : List Addr) (q d' : D) (Q : VK), Γ.K = X.K → H l = some (.lst vs) → RepL Γ N S H xs vs F0 → RepL Γ N S H ds us F1 → mutate n ds (.lst .o xs) = .ok (q, d') →
      (∀ ds' us' F2, d' = .lst .o ds' → RepL Γ N S H ds' us' (F0 ++ F2) → F2.Nodup → (∀ a ∈ F2, a ∈ F1) → Q .non (upd H l (.lst us'))) → F1.Nodup → r (.ref l) us H Q)
    (hs : swapsWith (.Call (.Attribute (.Name x p) nm apos) (e :: es) [] cpos) none pos.line X.env = pure false)
    (hfew : ((backTo cpos (starEach (e :: es) X.env)).all (fun x => !x.1) && (backToKw cpos (keywordEach [] X.env)).all (fun x => x.1.isSome) && decide ((e :: es).length + ([] : List Keyword).length + (if ([] : List Keyword).isEmpty then 0 else 1) < 30)) = true)
    (hline : (apos.endLine == cpos.line) = true) (hst : starEach (e :: es) X.env = (false, eval e X.env) :: starEach es X.env) (hpl : (backTo cpos (starEach es X.env)).any (·.1) = false) (hbase : attributeBase (.Name x p) nm X.env (eval (.Name x p) X.env) = eval (.Name x p) X.env) :
    PS X (.Expr (.Call (.Attribute (.Name x p) nm apos) (e :: es) [] cpos) pos) (TSv (gm X cA fl) A c (.mut keep n (.var i) irs)) := by
  refine ps_weak (ps_expr (pe_bm PySem.F.plainAttrs_list slot hty hm (pe_var hN hv hdb hcd) ha hbase hfew hline hst hpl) hs) fun De σ H h => ?_
  obtain ⟨S, Fs, env, f, env', s, h0, q⟩ := h
  rw [exec] at h0
  obtain ⟨⟨t0, _⟩, e1, h0⟩ := bok h0
  dsimp only at h0
  split at h0
  · cases h0
  rename_i hl
  obtain ⟨⟨ds, env1⟩, e2, h0⟩ := bok h0
  obtain ⟨⟨si, as⟩, e3, h0⟩ := bok h0
  rw [resolve] at e3
  cases e3
  obtain ⟨d, e4, h0⟩ := bok h0
  obtain ⟨⟨q0, d'⟩, e5, h0⟩ := bok h0
  cases h0
  -- the list, ahead
  rw [ev] at e1
  obtain ⟨t1, e6, e1⟩ := bok e1
  skip
  rw [Bool.true_or, if_pos rfl] at e1
  cases e1
  obtain ⟨v, e7, rv⟩ := s.rep i t0 (getS_ok e6)
  have hlst : ∃ fg xs, t0 = .lst fg xs := by
    cases t0 <;> simp_all [listy]
  obtain ⟨fg, xs0, rfl⟩ := hlst
  obtain ⟨l, vs0, F', rfl, hp, _, _, _⟩ := rv.lst_inv
  refine ⟨.ref l, e7, .inl ⟨rfl, _, hp⟩, S, Fs, env, ds, env1, s, e2, fun S1 Fs1 H1 us F g => ?_⟩
  obtain ⟨S2, F1, s2, c2, rl, n1, fr⟩ := store_items (keep := keep) g
  obtain ⟨v2, e8, r2⟩ := s2.rep i d (getS_ok e4)
  rw [e7] at e8
  cases e8
  rw [show modP (mutate n (if keep = true then ds else shareL ds)) d [] = mutate n (if keep = true then ds else shareL ds) d from by unfold modP; rfl] at e5
  obtain ⟨xs, rfl⟩ := mutate_own e5 hli
  obtain ⟨l', vs, F0, e9, hl1, hF, rx⟩ := r2.own_inv
  cases e9
  refine hr _ A.N S2 H1 l vs _ xs us F1 F0 q0 d' _ rfl hl1 rx rl e5 (fun ds' us' F2 e10 r10 n2 m2 => ?_) n1
  subst e10
  obtain ⟨Fs', s3, c3⟩ := mut_slot s2 c2 (getS_ok e4) e7 hl1 F0 hF r10 n2 (fun a z => fr a (m2 a z))
  exact q S2 Fs' σ _ s3 c3 fun _ _ => rfl
theorem Rep.lst_inv2 {Γ : Gm} {N S : Addr → Prop} {H : Hp} {f : Fg} {ds : List D} {v : V} {F : List Addr} (h : Rep Γ N S H (.lst f ds) v F) : ∃ a vs F', v = .ref a ∧ RepL Γ N S H ds vs F' ∧ (∀ b ∈ F', b ∈ F) ∧ (f ≠ .k → H a = some (.lst vs)) ∧ (F.Nodup → F'.Nodup) := by
  cases h with
  | lstO h1 h2 => exact ⟨_, _, _, rfl, h2, fun b z => List.mem_cons_of_mem _ z, fun _ => h1, fun n => (List.nodup_cons.mp n).2⟩
  | lstS h1 h2 h3 h4 => exact ⟨_, _, _, rfl, h4, fun b z => z, fun _ => h1, fun n => n⟩
  | lstG h1 h2 h4 => exact ⟨_, _, _, rfl, h4, fun b z => z, fun _ => h1, fun n => n⟩
  | lstK h1 h4 => exact ⟨_, _, _, rfl, h4, fun b z => z, fun q => absurd rfl q, fun n => n⟩
theorem mr_append (Γ : Gm) (N S : Addr → Prop) (H : Hp) (l : Addr) (vs : List V) (ds xs : List D) (us : List V) (F1 F0 : List Addr) (q d' : D) (Q : VK) (hK : Γ.K = X.K) (hl : H l = some (.lst vs)) (rx : RepL Γ N S H xs vs F0) (rd : RepL Γ N S H ds us F1) (h : mutate "append" ds (.lst .o xs) = .ok (q, d'))
    (k : ∀ ds' us' F2, d' = .lst .o ds' → RepL Γ N S H ds' us' (F0 ++ F2) → F2.Nodup → (∀ a ∈ F2, a ∈ F1) → Q .non (upd H l (.lst us'))) (n1 : F1.Nodup) : rAppend (.ref l) us H Q := by
  unfold mutate at h
  rw [if_pos rfl] at h
  split at h
  · rename_i e2
    cases e2
    split at h
    · rename_i hz
      cases h
      obtain ⟨y, rfl, ry⟩ := rd.one
      refine ⟨l, vs, y, rfl, rfl, hl, by rw [← rx.length, sizeLine_line]; exact hz, ?_⟩
      exact k _ _ F1 rfl (RepL.append' rx rd) n1 fun _ z => z
    · cases h
  · cases h
def rExtendA (K : PySem.W.Frag) : V → List V → Hp → VK → Prop := fun x vs H Q => rExtend x vs H Q
theorem mr_extend (Γ : Gm) (N S : Addr → Prop) (H : Hp) (l : Addr) (vs : List V) (ds xs : List D) (us : List V) (F1 F0 : List Addr) (q d' : D) (Q : VK) (hK : Γ.K = X.K) (hl : H l = some (.lst vs)) (rx : RepL Γ N S H xs vs F0) (rd : RepL Γ N S H ds us F1) (h : mutate "extend" ds (.lst .o xs) = .ok (q, d'))
    (k : ∀ ds' us' F2, d' = .lst .o ds' → RepL Γ N S H ds' us' (F0 ++ F2) → F2.Nodup → (∀ a ∈ F2, a ∈ F1) → Q .non (upd H l (.lst us'))) (n1 : F1.Nodup) : rExtend (.ref l) us H Q := by
  unfold mutate at h
  rw [if_neg (by decide), if_pos rfl] at h
  split at h
  · rename_i e2
    cases e2
    split at h
    · rename_i hz
      cases h
      obtain ⟨y, rfl, ry⟩ := rd.one
      obtain ⟨a, ws, F', rfl, r1, hF, hk, hn⟩ := ry.lst_inv2
      refine ⟨l, a, vs, ws, rfl, rfl, hl, hk hz.1, by rw [← rx.length, ← r1.length, sizeLine_line]; exact hz.2, ?_⟩
      exact k _ _ F' rfl (RepL.append' rx r1) (hn n1) hF
    · cases h
  · cases h
end
end Lz
end

section
set_option autoImplicit false
set_option maxRecDepth 100000
namespace Lz
open PySem PySem.Spec L2

/-! ### what is walked -/
/-- the walk J hands on the items xs, as long as the watched slots stand -/
structure ItV (Γ : Gm) (A : Ac) (xs : List D) (w : Watch) (S : Addr → Prop) (Fs : Nat → List Addr) (σ : St) (H : Hp) (env : Lz.Env) (J : It) : Prop where
  go : ∀ S1 Fs1 σ1 H1 env1, SR Γ A S1 Fs1 σ1 H1 env1 → Chg false S Fs H env S1 Fs1 H1 env1 → (∀ p ∈ w, σ1[p.1]? = σ[p.1]?) → stands w env1 = true →
    (∀ i, xs.length ≤ i → J.stop i H1) ∧ ∀ i x, xs[i]? = some x → J.go i H1 ∧ ∀ v H2, J.yld i H1 v H2 → (∀ a o, H1 a = some o → H2 a = some o) ∧ Rep Γ A.N S1 H2 x v []
def TIv (Γ : Gm) (A : Ac) (c : Ctx) (ro : Bool) (it : I) : TI := fun σ H R => ∃ S Fs env xs w env', SR Γ A S Fs σ H env ∧ evI c ro it env = .ok (xs, w, env') ∧
  ∀ S' Fs' H' J, SR Γ A S' Fs' σ H' env' → Chg ro S Fs H env S' Fs' H' env' → ItV Γ A xs w S' Fs' σ H' env' J → R J H'
theorem pi_weak {X : Cx} {tg e : Expr} {t u : TI} (h : PI X tg e t) (w : ∀ σ H R, u σ H R → t σ H R) : PI X tg e u := ⟨fun pins s σ H R I q => h.run pins s σ H R I (w σ H R q)⟩

section
variable {Γ : Gm} {A : Ac} {ro pk : Bool} {S S1 S2 S' : Addr → Prop} {Fs Fs1 Fs2 Fs' : Nat → List Addr} {σ σ1 : St} {H H1 H2 H' : Hp} {env env1 env2 env' : Lz.Env} {d : D} {v : V} {F : List Addr} {a : Addr} {i : Nat}
theorem stay_flat (s : SR Γ A S Fs σ H env) (c : Chg ro S Fs H env S1 Fs1 H1 env1) {ds : List D} {vs : List V} (r : RepL Γ A.N S H ds vs []) : RepL Γ A.N S1 H1 ds vs [] := s.stayL c (.inr fun a z => nomatch z) r
theorem sqT_stay' (s : SR Γ A S Fs σ H env) (c : Chg ro S Fs H env S1 Fs1 H1 env1) {vs : List V} (h : SqT Γ.K H a vs) : SqT Γ.K H1 a vs := sqT_stay h (s.stay (F := []) c (.inr fun a z => nomatch z))
/-- a list that is not own, or nobody's, is walked -/
theorem itv_list {xs : List D} {vs : List V} (hl : ∀ S1 Fs1 σ1 H1 env1, SR Γ A S1 Fs1 σ1 H1 env1 → Chg false S Fs H env S1 Fs1 H1 env1 → SqL Γ.K H1 a vs) (s : SR Γ A S Fs σ H env) (r : RepL Γ A.N S H xs vs []) : ItV Γ A xs [] S Fs σ H env (Itl Γ.K a) := ⟨fun S1 Fs1 σ1 H1 env1 s1 c1 _ _ => by
  have q := hl S1 Fs1 σ1 H1 env1 s1 c1
  have r1 := stay_flat s c1 r
  refine ⟨fun i hi => ⟨vs, q, by rw [← r.length]; exact hi⟩, fun i x hx => ?_⟩
  obtain ⟨v, Fx, e, rx, hs, _⟩ := r1.get hx
  have : Fx = [] := List.eq_nil_iff_forall_not_mem.mpr fun a z => nomatch hs a z
  subst this
  refine ⟨⟨vs, v, q, e⟩, fun v2 H2 ⟨e1, e2⟩ => ?_⟩
  subst e1
  have := e2 vs q
  rw [e] at this
  cases this
  exact ⟨fun _ _ h => h, rx⟩⟩
theorem itv_tup {xs : List D} {vs : List V} (hl : SqT Γ.K H a vs) (s : SR Γ A S Fs σ H env) (r : RepL Γ A.N S H xs vs []) : ItV Γ A xs [] S Fs σ H env (Itt Γ.K a) := ⟨fun S1 Fs1 σ1 H1 env1 s1 c1 _ _ => by
  have q := sqT_stay' s c1 hl
  have r1 := stay_flat s c1 r
  refine ⟨fun i hi => ⟨vs, q, by rw [← r.length]; exact hi⟩, fun i x hx => ?_⟩
  obtain ⟨v, Fx, e, rx, hs, _⟩ := r1.get hx
  have : Fx = [] := List.eq_nil_iff_forall_not_mem.mpr fun a z => nomatch hs a z
  subst this
  refine ⟨⟨vs, v, q, e⟩, fun v2 H2 ⟨e1, e2⟩ => ?_⟩
  subst e1
  have := e2 vs q
  rw [e] at this
  cases this
  exact ⟨fun _ _ h => h, rx⟩⟩
theorem stands_at {w : Watch} (h : stands w env = true) {p : Nat × D} (hp : p ∈ w) : env[p.1]? = some (some p.2) := by
  unfold stands at h
  have := List.all_eq_true.mp h p hp
  split at this
  · rename_i d e
    rw [e, D.eq_of_same _ _ this]
  · cases this
/-- a slot's own list, watched -/
theorem itv_own {xs : List D} {j : Nat} (hx : xs.any D.own = false) (e1 : env[j]? = some (some (.lst .o xs))) (s : SR Γ A S Fs σ H env) (hv : σ[j]? = some (some (.ref a))) : ItV Γ A xs [(j, .lst .o xs)] S Fs σ H env (Itl Γ.K a) := ⟨fun S1 Fs1 σ1 H1 env1 s1 c1 m1 st => by
  have e2 := stands_at st (p := (j, .lst .o xs)) List.mem_cons_self
  have m2 := m1 (j, .lst .o xs) List.mem_cons_self
  obtain ⟨v, e3, rv⟩ := s1.rep j _ e2
  dsimp only at m2
  rw [m2, hv] at e3
  cases e3
  obtain ⟨l, vs, F0, e4, hl, hF, r1⟩ := rv.own_inv
  cases e4
  have z := r1.noF hx
  subst z
  have q : SqL Γ.K H1 a vs := .inl (.inl hl)
  refine ⟨fun i hi => ⟨vs, q, by rw [← r1.length]; exact hi⟩, fun i x hx => ?_⟩
  obtain ⟨v, Fx, e, rx, hs, _⟩ := r1.get hx
  have : Fx = [] := List.eq_nil_iff_forall_not_mem.mpr fun a z => nomatch hs a z
  subst this
  refine ⟨⟨vs, v, q, e⟩, fun v2 H2 ⟨e1, e2⟩ => ?_⟩
  subst e1
  have := e2 vs q
  rw [e] at this
  cases this
  exact ⟨fun _ _ h => h, rx⟩⟩
theorem itv_range {lo : Int} {n : Nat} : ItV Γ A (rangeL lo n) [] S Fs σ H env (Itr lo n) := ⟨fun S1 Fs1 σ1 H1 env1 s1 c1 _ _ => by
  refine ⟨fun i hi => ?_, fun i x hx => ?_⟩
  · show n ≤ i
    simpa [rangeL] using hi
  · have hi : i < n := by
      have := (List.getElem?_eq_some_iff.mp hx).1
      simpa [rangeL] using this
    refine ⟨hi, fun v H2 ⟨e1, e2⟩ => ?_⟩
    subst e1; subst e2
    have : x = .int (lo + i) := by
      unfold rangeL at hx
      rw [List.getElem?_map, List.getElem?_range hi] at hx
      exact (Option.some.inj hx).symm
    subst this
    exact ⟨fun _ _ h => h, .int _⟩⟩
end

section
variable {X : Cx} {cA : String → Option Addr} {fl : String → List String} {A : Ac} {c : Ctx} {ro pk : Bool} {pos pos' p : Pos} {a b e tg : Expr} {ia ib : E}
theorem isRg_of {i : Int} (h : isRg i = true) : -(2 ^ 62) ≤ i ∧ i < 2 ^ 62 := by
  unfold isRg at h
  simp only [Bool.and_eq_true, decide_eq_true_eq] at h
  omega
theorem ti_rng1 (hg : Gl X "range") (hm : X.mg "range" = none) (ha : PA X [a] (TEvs (gm X cA fl) A c ro false [ia])) (hs : starEach [a] X.env = [(false, eval a X.env)]) : PI X tg (.Call (.Name "range" p) [a] [] pos) (TIv (gm X cA fl) A c ro (.rng [ia])) :=
  pi_weak (pi_range1 hg hm ha hs) fun σ H R h => by
  obtain ⟨S, Fs, env, xs, w, env', s, h0, q⟩ := h
  rw [evI] at h0
  obtain ⟨⟨ds, env1⟩, e1, h0⟩ := bok h0
  refine ⟨S, Fs, env, ds, env1, s, e1, fun S1 Fs1 H1 vs F g => ?_⟩
  dsimp only at h0
  split at h0
  · rename_i j
    split at h0
    · rename_i hj
      cases h0
      obtain ⟨v, rfl, rv⟩ := g.rep.one
      cases rv
      obtain ⟨j1, j2⟩ := isRg_of hj
      exact ⟨j, rfl, j1, j2, q S1 Fs1 H1 _ g.sr g.chg itv_range⟩
    · cases h0
  · have := evs_length e1
    simp at this
  · cases h0
theorem ti_rng2 (hg : Gl X "range") (hm : X.mg "range" = none) (ha : PA X [a, b] (TEvs (gm X cA fl) A c ro false [ia, ib])) (hs : starEach [a, b] X.env = [(false, eval a X.env), (false, eval b X.env)]) (hs2 : starEach [b] X.env = [(false, eval b X.env)]) : PI X tg (.Call (.Name "range" p) [a, b] [] pos) (TIv (gm X cA fl) A c ro (.rng [ia, ib])) :=
  pi_weak (pi_range2 hg hm ha hs hs2) fun σ H R h => by
  obtain ⟨S, Fs, env, xs, w, env', s, h0, q⟩ := h
  rw [evI] at h0
  obtain ⟨⟨ds, env1⟩, e1, h0⟩ := bok h0
  refine ⟨S, Fs, env, ds, env1, s, e1, fun S1 Fs1 H1 vs F g => ?_⟩
  dsimp only at h0
  split at h0
  · have := evs_length e1
    simp at this
  · rename_i i j
    split at h0
    · rename_i hj
      cases h0
      obtain ⟨hi, hj⟩ := Bool.and_eq_true_iff.mp hj
      have r := g.rep
      cases r with
      | cons r1 r2 =>
        obtain ⟨v, rfl, rv⟩ := r2.one
        cases r1; cases rv
        obtain ⟨i1, i2⟩ := isRg_of hi
        obtain ⟨j1, j2⟩ := isRg_of hj
        exact ⟨i, j, rfl, ⟨i1, i2, j1, j2⟩, q S1 Fs1 H1 _ g.sr g.chg itv_range⟩
    · cases h0
  · cases h0
theorem PI.or {t u : TI} (h1 : PI X tg e t) (h2 : PI X tg e u) : PI X tg e (fun σ H R => t σ H R ∨ u σ H R) := ⟨fun pins s σ H R I q => q.elim (h1.run pins s σ H R I) (h2.run pins s σ H R I)⟩
theorem itv_str {Γ : Gm} {S : Addr → Prop} {Fs : Nat → List Addr} {σ : St} {H : Hp} {env : Lz.Env} {s : String} : ItV Γ A (s.toList.map fun c => .str (String.ofList [c])) [] S Fs σ H env (Its (Str.ofString s)) := ⟨fun S1 Fs1 σ1 H1 env1 s1 c1 _ _ => by
  have e0 : (Str.ofString s).cps.size = s.toList.length := by
    have := ofString_length s
    rw [← String.length_toList] at this
    exact this
  refine ⟨fun i hi => ?_, fun i x hx => ?_⟩
  · show (Str.ofString s).cps.size ≤ i
    rw [e0]
    simpa using hi
  · have hi := (List.getElem?_eq_some_iff.mp hx).1
    rw [List.length_map] at hi
    refine ⟨by show i < (Str.ofString s).cps.size; rw [e0]; exact hi, fun v H2 ⟨e1, ch, e2, e3⟩ => ?_⟩
    subst e1; subst e3
    refine ⟨fun _ _ h => h, ?_⟩
    rw [List.getElem?_map] at hx
    have e4 := ofString_get s i
    rw [Array.getElem?_toList, e2] at e4
    cases e5 : s.toList[i]? with
    | none => rw [e5] at hx; cases hx
    | some k =>
      rw [e5] at hx e4
      cases hx
      cases e4
      rw [← ofString_one]
      exact .str _⟩
theorem RepL.share_ids {Γ : Gm} {N S : Addr → Prop} {H : Hp} {ds : List D} {vs : List V} (r : RepL Γ N S H ds vs []) : shareL ds = ds := RepL.share_id ds vs r

theorem lst_walk {Γ : Gm} {S : Addr → Prop} {Fs : Nat → List Addr} {σ : St} {H : Hp} {env : Lz.Env} {f : Fg} {zs : List D} {v : V} (s : SR Γ A S Fs σ H env) (r : Rep Γ A.N S H (.lst f zs) v []) : ∃ p vs, v = .ref p ∧ SqL Γ.K H p vs ∧ ItV Γ A zs [] S Fs σ H env (Itl Γ.K p) := by
  cases r with
  | lstS h1 h2 h3 h4 => exact ⟨_, _, rfl, .inl (.inl h1), itv_list (fun S2 Fs2 σ2 H2 env2 s2 c2 => .inl (.inl (c2.keep _ _ h1 (.inr fun i z => (s.frz i _ z).2.1 h2)))) s h4⟩
  | lstG h1 h2 h4 => exact ⟨_, _, rfl, .inl (.inl h1), itv_list (fun S2 Fs2 σ2 H2 env2 s2 c2 => .inl (.inl (c2.keep _ _ h1 (.inr fun i z => (s.frz i _ z).2.1 h2)))) s h4⟩
  | lstK h1 h4 => exact ⟨_, _, rfl, h1.seq, itv_list (fun S2 Fs2 σ2 H2 env2 s2 c2 => (sqK_stay h1 (s.stay (F := []) c2 (.inr fun a z => nomatch z))).seq) s h4⟩

theorem ti_val (he : ∀ ro pk, PE X e (TEv (gm X cA fl) A c ro pk ia)) : PI X tg e (TIv (gm X cA fl) A c ro (.val ia)) :=
  pi_weak (PI.or (pi_list (he ro true)) (PI.or (pi_tup (he ro true)) (pi_str (he ro true)))) fun σ H R h => by
  obtain ⟨S, Fs, env, xs, w, env', s, h0, q⟩ := h
  rw [evI] at h0
  obtain ⟨⟨d, env1⟩, e1, h0⟩ := bok h0
  obtain ⟨ys, e2, hh⟩ := bok h0
  by_cases ho : (!d.own) = true
  · rw [if_pos ho] at hh
    cases hh
    have ho' : d.own = false := by simpa using ho
    cases d with
    | tup zs =>
      cases e2
      refine .inr (.inl ⟨S, Fs, env, _, _, s, e1, fun S1 Fs1 H1 v F g => ?_⟩)
      obtain ⟨p, vs, rfl, hp, r1, _⟩ := g.rep.tup_inv
      exact ⟨p, rfl, ⟨vs, hp⟩, q S1 Fs1 H1 _ g.sr g.chg (itv_tup hp g.sr r1)⟩
    | lst f zs =>
      cases e2
      refine .inl ⟨S, Fs, env, _, _, s, e1, fun S1 Fs1 H1 v F g => ?_⟩
      have hF := g.rep.noF ho'
      subst hF
      obtain ⟨p, vs, rfl, hp, it⟩ := lst_walk g.sr g.rep
      exact ⟨p, rfl, ⟨vs, hp⟩, q S1 Fs1 H1 _ g.sr g.chg it⟩
    | str z =>
      cases e2
      refine .inr (.inr ⟨S, Fs, env, _, _, s, e1, fun S1 Fs1 H1 v F g => ?_⟩)
      have r := g.rep
      cases r
      exact ⟨_, rfl, q S1 Fs1 H1 _ g.sr g.chg itv_str⟩
    | dic f kvs => cases e2
    | non => cases e2
    | bl b => cases e2
    | int i => cases e2
    | obj f k fs => cases e2
  · rw [if_neg ho] at hh
    cases d with
    | lst f zs =>
      have hf : f = .o := by cases f <;> simp_all [D.own, Fg.isO]
      subst hf
      cases e2
      refine .inl ⟨S, Fs, env, _, _, s, e1, fun S1 Fs1 H1 v F g => ?_⟩
      obtain ⟨p, vs, F0, rfl, hl, rfl, r1⟩ := g.rep.own_inv
      refine ⟨p, rfl, ⟨vs, .inl (.inl hl)⟩, ?_⟩
      -- frozen, all of it
      have frozen : ∀ (S2 : Addr → Prop) (Fs2 : Nat → List Addr) (env2 : Lz.Env), SR (gm X cA fl) A S2 Fs2 σ H1 env2 → (∀ a, S1 a → S2 a) → (∀ a ∈ p :: F0, S2 a ∧ A.N a) → ItV (gm X cA fl) A (shareL ys) [] S2 Fs2 σ H1 env2 (Itl X.K p) := fun S2 Fs2 env2 s2 h1 h2 => by
        have r2 := RepL.share ys vs F0 r1 h1 fun a z => h2 a (List.mem_cons_of_mem _ z)
        refine itv_list (Γ := gm X cA fl) (fun S3 Fs3 σ3 H3 env3 s3 c3 => ?_) s2 r2
        exact .inl (.inl (c3.keep _ _ hl (.inr fun i z => (s2.frz i _ z).2.1 (h2 p List.mem_cons_self).1)))
      by_cases hp : (!isPath ia) = true
      · rw [if_pos hp] at hh
        cases hh
        have hpe : pathOf ia = none := by unfold pathOf; rw [if_neg (by simpa using hp)]
        obtain ⟨n1, fr⟩ := g.fresh (.inr hpe)
        obtain ⟨s2, c2⟩ := addS_of g.sr g.chg fr
        exact q _ _ _ _ s2 c2 (frozen _ _ _ s2 (fun _ z => .inl z) fun a z => ⟨.inr z, (fr a z).1⟩)
      rw [if_neg hp] at hh
      have hpe : pathOf ia = some (rootOf ia) := by unfold pathOf; rw [if_pos (by simpa using hp)]
      have thaw : ro = false → ItV (gm X cA fl) A (shareL ys) [] (fun a => S1 a ∨ a ∈ Fs1 (rootOf ia)) (less Fs1 (rootOf ia)) σ H1 (freezeRoot env1 (rootOf ia)) (Itl X.K p) := fun _ =>
        frozen _ _ _ (g.sr.freezeRoot _) (fun _ z => .inl z) fun a z => ⟨.inr (g.way _ hpe rfl a z), (g.sr.frz _ a (g.way _ hpe rfl a z)).1⟩
      have deep : ∀ {xs' : List D} {w' : Watch} {env2 : Lz.Env}, (if ro = true then stuck "own things walked in a read" else Except.ok (shareL ys, ([] : Watch), freezeRoot env1 (rootOf ia))) = Except.ok (xs', w', env2) → (xs', w', env2) = (xs, w, env') → R (Itl X.K p) H1 := fun {xs' w' env2} h9 e0 => by
        cases e0
        by_cases hro : ro = true
        · rw [if_pos hro] at h9; cases h9
        · rw [if_neg hro] at h9
          have hro' : ro = false := by simpa using hro
          subst hro'
          cases h9
          exact q _ _ _ _ (g.sr.freezeRoot _) (g.chg.trans (Chg.freeze g.sr)) (thaw rfl)
      have hxx : (!ys.any D.own) = true ∨ ¬ (!ys.any D.own) = true := Classical.em _
      cases ia with
      | var i =>
        dsimp only at hh
        rcases hxx with hx | hx
        · rw [if_pos hx] at hh
          cases hh
          -- the slot's own list, watched
          rw [ev] at e1
          obtain ⟨d0, e3, e1⟩ := bok e1
          rw [Bool.true_or, if_pos rfl] at e1
          cases e1
          have e4 := getS_ok e3
          obtain ⟨v, e5, rv⟩ := g.sr.rep i _ e4
          obtain ⟨l, vs', F0', e6, hl', hF', rx⟩ := rv.own_inv
          have hpi : p ∈ Fs1 i := g.way i rfl rfl p List.mem_cons_self
          have hx' : xs.any D.own = false := by simpa using hx
          have z := rx.noF hx'
          subst z
          rw [hF'] at hpi
          have hpl : p = l := by simpa using hpi
          subst hpl
          subst e6
          exact q _ _ _ _ g.sr g.chg (itv_own hx' e4 g.sr e5)
        · rw [if_neg hx] at hh
          by_cases hro : ro = true
          · rw [if_pos hro] at hh; cases hh
          · rw [if_neg hro] at hh
            have hro' : ro = false := by simpa using hro
            subst hro'
            cases hh
            exact q _ _ _ _ (g.sr.freezeRoot _) (g.chg.trans (Chg.freeze g.sr)) (thaw rfl)
      | fld e n => exact deep hh rfl
      | idx e i => exact deep hh rfl
      | _ => simp [isPath] at hp
    | dic f kvs => cases e2
    | obj f k fs => cases e2
    | _ => simp [Lz.D.own] at ho
end
end Lz
end

section
set_option autoImplicit false
set_option maxRecDepth 100000
namespace Lz
open PySem PySem.Spec L2

section
variable {X : Cx} {cA : String → Option Addr} {fl : String → List String} {A : Ac} {c : Ctx} {ro pk : Bool} {pos pos' p : Pos} {a b e tg iter : Expr} {ia ib : E}
theorem apart_of {w : Watch} {l : List Nat} (h : apartFrom w l = true) {p : Nat × D} (hp : p ∈ w) : p.1 ∉ l := fun z => by
  have := List.all_eq_true.mp h p hp
  simp at this
  exact this z
theorem drop_cases {α : Type} (xs : List α) (i : Nat) : (xs.length ≤ i ∧ xs.drop i = []) ∨ ∃ x, xs[i]? = some x ∧ xs.drop i = x :: xs.drop (i + 1) := by
  by_cases h : xs.length ≤ i
  · exact .inl ⟨h, List.drop_eq_nil_of_le h⟩
  · have h' : i < xs.length := by omega
    exact .inr ⟨xs[i], List.getElem?_eq_getElem h', List.drop_eq_getElem_cons h'⟩

theorem ts_for {t : Tg} {it : I} {body : List Stmt} {ib : List Lz.S} (hx : X.xe = fun _ _ => False) (hc : X.calm = true) (hi : PI X tg iter (TIv (gm X cA fl) A c false it)) (hg : PG X tg (TGv (gm X cA fl) A c t (tgS t))) (hb : PSs X body (TSsv (gm X cA fl) A c ib))
    (hs : ∀ x, foldedSetIterable iter X.env x = pure x) (hasg : asgS (.forS t it ib) = tgS t ++ asgSs ib) : PS X (.For tg iter body [] pos) (TSv (gm X cA fl) A c (.forS t it ib)) := by
  refine ps_weak (ps_for (by rw [hx]; exact PassesOwn.never) hc hi hg hb hs) fun De σ H h => ?_
  obtain ⟨S, Fs, env, f, env', s, h0, q⟩ := h
  rw [exec] at h0
  obtain ⟨⟨xs, w, env1⟩, e1, h0⟩ := bok h0
  dsimp only at h0
  refine ⟨S, Fs, env, xs, w, env1, s, e1, fun S1 Fs1 H1 J s1 c1 iv => ?_⟩
  split at h0
  · cases h0
  rename_i hap
  have hap : apartFrom w (asgS (.forS t it ib)) = true := by simpa using hap
  have hst : ∀ {σ2 : St}, Same (asgS (.forS t it ib)) σ σ2 → ∀ p ∈ w, σ2[p.1]? = σ[p.1]? := fun {σ2} m p hp => m p.1 (apart_of hap hp)
  generalize hstep : (fun (x : D) (e0 : Lz.Env) => (do
      let e1 ← setTg c t x e0
      execs c ib e1 : Ex (Fl × Lz.Env))) = step at h0
  refine ⟨fun i m σ2 H2 => m = xs.length - i ∧ ∃ S2 Fs2 env2, SR (gm X cA fl) A S2 Fs2 σ2 H2 env2 ∧ Chg false S1 Fs1 H1 env1 S2 Fs2 H2 env2 ∧ Same (asgS (.forS t it ib)) σ σ2 ∧ forLoop w step (xs.drop i) env2 = .ok (f, env'),
    ⟨xs.length, by simp, S1, Fs1, env1, s1, Chg.refl, fun _ _ => rfl, by rw [List.drop_zero]; exact h0⟩, ?_⟩
  rintro i m σ2 H2 ⟨rfl, S2, Fs2, env2, s2, c2, m2, h2⟩
  rcases drop_cases xs i with ⟨hi, hd⟩ | ⟨x, hx, hd⟩
  · rw [hd, forLoop] at h2
    split at h2
    · rename_i hst2
      cases h2
      refine .inl ⟨(iv.go S2 Fs2 σ2 H2 _ s2 c2 (hst m2) hst2).1 i hi, ?_⟩
      exact q S2 Fs2 σ2 H2 s2 (c1.trans c2) m2
    · cases h2
  · rw [hd, forLoop] at h2
    split at h2
    · cases h2
    rename_i hst2
    have hst2 : stands w env2 = true := by simpa using hst2
    obtain ⟨⟨f3, env3⟩, e3, h2⟩ := bok h2
    obtain ⟨g1, g2⟩ := (iv.go S2 Fs2 σ2 H2 env2 s2 c2 (hst m2) hst2).2 i x hx
    rw [← hstep] at e3
    obtain ⟨env2', e4, e5⟩ := bok e3
    have hlt : i < xs.length := (List.getElem?_eq_some_iff.mp hx).1
    refine .inr ⟨g1, fun σ3 H3 => (f3 = .nx ∨ f3 = .cnt) ∧ ∃ S3 Fs3, SR (gm X cA fl) A S3 Fs3 σ3 H3 env3 ∧ Chg false S1 Fs1 H1 env1 S3 Fs3 H3 env3 ∧ Same (asgS (.forS t it ib)) σ σ3, fun σ3 H3 ⟨hf, S3, Fs3, s3, c3, m3⟩ => ?_, fun v H3 y => ?_⟩
    · refine ⟨xs.length - (i + 1), by omega, rfl, S3, Fs3, env3, s3, c3, m3, ?_⟩
      rcases hf with rfl | rfl
      · exact h2
      · exact h2
    · obtain ⟨ext, rx⟩ := g2 v H3 y
      have s3 := s2.ext ext
      have c3 : Chg false S1 Fs1 H1 env1 S2 Fs2 H3 env2 := c2.trans (Chg.ext ext)
      refine ⟨S2, Fs2, env2, x, env2', [], s3, e4, rx, Free.nil, fun S4 Fs4 σ4 H4 s4 c4 m4 => ?_⟩
      have c4' := c4 _ _ _ _ c3 fun a z => nomatch z
      have m4' : Same (asgS (.forS t it ib)) σ σ4 := fun j hj => (m4 j fun z => hj (by rw [hasg]; exact List.mem_append_left _ z)).trans (m2 j hj)
      refine ⟨S4, Fs4, env2', f3, env3, s4, e5, fun S5 Fs5 σ5 H5 s5 c5 m5 => ?_⟩
      have c5' := c4'.trans c5
      have m5' : Same (asgS (.forS t it ib)) σ σ5 := fun j hj => (m5 j fun z => hj (by rw [hasg]; exact List.mem_append_right _ z)).trans (m4' j hj)
      cases f3 with
      | nx => exact ⟨.inl rfl, S5, Fs5, s5, c5', m5'⟩
      | cnt => exact ⟨.inr rfl, S5, Fs5, s5, c5', m5'⟩
      | brk =>
        cases h2
        exact q S5 Fs5 σ5 H5 s5 (c1.trans c5') m5'
      | ret d =>
        cases h2
        exact q S5 Fs5 σ5 H5 s5 (c1.trans c5') m5'

theorem ts_while {body : List Stmt} {ib : List Lz.S} (hx : X.xe = fun _ _ => False) (ht : PT X e (TTv (gm X cA fl) A c false true ia)) (hb : PSs X body (TSsv (gm X cA fl) A c ib)) : PS X (.While e body [] pos) (TSv (gm X cA fl) A c (.whl ia ib)) := by
  refine ps_weak (ps_while (by rw [hx]; exact PassesOwn.never) ht hb) fun De σ H h => ?_
  obtain ⟨S, Fs, env, f, env', s, h0, q⟩ := h
  rw [exec] at h0
  generalize hfu : c.fuel = n0 at h0
  generalize htest : (fun (e0 : Lz.Env) => (do
      let (x, e1) ← ev c false true ia e0
      let r ← truth x
      .ok (r, e1) : Ex (Bool × Lz.Env))) = test at h0
  generalize hstep : (fun (e0 : Lz.Env) => execs c ib e0) = step at h0
  refine ⟨fun m σ2 H2 => ∃ S2 Fs2 env2, SR (gm X cA fl) A S2 Fs2 σ2 H2 env2 ∧ Chg false S Fs H env S2 Fs2 H2 env2 ∧ Same (asgSs ib) σ σ2 ∧ whileLoop test step m env2 = .ok (f, env'), ⟨n0, S, Fs, env, s, Chg.refl, fun _ _ => rfl, h0⟩, ?_⟩
  rintro m σ2 H2 ⟨S2, Fs2, env2, s2, c2, m2, h2⟩
  cases m with
  | zero => rw [whileLoop] at h2; cases h2
  | succ m =>
    rw [whileLoop] at h2
    obtain ⟨⟨b, env3⟩, e3, h2⟩ := bok h2
    rw [← htest] at e3
    obtain ⟨⟨x, env4⟩, e4, e5⟩ := bok e3
    obtain ⟨r, e6, e7⟩ := bok e5
    cases e7
    refine ⟨S2, Fs2, env2, x, _, b, s2, e4, e6, fun S3 Fs3 H3 s3 c3 => ?_⟩
    have c3' := c2.trans c3
    cases b with
    | false =>
      dsimp only at h2 ⊢
      rw [if_neg Bool.false_ne_true] at h2 ⊢
      cases h2
      exact q S3 Fs3 σ2 H3 s3 c3' m2
    | true =>
      dsimp only at h2 ⊢
      rw [if_pos rfl] at h2 ⊢
      obtain ⟨⟨f5, env5⟩, e8, h2⟩ := bok h2
      rw [← hstep] at e8
      refine ⟨fun σ5 H5 => (f5 = .nx ∨ f5 = .cnt) ∧ ∃ S5 Fs5, SR (gm X cA fl) A S5 Fs5 σ5 H5 env5 ∧ Chg false S Fs H env S5 Fs5 H5 env5 ∧ Same (asgSs ib) σ σ5, fun σ5 H5 ⟨hf, S5, Fs5, s5, c5, m5⟩ => ?_, ?_⟩
      · refine ⟨m, by omega, S5, Fs5, env5, s5, c5, m5, ?_⟩
        rcases hf with rfl | rfl
        · exact h2
        · exact h2
      · refine ⟨S3, Fs3, env3, f5, env5, s3, e8, fun S5 Fs5 σ5 H5 s5 c5 m5 => ?_⟩
        have c5' := c3'.trans c5
        have m5' : Same (asgSs ib) σ σ5 := fun j hj => (m5 j hj).trans (m2 j hj)
        cases f5 with
        | nx => exact ⟨.inl rfl, S5, Fs5, s5, c5', m5'⟩
        | cnt => exact ⟨.inr rfl, S5, Fs5, s5, c5', m5'⟩
        | brk =>
          cases h2
          exact q S5 Fs5 σ5 H5 s5 c5' m5'
        | ret d =>
          cases h2
          exact q S5 Fs5 σ5 H5 s5 c5' m5'
end
end Lz
end

section
set_option autoImplicit false
set_option maxRecDepth 100000
namespace Lz
open PySem PySem.Spec L2

/-! ### slots forgotten and given back -/
theorem wipeE_len : ∀ (t : List Nat) (env : Lz.Env), (wipeE t env).length = env.length
  | [], env => rfl
  | i :: t, env => by
    show (wipeE t (env.set i none)).length = _
    rw [wipeE_len t, List.length_set]
theorem wipeE_ne {j : Nat} : ∀ {t : List Nat} {env : Lz.Env}, j ∉ t → (wipeE t env)[j]? = env[j]?
  | [], env, _ => rfl
  | i :: t, env, h => by
    simp only [List.mem_cons, not_or] at h
    show (wipeE t (env.set i none))[j]? = _
    rw [wipeE_ne h.2, List.getElem?_set_ne (Ne.symm h.1)]
theorem wipeE_in {j : Nat} {d : D} : ∀ {t : List Nat} {env : Lz.Env}, j ∈ t → (wipeE t env)[j]? ≠ some (some d)
  | i :: t, env, h => by
    show (wipeE t (env.set i none))[j]? ≠ _
    by_cases hj : j ∈ t
    · exact wipeE_in hj
    · rw [wipeE_ne hj]
      rcases List.mem_cons.mp h with e | e
      · subst e
        by_cases hl : j < env.length
        · rw [List.getElem?_set_self hl]; intro z; cases z
        · rw [List.getElem?_eq_none (by rw [List.length_set]; omega)]; intro z; cases z
      · exact absurd e hj
theorem wipeE_eq {t : List Nat} {e e' : Lz.Env} (hl : e.length = e'.length) (h : ∀ j, j ∉ t → e[j]? = e'[j]?) : wipeE t e = wipeE t e' := by
  apply List.ext_getElem?
  intro j
  by_cases hj : j ∈ t
  · by_cases hlt : j < e.length
    · have h1 : ∃ o, (wipeE t e)[j]? = some o := ⟨_, List.getElem?_eq_getElem (by rw [wipeE_len]; exact hlt)⟩
      have h2 : ∃ o, (wipeE t e')[j]? = some o := ⟨_, List.getElem?_eq_getElem (by rw [wipeE_len]; omega)⟩
      obtain ⟨o1, h1⟩ := h1
      obtain ⟨o2, h2⟩ := h2
      rw [h1, h2]
      cases o1 with
      | some d => exact absurd h1 (wipeE_in hj)
      | none =>
        cases o2 with
        | some d => exact absurd h2 (wipeE_in hj)
        | none => rfl
    · rw [List.getElem?_eq_none (by rw [wipeE_len]; omega), List.getElem?_eq_none (by rw [wipeE_len]; omega)]
  · rw [wipeE_ne hj, wipeE_ne hj, h j hj]
theorem resE_len : ∀ (t : List Nat) (env1 env2 : Lz.Env), (resE t env1 env2).length = env2.length
  | [], env1, env2 => rfl
  | i :: t, env1, env2 => by
    show (resE t env1 (env2.set i _)).length = _
    rw [resE_len t, List.length_set]
theorem resE_ne {j : Nat} {env1 : Lz.Env} : ∀ {t : List Nat} {env2 : Lz.Env}, j ∉ t → (resE t env1 env2)[j]? = env2[j]?
  | [], env2, _ => rfl
  | i :: t, env2, h => by
    simp only [List.mem_cons, not_or] at h
    show (resE t env1 (env2.set i _))[j]? = _
    rw [resE_ne h.2, List.getElem?_set_ne (Ne.symm h.1)]
theorem resE_in {j : Nat} {env1 : Lz.Env} : ∀ {t : List Nat} {env2 : Lz.Env}, env1.length = env2.length → j ∈ t → (resE t env1 env2)[j]? = env1[j]?
  | i :: t, env2, hl, h => by
    show (resE t env1 (env2.set i _))[j]? = _
    by_cases hj : j ∈ t
    · exact resE_in (by rw [List.length_set]; exact hl) hj
    · rw [resE_ne hj]
      rcases List.mem_cons.mp h with e | e
      · subst e
        by_cases hlt : j < env2.length
        · rw [List.getElem?_set_self hlt]
          rw [List.getElem?_eq_getElem (by omega : j < env1.length)]
          rfl
        · rw [List.getElem?_eq_none (by rw [List.length_set]; omega), List.getElem?_eq_none (by omega)]
      · exact absurd e hj
theorem resE_self {t : List Nat} {env : Lz.Env} : resE t env (wipeE t env) = env := by
  apply List.ext_getElem?
  intro j
  by_cases hj : j ∈ t
  · rw [resE_in (by rw [wipeE_len]) hj]
  · rw [resE_ne hj, wipeE_ne hj]
theorem foldl_set_ne {j : Nat} : ∀ {t : List Nat} {xs : List D} {env : Lz.Env}, j ∉ t → ((t.zip xs).foldl (fun e p => e.set p.1 (some p.2)) env)[j]? = env[j]?
  | [], _, _, _ => rfl
  | i :: t, [], _, _ => rfl
  | i :: t, x :: xs, env, h => by
    simp only [List.mem_cons, not_or] at h
    show ((t.zip xs).foldl (fun e p => e.set p.1 (some p.2)) (env.set i (some x)))[j]? = _
    rw [foldl_set_ne h.2, List.getElem?_set_ne (Ne.symm h.1)]
theorem foldl_set_len : ∀ {t : List Nat} {xs : List D} {env : Lz.Env}, ((t.zip xs).foldl (fun e p => e.set p.1 (some p.2)) env).length = env.length
  | [], _, _ => rfl
  | i :: t, [], _ => rfl
  | i :: t, x :: xs, env => by
    show ((t.zip xs).foldl (fun e p => e.set p.1 (some p.2)) (env.set i (some x))).length = _
    rw [foldl_set_len, List.length_set]
theorem bindOne_at {t : List Nat} {one : Bool} {d : D} {e e1 : Lz.Env} (h : bindOne t one d e = .ok e1) : e1.length = e.length ∧ ∀ j, j ∉ t → e1[j]? = e[j]? := by
  unfold bindOne at h
  split at h
  · split at h
    · split at h
      · cases h
        refine ⟨List.length_set, fun j hj => List.getElem?_set_ne fun z => hj (by rw [z]; exact List.mem_cons_self)⟩
      · cases h
    · cases h
  · split at h
    · obtain ⟨xs', h2, h⟩ := bok h
      cases h2
      dsimp only at h
      split at h
      · cases h
        exact ⟨foldl_set_len, fun j hj => foldl_set_ne hj⟩
      · cases h
    · cases h

/-- a target in a comprehension -/
def TB (Γ : Gm) (A : Ac) (t : List Nat) (one : Bool) : TG := fun v σ H Q => ∃ S Fs env d env', SR Γ A S Fs σ H env ∧ bindOne t one d env = .ok env' ∧ Rep Γ A.N S H d v [] ∧
  ∀ Fs' σ', SR Γ A S Fs' σ' H env' → (∀ j a, a ∈ Fs' j → a ∈ Fs j) → (∀ j, j ∉ t → Fs' j = Fs j) → Same t σ σ' → σ'.length = σ.length → Q σ' H
section
variable {X : Cx} {cA : String → Option Addr} {fl : String → List String} {A : Ac} {c : Ctx} {ro pk : Bool} {pos pos' p : Pos} {a b e tg iter : Expr} {ia ib : E} {is : List Nat}
theorem tb_var {i : Nat} {x : Str} (hN : X.N.Nodup) (hi : X.N[i]? = some x) (hx : Loc X.env.scope x) (hf : X.fn x = true ∨ X.env.scope.names.lookup x = some .local) : PG X (.Name x pos) (TB (gm X cA fl) A [i] true) :=
  pg_weak (pg_name hN hi hx hf) fun v σ H Q h => by
  obtain ⟨S, Fs, env, d, env', s, h0, r, q⟩ := h
  simp only [bindOne, if_true] at h0
  split at h0
  · rename_i hl
    cases h0
    refine q (put1 Fs i []) _ (s.set hl r Free.nil) (fun j a z => ?_) (fun j hj => put1_ne fun z => hj (by rw [z]; exact List.mem_cons_self)) (fun j hj => List.getElem?_set_ne (fun z => hj (by rw [z]; exact List.mem_cons_self))) List.length_set
    by_cases hj : j = i
    · rw [hj, put1_self] at z; cases z
    · rw [put1_ne hj] at z; exact z
  · cases h0
theorem gNames_set2 {S : Addr → Prop} {H : Hp} {Q : St → Hp → Prop} {is0 : List Nat} : ∀ {is : List Nat} {xs : List D} {vs : List V} {Fs : Nat → List Addr} {env : Lz.Env} {σ : St}, SR (gm X cA fl) A S Fs σ H env → RepL (gm X cA fl) A.N S H xs vs [] → xs.length = is.length → (∀ i ∈ is, i < env.length) → (∀ i ∈ is, i ∈ is0) →
    (∀ Fs' σ', SR (gm X cA fl) A S Fs' σ' H ((is.zip xs).foldl (fun e p => e.set p.1 (some p.2)) env) → (∀ j a, a ∈ Fs' j → a ∈ Fs j) → (∀ j, j ∉ is0 → Fs' j = Fs j) → Same is0 σ σ' → σ'.length = σ.length → Q σ' H) → gNames is vs σ H Q
  | [], xs, vs, Fs, env, σ, s, r, hl, _, _, q => by
    cases xs with
    | nil =>
      cases r
      exact ⟨rfl, q Fs σ s (fun j a z => z) (fun _ _ => rfl) (fun _ _ => rfl) rfl⟩
    | cons x xs => simp at hl
  | i :: is, xs, vs, Fs, env, σ, s, r, hl, hlt, hs, q => by
    cases xs with
    | nil => simp at hl
    | cons x xs =>
      generalize hF : ([] : List Addr) = F at r
      cases r with
      | cons r1 r2 =>
        obtain ⟨e1, e2⟩ := nil_of_append hF.symm
        subst e1; subst e2
        refine ⟨_, _, rfl, ?_⟩
        have hi0 : i ∈ is0 := hs i List.mem_cons_self
        refine gNames_set2 (is0 := is0) (s.set (hlt i List.mem_cons_self) r1 Free.nil) r2 (by simpa using hl) (fun j z => by rw [List.length_set]; exact hlt j (List.mem_cons_of_mem _ z)) (fun j z => hs j (List.mem_cons_of_mem _ z)) fun Fs' σ' s' f' g' m' l' => ?_
        refine q Fs' σ' s' (fun j a z => ?_) (fun j hj => ?_) (fun j hj => ?_) (by rw [l', List.length_set])
        · have := f' j a z
          by_cases hji : j = i
          · rw [hji, put1_self] at this; cases this
          · rw [put1_ne hji] at this; exact this
        · rw [g' j hj, put1_ne]
          intro z; exact hj (by rw [z]; exact hi0)
        · rw [m' j hj, List.getElem?_set_ne]
          intro z
          exact hj (by rw [← z]; exact hi0)
theorem tb_tup {es : List Expr} {k : Nat} (hc : X.calm = true) (hN : X.N.Nodup) (h : Paired (fun (i : Nat) (e : Expr) => ∃ x pos, e = .Name x pos ∧ X.N[i]? = some x ∧ Loc X.env.scope x ∧ (X.fn x = true ∨ X.env.scope.names.lookup x = some .local)) is es) :
    PG X (.Tuple es k pos) (TB (gm X cA fl) A is false) := by
  have hn : (assignEach es X.env).length = es.length := assignEach_len es X.env
  have hst : (assignEach es X.env).findIdx? (·.1) = none := assignEach_names (R := fun i x pos => X.N[i]? = some x ∧ Loc X.env.scope x ∧ (X.fn x = true ∨ X.env.scope.names.lookup x = some .local)) X.env h
  refine pg_weak (pg_tup hc (pgs_names (xs := []) hN h) hn hst) fun v σ H Q h0 => ?_
  obtain ⟨S, Fs, env, d, env', s, h1, r, q⟩ := h0
  simp only [bindOne] at h1
  rw [if_neg Bool.false_ne_true] at h1
  split at h1
  · rename_i xs
    obtain ⟨xs', h2, h1⟩ := bok h1
    cases h2
    split at h1
    · rename_i hl
      cases h1
      obtain ⟨a, vs, rfl, ht, rl, eF⟩ := r.tup_inv
      have hlen : es.length = is.length := h.length.symm
      refine ⟨a, vs, rfl, ht, by rw [← rl.length, hl.1, hlen], ?_⟩
      have hlt : ∀ i ∈ is, i < env.length := fun i hi => by simpa using List.all_eq_true.mp hl.2 i hi
      exact gNames_set2 (is0 := is) s rl hl.1 hlt (fun _ z => z) fun Fs' σ' s' f' g' m' l' => q Fs' σ' s' f' g' m' l'
    · cases h1
  · cases h1
/-- the tests of a clause -/
def TTc (Γ : Gm) (A : Ac) (c : Ctx) (ro : Bool) (cond : Option E) : TT := fun σ H Q => ∃ S Fs env b env', SR Γ A S Fs σ H env ∧ evO' c ro cond env = .ok (b, env') ∧ ∀ S' Fs' H', SR Γ A S' Fs' σ H' env' → Chg ro S Fs H env S' Fs' H' env' → Q b H'
theorem pts_weak {X : Cx} {ifs : List Expr} {t u : TT} (h : PTs X ifs t) (w : ∀ σ H Q, u σ H Q → t σ H Q) : PTs X ifs u := ⟨fun pins s σ H Q I q => h.run pins s σ H Q I (w σ H Q q)⟩
theorem tc_none : PTs X [] (TTc (gm X cA fl) A c ro none) := pts_weak pts_nil fun σ H Q h => by
  obtain ⟨S, Fs, env, b, env', s, h0, q⟩ := h
  rw [evO'] at h0
  cases h0
  exact q S Fs H s Chg.refl
theorem tc_some (h : PT X e (TTv (gm X cA fl) A c ro true ia)) : PTs X [e] (TTc (gm X cA fl) A c ro (some ia)) := pts_weak (pts_one h) fun σ H Q h => by
  obtain ⟨S, Fs, env, b, env', s, h0, q⟩ := h
  rw [evO'] at h0
  obtain ⟨⟨d, env1⟩, e1, h0⟩ := bok h0
  obtain ⟨t, e2, h0⟩ := bok h0
  cases h0
  exact ⟨S, Fs, env, d, _, _, s, e1, e2, q⟩
end
end Lz
end

section
set_option autoImplicit false
set_option maxRecDepth 100000
namespace Lz
open PySem PySem.Spec L2

theorem wipe_ne {σ : St} {j : Nat} : ∀ {vs : List Nat}, j ∉ vs → (wipe σ vs)[j]? = σ[j]?
  | [], _ => rfl
  | v :: vs, h => by
    simp only [List.mem_cons, not_or] at h
    unfold wipe
    rw [List.getElem?_set_ne (Ne.symm h.1), wipe_ne h.2]
theorem wipe_eq {σ σ' : St} {vs : List Nat} (hl : σ.length = σ'.length) (h : ∀ j, j ∉ vs → σ[j]? = σ'[j]?) : wipe σ vs = wipe σ' vs := by
  apply List.ext_getElem?
  intro j
  by_cases hj : j ∈ vs
  · by_cases hlt : j < σ.length
    · have h1 : ∃ o, (wipe σ vs)[j]? = some o := ⟨_, List.getElem?_eq_getElem (by rw [wipe_length]; exact hlt)⟩
      have h2 : ∃ o, (wipe σ' vs)[j]? = some o := ⟨_, List.getElem?_eq_getElem (by rw [wipe_length]; omega)⟩
      obtain ⟨o1, h1⟩ := h1
      obtain ⟨o2, h2⟩ := h2
      rw [h1, h2]
      cases o1 with
      | some d => exact absurd hj (wipe_some h1).2
      | none =>
        cases o2 with
        | some d => exact absurd hj (wipe_some h2).2
        | none => rfl
    · rw [List.getElem?_eq_none (by rw [wipe_length]; omega), List.getElem?_eq_none (by rw [wipe_length]; omega)]
  · rw [wipe_ne hj, wipe_ne hj, h j hj]
theorem wipe_wipe {σ : St} {vs : List Nat} : wipe (wipe σ vs) vs = wipe σ vs :=
  wipe_eq (wipe_length σ vs) fun j hj => wipe_ne hj
theorem lessL_ne {Fs : Nat → List Addr} {j : Nat} : ∀ {is : List Nat}, j ∉ is → lessL Fs is j = Fs j
  | [], _ => rfl
  | i :: is, h => by
    simp only [List.mem_cons, not_or] at h
    show lessL (less Fs i) is j = _
    rw [lessL_ne h.2, less_ne h.1]
theorem lessL_in {Fs : Nat → List Addr} {j : Nat} {is : List Nat} (h : j ∈ is) : lessL Fs is j = [] :=
  List.eq_nil_iff_forall_not_mem.mpr fun a z => (mem_lessL z).2 h

section
variable {Γ : Gm} {A : Ac} {ro pk : Bool} {S S1 S2 S' : Addr → Prop} {Fs Fs1 Fs2 Fs' : Nat → List Addr} {σ σ1 σ2 : St} {H H1 H2 H' : Hp} {env env1 env2 env' : Lz.Env} {d : D} {v : V} {F : List Addr} {a : Addr} {i : Nat} {t vs : List Nat}
theorem SR.wiped (s : SR Γ A S Fs σ H env) (h : ∀ i, i ∈ vs ↔ i ∈ t) : SR Γ A S (lessL Fs t) (wipe σ vs) H (wipeE t env) where
  len := by rw [wipeE_len, wipe_length]; exact s.len
  rep := fun j d e => by
    by_cases hj : j ∈ t
    · exact absurd e (wipeE_in hj)
    · rw [wipeE_ne hj] at e
      obtain ⟨v, e1, r⟩ := s.rep j d e
      exact ⟨v, by rw [wipe_ne fun z => hj ((h j).mp z)]; exact e1, by rw [lessL_ne hj]; exact r⟩
  non := fun j e => by
    by_cases hj : j ∈ t
    · exact lessL_in hj
    · rw [lessL_ne hj]
      exact s.non j fun d q => e d (by rw [wipeE_ne hj]; exact q)
  nd := fun j => by
    by_cases hj : j ∈ t
    · rw [lessL_in hj]; exact List.nodup_nil
    · rw [lessL_ne hj]; exact s.nd j
  dis := fun j k a h1 h2 => s.dis j k a (mem_lessL h1).1 (mem_lessL h2).1
  frz := fun j a h => s.frz j a (mem_lessL h).1
  trk := s.trk
  new := s.new
  old := s.old
  s0 := s.s0
def resF (t : List Nat) (Fs1 Fs2 : Nat → List Addr) : Nat → List Addr := fun i => if i ∈ t then Fs1 i else Fs2 i
theorem resF_in {j : Nat} (h : j ∈ t) : resF t Fs1 Fs2 j = Fs1 j := if_pos h
theorem resF_ne {j : Nat} (h : j ∉ t) : resF t Fs1 Fs2 j = Fs2 j := if_neg h
/-- a slot's own thing that is set aside stands -/
theorem aside (s1 : SR Γ A S1 Fs1 σ H1 env1) (c : Chg ro S1 (lessL Fs1 t) H1 (wipeE t env1) S2 Fs2 H2 env2) {j : Nat} (hj : j ∈ t) (ha : a ∈ Fs1 j) : (∀ i, a ∉ lessL Fs1 t i) ∧ ¬ S2 a ∧ (∀ i, a ∉ Fs2 i) ∧ H2 a = H1 a := by
  obtain ⟨q1, q2, q3⟩ := s1.frz j a ha
  obtain ⟨o, ho⟩ := mut_some q3
  have h1 : ∀ i, a ∉ lessL Fs1 t i := fun i z => by
    obtain ⟨z1, z2⟩ := mem_lessL z
    have := s1.dis i j a z1 ha
    subst this
    exact z2 hj
  refine ⟨h1, fun z => ?_, fun i z => ?_, ?_⟩
  · rcases c.sup a z with w | w | ⟨_, i, w⟩
    · exact q2 w
    · rw [ho] at w; cases w
    · exact h1 i w
  · rcases c.fs i a z with ⟨k, w⟩ | w
    · exact h1 k w
    · rw [ho] at w; cases w
  · rw [ho]; exact c.keep a o ho (.inr h1)
theorem SR.restored (s1 : SR Γ A S1 Fs1 σ H1 env1) (s2 : SR Γ A S2 Fs2 (wipe σ vs) H2 env2) (c : Chg ro S1 (lessL Fs1 t) H1 (wipeE t env1) S2 Fs2 H2 env2) (h : ∀ i, i ∈ vs ↔ i ∈ t) :
    SR Γ A S2 (resF t Fs1 Fs2) σ H2 (resE t env1 env2) ∧ Chg ro S1 Fs1 H1 env1 S2 (resF t Fs1 Fs2) H2 (resE t env1 env2) := by
  have hl : env1.length = env2.length := by rw [s1.len, s2.len, wipe_length]
  refine ⟨{
    len := by rw [resE_len, s2.len, wipe_length]
    rep := fun j d e => ?_
    non := fun j e => ?_
    nd := fun j => ?_
    dis := fun j k a h1 h2 => ?_
    frz := fun j a ha => ?_
    trk := s2.trk
    new := s2.new
    old := s2.old
    s0 := s2.s0 }, {
    sub := c.sub
    sup := fun a z => ?_
    fs := fun j a z => ?_
    keep := fun a o e z => c.keep a o e (z.imp_right fun z i w => z i (mem_lessL w).1)
    there := c.there
    roE := fun hr => ?_ }⟩
  · by_cases hj : j ∈ t
    · rw [resE_in hl hj] at e
      obtain ⟨v, e1, r⟩ := s1.rep j d e
      refine ⟨v, e1, ?_⟩
      rw [resF_in hj]
      refine Rep.stay d v _ r (fun a o q z => ?_) c.sub fun _ z => z
      refine c.keep a o q (.inr fun i w => ?_)
      obtain ⟨w1, w2⟩ := mem_lessL w
      obtain ⟨q1, q2, q3⟩ := s1.frz i a w1
      rcases z with z | z | z
      · exact q2 z
      · have := s1.dis i j a w1 z
        subst this
        exact w2 hj
      · rw [q] at q3; exact z q3
    · rw [resE_ne hj] at e
      obtain ⟨v, e1, r⟩ := s2.rep j d e
      exact ⟨v, by rw [wipe_ne fun z => hj ((h j).mp z)] at e1; exact e1, by rw [resF_ne hj]; exact r⟩
  · by_cases hj : j ∈ t
    · rw [resF_in hj]
      exact s1.non j fun d q => e d (by rw [resE_in hl hj]; exact q)
    · rw [resF_ne hj]
      exact s2.non j fun d q => e d (by rw [resE_ne hj]; exact q)
  · by_cases hj : j ∈ t
    · rw [resF_in hj]; exact s1.nd j
    · rw [resF_ne hj]; exact s2.nd j
  · by_cases hj : j ∈ t
    · by_cases hk : k ∈ t
      · rw [resF_in hj] at h1
        rw [resF_in hk] at h2
        exact s1.dis j k a h1 h2
      · rw [resF_in hj] at h1
        rw [resF_ne hk] at h2
        exact absurd h2 ((aside s1 c hj h1).2.2.1 k)
    · rw [resF_ne hj] at h1
      by_cases hk : k ∈ t
      · rw [resF_in hk] at h2
        exact absurd h1 ((aside s1 c hk h2).2.2.1 j)
      · rw [resF_ne hk] at h2
        exact s2.dis j k a h1 h2
  · by_cases hj : j ∈ t
    · rw [resF_in hj] at ha
      obtain ⟨_, q2, _, q4⟩ := aside s1 c hj ha
      exact ⟨(s1.frz j a ha).1, q2, by rw [q4]; exact (s1.frz j a ha).2.2⟩
    · rw [resF_ne hj] at ha
      exact s2.frz j a ha
  · rcases c.sup a z with w | w | ⟨w, i, w2⟩
    · exact .inl w
    · exact .inr (.inl w)
    · exact .inr (.inr ⟨w, i, (mem_lessL w2).1⟩)
  · by_cases hj : j ∈ t
    · rw [resF_in hj] at z; exact .inl ⟨j, z⟩
    · rw [resF_ne hj] at z
      rcases c.fs j a z with ⟨k, w⟩ | w
      · exact .inl ⟨k, (mem_lessL w).1⟩
      · exact .inr w
  · obtain ⟨e1, e2⟩ := c.roE hr
    subst e1; subst e2
    refine ⟨resE_self, ?_⟩
    funext j
    by_cases hj : j ∈ t
    · rw [resF_in hj]
    · rw [resF_ne hj, lessL_ne hj]
/-- a free thing is changed -/
theorem SR.updFree {o : HO} (s : SR Γ A S Fs σ H env) (hm : Mut (H a)) (hS : ¬ S a) (hF : ∀ i, a ∉ Fs i) (hN : A.N a) : SR Γ A S Fs σ (upd H a o) env := by
  have ne : ∀ {b : Addr}, b ≠ a → upd H a o b = H b := fun h => upd_ne h
  obtain ⟨oa, ha⟩ := mut_some hm
  refine ⟨s.len, fun j d e => ?_, s.non, s.nd, s.dis, fun j b z => ?_, fun b z => ?_, fun b z => ?_, fun b o' e n => ?_, s.s0⟩
  · obtain ⟨v, e1, r⟩ := s.rep j d e
    refine ⟨v, e1, Rep.stay d v _ r (fun b o' q z => ?_) (fun _ z => z) fun _ z => z⟩
    rw [ne]
    · exact q
    · intro w; subst w
      rcases z with z | z | z
      · exact hS z
      · exact hF j z
      · rw [q] at hm; exact z hm
  · obtain ⟨q1, q2, q3⟩ := s.frz j b z
    exact ⟨q1, q2, by rw [ne fun w => hF j (by rw [← w]; exact z)]; exact q3⟩
  · obtain ⟨o', e⟩ := s.trk b z
    exact ⟨o', by rw [ne fun w => hS (by rw [← w]; exact z)]; exact e⟩
  · by_cases w : b = a
    · subst w; rw [upd_same] at z; cases z
    · rw [ne w] at z; exact s.new b z
  · rw [ne fun w => n (by rw [w]; exact hN)]
    exact s.old b o' e n
end
end Lz
end

section
set_option autoImplicit false
set_option maxRecDepth 100000
namespace Lz
open PySem PySem.Spec L2

theorem calm_ok {α : Type} {r : Ex α} {x : α} (h : calm r = .ok x) : r = .ok x := by
  unfold calm at h
  split at h
  · cases h
  · exact h

section
variable {X : Cx} {cA : String → Option Addr} {fl : String → List String} {A : Ac} {c : Ctx} {ro pk : Bool} {pos pos' p : Pos} {a b e tg iter : Expr} {ia ib ie : E} {is t vs : List Nat} {it : I} {cond : Option E} {keep one : Bool}
/-- a turn, seen from the forgotten slots -/
theorem Chg.turn {S S' : Addr → Prop} {Fs Fs1 Fs' : Nat → List Addr} {H : Hp} {H' : Hp} {e0 e1 e2 : Lz.Env} {H0 : Hp} (hF : ∀ j a, a ∈ Fs1 j → a ∈ Fs j) (hF2 : ∀ j, j ∉ t → Fs1 j = Fs j) (hF3 : ∀ j, j ∈ t → Fs j = []) (hw : wipeE t e1 = e0) (hx : ∀ a o, H0 a = some o → H a = some o) (hn : ∀ a, H a = Option.none → H0 a = Option.none) (c : Chg ro S Fs1 H e1 S' Fs' H' e2) : Chg ro S Fs H0 e0 S' (lessL Fs' t) H' (wipeE t e2) where
  sub := c.sub
  sup := fun a z => by
    rcases c.sup a z with z | z | ⟨z, i, w⟩
    · exact .inl z
    · exact .inr (.inl (hn a z))
    · exact .inr (.inr ⟨z, i, hF i a w⟩)
  fs := fun j a z => by
    rcases c.fs j a (mem_lessL z).1 with ⟨k, w⟩ | w
    · exact .inl ⟨k, hF k a w⟩
    · exact .inr (hn a w)
  keep := fun a o e z => c.keep a o (hx a o e) (z.imp_right fun z i w => z i (hF i a w))
  there := fun a o e => c.there a o (hx a o e)
  roE := fun hr => by
    obtain ⟨q1, q2⟩ := c.roE hr
    subst q1; subst q2
    refine ⟨hw, ?_⟩
    funext j
    by_cases hj : j ∈ t
    · rw [lessL_in hj, hF3 j hj]
    · rw [lessL_ne hj, hF2 j hj]

theorem comp_reads (hvs : ∀ i, i ∈ vs ↔ i ∈ t) (σ : St) (H : Hp) (Q : VK) (h : TEv (gm X cA fl) A c ro pk (.comp keep t one it cond ie) σ H Q) :
    tLc (TIv (gm X cA fl) A c ro it) (TB (gm X cA fl) A t one) (TTc (gm X cA fl) A c ro cond) (TEv (gm X cA fl) A c ro false ie) vs σ H Q := by
  obtain ⟨S, Fs, env, d, env', s, h0, q⟩ := h
  rw [ev] at h0
  obtain ⟨⟨xs, w, env1⟩, e1, h0⟩ := bok h0
  dsimp only at h0
  refine ⟨S, Fs, env, xs, w, env1, s, e1, fun S1 Fs1 H1 J s1 c1 iv D hD => ?_⟩
  split at h0
  · cases h0
  rename_i hap
  simp only [Bool.or_eq_true, Bool.not_eq_true', decide_eq_true_eq, not_or, Bool.not_eq_false, Nat.not_lt] at hap
  obtain ⟨hap, hlong⟩ := hap
  obtain ⟨⟨rs, env2⟩, e2, h0⟩ := bok h0
  have e2 := calm_ok e2
  cases h0
  obtain ⟨step, hstep⟩ : ∃ step, (fun (x : Lz.D) (e0 : Lz.Env) => (do
      let e1 ← bindOne t one x e0
      let (b, e2) ← evO' c ro cond e1
      if b then do
        let (d, e3) ← ev c ro false ie e2
        .ok (some (if keep then d else d.share), wipeE t e3)
      else .ok (none, wipeE t e2) : Ex (Option Lz.D × Lz.Env))) = step := ⟨_, rfl⟩
  have e2 : compLoop w step xs (wipeE t env1) = .ok (rs, env2) := by rw [← hstep]; exact e2
  have hD1 : ∀ i, D ∉ Fs1 i := fun i z => by
    have := (s1.frz i D z).2.2
    rw [hD] at this; exact this
  have sw := s1.wiped (t := t) hvs
  have hext : ∀ a o, H1 a = some o → upd H1 D (.lst []) a = some o := ext_upd hD
  refine ⟨fun i m H2 => m = xs.length - i ∧ ∃ S2 Fs2 e0 rs1 acc F rs2, SR (gm X cA fl) A S2 Fs2 (wipe σ vs) H2 e0 ∧ Chg ro S1 (lessL Fs1 t) H1 (wipeE t env1) S2 Fs2 H2 e0 ∧ wipeE t e0 = e0 ∧ H2 D = some (.lst acc) ∧ RepL (gm X cA fl) A.N S2 H2 rs1 acc F ∧
      (D :: F).Nodup ∧ (∀ a ∈ D :: F, A.N a ∧ ¬ S2 a ∧ (∀ i, a ∉ Fs2 i) ∧ Mut (H2 a) ∧ (H1 a = none ∨ ro = false ∧ ∃ i, a ∈ lessL Fs1 t i)) ∧ acc.length ≤ i ∧ rs = rs1 ++ rs2 ∧ compLoop w step (xs.drop i) e0 = .ok (rs2, env2),
    ⟨xs.length, by simp, S1, lessL Fs1 t, wipeE t env1, [], [], [], rs, sw.ext hext, Chg.ext hext, ?_, upd_same, .nil, by simp, fun a z => ?_, Nat.zero_le _, rfl, by rw [List.drop_zero]; exact e2⟩, ?_⟩
  · exact wipeE_eq (wipeE_len t env1) fun j hj => wipeE_ne hj
  · have e : a = D := by simpa using z
    subst e
    refine ⟨s1.new _ hD, fun z => ?_, fun i z => hD1 i (mem_lessL z).1, by rw [upd_same]; trivial, .inl hD⟩
    obtain ⟨o, e⟩ := s1.trk _ z
    rw [hD] at e; cases e
  rintro i m H2 ⟨rfl, S2, Fs2, e0, rs1, acc, F, rs2, s2, c2, hw0, hD2, rl, nd, fr, hlen, hrs, h2⟩
  have c2f : Chg false S1 (lessL Fs1 t) H1 (wipeE t env1) S2 Fs2 H2 e0 := c2.weak fun h => nomatch h
  -- the walk, seen from the slots given back
  have later : ∀ {S3 : Addr → Prop} {Fs3 : Nat → List Addr} {H3 : Hp} {e3 : Lz.Env}, SR (gm X cA fl) A S3 Fs3 (wipe σ vs) H3 e3 → Chg ro S1 (lessL Fs1 t) H1 (wipeE t env1) S3 Fs3 H3 e3 → stands w e3 = true →
      (∀ i, xs.length ≤ i → J.stop i H3) ∧ ∀ i x, xs[i]? = some x → J.go i H3 ∧ ∀ v H4, J.yld i H3 v H4 → (∀ a o, H3 a = some o → H4 a = some o) ∧ Rep (gm X cA fl) A.N S3 H4 x v [] := fun {S3 Fs3 H3 e3} s3 c3 st => by
    obtain ⟨r1, r2⟩ := s1.restored s3 c3 hvs
    refine iv.go S3 _ σ H3 _ r1 (r2.weak fun h => nomatch h) (fun _ _ => rfl) ?_
    refine List.all_eq_true.mpr fun p hp => ?_
    have := stands_at st hp
    rw [resE_ne (apart_of hap hp), this]
    exact Lz.D.same_self p.2
  rcases drop_cases xs i with ⟨hi, hd⟩ | ⟨x, hx, hd⟩
  · rw [hd, compLoop] at h2
    split at h2
    · rename_i hst
      cases h2
      rw [List.append_nil] at hrs
      subst hrs
      refine .inl ⟨(later s2 c2 hst).1 i hi, ?_⟩
      obtain ⟨r1, r2⟩ := s1.restored s2 c2 hvs
      refine q S2 _ H2 (.ref D) (D :: F) ⟨r1, c1.trans r2, .lstO hD2 rl, fun _ => ⟨nd, fun a z => ?_⟩, fun _ z => nomatch z⟩
      obtain ⟨q1, q2, q3, q4, q5⟩ := fr a z
      refine ⟨q1, q2, fun j w => ?_, q4, ?_⟩
      · by_cases hj : j ∈ t
        · rw [resF_in hj] at w
          rcases q5 with q5 | ⟨_, k, q5⟩
          · have := (s1.frz j a w).2.2
            rw [q5] at this; exact this
          · exact (aside s1 c2 hj w).1 k q5
        · rw [resF_ne hj] at w
          exact q3 j w
      · rcases q5 with q5 | ⟨q5, k, q6⟩
        · exact .inl (c1.none q5)
        · rcases c1.fs k a (mem_lessL q6).1 with ⟨k', w⟩ | w
          · exact .inr ⟨q5, k', w⟩
          · exact .inl w
    · cases h2
  · rw [hd, compLoop] at h2
    split at h2
    · cases h2
    rename_i hst
    have hst : stands w e0 = true := by simpa using hst
    obtain ⟨⟨r, e5⟩, e6, h2⟩ := bok h2
    obtain ⟨⟨rs3, e7⟩, e8, h2⟩ := bok h2
    cases h2
    have hlt : i < xs.length := (List.getElem?_eq_some_iff.mp hx).1
    obtain ⟨g1, g2⟩ := (later s2 c2 hst).2 i x hx
    rw [← hstep] at e6
    obtain ⟨e0', b1, e6⟩ := bok e6
    obtain ⟨⟨bb, e9⟩, b2, e6⟩ := bok e6
    obtain ⟨hb1, hb2⟩ := bindOne_at b1
    have hw1 : wipeE t e0' = e0 := by rw [← hw0]; exact wipeE_eq hb1 hb2
    have hF3 : ∀ j, j ∈ t → Fs2 j = [] := fun j hj => s2.non j fun d q => by
      rw [← hw0] at q
      exact wipeE_in hj q
    refine .inr ⟨g1, fun H3 => ∃ S3 Fs3 acc' F' rs1', SR (gm X cA fl) A S3 Fs3 (wipe σ vs) H3 e5 ∧ Chg ro S1 (lessL Fs1 t) H1 (wipeE t env1) S3 Fs3 H3 e5 ∧ wipeE t e5 = e5 ∧ H3 D = some (.lst acc') ∧ RepL (gm X cA fl) A.N S3 H3 rs1' acc' F' ∧
      (D :: F').Nodup ∧ (∀ a ∈ D :: F', A.N a ∧ ¬ S3 a ∧ (∀ i, a ∉ Fs3 i) ∧ Mut (H3 a) ∧ (H1 a = none ∨ ro = false ∧ ∃ i, a ∈ lessL Fs1 t i)) ∧ acc'.length ≤ i + 1 ∧ rs = rs1' ++ rs3, fun H3 ⟨S3, Fs3, acc', F', rs1', z1, z2, z3, z4, z5, z6, z7, z8, z9⟩ =>
        ⟨xs.length - (i + 1), by omega, rfl, S3, Fs3, e5, rs1', acc', F', rs3, z1, z2, z3, z4, z5, z6, z7, z8, z9, e8⟩, fun v H3 y => ?_⟩
    obtain ⟨ext, rx⟩ := g2 v H3 y
    have s3 := s2.ext ext
    refine ⟨S2, Fs2, e0, x, e0', s3, b1, rx, fun Fs3 σ3 s4 f3 f3' m3 l3 => ?_⟩
    have hwσ : wipe σ3 vs = wipe σ vs := by
      rw [← wipe_wipe (σ := σ)]
      exact wipe_eq l3 fun j hj => m3 j fun z => hj ((hvs j).mpr z)
    refine ⟨hwσ, S2, Fs3, e0', bb, e9, s4, b2, fun S5 Fs5 H5 s5 c5 => ?_⟩
    -- what the list holds stands through a reading
    have stand : ∀ {S6 : Addr → Prop} {Fs6 : Nat → List Addr} {H6 : Hp} {e10 : Lz.Env}, SR (gm X cA fl) A S6 Fs6 σ3 H6 e10 → Chg ro S2 Fs3 H3 e0' S6 Fs6 H6 e10 →
        H6 D = some (.lst acc) ∧ RepL (gm X cA fl) A.N S6 H6 rs1 acc F ∧ (∀ a ∈ D :: F, A.N a ∧ ¬ S6 a ∧ (∀ i, a ∉ Fs6 i) ∧ Mut (H6 a) ∧ (H1 a = none ∨ ro = false ∧ ∃ i, a ∈ lessL Fs1 t i)) := fun {S6 Fs6 H6 e10} s6 c6 => by
      have fr3 : ∀ a ∈ D :: F, ∀ i, a ∉ Fs3 i := fun a z i w => (fr a z).2.2.1 i (f3 i a w)
      have hk : ∀ a ∈ D :: F, H6 a = H2 a ∧ ∃ o, H3 a = some o := fun a z => by
        obtain ⟨o, ho⟩ := mut_some (fr a z).2.2.2.1
        have h3 := ext a o ho
        exact ⟨by rw [ho]; exact c6.keep a o h3 (.inr (fr3 a z)), o, h3⟩
      refine ⟨by rw [(hk D List.mem_cons_self).1]; exact hD2, ?_, fun a z => ?_⟩
      · have r3 : RepL (gm X cA fl) A.N S2 H3 rs1 acc F := RepL.stay _ _ _ rl (fun a o e _ => ext a o e) (fun _ z => z) fun _ z => z
        exact s4.stayL c6 (.inr fun a z i => fr3 a (List.mem_cons_of_mem _ z) i) r3
      · obtain ⟨q1, q2, q3, q4, q5⟩ := fr a z
        obtain ⟨k1, o, k2⟩ := hk a z
        refine ⟨q1, fun w => ?_, fun j w => ?_, by rw [k1]; exact q4, q5⟩
        · rcases c6.sup a w with w | w | ⟨_, k, w⟩
          · exact q2 w
          · rw [k2] at w; cases w
          · exact fr3 a z k w
        · rcases c6.fs j a w with ⟨k, w⟩ | w
          · exact fr3 a z k w
          · rw [k2] at w; cases w
    have hn : ∀ a, H3 a = none → H2 a = none := fun a z => by
      cases k : H2 a with
      | none => rfl
      | some o => rw [ext a o k] at z; cases z
    cases bb with
    | false =>
      dsimp only at e6 ⊢
      rw [if_neg Bool.false_ne_true] at e6 ⊢
      cases e6
      have s6 := s5.wiped (t := t) hvs
      rw [hwσ] at s6
      obtain ⟨z1, z2, z3⟩ := stand s5 c5
      refine ⟨S5, lessL Fs5 t, acc, F, rs1, s6, c2.trans (Chg.turn f3 f3' hF3 hw1 ext hn c5), wipeE_eq (wipeE_len t e9) (fun j hj => wipeE_ne hj), z1, z2, nd, fun a z => ?_, by omega, hrs⟩
      obtain ⟨q1, q2, q3, q4, q5⟩ := z3 a z
      exact ⟨q1, q2, fun j w => q3 j (mem_lessL w).1, q4, q5⟩
    | true =>
      dsimp only at e6 ⊢
      rw [if_pos rfl] at e6 ⊢
      obtain ⟨⟨dd, e10⟩, e11, e6⟩ := bok e6
      cases e6
      refine ⟨S5, Fs5, e9, dd, e10, s5, e11, fun S6 Fs6 H6 u G g => ?_⟩
      have c6 : Chg ro S2 Fs3 H3 e0' S6 Fs6 H6 e10 := c5.trans g.chg
      obtain ⟨z1, z2, z3⟩ := stand g.sr c6
      obtain ⟨n1, fg⟩ := g.fresh (.inl rfl)
      have hHD := (z3 D List.mem_cons_self)
      -- a thing of the new item, seen from the start
      have back : ∀ a ∈ G, H1 a = none ∨ ro = false ∧ ∃ i, a ∈ lessL Fs1 t i := fun a z => by
        have key : (H3 a = none ∨ ro = false ∧ ∃ i, a ∈ Fs3 i) := by
          rcases (fg a z).2.2.2.2 with w | ⟨w, i, w2⟩
          · exact .inl (c5.none w)
          · rcases c5.fs i a w2 with ⟨k, w3⟩ | w3
            · exact .inr ⟨w, k, w3⟩
            · exact .inl w3
        rcases key with w | ⟨w, k, w2⟩
        · exact .inl (c2.none (hn a w))
        · rcases c2.fs k a (f3 k a w2) with ⟨k', w3⟩ | w3
          · exact .inr ⟨w, k', w3⟩
          · exact .inl w3
      have hDG : D ∉ G := fun z => by
        rcases back D z with w | ⟨_, k, w⟩
        · rcases (fg D z).2.2.2.2 with w | ⟨_, i, w2⟩
          · obtain ⟨o, ho⟩ := mut_some ((stand s5 c5).2.2 D List.mem_cons_self).2.2.2.1
            rw [w] at ho; cases ho
          · exact ((stand s5 c5).2.2 D List.mem_cons_self).2.2.1 i w2
        · exact hD1 k (mem_lessL w).1
      have hFG : ∀ a ∈ F, a ∉ G := fun a z z' => by
        rcases (fg a z').2.2.2.2 with w | ⟨_, i, w2⟩
        · obtain ⟨o, ho⟩ := mut_some ((stand s5 c5).2.2 a (List.mem_cons_of_mem _ z)).2.2.2.1
          rw [w] at ho; cases ho
        · exact ((stand s5 c5).2.2 a (List.mem_cons_of_mem _ z)).2.2.1 i w2
      obtain ⟨nD, nF⟩ := List.nodup_cons.mp nd
      refine ⟨acc, z1, by rw [sizeLine_line]; omega, ?_⟩
      -- the list, one longer
      have fin : ∀ {S7 : Addr → Prop} {dd' : Lz.D} {G' : List Addr}, SR (gm X cA fl) A S7 Fs6 σ3 H6 e10 → Chg ro S2 Fs3 H3 e0' S7 Fs6 H6 e10 → Rep (gm X cA fl) A.N S7 H6 dd' u G' → G'.Nodup → (∀ a ∈ G', a ∈ G ∧ ¬ S7 a) → rs = (rs1 ++ [dd']) ++ rs3 →
          ∃ S3 Fs3 acc' F' rs1', SR (gm X cA fl) A S3 Fs3 (wipe σ vs) (upd H6 D (.lst (acc ++ [u]))) (wipeE t e10) ∧ Chg ro S1 (lessL Fs1 t) H1 (wipeE t env1) S3 Fs3 (upd H6 D (.lst (acc ++ [u]))) (wipeE t e10) ∧ wipeE t (wipeE t e10) = wipeE t e10 ∧ upd H6 D (.lst (acc ++ [u])) D = some (.lst acc') ∧ RepL (gm X cA fl) A.N S3 (upd H6 D (.lst (acc ++ [u]))) rs1' acc' F' ∧
            (D :: F').Nodup ∧ (∀ a ∈ D :: F', A.N a ∧ ¬ S3 a ∧ (∀ i, a ∉ Fs3 i) ∧ Mut (upd H6 D (.lst (acc ++ [u])) a) ∧ (H1 a = none ∨ ro = false ∧ ∃ i, a ∈ lessL Fs1 t i)) ∧ acc'.length ≤ i + 1 ∧ rs = rs1' ++ rs3 := fun {S7 dd' G'} s7 c7 r7 n7 g7 hr7 => by
        obtain ⟨y1, y2, y3⟩ := stand s7 c7
        obtain ⟨q1, q2, q3, q4, q5⟩ := y3 D List.mem_cons_self
        have s8 := s7.updFree (a := D) (o := .lst (acc ++ [u])) q4 q2 q3 q1
        have s9 := s8.wiped (t := t) hvs
        rw [hwσ] at s9
        have hDG' : D ∉ G' := fun z => hDG (g7 D z).1
        have hst : ∀ {K : List Addr}, D ∉ K → Stay S7 K H6 (upd H6 D (.lst (acc ++ [u]))) := fun {K} hK a o e z => by
          rw [upd_ne]
          · exact e
          · intro w; subst w
            rcases z with z | z | z
            · exact q2 z
            · exact hK z
            · rw [e] at q4; exact z q4
        have mu : ∀ a, Mut (H6 a) → Mut (upd H6 D (.lst (acc ++ [u])) a) := fun a z => by
          by_cases w : a = D
          · subst w; rw [upd_same]; trivial
          · rw [upd_ne w]; exact z
        refine ⟨S7, lessL Fs6 t, acc ++ [u], F ++ G', rs1 ++ [dd'], s9, ?_, wipeE_eq (wipeE_len t e10) (fun j hj => wipeE_ne hj), upd_same, ?_, ?_, fun a z => ?_, by rw [List.length_append]; simp; omega, hr7⟩
        · have c8 : Chg ro S1 (lessL Fs1 t) H1 (wipeE t env1) S7 (lessL Fs6 t) H6 (wipeE t e10) := c2.trans (Chg.turn f3 f3' hF3 hw1 ext hn c7)
          exact {
            sub := c8.sub
            sup := c8.sup
            fs := c8.fs
            keep := fun a o e z => by
              rw [upd_ne]
              · exact c8.keep a o e z
              · intro w; subst w; rw [hD] at e; cases e
            there := fun a o e => by
              obtain ⟨o', e'⟩ := c8.there a o e
              exact upd_there a o' e'
            roE := c8.roE }
        · have r1 := RepL.stay _ _ _ y2 (hst nD) (fun _ z => z) fun _ z => z
          have r2 := Rep.stay _ _ _ r7 (hst hDG') (fun _ z => z) fun _ z => z
          have r3 : RepL (gm X cA fl) A.N S7 (upd H6 D (.lst (acc ++ [u]))) [dd'] [u] (G' ++ []) := .cons r2 .nil
          rw [List.append_nil] at r3
          exact RepL.append' r1 r3
        · refine List.nodup_cons.mpr ⟨fun z => (List.mem_append.mp z).elim nD hDG', List.nodup_append.mpr ⟨nF, n7, fun a z b w e => ?_⟩⟩
          subst e
          exact hFG a z (g7 a w).1
        · rcases List.mem_cons.mp z with z | z
          · subst z
            exact ⟨q1, q2, fun j w => q3 j (mem_lessL w).1, mu _ q4, q5⟩
          · rcases List.mem_append.mp z with z | z
            · obtain ⟨p1, p2, p3, p4, p5⟩ := y3 a (List.mem_cons_of_mem _ z)
              exact ⟨p1, p2, fun j w => p3 j (mem_lessL w).1, mu _ p4, p5⟩
            · obtain ⟨w1, w2⟩ := g7 a z
              obtain ⟨p1, p2, p3, p4, p5⟩ := fg a w1
              exact ⟨p1, w2, fun j w => p3 j (mem_lessL w).1, mu _ p4, back a w1⟩
      cases keep with
      | true =>
        exact fin g.sr c6 g.rep n1 (fun a z => ⟨z, (fg a z).2.1⟩) (by rw [hrs]; simp)
      | false =>
        obtain ⟨s7, c7⟩ := addS_of (ro := ro) g.sr g.chg fg
        refine fin s7 (c5.trans c7) (Rep.share dd u G g.rep (fun _ z => .inl z) fun a z => ⟨.inr z, (fg a z).1⟩) List.nodup_nil (fun a z => nomatch z) (by rw [hrs]; simp)
theorem te_comp {elt : Expr} {ifs : List Expr} {scope : Scope} {own : List (Str × Nat)} (hc : X.calm = true) (hN : X.N.Nodup) (hi : PI X tg iter (TIv (gm X cA fl) A c ro it)) (ok : BlkOk X.N X.env.scope scope own) (hvs : ∀ i, i ∈ own.map (·.2) ↔ i ∈ t)
    (hg : ∀ (s : Shared) (H : Hp) (C : Addr) (cl : List (Str × Addr)) (fp : List Addr), PG (X.blk s H scope (compEnvC scope cl C X.env) fp) tg (TB (gm X cA fl) A t one))
    (ht : ∀ (s : Shared) (H : Hp) (C : Addr) (cl : List (Str × Addr)) (fp : List Addr), PTs (X.blk s H scope (compEnvC scope cl C X.env) fp) ifs (TTc (gm X cA fl) A c ro cond))
    (he : ∀ (s : Shared) (H : Hp) (C : Addr) (cl : List (Str × Addr)) (fp : List Addr), PE (X.blk s H scope (compEnvC scope cl C X.env) fp) elt (TEv (gm X cA fl) A c ro false ie)) (hs : ∀ x, foldedSetIterable iter X.env x = pure x) :
    PE X (.ListComp elt [⟨tg, iter, ifs, 0⟩] scope pos) (TEv (gm X cA fl) A c ro pk (.comp keep t one it cond ie)) :=
  pe_weak (pe_lc hc hN hi ok hg ht he hs) (comp_reads hvs)
theorem ts_setLc {elt : Expr} {ifs : List Expr} {scope : Scope} {own : List (Str × Nat)} {i : Nat} {y : Str} (hc : X.calm = true) (hN : X.N.Nodup) (hy : X.N[i]? = some y) (hyl : X.env.scope.names.lookup y = some .local) (hsw : swapsWith (.ListComp elt [⟨tg, iter, ifs, 0⟩] scope pos) (some (.Name y pos')) p.line X.env = pure true)
    (hi : PI X tg iter (TIv (gm X cA fl) A c false it)) (ok : BlkOk X.N X.env.scope scope own) (hvs : ∀ i, i ∈ own.map (·.2) ↔ i ∈ t)
    (hg : ∀ (s : Shared) (H : Hp) (C : Addr) (cl : List (Str × Addr)) (fp : List Addr), PG (X.blk s H scope (compEnvC scope cl C X.env) fp) tg (TB (gm X cA fl) A t one))
    (ht : ∀ (s : Shared) (H : Hp) (C : Addr) (cl : List (Str × Addr)) (fp : List Addr), PTs (X.blk s H scope (compEnvC scope cl C X.env) fp) ifs (TTc (gm X cA fl) A c false cond))
    (he : ∀ (s : Shared) (H : Hp) (C : Addr) (cl : List (Str × Addr)) (fp : List Addr), PE (X.blk s H scope (compEnvC scope cl C X.env) fp) elt (TEv (gm X cA fl) A c false false ie)) (hs : ∀ x, foldedSetIterable iter X.env x = pure x) :
    PS X (.Assign [.Name y pos'] (.ListComp elt [⟨tg, iter, ifs, 0⟩] scope pos) p) (TSv (gm X cA fl) A c (.asg (.var i) (.comp keep t one it cond ie))) :=
  ps_weak (ps_setLc hc hN hy hyl hsw hi ok hg ht he hs) fun De σ H h => by
  obtain ⟨S, Fs, env, f, env', s, h0, q⟩ := h
  rw [exec] at h0
  obtain ⟨⟨d, env1⟩, e1, h0⟩ := bok h0
  obtain ⟨env2, e2, h0⟩ := bok h0
  cases h0
  refine comp_reads (ro := false) (pk := false) (keep := keep) hvs σ H _ ⟨S, Fs, env, d, env1, s, e1, fun S1 Fs1 H1 v F g => ?_⟩
  obtain ⟨n1, fr⟩ := g.fresh (.inl rfl)
  simp only [setTg, bindOne, if_true] at e2
  split at e2
  · rename_i hl
    cases e2
    refine q S1 (put1 Fs1 i F) _ H1 (g.sr.set hl g.rep ⟨n1, fun a z => ⟨(fr a z).1, (fr a z).2.1, (fr a z).2.2.1, (fr a z).2.2.2.1⟩⟩) (g.chg.set fun a z => ((fr a z).2.2.2.2).imp_right (·.2)) ?_
    intro j hj
    exact List.getElem?_set_ne (fun z => hj (by rw [z]; exact List.mem_cons_self))
  · cases e2
end
end Lz
end

section
set_option autoImplicit false
set_option maxRecDepth 100000
namespace Lz
open PySem PySem.Spec L2

/-! ### does the small form say what the text says -/
structure Cfg where
  N : List Str
  sc : Scope
  fnc : Str → Bool
  fns : List (String × Nat)
abbrev Cfg.kind (g : Cfg) (x : Str) : Option NameKind := g.sc.names.lookup x
def Cfg.blk (g : Cfg) (scope : Scope) : Cfg := { g with sc := relS scope g.sc, fnc := fun x => scope.names.lookup x == some .cell }
def okName (x : Str) : Bool := !(x == ("__debug__" : Str)) && !(x == ("__classdict__" : Str)) && !(x == ("__name__" : Str))
def Cfg.vis (g : Cfg) (i : Nat) (x : Str) : Bool := decide (g.N[i]? = some x) && okName x && (decide (g.kind x = some .local) || decide (g.kind x = some .cell) || decide (g.kind x = some .free))
def Cfg.tgt (g : Cfg) (i : Nat) (x : Str) : Bool := decide (g.N[i]? = some x) && (decide (g.kind x = some .local) || (decide (g.kind x = some .cell) && g.fnc x))
/-- a built-in name, under its own name -/
def Cfg.gl (g : Cfg) (x : Str) : Bool := decide (g.kind x = some .globalImplicit)
def btNames : List String := ["len", "int", "tuple", "range", "isinstance", "bool", "str", "list", "dict"]
def plainE : Expr → Bool
  | .Starred _ _ => false
  | .Slice _ _ _ _ => false
  | _ => true
def noStar : Expr → Bool
  | .Starred _ _ => false
  | _ => true
def noSlice : Expr → Bool
  | .Slice _ _ _ _ => false
  | _ => true
def noSet : Expr → Bool
  | .Set _ _ _ => false
  | _ => true
def noComp : Expr → Bool
  | .ListComp .. => false
  | .SetComp .. => false
  | .DictComp .. => false
  | _ => true
/-- a test is asked by its value -/
def valTest : Expr → Bool
  | .Compare .. => false
  | .BoolOp .. => false
  | .UnaryOp .. => false
  | .NamedExpr .. => false
  | .IfExp .. => false
  | _ => true
def opOk : Operator → Op → Bool
  | .Add, .add => true
  | .Sub, .sub => true
  | .Mult, .mul => true
  | .FloorDiv, .fdiv => true
  | .Mod, .mod => true
  | .LShift, .shl => true
  | .RShift, .shr => true
  | .BitAnd, .band => true
  | .Pow, .pow => true
  | _, _ => false
def cmOk : CmpOp → Cm → Bool
  | .Eq, .eq => true
  | .NotEq, .ne => true
  | .Lt, .lt => true
  | .LtE, .le => true
  | .Gt, .gt => true
  | .GtE, .ge => true
  | .In, .isin => true
  | .NotIn, .notin => true
  | _, _ => false
def litOk : Const → D → Bool
  | .int i, .int j => decide (i = j)
  | .bool b, .bl k => b == k
  | .none, .non => true
  | .str x, .str y => decide (x = Str.ofString y)
  | _, _ => false
/-- the targets of a clause or a loop -/
def tgtL (g : Cfg) : List Nat → List Expr → Bool
  | [], [] => true
  | i :: is, .Name x _ :: es => g.tgt i x && tgtL g is es
  | _, _ => false
def tgtOk (g : Cfg) (is : List Nat) (one : Bool) : Expr → Bool
  | .Name x _ => one && (match is with | [i] => g.tgt i x | _ => false)
  | .Tuple es _ _ => !one && tgtL g is es
  | _ => false
def setEq (a b : List Nat) : Bool := a.all (fun i => b.contains i) && b.all fun i => a.contains i
/-- the places of a block's own names -/
def ownOf (N : List Str) (names : List (Str × NameKind)) : List (Str × Nat) := names.filterMap fun p => match p.2 with
  | .local => (N.idxOf? p.1).map fun i => (p.1, i)
  | .cell => (N.idxOf? p.1).map fun i => (p.1, i)
  | _ => none
/-- may be asked as a test -/
def testB : Expr → Bool
  | .Compare _ _ _ _ => true
  | .BoolOp _ _ _ => true
  | .UnaryOp .Not _ _ => true
  | .UnaryOp _ _ _ => false
  | .NamedExpr .. => false
  | .IfExp .. => false
  | _ => true
mutual
def chkE (g : Cfg) : E → Expr → Bool
  | .lit d, e => (match e with
    | .Constant k _ _ => litOk k d
    | _ => false)
  | .var i, e => (match e with
    | .Name x _ => g.vis i x
    | _ => false)
  | .idx a b, e => (match e with
    | .Subscript x y _ => noSlice y && chkE g a x && chkE g b y
    | _ => false)
  | .slc a lo hi, e => (match e with
    | .Subscript x (.Slice l h none _) _ => chkE g a x && chkO g lo l && chkO g hi h
    | _ => false)
  | .tup es, e => (match e with
    | .Tuple xs _ _ => decide (es.length ≤ 1000) && chkL g es xs
    | _ => false)
  | .lst es, e => (match e with
    | .List xs _ => decide (es.length ≤ 1000) && chkL g es xs
    | _ => false)
  | .bin o a b, e => (match e with
    | .BinOp x op y _ => opOk op o && chkE g a x && chkE g b y
    | _ => false)
  | .neg a, e => (match e with
    | .UnaryOp .USub x _ => chkE g a x
    | _ => false)
  | .notE a, e => (match e with
    | .UnaryOp .Not x _ => testB x && chkE g a x
    | _ => false)
  | .andE a b, e => (match e with
    | .BoolOp .And [x, y] _ => testB x && testB y && chkE g a x && chkE g b y
    | .BoolOp .And (x :: y :: z :: r) p => testB x && chkE g a x && chkE g b (.BoolOp .And (y :: z :: r) p)
    | _ => false)
  | .orE a b, e => (match e with
    | .BoolOp .Or [x, y] _ => testB x && testB y && chkE g a x && chkE g b y
    | .BoolOp .Or (x :: y :: z :: r) p => testB x && chkE g a x && chkE g b (.BoolOp .Or (y :: z :: r) p)
    | _ => false)
  | .ite c a b, e => (match e with
    | .IfExp t x y _ => testB t && chkE g c t && chkE g a x && chkE g b y
    | _ => false)
  | .cmp o a b, e => (match e with
    | .Compare x [op] [y] _ => cmOk op o && !behindInMarks op y && chkE g a x && chkE g b y
    | _ => false)
  | .chain o1 o2 a b c, e => (match e with
    | .Compare x [p, q] [y, z] _ => cmOk p o1 && cmOk q o2 && !lastMarks [p, q] [y, z] && chkE g a x && chkE g b y && chkE g c z
    | _ => false)
  | .isN a, e => (match e with
    | .Compare x [.Is] [.Constant .none _ _] _ => chkE g a x
    | _ => false)
  | .notN a, e => (match e with
    | .Compare x [.IsNot] [.Constant .none _ _] _ => chkE g a x
    | _ => false)
  | .bi n es, e => (match e with
    | .Call (.Name x _) (y :: ys) [] _ => (decide (n = "len") || decide (n = "int") || decide (n = "tuple")) && decide (x = Str.ofString n) && g.gl x && chkL g es (y :: ys)
    | _ => false)
  | .isi a cs, e => (match e with
    | .Call (.Name x _) [y, .Name z _] [] _ => (match cs with
      | [n] => decide (x = Str.ofString "isinstance") && g.gl x && decide (n ∈ ["bool", "int", "str", "tuple", "list", "dict"]) && decide (z = Str.ofString n) && g.gl z && noStar y && chkE g a y
      | _ => false)
    | _ => false)
  | .call f es, e => (match e with
    | .Call (.Name x _) ys [] _ => decide ((f, es.length) ∈ g.fns) && decide (x = Str.ofString f) && okName x && g.gl x && chkL g es ys
    | _ => false)
  | .comp _ t one it cond elt, e => (match e with
    | .ListComp x cs scope _ => (match cs with
      | [c] => decide (c.is_async = 0) && noSet c.iter && chkI g it c.iter && blkC g.N g.sc scope (ownOf g.N scope.names) && setEq ((ownOf g.N scope.names).map (·.2)) t && tgtOk (g.blk scope) t one c.target && chkC (g.blk scope) cond c.ifs && chkE (g.blk scope) elt x
      | _ => false)
    | _ => false)
  | _, _ => false
def chkO (g : Cfg) : Option E → Option Expr → Bool
  | none, none => true
  | some a, some x => chkE g a x
  | _, _ => false
def chkC (g : Cfg) : Option E → List Expr → Bool
  | none, xs => xs.isEmpty
  | some a, xs => (match xs with
    | [x] => testB x && chkE g a x
    | _ => false)
def chkL (g : Cfg) : List E → List Expr → Bool
  | [], xs => xs.isEmpty
  | a :: as, xs => (match xs with
    | x :: r => noStar x && chkE g a x && chkL g as r
    | [] => false)
def chkI (g : Cfg) : I → Expr → Bool
  | .val a, e => noSet e && chkE g a e
  | .rng es, e => (match e with
    | .Call (.Name x _) ys [] _ => decide (x = Str.ofString "range") && g.gl x && (decide (es.length = 1) || decide (es.length = 2)) && chkL g es ys
    | _ => false)
  | _, _ => false
end
end Lz
end

section
set_option autoImplicit false
set_option maxRecDepth 100000
namespace Lz
open PySem PySem.Spec L2

/-- a context of the text g describes -/
structure Good (X : Cx) (cA : String → Option Addr) (fl : String → List String) (c : Ctx) (g : Cfg) (k : Nat) : Prop where
  hN : X.N = g.N
  nd : X.N.Nodup
  sc : X.env.scope = g.sc
  fn : ∀ x, g.fnc x = true → X.fn x = true
  calm : X.calm = true
  xe : X.xe = fun _ _ => False
  room : Room k X.A
  bt : ∀ n ∈ btNames, X.mg (Str.ofString n) = none
  cls : ∀ k, cA k = none
  fns : ∀ f n, (f, n) ∈ g.fns → ∃ (fa : Addr) (fd : FuncData) (ps : List Str), FnOk X.prog X.w X.K X.mg X.base C8.CX0 k fa fd ps (SpCall (gm X cA fl) c f n) ∧ X.mg (Str.ofString f) = some (.ref fa) ∧ PySem.W.keepIn X.K (.ref fa) = true ∧ Binds X.K fd ps []
section
variable {X : Cx} {cA : String → Option Addr} {fl : String → List String} {c : Ctx} {g : Cfg} {k : Nat} {A : Ac}
theorem Good.gl (G : Good X cA fl c g k) {x : Str} (h : g.gl x = true) : Gl X x := by
  show X.env.scope.names.lookup x = _
  rw [G.sc]
  exact of_decide_eq_true h
theorem Good.blk (G : Good X cA fl c g k) (scope : Scope) (s : Shared) (H : Hp) (C : Addr) (cl : List (Str × Addr)) (fp : List Addr) : Good (X.blk s H scope (compEnvC scope cl C X.env) fp) cA fl c (g.blk scope) k where
  hN := G.hN
  nd := G.nd
  sc := by
    show relS scope X.env.scope = relS scope g.sc
    rw [G.sc]
  fn := fun x h => h
  calm := G.calm
  xe := rfl
  room := G.room
  bt := G.bt
  cls := G.cls
  fns := G.fns
theorem okName_of {x : Str} (h : okName x = true) : (x == ("__debug__" : Str)) = false ∧ (x == ("__classdict__" : Str)) = false ∧ x ≠ "__name__" := by
  unfold okName at h
  simp only [Bool.and_eq_true, Bool.not_eq_true'] at h
  exact ⟨h.1.1, h.1.2, fun z => by
    have := h.2
    rw [z] at this
    simp at this⟩
theorem Good.var (G : Good X cA fl c g k) {i : Nat} {x : Str} (h : g.vis i x = true) : X.N[i]? = some x ∧ Vis X.env.scope x ∧ (x == ("__debug__" : Str)) = false ∧ (x == ("__classdict__" : Str)) = false := by
  unfold Cfg.vis at h
  simp only [Bool.and_eq_true, Bool.or_eq_true, decide_eq_true_eq] at h
  obtain ⟨⟨h1, h2⟩, h3⟩ := h
  obtain ⟨o1, o2, _⟩ := okName_of h2
  refine ⟨by rw [G.hN]; exact h1, ?_, o1, o2⟩
  unfold Vis
  rw [G.sc]
  rcases h3 with (h3 | h3) | h3
  · exact .inl h3
  · exact .inr (.inl h3)
  · exact .inr (.inr h3)
theorem Good.tgt (G : Good X cA fl c g k) {i : Nat} {x : Str} (h : g.tgt i x = true) : X.N[i]? = some x ∧ L2.Loc X.env.scope x ∧ (X.fn x = true ∨ X.env.scope.names.lookup x = some .local) := by
  unfold Cfg.tgt at h
  simp only [Bool.and_eq_true, Bool.or_eq_true, decide_eq_true_eq] at h
  obtain ⟨h1, h3⟩ := h
  refine ⟨by rw [G.hN]; exact h1, ?_, ?_⟩
  · unfold L2.Loc
    rw [G.sc]
    exact h3.imp id fun h => h.1
  · rw [G.sc]
    rcases h3 with h3 | h3
    · exact .inr h3
    · exact .inl (G.fn x h3.2)
theorem Good.tgts (G : Good X cA fl c g k) : ∀ {is : List Nat} {es : List Expr}, tgtL g is es = true → Paired (fun (i : Nat) (e : Expr) => ∃ x pos, e = .Name x pos ∧ X.N[i]? = some x ∧ L2.Loc X.env.scope x ∧ (X.fn x = true ∨ X.env.scope.names.lookup x = some .local)) is es
  | [], [], _ => .nil
  | i :: is, e :: es, h => by
    cases e with
    | Name x pos =>
      have h : (g.tgt i x && tgtL g is es) = true := h
      rw [Bool.and_eq_true] at h
      exact .cons ⟨x, pos, rfl, G.tgt h.1⟩ (Good.tgts G h.2)
    | _ => cases h
  | [], _ :: _, h => by cases h
  | _ :: _, [], h => by cases h
theorem Good.tb (G : Good X cA fl c g k) {is : List Nat} {one : Bool} {e : Expr} (h : tgtOk g is one e = true) : PG X e (TB (gm X cA fl) A is one) := by
  unfold tgtOk at h
  split at h
  · rw [Bool.and_eq_true] at h
    obtain ⟨h1, h2⟩ := h
    split at h2
    · obtain ⟨t1, t2, t3⟩ := G.tgt h2
      subst h1
      exact tb_var G.nd t1 t2 t3
    · cases h2
  · rw [Bool.and_eq_true] at h
    obtain ⟨h1, h2⟩ := h
    have h1 : one = false := by simpa using h1
    subst h1
    exact tb_tup G.calm G.nd (G.tgts h2)
  · cases h
/-- a statement's target -/
theorem Good.tg (G : Good X cA fl c g k) {is : List Nat} {one : Bool} {e : Expr} (h : tgtOk g is one e = true) : (one = true → ∃ i, is = [i] ∧ PG X e (TGv (gm X cA fl) A c (.var i) [i])) ∧ (one = false → PG X e (TGv (gm X cA fl) A c (.tup is) is)) := by
  unfold tgtOk at h
  split at h
  · rw [Bool.and_eq_true] at h
    obtain ⟨h1, h2⟩ := h
    split at h2
    · obtain ⟨t1, t2, t3⟩ := G.tgt h2
      subst h1
      exact ⟨fun _ => ⟨_, rfl, tg_var G.nd t1 t2 t3⟩, fun z => nomatch z⟩
    · cases h2
  · rw [Bool.and_eq_true] at h
    obtain ⟨h1, h2⟩ := h
    have h1 : one = false := by simpa using h1
    subst h1
    exact ⟨(fun z => nomatch z), fun _ => tg_tup G.calm G.nd (G.tgts h2)⟩
  · cases h
theorem star_of {e : Expr} {es : List Expr} {env : PySem.Env} (h : noStar e = true) : starEach (e :: es) env = (false, eval e env) :: starEach es env := by
  cases e <;> first | rfl | cases h
theorem set_of {e : Expr} {env : PySem.Env} (h : noSet e = true) (x : Value) : foldedSetIterable e env x = pure x := by
  cases e <;> first | rfl | cases h
theorem slice_of {e : Expr} (h : noSlice e = true) : PlainIx e := by
  intro o i
  cases e <;> first | rfl | cases h
theorem test_of {e : Expr} {env : PySem.Env} (h : valTest e = true) : ∀ whole, isTrue e env whole = (do let v ← whole; standAt e.pos; holding [v] (truthy v)) := by
  intro w
  cases e <;> first | rfl | cases h
/-- no star among them -/
def noStars (es : List Expr) : Bool := es.all noStar
theorem stars_any {env : PySem.Env} {pos : Pos} : ∀ {es : List Expr}, noStars es = true → (backTo pos (starEach es env)).any (·.1) = false
  | [], _ => rfl
  | e :: es, h => by
    unfold noStars at h
    rw [List.all_cons, Bool.and_eq_true] at h
    rw [star_of h.1]
    show (false || (backTo pos (starEach es env)).any (·.1)) = false
    rw [stars_any h.2]; rfl
theorem stars_all {env : PySem.Env} {pos : Pos} : ∀ {es : List Expr}, noStars es = true → (backTo pos (starEach es env)).all (fun x => !x.1) = true
  | [], _ => rfl
  | e :: es, h => by
    unfold noStars at h
    rw [List.all_cons, Bool.and_eq_true] at h
    rw [star_of h.1]
    show (!false && (backTo pos (starEach es env)).all (fun x => !x.1)) = true
    rw [stars_all h.2]; rfl
theorem chkL_stars {g : Cfg} : ∀ {irs : List E} {es : List Expr}, chkL g irs es = true → noStars es = true ∧ irs.length = es.length
  | [], es, h => by
    simp only [chkL] at h
    have : es = [] := by simpa using h
    subst this
    exact ⟨rfl, rfl⟩
  | a :: as, es, h => by
    simp only [chkL] at h
    split at h
    · rename_i x r
      simp only [Bool.and_eq_true] at h
      obtain ⟨h1, h2⟩ := chkL_stars h.2
      refine ⟨?_, by simp [h2]⟩
      unfold noStars
      rw [List.all_cons, h.1.1, Bool.true_and]
      exact h1
    · cases h
theorem ownOf_ix {N : List Str} {names : List (Str × NameKind)} : True := trivial
theorem setEq_of {a b : List Nat} (h : setEq a b = true) : ∀ i, i ∈ a ↔ i ∈ b := by
  unfold setEq at h
  simp only [Bool.and_eq_true, List.all_eq_true, List.contains_iff_mem] at h
  exact fun i => ⟨h.1 i, h.2 i⟩

theorem op_any {op : Operator} {o : Op} (h : opOk op o = true) {Γ : Gm} (hK : Γ.K = X.K) : ∃ r, OpR X (binaryOp op) r ∧ Val2 Γ r (binop o) := by
  unfold opOk at h
  split at h
  · exact ⟨_, opr_add, by rw [← hK]; exact val_add⟩
  · exact ⟨_, op_sub, val_sub⟩
  · exact ⟨_, opr_mul, by rw [← hK]; exact val_mul⟩
  · exact ⟨_, op_fdivN, val_fdiv⟩
  · exact ⟨_, op_modN, val_mod⟩
  · exact ⟨_, op_shl, val_shl⟩
  · exact ⟨_, op_shr, val_shr⟩
  · exact ⟨_, op_and, val_band⟩
  · exact ⟨_, op_pow, val_pow⟩
  · cases h
theorem cm_any {op : CmpOp} {o : Cm} (h : cmOk op o = true) (hu : X.A.units + 65 < cLine) {Γ : Gm} (hK : Γ.K = X.K) : ∃ r, OpR X (compareOp op) r ∧ Val2 Γ r (cmpV c o) := by
  unfold cmOk at h
  split at h
  · exact ⟨_, op_eqD (by omega), by rw [← hK]; exact val_eq⟩
  · exact ⟨_, op_neD (by omega), by rw [← hK]; exact val_ne⟩
  · exact ⟨_, op_lt, val_lt⟩
  · exact ⟨_, op_le, val_le⟩
  · exact ⟨_, op_gt, val_gt⟩
  · exact ⟨_, op_ge, val_ge⟩
  · exact ⟨_, opr_in hu, by rw [← hK]; exact val_in⟩
  · exact ⟨_, opr_notin hu, by rw [← hK]; exact val_notin⟩
  · cases h
end
end Lz
end

section
set_option autoImplicit false
set_option maxRecDepth 100000
namespace Lz
open PySem PySem.Spec L2

def isBoolE : Expr → Bool
  | .BoolOp _ _ _ => true
  | _ => false
structure Ok3 (X : Cx) (cA : String → Option Addr) (fl : String → List String) (c : Ctx) (A : Ac) (e : Expr) (ir : E) : Prop where
  pe : ∀ ro pk, PE X e (TEv (gm X cA fl) A c ro pk ir)
  pt : testB e = true → ∀ ro pk, PT X e (TTv (gm X cA fl) A c ro pk ir)
  pw : isBoolE e = true → ∀ ro pk, PW X e (TTv (gm X cA fl) A c ro pk ir)

section
variable {X : Cx} {cA : String → Option Addr} {fl : String → List String} {c : Ctx} {g : Cfg} {k : Nat} {A : Ac} {e : Expr} {ir : E}
theorem Ok3.val (h : ∀ ro pk, PE X e (TEv (gm X cA fl) A c ro pk ir)) (v : valTest e = true) : Ok3 X cA fl c A e ir :=
  ⟨h, fun _ ro pk => tt_truth h (test_of v), fun z => by cases e <;> first | (cases v; done) | (cases z; done)⟩
theorem Ok3.none (h : ∀ ro pk, PE X e (TEv (gm X cA fl) A c ro pk ir)) (v : testB e = false) (w : isBoolE e = false) : Ok3 X cA fl c A e ir :=
  ⟨h, fun z => (by rw [v] at z; cases z), fun z => (by rw [w] at z; cases z)⟩
theorem Ok3.test (h : ∀ ro pk, PE X e (TEv (gm X cA fl) A c ro pk ir)) (t : ∀ ro pk, PT X e (TTv (gm X cA fl) A c ro pk ir)) (w : isBoolE e = false) : Ok3 X cA fl c A e ir :=
  ⟨h, fun _ => t, fun z => (by rw [w] at z; cases z)⟩
theorem Ok3.bool (h : ∀ ro pk, PE X e (TEv (gm X cA fl) A c ro pk ir)) (t : ∀ ro pk, PW X e (TTv (gm X cA fl) A c ro pk ir)) : Ok3 X cA fl c A e ir :=
  ⟨h, fun _ ro pk => (t ro pk).pt, fun _ => t⟩
theorem tt_isN {a : Expr} {ia : E} {j : Nat} {pos pos' : Pos} {ro pk : Bool} (ha : ∀ ro pk, PE X a (TEv (gm X cA fl) A c ro pk ia)) : PT X (.Compare a [.Is] [.Constant .none j pos'] pos) (TTv (gm X cA fl) A c ro pk (.isN ia)) :=
  tt_cmp1 rfl op_isN (ha ro true) pe_non (nomark _) (fun σ H Q h => by
    obtain ⟨S, Fs, env, d, env', s, h1, q⟩ := h
    rw [ev] at h1
    obtain ⟨⟨x, env1⟩, h2, h1⟩ := bok h1
    cases h1
    refine ⟨S, Fs, env, x, _, s, h2, fun S1 Fs1 H1 v F g => ⟨rfl, ?_⟩⟩
    have e : decide (v = V.non) = x.isNone := by
      have r := g.rep
      cases r <;> first | rfl | exact decide_eq_false (fun q => nomatch q)
    rw [e]
    exact q _ _ _ _ _ (Got.flat g.sr g.chg (.bl _))) fun env d env' h => ev_isN h
theorem tt_notN {a : Expr} {ia : E} {j : Nat} {pos pos' : Pos} {ro pk : Bool} (ha : ∀ ro pk, PE X a (TEv (gm X cA fl) A c ro pk ia)) : PT X (.Compare a [.IsNot] [.Constant .none j pos'] pos) (TTv (gm X cA fl) A c ro pk (.notN ia)) :=
  tt_cmp1 rfl op_notN (ha ro true) pe_non (nomark _) (fun σ H Q h => by
    obtain ⟨S, Fs, env, d, env', s, h1, q⟩ := h
    rw [ev] at h1
    obtain ⟨⟨x, env1⟩, h2, h1⟩ := bok h1
    cases h1
    refine ⟨S, Fs, env, x, _, s, h2, fun S1 Fs1 H1 v F g => ⟨rfl, ?_⟩⟩
    have e : (!decide (v = V.non)) = !x.isNone := by
      have r := g.rep
      cases r <;> first | rfl | (rw [decide_eq_false (fun q => nomatch q)]; rfl)
    rw [e]
    exact q _ _ _ _ _ (Got.flat g.sr g.chg (.bl _))) fun env d env' h => ev_notN h
theorem Good.u65 (G : Good X cA fl c g k) : X.A.units + 65 < cLine := by
  have := G.room.un
  omega
theorem lit_ok {K : Const} {d : D} {j : Nat} {pos : Pos} (h : litOk K d = true) : ∀ ro pk, PE X (.Constant K j pos) (TEv (gm X cA fl) A c ro pk (.lit d)) := by
  unfold litOk at h
  split at h
  · have := of_decide_eq_true h
    subst this
    exact fun _ _ => te_int
  · have : _ = _ := eq_of_beq h
    subst this
    exact fun _ _ => te_bl
  · exact fun _ _ => te_non
  · have := of_decide_eq_true h
    subst this
    exact fun _ _ => te_str
  · cases h
end

section
variable {cA : String → Option Addr} {fl : String → List String} {c : Ctx} {k : Nat} {A : Ac}
mutual
theorem chkE_ok : ∀ (ir : E) (e : Expr) (X : Cx) (g : Cfg), Good X cA fl c g k → chkE g ir e = true → Ok3 X cA fl c A e ir
  | .lit d, e, X, g, G, h => by
    simp only [chkE] at h
    split at h
    · exact .val (lit_ok h) rfl
    · cases h
  | .var i, e, X, g, G, h => by
    simp only [chkE] at h
    split at h
    · obtain ⟨h1, h2, h3, h4⟩ := G.var h
      exact .val (fun _ _ => te_var h1 h2 h3 h4) rfl
    · cases h
  | .idx a b, e, X, g, G, h => by
    simp only [chkE] at h
    split at h
    · simp only [Bool.and_eq_true] at h
      exact .val (fun _ _ => te_idx (chkE_ok a _ X g G h.1.2).pe (chkE_ok b _ X g G h.2).pe (slice_of h.1.1)) rfl
    · cases h
  | .slc a lo hi, e, X, g, G, h => by
    simp only [chkE] at h
    split at h
    · simp only [Bool.and_eq_true] at h
      exact .val (fun _ _ => te_slc (chkE_ok a _ X g G h.1.1).pe (chkO_ok lo _ X g G h.1.2) (chkO_ok hi _ X g G h.2)) rfl
    · cases h
  | .tup es, e, X, g, G, h => by
    simp only [chkE] at h
    split at h
    · simp only [Bool.and_eq_true, decide_eq_true_eq] at h
      exact .val (fun ro pk => te_tup (chkL_ok es _ X g G h.2 ro false fun z => nomatch z) h.1) rfl
    · cases h
  | .lst es, e, X, g, G, h => by
    simp only [chkE] at h
    split at h
    · simp only [Bool.and_eq_true, decide_eq_true_eq] at h
      exact .val (fun ro pk => te_lst (chkL_ok es _ X g G h.2 ro false fun z => nomatch z) h.1) rfl
    · cases h
  | .bin o a b, e, X, g, G, h => by
    simp only [chkE] at h
    split at h
    · simp only [Bool.and_eq_true] at h
      obtain ⟨r, h1, h2⟩ := op_any (X := X) (Γ := gm X cA fl) h.1.1 rfl
      exact .val (fun _ _ => te_bin h1 h2 (chkE_ok a _ X g G h.1.2).pe (chkE_ok b _ X g G h.2).pe) rfl
    · cases h
  | .neg a, e, X, g, G, h => by
    simp only [chkE] at h
    split at h
    · exact .none (fun _ _ => te_neg (chkE_ok a _ X g G h).pe) rfl rfl
    · cases h
  | .notE a, e, X, g, G, h => by
    simp only [chkE] at h
    split at h
    · rw [Bool.and_eq_true] at h
      have q := chkE_ok a _ X g G h.2
      exact .test (fun _ _ => te_not q.pe) (fun ro pk => tt_not (q.pt h.1 ro true)) rfl
    · cases h
  | .andE a b, e, X, g, G, h => by
    simp only [chkE] at h
    split at h
    · simp only [Bool.and_eq_true] at h
      have q1 := chkE_ok a _ X g G h.1.2
      have q2 := chkE_ok b _ X g G h.2
      exact .bool (fun _ _ => te_and q1.pe fun ro pk => te_one (q2.pe ro pk)) fun ro pk => tw_and (q1.pt h.1.1.1 ro false) (tw_and1 (q2.pt h.1.1.2 ro false))
    · simp only [Bool.and_eq_true] at h
      have q1 := chkE_ok a _ X g G h.1.2
      have q2 := chkE_ok b _ X g G h.2
      exact .bool (fun _ _ => te_and q1.pe q2.pe) fun ro pk => tw_and (q1.pt h.1.1 ro false) (q2.pw rfl ro false)
    · cases h
  | .orE a b, e, X, g, G, h => by
    simp only [chkE] at h
    split at h
    · simp only [Bool.and_eq_true] at h
      have q1 := chkE_ok a _ X g G h.1.2
      have q2 := chkE_ok b _ X g G h.2
      exact .bool (fun _ _ => te_or q1.pe fun ro pk => te_one (q2.pe ro pk)) fun ro pk => tw_or (q1.pt h.1.1.1 ro false) (tw_or1 (q2.pt h.1.1.2 ro false))
    · simp only [Bool.and_eq_true] at h
      have q1 := chkE_ok a _ X g G h.1.2
      have q2 := chkE_ok b _ X g G h.2
      exact .bool (fun _ _ => te_or q1.pe q2.pe) fun ro pk => tw_or (q1.pt h.1.1 ro false) (q2.pw rfl ro false)
    · cases h
  | .ite t a b, e, X, g, G, h => by
    simp only [chkE] at h
    split at h
    · simp only [Bool.and_eq_true] at h
      have q0 := chkE_ok t _ X g G h.1.1.2
      exact .none (fun ro pk => te_ite (q0.pt h.1.1.1 ro true) (chkE_ok a _ X g G h.1.2).pe (chkE_ok b _ X g G h.2).pe) rfl rfl
    · cases h
  | .cmp o a b, e, X, g, G, h => by
    simp only [chkE] at h
    split at h
    · simp only [Bool.and_eq_true, Bool.not_eq_true'] at h
      obtain ⟨r, h1, h2⟩ := cm_any (X := X) (c := c) (Γ := gm X cA fl) h.1.1.1 G.u65 rfl
      have q1 := (chkE_ok a _ X g G h.1.2).pe
      have q2 := (chkE_ok b _ X g G h.2).pe
      exact .test (fun _ _ => te_cmp h1 h2 q1 q2 h.1.1.2) (fun _ _ => tt_cmp h1 h2 q1 q2 h.1.1.2) rfl
    · cases h
  | .chain o1 o2 a b d, e, X, g, G, h => by
    simp only [chkE] at h
    split at h
    · simp only [Bool.and_eq_true, Bool.not_eq_true'] at h
      obtain ⟨⟨⟨⟨⟨p1, p2⟩, p3⟩, p4⟩, p5⟩, p6⟩ := h
      obtain ⟨r1, h1, h2⟩ := cm_any (X := X) (c := c) (Γ := gm X cA fl) p1 G.u65 rfl
      obtain ⟨r2, h3, h4⟩ := cm_any (X := X) (c := c) (Γ := gm X cA fl) p2 G.u65 rfl
      have q1 := (chkE_ok a _ X g G p4).pe
      have q2 := (chkE_ok b _ X g G p5).pe
      have q3 := (chkE_ok d _ X g G p6).pe
      exact .test (fun _ _ => te_chain h1 h3 h2 h4 q1 q2 q3 p3) (fun _ _ => tt_chain h1 h3 h2 h4 q1 q2 q3 p3) rfl
    · cases h
  | .isN a, e, X, g, G, h => by
    simp only [chkE] at h
    split at h
    · have q := (chkE_ok a _ X g G h).pe
      exact .test (fun _ _ => te_isN q) (fun _ _ => tt_isN q) rfl
    · cases h
  | .notN a, e, X, g, G, h => by
    simp only [chkE] at h
    split at h
    · have q := (chkE_ok a _ X g G h).pe
      exact .test (fun _ _ => te_notN q) (fun _ _ => tt_notN q) rfl
    · cases h
  | .bi n es, e, X, g, G, h => by
    simp only [chkE] at h
    split at h
    · simp only [Bool.and_eq_true, Bool.or_eq_true, decide_eq_true_eq] at h
      obtain ⟨⟨⟨hn, hx⟩, hg⟩, hl⟩ := h
      subst hx
      obtain ⟨s1, s2⟩ := chkL_stars hl
      unfold noStars at s1
      rw [List.all_cons, Bool.and_eq_true] at s1
      have ha := fun ro pk hm => chkL_ok es _ X g G hl ro pk hm
      have hgl := G.gl hg
      rcases hn with (rfl | rfl) | rfl
      · exact .val (fun _ _ => te_bi bok_len call_len hgl (G.bt _ (by decide)) (by decide +kernel) ha (by decide) (by decide) (star_of s1.1) (stars_any s1.2)) rfl
      · exact .val (fun _ _ => te_biT bok_int call_int1 hgl (G.bt _ (by decide)) (by decide +kernel) ha (by decide) (by decide) (star_of s1.1) (stars_any s1.2)) rfl
      · exact .val (fun _ _ => te_biT bok_tuple call_tuple_of hgl (G.bt _ (by decide)) (by decide +kernel) ha (by decide) (by decide) (star_of s1.1) (stars_any s1.2)) rfl
    · cases h
  | .isi a cs, e, X, g, G, h => by
    simp only [chkE] at h
    split at h
    · split at h
      · rename_i n
        simp only [Bool.and_eq_true, decide_eq_true_eq] at h
        obtain ⟨⟨⟨⟨⟨⟨h1, h2⟩, h3⟩, h4⟩, h5⟩, h6⟩, h7⟩ := h
        subst h1; subst h4
        have hO : ∀ k C, cA k = some C → ClF X.K C ∧ PySem.W.kitOne X.K (.ref C) (.type n) = some (c.sub k n) := fun k C hk => by
          rw [G.cls k] at hk; cases hk
        have hb : bootBuiltins (Str.ofString n) = some (.type n) ∧ n ∈ btNames ∧ Str.ofString n ≠ "__name__" ∧ (Str.ofString n == ("__debug__" : Str)) = false := by
          simp only [List.mem_cons, List.not_mem_nil, or_false] at h3
          rcases h3 with rfl | rfl | rfl | rfl | rfl | rfl <;> decide +kernel
        obtain ⟨b1, b2, b3, b4⟩ := hb
        exact .val (fun _ _ => te_isi (chkE_ok a _ X g G h7).pe (.ty n) (pe_bltn (G.gl h5) (G.bt n b2) b1 rfl b3 b4) (kit_six X.K h3) hO (G.gl h2) (G.bt _ (by decide)) (star_of h6) (star_of rfl) (by rw [star_of rfl]; rfl)) rfl
      · cases h
    · cases h
  | .call f es, e, X, g, G, h => by
    simp only [chkE] at h
    split at h
    · rename_i x _ ys _
      simp only [Bool.and_eq_true, decide_eq_true_eq] at h
      obtain ⟨⟨⟨⟨h1, h2⟩, h3⟩, h4⟩, h5⟩ := h
      subst h2
      obtain ⟨s1, s2⟩ := chkL_stars h5
      obtain ⟨o1, o2, o3⟩ := okName_of h3
      obtain ⟨fa, fd, ps, f1, f2, f3, f4⟩ := G.fns f _ h1
      cases ys with
      | nil =>
        have : es = [] := by cases es with | nil => rfl | cons a as => simp at s2
        subst this
        exact .val (fun _ _ => te_call0 f1 G.room (G.gl h4) f2 f3 f4 o1) rfl
      | cons y ys =>
        unfold noStars at s1
        rw [List.all_cons, Bool.and_eq_true] at s1
        exact .val (fun _ _ => te_call rfl f1 G.room (G.gl h4) f2 f3 f4 (fun ro pk hm => chkL_ok es _ X g G h5 ro pk hm) o1 (star_of s1.1) (stars_any s1.2)) rfl
    · cases h
  | .comp kp t one it cond elt, e, X, g, G, h => by
    simp only [chkE] at h
    split at h
    · split at h
      · rename_i x _ scope _ _ cl
        obtain ⟨tg, iter, ifs, asy⟩ := cl
        simp only [Bool.and_eq_true, decide_eq_true_eq] at h
        obtain ⟨⟨⟨⟨⟨⟨⟨h1, h2⟩, h3⟩, h4⟩, h5⟩, h6⟩, h7⟩, h8⟩ := h
        subst h1
        have ok : BlkOk X.N X.env.scope scope (ownOf g.N scope.names) := by rw [G.hN, G.sc]; exact blkOk_by h4
        exact .val (fun ro pk => te_comp G.calm G.nd (chkI_ok it _ X g G h3 ro tg) ok (setEq_of h5) (fun s H C cl fp => (G.blk scope s H C cl fp).tb h6) (fun s H C cl fp => chkC_ok cond _ _ _ (G.blk scope s H C cl fp) h7 ro) (fun s H C cl fp => (chkE_ok elt _ _ _ (G.blk scope s H C cl fp) h8).pe ro false) (set_of h2)) rfl
      · cases h
    · cases h
  | .glob _, _, _, _, _, h => by simp [chkE] at h
  | .fld _ _, _, _, _, _, h => by simp [chkE] at h
  | .rvs _, _, _, _, _, h => by simp [chkE] at h
  | .dic _ _, _, _, _, _, h => by simp [chkE] at h
  | .meth _ _ _, _, _, _, _, h => by simp [chkE] at h
  | .isB _ _, _, _, _, _, h => by simp [chkE] at h
  | .mmeth _ _ _, _, _, _, _, h => by simp [chkE] at h
  | .mcal _ _ _, _, _, _, _, h => by simp [chkE] at h
  | .pop _ _, _, _, _, _, h => by simp [chkE] at h
  | .mk _ _, _, _, _, _, h => by simp [chkE] at h
theorem chkO_ok : ∀ (io : Option E) (o : Option Expr) (X : Cx) (g : Cfg), Good X cA fl c g k → chkO g io o = true → PO X o (TOv (gm X cA fl) A c io)
  | none, o, X, g, G, h => by
    cases o with
    | none => exact to_none
    | some e => simp [chkO] at h
  | some a, o, X, g, G, h => by
    cases o with
    | none => simp [chkO] at h
    | some e =>
      simp only [chkO] at h
      exact to_some (chkE_ok a _ X g G h).pe
theorem chkC_ok : ∀ (io : Option E) (es : List Expr) (X : Cx) (g : Cfg), Good X cA fl c g k → chkC g io es = true → ∀ ro, PTs X es (TTc (gm X cA fl) A c ro io)
  | none, es, X, g, G, h, ro => by
    simp only [chkC] at h
    have : es = [] := by simpa using h
    subst this
    exact tc_none
  | some a, es, X, g, G, h, ro => by
    simp only [chkC] at h
    split at h
    · rw [Bool.and_eq_true] at h
      exact tc_some ((chkE_ok a _ X g G h.2).pt h.1 ro true)
    · cases h
theorem chkL_ok : ∀ (irs : List E) (es : List Expr) (X : Cx) (g : Cfg), Good X cA fl c g k → chkL g irs es = true → ∀ ro pk, (pk = true → ro = true) → PA X es (TEvs (gm X cA fl) A c ro pk irs)
  | [], es, X, g, G, h, ro, pk, hm => by
    simp only [chkL] at h
    have : es = [] := by simpa using h
    subst this
    exact tes_nil
  | a :: as, es, X, g, G, h, ro, pk, hm => by
    simp only [chkL] at h
    split at h
    · simp only [Bool.and_eq_true] at h
      exact tes_cons ((chkE_ok a _ X g G h.1.2).pe ro pk) (chkL_ok as _ X g G h.2 ro pk hm) hm (star_of h.1.1)
    · cases h
theorem chkI_ok : ∀ (it : I) (e : Expr) (X : Cx) (g : Cfg), Good X cA fl c g k → chkI g it e = true → ∀ ro tg, PI X tg e (TIv (gm X cA fl) A c ro it)
  | .val a, e, X, g, G, h, ro, tg => by
    simp only [chkI, Bool.and_eq_true] at h
    exact ti_val (chkE_ok a _ X g G h.2).pe
  | .rng es, e, X, g, G, h, ro, tg => by
    simp only [chkI] at h
    split at h
    · rename_i x _ ys _
      simp only [Bool.and_eq_true, Bool.or_eq_true, decide_eq_true_eq] at h
      obtain ⟨⟨⟨h1, h2⟩, h3⟩, h4⟩ := h
      subst h1
      obtain ⟨s1, s2⟩ := chkL_stars h4
      have pa := chkL_ok es ys X g G h4 ro false fun z => nomatch z
      have hm := G.bt "range" (by decide)
      match es, ys, s1, s2, pa, h3 with
      | [ia], [a], s1, _, pa, _ =>
        have z : noStar a = true := by simpa [noStars] using s1
        exact ti_rng1 (G.gl h2) hm pa (by rw [star_of z]; rfl)
      | [ia, ib], [a, b], s1, _, pa, _ =>
        have z : noStar a = true ∧ noStar b = true := by simpa [noStars] using s1
        exact ti_rng2 (G.gl h2) hm pa (by rw [star_of z.1, star_of z.2]; rfl) (by rw [star_of z.2]; rfl)
    · cases h
  | .keep _, _, _, _, _, h, _, _ => by simp [chkI] at h
  | .enum _, _, _, _, _, h, _, _ => by simp [chkI] at h
  | .rvs _, _, _, _, _, h, _, _ => by simp [chkI] at h
  | .zip _ _, _, _, _, _, h, _, _ => by simp [chkI] at h
end
end
end Lz
end

section
set_option autoImplicit false
set_option maxRecDepth 100000
namespace Lz
open PySem PySem.Spec L2

/-- name = [..]: stored within the block's end -/
def swB (sc : Scope) (scope : Scope) (t : Str) (p vp : Pos) : Bool :=
  ((if sc.kind.isAnnotationScope = true then ScopeKind.function else sc.kind) == ScopeKind.function && sc.names.lookup t == some NameKind.local && p.line == vp.line &&
    !scope.names.any fun x => match x with
      | (n, k) => n == t && (k == NameKind.local || k == NameKind.cell))
def pairs2 : Expr → Expr → Bool
  | .Tuple _ _ _, .Tuple _ _ _ => true
  | .List _ _, .Tuple _ _ _ => true
  | _, _ => false
def augOk : Operator → Op → Bool
  | .Add, .add => true
  | .Sub, .sub => true
  | .Mult, .mul => true
  | _, _ => false
def fewB (es : List Expr) : Bool := decide (es.length + 0 + (if ([] : List Keyword).isEmpty then 0 else 1) < 30)
mutual
def chkS (g : Cfg) : Lz.S → Stmt → Bool
  | .asg t e, st => (match st with
    | .Assign [tg] v _ => (match v with
      | .ListComp x [⟨ctg, iter, ifs, asy⟩] scope vp => (match tg, t with
        | .Name y p, .var i => g.tgt i y && (if swB g.sc scope y p vp = true then decide (g.kind y = some .local) else true) && chkE g e v
        | .Tuple _ _ _, .tup is => tgtOk g is false tg && chkE g e v
        | _, _ => false)
      | _ => noComp v && !pairs2 tg v && (match t with
        | .var i => tgtOk g [i] true tg && chkE g e v
        | .tup is => tgtOk g is false tg && chkE g e v
        | _ => false))
    | _ => false)
  | .aug t o e, st => (match st with
    | .AugAssign (.Name x _) op v _ => (match t with
      | .var i => g.tgt i x && augOk op o && chkE g e v
      | _ => false)
    | _ => false)
  | .ex e, st => (match st with
    | .Expr v _ => noComp v && chkE g e v
    | _ => false)
  | .mut _ n p es, st => (match st with
    | .Expr (.Call (.Attribute (.Name x _) nm ap) (y :: ys) [] cp) _ => (match p with
      | .var i => g.vis i x && (decide (n = "append") || decide (n = "extend")) && decide (nm = Str.ofString n) && ap.endLine == cp.line && fewB (y :: ys) && chkL g es (y :: ys)
      | _ => false)
    | _ => false)
  | .ret e, st => (match st with
    | .Return (some v) _ => chkE g e v
    | .Return none _ => (match e with
      | .lit .non => true
      | _ => false)
    | _ => false)
  | .ifS c a b, st => (match st with
    | .If t x y _ => testB t && chkE g c t && chkSs g a x && chkSs g b y
    | _ => false)
  | .forS t it body, st => (match st with
    | .For tg iter x ys _ => (match ys with
      | [] => noSet iter && chkI g it iter && (match t with
        | .var i => tgtOk g [i] true tg
        | .tup is => tgtOk g is false tg
        | _ => false) && chkSs g body x
      | _ => false)
    | _ => false)
  | .whl c body, st => (match st with
    | .While t x ys _ => (match ys with
      | [] => testB t && chkE g c t && chkSs g body x
      | _ => false)
    | _ => false)
  | .brk, st => (match st with
    | .Break _ => true
    | _ => false)
  | .cnt, st => (match st with
    | .Continue _ => true
    | _ => false)
  | .pass, st => (match st with
    | .Pass _ => true
    | .Expr (.Constant (.str _) _ _) _ => true
    | _ => false)
  | _, _ => false
def chkSs (g : Cfg) : List Lz.S → List Stmt → Bool
  | [], xs => xs.isEmpty
  | a :: as, xs => (match xs with
    | x :: r => chkS g a x && chkSs g as r
    | [] => false)
end

theorem swaps_not {v : Expr} {t : Option Expr} {l : Nat} {env : PySem.Env} (h : noComp v = true) : swapsWith v t l env = pure false := by
  cases v <;> first | rfl | cases h
theorem stores_not {tg v : Expr} {env : PySem.Env} (h : pairs2 tg v = false) : swappedStores [tg] v env = pure none := by
  cases tg <;> first | rfl | (cases v <;> first | rfl | cases h)
theorem assign1 {tg : Expr} {env : PySem.Env} {g : Cfg} {is : List Nat} {one : Bool} (h : tgtOk g is one tg = true) : (assignEach [tg] env).map (·.2) = [assign tg env] := by
  cases tg <;> first | rfl | cases h

section
variable {cA : String → Option Addr} {fl : String → List String} {c : Ctx} {k : Nat} {A : Ac} {X : Cx} {g : Cfg}
theorem Good.target (G : Good X cA fl c g k) {t : Tg} {tg : Expr} (h : (match t with
        | .var i => tgtOk g [i] true tg
        | .tup is => tgtOk g is false tg
        | _ => false) = true) : PG X tg (TGv (gm X cA fl) A c t (tgS t)) ∧ ∀ it body, asgS (.forS t it body) = tgS t ++ asgSs body := by
  cases t with
  | var i =>
    obtain ⟨j, e, q⟩ := (G.tg (A := A) (c := c) h).1 rfl
    have : i = j := by simpa using e
    subst this
    exact ⟨q, fun _ _ => rfl⟩
  | tup is => exact ⟨(G.tg h).2 rfl, fun _ _ => rfl⟩
  | _ => cases h
theorem aug_any {op : Operator} {o : Op} (h : augOk op o = true) {Γ : Gm} : ∃ r, OpR X (inplaceOp op) r ∧ Val2 Γ r (augop o) := by
  unfold augOk at h
  split at h
  · exact ⟨_, iop_add.or iop_add_str, aug_add⟩
  · exact ⟨_, iop_sub, aug_sub⟩
  · exact ⟨_, iop_mul, aug_mul⟩
  · cases h

mutual
theorem chkS_ok : ∀ (is : Lz.S) (st : Stmt), Good X cA fl c g k → chkS g is st = true → PS X st (TSv (gm X cA fl) A c is)
  | .asg t e, st, G, h => by
    simp only [chkS] at h
    split at h
    · rename_i tg v pos
      split at h
      · rename_i x ctg iter ifs asy scope vp
        split at h
        · rename_i y p i
          simp only [Bool.and_eq_true] at h
          obtain ⟨⟨h1, h2⟩, h3⟩ := h
          obtain ⟨t1, t2, t3⟩ := G.tgt h1
          by_cases hs : swB g.sc scope y p vp = true
          · rw [if_pos hs] at h2
            have hy : X.env.scope.names.lookup y = some .local := by rw [G.sc]; exact of_decide_eq_true h2
            have hsw : swapsWith (.ListComp x [⟨ctg, iter, ifs, asy⟩] scope vp) (some (.Name y p)) pos.line X.env = pure true := by
              have : swapsWith (.ListComp x [⟨ctg, iter, ifs, asy⟩] scope vp) (some (.Name y p)) pos.line X.env = pure (swB X.env.scope scope y p vp) := rfl
              rw [this, G.sc, hs]
            cases e with
            | comp kp ct one it cond elt =>
              simp only [chkE, Bool.and_eq_true, decide_eq_true_eq] at h3
              obtain ⟨⟨⟨⟨⟨⟨⟨q1, q2⟩, q3⟩, q4⟩, q5⟩, q6⟩, q7⟩, q8⟩ := h3
              subst q1
              have ok : BlkOk X.N X.env.scope scope (ownOf g.N scope.names) := by rw [G.hN, G.sc]; exact blkOk_by q4
              exact ts_setLc G.calm G.nd t1 hy hsw (chkI_ok it _ X g G q3 false ctg) ok (setEq_of q5) (fun s H C cl fp => (G.blk scope s H C cl fp).tb q6) (fun s H C cl fp => chkC_ok cond _ _ _ (G.blk scope s H C cl fp) q7 false) (fun s H C cl fp => (chkE_ok elt _ _ _ (G.blk scope s H C cl fp) q8).pe false false) (set_of q2)
            | _ => simp [chkE] at h3
          · have hsw : swapsWith (.ListComp x [⟨ctg, iter, ifs, asy⟩] scope vp) (some (.Name y p)) pos.line X.env = pure false := by
              have : swapsWith (.ListComp x [⟨ctg, iter, ifs, asy⟩] scope vp) (some (.Name y p)) pos.line X.env = pure (swB X.env.scope scope y p vp) := rfl
              rw [this, G.sc]
              have : swB g.sc scope y p vp = false := by simpa using hs
              rw [this]
            exact ts_asg (chkE_ok e _ X g G h3).pe (tg_var G.nd t1 t2 t3) hsw rfl rfl
        · rename_i es kk tp is
          simp only [Bool.and_eq_true] at h
          exact ts_asg (chkE_ok e _ X g G h.2).pe ((G.tg h.1).2 rfl) rfl rfl rfl
        · cases h
      · simp only [Bool.and_eq_true, Bool.not_eq_true'] at h
        obtain ⟨⟨h1, h2⟩, h3⟩ := h
        split at h3
        · rw [Bool.and_eq_true] at h3
          exact ts_asg (chkE_ok e _ X g G h3.2).pe (G.target (t := .var _) h3.1).1 (swaps_not h1) (stores_not h2) (assign1 h3.1)
        · rw [Bool.and_eq_true] at h3
          exact ts_asg (chkE_ok e _ X g G h3.2).pe (G.target (t := .tup _) h3.1).1 (swaps_not h1) (stores_not h2) (assign1 h3.1)
        · cases h3
    · cases h
  | .aug t o e, st, G, h => by
    simp only [chkS] at h
    split at h
    · split at h
      · simp only [Bool.and_eq_true] at h
        obtain ⟨t1, t2, t3⟩ := G.tgt h.1.1
        obtain ⟨r, h1, h2⟩ := aug_any (X := X) (Γ := gm X cA fl) h.1.2
        exact ts_aug G.nd t1 t2 t3 (chkE_ok e _ X g G h.2).pe h1 h2
      · cases h
    · cases h
  | .ex e, st, G, h => by
    simp only [chkS] at h
    split at h
    · simp only [Bool.and_eq_true] at h
      exact ts_ex (chkE_ok e _ X g G h.2).pe (swaps_not h.1)
    · cases h
  | .mut kp n p es, st, G, h => by
    simp only [chkS] at h
    split at h
    · split at h
      · rename_i x xp nm ap y ys cp pos pp i
        simp only [Bool.and_eq_true, Bool.or_eq_true, decide_eq_true_eq] at h
        obtain ⟨⟨⟨⟨⟨h1, h2⟩, h3⟩, h4⟩, h5⟩, h6⟩ := h
        subst h3
        obtain ⟨v1, v2, v3, v4⟩ := G.var h1
        obtain ⟨s1, s2⟩ := chkL_stars h6
        have s0 := s1
        unfold noStars at s1
        rw [List.all_cons, Bool.and_eq_true] at s1
        have ha := chkL_ok (A := A) es _ X g G h6 false false fun z => z
        have hfew : ((backTo cp (starEach (y :: ys) X.env)).all (fun x => !x.1) && (backToKw cp (keywordEach [] X.env)).all (fun x => x.1.isSome) && decide ((y :: ys).length + ([] : List Keyword).length + (if ([] : List Keyword).isEmpty then 0 else 1) < 30)) = true := by
          rw [stars_all s0]
          show (true && true && _) = true
          exact h5
        rcases h2 with rfl | rfl
        · exact ts_mutV v1 v2 v3 v4 PySem.F.slot_list_append PySem.F.type_list_append mt_append (by decide) ha (fun Γ N S H l vs ds xs us F1 F0 q d' Q hK hl rx rd hm kk n1 => mr_append (X := X) Γ N S H l vs ds xs us F1 F0 q d' Q hK hl rx rd hm kk n1) rfl hfew h4 (star_of s1.1) (stars_any s1.2) rfl
        · exact ts_mutV v1 v2 v3 v4 PySem.F.slot_list_extend PySem.F.type_list_extend mt_extend (by decide) ha (fun Γ N S H l vs ds xs us F1 F0 q d' Q hK hl rx rd hm kk n1 => mr_extend (X := X) Γ N S H l vs ds xs us F1 F0 q d' Q hK hl rx rd hm kk n1) rfl hfew h4 (star_of s1.1) (stars_any s1.2) rfl
      · cases h
    · cases h
  | .ret e, st, G, h => by
    simp only [chkS] at h
    split at h
    · exact ts_ret (chkE_ok e _ X g G h).pe
    · split at h
      · exact ts_retN
      · cases h
    · cases h
  | .ifS t a b, st, G, h => by
    simp only [chkS] at h
    split at h
    · simp only [Bool.and_eq_true] at h
      exact ts_if ((chkE_ok t _ X g G h.1.1.2).pt h.1.1.1 false true) (chkSs_ok a _ G h.1.2) (chkSs_ok b _ G h.2)
    · cases h
  | .forS t it body, st, G, h => by
    simp only [chkS] at h
    split at h
    · split at h
      · simp only [Bool.and_eq_true] at h
        obtain ⟨⟨⟨h1, h2⟩, h3⟩, h4⟩ := h
        obtain ⟨q1, q2⟩ := G.target (A := A) h3
        exact ts_for G.xe G.calm (chkI_ok it _ X g G h2 false _) q1 (chkSs_ok body _ G h4) (set_of h1) (q2 it body)
      · cases h
    · cases h
  | .whl t body, st, G, h => by
    simp only [chkS] at h
    split at h
    · split at h
      · simp only [Bool.and_eq_true] at h
        exact ts_while G.xe ((chkE_ok t _ X g G h.1.2).pt h.1.1 false true) (chkSs_ok body _ G h.2)
      · cases h
    · cases h
  | .brk, st, G, h => by
    simp only [chkS] at h
    split at h
    · exact ts_brk
    · cases h
  | .cnt, st, G, h => by
    simp only [chkS] at h
    split at h
    · exact ts_cnt
    · cases h
  | .pass, st, G, h => by
    simp only [chkS] at h
    split at h
    · exact ts_pass
    · exact ts_doc
    · cases h
  | .del _ _, _, _, h => by simp [chkS] at h
  | .raise _ _, _, _, h => by simp [chkS] at h
  | .tryS _ _ _ _, _, _, h => by simp [chkS] at h
theorem chkSs_ok : ∀ (is : List Lz.S) (st : List Stmt), Good X cA fl c g k → chkSs g is st = true → PSs X st (TSsv (gm X cA fl) A c is)
  | [], st, G, h => by
    simp only [chkSs] at h
    have : st = [] := by simpa using h
    subst this
    exact tss_nil
  | a :: as, st, G, h => by
    simp only [chkSs] at h
    split at h
    · rw [Bool.and_eq_true] at h
      exact tss_cons (chkS_ok a _ G h.1) (chkSs_ok as _ G h.2)
    · cases h
end
end
end Lz
end

section
set_option autoImplicit false
set_option maxRecDepth 100000
namespace Lz
open PySem PySem.Spec L2

/-- a def: its name, its text, its small form, the slots' names, the parameters -/
structure DefI where
  nm : String
  st : Stmt
  fn : Fn
  N : List Str
  ps : List Str
def progOf (ds : List DefI) : Prog := ⟨ds.map fun d => (d.nm, d.fn), [], []⟩
def cfgOf (ds : List DefI) (d : DefI) : Cfg := ⟨d.N, C8.fnScope d.st, fun _ => true, ds.map fun e => (e.nm, e.ps.length)⟩
def defOk (ds : List DefI) (d : DefI) : Bool := C8.scC d.N d.ps (C8.fnScope d.st) && decide (d.fn.np = d.ps.length) && decide (d.fn.ns = d.N.length) && chkSs (cfgOf ds d) d.fn.body (C8.fnBody d.st)
/-- a def as it stands behind the top -/
structure DefAt (K : PySem.W.Frag) (d : DefI) : Prop where
  ex : ∃ (f : Addr) (oc : Value) (od : Option Addr) (kV doc pm : Value) (an : Option Addr) (cd ct : Value) (sl : Array (Option Value)), PySem.W.nsIn K mainGlobals (Str.ofString d.nm) = some (some (.ref f)) ∧
    K.lookup f = some ⟨oc, od, .func (PySem.W.fnOf (Str.ofString d.nm) (Str.ofString d.nm) (C8.fnArgs d.st) (C8.fnBody d.st) (C8.fnScope d.st) .none kV doc pm an cd ct), sl⟩ ∧ PySem.W.codeIn K cd (Str.ofString d.nm) = true ∧ PySem.W.keepIn K (.ref f) = true
theorem DefAt.intro {K : PySem.W.Frag} {d : DefI} {x : Str} {st : Stmt} {f : Addr} {oc : Value} {od : Option Addr} {kV doc pm : Value} {an : Option Addr} {cd ct : Value} {sl : Array (Option Value)} (hx : x = Str.ofString d.nm) (hst : st = d.st) (a : PySem.W.nsIn K mainGlobals x = some (some (.ref f)))
    (l : K.lookup f = some ⟨oc, od, .func (PySem.W.fnOf x x (C8.fnArgs st) (C8.fnBody st) (C8.fnScope st) .none kV doc pm an cd ct), sl⟩) (c : PySem.W.codeIn K cd x = true) (k : PySem.W.keepIn K (.ref f) = true) : DefAt K d := by
  subst hx; subst hst
  exact ⟨f, oc, od, kV, doc, pm, an, cd, ct, sl, a, l, c, k⟩
/-- its parameters are bound one by one -/
def BindsD (d : DefI) : Prop := ∀ (kV doc pm : Value) (an : Option Addr) (cdv ct : Value) (us : List Value), us.length = d.ps.length → bindArgs (PySem.W.fnOf (Str.ofString d.nm) (Str.ofString d.nm) (C8.fnArgs d.st) (C8.fnBody d.st) (C8.fnScope d.st) .none kV doc pm an cdv ct) ⟨us, []⟩ = pure (d.ps.zip us)
/-- .. with its address -/
structure DefF (K : PySem.W.Frag) (mg : Str → Option Value) (d : DefI) (f : Addr) (fd : FuncData) : Prop where
  df : C8.Def K mg (Str.ofString d.nm) d.st f fd
  bd : Binds K fd d.ps []
section
variable {P : Program} {w : World} {K : PySem.W.Frag} {mg : Str → Option Value} {base h : Heap}
theorem DefAt.mk' (X : K.In h) (G : h.Ns mainGlobals mg) {d : DefI} (a : DefAt K d) (b : BindsD d) : ∃ f fd, DefF K mg d f fd := by
  obtain ⟨f, oc, od, kV, doc, pm, an, cd, ct, sl, h1, h2, h3, h4⟩ := a.ex
  have F : C8.Fun K (Str.ofString d.nm) (Str.ofString d.nm) d.st f (PySem.W.fnOf (Str.ofString d.nm) (Str.ofString d.nm) (C8.fnArgs d.st) (C8.fnBody d.st) (C8.fnScope d.st) .none kV doc pm an cd ct) := ⟨oc, od, .none, kV, doc, pm, an, cd, ct, sl, rfl, h2, h3⟩
  exact ⟨f, _, ⟨F, PySem.W.mg_of X G h1, h4⟩, F.binds rfl b⟩

theorem lookup_def {ds : List DefI} (hn : (ds.map DefI.nm).Nodup) {d : DefI} (hd : d ∈ ds) : (progOf ds).fns.lookup d.nm = some d.fn := by
  show (ds.map fun d => (d.nm, d.fn)).lookup d.nm = _
  induction ds with
  | nil => cases hd
  | cons e r ih =>
    rw [List.map_cons, List.nodup_cons] at hn
    rw [List.map_cons, List.lookup_cons]
    rcases List.mem_cons.mp hd with q | q
    · subst q
      simp
    · have : (d.nm == e.nm) = false := by
        simp only [beq_eq_false_iff_ne, ne_eq]
        intro z
        exact hn.1 (List.mem_map.mpr ⟨d, q, z⟩)
      rw [this]
      exact ih hn.2 q

theorem start_sr {Γ : Gm} {H : Hp} {S0 : Addr → Prop} {ds : List D} {vs : List V} {np ns : Nat} {N : List Str} (trk : ∀ a, S0 a → ∃ o, H a = some o) (r : RepL Γ (fun a => H a = none) S0 H ds vs []) (h1 : ds.length = np) (h2 : ns = N.length) :
    SR Γ ⟨fun a => H a = none, S0, H⟩ S0 (fun _ => []) (L2.start N vs) H (ds.map some ++ List.replicate (ns - np) none) where
  len := by
    unfold L2.start
    have := r.length
    simp only [List.length_append, List.length_map, List.length_replicate]
    omega
  rep := fun i d e => by
    by_cases hi : i < ds.length
    · rw [List.getElem?_append_left (by simpa using hi), List.getElem?_map] at e
      cases q : ds[i]? with
      | none => rw [q] at e; cases e
      | some d' =>
        rw [q] at e
        cases e
        obtain ⟨v, Fx, e1, rx, hs, _⟩ := r.get q
        have : Fx = [] := List.eq_nil_iff_forall_not_mem.mpr fun a z => nomatch hs a z
        subst this
        refine ⟨v, ?_, rx⟩
        unfold L2.start
        rw [List.getElem?_append_left (by rw [List.length_map, ← r.length]; exact hi), List.getElem?_map, e1]
        rfl
    · rw [List.getElem?_append_right (by simpa using hi), List.getElem?_replicate] at e
      split at e <;> cases e
  non := fun _ _ => rfl
  nd := fun _ => List.nodup_nil
  dis := fun _ _ _ z => nomatch z
  frz := fun _ _ z => nomatch z
  trk := trk
  new := fun _ z => z
  old := fun _ _ e _ => e
  s0 := fun _ z => .inl z

theorem fn_ok {cA : String → Option Addr} {fl : String → List String} {ds : List DefI} (fuel : Nat) (hn : (ds.map DefI.nm).Nodup) (hc : ∀ d ∈ ds, defOk ds d = true) (hF : ∀ d ∈ ds, ∃ f fd, DefF K mg d f fd) (hb : ∀ n ∈ btNames, mg (Str.ofString n) = none) (hA : ∀ k, cA k = none) :
    ∀ n, ∀ d ∈ ds, ∀ f fd, DefF K mg d f fd → FnOk P w K mg base C8.CX0 n f fd d.ps (SpCall ⟨P, w, K, mg, base, cA, fl⟩ (ctx (progOf ds) fuel n) d.nm d.ps.length)
  | 0, d, hd, f, fd, F => ⟨fun vs H Q E h => h.1, fun A outer s H args us vs Q E _ _ _ _ h => by
      obtain ⟨_, S0, xs, r, _, _, h1, _⟩ := h
      cases h1⟩
  | n + 1, d, hd, f, fd, F => by
    have ok := hc d hd
    unfold defOk at ok
    simp only [Bool.and_eq_true, decide_eq_true_eq] at ok
    obtain ⟨⟨⟨c1, c2⟩, c3⟩, c4⟩ := ok
    have sc := C8.fnScope_by c1
    refine C8.fn0 (k := n) F.df.fn sc (fun vs H Q E h => h.1) fun cdv A outer s H vs Q E hr h => ?_
    obtain ⟨hl, S0, xs, r, trk, rp, h1, q⟩ := h
    generalize hX : (cxOf C8.CX0 P w K mg base d.N (Str.ofString d.nm) (C8.fnScope d.st) f cdv A outer s H E).nox = X
    have hgm : gm X cA fl = ⟨P, w, K, mg, base, cA, fl⟩ := by rw [← hX]; rfl
    have G : Good X cA fl (ctx (progOf ds) fuel n) (cfgOf ds d) n := by
      rw [← hX]
      exact {
        hN := rfl
        nd := sc.nd
        sc := rfl
        fn := fun x _ => rfl
        calm := rfl
        xe := rfl
        room := hr
        bt := hb
        cls := hA
        fns := fun fn m hm => by
          obtain ⟨e, he, h2⟩ := List.mem_map.mp hm
          cases h2
          obtain ⟨fa, fd2, F2⟩ := hF e he
          exact ⟨fa, fd2, e.ps, fn_ok fuel hn hc hF hb hA n e he fa fd2 F2, F2.df.mgf, F2.df.kp, F2.bd⟩ }
    refine ⟨_, chkSs_ok (A := ⟨fun a => H a = none, S0, H⟩) d.fn.body _ G c4, ?_⟩
    rw [hgm]
    have h1' : (do let (r, _) ← runFn (ctx (progOf ds) fuel n) d.fn xs; .ok r : Ex D) = .ok r := by
      have : (ctx (progOf ds) fuel (n + 1)).call d.nm xs = (match (progOf ds).fns.lookup d.nm with
        | some fn => (do let (r, _) ← runFn (ctx (progOf ds) fuel n) fn xs; .ok r : Ex D)
        | none => stuck ("no def " ++ d.nm)) := rfl
      rw [this, lookup_def hn hd] at h1
      exact h1
    obtain ⟨⟨r1, envE⟩, h2, h3⟩ := bok h1'
    cases h3
    unfold runFn at h2
    split at h2
    · rename_i hlen
      obtain ⟨⟨flw, envF⟩, h4, h5⟩ := bok h2
      refine ⟨S0, fun _ => [], _, flw, envF, start_sr trk rp hlen c3, h4, fun S' Fs' σ' H' s' c' m' => ?_⟩
      have back : ∀ {v : V} {F : List Addr} {dd : D}, Ret ⟨P, w, K, mg, base, cA, fl⟩ ⟨fun a => H a = none, S0, H⟩ S' Fs' H' dd v F → Back ⟨P, w, K, mg, base, cA, fl⟩ (fun a => H a = none) S0 H dd H' S' v F := fun {v F dd} rt => {
        old := fun a o e z => s'.old a o e z
        there := c'.there
        rep := rt.rep
        nd := rt.fr.1
        fr := fun a z => ⟨(rt.fr.2 a z).1, (rt.fr.2 a z).2.1, (rt.fr.2 a z).2.2.2⟩
        sub := c'.sub
        sup := fun a z => by
          rcases c'.sup a z with z | z | ⟨_, _, z⟩
          · exact .inl z
          · exact .inr z
          · cases z
        trk := s'.trk }
      cases flw with
      | nx =>
        cases h5
        exact q H' S' .non [] (back ⟨.non, Free.nil⟩)
      | ret dd =>
        cases h5
        exact fun v F rt => q H' S' v F (back rt)
      | brk => cases h5
      | cnt => cases h5
    · cases h2
end
end Lz
end

section
set_option autoImplicit false
set_option maxRecDepth 100000
namespace Lz
open PySem PySem.Spec L2

theorem RepL.ints {Γ : Gm} {N S : Addr → Prop} {H : Hp} : ∀ ns : List Int, RepL Γ N S H (ns.map D.int) (ns.map V.int) []
  | [] => .nil
  | n :: ns => .cons (F := []) (.int n) (RepL.ints ns)
theorem SqK.of {K : PySem.W.Frag} {H : Hp} {a : Addr} {xs : List V} (hO : L2.Only H) (h : SqL K H a xs) : SqK K H a xs := by
  rcases h with (h | ⟨o, h⟩) | h
  · rcases hO a with e | ⟨o, ys, e⟩
    · rw [h] at e; cases e
    · rw [h] at e; cases e
  · exact .inl ⟨o, h⟩
  · exact .inr h

theorem walkL {l : PySem.W.OpenLaw} {q : Program} {loose : List Str} {XP : (Str → Option Value) → Heap → Prop} {YP : World → Heap → Prop} {d : DefRec} {K : Params → PySem.W.Frag} (ds : List DefI) (dl : DefI) (fuel n : Nat) (hn : l.most = some 63) (hdf : d.params.defaults = []) (hname : d.name = "law")
    (hY : ∀ (w : World) (h : Heap), YP w h → (K w.params).In h) (hdl : dl ∈ ds) (hl1 : dl.nm = "law") (hl2 : dl.ps = [("script" : Str)]) (hnd : (ds.map DefI.nm).Nodup) (hok : ∀ d ∈ ds, defOk ds d = true) (hbd : ∀ d ∈ ds, BindsD d) (hr : Room (n + 1) callerA)
    (hlaw : ∀ script : List Int, script.length ≤ 63 → runLaw (progOf ds) fuel n script = .ok (.bl true))
    (F : ∀ (w : World) (mg : Str → Option Value) (fa : Addr) (h : Heap), (K w.params).In h → h.Ns mainGlobals mg → mg d.name = some (.ref fa) → (∀ d ∈ ds, DefAt (K w.params) d) ∧ ∀ n ∈ btNames, PySem.W.nsIn (K w.params) mainGlobals (Str.ofString n) = some none) :
    PySem.W.WalkO q loose XP YP l.row.toRowW d [] (fun f vs => PySem.call f vs) := by
  refine L2.walk_of (n := 63) (k := n + 1) (x := "script") (CX := fun _ => C8.CX0) (sp := fun w vs H Q E => ∃ (mg : Str → Option Value) (base : Heap), True ∧ ∀ mg base, SpCall ⟨l.prog, w, K w.params, mg, base, fun _ => none, fun _ => []⟩ (ctx (progOf ds) fuel (n + 1)) "law" 1 vs H Q E)
    hn (by rw [sizeLine_eq]; decide) hdf hr hY ?_ ?_ fun _ _ _ _ _ z => z
  · intro w mg fa h KX G hmg
    obtain ⟨f1, f2⟩ := F w mg fa h KX G hmg
    have hF : ∀ d ∈ ds, ∃ f fd, DefF (K w.params) mg d f fd := fun d hd => (f1 d hd).mk' KX G (hbd d hd)
    have hb : ∀ n ∈ btNames, mg (Str.ofString n) = none := fun n hn => PySem.W.mg_none_of KX G (f2 n hn)
    obtain ⟨f, fd, D1⟩ := hF dl hdl
    have e : f = fa := by
      have e1 := D1.df.mgf
      rw [hl1] at e1
      rw [hname] at hmg
      have e2 := e1.symm.trans hmg
      cases e2
      rfl
    subst e
    refine ⟨fd, fun s u => ?_, fun base h1 h2 => ?_⟩
    · obtain ⟨oc, od, dV, kV, doc, pm, an, cdv, ct, osl, e1, e2, e3⟩ := D1.df.fn.ex
      obtain ⟨f', oc', od', kV', doc', pm', an', cd', ct', sl', g1, g2, g3, g4⟩ := (f1 dl hdl).ex
      have e4 : f' = f := by
        have e5 := PySem.W.mg_of KX G g1
        have e6 := e5.symm.trans D1.df.mgf
        cases e6
        rfl
      subst e4
      have e7 := e2.symm.trans g2
      have e8 : fd = PySem.W.fnOf (Str.ofString dl.nm) (Str.ofString dl.nm) (C8.fnArgs dl.st) (C8.fnBody dl.st) (C8.fnScope dl.st) .none kV' doc' pm' an' cd' ct' := by
        have e9 := Option.some.inj e7
        exact Data.func.inj (congrArg Obj.data e9)
      rw [e8]
      have b := hbd dl hdl kV' doc' pm' an' cd' ct' [u] (by rw [hl2]; rfl)
      rw [hl2] at b
      exact .of_eq b
    · have ok := fn_ok (P := l.prog) (w := w) (base := base) (cA := fun _ => none) (fl := fun _ => []) fuel hnd hok hF hb (fun _ => rfl) (n + 1) dl hdl f fd D1
      rw [hl1, hl2] at ok
      exact ok.imp fun vs H Q E ⟨_, _, _, z⟩ => z mg base
  · intro w H a ns hl hO hS
    refine ⟨fun _ => none, {}, trivial, fun mg base => ⟨rfl, fun _ => False, [.lst .k (ns.map D.int)], .bl true, fun _ z => z.elim, ?_, hlaw ns hl, fun H' S' v F b => ?_⟩⟩
    · exact .cons (F := []) (.lstK (SqK.of hO hS) (RepL.ints ns)) .nil
    · have r := b.rep
      cases r
      rfl
end Lz
end

section
namespace Lz
/-! Plain reckoning with the small form: no library here. -/
theorem call_def (fuel n : Nat) {ds : List DefI} (hn : (ds.map DefI.nm).Nodup) {d : DefI} (hd : d ∈ ds) (xs : List D) : (ctx (progOf ds) fuel (n + 1)).call d.nm xs = (runFn (ctx (progOf ds) fuel n) d.fn xs).map (·.1) := by
  have : (ctx (progOf ds) fuel (n + 1)).call d.nm xs = (match (progOf ds).fns.lookup d.nm with
    | some fn => (do let (r, _) ← runFn (ctx (progOf ds) fuel n) fn xs; .ok r : Ex D)
    | none => stuck ("no def " ++ d.nm)) := rfl
  rw [this, lookup_def hn hd]
  show (do let (r, _) ← runFn (ctx (progOf ds) fuel n) d.fn xs; .ok r : Ex D) = _
  cases runFn (ctx (progOf ds) fuel n) d.fn xs <;> rfl
/-- what a run of a body gives -/
def outOf (r : Ex (Fl × Env)) : Ex D := match r with
  | .ok (.ret d, _) => .ok d
  | .ok (.nx, _) => .ok .non
  | .ok _ => stuck "flow"
  | .error e => .error e
theorem runFn_out (c : Ctx) (f : Fn) (xs : List D) (h : xs.length = f.np) : (runFn c f xs).map (·.1) = outOf (execs c f.body (xs.map some ++ List.replicate (f.ns - f.np) none)) := by
  unfold runFn
  rw [if_pos h]
  cases execs c f.body (xs.map some ++ List.replicate (f.ns - f.np) none) with
  | error e => rfl
  | ok p =>
    obtain ⟨fl, env⟩ := p
    cases fl <;> rfl
/-- binding, plain -/
theorem bk {α β : Type} (a : α) (f : α → Ex β) : ((Except.ok a : Ex α) >>= f) = f a := rfl
theorem bkE {α β : Type} (e : Err) (f : α → Ex β) : ((Except.error e : Ex α) >>= f) = .error e := rfl
end Lz
end

section
namespace Lz
/-! loops, plain -/
theorem stands_nil (env : Env) : stands [] env = true := rfl
theorem forLoop_iter {w : Watch} {step : D → Env → Ex (Fl × Env)} (I : Nat → Env → Prop) : ∀ (xs : List D) (k : Nat) (env : Env), I k env → (∀ i env, I i env → stands w env = true) → (∀ i x env, xs[i]? = some x → I (k + i) env → ∃ env', step x env = .ok (.nx, env') ∧ I (k + i + 1) env') → ∃ env', forLoop w step xs env = .ok (.nx, env') ∧ I (k + xs.length) env'
  | [], k, env, h0, hs, _ => by
    refine ⟨env, ?_, h0⟩
    rw [forLoop, if_pos (hs _ _ h0)]
  | x :: xs, k, env, h0, hs, h => by
    obtain ⟨e1, h1, h2⟩ := h 0 x env rfl h0
    rw [forLoop, hs _ _ h0]
    simp only [Bool.not_true, Bool.false_eq_true, if_false, h1, bk]
    obtain ⟨e2, h3, h4⟩ := forLoop_iter I xs (k + 1) e1 h2 hs fun i y env hy hI => by
      have := h (i + 1) y env (by simpa using hy) (by rw [show k + (i + 1) = k + 1 + i by omega]; exact hI)
      rwa [show k + (i + 1) + 1 = k + 1 + i + 1 by omega] at this
    exact ⟨e2, h3, by rw [List.length_cons, show k + (xs.length + 1) = k + 1 + xs.length by omega]; exact h4⟩
/-- a loop that is left at turn m -/
theorem forLoop_ret {w : Watch} {step : D → Env → Ex (Fl × Env)} (I : Nat → Env → Prop) {d : D} : ∀ (xs : List D) (k m : Nat) (env : Env), I k env → (∀ i env, I i env → stands w env = true) → (∀ i x env, i < m → xs[i]? = some x → I (k + i) env → ∃ env', step x env = .ok (.nx, env') ∧ I (k + i + 1) env') →
    (∃ x, xs[m]? = some x ∧ ∀ env, I (k + m) env → ∃ env', step x env = .ok (.ret d, env')) → ∃ env', forLoop w step xs env = .ok (.ret d, env')
  | [], k, m, env, _, _, _, ⟨x, hx, _⟩ => by simp at hx
  | x :: xs, k, 0, env, h0, hs, _, ⟨y, hy, hr⟩ => by
    have e : x = y := by simpa using hy
    subst e
    obtain ⟨e1, h1⟩ := hr env h0
    rw [forLoop, hs _ _ h0]
    simp only [Bool.not_true, Bool.false_eq_true, if_false, h1, bk]
    exact ⟨e1, rfl⟩
  | x :: xs, k, m + 1, env, h0, hs, h, ⟨y, hy, hr⟩ => by
    obtain ⟨e1, h1, h2⟩ := h 0 x env (by omega) rfl h0
    rw [forLoop, hs _ _ h0]
    simp only [Bool.not_true, Bool.false_eq_true, if_false, h1, bk]
    exact forLoop_ret I xs (k + 1) m e1 h2 hs (fun i y env hi hy hI => by
      have := h (i + 1) y env (by omega) (by simpa using hy) (by rw [show k + (i + 1) = k + 1 + i by omega]; exact hI)
      rwa [show k + (i + 1) + 1 = k + 1 + i + 1 by omega] at this) ⟨y, by simpa using hy, fun env hI => hr env (by rw [show k + (m + 1) = k + 1 + m by omega]; exact hI)⟩
theorem compLoop_map {step : D → Env → Ex (Option D × Env)} {e0 : Env} {g : D → Option D} : ∀ {xs : List D}, (∀ x ∈ xs, step x e0 = .ok (g x, e0)) → compLoop [] step xs e0 = .ok (xs.filterMap g, e0)
  | [], _ => rfl
  | x :: xs, h => by
    rw [compLoop]
    simp only [stands_nil, Bool.not_true, Bool.false_eq_true, if_false, h x List.mem_cons_self, bk, compLoop_map fun y hy => h y (List.mem_cons_of_mem _ hy)]
    cases hg : g x with
    | none => rw [List.filterMap_cons_none hg]
    | some d => rw [List.filterMap_cons_some hg]
theorem whileLoop_iter {test : Env → Ex (Bool × Env)} {step : Env → Ex (Fl × Env)} (I : Nat → Env → Prop) : ∀ (m fuel : Nat) (env : Env), I m env → m < fuel → (∀ i env, I (i + 1) env → ∃ e1 e2, test env = .ok (true, e1) ∧ step e1 = .ok (.nx, e2) ∧ I i e2) → (∀ env, I 0 env → ∃ e1, test env = .ok (false, e1) ∧ I 0 e1) → ∃ env', whileLoop test step fuel env = .ok (.nx, env') ∧ I 0 env'
  | _, 0, _, _, h, _, _ => by omega
  | 0, f + 1, env, h0, _, _, he => by
    obtain ⟨e1, h1, h2⟩ := he env h0
    refine ⟨e1, ?_, h2⟩
    rw [whileLoop, h1]
    rfl
  | m + 1, f + 1, env, h0, hm, hs, he => by
    obtain ⟨e1, e2, h1, h2, h3⟩ := hs m env h0
    obtain ⟨e3, h4, h5⟩ := whileLoop_iter I m f e2 h3 (by omega) hs he
    refine ⟨e3, ?_, h5⟩
    rw [whileLoop, h1]
    simp only [bk, if_true, h2]
    exact h4
end Lz
end

section
namespace Lz
/-! rows of whole numbers, and pairs of them -/
abbrev T (xs : List Int) : D := .tup (xs.map .int)
abbrev La (b l : List Int) : D := .tup [T b, T l]
theorem eqL_ints : ∀ a b : List Int, eqL (a.map D.int) (b.map D.int) = decide (a = b)
  | [], [] => by simp [eqL]
  | [], _ :: _ => by simp [eqL]
  | _ :: _, [] => by simp [eqL]
  | x :: a, y :: b => by
    simp only [List.map_cons, eqL, D.eq, eqL_ints a b]
    by_cases h : x = y <;> simp [h]
theorem eq_T (a b : List Int) : D.eq (T a) (T b) = decide (a = b) := by
  unfold T
  rw [D.eq, eqL_ints]
theorem eq_La (a b c d : List Int) : D.eq (La a b) (La c d) = decide (a = c ∧ b = d) := by
  unfold La
  rw [D.eq, eqL, eqL, eqL, eq_T, eq_T]
  by_cases h1 : a = c <;> by_cases h2 : b = d <;> simp [h1, h2]
theorem flatN_T (n : Nat) (xs : List Int) : flatN (n + 1) (T xs) = true := by
  unfold T
  rw [flatN]
  simp only [List.all_map, List.all_eq_true]
  intro x _
  cases n <;> rfl
theorem flat_T (xs : List Int) : D.flat (T xs) = true := flatN_T 59 xs
theorem flat_il (f : Fg) (xs : List Int) : D.flat (.lst f (xs.map .int)) = true := by
  show flatN (59 + 1) _ = true
  rw [flatN]
  simp only [List.all_map, List.all_eq_true]
  intro x _
  rfl
theorem flat_La (a b : List Int) : D.flat (La a b) = true := by
  show flatN (59 + 1) _ = true
  rw [flatN]
  simp only [List.all_cons, List.all_nil, Bool.and_true, Bool.and_eq_true]
  exact ⟨flatN_T 58 a, flatN_T 58 b⟩
theorem eq_lst (f g : Fg) (a b : List Int) : D.eq (.lst f (a.map .int)) (.lst g (b.map .int)) = decide (a = b) := by
  rw [D.eq, eqL_ints]
theorem own_ints (xs : List Int) : (xs.map D.int).any D.own = false := by
  simp [List.any_map, D.own]
theorem share_ints : ∀ xs : List Int, shareL (xs.map D.int) = xs.map D.int
  | [] => by simp [shareL, flL]
  | x :: xs => by
    have := share_ints xs
    unfold shareL at this ⊢
    simp only [List.map_cons, flL, D.fl, this]
theorem lend_ints : ∀ xs : List Int, lendL (xs.map D.int) = xs.map D.int
  | [] => by simp [lendL, flL]
  | x :: xs => by
    have := lend_ints xs
    unfold lendL at this ⊢
    simp only [List.map_cons, flL, D.fl, this]
theorem fl_ints (m : Fg → Fg) : ∀ xs : List Int, flL m (xs.map D.int) = xs.map D.int
  | [] => by simp [flL]
  | x :: xs => by simp only [List.map_cons, flL, D.fl, fl_ints m xs]
theorem fl_T (m : Fg → Fg) (xs : List Int) : (T xs).fl m = T xs := by
  unfold T
  rw [D.fl, fl_ints]
theorem fl_La (m : Fg → Fg) (a b : List Int) : (La a b).fl m = La a b := by
  unfold La
  rw [D.fl, flL, flL, flL, fl_T, fl_T]
theorem cut_map {α β : Type} (f : α → β) (xs : List α) (lo hi : Option Int) : cut (xs.map f) lo hi = (cut xs lo hi).map f := by
  unfold cut
  simp only [List.length_map, List.map_take, List.map_drop]
theorem sIx_n (n d i : Nat) : sIx n d (some (i : Int)) = min i n := by
  unfold sIx
  dsimp only
  rw [if_neg (by omega), Int.toNat_natCast]
theorem sIx_0 (n d : Nat) : sIx n d none = d := rfl
theorem sIx_m (n d : Nat) : sIx n d (some (-1)) = n - 1 := by
  unfold sIx
  dsimp only
  rw [if_pos (by omega)]
  omega
theorem cut_from {α : Type} (xs : List α) (i : Nat) : cut xs (some (i : Int)) none = xs.drop i := by
  unfold cut
  rw [sIx_n, sIx_0]
  rcases Nat.le_total i xs.length with q | q
  · rw [Nat.min_eq_left q, List.take_of_length_le (by simp)]
  · rw [Nat.min_eq_right q, List.drop_length, List.drop_eq_nil_of_le q, List.take_nil]
theorem cut_to {α : Type} (xs : List α) (i : Nat) : cut xs none (some (i : Int)) = xs.take i := by
  unfold cut
  rw [sIx_n, sIx_0, List.drop_zero, Nat.sub_zero]
  rcases Nat.le_total i xs.length with q | q
  · rw [Nat.min_eq_left q]
  · rw [Nat.min_eq_right q, List.take_length, List.take_of_length_le q]
theorem cut_part {α : Type} (xs : List α) (i j : Nat) : cut xs (some (i : Int)) (some (j : Int)) = (xs.drop i).take (j - i) := by
  unfold cut
  rw [sIx_n, sIx_n]
  rcases Nat.le_total i xs.length with q | q
  · rw [Nat.min_eq_left q]
    rcases Nat.le_total j xs.length with q2 | q2
    · rw [Nat.min_eq_left q2]
    · rw [Nat.min_eq_right q2]
      rw [List.take_of_length_le (by simp), List.take_of_length_le (by simp; omega)]
  · rw [Nat.min_eq_right q, List.drop_length, List.drop_eq_nil_of_le q, List.take_nil, List.take_nil]
theorem cut_init {α : Type} (xs : List α) : cut xs none (some (-1)) = xs.dropLast := by
  unfold cut
  rw [sIx_m, sIx_0, List.drop_zero, Nat.sub_zero, List.dropLast_eq_take]
theorem cut_last {α : Type} (xs : List α) : cut xs (some (-1)) none = xs.drop (xs.length - 1) := by
  unfold cut
  rw [sIx_m, sIx_0, List.take_of_length_le (by simp)]
theorem ixN_nat {n i : Nat} (h : i < n) : ixN n (i : Int) = some i := by
  unfold ixN
  rw [if_pos (by omega), if_pos (by omega), Int.toNat_natCast]
theorem ixN_last {n : Nat} (h : 0 < n) : ixN n (-1) = some (n - 1) := by
  unfold ixN
  rw [if_neg (by omega), if_pos (by omega)]
  congr 1
  omega
theorem item_T {xs : List Int} {i : Nat} {x : Int} (h : xs[i]? = some x) : item (T xs) (.int (i : Int)) = .ok (.int x) := by
  have hi := (List.getElem?_eq_some_iff.mp h).1
  unfold T item
  simp only [List.length_map, ixN_nat hi, List.getElem?_map, h, Option.map_some]
theorem item_last {xs : List Int} {x : Int} (h : xs.getLast? = some x) : item (T xs) (.int (-1)) = .ok (.int x) := by
  have hl : 0 < xs.length := by
    cases xs with
    | nil => simp at h
    | cons a r => simp
  unfold T item
  rw [List.getLast?_eq_getElem?] at h
  simp only [List.length_map, ixN_last hl, List.getElem?_map, h, Option.map_some]
theorem len_T (xs : List Int) : builtin "len" [T xs] = .ok (.int xs.length) := by
  unfold T builtin
  simp
theorem len_L (f : Fg) (xs : List D) : builtin "len" [.lst f xs] = .ok (.int xs.length) := by
  unfold builtin
  simp
theorem own_T (xs : List Int) : (T xs).own = false := Eq.trans rfl rfl
theorem own_La (a b : List Int) : (La a b).own = false := Eq.trans rfl rfl
theorem settle_flat {ro : Bool} {es : List E} {ds : List D} {r : D} {env : Env} (h : ds.all (fun d => !d.own) = true) : settle ro es ds r env = .ok (r, env) := by
  have : ownRoots es ds = [] := by
    induction es generalizing ds with
    | nil => cases ds <;> rfl
    | cons e es ih =>
      cases ds with
      | nil => rfl
      | cons d ds =>
        simp only [List.all_cons, Bool.and_eq_true, Bool.not_eq_true'] at h
        unfold ownRoots
        rw [h.1, Bool.and_false, if_neg Bool.false_ne_true]
        exact ih h.2
  unfold settle
  rw [this]
theorem bin_add (i j : Int) : binop .add (.int i) (.int j) = .ok (.int (i + j)) := rfl
theorem bin_sub (i j : Int) : binop .sub (.int i) (.int j) = .ok (.int (i - j)) := rfl
theorem bin_mod {i j : Int} (h : j ≠ 0) : binop .mod (.int i) (.int j) = .ok (.int (i.fmod j)) := by
  show (if j ≠ 0 then _ else _) = _
  rw [if_pos h]
theorem bin_fdiv {i j : Int} (h : j ≠ 0) (h2 : j.natAbs < 1073741824) : binop .fdiv (.int i) (.int j) = .ok (.int (i.fdiv j)) := by
  show (if j ≠ 0 ∧ j.natAbs < 1073741824 then _ else _) = _
  rw [if_pos ⟨h, h2⟩]
theorem bin_mul {i j : Int} (h : (isSmall i || isSmall j) = true) : binop .mul (.int i) (.int j) = .ok (.int (i * j)) := by
  show (if (isSmall i || isSmall j) = true then _ else _) = _
  rw [if_pos h]
theorem bin_cat {a b : List Int} (h : a.length + b.length ≤ line) : binop .add (T a) (T b) = .ok (T (a ++ b)) := by
  show (if (a.map D.int).length + (b.map D.int).length ≤ line then _ else _) = _
  rw [if_pos (by simpa using h), ← List.map_append]
theorem take_flat {ro pk : Bool} {e : E} {x : D} {env : Env} (h : x.own = false) : take ro pk e x env = .ok (x, env) := by
  unfold take
  by_cases h1 : (pk && isPath e) = true
  · rw [if_pos h1]
  · rw [if_neg h1, h]
    rfl
theorem ev_var {c : Ctx} {ro pk : Bool} {i : Nat} {env : Env} {d : D} (h : env[i]? = some (some d)) (ho : d.own = false) : ev c ro pk (.var i) env = .ok (d, env) := by
  rw [ev]
  unfold getS
  rw [h]
  show (if (pk || !d.own) = true then _ else _) = _
  rw [ho, if_pos (by simp)]
theorem ev_varP {c : Ctx} {ro : Bool} {i : Nat} {env : Env} {d : D} (h : env[i]? = some (some d)) : ev c ro true (.var i) env = .ok (d, env) := by
  rw [ev]
  unfold getS
  rw [h]
  rfl
theorem bind_one {i : Nat} {d : D} {env : Env} (h : i < env.length) : bindOne [i] true d env = .ok (env.set i (some d)) := by
  show (if i < env.length then _ else _) = _
  rw [if_pos h]
theorem tru_bl (b : Bool) : truth (.bl b) = .ok b := rfl
theorem cmp_lt (c : Ctx) (i j : Int) : cmpD c .lt (.int i) (.int j) = .ok (decide (i < j)) := rfl
theorem cmp_le (c : Ctx) (i j : Int) : cmpD c .le (.int i) (.int j) = .ok (decide (i ≤ j)) := rfl
theorem cmp_gt (c : Ctx) (i j : Int) : cmpD c .gt (.int i) (.int j) = .ok (decide (j < i)) := rfl
theorem cmp_ge (c : Ctx) (i j : Int) : cmpD c .ge (.int i) (.int j) = .ok (decide (j ≤ i)) := rfl
theorem cmp_eqI (c : Ctx) (i j : Int) : cmpD c .eq (.int i) (.int j) = .ok (decide (i = j)) := rfl
theorem cmp_neI (c : Ctx) (i j : Int) : cmpD c .ne (.int i) (.int j) = .ok (!decide (i = j)) := rfl
theorem cmp_eqT (c : Ctx) (a b : List Int) : cmpD c .eq (T a) (T b) = .ok (decide (a = b)) := by
  show (if ((T a).flat && (T b).flat) = true then Except.ok (D.eq (T a) (T b)) else _) = _
  rw [flat_T, flat_T, if_pos (by rfl), eq_T]
theorem cmp_neT (c : Ctx) (a b : List Int) : cmpD c .ne (T a) (T b) = .ok (!decide (a = b)) := by
  show (if ((T a).flat && (T b).flat) = true then Except.ok (!D.eq (T a) (T b)) else _) = _
  rw [flat_T, flat_T, if_pos (by rfl), eq_T]
theorem cmp_eqLa (c : Ctx) (a b a' b' : List Int) : cmpD c .eq (La a b) (La a' b') = .ok (decide (a = a' ∧ b = b')) := by
  show (if ((La a b).flat && (La a' b').flat) = true then Except.ok (D.eq (La a b) (La a' b')) else _) = _
  rw [flat_La, flat_La, if_pos (by rfl), eq_La]
theorem cmp_neLa (c : Ctx) (a b a' b' : List Int) : cmpD c .ne (La a b) (La a' b') = .ok (!decide (a = a' ∧ b = b')) := by
  show (if ((La a b).flat && (La a' b').flat) = true then Except.ok (!D.eq (La a b) (La a' b')) else _) = _
  rw [flat_La, flat_La, if_pos (by rfl), eq_La]
theorem cmp_eqLs (c : Ctx) (f g : Fg) (a b : List Int) : cmpD c .eq (.lst f (a.map .int)) (.lst g (b.map .int)) = .ok (decide (a = b)) := by
  show (if ((D.lst f (a.map .int)).flat && (D.lst g (b.map .int)).flat) = true then Except.ok (D.eq (.lst f (a.map .int)) (.lst g (b.map .int))) else _) = _
  rw [flat_il, flat_il, if_pos (by rfl), eq_lst]
/-- a tuple of ints, cut -/
theorem slc_T (xs : List Int) (lo hi : Option Int) : cut (xs.map D.int) lo hi = (cut xs lo hi).map D.int := cut_map D.int xs lo hi
theorem int_I (i : Int) : builtin "int" [.int i] = .ok (.int i) := rfl
theorem tup_L (f : Fg) (xs : List Int) : builtin "tuple" [.lst f (xs.map .int)] = .ok (T xs) := by
  show (if (xs.map D.int).any D.own = true then _ else _) = _
  rw [own_ints, if_neg Bool.false_ne_true]
theorem tup_T (xs : List Int) : builtin "tuple" [T xs] = .ok (T xs) := rfl
end Lz
end

section
set_option autoImplicit false
namespace Lz
/-! the runs, a frame at a time: no function waits in them -/
section
variable (c : Ctx) (ro pk : Bool)
def kVal (env : Env) (r : Ex D) : Ex (D × Env) := match r with
  | .ok d => .ok (d, env)
  | .error e => .error e
theorem kVal_ok {env : Env} {d : D} : kVal env (.ok d) = .ok (d, env) := rfl
def kBl (env : Env) (r : Ex Bool) : Ex (D × Env) := match r with
  | .ok d => .ok (.bl d, env)
  | .error e => .error e
theorem kBl_ok {env : Env} {b : Bool} : kBl env (.ok b) = .ok (.bl b, env) := rfl
theorem lit_ {d : D} {env : Env} : ev c ro pk (.lit d) env = .ok (d, env) := by rw [ev]
-- a op b
def kBin2 (o : Op) (x : D) (r : Ex (D × Env)) : Ex (D × Env) := match r with
  | .ok (y, e2) => kVal e2 (binop o x y)
  | .error e => .error e
def kBin1 (o : Op) (b : E) (r : Ex (D × Env)) : Ex (D × Env) := match r with
  | .ok (x, e1) => kBin2 o x (ev c (ro || roE b) (roE b) b e1)
  | .error e => .error e
theorem kBin2_ok {o : Op} {x y : D} {e : Env} : kBin2 o x (.ok (y, e)) = kVal e (binop o x y) := rfl
theorem kBin1_ok {o : Op} {b : E} {x : D} {e : Env} : kBin1 c ro o b (.ok (x, e)) = kBin2 o x (ev c (ro || roE b) (roE b) b e) := rfl
theorem bin_ {o : Op} {a b : E} {env : Env} : ev c ro pk (.bin o a b) env = kBin1 c ro o b (ev c ro (roE b) a env) := by
  rw [ev]
  cases h1 : ev c ro (roE b) a env with
  | error e => rfl
  | ok p =>
    obtain ⟨x, e1⟩ := p
    show (do let (y, env2) ← ev c (ro || roE b) (roE b) b e1; let r ← binop o x y; .ok (r, env2) : Ex (D × Env)) = kBin2 o x (ev c (ro || roE b) (roE b) b e1)
    cases h2 : ev c (ro || roE b) (roE b) b e1 with
    | error e => rfl
    | ok p =>
      obtain ⟨y, e2⟩ := p
      show (do let r ← binop o x y; .ok (r, e2) : Ex (D × Env)) = kVal e2 (binop o x y)
      cases binop o x y <;> rfl
-- a ~ b
def kCmp2 (o : Cm) (x : D) (r : Ex (D × Env)) : Ex (D × Env) := match r with
  | .ok (y, e2) => kBl e2 (cmpD c o x y)
  | .error e => .error e
def kCmp1 (o : Cm) (b : E) (r : Ex (D × Env)) : Ex (D × Env) := match r with
  | .ok (x, e1) => kCmp2 c o x (ev c (ro || roE b) (roE b) b e1)
  | .error e => .error e
theorem kCmp2_ok {o : Cm} {x y : D} {e : Env} : kCmp2 c o x (.ok (y, e)) = kBl e (cmpD c o x y) := rfl
theorem kCmp1_ok {o : Cm} {b : E} {x : D} {e : Env} : kCmp1 c ro o b (.ok (x, e)) = kCmp2 c o x (ev c (ro || roE b) (roE b) b e) := rfl
theorem cmp_ {o : Cm} {a b : E} {env : Env} : ev c ro pk (.cmp o a b) env = kCmp1 c ro o b (ev c ro (roE b) a env) := by
  rw [ev]
  cases h1 : ev c ro (roE b) a env with
  | error e => rfl
  | ok p =>
    obtain ⟨x, e1⟩ := p
    show (do let (y, env2) ← ev c (ro || roE b) (roE b) b e1; let r ← cmpD c o x y; .ok (.bl r, env2) : Ex (D × Env)) = kCmp2 c o x (ev c (ro || roE b) (roE b) b e1)
    cases h2 : ev c (ro || roE b) (roE b) b e1 with
    | error e => rfl
    | ok p =>
      obtain ⟨y, e2⟩ := p
      show (do let r ← cmpD c o x y; .ok (.bl r, e2) : Ex (D × Env)) = kBl e2 (cmpD c o x y)
      cases cmpD c o x y <;> rfl
-- a < b < e
def kCh4 (env : Env) (r : Ex Bool) : Ex (D × Env) := kBl env r
def kCh3 (o2 : Cm) (y : D) (r : Ex (D × Env)) : Ex (D × Env) := match r with
  | .ok (z, e3) => kBl e3 (cmpD c o2 y z)
  | .error e => .error e
def kCh2 (m : Bool) (o2 : Cm) (e : E) (y : D) (env : Env) (r : Ex Bool) : Ex (D × Env) := match r with
  | .ok true => kCh3 c o2 y (ev c (ro || m) m e env)
  | .ok false => .ok (.bl false, env)
  | .error e => .error e
def kCh1 (m : Bool) (o1 o2 : Cm) (e : E) (x : D) (r : Ex (D × Env)) : Ex (D × Env) := match r with
  | .ok (y, e2) => kCh2 c ro m o2 e y e2 (cmpD c o1 x y)
  | .error e => .error e
def kCh0 (m : Bool) (o1 o2 : Cm) (b e : E) (r : Ex (D × Env)) : Ex (D × Env) := match r with
  | .ok (x, e1) => kCh1 c ro m o1 o2 e x (ev c (ro || m) m b e1)
  | .error e => .error e
theorem kCh3_ok {o : Cm} {y z : D} {e : Env} : kCh3 c o y (.ok (z, e)) = kBl e (cmpD c o y z) := rfl
theorem kCh2_t {m : Bool} {o : Cm} {e : E} {y : D} {env : Env} : kCh2 c ro m o e y env (.ok true) = kCh3 c o y (ev c (ro || m) m e env) := rfl
theorem kCh2_f {m : Bool} {o : Cm} {e : E} {y : D} {env : Env} : kCh2 c ro m o e y env (.ok false) = .ok (.bl false, env) := rfl
theorem kCh1_ok {m : Bool} {o1 o2 : Cm} {e : E} {x y : D} {env : Env} : kCh1 c ro m o1 o2 e x (.ok (y, env)) = kCh2 c ro m o2 e y env (cmpD c o1 x y) := rfl
theorem kCh0_ok {m : Bool} {o1 o2 : Cm} {b e : E} {x : D} {env : Env} : kCh0 c ro m o1 o2 b e (.ok (x, env)) = kCh1 c ro m o1 o2 e x (ev c (ro || m) m b env) := rfl
theorem chain_ {o1 o2 : Cm} {a b e : E} {env : Env} : ev c ro pk (.chain o1 o2 a b e) env = kCh0 c ro (roE b && roE e) o1 o2 b e (ev c ro (roE b && roE e) a env) := by
  rw [ev]
  generalize (roE b && roE e) = m
  cases h1 : ev c ro m a env with
  | error e => rfl
  | ok p =>
    obtain ⟨x, e1⟩ := p
    show (do
      let (y, env2) ← ev c (ro || m) m b e1
      let r ← cmpD c o1 x y
      if r then do
        let (z, env3) ← ev c (ro || m) m e env2
        let r2 ← cmpD c o2 y z
        .ok (.bl r2, env3)
      else .ok (.bl false, env2) : Ex (D × Env)) = kCh1 c ro m o1 o2 e x (ev c (ro || m) m b e1)
    cases h2 : ev c (ro || m) m b e1 with
    | error e => rfl
    | ok p =>
      obtain ⟨y, e2⟩ := p
      show (do
        let r ← cmpD c o1 x y
        if r then do
          let (z, env3) ← ev c (ro || m) m e e2
          let r2 ← cmpD c o2 y z
          .ok (.bl r2, env3)
        else .ok (.bl false, e2) : Ex (D × Env)) = kCh2 c ro m o2 e y e2 (cmpD c o1 x y)
      cases h3 : cmpD c o1 x y with
      | error e => rfl
      | ok r =>
        cases r with
        | false => rfl
        | true =>
          show (do
            let (z, env3) ← ev c (ro || m) m e e2
            let r2 ← cmpD c o2 y z
            .ok (.bl r2, env3) : Ex (D × Env)) = kCh3 c o2 y (ev c (ro || m) m e e2)
          cases h4 : ev c (ro || m) m e e2 with
          | error e => rfl
          | ok p =>
            obtain ⟨z, e3⟩ := p
            show (do let r2 ← cmpD c o2 y z; .ok (.bl r2, e3) : Ex (D × Env)) = kBl e3 (cmpD c o2 y z)
            cases cmpD c o2 y z <;> rfl
-- -a, not a, a is None
def kNeg (r : Ex (D × Env)) : Ex (D × Env) := match r with
  | .ok (.int i, e) => .ok (.int (-i), e)
  | .ok _ => stuck "neg"
  | .error e => .error e
theorem kNeg_ok {i : Int} {e : Env} : kNeg (.ok (.int i, e)) = .ok (.int (-i), e) := rfl
theorem neg_ {a : E} {env : Env} : ev c ro pk (.neg a) env = kNeg (ev c ro true a env) := by
  rw [ev]
  cases h1 : ev c ro true a env with
  | error e => rfl
  | ok p =>
    obtain ⟨x, e1⟩ := p
    cases x <;> rfl
def kNot2 (e : Env) (r : Ex Bool) : Ex (D × Env) := match r with
  | .ok t => .ok (.bl (!t), e)
  | .error e => .error e
def kNot (r : Ex (D × Env)) : Ex (D × Env) := match r with
  | .ok (x, e) => kNot2 e (truth x)
  | .error e => .error e
theorem kNot2_ok {t : Bool} {e : Env} : kNot2 e (.ok t) = .ok (.bl (!t), e) := rfl
theorem kNot_ok {x : D} {e : Env} : kNot (.ok (x, e)) = kNot2 e (truth x) := rfl
theorem not_ {a : E} {env : Env} : ev c ro pk (.notE a) env = kNot (ev c ro true a env) := by
  rw [ev]
  cases h1 : ev c ro true a env with
  | error e => rfl
  | ok p =>
    obtain ⟨x, e1⟩ := p
    show (do let t ← truth x; .ok (.bl (!t), e1) : Ex (D × Env)) = kNot2 e1 (truth x)
    cases truth x <;> rfl
def kIsN (r : Ex (D × Env)) : Ex (D × Env) := match r with
  | .ok (x, e) => .ok (.bl x.isNone, e)
  | .error e => .error e
theorem kIsN_ok {x : D} {e : Env} : kIsN (.ok (x, e)) = .ok (.bl x.isNone, e) := rfl
theorem isN_ {a : E} {env : Env} : ev c ro pk (.isN a) env = kIsN (ev c ro true a env) := by
  rw [ev]
  cases h1 : ev c ro true a env with
  | error e => rfl
  | ok p => rfl
def kNotN (r : Ex (D × Env)) : Ex (D × Env) := match r with
  | .ok (x, e) => .ok (.bl (!x.isNone), e)
  | .error e => .error e
theorem kNotN_ok {x : D} {e : Env} : kNotN (.ok (x, e)) = .ok (.bl (!x.isNone), e) := rfl
theorem notN_ {a : E} {env : Env} : ev c ro pk (.notN a) env = kNotN (ev c ro true a env) := by
  rw [ev]
  cases h1 : ev c ro true a env with
  | error e => rfl
  | ok p => rfl
-- and, or, if
def kAnd2 (b : E) (x : D) (env : Env) (r : Ex Bool) : Ex (D × Env) := match r with
  | .ok true => ev c ro false b env
  | .ok false => .ok (x, env)
  | .error e => .error e
def kAnd (b : E) (r : Ex (D × Env)) : Ex (D × Env) := match r with
  | .ok (x, e) => kAnd2 c ro b x e (truth x)
  | .error e => .error e
theorem kAnd2_t {b : E} {x : D} {env : Env} : kAnd2 c ro b x env (.ok true) = ev c ro false b env := rfl
theorem kAnd2_f {b : E} {x : D} {env : Env} : kAnd2 c ro b x env (.ok false) = .ok (x, env) := rfl
theorem kAnd_ok {b : E} {x : D} {env : Env} : kAnd c ro b (.ok (x, env)) = kAnd2 c ro b x env (truth x) := rfl
theorem and_ {a b : E} {env : Env} : ev c ro pk (.andE a b) env = kAnd c ro b (ev c ro false a env) := by
  rw [ev]
  cases h1 : ev c ro false a env with
  | error e => rfl
  | ok p =>
    obtain ⟨x, e1⟩ := p
    show (do let t ← truth x; if t then ev c ro false b e1 else .ok (x, e1) : Ex (D × Env)) = kAnd2 c ro b x e1 (truth x)
    cases truth x with
    | error e => rfl
    | ok t => cases t <;> rfl
def kOr2 (b : E) (x : D) (env : Env) (r : Ex Bool) : Ex (D × Env) := match r with
  | .ok true => .ok (x, env)
  | .ok false => ev c ro false b env
  | .error e => .error e
def kOr (b : E) (r : Ex (D × Env)) : Ex (D × Env) := match r with
  | .ok (x, e) => kOr2 c ro b x e (truth x)
  | .error e => .error e
theorem kOr2_t {b : E} {x : D} {env : Env} : kOr2 c ro b x env (.ok true) = .ok (x, env) := rfl
theorem kOr2_f {b : E} {x : D} {env : Env} : kOr2 c ro b x env (.ok false) = ev c ro false b env := rfl
theorem kOr_ok {b : E} {x : D} {env : Env} : kOr c ro b (.ok (x, env)) = kOr2 c ro b x env (truth x) := rfl
theorem or_ {a b : E} {env : Env} : ev c ro pk (.orE a b) env = kOr c ro b (ev c ro false a env) := by
  rw [ev]
  cases h1 : ev c ro false a env with
  | error e => rfl
  | ok p =>
    obtain ⟨x, e1⟩ := p
    show (do let t ← truth x; if t then .ok (x, e1) else ev c ro false b e1 : Ex (D × Env)) = kOr2 c ro b x e1 (truth x)
    cases truth x with
    | error e => rfl
    | ok t => cases t <;> rfl
def kIte2 (a b : E) (env : Env) (r : Ex Bool) : Ex (D × Env) := match r with
  | .ok true => ev c ro false a env
  | .ok false => ev c ro false b env
  | .error e => .error e
def kIte (a b : E) (r : Ex (D × Env)) : Ex (D × Env) := match r with
  | .ok (x, e) => kIte2 c ro a b e (truth x)
  | .error e => .error e
theorem kIte2_t {a b : E} {env : Env} : kIte2 c ro a b env (.ok true) = ev c ro false a env := rfl
theorem kIte2_f {a b : E} {env : Env} : kIte2 c ro a b env (.ok false) = ev c ro false b env := rfl
theorem kIte_ok {a b : E} {x : D} {env : Env} : kIte c ro a b (.ok (x, env)) = kIte2 c ro a b env (truth x) := rfl
theorem ite_ {t a b : E} {env : Env} : ev c ro pk (.ite t a b) env = kIte c ro a b (ev c ro true t env) := by
  rw [ev]
  cases h1 : ev c ro true t env with
  | error e => rfl
  | ok p =>
    obtain ⟨x, e1⟩ := p
    show (do let t ← truth x; if t then ev c ro false a e1 else ev c ro false b e1 : Ex (D × Env)) = kIte2 c ro a b e1 (truth x)
    cases truth x with
    | error e => rfl
    | ok t => cases t <;> rfl
-- rows
def kCons2 (d : D) (r : Ex (List D × Env)) : Ex (List D × Env) := match r with
  | .ok (ds, e) => .ok (d :: ds, e)
  | .error e => .error e
def kCons (es : List E) (r : Ex (D × Env)) : Ex (List D × Env) := match r with
  | .ok (d, e) => kCons2 d (evs c ro pk es e)
  | .error e => .error e
theorem kCons2_ok {d : D} {ds : List D} {e : Env} : kCons2 d (.ok (ds, e)) = .ok (d :: ds, e) := rfl
theorem kCons_ok {es : List E} {d : D} {e : Env} : kCons c ro pk es (.ok (d, e)) = kCons2 d (evs c ro pk es e) := rfl
theorem evs_cons {e : E} {es : List E} {env : Env} : evs c ro pk (e :: es) env = kCons c ro pk es (ev c ro pk e env) := by
  rw [evs]
  cases h1 : ev c ro pk e env with
  | error e => rfl
  | ok p =>
    obtain ⟨x, e1⟩ := p
    show (do let (ds, env2) ← evs c ro pk es e1; .ok (x :: ds, env2) : Ex (List D × Env)) = kCons2 x (evs c ro pk es e1)
    cases evs c ro pk es e1 with
    | error e => rfl
    | ok p => rfl
theorem evs_nil {env : Env} : evs c ro pk [] env = .ok ([], env) := by rw [evs]
def kTup (r : Ex (List D × Env)) : Ex (D × Env) := match r with
  | .ok (ds, e) => .ok (.tup (shareL ds), e)
  | .error e => .error e
theorem kTup_ok {ds : List D} {e : Env} : kTup (.ok (ds, e)) = .ok (.tup (shareL ds), e) := rfl
theorem tup_ {es : List E} {env : Env} : ev c ro pk (.tup es) env = kTup (evs c ro false es env) := by
  rw [ev]
  cases evs c ro false es env with
  | error e => rfl
  | ok p => rfl
def kLst (r : Ex (List D × Env)) : Ex (D × Env) := match r with
  | .ok (ds, e) => .ok (.lst .o ds, e)
  | .error e => .error e
theorem kLst_ok {ds : List D} {e : Env} : kLst (.ok (ds, e)) = .ok (.lst .o ds, e) := rfl
theorem lst_ {es : List E} {env : Env} : ev c ro pk (.lst es) env = kLst (evs c ro false es env) := by
  rw [ev]
  cases evs c ro false es env with
  | error e => rfl
  | ok p => rfl
def kBi (n : String) (r : Ex (List D × Env)) : Ex (D × Env) := match r with
  | .ok (ds, e) => kVal e (builtin n ds)
  | .error e => .error e
theorem kBi_ok {n : String} {ds : List D} {e : Env} : kBi n (.ok (ds, e)) = kVal e (builtin n ds) := rfl
theorem bi_ {n : String} {es : List E} {env : Env} : ev c ro pk (.bi n es) env = kBi n (evs c (ro || roL es) (roL es) es env) := by
  rw [ev]
  cases evs c (ro || roL es) (roL es) es env with
  | error e => rfl
  | ok p =>
    obtain ⟨ds, e⟩ := p
    show (do let r ← builtin n ds; .ok (r, e) : Ex (D × Env)) = kVal e (builtin n ds)
    cases builtin n ds <;> rfl
def kCall2 (es : List E) (ds : List D) (e : Env) (r : Ex D) : Ex (D × Env) := match r with
  | .ok d => settle ro es ds d e
  | .error e => .error e
def kCall (f : String) (es : List E) (r : Ex (List D × Env)) : Ex (D × Env) := match r with
  | .ok (ds, e) => kCall2 ro es ds e (c.call f (lendL ds))
  | .error e => .error e
theorem kCall2_ok {es : List E} {ds : List D} {e : Env} {d : D} : kCall2 ro es ds e (.ok d) = settle ro es ds d e := rfl
theorem kCall_ok {f : String} {es : List E} {ds : List D} {e : Env} : kCall c ro f es (.ok (ds, e)) = kCall2 ro es ds e (c.call f (lendL ds)) := rfl
theorem call_ {f : String} {es : List E} {env : Env} : ev c ro pk (.call f es) env = kCall c ro f es (evs c (ro || roL es) (roL es) es env) := by
  rw [ev]
  cases evs c (ro || roL es) (roL es) es env with
  | error e => rfl
  | ok p =>
    obtain ⟨ds, e⟩ := p
    show (do let r ← c.call f (lendL ds); settle ro es ds r e : Ex (D × Env)) = kCall2 ro es ds e (c.call f (lendL ds))
    cases c.call f (lendL ds) <;> rfl
def kIsi (n : String) (r : Ex (D × Env)) : Ex (D × Env) := match r with
  | .ok (x, e) => kBl e (isOf c x n)
  | .error e => .error e
theorem kIsi_ok {n : String} {x : D} {e : Env} : kIsi c n (.ok (x, e)) = kBl e (isOf c x n) := rfl
theorem isi_ {a : E} {n : String} {env : Env} : ev c ro pk (.isi a [n]) env = kIsi c n (ev c ro true a env) := by
  rw [ev]
  cases ev c ro true a env with
  | error e => rfl
  | ok p =>
    obtain ⟨x, e⟩ := p
    show (do let bs ← [n].mapM (isOf c x); .ok (.bl (bs.any id), e) : Ex (D × Env)) = kBl e (isOf c x n)
    rw [List.mapM_cons, List.mapM_nil]
    cases isOf c x n with
    | error e => rfl
    | ok b => cases b <;> rfl
-- a part
def kTake (a : E) (e : Env) (r : Ex D) : Ex (D × Env) := match r with
  | .ok x => take ro pk a x e
  | .error e => .error e
def kIdx2 (a : E) (d : D) (r : Ex (D × Env)) : Ex (D × Env) := match r with
  | .ok (k, e) => kTake ro pk a e (item d k)
  | .error e => .error e
def kIdx (a i : E) (r : Ex (D × Env)) : Ex (D × Env) := match r with
  | .ok (d, e) => kIdx2 ro pk a d (ev c true false i e)
  | .error e => .error e
theorem kTake_ok {a : E} {e : Env} {x : D} : kTake ro pk a e (.ok x) = take ro pk a x e := rfl
theorem kIdx2_ok {a : E} {d k : D} {e : Env} : kIdx2 ro pk a d (.ok (k, e)) = kTake ro pk a e (item d k) := rfl
theorem kIdx_ok {a i : E} {d : D} {e : Env} : kIdx c ro pk a i (.ok (d, e)) = kIdx2 ro pk a d (ev c true false i e) := rfl
theorem idx_ {a i : E} {env : Env} (h : roE i = true) : ev c ro pk (.idx a i) env = kIdx c ro pk a i (ev c ro true a env) := by
  rw [ev, if_pos h]
  cases ev c ro true a env with
  | error e => rfl
  | ok p =>
    obtain ⟨d, e⟩ := p
    show (do let (k, env2) ← ev c true false i e; let x ← item d k; take ro pk a x env2 : Ex (D × Env)) = kIdx2 ro pk a d (ev c true false i e)
    cases ev c true false i e with
    | error e => rfl
    | ok p =>
      obtain ⟨k, e2⟩ := p
      show (do let x ← item d k; take ro pk a x e2 : Ex (D × Env)) = kTake ro pk a e2 (item d k)
      cases item d k <;> rfl
def kEnd (r : Ex (D × Env)) : Ex (Option Int × Env) := match r with
  | .ok (.int i, e) => .ok (some i, e)
  | .ok _ => stuck "slice's end"
  | .error e => .error e
theorem kEnd_ok {i : Int} {e : Env} : kEnd (.ok (.int i, e)) = .ok (some i, e) := rfl
theorem evO_none {env : Env} : evO c none env = .ok (none, env) := by rw [evO]
theorem evO_some {a : E} {env : Env} : evO c (some a) env = kEnd (ev c true false a env) := by
  rw [evO]
  cases ev c true false a env with
  | error e => rfl
  | ok p =>
    obtain ⟨d, e⟩ := p
    cases d <;> rfl
def kSlc3 (d : D) (l : Option Int) (r : Ex (Option Int × Env)) : Ex (D × Env) := match r with
  | .ok (h, env3) => (match d with
    | .lst _ xs => if xs.any D.own then stuck "slice: own items" else .ok (.lst .o (cut xs l h), env3)
    | .tup xs => .ok (.tup (cut xs l h), env3)
    | .str s => if s.length ≤ line then .ok (.str (String.ofList (cut s.toList l h)), env3) else stuck "slice: long"
    | _ => stuck "slice")
  | .error e => .error e
def kSlc2 (hi : Option E) (d : D) (r : Ex (Option Int × Env)) : Ex (D × Env) := match r with
  | .ok (l, e) => kSlc3 d l (evO c hi e)
  | .error e => .error e
def kSlc (lo hi : Option E) (r : Ex (D × Env)) : Ex (D × Env) := match r with
  | .ok (d, e) => kSlc2 c hi d (evO c lo e)
  | .error e => .error e
theorem kSlc3_T {xs : List Int} {l h : Option Int} {e : Env} : kSlc3 (T xs) l (.ok (h, e)) = .ok (T (cut xs l h), e) := by
  show Except.ok (D.tup (cut (xs.map D.int) l h), e) = _
  rw [cut_map]
theorem kSlc3_L {xs : List Int} {f : Fg} {l h : Option Int} {e : Env} : kSlc3 (.lst f (xs.map .int)) l (.ok (h, e)) = .ok (.lst .o ((cut xs l h).map .int), e) := by
  show (if (xs.map D.int).any D.own = true then _ else Except.ok (D.lst .o (cut (xs.map D.int) l h), e)) = _
  rw [own_ints, if_neg Bool.false_ne_true, cut_map]
theorem kSlc2_ok {hi : Option E} {d : D} {l : Option Int} {e : Env} : kSlc2 c hi d (.ok (l, e)) = kSlc3 d l (evO c hi e) := rfl
theorem kSlc_ok {lo hi : Option E} {d : D} {e : Env} : kSlc c lo hi (.ok (d, e)) = kSlc2 c hi d (evO c lo e) := rfl
theorem slc_ {a : E} {lo hi : Option E} {env : Env} : ev c ro pk (.slc a lo hi) env = kSlc c lo hi (ev c ro true a env) := by
  rw [ev]
  cases ev c ro true a env with
  | error e => rfl
  | ok p =>
    obtain ⟨d, e1⟩ := p
    show (do
      let (l, env2) ← evO c lo e1
      let (h, env3) ← evO c hi env2
      match d with
      | .lst _ xs => if xs.any D.own then stuck "slice: own items" else .ok (.lst .o (cut xs l h), env3)
      | .tup xs => .ok (.tup (cut xs l h), env3)
      | .str s => if s.length ≤ line then .ok (.str (String.ofList (cut s.toList l h)), env3) else stuck "slice: long"
      | _ => stuck "slice" : Ex (D × Env)) = kSlc2 c hi d (evO c lo e1)
    cases evO c lo e1 with
    | error e => rfl
    | ok p =>
      obtain ⟨l, e2⟩ := p
      show (do
        let (h, env3) ← evO c hi e2
        match d with
        | .lst _ xs => if xs.any D.own then stuck "slice: own items" else .ok (.lst .o (cut xs l h), env3)
        | .tup xs => .ok (.tup (cut xs l h), env3)
        | .str s => if s.length ≤ line then .ok (.str (String.ofList (cut s.toList l h)), env3) else stuck "slice: long"
        | _ => stuck "slice" : Ex (D × Env)) = kSlc3 d l (evO c hi e2)
      cases evO c hi e2 with
      | error e => rfl
      | ok p => rfl
end
end Lz
end

section
set_option autoImplicit false
namespace Lz
section
variable (c : Ctx)
def jSt (r : Ex Env) : Ex (Fl × Env) := match r with
  | .ok e => .ok (.nx, e)
  | .error e => .error e
theorem jSt_ok {e : Env} : jSt (.ok e) = .ok (.nx, e) := rfl
def jAsg (t : Tg) (r : Ex (D × Env)) : Ex (Fl × Env) := match r with
  | .ok (d, e) => jSt (setTg c t d e)
  | .error e => .error e
theorem jAsg_ok {t : Tg} {d : D} {e : Env} : jAsg c t (.ok (d, e)) = jSt (setTg c t d e) := rfl
theorem asg_ {t : Tg} {a : E} {env : Env} : exec c (.asg t a) env = jAsg c t (ev c false false a env) := by
  rw [exec]
  cases ev c false false a env with
  | error e => rfl
  | ok p =>
    obtain ⟨d, e⟩ := p
    show (do let env2 ← setTg c t d e; .ok (.nx, env2) : Ex (Fl × Env)) = jSt (setTg c t d e)
    cases setTg c t d e <;> rfl
theorem set_var {i : Nat} {d : D} {env : Env} (h : i < env.length) : setTg c (.var i) d env = .ok (env.set i (some d)) := bind_one h
theorem set_tup {is : List Nat} {xs : List D} {env : Env} (h : xs.length = is.length) (h2 : (is.all fun i => decide (i < env.length)) = true) : setTg c (.tup is) (.tup xs) env = .ok ((is.zip xs).foldl (fun e p => e.set p.1 (some p.2)) env) := by
  show (if xs.length = is.length ∧ (is.all fun i => decide (i < env.length)) = true then _ else _) = _
  rw [if_pos ⟨h, h2⟩]
def jAug3 (i : Nat) (e : Env) (r : Ex D) : Ex (Fl × Env) := match r with
  | .ok z => jSt (bindOne [i] true z e)
  | .error e => .error e
def jAug2 (i : Nat) (o : Op) (x : D) (r : Ex (D × Env)) : Ex (Fl × Env) := match r with
  | .ok (y, e) => jAug3 i e (augop o x y)
  | .error e => .error e
theorem jAug3_ok {i : Nat} {e : Env} {z : D} : jAug3 i e (.ok z) = jSt (bindOne [i] true z e) := rfl
theorem jAug2_ok {i : Nat} {o : Op} {x y : D} {e : Env} : jAug2 i o x (.ok (y, e)) = jAug3 i e (augop o x y) := rfl
theorem aug_ {i : Nat} {o : Op} {a : E} {env : Env} {x : D} (h : env[i]? = some (some x)) : exec c (.aug (.var i) o a) env = jAug2 i o x (ev c true true a env) := by
  rw [exec]
  unfold getS
  rw [h]
  show (do let (y, env1) ← ev c true true a env; let r ← augop o x y; let env2 ← bindOne [i] true r env1; .ok (.nx, env2) : Ex (Fl × Env)) = _
  cases ev c true true a env with
  | error e => rfl
  | ok p =>
    obtain ⟨y, e⟩ := p
    show (do let r ← augop o x y; let env2 ← bindOne [i] true r e; .ok (.nx, env2) : Ex (Fl × Env)) = jAug3 i e (augop o x y)
    cases augop o x y with
    | error e => rfl
    | ok z =>
      show (do let env2 ← bindOne [i] true z e; .ok (.nx, env2) : Ex (Fl × Env)) = jSt (bindOne [i] true z e)
      cases bindOne [i] true z e <;> rfl
theorem augI_add (i j : Int) : augop .add (.int i) (.int j) = .ok (.int (i + j)) := rfl
theorem augI_sub (i j : Int) : augop .sub (.int i) (.int j) = .ok (.int (i - j)) := rfl
def jEx (r : Ex (D × Env)) : Ex (Fl × Env) := match r with
  | .ok (_, e) => .ok (.nx, e)
  | .error e => .error e
theorem jEx_ok {d : D} {e : Env} : jEx (.ok (d, e)) = .ok (.nx, e) := rfl
theorem ex_ {a : E} {env : Env} : exec c (.ex a) env = jEx (ev c false true a env) := by
  rw [exec]
  cases ev c false true a env with
  | error e => rfl
  | ok p => rfl
def jRet (r : Ex (D × Env)) : Ex (Fl × Env) := match r with
  | .ok (d, e) => .ok (.ret d, e)
  | .error e => .error e
theorem jRet_ok {d : D} {e : Env} : jRet (.ok (d, e)) = .ok (.ret d, e) := rfl
theorem ret_ {a : E} {env : Env} : exec c (.ret a) env = jRet (ev c false false a env) := by
  rw [exec]
  cases ev c false false a env with
  | error e => rfl
  | ok p => rfl
def jIf2 (a b : List S) (e : Env) (r : Ex Bool) : Ex (Fl × Env) := match r with
  | .ok true => execs c a e
  | .ok false => execs c b e
  | .error e => .error e
def jIf (a b : List S) (r : Ex (D × Env)) : Ex (Fl × Env) := match r with
  | .ok (x, e) => jIf2 c a b e (truth x)
  | .error e => .error e
theorem jIf2_t {a b : List S} {e : Env} : jIf2 c a b e (.ok true) = execs c a e := rfl
theorem jIf2_f {a b : List S} {e : Env} : jIf2 c a b e (.ok false) = execs c b e := rfl
theorem jIf_ok {a b : List S} {x : D} {e : Env} : jIf c a b (.ok (x, e)) = jIf2 c a b e (truth x) := rfl
theorem if_ {t : E} {a b : List S} {env : Env} : exec c (.ifS t a b) env = jIf c a b (ev c false true t env) := by
  rw [exec]
  cases ev c false true t env with
  | error e => rfl
  | ok p =>
    obtain ⟨x, e⟩ := p
    show (do let r ← truth x; if r then execs c a e else execs c b e : Ex (Fl × Env)) = jIf2 c a b e (truth x)
    cases truth x with
    | error e => rfl
    | ok t => cases t <;> rfl
def jSeq (r : List S) (x : Ex (Fl × Env)) : Ex (Fl × Env) := match x with
  | .ok (.nx, e) => execs c r e
  | .ok (f, e) => .ok (f, e)
  | .error e => .error e
theorem jSeq_nx {r : List S} {e : Env} : jSeq c r (.ok (.nx, e)) = execs c r e := rfl
theorem jSeq_ret {r : List S} {d : D} {e : Env} : jSeq c r (.ok (.ret d, e)) = .ok (.ret d, e) := rfl
theorem jSeq_brk {r : List S} {e : Env} : jSeq c r (.ok (.brk, e)) = .ok (.brk, e) := rfl
theorem jSeq_cnt {r : List S} {e : Env} : jSeq c r (.ok (.cnt, e)) = .ok (.cnt, e) := rfl
theorem execs_cons {s : S} {r : List S} {env : Env} : execs c (s :: r) env = jSeq c r (exec c s env) := by
  rw [execs]
  cases exec c s env with
  | error e => rfl
  | ok p =>
    obtain ⟨f, e⟩ := p
    cases f <;> rfl
theorem execs_nil {env : Env} : execs c [] env = .ok (.nx, env) := by rw [execs]
theorem brk_ {env : Env} : exec c .brk env = .ok (.brk, env) := by rw [exec]
theorem cnt_ {env : Env} : exec c .cnt env = .ok (.cnt, env) := by rw [exec]
theorem pass_ {env : Env} : exec c .pass env = .ok (.nx, env) := by rw [exec]
-- loops
def stepF (t : Tg) (body : List S) (x : D) (e0 : Env) : Ex (Fl × Env) := match setTg c t x e0 with
  | .ok e1 => execs c body e1
  | .error e => .error e
theorem stepF_ok {t : Tg} {body : List S} {x : D} {e0 e1 : Env} (h : setTg c t x e0 = .ok e1) : stepF c t body x e0 = execs c body e1 := by
  unfold stepF
  rw [h]
def jFor (t : Tg) (it : I) (body : List S) (r : Ex (List D × Watch × Env)) : Ex (Fl × Env) := match r with
  | .ok (xs, w, e) => if apartFrom w (asgS (.forS t it body)) then forLoop w (stepF c t body) xs e else stuck "what is walked is bound"
  | .error e => .error e
theorem jFor_ok {t : Tg} {it : I} {body : List S} {xs : List D} {e : Env} : jFor c t it body (.ok (xs, [], e)) = forLoop [] (stepF c t body) xs e := rfl
theorem for_ {t : Tg} {it : I} {body : List S} {env : Env} : exec c (.forS t it body) env = jFor c t it body (evI c false it env) := by
  rw [exec]
  cases evI c false it env with
  | error e => rfl
  | ok p =>
    obtain ⟨xs, w, e⟩ := p
    have hs : (fun x e0 => do let e1 ← setTg c t x e0; execs c body e1 : D → Env → Ex (Fl × Env)) = stepF c t body := by
      funext x e0
      unfold stepF
      cases setTg c t x e0 <;> rfl
    show (if (!apartFrom w (asgS (.forS t it body))) = true then _ else forLoop w (fun x e0 => do let e1 ← setTg c t x e0; execs c body e1) xs e) = _
    rw [hs]
    unfold jFor
    dsimp only
    generalize apartFrom w (asgS (.forS t it body)) = q
    cases q <;> rfl
def jRng0 (ds : List D) (e : Env) : Ex (List D × Watch × Env) := match ds with
  | [.int j] => if isRg j then .ok (rangeL 0 j.toNat, [], e) else stuck "range"
  | [.int i, .int j] => if isRg i && isRg j then .ok (rangeL i (j - i).toNat, [], e) else stuck "range"
  | _ => stuck "range"
def jRng (r : Ex (List D × Env)) : Ex (List D × Watch × Env) := match r with
  | .ok (ds, e) => jRng0 ds e
  | .error e => .error e
theorem jRng_1 {j : Int} {e : Env} (h : isRg j = true) : jRng (.ok ([.int j], e)) = .ok (rangeL 0 j.toNat, [], e) := by
  show (if isRg j = true then _ else _) = _
  rw [if_pos h]
theorem jRng_2 {i j : Int} {e : Env} (h : isRg i = true) (h2 : isRg j = true) : jRng (.ok ([.int i, .int j], e)) = .ok (rangeL i (j - i).toNat, [], e) := by
  show (if (isRg i && isRg j) = true then _ else _) = _
  rw [h, h2, if_pos (by rfl)]
theorem rng_ {ro : Bool} {es : List E} {env : Env} : evI c ro (.rng es) env = jRng (evs c ro false es env) := by
  rw [evI]
  cases evs c ro false es env with
  | error e => rfl
  | ok p => rfl
theorem isRg_nat {n : Nat} (h : n < 1000000000) : isRg (n : Int) = true := by
  unfold isRg
  simp only [Bool.and_eq_true, decide_eq_true_eq]
  omega
def jVal (a : E) (ro : Bool) (r : Ex (D × Env)) : Ex (List D × Watch × Env) := match r with
  | .ok (.tup xs, e) => .ok (xs, [], e)
  | .ok (d, e) => evI c ro (.val (.lit d)) e
  | .error e => .error e
-- x.append(..)
def jMut2 (n : String) (keep : Bool) (i : Nat) (r : Ex (List D × Env)) : Ex (Fl × Env) := match r with
  | .ok (ds, e) => (match getS e i with
    | .ok d => (match mutate n (if keep then ds else shareL ds) d with
      | .ok (_, d') => .ok (.nx, e.set i (some d'))
      | .error x => .error x)
    | .error x => .error x)
  | .error e => .error e
theorem mut_ {n : String} {keep : Bool} {i : Nat} {es : List E} {env : Env} {t0 : D} (h : env[i]? = some (some t0)) (hl : listy n t0 = true) : exec c (.mut keep n (.var i) es) env = jMut2 n keep i (evs c false false es env) := by
  rw [exec, ev_varP h]
  show (if (!listy n t0) = true then stuck "mut: no list" else (do
    let (ds, env1) ← evs c false false es env
    let (s, as) ← resolve c (.var i) env1
    let d ← getS env1 s
    let (_, d') ← modP (mutate n (if keep then ds else shareL ds)) d as
    .ok (.nx, env1.set s (some d')) : Ex (Fl × Env))) = _
  rw [hl, if_neg (by simp)]
  cases evs c false false es env with
  | error e => rfl
  | ok p =>
    obtain ⟨ds, e⟩ := p
    show (do
      let (s, as) ← resolve c (.var i) e
      let d ← getS e s
      let (_, d') ← modP (mutate n (if keep then ds else shareL ds)) d as
      .ok (.nx, e.set s (some d')) : Ex (Fl × Env)) = _
    rw [resolve]
    show (do
      let d ← getS e i
      let (_, d') ← modP (mutate n (if keep then ds else shareL ds)) d []
      .ok (.nx, e.set i (some d')) : Ex (Fl × Env)) = _
    unfold jMut2
    dsimp only
    cases getS e i with
    | error x => rfl
    | ok d =>
      show (do
        let (_, d') ← modP (mutate n (if keep then ds else shareL ds)) d []
        .ok (.nx, e.set i (some d')) : Ex (Fl × Env)) = _
      rw [show modP (mutate n (if keep then ds else shareL ds)) d [] = mutate n (if keep then ds else shareL ds) d from by unfold modP; rfl]
      dsimp only
      cases mutate n (if keep then ds else shareL ds) d <;> rfl
theorem jMut_app {keep : Bool} {i : Nat} {x : D} {xs : List D} {e : Env} (h : e[i]? = some (some (.lst .o xs))) (hl : xs.length < line) (hx : shareL [x] = [x]) : jMut2 "append" keep i (.ok ([x], e)) = .ok (.nx, e.set i (some (.lst .o (xs ++ [x])))) := by
  unfold jMut2
  have : getS e i = .ok (.lst .o xs) := by unfold getS; rw [h]
  dsimp only
  rw [this, hx]
  have e1 : (if keep = true then [x] else [x]) = [x] := by cases keep <;> rfl
  rw [e1]
  show (match (if xs.length < line then (Except.ok (D.non, D.lst .o (xs ++ [x])) : Ex (D × D)) else _) with
    | .ok (_, d') => (Except.ok (Fl.nx, e.set i (some d')) : Ex (Fl × Env))
    | .error x => .error x) = _
  rw [if_pos hl]
-- comprehensions
def cStep (t : List Nat) (one : Bool) (ro : Bool) (cond : Option E) (elt : E) (keep : Bool) (x : D) (e0 : Env) : Ex (Option D × Env) := (do
      let e1 ← bindOne t one x e0
      let (b, e2) ← evO' c ro cond e1
      if b then do
        let (d, e3) ← ev c ro false elt e2
        .ok (some (if keep then d else d.share), wipeE t e3)
      else .ok (none, wipeE t e2))
def kComp2 (t : List Nat) (env1 : Env) (r : Ex (List D × Env)) : Ex (D × Env) := match r with
  | .ok (rs, env2) => .ok (.lst .o rs, resE t env1 env2)
  | .error e => .error e
def kComp (t : List Nat) (one : Bool) (ro : Bool) (cond : Option E) (elt : E) (keep : Bool) (r : Ex (List D × Watch × Env)) : Ex (D × Env) := match r with
  | .ok (xs, w, env1) => if apartFrom w t && decide (xs.length ≤ line) then kComp2 t env1 (calm (compLoop w (cStep c t one ro cond elt keep) xs (wipeE t env1))) else stuck "what is walked is bound, or long"
  | .error e => .error e
theorem comp_ {ro pk keep one : Bool} {t : List Nat} {it : I} {cond : Option E} {elt : E} {env : Env} : ev c ro pk (.comp keep t one it cond elt) env = kComp c t one ro cond elt keep (evI c ro it env) := by
  rw [ev]
  cases evI c ro it env with
  | error e => rfl
  | ok p =>
    obtain ⟨xs, w, env1⟩ := p
    show (if (!apartFrom w t || decide (xs.length > line)) = true then stuck "what is walked is bound, or long" else (do
      let (rs, env2) ← calm (compLoop w (cStep c t one ro cond elt keep) xs (wipeE t env1))
      .ok (.lst .o rs, resE t env1 env2) : Ex (D × Env))) = _
    unfold kComp
    dsimp only
    have e1 : (!apartFrom w t || decide (xs.length > line)) = !(apartFrom w t && decide (xs.length ≤ line)) := by
      by_cases h : xs.length ≤ line
      · simp [h, Nat.not_lt.mpr h]
      · simp [h, Nat.lt_of_not_le h]
    rw [e1]
    cases (apartFrom w t && decide (xs.length ≤ line)) with
    | false => rfl
    | true =>
      show (do
        let (rs, env2) ← calm (compLoop w (cStep c t one ro cond elt keep) xs (wipeE t env1))
        .ok (.lst .o rs, resE t env1 env2) : Ex (D × Env)) = kComp2 t env1 (calm (compLoop w (cStep c t one ro cond elt keep) xs (wipeE t env1)))
      cases calm (compLoop w (cStep c t one ro cond elt keep) xs (wipeE t env1)) with
      | error e => rfl
      | ok p => rfl
/-- a comprehension whose turns are known -/
theorem kComp_map {t : List Nat} {one ro keep : Bool} {cond : Option E} {elt : E} {xs : List D} {env1 : Env} {g : D → Option D} (hl : xs.length ≤ line) (h : ∀ x ∈ xs, cStep c t one ro cond elt keep x (wipeE t env1) = .ok (g x, wipeE t env1)) : kComp c t one ro cond elt keep (.ok (xs, [], env1)) = .ok (.lst .o (xs.filterMap g), env1) := by
  unfold kComp
  dsimp only
  have : (apartFrom [] t && decide (xs.length ≤ line)) = true := by
    rw [decide_eq_true hl]; rfl
  rw [if_pos this, compLoop_map h]
  show Except.ok (D.lst .o (xs.filterMap g), resE t env1 (wipeE t env1)) = _
  rw [resE_self]
def kVar (ro pk : Bool) (i : Nat) (env : Env) (o : Option (Option D)) : Ex (D × Env) := match o with
  | some (some d) => if pk || !d.own then .ok (d, env) else if ro then stuck s!"own in a read: slot {i}" else .ok (d.share, env.set i (some d.share))
  | _ => stuck s!"no value in slot {i}"
theorem kVar_flat {ro pk : Bool} {i : Nat} {env : Env} {d : D} (h : d.own = false) : kVar ro pk i env (some (some d)) = .ok (d, env) := by
  show (if (pk || !d.own) = true then _ else _) = _
  rw [h, if_pos (by simp)]
theorem kVar_pk {ro : Bool} {i : Nat} {env : Env} {d : D} : kVar ro true i env (some (some d)) = .ok (d, env) := rfl
theorem var_ {ro pk : Bool} {i : Nat} {env : Env} : ev c ro pk (.var i) env = kVar ro pk i env env[i]? := by
  rw [ev]
  unfold getS kVar
  cases env[i]? with
  | none => rfl
  | some o => cases o <;> rfl
def jAug0 (i : Nat) (o : Op) (a : E) (env : Env) (x : Option (Option D)) : Ex (Fl × Env) := match x with
  | some (some x) => jAug2 i o x (ev c true true a env)
  | _ => stuck s!"no value in slot {i}"
theorem jAug0_ok {i : Nat} {o : Op} {a : E} {env : Env} {x : D} : jAug0 c i o a env (some (some x)) = jAug2 i o x (ev c true true a env) := rfl
theorem augv_ {i : Nat} {o : Op} {a : E} {env : Env} : exec c (.aug (.var i) o a) env = jAug0 c i o a env env[i]? := by
  cases h : env[i]? with
  | none =>
    rw [exec]
    unfold getS
    rw [h]
    rfl
  | some x =>
    cases x with
    | none =>
      rw [exec]
      unfold getS
      rw [h]
      rfl
    | some x => exact aug_ c h
theorem own_tup {xs : List D} : (D.tup xs).own = false := Eq.trans rfl rfl
theorem own_int {i : Int} : (D.int i).own = false := Eq.trans rfl rfl
theorem own_bl {b : Bool} : (D.bl b).own = false := Eq.trans rfl rfl
theorem own_non : D.non.own = false := Eq.trans rfl rfl
theorem own_k {xs : List D} : (D.lst .k xs).own = false := Eq.trans rfl rfl
theorem own_s {xs : List D} : (D.lst .s xs).own = false := Eq.trans rfl rfl
theorem own_g {xs : List D} : (D.lst .g xs).own = false := Eq.trans rfl rfl
def kIdx0 (ro pk : Bool) (a i : E) (env : Env) (m : Bool) : Ex (D × Env) := match m with
  | true => kIdx c ro pk a i (ev c ro true a env)
  | false => ev c ro pk (.idx a i) env
theorem kIdx0_t {ro pk : Bool} {a i : E} {env : Env} : kIdx0 c ro pk a i env true = kIdx c ro pk a i (ev c ro true a env) := rfl
theorem idxB_ {ro pk : Bool} {a i : E} {env : Env} : ev c ro pk (.idx a i) env = kIdx0 c ro pk a i env (roE i) := by
  cases h : roE i with
  | true => rw [idx_ c ro pk h]; rfl
  | false => rfl
theorem tup_nil : D.tup (shareL []) = T [] := rfl
theorem bin_rep {a : List Int} {k : Int} (h1 : 0 < a.length) (h2 : a.length ≤ 1000) (h3 : 2 ≤ k) (h4 : k ≤ 1000) : binop .mul (T a) (.int k) = .ok (T (List.replicate k.toNat a).flatten) := by
  have e0 : ((a.map D.int).isEmpty || k == 1) = false := by
    cases a with
    | nil => simp at h1
    | cons x r =>
      have : (k == 1) = false := by simp; omega
      rw [this]; rfl
  have e1 : (a.map D.int).isEmpty = false := by
    cases a with
    | nil => simp at h1
    | cons x r => rfl
  show (if (((a.map D.int).isEmpty || k == 1) && isIx k) = true then _ else if (!(a.map D.int).isEmpty) = true ∧ 2 ≤ k ∧ k ≤ 1000 ∧ (a.map D.int).length ≤ 1000 then _ else _) = _
  rw [e0, Bool.false_and, if_neg Bool.false_ne_true, if_pos ⟨by rw [e1]; rfl, h3, h4, by simpa using h2⟩]
  show Except.ok (D.tup (List.replicate k.toNat (a.map D.int)).flatten) = Except.ok (D.tup ((List.replicate k.toNat a).flatten.map D.int))
  rw [List.map_flatten, List.map_replicate]
/-- the first turn that hands back -/
theorem forLoop_find {step : D → Env → Ex (Fl × Env)} (p : D → Option D) (Inv : Env → Prop) : ∀ (xs : List D) (env : Env), Inv env → (∀ x ∈ xs, ∀ env, Inv env → ∃ env', Inv env' ∧ step x env = (match p x with
    | some d => .ok (.ret d, env')
    | none => .ok (.nx, env'))) → ∃ env', Inv env' ∧ forLoop [] step xs env = (match xs.findSome? p with
    | some d => .ok (.ret d, env')
    | none => .ok (.nx, env'))
  | [], env, h0, _ => ⟨env, h0, rfl⟩
  | x :: xs, env, h0, h => by
    obtain ⟨e1, h1, h2⟩ := h x List.mem_cons_self env h0
    rw [forLoop, stands_nil, if_neg (by simp), h2, List.findSome?_cons]
    cases hp : p x with
    | some d => exact ⟨e1, h1, rfl⟩
    | none =>
      obtain ⟨e2, h3, h4⟩ := forLoop_find p Inv xs e1 h1 fun y hy => h y (List.mem_cons_of_mem _ hy)
      exact ⟨e2, h3, h4⟩
theorem out_ret {d : D} {e : Env} : outOf (.ok (.ret d, e)) = .ok d := rfl
theorem out_nx {e : Env} : outOf (.ok (.nx, e)) = .ok .non := rfl
def jTest2 (e : Env) (r : Ex Bool) : Ex (Bool × Env) := match r with
  | .ok b => .ok (b, e)
  | .error x => .error x
def jTest (r : Ex (D × Env)) : Ex (Bool × Env) := match r with
  | .ok (x, e) => jTest2 e (truth x)
  | .error x => .error x
theorem jTest2_ok {e : Env} {b : Bool} : jTest2 e (.ok b) = .ok (b, e) := rfl
theorem jTest_ok {e : Env} {x : D} : jTest (.ok (x, e)) = jTest2 e (truth x) := rfl
def testF (t : E) (e0 : Env) : Ex (Bool × Env) := jTest (ev c false true t e0)
theorem whl_ {t : E} {body : List S} {env : Env} : exec c (.whl t body) env = whileLoop (testF c t) (execs c body) c.fuel env := by
  rw [exec]
  have h : (fun e0 => do
      let (x, e1) ← ev c false true t e0
      let r ← truth x
      .ok (r, e1) : Env → Ex (Bool × Env)) = testF c t := by
    funext e0
    unfold testF
    cases ev c false true t e0 with
    | error e => rfl
    | ok p =>
      obtain ⟨x, e⟩ := p
      show (do let r ← truth x; .ok (r, e) : Ex (Bool × Env)) = jTest2 e (truth x)
      cases truth x <;> rfl
  exact congrArg (fun q => whileLoop q (execs c body) c.fuel env) h
theorem ctx_fuel (P : Prog) (fuel : Nat) : ∀ n, (ctx P fuel n).fuel = fuel
  | 0 => rfl
  | n + 1 => ctx_fuel P fuel n
theorem whl_step {test : Env → Ex (Bool × Env)} {step : Env → Ex (Fl × Env)} {n : Nat} {env e1 e2 : Env} (h1 : test env = .ok (true, e1)) (h2 : step e1 = .ok (.nx, e2)) : whileLoop test step (n + 1) env = whileLoop test step n e2 := by
  rw [whileLoop, h1, bk]
  show (do let (f, env1) ← step e1; _) = _
  rw [h2]
  rfl
theorem whl_end {test : Env → Ex (Bool × Env)} {step : Env → Ex (Fl × Env)} {n : Nat} {env e1 : Env} (h1 : test env = .ok (false, e1)) : whileLoop test step (n + 1) env = .ok (.nx, e1) := by
  rw [whileLoop, h1]
  rfl
theorem cStep_none {t : List Nat} {one ro keep : Bool} {elt : E} {x d : D} {e0 e1 e3 : Env} (hb : bindOne t one x e0 = .ok e1) (he : ev c ro false elt e1 = .ok (d, e3)) : cStep c t one ro none elt keep x e0 = .ok (some (if keep then d else d.share), wipeE t e3) := by
  unfold cStep
  rw [hb, bk, evO']
  show (do let (d, e3) ← ev c ro false elt e1; .ok (some (if keep then d else d.share), wipeE t e3) : Ex (Option D × Env)) = _
  rw [he]
  rfl
theorem cStep_in {t : List Nat} {one ro keep : Bool} {elt q : E} {x y d : D} {e0 e1 e2 e3 : Env} (hb : bindOne t one x e0 = .ok e1) (hq : ev c ro true q e1 = .ok (y, e2)) (ht : truth y = .ok true) (he : ev c ro false elt e2 = .ok (d, e3)) : cStep c t one ro (some q) elt keep x e0 = .ok (some (if keep then d else d.share), wipeE t e3) := by
  unfold cStep
  rw [hb, bk, evO', hq]
  show (do
    let (b, e2) ← (do let t ← truth y; .ok (t, e2) : Ex (Bool × Env))
    if b then do
      let (d, e3) ← ev c ro false elt e2
      .ok (some (if keep then d else d.share), wipeE t e3)
    else .ok (none, wipeE t e2) : Ex (Option D × Env)) = _
  rw [ht]
  show (do let (d, e3) ← ev c ro false elt e2; .ok (some (if keep then d else d.share), wipeE t e3) : Ex (Option D × Env)) = _
  rw [he]
  rfl
theorem cStep_out {t : List Nat} {one ro keep : Bool} {elt q : E} {x y : D} {e0 e1 e2 : Env} (hb : bindOne t one x e0 = .ok e1) (hq : ev c ro true q e1 = .ok (y, e2)) (ht : truth y = .ok false) : cStep c t one ro (some q) elt keep x e0 = .ok (none, wipeE t e2) := by
  unfold cStep
  rw [hb, bk, evO', hq]
  show (do
    let (b, e2) ← (do let t ← truth y; .ok (t, e2) : Ex (Bool × Env))
    if b then do
      let (d, e3) ← ev c ro false elt e2
      .ok (some (if keep then d else d.share), wipeE t e3)
    else .ok (none, wipeE t e2) : Ex (Option D × Env)) = _
  rw [ht]
  rfl
theorem val_tup {ro : Bool} {a : E} {env e1 : Env} {xs : List D} (h : ev c ro true a env = .ok (.tup xs, e1)) : evI c ro (.val a) env = .ok (xs, [], e1) := by
  rw [evI, h]
  rfl
end
end Lz
end

section
namespace Lz
def fuel : Nat := 1000000
abbrev C (P : Prog) (n : Nat) : Ctx := ctx P fuel n
theorem call_look {P : Prog} {fuel n : Nat} {nm : String} {fn : Fn} (h : P.fns.lookup nm = some fn) (xs : List D) : (ctx P fuel (n + 1)).call nm xs = (runFn (ctx P fuel n) fn xs).map (·.1) := by
  have : (ctx P fuel (n + 1)).call nm xs = (match P.fns.lookup nm with
    | some fn => (do let (r, _) ← runFn (ctx P fuel n) fn xs; .ok r : Ex D)
    | none => stuck ("no def " ++ nm)) := rfl
  rw [this, h]
  show (do let (r, _) ← runFn (ctx P fuel n) fn xs; .ok r : Ex D) = _
  cases runFn (ctx P fuel n) fn xs <;> rfl
theorem c_of {P : Prog} {nm : String} {fn : Fn} (h : P.fns.lookup nm = some fn) (n : Nat) (xs : List D) (hl : xs.length = fn.np) : (C P (n + 1)).call nm xs = outOf (execs (C P n) fn.body (xs.map some ++ List.replicate (fn.ns - fn.np) none)) :=
  (call_look h xs).trans (runFn_out _ _ _ hl)
end Lz
end

section
namespace Lz
/-- one part of a body, then the other -/
def kApp (c : Ctx) (ys : List S) (r : Ex (Fl × Env)) : Ex (Fl × Env) := match r with
  | .ok (.nx, e) => execs c ys e
  | .ok (f, e) => .ok (f, e)
  | .error e => .error e
theorem kApp_nx {c : Ctx} {ys : List S} {e : Env} : kApp c ys (.ok (.nx, e)) = execs c ys e := rfl
theorem kApp_ret {c : Ctx} {ys : List S} {e : Env} {d : D} : kApp c ys (.ok (.ret d, e)) = .ok (.ret d, e) := rfl
theorem execs_app {c : Ctx} : ∀ (xs ys : List S) (env : Env), execs c (xs ++ ys) env = kApp c ys (execs c xs env)
  | [], ys, env => by rw [List.nil_append, execs_nil]; rfl
  | x :: xs, ys, env => by
    rw [List.cons_append, execs, execs]
    cases exec c x env with
    | error e => rfl
    | ok p =>
      obtain ⟨f, e⟩ := p
      cases f with
      | nx => exact execs_app xs ys e
      | brk => rfl
      | cnt => rfl
      | ret d => rfl
end Lz
end

section
set_option autoImplicit false
namespace Lz
/-! more frames: walks of lists at names, stores into lists, whole lists of plain data -/
mutual
/-- holds no list, dict or object -/
def D.pl : D → Bool
  | .non => true
  | .bl _ => true
  | .int _ => true
  | .str _ => true
  | .tup xs => plL xs
  | _ => false
def plL : List D → Bool
  | [] => true
  | x :: xs => x.pl && plL xs
end
mutual
theorem fl_pl (m : Fg → Fg) : ∀ d : D, d.pl = true → d.fl m = d
  | .non, _ => by rw [D.fl]
  | .bl _, _ => by rw [D.fl]
  | .int _, _ => by rw [D.fl]
  | .str _, _ => by rw [D.fl]
  | .tup xs, h => by rw [D.fl, flL_pl m xs (by rwa [D.pl] at h)]
  | .lst _ _, h => by rw [D.pl] at h; cases h; all_goals (intros; contradiction)
  | .dic _ _, h => by rw [D.pl] at h; cases h; all_goals (intros; contradiction)
  | .obj _ _ _, h => by rw [D.pl] at h; cases h; all_goals (intros; contradiction)
theorem flL_pl (m : Fg → Fg) : ∀ xs : List D, plL xs = true → flL m xs = xs
  | [], _ => by rw [flL]
  | x :: xs, h => by
    rw [plL, Bool.and_eq_true] at h
    rw [flL, fl_pl m x h.1, flL_pl m xs h.2]
end
theorem own_pl : ∀ d : D, d.pl = true → d.own = false
  | .non, _ => rfl
  | .bl _, _ => rfl
  | .int _, _ => rfl
  | .str _, _ => rfl
  | .tup _, _ => rfl
  | .lst _ _, h => by rw [D.pl] at h; cases h; all_goals (intros; contradiction)
  | .dic _ _, h => by rw [D.pl] at h; cases h; all_goals (intros; contradiction)
  | .obj _ _ _, h => by rw [D.pl] at h; cases h; all_goals (intros; contradiction)
theorem plL_iff : ∀ {xs : List D}, plL xs = true ↔ ∀ x ∈ xs, x.pl = true
  | [] => by rw [plL]; simp
  | x :: xs => by rw [plL, Bool.and_eq_true, plL_iff]; simp
theorem pl_map {α : Type} {g : α → D} (h : ∀ a, (g a).pl = true) (xs : List α) : plL (xs.map g) = true := by
  rw [plL_iff]
  intro x hx
  obtain ⟨a, _, rfl⟩ := List.mem_map.mp hx
  exact h a
theorem pl_T (xs : List Int) : (T xs).pl = true := by
  unfold T
  rw [D.pl]
  exact pl_map (fun a => by rw [D.pl]) xs
theorem pl_La (a b : List Int) : (La a b).pl = true := by
  unfold La
  rw [D.pl, plL, plL, plL, pl_T, pl_T]; rfl
theorem any_pl {xs : List D} (h : plL xs = true) : xs.any D.own = false := by
  rw [List.any_eq_false]
  intro x hx
  rw [own_pl x (plL_iff.mp h x hx)]
  exact Bool.false_ne_true
theorem flat_map {α : Type} {g : α → D} (h : ∀ a, (g a).flat = true) (xs : List α) : flatL (xs.map g) = true := by
  unfold flatL
  rw [List.all_map, List.all_eq_true]
  intro a _
  exact h a
theorem eqL_map {α : Type} [DecidableEq α] {g : α → D} (h : ∀ a b, D.eq (g a) (g b) = decide (a = b)) : ∀ xs ys : List α, eqL (xs.map g) (ys.map g) = decide (xs = ys)
  | [], [] => by rw [List.map_nil, eqL]; simp
  | [], y :: ys => by rw [List.map_nil, List.map_cons, eqL]; simp; all_goals (intros; simp_all)
  | x :: xs, [] => by rw [List.map_nil, List.map_cons, eqL]; simp; all_goals (intros; simp_all)
  | x :: xs, y :: ys => by
    rw [List.map_cons, List.map_cons, eqL, h, eqL_map h xs ys]
    by_cases h1 : x = y <;> by_cases h2 : xs = ys <;> simp [h1, h2]
/-- flat to a depth -/
theorem flatN_lst {n : Nat} {f : Fg} {xs : List D} (h : ∀ x ∈ xs, flatN n x = true) : flatN (n + 1) (.lst f xs) = true := by
  rw [flatN, List.all_eq_true]; exact h
theorem flatN_tup {n : Nat} {xs : List D} (h : ∀ x ∈ xs, flatN n x = true) : flatN (n + 1) (.tup xs) = true := by
  rw [flatN, List.all_eq_true]; exact h
theorem flatN_Ts (n : Nat) (f : Fg) (ws : List (List Int)) : flatN (n + 2) (.lst f (ws.map T)) = true := flatN_lst fun x hx => by
  obtain ⟨w, _, rfl⟩ := List.mem_map.mp hx
  exact flatN_T n w
abbrev LaP (p : List Int × List Int) : D := La p.1 p.2
theorem flatN_Las (n : Nat) (f : Fg) (ws : List (List Int × List Int)) : flatN (n + 3) (.lst f (ws.map LaP)) = true := flatN_lst fun x hx => by
  obtain ⟨w, _, rfl⟩ := List.mem_map.mp hx
  refine flatN_tup fun y hy => ?_
  rcases List.mem_cons.mp hy with e | hy
  · rw [e]; exact flatN_T n _
  · rcases List.mem_cons.mp hy with e | hy
    · rw [e]; exact flatN_T n _
    · cases hy
theorem cmp_eqTs (c : Ctx) (f g : Fg) (a b : List (List Int)) : cmpD c .eq (.lst f (a.map T)) (.lst g (b.map T)) = .ok (decide (a = b)) := by
  show (if ((D.lst f (a.map T)).flat && (D.lst g (b.map T)).flat) = true then Except.ok (D.eq (.lst f (a.map T)) (.lst g (b.map T))) else _) = _
  rw [show D.flat (.lst f (a.map T)) = true from flatN_Ts 58 f a, show D.flat (.lst g (b.map T)) = true from flatN_Ts 58 g b, if_pos (by rfl), D.eq, eqL_map eq_T]
theorem cmp_neTs (c : Ctx) (f g : Fg) (a b : List (List Int)) : cmpD c .ne (.lst f (a.map T)) (.lst g (b.map T)) = .ok (!decide (a = b)) := by
  show (if ((D.lst f (a.map T)).flat && (D.lst g (b.map T)).flat) = true then Except.ok (!D.eq (.lst f (a.map T)) (.lst g (b.map T))) else _) = _
  rw [show D.flat (.lst f (a.map T)) = true from flatN_Ts 58 f a, show D.flat (.lst g (b.map T)) = true from flatN_Ts 58 g b, if_pos (by rfl), D.eq, eqL_map eq_T]
theorem eq_LaP (p q : List Int × List Int) : D.eq (LaP p) (LaP q) = decide (p = q) := by
  obtain ⟨a, b⟩ := p
  obtain ⟨a', b'⟩ := q
  show D.eq (La a b) (La a' b') = _
  rw [eq_La]
  by_cases h : a = a' ∧ b = b'
  · rw [decide_eq_true h, h.1, h.2]; simp
  · rw [decide_eq_false h]
    symm
    rw [decide_eq_false]
    intro z
    cases z
    exact h ⟨rfl, rfl⟩
theorem cmp_neLas (c : Ctx) (f g : Fg) (a b : List (List Int × List Int)) : cmpD c .ne (.lst f (a.map LaP)) (.lst g (b.map LaP)) = .ok (!decide (a = b)) := by
  show (if ((D.lst f (a.map LaP)).flat && (D.lst g (b.map LaP)).flat) = true then Except.ok (!D.eq (.lst f (a.map LaP)) (.lst g (b.map LaP))) else _) = _
  rw [show D.flat (.lst f (a.map LaP)) = true from flatN_Las 57 f a, show D.flat (.lst g (b.map LaP)) = true from flatN_Las 57 g b, if_pos (by rfl), D.eq, eqL_map eq_LaP]
theorem fl_int (m : Fg → Fg) (i : Int) : (D.int i).fl m = .int i := by rw [D.fl]
theorem fl_bl (m : Fg → Fg) (i : Bool) : (D.bl i).fl m = .bl i := by rw [D.fl]
theorem fl_non (m : Fg → Fg) : D.non.fl m = .non := by rw [D.fl]
theorem fl_str (m : Fg → Fg) (s : String) : (D.str s).fl m = .str s := by rw [D.fl]
theorem fl_Tb (m : Fg → Fg) (xs : List Int) : (T xs).fl m = T xs := fl_T m xs
theorem fl_Lab (m : Fg → Fg) (a b : List Int) : (La a b).fl m = La a b := fl_La m a b
theorem fl_lI (m : Fg → Fg) (f : Fg) (xs : List Int) : (D.lst f (xs.map .int)).fl m = .lst (m f) (xs.map .int) := by
  rw [D.fl, fl_ints]
theorem fl_lT (m : Fg → Fg) (f : Fg) (xs : List (List Int)) : (D.lst f (xs.map T)).fl m = .lst (m f) (xs.map T) := by
  rw [D.fl, flL_pl m _ (pl_map pl_T xs)]
theorem fl_lLa (m : Fg → Fg) (f : Fg) (xs : List (List Int × List Int)) : (D.lst f (xs.map LaP)).fl m = .lst (m f) (xs.map LaP) := by
  rw [D.fl, flL_pl m _ (pl_map (fun p => pl_La p.1 p.2) xs)]
theorem flL_cons (m : Fg → Fg) (x : D) (xs : List D) : flL m (x :: xs) = x.fl m :: flL m xs := by rw [flL]
theorem flL_nil (m : Fg → Fg) : flL m [] = [] := by rw [flL]
theorem tup_0 : D.tup [] = T [] := rfl
theorem tup_1 (i : Int) : D.tup [.int i] = T [i] := rfl
theorem sh_o : Fg.o.sh = .s := rfl
theorem sh_s : Fg.s.sh = .s := rfl
theorem sh_g : Fg.g.sh = .g := rfl
theorem sh_k : Fg.k.sh = .k := rfl
theorem gv_o : Fg.o.gv = .g := rfl
theorem gv_s : Fg.s.gv = .g := rfl
theorem gv_g : Fg.g.gv = .g := rfl
theorem gv_k : Fg.k.gv = .k := rfl
theorem share_d (d : D) : d.share = d.fl Fg.sh := rfl
section
variable (c : Ctx)
/-! walks of a name's list -/
def jValV (ro : Bool) (i : Nat) (env : Env) (o : Option (Option D)) : Ex (List D × Watch × Env) := match o with
  | some (some (.lst f xs)) => (match f with
    | .o => (if !xs.any D.own then .ok (xs, [(i, .lst .o xs)], env) else if ro then stuck "own items in a read" else .ok (shareL xs, [], freezeRoot env i))
    | _ => .ok (xs, [], env))
  | some (some (.tup xs)) => .ok (xs, [], env)
  | _ => evI c ro (.val (.var i)) env
theorem val_var {ro : Bool} {i : Nat} {env : Env} : evI c ro (.val (.var i)) env = jValV c ro i env env[i]? := by
  cases h : env[i]? with
  | none => rfl
  | some o =>
    cases o with
    | none => rfl
    | some d =>
      cases d with
      | lst f xs =>
        rw [evI, ev_varP h]
        cases f <;> rfl
      | tup xs => rw [evI, ev_varP h]; rfl
      | _ => rfl
theorem jValV_own {ro : Bool} {i : Nat} {env : Env} {xs : List D} (h : xs.any D.own = false) : jValV c ro i env (some (some (.lst .o xs))) = .ok (xs, [(i, .lst .o xs)], env) := by
  show (if (!xs.any D.own) = true then _ else _) = _
  rw [h, if_pos (by rfl)]
theorem jValV_s {ro : Bool} {i : Nat} {env : Env} {xs : List D} : jValV c ro i env (some (some (.lst .s xs))) = .ok (xs, [], env) := rfl
theorem jValV_g {ro : Bool} {i : Nat} {env : Env} {xs : List D} : jValV c ro i env (some (some (.lst .g xs))) = .ok (xs, [], env) := rfl
theorem jValV_k {ro : Bool} {i : Nat} {env : Env} {xs : List D} : jValV c ro i env (some (some (.lst .k xs))) = .ok (xs, [], env) := rfl
theorem jValV_t {ro : Bool} {i : Nat} {env : Env} {xs : List D} : jValV c ro i env (some (some (.tup xs))) = .ok (xs, [], env) := rfl
/-! .. of what is no path -/
def jValE (r : Ex (D × Env)) : Ex (List D × Watch × Env) := match r with
  | .ok (.lst f xs, e) => .ok (match f with
    | .o => shareL xs
    | _ => xs, [], e)
  | .ok (.tup xs, e) => .ok (xs, [], e)
  | .ok (.str s, e) => .ok (s.toList.map fun c => .str (String.ofList [c]), [], e)
  | .ok _ => stuck "items"
  | .error x => .error x
theorem val_np {ro : Bool} {a : E} {env : Env} (h : isPath a = false) : evI c ro (.val a) env = jValE (ev c ro true a env) := by
  rw [evI]
  cases ev c ro true a env with
  | error e => rfl
  | ok p =>
    obtain ⟨d, e⟩ := p
    cases d with
    | lst f xs =>
      cases f with
      | o =>
        simp [bind, Except.bind, items, D.own, Fg.isO, h, jValE]
      | _ => rfl
    | _ => rfl
theorem jValE_o {xs : List D} {e : Env} : jValE (.ok (.lst .o xs, e)) = .ok (shareL xs, [], e) := rfl
theorem jValE_s {xs : List D} {e : Env} : jValE (.ok (.lst .s xs, e)) = .ok (xs, [], e) := rfl
theorem jValE_g {xs : List D} {e : Env} : jValE (.ok (.lst .g xs, e)) = .ok (xs, [], e) := rfl
theorem jValE_t {xs : List D} {e : Env} : jValE (.ok (.tup xs, e)) = .ok (xs, [], e) := rfl
theorem jFor_w {t : Tg} {it : I} {body : List S} {xs : List D} {w : Watch} {e : Env} (h : apartFrom w (asgS (.forS t it body)) = true) : jFor c t it body (.ok (xs, w, e)) = forLoop w (stepF c t body) xs e := by
  show (if _ = true then _ else _) = _
  rw [h, if_pos (by rfl)]
/-! stores into a name's list -/
def jMut0 (n : String) (keep : Bool) (i : Nat) (es : List E) (env : Env) (o : Option (Option D)) : Ex (Fl × Env) := match o with
  | some (some (.lst _ _)) => jMut2 n keep i (evs c false false es env)
  | _ => exec c (.mut keep n (.var i) es) env
theorem mutv_ {n : String} {keep : Bool} {i : Nat} {es : List E} {env : Env} (hn : (n != "update") = true) : exec c (.mut keep n (.var i) es) env = jMut0 c n keep i es env env[i]? := by
  cases h : env[i]? with
  | none => rfl
  | some o =>
    cases o with
    | none => rfl
    | some d =>
      cases d with
      | lst f xs => exact mut_ c h hn
      | _ => rfl
theorem jMut0_ok {n : String} {keep : Bool} {i : Nat} {es : List E} {env : Env} {f : Fg} {xs : List D} : jMut0 c n keep i es env (some (some (.lst f xs))) = jMut2 n keep i (evs c false false es env) := rfl
def jApp (keep : Bool) (i : Nat) (x : D) (env : Env) (o : Option (Option D)) : Ex (Fl × Env) := match o with
  | some (some (.lst .o xs)) => if xs.length < line then .ok (.nx, env.set i (some (.lst .o (xs ++ [if keep then x else x.share])))) else stuck "append: long"
  | _ => jMut2 "append" keep i (.ok ([x], env))
theorem jMut_a {keep : Bool} {i : Nat} {x : D} {e : Env} : jMut2 "append" keep i (.ok ([x], e)) = jApp keep i x e e[i]? := by
  unfold jApp
  split
  · rename_i xs h
    unfold jMut2
    have : getS e i = .ok (.lst .o xs) := by unfold getS; rw [h]
    dsimp only
    rw [this]
    have e1 : (if keep = true then [x] else shareL [x]) = [if keep = true then x else x.share] := by cases keep <;> simp [flL]
    dsimp only
    rw [e1]
    show (match (if xs.length < line then (Except.ok (D.non, D.lst .o (xs ++ [if keep = true then x else x.share])) : Ex (D × D)) else stuck "append: long") with
      | .ok (_, d') => (Except.ok (Fl.nx, e.set i (some d')) : Ex (Fl × Env))
      | .error x => .error x) = _
    by_cases hl : xs.length < line
    · rw [if_pos hl, if_pos hl]
    · rw [if_neg hl, if_neg hl]; rfl
  · rfl
theorem jApp_k {i : Nat} {x : D} {e : Env} {xs : List D} (h : xs.length < line) : jApp true i x e (some (some (.lst .o xs))) = .ok (.nx, e.set i (some (.lst .o (xs ++ [x])))) := by
  show (if _ then _ else _) = _
  rw [if_pos h]; rfl
theorem jApp_f {i : Nat} {x : D} {e : Env} {xs : List D} (h : xs.length < line) : jApp false i x e (some (some (.lst .o xs))) = .ok (.nx, e.set i (some (.lst .o (xs ++ [x.share])))) := by
  show (if _ then _ else _) = _
  rw [if_pos h]; rfl
def jExt (keep : Bool) (i : Nat) (f : Fg) (ys : List D) (env : Env) (o : Option (Option D)) : Ex (Fl × Env) := match o with
  | some (some (.lst .o xs)) => if f ≠ .k ∧ xs.length + ys.length ≤ line then .ok (.nx, env.set i (some (.lst .o (xs ++ (if keep then ys else shareL ys))))) else stuck "extend: long"
  | _ => jMut2 "extend" keep i (.ok ([.lst f ys], env))
theorem flL_len (m : Fg → Fg) : ∀ xs : List D, (flL m xs).length = xs.length
  | [] => by rw [flL]
  | x :: xs => by rw [flL, List.length_cons, List.length_cons, flL_len m xs]
theorem jMut_e {keep : Bool} {i : Nat} {f : Fg} {ys : List D} {e : Env} : jMut2 "extend" keep i (.ok ([.lst f ys], e)) = jExt keep i f ys e e[i]? := by
  unfold jExt
  split
  · rename_i xs h
    unfold jMut2
    have : getS e i = .ok (.lst .o xs) := by unfold getS; rw [h]
    dsimp only
    rw [this]
    cases keep with
    | true =>
      show (match (if f ≠ .k ∧ xs.length + ys.length ≤ line then (Except.ok (D.non, D.lst .o (xs ++ ys)) : Ex (D × D)) else stuck "extend: long") with
        | .ok (_, d') => (Except.ok (Fl.nx, e.set i (some d')) : Ex (Fl × Env))
        | .error x => .error x) = _
      by_cases hl : f ≠ .k ∧ xs.length + ys.length ≤ line
      · rw [if_pos hl, if_pos hl]; rfl
      · rw [if_neg hl, if_neg hl]; rfl
    | false =>
      have e1 : shareL [.lst f ys] = [.lst f.sh (shareL ys)] := by simp [flL, D.fl]
      dsimp only
      rw [if_neg Bool.false_ne_true, e1]
      show (match (if f.sh ≠ .k ∧ xs.length + (shareL ys).length ≤ line then (Except.ok (D.non, D.lst .o (xs ++ shareL ys)) : Ex (D × D)) else stuck "extend: long") with
        | .ok (_, d') => (Except.ok (Fl.nx, e.set i (some d')) : Ex (Fl × Env))
        | .error x => .error x) = _
      have hk : f.sh ≠ .k ↔ f ≠ .k := by cases f <;> simp [Fg.sh]
      rw [show (shareL ys).length = ys.length from flL_len _ ys]
      by_cases hl : f ≠ .k ∧ xs.length + ys.length ≤ line
      · rw [if_pos hl, if_pos ⟨hk.mpr hl.1, hl.2⟩]; rfl
      · rw [if_neg hl, if_neg (fun z => hl ⟨hk.mp z.1, z.2⟩)]; rfl
  · rfl
theorem jExt_f {i : Nat} {f : Fg} {ys : List D} {e : Env} {xs : List D} (hf : f ≠ .k) (h : xs.length + ys.length ≤ line) : jExt false i f ys e (some (some (.lst .o xs))) = .ok (.nx, e.set i (some (.lst .o (xs ++ shareL ys)))) := by
  show (if _ then _ else _) = _
  rw [if_pos ⟨hf, h⟩]; rfl
end
mutual
theorem lent_pl : ∀ d : D, d.pl = true → d.lent = false
  | .non, _ => by rw [D.lent]; all_goals (intros; contradiction)
  | .bl _, _ => by rw [D.lent]; all_goals (intros; contradiction)
  | .int _, _ => by rw [D.lent]; all_goals (intros; contradiction)
  | .str _, _ => by rw [D.lent]; all_goals (intros; contradiction)
  | .tup xs, h => by rw [D.lent, lentL_pl xs (by rwa [D.pl] at h)]
  | .lst _ _, h => by rw [D.pl] at h; cases h; all_goals (intros; contradiction)
  | .dic _ _, h => by rw [D.pl] at h; cases h; all_goals (intros; contradiction)
  | .obj _ _ _, h => by rw [D.pl] at h; cases h; all_goals (intros; contradiction)
theorem lentL_pl : ∀ xs : List D, plL xs = true → lentL xs = false
  | [], _ => by rw [lentL]
  | x :: xs, h => by
    rw [plL, Bool.and_eq_true] at h
    rw [lentL, lent_pl x h.1, lentL_pl xs h.2]; rfl
end
theorem lent_T (xs : List Int) : (T xs).lent = false := lent_pl _ (pl_T xs)
theorem lent_La (a b : List Int) : (La a b).lent = false := lent_pl _ (pl_La a b)
theorem lent_int (i : Int) : (D.int i).lent = false := lent_pl _ (by rw [D.pl])
theorem lent_bl (i : Bool) : (D.bl i).lent = false := lent_pl _ (by rw [D.pl])
theorem lent_non : D.non.lent = false := lent_pl _ (by rw [D.pl])
theorem lent_str (s : String) : (D.str s).lent = false := lent_pl _ (by rw [D.pl])
theorem lent_lo {xs : List D} (h : plL xs = true) : (D.lst .o xs).lent = false := by
  rw [D.lent, lentL_pl xs h]; rfl
theorem lent_lI (xs : List Int) : (D.lst .o (xs.map .int)).lent = false := lent_lo (pl_map (fun a => by rw [D.pl]) xs)
theorem lent_lT (xs : List (List Int)) : (D.lst .o (xs.map T)).lent = false := lent_lo (pl_map pl_T xs)
theorem lent_lLa (xs : List (List Int × List Int)) : (D.lst .o (xs.map LaP)).lent = false := lent_lo (pl_map (fun p => pl_La p.1 p.2) xs)
theorem lent_ls {xs : List D} (h : plL xs = true) : (D.lst .s xs).lent = false := by
  rw [D.lent, lentL_pl xs h]; rfl
theorem lent_sI (xs : List Int) : (D.lst .s (xs.map .int)).lent = false := lent_ls (pl_map (fun a => by rw [D.pl]) xs)
theorem lent_sT (xs : List (List Int)) : (D.lst .s (xs.map T)).lent = false := lent_ls (pl_map pl_T xs)
theorem lent_sLa (xs : List (List Int × List Int)) : (D.lst .s (xs.map LaP)).lent = false := lent_ls (pl_map (fun p => pl_La p.1 p.2) xs)
theorem own_lI (xs : List Int) : (xs.map D.int).any D.own = false := own_ints xs
theorem own_lT (xs : List (List Int)) : (xs.map T).any D.own = false := any_pl (pl_map pl_T xs)
theorem own_lLa (xs : List (List Int × List Int)) : (xs.map LaP).any D.own = false := any_pl (pl_map (fun p => pl_La p.1 p.2) xs)
theorem own_o {xs : List D} : (D.lst .o xs).own = true := Eq.trans rfl rfl
/-- an own list at a name, handed on -/
theorem kVar_own {i : Nat} {env : Env} {xs : List D} : kVar false false i env (some (some (.lst .o xs))) = .ok (.lst .s (shareL xs), env.set i (some (.lst .s (shareL xs)))) := by
  have e : (D.lst .o xs).share = .lst .s (shareL xs) := by show D.fl Fg.sh _ = _; rw [D.fl]; rfl
  show (Except.ok ((D.lst .o xs).share, env.set i (some (D.lst .o xs).share)) : Ex (D × Env)) = _
  rw [e]
theorem shareL_I (xs : List Int) : shareL (xs.map .int) = xs.map .int := share_ints xs
theorem shareL_T (xs : List (List Int)) : shareL (xs.map T) = xs.map T := flL_pl _ _ (pl_map pl_T xs)
theorem shareL_La (xs : List (List Int × List Int)) : shareL (xs.map LaP) = xs.map LaP := flL_pl _ _ (pl_map (fun p => pl_La p.1 p.2) xs)
theorem isL_l (c : Ctx) (f : Fg) (xs : List D) : isOf c (.lst f xs) "list" = .ok true := rfl
theorem isL_T (c : Ctx) (xs : List D) : isOf c (.tup xs) "tuple" = .ok true := rfl
theorem isPath_call {f : String} {es : List E} : isPath (.call f es) = false := Eq.trans rfl rfl
theorem isPath_bi {f : String} {es : List E} : isPath (.bi f es) = false := Eq.trans rfl rfl
theorem isPath_bin {o : Op} {a b : E} : isPath (.bin o a b) = false := Eq.trans rfl rfl
theorem isPath_lst {es : List E} : isPath (.lst es) = false := Eq.trans rfl rfl
theorem isPath_tup {es : List E} : isPath (.tup es) = false := Eq.trans rfl rfl
theorem isPath_slc {a : E} {l h : Option E} : isPath (.slc a l h) = false := Eq.trans rfl rfl
theorem isPath_comp {k o : Bool} {t : List Nat} {it : I} {q : Option E} {e : E} : isPath (.comp k t o it q e) = false := Eq.trans rfl rfl
theorem isPath_meth {a : E} {n : String} {es : List E} : isPath (.meth a n es) = false := Eq.trans rfl rfl
theorem bin_lst {f g : Fg} {a b : List D} (hl : a.length + b.length ≤ line) (hf : f ≠ .k) (hg : g ≠ .k) (ho : (a ++ b).any D.own = false) : binop .add (.lst f a) (.lst g b) = .ok (.lst .o (a ++ b)) := by
  show (if a.length + b.length ≤ line ∧ f ≠ .k ∧ g ≠ .k then (if (a ++ b).any D.own = true then _ else _) else _) = _
  rw [if_pos ⟨hl, hf, hg⟩, ho, if_neg Bool.false_ne_true]
theorem settle_nl {ro : Bool} {es : List E} {ds : List D} {r : D} {env : Env} (h : r.lent = false) : settle ro es ds r env = .ok (r, env) := by
  unfold settle
  split
  · rfl
  · rw [h]; rfl
theorem isO_int (c : Ctx) (i : Int) : isOf c (.int i) "bool" = .ok false := rfl
theorem cmp_neB (c : Ctx) (a b : Bool) : cmpD c .ne (.bl a) (.bl b) = .ok (!(a == b)) := rfl
theorem cmp_eqN (c : Ctx) : cmpD c .eq .non .non = .ok true := rfl
theorem isB_bl (c : Ctx) (b : Bool) : isOf c (.bl b) "bool" = .ok true := rfl
theorem isB_non (c : Ctx) : isOf c .non "bool" = .ok false := rfl
theorem isN_int (i : Int) : (D.int i).isNone = false := rfl
theorem isN_non : D.non.isNone = true := rfl
theorem compLoop_enc {α : Type} {step : D → Env → Ex (Option D × Env)} {e0 : Env} {w : Watch} (g : α → D) (F : α → Option D) (hw : stands w e0 = true) : ∀ {ts : List α}, (∀ t ∈ ts, step (g t) e0 = .ok (F t, e0)) → compLoop w step (ts.map g) e0 = .ok (ts.filterMap F, e0)
  | [], _ => by rw [List.map_nil, compLoop, if_pos hw]; rfl
  | t :: ts, h => by
    rw [List.map_cons, compLoop]
    simp only [hw, Bool.not_true, Bool.false_eq_true, if_false, h t List.mem_cons_self, bk, compLoop_enc g F hw fun y hy => h y (List.mem_cons_of_mem _ hy)]
    cases hg : F t with
    | none => rw [List.filterMap_cons_none hg]
    | some d => rw [List.filterMap_cons_some hg]
/-- a comprehension over a row of like things -/
theorem kComp_enc {α : Type} (c : Ctx) {t : List Nat} {one ro keep : Bool} {cond : Option E} {elt : E} {w : Watch} (g : α → D) (F : α → Option D) {ts : List α} {env1 : Env} (hl : ts.length ≤ line) (hw : apartFrom w t = true) (hs : stands w (wipeE t env1) = true)
    (h : ∀ x ∈ ts, cStep c t one ro cond elt keep (g x) (wipeE t env1) = .ok (F x, wipeE t env1)) : kComp c t one ro cond elt keep (.ok (ts.map g, w, env1)) = .ok (.lst .o (ts.filterMap F), env1) := by
  unfold kComp
  dsimp only
  have : (apartFrom w t && decide ((ts.map g).length ≤ line)) = true := by
    rw [List.length_map, decide_eq_true hl, hw]; rfl
  rw [if_pos this, compLoop_enc g F hs h]
  show Except.ok (D.lst .o (ts.filterMap F), resE t env1 (wipeE t env1)) = _
  rw [resE_self]
theorem filterMap_if {α β : Type} (q : α → Bool) (f : α → β) : ∀ ts : List α, (ts.filterMap fun t => if q t = true then some (f t) else none) = (ts.filter q).map f
  | [] => rfl
  | t :: ts => by
    cases h : q t with
    | true => rw [List.filterMap_cons_some (b := f t) (by simp [h]), List.filter_cons_of_pos h, List.map_cons, filterMap_if q f ts]
    | false => rw [List.filterMap_cons_none (by simp [h]), List.filter_cons_of_neg (by simp [h]), filterMap_if q f ts]
theorem filterMap_all {α β : Type} (f : α → β) (ts : List α) : (ts.filterMap fun t => some (f t)) = ts.map f := by
  rw [← List.filterMap_eq_map]; rfl
/-- a loop that grows a list: what each turn adds -/
theorem forLoop_acc {α β : Type} {w : Watch} {step : D → Env → Ex (Fl × Env)} (g : α → D) (F : α → List β) (I : List β → Env → Prop) (hw : ∀ acc env, I acc env → stands w env = true) : ∀ (ts : List α) (acc : List β) (env : Env), I acc env →
    (∀ t ∈ ts, ∀ pre env, pre.length + (F t).length ≤ (acc ++ ts.flatMap F).length → I pre env → ∃ env', step (g t) env = .ok (.nx, env') ∧ I (pre ++ F t) env') →
    ∃ env', forLoop w step (ts.map g) env = .ok (.nx, env') ∧ I (acc ++ ts.flatMap F) env'
  | [], acc, env, h0, _ => by
    refine ⟨env, ?_, by rw [List.flatMap_nil, List.append_nil]; exact h0⟩
    rw [List.map_nil, forLoop, if_pos (hw _ _ h0)]
  | t :: ts, acc, env, h0, h => by
    obtain ⟨e1, h1, h2⟩ := h t List.mem_cons_self acc env (by rw [List.flatMap_cons, List.length_append, List.length_append]; omega) h0
    obtain ⟨e2, h3, h4⟩ := forLoop_acc g F I hw ts (acc ++ F t) e1 h2 fun u hu pre env hl hI => h u (List.mem_cons_of_mem _ hu) pre env (by
      rw [List.flatMap_cons, ← List.append_assoc]; exact hl) hI
    refine ⟨e2, ?_, by rw [List.flatMap_cons, ← List.append_assoc]; exact h4⟩
    rw [List.map_cons, forLoop, hw _ _ h0]
    simp only [Bool.not_true, Bool.false_eq_true, if_false, h1, bk]
    exact h3
end Lz
end

section
/-! lassos: plain mathematics -/
namespace Las
/-- the letter at a place -/
def ltr (b l : List Int) (i : Nat) : Int := if i < b.length then b.getD i 0 else l.getD ((i - b.length) % l.length) 0
def ltrs (b l : List Int) (m : Nat) : List Int := (List.range m).map (ltr b l)
def cnt (b1 l1 b2 l2 : List Int) : Nat := b1.length + b2.length + 2 * l1.length * l2.length + 1
/-- from s on the word comes again behind d letters -/
def EP (w : Nat → Int) (s d : Nat) : Prop := ∀ i, s ≤ i → w (i + d) = w i
theorem EP.mono {w : Nat → Int} {s t d : Nat} (h : EP w s d) (hs : s ≤ t) : EP w t d := fun i hi => h i (Nat.le_trans hs hi)
theorem EP.add {w : Nat → Int} {s d e : Nat} (h : EP w s d) (h2 : EP w s e) : EP w s (d + e) := fun i hi => by
  rw [← Nat.add_assoc, h2 (i + d) (by omega), h i hi]
theorem EP.mul {w : Nat → Int} {s d : Nat} (h : EP w s d) : ∀ k, EP w s (k * d)
  | 0 => fun i hi => by rw [Nat.zero_mul]; rfl
  | k + 1 => by rw [Nat.succ_mul]; exact (EP.mul h k).add h
theorem EP.sub {w : Nat → Int} {s d e : Nat} (h : EP w s (d + e)) (h2 : EP w s e) : EP w s d := fun i hi => by
  rw [← h2 (i + d) (by omega), Nat.add_assoc, h i hi]
theorem EP.mod {w : Nat → Int} {s d e : Nat} (h : EP w s d) (h2 : EP w s e) : EP w s (d % e) := by
  have q : d % e + d / e * e = d := by rw [Nat.mul_comm]; exact Nat.mod_add_div d e
  exact EP.sub (e := d / e * e) (by rw [q]; exact h) (h2.mul _)
theorem ltr_ep (b l : List Int) : EP (ltr b l) b.length l.length := fun i hi => by
  unfold ltr
  rw [if_neg (by omega), if_neg (by omega), show i + l.length - b.length = i - b.length + l.length by omega, Nat.add_mod_right]
/-- words that are one up to a place, and that come again there -/
theorem eq_of_ep {w v : Nat → Int} {s d : Nat} (hd : 0 < d) (h1 : EP w s d) (h2 : EP v s d) {m : Nat} (hm : s + d ≤ m) (he : ∀ i, i < m → w i = v i) : ∀ i, w i = v i := by
  intro i
  induction i using Nat.strongRecOn with
  | ind i ih =>
    rcases Nat.lt_or_ge i m with q | q
    · exact he i q
    · obtain ⟨j, rfl⟩ : ∃ j, i = j + d := ⟨i - d, by omega⟩
      rw [h1 j (by omega), h2 j (by omega)]
      exact ih j (by omega)
theorem ltrs_eq {b l b' l' : List Int} {m : Nat} : ltrs b l m = ltrs b' l' m ↔ ∀ i, i < m → ltr b l i = ltr b' l' i := by
  unfold ltrs
  rw [List.map_inj_left]
  simp only [List.mem_range]
/-- so many letters tell -/
theorem cnt_tells {b l b' l' : List Int} (hl : 0 < l.length) (hl' : 0 < l'.length) {m : Nat} (hm : cnt b l b' l' ≤ m) (h : ∀ i, i < m → ltr b l i = ltr b' l' i) : ∀ i, ltr b l i = ltr b' l' i := by
  have hp : 0 < l.length * l'.length := Nat.mul_pos hl hl'
  refine eq_of_ep (s := b.length + b'.length) (d := l.length * l'.length) (m := m) hp ?_ ?_ ?_ h
  · have := (ltr_ep b l).mul l'.length
    rw [Nat.mul_comm] at this
    exact this.mono (by omega)
  · exact ((ltr_ep b' l').mul l.length).mono (by omega)
  · unfold cnt at hm
    rw [Nat.mul_assoc] at hm
    omega
theorem agree_iff {b l b' l' : List Int} (hl : 0 < l.length) (hl' : 0 < l'.length) : ltrs b l (cnt b l b' l') = ltrs b' l' (cnt b l b' l') ↔ ltr b l = ltr b' l' := by
  rw [ltrs_eq]
  constructor
  · intro h
    funext i
    exact cnt_tells hl hl' (Nat.le_refl _) h i
  · intro h i _
    rw [h]
/-- the first letters of a word make the lasso -/
theorem ltr_lt {b l : List Int} {i : Nat} (h : i < b.length) : ltr b l i = b.getD i 0 := by
  unfold ltr; rw [if_pos h]
theorem ltr_loop {b l : List Int} {i : Nat} (h : i < l.length) : ltr b l (b.length + i) = l.getD i 0 := by
  unfold ltr; rw [if_neg (by omega), Nat.add_sub_cancel_left, Nat.mod_eq_of_lt h]
theorem list_ext {a b : List Int} (h : a.length = b.length) (he : ∀ i, i < a.length → a.getD i 0 = b.getD i 0) : a = b := by
  apply List.ext_getElem? 
  intro i
  rcases Nat.lt_or_ge i a.length with q | q
  · have := he i q
    rw [List.getD_eq_getElem?_getD, List.getD_eq_getElem?_getD, List.getElem?_eq_getElem q, List.getElem?_eq_getElem (h ▸ q)] at this
    rw [List.getElem?_eq_getElem q, List.getElem?_eq_getElem (h ▸ q)]
    exact congrArg some this
  · rw [List.getElem?_eq_none q, List.getElem?_eq_none (h ▸ q)]
theorem lasso_ext {b l b' l' : List Int} (h : ltr b l = ltr b' l') (hb : b.length = b'.length) (hl : l.length = l'.length) : b = b' ∧ l = l' := by
  constructor
  · refine list_ext hb fun i hi => ?_
    rw [← ltr_lt (l := l) hi, ← ltr_lt (l := l') (hb ▸ hi), h]
  · refine list_ext hl fun i hi => ?_
    rw [← ltr_loop (b := b) hi, ← ltr_loop (b := b') (hl ▸ hi), h, hb]
/-- the least lasso of a word -/
structure Least (w : Nat → Int) (b l : List Int) : Prop where
  word : ltr b l = w
  pos : 0 < l.length
  size : ∀ s d, 0 < d → EP w s d → l.length ≤ d
  start : ∀ s, EP w s l.length → b.length ≤ s
theorem Least.ep {w : Nat → Int} {b l : List Int} (h : Least w b l) : EP w b.length l.length := by
  rw [← h.word]; exact ltr_ep b l
theorem Least.uniq {w : Nat → Int} {b l b' l' : List Int} (h : Least w b l) (h' : Least w b' l') : b = b' ∧ l = l' := by
  have hl : l.length = l'.length := Nat.le_antisymm (h.size _ _ h'.pos h'.ep) (h'.size _ _ h.pos h.ep)
  have hb : b.length = b'.length := Nat.le_antisymm (h.start _ (by rw [hl]; exact h'.ep)) (h'.start _ (by rw [← hl]; exact h.ep))
  exact lasso_ext (h.word.trans h'.word.symm) hb hl
/-! ### the least loop -/
theorem ltr_nil {l : List Int} (i : Nat) : ltr [] l i = l.getD (i % l.length) 0 := by
  unfold ltr
  rw [if_neg (by simp)]
  simp
/-- a shift of the loop's word -/
theorem ep_loop {b l : List Int} {s d : Nat} (h : EP (ltr b l) s d) (hl : 0 < l.length) : EP (ltr [] l) 0 d := by
  intro i _
  have e : ∀ j, ltr [] l j = ltr b l (b.length + j + s * l.length) := fun j => by
    rw [((ltr_ep b l).mul s) (b.length + j) (by omega)]
    rw [ltr_nil]
    unfold ltr
    rw [if_neg (Nat.not_lt.mpr (Nat.le_add_right _ _)), Nat.add_sub_cancel_left]
  rw [e, e, show b.length + (i + d) + s * l.length = b.length + i + s * l.length + d by omega]
  refine h _ ?_
  have : s * 1 ≤ s * l.length := Nat.mul_le_mul_left s hl
  omega
theorem loop_ep {b l : List Int} {d : Nat} (h : EP (ltr [] l) 0 d) : EP (ltr b l) b.length d := by
  intro i hi
  have e : ∀ j, b.length ≤ j → ltr b l j = ltr [] l (j - b.length) := fun j hj => by
    unfold ltr
    rw [if_neg (by omega), if_neg (by simp)]
    simp
  rw [e _ (by omega), e _ hi, show i + d - b.length = i - b.length + d by omega]
  exact h _ (by omega)
theorem take_word {l : List Int} {d : Nat} (hd : 0 < d) (hd2 : d ≤ l.length) (h : EP (ltr [] l) 0 d) : ltr [] (l.take d) = ltr [] l := by
  funext i
  have hm : i % d < d := Nat.mod_lt _ hd
  have hlen : (l.take d).length = d := by rw [List.length_take]; omega
  have e : i % d + i / d * d = i := by rw [Nat.mul_comm]; exact Nat.mod_add_div i d
  have e1 : ltr [] l i = ltr [] l (i % d) := by
    have := (h.mul (i / d)) (i % d) (by omega)
    rw [e] at this
    exact this
  rw [e1, ltr_nil, ltr_nil, hlen, Nat.mod_eq_of_lt (show i % d < l.length by omega)]
  rw [List.getD_eq_getElem?_getD, List.getD_eq_getElem?_getD, List.getElem?_take, if_pos hm]
theorem word_take {l : List Int} {d : Nat} (hd2 : d ≤ l.length) (h : ltr [] (l.take d) = ltr [] l) : EP (ltr [] l) 0 d := by
  have hlen : (l.take d).length = d := by rw [List.length_take]; omega
  have := ltr_ep [] (l.take d)
  rw [h, hlen] at this
  exact this
/-- the loop is so many times its first d letters -/
def perD (l : List Int) (d : Nat) : Bool := decide (l.length % d = 0) && decide ((List.replicate (l.length / d) (l.take d)).flatten = l)
def lloop (l : List Int) : List Int := match (List.range' 1 (l.length - 1)).find? (perD l) with
  | some d => l.take d
  | none => l
theorem getD_append_left {a b : List Int} {i : Nat} (h : i < a.length) : (a ++ b).getD i 0 = a.getD i 0 := by
  rw [List.getD_eq_getElem?_getD, List.getD_eq_getElem?_getD, List.getElem?_append_left h]
theorem getD_append_right {a b : List Int} {i : Nat} (h : a.length ≤ i) : (a ++ b).getD i 0 = b.getD (i - a.length) 0 := by
  rw [List.getD_eq_getElem?_getD, List.getD_eq_getElem?_getD, List.getElem?_append_right h]
theorem rep_get (a : List Int) : ∀ (k i : Nat), i < k * a.length → (List.replicate k a).flatten.getD i 0 = a.getD (i % a.length) 0
  | 0, i, h => by rw [Nat.zero_mul] at h; omega
  | k + 1, i, h => by
    rw [List.replicate_succ, List.flatten_cons]
    rcases Nat.lt_or_ge i a.length with q | q
    · rw [getD_append_left q, Nat.mod_eq_of_lt q]
    · rw [getD_append_right q, rep_get a k (i - a.length) (by rw [Nat.succ_mul] at h; omega)]
      congr 1
      rw [← Nat.mod_eq_sub_mod q]
theorem rep_len (a : List Int) (k : Nat) : (List.replicate k a).flatten.length = k * a.length := by
  rw [List.length_flatten, List.map_replicate, List.sum_replicate_nat]
theorem perD_iff {l : List Int} {d : Nat} (hd : 0 < d) (hd2 : d ≤ l.length) : perD l d = true ↔ (l.length % d = 0 ∧ EP (ltr [] l) 0 d) := by
  unfold perD
  rw [Bool.and_eq_true, decide_eq_true_eq, decide_eq_true_eq]
  have hlen : (l.take d).length = d := by rw [List.length_take]; omega
  constructor
  · rintro ⟨h0, h1⟩
    refine ⟨h0, word_take hd2 ?_⟩
    have hdiv : l.length / d * d = l.length := Nat.div_mul_cancel (Nat.dvd_of_mod_eq_zero h0)
    funext i
    rw [ltr_nil, ltr_nil, hlen]
    have := rep_get (l.take d) (l.length / d) (i % l.length) (by rw [hlen, hdiv]; exact Nat.mod_lt _ (by omega))
    rw [h1, hlen] at this
    rw [this, Nat.mod_mod_of_dvd i (Nat.dvd_of_mod_eq_zero h0)]
  · rintro ⟨h0, h1⟩
    have hdiv : l.length / d * d = l.length := Nat.div_mul_cancel (Nat.dvd_of_mod_eq_zero h0)
    refine ⟨h0, list_ext (by rw [rep_len, hlen, hdiv]) fun i hi => ?_⟩
    rw [rep_len, hlen, hdiv] at hi
    rw [rep_get _ _ _ (by rw [hlen, hdiv]; exact hi), hlen]
    have := congrFun (take_word hd hd2 h1) i
    rw [ltr_nil, ltr_nil, hlen, Nat.mod_eq_of_lt hi] at this
    exact this
/-- a least period of the loop -/
structure Per (l : List Int) (p : Nat) : Prop where
  pos : 0 < p
  le : p ≤ l.length
  ep : EP (ltr [] l) 0 p
  least : ∀ d, 0 < d → EP (ltr [] l) 0 d → p ≤ d
theorem Per.uniq {l : List Int} {p q : Nat} (h : Per l p) (h' : Per l q) : p = q := Nat.le_antisymm (h.least _ h'.pos h'.ep) (h'.least _ h.pos h.ep)
theorem per_div {l : List Int} {d : Nat} (hd : 0 < d) (hl : 0 < l.length) (h : EP (ltr [] l) 0 d) (hm : ∀ e, 0 < e → e < d → ¬ EP (ltr [] l) 0 e) : l.length % d = 0 := by
  have h1 : EP (ltr [] l) 0 (l.length % d) := EP.mod (ltr_ep [] l) h
  rcases Nat.eq_zero_or_pos (l.length % d) with q | q
  · exact q
  · exact absurd h1 (hm _ q (Nat.mod_lt _ hd))
theorem least_ex (P : Nat → Prop) : ∀ n, P n → ∃ m, m ≤ n ∧ P m ∧ ∀ k, k < m → ¬ P k := by
  intro n
  induction n using Nat.strongRecOn with
  | ind n ih =>
    intro h
    rcases Classical.em (∃ m, m < n ∧ P m) with ⟨m, hm, hp⟩ | hn
    · obtain ⟨k, h1, h2, h3⟩ := ih m hm hp
      exact ⟨k, by omega, h2, h3⟩
    · exact ⟨n, Nat.le_refl _, h, fun k hk hp => hn ⟨k, hk, hp⟩⟩
theorem per_ex {l : List Int} (hl : 0 < l.length) : ∃ p, Per l p := by
  obtain ⟨m, h1, ⟨h2, h3⟩, h4⟩ := least_ex (fun d => 0 < d ∧ EP (ltr [] l) 0 d) l.length ⟨hl, ltr_ep [] l⟩
  refine ⟨m, h2, h1, h3, fun d hd he => ?_⟩
  rcases Nat.lt_or_ge d m with q | q
  · exact absurd ⟨hd, he⟩ (h4 d q)
  · exact q
theorem find_first {p : Nat → Bool} : ∀ (n s m : Nat), s ≤ m → m < s + n → p m = true → (∀ k, s ≤ k → k < m → p k = false) → (List.range' s n).find? p = some m
  | 0, s, m, h1, h2, _, _ => by omega
  | n + 1, s, m, h1, h2, h3, h4 => by
    rw [List.range'_succ, List.find?_cons]
    rcases Nat.eq_or_lt_of_le h1 with q | q
    · subst q
      rw [h3]
    · rw [h4 s (Nat.le_refl _) q]
      exact find_first n (s + 1) m (by omega) (by omega) h3 fun k hk hk2 => h4 k (by omega) hk2
theorem lloop_eq {l : List Int} {p : Nat} (h : Per l p) : lloop l = l.take p := by
  have hl : 0 < l.length := Nat.lt_of_lt_of_le h.pos h.le
  have h0 := per_div h.pos hl h.ep fun e he he2 hq => absurd (h.least e he hq) (by omega)
  unfold lloop
  rcases Nat.eq_or_lt_of_le h.le with q | q
  · have : (List.range' 1 (l.length - 1)).find? (perD l) = none := by
      rw [List.find?_eq_none]
      intro d hd hp
      rw [List.mem_range'_1] at hd
      have := ((perD_iff (by omega) (by omega)).mp hp).2
      have := h.least d (by omega) this
      omega
    rw [this, q, List.take_length]
  · rw [find_first (l.length - 1) 1 p h.pos (by omega) ((perD_iff h.pos h.le).mpr ⟨h0, h.ep⟩) fun k hk hk2 => by
      cases hq : perD l k with
      | false => rfl
      | true =>
        have := ((perD_iff (by omega) (by omega)).mp hq).2
        have := h.least k (by omega) this
        omega]
/-! ### the least lasso -/
def rot (l : List Int) : List Int := l.drop (l.length - 1) ++ l.dropLast
/-- the beginning taken into the loop, as far as it goes -/
def unroll : Nat → List Int → List Int → List Int × List Int
  | 0, b, l => (b, l)
  | k + 1, b, l => if b ≠ [] ∧ b.getLast? = l.getLast? then unroll k b.dropLast (rot l) else (b, l)
def llasso (b l : List Int) : List Int × List Int := unroll b.length b (lloop l)
theorem rot_len {l : List Int} (h : 0 < l.length) : (rot l).length = l.length := by
  unfold rot
  rw [List.length_append, List.length_drop, List.length_dropLast]; omega
theorem getD_dropLast {l : List Int} {i : Nat} (h : i < l.length - 1) : l.dropLast.getD i 0 = l.getD i 0 := by
  rw [List.getD_eq_getElem?_getD, List.getD_eq_getElem?_getD, List.getElem?_dropLast, if_pos h]
theorem getLast_getD {l : List Int} (h : 0 < l.length) : l.getLast? = some (l.getD (l.length - 1) 0) := by
  rw [List.getLast?_eq_getElem?, List.getD_eq_getElem?_getD, List.getElem?_eq_getElem (by omega)]
  rfl
theorem rot_get {l : List Int} (h : 0 < l.length) {i : Nat} (hi : i < l.length) : (rot l).getD i 0 = l.getD ((i + (l.length - 1)) % l.length) 0 := by
  unfold rot
  have hd : (l.drop (l.length - 1)).length = 1 := by rw [List.length_drop]; omega
  rcases Nat.eq_zero_or_pos i with q | q
  · subst q
    rw [getD_append_left (by omega), Nat.zero_add, Nat.mod_eq_of_lt (by omega), List.getD_eq_getElem?_getD, List.getD_eq_getElem?_getD, List.getElem?_drop, Nat.add_zero]
  · rw [getD_append_right (by omega), hd, getD_dropLast (by omega), show i + (l.length - 1) = i - 1 + l.length by omega, Nat.add_mod_right, Nat.mod_eq_of_lt (by omega)]
theorem roll_word {b l : List Int} (hl : 0 < l.length) (hb : b ≠ []) (h : b.getLast? = l.getLast?) : ltr b.dropLast (rot l) = ltr b l := by
  have hbl : 0 < b.length := List.length_pos_iff.mpr hb
  rw [getLast_getD hbl, getLast_getD hl] at h
  have h : b.getD (b.length - 1) 0 = l.getD (l.length - 1) 0 := Option.some.inj h
  funext i
  unfold ltr
  rw [List.length_dropLast, rot_len hl]
  rcases Nat.lt_or_ge i (b.length - 1) with q | q
  · rw [if_pos q, if_pos (by omega), getD_dropLast q]
  · rw [if_neg (by omega), rot_get hl (Nat.mod_lt _ hl), Nat.mod_add_mod]
    rcases Nat.eq_or_lt_of_le q with q2 | q2
    · rw [if_pos (by omega), ← q2, Nat.sub_self, Nat.zero_add, Nat.mod_eq_of_lt (by omega), h]
    · rw [if_neg (by omega), show i - (b.length - 1) + (l.length - 1) = i - b.length + l.length by omega, Nat.add_mod_right]
theorem unroll_spec : ∀ (k : Nat) (b l : List Int), 0 < l.length → b.length ≤ k → ltr (unroll k b l).1 (unroll k b l).2 = ltr b l ∧ (unroll k b l).2.length = l.length ∧ (unroll k b l).1.length ≤ b.length ∧ ((unroll k b l).1 = [] ∨ (unroll k b l).1.getLast? ≠ (unroll k b l).2.getLast?)
  | 0, b, l, hl, hb => by
    unfold unroll
    exact ⟨rfl, rfl, Nat.le_refl _, .inl (List.length_eq_zero_iff.mp (Nat.le_zero.mp hb))⟩
  | k + 1, b, l, hl, hb => by
    unfold unroll
    by_cases h : b ≠ [] ∧ b.getLast? = l.getLast?
    · rw [if_pos h]
      obtain ⟨h1, h2, h3, h4⟩ := unroll_spec k b.dropLast (rot l) (by rw [rot_len hl]; exact hl) (by rw [List.length_dropLast]; omega)
      refine ⟨h1.trans (roll_word hl h.1 h.2), h2.trans (rot_len hl), ?_, h4⟩
      rw [List.length_dropLast] at h3
      omega
    · rw [if_neg h]
      refine ⟨rfl, rfl, Nat.le_refl _, ?_⟩
      by_cases hb : b = []
      · exact .inl hb
      · exact .inr fun z => h ⟨hb, z⟩
theorem lloop_word {l : List Int} (hl : 0 < l.length) : 0 < (lloop l).length ∧ (lloop l).length ≤ l.length ∧ ltr [] (lloop l) = ltr [] l := by
  obtain ⟨p, hp⟩ := per_ex hl
  rw [lloop_eq hp]
  have := hp.pos
  have := hp.le
  exact ⟨by rw [List.length_take]; omega, by rw [List.length_take]; omega, take_word hp.pos hp.le hp.ep⟩
theorem ltr_same_loop {b l l' : List Int} (h : ltr [] l = ltr [] l') : ltr b l = ltr b l' := by
  funext i
  have := congrFun h (i - b.length)
  rw [ltr_nil, ltr_nil] at this
  unfold ltr
  split
  · rfl
  · exact this
theorem llasso_least {b l : List Int} (hl : 0 < l.length) : Least (ltr b l) (llasso b l).1 (llasso b l).2 ∧ (llasso b l).1.length ≤ b.length ∧ (llasso b l).2.length ≤ l.length := by
  obtain ⟨p, hp⟩ := per_ex hl
  obtain ⟨h1, h2, h3⟩ := lloop_word hl
  obtain ⟨h4, h5, h6, h7⟩ := unroll_spec b.length b (lloop l) h1 (Nat.le_refl _)
  have hlen : (lloop l).length = p := by rw [lloop_eq hp, List.length_take]; have := hp.le; omega
  have hw : ltr (llasso b l).1 (llasso b l).2 = ltr b l := h4.trans (ltr_same_loop h3)
  have hL : (llasso b l).2.length = p := h5.trans hlen
  refine ⟨⟨hw, by rw [hL]; exact hp.pos, fun s d hd he => ?_, fun s he => ?_⟩, h6, by rw [hL]; exact hp.le⟩
  · rw [hL]
    exact hp.least d hd (ep_loop he hl)
  · rcases h7 with h7 | h7
    · rw [show (llasso b l).1 = [] from h7]; exact Nat.zero_le _
    · rcases Nat.lt_or_ge s (llasso b l).1.length with q | q
      · exfalso
        apply h7
        show (llasso b l).1.getLast? = (llasso b l).2.getLast?
        generalize hB : (llasso b l).1 = B at *
        generalize hLL : (llasso b l).2 = L at *
        have hLp : 0 < L.length := by have := hp.pos; omega
        rw [getLast_getD (l := B) (by omega), getLast_getD (l := L) hLp]
        have e := he (B.length - 1) (by omega)
        rw [← hw, ltr_lt (b := B) (l := L) (i := B.length - 1) (by omega), show B.length - 1 + L.length = B.length + (L.length - 1) by omega, ltr_loop (b := B) (l := L) (by omega)] at e
        rw [e]
      · exact q
/-- the least lassos are one exactly if the words are -/
theorem llasso_iff {b l b' l' : List Int} (hl : 0 < l.length) (hl' : 0 < l'.length) : ((llasso b l).1 = (llasso b' l').1 ∧ (llasso b l).2 = (llasso b' l').2) ↔ ltr b l = ltr b' l' := by
  have h := (llasso_least (b := b) hl).1
  have h' := (llasso_least (b := b') hl').1
  constructor
  · rintro ⟨h1, h2⟩
    rw [← h.word, ← h'.word, h1, h2]
  · intro e
    rw [← e] at h'
    exact h.uniq h'
/-! ### a beginning and a loop cut out of the row of letters -/
def cnB (row : List Int) (t : Nat) : List Int := row.take t
def cnL (row : List Int) (s t : Nat) : List Int := (row.drop t).take s
theorem ltrs_get {b l : List Int} {m i : Nat} (h : i < m) : (ltrs b l m).getD i 0 = ltr b l i := by
  unfold ltrs
  rw [List.getD_eq_getElem?_getD, List.getElem?_map, List.getElem?_range h]
  rfl
theorem ltrs_len (b l : List Int) (m : Nat) : (ltrs b l m).length = m := by
  unfold ltrs
  rw [List.length_map, List.length_range]
theorem cn_get {b l : List Int} {s t m : Nat} (hs : 0 < s) (hm : t + s ≤ m) : ∀ i, i < t + s → ltr (cnB (ltrs b l m) t) (cnL (ltrs b l m) s t) i = ltr b l i := by
  intro i hi
  have hB : (cnB (ltrs b l m) t).length = t := by unfold cnB; rw [List.length_take, ltrs_len]; omega
  have hL : (cnL (ltrs b l m) s t).length = s := by unfold cnL; rw [List.length_take, List.length_drop, ltrs_len]; omega
  rcases Nat.lt_or_ge i t with q | q
  · rw [ltr_lt (by rw [hB]; exact q)]
    unfold cnB
    rw [List.getD_eq_getElem?_getD, List.getElem?_take, if_pos q, ← List.getD_eq_getElem?_getD, ltrs_get (by omega)]
  · have e : i = (cnB (ltrs b l m) t).length + (i - t) := by rw [hB]; omega
    rw [e, ltr_loop (by rw [hL]; omega), ← e]
    unfold cnL
    rw [List.getD_eq_getElem?_getD, List.getElem?_take, if_pos (by omega), List.getElem?_drop, ← List.getD_eq_getElem?_getD, show t + (i - t) = i by omega, ltrs_get (by omega)]
theorem cn_iff {b l : List Int} {s t m : Nat} (hs : 0 < s) (hm : t + s ≤ m) : ltr (cnB (ltrs b l m) t) (cnL (ltrs b l m) s t) = ltr b l ↔ EP (ltr b l) t s := by
  have hB : (cnB (ltrs b l m) t).length = t := by unfold cnB; rw [List.length_take, ltrs_len]; omega
  have hL : (cnL (ltrs b l m) s t).length = s := by unfold cnL; rw [List.length_take, List.length_drop, ltrs_len]; omega
  constructor
  · intro h
    have := ltr_ep (cnB (ltrs b l m) t) (cnL (ltrs b l m) s t)
    rw [h, hB, hL] at this
    exact this
  · intro h
    have h2 := ltr_ep (cnB (ltrs b l m) t) (cnL (ltrs b l m) s t)
    rw [hB, hL] at h2
    funext i
    exact eq_of_ep hs h2 h (Nat.le_refl _) (cn_get hs hm) i
/-- the first size, then the first start, is the least lasso -/
theorem cn_least {b l : List Int} (hl : 0 < l.length) {m : Nat} (hm : b.length + l.length ≤ m) :
    cnB (ltrs b l m) (llasso b l).1.length = (llasso b l).1 ∧ cnL (ltrs b l m) (llasso b l).2.length (llasso b l).1.length = (llasso b l).2 := by
  obtain ⟨h, h1, h2⟩ := llasso_least (b := b) hl
  have hw := (cn_iff (b := b) (l := l) (m := m) h.pos (by omega)).mpr h.ep
  have hB : (cnB (ltrs b l m) (llasso b l).1.length).length = (llasso b l).1.length := by unfold cnB; rw [List.length_take, ltrs_len]; omega
  have hL : (cnL (ltrs b l m) (llasso b l).2.length (llasso b l).1.length).length = (llasso b l).2.length := by unfold cnL; rw [List.length_take, List.length_drop, ltrs_len]; omega
  exact lasso_ext (hw.trans h.word.symm) hB hL
end Las
end

section
/-! all short words and lassos: plain mathematics -/
namespace Las
def ext (k : Nat) (w : List Int) : List (List Int) := (List.range k).map fun j : Nat => w ++ [(j : Int)]
/-- all words of a length -/
def words (k : Nat) : Nat → List (List Int)
  | 0 => [[]]
  | n + 1 => (words k n).flatMap (ext k)
theorem mem_words {k : Nat} : ∀ {n : Nat} {w : List Int}, w ∈ words k n ↔ w.length = n ∧ ∀ y ∈ w, 0 ≤ y ∧ y < (k : Int)
  | 0, w => by
    unfold words
    rw [List.mem_singleton]
    constructor
    · rintro rfl
      exact ⟨rfl, fun y h => nomatch h⟩
    · rintro ⟨h, _⟩
      exact List.length_eq_zero_iff.mp h
  | n + 1, w => by
    unfold words
    rw [List.mem_flatMap]
    constructor
    · rintro ⟨u, hu, hw⟩
      obtain ⟨h1, h2⟩ := mem_words.mp hu
      unfold ext at hw
      obtain ⟨j, hj, rfl⟩ := List.mem_map.mp hw
      rw [List.mem_range] at hj
      refine ⟨by rw [List.length_append, h1]; rfl, fun y hy => ?_⟩
      rcases List.mem_append.mp hy with hy | hy
      · exact h2 y hy
      · rw [List.mem_singleton] at hy
        omega
    · rintro ⟨h1, h2⟩
      have hne : w ≠ [] := by rintro rfl; simp at h1
      have hd := List.dropLast_concat_getLast hne
      have hl := h2 _ (List.getLast_mem hne)
      refine ⟨w.dropLast, mem_words.mpr ⟨by rw [List.length_dropLast]; omega, fun y hy => h2 y (List.dropLast_subset _ hy)⟩, ?_⟩
      unfold ext
      refine List.mem_map.mpr ⟨(w.getLast hne).toNat, List.mem_range.mpr (by omega), ?_⟩
      rw [Int.toNat_of_nonneg hl.1]
      exact hd
theorem ext_len (k : Nat) (w : List Int) : (ext k w).length = k := by
  unfold ext; rw [List.length_map, List.length_range]
theorem flatMap_len {α β : Type} {f : α → List β} {k : Nat} : ∀ {xs : List α}, (∀ x ∈ xs, (f x).length = k) → (xs.flatMap f).length = xs.length * k
  | [], _ => by simp
  | x :: xs, h => by
    rw [List.flatMap_cons, List.length_append, flatMap_len fun y hy => h y (List.mem_cons_of_mem _ hy), h x List.mem_cons_self, List.length_cons, Nat.succ_mul, Nat.add_comm]
theorem words_len (k : Nat) : ∀ n, (words k n).length = k ^ n
  | 0 => rfl
  | n + 1 => by
    unfold words
    rw [flatMap_len fun x _ => ext_len k x, words_len k n, Nat.pow_succ]
theorem nodup_flatMap {α β : Type} {f : α → List β} {xs : List α} (hx : xs.Nodup) (h1 : ∀ a ∈ xs, (f a).Nodup) (h2 : ∀ a ∈ xs, ∀ b ∈ xs, a ≠ b → ∀ x, x ∈ f a → x ∈ f b → False) : (xs.flatMap f).Nodup := by
  induction xs with
  | nil => simp
  | cons a xs ih =>
    rw [List.nodup_cons] at hx
    rw [List.flatMap_cons, List.nodup_append]
    refine ⟨h1 a List.mem_cons_self, ih hx.2 (fun b hb => h1 b (List.mem_cons_of_mem _ hb)) (fun b hb c hc => h2 b (List.mem_cons_of_mem _ hb) c (List.mem_cons_of_mem _ hc)), ?_⟩
    intro x hxa y hy e
    subst e
    obtain ⟨b, hb, hxb⟩ := List.mem_flatMap.mp hy
    exact h2 a List.mem_cons_self b (List.mem_cons_of_mem _ hb) (fun z => hx.1 (z ▸ hb)) x hxa hxb
theorem ext_nodup (k : Nat) (w : List Int) : (ext k w).Nodup := by
  unfold ext
  have h : (List.range k).Nodup := List.nodup_range
  refine List.Pairwise.map _ ?_ h
  intro a b hab e
  have := List.append_cancel_left e
  simp at this
  omega
theorem words_nodup (k : Nat) : ∀ n, (words k n).Nodup
  | 0 => by unfold words; simp
  | n + 1 => by
    unfold words
    refine nodup_flatMap (words_nodup k n) (fun a _ => ext_nodup k a) ?_
    intro a _ b _ hab x hx hy
    unfold ext at hx hy
    obtain ⟨i, _, rfl⟩ := List.mem_map.mp hx
    obtain ⟨j, _, e⟩ := List.mem_map.mp hy
    have := (List.append_inj' e rfl).1
    exact hab this.symm
/-- is it the least lasso of its word, by its form -/
def isL (b l : List Int) : Bool := ((List.range' 1 (l.length - 1)).all fun d => !perD l d) && (decide (b = []) || !decide (b.getLast? = l.getLast?))
theorem lloop_of_all {l : List Int} (h : ((List.range' 1 (l.length - 1)).all fun d => !perD l d) = true) : lloop l = l := by
  have : (List.range' 1 (l.length - 1)).find? (perD l) = none := by
    rw [List.find?_eq_none]
    intro d hd
    have := List.all_eq_true.mp h d hd
    simpa using this
  unfold lloop
  rw [this]
theorem isL_iff {b l : List Int} (hl : 0 < l.length) : isL b l = decide (llasso b l = (b, l)) := by
  have key : isL b l = true ↔ llasso b l = (b, l) := by
    unfold isL
    rw [Bool.and_eq_true, Bool.or_eq_true, decide_eq_true_eq, Bool.not_eq_true', decide_eq_false_iff_not]
    constructor
    · rintro ⟨h1, h2⟩
      unfold llasso
      rw [lloop_of_all h1]
      cases hb : b.length with
      | zero => rfl
      | succ n =>
        unfold unroll
        rw [if_neg]
        rintro ⟨q1, q2⟩
        rcases h2 with h2 | h2
        · exact q1 h2
        · exact h2 q2
    · intro h
      have h0 : (llasso b l).2 = l := by rw [h]
      have hb : (llasso b l).1 = b := by rw [h]
      obtain ⟨p1, p2, p3⟩ := lloop_word hl
      obtain ⟨u1, u2, u3, u4⟩ := unroll_spec b.length b (lloop l) p1 (Nat.le_refl _)
      have e2 : (llasso b l).2.length = (lloop l).length := u2
      rw [h0] at e2
      refine ⟨?_, ?_⟩
      · rw [List.all_eq_true]
        intro d hd
        cases hq : perD l d with
        | false => rfl
        | true =>
          exfalso
          rw [List.mem_range'_1] at hd
          obtain ⟨_, hep⟩ := (perD_iff (l := l) (d := d) (by omega) (by omega)).mp hq
          obtain ⟨p, hp⟩ := per_ex hl
          have := hp.least d (by omega) hep
          rw [lloop_eq hp, List.length_take] at e2
          omega
      · rcases u4 with u4 | u4
        · left
          rw [← hb]; exact u4
        · right
          have e1 : (unroll b.length b (lloop l)).1 = b := hb
          have e3 : (unroll b.length b (lloop l)).2 = l := h0
          rw [e1, e3] at u4
          exact u4
  cases h : isL b l with
  | true => rw [decide_eq_true (key.mp h)]
  | false =>
    rw [decide_eq_false]
    intro z
    rw [key.mpr z] at h
    cases h
/-- all least lassos with short beginnings and loops -/
def lassos (k s t : Nat) : List (List Int × List Int) :=
  (List.range' 1 t).flatMap fun sz => (words k sz).flatMap fun l => (List.range' 0 (s + 1)).flatMap fun st => (words k st).flatMap fun b => if isL b l = true then [(b, l)] else []
theorem mem_lassos {k s t : Nat} {p : List Int × List Int} : p ∈ lassos k s t ↔ 0 < p.2.length ∧ p.2.length ≤ t ∧ p.1.length ≤ s ∧ (∀ y ∈ p.1 ++ p.2, 0 ≤ y ∧ y < (k : Int)) ∧ llasso p.1 p.2 = p := by
  obtain ⟨b, l⟩ := p
  unfold lassos
  simp only [List.mem_flatMap, List.mem_range'_1, mem_words]
  constructor
  · rintro ⟨sz, h1, l', ⟨h2, h3⟩, st, h4, b', ⟨h5, h6⟩, h7⟩
    split at h7
    · rename_i hL
      rw [List.mem_singleton] at h7
      cases h7
      rw [isL_iff (by omega), decide_eq_true_eq] at hL
      refine ⟨by omega, by omega, by omega, fun y hy => ?_, hL⟩
      rcases List.mem_append.mp hy with hy | hy
      · exact h6 y hy
      · exact h3 y hy
    · cases h7
  · rintro ⟨h1, h2, h3, h4, h5⟩
    have h1 : 0 < l.length := h1
    have h2 : l.length ≤ t := h2
    have h3 : b.length ≤ s := h3
    have h4 : ∀ y ∈ b ++ l, 0 ≤ y ∧ y < (k : Int) := h4
    have h5 : llasso b l = (b, l) := h5
    refine ⟨l.length, by omega, l, ⟨rfl, fun y hy => h4 y (List.mem_append_right _ hy)⟩, b.length, by omega, b, ⟨rfl, fun y hy => h4 y (List.mem_append_left _ hy)⟩, ?_⟩
    rw [isL_iff h1, decide_eq_true h5, if_pos rfl]
    exact List.mem_singleton.mpr rfl
theorem lassos_nodup (k s t : Nat) : (lassos k s t).Nodup := by
  unfold lassos
  refine nodup_flatMap List.nodup_range' (fun sz _ => ?_) ?_
  · refine nodup_flatMap (words_nodup k sz) (fun l _ => ?_) ?_
    · refine nodup_flatMap List.nodup_range' (fun st _ => ?_) ?_
      · refine nodup_flatMap (words_nodup k st) (fun b _ => ?_) ?_
        · split
          · simp
          · simp
        · intro a _ b _ hab x hx hy
          split at hx <;> split at hy <;> simp at hx hy
          rw [hx] at hy
          cases hy
          exact hab rfl
      · intro a _ b _ hab x hx hy
        obtain ⟨u, hu, hx⟩ := List.mem_flatMap.mp hx
        obtain ⟨v, hv, hy⟩ := List.mem_flatMap.mp hy
        have h1 := (mem_words.mp hu).1
        have h2 := (mem_words.mp hv).1
        split at hx <;> split at hy <;> simp at hx hy
        rw [hx] at hy
        cases hy
        omega
    · intro a _ b _ hab x hx hy
      obtain ⟨_, _, hx⟩ := List.mem_flatMap.mp hx
      obtain ⟨u, hu, hx⟩ := List.mem_flatMap.mp hx
      obtain ⟨_, _, hy⟩ := List.mem_flatMap.mp hy
      obtain ⟨v, hv, hy⟩ := List.mem_flatMap.mp hy
      split at hx <;> split at hy <;> simp at hx hy
      rw [hx] at hy
      cases hy
      exact hab rfl
  · intro a _ b _ hab x hx hy
    obtain ⟨l1, hl1, hx⟩ := List.mem_flatMap.mp hx
    obtain ⟨_, _, hx⟩ := List.mem_flatMap.mp hx
    obtain ⟨u, hu, hx⟩ := List.mem_flatMap.mp hx
    obtain ⟨l2, hl2, hy⟩ := List.mem_flatMap.mp hy
    obtain ⟨_, _, hy⟩ := List.mem_flatMap.mp hy
    obtain ⟨v, hv, hy⟩ := List.mem_flatMap.mp hy
    have h1 := (mem_words.mp hl1).1
    have h2 := (mem_words.mp hl2).1
    split at hx <;> split at hy <;> simp at hx hy
    rw [hx] at hy
    cases hy
    omega
/-- just one of them has the word -/
theorem lassos_one {k s t : Nat} {b l : List Int} (hl : 0 < l.length) (h1 : b.length ≤ s) (h2 : l.length ≤ t) (h3 : ∀ y ∈ b ++ l, 0 ≤ y ∧ y < (k : Int)) (hm : ∀ y ∈ (llasso b l).1 ++ (llasso b l).2, y ∈ b ++ l) (q : List Int × List Int → Bool) (hq : ∀ p, 0 < p.2.length → (q p = true ↔ ltr p.1 p.2 = ltr b l)) :
    llasso b l ∈ lassos k s t ∧ ((lassos k s t).filter q).length = 1 := by
  obtain ⟨hle, q1, q2⟩ := llasso_least (b := b) hl
  have hmem : llasso b l ∈ lassos k s t := by
    refine mem_lassos.mpr ⟨hle.pos, by omega, by omega, fun y hy => h3 y (hm y hy), ?_⟩
    have h := (llasso_least (b := (llasso b l).1) hle.pos).1
    rw [hle.word] at h
    obtain ⟨e1, e2⟩ := h.uniq hle
    exact Prod.ext e1 e2
  refine ⟨hmem, ?_⟩
  have hu : ∀ p ∈ lassos k s t, (q p = true ↔ p = llasso b l) := by
    intro p hp
    obtain ⟨p1, _, _, _, p5⟩ := mem_lassos.mp hp
    rw [hq p p1]
    constructor
    · intro e
      have h := (llasso_least (b := p.1) p1).1
      rw [p5, e] at h
      obtain ⟨e1, e2⟩ := h.uniq hle
      exact Prod.ext e1 e2
    · rintro rfl
      exact hle.word
  have hn := lassos_nodup k s t
  generalize lassos k s t = L at *
  have : L.filter q = L.filter (fun p => p == llasso b l) := by
    refine List.filter_congr fun p hp => ?_
    by_cases e : p = llasso b l
    · rw [(hu p hp).mpr e, e, beq_self_eq_true]
    · have h1 : q p = false := by
        cases h : q p with
        | false => rfl
        | true => exact absurd ((hu p hp).mp h) e
      rw [h1]
      symm
      simpa using e
  rw [this, ← List.countP_eq_length_filter]
  show L.count _ = 1
  rw [hn.count, if_pos hmem]
theorem lassos_len (k s t : Nat) (hk : 0 < k) (B : Nat) (hs : s ≤ B) (ht : t ≤ B) : (lassos k s t).length ≤ t * (k ^ B * ((s + 1) * (k ^ B))) := by
  have fl : ∀ {α β : Type} (f : α → List β) (m : Nat) (xs : List α), (∀ x ∈ xs, (f x).length ≤ m) → (xs.flatMap f).length ≤ xs.length * m := by
    intro α β f m xs
    induction xs with
    | nil => intro _; simp
    | cons x xs ih =>
      intro h
      rw [List.flatMap_cons, List.length_append, List.length_cons, Nat.succ_mul]
      have := ih fun y hy => h y (List.mem_cons_of_mem _ hy)
      have := h x List.mem_cons_self
      omega
  unfold lassos
  refine Nat.le_trans (fl _ (k ^ B * ((s + 1) * (k ^ B))) _ fun sz hsz => ?_) (by rw [List.length_range']; exact Nat.le_refl _)
  rw [List.mem_range'_1] at hsz
  have hp : ∀ n, n ≤ B → k ^ n ≤ k ^ B := fun n hn => Nat.pow_le_pow_right hk hn
  refine Nat.le_trans (fl _ ((s + 1) * (k ^ B)) _ fun l _ => ?_) (Nat.mul_le_mul_right _ (by rw [words_len]; exact hp _ (by omega)))
  refine Nat.le_trans (fl _ (k ^ B) _ fun st hst => ?_) (by rw [List.length_range']; exact Nat.le_refl _)
  rw [List.mem_range'_1] at hst
  refine Nat.le_trans (fl _ 1 _ fun b _ => ?_) (by rw [words_len, Nat.mul_one]; exact hp _ (by omega))
  split <;> simp
end Las
end

section
set_option maxRecDepth 100000
namespace Las
open Lz
def f_letter_at : Lz.Fn where
  np := 2
  ns := 4
  body := [
    .asg (.tup [2, 3]) (.var 0),
    .ifS (.cmp .lt (.var 1) (.bi "len" [(.var 2)])) [
      .ret (.idx (.var 2) (.var 1))] [],
    .ret (.idx (.var 3) (.bin .mod (.bin .sub (.var 1) (.bi "len" [(.var 2)])) (.bi "len" [(.var 3)])))]

def f_tail : Lz.Fn where
  np := 2
  ns := 5
  body := [
    .asg (.tup [2, 3]) (.var 0),
    .ifS (.cmp .le (.var 1) (.bi "len" [(.var 2)])) [
      .ret (.tup [(.slc (.var 2) (some (.var 1)) none), (.var 3)])] [],
    .asg (.var 4) (.bin .mod (.bin .sub (.var 1) (.bi "len" [(.var 2)])) (.bi "len" [(.var 3)])),
    .ret (.tup [(.tup []), (.bin .add (.slc (.var 3) (some (.var 4)) none) (.slc (.var 3) none (some (.var 4))))])]

def f_least_loop : Lz.Fn where
  np := 1
  ns := 2
  body := [
    .forS (.var 1) (.rng [(.lit (.int 1)), (.bi "len" [(.var 0)])]) [
      .ifS (.andE (.cmp .eq (.bin .mod (.bi "len" [(.var 0)]) (.var 1)) (.lit (.int 0))) (.cmp .eq (.bin .mul (.slc (.var 0) none (some (.var 1))) (.bin .fdiv (.bi "len" [(.var 0)]) (.var 1))) (.var 0))) [
        .ret (.slc (.var 0) none (some (.var 1)))] []],
    .ret (.var 0)]

def f_least_lasso : Lz.Fn where
  np := 1
  ns := 3
  body := [
    .asg (.tup [1, 2]) (.var 0),
    .asg (.var 2) (.call "least_loop" [(.var 2)]),
    .whl (.andE (.cmp .ne (.var 1) (.tup [])) (.cmp .eq (.idx (.var 1) (.neg (.lit (.int 1)))) (.idx (.var 2) (.neg (.lit (.int 1)))))) [
      .asg (.var 1) (.slc (.var 1) none (some (.neg (.lit (.int 1))))),
      .asg (.var 2) (.bin .add (.slc (.var 2) (some (.neg (.lit (.int 1)))) none) (.slc (.var 2) none (some (.neg (.lit (.int 1))))))],
    .ret (.tup [(.var 1), (.var 2)])]

def f_same_word : Lz.Fn where
  np := 2
  ns := 2
  body := [
    .ret (.cmp .eq (.call "least_lasso" [(.var 0)]) (.call "least_lasso" [(.var 1)]))]

def f_first_difference : Lz.Fn where
  np := 2
  ns := 3
  body := [
    .ifS (.call "same_word" [(.var 0), (.var 1)]) [
      .ret (.lit .non)] [],
    .asg (.var 2) (.lit (.int 0)),
    .whl (.cmp .eq (.call "letter_at" [(.var 0), (.var 2)]) (.call "letter_at" [(.var 1), (.var 2)])) [
      .aug (.var 2) .add (.lit (.int 1))],
    .ret (.var 2)]

def f_law_cell : Lz.Fn where
  np := 2
  ns := 3
  body := [
    .ifS (.andE (.cmp .lt (.var 1) (.bi "len" [(.var 0)])) (.cmp .ge (.idx (.var 0) (.var 1)) (.bin .pow (.lit (.int 10)) (.lit (.int 9))))) [
      .ret (.idx (.var 0) (.var 1))] [],
    .asg (.var 2) (.bin .add (.bin .mul (.lit (.int 7)) (.var 1)) (.lit (.int 1))),
    .ifS (.cmp .gt (.bi "len" [(.var 0)]) (.lit (.int 0))) [
      .asg (.var 2) (.bin .add (.var 2) (.bin .mul (.lit (.int 31)) (.idx (.var 0) (.bin .mod (.bi "int" [(.var 1)]) (.bi "len" [(.var 0)])))))] [],
    .asg (.var 2) (.bin .mod (.bi "int" [(.bin .add (.bin .mul (.var 2) (.lit (.int 48271))) (.bin .mul (.lit (.int 69621)) (.var 1)))]) (.lit (.int 2147483647))),
    .ret (.bin .mod (.bi "int" [(.bin .add (.bin .mul (.var 2) (.lit (.int 69621))) (.bin .mul (.lit (.int 48271)) (.bin .fdiv (.var 2) (.lit (.int 1000)))))]) (.lit (.int 2147483629)))]

def f_law_at : Lz.Fn where
  np := 2
  ns := 2
  body := [
    .ifS (.cmp .lt (.var 1) (.bi "len" [(.idx (.var 0) (.lit (.int 0)))])) [
      .ret (.idx (.idx (.var 0) (.lit (.int 0))) (.var 1))] [],
    .ret (.idx (.idx (.var 0) (.lit (.int 1))) (.bin .mod (.bi "int" [(.bin .sub (.var 1) (.bi "len" [(.idx (.var 0) (.lit (.int 0)))]))]) (.bi "len" [(.idx (.var 0) (.lit (.int 1)))])))]

def f_law_letters : Lz.Fn where
  np := 2
  ns := 3
  body := [
    .ret (.comp false [2] true (.rng [(.var 1)]) none (.call "_law_at" [(.var 0), (.var 2)]))]

def f_law_same : Lz.Fn where
  np := 2
  ns := 3
  body := [
    .asg (.var 2) (.bin .add (.bin .add (.bin .add (.bi "len" [(.idx (.var 0) (.lit (.int 0)))]) (.bi "len" [(.idx (.var 1) (.lit (.int 0)))])) (.bin .mul (.bin .mul (.lit (.int 2)) (.bi "len" [(.idx (.var 0) (.lit (.int 1)))])) (.bi "len" [(.idx (.var 1) (.lit (.int 1)))]))) (.lit (.int 1))),
    .ret (.cmp .eq (.call "_law_letters" [(.var 0), (.var 2)]) (.call "_law_letters" [(.var 1), (.var 2)]))]

def f_law_word : Lz.Fn where
  np := 3
  ns := 5
  body := [
    .asg (.var 3) (.lst []),
    .forS (.var 4) (.rng [(.var 2)]) [
      .mut false "append" (.var 3) [(.bin .mod (.bi "int" [(.var 0)]) (.var 1))],
      .asg (.var 0) (.bi "int" [(.bin .add (.bin .add (.bin .fdiv (.var 0) (.var 1)) (.bin .mul (.lit (.int 13)) (.var 4))) (.lit (.int 5)))])],
    .ret (.bi "tuple" [(.var 3)])]

def f_law_lasso : Lz.Fn where
  np := 3
  ns := 5
  body := [
    .asg (.var 3) (.bin .mod (.bi "int" [(.var 0)]) (.bin .add (.var 2) (.lit (.int 1)))),
    .asg (.var 4) (.bin .add (.lit (.int 1)) (.bin .mod (.bi "int" [(.bin .fdiv (.var 0) (.bin .add (.var 2) (.lit (.int 1))))]) (.var 2))),
    .asg (.var 0) (.bi "int" [(.bin .fdiv (.var 0) (.bin .add (.bin .mul (.var 2) (.var 2)) (.var 2)))]),
    .ret (.tup [(.call "_law_word" [(.var 0), (.var 1), (.var 3)]), (.call "_law_word" [(.bin .add (.bin .fdiv (.var 0) (.lit (.int 7))) (.lit (.int 3))), (.var 1), (.var 4)])])]

def f_law_is_lasso : Lz.Fn where
  np := 2
  ns := 3
  body := [
    .ifS (.orE (.notE (.isi (.var 0) ["tuple"])) (.orE (.cmp .ne (.bi "len" [(.var 0)]) (.lit (.int 2))) (.orE (.notE (.isi (.idx (.var 0) (.lit (.int 0))) ["tuple"])) (.notE (.isi (.idx (.var 0) (.lit (.int 1))) ["tuple"]))))) [
      .ret (.lit (.bl false))] [],
    .ret (.andE (.cmp .ne (.idx (.var 0) (.lit (.int 1))) (.tup [])) (.cmp .eq (.comp false [2] true (.val (.bin .add (.idx (.var 0) (.lit (.int 0))) (.idx (.var 0) (.lit (.int 1))))) (some (.orE (.isi (.var 2) ["bool"]) (.notE (.chain .le .lt (.lit (.int 0)) (.var 2) (.var 1))))) (.var 2)) (.lst [])))]

def f_law_least : Lz.Fn where
  np := 1
  ns := 6
  body := [
    .asg (.var 1) (.bin .add (.bi "len" [(.idx (.var 0) (.lit (.int 0)))]) (.bi "len" [(.idx (.var 0) (.lit (.int 1)))])),
    .asg (.var 2) (.call "_law_letters" [(.var 0), (.bin .add (.bin .mul (.lit (.int 4)) (.var 1)) (.lit (.int 4)))]),
    .forS (.var 3) (.rng [(.lit (.int 1)), (.bin .add (.bi "len" [(.idx (.var 0) (.lit (.int 1)))]) (.lit (.int 1)))]) [
      .forS (.var 4) (.rng [(.bin .add (.bi "len" [(.idx (.var 0) (.lit (.int 0)))]) (.lit (.int 1)))]) [
        .asg (.var 5) (.tup [(.bi "tuple" [(.slc (.var 2) none (some (.var 4)))]), (.bi "tuple" [(.slc (.var 2) (some (.var 4)) (some (.bin .add (.var 4) (.var 3))))])]),
        .ifS (.call "_law_same" [(.var 5), (.var 0)]) [
          .ret (.var 5)] []]],
    .ret (.var 0)]

def f_law_difference : Lz.Fn where
  np := 2
  ns := 4
  body := [
    .asg (.var 2) (.bin .add (.bin .add (.bin .add (.bi "len" [(.idx (.var 0) (.lit (.int 0)))]) (.bi "len" [(.idx (.var 1) (.lit (.int 0)))])) (.bin .mul (.bin .mul (.lit (.int 2)) (.bi "len" [(.idx (.var 0) (.lit (.int 1)))])) (.bi "len" [(.idx (.var 1) (.lit (.int 1)))]))) (.lit (.int 1))),
    .forS (.var 3) (.rng [(.var 2)]) [
      .ifS (.cmp .ne (.call "_law_at" [(.var 0), (.var 3)]) (.call "_law_at" [(.var 1), (.var 3)])) [
        .ret (.var 3)] []],
    .ret (.lit .non)]

def f_law_second : Lz.Fn where
  np := 3
  ns := 10
  body := [
    .asg (.var 3) (.bin .mod (.bi "int" [(.var 0)]) (.lit (.int 4))),
    .asg (.var 0) (.bi "int" [(.bin .fdiv (.var 0) (.lit (.int 4)))]),
    .asg (.tup [4, 5]) (.var 1),
    .ifS (.cmp .eq (.var 3) (.lit (.int 0))) [
      .ret (.call "_law_lasso" [(.var 0), (.var 2), (.lit (.int 6))])] [],
    .asg (.var 6) (.bin .mod (.bi "int" [(.var 0)]) (.bi "len" [(.var 5)])),
    .asg (.var 7) (.tup [(.bin .add (.bin .add (.var 4) (.var 5)) (.slc (.var 5) none (some (.var 6)))), (.bin .add (.slc (.var 5) (some (.var 6)) none) (.slc (.var 5) none (some (.var 6))))]),
    .ifS (.cmp .eq (.var 3) (.lit (.int 1))) [
      .ret (.tup [(.idx (.var 7) (.lit (.int 0))), (.bin .mul (.idx (.var 7) (.lit (.int 1))) (.bin .add (.lit (.int 1)) (.bin .mod (.bi "int" [(.bin .fdiv (.var 0) (.lit (.int 64)))]) (.lit (.int 3)))))])] [],
    .asg (.var 8) (.bin .mod (.bi "int" [(.bin .fdiv (.var 0) (.lit (.int 64)))]) (.bi "len" [(.idx (.var 7) (.lit (.int 0)))])),
    .asg (.var 9) (.bin .mod (.bi "int" [(.bin .add (.idx (.idx (.var 7) (.lit (.int 0))) (.var 8)) (.lit (.int 1)))]) (.var 2)),
    .ret (.tup [(.bin .add (.bin .add (.slc (.idx (.var 7) (.lit (.int 0))) none (some (.var 8))) (.tup [(.var 9)])) (.slc (.idx (.var 7) (.lit (.int 0))) (some (.bin .add (.var 8) (.lit (.int 1)))) none)), (.idx (.var 7) (.lit (.int 1)))])]

class H_letter_at (P : Prog) : Prop where
  h : P.fns.lookup "letter_at" = some f_letter_at
class H_tail (P : Prog) : Prop where
  h : P.fns.lookup "tail" = some f_tail
class H_least_loop (P : Prog) : Prop where
  h : P.fns.lookup "least_loop" = some f_least_loop
class H_least_lasso (P : Prog) : Prop where
  h : P.fns.lookup "least_lasso" = some f_least_lasso
class H_same_word (P : Prog) : Prop where
  h : P.fns.lookup "same_word" = some f_same_word
class H_first_difference (P : Prog) : Prop where
  h : P.fns.lookup "first_difference" = some f_first_difference
class H_law_cell (P : Prog) : Prop where
  h : P.fns.lookup "_law_cell" = some f_law_cell
class H_law_at (P : Prog) : Prop where
  h : P.fns.lookup "_law_at" = some f_law_at
class H_law_letters (P : Prog) : Prop where
  h : P.fns.lookup "_law_letters" = some f_law_letters
class H_law_same (P : Prog) : Prop where
  h : P.fns.lookup "_law_same" = some f_law_same
class H_law_word (P : Prog) : Prop where
  h : P.fns.lookup "_law_word" = some f_law_word
class H_law_lasso (P : Prog) : Prop where
  h : P.fns.lookup "_law_lasso" = some f_law_lasso
class H_law_is_lasso (P : Prog) : Prop where
  h : P.fns.lookup "_law_is_lasso" = some f_law_is_lasso
class H_law_least (P : Prog) : Prop where
  h : P.fns.lookup "_law_least" = some f_law_least
class H_law_difference (P : Prog) : Prop where
  h : P.fns.lookup "_law_difference" = some f_law_difference
class H_law_second (P : Prog) : Prop where
  h : P.fns.lookup "_law_second" = some f_law_second
end Las
end

section
set_option maxRecDepth 100000
namespace Las
open Lz
variable {P : Prog}
theorem getD_some {xs : List Int} {i : Nat} (h : i < xs.length) : xs[i]? = some (xs.getD i 0) := by
  rw [List.getD_eq_getElem?_getD, List.getElem?_eq_getElem h]
  rfl
theorem sub_mod {p n m : Nat} (h : ¬ p < n) (hm : 0 < m) : ((p : Int) - (n : Int)).fmod (m : Int) = (((p - n) % m : Nat) : Int) := by
  rw [← Int.ofNat_sub (by omega), Int.fmod_eq_emod_of_nonneg _ (by omega)]
  rfl
theorem letter_at [H_letter_at P] (n : Nat) (b l : List Int) (i : Nat) (hl : 0 < l.length) : (C P (n + 1)).call "letter_at" [La b l, .int i] = .ok (.int (ltr b l i)) := by
  rw [c_of H_letter_at.h n _ rfl]
  unfold ltr
  have hz : (l.length : Int) ≠ 0 := by omega
  by_cases hi : i < b.length
  · rw [if_pos hi]
    simp only [execs_cons, execs_nil, asg_, augv_, jAug0_ok, ex_, ret_, if_, for_, whl_, jTest_ok, jTest2_ok, brk_, cnt_, pass_, jSt_ok, jAsg_ok, jAug3_ok, jAug2_ok, jEx_ok, jRet_ok, jIf2_t, jIf2_f, jIf_ok, jSeq_nx, jSeq_ret, jSeq_brk, jSeq_cnt, jFor_ok, rng_, jRng_1, jRng_2, set_var, set_tup, bind_one, augI_add, augI_sub, lit_, var_, kVar_flat, kVar_pk, bin_, kBin1_ok, kBin2_ok, kVal_ok, kBl_ok, cmp_, kCmp1_ok, kCmp2_ok, chain_, kCh0_ok, kCh1_ok, kCh2_t, kCh2_f, kCh3_ok, neg_, kNeg_ok, not_, kNot_ok, kNot2_ok, isN_, kIsN_ok, notN_, kNotN_ok, and_, kAnd_ok, kAnd2_t, kAnd2_f, or_, kOr_ok, kOr2_t, kOr2_f, ite_, kIte_ok, kIte2_t, kIte2_f, evs_cons, evs_nil, kCons_ok, kCons2_ok, tup_, kTup_ok, lst_, kLst_ok, bi_, kBi_ok, call_, kCall_ok, kCall2_ok, isi_, kIsi_ok, idxB_, kIdx0_t, kIdx_ok, kIdx2_ok, kTake_ok, take_flat, slc_, kSlc_ok, kSlc2_ok, kSlc3_T, kSlc3_L, evO_none, evO_some, kEnd_ok, comp_, roE, roL, roO, roI, out_ret, out_nx, len_T, len_L, int_I, tup_L, tup_T, tup_nil, bin_add, bin_sub, tru_bl, cmp_lt, cmp_le, cmp_gt, cmp_ge, cmp_eqI, cmp_neI, cmp_eqT, cmp_neT, cmp_eqLa, cmp_neLa, cmp_eqLs, own_T, own_La, own_tup, own_int, own_bl, own_non, own_k, own_s, own_g, Bool.not_false, Bool.not_true, Bool.or_true, Bool.true_or, Bool.or_false, Bool.false_or, Bool.and_true, Bool.true_and, Bool.and_false, Bool.false_and, if_true, if_false, Bool.false_eq_true, reduceIte, Int.reduceEq, Int.reduceLT, Int.reduceLE, Nat.reduceLT, Nat.reduceAdd, Nat.reduceSub, List.map_cons, List.map_nil, List.cons_append, List.nil_append, List.replicate, List.getElem?_cons_zero, List.getElem?_cons_succ, List.set, List.set_cons_zero, List.set_cons_succ, List.length_cons, List.length_nil, List.zip_cons_cons, List.zip_nil_right, List.foldl_cons, List.foldl_nil, List.all_cons, List.all_nil, decide_true, decide_false, Nat.zero_lt_succ, and_self, and_true, true_and, Int.ofNat_lt, Int.ofNat_le, eq_self, f_letter_at, hi, item_T (getD_some hi)]
  · rw [if_neg hi]
    have hm : (i - b.length) % l.length < l.length := Nat.mod_lt _ hl
    simp only [execs_cons, execs_nil, asg_, augv_, jAug0_ok, ex_, ret_, if_, for_, whl_, jTest_ok, jTest2_ok, brk_, cnt_, pass_, jSt_ok, jAsg_ok, jAug3_ok, jAug2_ok, jEx_ok, jRet_ok, jIf2_t, jIf2_f, jIf_ok, jSeq_nx, jSeq_ret, jSeq_brk, jSeq_cnt, jFor_ok, rng_, jRng_1, jRng_2, set_var, set_tup, bind_one, augI_add, augI_sub, lit_, var_, kVar_flat, kVar_pk, bin_, kBin1_ok, kBin2_ok, kVal_ok, kBl_ok, cmp_, kCmp1_ok, kCmp2_ok, chain_, kCh0_ok, kCh1_ok, kCh2_t, kCh2_f, kCh3_ok, neg_, kNeg_ok, not_, kNot_ok, kNot2_ok, isN_, kIsN_ok, notN_, kNotN_ok, and_, kAnd_ok, kAnd2_t, kAnd2_f, or_, kOr_ok, kOr2_t, kOr2_f, ite_, kIte_ok, kIte2_t, kIte2_f, evs_cons, evs_nil, kCons_ok, kCons2_ok, tup_, kTup_ok, lst_, kLst_ok, bi_, kBi_ok, call_, kCall_ok, kCall2_ok, isi_, kIsi_ok, idxB_, kIdx0_t, kIdx_ok, kIdx2_ok, kTake_ok, take_flat, slc_, kSlc_ok, kSlc2_ok, kSlc3_T, kSlc3_L, evO_none, evO_some, kEnd_ok, comp_, roE, roL, roO, roI, out_ret, out_nx, len_T, len_L, int_I, tup_L, tup_T, tup_nil, bin_add, bin_sub, tru_bl, cmp_lt, cmp_le, cmp_gt, cmp_ge, cmp_eqI, cmp_neI, cmp_eqT, cmp_neT, cmp_eqLa, cmp_neLa, cmp_eqLs, own_T, own_La, own_tup, own_int, own_bl, own_non, own_k, own_s, own_g, Bool.not_false, Bool.not_true, Bool.or_true, Bool.true_or, Bool.or_false, Bool.false_or, Bool.and_true, Bool.true_and, Bool.and_false, Bool.false_and, if_true, if_false, Bool.false_eq_true, reduceIte, Int.reduceEq, Int.reduceLT, Int.reduceLE, Nat.reduceLT, Nat.reduceAdd, Nat.reduceSub, List.map_cons, List.map_nil, List.cons_append, List.nil_append, List.replicate, List.getElem?_cons_zero, List.getElem?_cons_succ, List.set, List.set_cons_zero, List.set_cons_succ, List.length_cons, List.length_nil, List.zip_cons_cons, List.zip_nil_right, List.foldl_cons, List.foldl_nil, List.all_cons, List.all_nil, decide_true, decide_false, Nat.zero_lt_succ, and_self, and_true, true_and, Int.ofNat_lt, Int.ofNat_le, eq_self, f_letter_at, hi, bin_mod hz, sub_mod hi hl, item_T (getD_some hm)]
theorem law_at [H_law_at P] (n : Nat) (b l : List Int) (i : Nat) (hl : 0 < l.length) : (C P (n + 1)).call "_law_at" [La b l, .int i] = .ok (.int (ltr b l i)) := by
  rw [c_of H_law_at.h n _ rfl]
  unfold ltr
  have hz : (l.length : Int) ≠ 0 := by omega
  have i0 : item (La b l) (.int 0) = .ok (T b) := rfl
  have i1 : item (La b l) (.int 1) = .ok (T l) := rfl
  by_cases hi : i < b.length
  · rw [if_pos hi]
    simp only [execs_cons, execs_nil, asg_, augv_, jAug0_ok, ex_, ret_, if_, for_, whl_, jTest_ok, jTest2_ok, brk_, cnt_, pass_, jSt_ok, jAsg_ok, jAug3_ok, jAug2_ok, jEx_ok, jRet_ok, jIf2_t, jIf2_f, jIf_ok, jSeq_nx, jSeq_ret, jSeq_brk, jSeq_cnt, jFor_ok, rng_, jRng_1, jRng_2, set_var, set_tup, bind_one, augI_add, augI_sub, lit_, var_, kVar_flat, kVar_pk, bin_, kBin1_ok, kBin2_ok, kVal_ok, kBl_ok, cmp_, kCmp1_ok, kCmp2_ok, chain_, kCh0_ok, kCh1_ok, kCh2_t, kCh2_f, kCh3_ok, neg_, kNeg_ok, not_, kNot_ok, kNot2_ok, isN_, kIsN_ok, notN_, kNotN_ok, and_, kAnd_ok, kAnd2_t, kAnd2_f, or_, kOr_ok, kOr2_t, kOr2_f, ite_, kIte_ok, kIte2_t, kIte2_f, evs_cons, evs_nil, kCons_ok, kCons2_ok, tup_, kTup_ok, lst_, kLst_ok, bi_, kBi_ok, call_, kCall_ok, kCall2_ok, isi_, kIsi_ok, idxB_, kIdx0_t, kIdx_ok, kIdx2_ok, kTake_ok, take_flat, slc_, kSlc_ok, kSlc2_ok, kSlc3_T, kSlc3_L, evO_none, evO_some, kEnd_ok, comp_, roE, roL, roO, roI, out_ret, out_nx, len_T, len_L, int_I, tup_L, tup_T, tup_nil, bin_add, bin_sub, tru_bl, cmp_lt, cmp_le, cmp_gt, cmp_ge, cmp_eqI, cmp_neI, cmp_eqT, cmp_neT, cmp_eqLa, cmp_neLa, cmp_eqLs, own_T, own_La, own_tup, own_int, own_bl, own_non, own_k, own_s, own_g, Bool.not_false, Bool.not_true, Bool.or_true, Bool.true_or, Bool.or_false, Bool.false_or, Bool.and_true, Bool.true_and, Bool.and_false, Bool.false_and, if_true, if_false, Bool.false_eq_true, reduceIte, Int.reduceEq, Int.reduceLT, Int.reduceLE, Nat.reduceLT, Nat.reduceAdd, Nat.reduceSub, List.map_cons, List.map_nil, List.cons_append, List.nil_append, List.replicate, List.getElem?_cons_zero, List.getElem?_cons_succ, List.set, List.set_cons_zero, List.set_cons_succ, List.length_cons, List.length_nil, List.zip_cons_cons, List.zip_nil_right, List.foldl_cons, List.foldl_nil, List.all_cons, List.all_nil, decide_true, decide_false, Nat.zero_lt_succ, and_self, and_true, true_and, Int.ofNat_lt, Int.ofNat_le, eq_self, f_law_at, i0, i1, hi, item_T (getD_some hi)]
  · rw [if_neg hi]
    have hm : (i - b.length) % l.length < l.length := Nat.mod_lt _ hl
    simp only [execs_cons, execs_nil, asg_, augv_, jAug0_ok, ex_, ret_, if_, for_, whl_, jTest_ok, jTest2_ok, brk_, cnt_, pass_, jSt_ok, jAsg_ok, jAug3_ok, jAug2_ok, jEx_ok, jRet_ok, jIf2_t, jIf2_f, jIf_ok, jSeq_nx, jSeq_ret, jSeq_brk, jSeq_cnt, jFor_ok, rng_, jRng_1, jRng_2, set_var, set_tup, bind_one, augI_add, augI_sub, lit_, var_, kVar_flat, kVar_pk, bin_, kBin1_ok, kBin2_ok, kVal_ok, kBl_ok, cmp_, kCmp1_ok, kCmp2_ok, chain_, kCh0_ok, kCh1_ok, kCh2_t, kCh2_f, kCh3_ok, neg_, kNeg_ok, not_, kNot_ok, kNot2_ok, isN_, kIsN_ok, notN_, kNotN_ok, and_, kAnd_ok, kAnd2_t, kAnd2_f, or_, kOr_ok, kOr2_t, kOr2_f, ite_, kIte_ok, kIte2_t, kIte2_f, evs_cons, evs_nil, kCons_ok, kCons2_ok, tup_, kTup_ok, lst_, kLst_ok, bi_, kBi_ok, call_, kCall_ok, kCall2_ok, isi_, kIsi_ok, idxB_, kIdx0_t, kIdx_ok, kIdx2_ok, kTake_ok, take_flat, slc_, kSlc_ok, kSlc2_ok, kSlc3_T, kSlc3_L, evO_none, evO_some, kEnd_ok, comp_, roE, roL, roO, roI, out_ret, out_nx, len_T, len_L, int_I, tup_L, tup_T, tup_nil, bin_add, bin_sub, tru_bl, cmp_lt, cmp_le, cmp_gt, cmp_ge, cmp_eqI, cmp_neI, cmp_eqT, cmp_neT, cmp_eqLa, cmp_neLa, cmp_eqLs, own_T, own_La, own_tup, own_int, own_bl, own_non, own_k, own_s, own_g, Bool.not_false, Bool.not_true, Bool.or_true, Bool.true_or, Bool.or_false, Bool.false_or, Bool.and_true, Bool.true_and, Bool.and_false, Bool.false_and, if_true, if_false, Bool.false_eq_true, reduceIte, Int.reduceEq, Int.reduceLT, Int.reduceLE, Nat.reduceLT, Nat.reduceAdd, Nat.reduceSub, List.map_cons, List.map_nil, List.cons_append, List.nil_append, List.replicate, List.getElem?_cons_zero, List.getElem?_cons_succ, List.set, List.set_cons_zero, List.set_cons_succ, List.length_cons, List.length_nil, List.zip_cons_cons, List.zip_nil_right, List.foldl_cons, List.foldl_nil, List.all_cons, List.all_nil, decide_true, decide_false, Nat.zero_lt_succ, and_self, and_true, true_and, Int.ofNat_lt, Int.ofNat_le, eq_self, f_law_at, i0, i1, hi, bin_mod hz, sub_mod hi hl, item_T (getD_some hm)]
def tl (b l : List Int) (i : Nat) : D := if i ≤ b.length then La (b.drop i) l else La [] (l.drop ((i - b.length) % l.length) ++ l.take ((i - b.length) % l.length))
theorem share_La (a b : List Int) : shareL [T a, T b] = [T a, T b] := by
  show [(T a).fl Fg.sh, (T b).fl Fg.sh] = _
  rw [fl_T, fl_T]
theorem drop_take_len (l : List Int) (m : Nat) : (l.drop m).length + (l.take m).length ≤ l.length := by
  rw [List.length_drop, List.length_take]; omega
theorem tail [H_tail P] (n : Nat) (b l : List Int) (i : Nat) (hl : 0 < l.length) (hl2 : l.length ≤ 1000) : (C P (n + 1)).call "tail" [La b l, .int i] = .ok (tl b l i) := by
  rw [c_of H_tail.h n _ rfl]
  unfold tl
  have hz : (l.length : Int) ≠ 0 := by omega
  by_cases hi : i ≤ b.length
  · rw [if_pos hi]
    simp only [execs_cons, execs_nil, asg_, augv_, jAug0_ok, ex_, ret_, if_, for_, whl_, jTest_ok, jTest2_ok, brk_, cnt_, pass_, jSt_ok, jAsg_ok, jAug3_ok, jAug2_ok, jEx_ok, jRet_ok, jIf2_t, jIf2_f, jIf_ok, jSeq_nx, jSeq_ret, jSeq_brk, jSeq_cnt, jFor_ok, rng_, jRng_1, jRng_2, set_var, set_tup, bind_one, augI_add, augI_sub, lit_, var_, kVar_flat, kVar_pk, bin_, kBin1_ok, kBin2_ok, kVal_ok, kBl_ok, cmp_, kCmp1_ok, kCmp2_ok, chain_, kCh0_ok, kCh1_ok, kCh2_t, kCh2_f, kCh3_ok, neg_, kNeg_ok, not_, kNot_ok, kNot2_ok, isN_, kIsN_ok, notN_, kNotN_ok, and_, kAnd_ok, kAnd2_t, kAnd2_f, or_, kOr_ok, kOr2_t, kOr2_f, ite_, kIte_ok, kIte2_t, kIte2_f, evs_cons, evs_nil, kCons_ok, kCons2_ok, tup_, kTup_ok, lst_, kLst_ok, bi_, kBi_ok, call_, kCall_ok, kCall2_ok, isi_, kIsi_ok, idxB_, kIdx0_t, kIdx_ok, kIdx2_ok, kTake_ok, take_flat, slc_, kSlc_ok, kSlc2_ok, kSlc3_T, kSlc3_L, evO_none, evO_some, kEnd_ok, comp_, roE, roL, roO, roI, out_ret, out_nx, len_T, len_L, int_I, tup_L, tup_T, tup_nil, bin_add, bin_sub, tru_bl, cmp_lt, cmp_le, cmp_gt, cmp_ge, cmp_eqI, cmp_neI, cmp_eqT, cmp_neT, cmp_eqLa, cmp_neLa, cmp_eqLs, own_T, own_La, own_tup, own_int, own_bl, own_non, own_k, own_s, own_g, Bool.not_false, Bool.not_true, Bool.or_true, Bool.true_or, Bool.or_false, Bool.false_or, Bool.and_true, Bool.true_and, Bool.and_false, Bool.false_and, if_true, if_false, Bool.false_eq_true, reduceIte, Int.reduceEq, Int.reduceLT, Int.reduceLE, Nat.reduceLT, Nat.reduceAdd, Nat.reduceSub, List.map_cons, List.map_nil, List.cons_append, List.nil_append, List.replicate, List.getElem?_cons_zero, List.getElem?_cons_succ, List.set, List.set_cons_zero, List.set_cons_succ, List.length_cons, List.length_nil, List.zip_cons_cons, List.zip_nil_right, List.foldl_cons, List.foldl_nil, List.all_cons, List.all_nil, decide_true, decide_false, Nat.zero_lt_succ, and_self, and_true, true_and, Int.ofNat_lt, Int.ofNat_le, eq_self, f_tail, hi, cut_from, share_La]
  · rw [if_neg hi]
    have hi' : ¬ i < b.length := by omega
    have hlen : (l.drop ((i - b.length) % l.length)).length + (l.take ((i - b.length) % l.length)).length ≤ line := Nat.le_trans (drop_take_len _ _) (by unfold line; omega)
    simp only [execs_cons, execs_nil, asg_, augv_, jAug0_ok, ex_, ret_, if_, for_, whl_, jTest_ok, jTest2_ok, brk_, cnt_, pass_, jSt_ok, jAsg_ok, jAug3_ok, jAug2_ok, jEx_ok, jRet_ok, jIf2_t, jIf2_f, jIf_ok, jSeq_nx, jSeq_ret, jSeq_brk, jSeq_cnt, jFor_ok, rng_, jRng_1, jRng_2, set_var, set_tup, bind_one, augI_add, augI_sub, lit_, var_, kVar_flat, kVar_pk, bin_, kBin1_ok, kBin2_ok, kVal_ok, kBl_ok, cmp_, kCmp1_ok, kCmp2_ok, chain_, kCh0_ok, kCh1_ok, kCh2_t, kCh2_f, kCh3_ok, neg_, kNeg_ok, not_, kNot_ok, kNot2_ok, isN_, kIsN_ok, notN_, kNotN_ok, and_, kAnd_ok, kAnd2_t, kAnd2_f, or_, kOr_ok, kOr2_t, kOr2_f, ite_, kIte_ok, kIte2_t, kIte2_f, evs_cons, evs_nil, kCons_ok, kCons2_ok, tup_, kTup_ok, lst_, kLst_ok, bi_, kBi_ok, call_, kCall_ok, kCall2_ok, isi_, kIsi_ok, idxB_, kIdx0_t, kIdx_ok, kIdx2_ok, kTake_ok, take_flat, slc_, kSlc_ok, kSlc2_ok, kSlc3_T, kSlc3_L, evO_none, evO_some, kEnd_ok, comp_, roE, roL, roO, roI, out_ret, out_nx, len_T, len_L, int_I, tup_L, tup_T, tup_nil, bin_add, bin_sub, tru_bl, cmp_lt, cmp_le, cmp_gt, cmp_ge, cmp_eqI, cmp_neI, cmp_eqT, cmp_neT, cmp_eqLa, cmp_neLa, cmp_eqLs, own_T, own_La, own_tup, own_int, own_bl, own_non, own_k, own_s, own_g, Bool.not_false, Bool.not_true, Bool.or_true, Bool.true_or, Bool.or_false, Bool.false_or, Bool.and_true, Bool.true_and, Bool.and_false, Bool.false_and, if_true, if_false, Bool.false_eq_true, reduceIte, Int.reduceEq, Int.reduceLT, Int.reduceLE, Nat.reduceLT, Nat.reduceAdd, Nat.reduceSub, List.map_cons, List.map_nil, List.cons_append, List.nil_append, List.replicate, List.getElem?_cons_zero, List.getElem?_cons_succ, List.set, List.set_cons_zero, List.set_cons_succ, List.length_cons, List.length_nil, List.zip_cons_cons, List.zip_nil_right, List.foldl_cons, List.foldl_nil, List.all_cons, List.all_nil, decide_true, decide_false, Nat.zero_lt_succ, and_self, and_true, true_and, Int.ofNat_lt, Int.ofNat_le, eq_self, f_tail, hi, bin_mod hz, sub_mod hi' hl, cut_from, cut_to, bin_cat hlen, share_La]
theorem rangeL_range (lo n : Nat) : rangeL (lo : Int) n = (List.range' lo n).map fun d : Nat => D.int (d : Int) := by
  unfold rangeL
  rw [List.range'_eq_map_range, List.map_map]
  rfl
theorem nat_mod (a b : Nat) : ((a : Int)).fmod (b : Int) = ((a % b : Nat) : Int) := by
  rw [Int.fmod_eq_emod_of_nonneg _ (by omega)]; rfl
theorem nat_div (a b : Nat) : ((a : Int)).fdiv (b : Int) = ((a / b : Nat) : Int) := by
  rw [Int.fdiv_eq_ediv_of_nonneg _ (by omega)]; rfl
theorem findSome_find {α β : Type} (p : α → Bool) (f : α → β) : ∀ xs : List α, xs.findSome? (fun x => if p x = true then some (f x) else none) = (xs.find? p).map f
  | [] => rfl
  | x :: xs => by
    rw [List.findSome?_cons, List.find?_cons]
    cases h : p x with
    | true => simp
    | false => simp [findSome_find p f xs]
theorem z0 : ((0 : Nat) : Int) = 0 := rfl
theorem div_ge {n d : Nat} (h : n % d = 0) (h1 : d < n) : 2 ≤ n / d := by
  have h2 := Nat.div_add_mod n d
  rw [h] at h2
  generalize n / d = k at h2
  match k, h2 with
  | 0, h2 => rw [Nat.mul_zero] at h2; omega
  | 1, h2 => rw [Nat.mul_one] at h2; omega
  | k + 2, _ => omega
abbrev bdLL : List S := [.ifS (.andE (.cmp .eq (.bin .mod (.bi "len" [.var 0]) (.var 1)) (.lit (.int 0))) (.cmp .eq (.bin .mul (.slc (.var 0) none (some (.var 1))) (.bin .fdiv (.bi "len" [.var 0]) (.var 1))) (.var 0))) [.ret (.slc (.var 0) none (some (.var 1)))] []]
theorem stepLL (c : Ctx) (l : List Int) (d : Nat) (hd : 0 < d) (hd2 : d < l.length) (hl2 : l.length ≤ 1000) : execs c bdLL [some (T l), some (.int d)] = if perD l d = true then .ok (.ret (T (l.take d)), [some (T l), some (.int d)]) else .ok (.nx, [some (T l), some (.int d)]) := by
  have hz : (d : Int) ≠ 0 := by omega
  have hb : (d : Int).natAbs < 1073741824 := by omega
  unfold perD
  by_cases h1 : l.length % d = 0
  · have hk := div_ge h1 hd2
    have hk2 : l.length / d ≤ 1000 := Nat.le_trans (Nat.div_le_self _ _) hl2
    have hr := bin_rep (a := l.take d) (k := ((l.length / d : Nat) : Int)) (by rw [List.length_take]; omega) (by rw [List.length_take]; omega) (Int.ofNat_le.mpr hk) (Int.ofNat_le.mpr hk2)
    rw [Int.toNat_natCast] at hr
    by_cases h2 : (List.replicate (l.length / d) (l.take d)).flatten = l
    · simp only [execs_cons, execs_nil, asg_, augv_, jAug0_ok, ex_, ret_, if_, for_, whl_, jTest_ok, jTest2_ok, brk_, cnt_, pass_, jSt_ok, jAsg_ok, jAug3_ok, jAug2_ok, jEx_ok, jRet_ok, jIf2_t, jIf2_f, jIf_ok, jSeq_nx, jSeq_ret, jSeq_brk, jSeq_cnt, jFor_ok, rng_, jRng_1, jRng_2, set_var, set_tup, bind_one, augI_add, augI_sub, lit_, var_, kVar_flat, kVar_pk, bin_, kBin1_ok, kBin2_ok, kVal_ok, kBl_ok, cmp_, kCmp1_ok, kCmp2_ok, chain_, kCh0_ok, kCh1_ok, kCh2_t, kCh2_f, kCh3_ok, neg_, kNeg_ok, not_, kNot_ok, kNot2_ok, isN_, kIsN_ok, notN_, kNotN_ok, and_, kAnd_ok, kAnd2_t, kAnd2_f, or_, kOr_ok, kOr2_t, kOr2_f, ite_, kIte_ok, kIte2_t, kIte2_f, evs_cons, evs_nil, kCons_ok, kCons2_ok, tup_, kTup_ok, lst_, kLst_ok, bi_, kBi_ok, call_, kCall_ok, kCall2_ok, isi_, kIsi_ok, idxB_, kIdx0_t, kIdx_ok, kIdx2_ok, kTake_ok, take_flat, slc_, kSlc_ok, kSlc2_ok, kSlc3_T, kSlc3_L, evO_none, evO_some, kEnd_ok, comp_, roE, roL, roO, roI, out_ret, out_nx, len_T, len_L, int_I, tup_L, tup_T, tup_nil, bin_add, bin_sub, tru_bl, cmp_lt, cmp_le, cmp_gt, cmp_ge, cmp_eqI, cmp_neI, cmp_eqT, cmp_neT, cmp_eqLa, cmp_neLa, cmp_eqLs, own_T, own_La, own_tup, own_int, own_bl, own_non, own_k, own_s, own_g, Bool.not_false, Bool.not_true, Bool.or_true, Bool.true_or, Bool.or_false, Bool.false_or, Bool.and_true, Bool.true_and, Bool.and_false, Bool.false_and, if_true, if_false, Bool.false_eq_true, reduceIte, Int.reduceEq, Int.reduceLT, Int.reduceLE, Nat.reduceLT, Nat.reduceAdd, Nat.reduceSub, List.map_cons, List.map_nil, List.cons_append, List.nil_append, List.replicate, List.getElem?_cons_zero, List.getElem?_cons_succ, List.set, List.set_cons_zero, List.set_cons_succ, List.length_cons, List.length_nil, List.zip_cons_cons, List.zip_nil_right, List.foldl_cons, List.foldl_nil, List.all_cons, List.all_nil, decide_true, decide_false, Nat.zero_lt_succ, and_self, and_true, true_and, Int.ofNat_lt, Int.ofNat_le, eq_self, bin_mod hz, bin_fdiv hz hb, nat_mod, nat_div, h1, h2, cut_to, hr, z0]
    · simp only [execs_cons, execs_nil, asg_, augv_, jAug0_ok, ex_, ret_, if_, for_, whl_, jTest_ok, jTest2_ok, brk_, cnt_, pass_, jSt_ok, jAsg_ok, jAug3_ok, jAug2_ok, jEx_ok, jRet_ok, jIf2_t, jIf2_f, jIf_ok, jSeq_nx, jSeq_ret, jSeq_brk, jSeq_cnt, jFor_ok, rng_, jRng_1, jRng_2, set_var, set_tup, bind_one, augI_add, augI_sub, lit_, var_, kVar_flat, kVar_pk, bin_, kBin1_ok, kBin2_ok, kVal_ok, kBl_ok, cmp_, kCmp1_ok, kCmp2_ok, chain_, kCh0_ok, kCh1_ok, kCh2_t, kCh2_f, kCh3_ok, neg_, kNeg_ok, not_, kNot_ok, kNot2_ok, isN_, kIsN_ok, notN_, kNotN_ok, and_, kAnd_ok, kAnd2_t, kAnd2_f, or_, kOr_ok, kOr2_t, kOr2_f, ite_, kIte_ok, kIte2_t, kIte2_f, evs_cons, evs_nil, kCons_ok, kCons2_ok, tup_, kTup_ok, lst_, kLst_ok, bi_, kBi_ok, call_, kCall_ok, kCall2_ok, isi_, kIsi_ok, idxB_, kIdx0_t, kIdx_ok, kIdx2_ok, kTake_ok, take_flat, slc_, kSlc_ok, kSlc2_ok, kSlc3_T, kSlc3_L, evO_none, evO_some, kEnd_ok, comp_, roE, roL, roO, roI, out_ret, out_nx, len_T, len_L, int_I, tup_L, tup_T, tup_nil, bin_add, bin_sub, tru_bl, cmp_lt, cmp_le, cmp_gt, cmp_ge, cmp_eqI, cmp_neI, cmp_eqT, cmp_neT, cmp_eqLa, cmp_neLa, cmp_eqLs, own_T, own_La, own_tup, own_int, own_bl, own_non, own_k, own_s, own_g, Bool.not_false, Bool.not_true, Bool.or_true, Bool.true_or, Bool.or_false, Bool.false_or, Bool.and_true, Bool.true_and, Bool.and_false, Bool.false_and, if_true, if_false, Bool.false_eq_true, reduceIte, Int.reduceEq, Int.reduceLT, Int.reduceLE, Nat.reduceLT, Nat.reduceAdd, Nat.reduceSub, List.map_cons, List.map_nil, List.cons_append, List.nil_append, List.replicate, List.getElem?_cons_zero, List.getElem?_cons_succ, List.set, List.set_cons_zero, List.set_cons_succ, List.length_cons, List.length_nil, List.zip_cons_cons, List.zip_nil_right, List.foldl_cons, List.foldl_nil, List.all_cons, List.all_nil, decide_true, decide_false, Nat.zero_lt_succ, and_self, and_true, true_and, Int.ofNat_lt, Int.ofNat_le, eq_self, bin_mod hz, bin_fdiv hz hb, nat_mod, nat_div, h1, h2, cut_to, hr, z0]
  · have h1' : ¬ ((l.length % d : Nat) : Int) = 0 := by omega
    simp only [execs_cons, execs_nil, asg_, augv_, jAug0_ok, ex_, ret_, if_, for_, whl_, jTest_ok, jTest2_ok, brk_, cnt_, pass_, jSt_ok, jAsg_ok, jAug3_ok, jAug2_ok, jEx_ok, jRet_ok, jIf2_t, jIf2_f, jIf_ok, jSeq_nx, jSeq_ret, jSeq_brk, jSeq_cnt, jFor_ok, rng_, jRng_1, jRng_2, set_var, set_tup, bind_one, augI_add, augI_sub, lit_, var_, kVar_flat, kVar_pk, bin_, kBin1_ok, kBin2_ok, kVal_ok, kBl_ok, cmp_, kCmp1_ok, kCmp2_ok, chain_, kCh0_ok, kCh1_ok, kCh2_t, kCh2_f, kCh3_ok, neg_, kNeg_ok, not_, kNot_ok, kNot2_ok, isN_, kIsN_ok, notN_, kNotN_ok, and_, kAnd_ok, kAnd2_t, kAnd2_f, or_, kOr_ok, kOr2_t, kOr2_f, ite_, kIte_ok, kIte2_t, kIte2_f, evs_cons, evs_nil, kCons_ok, kCons2_ok, tup_, kTup_ok, lst_, kLst_ok, bi_, kBi_ok, call_, kCall_ok, kCall2_ok, isi_, kIsi_ok, idxB_, kIdx0_t, kIdx_ok, kIdx2_ok, kTake_ok, take_flat, slc_, kSlc_ok, kSlc2_ok, kSlc3_T, kSlc3_L, evO_none, evO_some, kEnd_ok, comp_, roE, roL, roO, roI, out_ret, out_nx, len_T, len_L, int_I, tup_L, tup_T, tup_nil, bin_add, bin_sub, tru_bl, cmp_lt, cmp_le, cmp_gt, cmp_ge, cmp_eqI, cmp_neI, cmp_eqT, cmp_neT, cmp_eqLa, cmp_neLa, cmp_eqLs, own_T, own_La, own_tup, own_int, own_bl, own_non, own_k, own_s, own_g, Bool.not_false, Bool.not_true, Bool.or_true, Bool.true_or, Bool.or_false, Bool.false_or, Bool.and_true, Bool.true_and, Bool.and_false, Bool.false_and, if_true, if_false, Bool.false_eq_true, reduceIte, Int.reduceEq, Int.reduceLT, Int.reduceLE, Nat.reduceLT, Nat.reduceAdd, Nat.reduceSub, List.map_cons, List.map_nil, List.cons_append, List.nil_append, List.replicate, List.getElem?_cons_zero, List.getElem?_cons_succ, List.set, List.set_cons_zero, List.set_cons_succ, List.length_cons, List.length_nil, List.zip_cons_cons, List.zip_nil_right, List.foldl_cons, List.foldl_nil, List.all_cons, List.all_nil, decide_true, decide_false, Nat.zero_lt_succ, and_self, and_true, true_and, Int.ofNat_lt, Int.ofNat_le, eq_self, bin_mod hz, nat_mod, h1, h1']
theorem least_loop [H_least_loop P] (n : Nat) (l : List Int) (hl : 0 < l.length) (hl2 : l.length ≤ 1000) : (C P (n + 1)).call "least_loop" [T l] = .ok (T (lloop l)) := by
  rw [c_of H_least_loop.h n _ rfl]
  obtain ⟨e1, ⟨o1, rfl⟩, h⟩ := forLoop_find (step := stepF (C P n) (.var 1) bdLL) (fun x => match x with | .int d => (if perD l d.toNat = true then some (T (l.take d.toNat)) else none) | _ => none) (fun env => ∃ o, env = [some (T l), o]) (rangeL ((1 : Nat) : Int) (l.length - 1)) [some (T l), none] ⟨none, rfl⟩ (by
      intro x hx env ⟨o, he⟩
      subst he
      rw [rangeL_range] at hx
      obtain ⟨d, hd, rfl⟩ := List.mem_map.mp hx
      rw [List.mem_range'_1] at hd
      refine ⟨[some (T l), some (.int d)], ⟨_, rfl⟩, ?_⟩
      have hs : setTg (C P n) (.var 1) (.int d) [some (T l), o] = .ok [some (T l), some (.int d)] := rfl
      rw [stepF_ok _ hs, stepLL _ l d (by omega) (by omega) hl2]
      simp only [Int.toNat_natCast]
      cases perD l d <;> rfl)
  have hr1 : isRg 1 = true := by simp [isRg]
  have hr2 : isRg (l.length : Int) = true := isRg_nat (by omega)
  have hn : ((l.length : Int) - 1).toNat = l.length - 1 := by omega
  have h1 : rangeL 1 (l.length - 1) = rangeL ((1 : Nat) : Int) (l.length - 1) := rfl
  have hf : (rangeL ((1 : Nat) : Int) (l.length - 1)).findSome? (fun x => match x with | .int d => (if perD l d.toNat = true then some (T (l.take d.toNat)) else none) | _ => none) = ((List.range' 1 (l.length - 1)).find? (perD l)).map fun d => T (l.take d) := by
    rw [rangeL_range, List.findSome?_map, ← findSome_find (perD l) fun d => T (l.take d)]
    rfl
  rw [hf, ← h1] at h
  clear h1
  unfold lloop
  simp only [execs_cons, execs_nil, asg_, augv_, jAug0_ok, ex_, ret_, if_, for_, whl_, jTest_ok, jTest2_ok, brk_, cnt_, pass_, jSt_ok, jAsg_ok, jAug3_ok, jAug2_ok, jEx_ok, jRet_ok, jIf2_t, jIf2_f, jIf_ok, jSeq_nx, jSeq_ret, jSeq_brk, jSeq_cnt, jFor_ok, rng_, jRng_1, jRng_2, set_var, set_tup, bind_one, augI_add, augI_sub, lit_, var_, kVar_flat, kVar_pk, bin_, kBin1_ok, kBin2_ok, kVal_ok, kBl_ok, cmp_, kCmp1_ok, kCmp2_ok, chain_, kCh0_ok, kCh1_ok, kCh2_t, kCh2_f, kCh3_ok, neg_, kNeg_ok, not_, kNot_ok, kNot2_ok, isN_, kIsN_ok, notN_, kNotN_ok, and_, kAnd_ok, kAnd2_t, kAnd2_f, or_, kOr_ok, kOr2_t, kOr2_f, ite_, kIte_ok, kIte2_t, kIte2_f, evs_cons, evs_nil, kCons_ok, kCons2_ok, tup_, kTup_ok, lst_, kLst_ok, bi_, kBi_ok, call_, kCall_ok, kCall2_ok, isi_, kIsi_ok, idxB_, kIdx0_t, kIdx_ok, kIdx2_ok, kTake_ok, take_flat, slc_, kSlc_ok, kSlc2_ok, kSlc3_T, kSlc3_L, evO_none, evO_some, kEnd_ok, comp_, roE, roL, roO, roI, out_ret, out_nx, len_T, len_L, int_I, tup_L, tup_T, tup_nil, bin_add, bin_sub, tru_bl, cmp_lt, cmp_le, cmp_gt, cmp_ge, cmp_eqI, cmp_neI, cmp_eqT, cmp_neT, cmp_eqLa, cmp_neLa, cmp_eqLs, own_T, own_La, own_tup, own_int, own_bl, own_non, own_k, own_s, own_g, Bool.not_false, Bool.not_true, Bool.or_true, Bool.true_or, Bool.or_false, Bool.false_or, Bool.and_true, Bool.true_and, Bool.and_false, Bool.false_and, if_true, if_false, Bool.false_eq_true, reduceIte, Int.reduceEq, Int.reduceLT, Int.reduceLE, Nat.reduceLT, Nat.reduceAdd, Nat.reduceSub, List.map_cons, List.map_nil, List.cons_append, List.nil_append, List.replicate, List.getElem?_cons_zero, List.getElem?_cons_succ, List.set, List.set_cons_zero, List.set_cons_succ, List.length_cons, List.length_nil, List.zip_cons_cons, List.zip_nil_right, List.foldl_cons, List.foldl_nil, List.all_cons, List.all_nil, decide_true, decide_false, Nat.zero_lt_succ, and_self, and_true, true_and, Int.ofNat_lt, Int.ofNat_le, eq_self, f_least_loop, hr1, hr2, hn, h]
  cases (List.range' 1 (l.length - 1)).find? (perD l) with
  | some d => rfl
  | none => simp only [execs_cons, execs_nil, asg_, augv_, jAug0_ok, ex_, ret_, if_, for_, whl_, jTest_ok, jTest2_ok, brk_, cnt_, pass_, jSt_ok, jAsg_ok, jAug3_ok, jAug2_ok, jEx_ok, jRet_ok, jIf2_t, jIf2_f, jIf_ok, jSeq_nx, jSeq_ret, jSeq_brk, jSeq_cnt, jFor_ok, rng_, jRng_1, jRng_2, set_var, set_tup, bind_one, augI_add, augI_sub, lit_, var_, kVar_flat, kVar_pk, bin_, kBin1_ok, kBin2_ok, kVal_ok, kBl_ok, cmp_, kCmp1_ok, kCmp2_ok, chain_, kCh0_ok, kCh1_ok, kCh2_t, kCh2_f, kCh3_ok, neg_, kNeg_ok, not_, kNot_ok, kNot2_ok, isN_, kIsN_ok, notN_, kNotN_ok, and_, kAnd_ok, kAnd2_t, kAnd2_f, or_, kOr_ok, kOr2_t, kOr2_f, ite_, kIte_ok, kIte2_t, kIte2_f, evs_cons, evs_nil, kCons_ok, kCons2_ok, tup_, kTup_ok, lst_, kLst_ok, bi_, kBi_ok, call_, kCall_ok, kCall2_ok, isi_, kIsi_ok, idxB_, kIdx0_t, kIdx_ok, kIdx2_ok, kTake_ok, take_flat, slc_, kSlc_ok, kSlc2_ok, kSlc3_T, kSlc3_L, evO_none, evO_some, kEnd_ok, comp_, roE, roL, roO, roI, out_ret, out_nx, len_T, len_L, int_I, tup_L, tup_T, tup_nil, bin_add, bin_sub, tru_bl, cmp_lt, cmp_le, cmp_gt, cmp_ge, cmp_eqI, cmp_neI, cmp_eqT, cmp_neT, cmp_eqLa, cmp_neLa, cmp_eqLs, own_T, own_La, own_tup, own_int, own_bl, own_non, own_k, own_s, own_g, Bool.not_false, Bool.not_true, Bool.or_true, Bool.true_or, Bool.or_false, Bool.false_or, Bool.and_true, Bool.true_and, Bool.and_false, Bool.false_and, if_true, if_false, Bool.false_eq_true, reduceIte, Int.reduceEq, Int.reduceLT, Int.reduceLE, Nat.reduceLT, Nat.reduceAdd, Nat.reduceSub, List.map_cons, List.map_nil, List.cons_append, List.nil_append, List.replicate, List.getElem?_cons_zero, List.getElem?_cons_succ, List.set, List.set_cons_zero, List.set_cons_succ, List.length_cons, List.length_nil, List.zip_cons_cons, List.zip_nil_right, List.foldl_cons, List.foldl_nil, List.all_cons, List.all_nil, decide_true, decide_false, Nat.zero_lt_succ, and_self, and_true, true_and, Int.ofNat_lt, Int.ofNat_le, eq_self, Option.map_none]
abbrev tsUn : E := .andE (.cmp .ne (.var 1) (.tup [])) (.cmp .eq (.idx (.var 1) (.neg (.lit (.int 1)))) (.idx (.var 2) (.neg (.lit (.int 1)))))
abbrev bdUn : List S := [.asg (.var 1) (.slc (.var 1) none (some (.neg (.lit (.int 1))))), .asg (.var 2) (.bin .add (.slc (.var 2) (some (.neg (.lit (.int 1)))) none) (.slc (.var 2) none (some (.neg (.lit (.int 1))))))]
theorem stepUn (c : Ctx) (d0 : D) (b l : List Int) (hl : 0 < l.length) (hl2 : l.length ≤ 1000) : execs c bdUn [some d0, some (T b), some (T l)] = .ok (.nx, [some d0, some (T b.dropLast), some (T (rot l))]) := by
  have hc := bin_cat (a := l.drop (l.length - 1)) (b := l.dropLast) (by rw [List.length_drop, List.length_dropLast]; unfold line; omega)
  unfold rot
  simp only [execs_cons, execs_nil, asg_, augv_, jAug0_ok, ex_, ret_, if_, for_, whl_, jTest_ok, jTest2_ok, brk_, cnt_, pass_, jSt_ok, jAsg_ok, jAug3_ok, jAug2_ok, jEx_ok, jRet_ok, jIf2_t, jIf2_f, jIf_ok, jSeq_nx, jSeq_ret, jSeq_brk, jSeq_cnt, jFor_ok, rng_, jRng_1, jRng_2, set_var, set_tup, bind_one, augI_add, augI_sub, lit_, var_, kVar_flat, kVar_pk, bin_, kBin1_ok, kBin2_ok, kVal_ok, kBl_ok, cmp_, kCmp1_ok, kCmp2_ok, chain_, kCh0_ok, kCh1_ok, kCh2_t, kCh2_f, kCh3_ok, neg_, kNeg_ok, not_, kNot_ok, kNot2_ok, isN_, kIsN_ok, notN_, kNotN_ok, and_, kAnd_ok, kAnd2_t, kAnd2_f, or_, kOr_ok, kOr2_t, kOr2_f, ite_, kIte_ok, kIte2_t, kIte2_f, evs_cons, evs_nil, kCons_ok, kCons2_ok, tup_, kTup_ok, lst_, kLst_ok, bi_, kBi_ok, call_, kCall_ok, kCall2_ok, isi_, kIsi_ok, idxB_, kIdx0_t, kIdx_ok, kIdx2_ok, kTake_ok, take_flat, slc_, kSlc_ok, kSlc2_ok, kSlc3_T, kSlc3_L, evO_none, evO_some, kEnd_ok, comp_, roE, roL, roO, roI, out_ret, out_nx, len_T, len_L, int_I, tup_L, tup_T, tup_nil, bin_add, bin_sub, tru_bl, cmp_lt, cmp_le, cmp_gt, cmp_ge, cmp_eqI, cmp_neI, cmp_eqT, cmp_neT, cmp_eqLa, cmp_neLa, cmp_eqLs, own_T, own_La, own_tup, own_int, own_bl, own_non, own_k, own_s, own_g, Bool.not_false, Bool.not_true, Bool.or_true, Bool.true_or, Bool.or_false, Bool.false_or, Bool.and_true, Bool.true_and, Bool.and_false, Bool.false_and, if_true, if_false, Bool.false_eq_true, reduceIte, Int.reduceEq, Int.reduceLT, Int.reduceLE, Nat.reduceLT, Nat.reduceAdd, Nat.reduceSub, List.map_cons, List.map_nil, List.cons_append, List.nil_append, List.replicate, List.getElem?_cons_zero, List.getElem?_cons_succ, List.set, List.set_cons_zero, List.set_cons_succ, List.length_cons, List.length_nil, List.zip_cons_cons, List.zip_nil_right, List.foldl_cons, List.foldl_nil, List.all_cons, List.all_nil, decide_true, decide_false, Nat.zero_lt_succ, and_self, and_true, true_and, Int.ofNat_lt, Int.ofNat_le, eq_self, cut_init, cut_last, hc]
theorem testUn (c : Ctx) (d0 : D) (b l : List Int) (hl : 0 < l.length) : testF c tsUn [some d0, some (T b), some (T l)] = .ok (decide (b ≠ [] ∧ b.getLast? = l.getLast?), [some d0, some (T b), some (T l)]) := by
  unfold testF
  by_cases hb : b = []
  · subst hb
    simp only [execs_cons, execs_nil, asg_, augv_, jAug0_ok, ex_, ret_, if_, for_, whl_, jTest_ok, jTest2_ok, brk_, cnt_, pass_, jSt_ok, jAsg_ok, jAug3_ok, jAug2_ok, jEx_ok, jRet_ok, jIf2_t, jIf2_f, jIf_ok, jSeq_nx, jSeq_ret, jSeq_brk, jSeq_cnt, jFor_ok, rng_, jRng_1, jRng_2, set_var, set_tup, bind_one, augI_add, augI_sub, lit_, var_, kVar_flat, kVar_pk, bin_, kBin1_ok, kBin2_ok, kVal_ok, kBl_ok, cmp_, kCmp1_ok, kCmp2_ok, chain_, kCh0_ok, kCh1_ok, kCh2_t, kCh2_f, kCh3_ok, neg_, kNeg_ok, not_, kNot_ok, kNot2_ok, isN_, kIsN_ok, notN_, kNotN_ok, and_, kAnd_ok, kAnd2_t, kAnd2_f, or_, kOr_ok, kOr2_t, kOr2_f, ite_, kIte_ok, kIte2_t, kIte2_f, evs_cons, evs_nil, kCons_ok, kCons2_ok, tup_, kTup_ok, lst_, kLst_ok, bi_, kBi_ok, call_, kCall_ok, kCall2_ok, isi_, kIsi_ok, idxB_, kIdx0_t, kIdx_ok, kIdx2_ok, kTake_ok, take_flat, slc_, kSlc_ok, kSlc2_ok, kSlc3_T, kSlc3_L, evO_none, evO_some, kEnd_ok, comp_, roE, roL, roO, roI, out_ret, out_nx, len_T, len_L, int_I, tup_L, tup_T, tup_nil, bin_add, bin_sub, tru_bl, cmp_lt, cmp_le, cmp_gt, cmp_ge, cmp_eqI, cmp_neI, cmp_eqT, cmp_neT, cmp_eqLa, cmp_neLa, cmp_eqLs, own_T, own_La, own_tup, own_int, own_bl, own_non, own_k, own_s, own_g, Bool.not_false, Bool.not_true, Bool.or_true, Bool.true_or, Bool.or_false, Bool.false_or, Bool.and_true, Bool.true_and, Bool.and_false, Bool.false_and, if_true, if_false, Bool.false_eq_true, reduceIte, Int.reduceEq, Int.reduceLT, Int.reduceLE, Nat.reduceLT, Nat.reduceAdd, Nat.reduceSub, List.map_cons, List.map_nil, List.cons_append, List.nil_append, List.replicate, List.getElem?_cons_zero, List.getElem?_cons_succ, List.set, List.set_cons_zero, List.set_cons_succ, List.length_cons, List.length_nil, List.zip_cons_cons, List.zip_nil_right, List.foldl_cons, List.foldl_nil, List.all_cons, List.all_nil, decide_true, decide_false, Nat.zero_lt_succ, and_self, and_true, true_and, Int.ofNat_lt, Int.ofNat_le, eq_self, ne_eq, not_true_eq_false, false_and]
  · obtain ⟨x, hx⟩ : ∃ x, b.getLast? = some x := ⟨_, List.getLast?_eq_some_getLast hb⟩
    obtain ⟨y, hy⟩ : ∃ y, l.getLast? = some y := ⟨_, List.getLast?_eq_some_getLast (by intro z; rw [z] at hl; exact absurd hl (by simp))⟩
    rw [hx, hy]
    have hd : decide (b ≠ [] ∧ some x = some y) = decide (x = y) := by
      by_cases h : x = y <;> simp [h, hb]
    rw [hd]
    simp only [execs_cons, execs_nil, asg_, augv_, jAug0_ok, ex_, ret_, if_, for_, whl_, jTest_ok, jTest2_ok, brk_, cnt_, pass_, jSt_ok, jAsg_ok, jAug3_ok, jAug2_ok, jEx_ok, jRet_ok, jIf2_t, jIf2_f, jIf_ok, jSeq_nx, jSeq_ret, jSeq_brk, jSeq_cnt, jFor_ok, rng_, jRng_1, jRng_2, set_var, set_tup, bind_one, augI_add, augI_sub, lit_, var_, kVar_flat, kVar_pk, bin_, kBin1_ok, kBin2_ok, kVal_ok, kBl_ok, cmp_, kCmp1_ok, kCmp2_ok, chain_, kCh0_ok, kCh1_ok, kCh2_t, kCh2_f, kCh3_ok, neg_, kNeg_ok, not_, kNot_ok, kNot2_ok, isN_, kIsN_ok, notN_, kNotN_ok, and_, kAnd_ok, kAnd2_t, kAnd2_f, or_, kOr_ok, kOr2_t, kOr2_f, ite_, kIte_ok, kIte2_t, kIte2_f, evs_cons, evs_nil, kCons_ok, kCons2_ok, tup_, kTup_ok, lst_, kLst_ok, bi_, kBi_ok, call_, kCall_ok, kCall2_ok, isi_, kIsi_ok, idxB_, kIdx0_t, kIdx_ok, kIdx2_ok, kTake_ok, take_flat, slc_, kSlc_ok, kSlc2_ok, kSlc3_T, kSlc3_L, evO_none, evO_some, kEnd_ok, comp_, roE, roL, roO, roI, out_ret, out_nx, len_T, len_L, int_I, tup_L, tup_T, tup_nil, bin_add, bin_sub, tru_bl, cmp_lt, cmp_le, cmp_gt, cmp_ge, cmp_eqI, cmp_neI, cmp_eqT, cmp_neT, cmp_eqLa, cmp_neLa, cmp_eqLs, own_T, own_La, own_tup, own_int, own_bl, own_non, own_k, own_s, own_g, Bool.not_false, Bool.not_true, Bool.or_true, Bool.true_or, Bool.or_false, Bool.false_or, Bool.and_true, Bool.true_and, Bool.and_false, Bool.false_and, if_true, if_false, Bool.false_eq_true, reduceIte, Int.reduceEq, Int.reduceLT, Int.reduceLE, Nat.reduceLT, Nat.reduceAdd, Nat.reduceSub, List.map_cons, List.map_nil, List.cons_append, List.nil_append, List.replicate, List.getElem?_cons_zero, List.getElem?_cons_succ, List.set, List.set_cons_zero, List.set_cons_succ, List.length_cons, List.length_nil, List.zip_cons_cons, List.zip_nil_right, List.foldl_cons, List.foldl_nil, List.all_cons, List.all_nil, decide_true, decide_false, Nat.zero_lt_succ, and_self, and_true, true_and, Int.ofNat_lt, Int.ofNat_le, eq_self, hb, item_last hx, item_last hy]
theorem loopUn (c : Ctx) (d0 : D) : ∀ (k f : Nat) (b l : List Int), b.length ≤ k → k < f → 0 < l.length → l.length ≤ 1000 → whileLoop (testF c tsUn) (execs c bdUn) f [some d0, some (T b), some (T l)] = .ok (.nx, [some d0, some (T (unroll k b l).1), some (T (unroll k b l).2)])
  | _, 0, _, _, _, h, _, _ => by omega
  | 0, f + 1, b, l, hk, _, hl, hl2 => by
    have hb : b = [] := List.length_eq_zero_iff.mp (by omega)
    refine whl_end ?_
    rw [testUn c d0 b l hl, hb]
    rfl
  | k + 1, f + 1, b, l, hk, hf, hl, hl2 => by
    by_cases h : b ≠ [] ∧ b.getLast? = l.getLast?
    · rw [whl_step (by rw [testUn c d0 b l hl, decide_eq_true h]) (stepUn c d0 b l hl hl2)]
      rw [loopUn c d0 k f b.dropLast (rot l) (by rw [List.length_dropLast]; omega) (by omega) (by rw [rot_len hl]; exact hl) (by rw [rot_len hl]; exact hl2)]
      unfold unroll
      rw [if_pos h]
      cases k <;> rfl
    · refine (whl_end (by rw [testUn c d0 b l hl, decide_eq_false h])).trans ?_
      unfold unroll
      rw [if_neg h]
theorem lloop_len {l : List Int} (h : 0 < l.length) : 0 < (lloop l).length ∧ (lloop l).length ≤ l.length := by
  unfold lloop
  split
  · rename_i d hd
    have := List.mem_of_find?_eq_some hd
    rw [List.mem_range'_1] at this
    rw [List.length_take]; omega
  · exact ⟨h, Nat.le_refl _⟩
theorem least_lasso [H_least_loop P] [H_least_lasso P] (n : Nat) (b l : List Int) (hl : 0 < l.length) (hl2 : l.length ≤ 1000) (hb : b.length < 100000) : (C P (n + 2)).call "least_lasso" [La b l] = .ok (La (llasso b l).1 (llasso b l).2) := by
  rw [c_of H_least_lasso.h (n + 1) _ rfl]
  obtain ⟨h1, h2⟩ := lloop_len hl
  have hw := loopUn (C P (n + 1)) (La b l) b.length fuel b (lloop l) (Nat.le_refl _) (by unfold fuel; omega) h1 (by omega)
  have hc := least_loop (P := P) n l hl hl2
  have hfu : (C P (n + 1)).fuel = fuel := ctx_fuel _ _ _
  have hle : lendL [T l] = [T l] := by show [(T l).fl Fg.gv] = _; rw [fl_T]
  have hse : ∀ (es : List E) (r : D) (env : Env), settle false es [T l] r env = .ok (r, env) := fun es r env => settle_flat rfl
  unfold llasso
  simp only [execs_cons, execs_nil, asg_, augv_, jAug0_ok, ex_, ret_, if_, for_, whl_, jTest_ok, jTest2_ok, brk_, cnt_, pass_, jSt_ok, jAsg_ok, jAug3_ok, jAug2_ok, jEx_ok, jRet_ok, jIf2_t, jIf2_f, jIf_ok, jSeq_nx, jSeq_ret, jSeq_brk, jSeq_cnt, jFor_ok, rng_, jRng_1, jRng_2, set_var, set_tup, bind_one, augI_add, augI_sub, lit_, var_, kVar_flat, kVar_pk, bin_, kBin1_ok, kBin2_ok, kVal_ok, kBl_ok, cmp_, kCmp1_ok, kCmp2_ok, chain_, kCh0_ok, kCh1_ok, kCh2_t, kCh2_f, kCh3_ok, neg_, kNeg_ok, not_, kNot_ok, kNot2_ok, isN_, kIsN_ok, notN_, kNotN_ok, and_, kAnd_ok, kAnd2_t, kAnd2_f, or_, kOr_ok, kOr2_t, kOr2_f, ite_, kIte_ok, kIte2_t, kIte2_f, evs_cons, evs_nil, kCons_ok, kCons2_ok, tup_, kTup_ok, lst_, kLst_ok, bi_, kBi_ok, call_, kCall_ok, kCall2_ok, isi_, kIsi_ok, idxB_, kIdx0_t, kIdx_ok, kIdx2_ok, kTake_ok, take_flat, slc_, kSlc_ok, kSlc2_ok, kSlc3_T, kSlc3_L, evO_none, evO_some, kEnd_ok, comp_, roE, roL, roO, roI, out_ret, out_nx, len_T, len_L, int_I, tup_L, tup_T, tup_nil, bin_add, bin_sub, tru_bl, cmp_lt, cmp_le, cmp_gt, cmp_ge, cmp_eqI, cmp_neI, cmp_eqT, cmp_neT, cmp_eqLa, cmp_neLa, cmp_eqLs, own_T, own_La, own_tup, own_int, own_bl, own_non, own_k, own_s, own_g, Bool.not_false, Bool.not_true, Bool.or_true, Bool.true_or, Bool.or_false, Bool.false_or, Bool.and_true, Bool.true_and, Bool.and_false, Bool.false_and, if_true, if_false, Bool.false_eq_true, reduceIte, Int.reduceEq, Int.reduceLT, Int.reduceLE, Nat.reduceLT, Nat.reduceAdd, Nat.reduceSub, List.map_cons, List.map_nil, List.cons_append, List.nil_append, List.replicate, List.getElem?_cons_zero, List.getElem?_cons_succ, List.set, List.set_cons_zero, List.set_cons_succ, List.length_cons, List.length_nil, List.zip_cons_cons, List.zip_nil_right, List.foldl_cons, List.foldl_nil, List.all_cons, List.all_nil, decide_true, decide_false, Nat.zero_lt_succ, and_self, and_true, true_and, Int.ofNat_lt, Int.ofNat_le, eq_self, f_least_lasso, hle, hc, hse, hfu, hw, share_La]
theorem law_letters [H_law_at P] [H_law_letters P] (n : Nat) (b l : List Int) (m : Nat) (hl : 0 < l.length) (hm : m < 1000000) : (C P (n + 2)).call "_law_letters" [La b l, .int m] = .ok (.lst .o ((ltrs b l m).map .int)) := by
  rw [c_of H_law_letters.h (n + 1) _ rfl]
  have hr : isRg (m : Int) = true := isRg_nat (by omega)
  have e0 : rangeL 0 m = (List.range' 0 m).map fun d : Nat => D.int (d : Int) := rangeL_range 0 m
  have hk := kComp_map (c := C P (n + 1)) (t := [2]) (one := true) (ro := false) (keep := false) (cond := none) (elt := .call "_law_at" [.var 0, .var 2]) (xs := rangeL 0 m) (env1 := [some (La b l), some (.int m), none]) (g := fun x => match x with | .int i => some (.int (ltr b l i.toNat)) | _ => none)
    (by rw [e0, List.length_map, List.length_range']; unfold line; omega) (by
      intro x hx
      rw [e0] at hx
      obtain ⟨i, hi, rfl⟩ := List.mem_map.mp hx
      have hle : lendL [La b l, .int i] = [La b l, .int i] := by show [(La b l).fl Fg.gv, (D.int i).fl Fg.gv] = _; rw [fl_La]; rfl
      have hse : ∀ (es : List E) (r : D) (env : Env), settle false es [La b l, .int i] r env = .ok (r, env) := fun es r env => settle_flat rfl
      have hc := law_at (P := P) n b l i hl
      have hv : ev (C P (n + 1)) false false (.call "_law_at" [.var 0, .var 2]) [some (La b l), some (.int m), some (.int i)] = .ok (.int (ltr b l i), [some (La b l), some (.int m), some (.int i)]) := by
        simp only [execs_cons, execs_nil, asg_, augv_, jAug0_ok, ex_, ret_, if_, for_, whl_, jTest_ok, jTest2_ok, brk_, cnt_, pass_, jSt_ok, jAsg_ok, jAug3_ok, jAug2_ok, jEx_ok, jRet_ok, jIf2_t, jIf2_f, jIf_ok, jSeq_nx, jSeq_ret, jSeq_brk, jSeq_cnt, jFor_ok, rng_, jRng_1, jRng_2, set_var, set_tup, bind_one, augI_add, augI_sub, lit_, var_, kVar_flat, kVar_pk, bin_, kBin1_ok, kBin2_ok, kVal_ok, kBl_ok, cmp_, kCmp1_ok, kCmp2_ok, chain_, kCh0_ok, kCh1_ok, kCh2_t, kCh2_f, kCh3_ok, neg_, kNeg_ok, not_, kNot_ok, kNot2_ok, isN_, kIsN_ok, notN_, kNotN_ok, and_, kAnd_ok, kAnd2_t, kAnd2_f, or_, kOr_ok, kOr2_t, kOr2_f, ite_, kIte_ok, kIte2_t, kIte2_f, evs_cons, evs_nil, kCons_ok, kCons2_ok, tup_, kTup_ok, lst_, kLst_ok, bi_, kBi_ok, call_, kCall_ok, kCall2_ok, isi_, kIsi_ok, idxB_, kIdx0_t, kIdx_ok, kIdx2_ok, kTake_ok, take_flat, slc_, kSlc_ok, kSlc2_ok, kSlc3_T, kSlc3_L, evO_none, evO_some, kEnd_ok, comp_, roE, roL, roO, roI, out_ret, out_nx, len_T, len_L, int_I, tup_L, tup_T, tup_nil, bin_add, bin_sub, tru_bl, cmp_lt, cmp_le, cmp_gt, cmp_ge, cmp_eqI, cmp_neI, cmp_eqT, cmp_neT, cmp_eqLa, cmp_neLa, cmp_eqLs, own_T, own_La, own_tup, own_int, own_bl, own_non, own_k, own_s, own_g, Bool.not_false, Bool.not_true, Bool.or_true, Bool.true_or, Bool.or_false, Bool.false_or, Bool.and_true, Bool.true_and, Bool.and_false, Bool.false_and, if_true, if_false, Bool.false_eq_true, reduceIte, Int.reduceEq, Int.reduceLT, Int.reduceLE, Nat.reduceLT, Nat.reduceAdd, Nat.reduceSub, List.map_cons, List.map_nil, List.cons_append, List.nil_append, List.replicate, List.getElem?_cons_zero, List.getElem?_cons_succ, List.set, List.set_cons_zero, List.set_cons_succ, List.length_cons, List.length_nil, List.zip_cons_cons, List.zip_nil_right, List.foldl_cons, List.foldl_nil, List.all_cons, List.all_nil, decide_true, decide_false, Nat.zero_lt_succ, and_self, and_true, true_and, Int.ofNat_lt, Int.ofNat_le, eq_self, hle, hc, hse]
      exact cStep_none (C P (n + 1)) (t := [2]) rfl hv)
  have hg : (rangeL 0 m).filterMap (fun x => match x with | .int i => some (D.int (ltr b l i.toNat)) | _ => none) = (ltrs b l m).map .int := by
    rw [e0, List.filterMap_map]
    unfold ltrs
    rw [List.map_map, List.range_eq_range', ← List.filterMap_eq_map]
    rfl
  rw [hg] at hk
  have ht : ((m : Int)).toNat = m := rfl
  simp only [execs_cons, execs_nil, asg_, augv_, jAug0_ok, ex_, ret_, if_, for_, whl_, jTest_ok, jTest2_ok, brk_, cnt_, pass_, jSt_ok, jAsg_ok, jAug3_ok, jAug2_ok, jEx_ok, jRet_ok, jIf2_t, jIf2_f, jIf_ok, jSeq_nx, jSeq_ret, jSeq_brk, jSeq_cnt, jFor_ok, rng_, jRng_1, jRng_2, set_var, set_tup, bind_one, augI_add, augI_sub, lit_, var_, kVar_flat, kVar_pk, bin_, kBin1_ok, kBin2_ok, kVal_ok, kBl_ok, cmp_, kCmp1_ok, kCmp2_ok, chain_, kCh0_ok, kCh1_ok, kCh2_t, kCh2_f, kCh3_ok, neg_, kNeg_ok, not_, kNot_ok, kNot2_ok, isN_, kIsN_ok, notN_, kNotN_ok, and_, kAnd_ok, kAnd2_t, kAnd2_f, or_, kOr_ok, kOr2_t, kOr2_f, ite_, kIte_ok, kIte2_t, kIte2_f, evs_cons, evs_nil, kCons_ok, kCons2_ok, tup_, kTup_ok, lst_, kLst_ok, bi_, kBi_ok, call_, kCall_ok, kCall2_ok, isi_, kIsi_ok, idxB_, kIdx0_t, kIdx_ok, kIdx2_ok, kTake_ok, take_flat, slc_, kSlc_ok, kSlc2_ok, kSlc3_T, kSlc3_L, evO_none, evO_some, kEnd_ok, comp_, roE, roL, roO, roI, out_ret, out_nx, len_T, len_L, int_I, tup_L, tup_T, tup_nil, bin_add, bin_sub, tru_bl, cmp_lt, cmp_le, cmp_gt, cmp_ge, cmp_eqI, cmp_neI, cmp_eqT, cmp_neT, cmp_eqLa, cmp_neLa, cmp_eqLs, own_T, own_La, own_tup, own_int, own_bl, own_non, own_k, own_s, own_g, Bool.not_false, Bool.not_true, Bool.or_true, Bool.true_or, Bool.or_false, Bool.false_or, Bool.and_true, Bool.true_and, Bool.and_false, Bool.false_and, if_true, if_false, Bool.false_eq_true, reduceIte, Int.reduceEq, Int.reduceLT, Int.reduceLE, Nat.reduceLT, Nat.reduceAdd, Nat.reduceSub, List.map_cons, List.map_nil, List.cons_append, List.nil_append, List.replicate, List.getElem?_cons_zero, List.getElem?_cons_succ, List.set, List.set_cons_zero, List.set_cons_succ, List.length_cons, List.length_nil, List.zip_cons_cons, List.zip_nil_right, List.foldl_cons, List.foldl_nil, List.all_cons, List.all_nil, decide_true, decide_false, Nat.zero_lt_succ, and_self, and_true, true_and, Int.ofNat_lt, Int.ofNat_le, eq_self, f_law_letters, hr, ht, hk]
theorem len0 (a b : List Int) : item (La a b) (.int 0) = .ok (T a) := rfl
theorem len1 (a b : List Int) : item (La a b) (.int 1) = .ok (T b) := rfl
theorem small_nat {n : Nat} (h : n ≤ 1000000000) : isSmall (n : Int) = true := by
  unfold isSmall big
  simp only [Bool.and_eq_true, decide_eq_true_eq]
  omega
theorem lend_Li (a b : List Int) (m : Int) : lendL [La a b, .int m] = [La a b, .int m] := by show [(La a b).fl Fg.gv, (D.int m).fl Fg.gv] = _; rw [fl_La]; rfl
theorem lend_LL (a b a' b' : List Int) : lendL [La a b, La a' b'] = [La a b, La a' b'] := by show [(La a b).fl Fg.gv, (La a' b').fl Fg.gv] = _; rw [fl_La, fl_La]
theorem lend_L1 (a b : List Int) : lendL [La a b] = [La a b] := by show [(La a b).fl Fg.gv] = _; rw [fl_La]
theorem set_Li (ro : Bool) (es : List E) (a b : List Int) (m : Int) (r : D) (env : Env) : settle ro es [La a b, .int m] r env = .ok (r, env) := settle_flat rfl
theorem set_LL (ro : Bool) (es : List E) (a b a' b' : List Int) (r : D) (env : Env) : settle ro es [La a b, La a' b'] r env = .ok (r, env) := settle_flat rfl
theorem set_L1 (ro : Bool) (es : List E) (a b : List Int) (r : D) (env : Env) : settle ro es [La a b] r env = .ok (r, env) := settle_flat rfl
theorem same_word [H_least_loop P] [H_least_lasso P] [H_same_word P] (n : Nat) (b l b' l' : List Int) (hl : 0 < l.length) (hl2 : l.length ≤ 1000) (hb : b.length < 100000) (hl' : 0 < l'.length) (hl2' : l'.length ≤ 1000) (hb' : b'.length < 100000) :
    (C P (n + 3)).call "same_word" [La b l, La b' l'] = .ok (.bl (decide ((llasso b l).1 = (llasso b' l').1 ∧ (llasso b l).2 = (llasso b' l').2))) := by
  rw [c_of H_same_word.h (n + 2) _ rfl]
  have h1 := least_lasso (P := P) n b l hl hl2 hb
  have h2 := least_lasso (P := P) n b' l' hl' hl2' hb'
  simp only [execs_cons, execs_nil, asg_, augv_, jAug0_ok, ex_, ret_, if_, for_, whl_, jTest_ok, jTest2_ok, brk_, cnt_, pass_, jSt_ok, jAsg_ok, jAug3_ok, jAug2_ok, jEx_ok, jRet_ok, jIf2_t, jIf2_f, jIf_ok, jSeq_nx, jSeq_ret, jSeq_brk, jSeq_cnt, jFor_ok, rng_, jRng_1, jRng_2, set_var, set_tup, bind_one, augI_add, augI_sub, lit_, var_, kVar_flat, kVar_pk, bin_, kBin1_ok, kBin2_ok, kVal_ok, kBl_ok, cmp_, kCmp1_ok, kCmp2_ok, chain_, kCh0_ok, kCh1_ok, kCh2_t, kCh2_f, kCh3_ok, neg_, kNeg_ok, not_, kNot_ok, kNot2_ok, isN_, kIsN_ok, notN_, kNotN_ok, and_, kAnd_ok, kAnd2_t, kAnd2_f, or_, kOr_ok, kOr2_t, kOr2_f, ite_, kIte_ok, kIte2_t, kIte2_f, evs_cons, evs_nil, kCons_ok, kCons2_ok, tup_, kTup_ok, lst_, kLst_ok, bi_, kBi_ok, call_, kCall_ok, kCall2_ok, isi_, kIsi_ok, idxB_, kIdx0_t, kIdx_ok, kIdx2_ok, kTake_ok, take_flat, slc_, kSlc_ok, kSlc2_ok, kSlc3_T, kSlc3_L, evO_none, evO_some, kEnd_ok, comp_, roE, roL, roO, roI, out_ret, out_nx, len_T, len_L, int_I, tup_L, tup_T, tup_nil, bin_add, bin_sub, tru_bl, cmp_lt, cmp_le, cmp_gt, cmp_ge, cmp_eqI, cmp_neI, cmp_eqT, cmp_neT, cmp_eqLa, cmp_neLa, cmp_eqLs, own_T, own_La, own_tup, own_int, own_bl, own_non, own_k, own_s, own_g, Bool.not_false, Bool.not_true, Bool.or_true, Bool.true_or, Bool.or_false, Bool.false_or, Bool.and_true, Bool.true_and, Bool.and_false, Bool.false_and, if_true, if_false, Bool.false_eq_true, reduceIte, Int.reduceEq, Int.reduceLT, Int.reduceLE, Nat.reduceLT, Nat.reduceAdd, Nat.reduceSub, List.map_cons, List.map_nil, List.cons_append, List.nil_append, List.replicate, List.getElem?_cons_zero, List.getElem?_cons_succ, List.set, List.set_cons_zero, List.set_cons_succ, List.length_cons, List.length_nil, List.zip_cons_cons, List.zip_nil_right, List.foldl_cons, List.foldl_nil, List.all_cons, List.all_nil, decide_true, decide_false, Nat.zero_lt_succ, and_self, and_true, true_and, Int.ofNat_lt, Int.ofNat_le, eq_self, f_same_word, lend_L1, set_L1, h1, h2]
theorem cnt_int (b1 l1 b2 l2 : List Int) : ((b1.length : Int) + (b2.length : Int) + 2 * (l1.length : Int) * (l2.length : Int) + 1) = ((cnt b1 l1 b2 l2 : Nat) : Int) := by
  unfold cnt
  simp only [Int.natCast_add, Int.natCast_mul]
  rfl
theorem cnt_le {b1 l1 b2 l2 : List Int} (h1 : b1.length ≤ 300) (h2 : b2.length ≤ 300) (h3 : l1.length ≤ 300) (h4 : l2.length ≤ 300) : cnt b1 l1 b2 l2 < 1000000 := by
  unfold cnt
  have : 2 * l1.length * l2.length ≤ 600 * 300 := Nat.mul_le_mul (by omega) h4
  omega
theorem law_same [H_law_at P] [H_law_letters P] [H_law_same P] (n : Nat) (b l b' l' : List Int) (hl : 0 < l.length) (hl2 : l.length ≤ 300) (hb : b.length ≤ 300) (hl' : 0 < l'.length) (hl2' : l'.length ≤ 300) (hb' : b'.length ≤ 300) :
    (C P (n + 3)).call "_law_same" [La b l, La b' l'] = .ok (.bl (decide (ltrs b l (cnt b l b' l') = ltrs b' l' (cnt b l b' l')))) := by
  rw [c_of H_law_same.h (n + 2) _ rfl]
  have h1 := law_letters (P := P) n b l (cnt b l b' l') hl (cnt_le hb hb' hl2 hl2')
  have h2 := law_letters (P := P) n b' l' (cnt b l b' l') hl' (cnt_le hb hb' hl2 hl2')
  have m1 : binop .mul (.int 2) (.int (l.length : Int)) = .ok (.int (2 * (l.length : Int))) := bin_mul (by rw [small_nat (n := l.length) (by omega), Bool.or_true])
  have m2 : binop .mul (.int (2 * (l.length : Int))) (.int (l'.length : Int)) = .ok (.int (2 * (l.length : Int) * (l'.length : Int))) := bin_mul (by rw [small_nat (n := l'.length) (by omega), Bool.or_true])
  simp only [execs_cons, execs_nil, asg_, augv_, jAug0_ok, ex_, ret_, if_, for_, whl_, jTest_ok, jTest2_ok, brk_, cnt_, pass_, jSt_ok, jAsg_ok, jAug3_ok, jAug2_ok, jEx_ok, jRet_ok, jIf2_t, jIf2_f, jIf_ok, jSeq_nx, jSeq_ret, jSeq_brk, jSeq_cnt, jFor_ok, rng_, jRng_1, jRng_2, set_var, set_tup, bind_one, augI_add, augI_sub, lit_, var_, kVar_flat, kVar_pk, bin_, kBin1_ok, kBin2_ok, kVal_ok, kBl_ok, cmp_, kCmp1_ok, kCmp2_ok, chain_, kCh0_ok, kCh1_ok, kCh2_t, kCh2_f, kCh3_ok, neg_, kNeg_ok, not_, kNot_ok, kNot2_ok, isN_, kIsN_ok, notN_, kNotN_ok, and_, kAnd_ok, kAnd2_t, kAnd2_f, or_, kOr_ok, kOr2_t, kOr2_f, ite_, kIte_ok, kIte2_t, kIte2_f, evs_cons, evs_nil, kCons_ok, kCons2_ok, tup_, kTup_ok, lst_, kLst_ok, bi_, kBi_ok, call_, kCall_ok, kCall2_ok, isi_, kIsi_ok, idxB_, kIdx0_t, kIdx_ok, kIdx2_ok, kTake_ok, take_flat, slc_, kSlc_ok, kSlc2_ok, kSlc3_T, kSlc3_L, evO_none, evO_some, kEnd_ok, comp_, roE, roL, roO, roI, out_ret, out_nx, len_T, len_L, int_I, tup_L, tup_T, tup_nil, bin_add, bin_sub, tru_bl, cmp_lt, cmp_le, cmp_gt, cmp_ge, cmp_eqI, cmp_neI, cmp_eqT, cmp_neT, cmp_eqLa, cmp_neLa, cmp_eqLs, own_T, own_La, own_tup, own_int, own_bl, own_non, own_k, own_s, own_g, Bool.not_false, Bool.not_true, Bool.or_true, Bool.true_or, Bool.or_false, Bool.false_or, Bool.and_true, Bool.true_and, Bool.and_false, Bool.false_and, if_true, if_false, Bool.false_eq_true, reduceIte, Int.reduceEq, Int.reduceLT, Int.reduceLE, Nat.reduceLT, Nat.reduceAdd, Nat.reduceSub, List.map_cons, List.map_nil, List.cons_append, List.nil_append, List.replicate, List.getElem?_cons_zero, List.getElem?_cons_succ, List.set, List.set_cons_zero, List.set_cons_succ, List.length_cons, List.length_nil, List.zip_cons_cons, List.zip_nil_right, List.foldl_cons, List.foldl_nil, List.all_cons, List.all_nil, decide_true, decide_false, Nat.zero_lt_succ, and_self, and_true, true_and, Int.ofNat_lt, Int.ofNat_le, eq_self, f_law_same, len0, len1, m1, m2, cnt_int, lend_Li, set_Li, h1, h2]
def wrd (k : Int) : Nat → Nat → Int → List Int
  | 0, _, _ => []
  | m + 1, t, x => x.fmod k :: wrd k m (t + 1) (x.fdiv k + 13 * (t : Int) + 5)
abbrev bdWd : List S := [.mut false "append" (.var 3) [.bin .mod (.bi "int" [.var 0]) (.var 1)], .asg (.var 0) (.bi "int" [.bin .add (.bin .add (.bin .fdiv (.var 0) (.var 1)) (.bin .mul (.lit (.int 13)) (.var 4))) (.lit (.int 5))])]
theorem sml13 : isSmall 13 = true := by simp [isSmall, big]
theorem stepWd (c : Ctx) (x k : Int) (L : D) (ws : List Int) (t : Nat) (hk : k ≠ 0) (hk2 : k.natAbs < 1073741824) (hw : ws.length < line) :
    execs c bdWd [some (.int x), some (.int k), some L, some (.lst .o (ws.map .int)), some (.int t)] = .ok (.nx, [some (.int (x.fdiv k + 13 * (t : Int) + 5)), some (.int k), some L, some (.lst .o ((ws ++ [x.fmod k]).map .int)), some (.int t)]) := by
  have hm := mut_ c (n := "append") (keep := false) (i := 3) (es := [.bin .mod (.bi "int" [.var 0]) (.var 1)]) (env := [some (.int x), some (.int k), some L, some (.lst .o (ws.map .int)), some (.int t)]) (t0 := .lst .o (ws.map .int)) rfl rfl
  have ha := jMut_app (keep := false) (i := 3) (x := .int (x.fmod k)) (xs := ws.map .int) (e := [some (.int x), some (.int k), some L, some (.lst .o (ws.map .int)), some (.int t)]) rfl (by rw [List.length_map]; exact hw) rfl
  have m1 : binop .mul (.int 13) (.int (t : Int)) = .ok (.int (13 * (t : Int))) := bin_mul (by rw [sml13]; rfl)
  simp only [execs_cons, execs_nil, asg_, augv_, jAug0_ok, ex_, ret_, if_, for_, whl_, jTest_ok, jTest2_ok, brk_, cnt_, pass_, jSt_ok, jAsg_ok, jAug3_ok, jAug2_ok, jEx_ok, jRet_ok, jIf2_t, jIf2_f, jIf_ok, jSeq_nx, jSeq_ret, jSeq_brk, jSeq_cnt, jFor_ok, rng_, jRng_1, jRng_2, set_var, set_tup, bind_one, augI_add, augI_sub, lit_, var_, kVar_flat, kVar_pk, bin_, kBin1_ok, kBin2_ok, kVal_ok, kBl_ok, cmp_, kCmp1_ok, kCmp2_ok, chain_, kCh0_ok, kCh1_ok, kCh2_t, kCh2_f, kCh3_ok, neg_, kNeg_ok, not_, kNot_ok, kNot2_ok, isN_, kIsN_ok, notN_, kNotN_ok, and_, kAnd_ok, kAnd2_t, kAnd2_f, or_, kOr_ok, kOr2_t, kOr2_f, ite_, kIte_ok, kIte2_t, kIte2_f, evs_cons, evs_nil, kCons_ok, kCons2_ok, tup_, kTup_ok, lst_, kLst_ok, bi_, kBi_ok, call_, kCall_ok, kCall2_ok, isi_, kIsi_ok, idxB_, kIdx0_t, kIdx_ok, kIdx2_ok, kTake_ok, take_flat, slc_, kSlc_ok, kSlc2_ok, kSlc3_T, kSlc3_L, evO_none, evO_some, kEnd_ok, comp_, roE, roL, roO, roI, out_ret, out_nx, len_T, len_L, int_I, tup_L, tup_T, tup_nil, bin_add, bin_sub, tru_bl, cmp_lt, cmp_le, cmp_gt, cmp_ge, cmp_eqI, cmp_neI, cmp_eqT, cmp_neT, cmp_eqLa, cmp_neLa, cmp_eqLs, own_T, own_La, own_tup, own_int, own_bl, own_non, own_k, own_s, own_g, Bool.not_false, Bool.not_true, Bool.or_true, Bool.true_or, Bool.or_false, Bool.false_or, Bool.and_true, Bool.true_and, Bool.and_false, Bool.false_and, if_true, if_false, Bool.false_eq_true, reduceIte, Int.reduceEq, Int.reduceLT, Int.reduceLE, Nat.reduceLT, Nat.reduceAdd, Nat.reduceSub, List.map_cons, List.map_nil, List.cons_append, List.nil_append, List.replicate, List.getElem?_cons_zero, List.getElem?_cons_succ, List.set, List.set_cons_zero, List.set_cons_succ, List.length_cons, List.length_nil, List.zip_cons_cons, List.zip_nil_right, List.foldl_cons, List.foldl_nil, List.all_cons, List.all_nil, decide_true, decide_false, Nat.zero_lt_succ, and_self, and_true, true_and, Int.ofNat_lt, Int.ofNat_le, eq_self, hm, ha, bin_mod hk, bin_fdiv hk hk2, m1, List.map_append]
theorem loopWd (c : Ctx) (k : Int) (L : D) (hk : k ≠ 0) (hk2 : k.natAbs < 1073741824) : ∀ (m t : Nat) (x : Int) (ws : List Int) (o : Option D), ws.length + m < line →
    ∃ e', forLoop [] (stepF c (.var 4) bdWd) ((List.range' t m).map fun d : Nat => D.int (d : Int)) [some (.int x), some (.int k), some L, some (.lst .o (ws.map .int)), o] = .ok (.nx, e') ∧ e'[3]? = some (some (.lst .o ((ws ++ wrd k m t x).map .int)))
  | 0, t, x, ws, o, _ => ⟨_, rfl, by rw [wrd, List.append_nil]; rfl⟩
  | m + 1, t, x, ws, o, h => by
    rw [List.range'_succ, List.map_cons, forLoop, stands_nil, if_neg (by simp)]
    rw [stepF_ok (e1 := [some (.int x), some (.int k), some L, some (.lst .o (ws.map .int)), some (.int t)]) _ rfl, stepWd c x k L ws t hk hk2 (by omega), bk]
    obtain ⟨e', h1, h2⟩ := loopWd c k L hk hk2 m (t + 1) (x.fdiv k + 13 * (t : Int) + 5) (ws ++ [x.fmod k]) (some (.int t)) (by rw [List.length_append, List.length_singleton]; omega)
    refine ⟨e', h1, ?_⟩
    rw [h2, wrd, List.append_assoc]
    rfl
theorem law_word [H_law_word P] (n : Nat) (x k : Int) (m : Nat) (hk : k ≠ 0) (hk2 : k.natAbs < 1073741824) (hm : m < 1000000) : (C P (n + 1)).call "_law_word" [.int x, .int k, .int m] = .ok (T (wrd k m 0 x)) := by
  rw [c_of H_law_word.h n _ rfl]
  have hr : isRg (m : Int) = true := isRg_nat (by omega)
  obtain ⟨e', h1, h2⟩ := loopWd (C P n) k (.int m) hk hk2 m 0 x [] none (by unfold line; simp; omega)
  have e0 : rangeL 0 m = (List.range' 0 m).map fun d : Nat => D.int (d : Int) := rangeL_range 0 m
  have ht : ((m : Int)).toNat = m := rfl
  have h1' : forLoop [] (stepF (C P n) (.var 4) bdWd) (rangeL 0 m) [some (.int x), some (.int k), some (.int m), some (.lst .o []), none] = .ok (.nx, e') := by rw [e0]; exact h1
  have h2' : e'[3]? = some (some (.lst .o ((wrd k m 0 x).map .int))) := h2
  simp only [execs_cons, execs_nil, asg_, augv_, jAug0_ok, ex_, ret_, if_, for_, whl_, jTest_ok, jTest2_ok, brk_, cnt_, pass_, jSt_ok, jAsg_ok, jAug3_ok, jAug2_ok, jEx_ok, jRet_ok, jIf2_t, jIf2_f, jIf_ok, jSeq_nx, jSeq_ret, jSeq_brk, jSeq_cnt, jFor_ok, rng_, jRng_1, jRng_2, set_var, set_tup, bind_one, augI_add, augI_sub, lit_, var_, kVar_flat, kVar_pk, bin_, kBin1_ok, kBin2_ok, kVal_ok, kBl_ok, cmp_, kCmp1_ok, kCmp2_ok, chain_, kCh0_ok, kCh1_ok, kCh2_t, kCh2_f, kCh3_ok, neg_, kNeg_ok, not_, kNot_ok, kNot2_ok, isN_, kIsN_ok, notN_, kNotN_ok, and_, kAnd_ok, kAnd2_t, kAnd2_f, or_, kOr_ok, kOr2_t, kOr2_f, ite_, kIte_ok, kIte2_t, kIte2_f, evs_cons, evs_nil, kCons_ok, kCons2_ok, tup_, kTup_ok, lst_, kLst_ok, bi_, kBi_ok, call_, kCall_ok, kCall2_ok, isi_, kIsi_ok, idxB_, kIdx0_t, kIdx_ok, kIdx2_ok, kTake_ok, take_flat, slc_, kSlc_ok, kSlc2_ok, kSlc3_T, kSlc3_L, evO_none, evO_some, kEnd_ok, comp_, roE, roL, roO, roI, out_ret, out_nx, len_T, len_L, int_I, tup_L, tup_T, tup_nil, bin_add, bin_sub, tru_bl, cmp_lt, cmp_le, cmp_gt, cmp_ge, cmp_eqI, cmp_neI, cmp_eqT, cmp_neT, cmp_eqLa, cmp_neLa, cmp_eqLs, own_T, own_La, own_tup, own_int, own_bl, own_non, own_k, own_s, own_g, Bool.not_false, Bool.not_true, Bool.or_true, Bool.true_or, Bool.or_false, Bool.false_or, Bool.and_true, Bool.true_and, Bool.and_false, Bool.false_and, if_true, if_false, Bool.false_eq_true, reduceIte, Int.reduceEq, Int.reduceLT, Int.reduceLE, Nat.reduceLT, Nat.reduceAdd, Nat.reduceSub, List.map_cons, List.map_nil, List.cons_append, List.nil_append, List.replicate, List.getElem?_cons_zero, List.getElem?_cons_succ, List.set, List.set_cons_zero, List.set_cons_succ, List.length_cons, List.length_nil, List.zip_cons_cons, List.zip_nil_right, List.foldl_cons, List.foldl_nil, List.all_cons, List.all_nil, decide_true, decide_false, Nat.zero_lt_succ, and_self, and_true, true_and, Int.ofNat_lt, Int.ofNat_le, eq_self, f_law_word, hr, ht, h1', h2']
def lsB (x k : Int) (m : Nat) : List Int := wrd k (x.fmod ((m : Int) + 1)).toNat 0 (x.fdiv ((m : Int) * (m : Int) + (m : Int)))
def lsL (x k : Int) (m : Nat) : List Int := wrd k (1 + (x.fdiv ((m : Int) + 1)).fmod (m : Int)).toNat 0 ((x.fdiv ((m : Int) * (m : Int) + (m : Int))).fdiv 7 + 3)
theorem fmod_nn (x : Int) {m : Int} (h : 0 < m) : 0 ≤ x.fmod m ∧ x.fmod m < m := by
  rw [Int.fmod_eq_emod_of_nonneg _ (by omega)]
  exact ⟨Int.emod_nonneg _ (by omega), Int.emod_lt_of_pos _ h⟩
theorem law_lasso [H_law_word P] [H_law_lasso P] (n : Nat) (x k : Int) (m : Nat) (hk : k ≠ 0) (hk2 : k.natAbs < 1073741824) (hm : 0 < m) (hm2 : m ≤ 100) : (C P (n + 2)).call "_law_lasso" [.int x, .int k, .int m] = .ok (La (lsB x k m) (lsL x k m)) := by
  rw [c_of H_law_lasso.h (n + 1) _ rfl]
  obtain ⟨p1, p2⟩ := fmod_nn x (m := (m : Int) + 1) (by omega)
  obtain ⟨p3, p4⟩ := fmod_nn (x.fdiv ((m : Int) + 1)) (m := (m : Int)) (by omega)
  have hmm : (m : Int) * (m : Int) ≤ 100 * 100 := Int.mul_le_mul (by omega) (by omega) (by omega) (by omega)
  have hmn : 0 ≤ (m : Int) * (m : Int) := Int.mul_nonneg (by omega) (by omega)
  have w1 := law_word (P := P) n (x.fdiv ((m : Int) * (m : Int) + (m : Int))) k (x.fmod ((m : Int) + 1)).toNat hk hk2 (by omega)
  have w2 := law_word (P := P) n ((x.fdiv ((m : Int) * (m : Int) + (m : Int))).fdiv 7 + 3) k (1 + (x.fdiv ((m : Int) + 1)).fmod (m : Int)).toNat hk hk2 (by omega)
  rw [Int.toNat_of_nonneg p1] at w1
  rw [Int.toNat_of_nonneg (by omega)] at w2
  have z1 : (m : Int) + 1 ≠ 0 := by omega
  have z2 : (m : Int) ≠ 0 := by omega
  have z3 : (m : Int) * (m : Int) + (m : Int) ≠ 0 := by omega
  have b1 : ((m : Int) + 1).natAbs < 1073741824 := by omega
  have b3 : ((m : Int) * (m : Int) + (m : Int)).natAbs < 1073741824 := by omega
  have b7 : (7 : Int) ≠ 0 := by omega
  have b7' : (7 : Int).natAbs < 1073741824 := by omega
  have m1 : binop .mul (.int (m : Int)) (.int (m : Int)) = .ok (.int ((m : Int) * (m : Int))) := bin_mul (by rw [small_nat (n := m) (by omega), Bool.or_true])
  have hle : ∀ a b c : Int, lendL [.int a, .int b, .int c] = [.int a, .int b, .int c] := fun a b c => rfl
  have hse : ∀ (ro : Bool) (es : List E) (a b c : Int) (r : D) (env : Env), settle ro es [.int a, .int b, .int c] r env = .ok (r, env) := fun ro es a b c r env => settle_flat rfl
  unfold lsB lsL
  simp only [execs_cons, execs_nil, asg_, augv_, jAug0_ok, ex_, ret_, if_, for_, whl_, jTest_ok, jTest2_ok, brk_, cnt_, pass_, jSt_ok, jAsg_ok, jAug3_ok, jAug2_ok, jEx_ok, jRet_ok, jIf2_t, jIf2_f, jIf_ok, jSeq_nx, jSeq_ret, jSeq_brk, jSeq_cnt, jFor_ok, rng_, jRng_1, jRng_2, set_var, set_tup, bind_one, augI_add, augI_sub, lit_, var_, kVar_flat, kVar_pk, bin_, kBin1_ok, kBin2_ok, kVal_ok, kBl_ok, cmp_, kCmp1_ok, kCmp2_ok, chain_, kCh0_ok, kCh1_ok, kCh2_t, kCh2_f, kCh3_ok, neg_, kNeg_ok, not_, kNot_ok, kNot2_ok, isN_, kIsN_ok, notN_, kNotN_ok, and_, kAnd_ok, kAnd2_t, kAnd2_f, or_, kOr_ok, kOr2_t, kOr2_f, ite_, kIte_ok, kIte2_t, kIte2_f, evs_cons, evs_nil, kCons_ok, kCons2_ok, tup_, kTup_ok, lst_, kLst_ok, bi_, kBi_ok, call_, kCall_ok, kCall2_ok, isi_, kIsi_ok, idxB_, kIdx0_t, kIdx_ok, kIdx2_ok, kTake_ok, take_flat, slc_, kSlc_ok, kSlc2_ok, kSlc3_T, kSlc3_L, evO_none, evO_some, kEnd_ok, comp_, roE, roL, roO, roI, out_ret, out_nx, len_T, len_L, int_I, tup_L, tup_T, tup_nil, bin_add, bin_sub, tru_bl, cmp_lt, cmp_le, cmp_gt, cmp_ge, cmp_eqI, cmp_neI, cmp_eqT, cmp_neT, cmp_eqLa, cmp_neLa, cmp_eqLs, own_T, own_La, own_tup, own_int, own_bl, own_non, own_k, own_s, own_g, Bool.not_false, Bool.not_true, Bool.or_true, Bool.true_or, Bool.or_false, Bool.false_or, Bool.and_true, Bool.true_and, Bool.and_false, Bool.false_and, if_true, if_false, Bool.false_eq_true, reduceIte, Int.reduceEq, Int.reduceLT, Int.reduceLE, Nat.reduceLT, Nat.reduceAdd, Nat.reduceSub, List.map_cons, List.map_nil, List.cons_append, List.nil_append, List.replicate, List.getElem?_cons_zero, List.getElem?_cons_succ, List.set, List.set_cons_zero, List.set_cons_succ, List.length_cons, List.length_nil, List.zip_cons_cons, List.zip_nil_right, List.foldl_cons, List.foldl_nil, List.all_cons, List.all_nil, decide_true, decide_false, Nat.zero_lt_succ, and_self, and_true, true_and, Int.ofNat_lt, Int.ofNat_le, eq_self, f_law_lasso, bin_mod z1, bin_fdiv z1 b1, bin_mod z2, m1, bin_fdiv z3 b3, bin_fdiv b7 b7', hle, hse, w1, w2, share_La]
abbrev tsFd : E := .cmp .eq (.call "letter_at" [.var 0, .var 2]) (.call "letter_at" [.var 1, .var 2])
abbrev bdFd : List S := [.aug (.var 2) .add (.lit (.int 1))]
theorem testFd [H_letter_at P] (n : Nat) (b l b' l' : List Int) (j : Nat) (hl : 0 < l.length) (hl' : 0 < l'.length) : testF (C P (n + 1)) tsFd [some (La b l), some (La b' l'), some (.int j)] = .ok (decide (ltr b l j = ltr b' l' j), [some (La b l), some (La b' l'), some (.int j)]) := by
  have h1 := letter_at (P := P) n b l j hl
  have h2 := letter_at (P := P) n b' l' j hl'
  unfold testF
  simp only [execs_cons, execs_nil, asg_, augv_, jAug0_ok, ex_, ret_, if_, for_, whl_, jTest_ok, jTest2_ok, brk_, cnt_, pass_, jSt_ok, jAsg_ok, jAug3_ok, jAug2_ok, jEx_ok, jRet_ok, jIf2_t, jIf2_f, jIf_ok, jSeq_nx, jSeq_ret, jSeq_brk, jSeq_cnt, jFor_ok, rng_, jRng_1, jRng_2, set_var, set_tup, bind_one, augI_add, augI_sub, lit_, var_, kVar_flat, kVar_pk, bin_, kBin1_ok, kBin2_ok, kVal_ok, kBl_ok, cmp_, kCmp1_ok, kCmp2_ok, chain_, kCh0_ok, kCh1_ok, kCh2_t, kCh2_f, kCh3_ok, neg_, kNeg_ok, not_, kNot_ok, kNot2_ok, isN_, kIsN_ok, notN_, kNotN_ok, and_, kAnd_ok, kAnd2_t, kAnd2_f, or_, kOr_ok, kOr2_t, kOr2_f, ite_, kIte_ok, kIte2_t, kIte2_f, evs_cons, evs_nil, kCons_ok, kCons2_ok, tup_, kTup_ok, lst_, kLst_ok, bi_, kBi_ok, call_, kCall_ok, kCall2_ok, isi_, kIsi_ok, idxB_, kIdx0_t, kIdx_ok, kIdx2_ok, kTake_ok, take_flat, slc_, kSlc_ok, kSlc2_ok, kSlc3_T, kSlc3_L, evO_none, evO_some, kEnd_ok, comp_, roE, roL, roO, roI, out_ret, out_nx, len_T, len_L, int_I, tup_L, tup_T, tup_nil, bin_add, bin_sub, tru_bl, cmp_lt, cmp_le, cmp_gt, cmp_ge, cmp_eqI, cmp_neI, cmp_eqT, cmp_neT, cmp_eqLa, cmp_neLa, cmp_eqLs, own_T, own_La, own_tup, own_int, own_bl, own_non, own_k, own_s, own_g, Bool.not_false, Bool.not_true, Bool.or_true, Bool.true_or, Bool.or_false, Bool.false_or, Bool.and_true, Bool.true_and, Bool.and_false, Bool.false_and, if_true, if_false, Bool.false_eq_true, reduceIte, Int.reduceEq, Int.reduceLT, Int.reduceLE, Nat.reduceLT, Nat.reduceAdd, Nat.reduceSub, List.map_cons, List.map_nil, List.cons_append, List.nil_append, List.replicate, List.getElem?_cons_zero, List.getElem?_cons_succ, List.set, List.set_cons_zero, List.set_cons_succ, List.length_cons, List.length_nil, List.zip_cons_cons, List.zip_nil_right, List.foldl_cons, List.foldl_nil, List.all_cons, List.all_nil, decide_true, decide_false, Nat.zero_lt_succ, and_self, and_true, true_and, Int.ofNat_lt, Int.ofNat_le, eq_self, lend_Li, set_Li, h1, h2]
theorem loopFd [H_letter_at P] (n : Nat) (b l b' l' : List Int) (hl : 0 < l.length) (hl' : 0 < l'.length) (p : Nat) (hp : ltr b l p ≠ ltr b' l' p) : ∀ (k f j : Nat), j + k = p → k < f → (∀ i, i < p → ltr b l i = ltr b' l' i) → whileLoop (testF (C P (n + 1)) tsFd) (execs (C P (n + 1)) bdFd) f [some (La b l), some (La b' l'), some (.int j)] = .ok (.nx, [some (La b l), some (La b' l'), some (.int p)])
  | _, 0, _, _, h, _ => by omega
  | 0, f + 1, j, hj, _, _ => by
    have : j = p := by omega
    subst this
    exact whl_end (by rw [testFd n b l b' l' j hl hl', decide_eq_false hp])
  | k + 1, f + 1, j, hj, hf, hs => by
    have hb : execs (C P (n + 1)) bdFd [some (La b l), some (La b' l'), some (.int j)] = .ok (.nx, [some (La b l), some (La b' l'), some (.int ((j + 1 : Nat) : Int))]) := by
      have e : ((j + 1 : Nat) : Int) = (j : Int) + 1 := rfl
      rw [e]
      simp only [execs_cons, execs_nil, asg_, augv_, jAug0_ok, ex_, ret_, if_, for_, whl_, jTest_ok, jTest2_ok, brk_, cnt_, pass_, jSt_ok, jAsg_ok, jAug3_ok, jAug2_ok, jEx_ok, jRet_ok, jIf2_t, jIf2_f, jIf_ok, jSeq_nx, jSeq_ret, jSeq_brk, jSeq_cnt, jFor_ok, rng_, jRng_1, jRng_2, set_var, set_tup, bind_one, augI_add, augI_sub, lit_, var_, kVar_flat, kVar_pk, bin_, kBin1_ok, kBin2_ok, kVal_ok, kBl_ok, cmp_, kCmp1_ok, kCmp2_ok, chain_, kCh0_ok, kCh1_ok, kCh2_t, kCh2_f, kCh3_ok, neg_, kNeg_ok, not_, kNot_ok, kNot2_ok, isN_, kIsN_ok, notN_, kNotN_ok, and_, kAnd_ok, kAnd2_t, kAnd2_f, or_, kOr_ok, kOr2_t, kOr2_f, ite_, kIte_ok, kIte2_t, kIte2_f, evs_cons, evs_nil, kCons_ok, kCons2_ok, tup_, kTup_ok, lst_, kLst_ok, bi_, kBi_ok, call_, kCall_ok, kCall2_ok, isi_, kIsi_ok, idxB_, kIdx0_t, kIdx_ok, kIdx2_ok, kTake_ok, take_flat, slc_, kSlc_ok, kSlc2_ok, kSlc3_T, kSlc3_L, evO_none, evO_some, kEnd_ok, comp_, roE, roL, roO, roI, out_ret, out_nx, len_T, len_L, int_I, tup_L, tup_T, tup_nil, bin_add, bin_sub, tru_bl, cmp_lt, cmp_le, cmp_gt, cmp_ge, cmp_eqI, cmp_neI, cmp_eqT, cmp_neT, cmp_eqLa, cmp_neLa, cmp_eqLs, own_T, own_La, own_tup, own_int, own_bl, own_non, own_k, own_s, own_g, Bool.not_false, Bool.not_true, Bool.or_true, Bool.true_or, Bool.or_false, Bool.false_or, Bool.and_true, Bool.true_and, Bool.and_false, Bool.false_and, if_true, if_false, Bool.false_eq_true, reduceIte, Int.reduceEq, Int.reduceLT, Int.reduceLE, Nat.reduceLT, Nat.reduceAdd, Nat.reduceSub, List.map_cons, List.map_nil, List.cons_append, List.nil_append, List.replicate, List.getElem?_cons_zero, List.getElem?_cons_succ, List.set, List.set_cons_zero, List.set_cons_succ, List.length_cons, List.length_nil, List.zip_cons_cons, List.zip_nil_right, List.foldl_cons, List.foldl_nil, List.all_cons, List.all_nil, decide_true, decide_false, Nat.zero_lt_succ, and_self, and_true, true_and, Int.ofNat_lt, Int.ofNat_le, eq_self, ]
    rw [whl_step (by rw [testFd n b l b' l' j hl hl', decide_eq_true (hs j (by omega))]) hb]
    exact loopFd n b l b' l' hl hl' p hp k f (j + 1) (by omega) (by omega) hs
theorem first_difference [H_letter_at P] [H_least_loop P] [H_least_lasso P] [H_same_word P] [H_first_difference P] (n : Nat) (b l b' l' : List Int) (hl : 0 < l.length) (hl2 : l.length ≤ 1000) (hb : b.length < 100000) (hl' : 0 < l'.length) (hl2' : l'.length ≤ 1000) (hb' : b'.length < 100000) (p : Nat) (hp : ltr b l p ≠ ltr b' l' p) (hs : ∀ i, i < p → ltr b l i = ltr b' l' i) (hp2 : p < 1000000)
    (hw : ¬ ((llasso b l).1 = (llasso b' l').1 ∧ (llasso b l).2 = (llasso b' l').2)) : (C P (n + 4)).call "first_difference" [La b l, La b' l'] = .ok (.int p) := by
  rw [c_of H_first_difference.h (n + 3) _ rfl]
  have h1 := same_word (P := P) n b l b' l' hl hl2 hb hl' hl2' hb'
  rw [decide_eq_false hw] at h1
  have h2 := loopFd (P := P) (n + 2) b l b' l' hl hl' p hp p fuel 0 (by omega) (by unfold fuel; omega) hs
  have hfu : (C P (n + 3)).fuel = fuel := ctx_fuel _ _ _
  have h2' : whileLoop (testF (C P (n + 3)) tsFd) (execs (C P (n + 3)) bdFd) fuel [some (La b l), some (La b' l'), some (.int 0)] = .ok (.nx, [some (La b l), some (La b' l'), some (.int p)]) := h2
  simp only [execs_cons, execs_nil, asg_, augv_, jAug0_ok, ex_, ret_, if_, for_, whl_, jTest_ok, jTest2_ok, brk_, cnt_, pass_, jSt_ok, jAsg_ok, jAug3_ok, jAug2_ok, jEx_ok, jRet_ok, jIf2_t, jIf2_f, jIf_ok, jSeq_nx, jSeq_ret, jSeq_brk, jSeq_cnt, jFor_ok, rng_, jRng_1, jRng_2, set_var, set_tup, bind_one, augI_add, augI_sub, lit_, var_, kVar_flat, kVar_pk, bin_, kBin1_ok, kBin2_ok, kVal_ok, kBl_ok, cmp_, kCmp1_ok, kCmp2_ok, chain_, kCh0_ok, kCh1_ok, kCh2_t, kCh2_f, kCh3_ok, neg_, kNeg_ok, not_, kNot_ok, kNot2_ok, isN_, kIsN_ok, notN_, kNotN_ok, and_, kAnd_ok, kAnd2_t, kAnd2_f, or_, kOr_ok, kOr2_t, kOr2_f, ite_, kIte_ok, kIte2_t, kIte2_f, evs_cons, evs_nil, kCons_ok, kCons2_ok, tup_, kTup_ok, lst_, kLst_ok, bi_, kBi_ok, call_, kCall_ok, kCall2_ok, isi_, kIsi_ok, idxB_, kIdx0_t, kIdx_ok, kIdx2_ok, kTake_ok, take_flat, slc_, kSlc_ok, kSlc2_ok, kSlc3_T, kSlc3_L, evO_none, evO_some, kEnd_ok, comp_, roE, roL, roO, roI, out_ret, out_nx, len_T, len_L, int_I, tup_L, tup_T, tup_nil, bin_add, bin_sub, tru_bl, cmp_lt, cmp_le, cmp_gt, cmp_ge, cmp_eqI, cmp_neI, cmp_eqT, cmp_neT, cmp_eqLa, cmp_neLa, cmp_eqLs, own_T, own_La, own_tup, own_int, own_bl, own_non, own_k, own_s, own_g, Bool.not_false, Bool.not_true, Bool.or_true, Bool.true_or, Bool.or_false, Bool.false_or, Bool.and_true, Bool.true_and, Bool.and_false, Bool.false_and, if_true, if_false, Bool.false_eq_true, reduceIte, Int.reduceEq, Int.reduceLT, Int.reduceLE, Nat.reduceLT, Nat.reduceAdd, Nat.reduceSub, List.map_cons, List.map_nil, List.cons_append, List.nil_append, List.replicate, List.getElem?_cons_zero, List.getElem?_cons_succ, List.set, List.set_cons_zero, List.set_cons_succ, List.length_cons, List.length_nil, List.zip_cons_cons, List.zip_nil_right, List.foldl_cons, List.foldl_nil, List.all_cons, List.all_nil, decide_true, decide_false, Nat.zero_lt_succ, and_self, and_true, true_and, Int.ofNat_lt, Int.ofNat_le, eq_self, f_first_difference, lend_LL, set_LL, h1, hfu, h2']
theorem first_difference0 [H_letter_at P] [H_least_loop P] [H_least_lasso P] [H_same_word P] [H_first_difference P] (n : Nat) (b l b' l' : List Int) (hl : 0 < l.length) (hl2 : l.length ≤ 1000) (hb : b.length < 100000) (hl' : 0 < l'.length) (hl2' : l'.length ≤ 1000) (hb' : b'.length < 100000)
    (hw : (llasso b l).1 = (llasso b' l').1 ∧ (llasso b l).2 = (llasso b' l').2) : (C P (n + 4)).call "first_difference" [La b l, La b' l'] = .ok .non := by
  rw [c_of H_first_difference.h (n + 3) _ rfl]
  have h1 := same_word (P := P) n b l b' l' hl hl2 hb hl' hl2' hb'
  rw [decide_eq_true hw] at h1
  simp only [execs_cons, execs_nil, asg_, augv_, jAug0_ok, ex_, ret_, if_, for_, whl_, jTest_ok, jTest2_ok, brk_, cnt_, pass_, jSt_ok, jAsg_ok, jAug3_ok, jAug2_ok, jEx_ok, jRet_ok, jIf2_t, jIf2_f, jIf_ok, jSeq_nx, jSeq_ret, jSeq_brk, jSeq_cnt, jFor_ok, rng_, jRng_1, jRng_2, set_var, set_tup, bind_one, augI_add, augI_sub, lit_, var_, kVar_flat, kVar_pk, bin_, kBin1_ok, kBin2_ok, kVal_ok, kBl_ok, cmp_, kCmp1_ok, kCmp2_ok, chain_, kCh0_ok, kCh1_ok, kCh2_t, kCh2_f, kCh3_ok, neg_, kNeg_ok, not_, kNot_ok, kNot2_ok, isN_, kIsN_ok, notN_, kNotN_ok, and_, kAnd_ok, kAnd2_t, kAnd2_f, or_, kOr_ok, kOr2_t, kOr2_f, ite_, kIte_ok, kIte2_t, kIte2_f, evs_cons, evs_nil, kCons_ok, kCons2_ok, tup_, kTup_ok, lst_, kLst_ok, bi_, kBi_ok, call_, kCall_ok, kCall2_ok, isi_, kIsi_ok, idxB_, kIdx0_t, kIdx_ok, kIdx2_ok, kTake_ok, take_flat, slc_, kSlc_ok, kSlc2_ok, kSlc3_T, kSlc3_L, evO_none, evO_some, kEnd_ok, comp_, roE, roL, roO, roI, out_ret, out_nx, len_T, len_L, int_I, tup_L, tup_T, tup_nil, bin_add, bin_sub, tru_bl, cmp_lt, cmp_le, cmp_gt, cmp_ge, cmp_eqI, cmp_neI, cmp_eqT, cmp_neT, cmp_eqLa, cmp_neLa, cmp_eqLs, own_T, own_La, own_tup, own_int, own_bl, own_non, own_k, own_s, own_g, Bool.not_false, Bool.not_true, Bool.or_true, Bool.true_or, Bool.or_false, Bool.false_or, Bool.and_true, Bool.true_and, Bool.and_false, Bool.false_and, if_true, if_false, Bool.false_eq_true, reduceIte, Int.reduceEq, Int.reduceLT, Int.reduceLE, Nat.reduceLT, Nat.reduceAdd, Nat.reduceSub, List.map_cons, List.map_nil, List.cons_append, List.nil_append, List.replicate, List.getElem?_cons_zero, List.getElem?_cons_succ, List.set, List.set_cons_zero, List.set_cons_succ, List.length_cons, List.length_nil, List.zip_cons_cons, List.zip_nil_right, List.foldl_cons, List.foldl_nil, List.all_cons, List.all_nil, decide_true, decide_false, Nat.zero_lt_succ, and_self, and_true, true_and, Int.ofNat_lt, Int.ofNat_le, eq_self, f_first_difference, lend_LL, set_LL, h1]
abbrev bdDf : List S := [.ifS (.cmp .ne (.call "_law_at" [.var 0, .var 3]) (.call "_law_at" [.var 1, .var 3])) [.ret (.var 3)] []]
def difP (b l b' l' : List Int) (m : Nat) : Option Nat := (List.range' 0 m).find? fun i => decide (ltr b l i ≠ ltr b' l' i)
def optI (o : Option Nat) : D := match o with
  | some p => .int (p : Int)
  | none => .non
theorem law_difference [H_law_at P] [H_law_difference P] (n : Nat) (b l b' l' : List Int) (hl : 0 < l.length) (hl2 : l.length ≤ 300) (hb : b.length ≤ 300) (hl' : 0 < l'.length) (hl2' : l'.length ≤ 300) (hb' : b'.length ≤ 300) :
    (C P (n + 2)).call "_law_difference" [La b l, La b' l'] = .ok (optI (difP b l b' l' (cnt b l b' l'))) := by
  rw [c_of H_law_difference.h (n + 1) _ rfl]
  have m1 : binop .mul (.int 2) (.int (l.length : Int)) = .ok (.int (2 * (l.length : Int))) := bin_mul (by rw [small_nat (n := l.length) (by omega), Bool.or_true])
  have m2 : binop .mul (.int (2 * (l.length : Int))) (.int (l'.length : Int)) = .ok (.int (2 * (l.length : Int) * (l'.length : Int))) := bin_mul (by rw [small_nat (n := l'.length) (by omega), Bool.or_true])
  have hcn := cnt_le hb hb' hl2 hl2'
  generalize hM : cnt b l b' l' = M at *
  have hr : isRg (M : Int) = true := isRg_nat (by omega)
  have ht : ((M : Int)).toNat = M := rfl
  have e0 : rangeL 0 M = (List.range' 0 M).map fun d : Nat => D.int (d : Int) := rangeL_range 0 M
  obtain ⟨e1, ⟨o1, rfl⟩, h⟩ := forLoop_find (step := stepF (C P (n + 1)) (.var 3) bdDf) (fun x => match x with | .int d => (if decide (ltr b l d.toNat ≠ ltr b' l' d.toNat) = true then some (.int (d.toNat : Int)) else none) | _ => none) (fun env => ∃ o, env = [some (La b l), some (La b' l'), some (.int (M : Int)), o]) (rangeL 0 M) [some (La b l), some (La b' l'), some (.int (M : Int)), none] ⟨none, rfl⟩ (by
      intro x hx env ⟨o, he⟩
      subst he
      rw [e0] at hx
      obtain ⟨d, hd, rfl⟩ := List.mem_map.mp hx
      refine ⟨[some (La b l), some (La b' l'), some (.int (M : Int)), some (.int d)], ⟨_, rfl⟩, ?_⟩
      have hs : setTg (C P (n + 1)) (.var 3) (.int d) [some (La b l), some (La b' l'), some (.int (M : Int)), o] = .ok [some (La b l), some (La b' l'), some (.int (M : Int)), some (.int d)] := rfl
      have h1 := law_at (P := P) n b l d hl
      have h2 := law_at (P := P) n b' l' d hl'
      rw [stepF_ok _ hs]
      simp only [Int.toNat_natCast]
      by_cases hq : ltr b l d = ltr b' l' d
      · simp only [execs_cons, execs_nil, asg_, augv_, jAug0_ok, ex_, ret_, if_, for_, whl_, jTest_ok, jTest2_ok, brk_, cnt_, pass_, jSt_ok, jAsg_ok, jAug3_ok, jAug2_ok, jEx_ok, jRet_ok, jIf2_t, jIf2_f, jIf_ok, jSeq_nx, jSeq_ret, jSeq_brk, jSeq_cnt, jFor_ok, rng_, jRng_1, jRng_2, set_var, set_tup, bind_one, augI_add, augI_sub, lit_, var_, kVar_flat, kVar_pk, bin_, kBin1_ok, kBin2_ok, kVal_ok, kBl_ok, cmp_, kCmp1_ok, kCmp2_ok, chain_, kCh0_ok, kCh1_ok, kCh2_t, kCh2_f, kCh3_ok, neg_, kNeg_ok, not_, kNot_ok, kNot2_ok, isN_, kIsN_ok, notN_, kNotN_ok, and_, kAnd_ok, kAnd2_t, kAnd2_f, or_, kOr_ok, kOr2_t, kOr2_f, ite_, kIte_ok, kIte2_t, kIte2_f, evs_cons, evs_nil, kCons_ok, kCons2_ok, tup_, kTup_ok, lst_, kLst_ok, bi_, kBi_ok, call_, kCall_ok, kCall2_ok, isi_, kIsi_ok, idxB_, kIdx0_t, kIdx_ok, kIdx2_ok, kTake_ok, take_flat, slc_, kSlc_ok, kSlc2_ok, kSlc3_T, kSlc3_L, evO_none, evO_some, kEnd_ok, comp_, roE, roL, roO, roI, out_ret, out_nx, len_T, len_L, int_I, tup_L, tup_T, tup_nil, bin_add, bin_sub, tru_bl, cmp_lt, cmp_le, cmp_gt, cmp_ge, cmp_eqI, cmp_neI, cmp_eqT, cmp_neT, cmp_eqLa, cmp_neLa, cmp_eqLs, own_T, own_La, own_tup, own_int, own_bl, own_non, own_k, own_s, own_g, Bool.not_false, Bool.not_true, Bool.or_true, Bool.true_or, Bool.or_false, Bool.false_or, Bool.and_true, Bool.true_and, Bool.and_false, Bool.false_and, if_true, if_false, Bool.false_eq_true, reduceIte, Int.reduceEq, Int.reduceLT, Int.reduceLE, Nat.reduceLT, Nat.reduceAdd, Nat.reduceSub, List.map_cons, List.map_nil, List.cons_append, List.nil_append, List.replicate, List.getElem?_cons_zero, List.getElem?_cons_succ, List.set, List.set_cons_zero, List.set_cons_succ, List.length_cons, List.length_nil, List.zip_cons_cons, List.zip_nil_right, List.foldl_cons, List.foldl_nil, List.all_cons, List.all_nil, decide_true, decide_false, Nat.zero_lt_succ, and_self, and_true, true_and, Int.ofNat_lt, Int.ofNat_le, eq_self, lend_Li, set_Li, h1, h2, hq, ne_eq, not_true_eq_false]
      · simp only [execs_cons, execs_nil, asg_, augv_, jAug0_ok, ex_, ret_, if_, for_, whl_, jTest_ok, jTest2_ok, brk_, cnt_, pass_, jSt_ok, jAsg_ok, jAug3_ok, jAug2_ok, jEx_ok, jRet_ok, jIf2_t, jIf2_f, jIf_ok, jSeq_nx, jSeq_ret, jSeq_brk, jSeq_cnt, jFor_ok, rng_, jRng_1, jRng_2, set_var, set_tup, bind_one, augI_add, augI_sub, lit_, var_, kVar_flat, kVar_pk, bin_, kBin1_ok, kBin2_ok, kVal_ok, kBl_ok, cmp_, kCmp1_ok, kCmp2_ok, chain_, kCh0_ok, kCh1_ok, kCh2_t, kCh2_f, kCh3_ok, neg_, kNeg_ok, not_, kNot_ok, kNot2_ok, isN_, kIsN_ok, notN_, kNotN_ok, and_, kAnd_ok, kAnd2_t, kAnd2_f, or_, kOr_ok, kOr2_t, kOr2_f, ite_, kIte_ok, kIte2_t, kIte2_f, evs_cons, evs_nil, kCons_ok, kCons2_ok, tup_, kTup_ok, lst_, kLst_ok, bi_, kBi_ok, call_, kCall_ok, kCall2_ok, isi_, kIsi_ok, idxB_, kIdx0_t, kIdx_ok, kIdx2_ok, kTake_ok, take_flat, slc_, kSlc_ok, kSlc2_ok, kSlc3_T, kSlc3_L, evO_none, evO_some, kEnd_ok, comp_, roE, roL, roO, roI, out_ret, out_nx, len_T, len_L, int_I, tup_L, tup_T, tup_nil, bin_add, bin_sub, tru_bl, cmp_lt, cmp_le, cmp_gt, cmp_ge, cmp_eqI, cmp_neI, cmp_eqT, cmp_neT, cmp_eqLa, cmp_neLa, cmp_eqLs, own_T, own_La, own_tup, own_int, own_bl, own_non, own_k, own_s, own_g, Bool.not_false, Bool.not_true, Bool.or_true, Bool.true_or, Bool.or_false, Bool.false_or, Bool.and_true, Bool.true_and, Bool.and_false, Bool.false_and, if_true, if_false, Bool.false_eq_true, reduceIte, Int.reduceEq, Int.reduceLT, Int.reduceLE, Nat.reduceLT, Nat.reduceAdd, Nat.reduceSub, List.map_cons, List.map_nil, List.cons_append, List.nil_append, List.replicate, List.getElem?_cons_zero, List.getElem?_cons_succ, List.set, List.set_cons_zero, List.set_cons_succ, List.length_cons, List.length_nil, List.zip_cons_cons, List.zip_nil_right, List.foldl_cons, List.foldl_nil, List.all_cons, List.all_nil, decide_true, decide_false, Nat.zero_lt_succ, and_self, and_true, true_and, Int.ofNat_lt, Int.ofNat_le, eq_self, lend_Li, set_Li, h1, h2, hq, ne_eq, not_false_eq_true])
  have hf : (rangeL 0 M).findSome? (fun x => match x with | .int d => (if decide (ltr b l d.toNat ≠ ltr b' l' d.toNat) = true then some (D.int (d.toNat : Int)) else none) | _ => none) = (difP b l b' l' M).map fun d : Nat => D.int (d : Int) := by
    unfold difP
    rw [e0, List.findSome?_map, ← findSome_find (fun i => decide (ltr b l i ≠ ltr b' l' i)) fun d : Nat => D.int (d : Int)]
    rfl
  rw [hf] at h
  have hci : ((b.length : Int) + (b'.length : Int) + 2 * (l.length : Int) * (l'.length : Int) + 1) = (M : Int) := by rw [cnt_int, hM]
  simp only [execs_cons, execs_nil, asg_, augv_, jAug0_ok, ex_, ret_, if_, for_, whl_, jTest_ok, jTest2_ok, brk_, cnt_, pass_, jSt_ok, jAsg_ok, jAug3_ok, jAug2_ok, jEx_ok, jRet_ok, jIf2_t, jIf2_f, jIf_ok, jSeq_nx, jSeq_ret, jSeq_brk, jSeq_cnt, jFor_ok, rng_, jRng_1, jRng_2, set_var, set_tup, bind_one, augI_add, augI_sub, lit_, var_, kVar_flat, kVar_pk, bin_, kBin1_ok, kBin2_ok, kVal_ok, kBl_ok, cmp_, kCmp1_ok, kCmp2_ok, chain_, kCh0_ok, kCh1_ok, kCh2_t, kCh2_f, kCh3_ok, neg_, kNeg_ok, not_, kNot_ok, kNot2_ok, isN_, kIsN_ok, notN_, kNotN_ok, and_, kAnd_ok, kAnd2_t, kAnd2_f, or_, kOr_ok, kOr2_t, kOr2_f, ite_, kIte_ok, kIte2_t, kIte2_f, evs_cons, evs_nil, kCons_ok, kCons2_ok, tup_, kTup_ok, lst_, kLst_ok, bi_, kBi_ok, call_, kCall_ok, kCall2_ok, isi_, kIsi_ok, idxB_, kIdx0_t, kIdx_ok, kIdx2_ok, kTake_ok, take_flat, slc_, kSlc_ok, kSlc2_ok, kSlc3_T, kSlc3_L, evO_none, evO_some, kEnd_ok, comp_, roE, roL, roO, roI, out_ret, out_nx, len_T, len_L, int_I, tup_L, tup_T, tup_nil, bin_add, bin_sub, tru_bl, cmp_lt, cmp_le, cmp_gt, cmp_ge, cmp_eqI, cmp_neI, cmp_eqT, cmp_neT, cmp_eqLa, cmp_neLa, cmp_eqLs, own_T, own_La, own_tup, own_int, own_bl, own_non, own_k, own_s, own_g, Bool.not_false, Bool.not_true, Bool.or_true, Bool.true_or, Bool.or_false, Bool.false_or, Bool.and_true, Bool.true_and, Bool.and_false, Bool.false_and, if_true, if_false, Bool.false_eq_true, reduceIte, Int.reduceEq, Int.reduceLT, Int.reduceLE, Nat.reduceLT, Nat.reduceAdd, Nat.reduceSub, List.map_cons, List.map_nil, List.cons_append, List.nil_append, List.replicate, List.getElem?_cons_zero, List.getElem?_cons_succ, List.set, List.set_cons_zero, List.set_cons_succ, List.length_cons, List.length_nil, List.zip_cons_cons, List.zip_nil_right, List.foldl_cons, List.foldl_nil, List.all_cons, List.all_nil, decide_true, decide_false, Nat.zero_lt_succ, and_self, and_true, true_and, Int.ofNat_lt, Int.ofNat_le, eq_self, f_law_difference, len0, len1, m1, m2, hci, hr, ht, h]
  cases difP b l b' l' M with
  | some d => rfl
  | none => simp only [execs_cons, execs_nil, asg_, augv_, jAug0_ok, ex_, ret_, if_, for_, whl_, jTest_ok, jTest2_ok, brk_, cnt_, pass_, jSt_ok, jAsg_ok, jAug3_ok, jAug2_ok, jEx_ok, jRet_ok, jIf2_t, jIf2_f, jIf_ok, jSeq_nx, jSeq_ret, jSeq_brk, jSeq_cnt, jFor_ok, rng_, jRng_1, jRng_2, set_var, set_tup, bind_one, augI_add, augI_sub, lit_, var_, kVar_flat, kVar_pk, bin_, kBin1_ok, kBin2_ok, kVal_ok, kBl_ok, cmp_, kCmp1_ok, kCmp2_ok, chain_, kCh0_ok, kCh1_ok, kCh2_t, kCh2_f, kCh3_ok, neg_, kNeg_ok, not_, kNot_ok, kNot2_ok, isN_, kIsN_ok, notN_, kNotN_ok, and_, kAnd_ok, kAnd2_t, kAnd2_f, or_, kOr_ok, kOr2_t, kOr2_f, ite_, kIte_ok, kIte2_t, kIte2_f, evs_cons, evs_nil, kCons_ok, kCons2_ok, tup_, kTup_ok, lst_, kLst_ok, bi_, kBi_ok, call_, kCall_ok, kCall2_ok, isi_, kIsi_ok, idxB_, kIdx0_t, kIdx_ok, kIdx2_ok, kTake_ok, take_flat, slc_, kSlc_ok, kSlc2_ok, kSlc3_T, kSlc3_L, evO_none, evO_some, kEnd_ok, comp_, roE, roL, roO, roI, out_ret, out_nx, len_T, len_L, int_I, tup_L, tup_T, tup_nil, bin_add, bin_sub, tru_bl, cmp_lt, cmp_le, cmp_gt, cmp_ge, cmp_eqI, cmp_neI, cmp_eqT, cmp_neT, cmp_eqLa, cmp_neLa, cmp_eqLs, own_T, own_La, own_tup, own_int, own_bl, own_non, own_k, own_s, own_g, Bool.not_false, Bool.not_true, Bool.or_true, Bool.true_or, Bool.or_false, Bool.false_or, Bool.and_true, Bool.true_and, Bool.and_false, Bool.false_and, if_true, if_false, Bool.false_eq_true, reduceIte, Int.reduceEq, Int.reduceLT, Int.reduceLE, Nat.reduceLT, Nat.reduceAdd, Nat.reduceSub, List.map_cons, List.map_nil, List.cons_append, List.nil_append, List.replicate, List.getElem?_cons_zero, List.getElem?_cons_succ, List.set, List.set_cons_zero, List.set_cons_succ, List.length_cons, List.length_nil, List.zip_cons_cons, List.zip_nil_right, List.foldl_cons, List.foldl_nil, List.all_cons, List.all_nil, decide_true, decide_false, Nat.zero_lt_succ, and_self, and_true, true_and, Int.ofNat_lt, Int.ofNat_le, eq_self, Option.map_none]; rfl
theorem item_K {xs : List Int} {i : Nat} {x : Int} (h : xs[i]? = some x) : item (.lst .k (xs.map .int)) (.int (i : Int)) = .ok (.int x) := by
  have hi := (List.getElem?_eq_some_iff.mp h).1
  unfold item
  simp only [List.length_map, ixN_nat hi, List.getElem?_map, h, Option.map_some]
theorem pow9 : binop .pow (.int 10) (.int 9) = .ok (.int 1000000000) := by
  have h : (0 : Int) ≤ 9 ∧ (9 : Int) ≤ 1000 ∧ isSmall 10 = true := ⟨by omega, by omega, by simp [isSmall, big]⟩
  have e : binop .pow (.int 10) (.int 9) = if (0 : Int) ≤ 9 ∧ (9 : Int) ≤ 1000 ∧ isSmall 10 = true then Except.ok (D.int (10 ^ (9 : Int).toNat)) else stuck "pow" := rfl
  rw [e, if_pos h]
  rfl
theorem law_cell [H_law_cell P] (n : Nat) (sc : List Int) (k : Nat) (hk : k < 1000) : ∃ v : Int, (C P (n + 1)).call "_law_cell" [.lst .k (sc.map .int), .int k] = .ok (.int v) := by
  rw [c_of H_law_cell.h n _ rfl]
  have ll : builtin "len" [.lst .k (sc.map .int)] = .ok (.int (sc.length : Int)) := by rw [len_L, List.length_map]
  have m7 : binop .mul (.int 7) (.int (k : Int)) = .ok (.int (7 * (k : Int))) := bin_mul (by simp [isSmall, big])
  have m31 : ∀ x : Int, binop .mul (.int 31) (.int x) = .ok (.int (31 * x)) := fun x => bin_mul (by simp [isSmall, big])
  have ma : ∀ x : Int, binop .mul (.int x) (.int 48271) = .ok (.int (x * 48271)) := fun x => bin_mul (by simp [isSmall, big])
  have mb : ∀ x : Int, binop .mul (.int 69621) (.int x) = .ok (.int (69621 * x)) := fun x => bin_mul (by simp [isSmall, big])
  have mc : ∀ x : Int, binop .mul (.int x) (.int 69621) = .ok (.int (x * 69621)) := fun x => bin_mul (by simp [isSmall, big])
  have md : ∀ x : Int, binop .mul (.int 48271) (.int x) = .ok (.int (48271 * x)) := fun x => bin_mul (by simp [isSmall, big])
  have f1 : ∀ x : Int, binop .fdiv (.int x) (.int 1000) = .ok (.int (x.fdiv 1000)) := fun x => bin_fdiv (by omega) (by omega)
  have o1 : ∀ x : Int, binop .mod (.int x) (.int 2147483647) = .ok (.int (x.fmod 2147483647)) := fun x => bin_mod (by omega)
  have o2 : ∀ x : Int, binop .mod (.int x) (.int 2147483629) = .ok (.int (x.fmod 2147483629)) := fun x => bin_mod (by omega)
  by_cases h0 : sc = []
  · subst h0
    have hn : ¬ ((k : Int) < ((0 : Nat) : Int)) := by omega
    have hz : ¬ ((0 : Int) < ((0 : Nat) : Int)) := by omega
    have ll' : builtin "len" [.lst .k []] = .ok (.int ((0 : Nat) : Int)) := rfl
    simp only [execs_cons, execs_nil, asg_, augv_, jAug0_ok, ex_, ret_, if_, for_, whl_, jTest_ok, jTest2_ok, brk_, cnt_, pass_, jSt_ok, jAsg_ok, jAug3_ok, jAug2_ok, jEx_ok, jRet_ok, jIf2_t, jIf2_f, jIf_ok, jSeq_nx, jSeq_ret, jSeq_brk, jSeq_cnt, jFor_ok, rng_, jRng_1, jRng_2, set_var, set_tup, bind_one, augI_add, augI_sub, lit_, var_, kVar_flat, kVar_pk, bin_, kBin1_ok, kBin2_ok, kVal_ok, kBl_ok, cmp_, kCmp1_ok, kCmp2_ok, chain_, kCh0_ok, kCh1_ok, kCh2_t, kCh2_f, kCh3_ok, neg_, kNeg_ok, not_, kNot_ok, kNot2_ok, isN_, kIsN_ok, notN_, kNotN_ok, and_, kAnd_ok, kAnd2_t, kAnd2_f, or_, kOr_ok, kOr2_t, kOr2_f, ite_, kIte_ok, kIte2_t, kIte2_f, evs_cons, evs_nil, kCons_ok, kCons2_ok, tup_, kTup_ok, lst_, kLst_ok, bi_, kBi_ok, call_, kCall_ok, kCall2_ok, isi_, kIsi_ok, idxB_, kIdx0_t, kIdx_ok, kIdx2_ok, kTake_ok, take_flat, slc_, kSlc_ok, kSlc2_ok, kSlc3_T, kSlc3_L, evO_none, evO_some, kEnd_ok, comp_, roE, roL, roO, roI, out_ret, out_nx, len_T, len_L, int_I, tup_L, tup_T, tup_nil, bin_add, bin_sub, tru_bl, cmp_lt, cmp_le, cmp_gt, cmp_ge, cmp_eqI, cmp_neI, cmp_eqT, cmp_neT, cmp_eqLa, cmp_neLa, cmp_eqLs, own_T, own_La, own_tup, own_int, own_bl, own_non, own_k, own_s, own_g, Bool.not_false, Bool.not_true, Bool.or_true, Bool.true_or, Bool.or_false, Bool.false_or, Bool.and_true, Bool.true_and, Bool.and_false, Bool.false_and, if_true, if_false, Bool.false_eq_true, reduceIte, Int.reduceEq, Int.reduceLT, Int.reduceLE, Nat.reduceLT, Nat.reduceAdd, Nat.reduceSub, List.map_cons, List.map_nil, List.cons_append, List.nil_append, List.replicate, List.getElem?_cons_zero, List.getElem?_cons_succ, List.set, List.set_cons_zero, List.set_cons_succ, List.length_cons, List.length_nil, List.zip_cons_cons, List.zip_nil_right, List.foldl_cons, List.foldl_nil, List.all_cons, List.all_nil, decide_true, decide_false, Nat.zero_lt_succ, and_self, and_true, true_and, Int.ofNat_lt, Int.ofNat_le, eq_self, f_law_cell, ll', hn, hz, m7, ma, mb, mc, md, f1, o1, o2]
    exact ⟨_, rfl⟩
  · have hl : 0 < sc.length := List.length_pos_iff.mpr h0
    have hpos : (0 : Int) < (sc.length : Int) := by omega
    have hz : (sc.length : Int) ≠ 0 := by omega
    have hmod : k % sc.length < sc.length := Nat.mod_lt _ hl
    have i2 := item_K (getD_some hmod)
    have hm2 : binop .mod (.int (k : Int)) (.int (sc.length : Int)) = .ok (.int ((k % sc.length : Nat) : Int)) := by rw [bin_mod hz, nat_mod]
    by_cases hi : k < sc.length
    · have i1 := item_K (getD_some hi)
      by_cases hb : (1000000000 : Int) ≤ sc.getD k 0
      · simp only [execs_cons, execs_nil, asg_, augv_, jAug0_ok, ex_, ret_, if_, for_, whl_, jTest_ok, jTest2_ok, brk_, cnt_, pass_, jSt_ok, jAsg_ok, jAug3_ok, jAug2_ok, jEx_ok, jRet_ok, jIf2_t, jIf2_f, jIf_ok, jSeq_nx, jSeq_ret, jSeq_brk, jSeq_cnt, jFor_ok, rng_, jRng_1, jRng_2, set_var, set_tup, bind_one, augI_add, augI_sub, lit_, var_, kVar_flat, kVar_pk, bin_, kBin1_ok, kBin2_ok, kVal_ok, kBl_ok, cmp_, kCmp1_ok, kCmp2_ok, chain_, kCh0_ok, kCh1_ok, kCh2_t, kCh2_f, kCh3_ok, neg_, kNeg_ok, not_, kNot_ok, kNot2_ok, isN_, kIsN_ok, notN_, kNotN_ok, and_, kAnd_ok, kAnd2_t, kAnd2_f, or_, kOr_ok, kOr2_t, kOr2_f, ite_, kIte_ok, kIte2_t, kIte2_f, evs_cons, evs_nil, kCons_ok, kCons2_ok, tup_, kTup_ok, lst_, kLst_ok, bi_, kBi_ok, call_, kCall_ok, kCall2_ok, isi_, kIsi_ok, idxB_, kIdx0_t, kIdx_ok, kIdx2_ok, kTake_ok, take_flat, slc_, kSlc_ok, kSlc2_ok, kSlc3_T, kSlc3_L, evO_none, evO_some, kEnd_ok, comp_, roE, roL, roO, roI, out_ret, out_nx, len_T, len_L, int_I, tup_L, tup_T, tup_nil, bin_add, bin_sub, tru_bl, cmp_lt, cmp_le, cmp_gt, cmp_ge, cmp_eqI, cmp_neI, cmp_eqT, cmp_neT, cmp_eqLa, cmp_neLa, cmp_eqLs, own_T, own_La, own_tup, own_int, own_bl, own_non, own_k, own_s, own_g, Bool.not_false, Bool.not_true, Bool.or_true, Bool.true_or, Bool.or_false, Bool.false_or, Bool.and_true, Bool.true_and, Bool.and_false, Bool.false_and, if_true, if_false, Bool.false_eq_true, reduceIte, Int.reduceEq, Int.reduceLT, Int.reduceLE, Nat.reduceLT, Nat.reduceAdd, Nat.reduceSub, List.map_cons, List.map_nil, List.cons_append, List.nil_append, List.replicate, List.getElem?_cons_zero, List.getElem?_cons_succ, List.set, List.set_cons_zero, List.set_cons_succ, List.length_cons, List.length_nil, List.zip_cons_cons, List.zip_nil_right, List.foldl_cons, List.foldl_nil, List.all_cons, List.all_nil, decide_true, decide_false, Nat.zero_lt_succ, and_self, and_true, true_and, Int.ofNat_lt, Int.ofNat_le, eq_self, f_law_cell, ll, hi, i1, pow9, hb]
        exact ⟨_, rfl⟩
      · simp only [execs_cons, execs_nil, asg_, augv_, jAug0_ok, ex_, ret_, if_, for_, whl_, jTest_ok, jTest2_ok, brk_, cnt_, pass_, jSt_ok, jAsg_ok, jAug3_ok, jAug2_ok, jEx_ok, jRet_ok, jIf2_t, jIf2_f, jIf_ok, jSeq_nx, jSeq_ret, jSeq_brk, jSeq_cnt, jFor_ok, rng_, jRng_1, jRng_2, set_var, set_tup, bind_one, augI_add, augI_sub, lit_, var_, kVar_flat, kVar_pk, bin_, kBin1_ok, kBin2_ok, kVal_ok, kBl_ok, cmp_, kCmp1_ok, kCmp2_ok, chain_, kCh0_ok, kCh1_ok, kCh2_t, kCh2_f, kCh3_ok, neg_, kNeg_ok, not_, kNot_ok, kNot2_ok, isN_, kIsN_ok, notN_, kNotN_ok, and_, kAnd_ok, kAnd2_t, kAnd2_f, or_, kOr_ok, kOr2_t, kOr2_f, ite_, kIte_ok, kIte2_t, kIte2_f, evs_cons, evs_nil, kCons_ok, kCons2_ok, tup_, kTup_ok, lst_, kLst_ok, bi_, kBi_ok, call_, kCall_ok, kCall2_ok, isi_, kIsi_ok, idxB_, kIdx0_t, kIdx_ok, kIdx2_ok, kTake_ok, take_flat, slc_, kSlc_ok, kSlc2_ok, kSlc3_T, kSlc3_L, evO_none, evO_some, kEnd_ok, comp_, roE, roL, roO, roI, out_ret, out_nx, len_T, len_L, int_I, tup_L, tup_T, tup_nil, bin_add, bin_sub, tru_bl, cmp_lt, cmp_le, cmp_gt, cmp_ge, cmp_eqI, cmp_neI, cmp_eqT, cmp_neT, cmp_eqLa, cmp_neLa, cmp_eqLs, own_T, own_La, own_tup, own_int, own_bl, own_non, own_k, own_s, own_g, Bool.not_false, Bool.not_true, Bool.or_true, Bool.true_or, Bool.or_false, Bool.false_or, Bool.and_true, Bool.true_and, Bool.and_false, Bool.false_and, if_true, if_false, Bool.false_eq_true, reduceIte, Int.reduceEq, Int.reduceLT, Int.reduceLE, Nat.reduceLT, Nat.reduceAdd, Nat.reduceSub, List.map_cons, List.map_nil, List.cons_append, List.nil_append, List.replicate, List.getElem?_cons_zero, List.getElem?_cons_succ, List.set, List.set_cons_zero, List.set_cons_succ, List.length_cons, List.length_nil, List.zip_cons_cons, List.zip_nil_right, List.foldl_cons, List.foldl_nil, List.all_cons, List.all_nil, decide_true, decide_false, Nat.zero_lt_succ, and_self, and_true, true_and, Int.ofNat_lt, Int.ofNat_le, eq_self, f_law_cell, ll, hi, i1, pow9, hb, hpos, hm2, i2, m7, m31, ma, mb, mc, md, f1, o1, o2]
        exact ⟨_, rfl⟩
    · simp only [execs_cons, execs_nil, asg_, augv_, jAug0_ok, ex_, ret_, if_, for_, whl_, jTest_ok, jTest2_ok, brk_, cnt_, pass_, jSt_ok, jAsg_ok, jAug3_ok, jAug2_ok, jEx_ok, jRet_ok, jIf2_t, jIf2_f, jIf_ok, jSeq_nx, jSeq_ret, jSeq_brk, jSeq_cnt, jFor_ok, rng_, jRng_1, jRng_2, set_var, set_tup, bind_one, augI_add, augI_sub, lit_, var_, kVar_flat, kVar_pk, bin_, kBin1_ok, kBin2_ok, kVal_ok, kBl_ok, cmp_, kCmp1_ok, kCmp2_ok, chain_, kCh0_ok, kCh1_ok, kCh2_t, kCh2_f, kCh3_ok, neg_, kNeg_ok, not_, kNot_ok, kNot2_ok, isN_, kIsN_ok, notN_, kNotN_ok, and_, kAnd_ok, kAnd2_t, kAnd2_f, or_, kOr_ok, kOr2_t, kOr2_f, ite_, kIte_ok, kIte2_t, kIte2_f, evs_cons, evs_nil, kCons_ok, kCons2_ok, tup_, kTup_ok, lst_, kLst_ok, bi_, kBi_ok, call_, kCall_ok, kCall2_ok, isi_, kIsi_ok, idxB_, kIdx0_t, kIdx_ok, kIdx2_ok, kTake_ok, take_flat, slc_, kSlc_ok, kSlc2_ok, kSlc3_T, kSlc3_L, evO_none, evO_some, kEnd_ok, comp_, roE, roL, roO, roI, out_ret, out_nx, len_T, len_L, int_I, tup_L, tup_T, tup_nil, bin_add, bin_sub, tru_bl, cmp_lt, cmp_le, cmp_gt, cmp_ge, cmp_eqI, cmp_neI, cmp_eqT, cmp_neT, cmp_eqLa, cmp_neLa, cmp_eqLs, own_T, own_La, own_tup, own_int, own_bl, own_non, own_k, own_s, own_g, Bool.not_false, Bool.not_true, Bool.or_true, Bool.true_or, Bool.or_false, Bool.false_or, Bool.and_true, Bool.true_and, Bool.and_false, Bool.false_and, if_true, if_false, Bool.false_eq_true, reduceIte, Int.reduceEq, Int.reduceLT, Int.reduceLE, Nat.reduceLT, Nat.reduceAdd, Nat.reduceSub, List.map_cons, List.map_nil, List.cons_append, List.nil_append, List.replicate, List.getElem?_cons_zero, List.getElem?_cons_succ, List.set, List.set_cons_zero, List.set_cons_succ, List.length_cons, List.length_nil, List.zip_cons_cons, List.zip_nil_right, List.foldl_cons, List.foldl_nil, List.all_cons, List.all_nil, decide_true, decide_false, Nat.zero_lt_succ, and_self, and_true, true_and, Int.ofNat_lt, Int.ofNat_le, eq_self, f_law_cell, ll, hi, hpos, hm2, i2, m7, m31, ma, mb, mc, md, f1, o1, o2]
      exact ⟨_, rfl⟩
theorem law_is_lasso [H_law_is_lasso P] (n : Nat) (b l : List Int) (k : Int) (hl : 0 < l.length) (hlen : b.length + l.length ≤ 1000) (hb : ∀ x ∈ b ++ l, 0 ≤ x ∧ x < k) : (C P (n + 1)).call "_law_is_lasso" [La b l, .int k] = .ok (.bl true) := by
  rw [c_of H_law_is_lasso.h n _ rfl]
  have hne : ¬ l = [] := by intro z; rw [z] at hl; exact absurd hl (by simp)
  have hcat := bin_cat (a := b) (b := l) (by unfold line; omega)
  have hv : evI (C P n) false (.val (.bin .add (.idx (.var 0) (.lit (.int 0))) (.idx (.var 0) (.lit (.int 1))))) [some (La b l), some (.int k), none] = .ok ((b ++ l).map .int, [], [some (La b l), some (.int k), none]) := by
    refine val_tup _ ?_
    simp only [execs_cons, execs_nil, asg_, augv_, jAug0_ok, ex_, ret_, if_, for_, whl_, jTest_ok, jTest2_ok, brk_, cnt_, pass_, jSt_ok, jAsg_ok, jAug3_ok, jAug2_ok, jEx_ok, jRet_ok, jIf2_t, jIf2_f, jIf_ok, jSeq_nx, jSeq_ret, jSeq_brk, jSeq_cnt, jFor_ok, rng_, jRng_1, jRng_2, set_var, set_tup, bind_one, augI_add, augI_sub, lit_, var_, kVar_flat, kVar_pk, bin_, kBin1_ok, kBin2_ok, kVal_ok, kBl_ok, cmp_, kCmp1_ok, kCmp2_ok, chain_, kCh0_ok, kCh1_ok, kCh2_t, kCh2_f, kCh3_ok, neg_, kNeg_ok, not_, kNot_ok, kNot2_ok, isN_, kIsN_ok, notN_, kNotN_ok, and_, kAnd_ok, kAnd2_t, kAnd2_f, or_, kOr_ok, kOr2_t, kOr2_f, ite_, kIte_ok, kIte2_t, kIte2_f, evs_cons, evs_nil, kCons_ok, kCons2_ok, tup_, kTup_ok, lst_, kLst_ok, bi_, kBi_ok, call_, kCall_ok, kCall2_ok, isi_, kIsi_ok, idxB_, kIdx0_t, kIdx_ok, kIdx2_ok, kTake_ok, take_flat, slc_, kSlc_ok, kSlc2_ok, kSlc3_T, kSlc3_L, evO_none, evO_some, kEnd_ok, comp_, roE, roL, roO, roI, out_ret, out_nx, len_T, len_L, int_I, tup_L, tup_T, tup_nil, bin_add, bin_sub, tru_bl, cmp_lt, cmp_le, cmp_gt, cmp_ge, cmp_eqI, cmp_neI, cmp_eqT, cmp_neT, cmp_eqLa, cmp_neLa, cmp_eqLs, own_T, own_La, own_tup, own_int, own_bl, own_non, own_k, own_s, own_g, Bool.not_false, Bool.not_true, Bool.or_true, Bool.true_or, Bool.or_false, Bool.false_or, Bool.and_true, Bool.true_and, Bool.and_false, Bool.false_and, if_true, if_false, Bool.false_eq_true, reduceIte, Int.reduceEq, Int.reduceLT, Int.reduceLE, Nat.reduceLT, Nat.reduceAdd, Nat.reduceSub, List.map_cons, List.map_nil, List.cons_append, List.nil_append, List.replicate, List.getElem?_cons_zero, List.getElem?_cons_succ, List.set, List.set_cons_zero, List.set_cons_succ, List.length_cons, List.length_nil, List.zip_cons_cons, List.zip_nil_right, List.foldl_cons, List.foldl_nil, List.all_cons, List.all_nil, decide_true, decide_false, Nat.zero_lt_succ, and_self, and_true, true_and, Int.ofNat_lt, Int.ofNat_le, eq_self, len0, len1, hcat]
  have hk := kComp_map (c := C P n) (t := [2]) (one := true) (ro := false) (keep := false) (cond := some (.orE (.isi (.var 2) ["bool"]) (.notE (.chain .le .lt (.lit (.int 0)) (.var 2) (.var 1))))) (elt := .var 2) (xs := (b ++ l).map .int) (env1 := [some (La b l), some (.int k), none]) (g := fun _ => none)
    (by rw [List.length_map, List.length_append]; unfold line; omega) (by
      intro x hx
      obtain ⟨i, hi, rfl⟩ := List.mem_map.mp hx
      obtain ⟨p1, p2⟩ := hb i hi
      have hq : ev (C P n) false true (.orE (.isi (.var 2) ["bool"]) (.notE (.chain .le .lt (.lit (.int 0)) (.var 2) (.var 1)))) [some (La b l), some (.int k), some (.int i)] = .ok (.bl false, [some (La b l), some (.int k), some (.int i)]) := by
        have hi1 : isOf (C P n) (.int i) "bool" = .ok false := rfl
        simp only [execs_cons, execs_nil, asg_, augv_, jAug0_ok, ex_, ret_, if_, for_, whl_, jTest_ok, jTest2_ok, brk_, cnt_, pass_, jSt_ok, jAsg_ok, jAug3_ok, jAug2_ok, jEx_ok, jRet_ok, jIf2_t, jIf2_f, jIf_ok, jSeq_nx, jSeq_ret, jSeq_brk, jSeq_cnt, jFor_ok, rng_, jRng_1, jRng_2, set_var, set_tup, bind_one, augI_add, augI_sub, lit_, var_, kVar_flat, kVar_pk, bin_, kBin1_ok, kBin2_ok, kVal_ok, kBl_ok, cmp_, kCmp1_ok, kCmp2_ok, chain_, kCh0_ok, kCh1_ok, kCh2_t, kCh2_f, kCh3_ok, neg_, kNeg_ok, not_, kNot_ok, kNot2_ok, isN_, kIsN_ok, notN_, kNotN_ok, and_, kAnd_ok, kAnd2_t, kAnd2_f, or_, kOr_ok, kOr2_t, kOr2_f, ite_, kIte_ok, kIte2_t, kIte2_f, evs_cons, evs_nil, kCons_ok, kCons2_ok, tup_, kTup_ok, lst_, kLst_ok, bi_, kBi_ok, call_, kCall_ok, kCall2_ok, isi_, kIsi_ok, idxB_, kIdx0_t, kIdx_ok, kIdx2_ok, kTake_ok, take_flat, slc_, kSlc_ok, kSlc2_ok, kSlc3_T, kSlc3_L, evO_none, evO_some, kEnd_ok, comp_, roE, roL, roO, roI, out_ret, out_nx, len_T, len_L, int_I, tup_L, tup_T, tup_nil, bin_add, bin_sub, tru_bl, cmp_lt, cmp_le, cmp_gt, cmp_ge, cmp_eqI, cmp_neI, cmp_eqT, cmp_neT, cmp_eqLa, cmp_neLa, cmp_eqLs, own_T, own_La, own_tup, own_int, own_bl, own_non, own_k, own_s, own_g, Bool.not_false, Bool.not_true, Bool.or_true, Bool.true_or, Bool.or_false, Bool.false_or, Bool.and_true, Bool.true_and, Bool.and_false, Bool.false_and, if_true, if_false, Bool.false_eq_true, reduceIte, Int.reduceEq, Int.reduceLT, Int.reduceLE, Nat.reduceLT, Nat.reduceAdd, Nat.reduceSub, List.map_cons, List.map_nil, List.cons_append, List.nil_append, List.replicate, List.getElem?_cons_zero, List.getElem?_cons_succ, List.set, List.set_cons_zero, List.set_cons_succ, List.length_cons, List.length_nil, List.zip_cons_cons, List.zip_nil_right, List.foldl_cons, List.foldl_nil, List.all_cons, List.all_nil, decide_true, decide_false, Nat.zero_lt_succ, and_self, and_true, true_and, Int.ofNat_lt, Int.ofNat_le, eq_self, hi1, p1, p2]
      exact cStep_out (C P n) (t := [2]) (e1 := [some (La b l), some (.int k), some (.int i)]) (e2 := [some (La b l), some (.int k), some (.int i)]) rfl hq rfl)
  have hk' : kComp (C P n) [2] true false (some (.orE (.isi (.var 2) ["bool"]) (.notE (.chain .le .lt (.lit (.int 0)) (.var 2) (.var 1))))) (.var 2) false (.ok ((b ++ l).map D.int, [], [some (La b l), some (.int k), none])) = .ok (.lst .o (([] : List Int).map .int), [some (La b l), some (.int k), none]) := by
    rw [hk]
    have : ((b ++ l).map D.int).filterMap (fun _ => (none : Option D)) = [] := by simp
    rw [this]; rfl
  have t1 : isOf (C P n) (La b l) "tuple" = .ok true := rfl
  have t2 : ∀ xs : List Int, isOf (C P n) (T xs) "tuple" = .ok true := fun _ => rfl
  have t3 : builtin "len" [La b l] = .ok (.int 2) := rfl
  have t4 : (D.lst .o []) = .lst .o (([] : List Int).map .int) := rfl
  simp only [execs_cons, execs_nil, asg_, augv_, jAug0_ok, ex_, ret_, if_, for_, whl_, jTest_ok, jTest2_ok, brk_, cnt_, pass_, jSt_ok, jAsg_ok, jAug3_ok, jAug2_ok, jEx_ok, jRet_ok, jIf2_t, jIf2_f, jIf_ok, jSeq_nx, jSeq_ret, jSeq_brk, jSeq_cnt, jFor_ok, rng_, jRng_1, jRng_2, set_var, set_tup, bind_one, augI_add, augI_sub, lit_, var_, kVar_flat, kVar_pk, bin_, kBin1_ok, kBin2_ok, kVal_ok, kBl_ok, cmp_, kCmp1_ok, kCmp2_ok, chain_, kCh0_ok, kCh1_ok, kCh2_t, kCh2_f, kCh3_ok, neg_, kNeg_ok, not_, kNot_ok, kNot2_ok, isN_, kIsN_ok, notN_, kNotN_ok, and_, kAnd_ok, kAnd2_t, kAnd2_f, or_, kOr_ok, kOr2_t, kOr2_f, ite_, kIte_ok, kIte2_t, kIte2_f, evs_cons, evs_nil, kCons_ok, kCons2_ok, tup_, kTup_ok, lst_, kLst_ok, bi_, kBi_ok, call_, kCall_ok, kCall2_ok, isi_, kIsi_ok, idxB_, kIdx0_t, kIdx_ok, kIdx2_ok, kTake_ok, take_flat, slc_, kSlc_ok, kSlc2_ok, kSlc3_T, kSlc3_L, evO_none, evO_some, kEnd_ok, comp_, roE, roL, roO, roI, out_ret, out_nx, len_T, len_L, int_I, tup_L, tup_T, tup_nil, bin_add, bin_sub, tru_bl, cmp_lt, cmp_le, cmp_gt, cmp_ge, cmp_eqI, cmp_neI, cmp_eqT, cmp_neT, cmp_eqLa, cmp_neLa, cmp_eqLs, own_T, own_La, own_tup, own_int, own_bl, own_non, own_k, own_s, own_g, Bool.not_false, Bool.not_true, Bool.or_true, Bool.true_or, Bool.or_false, Bool.false_or, Bool.and_true, Bool.true_and, Bool.and_false, Bool.false_and, if_true, if_false, Bool.false_eq_true, reduceIte, Int.reduceEq, Int.reduceLT, Int.reduceLE, Nat.reduceLT, Nat.reduceAdd, Nat.reduceSub, List.map_cons, List.map_nil, List.cons_append, List.nil_append, List.replicate, List.getElem?_cons_zero, List.getElem?_cons_succ, List.set, List.set_cons_zero, List.set_cons_succ, List.length_cons, List.length_nil, List.zip_cons_cons, List.zip_nil_right, List.foldl_cons, List.foldl_nil, List.all_cons, List.all_nil, decide_true, decide_false, Nat.zero_lt_succ, and_self, and_true, true_and, Int.ofNat_lt, Int.ofNat_le, eq_self, f_law_is_lasso, t1, t2, t3, len0, len1, hne, hv, hk', t4, ne_eq, not_true_eq_false, not_false_eq_true]
theorem wrd_len (k : Int) : ∀ (m t : Nat) (x : Int), (wrd k m t x).length = m
  | 0, _, _ => rfl
  | m + 1, t, x => by rw [wrd, List.length_cons, wrd_len]
theorem wrd_in {k : Int} (hk : 0 < k) : ∀ (m t : Nat) (x : Int), ∀ y ∈ wrd k m t x, 0 ≤ y ∧ y < k
  | 0, _, _, y, h => by cases h
  | m + 1, t, x, y, h => by
    rw [wrd] at h
    rcases List.mem_cons.mp h with e | e
    · subst e; exact fmod_nn x hk
    · exact wrd_in hk m _ _ y e
theorem bin_rep1 {a : List Int} {k : Nat} (h1 : 0 < a.length) (h2 : a.length ≤ 1000) (h3 : 1 ≤ k) (h4 : k ≤ 1000) : binop .mul (T a) (.int (k : Int)) = .ok (T (List.replicate k a).flatten) := by
  rcases Nat.lt_or_ge 1 k with h | h
  · have := bin_rep (k := (k : Int)) h1 h2 (by omega) (by omega)
    rw [Int.toNat_natCast] at this
    exact this
  · have : k = 1 := by omega
    subst this
    have hs : isIx 1 = true := by simp [isIx]
    have e : binop .mul (T a) (.int ((1 : Nat) : Int)) = if (((a.map D.int).isEmpty || (1 : Int) == 1) && isIx 1) = true then Except.ok (D.tup (List.replicate 1 (a.map D.int)).flatten) else (if (!(a.map D.int).isEmpty) = true ∧ (2 : Int) ≤ 1 ∧ (1 : Int) ≤ 1000 ∧ (a.map D.int).length ≤ 1000 then Except.ok (D.tup (List.replicate 1 (a.map D.int)).flatten) else stuck "mul: tuple") := rfl
    rw [e, hs, if_pos (by simp)]
    simp
theorem set_123 (ro : Bool) (es : List E) (a b c : Int) (r : D) (env : Env) : settle ro es [.int a, .int b, .int c] r env = .ok (r, env) := settle_flat rfl
theorem lend_123 (a b c : Int) : lendL [.int a, .int b, .int c] = [.int a, .int b, .int c] := rfl
theorem one_T (x : Int) : D.tup (shareL [.int x]) = T [x] := rfl
theorem int_mod (x : Int) {m : Nat} (h : 0 < m) : ∃ r : Nat, r < m ∧ x.fmod (m : Int) = (r : Int) := by
  obtain ⟨p1, p2⟩ := fmod_nn x (m := (m : Int)) (by omega)
  exact ⟨(x.fmod (m : Int)).toNat, by omega, by omega⟩
theorem law_second [H_law_word P] [H_law_lasso P] [H_law_second P] (n : Nat) (x k : Int) (b l : List Int) (hk : 0 < k) (hk2 : k < 1000) (hl : 0 < l.length) (hl2 : l.length ≤ 30) (hb : b.length ≤ 60) :
    ∃ b' l', (C P (n + 3)).call "_law_second" [.int x, La b l, .int k] = .ok (La b' l') ∧ 0 < l'.length ∧ l'.length ≤ 300 ∧ b'.length ≤ 300 := by
  rw [c_of H_law_second.h (n + 2) _ rfl]
  have q4 : (4 : Int) ≠ 0 := by omega
  have q4' : (4 : Int).natAbs < 1073741824 := by omega
  have q3 : (3 : Int) ≠ 0 := by omega
  have q64 : (64 : Int) ≠ 0 := by omega
  have q64' : (64 : Int).natAbs < 1073741824 := by omega
  have qk : k ≠ 0 := by omega
  have ql : (l.length : Int) ≠ 0 := by omega
  have w := law_lasso (P := P) n (x.fdiv 4) k 6 qk (by omega) (by omega) (by omega)
  have w6 : ((6 : Nat) : Int) = 6 := rfl
  rw [w6] at w
  obtain ⟨r, hr1, hr2⟩ := int_mod (x.fdiv 4) hl
  by_cases h0 : x.fmod 4 = 0
  · refine ⟨lsB (x.fdiv 4) k 6, lsL (x.fdiv 4) k 6, ?_, ?_, ?_, ?_⟩
    · simp only [execs_cons, execs_nil, asg_, augv_, jAug0_ok, ex_, ret_, if_, for_, whl_, jTest_ok, jTest2_ok, brk_, cnt_, pass_, jSt_ok, jAsg_ok, jAug3_ok, jAug2_ok, jEx_ok, jRet_ok, jIf2_t, jIf2_f, jIf_ok, jSeq_nx, jSeq_ret, jSeq_brk, jSeq_cnt, jFor_ok, rng_, jRng_1, jRng_2, set_var, set_tup, bind_one, augI_add, augI_sub, lit_, var_, kVar_flat, kVar_pk, bin_, kBin1_ok, kBin2_ok, kVal_ok, kBl_ok, cmp_, kCmp1_ok, kCmp2_ok, chain_, kCh0_ok, kCh1_ok, kCh2_t, kCh2_f, kCh3_ok, neg_, kNeg_ok, not_, kNot_ok, kNot2_ok, isN_, kIsN_ok, notN_, kNotN_ok, and_, kAnd_ok, kAnd2_t, kAnd2_f, or_, kOr_ok, kOr2_t, kOr2_f, ite_, kIte_ok, kIte2_t, kIte2_f, evs_cons, evs_nil, kCons_ok, kCons2_ok, tup_, kTup_ok, lst_, kLst_ok, bi_, kBi_ok, call_, kCall_ok, kCall2_ok, isi_, kIsi_ok, idxB_, kIdx0_t, kIdx_ok, kIdx2_ok, kTake_ok, take_flat, slc_, kSlc_ok, kSlc2_ok, kSlc3_T, kSlc3_L, evO_none, evO_some, kEnd_ok, comp_, roE, roL, roO, roI, out_ret, out_nx, len_T, len_L, int_I, tup_L, tup_T, tup_nil, bin_add, bin_sub, tru_bl, cmp_lt, cmp_le, cmp_gt, cmp_ge, cmp_eqI, cmp_neI, cmp_eqT, cmp_neT, cmp_eqLa, cmp_neLa, cmp_eqLs, own_T, own_La, own_tup, own_int, own_bl, own_non, own_k, own_s, own_g, Bool.not_false, Bool.not_true, Bool.or_true, Bool.true_or, Bool.or_false, Bool.false_or, Bool.and_true, Bool.true_and, Bool.and_false, Bool.false_and, if_true, if_false, Bool.false_eq_true, reduceIte, Int.reduceEq, Int.reduceLT, Int.reduceLE, Nat.reduceLT, Nat.reduceAdd, Nat.reduceSub, List.map_cons, List.map_nil, List.cons_append, List.nil_append, List.replicate, List.getElem?_cons_zero, List.getElem?_cons_succ, List.set, List.set_cons_zero, List.set_cons_succ, List.length_cons, List.length_nil, List.zip_cons_cons, List.zip_nil_right, List.foldl_cons, List.foldl_nil, List.all_cons, List.all_nil, decide_true, decide_false, Nat.zero_lt_succ, and_self, and_true, true_and, Int.ofNat_lt, Int.ofNat_le, eq_self, f_law_second, bin_mod q4, bin_fdiv q4 q4', h0, lend_123, set_123, w]
    · unfold lsL
      rw [wrd_len]
      obtain ⟨p3, p4⟩ := fmod_nn ((x.fdiv 4).fdiv (((6 : Nat) : Int) + 1)) (m := ((6 : Nat) : Int)) (by omega)
      omega
    · unfold lsL
      rw [wrd_len]
      obtain ⟨p3, p4⟩ := fmod_nn ((x.fdiv 4).fdiv (((6 : Nat) : Int) + 1)) (m := ((6 : Nat) : Int)) (by omega)
      omega
    · unfold lsB
      rw [wrd_len]
      obtain ⟨p3, p4⟩ := fmod_nn (x.fdiv 4) (m := ((6 : Nat) : Int) + 1) (by omega)
      omega
  · have hrl : (l.drop r).length + (l.take r).length = l.length := by rw [List.length_drop, List.length_take]; omega
    have c1 := bin_cat (a := b) (b := l) (by unfold line; omega)
    have c2 := bin_cat (a := b ++ l) (b := l.take r) (by rw [List.length_append, List.length_take]; unfold line; omega)
    have c3 := bin_cat (a := l.drop r) (b := l.take r) (by rw [hrl]; unfold line; omega)
    generalize hB : b ++ l ++ l.take r = B at *
    generalize hL : l.drop r ++ l.take r = L at *
    have hLn : L.length = l.length := by rw [← hL, List.length_append, hrl]
    have hBn : B.length ≤ 120 ∧ 0 < B.length := by
      rw [← hB, List.length_append, List.length_append, List.length_take]; omega
    by_cases h1 : x.fmod 4 = 1
    · obtain ⟨p3, p4⟩ := fmod_nn ((x.fdiv 4).fdiv 64) (m := 3) (by omega)
      obtain ⟨m, hm⟩ : ∃ m : Nat, 1 + ((x.fdiv 4).fdiv 64).fmod 3 = (m : Int) := ⟨(1 + ((x.fdiv 4).fdiv 64).fmod 3).toNat, by omega⟩
      have hm1 : 1 ≤ m ∧ m ≤ 3 := by omega
      have c4 := bin_rep1 (a := L) (k := m) (by omega) (by omega) hm1.1 (by omega)
      refine ⟨B, (List.replicate m L).flatten, ?_, ?_, ?_, by omega⟩
      · simp only [execs_cons, execs_nil, asg_, augv_, jAug0_ok, ex_, ret_, if_, for_, whl_, jTest_ok, jTest2_ok, brk_, cnt_, pass_, jSt_ok, jAsg_ok, jAug3_ok, jAug2_ok, jEx_ok, jRet_ok, jIf2_t, jIf2_f, jIf_ok, jSeq_nx, jSeq_ret, jSeq_brk, jSeq_cnt, jFor_ok, rng_, jRng_1, jRng_2, set_var, set_tup, bind_one, augI_add, augI_sub, lit_, var_, kVar_flat, kVar_pk, bin_, kBin1_ok, kBin2_ok, kVal_ok, kBl_ok, cmp_, kCmp1_ok, kCmp2_ok, chain_, kCh0_ok, kCh1_ok, kCh2_t, kCh2_f, kCh3_ok, neg_, kNeg_ok, not_, kNot_ok, kNot2_ok, isN_, kIsN_ok, notN_, kNotN_ok, and_, kAnd_ok, kAnd2_t, kAnd2_f, or_, kOr_ok, kOr2_t, kOr2_f, ite_, kIte_ok, kIte2_t, kIte2_f, evs_cons, evs_nil, kCons_ok, kCons2_ok, tup_, kTup_ok, lst_, kLst_ok, bi_, kBi_ok, call_, kCall_ok, kCall2_ok, isi_, kIsi_ok, idxB_, kIdx0_t, kIdx_ok, kIdx2_ok, kTake_ok, take_flat, slc_, kSlc_ok, kSlc2_ok, kSlc3_T, kSlc3_L, evO_none, evO_some, kEnd_ok, comp_, roE, roL, roO, roI, out_ret, out_nx, len_T, len_L, int_I, tup_L, tup_T, tup_nil, bin_add, bin_sub, tru_bl, cmp_lt, cmp_le, cmp_gt, cmp_ge, cmp_eqI, cmp_neI, cmp_eqT, cmp_neT, cmp_eqLa, cmp_neLa, cmp_eqLs, own_T, own_La, own_tup, own_int, own_bl, own_non, own_k, own_s, own_g, Bool.not_false, Bool.not_true, Bool.or_true, Bool.true_or, Bool.or_false, Bool.false_or, Bool.and_true, Bool.true_and, Bool.and_false, Bool.false_and, if_true, if_false, Bool.false_eq_true, reduceIte, Int.reduceEq, Int.reduceLT, Int.reduceLE, Nat.reduceLT, Nat.reduceAdd, Nat.reduceSub, List.map_cons, List.map_nil, List.cons_append, List.nil_append, List.replicate, List.getElem?_cons_zero, List.getElem?_cons_succ, List.set, List.set_cons_zero, List.set_cons_succ, List.length_cons, List.length_nil, List.zip_cons_cons, List.zip_nil_right, List.foldl_cons, List.foldl_nil, List.all_cons, List.all_nil, decide_true, decide_false, Nat.zero_lt_succ, and_self, and_true, true_and, Int.ofNat_lt, Int.ofNat_le, eq_self, f_law_second, bin_mod q4, bin_fdiv q4 q4', h0, h1, bin_mod ql, hr2, cut_to, cut_from, c1, c2, c3, hB, hL, share_La, len0, len1, bin_fdiv q64 q64', bin_mod q3, hm, c4]
      · rw [List.length_flatten, List.map_replicate, List.sum_replicate_nat, hLn]
        exact Nat.mul_pos (by omega) hl
      · rw [List.length_flatten, List.map_replicate, List.sum_replicate_nat, hLn]
        have : m * l.length ≤ 3 * 30 := Nat.mul_le_mul (by omega) (by omega)
        omega
    · obtain ⟨pl, hp1, hp2⟩ := int_mod ((x.fdiv 4).fdiv 64) hBn.2
      have qB : (B.length : Int) ≠ 0 := by omega
      have it := item_T (getD_some hp1)
      have hdr : ((pl : Int) + 1) = ((pl + 1 : Nat) : Int) := rfl
      have c5 := bin_cat (a := B.take pl) (b := [(B.getD pl 0 + 1).fmod k]) (by rw [List.length_take, List.length_singleton]; unfold line; omega)
      have c6 := bin_cat (a := B.take pl ++ [(B.getD pl 0 + 1).fmod k]) (b := B.drop (pl + 1)) (by rw [List.length_append, List.length_take, List.length_drop, List.length_singleton]; unfold line; omega)
      refine ⟨B.take pl ++ [(B.getD pl 0 + 1).fmod k] ++ B.drop (pl + 1), L, ?_, by omega, by omega, ?_⟩
      · simp only [execs_cons, execs_nil, asg_, augv_, jAug0_ok, ex_, ret_, if_, for_, whl_, jTest_ok, jTest2_ok, brk_, cnt_, pass_, jSt_ok, jAsg_ok, jAug3_ok, jAug2_ok, jEx_ok, jRet_ok, jIf2_t, jIf2_f, jIf_ok, jSeq_nx, jSeq_ret, jSeq_brk, jSeq_cnt, jFor_ok, rng_, jRng_1, jRng_2, set_var, set_tup, bind_one, augI_add, augI_sub, lit_, var_, kVar_flat, kVar_pk, bin_, kBin1_ok, kBin2_ok, kVal_ok, kBl_ok, cmp_, kCmp1_ok, kCmp2_ok, chain_, kCh0_ok, kCh1_ok, kCh2_t, kCh2_f, kCh3_ok, neg_, kNeg_ok, not_, kNot_ok, kNot2_ok, isN_, kIsN_ok, notN_, kNotN_ok, and_, kAnd_ok, kAnd2_t, kAnd2_f, or_, kOr_ok, kOr2_t, kOr2_f, ite_, kIte_ok, kIte2_t, kIte2_f, evs_cons, evs_nil, kCons_ok, kCons2_ok, tup_, kTup_ok, lst_, kLst_ok, bi_, kBi_ok, call_, kCall_ok, kCall2_ok, isi_, kIsi_ok, idxB_, kIdx0_t, kIdx_ok, kIdx2_ok, kTake_ok, take_flat, slc_, kSlc_ok, kSlc2_ok, kSlc3_T, kSlc3_L, evO_none, evO_some, kEnd_ok, comp_, roE, roL, roO, roI, out_ret, out_nx, len_T, len_L, int_I, tup_L, tup_T, tup_nil, bin_add, bin_sub, tru_bl, cmp_lt, cmp_le, cmp_gt, cmp_ge, cmp_eqI, cmp_neI, cmp_eqT, cmp_neT, cmp_eqLa, cmp_neLa, cmp_eqLs, own_T, own_La, own_tup, own_int, own_bl, own_non, own_k, own_s, own_g, Bool.not_false, Bool.not_true, Bool.or_true, Bool.true_or, Bool.or_false, Bool.false_or, Bool.and_true, Bool.true_and, Bool.and_false, Bool.false_and, if_true, if_false, Bool.false_eq_true, reduceIte, Int.reduceEq, Int.reduceLT, Int.reduceLE, Nat.reduceLT, Nat.reduceAdd, Nat.reduceSub, List.map_cons, List.map_nil, List.cons_append, List.nil_append, List.replicate, List.getElem?_cons_zero, List.getElem?_cons_succ, List.set, List.set_cons_zero, List.set_cons_succ, List.length_cons, List.length_nil, List.zip_cons_cons, List.zip_nil_right, List.foldl_cons, List.foldl_nil, List.all_cons, List.all_nil, decide_true, decide_false, Nat.zero_lt_succ, and_self, and_true, true_and, Int.ofNat_lt, Int.ofNat_le, eq_self, f_law_second, bin_mod q4, bin_fdiv q4 q4', h0, h1, bin_mod ql, hr2, cut_to, cut_from, c1, c2, c3, hB, hL, share_La, len0, len1, bin_fdiv q64 q64', bin_mod qB, hp2, it, bin_mod qk, one_T, hdr, c5, c6]
      · rw [List.length_append, List.length_append, List.length_take, List.length_drop, List.length_singleton]
        omega
abbrev bdIn : List S := [.asg (.var 5) (.tup [(.bi "tuple" [(.slc (.var 2) none (some (.var 4)))]), (.bi "tuple" [(.slc (.var 2) (some (.var 4)) (some (.bin .add (.var 4) (.var 3))))])]), .ifS (.call "_law_same" [(.var 5), (.var 0)]) [.ret (.var 5)] []]
def agr (b l row : List Int) (s t : Nat) : Bool := decide (ltrs (cnB row t) (cnL row s t) (cnt (cnB row t) (cnL row s t) b l) = ltrs b l (cnt (cnB row t) (cnL row s t) b l))
theorem stepIn [H_law_at P] [H_law_letters P] [H_law_same P] (n : Nat) (b l row : List Int) (D1 : D) (s t : Nat) (o : Option D) (hl : 0 < l.length) (hl2 : l.length ≤ 200) (hb : b.length ≤ 200) (hs : 0 < s) (hs2 : s ≤ 200) (ht : t ≤ 200) (hr : t + s ≤ row.length) :
    execs (C P (n + 3)) bdIn [some (La b l), some D1, some (.lst .o (row.map .int)), some (.int s), some (.int t), o] = if agr b l row s t = true then .ok (.ret (La (cnB row t) (cnL row s t)), [some (La b l), some D1, some (.lst .o (row.map .int)), some (.int s), some (.int t), some (La (cnB row t) (cnL row s t))]) else .ok (.nx, [some (La b l), some D1, some (.lst .o (row.map .int)), some (.int s), some (.int t), some (La (cnB row t) (cnL row s t))]) := by
  have e1 : (t : Int) + (s : Int) = ((t + s : Nat) : Int) := rfl
  have e2 : t + s - t = s := by omega
  have h := law_same (P := P) n (cnB row t) (cnL row s t) b l (by unfold cnL; rw [List.length_take, List.length_drop]; omega) (by unfold cnL; rw [List.length_take]; omega) (by unfold cnB; rw [List.length_take]; omega) hl (by omega) (by omega)
  have h : (C P (n + 3)).call "_law_same" [La (cnB row t) (cnL row s t), La b l] = .ok (.bl (agr b l row s t)) := h
  have t1 : List.take t row = cnB row t := rfl
  have t2 : List.take s (List.drop t row) = cnL row s t := rfl
  cases hq : agr b l row s t with
  | true => rw [hq] at h; simp only [execs_cons, execs_nil, asg_, augv_, jAug0_ok, ex_, ret_, if_, for_, whl_, jTest_ok, jTest2_ok, brk_, cnt_, pass_, jSt_ok, jAsg_ok, jAug3_ok, jAug2_ok, jEx_ok, jRet_ok, jIf2_t, jIf2_f, jIf_ok, jSeq_nx, jSeq_ret, jSeq_brk, jSeq_cnt, jFor_ok, rng_, jRng_1, jRng_2, set_var, set_tup, bind_one, augI_add, augI_sub, lit_, var_, kVar_flat, kVar_pk, bin_, kBin1_ok, kBin2_ok, kVal_ok, kBl_ok, cmp_, kCmp1_ok, kCmp2_ok, chain_, kCh0_ok, kCh1_ok, kCh2_t, kCh2_f, kCh3_ok, neg_, kNeg_ok, not_, kNot_ok, kNot2_ok, isN_, kIsN_ok, notN_, kNotN_ok, and_, kAnd_ok, kAnd2_t, kAnd2_f, or_, kOr_ok, kOr2_t, kOr2_f, ite_, kIte_ok, kIte2_t, kIte2_f, evs_cons, evs_nil, kCons_ok, kCons2_ok, tup_, kTup_ok, lst_, kLst_ok, bi_, kBi_ok, call_, kCall_ok, kCall2_ok, isi_, kIsi_ok, idxB_, kIdx0_t, kIdx_ok, kIdx2_ok, kTake_ok, take_flat, slc_, kSlc_ok, kSlc2_ok, kSlc3_T, kSlc3_L, evO_none, evO_some, kEnd_ok, comp_, roE, roL, roO, roI, out_ret, out_nx, len_T, len_L, int_I, tup_L, tup_T, tup_nil, bin_add, bin_sub, tru_bl, cmp_lt, cmp_le, cmp_gt, cmp_ge, cmp_eqI, cmp_neI, cmp_eqT, cmp_neT, cmp_eqLa, cmp_neLa, cmp_eqLs, own_T, own_La, own_tup, own_int, own_bl, own_non, own_k, own_s, own_g, Bool.not_false, Bool.not_true, Bool.or_true, Bool.true_or, Bool.or_false, Bool.false_or, Bool.and_true, Bool.true_and, Bool.and_false, Bool.false_and, if_true, if_false, Bool.false_eq_true, reduceIte, Int.reduceEq, Int.reduceLT, Int.reduceLE, Nat.reduceLT, Nat.reduceAdd, Nat.reduceSub, List.map_cons, List.map_nil, List.cons_append, List.nil_append, List.replicate, List.getElem?_cons_zero, List.getElem?_cons_succ, List.set, List.set_cons_zero, List.set_cons_succ, List.length_cons, List.length_nil, List.zip_cons_cons, List.zip_nil_right, List.foldl_cons, List.foldl_nil, List.all_cons, List.all_nil, decide_true, decide_false, Nat.zero_lt_succ, and_self, and_true, true_and, Int.ofNat_lt, Int.ofNat_le, eq_self, cut_to, cut_part, e1, e2, t1, t2, share_La, lend_LL, set_LL, h]
  | false => rw [hq] at h; simp only [execs_cons, execs_nil, asg_, augv_, jAug0_ok, ex_, ret_, if_, for_, whl_, jTest_ok, jTest2_ok, brk_, cnt_, pass_, jSt_ok, jAsg_ok, jAug3_ok, jAug2_ok, jEx_ok, jRet_ok, jIf2_t, jIf2_f, jIf_ok, jSeq_nx, jSeq_ret, jSeq_brk, jSeq_cnt, jFor_ok, rng_, jRng_1, jRng_2, set_var, set_tup, bind_one, augI_add, augI_sub, lit_, var_, kVar_flat, kVar_pk, bin_, kBin1_ok, kBin2_ok, kVal_ok, kBl_ok, cmp_, kCmp1_ok, kCmp2_ok, chain_, kCh0_ok, kCh1_ok, kCh2_t, kCh2_f, kCh3_ok, neg_, kNeg_ok, not_, kNot_ok, kNot2_ok, isN_, kIsN_ok, notN_, kNotN_ok, and_, kAnd_ok, kAnd2_t, kAnd2_f, or_, kOr_ok, kOr2_t, kOr2_f, ite_, kIte_ok, kIte2_t, kIte2_f, evs_cons, evs_nil, kCons_ok, kCons2_ok, tup_, kTup_ok, lst_, kLst_ok, bi_, kBi_ok, call_, kCall_ok, kCall2_ok, isi_, kIsi_ok, idxB_, kIdx0_t, kIdx_ok, kIdx2_ok, kTake_ok, take_flat, slc_, kSlc_ok, kSlc2_ok, kSlc3_T, kSlc3_L, evO_none, evO_some, kEnd_ok, comp_, roE, roL, roO, roI, out_ret, out_nx, len_T, len_L, int_I, tup_L, tup_T, tup_nil, bin_add, bin_sub, tru_bl, cmp_lt, cmp_le, cmp_gt, cmp_ge, cmp_eqI, cmp_neI, cmp_eqT, cmp_neT, cmp_eqLa, cmp_neLa, cmp_eqLs, own_T, own_La, own_tup, own_int, own_bl, own_non, own_k, own_s, own_g, Bool.not_false, Bool.not_true, Bool.or_true, Bool.true_or, Bool.or_false, Bool.false_or, Bool.and_true, Bool.true_and, Bool.and_false, Bool.false_and, if_true, if_false, Bool.false_eq_true, reduceIte, Int.reduceEq, Int.reduceLT, Int.reduceLE, Nat.reduceLT, Nat.reduceAdd, Nat.reduceSub, List.map_cons, List.map_nil, List.cons_append, List.nil_append, List.replicate, List.getElem?_cons_zero, List.getElem?_cons_succ, List.set, List.set_cons_zero, List.set_cons_succ, List.length_cons, List.length_nil, List.zip_cons_cons, List.zip_nil_right, List.foldl_cons, List.foldl_nil, List.all_cons, List.all_nil, decide_true, decide_false, Nat.zero_lt_succ, and_self, and_true, true_and, Int.ofNat_lt, Int.ofNat_le, eq_self, cut_to, cut_part, e1, e2, t1, t2, share_La, lend_LL, set_LL, h]
end Las
end

section
set_option maxRecDepth 100000
namespace Las
open Lz
variable {P : Prog}
theorem agr_iff {b l : List Int} (hl : 0 < l.length) {m s t : Nat} (hs : 0 < s) (hm : t + s ≤ m) : agr b l (ltrs b l m) s t = true ↔ EP (ltr b l) t s := by
  unfold agr
  have hL : (cnL (ltrs b l m) s t).length = s := by unfold cnL; rw [List.length_take, List.length_drop, ltrs_len]; omega
  rw [decide_eq_true_eq, agree_iff (by omega) hl, cn_iff hs hm]
abbrev outIn : List S := [.forS (.var 4) (.rng [(.bin .add (.bi "len" [(.idx (.var 0) (.lit (.int 0)))]) (.lit (.int 1)))]) bdIn]
theorem inner [H_law_at P] [H_law_letters P] [H_law_same P] (n : Nat) (b l row : List Int) (D1 : D) (s : Nat) (o4 o5 : Option D) (hl : 0 < l.length) (hl2 : l.length ≤ 200) (hb : b.length ≤ 200) (hs : 0 < s) (hs2 : s ≤ 200) (hr : b.length + s ≤ row.length) :
    ∃ p5 p6, execs (C P (n + 3)) outIn [some (La b l), some D1, some (.lst .o (row.map .int)), some (.int s), o4, o5] = (match (List.range' 0 (b.length + 1)).find? (agr b l row s) with
      | some t => .ok (.ret (La (cnB row t) (cnL row s t)), [some (La b l), some D1, some (.lst .o (row.map .int)), some (.int s), p5, p6])
      | none => .ok (.nx, [some (La b l), some D1, some (.lst .o (row.map .int)), some (.int s), p5, p6])) := by
  obtain ⟨e1, ⟨p5, p6, rfl⟩, h⟩ := forLoop_find (step := stepF (C P (n + 3)) (.var 4) bdIn) (fun x => match x with | .int d => (if agr b l row s d.toNat = true then some (La (cnB row d.toNat) (cnL row s d.toNat)) else none) | _ => none)
    (fun env => ∃ p q, env = [some (La b l), some D1, some (.lst .o (row.map .int)), some (.int s), p, q]) (rangeL ((0 : Nat) : Int) (b.length + 1)) [some (La b l), some D1, some (.lst .o (row.map .int)), some (.int s), o4, o5] ⟨_, _, rfl⟩ (by
      intro x hx env ⟨p, q, he⟩
      subst he
      rw [rangeL_range] at hx
      obtain ⟨t, ht, rfl⟩ := List.mem_map.mp hx
      rw [List.mem_range'_1] at ht
      have hst : setTg (C P (n + 3)) (.var 4) (.int t) [some (La b l), some D1, some (.lst .o (row.map .int)), some (.int s), p, q] = .ok [some (La b l), some D1, some (.lst .o (row.map .int)), some (.int s), some (.int t), q] := rfl
      refine ⟨[some (La b l), some D1, some (.lst .o (row.map .int)), some (.int s), some (.int t), some (La (cnB row t) (cnL row s t))], ⟨_, _, rfl⟩, ?_⟩
      rw [stepF_ok _ hst, stepIn (P := P) n b l row D1 s t q hl hl2 hb hs hs2 (by omega) (by omega)]
      simp only [Int.toNat_natCast]
      cases agr b l row s t <;> rfl)
  have hf : (rangeL ((0 : Nat) : Int) (b.length + 1)).findSome? (fun x => match x with | .int d => (if agr b l row s d.toNat = true then some (La (cnB row d.toNat) (cnL row s d.toNat)) else none) | _ => none) = ((List.range' 0 (b.length + 1)).find? (agr b l row s)).map fun t => La (cnB row t) (cnL row s t) := by
    rw [rangeL_range, List.findSome?_map, ← findSome_find (agr b l row s) fun t => La (cnB row t) (cnL row s t)]
    rfl
  rw [hf] at h
  have hr1 : isRg ((b.length + 1 : Nat) : Int) = true := isRg_nat (by omega)
  have e1 : (b.length : Int) + 1 = ((b.length + 1 : Nat) : Int) := rfl
  have e2 : (((b.length + 1 : Nat) : Int)).toNat = b.length + 1 := rfl
  refine ⟨p5, p6, ?_⟩
  cases hq : (List.range' 0 (b.length + 1)).find? (agr b l row s) with
  | some t =>
    rw [hq] at h
    dsimp only [Option.map_some] at h
    have h' : forLoop [] (stepF (C P (n + 3)) (.var 4) bdIn) (rangeL 0 (b.length + 1)) [some (La b l), some D1, some (.lst .o (row.map .int)), some (.int s), o4, o5] = _ := h
    simp only [execs_cons, execs_nil, asg_, augv_, jAug0_ok, ex_, ret_, if_, for_, whl_, jTest_ok, jTest2_ok, brk_, cnt_, pass_, jSt_ok, jAsg_ok, jAug3_ok, jAug2_ok, jEx_ok, jRet_ok, jIf2_t, jIf2_f, jIf_ok, jSeq_nx, jSeq_ret, jSeq_brk, jSeq_cnt, jFor_ok, rng_, jRng_1, jRng_2, set_var, set_tup, bind_one, augI_add, augI_sub, lit_, var_, kVar_flat, kVar_pk, bin_, kBin1_ok, kBin2_ok, kVal_ok, kBl_ok, cmp_, kCmp1_ok, kCmp2_ok, chain_, kCh0_ok, kCh1_ok, kCh2_t, kCh2_f, kCh3_ok, neg_, kNeg_ok, not_, kNot_ok, kNot2_ok, isN_, kIsN_ok, notN_, kNotN_ok, and_, kAnd_ok, kAnd2_t, kAnd2_f, or_, kOr_ok, kOr2_t, kOr2_f, ite_, kIte_ok, kIte2_t, kIte2_f, evs_cons, evs_nil, kCons_ok, kCons2_ok, tup_, kTup_ok, lst_, kLst_ok, bi_, kBi_ok, call_, kCall_ok, kCall2_ok, isi_, kIsi_ok, idxB_, kIdx0_t, kIdx_ok, kIdx2_ok, kTake_ok, take_flat, slc_, kSlc_ok, kSlc2_ok, kSlc3_T, kSlc3_L, evO_none, evO_some, kEnd_ok, comp_, roE, roL, roO, roI, out_ret, out_nx, len_T, len_L, int_I, tup_L, tup_T, tup_nil, bin_add, bin_sub, tru_bl, cmp_lt, cmp_le, cmp_gt, cmp_ge, cmp_eqI, cmp_neI, cmp_eqT, cmp_neT, cmp_eqLa, cmp_neLa, cmp_eqLs, own_T, own_La, own_tup, own_int, own_bl, own_non, own_k, own_s, own_g, Bool.not_false, Bool.not_true, Bool.or_true, Bool.true_or, Bool.or_false, Bool.false_or, Bool.and_true, Bool.true_and, Bool.and_false, Bool.false_and, if_true, if_false, Bool.false_eq_true, reduceIte, Int.reduceEq, Int.reduceLT, Int.reduceLE, Nat.reduceLT, Nat.reduceAdd, Nat.reduceSub, List.map_cons, List.map_nil, List.cons_append, List.nil_append, List.replicate, List.getElem?_cons_zero, List.getElem?_cons_succ, List.set, List.set_cons_zero, List.set_cons_succ, List.length_cons, List.length_nil, List.zip_cons_cons, List.zip_nil_right, List.foldl_cons, List.foldl_nil, List.all_cons, List.all_nil, decide_true, decide_false, Nat.zero_lt_succ, and_self, and_true, true_and, Int.ofNat_lt, Int.ofNat_le, eq_self, len0, e1, hr1, e2, h']
  | none =>
    rw [hq] at h
    dsimp only [Option.map_none] at h
    have h' : forLoop [] (stepF (C P (n + 3)) (.var 4) bdIn) (rangeL 0 (b.length + 1)) [some (La b l), some D1, some (.lst .o (row.map .int)), some (.int s), o4, o5] = _ := h
    simp only [execs_cons, execs_nil, asg_, augv_, jAug0_ok, ex_, ret_, if_, for_, whl_, jTest_ok, jTest2_ok, brk_, cnt_, pass_, jSt_ok, jAsg_ok, jAug3_ok, jAug2_ok, jEx_ok, jRet_ok, jIf2_t, jIf2_f, jIf_ok, jSeq_nx, jSeq_ret, jSeq_brk, jSeq_cnt, jFor_ok, rng_, jRng_1, jRng_2, set_var, set_tup, bind_one, augI_add, augI_sub, lit_, var_, kVar_flat, kVar_pk, bin_, kBin1_ok, kBin2_ok, kVal_ok, kBl_ok, cmp_, kCmp1_ok, kCmp2_ok, chain_, kCh0_ok, kCh1_ok, kCh2_t, kCh2_f, kCh3_ok, neg_, kNeg_ok, not_, kNot_ok, kNot2_ok, isN_, kIsN_ok, notN_, kNotN_ok, and_, kAnd_ok, kAnd2_t, kAnd2_f, or_, kOr_ok, kOr2_t, kOr2_f, ite_, kIte_ok, kIte2_t, kIte2_f, evs_cons, evs_nil, kCons_ok, kCons2_ok, tup_, kTup_ok, lst_, kLst_ok, bi_, kBi_ok, call_, kCall_ok, kCall2_ok, isi_, kIsi_ok, idxB_, kIdx0_t, kIdx_ok, kIdx2_ok, kTake_ok, take_flat, slc_, kSlc_ok, kSlc2_ok, kSlc3_T, kSlc3_L, evO_none, evO_some, kEnd_ok, comp_, roE, roL, roO, roI, out_ret, out_nx, len_T, len_L, int_I, tup_L, tup_T, tup_nil, bin_add, bin_sub, tru_bl, cmp_lt, cmp_le, cmp_gt, cmp_ge, cmp_eqI, cmp_neI, cmp_eqT, cmp_neT, cmp_eqLa, cmp_neLa, cmp_eqLs, own_T, own_La, own_tup, own_int, own_bl, own_non, own_k, own_s, own_g, Bool.not_false, Bool.not_true, Bool.or_true, Bool.true_or, Bool.or_false, Bool.false_or, Bool.and_true, Bool.true_and, Bool.and_false, Bool.false_and, if_true, if_false, Bool.false_eq_true, reduceIte, Int.reduceEq, Int.reduceLT, Int.reduceLE, Nat.reduceLT, Nat.reduceAdd, Nat.reduceSub, List.map_cons, List.map_nil, List.cons_append, List.nil_append, List.replicate, List.getElem?_cons_zero, List.getElem?_cons_succ, List.set, List.set_cons_zero, List.set_cons_succ, List.length_cons, List.length_nil, List.zip_cons_cons, List.zip_nil_right, List.foldl_cons, List.foldl_nil, List.all_cons, List.all_nil, decide_true, decide_false, Nat.zero_lt_succ, and_self, and_true, true_and, Int.ofNat_lt, Int.ofNat_le, eq_self, len0, e1, hr1, e2, h']
theorem law_least [H_law_at P] [H_law_letters P] [H_law_same P] (H_least : P.fns.lookup "_law_least" = some f_law_least) (n : Nat) (b l : List Int) (hl : 0 < l.length) (hl2 : l.length ≤ 200) (hb : b.length ≤ 200) :
    (C P (n + 4)).call "_law_least" [La b l] = .ok (La (llasso b l).1 (llasso b l).2) := by
  rw [c_of H_least (n + 3) _ rfl]
  obtain ⟨hle, hB, hL⟩ := llasso_least (b := b) hl
  have hpos := hle.pos
  generalize hM : 4 * (b.length + l.length) + 4 = M
  have hlet := law_letters (P := P) (n + 1) b l M hl (by omega)
  have hM' : 4 * ((b.length : Int) + (l.length : Int)) + 4 = (M : Int) := by omega
  have m4 : binop .mul (.int 4) (.int ((b.length : Int) + (l.length : Int))) = .ok (.int (4 * ((b.length : Int) + (l.length : Int)))) := bin_mul (by simp [isSmall, big])
  obtain ⟨e1, h⟩ := forLoop_ret (w := []) (step := stepF (C P (n + 3)) (.var 3) outIn) (d := La (llasso b l).1 (llasso b l).2) (fun _ env => ∃ p q r, env = [some (La b l), some (.int ((b.length : Int) + (l.length : Int))), some (.lst .o ((ltrs b l M).map .int)), p, q, r]) (rangeL ((1 : Nat) : Int) l.length) 0 ((llasso b l).2.length - 1) [some (La b l), some (.int ((b.length : Int) + (l.length : Int))), some (.lst .o ((ltrs b l M).map .int)), none, none, none] ⟨_, _, _, rfl⟩ (fun _ _ _ => rfl) (by
      intro i x env hi hx ⟨p, q, r, he⟩
      subst he
      rw [rangeL_range, List.getElem?_map, List.getElem?_range' (by omega)] at hx
      have hx := Option.some.inj hx
      subst hx
      have hst : setTg (C P (n + 3)) (.var 3) (.int ((1 + 1 * i : Nat) : Int)) [some (La b l), some (.int ((b.length : Int) + (l.length : Int))), some (.lst .o ((ltrs b l M).map .int)), p, q, r] = .ok [some (La b l), some (.int ((b.length : Int) + (l.length : Int))), some (.lst .o ((ltrs b l M).map .int)), some (.int ((1 + 1 * i : Nat) : Int)), q, r] := rfl
      obtain ⟨p5, p6, hin⟩ := inner (P := P) n b l (ltrs b l M) (.int ((b.length : Int) + (l.length : Int))) (1 + 1 * i) q r hl hl2 hb (by omega) (by omega) (by rw [ltrs_len]; omega)
      have hno : (List.range' 0 (b.length + 1)).find? (agr b l (ltrs b l M) (1 + 1 * i)) = none := by
        rw [List.find?_eq_none]
        intro t ht ha
        rw [List.mem_range'_1] at ht
        have := hle.size _ _ (by omega) ((agr_iff hl (by omega) (by omega)).mp ha)
        omega
      rw [hno] at hin
      rw [stepF_ok _ hst, hin]
      exact ⟨_, rfl, _, _, _, rfl⟩) ⟨.int ((1 + 1 * ((llasso b l).2.length - 1) : Nat) : Int), by rw [rangeL_range, List.getElem?_map, List.getElem?_range' (by omega)]; rfl, by
      intro env ⟨p, q, r, he⟩
      subst he
      have e1 : 1 + 1 * ((llasso b l).2.length - 1) = (llasso b l).2.length := by omega
      rw [e1]
      have hst : setTg (C P (n + 3)) (.var 3) (.int ((llasso b l).2.length : Int)) [some (La b l), some (.int ((b.length : Int) + (l.length : Int))), some (.lst .o ((ltrs b l M).map .int)), p, q, r] = .ok [some (La b l), some (.int ((b.length : Int) + (l.length : Int))), some (.lst .o ((ltrs b l M).map .int)), some (.int ((llasso b l).2.length : Int)), q, r] := rfl
      obtain ⟨p5, p6, hin⟩ := inner (P := P) n b l (ltrs b l M) (.int ((b.length : Int) + (l.length : Int))) (llasso b l).2.length q r hl hl2 hb (by omega) (by omega) (by rw [ltrs_len]; omega)
      have hyes : (List.range' 0 (b.length + 1)).find? (agr b l (ltrs b l M) (llasso b l).2.length) = some (llasso b l).1.length := by
        refine find_first _ _ _ (Nat.zero_le _) (by omega) ((agr_iff hl (by omega) (by omega)).mpr hle.ep) ?_
        intro t _ ht
        cases hq : agr b l (ltrs b l M) (llasso b l).2.length t with
        | false => rfl
        | true =>
          have := hle.start _ ((agr_iff hl (by omega) (by omega)).mp hq)
          omega
      rw [hyes] at hin
      obtain ⟨c1, c2⟩ := cn_least (b := b) hl (m := M) (by omega)
      dsimp only at hin
      rw [c1, c2] at hin
      rw [stepF_ok _ hst, hin]
      exact ⟨_, rfl⟩⟩
  have hr1 : isRg 1 = true := by simp [isRg]
  have hr2 : isRg ((l.length : Int) + 1) = true := isRg_nat (n := l.length + 1) (by omega)
  have hn : ((l.length : Int) + 1 - 1).toNat = l.length := by omega
  have h' : forLoop [] (stepF (C P (n + 3)) (.var 3) outIn) (rangeL 1 l.length) [some (La b l), some (.int ((b.length : Int) + (l.length : Int))), some (.lst .o ((ltrs b l M).map .int)), none, none, none] = _ := h
  simp only [execs_cons, execs_nil, asg_, augv_, jAug0_ok, ex_, ret_, if_, for_, whl_, jTest_ok, jTest2_ok, brk_, cnt_, pass_, jSt_ok, jAsg_ok, jAug3_ok, jAug2_ok, jEx_ok, jRet_ok, jIf2_t, jIf2_f, jIf_ok, jSeq_nx, jSeq_ret, jSeq_brk, jSeq_cnt, jFor_ok, rng_, jRng_1, jRng_2, set_var, set_tup, bind_one, augI_add, augI_sub, lit_, var_, kVar_flat, kVar_pk, bin_, kBin1_ok, kBin2_ok, kVal_ok, kBl_ok, cmp_, kCmp1_ok, kCmp2_ok, chain_, kCh0_ok, kCh1_ok, kCh2_t, kCh2_f, kCh3_ok, neg_, kNeg_ok, not_, kNot_ok, kNot2_ok, isN_, kIsN_ok, notN_, kNotN_ok, and_, kAnd_ok, kAnd2_t, kAnd2_f, or_, kOr_ok, kOr2_t, kOr2_f, ite_, kIte_ok, kIte2_t, kIte2_f, evs_cons, evs_nil, kCons_ok, kCons2_ok, tup_, kTup_ok, lst_, kLst_ok, bi_, kBi_ok, call_, kCall_ok, kCall2_ok, isi_, kIsi_ok, idxB_, kIdx0_t, kIdx_ok, kIdx2_ok, kTake_ok, take_flat, slc_, kSlc_ok, kSlc2_ok, kSlc3_T, kSlc3_L, evO_none, evO_some, kEnd_ok, comp_, roE, roL, roO, roI, out_ret, out_nx, len_T, len_L, int_I, tup_L, tup_T, tup_nil, bin_add, bin_sub, tru_bl, cmp_lt, cmp_le, cmp_gt, cmp_ge, cmp_eqI, cmp_neI, cmp_eqT, cmp_neT, cmp_eqLa, cmp_neLa, cmp_eqLs, own_T, own_La, own_tup, own_int, own_bl, own_non, own_k, own_s, own_g, Bool.not_false, Bool.not_true, Bool.or_true, Bool.true_or, Bool.or_false, Bool.false_or, Bool.and_true, Bool.true_and, Bool.and_false, Bool.false_and, if_true, if_false, Bool.false_eq_true, reduceIte, Int.reduceEq, Int.reduceLT, Int.reduceLE, Nat.reduceLT, Nat.reduceAdd, Nat.reduceSub, List.map_cons, List.map_nil, List.cons_append, List.nil_append, List.replicate, List.getElem?_cons_zero, List.getElem?_cons_succ, List.set, List.set_cons_zero, List.set_cons_succ, List.length_cons, List.length_nil, List.zip_cons_cons, List.zip_nil_right, List.foldl_cons, List.foldl_nil, List.all_cons, List.all_nil, decide_true, decide_false, Nat.zero_lt_succ, and_self, and_true, true_and, Int.ofNat_lt, Int.ofNat_le, eq_self, f_law_least, len0, len1, m4, hM', lend_Li, set_Li, hlet, hr1, hr2, hn, h']
theorem ls_len (x k : Int) {m : Nat} (hm : 0 < m) : (lsB x k m).length ≤ m ∧ 0 < (lsL x k m).length ∧ (lsL x k m).length ≤ m := by
  unfold lsB lsL
  rw [wrd_len, wrd_len]
  obtain ⟨p1, p2⟩ := fmod_nn x (m := (m : Int) + 1) (by omega)
  obtain ⟨p3, p4⟩ := fmod_nn (x.fdiv ((m : Int) + 1)) (m := (m : Int)) (by omega)
  omega
theorem ls_in {k : Int} (hk : 0 < k) (x : Int) (m : Nat) : ∀ y ∈ lsB x k m ++ lsL x k m, 0 ≤ y ∧ y < k := by
  intro y hy
  rcases List.mem_append.mp hy with h | h
  · exact wrd_in hk _ _ _ y h
  · exact wrd_in hk _ _ _ y h
theorem ltr_mem {b l : List Int} (hl : 0 < l.length) (i : Nat) : ltr b l i ∈ b ++ l := by
  unfold ltr
  split
  · rename_i h
    rw [List.getD_eq_getElem?_getD, List.getElem?_eq_getElem h]
    exact List.mem_append_left _ (List.getElem_mem h)
  · have h := Nat.mod_lt (i - b.length) hl
    rw [List.getD_eq_getElem?_getD, List.getElem?_eq_getElem h]
    exact List.mem_append_right _ (List.getElem_mem h)
theorem mem_getD {xs : List Int} {y : Int} (h : y ∈ xs) : ∃ i, i < xs.length ∧ xs.getD i 0 = y := by
  obtain ⟨i, hi, rfl⟩ := List.mem_iff_getElem.mp h
  refine ⟨i, hi, ?_⟩
  rw [List.getD_eq_getElem?_getD, List.getElem?_eq_getElem hi]
  rfl
theorem mem_word {b l b' l' : List Int} (hl : 0 < l.length) (hw : ltr b' l' = ltr b l) {y : Int} (hy : y ∈ b' ++ l') : y ∈ b ++ l := by
  rcases List.mem_append.mp hy with h | h
  · obtain ⟨i, hi, rfl⟩ := mem_getD h
    rw [← ltr_lt (l := l') hi, hw]
    exact ltr_mem hl i
  · obtain ⟨i, hi, rfl⟩ := mem_getD h
    rw [← ltr_loop (b := b') hi, hw]
    exact ltr_mem hl _
end Las
end

section
set_option maxRecDepth 100000
namespace Las
open Lz
/- words_of: 0=letters 1=length 2=found 3=_ 4=longer 5=word 6=letter -/
def f_words_of_e3 : E := (.bin .add (.var 5) (.tup [(.var 6)]))

def f_words_of_l2 : List S := [
  .mut false "extend" (.var 4) [(.comp false [6] true (.rng [(.var 0)]) none f_words_of_e3)]]

def f_words_of_l1 : List S := [
  .asg (.var 4) (.lst []),
  .forS (.var 5) (.val (.var 2)) f_words_of_l2,
  .asg (.var 2) (.var 4)]

def f_words_of : Lz.Fn where
  np := 2
  ns := 7
  body := [
    .asg (.var 2) (.lst [(.tup [])]),
    .forS (.var 3) (.rng [(.var 1)]) f_words_of_l1,
    .ret (.var 2)]

/- lassos_of: 0=letters 1=beginning 2=loop 3=found 4=turn 5=last 6=start 7=first -/
def f_lassos_of_l4 : List S := [
  .ifS (.cmp .eq (.call "least_lasso" [(.tup [(.var 7), (.var 5)])]) (.tup [(.var 7), (.var 5)])) [
      .mut false "append" (.var 3) [(.tup [(.var 7), (.var 5)])]] []]

def f_lassos_of_l3 : List S := [
  .forS (.var 7) (.val (.call "words_of" [(.var 0), (.var 6)])) f_lassos_of_l4]

def f_lassos_of_l2 : List S := [
  .forS (.var 6) (.rng [(.bin .add (.var 1) (.lit (.int 1)))]) f_lassos_of_l3]

def f_lassos_of_l1 : List S := [
  .forS (.var 5) (.val (.call "words_of" [(.var 0), (.var 4)])) f_lassos_of_l2]

def f_lassos_of : Lz.Fn where
  np := 3
  ns := 8
  body := [
    .asg (.var 3) (.lst []),
    .forS (.var 4) (.rng [(.lit (.int 1)), (.bin .add (.var 2) (.lit (.int 1)))]) f_lassos_of_l1,
    .ret (.var 3)]

/- _law_all: 0=k 1=start 2=turn 3=found 4=size 5=loop 6=length 7=first -/
def f_law_all_l4 : List S := [
  .ifS (.call "_law_is_least" [(.tup [(.var 7), (.var 5)])]) [
      .mut false "append" (.var 3) [(.tup [(.var 7), (.var 5)])]] []]

def f_law_all_l3 : List S := [
  .forS (.var 7) (.val (.call "_law_words" [(.var 0), (.var 6)])) f_law_all_l4]

def f_law_all_l2 : List S := [
  .forS (.var 6) (.rng [(.bin .add (.var 1) (.lit (.int 1)))]) f_law_all_l3]

def f_law_all_l1 : List S := [
  .forS (.var 5) (.val (.call "_law_words" [(.var 0), (.var 4)])) f_law_all_l2]

def f_law_all : Lz.Fn where
  np := 3
  ns := 8
  body := [
    .asg (.var 3) (.lst []),
    .forS (.var 4) (.rng [(.lit (.int 1)), (.bin .add (.var 2) (.lit (.int 1)))]) f_law_all_l1,
    .ret (.var 3)]

/- _law_words: 0=k 1=length 2=found 3=turn 4=longer 5=word 6=letter -/
def f_law_words_e3 : E := (.bin .add (.var 5) (.tup [(.var 6)]))

def f_law_words_l2 : List S := [
  .asg (.var 4) (.bin .add (.var 4) (.comp false [6] true (.rng [(.var 0)]) none f_law_words_e3))]

def f_law_words_l1 : List S := [
  .asg (.var 4) (.lst []),
  .forS (.var 5) (.val (.var 2)) f_law_words_l2,
  .asg (.var 2) (.var 4)]

def f_law_words : Lz.Fn where
  np := 2
  ns := 7
  body := [
    .asg (.var 2) (.lst [(.tup [])]),
    .forS (.var 3) (.rng [(.var 1)]) f_law_words_l1,
    .ret (.var 2)]

/- _law_is_least: 0=lasso 1=first 2=loop 3=size -/
def f_law_is_least_l1 : List S := [
  .ifS (.andE (.cmp .eq (.bin .mod (.bi "len" [(.var 2)]) (.var 3)) (.lit (.int 0))) (.cmp .eq (.var 2) (.bin .mul (.slc (.var 2) none (some (.var 3))) (.bin .fdiv (.bi "len" [(.var 2)]) (.var 3))))) [
      .ret (.lit (.bl false))] []]

def f_law_is_least : Lz.Fn where
  np := 1
  ns := 4
  body := [
    .asg (.tup [1, 2]) (.var 0),
    .forS (.var 3) (.rng [(.lit (.int 1)), (.bi "len" [(.var 2)])]) f_law_is_least_l1,
    .ret (.orE (.cmp .eq (.var 1) (.tup [])) (.cmp .ne (.idx (.var 1) (.neg (.lit (.int 1)))) (.idx (.var 2) (.neg (.lit (.int 1))))))]

class H_words_of (P : Prog) : Prop where
  h : P.fns.lookup "words_of" = some f_words_of
class H_lassos_of (P : Prog) : Prop where
  h : P.fns.lookup "lassos_of" = some f_lassos_of
class H_law_all (P : Prog) : Prop where
  h : P.fns.lookup "_law_all" = some f_law_all
class H_law_words (P : Prog) : Prop where
  h : P.fns.lookup "_law_words" = some f_law_words
class H_law_is_least (P : Prog) : Prop where
  h : P.fns.lookup "_law_is_least" = some f_law_is_least
end Las
end

section
set_option maxRecDepth 100000
namespace Las
open Lz
variable {P : Prog}
theorem stands_at {i : Nat} {d : D} {env : Env} (h : env[i]? = some (some d)) : stands [(i, d)] env = true := by
  unfold stands
  simp only [List.all_cons, List.all_nil, Bool.and_true, h, D.same_self]
/-- [word + (letter,) for letter in range(k)] -/
theorem compExt (c : Ctx) {ro : Bool} (k : Nat) (hk : k < 1000) (D1 D2 D3 D4 : Option D) (w : List Int) (hw : w.length < 1000) (o6 : Option D) (e3 : E) (he : e3 = .bin .add (.var 5) (.tup [.var 6])) :
    kComp c [6] true ro none e3 false (.ok (rangeL 0 k, [], [some (.int k), D1, D2, D3, D4, some (T w), o6])) = .ok (.lst .o ((ext k w).map T), [some (.int k), D1, D2, D3, D4, some (T w), o6]) := by
  subst he
  have e0 : rangeL 0 k = (List.range' 0 k).map fun d : Nat => D.int (d : Int) := rangeL_range 0 k
  have h := kComp_map (c := c) (t := [6]) (one := true) (ro := ro) (keep := false) (cond := none) (elt := .bin .add (.var 5) (.tup [.var 6])) (xs := rangeL 0 k) (env1 := [some (.int k), D1, D2, D3, D4, some (T w), o6]) (g := fun x => match x with | .int i => some (T (w ++ [i])) | _ => none)
    (by rw [e0, List.length_map, List.length_range']; unfold line; omega) (by
      intro x hx
      rw [e0] at hx
      obtain ⟨i, hi, rfl⟩ := List.mem_map.mp hx
      have hc := bin_cat (a := w) (b := [(i : Int)]) (by unfold line; rw [List.length_singleton]; omega)
      have hv : ev c ro false (.bin .add (.var 5) (.tup [.var 6])) [some (.int k), D1, D2, D3, D4, some (T w), some (.int i)] = .ok (T (w ++ [(i : Int)]), [some (.int k), D1, D2, D3, D4, some (T w), some (.int i)]) := by
        simp only [execs_cons, execs_nil, asg_, augv_, jAug0_ok, ex_, ret_, if_, for_, whl_, jTest_ok, jTest2_ok, brk_, cnt_, pass_, jSt_ok, jAsg_ok, jAug3_ok, jAug2_ok, jEx_ok, jRet_ok, jIf2_t, jIf2_f, jIf_ok, jSeq_nx, jSeq_ret, jSeq_brk, jSeq_cnt, jFor_ok, rng_, jRng_1, jRng_2, set_var, set_tup, bind_one, augI_add, augI_sub, lit_, var_, kVar_flat, kVar_pk, bin_, kBin1_ok, kBin2_ok, kVal_ok, kBl_ok, cmp_, kCmp1_ok, kCmp2_ok, chain_, kCh0_ok, kCh1_ok, kCh2_t, kCh2_f, kCh3_ok, neg_, kNeg_ok, not_, kNot_ok, kNot2_ok, isN_, kIsN_ok, notN_, kNotN_ok, and_, kAnd_ok, kAnd2_t, kAnd2_f, or_, kOr_ok, kOr2_t, kOr2_f, ite_, kIte_ok, kIte2_t, kIte2_f, evs_cons, evs_nil, kCons_ok, kCons2_ok, tup_, kTup_ok, lst_, kLst_ok, bi_, kBi_ok, call_, kCall_ok, kCall2_ok, isi_, kIsi_ok, idxB_, kIdx0_t, kIdx_ok, kIdx2_ok, kTake_ok, take_flat, slc_, kSlc_ok, kSlc2_ok, kSlc3_T, kSlc3_L, evO_none, evO_some, kEnd_ok, comp_, roE, roL, roO, roI, out_ret, out_nx, len_T, len_L, int_I, tup_L, tup_T, tup_nil, bin_add, bin_sub, tru_bl, cmp_lt, cmp_le, cmp_gt, cmp_ge, cmp_eqI, cmp_neI, cmp_eqT, cmp_neT, cmp_eqLa, cmp_neLa, cmp_eqLs, own_T, own_La, own_tup, own_int, own_bl, own_non, own_k, own_s, own_g, Bool.not_false, Bool.not_true, Bool.or_true, Bool.true_or, Bool.or_false, Bool.false_or, Bool.and_true, Bool.true_and, Bool.and_false, Bool.false_and, if_true, if_false, Bool.false_eq_true, reduceIte, Int.reduceEq, Int.reduceLT, Int.reduceLE, Nat.reduceLT, Nat.reduceAdd, Nat.reduceSub, List.map_cons, List.map_nil, List.cons_append, List.nil_append, List.replicate, List.getElem?_cons_zero, List.getElem?_cons_succ, List.set, List.set_cons_zero, List.set_cons_succ, List.length_cons, List.length_nil, List.zip_cons_cons, List.zip_nil_right, List.foldl_cons, List.foldl_nil, List.all_cons, List.all_nil, decide_true, decide_false, Nat.zero_lt_succ, and_self, and_true, true_and, Int.ofNat_lt, Int.ofNat_le, eq_self, flL_cons, flL_nil, fl_int, fl_bl, fl_non, fl_str, fl_Tb, fl_Lab, fl_lI, fl_lT, fl_lLa, tup_0, tup_1, sh_o, sh_s, sh_g, sh_k, gv_o, gv_s, gv_g, gv_k, val_var, jValV_s, jValV_g, jValV_k, jValV_t, jValE_o, jValE_s, jValE_g, jValE_t, mutv_, jMut0_ok, jMut_a, jMut_e, settle_nl, val_np, isPath_call, isPath_bi, isPath_bin, isPath_lst, isPath_tup, isPath_slc, isPath_comp, isPath_meth, kVar_own, shareL_I, shareL_T, shareL_La, own_lI, own_lT, own_lLa, isL_l, isL_T, lent_sI, lent_sT, lent_sLa, lent_T, lent_La, lent_int, lent_bl, lent_non, lent_str, lent_lI, lent_lT, lent_lLa, isO_int, isB_bl, isB_non, isN_int, isN_non, cmp_neB, cmp_eqN, cmp_eqTs, cmp_neTs, cmp_neLas, len0, len1, hc]
      have := cStep_none c (t := [6]) (one := true) (ro := ro) (keep := false) (x := .int (i : Int)) (e0 := wipeE [6] [some (.int k), D1, D2, D3, D4, some (T w), o6]) rfl hv
      rw [this]
      rw [if_neg Bool.false_ne_true, share_d, fl_Tb]
      rfl)
  rw [h]
  have e1 : (rangeL 0 k).filterMap (fun x => match x with | .int i => some (T (w ++ [i])) | _ => none) = (ext k w).map T := by
    rw [e0, List.filterMap_map]
    unfold ext
    rw [List.map_map, List.range_eq_range', ← List.filterMap_eq_map]
    rfl
  rw [e1]
theorem words_step (k : Nat) (n : Nat) : words k (n + 1) = (words k n).flatMap (ext k) := rfl
theorem words_small {k n : Nat} (hk : k ≤ 4) (hn : n ≤ 9) : (words k n).length ≤ 300000 ∧ ∀ w ∈ words k n, w.length < 1000 := by
  refine ⟨?_, fun w hw => by have := (mem_words.mp hw).1; omega⟩
  rw [words_len]
  have h1 : k ^ n ≤ 4 ^ n := Nat.pow_le_pow_left hk n
  have h2 : 4 ^ n ≤ 4 ^ 9 := Nat.pow_le_pow_right (by omega) hn
  have h3 : 4 ^ 9 = 262144 := rfl
  omega
theorem inW (c : Ctx) (k : Nat) (hk : k ≤ 4) (n : Nat) (hn : n < 9) (D1 D3 : Option D) (f : Fg) (hf : f = .o ∨ f = .s) (o5 o6 o7 : Option D) :
    ∃ o5' o6', execs c f_words_of_l1 [some (.int k), D1, some (.lst f ((words k n).map T)), D3, o5, o6, o7] = .ok (.nx, [some (.int k), D1, some (.lst .s ((words k (n + 1)).map T)), D3, some (.lst .s ((words k (n + 1)).map T)), o5', o6']) := by
  obtain ⟨hlen, hwl⟩ := words_small (n := n + 1) hk (by omega)
  have hwl0 := (words_small (n := n) hk (by omega)).2
  rw [words_step] at hlen
  have loop : ∀ w : Watch, (∀ env : Env, env[2]? = some (some (.lst f ((words k n).map T))) → stands w env = true) → ∃ e', forLoop w (stepF c (.var 5) f_words_of_l2) ((words k n).map T) [some (.int k), D1, some (.lst f ((words k n).map T)), D3, some (.lst .o []), o6, o7] = .ok (.nx, e') ∧ ∃ p q, e' = [some (.int k), D1, some (.lst f ((words k n).map T)), D3, some (.lst .o ((words k (n + 1)).map T)), p, q] := by
    intro w hw
    refine forLoop_acc (g := T) (F := ext k) (I := fun acc env => ∃ p q, env = [some (.int k), D1, some (.lst f ((words k n).map T)), D3, some (.lst .o (acc.map T)), p, q]) (fun acc env ⟨p, q, h⟩ => hw env (by rw [h]; rfl)) (words k n) [] _ ⟨o6, o7, rfl⟩ ?_
    intro u hu pre env hl ⟨p, q, he⟩
    subst he
    have hst : setTg c (.var 5) (T u) [some (.int k), D1, some (.lst f ((words k n).map T)), D3, some (.lst .o (pre.map T)), p, q] = .ok [some (.int k), D1, some (.lst f ((words k n).map T)), D3, some (.lst .o (pre.map T)), some (T u), q] := rfl
    have hc := compExt c (ro := false) k (by omega) D1 (some (.lst f ((words k n).map T))) D3 (some (.lst .o (pre.map T))) u (hwl0 u hu) q f_words_of_e3 rfl
    have hr : isRg (k : Int) = true := isRg_nat (by omega)
    have ht : ((k : Int)).toNat = k := rfl
    have hx := jExt_f (i := 4) (f := .o) (ys := (ext k u).map T) (e := [some (.int k), D1, some (.lst f ((words k n).map T)), D3, some (.lst .o (pre.map T)), some (T u), q]) (xs := pre.map T) (by simp) (by rw [List.length_map, List.length_map]; rw [List.nil_append] at hl; unfold line; omega)
    refine ⟨[some (.int k), D1, some (.lst f ((words k n).map T)), D3, some (.lst .o ((pre ++ ext k u).map T)), some (T u), q], ?_, _, _, rfl⟩
    rw [stepF_ok _ hst]
    have hn1 : ("extend" != "update") = true := by decide
    simp only [execs_cons, execs_nil, asg_, augv_, jAug0_ok, ex_, ret_, if_, for_, whl_, jTest_ok, jTest2_ok, brk_, cnt_, pass_, jSt_ok, jAsg_ok, jAug3_ok, jAug2_ok, jEx_ok, jRet_ok, jIf2_t, jIf2_f, jIf_ok, jSeq_nx, jSeq_ret, jSeq_brk, jSeq_cnt, jFor_ok, rng_, jRng_1, jRng_2, set_var, set_tup, bind_one, augI_add, augI_sub, lit_, var_, kVar_flat, kVar_pk, bin_, kBin1_ok, kBin2_ok, kVal_ok, kBl_ok, cmp_, kCmp1_ok, kCmp2_ok, chain_, kCh0_ok, kCh1_ok, kCh2_t, kCh2_f, kCh3_ok, neg_, kNeg_ok, not_, kNot_ok, kNot2_ok, isN_, kIsN_ok, notN_, kNotN_ok, and_, kAnd_ok, kAnd2_t, kAnd2_f, or_, kOr_ok, kOr2_t, kOr2_f, ite_, kIte_ok, kIte2_t, kIte2_f, evs_cons, evs_nil, kCons_ok, kCons2_ok, tup_, kTup_ok, lst_, kLst_ok, bi_, kBi_ok, call_, kCall_ok, kCall2_ok, isi_, kIsi_ok, idxB_, kIdx0_t, kIdx_ok, kIdx2_ok, kTake_ok, take_flat, slc_, kSlc_ok, kSlc2_ok, kSlc3_T, kSlc3_L, evO_none, evO_some, kEnd_ok, comp_, roE, roL, roO, roI, out_ret, out_nx, len_T, len_L, int_I, tup_L, tup_T, tup_nil, bin_add, bin_sub, tru_bl, cmp_lt, cmp_le, cmp_gt, cmp_ge, cmp_eqI, cmp_neI, cmp_eqT, cmp_neT, cmp_eqLa, cmp_neLa, cmp_eqLs, own_T, own_La, own_tup, own_int, own_bl, own_non, own_k, own_s, own_g, Bool.not_false, Bool.not_true, Bool.or_true, Bool.true_or, Bool.or_false, Bool.false_or, Bool.and_true, Bool.true_and, Bool.and_false, Bool.false_and, if_true, if_false, Bool.false_eq_true, reduceIte, Int.reduceEq, Int.reduceLT, Int.reduceLE, Nat.reduceLT, Nat.reduceAdd, Nat.reduceSub, List.map_cons, List.map_nil, List.cons_append, List.nil_append, List.replicate, List.getElem?_cons_zero, List.getElem?_cons_succ, List.set, List.set_cons_zero, List.set_cons_succ, List.length_cons, List.length_nil, List.zip_cons_cons, List.zip_nil_right, List.foldl_cons, List.foldl_nil, List.all_cons, List.all_nil, decide_true, decide_false, Nat.zero_lt_succ, and_self, and_true, true_and, Int.ofNat_lt, Int.ofNat_le, eq_self, flL_cons, flL_nil, fl_int, fl_bl, fl_non, fl_str, fl_Tb, fl_Lab, fl_lI, fl_lT, fl_lLa, tup_0, tup_1, sh_o, sh_s, sh_g, sh_k, gv_o, gv_s, gv_g, gv_k, val_var, jValV_s, jValV_g, jValV_k, jValV_t, jValE_o, jValE_s, jValE_g, jValE_t, mutv_, jMut0_ok, jMut_a, jMut_e, settle_nl, val_np, isPath_call, isPath_bi, isPath_bin, isPath_lst, isPath_tup, isPath_slc, isPath_comp, isPath_meth, kVar_own, shareL_I, shareL_T, shareL_La, own_lI, own_lT, own_lLa, isL_l, isL_T, lent_sI, lent_sT, lent_sLa, lent_T, lent_La, lent_int, lent_bl, lent_non, lent_str, lent_lI, lent_lT, lent_lLa, isO_int, isB_bl, isB_non, isN_int, isN_non, cmp_neB, cmp_eqN, cmp_eqTs, cmp_neTs, cmp_neLas, len0, len1, f_words_of_l2, hn1, hr, ht, hc, hx, List.map_append]
  have hA : ∀ d : D, apartFrom [(2, d)] (asgS (.forS (.var 5) (.val (.var 2)) f_words_of_l2)) = true := fun d => rfl
  rcases hf with rfl | rfl
  · obtain ⟨e', h1, p, q, rfl⟩ := loop [(2, .lst .o ((words k n).map T))] (fun env h => stands_at h)
    refine ⟨p, q, ?_⟩
    simp only [execs_cons, execs_nil, asg_, augv_, jAug0_ok, ex_, ret_, if_, for_, whl_, jTest_ok, jTest2_ok, brk_, cnt_, pass_, jSt_ok, jAsg_ok, jAug3_ok, jAug2_ok, jEx_ok, jRet_ok, jIf2_t, jIf2_f, jIf_ok, jSeq_nx, jSeq_ret, jSeq_brk, jSeq_cnt, jFor_ok, rng_, jRng_1, jRng_2, set_var, set_tup, bind_one, augI_add, augI_sub, lit_, var_, kVar_flat, kVar_pk, bin_, kBin1_ok, kBin2_ok, kVal_ok, kBl_ok, cmp_, kCmp1_ok, kCmp2_ok, chain_, kCh0_ok, kCh1_ok, kCh2_t, kCh2_f, kCh3_ok, neg_, kNeg_ok, not_, kNot_ok, kNot2_ok, isN_, kIsN_ok, notN_, kNotN_ok, and_, kAnd_ok, kAnd2_t, kAnd2_f, or_, kOr_ok, kOr2_t, kOr2_f, ite_, kIte_ok, kIte2_t, kIte2_f, evs_cons, evs_nil, kCons_ok, kCons2_ok, tup_, kTup_ok, lst_, kLst_ok, bi_, kBi_ok, call_, kCall_ok, kCall2_ok, isi_, kIsi_ok, idxB_, kIdx0_t, kIdx_ok, kIdx2_ok, kTake_ok, take_flat, slc_, kSlc_ok, kSlc2_ok, kSlc3_T, kSlc3_L, evO_none, evO_some, kEnd_ok, comp_, roE, roL, roO, roI, out_ret, out_nx, len_T, len_L, int_I, tup_L, tup_T, tup_nil, bin_add, bin_sub, tru_bl, cmp_lt, cmp_le, cmp_gt, cmp_ge, cmp_eqI, cmp_neI, cmp_eqT, cmp_neT, cmp_eqLa, cmp_neLa, cmp_eqLs, own_T, own_La, own_tup, own_int, own_bl, own_non, own_k, own_s, own_g, Bool.not_false, Bool.not_true, Bool.or_true, Bool.true_or, Bool.or_false, Bool.false_or, Bool.and_true, Bool.true_and, Bool.and_false, Bool.false_and, if_true, if_false, Bool.false_eq_true, reduceIte, Int.reduceEq, Int.reduceLT, Int.reduceLE, Nat.reduceLT, Nat.reduceAdd, Nat.reduceSub, List.map_cons, List.map_nil, List.cons_append, List.nil_append, List.replicate, List.getElem?_cons_zero, List.getElem?_cons_succ, List.set, List.set_cons_zero, List.set_cons_succ, List.length_cons, List.length_nil, List.zip_cons_cons, List.zip_nil_right, List.foldl_cons, List.foldl_nil, List.all_cons, List.all_nil, decide_true, decide_false, Nat.zero_lt_succ, and_self, and_true, true_and, Int.ofNat_lt, Int.ofNat_le, eq_self, flL_cons, flL_nil, fl_int, fl_bl, fl_non, fl_str, fl_Tb, fl_Lab, fl_lI, fl_lT, fl_lLa, tup_0, tup_1, sh_o, sh_s, sh_g, sh_k, gv_o, gv_s, gv_g, gv_k, val_var, jValV_s, jValV_g, jValV_k, jValV_t, jValE_o, jValE_s, jValE_g, jValE_t, mutv_, jMut0_ok, jMut_a, jMut_e, settle_nl, val_np, isPath_call, isPath_bi, isPath_bin, isPath_lst, isPath_tup, isPath_slc, isPath_comp, isPath_meth, kVar_own, shareL_I, shareL_T, shareL_La, own_lI, own_lT, own_lLa, isL_l, isL_T, lent_sI, lent_sT, lent_sLa, lent_T, lent_La, lent_int, lent_bl, lent_non, lent_str, lent_lI, lent_lT, lent_lLa, isO_int, isB_bl, isB_non, isN_int, isN_non, cmp_neB, cmp_eqN, cmp_eqTs, cmp_neTs, cmp_neLas, len0, len1, f_words_of_l1, jValV_own, jFor_w _ (hA _), h1]
  · obtain ⟨e', h1, p, q, rfl⟩ := loop [] (fun env h => rfl)
    refine ⟨p, q, ?_⟩
    simp only [execs_cons, execs_nil, asg_, augv_, jAug0_ok, ex_, ret_, if_, for_, whl_, jTest_ok, jTest2_ok, brk_, cnt_, pass_, jSt_ok, jAsg_ok, jAug3_ok, jAug2_ok, jEx_ok, jRet_ok, jIf2_t, jIf2_f, jIf_ok, jSeq_nx, jSeq_ret, jSeq_brk, jSeq_cnt, jFor_ok, rng_, jRng_1, jRng_2, set_var, set_tup, bind_one, augI_add, augI_sub, lit_, var_, kVar_flat, kVar_pk, bin_, kBin1_ok, kBin2_ok, kVal_ok, kBl_ok, cmp_, kCmp1_ok, kCmp2_ok, chain_, kCh0_ok, kCh1_ok, kCh2_t, kCh2_f, kCh3_ok, neg_, kNeg_ok, not_, kNot_ok, kNot2_ok, isN_, kIsN_ok, notN_, kNotN_ok, and_, kAnd_ok, kAnd2_t, kAnd2_f, or_, kOr_ok, kOr2_t, kOr2_f, ite_, kIte_ok, kIte2_t, kIte2_f, evs_cons, evs_nil, kCons_ok, kCons2_ok, tup_, kTup_ok, lst_, kLst_ok, bi_, kBi_ok, call_, kCall_ok, kCall2_ok, isi_, kIsi_ok, idxB_, kIdx0_t, kIdx_ok, kIdx2_ok, kTake_ok, take_flat, slc_, kSlc_ok, kSlc2_ok, kSlc3_T, kSlc3_L, evO_none, evO_some, kEnd_ok, comp_, roE, roL, roO, roI, out_ret, out_nx, len_T, len_L, int_I, tup_L, tup_T, tup_nil, bin_add, bin_sub, tru_bl, cmp_lt, cmp_le, cmp_gt, cmp_ge, cmp_eqI, cmp_neI, cmp_eqT, cmp_neT, cmp_eqLa, cmp_neLa, cmp_eqLs, own_T, own_La, own_tup, own_int, own_bl, own_non, own_k, own_s, own_g, Bool.not_false, Bool.not_true, Bool.or_true, Bool.true_or, Bool.or_false, Bool.false_or, Bool.and_true, Bool.true_and, Bool.and_false, Bool.false_and, if_true, if_false, Bool.false_eq_true, reduceIte, Int.reduceEq, Int.reduceLT, Int.reduceLE, Nat.reduceLT, Nat.reduceAdd, Nat.reduceSub, List.map_cons, List.map_nil, List.cons_append, List.nil_append, List.replicate, List.getElem?_cons_zero, List.getElem?_cons_succ, List.set, List.set_cons_zero, List.set_cons_succ, List.length_cons, List.length_nil, List.zip_cons_cons, List.zip_nil_right, List.foldl_cons, List.foldl_nil, List.all_cons, List.all_nil, decide_true, decide_false, Nat.zero_lt_succ, and_self, and_true, true_and, Int.ofNat_lt, Int.ofNat_le, eq_self, flL_cons, flL_nil, fl_int, fl_bl, fl_non, fl_str, fl_Tb, fl_Lab, fl_lI, fl_lT, fl_lLa, tup_0, tup_1, sh_o, sh_s, sh_g, sh_k, gv_o, gv_s, gv_g, gv_k, val_var, jValV_s, jValV_g, jValV_k, jValV_t, jValE_o, jValE_s, jValE_g, jValE_t, mutv_, jMut0_ok, jMut_a, jMut_e, settle_nl, val_np, isPath_call, isPath_bi, isPath_bin, isPath_lst, isPath_tup, isPath_slc, isPath_comp, isPath_meth, kVar_own, shareL_I, shareL_T, shareL_La, own_lI, own_lT, own_lLa, isL_l, isL_T, lent_sI, lent_sT, lent_sLa, lent_T, lent_La, lent_int, lent_bl, lent_non, lent_str, lent_lI, lent_lT, lent_lLa, isO_int, isB_bl, isB_non, isN_int, isN_non, cmp_neB, cmp_eqN, cmp_eqTs, cmp_neTs, cmp_neLas, len0, len1, f_words_of_l1, h1]
theorem words_of [H_words_of P] (n : Nat) (k m : Nat) (hk : k ≤ 4) (hm : m ≤ 9) : (C P (n + 1)).call "words_of" [.int k, .int m] = .ok (.lst .s ((words k m).map T)) := by
  rw [c_of H_words_of.h n _ rfl]
  have hr : isRg (m : Int) = true := isRg_nat (by omega)
  have ht : ((m : Int)).toNat = m := rfl
  obtain ⟨e', h1, f, o3, o4, o5, o6, hf, rfl⟩ := forLoop_iter (w := []) (step := stepF (C P n) (.var 3) f_words_of_l1) (fun i env => ∃ f o3 o4 o5 o6, (f = .o ∨ f = .s) ∧ env = [some (.int k), some (.int m), some (.lst f ((words k i).map T)), o3, o4, o5, o6]) (rangeL ((0 : Nat) : Int) m) 0
    [some (.int k), some (.int m), some (.lst .o [T []]), none, none, none, none] ⟨.o, none, none, none, none, .inl rfl, rfl⟩ (fun _ _ _ => rfl) (by
      intro i x env hx ⟨f, o3, o4, o5, o6, hf, he⟩
      subst he
      have hi : i < m := by
        have := (List.getElem?_eq_some_iff.mp hx).1
        rw [rangeL_range, List.length_map, List.length_range'] at this
        exact this
      obtain ⟨p, q, h⟩ := inW (C P n) k hk (0 + i) (by omega) (some (.int m)) (some x) f hf o4 o5 o6
      have hst : setTg (C P n) (.var 3) x [some (.int k), some (.int m), some (.lst f ((words k (0 + i)).map T)), o3, o4, o5, o6] = .ok [some (.int k), some (.int m), some (.lst f ((words k (0 + i)).map T)), some x, o4, o5, o6] := rfl
      exact ⟨_, (stepF_ok _ hst).trans h, .s, _, _, _, _, .inr rfl, rfl⟩)
  have hl : (rangeL ((0 : Nat) : Int) m).length = m := by rw [rangeL_range, List.length_map, List.length_range']
  rw [hl, Nat.zero_add] at h1
  have h1' : forLoop [] (stepF (C P n) (.var 3) f_words_of_l1) (rangeL 0 m) [some (.int k), some (.int m), some (.lst .o [T []]), none, none, none, none] = _ := h1
  rcases hf with rfl | rfl
  · simp only [execs_cons, execs_nil, asg_, augv_, jAug0_ok, ex_, ret_, if_, for_, whl_, jTest_ok, jTest2_ok, brk_, cnt_, pass_, jSt_ok, jAsg_ok, jAug3_ok, jAug2_ok, jEx_ok, jRet_ok, jIf2_t, jIf2_f, jIf_ok, jSeq_nx, jSeq_ret, jSeq_brk, jSeq_cnt, jFor_ok, rng_, jRng_1, jRng_2, set_var, set_tup, bind_one, augI_add, augI_sub, lit_, var_, kVar_flat, kVar_pk, bin_, kBin1_ok, kBin2_ok, kVal_ok, kBl_ok, cmp_, kCmp1_ok, kCmp2_ok, chain_, kCh0_ok, kCh1_ok, kCh2_t, kCh2_f, kCh3_ok, neg_, kNeg_ok, not_, kNot_ok, kNot2_ok, isN_, kIsN_ok, notN_, kNotN_ok, and_, kAnd_ok, kAnd2_t, kAnd2_f, or_, kOr_ok, kOr2_t, kOr2_f, ite_, kIte_ok, kIte2_t, kIte2_f, evs_cons, evs_nil, kCons_ok, kCons2_ok, tup_, kTup_ok, lst_, kLst_ok, bi_, kBi_ok, call_, kCall_ok, kCall2_ok, isi_, kIsi_ok, idxB_, kIdx0_t, kIdx_ok, kIdx2_ok, kTake_ok, take_flat, slc_, kSlc_ok, kSlc2_ok, kSlc3_T, kSlc3_L, evO_none, evO_some, kEnd_ok, comp_, roE, roL, roO, roI, out_ret, out_nx, len_T, len_L, int_I, tup_L, tup_T, tup_nil, bin_add, bin_sub, tru_bl, cmp_lt, cmp_le, cmp_gt, cmp_ge, cmp_eqI, cmp_neI, cmp_eqT, cmp_neT, cmp_eqLa, cmp_neLa, cmp_eqLs, own_T, own_La, own_tup, own_int, own_bl, own_non, own_k, own_s, own_g, Bool.not_false, Bool.not_true, Bool.or_true, Bool.true_or, Bool.or_false, Bool.false_or, Bool.and_true, Bool.true_and, Bool.and_false, Bool.false_and, if_true, if_false, Bool.false_eq_true, reduceIte, Int.reduceEq, Int.reduceLT, Int.reduceLE, Nat.reduceLT, Nat.reduceAdd, Nat.reduceSub, List.map_cons, List.map_nil, List.cons_append, List.nil_append, List.replicate, List.getElem?_cons_zero, List.getElem?_cons_succ, List.set, List.set_cons_zero, List.set_cons_succ, List.length_cons, List.length_nil, List.zip_cons_cons, List.zip_nil_right, List.foldl_cons, List.foldl_nil, List.all_cons, List.all_nil, decide_true, decide_false, Nat.zero_lt_succ, and_self, and_true, true_and, Int.ofNat_lt, Int.ofNat_le, eq_self, flL_cons, flL_nil, fl_int, fl_bl, fl_non, fl_str, fl_Tb, fl_Lab, fl_lI, fl_lT, fl_lLa, tup_0, tup_1, sh_o, sh_s, sh_g, sh_k, gv_o, gv_s, gv_g, gv_k, val_var, jValV_s, jValV_g, jValV_k, jValV_t, jValE_o, jValE_s, jValE_g, jValE_t, mutv_, jMut0_ok, jMut_a, jMut_e, settle_nl, val_np, isPath_call, isPath_bi, isPath_bin, isPath_lst, isPath_tup, isPath_slc, isPath_comp, isPath_meth, kVar_own, shareL_I, shareL_T, shareL_La, own_lI, own_lT, own_lLa, isL_l, isL_T, lent_sI, lent_sT, lent_sLa, lent_T, lent_La, lent_int, lent_bl, lent_non, lent_str, lent_lI, lent_lT, lent_lLa, isO_int, isB_bl, isB_non, isN_int, isN_non, cmp_neB, cmp_eqN, cmp_eqTs, cmp_neTs, cmp_neLas, len0, len1, f_words_of, hr, ht, h1']
  · simp only [execs_cons, execs_nil, asg_, augv_, jAug0_ok, ex_, ret_, if_, for_, whl_, jTest_ok, jTest2_ok, brk_, cnt_, pass_, jSt_ok, jAsg_ok, jAug3_ok, jAug2_ok, jEx_ok, jRet_ok, jIf2_t, jIf2_f, jIf_ok, jSeq_nx, jSeq_ret, jSeq_brk, jSeq_cnt, jFor_ok, rng_, jRng_1, jRng_2, set_var, set_tup, bind_one, augI_add, augI_sub, lit_, var_, kVar_flat, kVar_pk, bin_, kBin1_ok, kBin2_ok, kVal_ok, kBl_ok, cmp_, kCmp1_ok, kCmp2_ok, chain_, kCh0_ok, kCh1_ok, kCh2_t, kCh2_f, kCh3_ok, neg_, kNeg_ok, not_, kNot_ok, kNot2_ok, isN_, kIsN_ok, notN_, kNotN_ok, and_, kAnd_ok, kAnd2_t, kAnd2_f, or_, kOr_ok, kOr2_t, kOr2_f, ite_, kIte_ok, kIte2_t, kIte2_f, evs_cons, evs_nil, kCons_ok, kCons2_ok, tup_, kTup_ok, lst_, kLst_ok, bi_, kBi_ok, call_, kCall_ok, kCall2_ok, isi_, kIsi_ok, idxB_, kIdx0_t, kIdx_ok, kIdx2_ok, kTake_ok, take_flat, slc_, kSlc_ok, kSlc2_ok, kSlc3_T, kSlc3_L, evO_none, evO_some, kEnd_ok, comp_, roE, roL, roO, roI, out_ret, out_nx, len_T, len_L, int_I, tup_L, tup_T, tup_nil, bin_add, bin_sub, tru_bl, cmp_lt, cmp_le, cmp_gt, cmp_ge, cmp_eqI, cmp_neI, cmp_eqT, cmp_neT, cmp_eqLa, cmp_neLa, cmp_eqLs, own_T, own_La, own_tup, own_int, own_bl, own_non, own_k, own_s, own_g, Bool.not_false, Bool.not_true, Bool.or_true, Bool.true_or, Bool.or_false, Bool.false_or, Bool.and_true, Bool.true_and, Bool.and_false, Bool.false_and, if_true, if_false, Bool.false_eq_true, reduceIte, Int.reduceEq, Int.reduceLT, Int.reduceLE, Nat.reduceLT, Nat.reduceAdd, Nat.reduceSub, List.map_cons, List.map_nil, List.cons_append, List.nil_append, List.replicate, List.getElem?_cons_zero, List.getElem?_cons_succ, List.set, List.set_cons_zero, List.set_cons_succ, List.length_cons, List.length_nil, List.zip_cons_cons, List.zip_nil_right, List.foldl_cons, List.foldl_nil, List.all_cons, List.all_nil, decide_true, decide_false, Nat.zero_lt_succ, and_self, and_true, true_and, Int.ofNat_lt, Int.ofNat_le, eq_self, flL_cons, flL_nil, fl_int, fl_bl, fl_non, fl_str, fl_Tb, fl_Lab, fl_lI, fl_lT, fl_lLa, tup_0, tup_1, sh_o, sh_s, sh_g, sh_k, gv_o, gv_s, gv_g, gv_k, val_var, jValV_s, jValV_g, jValV_k, jValV_t, jValE_o, jValE_s, jValE_g, jValE_t, mutv_, jMut0_ok, jMut_a, jMut_e, settle_nl, val_np, isPath_call, isPath_bi, isPath_bin, isPath_lst, isPath_tup, isPath_slc, isPath_comp, isPath_meth, kVar_own, shareL_I, shareL_T, shareL_La, own_lI, own_lT, own_lLa, isL_l, isL_T, lent_sI, lent_sT, lent_sLa, lent_T, lent_La, lent_int, lent_bl, lent_non, lent_str, lent_lI, lent_lT, lent_lLa, isO_int, isB_bl, isB_non, isN_int, isN_non, cmp_neB, cmp_eqN, cmp_eqTs, cmp_neTs, cmp_neLas, len0, len1, f_words_of, hr, ht, h1']
/-- the loops of lassos_of and _law_all, whatever the test is -/
theorem nest (c : Ctx) (nm : String) (B4 B3 B2 B1 : List S) (k : Nat) (hk : k ≤ 4) (s t : Nat) (hs : s ≤ 8) (ht : t ≤ 9) (hlen : (lassos k s t).length ≤ 1000000)
    (hw : ∀ m : Nat, m ≤ 9 → c.call nm [.int k, .int m] = .ok (.lst .s ((words k m).map T)))
    (h3 : B3 = [.forS (.var 7) (.val (.call nm [(.var 0), (.var 6)])) B4])
    (h2 : B2 = [.forS (.var 6) (.rng [(.bin .add (.var 1) (.lit (.int 1)))]) B3])
    (h1 : B1 = [.forS (.var 5) (.val (.call nm [(.var 0), (.var 4)])) B2])
    (h4 : ∀ (acc : List (List Int × List Int)) (sz st : Nat) (b l : List Int), acc.length ≤ 1000000 → 0 < l.length → l.length ≤ 9 → b.length ≤ 9 → execs c B4 [some (.int k), some (.int s), some (.int t), some (.lst .o (acc.map LaP)), some (.int sz), some (T l), some (.int st), some (T b)] =
      .ok (.nx, [some (.int k), some (.int s), some (.int t), some (.lst .o ((acc ++ if isL b l = true then [(b, l)] else []).map LaP)), some (.int sz), some (T l), some (.int st), some (T b)])) :
    ∃ o4 o5 o6 o7, forLoop [] (stepF c (.var 4) B1) (rangeL 1 t) [some (.int k), some (.int s), some (.int t), some (.lst .o []), none, none, none, none] = .ok (.nx, [some (.int k), some (.int s), some (.int t), some (.lst .o ((lassos k s t).map LaP)), o4, o5, o6, o7]) := by
  subst h3 h2 h1
  -- words as beginnings
  have l4 : ∀ (acc : List (List Int × List Int)) (sz st : Nat) (l : List Int) (o7 : Option D), 0 < l.length → l.length ≤ 9 → st ≤ 9 → (acc ++ (words k st).flatMap fun b => if isL b l = true then [(b, l)] else []).length ≤ 1000000 →
      ∃ p, execs c [.forS (.var 7) (.val (.call nm [(.var 0), (.var 6)])) B4] [some (.int k), some (.int s), some (.int t), some (.lst .o (acc.map LaP)), some (.int sz), some (T l), some (.int st), o7] =
        .ok (.nx, [some (.int k), some (.int s), some (.int t), some (.lst .o ((acc ++ (words k st).flatMap fun b => if isL b l = true then [(b, l)] else []).map LaP)), some (.int sz), some (T l), some (.int st), p]) := by
    intro acc sz st l o7 q1 q2 q3 q4
    obtain ⟨e', r1, p, rfl⟩ := forLoop_acc (w := []) (step := stepF c (.var 7) B4) (g := T) (F := fun b => if isL b l = true then [(b, l)] else []) (I := fun acc env => ∃ p, env = [some (.int k), some (.int s), some (.int t), some (.lst .o (acc.map LaP)), some (.int sz), some (T l), some (.int st), p]) (fun _ _ _ => rfl) (words k st) acc _ ⟨o7, rfl⟩ (by
      intro b hb pre env hl ⟨p, he⟩
      subst he
      have hst : setTg c (.var 7) (T b) [some (.int k), some (.int s), some (.int t), some (.lst .o (pre.map LaP)), some (.int sz), some (T l), some (.int st), p] = .ok [some (.int k), some (.int s), some (.int t), some (.lst .o (pre.map LaP)), some (.int sz), some (T l), some (.int st), some (T b)] := rfl
      exact ⟨_, (stepF_ok _ hst).trans (h4 pre sz st b l (by omega) q1 q2 (by have := (mem_words.mp hb).1; omega)), _, rfl⟩)
    refine ⟨p, ?_⟩
    have hws := hw st q3
    simp only [execs_cons, execs_nil, asg_, augv_, jAug0_ok, ex_, ret_, if_, for_, whl_, jTest_ok, jTest2_ok, brk_, cnt_, pass_, jSt_ok, jAsg_ok, jAug3_ok, jAug2_ok, jEx_ok, jRet_ok, jIf2_t, jIf2_f, jIf_ok, jSeq_nx, jSeq_ret, jSeq_brk, jSeq_cnt, jFor_ok, rng_, jRng_1, jRng_2, set_var, set_tup, bind_one, augI_add, augI_sub, lit_, var_, kVar_flat, kVar_pk, bin_, kBin1_ok, kBin2_ok, kVal_ok, kBl_ok, cmp_, kCmp1_ok, kCmp2_ok, chain_, kCh0_ok, kCh1_ok, kCh2_t, kCh2_f, kCh3_ok, neg_, kNeg_ok, not_, kNot_ok, kNot2_ok, isN_, kIsN_ok, notN_, kNotN_ok, and_, kAnd_ok, kAnd2_t, kAnd2_f, or_, kOr_ok, kOr2_t, kOr2_f, ite_, kIte_ok, kIte2_t, kIte2_f, evs_cons, evs_nil, kCons_ok, kCons2_ok, tup_, kTup_ok, lst_, kLst_ok, bi_, kBi_ok, call_, kCall_ok, kCall2_ok, isi_, kIsi_ok, idxB_, kIdx0_t, kIdx_ok, kIdx2_ok, kTake_ok, take_flat, slc_, kSlc_ok, kSlc2_ok, kSlc3_T, kSlc3_L, evO_none, evO_some, kEnd_ok, comp_, roE, roL, roO, roI, out_ret, out_nx, len_T, len_L, int_I, tup_L, tup_T, tup_nil, bin_add, bin_sub, tru_bl, cmp_lt, cmp_le, cmp_gt, cmp_ge, cmp_eqI, cmp_neI, cmp_eqT, cmp_neT, cmp_eqLa, cmp_neLa, cmp_eqLs, own_T, own_La, own_tup, own_int, own_bl, own_non, own_k, own_s, own_g, Bool.not_false, Bool.not_true, Bool.or_true, Bool.true_or, Bool.or_false, Bool.false_or, Bool.and_true, Bool.true_and, Bool.and_false, Bool.false_and, if_true, if_false, Bool.false_eq_true, reduceIte, Int.reduceEq, Int.reduceLT, Int.reduceLE, Nat.reduceLT, Nat.reduceAdd, Nat.reduceSub, List.map_cons, List.map_nil, List.cons_append, List.nil_append, List.replicate, List.getElem?_cons_zero, List.getElem?_cons_succ, List.set, List.set_cons_zero, List.set_cons_succ, List.length_cons, List.length_nil, List.zip_cons_cons, List.zip_nil_right, List.foldl_cons, List.foldl_nil, List.all_cons, List.all_nil, decide_true, decide_false, Nat.zero_lt_succ, and_self, and_true, true_and, Int.ofNat_lt, Int.ofNat_le, eq_self, flL_cons, flL_nil, fl_int, fl_bl, fl_non, fl_str, fl_Tb, fl_Lab, fl_lI, fl_lT, fl_lLa, tup_0, tup_1, sh_o, sh_s, sh_g, sh_k, gv_o, gv_s, gv_g, gv_k, val_var, jValV_s, jValV_g, jValV_k, jValV_t, jValE_o, jValE_s, jValE_g, jValE_t, mutv_, jMut0_ok, jMut_a, jMut_e, settle_nl, val_np, isPath_call, isPath_bi, isPath_bin, isPath_lst, isPath_tup, isPath_slc, isPath_comp, isPath_meth, kVar_own, shareL_I, shareL_T, shareL_La, own_lI, own_lT, own_lLa, isL_l, isL_T, lent_sI, lent_sT, lent_sLa, lent_T, lent_La, lent_int, lent_bl, lent_non, lent_str, lent_lI, lent_lT, lent_lLa, isO_int, isB_bl, isB_non, isN_int, isN_non, cmp_neB, cmp_eqN, cmp_eqTs, cmp_neTs, cmp_neLas, len0, len1, hws, r1]
  -- sizes of beginnings
  have l3 : ∀ (acc : List (List Int × List Int)) (sz : Nat) (l : List Int) (o6 o7 : Option D), 0 < l.length → l.length ≤ 9 → (acc ++ (List.range' 0 (s + 1)).flatMap fun st => (words k st).flatMap fun b => if isL b l = true then [(b, l)] else []).length ≤ 1000000 →
      ∃ p q, execs c [.forS (.var 6) (.rng [(.bin .add (.var 1) (.lit (.int 1)))]) [.forS (.var 7) (.val (.call nm [(.var 0), (.var 6)])) B4]] [some (.int k), some (.int s), some (.int t), some (.lst .o (acc.map LaP)), some (.int sz), some (T l), o6, o7] =
        .ok (.nx, [some (.int k), some (.int s), some (.int t), some (.lst .o ((acc ++ (List.range' 0 (s + 1)).flatMap fun st => (words k st).flatMap fun b => if isL b l = true then [(b, l)] else []).map LaP)), some (.int sz), some (T l), p, q]) := by
    intro acc sz l o6 o7 q1 q2 q4
    obtain ⟨e', r1, p, q, rfl⟩ := forLoop_acc (w := []) (step := stepF c (.var 6) [.forS (.var 7) (.val (.call nm [(.var 0), (.var 6)])) B4]) (g := fun d : Nat => D.int (d : Int)) (F := fun st => (words k st).flatMap fun b => if isL b l = true then [(b, l)] else []) (I := fun acc env => ∃ p q, env = [some (.int k), some (.int s), some (.int t), some (.lst .o (acc.map LaP)), some (.int sz), some (T l), p, q]) (fun _ _ _ => rfl) (List.range' 0 (s + 1)) acc _ ⟨o6, o7, rfl⟩ (by
      intro st hs' pre env hl ⟨p, q, he⟩
      subst he
      rw [List.mem_range'_1] at hs'
      have hst : setTg c (.var 6) (.int st) [some (.int k), some (.int s), some (.int t), some (.lst .o (pre.map LaP)), some (.int sz), some (T l), p, q] = .ok [some (.int k), some (.int s), some (.int t), some (.lst .o (pre.map LaP)), some (.int sz), some (T l), some (.int st), q] := rfl
      obtain ⟨q', h⟩ := l4 pre sz st l q q1 q2 (by omega) (by rw [List.length_append]; omega)
      exact ⟨_, (stepF_ok _ hst).trans h, _, _, rfl⟩)
    refine ⟨p, q, ?_⟩
    have hr : isRg ((s : Int) + 1) = true := isRg_nat (n := s + 1) (by omega)
    have hn : ((s : Int) + 1).toNat = s + 1 := by omega
    have e0 : rangeL 0 (s + 1) = (List.range' 0 (s + 1)).map fun d : Nat => D.int (d : Int) := rangeL_range 0 (s + 1)
    simp only [execs_cons, execs_nil, asg_, augv_, jAug0_ok, ex_, ret_, if_, for_, whl_, jTest_ok, jTest2_ok, brk_, cnt_, pass_, jSt_ok, jAsg_ok, jAug3_ok, jAug2_ok, jEx_ok, jRet_ok, jIf2_t, jIf2_f, jIf_ok, jSeq_nx, jSeq_ret, jSeq_brk, jSeq_cnt, jFor_ok, rng_, jRng_1, jRng_2, set_var, set_tup, bind_one, augI_add, augI_sub, lit_, var_, kVar_flat, kVar_pk, bin_, kBin1_ok, kBin2_ok, kVal_ok, kBl_ok, cmp_, kCmp1_ok, kCmp2_ok, chain_, kCh0_ok, kCh1_ok, kCh2_t, kCh2_f, kCh3_ok, neg_, kNeg_ok, not_, kNot_ok, kNot2_ok, isN_, kIsN_ok, notN_, kNotN_ok, and_, kAnd_ok, kAnd2_t, kAnd2_f, or_, kOr_ok, kOr2_t, kOr2_f, ite_, kIte_ok, kIte2_t, kIte2_f, evs_cons, evs_nil, kCons_ok, kCons2_ok, tup_, kTup_ok, lst_, kLst_ok, bi_, kBi_ok, call_, kCall_ok, kCall2_ok, isi_, kIsi_ok, idxB_, kIdx0_t, kIdx_ok, kIdx2_ok, kTake_ok, take_flat, slc_, kSlc_ok, kSlc2_ok, kSlc3_T, kSlc3_L, evO_none, evO_some, kEnd_ok, comp_, roE, roL, roO, roI, out_ret, out_nx, len_T, len_L, int_I, tup_L, tup_T, tup_nil, bin_add, bin_sub, tru_bl, cmp_lt, cmp_le, cmp_gt, cmp_ge, cmp_eqI, cmp_neI, cmp_eqT, cmp_neT, cmp_eqLa, cmp_neLa, cmp_eqLs, own_T, own_La, own_tup, own_int, own_bl, own_non, own_k, own_s, own_g, Bool.not_false, Bool.not_true, Bool.or_true, Bool.true_or, Bool.or_false, Bool.false_or, Bool.and_true, Bool.true_and, Bool.and_false, Bool.false_and, if_true, if_false, Bool.false_eq_true, reduceIte, Int.reduceEq, Int.reduceLT, Int.reduceLE, Nat.reduceLT, Nat.reduceAdd, Nat.reduceSub, List.map_cons, List.map_nil, List.cons_append, List.nil_append, List.replicate, List.getElem?_cons_zero, List.getElem?_cons_succ, List.set, List.set_cons_zero, List.set_cons_succ, List.length_cons, List.length_nil, List.zip_cons_cons, List.zip_nil_right, List.foldl_cons, List.foldl_nil, List.all_cons, List.all_nil, decide_true, decide_false, Nat.zero_lt_succ, and_self, and_true, true_and, Int.ofNat_lt, Int.ofNat_le, eq_self, flL_cons, flL_nil, fl_int, fl_bl, fl_non, fl_str, fl_Tb, fl_Lab, fl_lI, fl_lT, fl_lLa, tup_0, tup_1, sh_o, sh_s, sh_g, sh_k, gv_o, gv_s, gv_g, gv_k, val_var, jValV_s, jValV_g, jValV_k, jValV_t, jValE_o, jValE_s, jValE_g, jValE_t, mutv_, jMut0_ok, jMut_a, jMut_e, settle_nl, val_np, isPath_call, isPath_bi, isPath_bin, isPath_lst, isPath_tup, isPath_slc, isPath_comp, isPath_meth, kVar_own, shareL_I, shareL_T, shareL_La, own_lI, own_lT, own_lLa, isL_l, isL_T, lent_sI, lent_sT, lent_sLa, lent_T, lent_La, lent_int, lent_bl, lent_non, lent_str, lent_lI, lent_lT, lent_lLa, isO_int, isB_bl, isB_non, isN_int, isN_non, cmp_neB, cmp_eqN, cmp_eqTs, cmp_neTs, cmp_neLas, len0, len1, hr, hn, e0, r1]
  -- loops
  have l2 : ∀ (acc : List (List Int × List Int)) (sz : Nat) (o5 o6 o7 : Option D), 0 < sz → sz ≤ 9 → (acc ++ (words k sz).flatMap fun l => (List.range' 0 (s + 1)).flatMap fun st => (words k st).flatMap fun b => if isL b l = true then [(b, l)] else []).length ≤ 1000000 →
      ∃ p q r, execs c [.forS (.var 5) (.val (.call nm [(.var 0), (.var 4)])) [.forS (.var 6) (.rng [(.bin .add (.var 1) (.lit (.int 1)))]) [.forS (.var 7) (.val (.call nm [(.var 0), (.var 6)])) B4]]] [some (.int k), some (.int s), some (.int t), some (.lst .o (acc.map LaP)), some (.int sz), o5, o6, o7] =
        .ok (.nx, [some (.int k), some (.int s), some (.int t), some (.lst .o ((acc ++ (words k sz).flatMap fun l => (List.range' 0 (s + 1)).flatMap fun st => (words k st).flatMap fun b => if isL b l = true then [(b, l)] else []).map LaP)), some (.int sz), p, q, r]) := by
    intro acc sz o5 o6 o7 q1 q2 q4
    obtain ⟨e', r1, p, q, r, rfl⟩ := forLoop_acc (w := []) (step := stepF c (.var 5) [.forS (.var 6) (.rng [(.bin .add (.var 1) (.lit (.int 1)))]) [.forS (.var 7) (.val (.call nm [(.var 0), (.var 6)])) B4]]) (g := T) (F := fun l => (List.range' 0 (s + 1)).flatMap fun st => (words k st).flatMap fun b => if isL b l = true then [(b, l)] else []) (I := fun acc env => ∃ p q r, env = [some (.int k), some (.int s), some (.int t), some (.lst .o (acc.map LaP)), some (.int sz), p, q, r]) (fun _ _ _ => rfl) (words k sz) acc _ ⟨o5, o6, o7, rfl⟩ (by
      intro l hl' pre env hl ⟨p, q, r, he⟩
      subst he
      have hL := (mem_words.mp hl').1
      have hst : setTg c (.var 5) (T l) [some (.int k), some (.int s), some (.int t), some (.lst .o (pre.map LaP)), some (.int sz), p, q, r] = .ok [some (.int k), some (.int s), some (.int t), some (.lst .o (pre.map LaP)), some (.int sz), some (T l), q, r] := rfl
      obtain ⟨q', r', h⟩ := l3 pre sz l q r (by omega) (by omega) (by rw [List.length_append]; omega)
      exact ⟨_, (stepF_ok _ hst).trans h, _, _, _, rfl⟩)
    refine ⟨p, q, r, ?_⟩
    have hws := hw sz q2
    simp only [execs_cons, execs_nil, asg_, augv_, jAug0_ok, ex_, ret_, if_, for_, whl_, jTest_ok, jTest2_ok, brk_, cnt_, pass_, jSt_ok, jAsg_ok, jAug3_ok, jAug2_ok, jEx_ok, jRet_ok, jIf2_t, jIf2_f, jIf_ok, jSeq_nx, jSeq_ret, jSeq_brk, jSeq_cnt, jFor_ok, rng_, jRng_1, jRng_2, set_var, set_tup, bind_one, augI_add, augI_sub, lit_, var_, kVar_flat, kVar_pk, bin_, kBin1_ok, kBin2_ok, kVal_ok, kBl_ok, cmp_, kCmp1_ok, kCmp2_ok, chain_, kCh0_ok, kCh1_ok, kCh2_t, kCh2_f, kCh3_ok, neg_, kNeg_ok, not_, kNot_ok, kNot2_ok, isN_, kIsN_ok, notN_, kNotN_ok, and_, kAnd_ok, kAnd2_t, kAnd2_f, or_, kOr_ok, kOr2_t, kOr2_f, ite_, kIte_ok, kIte2_t, kIte2_f, evs_cons, evs_nil, kCons_ok, kCons2_ok, tup_, kTup_ok, lst_, kLst_ok, bi_, kBi_ok, call_, kCall_ok, kCall2_ok, isi_, kIsi_ok, idxB_, kIdx0_t, kIdx_ok, kIdx2_ok, kTake_ok, take_flat, slc_, kSlc_ok, kSlc2_ok, kSlc3_T, kSlc3_L, evO_none, evO_some, kEnd_ok, comp_, roE, roL, roO, roI, out_ret, out_nx, len_T, len_L, int_I, tup_L, tup_T, tup_nil, bin_add, bin_sub, tru_bl, cmp_lt, cmp_le, cmp_gt, cmp_ge, cmp_eqI, cmp_neI, cmp_eqT, cmp_neT, cmp_eqLa, cmp_neLa, cmp_eqLs, own_T, own_La, own_tup, own_int, own_bl, own_non, own_k, own_s, own_g, Bool.not_false, Bool.not_true, Bool.or_true, Bool.true_or, Bool.or_false, Bool.false_or, Bool.and_true, Bool.true_and, Bool.and_false, Bool.false_and, if_true, if_false, Bool.false_eq_true, reduceIte, Int.reduceEq, Int.reduceLT, Int.reduceLE, Nat.reduceLT, Nat.reduceAdd, Nat.reduceSub, List.map_cons, List.map_nil, List.cons_append, List.nil_append, List.replicate, List.getElem?_cons_zero, List.getElem?_cons_succ, List.set, List.set_cons_zero, List.set_cons_succ, List.length_cons, List.length_nil, List.zip_cons_cons, List.zip_nil_right, List.foldl_cons, List.foldl_nil, List.all_cons, List.all_nil, decide_true, decide_false, Nat.zero_lt_succ, and_self, and_true, true_and, Int.ofNat_lt, Int.ofNat_le, eq_self, flL_cons, flL_nil, fl_int, fl_bl, fl_non, fl_str, fl_Tb, fl_Lab, fl_lI, fl_lT, fl_lLa, tup_0, tup_1, sh_o, sh_s, sh_g, sh_k, gv_o, gv_s, gv_g, gv_k, val_var, jValV_s, jValV_g, jValV_k, jValV_t, jValE_o, jValE_s, jValE_g, jValE_t, mutv_, jMut0_ok, jMut_a, jMut_e, settle_nl, val_np, isPath_call, isPath_bi, isPath_bin, isPath_lst, isPath_tup, isPath_slc, isPath_comp, isPath_meth, kVar_own, shareL_I, shareL_T, shareL_La, own_lI, own_lT, own_lLa, isL_l, isL_T, lent_sI, lent_sT, lent_sLa, lent_T, lent_La, lent_int, lent_bl, lent_non, lent_str, lent_lI, lent_lT, lent_lLa, isO_int, isB_bl, isB_non, isN_int, isN_non, cmp_neB, cmp_eqN, cmp_eqTs, cmp_neTs, cmp_neLas, len0, len1, hws, r1]
  obtain ⟨e', r1, p, q, r, x, rfl⟩ := forLoop_acc (w := []) (step := stepF c (.var 4) [.forS (.var 5) (.val (.call nm [(.var 0), (.var 4)])) [.forS (.var 6) (.rng [(.bin .add (.var 1) (.lit (.int 1)))]) [.forS (.var 7) (.val (.call nm [(.var 0), (.var 6)])) B4]]]) (g := fun d : Nat => D.int (d : Int)) (F := fun sz => (words k sz).flatMap fun l => (List.range' 0 (s + 1)).flatMap fun st => (words k st).flatMap fun b => if isL b l = true then [(b, l)] else []) (I := fun acc env => ∃ p q r x, env = [some (.int k), some (.int s), some (.int t), some (.lst .o (acc.map LaP)), p, q, r, x]) (fun _ _ _ => rfl) (List.range' 1 t) [] [some (.int k), some (.int s), some (.int t), some (.lst .o []), none, none, none, none] ⟨none, none, none, none, rfl⟩ (by
    intro sz hsz pre env hl ⟨p, q, r, x, he⟩
    subst he
    rw [List.mem_range'_1] at hsz
    have hst : setTg c (.var 4) (.int sz) [some (.int k), some (.int s), some (.int t), some (.lst .o (pre.map LaP)), p, q, r, x] = .ok [some (.int k), some (.int s), some (.int t), some (.lst .o (pre.map LaP)), some (.int sz), q, r, x] := rfl
    obtain ⟨q', r', x', h⟩ := l2 pre sz q r x (by omega) (by omega) (by rw [List.length_append]; rw [List.nil_append] at hl; exact Nat.le_trans hl hlen)
    exact ⟨_, (stepF_ok _ hst).trans h, _, _, _, _, rfl⟩)
  refine ⟨p, q, r, x, ?_⟩
  have e0 : rangeL ((1 : Nat) : Int) t = (List.range' 1 t).map fun d : Nat => D.int (d : Int) := rangeL_range 1 t
  rw [show rangeL 1 t = rangeL ((1 : Nat) : Int) t from rfl, e0]
  exact r1
theorem lassos_of [H_words_of P] [H_least_loop P] [H_least_lasso P] [H_lassos_of P] (n : Nat) (k s t : Nat) (hk : k ≤ 4) (hs : s ≤ 8) (ht : t ≤ 9) (hlen : (lassos k s t).length ≤ 1000000) :
    (C P (n + 3)).call "lassos_of" [.int k, .int s, .int t] = .ok (.lst .s ((lassos k s t).map LaP)) := by
  rw [c_of H_lassos_of.h (n + 2) _ rfl]
  obtain ⟨o4, o5, o6, o7, h⟩ := nest (C P (n + 2)) "words_of" f_lassos_of_l4 f_lassos_of_l3 f_lassos_of_l2 f_lassos_of_l1 k hk s t hs ht hlen (fun m hm => words_of (n + 1) k m hk hm) rfl rfl rfl (by
    intro acc sz st b l ha q1 q2 q3
    have hc := least_lasso (P := P) n b l q1 (by omega) (by omega)
    have hI := isL_iff (b := b) q1
    by_cases hq : llasso b l = (b, l)
    · rw [decide_eq_true hq] at hI
      have e1 : (llasso b l).1 = b := by rw [hq]
      have e2 : (llasso b l).2 = l := by rw [hq]
      have hx := jApp_f (i := 3) (x := La b l) (e := [some (.int k), some (.int s), some (.int t), some (.lst .o (acc.map LaP)), some (.int sz), some (T l), some (.int st), some (T b)]) (xs := acc.map LaP) (by rw [List.length_map]; unfold line; omega)
      have hn1 : ("append" != "update") = true := by decide
      simp only [execs_cons, execs_nil, asg_, augv_, jAug0_ok, ex_, ret_, if_, for_, whl_, jTest_ok, jTest2_ok, brk_, cnt_, pass_, jSt_ok, jAsg_ok, jAug3_ok, jAug2_ok, jEx_ok, jRet_ok, jIf2_t, jIf2_f, jIf_ok, jSeq_nx, jSeq_ret, jSeq_brk, jSeq_cnt, jFor_ok, rng_, jRng_1, jRng_2, set_var, set_tup, bind_one, augI_add, augI_sub, lit_, var_, kVar_flat, kVar_pk, bin_, kBin1_ok, kBin2_ok, kVal_ok, kBl_ok, cmp_, kCmp1_ok, kCmp2_ok, chain_, kCh0_ok, kCh1_ok, kCh2_t, kCh2_f, kCh3_ok, neg_, kNeg_ok, not_, kNot_ok, kNot2_ok, isN_, kIsN_ok, notN_, kNotN_ok, and_, kAnd_ok, kAnd2_t, kAnd2_f, or_, kOr_ok, kOr2_t, kOr2_f, ite_, kIte_ok, kIte2_t, kIte2_f, evs_cons, evs_nil, kCons_ok, kCons2_ok, tup_, kTup_ok, lst_, kLst_ok, bi_, kBi_ok, call_, kCall_ok, kCall2_ok, isi_, kIsi_ok, idxB_, kIdx0_t, kIdx_ok, kIdx2_ok, kTake_ok, take_flat, slc_, kSlc_ok, kSlc2_ok, kSlc3_T, kSlc3_L, evO_none, evO_some, kEnd_ok, comp_, roE, roL, roO, roI, out_ret, out_nx, len_T, len_L, int_I, tup_L, tup_T, tup_nil, bin_add, bin_sub, tru_bl, cmp_lt, cmp_le, cmp_gt, cmp_ge, cmp_eqI, cmp_neI, cmp_eqT, cmp_neT, cmp_eqLa, cmp_neLa, cmp_eqLs, own_T, own_La, own_tup, own_int, own_bl, own_non, own_k, own_s, own_g, Bool.not_false, Bool.not_true, Bool.or_true, Bool.true_or, Bool.or_false, Bool.false_or, Bool.and_true, Bool.true_and, Bool.and_false, Bool.false_and, if_true, if_false, Bool.false_eq_true, reduceIte, Int.reduceEq, Int.reduceLT, Int.reduceLE, Nat.reduceLT, Nat.reduceAdd, Nat.reduceSub, List.map_cons, List.map_nil, List.cons_append, List.nil_append, List.replicate, List.getElem?_cons_zero, List.getElem?_cons_succ, List.set, List.set_cons_zero, List.set_cons_succ, List.length_cons, List.length_nil, List.zip_cons_cons, List.zip_nil_right, List.foldl_cons, List.foldl_nil, List.all_cons, List.all_nil, decide_true, decide_false, Nat.zero_lt_succ, and_self, and_true, true_and, Int.ofNat_lt, Int.ofNat_le, eq_self, flL_cons, flL_nil, fl_int, fl_bl, fl_non, fl_str, fl_Tb, fl_Lab, fl_lI, fl_lT, fl_lLa, tup_0, tup_1, sh_o, sh_s, sh_g, sh_k, gv_o, gv_s, gv_g, gv_k, val_var, jValV_s, jValV_g, jValV_k, jValV_t, jValE_o, jValE_s, jValE_g, jValE_t, mutv_, jMut0_ok, jMut_a, jMut_e, settle_nl, val_np, isPath_call, isPath_bi, isPath_bin, isPath_lst, isPath_tup, isPath_slc, isPath_comp, isPath_meth, kVar_own, shareL_I, shareL_T, shareL_La, own_lI, own_lT, own_lLa, isL_l, isL_T, lent_sI, lent_sT, lent_sLa, lent_T, lent_La, lent_int, lent_bl, lent_non, lent_str, lent_lI, lent_lT, lent_lLa, isO_int, isB_bl, isB_non, isN_int, isN_non, cmp_neB, cmp_eqN, cmp_eqTs, cmp_neTs, cmp_neLas, len0, len1, f_lassos_of_l4, hc, e1, e2, hI, hx, hn1, List.map_append]
    · rw [decide_eq_false hq] at hI
      have e1 : ¬ ((llasso b l).1 = b ∧ (llasso b l).2 = l) := fun z => hq (Prod.ext z.1 z.2)
      simp only [execs_cons, execs_nil, asg_, augv_, jAug0_ok, ex_, ret_, if_, for_, whl_, jTest_ok, jTest2_ok, brk_, cnt_, pass_, jSt_ok, jAsg_ok, jAug3_ok, jAug2_ok, jEx_ok, jRet_ok, jIf2_t, jIf2_f, jIf_ok, jSeq_nx, jSeq_ret, jSeq_brk, jSeq_cnt, jFor_ok, rng_, jRng_1, jRng_2, set_var, set_tup, bind_one, augI_add, augI_sub, lit_, var_, kVar_flat, kVar_pk, bin_, kBin1_ok, kBin2_ok, kVal_ok, kBl_ok, cmp_, kCmp1_ok, kCmp2_ok, chain_, kCh0_ok, kCh1_ok, kCh2_t, kCh2_f, kCh3_ok, neg_, kNeg_ok, not_, kNot_ok, kNot2_ok, isN_, kIsN_ok, notN_, kNotN_ok, and_, kAnd_ok, kAnd2_t, kAnd2_f, or_, kOr_ok, kOr2_t, kOr2_f, ite_, kIte_ok, kIte2_t, kIte2_f, evs_cons, evs_nil, kCons_ok, kCons2_ok, tup_, kTup_ok, lst_, kLst_ok, bi_, kBi_ok, call_, kCall_ok, kCall2_ok, isi_, kIsi_ok, idxB_, kIdx0_t, kIdx_ok, kIdx2_ok, kTake_ok, take_flat, slc_, kSlc_ok, kSlc2_ok, kSlc3_T, kSlc3_L, evO_none, evO_some, kEnd_ok, comp_, roE, roL, roO, roI, out_ret, out_nx, len_T, len_L, int_I, tup_L, tup_T, tup_nil, bin_add, bin_sub, tru_bl, cmp_lt, cmp_le, cmp_gt, cmp_ge, cmp_eqI, cmp_neI, cmp_eqT, cmp_neT, cmp_eqLa, cmp_neLa, cmp_eqLs, own_T, own_La, own_tup, own_int, own_bl, own_non, own_k, own_s, own_g, Bool.not_false, Bool.not_true, Bool.or_true, Bool.true_or, Bool.or_false, Bool.false_or, Bool.and_true, Bool.true_and, Bool.and_false, Bool.false_and, if_true, if_false, Bool.false_eq_true, reduceIte, Int.reduceEq, Int.reduceLT, Int.reduceLE, Nat.reduceLT, Nat.reduceAdd, Nat.reduceSub, List.map_cons, List.map_nil, List.cons_append, List.nil_append, List.replicate, List.getElem?_cons_zero, List.getElem?_cons_succ, List.set, List.set_cons_zero, List.set_cons_succ, List.length_cons, List.length_nil, List.zip_cons_cons, List.zip_nil_right, List.foldl_cons, List.foldl_nil, List.all_cons, List.all_nil, decide_true, decide_false, Nat.zero_lt_succ, and_self, and_true, true_and, Int.ofNat_lt, Int.ofNat_le, eq_self, flL_cons, flL_nil, fl_int, fl_bl, fl_non, fl_str, fl_Tb, fl_Lab, fl_lI, fl_lT, fl_lLa, tup_0, tup_1, sh_o, sh_s, sh_g, sh_k, gv_o, gv_s, gv_g, gv_k, val_var, jValV_s, jValV_g, jValV_k, jValV_t, jValE_o, jValE_s, jValE_g, jValE_t, mutv_, jMut0_ok, jMut_a, jMut_e, settle_nl, val_np, isPath_call, isPath_bi, isPath_bin, isPath_lst, isPath_tup, isPath_slc, isPath_comp, isPath_meth, kVar_own, shareL_I, shareL_T, shareL_La, own_lI, own_lT, own_lLa, isL_l, isL_T, lent_sI, lent_sT, lent_sLa, lent_T, lent_La, lent_int, lent_bl, lent_non, lent_str, lent_lI, lent_lT, lent_lLa, isO_int, isB_bl, isB_non, isN_int, isN_non, cmp_neB, cmp_eqN, cmp_eqTs, cmp_neTs, cmp_neLas, len0, len1, f_lassos_of_l4, hc, e1, hI, List.append_nil])
  have hr1 : isRg 1 = true := by simp [isRg]
  have hr2 : isRg ((t : Int) + 1) = true := isRg_nat (n := t + 1) (by omega)
  have hn : ((t : Int) + 1 - 1).toNat = t := by omega
  simp only [execs_cons, execs_nil, asg_, augv_, jAug0_ok, ex_, ret_, if_, for_, whl_, jTest_ok, jTest2_ok, brk_, cnt_, pass_, jSt_ok, jAsg_ok, jAug3_ok, jAug2_ok, jEx_ok, jRet_ok, jIf2_t, jIf2_f, jIf_ok, jSeq_nx, jSeq_ret, jSeq_brk, jSeq_cnt, jFor_ok, rng_, jRng_1, jRng_2, set_var, set_tup, bind_one, augI_add, augI_sub, lit_, var_, kVar_flat, kVar_pk, bin_, kBin1_ok, kBin2_ok, kVal_ok, kBl_ok, cmp_, kCmp1_ok, kCmp2_ok, chain_, kCh0_ok, kCh1_ok, kCh2_t, kCh2_f, kCh3_ok, neg_, kNeg_ok, not_, kNot_ok, kNot2_ok, isN_, kIsN_ok, notN_, kNotN_ok, and_, kAnd_ok, kAnd2_t, kAnd2_f, or_, kOr_ok, kOr2_t, kOr2_f, ite_, kIte_ok, kIte2_t, kIte2_f, evs_cons, evs_nil, kCons_ok, kCons2_ok, tup_, kTup_ok, lst_, kLst_ok, bi_, kBi_ok, call_, kCall_ok, kCall2_ok, isi_, kIsi_ok, idxB_, kIdx0_t, kIdx_ok, kIdx2_ok, kTake_ok, take_flat, slc_, kSlc_ok, kSlc2_ok, kSlc3_T, kSlc3_L, evO_none, evO_some, kEnd_ok, comp_, roE, roL, roO, roI, out_ret, out_nx, len_T, len_L, int_I, tup_L, tup_T, tup_nil, bin_add, bin_sub, tru_bl, cmp_lt, cmp_le, cmp_gt, cmp_ge, cmp_eqI, cmp_neI, cmp_eqT, cmp_neT, cmp_eqLa, cmp_neLa, cmp_eqLs, own_T, own_La, own_tup, own_int, own_bl, own_non, own_k, own_s, own_g, Bool.not_false, Bool.not_true, Bool.or_true, Bool.true_or, Bool.or_false, Bool.false_or, Bool.and_true, Bool.true_and, Bool.and_false, Bool.false_and, if_true, if_false, Bool.false_eq_true, reduceIte, Int.reduceEq, Int.reduceLT, Int.reduceLE, Nat.reduceLT, Nat.reduceAdd, Nat.reduceSub, List.map_cons, List.map_nil, List.cons_append, List.nil_append, List.replicate, List.getElem?_cons_zero, List.getElem?_cons_succ, List.set, List.set_cons_zero, List.set_cons_succ, List.length_cons, List.length_nil, List.zip_cons_cons, List.zip_nil_right, List.foldl_cons, List.foldl_nil, List.all_cons, List.all_nil, decide_true, decide_false, Nat.zero_lt_succ, and_self, and_true, true_and, Int.ofNat_lt, Int.ofNat_le, eq_self, flL_cons, flL_nil, fl_int, fl_bl, fl_non, fl_str, fl_Tb, fl_Lab, fl_lI, fl_lT, fl_lLa, tup_0, tup_1, sh_o, sh_s, sh_g, sh_k, gv_o, gv_s, gv_g, gv_k, val_var, jValV_s, jValV_g, jValV_k, jValV_t, jValE_o, jValE_s, jValE_g, jValE_t, mutv_, jMut0_ok, jMut_a, jMut_e, settle_nl, val_np, isPath_call, isPath_bi, isPath_bin, isPath_lst, isPath_tup, isPath_slc, isPath_comp, isPath_meth, kVar_own, shareL_I, shareL_T, shareL_La, own_lI, own_lT, own_lLa, isL_l, isL_T, lent_sI, lent_sT, lent_sLa, lent_T, lent_La, lent_int, lent_bl, lent_non, lent_str, lent_lI, lent_lT, lent_lLa, isO_int, isB_bl, isB_non, isN_int, isN_non, cmp_neB, cmp_eqN, cmp_eqTs, cmp_neTs, cmp_neLas, len0, len1, f_lassos_of, hr1, hr2, hn, h]
theorem inWl (c : Ctx) (k : Nat) (hk : k ≤ 4) (n : Nat) (hn : n < 9) (D1 D3 : Option D) (f : Fg) (hf : f = .o ∨ f = .s) (o5 o6 o7 : Option D) :
    ∃ o5' o6', execs c f_law_words_l1 [some (.int k), D1, some (.lst f ((words k n).map T)), D3, o5, o6, o7] = .ok (.nx, [some (.int k), D1, some (.lst .s ((words k (n + 1)).map T)), D3, some (.lst .s ((words k (n + 1)).map T)), o5', o6']) := by
  obtain ⟨hlen, hwl⟩ := words_small (n := n + 1) hk (by omega)
  have hwl0 := (words_small (n := n) hk (by omega)).2
  rw [words_step] at hlen
  have hro : roE f_law_words_e3 = true := rfl
  have loop : ∀ w : Watch, (∀ env : Env, env[2]? = some (some (.lst f ((words k n).map T))) → stands w env = true) → ∃ e', forLoop w (stepF c (.var 5) f_law_words_l2) ((words k n).map T) [some (.int k), D1, some (.lst f ((words k n).map T)), D3, some (.lst .o []), o6, o7] = .ok (.nx, e') ∧ ∃ p q, e' = [some (.int k), D1, some (.lst f ((words k n).map T)), D3, some (.lst .o ((words k (n + 1)).map T)), p, q] := by
    intro w hw
    refine forLoop_acc (g := T) (F := ext k) (I := fun acc env => ∃ p q, env = [some (.int k), D1, some (.lst f ((words k n).map T)), D3, some (.lst .o (acc.map T)), p, q]) (fun acc env ⟨p, q, h⟩ => hw env (by rw [h]; rfl)) (words k n) [] _ ⟨o6, o7, rfl⟩ ?_
    intro u hu pre env hl ⟨p, q, he⟩
    subst he
    have hst : setTg c (.var 5) (T u) [some (.int k), D1, some (.lst f ((words k n).map T)), D3, some (.lst .o (pre.map T)), p, q] = .ok [some (.int k), D1, some (.lst f ((words k n).map T)), D3, some (.lst .o (pre.map T)), some (T u), q] := rfl
    have hc := compExt c (ro := true) k (by omega) D1 (some (.lst f ((words k n).map T))) D3 (some (.lst .o (pre.map T))) u (hwl0 u hu) q f_law_words_e3 rfl
    have hr : isRg (k : Int) = true := isRg_nat (by omega)
    have ht : ((k : Int)).toNat = k := rfl
    have hx := bin_lst (f := .o) (g := .o) (a := pre.map T) (b := (ext k u).map T) (by rw [List.length_map, List.length_map]; rw [List.nil_append] at hl; unfold line; omega) (by simp) (by simp) (by rw [← List.map_append]; exact own_lT _)
    refine ⟨[some (.int k), D1, some (.lst f ((words k n).map T)), D3, some (.lst .o ((pre ++ ext k u).map T)), some (T u), q], ?_, _, _, rfl⟩
    rw [stepF_ok _ hst]
    simp only [execs_cons, execs_nil, asg_, augv_, jAug0_ok, ex_, ret_, if_, for_, whl_, jTest_ok, jTest2_ok, brk_, cnt_, pass_, jSt_ok, jAsg_ok, jAug3_ok, jAug2_ok, jEx_ok, jRet_ok, jIf2_t, jIf2_f, jIf_ok, jSeq_nx, jSeq_ret, jSeq_brk, jSeq_cnt, jFor_ok, rng_, jRng_1, jRng_2, set_var, set_tup, bind_one, augI_add, augI_sub, lit_, var_, kVar_flat, kVar_pk, bin_, kBin1_ok, kBin2_ok, kVal_ok, kBl_ok, cmp_, kCmp1_ok, kCmp2_ok, chain_, kCh0_ok, kCh1_ok, kCh2_t, kCh2_f, kCh3_ok, neg_, kNeg_ok, not_, kNot_ok, kNot2_ok, isN_, kIsN_ok, notN_, kNotN_ok, and_, kAnd_ok, kAnd2_t, kAnd2_f, or_, kOr_ok, kOr2_t, kOr2_f, ite_, kIte_ok, kIte2_t, kIte2_f, evs_cons, evs_nil, kCons_ok, kCons2_ok, tup_, kTup_ok, lst_, kLst_ok, bi_, kBi_ok, call_, kCall_ok, kCall2_ok, isi_, kIsi_ok, idxB_, kIdx0_t, kIdx_ok, kIdx2_ok, kTake_ok, take_flat, slc_, kSlc_ok, kSlc2_ok, kSlc3_T, kSlc3_L, evO_none, evO_some, kEnd_ok, comp_, roE, roL, roO, roI, out_ret, out_nx, len_T, len_L, int_I, tup_L, tup_T, tup_nil, bin_add, bin_sub, tru_bl, cmp_lt, cmp_le, cmp_gt, cmp_ge, cmp_eqI, cmp_neI, cmp_eqT, cmp_neT, cmp_eqLa, cmp_neLa, cmp_eqLs, own_T, own_La, own_tup, own_int, own_bl, own_non, own_k, own_s, own_g, Bool.not_false, Bool.not_true, Bool.or_true, Bool.true_or, Bool.or_false, Bool.false_or, Bool.and_true, Bool.true_and, Bool.and_false, Bool.false_and, if_true, if_false, Bool.false_eq_true, reduceIte, Int.reduceEq, Int.reduceLT, Int.reduceLE, Nat.reduceLT, Nat.reduceAdd, Nat.reduceSub, List.map_cons, List.map_nil, List.cons_append, List.nil_append, List.replicate, List.getElem?_cons_zero, List.getElem?_cons_succ, List.set, List.set_cons_zero, List.set_cons_succ, List.length_cons, List.length_nil, List.zip_cons_cons, List.zip_nil_right, List.foldl_cons, List.foldl_nil, List.all_cons, List.all_nil, decide_true, decide_false, Nat.zero_lt_succ, and_self, and_true, true_and, Int.ofNat_lt, Int.ofNat_le, eq_self, flL_cons, flL_nil, fl_int, fl_bl, fl_non, fl_str, fl_Tb, fl_Lab, fl_lI, fl_lT, fl_lLa, tup_0, tup_1, sh_o, sh_s, sh_g, sh_k, gv_o, gv_s, gv_g, gv_k, val_var, jValV_s, jValV_g, jValV_k, jValV_t, jValE_o, jValE_s, jValE_g, jValE_t, mutv_, jMut0_ok, jMut_a, jMut_e, settle_nl, val_np, isPath_call, isPath_bi, isPath_bin, isPath_lst, isPath_tup, isPath_slc, isPath_comp, isPath_meth, kVar_own, shareL_I, shareL_T, shareL_La, own_lI, own_lT, own_lLa, isL_l, isL_T, lent_sI, lent_sT, lent_sLa, lent_T, lent_La, lent_int, lent_bl, lent_non, lent_str, lent_lI, lent_lT, lent_lLa, isO_int, isB_bl, isB_non, isN_int, isN_non, cmp_neB, cmp_eqN, cmp_eqTs, cmp_neTs, cmp_neLas, len0, len1, f_law_words_l2, hro, hr, ht, hc, hx, List.map_append]
  have hA : ∀ d : D, apartFrom [(2, d)] (asgS (.forS (.var 5) (.val (.var 2)) f_law_words_l2)) = true := fun d => rfl
  rcases hf with rfl | rfl
  · obtain ⟨e', h1, p, q, rfl⟩ := loop [(2, .lst .o ((words k n).map T))] (fun env h => stands_at h)
    refine ⟨p, q, ?_⟩
    simp only [execs_cons, execs_nil, asg_, augv_, jAug0_ok, ex_, ret_, if_, for_, whl_, jTest_ok, jTest2_ok, brk_, cnt_, pass_, jSt_ok, jAsg_ok, jAug3_ok, jAug2_ok, jEx_ok, jRet_ok, jIf2_t, jIf2_f, jIf_ok, jSeq_nx, jSeq_ret, jSeq_brk, jSeq_cnt, jFor_ok, rng_, jRng_1, jRng_2, set_var, set_tup, bind_one, augI_add, augI_sub, lit_, var_, kVar_flat, kVar_pk, bin_, kBin1_ok, kBin2_ok, kVal_ok, kBl_ok, cmp_, kCmp1_ok, kCmp2_ok, chain_, kCh0_ok, kCh1_ok, kCh2_t, kCh2_f, kCh3_ok, neg_, kNeg_ok, not_, kNot_ok, kNot2_ok, isN_, kIsN_ok, notN_, kNotN_ok, and_, kAnd_ok, kAnd2_t, kAnd2_f, or_, kOr_ok, kOr2_t, kOr2_f, ite_, kIte_ok, kIte2_t, kIte2_f, evs_cons, evs_nil, kCons_ok, kCons2_ok, tup_, kTup_ok, lst_, kLst_ok, bi_, kBi_ok, call_, kCall_ok, kCall2_ok, isi_, kIsi_ok, idxB_, kIdx0_t, kIdx_ok, kIdx2_ok, kTake_ok, take_flat, slc_, kSlc_ok, kSlc2_ok, kSlc3_T, kSlc3_L, evO_none, evO_some, kEnd_ok, comp_, roE, roL, roO, roI, out_ret, out_nx, len_T, len_L, int_I, tup_L, tup_T, tup_nil, bin_add, bin_sub, tru_bl, cmp_lt, cmp_le, cmp_gt, cmp_ge, cmp_eqI, cmp_neI, cmp_eqT, cmp_neT, cmp_eqLa, cmp_neLa, cmp_eqLs, own_T, own_La, own_tup, own_int, own_bl, own_non, own_k, own_s, own_g, Bool.not_false, Bool.not_true, Bool.or_true, Bool.true_or, Bool.or_false, Bool.false_or, Bool.and_true, Bool.true_and, Bool.and_false, Bool.false_and, if_true, if_false, Bool.false_eq_true, reduceIte, Int.reduceEq, Int.reduceLT, Int.reduceLE, Nat.reduceLT, Nat.reduceAdd, Nat.reduceSub, List.map_cons, List.map_nil, List.cons_append, List.nil_append, List.replicate, List.getElem?_cons_zero, List.getElem?_cons_succ, List.set, List.set_cons_zero, List.set_cons_succ, List.length_cons, List.length_nil, List.zip_cons_cons, List.zip_nil_right, List.foldl_cons, List.foldl_nil, List.all_cons, List.all_nil, decide_true, decide_false, Nat.zero_lt_succ, and_self, and_true, true_and, Int.ofNat_lt, Int.ofNat_le, eq_self, flL_cons, flL_nil, fl_int, fl_bl, fl_non, fl_str, fl_Tb, fl_Lab, fl_lI, fl_lT, fl_lLa, tup_0, tup_1, sh_o, sh_s, sh_g, sh_k, gv_o, gv_s, gv_g, gv_k, val_var, jValV_s, jValV_g, jValV_k, jValV_t, jValE_o, jValE_s, jValE_g, jValE_t, mutv_, jMut0_ok, jMut_a, jMut_e, settle_nl, val_np, isPath_call, isPath_bi, isPath_bin, isPath_lst, isPath_tup, isPath_slc, isPath_comp, isPath_meth, kVar_own, shareL_I, shareL_T, shareL_La, own_lI, own_lT, own_lLa, isL_l, isL_T, lent_sI, lent_sT, lent_sLa, lent_T, lent_La, lent_int, lent_bl, lent_non, lent_str, lent_lI, lent_lT, lent_lLa, isO_int, isB_bl, isB_non, isN_int, isN_non, cmp_neB, cmp_eqN, cmp_eqTs, cmp_neTs, cmp_neLas, len0, len1, f_law_words_l1, jValV_own, jFor_w _ (hA _), h1]
  · obtain ⟨e', h1, p, q, rfl⟩ := loop [] (fun env h => rfl)
    refine ⟨p, q, ?_⟩
    simp only [execs_cons, execs_nil, asg_, augv_, jAug0_ok, ex_, ret_, if_, for_, whl_, jTest_ok, jTest2_ok, brk_, cnt_, pass_, jSt_ok, jAsg_ok, jAug3_ok, jAug2_ok, jEx_ok, jRet_ok, jIf2_t, jIf2_f, jIf_ok, jSeq_nx, jSeq_ret, jSeq_brk, jSeq_cnt, jFor_ok, rng_, jRng_1, jRng_2, set_var, set_tup, bind_one, augI_add, augI_sub, lit_, var_, kVar_flat, kVar_pk, bin_, kBin1_ok, kBin2_ok, kVal_ok, kBl_ok, cmp_, kCmp1_ok, kCmp2_ok, chain_, kCh0_ok, kCh1_ok, kCh2_t, kCh2_f, kCh3_ok, neg_, kNeg_ok, not_, kNot_ok, kNot2_ok, isN_, kIsN_ok, notN_, kNotN_ok, and_, kAnd_ok, kAnd2_t, kAnd2_f, or_, kOr_ok, kOr2_t, kOr2_f, ite_, kIte_ok, kIte2_t, kIte2_f, evs_cons, evs_nil, kCons_ok, kCons2_ok, tup_, kTup_ok, lst_, kLst_ok, bi_, kBi_ok, call_, kCall_ok, kCall2_ok, isi_, kIsi_ok, idxB_, kIdx0_t, kIdx_ok, kIdx2_ok, kTake_ok, take_flat, slc_, kSlc_ok, kSlc2_ok, kSlc3_T, kSlc3_L, evO_none, evO_some, kEnd_ok, comp_, roE, roL, roO, roI, out_ret, out_nx, len_T, len_L, int_I, tup_L, tup_T, tup_nil, bin_add, bin_sub, tru_bl, cmp_lt, cmp_le, cmp_gt, cmp_ge, cmp_eqI, cmp_neI, cmp_eqT, cmp_neT, cmp_eqLa, cmp_neLa, cmp_eqLs, own_T, own_La, own_tup, own_int, own_bl, own_non, own_k, own_s, own_g, Bool.not_false, Bool.not_true, Bool.or_true, Bool.true_or, Bool.or_false, Bool.false_or, Bool.and_true, Bool.true_and, Bool.and_false, Bool.false_and, if_true, if_false, Bool.false_eq_true, reduceIte, Int.reduceEq, Int.reduceLT, Int.reduceLE, Nat.reduceLT, Nat.reduceAdd, Nat.reduceSub, List.map_cons, List.map_nil, List.cons_append, List.nil_append, List.replicate, List.getElem?_cons_zero, List.getElem?_cons_succ, List.set, List.set_cons_zero, List.set_cons_succ, List.length_cons, List.length_nil, List.zip_cons_cons, List.zip_nil_right, List.foldl_cons, List.foldl_nil, List.all_cons, List.all_nil, decide_true, decide_false, Nat.zero_lt_succ, and_self, and_true, true_and, Int.ofNat_lt, Int.ofNat_le, eq_self, flL_cons, flL_nil, fl_int, fl_bl, fl_non, fl_str, fl_Tb, fl_Lab, fl_lI, fl_lT, fl_lLa, tup_0, tup_1, sh_o, sh_s, sh_g, sh_k, gv_o, gv_s, gv_g, gv_k, val_var, jValV_s, jValV_g, jValV_k, jValV_t, jValE_o, jValE_s, jValE_g, jValE_t, mutv_, jMut0_ok, jMut_a, jMut_e, settle_nl, val_np, isPath_call, isPath_bi, isPath_bin, isPath_lst, isPath_tup, isPath_slc, isPath_comp, isPath_meth, kVar_own, shareL_I, shareL_T, shareL_La, own_lI, own_lT, own_lLa, isL_l, isL_T, lent_sI, lent_sT, lent_sLa, lent_T, lent_La, lent_int, lent_bl, lent_non, lent_str, lent_lI, lent_lT, lent_lLa, isO_int, isB_bl, isB_non, isN_int, isN_non, cmp_neB, cmp_eqN, cmp_eqTs, cmp_neTs, cmp_neLas, len0, len1, f_law_words_l1, h1]
theorem law_words [H_law_words P] (n : Nat) (k m : Nat) (hk : k ≤ 4) (hm : m ≤ 9) : (C P (n + 1)).call "_law_words" [.int k, .int m] = .ok (.lst .s ((words k m).map T)) := by
  rw [c_of H_law_words.h n _ rfl]
  have hr : isRg (m : Int) = true := isRg_nat (by omega)
  have ht : ((m : Int)).toNat = m := rfl
  obtain ⟨e', h1, f, o3, o4, o5, o6, hf, rfl⟩ := forLoop_iter (w := []) (step := stepF (C P n) (.var 3) f_law_words_l1) (fun i env => ∃ f o3 o4 o5 o6, (f = .o ∨ f = .s) ∧ env = [some (.int k), some (.int m), some (.lst f ((words k i).map T)), o3, o4, o5, o6]) (rangeL ((0 : Nat) : Int) m) 0
    [some (.int k), some (.int m), some (.lst .o [T []]), none, none, none, none] ⟨.o, none, none, none, none, .inl rfl, rfl⟩ (fun _ _ _ => rfl) (by
      intro i x env hx ⟨f, o3, o4, o5, o6, hf, he⟩
      subst he
      have hi : i < m := by
        have := (List.getElem?_eq_some_iff.mp hx).1
        rw [rangeL_range, List.length_map, List.length_range'] at this
        exact this
      obtain ⟨p, q, h⟩ := inWl (C P n) k hk (0 + i) (by omega) (some (.int m)) (some x) f hf o4 o5 o6
      have hst : setTg (C P n) (.var 3) x [some (.int k), some (.int m), some (.lst f ((words k (0 + i)).map T)), o3, o4, o5, o6] = .ok [some (.int k), some (.int m), some (.lst f ((words k (0 + i)).map T)), some x, o4, o5, o6] := rfl
      exact ⟨_, (stepF_ok _ hst).trans h, .s, _, _, _, _, .inr rfl, rfl⟩)
  have hl : (rangeL ((0 : Nat) : Int) m).length = m := by rw [rangeL_range, List.length_map, List.length_range']
  rw [hl, Nat.zero_add] at h1
  have h1' : forLoop [] (stepF (C P n) (.var 3) f_law_words_l1) (rangeL 0 m) [some (.int k), some (.int m), some (.lst .o [T []]), none, none, none, none] = _ := h1
  rcases hf with rfl | rfl
  · simp only [execs_cons, execs_nil, asg_, augv_, jAug0_ok, ex_, ret_, if_, for_, whl_, jTest_ok, jTest2_ok, brk_, cnt_, pass_, jSt_ok, jAsg_ok, jAug3_ok, jAug2_ok, jEx_ok, jRet_ok, jIf2_t, jIf2_f, jIf_ok, jSeq_nx, jSeq_ret, jSeq_brk, jSeq_cnt, jFor_ok, rng_, jRng_1, jRng_2, set_var, set_tup, bind_one, augI_add, augI_sub, lit_, var_, kVar_flat, kVar_pk, bin_, kBin1_ok, kBin2_ok, kVal_ok, kBl_ok, cmp_, kCmp1_ok, kCmp2_ok, chain_, kCh0_ok, kCh1_ok, kCh2_t, kCh2_f, kCh3_ok, neg_, kNeg_ok, not_, kNot_ok, kNot2_ok, isN_, kIsN_ok, notN_, kNotN_ok, and_, kAnd_ok, kAnd2_t, kAnd2_f, or_, kOr_ok, kOr2_t, kOr2_f, ite_, kIte_ok, kIte2_t, kIte2_f, evs_cons, evs_nil, kCons_ok, kCons2_ok, tup_, kTup_ok, lst_, kLst_ok, bi_, kBi_ok, call_, kCall_ok, kCall2_ok, isi_, kIsi_ok, idxB_, kIdx0_t, kIdx_ok, kIdx2_ok, kTake_ok, take_flat, slc_, kSlc_ok, kSlc2_ok, kSlc3_T, kSlc3_L, evO_none, evO_some, kEnd_ok, comp_, roE, roL, roO, roI, out_ret, out_nx, len_T, len_L, int_I, tup_L, tup_T, tup_nil, bin_add, bin_sub, tru_bl, cmp_lt, cmp_le, cmp_gt, cmp_ge, cmp_eqI, cmp_neI, cmp_eqT, cmp_neT, cmp_eqLa, cmp_neLa, cmp_eqLs, own_T, own_La, own_tup, own_int, own_bl, own_non, own_k, own_s, own_g, Bool.not_false, Bool.not_true, Bool.or_true, Bool.true_or, Bool.or_false, Bool.false_or, Bool.and_true, Bool.true_and, Bool.and_false, Bool.false_and, if_true, if_false, Bool.false_eq_true, reduceIte, Int.reduceEq, Int.reduceLT, Int.reduceLE, Nat.reduceLT, Nat.reduceAdd, Nat.reduceSub, List.map_cons, List.map_nil, List.cons_append, List.nil_append, List.replicate, List.getElem?_cons_zero, List.getElem?_cons_succ, List.set, List.set_cons_zero, List.set_cons_succ, List.length_cons, List.length_nil, List.zip_cons_cons, List.zip_nil_right, List.foldl_cons, List.foldl_nil, List.all_cons, List.all_nil, decide_true, decide_false, Nat.zero_lt_succ, and_self, and_true, true_and, Int.ofNat_lt, Int.ofNat_le, eq_self, flL_cons, flL_nil, fl_int, fl_bl, fl_non, fl_str, fl_Tb, fl_Lab, fl_lI, fl_lT, fl_lLa, tup_0, tup_1, sh_o, sh_s, sh_g, sh_k, gv_o, gv_s, gv_g, gv_k, val_var, jValV_s, jValV_g, jValV_k, jValV_t, jValE_o, jValE_s, jValE_g, jValE_t, mutv_, jMut0_ok, jMut_a, jMut_e, settle_nl, val_np, isPath_call, isPath_bi, isPath_bin, isPath_lst, isPath_tup, isPath_slc, isPath_comp, isPath_meth, kVar_own, shareL_I, shareL_T, shareL_La, own_lI, own_lT, own_lLa, isL_l, isL_T, lent_sI, lent_sT, lent_sLa, lent_T, lent_La, lent_int, lent_bl, lent_non, lent_str, lent_lI, lent_lT, lent_lLa, isO_int, isB_bl, isB_non, isN_int, isN_non, cmp_neB, cmp_eqN, cmp_eqTs, cmp_neTs, cmp_neLas, len0, len1, f_law_words, hr, ht, h1']
  · simp only [execs_cons, execs_nil, asg_, augv_, jAug0_ok, ex_, ret_, if_, for_, whl_, jTest_ok, jTest2_ok, brk_, cnt_, pass_, jSt_ok, jAsg_ok, jAug3_ok, jAug2_ok, jEx_ok, jRet_ok, jIf2_t, jIf2_f, jIf_ok, jSeq_nx, jSeq_ret, jSeq_brk, jSeq_cnt, jFor_ok, rng_, jRng_1, jRng_2, set_var, set_tup, bind_one, augI_add, augI_sub, lit_, var_, kVar_flat, kVar_pk, bin_, kBin1_ok, kBin2_ok, kVal_ok, kBl_ok, cmp_, kCmp1_ok, kCmp2_ok, chain_, kCh0_ok, kCh1_ok, kCh2_t, kCh2_f, kCh3_ok, neg_, kNeg_ok, not_, kNot_ok, kNot2_ok, isN_, kIsN_ok, notN_, kNotN_ok, and_, kAnd_ok, kAnd2_t, kAnd2_f, or_, kOr_ok, kOr2_t, kOr2_f, ite_, kIte_ok, kIte2_t, kIte2_f, evs_cons, evs_nil, kCons_ok, kCons2_ok, tup_, kTup_ok, lst_, kLst_ok, bi_, kBi_ok, call_, kCall_ok, kCall2_ok, isi_, kIsi_ok, idxB_, kIdx0_t, kIdx_ok, kIdx2_ok, kTake_ok, take_flat, slc_, kSlc_ok, kSlc2_ok, kSlc3_T, kSlc3_L, evO_none, evO_some, kEnd_ok, comp_, roE, roL, roO, roI, out_ret, out_nx, len_T, len_L, int_I, tup_L, tup_T, tup_nil, bin_add, bin_sub, tru_bl, cmp_lt, cmp_le, cmp_gt, cmp_ge, cmp_eqI, cmp_neI, cmp_eqT, cmp_neT, cmp_eqLa, cmp_neLa, cmp_eqLs, own_T, own_La, own_tup, own_int, own_bl, own_non, own_k, own_s, own_g, Bool.not_false, Bool.not_true, Bool.or_true, Bool.true_or, Bool.or_false, Bool.false_or, Bool.and_true, Bool.true_and, Bool.and_false, Bool.false_and, if_true, if_false, Bool.false_eq_true, reduceIte, Int.reduceEq, Int.reduceLT, Int.reduceLE, Nat.reduceLT, Nat.reduceAdd, Nat.reduceSub, List.map_cons, List.map_nil, List.cons_append, List.nil_append, List.replicate, List.getElem?_cons_zero, List.getElem?_cons_succ, List.set, List.set_cons_zero, List.set_cons_succ, List.length_cons, List.length_nil, List.zip_cons_cons, List.zip_nil_right, List.foldl_cons, List.foldl_nil, List.all_cons, List.all_nil, decide_true, decide_false, Nat.zero_lt_succ, and_self, and_true, true_and, Int.ofNat_lt, Int.ofNat_le, eq_self, flL_cons, flL_nil, fl_int, fl_bl, fl_non, fl_str, fl_Tb, fl_Lab, fl_lI, fl_lT, fl_lLa, tup_0, tup_1, sh_o, sh_s, sh_g, sh_k, gv_o, gv_s, gv_g, gv_k, val_var, jValV_s, jValV_g, jValV_k, jValV_t, jValE_o, jValE_s, jValE_g, jValE_t, mutv_, jMut0_ok, jMut_a, jMut_e, settle_nl, val_np, isPath_call, isPath_bi, isPath_bin, isPath_lst, isPath_tup, isPath_slc, isPath_comp, isPath_meth, kVar_own, shareL_I, shareL_T, shareL_La, own_lI, own_lT, own_lLa, isL_l, isL_T, lent_sI, lent_sT, lent_sLa, lent_T, lent_La, lent_int, lent_bl, lent_non, lent_str, lent_lI, lent_lT, lent_lLa, isO_int, isB_bl, isB_non, isN_int, isN_non, cmp_neB, cmp_eqN, cmp_eqTs, cmp_neTs, cmp_neLas, len0, len1, f_law_words, hr, ht, h1']
theorem stepIL (c : Ctx) (D0 D1 : D) (l : List Int) (d : Nat) (hd : 0 < d) (hd2 : d < l.length) (hl2 : l.length ≤ 1000) : execs c f_law_is_least_l1 [some D0, some D1, some (T l), some (.int d)] = if perD l d = true then .ok (.ret (.bl false), [some D0, some D1, some (T l), some (.int d)]) else .ok (.nx, [some D0, some D1, some (T l), some (.int d)]) := by
  have hz : (d : Int) ≠ 0 := by omega
  have hb : (d : Int).natAbs < 1073741824 := by omega
  unfold perD
  by_cases h1 : l.length % d = 0
  · have hk := div_ge h1 hd2
    have hk2 : l.length / d ≤ 1000 := Nat.le_trans (Nat.div_le_self _ _) hl2
    have hr := bin_rep (a := l.take d) (k := ((l.length / d : Nat) : Int)) (by rw [List.length_take]; omega) (by rw [List.length_take]; omega) (Int.ofNat_le.mpr hk) (Int.ofNat_le.mpr hk2)
    rw [Int.toNat_natCast] at hr
    by_cases h2 : l = (List.replicate (l.length / d) (l.take d)).flatten
    · have h3 : decide ((List.replicate (l.length / d) (l.take d)).flatten = l) = true := decide_eq_true h2.symm
      have h4 : decide (l = (List.replicate (l.length / d) (l.take d)).flatten) = true := decide_eq_true h2
      simp only [execs_cons, execs_nil, asg_, augv_, jAug0_ok, ex_, ret_, if_, for_, whl_, jTest_ok, jTest2_ok, brk_, cnt_, pass_, jSt_ok, jAsg_ok, jAug3_ok, jAug2_ok, jEx_ok, jRet_ok, jIf2_t, jIf2_f, jIf_ok, jSeq_nx, jSeq_ret, jSeq_brk, jSeq_cnt, jFor_ok, rng_, jRng_1, jRng_2, set_var, set_tup, bind_one, augI_add, augI_sub, lit_, var_, kVar_flat, kVar_pk, bin_, kBin1_ok, kBin2_ok, kVal_ok, kBl_ok, cmp_, kCmp1_ok, kCmp2_ok, chain_, kCh0_ok, kCh1_ok, kCh2_t, kCh2_f, kCh3_ok, neg_, kNeg_ok, not_, kNot_ok, kNot2_ok, isN_, kIsN_ok, notN_, kNotN_ok, and_, kAnd_ok, kAnd2_t, kAnd2_f, or_, kOr_ok, kOr2_t, kOr2_f, ite_, kIte_ok, kIte2_t, kIte2_f, evs_cons, evs_nil, kCons_ok, kCons2_ok, tup_, kTup_ok, lst_, kLst_ok, bi_, kBi_ok, call_, kCall_ok, kCall2_ok, isi_, kIsi_ok, idxB_, kIdx0_t, kIdx_ok, kIdx2_ok, kTake_ok, take_flat, slc_, kSlc_ok, kSlc2_ok, kSlc3_T, kSlc3_L, evO_none, evO_some, kEnd_ok, comp_, roE, roL, roO, roI, out_ret, out_nx, len_T, len_L, int_I, tup_L, tup_T, tup_nil, bin_add, bin_sub, tru_bl, cmp_lt, cmp_le, cmp_gt, cmp_ge, cmp_eqI, cmp_neI, cmp_eqT, cmp_neT, cmp_eqLa, cmp_neLa, cmp_eqLs, own_T, own_La, own_tup, own_int, own_bl, own_non, own_k, own_s, own_g, Bool.not_false, Bool.not_true, Bool.or_true, Bool.true_or, Bool.or_false, Bool.false_or, Bool.and_true, Bool.true_and, Bool.and_false, Bool.false_and, if_true, if_false, Bool.false_eq_true, reduceIte, Int.reduceEq, Int.reduceLT, Int.reduceLE, Nat.reduceLT, Nat.reduceAdd, Nat.reduceSub, List.map_cons, List.map_nil, List.cons_append, List.nil_append, List.replicate, List.getElem?_cons_zero, List.getElem?_cons_succ, List.set, List.set_cons_zero, List.set_cons_succ, List.length_cons, List.length_nil, List.zip_cons_cons, List.zip_nil_right, List.foldl_cons, List.foldl_nil, List.all_cons, List.all_nil, decide_true, decide_false, Nat.zero_lt_succ, and_self, and_true, true_and, Int.ofNat_lt, Int.ofNat_le, eq_self, flL_cons, flL_nil, fl_int, fl_bl, fl_non, fl_str, fl_Tb, fl_Lab, fl_lI, fl_lT, fl_lLa, tup_0, tup_1, sh_o, sh_s, sh_g, sh_k, gv_o, gv_s, gv_g, gv_k, val_var, jValV_s, jValV_g, jValV_k, jValV_t, jValE_o, jValE_s, jValE_g, jValE_t, mutv_, jMut0_ok, jMut_a, jMut_e, settle_nl, val_np, isPath_call, isPath_bi, isPath_bin, isPath_lst, isPath_tup, isPath_slc, isPath_comp, isPath_meth, kVar_own, shareL_I, shareL_T, shareL_La, own_lI, own_lT, own_lLa, isL_l, isL_T, lent_sI, lent_sT, lent_sLa, lent_T, lent_La, lent_int, lent_bl, lent_non, lent_str, lent_lI, lent_lT, lent_lLa, isO_int, isB_bl, isB_non, isN_int, isN_non, cmp_neB, cmp_eqN, cmp_eqTs, cmp_neTs, cmp_neLas, len0, len1, f_law_is_least_l1, bin_mod hz, bin_fdiv hz hb, nat_mod, nat_div, h1, h3, h4, cut_to, hr, z0]
    · have h3 : decide ((List.replicate (l.length / d) (l.take d)).flatten = l) = false := decide_eq_false fun z => h2 z.symm
      have h4 : decide (l = (List.replicate (l.length / d) (l.take d)).flatten) = false := decide_eq_false h2
      simp only [execs_cons, execs_nil, asg_, augv_, jAug0_ok, ex_, ret_, if_, for_, whl_, jTest_ok, jTest2_ok, brk_, cnt_, pass_, jSt_ok, jAsg_ok, jAug3_ok, jAug2_ok, jEx_ok, jRet_ok, jIf2_t, jIf2_f, jIf_ok, jSeq_nx, jSeq_ret, jSeq_brk, jSeq_cnt, jFor_ok, rng_, jRng_1, jRng_2, set_var, set_tup, bind_one, augI_add, augI_sub, lit_, var_, kVar_flat, kVar_pk, bin_, kBin1_ok, kBin2_ok, kVal_ok, kBl_ok, cmp_, kCmp1_ok, kCmp2_ok, chain_, kCh0_ok, kCh1_ok, kCh2_t, kCh2_f, kCh3_ok, neg_, kNeg_ok, not_, kNot_ok, kNot2_ok, isN_, kIsN_ok, notN_, kNotN_ok, and_, kAnd_ok, kAnd2_t, kAnd2_f, or_, kOr_ok, kOr2_t, kOr2_f, ite_, kIte_ok, kIte2_t, kIte2_f, evs_cons, evs_nil, kCons_ok, kCons2_ok, tup_, kTup_ok, lst_, kLst_ok, bi_, kBi_ok, call_, kCall_ok, kCall2_ok, isi_, kIsi_ok, idxB_, kIdx0_t, kIdx_ok, kIdx2_ok, kTake_ok, take_flat, slc_, kSlc_ok, kSlc2_ok, kSlc3_T, kSlc3_L, evO_none, evO_some, kEnd_ok, comp_, roE, roL, roO, roI, out_ret, out_nx, len_T, len_L, int_I, tup_L, tup_T, tup_nil, bin_add, bin_sub, tru_bl, cmp_lt, cmp_le, cmp_gt, cmp_ge, cmp_eqI, cmp_neI, cmp_eqT, cmp_neT, cmp_eqLa, cmp_neLa, cmp_eqLs, own_T, own_La, own_tup, own_int, own_bl, own_non, own_k, own_s, own_g, Bool.not_false, Bool.not_true, Bool.or_true, Bool.true_or, Bool.or_false, Bool.false_or, Bool.and_true, Bool.true_and, Bool.and_false, Bool.false_and, if_true, if_false, Bool.false_eq_true, reduceIte, Int.reduceEq, Int.reduceLT, Int.reduceLE, Nat.reduceLT, Nat.reduceAdd, Nat.reduceSub, List.map_cons, List.map_nil, List.cons_append, List.nil_append, List.replicate, List.getElem?_cons_zero, List.getElem?_cons_succ, List.set, List.set_cons_zero, List.set_cons_succ, List.length_cons, List.length_nil, List.zip_cons_cons, List.zip_nil_right, List.foldl_cons, List.foldl_nil, List.all_cons, List.all_nil, decide_true, decide_false, Nat.zero_lt_succ, and_self, and_true, true_and, Int.ofNat_lt, Int.ofNat_le, eq_self, flL_cons, flL_nil, fl_int, fl_bl, fl_non, fl_str, fl_Tb, fl_Lab, fl_lI, fl_lT, fl_lLa, tup_0, tup_1, sh_o, sh_s, sh_g, sh_k, gv_o, gv_s, gv_g, gv_k, val_var, jValV_s, jValV_g, jValV_k, jValV_t, jValE_o, jValE_s, jValE_g, jValE_t, mutv_, jMut0_ok, jMut_a, jMut_e, settle_nl, val_np, isPath_call, isPath_bi, isPath_bin, isPath_lst, isPath_tup, isPath_slc, isPath_comp, isPath_meth, kVar_own, shareL_I, shareL_T, shareL_La, own_lI, own_lT, own_lLa, isL_l, isL_T, lent_sI, lent_sT, lent_sLa, lent_T, lent_La, lent_int, lent_bl, lent_non, lent_str, lent_lI, lent_lT, lent_lLa, isO_int, isB_bl, isB_non, isN_int, isN_non, cmp_neB, cmp_eqN, cmp_eqTs, cmp_neTs, cmp_neLas, len0, len1, f_law_is_least_l1, bin_mod hz, bin_fdiv hz hb, nat_mod, nat_div, h1, h3, h4, cut_to, hr, z0]
  · have h1' : ¬ ((l.length % d : Nat) : Int) = 0 := by omega
    simp only [execs_cons, execs_nil, asg_, augv_, jAug0_ok, ex_, ret_, if_, for_, whl_, jTest_ok, jTest2_ok, brk_, cnt_, pass_, jSt_ok, jAsg_ok, jAug3_ok, jAug2_ok, jEx_ok, jRet_ok, jIf2_t, jIf2_f, jIf_ok, jSeq_nx, jSeq_ret, jSeq_brk, jSeq_cnt, jFor_ok, rng_, jRng_1, jRng_2, set_var, set_tup, bind_one, augI_add, augI_sub, lit_, var_, kVar_flat, kVar_pk, bin_, kBin1_ok, kBin2_ok, kVal_ok, kBl_ok, cmp_, kCmp1_ok, kCmp2_ok, chain_, kCh0_ok, kCh1_ok, kCh2_t, kCh2_f, kCh3_ok, neg_, kNeg_ok, not_, kNot_ok, kNot2_ok, isN_, kIsN_ok, notN_, kNotN_ok, and_, kAnd_ok, kAnd2_t, kAnd2_f, or_, kOr_ok, kOr2_t, kOr2_f, ite_, kIte_ok, kIte2_t, kIte2_f, evs_cons, evs_nil, kCons_ok, kCons2_ok, tup_, kTup_ok, lst_, kLst_ok, bi_, kBi_ok, call_, kCall_ok, kCall2_ok, isi_, kIsi_ok, idxB_, kIdx0_t, kIdx_ok, kIdx2_ok, kTake_ok, take_flat, slc_, kSlc_ok, kSlc2_ok, kSlc3_T, kSlc3_L, evO_none, evO_some, kEnd_ok, comp_, roE, roL, roO, roI, out_ret, out_nx, len_T, len_L, int_I, tup_L, tup_T, tup_nil, bin_add, bin_sub, tru_bl, cmp_lt, cmp_le, cmp_gt, cmp_ge, cmp_eqI, cmp_neI, cmp_eqT, cmp_neT, cmp_eqLa, cmp_neLa, cmp_eqLs, own_T, own_La, own_tup, own_int, own_bl, own_non, own_k, own_s, own_g, Bool.not_false, Bool.not_true, Bool.or_true, Bool.true_or, Bool.or_false, Bool.false_or, Bool.and_true, Bool.true_and, Bool.and_false, Bool.false_and, if_true, if_false, Bool.false_eq_true, reduceIte, Int.reduceEq, Int.reduceLT, Int.reduceLE, Nat.reduceLT, Nat.reduceAdd, Nat.reduceSub, List.map_cons, List.map_nil, List.cons_append, List.nil_append, List.replicate, List.getElem?_cons_zero, List.getElem?_cons_succ, List.set, List.set_cons_zero, List.set_cons_succ, List.length_cons, List.length_nil, List.zip_cons_cons, List.zip_nil_right, List.foldl_cons, List.foldl_nil, List.all_cons, List.all_nil, decide_true, decide_false, Nat.zero_lt_succ, and_self, and_true, true_and, Int.ofNat_lt, Int.ofNat_le, eq_self, flL_cons, flL_nil, fl_int, fl_bl, fl_non, fl_str, fl_Tb, fl_Lab, fl_lI, fl_lT, fl_lLa, tup_0, tup_1, sh_o, sh_s, sh_g, sh_k, gv_o, gv_s, gv_g, gv_k, val_var, jValV_s, jValV_g, jValV_k, jValV_t, jValE_o, jValE_s, jValE_g, jValE_t, mutv_, jMut0_ok, jMut_a, jMut_e, settle_nl, val_np, isPath_call, isPath_bi, isPath_bin, isPath_lst, isPath_tup, isPath_slc, isPath_comp, isPath_meth, kVar_own, shareL_I, shareL_T, shareL_La, own_lI, own_lT, own_lLa, isL_l, isL_T, lent_sI, lent_sT, lent_sLa, lent_T, lent_La, lent_int, lent_bl, lent_non, lent_str, lent_lI, lent_lT, lent_lLa, isO_int, isB_bl, isB_non, isN_int, isN_non, cmp_neB, cmp_eqN, cmp_eqTs, cmp_neTs, cmp_neLas, len0, len1, f_law_is_least_l1, bin_mod hz, nat_mod, h1, h1']
theorem find_all {p : Nat → Bool} {xs : List Nat} : (xs.all fun d => !p d) = (xs.find? p).isNone := by
  cases h : xs.find? p with
  | none =>
    rw [List.find?_eq_none] at h
    rw [List.all_eq_true.mpr fun d hd => by simpa using h d hd]; rfl
  | some d =>
    have h1 := List.mem_of_find?_eq_some h
    have h2 := List.find?_some h
    rw [List.all_eq_false.mpr ⟨d, h1, by simp [h2]⟩]; rfl
theorem law_is_least [H_law_is_least P] (n : Nat) (b l : List Int) (hl : 0 < l.length) (hl2 : l.length ≤ 1000) : (C P (n + 1)).call "_law_is_least" [La b l] = .ok (.bl (isL b l)) := by
  rw [c_of H_law_is_least.h n _ rfl]
  obtain ⟨e1, ⟨o1, rfl⟩, h⟩ := forLoop_find (step := stepF (C P n) (.var 3) f_law_is_least_l1) (fun x => match x with | .int d => (if perD l d.toNat = true then some (.bl false) else none) | _ => none) (fun env => ∃ o, env = [some (La b l), some (T b), some (T l), o]) (rangeL ((1 : Nat) : Int) (l.length - 1)) [some (La b l), some (T b), some (T l), none] ⟨none, rfl⟩ (by
      intro x hx env ⟨o, he⟩
      subst he
      rw [rangeL_range] at hx
      obtain ⟨d, hd, rfl⟩ := List.mem_map.mp hx
      rw [List.mem_range'_1] at hd
      refine ⟨[some (La b l), some (T b), some (T l), some (.int d)], ⟨_, rfl⟩, ?_⟩
      have hs : setTg (C P n) (.var 3) (.int d) [some (La b l), some (T b), some (T l), o] = .ok [some (La b l), some (T b), some (T l), some (.int d)] := rfl
      rw [stepF_ok _ hs, stepIL _ _ _ l d (by omega) (by omega) hl2]
      simp only [Int.toNat_natCast]
      by_cases hq : perD l d = true
      · rw [if_pos hq, if_pos hq]
      · rw [if_neg hq, if_neg hq])
  have hr1 : isRg 1 = true := by simp [isRg]
  have hr2 : isRg (l.length : Int) = true := isRg_nat (by omega)
  have hn : ((l.length : Int) - 1).toNat = l.length - 1 := by omega
  have h1 : rangeL 1 (l.length - 1) = rangeL ((1 : Nat) : Int) (l.length - 1) := rfl
  have hf : (rangeL ((1 : Nat) : Int) (l.length - 1)).findSome? (fun x => match x with | .int d => (if perD l d.toNat = true then some (D.bl false) else none) | _ => none) = ((List.range' 1 (l.length - 1)).find? (perD l)).map fun d => .bl false := by
    rw [rangeL_range, List.findSome?_map, ← findSome_find (perD l) fun d => D.bl false]
    rfl
  rw [hf, ← h1] at h
  clear h1
  have hst : setTg (C P n) (.tup [1, 2]) (La b l) [some (La b l), none, none, none] = .ok [some (La b l), some (T b), some (T l), none] := rfl
  unfold isL
  rw [find_all]
  rcases Option.eq_none_or_eq_some ((List.range' 1 (l.length - 1)).find? (perD l)) with hq | ⟨d, hq⟩
  rotate_left
  · rw [hq] at h ⊢
    rw [Option.map_some] at h
    dsimp only at h
    simp only [execs_cons, execs_nil, asg_, augv_, jAug0_ok, ex_, ret_, if_, for_, whl_, jTest_ok, jTest2_ok, brk_, cnt_, pass_, jSt_ok, jAsg_ok, jAug3_ok, jAug2_ok, jEx_ok, jRet_ok, jIf2_t, jIf2_f, jIf_ok, jSeq_nx, jSeq_ret, jSeq_brk, jSeq_cnt, jFor_ok, rng_, jRng_1, jRng_2, set_var, set_tup, bind_one, augI_add, augI_sub, lit_, var_, kVar_flat, kVar_pk, bin_, kBin1_ok, kBin2_ok, kVal_ok, kBl_ok, cmp_, kCmp1_ok, kCmp2_ok, chain_, kCh0_ok, kCh1_ok, kCh2_t, kCh2_f, kCh3_ok, neg_, kNeg_ok, not_, kNot_ok, kNot2_ok, isN_, kIsN_ok, notN_, kNotN_ok, and_, kAnd_ok, kAnd2_t, kAnd2_f, or_, kOr_ok, kOr2_t, kOr2_f, ite_, kIte_ok, kIte2_t, kIte2_f, evs_cons, evs_nil, kCons_ok, kCons2_ok, tup_, kTup_ok, lst_, kLst_ok, bi_, kBi_ok, call_, kCall_ok, kCall2_ok, isi_, kIsi_ok, idxB_, kIdx0_t, kIdx_ok, kIdx2_ok, kTake_ok, take_flat, slc_, kSlc_ok, kSlc2_ok, kSlc3_T, kSlc3_L, evO_none, evO_some, kEnd_ok, comp_, roE, roL, roO, roI, out_ret, out_nx, len_T, len_L, int_I, tup_L, tup_T, tup_nil, bin_add, bin_sub, tru_bl, cmp_lt, cmp_le, cmp_gt, cmp_ge, cmp_eqI, cmp_neI, cmp_eqT, cmp_neT, cmp_eqLa, cmp_neLa, cmp_eqLs, own_T, own_La, own_tup, own_int, own_bl, own_non, own_k, own_s, own_g, Bool.not_false, Bool.not_true, Bool.or_true, Bool.true_or, Bool.or_false, Bool.false_or, Bool.and_true, Bool.true_and, Bool.and_false, Bool.false_and, if_true, if_false, Bool.false_eq_true, reduceIte, Int.reduceEq, Int.reduceLT, Int.reduceLE, Nat.reduceLT, Nat.reduceAdd, Nat.reduceSub, List.map_cons, List.map_nil, List.cons_append, List.nil_append, List.replicate, List.getElem?_cons_zero, List.getElem?_cons_succ, List.set, List.set_cons_zero, List.set_cons_succ, List.length_cons, List.length_nil, List.zip_cons_cons, List.zip_nil_right, List.foldl_cons, List.foldl_nil, List.all_cons, List.all_nil, decide_true, decide_false, Nat.zero_lt_succ, and_self, and_true, true_and, Int.ofNat_lt, Int.ofNat_le, eq_self, flL_cons, flL_nil, fl_int, fl_bl, fl_non, fl_str, fl_Tb, fl_Lab, fl_lI, fl_lT, fl_lLa, tup_0, tup_1, sh_o, sh_s, sh_g, sh_k, gv_o, gv_s, gv_g, gv_k, val_var, jValV_s, jValV_g, jValV_k, jValV_t, jValE_o, jValE_s, jValE_g, jValE_t, mutv_, jMut0_ok, jMut_a, jMut_e, settle_nl, val_np, isPath_call, isPath_bi, isPath_bin, isPath_lst, isPath_tup, isPath_slc, isPath_comp, isPath_meth, kVar_own, shareL_I, shareL_T, shareL_La, own_lI, own_lT, own_lLa, isL_l, isL_T, lent_sI, lent_sT, lent_sLa, lent_T, lent_La, lent_int, lent_bl, lent_non, lent_str, lent_lI, lent_lT, lent_lLa, isO_int, isB_bl, isB_non, isN_int, isN_non, cmp_neB, cmp_eqN, cmp_eqTs, cmp_neTs, cmp_neLas, len0, len1, f_law_is_least, hst, hr1, hr2, hn, h, Option.isNone_some]
  · rw [hq] at h ⊢
    rw [Option.map_none] at h
    dsimp only at h
    by_cases hb : b = []
    · subst hb
      simp only [execs_cons, execs_nil, asg_, augv_, jAug0_ok, ex_, ret_, if_, for_, whl_, jTest_ok, jTest2_ok, brk_, cnt_, pass_, jSt_ok, jAsg_ok, jAug3_ok, jAug2_ok, jEx_ok, jRet_ok, jIf2_t, jIf2_f, jIf_ok, jSeq_nx, jSeq_ret, jSeq_brk, jSeq_cnt, jFor_ok, rng_, jRng_1, jRng_2, set_var, set_tup, bind_one, augI_add, augI_sub, lit_, var_, kVar_flat, kVar_pk, bin_, kBin1_ok, kBin2_ok, kVal_ok, kBl_ok, cmp_, kCmp1_ok, kCmp2_ok, chain_, kCh0_ok, kCh1_ok, kCh2_t, kCh2_f, kCh3_ok, neg_, kNeg_ok, not_, kNot_ok, kNot2_ok, isN_, kIsN_ok, notN_, kNotN_ok, and_, kAnd_ok, kAnd2_t, kAnd2_f, or_, kOr_ok, kOr2_t, kOr2_f, ite_, kIte_ok, kIte2_t, kIte2_f, evs_cons, evs_nil, kCons_ok, kCons2_ok, tup_, kTup_ok, lst_, kLst_ok, bi_, kBi_ok, call_, kCall_ok, kCall2_ok, isi_, kIsi_ok, idxB_, kIdx0_t, kIdx_ok, kIdx2_ok, kTake_ok, take_flat, slc_, kSlc_ok, kSlc2_ok, kSlc3_T, kSlc3_L, evO_none, evO_some, kEnd_ok, comp_, roE, roL, roO, roI, out_ret, out_nx, len_T, len_L, int_I, tup_L, tup_T, tup_nil, bin_add, bin_sub, tru_bl, cmp_lt, cmp_le, cmp_gt, cmp_ge, cmp_eqI, cmp_neI, cmp_eqT, cmp_neT, cmp_eqLa, cmp_neLa, cmp_eqLs, own_T, own_La, own_tup, own_int, own_bl, own_non, own_k, own_s, own_g, Bool.not_false, Bool.not_true, Bool.or_true, Bool.true_or, Bool.or_false, Bool.false_or, Bool.and_true, Bool.true_and, Bool.and_false, Bool.false_and, if_true, if_false, Bool.false_eq_true, reduceIte, Int.reduceEq, Int.reduceLT, Int.reduceLE, Nat.reduceLT, Nat.reduceAdd, Nat.reduceSub, List.map_cons, List.map_nil, List.cons_append, List.nil_append, List.replicate, List.getElem?_cons_zero, List.getElem?_cons_succ, List.set, List.set_cons_zero, List.set_cons_succ, List.length_cons, List.length_nil, List.zip_cons_cons, List.zip_nil_right, List.foldl_cons, List.foldl_nil, List.all_cons, List.all_nil, decide_true, decide_false, Nat.zero_lt_succ, and_self, and_true, true_and, Int.ofNat_lt, Int.ofNat_le, eq_self, flL_cons, flL_nil, fl_int, fl_bl, fl_non, fl_str, fl_Tb, fl_Lab, fl_lI, fl_lT, fl_lLa, tup_0, tup_1, sh_o, sh_s, sh_g, sh_k, gv_o, gv_s, gv_g, gv_k, val_var, jValV_s, jValV_g, jValV_k, jValV_t, jValE_o, jValE_s, jValE_g, jValE_t, mutv_, jMut0_ok, jMut_a, jMut_e, settle_nl, val_np, isPath_call, isPath_bi, isPath_bin, isPath_lst, isPath_tup, isPath_slc, isPath_comp, isPath_meth, kVar_own, shareL_I, shareL_T, shareL_La, own_lI, own_lT, own_lLa, isL_l, isL_T, lent_sI, lent_sT, lent_sLa, lent_T, lent_La, lent_int, lent_bl, lent_non, lent_str, lent_lI, lent_lT, lent_lLa, isO_int, isB_bl, isB_non, isN_int, isN_non, cmp_neB, cmp_eqN, cmp_eqTs, cmp_neTs, cmp_neLas, len0, len1, f_law_is_least, hst, hr1, hr2, hn, h, Option.isNone_none]
    · obtain ⟨x, hx⟩ : ∃ x, b.getLast? = some x := ⟨_, List.getLast?_eq_some_getLast hb⟩
      obtain ⟨y, hy⟩ : ∃ y, l.getLast? = some y := ⟨_, List.getLast?_eq_some_getLast (by intro z; rw [z] at hl; exact absurd hl (by simp))⟩
      have hd : decide (b.getLast? = l.getLast?) = decide (x = y) := by
        rw [hx, hy]
        by_cases h : x = y <;> simp [h]
      simp only [execs_cons, execs_nil, asg_, augv_, jAug0_ok, ex_, ret_, if_, for_, whl_, jTest_ok, jTest2_ok, brk_, cnt_, pass_, jSt_ok, jAsg_ok, jAug3_ok, jAug2_ok, jEx_ok, jRet_ok, jIf2_t, jIf2_f, jIf_ok, jSeq_nx, jSeq_ret, jSeq_brk, jSeq_cnt, jFor_ok, rng_, jRng_1, jRng_2, set_var, set_tup, bind_one, augI_add, augI_sub, lit_, var_, kVar_flat, kVar_pk, bin_, kBin1_ok, kBin2_ok, kVal_ok, kBl_ok, cmp_, kCmp1_ok, kCmp2_ok, chain_, kCh0_ok, kCh1_ok, kCh2_t, kCh2_f, kCh3_ok, neg_, kNeg_ok, not_, kNot_ok, kNot2_ok, isN_, kIsN_ok, notN_, kNotN_ok, and_, kAnd_ok, kAnd2_t, kAnd2_f, or_, kOr_ok, kOr2_t, kOr2_f, ite_, kIte_ok, kIte2_t, kIte2_f, evs_cons, evs_nil, kCons_ok, kCons2_ok, tup_, kTup_ok, lst_, kLst_ok, bi_, kBi_ok, call_, kCall_ok, kCall2_ok, isi_, kIsi_ok, idxB_, kIdx0_t, kIdx_ok, kIdx2_ok, kTake_ok, take_flat, slc_, kSlc_ok, kSlc2_ok, kSlc3_T, kSlc3_L, evO_none, evO_some, kEnd_ok, comp_, roE, roL, roO, roI, out_ret, out_nx, len_T, len_L, int_I, tup_L, tup_T, tup_nil, bin_add, bin_sub, tru_bl, cmp_lt, cmp_le, cmp_gt, cmp_ge, cmp_eqI, cmp_neI, cmp_eqT, cmp_neT, cmp_eqLa, cmp_neLa, cmp_eqLs, own_T, own_La, own_tup, own_int, own_bl, own_non, own_k, own_s, own_g, Bool.not_false, Bool.not_true, Bool.or_true, Bool.true_or, Bool.or_false, Bool.false_or, Bool.and_true, Bool.true_and, Bool.and_false, Bool.false_and, if_true, if_false, Bool.false_eq_true, reduceIte, Int.reduceEq, Int.reduceLT, Int.reduceLE, Nat.reduceLT, Nat.reduceAdd, Nat.reduceSub, List.map_cons, List.map_nil, List.cons_append, List.nil_append, List.replicate, List.getElem?_cons_zero, List.getElem?_cons_succ, List.set, List.set_cons_zero, List.set_cons_succ, List.length_cons, List.length_nil, List.zip_cons_cons, List.zip_nil_right, List.foldl_cons, List.foldl_nil, List.all_cons, List.all_nil, decide_true, decide_false, Nat.zero_lt_succ, and_self, and_true, true_and, Int.ofNat_lt, Int.ofNat_le, eq_self, flL_cons, flL_nil, fl_int, fl_bl, fl_non, fl_str, fl_Tb, fl_Lab, fl_lI, fl_lT, fl_lLa, tup_0, tup_1, sh_o, sh_s, sh_g, sh_k, gv_o, gv_s, gv_g, gv_k, val_var, jValV_s, jValV_g, jValV_k, jValV_t, jValE_o, jValE_s, jValE_g, jValE_t, mutv_, jMut0_ok, jMut_a, jMut_e, settle_nl, val_np, isPath_call, isPath_bi, isPath_bin, isPath_lst, isPath_tup, isPath_slc, isPath_comp, isPath_meth, kVar_own, shareL_I, shareL_T, shareL_La, own_lI, own_lT, own_lLa, isL_l, isL_T, lent_sI, lent_sT, lent_sLa, lent_T, lent_La, lent_int, lent_bl, lent_non, lent_str, lent_lI, lent_lT, lent_lLa, isO_int, isB_bl, isB_non, isN_int, isN_non, cmp_neB, cmp_eqN, cmp_eqTs, cmp_neTs, cmp_neLas, len0, len1, f_law_is_least, hst, hr1, hr2, hn, h, hb, item_last hx, item_last hy, hd, Option.isNone_none]
theorem law_all [H_law_words P] [H_law_is_least P] [H_law_all P] (n : Nat) (k s t : Nat) (hk : k ≤ 4) (hs : s ≤ 8) (ht : t ≤ 9) (hlen : (lassos k s t).length ≤ 1000000) :
    (C P (n + 2)).call "_law_all" [.int k, .int s, .int t] = .ok (.lst .s ((lassos k s t).map LaP)) := by
  rw [c_of H_law_all.h (n + 1) _ rfl]
  obtain ⟨o4, o5, o6, o7, h⟩ := nest (C P (n + 1)) "_law_words" f_law_all_l4 f_law_all_l3 f_law_all_l2 f_law_all_l1 k hk s t hs ht hlen (fun m hm => law_words n k m hk hm) rfl rfl rfl (by
    intro acc sz st b l ha q1 q2 q3
    have hc := law_is_least (P := P) n b l q1 (by omega)
    have hx := jApp_f (i := 3) (x := La b l) (e := [some (.int k), some (.int s), some (.int t), some (.lst .o (acc.map LaP)), some (.int sz), some (T l), some (.int st), some (T b)]) (xs := acc.map LaP) (by rw [List.length_map]; unfold line; omega)
    have hn1 : ("append" != "update") = true := by decide
    cases hI : isL b l with
    | true =>
      rw [hI] at hc
      simp only [execs_cons, execs_nil, asg_, augv_, jAug0_ok, ex_, ret_, if_, for_, whl_, jTest_ok, jTest2_ok, brk_, cnt_, pass_, jSt_ok, jAsg_ok, jAug3_ok, jAug2_ok, jEx_ok, jRet_ok, jIf2_t, jIf2_f, jIf_ok, jSeq_nx, jSeq_ret, jSeq_brk, jSeq_cnt, jFor_ok, rng_, jRng_1, jRng_2, set_var, set_tup, bind_one, augI_add, augI_sub, lit_, var_, kVar_flat, kVar_pk, bin_, kBin1_ok, kBin2_ok, kVal_ok, kBl_ok, cmp_, kCmp1_ok, kCmp2_ok, chain_, kCh0_ok, kCh1_ok, kCh2_t, kCh2_f, kCh3_ok, neg_, kNeg_ok, not_, kNot_ok, kNot2_ok, isN_, kIsN_ok, notN_, kNotN_ok, and_, kAnd_ok, kAnd2_t, kAnd2_f, or_, kOr_ok, kOr2_t, kOr2_f, ite_, kIte_ok, kIte2_t, kIte2_f, evs_cons, evs_nil, kCons_ok, kCons2_ok, tup_, kTup_ok, lst_, kLst_ok, bi_, kBi_ok, call_, kCall_ok, kCall2_ok, isi_, kIsi_ok, idxB_, kIdx0_t, kIdx_ok, kIdx2_ok, kTake_ok, take_flat, slc_, kSlc_ok, kSlc2_ok, kSlc3_T, kSlc3_L, evO_none, evO_some, kEnd_ok, comp_, roE, roL, roO, roI, out_ret, out_nx, len_T, len_L, int_I, tup_L, tup_T, tup_nil, bin_add, bin_sub, tru_bl, cmp_lt, cmp_le, cmp_gt, cmp_ge, cmp_eqI, cmp_neI, cmp_eqT, cmp_neT, cmp_eqLa, cmp_neLa, cmp_eqLs, own_T, own_La, own_tup, own_int, own_bl, own_non, own_k, own_s, own_g, Bool.not_false, Bool.not_true, Bool.or_true, Bool.true_or, Bool.or_false, Bool.false_or, Bool.and_true, Bool.true_and, Bool.and_false, Bool.false_and, if_true, if_false, Bool.false_eq_true, reduceIte, Int.reduceEq, Int.reduceLT, Int.reduceLE, Nat.reduceLT, Nat.reduceAdd, Nat.reduceSub, List.map_cons, List.map_nil, List.cons_append, List.nil_append, List.replicate, List.getElem?_cons_zero, List.getElem?_cons_succ, List.set, List.set_cons_zero, List.set_cons_succ, List.length_cons, List.length_nil, List.zip_cons_cons, List.zip_nil_right, List.foldl_cons, List.foldl_nil, List.all_cons, List.all_nil, decide_true, decide_false, Nat.zero_lt_succ, and_self, and_true, true_and, Int.ofNat_lt, Int.ofNat_le, eq_self, flL_cons, flL_nil, fl_int, fl_bl, fl_non, fl_str, fl_Tb, fl_Lab, fl_lI, fl_lT, fl_lLa, tup_0, tup_1, sh_o, sh_s, sh_g, sh_k, gv_o, gv_s, gv_g, gv_k, val_var, jValV_s, jValV_g, jValV_k, jValV_t, jValE_o, jValE_s, jValE_g, jValE_t, mutv_, jMut0_ok, jMut_a, jMut_e, settle_nl, val_np, isPath_call, isPath_bi, isPath_bin, isPath_lst, isPath_tup, isPath_slc, isPath_comp, isPath_meth, kVar_own, shareL_I, shareL_T, shareL_La, own_lI, own_lT, own_lLa, isL_l, isL_T, lent_sI, lent_sT, lent_sLa, lent_T, lent_La, lent_int, lent_bl, lent_non, lent_str, lent_lI, lent_lT, lent_lLa, isO_int, isB_bl, isB_non, isN_int, isN_non, cmp_neB, cmp_eqN, cmp_eqTs, cmp_neTs, cmp_neLas, len0, len1, f_law_all_l4, hc, hx, hn1, List.map_append]
    | false =>
      rw [hI] at hc
      simp only [execs_cons, execs_nil, asg_, augv_, jAug0_ok, ex_, ret_, if_, for_, whl_, jTest_ok, jTest2_ok, brk_, cnt_, pass_, jSt_ok, jAsg_ok, jAug3_ok, jAug2_ok, jEx_ok, jRet_ok, jIf2_t, jIf2_f, jIf_ok, jSeq_nx, jSeq_ret, jSeq_brk, jSeq_cnt, jFor_ok, rng_, jRng_1, jRng_2, set_var, set_tup, bind_one, augI_add, augI_sub, lit_, var_, kVar_flat, kVar_pk, bin_, kBin1_ok, kBin2_ok, kVal_ok, kBl_ok, cmp_, kCmp1_ok, kCmp2_ok, chain_, kCh0_ok, kCh1_ok, kCh2_t, kCh2_f, kCh3_ok, neg_, kNeg_ok, not_, kNot_ok, kNot2_ok, isN_, kIsN_ok, notN_, kNotN_ok, and_, kAnd_ok, kAnd2_t, kAnd2_f, or_, kOr_ok, kOr2_t, kOr2_f, ite_, kIte_ok, kIte2_t, kIte2_f, evs_cons, evs_nil, kCons_ok, kCons2_ok, tup_, kTup_ok, lst_, kLst_ok, bi_, kBi_ok, call_, kCall_ok, kCall2_ok, isi_, kIsi_ok, idxB_, kIdx0_t, kIdx_ok, kIdx2_ok, kTake_ok, take_flat, slc_, kSlc_ok, kSlc2_ok, kSlc3_T, kSlc3_L, evO_none, evO_some, kEnd_ok, comp_, roE, roL, roO, roI, out_ret, out_nx, len_T, len_L, int_I, tup_L, tup_T, tup_nil, bin_add, bin_sub, tru_bl, cmp_lt, cmp_le, cmp_gt, cmp_ge, cmp_eqI, cmp_neI, cmp_eqT, cmp_neT, cmp_eqLa, cmp_neLa, cmp_eqLs, own_T, own_La, own_tup, own_int, own_bl, own_non, own_k, own_s, own_g, Bool.not_false, Bool.not_true, Bool.or_true, Bool.true_or, Bool.or_false, Bool.false_or, Bool.and_true, Bool.true_and, Bool.and_false, Bool.false_and, if_true, if_false, Bool.false_eq_true, reduceIte, Int.reduceEq, Int.reduceLT, Int.reduceLE, Nat.reduceLT, Nat.reduceAdd, Nat.reduceSub, List.map_cons, List.map_nil, List.cons_append, List.nil_append, List.replicate, List.getElem?_cons_zero, List.getElem?_cons_succ, List.set, List.set_cons_zero, List.set_cons_succ, List.length_cons, List.length_nil, List.zip_cons_cons, List.zip_nil_right, List.foldl_cons, List.foldl_nil, List.all_cons, List.all_nil, decide_true, decide_false, Nat.zero_lt_succ, and_self, and_true, true_and, Int.ofNat_lt, Int.ofNat_le, eq_self, flL_cons, flL_nil, fl_int, fl_bl, fl_non, fl_str, fl_Tb, fl_Lab, fl_lI, fl_lT, fl_lLa, tup_0, tup_1, sh_o, sh_s, sh_g, sh_k, gv_o, gv_s, gv_g, gv_k, val_var, jValV_s, jValV_g, jValV_k, jValV_t, jValE_o, jValE_s, jValE_g, jValE_t, mutv_, jMut0_ok, jMut_a, jMut_e, settle_nl, val_np, isPath_call, isPath_bi, isPath_bin, isPath_lst, isPath_tup, isPath_slc, isPath_comp, isPath_meth, kVar_own, shareL_I, shareL_T, shareL_La, own_lI, own_lT, own_lLa, isL_l, isL_T, lent_sI, lent_sT, lent_sLa, lent_T, lent_La, lent_int, lent_bl, lent_non, lent_str, lent_lI, lent_lT, lent_lLa, isO_int, isB_bl, isB_non, isN_int, isN_non, cmp_neB, cmp_eqN, cmp_eqTs, cmp_neTs, cmp_neLas, len0, len1, f_law_all_l4, hc, List.append_nil])
  have hr1 : isRg 1 = true := by simp [isRg]
  have hr2 : isRg ((t : Int) + 1) = true := isRg_nat (n := t + 1) (by omega)
  have hn : ((t : Int) + 1 - 1).toNat = t := by omega
  simp only [execs_cons, execs_nil, asg_, augv_, jAug0_ok, ex_, ret_, if_, for_, whl_, jTest_ok, jTest2_ok, brk_, cnt_, pass_, jSt_ok, jAsg_ok, jAug3_ok, jAug2_ok, jEx_ok, jRet_ok, jIf2_t, jIf2_f, jIf_ok, jSeq_nx, jSeq_ret, jSeq_brk, jSeq_cnt, jFor_ok, rng_, jRng_1, jRng_2, set_var, set_tup, bind_one, augI_add, augI_sub, lit_, var_, kVar_flat, kVar_pk, bin_, kBin1_ok, kBin2_ok, kVal_ok, kBl_ok, cmp_, kCmp1_ok, kCmp2_ok, chain_, kCh0_ok, kCh1_ok, kCh2_t, kCh2_f, kCh3_ok, neg_, kNeg_ok, not_, kNot_ok, kNot2_ok, isN_, kIsN_ok, notN_, kNotN_ok, and_, kAnd_ok, kAnd2_t, kAnd2_f, or_, kOr_ok, kOr2_t, kOr2_f, ite_, kIte_ok, kIte2_t, kIte2_f, evs_cons, evs_nil, kCons_ok, kCons2_ok, tup_, kTup_ok, lst_, kLst_ok, bi_, kBi_ok, call_, kCall_ok, kCall2_ok, isi_, kIsi_ok, idxB_, kIdx0_t, kIdx_ok, kIdx2_ok, kTake_ok, take_flat, slc_, kSlc_ok, kSlc2_ok, kSlc3_T, kSlc3_L, evO_none, evO_some, kEnd_ok, comp_, roE, roL, roO, roI, out_ret, out_nx, len_T, len_L, int_I, tup_L, tup_T, tup_nil, bin_add, bin_sub, tru_bl, cmp_lt, cmp_le, cmp_gt, cmp_ge, cmp_eqI, cmp_neI, cmp_eqT, cmp_neT, cmp_eqLa, cmp_neLa, cmp_eqLs, own_T, own_La, own_tup, own_int, own_bl, own_non, own_k, own_s, own_g, Bool.not_false, Bool.not_true, Bool.or_true, Bool.true_or, Bool.or_false, Bool.false_or, Bool.and_true, Bool.true_and, Bool.and_false, Bool.false_and, if_true, if_false, Bool.false_eq_true, reduceIte, Int.reduceEq, Int.reduceLT, Int.reduceLE, Nat.reduceLT, Nat.reduceAdd, Nat.reduceSub, List.map_cons, List.map_nil, List.cons_append, List.nil_append, List.replicate, List.getElem?_cons_zero, List.getElem?_cons_succ, List.set, List.set_cons_zero, List.set_cons_succ, List.length_cons, List.length_nil, List.zip_cons_cons, List.zip_nil_right, List.foldl_cons, List.foldl_nil, List.all_cons, List.all_nil, decide_true, decide_false, Nat.zero_lt_succ, and_self, and_true, true_and, Int.ofNat_lt, Int.ofNat_le, eq_self, flL_cons, flL_nil, fl_int, fl_bl, fl_non, fl_str, fl_Tb, fl_Lab, fl_lI, fl_lT, fl_lLa, tup_0, tup_1, sh_o, sh_s, sh_g, sh_k, gv_o, gv_s, gv_g, gv_k, val_var, jValV_s, jValV_g, jValV_k, jValV_t, jValE_o, jValE_s, jValE_g, jValE_t, mutv_, jMut0_ok, jMut_a, jMut_e, settle_nl, val_np, isPath_call, isPath_bi, isPath_bin, isPath_lst, isPath_tup, isPath_slc, isPath_comp, isPath_meth, kVar_own, shareL_I, shareL_T, shareL_La, own_lI, own_lT, own_lLa, isL_l, isL_T, lent_sI, lent_sT, lent_sLa, lent_T, lent_La, lent_int, lent_bl, lent_non, lent_str, lent_lI, lent_lT, lent_lLa, isO_int, isB_bl, isB_non, isN_int, isN_non, cmp_neB, cmp_eqN, cmp_eqTs, cmp_neTs, cmp_neLas, len0, len1, f_law_all, hr1, hr2, hn, h]
end Las
end

section
set_option maxRecDepth 100000
namespace Lzk02
open PySem L2 Lz Las
def top (i : Nat) : Stmt := PySem.Challenge.pw_lassohold_k02_all_short_lassos.main.body.getD i (.Pass ⟨0, 0, 0, 0⟩)
/- law: 0=script 1=base 2=k 3=length 4=told 5=start 6=turn 7=one 8=lasso -/
def f_law_e1 : E := (.call "_law_is_lasso" [(.var 7), (.var 2)])

def f_law_q2 : E := (.call "_law_same" [(.var 7), (.var 8)])

def f_law_e2 : E := (.var 7)

def f_law_s1 : List S := [
  .asg (.var 1) (.call "_law_cell" [(.var 0), (.lit (.int 0))]),
  .asg (.var 2) (.bin .add (.lit (.int 1)) (.bin .mod (.bi "int" [(.var 1)]) (.lit (.int 4)))),
  .asg (.var 3) (.bin .mod (.bi "int" [(.bin .fdiv (.var 1) (.lit (.int 4)))]) (.idx (.lst [(.lit (.int 9)), (.lit (.int 8)), (.lit (.int 6)), (.lit (.int 5))]) (.bin .sub (.var 2) (.lit (.int 1))))),
  .asg (.var 4) (.call "words_of" [(.var 2), (.var 3)])]
def f_law_s2 : List S := [
  .ifS (.orE (.notE (.isi (.var 4) ["list"])) (.cmp .ne (.var 4) (.call "_law_words" [(.var 2), (.var 3)]))) [
      .ret (.lit (.bl false))] [],
  .asg (.var 5) (.bin .mod (.bi "int" [(.bin .fdiv (.var 1) (.lit (.int 64)))]) (.idx (.lst [(.lit (.int 5)), (.lit (.int 4)), (.lit (.int 3)), (.lit (.int 2))]) (.bin .sub (.var 2) (.lit (.int 1))))),
  .asg (.var 6) (.bin .add (.lit (.int 1)) (.bin .mod (.bi "int" [(.bin .fdiv (.var 1) (.lit (.int 320)))]) (.idx (.lst [(.lit (.int 5)), (.lit (.int 4)), (.lit (.int 3)), (.lit (.int 3))]) (.bin .sub (.var 2) (.lit (.int 1))))))]
def f_law_s3 : List S := [
  .asg (.var 4) (.call "lassos_of" [(.var 2), (.var 5), (.var 6)]),
  .ifS (.orE (.notE (.isi (.var 4) ["list"])) (.orE (.cmp .ne (.var 4) (.call "_law_all" [(.var 2), (.var 5), (.var 6)])) (.cmp .isin (.lit (.bl false)) (.comp false [7] true (.val (.var 4)) none f_law_e1)))) [
      .ret (.lit (.bl false))] []]
def f_law_s4 : List S := [
  .asg (.var 8) (.call "_law_lasso" [(.call "_law_cell" [(.var 0), (.lit (.int 1))]), (.var 2), (.lit (.int 4))]),
  .ifS (.andE (.cmp .le (.bi "len" [(.idx (.var 8) (.lit (.int 0)))]) (.var 5)) (.cmp .le (.bi "len" [(.idx (.var 8) (.lit (.int 1)))]) (.var 6))) [
      .ifS (.orE (.cmp .notin (.call "least_lasso" [(.var 8)]) (.var 4)) (.cmp .ne (.bi "len" [(.comp false [7] true (.val (.var 4)) (some f_law_q2) f_law_e2)]) (.lit (.int 1)))) [
        .ret (.lit (.bl false))] []] [],
  .ret (.cmp .eq (.call "lassos_of" [(.var 2), (.var 5), (.lit (.int 0))]) (.lst []))]
def f_law : Lz.Fn where
  np := 1
  ns := 9
  body := f_law_s1 ++ (f_law_s2 ++ (f_law_s3 ++ (f_law_s4)))

def d_least_loop : DefI := ⟨"least_loop", top 1, Las.f_least_loop, ["loop", "length"], ["loop"]⟩
def d_least_lasso : DefI := ⟨"least_lasso", top 2, Las.f_least_lasso, ["lasso", "beginning", "loop"], ["lasso"]⟩
def d_words_of : DefI := ⟨"words_of", top 3, Las.f_words_of, ["letters", "length", "found", "_", "longer", "word", "letter"], ["letters", "length"]⟩
def d_lassos_of : DefI := ⟨"lassos_of", top 4, Las.f_lassos_of, ["letters", "beginning", "loop", "found", "turn", "last", "start", "first"], ["letters", "beginning", "loop"]⟩
def d_law_cell : DefI := ⟨"_law_cell", top 6, Las.f_law_cell, ["script", "k", "cell"], ["script", "k"]⟩
def d_law_at : DefI := ⟨"_law_at", top 7, Las.f_law_at, ["lasso", "place"], ["lasso", "place"]⟩
def d_law_letters : DefI := ⟨"_law_letters", top 8, Las.f_law_letters, ["lasso", "count", "place"], ["lasso", "count"]⟩
def d_law_same : DefI := ⟨"_law_same", top 9, Las.f_law_same, ["one", "two", "count"], ["one", "two"]⟩
def d_law_word : DefI := ⟨"_law_word", top 10, Las.f_law_word, ["cell", "k", "length", "word", "turn"], ["cell", "k", "length"]⟩
def d_law_lasso : DefI := ⟨"_law_lasso", top 11, Las.f_law_lasso, ["cell", "k", "most", "start", "turn"], ["cell", "k", "most"]⟩
def d_law_all : DefI := ⟨"_law_all", top 12, Las.f_law_all, ["k", "start", "turn", "found", "size", "loop", "length", "first"], ["k", "start", "turn"]⟩
def d_law_words : DefI := ⟨"_law_words", top 13, Las.f_law_words, ["k", "length", "found", "turn", "longer", "word", "letter"], ["k", "length"]⟩
def d_law_is_least : DefI := ⟨"_law_is_least", top 14, Las.f_law_is_least, ["lasso", "first", "loop", "size"], ["lasso"]⟩
def d_law_is_lasso : DefI := ⟨"_law_is_lasso", top 15, Las.f_law_is_lasso, ["lasso", "k", "x"], ["lasso", "k"]⟩
def d_law : DefI := ⟨"law", top 16, f_law, ["script", "base", "k", "length", "told", "start", "turn", "one", "lasso"], ["script"]⟩
def defs : List DefI := [d_least_loop, d_least_lasso, d_words_of, d_lassos_of, d_law_cell, d_law_at, d_law_letters, d_law_same, d_law_word, d_law_lasso, d_law_all, d_law_words, d_law_is_least, d_law_is_lasso, d_law]
theorem ok_d_least_loop : defOk defs d_least_loop = true := by decide +kernel
theorem bd_d_least_loop : BindsD d_least_loop := fun _ _ _ _ _ _ us hl => match us, hl with | [_], _ => rfl
theorem ok_d_least_lasso : defOk defs d_least_lasso = true := by decide +kernel
theorem bd_d_least_lasso : BindsD d_least_lasso := fun _ _ _ _ _ _ us hl => match us, hl with | [_], _ => rfl
theorem ok_d_words_of : defOk defs d_words_of = true := by decide +kernel
theorem bd_d_words_of : BindsD d_words_of := fun _ _ _ _ _ _ us hl => match us, hl with | [_, _], _ => rfl
theorem ok_d_lassos_of : defOk defs d_lassos_of = true := by decide +kernel
theorem bd_d_lassos_of : BindsD d_lassos_of := fun _ _ _ _ _ _ us hl => match us, hl with | [_, _, _], _ => rfl
theorem ok_d_law_cell : defOk defs d_law_cell = true := by decide +kernel
theorem bd_d_law_cell : BindsD d_law_cell := fun _ _ _ _ _ _ us hl => match us, hl with | [_, _], _ => rfl
theorem ok_d_law_at : defOk defs d_law_at = true := by decide +kernel
theorem bd_d_law_at : BindsD d_law_at := fun _ _ _ _ _ _ us hl => match us, hl with | [_, _], _ => rfl
theorem ok_d_law_letters : defOk defs d_law_letters = true := by decide +kernel
theorem bd_d_law_letters : BindsD d_law_letters := fun _ _ _ _ _ _ us hl => match us, hl with | [_, _], _ => rfl
theorem ok_d_law_same : defOk defs d_law_same = true := by decide +kernel
theorem bd_d_law_same : BindsD d_law_same := fun _ _ _ _ _ _ us hl => match us, hl with | [_, _], _ => rfl
theorem ok_d_law_word : defOk defs d_law_word = true := by decide +kernel
theorem bd_d_law_word : BindsD d_law_word := fun _ _ _ _ _ _ us hl => match us, hl with | [_, _, _], _ => rfl
theorem ok_d_law_lasso : defOk defs d_law_lasso = true := by decide +kernel
theorem bd_d_law_lasso : BindsD d_law_lasso := fun _ _ _ _ _ _ us hl => match us, hl with | [_, _, _], _ => rfl
theorem ok_d_law_all : defOk defs d_law_all = true := by decide +kernel
theorem bd_d_law_all : BindsD d_law_all := fun _ _ _ _ _ _ us hl => match us, hl with | [_, _, _], _ => rfl
theorem ok_d_law_words : defOk defs d_law_words = true := by decide +kernel
theorem bd_d_law_words : BindsD d_law_words := fun _ _ _ _ _ _ us hl => match us, hl with | [_, _], _ => rfl
theorem ok_d_law_is_least : defOk defs d_law_is_least = true := by decide +kernel
theorem bd_d_law_is_least : BindsD d_law_is_least := fun _ _ _ _ _ _ us hl => match us, hl with | [_], _ => rfl
theorem ok_d_law_is_lasso : defOk defs d_law_is_lasso = true := by decide +kernel
theorem bd_d_law_is_lasso : BindsD d_law_is_lasso := fun _ _ _ _ _ _ us hl => match us, hl with | [_, _], _ => rfl
theorem ok_d_law : defOk defs d_law = true := by decide +kernel
theorem bd_d_law : BindsD d_law := fun _ _ _ _ _ _ us hl => match us, hl with | [_], _ => rfl
theorem nd : (defs.map DefI.nm).Nodup := by decide +kernel
abbrev P : Prog := progOf defs
theorem mem_d_least_loop : d_least_loop ∈ defs := by unfold defs; simp only [List.mem_cons, true_or, or_true]
theorem look_least_loop : P.fns.lookup "least_loop" = some Las.f_least_loop := lookup_def nd mem_d_least_loop
theorem mem_d_least_lasso : d_least_lasso ∈ defs := by unfold defs; simp only [List.mem_cons, true_or, or_true]
theorem look_least_lasso : P.fns.lookup "least_lasso" = some Las.f_least_lasso := lookup_def nd mem_d_least_lasso
theorem mem_d_words_of : d_words_of ∈ defs := by unfold defs; simp only [List.mem_cons, true_or, or_true]
theorem look_words_of : P.fns.lookup "words_of" = some Las.f_words_of := lookup_def nd mem_d_words_of
theorem mem_d_lassos_of : d_lassos_of ∈ defs := by unfold defs; simp only [List.mem_cons, true_or, or_true]
theorem look_lassos_of : P.fns.lookup "lassos_of" = some Las.f_lassos_of := lookup_def nd mem_d_lassos_of
theorem mem_d_law_cell : d_law_cell ∈ defs := by unfold defs; simp only [List.mem_cons, true_or, or_true]
theorem look_law_cell : P.fns.lookup "_law_cell" = some Las.f_law_cell := lookup_def nd mem_d_law_cell
theorem mem_d_law_at : d_law_at ∈ defs := by unfold defs; simp only [List.mem_cons, true_or, or_true]
theorem look_law_at : P.fns.lookup "_law_at" = some Las.f_law_at := lookup_def nd mem_d_law_at
theorem mem_d_law_letters : d_law_letters ∈ defs := by unfold defs; simp only [List.mem_cons, true_or, or_true]
theorem look_law_letters : P.fns.lookup "_law_letters" = some Las.f_law_letters := lookup_def nd mem_d_law_letters
theorem mem_d_law_same : d_law_same ∈ defs := by unfold defs; simp only [List.mem_cons, true_or, or_true]
theorem look_law_same : P.fns.lookup "_law_same" = some Las.f_law_same := lookup_def nd mem_d_law_same
theorem mem_d_law_word : d_law_word ∈ defs := by unfold defs; simp only [List.mem_cons, true_or, or_true]
theorem look_law_word : P.fns.lookup "_law_word" = some Las.f_law_word := lookup_def nd mem_d_law_word
theorem mem_d_law_lasso : d_law_lasso ∈ defs := by unfold defs; simp only [List.mem_cons, true_or, or_true]
theorem look_law_lasso : P.fns.lookup "_law_lasso" = some Las.f_law_lasso := lookup_def nd mem_d_law_lasso
theorem mem_d_law_all : d_law_all ∈ defs := by unfold defs; simp only [List.mem_cons, true_or, or_true]
theorem look_law_all : P.fns.lookup "_law_all" = some Las.f_law_all := lookup_def nd mem_d_law_all
theorem mem_d_law_words : d_law_words ∈ defs := by unfold defs; simp only [List.mem_cons, true_or, or_true]
theorem look_law_words : P.fns.lookup "_law_words" = some Las.f_law_words := lookup_def nd mem_d_law_words
theorem mem_d_law_is_least : d_law_is_least ∈ defs := by unfold defs; simp only [List.mem_cons, true_or, or_true]
theorem look_law_is_least : P.fns.lookup "_law_is_least" = some Las.f_law_is_least := lookup_def nd mem_d_law_is_least
theorem mem_d_law_is_lasso : d_law_is_lasso ∈ defs := by unfold defs; simp only [List.mem_cons, true_or, or_true]
theorem look_law_is_lasso : P.fns.lookup "_law_is_lasso" = some Las.f_law_is_lasso := lookup_def nd mem_d_law_is_lasso
theorem mem_d_law : d_law ∈ defs := by unfold defs; simp only [List.mem_cons, true_or, or_true]
theorem look_law : P.fns.lookup "law" = some f_law := lookup_def nd mem_d_law
instance : Las.H_least_loop P := ⟨look_least_loop⟩
instance : Las.H_least_lasso P := ⟨look_least_lasso⟩
instance : Las.H_words_of P := ⟨look_words_of⟩
instance : Las.H_lassos_of P := ⟨look_lassos_of⟩
instance : Las.H_law_cell P := ⟨look_law_cell⟩
instance : Las.H_law_at P := ⟨look_law_at⟩
instance : Las.H_law_letters P := ⟨look_law_letters⟩
instance : Las.H_law_same P := ⟨look_law_same⟩
instance : Las.H_law_word P := ⟨look_law_word⟩
instance : Las.H_law_lasso P := ⟨look_law_lasso⟩
instance : Las.H_law_all P := ⟨look_law_all⟩
instance : Las.H_law_words P := ⟨look_law_words⟩
instance : Las.H_law_is_least P := ⟨look_law_is_least⟩
instance : Las.H_law_is_lasso P := ⟨look_law_is_lasso⟩
theorem all_of {p : DefI → Prop} (h0 : p d_least_loop) (h1 : p d_least_lasso) (h2 : p d_words_of) (h3 : p d_lassos_of) (h4 : p d_law_cell) (h5 : p d_law_at) (h6 : p d_law_letters) (h7 : p d_law_same) (h8 : p d_law_word) (h9 : p d_law_lasso) (h10 : p d_law_all) (h11 : p d_law_words) (h12 : p d_law_is_least) (h13 : p d_law_is_lasso) (h14 : p d_law) : ∀ d ∈ defs, p d := by
  intro d hd
  simp only [defs, List.mem_cons, List.not_mem_nil, or_false] at hd
  rcases hd with rfl | rfl | rfl | rfl | rfl | rfl | rfl | rfl | rfl | rfl | rfl | rfl | rfl | rfl | rfl
  · exact h0
  · exact h1
  · exact h2
  · exact h3
  · exact h4
  · exact h5
  · exact h6
  · exact h7
  · exact h8
  · exact h9
  · exact h10
  · exact h11
  · exact h12
  · exact h13
  · exact h14

theorem all_ok : ∀ d ∈ defs, defOk defs d = true := all_of ok_d_least_loop ok_d_least_lasso ok_d_words_of ok_d_lassos_of ok_d_law_cell ok_d_law_at ok_d_law_letters ok_d_law_same ok_d_law_word ok_d_law_lasso ok_d_law_all ok_d_law_words ok_d_law_is_least ok_d_law_is_lasso ok_d_law
theorem all_bd : ∀ d ∈ defs, BindsD d := all_of bd_d_least_loop bd_d_least_lasso bd_d_words_of bd_d_lassos_of bd_d_law_cell bd_d_law_at bd_d_law_letters bd_d_law_same bd_d_law_word bd_d_law_lasso bd_d_law_all bd_d_law_words bd_d_law_is_least bd_d_law_is_lasso bd_d_law
end Lzk02
end

section
set_option maxRecDepth 100000
namespace Lzk02
open Lz Las
theorem ix4 {a b c d : Nat} {j : Nat} (hj : j < 4) (B : Nat) (h : a ≤ B ∧ b ≤ B ∧ c ≤ B ∧ d ≤ B) (h0 : 0 < a ∧ 0 < b ∧ 0 < c ∧ 0 < d) : ∃ m : Nat, 0 < m ∧ m ≤ B ∧ m = [a, b, c, d].getD j 0 ∧ item (.lst .o [.int a, .int b, .int c, .int d]) (.int (((j + 1 : Nat) : Int) - 1)) = .ok (.int m) := by
  match j, hj with
  | 0, _ => exact ⟨a, h0.1, h.1, rfl, rfl⟩
  | 1, _ => exact ⟨b, h0.2.1, h.2.1, rfl, rfl⟩
  | 2, _ => exact ⟨c, h0.2.2.1, h.2.2.1, rfl, rfl⟩
  | 3, _ => exact ⟨d, h0.2.2.2, h.2.2.2, rfl, rfl⟩
theorem lend_K (sc : List Int) (m : Int) : lendL [.lst .k (sc.map .int), .int m] = [.lst .k (sc.map .int), .int m] := by
  show [(D.lst .k (sc.map .int)).fl Fg.gv, (D.int m).fl Fg.gv] = _
  rw [fl_lI]; rfl
theorem s12 (n : Nat) (sc : List Int) : ∃ (base : Int) (j m s t : Nat), j < 4 ∧ s ≤ 4 ∧ t ≤ 5 ∧ (lassos (j + 1) s t).length ≤ 1000000 ∧ execs (C P (n + 3)) (f_law_s1 ++ f_law_s2) [some (.lst .k (sc.map .int)), none, none, none, none, none, none, none, none] =
    .ok (.nx, [some (.lst .k (sc.map .int)), some (.int base), some (.int (j + 1 : Nat)), some (.int m), some (.lst .s ((words (j + 1) m).map T)), some (.int s), some (.int t), none, none]) := by
  obtain ⟨v0, h0⟩ := law_cell (P := P) (n + 2) sc 0 (by omega)
  have z0 : ((0 : Nat) : Int) = 0 := rfl
  rw [z0] at h0
  obtain ⟨j, hj, hj2⟩ := int_mod v0 (m := 4) (by omega)
  have hj2 : v0.fmod 4 = (j : Int) := hj2
  have e1 : 1 + (j : Int) = ((j + 1 : Nat) : Int) := by omega
  obtain ⟨a, a0, a9, _, ha⟩ := ix4 (a := 9) (b := 8) (c := 6) (d := 5) hj 9 (by omega) (by omega)
  obtain ⟨b, b0, b9, hb2, hb⟩ := ix4 (a := 5) (b := 4) (c := 3) (d := 2) hj 5 (by omega) (by omega)
  obtain ⟨d, d0, d9, hd2, hd⟩ := ix4 (a := 5) (b := 4) (c := 3) (d := 3) hj 5 (by omega) (by omega)
  obtain ⟨m, hm1, hm2⟩ := int_mod (v0.fdiv 4) a0
  obtain ⟨s, hs1, hs2⟩ := int_mod (v0.fdiv 64) b0
  obtain ⟨t, ht1, ht2⟩ := int_mod (v0.fdiv 320) d0
  have et : 1 + (t : Int) = ((t + 1 : Nat) : Int) := by omega
  have n4 : (4 : Int) ≠ 0 := by omega
  have n4' : (4 : Int).natAbs < 1073741824 := by omega
  have n64 : (64 : Int) ≠ 0 := by omega
  have n64' : (64 : Int).natAbs < 1073741824 := by omega
  have n320 : (320 : Int) ≠ 0 := by omega
  have n320' : (320 : Int).natAbs < 1073741824 := by omega
  have na : (a : Int) ≠ 0 := by omega
  have nb : (b : Int) ≠ 0 := by omega
  have nd : (d : Int) ≠ 0 := by omega
  have hw := words_of (P := P) (n + 2) (j + 1) m (by omega) (by omega)
  have hw2 := law_words (P := P) (n + 2) (j + 1) m (by omega) (by omega)
  have hlen : (lassos (j + 1) s (t + 1)).length ≤ 1000000 := by
    have hj4 : j = 0 ∨ j = 1 ∨ j = 2 ∨ j = 3 := by omega
    rcases hj4 with rfl | rfl | rfl | rfl
    · have hb2 : b = 5 := hb2
      have hd2 : d = 5 := hd2
      have r1 := lassos_len 1 s (t + 1) (by omega) 5 (by omega) (by omega)
      have r2 : (t + 1) * (1 ^ 5 * ((s + 1) * 1 ^ 5)) ≤ 5 * (1 ^ 5 * (5 * 1 ^ 5)) := Nat.mul_le_mul (by omega) (Nat.mul_le_mul_left _ (Nat.mul_le_mul_right _ (by omega)))
      have r3 : 5 * (1 ^ 5 * (5 * 1 ^ 5)) ≤ 1000000 := by decide +kernel
      exact Nat.le_trans r1 (Nat.le_trans r2 r3)
    · have hb2 : b = 4 := hb2
      have hd2 : d = 4 := hd2
      have r1 := lassos_len 2 s (t + 1) (by omega) 4 (by omega) (by omega)
      have r2 : (t + 1) * (2 ^ 4 * ((s + 1) * 2 ^ 4)) ≤ 4 * (2 ^ 4 * (4 * 2 ^ 4)) := Nat.mul_le_mul (by omega) (Nat.mul_le_mul_left _ (Nat.mul_le_mul_right _ (by omega)))
      have r3 : 4 * (2 ^ 4 * (4 * 2 ^ 4)) ≤ 1000000 := by decide +kernel
      exact Nat.le_trans r1 (Nat.le_trans r2 r3)
    · have hb2 : b = 3 := hb2
      have hd2 : d = 3 := hd2
      have r1 := lassos_len 3 s (t + 1) (by omega) 3 (by omega) (by omega)
      have r2 : (t + 1) * (3 ^ 3 * ((s + 1) * 3 ^ 3)) ≤ 3 * (3 ^ 3 * (3 * 3 ^ 3)) := Nat.mul_le_mul (by omega) (Nat.mul_le_mul_left _ (Nat.mul_le_mul_right _ (by omega)))
      have r3 : 3 * (3 ^ 3 * (3 * 3 ^ 3)) ≤ 1000000 := by decide +kernel
      exact Nat.le_trans r1 (Nat.le_trans r2 r3)
    · have hb2 : b = 2 := hb2
      have hd2 : d = 3 := hd2
      have r1 := lassos_len 4 s (t + 1) (by omega) 3 (by omega) (by omega)
      have r2 : (t + 1) * (4 ^ 3 * ((s + 1) * 4 ^ 3)) ≤ 3 * (4 ^ 3 * (2 * 4 ^ 3)) := Nat.mul_le_mul (by omega) (Nat.mul_le_mul_left _ (Nat.mul_le_mul_right _ (by omega)))
      have r3 : 3 * (4 ^ 3 * (2 * 4 ^ 3)) ≤ 1000000 := by decide +kernel
      exact Nat.le_trans r1 (Nat.le_trans r2 r3)
  have ha : item (.lst .o [.int 9, .int 8, .int 6, .int 5]) (.int (((j + 1 : Nat) : Int) - 1)) = .ok (.int a) := ha
  have hb : item (.lst .o [.int 5, .int 4, .int 3, .int 2]) (.int (((j + 1 : Nat) : Int) - 1)) = .ok (.int b) := hb
  have hd : item (.lst .o [.int 5, .int 4, .int 3, .int 3]) (.int (((j + 1 : Nat) : Int) - 1)) = .ok (.int d) := hd
  refine ⟨v0, j, m, s, t + 1, hj, by omega, by omega, hlen, ?_⟩
  have lk := lend_K sc
  simp only [execs_cons, execs_nil, asg_, augv_, jAug0_ok, ex_, ret_, if_, for_, whl_, jTest_ok, jTest2_ok, brk_, cnt_, pass_, jSt_ok, jAsg_ok, jAug3_ok, jAug2_ok, jEx_ok, jRet_ok, jIf2_t, jIf2_f, jIf_ok, jSeq_nx, jSeq_ret, jSeq_brk, jSeq_cnt, jFor_ok, rng_, jRng_1, jRng_2, set_var, set_tup, bind_one, augI_add, augI_sub, lit_, var_, kVar_flat, kVar_pk, bin_, kBin1_ok, kBin2_ok, kVal_ok, kBl_ok, cmp_, kCmp1_ok, kCmp2_ok, chain_, kCh0_ok, kCh1_ok, kCh2_t, kCh2_f, kCh3_ok, neg_, kNeg_ok, not_, kNot_ok, kNot2_ok, isN_, kIsN_ok, notN_, kNotN_ok, and_, kAnd_ok, kAnd2_t, kAnd2_f, or_, kOr_ok, kOr2_t, kOr2_f, ite_, kIte_ok, kIte2_t, kIte2_f, evs_cons, evs_nil, kCons_ok, kCons2_ok, tup_, kTup_ok, lst_, kLst_ok, bi_, kBi_ok, call_, kCall_ok, kCall2_ok, isi_, kIsi_ok, idxB_, kIdx0_t, kIdx_ok, kIdx2_ok, kTake_ok, take_flat, slc_, kSlc_ok, kSlc2_ok, kSlc3_T, kSlc3_L, evO_none, evO_some, kEnd_ok, comp_, roE, roL, roO, roI, out_ret, out_nx, len_T, len_L, int_I, tup_L, tup_T, tup_nil, bin_add, bin_sub, tru_bl, cmp_lt, cmp_le, cmp_gt, cmp_ge, cmp_eqI, cmp_neI, cmp_eqT, cmp_neT, cmp_eqLa, cmp_neLa, cmp_eqLs, own_T, own_La, own_tup, own_int, own_bl, own_non, own_k, own_s, own_g, Bool.not_false, Bool.not_true, Bool.or_true, Bool.true_or, Bool.or_false, Bool.false_or, Bool.and_true, Bool.true_and, Bool.and_false, Bool.false_and, if_true, if_false, Bool.false_eq_true, reduceIte, Int.reduceEq, Int.reduceLT, Int.reduceLE, Nat.reduceLT, Nat.reduceAdd, Nat.reduceSub, List.map_cons, List.map_nil, List.cons_append, List.nil_append, List.replicate, List.getElem?_cons_zero, List.getElem?_cons_succ, List.set, List.set_cons_zero, List.set_cons_succ, List.length_cons, List.length_nil, List.zip_cons_cons, List.zip_nil_right, List.foldl_cons, List.foldl_nil, List.all_cons, List.all_nil, decide_true, decide_false, Nat.zero_lt_succ, and_self, and_true, true_and, Int.ofNat_lt, Int.ofNat_le, eq_self, flL_cons, flL_nil, fl_int, fl_bl, fl_non, fl_str, fl_Tb, fl_Lab, fl_lI, fl_lT, fl_lLa, tup_0, tup_1, sh_o, sh_s, sh_g, sh_k, gv_o, gv_s, gv_g, gv_k, val_var, jValV_s, jValV_g, jValV_k, jValV_t, jValE_o, jValE_s, jValE_g, jValE_t, mutv_, jMut0_ok, jMut_a, jMut_e, settle_nl, val_np, isPath_call, isPath_bi, isPath_bin, isPath_lst, isPath_tup, isPath_slc, isPath_comp, isPath_meth, kVar_own, shareL_I, shareL_T, shareL_La, own_lI, own_lT, own_lLa, isL_l, isL_T, lent_sI, lent_sT, lent_sLa, lent_T, lent_La, lent_int, lent_bl, lent_non, lent_str, lent_lI, lent_lT, lent_lLa, isO_int, isB_bl, isB_non, isN_int, isN_non, cmp_neB, cmp_eqN, cmp_eqTs, cmp_neTs, cmp_neLas, len0, len1, f_law_s1, f_law_s2, lk, h0, bin_mod n4, hj2, e1, bin_fdiv n4 n4', ha, take_flat, bin_mod na, hm2, hw, hw2, bin_fdiv n64 n64', hb, bin_mod nb, hs2, bin_fdiv n320 n320', hd, bin_mod nd, ht2, et]
/-- False in a row of Trues -/
theorem isin_tt (c : Ctx) {f : Fg} {xs : List D} (h : ∀ x ∈ xs, x = .bl true) : cmpD c .isin (.bl false) (.lst f xs) = .ok false := by
  show (if ((D.bl false).flat && flatL xs) = true then Except.ok (xs.any fun y => D.eq y (.bl false)) else _) = _
  have h1 : flatL xs = true := by
    unfold flatL
    rw [List.all_eq_true]
    intro x hx
    rw [h x hx]
    rfl
  have h2 : (xs.any fun y => D.eq y (.bl false)) = false := by
    rw [List.any_eq_false]
    intro x hx
    rw [h x hx]
    rw [D.eq]
    decide
  rw [h1, h2]
  rfl
theorem s3 (n : Nat) (D0 D1 D3 D4 : D) (j s t : Nat) (hj : j < 4) (hs : s ≤ 4) (ht : t ≤ 5) (hlen : (lassos (j + 1) s t).length ≤ 1000000) : execs (C P (n + 3)) f_law_s3 [some D0, some D1, some (.int (j + 1 : Nat)), some D3, some D4, some (.int s), some (.int t), none, none] =
    .ok (.nx, [some D0, some D1, some (.int (j + 1 : Nat)), some D3, some (.lst .s ((lassos (j + 1) s t).map LaP)), some (.int s), some (.int t), none, none]) := by
  have h1 := lassos_of (P := P) n (j + 1) s t (by omega) (by omega) (by omega) hlen
  have h2 := law_all (P := P) (n + 1) (j + 1) s t (by omega) (by omega) (by omega) hlen
  have hro : roE f_law_e1 = true := rfl
  have hk := kComp_map (c := C P (n + 3)) (t := [7]) (one := true) (ro := true) (keep := false) (cond := none) (elt := f_law_e1) (xs := (lassos (j + 1) s t).map LaP) (env1 := [some D0, some D1, some (.int (j + 1 : Nat)), some D3, some (.lst .s ((lassos (j + 1) s t).map LaP)), some (.int s), some (.int t), none, none]) (g := fun _ => some (.bl true))
    (by rw [List.length_map]; unfold line; omega) (by
      intro x hx
      obtain ⟨⟨b, l⟩, hp, rfl⟩ := List.mem_map.mp hx
      obtain ⟨p1, p2, p3, p4, _⟩ := mem_lassos.mp hp
      have p1 : 0 < l.length := p1
      have p2 : l.length ≤ t := p2
      have p3 : b.length ≤ s := p3
      have p4 : ∀ y ∈ b ++ l, 0 ≤ y ∧ y < ((j + 1 : Nat) : Int) := p4
      have hc := law_is_lasso (P := P) (n + 2) b l ((j + 1 : Nat) : Int) p1 (by omega) p4
      have hv : ev (C P (n + 3)) true false f_law_e1 [some D0, some D1, some (.int (j + 1 : Nat)), some D3, some (.lst .s ((lassos (j + 1) s t).map LaP)), some (.int s), some (.int t), some (La b l), none] = .ok (.bl true, [some D0, some D1, some (.int (j + 1 : Nat)), some D3, some (.lst .s ((lassos (j + 1) s t).map LaP)), some (.int s), some (.int t), some (La b l), none]) := by
        simp only [execs_cons, execs_nil, asg_, augv_, jAug0_ok, ex_, ret_, if_, for_, whl_, jTest_ok, jTest2_ok, brk_, cnt_, pass_, jSt_ok, jAsg_ok, jAug3_ok, jAug2_ok, jEx_ok, jRet_ok, jIf2_t, jIf2_f, jIf_ok, jSeq_nx, jSeq_ret, jSeq_brk, jSeq_cnt, jFor_ok, rng_, jRng_1, jRng_2, set_var, set_tup, bind_one, augI_add, augI_sub, lit_, var_, kVar_flat, kVar_pk, bin_, kBin1_ok, kBin2_ok, kVal_ok, kBl_ok, cmp_, kCmp1_ok, kCmp2_ok, chain_, kCh0_ok, kCh1_ok, kCh2_t, kCh2_f, kCh3_ok, neg_, kNeg_ok, not_, kNot_ok, kNot2_ok, isN_, kIsN_ok, notN_, kNotN_ok, and_, kAnd_ok, kAnd2_t, kAnd2_f, or_, kOr_ok, kOr2_t, kOr2_f, ite_, kIte_ok, kIte2_t, kIte2_f, evs_cons, evs_nil, kCons_ok, kCons2_ok, tup_, kTup_ok, lst_, kLst_ok, bi_, kBi_ok, call_, kCall_ok, kCall2_ok, isi_, kIsi_ok, idxB_, kIdx0_t, kIdx_ok, kIdx2_ok, kTake_ok, take_flat, slc_, kSlc_ok, kSlc2_ok, kSlc3_T, kSlc3_L, evO_none, evO_some, kEnd_ok, comp_, roE, roL, roO, roI, out_ret, out_nx, len_T, len_L, int_I, tup_L, tup_T, tup_nil, bin_add, bin_sub, tru_bl, cmp_lt, cmp_le, cmp_gt, cmp_ge, cmp_eqI, cmp_neI, cmp_eqT, cmp_neT, cmp_eqLa, cmp_neLa, cmp_eqLs, own_T, own_La, own_tup, own_int, own_bl, own_non, own_k, own_s, own_g, Bool.not_false, Bool.not_true, Bool.or_true, Bool.true_or, Bool.or_false, Bool.false_or, Bool.and_true, Bool.true_and, Bool.and_false, Bool.false_and, if_true, if_false, Bool.false_eq_true, reduceIte, Int.reduceEq, Int.reduceLT, Int.reduceLE, Nat.reduceLT, Nat.reduceAdd, Nat.reduceSub, List.map_cons, List.map_nil, List.cons_append, List.nil_append, List.replicate, List.getElem?_cons_zero, List.getElem?_cons_succ, List.set, List.set_cons_zero, List.set_cons_succ, List.length_cons, List.length_nil, List.zip_cons_cons, List.zip_nil_right, List.foldl_cons, List.foldl_nil, List.all_cons, List.all_nil, decide_true, decide_false, Nat.zero_lt_succ, and_self, and_true, true_and, Int.ofNat_lt, Int.ofNat_le, eq_self, flL_cons, flL_nil, fl_int, fl_bl, fl_non, fl_str, fl_Tb, fl_Lab, fl_lI, fl_lT, fl_lLa, tup_0, tup_1, sh_o, sh_s, sh_g, sh_k, gv_o, gv_s, gv_g, gv_k, val_var, jValV_s, jValV_g, jValV_k, jValV_t, jValE_o, jValE_s, jValE_g, jValE_t, mutv_, jMut0_ok, jMut_a, jMut_e, settle_nl, val_np, isPath_call, isPath_bi, isPath_bin, isPath_lst, isPath_tup, isPath_slc, isPath_comp, isPath_meth, kVar_own, shareL_I, shareL_T, shareL_La, own_lI, own_lT, own_lLa, isL_l, isL_T, lent_sI, lent_sT, lent_sLa, lent_T, lent_La, lent_int, lent_bl, lent_non, lent_str, lent_lI, lent_lT, lent_lLa, isO_int, isB_bl, isB_non, isN_int, isN_non, cmp_neB, cmp_eqN, cmp_eqTs, cmp_neTs, cmp_neLas, len0, len1, f_law_e1, hc]
      exact cStep_none (C P (n + 3)) (t := [7]) rfl hv)
  have hin := isin_tt (C P (n + 3)) (f := .o) (xs := ((lassos (j + 1) s t).map LaP).filterMap fun _ => some (.bl true)) (by
    intro x hx
    rw [List.mem_filterMap] at hx
    obtain ⟨_, _, e⟩ := hx
    exact (Option.some.inj e).symm)
  simp only [execs_cons, execs_nil, asg_, augv_, jAug0_ok, ex_, ret_, if_, for_, whl_, jTest_ok, jTest2_ok, brk_, cnt_, pass_, jSt_ok, jAsg_ok, jAug3_ok, jAug2_ok, jEx_ok, jRet_ok, jIf2_t, jIf2_f, jIf_ok, jSeq_nx, jSeq_ret, jSeq_brk, jSeq_cnt, jFor_ok, rng_, jRng_1, jRng_2, set_var, set_tup, bind_one, augI_add, augI_sub, lit_, var_, kVar_flat, kVar_pk, bin_, kBin1_ok, kBin2_ok, kVal_ok, kBl_ok, cmp_, kCmp1_ok, kCmp2_ok, chain_, kCh0_ok, kCh1_ok, kCh2_t, kCh2_f, kCh3_ok, neg_, kNeg_ok, not_, kNot_ok, kNot2_ok, isN_, kIsN_ok, notN_, kNotN_ok, and_, kAnd_ok, kAnd2_t, kAnd2_f, or_, kOr_ok, kOr2_t, kOr2_f, ite_, kIte_ok, kIte2_t, kIte2_f, evs_cons, evs_nil, kCons_ok, kCons2_ok, tup_, kTup_ok, lst_, kLst_ok, bi_, kBi_ok, call_, kCall_ok, kCall2_ok, isi_, kIsi_ok, idxB_, kIdx0_t, kIdx_ok, kIdx2_ok, kTake_ok, take_flat, slc_, kSlc_ok, kSlc2_ok, kSlc3_T, kSlc3_L, evO_none, evO_some, kEnd_ok, comp_, roE, roL, roO, roI, out_ret, out_nx, len_T, len_L, int_I, tup_L, tup_T, tup_nil, bin_add, bin_sub, tru_bl, cmp_lt, cmp_le, cmp_gt, cmp_ge, cmp_eqI, cmp_neI, cmp_eqT, cmp_neT, cmp_eqLa, cmp_neLa, cmp_eqLs, own_T, own_La, own_tup, own_int, own_bl, own_non, own_k, own_s, own_g, Bool.not_false, Bool.not_true, Bool.or_true, Bool.true_or, Bool.or_false, Bool.false_or, Bool.and_true, Bool.true_and, Bool.and_false, Bool.false_and, if_true, if_false, Bool.false_eq_true, reduceIte, Int.reduceEq, Int.reduceLT, Int.reduceLE, Nat.reduceLT, Nat.reduceAdd, Nat.reduceSub, List.map_cons, List.map_nil, List.cons_append, List.nil_append, List.replicate, List.getElem?_cons_zero, List.getElem?_cons_succ, List.set, List.set_cons_zero, List.set_cons_succ, List.length_cons, List.length_nil, List.zip_cons_cons, List.zip_nil_right, List.foldl_cons, List.foldl_nil, List.all_cons, List.all_nil, decide_true, decide_false, Nat.zero_lt_succ, and_self, and_true, true_and, Int.ofNat_lt, Int.ofNat_le, eq_self, flL_cons, flL_nil, fl_int, fl_bl, fl_non, fl_str, fl_Tb, fl_Lab, fl_lI, fl_lT, fl_lLa, tup_0, tup_1, sh_o, sh_s, sh_g, sh_k, gv_o, gv_s, gv_g, gv_k, val_var, jValV_s, jValV_g, jValV_k, jValV_t, jValE_o, jValE_s, jValE_g, jValE_t, mutv_, jMut0_ok, jMut_a, jMut_e, settle_nl, val_np, isPath_call, isPath_bi, isPath_bin, isPath_lst, isPath_tup, isPath_slc, isPath_comp, isPath_meth, kVar_own, shareL_I, shareL_T, shareL_La, own_lI, own_lT, own_lLa, isL_l, isL_T, lent_sI, lent_sT, lent_sLa, lent_T, lent_La, lent_int, lent_bl, lent_non, lent_str, lent_lI, lent_lT, lent_lLa, isO_int, isB_bl, isB_non, isN_int, isN_non, cmp_neB, cmp_eqN, cmp_eqTs, cmp_neTs, cmp_neLas, len0, len1, f_law_s3, h1, h2, hro, hk, hin]
theorem isin_La (c : Ctx) (f : Fg) (a b : List Int) (ps : List (List Int × List Int)) : cmpD c .notin (La a b) (.lst f (ps.map LaP)) = .ok (!decide ((a, b) ∈ ps)) := by
  have h1 : (ps.map LaP).all D.flat = true := by
    rw [List.all_eq_true]
    intro x hx
    obtain ⟨p, _, rfl⟩ := List.mem_map.mp hx
    exact flat_La p.1 p.2
  have h2 : ((ps.map LaP).any fun y => D.eq y (La a b)) = decide ((a, b) ∈ ps) := by
    rw [List.any_map]
    induction ps with
    | nil => rfl
    | cons p ps ih =>
      rw [List.any_cons, ih (by rw [List.map_cons, List.all_cons, Bool.and_eq_true] at h1; exact h1.2)]
      show (D.eq (LaP p) (LaP (a, b)) || _) = _
      rw [eq_LaP]
      by_cases q : p = (a, b)
      · subst q; simp
      · have : ¬ (a, b) = p := fun z => q z.symm
        simp [q, this]
  show (do let r ← isIn (La a b) (.lst f (ps.map LaP)); .ok (!r) : Ex Bool) = _
  have : isIn (La a b) (.lst f (ps.map LaP)) = .ok (decide ((a, b) ∈ ps)) := by
    show (if ((La a b).flat && flatL (ps.map LaP)) = true then Except.ok ((ps.map LaP).any fun y => D.eq y (La a b)) else _) = _
    rw [flat_La, show flatL (ps.map LaP) = true from h1, h2]
    rfl
  rw [this]
  rfl
theorem cmp_eq00 (c : Ctx) (f g : Fg) : cmpD c .eq (.lst f []) (.lst g []) = .ok true := by
  show (if ((D.lst f []).flat && (D.lst g []).flat) = true then Except.ok (D.eq (.lst f []) (.lst g [])) else stuck "==") = _
  have h : ∀ f : Fg, (D.lst f []).flat = true := fun f => flatN_lst (n := 59) (by simp)
  rw [h, h, D.eq, eqL, if_pos (by rfl)]
theorem s4 (n : Nat) (sc : List Int) (D1 D3 : D) (j s t : Nat) (hj : j < 4) (hs : s ≤ 4) (ht : t ≤ 5) (hlen : (lassos (j + 1) s t).length ≤ 1000000) : ∃ env, execs (C P (n + 3)) f_law_s4 [some (.lst .k (sc.map .int)), some D1, some (.int (j + 1 : Nat)), some D3, some (.lst .s ((lassos (j + 1) s t).map LaP)), some (.int s), some (.int t), none, none] = .ok (.ret (.bl true), env) := by
  obtain ⟨v1, h1⟩ := law_cell (P := P) (n + 2) sc 1 (by omega)
  have z1 : ((1 : Nat) : Int) = 1 := rfl
  rw [z1] at h1
  have hls := law_lasso (P := P) (n + 1) v1 ((j + 1 : Nat) : Int) 4 (by omega) (by omega) (by omega) (by omega)
  have z4 : ((4 : Nat) : Int) = 4 := rfl
  rw [z4] at hls
  obtain ⟨q1, q2, q3⟩ := ls_len v1 ((j + 1 : Nat) : Int) (m := 4) (by omega)
  have q4 := ls_in (k := ((j + 1 : Nat) : Int)) (by omega) v1 4
  generalize lsB v1 ((j + 1 : Nat) : Int) 4 = b at *
  generalize lsL v1 ((j + 1 : Nat) : Int) 4 = l at *
  have lk := lend_K sc
  have h0 := lassos_of (P := P) n (j + 1) s 0 (by omega) (by omega) (by omega) (by unfold lassos; simp)
  have e0 : (lassos (j + 1) s 0).map LaP = [] := rfl
  rw [e0] at h0
  have h0 : (C P (n + 3)).call "lassos_of" [.int (j + 1 : Nat), .int s, .int 0] = .ok (.lst .s []) := h0
  have hls2 : (D.lst .s []).lent = false := lent_ls rfl
  by_cases hb : b.length ≤ s
  · by_cases hl : l.length ≤ t
    · let q : List Int × List Int → Bool := fun p => decide (ltrs p.1 p.2 (cnt p.1 p.2 b l) = ltrs b l (cnt p.1 p.2 b l))
      have hq : ∀ p, 0 < p.2.length → (q p = true ↔ ltr p.1 p.2 = ltr b l) := fun p hp => by
        show decide _ = true ↔ _
        rw [decide_eq_true_eq, agree_iff hp q2]
      obtain ⟨m1, m2⟩ := lassos_one (k := j + 1) q2 hb hl q4 (fun y hy => mem_word q2 (llasso_least (b := b) q2).1.word hy) q hq
      have hle := least_lasso (P := P) (n + 1) b l q2 (by omega) (by omega)
      have hmem := isin_La (C P (n + 3)) .s (llasso b l).1 (llasso b l).2 (lassos (j + 1) s t)
      rw [decide_eq_true m1] at hmem
      have hk := kComp_enc (C P (n + 3)) (t := [7]) (one := true) (ro := true) (keep := false) (cond := some f_law_q2) (elt := f_law_e2) (w := []) LaP (fun p => if q p = true then some (LaP p) else none) (ts := lassos (j + 1) s t) (env1 := [some (.lst .k (sc.map .int)), some D1, some (.int (j + 1 : Nat)), some D3, some (.lst .s ((lassos (j + 1) s t).map LaP)), some (.int s), some (.int t), none, some (La b l)])
        (by unfold line; omega) rfl rfl (by
          intro p hp
          obtain ⟨b', l'⟩ := p
          obtain ⟨p1, p2, p3, p4, _⟩ := mem_lassos.mp hp
          have p1 : 0 < l'.length := p1
          have p2 : l'.length ≤ t := p2
          have p3 : b'.length ≤ s := p3
          have hc := law_same (P := P) n b' l' b l p1 (by omega) (by omega) q2 (by omega) (by omega)
          have hc : (C P (n + 3)).call "_law_same" [La b' l', La b l] = .ok (.bl (q (b', l'))) := hc
          have hv : ev (C P (n + 3)) true true f_law_q2 [some (.lst .k (sc.map .int)), some D1, some (.int (j + 1 : Nat)), some D3, some (.lst .s ((lassos (j + 1) s t).map LaP)), some (.int s), some (.int t), some (La b' l'), some (La b l)] = .ok (.bl (q (b', l')), [some (.lst .k (sc.map .int)), some D1, some (.int (j + 1 : Nat)), some D3, some (.lst .s ((lassos (j + 1) s t).map LaP)), some (.int s), some (.int t), some (La b' l'), some (La b l)]) := by
            simp only [execs_cons, execs_nil, asg_, augv_, jAug0_ok, ex_, ret_, if_, for_, whl_, jTest_ok, jTest2_ok, brk_, cnt_, pass_, jSt_ok, jAsg_ok, jAug3_ok, jAug2_ok, jEx_ok, jRet_ok, jIf2_t, jIf2_f, jIf_ok, jSeq_nx, jSeq_ret, jSeq_brk, jSeq_cnt, jFor_ok, rng_, jRng_1, jRng_2, set_var, set_tup, bind_one, augI_add, augI_sub, lit_, var_, kVar_flat, kVar_pk, bin_, kBin1_ok, kBin2_ok, kVal_ok, kBl_ok, cmp_, kCmp1_ok, kCmp2_ok, chain_, kCh0_ok, kCh1_ok, kCh2_t, kCh2_f, kCh3_ok, neg_, kNeg_ok, not_, kNot_ok, kNot2_ok, isN_, kIsN_ok, notN_, kNotN_ok, and_, kAnd_ok, kAnd2_t, kAnd2_f, or_, kOr_ok, kOr2_t, kOr2_f, ite_, kIte_ok, kIte2_t, kIte2_f, evs_cons, evs_nil, kCons_ok, kCons2_ok, tup_, kTup_ok, lst_, kLst_ok, bi_, kBi_ok, call_, kCall_ok, kCall2_ok, isi_, kIsi_ok, idxB_, kIdx0_t, kIdx_ok, kIdx2_ok, kTake_ok, take_flat, slc_, kSlc_ok, kSlc2_ok, kSlc3_T, kSlc3_L, evO_none, evO_some, kEnd_ok, comp_, roE, roL, roO, roI, out_ret, out_nx, len_T, len_L, int_I, tup_L, tup_T, tup_nil, bin_add, bin_sub, tru_bl, cmp_lt, cmp_le, cmp_gt, cmp_ge, cmp_eqI, cmp_neI, cmp_eqT, cmp_neT, cmp_eqLa, cmp_neLa, cmp_eqLs, own_T, own_La, own_tup, own_int, own_bl, own_non, own_k, own_s, own_g, Bool.not_false, Bool.not_true, Bool.or_true, Bool.true_or, Bool.or_false, Bool.false_or, Bool.and_true, Bool.true_and, Bool.and_false, Bool.false_and, if_true, if_false, Bool.false_eq_true, reduceIte, Int.reduceEq, Int.reduceLT, Int.reduceLE, Nat.reduceLT, Nat.reduceAdd, Nat.reduceSub, List.map_cons, List.map_nil, List.cons_append, List.nil_append, List.replicate, List.getElem?_cons_zero, List.getElem?_cons_succ, List.set, List.set_cons_zero, List.set_cons_succ, List.length_cons, List.length_nil, List.zip_cons_cons, List.zip_nil_right, List.foldl_cons, List.foldl_nil, List.all_cons, List.all_nil, decide_true, decide_false, Nat.zero_lt_succ, and_self, and_true, true_and, Int.ofNat_lt, Int.ofNat_le, eq_self, flL_cons, flL_nil, fl_int, fl_bl, fl_non, fl_str, fl_Tb, fl_Lab, fl_lI, fl_lT, fl_lLa, tup_0, tup_1, sh_o, sh_s, sh_g, sh_k, gv_o, gv_s, gv_g, gv_k, val_var, jValV_s, jValV_g, jValV_k, jValV_t, jValE_o, jValE_s, jValE_g, jValE_t, mutv_, jMut0_ok, jMut_a, jMut_e, settle_nl, val_np, isPath_call, isPath_bi, isPath_bin, isPath_lst, isPath_tup, isPath_slc, isPath_comp, isPath_meth, kVar_own, shareL_I, shareL_T, shareL_La, own_lI, own_lT, own_lLa, isL_l, isL_T, lent_sI, lent_sT, lent_sLa, lent_T, lent_La, lent_int, lent_bl, lent_non, lent_str, lent_lI, lent_lT, lent_lLa, isO_int, isB_bl, isB_non, isN_int, isN_non, cmp_neB, cmp_eqN, cmp_eqTs, cmp_neTs, cmp_neLas, len0, len1, f_law_q2, hc]
          have he : ev (C P (n + 3)) true false f_law_e2 [some (.lst .k (sc.map .int)), some D1, some (.int (j + 1 : Nat)), some D3, some (.lst .s ((lassos (j + 1) s t).map LaP)), some (.int s), some (.int t), some (La b' l'), some (La b l)] = .ok (La b' l', [some (.lst .k (sc.map .int)), some D1, some (.int (j + 1 : Nat)), some D3, some (.lst .s ((lassos (j + 1) s t).map LaP)), some (.int s), some (.int t), some (La b' l'), some (La b l)]) := by
            simp only [execs_cons, execs_nil, asg_, augv_, jAug0_ok, ex_, ret_, if_, for_, whl_, jTest_ok, jTest2_ok, brk_, cnt_, pass_, jSt_ok, jAsg_ok, jAug3_ok, jAug2_ok, jEx_ok, jRet_ok, jIf2_t, jIf2_f, jIf_ok, jSeq_nx, jSeq_ret, jSeq_brk, jSeq_cnt, jFor_ok, rng_, jRng_1, jRng_2, set_var, set_tup, bind_one, augI_add, augI_sub, lit_, var_, kVar_flat, kVar_pk, bin_, kBin1_ok, kBin2_ok, kVal_ok, kBl_ok, cmp_, kCmp1_ok, kCmp2_ok, chain_, kCh0_ok, kCh1_ok, kCh2_t, kCh2_f, kCh3_ok, neg_, kNeg_ok, not_, kNot_ok, kNot2_ok, isN_, kIsN_ok, notN_, kNotN_ok, and_, kAnd_ok, kAnd2_t, kAnd2_f, or_, kOr_ok, kOr2_t, kOr2_f, ite_, kIte_ok, kIte2_t, kIte2_f, evs_cons, evs_nil, kCons_ok, kCons2_ok, tup_, kTup_ok, lst_, kLst_ok, bi_, kBi_ok, call_, kCall_ok, kCall2_ok, isi_, kIsi_ok, idxB_, kIdx0_t, kIdx_ok, kIdx2_ok, kTake_ok, take_flat, slc_, kSlc_ok, kSlc2_ok, kSlc3_T, kSlc3_L, evO_none, evO_some, kEnd_ok, comp_, roE, roL, roO, roI, out_ret, out_nx, len_T, len_L, int_I, tup_L, tup_T, tup_nil, bin_add, bin_sub, tru_bl, cmp_lt, cmp_le, cmp_gt, cmp_ge, cmp_eqI, cmp_neI, cmp_eqT, cmp_neT, cmp_eqLa, cmp_neLa, cmp_eqLs, own_T, own_La, own_tup, own_int, own_bl, own_non, own_k, own_s, own_g, Bool.not_false, Bool.not_true, Bool.or_true, Bool.true_or, Bool.or_false, Bool.false_or, Bool.and_true, Bool.true_and, Bool.and_false, Bool.false_and, if_true, if_false, Bool.false_eq_true, reduceIte, Int.reduceEq, Int.reduceLT, Int.reduceLE, Nat.reduceLT, Nat.reduceAdd, Nat.reduceSub, List.map_cons, List.map_nil, List.cons_append, List.nil_append, List.replicate, List.getElem?_cons_zero, List.getElem?_cons_succ, List.set, List.set_cons_zero, List.set_cons_succ, List.length_cons, List.length_nil, List.zip_cons_cons, List.zip_nil_right, List.foldl_cons, List.foldl_nil, List.all_cons, List.all_nil, decide_true, decide_false, Nat.zero_lt_succ, and_self, and_true, true_and, Int.ofNat_lt, Int.ofNat_le, eq_self, flL_cons, flL_nil, fl_int, fl_bl, fl_non, fl_str, fl_Tb, fl_Lab, fl_lI, fl_lT, fl_lLa, tup_0, tup_1, sh_o, sh_s, sh_g, sh_k, gv_o, gv_s, gv_g, gv_k, val_var, jValV_s, jValV_g, jValV_k, jValV_t, jValE_o, jValE_s, jValE_g, jValE_t, mutv_, jMut0_ok, jMut_a, jMut_e, settle_nl, val_np, isPath_call, isPath_bi, isPath_bin, isPath_lst, isPath_tup, isPath_slc, isPath_comp, isPath_meth, kVar_own, shareL_I, shareL_T, shareL_La, own_lI, own_lT, own_lLa, isL_l, isL_T, lent_sI, lent_sT, lent_sLa, lent_T, lent_La, lent_int, lent_bl, lent_non, lent_str, lent_lI, lent_lT, lent_lLa, isO_int, isB_bl, isB_non, isN_int, isN_non, cmp_neB, cmp_eqN, cmp_eqTs, cmp_neTs, cmp_neLas, len0, len1, f_law_e2]
          cases hh : q (b', l') with
          | true =>
            rw [hh] at hv
            have := cStep_in (C P (n + 3)) (t := [7]) (one := true) (keep := false) (x := LaP (b', l')) (e0 := wipeE [7] [some (.lst .k (sc.map .int)), some D1, some (.int (j + 1 : Nat)), some D3, some (.lst .s ((lassos (j + 1) s t).map LaP)), some (.int s), some (.int t), none, some (La b l)]) rfl hv rfl he
            rw [this, if_neg Bool.false_ne_true, share_d, fl_Lab]
            rfl
          | false =>
            rw [hh] at hv
            exact cStep_out (C P (n + 3)) (t := [7]) (e2 := [some (.lst .k (sc.map .int)), some D1, some (.int (j + 1 : Nat)), some D3, some (.lst .s ((lassos (j + 1) s t).map LaP)), some (.int s), some (.int t), some (La b' l'), some (La b l)]) rfl hv rfl)
      rw [filterMap_if] at hk
      generalize hL : ((lassos (j + 1) s t).filter q).map LaP = L at hk
      have hLn : L.length = 1 := by rw [← hL, List.length_map, m2]
      have hro1 : roE f_law_q2 = true := rfl
      have hro2 : roE f_law_e2 = true := rfl
      have hcl : ((L.length : Nat) : Int) = 1 := by rw [hLn]; rfl
      have hbi : (b.length : Int) ≤ (s : Int) := by omega
      have hli : (l.length : Int) ≤ (t : Int) := by omega
      refine ⟨[some (.lst .k (sc.map .int)), some D1, some (.int (j + 1 : Nat)), some D3, some (.lst .s ((lassos (j + 1) s t).map LaP)), some (.int s), some (.int t), none, some (La b l)], ?_⟩
      simp only [execs_cons, execs_nil, asg_, augv_, jAug0_ok, ex_, ret_, if_, for_, whl_, jTest_ok, jTest2_ok, brk_, cnt_, pass_, jSt_ok, jAsg_ok, jAug3_ok, jAug2_ok, jEx_ok, jRet_ok, jIf2_t, jIf2_f, jIf_ok, jSeq_nx, jSeq_ret, jSeq_brk, jSeq_cnt, jFor_ok, rng_, jRng_1, jRng_2, set_var, set_tup, bind_one, augI_add, augI_sub, lit_, var_, kVar_flat, kVar_pk, bin_, kBin1_ok, kBin2_ok, kVal_ok, kBl_ok, cmp_, kCmp1_ok, kCmp2_ok, chain_, kCh0_ok, kCh1_ok, kCh2_t, kCh2_f, kCh3_ok, neg_, kNeg_ok, not_, kNot_ok, kNot2_ok, isN_, kIsN_ok, notN_, kNotN_ok, and_, kAnd_ok, kAnd2_t, kAnd2_f, or_, kOr_ok, kOr2_t, kOr2_f, ite_, kIte_ok, kIte2_t, kIte2_f, evs_cons, evs_nil, kCons_ok, kCons2_ok, tup_, kTup_ok, lst_, kLst_ok, bi_, kBi_ok, call_, kCall_ok, kCall2_ok, isi_, kIsi_ok, idxB_, kIdx0_t, kIdx_ok, kIdx2_ok, kTake_ok, take_flat, slc_, kSlc_ok, kSlc2_ok, kSlc3_T, kSlc3_L, evO_none, evO_some, kEnd_ok, comp_, roE, roL, roO, roI, out_ret, out_nx, len_T, len_L, int_I, tup_L, tup_T, tup_nil, bin_add, bin_sub, tru_bl, cmp_lt, cmp_le, cmp_gt, cmp_ge, cmp_eqI, cmp_neI, cmp_eqT, cmp_neT, cmp_eqLa, cmp_neLa, cmp_eqLs, own_T, own_La, own_tup, own_int, own_bl, own_non, own_k, own_s, own_g, Bool.not_false, Bool.not_true, Bool.or_true, Bool.true_or, Bool.or_false, Bool.false_or, Bool.and_true, Bool.true_and, Bool.and_false, Bool.false_and, if_true, if_false, Bool.false_eq_true, reduceIte, Int.reduceEq, Int.reduceLT, Int.reduceLE, Nat.reduceLT, Nat.reduceAdd, Nat.reduceSub, List.map_cons, List.map_nil, List.cons_append, List.nil_append, List.replicate, List.getElem?_cons_zero, List.getElem?_cons_succ, List.set, List.set_cons_zero, List.set_cons_succ, List.length_cons, List.length_nil, List.zip_cons_cons, List.zip_nil_right, List.foldl_cons, List.foldl_nil, List.all_cons, List.all_nil, decide_true, decide_false, Nat.zero_lt_succ, and_self, and_true, true_and, Int.ofNat_lt, Int.ofNat_le, eq_self, flL_cons, flL_nil, fl_int, fl_bl, fl_non, fl_str, fl_Tb, fl_Lab, fl_lI, fl_lT, fl_lLa, tup_0, tup_1, sh_o, sh_s, sh_g, sh_k, gv_o, gv_s, gv_g, gv_k, val_var, jValV_s, jValV_g, jValV_k, jValV_t, jValE_o, jValE_s, jValE_g, jValE_t, mutv_, jMut0_ok, jMut_a, jMut_e, settle_nl, val_np, isPath_call, isPath_bi, isPath_bin, isPath_lst, isPath_tup, isPath_slc, isPath_comp, isPath_meth, kVar_own, shareL_I, shareL_T, shareL_La, own_lI, own_lT, own_lLa, isL_l, isL_T, lent_sI, lent_sT, lent_sLa, lent_T, lent_La, lent_int, lent_bl, lent_non, lent_str, lent_lI, lent_lT, lent_lLa, isO_int, isB_bl, isB_non, isN_int, isN_non, cmp_neB, cmp_eqN, cmp_eqTs, cmp_neTs, cmp_neLas, len0, len1, f_law_s4, lk, h1, hls, hbi, hli, hb, hl, hle, hmem, hro1, hro2, hk, hcl, h0, hls2, cmp_eq00]
    · refine ⟨[some (.lst .k (sc.map .int)), some D1, some (.int (j + 1 : Nat)), some D3, some (.lst .s ((lassos (j + 1) s t).map LaP)), some (.int s), some (.int t), none, some (La b l)], ?_⟩
      simp only [execs_cons, execs_nil, asg_, augv_, jAug0_ok, ex_, ret_, if_, for_, whl_, jTest_ok, jTest2_ok, brk_, cnt_, pass_, jSt_ok, jAsg_ok, jAug3_ok, jAug2_ok, jEx_ok, jRet_ok, jIf2_t, jIf2_f, jIf_ok, jSeq_nx, jSeq_ret, jSeq_brk, jSeq_cnt, jFor_ok, rng_, jRng_1, jRng_2, set_var, set_tup, bind_one, augI_add, augI_sub, lit_, var_, kVar_flat, kVar_pk, bin_, kBin1_ok, kBin2_ok, kVal_ok, kBl_ok, cmp_, kCmp1_ok, kCmp2_ok, chain_, kCh0_ok, kCh1_ok, kCh2_t, kCh2_f, kCh3_ok, neg_, kNeg_ok, not_, kNot_ok, kNot2_ok, isN_, kIsN_ok, notN_, kNotN_ok, and_, kAnd_ok, kAnd2_t, kAnd2_f, or_, kOr_ok, kOr2_t, kOr2_f, ite_, kIte_ok, kIte2_t, kIte2_f, evs_cons, evs_nil, kCons_ok, kCons2_ok, tup_, kTup_ok, lst_, kLst_ok, bi_, kBi_ok, call_, kCall_ok, kCall2_ok, isi_, kIsi_ok, idxB_, kIdx0_t, kIdx_ok, kIdx2_ok, kTake_ok, take_flat, slc_, kSlc_ok, kSlc2_ok, kSlc3_T, kSlc3_L, evO_none, evO_some, kEnd_ok, comp_, roE, roL, roO, roI, out_ret, out_nx, len_T, len_L, int_I, tup_L, tup_T, tup_nil, bin_add, bin_sub, tru_bl, cmp_lt, cmp_le, cmp_gt, cmp_ge, cmp_eqI, cmp_neI, cmp_eqT, cmp_neT, cmp_eqLa, cmp_neLa, cmp_eqLs, own_T, own_La, own_tup, own_int, own_bl, own_non, own_k, own_s, own_g, Bool.not_false, Bool.not_true, Bool.or_true, Bool.true_or, Bool.or_false, Bool.false_or, Bool.and_true, Bool.true_and, Bool.and_false, Bool.false_and, if_true, if_false, Bool.false_eq_true, reduceIte, Int.reduceEq, Int.reduceLT, Int.reduceLE, Nat.reduceLT, Nat.reduceAdd, Nat.reduceSub, List.map_cons, List.map_nil, List.cons_append, List.nil_append, List.replicate, List.getElem?_cons_zero, List.getElem?_cons_succ, List.set, List.set_cons_zero, List.set_cons_succ, List.length_cons, List.length_nil, List.zip_cons_cons, List.zip_nil_right, List.foldl_cons, List.foldl_nil, List.all_cons, List.all_nil, decide_true, decide_false, Nat.zero_lt_succ, and_self, and_true, true_and, Int.ofNat_lt, Int.ofNat_le, eq_self, flL_cons, flL_nil, fl_int, fl_bl, fl_non, fl_str, fl_Tb, fl_Lab, fl_lI, fl_lT, fl_lLa, tup_0, tup_1, sh_o, sh_s, sh_g, sh_k, gv_o, gv_s, gv_g, gv_k, val_var, jValV_s, jValV_g, jValV_k, jValV_t, jValE_o, jValE_s, jValE_g, jValE_t, mutv_, jMut0_ok, jMut_a, jMut_e, settle_nl, val_np, isPath_call, isPath_bi, isPath_bin, isPath_lst, isPath_tup, isPath_slc, isPath_comp, isPath_meth, kVar_own, shareL_I, shareL_T, shareL_La, own_lI, own_lT, own_lLa, isL_l, isL_T, lent_sI, lent_sT, lent_sLa, lent_T, lent_La, lent_int, lent_bl, lent_non, lent_str, lent_lI, lent_lT, lent_lLa, isO_int, isB_bl, isB_non, isN_int, isN_non, cmp_neB, cmp_eqN, cmp_eqTs, cmp_neTs, cmp_neLas, len0, len1, f_law_s4, lk, h1, hls, hb, hl, h0, hls2, cmp_eq00]
  · refine ⟨[some (.lst .k (sc.map .int)), some D1, some (.int (j + 1 : Nat)), some D3, some (.lst .s ((lassos (j + 1) s t).map LaP)), some (.int s), some (.int t), none, some (La b l)], ?_⟩
    simp only [execs_cons, execs_nil, asg_, augv_, jAug0_ok, ex_, ret_, if_, for_, whl_, jTest_ok, jTest2_ok, brk_, cnt_, pass_, jSt_ok, jAsg_ok, jAug3_ok, jAug2_ok, jEx_ok, jRet_ok, jIf2_t, jIf2_f, jIf_ok, jSeq_nx, jSeq_ret, jSeq_brk, jSeq_cnt, jFor_ok, rng_, jRng_1, jRng_2, set_var, set_tup, bind_one, augI_add, augI_sub, lit_, var_, kVar_flat, kVar_pk, bin_, kBin1_ok, kBin2_ok, kVal_ok, kBl_ok, cmp_, kCmp1_ok, kCmp2_ok, chain_, kCh0_ok, kCh1_ok, kCh2_t, kCh2_f, kCh3_ok, neg_, kNeg_ok, not_, kNot_ok, kNot2_ok, isN_, kIsN_ok, notN_, kNotN_ok, and_, kAnd_ok, kAnd2_t, kAnd2_f, or_, kOr_ok, kOr2_t, kOr2_f, ite_, kIte_ok, kIte2_t, kIte2_f, evs_cons, evs_nil, kCons_ok, kCons2_ok, tup_, kTup_ok, lst_, kLst_ok, bi_, kBi_ok, call_, kCall_ok, kCall2_ok, isi_, kIsi_ok, idxB_, kIdx0_t, kIdx_ok, kIdx2_ok, kTake_ok, take_flat, slc_, kSlc_ok, kSlc2_ok, kSlc3_T, kSlc3_L, evO_none, evO_some, kEnd_ok, comp_, roE, roL, roO, roI, out_ret, out_nx, len_T, len_L, int_I, tup_L, tup_T, tup_nil, bin_add, bin_sub, tru_bl, cmp_lt, cmp_le, cmp_gt, cmp_ge, cmp_eqI, cmp_neI, cmp_eqT, cmp_neT, cmp_eqLa, cmp_neLa, cmp_eqLs, own_T, own_La, own_tup, own_int, own_bl, own_non, own_k, own_s, own_g, Bool.not_false, Bool.not_true, Bool.or_true, Bool.true_or, Bool.or_false, Bool.false_or, Bool.and_true, Bool.true_and, Bool.and_false, Bool.false_and, if_true, if_false, Bool.false_eq_true, reduceIte, Int.reduceEq, Int.reduceLT, Int.reduceLE, Nat.reduceLT, Nat.reduceAdd, Nat.reduceSub, List.map_cons, List.map_nil, List.cons_append, List.nil_append, List.replicate, List.getElem?_cons_zero, List.getElem?_cons_succ, List.set, List.set_cons_zero, List.set_cons_succ, List.length_cons, List.length_nil, List.zip_cons_cons, List.zip_nil_right, List.foldl_cons, List.foldl_nil, List.all_cons, List.all_nil, decide_true, decide_false, Nat.zero_lt_succ, and_self, and_true, true_and, Int.ofNat_lt, Int.ofNat_le, eq_self, flL_cons, flL_nil, fl_int, fl_bl, fl_non, fl_str, fl_Tb, fl_Lab, fl_lI, fl_lT, fl_lLa, tup_0, tup_1, sh_o, sh_s, sh_g, sh_k, gv_o, gv_s, gv_g, gv_k, val_var, jValV_s, jValV_g, jValV_k, jValV_t, jValE_o, jValE_s, jValE_g, jValE_t, mutv_, jMut0_ok, jMut_a, jMut_e, settle_nl, val_np, isPath_call, isPath_bi, isPath_bin, isPath_lst, isPath_tup, isPath_slc, isPath_comp, isPath_meth, kVar_own, shareL_I, shareL_T, shareL_La, own_lI, own_lT, own_lLa, isL_l, isL_T, lent_sI, lent_sT, lent_sLa, lent_T, lent_La, lent_int, lent_bl, lent_non, lent_str, lent_lI, lent_lT, lent_lLa, isO_int, isB_bl, isB_non, isN_int, isN_non, cmp_neB, cmp_eqN, cmp_eqTs, cmp_neTs, cmp_neLas, len0, len1, f_law_s4, lk, h1, hls, hb, h0, hls2, cmp_eq00]
def depth : Nat := 3
theorem hlaw : ∀ script : List Int, script.length ≤ 63 → runLaw P Lz.fuel depth script = .ok (.bl true) := by
  intro sc _
  show (C P (3 + 1)).call "law" [.lst .k (sc.map D.int)] = _
  rw [c_of look_law 3 _ rfl]
  obtain ⟨base, j, m, s, t, hj, hs, ht, hlen, h1⟩ := s12 0 sc
  have h3 := s3 0 (.lst .k (sc.map .int)) (.int base) (.int m) (.lst .s ((words (j + 1) m).map T)) j s t hj hs ht hlen
  obtain ⟨env, h4⟩ := s4 0 sc (.int base) (.int m) j s t hj hs ht hlen
  show outOf (execs (C P 3) (f_law_s1 ++ (f_law_s2 ++ (f_law_s3 ++ f_law_s4))) [some (.lst .k (sc.map .int)), none, none, none, none, none, none, none, none]) = _
  rw [← List.append_assoc, execs_app, h1, kApp_nx, execs_app, h3, kApp_nx, h4]
  rfl
end Lzk02
end

section
set_option maxRecDepth 100000
namespace Lzk02
open PySem L2 Lz
theorem bts_of {p : String → Prop} (h0 : p "len") (h1 : p "int") (h2 : p "tuple") (h3 : p "range") (h4 : p "isinstance") (h5 : p "bool") (h6 : p "str") (h7 : p "list") (h8 : p "dict") : ∀ n ∈ btNames, p n := by
  intro n hn
  simp only [btNames, List.mem_cons, List.not_mem_nil, or_false] at hn
  rcases hn with rfl | rfl | rfl | rfl | rfl | rfl | rfl | rfl | rfl <;> assumption
end Lzk02
open PySem PySem.W PyProof.Rows in
set_option maxRecDepth 100000 in
set_option maxHeartbeats 0 in
theorem PySem.Challenge.cw_lassohold_k02_all_short_lassos_holds : PySem.Challenge.rw_lassohold_k02_all_short_lassos.Holds := by
  w_on; o_law; k_head; (case hw => w_witness2)
  k_fill
  refine Lz.walkL (l := PySem.Challenge.rw_lassohold_k02_all_short_lassos) Lzk02.defs Lzk02.d_law Lz.fuel Lzk02.depth rfl rfl rfl (fun w h Y => PySem.W.kIn_of Y) (by simp [Lzk02.defs]) rfl rfl Lzk02.nd Lzk02.all_ok Lzk02.all_bd ⟨rfl, by decide, by decide⟩ Lzk02.hlaw ?F
  case F =>
    intro w mg fa h KX G hmg
    refine ⟨Lzk02.all_of ?d0 ?d1 ?d2 ?d3 ?d4 ?d5 ?d6 ?d7 ?d8 ?d9 ?d10 ?d11 ?d12 ?d13 ?d14, Lzk02.bts_of ?b0 ?b1 ?b2 ?b3 ?b4 ?b5 ?b6 ?b7 ?b8⟩
    (case d0 => refine' Lz.DefAt.intro (x := "least_loop") (st := Lzk02.top 1) rfl rfl ?a ?l ?c ?k; (case a => k_is); (case l => k_is); (case c => k_is); (case k => k_is))
    (case d1 => refine' Lz.DefAt.intro (x := "least_lasso") (st := Lzk02.top 2) rfl rfl ?a ?l ?c ?k; (case a => k_is); (case l => k_is); (case c => k_is); (case k => k_is))
    (case d2 => refine' Lz.DefAt.intro (x := "words_of") (st := Lzk02.top 3) rfl rfl ?a ?l ?c ?k; (case a => k_is); (case l => k_is); (case c => k_is); (case k => k_is))
    (case d3 => refine' Lz.DefAt.intro (x := "lassos_of") (st := Lzk02.top 4) rfl rfl ?a ?l ?c ?k; (case a => k_is); (case l => k_is); (case c => k_is); (case k => k_is))
    (case d4 => refine' Lz.DefAt.intro (x := "_law_cell") (st := Lzk02.top 6) rfl rfl ?a ?l ?c ?k; (case a => k_is); (case l => k_is); (case c => k_is); (case k => k_is))
    (case d5 => refine' Lz.DefAt.intro (x := "_law_at") (st := Lzk02.top 7) rfl rfl ?a ?l ?c ?k; (case a => k_is); (case l => k_is); (case c => k_is); (case k => k_is))
    (case d6 => refine' Lz.DefAt.intro (x := "_law_letters") (st := Lzk02.top 8) rfl rfl ?a ?l ?c ?k; (case a => k_is); (case l => k_is); (case c => k_is); (case k => k_is))
    (case d7 => refine' Lz.DefAt.intro (x := "_law_same") (st := Lzk02.top 9) rfl rfl ?a ?l ?c ?k; (case a => k_is); (case l => k_is); (case c => k_is); (case k => k_is))
    (case d8 => refine' Lz.DefAt.intro (x := "_law_word") (st := Lzk02.top 10) rfl rfl ?a ?l ?c ?k; (case a => k_is); (case l => k_is); (case c => k_is); (case k => k_is))
    (case d9 => refine' Lz.DefAt.intro (x := "_law_lasso") (st := Lzk02.top 11) rfl rfl ?a ?l ?c ?k; (case a => k_is); (case l => k_is); (case c => k_is); (case k => k_is))
    (case d10 => refine' Lz.DefAt.intro (x := "_law_all") (st := Lzk02.top 12) rfl rfl ?a ?l ?c ?k; (case a => k_is); (case l => k_is); (case c => k_is); (case k => k_is))
    (case d11 => refine' Lz.DefAt.intro (x := "_law_words") (st := Lzk02.top 13) rfl rfl ?a ?l ?c ?k; (case a => k_is); (case l => k_is); (case c => k_is); (case k => k_is))
    (case d12 => refine' Lz.DefAt.intro (x := "_law_is_least") (st := Lzk02.top 14) rfl rfl ?a ?l ?c ?k; (case a => k_is); (case l => k_is); (case c => k_is); (case k => k_is))
    (case d13 => refine' Lz.DefAt.intro (x := "_law_is_lasso") (st := Lzk02.top 15) rfl rfl ?a ?l ?c ?k; (case a => k_is); (case l => k_is); (case c => k_is); (case k => k_is))
    (case d14 => refine' Lz.DefAt.intro (x := "law") (st := Lzk02.top 16) rfl rfl ?a ?l ?c ?k; (case a => k_is); (case l => k_is); (case c => k_is); (case k => k_is))
    (case b0 => k_is)
    (case b1 => k_is)
    (case b2 => k_is)
    (case b3 => k_is)
    (case b4 => k_is)
    (case b5 => k_is)
    (case b6 => k_is)
    (case b7 => k_is)
    (case b8 => k_is)
end
