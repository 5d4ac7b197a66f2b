import PyProof.Rows.All
import Wide.All
import OpenK.AllK
import Wide.FinOn
import HandS.ForMost
import HandS.ForExc
import HandS.ExcIs
import HandS.Lambda
import HandS.TupAny
import HandS.TupMul
import HandS.IsInst
import HandS.Zip
import HandS.Conv
import HandS.Style
import HandS.Deep
import HandS.RaiseMore
import HandS.Codes
import HandS.Wide
import KE.SortData
import HandS.TupLen
import HandS.DictEq
import HandS.ListEq
import PyProof.NeKinds
import KE.GoesMore
import KE.GoesEnum
import HandS.Replace
import HandS.SortInts
import HandS.ReplaceList
import HandS.ReplaceLit
import HandS.ListItems
import HandS.More
import HandS.SetFor
import HandS.ExcOwn
import PyProof.ExcBaseAll.ValueError
import HandS.ExcValue
import KE.SortKeyHeap
import KE.SortUse
import HandS.SortKw
import KE.GoesZip
import HandS.Iter
import HandS.Finally
import HandS.Small
import HandS.Words
import PyProof.StrLawsRepr
import PyProof.Rows.RegStrFacts
import KE.KIntText
import PySem.Challenge.RW_strikehall_k55_ends_and_inputs_as_texts
set_option Elab.async false
set_option linter.all false
set_option autoImplicit false
set_option maxRecDepth 100000
set_option linter.all false
set_option autoImplicit false
/-! Mp1: data, an IR of a small Python, its meaning. -/
namespace Mp

/-- a text: its code points -/
abbrev T := List Nat
/-- data. scr: the law's script; kon: a tuple or dict of the module. lst, dct: lists and dicts that nobody changes any more, or that one slot alone holds; obj h: the shared object h of the store; ins: an instance's content (in the store alone) -/
inductive D where
  | non
  | bl (b : Bool)
  | int (i : Int)
  | str (s : T)
  | tup (xs : List D)
  | lst (xs : List D)
  | dct (t : Bool) (kvs : List (D × D))
  | obj (h : Nat)
  | ins (c : Nat) (fs : List (T × D))
  | scr (ns : List Int)
  | kon (d : D)
  deriving Inhabited

abbrev Mem := List D
/-- the largest size -/
abbrev line : Nat := 16777216

inductive R (α : Type) where
  | ok (a : α) (m : Mem)
  | ex (e : D) (m : Mem)
  | no
def R.bind {α β : Type} (r : R α) (f : α → Mem → R β) : R β := match r with
  | .ok a m => f a m
  | .ex e m => .ex e m
  | .no => .no
@[simp] theorem R.ok_bind {α β : Type} (a : α) (m : Mem) (f : α → Mem → R β) : (R.ok a m).bind f = f a m := id rfl
@[simp] theorem R.ex_bind {α β : Type} (e : D) (m : Mem) (f : α → Mem → R β) : (R.ex e m : R α).bind f = .ex e m := id rfl
@[simp] theorem R.no_bind {α β : Type} (f : α → Mem → R β) : (R.no : R α).bind f = .no := id rfl
def R.ofO {α : Type} (o : Option α) (m : Mem) : R α := match o with
  | some a => .ok a m
  | none => .no
@[simp] theorem R.ofO_some {α : Type} (a : α) (m : Mem) : R.ofO (some a) m = .ok a m := id rfl
@[simp] theorem R.ofO_none {α : Type} (m : Mem) : R.ofO (none : Option α) m = .no := id rfl
theorem R.bind_ok {α β : Type} {r : R α} {f : α → Mem → R β} {b : β} {m : Mem} (h : r.bind f = .ok b m) : ∃ a m1, r = .ok a m1 ∧ f a m1 = .ok b m := by
  cases r with
  | ok a m1 => exact ⟨a, m1, rfl, h⟩
  | ex e m1 => cases h
  | no => cases h
theorem R.ofO_ok {α : Type} {o : Option α} {m m' : Mem} {a : α} (h : R.ofO o m = .ok a m') : o = some a ∧ m' = m := by
  cases o with
  | some b => cases h; exact ⟨rfl, rfl⟩
  | none => cases h

/-- a slot of a frame: empty; a value; a list or dict that this slot alone holds -/
inductive Sl where
  | no
  | val (d : D)
  | own (d : D)
  deriving Inhabited
abbrev Env := List Sl
def gt : Env → Nat → Sl
  | [], _ => .no
  | s :: _, 0 => s
  | _ :: r, i + 1 => gt r i
def st : Env → Nat → Sl → Env
  | [], _, _ => []
  | _ :: r, 0, x => x :: r
  | s :: r, i + 1, x => s :: st r i x
def Sl.isOwn : Sl → Bool
  | .own _ => true
  | _ => false

abbrev tS (s : T) : PySem.Str := ⟨s.toArray⟩
/-- code points -/
def okT (s : T) : Bool := (s.all fun c => decide (c < 1114112)) && decide (s.length ≤ line)
/-! ### operations on data -/
def b2i : Bool → Int
  | true => 1
  | false => 0
mutual
/-- == -/
def eqD : D → D → Bool
  | .non, .non => true
  | .bl a, .bl b => a == b
  | .bl a, .int j => b2i a == j
  | .int i, .bl b => i == b2i b
  | .int i, .int j => i == j
  | .str s, .str t => s == t
  | .tup xs, .tup ys => eqDs xs ys
  | .lst xs, .lst ys => eqDs xs ys
  | _, _ => false
def eqDs : List D → List D → Bool
  | [], [] => true
  | x :: xs, y :: ys => eqD x y && eqDs xs ys
  | _, _ => false
end
mutual
/-- neither dict nor object within, to a depth -/
def pl : Nat → D → Bool
  | _, .non => true
  | _, .bl _ => true
  | _, .int _ => true
  | _, .str _ => true
  | n + 1, .tup xs => pls n xs
  | n + 1, .lst xs => pls n xs
  | _, _ => false
def pls : Nat → List D → Bool
  | _, [] => true
  | n, x :: xs => pl n x && pls n xs
end
/-- a flat thing -/
def flat : D → Bool
  | .non => true
  | .bl _ => true
  | .int _ => true
  | .str _ => true
  | _ => false
/-- a key: a whole number or a text; a tuple of such -/
def key1 : D → Bool
  | .int _ => true
  | .str _ => true
  | _ => false
def isKey (t : Bool) : D → Bool
  | .int _ => !t
  | .str _ => !t
  | .tup xs => t && xs.all key1
  | _ => false
def getK (kvs : List (D × D)) (k : D) : Option D := (kvs.find? fun kv => eqD kv.1 k).map (·.2)
def putK (kvs : List (D × D)) (k v : D) : List (D × D) :=
  if (kvs.any fun kv => eqD kv.1 k) = true then kvs.map (fun kv => if eqD kv.1 k = true then (kv.1, v) else kv) else kvs ++ [(k, v)]
def dropK (kvs : List (D × D)) (k : D) : List (D × D) := kvs.filter fun kv => !eqD kv.1 k
/-- dict(pairs) -/
def mergeK (acc : List (D × D)) : List (D × D) → List (D × D)
  | [] => acc
  | p :: r => mergeK (putK acc p.1 p.2) r

/-- an index, from the front or the back -/
def ixN (n : Nat) (i : Int) : Option Nat := if 0 ≤ i then (if i < n then some i.toNat else none) else if -(n : Int) ≤ i then some (i + n).toNat else none
def atI {α : Type} (xs : List α) (i : Int) : Option α := (ixN xs.length i).bind fun j => xs[j]?
/-- where a slice begins or ends -/
def clip (n : Nat) (dflt : Nat) : Option Int → Nat
  | none => dflt
  | some i => if i < 0 then (i + n).toNat else min i.toNat n
def cut {α : Type} (xs : List α) (lo hi : Option Int) : List α := (xs.drop (clip xs.length 0 lo)).take (clip xs.length xs.length hi - clip xs.length 0 lo)

def small (i : Int) : Bool := decide (-(2 ^ 64) < i ∧ i < 2 ^ 64)
def mulOk (i j : Int) : Bool := small i || small j || decide (i.natAbs.log2 + j.natAbs.log2 < 1000000)
def addD : D → D → Option D
  | .int i, .int j => some (.int (i + j))
  | .str s, .str t => if s.length + t.length ≤ line then some (.str (s ++ t)) else none
  | .tup xs, .tup ys => if xs.length + ys.length ≤ line then some (.tup (xs ++ ys)) else none
  | .lst xs, .lst ys => if xs.length + ys.length ≤ line then some (.lst (xs ++ ys)) else none
  | _, _ => none
def subD : D → D → Option D
  | .int i, .int j => some (.int (i - j))
  | _, _ => none
def mulD : D → D → Option D
  | .int i, .int j => if mulOk i j = true then some (.int (i * j)) else none
  | .str s, .int j => if s.length * j.toNat ≤ line ∧ j < 2 ^ 62 ∧ -(2 ^ 62) < j then some (.str (List.replicate j.toNat s).flatten) else none
  | .lst xs, .int j => if xs.length * j.toNat ≤ line ∧ j < 2 ^ 62 ∧ -(2 ^ 62) < j then some (.lst (List.replicate j.toNat xs).flatten) else none
  | .tup xs, .int j => if xs ≠ [] ∧ 2 ≤ j ∧ j ≤ 100000 ∧ xs.length ≤ 100 then some (.tup (List.replicate j.toNat xs).flatten) else none
  | _, _ => none
def modD : D → D → Option D
  | .int i, .int j => if 0 < j then some (.int (i % j)) else none
  | _, _ => none
def fdvD : D → D → Option D
  | .int i, .int j => if 0 < j ∧ (j < 1073741824 ∨ j.natAbs.log2 < 9000) then some (.int (i / j)) else none
  | _, _ => none
def powD : D → D → Option D
  | .int i, .int j => if 0 < j ∧ 1 < i ∧ (i.natAbs.log2 + 1) * j.toNat < 100000 then some (.int (i ^ j.toNat)) else none
  | _, _ => none
def negD : D → Option D
  | .int i => some (.int (-i))
  | _ => none

inductive Bop where
  | add | sub | mul | mod | fdv | pow
  deriving DecidableEq
def Bop.run : Bop → D → D → Option D
  | .add => addD | .sub => subD | .mul => mulD | .mod => modD | .fdv => fdvD | .pow => powD

inductive Cmp where
  | eq | ne | lt | le | gt | ge
  deriving DecidableEq
/-- the depth to which data are compared and shown -/
abbrev deep : Nat := 40
def Cmp.run : Cmp → D → D → Option Bool
  | .eq, a, b => if (pl deep a && pl deep b) = true then some (eqD a b) else none
  | .ne, a, b => if (pl deep a && pl deep b) = true then some (!eqD a b) else none
  | .lt, .int i, .int j => some (decide (i < j))
  | .le, .int i, .int j => some (decide (i ≤ j))
  | .gt, .int i, .int j => some (decide (j < i))
  | .ge, .int i, .int j => some (decide (j ≤ i))
  | .lt, .str i, .str j => some (decide (i < j))
  | .gt, .str i, .str j => some (decide (j < i))
  | _, _, _ => none

/-- two dicts are equal -/
def eqDct (ks ls : List (D × D)) : Bool := (ks.length == ls.length) && ks.all fun p => match getK ls p.1 with
  | some d => eqD p.2 d
  | none => false
def pld (ks : List (D × D)) : Bool := ks.all fun p => pl deep p.2
/-- comparisons, those of dicts too -/
def Cmp.run2 (c : Cmp) (x y : D) : Option Bool := match c, x, y with
  | .eq, .dct false ks, .dct false ls => if (pld ks && pld ls) = true then some (eqDct ks ls) else none
  | .ne, .dct false ks, .dct false ls => if (pld ks && pld ls) = true then some (!eqDct ks ls) else none
  | .eq, .lst (_ :: _), .lst [] => some false
  | .ne, .lst (_ :: _), .lst [] => some true
  | c, x, y => c.run x y
/-- y in x -/
def inD (y : D) : D → Option Bool
  | .lst xs => if (pl deep y && pls deep xs) = true then some (xs.any fun z => eqD z y) else none
  | .tup xs => if (pl deep y && pls deep xs) = true then some (xs.any fun z => eqD z y) else none
  | .kon (.tup xs) => if (pl deep y && pls deep xs) = true then some (xs.any fun z => eqD z y) else none
  | .str t => match y with
    | .str [c] => some (decide (c ∈ t))
    | _ => none
  | .dct t kvs => if isKey t y = true then some (getK kvs y).isSome else none
  | _ => none
def lenD : D → Option D
  | .lst xs => some (.int xs.length)
  | .tup xs => some (.int xs.length)
  | .str s => some (.int s.length)
  | .dct _ kvs => some (.int kvs.length)
  | .scr ns => some (.int ns.length)
  | .kon (.tup xs) => some (.int xs.length)
  | _ => none
/-- x[y] -/
def idxD : D → D → Option D
  | .lst xs, .int i => atI xs i
  | .tup xs, .int i => atI xs i
  | .str s, .int i => (atI s i).map fun c => .str [c]
  | .dct t kvs, k => if isKey t k = true then getK kvs k else none
  | .scr ns, .int i => (atI ns i).map .int
  | .kon (.tup xs), .int i => atI xs i
  | _, _ => none
def intO : D → Option Int
  | .int i => some i
  | _ => none
/-- x[lo:hi] -/
def slcD (lo hi : Option Int) : D → Option D
  | .lst xs => some (.lst (cut xs lo hi))
  | .tup xs => some (.tup (cut xs lo hi))
  | .str s => some (.str (cut s lo hi))
  | _ => none
/-- x[::-1] -/
def revD : D → Option D
  | .lst xs => some (.lst xs.reverse)
  | .tup xs => some (.tup xs.reverse)
  | _ => none
def tupD : D → Option D
  | .lst xs => some (.tup xs)
  | .tup xs => some (.tup xs)
  | _ => none
def boolsO : List D → Option (List Bool)
  | [] => some []
  | .bl b :: r => (boolsO r).map (b :: ·)
  | _ :: _ => none
def intsO : List D → Option (List Int)
  | [] => some []
  | .int b :: r => (intsO r).map (b :: ·)
  | _ :: _ => none
def strsO : List D → Option (List T)
  | [] => some []
  | .str b :: r => (strsO r).map (b :: ·)
  | _ :: _ => none
def allD : D → Option D
  | .lst xs => (boolsO xs).map fun bs => .bl (bs.all id)
  | _ => none
def anyD : D → Option D
  | .lst xs => (boolsO xs).map fun bs => .bl (bs.any id)
  | _ => none
def sumD : D → Option D
  | .lst xs => (intsO xs).map fun bs => .int bs.sum
  | _ => none
def joinT (s : T) : List T → T
  | [] => []
  | [t] => t
  | t :: r => t ++ s ++ joinT s r
def joinLen (s : T) (ts : List T) : Nat := (ts.map fun t => t.length + s.length).sum
def joinD (s : T) : D → Option D
  | .lst xs => (strsO xs).bind fun ts => if joinLen s ts ≤ line then some (.str (joinT s ts)) else none
  | .tup xs => (strsO xs).bind fun ts => if joinLen s ts ≤ line then some (.str (joinT s ts)) else none
  | _ => none
def minD : D → D → Option D
  | .int i, .int j => some (.int (if j < i then j else i))
  | _, _ => none
def maxD : D → D → Option D
  | .int i, .int j => some (.int (if j > i then j else i))
  | _, _ => none
def absD : D → Option D
  | .int i => some (.int (if i < 0 then -i else i))
  | _ => none
def intD : D → Option D
  | .int i => some (.int i)
  | .bl b => some (.int (b2i b))
  | _ => none
/-- the built-in classes of isinstance -/
inductive Ty where
  | int | bool | str | tuple | list | dict
  deriving DecidableEq
def isT : Ty → D → Option Bool
  | t, .non => some false
  | t, .int _ => some (t == .int)
  | t, .bl _ => some (t == .int || t == .bool)
  | t, .str _ => some (t == .str)
  | t, .tup _ => some (t == .tuple)
  | t, .lst _ => some (t == .list)
  | t, .scr _ => some (t == .list)
  | t, .dct _ _ => some (t == .dict)
  | _, _ => none

/-! ### repr -/
def toPy : D → PySem.PyData
  | .non => .none
  | .bl b => .bool b
  | .int i => .int i
  | .str s => .str ⟨s.toArray⟩
  | .tup xs => .tuple (toPys xs)
  | .lst xs => .list (toPys xs)
  | _ => .none
where toPys : List D → List PySem.PyData
  | [] => []
  | x :: xs => toPy x :: toPys xs
/-- what repr tells, of plain data that can be shown -/
def reprD (d : D) : Option D :=
  if (pl deep d && (toPy d).showable && decide ((toPy d).shown.length ≤ line)) = true then some (.str (toPy d).shown.cps.toList) else none
def strD : D → Option D
  | .int i => if i.natAbs.log2 < 1920 then some (.str (toString i : PySem.Str).cps.toList) else none
  | .str s => some (.str s)
  | _ => none

/-! ### the IR -/
inductive U1 where
  | neg | len | all | any | sum | abs | int | str | tup | rev | repr | minl
  deriving DecidableEq
/-- min of a list of ints -/
def minlD : D → Option D
  | .lst xs => (intsO xs).bind fun ns => match ns with
    | [] => none
    | n :: r => some (.int (r.foldl (fun a b => if b < a then b else a) n))
  | _ => none
/-- xs.count(k) -/
def cntD (k : D) : D → Option D
  | .lst xs => match k with
    | .int i => (intsO xs).map fun ns => .int (ns.count i : Nat)
    | _ => none
  | _ => none
/-- xs[::i] -/
def stpD (i : Int) : D → Option D
  | .lst xs => if i = 1 then some (.lst xs) else if i = -1 then some (.lst xs.reverse) else none
  | _ => none
/-- list(d) of a dict by tuples -/
def lstTD : D → Option D
  | .dct true kvs => some (.lst (kvs.map (·.1)))
  | _ => none
def U1.run : U1 → D → Option D
  | .minl => minlD
  | .neg => negD | .len => lenD | .all => allD | .any => anyD | .sum => sumD | .abs => absD | .int => intD | .str => strD | .tup => tupD | .rev => revD | .repr => reprD
inductive U2 where
  | min | max
  deriving DecidableEq
def U2.run : U2 → D → D → Option D
  | .min => minD | .max => maxD
def joinX (a b : D) : Option D := match a with
  | .str s => joinD s b
  | _ => none

/-- a text of the library as data -/
def keepS (x : PySem.Str) : Option D := if okT x.cps.toList = true then some (.str x.cps.toList) else none
def keepL : List PySem.Str → Option (List D)
  | [] => some []
  | x :: r => (keepS x).bind fun d => (keepL r).map (d :: ·)
/-- methods of texts -/
inductive Sm where
  | split | index
  deriving DecidableEq
def Sm.run : Sm → T → List D → Option D
  | .split, s, [.str t] => if t ≠ [] ∧ s.length + 2 ≤ line then (keepL (PySem.Txt.split (tS s) (tS t))).map .lst else none
  | .index, s, [.str t] => match PySem.Builtin.Str.occurrences (tS s) (tS t) 0 s.length 1 with
    | i :: _ => some (.int (i : Nat))
    | [] => none
  | _, _, _ => none
/-- s.upper() -/
def uppD (s : T) : Option D := if s.length ≤ 5592405 then keepS (PySem.Txt.upper (tS s)) else none
/-- s.replace(y, z) -/
def repD (s y z : T) : Option D := if s.length + (s.length + 1) * z.length ≤ line ∧ y ≠ z then keepS (PySem.Txt.replace (tS s) (tS y) (tS z)) else none
/-- list(d.items()) -/
def itmD : D → Option D
  | .dct false kvs => some (.lst (kvs.map fun p => .tup [p.1, p.2]))
  | _ => none
/-- what a shared object holds -/
def view (m : Mem) : D → Option D
  | .obj h => m[h]?
  | d => some d

/-! targets -/
mutual
inductive G where
  | nm (i : Nat)
  | tp (gs : Gs)
inductive Gs where
  | nil
  | cons (g : G) (r : Gs)
end
mutual
/-- expressions that give a value -/
inductive E where
  | var (i : Nat)
  | glb (x : PySem.Str) (d : D)
  | non
  | bl (b : Bool)
  | int (i : Int)
  | str (s : T)
  | bop (o : Bop) (a b : A)
  | cmp (c : Cmp) (a b : A)
  | chn (c d : Cmp) (a b e : E)
  | isN (neg : Bool) (a : E)
  | inn (neg : Bool) (a : E) (b : A)
  | and (es : Es)
  | or (es : Es)
  | not (a : E)
  | ite (t a b : E)
  | tup (es : Es)
  | idx (a : A) (i : E)
  | slc (a : A) (lo hi : EO)
  | u1 (o : U1) (a : A)
  | u2 (o : U2) (a b : A)
  | jn (a : E) (b : A)
  | sm (o : Sm) (a : E) (es : Es)
  | rep (a : E) (y z : T)
  | upp (a : E)
  | orS (a b : E)
  | isB (neg b : Bool) (a : E)
  | cnt (a : A) (e : E)
  | isi (a : A) (t : Ty)
  | get (a : A) (k d : E)
  | isx (e : E) (x : PySem.Str) (i : Nat)
  | att (o : E) (js : List Nat) (x : T)
  | mth (o : E) (x : T) (jf : List (Nat × Nat)) (es : Es)
  | mk (y : PySem.Str) (j f : Nat) (es : Es)
  | opop (o : E)
  | xcall (f : Nat) (as : Es)
  | xarg (f : Nat) (a : E)
  | told (x : PySem.Str) (t : Nat) (q : T) (s w f : Nat) (es : Es)
  | call (f : Nat) (as : Es)
  | fr (f : F)
  | new (f : F)
/-- expressions that give a new list or dict -/
inductive F where
  | lst (es : Es)
  | dct (t : Bool) (kvs : Kvs)
  | comp (own : List Nat) (g : G) (it : I) (ifs : EO) (elt : E)
  | compK (own : List Nat) (g : G) (i : Nat) (ifs : EO) (elt : E)
  | lstof (a : A)
  | dctof (a : A)
  | itm (a : A)
  | stp (a : A) (e : E)
  | lstT (a : A)
  | lrg (a : E)
  | lrg2 (a b : E)
  | srt (a : A)
  | srtK (e : E) (i : Nat) (M : Int) (t : Nat) (q : T)
  | bop (o : Bop) (a b : A)
  | slc (a : A) (lo hi : EO)
  | call (f : Nat) (as : Es)
/-- operands: a value, or what a slot's own list or dict is -/
inductive A where
  | ex (e : E)
  | pk (i : Nat)
  | gl (x : PySem.Str) (d : D)
inductive EO where
  | no
  | so (e : E)
inductive Es where
  | nil
  | cons (e : E) (r : Es)
/-- a display's pairs -/
inductive Kvs where
  | nil
  | cons (k v : E) (r : Kvs)
/-- what is walked -/
inductive I where
  | it (a : A)
  | rg1 (a : E)
  | rg2 (a b : E)
  | zipS (a b : E)
  | en (a : A)
  | enT (a : A)
  | zip (a b : A)
  | items (a : A)
end
/-- sides of a parallel assignment -/
inductive Ps where
  | nil
  | e (i : Nat) (x : E) (r : Ps)
  | f (i : Nat) (x : F) (r : Ps)
mutual
inductive S where
  | set (i : Nat) (e : E)
  | own (i : Nat) (f : F)
  | asg (g : G) (e : E)
  | par (ps : Ps)
  | app (i : Nat) (e : E)
  | ext (i : Nat) (e : E)
  | put (i : Nat) (k v : E)
  | upd (i : Nat) (e : E)
  | popA (g : G) (i : Nat) (e : EO)
  | aug (i : Nat) (e : E)
  | oapp (o e : E)
  | oput (o k v : E)
  | oclr (o : E)
  | satt (o : E) (js : List Nat) (x : T) (v : E)
  | aatt (o : E) (js : List Nat) (x : T) (v : E)
  | inc (i : Nat) (v : E)
  | oext (o e : E)
  | frz (i : Nat)
  | shr (i : Nat)
  | iff (t : E) (a b : Ss)
  | fo (g : G) (it : I) (b : Ss)
  | fok (g : G) (i : Nat) (w : Bool) (b : Ss)
  | fol (g : G) (e : E) (b : Ss)
  | wh (t : E) (b : Ss)
  | ret (e : E)
  | retF (f : F)
  | retX (i : Nat)
  | exp (e : E)
  | brk
  | cnt
  | pass
  | never
  | raise (x : PySem.Str) (i : Nat) (msg : T)
  | xexp (e : E)
  | xset (i : Nat) (e : E)
  | xasg (g : G) (e : E)
  | xret (e : E)
  | xiff (t : E) (a b : Ss)
inductive Ss where
  | nil
  | cons (s : S) (r : Ss)
end

/-! ### the meaning -/
/-- from here on: the classes of exceptions; their tests -/
@[irreducible] def xCls : Nat := 1000000
@[irreducible] def xTst : Nat := 2000000
@[irreducible] def xOwn : Nat := 3000000
theorem xOwn_eq : xOwn = 3000000 := by unfold xOwn; rfl
theorem xCls_eq : xCls = 1000000 := by unfold xCls; rfl
theorem xTst_eq : xTst = 2000000 := by unfold xTst; rfl
mutual
/-- a target takes a value; slots that hold an own thing are no targets here -/
def bindG : G → D → Env → Option Env
  | .nm i, d, env => if (gt env i).isOwn = true then none else some (st env i (.val d))
  | .tp gs, .tup ds, env => bindGs gs ds env
  | _, _, _ => none
def bindGs : Gs → List D → Env → Option Env
  | .nil, [], env => some env
  | .cons g r, d :: ds, env => (bindG g d env).bind fun env' => bindGs r ds env'
  | _, _, _ => none
end
def vw (m : Mem) (d : D) : Option D := view m d
/-- the slots of a comprehension's own names are empty in it -/
def wipeE (env : Env) : List Nat → Env
  | [] => env
  | i :: r => st (wipeE env r) i .no
def noOwn (env : Env) (own : List Nat) : Bool := own.all fun i => !(gt env i).isOwn
/-- a comprehension's turns -/
def compL (env : Env) (g : G) (tst : Env → Mem → R D) (elt : Env → Mem → R D) : List D → Mem → R (List D)
  | [], m => .ok [] m
  | d :: ds, m => match bindG g d env with
    | none => .no
    | some e1 => (tst e1 m).bind fun c m1 => match c with
      | .bl true => (elt e1 m1).bind fun x m2 => (compL env g tst elt ds m2).bind fun xs m3 => .ok (x :: xs) m3
      | .bl false => compL env g tst elt ds m1
      | _ => .no
def itemsD : D → Option (List D)
  | .lst xs => some xs
  | .tup xs => some xs
  | .str s => some (s.map fun c => .str [c])
  | .scr ns => some (ns.map .int)
  | .kon (.tup xs) => some xs
  | _ => none
def enumL (n : Nat) : List D → List D
  | [] => []
  | d :: ds => .tup [.int n, d] :: enumL (n + 1) ds
def zipL : List D → List D → List D
  | x :: xs, y :: ys => .tup [x, y] :: zipL xs ys
  | _, _ => []
def rngL (lo : Int) : Nat → List D
  | 0 => []
  | n + 1 => .int lo :: rngL (lo + 1) n
def rngOk (i : Int) : Bool := decide (-(2 ^ 62) ≤ i ∧ i < 2 ^ 62)
def lrgOk (i j : Int) : Bool := decide (-16777216 ≤ i ∧ i ≤ 16777216 ∧ -16777216 ≤ j ∧ j ≤ 16777216 ∧ (j - i).toNat ≤ 16777216)
/-- the signs of a text beside the items of a tuple -/
def zipST (s : T) : List D → List D := fun ys => zipL (s.map fun c => D.str [c]) ys
/-- lists; tuples -/
def seqL : D → Option (List D)
  | .lst xs => some xs
  | .scr ns => some (ns.map .int)
  | _ => none
def seqT : D → Option (List D)
  | .tup xs => some xs
  | .kon (.tup xs) => some xs
  | _ => none
def zipD (x y : D) : Option (List D) := match seqL x, seqL y with
  | some xs, some ys => some (zipL xs ys)
  | _, _ => match seqT x, seqT y with
    | some xs, some ys => some (zipL xs ys)
    | _, _ => none
/-- a dict of pairs -/
def pairsO : List D → Option (List (D × D))
  | [] => some []
  | .tup [k, v] :: r => (pairsO r).map ((k, v) :: ·)
  | _ :: _ => none
def dctD : D → Option D
  | .lst xs => (pairsO xs).bind fun ps => if (ps.all fun p => isKey false p.1) = true then some (.dct false (mergeK [] ps)) else none
  | .dct false kvs => some (.dct false kvs)
  | _ => none
def lstD : D → Option D
  | .lst xs => some (.lst xs)
  | .tup xs => some (.lst xs)
  | .dct false kvs => some (.lst (kvs.map (·.1)))
  | _ => none
mutual
/-- of one kind throughout -/
def alk : D → D → Bool
  | .non, .non => true
  | .bl _, .bl _ => true
  | .int _, .int _ => true
  | .str _, .str _ => true
  | .lst xs, .lst ys => alks xs ys
  | .tup xs, .tup ys => alks xs ys
  | _, _ => false
def alks : List D → List D → Bool
  | x :: xs, y :: ys => alk x y && alks xs ys
  | [], _ => true
  | _ :: _, [] => true
end
mutual
/-- less: ints, texts; lists and tuples item by item -/
def lssD : D → D → Bool
  | .int i, .int j => decide (i < j)
  | .str s, .str t => decide (s < t)
  | .bl a, .bl b => !a && b
  | .tup xs, .tup ys => lssDs xs ys
  | .lst xs, .lst ys => lssDs xs ys
  | _, _ => false
def lssDs : List D → List D → Bool
  | x :: xs, y :: ys => if eqD x y = true then lssDs xs ys else lssD x y
  | [], _ :: _ => true
  | _, [] => false
end
def headed : D → Bool
  | .tup (_ :: _) => true
  | _ => false
def untup : D → Bool
  | .tup _ => false
  | .non => false
  | _ => true
def sortOk (xs : List D) : Bool := pls deep xs && (xs.all fun a => xs.all fun b => alk a b) && (xs.all headed || xs.all untup)
def srtO (xs : List D) : Option (List D) := if sortOk xs = true then some (xs.mergeSort fun a b => !lssD b a) else none
/-- ints in the order of k * st % M, then of k -/
def ordK (st M : Int) (js : List Int) : List Int := js.mergeSort fun a b => decide (a * st % M < b * st % M ∨ (a * st % M = b * st % M ∧ a ≤ b))
def srtT (ts : List T) : List T := ts.mergeSort fun a b => !decide (b < a)
/-- sorted: of a list of plain data; of a dict by texts, fewer than 64 -/
def srtL : D → Option D
  | .lst xs => (srtO xs).map .lst
  | _ => none
def srtD : D → Option D
  | .lst xs => (srtO xs).map .lst
  | .dct false kvs => (strsO (kvs.map (·.1))).bind fun ts => if ts.length < 64 then some (.lst ((srtT ts).map .str)) else none
  | _ => none

def isLst : Option D → Bool
  | some (.lst _) => true
  | _ => false
def isDct : Option D → Bool
  | some (.dct _ _) => true
  | _ => false
abbrev Fs := Nat → List D → Mem → R (Bool × D)
/-- the object is a table of code objects of that name -/
def isTab (m : Mem) (t : Nat) (q : T) : Bool := match m[t]? with
  | some (.kon (.str q')) => q' == q
  | _ => false
/-- is an object's class the own class j -/
def isOwnC (Φ : Fs) (m : Mem) (C j : Nat) : Bool := match Φ (xOwn + j) [] m with
  | .ok r _ => match r.2 with
    | .ins D _ => C == D
    | _ => false
  | _ => false
/-- which of the classes it is -/
def whichC (Φ : Fs) (m : Mem) (C : Nat) : List (Nat × Nat) → Option Nat
  | [] => none
  | (j, f) :: r => if isOwnC Φ m C j = true then some f else whichC Φ m C r
def putFd (x : T) (d : D) : List (T × D) → List (T × D)
  | [] => [(x, d)]
  | (y, e) :: r => if y = x then (y, d) :: r else (y, e) :: putFd x d r
/-- an instance of one of the classes: its class, its fields -/
def insO (Φ : Fs) (m : Mem) (js : List Nat) : D → Option (Nat × Nat × List (T × D))
  | .obj h => match m[h]? with
    | some (.ins C fs) => if (js.any fun j => isOwnC Φ m C j) = true then some (h, C, fs) else none
    | _ => none
  | _ => none
/-- what a deed tells, or the word of its refusal: s, the test for what is caught; w, the def that tells the word -/
def toldR (Φ : Fs) (s w : Nat) : R (Bool × D) → R D
  | .ok r m => .ok r.2 m
  | .ex d m => (Φ (xTst + s) [d] m).bind fun b m1 => match b.2 with
    | .bl true => (Φ w [d] m1).bind fun r m2 => .ok r.2 m2
    | _ => .no
  | .no => .no
mutual
def evE (Φ : Fs) : E → Env → Mem → R D
  | .var i, env, m => match gt env i with
    | .val d => .ok d m
    | _ => .no
  | .glb _ d, _, m => .ok d m
  | .non, _, m => .ok .non m
  | .bl b, _, m => .ok (.bl b) m
  | .int i, _, m => .ok (.int i) m
  | .str s, _, m => .ok (.str s) m
  | .bop o a b, env, m => (evA Φ a env m).bind fun x m1 => (evA Φ b env m1).bind fun y m2 =>
      R.ofO ((vw m2 x).bind fun x' => (vw m2 y).bind fun y' => o.run x' y') m2
  | .cmp c a b, env, m => (evA Φ a env m).bind fun x m1 => (evA Φ b env m1).bind fun y m2 =>
      R.ofO ((vw m2 x).bind fun x' => (vw m2 y).bind fun y' => (c.run2 x' y').map .bl) m2
  | .chn c d a b e, env, m => (evE Φ a env m).bind fun x m1 => (evE Φ b env m1).bind fun y m2 => match c.run x y with
      | some true => (evE Φ e env m2).bind fun z m3 => R.ofO ((d.run y z).map .bl) m3
      | some false => .ok (.bl false) m2
      | none => .no
  | .isN neg a, env, m => (evE Φ a env m).bind fun x m1 => .ok (.bl (match x with | .non => !neg | _ => neg)) m1
  | .inn neg a b, env, m => (evE Φ a env m).bind fun x m1 => (evA Φ b env m1).bind fun y m2 =>
      R.ofO ((vw m2 y).bind fun y' => (inD x y').map fun c => .bl (c != neg)) m2
  | .and es, env, m => evAnd Φ es env m
  | .or es, env, m => evOr Φ es env m
  | .not a, env, m => (evE Φ a env m).bind fun x m1 => match x with
    | .bl b => .ok (.bl (!b)) m1
    | _ => .no
  | .ite t a b, env, m => (evE Φ t env m).bind fun x m1 => match x with
    | .bl true => evE Φ a env m1
    | .bl false => evE Φ b env m1
    | _ => .no
  | .tup es, env, m => (evEs Φ es env m).bind fun xs m1 => .ok (.tup xs) m1
  | .idx a i, env, m => (evA Φ a env m).bind fun x m1 => (evE Φ i env m1).bind fun y m2 => R.ofO ((vw m2 x).bind fun x' => idxD x' y) m2
  | .slc a lo hi, env, m => (evA Φ a env m).bind fun x m1 => (evO Φ lo env m1).bind fun l m2 => (evO Φ hi env m2).bind fun h m3 => R.ofO ((vw m3 x).bind fun x' => slcD l h x') m3
  | .u1 o a, env, m => (evA Φ a env m).bind fun x m1 => R.ofO ((vw m1 x).bind fun x' => o.run x') m1
  | .u2 o a b, env, m => (evA Φ a env m).bind fun x m1 => (evA Φ b env m1).bind fun y m2 =>
      R.ofO ((vw m2 x).bind fun x' => (vw m2 y).bind fun y' => o.run x' y') m2
  | .jn a b, env, m => (evE Φ a env m).bind fun x m1 => (evA Φ b env m1).bind fun y m2 =>
      R.ofO ((vw m2 y).bind fun y' => joinX x y') m2
  | .sm o a es, env, m => (evE Φ a env m).bind fun x m1 => (evEs Φ es env m1).bind fun ys m2 => match x with
    | .str s => R.ofO (o.run s ys) m2
    | _ => .no
  | .orS a b, env, m => (evE Φ a env m).bind fun x m1 => match x with
    | .str s => if s = [] then evE Φ b env m1 else .ok (.str s) m1
    | _ => .no
  | .upp a, env, m => (evE Φ a env m).bind fun x m1 => match x with
    | .str s => R.ofO (uppD s) m1
    | _ => .no
  | .rep a y z, env, m => (evE Φ a env m).bind fun x m1 => match x with
    | .str s => R.ofO (repD s y z) m1
    | _ => .no
  | .isB neg b a, env, m => (evE Φ a env m).bind fun x m1 => match x with
    | .bl c => .ok (.bl ((c == b) != neg)) m1
    | _ => .no
  | .cnt a e, env, m => (evA Φ a env m).bind fun x m1 => if isLst (vw m1 x) = true then (evE Φ e env m1).bind fun y m2 => R.ofO ((vw m2 x).bind (cntD y)) m2 else .no
  | .isi a t, env, m => (evA Φ a env m).bind fun x m1 => R.ofO ((vw m1 x).bind fun x' => (isT t x').map .bl) m1
  | .get a k d, env, m => (evA Φ a env m).bind fun x m1 => if isDct (vw m1 x) = true then (evE Φ k env m1).bind fun y m2 => (evE Φ d env m2).bind fun z m3 => match vw m3 x with
      | some (.dct t kvs) => if isKey t y = true then .ok ((getK kvs y).getD z) m3 else .no
      | _ => .no
    else .no
  | .isx e _ i, env, m => (evE Φ e env m).bind fun x m1 => (Φ (xTst + i) [x] m1).bind fun r m2 => .ok r.2 m2
  | .xcall f as, env, m => match evEs Φ as env m with
    | .ok xs m1 => (Φ f xs m1).bind fun r m2 => .ok r.2 m2
    | _ => .no
  | .xarg f a, env, m => (evE Φ a env m).bind fun x m1 => (Φ f [x] m1).bind fun r m2 => .ok r.2 m2
  | .att o js x, env, m => (evE Φ o env m).bind fun a m1 => match insO Φ m1 js a with
    | some (_, _, fs) => R.ofO (fs.lookup x) m1
    | none => .no
  | .mth o x jf es, env, m => (evE Φ o env m).bind fun a m1 => match insO Φ m1 (jf.map (·.1)) a with
    | some (_, C, fs) => match fs.lookup x, whichC Φ m1 C jf with
      | none, some f => (evEs Φ es env m1).bind fun xs m2 => (Φ f (a :: xs) m2).bind fun r m3 => .ok r.2 m3
      | _, _ => .no
    | none => .no
  | .mk _ j f es, env, m => (evEs Φ es env m).bind fun xs m1 => match Φ (xOwn + j) [] m1 with
    | .ok r _ => match r.2 with
      | .ins C _ => (Φ f (.obj m1.length :: xs) (m1 ++ [.ins C []])).bind fun q m3 => match q.2 with
        | .non => .ok (.obj m1.length) m3
        | _ => .no
      | _ => .no
    | _ => .no
  | .opop o, env, m => (evE Φ o env m).bind fun a m1 => match a with
    | .obj h => match m1[h]? with
      | some (.lst xs) => match xs[xs.length - 1]? with
        | some d => .ok d (m1.set h (.lst xs.dropLast))
        | none => .no
      | _ => .no
    | _ => .no
  | .told _ t q s w f es, env, m => if isTab m t q = true then match evEs Φ es env m with
    | .ok xs m1 => toldR Φ s w (Φ f xs m1)
    | _ => .no
    else .no
  | .call f as, env, m => (evEs Φ as env m).bind fun xs m1 => (Φ f xs m1).bind fun r m2 => .ok r.2 m2
  | .fr f, env, m => evF Φ f env m
  | .new f, env, m => (evF Φ f env m).bind fun d m1 => .ok (.obj m1.length) (m1 ++ [d])
def evAnd (Φ : Fs) : Es → Env → Mem → R D
  | .nil, _, _ => .no
  | .cons e r, env, m => (evE Φ e env m).bind fun x m1 => match x, r with
    | x, .nil => .ok x m1
    | .bl true, .cons _ _ => evAnd Φ r env m1
    | .bl false, .cons _ _ => .ok (.bl false) m1
    | _, _ => .no
def evOr (Φ : Fs) : Es → Env → Mem → R D
  | .nil, _, _ => .no
  | .cons e r, env, m => (evE Φ e env m).bind fun x m1 => match x, r with
    | x, .nil => .ok x m1
    | .bl false, .cons _ _ => evOr Φ r env m1
    | .bl true, .cons _ _ => .ok (.bl true) m1
    | _, _ => .no
def evEs (Φ : Fs) : Es → Env → Mem → R (List D)
  | .nil, _, m => .ok [] m
  | .cons e r, env, m => (evE Φ e env m).bind fun x m1 => (evEs Φ r env m1).bind fun xs m2 => .ok (x :: xs) m2
def evK (Φ : Fs) : Kvs → Env → Mem → R (List (D × D))
  | .nil, _, m => .ok [] m
  | .cons k v r, env, m => (evE Φ k env m).bind fun x m1 => (evE Φ v env m1).bind fun y m2 => (evK Φ r env m2).bind fun ps m3 => .ok ((x, y) :: ps) m3
def evO (Φ : Fs) : EO → Env → Mem → R (Option Int)
  | .no, _, m => .ok none m
  | .so e, env, m => (evE Φ e env m).bind fun x m1 => R.ofO ((intO x).map some) m1
/-- a test; none: True -/
def evT (Φ : Fs) : EO → Env → Mem → R D
  | .no, _, m => .ok (.bl true) m
  | .so e, env, m => evE Φ e env m
def evA (Φ : Fs) : A → Env → Mem → R D
  | .ex e, env, m => evE Φ e env m
  | .pk i, env, m => match gt env i with
    | .val d => .ok d m
    | .own d => .ok d m
    | .no => .no
  | .gl _ d, _, m => .ok (.kon d) m
def evF (Φ : Fs) : F → Env → Mem → R D
  | .lst es, env, m => (evEs Φ es env m).bind fun xs m1 => .ok (.lst xs) m1
  | .dct t kvs, env, m => (evK Φ kvs env m).bind fun ps m1 =>
      if (ps.all fun p => isKey t p.1) = true then .ok (.dct t (mergeK [] ps)) m1 else .no
  | .comp own g it ifs elt, env, m => if noOwn env own = true then (evI Φ it env m).bind fun xs m1 =>
      if xs.length ≤ line then (compL (wipeE env own) g (fun e m => evT Φ ifs e m) (fun e m => evE Φ elt e m) xs m1).bind fun ys m2 => .ok (.lst ys) m2 else .no else .no
  | .compK own g i ifs elt, env, m => match gt env i with
    | .val (.dct false kvs) => if noOwn env own = true then
      if kvs.length ≤ line then (compL (wipeE env own) g (fun e m => evT Φ ifs e m) (fun e m => evE Φ elt e m) (kvs.map (·.1)) m).bind fun ys m2 => .ok (.lst ys) m2 else .no else .no
    | _ => .no
  | .lstof a, env, m => (evA Φ a env m).bind fun x m1 => R.ofO ((vw m1 x).bind lstD) m1
  | .dctof a, env, m => (evA Φ a env m).bind fun x m1 => R.ofO ((vw m1 x).bind dctD) m1
  | .itm a, env, m => (evA Φ a env m).bind fun x m1 => R.ofO ((vw m1 x).bind itmD) m1
  | .stp a e, env, m => (evA Φ a env m).bind fun x m1 => if isLst (vw m1 x) = true then (evE Φ e env m1).bind fun y m2 => R.ofO ((intO y).bind fun i => (vw m2 x).bind (stpD i)) m2 else .no
  | .lstT a, env, m => (evA Φ a env m).bind fun x m1 => R.ofO ((vw m1 x).bind lstTD) m1
  | .lrg a, env, m => (evE Φ a env m).bind fun x m1 => match x with
    | .int j => if 0 ≤ j ∧ j ≤ 16777216 then .ok (.lst (rngL 0 j.toNat)) m1 else .no
    | _ => .no
  | .lrg2 a b, env, m => (evE Φ a env m).bind fun x m1 => (evE Φ b env m1).bind fun y m2 => match x, y with
    | .int i, .int j => if lrgOk i j = true then .ok (.lst (rngL i (j - i).toNat)) m2 else .no
    | _, _ => .no
  | .srt a, env, m => (evA Φ a env m).bind fun x m1 => R.ofO ((vw m1 x).bind srtD) m1
  | .srtK e i M t q, env, m => (evE Φ e env m).bind fun x m1 => match x, gt env i with
    | .lst xs, .val (.int st) => match intsO xs with
      | some js => if isTab m1 t q = true ∧ js.length ≤ 100 ∧ (∀ j ∈ js, -(2 ^ 64) < j ∧ j < 2 ^ 64) then .ok (.lst ((ordK st M js).map .int)) m1 else .no
      | none => .no
    | _, _ => .no
  | .bop o a b, env, m => (evA Φ a env m).bind fun x m1 => (evA Φ b env m1).bind fun y m2 =>
      R.ofO ((vw m2 x).bind fun x' => (vw m2 y).bind fun y' => match o.run x' y' with
        | some (.lst zs) => some (.lst zs)
        | _ => none) m2
  | .slc a lo hi, env, m => (evA Φ a env m).bind fun x m1 => (evO Φ lo env m1).bind fun l m2 => (evO Φ hi env m2).bind fun h m3 => R.ofO ((vw m3 x).bind fun x' => match x' with
      | .lst xs => some (.lst (cut xs l h))
      | _ => none) m3
  | .call f as, env, m => (evEs Φ as env m).bind fun xs m1 => (Φ f xs m1).bind fun r m2 => if r.1 = true then .ok r.2 m2 else .no
def evI (Φ : Fs) : I → Env → Mem → R (List D)
  | .it a, env, m => (evA Φ a env m).bind fun x m1 => R.ofO (itemsD x) m1
  | .rg1 a, env, m => (evE Φ a env m).bind fun x m1 => match x with
    | .int j => if rngOk j = true then .ok (rngL 0 j.toNat) m1 else .no
    | _ => .no
  | .rg2 a b, env, m => (evE Φ a env m).bind fun x m1 => (evE Φ b env m1).bind fun y m2 => match x, y with
    | .int i, .int j => if (rngOk i && rngOk j) = true then .ok (rngL i (j - i).toNat) m2 else .no
    | _, _ => .no
  | .zipS a b, env, m => (evE Φ a env m).bind fun x m1 => (evE Φ b env m1).bind fun y m2 => match x, y with
    | .str s, .tup ys => .ok (zipST s ys) m2
    | _, _ => .no
  | .en a, env, m => (evA Φ a env m).bind fun x m1 => R.ofO ((seqL x).map (enumL 0)) m1
  | .enT a, env, m => (evA Φ a env m).bind fun x m1 => R.ofO ((seqT x).map (enumL 0)) m1
  | .zip a b, env, m => (evA Φ a env m).bind fun x m1 => (evA Φ b env m1).bind fun y m2 => R.ofO (zipD x y) m2
  | .items _, _, _ => .no
end

/-- how a statement ends -/
inductive O where
  | nx (e : Env) (m : Mem)
  | rt (o : Bool) (d : D) (m : Mem)
  | bk (e : Env) (m : Mem)
  | ct (e : Env) (m : Mem)
  | ex (d : D) (m : Mem)
  | no
def R.thenO {α : Type} (r : R α) (f : α → Mem → O) : O := match r with
  | .ok a m => f a m
  | .ex _ _ => .no
  | .no => .no
/-- .. what is raised goes on -/
def R.thenX {α : Type} (r : R α) (f : α → Mem → O) : O := match r with
  | .ok a m => f a m
  | .ex e m => .ex e m
  | .no => .no
@[simp] theorem R.ok_thenX {α : Type} (a : α) (m : Mem) (f : α → Mem → O) : (R.ok a m).thenX f = f a m := id rfl
@[simp] theorem R.ex_thenX {α : Type} (e : D) (m : Mem) (f : α → Mem → O) : (R.ex e m : R α).thenX f = .ex e m := id rfl
@[simp] theorem R.no_thenX {α : Type} (f : α → Mem → O) : (R.no : R α).thenX f = .no := id rfl
@[simp] theorem R.ok_thenO {α : Type} (a : α) (m : Mem) (f : α → Mem → O) : (R.ok a m).thenO f = f a m := id rfl
@[simp] theorem R.no_thenO {α : Type} (f : α → Mem → O) : (R.no : R α).thenO f = .no := id rfl
def O.thn (o : O) (f : Env → Mem → O) : O := match o with
  | .nx e m => f e m
  | o => o
@[simp] theorem O.nx_thn (e : Env) (m : Mem) (f : Env → Mem → O) : (O.nx e m).thn f = f e m := id rfl
@[simp] theorem O.rt_thn (b : Bool) (d : D) (m : Mem) (f : Env → Mem → O) : (O.rt b d m).thn f = .rt b d m := id rfl
@[simp] theorem O.bk_thn (e : Env) (m : Mem) (f : Env → Mem → O) : (O.bk e m).thn f = .bk e m := id rfl
@[simp] theorem O.ct_thn (e : Env) (m : Mem) (f : Env → Mem → O) : (O.ct e m).thn f = .ct e m := id rfl
@[simp] theorem O.ex_thn (d : D) (m : Mem) (f : Env → Mem → O) : (O.ex d m).thn f = .ex d m := id rfl
@[simp] theorem O.no_thn (f : Env → Mem → O) : O.no.thn f = .no := id rfl
/-- nothing raised leaves -/
def noX : O → O
  | .ex _ _ => .no
  | o => o
/-- a for's turns -/
def forL (g : G) (body : Env → Mem → O) : List D → Env → Mem → O
  | [], env, m => .nx env m
  | d :: ds, env, m => match bindG g d env with
    | none => .no
    | some e1 => match body e1 m with
      | .nx e2 m2 => forL g body ds e2 m2
      | .ct e2 m2 => forL g body ds e2 m2
      | .bk e2 m2 => .nx e2 m2
      | .rt o d m2 => .rt o d m2
      | .ex d m2 => .ex d m2
      | .no => .no
/-- a for's turns over a shared list, as it stands at each turn -/
def forV (g : G) (body : Env → Mem → O) (h : Nat) : Nat → Nat → Env → Mem → O
  | 0, _, _, _ => .no
  | n + 1, i, env, m => match m[h]? with
    | some (.lst xs) => match xs[i]? with
      | none => .nx env m
      | some d => match bindG g d env with
        | none => .no
        | some e1 => match body e1 m with
          | .nx e2 m2 => forV g body h n (i + 1) e2 m2
          | .ct e2 m2 => forV g body h n (i + 1) e2 m2
          | .bk e2 m2 => .nx e2 m2
          | .rt o d m2 => .rt o d m2
          | .ex d m2 => .ex d m2
          | .no => .no
    | _ => .no
/-- a while's turns -/
def whL (t : Env → Mem → R D) (body : Env → Mem → O) : Nat → Env → Mem → O
  | 0, _, _ => .no
  | n + 1, env, m => (t env m).thenO fun c m1 => match c with
    | .bl true => match body env m1 with
      | .nx e2 m2 => whL t body n e2 m2
      | .ct e2 m2 => whL t body n e2 m2
      | .bk e2 m2 => .nx e2 m2
      | .rt o d m2 => .rt o d m2
      | .ex d m2 => .ex d m2
      | .no => .no
    | .bl false => .nx env m1
    | _ => .no
/-- how many turns a while may have -/
@[irreducible] def most : Nat := 16777216
theorem most_eq : most = 16777216 := by unfold most; rfl
/-- the store with another content for an object -/
def sto (m : Mem) (h : Nat) (d : D) : Mem := m.set h d
/-- the right sides from the left, then the stores -/
def exPs (Φ : Fs) : Ps → Env → Mem → R (List (Nat × Sl))
  | .nil, _, m => .ok [] m
  | .e i x r, env, m => (evE Φ x env m).bind fun d m1 => (exPs Φ r env m1).bind fun ds m2 => .ok ((i, .val d) :: ds) m2
  | .f i x r, env, m => (evF Φ x env m).bind fun d m1 => (exPs Φ r env m1).bind fun ds m2 => .ok ((i, .own d) :: ds) m2
def stores : List (Nat × Sl) → Env → Env
  | [], env => env
  | (i, x) :: r, env => stores r (st env i x)
/-- a dict's keys, its pairs -/
def walkD (w : Bool) (kvs : List (D × D)) : List D := if w = true then kvs.map fun p => .tup [p.1, p.2] else kvs.map (·.1)
/-- a shared list -/
def isLstO (m : Mem) : D → Bool
  | .obj h => match m[h]? with
    | some (.lst _) => true
    | _ => false
  | _ => false
def isAs (I : I) : Bool := match I with
  | .it (.pk _) => false
  | .en (.pk _) => false
  | .enT (.pk _) => false
  | .zip (.pk _) _ => false
  | .zip _ (.pk _) => false
  | .items (.pk _) => false
  | _ => true
mutual
def exS (Φ : Fs) : S → Env → Mem → O
  | .set i e, env, m => (evE Φ e env m).thenO fun d m1 => .nx (st env i (.val d)) m1
  | .own i f, env, m => (evF Φ f env m).thenO fun d m1 => .nx (st env i (.own d)) m1
  | .asg g e, env, m => (evE Φ e env m).thenO fun d m1 => match bindG g d env with
    | some e1 => .nx e1 m1
    | none => .no
  | .par ps, env, m => (exPs Φ ps env m).thenO fun xs m1 => .nx (stores xs env) m1
  | .app i e, env, m => (evE Φ e env m).thenO fun d m1 => match gt env i with
    | .own (.lst xs) => if xs.length < line then .nx (st env i (.own (.lst (xs ++ [d])))) m1 else .no
    | _ => .no
  | .ext i e, env, m => (evE Φ e env m).thenO fun d m1 => match gt env i, d with
    | .own (.lst xs), .lst ys => if xs.length + ys.length ≤ line then .nx (st env i (.own (.lst (xs ++ ys)))) m1 else .no
    | _, _ => .no
  | .put i k v, env, m => (evE Φ v env m).thenO fun x m1 => (evE Φ k env m1).thenO fun y m2 => match gt env i with
    | .own (.dct t kvs) => if isKey t y = true ∧ kvs.length < line then .nx (st env i (.own (.dct t (putK kvs y x)))) m2 else .no
    | .own (.lst xs) => match y with
      | .int j => match ixN xs.length j with
        | some j' => .nx (st env i (.own (.lst (xs.set j' x)))) m2
        | none => .no
      | _ => .no
    | _ => .no
  | .upd i e, env, m => (evE Φ e env m).thenO fun d m1 => match gt env i, d with
    | .own (.dct t kvs), .dct t' ps => if t = t' ∧ kvs.length + ps.length ≤ line then .nx (st env i (.own (.dct t (mergeK kvs ps)))) m1 else .no
    | _, _ => .no
  | .popA g i e, env, m => (evO Φ e env m).thenO fun o m1 => match gt env i with
    | .own (.lst xs) => if xs.length ≤ line then match ixN xs.length (o.getD (-1)) with
      | some k => match xs[k]? with
        | some d => match bindG g d (st env i (.own (.lst (xs.eraseIdx k)))) with
          | some e1 => .nx e1 m1
          | none => .no
        | none => .no
      | none => .no
      else .no
    | _ => .no
  | .aug i e, env, m => (evE Φ e env m).thenO fun d m1 => match gt env i, d with
    | .own (.lst xs), .lst ys => if xs.length + ys.length ≤ line then .nx (st env i (.own (.lst (xs ++ ys)))) m1 else .no
    | _, _ => .no
  | .oapp o e, env, m => (evE Φ o env m).thenO fun a m1 => if isLstO m1 a = true then (evE Φ e env m1).thenO fun d m2 => match a with
    | .obj h => match m2[h]? with
      | some (.lst xs) => if xs.length < line then .nx env (sto m2 h (.lst (xs ++ [d]))) else .no
      | _ => .no
    | _ => .no
    else .no
  | .oput o k v, env, m => (evE Φ v env m).thenO fun x m1 => (evE Φ o env m1).thenO fun a m2 => (evE Φ k env m2).thenO fun y m3 => match a with
    | .obj h => match m3[h]? with
      | some (.dct t kvs) => if isKey t y = true ∧ kvs.length < line then .nx env (sto m3 h (.dct t (putK kvs y x))) else .no
      | some (.lst xs) => match y with
        | .int j => match ixN xs.length j with
          | some j' => .nx env (sto m3 h (.lst (xs.set j' x)))
          | none => .no
        | _ => .no
      | _ => .no
    | _ => .no
  | .oclr o, env, m => (evE Φ o env m).thenO fun a m1 => match a with
    | .obj h => match m1[h]? with
      | some (.dct t _) => if t = false then .nx env (sto m1 h (.dct false [])) else .no
      | some (.lst xs) => .nx env (sto m1 h (.lst []))
      | _ => .no
    | _ => .no
  | .satt o js x v, env, m => (evE Φ v env m).thenO fun d m1 => (evE Φ o env m1).thenO fun a m2 => match insO Φ m2 js a with
    | some (h, C, fs) => if fs.length < 1000 then .nx env (sto m2 h (.ins C (putFd x d fs))) else .no
    | none => .no
  | .aatt o js x v, env, m => (evE Φ o env m).thenO fun a m1 => match insO Φ m1 js a with
    | some (h, C, fs) => match fs.lookup x with
      | some (.int i) => (evE Φ v env m1).thenO fun d m2 => match d, m2[h]? with
        | .int k, some (.ins C' fs') => if C' = C ∧ fs'.length < 1000 then .nx env (sto m2 h (.ins C (putFd x (.int (i + k)) fs'))) else .no
        | _, _ => .no
      | _ => .no
    | none => .no
  | .inc i v, env, m => match gt env i with
    | .val (.int k) => (evE Φ v env m).thenO fun d m1 => match d with
      | .int j => .nx (st env i (.val (.int (k + j)))) m1
      | _ => .no
    | _ => .no
  | .oext o e, env, m => (evE Φ o env m).thenO fun a m1 => if isLstO m1 a = true then (evE Φ e env m1).thenO fun d m2 => match a, d with
    | .obj h, .lst ys => match m2[h]? with
      | some (.lst xs) => if xs.length + ys.length ≤ line then .nx env (sto m2 h (.lst (xs ++ ys))) else .no
      | _ => .no
    | _, _ => .no
    else .no
  | .frz i, env, m => match gt env i with
    | .own d => .nx (st env i (.val d)) m
    | .val d => .nx env m
    | .no => .no
  | .shr i, env, m => match gt env i with
    | .own d => .nx (st env i (.val (.obj m.length))) (m ++ [d])
    | _ => .no
  | .iff t a b, env, m => (evE Φ t env m).thenO fun c m1 => match c with
    | .bl true => exSs Φ a env m1
    | .bl false => exSs Φ b env m1
    | _ => .no
  | .fo g it b, env, m => if isAs it = true then (evI Φ it env m).thenO fun xs m1 => forL g (fun e m => exSs Φ b e m) xs env m1 else .no
  | .fok g i w b, env, m => match gt env i with
    | .val (.dct false kvs) => noX (forL g (fun e m => exSs Φ b e m) (walkD w kvs) env m)
    | _ => .no
  | .fol g e b, env, m => (evE Φ e env m).thenO fun x m1 => match x with
    | .obj h => forV g (fun e m => exSs Φ b e m) h most 0 env m1
    | _ => .no
  | .wh t b, env, m => whL (fun e m => evE Φ t e m) (fun e m => exSs Φ b e m) most env m
  | .ret e, env, m => (evE Φ e env m).thenO fun d m1 => .rt false d m1
  | .retF f, env, m => (evF Φ f env m).thenO fun d m1 => .rt true d m1
  | .retX i, env, m => match gt env i with
    | .own d => .rt true d m
    | _ => .no
  | .exp e, env, m => (evE Φ e env m).thenO fun _ m1 => .nx env m1
  | .brk, env, m => .bk env m
  | .cnt, env, m => .ct env m
  | .pass, env, m => .nx env m
  | .never, _, _ => .no
  | .raise _ i _, _, m => (Φ (xCls + i) [] m).thenO fun r m1 => .ex r.2 m1
  | .xexp e, env, m => (evE Φ e env m).thenX fun _ m1 => .nx env m1
  | .xset i e, env, m => (evE Φ e env m).thenX fun d m1 => .nx (st env i (.val d)) m1
  | .xasg g e, env, m => (evE Φ e env m).thenX fun d m1 => match bindG g d env with
    | some e1 => .nx e1 m1
    | none => .no
  | .xret e, env, m => (evE Φ e env m).thenX fun d m1 => .rt false d m1
  | .xiff t a b, env, m => (evE Φ t env m).thenX fun c m1 => match c with
    | .bl true => exSs Φ a env m1
    | .bl false => exSs Φ b env m1
    | _ => .no
def exSs (Φ : Fs) : Ss → Env → Mem → O
  | .nil, env, m => .nx env m
  | .cons s r, env, m => (exS Φ s env m).thn fun e1 m1 => exSs Φ r e1 m1
end

/-- a def: how many parameters, slots; whether what it gives is a list or dict that nobody else has; its body -/
structure Fn where
  np : Nat
  ns : Nat
  ro : Bool
  body : Ss
def runFn (Φ : Fs) (fn : Fn) (args : List D) (m : Mem) : R (Bool × D) :=
  if args.length = fn.np then
    match exSs Φ fn.body (args.map .val ++ List.replicate (fn.ns - fn.np) .no) m with
    | .rt o d m1 => if fn.ro = true → o = true then .ok (fn.ro, d) m1 else .no
    | .nx _ m1 => if fn.ro = true then .no else .ok (false, .non) m1
    | .ex d m1 => .ex d m1
    | _ => .no
  else .no
/-- the defs of a program, called; k: how deep; X: what isn't a def -/
def callX (X : Fs) (P : List Fn) : Nat → Fs
  | 0 => fun _ _ _ => .no
  | k + 1 => fun f args m => match P[f]? with
    | some fn => runFn (callX X P k) fn args m
    | none => X f args m
/-- without exceptions -/
def noFs : Fs := fun _ _ _ => .no
abbrev call (P : List Fn) (k : Nat) : Fs := callX noFs P k
end Mp

set_option linter.all false
set_option autoImplicit false
set_option maxRecDepth 100000
/-! Mp2: how data lie in the abstract heap. -/
namespace Mp
open PySem L2

def ok1 : D → Bool
  | .str s => okT s
  | _ => true
def okK : D → Bool
  | .str s => okT s
  | .tup xs => xs.all ok1
  | _ => true
def keyOf : D → Option Key
  | .int i => some (.inl i)
  | .str s => some (.inr (tS s))
  | _ => none
def keysOf : List D → Option (List Key)
  | [] => some []
  | d :: r => (keyOf d).bind fun k => (keysOf r).map (k :: ·)
def tkeyOf : D → Option (List Key)
  | .tup xs => keysOf xs
  | _ => none
/-- a tuple of the written part -/
def KTup (K : PySem.W.Frag) (a : Addr) (xs : List V) : Prop :=
  ∃ (o : Obj) (its : Array Value) (n : Nat), K.lookup a = some o ∧ o.cls = .type "tuple" ∧ o.data = .seq its n ∧ its.size ≤ sizeLine ∧ Vals xs its.toList

/-- a list of the written part -/
def KLst (K : PySem.W.Frag) (a : Addr) (xs : List V) : Prop :=
  ∃ (o : Obj) (its : Array Value) (n : Nat), K.lookup a = some o ∧ o.cls = .type "list" ∧ o.dict = none ∧ o.data = .seq its n ∧ its.size ≤ sizeLine ∧ Vals xs its.toList

/-- the object at a is an exception of the class at c, without fields of its own -/
def XcO (c a : Addr) : HO := .ext fun h => ∃ oe : Obj, h.get? a = some oe ∧ Zc (.ref c) none oe ∧ ∃ vs, oe.data = .fields vs
section
variable (K : PySem.W.Frag) (F : Addr → Prop) (θ : List Addr) (H : Hp)
mutual
/-- the value v is d; F: addresses that are somebody's own; θ: the shared objects' addresses -/
def VR : D → V → Prop
  | .non, v => v = .non
  | .bl b, v => v = .bl b
  | .int i, v => v = .int i
  | .str s, v => v = .str (tS s) ∧ okT s = true
  | .tup xs, v => ∃ a vs, v = .ref a ∧ H a = some (.tup vs) ∧ ¬ F a ∧ a ∉ θ ∧ VRs xs vs
  | .lst xs, v => ∃ a vs, v = .ref a ∧ H a = some (.lst vs) ∧ ¬ F a ∧ a ∉ θ ∧ VRs xs vs
  | .scr ns, v => ∃ a, v = .ref a ∧ ((Rd H a (.lst (ns.map V.int)) ∧ ¬ F a ∧ a ∉ θ) ∨ KLst K a (ns.map V.int))
  | .dct false kvs, v => ∃ a ws, v = .ref a ∧ Rd H a (.dK ws) ∧ ¬ F a ∧ a ∉ θ ∧ KR kvs ws
  | .dct true kvs, v => ∃ a ws, v = .ref a ∧ Rd H a (.dT ws) ∧ ¬ F a ∧ a ∉ θ ∧ TR kvs ws
  | .obj h, v => ∃ a, v = .ref a ∧ θ[h]? = some a
  | .ins c _, v => ∃ a, v = .ref a ∧ H a = some (XcO c a) ∧ ¬ F a ∧ a ∉ θ
  | .kon _, _ => False
def VRs : List D → List V → Prop
  | [], vs => vs = []
  | d :: ds, vs => ∃ v r, vs = v :: r ∧ VR d v ∧ VRs ds r
def KR : List (D × D) → List (Key × V) → Prop
  | [], ws => ws = []
  | (k, d) :: r, ws => ∃ k' v q, ws = (k', v) :: q ∧ (keyOf k = some k' ∧ okK k = true) ∧ VR d v ∧ KR r q
def TR : List (D × D) → List (List Key × V) → Prop
  | [], ws => ws = []
  | (k, d) :: r, ws => ∃ k' v q, ws = (k', v) :: q ∧ (tkeyOf k = some k' ∧ okK k = true) ∧ VR d v ∧ TR r q
end
/-- an instance's fields -/
def FR : List (T × D) → List (Str × V) → Prop
  | [], ws => ws = []
  | (x, d) :: r, ws => ∃ v q, ws = (tS x, v) :: q ∧ VR K F θ H d v ∧ FR r q
/-- the content d lies as o -/
def CR : D → HO → Prop
  | .lst xs, o => ∃ vs, o = .lst vs ∧ VRs K F θ H xs vs
  | .dct false kvs, o => ∃ ws, o = .dK ws ∧ KR K F θ H kvs ws
  | .dct true kvs, o => ∃ ws, o = .dT ws ∧ TR K F θ H kvs ws
  | _, _ => False
/-- the content of a shared object; a table of code objects, too -/
def CT : D → HO → Prop
  | .kon (.str q), o => ∃ ps, o = .tbl ps ∧ TriplesOk ps.toList ∧ ∀ (pos : Pos) (cv : Value), codeAmong pos ps.toList = some cv → ∃ c, cv = .ref c ∧ H c = some (LamX.CodeO c (tS q)) ∧ ¬ F c ∧ c ∉ θ
  | .ins C fs, o => ∃ dx ws, o = .ins C dx ws ∧ FR K F θ H fs ws
  | d, o => CR K F θ H d o
/-- an operand's content, read -/
def Cn : D → V → Prop
  | .lst xs, v => ∃ a vs, v = .ref a ∧ H a = some (.lst vs) ∧ VRs K F θ H xs vs
  | .kon (.tup xs), v => ∃ a vs, v = .ref a ∧ KTup K a vs ∧ VRs K F θ H xs vs
  | .kon (.str _), v => ∃ a, v = .ref a
  | .ins _ _, v => ∃ a, v = .ref a
  | .dct false kvs, v => ∃ a ws, v = .ref a ∧ Rd H a (.dK ws) ∧ KR K F θ H kvs ws
  | .dct true kvs, v => ∃ a ws, v = .ref a ∧ Rd H a (.dT ws) ∧ TR K F θ H kvs ws
  | d, v => VR K F θ H d v
end

/-- what nobody owns stays -/
structure Fk (F : Addr → Prop) (θ : List Addr) (H : Hp) (F' : Addr → Prop) (θ' : List Addr) (H' : Hp) : Prop where
  keep : ∀ a o, H a = some o → ¬ F a → a ∉ θ → H' a = some o ∧ ¬ F' a ∧ a ∉ θ'
  pre : ∀ (h : Nat) (a : Addr), θ[h]? = some a → θ'[h]? = some a
theorem Fk.refl {F : Addr → Prop} {θ : List Addr} {H : Hp} : Fk F θ H F θ H := ⟨fun _ _ h f t => ⟨h, f, t⟩, fun _ _ h => h⟩
theorem Fk.trans {F F1 F2 : Addr → Prop} {θ θ1 θ2 : List Addr} {H H1 H2 : Hp} (a : Fk F θ H F1 θ1 H1) (b : Fk F1 θ1 H1 F2 θ2 H2) : Fk F θ H F2 θ2 H2 :=
  ⟨fun c o h f t => let ⟨h1, f1, t1⟩ := a.keep c o h f t; b.keep c o h1 f1 t1, fun h c e => b.pre h c (a.pre h c e)⟩
/-- what an expression does: shared objects alone are changed, and new ones are made -/
structure Tr (θ : List Addr) (H : Hp) (θ' : List Addr) (H' : Hp) : Prop where
  keep : ∀ a o, H a = some o → a ∉ θ → H' a = some o
  pre : ∀ (h : Nat) (a : Addr), θ[h]? = some a → θ'[h]? = some a
  fresh : ∀ a, a ∈ θ' → a ∈ θ ∨ H a = none
theorem Tr.refl {θ : List Addr} {H : Hp} : Tr θ H θ H := ⟨fun _ _ h _ => h, fun _ _ h => h, fun _ h => .inl h⟩
theorem Tr.trans {θ θ1 θ2 : List Addr} {H H1 H2 : Hp} (a : Tr θ H θ1 H1) (b : Tr θ1 H1 θ2 H2) : Tr θ H θ2 H2 := by
  have no : ∀ c o, H c = some o → c ∉ θ → c ∉ θ1 := fun c o h t q => by
    rcases a.fresh c q with z | z
    · exact t z
    · rw [h] at z; cases z
  refine ⟨fun c o h t => b.keep c o (a.keep c o h t) (no c o h t), fun h c e => b.pre h c (a.pre h c e), fun c q => ?_⟩
  by_cases t : c ∈ θ
  · exact .inl t
  · rcases b.fresh c q with z | z
    · exact a.fresh c z
    · refine .inr ?_
      cases e : H c with
      | none => rfl
      | some o => rw [a.keep c o e t] at z; cases z
theorem Tr.fk {F : Addr → Prop} {θ θ' : List Addr} {H H' : Hp} (t : Tr θ H θ' H') : Fk F θ H F θ' H' :=
  ⟨fun a o h f q => ⟨t.keep a o h q, f, fun z => by
    rcases t.fresh a z with y | y
    · exact q y
    · rw [h] at y; cases y⟩, t.pre⟩
theorem Fk.less {F F0 : Addr → Prop} {θ : List Addr} {H : Hp} (h : ∀ a, F0 a → F a) : Fk F θ H F0 θ H := ⟨fun a _ e f t => ⟨e, fun z => f (h a z), t⟩, fun _ _ e => e⟩
/-- a new address is laid, nobody's or somebody's own -/
theorem Fk.laid {F F' : Addr → Prop} {θ : List Addr} {H : Hp} {p : Addr} {o : HO} (hp : H p = none) (hF : ∀ a, F' a → F a ∨ a = p) : Fk F θ H F' θ (upd H p o) :=
  ⟨fun a u e f t => by
    have ne : a ≠ p := ne_of_none e hp
    exact ⟨by rw [upd_ne ne]; exact e, fun z => (hF a z).elim f ne, t⟩, fun _ _ e => e⟩
theorem Tr.laid {θ : List Addr} {H : Hp} {p : Addr} {o : HO} (hp : H p = none) : Tr θ H θ (upd H p o) :=
  ⟨fun a u e _ => by rw [upd_ne (ne_of_none e hp)]; exact e, fun _ _ e => e, fun _ h => .inl h⟩

section
variable {K : PySem.W.Frag} {F F' : Addr → Prop} {θ θ' : List Addr} {H H' : Hp}
theorem Fk.rd (k : Fk F θ H F' θ' H') {a : Addr} {u : HO} (r : Rd H a u) (f : ¬ F a) (t : a ∉ θ) : Rd H' a u ∧ ¬ F' a ∧ a ∉ θ' := by
  rcases r with r | ⟨o, r⟩
  · obtain ⟨h, q⟩ := k.keep a _ r f t; exact ⟨.inl h, q⟩
  · obtain ⟨h, q⟩ := k.keep a _ r f t; exact ⟨.inr ⟨o, h⟩, q⟩
mutual
theorem VR.mono (k : Fk F θ H F' θ' H') : ∀ (d : D) (v : V), VR K F θ H d v → VR K F' θ' H' d v
  | .non, _, h => h
  | .bl _, _, h => h
  | .int _, _, h => h
  | .str _, _, h => h
  | .tup xs, v, h => by
    simp only [VR] at h ⊢
    obtain ⟨a, vs, e, q, f, t, r⟩ := h
    obtain ⟨q, f, t⟩ := k.keep a _ q f t
    exact ⟨a, vs, e, q, f, t, VRs.mono k xs vs r⟩
  | .lst xs, v, h => by
    simp only [VR] at h ⊢
    obtain ⟨a, vs, e, q, f, t, r⟩ := h
    obtain ⟨q, f, t⟩ := k.keep a _ q f t
    exact ⟨a, vs, e, q, f, t, VRs.mono k xs vs r⟩
  | .scr ns, v, h => by
    simp only [VR] at h ⊢
    obtain ⟨a, e, q⟩ := h
    refine ⟨a, e, ?_⟩
    rcases q with ⟨q, f, t⟩ | q
    · exact .inl (k.rd q f t)
    · exact .inr q
  | .dct false kvs, v, h => by
    simp only [VR] at h ⊢
    obtain ⟨a, vs, e, q, f, t, r⟩ := h
    obtain ⟨q, f, t⟩ := k.rd q f t
    exact ⟨a, vs, e, q, f, t, KR.mono k kvs vs r⟩
  | .dct true kvs, v, h => by
    simp only [VR] at h ⊢
    obtain ⟨a, vs, e, q, f, t, r⟩ := h
    obtain ⟨q, f, t⟩ := k.rd q f t
    exact ⟨a, vs, e, q, f, t, TR.mono k kvs vs r⟩
  | .obj h, v, q => by
    simp only [VR] at q ⊢
    obtain ⟨a, e, q⟩ := q
    exact ⟨a, e, k.pre h a q⟩
  | .ins c _, v, h => by
    simp only [VR] at h ⊢
    obtain ⟨a, e, q, f, t⟩ := h
    exact ⟨a, e, k.keep a _ q f t⟩
  | .kon _, _, h => by simp only [VR] at h
theorem VRs.mono (k : Fk F θ H F' θ' H') : ∀ (ds : List D) (vs : List V), VRs K F θ H ds vs → VRs K F' θ' H' ds vs
  | [], _, h => by simp only [VRs] at h ⊢; exact h
  | d :: ds, vs, h => by
    simp only [VRs] at h ⊢
    obtain ⟨v, r, e, h1, h2⟩ := h
    exact ⟨v, r, e, VR.mono k d v h1, VRs.mono k ds r h2⟩
theorem KR.mono (k : Fk F θ H F' θ' H') : ∀ (ds : List (D × D)) (vs : List (Key × V)), KR K F θ H ds vs → KR K F' θ' H' ds vs
  | [], _, h => by simp only [KR] at h ⊢; exact h
  | (x, d) :: ds, vs, h => by
    simp only [KR] at h ⊢
    obtain ⟨k', v, r, e, e2, h1, h2⟩ := h
    exact ⟨k', v, r, e, e2, VR.mono k d v h1, KR.mono k ds r h2⟩
theorem TR.mono (k : Fk F θ H F' θ' H') : ∀ (ds : List (D × D)) (vs : List (List Key × V)), TR K F θ H ds vs → TR K F' θ' H' ds vs
  | [], _, h => by simp only [TR] at h ⊢; exact h
  | (x, d) :: ds, vs, h => by
    simp only [TR] at h ⊢
    obtain ⟨k', v, r, e, e2, h1, h2⟩ := h
    exact ⟨k', v, r, e, e2, VR.mono k d v h1, TR.mono k ds r h2⟩
end
theorem FR.mono (k : Fk F θ H F' θ' H') : ∀ (fs : List (T × D)) (ws : List (Str × V)), FR K F θ H fs ws → FR K F' θ' H' fs ws
  | [], _, h => h
  | (x, d) :: r, ws, h => by
    obtain ⟨v, q, e, h1, h2⟩ := h
    exact ⟨v, q, e, VR.mono k d v h1, FR.mono k r q h2⟩
theorem CR.mono (k : Fk F θ H F' θ' H') {d : D} {o : HO} (h : CR K F θ H d o) : CR K F' θ' H' d o := by
  cases d with
  | lst xs => obtain ⟨vs, e, h⟩ := h; exact ⟨vs, e, VRs.mono k xs vs h⟩
  | dct t kvs => cases t with
    | false => obtain ⟨vs, e, h⟩ := h; exact ⟨vs, e, KR.mono k kvs vs h⟩
    | true => obtain ⟨vs, e, h⟩ := h; exact ⟨vs, e, TR.mono k kvs vs h⟩
  | _ => exact h.elim
theorem CT.mono (k : Fk F θ H F' θ' H') {d : D} {o : HO} (h : CT K F θ H d o) : CT K F' θ' H' d o := by
  cases d with
  | kon d =>
    cases d with
    | str q =>
      obtain ⟨ps, e, h1, h2⟩ := h
      exact ⟨ps, e, h1, fun pos cv hc => let ⟨c, e1, e2, e3, e4⟩ := h2 pos cv hc; ⟨c, e1, k.keep c _ e2 e3 e4⟩⟩
    | _ => exact (show False from h).elim
  | ins C fs =>
    obtain ⟨dx, ws, e, h⟩ := h
    exact ⟨dx, ws, e, FR.mono k fs ws h⟩
  | lst xs => exact CR.mono (d := .lst xs) k (show CR K F θ H (.lst xs) o from h)
  | dct t kvs => exact CR.mono (d := .dct t kvs) k (show CR K F θ H (.dct t kvs) o from h)
  | _ => exact (show False from h).elim
theorem CR.ct {d : D} {o : HO} (h : CR K F θ H d o) : CT K F θ H d o := by
  cases d with
  | kon d => exact h.elim
  | ins C fs => exact h.elim
  | _ => exact h
theorem CT.cr {d : D} {o : HO} (h : CT K F θ H d o) : ((∃ q, d = .kon (.str q)) ∨ ∃ C fs, d = .ins C fs) ∨ CR K F θ H d o := by
  cases d with
  | ins C fs => exact .inl (.inr ⟨C, fs, rfl⟩)
  | kon d =>
    cases d with
    | str q => exact .inl (.inl ⟨q, rfl⟩)
    | _ => exact .inr h
  | _ => exact .inr h
theorem VRs.length : ∀ {ds : List D} {vs : List V}, VRs K F θ H ds vs → ds.length = vs.length
  | [], _, h => by simp only [VRs] at h; rw [h]; rfl
  | d :: ds, vs, h => by
    simp only [VRs] at h
    obtain ⟨v, r, rfl, h1, h2⟩ := h
    rw [List.length_cons, List.length_cons, VRs.length h2]
theorem KR.length : ∀ {ds : List (D × D)} {vs : List (Key × V)}, KR K F θ H ds vs → ds.length = vs.length
  | [], _, h => by simp only [KR] at h; rw [h]; rfl
  | (x, d) :: ds, vs, h => by
    simp only [KR] at h
    obtain ⟨k, v, r, rfl, _, h1, h2⟩ := h
    rw [List.length_cons, List.length_cons, KR.length h2]
theorem TR.length : ∀ {ds : List (D × D)} {vs : List (List Key × V)}, TR K F θ H ds vs → ds.length = vs.length
  | [], _, h => by simp only [TR] at h; rw [h]; rfl
  | (x, d) :: ds, vs, h => by
    simp only [TR] at h
    obtain ⟨k, v, r, rfl, _, h1, h2⟩ := h
    rw [List.length_cons, List.length_cons, TR.length h2]
theorem VRs.get : ∀ {ds : List D} {vs : List V} {i : Nat} {d : D}, VRs K F θ H ds vs → ds[i]? = some d → ∃ v, vs[i]? = some v ∧ VR K F θ H d v
  | [], _, _, _, _, e => by simp at e
  | d :: ds, vs, 0, x, h, e => by
    simp only [VRs] at h
    obtain ⟨v, r, rfl, h1, h2⟩ := h
    simp at e; subst e
    exact ⟨v, rfl, h1⟩
  | d :: ds, vs, i + 1, x, h, e => by
    simp only [VRs] at h
    obtain ⟨v, r, rfl, h1, h2⟩ := h
    simpa using VRs.get (i := i) h2 (by simpa using e)
theorem VRs.append : ∀ {ds es : List D} {vs ws : List V}, VRs K F θ H ds vs → VRs K F θ H es ws → VRs K F θ H (ds ++ es) (vs ++ ws)
  | [], _, _, _, h, q => by simp only [VRs] at h; subst h; exact q
  | d :: ds, es, vs, ws, h, q => by
    simp only [VRs] at h
    obtain ⟨v, r, rfl, h1, h2⟩ := h
    exact ⟨v, r ++ ws, rfl, h1, VRs.append h2 q⟩
theorem VRs.drop : ∀ {ds : List D} {vs : List V} (n : Nat), VRs K F θ H ds vs → VRs K F θ H (ds.drop n) (vs.drop n)
  | _, _, 0, h => h
  | [], _, n + 1, h => by simp only [VRs] at h; subst h; exact rfl
  | d :: ds, vs, n + 1, h => by
    simp only [VRs] at h
    obtain ⟨v, r, rfl, h1, h2⟩ := h
    exact VRs.drop n h2
theorem VRs.take : ∀ {ds : List D} {vs : List V} (n : Nat), VRs K F θ H ds vs → VRs K F θ H (ds.take n) (vs.take n)
  | _, _, 0, h => by rw [List.take_zero, List.take_zero]; exact rfl
  | [], _, n + 1, h => by simp only [VRs] at h; subst h; exact rfl
  | d :: ds, vs, n + 1, h => by
    simp only [VRs] at h
    obtain ⟨v, r, rfl, h1, h2⟩ := h
    exact ⟨v, r.take n, rfl, h1, VRs.take n h2⟩
theorem VRs.reverse : ∀ {ds : List D} {vs : List V}, VRs K F θ H ds vs → VRs K F θ H ds.reverse vs.reverse
  | [], _, h => by simp only [VRs] at h; subst h; exact rfl
  | d :: ds, vs, h => by
    simp only [VRs] at h
    obtain ⟨v, r, rfl, h1, h2⟩ := h
    rw [List.reverse_cons, List.reverse_cons]
    exact VRs.append (VRs.reverse h2) ⟨v, [], rfl, h1, rfl⟩
theorem VRs.set : ∀ {ds : List D} {vs : List V} (n : Nat) {d : D} {v : V}, VRs K F θ H ds vs → VR K F θ H d v → VRs K F θ H (ds.set n d) (vs.set n v)
  | [], _, _, _, _, h, _ => by simp only [VRs] at h; subst h; exact rfl
  | x :: ds, vs, 0, d, v, h, q => by
    simp only [VRs] at h
    obtain ⟨w, r, rfl, h1, h2⟩ := h
    exact ⟨v, r, rfl, q, h2⟩
  | x :: ds, vs, n + 1, d, v, h, q => by
    simp only [VRs] at h
    obtain ⟨w, r, rfl, h1, h2⟩ := h
    exact ⟨w, r.set n v, rfl, h1, VRs.set n h2 q⟩
theorem VRs.rep {ds : List D} {vs : List V} (h : VRs K F θ H ds vs) : ∀ n : Nat, VRs K F θ H (List.replicate n ds).flatten (List.replicate n vs).flatten
  | 0 => rfl
  | n + 1 => by
    rw [List.replicate_succ, List.replicate_succ, List.flatten_cons, List.flatten_cons]
    exact VRs.append h (VRs.rep h n)
theorem VR.cn {d : D} {v : V} (h : VR K F θ H d v) : Cn K F θ H d v := by
  cases d with
  | ins c fs => simp only [VR] at h; obtain ⟨a, e, _⟩ := h; exact ⟨a, e⟩
  | kon d => simp only [VR] at h
  | lst xs => simp only [VR] at h; obtain ⟨a, vs, e, q, _, _, r⟩ := h; exact ⟨a, vs, e, q, r⟩
  | dct t kvs => cases t with
    | false => simp only [VR] at h; obtain ⟨a, vs, e, q, _, _, r⟩ := h; exact ⟨a, vs, e, q, r⟩
    | true => simp only [VR] at h; obtain ⟨a, vs, e, q, _, _, r⟩ := h; exact ⟨a, vs, e, q, r⟩
  | _ => exact h
theorem CR.cn {d : D} {o : HO} {a : Addr} (h : CR K F θ H d o) (e : H a = some o) : Cn K F θ H d (.ref a) := by
  cases d with
  | lst xs => obtain ⟨vs, rfl, h⟩ := h; exact ⟨a, vs, rfl, e, h⟩
  | dct t kvs => cases t with
    | false => obtain ⟨vs, rfl, h⟩ := h; exact ⟨a, vs, rfl, .inl e, h⟩
    | true => obtain ⟨vs, rfl, h⟩ := h; exact ⟨a, vs, rfl, .inl e, h⟩
  | _ => exact h.elim
theorem CT.cn {d : D} {o : HO} {a : Addr} (h : CT K F θ H d o) (e : H a = some o) : Cn K F θ H d (.ref a) := by
  rcases h.cr with (⟨q, rfl⟩ | ⟨C, fs, rfl⟩) | h
  · exact ⟨a, rfl⟩
  · exact ⟨a, rfl⟩
  · exact h.cn e
theorem CR.vr {d : D} {o : HO} {a : Addr} (h : CR K F θ H d o) (e : H a = some o) (f : ¬ F a) (t : a ∉ θ) : VR K F θ H d (.ref a) := by
  cases d with
  | lst xs => obtain ⟨vs, rfl, h⟩ := h; simp only [VR]; exact ⟨a, vs, rfl, e, f, t, h⟩
  | dct b kvs => cases b with
    | false => obtain ⟨vs, rfl, h⟩ := h; simp only [VR]; exact ⟨a, vs, rfl, .inl e, f, t, h⟩
    | true => obtain ⟨vs, rfl, h⟩ := h; simp only [VR]; exact ⟨a, vs, rfl, .inl e, f, t, h⟩
  | _ => exact h.elim
end

/-! ### the store, a frame -/
/-- the store lies at θ -/
structure MS (K : PySem.W.Frag) (F : Addr → Prop) (θ : List Addr) (mem : Mem) (H : Hp) : Prop where
  len : mem.length = θ.length
  at_ : ∀ (h : Nat) (d : D), mem[h]? = some d → ∃ a o, θ[h]? = some a ∧ H a = some o ∧ CT K F θ H d o
  nd : θ.Nodup
  Fθ : ∀ a, F a → a ∉ θ
  Fd : ∀ a, F a → ∃ o, H a = some o ∧ ∀ xs, o ≠ .tup xs
/-- what is fixed in a frame: the heap, the shared objects, all own things at its entry -/
structure Fr where
  K : PySem.W.Frag
  He : Hp
  θe : List Addr
  Fe : Addr → Prop
  fe : ∀ a, Fe a → ∃ o, He a = some o
  E : XK := fun _ _ _ => False
  T : List Addr := []
  hT : ∀ (t : Nat) (P : Addr), T[t]? = some P → θe[t]? = some P := by intros; simp_all
/-- since the frame's entry -/
structure Bs (fr : Fr) (F : Addr → Prop) (θ : List Addr) (H : Hp) : Prop where
  FF : ∀ a, fr.Fe a → F a
  tr : Tr fr.θe fr.He θ H
/-- the frame's slots -/
structure SL (fr : Fr) (F : Addr → Prop) (θ : List Addr) (env : Env) (σ : St) (H : Hp) : Prop where
  len : env.length = σ.length
  val : ∀ (i : Nat) (d : D), gt env i = .val d → ∃ v, σ[i]? = some (some v) ∧ VR fr.K F θ H d v
  own : ∀ (i : Nat) (d : D), gt env i = .own d → ∃ a o, σ[i]? = some (some (.ref a)) ∧ H a = some o ∧ CR fr.K F θ H d o ∧ F a ∧ fr.He a = none
  uni : ∀ (i j : Nat) (d d' : D) (a : Addr), gt env i = .own d → gt env j = .own d' → σ[i]? = some (some (.ref a)) → σ[j]? = some (some (.ref a)) → i = j
structure SR (fr : Fr) (F : Addr → Prop) (θ : List Addr) (env : Env) (mem : Mem) (σ : St) (H : Hp) : Prop where
  ms : MS fr.K F θ mem H
  bs : Bs fr F θ H
  sl : SL fr F θ env σ H

/-- the tables of code objects stand first among the shared objects -/
theorem SR.hT {fr : Fr} {F : Addr → Prop} {θ : List Addr} {env : Env} {mem : Mem} {σ : St} {H : Hp} (s : SR fr F θ env mem σ H) : ∀ (t : Nat) (P : Addr), fr.T[t]? = some P → θ[t]? = some P := fun t P e => s.bs.tr.pre t P (fr.hT t P e)
abbrev plus (F : Addr → Prop) (p : Addr) : Addr → Prop := fun a => F a ∨ a = p
section
variable {K : PySem.W.Frag} {fr : Fr} {F F' : Addr → Prop} {θ θ' : List Addr} {H H' : Hp} {env : Env} {mem mem' : Mem} {σ : St}
theorem MS.ne (m : MS K F θ mem H) {a : Addr} (h : a ∈ θ) : ∃ o, H a = some o := by
  obtain ⟨i, hi, e⟩ := List.getElem_of_mem h
  have hm : i < mem.length := by rw [m.len]; exact hi
  obtain ⟨b, o, e1, e2, _⟩ := m.at_ i mem[i] (List.getElem?_eq_getElem hm)
  rw [List.getElem?_eq_getElem hi, e] at e1
  cases e1
  exact ⟨o, e2⟩
theorem MS.fresh (m : MS K F θ mem H) {p : Addr} (h : H p = none) : p ∉ θ ∧ ¬ F p := by
  refine ⟨fun z => ?_, fun z => ?_⟩
  · obtain ⟨o, e⟩ := m.ne z; rw [h] at e; cases e
  · obtain ⟨o, e, _⟩ := m.Fd p z; rw [h] at e; cases e
/-- what is new behind a step was new ahead of it -/
theorem MS.was (m : MS K F θ mem H) (m' : MS K F' θ' mem' H') (t : Tr θ H θ' H') {p : Addr} (h : H' p = none) : H p = none := by
  cases e : H p with
  | none => rfl
  | some o =>
    by_cases q : p ∈ θ
    · obtain ⟨i, hi, e1⟩ := List.getElem_of_mem q
      have := t.pre i p (by rw [List.getElem?_eq_getElem hi, e1])
      obtain ⟨u, e2⟩ := m'.ne (List.mem_of_getElem? this)
      rw [h] at e2; cases e2
    · rw [t.keep p o e q] at h; cases h
/-- the slots stay through an expression's step -/
theorem SL.step (s : SL fr F θ env σ H) (t : Tr θ H θ' H') (m : MS fr.K F θ mem H) : SL fr F θ' env σ H' := by
  refine ⟨s.len, fun i d e => ?_, fun i d e => ?_, s.uni⟩
  · obtain ⟨v, h1, h2⟩ := s.val i d e
    exact ⟨v, h1, VR.mono t.fk d v h2⟩
  · obtain ⟨a, o, h1, h2, h3, h4, h5⟩ := s.own i d e
    exact ⟨a, o, h1, t.keep a o h2 (m.Fθ a h4), h3.mono t.fk, h4, h5⟩
theorem Bs.step (b : Bs fr F θ H) (t : Tr θ H θ' H') : Bs fr F θ' H' := ⟨b.FF, b.tr.trans t⟩
theorem SR.step (s : SR fr F θ env mem σ H) (t : Tr θ H θ' H') (m : MS fr.K F θ' mem' H') : SR fr F θ' env mem' σ H' := ⟨m, s.bs.step t, s.sl.step t s.ms⟩
theorem MS.fd_step (m : MS K F θ mem H) (t : Tr θ H θ' H') : ∀ a, F a → ∃ o, H' a = some o ∧ ∀ xs, o ≠ .tup xs := fun a f => by
  obtain ⟨o, e, n⟩ := m.Fd a f
  exact ⟨o, t.keep a o e (m.Fθ a f), n⟩
/-- a new thing is laid that is nobody's own -/
theorem MS.laid (m : MS K F θ mem H) {p : Addr} {o : HO} (hp : H p = none) : MS K F θ mem (upd H p o) := by
  refine ⟨m.len, fun h d e => ?_, m.nd, m.Fθ, fun a f => ?_⟩
  · obtain ⟨a, u, e1, e2, c⟩ := m.at_ h d e
    exact ⟨a, u, e1, by rw [upd_ne (ne_of_none e2 hp)]; exact e2, c.mono (Tr.laid hp).fk⟩
  · obtain ⟨u, e, n⟩ := m.Fd a f
    exact ⟨u, by rw [upd_ne (ne_of_none e hp)]; exact e, n⟩
theorem SR.laid (s : SR fr F θ env mem σ H) {p : Addr} {o : HO} (hp : H p = none) : SR fr F θ env mem σ (upd H p o) := s.step (Tr.laid hp) (s.ms.laid hp)
theorem MS.mono (m : MS K F θ mem H) (k : Fk F θ H F' θ H') (hm : ∀ a ∈ θ, ∀ o, H a = some o → H' a = some o) (h1 : ∀ a, F' a → a ∉ θ) (h2 : ∀ a, F' a → ∃ o, H' a = some o ∧ ∀ xs, o ≠ .tup xs) : MS K F' θ mem H' := by
  refine ⟨m.len, fun h d e => ?_, m.nd, h1, h2⟩
  obtain ⟨a, u, e1, e2, c⟩ := m.at_ h d e
  exact ⟨a, u, e1, hm a (List.mem_of_getElem? e1) u e2, c.mono k⟩
/-- a new thing is laid that will be somebody's own -/
theorem MS.laidOwn (m : MS K F θ mem H) {p : Addr} {o : HO} (hp : H p = none) (hn : ∀ xs, o ≠ .tup xs) : MS K (plus F p) θ mem (upd H p o) := by
  have k : Fk F θ H (plus F p) θ (upd H p o) := Fk.laid hp fun _ z => z
  refine m.mono k (fun a ha u e => by rw [upd_ne (ne_of_none e hp)]; exact e) (fun a z => ?_) fun a z => ?_
  · rcases z with z | z
    · exact m.Fθ a z
    · rw [z]; exact (m.fresh hp).1
  · rcases z with z | z
    · obtain ⟨u, e, n⟩ := m.Fd a z
      exact ⟨u, by rw [upd_ne (ne_of_none e hp)]; exact e, n⟩
    · exact ⟨o, by rw [z, upd_same], hn⟩
theorem SL.laidOwn (s : SL fr F θ env σ H) {p : Addr} {o : HO} (hp : H p = none) : SL fr (plus F p) θ env σ (upd H p o) := by
  have k : Fk F θ H (plus F p) θ (upd H p o) := Fk.laid hp fun _ z => z
  refine ⟨s.len, fun i d e => ?_, fun i d e => ?_, s.uni⟩
  · obtain ⟨v, h1, h2⟩ := s.val i d e
    exact ⟨v, h1, VR.mono k d v h2⟩
  · obtain ⟨a, u, h1, h2, h3, h4, h5⟩ := s.own i d e
    exact ⟨a, u, h1, by rw [upd_ne (ne_of_none h2 hp)]; exact h2, h3.mono k, .inl h4, h5⟩
theorem SR.laidOwn (s : SR fr F θ env mem σ H) {p : Addr} {o : HO} (hp : H p = none) (hn : ∀ xs, o ≠ .tup xs) : SR fr (plus F p) θ env mem σ (upd H p o) :=
  ⟨s.ms.laidOwn hp hn, ⟨fun a z => .inl (s.bs.FF a z), s.bs.tr.trans (Tr.laid hp)⟩, s.sl.laidOwn hp⟩
/-- an own thing that no slot holds is given up -/
theorem SR.drop {p : Addr} (s : SR fr (plus F p) θ env mem σ H) (h1 : ∀ a, fr.Fe a → F a) (h2 : ∀ (i : Nat) (d : D), gt env i = .own d → σ[i]? ≠ some (some (.ref p))) : SR fr F θ env mem σ H := by
  have k : Fk (plus F p) θ H F θ H := Fk.less fun _ z => .inl z
  refine ⟨s.ms.mono k (fun _ _ _ e => e) (fun a z => s.ms.Fθ a (.inl z)) fun a z => s.ms.Fd a (.inl z), ⟨h1, s.bs.tr⟩, s.sl.len, fun i d e => ?_, fun i d e => ?_, s.sl.uni⟩
  · obtain ⟨v, q1, q2⟩ := s.sl.val i d e
    exact ⟨v, q1, VR.mono k d v q2⟩
  · obtain ⟨a, o, q1, q2, q3, q4, q5⟩ := s.sl.own i d e
    refine ⟨a, o, q1, q2, q3.mono k, ?_, q5⟩
    rcases q4 with z | z
    · exact z
    · rw [z] at q1; exact absurd q1 (h2 i d e)

theorem CR.nt {K : PySem.W.Frag} {F : Addr → Prop} {θ : List Addr} {H : Hp} {d : D} {o : HO} (h : CR K F θ H d o) : ∀ xs, o ≠ .tup xs := by
  intro xs e
  subst e
  cases d with
  | lst xs => obtain ⟨_, e, _⟩ := h; cases e
  | dct t kvs => cases t with
    | false => obtain ⟨_, e, _⟩ := h; cases e
    | true => obtain ⟨_, e, _⟩ := h; cases e
  | _ => exact h.elim
theorem CT.nt {K : PySem.W.Frag} {F : Addr → Prop} {θ : List Addr} {H : Hp} {d : D} {o : HO} (h : CT K F θ H d o) : ∀ xs, o ≠ .tup xs := by
  rcases h.cr with (⟨q, rfl⟩ | ⟨C, fs, rfl⟩) | h
  · intro xs e
    subst e
    obtain ⟨_, e, _⟩ := h
    cases e
  · intro xs e
    subst e
    obtain ⟨_, _, e, _⟩ := h
    cases e
  · exact h.nt
theorem MS.tup (m : MS K F θ mem H) {a : Addr} {xs : List V} (h : H a = some (.tup xs)) : ¬ F a ∧ a ∉ θ := by
  refine ⟨fun z => ?_, fun z => ?_⟩
  · obtain ⟨o, e, n⟩ := m.Fd a z
    rw [h] at e; cases e
    exact n xs rfl
  · obtain ⟨i, hi, e⟩ := List.getElem_of_mem z
    have hm : i < mem.length := by rw [m.len]; exact hi
    obtain ⟨b, o, e1, e2, c⟩ := m.at_ i mem[i] (List.getElem?_eq_getElem hm)
    rw [List.getElem?_eq_getElem hi, e] at e1
    cases e1
    rw [h] at e2; cases e2
    exact c.nt xs rfl
/-! ### slots -/
theorem gt_st_same : ∀ {env : Env} {i : Nat} {x : Sl}, i < env.length → gt (st env i x) i = x
  | [], _, _, h => by simp at h
  | _ :: _, 0, _, _ => rfl
  | _ :: r, i + 1, x, h => gt_st_same (env := r) (i := i) (by simpa using h)
theorem gt_st_ne : ∀ {env : Env} {i j : Nat} {x : Sl}, i ≠ j → gt (st env i x) j = gt env j
  | [], _, _, _, _ => rfl
  | _ :: _, 0, 0, _, h => absurd rfl h
  | _ :: _, 0, j + 1, _, _ => rfl
  | _ :: _, i + 1, 0, _, _ => rfl
  | _ :: r, i + 1, j + 1, x, h => gt_st_ne (env := r) (i := i) (j := j) (fun z => h (by rw [z]))
theorem st_length : ∀ (env : Env) (i : Nat) (x : Sl), (st env i x).length = env.length
  | [], _, _ => rfl
  | _ :: _, 0, _ => rfl
  | _ :: r, i + 1, x => by unfold st; rw [List.length_cons, List.length_cons, st_length r i x]
theorem gt_ge : ∀ {env : Env} {i : Nat}, env.length ≤ i → gt env i = .no
  | [], _, _ => rfl
  | _ :: r, 0, h => by simp at h
  | _ :: r, i + 1, h => gt_ge (env := r) (i := i) (by simpa using h)
theorem SL.setVal (s : SL fr F θ env σ H) (i : Nat) {d : D} {v : V} (h : VR fr.K F θ H d v) : SL fr F θ (st env i (.val d)) (σ.set i (some v)) H := by
  refine ⟨by rw [st_length, List.length_set]; exact s.len, fun j d' e => ?_, fun j d' e => ?_, fun j l d' d'' a e1 e2 h1 h2 => ?_⟩
  · by_cases hj : i = j
    · subst hj
      by_cases hl : i < env.length
      · rw [gt_st_same hl] at e
        cases e
        exact ⟨v, by rw [List.getElem?_set_self (by rw [← s.len]; exact hl)], h⟩
      · rw [gt_ge (by rw [st_length]; omega)] at e; cases e
    · rw [gt_st_ne hj] at e
      rw [List.getElem?_set_ne hj]
      exact s.val j d' e
  · by_cases hj : i = j
    · subst hj
      by_cases hl : i < env.length
      · rw [gt_st_same hl] at e; cases e
      · rw [gt_ge (by rw [st_length]; omega)] at e; cases e
    · rw [gt_st_ne hj] at e
      rw [List.getElem?_set_ne hj]
      exact s.own j d' e
  · have nj : ∀ {j : Nat} {d' : D}, gt (st env i (.val d)) j = .own d' → i ≠ j := fun {j d'} e z => by
      subst z
      by_cases hl : i < env.length
      · rw [gt_st_same hl] at e; cases e
      · rw [gt_ge (by rw [st_length]; omega)] at e; cases e
    have n1 := nj e1
    have n2 := nj e2
    rw [gt_st_ne n1] at e1
    rw [gt_st_ne n2] at e2
    rw [List.getElem?_set_ne n1] at h1
    rw [List.getElem?_set_ne n2] at h2
    exact s.uni j l d' d'' a e1 e2 h1 h2
theorem SR.setVal (s : SR fr F θ env mem σ H) (i : Nat) {d : D} {v : V} (h : VR fr.K F θ H d v) : SR fr F θ (st env i (.val d)) mem (σ.set i (some v)) H := ⟨s.ms, s.bs, s.sl.setVal i h⟩
/-- a slot takes an own thing that no slot holds -/
theorem SL.setOwn (s : SL fr F θ env σ H) (i : Nat) {d : D} {a : Addr} {o : HO} (ha : H a = some o) (c : CR fr.K F θ H d o) (f : F a) (he : fr.He a = none)
    (no : ∀ (j : Nat) (d' : D), gt env j = .own d' → σ[j]? ≠ some (some (.ref a))) : SL fr F θ (st env i (.own d)) (σ.set i (some (.ref a))) H := by
  refine ⟨by rw [st_length, List.length_set]; exact s.len, fun j d' e => ?_, fun j d' e => ?_, fun j l d' d'' b e1 e2 h1 h2 => ?_⟩
  · by_cases hj : i = j
    · subst hj
      by_cases hl : i < env.length
      · rw [gt_st_same hl] at e; cases e
      · rw [gt_ge (by rw [st_length]; omega)] at e; cases e
    · rw [gt_st_ne hj] at e
      rw [List.getElem?_set_ne hj]
      exact s.val j d' e
  · by_cases hj : i = j
    · subst hj
      by_cases hl : i < env.length
      · rw [gt_st_same hl] at e
        cases e
        exact ⟨a, o, by rw [List.getElem?_set_self (by rw [← s.len]; exact hl)], ha, c, f, he⟩
      · rw [gt_ge (by rw [st_length]; omega)] at e; cases e
    · rw [gt_st_ne hj] at e
      rw [List.getElem?_set_ne hj]
      exact s.own j d' e
  · by_cases hj : i = j
    · by_cases hl : i = l
      · rw [← hj, ← hl]
      · rw [gt_st_ne hl] at e2
        rw [List.getElem?_set_ne hl] at h2
        rw [← hj] at h1
        have hlen : i < env.length := by
          refine Nat.lt_of_not_le fun q => ?_
          rw [← hj, gt_ge (by rw [st_length]; exact q)] at e1; cases e1
        rw [List.getElem?_set_self (by rw [← s.len]; exact hlen)] at h1
        cases h1
        exact absurd h2 (no l _ e2)
    · rw [gt_st_ne hj] at e1
      rw [List.getElem?_set_ne hj] at h1
      by_cases hl : i = l
      · rw [← hl] at h2 e2
        have hlen : i < env.length := by
          refine Nat.lt_of_not_le fun q => ?_
          rw [gt_ge (by rw [st_length]; exact q)] at e2; cases e2
        rw [List.getElem?_set_self (by rw [← s.len]; exact hlen)] at h2
        cases h2
        exact absurd h1 (no j _ e1)
      · rw [gt_st_ne hl] at e2
        rw [List.getElem?_set_ne hl] at h2
        exact s.uni j l d' d'' b e1 e2 h1 h2
end
end Mp

set_option linter.all false
set_option autoImplicit false
set_option maxRecDepth 100000
set_option maxHeartbeats 1000000
/-! Mp3: the operations by values. -/
namespace Mp
open PySem PySem.Spec PyProof.Rows L2

section
variable (K : PySem.W.Frag) (F : Addr → Prop) (θ : List Addr) (H : Hp)
/-- a result: lists and dicts are new -/
def New (r : D) (w : V) (H' : Hp) : Prop :=
  match r with
  | .lst xs => ∃ p vs, w = .ref p ∧ H p = none ∧ H' = upd H p (.lst vs) ∧ VRs K F θ H xs vs
  | .dct t kvs => ∃ p o, w = .ref p ∧ H p = none ∧ H' = upd H p o ∧ CR K F θ H (.dct t kvs) o
  | .tup xs => (H' = H ∧ VR K F θ H (.tup xs) w) ∨ ∃ p vs, w = .ref p ∧ H p = none ∧ H' = upd H p (.tup vs) ∧ VRs K F θ H xs vs
  | r => H' = H ∧ VR K F θ H r w
end
section
variable {K : PySem.W.Frag} {F : Addr → Prop} {θ : List Addr} {H H' : Hp} {mem : Mem}
theorem New.tr {r : D} {w : V} (n : New K F θ H r w H') : Tr θ H θ H' := by
  cases r with
  | lst xs => obtain ⟨p, vs, _, hp, rfl, _⟩ := n; exact Tr.laid hp
  | dct t kvs => obtain ⟨p, vs, _, hp, rfl, _⟩ := n; exact Tr.laid hp
  | tup xs =>
    rcases n with ⟨rfl, _⟩ | ⟨p, vs, _, hp, rfl, _⟩
    · exact Tr.refl
    · exact Tr.laid hp
  | _ => obtain ⟨rfl, _⟩ := n; exact Tr.refl
theorem New.vr {r : D} {w : V} (n : New K F θ H r w H') (m : MS K F θ mem H) : VR K F θ H' r w := by
  cases r with
  | lst xs =>
    obtain ⟨p, vs, rfl, hp, rfl, h⟩ := n
    obtain ⟨h1, h2⟩ := m.fresh hp
    simp only [VR]
    exact ⟨p, vs, rfl, upd_same, h2, h1, VRs.mono (Tr.laid hp).fk _ _ h⟩
  | dct t kvs =>
    obtain ⟨p, o, rfl, hp, rfl, h⟩ := n
    obtain ⟨h1, h2⟩ := m.fresh hp
    exact CR.vr (h.mono (Tr.laid hp).fk) upd_same h2 h1
  | tup xs =>
    rcases n with ⟨rfl, h⟩ | ⟨p, vs, rfl, hp, rfl, h⟩
    · exact h
    · obtain ⟨h1, h2⟩ := m.fresh hp
      simp only [VR]
      exact ⟨p, vs, rfl, upd_same, h2, h1, VRs.mono (Tr.laid hp).fk _ _ h⟩
  | _ => obtain ⟨rfl, h⟩ := n; exact h
theorem New.ms {r : D} {w : V} (n : New K F θ H r w H') (m : MS K F θ mem H) : MS K F θ mem H' := by
  cases r with
  | lst xs => obtain ⟨p, vs, _, hp, rfl, _⟩ := n; exact m.laid hp
  | dct t kvs => obtain ⟨p, vs, _, hp, rfl, _⟩ := n; exact m.laid hp
  | tup xs =>
    rcases n with ⟨rfl, _⟩ | ⟨p, vs, _, hp, rfl, _⟩
    · exact m
    · exact m.laid hp
  | _ => obtain ⟨rfl, _⟩ := n; exact m
end

/-- a two-place operation on data -/
def rD2 (K : PySem.W.Frag) (g : D → D → Option D) : R2 := fun x y H Q => ∃ F θ d e r, Cn K F θ H d x ∧ Cn K F θ H e y ∧ g d e = some r ∧ ∀ w H', New K F θ H r w H' → Q w H'
/-- a one-place one -/
def rD1 (K : PySem.W.Frag) (g : D → Option D) : List V → Hp → VK → Prop := fun xs H Q => ∃ x F θ d r, xs = [x] ∧ Cn K F θ H d x ∧ g d = some r ∧ ∀ w H', New K F θ H r w H' → Q w H'
def rDD (K : PySem.W.Frag) (g : D → D → Option D) : List V → Hp → VK → Prop := fun xs H Q => ∃ x y, xs = [x, y] ∧ rD2 K g x y H Q

theorem tS_len (s : T) : (tS s).length = s.length := by simp [PySem.Str.length]
theorem tS_app (s t : T) : tS s ++ tS t = tS (s ++ t) := by
  show (⟨s.toArray ++ t.toArray⟩ : PySem.Str) = ⟨(s ++ t).toArray⟩
  simp
theorem tS_inj {s t : T} (h : tS s = tS t) : s = t := by
  have := congrArg (fun z : PySem.Str => z.cps.toList) h
  simpa using this
section
variable {K : PySem.W.Frag} {F : Addr → Prop} {θ : List Addr} {H : Hp}
theorem cn_int {i : Int} {x : V} (h : Cn K F θ H (.int i) x) : x = .int i := h
theorem cn_str {i : T} {x : V} (h : Cn K F θ H (.str i) x) : x = .str (tS i) ∧ okT i = true := h
theorem okT_iff {s : T} : okT s = true ↔ (∀ c ∈ s, c < 1114112) ∧ s.length ≤ line := by
  unfold okT
  simp [List.all_eq_true]
theorem okT_app {s t : T} (h1 : okT s = true) (h2 : okT t = true) (hl : s.length + t.length ≤ line) : okT (s ++ t) = true := by
  rw [okT_iff] at *
  refine ⟨fun c hc => ?_, by rw [List.length_append]; exact hl⟩
  rcases List.mem_append.mp hc with h | h
  · exact h1.1 c h
  · exact h2.1 c h
theorem okT_sub {s t : T} (h : okT s = true) (hs : ∀ c ∈ t, c ∈ s) (hl : t.length ≤ s.length) : okT t = true := by
  rw [okT_iff] at *
  exact ⟨fun c hc => h.1 c (hs c hc), Nat.le_trans hl h.2⟩
theorem cn_bl {i : Bool} {x : V} (h : Cn K F θ H (.bl i) x) : x = .bl i := h
theorem cn_non {x : V} (h : Cn K F θ H .non x) : x = .non := h
theorem cn_tup {xs : List D} {x : V} (h : Cn K F θ H (.tup xs) x) : ∃ a vs, x = .ref a ∧ SqT K H a vs ∧ VRs K F θ H xs vs := by
  have h' : VR K F θ H (.tup xs) x := h
  simp only [VR] at h'
  obtain ⟨a, vs, e, q, _, _, r⟩ := h'
  exact ⟨a, vs, e, .inl (.inl q), r⟩
theorem cn_scr {ns : List Int} {x : V} (h : Cn K F θ H (.scr ns) x) : ∃ a, x = .ref a ∧ SqL K H a (ns.map V.int) := by
  have h' : VR K F θ H (.scr ns) x := h
  simp only [VR] at h'
  obtain ⟨a, e, q⟩ := h'
  refine ⟨a, e, ?_⟩
  rcases q with ⟨q, _⟩ | q
  · exact .inl q
  · exact .inr q
end
section
variable {X : Cx}
theorem ints_ok {f : Value → Value → Sem Value} {r : R2} (h : OpR X f r) : OpR X f r := h

theorem oAdd : OpR X (binaryOp .Add) (rD2 X.K addD) := by
  intro pins s σ H x y v u Q I rx ry ⟨F, θ, d, e, r, cd, ce, g, q⟩
  unfold addD at g
  split at g
  · cases g
    exact op_add pins s σ H _ _ v u Q I rx ry ⟨_, _, cd, ce, q _ _ ⟨rfl, rfl⟩⟩
  · split at g
    · rename_i hl
      cases g
      obtain ⟨ed, od⟩ := cn_str cd
      obtain ⟨ee, oe⟩ := cn_str ce
      refine op_add_str pins s σ H _ _ v u Q I rx ry ⟨_, _, ed, ee, by rw [tS_len, tS_len, sizeLine_eq]; exact hl, q _ _ ⟨rfl, ?_, okT_app od oe hl⟩⟩
      show V.str _ = V.str _
      rw [tS_app]
    · cases g
  · split at g
    · rename_i hl
      cases g
      obtain ⟨a, vs, rfl, ha, ra⟩ := cn_tup cd
      obtain ⟨b, ws, rfl, hb, rb⟩ := cn_tup ce
      refine op_catA pins s σ H _ _ v u Q I rx ry ⟨a, b, vs, ws, rfl, rfl, ha, hb, by rw [← ra.length, ← rb.length, sizeLine_eq]; exact hl, fun z => ?_, fun _ z => ?_, fun _ _ p hp => ?_⟩
      · subst z
        have := ra.length
        simp only [List.length_nil, List.length_eq_zero_iff] at this
        subst this
        exact q _ _ (.inl ⟨rfl, ce⟩)
      · subst z
        have := rb.length
        simp only [List.length_nil, List.length_eq_zero_iff] at this
        subst this
        refine q _ _ (.inl ⟨rfl, ?_⟩)
        rw [List.append_nil]
        exact cd
      · exact q _ _ (.inr ⟨p, _, rfl, hp, rfl, ra.append rb⟩)
    · cases g
  · split at g
    · rename_i hl
      cases g
      obtain ⟨a, vs, rfl, ha, ra⟩ := cd
      obtain ⟨b, ws, rfl, hb, rb⟩ := ce
      refine op_cat pins s σ H _ _ v u Q I rx ry ⟨a, b, vs, ws, rfl, rfl, ha, hb, by rw [← ra.length, ← rb.length, sizeLine_eq]; exact hl, fun p hp => ?_⟩
      exact q _ _ ⟨p, _, rfl, hp, rfl, ra.append rb⟩
    · cases g
  · cases g
theorem oSub : OpR X (binaryOp .Sub) (rD2 X.K subD) := by
  intro pins s σ H x y v u Q I rx ry ⟨F, θ, d, e, r, cd, ce, g, q⟩
  unfold subD at g
  split at g
  · cases g
    exact op_sub pins s σ H _ _ v u Q I rx ry ⟨_, _, cd, ce, q _ _ ⟨rfl, rfl⟩⟩
  · cases g
theorem oMod : OpR X (binaryOp .Mod) (rD2 X.K modD) := by
  intro pins s σ H x y v u Q I rx ry ⟨F, θ, d, e, r, cd, ce, g, q⟩
  unfold modD at g
  split at g
  · split at g
    · rename_i hj
      cases g
      exact op_mod pins s σ H _ _ v u Q I rx ry ⟨_, _, cd, ce, hj, q _ _ ⟨rfl, rfl⟩⟩
    · cases g
  · cases g
theorem oFdv : OpR X (binaryOp .FloorDiv) (rD2 X.K fdvD) := by
  intro pins s σ H x y v u Q I rx ry ⟨F, θ, d, e, r, cd, ce, g, q⟩
  unfold fdvD at g
  split at g
  · split at g
    · rename_i hj
      cases g
      rcases hj with ⟨h0, hj | hj⟩
      · exact op_fdiv pins s σ H _ _ v u Q I rx ry ⟨_, _, cd, ce, ⟨h0, hj⟩, q _ _ ⟨rfl, rfl⟩⟩
      · exact op_fdivW pins s σ H _ _ v u Q I rx ry ⟨_, _, cd, ce, ⟨h0, hj⟩, q _ _ ⟨rfl, rfl⟩⟩
    · cases g
  · cases g
theorem oPow : OpR X (binaryOp .Pow) (rD2 X.K powD) := by
  intro pins s σ H x y v u Q I rx ry ⟨F, θ, d, e, r, cd, ce, g, q⟩
  unfold powD at g
  split at g
  · rename_i i j
    split at g
    · rename_i hj
      obtain ⟨h0, h1, h2⟩ := hj
      cases g
      cases cn_int cd
      cases cn_int ce
      obtain ⟨t, rfl⟩ := rx
      obtain ⟨t', rfl⟩ := ry
      have hb : Builtin.Int.intBits i ≤ i.natAbs.log2 + 1 := by
        unfold Builtin.Int.intBits
        split <;> omega
      have n1 : ¬ (j == 0) = true := fun z => by have := eq_of_beq z; omega
      have n2 : ¬ (i == 0 || i == 1) = true := fun z => by
        rcases Bool.or_eq_true_iff.mp z with z | z
        · have := eq_of_beq z; omega
        · have := eq_of_beq z; omega
      have n3 : ¬ (i == -1) = true := fun z => by have := eq_of_beq z; omega
      refine PySem.AutoIntOps.pow_4 (by omega) n1 n2 n3 (fun z => ?_) ⟨.int (i ^ j.toNat), H, I.tok _, ⟨_, rfl⟩, q _ _ ⟨rfl, rfl⟩⟩
      unfold Builtin.Int.intTooBig at z
      have z3 := of_decide_eq_true z
      have e : bitsLine = 134217728 := by decide
      rw [e] at z3
      have hm : Builtin.Int.intBits i * j.toNat ≤ (i.natAbs.log2 + 1) * j.toNat := Nat.mul_le_mul_right _ hb
      have hj : j = ((j.toNat : Nat) : Int) := by omega
      rw [hj, ← Int.natCast_mul] at z3
      omega
    · cases g
  · cases g
theorem repT_big : OpR X (binaryOp .Mult) (fun x y H Q => ∃ l k xs, x = .ref l ∧ y = .int k ∧ SqT X.K H l xs ∧ xs ≠ [] ∧ 2 ≤ k ∧ k ≤ 100000 ∧ xs.length ≤ 100 ∧ ∀ p, H p = none → Q (.ref p) (upd H p (.tup (List.replicate k.toNat xs).flatten))) := by
  intro pins s σ H x y v u Q I rx ry h
  obtain ⟨l, k, xs, rfl, rfl, hT, hne, h1, h2, hz, q⟩ := h
  cases rx
  obtain ⟨t, rfl⟩ := ry
  obtain ⟨its, r, ⟨⟨cls, dd, data, sl⟩, ho, hc, n, hd⟩, hs⟩ := I.tuple hT
  simp only at hc hd
  subst hc hd
  have hle : its.length = xs.length := r.length.symm
  have hn : its ≠ [] := fun e => hne (by
    rw [e] at hle
    exact List.eq_nil_of_length_eq_zero hle.symm)
  have hi : its.toArray.isEmpty = false := by
    cases its with
    | nil => exact absurd rfl hn
    | cons a b => rfl
  have hsz0 : its.toArray.size = xs.length := by rw [List.size_toArray, hle]
  have hm : ((its.toArray.size : Nat) : Int) * k ≤ 10000000 := by
    rw [hsz0]
    have a1 : ((xs.length : Nat) : Int) * k ≤ 100 * k := Int.mul_le_mul_of_nonneg_right (by omega) (by omega)
    omega
  have flen : (List.replicate k.toNat its).flatten.length ≤ sizeLine := by
    rw [PyProof.Rows.lm_len_rep_flat, hle, sizeLine_eq]
    have a1 : k.toNat * xs.length ≤ 100000 * 100 := Nat.mul_le_mul (by omega) hz
    omega
  have c0 : (decide (k < -(2 ^ 63)) || decide (k ≥ 2 ^ 63)) = false := by
    rw [decide_eq_false (by omega), decide_eq_false (by omega)] <;> rfl
  have c1 : (its.toArray.isEmpty || k == 1) = false := by
    rw [hi, Bool.false_or]
    exact beq_eq_false_iff_ne.mpr (by omega)
  have c2 : (decide (k ≤ 0) || its.toArray.isEmpty) = false := by
    rw [hi, Bool.or_false]
    exact decide_eq_false (by omega)
  have c4 : Builtin.Tuple.tupleTooMany (((its.toArray.size : Nat) : Int) * k) = false := by
    unfold Builtin.Tuple.tupleTooMany
    rw [sizeLine_eq]
    exact decide_eq_false (by omega)
  refine wpAny_binaryOp_repeat_ref (T := "tuple") (U := "int") (by decide) ⟨_, ho, rfl⟩ (fun s' => typeIs_int s' k t) noFill_tuple_mul F.fills_int_mul F.slot_int_rmul repeat_tuple F.slot_int_index.lookup
    (call_meets F.slot_int_rmul (typeIs_int s k t) F.entry_int_rmul (F.args_int_rmul_2 _ _) (int_rmul_tuple k t l its.toArray n dd sl)
      ⟨ho, rfl, ⟨_, ho, rfl⟩, call_meets F.slot_tuple_mul ⟨_, ho, rfl⟩ F.entry_tuple_mul (F.args_tuple_mul_2 _ _) (tuple_mulW l its.toArray n dd sl k t c0 c1 c2 (by omega) c4 (by rw [size_rep, List.size_toArray]; exact flen)) ⟨ho, ?_⟩⟩)
  rw [size_rep]
  refine ⟨.ref s.heap.objs.size, _, I.laid (t' := s.toks) (o := .tup (List.replicate k.toNat xs).flatten) (fun b ob q => Heap.get?_push_of_some _ q) (Nat.le_refl _) ?_, rfl, q _ (I.hok.fresh (Nat.le_refl _))⟩
  exact ⟨by rw [PyProof.Rows.lm_len_rep_flat, sizeLine_eq]; have a1 : k.toNat * xs.length ≤ 100000 * 100 := Nat.mul_le_mul (by omega) hz; omega, _, r.rep k.toNat, IsTup.new _ _⟩
theorem foldl_app (z : Array Nat) : ∀ (k : Nat) (acc : Array Nat), (List.replicate k z).foldl (· ++ ·) acc = (acc.toList ++ (List.replicate k z.toList).flatten).toArray
  | 0, acc => by simp
  | k + 1, acc => by
    rw [List.replicate_succ, List.foldl_cons, foldl_app z k, List.replicate_succ, List.flatten_cons]
    simp
theorem oMul : OpR X (binaryOp .Mult) (rD2 X.K mulD) := by
  intro pins s σ H x y v u Q I rx ry ⟨F, θ, d, e, r, cd, ce, g, q⟩
  unfold mulD at g
  split at g
  · split at g
    · rename_i hj
      cases g
      unfold mulOk small at hj
      simp only [Bool.or_eq_true, decide_eq_true_eq] at hj
      rcases hj with (hj | hj) | hj
      · exact op_mul pins s σ H _ _ v u Q I rx ry ⟨_, _, cd, ce, .inl hj, q _ _ ⟨rfl, rfl⟩⟩
      · exact op_mul pins s σ H _ _ v u Q I rx ry ⟨_, _, cd, ce, .inr hj, q _ _ ⟨rfl, rfl⟩⟩
      · exact op_mulW pins s σ H _ _ v u Q I rx ry ⟨_, _, cd, ce, hj, q _ _ ⟨rfl, rfl⟩⟩
    · cases g
  · rename_i z j
    split at g
    · rename_i hj
      obtain ⟨h1, h2, h3⟩ := hj
      cases g
      obtain ⟨rfl, od⟩ := cn_str cd
      cases cn_int ce
      obtain ⟨t, rfl⟩ := rx
      obtain ⟨t', rfl⟩ := ry
      have orep : okT (List.replicate j.toNat z).flatten = true := by
        rw [okT_iff]
        refine ⟨fun c hc => ?_, by rw [PyProof.Rows.lm_len_rep_flat, Nat.mul_comm]; exact h1⟩
        rw [List.mem_flatten] at hc
        obtain ⟨l, hl, hc⟩ := hc
        rw [List.eq_of_mem_replicate hl] at hc
        exact (okT_iff.mp od).1 c hc
      have fin : ∀ (zz : PySem.Str) (tk : Tok) (k : Nat), zz = tS (List.replicate j.toNat z).flatten → EP X pins σ Q (.str zz tk) { s with toks := k } := fun zz tk k ez => by
        subst ez
        exact ⟨.str _, H, I.tok k, ⟨tk, rfl⟩, q _ _ ⟨rfl, rfl, orep⟩⟩
      have hz : (tS z).length = z.length := tS_len z
      refine PySem.P.mul_str (by rw [decide_eq_false (by omega), decide_eq_false (by omega)]; rfl) (fun a b c => ?_) (fun a b => ?_) ?_
      · rw [hz] at c
        have hj1 : 1 ≤ j := by omega
        have hle : ((z.length : Nat) : Int) * j ≤ 16777216 := by
          have e1 : j = ((j.toNat : Nat) : Int) := by omega
          rw [e1, ← Int.natCast_mul]
          exact Int.ofNat_le.mpr h1
        have := (Int.ediv_lt_iff_lt_mul (by omega : (0:Int) < j)).mp c
        omega
      · unfold PySem.Builtin.Str.tooLong
        rw [hz]
        exact decide_eq_false (by have h1' : z.length * j.toNat ≤ 16777216 := h1; rw [sizeLine_eq]; omega)
      · split
        · rename_i h
          have : j.toNat = 0 := by omega
          refine ⟨?_, fin _ _ _ ?_⟩
          · first | decide | trivial
          · rw [this]; rfl
        · split
          · rename_i h h'
            rcases Bool.or_eq_true_iff.mp h' with h' | h'
            · have e1 : j = 1 := eq_of_beq h'
              subst e1
              exact ⟨.str _, H, I, ⟨t, rfl⟩, q _ _ ⟨rfl, by show V.str _ = V.str _; simp, orep⟩⟩
            · have e1 : (tS z).length = 0 := eq_of_beq h'
              rw [hz] at e1
              have e2 : z = [] := List.eq_nil_of_length_eq_zero e1
              subst e2
              refine ⟨.str _, H, I, ⟨t, rfl⟩, q _ _ ⟨rfl, ?_, orep⟩⟩
              show V.str _ = V.str _
              have : (List.replicate j.toNat ([] : List Nat)).flatten = [] := by simp
              rw [this]
          · refine ⟨?_, fin _ _ _ ?_⟩
            · show PySem.Str.length _ ≤ sizeLine
              rw [foldl_app, sizeLine_eq]
              simp only [PySem.Str.length, List.nil_append, List.size_toArray]
              rw [PyProof.Rows.lm_len_rep_flat, Nat.mul_comm]
              exact h1
            · rw [foldl_app]
              simp
    · cases g
  · split at g
    · rename_i hj
      obtain ⟨h1, h2, h3⟩ := hj
      cases g
      obtain ⟨a, vs, rfl, ha, ra⟩ := cd
      refine op_rep pins s σ H _ _ v u Q I rx ry ⟨a, _, vs, rfl, ce, ha, by omega, by omega, by rw [← ra.length, sizeLine_eq]; exact h1, fun p hp => ?_⟩
      exact q _ _ ⟨p, _, rfl, hp, rfl, ra.rep _⟩
    · cases g
  · split at g
    · rename_i hj
      obtain ⟨h1, h2, h3, h4⟩ := hj
      cases g
      obtain ⟨a, vs, rfl, ha, ra⟩ := cn_tup cd
      refine repT_big pins s σ H _ _ v u Q I rx ry ⟨a, _, vs, rfl, ce, ha, fun z => h1 ?_, h2, h3, by rw [← ra.length]; exact h4, fun p hp => ?_⟩
      · subst z
        have := ra.length
        exact List.eq_nil_of_length_eq_zero this
      · exact q _ _ (.inr ⟨p, _, rfl, hp, rfl, ra.rep _⟩)
    · cases g
  · cases g
end
end Mp

set_option linter.all false
set_option autoImplicit false
set_option maxRecDepth 100000
set_option maxHeartbeats 1000000
/-! Mp4: comparisons, built-ins, subscripts by values. -/
namespace Mp
open PySem PySem.Spec PyProof.Rows L2

section
variable {K : PySem.W.Frag} {F : Addr → Prop} {θ : List Addr} {H : Hp}
mutual
theorem pl_dp : ∀ (d : D) (n : Nat) (v : V), pl n d = true → VR K F θ H d v → Dp K H v (toPy d)
  | .non, _, v, _, h => by
    cases (show v = .non from h)
    exact .non
  | .bl b, _, v, _, h => by
    cases (show v = .bl b from h)
    exact .bl b
  | .int i, _, v, _, h => by
    cases (show v = .int i from h)
    exact .int i
  | .str s, _, v, _, h => by
    obtain ⟨rfl, _⟩ := (show v = .str (tS s) ∧ okT s = true from h)
    exact .str _
  | .tup xs, 0, v, p, _ => by simp [pl] at p
  | .tup xs, n + 1, v, p, h => by
    obtain ⟨a, vs, rfl, q, r⟩ := cn_tup (show Cn K F θ H (.tup xs) v from h)
    simp only [pl] at p
    simp only [toPy]
    exact .tup q (pls_dp xs n vs p r)
  | .lst xs, 0, v, p, _ => by simp [pl] at p
  | .lst xs, n + 1, v, p, h => by
    simp only [VR] at h
    obtain ⟨a, vs, rfl, q, _, _, r⟩ := h
    simp only [pl] at p
    simp only [toPy]
    exact .lst (SqL.of q) (pls_dp xs n vs p r)
  | .dct _ _, n, _, p, _ => by cases n <;> simp [pl] at p
  | .obj _, n, _, p, _ => by cases n <;> simp [pl] at p
  | .ins _ _, n, _, p, _ => by cases n <;> simp [pl] at p
  | .scr _, n, _, p, _ => by cases n <;> simp [pl] at p
  | .kon _, n, _, p, _ => by cases n <;> simp [pl] at p
theorem pls_dp : ∀ (ds : List D) (n : Nat) (vs : List V), pls n ds = true → VRs K F θ H ds vs → DpAll K H vs (toPy.toPys ds)
  | [], _, vs, _, h => by
    simp only [VRs] at h
    subst h
    exact .nil
  | d :: ds, n, vs, p, h => by
    simp only [VRs] at h
    obtain ⟨v, r, rfl, h1, h2⟩ := h
    simp only [pls, Bool.and_eq_true] at p
    exact .cons (pl_dp d n v p.1 h1) (pls_dp ds n r p.2 h2)
end
mutual
theorem pl_shape : ∀ (d : D) (n : Nat) (v : V), pl n d = true → VR K F θ H d v → (toPy d).canLay0 = true ∧ (toPy d).depth ≤ n
  | .non, n, v, _, h => ⟨rfl, by simp [toPy, PyData.depth]⟩
  | .bl b, n, v, _, h => ⟨rfl, by simp [toPy, PyData.depth]⟩
  | .int i, n, v, _, h => ⟨rfl, by simp [toPy, PyData.depth]⟩
  | .str s, n, v, _, h => by
    obtain ⟨_, o⟩ := (show v = .str (tS s) ∧ okT s = true from h)
    refine ⟨?_, by simp [toPy, PyData.depth]⟩
    simp only [toPy, PyData.canLay0, PyData.strOk]
    rw [List.all_toArray]
    unfold okT at o
    rw [Bool.and_eq_true] at o
    exact o.1
  | .tup xs, 0, v, p, _ => by simp [pl] at p
  | .tup xs, n + 1, v, p, h => by
    obtain ⟨a, vs, rfl, q, r⟩ := cn_tup (show Cn K F θ H (.tup xs) v from h)
    simp only [pl] at p
    have := pls_shape xs n vs p r
    simp only [toPy, PyData.canLay0, PyData.depth]
    exact ⟨this.1, by omega⟩
  | .lst xs, 0, v, p, _ => by simp [pl] at p
  | .lst xs, n + 1, v, p, h => by
    simp only [VR] at h
    obtain ⟨a, vs, rfl, q, _, _, r⟩ := h
    simp only [pl] at p
    have := pls_shape xs n vs p r
    simp only [toPy, PyData.canLay0, PyData.depth]
    exact ⟨this.1, by omega⟩
  | .dct _ _, n, _, p, _ => by cases n <;> simp [pl] at p
  | .obj _, n, _, p, _ => by cases n <;> simp [pl] at p
  | .ins _ _, n, _, p, _ => by cases n <;> simp [pl] at p
  | .scr _, n, _, p, _ => by cases n <;> simp [pl] at p
  | .kon _, n, _, p, _ => by cases n <;> simp [pl] at p
theorem pls_shape : ∀ (ds : List D) (n : Nat) (vs : List V), pls n ds = true → VRs K F θ H ds vs → PyData.canLayAll0 (toPy.toPys ds) = true ∧ PyData.depthAll (toPy.toPys ds) ≤ n
  | [], n, vs, _, h => ⟨rfl, by simp [toPy.toPys, PyData.depthAll]⟩
  | d :: ds, n, vs, p, h => by
    simp only [VRs] at h
    obtain ⟨v, r, rfl, h1, h2⟩ := h
    simp only [pls, Bool.and_eq_true] at p
    have a := pl_shape d n v p.1 h1
    have b := pls_shape ds n r p.2 h2
    simp only [toPy.toPys, PyData.canLayAll0, PyData.depthAll]
    exact ⟨by rw [a.1, b.1]; rfl, by omega⟩
end
mutual
theorem eqv_eqD : ∀ (d e : D) (n m : Nat), pl n d = true → pl m e = true → PyData.eqv (toPy d) (toPy e) = eqD d e
  | .non, e, n, m, p, q => by cases e <;> first | rfl | (cases m <;> simp [pl] at q)
  | .bl b, e, n, m, p, q => by
    cases e with
    | bl c => rfl
    | int j => cases b <;> rfl
    | dct _ _ => cases m <;> simp [pl] at q
    | obj _ => cases m <;> simp [pl] at q
    | ins _ _ => cases m <;> simp [pl] at q
    | scr _ => cases m <;> simp [pl] at q
    | kon _ => cases m <;> simp [pl] at q
    | _ => rfl
  | .int b, e, n, m, p, q => by
    cases e with
    | bl c => cases c <;> rfl
    | int j => rfl
    | dct _ _ => cases m <;> simp [pl] at q
    | obj _ => cases m <;> simp [pl] at q
    | ins _ _ => cases m <;> simp [pl] at q
    | scr _ => cases m <;> simp [pl] at q
    | kon _ => cases m <;> simp [pl] at q
    | _ => rfl
  | .str s, e, n, m, p, q => by
    cases e with
    | str t =>
      simp only [toPy, PyData.eqv, eqD]
      by_cases h : s = t
      · subst h; simp
      · have h' : ¬ tS s = tS t := fun z => h (tS_inj z)
        have e1 : (tS s == tS t) = false := by
          rw [beq_eq_false_iff_ne]; exact h'
        rw [e1]
        exact (beq_eq_false_iff_ne.mpr h).symm
    | dct _ _ => cases m <;> simp [pl] at q
    | obj _ => cases m <;> simp [pl] at q
    | ins _ _ => cases m <;> simp [pl] at q
    | scr _ => cases m <;> simp [pl] at q
    | kon _ => cases m <;> simp [pl] at q
    | _ => rfl
  | .tup xs, e, n, m, p, q => by
    cases e with
    | tup ys =>
      cases n with
      | zero => simp [pl] at p
      | succ n =>
        cases m with
        | zero => simp [pl] at q
        | succ m =>
          simp only [pl] at p q
          simp only [toPy, PyData.eqv, eqD]
          exact eqvs_eqDs xs ys n m p q
    | dct _ _ => cases m <;> simp [pl] at q
    | obj _ => cases m <;> simp [pl] at q
    | ins _ _ => cases m <;> simp [pl] at q
    | scr _ => cases m <;> simp [pl] at q
    | kon _ => cases m <;> simp [pl] at q
    | _ => rfl
  | .lst xs, e, n, m, p, q => by
    cases e with
    | lst ys =>
      cases n with
      | zero => simp [pl] at p
      | succ n =>
        cases m with
        | zero => simp [pl] at q
        | succ m =>
          simp only [pl] at p q
          simp only [toPy, PyData.eqv, eqD]
          exact eqvs_eqDs xs ys n m p q
    | dct _ _ => cases m <;> simp [pl] at q
    | obj _ => cases m <;> simp [pl] at q
    | ins _ _ => cases m <;> simp [pl] at q
    | scr _ => cases m <;> simp [pl] at q
    | kon _ => cases m <;> simp [pl] at q
    | _ => rfl
  | .dct _ _, e, n, m, p, q => by cases n <;> simp [pl] at p
  | .obj _, e, n, m, p, q => by cases n <;> simp [pl] at p
  | .ins _ _, e, n, m, p, q => by cases n <;> simp [pl] at p
  | .scr _, e, n, m, p, q => by cases n <;> simp [pl] at p
  | .kon _, e, n, m, p, q => by cases n <;> simp [pl] at p
theorem eqvs_eqDs : ∀ (d e : List D) (n m : Nat), pls n d = true → pls m e = true → PyData.eqvAll (toPy.toPys d) (toPy.toPys e) = eqDs d e
  | [], [], _, _, _, _ => rfl
  | [], _ :: _, _, _, _, _ => rfl
  | _ :: _, [], _, _, _, _ => rfl
  | x :: xs, y :: ys, n, m, p, q => by
    simp only [pls, Bool.and_eq_true] at p q
    simp only [toPy.toPys, PyData.eqvAll, eqDs]
    rw [eqv_eqD x y n m p.1 q.1, eqvs_eqDs xs ys n m p.2 q.2]
end
theorem shaped_of {d : D} {v : V} (p : pl deep d = true) (h : VR K F θ H d v) : SeqAt.shaped (toPy d) = true := by
  obtain ⟨a, b⟩ := pl_shape d deep v p h
  unfold SeqAt.shaped
  rw [a, decide_eq_true (by have : deep = 40 := rfl; omega)]
  rfl
/-- an own list's content as plain data -/
theorem cn_dp {d : D} {v : V} {n : Nat} (p : pl n d = true) (h : Cn K F θ H d v) : Dp K H v (toPy d) ∧ (toPy d).canLay0 = true ∧ (toPy d).depth ≤ n := by
  cases d with
  | lst xs =>
    cases n with
    | zero => simp [pl] at p
    | succ n =>
      obtain ⟨a, vs, rfl, q, r⟩ := h
      simp only [pl] at p
      have := pls_shape xs n vs p r
      simp only [toPy, PyData.canLay0, PyData.depth]
      exact ⟨.lst (SqL.of q) (pls_dp xs n vs p r), this.1, by omega⟩
  | dct t kvs => cases n <;> simp [pl] at p
  | non =>
    have h' : VR K F θ H .non v := h
    exact ⟨pl_dp .non n v p h', pl_shape .non n v p h'⟩
  | bl b =>
    have h' : VR K F θ H (.bl b) v := h
    exact ⟨pl_dp (.bl b) n v p h', pl_shape (.bl b) n v p h'⟩
  | int b =>
    have h' : VR K F θ H (.int b) v := h
    exact ⟨pl_dp (.int b) n v p h', pl_shape (.int b) n v p h'⟩
  | str b =>
    have h' : VR K F θ H (.str b) v := h
    exact ⟨pl_dp (.str b) n v p h', pl_shape (.str b) n v p h'⟩
  | tup b =>
    have h' : VR K F θ H (.tup b) v := h
    exact ⟨pl_dp (.tup b) n v p h', pl_shape (.tup b) n v p h'⟩
  | obj b => cases n <;> simp [pl] at p
  | ins b c => cases n <;> simp [pl] at p
  | scr b => cases n <;> simp [pl] at p
  | kon b => cases n <;> simp [pl] at p
theorem cn_shaped {d : D} {v : V} (p : pl deep d = true) (h : Cn K F θ H d v) : SeqAt.shaped (toPy d) = true := by
  obtain ⟨_, a, b⟩ := cn_dp p h
  unfold SeqAt.shaped
  rw [a, decide_eq_true (by have : deep = 40 := rfl; omega)]
  rfl
end

def Cmp.op : Cmp → CmpOp
  | .eq => .Eq | .ne => .NotEq | .lt => .Lt | .le => .LtE | .gt => .Gt | .ge => .GtE
def rCmp (K : PySem.W.Frag) (c : Cmp) : R2 := fun x y H Q => ∃ F θ d e b, Cn K F θ H d x ∧ Cn K F θ H e y ∧ c.run d e = some b ∧ Q (.bl b) H
theorem tS_list (s : T) : (tS s).cps.toList = s := by simp
section
variable {X : Cx}
theorem oCmp (hu : X.A.units + 64 < cLine) (c : Cmp) : OpR X (compareOp c.op) (rCmp X.K c) := by
  intro pins s σ H x y v u Q I rx ry ⟨F, θ, d, e, b, cd, ce, g, q⟩
  cases c with
  | eq =>
    simp only [Cmp.run] at g
    split at g
    · rename_i hp
      cases g
      rw [Bool.and_eq_true] at hp
      refine op_eqD hu pins s σ H _ _ v u Q I rx ry ⟨_, _, (cn_dp hp.1 cd).1, (cn_dp hp.2 ce).1, cn_shaped hp.1 cd, cn_shaped hp.2 ce, ?_⟩
      rw [eqv_eqD d e deep deep hp.1 hp.2]
      exact q
    · cases g
  | ne =>
    simp only [Cmp.run] at g
    split at g
    · rename_i hp
      cases g
      rw [Bool.and_eq_true] at hp
      refine op_neD hu pins s σ H _ _ v u Q I rx ry ⟨_, _, (cn_dp hp.1 cd).1, (cn_dp hp.2 ce).1, cn_shaped hp.1 cd, cn_shaped hp.2 ce, ?_⟩
      rw [eqv_eqD d e deep deep hp.1 hp.2]
      exact q
    · cases g
  | lt =>
    unfold Cmp.run at g
    split at g
    all_goals first
      | (rename_i hz; cases hz; done)
      | skip
    all_goals try (rename_i h; cases h; done)
    · cases g
      exact op_lt pins s σ H _ _ v u Q I rx ry ⟨_, _, cd, ce, q⟩
    · cases g
      refine op_lt_str pins s σ H _ _ v u Q I rx ry ⟨_, _, (cn_str cd).1, (cn_str ce).1, ?_⟩
      rw [tS_list, tS_list]
      exact q
    · cases g
  | le =>
    unfold Cmp.run at g
    split at g
    all_goals try (rename_i h; cases h; done)
    · cases g
      exact op_le pins s σ H _ _ v u Q I rx ry ⟨_, _, cd, ce, q⟩
    · cases g
  | gt =>
    unfold Cmp.run at g
    split at g
    all_goals try (rename_i h; cases h; done)
    · cases g
      exact op_gt pins s σ H _ _ v u Q I rx ry ⟨_, _, cd, ce, q⟩
    · cases g
      refine op_gt_str pins s σ H _ _ v u Q I rx ry ⟨_, _, (cn_str cd).1, (cn_str ce).1, ?_⟩
      rw [tS_list, tS_list]
      exact q
    · cases g
  | ge =>
    unfold Cmp.run at g
    split at g
    all_goals try (rename_i h; cases h; done)
    · cases g
      exact op_ge pins s σ H _ _ v u Q I rx ry ⟨_, _, cd, ce, q⟩
    · cases g
end
end Mp

set_option linter.all false
set_option autoImplicit false
set_option maxRecDepth 100000
set_option maxHeartbeats 1000000
/-! Mp5: in, subscripts, slices, built-ins by values. -/
namespace Mp
open PySem PySem.Spec PyProof.Rows L2

/-! ### keys -/
theorem keyOf_eq {k y : D} {k' y' : Key} (h1 : keyOf k = some k') (h2 : keyOf y = some y') : eqD k y = decide (k' = y') := by
  cases k <;> simp only [keyOf] at h1 <;> cases y <;> simp only [keyOf] at h2 <;> cases h1 <;> cases h2
  · rw [key_ll]; rfl
  · rw [key_lr]; rfl
  · rw [key_rl]; rfl
  · rename_i s t
    rw [key_rr]
    by_cases h : s = t
    · subst h; simp [eqD]
    · rw [decide_eq_false (fun z => h (tS_inj z))]
      exact beq_eq_false_iff_ne.mpr h
theorem keysOf_eq : ∀ {k y : List D} {k' y' : List Key}, keysOf k = some k' → keysOf y = some y' → eqDs k y = decide (k' = y')
  | [], [], _, _, h1, h2 => by cases h1; cases h2; rfl
  | [], b :: r, _, _, h1, h2 => by
    cases h1
    simp only [keysOf] at h2
    obtain ⟨c, e1, h2⟩ := Option.bind_eq_some_iff.mp h2
    obtain ⟨d, e2, h2⟩ := Option.map_eq_some_iff.mp h2
    subst h2
    simp [eqDs]
  | a :: r, [], _, _, h1, h2 => by
    cases h2
    simp only [keysOf] at h1
    obtain ⟨c, e1, h1⟩ := Option.bind_eq_some_iff.mp h1
    obtain ⟨d, e2, h1⟩ := Option.map_eq_some_iff.mp h1
    subst h1
    simp [eqDs]
  | a :: r, b :: q, _, _, h1, h2 => by
    simp only [keysOf] at h1 h2
    obtain ⟨c, e1, h1⟩ := Option.bind_eq_some_iff.mp h1
    obtain ⟨d, e2, h1⟩ := Option.map_eq_some_iff.mp h1
    obtain ⟨c', e1', h2⟩ := Option.bind_eq_some_iff.mp h2
    obtain ⟨d', e2', h2⟩ := Option.map_eq_some_iff.mp h2
    subst h1 h2
    simp only [eqDs, keyOf_eq e1 e1', keysOf_eq e2 e2']
    by_cases z1 : c = c'
    · by_cases z2 : d = d'
      · simp [z1, z2]
      · simp [z1, z2]
    · simp [z1]
theorem tkeyOf_eq {k y : D} {k' y' : List Key} (h1 : tkeyOf k = some k') (h2 : tkeyOf y = some y') : eqD k y = decide (k' = y') := by
  cases k <;> simp only [tkeyOf] at h1 <;> first | (cases h1; done) | skip
  cases y <;> simp only [tkeyOf] at h2 <;> first | (cases h2; done) | skip
  simp only [eqD]
  exact keysOf_eq h1 h2
theorem keysOf_some : ∀ {xs : List D}, xs.all key1 = true → ∃ k, keysOf xs = some k
  | [], _ => ⟨[], rfl⟩
  | d :: r, h => by
    rw [List.all_cons, Bool.and_eq_true] at h
    obtain ⟨k, e⟩ := keysOf_some h.2
    have : ∃ c, keyOf d = some c := by
      have h1 := h.1
      cases d <;> simp only [key1] at h1 <;> first | exact ⟨_, rfl⟩ | cases h1
    obtain ⟨c, e1⟩ := this
    exact ⟨c :: k, by simp only [keysOf, e1, e, Option.bind_some, Option.map_some]⟩
section
variable {K : PySem.W.Frag} {F : Addr → Prop} {θ : List Addr} {H : Hp}
theorem KR.get : ∀ {kvs : List (D × D)} {ws : List (Key × V)} {y : D} {k : Key}, KR K F θ H kvs ws → keyOf y = some k →
    (∃ d v, getK kvs y = some d ∧ valV ws k = some v ∧ VR K F θ H d v) ∨ (getK kvs y = none ∧ valV ws k = none)
  | [], ws, y, k, h, _ => by
    simp only [KR] at h
    subst h
    exact .inr ⟨rfl, rfl⟩
  | (x, d) :: r, ws, y, k, h, hy => by
    simp only [KR] at h
    obtain ⟨k', v, q, rfl, ⟨e1, _⟩, h1, h2⟩ := h
    have e := keyOf_eq e1 hy
    by_cases z : k' = k
    · rw [decide_eq_true z] at e
      refine .inl ⟨d, v, ?_, valV_pos (p := (k', v)) z, h1⟩
      simp [getK, List.find?_cons, e]
    · rw [decide_eq_false z] at e
      have g : getK ((x, d) :: r) y = getK r y := by simp [getK, List.find?_cons, e]
      rw [g, valV_neg (p := (k', v)) z]
      exact KR.get h2 hy
theorem TR.get : ∀ {kvs : List (D × D)} {ws : List (List Key × V)} {y : D} {k : List Key}, TR K F θ H kvs ws → tkeyOf y = some k →
    (∃ d v, getK kvs y = some d ∧ valV ws k = some v ∧ VR K F θ H d v) ∨ (getK kvs y = none ∧ valV ws k = none)
  | [], ws, y, k, h, _ => by
    simp only [TR] at h
    subst h
    exact .inr ⟨rfl, rfl⟩
  | (x, d) :: r, ws, y, k, h, hy => by
    simp only [TR] at h
    obtain ⟨k', v, q, rfl, ⟨e1, _⟩, h1, h2⟩ := h
    have e := tkeyOf_eq e1 hy
    by_cases z : k' = k
    · rw [decide_eq_true z] at e
      refine .inl ⟨d, v, ?_, valV_pos (p := (k', v)) z, h1⟩
      simp [getK, List.find?_cons, e]
    · rw [decide_eq_false z] at e
      have g : getK ((x, d) :: r) y = getK r y := by simp [getK, List.find?_cons, e]
      rw [g, valV_neg (p := (k', v)) z]
      exact TR.get h2 hy
/-- a key as a value -/
theorem key_val {y : D} {v : V} (hk : isKey false y = true) (h : VR K F θ H y v) : ∃ k, keyOf y = some k ∧ v = kV k ∧ okK y = true := by
  cases y <;> simp [isKey] at hk
  · have h' : v = .int _ := h
    exact ⟨_, rfl, h', rfl⟩
  · obtain ⟨h1, h2⟩ := (show v = .str (tS _) ∧ okT _ = true from h)
    exact ⟨_, rfl, h1, h2⟩
theorem keys_val : ∀ {xs : List D} {vs : List V} {k : List Key}, keysOf xs = some k → VRs K F θ H xs vs → vs = k.map kV ∧ xs.all ok1 = true
  | [], vs, k, e, h => by
    cases e
    simp only [VRs] at h
    exact ⟨h, rfl⟩
  | d :: r, vs, k, e, h => by
    simp only [keysOf] at e
    obtain ⟨c, e1, e⟩ := Option.bind_eq_some_iff.mp e
    obtain ⟨d', e2, e⟩ := Option.map_eq_some_iff.mp e
    subst e
    simp only [VRs] at h
    obtain ⟨v, q, rfl, h1, h2⟩ := h
    obtain ⟨a, b⟩ := keys_val e2 h2
    subst a
    rw [List.map_cons, List.all_cons, b, Bool.and_true]
    cases d <;> simp only [keyOf] at e1 <;> first | (cases e1; done) | skip
    · cases e1
      cases (show v = .int _ from h1)
      exact ⟨rfl, rfl⟩
    · cases e1
      obtain ⟨z1, z2⟩ := (show v = .str (tS _) ∧ okT _ = true from h1)
      subst z1
      exact ⟨rfl, z2⟩
theorem tkey_val {y : D} {v : V} (hk : isKey true y = true) (h : VR K F θ H y v) : ∃ k b, tkeyOf y = some k ∧ v = .ref b ∧ H b = some (.tup (k.map kV)) ∧ okK y = true := by
  cases y <;> simp [isKey] at hk
  rename_i xs
  obtain ⟨k, e⟩ := keysOf_some (xs := xs) (by rw [List.all_eq_true]; exact hk)
  simp only [VR] at h
  obtain ⟨a, vs, rfl, q, _, _, r⟩ := h
  obtain ⟨e2, o⟩ := keys_val e r
  subst e2
  exact ⟨k, a, e, rfl, q, o⟩
/-- what a dict holds at a key -/
theorem dget_of {t : Bool} {kvs : List (D × D)} {y : D} {x u : V} (hk : isKey t y = true) (hd : Cn K F θ H (.dct t kvs) x) (hy : VR K F θ H y u) :
    ∃ a o, x = .ref a ∧ DGet H a u o ∧ ((∃ d v, getK kvs y = some d ∧ o = some v ∧ VR K F θ H d v) ∨ (getK kvs y = none ∧ o = none)) := by
  cases t with
  | false =>
    obtain ⟨a, ws, rfl, q, r⟩ := hd
    obtain ⟨k, e1, rfl, _⟩ := key_val hk hy
    refine ⟨a, valV ws k, rfl, .inl ⟨ws, k, q, rfl, rfl⟩, ?_⟩
    exact r.get e1
  | true =>
    obtain ⟨a, ws, rfl, q, r⟩ := hd
    obtain ⟨k, b, e1, rfl, hb, _⟩ := tkey_val hk hy
    refine ⟨a, valV ws k, rfl, .inr ⟨ws, k, b, q, rfl, hb, rfl⟩, ?_⟩
    exact r.get e1
theorem any_eqv {y : D} {n m : Nat} (hy : pl n y = true) : ∀ {xs : List D}, pls m xs = true → ((toPy.toPys xs).any fun z => PyData.eqv z (toPy y)) = xs.any fun z => eqD z y
  | [], _ => rfl
  | x :: xs, h => by
    simp only [pls, Bool.and_eq_true] at h
    simp only [toPy.toPys, List.any_cons, eqv_eqD x y m n h.1 hy, any_eqv hy h.2]
end

def inOp (neg : Bool) : CmpOp := if neg = true then .NotIn else .In
def rInn (K : PySem.W.Frag) (neg : Bool) : R2 := fun x y H Q => ∃ F θ d e b, VR K F θ H d x ∧ Cn K F θ H e y ∧ inD d e = some b ∧ Q (.bl (b != neg)) H
section
variable {X : Cx}
theorem oInn (hu : X.A.units + 65 < cLine) (neg : Bool) : OpR X (compareOp (inOp neg)) (rInn X.K neg) := by
  intro pins s σ H x y v u Q I rx ry ⟨F, θ, d, e, b, cd, ce, g, q⟩
  have hu1 : X.A.units + 1 < cLine := by omega
  have data : ∀ (xs : List D), (pl deep d && pls deep xs) = true → xs.any (fun z => eqD z d) = b → (∃ bs, ∀ (neg' : Bool), neg' = neg → (Reads s.heap u (.list (toPy.toPys xs)) bs ∨ Reads s.heap u (.tuple (toPy.toPys xs)) bs)) → PyData.canLayAll0 (toPy.toPys xs) = true →
      wpAny (model X.prog X.w) X.A (compareOp (inOp neg) v u) (EP X pins σ Q) X.xe s := by
    intro xs hp hb ⟨bs, hr⟩ hl
    rw [Bool.and_eq_true] at hp
    obtain ⟨as, r1⟩ := Dp.reads I (toPy d) x v (pl_dp d deep x hp.1 cd) rx
    have sd := shaped_of hp.1 cd
    have e1 := any_eqv hp.1 hp.2
    rw [hb] at e1
    have fin : EP X pins σ Q (.bool (b != neg)) s := ⟨.bl _, H, I, rfl, q⟩
    cases neg with
    | false =>
      rcases hr false rfl with r2 | r2
      · refine SeqAt.in_list_reads r2 r1 (by simpa [PyData.canLay0] using hl) (SeqAt.canLay_of_shaped sd) (room_in_shaped sd hu) ?_
        rw [e1]
        rw [Bool.bne_false] at fin
        exact fin
      · refine SeqAt.in_tuple_reads r2 r1 (by simpa [PyData.canLay0] using hl) (SeqAt.canLay_of_shaped sd) (room_in_shaped sd hu) ?_
        rw [e1]
        rw [Bool.bne_false] at fin
        exact fin
    | true =>
      rcases hr true rfl with r2 | r2
      · refine SeqAt.notIn_list_reads r2 r1 (by simpa [PyData.canLay0] using hl) (SeqAt.canLay_of_shaped sd) (room_in_shaped sd hu) ?_
        rw [e1]
        rw [Bool.bne_true] at fin
        exact fin
      · refine SeqAt.notIn_tuple_reads r2 r1 (by simpa [PyData.canLay0] using hl) (SeqAt.canLay_of_shaped sd) (room_in_shaped sd hu) ?_
        rw [e1]
        rw [Bool.bne_true] at fin
        exact fin
  unfold inD at g
  split at g
  · rename_i xs
    split at g
    · rename_i hp
      cases g
      obtain ⟨a, vs, rfl, hq, r⟩ := ce
      rw [Bool.and_eq_true] at hp
      obtain ⟨bs, r2⟩ := Dp.reads I (.list (toPy.toPys xs)) (.ref a) u (.lst (SqL.of hq) (pls_dp xs deep vs hp.2 r)) ry
      exact data xs (by rw [Bool.and_eq_true]; exact hp) rfl ⟨bs, fun _ _ => .inl r2⟩ (pls_shape xs deep vs hp.2 r).1
    · cases g
  · rename_i xs
    split at g
    · rename_i hp
      cases g
      obtain ⟨a, vs, rfl, hq, r⟩ := cn_tup ce
      rw [Bool.and_eq_true] at hp
      obtain ⟨bs, r2⟩ := Dp.reads I (.tuple (toPy.toPys xs)) (.ref a) u (.tup hq (pls_dp xs deep vs hp.2 r)) ry
      exact data xs (by rw [Bool.and_eq_true]; exact hp) rfl ⟨bs, fun _ _ => .inr r2⟩ (pls_shape xs deep vs hp.2 r).1
    · cases g
  · rename_i xs
    split at g
    · rename_i hp
      cases g
      obtain ⟨a, vs, rfl, hq, r⟩ := ce
      rw [Bool.and_eq_true] at hp
      obtain ⟨bs, r2⟩ := Dp.reads I (.tuple (toPy.toPys xs)) (.ref a) u (.tup (.inr hq) (pls_dp xs deep vs hp.2 r)) ry
      exact data xs (by rw [Bool.and_eq_true]; exact hp) rfl ⟨bs, fun _ _ => .inr r2⟩ (pls_shape xs deep vs hp.2 r).1
    · cases g
  · rename_i t
    split at g
    · rename_i c
      cases g
      obtain ⟨rfl, _⟩ := (show x = .str (tS [c]) ∧ okT [c] = true from cd)
      obtain ⟨rfl, _⟩ := cn_str ce
      cases neg with
      | false =>
        refine op_in_sign pins s σ H _ _ v u Q I rx ry ⟨c, tS t, rfl, rfl, ?_⟩
        rw [tS_list]
        simpa using q
      | true =>
        refine op_notIn_sign pins s σ H _ _ v u Q I rx ry ⟨c, tS t, rfl, rfl, ?_⟩
        rw [tS_list]
        simpa using q
    · cases g
  · rename_i t kvs
    split at g
    · rename_i hk
      obtain ⟨a, o, rfl, dg, ho⟩ := dget_of hk ce cd
      cases ry
      have e1 : o.isSome = b := by
        rcases ho with ⟨d', v', e1, e2, _⟩ | ⟨e1, e2⟩
        · rw [e1] at g; rw [e2]; cases g; rfl
        · rw [e1] at g; rw [e2]; cases g; rfl
      cases neg with
      | false =>
        refine d_in hu1 I dg rx fun s' I' => ?_
        rw [e1]
        rw [Bool.bne_false] at q
        exact ⟨.bl _, H, I', rfl, q⟩
      | true =>
        refine d_notIn hu1 I dg rx fun s' I' => ?_
        rw [e1]
        rw [Bool.bne_true] at q
        exact ⟨.bl _, H, I', rfl, q⟩
    · cases g
  · cases g
end
end Mp

set_option linter.all false
set_option autoImplicit false
set_option maxRecDepth 100000
set_option maxHeartbeats 1000000
/-! Mp6: what repr tells is a text; subscripts, slices, built-ins by values. -/
namespace Mp
open PySem PySem.Spec PyProof.Rows L2

/-! ### code points -/
def okS (x : PySem.Str) : Prop := ∀ c ∈ x.cps.toList, c < 1114112
theorem okS_of (s : String) : okS (PySem.Str.ofString s) := by
  intro c hc
  rw [PySem.Str.ofString_eq_toList] at hc
  simp only [List.mem_map] at hc
  obtain ⟨ch, _, rfl⟩ := hc
  have h := ch.valid
  rcases h with h | h
  · have : ch.toNat < 55296 := h
    omega
  · have : ch.toNat < 1114112 := h.2
    omega
theorem okS_app {x y : PySem.Str} (h1 : okS x) (h2 : okS y) : okS (x ++ y) := by
  intro c hc
  have e : (x ++ y).cps.toList = x.cps.toList ++ y.cps.toList := by
    show (x.cps ++ y.cps).toList = _
    simp
  rw [e, List.mem_append] at hc
  exact hc.elim (h1 c) (h2 c)
theorem okS_tS {s : T} (h : okS (tS s)) (hl : s.length ≤ line) : okT s = true := by
  rw [okT_iff]
  unfold okS at h
  rw [tS_list] at h
  exact ⟨h, hl⟩
theorem digits_ok {n c b : Nat} (h : c ∈ (Nat.toDigits b n).map Char.toNat) : c < 1114112 := by
  rw [List.mem_map] at h
  obtain ⟨ch, _, rfl⟩ := h
  have h := ch.valid
  rcases h with h | h
  · have : ch.toNat < 55296 := h
    omega
  · have : ch.toNat < 1114112 := h.2
    omega
theorem reprChar_ok {q c : Nat} (hc : c < 1114112) : ∀ z ∈ Builtin.Str.reprChar q c, z < 1114112 := by
  intro z hz
  have hex : ∀ (w z : Nat), z ∈ List.replicate (w - ((Nat.toDigits 16 c).map Char.toNat).length) 48 ++ (Nat.toDigits 16 c).map Char.toNat → z < 1114112 := by
    intro w z hz
    rcases List.mem_append.mp hz with h | h
    · have := List.eq_of_mem_replicate h
      omega
    · exact digits_ok h
  unfold Builtin.Str.reprChar at hz
  simp only at hz
  split at hz
  · simp only [List.mem_cons, List.not_mem_nil, or_false] at hz; omega
  · split at hz
    · simp only [List.mem_cons, List.not_mem_nil, or_false] at hz; omega
    · split at hz
      · simp only [List.mem_cons, List.not_mem_nil, or_false] at hz; omega
      · split at hz
        · simp only [List.mem_cons, List.not_mem_nil, or_false] at hz; omega
        · split at hz
          · simp only [List.mem_cons, List.not_mem_nil, or_false] at hz; omega
          · split at hz
            · rcases List.mem_append.mp hz with h | h
              · simp only [List.mem_cons, List.not_mem_nil, or_false] at h; omega
              · exact hex 2 z h
            · split at hz
              · rcases List.mem_append.mp hz with h | h
                · simp only [List.mem_cons, List.not_mem_nil, or_false] at h; omega
                · exact hex 4 z h
              · rcases List.mem_append.mp hz with h | h
                · simp only [List.mem_cons, List.not_mem_nil, or_false] at h; omega
                · exact hex 8 z h
theorem foldl_ok (q : Nat) : ∀ (l : List Nat) (acc : Array Nat), (∀ c ∈ l, c < 1114112) → (∀ c ∈ acc.toList, c < 1114112) →
    ∀ c ∈ (l.foldl (fun out c => out ++ (Builtin.Str.reprChar q c).toArray) acc).toList, c < 1114112
  | [], acc, _, h => h
  | x :: r, acc, hl, h => by
    rw [List.foldl_cons]
    refine foldl_ok q r _ (fun c hc => hl c (List.mem_cons_of_mem _ hc)) fun c hc => ?_
    have e : (acc ++ (Builtin.Str.reprChar q x).toArray).toList = acc.toList ++ Builtin.Str.reprChar q x := by simp
    rw [e, List.mem_append] at hc
    exact hc.elim (h c) (reprChar_ok (hl x (List.mem_cons_self ..)) c)
theorem reprText_ok {x : PySem.Str} (h : okS x) : okS (PySem.reprText x) := by
  have hq : PySem.reprQuote x < 1114112 := by
    unfold PySem.reprQuote
    split <;> omega
  intro c hc
  unfold PySem.reprText at hc
  rw [Array.toList_push, List.mem_append] at hc
  rcases hc with hc | hc
  · rw [← Array.foldl_toList] at hc
    refine foldl_ok _ x.cps.toList _ h (fun z hz => ?_) c hc
    have : z = PySem.reprQuote x := by simpa using hz
    omega
  · have : c = PySem.reprQuote x := by simpa using hc
    omega
theorem textFrom_ok : ∀ (ts : List PySem.Str) (k : Nat) (acc : PySem.Str), okS acc → (∀ t ∈ ts, okS t) → okS (textFrom k acc ts)
  | [], _, _, h, _ => h
  | t :: ts, k, acc, h, ht => by
    show okS (textFrom (k + 1) (acc ++ ((if k > 0 then ", " else "" : String) : PySem.Str) ++ t) ts)
    exact textFrom_ok ts _ _ (okS_app (okS_app h (okS_of _)) (ht t (List.mem_cons_self ..))) fun x hx => ht x (List.mem_cons_of_mem _ hx)
theorem join_ok {y : PySem.Str} (hy : okS y) : ∀ (ts : List PySem.Str), (∀ t ∈ ts, okS t) → okS (PySem.Str.join y ts)
  | [], _ => by
    show okS PySem.Str.empty
    intro c hc
    have : c ∈ ([] : List Nat) := hc
    cases this
  | [t], ht => ht t (List.mem_cons_self ..)
  | x :: z :: r, ht => by
    show okS (x ++ y ++ PySem.Str.join y (z :: r))
    exact okS_app (okS_app (ht x (List.mem_cons_self ..)) hy) (join_ok hy (z :: r) fun t h => ht t (List.mem_cons_of_mem _ h))
mutual
theorem shown_ok : ∀ (d : PyData), d.canLay0 = true → okS d.shown
  | .none, _ => by simp only [PyData.shown]; exact okS_of _
  | .bool b, _ => by
    simp only [PyData.shown]
    split <;> exact okS_of _
  | .int i, _ => by simp only [PyData.shown]; exact okS_of _
  | .str x, h => by
    simp only [PyData.shown]
    refine reprText_ok fun c hc => ?_
    simp only [PyData.canLay0, PyData.strOk] at h
    rw [← Array.all_toList, List.all_eq_true] at h
    exact of_decide_eq_true (h c hc)
  | .list xs, h => by
    simp only [PyData.shown]
    simp only [PyData.canLay0] at h
    unfold listText
    exact okS_app (textFrom_ok _ _ _ (okS_of _) (showns_ok xs h)) (okS_of _)
  | .tuple xs, h => by
    simp only [PyData.shown]
    simp only [PyData.canLay0] at h
    unfold tupleText
    exact okS_app (okS_app (okS_of _) (join_ok (okS_of _) _ (showns_ok xs h))) (okS_of _)
  | .dict _, h => by simp [PyData.canLay0] at h
theorem showns_ok : ∀ (ds : List PyData), PyData.canLayAll0 ds = true → ∀ t ∈ PyData.shownAll ds, okS t
  | [], _, t, h => by simp [PyData.shownAll] at h
  | d :: ds, p, t, h => by
    simp only [PyData.canLayAll0, Bool.and_eq_true] at p
    simp only [PyData.shownAll, List.mem_cons] at h
    rcases h with rfl | h
    · exact shown_ok d p.1
    · exact showns_ok ds p.2 t h
end
theorem tS_of (x : PySem.Str) : tS x.cps.toList = x := by
  cases x; simp

/-! ### subscripts -/
theorem ixN_eq (n : Nat) (i : Int) : Mp.ixN n i = L2.ixN n i := rfl
section
variable {K : PySem.W.Frag} {F : Addr → Prop} {θ : List Addr} {H : Hp}
theorem VRs.atI {xs : List D} {vs : List V} {i : Int} {d : D} (h : VRs K F θ H xs vs) (e : Mp.atI xs i = some d) : ∃ v, L2.atI vs i = some v ∧ VR K F θ H d v := by
  unfold Mp.atI at e
  obtain ⟨j, e1, e2⟩ := Option.bind_eq_some_iff.mp e
  obtain ⟨v, e3, r⟩ := h.get e2
  refine ⟨v, ?_, r⟩
  unfold L2.atI
  rw [← h.length, ← ixN_eq, e1]
  exact e3
end
def rIdx (K : PySem.W.Frag) : R2 := fun x y H Q => ∃ F θ d e r, Cn K F θ H d x ∧ VR K F θ H e y ∧ idxD d e = some r ∧ ∀ w, VR K F θ H r w → Q w H
section
variable {X : Cx}
theorem ix_dict (hu : X.A.units + 1 < cLine) : IxR X (fun x y H Q => ∃ a v, x = .ref a ∧ DGet H a y (some v) ∧ Q v H) := by
  intro value slice pins s σ H x y v u Q I rx ry h hs
  obtain ⟨a, z, rfl, g, q⟩ := h
  cases rx
  refine tail_any (dict_typeIs I g) PySem.F.slot_dict_getitem.lookup ?_ hs
  exact d_getItem hu I g ry fun w' s3 I3 rw' => ⟨z, H, I3, rw', q⟩
theorem oIdx (hu : X.A.units + 1 < cLine) : IxR X (rIdx X.K) := by
  intro value slice pins s σ H x y v u Q I rx ry ⟨F, θ, d, e, r, cd, ce, g, q⟩ hs
  unfold idxD at g
  split at g
  · obtain ⟨a, vs, rfl, ha, ra⟩ := cd
    cases (show y = .int _ from ce)
    obtain ⟨w, e1, rw'⟩ := ra.atI g
    exact ix_list value slice pins s σ H _ _ v u Q I rx ry ⟨a, vs, _, w, rfl, rfl, SqL.of ha, e1, q _ rw'⟩ hs
  · obtain ⟨a, vs, rfl, ha, ra⟩ := cn_tup cd
    cases (show y = .int _ from ce)
    obtain ⟨w, e1, rw'⟩ := ra.atI g
    exact ix_tup value slice pins s σ H _ _ v u Q I rx ry ⟨a, vs, _, w, rfl, rfl, ha, e1, q _ rw'⟩ hs
  · rename_i z i
    obtain ⟨rfl, oz⟩ := cn_str cd
    cases (show y = .int i from ce)
    obtain ⟨c, e1, e2⟩ := Option.map_eq_some_iff.mp g
    subst e2
    have hz : (tS z).length ≤ sizeLine := by
      rw [tS_len, sizeLine_eq]
      exact (okT_iff.mp oz).2
    exact ix_str value slice pins s σ H _ _ v u Q I rx ry ⟨tS z, i, c, rfl, rfl, hz, by rw [tS_list]; exact e1, q _ ⟨rfl, by
      unfold Mp.atI at e1
      obtain ⟨j, _, e3⟩ := Option.bind_eq_some_iff.mp e1
      have hm := List.mem_of_getElem? e3
      refine okT_sub oz (fun c' hc' => ?_) (List.length_pos_of_mem hm)
      have : c' = c := by simpa using hc'
      subst this
      exact hm⟩⟩ hs
  · rename_i t kvs k
    split at g
    · rename_i hk
      obtain ⟨a, o, rfl, dg, ho⟩ := dget_of hk cd ce
      rcases ho with ⟨d', v', e1, e2, r'⟩ | ⟨e1, e2⟩
      · rw [e1] at g; cases g
        subst e2
        exact ix_dict hu value slice pins s σ H _ _ v u Q I rx ry ⟨a, v', rfl, dg, q _ r'⟩ hs
      · rw [e1] at g; cases g
    · cases g
  · obtain ⟨a, rfl, ha⟩ := cn_scr cd
    cases (show y = .int _ from ce)
    obtain ⟨c, e1, e2⟩ := Option.map_eq_some_iff.mp g
    subst e2
    refine ix_list value slice pins s σ H _ _ v u Q I rx ry ⟨a, _, _, .int c, rfl, rfl, ha, ?_, q _ rfl⟩ hs
    unfold L2.atI
    unfold Mp.atI at e1
    obtain ⟨j, e3, e4⟩ := Option.bind_eq_some_iff.mp e1
    rw [List.length_map, ← ixN_eq, e3, Option.bind_some, List.getElem?_map, e4]
    rfl
  · obtain ⟨a, vs, rfl, ha, ra⟩ := cd
    cases (show y = .int _ from ce)
    obtain ⟨w, e1, rw'⟩ := ra.atI g
    exact ix_tup value slice pins s σ H _ _ v u Q I rx ry ⟨a, vs, _, w, rfl, rfl, .inr ha, e1, q _ rw'⟩ hs
  · cases g
end
end Mp

set_option linter.all false
set_option autoImplicit false
set_option maxRecDepth 100000
set_option maxHeartbeats 1000000
/-! Mp7: slices, built-ins by values. -/
namespace Mp
open PySem PySem.Spec PyProof.Rows L2

/-! ### slices -/
theorem clip_eq (n d : Nat) (o : Option Int) : clip n d o = HT.sIx n d o := by cases o <;> rfl
theorem cut_le {α : Type} (xs : List α) (lo hi : Option Int) : (cut xs lo hi).length ≤ xs.length := by
  unfold cut
  rw [List.length_take, List.length_drop]
  omega
theorem cut_sub {α : Type} {xs : List α} {lo hi : Option Int} {c : α} (h : c ∈ cut xs lo hi) : c ∈ xs := List.mem_of_mem_drop (List.mem_of_mem_take h)
section
variable {K : PySem.W.Frag} {F : Addr → Prop} {θ : List Addr} {H : Hp}
theorem VRs.cut {xs : List D} {vs : List V} (lo hi : Option Int) (h : VRs K F θ H xs vs) : VRs K F θ H (Mp.cut xs lo hi) (cutV vs lo hi) := by
  unfold Mp.cut cutV
  rw [clip_eq, clip_eq, h.length]
  exact (h.drop _).take _
theorem cut_whole {xs : List D} {n : Nat} (hn : xs.length = n) {lo hi : Option Int} (h : HT.sIx n 0 lo = 0 ∧ HT.sIx n n hi = n) : Mp.cut xs lo hi = xs := by
  unfold Mp.cut
  rw [clip_eq, clip_eq, hn, h.1, h.2, List.drop_zero, Nat.sub_zero, ← hn, List.take_length]
end
def rSlc (K : PySem.W.Frag) : V → Option Int → Option Int → Hp → VK → Prop := fun x lo hi H Q => ∃ F θ d r, Cn K F θ H d x ∧ slcD lo hi d = some r ∧ ∀ w H', New K F θ H r w H' → Q w H'
section
variable {X : Cx}
theorem oSlc : SlR X (rSlc X.K) := by
  intro pins s σ H x v vl vu lo hi sl Q I rx hs pl pu ⟨F, θ, d, r, cd, g, q⟩
  unfold slcD at g
  split at g
  · cases g
    obtain ⟨a, vs, rfl, ha, ra⟩ := cd
    exact sl_list pins s σ H _ v vl vu lo hi sl Q I rx hs pl pu ⟨a, vs, rfl, SqL.of ha, fun p hp => q _ _ ⟨p, _, rfl, hp, rfl, ra.cut lo hi⟩⟩
  · cases g
    have cd' := cd
    obtain ⟨a, vs, rfl, ha, ra⟩ := cn_tup cd
    refine sl_tupA pins s σ H _ v vl vu lo hi sl Q I rx hs pl pu ⟨a, vs, rfl, ha, fun z => ?_, fun _ p hp => q _ _ (.inr ⟨p, _, rfl, hp, rfl, ra.cut lo hi⟩)⟩
    refine q _ _ (.inl ⟨rfl, ?_⟩)
    rw [cut_whole ra.length z]
    exact cd'
  · rename_i z
    cases g
    obtain ⟨rfl, oz⟩ := cn_str cd
    refine sl_str pins s σ H _ v vl vu lo hi sl Q I rx hs pl pu ⟨tS z, rfl, by rw [tS_len, sizeLine_eq]; exact (okT_iff.mp oz).2, q _ _ ⟨rfl, ?_, okT_sub oz (fun c hc => cut_sub hc) (cut_le _ _ _)⟩⟩
    show V.str (cutS (tS z) lo hi) = V.str (tS (Mp.cut z lo hi))
    unfold cutS Mp.cut
    rw [tS_list, tS_len, clip_eq, clip_eq]
  · cases g
end

theorem fm_congr {α β : Type} {f g : α → Option β} : ∀ (l : List α), (∀ x ∈ l, f x = g x) → l.filterMap f = l.filterMap g
  | [], _ => rfl
  | x :: r, h => by
    have e := fm_congr r fun y hy => h y (List.mem_cons_of_mem _ hy)
    simp only [List.filterMap_cons, h x (List.mem_cons_self ..), e]
/-! ### [::-1] -/
section
variable {prog : Program} {w : World} {A : Around} {E : Value → Shared → Prop} {s : Shared}
theorem sliceApplied_rev {sl : Addr} {vl vu vs : Value} {n : Nat} {Q : Int × Int × Nat → Shared → Prop} (hs : s.heap.IsSliceOf sl vl vu vs) (pl : IsPart vl none) (pu : IsPart vu none) (ps : IsPart vs (some (-1)))
    (h : Q ((n : Int) - 1, -1, n) s) : wpAny (model prog w) A (Builtin.Slice.sliceApplied (.ref sl) (pure (n : Int))) Q E s := by
  obtain ⟨os, hos, hcs, hds⟩ := id hs
  unfold Builtin.Slice.sliceApplied Builtin.Slice.sliceFields
  refine wpAny_bind (wpAny_bind (wpAny_field hos hds (x := vl) rfl (wpAny_bind (wpAny_field hos hds (x := vu) rfl (wpAny_bind (wpAny_field hos hds (x := vs) rfl (wpAny_pure ?_)))))))
  refine wpAny_bind (HT.slicePart_ ps ?_)
  show wpAny _ _ (if ((-1 : Int) == 0) = true then _ else _) _ _ s
  rw [if_neg (by decide)]
  refine wpAny_bind (HT.slicePart_ pl (wpAny_bind (HT.slicePart_ pu (wpAny_bind (wpAny_pure ?_)))))
  show wpAny _ _ (pure ((n : Int) - 1, (-1 : Int), Builtin.Slice.slicePlaces ((n : Int) - 1) (-1) (-1))) _ _ s
  have e : Builtin.Slice.slicePlaces ((n : Int) - 1) (-1) (-1) = n := by
    unfold Builtin.Slice.slicePlaces
    rw [if_neg (by decide)]
    have e1 : -(-1 : Int) = 1 := rfl
    rw [e1, Int.ediv_one]
    split <;> omega
  rw [e]
  exact wpAny_pure h
theorem getItem_tuple_rev {t sl : Addr} {items : Array Value} {vl vu vs : Value} {Q : Value → Shared → Prop} (ht : IsTup s.heap t items) (hs : s.heap.IsSliceOf sl vl vu vs) (pl : IsPart vl none) (pu : IsPart vu none) (ps : IsPart vs (some (-1)))
    (h : Q (.ref s.heap.objs.size) { s with heap := s.heap.push { cls := .type "tuple", data := .seq items.toList.reverse.toArray } })
    (hsz : items.size ≤ sizeLine) : wpAny (model prog w) A (getItem (.ref t) (.ref sl)) Q E s := by
  have htake : sizeOk (.seq items.toList.reverse.toArray) := by
    show items.toList.reverse.toArray.size ≤ sizeLine
    rw [List.size_toArray, List.length_reverse, Array.length_toList]
    exact hsz
  obtain ⟨os, hos, hcs, hds⟩ := id hs
  have hTs : s.TypeIs (.ref sl) "slice" := ⟨os, hos, hcs⟩
  unfold getItem
  try with_reducible refine wpAny_holding ?_
  first | refine wpAny_bind (wpAny_pure ?_) | skip
  refine wpAny_bind (wpAny_sequenceKey ht.typeIs (by decide) ?_)
  refine wpAny_bind (wpAny_callSpecial?_slot (name := PySem.Str.ofString "__getitem__") ht.typeIs PyProof.Rows.slot_tuple_getitem
    (wpAny_call_entry PyProof.Rows.slot_tuple_getitem ht.typeIs entry_tuple_getitem ?_ (args_tuple_getitem _ _)))
  show wpAny _ _ (Builtin.Tuple.tupleItemsOf (.ref t) >>= _) _ _ s
  refine wpAny_bind (tupleItemsOf_ ht ?_)
  refine wpAny_bind (wpAny_typeOf hTs ?_)
  rw [if_pos (by decide)]
  refine wpAny_bind (sliceApplied_rev hs pl pu ps ?_)
  show wpAny _ _ (if (((items.size : Int) - 1) == 0 && (-1 : Int) == 1 && items.size == items.size) = true then _ else _) _ _ s
  have hno : ¬ ((((items.size : Int) - 1) == 0 && (-1 : Int) == 1 && items.size == items.size) = true) := by
    intro q
    rw [Bool.and_eq_true, Bool.and_eq_true] at q
    exact absurd q.1.2 (by decide)
  have hp : ((List.range items.size).filterMap fun (m : Nat) => items[(((items.size : Int) - 1) + (m : Int) * (-1)).toNat]?).toArray = items.toList.reverse.toArray := by
    have e1 : (List.range items.size).filterMap (fun (m : Nat) => items[(((items.size : Int) - 1) + (m : Int) * (-1)).toNat]?) = ((List.range items.size).map fun k => items.size - 1 - k).filterMap (items[·]?) := by
      rw [List.filterMap_map]
      refine fm_congr _ fun m hm => ?_
      have hm' : m < items.size := List.mem_range.mp hm
      have : (((items.size : Int) - 1) + (m : Int) * (-1)).toNat = items.size - 1 - m := by omega
      rw [this]
      rfl
    rw [e1, PySem.W.krv_range, List.filterMap_reverse, PySem.W.krv_all]
  rw [if_neg hno, hp]
  first
    | exact wpAny_bind (m := Builtin.Tuple.tupleExact _) (wpAny_newObj_type (wpAny_pure ⟨_, rfl, wpAny_pure h⟩) htake)
    | exact wpAny_bind (m := Builtin.Tuple.tupleExact _) (wpAny_newObj_type (wpAny_bind (wpAny_pure (wpAny_pure ⟨_, rfl, wpAny_pure h⟩))) htake)
    | exact wpAny_bind (wpAny_bind (m := Builtin.Tuple.tupleExact _) (wpAny_newObj_type (wpAny_pure (wpAny_pure ⟨_, rfl, wpAny_pure h⟩)) htake))
    | exact wpAny_bind (wpAny_bind (m := Builtin.Tuple.tupleExact _) (wpAny_newObj_type (wpAny_pure ⟨_, rfl, wpAny_pure h⟩) htake))
end
def tRev (K : PySem.W.Frag) (te : TE) : TE := fun σ H Q => te σ H fun x H1 => ∃ F θ d r, Cn K F θ H1 d x ∧ revD d = some r ∧ ∀ w H', New K F θ H1 r w H' → Q w H'
theorem peRev {X : Cx} {e : Expr} {te : TE} {k : Nat} {p1 p2 p3 pos : Pos} (he : PE X e te) : PE X (.Subscript e (.Slice none none (some (.UnaryOp .USub (.Constant (.int 1) k p1) p2)) p3) pos) (tRev X.K te) := by
  refine ⟨fun pins s σ H Q I h => ?_⟩
  refine Subscript_ (thn (he.run pins s σ H _ I h) fun v s1 ⟨x, H1, I1, r1, q1⟩ => ?_)
  obtain ⟨F, θ, d, r, cd, g, q⟩ := q1
  have hst : PO X (some (.UnaryOp .USub (.Constant (.int 1) k p1) p2)) (tPart (tUn (rU fun i => .int (-i)) (tC (.int 1)))) := po_some (pe_un un_neg pe_int)
  refine wpAny_Slice (thn (po_none.run pins s1 σ H1 (fun o H2 => o = none ∧ H2 = H1) I1 ⟨rfl, rfl⟩) fun vl s2 ⟨l, H2, I2, pl, el, e2⟩ => ?_)
  subst el e2
  refine thn (po_none.run pins s2 σ H2 (fun o H3 => o = none ∧ H3 = H2) I2 ⟨rfl, rfl⟩) fun vu s3 ⟨u, H3, I3, pu, eu, e3⟩ => ?_
  subst eu e3
  refine thn (hst.run pins s3 σ H3 (fun o H4 => o = some (-1) ∧ H4 = H3) I3 ⟨1, rfl, -1, rfl, rfl, rfl⟩) fun vs s4 ⟨o, H4, I4, ps, eo, e4⟩ => ?_
  subst eo e4
  have I5 : Inv X pins σ H4 { s4 with heap := s4.heap.push { cls := .type "slice", data := .fields #[vl, vu, vs] } } := I4.kept (t' := s4.toks) fun b ob q => Heap.get?_push_of_some _ q
  unfold revD at g
  split at g
  · cases g
    obtain ⟨a, xs, rfl, hx, rx⟩ := cd
    cases r1
    obtain ⟨its, r, ht, hz⟩ := I5.list (SqL.of hx)
    have hlen := r.length
    show wpAny (model X.prog X.w) X.A (subscriptTail e (.Slice none none (some (.UnaryOp .USub (.Constant (.int 1) k p1) p2)) p3) (.ref a) (.ref s4.heap.objs.size)) (EP X pins σ Q) X.xe { s4 with heap := s4.heap.push { cls := .type "slice", data := .fields #[vl, vu, vs] } }
    refine tail_any (ops := [.ref a, .ref s4.heap.objs.size]) ht.isList.typeIs (PySem.slot_list_getitem.lookup) ?_ (by with_unfolding_all rfl)
    refine wpAny_getItem_list_slice ht.isList (Heap.IsSliceOf.new _ vl vu vs) pl pu ps (by decide) ?_ (by rw [List.size_toArray]; omega)
    rw [PySem.W.krv_pick]
    refine ⟨.ref _, _, I5.laid (t' := s4.toks) (o := .lst xs.reverse) (fun b ob q => Heap.get?_push_of_some _ q) (Nat.le_refl _) ?_, rfl, q _ _ ⟨_, _, rfl, I5.hok.fresh (Nat.le_refl _), rfl, rx.reverse⟩⟩
    exact ⟨by rw [List.length_reverse]; exact hz, _, 0, r.reverse, Heap.get?_push_size _ rfl⟩
  · cases g
    obtain ⟨a, xs, rfl, hx, rx⟩ := cn_tup cd
    cases r1
    obtain ⟨its, r, ht, hz⟩ := I5.tuple hx
    have hlen := r.length
    show wpAny (model X.prog X.w) X.A (subscriptTail e (.Slice none none (some (.UnaryOp .USub (.Constant (.int 1) k p1) p2)) p3) (.ref a) (.ref s4.heap.objs.size)) (EP X pins σ Q) X.xe { s4 with heap := s4.heap.push { cls := .type "slice", data := .fields #[vl, vu, vs] } }
    refine tail_any (ops := [.ref a, .ref s4.heap.objs.size]) ht.typeIs PyProof.Rows.slot_tuple_getitem.lookup ?_ (by with_unfolding_all rfl)
    refine getItem_tuple_rev ht (Heap.IsSliceOf.new _ vl vu vs) pl pu ps ?_ (by rw [List.size_toArray]; omega)
    refine ⟨.ref _, _, I5.laid (t' := s4.toks) (o := .tup xs.reverse) (fun b ob q => Heap.get?_push_of_some _ q) (Nat.le_refl _) ?_, rfl, q _ _ (.inr ⟨_, _, rfl, I5.hok.fresh (Nat.le_refl _), rfl, rx.reverse⟩)⟩
    exact ⟨by rw [List.length_reverse]; exact hz, _, r.reverse, by rw [List.toList_toArray]; exact IsTup.new _ _⟩
  · cases g
end Mp

set_option linter.all false
set_option autoImplicit false
set_option maxRecDepth 100000
set_option maxHeartbeats 1000000
/-! Mp8: built-ins called, by values. -/
namespace Mp
open PySem PySem.Spec PyProof.Rows L2

section
variable {K : PySem.W.Frag} {F : Addr → Prop} {θ : List Addr} {H : Hp}
theorem bools_val : ∀ {xs : List D} {vs : List V} {bs : List Bool}, boolsO xs = some bs → VRs K F θ H xs vs → vs = bs.map V.bl
  | [], vs, bs, e, h => by cases e; simp only [VRs] at h; exact h
  | d :: r, vs, bs, e, h => by
    cases d <;> simp only [boolsO] at e <;> first | (cases e; done) | skip
    obtain ⟨c, e1, e⟩ := Option.map_eq_some_iff.mp e
    subst e
    simp only [VRs] at h
    obtain ⟨v, q, rfl, h1, h2⟩ := h
    rw [bools_val e1 h2]
    cases (show v = .bl _ from h1)
    rfl
theorem ints_val : ∀ {xs : List D} {vs : List V} {bs : List Int}, intsO xs = some bs → VRs K F θ H xs vs → vs = bs.map V.int
  | [], vs, bs, e, h => by cases e; simp only [VRs] at h; exact h
  | d :: r, vs, bs, e, h => by
    cases d <;> simp only [intsO] at e <;> first | (cases e; done) | skip
    obtain ⟨c, e1, e⟩ := Option.map_eq_some_iff.mp e
    subst e
    simp only [VRs] at h
    obtain ⟨v, q, rfl, h1, h2⟩ := h
    rw [ints_val e1 h2]
    cases (show v = .int _ from h1)
    rfl
theorem strs_val : ∀ {xs : List D} {vs : List V} {bs : List T}, strsO xs = some bs → VRs K F θ H xs vs → vs = (bs.map tS).map V.str ∧ ∀ t ∈ bs, okT t = true
  | [], vs, bs, e, h => by cases e; simp only [VRs] at h; exact ⟨h, fun _ z => nomatch z⟩
  | d :: r, vs, bs, e, h => by
    cases d <;> simp only [strsO] at e <;> first | (cases e; done) | skip
    obtain ⟨c, e1, e⟩ := Option.map_eq_some_iff.mp e
    subst e
    simp only [VRs] at h
    obtain ⟨v, q, rfl, h1, h2⟩ := h
    obtain ⟨a, b⟩ := strs_val e1 h2
    rw [a]
    obtain ⟨z1, z2⟩ := (show v = .str (tS _) ∧ okT _ = true from h1)
    subst z1
    refine ⟨rfl, fun t ht => ?_⟩
    rcases List.mem_cons.mp ht with rfl | ht
    · exact z2
    · exact b t ht
end
section
variable {X : Cx}
theorem cLen : CallR X (.builtin "len") (rD1 X.K lenD) := by
  intro pins s σ H xs us Q I r hh
  obtain ⟨x, F, θ, d, rr, rfl, cd, g, q⟩ := hh
  unfold lenD at g
  split at g
  · cases g
    obtain ⟨a, vs, rfl, ha, ra⟩ := cd
    exact call_len_seq pins s σ H _ us Q I r ⟨a, vs, rfl, .inl (SqL.of ha), q _ _ ⟨rfl, by rw [ra.length]; rfl⟩⟩
  · cases g
    obtain ⟨a, vs, rfl, ha, ra⟩ := cn_tup cd
    exact call_len_seq pins s σ H _ us Q I r ⟨a, vs, rfl, .inr ha, q _ _ ⟨rfl, by rw [ra.length]; rfl⟩⟩
  · cases g
    obtain ⟨rfl, oz⟩ := cn_str cd
    exact call_len_str pins s σ H _ us Q I r ⟨tS _, rfl, by rw [tS_len, sizeLine_eq]; exact (okT_iff.mp oz).2, q _ _ ⟨rfl, by rw [tS_len]; rfl⟩⟩
  · rename_i t kvs
    cases g
    cases t with
    | false =>
      obtain ⟨a, ws, rfl, hq, rr⟩ := cd
      obtain ⟨u, rfl, rx⟩ := vals1 r
      cases rx
      exact d_len I hq fun t s' I' => ⟨.int _, H, I', ⟨_, rfl⟩, q _ _ ⟨rfl, by rw [rr.length]; rfl⟩⟩
    | true =>
      obtain ⟨a, ws, rfl, hq, rr⟩ := cd
      obtain ⟨u, rfl, rx⟩ := vals1 r
      cases rx
      obtain ⟨z, hd, ys, rel, dd⟩ := dt_rd I.hok hq
      have hl : ws.length = ys.length := Paired.length rel
      have hs := sizeLine_eq
      exact call_len_dictH hd dd (by omega) ⟨.int _, H, I.tok _, ⟨_, rfl⟩, q _ _ ⟨rfl, by rw [rr.length, hl]; rfl⟩⟩
  · cases g
    obtain ⟨a, rfl, ha⟩ := cn_scr cd
    exact call_len_seq pins s σ H _ us Q I r ⟨a, _, rfl, .inl ha, q _ _ ⟨rfl, by rw [List.length_map]; rfl⟩⟩
  · cases g
    obtain ⟨a, vs, rfl, ha, ra⟩ := cd
    exact call_len_seq pins s σ H _ us Q I r ⟨a, vs, rfl, .inr (.inr ha), q _ _ ⟨rfl, by rw [ra.length]; rfl⟩⟩
  · cases g
theorem cAll (hc : X.calm = true) : CallR X (.builtin "all") (rD1 X.K allD) := by
  intro pins s σ H xs us Q I r hh
  obtain ⟨x, F, θ, d, rr, rfl, cd, g, q⟩ := hh
  unfold allD at g
  split at g
  · obtain ⟨bs, e, rfl⟩ := Option.map_eq_some_iff.mp g
    obtain ⟨a, vs, rfl, ha, ra⟩ := cd
    have := bools_val e ra
    subst this
    exact cr_all hc pins s σ H _ us Q I r ⟨a, bs, rfl, SqL.of ha, q _ _ ⟨rfl, rfl⟩⟩
  · cases g
theorem cAny (hc : X.calm = true) : CallR X (.builtin "any") (rD1 X.K anyD) := by
  intro pins s σ H xs us Q I r hh
  obtain ⟨x, F, θ, d, rr, rfl, cd, g, q⟩ := hh
  unfold anyD at g
  split at g
  · obtain ⟨bs, e, rfl⟩ := Option.map_eq_some_iff.mp g
    obtain ⟨a, vs, rfl, ha, ra⟩ := cd
    have := bools_val e ra
    subst this
    exact cr_any hc pins s σ H _ us Q I r ⟨a, bs, rfl, SqL.of ha, q _ _ ⟨rfl, rfl⟩⟩
  · cases g
theorem cSum (hc : X.calm = true) : CallR X (.builtin "sum") (rD1 X.K sumD) := by
  intro pins s σ H xs us Q I r hh
  obtain ⟨x, F, θ, d, rr, rfl, cd, g, q⟩ := hh
  unfold sumD at g
  split at g
  · obtain ⟨bs, e, rfl⟩ := Option.map_eq_some_iff.mp g
    obtain ⟨a, vs, rfl, ha, ra⟩ := cd
    have := ints_val e ra
    subst this
    exact cr_sum hc pins s σ H _ us Q I r ⟨a, bs, rfl, SqL.of ha, q _ _ ⟨rfl, rfl⟩⟩
  · cases g
theorem cAbs : CallR X (.builtin "abs") (rD1 X.K absD) := by
  intro pins s σ H xs us Q I r hh
  obtain ⟨x, F, θ, d, rr, rfl, cd, g, q⟩ := hh
  unfold absD at g
  split at g
  · cases g
    cases cn_int cd
    exact call_abs pins s σ H _ us Q I r ⟨_, rfl, q _ _ ⟨rfl, rfl⟩⟩
  · cases g
theorem cInt : CallR X (.type "int") (rD1 X.K intD) := by
  intro pins s σ H xs us Q I r hh
  obtain ⟨x, F, θ, d, rr, rfl, cd, g, q⟩ := hh
  unfold intD at g
  split at g
  · cases g
    cases cn_int cd
    exact call_int1 pins s σ H _ us Q I r (.inl ⟨_, rfl, q _ _ ⟨rfl, rfl⟩⟩)
  · rename_i b
    cases g
    cases cn_bl cd
    exact call_int1 pins s σ H _ us Q I r (.inr ⟨_, rfl, q _ _ ⟨rfl, by cases b <;> rfl⟩⟩)
  · cases g
theorem cStr : CallR X (.type "str") (rD1 X.K strD) := by
  intro pins s σ H xs us Q I r hh
  obtain ⟨x, F, θ, d, rr, rfl, cd, g, q⟩ := hh
  unfold strD at g
  split at g
  · rename_i i
    split at g
    · rename_i hz
      cases g
      cases cn_int cd
      refine call_str_int pins s σ H _ us Q I r ⟨i, rfl, hz, q _ _ ⟨rfl, ?_, ?_⟩⟩
      · show V.str _ = V.str _
        rw [tS_of]
      · refine okS_tS (by rw [tS_of]; exact okS_of _) ?_
        have := int_text_fits hz
        rw [sizeLine_eq] at this
        rw [Array.length_toList]
        exact this
    · cases g
  · cases g
    obtain ⟨rfl, oz⟩ := cn_str cd
    exact SkE.call_str_str pins s σ H _ us Q I r ⟨_, rfl, q _ _ ⟨rfl, rfl, oz⟩⟩
  · cases g
theorem cTup : CallR X (.type "tuple") (rD1 X.K tupD) := by
  intro pins s σ H xs us Q I r hh
  obtain ⟨x, F, θ, d, rr, rfl, cd, g, q⟩ := hh
  unfold tupD at g
  split at g
  · cases g
    obtain ⟨a, vs, rfl, ha, ra⟩ := cd
    exact call_tuple_of pins s σ H _ us Q I r ⟨a, vs, rfl, .inl ⟨SqL.of ha, fun l hl => q _ _ (.inr ⟨l, vs, rfl, hl, rfl, ra⟩)⟩⟩
  · cases g
    have cd' := cd
    obtain ⟨a, vs, rfl, ha, ra⟩ := cn_tup cd
    exact call_tuple_of pins s σ H _ us Q I r ⟨a, vs, rfl, .inr ⟨ha, q _ _ (.inl ⟨rfl, cd'⟩)⟩⟩
  · cases g
theorem cRepr (hg : X.A.guards = some []) (hu : X.A.units + 64 < cLine) : CallR X (.builtin "repr") (rD1 X.K reprD) := by
  intro pins s σ H xs us Q I r hh
  obtain ⟨x, F, θ, d, rr, rfl, cd, g, q⟩ := hh
  unfold reprD at g
  split at g
  · rename_i hp
    cases g
    simp only [Bool.and_eq_true, decide_eq_true_eq] at hp
    obtain ⟨⟨hp, hs⟩, hz⟩ := hp
    obtain ⟨u, rfl, rx⟩ := vals1 r
    obtain ⟨dp, lay, dep⟩ := cn_dp hp cd
    obtain ⟨as, rd⟩ := Dp.reads I (toPy d) x u dp rx
    have hd : (toPy d).hasDict = true → sysModules ∉ as := PyData.noDict_hsm (PyData.hasDict_of_canLay _ lay)
    have hz' : (toPy d).shown.length ≤ sizeLine := by rw [sizeLine_eq]; exact hz
    have fin : ∀ (h' : Heap) (u : Tok) (tk : Nat), (∀ b o, s.heap.get? b = some o → h'.get? b = some o) → EP X pins σ Q (.str (toPy d).shown u) { s with heap := h', toks := tk } := fun h' u tk hk => by
      refine ⟨.str (toPy d).shown, H, I.kept hk, ⟨_, rfl⟩, q _ _ ⟨rfl, ?_, ?_⟩⟩
      · show V.str _ = V.str _
        rw [tS_of]
      · refine okS_tS (by rw [tS_of]; exact shown_ok _ lay) ?_
        rw [Array.length_toList]
        exact hz
    have hdeep : deep = 40 := rfl
    have seq : ∀ a, u = .ref a → wpAny (model X.prog X.w) X.A (PySem.call (.builtin "repr") [u]) (EP X pins σ Q) X.xe s := fun a e => by
      subst e
      exact repr_of_reads' rd hs hd hg (by omega) (fun _ _ e => e) fin hz'
    cases d with
    | non =>
      cases cn_non cd
      cases rx
      exact PySem.P.repr_of_none (fin s.heap _ _ fun _ _ e => e)
    | bl b =>
      cases cn_bl cd
      cases rx
      have e1 : (toPy (D.bl b)).shown = ((if b then "True" else "False") : PySem.Str) := by cases b <;> rfl
      rw [e1] at fin
      exact PySem.P.repr_of_bool (fin s.heap _ _ fun _ _ e => e)
    | int i =>
      cases cn_int cd
      obtain ⟨t, rfl⟩ := rx
      exact PySem.P.repr_of_int (by simpa [toPy, PyData.showable] using hs) (fin s.heap _ _ fun _ _ e => e)
    | str z =>
      obtain ⟨rfl, _⟩ := cn_str cd
      obtain ⟨t, rfl⟩ := rx
      exact PySem.P.repr_of_str (fin s.heap _ _ fun _ _ e => e) hz'
    | tup xs =>
      obtain ⟨a, vs, rfl, _⟩ := cn_tup cd
      exact seq a rx
    | lst xs =>
      obtain ⟨a, vs, rfl, _⟩ := cd
      exact seq a rx
    | dct t kvs => simp [pl] at hp
    | obj h => simp [pl] at hp
    | ins c fs => simp [pl] at hp
    | scr ns => simp [pl] at hp
    | kon d => simp [pl] at hp
  · cases g
end
end Mp

set_option linter.all false
set_option autoImplicit false
set_option maxRecDepth 100000
set_option maxHeartbeats 1000000
/-! Mp9: dicts changed; list(), dict(), join, min, max, isinstance by values. -/
namespace Mp
open PySem PySem.Spec PyProof.Rows L2

section
variable {K : PySem.W.Frag} {F : Addr → Prop} {θ : List Addr} {H : Hp}
theorem KR.snoc : ∀ {kvs : List (D × D)} {ws : List (Key × V)} {k d : D} {k' : Key} {v : V}, KR K F θ H kvs ws → keyOf k = some k' → okK k = true → VR K F θ H d v → KR K F θ H (kvs ++ [(k, d)]) (ws ++ [(k', v)])
  | [], ws, k, d, k', v, h, e, o, r => by
    simp only [KR] at h
    subst h
    exact ⟨k', v, [], rfl, ⟨e, o⟩, r, rfl⟩
  | (x, y) :: q, ws, k, d, k', v, h, e, o, r => by
    simp only [KR] at h
    obtain ⟨k1, v1, q1, rfl, e1, h1, h2⟩ := h
    exact ⟨k1, v1, q1 ++ [(k', v)], rfl, e1, h1, KR.snoc h2 e o r⟩
theorem KR.any : ∀ {kvs : List (D × D)} {ws : List (Key × V)} {k : D} {k' : Key}, KR K F θ H kvs ws → keyOf k = some k' → (kvs.any fun kv => eqD kv.1 k) = ws.any fun kv => decide (kv.1 = k')
  | [], ws, k, k', h, e => by
    simp only [KR] at h
    subst h
    rfl
  | (x, y) :: q, ws, k, k', h, e => by
    simp only [KR] at h
    obtain ⟨k1, v1, q1, rfl, e1, h1, h2⟩ := h
    simp only [List.any_cons, keyOf_eq e1.1 e, KR.any h2 e]
theorem KR.repl : ∀ {kvs : List (D × D)} {ws : List (Key × V)} {k d : D} {k' : Key} {v : V}, KR K F θ H kvs ws → keyOf k = some k' → VR K F θ H d v →
    KR K F θ H (kvs.map fun kv => if eqD kv.1 k = true then (kv.1, d) else kv) (ws.map fun kv => if kv.1 = k' then (kv.1, v) else kv)
  | [], ws, k, d, k', v, h, e, r => by
    simp only [KR] at h
    subst h
    exact rfl
  | (x, y) :: q, ws, k, d, k', v, h, e, r => by
    simp only [KR] at h
    obtain ⟨k1, v1, q1, rfl, e1, h1, h2⟩ := h
    have ih := KR.repl h2 e r
    simp only [List.map_cons]
    by_cases z : k1 = k'
    · have : eqD x k = true := by rw [keyOf_eq e1.1 e]; exact decide_eq_true z
      rw [if_pos this, if_pos z]
      exact ⟨k1, v, _, rfl, e1, r, ih⟩
    · have : ¬ eqD x k = true := by rw [keyOf_eq e1.1 e, decide_eq_false z]; exact Bool.false_ne_true
      rw [if_neg this, if_neg z]
      exact ⟨k1, v1, _, rfl, e1, h1, ih⟩
theorem KR.put {kvs : List (D × D)} {ws : List (Key × V)} {k d : D} {k' : Key} {v : V} (h : KR K F θ H kvs ws) (e : keyOf k = some k') (o : okK k = true) (r : VR K F θ H d v) : KR K F θ H (Mp.putK kvs k d) (L2.putK ws k' v) := by
  unfold Mp.putK L2.putK
  rw [h.any e]
  split
  · exact h.repl e r
  · exact h.snoc e o r
theorem TR.snoc : ∀ {kvs : List (D × D)} {ws : List (List Key × V)} {k d : D} {k' : List Key} {v : V}, TR K F θ H kvs ws → tkeyOf k = some k' → okK k = true → VR K F θ H d v → TR K F θ H (kvs ++ [(k, d)]) (ws ++ [(k', v)])
  | [], ws, k, d, k', v, h, e, o, r => by
    simp only [TR] at h
    subst h
    exact ⟨k', v, [], rfl, ⟨e, o⟩, r, rfl⟩
  | (x, y) :: q, ws, k, d, k', v, h, e, o, r => by
    simp only [TR] at h
    obtain ⟨k1, v1, q1, rfl, e1, h1, h2⟩ := h
    exact ⟨k1, v1, q1 ++ [(k', v)], rfl, e1, h1, TR.snoc h2 e o r⟩
theorem TR.any : ∀ {kvs : List (D × D)} {ws : List (List Key × V)} {k : D} {k' : List Key}, TR K F θ H kvs ws → tkeyOf k = some k' → (kvs.any fun kv => eqD kv.1 k) = ws.any fun kv => decide (kv.1 = k')
  | [], ws, k, k', h, e => by
    simp only [TR] at h
    subst h
    rfl
  | (x, y) :: q, ws, k, k', h, e => by
    simp only [TR] at h
    obtain ⟨k1, v1, q1, rfl, e1, h1, h2⟩ := h
    simp only [List.any_cons, tkeyOf_eq e1.1 e, TR.any h2 e]
theorem TR.repl : ∀ {kvs : List (D × D)} {ws : List (List Key × V)} {k d : D} {k' : List Key} {v : V}, TR K F θ H kvs ws → tkeyOf k = some k' → VR K F θ H d v →
    TR K F θ H (kvs.map fun kv => if eqD kv.1 k = true then (kv.1, d) else kv) (ws.map fun kv => if kv.1 = k' then (kv.1, v) else kv)
  | [], ws, k, d, k', v, h, e, r => by
    simp only [TR] at h
    subst h
    exact rfl
  | (x, y) :: q, ws, k, d, k', v, h, e, r => by
    simp only [TR] at h
    obtain ⟨k1, v1, q1, rfl, e1, h1, h2⟩ := h
    have ih := TR.repl h2 e r
    simp only [List.map_cons]
    by_cases z : k1 = k'
    · have : eqD x k = true := by rw [tkeyOf_eq e1.1 e]; exact decide_eq_true z
      rw [if_pos this, if_pos z]
      exact ⟨k1, v, _, rfl, e1, r, ih⟩
    · have : ¬ eqD x k = true := by rw [tkeyOf_eq e1.1 e, decide_eq_false z]; exact Bool.false_ne_true
      rw [if_neg this, if_neg z]
      exact ⟨k1, v1, _, rfl, e1, h1, ih⟩
theorem TR.put {kvs : List (D × D)} {ws : List (List Key × V)} {k d : D} {k' : List Key} {v : V} (h : TR K F θ H kvs ws) (e : tkeyOf k = some k') (o : okK k = true) (r : VR K F θ H d v) : TR K F θ H (Mp.putK kvs k d) (L2.putK ws k' v) := by
  unfold Mp.putK L2.putK
  rw [h.any e]
  split
  · exact h.repl e r
  · exact h.snoc e o r
/-- pairs of keys and values as tuples -/
theorem pairs_val : ∀ {xs : List D} {vs : List V} {ps : List (D × D)}, pairsO xs = some ps → (ps.all fun p => isKey false p.1) = true → VRs K F θ H xs vs →
    ∃ (as : List Addr) (kvs : List (Key × V)), vs = as.map V.ref ∧ Paired (fun p kv => SqT K H p [kV kv.1, kv.2]) as kvs ∧ KR K F θ H ps kvs
  | [], vs, ps, e, _, h => by
    cases e
    simp only [VRs] at h
    exact ⟨[], [], h, .nil, rfl⟩
  | d :: r, vs, ps, e, hk, h => by
    unfold pairsO at e
    split at e
    · rename_i heq
      cases heq
    · rename_i k v r' heq
      cases heq
      obtain ⟨qs, e1, e2⟩ := Option.map_eq_some_iff.mp e
      subst e2
      rw [List.all_cons, Bool.and_eq_true] at hk
      simp only [VRs] at h
      obtain ⟨x, q, rfl, h1, h2⟩ := h
      obtain ⟨as, kvs, rfl, hp, hr⟩ := pairs_val e1 hk.2 h2
      simp only [VR, VRs] at h1
      obtain ⟨a, ws, rfl, ha, _, _, kv, w1, rfl, hkv, vv, w2, rfl, hvv, rfl⟩ := h1
      obtain ⟨k', e3, rfl, o⟩ := key_val hk.1 hkv
      exact ⟨a :: as, (k', vv) :: kvs, rfl, .cons (SqT.of ha) hp, ⟨k', vv, kvs, rfl, ⟨e3, o⟩, hvv, hr⟩⟩
    · cases e
theorem KR.merge : ∀ {ps : List (D × D)} {qs : List (Key × V)} {kvs : List (D × D)} {ws : List (Key × V)}, KR K F θ H ps qs → KR K F θ H kvs ws → KR K F θ H (Mp.mergeK kvs ps) (L2.mergeK ws qs)
  | [], qs, kvs, ws, h, hk => by
    simp only [KR] at h
    subst h
    exact hk
  | (k, d) :: r, qs, kvs, ws, h, hk => by
    simp only [KR] at h
    obtain ⟨k', v, q, rfl, e, h1, h2⟩ := h
    show KR K F θ H (Mp.mergeK (Mp.putK kvs k d) r) (L2.mergeK (L2.putK ws k' v) q)
    exact KR.merge h2 (hk.put e.1 e.2 h1)
/-- a dict's keys as values -/
theorem KR.keys : ∀ {kvs : List (D × D)} {ws : List (Key × V)}, KR K F θ H kvs ws → VRs K F θ H (kvs.map (·.1)) (ws.map fun kv => kV kv.1)
  | [], ws, h => by
    simp only [KR] at h
    subst h
    exact rfl
  | (k, d) :: r, ws, h => by
    simp only [KR] at h
    obtain ⟨k', v, q, rfl, ⟨e, o⟩, h1, h2⟩ := h
    refine ⟨kV k', q.map fun kv => kV kv.1, rfl, ?_, KR.keys h2⟩
    cases k <;> simp only [keyOf] at e <;> first | (cases e; done) | skip
    · cases e; exact rfl
    · cases e; exact ⟨rfl, o⟩
end

section
variable {X : Cx}
theorem list_dK (hc : X.calm = true) : CallR X (.type "list") (fun xs H Q => ∃ p kvs, xs = [.ref p] ∧ Rd H p (.dK kvs) ∧ ∀ q, H q = none → Q (.ref q) (upd H q (.lst (kvs.map fun kv => kV kv.1)))) := by
  intro pins s σ H xs us Q I r h
  obtain ⟨p, kvs, e, hk, q⟩ := h
  subst e
  obtain ⟨u, eu, rx⟩ := vals1 r
  subst eu
  obtain rfl : u = Value.ref p := rx
  obtain ⟨z, lo, vs, rk, hd⟩ := dk_rd I.hok hk
  obtain ⟨ep, hat⟩ := hd.dictAt
  have hl : kvs.length = vs.length := Paired.length rk
  refine PySem.W.kdl_call (PySem.W.kdl_dict (knd := mixKind X.prog X.w) (kvs := vs) (ep := ep) lo) (I.ok.hd hc) hat (by rw [← hl]; exact z) fun h' tk acc' c' hkeep hS hacc => ?_
  refine ⟨.ref s.heap.objs.size, upd H s.heap.objs.size (.lst (kvs.map fun kv => kV kv.1)), I.laid hkeep (Nat.le_refl _) (show ObjOk X.prog X.w _ _ _ (.lst (kvs.map fun kv => kV kv.1)) from ⟨?_, acc'.toList, c', ?_, ?_⟩), rfl, q _ (I.hok.fresh (Nat.le_refl _))⟩
  · rw [List.length_map]; exact z
  · have el : acc'.toList.length = acc'.size := by simp
    refine vals_of_at (by rw [List.length_map, el, hacc.1, hl]) fun j x w h1 h2 => ?_
    obtain ⟨k, y, hky, hi⟩ := hacc.2 j w (by rw [← Array.getElem?_toList]; exact h2)
    have e1 : (kvs.map (·.1))[j]? = some k := by
      rw [KV.keys rk, List.getElem?_map, hky] <;> rfl
    have e2 : (kvs.map fun kv => kV kv.1)[j]? = some (kV k) := by
      have e3 : (kvs.map fun kv => kV kv.1) = (kvs.map (·.1)).map kV := by rw [List.map_map] <;> rfl
      rw [e3, List.getElem?_map, e1] <;> rfl
    rw [e2] at h1
    cases h1
    exact keyIs_rel hi
  · rw [Array.toArray_toList]; exact hS
/-- list(x) -/
theorem cList (hc : X.calm = true) : CallR X (.type "list") (rD1 X.K fun d => match d with | .dct true _ => none | d => lstD d) := by
  intro pins s σ H xs us Q I r hh
  obtain ⟨x, F, θ, d, rr, rfl, cd, g, q⟩ := hh
  cases d with
  | lst xs =>
    cases g
    obtain ⟨a, vs, rfl, ha, ra⟩ := cd
    exact call_list_of pins s σ H _ us Q I r ⟨a, vs, rfl, .inl (SqL.of ha), fun l hl => q _ _ ⟨l, vs, rfl, hl, rfl, ra⟩⟩
  | tup xs =>
    cases g
    obtain ⟨a, vs, rfl, ha, ra⟩ := cn_tup cd
    exact call_list_of pins s σ H _ us Q I r ⟨a, vs, rfl, .inr ha, fun l hl => q _ _ ⟨l, vs, rfl, hl, rfl, ra⟩⟩
  | dct t kvs =>
    cases t with
    | true => cases g
    | false =>
      cases g
      obtain ⟨a, ws, rfl, hq, rr⟩ := cd
      exact list_dK hc pins s σ H _ _ Q I r ⟨a, ws, rfl, hq, fun l hl => q _ _ ⟨l, _, rfl, hl, rfl, rr.keys⟩⟩
  | _ => cases g
theorem cDict (hc : X.calm = true) : CallR X (.type "dict") (rD1 X.K fun d => match d with | .dct true _ => none | d => dctD d) := by
  intro pins s σ H xs us Q I r hh
  obtain ⟨x, F, θ, d, rr, rfl, cd, g, q⟩ := hh
  cases d with
  | lst xs =>
    simp only [dctD] at g
    obtain ⟨ps, e1, g⟩ := Option.bind_eq_some_iff.mp g
    split at g
    · rename_i hk
      cases g
      obtain ⟨a, vs, rfl, ha, ra⟩ := cd
      obtain ⟨as, kvs, rfl, hp, hr⟩ := pairs_val e1 hk ra
      refine call_dictP hc pins s σ H _ us Q I r ⟨a, as, kvs, rfl, SqL.of ha, hp, fun p hp => q _ _ ⟨p, .dK _, rfl, hp, rfl, _, rfl, ?_⟩⟩
      exact KR.merge hr (show KR X.K F θ H [] [] from rfl)
    · cases g
  | dct t kvs =>
    cases t with
    | true => cases g
    | false =>
      cases g
      obtain ⟨a, ws, rfl, hq, rr⟩ := cd
      obtain ⟨u, rfl, rx⟩ := vals1 r
      cases rx
      exact d_copyOf I hq fun p s' hp I' => ⟨.ref p, _, I', rfl, q _ _ ⟨p, .dK ws, rfl, hp, rfl, ws, rfl, rr⟩⟩
  | _ => cases g
theorem cMin (hc : X.calm = true) : CallR X (.builtin "min") (rDD X.K minD) := by
  intro pins s σ H xs us Q I r hh
  obtain ⟨x, y, rfl, F, θ, d, e, rr, cd, ce, g, q⟩ := hh
  unfold minD at g
  split at g
  · cases g
    exact call_min2 hc pins s σ H _ us Q I r ⟨_, _, by rw [cn_int cd, cn_int ce], q _ _ ⟨rfl, rfl⟩⟩
  · cases g
theorem cMax (hc : X.calm = true) : CallR X (.builtin "max") (rDD X.K maxD) := by
  intro pins s σ H xs us Q I r hh
  obtain ⟨x, y, rfl, F, θ, d, e, rr, cd, ce, g, q⟩ := hh
  unfold maxD at g
  split at g
  · cases g
    exact call_max2 hc pins s σ H _ us Q I r ⟨_, _, by rw [cn_int cd, cn_int ce], q _ _ ⟨rfl, rfl⟩⟩
  · cases g

/-! ### join -/
theorem join_val (s : T) : ∀ ts : List T, PySem.Str.join (tS s) (ts.map tS) = tS (joinT s ts)
  | [] => rfl
  | [t] => rfl
  | x :: y :: r => by
    show tS x ++ tS s ++ PySem.Str.join (tS s) ((y :: r).map tS) = tS (x ++ s ++ joinT s (y :: r))
    rw [join_val s (y :: r), tS_app, tS_app]
theorem joinLen_eq (s : T) : ∀ ts : List T, ((ts.map tS).map (·.length)).sum + (ts.map tS).length * (tS s).length = joinLen s ts
  | [] => by simp [joinLen]
  | t :: r => by
    have ih := joinLen_eq s r
    have e1 : (tS t).length = t.length := tS_len t
    have e2 : (tS s).length = s.length := tS_len s
    unfold joinLen at ih ⊢
    simp only [List.map_cons, List.sum_cons, List.length_cons, e1, Nat.add_mul, Nat.one_mul]
    rw [e2] at ih ⊢
    omega
theorem joinT_len (s : T) : ∀ ts : List T, (joinT s ts).length ≤ joinLen s ts
  | [] => Nat.zero_le _
  | [t] => by simp [joinT, joinLen]
  | x :: y :: r => by
    have ih := joinT_len s (y :: r)
    unfold joinLen at ih ⊢
    show (x ++ s ++ joinT s (y :: r)).length ≤ _
    rw [List.length_append, List.length_append]
    rw [List.map_cons, List.sum_cons]
    omega
theorem joinT_ok {s : T} (hs : okT s = true) : ∀ {ts : List T}, (∀ t ∈ ts, okT t = true) → ∀ c ∈ joinT s ts, c < 1114112
  | [], _, c, h => by cases h
  | [t], ht, c, h => (okT_iff.mp (ht t (List.mem_cons_self ..))).1 c h
  | x :: y :: r, ht, c, h => by
    have h' : c ∈ x ++ s ++ joinT s (y :: r) := h
    rcases List.mem_append.mp h' with h | h
    · rcases List.mem_append.mp h with h | h
      · exact (okT_iff.mp (ht x (List.mem_cons_self ..))).1 c h
      · exact (okT_iff.mp hs).1 c h
    · exact joinT_ok hs (fun t hx => ht t (List.mem_cons_of_mem _ hx)) c h
/-- s.join(x) -/
def rJoin (K : PySem.W.Frag) : V → List V → Hp → VK → Prop := fun x xs H Q => ∃ y F θ d e r, xs = [y] ∧ Cn K F θ H d x ∧ Cn K F θ H e y ∧ joinX d e = some r ∧ ∀ w H', New K F θ H r w H' → Q w H'
theorem mJoin : MtR X "str.join" (rJoin X.K) := by
  intro pins s σ H x xs v us Q I rx rs hh
  obtain ⟨y, F, θ, d, e, r, rfl, cd, ce, g, q⟩ := hh
  cases d with
  | str z =>
    obtain ⟨rfl, oz⟩ := cn_str cd
    simp only [joinX] at g
    have fin : ∀ (xs : List D) (vs : List V), (strsO xs).bind (fun ts => if joinLen z ts ≤ line then some (D.str (joinT z ts)) else none) = some r → VRs X.K F θ H xs vs →
        ∃ ts : List T, vs = (ts.map tS).map V.str ∧ joinLen z ts ≤ line ∧ Q (.str (Txt.join (tS z) (ts.map tS))) H := fun xs vs g ra => by
      obtain ⟨ts, e1, g⟩ := Option.bind_eq_some_iff.mp g
      split at g
      · rename_i hl
        cases g
        obtain ⟨ev, ot⟩ := strs_val e1 ra
        refine ⟨ts, ev, hl, ?_⟩
        refine q _ _ ⟨rfl, ?_, ?_⟩
        · show V.str _ = V.str _
          rw [TL.join_eq, join_val]
        · rw [okT_iff]
          exact ⟨joinT_ok oz ot, Nat.le_trans (joinT_len z ts) hl⟩
      · cases g
    unfold joinD at g
    split at g
    · obtain ⟨a, vs, rfl, ha, ra⟩ := ce
      obtain ⟨ts, rfl, hl, hq⟩ := fin _ vs g ra
      exact mt_join pins s σ H _ _ v us Q I rx rs ⟨tS z, a, ts.map tS, rfl, rfl, .inl (SqL.of ha), by rw [joinLen_eq]; exact hl, hq⟩
    · obtain ⟨a, vs, rfl, ha, ra⟩ := cn_tup ce
      obtain ⟨ts, rfl, hl, hq⟩ := fin _ vs g ra
      exact mt_join pins s σ H _ _ v us Q I rx rs ⟨tS z, a, ts.map tS, rfl, rfl, .inr ha, by rw [joinLen_eq]; exact hl, hq⟩
    · cases g
  | _ => cases g

/-! ### isinstance -/
def Ty.nm : Ty → String
  | .int => "int" | .bool => "bool" | .str => "str" | .tuple => "tuple" | .list => "list" | .dict => "dict"
theorem cIsi (t : Ty) : CallR X (.builtin "isinstance") (fun xs H Q => ∃ x F θ d b, xs = [x, .ty t.nm] ∧ Cn X.K F θ H d x ∧ isT t d = some b ∧ Q (.bl b) H) := by
  intro pins s σ H xs us Q I r hh
  obtain ⟨x, F, θ, d, b, rfl, cd, g, q⟩ := hh
  have fin : ∀ (T : String), TyX X.K H x (.type T) → kitB T t.nm = some b → wpAny (model X.prog X.w) X.A (PySem.call (.builtin "isinstance") us) (EP X pins σ Q) X.xe s := fun T ty hb =>
    call_isi pins s σ H _ us Q I r ⟨x, .ty t.nm, .type T, .type t.nm, b, rfl, .ty _, ty, kit_ty hb, q⟩
  cases d with
  | non =>
    cases cn_non cd
    cases g
    refine fin "NoneType" (.base .non) ?_
    cases t <;> decide +kernel
  | bl c =>
    cases cn_bl cd
    cases g
    refine fin "bool" (.base (.bl c)) ?_
    cases t <;> decide +kernel
  | int i =>
    cases cn_int cd
    cases g
    refine fin "int" (.base (.int i)) ?_
    cases t <;> decide +kernel
  | str z =>
    obtain ⟨rfl, _⟩ := cn_str cd
    cases g
    refine fin "str" (.base (.str _)) ?_
    cases t <;> decide +kernel
  | tup xs =>
    have cd' : VR X.K F θ H (.tup xs) x := cd
    simp only [VR] at cd'
    obtain ⟨a, vs, rfl, ha, _⟩ := cd'
    cases g
    refine fin "tuple" (.base (.tup ha)) ?_
    cases t <;> decide +kernel
  | lst xs =>
    obtain ⟨a, vs, rfl, ha, _⟩ := cd
    cases g
    refine fin "list" (.base (.lst ha)) ?_
    cases t <;> decide +kernel
  | scr ns =>
    obtain ⟨a, rfl, ha⟩ := cn_scr cd
    cases g
    have hb : kitB "list" t.nm = some (t == .list) := by cases t <;> decide +kernel
    rcases ha with (ha | ⟨o, ha⟩) | ⟨o, its, n, ha, hc, _⟩
    · exact fin "list" (.base (.lst ha)) hb
    · exact fin "list" (.base (.frz ha)) hb
    · exact fin "list" (.kList ha hc) hb
  | dct k kvs =>
    cases g
    have hb : kitB "dict" t.nm = some (t == .dict) := by cases t <;> decide +kernel
    cases k with
    | false =>
      obtain ⟨a, ws, rfl, ha, _⟩ := cd
      rcases ha with ha | ⟨o, ha⟩
      · exact fin "dict" (.base (.dK ha)) hb
      · exact fin "dict" (.fDict ha) hb
    | true =>
      obtain ⟨a, ws, rfl, ha, _⟩ := cd
      obtain ⟨u1, u2, rfl, r1, r2⟩ := vals2 r
      cases r1
      cases r2
      obtain ⟨_, _, xs, _, o, es, ep, h1, h2, _⟩ := dt_rd I.hok ha
      exact PySem.W.kia_one (K := X.K) PySem.W.kitx_dict I.kIn ⟨o, h1, h2.1⟩ (kit_ty hb) (fun z => nomatch z) fun tk => ⟨.bl _, H, I.tok tk, rfl, q⟩
  | obj h => cases g
  | ins c fs => cases g
  | kon d => cases g
end
end Mp

set_option linter.all false
set_option autoImplicit false
set_option maxRecDepth 100000
set_option maxHeartbeats 1000000
/-! Mp10: the readings of expressions, by the evaluator. -/
namespace Mp
open PySem PySem.Spec PyProof.Rows L2

section
variable (K : PySem.W.Frag) (F : Addr → Prop) (θ : List Addr) (H : Hp)
/-- an operand: a value; an own slot's list or dict; a tuple of the module -/
def AR (d : D) (v : V) : Prop :=
  VR K F θ H d v ∨ (∃ a o, v = .ref a ∧ H a = some o ∧ CR K F θ H d o ∧ F a) ∨ ((∃ xs, d = .kon (.tup xs)) ∧ Cn K F θ H d v)
end
section
variable {K : PySem.W.Frag} {fr : Fr} {F F' : Addr → Prop} {θ θ' : List Addr} {H H' : Hp} {env : Env} {mem mem' : Mem} {σ : L2.St}
theorem kon_mono (k : Fk F θ H F' θ' H') {xs : List D} {v : V} (h : Cn K F θ H (.kon (.tup xs)) v) : Cn K F' θ' H' (.kon (.tup xs)) v := by
  obtain ⟨a, vs, e, q, r⟩ := h
  exact ⟨a, vs, e, q, VRs.mono k xs vs r⟩
theorem AR.step {d : D} {v : V} (h : AR K F θ H d v) (t : Tr θ H θ' H') (m : MS K F θ mem H) : AR K F θ' H' d v := by
  rcases h with h | ⟨a, o, e, h1, h2, h3⟩ | ⟨⟨xs, rfl⟩, h⟩
  · exact .inl (VR.mono t.fk d v h)
  · exact .inr (.inl ⟨a, o, e, t.keep a o h1 (m.Fθ a h3), h2.mono t.fk, h3⟩)
  · exact .inr (.inr ⟨⟨xs, rfl⟩, kon_mono t.fk h⟩)
/-- what an operand holds -/
theorem AR.cn {d d' : D} {v : V} (h : AR K F θ H d v) (m : MS K F θ mem H) (e : vw mem d = some d') : Cn K F θ H d' v := by
  cases d with
  | obj n =>
    rcases h with h | ⟨a, o, _, _, h2, _⟩ | ⟨⟨xs, q⟩, _⟩
    · simp only [VR] at h
      obtain ⟨a, rfl, q⟩ := h
      obtain ⟨b, o, e1, e2, c⟩ := m.at_ n d' e
      rw [q] at e1; cases e1
      exact c.cn e2
    · exact h2.elim
    · cases q
  | kon c =>
    cases e
    rcases h with h | ⟨a, o, _, _, h2, _⟩ | ⟨_, h⟩
    · simp only [VR] at h
    · exact h2.elim
    · exact h
  | lst xs =>
    cases e
    rcases h with h | ⟨a, o, rfl, h1, h2, _⟩ | ⟨⟨xs, q⟩, _⟩
    · exact h.cn
    · exact h2.cn h1
    · cases q
  | dct b xs =>
    cases e
    rcases h with h | ⟨a, o, rfl, h1, h2, _⟩ | ⟨⟨xs, q⟩, _⟩
    · exact h.cn
    · exact h2.cn h1
    · cases q
  | non =>
    cases e
    rcases h with h | ⟨a, o, _, _, h2, _⟩ | ⟨⟨xs, q⟩, _⟩
    · exact h.cn
    · exact h2.elim
    · cases q
  | bl _ =>
    cases e
    rcases h with h | ⟨a, o, _, _, h2, _⟩ | ⟨⟨xs, q⟩, _⟩
    · exact h.cn
    · exact h2.elim
    · cases q
  | int _ =>
    cases e
    rcases h with h | ⟨a, o, _, _, h2, _⟩ | ⟨⟨xs, q⟩, _⟩
    · exact h.cn
    · exact h2.elim
    · cases q
  | str _ =>
    cases e
    rcases h with h | ⟨a, o, _, _, h2, _⟩ | ⟨⟨xs, q⟩, _⟩
    · exact h.cn
    · exact h2.elim
    · cases q
  | tup _ =>
    cases e
    rcases h with h | ⟨a, o, _, _, h2, _⟩ | ⟨⟨xs, q⟩, _⟩
    · exact h.cn
    · exact h2.elim
    · cases q
  | ins _ _ =>
    cases e
    rcases h with h | ⟨a, o, _, _, h2, _⟩ | ⟨⟨xs, q⟩, _⟩
    · exact h.cn
    · exact h2.elim
    · cases q
  | scr _ =>
    cases e
    rcases h with h | ⟨a, o, _, _, h2, _⟩ | ⟨⟨xs, q⟩, _⟩
    · exact h.cn
    · exact h2.elim
    · cases q
/-- with one more own thing, laid since -/
theorem SR.own (s : SR fr F θ env mem σ H) {p : Addr} (t : Tr θ H θ' H') (hp : H p = none) (m : MS fr.K (plus F p) θ' mem' H') : SR fr (plus F p) θ' env mem' σ H' := by
  have k : Fk F θ H (plus F p) θ' H' := ⟨fun a o e f q => by
    obtain ⟨h1, _, h3⟩ := (t.fk (F := F)).keep a o e f q
    exact ⟨h1, fun z => z.elim f (ne_of_none e hp), h3⟩, t.pre⟩
  refine ⟨m, ⟨fun a z => .inl (s.bs.FF a z), s.bs.tr.trans t⟩, s.sl.len, fun i d e => ?_, fun i d e => ?_, s.sl.uni⟩
  · obtain ⟨v, h1, h2⟩ := s.sl.val i d e
    exact ⟨v, h1, VR.mono k d v h2⟩
  · obtain ⟨a, o, h1, h2, h3, h4, h5⟩ := s.sl.own i d e
    exact ⟨a, o, h1, t.keep a o h2 (s.ms.Fθ a h4), h3.mono k, .inl h4, h5⟩
/-- fewer own things -/
theorem MS.less (m : MS K F θ mem H) (h : ∀ a, F' a → F a) : MS K F' θ mem H :=
  m.mono (Fk.less h) (fun _ _ _ e => e) (fun a z => m.Fθ a (h a z)) fun a z => m.Fd a (h a z)
/-- a shared object is made -/
theorem Tr.push {p : Addr} (hp : H p = none) (h1 : H' p ≠ none) (t : Tr θ H θ' H') (m : MS K F θ mem H) : Tr θ H (θ' ++ [p]) H' := by
  refine ⟨fun a o e q => t.keep a o e q, fun h a e => ?_, fun a q => ?_⟩
  · have e' := t.pre h a e
    have hl : h < θ'.length := (List.getElem?_eq_some_iff.mp e').1
    rw [List.getElem?_append_left hl]; exact e'
  · rcases List.mem_append.mp q with q | q
    · exact t.fresh a q
    · have : a = p := by simpa using q
      subst this; exact .inr hp
theorem MS.push {p : Addr} {o : HO} {d : D} (m : MS K (plus F p) θ mem H) (e : H p = some o) (c : CR K (plus F p) θ H d o) (nF : ¬ F p) : MS K F (θ ++ [p]) (mem ++ [d]) H := by
  have np : p ∉ θ := m.Fθ p (.inr rfl)
  have k : Fk (plus F p) θ H F (θ ++ [p]) H := ⟨fun a u h f q => ⟨h, fun z => f (.inl z), fun z => by
    rcases List.mem_append.mp z with z | z
    · exact q z
    · exact f (.inr (by simpa using z))⟩, fun h a e => by
      have hl : h < θ.length := (List.getElem?_eq_some_iff.mp e).1
      rw [List.getElem?_append_left hl]; exact e⟩
  refine ⟨by rw [List.length_append, List.length_append, m.len]; rfl, fun h d' e' => ?_, ?_, fun a z q => ?_, fun a z => m.Fd a (.inl z)⟩
  · by_cases hl : h < mem.length
    · rw [List.getElem?_append_left hl] at e'
      obtain ⟨a, u, h1, h2, h3⟩ := m.at_ h d' e'
      exact ⟨a, u, k.pre h a h1, h2, h3.mono k⟩
    · rw [List.getElem?_append_right (Nat.le_of_not_lt hl)] at e'
      have h0 : h - mem.length = 0 := by
        cases hh : h - mem.length with
        | zero => rfl
        | succ n => rw [hh] at e'; simp at e'
      rw [h0] at e'
      cases e'
      have : h = θ.length := by rw [← m.len]; omega
      exact ⟨p, o, by rw [this, List.getElem?_append_right (Nat.le_refl _), Nat.sub_self]; rfl, e, (c.mono k).ct⟩
  · rw [List.nodup_append]
    exact ⟨m.nd, by simp, fun a ha b hb => by
      have : b = p := by simpa using hb
      subst this
      exact fun z => np (z ▸ ha)⟩
  · rcases List.mem_append.mp q with q | q
    · exact m.Fθ a (.inl z) q
    · have : a = p := by simpa using q
      subst this; exact nF z
end

/-! ### the readings -/
section
variable (fr : Fr)
/-- an expression's: its evaluation comes to a value -/
def tE (ev : Env → Mem → R D) : TE := fun σ H Q => ∃ F θ env mem d mem', SR fr F θ env mem σ H ∧ ev env mem = .ok d mem' ∧
  ∀ θ' v H', Tr θ H θ' H' → MS fr.K F θ' mem' H' → VR fr.K F θ' H' d v → Q v H'
def tA (ev : Env → Mem → R D) : TE := fun σ H Q => ∃ F θ env mem d mem', SR fr F θ env mem σ H ∧ ev env mem = .ok d mem' ∧
  ∀ θ' v H', Tr θ H θ' H' → MS fr.K F θ' mem' H' → AR fr.K F θ' H' d v → Q v H'
def tEs (ev : Env → Mem → R (List D)) : TA := fun σ H Q => ∃ F θ env mem d mem', SR fr F θ env mem σ H ∧ ev env mem = .ok d mem' ∧
  ∀ θ' v H', Tr θ H θ' H' → MS fr.K F θ' mem' H' → VRs fr.K F θ' H' d v → Q v H'
def tO (ev : Env → Mem → R (Option Int))   : L2.St → Hp → (Option Int → Hp → Prop) → Prop := fun σ H Q => ∃ F θ env mem d mem', SR fr F θ env mem σ H ∧ ev env mem = .ok d mem' ∧
  ∀ θ' H', Tr θ H θ' H' → MS fr.K F θ' mem' H' → Q d H'
/-- a test's -/
def tT (ev : Env → Mem → R D) : TT := fun σ H Q => ∃ F θ env mem b mem', SR fr F θ env mem σ H ∧ ev env mem = .ok (.bl b) mem' ∧
  ∀ θ' H', Tr θ H θ' H' → MS fr.K F θ' mem' H' → Q b H'
/-- a new list or dict's -/
def tF (ev : Env → Mem → R D) : TE := fun σ H Q => ∃ F θ env mem d mem', SR fr F θ env mem σ H ∧ ev env mem = .ok d mem' ∧
  ∀ θ' p o H', Tr θ H θ' H' → H p = none → H' p = some o → MS fr.K (plus F p) θ' mem' H' → CR fr.K (plus F p) θ' H' d o → Q (.ref p) H'
end
theorem PE.imp {X : Cx} {e : Expr} {t t' : TE} (h : PE X e t) (hi : ∀ σ H Q, t' σ H Q → t σ H Q) : PE X e t' := ⟨fun pins s σ H Q I q => h.run pins s σ H Q I (hi σ H Q q)⟩
theorem PT.imp {X : Cx} {e : Expr} {t t' : TT} (h : PT X e t) (hi : ∀ σ H Q, t' σ H Q → t σ H Q) : PT X e t' := ⟨fun pins s σ H Q I q => h.run pins s σ H Q I (hi σ H Q q)⟩
theorem PW.imp {X : Cx} {e : Expr} {t t' : TT} (h : PW X e t) (hi : ∀ σ H Q, t' σ H Q → t σ H Q) : PW X e t' := ⟨fun wh pins s σ H Q I q => h.run wh pins s σ H Q I (hi σ H Q q)⟩
theorem PA.imp {X : Cx} {e : List Expr} {t t' : TA} (h : PA X e t) (hi : ∀ σ H Q, t' σ H Q → t σ H Q) : PA X e t' := ⟨fun pos pins s σ H Q I q => h.run pos pins s σ H Q I (hi σ H Q q)⟩
theorem PS.imp {X : Cx} {e : Stmt} {t t' : TS} (h : PS X e t) (hi : ∀ D σ H, t' D σ H → t D σ H) : PS X e t' := ⟨fun pins s σ H D I q => h.run pins s σ H D I (hi D σ H q)⟩
theorem PSs.imp {X : Cx} {e : List Stmt} {t t' : TS} (h : PSs X e t) (hi : ∀ D σ H, t' D σ H → t D σ H) : PSs X e t' := ⟨fun pins s σ H D I q => h.run pins s σ H D I (hi D σ H q)⟩
theorem PG.imp {X : Cx} {e : Expr} {t t' : TG} (h : PG X e t) (hi : ∀ v σ H Q, t' v σ H Q → t v σ H Q) : PG X e t' := ⟨fun pins s σ H v u Q I r q => h.run pins s σ H v u Q I r (hi v σ H Q q)⟩
theorem PI.imp {X : Cx} {tg e : Expr} {t t' : TI} (h : PI X tg e t) (hi : ∀ σ H Q, t' σ H Q → t σ H Q) : PI X tg e t' := ⟨fun pins s σ H Q I q => h.run pins s σ H Q I (hi σ H Q q)⟩

section
variable {fr : Fr} {σ : L2.St} {H : Hp}
theorem tE.toA {ev : Env → Mem → R D} {Q : VK} (h : tA fr ev σ H Q) (hv : ∀ (F : Addr → Prop) (θ' : List Addr) (H' : Hp) (env : Env) (mem mem' : Mem) (d : D) (v : V), ev env mem = .ok d mem' → VR fr.K F θ' H' d v → AR fr.K F θ' H' d v) : tE fr ev σ H Q := by
  obtain ⟨F, θ, env, mem, d, mem', s, e, q⟩ := h
  exact ⟨F, θ, env, mem, d, mem', s, e, fun θ' v H' t m r => q θ' v H' t m (hv F θ' H' env mem mem' d v e r)⟩
/-- one operand, then an operation that makes a value -/
theorem tE.one {a : Env → Mem → R D} {k : D → Option D} {Q : VK} (h : tE fr (fun env m => (a env m).bind fun x m1 => R.ofO ((vw m1 x).bind k) m1) σ H Q) :
    tA fr a σ H fun v H1 => ∃ F θ d r, Cn fr.K F θ H1 d v ∧ k d = some r ∧ ∀ w H', New fr.K F θ H1 r w H' → Q w H' := by
  obtain ⟨F, θ, env, mem, d, mem', s, e, q⟩ := h
  obtain ⟨x, m1, e1, e⟩ := R.bind_ok e
  obtain ⟨e, rfl⟩ := R.ofO_ok e
  obtain ⟨x', e2, e⟩ := Option.bind_eq_some_iff.mp e
  exact ⟨F, θ, env, mem, x, _, s, e1, fun θ' v H1 t m r => ⟨F, θ', x', d, r.cn m e2, e, fun w H' n => q θ' w H' (t.trans n.tr) (n.ms m) (n.vr m)⟩⟩
theorem tE.two {a b : Env → Mem → R D} {k : D → D → Option D} {Q : VK}
    (h : tE fr (fun env m => (a env m).bind fun x m1 => (b env m1).bind fun y m2 => R.ofO ((vw m2 x).bind fun x' => (vw m2 y).bind fun y' => k x' y') m2) σ H Q) :
    tA fr a σ H fun v H1 => tA fr b σ H1 fun u H2 => ∃ F θ d e r, Cn fr.K F θ H2 d v ∧ Cn fr.K F θ H2 e u ∧ k d e = some r ∧ ∀ w H', New fr.K F θ H2 r w H' → Q w H' := by
  obtain ⟨F, θ, env, mem, d, mem', s, e, q⟩ := h
  obtain ⟨x, m1, e1, e⟩ := R.bind_ok e
  obtain ⟨y, m2, e2, e⟩ := R.bind_ok e
  obtain ⟨e, rfl⟩ := R.ofO_ok e
  obtain ⟨x', e3, e⟩ := Option.bind_eq_some_iff.mp e
  obtain ⟨y', e4, e⟩ := Option.bind_eq_some_iff.mp e
  refine ⟨F, θ, env, mem, x, m1, s, e1, fun θ1 v H1 t1 ms1 r1 => ⟨F, θ1, env, m1, y, _, s.step t1 ms1, e2, fun θ2 u H2 t2 ms2 r2 => ?_⟩⟩
  exact ⟨F, θ2, x', y', d, (r1.step t2 ms1).cn ms2 e3, r2.cn ms2 e4, e, fun w H' n => q θ2 w H' ((t1.trans t2).trans n.tr) (n.ms ms2) (n.vr ms2)⟩
theorem tEs.nil {Φ : Fs} {Q : List V → Hp → Prop} (h : tEs fr (evEs Φ .nil) σ H Q) : tNil σ H Q := by
  obtain ⟨F, θ, env, mem, d, mem', s, e, q⟩ := h
  cases e
  exact q θ [] H .refl s.ms rfl
theorem tEs.cons {Φ : Fs} {e : E} {r : Es} {Q : List V → Hp → Prop} (h : tEs fr (evEs Φ (.cons e r)) σ H Q) : tCons (tE fr (evE Φ e)) (tEs fr (evEs Φ r)) σ H Q := by
  obtain ⟨F, θ, env, mem, d, mem', s, e, q⟩ := h
  obtain ⟨x, m1, e1, e⟩ := R.bind_ok e
  obtain ⟨xs, m2, e2, e⟩ := R.bind_ok e
  cases e
  refine ⟨F, θ, env, mem, x, m1, s, e1, fun θ1 v H1 t1 ms1 r1 => ⟨F, θ1, env, m1, xs, _, s.step t1 ms1, e2, fun θ2 us H2 t2 ms2 r2 => ?_⟩⟩
  exact q θ2 _ H2 (t1.trans t2) ms2 ⟨v, us, rfl, VR.mono t2.fk _ _ r1, r2⟩
/-- a new list or dict as a value -/
theorem tE.frz {ev : Env → Mem → R D} {Q : VK} (h : tE fr ev σ H Q) : tF fr ev σ H Q := by
  obtain ⟨F, θ, env, mem, d, mem', s, e, q⟩ := h
  refine ⟨F, θ, env, mem, d, mem', s, e, fun θ' p o H' t hp ho m c => ?_⟩
  have k : Fk (plus F p) θ' H' F θ' H' := Fk.less fun _ z => .inl z
  exact q θ' _ H' t (m.less fun _ z => .inl z) (CR.vr (c.mono k) ho (s.ms.fresh hp).2 (m.Fθ p (.inr rfl)))
/-- as a shared object -/
theorem tE.new {f : Env → Mem → R D} {Q : VK} (h : tE fr (fun env m => (f env m).bind fun d m1 => .ok (.obj m1.length) (m1 ++ [d])) σ H Q) : tF fr f σ H Q := by
  obtain ⟨F, θ, env, mem, d, mem', s, e, q⟩ := h
  obtain ⟨x, m1, e1, e⟩ := R.bind_ok e
  cases e
  refine ⟨F, θ, env, mem, x, m1, s, e1, fun θ' p o H' t hp ho m c => ?_⟩
  refine q (θ' ++ [p]) _ H' (Tr.push hp (by rw [ho]; simp) t s.ms) (m.push ho c (s.ms.fresh hp).2) ?_
  simp only [VR]
  exact ⟨p, rfl, by rw [m.len, List.getElem?_append_right (Nat.le_refl _), Nat.sub_self]; rfl⟩
/-- a test -/
theorem tT.toE {ev : Env → Mem → R D} {Q : Bool → Hp → Prop} (h : tT fr ev σ H Q) : tE fr ev σ H fun x H1 => ∃ c, x = .bl c ∧ Q c H1 := by
  obtain ⟨F, θ, env, mem, b, mem', s, e, q⟩ := h
  exact ⟨F, θ, env, mem, .bl b, mem', s, e, fun θ' v H' t m r => ⟨b, r, q θ' H' t m⟩⟩
end
end Mp

set_option linter.all false
set_option autoImplicit false
set_option maxRecDepth 100000
set_option maxHeartbeats 1000000
/-! Mp11: dicts compared. -/
namespace Mp
open PySem PySem.Spec PyProof.Rows L2
section
variable {X : Cx} {pins : List (Addr × Obj)} {σ : L2.St} {H : Hp} {s : Shared} {F : Addr → Prop} {θ : List Addr}
theorem hits_D (I : Inv X pins σ H s) {A : Around} (hu : A.in1.units + 64 < cLine) {ls : List (D × D)} {us : List (Key × V)} {vb : List (Key × Value)} (rl : KR X.K F θ H ls us) (rb : KV us vb) (pb : pld ls = true) :
    ∀ {ks : List (D × D)} {ws : List (Key × V)} {va : List (Key × Value)}, KR X.K F θ H ks ws → KV ws va → pld ks = true →
      PySem.W.KeqHits A.in1 s vb va (ks.all fun p => match getK ls p.1 with | some d => eqD p.2 d | none => false)
  | [], ws, va, r, kv, _ => by
    simp only [KR] at r
    subst r
    cases kv
    exact .nil
  | (k, d) :: ks, ws, va, r, kv, p => by
    simp only [KR] at r
    obtain ⟨k', v, q, rfl, ⟨e1, _⟩, r1, r2⟩ := r
    simp only [pld, List.all_cons, Bool.and_eq_true] at p
    cases kv with
    | @cons _ kvq _ qs h t =>
      obtain ⟨h1, h2⟩ := h
      obtain ⟨key, u⟩ := kvq
      have h1' : k' = key := h1
      subst h1'
      have ih := hits_D I hu rl rb pb r2 t p.2
      rw [List.all_cons]
      have rr : RelO (valV us k') (valueAt vb k') := rb.val k'
      rcases rl.get e1 with ⟨d2, v2, g1, g2, g3⟩ | ⟨g1, g2⟩
      · rw [g2] at rr
        obtain ⟨y, hy, ry⟩ := rr.some_of
        have pd2 : pl deep d2 = true := by
          unfold getK at g1
          cases hf : ls.find? fun kv => eqD kv.1 k with
          | none => rw [hf] at g1; cases g1
          | some kv =>
            rw [hf] at g1
            cases g1
            have := List.mem_of_find?_eq_some hf
            unfold pld at pb
            exact List.all_eq_true.mp pb kv this
        obtain ⟨as, ra⟩ := Dp.reads I (toPy d) v u (pl_dp d deep v p.1 r1) h2
        obtain ⟨bs, rb'⟩ := Dp.reads I (toPy d2) v2 y (pl_dp d2 deep v2 pd2 g3) ry
        have ea := PySem.W.keq_at (A := A) ra rb' (shaped_of p.1 r1) (shaped_of pd2 g3) hu
        rw [eqv_eqD d d2 deep deep p.1 pd2] at ea
        simp only [g1]
        exact .hit hy ea ih
      · rw [g2] at rr
        simp only [g1, Bool.false_and]
        refine .miss ?_
        cases hv : valueAt vb k' with
        | none => rfl
        | some y => rw [hv] at rr; exact (show False from rr).elim
/-- two lists of unlike lengths -/
theorem lists_eq {prog : Program} {w : World} {A : Around} {s : Shared} {l b : Addr} {items items2 : Array Value} (hl : s.heap.IsList l items) (hb : s.heap.IsList b items2) (hsz : (items.size != items2.size) = true) (hu : A.units < cLine)
    {E Q : Value → Shared → Prop} (h : Q (.bool false) s) : wpAny (model prog w) A (compareOp .Eq (.ref l) (.ref b)) Q E s := by
  obtain ⟨⟨cls, dd, data, sl⟩, ho, hc, n, hd⟩ := id hl
  obtain ⟨⟨cls2, dd2, data2, sl2⟩, ho2, hc2, n2, hd2⟩ := id hb
  simp only at hc hd hc2 hd2
  subst hc hd hc2 hd2
  have ta : s.TypeIs (.ref l) "list" := ⟨_, ho, rfl⟩
  have tb : s.TypeIs (.ref b) "list" := ⟨_, ho2, rfl⟩
  exact wpAny_richCompare_same_room (op := .Eq) ta tb PySem.F.slot_list_eq (call_meets PySem.F.slot_list_eq ta PySem.F.entry_list_eq (PySem.F.args_list_eq_2 _ _) (PySem.SeqAt.list_eq_lengthsAt l b items items2 n n2 dd dd2 sl sl2 hsz)
    ⟨ho, ho2, show Value.bool false ≠ Value.notImplemented ∧ Q (.bool false) s from ⟨(fun x => nomatch x), h⟩⟩) hu
theorem lists_ne {prog : Program} {w : World} {A : Around} {s : Shared} {l b : Addr} {items items2 : Array Value} (hl : s.heap.IsList l items) (hb : s.heap.IsList b items2) (hsz : (items.size != items2.size) = true) (hu : A.units < cLine)
    {E Q : Value → Shared → Prop} (h : Q (.bool true) s) : wpAny (model prog w) A (compareOp .NotEq (.ref l) (.ref b)) Q E s := by
  obtain ⟨⟨cls, dd, data, sl⟩, ho, hc, n, hd⟩ := id hl
  obtain ⟨⟨cls2, dd2, data2, sl2⟩, ho2, hc2, n2, hd2⟩ := id hb
  simp only at hc hd hc2 hd2
  subst hc hd hc2 hd2
  have ta : s.TypeIs (.ref l) "list" := ⟨_, ho, rfl⟩
  have tb : s.TypeIs (.ref b) "list" := ⟨_, ho2, rfl⟩
  exact wpAny_richCompare_same_room (op := .NotEq) ta tb PySem.F.slot_list_ne (call_meets PySem.F.slot_list_ne ta PySem.F.entry_list_ne (PySem.F.args_list_ne_2 _ _) (PySem.SeqAt.list_ne_lengthsAt l b items items2 n n2 dd dd2 sl sl2 hsz)
    ⟨ho, ho2, show Value.bool true ≠ Value.notImplemented ∧ Q (.bool true) s from ⟨(fun x => nomatch x), h⟩⟩) hu
theorem cn_isList (I : Inv X pins σ H s) {xs : List D} {v : V} {u : Value} (c : Cn X.K F θ H (.lst xs) v) (r : RelV v u) : ∃ a its, u = .ref a ∧ s.heap.IsList a its ∧ its.size = xs.length := by
  obtain ⟨a, vs, rfl, e, rv⟩ := c
  obtain rfl : u = Value.ref a := r
  obtain ⟨its, q1, q2, _⟩ := I.list (xs := vs) (.inl (.inl e))
  refine ⟨a, _, rfl, q2.isList, ?_⟩
  rw [List.size_toArray, ← q1.length, rv.length]
theorem oCmp2 (hu : X.A.units + 66 < cLine) (c : Cmp) : OpR X (compareOp c.op) (fun x y H Q => ∃ F θ d e b, Cn X.K F θ H d x ∧ Cn X.K F θ H e y ∧ c.run2 d e = some b ∧ Q (.bl b) H) := by
  intro pins s σ H x y v u Q I rx ry ⟨F, θ, d, e, b, cd, ce, g, q⟩
  have old : c.run d e = some b → wpAny (model X.prog X.w) X.A (compareOp c.op v u) (EP X pins σ Q) X.xe s := fun g => oCmp (by omega) c pins s σ H x y v u Q I rx ry ⟨F, θ, d, e, b, cd, ce, g, q⟩
  unfold Cmp.run2 at g
  split at g
  · split at g
    · rename_i ks ls hp
      cases g
      rw [Bool.and_eq_true] at hp
      obtain ⟨a, ws, rfl, e1, r1⟩ := cd
      obtain ⟨a2, us, rfl, e2, r2⟩ := ce
      obtain rfl : v = Value.ref a := rx
      obtain rfl : u = Value.ref a2 := ry
      obtain ⟨_, ya, va, ra, da⟩ := dk_rd I.hok e1
      obtain ⟨_, yb, vb, rb, db⟩ := dk_rd I.hok e2
      refine PySem.W.keq_eq (knd := mixKind X.prog X.w) ya yb da db (by omega) (fun _ => hits_D I (by show X.A.units + 1 + 64 < cLine; omega) r2 rb hp.2 r1 ra hp.1) ⟨.bl _, H, I, rfl, ?_⟩
      have e : (va.length == vb.length) = (ks.length == ls.length) := by rw [← ra.length, ← rb.length, r1.length, r2.length]
      rw [e]
      exact q
    · cases g
  · split at g
    · rename_i ks ls hp
      cases g
      rw [Bool.and_eq_true] at hp
      obtain ⟨a, ws, rfl, e1, r1⟩ := cd
      obtain ⟨a2, us, rfl, e2, r2⟩ := ce
      obtain rfl : v = Value.ref a := rx
      obtain rfl : u = Value.ref a2 := ry
      obtain ⟨_, ya, va, ra, da⟩ := dk_rd I.hok e1
      obtain ⟨_, yb, vb, rb, db⟩ := dk_rd I.hok e2
      refine PySem.W.keq_ne (knd := mixKind X.prog X.w) ya yb da db (by omega) (fun _ => hits_D I (by show X.A.units + 1 + 64 < cLine; omega) r2 rb hp.2 r1 ra hp.1) ⟨.bl _, H, I, rfl, ?_⟩
      have e : (va.length == vb.length) = (ks.length == ls.length) := by rw [← ra.length, ← rb.length, r1.length, r2.length]
      rw [e]
      exact q
    · cases g
  · cases g
    obtain ⟨a, its, rfl, h1, l1⟩ := cn_isList I cd rx
    obtain ⟨a2, its2, rfl, h2, l2⟩ := cn_isList I ce ry
    exact lists_eq h1 h2 (by rw [l1, l2]; rfl) (by omega) ⟨.bl _, H, I, rfl, q⟩
  · cases g
    obtain ⟨a, its, rfl, h1, l1⟩ := cn_isList I cd rx
    obtain ⟨a2, its2, rfl, h2, l2⟩ := cn_isList I ce ry
    exact lists_ne h1 h2 (by rw [l1, l2]; rfl) (by omega) ⟨.bl _, H, I, rfl, q⟩
  · exact old g
end
end Mp

set_option linter.all false
set_option autoImplicit false
set_option maxRecDepth 100000
set_option maxHeartbeats 1000000
/-! Mp12: what is walked. -/
namespace Mp
open PySem PySem.Spec PyProof.Rows L2

section
variable (K : PySem.W.Frag) (b : Bool) (F : Addr → Prop) (θ : List Addr) (H : Hp)
/-- what may have happened since: b: only what expressions do -/
def Pw (F' : Addr → Prop) (θ' : List Addr) (H' : Hp) : Prop := Fk F θ H F' θ' H' ∧ (b = true → Tr θ H θ' H')
/-- J walks over ds -/
def Walk (ds : List D) (J : It) : Prop := ∀ (F' : Addr → Prop) (θ' : List Addr) (mem : Mem) (H' : Hp), Pw b F θ H F' θ' H' → MS K F' θ' mem H' →
  (∀ (i : Nat) (d : D), ds[i]? = some d → J.go i H' ∧ ∀ x H'', J.yld i H' x H'' → Tr θ' H' θ' H'' ∧ MS K F' θ' mem H'' ∧ VR K F' θ' H'' d x) ∧ J.stop ds.length H'
/-- an operand that is walked -/
def ARb (d : D) (v : V) : Prop := AR K F θ H d v ∧ (b = false → VR K F θ H d v ∨ ((∃ xs, d = .kon (.tup xs)) ∧ Cn K F θ H d v))
end
section
variable {K : PySem.W.Frag} {b : Bool} {F : Addr → Prop} {θ : List Addr} {H : Hp} {mem : Mem}
theorem sqL_keep {x : D} {v : V} {ds : List D} (h : ARb K b F θ H x v) (m : MS K F θ mem H) (e : seqL x = some ds) :
    ∃ a vs, v = .ref a ∧ VRs K F θ H ds vs ∧ SqL K H a vs ∧ ∀ F' θ' H', Pw b F θ H F' θ' H' → SqL K H' a vs := by
  obtain ⟨h, hb⟩ := h
  cases x with
  | lst xs =>
    cases e
    have own : (VR K F θ H (.lst ds) v ∨ (b = true ∧ ∃ a o, v = .ref a ∧ H a = some o ∧ CR K F θ H (.lst ds) o ∧ F a)) := by
      rcases h with h | h | ⟨⟨_, q⟩, _⟩
      · exact .inl h
      · cases b with
        | true => exact .inr ⟨rfl, h⟩
        | false =>
          rcases hb rfl with h | ⟨⟨_, q⟩, _⟩
          · exact .inl h
          · cases q
      · cases q
    rcases own with h | ⟨rfl, a, o, rfl, h1, ⟨vs, rfl, h2⟩, h3⟩
    · simp only [VR] at h
      obtain ⟨a, vs, rfl, h1, h2, h3, h4⟩ := h
      exact ⟨a, vs, rfl, h4, SqL.of h1, fun F' θ' H' p => SqL.of (p.1.keep a _ h1 h2 h3).1⟩
    · exact ⟨a, vs, rfl, h2, SqL.of h1, fun F' θ' H' p => SqL.of ((p.2 rfl).keep a _ h1 (m.Fθ a h3))⟩
  | scr ns =>
    cases e
    have h' : VR K F θ H (.scr ns) v := by
      rcases h with h | ⟨_, _, _, _, h, _⟩ | ⟨⟨_, q⟩, _⟩
      · exact h
      · exact h.elim
      · cases q
    simp only [VR] at h'
    obtain ⟨a, rfl, h'⟩ := h'
    have hv : ∀ ns : List Int, VRs K F θ H (ns.map D.int) (ns.map V.int) := fun ns => by
      induction ns with
      | nil => exact rfl
      | cons n r ih => exact ⟨_, _, rfl, rfl, ih⟩
    rcases h' with ⟨h1, h2, h3⟩ | h1
    · exact ⟨a, _, rfl, hv ns, .inl h1, fun F' θ' H' p => .inl (p.1.rd h1 h2 h3).1⟩
    · exact ⟨a, _, rfl, hv ns, .inr h1, fun F' θ' H' p => .inr h1⟩
  | _ => cases e
theorem sqT_keep {x : D} {v : V} {ds : List D} (h : AR K F θ H x v) (e : seqT x = some ds) :
    ∃ a vs, v = .ref a ∧ VRs K F θ H ds vs ∧ SqT K H a vs ∧ ∀ F' θ' H', Pw b F θ H F' θ' H' → SqT K H' a vs := by
  cases x with
  | tup xs =>
    cases e
    have h' : VR K F θ H (.tup ds) v := by
      rcases h with h | ⟨_, _, _, _, h, _⟩ | ⟨⟨_, q⟩, _⟩
      · exact h
      · exact h.elim
      · cases q
    simp only [VR] at h'
    obtain ⟨a, vs, rfl, h1, h2, h3, h4⟩ := h'
    exact ⟨a, vs, rfl, h4, SqT.of h1, fun F' θ' H' p => SqT.of (p.1.keep a _ h1 h2 h3).1⟩
  | kon c =>
    cases c with
    | tup xs =>
      cases e
      have h' : Cn K F θ H (.kon (.tup ds)) v := by
        rcases h with h | ⟨_, _, _, _, h, _⟩ | ⟨_, h⟩
        · simp only [VR] at h
        · exact h.elim
        · exact h
      obtain ⟨a, vs, rfl, h1, h2⟩ := h'
      exact ⟨a, vs, rfl, h2, .inr h1, fun F' θ' H' _ => .inr h1⟩
    | _ => cases e
  | _ => cases e
theorem VRs.none_of {ds : List D} {vs : List V} (h : VRs K F θ H ds vs) {i : Nat} (e : vs.length ≤ i) : ds.length ≤ i := by rw [h.length]; exact e
theorem walkL {ds : List D} {vs : List V} {a : Addr} (hv : VRs K F θ H ds vs) (k : ∀ F' θ' H', Pw b F θ H F' θ' H' → SqL K H' a vs) : Walk K b F θ H ds (Itl K a) := by
  intro F' θ' mem H' p m
  have q := k F' θ' H' p
  refine ⟨fun i d e => ?_, vs, q, Nat.le_of_eq hv.length.symm⟩
  obtain ⟨v, e1, r⟩ := hv.get e
  refine ⟨⟨vs, v, q, e1⟩, fun x H'' y => ?_⟩
  obtain ⟨rfl, y⟩ := y
  have e2 := y vs q
  rw [e1] at e2; cases e2
  exact ⟨.refl, m, VR.mono p.1 _ _ r⟩
theorem walkT {ds : List D} {vs : List V} {a : Addr} (hv : VRs K F θ H ds vs) (k : ∀ F' θ' H', Pw b F θ H F' θ' H' → SqT K H' a vs) : Walk K b F θ H ds (Itt K a) := by
  intro F' θ' mem H' p m
  have q := k F' θ' H' p
  refine ⟨fun i d e => ?_, vs, q, Nat.le_of_eq hv.length.symm⟩
  obtain ⟨v, e1, r⟩ := hv.get e
  refine ⟨⟨vs, v, q, e1⟩, fun x H'' y => ?_⟩
  obtain ⟨rfl, y⟩ := y
  have e2 := y vs q
  rw [e1] at e2; cases e2
  exact ⟨.refl, m, VR.mono p.1 _ _ r⟩
theorem tup_new {F' : Addr → Prop} {θ' : List Addr} {mem : Mem} {H' : Hp} (m : MS K F' θ' mem H') {T : Addr} (hT : H' T = none) {xs : List D} {vs : List V} (h : VRs K F' θ' H' xs vs) :
    Tr θ' H' θ' (upd H' T (.tup vs)) ∧ MS K F' θ' mem (upd H' T (.tup vs)) ∧ VR K F' θ' (upd H' T (.tup vs)) (.tup xs) (.ref T) := by
  refine ⟨.laid hT, m.laid hT, ?_⟩
  simp only [VR]
  exact ⟨T, vs, rfl, upd_same, (m.fresh hT).2, (m.fresh hT).1, VRs.mono (Tr.laid hT).fk _ _ h⟩
theorem enumL_get : ∀ {ds : List D} {n i : Nat} {d : D}, (enumL n ds)[i]? = some d → ∃ e, ds[i]? = some e ∧ d = .tup [.int ((n + i : Nat) : Int), e]
  | [], _, _, _, h => by simp [enumL] at h
  | x :: ds, n, 0, d, h => by
    simp only [enumL, List.getElem?_cons_zero] at h
    cases h
    exact ⟨x, rfl, rfl⟩
  | x :: ds, n, i + 1, d, h => by
    simp only [enumL, List.getElem?_cons_succ] at h
    obtain ⟨e, h1, h2⟩ := enumL_get h
    refine ⟨e, by simpa using h1, ?_⟩
    rw [h2]
    have : n + 1 + i = n + (i + 1) := by omega
    rw [this]
theorem enumL_len : ∀ (ds : List D) (n : Nat), (enumL n ds).length = ds.length
  | [], _ => rfl
  | _ :: ds, n => by simp only [enumL, List.length_cons, enumL_len ds]
theorem walkE {ds : List D} {vs : List V} {a : Addr} (hv : VRs K F θ H ds vs) (k : ∀ F' θ' H', Pw b F θ H F' θ' H' → SqL K H' a vs) : Walk K b F θ H (enumL 0 ds) (Ite K a) := by
  intro F' θ' mem H' p m
  have q := k F' θ' H' p
  refine ⟨fun i d e => ?_, vs, q, by rw [enumL_len]; exact Nat.le_of_eq hv.length.symm⟩
  obtain ⟨d', e0, rfl⟩ := enumL_get e
  obtain ⟨v, e1, r⟩ := hv.get e0
  refine ⟨⟨vs, v, q, e1⟩, fun x H'' y => ?_⟩
  obtain ⟨T, z, rfl, hT, rfl, y⟩ := y
  have e2 := y vs q
  rw [e1] at e2; cases e2
  rw [Nat.zero_add]
  exact tup_new m hT ⟨_, _, rfl, rfl, _, _, rfl, VR.mono p.1 _ _ r, rfl⟩
theorem zipL_get : ∀ {xs ys : List D} {i : Nat} {d : D}, (zipL xs ys)[i]? = some d → ∃ x y, xs[i]? = some x ∧ ys[i]? = some y ∧ d = .tup [x, y]
  | [], _, _, _, h => by simp [zipL] at h
  | _ :: _, [], _, _, h => by simp [zipL] at h
  | x :: xs, y :: ys, 0, d, h => by
    simp only [zipL, List.getElem?_cons_zero] at h
    cases h
    exact ⟨x, y, rfl, rfl, rfl⟩
  | x :: xs, y :: ys, i + 1, d, h => by
    simp only [zipL, List.getElem?_cons_succ] at h
    obtain ⟨u, v, h1, h2, h3⟩ := zipL_get h
    exact ⟨u, v, by simpa using h1, by simpa using h2, h3⟩
theorem zipL_len : ∀ (xs ys : List D), xs.length ≤ (zipL xs ys).length ∨ ys.length ≤ (zipL xs ys).length
  | [], _ => .inl (Nat.zero_le _)
  | _ :: _, [] => .inr (Nat.zero_le _)
  | x :: xs, y :: ys => by
    simp only [zipL, List.length_cons]
    rcases zipL_len xs ys with h | h
    · exact .inl (Nat.succ_le_succ h)
    · exact .inr (Nat.succ_le_succ h)
theorem walkZ {xs ys : List D} {vs us : List V} {a c : Addr} (hv : VRs K F θ H xs vs) (hu : VRs K F θ H ys us) (k : ∀ F' θ' H', Pw b F θ H F' θ' H' → SqL K H' a vs) (k' : ∀ F' θ' H', Pw b F θ H F' θ' H' → SqL K H' c us) : Walk K b F θ H (zipL xs ys) (Itz K a c) := by
  intro F' θ' mem H' p m
  have q := k F' θ' H' p
  have q' := k' F' θ' H' p
  refine ⟨fun i d e => ?_, vs, us, q, q', by rw [← hv.length, ← hu.length]; exact zipL_len xs ys⟩
  obtain ⟨d1, d2, h1, h2, rfl⟩ := zipL_get e
  obtain ⟨v, e1, r⟩ := hv.get h1
  obtain ⟨u, e2, r'⟩ := hu.get h2
  refine ⟨⟨vs, us, v, u, q, q', e1, e2⟩, fun x H'' y => ?_⟩
  obtain ⟨T, z, z', rfl, hT, rfl, y1, y2⟩ := y
  have e3 := y1 vs q
  rw [e1] at e3; cases e3
  have e4 := y2 us q'
  rw [e2] at e4; cases e4
  exact tup_new m hT ⟨_, _, rfl, VR.mono p.1 _ _ r, _, _, rfl, VR.mono p.1 _ _ r', rfl⟩
theorem walkZT {xs ys : List D} {vs us : List V} {a c : Addr} (hv : VRs K F θ H xs vs) (hu : VRs K F θ H ys us) (k : ∀ F' θ' H', Pw b F θ H F' θ' H' → SqT K H' a vs) (k' : ∀ F' θ' H', Pw b F θ H F' θ' H' → SqT K H' c us) : Walk K b F θ H (zipL xs ys) (RZ.ItzT K a c) := by
  intro F' θ' mem H' p m
  have q := k F' θ' H' p
  have q' := k' F' θ' H' p
  refine ⟨fun i d e => ?_, vs, us, q, q', by rw [← hv.length, ← hu.length]; exact zipL_len xs ys⟩
  obtain ⟨d1, d2, h1, h2, rfl⟩ := zipL_get e
  obtain ⟨v, e1, r⟩ := hv.get h1
  obtain ⟨u, e2, r'⟩ := hu.get h2
  refine ⟨⟨vs, us, v, u, q, q', e1, e2⟩, fun x H'' y => ?_⟩
  obtain ⟨T, z, z', rfl, hT, rfl, y1, y2⟩ := y
  have e3 := y1 vs q
  rw [e1] at e3; cases e3
  have e4 := y2 us q'
  rw [e2] at e4; cases e4
  exact tup_new m hT ⟨_, _, rfl, VR.mono p.1 _ _ r, _, _, rfl, VR.mono p.1 _ _ r', rfl⟩
theorem rngL_get : ∀ {n i : Nat} {lo : Int} {d : D}, (rngL lo n)[i]? = some d → i < n ∧ d = .int (lo + i)
  | 0, _, _, _, h => by simp [rngL] at h
  | n + 1, 0, lo, d, h => by
    simp only [rngL, List.getElem?_cons_zero] at h
    cases h
    exact ⟨by omega, by simp⟩
  | n + 1, i + 1, lo, d, h => by
    simp only [rngL, List.getElem?_cons_succ] at h
    obtain ⟨h1, h2⟩ := rngL_get h
    refine ⟨by omega, ?_⟩
    rw [h2]
    congr 1
    omega
theorem rngL_len : ∀ (n : Nat) (lo : Int), (rngL lo n).length = n
  | 0, _ => rfl
  | n + 1, lo => by simp only [rngL, List.length_cons, rngL_len n]
theorem walkR {lo : Int} {n : Nat} : Walk K b F θ H (rngL lo n) (Itr lo n) := by
  intro F' θ' mem H' p m
  refine ⟨fun i d e => ?_, by show n ≤ _; rw [rngL_len]; exact Nat.le_refl _⟩
  obtain ⟨h1, rfl⟩ := rngL_get e
  refine ⟨h1, fun x H'' y => ?_⟩
  obtain ⟨rfl, rfl⟩ := y
  exact ⟨.refl, m, rfl⟩
theorem walkS {s : T} (ok : okT s = true) : Walk K b F θ H (s.map fun c => D.str [c]) (Its (tS s)) := by
  intro F' θ' mem H' p m
  refine ⟨fun i d e => ?_, by show (tS s).cps.size ≤ _; simp⟩
  rw [List.getElem?_map] at e
  cases hc : s[i]? with
  | none => rw [hc] at e; cases e
  | some c =>
    rw [hc] at e
    cases e
    have hl : i < s.length := (List.getElem?_eq_some_iff.mp hc).1
    refine ⟨by show i < (tS s).cps.size; simpa using hl, fun x H'' y => ?_⟩
    obtain ⟨rfl, c', h1, rfl⟩ := y
    have : c' = c := by
      have h1' : s.toArray[i]? = some c' := h1
      rw [List.getElem?_toArray, hc] at h1'
      exact (Option.some.inj h1').symm
    subst this
    refine ⟨.refl, m, rfl, okT_sub ok (fun z hz => ?_) ?_⟩
    · have : z = c' := by simpa using hz
      rw [this]; exact List.mem_of_getElem? hc
    · have : 1 ≤ s.length := by omega
      exact this
end
end Mp

set_option linter.all false
set_option autoImplicit false
set_option maxRecDepth 100000
set_option maxHeartbeats 1000000
/-! Mp31: enumerate of a tuple. -/
namespace Mp
open PySem PySem.Spec PyProof.Rows L2
open PySem.Sem (wp)
theorem meets_enum1 {v : Value} {o : Obj} {H : Heap → Prop} (B : Begins v o H) :
    Meets (Builtin.«enumerate.__new__» ⟨[.type "enumerate", v], []⟩) (fun _ R s => H s.heap ∧
      R (.ok (.ret (.ref (s.heap.push o).objs.size))) { s with heap := (s.heap.push o).push { cls := .type "enumerate", data := .fields #[.none, .bool false, .ref s.heap.objs.size, rawInt 0, .none, .none] } }) :=
  .of_wp fun prog w A R s h => by
    obtain ⟨hp, g, d, tk, os⟩ := s; obtain ⟨h1, h⟩ := h
    have hsub := sub_enumerate
    have q1 : ∀ {A' : Around} {E : Value → Shared → Prop} {Q : Value → Shared → Prop}, Q (.ref hp.objs.size) ⟨hp.push o, g, d, tk, os⟩ → wpAny (model prog w) A' (pyIter v) Q E ⟨hp, g, d, tk, os⟩ :=
      fun q => B.iter prog w _ _ ⟨hp, g, d, tk, os⟩ _ h1 q
    wp_walk using q1
    refine wpAny_stack_any fun st => wpAny_pure ?_
    split
    · rename_i c _ _ _ _ _
      cases (c == Value.type "enumerate")
      · wp_walk using q1
        exact ⟨_, rfl, h⟩
      · wp_walk using q1
        exact ⟨_, rfl, h⟩
    · wp_walk using q1
      exact ⟨_, rfl, h⟩
theorem enum1_begins {prog : Program} {w : World} {A : Around} {E : Value → Shared → Prop} {s : Shared} {v : Value} {o : Obj} {H : Heap → Prop} {Q : Value → Shared → Prop} (B : Begins v o H) (h1 : H s.heap)
    (h : ∀ h', IsEnum h' (s.heap.objs.size + 1) s.heap.objs.size 0 .none → h'.get? s.heap.objs.size = some o → h'.objs.size = s.heap.objs.size + 2 →
      (∀ b o, s.heap.get? b = some o → h'.get? b = some o) → Q (.ref (s.heap.objs.size + 1)) { s with heap := h' }) :
    wpAny (model prog w) A (PySem.call (.type "enumerate") [v]) Q E s := by
  refine callType_new F.called_enumerate (by decide) (F.typeCall_enumerate_1 _) (F.newCall_enumerate_1 _) (fun obj => F.args_object_init_2 obj _) F.entry_enumerate_new
    (meets_enum1 B) ⟨h1, ?_⟩
  have hz : (s.heap.push o).objs.size = s.heap.objs.size + 1 := Heap.size_push ..
  show _ ∧ _
  rw [hz]
  have he : IsEnum ((s.heap.push o).push { cls := .type "enumerate", data := .fields #[.none, .bool false, .ref s.heap.objs.size, rawInt 0, .none, .none] }) (s.heap.objs.size + 1) s.heap.objs.size 0 .none := by
    have := Heap.get?_push_size (s.heap.push o) (o := { cls := .type "enumerate", data := .fields #[.none, .bool false, .ref s.heap.objs.size, rawInt 0, .none, .none] }) rfl
    rw [hz] at this; exact this
  refine ⟨⟨_, he, rfl⟩, h _ he (Heap.get?_push_of_some _ (Heap.get?_push_size _ B.free)) (by rw [Heap.size_push, hz]) fun b o x => Heap.get?_push_of_some _ (Heap.get?_push_of_some _ x)⟩
theorem enumT_end {prog : Program} {w : World} {A : Around} {E : Value → Shared → Prop} {s : Shared} {e it t : Addr} {i : Nat} {c : Int} {items : Array Value} {old : Value} {Q : Option Value → Shared → Prop} (hh : A.handled = none)
    (he : IsEnum s.heap e it c old) (hit : s.heap.IsTupleIter it t i) (ht : s.heap.IsTuple t items) (hx : items[i]? = none)
    (hQ : ∀ h', Heap.ExtBut it s.heap h' → Q none { s with heap := h' }) : wpAny (model prog w) A (pyNext (.ref e)) Q E s := by
  have hT : s.TypeIs (.ref e) "enumerate" := ⟨_, he, rfl⟩
  unfold pyNext
  refine wpAny_bind (wpAny_attempt (wpAny_callSpecial?_slot (name := Str.ofString "__next__") hT F.slot_enumerate_next
    (wpAny_call_entry F.slot_enumerate_next hT F.entry_enumerate_next ?_ (F.args_enumerate_next_1 _))))
  show wpAny _ _ (field (.ref e) 2 >>= _) _ _ _
  refine wpAny_bind (wpAny_field he rfl (x := .ref it) rfl ?_)
  refine wpAny_bind (wpAny_nextOf_tuple_end hh hit ht hx fun h' x he' hx' => ?_)
  obtain ⟨o, ho, hc⟩ := hx'
  refine wpAny_bind (wpAny_isInstance (T := "StopIteration") (b := true) ⟨o, ho, hc⟩ isSubtype_stop ?_)
  exact wpAny_pure (hQ _ he')
/-- the tuple at a, each item in a new pair -/
def IteT (K : PySem.W.Frag) (a : Addr) : It :=
  ⟨fun i H => ∃ (xs : List V) (x : V), SqT K H a xs ∧ xs[i]? = some x, fun i H v H' => ∃ T x, v = .ref T ∧ H T = none ∧ H' = upd H T (.tup [.int (i : Nat), x]) ∧ ∀ xs, SqT K H a xs → xs[i]? = some x, fun i H => ∃ xs : List V, SqT K H a xs ∧ xs.length ≤ i⟩
theorem turn_enumT {P : Program} {w : World} {K : PySem.W.Frag} {elts : List Expr} {kk : Nat} {tpos : Pos} (a e it : Addr) :
    Turn P w K (.Tuple elts kk tpos) (IteT K a) [e, it] e (fun i h => (∃ old, IsEnum h e it ((i : Nat) : Int) old) ∧ h.IsTupleIter it a i ∧ e ≠ it ∧ a ≠ it ∧ e ≠ a) where
  mem := by simp
  obj := fun i h st b hb => by
    obtain ⟨⟨old, he⟩, ⟨o, ho, hc, hd⟩, _⟩ := st
    have e' : b = e ∨ b = it := by simpa using hb
    rcases e' with z | z
    · rw [z]; exact ⟨_, he, fun v q => nomatch q⟩
    · rw [z]; exact ⟨o, ho, fun v q => by rw [hd] at q; cases q⟩
  keep := fun i h h' st k => let ⟨⟨old, he⟩, hi, hne⟩ := st; ⟨⟨old, k e (by simp) _ he⟩, hi.at fun o q => k it (by simp) o q, hne⟩
  item := by
    intro X hP hw hK hc i pins s σ H E I hf st hg
    subst hP hw hK
    obtain ⟨⟨old, he⟩, hit, hne, hat, hea⟩ := st
    obtain ⟨xs, x, hq, hx⟩ := hg
    obtain ⟨its, rv, p, hz⟩ := I.tuple hq
    obtain ⟨u, hu, ru⟩ := rv.get hx
    have hel : e < s.heap.objs.size := Heap.lt_size he
    have hil : it < s.heap.objs.size := by obtain ⟨_, q, _⟩ := hit; exact Heap.lt_size q
    have hil2 : i < its.toArray.size := by
      have := (List.getElem?_eq_some_iff.mp hu).1
      simpa using this
    refine wpAny_pyNext_enum_itemD (Draws.tuple (prog := X.prog) (w := X.w) (A := X.A.in1) (I.ok.hd hc) it a hat its.toArray) he ⟨hit, p⟩ hil2 hne (by simp; exact ⟨hne, hea⟩) fun y h' tk hy ho hit' hT hsz hk => ?_
    have hy : its.toArray[i]? = some y := hy
    have : y = u := by
      have h1 : its[i]? = some y := by simpa using hy
      rw [hu] at h1
      exact (Option.some.inj h1).symm
    subst this
    refine ⟨_, rfl, wpAny_letOwnedTupleGo_enum (s := { s with heap := h', toks := tk + 1 }) ho fun h'' he' sb => ?_⟩
    have hT2 : h''.get? s.heap.objs.size = some { cls := .type "tuple", data := .seq #[.int i tk, y] } := (sb.2 _ (Nat.ne_of_gt hel)).trans hT
    have new : ObjOk X.prog X.w (upd H s.heap.objs.size (.tup [.int (i : Nat), x])) h'' s.heap.objs.size (.tup [.int (i : Nat), x]) :=
      ⟨by show 2 ≤ sizeLine; decide, [.int i tk, y], .cons ⟨_, rfl⟩ (.cons ru .nil), ⟨_, hT2, rfl, _, rfl⟩⟩
    have I1 : Inv X pins σ (upd H s.heap.objs.size (.tup [.int (i : Nat), x])) { s with heap := h'', toks := tk + 1 } :=
      I.turnedNew (ch := [e, it]) (fun b ob hb q => (sb.2 b (fun z => hb (by simp [z]))).trans (hk b ob (fun z => hb (by simp [z])) (fun z => hb (by simp [z])) q)) hf (Nat.le_refl _) new
    refine ⟨.ref s.heap.objs.size, _, I1, rfl, ⟨_, x, rfl, I.hok.fresh (Nat.le_refl _), rfl, fun ys hy => by rw [I.tuple_inj hy hq]; exact hx⟩, ⟨⟨y, ?_⟩, hit'.1.at fun o q => (sb.2 it (Ne.symm hne)).trans q, hne, hat, hea⟩, fun b hb => ?_⟩
    · have e1 : ((i + 1 : Nat) : Int) = (i : Int) + 1 := by omega
      rw [e1]; exact he'
    · have hb' : b < s.heap.objs.size := by
        have e' : b = e ∨ b = it := by simpa using hb
        rcases e' with z | z
        · rw [z]; exact hel
        · rw [z]; exact hil
      rw [upd_ne (Nat.ne_of_lt hb')]
      exact (hf b hb).1
  done := by
    intro X hP hw hK hc i pins s σ H E I hf st hg
    subst hP hw hK
    obtain ⟨⟨old, he⟩, hit, hne, hat, hea⟩ := st
    obtain ⟨xs, hq, hx⟩ := hg
    obtain ⟨its, rv, p, hz⟩ := I.tuple hq
    obtain ⟨f0, f1, f2, f3, f4, f5⟩ := hf it (by simp)
    have hl := rv.length
    refine enumT_end (I.ok.hd hc) he hit p (Array.getElem?_eq_none (by simp; omega)) fun h' eb => ⟨rfl, I.turned (t' := s.toks) (fun b o hb q => eb b o hb q) f0 f1 f3 f4 f5⟩
  self := fun A i s Q E st h => let ⟨⟨_, he⟩, _⟩ := st; wpAny_pyIter_enum he h
def iEnumT (K : PySem.W.Frag) (ta : TA) : TI := fun σ H R => ta σ H fun vs H1 => ∃ a xs, vs = [.ref a] ∧ SqT K H1 a xs ∧ R (IteT K a) H1
theorem pi_enumT {X : Cx} {e : Expr} {ta : TA} {p pos tpos : Pos} {elts : List Expr} {kk : Nat} (hg : Gl X "enumerate") (hm : X.mg "enumerate" = none) (ha : PA X [e] ta) (hs : starEach [e] X.env = [(false, eval e X.env)] := by rfl) :
    PI X (.Tuple elts kk tpos) (.Call (.Name "enumerate" p) [e] [] pos) (iEnumT X.K ta) := by
  refine ⟨fun pins s σ H R I h => ?_⟩
  refine Call_ (ld_blt I hg hm boot_enumerate (PyProof.Rows.callWith_type1 (thn (ha.run pos pins s σ H _ I h) fun us s1 ⟨vs, H1, I1, r1, q1⟩ => ?_) hs rfl))
  obtain ⟨a, xs, ex, hq, q⟩ := q1
  subst ex
  cases r1 with
  | cons r rr =>
    cases rr
    cases r
    obtain ⟨its, rv, p', hz⟩ := I1.tuple hq
    have hal : a < s1.heap.objs.size := by obtain ⟨_, z, _⟩ := p'; exact Heap.lt_size z
    refine enum1_begins (begins_tuple a its.toArray) p' fun h' he hit hsz hk => wpAny_pyIter_enum he ?_
    have I2 : Inv X pins σ H1 { s1 with heap := h' } := I1.kept (t' := s1.toks) hk
    refine ⟨s1.heap.objs.size + 1, [s1.heap.objs.size + 1, s1.heap.objs.size], _, _, H1, rfl, I2, turn_enumT a (s1.heap.objs.size + 1) s1.heap.objs.size, ⟨⟨.none, he⟩, ⟨_, hit, rfl, rfl⟩, Nat.succ_ne_self _, Nat.ne_of_lt hal, Nat.ne_of_gt (Nat.lt_succ_of_lt hal)⟩, fun b hb => ?_, q⟩
    have e' : b = s1.heap.objs.size + 1 ∨ b = s1.heap.objs.size := by simpa using hb
    have hle : s1.heap.objs.size ≤ b := by
      rcases e' with z | z
      · rw [z]; exact Nat.le_add_right _ _
      · rw [z]; exact Nat.le_refl _
    exact I1.fpOk hle (I1.hok.fresh hle)
section
variable {K : PySem.W.Frag} {b : Bool} {F : Addr → Prop} {θ : List Addr} {H : Hp}
theorem walkET {ds : List D} {vs : List V} {a : Addr} (hv : VRs K F θ H ds vs) (k : ∀ F' θ' H', Pw b F θ H F' θ' H' → SqT K H' a vs) : Walk K b F θ H (enumL 0 ds) (IteT K a) := by
  intro F' θ' mem H' p m
  have q := k F' θ' H' p
  refine ⟨fun i d e => ?_, vs, q, by rw [enumL_len]; exact Nat.le_of_eq hv.length.symm⟩
  obtain ⟨d', e0, rfl⟩ := enumL_get e
  obtain ⟨v, e1, r⟩ := hv.get e0
  refine ⟨⟨vs, v, q, e1⟩, fun x H'' y => ?_⟩
  obtain ⟨T, z, rfl, hT, rfl, y⟩ := y
  have e2 := y vs q
  rw [e1] at e2; cases e2
  rw [Nat.zero_add]
  exact tup_new m hT ⟨_, _, rfl, rfl, _, _, rfl, VR.mono p.1 _ _ r, rfl⟩
end
end Mp

set_option linter.all false
set_option autoImplicit false
set_option maxRecDepth 100000
set_option maxHeartbeats 1000000
/-! Mp13: readings of walks, targets, comprehensions, displays. -/
namespace Mp
open PySem PySem.Spec PyProof.Rows L2

/-! ### walks -/
section
variable (fr : Fr) (b : Bool)
def tAb (ev : Env → Mem → R D) : TE := fun σ H Q => ∃ F θ env mem d mem', SR fr F θ env mem σ H ∧ ev env mem = .ok d mem' ∧
  ∀ θ' v H', Tr θ H θ' H' → MS fr.K F θ' mem' H' → ARb fr.K b F θ' H' d v → Q v H'
def tI (ev : Env → Mem → R (List D)) : TI := fun σ H R => ∃ F θ env mem ds mem', SR fr F θ env mem σ H ∧ ev env mem = .ok ds mem' ∧
  ∀ θ' H' J, Tr θ H θ' H' → MS fr.K F θ' mem' H' → Walk fr.K b F θ' H' ds J → R J H'
end
theorem PIor {X : Cx} {tg e : Expr} {t t' : TI} (h : PI X tg e t) (h' : PI X tg e t') : PI X tg e (fun σ H R => t σ H R ∨ t' σ H R) :=
  ⟨fun pins s σ H R I q => q.elim (h.run pins s σ H R I) (h'.run pins s σ H R I)⟩
section
variable {X : Cx} {fr : Fr} {b : Bool} {Φ : Fs} {tg : Expr}
theorem piIt {e : Expr} {a : A} (hK : fr.K = X.K) (he : PE X e (tAb fr b (evA Φ a))) : PI X tg e (tI fr b (evI Φ (.it a))) := by
  refine PI.imp (PIor (PIor (pi_list he) (pi_tup he)) (pi_str he)) fun σ H R h => ?_
  obtain ⟨F, θ, env, mem, ds, mem', s, e, q⟩ := h
  obtain ⟨x, m1, e1, e⟩ := Mp.R.bind_ok e
  obtain ⟨e9, e8⟩ := Mp.R.ofO_ok e
  subst e8
  clear e
  have e := e9
  have lst : seqL x = some ds → ((iList X.K (tAb fr b (evA Φ a)) σ H R ∨ iTup X.K (tAb fr b (evA Φ a)) σ H R) ∨ iStr (tAb fr b (evA Φ a)) σ H R) := fun e2 => by
    refine .inl (.inl ⟨F, θ, env, mem, x, _, s, e1, fun θ' v H' t m r => ?_⟩)
    obtain ⟨c, vs, rfl, hv, hq, k⟩ := sqL_keep r m e2
    rw [hK] at *
    exact ⟨c, rfl, ⟨vs, hq⟩, q θ' H' _ t m (walkL hv k)⟩
  have tup : seqT x = some ds → ((iList X.K (tAb fr b (evA Φ a)) σ H R ∨ iTup X.K (tAb fr b (evA Φ a)) σ H R) ∨ iStr (tAb fr b (evA Φ a)) σ H R) := fun e2 => by
    refine .inl (.inr ⟨F, θ, env, mem, x, _, s, e1, fun θ' v H' t m r => ?_⟩)
    obtain ⟨c, vs, rfl, hv, hq, k⟩ := sqT_keep (b := b) r.1 e2
    rw [hK] at *
    exact ⟨c, rfl, ⟨vs, hq⟩, q θ' H' _ t m (walkT hv k)⟩
  cases x with
  | lst xs => exact lst e
  | scr ns => exact lst e
  | tup xs => exact tup e
  | kon c =>
    cases c with
    | tup xs => exact tup e
    | _ => cases e
  | str z =>
    cases e
    refine .inr ⟨F, θ, env, mem, _, _, s, e1, fun θ' v H' t m r => ?_⟩
    have h' : VR fr.K F θ' H' (.str z) v := by
      rcases r.1 with h | ⟨_, _, _, _, h, _⟩ | ⟨⟨_, q⟩, _⟩
      · exact h
      · exact h.elim
      · cases q
    obtain ⟨rfl, ok⟩ := h'
    exact ⟨tS z, rfl, q θ' H' _ t m (walkS ok)⟩
  | _ => cases e
theorem iRng1_of {a : E} {σ : L2.St} {H : Hp} {R : It → Hp → Prop} (h : tI fr b (evI Φ (.rg1 a)) σ H R) : iRng1 (tCons (tE fr (evE Φ a)) tNil) σ H R := by
  obtain ⟨F, θ, env, mem, ds, mem', s, e, q⟩ := h
  obtain ⟨x, m1, e1, e⟩ := Mp.R.bind_ok e
  split at e
  · split at e
    · rename_i j hj
      cases e
      refine ⟨F, θ, env, mem, _, _, s, e1, fun θ' v H' t m r => ⟨j, ?_, ?_, ?_, q θ' H' _ t m walkR⟩⟩
      · rw [show v = .int j from r]
      · unfold rngOk at hj; simp only [decide_eq_true_eq] at hj; exact hj.1
      · unfold rngOk at hj; simp only [decide_eq_true_eq] at hj; exact hj.2
    · cases e
  · cases e
theorem iRng2_of {a c : E} {σ : L2.St} {H : Hp} {R : It → Hp → Prop} (h : tI fr b (evI Φ (.rg2 a c)) σ H R) : iRng2 (tCons (tE fr (evE Φ a)) (tCons (tE fr (evE Φ c)) tNil)) σ H R := by
  obtain ⟨F, θ, env, mem, ds, mem', s, e, q⟩ := h
  obtain ⟨x, m1, e1, e⟩ := Mp.R.bind_ok e
  obtain ⟨y, m2, e2, e⟩ := Mp.R.bind_ok e
  split at e
  · split at e
    · rename_i hj
      cases e
      rename_i i j _
      rw [Bool.and_eq_true] at hj
      unfold rngOk at hj
      simp only [decide_eq_true_eq] at hj
      refine ⟨F, θ, env, mem, _, _, s, e1, fun θ1 v H1 t1 m1 r1 => ⟨F, θ1, env, _, _, _, s.step t1 m1, e2, fun θ' u H' t m r => ⟨i, j, ?_, ⟨hj.1.1, hj.1.2, hj.2.1, hj.2.2⟩, q θ' H' _ (t1.trans t) m walkR⟩⟩⟩
      rw [show v = .int i from r1, show u = .int j from r]
    · cases e
  · cases e
theorem iEnum_of {a : A} {σ : L2.St} {H : Hp} {R : It → Hp → Prop} (hK : fr.K = X.K) (h : tI fr b (evI Φ (.en a)) σ H R) : iEnum X.K (tCons (tAb fr b (evA Φ a)) tNil) σ H R := by
  obtain ⟨F, θ, env, mem, ds, mem', s, e, q⟩ := h
  obtain ⟨x, m1, e1, e⟩ := Mp.R.bind_ok e
  obtain ⟨e9, e8⟩ := Mp.R.ofO_ok e
  subst e8
  clear e
  have e := e9
  obtain ⟨xs, e2, rfl⟩ := Option.map_eq_some_iff.mp e
  refine ⟨F, θ, env, mem, x, _, s, e1, fun θ' v H' t m r => ?_⟩
  obtain ⟨c, vs, rfl, hv, hq, k⟩ := sqL_keep r m e2
  rw [hK] at *
  exact ⟨c, vs, rfl, hq, q θ' H' _ t m (walkE hv k)⟩
theorem iEnumT_of {a : A} {σ : L2.St} {H : Hp} {R : It → Hp → Prop} (hK : fr.K = X.K) (h : tI fr b (evI Φ (.enT a)) σ H R) : iEnumT X.K (tCons (tAb fr b (evA Φ a)) tNil) σ H R := by
  obtain ⟨F, θ, env, mem, ds, mem', s, e, q⟩ := h
  obtain ⟨x, m1, e1, e⟩ := Mp.R.bind_ok e
  obtain ⟨e9, e8⟩ := Mp.R.ofO_ok e
  subst e8
  clear e
  have e := e9
  obtain ⟨xs, e2, rfl⟩ := Option.map_eq_some_iff.mp e
  refine ⟨F, θ, env, mem, x, _, s, e1, fun θ' v H' t m r => ?_⟩
  obtain ⟨c, vs, rfl, hv, hq, k⟩ := sqT_keep (b := b) r.1 e2
  rw [hK] at *
  exact ⟨c, vs, rfl, hq, q θ' H' _ t m (walkET hv k)⟩
theorem ARb.step {K : PySem.W.Frag} {F : Addr → Prop} {θ θ' : List Addr} {H H' : Hp} {mem : Mem} {d : D} {v : V} (h : ARb K b F θ H d v) (t : Tr θ H θ' H') (m : MS K F θ mem H) : ARb K b F θ' H' d v := by
  refine ⟨h.1.step t m, fun e => ?_⟩
  rcases h.2 e with h | ⟨⟨xs, rfl⟩, h⟩
  · exact .inl (VR.mono t.fk _ _ h)
  · exact .inr ⟨⟨xs, rfl⟩, kon_mono t.fk h⟩
theorem iZip_of {a c : A} {σ : L2.St} {H : Hp} {R : It → Hp → Prop} (hK : fr.K = X.K) (h : tI fr b (evI Φ (.zip a c)) σ H R) : RZ.iZipA X.K (tCons (tAb fr b (evA Φ a)) (tCons (tAb fr b (evA Φ c)) tNil)) σ H R := by
  obtain ⟨F, θ, env, mem, ds, mem', s, e, q⟩ := h
  obtain ⟨x, m1, e1, e⟩ := Mp.R.bind_ok e
  obtain ⟨y, m2, e2, e⟩ := Mp.R.bind_ok e
  obtain ⟨e9, e8⟩ := Mp.R.ofO_ok e
  subst e8
  clear e
  have e := e9
  refine ⟨F, θ, env, mem, x, _, s, e1, fun θ1 v H1 t1 ms1 r1 => ⟨F, θ1, env, _, y, _, s.step t1 ms1, e2, fun θ' u H' t m r => ?_⟩⟩
  have r1 := r1.step t ms1
  unfold zipD at e
  split at e
  · rename_i xs ys h1 h2
    cases e
    obtain ⟨p1, vs, rfl, hv, hq, k⟩ := sqL_keep r1 m h1
    obtain ⟨p2, us, rfl, hu, hq', k'⟩ := sqL_keep r m h2
    rw [hK] at *
    exact ⟨p1, p2, vs, us, rfl, .inl ⟨hq, hq', q θ' H' _ (t1.trans t) m (walkZ hv hu k k')⟩⟩
  · split at e
    · rename_i xs ys h1 h2
      cases e
      obtain ⟨p1, vs, rfl, hv, hq, k⟩ := sqT_keep (b := b) r1.1 h1
      obtain ⟨p2, us, rfl, hu, hq', k'⟩ := sqT_keep (b := b) r.1 h2
      rw [hK] at *
      exact ⟨p1, p2, vs, us, rfl, .inr ⟨hq, hq', q θ' H' _ (t1.trans t) m (walkZT hv hu k k')⟩⟩
    · cases e
end

/-! ### targets -/
mutual
def G.sl : G → List Nat
  | .nm i => [i]
  | .tp gs => gs.sl
def Gs.sl : Gs → List Nat
  | .nil => []
  | .cons g r => g.sl ++ r.sl
end
def Gs.len : Gs → Nat
  | .nil => 0
  | .cons _ r => r.len + 1
section
variable (fr : Fr)
/-- stored: the slots of the target alone -/
def Sto (sl : List Nat) (σ σ' : L2.St) : Prop := ∀ vs : List Nat, (∀ i ∈ sl, i ∈ vs) → wipe σ' vs = wipe σ vs
def gG (g : G) : TG := fun v σ H Q => ∃ F θ env mem d env', SR fr F θ env mem σ H ∧ VR fr.K F θ H d v ∧ bindG g d env = some env' ∧ ∀ σ', Sto g.sl σ σ' → SR fr F θ env' mem σ' H → Q σ' H
def gGs (gs : Gs) : TGs := fun vs σ H Q => ∃ F θ env mem ds env', SR fr F θ env mem σ H ∧ VRs fr.K F θ H ds vs ∧ bindGs gs ds env = some env' ∧ ∀ σ', Sto gs.sl σ σ' → SR fr F θ env' mem σ' H → Q σ' H
end
theorem wipe_set {σ : L2.St} {i : Nat} {x : Option V} : ∀ {vs : List Nat}, i ∈ vs → wipe (σ.set i x) vs = wipe σ vs
  | v :: vs, h => by
    unfold wipe
    by_cases hi : i ∈ vs
    · rw [wipe_set hi]
    · have : i = v := by
        rcases List.mem_cons.mp h with e | e
        · exact e
        · exact absurd e hi
      subst this
      have ind : ∀ {vs : List Nat}, i ∉ vs → wipe (σ.set i x) vs = (wipe σ vs).set i x := fun {vs} => by
        induction vs with
        | nil => intro _; rfl
        | cons w ws ih =>
          intro hn
          unfold wipe
          rw [ih (fun z => hn (List.mem_cons_of_mem _ z)), List.set_comm]
          exact fun z => hn (by rw [z]; exact List.mem_cons_self)
      rw [ind hi, List.set_set]
theorem wipe_wipe {σ : L2.St} : ∀ {vs ws : List Nat}, (∀ i ∈ vs, i ∈ ws) → wipe (wipe σ vs) ws = wipe σ ws
  | [], _, _ => rfl
  | v :: vs, ws, h => by
    show wipe ((wipe σ vs).set v none) ws = _
    rw [wipe_set (h v List.mem_cons_self), wipe_wipe fun i hi => h i (List.mem_cons_of_mem _ hi)]
theorem wipe_idem (σ : L2.St) (vs : List Nat) : wipe (wipe σ vs) vs = wipe σ vs := wipe_wipe fun _ h => h
section
variable {fr : Fr}
theorem gNm {i : Nat} {v : V} {σ : L2.St} {H : Hp} {Q : L2.St → Hp → Prop} (h : gG fr (.nm i) v σ H Q) : gName i v σ H Q := by
  obtain ⟨F, θ, env, mem, d, env', s, r, e, q⟩ := h
  unfold bindG at e
  split at e
  · cases e
  · cases e
    exact q _ (fun vs hv => wipe_set (hv i (by simp [G.sl]))) (s.setVal i r)
theorem gTp {gs : Gs} {v : V} {σ : L2.St} {H : Hp} {Q : L2.St → Hp → Prop} (h : gG fr (.tp gs) v σ H Q) : gTup fr.K gs.len (gGs fr gs) v σ H Q := by
  obtain ⟨F, θ, env, mem, d, env', s, r, e, q⟩ := h
  cases d with
  | tup ds =>
    simp only [VR] at r
    obtain ⟨a, vs, rfl, h1, _, _, hv⟩ := r
    have hl : ∀ (gs : Gs) (ds : List D) (env env' : Env), bindGs gs ds env = some env' → ds.length = gs.len := by
      intro gs
      induction gs using Gs.rec (motive_1 := fun _ => True) with
      | nm => trivial
      | tp => trivial
      | nil =>
        intro ds env env' e
        cases ds with
        | nil => rfl
        | cons => cases e
      | cons g r _ ih =>
        intro ds env env' e
        cases ds with
        | nil => cases e
        | cons d ds =>
          obtain ⟨e1, _, e2⟩ := Option.bind_eq_some_iff.mp e
          show ds.length + 1 = r.len + 1
          rw [ih ds _ _ e2]
    exact ⟨a, vs, rfl, SqT.of h1, by rw [← hv.length]; exact hl gs ds _ _ e, F, θ, env, mem, ds, env', s, hv, e, q⟩
  | _ => cases e
theorem gNil' {vs : List V} {σ : L2.St} {H : Hp} {Q : L2.St → Hp → Prop} (h : gGs fr .nil vs σ H Q) : gNil vs σ H Q := by
  obtain ⟨F, θ, env, mem, ds, env', s, r, e, q⟩ := h
  cases ds with
  | nil =>
    cases e
    exact ⟨r, q σ (fun _ _ => rfl) s⟩
  | cons => cases e
theorem gCons' {g : G} {r : Gs} {vs : List V} {σ : L2.St} {H : Hp} {Q : L2.St → Hp → Prop} (h : gGs fr (.cons g r) vs σ H Q) : gCons (gG fr g) (gGs fr r) vs σ H Q := by
  obtain ⟨F, θ, env, mem, ds, env', s, hv, e, q⟩ := h
  cases ds with
  | nil => cases e
  | cons d ds =>
    obtain ⟨e1, h1, h2⟩ := Option.bind_eq_some_iff.mp e
    obtain ⟨v, us, rfl, r1, r2⟩ := hv
    refine ⟨v, us, rfl, F, θ, env, mem, d, e1, s, r1, h1, fun σ' st s' => ⟨F, θ, e1, mem, ds, env', s', r2, h2, fun σ'' st' s'' => q σ'' (fun ws hw => ?_) s''⟩⟩
    rw [st' ws fun i hi => hw i (by simp only [Gs.sl]; exact List.mem_append_right _ hi), st ws fun i hi => hw i (by simp only [Gs.sl]; exact List.mem_append_left _ hi)]
end

/-! ### comprehensions -/
theorem ite_pos' {c a b : Prop} [Decidable c] (h : c) (q : a) : if c then a else b := by rw [if_pos h]; exact q
theorem ite_neg' {c a b : Prop} [Decidable c] (h : ¬ c) (q : b) : if c then a else b := by rw [if_neg h]; exact q
section
variable {fr : Fr} {F F' : Addr → Prop} {θ θ' : List Addr} {H H' : Hp} {env : Env} {mem mem' : Mem} {σ : L2.St}
theorem wipeE_len : ∀ (env : Env) (own : List Nat), (wipeE env own).length = env.length
  | _, [] => rfl
  | env, i :: r => by unfold wipeE; rw [st_length, wipeE_len env r]
theorem SL.wipe (s : SL fr F θ env σ H) : ∀ own : List Nat, SL fr F θ (wipeE env own) (L2.wipe σ own) H
  | [] => s
  | i :: r => by
    have ih := SL.wipe s r
    unfold wipeE L2.wipe
    refine ⟨by rw [st_length, List.length_set]; exact ih.len, fun j d e => ?_, fun j d e => ?_, fun j l d d' a e1 e2 h1 h2 => ?_⟩
    · by_cases hj : i = j
      · subst hj
        by_cases hl : i < (wipeE env r).length
        · rw [gt_st_same hl] at e; cases e
        · rw [gt_ge (by rw [st_length]; omega)] at e; cases e
      · rw [gt_st_ne hj] at e
        rw [List.getElem?_set_ne hj]
        exact ih.val j d e
    · by_cases hj : i = j
      · subst hj
        by_cases hl : i < (wipeE env r).length
        · rw [gt_st_same hl] at e; cases e
        · rw [gt_ge (by rw [st_length]; omega)] at e; cases e
      · rw [gt_st_ne hj] at e
        rw [List.getElem?_set_ne hj]
        exact ih.own j d e
    · have nj : ∀ {j : Nat} {d' : D}, gt (st (wipeE env r) i .no) j = .own d' → i ≠ j := fun {j d'} e z => by
        subst z
        by_cases hl : i < (wipeE env r).length
        · rw [gt_st_same hl] at e; cases e
        · rw [gt_ge (by rw [st_length]; omega)] at e; cases e
      have n1 := nj e1
      have n2 := nj e2
      rw [gt_st_ne n1] at e1
      rw [gt_st_ne n2] at e2
      rw [List.getElem?_set_ne n1] at h1
      rw [List.getElem?_set_ne n2] at h2
      exact ih.uni j l d d' a e1 e2 h1 h2
theorem SR.wipe (s : SR fr F θ env mem σ H) (own : List Nat) : SR fr F θ (wipeE env own) mem (L2.wipe σ own) H := ⟨s.ms, s.bs, s.sl.wipe own⟩
/-- an own list takes one more item -/
theorem MS.own_upd {K : PySem.W.Frag} {D : Addr} {o' : HO} (m : MS K F θ mem H) (f : F D) (hn : ∀ xs, o' ≠ .tup xs) : MS K F θ mem (upd H D o') := by
  have k : Fk F θ H F θ (upd H D o') := ⟨fun a u e nf nt => ⟨by rw [upd_ne (fun z => nf (by rw [z]; exact f))]; exact e, nf, nt⟩, fun _ _ e => e⟩
  refine m.mono k (fun a ha u e => ?_) m.Fθ fun a z => ?_
  · rw [upd_ne (fun z => m.Fθ D f (by rw [← z]; exact ha))]; exact e
  · by_cases h : a = D
    · subst h; exact ⟨o', upd_same, hn⟩
    · obtain ⟨u, e, n⟩ := m.Fd a z
      exact ⟨u, by rw [upd_ne h]; exact e, n⟩
theorem own_fk {D : Addr} {o' : HO} (f : F D) : Fk F θ H F θ (upd H D o') := ⟨fun a u e nf nt => ⟨by rw [upd_ne (fun z => nf (by rw [z]; exact f))]; exact e, nf, nt⟩, fun _ _ e => e⟩

theorem compL_cons {env : Env} {g : G} {tst elt : Env → Mem → R D} {d : D} {ds : List D} {m m' : Mem} {ys : List D} (h : compL env g tst elt (d :: ds) m = .ok ys m') :
    ∃ e1 b m1, bindG g d env = some e1 ∧ tst e1 m = .ok (.bl b) m1 ∧ (if b = true then ∃ x m2 r, elt e1 m1 = .ok x m2 ∧ compL env g tst elt ds m2 = .ok r m' ∧ ys = x :: r else compL env g tst elt ds m1 = .ok ys m') := by
  unfold compL at h
  split at h
  · cases h
  · rename_i e1 he
    obtain ⟨c, m1, h1, h⟩ := Mp.R.bind_ok h
    refine ⟨e1, ?_⟩
    split at h
    · obtain ⟨x, m2, h2, h⟩ := Mp.R.bind_ok h
      obtain ⟨r, m3, h3, h⟩ := Mp.R.bind_ok h
      cases h
      exact ⟨true, m1, he, h1, x, m2, r, h2, h3, rfl⟩
    · exact ⟨false, m1, he, h1, h⟩
    · cases h
theorem tF.comp {Φ : Fs} {own : List Nat} {g : G} {it : I} {ifs : EO} {elt : E} {Q : VK} (hg : ∀ i ∈ g.sl, i ∈ own) (h : tF fr (evF Φ (.comp own g it ifs elt)) σ H Q) :
    tLc (tI fr true (evI Φ it)) (gG fr g) (tT fr (evT Φ ifs)) (tE fr (evE Φ elt)) own σ H Q := by
  obtain ⟨F, θ, env, mem, d, mem', s, e, q⟩ := h
  unfold evF at e
  split at e
  · rename_i hno
    obtain ⟨ds, m1, e1, e⟩ := Mp.R.bind_ok e
    split at e
    · rename_i hlen
      obtain ⟨ys, m2, e2, e⟩ := Mp.R.bind_ok e
      cases e
      refine ⟨F, θ, env, mem, ds, m1, s, e1, fun θ1 H1 J t1 ms1 wk D hD => ?_⟩
      have ms1' : MS fr.K (plus F D) θ1 m1 (upd H1 D (.lst [])) := ms1.laidOwn hD (fun _ z => nomatch z)
      refine ⟨fun i m H2 => m = ds.length - i ∧ i ≤ ds.length ∧ ∃ θi mi acc xs r, MS fr.K (plus F D) θi mi H2 ∧ Tr θ1 H1 θi H2 ∧ H2 D = some (.lst acc) ∧ acc.length ≤ i ∧ VRs fr.K (plus F D) θi H2 xs acc ∧
        compL (wipeE env own) g (fun e m => evT Φ ifs e m) (fun e m => evE Φ elt e m) (ds.drop i) mi = .ok r mem' ∧ xs ++ r = ys, ⟨ds.length, by simp, Nat.zero_le _, θ1, m1, [], [], ys, ms1', Tr.laid hD, upd_same, Nat.zero_le _, rfl, e2, rfl⟩, ?_⟩
      rintro i m H2 ⟨rfl, hi, θi, mi, acc, xs, r, ms, t, hDl, hacc, hv, hc, hr⟩
      have np : ¬ F D := (ms1.fresh hD).2
      have fk : Fk F θ1 H1 (plus F D) θi H2 := ⟨fun a o e f z => by
        obtain ⟨h1, _, h3⟩ := (t.fk (F := F)).keep a o e f z
        exact ⟨h1, fun y => y.elim f (ne_of_none e hD), h3⟩, t.pre⟩
      obtain ⟨w1, w2⟩ := wk (plus F D) θi mi H2 ⟨fk, fun _ => t⟩ ms
      by_cases hlt : i < ds.length
      · have hdi : ds[i]? = some ds[i] := List.getElem?_eq_getElem hlt
        obtain ⟨go, yl⟩ := w1 i _ hdi
        refine .inr ⟨go, fun H' => ∃ θi mi acc xs r, MS fr.K (plus F D) θi mi H' ∧ Tr θ1 H1 θi H' ∧ H' D = some (.lst acc) ∧ acc.length ≤ i + 1 ∧ VRs fr.K (plus F D) θi H' xs acc ∧
          compL (wipeE env own) g (fun e m => evT Φ ifs e m) (fun e m => evE Φ elt e m) (ds.drop (i + 1)) mi = .ok r mem' ∧ xs ++ r = ys, fun H' hN => ⟨ds.length - (i + 1), by omega, rfl, hlt, hN⟩, fun x H3 y => ?_⟩
        obtain ⟨t3, ms3, rx⟩ := yl x H3 y
        have fD : (plus F D) D := .inr rfl
        have nθ : D ∉ θi := ms.Fθ D fD
        have hD3 : H3 D = some (.lst acc) := t3.keep D _ hDl nθ
        have tt3 : Tr θ1 H1 θi H3 := t.trans t3
        have hv3 := VRs.mono t3.fk xs acc hv
        have s3 : SR fr (plus F D) θi (wipeE env own) mi (L2.wipe σ own) H3 := ((s.step t1 ms1).own tt3 hD ms3).wipe own
        rw [List.drop_eq_getElem_cons hlt] at hc
        obtain ⟨ev1, b, mt, hb, ht, hc⟩ := compL_cons hc
        refine ⟨plus F D, θi, wipeE env own, mi, ds[i], ev1, s3, rx, hb, fun σ2 sto s4 => ⟨?_, ?_⟩⟩
        · rw [sto own hg, wipe_idem]
        · refine ⟨plus F D, θi, ev1, mi, b, mt, s4, ht, fun θ5 H5 t5 ms5 => ?_⟩
          have hD5 : H5 D = some (.lst acc) := t5.keep D _ hD3 nθ
          have hv5 := VRs.mono t5.fk xs acc hv3
          cases b with
          | true =>
            rw [if_pos rfl] at hc
            refine ite_pos' rfl ?_
            obtain ⟨z, m6, r6, he, hc', rfl⟩ := hc
            refine ⟨plus F D, θ5, ev1, mt, z, m6, s4.step t5 ms5, he, fun θ6 u H6 t6 ms6 r6' => ?_⟩
            have hD6 : H6 D = some (.lst acc) := t6.keep D _ hD5 (ms5.Fθ D fD)
            refine ⟨acc, hD6, by have : sizeLine = line := sizeLine_eq; omega, ?_⟩
            have kk : Fk (plus F D) θ6 H6 (plus F D) θ6 (upd H6 D (.lst (acc ++ [u]))) := own_fk fD
            refine ⟨θ6, m6, acc ++ [u], xs ++ [z], r6, ms6.own_upd fD (fun _ z => nomatch z), ?_, upd_same, ?_, VRs.append (VRs.mono kk _ _ (VRs.mono t6.fk xs acc hv5)) ⟨u, [], rfl, VR.mono kk _ _ r6', rfl⟩, hc', ?_⟩
            · have t7 := (tt3.trans t5).trans t6
              exact ⟨fun a o e z => by rw [upd_ne (ne_of_none e hD)]; exact t7.keep a o e z, t7.pre, t7.fresh⟩
            · rw [List.length_append, List.length_singleton]; omega
            · rw [List.append_assoc]; exact hr
          | false =>
            rw [if_neg Bool.false_ne_true] at hc
            refine ite_neg' Bool.false_ne_true ?_
            exact ⟨θ5, mt, acc, xs, r, ms5, tt3.trans t5, hD5, by omega, hv5, hc, hr⟩
      · have hi' : i = ds.length := by omega
        subst hi'
        refine .inl ⟨w2, ?_⟩
        rw [List.drop_length] at hc
        cases hc
        rw [List.append_nil] at hr
        subst hr
        exact q θi D _ H2 (t1.trans t) (ms1.was (m' := ms1) .refl hD |> fun z => s.ms.was ms1 t1 z) hDl ms ⟨acc, rfl, hv⟩
    · cases e
  · cases e
end
end Mp

set_option linter.all false
set_option autoImplicit false
set_option maxRecDepth 100000
set_option maxHeartbeats 1000000
/-! Mp14: readings of the other expressions; displays; calls. -/
namespace Mp
open PySem PySem.Spec PyProof.Rows L2

section
variable {fr : Fr} {σ : L2.St} {H : Hp} {Φ : Fs} {Q : VK}
theorem tE.cmp {c : Cmp} {a b : A} (h : tE fr (evE Φ (.cmp c a b)) σ H Q) :
    tOp (fun x y H Q => ∃ F θ d e b, Cn fr.K F θ H d x ∧ Cn fr.K F θ H e y ∧ c.run2 d e = some b ∧ Q (.bl b) H) (tA fr (evA Φ a)) (tA fr (evA Φ b)) σ H Q := by
  obtain ⟨F, θ, env, mem, d, mem', s, e, q⟩ := h
  obtain ⟨x, m1, e1, e⟩ := Mp.R.bind_ok e
  obtain ⟨y, m2, e2, e⟩ := Mp.R.bind_ok e
  obtain ⟨e9, e8⟩ := Mp.R.ofO_ok e
  subst e8
  clear e
  have e := e9
  clear e9
  obtain ⟨x', e3, e⟩ := Option.bind_eq_some_iff.mp e
  obtain ⟨y', e4, e⟩ := Option.bind_eq_some_iff.mp e
  obtain ⟨r, e5, rfl⟩ := Option.map_eq_some_iff.mp e
  refine ⟨F, θ, env, mem, x, m1, s, e1, fun θ1 v H1 t1 ms1 r1 => ⟨F, θ1, env, m1, y, _, s.step t1 ms1, e2, fun θ2 u H2 t2 ms2 r2 => ?_⟩⟩
  exact ⟨F, θ2, x', y', r, (r1.step t2 ms1).cn ms2 e3, r2.cn ms2 e4, e5, q θ2 _ H2 (t1.trans t2) ms2 rfl⟩
theorem tE.inn {neg : Bool} {a : E} {b : A} (h : tE fr (evE Φ (.inn neg a b)) σ H Q) : tOp (rInn fr.K neg) (tE fr (evE Φ a)) (tA fr (evA Φ b)) σ H Q := by
  obtain ⟨F, θ, env, mem, d, mem', s, e, q⟩ := h
  obtain ⟨x, m1, e1, e⟩ := Mp.R.bind_ok e
  obtain ⟨y, m2, e2, e⟩ := Mp.R.bind_ok e
  obtain ⟨e9, e8⟩ := Mp.R.ofO_ok e
  subst e8
  clear e
  have e := e9
  clear e9
  obtain ⟨y', e4, e⟩ := Option.bind_eq_some_iff.mp e
  obtain ⟨r, e5, rfl⟩ := Option.map_eq_some_iff.mp e
  refine ⟨F, θ, env, mem, x, m1, s, e1, fun θ1 v H1 t1 ms1 r1 => ⟨F, θ1, env, m1, y, _, s.step t1 ms1, e2, fun θ2 u H2 t2 ms2 r2 => ?_⟩⟩
  exact ⟨F, θ2, x, y', r, VR.mono t2.fk _ _ r1, r2.cn ms2 e4, e5, q θ2 _ H2 (t1.trans t2) ms2 rfl⟩
theorem tE.idx {a : A} {i : E} (h : tE fr (evE Φ (.idx a i)) σ H Q) : tOp (rIdx fr.K) (tA fr (evA Φ a)) (tE fr (evE Φ i)) σ H Q := by
  obtain ⟨F, θ, env, mem, d, mem', s, e, q⟩ := h
  obtain ⟨x, m1, e1, e⟩ := Mp.R.bind_ok e
  obtain ⟨y, m2, e2, e⟩ := Mp.R.bind_ok e
  obtain ⟨e9, e8⟩ := Mp.R.ofO_ok e
  subst e8
  clear e
  have e := e9
  clear e9
  obtain ⟨x', e3, e⟩ := Option.bind_eq_some_iff.mp e
  refine ⟨F, θ, env, mem, x, m1, s, e1, fun θ1 v H1 t1 ms1 r1 => ⟨F, θ1, env, m1, y, _, s.step t1 ms1, e2, fun θ2 u H2 t2 ms2 r2 => ?_⟩⟩
  exact ⟨F, θ2, x', y, d, (r1.step t2 ms1).cn ms2 e3, r2, e, fun w r => q θ2 w H2 (t1.trans t2) ms2 r⟩
theorem tO.none {Q : Option Int → Hp → Prop} (h : tO fr (evO Φ .no) σ H Q) : tNoPart σ H Q := by
  obtain ⟨F, θ, env, mem, d, mem', s, e, q⟩ := h
  cases e
  exact q θ H .refl s.ms
theorem tO.some {a : E} {Q : Option Int → Hp → Prop} (h : tO fr (evO Φ (.so a)) σ H Q) : tPart (tE fr (evE Φ a)) σ H Q := by
  obtain ⟨F, θ, env, mem, d, mem', s, e, q⟩ := h
  obtain ⟨x, m1, e1, e⟩ := Mp.R.bind_ok e
  obtain ⟨e9, e8⟩ := Mp.R.ofO_ok e
  subst e8
  clear e
  have e := e9
  clear e9
  obtain ⟨i, e5, rfl⟩ := Option.map_eq_some_iff.mp e
  refine ⟨F, θ, env, mem, x, _, s, e1, fun θ' v H' t m r => ?_⟩
  cases x with
  | int j => cases e5; exact ⟨_, r, q θ' H' t m⟩
  | _ => cases e5
theorem tE.slc {a : A} {lo hi : EO} (h : tE fr (evE Φ (.slc a lo hi)) σ H Q) : tSl (rSlc fr.K) (tA fr (evA Φ a)) (tO fr (evO Φ lo)) (tO fr (evO Φ hi)) σ H Q := by
  obtain ⟨F, θ, env, mem, d, mem', s, e, q⟩ := h
  obtain ⟨x, m1, e1, e⟩ := Mp.R.bind_ok e
  obtain ⟨l, m2, e2, e⟩ := Mp.R.bind_ok e
  obtain ⟨u, m3, e3, e⟩ := Mp.R.bind_ok e
  obtain ⟨e9, e8⟩ := Mp.R.ofO_ok e
  subst e8
  clear e
  have e := e9
  clear e9
  obtain ⟨x', e4, e⟩ := Option.bind_eq_some_iff.mp e
  refine ⟨F, θ, env, mem, x, m1, s, e1, fun θ1 v H1 t1 ms1 r1 => ⟨F, θ1, env, m1, l, m2, s.step t1 ms1, e2, fun θ2 H2 t2 ms2 => ⟨F, θ2, env, m2, u, _, (s.step t1 ms1).step t2 ms2, e3, fun θ3 H3 t3 ms3 => ?_⟩⟩⟩
  exact ⟨F, θ3, x', d, ((r1.step t2 ms1).step t3 ms2).cn ms3 e4, e, fun w H' n => q θ3 w H' (((t1.trans t2).trans t3).trans n.tr) (n.ms ms3) (n.vr ms3)⟩
theorem tE.jn {a : E} {b : A} (h : tE fr (evE Φ (.jn a b)) σ H Q) : tBM fr.K "str" (rJoin fr.K) (tE fr (evE Φ a)) (tCons (tA fr (evA Φ b)) tNil) σ H Q := by
  obtain ⟨F, θ, env, mem, d, mem', s, e, q⟩ := h
  obtain ⟨x, m1, e1, e⟩ := Mp.R.bind_ok e
  obtain ⟨y, m2, e2, e⟩ := Mp.R.bind_ok e
  obtain ⟨e9, e8⟩ := Mp.R.ofO_ok e
  subst e8
  clear e
  have e := e9
  clear e9
  obtain ⟨y', e4, e⟩ := Option.bind_eq_some_iff.mp e
  refine ⟨F, θ, env, mem, x, m1, s, e1, fun θ1 v H1 t1 ms1 r1 => ⟨?_, F, θ1, env, m1, y, _, s.step t1 ms1, e2, fun θ2 u H2 t2 ms2 r2 => ?_⟩⟩
  · cases x with
    | str z => rw [(show v = .str (tS z) ∧ _ from r1).1]; rfl
    | _ => cases e
  · exact ⟨u, F, θ2, x, y', d, rfl, (VR.mono t2.fk _ _ r1).cn, r2.cn ms2 e4, e, fun w H' n => q θ2 w H' ((t1.trans t2).trans n.tr) (n.ms ms2) (n.vr ms2)⟩
/-- a text's method -/
def rSm (K : PySem.W.Frag) (o : Sm) : V → List V → Hp → VK → Prop := fun x xs H Q => ∃ s F θ ds r, x = .str (tS s) ∧ okT s = true ∧ VRs K F θ H ds xs ∧ o.run s ds = some r ∧ ∀ w H', New K F θ H r w H' → Q w H'
def Sm.id : Sm → String
  | .split => "str.split" | .index => "str.index"
theorem keepS_val {x : PySem.Str} {d : Mp.D} {K : PySem.W.Frag} {F : Addr → Prop} {θ : List Addr} {H : Hp} (h : keepS x = some d) : VR K F θ H d (.str x) := by
  unfold keepS at h
  split at h
  · rename_i ok
    cases h
    exact ⟨by rw [tS_of], ok⟩
  · cases h
theorem keepL_val {K : PySem.W.Frag} {F : Addr → Prop} {θ : List Addr} {H : Hp} : ∀ {xs : List PySem.Str} {ds : List Mp.D}, keepL xs = some ds → VRs K F θ H ds (xs.map V.str)
  | [], ds, h => by cases h; exact rfl
  | x :: r, ds, h => by
    obtain ⟨d, h1, h⟩ := Option.bind_eq_some_iff.mp h
    obtain ⟨es, h2, rfl⟩ := Option.map_eq_some_iff.mp h
    exact ⟨.str x, r.map V.str, rfl, keepS_val h1, keepL_val h2⟩
theorem mSm {X : Cx} (o : Sm) : MtR X o.id (rSm X.K o) := by
  intro pins s σ H x xs v us Q I rx rs hh
  obtain ⟨t, F, θ, ds, r, rfl, ok, hv, hr, q⟩ := hh
  cases o with
  | split =>
    unfold Sm.run at hr
    split at hr
    · split at hr
      · rename_i t _ _ _ t' _ hc
        obtain ⟨ys, hy, rfl⟩ := Option.map_eq_some_iff.mp hr
        obtain ⟨u, w, rfl, hu, hw⟩ := hv
        cases (show w = [] from hw)
        obtain ⟨rfl, _⟩ := (show u = .str (tS t') ∧ _ from hu)
        refine mt_split pins s σ H _ _ v us Q I rx rs ⟨tS t, tS t', rfl, rfl, ?_, ?_, fun p hp => ?_⟩
        · rw [tS_len]
          cases t' with
          | nil => exact absurd rfl hc.1
          | cons => rfl
        · rw [tS_len, sizeLine_eq]; exact hc.2
        · exact q _ _ ⟨p, _, rfl, hp, rfl, keepL_val hy⟩
      · cases hr
    · rename_i h; cases h
    · cases hr
  | index =>
    unfold Sm.run at hr
    split at hr
    · rename_i h; cases h
    · split at hr
      · trace_state
        rename_i t _ _ _ t' _ _ i r' ho
        cases hr
        obtain ⟨u, w, rfl, hu, hw⟩ := hv
        cases (show w = [] from hw)
        obtain ⟨rfl, _⟩ := (show u = .str (tS t') ∧ _ from hu)
        refine mt_sindex pins s σ H _ _ v us Q I rx rs ⟨tS t, tS t', i, r', rfl, rfl, by rw [tS_len]; exact ho, q _ _ ⟨rfl, rfl⟩⟩
      · cases hr
    · cases hr
theorem tE.sm {o : Sm} {a : E} {es : Es} (h : tE fr (evE Φ (.sm o a es)) σ H Q) : tBM fr.K "str" (rSm fr.K o) (tE fr (evE Φ a)) (tEs fr (evEs Φ es)) σ H Q := by
  obtain ⟨F, θ, env, mem, d, mem', s, e, q⟩ := h
  obtain ⟨x, m1, e1, e⟩ := Mp.R.bind_ok e
  obtain ⟨ys, m2, e2, e⟩ := Mp.R.bind_ok e
  cases x with
  | str t =>
    obtain ⟨e9, e8⟩ := Mp.R.ofO_ok e
    subst e8
    refine ⟨F, θ, env, mem, _, m1, s, e1, fun θ1 v H1 t1 ms1 r1 => ?_⟩
    obtain ⟨rfl, ok⟩ := (show v = .str (tS t) ∧ _ from r1)
    refine ⟨rfl, F, θ1, env, m1, ys, _, s.step t1 ms1, e2, fun θ2 us H2 t2 ms2 r2 => ?_⟩
    exact ⟨t, F, θ2, ys, d, rfl, ok, r2, e9, fun w H' n => q θ2 w H' ((t1.trans t2).trans n.tr) (n.ms ms2) (n.vr ms2)⟩
  | _ => cases e
theorem tE.isi {a : A} {t : Ty} (h : tE fr (evE Φ (.isi a t)) σ H Q) :
    tCB (fun xs H Q => ∃ x F θ d b, xs = [x, .ty t.nm] ∧ Cn fr.K F θ H d x ∧ isT t d = some b ∧ Q (.bl b) H) (tCons (tA fr (evA Φ a)) (tCons (tC (.ty t.nm)) tNil)) σ H Q := by
  obtain ⟨F, θ, env, mem, d, mem', s, e, q⟩ := h
  obtain ⟨x, m1, e1, e⟩ := Mp.R.bind_ok e
  obtain ⟨e9, e8⟩ := Mp.R.ofO_ok e
  subst e8
  clear e
  have e := e9
  clear e9
  obtain ⟨x', e4, e⟩ := Option.bind_eq_some_iff.mp e
  obtain ⟨r, e5, rfl⟩ := Option.map_eq_some_iff.mp e
  exact ⟨F, θ, env, mem, x, _, s, e1, fun θ1 v H1 t1 ms1 r1 => ⟨v, F, θ1, x', r, rfl, r1.cn ms1 e4, e5, q θ1 _ H1 t1 ms1 rfl⟩⟩
theorem tE.get {a : A} {k d : E} (h : tE fr (evE Φ (.get a k d)) σ H Q) : tDGet2 (tA fr (evA Φ a)) (tE fr (evE Φ k)) (tE fr (evE Φ d)) σ H Q := by
  obtain ⟨F, θ, env, mem, d, mem', s, e, q⟩ := h
  obtain ⟨x, m1, e1, e⟩ := Mp.R.bind_ok e
  split at e
  · rename_i hi
    obtain ⟨y, m2, e2, e⟩ := Mp.R.bind_ok e
    obtain ⟨z, m3, e3, e⟩ := Mp.R.bind_ok e
    refine ⟨F, θ, env, mem, x, m1, s, e1, fun θ1 v H1 t1 ms1 r1 => ?_⟩
    obtain ⟨c, hv, hd⟩ : ∃ c, v = .ref c ∧ IsD H1 c := by
      cases ex : vw m1 x with
      | none => rw [ex] at hi; cases hi
      | some x' =>
        rw [ex] at hi
        cases x' with
        | dct t kvs =>
          have cn := r1.cn ms1 ex
          cases t with
          | false => obtain ⟨a, ws, rfl, q, _⟩ := cn; exact ⟨a, rfl, .inl ⟨ws, q⟩⟩
          | true => obtain ⟨a, ws, rfl, q, _⟩ := cn; exact ⟨a, rfl, .inr ⟨ws, q⟩⟩
        | _ => cases hi
    refine ⟨c, hv, hd, F, θ1, env, m1, y, m2, s.step t1 ms1, e2, fun θ2 u H2 t2 ms2 r2 => ⟨F, θ2, env, m2, z, m3, (s.step t1 ms1).step t2 ms2, e3, fun θ3 w H3 t3 ms3 r3 => ?_⟩⟩
    split at e
    · rename_i t kvs hx
      split at e
      · rename_i hk
        cases e
        have cn := ((r1.step t2 ms1).step t3 ms2).cn ms3 hx
        obtain ⟨a, o, hv', g, ho⟩ := dget_of hk cn (VR.mono t3.fk _ _ r2)
        rw [hv] at hv'
        cases hv'
        refine ⟨o, g, ?_⟩
        rcases ho with ⟨d1, v1, g1, rfl, r4⟩ | ⟨g1, rfl⟩
        · rw [g1] at q
          exact q θ3 _ H3 ((t1.trans t2).trans t3) ms3 r4
        · rw [g1] at q
          exact q θ3 _ H3 ((t1.trans t2).trans t3) ms3 r3
      · cases e
    · cases e
  · cases e
/-- a is None, a is not None -/
theorem vr_non {K : PySem.W.Frag} {F : Addr → Prop} {θ : List Addr} {d : D} {v : V} (h : VR K F θ H d v) : decide (v = V.non) = (match d with | .non => true | _ => false) := by
  cases d with
  | non => cases (show v = .non from h); rfl
  | bl b => cases (show v = .bl b from h); rfl
  | int b => cases (show v = .int b from h); rfl
  | str b => obtain ⟨rfl, _⟩ := (show v = .str (tS b) ∧ _ from h); rfl
  | tup xs => simp only [VR] at h; obtain ⟨a, _, rfl, _⟩ := h; rfl
  | lst xs => simp only [VR] at h; obtain ⟨a, _, rfl, _⟩ := h; rfl
  | dct t xs => cases t <;> (simp only [VR] at h; obtain ⟨a, _, rfl, _⟩ := h; rfl)
  | obj n => simp only [VR] at h; obtain ⟨a, rfl, _⟩ := h; rfl
  | scr n => simp only [VR] at h; obtain ⟨a, rfl, _⟩ := h; rfl
  | ins _ _ => simp only [VR] at h; obtain ⟨a, rfl, _⟩ := h; rfl
  | kon _ => simp only [VR] at h
theorem tE.isN {neg : Bool} {a : E} (h : tE fr (evE Φ (.isN neg a)) σ H Q) : tE fr (evE Φ a) σ H fun x H1 => Q (.bl (if neg = true then !decide (x = .non) else decide (x = .non))) H1 := by
  obtain ⟨F, θ, env, mem, d, mem', s, e, q⟩ := h
  obtain ⟨x, m1, e1, e⟩ := Mp.R.bind_ok e
  cases e
  refine ⟨F, θ, env, mem, x, _, s, e1, fun θ1 v H1 t1 ms1 r1 => ?_⟩
  show Q (V.bl (if neg = true then !decide (v = V.non) else decide (v = V.non))) H1
  rw [vr_non r1]
  refine q θ1 _ H1 t1 ms1 ?_
  cases x <;> cases neg <;> rfl
theorem tE.chn {c d : Cmp} {a b e : E} (h : tE fr (evE Φ (.chn c d a b e)) σ H Q) : tChain (rCmp fr.K c) (rCmp fr.K d) (tE fr (evE Φ a)) (tE fr (evE Φ b)) (tE fr (evE Φ e)) σ H Q := by
  obtain ⟨F, θ, env, mem, r, mem', s, ev, q⟩ := h
  obtain ⟨x, m1, e1, ev⟩ := Mp.R.bind_ok ev
  obtain ⟨y, m2, e2, ev⟩ := Mp.R.bind_ok ev
  refine ⟨F, θ, env, mem, x, m1, s, e1, fun θ1 v H1 t1 ms1 r1 => ⟨F, θ1, env, m1, y, m2, s.step t1 ms1, e2, fun θ2 u H2 t2 ms2 r2 => ?_⟩⟩
  split at ev
  · rename_i hc
    obtain ⟨z, m3, e3, ev⟩ := Mp.R.bind_ok ev
    obtain ⟨e9, e8⟩ := Mp.R.ofO_ok ev
    subst e8
    clear ev
    have ev := e9
    clear e9
    obtain ⟨k, e5, rfl⟩ := Option.map_eq_some_iff.mp ev
    refine ⟨F, θ2, x, y, true, (VR.mono t2.fk _ _ r1).cn, r2.cn, hc, true, rfl, ?_⟩
    refine ite_pos' rfl ?_
    refine ⟨F, θ2, env, m2, z, _, (s.step t1 ms1).step t2 ms2, e3, fun θ3 w H3 t3 ms3 r3 => ?_⟩
    exact ⟨F, θ3, y, z, k, (VR.mono t3.fk _ _ r2).cn, r3.cn, e5, q θ3 _ H3 ((t1.trans t2).trans t3) ms3 rfl⟩
  · rename_i hc
    cases ev
    refine ⟨F, θ2, x, y, false, (VR.mono t2.fk _ _ r1).cn, r2.cn, hc, false, rfl, ?_⟩
    refine ite_neg' Bool.false_ne_true ?_
    exact q θ2 _ H2 (t1.trans t2) ms2 rfl
  · cases ev
theorem tE.not {a : E} (h : tE fr (evE Φ (.not a)) σ H Q) : tNotV (tE fr (evE Φ a)) σ H Q := by
  obtain ⟨F, θ, env, mem, d, mem', s, e, q⟩ := h
  obtain ⟨x, m1, e1, e⟩ := Mp.R.bind_ok e
  split at e
  · rename_i b
    cases e
    exact ⟨F, θ, env, mem, _, _, s, e1, fun θ1 v H1 t1 ms1 r1 => ⟨b, r1, q θ1 _ H1 t1 ms1 rfl⟩⟩
  · cases e
theorem tT.not {a : E} {Q : Bool → Hp → Prop} (h : tT fr (evE Φ (.not a)) σ H Q) : tNot (tT fr (evE Φ a)) σ H Q := by
  obtain ⟨F, θ, env, mem, d, mem', s, e, q⟩ := h
  obtain ⟨x, m1, e1, e⟩ := Mp.R.bind_ok e
  split at e
  · rename_i b
    cases e
    exact ⟨F, θ, env, mem, _, _, s, e1, fun θ1 H1 t1 ms1 => q θ1 H1 t1 ms1⟩
  · cases e
theorem tE.ite {t a b : E} (h : tE fr (evE Φ (.ite t a b)) σ H Q) : tIf (tT fr (evE Φ t)) (tE fr (evE Φ a)) (tE fr (evE Φ b)) σ H Q := by
  obtain ⟨F, θ, env, mem, d, mem', s, e, q⟩ := h
  obtain ⟨x, m1, e1, e⟩ := Mp.R.bind_ok e
  split at e
  · exact ⟨F, θ, env, mem, true, m1, s, e1, fun θ1 H1 t1 ms1 => ite_pos' rfl ⟨F, θ1, env, m1, d, mem', s.step t1 ms1, e, fun θ2 v H2 t2 ms2 r => q θ2 v H2 (t1.trans t2) ms2 r⟩⟩
  · exact ⟨F, θ, env, mem, false, m1, s, e1, fun θ1 H1 t1 ms1 => ite_neg' Bool.false_ne_true ⟨F, θ1, env, m1, d, mem', s.step t1 ms1, e, fun θ2 v H2 t2 ms2 r => q θ2 v H2 (t1.trans t2) ms2 r⟩⟩
  · cases e
theorem tT.ite {t a b : E} {Q : Bool → Hp → Prop} (h : tT fr (evE Φ (.ite t a b)) σ H Q) : tT fr (evE Φ t) σ H fun c H1 => if c = true then tT fr (evE Φ a) σ H1 Q else tT fr (evE Φ b) σ H1 Q := by
  obtain ⟨F, θ, env, mem, d, mem', s, e, q⟩ := h
  obtain ⟨x, m1, e1, e⟩ := Mp.R.bind_ok e
  split at e
  · exact ⟨F, θ, env, mem, true, m1, s, e1, fun θ1 H1 t1 ms1 => ite_pos' rfl ⟨F, θ1, env, m1, d, mem', s.step t1 ms1, e, fun θ2 H2 t2 ms2 => q θ2 H2 (t1.trans t2) ms2⟩⟩
  · exact ⟨F, θ, env, mem, false, m1, s, e1, fun θ1 H1 t1 ms1 => ite_neg' Bool.false_ne_true ⟨F, θ1, env, m1, d, mem', s.step t1 ms1, e, fun θ2 H2 t2 ms2 => q θ2 H2 (t1.trans t2) ms2⟩⟩
  · cases e
theorem tE.and1 {a : E} (h : tE fr (evAnd Φ (.cons a .nil)) σ H Q) : tE fr (evE Φ a) σ H Q := by
  obtain ⟨F, θ, env, mem, d, mem', s, e, q⟩ := h
  obtain ⟨x, m1, e1, e⟩ := Mp.R.bind_ok e
  cases e
  exact ⟨F, θ, env, mem, _, _, s, e1, q⟩
theorem tE.or1 {a : E} (h : tE fr (evOr Φ (.cons a .nil)) σ H Q) : tE fr (evE Φ a) σ H Q := by
  obtain ⟨F, θ, env, mem, d, mem', s, e, q⟩ := h
  obtain ⟨x, m1, e1, e⟩ := Mp.R.bind_ok e
  cases e
  exact ⟨F, θ, env, mem, _, _, s, e1, q⟩
theorem tT.and1 {a : E} {Q : Bool → Hp → Prop} (h : tT fr (evAnd Φ (.cons a .nil)) σ H Q) : tT fr (evE Φ a) σ H Q := by
  obtain ⟨F, θ, env, mem, d, mem', s, e, q⟩ := h
  obtain ⟨x, m1, e1, e⟩ := Mp.R.bind_ok e
  cases e
  exact ⟨F, θ, env, mem, _, _, s, e1, q⟩
theorem tT.or1 {a : E} {Q : Bool → Hp → Prop} (h : tT fr (evOr Φ (.cons a .nil)) σ H Q) : tT fr (evE Φ a) σ H Q := by
  obtain ⟨F, θ, env, mem, d, mem', s, e, q⟩ := h
  obtain ⟨x, m1, e1, e⟩ := Mp.R.bind_ok e
  cases e
  exact ⟨F, θ, env, mem, _, _, s, e1, q⟩
theorem tE.and2 {a b : E} {r : Es} (h : tE fr (evAnd Φ (.cons a (.cons b r))) σ H Q) : tAndV (tE fr (evE Φ a)) (tE fr (evAnd Φ (.cons b r))) σ H Q := by
  obtain ⟨F, θ, env, mem, d, mem', s, e, q⟩ := h
  unfold evAnd at e
  obtain ⟨x, m1, e1, e⟩ := Mp.R.bind_ok e
  refine ⟨F, θ, env, mem, x, m1, s, e1, fun θ1 v H1 t1 ms1 r1 => ?_⟩
  split at e
  · rename_i h; cases h
  · exact ⟨true, r1, ite_pos' rfl ⟨F, θ1, env, m1, d, mem', s.step t1 ms1, e, fun θ2 v H2 t2 ms2 r => q θ2 v H2 (t1.trans t2) ms2 r⟩⟩
  · cases e
    exact ⟨false, r1, ite_neg' Bool.false_ne_true (q θ1 _ H1 t1 ms1 rfl)⟩
  · cases e
theorem tE.or2 {a b : E} {r : Es} (h : tE fr (evOr Φ (.cons a (.cons b r))) σ H Q) : tOrV (tE fr (evE Φ a)) (tE fr (evOr Φ (.cons b r))) σ H Q := by
  obtain ⟨F, θ, env, mem, d, mem', s, e, q⟩ := h
  unfold evOr at e
  obtain ⟨x, m1, e1, e⟩ := Mp.R.bind_ok e
  refine ⟨F, θ, env, mem, x, m1, s, e1, fun θ1 v H1 t1 ms1 r1 => ?_⟩
  split at e
  · rename_i h; cases h
  · exact ⟨false, r1, ite_neg' Bool.false_ne_true ⟨F, θ1, env, m1, d, mem', s.step t1 ms1, e, fun θ2 v H2 t2 ms2 r => q θ2 v H2 (t1.trans t2) ms2 r⟩⟩
  · cases e
    exact ⟨true, r1, ite_pos' rfl (q θ1 _ H1 t1 ms1 rfl)⟩
  · cases e
theorem tT.and2 {a b : E} {r : Es} {Q : Bool → Hp → Prop} (h : tT fr (evAnd Φ (.cons a (.cons b r))) σ H Q) : tAnd (tT fr (evE Φ a)) (tT fr (evAnd Φ (.cons b r))) σ H Q := by
  obtain ⟨F, θ, env, mem, d, mem', s, e, q⟩ := h
  unfold evAnd at e
  obtain ⟨x, m1, e1, e⟩ := Mp.R.bind_ok e
  split at e
  · rename_i h; cases h
  · exact ⟨F, θ, env, mem, true, m1, s, e1, fun θ1 H1 t1 ms1 => ite_pos' rfl ⟨F, θ1, env, m1, d, mem', s.step t1 ms1, e, fun θ2 H2 t2 ms2 => q θ2 H2 (t1.trans t2) ms2⟩⟩
  · cases e
    exact ⟨F, θ, env, mem, false, _, s, e1, fun θ1 H1 t1 ms1 => ite_neg' Bool.false_ne_true (q θ1 H1 t1 ms1)⟩
  · cases e
theorem tT.or2 {a b : E} {r : Es} {Q : Bool → Hp → Prop} (h : tT fr (evOr Φ (.cons a (.cons b r))) σ H Q) : tOr (tT fr (evE Φ a)) (tT fr (evOr Φ (.cons b r))) σ H Q := by
  obtain ⟨F, θ, env, mem, d, mem', s, e, q⟩ := h
  unfold evOr at e
  obtain ⟨x, m1, e1, e⟩ := Mp.R.bind_ok e
  split at e
  · rename_i h; cases h
  · exact ⟨F, θ, env, mem, false, m1, s, e1, fun θ1 H1 t1 ms1 => ite_neg' Bool.false_ne_true ⟨F, θ1, env, m1, d, mem', s.step t1 ms1, e, fun θ2 H2 t2 ms2 => q θ2 H2 (t1.trans t2) ms2⟩⟩
  · cases e
    exact ⟨F, θ, env, mem, true, _, s, e1, fun θ1 H1 t1 ms1 => ite_pos' rfl (q θ1 H1 t1 ms1)⟩
  · cases e
end
end Mp

set_option linter.all false
set_option autoImplicit false
set_option maxRecDepth 100000
set_option maxHeartbeats 1000000
/-! Mp15: readings of what makes lists and dicts; displays; calls of defs. -/
namespace Mp
open PySem PySem.Spec PyProof.Rows L2

section
variable {fr : Fr} {σ : L2.St} {H : Hp} {Φ : Fs} {Q : VK}
/-- a new list or dict, laid last -/
theorem new_own {K : PySem.W.Frag} {F : Addr → Prop} {θ : List Addr} {H H' : Hp} {mem : Mem} {r : D} {w : V} (n : New K F θ H r w H') (m : MS K F θ mem H) (hk : (∃ xs, r = .lst xs) ∨ ∃ t kvs, r = .dct t kvs) :
    ∃ p o, w = .ref p ∧ H p = none ∧ H' p = some o ∧ Tr θ H θ H' ∧ MS K (plus F p) θ mem H' ∧ CR K (plus F p) θ H' r o := by
  rcases hk with ⟨xs, rfl⟩ | ⟨t, kvs, rfl⟩
  · obtain ⟨p, vs, rfl, hp, rfl, hv⟩ := n
    exact ⟨p, .lst vs, rfl, hp, upd_same, .laid hp, m.laidOwn hp (fun _ z => nomatch z), vs, rfl, VRs.mono (Fk.laid hp fun _ z => z) _ _ hv⟩
  · obtain ⟨p, o, rfl, hp, rfl, c⟩ := n
    exact ⟨p, o, rfl, hp, upd_same, .laid hp, m.laidOwn hp c.nt, c.mono (Fk.laid hp fun _ z => z)⟩
theorem tF.one {a : Env → Mem → R D} {k : D → Option D} (hk : ∀ x r, k x = some r → (∃ xs, r = .lst xs) ∨ ∃ t kvs, r = .dct t kvs)
    (h : tF fr (fun env m => (a env m).bind fun x m1 => R.ofO ((vw m1 x).bind k) m1) σ H Q) : tA fr a σ H fun v H1 => ∃ F θ d r, Cn fr.K F θ H1 d v ∧ k d = some r ∧ ∀ w H', New fr.K F θ H1 r w H' → Q w H' := by
  obtain ⟨F, θ, env, mem, d, mem', s, e, q⟩ := h
  obtain ⟨x, m1, e1, e⟩ := Mp.R.bind_ok e
  obtain ⟨e9, e8⟩ := Mp.R.ofO_ok e
  subst e8
  obtain ⟨x', e2, e3⟩ := Option.bind_eq_some_iff.mp e9
  refine ⟨F, θ, env, mem, x, _, s, e1, fun θ' v H1 t m r => ⟨F, θ', x', d, r.cn m e2, e3, fun w H' n => ?_⟩⟩
  obtain ⟨p, o, rfl, hp, ho, tr, ms, c⟩ := new_own n m (hk _ _ e3)
  exact q θ' p o H' (t.trans tr) (s.ms.was m t hp) ho ms c
theorem tF.two {a b : Env → Mem → R D} {k : D → D → Option D} (hk : ∀ x y r, k x y = some r → (∃ xs, r = .lst xs) ∨ ∃ t kvs, r = .dct t kvs)
    (h : tF fr (fun env m => (a env m).bind fun x m1 => (b env m1).bind fun y m2 => R.ofO ((vw m2 x).bind fun x' => (vw m2 y).bind fun y' => k x' y') m2) σ H Q) :
    tA fr a σ H fun v H1 => tA fr b σ H1 fun u H2 => ∃ F θ d e r, Cn fr.K F θ H2 d v ∧ Cn fr.K F θ H2 e u ∧ k d e = some r ∧ ∀ w H', New fr.K F θ H2 r w H' → Q w H' := by
  obtain ⟨F, θ, env, mem, d, mem', s, e, q⟩ := h
  obtain ⟨x, m1, e1, e⟩ := Mp.R.bind_ok e
  obtain ⟨y, m2, e2, e⟩ := Mp.R.bind_ok e
  obtain ⟨e9, e8⟩ := Mp.R.ofO_ok e
  subst e8
  obtain ⟨x', e3, e4⟩ := Option.bind_eq_some_iff.mp e9
  obtain ⟨y', e5, e6⟩ := Option.bind_eq_some_iff.mp e4
  refine ⟨F, θ, env, mem, x, m1, s, e1, fun θ1 v H1 t1 ms1 r1 => ⟨F, θ1, env, m1, y, _, s.step t1 ms1, e2, fun θ2 u H2 t2 ms2 r2 => ?_⟩⟩
  refine ⟨F, θ2, x', y', d, (r1.step t2 ms1).cn ms2 e3, r2.cn ms2 e5, e6, fun w H' n => ?_⟩
  obtain ⟨p, o, rfl, hp, ho, tr, ms, c⟩ := new_own n ms2 (hk _ _ _ e6)
  exact q θ2 p o H' ((t1.trans t2).trans tr) (s.ms.was ms2 (t1.trans t2) hp) ho ms c
theorem tF.slc {a : A} {lo hi : EO} (h : tF fr (evF Φ (.slc a lo hi)) σ H Q) : tSl (rSlc fr.K) (tA fr (evA Φ a)) (tO fr (evO Φ lo)) (tO fr (evO Φ hi)) σ H Q := by
  obtain ⟨F, θ, env, mem, d, mem', s, e, q⟩ := h
  obtain ⟨x, m1, e1, e⟩ := Mp.R.bind_ok e
  obtain ⟨l, m2, e2, e⟩ := Mp.R.bind_ok e
  obtain ⟨u, m3, e3, e⟩ := Mp.R.bind_ok e
  obtain ⟨e9, e8⟩ := Mp.R.ofO_ok e
  subst e8
  obtain ⟨x', e4, e5⟩ := Option.bind_eq_some_iff.mp e9
  refine ⟨F, θ, env, mem, x, m1, s, e1, fun θ1 v H1 t1 ms1 r1 => ⟨F, θ1, env, m1, l, m2, s.step t1 ms1, e2, fun θ2 H2 t2 ms2 => ⟨F, θ2, env, m2, u, _, (s.step t1 ms1).step t2 ms2, e3, fun θ3 H3 t3 ms3 => ?_⟩⟩⟩
  cases x' with
  | lst xs =>
    cases e5
    refine ⟨F, θ3, .lst xs, _, ((r1.step t2 ms1).step t3 ms2).cn ms3 e4, rfl, fun w H' n => ?_⟩
    obtain ⟨p, o, rfl, hp, ho, tr, ms, c⟩ := new_own n ms3 (.inl ⟨_, rfl⟩)
    exact q θ3 p o H' (((t1.trans t2).trans t3).trans tr) (s.ms.was ms3 ((t1.trans t2).trans t3) hp) ho ms c
  | _ => cases e5
def Es.len : Es → Nat
  | .nil => 0
  | .cons _ r => r.len + 1
theorem evEs_len {Φ : Fs} : ∀ {es : Es} {env : Env} {m m' : Mem} {xs : List D}, evEs Φ es env m = .ok xs m' → xs.length = es.len
  | .nil, _, _, _, _, e => by cases e; rfl
  | .cons a r, env, m, m', xs, e => by
    obtain ⟨x, m1, e1, e⟩ := Mp.R.bind_ok e
    obtain ⟨ys, m2, e2, e⟩ := Mp.R.bind_ok e
    cases e
    show ys.length + 1 = r.len + 1
    rw [evEs_len e2]
theorem tF.lst {es : Es} (hl : es.len ≤ 1000) (h : tF fr (evF Φ (.lst es)) σ H Q) : tLst (tEs fr (evEs Φ es)) σ H Q := by
  obtain ⟨F, θ, env, mem, d, mem', s, e, q⟩ := h
  obtain ⟨xs, m1, e1, e⟩ := Mp.R.bind_ok e
  cases e
  refine ⟨F, θ, env, mem, xs, _, s, e1, fun θ' vs H1 t m r => ⟨?_, fun p hp => ?_⟩⟩
  · rw [← r.length, evEs_len e1]; have h1 : sizeLine = line := sizeLine_eq; have h2 : line = 16777216 := rfl; omega
  · exact q θ' p _ _ (t.trans (.laid hp)) (s.ms.was m t hp) upd_same (m.laidOwn hp (fun _ z => nomatch z)) ⟨vs, rfl, VRs.mono (Fk.laid hp fun _ z => z) _ _ r⟩
theorem tE.tup {es : Es} (hl : es.len ≤ 1000) (h : tE fr (evE Φ (.tup es)) σ H Q) : tTup (tEs fr (evEs Φ es)) σ H Q := by
  obtain ⟨F, θ, env, mem, d, mem', s, e, q⟩ := h
  obtain ⟨xs, m1, e1, e⟩ := Mp.R.bind_ok e
  cases e
  refine ⟨F, θ, env, mem, xs, _, s, e1, fun θ' vs H1 t m r => ⟨?_, fun p hp => ?_⟩⟩
  · rw [← r.length, evEs_len e1]; have h1 : sizeLine = line := sizeLine_eq; have h2 : line = 16777216 := rfl; omega
  · obtain ⟨h1, h2, h3⟩ := tup_new m hp r
    exact q θ' _ _ (t.trans h1) h2 h3

/-! ### displays -/
def Kvs.trs (Φ : Fs) (fr : Fr) : Kvs → List (TE × TE)
  | .nil => []
  | .cons k v r => (tE fr (evE Φ k), tE fr (evE Φ v)) :: r.trs Φ fr
def Kvs.len : Kvs → Nat
  | .nil => 0
  | .cons _ _ r => r.len + 1
theorem pairs_read : ∀ {kvs : Kvs} {σ : L2.St} {H : Hp} {F : Addr → Prop} {θ : List Addr} {env : Env} {mem mem' : Mem} {ps : List (D × D)} {Q : List (V × V) → Hp → Prop},
    SR fr F θ env mem σ H → evK Φ kvs env mem = .ok ps mem' → (ps.all fun p => isKey false p.1) = true →
    (∀ θ' H' (ws : List (Key × V)), Tr θ H θ' H' → MS fr.K F θ' mem' H' → KR fr.K F θ' H' ps ws → ps.length = kvs.len → Q (ws.map fun kv => (kV kv.1, kv.2)) H') → tPairs (kvs.trs Φ fr) σ H Q
  | .nil, σ, H, F, θ, env, mem, mem', ps, Q, s, e, _, q => by
    cases e
    exact q θ H [] .refl s.ms rfl rfl
  | .cons k v r, σ, H, F, θ, env, mem, mem', ps, Q, s, e, hk, q => by
    obtain ⟨x, m1, e1, e⟩ := Mp.R.bind_ok e
    obtain ⟨y, m2, e2, e⟩ := Mp.R.bind_ok e
    obtain ⟨zs, m3, e3, e⟩ := Mp.R.bind_ok e
    cases e
    simp only [List.all_cons, Bool.and_eq_true] at hk
    refine ⟨F, θ, env, mem, x, m1, s, e1, fun θ1 u H1 t1 ms1 r1 => ⟨F, θ1, env, m1, y, m2, s.step t1 ms1, e2, fun θ2 w H2 t2 ms2 r2 => ?_⟩⟩
    refine pairs_read ((s.step t1 ms1).step t2 ms2) e3 hk.2 fun θ3 H3 ws t3 ms3 rk hl => ?_
    obtain ⟨k', ek, rfl, ok⟩ := key_val hk.1 r1
    exact q θ3 H3 ((k', w) :: ws) ((t1.trans t2).trans t3) ms3 ⟨k', w, ws, rfl, ⟨ek, ok⟩, VR.mono t3.fk _ _ r2, rk⟩ (by show zs.length + 1 = r.len + 1; rw [hl])
theorem tF.disp {kvs : Kvs} (hl : kvs.len ≤ 15) (h : tF fr (evF Φ (.dct false kvs)) σ H Q) : tDisp (kvs.trs Φ fr) σ H Q := by
  obtain ⟨F, θ, env, mem, d, mem', s, e, q⟩ := h
  obtain ⟨ps, m1, e1, e⟩ := Mp.R.bind_ok e
  split at e
  · rename_i hk
    cases e
    intro p hp
    have s1 : SR fr (plus F p) θ env mem σ (upd H p (.dK [])) := s.laidOwn hp (fun _ z => nomatch z)
    refine pairs_read s1 e1 hk fun θ' H' ws t m rk hps => ?_
    have hp' : H' p = some (.dK []) := t.keep p _ upd_same (s1.ms.Fθ p (.inr rfl))
    refine ⟨hp', ws, rfl, by rw [← rk.length, hps]; exact hl, ?_⟩
    have fD : (plus F p) p := .inr rfl
    have t0 : Tr θ H θ' H' := (Tr.laid hp).trans t
    refine q θ' p _ _ ⟨fun a o e z => by rw [upd_ne (ne_of_none e hp)]; exact t0.keep a o e z, t0.pre, t0.fresh⟩ hp upd_same (m.own_upd fD (fun _ z => nomatch z)) ⟨_, rfl, KR.mono (own_fk fD) _ _ (KR.merge rk (kvs := []) (ws := []) rfl)⟩
  · cases e
theorem tF.dK (h : tF fr (evF Φ (.dct false .nil)) σ H Q) : tDNewK σ H Q := by
  obtain ⟨F, θ, env, mem, d, mem', s, e, q⟩ := h
  cases e
  intro p hp
  exact q θ p _ _ (.laid hp) hp upd_same (s.ms.laidOwn hp (fun _ z => nomatch z)) ⟨[], rfl, rfl⟩
theorem tF.dT (h : tF fr (evF Φ (.dct true .nil)) σ H Q) : tDNewT σ H Q := by
  obtain ⟨F, θ, env, mem, d, mem', s, e, q⟩ := h
  cases e
  intro p hp
  exact q θ p _ _ (.laid hp) hp upd_same (s.ms.laidOwn hp (fun _ z => nomatch z)) ⟨[], rfl, rfl⟩

/-! ### calls -/
/-- what a def promises: what the evaluator tells -/
def MSp (K : PySem.W.Frag) (T : List Addr) (Φ : Fs) (f : Nat) : List V → Hp → VK → XK → Prop := fun vs H Q E => ∃ F θ mem ds, (∀ (t : Nat) (P : Addr), T[t]? = some P → θ[t]? = some P) ∧ MS K F θ mem H ∧ VRs K F θ H ds vs ∧
  ((∃ r mem', Φ f ds mem = .ok r mem' ∧
    (r.1 = false → ∀ θ' v H', Tr θ H θ' H' → MS K F θ' mem' H' → VR K F θ' H' r.2 v → Q v H') ∧
    (r.1 = true → ∀ θ' p o H', Tr θ H θ' H' → H p = none → H' p = some o → MS K (plus F p) θ' mem' H' → CR K (plus F p) θ' H' r.2 o → Q (.ref p) H')) ∨
  ∃ c mem', Φ f ds mem = .ex (.ins c []) mem' ∧ ∀ θ' H', Tr θ H θ' H' → MS K F θ' mem' H' → E (.ref c) none H')
def tCallM (sp : List V → Hp → VK → XK → Prop) (E : XK) (t : TA) : TE := fun σ H Q => t σ H fun vs H1 => sp vs H1 Q E
/-- an expression's reading that may raise -/
def tEX (fr : Fr) (ev : Env → Mem → R D) : TE := fun σ H Q => ∃ F θ env mem, SR fr F θ env mem σ H ∧
  ((∃ d mem', ev env mem = .ok d mem' ∧ ∀ θ' v H', Tr θ H θ' H' → MS fr.K F θ' mem' H' → VR fr.K F θ' H' d v → Q v H') ∨
  ∃ c mem', ev env mem = .ex (.ins c []) mem' ∧ ∀ θ' H', Tr θ H θ' H' → MS fr.K F θ' mem' H' → fr.E (.ref c) none H')
theorem pre_T {fr : Fr} {F : Addr → Prop} {θ θ1 : List Addr} {env : Env} {mem : Mem} {σ : L2.St} {H H1 : Hp} (s : SR fr F θ env mem σ H) (t : Tr θ H θ1 H1) : ∀ (t : Nat) (P : Addr), fr.T[t]? = some P → θ1[t]? = some P := fun i P e => t.pre i P (s.hT i P e)
theorem call_sp {f : Nat} {F : Addr → Prop} {θ θ1 : List Addr} {m1 : Mem} {xs : List D} {vs : List V} {H1 : Hp} {E : XK} {r : Bool × D} {mem' : Mem} (hT : ∀ (t : Nat) (P : Addr), fr.T[t]? = some P → θ1[t]? = some P) (t1 : Tr θ H θ1 H1) (ms1 : MS fr.K F θ1 m1 H1) (r1 : VRs fr.K F θ1 H1 xs vs) (e2 : Φ f xs m1 = .ok r mem')
    (q : ∀ θ' v H', Tr θ H θ' H' → MS fr.K F θ' mem' H' → VR fr.K F θ' H' r.2 v → Q v H') : MSp fr.K fr.T Φ f vs H1 Q E := by
  refine ⟨F, θ1, m1, xs, hT, ms1, r1, .inl ⟨r, _, e2, fun _ θ' v H' t m rv => q θ' v H' (t1.trans t) m rv, fun _ θ' p o H' t hp ho m c => ?_⟩⟩
  have k : Fk (plus F p) θ' H' F θ' H' := Fk.less fun _ z => .inl z
  exact q θ' _ H' (t1.trans t) (m.less fun _ z => .inl z) (CR.vr (c.mono k) ho (ms1.fresh hp).2 (m.Fθ p (.inr rfl)))
theorem tE.call {f : Nat} {es : Es} {E : XK} (h : tE fr (evE Φ (.call f es)) σ H Q) : tCallM (MSp fr.K fr.T Φ f) E (tEs fr (evEs Φ es)) σ H Q := by
  obtain ⟨F, θ, env, mem, d, mem', s, e, q⟩ := h
  obtain ⟨xs, m1, e1, e⟩ := Mp.R.bind_ok e
  obtain ⟨r, m2, e2, e⟩ := Mp.R.bind_ok e
  cases e
  exact ⟨F, θ, env, mem, xs, m1, s, e1, fun θ1 vs H1 t1 ms1 r1 => call_sp (pre_T s t1) t1 ms1 r1 e2 q⟩
theorem bind_ex {α β : Type} {r : R α} {f : α → Mem → R β} {x : D} {m : Mem} (h : r.bind f = .ex x m) : r = .ex x m ∨ ∃ a m1, r = .ok a m1 ∧ f a m1 = .ex x m := by
  cases r with
  | ok a m1 => exact .inr ⟨a, m1, rfl, h⟩
  | ex e m1 => cases h; exact .inl rfl
  | no => cases h
theorem tEX.xcall {f : Nat} {es : Es} (h : tEX fr (evE Φ (.xcall f es)) σ H Q) : tCallM (MSp fr.K fr.T Φ f) fr.E (tEs fr (evEs Φ es)) σ H Q := by
  obtain ⟨F, θ, env, mem, s, h⟩ := h
  cases e1 : evEs Φ es env mem with
  | ok xs m1 =>
    refine ⟨F, θ, env, mem, xs, m1, s, e1, fun θ1 vs H1 t1 ms1 r1 => ?_⟩
    rcases h with ⟨d, mem', e, q⟩ | ⟨c, mem', e, q⟩
    · unfold evE at e
      rw [e1] at e
      obtain ⟨r, m2, e2, e⟩ := Mp.R.bind_ok e
      cases e
      exact call_sp (pre_T s t1) t1 ms1 r1 e2 q
    · unfold evE at e
      rw [e1] at e
      rcases bind_ex e with e2 | ⟨r, m2, e2, e⟩
      · exact ⟨F, θ1, m1, xs, pre_T s t1, ms1, r1, .inr ⟨c, _, e2, fun θ' H' t m => q θ' H' (t1.trans t) m⟩⟩
      · cases e
  | ex _ _ =>
    rcases h with ⟨d, mem', e, q⟩ | ⟨c, mem', e, q⟩
    · unfold evE at e; rw [e1] at e; cases e
    · unfold evE at e; rw [e1] at e; cases e
  | no =>
    rcases h with ⟨d, mem', e, q⟩ | ⟨c, mem', e, q⟩
    · unfold evE at e; rw [e1] at e; cases e
    · unfold evE at e; rw [e1] at e; cases e
theorem tEX.xarg {f : Nat} {a : E} (h : tEX fr (evE Φ (.xarg f a)) σ H Q) : tCallM (MSp fr.K fr.T Φ f) fr.E (tCons (tEX fr (evE Φ a)) tNil) σ H Q := by
  obtain ⟨F, θ, env, mem, s, h⟩ := h
  refine ⟨F, θ, env, mem, s, ?_⟩
  have one : ∀ {θ1 : List Addr} {H1 : Hp} {d : D} {v : V}, VR fr.K F θ1 H1 d v → VRs fr.K F θ1 H1 [d] [v] := fun r => ⟨_, [], rfl, r, rfl⟩
  rcases h with ⟨d, mem', e, q⟩ | ⟨c, mem', e, q⟩
  · obtain ⟨x, m1, e1, e⟩ := Mp.R.bind_ok e
    obtain ⟨r, m2, e2, e⟩ := Mp.R.bind_ok e
    cases e
    exact .inl ⟨x, m1, e1, fun θ1 v H1 t1 ms1 r1 => call_sp (pre_T s t1) t1 ms1 (one r1) e2 q⟩
  · rcases bind_ex e with e1 | ⟨x, m1, e1, e⟩
    · exact .inr ⟨c, _, e1, q⟩
    · rcases bind_ex e with e2 | ⟨r, m2, e2, e⟩
      · exact .inl ⟨x, m1, e1, fun θ1 v H1 t1 ms1 r1 => ⟨F, θ1, m1, [x], pre_T s t1, ms1, one r1, .inr ⟨c, _, e2, fun θ' H' t m => q θ' H' (t1.trans t) m⟩⟩⟩
      · cases e
theorem tEX.isN {neg : Bool} {a : E} (h : tEX fr (evE Φ (.isN neg a)) σ H Q) : tEX fr (evE Φ a) σ H fun x H1 => Q (.bl (if neg = true then !decide (x = .non) else decide (x = .non))) H1 := by
  obtain ⟨F, θ, env, mem, s, h⟩ := h
  refine ⟨F, θ, env, mem, s, ?_⟩
  rcases h with ⟨d, mem', e, q⟩ | ⟨c, mem', e, q⟩
  · obtain ⟨x, m1, e1, e⟩ := Mp.R.bind_ok e
    cases e
    refine .inl ⟨x, _, e1, fun θ1 v H1 t1 ms1 r1 => ?_⟩
    show Q (V.bl (if neg = true then !decide (v = V.non) else decide (v = V.non))) H1
    rw [vr_non r1]
    refine q θ1 _ H1 t1 ms1 ?_
    cases neg <;> cases x <;> rfl
  · rcases bind_ex e with e1 | ⟨x, m1, e1, e⟩
    · exact .inr ⟨c, _, e1, q⟩
    · cases e
theorem tF.call {f : Nat} {es : Es} {E : XK} (h : tF fr (evF Φ (.call f es)) σ H Q) : tCallM (MSp fr.K fr.T Φ f) E (tEs fr (evEs Φ es)) σ H Q := by
  obtain ⟨F, θ, env, mem, d, mem', s, e, q⟩ := h
  obtain ⟨xs, m1, e1, e⟩ := Mp.R.bind_ok e
  obtain ⟨r, m2, e2, e⟩ := Mp.R.bind_ok e
  split at e
  · rename_i hr
    cases e
    refine ⟨F, θ, env, mem, xs, m1, s, e1, fun θ1 vs H1 t1 ms1 r1 => ⟨F, θ1, m1, xs, pre_T s t1, ms1, r1, .inl ⟨r, _, e2, fun z => (by rw [hr] at z; cases z), fun _ θ' p o H' t hp ho m c => ?_⟩⟩⟩
    exact q θ' p o H' (t1.trans t) (s.ms.was ms1 t1 hp) ho m c
  · cases e
end

/-- the evaluator's promise is kept: from the code; the repr guards are empty -/
structure MFn (P : Program) (w : World) (K : PySem.W.Frag) (mg : Str → Option Value) (base : Heap) (k : Nat) (f : Addr) (fd : FuncData) (ps : List Str) (sp : List V → Hp → VK → XK → Prop) : Prop where
  len : ∀ vs H Q E, sp vs H Q E → vs.length = ps.length
  run : ∀ (A : Around) (outer : List PySem.Env) (s : Shared) (H : Hp) (args : Args) (us : List Value) (vs : List V) (Q : VK) (E : XK), Room k A → A.guards = some [] → Env0 P w K mg base A outer s H → BindsTo s fd args (ps.zip us) → Vals vs us → sp vs H Q E →
    codeAny (model P w) A (.call (.ref f) args) (L2.CR (L2.CX P w) outer P w H s Q E) s
theorem MFn.mono {P : Program} {w : World} {K : PySem.W.Frag} {mg : Str → Option Value} {base : Heap} {j k : Nat} {f : Addr} {fd : FuncData} {ps : List Str} {sp : List V → Hp → VK → XK → Prop} (F : MFn P w K mg base j f fd ps sp) (h : j ≤ k) : MFn P w K mg base k f fd ps sp :=
  ⟨F.len, fun A outer s H args us vs Q E hr => F.run A outer s H args us vs Q E (hr.mono h)⟩
def noE : XK := fun _ _ _ => False
theorem pass_no {X : Cx} : Passes (L2.CX X.prog X.w) X noE := fun _ _ _ _ _ _ _ h => by
  obtain ⟨_, _, _, _, _, _, _, _, _, _, _, _, z⟩ := h
  exact z.elim
section
variable {X : Cx} {k : Nat} {f : Addr} {fd : FuncData} {ps : List Str} {sp : List V → Hp → VK → XK → Prop} {x : Str} {p pos : Pos} {e : Expr} {es : List Expr} {t : TA} {E : XK}
theorem runM {pins : List (Addr × Obj)} {σ : L2.St} {H : Hp} {s : Shared} {Q : VK} {us : List Value} {vs : List V} (F : MFn X.prog X.w X.K X.mg X.base k f fd ps sp) (hr : Room k X.A) (hg : X.A.guards = some []) (hb : Binds X.K fd ps [])
    (hx : Passes (L2.CX X.prog X.w) X E) (I : Inv X pins σ H s) (r : Vals vs us) (h : sp vs H Q E) : wpAny (model X.prog X.w) X.A (PySem.call (.ref f) us) (EP X pins σ Q) X.xe s := by
  have hl : us.length = ps.length := by rw [← r.length]; exact F.len _ _ _ _ h
  have hb' := hb s us I.kIn (by simpa using hl)
  rw [List.append_nil] at hb'
  refine wpAny_call (codeAny_mono (F.run X.A X.stack s H ⟨us, []⟩ us vs Q E hr hg I.env0 hb' r h) fun r s' hq => ?_)
  cases r with
  | error e => exact hx pins σ H s e s' I hq
  | ok fl =>
    cases fl with
    | ret u => exact I.after hq
    | next => exact False.elim hq
    | brk => exact False.elim hq
    | cont => exact False.elim hq
theorem pe_callM (F : MFn X.prog X.w X.K X.mg X.base k f fd ps sp) (hr : Room k X.A) (hgd : X.A.guards = some []) (hg : Gl X x) (hm : X.mg x = some (.ref f)) (hk : PySem.W.keepIn X.K (.ref f) = true) (hb : Binds X.K fd ps []) (hx : Passes (L2.CX X.prog X.w) X E)
    (ha : PA X (e :: es) t) (hdb : (x == ("__debug__" : Str)) = false) (he : starEach (e :: es) X.env = (false, eval e X.env) :: starEach es X.env) (hpl : (backTo pos (starEach es X.env)).any (·.1) = false) :
    PE X (.Call (.Name x p) (e :: es) [] pos) (tCallM sp E t) := by
  refine ⟨fun pins s σ H Q I h => ?_⟩
  refine wpAny_Call_Name_kw (ld_glob I hg hm ?_ hdb)
  refine PySem.W.callWith_K (h₀ := X.base) I.ok.mod.kin hk (thn (ha.run pos pins s σ H _ I h) fun us s1 ⟨vs, H1, I1, r, q⟩ => ⟨I1.kIn, ?_⟩) he hpl
  exact runM F hr hgd hb hx I1 r q
theorem pe_callM0 (F : MFn X.prog X.w X.K X.mg X.base k f fd ps sp) (hr : Room k X.A) (hgd : X.A.guards = some []) (hg : Gl X x) (hm : X.mg x = some (.ref f)) (hk : PySem.W.keepIn X.K (.ref f) = true) (hb : Binds X.K fd ps []) (hx : Passes (L2.CX X.prog X.w) X E)
    (hdb : (x == ("__debug__" : Str)) = false) : PE X (.Call (.Name x p) [] [] pos) (tCallM sp E tNil) := by
  refine ⟨fun pins s σ H Q I h => ?_⟩
  refine wpAny_Call_Name_kw (ld_glob I hg hm ?_ hdb)
  exact PySem.W.callWith_K0 I.kIn hk (runM (us := []) F hr hgd hb hx I .nil h)
end
end Mp

set_option linter.all false
set_option autoImplicit false
set_option maxRecDepth 100000
/-! Mp25: the order of plain data, sorted. -/
namespace Mp
open PySem PySem.W PyProof.Rows
mutual
theorem alk_py : ∀ (a b : D), alk a b = true → alike (toPy a) (toPy b) = true
  | .non, b, h => by cases b <;> simp [alk] at h; rfl
  | .bl a, b, h => by cases b <;> simp [alk] at h; rfl
  | .int a, b, h => by cases b <;> simp [alk] at h; rfl
  | .str a, b, h => by cases b <;> simp [alk] at h; rfl
  | .tup xs, b, h => by
    cases b <;> simp [alk] at h
    simp only [toPy, alike]
    exact alks_py xs _ h
  | .lst xs, b, h => by
    cases b <;> simp [alk] at h
    simp only [toPy, alike]
    exact alks_py xs _ h
  | .dct _ _, b, h => by cases b <;> simp [alk] at h
  | .obj _, b, h => by cases b <;> simp [alk] at h
  | .ins _ _, b, h => by cases b <;> simp [alk] at h
  | .scr _, b, h => by cases b <;> simp [alk] at h
  | .kon _, b, h => by cases b <;> simp [alk] at h
theorem alks_py : ∀ (a b : List D), alks a b = true → alikeAll (toPy.toPys a) (toPy.toPys b) = true
  | [], b, _ => by simp [toPy.toPys, alikeAll]
  | x :: xs, [], _ => by simp [toPy.toPys, alikeAll]
  | x :: xs, y :: ys, h => by
    simp only [alks, Bool.and_eq_true] at h
    simp only [toPy.toPys, alikeAll, Bool.and_eq_true]
    exact ⟨alk_py x y h.1, alks_py xs ys h.2⟩
end
mutual
theorem lss_py : ∀ (a b : D) (n m : Nat), pl n a = true → pl m b = true → alk a b = true → dataLt (toPy a) (toPy b) = lssD a b
  | .non, b, n, m, p, q, h => by cases b <;> simp [alk] at h; exact lex_irrefl _
  | .bl a, b, n, m, p, q, h => by
    cases b <;> simp [alk] at h
    simp only [toPy, lssD]
    rw [dataLt_bool]
    rename_i c
    cases a <;> cases c <;> rfl
  | .int a, b, n, m, p, q, h => by
    cases b <;> simp [alk] at h
    simp only [toPy, lssD]
    rw [dataLt_int]
  | .str a, b, n, m, p, q, h => by
    cases b <;> simp [alk] at h
    simp only [toPy, lssD]
    rw [dataLt_str]
  | .tup xs, b, n, m, p, q, h => by
    cases b <;> simp [alk] at h
    cases n with
    | zero => simp [pl] at p
    | succ n =>
      cases m with
      | zero => simp [pl] at q
      | succ m =>
        simp only [toPy, lssD]
        rw [dataLt_tuple]
        exact lsss_py xs _ n m (by simpa [pl] using p) (by simpa [pl] using q) h
  | .lst xs, b, n, m, p, q, h => by
    cases b <;> simp [alk] at h
    cases n with
    | zero => simp [pl] at p
    | succ n =>
      cases m with
      | zero => simp [pl] at q
      | succ m =>
        simp only [toPy, lssD]
        rw [dataLt_list]
        exact lsss_py xs _ n m (by simpa [pl] using p) (by simpa [pl] using q) h
  | .dct _ _, b, n, m, p, q, h => by cases b <;> simp [alk] at h
  | .obj _, b, n, m, p, q, h => by cases b <;> simp [alk] at h
  | .ins _ _, b, n, m, p, q, h => by cases b <;> simp [alk] at h
  | .scr _, b, n, m, p, q, h => by cases b <;> simp [alk] at h
  | .kon _, b, n, m, p, q, h => by cases b <;> simp [alk] at h
theorem lsss_py : ∀ (a b : List D) (n m : Nat), pls n a = true → pls m b = true → alks a b = true → PyProof.Rows.lexLt itemOrd (keyToksAll (toPy.toPys a)) (keyToksAll (toPy.toPys b)) = lssDs a b
  | [], [], _, _, _, _, _ => by simp only [toPy.toPys, lssDs]; exact lex_irrefl _
  | [], y :: ys, _, _, _, _, _ => by
    simp only [toPy.toPys, lssDs, keyToksAll]
    exact (lex_diff (O := itemOrd) (by simp)).trans rfl
  | x :: xs, [], _, _, _, _, _ => by
    simp only [toPy.toPys, lssDs, keyToksAll]
    exact (lex_diff (O := itemOrd) (by simp)).trans rfl
  | x :: xs, y :: ys, n, m, p, q, h => by
    simp only [pls, Bool.and_eq_true] at p q
    simp only [alks, Bool.and_eq_true] at h
    simp only [toPy.toPys, lssDs]
    by_cases e : eqD x y = true
    · rw [if_pos e, dataLt_all_yes (alk_py x y h.1) (by rw [eqv_eqD x y n m p.1 q.1]; exact e)]
      exact lsss_py xs ys n m p.2 q.2 h.2
    · rw [if_neg e, dataLt_all_no (alk_py x y h.1) (by rw [eqv_eqD x y n m p.1 q.1]; simpa using e)]
      exact lss_py x y n m p.1 q.1 h.1
end
theorem pls_mem {n : Nat} : ∀ {xs : List D} {x : D}, pls n xs = true → x ∈ xs → pl n x = true
  | y :: ys, x, h, hm => by
    simp only [pls, Bool.and_eq_true] at h
    rcases List.mem_cons.mp hm with rfl | hm
    · exact h.1
    · exact pls_mem h.2 hm
section
variable {K : PySem.W.Frag} {F : Addr → Prop} {θ : List Addr} {H : L2.Hp}
theorem VRs.zip_mem : ∀ {ds : List D} {vs : List L2.V} {b : L2.V × D}, VRs K F θ H ds vs → b ∈ vs.zip ds → VR K F θ H b.2 b.1
  | [], vs, b, h, hm => by simp at hm
  | d :: ds, vs, b, h, hm => by
    obtain ⟨v, r, rfl, h1, h2⟩ := h
    rw [List.zip_cons_cons] at hm
    rcases List.mem_cons.mp hm with rfl | hm
    · exact h1
    · exact VRs.zip_mem h2 hm
theorem VRs.of_pairs : ∀ {bs : List (L2.V × D)}, (∀ b ∈ bs, VR K F θ H b.2 b.1) → VRs K F θ H (bs.map (·.2)) (bs.map (·.1))
  | [], _ => rfl
  | b :: bs, h => ⟨b.1, bs.map (·.1), rfl, h b List.mem_cons_self, VRs.of_pairs fun c hc => h c (List.mem_cons_of_mem _ hc)⟩
theorem zip_fst {ds : List D} {vs : List L2.V} (h : ds.length = vs.length) : (vs.zip ds).map (·.1) = vs := List.map_fst_zip (by omega)
theorem zip_snd {ds : List D} {vs : List L2.V} (h : ds.length = vs.length) : (vs.zip ds).map (·.2) = ds := List.map_snd_zip (by omega)
theorem each_vals : ∀ {bs : List (L2.V × D)} {us : List Value}, L2.Vals (bs.map (·.1)) us → EachIs (fun v (b : L2.V × D) => L2.RelV b.1 v) us bs
  | [], us, h => by cases h; exact .nil
  | b :: bs, us, h => by
    cases h with
    | cons r t => exact .cons r (each_vals t)
theorem vals_each : ∀ {bs : List (L2.V × D)} {us : List Value}, EachIs (fun v (b : L2.V × D) => L2.RelV b.1 v) us bs → L2.Vals (bs.map (·.1)) us
  | _, _, .nil => .nil
  | _, _, .cons r t => .cons r (vals_each t)
theorem each_mono {R S : Value → L2.V × D → Prop} : ∀ {us : List Value} {bs : List (L2.V × D)}, (∀ v b, b ∈ bs → R v b → S v b) → EachIs R us bs → EachIs S us bs
  | _, _, _, .nil => .nil
  | _, _, h, .cons r t => .cons (h _ _ List.mem_cons_self r) (each_mono (fun v b hb => h v b (List.mem_cons_of_mem _ hb)) t)
end
open L2 in
theorem cSrt {X : Cx} (hu : X.A.units + 66 < cLine) : CallR X (.builtin "sorted") (rD1 X.K srtL) := by
  intro pins s σ H vs us Q I r hh
  obtain ⟨x, F, θ, d, rr, rfl, cd, g, q⟩ := hh
  cases d with
  | lst xs =>
    obtain ⟨ys, hy, rfl⟩ := Option.map_eq_some_iff.mp g
    obtain ⟨a, ws, rfl, ha, hv⟩ := cd
    unfold srtO at hy
    split at hy
    · rename_i ok
      cases hy
      unfold sortOk at ok
      simp only [Bool.and_eq_true] at ok
      obtain ⟨⟨p, al⟩, so⟩ := ok
      obtain ⟨its, rv, hl, hz⟩ := I.list (SqL.of ha)
      rw [Vals.ref1 r]
      have len := hv.length
      have hb : ∀ b ∈ ws.zip xs, VR X.K F θ H b.2 b.1 := fun b hb => hv.zip_mem hb
      have hx : ∀ b ∈ ws.zip xs, pl deep b.2 = true := fun b hb => pls_mem p (List.of_mem_zip (a := b.1) (b := b.2) hb).2
      have e : EachIs (fun v (b : V × D) => RelV b.1 v) its (ws.zip xs) := each_vals (by rw [zip_fst len]; exact rv)
      have er : EachIs (fun v (b : V × D) => ∃ as, Reads s.heap v (toPy b.2) as) its (ws.zip xs) := each_mono (fun v b hm h => Dp.reads I _ _ _ (pl_dp b.2 deep b.1 (hx b hm) (hb b hm)) h) e
      have em : (ws.zip xs).map (fun b => toPy b.2) = xs.map toPy := by
        have := congrArg (List.map toPy) (zip_snd (ds := xs) (vs := ws) len)
        rwa [List.map_map] at this
      have hal : AllAlike ((ws.zip xs).map fun b => toPy b.2) := by
        rw [em]
        intro d hd d' hd'
        obtain ⟨z, hz, rfl⟩ := List.mem_map.mp hd
        obtain ⟨z', hz', rfl⟩ := List.mem_map.mp hd'
        exact alk_py z z' (List.all_eq_true.mp (List.all_eq_true.mp al z hz) z' hz')
      have hk : Sortable ((ws.zip xs).map fun b => toPy b.2) := by
        rw [em]
        rcases (Bool.or_eq_true _ _).mp so with so | so
        · refine .inl fun d hd => ?_
          obtain ⟨z, hz, rfl⟩ := List.mem_map.mp hd
          have w := List.all_eq_true.mp so z hz
          cases z with
          | tup zs =>
            cases zs with
            | nil => cases w
            | cons z zs => exact ⟨toPy z, toPy.toPys zs, by simp only [toPy, toPy.toPys]⟩
          | _ => cases w
        · refine .inr fun d hd => ?_
          obtain ⟨z, hz, rfl⟩ := List.mem_map.mp hd
          have w := List.all_eq_true.mp so z hz
          have pz := pls_mem p hz
          cases z with
          | tup zs => cases w
          | non => cases w
          | dct _ _ => simp [pl] at pz
          | obj _ => simp [pl] at pz
          | ins _ _ => simp [pl] at pz
          | scr _ => simp [pl] at pz
          | kon _ => simp [pl] at pz
          | _ => exact ⟨fun z => by simp [toPy] at z, fun _ z => by simp [toPy] at z⟩
      refine sorted_data hl.isList e er hal hk (by rw [List.length_zip, len]; omega) (fun b hm => ?_) fun out ho eo => ?_
      · have := (pl_shape b.2 deep b.1 (hx b hm) (hb b hm)).2
        have h40 : deep = 40 := rfl
        omega
      · obtain ⟨ep, he'⟩ := PyProof.Rows.sortedAll_at s.heap its out.toArray
        have hn := I.hok.fresh (Nat.le_succ s.heap.objs.size)
        have vo := vals_each eo
        have pm : ((ws.zip xs).mergeSort (dataLe false fun b => toPy b.2)).Perm (ws.zip xs) := List.mergeSort_perm _ _
        have vr := VRs.of_pairs (K := X.K) (F := F) (θ := θ) (H := H) fun b (hm : b ∈ (ws.zip xs).mergeSort (dataLe false fun b => toPy b.2)) => hb b (pm.mem_iff.mp hm)
        have es : ((ws.zip xs).mergeSort (dataLe false fun b => toPy b.2)).map (·.2) = xs.mergeSort fun a b => !lssD b a := by
          have mm := List.map_mergeSort (f := fun b : V × D => b.2) (l := ws.zip xs) (r := dataLe false fun b : V × D => toPy b.2) (s := fun a b => !lssD b a) (fun a ha b hb => by
            show (!dataLt (toPy b.2) (toPy a.2)) = _
            have m1 : a.2 ∈ xs := (List.of_mem_zip (a := a.1) (b := a.2) ha).2
            have m2 : b.2 ∈ xs := (List.of_mem_zip (a := b.1) (b := b.2) hb).2
            rw [lss_py b.2 a.2 deep deep (pls_mem p m2) (pls_mem p m1) (List.all_eq_true.mp (List.all_eq_true.mp al b.2 m2) a.2 m1)])
          rw [mm, zip_snd len]
        rw [es] at vr
        have hlen : (((ws.zip xs).mergeSort (dataLe false fun b => toPy b.2)).map (·.1)).length ≤ sizeLine := by
          rw [List.length_map, pm.length_eq, List.length_zip, len]; omega
        exact ⟨.ref _, upd H (s.heap.objs.size + 1) (.lst (((ws.zip xs).mergeSort (dataLe false fun b => toPy b.2)).map (·.1))), I.laid (t' := s.toks) (fun _ _ => PyProof.Rows.sortedAll_old) (Nat.le_succ _) ⟨hlen, out, ep, vo, he'⟩, rfl, q _ _ ⟨_, _, rfl, hn, rfl, vr⟩⟩
    · cases hy
  | _ => cases g
end Mp

set_option linter.all false
set_option autoImplicit false
set_option maxRecDepth 100000
set_option maxHeartbeats 1000000
/-! Mp26: s.replace(..), list(d.items()), list(range(n)), sorted(d), x is True. -/
namespace Mp
open PySem PySem.Spec PyProof.Rows L2

/-! ### behind some expressions a token is out -/
def Tok (t : Sem Value) : Prop := ∀ (M : Model) (Γ : PySem.Ctx) (Q : Value → Pos → Shared → Prop) (E : Value → Pos → Shared → Prop) (p : Pos) (s : Shared), Sem.wp M Γ t Q E p s → Sem.wp M Γ t (fun a p s' => 1 ≤ s'.toks ∧ Q a p s') E p s
theorem tok_int {i : Int} {j : Nat} {pos : Pos} {env : PySem.Env} : Tok (eval (.Constant (.int i) j pos) env) := by
  intro M Γ Q E p s h
  rw [arm_eval_Constant] at h ⊢
  exact ⟨by show 1 ≤ s.toks + 1; omega, h⟩
theorem tok_bind {m : Sem Value} {f : Value → Sem Value} (h : Tok m) : Tok (m >>= f) := by
  intro M Γ Q E p s w
  rw [Sem.wp_bind'] at w ⊢
  exact Sem.wp_mono M Γ m (fun a p' s' z => Sem.wp_mono M Γ (f a) (fun b p s y => y) (fun e p s y => y.2) p' s' (Sem.wp_toks M Γ 1 (f a) Q E p' s' z.1 z.2)) (fun _ _ _ z => z) p s (h M Γ _ E p s w)
theorem tok_then {α : Type} {m : Sem α} {f : α → Sem Value} (h : ∀ a, Tok (f a)) : Tok (m >>= f) := by
  intro M Γ Q E p s w
  rw [Sem.wp_bind'] at w ⊢
  exact Sem.wp_mono M Γ m (fun a p' s' z => h a M Γ Q E p' s' z) (fun _ _ _ z => z) p s w
theorem tok_holding {vs : List Value} {m : Sem Value} (h : Tok m) : Tok (holding vs m) := by
  intro M Γ Q E p s w
  rw [Sem.wp_holding] at w ⊢
  exact h M Γ Q E p s w
def tokE : Expr → Bool
  | .Subscript _ (.UnaryOp .USub (.Constant (.int _) _ _) _) _ => true
  | _ => false
theorem tok_of {e : Expr} {env : PySem.Env} (h : tokE e = true) : Tok (eval e env) := by
  unfold tokE at h
  split at h
  · rw [eval_Subscript]
    refine tok_then fun o => tok_bind (tok_holding ?_)
    rw [arm_eval_UnaryOp]
    exact tok_bind tok_int
  · cases h
theorem tok_any {M : Model} {A : Around} {t : Sem Value} {Q : Value → Shared → Prop} {E : Value → Shared → Prop} {s : Shared} (h : Tok t) (w : wpAny M A t Q E s) : wpAny M A t (fun v s' => 1 ≤ s'.toks ∧ Q v s') E s :=
  fun Γ p hΓ => h M Γ _ _ p s (w Γ p hΓ)
section
variable {X : Cx} {o : Expr} {to : TE} {y z : PySem.Str} {j k : Nat} {c0 c1 apos pos : Pos}
theorem peRep (ho : PE X o to) (ht : tokE o = true) (hyz : (y == z) = false) (hbase : attributeBase o "replace" X.env (eval o X.env) = eval o X.env) (hline : (apos.endLine == pos.line) = true) :
    PE X (.Call (.Attribute o "replace" apos) [.Constant (.str y) j c0, .Constant (.str z) k c1] [] pos) (CwR.tReplC to y z) := by
  refine ⟨fun pins s σ H Q I h => ?_⟩
  have hst : starEach [.Constant (.str y) j c0, .Constant (.str z) k c1] X.env = [(false, eval (.Constant (.str y) j c0) X.env), (false, eval (.Constant (.str z) k c1) X.env)] := rfl
  refine PySem.Call_method2 hbase hst hline (wpAny_mono (tok_any (tok_of ht) (ho.run pins s σ H _ I h)) (fun v s1 q => ?_) fun _ _ z => z)
  obtain ⟨hk, v', H1, I1, r1, x, e1, hb, q⟩ := q
  subst e1
  obtain ⟨tx, e2⟩ := r1
  subst e2
  refine ⟨"str", _, PySem.F.plainAttrs_str, PySem.F.slot_str_replace, PySem.F.type_str_replace, typeIs_str _ _ _, (fun _ e => nomatch e), Calls.callWith_builtin rfl (Calls.evalArgs_plain (Calls.spliced_cons ?_))⟩
  refine Calls.Constant_str (Calls.spliced_cons (Calls.Constant_str (Calls.spliced_nil ?_)))
  exact PySem.SC.replace (by show s1.toks ≠ 0; omega) (by show s1.toks + 1 ≠ 0; omega) (by show s1.toks ≠ s1.toks + 1; omega) hyz hb fun t' k => ⟨.str (Txt.replace x y z), H1, I1.tok k, ⟨t', rfl⟩, q⟩
end
/-- a text, or else -/
def tOrS (ta tb : TE) : TE := fun σ H Q => ta σ H fun x H1 => ∃ z : PySem.Str, x = .str z ∧ z.length ≤ 16777216 ∧ if z.length = 0 then tb σ H1 Q else Q (.str z) H1
theorem pe_orS {X : Cx} {a b : Expr} {ta tb : TE} {pos : Pos} (ha : PE X a ta) (hb : PE X b tb) : PE X (.BoolOp .Or [a, b] pos) (tOrS ta tb) := by
  refine ⟨fun pins s σ H Q I h => ?_⟩
  refine BoolOp_or (thn (ha.run pins s σ H _ I h) fun v s1 ⟨x, H1, I1, r1, q1⟩ => ?_)
  obtain ⟨z, rfl, hz, q1⟩ := q1
  obtain ⟨t, rfl⟩ := r1
  refine PySem.P.truthy_str (by omega) ?_
  by_cases h0 : z.length = 0
  · rw [if_pos h0] at q1
    have e : ((z.length : Int) != 0) = false := by rw [h0]; rfl
    rw [e]
    exact (pe_one hb).run pins _ σ H1 Q (I1.tok _) q1
  · rw [if_neg h0] at q1
    have e : ((z.length : Int) != 0) = true := by
      simp only [bne_iff_ne, ne_eq]
      omega
    rw [e]
    exact ⟨.str z, H1, I1.tok _, ⟨t, rfl⟩, q1⟩
theorem tE.orS {fr : Fr} {σ : L2.St} {H : Hp} {Φ : Fs} {Q : VK} {a b : E} (h : tE fr (evE Φ (.orS a b)) σ H Q) : tOrS (tE fr (evE Φ a)) (tE fr (evE Φ b)) σ H Q := by
  obtain ⟨F, θ, env, mem, d, mem', s, e, q⟩ := h
  obtain ⟨x, m1, e1, e⟩ := Mp.R.bind_ok e
  cases x with
  | str t =>
    refine ⟨F, θ, env, mem, _, _, s, e1, fun θ1 v H1 t1 ms1 r1 => ?_⟩
    obtain ⟨rfl, ok⟩ := (show v = .str (tS t) ∧ _ from r1)
    have hl : t.length ≤ 16777216 := by
      unfold okT at ok
      rw [Bool.and_eq_true] at ok
      exact of_decide_eq_true ok.2
    have tl : (tS t).length = t.length := tS_len t
    refine ⟨tS t, rfl, by rw [tl]; exact hl, ?_⟩
    have e : (if t = [] then evE Φ b env m1 else .ok (.str t) m1) = Mp.R.ok d mem' := e
    by_cases h0 : t = []
    · rw [if_pos h0] at e
      rw [if_pos (by rw [tl, h0]; rfl)]
      exact ⟨F, θ1, env, m1, d, mem', s.step t1 ms1, e, fun θ2 v H2 t2 ms2 r => q θ2 v H2 (t1.trans t2) ms2 r⟩
    · rw [if_neg h0] at e
      rw [if_neg (by rw [tl]; exact fun z => h0 (List.length_eq_zero_iff.mp z))]
      cases e
      exact q θ1 _ H1 t1 ms1 ⟨rfl, ok⟩
  | _ => cases e
theorem tE.upp {fr : Fr} {σ : L2.St} {H : Hp} {Φ : Fs} {Q : VK} {K : PySem.W.Frag} {a : E} (h : tE fr (evE Φ (.upp a)) σ H Q) : tBM0 K "str" (fun x xs H Q => ∃ a, x = .str a ∧ xs = [] ∧ a.length ≤ 5592405 ∧ Q (.str (Txt.upper a)) H) (tE fr (evE Φ a)) σ H Q := by
  obtain ⟨F, θ, env, mem, d, mem', s, e, q⟩ := h
  obtain ⟨x, m1, e1, e⟩ := Mp.R.bind_ok e
  cases x with
  | str t =>
    obtain ⟨e9, e8⟩ := Mp.R.ofO_ok e
    subst e8
    refine ⟨F, θ, env, mem, _, _, s, e1, fun θ1 v H1 t1 ms1 r1 => ?_⟩
    obtain ⟨rfl, ok⟩ := (show v = .str (tS t) ∧ _ from r1)
    unfold uppD at e9
    split at e9
    · rename_i hl
      refine ⟨rfl, tS t, rfl, rfl, by rw [tS_len]; exact hl, q θ1 _ H1 t1 ms1 (keepS_val e9)⟩
    · cases e9
  | _ => cases e
theorem tE.rep {fr : Fr} {σ : L2.St} {H : Hp} {Φ : Fs} {Q : VK} {a : E} {y z : T} (h : tE fr (evE Φ (.rep a y z)) σ H Q) : CwR.tReplC (tE fr (evE Φ a)) (tS y) (tS z) σ H Q := by
  obtain ⟨F, θ, env, mem, d, mem', s, e, q⟩ := h
  obtain ⟨x, m1, e1, e⟩ := Mp.R.bind_ok e
  cases x with
  | str t =>
    obtain ⟨e9, e8⟩ := Mp.R.ofO_ok e
    subst e8
    refine ⟨F, θ, env, mem, _, _, s, e1, fun θ1 v H1 t1 ms1 r1 => ?_⟩
    obtain ⟨rfl, ok⟩ := (show v = .str (tS t) ∧ _ from r1)
    unfold repD at e9
    split at e9
    · rename_i hl
      refine ⟨tS t, rfl, by rw [tS_len, tS_len]; exact hl.1, q θ1 _ H1 t1 ms1 (keepS_val e9)⟩
    · cases e9
  | _ => cases e
theorem tE.isB {fr : Fr} {σ : L2.St} {H : Hp} {Φ : Fs} {Q : VK} {a : E} {neg b : Bool} (h : tE fr (evE Φ (.isB neg b a)) σ H Q) :
    tOp (if neg = true then rNotB else rIsB) (tE fr (evE Φ a)) (tC (.bl b)) σ H Q := by
  obtain ⟨F, θ, env, mem, d, mem', s, e, q⟩ := h
  obtain ⟨x, m1, e1, e⟩ := Mp.R.bind_ok e
  cases x with
  | bl c =>
    cases e
    refine ⟨F, θ, env, mem, _, _, s, e1, fun θ1 v H1 t1 ms1 r1 => ?_⟩
    obtain rfl := (show v = .bl c from r1)
    show (if neg = true then rNotB else rIsB) (.bl c) (.bl b) H1 Q
    have z := q θ1 _ H1 t1 ms1 (show VR fr.K F θ1 H1 (.bl ((c == b) != neg)) (.bl ((c == b) != neg)) from rfl)
    cases neg
    · refine ⟨c, b, rfl, rfl, ?_⟩
      have : ((c == b) != false) = decide (c = b) := by cases c <;> cases b <;> rfl
      rw [← this]; exact z
    · refine ⟨c, b, rfl, rfl, ?_⟩
      have : ((c == b) != true) = !decide (c = b) := by cases c <;> cases b <;> rfl
      rw [← this]; exact z
  | _ => cases e
/-! ### list(d.items()) -/
def rItemsR : V → Hp → VK → Prop := fun x H Q => ∃ (d : Addr) (kvs : List (Key × V)), x = .ref d ∧ Rd H d (.dK kvs) ∧
  ∀ (H' : Hp) (p : Addr) (ts : List Addr), (∀ b o, H b = some o → H' b = some o) → H p = none → (∀ t ∈ ts, H t = none) → p ∉ ts → H' p = some (.lst (ts.map V.ref)) → Paired (fun (t : Addr) (q : Key × V) => H' t = some (.tup [kV q.1, q.2])) ts kvs → Q (.ref p) H'
def tItemsR (te : TE) : TE := fun σ H Q => te σ H fun x H1 => rItemsR x H1 Q
section
variable {X : Cx} {e : Expr} {te : TE} {p apos cpos pos : Pos}
theorem peItems (hc : X.calm = true) (he : PE X e te) (hg : Gl X "list") (hm : X.mg "list" = none) (hv : bootBuiltins "list" = some (.type "list")) (hbase : attributeBase e "items" X.env (eval e X.env) = eval e X.env) (hline : (apos.endLine == cpos.line) = true) :
    PE X (.Call (.Name "list" p) [.Call (.Attribute e "items" apos) [] [] cpos] [] pos) (tItemsR te) := by
  have hs : starEach [.Call (.Attribute e "items" apos) [] [] cpos] X.env = (false, eval (.Call (.Attribute e "items" apos) [] [] cpos) X.env) :: starEach [] X.env := rfl
  refine ⟨fun pins s σ H Q I hq => ?_⟩
  refine wpAny_Call_Name_kw (ld_blt I hg hm hv ?_)
  refine PyProof.Rows.callWith_type1 ?_ hs rfl
  rw [hs]
  show wpAny _ _ (spliced ((false, eval (.Call (.Attribute e "items" apos) [] [] cpos) X.env) :: backTo pos (starEach [] X.env))) _ _ s
  refine Calls.spliced_cons ?_
  refine wpAny_Call_method (T := "dict") (id := "dict.items") hbase rfl hline F.plainAttrs_dict F.slot_dict_items F.type_dict_items (thn (he.run pins s σ H _ I hq) fun u s1 ⟨x, H1, I1, rx, d, kvs, ex, hd, q⟩ => ?_)
  subst ex
  obtain rfl : u = Value.ref d := rx
  obtain ⟨hz, hs0, vs, kv, hdo⟩ := dk_rd I1.hok hd
  obtain ⟨ep, hat⟩ := hdo.dictAt
  have lk : kvs.length = vs.length := Paired.length kv
  have I2 : Inv X pins σ H1 { s1 with heap := s1.heap.push { cls := .type "dict_items", data := .fields #[.ref d] } } := I1.kept (t' := s1.toks) fun b ob q => Heap.get?_push_of_some _ q
  refine ⟨hdo.typeIs, hdo.mapOf.noDict, ?_⟩
  show wpAny _ _ (callWith cpos (.builtin "dict.items") [.ref d] [] []) _ X.xe s1
  refine method_meetsIn F.slot_dict_items F.entry_dict_items rfl (PySem.evalArgs_none ⟨rfl, hdo.typeIs, F.args_dict_items_1 _, _, meets_dict_items (mixKind X.prog X.w) d hs0, ⟨vs, hdo⟩, ?_⟩)
  refine Calls.spliced_nil ?_
  refine PySem.W.kdx_call (knd := mixKind X.prog X.w) (kvs := vs) (ep := ep) (I1.ok.hd hc) ⟨_, Heap.get?_push_size _ rfl, rfl, rfl⟩ (hat.push _) (by omega) fun h' tk acc c as hk hS hl hG hacc => ?_
  obtain ⟨H', k1, k2, k3, k4, k5, k6, J⟩ := LiI.items_laid (tk := tk) I2 hz kv hk hS hl hG hacc
  exact ⟨.ref _, H', J, rfl, q H' _ as k1 k2 k3 k4 k5 k6⟩
end
section
variable {K : PySem.W.Frag} {F : Addr → Prop} {θ : List Addr} {H H' : Hp} {mem : Mem}
/-- more stands there, one of it somebody's own from now on -/
theorem MS.grow (m : MS K F θ mem H) {p : Addr} {o : HO} (k : ∀ b u, H b = some u → H' b = some u) (hp : H p = none) (hp' : H' p = some o) (hn : ∀ xs, o ≠ .tup xs) : MS K (plus F p) θ mem H' := by
  have fk : Fk F θ H (plus F p) θ H' := ⟨fun a u e f t => ⟨k a u e, fun z => z.elim f (ne_of_none e hp), t⟩, fun _ _ e => e⟩
  refine m.mono fk (fun a ha u e => k a u e) (fun a z => ?_) fun a z => ?_
  · rcases z with z | z
    · exact m.Fθ a z
    · rw [z]; exact (m.fresh hp).1
  · rcases z with z | z
    · obtain ⟨u, e, n⟩ := m.Fd a z
      exact ⟨u, k a u e, n⟩
    · exact ⟨o, by rw [z, hp'], hn⟩
theorem Tr.grow (k : ∀ b u, H b = some u → H' b = some u) : Tr θ H θ H' := ⟨fun a u e _ => k a u e, fun _ _ e => e, fun _ h => .inl h⟩
/-- pairs of keys and values as tuples that are new -/
theorem pairs_new {F' : Addr → Prop} (fk : Fk F θ H F' θ H') : ∀ {kvs : List (D × D)} {ws : List (Key × V)} {ts : List Addr}, KR K F θ H kvs ws → (∀ t ∈ ts, ¬ F' t ∧ t ∉ θ) → Paired (fun (t : Addr) (q : Key × V) => H' t = some (.tup [kV q.1, q.2])) ts ws →
    VRs K F' θ H' (kvs.map fun p => .tup [p.1, p.2]) (ts.map V.ref)
  | [], ws, ts, h, _, hp => by
    simp only [KR] at h
    subst h
    cases hp
    exact rfl
  | (k, d) :: r, ws, ts, h, hf, hp => by
    simp only [KR] at h
    obtain ⟨k', v, q, rfl, ⟨e, o⟩, h1, h2⟩ := h
    cases hp with
    | cons h3 h4 =>
      rename_i t ts
      refine ⟨.ref t, ts.map V.ref, rfl, ?_, pairs_new fk h2 (fun x hx => hf x (List.mem_cons_of_mem _ hx)) h4⟩
      simp only [VR]
      refine ⟨t, _, rfl, h3, (hf t List.mem_cons_self).1, (hf t List.mem_cons_self).2, kV k', [v], rfl, ?_, v, [], rfl, VR.mono fk _ _ h1, rfl⟩
      cases k <;> simp only [keyOf] at e <;> first | (cases e; done) | skip
      · cases e; exact rfl
      · cases e; exact ⟨rfl, o⟩
end
theorem tF.itm {fr : Fr} {σ : L2.St} {H : Hp} {Φ : Fs} {Q : VK} {a : A} (h : tF fr (evF Φ (.itm a)) σ H Q) : tItemsR (tA fr (evA Φ a)) σ H Q := by
  obtain ⟨F, θ, env, mem, d, mem', s, e, q⟩ := h
  obtain ⟨x, m1, e1, e⟩ := Mp.R.bind_ok e
  obtain ⟨e9, e8⟩ := Mp.R.ofO_ok e
  subst e8
  obtain ⟨x', e2, e3⟩ := Option.bind_eq_some_iff.mp e9
  refine ⟨F, θ, env, mem, x, _, s, e1, fun θ' v H1 t m r => ?_⟩
  have cn := r.cn m e2
  cases x' with
  | dct tk kvs =>
    cases tk with
    | true => cases e3
    | false =>
      cases e3
      obtain ⟨c, ws, rfl, hq, kr⟩ := cn
      refine ⟨c, ws, rfl, hq, fun H' p ts k hp ht hpt hp' hpr => ?_⟩
      have fk : Fk F θ' H1 (plus F p) θ' H' := ⟨fun b u e f z => ⟨k b u e, fun y => y.elim f (ne_of_none e hp), z⟩, fun _ _ e => e⟩
      refine q θ' p _ H' (t.trans (Tr.grow k)) (s.ms.was m t hp) hp' (m.grow k hp hp' (fun _ z => nomatch z)) ⟨_, rfl, pairs_new fk kr (fun x hx => ?_) hpr⟩
      have hx0 := ht x hx
      refine ⟨fun z => ?_, (m.fresh hx0).1⟩
      rcases z with z | z
      · exact (m.fresh hx0).2 z
      · exact hpt (z ▸ hx)
  | _ => cases e3
theorem tF.lrg {fr : Fr} {σ : L2.St} {H : Hp} {Φ : Fs} {Q : VK} {a : E} (h : tF fr (evF Φ (.lrg a)) σ H Q) : tLstRg (tRg1 (tE fr (evE Φ a))) σ H Q := by
  obtain ⟨F, θ, env, mem, d, mem', s, e, q⟩ := h
  obtain ⟨x, m1, e1, e⟩ := Mp.R.bind_ok e
  cases x with
  | int j =>
    dsimp only at e
    split at e
    · rename_i hj
      cases e
      refine ⟨F, θ, env, mem, _, _, s, e1, fun θ' v H1 t m r => ⟨j, r, ?_⟩⟩
      refine ⟨RgOk.of_le (by decide) hj.2 (by decide) hj.1, fun p hp => ?_⟩
      refine q θ' p _ _ (t.trans (.laid hp)) (s.ms.was m t hp) upd_same (m.laidOwn hp fun _ z => nomatch z) ⟨_, rfl, ?_⟩
      have gen : ∀ (n : Nat) (lo : Int), VRs fr.K (plus F p) θ' (upd H1 p (.lst (rgV 0 j))) (rngL lo n) ((List.range n).map fun i => V.int (lo + (i : Nat))) := fun n => by
        induction n with
        | zero => intro lo; exact rfl
        | succ n ih =>
          intro lo
          refine ⟨.int lo, (List.range n).map fun i => V.int (lo + 1 + (i : Nat)), ?_, rfl, ih (lo + 1)⟩
          rw [List.range_succ_eq_map, List.map_cons, List.map_map]
          congr 1
          · simp
          · refine List.map_congr_left fun i _ => ?_
            show V.int _ = V.int _
            congr 1
            simp only [Nat.succ_eq_add_one]; omega
      have z := gen j.toNat 0
      have e0 : (j - 0).toNat = j.toNat := by rw [Int.sub_zero]
      have e1 : rgV 0 j = (List.range j.toNat).map fun i => V.int (0 + (i : Nat)) := by unfold rgV; rw [e0]
      rw [← e1] at z
      exact z
    · cases e
  | _ => cases e
/-! ### sorted of a dict -/
theorem rising_pw : ∀ (l : List PySem.Str) (p : PySem.Str), PyProof.Rows.risingS p l = true → (p :: l).Pairwise fun a b => ¬ (b.cps.toList < a.cps.toList)
  | [], p, _ => by simp
  | x :: r, p, h => by
    unfold PyProof.Rows.risingS at h
    rw [Bool.and_eq_true, Bool.not_eq_true', PyProof.Rows.ltCps_eq] at h
    have ih := rising_pw r x h.2
    have h1 : ¬ x.cps.toList < p.cps.toList := of_decide_eq_false h.1
    rw [List.pairwise_cons]
    refine ⟨fun y hy => ?_, ih⟩
    rcases List.mem_cons.mp hy with rfl | hy
    · exact h1
    · have h2 := (List.pairwise_cons.mp ih).1 y hy
      rw [List.not_lt] at h1 h2 ⊢
      exact List.le_trans h1 h2
theorem sorted_pw {l : List PySem.Str} (h : PyProof.Rows.sortedS l = true) : l.Pairwise fun a b => ¬ (b.cps.toList < a.cps.toList) := by
  cases l with
  | nil => exact .nil
  | cons x r => exact rising_pw r x h
theorem srtT_pw (ts : List T) : (srtT ts).Pairwise fun a b => ¬ b < a := by
  unfold srtT
  have := List.pairwise_mergeSort (le := fun a b : T => !decide (b < a)) (fun a b c h1 h2 => by
    simp only [Bool.not_eq_true', decide_eq_false_iff_not, List.not_lt] at h1 h2 ⊢
    exact List.le_trans h1 h2) (fun a b => by
    simp only [Bool.or_eq_true, Bool.not_eq_true', decide_eq_false_iff_not, List.not_lt]
    exact List.le_total a b) ts
  exact this.imp fun h => by simpa using h
theorem srtT_perm (ts : List T) : (srtT ts).Perm ts := List.mergeSort_perm _ _
theorem srtT_is {ts us : List T} (hp : us.Perm ts) (hs : us.Pairwise fun a b => ¬ b < a) : us = srtT ts :=
  List.Perm.eq_of_pairwise (le := fun a b : T => ¬ b < a) (fun a b _ _ h1 h2 => List.le_antisymm (List.not_lt.mp h1) (List.not_lt.mp h2)) hs (srtT_pw ts) (hp.trans (srtT_perm ts).symm)
theorem keys_str {K : PySem.W.Frag} {F : Addr → Prop} {θ : List Addr} {H : Hp} : ∀ {kvs : List (D × D)} {ws : List (Key × V)} {ts : List T}, KR K F θ H kvs ws → strsO (kvs.map (·.1)) = some ts → ws.map (·.1) = (ts.map tS).map Sum.inr ∧ ∀ t ∈ ts, okT t = true
  | [], ws, ts, h, e => by
    simp only [KR] at h
    subst h
    cases e
    exact ⟨rfl, fun _ z => nomatch z⟩
  | (k, d) :: r, ws, ts, h, e => by
    simp only [KR] at h
    obtain ⟨k', v, q, rfl, ⟨e1, o⟩, h1, h2⟩ := h
    rw [List.map_cons] at e
    cases k with
    | str t =>
      obtain ⟨us, e2, rfl⟩ := Option.map_eq_some_iff.mp e
      obtain ⟨h3, h4⟩ := keys_str h2 e2
      cases e1
      refine ⟨by rw [List.map_cons, h3]; rfl, fun x hx => ?_⟩
      rcases List.mem_cons.mp hx with rfl | hx
      · exact o
      · exact h4 x hx
    | _ => cases e
theorem VRs.strs {K : PySem.W.Frag} {F : Addr → Prop} {θ : List Addr} {H : Hp} : ∀ {ts : List T}, (∀ t ∈ ts, okT t = true) → VRs K F θ H (ts.map D.str) ((ts.map tS).map V.str)
  | [], _ => rfl
  | t :: ts, h => ⟨_, _, rfl, ⟨rfl, h t List.mem_cons_self⟩, VRs.strs fun x hx => h x (List.mem_cons_of_mem _ hx)⟩
theorem cSrtD {X : Cx} (hc : X.calm = true) (hu : X.A.units + 66 < cLine) : CallR X (.builtin "sorted") (rD1 X.K srtD) := by
  intro pins s σ H vs us Q I r hh
  have hh0 := hh
  obtain ⟨x, F, θ, d, rr, rfl, cd, g, q⟩ := hh
  cases d with
  | lst xs => exact cSrt hu pins s σ H _ us Q I r ⟨x, F, θ, .lst xs, rr, rfl, cd, g, q⟩
  | dct t kvs =>
    cases t with
    | true => cases g
    | false =>
      obtain ⟨ts, e1, g⟩ := Option.bind_eq_some_iff.mp g
      split at g
      · rename_i hl
        cases g
        obtain ⟨a, ws, rfl, hq, kr⟩ := cd
        obtain ⟨h1, h2⟩ := keys_str kr e1
        refine call_sortedD hc pins s σ H _ us Q I r ⟨a, ws, ts.map tS, rfl, hq, h1, by rw [List.length_map]; exact hl, fun ys p hp hs hn => ?_⟩
        have e2 : ys.map (fun y => y.cps.toList) = srtT ts := by
          refine srtT_is ?_ ?_
          · have := hp.map (fun y : PySem.Str => y.cps.toList)
            rw [List.map_map] at this
            have e3 : ((fun y : PySem.Str => y.cps.toList) ∘ tS) = (id : T → T) := funext fun t => by simp
            rwa [e3, List.map_id] at this
          · exact List.pairwise_map.mpr (sorted_pw hs)
        have e4 : ys = (srtT ts).map tS := by
          rw [← e2, List.map_map]
          have : (tS ∘ fun y : PySem.Str => y.cps.toList) = id := funext fun y => tS_of y
          rw [this, List.map_id]
        subst e4
        exact q _ _ ⟨p, _, rfl, hn, rfl, VRs.strs fun t ht => h2 t ((srtT_perm ts).mem_iff.mp ht)⟩
      · cases g
  | _ => cases g
end Mp

set_option linter.all false
set_option autoImplicit false
set_option maxRecDepth 100000
set_option maxHeartbeats 1000000
/-! Mp30: xs[::i], list(d) of tuple keys, xs.count(k), min(xs). -/
namespace Mp
open PySem PySem.Spec PyProof.Rows L2
theorem fold_min : ∀ (r : List Int) (n : Int), r.foldl (fun a b => if b < a then b else a) n ∈ n :: r ∧ ∀ y ∈ n :: r, r.foldl (fun a b => if b < a then b else a) n ≤ y
  | [], n => ⟨by simp, fun y hy => by simp at hy; subst hy; exact Int.le_refl _⟩
  | x :: r, n => by
    obtain ⟨h1, h2⟩ := fold_min r (if x < n then x else n)
    rw [List.foldl_cons]
    refine ⟨?_, fun y hy => ?_⟩
    · rcases List.mem_cons.mp h1 with h | h
      · rw [h]
        split
        · simp
        · simp
      · exact List.mem_cons_of_mem _ (List.mem_cons_of_mem _ h)
    · have h0 := h2 _ List.mem_cons_self
      have hm : (if x < n then x else n) ≤ n ∧ (if x < n then x else n) ≤ x := by split <;> omega
      generalize (if x < n then x else n) = z at h0 h2 hm
      rcases List.mem_cons.mp hy with rfl | hy
      · omega
      · rcases List.mem_cons.mp hy with rfl | hy
        · omega
        · exact h2 y (List.mem_cons_of_mem _ hy)
theorem cMinl {X : Cx} (hc : X.calm = true) : CallR X (.builtin "min") (rD1 X.K minlD) := by
  intro pins s σ H xs us Q I r hh
  obtain ⟨x, F, θ, d, rr, rfl, cd, g, q⟩ := hh
  cases d with
  | lst xs =>
    obtain ⟨ns, e1, g⟩ := Option.bind_eq_some_iff.mp g
    obtain ⟨a, vs, rfl, ha, ra⟩ := cd
    have hv := ints_val e1 ra
    subst hv
    cases ns with
    | nil => cases g
    | cons n r' =>
      cases g
      refine cr_min hc pins s σ H _ us Q I r ⟨a, n :: r', rfl, SqL.of ha, by simp, fun m hm hle => ?_⟩
      obtain ⟨h1, h2⟩ := fold_min r' n
      have : m = r'.foldl (fun a b => if b < a then b else a) n := Int.le_antisymm (hle _ h1) (h2 _ hm)
      rw [this]
      exact q _ _ ⟨rfl, rfl⟩
  | _ => cases g
theorem tE.cnt {fr : Fr} {σ : L2.St} {H : Hp} {Φ : Fs} {Q : VK} {a : A} {b : E} (h : tE fr (evE Φ (.cnt a b)) σ H Q) : tBM fr.K "list" (rCntI fr.K) (tA fr (evA Φ a)) (tCons (tE fr (evE Φ b)) tNil) σ H Q := by
  obtain ⟨F, θ, env, mem, d, mem', s, e, q⟩ := h
  obtain ⟨x, m1, e1, e⟩ := Mp.R.bind_ok e
  split at e
  · rename_i hi
    obtain ⟨y, m2, e2, e⟩ := Mp.R.bind_ok e
    obtain ⟨e9, e8⟩ := Mp.R.ofO_ok e
    subst e8
    obtain ⟨x', e3, e4⟩ := Option.bind_eq_some_iff.mp e9
    refine ⟨F, θ, env, mem, x, m1, s, e1, fun θ1 v H1 t1 ms1 r1 => ?_⟩
    obtain ⟨c, ws, hv, hc⟩ : ∃ c ws, v = .ref c ∧ H1 c = some (.lst ws) := by
      cases ex : vw m1 x with
      | none => rw [ex] at hi; cases hi
      | some z =>
        rw [ex] at hi
        cases z with
        | lst zs => obtain ⟨c, ws, rfl, q1, _⟩ := r1.cn ms1 ex; exact ⟨c, ws, rfl, q1⟩
        | _ => cases hi
    subst hv
    refine ⟨.inl ⟨rfl, ws, SqL.of hc⟩, F, θ1, env, m1, y, _, s.step t1 ms1, e2, fun θ2 u H2 t2 ms2 r2 => ?_⟩
    have cn := (r1.step t2 ms1).cn ms2 e3
    cases x' with
    | lst xs =>
      cases y with
      | int i =>
        obtain ⟨ns, e5, rfl⟩ := Option.map_eq_some_iff.mp (show (intsO xs).map _ = _ from e4)
        obtain ⟨c', vs, hc', ha, ra⟩ := cn
        cases hc'
        have hv := ints_val e5 ra
        subst hv
        exact ⟨c, ns, i, rfl, by rw [show u = .int i from r2], SqL.of ha, q θ2 _ H2 (t1.trans t2) ms2 rfl⟩
      | _ => cases e4
    | _ => cases e4
  · cases e
/-! ### xs[::i] -/
theorem pick_all (items : Array Value) : slicePick items none none (some 1) = items := by
  have hb : sliceBounds none none (some 1) items.size = (0, (items.size : Int), 1) := by
    unfold sliceBounds
    rfl
  unfold slicePick
  rw [hb]
  have hr : sliceRange 0 (items.size : Int) 1 = List.range items.size := by
    unfold sliceRange
    rcases Nat.eq_zero_or_pos items.size with h | h
    · rw [h]; rfl
    · simp [h]
  show ((sliceRange 0 (items.size : Int) 1).filterMap (items[·]?)).toArray = items
  rw [hr, PySem.W.krv_all]
def tStp (K : PySem.W.Frag) (te ts : TE) : TE := fun σ H Q => te σ H fun x H1 => ∃ a, x = .ref a ∧ tPart ts σ H1 fun o H2 => ∃ (i : Int) (xs : List V), o = some i ∧ (i = 1 ∨ i = -1) ∧ SqL K H2 a xs ∧ ∀ p, H2 p = none → Q (.ref p) (upd H2 p (.lst (if i = 1 then xs else xs.reverse)))
theorem peStp {X : Cx} {e st : Expr} {te ts : TE} {p3 pos : Pos} (he : PE X e te) (hs : PE X st ts) : PE X (.Subscript e (.Slice none none (some st) p3) pos) (tStp X.K te ts) := by
  refine ⟨fun pins s σ H Q I h => ?_⟩
  refine Subscript_ (thn (he.run pins s σ H _ I h) fun v s1 ⟨x, H1, I1, r1, q1⟩ => ?_)
  obtain ⟨a, ex, q1⟩ := q1
  subst ex
  cases r1
  refine wpAny_Slice (thn (po_none.run pins s1 σ H1 (fun o H2 => o = none ∧ H2 = H1) I1 ⟨rfl, rfl⟩) fun vl s2 ⟨l, H2, I2, pl, el, e2⟩ => ?_)
  subst el e2
  refine thn (po_none.run pins s2 σ H2 (fun o H3 => o = none ∧ H3 = H2) I2 ⟨rfl, rfl⟩) fun vu s3 ⟨u, H3, I3, pu, eu, e3⟩ => ?_
  subst eu e3
  have hst : PO X (some st) (tPart ts) := po_some hs
  refine thn (hst.run pins s3 σ H3 _ I3 q1) fun vs s4 ⟨o, H4, I4, ps, i, xs, eo, hi, hx, q⟩ => ?_
  subst eo
  have I5 : Inv X pins σ H4 { s4 with heap := s4.heap.push { cls := .type "slice", data := .fields #[vl, vu, vs] } } := I4.kept (t' := s4.toks) fun b ob q => Heap.get?_push_of_some _ q
  obtain ⟨its, r, ht, hz⟩ := I5.list hx
  have hlen := r.length
  show wpAny (model X.prog X.w) X.A (subscriptTail e (.Slice none none (some st) p3) (.ref a) (.ref s4.heap.objs.size)) (EP X pins σ Q) X.xe { s4 with heap := s4.heap.push { cls := .type "slice", data := .fields #[vl, vu, vs] } }
  refine tail_any (ops := [.ref a, .ref s4.heap.objs.size]) ht.isList.typeIs (PySem.slot_list_getitem.lookup) ?_ (by with_unfolding_all rfl)
  refine wpAny_getItem_list_slice ht.isList (Heap.IsSliceOf.new _ vl vu vs) pl pu ps (by rcases hi with rfl | rfl <;> decide) ?_ (by rw [List.size_toArray]; omega)
  rcases hi with rfl | rfl
  · rw [pick_all]
    refine ⟨.ref _, _, I5.laid (t' := s4.toks) (o := .lst xs) (fun b ob q => Heap.get?_push_of_some _ q) (Nat.le_refl _) ?_, rfl, q _ (I5.hok.fresh (Nat.le_refl _))⟩
    exact ⟨hz, _, 0, r, Heap.get?_push_size _ rfl⟩
  · rw [PySem.W.krv_pick]
    refine ⟨.ref _, _, I5.laid (t' := s4.toks) (o := .lst xs.reverse) (fun b ob q => Heap.get?_push_of_some _ q) (Nat.le_refl _) ?_, rfl, q _ (I5.hok.fresh (Nat.le_refl _))⟩
    exact ⟨by rw [List.length_reverse]; exact hz, _, 0, r.reverse, Heap.get?_push_size _ rfl⟩
theorem tF.stp {fr : Fr} {σ : L2.St} {H : Hp} {Φ : Fs} {Q : VK} {a : A} {b : E} (h : tF fr (evF Φ (.stp a b)) σ H Q) : tStp fr.K (tA fr (evA Φ a)) (tE fr (evE Φ b)) σ H Q := by
  obtain ⟨F, θ, env, mem, d, mem', s, e, q⟩ := h
  unfold evF at e
  obtain ⟨x, m1, e1, e⟩ := Mp.R.bind_ok e
  split at e
  · rename_i hi
    obtain ⟨y, m2, e2, e⟩ := Mp.R.bind_ok e
    obtain ⟨e9, e8⟩ := Mp.R.ofO_ok e
    subst e8
    obtain ⟨i, e3, e4⟩ := Option.bind_eq_some_iff.mp e9
    obtain ⟨x', e5, e6⟩ := Option.bind_eq_some_iff.mp e4
    refine ⟨F, θ, env, mem, x, m1, s, e1, fun θ1 v H1 t1 ms1 r1 => ?_⟩
    obtain ⟨c, ws, hv, hc⟩ : ∃ c ws, v = .ref c ∧ H1 c = some (.lst ws) := by
      cases ex : vw m1 x with
      | none => rw [ex] at hi; cases hi
      | some z =>
        rw [ex] at hi
        cases z with
        | lst zs => obtain ⟨c, ws, rfl, q1, _⟩ := r1.cn ms1 ex; exact ⟨c, ws, rfl, q1⟩
        | _ => cases hi
    subst hv
    refine ⟨c, rfl, F, θ1, env, m1, y, _, s.step t1 ms1, e2, fun θ2 u H2 t2 ms2 r2 => ?_⟩
    have cn := (r1.step t2 ms1).cn ms2 e5
    cases y with
    | int i' =>
      cases e3
      cases x' with
      | lst xs =>
        obtain ⟨c', vs, hc', ha, ra⟩ := cn
        cases hc'
        have e6 : (if i = 1 then some (D.lst xs) else if i = -1 then some (D.lst xs.reverse) else none) = some d := e6
        split at e6
        · rename_i h1
          cases e6
          refine ⟨i, r2, i, vs, rfl, .inl h1, SqL.of ha, fun p hp => ?_⟩
          rw [if_pos h1]
          have n : New fr.K F θ2 H2 (.lst xs) (.ref p) (upd H2 p (.lst vs)) := ⟨p, vs, rfl, hp, rfl, ra⟩
          obtain ⟨p', o, e1, hp', ho, tr, ms, cc⟩ := new_own n ms2 (.inl ⟨xs, rfl⟩)
          cases e1
          exact q θ2 p o _ ((t1.trans t2).trans tr) (s.ms.was ms2 (t1.trans t2) hp) ho ms cc
        · rename_i h1
          split at e6
          · rename_i h2
            cases e6
            refine ⟨i, r2, i, vs, rfl, .inr h2, SqL.of ha, fun p hp => ?_⟩
            rw [if_neg h1]
            have n : New fr.K F θ2 H2 (.lst xs.reverse) (.ref p) (upd H2 p (.lst vs.reverse)) := ⟨p, vs.reverse, rfl, hp, rfl, VRs.reverse ra⟩
            obtain ⟨p', o, e1, hp', ho, tr, ms, cc⟩ := new_own n ms2 (.inl ⟨xs.reverse, rfl⟩)
            cases e1
            exact q θ2 p o _ ((t1.trans t2).trans tr) (s.ms.was ms2 (t1.trans t2) hp) ho ms cc
          · cases e6
      | _ => cases e6
    | _ => cases e3
  · cases e
section
variable {K : PySem.W.Frag} {F : Addr → Prop} {θ : List Addr} {H : Hp} {mem : Mem}
theorem keys_vrs : ∀ {xs : List D} {k : List Key}, keysOf xs = some k → xs.all ok1 = true → VRs K F θ H xs (k.map kV)
  | [], k, e, _ => by cases e; exact rfl
  | x :: xs, k, e, h => by
    obtain ⟨a, e1, e⟩ := Option.bind_eq_some_iff.mp e
    obtain ⟨b, e2, rfl⟩ := Option.map_eq_some_iff.mp e
    rw [List.all_cons, Bool.and_eq_true] at h
    refine ⟨kV a, b.map kV, rfl, ?_, keys_vrs e2 h.2⟩
    cases x <;> simp only [keyOf] at e1 <;> first | (cases e1; done) | skip
    · cases e1; exact rfl
    · cases e1; exact ⟨rfl, h.1⟩
theorem tup_free (m : MS K F θ mem H) {b : Addr} {ws : List V} (h : H b = some (.tup ws)) : ¬ F b ∧ b ∉ θ := by
  refine ⟨fun z => ?_, fun z => ?_⟩
  · obtain ⟨o, e, n⟩ := m.Fd b z
    rw [h] at e; cases e
    exact n _ rfl
  · obtain ⟨i, hi, e⟩ := List.getElem_of_mem z
    have hm : i < mem.length := by rw [m.len]; exact hi
    obtain ⟨b', o, e1, e2, c⟩ := m.at_ i mem[i] (List.getElem?_eq_getElem hm)
    rw [List.getElem?_eq_getElem hi, e] at e1
    cases e1
    rw [h] at e2; cases e2
    exact c.nt _ rfl
theorem tkeys_vrs (m : MS K F θ mem H) : ∀ {kvs : List (D × D)} {ws : List (List Key × V)} {bs : List Addr}, TR K F θ H kvs ws → IsKeys H ws bs → VRs K F θ H (kvs.map (·.1)) (bs.map V.ref)
  | [], ws, bs, h, i => by
    simp only [TR] at h
    subst h
    cases i
    exact rfl
  | (k, d) :: r, ws, bs, h, i => by
    simp only [TR] at h
    obtain ⟨k', v, q, rfl, ⟨e, o⟩, h1, h2⟩ := h
    unfold IsKeys at i
    cases i with
    | cons h3 h4 =>
      rename_i b bs
      refine ⟨.ref b, bs.map V.ref, rfl, ?_, tkeys_vrs m h2 h4⟩
      cases k with
      | tup xs =>
        simp only [VR]
        obtain ⟨f1, f2⟩ := tup_free m h3
        exact ⟨b, _, rfl, h3, f1, f2, keys_vrs e o⟩
      | _ => simp [tkeyOf] at e
end
theorem tF.lstT {fr : Fr} {σ : L2.St} {H : Hp} {Φ : Fs} {Q : VK} {a : A} (h : tF fr (evF Φ (.lstT a)) σ H Q) : tCB (fun xs H Q => ∃ d kvs, xs = [V.ref d] ∧ Rd H d (.dT kvs) ∧ ∀ p bs, H p = none → IsKeys H kvs bs → Q (.ref p) (upd H p (.lst (bs.map V.ref)))) (tCons (tA fr (evA Φ a)) tNil) σ H Q := by
  obtain ⟨F, θ, env, mem, d, mem', s, e, q⟩ := h
  obtain ⟨x, m1, e1, e⟩ := Mp.R.bind_ok e
  obtain ⟨e9, e8⟩ := Mp.R.ofO_ok e
  subst e8
  obtain ⟨x', e2, e3⟩ := Option.bind_eq_some_iff.mp e9
  refine ⟨F, θ, env, mem, x, _, s, e1, fun θ' v H1 t m r => ?_⟩
  have cn := r.cn m e2
  cases x' with
  | dct tk kvs =>
    cases tk with
    | false => cases e3
    | true =>
      cases e3
      obtain ⟨c, ws, rfl, hq, tr⟩ := cn
      refine ⟨c, ws, rfl, hq, fun p bs hp hb => ?_⟩
      have n : New fr.K F θ' H1 (.lst (kvs.map (·.1))) (.ref p) (upd H1 p (.lst (bs.map V.ref))) := ⟨p, _, rfl, hp, rfl, tkeys_vrs m tr hb⟩
      obtain ⟨p', o, e1, hp', ho, tr', ms, cc⟩ := new_own n m (.inl ⟨_, rfl⟩)
      cases e1
      exact q θ' p o _ (t.trans tr') (s.ms.was m t hp) ho ms cc
  | _ => cases e3
end Mp

set_option linter.all false
set_option autoImplicit false
set_option maxRecDepth 100000
set_option maxHeartbeats 1000000
/-! Mp32: classes of exceptions. -/
namespace Mp
open PySem PySem.Spec PyProof.Rows L2

/-- isinstance of an exception that lies tracked -/
def rIsx (K : PySem.W.Frag) : List V → Hp → VK → Prop := fun xs H Q => ∃ (a c : Addr) (cv : V) (u : Value) (b : Bool), xs = [.ref a, cv] ∧ (∀ w, RelV cv w → w = u) ∧ H a = some (XcO c a) ∧ ExcC K c ∧ PySem.W.kitOne K (.ref c) u = some b ∧ Q (.bl b) H
theorem cIsx {X : Cx} : CallR X (.builtin "isinstance") (rIsx X.K) := by
  intro pins s σ H xs us Q I r h
  obtain ⟨a, D, c, cv, b, rfl, hcv, ha, C, e, q⟩ := h
  cases r with
  | cons rx rr =>
    cases rr with
    | cons rt rr =>
      cases rr
      cases rx
      have ec := hcv _ rt
      subst ec
      obtain ⟨⟨oe, hget, hz, vs, hv⟩, _⟩ := I.hok a _ ha
      have J : PySem.W.InstAt s.heap a oe D none := by
        obtain ⟨oc, od, oda, osl⟩ := oe
        obtain ⟨h1, h2⟩ := hz
        dsimp only at h1 h2 hv
        subst h1 h2 hv
        exact ⟨hget, rfl, rfl, trivial⟩
      exact PySem.W.kia_one (PySem.W.handS_kitx_exc C.hg C.hk C.hs C.hd C.ha C.hn C.ht C.hm) I.kIn J e (fun z => nomatch z) fun tk => ⟨.bl b, H, I.kept (t' := tk) fun _ _ z => z, rfl, q⟩
abbrev bmVE : List Value := [.type "ValueError", .type "Exception", .type "BaseException", .type "object"]
/-- the classes of exceptions that the program names: what holds of them, and what the evaluator tells of them -/
structure XcOk (K : PySem.W.Frag) (mg : Str → Option Value) (ex : List (Str × Bool)) (Φ : Fs) : Prop where
  cls : ∀ i x, ex[i]? = some (x, true) → (∃ m r m', Φ (xCls + i) [] m = .ok r m') → ∃ C, mg x = some (.ref C) ∧ PySem.W.keepIn K (.ref C) = true ∧ PySem.W.excIn K C bmVE "ValueError.__new__" = true ∧ PySem.W.subIn K (.ref C) (.type "BaseException") = some true ∧ PySem.W.typeIn K (.ref C) = some (.type "type") ∧
    ∀ m r m', Φ (xCls + i) [] m = .ok r m' → r.2 = .ins C [] ∧ m' = m
  tst : ∀ i x o, ex[i]? = some (x, o) → ∃ (u : Value) (v : V), (o = true → ∃ CS, u = .ref CS ∧ ∀ c b, PySem.W.kitOne K (.ref c) u = some b → PySem.W.exmOne K (.ref c) u = some b) ∧ ((mg x = some u ∧ o = true) ∨ (mg x = none ∧ bootBuiltins x = some u ∧ x ≠ "__name__" ∧ o = false)) ∧ RelV v u ∧ (∀ w, RelV v w → w = u) ∧
    ∀ d m r m', Φ (xTst + i) [d] m = .ok r m' → m' = m ∧ ∃ c b, d = .ins c [] ∧ r.2 = .bl b ∧ ExcC K c ∧ PySem.W.kitOne K (.ref c) u = some b
section
variable {fr : Fr} {σ : L2.St} {H : Hp} {Φ : Fs} {Q : VK}
theorem tE.isx {e : E} {x : Str} {i : Nat} {mg : Str → Option Value} {u : Value} {v : V} (hv : ∀ w, RelV v w → w = u) (ht : ∀ d m r m', Φ (xTst + i) [d] m = .ok r m' → m' = m ∧ ∃ c b, d = .ins c [] ∧ r.2 = .bl b ∧ ExcC fr.K c ∧ PySem.W.kitOne fr.K (.ref c) u = some b)
    (h : tE fr (evE Φ (.isx e x i)) σ H Q) : tCB (rIsx fr.K) (tCons (tE fr (evE Φ e)) (tCons (tC v) tNil)) σ H Q := by
  obtain ⟨F, θ, env, mem, d, mem', s, e, q⟩ := h
  obtain ⟨y, m1, e1, e⟩ := Mp.R.bind_ok e
  obtain ⟨r, m2, e2, e⟩ := Mp.R.bind_ok e
  cases e
  obtain ⟨rfl, c, b, rfl, hr, C, hk⟩ := ht _ _ _ _ e2
  refine ⟨F, θ, env, mem, _, _, s, e1, fun θ1 w H1 t1 ms1 r1 => ?_⟩
  simp only [VR] at r1
  obtain ⟨a, rfl, ha, hF, hθ⟩ := r1
  exact ⟨a, c, v, u, b, rfl, hv, ha, C, hk, q θ1 _ H1 t1 ms1 (by rw [hr]; rfl)⟩
end
end Mp

set_option linter.all false
set_option autoImplicit false
set_option maxRecDepth 100000
set_option maxHeartbeats 2000000
/-! Mp33: what is caught is kept; a lambda that is asked under a try. -/
namespace Mp
open PySem PySem.Spec PyProof.Rows L2 LamX

theorem xcO_ok {P : Program} {w : World} {H : Hp} {h : Heap} {a c : Addr} {oe : Obj} {vs : Array Value} (e : h.get? a = some oe) (z : Zc (.ref c) none oe) (d : oe.data = .fields vs) : ObjOk P w H h a (XcO c a) :=
  ⟨⟨oe, e, z, vs, d⟩, ⟨oe, e⟩, fun _ _ ⟨o, q, r⟩ k => ⟨o, k o q, r⟩⟩
section
variable {X : Cx} {pins : List (Addr × Obj)} {σ : L2.St} {H : Hp} {sI s' : Shared} {B : Heap} {a : Addr} {o : HO}
/-- an exception that came to rest is known from now on -/
theorem tracked (J : Inv X pins σ H sI) (nb : ∀ b o, sI.heap.get? b = some o → b ∉ frs X.stack → B.get? b = some o) (st : B.StaysIn s'.heap) (nB : B.get? a = none) (nfr : a ∉ frs X.stack) (up : sI.heap.UpToSlots s'.heap) (os : s'.os = sI.os) (ag : AllBare s'.gens)
    (hn : H a = none) (new : ObjOk X.prog X.w (upd H a o) s'.heap a o) : Inv X pins σ (upd H a o) s' := by
  have nI : sI.heap.get? a = none := by
    cases e : sI.heap.get? a with
    | none => rfl
    | some u => rw [nb a u e nfr] at nB; cases nB
  obtain ⟨G, g1, g2⟩ := restrict s'.heap fun b => decide (b ≠ a)
  have ga : G.get? a = none := g2 a (decide_eq_false fun z => z rfl)
  have gk : ∀ b, b ≠ a → G.get? b = s'.heap.get? b := fun b hb => g1 b (decide_eq_true hb)
  have J1 : Inv X pins σ H { s' with heap := G } := J.landed (s' := { s' with heap := G }) nb (fun b u e => by
    have hb : b ≠ a := fun z => by rw [z, nB] at e; cases e
    show G.get? b = some u
    rw [gk b hb]; exact st b u e) (fun b u e hd => by
    have hb : b ≠ a := fun z => by rw [z, nI] at e; cases e
    obtain ⟨sl, q⟩ := up b u e hd
    exact ⟨sl, by show G.get? b = _; rw [gk b hb]; exact q⟩) os ag
  exact Inv.laidN (s := { s' with heap := G }) (h' := s'.heap) (t' := s'.toks) J1 (fun b u e => by
    have hb : b ≠ a := fun z => by
      have e : G.get? b = some u := e
      rw [z, ga] at e; cases e
    rw [← gk b hb]; exact e) ga hn new
theorem Inv.suiteT (I : Inv X pins σ H s') (a : Addr) : Inv (X.suite a (X.pn ++ pins)) [] σ H s' :=
  ⟨I.ok.suite _ _, I.os, I.bare, I.base, I.loc, I.cell, I.free, I.freeC, fun p hp => I.pin p (by rw [List.append_nil] at hp; exact hp), I.hok, I.len⟩
theorem Inv.unsuiteT {a : Addr} {pn' : List (Addr × Obj)} (I : Inv (X.suite a (X.pn ++ pins)) pn' σ H s') (ok : X.Ok) : Inv X pins σ H s' :=
  ⟨ok, I.os, I.bare, I.base, I.loc, I.cell, I.free, I.freeC, fun p hp => I.pin p (List.mem_append_left _ hp), I.hok, I.len⟩
end
/-- what the clause 'except x as n' wishes: slot i is n's; the exception stays known -/
def wKeep (K : PySem.W.Frag) (c : Value) (i : Nat) (ts : TS) (Wout : WX) (D : Ends) : WX := fun cls d σ H =>
  ∃ b, PySem.W.exmOne K cls c = some b ∧ (b = true → ∃ C, cls = .ref C ∧ d = none ∧ ∀ a, H a = none → ts { nx := fun σ' H' => D.nx (σ'.set i none) H', rt := D.rt, bk := fun σ' H' => D.bk (σ'.set i none) H', ct := fun σ' H' => D.ct (σ'.set i none) H' } (σ.set i (some (.ref a))) (upd H a (XcO C a))) ∧
    (b = false → Wout cls d σ H)
section
variable {X : Cx} {x n : Str} {c : Value} {i : Nat} {body suite : List Stmt} {b₀ : Stmt} {np pos pos' : Pos} {tb : WX → TS} {ts : TS} {Wout : WX}
theorem ps_try_keep (hs : X.stack = X.env :: X.outer) (hf : X.env.frame = some X.env.locals) (hN : X.N.Nodup) (hi : X.N[i]? = some n) (hln : X.env.kindOf n = some .local) (hc : Names X x c) (tk : Takes X Wout)
    (hb : ∀ (W : WX) (pn : List (Addr × Obj)) (xe : Value → Shared → Prop), Takes (X.tr pn xe) W → PassesOwn (model X.prog X.w) X.A X.env xe → PSs (X.tr pn xe) body (tb W))
    (hsu : ∀ (a : Addr) (pn : List (Addr × Obj)), PSs (X.suite a pn) (b₀ :: suite) ts) :
    PS X (.Try body [.ExceptHandler (some (.Name x np)) (some n) (b₀ :: suite) pos'] [] [] pos) (fun D σ H => tb (wKeep X.K c i ts Wout D) D σ H) := by
  refine ⟨fun pins s σ H D I h => ?_⟩
  have ok := I.ok
  have hfr : X.A.frames = some (X.env :: X.outer) := by rw [ok.frames, hs]
  have hloc : Loc X.env.scope n := .inl hln
  refine wpAny_Try_except ?_
  refine wpAny_mono ((hb (wKeep X.K c i ts Wout D) (X.pn ++ pins) (fun e s₁ => wpAny (model X.prog X.w) X.A (noteFrame e X.env) (fun _ s₂ => wpAny (model X.prog X.w) X.A (setFlight e none) (fun _ s₃ =>
    wpAny (model X.prog X.w) X.A (handleBy e X.env [.ExceptHandler (some (.Name x np)) (some n) (b₀ :: suite) pos']) (SP X pins D) X.xe s₃) X.xe s₂) X.xe s₁) (fun u s' xx => ?_) PassesOwn.looking).run [] s σ H D (I.toTry _) h) (fun f s1 hsp => ?_) (fun e s1 he => he)
  · obtain ⟨a, B, sI, pins', σ', H', cls, d, rfl, J', nb, up, sky, na, os, ag, b, hb1, hyes, hno⟩ := xx
    have J : Inv X pins σ' H' sI := J'.ofTry ok
    have sky' : Sky B (X.env :: X.outer) a (Zc cls d) X.env.locals s'.heap := by rw [← hs]; exact sky
    show wpAny (model X.prog X.w) X.A (noteFrame (.ref a) X.env) _ _ _
    refine Sky.land Zc.steady hfr hf sky' fun h3 fl3 up3 => ?_
    have J3 : Inv X pins σ' H' { s' with heap := h3 } := J.landed nb fl3.1 (up.trans up3) os ag
    obtain ⟨oe3, vs3, he3, hz3, hd3⟩ := fl3.there
    have nfr : a ∉ frs (X.env :: X.outer) := fun hm => by
      obtain ⟨_, o', e', hnf⟩ := fl3.2.2.1.mem hm
      rw [he3] at e'; cases e'
      exact hnf _ hd3
    have nL : a ≠ X.env.locals := fun z => nfr (List.mem_filterMap.mpr ⟨X.env, List.mem_cons_self, by rw [hf, z]⟩)
    have nF : a ∉ X.fs := fun hm => by
      obtain ⟨e, he, q⟩ := List.mem_filterMap.mp hm
      exact nfr (List.mem_filterMap.mpr ⟨e, List.mem_cons_of_mem _ he, q⟩)
    have S3 := J3.suite he3 hd3 na nL nF
    refine wpAny_handleBy_cons (codeAny_handlers_test ?_) (by intro q; cases q)
    have LT : PySem.W.Looks (model X.prog X.w) h3 (typeOf (.ref a)) cls := fun A Q E s k q => wpAny_typeOf_ref (k _ _ he3) (by rw [hz3.1]; exact q)
    have LM := PySem.W.exm_one (M := model X.prog X.w) (J3.kIn) LT hb1
    have test : ∀ {Q : Value → Shared → Prop} {E : Value → Shared → Prop}, Q c { s' with heap := h3 } → wpAny (model X.prog X.w) (X.A.mark (some (.ref a))) (eval (.Name x np) X.env) Q E { s' with heap := h3 } := fun {Q E} q => by
      obtain ⟨hg, hdbg, hm | ⟨hm, hv, hnn⟩⟩ := hc
      · exact ld_glob (X := X.suite a ((a, oe3) :: (X.pn ++ pins))) S3 hg hm q hdbg
      · exact ld_blt (X := X.suite a ((a, oe3) :: (X.pn ++ pins))) S3 hg hm hv q hnn hdbg
    refine test (LM.here ?_)
    cases b with
    | true =>
      refine codeAny_handlers_suite_as ?_
      refine HandSPX.lands_againZ fl3 fun h4 fl4 up4 => ?_
      obtain ⟨oe4, vs4, he4, hz4, hd4⟩ := fl4.there
      obtain ⟨C, rfl, rfl, hyes2⟩ := hyes rfl
      have J4 : Inv X pins σ' (upd H' a (XcO C a)) { s' with heap := h4 } := tracked J nb fl4.1 fl4.2.1 (by rw [hs]; exact nfr) ((up.trans up3).trans up4) os ag na (xcO_ok he4 hz4 hd4)
      have S4 := Inv.suiteT J4 a
      refine store_ok (X := X.suite a (X.pn ++ pins)) (v := .ref a) S4 hN hi hloc rfl (fun s5 S5 => ?_) (.inr hln)
      refine wpAny_mono ((hsu a (X.pn ++ pins)).run [] s5 _ _ _ S5 (hyes2 a na)) (fun f s6 hsp => ?_) (fun _ _ z => False.elim z)
      have end_ : ∀ {σ6 : L2.St} {H6 : Hp} {Q : Shared → Prop}, Inv (X.suite a (X.pn ++ pins)) [] σ6 H6 s6 → (∀ s7, Inv X pins (σ6.set i none) H6 s7 → Q s7) →
          wpAny (model X.prog X.w) X.A (do bindName X.env n .none; unbindBehindTheSuite X.env n pos') (fun _ s7 => Q s7) X.xe s6 := fun {σ6 H6 Q} S6 hq => gone_ok (Inv.unsuiteT S6 ok) hN hi hln hq
      cases f with
      | next =>
        obtain ⟨σ6, H6, S6, q6⟩ := hsp
        exact end_ S6 fun s7 J7 => ⟨_, _, J7, q6⟩
      | brk =>
        obtain ⟨σ6, H6, S6, q6⟩ := hsp
        exact end_ S6 fun s7 J7 => ⟨_, _, J7, q6⟩
      | cont =>
        obtain ⟨σ6, H6, S6, q6⟩ := hsp
        exact end_ S6 fun s7 J7 => ⟨_, _, J7, q6⟩
      | ret u =>
        obtain ⟨v6, σ6, H6, S6, r6, q6⟩ := hsp
        exact end_ S6 fun s7 J7 => ⟨_, _, _, J7, r6, q6⟩
    | false =>
      show wpAny _ X.A (handleBy (.ref a) X.env []) _ _ _
      refine wpAny_handleBy_nil ?_
      obtain ⟨k1, k2, k3, oe, vs, T, oT, ts', he, hz, hd, h1, hr⟩ := id fl3
      unfold PySem.passOn
      refine wpAny_bind (wpAny_field he hd h1 ?_)
      rw [if_neg (show ¬ ((Value.ref T == Value.none) = true) from by simp)]
      have fin : wpAny (model X.prog X.w) X.A (setFlight (.ref a) X.env.frame) (fun _ s4 => wpAny (model X.prog X.w) X.A (throw (.ref a) : Sem Flow) (SP X pins D) X.xe s4) X.xe { s' with heap := h3 } := by
        rw [hf]
        refine HandSPX.setFlight_upZ fl3 fun h4 hh4 up4 => wpAny_throw (tk _ _ ?_)
        exact ⟨a, B, sI, pins, σ', H', cls, d, rfl, J, nb, (up.trans up3).trans up4, .inr (.inr (by rw [hs]; exact hh4)), na, os, ag, hno rfl⟩
      first
        | exact wpAny_bind (wpAny_pure (wpAny_bind fin))
        | exact wpAny_bind fin
  · cases f with
    | next =>
      obtain ⟨σ', H', J', q⟩ := hsp
      exact wpAny_execs_nil ⟨σ', H', J'.ofTry ok, q⟩
    | brk =>
      obtain ⟨σ', H', J', q⟩ := hsp
      exact ⟨σ', H', J'.ofTry ok, q⟩
    | cont =>
      obtain ⟨σ', H', J', q⟩ := hsp
      exact ⟨σ', H', J'.ofTry ok, q⟩
    | ret u =>
      obtain ⟨v, σ', H', J', r, q⟩ := hsp
      exact ⟨v, σ', H', J'.ofTry ok, r, q⟩
end
/-! ### a lambda made -/
/-- the heap behind it: as it was, or the table has one more code object -/
def NewT (P : Addr) (ps : Array Value) (q : Str) (c' : Addr) (H H1 : Hp) : Prop :=
  (H1 = H ∧ H c' = some (CodeO c' q)) ∨ ∃ more : Array Value, H c' = none ∧ P ≠ c' ∧ H1 = upd (upd H P (.tbl (ps ++ more))) c' (CodeO c' q) ∧ TriplesOk (ps ++ more).toList ∧ ∀ (pos : Pos) (cv : Value), codeAmong pos (ps ++ more).toList = some cv → codeAmong pos ps.toList = some cv ∨ cv = .ref c'
section
variable {X : Cx} {pins : List (Addr × Obj)} {σ : L2.St} {H : Hp} {s : Shared}
theorem lam_mk {c P : Addr} {q : Str} {ps : Array Value} {params : Arguments} {body : Expr} {scope : Scope} {pos : Pos} {E : Value → Shared → Prop} {Q : Value → Shared → Prop} (I : Inv X pins σ H s) (TB : TabB X.base X.mg c P) (hcode : X.env.code = .ref c) (hq : X.env.qual ++ "<lambda>" = q)
    (hP : H P = some (.tbl ps)) (ht : TriplesOk ps.toList) (ha : ∀ (pos : Pos) (cv : Value), codeAmong pos ps.toList = some cv → ∃ c, cv = .ref c ∧ H c = some (CodeO c q)) (hdef : defaultsOf params X.env = ([], [])) (hfree : ∀ y ∈ scope.names, y.2 = .free → ∃ c, X.env.cells.lookup y.1 = some c)
    (h : ∀ (f c' : Addr) (pm ctv : Value) (H1 : Hp) (s' : Shared), Inv X pins σ H1 s' → NewT P ps q c' H H1 →
      s'.heap.get? f = some (PySem.W.kla_obj "<lambda>" (X.env.qual ++ "<lambda>") params body scope (cloFrom X.env.cells scope.names []) pm c' ctv) → H1 f = none → f ∉ frs X.stack → H1 c' = some (CodeO c' q) → Q (.ref f) s') :
    wpAny (model X.prog X.w) X.A (eval (.Lambda params body scope pos) X.env) Q E s := by
  subst hq
  refine PySem.W.kla_eval hdef ?_
  have bP : s.heap.BuiltinsAt X.mg P := TB.bm.keeps I.bk
  have hP' : s.heap.get? P = some { cls := .none, data := .fields ps } := I.hok P _ hP
  have nofr : ∀ f, s.heap.objs.size ≤ f → f ∉ frs X.stack := fun f hf z => by
    rcases List.mem_cons.mp (I.stkSub _ z) with e | e
    · have h1 := I.lt
      rw [← e] at h1
      exact Nat.lt_irrefl _ (Nat.lt_of_lt_of_le h1 hf)
    · exact I.nofs hf e
  cases hc : codeAmong pos ps.toList with
  | none =>
    refine PySem.W.kla_makeFunction (mg := X.mg) (c := c) (P := P) (ps := ps) (closure_ok hfree) I.ok.glob (I.mod.glob.keeps I.bk) hcode (TB.code.keeps I.bk) hP' ht hc TB.gP bP fun c' ctv h' tk hx hge hlt hrec htb => ?_
    obtain ⟨c2, oc, vs, t, e2, hoc, hd, hv⟩ := hrec
    cases e2
    have hsz : s.heap.objs.size ≤ h'.objs.size := Nat.le_trans hge (Nat.le_of_lt hlt)
    have nC : H c' = none := I.hok.fresh hge
    have I1 := inv_table (t' := tk) (more := #[rawInt pos.line, rawInt pos.col, .ref c']) (h' := h'.push (PySem.W.kla_obj "<lambda>" (X.env.qual ++ "<lambda>") params body scope (cloFrom X.env.cells scope.names []) ((X.mg "__name__").getD .none) c' ctv)) I hP
      (fun b o hb e => Heap.get?_push_of_some _ (hx b o hb e)) (Heap.get?_push_of_some _ htb) hge ⟨oc, vs, t, Heap.get?_push_of_some _ hoc, hd, hv⟩
    have eL : (ps ++ #[rawInt pos.line, rawInt pos.col, .ref c']).toList = ps.toList ++ [rawInt pos.line, rawInt pos.col, .ref c'] := by simp
    refine h h'.objs.size c' ((X.mg "__name__").getD .none) ctv _ _ I1 (.inr ⟨_, nC, ne_of_none hP nC, rfl, by rw [eL]; exact PySem.TriplesOk_snoc _ _ _ _ ht, fun p' cv hcv => ?_⟩) (Heap.get?_push_size _ rfl) ?_ (nofr _ hsz) upd_same
    · rw [eL] at hcv
      exact among_app _ ht hcv
    · have n1 : h'.objs.size ≠ c' := Nat.ne_of_gt hlt
      have n2 : h'.objs.size ≠ P := Nat.ne_of_gt (Nat.lt_of_lt_of_le (Heap.lt_size hP') hsz)
      rw [upd_ne n1, upd_ne n2]
      exact I.hok.fresh hsz
  | some cv =>
    obtain ⟨c', e, hco⟩ := ha pos cv hc
    subst e
    refine PySem.W.kla_makeFunctionHit (mg := X.mg) (c := c) (P := P) (ps := ps) (closure_ok hfree) I.ok.glob (I.mod.glob.keeps I.bk) hcode (TB.code.keeps I.bk) hP' ht hc bP fun ctv h' tk hx hsz => ?_
    have I1 : Inv X pins σ H { s with heap := h'.push (PySem.W.kla_obj "<lambda>" (X.env.qual ++ "<lambda>") params body scope (cloFrom X.env.cells scope.names []) ((X.mg "__name__").getD .none) c' ctv), toks := tk } := I.kept fun b o e => Heap.get?_push_of_some _ (hx b o e)
    exact h h'.objs.size c' ((X.mg "__name__").getD .none) ctv H _ I1 (.inl ⟨rfl, hco⟩) (Heap.get?_push_size _ rfl) (I.hok.fresh hsz) (nofr _ hsz) hco
end
end Mp

set_option linter.all false
set_option autoImplicit false
set_option maxRecDepth 100000
set_option maxHeartbeats 2000000
/-! Mp34: a def that asks what it was given, under a try. -/
namespace Mp
open PySem PySem.Spec PyProof.Rows L2 LamX

section
variable {X : Cx} {pins : List (Addr × Obj)} {σ : L2.St} {H : Hp} {s : Shared}
/-- the deed is asked within the def that got it -/
theorem pe_actM {N : List Str} {x : Str} {sg : Scope} {g f c' : Addr} {cdg pm ctv : Value} {params : Arguments} {body : Expr} {scope : Scope} {k i : Nat} {a : Str} {pn : List (Addr × Obj)} {xe : Value → Shared → Prop} {W : WX} {tb : XK → TE} {p1 p2 : Pos}
    (I : Inv X pins σ H s) (L : LamS X.env.scope scope) (hf : s.heap.get? f = some (PySem.W.kla_obj "<lambda>" (X.env.qual ++ "<lambda>") params body scope (cloFrom X.env.cells scope.names []) pm c' ctv)) (hfn : H f = none) (hfr : f ∉ frs X.stack)
    (hbind : bindArgs (PySem.W.kla_fn "<lambda>" (X.env.qual ++ "<lambda>") params body scope (cloFrom X.env.cells scope.names []) pm (.ref c') ctv) ⟨[], []⟩ = pure [])
    (tk : Takes ((cxOf (L2.CX X.prog X.w) X.prog X.w X.K X.mg X.base N x sg g cdg X.A X.stack s H noE).tr pn xe) W) (hr : Room (k + 1) (X.A.deeper (envOfC x sg s.heap.objs.size g cdg))) (hgd : X.A.guards = some [])
    (hbody : ∀ (A : Around) (outer : List PySem.Env) (s : Shared) (H : Hp) (E : XK), Room k (A.deeper (lamEnv X scope s.heap.objs.size f c')) → A.guards = some [] → PE (lamCx X A outer s H E scope f c') body (tb E))
    (hN : N[i]? = some a) (hv : Vis sg a) (hd : (a == ("__debug__" : Str)) = false) (hcd : (a == ("__classdict__" : Str)) = false) :
    PE ((cxOf (L2.CX X.prog X.w) X.prog X.w X.K X.mg X.base N x sg g cdg X.A X.stack s H noE).tr pn xe) (.Call (.Name a p1) [] [] p2)
      (fun σZ HZ Q => σZ[i]? = some (some (.ref f)) ∧ HZ c' = some (CodeO c' (X.env.qual ++ "<lambda>")) ∧ ∃ E : XK, (∀ cls d H', E cls d H' → W cls d σZ H') ∧ tb E σ HZ Q) := by
  refine ⟨fun pinsZ sZ σZ HZ Q IZ h => ?_⟩
  obtain ⟨hs, hc, E, hW, ht⟩ := h
  refine wpAny_Call_Name_kw (thn ((pe_var (pos := p1) (i := i) hN hv hd hcd).run pinsZ sZ σZ HZ (fun v H1 => v = .ref f ∧ H1 = HZ) IZ ⟨.ref f, hs, rfl, rfl⟩) fun u s1 ⟨v, H1, I1, r1, q1⟩ => ?_)
  obtain ⟨ev, eH⟩ := q1
  subst ev
  rw [eH] at I1
  obtain rfl : u = Value.ref f := r1
  have of1 := I1.base.keep f _ hf hfn hfr (fun z => nomatch (show f ∈ ([] : List Addr) from z))
  refine PySem.W.callWith_F0 ⟨_, _, _, _, of1⟩ ?_
  have un : Un (frs X.stack) [] H HZ s.heap s1.heap := I1.base
  obtain ⟨⟨oc, vs, t, hoc, hdc, hvc⟩, _, _⟩ := I1.hok c' _ hc
  have rc : codeAny (model X.prog X.w) (X.A.deeper (envOfC x sg s.heap.objs.size g cdg)) (.call (.ref f) ⟨[], []⟩) (L2.CR (L2.CX X.prog X.w) (envOfC x sg s.heap.objs.size g cdg :: X.stack) X.prog X.w HZ s1 Q E) s1 := by
    refine PySem.W.kla_callFunE hr.depth of1 rfl L.co L.gen rfl ⟨c', oc, vs, t, rfl, hoc, hdc, hvc⟩ ?_
    rw [hbind]
    refine wpAny_pure (wpAny_newFunctionEnv (fun y hy => (L.own y hy).2) (fun y hy => absurd hy (by simp)) (fun h₁ hns hsb => ⟨I1.nolimit.fresh _ hsb, ?_⟩) L.kind)
    show codeAny _ _ (.expr body (lamEnv X scope s1.heap.objs.size f c')) _ _
    have kp : ∀ b o, s1.heap.get? b = some o → h₁.get? b = some o := fun b o e => hsb.extBut b o (Nat.ne_of_lt (Heap.lt_size e)) (Heap.get?_push_of_some _ e)
    have J := lam_start2 (f := f) (c' := c') (A := X.A.deeper (envOfC x sg s.heap.objs.size g cdg)) (outer := envOfC x sg s.heap.objs.size g cdg :: X.stack) (E := E) (tk := s1.toks + ([] : List (Str × Value)).length) I L I1.env0 hr.hd un hns kp
    refine PySem.W.kla_codeExpr (wpAny_mono ((hbody _ _ s1 HZ E (hr.deeper _) hgd).run [] _ _ HZ Q J ht) (fun v s' hq => ?_) fun e s' hq => hq)
    obtain ⟨w', H', J', rv, q⟩ := hq
    exact ⟨w', H', J'.os, J'.bare, J'.base, J'.hok, rv, q⟩
  refine wpAny_call (codeAny_mono rc fun r s' hq => ?_)
  cases r with
  | error e => exact tk _ _ (XE.of_call I1 hW hq)
  | ok fl =>
    cases fl with
    | ret u => exact I1.after hq
    | next => exact False.elim hq
    | brk => exact False.elim hq
    | cont => exact False.elim hq
/-- what is told: of a deed's reading tl; u the class that is caught; spw the def that tells the word -/
def tToldR (K : PySem.W.Frag) (q : Str) (P : Addr) (u : Value) (spw : List V → Hp → VK → XK → Prop) (tl : XK → TE) : TE := fun σ H Q => ∃ ps, H P = some (.tbl ps) ∧ TriplesOk ps.toList ∧ (∀ (pos : Pos) (cv : Value), codeAmong pos ps.toList = some cv → ∃ c, cv = .ref c ∧ H c = some (CodeO c q)) ∧
  ∀ c' H1, NewT P ps q c' H H1 → tl (fun cls d H' => ∃ C, cls = .ref C ∧ d = none ∧ PySem.W.exmOne K cls u = some true ∧ ∀ a, H' a = none → spw [.ref a] (upd H' a (XcO C a)) Q noE) σ H1 Q
theorem pe_told {x a fnd cgt en xe wn q : Str} {g w c P CS : Addr} {st : Stmt} {fd fdw : FuncData} {psw : List Str} {k : Nat} {spw : List V → Hp → VK → XK → Prop} {tl : XK → TE} {params : Arguments} {body : Expr} {scope : Scope} {p lpos pos : Pos}
    {p1 p2 p3 p4 p5 p6 p7 p8 p9 p10 p11 r1 r2 r3 r4 r5 r6 r7 q1 q2 q4 q5 q6 q7 q8 : Pos} {j1 j2 j3 : Nat}
    (hg : Gl X x) (hm : X.mg x = some (.ref g)) (Fn : Fun X.K x x st g fd) (S : FnScope [a, fnd, cgt, en] [a] (defScope st)) (hb : Binds X.K fd [a] []) (hdb : (x == ("__debug__" : Str)) = false)
    (hl : (∀ y ∈ [a, fnd, cgt, en], (defScope st).names.lookup y = some .local ∧ (y == ("__debug__" : Str)) = false ∧ (y == ("__classdict__" : Str)) = false))
    (hx : (defScope st).names.lookup xe = some .globalImplicit ∧ (xe == ("__debug__" : Str)) = false ∧ X.mg xe = some (.ref CS))
    (hw : (defScope st).names.lookup wn = some .globalImplicit ∧ (wn == ("__debug__" : Str)) = false ∧ X.mg wn = some (.ref w)) (hkw : PySem.W.keepIn X.K (.ref w) = true) (hbw : Binds X.K fdw psw []) (Fw : MFn X.prog X.w X.K X.mg X.base k w fdw psw spw)
    (hbd : defBody st = [.Assign [.Name fnd p1] (.Constant .none j1 q1) r1, .Assign [.Name cgt p2] (.Constant .none j2 q2) r2, .Try [.Assign [.Name fnd p3] (.Call (.Name a p4) [] [] q4) r3] [.ExceptHandler (some (.Name xe p5)) (some en) [.Assign [.Name cgt p6] (.Name en p7) r4] r5] [] [] r6,
      .Return (some (.IfExp (.Compare (.Name cgt p8) [.Is] [.Constant .none j3 q5] q6) (.Name fnd p9) (.Call (.Name wn p10) [.Name cgt p11] [] q7) q8)) r7])
    (TB : TabB X.base X.mg c P) (hcode : X.env.code = .ref c) (hq : X.env.qual ++ "<lambda>" = q) (hr : Room (k + 2) X.A) (hgd : X.A.guards = some []) (L : LamS X.env.scope scope) (hdef : defaultsOf params X.env = ([], []))
    (hbind : ∀ (q : Str) (cl : List (Str × Addr)) (pm cv ctv : Value), bindArgs (PySem.W.kla_fn "<lambda>" q params body scope cl pm cv ctv) ⟨[], []⟩ = pure [])
    (hbody : ∀ (A : Around) (outer : List PySem.Env) (s : Shared) (H : Hp) (E : XK) (f c' : Addr), Room k (A.deeper (lamEnv X scope s.heap.objs.size f c')) → A.guards = some [] → PE (lamCx X A outer s H E scope f c') body (tl E)) :
    PE X (.Call (.Name x p) [.Lambda params body scope lpos] [] pos) (tToldR X.K q P (.ref CS) spw tl) := by
  subst hq
  refine ⟨fun pins s σ H Q I h => ?_⟩
  obtain ⟨ps, hP, ht, hc, h⟩ := h
  refine wpAny_Call_Name_kw (ld_glob I hg hm ?_ hdb)
  refine PySem.W.callWith_K (h₀ := X.base) I.ok.mod.kin Fn.kp ?_ (by rfl) (by rfl)
  show wpAny _ _ (spliced ((false, eval (.Lambda params body scope lpos) X.env) :: backTo pos (starEach [] X.env))) _ _ s
  refine Calls.spliced_cons (lam_mk I TB hcode rfl hP ht hc hdef (L.has I.ok) fun f c' pm' ctv H1 s' I1 nt hf hfn hfr hco => ?_)
  refine Calls.spliced_nil ⟨I1.kIn, ?_⟩
  have rc : codeAny (model X.prog X.w) X.A (.call (.ref g) ⟨[.ref f], []⟩) (L2.CR (L2.CX X.prog X.w) X.stack X.prog X.w H1 s' Q noE) s' := by
    obtain ⟨oc, od, kV, doc, pm, an, cdv, ct, osl, rfl, lk, hcg⟩ := Fn.ex
    refine run_ofS (N := [a, fnd, cgt, en]) (ps := [a]) (us := [.ref f]) (vs := [.ref f]) lk hcg S hr I1.env0 (hb s' [.ref f] I1.kIn rfl) (.cons rfl .nil) rfl fun hr' => ?_
    obtain ⟨l0, d0, e0⟩ := hl a (by simp)
    obtain ⟨l1, d1, e1⟩ := hl fnd (by simp)
    obtain ⟨l2, d2, e2⟩ := hl cgt (by simp)
    obtain ⟨l3, d3, e3⟩ := hl en (by simp)
    obtain ⟨gx, dx, mx⟩ := hx
    obtain ⟨gw, dw, mw⟩ := hw
    have nd : [a, fnd, cgt, en].Nodup := S.nd
    rw [hbd]
    refine ⟨_, pss_cons (ps_set nd (i := 1) rfl (.inl l1) pe_non (by rfl) (.inl rfl)) (pss_cons (ps_set nd (i := 2) rfl (.inl l2) pe_non (by rfl) (.inl rfl)) (pss_cons
      (ps_try_keep (i := 3) (c := .ref CS) (Wout := fun _ _ _ _ => False) (ts := tAsg (tVar 3) (gName 2)) rfl rfl nd rfl l3 ⟨gx, dx, .inl mx⟩ LamX.takes0
        (fun W pn xe' tk' _ => pss_one (ps_set nd (i := 1) rfl (.inl l1) (pe_actM (k := k) (tb := tl) I1 L hf hfn hfr (hbind _ _ _ _ _) tk' hr' hgd (fun A outer s H E hr2 hg2 => hbody A outer s H E f c' hr2 hg2) (i := 0) rfl (.inl l0) d0 e0) (by rfl) (.inl rfl)))
        (fun a' pn => pss_one (ps_set nd (i := 2) rfl (.inl l2) (pe_var (i := 3) rfl (.inl l3) d3 e3) (by rfl) (.inl rfl))))
      (pss_one (ps_ret (pe_ifExp (pt_cmp (pc_isN (pe_var (i := 2) rfl (.inl l2) d2 e2)) (by rfl)) (pe_var (i := 1) rfl (.inl l1) d1 e1)
        (pe_callM (E := noE) Fw (hr'.mono (Nat.le_succ _)) hgd gw mw hkw hbw pass_no (pa_cons (pe_var (i := 2) rfl (.inl l2) d2 e2) pa_nil rfl) dw rfl rfl)))))), ?_⟩
    refine ⟨rfl, hco, fun cls d H' => ∃ C, cls = .ref C ∧ d = none ∧ PySem.W.exmOne X.K cls (.ref CS) = some true ∧ ∀ a, H' a = none → spw [.ref a] (upd H' a (XcO C a)) Q noE, fun cls d H' ⟨C, h1, h2, h3, h4⟩ => ⟨true, h3, fun _ => ⟨C, h1, h2, fun b nb => ?_⟩, fun z => nomatch z⟩, ?_⟩
    · exact ⟨.ref b, rfl, .ref b, rfl, false, rfl, ⟨.ref b, rfl, h4 b nb⟩⟩
    · refine cast ?_ (h c' H1 nt)
      congr 1
      funext v H'
      refine propext ⟨fun z => ⟨.non, rfl, true, rfl, ⟨v, rfl, z⟩⟩, fun z => ?_⟩
      obtain ⟨_, e, b, eb, z⟩ := z
      cases e
      cases eb
      obtain ⟨_, e, z⟩ := z
      cases e
      exact z
  refine wpAny_call (codeAny_mono rc fun r s2 hq => ?_)
  cases r with
  | error e =>
    obtain ⟨_, _, _, _, _, _, _, _, _, _, _, _, z⟩ := hq
    exact z.elim
  | ok fl =>
    cases fl with
    | ret u => exact I1.after hq
    | next => exact False.elim hq
    | brk => exact False.elim hq
    | cont => exact False.elim hq
end
end Mp

set_option linter.all false
set_option autoImplicit false
set_option maxRecDepth 100000
set_option maxHeartbeats 2000000
/-! Mp35: the reading of what a def is told of a lambda. -/
namespace Mp
open PySem PySem.Spec PyProof.Rows L2 LamX

theorem newT_step {K : PySem.W.Frag} {F : Addr → Prop} {θ : List Addr} {mem : Mem} {H H1 : Hp} {t : Nat} {P c' : Addr} {q : T} {ps : Array Value} (m : MS K F θ mem H) (ht : mem[t]? = some (.kon (.str q))) (hθ : θ[t]? = some P) (hP : H P = some (.tbl ps))
    (hc : ∀ (pos : Pos) (cv : Value), codeAmong pos ps.toList = some cv → ∃ c, cv = .ref c ∧ H c = some (CodeO c (tS q)) ∧ ¬ F c ∧ c ∉ θ) (nt : NewT P ps (tS q) c' H H1) : Tr θ H θ H1 ∧ MS K F θ mem H1 := by
  rcases nt with ⟨rfl, _⟩ | ⟨more, nC, nPc, rfl, tok, am⟩
  · exact ⟨.refl, m⟩
  · have hPθ : P ∈ θ := List.mem_of_getElem? hθ
    have kp : ∀ a o, H a = some o → a ≠ P → upd (upd H P (.tbl (ps ++ more))) c' (CodeO c' (tS q)) a = some o := fun a o e n => by
      rw [upd_ne (ne_of_none e nC), upd_ne n]; exact e
    have tr : Tr θ H θ (upd (upd H P (.tbl (ps ++ more))) c' (CodeO c' (tS q))) := ⟨fun a o e n => kp a o e fun z => n (z ▸ hPθ), fun _ _ e => e, fun _ h => .inl h⟩
    refine ⟨tr, m.len, fun j d e => ?_, m.nd, m.Fθ, fun a f => ?_⟩
    · obtain ⟨b, u, e1, e2, c⟩ := m.at_ j d e
      by_cases hj : j = t
      · subst hj
        rw [ht] at e; cases e
        rw [hθ] at e1; cases e1
        refine ⟨P, .tbl (ps ++ more), hθ, by rw [upd_ne nPc, upd_same], _, rfl, tok, fun pos cv h => ?_⟩
        rcases am pos cv h with h | h
        · obtain ⟨c, h1, h2, h3, h4⟩ := hc pos cv h
          exact ⟨c, h1, kp c _ h2 fun z => h4 (z ▸ hPθ), h3, h4⟩
        · exact ⟨c', h, upd_same, (m.fresh nC).2, (m.fresh nC).1⟩
      · have hb : b ≠ P := fun z => by
          subst z
          have l1 := (List.getElem?_eq_some_iff.mp e1).1
          exact hj ((List.getElem?_inj l1 m.nd (j := t)).mp (by rw [e1, hθ]))
        exact ⟨b, u, e1, kp b u e2 hb, c.mono tr.fk⟩
    · obtain ⟨o, e, n⟩ := m.Fd a f
      exact ⟨o, kp a o e fun z => m.Fθ a f (z ▸ hPθ), n⟩
theorem isTab_of {m : Mem} {t : Nat} {q : T} (h : isTab m t q = true) : m[t]? = some (.kon (.str q)) := by
  unfold isTab at h
  split at h
  · rename_i q' e
    rw [e, beq_iff_eq.mp h]
  · cases h
theorem tE.told {fr : Fr} {σ : L2.St} {H : Hp} {Φ : Fs} {Q : VK} {x : Str} {t s w f : Nat} {q : T} {es : Es} {P : Addr} {u : Value} (hT : fr.T[t]? = some P)
    (hx : ∀ d m r m', Φ (xTst + s) [d] m = .ok r m' → m' = m ∧ ∃ c b, d = .ins c [] ∧ r.2 = .bl b ∧ ExcC fr.K c ∧ PySem.W.kitOne fr.K (.ref c) u = some b) (hm : ∀ c b, PySem.W.kitOne fr.K (.ref c) u = some b → PySem.W.exmOne fr.K (.ref c) u = some b)
    (h : tE fr (evE Φ (.told x t q s w f es)) σ H Q) : tToldR fr.K (tS q) P u (MSp fr.K fr.T Φ w) (fun E => tCallM (MSp fr.K fr.T Φ f) E (tEs fr (evEs Φ es))) σ H Q := by
  obtain ⟨F, θ, env, mem, d, mem', sr, e, qq⟩ := h
  unfold evE at e
  split at e
  · rename_i htb
    have ht := isTab_of htb
    have hθ := sr.hT t P hT
    obtain ⟨a, o, e1, e2, ct⟩ := sr.ms.at_ t _ ht
    rw [hθ] at e1; cases e1
    obtain ⟨ps, rfl, tok, hc⟩ := ct
    refine ⟨ps, e2, tok, fun pos cv h => let ⟨c, h1, h2, _⟩ := hc pos cv h; ⟨c, h1, h2⟩, fun c' H1 nt => ?_⟩
    obtain ⟨tr, ms⟩ := newT_step sr.ms ht hθ e2 hc nt
    have sr1 := sr.step tr ms
    cases ee : evEs Φ es env mem with
    | ok xs m1 =>
      rw [ee] at e
      refine ⟨F, θ, env, mem, xs, m1, sr1, ee, fun θ1 vs H2 t1 ms1 r1 => ?_⟩
      simp only at e
      cases ef : Φ f xs m1 with
      | ok r m2 =>
        rw [ef] at e
        cases e
        exact call_sp (pre_T sr1 t1) t1 ms1 r1 ef fun θ' v H' t m rv => qq θ' v H' (tr.trans t) m rv
      | ex d0 m2 =>
        rw [ef] at e
        replace e : ((Φ (xTst + s) [d0] m2).bind fun b m1 => match b.2 with
          | .bl true => (Φ w [d0] m1).bind fun r m2 => Mp.R.ok r.2 m2
          | _ => .no) = .ok d mem' := e
        obtain ⟨b, m3, e3, e4⟩ := Mp.R.bind_ok e
        clear e
        obtain ⟨h1, c, bb, h2, hb, C, hk⟩ := hx _ _ _ _ e3
        subst h1 h2
        rw [hb] at e4
        cases bb with
        | false => cases e4
        | true =>
          simp only at e4
          obtain ⟨r, m4, e5, e6⟩ := Mp.R.bind_ok e4
          cases e6
          refine ⟨F, θ1, m1, xs, pre_T sr1 t1, ms1, r1, .inr ⟨c, _, ef, fun θ' H' t m => ⟨c, rfl, rfl, hm _ _ hk, fun a na => ?_⟩⟩⟩
          obtain ⟨f1, f2⟩ := m.fresh na
          have t2 : Tr θ H1 θ' (upd H' a (XcO c a)) := (t1.trans t).trans (Tr.laid na)
          have v1 : VRs fr.K F θ' (upd H' a (XcO c a)) [.ins c []] [.ref a] := ⟨.ref a, [], rfl, by simp only [VR]; exact ⟨a, rfl, upd_same, f2, f1⟩, rfl⟩
          exact call_sp (pre_T sr1 t2) t2 (m.laid na) v1 e5 fun θ'' v H'' t m rv => qq θ'' v H'' (tr.trans t) m rv
      | no => rw [ef] at e; cases e
    | ex _ _ => rw [ee] at e; cases e
    | no => rw [ee] at e; cases e
  · cases e
end Mp

set_option linter.all false
set_option autoImplicit false
set_option maxRecDepth 100000
set_option maxHeartbeats 1000000
/-! Mp36: a lambda of one parameter: its frame. -/
namespace Mp
open PySem PySem.Spec PyProof.Rows L2 LamX
/-- one parameter; captured names and globals -/
structure LamP (sc scope : Scope) (k : Str) : Prop where
  kind : scope.kind = .function
  co : scope.isCoroutine = false
  gen : scope.isGenerator = false
  one : scope.names.lookup k = some .local
  own : ∀ y ∈ scope.names, (y.2 = .local → y.1 = k) ∧ y.2 ≠ .cell
  free : ∀ y ∈ scope.names, y.2 = .free → sc.names.lookup y.1 = some .cell ∨ sc.names.lookup y.1 = some .free
theorem LamP.has {X : Cx} {scope : Scope} {k : Str} (L : LamP X.env.scope scope k) (ok : X.Ok) : ∀ y ∈ scope.names, y.2 = .free → ∃ c, X.env.cells.lookup y.1 = some c := fun y hy e => by
  rcases L.free y hy e with k | k
  · exact ok.has _ (.inl k)
  · exact ok.has _ (.inr k)
section
variable {X : Cx} {pins : List (Addr × Obj)} {σ : L2.St} {H HZ : Hp} {s s1 : Shared}
theorem lam_start3 {A : Around} {outer : List PySem.Env} {E : XK} {scope : Scope} {f c' : Addr} {h₁ : Heap} {tk i : Nat} {k : Str} {v : V} {u : Value} (I : Inv X pins σ H s) (nd : X.N.Nodup) (hi : X.N[i]? = some k) (ru : RelV v u) (L : LamP X.env.scope scope k) (e0 : Env0 X.prog X.w X.K X.mg X.base A outer s1 HZ) (hd : A.handled = none)
    (un : Un (frs X.stack) [] H HZ s.heap s1.heap) (hns : h₁.Ns s1.heap.objs.size fun y => ([(k, u)] : List (Str × Value)).reverse.lookup y) (kp : ∀ b o, s1.heap.get? b = some o → h₁.get? b = some o) :
    Inv (lamCx X A outer s1 HZ E scope f c') [] (σ.set i (some v)) HZ { s1 with heap := h₁, toks := tk } := by
  have hfree := L.has I.ok
  have cm : ∀ {y c}, (cloFrom X.env.cells scope.names []).lookup y = some c → X.env.cells.lookup y = some c := fun {y c} e => by
    rcases cloFrom_mem (PySem.mem_of_lookup e) with hm | ⟨h1, h2⟩
    · cases hm
    · obtain ⟨c1, hc⟩ := hfree _ h1 rfl
      have hc : X.env.cells.lookup y = some c1 := hc
      have e2 : c = c1 := by
        rw [h2, hc] <;> rfl
      rw [e2]
      exact hc
  have look : ∀ {y}, scope.names.lookup y = some .free → ∃ c, (cloFrom X.env.cells scope.names []).lookup y = some c := fun {y} hl => by
    have hy : (y, NameKind.free) ∈ scope.names := PySem.mem_of_lookup hl
    exact mem_lookup (cloFrom_has (cells := X.env.cells) (acc := []) hy)
  have cellK : ∀ {c : Addr} {v : Option Value}, H c = none → s.heap.IsCell c v → h₁.IsCell c v := fun {c v} n ⟨o, ho, hd⟩ => by
    obtain ⟨sl, q⟩ := un.any ho n (by simp)
    exact ⟨_, kp _ _ q, hd⟩
  have noA : ∀ b : Addr, b ∉ (lamCx X A outer s1 HZ E scope f c').ex := fun b z => absurd (show b ∈ ([] : List Addr) from z) (by simp)
  refine ⟨⟨e0.mod, L.kind, rfl, rfl, Nat.le_refl _, fun y z c e1 e2 => I.ok.inj y z c (cm e1) (cm e2), fun y hy => ?_, fun y c z _ => ?_, fun _ => hd, Around.frames_deeper e0.frames, .inr ⟨rfl, rfl⟩, fun b z => absurd z (noA b), e0.bs, e0.bsz, fun b _ _ => noA b,
      fun b z => absurd z (noA b), e0.funs, e0.frf⟩,
    rfl, e0.bare, Un.kept kp, ⟨_, hns, fun j y w e1 e2 e3 => ?_⟩, fun y c e => ?_, e0.hok.fresh (Nat.le_refl _), fun y c e => ?_, fun q hq => absurd (show q ∈ ([] : List (Addr × Obj)) ++ [] from hq) (by simp), e0.hok.kept kp, by rw [List.length_set]; exact I.len⟩
  · have hy : scope.names.lookup y = some .cell ∨ scope.names.lookup y = some .free := hy
    rcases hy with hy | hy
    · exact absurd rfl (L.own _ (PySem.mem_of_lookup hy)).2
    · exact look hy
  · have z : false = true := z
    cases z
  · have e3 : Vis scope y := e3
    have e1 : X.N[j]? = some y := e1
    rcases e3 with kk | kk | kk
    · have yk : y = k := (L.own _ (PySem.mem_of_lookup kk)).1 rfl
      subst yk
      have ij : i = j := by
        obtain ⟨hi1, hi2⟩ := List.getElem?_eq_some_iff.mp hi
        obtain ⟨hj1, hj2⟩ := List.getElem?_eq_some_iff.mp e1
        exact (List.getElem_inj nd).mp (hi2.trans hj2.symm)
      subst ij
      rw [List.getElem?_set_self (by rw [I.len]; exact (List.getElem?_eq_some_iff.mp hi).1)] at e2
      cases e2
      exact ⟨u, ru, .inl ⟨kk, by simp⟩⟩
    · exact absurd rfl (L.own _ (PySem.mem_of_lookup kk)).2
    · have ne : i ≠ j := fun z => by
        subst z
        rw [hi] at e1
        cases e1
        rw [L.one] at kk
        cases kk
      rw [List.getElem?_set_ne ne] at e2
      obtain ⟨m, hn, hl⟩ := I.loc
      have hvis : Vis X.env.scope y := (L.free _ (PySem.mem_of_lookup kk) rfl).elim (fun k => .inr (.inl k)) (fun k => .inr (.inr k))
      obtain ⟨w', r, q⟩ := hl j y w e1 e2 hvis
      obtain ⟨c2, h2⟩ := look kk
      refine ⟨w', r, .inr ⟨.inr kk, c2, h2, ?_⟩⟩
      have c1 := cm h2
      rcases q with ⟨k', _⟩ | ⟨_, c3, e', z⟩
      · have k' : X.env.scope.names.lookup y = some .local := k'
        rcases L.free _ (PySem.mem_of_lookup kk) rfl with k2 | k2 <;> rw [show X.env.scope.names.lookup y = _ from k2] at k' <;> cases k'
      · rw [c1] at e'
        cases e'
        exact cellK (I.freeC y _ c1) z
  · obtain ⟨w', z⟩ := I.cell y c (cm e)
    exact ⟨w', cellK (I.freeC y c (cm e)) z⟩
  · obtain ⟨v, o, ho, hd⟩ := I.cell y c (cm e)
    exact un.free c o ho (I.freeC y c (cm e)) (by simp)
end
end Mp

set_option linter.all false
set_option autoImplicit false
set_option maxRecDepth 100000
set_option maxHeartbeats 1000000
/-! Mp37: the key (k * z % M, k), read raw. -/
namespace Mp
open PySem PySem.Spec PyProof.Rows L2 LamX
section
variable {prog : Program} {w : World} {A : Around} {E : Value → Shared → Prop} {s : Shared}
theorem key_body {env : PySem.Env} {k z : Str} {m : Str → Option Value} {j st M : Int} {t1 t2 : PySem.Tok} {c : Addr} {p1 p2 p3 p4 p5 p6 p7 : Pos} {j4 x1} (kind : env.scope.kind = .function)
    (hk : env.kindOf k = some .local) (hn : s.heap.Ns env.locals m) (hm : m k = some (.int j t1)) (hz : env.kindOf z = some .free) (hc : env.cells.lookup z = some c) (hcell : s.heap.IsCell c (some (.int st t2)))
    (d1 : (k == ("__debug__" : Str)) = false) (d2 : (z == ("__debug__" : Str)) = false) (d3 : (z == ("__classdict__" : Str)) = false) (hM : 0 < M) (hmul : CMul j st) :
    wpAny (model prog w) A (eval (.Tuple [.BinOp (.BinOp (.Name k p1) .Mult (.Name z p2) p3) .Mod (.Constant (.int M) j4 p4) p5, .Name k p6] x1 p7) env) (PySem.W.KeyPure (.tuple [.int (j * st % M), .int j]) s) E s := by
  refine wpAny_Tuple_spliced ?_
  rw [show starEach [Expr.BinOp (.BinOp (.Name k p1) .Mult (.Name z p2) p3) .Mod (.Constant (.int M) j4 p4) p5, .Name k p6] env = [(false, eval (.BinOp (.BinOp (.Name k p1) .Mult (.Name z p2) p3) .Mod (.Constant (.int M) j4 p4) p5) env), (false, eval (.Name k p6) env)] from rfl]
  refine Calls.spliced_cons (wpAny_BinOp (wpAny_BinOp (wpAny_Name (wpAny_loadName_local kind hk hn hm (wpAny_Name (wpAny_loadName_free kind hz hc hcell (mul_int ?_ hmul.ok) d3) d2)) d1)))
  refine wpAny_Constant_int (mod_int' (by omega) ?_)
  rw [Int.fmod_eq_emod_of_nonneg _ (by omega)]
  refine Calls.spliced_cons (wpAny_Name (wpAny_loadName_local kind hk hn hm ?_) d1)
  refine Calls.spliced_nil ⟨by show 2 ≤ sizeLine; rw [sizeLine_eq]; decide, ?_⟩
  refine ⟨_, _, rfl, fun b o e => Heap.get?_push_of_some _ e, ?_⟩
  exact .tuple (as := []) (Heap.get?_push_size _ rfl) rfl rfl (.cons (as := []) (bs := []) (.int _ _) (.cons (as := []) (bs := []) (.int _ _) .nil))
end
end Mp

set_option linter.all false
set_option autoImplicit false
set_option maxRecDepth 100000
set_option maxHeartbeats 1000000
/-! Mp38: one key asked: the lambda called. -/
namespace Mp
open PySem PySem.Spec PyProof.Rows L2 LamX
section
variable {prog : Program} {w : World} {A : Around} {s : Shared}
theorem key_turn {f c c' : Addr} {q k z : Str} {params : Arguments} {scope : Scope} {clos : List (Str × Addr)} {pm ctv : Value} {j st M : Int} {t1 t2 : PySem.Tok} {p1 p2 p3 p4 p5 p6 p7 : Pos} {j4 x1} (hroom : A.depth < recursionLimit)
    (hf : s.heap.get? f = some (PySem.W.kla_obj "<lambda>" q params (.Tuple [.BinOp (.BinOp (.Name k p1) .Mult (.Name z p2) p3) .Mod (.Constant (.int M) j4 p4) p5, .Name k p6] x1 p7) scope clos pm c' ctv)) (hrec : s.heap.CodeRec (.ref c') q) (nl : s.heap.NoLimit)
    (kind : scope.kind = .function) (co : scope.isCoroutine = false) (gen : scope.isGenerator = false) (own : ∀ y ∈ scope.names, y.2 ≠ .cell) (one : scope.names.lookup k = some .local) (free : scope.names.lookup z = some .free) (hc : clos.lookup z = some c) (hcell : s.heap.IsCell c (some (.int st t2)))
    (hbind : bindArgs (PySem.W.kla_fn "<lambda>" q params (.Tuple [.BinOp (.BinOp (.Name k p1) .Mult (.Name z p2) p3) .Mod (.Constant (.int M) j4 p4) p5, .Name k p6] x1 p7) scope clos pm (.ref c') ctv) ⟨[.int j t1], []⟩ = pure [(k, .int j t1)])
    (d1 : (k == ("__debug__" : Str)) = false) (d2 : (z == ("__debug__" : Str)) = false) (d3 : (z == ("__classdict__" : Str)) = false) (hM : 0 < M) (hmul : CMul j st) :
    wpAny (model prog w) A (PySem.call (.ref f) [.int j t1]) (PySem.W.KeyPure (.tuple [.int (j * st % M), .int j]) s) (fun _ _ => False) s := by
  have rc : codeAny (model prog w) A (.call (.ref f) ⟨[.int j t1], []⟩) (fun r s' => ∃ v, r = .ok (.ret v) ∧ PySem.W.KeyPure (.tuple [.int (j * st % M), .int j]) s v s') s := by
    refine PySem.W.kla_callFunE hroom hf rfl co gen rfl hrec ?_
    rw [hbind]
    refine wpAny_pure (wpAny_newFunctionEnv own (fun y hy => by rw [List.mem_singleton.mp hy]; exact one) (fun h₁ hns hsb => ⟨nl.fresh _ hsb, ?_⟩) kind)
    have kp : ∀ b o, s.heap.get? b = some o → h₁.get? b = some o := fun b o e => hsb.extBut b o (Nat.ne_of_lt (Heap.lt_size e)) (Heap.get?_push_of_some _ e)
    obtain ⟨oc, hoc, hdc⟩ := hcell
    refine PySem.W.kla_codeExpr (wpAny_mono (key_body (E := fun _ _ => False) (k := k) (z := z) (c := c) (t2 := t2) kind one hns (by simp; rfl) free hc ⟨oc, kp _ _ hoc, hdc⟩ d1 d2 d3 hM hmul) (fun v s' hq => ?_) fun e s' hq => hq.elim)
    obtain ⟨h', tk, rfl, k1, k2⟩ := hq
    exact ⟨v, rfl, h', tk, rfl, fun b o e => k1 b o (kp b o e), k2⟩
  refine wpAny_call (codeAny_mono rc fun r s' hq => ?_)
  obtain ⟨v, rfl, hq⟩ := hq
  exact hq
end
end Mp

set_option linter.all false
set_option autoImplicit false
set_option maxRecDepth 100000
set_option maxHeartbeats 1000000
/-! Mp39: sorted(ints, key=the lambda). -/
namespace Mp
open PySem PySem.Spec PyProof.Rows L2 LamX
section
variable {prog : Program} {w : World} {A : Around} {E Q : Value → Shared → Prop} {s : Shared}
abbrev IsI (v : Value) (j : Int) : Prop := ∃ t, v = .int j t
theorem sorted_lam {f c c' l : Addr} {q k z : Str} {params : Arguments} {scope : Scope} {clos : List (Str × Addr)} {pm ctv : Value} {st M : Int} {t2 : PySem.Tok} {p1 p2 p3 p4 p5 p6 p7 : Pos} {j4 x1} {vs : List Value} {js : List Int}
    (hl : s.heap.IsList l vs.toArray) (e : PySem.W.EachIs IsI vs js) (hL : js.length ≤ 100) (hu : A.units + 66 < cLine) (hroom : A.in1.in1.depth < recursionLimit)
    (hf : s.heap.get? f = some (PySem.W.kla_obj "<lambda>" q params (.Tuple [.BinOp (.BinOp (.Name k p1) .Mult (.Name z p2) p3) .Mod (.Constant (.int M) j4 p4) p5, .Name k p6] x1 p7) scope clos pm c' ctv)) (hrec : ∀ h : Heap, (∀ b o, s.heap.get? b = some o → h.get? b = some o) → h.CodeRec (.ref c') q ∧ h.NoLimit)
    (kind : scope.kind = .function) (co : scope.isCoroutine = false) (gen : scope.isGenerator = false) (own : ∀ y ∈ scope.names, y.2 ≠ .cell) (one : scope.names.lookup k = some .local) (free : scope.names.lookup z = some .free) (hc : clos.lookup z = some c) (hcell : s.heap.IsCell c (some (.int st t2)))
    (hbind : ∀ (j : Int) (t1 : PySem.Tok), bindArgs (PySem.W.kla_fn "<lambda>" q params (.Tuple [.BinOp (.BinOp (.Name k p1) .Mult (.Name z p2) p3) .Mod (.Constant (.int M) j4 p4) p5, .Name k p6] x1 p7) scope clos pm (.ref c') ctv) ⟨[.int j t1], []⟩ = pure [(k, .int j t1)])
    (d1 : (k == ("__debug__" : Str)) = false) (d2 : (z == ("__debug__" : Str)) = false) (d3 : (z == ("__classdict__" : Str)) = false) (hM : 0 < M) (hmul : ∀ j ∈ js, CMul j st)
    (h : ∀ out c h' tk, (∀ b o, s.heap.get? b = some o → h'.get? b = some o) → s.heap.get? (s.heap.objs.size + 1) = none → h'.get? (s.heap.objs.size + 1) = some (seqObj "list" (List.toArray out) c) → out.length = js.length →
      PySem.W.EachIs IsI out (js.mergeSort fun a b => decide (a * st % M < b * st % M ∨ (a * st % M = b * st % M ∧ a ≤ b))) → Q (.ref (s.heap.objs.size + 1)) { s with heap := h', toks := tk }) :
    wpAny (model prog w) A (PySem.call (.builtin "sorted") [.ref l] [(Str.ofString "key", .ref f)]) Q E s := by
  refine PySem.W.sorted_key_data (b := false) (fun j : Int => .tuple [.int (j * st % M), .int j]) hl e (PySem.W.AllAlike.of fun _ _ => by simp [PySem.W.alike, PySem.W.alikeAll]) (PySem.W.Sortable.tuples fun _ => ⟨_, _, rfl⟩) (by rw [sizeLine_eq]; omega) (fun j _ => ?_) (ksk_s1 _ _) (fun _ => ksk_l1 _ _) (fun _ => ksk_t1 _ _)
    (fun v j ⟨t1, hv⟩ hj h tk kp => ?_) fun out c h' tk kp fr hD hlen eo => ?_
  · have hd : (PyData.tuple [.int (j * st % M), .int j]).depth = 1 := by simp [PyData.depth, PyData.depthAll]
    omega
  · subst hv
    obtain ⟨oc, hoc, hdc⟩ := hcell
    exact key_turn (s := { s with heap := h, toks := tk }) hroom (kp _ _ hf) (hrec h kp).1 (hrec h kp).2 kind co gen own one free hc ⟨oc, kp _ _ hoc, hdc⟩ (hbind j t1) d1 d2 d3 hM (hmul j hj)
  · rw [PySem.W.dataLe_ii (β := Int) (fun j => j * st % M) (fun j => j)] at eo
    exact h out c h' tk kp fr hD hlen eo
end
end Mp

set_option linter.all false
set_option autoImplicit false
set_option maxRecDepth 100000
set_option maxHeartbeats 1000000
/-! Mp40: sorted(e, key=lambda k: (k * z % M, k)) as an expression. -/
namespace Mp
open PySem PySem.Spec PyProof.Rows L2 LamX
section
variable {X : Cx}
def tSrtK (K : PySem.W.Frag) (q : Str) (P : Addr) (i : Nat) (M : Int) (te : TE) : TE := fun σ H Q => te σ H fun x H1 => ∃ a js st ps, x = .ref a ∧ js.length ≤ 100 ∧ σ[i]? = some (some (.int st)) ∧ (∀ j ∈ js, CMul j st) ∧
  H1 P = some (.tbl ps) ∧ TriplesOk ps.toList ∧ (∀ (pos : Pos) (cv : Value), codeAmong pos ps.toList = some cv → ∃ c, cv = .ref c ∧ H1 c = some (CodeO c q)) ∧
  ∀ c' H2, NewT P ps q c' H1 H2 → SqL K H2 a (js.map V.int) ∧ ∀ p, H2 p = none → Q (.ref p) (upd H2 p (.lst ((ordK st M js).map V.int)))
theorem vals_isI : ∀ {js : List Int} {us : List Value}, Vals (js.map V.int) us → PySem.W.EachIs IsI us js
  | [], _, .nil => .nil
  | _ :: _, _, .cons h r => .cons h (vals_isI r)
theorem isI_vals : ∀ {js : List Int} {us : List Value}, PySem.W.EachIs IsI us js → Vals (js.map V.int) us
  | [], _, .nil => .nil
  | _ :: _, _, .cons h r => .cons h (isI_vals r)
theorem pe_srtK {e : Expr} {te : TE} {q z k : Str} {c P : Addr} {params : Arguments} {scope : Scope} {M : Int} {i : Nat} {p lpos kpos pos p1 p2 p3 p4 p5 p6 p7 : Pos} {j4 x1 : Nat}
    (hg : Gl X "sorted") (hm : X.mg "sorted" = none) (ha : PE X e te) (hst : starEach [e] X.env = (false, eval e X.env) :: starEach [] X.env)
    (TB : TabB X.base X.mg c P) (hcode : X.env.code = .ref c) (hq : X.env.qual ++ "<lambda>" = q) (L : LamP X.env.scope scope k) (hdef : defaultsOf params X.env = ([], [])) (hi : X.N[i]? = some z) (free : scope.names.lookup z = some .free)
    (hbind : ∀ (clos : List (Str × Addr)) (pm cv ctv : Value) (j : Int) (t1 : PySem.Tok), bindArgs (PySem.W.kla_fn "<lambda>" q params (.Tuple [.BinOp (.BinOp (.Name k p1) .Mult (.Name z p2) p3) .Mod (.Constant (.int M) j4 p4) p5, .Name k p6] x1 p7) scope clos pm cv ctv) ⟨[.int j t1], []⟩ = pure [(k, .int j t1)])
    (d1 : (k == ("__debug__" : Str)) = false) (d2 : (z == ("__debug__" : Str)) = false) (d3 : (z == ("__classdict__" : Str)) = false) (hM : 0 < M) (hroom : X.A.in1.in1.depth < recursionLimit) (hu : X.A.units + 66 < cLine) :
    PE X (.Call (.Name "sorted" p) [e] [⟨some "key", .Lambda params (.Tuple [.BinOp (.BinOp (.Name k p1) .Mult (.Name z p2) p3) .Mod (.Constant (.int M) j4 p4) p5, .Name k p6] x1 p7) scope lpos, kpos⟩] pos) (tSrtK X.K q P i M te) := by
  subst hq
  refine ⟨fun pins s σ H Q I h => ?_⟩
  refine wpAny_Call_Name_kw (ld_blt I hg hm (by boot_by_name) ?_ (by decide) (by decide))
  refine PyProof.Rows.callWith_kw (thn ((pa_cons ha pa_nil hst).run pos pins s σ H (fun xs H1 => match xs with | [x] => (∃ a js st ps, x = .ref a ∧ js.length ≤ 100 ∧ σ[i]? = some (some (.int st)) ∧ (∀ j ∈ js, CMul j st) ∧
  H1 P = some (.tbl ps) ∧ TriplesOk ps.toList ∧ (∀ (pos : Pos) (cv : Value), codeAmong pos ps.toList = some cv → ∃ c, cv = .ref c ∧ H1 c = some (CodeO c (X.env.qual ++ "<lambda>"))) ∧
  ∀ c' H2, NewT P ps (X.env.qual ++ "<lambda>") c' H1 H2 → SqL X.K H2 a (js.map V.int) ∧ ∀ p, H2 p = none → Q (.ref p) (upd H2 p (.lst ((ordK st M js).map V.int)))) | _ => False) I h) fun us s1 ⟨vs, H1, I1, r1, q1⟩ => ?_) (by rw [hst]; rfl) (by rw [hst]; rfl) (by rfl) (by rfl)
  obtain ⟨x, rfl⟩ : ∃ x, vs = [x] := by
    match vs, q1 with
    | [x], _ => exact ⟨x, rfl⟩
  obtain ⟨a, js, st, ps, rfl, hL, hz, hmul, hP, ht, hc, h⟩ := q1
  show wpAny _ _ (evalAll ((do let v ← eval _ X.env; standAt pos; pure v) :: [])) _ _ s1
  refine wpAny_evalAll_cons (wpAny_bind (lam_mk I1 TB hcode rfl hP ht hc hdef (L.has I1.ok) fun f c' pm' ctv H2 s2 I2 nt hf hfn hfr hco => wpAny_bind (wpAny_standAt (wpAny_pure (wpAny_evalAll_nil ?_)))))
  obtain ⟨hs2, hQ⟩ := h c' H2 nt
  rw [Vals.ref1 r1]
  obtain ⟨its, rv, hl, _⟩ := I2.list hs2
  obtain ⟨m, hn, hloc⟩ := I2.loc
  have hcf := L.free _ (PySem.mem_of_lookup free) rfl
  obtain ⟨u, ru, lk⟩ := hloc i z (.int st) hi hz (hcf.elim (fun k => .inr (.inl k)) fun k => .inr (.inr k))
  obtain ⟨t2, rfl⟩ := ru
  obtain ⟨cz, hcz, hcell⟩ : ∃ cz, X.env.cells.lookup z = some cz ∧ s2.heap.IsCell cz (some (.int st t2)) := by
    rcases lk with ⟨k', _⟩ | ⟨_, cz, e1, e2⟩
    · have k' : X.env.scope.names.lookup z = some .local := k'
      rcases hcf with k2 | k2 <;> rw [show X.env.scope.names.lookup z = _ from k2] at k' <;> cases k'
    · exact ⟨cz, e1, e2⟩
  have hclo : (cloFrom X.env.cells scope.names []).lookup z = some cz := by
    obtain ⟨c2, h2⟩ := mem_lookup (cloFrom_has (cells := X.env.cells) (acc := []) (PySem.mem_of_lookup free))
    rcases cloFrom_mem (PySem.mem_of_lookup h2) with hm' | ⟨h1, h3⟩
    · cases hm'
    · have e2 : c2 = cz := by rw [h3, hcz] <;> rfl
      rw [h2, e2]
  obtain ⟨⟨oc, vs, t, hoc, hdc, hvc⟩, _, _⟩ := I2.hok c' _ hco
  refine sorted_lam hl.isList (vals_isI rv) hL hu hroom hf (fun h kp => ⟨⟨c', oc, vs, t, rfl, kp _ _ hoc, hdc, hvc⟩, I2.ok.mod.nolimit.keeps fun b o e => kp b o (I2.bk b o e)⟩) L.kind L.co L.gen (fun y hy => (L.own y hy).2) L.one free hclo hcell (fun j t1 => hbind _ _ _ _ j t1) d1 d2 d3 hM hmul fun out cc h' tk kp fr hD hlen eo => ?_
  have vo := isI_vals eo
  have hlen' : ((ordK st M js).map V.int).length ≤ sizeLine := by
    rw [List.length_map, show (ordK st M js).length = js.length from List.length_mergeSort _, sizeLine_eq]
    omega
  exact ⟨.ref _, upd H2 (s2.heap.objs.size + 1) (.lst ((ordK st M js).map V.int)), I2.laid (t' := tk) kp (Nat.le_succ _) ⟨hlen', out, cc, vo, hD⟩, rfl, hQ _ (I2.hok.fresh (Nat.le_succ _))⟩
end
end Mp

set_option linter.all false
set_option autoImplicit false
set_option maxRecDepth 100000
set_option maxHeartbeats 1000000
/-! Mp41: the reading of sorted(.., key=lambda ..). -/
namespace Mp
open PySem PySem.Spec PyProof.Rows L2 LamX
def lamPB (sc scope : Scope) (k : Str) : Bool :=
  decide (scope.kind = .function) && !scope.isCoroutine && !scope.isGenerator && decide (scope.names.lookup k = some .local) && scope.names.all fun y => (!decide (y.2 = .local) || decide (y.1 = k)) && !decide (y.2 = .cell) && (!decide (y.2 = .free) || decide (sc.names.lookup y.1 = some .cell) || decide (sc.names.lookup y.1 = some .free))
theorem lamP_by {sc scope : Scope} {k : Str} (h : lamPB sc scope k = true) : LamP sc scope k := by
  unfold lamPB at h
  simp only [Bool.and_eq_true, Bool.or_eq_true, Bool.not_eq_true', decide_eq_true_eq, decide_eq_false_iff_not, List.all_eq_true] at h
  obtain ⟨⟨⟨⟨h1, h2⟩, h3⟩, h5⟩, h4⟩ := h
  refine ⟨h1, h2, h3, h5, fun y hy => ⟨fun e => ?_, (h4 y hy).1.2⟩, fun y hy e => ?_⟩
  · rcases (h4 y hy).1.1 with z | z
    · exact absurd e z
    · exact z
  · rcases (h4 y hy).2 with (z | z) | z
    · exact absurd e z
    · exact .inl z
    · exact .inr z
theorem vrs_ints {K : PySem.W.Frag} {F : Addr → Prop} {θ : List Addr} {H : Hp} : ∀ js : List Int, VRs K F θ H (js.map D.int) (js.map V.int)
  | [] => rfl
  | j :: js => ⟨_, _, rfl, rfl, vrs_ints js⟩
theorem tF.srtK {fr : Fr} {σ : L2.St} {H : Hp} {Φ : Fs} {Q : VK} {e : E} {i t : Nat} {M : Int} {q : T} {P : Addr} (hT : fr.T[t]? = some P) (h : tF fr (evF Φ (.srtK e i M t q)) σ H Q) : tSrtK fr.K (tS q) P i M (tE fr (evE Φ e)) σ H Q := by
  obtain ⟨F, θ, env, mem, d, mem', sr, e0, qq⟩ := h
  obtain ⟨x, m1, e1, e2⟩ := Mp.R.bind_ok e0
  refine ⟨F, θ, env, mem, x, m1, sr, e1, fun θ1 v H1 t1 ms1 r1 => ?_⟩
  have sr1 := sr.step t1 ms1
  split at e2
  · rename_i xs st hst
    split at e2
    · rename_i js hjs
      split at e2
      · rename_i hc
        obtain ⟨htab, hlen, hsm⟩ := hc
        cases e2
        have ht := isTab_of htab
        have hθ := sr1.hT t P hT
        obtain ⟨a0, o0, f1, f2, ct⟩ := ms1.at_ t _ ht
        rw [hθ] at f1; cases f1
        obtain ⟨ps, rfl, tok, hcs⟩ := ct
        obtain ⟨w, w1, w2⟩ := sr1.sl.val i _ hst
        simp only [VR] at w2
        subst w2
        simp only [VR] at r1
        obtain ⟨a, vs, rfl, ha, nF, nθ, rv⟩ := r1
        have hv := ints_val hjs rv
        subst hv
        refine ⟨a, js, st, ps, rfl, hlen, w1, fun j hj => .inl (hsm j hj), f2, tok, fun pos cv hh => let ⟨c, h1, h2, _⟩ := hcs pos cv hh; ⟨c, h1, h2⟩, fun c' H2 nt => ?_⟩
        obtain ⟨tr, ms⟩ := newT_step ms1 ht hθ f2 hcs nt
        refine ⟨SqL.of (tr.keep a _ ha nθ), fun p hp => ?_⟩
        exact qq θ1 p _ _ ((t1.trans tr).trans (.laid hp)) (sr.ms.was ms (t1.trans tr) hp) upd_same (ms.laidOwn hp (fun _ z => nomatch z)) ⟨_, rfl, vrs_ints _⟩
      · cases e2
    · cases e2
  · cases e2
end Mp

set_option linter.all false
set_option autoImplicit false
set_option maxRecDepth 100000
set_option maxHeartbeats 1000000
/-! Mp42: instances of own classes: made, their fields, their methods; a shared list's last item. -/
namespace Mp
open PySem PySem.Spec PyProof.Rows L2

/-- an own class: its name, its fields, its methods (names, defs' numbers), its __init__ -/
structure Cl where
  name : Str
  flds : List T
  ms : List (T × Nat)
  ini : Nat
section
variable {K : PySem.W.Frag} {F : Addr → Prop} {θ : List Addr} {H : Hp} {mem : Mem}
theorem MS.objUpd (m : MS K F θ mem H) {h : Nat} {d' : D} {a : Addr} {o' : HO} (ha : θ[h]? = some a) (c : CT K F θ (upd H a o') d' o') : MS K F θ (mem.set h d') (upd H a o') ∧ Tr θ H θ (upd H a o') := by
  have am : a ∈ θ := List.mem_of_getElem? ha
  have t : Tr θ H θ (upd H a o') := ⟨fun b o e z => by rw [upd_ne (fun q => z (by rw [q]; exact am))]; exact e, fun _ _ e => e, fun _ z => .inl z⟩
  refine ⟨⟨by rw [List.length_set]; exact m.len, fun j d e => ?_, m.nd, m.Fθ, m.fd_step t⟩, t⟩
  by_cases hj : h = j
  · subst hj
    have hl : h < mem.length := by rw [m.len]; exact (List.getElem?_eq_some_iff.mp ha).1
    rw [List.getElem?_set_self hl] at e
    cases e
    exact ⟨a, o', ha, upd_same, c⟩
  · rw [List.getElem?_set_ne hj] at e
    obtain ⟨b, u, h1, h2, h3⟩ := m.at_ j d e
    refine ⟨b, u, h1, ?_, h3.mono t.fk⟩
    rw [upd_ne fun q => hj ?_]
    · exact h2
    · subst q
      have l1 := (List.getElem?_eq_some_iff.mp ha).1
      exact (List.getElem?_inj l1 m.nd (j := j)).mp (by rw [ha, h1])
theorem FR.get : ∀ {fs : List (T × D)} {ws : List (Str × V)} {x : T} {d : D}, FR K F θ H fs ws → fs.lookup x = some d → ∃ v, ws.lookup (tS x) = some v ∧ VR K F θ H d v
  | [], _, _, _, _, e => by cases e
  | (y, e) :: r, ws, x, d, h, hl => by
    obtain ⟨v, q, rfl, h1, h2⟩ := h
    rw [List.lookup_cons] at hl ⊢
    by_cases hx : x = y
    · subst hx
      rw [beq_self_eq_true] at hl ⊢
      cases hl
      exact ⟨v, rfl, h1⟩
    · have b1 : (x == y) = false := beq_eq_false_iff_ne.mpr hx
      have b2 : (tS x == tS y) = false := beq_eq_false_iff_ne.mpr fun z => hx (tS_inj z)
      rw [b1] at hl
      rw [b2]
      exact FR.get h2 hl
theorem FR.none : ∀ {fs : List (T × D)} {ws : List (Str × V)} {x : T}, FR K F θ H fs ws → fs.lookup x = none → ws.lookup (tS x) = none
  | [], ws, _, h, _ => by cases (show ws = [] from h); rfl
  | (y, e) :: r, ws, x, h, hl => by
    obtain ⟨v, q, rfl, h1, h2⟩ := h
    rw [List.lookup_cons] at hl ⊢
    by_cases hx : x = y
    · subst hx
      rw [beq_self_eq_true] at hl
      cases hl
    · have b1 : (x == y) = false := beq_eq_false_iff_ne.mpr hx
      have b2 : (tS x == tS y) = false := beq_eq_false_iff_ne.mpr fun z => hx (tS_inj z)
      rw [b1] at hl
      rw [b2]
      exact FR.none h2 hl
theorem FR.len : ∀ {fs : List (T × D)} {ws : List (Str × V)}, FR K F θ H fs ws → fs.length = ws.length
  | [], ws, h => by cases (show ws = [] from h); rfl
  | (y, e) :: r, ws, h => by
    obtain ⟨v, q, rfl, h1, h2⟩ := h
    rw [List.length_cons, List.length_cons, FR.len h2]
theorem FR.put {x : T} {d : D} {v : V} (hd : VR K F θ H d v) : ∀ {fs : List (T × D)} {ws : List (Str × V)}, FR K F θ H fs ws → FR K F θ H (putFd x d fs) (putF (tS x) v ws)
  | [], ws, h => by
    cases (show ws = [] from h)
    exact ⟨v, [], rfl, hd, rfl⟩
  | (y, e) :: r, ws, h => by
    obtain ⟨w, q, rfl, h1, h2⟩ := h
    unfold putFd putF
    by_cases hx : y = x
    · subst hx
      rw [if_pos rfl, if_pos rfl]
      exact ⟨v, q, rfl, hd, h2⟩
    · rw [if_neg hx, if_neg fun z => hx (tS_inj z)]
      exact ⟨w, _, rfl, h1, FR.put hd h2⟩
/-- an instance of a shared object -/
theorem insO_some {Φ : Fs} {m : Mem} {js : List Nat} {a : D} {h C : Nat} {fs : List (T × D)} (e : insO Φ m js a = some (h, C, fs)) : a = .obj h ∧ m[h]? = some (.ins C fs) ∧ ∃ j ∈ js, isOwnC Φ m C j = true := by
  unfold insO at e
  split at e
  · split at e
    · rename_i hm
      split at e
      · rename_i hj
        cases e
        obtain ⟨j, h1, h2⟩ := List.any_eq_true.mp hj
        exact ⟨rfl, hm, j, h1, h2⟩
      · cases e
    · cases e
  · cases e
theorem whichC_some {Φ : Fs} {m : Mem} {C f : Nat} : ∀ {jf : List (Nat × Nat)}, whichC Φ m C jf = some f → ∃ j, (j, f) ∈ jf ∧ isOwnC Φ m C j = true
  | [], e => by cases e
  | (j, g) :: r, e => by
    unfold whichC at e
    split at e
    · rename_i h
      cases e
      exact ⟨j, List.mem_cons_self, h⟩
    · obtain ⟨j', h1, h2⟩ := whichC_some e
      exact ⟨j', List.mem_cons_of_mem _ h1, h2⟩
/-- the evaluator tells the class at C for the number j -/
def TellC (Φ : Fs) (j : Nat) (C : Addr) : Prop := ∀ m r m', Φ (xOwn + j) [] m = .ok r m' → r.2 = .ins C [] ∧ m' = m
theorem isOwn_eq {Φ : Fs} {m : Mem} {C C' j : Nat} (t : TellC Φ j C') (h : isOwnC Φ m C j = true) : C = C' := by
  unfold isOwnC at h
  split at h
  · rename_i r m' e
    obtain ⟨h1, _⟩ := t _ _ _ e
    rw [h1] at h
    exact beq_iff_eq.mp h
  · cases h
theorem MS.ins (m : MS K F θ mem H) {h C : Nat} {fs : List (T × D)} (e : mem[h]? = some (.ins C fs)) {a : Addr} (ha : θ[h]? = some a) : ∃ dx ws, H a = some (.ins C dx ws) ∧ FR K F θ H fs ws := by
  obtain ⟨b, o, h1, h2, dx, ws, rfl, hr⟩ := m.at_ h _ e
  rw [ha] at h1
  cases h1
  exact ⟨dx, ws, h2, hr⟩
end
section
variable {fr : Fr} {σ : L2.St} {H : Hp} {Φ : Fs} {Q : VK}
theorem tE.att {o : E} {js : List Nat} {x : T} (hC : ∀ j ∈ js, ∃ C, TellC Φ j C ∧ Cls fr.K C ∧ NoAttr fr.K C (tS x)) (h : tE fr (evE Φ (.att o js x)) σ H Q) : tFld fr.K (tE fr (evE Φ o)) (tS x) σ H Q := by
  obtain ⟨F, θ, env, mem, d, mem', s, e, q⟩ := h
  obtain ⟨a, m1, e1, e⟩ := Mp.R.bind_ok e
  split at e
  · rename_i n C fs hi
    obtain ⟨e2, rfl⟩ := Mp.R.ofO_ok e
    obtain ⟨rfl, hm, j, hj, hw⟩ := insO_some hi
    obtain ⟨C', t, cl, na⟩ := hC j hj
    obtain rfl := isOwn_eq t hw
    refine ⟨F, θ, env, mem, _, _, s, e1, fun θ1 v H1 t1 ms1 r1 => ?_⟩
    simp only [VR] at r1
    obtain ⟨b, rfl, hb⟩ := r1
    obtain ⟨dx, ws, h2, fr2⟩ := ms1.ins hm hb
    obtain ⟨w, hw1, hw2⟩ := fr2.get e2
    exact ⟨b, C, dx, ws, w, rfl, h2, cl, na, hw1, q θ1 w H1 t1 ms1 hw2⟩
  · cases e
def tMethM (C : Addr) (m : Str) (sp : List V → Hp → VK → XK → Prop) (E : XK) (ta : TE) (t : TA) : TE := fun σ H Q => ta σ H fun x H1 => ∃ a dx fs, x = .ref a ∧ H1 a = some (.ins C dx fs) ∧ fs.lookup m = none ∧ t σ H1 fun vs H2 => sp (x :: vs) H2 Q E
def tMakeM (C : Addr) (sp : List V → Hp → VK → XK → Prop) (E : XK) (t : TA) : TE := fun σ H Q => t σ H fun vs H1 => ∀ x dx, H1 x = none → H1 dx = none → dx ≠ x →
  sp (.ref x :: vs) (upd (upd H1 dx (.own x)) x (.ins C dx [])) (fun v H2 => v = .non ∧ Q (.ref x) H2) E
theorem tE.mth {o : E} {x : T} {jf : List (Nat × Nat)} {es : Es} {E : XK} (hC : ∀ p ∈ jf, ∃ C, TellC Φ p.1 C) (h : tE fr (evE Φ (.mth o x jf es)) σ H Q) :
    ∃ p ∈ jf, ∀ C, TellC Φ p.1 C → tMethM C (tS x) (MSp fr.K fr.T Φ p.2) E (tE fr (evE Φ o)) (tEs fr (evEs Φ es)) σ H Q := by
  obtain ⟨F, θ, env, mem, d, mem', s, e, q⟩ := h
  obtain ⟨a, m1, e1, e⟩ := Mp.R.bind_ok e
  split at e
  · rename_i n C fs hi
    split at e
    · rename_i f hl hw
      obtain ⟨rfl, hm, _⟩ := insO_some hi
      obtain ⟨j, hj, ho⟩ := whichC_some hw
      obtain ⟨xs, m2, e2, e⟩ := Mp.R.bind_ok e
      obtain ⟨r, m3, e3, e⟩ := Mp.R.bind_ok e
      cases e
      refine ⟨(j, f), hj, fun C' t => ?_⟩
      obtain rfl := isOwn_eq t ho
      refine ⟨F, θ, env, mem, _, m1, s, e1, fun θ1 v H1 t1 ms1 r1 => ?_⟩
      have r1' := r1
      simp only [VR] at r1
      obtain ⟨b, rfl, hb⟩ := r1
      obtain ⟨dx, ws, h2, fr2⟩ := ms1.ins hm hb
      refine ⟨b, dx, ws, rfl, h2, fr2.none hl, F, θ1, env, m1, xs, m2, s.step t1 ms1, e2, fun θ2 vs H2 t2 ms2 r2 => ?_⟩
      have v2 : VRs fr.K F θ2 H2 (.obj n :: xs) (.ref b :: vs) := ⟨_, vs, rfl, VR.mono t2.fk _ _ r1', r2⟩
      exact call_sp (pre_T s (t1.trans t2)) (t1.trans t2) ms2 v2 e3 q
    · cases e
  · cases e
theorem tE.mk {y : Str} {j f : Nat} {es : Es} {C : Addr} {E : XK} (hC : TellC Φ j C) (h : tE fr (evE Φ (.mk y j f es)) σ H Q) : tMakeM C (MSp fr.K fr.T Φ f) E (tEs fr (evEs Φ es)) σ H Q := by
  obtain ⟨F, θ, env, mem, d, mem', s, e, q⟩ := h
  obtain ⟨xs, m1, e1, e⟩ := Mp.R.bind_ok e
  split at e
  · rename_i r m' hr
    obtain ⟨hr2, _⟩ := hC _ _ _ hr
    rw [hr2] at e
    simp only at e
    obtain ⟨z, m3, e3, e⟩ := Mp.R.bind_ok e
    refine ⟨F, θ, env, mem, xs, m1, s, e1, fun θ1 vs H1 t1 ms1 r1 x dx hx hdx hne => ?_⟩
    have hxd : x ≠ dx := fun z => hne z.symm
    -- the dict, then the instance
    have ms2 : MS fr.K F θ1 m1 (upd H1 dx (.own x)) := ms1.laid hdx
    have hx2 : (upd H1 dx (.own x)) x = none := by rw [upd_ne hxd]; exact hx
    have t2 : Tr θ1 H1 θ1 (upd H1 dx (.own x)) := .laid hdx
    have ms3 : MS fr.K F θ1 m1 (upd (upd H1 dx (.own x)) x (.ins C dx [])) := ms2.laid hx2
    have t3 : Tr θ1 H1 θ1 (upd (upd H1 dx (.own x)) x (.ins C dx [])) := t2.trans (.laid hx2)
    have hxθ : x ∉ θ1 ∧ ¬ F x := ms1.fresh hx
    have t4 : Tr θ1 H1 (θ1 ++ [x]) (upd (upd H1 dx (.own x)) x (.ins C dx [])) := Tr.push hx (by rw [upd_same]; simp) t3 ms1
    have ms4 : MS fr.K F (θ1 ++ [x]) (m1 ++ [.ins C []]) (upd (upd H1 dx (.own x)) x (.ins C dx [])) := by
      have pre : ∀ (h : Nat) (a : Addr), θ1[h]? = some a → (θ1 ++ [x])[h]? = some a := fun h a e => by
        rw [List.getElem?_append_left (List.getElem?_eq_some_iff.mp e).1]; exact e
      refine ⟨by rw [List.length_append, List.length_append, ms1.len]; rfl, fun h d' e' => ?_, ?_, fun a z q => ?_, fun a z => ms3.Fd a z⟩
      · by_cases hl : h < m1.length
        · rw [List.getElem?_append_left hl] at e'
          obtain ⟨a, u, p1, p2, p3⟩ := ms1.at_ h d' e'
          have ane : a ≠ x := fun z => hxθ.1 (z ▸ List.mem_of_getElem? p1)
          have and' : a ≠ dx := fun z => (ms1.fresh hdx).1 (z ▸ List.mem_of_getElem? p1)
          exact ⟨a, u, pre h a p1, by rw [upd_ne ane, upd_ne and']; exact p2, p3.mono t4.fk⟩
        · rw [List.getElem?_append_right (Nat.le_of_not_lt hl)] at e'
          have h0 : h - m1.length = 0 := by
            cases hh : h - m1.length with
            | zero => rfl
            | succ n => rw [hh] at e'; simp at e'
          rw [h0] at e'
          cases e'
          have : h = θ1.length := by rw [← ms1.len]; omega
          exact ⟨x, .ins C dx [], by rw [this, List.getElem?_append_right (Nat.le_refl _), Nat.sub_self]; rfl, upd_same, dx, [], rfl, rfl⟩
      · rw [List.nodup_append]
        exact ⟨ms1.nd, by simp, fun a ha b hb => by
          have : b = x := by simpa using hb
          subst this
          exact fun z => hxθ.1 (z ▸ ha)⟩
      · rcases List.mem_append.mp q with q | q
        · exact ms1.Fθ a z q
        · have : a = x := by simpa using q
          subst this; exact hxθ.2 z
    have vx : VR fr.K F (θ1 ++ [x]) (upd (upd H1 dx (.own x)) x (.ins C dx [])) (.obj m1.length) (.ref x) := by
      simp only [VR]
      exact ⟨x, rfl, by rw [ms1.len, List.getElem?_append_right (Nat.le_refl _), Nat.sub_self]; rfl⟩
    have v4 : VRs fr.K F (θ1 ++ [x]) (upd (upd H1 dx (.own x)) x (.ins C dx [])) (.obj m1.length :: xs) (.ref x :: vs) := ⟨_, vs, rfl, vx, VRs.mono t4.fk _ _ r1⟩
    cases hz : z.2 with
    | non =>
      rw [hz] at e
      cases e
      refine ⟨F, _, _, _, pre_T s (t1.trans t4), ms4, v4, .inl ⟨z, _, e3, fun _ θ5 v H5 t5 ms5 r5 => ?_, fun _ θ5 p o H5 t5 hp ho m c => ?_⟩⟩
      · rw [hz] at r5
        refine ⟨r5, q θ5 _ H5 ((t1.trans t4).trans t5) ms5 ?_⟩
        simp only [VR]
        exact ⟨x, rfl, t5.pre _ _ (by rw [ms1.len, List.getElem?_append_right (Nat.le_refl _), Nat.sub_self]; rfl)⟩
      · rw [hz] at c
        exact c.elim
    | _ => rw [hz] at e; cases e
  · cases e
theorem tE.opop {o : E} (h : tE fr (evE Φ (.opop o)) σ H Q) : tBM0 fr.K "list" rPop (tE fr (evE Φ o)) σ H Q := by
  obtain ⟨F, θ, env, mem, d, mem', s, e, q⟩ := h
  obtain ⟨a, m1, e1, e⟩ := Mp.R.bind_ok e
  split at e
  · rename_i n
    split at e
    · rename_i xs hx
      split at e
      · rename_i y hy
        cases e
        refine ⟨F, θ, env, mem, _, m1, s, e1, fun θ1 v H1 t1 ms1 r1 => ?_⟩
        simp only [VR] at r1
        obtain ⟨b, rfl, hb⟩ := r1
        obtain ⟨b', u, q1, q2, q3⟩ := ms1.at_ n _ hx
        rw [hb] at q1; cases q1
        obtain ⟨vs, rfl, hv⟩ := q3
        obtain ⟨w, hw, rw'⟩ := hv.get hy
        have am : b ∈ θ1 := List.mem_of_getElem? hb
        have fk : Fk F θ1 H1 F θ1 (upd H1 b (.lst vs.dropLast)) := ⟨fun c o e f z => ⟨by rw [upd_ne (fun q => z (by rw [q]; exact am))]; exact e, f, z⟩, fun _ _ e => e⟩
        have hdl : VRs fr.K F θ1 H1 xs.dropLast vs.dropLast := by
          rw [List.dropLast_eq_take, List.dropLast_eq_take, hv.length]
          exact hv.take _
        obtain ⟨ms2, t2⟩ := ms1.objUpd (d' := .lst xs.dropLast) (o' := .lst vs.dropLast) hb ⟨_, rfl, VRs.mono fk _ _ hdl⟩
        refine ⟨.inl ⟨rfl, vs, SqL.of q2⟩, b, vs, w, rfl, rfl, q2, by rw [← hv.length]; exact hw, q θ1 w _ (t1.trans t2) ms2 (VR.mono fk _ _ rw')⟩
      · cases e
    · cases e
  · cases e
end
section
variable {X : Cx} {k : Nat} {f C : Addr} {fd : FuncData} {ps : List Str} {sp : List V → Hp → VK → XK → Prop} {x m : Str} {p pos apos : Pos} {e o : Expr} {es : List Expr} {ta : TE} {t : TA} {E : XK}
theorem pe_methM {pl : Sem Bool} (he : PE X o ta) (c : Cls X.K C) (hm : Meth X.K C m f) (F : MFn X.prog X.w X.K X.mg X.base k f fd ps sp) (hr : Room k X.A) (hgd : X.A.guards = some []) (hb : Binds X.K fd ps []) (hx : Passes (L2.CX X.prog X.w) X E) (ha : PA X (e :: es) t)
    (hst : starEach (e :: es) X.env = (false, eval e X.env) :: starEach es X.env) (hpl : (backTo pos (starEach es X.env)).any (·.1) = false)
    (ht : eval (.Call (.Attribute o m apos) (e :: es) [] pos) X.env = (do
      let ov ← eval o X.env
      standAt apos.atName
      let (f, first) ← holding [ov] (getMethod ov m pl)
      callWith pos f first (backTo pos (starEach (e :: es) X.env)) (backToKw pos (keywordEach [] X.env)))) :
    PE X (.Call (.Attribute o m apos) (e :: es) [] pos) (tMethM C m sp E ta t) := by
  refine ⟨fun pins s σ H Q I h => ?_⟩
  refine PySem.W.methodCall_KW (pl := pl) (thn (he.run pins s σ H _ I h) fun u s1 ⟨x, H1, I1, rx, a, dx, fs, ex, ea, l, q⟩ => ?_) ht
  subst ex
  obtain rfl : u = Value.ref a := rx
  refine getmeth_ok I1 ea c hm l ?_
  refine PySem.W.callWith_K (first := [.ref a]) (h₀ := X.base) I.ok.mod.kin hm.kp (thn (ha.run pos pins s1 σ H1 _ I1 q) fun us s2 ⟨vs, H2, I2, r, q2⟩ => ⟨I2.kIn, ?_⟩) hst hpl
  exact runM (us := .ref a :: us) (vs := .ref a :: vs) F hr hgd hb hx I2 (.cons rfl r) q2
theorem pe_methM0 {pl : Sem Bool} (he : PE X o ta) (c : Cls X.K C) (hm : Meth X.K C m f) (F : MFn X.prog X.w X.K X.mg X.base k f fd ps sp) (hr : Room k X.A) (hgd : X.A.guards = some []) (hb : Binds X.K fd ps []) (hx : Passes (L2.CX X.prog X.w) X E)
    (ht : eval (.Call (.Attribute o m apos) [] [] pos) X.env = (do
      let ov ← eval o X.env
      standAt apos.atName
      let (f, first) ← holding [ov] (getMethod ov m pl)
      callWith pos f first (backTo pos (starEach [] X.env)) (backToKw pos (keywordEach [] X.env)))) :
    PE X (.Call (.Attribute o m apos) [] [] pos) (tMethM C m sp E ta tNil) := by
  refine ⟨fun pins s σ H Q I h => ?_⟩
  refine PySem.W.methodCall_KW (pl := pl) (thn (he.run pins s σ H _ I h) fun u s1 ⟨x, H1, I1, rx, a, dx, fs, ex, ea, l, q⟩ => ?_) ht
  subst ex
  obtain rfl : u = Value.ref a := rx
  refine getmeth_ok I1 ea c hm l ?_
  exact PySem.W.callWith_K0 (first := [.ref a]) I1.kIn hm.kp (runM (us := [.ref a]) (vs := [.ref a]) F hr hgd hb hx I1 (.cons rfl .nil) q)
theorem run_makeM {pins : List (Addr × Obj)} {σ : L2.St} {H : Hp} {s : Shared} {Q : VK} {us : List Value} {vs : List V} (M : Mk X.K C f) (F : MFn X.prog X.w X.K X.mg X.base k f fd ps sp) (hr : Room (k + 1) X.A) (hgd : X.A.guards = some []) (hb : Binds X.K fd ps [])
    (hx : Passes (L2.CX X.prog X.w) X E) (I : Inv X pins σ H s) (r : Vals vs us)
    (h : ∀ x dx, H x = none → H dx = none → dx ≠ x → sp (.ref x :: vs) (upd (upd H dx (.own x)) x (.ins C dx [])) (fun v H2 => v = .non ∧ Q (.ref x) H2) E) :
    wpAny (model X.prog X.w) X.A (PySem.call (.ref C) us) (EP X pins σ Q) X.xe s := by
  have hq := h (s.heap.objs.size + 1) s.heap.objs.size (I.hok.fresh (Nat.le_succ _)) (I.hok.fresh (Nat.le_refl _)) (Nat.ne_of_lt (Nat.lt_succ_self _))
  have I2 := Inv.made (C := C) I
  have r2 : Vals (V.ref (s.heap.objs.size + 1) :: vs) (Value.ref (s.heap.objs.size + 1) :: us) := .cons rfl r
  have hl : (Value.ref (s.heap.objs.size + 1) :: us).length = ps.length := by
    have e := r2.length
    rw [F.len _ _ _ _ hq] at e
    exact e.symm
  have hb' := hb _ (Value.ref (s.heap.objs.size + 1) :: us) I2.kIn (by simpa using hl)
  rw [List.append_nil] at hb'
  refine wpAny_call (make_map (f := f) I.kIn M.makes M.init (beq_iff_eq.mp M.fn) (codeAny_mono (F.run _ X.stack _ _ ⟨Value.ref (s.heap.objs.size + 1) :: us, []⟩ (Value.ref (s.heap.objs.size + 1) :: us) _ _ E (hr.make C us []) hgd
    (I2.env0.make C us []) hb' r2 hq) fun r s' hq' => ?_))
  cases r with
  | error e => exact hx pins σ _ _ e s' I2 hq'
  | ok fl =>
    cases fl with
    | ret u =>
      obtain ⟨v, H', I3, rv, ev, q3⟩ := I2.after hq'
      subst ev
      exact ⟨rv, ⟨V.ref (s.heap.objs.size + 1), H', I3, rfl, q3⟩⟩
    | next => exact False.elim hq'
    | brk => exact False.elim hq'
    | cont => exact False.elim hq'
theorem pe_makeM (M : Mk X.K C f) (F : MFn X.prog X.w X.K X.mg X.base k f fd ps sp) (hr : Room (k + 1) X.A) (hgd : X.A.guards = some []) (hg : Gl X x) (hm : X.mg x = some (.ref C)) (hb : Binds X.K fd ps []) (hx : Passes (L2.CX X.prog X.w) X E)
    (ha : PA X (e :: es) t) (hdb : (x == ("__debug__" : Str)) = false) (he : starEach (e :: es) X.env = (false, eval e X.env) :: starEach es X.env) (hpl : (backTo pos (starEach es X.env)).any (·.1) = false) :
    PE X (.Call (.Name x p) (e :: es) [] pos) (tMakeM C sp E t) := by
  refine ⟨fun pins s σ H Q I h => ?_⟩
  refine wpAny_Call_Name_kw (ld_glob I hg hm ?_ hdb)
  refine PySem.W.callWith_K (h₀ := X.base) I.ok.mod.kin M.kp (thn (ha.run pos pins s σ H _ I h) fun us s1 ⟨vs, H1, I1, r, q⟩ => ⟨I1.kIn, ?_⟩) he hpl
  exact run_makeM M F hr hgd hb hx I1 r q
end
theorem meth_ht {o : Expr} {m : Str} {apos pos : Pos} {args : List Expr} {env : PySem.Env} (hb : attributeBase o m env (eval o env) = eval o env)
    (hf : methodCallForm (args.length + ([] : List Keyword).length) (backTo pos (starEach args env)) (backToKw pos (keywordEach [] env)) = true) (hl : (apos.endLine == pos.line) = true) :
    eval (.Call (.Attribute o m apos) args [] pos) env = (do
      let ov ← eval o env
      standAt apos.atName
      let (f, first) ← holding [ov] (getMethod ov m (do return (← importBound o env).getD true))
      callWith pos f first (backTo pos (starEach args env)) (backToKw pos (keywordEach [] env))) := by
  rw [arm_eval_Call, hb]
  unfold methodCall
  rw [hf]
  have hp : methodCallPos true o env apos pos = pure pos := by unfold methodCallPos; simp [hl]
  rw [hp]
  rfl
end Mp

set_option linter.all false
set_option autoImplicit false
set_option maxRecDepth 100000
set_option maxHeartbeats 1000000
/-! Mp43: zip of a text with a tuple. -/
namespace Mp
open PySem PySem.Spec PyProof.Rows L2

/-- the signs of x beside the items of the tuple at b, in new pairs -/
def ItzST (K : PySem.W.Frag) (x : Str) (b : Addr) (ys : List V) : It :=
  ⟨fun i H => SqT K H b ys ∧ i < x.cps.size ∧ i < ys.length,
    fun i H v H' => ∃ T y c, v = .ref T ∧ H T = none ∧ H' = upd H T (.tup [.str ⟨#[c]⟩, y]) ∧ x.cps[i]? = some c ∧ ys[i]? = some y,
    fun i H => SqT K H b ys ∧ (i = x.cps.size ∨ i = ys.length)⟩
theorem turn_zipST {P : Program} {w : World} {K : PySem.W.Frag} {elts : List Expr} {kk : Nat} {tpos : Pos} {b z TI TO i1 i2 : Addr} {x : Str} {t : PySem.Tok} {ys : List V} (D : ZipSep2 z TI TO i1 i2 [i1] [i2, b]) (hb : b ≠ i2) (hTIi : TI ≠ TO) :
    Turn P w K (.Tuple elts kk tpos) (ItzST K x b ys) [z, TI, TO, i1, i2] z (fun i h => IsZip h z TI TO .none ∧ IsTupOf2 h TI (.ref i1) (.ref i2) ∧ (∃ x y, IsTupOf2 h TO x y) ∧ h.IsStrIter i1 (strIterType x) x t i ∧ h.IsTupleIter i2 b i ∧ i ≤ x.cps.size ∧ i ≤ ys.length) where
  mem := by simp
  obj := fun i h st c hc => by
    obtain ⟨hz, hTI, ⟨x, y, hTO⟩, ⟨o1, e1, _, d1⟩, ⟨o2, e2, _, d2⟩, _⟩ := st
    have e' : c = z ∨ c = TI ∨ c = TO ∨ c = i1 ∨ c = i2 := by simpa using hc
    rcases e' with q | q | q | q | q
    · rw [q]; exact ⟨_, hz, fun v q => nomatch q⟩
    · rw [q]; exact ⟨_, hTI, fun v q => nomatch q⟩
    · rw [q]; exact ⟨_, hTO, fun v q => nomatch q⟩
    · rw [q]; exact ⟨o1, e1, fun v q => by rw [d1] at q; cases q⟩
    · rw [q]; exact ⟨o2, e2, fun v q => by rw [d2] at q; cases q⟩
  keep := fun i h h' st k => by
    obtain ⟨hz, hTI, ⟨x, y, hTO⟩, ⟨o1, e1, r1⟩, h2, l1, l2⟩ := st
    exact ⟨k z (by simp) _ hz, k TI (by simp) _ hTI, ⟨x, y, k TO (by simp) _ hTO⟩, ⟨o1, k i1 (by simp) _ e1, r1⟩, h2.at fun o q => k i2 (by simp) o q, l1, l2⟩
  item := by
    intro X hP hw hK hc i pins s σ H E I hf st hg
    subst hP hw hK
    obtain ⟨hz, hTI, ⟨x0, y0, hTO⟩, h1, h2, _, _⟩ := st
    obtain ⟨hqy, l1, l2⟩ := hg
    obtain ⟨its, rv, p, _⟩ := I.tuple hqy
    have l3 : its.toArray.size = ys.length := by simpa using rv.length.symm
    have hd : X.A.in1.handled = none := I.ok.hd hc
    have D1 := Draws.text (prog := X.prog) (w := X.w) (A := X.A.in1) hd i1 x t
    have D2 := Draws.tuple (prog := X.prog) (w := X.w) (A := X.A.in1) hd i2 b hb its.toArray
    have hzl : z < s.heap.objs.size := Heap.lt_size hz
    refine wpAny_pyNext_zipD2_item D D1 D2 hz hTI hTO h1 ⟨h2, p⟩ l1 (by omega) fun x1 x2 h' tk P1 P2 z' TO' st1 st2 hT hsz hk => ?_
    obtain ⟨c, u1, hc1, rfl⟩ := P1
    obtain ⟨y, hy⟩ : ∃ y, ys[i]? = some y := ⟨_, List.getElem?_eq_getElem l2⟩
    obtain ⟨u2, hu2, ru2⟩ := rv.get hy
    have e2 : x2 = u2 := by
      have P2 : its.toArray[i]? = some x2 := P2
      rw [show its.toArray[i]? = some u2 by simpa using hu2] at P2
      exact (Option.some.inj P2).symm
    subst e2
    refine ⟨_, rfl, wpAny_letOwnedTupleGo_zip (s := { s with heap := h', toks := tk }) z' fun h'' z'' sb => ?_⟩
    have hT2 : h''.get? s.heap.objs.size = some { cls := .type "tuple", data := .seq #[.str ⟨#[c]⟩ u1, x2] } := (sb.2 _ (Nat.ne_of_gt hzl)).trans hT
    have new : ObjOk X.prog X.w (upd H s.heap.objs.size (.tup [.str ⟨#[c]⟩, y])) h'' s.heap.objs.size (.tup [.str ⟨#[c]⟩, y]) :=
      ⟨by show 2 ≤ sizeLine; decide, [.str ⟨#[c]⟩ u1, x2], .cons ⟨_, rfl⟩ (.cons ru2 .nil), ⟨_, hT2, rfl, _, rfl⟩⟩
    have I1 : Inv X pins σ (upd H s.heap.objs.size (.tup [.str ⟨#[c]⟩, y])) { s with heap := h'', toks := tk } :=
      I.turnedNew (t' := tk) (ch := [z, TI, TO, i1, i2]) (fun c o hb q => (sb.2 c (fun q' => hb (by simp [q']))).trans (hk c o (fun q' => hb (by simp [q'])) (fun q' => hb (by simp [q'])) (fun q' => hb (by simp [q'])) (fun q' => hb (by simp [q'])) q)) hf (Nat.le_refl _) new
    have st1' := D1.over st1 sb D.zf1
    have st2' := D2.over st2 sb D.zf2
    refine ⟨.ref s.heap.objs.size, _, I1, rfl, ⟨_, y, c, rfl, I.hok.fresh (Nat.le_refl _), rfl, hc1, hy⟩, ⟨z'', (sb.2 _ D.TIz).trans (hk _ _ D.TIz hTIi D.TIi1 D.TIi2 hTI), ⟨_, _, (sb.2 _ D.TOz).trans TO'⟩, st1', st2'.1, by omega, by omega⟩, fun c hcm => ?_⟩
    · have hlt : c < s.heap.objs.size := by
        have e' : c = z ∨ c = TI ∨ c = TO ∨ c = i1 ∨ c = i2 := by simpa using hcm
        rcases e' with q | q | q | q | q
        · rw [q]; exact hzl
        · rw [q]; exact Heap.lt_size hTI
        · rw [q]; exact Heap.lt_size hTO
        · rw [q]; obtain ⟨_, e1, _⟩ := h1; exact Heap.lt_size e1
        · rw [q]; obtain ⟨_, e2, _⟩ := h2; exact Heap.lt_size e2
      rw [upd_ne (Nat.ne_of_lt hlt)]
      exact (hf c hcm).1
  done := by
    intro X hP hw hK hc i pins s σ H E I hf st hg
    subst hP hw hK
    obtain ⟨hz, hTI, ⟨x0, y0, hTO⟩, h1, h2, l1, l2⟩ := st
    obtain ⟨hqy, hend⟩ := hg
    obtain ⟨its, rv, p, _⟩ := I.tuple hqy
    have l3 : its.toArray.size = ys.length := by simpa using rv.length.symm
    have hd : X.A.in1.handled = none := I.ok.hd hc
    have D1 := Draws.text (prog := X.prog) (w := X.w) (A := X.A.in1) hd i1 x t
    have D2 := Draws.tuple (prog := X.prog) (w := X.w) (A := X.A.in1) hd i2 b hb its.toArray
    exact wpAny_pyNext_zipD2_end D D1 D2 hz hTI hTO h1 ⟨h2, p⟩ l1 (by omega) (by omega) fun h' tk hk => ⟨rfl, I.turnedL (t' := tk) (ch := [z, TI, TO, i1, i2]) (fun c o hb q =>
      hk c o (fun q' => hb (by simp [q'])) (fun q' => hb (by simp [q'])) (fun q' => hb (by simp [q'])) (fun q' => hb (by simp [q'])) q) hf⟩
  self := fun A i s Q E st h => wpAny_pyIter_zip st.1 h
def iZipST (K : PySem.W.Frag) (ta : TA) : TI := fun σ H R => ta σ H fun vs H1 => ∃ x b ys, vs = [.str x, .ref b] ∧ SqT K H1 b ys ∧ R (ItzST K x b ys) H1
theorem pi_zipST {X : Cx} {e e2 : Expr} {ta : TA} {p pos tpos : Pos} {elts : List Expr} {kk : Nat} (hg : Gl X "zip") (hm : X.mg "zip" = none) (ha : PA X [e, e2] ta)
    (hs : starEach [e, e2] X.env = (false, eval e X.env) :: starEach [e2] X.env) (hpl : (backTo pos (starEach [e2] X.env)).any (·.1) = false) :
    PI X (.Tuple elts kk tpos) (.Call (.Name "zip" p) [e, e2] [] pos) (iZipST X.K ta) := by
  refine ⟨fun pins s σ H R I h => ?_⟩
  refine Call_ (ld_blt I hg hm PyProof.Rows.boot_zip (PyProof.Rows.callWith_type1 (thn (ha.run pos pins s σ H _ I h) fun us s1 ⟨vs, H1, I1, r1, q1⟩ => ?_) hs hpl))
  obtain ⟨x, b, ys, ex, hqy, q⟩ := q1
  subst ex
  cases r1 with
  | cons r rr =>
    cases rr with
    | cons r' rr =>
      cases rr
      obtain ⟨t, rfl⟩ := r
      cases r'
      have fresh5 : ∀ c, c ∈ [s1.heap.objs.size + 4, s1.heap.objs.size + 2, s1.heap.objs.size + 3, s1.heap.objs.size, s1.heap.objs.size + 1] → FpOk X pins H1 c := fun c hcm => by
        have e' : c = s1.heap.objs.size + 4 ∨ c = s1.heap.objs.size + 2 ∨ c = s1.heap.objs.size + 3 ∨ c = s1.heap.objs.size ∨ c = s1.heap.objs.size + 1 := by simpa using hcm
        have hle : s1.heap.objs.size ≤ c := by
          rcases e' with z | z | z | z | z
          · rw [z]; exact Nat.le_add_right _ _
          · rw [z]; exact Nat.le_add_right _ _
          · rw [z]; exact Nat.le_add_right _ _
          · rw [z]; exact Nat.le_refl _
          · rw [z]; exact Nat.le_add_right _ _
        exact I1.fpOk hle (I1.hok.fresh hle)
      obtain ⟨its, rv, p1, _⟩ := I1.tuple hqy
      obtain ⟨o1, ho1, _⟩ := id p1
      have hlt : b < s1.heap.objs.size := Heap.lt_size ho1
      refine zip_begins2 (begins_text x t) (begins_tuple b its.toArray) trivial p1 fun h' hz hTI hTO e1 e2 hsz hk => wpAny_pyIter_zip hz ?_
      have I2 : Inv X pins σ H1 { s1 with heap := h' } := I1.kept (t' := s1.toks) hk
      have D : ZipSep2 (s1.heap.objs.size + 4) (s1.heap.objs.size + 2) (s1.heap.objs.size + 3) s1.heap.objs.size (s1.heap.objs.size + 1) [s1.heap.objs.size] [s1.heap.objs.size + 1, b] := PySem.zip_sep2 (fp1 := []) (fp2 := [b]) (fun c hc => nomatch hc) fun c hc => by rw [List.mem_singleton.mp hc]; exact hlt
      have n1 : b ≠ s1.heap.objs.size + 1 := Nat.ne_of_lt (Nat.lt_succ_of_lt hlt)
      have n2 : s1.heap.objs.size + 2 ≠ s1.heap.objs.size + 3 := Nat.ne_of_lt (Nat.lt_succ_self _)
      exact ⟨s1.heap.objs.size + 4, [s1.heap.objs.size + 4, s1.heap.objs.size + 2, s1.heap.objs.size + 3, s1.heap.objs.size, s1.heap.objs.size + 1], _, _, H1, rfl, I2, turn_zipST (t := t) (ys := ys) (x := x) D n1 n2, ⟨hz, hTI, ⟨_, _, hTO⟩, ⟨_, e1, rfl, rfl⟩, ⟨_, e2, rfl, rfl⟩, Nat.zero_le _, Nat.zero_le _⟩, fresh5, q⟩
/-! ### the walk -/
theorem walkZST {K : PySem.W.Frag} {b : Bool} {F : Addr → Prop} {θ : List Addr} {H : Hp} {s : T} {ys : List D} {us : List V} {c : Addr} (ok : okT s = true) (hu : VRs K F θ H ys us) (k' : ∀ F' θ' H', Pw b F θ H F' θ' H' → SqT K H' c us) : Walk K b F θ H (zipST s ys) (ItzST K (tS s) c us) := by
  intro F' θ' mem H' p m
  have q' := k' F' θ' H' p
  have hs : (tS s).cps.size = s.length := by simp
  refine ⟨fun i d e => ?_, q', ?_⟩
  · obtain ⟨d1, d2, h1, h2, rfl⟩ := zipL_get e
    rw [List.getElem?_map] at h1
    obtain ⟨cc, hcc, rfl⟩ := Option.map_eq_some_iff.mp h1
    obtain ⟨u, e2, r'⟩ := hu.get h2
    refine ⟨⟨q', by rw [hs]; exact (List.getElem?_eq_some_iff.mp hcc).1, (List.getElem?_eq_some_iff.mp e2).1⟩, fun x H'' y => ?_⟩
    obtain ⟨T, z, c', rfl, hT, rfl, y1, y2⟩ := y
    rw [e2] at y2; cases y2
    have : c' = cc := by
      have y1 : s.toArray[i]? = some c' := y1
      rw [show s.toArray[i]? = some cc by simpa using hcc] at y1
      exact (Option.some.inj y1).symm
    subst this
    refine tup_new m hT ⟨_, _, rfl, ?_, _, _, rfl, VR.mono p.1 _ _ r', rfl⟩
    exact ⟨rfl, okT_sub ok (fun x hx => by rw [List.mem_singleton.mp hx]; exact List.mem_of_getElem? hcc) (by
      have := (List.getElem?_eq_some_iff.mp hcc).1
      simp only [List.length_singleton]; omega)⟩
  · show _ = _ ∨ _ = _
    unfold zipST
    have z1 := zipL_len (s.map fun c => D.str [c]) ys
    have z2 : ∀ (xs ys : List D), (zipL xs ys).length ≤ xs.length ∧ (zipL xs ys).length ≤ ys.length := fun xs => by
      induction xs with
      | nil => intro ys; simp [zipL]
      | cons x xs ih =>
        intro ys
        cases ys with
        | nil => simp [zipL]
        | cons y ys =>
          have := ih ys
          simp only [zipL, List.length_cons]
          omega
    have z2 := z2 (s.map fun c => D.str [c]) ys
    rw [List.length_map] at z1 z2
    rw [hs, ← hu.length]
    omega
variable {X : Cx} {fr : Fr} {Φ : Fs} {b : Bool}
theorem iZipS_of {a c : E} {σ : L2.St} {H : Hp} {R : It → Hp → Prop} (h : tI fr b (evI Φ (.zipS a c)) σ H R) (hK : fr.K = X.K) : iZipST X.K (tCons (tE fr (evE Φ a)) (tCons (tE fr (evE Φ c)) tNil)) σ H R := by
  obtain ⟨F, θ, env, mem, ds, mem', s, e, q⟩ := h
  obtain ⟨x, m1, e1, e⟩ := Mp.R.bind_ok e
  obtain ⟨y, m2, e2, e⟩ := Mp.R.bind_ok e
  split at e
  · cases e
    rename_i t ys _
    refine ⟨F, θ, env, mem, _, _, s, e1, fun θ1 v H1 t1 ms1 r1 => ⟨F, θ1, env, _, _, _, s.step t1 ms1, e2, fun θ' u H' t m r => ?_⟩⟩
    obtain ⟨rfl, ok⟩ := r1
    obtain ⟨p2, us, rfl, hu, hq', k'⟩ := sqT_keep (b := b) (x := .tup ys) (.inl r) rfl
    rw [hK] at *
    exact ⟨tS _, p2, us, rfl, hq', q θ' H' _ (t1.trans t) m (walkZST ok hu k')⟩
  · cases e
theorem tF.lrg2 {σ : L2.St} {H : Hp} {Q : VK} {a c : E} (h : tF fr (evF Φ (.lrg2 a c)) σ H Q) : tLstRg (tRg2 (tE fr (evE Φ a)) (tE fr (evE Φ c))) σ H Q := by
  obtain ⟨F, θ, env, mem, d, mem', s, e, q⟩ := h
  obtain ⟨x, m1, e1, e⟩ := Mp.R.bind_ok e
  obtain ⟨y, m2, e2, e⟩ := Mp.R.bind_ok e
  split at e
  · split at e
    · rename_i hj
      cases e
      rename_i i j _
      unfold lrgOk at hj
      rw [decide_eq_true_eq] at hj
      refine ⟨F, θ, env, mem, _, _, s, e1, fun θ1 v H1 t1 ms1 r1 => ⟨F, θ1, env, _, _, _, s.step t1 ms1, e2, fun θ' u H' t m r => ⟨i, j, r1, r, ⟨by omega, by omega, by omega, by omega, by omega⟩, fun p hp => ?_⟩⟩⟩
      refine q θ' p _ _ ((t1.trans t).trans (.laid hp)) (s.ms.was ms1 t1 ((s.step t1 ms1).ms.was m t hp)) upd_same (m.laidOwn hp fun _ z => nomatch z) ⟨_, rfl, ?_⟩
      have gen : ∀ (n : Nat) (lo : Int), VRs fr.K (plus F p) θ' (upd H' p (.lst (rgV i j))) (rngL lo n) ((List.range n).map fun i => V.int (lo + (i : Nat))) := fun n => by
        induction n with
        | zero => intro lo; exact rfl
        | succ n ih =>
          intro lo
          refine ⟨.int lo, (List.range n).map fun i => V.int (lo + 1 + (i : Nat)), ?_, rfl, ih (lo + 1)⟩
          rw [List.range_succ_eq_map, List.map_cons, List.map_map]
          congr 1
          · simp
          · refine List.map_congr_left fun i _ => ?_
            show V.int _ = V.int _
            congr 1
            simp only [Nat.succ_eq_add_one]; omega
      exact gen (j - i).toNat i
    · cases e
  · cases e
end Mp

set_option linter.all false
set_option autoImplicit false
set_option maxRecDepth 100000
set_option maxHeartbeats 1000000
/-! Mp44: a dict locked while it is walked; comprehensions over a dict. -/
namespace Mp
open PySem PySem.Spec PyProof.Rows L2

/-- the same but for a lock -/
structure Sw (d : Addr) (u : HO) (H H' : Hp) : Prop where
  ne : ∀ a, a ≠ d → H' a = H a
  r : Rd H d u
  r' : Rd H' d u
  dk : ∃ ws, u = .dK ws
theorem Sw.symm {d : Addr} {u : HO} {H H' : Hp} (s : Sw d u H H') : Sw d u H' H := ⟨fun a h => (s.ne a h).symm, s.r', s.r, s.dk⟩
section
variable {K : PySem.W.Frag} {F : Addr → Prop} {θ : List Addr} {H H' : Hp} {d : Addr} {u : HO}
theorem Sw.eqO (s : Sw d u H H') {a : Addr} {o : HO} (h : H a = some o) (n1 : ∀ ws, o ≠ .dK ws) (n2 : ∀ x ws, o ≠ .frz x (.dK ws)) : H' a = some o := by
  by_cases e : a = d
  · subst e
    obtain ⟨ws, rfl⟩ := s.dk
    rcases s.r with z | ⟨x, z⟩
    · rw [h] at z; cases z; exact absurd rfl (n1 ws)
    · rw [h] at z; cases z; exact absurd rfl (n2 x ws)
  · rw [s.ne a e]; exact h
theorem Sw.rd (s : Sw d u H H') {a : Addr} {o : HO} (h : Rd H a o) (hn : ∀ x w, o ≠ .frz x w) : Rd H' a o := by
  by_cases e : a = d
  · subst e
    have : o = u := by
      obtain ⟨ws, rfl⟩ := s.dk
      rcases s.r with z | ⟨x, z⟩ <;> rcases h with y | ⟨w, y⟩
      · rw [z] at y; cases y; rfl
      · rw [z] at y; cases y
      · rw [z] at y; cases y; exact absurd rfl (hn _ _)
      · rw [z] at y; cases y; rfl
    rw [this]; exact s.r'
  · rcases h with h | ⟨x, h⟩
    · exact .inl (by rw [s.ne a e]; exact h)
    · exact .inr ⟨x, by rw [s.ne a e]; exact h⟩
mutual
theorem VR.sw (s : Sw d u H H') : ∀ (x : D) (v : V), VR K F θ H x v → VR K F θ H' x v
  | .non, _, h => h
  | .bl _, _, h => h
  | .int _, _, h => h
  | .str _, _, h => h
  | .tup xs, v, h => by
    simp only [VR] at h ⊢
    obtain ⟨a, vs, e, q, f, t, r⟩ := h
    exact ⟨a, vs, e, s.eqO q (fun _ z => nomatch z) (fun _ _ z => nomatch z), f, t, VRs.sw s xs vs r⟩
  | .lst xs, v, h => by
    simp only [VR] at h ⊢
    obtain ⟨a, vs, e, q, f, t, r⟩ := h
    exact ⟨a, vs, e, s.eqO q (fun _ z => nomatch z) (fun _ _ z => nomatch z), f, t, VRs.sw s xs vs r⟩
  | .scr ns, v, h => by
    simp only [VR] at h ⊢
    obtain ⟨a, e, q⟩ := h
    exact ⟨a, e, q.imp (fun q => ⟨s.rd q.1 (fun _ _ z => nomatch z), q.2⟩) id⟩
  | .dct false kvs, v, h => by
    simp only [VR] at h ⊢
    obtain ⟨a, ws, e, q, f, t, r⟩ := h
    exact ⟨a, ws, e, s.rd q (fun _ _ z => nomatch z), f, t, KR.sw s kvs ws r⟩
  | .dct true kvs, v, h => by
    simp only [VR] at h ⊢
    obtain ⟨a, ws, e, q, f, t, r⟩ := h
    exact ⟨a, ws, e, s.rd q (fun _ _ z => nomatch z), f, t, TR.sw s kvs ws r⟩
  | .obj n, v, h => by
    simp only [VR] at h ⊢
    exact h
  | .ins c _, v, h => by
    simp only [VR] at h ⊢
    obtain ⟨a, e, q, f, t⟩ := h
    exact ⟨a, e, s.eqO q (fun _ z => by unfold XcO at z; cases z) (fun _ _ z => by unfold XcO at z; cases z), f, t⟩
  | .kon _, v, h => by simp only [VR] at h
theorem VRs.sw (s : Sw d u H H') : ∀ (xs : List D) (vs : List V), VRs K F θ H xs vs → VRs K F θ H' xs vs
  | [], vs, h => h
  | x :: xs, vs, h => by
    obtain ⟨v, r, e, h1, h2⟩ := h
    exact ⟨v, r, e, VR.sw s x v h1, VRs.sw s xs r h2⟩
theorem KR.sw (s : Sw d u H H') : ∀ (kvs : List (D × D)) (ws : List (Key × V)), KR K F θ H kvs ws → KR K F θ H' kvs ws
  | [], ws, h => by simp only [KR] at h ⊢; exact h
  | (k, x) :: r, ws, h => by
    simp only [KR] at h ⊢
    obtain ⟨k', v, q, e, h0, h1, h2⟩ := h
    exact ⟨k', v, q, e, h0, VR.sw s x v h1, KR.sw s r q h2⟩
theorem TR.sw (s : Sw d u H H') : ∀ (kvs : List (D × D)) (ws : List (List Key × V)), TR K F θ H kvs ws → TR K F θ H' kvs ws
  | [], ws, h => by simp only [TR] at h ⊢; exact h
  | (k, x) :: r, ws, h => by
    simp only [TR] at h ⊢
    obtain ⟨k', v, q, e, h0, h1, h2⟩ := h
    exact ⟨k', v, q, e, h0, VR.sw s x v h1, TR.sw s r q h2⟩
end
theorem CR.sw (s : Sw d u H H') {x : D} {o : HO} (h : CR K F θ H x o) : CR K F θ H' x o := by
  cases x with
  | lst xs => obtain ⟨vs, e, r⟩ := h; exact ⟨vs, e, VRs.sw s _ _ r⟩
  | dct t kvs =>
    cases t with
    | false => obtain ⟨vs, e, r⟩ := h; exact ⟨vs, e, KR.sw s _ _ r⟩
    | true => obtain ⟨vs, e, r⟩ := h; exact ⟨vs, e, TR.sw s _ _ r⟩
  | _ => exact h.elim
theorem FR.sw (s : Sw d u H H') : ∀ (fs : List (T × Mp.D)) (ws : List (Str × V)), FR K F θ H fs ws → FR K F θ H' fs ws
  | [], _, h => h
  | (x, e) :: r, ws, h => by
    obtain ⟨v, q, e1, h1, h2⟩ := h
    exact ⟨v, q, e1, VR.sw s _ _ h1, FR.sw s r q h2⟩
theorem CT.sw (s : Sw d u H H') {x : D} {o : HO} (h : CT K F θ H x o) : CT K F θ H' x o := by
  rcases h.cr with (⟨q, rfl⟩ | ⟨C, fs, rfl⟩) | h
  · obtain ⟨ps, e, h1, h2⟩ := h
    exact ⟨ps, e, h1, fun pos cv hc => let ⟨c, e1, e2, e3⟩ := h2 pos cv hc; ⟨c, e1, s.eqO e2 (fun _ z => by unfold LamX.CodeO at z; cases z) (fun _ _ z => by unfold LamX.CodeO at z; cases z), e3⟩⟩
  · obtain ⟨dx, ws, e, r⟩ := h
    exact ⟨dx, ws, e, FR.sw s _ _ r⟩
  · exact (h.sw s).ct
theorem CR.plain {x : D} {o : HO} (h : CR K F θ H x o) : ∀ y w, o ≠ .frz y w := by
  cases x with
  | lst xs => obtain ⟨vs, rfl, r⟩ := h; exact fun _ _ z => nomatch z
  | dct t kvs => cases t <;> (obtain ⟨vs, rfl, r⟩ := h; exact fun _ _ z => nomatch z)
  | _ => exact h.elim
end
/-- the frame with a lock on d -/
def lockFr (fr : Fr) (d : Addr) (od : Obj) (u : HO) : Fr := ⟨fr.K, upd fr.He d (.frz od u), fr.θe, fr.Fe, fun a h => by
  by_cases e : a = d
  · exact ⟨_, by rw [e, upd_same]⟩
  · obtain ⟨o, q⟩ := fr.fe a h
    exact ⟨o, by rw [upd_ne e]; exact q⟩, fun _ _ _ => False, fr.T, fr.hT⟩
section
variable {fr : Fr} {F : Addr → Prop} {θ : List Addr} {H : Hp} {env : Env} {mem : Mem} {σ : L2.St} {d : Addr} {od : Obj} {ws : List (Key × V)}
theorem sw_lock (h : H d = some (.dK ws)) : Sw d (.dK ws) H (upd H d (.frz od (.dK ws))) := ⟨fun a e => upd_ne e, .inl h, .inr ⟨od, upd_same⟩, ws, rfl⟩
theorem sw_unlock (h : H d = some (.frz od (.dK ws))) : Sw d (.dK ws) H (upd H d (.dK ws)) := ⟨fun a e => upd_ne e, .inr ⟨od, h⟩, .inl upd_same, ws, rfl⟩
theorem MS.lock (m : MS fr.K F θ mem H) (h : H d = some (.dK ws)) (nF : ¬ F d) (nθ : d ∉ θ) : MS fr.K F θ mem (upd H d (.frz od (.dK ws))) := by
  refine ⟨m.len, fun n x e => ?_, m.nd, m.Fθ, fun a z => ?_⟩
  · obtain ⟨a, o, e1, e2, c⟩ := m.at_ n x e
    have ne : a ≠ d := fun q => nθ (q ▸ List.mem_of_getElem? e1)
    exact ⟨a, o, e1, by rw [upd_ne ne]; exact e2, c.sw (sw_lock h)⟩
  · obtain ⟨o, e, n⟩ := m.Fd a z
    exact ⟨o, by rw [upd_ne (fun q : a = d => nF (q ▸ z))]; exact e, n⟩
theorem SR.lock (s : SR fr F θ env mem σ H) (h : H d = some (.dK ws)) (nF : ¬ F d) (nθ : d ∉ θ) : SR (lockFr fr d od (.dK ws)) F θ env mem σ (upd H d (.frz od (.dK ws))) := by
  refine ⟨s.ms.lock h nF nθ, ⟨s.bs.FF, ⟨fun a o e nt => ?_, s.bs.tr.pre, fun a ha => ?_⟩⟩, ⟨s.sl.len, fun i x e => ?_, fun i x e => ?_, s.sl.uni⟩⟩
  · by_cases q : a = d
    · subst q
      have e' : upd fr.He a (.frz od (.dK ws)) a = some o := e
      rw [upd_same] at e'
      rw [upd_same]; exact e'
    · have e' : upd fr.He d (.frz od (.dK ws)) a = some o := e
      rw [upd_ne q] at e'
      rw [upd_ne q]; exact s.bs.tr.keep a o e' nt
  · rcases s.bs.tr.fresh a ha with z | z
    · exact .inl z
    · refine .inr ?_
      show upd fr.He d (.frz od (.dK ws)) a = none
      rw [upd_ne (fun q : a = d => nθ (q ▸ ha))]; exact z
  · obtain ⟨v, h1, h2⟩ := s.sl.val i x e
    exact ⟨v, h1, VR.sw (sw_lock h) x v h2⟩
  · obtain ⟨a, o, h1, h2, h3, h4, h5⟩ := s.sl.own i x e
    have ne : a ≠ d := fun q => nF (q ▸ h4)
    exact ⟨a, o, h1, by rw [upd_ne ne]; exact h2, h3.sw (sw_lock h), h4, by show upd fr.He d (.frz od (.dK ws)) a = none; rw [upd_ne ne]; exact h5⟩
/-- what unlocking asks: the lock is still there -/
theorem locked (b : Bs (lockFr fr d od (.dK ws)) F θ H) (nθ : d ∉ fr.θe) : H d = some (.frz od (.dK ws)) ∧ d ∉ θ := by
  refine ⟨b.tr.keep d _ upd_same nθ, fun z => ?_⟩
  rcases b.tr.fresh d z with q | q
  · exact nθ q
  · have : upd fr.He d (.frz od (.dK ws)) d = none := q
    rw [upd_same] at this; cases this
theorem MS.unlock (m : MS fr.K F θ mem H) (h : H d = some (.frz od (.dK ws))) (nθ : d ∉ θ) : MS fr.K F θ mem (upd H d (.dK ws)) := by
  refine ⟨m.len, fun n x e => ?_, m.nd, m.Fθ, fun a z => ?_⟩
  · obtain ⟨a, o, e1, e2, c⟩ := m.at_ n x e
    have ne : a ≠ d := fun q => nθ (q ▸ List.mem_of_getElem? e1)
    exact ⟨a, o, e1, by rw [upd_ne ne]; exact e2, c.sw (sw_unlock h)⟩
  · obtain ⟨o, e, n⟩ := m.Fd a z
    by_cases q : a = d
    · subst q; exact ⟨_, upd_same, fun _ z => nomatch z⟩
    · exact ⟨o, by rw [upd_ne q]; exact e, n⟩
theorem Bs.unlock (b : Bs (lockFr fr d od (.dK ws)) F θ H) (hd : ∀ o, fr.He d = some o → o = .dK ws) (nθ : d ∉ θ) : Bs fr F θ (upd H d (.dK ws)) := by
  refine ⟨b.FF, ⟨fun a o e nt => ?_, b.tr.pre, fun a ha => ?_⟩⟩
  · by_cases q : a = d
    · subst q
      rw [upd_same, hd o e]
    · rw [upd_ne q]
      exact b.tr.keep a o (by show upd fr.He d _ a = _; rw [upd_ne q]; exact e) nt
  · rcases b.tr.fresh a ha with z | z
    · exact .inl z
    · refine .inr ?_
      have z' : upd fr.He d (.frz od (.dK ws)) a = none := z
      rwa [upd_ne (fun q : a = d => nθ (q ▸ ha))] at z'
theorem SR.unlock (s : SR (lockFr fr d od (.dK ws)) F θ env mem σ H) (hd : ∀ o, fr.He d = some o → o = .dK ws) (nθe : d ∉ fr.θe) : H d = some (.frz od (.dK ws)) ∧ SR fr F θ env mem σ (upd H d (.dK ws)) := by
  obtain ⟨h, nθ⟩ := locked s.bs nθe
  refine ⟨h, MS.unlock s.ms h nθ, s.bs.unlock hd nθ, ⟨s.sl.len, fun i x e => ?_, fun i x e => ?_, s.sl.uni⟩⟩
  · obtain ⟨v, h1, h2⟩ := s.sl.val i x e
    exact ⟨v, h1, VR.sw (sw_unlock h) x v h2⟩
  · obtain ⟨a, o, h1, h2, h3, h4, h5⟩ := s.sl.own i x e
    have ne : a ≠ d := fun q => by
      subst q
      rw [h] at h2; cases h2
      exact absurd rfl (h3.plain _ _)
    have h5' : upd fr.He d (.frz od (.dK ws)) a = none := h5
    rw [upd_ne ne] at h5'
    exact ⟨a, o, h1, by rw [upd_ne ne]; exact h2, h3.sw (sw_unlock h), h4, h5'⟩
end
/-! ### the walk -/
section
variable {K : PySem.W.Frag} {F : Addr → Prop} {θ : List Addr} {H : Hp} {d : Addr} {o : Obj}
theorem KR.at {kvs : List (D × D)} : ∀ {ws : List (Key × V)} {i : Nat} {p : D × D}, KR K F θ H kvs ws → kvs[i]? = some p → ∃ k v, ws[i]? = some (k, v) ∧ (keyOf p.1 = some k ∧ okK p.1 = true) ∧ VR K F θ H p.2 v := by
  induction kvs with
  | nil => intro ws i p h e; simp at e
  | cons q r ih =>
    intro ws i p h e
    obtain ⟨k, x⟩ := q
    simp only [KR] at h
    obtain ⟨k', v, z, ez, h0, h1, h2⟩ := h
    subst ez
    cases i with
    | zero => simp at e; subst e; exact ⟨k', v, rfl, h0, h1⟩
    | succ i =>
      obtain ⟨k2, v2, q1, q2⟩ := ih (ws := z) (i := i) (p := p) h2 (by simpa using e)
      exact ⟨k2, v2, by simpa using q1, q2⟩
theorem KR.len : ∀ {kvs : List (D × D)} {ws : List (Key × V)}, KR K F θ H kvs ws → kvs.length = ws.length
  | [], ws, h => by simp only [KR] at h; subst h; rfl
  | (k, x) :: r, ws, h => by
    simp only [KR] at h
    obtain ⟨k', v, z, rfl, h0, h1, h2⟩ := h
    simp [KR.len h2]
theorem key_vr {k : D} {k' : Key} (e : keyOf k = some k') (ok : okK k = true) : VR K F θ H k (kV k') := by
  cases k <;> simp only [keyOf] at e <;> first | (cases e; done) | skip
  · cases e; exact rfl
  · cases e; exact ⟨rfl, ok⟩
def itD (w : Bool) (d : Addr) (o : Obj) (ws : List (Key × V)) : It := if w = true then Iti d o ws else Itk d o ws
theorem walkKD {w : Bool} {kvs : List (D × D)} {ws : List (Key × V)} (hd : H d = some (.frz o (.dK ws))) (nF : ¬ F d) (nθ : d ∉ θ) (kr : KR K F θ H kvs ws) : Walk K false F θ H (walkD w kvs) (itD w d o ws) := by
  intro F' θ' mem H' pw ms
  obtain ⟨hd', nF', nθ'⟩ := pw.1.keep d _ hd nF nθ
  have kr' := KR.mono pw.1 _ _ kr
  have len := kr'.len
  cases w with
  | false =>
    refine ⟨fun i x hx => ?_, ⟨hd', by show ws.length ≤ (kvs.map (·.1)).length; rw [List.length_map, len]; exact Nat.le_refl _⟩⟩
    have hx' : (kvs.map (·.1))[i]? = some x := hx
    rw [List.getElem?_map] at hx'
    obtain ⟨p, hp, rfl⟩ := Option.map_eq_some_iff.mp hx'
    obtain ⟨k, v, e1, ⟨e2, e3⟩, e4⟩ := kr'.at hp
    refine ⟨⟨hd', (List.getElem?_eq_some_iff.mp e1).1⟩, fun x H'' y => ?_⟩
    obtain ⟨rfl, k2, v2, y1, rfl⟩ := y
    rw [e1] at y1; cases y1
    exact ⟨.refl, ms, key_vr e2 e3⟩
  | true =>
    refine ⟨fun i x hx => ?_, ⟨hd', by show ws.length ≤ (kvs.map _).length; rw [List.length_map, len]; exact Nat.le_refl _⟩⟩
    have hx' : (kvs.map fun p => D.tup [p.1, p.2])[i]? = some x := hx
    rw [List.getElem?_map] at hx'
    obtain ⟨p, hp, rfl⟩ := Option.map_eq_some_iff.mp hx'
    obtain ⟨k, v, e1, ⟨e2, e3⟩, e4⟩ := kr'.at hp
    refine ⟨⟨hd', (List.getElem?_eq_some_iff.mp e1).1⟩, fun x H'' y => ?_⟩
    obtain ⟨T, k2, v2, y1, rfl, hT, rfl⟩ := y
    rw [e1] at y1; cases y1
    obtain ⟨h1, h2⟩ := ms.fresh hT
    refine ⟨.laid hT, ms.laid hT, ?_⟩
    simp only [VR]
    exact ⟨T, _, rfl, upd_same, h2, h1, kV k, [v], rfl, key_vr e2 e3, v, [], rfl, VR.mono (Tr.laid hT).fk _ _ e4, rfl⟩
end
/-- keys or pairs of the dict in a slot -/
def iKD (w : Bool) (i : Nat) : TI := if w = true then iItems (tVar i) else iKeys (tVar i)
/-- readings, whatever the frame -/
def gEx (K : PySem.W.Frag) (T : List Addr) (g : G) : TG := fun v σ H Q => ∃ fr : Fr, fr.K = K ∧ fr.T = T ∧ gG fr g v σ H Q
def tTx (K : PySem.W.Frag) (T : List Addr) (Φ : Fs) (a : EO) : TT := fun σ H Q => ∃ fr : Fr, fr.K = K ∧ fr.T = T ∧ tT fr (evT Φ a) σ H Q
def tEx (K : PySem.W.Frag) (T : List Addr) (Φ : Fs) (a : E) : TE := fun σ H Q => ∃ fr : Fr, fr.K = K ∧ fr.T = T ∧ tE fr (evE Φ a) σ H Q
section
variable {fr : Fr} {Φ : Fs} {F : Addr → Prop} {θ : List Addr} {H : Hp} {env : Env} {mem mem' : Mem} {σ : L2.St}
theorem comp_core {own : List Nat} {g : G} {ifs : EO} {elt : E} {ds ys : List Mp.D} {J : It} {Q : VK} (hg : ∀ i ∈ g.sl, i ∈ own) (s : SR fr F θ env mem σ H) (hlen : ds.length ≤ line)
    (e2 : compL (wipeE env own) g (fun e m => evT Φ ifs e m) (fun e m => evE Φ elt e m) ds mem = .ok ys mem') (wk : Walk fr.K true F θ H ds J)
    (q : ∀ θ' p o H', Tr θ H θ' H' → H p = none → H' p = some o → MS fr.K (plus F p) θ' mem' H' → CR fr.K (plus F p) θ' H' (.lst ys) o → Q (.ref p) H') :
    ∀ D, H D = none → ∃ W : Nat → Nat → Hp → Prop, (∃ m, W 0 m (upd H D (.lst []))) ∧ ∀ i m H, W i m H →
      (J.stop i H ∧ Q (.ref D) H) ∨ (J.go i H ∧ ∃ Nx : Hp → Prop, (∀ H', Nx H' → ∃ m', m' < m ∧ W (i + 1) m' H') ∧ ∀ x H', J.yld i H x H' → gEx fr.K fr.T g x (L2.wipe σ own) H' fun σ2 H2 => L2.wipe σ2 own = L2.wipe σ own ∧ tTx fr.K fr.T Φ ifs σ2 H2 fun b H3 =>
        if b = true then tEx fr.K fr.T Φ elt σ2 H3 fun y H4 => ∃ acc, H4 D = some (.lst acc) ∧ acc.length < sizeLine ∧ Nx (upd H4 D (.lst (acc ++ [y]))) else Nx H3) := by
  intro D hD
  have ms1 := s.ms
  have ms1' : MS fr.K (plus F D) θ mem (upd H D (.lst [])) := ms1.laidOwn hD (fun _ z => nomatch z)
  refine ⟨fun i m H2 => m = ds.length - i ∧ i ≤ ds.length ∧ ∃ θi mi acc xs r, MS fr.K (plus F D) θi mi H2 ∧ Tr θ H θi H2 ∧ H2 D = some (.lst acc) ∧ acc.length ≤ i ∧ VRs fr.K (plus F D) θi H2 xs acc ∧
    compL (wipeE env own) g (fun e m => evT Φ ifs e m) (fun e m => evE Φ elt e m) (ds.drop i) mi = .ok r mem' ∧ xs ++ r = ys, ⟨ds.length, by simp, Nat.zero_le _, θ, mem, [], [], ys, ms1', Tr.laid hD, upd_same, Nat.zero_le _, rfl, e2, rfl⟩, ?_⟩
  rintro i m H2 ⟨rfl, hi, θi, mi, acc, xs, r, ms, t, hDl, hacc, hv, hc, hr⟩
  have np : ¬ F D := (ms1.fresh hD).2
  have fk : Fk F θ H (plus F D) θi H2 := ⟨fun a o e f z => by
    obtain ⟨h1, _, h3⟩ := (t.fk (F := F)).keep a o e f z
    exact ⟨h1, fun y => y.elim f (ne_of_none e hD), h3⟩, t.pre⟩
  obtain ⟨w1, w2⟩ := wk (plus F D) θi mi H2 ⟨fk, fun _ => t⟩ ms
  by_cases hlt : i < ds.length
  · have hdi : ds[i]? = some ds[i] := List.getElem?_eq_getElem hlt
    obtain ⟨go, yl⟩ := w1 i _ hdi
    refine .inr ⟨go, fun H' => ∃ θi mi acc xs r, MS fr.K (plus F D) θi mi H' ∧ Tr θ H θi H' ∧ H' D = some (.lst acc) ∧ acc.length ≤ i + 1 ∧ VRs fr.K (plus F D) θi H' xs acc ∧
      compL (wipeE env own) g (fun e m => evT Φ ifs e m) (fun e m => evE Φ elt e m) (ds.drop (i + 1)) mi = .ok r mem' ∧ xs ++ r = ys, fun H' hN => ⟨ds.length - (i + 1), by omega, rfl, hlt, hN⟩, fun x H3 y => ?_⟩
    obtain ⟨t3, ms3, rx⟩ := yl x H3 y
    have fD : (plus F D) D := .inr rfl
    have nθ : D ∉ θi := ms.Fθ D fD
    have hD3 : H3 D = some (.lst acc) := t3.keep D _ hDl nθ
    have tt3 : Tr θ H θi H3 := t.trans t3
    have hv3 := VRs.mono t3.fk xs acc hv
    have s3 : SR fr (plus F D) θi (wipeE env own) mi (L2.wipe σ own) H3 := (s.own tt3 hD ms3).wipe own
    rw [List.drop_eq_getElem_cons hlt] at hc
    obtain ⟨ev1, b, mt, hb, ht, hc⟩ := compL_cons hc
    refine ⟨fr, rfl, rfl, plus F D, θi, wipeE env own, mi, ds[i], ev1, s3, rx, hb, fun σ2 sto s4 => ⟨?_, ?_⟩⟩
    · rw [sto own hg, wipe_idem]
    · refine ⟨fr, rfl, rfl, plus F D, θi, ev1, mi, b, mt, s4, ht, fun θ5 H5 t5 ms5 => ?_⟩
      have hD5 : H5 D = some (.lst acc) := t5.keep D _ hD3 nθ
      have hv5 := VRs.mono t5.fk xs acc hv3
      cases b with
      | true =>
        rw [if_pos rfl] at hc
        refine ite_pos' rfl ?_
        obtain ⟨z, m6, r6, he, hc', rfl⟩ := hc
        refine ⟨fr, rfl, rfl, plus F D, θ5, ev1, mt, z, m6, s4.step t5 ms5, he, fun θ6 u H6 t6 ms6 r6' => ?_⟩
        have hD6 : H6 D = some (.lst acc) := t6.keep D _ hD5 (ms5.Fθ D fD)
        refine ⟨acc, hD6, by have : sizeLine = line := sizeLine_eq; omega, ?_⟩
        have kk : Fk (plus F D) θ6 H6 (plus F D) θ6 (upd H6 D (.lst (acc ++ [u]))) := own_fk fD
        refine ⟨θ6, m6, acc ++ [u], xs ++ [z], r6, ms6.own_upd fD (fun _ z => nomatch z), ?_, upd_same, ?_, VRs.append (VRs.mono kk _ _ (VRs.mono t6.fk xs acc hv5)) ⟨u, [], rfl, VR.mono kk _ _ r6', rfl⟩, hc', ?_⟩
        · have t7 := (tt3.trans t5).trans t6
          exact ⟨fun a o e z => by rw [upd_ne (ne_of_none e hD)]; exact t7.keep a o e z, t7.pre, t7.fresh⟩
        · rw [List.length_append, List.length_singleton]; omega
        · rw [List.append_assoc]; exact hr
      | false =>
        rw [if_neg Bool.false_ne_true] at hc
        refine ite_neg' Bool.false_ne_true ?_
        exact ⟨θ5, mt, acc, xs, r, ms5, tt3.trans t5, hD5, by omega, hv5, hc, hr⟩
  · have hi' : i = ds.length := by omega
    subst hi'
    refine .inl ⟨w2, ?_⟩
    rw [List.drop_length] at hc
    cases hc
    rw [List.append_nil] at hr
    subst hr
    exact q θi D _ H2 t hD hDl ms ⟨acc, rfl, hv⟩
theorem tr_unlock {θ' : List Addr} {H' : Hp} {d : Addr} {od : Obj} {ws : List (Key × V)} (t : Tr θ (upd H d (.frz od (.dK ws))) θ' H') (h : H d = some (.dK ws)) (nθ : d ∉ θ) : Tr θ H θ' (upd H' d (.dK ws)) := ⟨fun a o e nt => by
  by_cases q : a = d
  · subst q; rw [h] at e; cases e; exact upd_same
  · rw [upd_ne q]; exact t.keep a o (by rw [upd_ne q]; exact e) nt, t.pre, fun a ha => by
  rcases t.fresh a ha with z | z
  · exact .inl z
  · by_cases q : a = d
    · subst q; rw [upd_same] at z; cases z
    · rw [upd_ne q] at z; exact .inr z⟩
theorem tF.compK {own : List Nat} {g : G} {i : Nat} {ifs : EO} {elt : E} {Q : VK} (hg : ∀ i ∈ g.sl, i ∈ own) (h : tF fr (evF Φ (.compK own g i ifs elt)) σ H Q) :
    tLockE (tLc (iKD false i) (gEx fr.K fr.T g) (tTx fr.K fr.T Φ ifs) (tEx fr.K fr.T Φ elt) own) σ H Q ∨ tLc (iKD false i) (gEx fr.K fr.T g) (tTx fr.K fr.T Φ ifs) (tEx fr.K fr.T Φ elt) own σ H Q := by
  obtain ⟨F, θ, env, mem, d0, mem', s, e, q⟩ := h
  unfold evF at e
  split at e
  · rename_i kvs hgt
    split at e
    · split at e
      · rename_i hlen
        obtain ⟨ys, m2, e2, e⟩ := Mp.R.bind_ok e
        cases e
        obtain ⟨v, hv, r⟩ := s.sl.val i _ hgt
        simp only [VR] at r
        obtain ⟨d, ws, rfl, hq, nF, nθ, kr⟩ := r
        have up : ∀ {K : PySem.W.Frag} {H' : Hp} {x : Obj}, H' d = some (.frz x (.dK ws)) → KR K F θ H' kvs ws → Walk K true F θ H' (kvs.map (·.1)) (Itk d x ws) := fun h1 h2 F' θ' mm HH pw ms => walkKD (w := false) h1 nF nθ h2 F' θ' mm HH ⟨pw.1, fun z => nomatch z⟩ ms
        rcases hq with hq | ⟨x, hq⟩
        · refine .inl ⟨d, .dK ws, hq, trivial, fun od => ?_⟩
          refine ⟨.ref d, hv, d, od, rfl, .inl ⟨ws, upd_same, ?_⟩⟩
          refine comp_core (fr := lockFr fr d od (.dK ws)) (J := Itk d od ws) (Q := fun v H' => H' d = some (.frz od (.dK ws)) ∧ Q v (upd H' d (.dK ws))) hg (s.lock hq nF nθ) (by rw [List.length_map]; exact hlen) e2 (up upd_same (KR.sw (sw_lock hq) _ _ kr)) fun θ' p o H' t hp ho ms cr => ?_
          have k : H' d = some (.frz od (.dK ws)) := t.keep d _ upd_same nθ
          have pne : p ≠ d := fun z => by subst z; rw [upd_same] at hp; cases hp
          have nθ' : d ∉ θ' := fun z => by
            rcases t.fresh d z with y | y
            · exact nθ y
            · rw [upd_same] at y; cases y
          rw [upd_ne pne] at hp
          exact ⟨k, q θ' p o _ (tr_unlock t hq nθ) hp (by rw [upd_ne pne]; exact ho) (ms.unlock k nθ') (cr.sw (sw_unlock k))⟩
        · refine .inr ⟨.ref d, hv, d, x, rfl, .inl ⟨ws, hq, ?_⟩⟩
          exact comp_core hg s (by rw [List.length_map]; exact hlen) e2 (up hq kr) q
      · cases e
    · cases e
  · cases e
end
end Mp

set_option linter.all false
set_option autoImplicit false
set_option maxRecDepth 100000
set_option maxHeartbeats 1000000
/-! Mp16: the check of an IR against the text; what a def's body stands in. -/
namespace Mp
open PySem PySem.Spec PyProof.Rows L2

/-- the module: its constants, its defs (their number, how many parameters), the built-in names that are read -/
structure Glo where
  consts : List (Str × D)
  defs : List (Str × (Nat × Nat))
  blts : List Str
  excs : List (Str × Bool) := []
  told : List (Str × (Stmt × List Str)) := []
  tab : Option (Nat × T) := none
  clss : List Cl := []
  mkOk : Bool := false
/-- a def of that name has the number f -/
def hasDef (l : List (Str × (Nat × Nat))) (x : Str) (f : Nat) : Bool := l.any fun d => (d.1 == x) && (d.2.1 == f)
theorem hasDef_or {l : List (Str × (Nat × Nat))} {x : Str} {f : Nat} (h : hasDef l x f = true) : hasDef l x f = true ∨ False := .inl h
/-- where no lambda is made -/
def Glo.nt (G : Glo) : Glo := { G with told := [], tab := none, mkOk := false }

mutual
def beqD : D → D → Bool
  | .non, .non => true
  | .bl a, .bl b => a == b
  | .int a, .int b => a == b
  | .str a, .str b => a == b
  | .tup xs, .tup ys => beqDs xs ys
  | _, _ => false
def beqDs : List D → List D → Bool
  | [], [] => true
  | x :: xs, y :: ys => beqD x y && beqDs xs ys
  | _, _ => false
end
mutual
theorem beqD_eq : ∀ {a b : D}, beqD a b = true → a = b
  | .non, b, h => by cases b <;> simp [beqD] at h; rfl
  | .bl a, b, h => by cases b <;> simp [beqD] at h; rw [h]
  | .int a, b, h => by cases b <;> simp [beqD] at h; rw [h]
  | .str a, b, h => by cases b <;> simp [beqD] at h; rw [h]
  | .tup xs, b, h => by
    cases b <;> simp [beqD] at h
    rw [beqDs_eq h]
  | .lst _, b, h => by cases b <;> simp [beqD] at h
  | .dct _ _, b, h => by cases b <;> simp [beqD] at h
  | .obj _, b, h => by cases b <;> simp [beqD] at h
  | .ins _ _, b, h => by cases b <;> simp [beqD] at h
  | .scr _, b, h => by cases b <;> simp [beqD] at h
  | .kon _, b, h => by cases b <;> simp [beqD] at h
theorem beqDs_eq : ∀ {a b : List D}, beqDs a b = true → a = b
  | [], b, h => by cases b <;> simp [beqDs] at h; rfl
  | x :: xs, b, h => by
    cases b <;> simp [beqDs] at h
    rw [beqD_eq h.1, beqDs_eq h.2]
end

def vis (sc : Scope) (x : Str) : Bool := match sc.names.lookup x with
  | some .local => true
  | some .cell => true
  | some .free => true
  | _ => false
def isLoc (sc : Scope) (x : Str) : Bool := match sc.names.lookup x with
  | some .local => true
  | _ => false
def isCel (sc : Scope) (x : Str) : Bool := match sc.names.lookup x with
  | some .cell => true
  | _ => false
def isGlb (sc : Scope) (x : Str) : Bool := match sc.names.lookup x with
  | some .globalImplicit => true
  | _ => false
theorem vis_of {sc : Scope} {x : Str} (h : vis sc x = true) : Vis sc x := by
  unfold vis at h
  split at h
  · rename_i e; exact .inl e
  · rename_i e; exact .inr (.inl e)
  · rename_i e; exact .inr (.inr e)
  · cases h
theorem isLoc_of {sc : Scope} {x : Str} (h : isLoc sc x = true) : sc.names.lookup x = some .local := by
  unfold isLoc at h
  split at h
  · assumption
  · cases h
theorem isCel_of {sc : Scope} {x : Str} (h : isCel sc x = true) : sc.names.lookup x = some .cell := by
  unfold isCel at h
  split at h
  · assumption
  · cases h
theorem isGlb_of {sc : Scope} {x : Str} (h : isGlb sc x = true) : sc.names.lookup x = some .globalImplicit := by
  unfold isGlb at h
  split at h
  · assumption
  · cases h
/-- not a name with a meaning of its own -/
def okN (x : Str) : Bool := !(x == ("__debug__" : Str)) && !(x == ("__classdict__" : Str))
theorem okN_d {x : Str} (h : okN x = true) : (x == ("__debug__" : Str)) = false := by
  unfold okN at h
  simp only [Bool.and_eq_true, Bool.not_eq_true'] at h
  exact h.1
theorem okN_c {x : Str} (h : okN x = true) : (x == ("__classdict__" : Str)) = false := by
  unfold okN at h
  simp only [Bool.and_eq_true, Bool.not_eq_true'] at h
  exact h.2

def noStar : Expr → Bool
  | .Starred _ _ => false
  | _ => true
theorem star1 {e : Expr} {es : List Expr} {env : PySem.Env} (h : noStar e = true) : starEach (e :: es) env = (false, eval e env) :: starEach es env := by
  cases e <;> first | rfl | cases h
theorem starAll {pos : Pos} {env : PySem.Env} : ∀ {es : List Expr}, es.all noStar = true → (backTo pos (starEach es env)).any (·.1) = false
  | [], _ => rfl
  | e :: es, h => by
    simp only [List.all_cons, Bool.and_eq_true] at h
    rw [star1 h.1]
    show (false || (backTo pos (starEach es env)).any (·.1)) = false
    rw [starAll h.2]
    rfl
/-- a receiver that is not super() -/
def noSuper : Expr → Bool
  | .Call _ [] _ _ => false
  | _ => true
theorem attr_base {o : Expr} {x : Str} {env : PySem.Env} (h : noSuper o = true) : attributeBase o x env (eval o env) = eval o env := by
  cases o with
  | Call f as kws pos =>
    cases as with
    | nil => cases h
    | cons a as => cases f <;> rfl
  | _ => rfl
def plainIx : Expr → Bool
  | .Slice _ _ _ _ => false
  | _ => true
theorem plain_ix {e : Expr} (h : plainIx e = true) : PlainIx e := by
  cases e <;> first | (intro _ _; rfl) | cases h
def noSet : Expr → Bool
  | .Set _ _ _ => false
  | _ => true
theorem no_set {e : Expr} {env : PySem.Env} (h : noSet e = true) (x : Value) : foldedSetIterable e env x = pure x := by
  cases e <;> first | rfl | cases h
theorem no_marks {e : Expr} (h : noSet e = true) (op : CmpOp) : behindInMarks op e = false := by
  cases e <;> first | rfl | cases h
/-- tests of their own kind -/
def plainT : Expr → Bool
  | .UnaryOp .Not _ _ => false
  | .BoolOp _ _ _ => false
  | .IfExp _ _ _ _ => false
  | .Compare _ _ _ _ => false
  | _ => true
theorem plain_t {e : Expr} {env : PySem.Env} (h : plainT e = true) (whole : Sem Value) : isTrue e env whole = (do let v ← whole; standAt e.pos; holding [v] (truthy v)) := by
  cases e with
  | UnaryOp op x p => cases op <;> first | rfl | cases h
  | BoolOp => cases h
  | IfExp => cases h
  | Compare => cases h
  | _ => rfl

def Bop.isOp : Bop → Operator → Bool
  | .add, .Add => true | .sub, .Sub => true | .mul, .Mult => true | .mod, .Mod => true | .fdv, .FloorDiv => true | .pow, .Pow => true
  | _, _ => false
def Cmp.isOp : Cmp → CmpOp → Bool
  | .eq, .Eq => true | .ne, .NotEq => true | .lt, .Lt => true | .le, .LtE => true | .gt, .Gt => true | .ge, .GtE => true
  | _, _ => false
theorem Cmp.isOp_eq {c : Cmp} {op : CmpOp} (h : c.isOp op = true) : op = c.op := by
  cases c <;> cases op <;> first | rfl | cases h
def isInOp (neg : Bool) : CmpOp → Bool
  | .In => !neg
  | .NotIn => neg
  | _ => false
theorem isInOp_eq {neg : Bool} {op : CmpOp} (h : isInOp neg op = true) : op = inOp neg := by
  cases neg <;> cases op <;> first | rfl | cases h
def isNOp (neg : Bool) : CmpOp → Bool
  | .Is => !neg
  | .IsNot => neg
  | _ => false
def U1.nm : U1 → Str
  | .len => "len" | .all => "all" | .any => "any" | .sum => "sum" | .abs => "abs" | .int => "int" | .str => "str" | .tup => "tuple" | .repr => "repr"
  | .minl => "min" | .neg => "" | .rev => ""
def U2.nm : U2 → Str
  | .min => "min" | .max => "max"

def Sm.nm : Sm → Str
  | .split => "split" | .index => "index"
theorem few {es : List Expr} {pos : Pos} {env : PySem.Env} (h : es.all noStar = true) : (backTo pos (starEach es env)).all (fun x => !x.1) = true := by
  have z := starAll (pos := pos) (env := env) h
  rw [List.all_eq_not_any_not]
  simpa using z
/-- a name in its slot -/
def nameC (N : List Str) (sc : Scope) (i : Nat) (x : Str) : Bool := decide (N[i]? = some x) && vis sc x && okN x
/-- a built-in's name -/
def bltC (G : Glo) (sc : Scope) (x y : Str) : Bool := (x == y) && G.blts.contains y && isGlb sc y

def fnScopeC (N P : List Str) (sc : Scope) : Bool :=
  (match sc.kind with | .function => true | _ => false) && !sc.isCoroutine && !sc.isGenerator && decide N.Nodup && decide (N.take P.length = P) && (P.all fun x => isLoc sc x || isCel sc x) && (sc.names.all fun y => match y.2 with | .free => false | _ => true)
theorem fnScope_of {N P : List Str} {sc : Scope} (h : fnScopeC N P sc = true) : FnScope N P sc := by
  unfold fnScopeC at h
  simp only [Bool.and_eq_true, Bool.not_eq_true', decide_eq_true_eq, List.all_eq_true] at h
  obtain ⟨⟨⟨⟨⟨⟨h1, h2⟩, h3⟩, h4⟩, h5⟩, h6⟩, h7⟩ := h
  refine ⟨?_, h2, h3, h4, h5, fun x hx => ?_, fun y hy e => ?_⟩
  · split at h1
    · assumption
    · cases h1
  · rcases (Bool.or_eq_true _ _).mp (h6 x hx) with z | z
    · exact .inl (isLoc_of z)
    · exact .inr (isCel_of z)
  · have z := h7 y hy
    rw [e] at z
    cases z
/-- a def that asks what it was given, under a try -/
def toldC (G : Glo) (st : Stmt) (N : List Str) (s w : Nat) : Bool := match N, defBody st with
  | [a, fnd, cgt, en], [.Assign [.Name y1 _] (.Constant .none _ _) _, .Assign [.Name y2 _] (.Constant .none _ _) _, .Try [.Assign [.Name y3 _] (.Call (.Name y4 _) [] [] _) _] [.ExceptHandler (some (.Name xe _)) (some y5) [.Assign [.Name y6 _] (.Name y7 _) _] _] [] [] _,
      .Return (some (.IfExp (.Compare (.Name y8 _) [.Is] [.Constant .none _ _] _) (.Name y9 _) (.Call (.Name wn _) [.Name y10 _] [] _) _)) _] =>
    fnScopeC [a, fnd, cgt, en] [a] (defScope st) && ([a, fnd, cgt, en].all fun y => isLoc (defScope st) y && okN y) && isGlb (defScope st) xe && okN xe && isGlb (defScope st) wn && okN wn &&
      (y1 == fnd) && (y2 == cgt) && (y3 == fnd) && (y4 == a) && (y5 == en) && (y6 == cgt) && (y7 == en) && (y8 == cgt) && (y9 == fnd) && (y10 == cgt) &&
      (match G.excs[s]? with | some (z, true) => z == xe | _ => false) && hasDef G.defs wn w
  | _, _ => false
mutual
def chkG (fb : Bool) (N : List Str) (sc : Scope) : G → Expr → Bool
  | .nm i, e => match e with
    | .Name x _ => decide (N[i]? = some x) && (isLoc sc x || (fb && isCel sc x))
    | _ => false
  | .tp gs, e => match e with
    | .Tuple es _ _ => chkGs fb N sc gs es
    | _ => false
def chkGs (fb : Bool) (N : List Str) (sc : Scope) : Gs → List Expr → Bool
  | .nil, es => match es with
    | [] => true
    | _ => false
  | .cons g r, es => match es with
    | e :: es => chkG fb N sc g e && chkGs fb N sc r es
    | [] => false
end
def isTup : Expr → Bool
  | .Tuple _ _ _ => true
  | _ => false
/-- a comprehension's own names -/
def ownOf (N : List Str) (own : List Nat) : List (Str × Nat) := own.map fun i => ((N[i]?).getD "", i)
/-- as a test -/
def tOk (e : E) (x : Expr) : Bool := (match e with | .cmp _ _ _ => true | .chn _ _ _ _ _ => true | .isN _ _ => true | .isB _ _ _ => true | .inn _ _ _ => true | .and _ => true | .or _ => true | .not _ => true | .ite _ _ _ => true | _ => false) || plainT x
mutual
def chkE (G : Glo) (N : List Str) (sc : Scope) : E → Expr → Bool
  | .var i, e => match e with
    | .Name x _ => nameC N sc i x
    | _ => false
  | .glb x d, e => match e with
    | .Name y _ => (y == x) && isGlb sc x && okN x && flat d && (match G.consts.lookup x with | some d' => beqD d' d | none => false)
    | _ => false
  | .non, e => match e with
    | .Constant .none _ _ => true
    | _ => false
  | .bl b, e => match e with
    | .Constant (.bool c) _ _ => b == c
    | _ => false
  | .int i, e => match e with
    | .Constant (.int j) _ _ => i == j
    | _ => false
  | .str s, e => match e with
    | .Constant (.str x) _ _ => (x == tS s) && okT s
    | _ => false
  | .bop o a b, e => match e with
    | .BinOp x op y _ => o.isOp op && chkA G N sc a x && chkA G N sc b y
    | _ => false
  | .cmp c a b, e => match e with
    | .Compare x [op] [y] _ => c.isOp op && chkA G N sc a x && chkA G N sc b y
    | _ => false
  | .chn c d a b z, e => match e with
    | .Compare x [op, op'] [y, w] _ => c.isOp op && d.isOp op' && noSet w && chkE G N sc a x && chkE G N sc b y && chkE G N sc z w
    | _ => false
  | .isN neg a, e => match e with
    | .Compare x [op] [.Constant .none _ _] _ => isNOp neg op && chkE G N sc a x
    | _ => false
  | .inn neg a b, e => match e with
    | .Compare x [op] [y] _ => isInOp neg op && noSet y && chkE G N sc a x && chkA G N sc b y
    | _ => false
  | .and es, e => match e with
    | .BoolOp .And xs _ => chkB G N sc es xs
    | _ => false
  | .or es, e => match e with
    | .BoolOp .Or xs _ => chkB G N sc es xs
    | _ => false
  | .not a, e => match e with
    | .UnaryOp .Not x _ => tOk a x && chkE G N sc a x
    | _ => false
  | .ite t a b, e => match e with
    | .IfExp x y z _ => tOk t x && tOk a y && tOk b z && chkE G N sc t x && chkE G N sc a y && chkE G N sc b z
    | _ => false
  | .tup es, e => match e with
    | .Tuple xs _ _ => chkEs G N sc es xs && decide (es.len ≤ 1000)
    | _ => false
  | .idx a i, e => match e with
    | .Subscript x y _ => plainIx y && chkA G N sc a x && chkE G N sc i y
    | _ => false
  | .slc a lo hi, e => match e with
    | .Subscript x (.Slice l h none _) _ => chkA G N sc a x && chkO G N sc lo l && chkO G N sc hi h
    | _ => false
  | .u1 o a, e => match o with
    | .neg => match e with
      | .UnaryOp .USub x _ => chkA G N sc a x
      | _ => false
    | .rev => match e with
      | .Subscript x (.Slice none none (some (.UnaryOp .USub (.Constant (.int i) _ _) _)) _) _ => (i == 1) && chkA G N sc a x
      | _ => false
    | o => match e with
      | .Call (.Name x _) [y] [] _ => bltC G sc x o.nm && noStar y && chkA G N sc a y
      | _ => false
  | .u2 o a b, e => match e with
    | .Call (.Name x _) [y, z] [] _ => bltC G sc x o.nm && noStar y && noStar z && chkA G N sc a y && chkA G N sc b z
    | _ => false
  | .jn a b, e => match e with
    | .Call (.Attribute o m apos) [y] [] cpos => (m == ("join" : Str)) && (apos.endLine == cpos.line) && noSuper o && noStar y && chkE G N sc a o && chkA G N sc b y
    | _ => false
  | .sm o a es, e => match e with
    | .Call (.Attribute x m apos) (y :: ys) [] cpos => (m == o.nm) && (apos.endLine == cpos.line) && noSuper x && (y :: ys).all noStar && decide ((y :: ys).length < 30) && chkE G N sc a x && chkEs G N sc es (y :: ys)
    | _ => false
  | .orS a b, e => match e with
    | .BoolOp .Or [x, y] _ => chkE G N sc a x && chkE G N sc b y
    | _ => false
  | .upp a, e => match e with
    | .Call (.Attribute o m apos) [] [] cpos => (m == ("upper" : Str)) && (apos.endLine == cpos.line) && noSuper o && chkE G N sc a o
    | _ => false
  | .rep a y z, e => match e with
    | .Call (.Attribute o m apos) [.Constant (.str y') _ _, .Constant (.str z') _ _] [] cpos => (m == ("replace" : Str)) && (apos.endLine == cpos.line) && noSuper o && tokE o && (y' == tS y) && (z' == tS z) && !(y' == z') && chkE G N sc a o
    | _ => false
  | .isB neg b a, e => match e with
    | .Compare x [op] [.Constant (.bool c) _ _] _ => isNOp neg op && (c == b) && chkE G N sc a x
    | _ => false
  | .cnt a b, e => match e with
    | .Call (.Attribute o m apos) [y] [] cpos => (m == ("count" : Str)) && (apos.endLine == cpos.line) && noSuper o && noStar y && chkA G N sc a o && chkE G N sc b y
    | _ => false
  | .isi a t, e => match e with
    | .Call (.Name x _) [y, .Name z _] [] _ => bltC G sc x "isinstance" && noStar y && bltC G sc z (Str.ofString t.nm) && chkA G N sc a y
    | _ => false
  | .get a k d, e => match e with
    | .Call (.Attribute o m apos) [y, z] [] cpos => (m == ("get" : Str)) && (apos.endLine == cpos.line) && noSuper o && noStar y && noStar z && chkA G N sc a o && chkE G N sc k y && chkE G N sc d z
    | _ => false
  | .isx a y i, e => match e with
    | .Call (.Name x _) [z, .Name w _] [] _ => bltC G sc x "isinstance" && noStar z && isGlb sc w && okN w && (w == y) && (match G.excs[i]? with | some (w', _) => w' == w | none => false) && chkE G N sc a z
    | _ => false
  | .xcall _ _, _ => false
  | .xarg _ _, _ => false
  | .att o js x, e => match e with
    | .Attribute y m _ => (m == tS x) && noSuper y && (js.all fun j => match G.clss[j]? with | some c => c.flds.contains x | none => false) && chkE G N sc o y
    | _ => false
  | .mth o x jf es, e => match e with
    | .Call (.Attribute y m apos) xs [] cpos => (m == tS x) && (apos.endLine == cpos.line) && noSuper y && xs.all noStar && decide (xs.length < 29) && (jf.all fun p => match G.clss[p.1]? with | some c => c.ms.contains (x, p.2) | none => false) && chkE G N sc o y && chkEs G N sc es xs
    | _ => false
  | .mk y j f es, e => match e with
    | .Call (.Name x _) xs [] _ => (x == y) && G.mkOk && isGlb sc x && okN x && xs.all noStar && decide (xs ≠ []) && (match G.clss[j]? with | some c => (c.name == x) && (c.ini == f) | none => false) && chkEs G N sc es xs
    | _ => false
  | .opop o, e => match e with
    | .Call (.Attribute y m apos) [] [] cpos => (m == ("pop" : Str)) && (apos.endLine == cpos.line) && noSuper y && chkE G N sc o y
    | _ => false
  | .told x t q s w f es, e => match e with
    | .Call (.Name y _) [.Lambda ⟨[], [], none, [], [], none, []⟩ (.Call (.Name fn _) xs [] _) scope _] [] _ => (y == x) && isGlb sc y && okN y && (match G.tab with | some (t', q') => (t' == t) && (q' == q) | none => false) &&
        (match G.told.lookup x with | some (st, N') => toldC G st N' s w | none => false) && LamX.lamSB sc scope && isGlb scope fn && okN fn && xs.all noStar && hasDef G.defs fn f && decide (xs ≠ []) && chkEs G.nt N scope es xs
    | _ => false
  | .call f es, e => match e with
    | .Call (.Name x _) xs [] _ => isGlb sc x && okN x && xs.all noStar && hasDef G.defs x f && chkEs G N sc es xs
    | _ => false
  | .fr f, e => chkF G N sc f e
  | .new f, e => chkF G N sc f e
/-- parts of and, or: at least one -/
def chkB (G : Glo) (N : List Str) (sc : Scope) : Es → List Expr → Bool
  | .nil, _ => false
  | .cons a r, xs => match xs with
    | [] => false
    | x :: xs => tOk a x && chkE G N sc a x && (match r, xs with | .nil, [] => true | _, _ => chkB G N sc r xs)
def chkEs (G : Glo) (N : List Str) (sc : Scope) : Es → List Expr → Bool
  | .nil, xs => match xs with
    | [] => true
    | _ => false
  | .cons a r, xs => match xs with
    | [] => false
    | x :: xs => noStar x && chkE G N sc a x && chkEs G N sc r xs
def chkO (G : Glo) (N : List Str) (sc : Scope) : EO → Option Expr → Bool
  | .no, o => match o with
    | none => true
    | _ => false
  | .so a, o => match o with
    | some x => chkE G N sc a x
    | none => false
def chkA (G : Glo) (N : List Str) (sc : Scope) : A → Expr → Bool
  | .ex a, e => chkE G N sc a e
  | .pk i, e => match e with
    | .Name x _ => nameC N sc i x
    | _ => false
  | .gl x d, e => match e with
    | .Name y _ => (y == x) && isGlb sc x && okN x && (match d with | .tup _ => true | _ => false) && (match G.consts.lookup x with | some d' => beqD d' d | none => false)
    | _ => false
def chkK (G : Glo) (N : List Str) (sc : Scope) : Kvs → List (Option Expr) → List Expr → Bool
  | .nil, ks, vs => match ks, vs with
    | [], [] => true
    | _, _ => false
  | .cons k v r, ks, vs => match ks, vs with
    | some x :: ks, y :: vs => chkE G N sc k x && chkE G N sc v y && chkK G N sc r ks vs
    | _, _ => false
def chkF (G : Glo) (N : List Str) (sc : Scope) : F → Expr → Bool
  | .lst es, e => match e with
    | .List xs _ => chkEs G N sc es xs && decide (es.len ≤ 1000)
    | _ => false
  | .dct t kvs, e => match e with
    | .Dict ks vs _ => match ks with
      | [] => (match vs, kvs with | [], .nil => true | _, _ => false)
      | _ => !t && decide (kvs.len ≤ 15) && decide (ks.length ≤ 15) && chkK G N sc kvs ks vs
    | _ => false
  | .comp own g it ifs elt, e => match e with
    | .ListComp x [⟨tg, iter, cs, as⟩] scope _ => (as == 0) && noSet iter && chkI G N sc it tg iter &&
        (g.sl.all fun i => own.contains i) && blkC N sc scope (ownOf N own) && chkG false N (relS scope sc) g tg && chkIf G.nt N (relS scope sc) ifs cs && chkE G.nt N (relS scope sc) elt x
    | _ => false
  | .compK own g i ifs elt, e => match e with
    | .ListComp x [⟨tg, .Name y _, cs, as⟩] scope _ => (as == 0) && nameC N sc i y &&
        (g.sl.all fun i => own.contains i) && blkC N sc scope (ownOf N own) && chkG false N (relS scope sc) g tg && chkIf G.nt N (relS scope sc) ifs cs && chkE G.nt N (relS scope sc) elt x
    | _ => false
  | .lstof a, e => match e with
    | .Call (.Name x _) [y] [] _ => bltC G sc x "list" && noStar y && chkA G N sc a y
    | _ => false
  | .dctof a, e => match e with
    | .Call (.Name x _) [y] [] _ => bltC G sc x "dict" && noStar y && chkA G N sc a y
    | _ => false
  | .itm a, e => match e with
    | .Call (.Name x _) [.Call (.Attribute o m apos) [] [] cpos] [] _ => bltC G sc x "list" && (m == ("items" : Str)) && (apos.endLine == cpos.line) && noSuper o && chkA G N sc a o
    | _ => false
  | .stp a b, e => match e with
    | .Subscript x (.Slice none none (some y) _) _ => chkA G N sc a x && chkE G N sc b y
    | _ => false
  | .lstT a, e => match e with
    | .Call (.Name x _) [y] [] _ => bltC G sc x "list" && noStar y && chkA G N sc a y
    | _ => false
  | .lrg a, e => match e with
    | .Call (.Name x _) [.Call (.Name y _) [z] [] _] [] _ => bltC G sc x "list" && bltC G sc y "range" && noStar z && chkE G N sc a z
    | _ => false
  | .lrg2 a b, e => match e with
    | .Call (.Name x _) [.Call (.Name y _) [z, w] [] _] [] _ => bltC G sc x "list" && bltC G sc y "range" && noStar z && noStar w && chkE G N sc a z && chkE G N sc b w
    | _ => false
  | .srt a, e => match e with
    | .Call (.Name x _) [y] [] _ => bltC G sc x "sorted" && noStar y && chkA G N sc a y
    | _ => false
  | .srtK a i M t q, e => match e with
    | .Call (.Name x _) [y] [⟨some kw, .Lambda ⟨[], [⟨k, none, _⟩], none, [], [], none, []⟩ (.Tuple [.BinOp (.BinOp (.Name k1 _) .Mult (.Name z _) _) .Mod (.Constant (.int M') _ _) _, .Name k2 _] _ _) scope _, _⟩] _ =>
        bltC G sc x "sorted" && noStar y && (kw == ("key" : Str)) && (k == ("k" : Str)) && (k1 == k) && (k2 == k) && (M' == M) && decide (0 < M) && okN k && okN z && decide (N[i]? = some z) && decide (scope.names.lookup z = some .free) && lamPB sc scope k &&
        (match G.tab with | some (t', q') => (t' == t) && (q' == q) | none => false) && chkE G N sc a y
    | _ => false
  | .bop o a b, e => match e with
    | .BinOp x op y _ => o.isOp op && chkA G N sc a x && chkA G N sc b y
    | _ => false
  | .slc a lo hi, e => match e with
    | .Subscript x (.Slice l h none _) _ => chkA G N sc a x && chkO G N sc lo l && chkO G N sc hi h
    | _ => false
  | .call f es, e => match e with
    | .Call (.Name x _) xs [] _ => isGlb sc x && okN x && xs.all noStar && hasDef G.defs x f && chkEs G N sc es xs
    | _ => false
/-- the tests of a comprehension: none or one -/
def chkIf (G : Glo) (N : List Str) (sc : Scope) : EO → List Expr → Bool
  | .no, cs => match cs with
    | [] => true
    | _ => false
  | .so a, cs => match cs with
    | [c] => tOk a c && chkE G N sc a c
    | _ => false
def chkI (G : Glo) (N : List Str) (sc : Scope) : I → Expr → Expr → Bool
  | .it a, _, e => chkA G N sc a e
  | .rg1 a, _, e => match e with
    | .Call (.Name x _) [y] [] _ => bltC G sc x "range" && noStar y && chkE G N sc a y
    | _ => false
  | .rg2 a b, _, e => match e with
    | .Call (.Name x _) [y, z] [] _ => bltC G sc x "range" && noStar y && noStar z && chkE G N sc a y && chkE G N sc b z
    | _ => false
  | .zipS a b, tg, e => match e with
    | .Call (.Name x _) [y, z] [] _ => bltC G sc x "zip" && isTup tg && noStar y && noStar z && chkE G N sc a y && chkE G N sc b z
    | _ => false
  | .en a, tg, e => match e with
    | .Call (.Name x _) [y] [] _ => bltC G sc x "enumerate" && isTup tg && noStar y && chkA G N sc a y
    | _ => false
  | .enT a, tg, e => match e with
    | .Call (.Name x _) [y] [] _ => bltC G sc x "enumerate" && isTup tg && noStar y && chkA G N sc a y
    | _ => false
  | .zip a b, tg, e => match e with
    | .Call (.Name x _) [y, z] [] _ => bltC G sc x "zip" && isTup tg && noStar y && noStar z && chkA G N sc a y && chkA G N sc b z
    | _ => false
  | .items _, _, _ => false
end

/-! ### what a body stands in -/
structure GlOk (K : PySem.W.Frag) (mg : Str → Option Value) (G : Glo) : Prop where
  flat : ∀ x d, G.consts.lookup x = some d → flat d = true → ∃ u v, mg x = some u ∧ RelV v u ∧ ∀ F θ H, VR K F θ H d v
  tup : ∀ x xs, G.consts.lookup x = some (.tup xs) → ∃ a vs, mg x = some (.ref a) ∧ KTup K a vs ∧ ∀ F θ H, VRs K F θ H xs vs
  blt : ∀ x ∈ G.blts, mg x = none
/-- what holds of an own class -/
structure ClOk (X : Cx) (fr : Fr) (k : Nat) (Φ : Fs) (j : Nat) (c : Cl) (C : Addr) : Prop where
  mg : X.mg c.name = some (.ref C)
  tell : TellC Φ j C
  cls : Cls X.K C
  na : ∀ x ∈ c.flds, NoAttr X.K C (tS x)
  ms : ∀ x f, (x, f) ∈ c.ms → ∃ a fd ps, Meth X.K C (tS x) a ∧ Binds X.K fd ps [] ∧ MFn X.prog X.w X.K X.mg X.base (3 * k) a fd ps (MSp X.K fr.T Φ f)
  ini : ∃ a fd ps, Mk X.K C a ∧ Binds X.K fd ps [] ∧ MFn X.prog X.w X.K X.mg X.base (3 * k) a fd ps (MSp X.K fr.T Φ c.ini)
structure CtxE (X : Cx) (fr : Fr) (G : Glo) (N : List Str) (sc : Scope) (k : Nat) (Φ : Fs) : Prop where
  hN : X.N = N
  nd : N.Nodup
  calm : X.calm = true
  hsc : X.env.scope = sc
  room : Room (3 * k) X.A
  grd : X.A.guards = some []
  hK : fr.K = X.K
  gl : GlOk X.K X.mg G
  df : ∀ x f, hasDef G.defs x f = true → ∃ a fd ps, X.mg x = some (.ref a) ∧ PySem.W.keepIn X.K (.ref a) = true ∧ Binds X.K fd ps [] ∧ MFn X.prog X.w X.K X.mg X.base (3 * k) a fd ps (MSp X.K fr.T Φ f)
  xc : XcOk X.K X.mg G.excs Φ
  td : ∀ x st N', G.told.lookup x = some (st, N') → ∃ g fd, X.mg x = some (.ref g) ∧ Fun X.K x x st g fd ∧ Binds X.K fd (N'.take 1) []
  tb : ∀ t q, G.tab = some (t, q) → X.env.qual ++ "<lambda>" = tS q ∧ Room (3 * k + 2) X.A ∧ ∃ c P, X.env.code = .ref c ∧ LamX.TabB X.base X.mg c P ∧ fr.T[t]? = some P
  oc : ∀ j c, G.clss[j]? = some c → ∃ C, ClOk X fr k Φ j c C
  r1 : G.mkOk = true → Room (3 * k + 1) X.A
section
variable {X : Cx} {fr : Fr} {G : Glo} {N : List Str} {sc : Scope} {k : Nat} {Φ : Fs}
theorem CtxE.blk (C : CtxE X fr G N sc k Φ) (s : Shared) (H : Hp) (scope : Scope) (cl : List (Str × Addr)) (c : Addr) (fp : List Addr) : CtxE (X.blk s H scope (compEnvC scope cl c X.env) fp) fr G.nt N (relS scope sc) k Φ :=
  ⟨C.hN, C.nd, C.calm, by rw [← C.hsc]; rfl, C.room, C.grd, C.hK, ⟨C.gl.flat, C.gl.tup, C.gl.blt⟩, C.df, C.xc, fun _ _ _ z => (nomatch z), fun _ _ z => (nomatch z), fun j c h => let ⟨D, z⟩ := C.oc j c h; ⟨D, z.mg, z.tell, z.cls, z.na, z.ms, z.ini⟩, fun z => (nomatch z)⟩
theorem CtxE.gl_of (C : CtxE X fr G N sc k Φ) {x : Str} (h : isGlb sc x = true) : Gl X x := by
  show X.env.scope.names.lookup x = _
  rw [C.hsc]
  exact isGlb_of h
theorem CtxE.blt_of (C : CtxE X fr G N sc k Φ) {x y : Str} (h : bltC G sc x y = true) : x = y ∧ Gl X y ∧ X.mg y = none := by
  unfold bltC at h
  simp only [Bool.and_eq_true, beq_iff_eq, List.contains_iff_mem] at h
  exact ⟨h.1.1, C.gl_of h.2, C.gl.blt y h.1.2⟩
theorem CtxE.rm (C : CtxE X fr G N sc k Φ) : Room (3 * k) X.A := C.room
theorem CtxE.hu (C : CtxE X fr G N sc k Φ) : X.A.units + 66 < cLine := by have := C.room.un; omega
theorem CtxE.var (C : CtxE X fr G N sc k Φ) {i : Nat} {x : Str} {pos : Pos} (h : nameC N sc i x = true) : PE X (.Name x pos) (tVar i) := by
  unfold nameC at h
  simp only [Bool.and_eq_true, decide_eq_true_eq] at h
  exact pe_var (by rw [C.hN]; exact h.1.1) (by rw [C.hsc]; exact vis_of h.1.2) (okN_d h.2) (okN_c h.2)
end
end Mp

set_option linter.all false
set_option autoImplicit false
set_option maxRecDepth 100000
set_option maxHeartbeats 2000000
/-! Mp17: expressions keep what the evaluator tells. -/
namespace Mp
open PySem PySem.Spec PyProof.Rows L2

section
variable {X : Cx} {fr : Fr} {G : Glo} {N : List Str} {sc : Scope} {k : Nat} {Φ : Fs}
theorem tE_var {i : Nat} {σ : L2.St} {H : Hp} {Q : VK} (h : tE fr (evE Φ (.var i)) σ H Q) : tVar i σ H Q := by
  obtain ⟨F, θ, env, mem, d, mem', s, e, q⟩ := h
  simp only [evE] at e
  split at e
  · rename_i d' hd
    cases e
    obtain ⟨v, h1, h2⟩ := s.sl.val i _ hd
    exact ⟨v, h1, q θ v H .refl s.ms h2⟩
  · cases e
theorem tA_pk {i : Nat} {σ : L2.St} {H : Hp} {Q : VK} (h : tA fr (evA Φ (.pk i)) σ H Q) : tVar i σ H Q := by
  obtain ⟨F, θ, env, mem, d, mem', s, e, q⟩ := h
  simp only [evA] at e
  split at e
  · rename_i d' hd
    cases e
    obtain ⟨v, h1, h2⟩ := s.sl.val i _ hd
    exact ⟨v, h1, q θ v H .refl s.ms (.inl h2)⟩
  · rename_i d' hd
    cases e
    obtain ⟨a, o, h1, h2, h3, h4, h5⟩ := s.sl.own i _ hd
    exact ⟨.ref a, h1, q θ _ H .refl s.ms (.inr (.inl ⟨a, o, rfl, h2, h3, h4⟩))⟩
  · cases e
theorem tAb_pk {i : Nat} {σ : L2.St} {H : Hp} {Q : VK} (h : tAb fr true (evA Φ (.pk i)) σ H Q) : tVar i σ H Q := by
  obtain ⟨F, θ, env, mem, d, mem', s, e, q⟩ := h
  exact tA_pk (fr := fr) (Φ := Φ) ⟨F, θ, env, mem, d, mem', s, e, fun θ' v H' t m r => q θ' v H' t m ⟨r, fun z => nomatch z⟩⟩
theorem tC_of {d : D} {v : V} {σ : L2.St} {H : Hp} {Q : VK} {ev : Env → Mem → R D} (he : ∀ env m, ev env m = .ok d m) (hr : ∀ F θ H, VR fr.K F θ H d v) (h : tE fr ev σ H Q) : tC v σ H Q := by
  obtain ⟨F, θ, env, mem, d', mem', s, e, q⟩ := h
  rw [he] at e
  cases e
  exact q θ v H .refl s.ms (hr _ _ _)
theorem tA_ex {a : E} {σ : L2.St} {H : Hp} {Q : VK} (h : tA fr (evA Φ (.ex a)) σ H Q) : tE fr (evE Φ a) σ H Q := by
  obtain ⟨F, θ, env, mem, d', mem', s, e, q⟩ := h
  exact ⟨F, θ, env, mem, d', mem', s, e, fun θ' v H' t m r => q θ' v H' t m (.inl r)⟩
theorem tAb_ex {b : Bool} {a : E} {σ : L2.St} {H : Hp} {Q : VK} (h : tAb fr b (evA Φ (.ex a)) σ H Q) : tE fr (evE Φ a) σ H Q := by
  obtain ⟨F, θ, env, mem, d', mem', s, e, q⟩ := h
  exact ⟨F, θ, env, mem, d', mem', s, e, fun θ' v H' t m r => q θ' v H' t m ⟨.inl r, fun _ => .inl r⟩⟩
theorem ptOf {e : Expr} {ev : Env → Mem → R D} (h : PE X e (tE fr ev)) (hp : plainT e = true) : PT X e (tT fr ev) := PT.imp (pt_val h (plain_t hp)) fun _ _ _ q => q.toE
theorem pw_of {ev : Env → Mem → R D} {t : TE} {op : CmpOp} {a b : Expr} {pos : Pos} (h : PT X (.Compare a [op] [b] pos) (tTest t)) (hi : ∀ σ H Q, tE fr ev σ H Q → t σ H Q) : PT X (.Compare a [op] [b] pos) (tT fr ev) :=
  PT.imp h fun _ _ _ q => hi _ _ _ q.toE

theorem pe_u1 (C : CtxE X fr G N sc k Φ) (o : U1) (hn : o ≠ .neg) (hr : o ≠ .rev) {x : Str} {p pos : Pos} {e : Expr} {te : TE} (hb : bltC G sc x o.nm = true) (hs : noStar e = true) (h : PE X e te) :
    PE X (.Call (.Name x p) [e] [] pos) (tCB (rD1 X.K o.run) (tCons te tNil)) := by
  obtain ⟨rfl, hg, hm⟩ := C.blt_of hb
  have hu := C.hu
  cases o with
  | neg => exact absurd rfl hn
  | rev => exact absurd rfl hr
  | minl => exact pe_callB (cMinl C.calm) hg hm PyProof.Rows.boot_min (pa_cons h pa_nil (star1 hs)) (he := star1 hs)
  | len => exact pe_callB cLen hg hm PySem.boot_len (pa_cons h pa_nil (star1 hs)) (he := star1 hs)
  | all => exact pe_callB (cAll C.calm) hg hm PyProof.Rows.boot_all (pa_cons h pa_nil (star1 hs)) (he := star1 hs)
  | any => exact pe_callB (cAny C.calm) hg hm PyProof.Rows.boot_any (pa_cons h pa_nil (star1 hs)) (he := star1 hs)
  | sum => exact pe_callB (cSum C.calm) hg hm PyProof.Rows.boot_sum (pa_cons h pa_nil (star1 hs)) (he := star1 hs)
  | abs => exact pe_callB cAbs hg hm (by decide +kernel) (pa_cons h pa_nil (star1 hs)) (he := star1 hs)
  | int => exact pe_callTy cInt hg hm (by decide +kernel) (pa_cons h pa_nil (star1 hs)) (he := star1 hs)
  | str => exact pe_callTy cStr hg hm (by decide +kernel) (pa_cons h pa_nil (star1 hs)) (he := star1 hs)
  | tup => exact pe_callTy cTup hg hm (by decide +kernel) (pa_cons h pa_nil (star1 hs)) (he := star1 hs)
  | repr => exact pe_callB (cRepr C.grd (by omega)) hg hm (by decide +kernel) (pa_cons h pa_nil (star1 hs)) (he := star1 hs)
theorem oBop (o : Bop) {op : Operator} (h : o.isOp op = true) : OpR X (binaryOp op) (rD2 X.K o.run) := by
  cases o <;> cases op <;> first | cases h | skip
  · exact oAdd
  · exact oSub
  · exact oMul
  · exact oMod
  · exact oFdv
  · exact oPow
end
end Mp

set_option linter.all false
set_option autoImplicit false
set_option maxRecDepth 100000
set_option maxHeartbeats 4000000
/-! Mp18: expressions keep what the evaluator tells: the recursion. -/
namespace Mp
open PySem PySem.Spec PyProof.Rows L2

theorem nomarkC (c : Cmp) (b : Expr) : behindInMarks c.op b = false := by cases c <;> exact nomark b
theorem isNOp_f {op : CmpOp} (h : isNOp false op = true) : op = .Is := by cases op <;> first | rfl | cases h
theorem isNOp_t {op : CmpOp} (h : isNOp true op = true) : op = .IsNot := by cases op <;> first | rfl | cases h
theorem marks2 {op op' : CmpOp} {b c : Expr} (h : noSet c = true) : lastMarks [op, op'] [b, c] = false := no_marks h op'
section
variable {X : Cx} {fr : Fr} {G : Glo} {N : List Str} {sc : Scope} {k : Nat} {Φ : Fs} {fb : Bool}
mutual
theorem assignLen {env : PySem.Env} : ∀ {gs : Gs} {es : List Expr}, chkGs fb N sc gs es = true → (assignEach es env).length = gs.len ∧ (assignEach es env).findIdx? (·.1) = none ∧ ∀ e r, es = e :: r → (assignEach es env).map (·.2) = assign e env :: (assignEach r env).map (·.2)
  | .nil, es, h => by
    simp only [chkGs] at h
    split at h
    · exact ⟨rfl, rfl, fun _ _ e => nomatch e⟩
    · cases h
  | .cons g r, es, h => by
    simp only [chkGs] at h
    split at h
    · rename_i e es
      rw [Bool.and_eq_true] at h
      obtain ⟨h1, h2, _⟩ := assignLen (env := env) h.2
      have ha : assignEach (e :: es) env = (false, assign e env) :: assignEach es env := by
        cases g with
        | nm i => cases e <;> first | rfl | (simp only [chkG] at h; cases h.1)
        | tp gs => cases e <;> first | rfl | (simp only [chkG] at h; cases h.1)
      refine ⟨by rw [ha, List.length_cons, h1]; rfl, ?_, fun e' r' q => ?_⟩
      · rw [ha, List.findIdx?_cons]
        simp only [Bool.false_eq_true, if_false, h2, Option.map_none]
      · cases q
        rw [ha]; rfl
    · cases h
end
theorem loc_of (C : CtxE X fr G N sc k Φ) (hf : fb = true → ∀ x, X.fn x = true) {x : Str} (h : (isLoc sc x || (fb && isCel sc x)) = true) : Loc X.env.scope x ∧ (X.fn x = true ∨ X.env.scope.names.lookup x = some .local) := by
  rw [C.hsc]
  rw [Bool.or_eq_true, Bool.and_eq_true] at h
  rcases h with h | ⟨h1, h2⟩
  · exact ⟨.inl (isLoc_of h), .inr (isLoc_of h)⟩
  · exact ⟨.inr (isCel_of h2), .inl (hf h1 x)⟩
mutual
theorem sndG (C : CtxE X fr G N sc k Φ) (hf : fb = true → ∀ x, X.fn x = true) : ∀ (g : Mp.G) (e : Expr), chkG fb N sc g e = true → PG X e (gG fr g)
  | .nm i, e, h => by
    simp only [chkG] at h
    split at h
    · rw [Bool.and_eq_true, decide_eq_true_eq] at h
      refine PG.imp (pg_name (by rw [C.hN]; exact C.nd) (by rw [C.hN]; exact h.1) (loc_of C hf h.2).1 (loc_of C hf h.2).2) fun v σ H Q q => gNm q
    · cases h
  | .tp gs, e, h => by
    simp only [chkG] at h
    split at h
    · obtain ⟨h1, h2, _⟩ := assignLen (env := X.env) h
      refine PG.imp (pg_tup (t := gGs fr gs) C.calm (sndGs C hf gs _ h) h1 h2) fun v σ H Q q => ?_
      have z := gTp q
      rw [C.hK] at z
      exact z
    · cases h
theorem sndGs (C : CtxE X fr G N sc k Φ) (hf : fb = true → ∀ x, X.fn x = true) : ∀ (gs : Gs) (es : List Expr), chkGs fb N sc gs es = true → PGs X es (gGs fr gs)
  | .nil, es, h => by
    simp only [chkGs] at h
    split at h
    · exact ⟨fun pins s σ H vs us Q I r q => pgs_nil.run pins s σ H vs us Q I r (gNil' q)⟩
    · cases h
  | .cons g r, es, h => by
    have hh := h
    simp only [chkGs] at h
    split at h
    · rename_i e es
      rw [Bool.and_eq_true] at h
      obtain ⟨_, _, h3⟩ := assignLen (env := X.env) hh
      exact ⟨fun pins s σ H vs us Q I rr q => (pgs_cons (sndG C hf g e h.1) (sndGs C hf r es h.2) (h3 _ _ rfl)).run pins s σ H vs us Q I rr (gCons' q)⟩
    · cases h
end
end

section
variable {fr : Fr} {G : Glo} {N : List Str} {k : Nat} {Φ : Fs}
theorem both {X : Cx} {fr : Fr} {a : E} {y : Expr} {ev : Env → Mem → R D} (r : PE X y (tE fr ev)) (hp : plainT y = true) : PE X y (tE fr ev) ∧ (tOk a y = true → PT X y (tT fr ev)) := ⟨r, fun _ => ptOf r hp⟩
theorem told_snd {X : Cx} {G : Glo} {sc scope : Scope} {x fn : Str} {t s w g : Nat} {q : T} {es : Es} {st : Stmt} {N' : List Str} {xs : List Expr} {p lp pos pf pb : Pos} (C : CtxE X fr G N sc k Φ) (htab : G.tab = some (t, q)) (htd : G.told.lookup x = some (st, N')) (h1 : isGlb sc x = true) (h2 : okN x = true)
    (h4 : toldC G st N' s w = true) (L : LamX.LamS sc scope) (body : ∀ (X' : Cx) (_ : CtxE X' fr G.nt N scope k Φ) (E : XK), Passes (L2.CX X'.prog X'.w) X' E → PE X' (.Call (.Name fn pf) xs [] pb) (tCallM (MSp X'.K fr.T Φ g) E (tEs fr (evEs Φ es)))) :
    PE X (.Call (.Name x p) [.Lambda ⟨[], [], none, [], [], none, []⟩ (.Call (.Name fn pf) xs [] pb) scope lp] [] pos) (tE fr (evE Φ (.told x t q s w g es))) := by
  unfold toldC at h4
  split at h4
  · rename_i hbd
    simp only [Bool.and_eq_true, beq_iff_eq, List.all_eq_true] at h4
    obtain ⟨⟨⟨⟨⟨⟨⟨⟨⟨⟨⟨⟨⟨⟨⟨⟨⟨a1, a2⟩, a3⟩, a4⟩, a5⟩, a6⟩, rfl⟩, rfl⟩, rfl⟩, rfl⟩, rfl⟩, rfl⟩, rfl⟩, rfl⟩, rfl⟩, rfl⟩, a7⟩, a8⟩ := h4
    obtain ⟨gA, fd, hm, Fn, hb⟩ := C.td _ _ _ htd
    obtain ⟨hq, hr, c, P, hcode, TB, hT⟩ := C.tb _ _ htab
    split at a7
    · rename_i z hz
      obtain rfl := beq_iff_eq.mp a7
      obtain ⟨u, v, hcs, hu, rv, hv, ht⟩ := C.xc.tst _ _ _ hz
      obtain ⟨CS, rfl, hm'⟩ := hcs rfl
      have hmx : X.mg z = some (.ref CS) := by
        rcases hu with ⟨h, _⟩ | ⟨_, _, _, h⟩
        · exact h
        · cases h
      rcases hasDef_or a8 with a8 | a8
      · obtain ⟨wA, fdw, psw, hmw, hkw, hbw, Fw⟩ := C.df _ _ a8
        refine PE.imp (pe_told (k := 3 * k) (tl := fun E => tCallM (MSp X.K fr.T Φ g) E (tEs fr (evEs Φ es))) (C.gl_of h1) hm Fn (fnScope_of a1) hb (okN_d h2) (fun y hy => ?_) ⟨isGlb_of a3, okN_d a4, hmx⟩ ⟨isGlb_of a5, okN_d a6, hmw⟩ hkw hbw Fw hbd TB hcode hq hr C.grd (by rw [C.hsc]; exact L) rfl (fun _ _ _ _ _ => rfl) fun A outer s H E f c' hr' hg' => ?_) fun σ H Q q => ?_
        · have := a2 y hy
          exact ⟨isLoc_of this.1, okN_d this.2, okN_c this.2⟩
        · have C' : CtxE (LamX.lamCx X A outer s H E scope f c') fr G.nt N scope k Φ := ⟨C.hN, C.nd, rfl, rfl, hr', hg', C.hK, ⟨C.gl.flat, C.gl.tup, C.gl.blt⟩, C.df, C.xc, fun _ _ _ z => (nomatch z), fun _ _ z => (nomatch z), fun j c h => let ⟨D, z⟩ := C.oc j c h; ⟨D, z.mg, z.tell, z.cls, z.na, z.ms, z.ini⟩, fun z => (nomatch z)⟩
          exact body _ C' E (passes_call (takes_of rfl rfl rfl rfl) fun _ _ _ _ z => z)
        · have z := tE.told (u := .ref CS) hT (by rw [C.hK]; exact ht) (by rw [C.hK]; exact hm') q
          rw [C.hK] at z
          exact z
      · cases a8
    · cases a7
  · cases h4
mutual
theorem sndE : ∀ (e : E) {fr : Fr} (G : Glo) (X : Cx) (sc : Scope) (_ : CtxE X fr G N sc k Φ) (x : Expr), chkE G N sc e x = true → PE X x (tE fr (evE Φ e)) ∧ (tOk e x = true → PT X x (tT fr (evE Φ e)))
  | .var i, fr, G, X, sc, C, x, h => by
    simp only [chkE] at h
    split at h
    · have r : ∀ pos, PE X (.Name _ pos) (tE fr (evE Φ (.var i))) := fun pos => PE.imp (C.var (pos := pos) h) fun σ H Q q => tE_var q
      exact ⟨r _, fun _ => ptOf (r _) rfl⟩
    · cases h
  | .glb y d, fr, G, X, sc, C, x, h => by
    simp only [chkE] at h
    split at h
    · simp only [Bool.and_eq_true, beq_iff_eq] at h
      obtain ⟨⟨⟨⟨rfl, h1⟩, h2⟩, h3⟩, h4⟩ := h
      split at h4
      · rename_i d' hd
        obtain rfl := beqD_eq h4
        obtain ⟨u, v, hm, rv, hr⟩ := C.gl.flat _ _ hd h3
        rename_i y _ _
        have r : ∀ pos, PE X (.Name y pos) (tE fr (evE Φ (.glb y d'))) := fun pos => PE.imp (pe_glob (pos := pos) (C.gl_of h1) hm rv (okN_d h2)) fun σ H Q q => tC_of (d := d') (fun _ _ => rfl) (fun F θ H => by rw [C.hK]; exact hr F θ H) q
        exact ⟨r _, fun _ => ptOf (r _) rfl⟩
      · cases h4
    · cases h
  | .non, fr, G, X, sc, C, x, h => by
    simp only [chkE] at h
    split at h
    · refine both ?_ rfl
      exact PE.imp pe_non fun σ H Q q => tC_of (d := .non) (fun _ _ => rfl) (fun _ _ _ => rfl) q
    · cases h
  | .bl b, fr, G, X, sc, C, x, h => by
    simp only [chkE] at h
    split at h
    · obtain rfl := beq_iff_eq.mp h
      refine both ?_ rfl
      exact PE.imp pe_bl fun σ H Q q => tC_of (d := .bl b) (fun _ _ => rfl) (fun _ _ _ => rfl) q
    · cases h
  | .int b, fr, G, X, sc, C, x, h => by
    simp only [chkE] at h
    split at h
    · obtain rfl := beq_iff_eq.mp h
      refine both ?_ rfl
      exact PE.imp pe_int fun σ H Q q => tC_of (d := .int b) (fun _ _ => rfl) (fun _ _ _ => rfl) q
    · cases h
  | .str b, fr, G, X, sc, C, x, h => by
    simp only [chkE] at h
    split at h
    · simp only [Bool.and_eq_true, beq_iff_eq] at h
      obtain ⟨rfl, ok⟩ := h
      refine both ?_ rfl
      exact PE.imp pe_str fun σ H Q q => tC_of (d := .str b) (fun _ _ => rfl) (fun _ _ _ => ⟨rfl, ok⟩) q
    · cases h
  | .bop o a b, fr, G, X, sc, C, x, h => by
    simp only [chkE] at h
    split at h
    · simp only [Bool.and_eq_true] at h
      refine both ?_ rfl
      exact PE.imp (pe_op (oBop o h.1.1) (sndA a _ X sc C _ h.1.2).1 (sndA b _ X sc C _ h.2).1) fun σ H Q q => by
        have z := tE.two (k := o.run) q
        rw [C.hK] at z
        exact z
    · cases h
  | .cmp c a b, fr, G, X, sc, C, x, h => by
    simp only [chkE] at h
    split at h
    · simp only [Bool.and_eq_true] at h
      obtain rfl := Cmp.isOp_eq h.1.1
      have ha := (sndA a _ X sc C _ h.1.2).1
      have hb := (sndA b _ X sc C _ h.2).1
      have hi : ∀ σ H Q, tE fr (evE Φ (.cmp c a b)) σ H Q → tOp (fun x y H Q => ∃ F θ d e b, Cn X.K F θ H d x ∧ Cn X.K F θ H e y ∧ c.run2 d e = some b ∧ Q (.bl b) H) (tA fr (evA Φ a)) (tA fr (evA Φ b)) σ H Q := fun σ H Q q => by
        have z := tE.cmp q
        rw [C.hK] at z
        exact z
      exact ⟨PE.imp (pe_cmpR (oCmp2 C.hu c) ha hb (nomarkC c _)) hi, fun _ => pw_of (pt_cmpR (oCmp2 C.hu c) ha hb (nomarkC c _)) hi⟩
    · cases h
  | .chn c d a b z, fr, G, X, sc, C, x, h => by
    simp only [chkE] at h
    split at h
    · simp only [Bool.and_eq_true] at h
      obtain ⟨⟨⟨⟨⟨h1, h2⟩, h3⟩, h4⟩, h5⟩, h6⟩ := h
      obtain rfl := Cmp.isOp_eq h1
      obtain rfl := Cmp.isOp_eq h2
      have ha := (sndE a _ X sc C _ h4).1
      have hb := (sndE b _ X sc C _ h5).1
      have hz := (sndE z _ X sc C _ h6).1
      have hu := C.hu
      have hi : ∀ σ H Q, tE fr (evE Φ (.chn c d a b z)) σ H Q → tChain (rCmp X.K c) (rCmp X.K d) (tE fr (evE Φ a)) (tE fr (evE Φ b)) (tE fr (evE Φ z)) σ H Q := fun σ H Q q => by
        have z := tE.chn q
        rw [C.hK] at z
        exact z
      exact ⟨PE.imp (pe_chain (oCmp (by omega) c) (oCmp (by omega) d) ha hb hz (marks2 h3)) hi, fun _ => PT.imp (pt_chain (oCmp (by omega) c) (oCmp (by omega) d) ha hb hz (marks2 h3)) fun σ H Q q => hi σ H _ q.toE⟩
    · cases h
  | .isN neg a, fr, G, X, sc, C, x, h => by
    simp only [chkE] at h
    split at h
    · simp only [Bool.and_eq_true] at h
      have ha := (sndE a _ X sc C _ h.2).1
      have h1 := h.1
      rename_i op _ _ _
      cases neg with
      | false =>
        cases op <;> first | cases h1 | skip
        exact ⟨PE.imp (pe_cmp (pc_isN ha) (nomark _)) fun σ H Q q => tE.isN q, fun _ => PT.imp (pt_cmp (pc_isN ha) (nomark _)) fun σ H Q q => tE.isN q.toE⟩
      | true =>
        cases op <;> first | cases h1 | skip
        exact ⟨PE.imp (pe_cmp (pc_notN ha) (nomark _)) fun σ H Q q => tE.isN q, fun _ => PT.imp (pt_cmp (pc_notN ha) (nomark _)) fun σ H Q q => tE.isN q.toE⟩
    · cases h
  | .inn neg a b, fr, G, X, sc, C, x, h => by
    simp only [chkE] at h
    split at h
    · simp only [Bool.and_eq_true] at h
      obtain ⟨⟨⟨h1, h2⟩, h3⟩, h4⟩ := h
      obtain rfl := isInOp_eq h1
      have ha := (sndE a _ X sc C _ h3).1
      have hb := (sndA b _ X sc C _ h4).1
      have hu := C.hu
      have hi : ∀ σ H Q, tE fr (evE Φ (.inn neg a b)) σ H Q → tOp (rInn X.K neg) (tE fr (evE Φ a)) (tA fr (evA Φ b)) σ H Q := fun σ H Q q => by
        have z := tE.inn q
        rw [C.hK] at z
        exact z
      exact ⟨PE.imp (pe_cmpR (oInn (by omega) neg) ha hb (no_marks h2 _)) hi, fun _ => pw_of (pt_cmpR (oInn (by omega) neg) ha hb (no_marks h2 _)) hi⟩
    · cases h
  | .and es, fr, G, X, sc, C, x, h => by
    simp only [chkE] at h
    split at h
    · obtain ⟨h1, h2, _, _⟩ := sndB es _ X sc C _ h
      exact ⟨h1 _, fun _ => (h2 _).pt⟩
    · cases h
  | .or es, fr, G, X, sc, C, x, h => by
    simp only [chkE] at h
    split at h
    · obtain ⟨_, _, h1, h2⟩ := sndB es _ X sc C _ h
      exact ⟨h1 _, fun _ => (h2 _).pt⟩
    · cases h
  | .not a, fr, G, X, sc, C, x, h => by
    simp only [chkE] at h
    split at h
    · rw [Bool.and_eq_true] at h
      obtain ⟨h1, h2⟩ := sndE a _ X sc C _ h.2
      exact ⟨PE.imp (pe_not h1) fun σ H Q q => tE.not q, fun _ => PT.imp (pt_not (h2 h.1)) fun σ H Q q => tT.not q⟩
    · cases h
  | .ite t a b, fr, G, X, sc, C, x, h => by
    simp only [chkE] at h
    split at h
    · simp only [Bool.and_eq_true] at h
      obtain ⟨⟨⟨⟨⟨t1, t2⟩, t3⟩, h1⟩, h2⟩, h3⟩ := h
      have ht := (sndE t _ X sc C _ h1).2 t1
      obtain ⟨a1, a2⟩ := sndE a _ X sc C _ h2
      obtain ⟨b1, b2⟩ := sndE b _ X sc C _ h3
      refine ⟨PE.imp (pe_ifExp ht a1 b1) fun σ H Q q => tE.ite q, fun _ => ⟨fun pins s σ H Q I q => ?_⟩⟩
      show wpAny _ _ (do if ← isTrue _ X.env (eval _ X.env) then isTrue _ X.env (eval _ X.env) else isTrue _ X.env (eval _ X.env)) _ _ _
      refine wpAny_bind (thn (ht.run pins s σ H _ I (tT.ite q)) fun c s1 ⟨H1, I1, q1⟩ => ?_)
      cases c with
      | true => exact (a2 t2).run pins s1 σ H1 Q I1 q1
      | false => exact (b2 t3).run pins s1 σ H1 Q I1 q1
    · cases h
  | .tup es, fr, G, X, sc, C, x, h => by
    simp only [chkE] at h
    split at h
    · rw [Bool.and_eq_true, decide_eq_true_eq] at h
      refine both ?_ rfl
      exact PE.imp (pe_tup (sndEs es _ X sc C _ h.1)) fun σ H Q q => tE.tup h.2 q
    · cases h
  | .idx a i, fr, G, X, sc, C, x, h => by
    simp only [chkE] at h
    split at h
    · simp only [Bool.and_eq_true] at h
      have hu := C.hu
      refine both ?_ rfl
      exact PE.imp (pe_ix (oIdx (by omega)) (sndA a _ X sc C _ h.1.2).1 (sndE i _ X sc C _ h.2).1 (plain_ix h.1.1)) fun σ H Q q => by
        have z := tE.idx q
        rw [C.hK] at z
        exact z
    · cases h
  | .slc a lo hi, fr, G, X, sc, C, x, h => by
    simp only [chkE] at h
    split at h
    · simp only [Bool.and_eq_true] at h
      refine both ?_ rfl
      exact PE.imp (pe_slice oSlc (sndA a _ X sc C _ h.1.1).1 (sndO lo _ X sc C _ h.1.2) (sndO hi _ X sc C _ h.2)) fun σ H Q q => by
        have z := tE.slc q
        rw [C.hK] at z
        exact z
    · cases h
  | .u1 o a, fr, G, X, sc, C, x, h => by
    have fin : (hn : o ≠ .neg) → (hr : o ≠ .rev) → (match (generalizing := false) x with
      | .Call (.Name x _) [y] [] _ => bltC G sc x o.nm && noStar y && chkA G N sc a y
      | _ => false) = true → PE X x (tE fr (evE Φ (.u1 o a))) ∧ (tOk (.u1 o a) x = true → PT X x (tT fr (evE Φ (.u1 o a)))) := fun hn hr h => by
      split at h
      · simp only [Bool.and_eq_true] at h
        refine both ?_ rfl
        exact PE.imp (pe_u1 C o hn hr h.1.1 h.1.2 (sndA a _ X sc C _ h.2).1) fun σ H Q q => by
          have z := tE.one (k := o.run) q
          obtain ⟨F, θ, env, mem, d, mem', s, e, q⟩ := z
          refine ⟨F, θ, env, mem, d, mem', s, e, fun θ' v H' t m r => ?_⟩
          obtain ⟨F, θ, d, r, h1, h2, h3⟩ := q θ' v H' t m r
          rw [C.hK] at h1 h3
          exact ⟨v, F, θ, d, r, rfl, h1, h2, h3⟩
      · cases h
    cases o with
    | neg =>
      simp only [chkE] at h
      split at h
      · refine both ?_ rfl
        exact PE.imp (pe_un un_neg (sndA a _ X sc C _ h).1) fun σ H Q q => by
          have z := tE.one (k := negD) q
          obtain ⟨F, θ, env, mem, d, mem', s, e, q⟩ := z
          refine ⟨F, θ, env, mem, d, mem', s, e, fun θ' v H' t m r => ?_⟩
          obtain ⟨F, θ, d, r, h1, h2, h3⟩ := q θ' v H' t m r
          cases d with
          | int i =>
            cases h2
            exact ⟨i, h1, h3 _ _ ⟨rfl, rfl⟩⟩
          | _ => cases h2
      · cases h
    | rev =>
      simp only [chkE] at h
      split at h
      · simp only [Bool.and_eq_true, beq_iff_eq] at h
        obtain ⟨rfl, h⟩ := h
        refine both ?_ rfl
        exact PE.imp (peRev (sndA a _ X sc C _ h).1) fun σ H Q q => by
          have z := tE.one (k := revD) q
          rw [C.hK] at z
          exact z
      · cases h
    | minl => exact fin (fun z => nomatch z) (fun z => nomatch z) h
    | len => exact fin (fun z => nomatch z) (fun z => nomatch z) h
    | all => exact fin (fun z => nomatch z) (fun z => nomatch z) h
    | any => exact fin (fun z => nomatch z) (fun z => nomatch z) h
    | sum => exact fin (fun z => nomatch z) (fun z => nomatch z) h
    | abs => exact fin (fun z => nomatch z) (fun z => nomatch z) h
    | int => exact fin (fun z => nomatch z) (fun z => nomatch z) h
    | str => exact fin (fun z => nomatch z) (fun z => nomatch z) h
    | tup => exact fin (fun z => nomatch z) (fun z => nomatch z) h
    | repr => exact fin (fun z => nomatch z) (fun z => nomatch z) h
  | .u2 o a b, fr, G, X, sc, C, x, h => by
    simp only [chkE] at h
    split at h
    · simp only [Bool.and_eq_true] at h
      obtain ⟨⟨⟨⟨h1, h2⟩, h3⟩, h4⟩, h5⟩ := h
      obtain ⟨rfl, hg, hm⟩ := C.blt_of h1
      have pa := pa_cons (sndA a _ X sc C _ h4).1 (pa_cons (sndA b _ X sc C _ h5).1 pa_nil (star1 h3)) (star1 h2)
      have hpl : ∀ pos, (backTo pos (starEach [_] X.env)).any (·.1) = false := fun pos => starAll (pos := pos) (by rw [List.all_cons, h3]; rfl)
      have im : ∀ σ H Q, tE fr (evE Φ (.u2 o a b)) σ H Q → tCB (rDD X.K o.run) (tCons (tA fr (evA Φ a)) (tCons (tA fr (evA Φ b)) tNil)) σ H Q := fun σ H Q q => by
        have z := tE.two (k := o.run) q
        obtain ⟨F, θ, env, mem, d, mem', s, e, q⟩ := z
        refine ⟨F, θ, env, mem, d, mem', s, e, fun θ' v H' t m r => ?_⟩
        obtain ⟨F, θ, env, mem, d, mem', s, e, q⟩ := q θ' v H' t m r
        refine ⟨F, θ, env, mem, d, mem', s, e, fun θ' u H' t m r => ?_⟩
        have z := q θ' u H' t m r
        rw [C.hK] at z
        exact ⟨v, u, rfl, z⟩
      refine both ?_ rfl
      exact by
        cases o with
        | min => exact PE.imp (pe_callB (cMin C.calm) hg hm PyProof.Rows.boot_min pa (by decide) (by decide) (star1 h2) (hpl _)) im
        | max => exact PE.imp (pe_callB (cMax C.calm) hg hm PyProof.Rows.boot_max pa (by decide) (by decide) (star1 h2) (hpl _)) im
    · cases h
  | .jn a b, fr, G, X, sc, C, x, h => by
    simp only [chkE] at h
    split at h
    · simp only [Bool.and_eq_true] at h
      obtain ⟨⟨⟨⟨⟨h1, h2⟩, h3⟩, h4⟩, h5⟩, h6⟩ := h
      obtain rfl := beq_iff_eq.mp h1
      refine both ?_ rfl
      exact PE.imp (pe_bm PySem.F.plainAttrs_str PySem.F.slot_str_join PySem.F.type_str_join mJoin (sndE a _ X sc C _ h5).1 (pa_cons (sndA b _ X sc C _ h6).1 pa_nil (star1 h4)) (attr_base h3) (by rw [star1 h4]; rfl) h2 (star1 h4) rfl) fun σ H Q q => by
        have z := tE.jn q
        rw [C.hK] at z
        exact z
    · cases h
  | .sm o a es, fr, G, X, sc, C, x, h => by
    simp only [chkE] at h
    split at h
    · simp only [Bool.and_eq_true, decide_eq_true_eq] at h
      obtain ⟨⟨⟨⟨⟨⟨h1, h2⟩, h3⟩, h4⟩, h5⟩, h6⟩, h7⟩ := h
      obtain rfl := beq_iff_eq.mp h1
      have hst := h4
      simp only [List.all_cons, Bool.and_eq_true] at hst
      refine both ?_ rfl
      have im : ∀ σ H Q, tE fr (evE Φ (.sm o a es)) σ H Q → tBM X.K "str" (rSm X.K o) (tE fr (evE Φ a)) (tEs fr (evEs Φ es)) σ H Q := fun σ H Q q => by
        have z := tE.sm q
        rw [C.hK] at z
        exact z
      have pa := sndEs es _ X sc C _ h7
      cases o with
      | split => exact PE.imp (pe_bm PySem.F.plainAttrs_str PySem.F.slot_str_split PySem.F.type_str_split (mSm .split) (sndE a _ X sc C _ h6).1 pa (attr_base h3) (by rw [few h4]; refine (by simpa using ⟨fun _ _ z => (List.not_mem_nil z).elim, h5⟩)) h2 (star1 hst.1) (starAll hst.2)) im
      | index => exact PE.imp (pe_bm PySem.F.plainAttrs_str PySem.F.slot_str_index PySem.F.type_str_index (mSm .index) (sndE a _ X sc C _ h6).1 pa (attr_base h3) (by rw [few h4]; refine (by simpa using ⟨fun _ _ z => (List.not_mem_nil z).elim, h5⟩)) h2 (star1 hst.1) (starAll hst.2)) im
    · cases h
  | .orS a b, fr, G, X, sc, C, x, h => by
    simp only [chkE] at h
    split at h
    · simp only [Bool.and_eq_true] at h
      obtain ⟨h1, h2⟩ := h
      rename_i x1 y1 p1
      have r : PE X (.BoolOp .Or [x1, y1] p1) (tE fr (evE Φ (.orS a b))) := PE.imp (pe_orS (sndE a _ X sc C _ h1).1 (sndE b _ X sc C _ h2).1) fun σ H Q q => tE.orS q
      exact ⟨r, fun t => ptOf r t⟩
    · cases h
  | .upp a, fr, G, X, sc, C, x, h => by
    simp only [chkE] at h
    split at h
    · simp only [Bool.and_eq_true] at h
      obtain ⟨⟨⟨h1, h2⟩, h3⟩, h4⟩ := h
      obtain rfl := beq_iff_eq.mp h1
      refine both ?_ rfl
      exact PE.imp (pe_bm0 PySem.F.plainAttrs_str PySem.F.slot_str_upper PySem.F.type_str_upper mt_upper (sndE a _ X sc C _ h4).1 (attr_base h3) h2) fun σ H Q q => tE.upp q
    · cases h
  | .rep a y z, fr, G, X, sc, C, x, h => by
    simp only [chkE] at h
    split at h
    · simp only [Bool.and_eq_true, Bool.not_eq_true'] at h
      obtain ⟨⟨⟨⟨⟨⟨⟨h1, h2⟩, h3⟩, h4⟩, h5⟩, h6⟩, h7⟩, h8⟩ := h
      obtain rfl := beq_iff_eq.mp h1
      obtain rfl := beq_iff_eq.mp h5
      obtain rfl := beq_iff_eq.mp h6
      refine both ?_ rfl
      exact PE.imp (peRep (sndE a _ X sc C _ h8).1 h4 h7 (attr_base h3) h2) fun σ H Q q => tE.rep q
    · cases h
  | .isB neg b a, fr, G, X, sc, C, x, h => by
    simp only [chkE] at h
    split at h
    · simp only [Bool.and_eq_true] at h
      obtain ⟨⟨h1, h2⟩, h3⟩ := h
      obtain rfl := beq_iff_eq.mp h2
      have ha := (sndE a _ X sc C _ h3).1
      cases neg with
      | false =>
        obtain rfl := isNOp_f h1
        exact ⟨PE.imp (pe_cmpR op_isBl ha pe_bl (nomark _)) fun σ H Q q => tE.isB q, fun _ => pw_of (pt_cmpR op_isBl ha pe_bl (nomark _)) fun σ H Q q => tE.isB q⟩
      | true =>
        obtain rfl := isNOp_t h1
        exact ⟨PE.imp (pe_cmpR op_notBl ha pe_bl (nomark _)) fun σ H Q q => tE.isB q, fun _ => pw_of (pt_cmpR op_notBl ha pe_bl (nomark _)) fun σ H Q q => tE.isB q⟩
    · cases h
  | .cnt a b, fr, G, X, sc, C, x, h => by
    simp only [chkE] at h
    split at h
    · simp only [Bool.and_eq_true] at h
      obtain ⟨⟨⟨⟨⟨h1, h2⟩, h3⟩, h4⟩, h5⟩, h6⟩ := h
      obtain rfl := beq_iff_eq.mp h1
      refine both ?_ rfl
      exact PE.imp (pe_bm PySem.F.plainAttrs_list PySem.F.slot_list_count PySem.F.type_list_count mt_lcount (sndA a _ X sc C _ h5).1 (pa_cons (sndE b _ X sc C _ h6).1 pa_nil (star1 h4)) (attr_base h3) (by rw [star1 h4]; rfl) h2 (star1 h4) rfl) fun σ H Q q => by
        have z := tE.cnt q
        rw [C.hK] at z
        exact z
    · cases h
  | .isi a t, fr, G, X, sc, C, x, h => by
    simp only [chkE] at h
    split at h
    · simp only [Bool.and_eq_true] at h
      obtain ⟨⟨⟨h1, h2⟩, h3⟩, h4⟩ := h
      obtain ⟨rfl, hg, hm⟩ := C.blt_of h1
      obtain ⟨rfl, hg2, hm2⟩ := C.blt_of h3
      have pt : ∀ p, PE X (.Name (Str.ofString t.nm) p) (tC (.ty t.nm)) := fun p => by
        cases t <;> exact pe_bltn hg2 hm2 (by decide +kernel) rfl (by decide) (by decide)
      refine both ?_ rfl
      exact PE.imp (pe_callB (cIsi t) hg hm (by decide +kernel) (pa_cons (sndA a _ X sc C _ h4).1 (pa_cons (pt _) pa_nil (star1 rfl)) (star1 h2)) (by decide) (by decide) (star1 h2) rfl) fun σ H Q q => by
        have z := tE.isi q
        rw [C.hK] at z
        exact z
    · cases h
  | .get a y d, fr, G, X, sc, C, x, h => by
    simp only [chkE] at h
    split at h
    · simp only [Bool.and_eq_true] at h
      obtain ⟨⟨⟨⟨⟨⟨⟨h1, h2⟩, h3⟩, h4⟩, h5⟩, h6⟩, h7⟩, h8⟩ := h
      obtain rfl := beq_iff_eq.mp h1
      have hu := C.hu
      refine both ?_ rfl
      exact PE.imp (pe_dget2 (by omega) (sndA a _ X sc C _ h6).1 (sndE y _ X sc C _ h7).1 (sndE d _ X sc C _ h8).1 ⟨attr_base h3, by rw [star1 h4, star1 h5]; rfl, h2, by rw [star1 h4, star1 h5]; rfl⟩) fun σ H Q q => tE.get q
    · cases h
  | .isx a y i, fr, G, X, sc, C, x, h => by
    simp only [chkE] at h
    split at h
    · simp only [Bool.and_eq_true, beq_iff_eq] at h
      obtain ⟨⟨⟨⟨⟨⟨h1, h2⟩, h3⟩, h4⟩, rfl⟩, h6⟩, h7⟩ := h
      obtain ⟨rfl, hg, hm⟩ := C.blt_of h1
      split at h6
      · rename_i w' o hx
        obtain rfl := beq_iff_eq.mp h6
        obtain ⟨u, v, _, hu, rv, hv, ht⟩ := C.xc.tst _ _ _ hx
        have pt : ∀ p, PE X (.Name w' p) (tC v) := fun p => by
          rcases hu with ⟨q, _⟩ | ⟨q, qb, qn, _⟩
          · exact pe_glob (C.gl_of h3) q rv (okN_d h4)
          · exact pe_bltn (C.gl_of h3) q qb rv qn (okN_d h4)
        refine both ?_ rfl
        exact PE.imp (pe_callB cIsx hg hm (by decide +kernel) (pa_cons (sndE a _ X sc C _ h7).1 (pa_cons (pt _) pa_nil (star1 rfl)) (star1 h2)) (by decide) (by decide) (star1 h2) rfl) fun σ H Q q => by
          have z := tE.isx (mg := X.mg) hv (by rw [C.hK]; exact ht) q
          rw [C.hK] at z
          exact z
      · cases h6
    · cases h
  | .xcall _ _, fr, G, X, sc, C, x, h => by simp only [chkE] at h; cases h
  | .xarg _ _, fr, G, X, sc, C, x, h => by simp only [chkE] at h; cases h
  | .att o js x, fr, G, X, sc, C, e, h => by
    simp only [chkE] at h
    split at h
    · simp only [Bool.and_eq_true, beq_iff_eq] at h
      obtain ⟨⟨⟨rfl, h2⟩, h3⟩, h4⟩ := h
      refine both ?_ rfl
      refine PE.imp (pe_fld (sndE o _ X sc C _ h4).1 (attr_base h2)) fun σ H Q q => ?_
      have z := tE.att (fun j hj => by
        have hc := List.all_eq_true.mp h3 j hj
        split at hc
        · rename_i c hjc
          obtain ⟨D, K⟩ := C.oc j c hjc
          exact ⟨D, K.tell, by rw [C.hK]; exact K.cls, by rw [C.hK]; exact K.na x (by simpa using hc)⟩
        · cases hc) q
      rw [C.hK] at z
      exact z
    · cases h
  | .mth o x jf es, fr, G, X, sc, C, e, h => by
    simp only [chkE] at h
    split at h
    · rename_i y m apos xs cpos
      simp only [Bool.and_eq_true, beq_iff_eq, decide_eq_true_eq] at h
      obtain ⟨⟨⟨⟨⟨⟨⟨rfl, h1⟩, h2⟩, h3⟩, h4⟩, h5⟩, h6⟩, h7⟩ := h
      refine both ?_ rfl
      have he := (sndE o _ X sc C _ h6).1
      have pa := sndEs es _ X sc C _ h7
      have cand : ∀ p ∈ jf, ∃ c D, ClOk X fr k Φ p.1 c D ∧ (x, p.2) ∈ c.ms := fun p hp => by
        have hc := List.all_eq_true.mp h5 p hp
        split at hc
        · rename_i c hjc
          obtain ⟨D, K⟩ := C.oc _ c hjc
          exact ⟨c, D, K, by simpa using hc⟩
        · cases hc
      have hl : (apos.endLine == cpos.line) = true := beq_iff_eq.mpr h1
      have form : methodCallForm (xs.length + ([] : List Keyword).length) (backTo cpos (starEach xs X.env)) (backToKw cpos (keywordEach [] X.env)) = true := by
        unfold methodCallForm
        rw [few h3]
        simp [backToKw, keywordEach]
        omega
      refine ⟨fun pins s σ H Q I q => ?_⟩
      obtain ⟨p, hp, z⟩ := tE.mth (E := noE) (fun p hp => let ⟨_, D, K, _⟩ := cand p hp; ⟨D, K.tell⟩) q
      obtain ⟨c, D, K, hm⟩ := cand p hp
      have z := z D K.tell
      rw [C.hK] at z
      obtain ⟨a, fd, ps, hM, hb, F⟩ := K.ms x p.2 hm
      cases xs with
      | nil =>
        cases es with
        | nil =>
          refine (pe_methM0 he K.cls hM F C.rm C.grd hb pass_no (meth_ht (attr_base h2) form hl)).run pins s σ H Q I ?_
          obtain ⟨F0, θ, env, mem, d, mem', s0, e0, q0⟩ := z
          refine ⟨F0, θ, env, mem, d, mem', s0, e0, fun θ1 v H1 t1 ms1 r1 => ?_⟩
          obtain ⟨b, dx, fs, g1, g2, g3, F2, θ2, env2, mem2, d2, mem3, s2, e2, q2⟩ := q0 θ1 v H1 t1 ms1 r1
          cases e2
          exact ⟨b, dx, fs, g1, g2, g3, q2 θ2 [] H1 .refl s2.ms rfl⟩
        | cons a r => simp only [chkEs] at h7; cases h7
      | cons w ws =>
        simp only [List.all_cons, Bool.and_eq_true] at h3
        exact (pe_methM he K.cls hM F C.rm C.grd hb pass_no pa (star1 h3.1) (starAll h3.2) (meth_ht (attr_base h2) form hl)).run pins s σ H Q I z
    · cases h
  | .mk y j f es, fr, G, X, sc, C, e, h => by
    simp only [chkE] at h
    split at h
    · rename_i x p xs pos
      simp only [Bool.and_eq_true, beq_iff_eq, decide_eq_true_eq] at h
      obtain ⟨⟨⟨⟨⟨⟨⟨rfl, h1⟩, h2⟩, h3⟩, h4⟩, h5⟩, h6⟩, h7⟩ := h
      split at h6
      · rename_i c hjc
        simp only [Bool.and_eq_true, beq_iff_eq] at h6
        obtain ⟨rfl, rfl⟩ := h6
        obtain ⟨D, K⟩ := C.oc _ c hjc
        obtain ⟨a, fd, ps, hM, hb, F⟩ := K.ini
        refine both ?_ rfl
        cases xs with
        | nil => exact absurd rfl h5
        | cons w ws =>
          simp only [List.all_cons, Bool.and_eq_true] at h4
          refine PE.imp (pe_makeM hM F (C.r1 h1) C.grd (C.gl_of h2) K.mg hb pass_no (sndEs es _ X sc C _ h7) (okN_d h3) (star1 h4.1) (starAll h4.2)) fun σ H Q q => ?_
          have z := tE.mk (E := noE) K.tell q
          rw [C.hK] at z
          exact z
      · cases h6
    · cases h
  | .opop o, fr, G, X, sc, C, e, h => by
    simp only [chkE] at h
    split at h
    · simp only [Bool.and_eq_true, beq_iff_eq] at h
      obtain ⟨⟨⟨rfl, h1⟩, h2⟩, h3⟩ := h
      refine both ?_ rfl
      refine PE.imp (pe_bm0 PySem.F.plainAttrs_list PySem.F.slot_list_pop PySem.F.type_list_pop mt_pop (sndE o _ X sc C _ h3).1 (attr_base h2) (beq_iff_eq.mpr h1)) fun σ H Q q => ?_
      have z := tE.opop q
      rw [C.hK] at z
      exact z
    · cases h
  | .told x t q s w f es, fr, G, X, sc, C, e, h => by
    simp only [chkE] at h
    split at h
    · rename_i y py fn pf xs pb scope lp pos
      simp only [Bool.and_eq_true, beq_iff_eq, decide_eq_true_eq] at h
      obtain ⟨⟨⟨⟨⟨⟨⟨⟨⟨⟨⟨rfl, h1⟩, h2⟩, h3⟩, h4⟩, h5⟩, h6⟩, h7⟩, h8⟩, h9⟩, h10⟩, h11⟩ := h
      split at h3
      · rename_i t' q' htab
        simp only [Bool.and_eq_true, beq_iff_eq] at h3
        obtain ⟨rfl, rfl⟩ := h3
        split at h4
        · rename_i st N' htd
          rcases hasDef_or h9 with hdf | h9
          · refine both ?_ rfl
            exact told_snd C htab htd h1 h2 h4 (LamX.lamS_by h5) fun X' C' E hx => by
              obtain ⟨c, fd, ps, hm, hk, hb, F⟩ := C'.df _ _ hdf
              cases xs with
              | nil => exact absurd rfl h10
              | cons z zs =>
                simp only [List.all_cons, Bool.and_eq_true] at h8
                exact pe_callM F C'.rm C'.grd (C'.gl_of h6) hm hk hb hx (sndEs es _ X' scope C' _ h11) (okN_d h7) (star1 h8.1) (starAll h8.2)
          · cases h9
        · cases h4
      · cases h3
    · cases h
  | .call f es, fr, G, X, sc, C, x, h => by
    simp only [chkE] at h
    split at h
    · simp only [Bool.and_eq_true] at h
      obtain ⟨⟨⟨⟨h1, h2⟩, h3⟩, h4⟩, h5⟩ := h
      rcases hasDef_or h4 with hd | h4
      · obtain ⟨g, rfl⟩ : ∃ g, g = f := ⟨f, rfl⟩
        obtain ⟨c, fd, ps, hm, hk, hb, F⟩ := C.df _ _ hd
        have pa := sndEs es _ X sc C _ h5
        have im : ∀ σ H Q, tE fr (evE Φ (.call g es)) σ H Q → tCallM (MSp X.K fr.T Φ g) noE (tEs fr (evEs Φ es)) σ H Q := fun σ H Q q => by
          have z := tE.call (E := noE) q
          rw [C.hK] at z
          exact z
        refine both ?_ rfl
        exact by
          rename_i xs _
          cases xs with
          | nil =>
            cases es with
            | nil =>
              refine PE.imp (pe_callM0 F C.rm C.grd (C.gl_of h1) hm hk hb pass_no (okN_d h2)) fun σ H Q q => ?_
              obtain ⟨F, θ, env, mem, d, mem', s, e, q⟩ := im σ H Q q
              cases e
              exact q θ [] H .refl s.ms rfl
            | cons a r => simp only [chkEs] at h5; cases h5
          | cons x xs =>
            simp only [List.all_cons, Bool.and_eq_true] at h3
            exact PE.imp (pe_callM F C.rm C.grd (C.gl_of h1) hm hk hb pass_no pa (okN_d h2) (star1 h3.1) (starAll h3.2)) im
      · cases h4
    · cases h
  | .fr f, fr, G, X, sc, C, x, h => by
    simp only [chkE] at h
    have r : PE X x (tE fr (evE Φ (.fr f))) := PE.imp (sndF f _ X sc C x h) fun σ H Q q => tE.frz q
    exact ⟨r, fun t => ptOf r t⟩
  | .new f, fr, G, X, sc, C, x, h => by
    simp only [chkE] at h
    have r : PE X x (tE fr (evE Φ (.new f))) := PE.imp (sndF f _ X sc C x h) fun σ H Q q => tE.new q
    exact ⟨r, fun t => ptOf r t⟩
theorem sndB : ∀ (es : Es) {fr : Fr} (G : Glo) (X : Cx) (sc : Scope) (_ : CtxE X fr G N sc k Φ) (xs : List Expr), chkB G N sc es xs = true →
    (∀ pos, PE X (.BoolOp .And xs pos) (tE fr (evAnd Φ es))) ∧ (∀ pos, PW X (.BoolOp .And xs pos) (tT fr (evAnd Φ es))) ∧ (∀ pos, PE X (.BoolOp .Or xs pos) (tE fr (evOr Φ es))) ∧ (∀ pos, PW X (.BoolOp .Or xs pos) (tT fr (evOr Φ es)))
  | .nil, fr, G, X, sc, C, xs, h => by simp only [chkB] at h; cases h
  | .cons a r, fr, G, X, sc, C, xs, h => by
    simp only [chkB] at h
    split at h
    · cases h
    · rename_i x xs
      simp only [Bool.and_eq_true] at h
      obtain ⟨⟨h1, h2⟩, h3⟩ := h
      obtain ⟨a1, a2⟩ := sndE a _ X sc C x h2
      have a2 := a2 h1
      cases r with
      | nil =>
        cases xs with
        | nil => exact ⟨fun pos => PE.imp (pe_one a1) fun σ H Q q => tE.and1 q, fun pos => PW.imp (pw_and1 a2) fun σ H Q q => tT.and1 q, fun pos => PE.imp (pe_one a1) fun σ H Q q => tE.or1 q, fun pos => PW.imp (pw_or1 a2) fun σ H Q q => tT.or1 q⟩
        | cons => simp only [chkB] at h3; cases h3
      | cons b r =>
        cases xs with
        | nil => simp only [chkB] at h3; cases h3
        | cons y xs =>
          obtain ⟨b1, b2, b3, b4⟩ := sndB (.cons b r) _ X sc C (y :: xs) h3
          exact ⟨fun pos => PE.imp (pe_and a1 (b1 pos)) fun σ H Q q => tE.and2 q, fun pos => PW.imp (pw_and a2 (b2 pos)) fun σ H Q q => tT.and2 q, fun pos => PE.imp (pe_or a1 (b3 pos)) fun σ H Q q => tE.or2 q, fun pos => PW.imp (pw_or a2 (b4 pos)) fun σ H Q q => tT.or2 q⟩
theorem sndEs : ∀ (es : Es) {fr : Fr} (G : Glo) (X : Cx) (sc : Scope) (_ : CtxE X fr G N sc k Φ) (xs : List Expr), chkEs G N sc es xs = true → PA X xs (tEs fr (evEs Φ es))
  | .nil, fr, G, X, sc, C, xs, h => by
    simp only [chkEs] at h
    split at h
    · exact PA.imp pa_nil fun σ H Q q => tEs.nil q
    · cases h
  | .cons a r, fr, G, X, sc, C, xs, h => by
    simp only [chkEs] at h
    split at h
    · cases h
    · simp only [Bool.and_eq_true] at h
      exact PA.imp (pa_cons (sndE a _ X sc C _ h.1.2).1 (sndEs r _ X sc C _ h.2) (star1 h.1.1)) fun σ H Q q => tEs.cons q
theorem sndO : ∀ (o : EO) {fr : Fr} (G : Glo) (X : Cx) (sc : Scope) (_ : CtxE X fr G N sc k Φ) (x : Option Expr), chkO G N sc o x = true → PO X x (tO fr (evO Φ o))
  | .no, fr, G, X, sc, C, x, h => by
    simp only [chkO] at h
    split at h
    · exact ⟨fun pins s σ H Q I q => po_none.run pins s σ H Q I (tO.none q)⟩
    · cases h
  | .so a, fr, G, X, sc, C, x, h => by
    simp only [chkO] at h
    split at h
    · exact ⟨fun pins s σ H Q I q => (po_some (sndE a _ X sc C _ h).1).run pins s σ H Q I (tO.some q)⟩
    · cases h
theorem sndA : ∀ (a : A) {fr : Fr} (G : Glo) (X : Cx) (sc : Scope) (_ : CtxE X fr G N sc k Φ) (x : Expr), chkA G N sc a x = true → PE X x (tA fr (evA Φ a)) ∧ (∀ b, (b = false → ∀ i, a ≠ .pk i) → PE X x (tAb fr b (evA Φ a)))
  | .ex e, fr, G, X, sc, C, x, h => by
    simp only [chkA] at h
    have r := (sndE e _ X sc C x h).1
    exact ⟨PE.imp r fun σ H Q q => tA_ex q, fun b _ => PE.imp r fun σ H Q q => tAb_ex q⟩
  | .pk i, fr, G, X, sc, C, x, h => by
    simp only [chkA] at h
    split at h
    · refine ⟨PE.imp (C.var h) fun σ H Q q => tA_pk q, fun b hb => ?_⟩
      cases b with
      | true => exact PE.imp (C.var h) fun σ H Q q => tAb_pk q
      | false => exact absurd rfl (hb rfl i)
    · cases h
  | .gl y d, fr, G, X, sc, C, x, h => by
    simp only [chkA] at h
    split at h
    · simp only [Bool.and_eq_true, beq_iff_eq] at h
      obtain ⟨⟨⟨⟨rfl, h1⟩, h2⟩, h3⟩, h4⟩ := h
      split at h4
      · rename_i d' hd
        obtain rfl := beqD_eq h4
        split at h3
        · rename_i xs
          obtain ⟨c, vs, hm, hk, hv⟩ := C.gl.tup _ _ hd
          have cn : ∀ F θ H, Cn fr.K F θ H (.kon (.tup xs)) (.ref c) := fun F θ H => by rw [C.hK]; exact ⟨c, vs, rfl, hk, hv F θ H⟩
          refine ⟨PE.imp (pe_glob (v := .ref c) (C.gl_of h1) hm rfl (okN_d h2)) fun σ H Q q => ?_, fun b _ => PE.imp (pe_glob (v := .ref c) (C.gl_of h1) hm rfl (okN_d h2)) fun σ H Q q => ?_⟩
          · obtain ⟨F, θ, env, mem, d, mem', s, e, q⟩ := q
            cases e
            exact q θ _ H .refl s.ms (.inr (.inr ⟨⟨xs, rfl⟩, cn _ _ _⟩))
          · obtain ⟨F, θ, env, mem, d, mem', s, e, q⟩ := q
            cases e
            exact q θ _ H .refl s.ms ⟨.inr (.inr ⟨⟨xs, rfl⟩, cn _ _ _⟩), fun _ => .inr ⟨⟨xs, rfl⟩, cn _ _ _⟩⟩
        · cases h3
      · cases h4
    · cases h
theorem sndK : ∀ (kvs : Kvs) {fr : Fr} (G : Glo) (X : Cx) (sc : Scope) (_ : CtxE X fr G N sc k Φ) (ks : List (Option Expr)) (vs : List Expr), chkK G N sc kvs ks vs = true → (∀ pos, PPs X pos ks vs (kvs.trs Φ fr)) ∧ ks.all (·.isSome) = true ∧ ks.length = vs.length
  | .nil, fr, G, X, sc, C, ks, vs, h => by
    simp only [chkK] at h
    split at h
    · exact ⟨fun pos => pps_nil, rfl, rfl⟩
    · cases h
  | .cons a b r, fr, G, X, sc, C, ks, vs, h => by
    simp only [chkK] at h
    split at h
    · simp only [Bool.and_eq_true] at h
      obtain ⟨h1, h2, h3⟩ := sndK r _ X sc C _ _ h.2
      exact ⟨fun pos => pps_cons (sndE a _ X sc C _ h.1.1).1 (sndE b _ X sc C _ h.1.2).1 (h1 pos), by rw [List.all_cons, h2]; rfl, by rw [List.length_cons, List.length_cons, h3]⟩
    · cases h
theorem sndF : ∀ (f : F) {fr : Fr} (G : Glo) (X : Cx) (sc : Scope) (_ : CtxE X fr G N sc k Φ) (x : Expr), chkF G N sc f x = true → PE X x (tF fr (evF Φ f))
  | .lst es, fr, G, X, sc, C, x, h => by
    simp only [chkF] at h
    split at h
    · rw [Bool.and_eq_true, decide_eq_true_eq] at h
      exact PE.imp (pe_lst (sndEs es _ X sc C _ h.1)) fun σ H Q q => tF.lst h.2 q
    · cases h
  | .dct t kvs, fr, G, X, sc, C, x, h => by
    simp only [chkF] at h
    split at h
    · split at h
      · split at h
        · cases t with
          | false => exact PE.imp pe_dnewK fun σ H Q q => tF.dK q
          | true => exact PE.imp pe_dnewT fun σ H Q q => tF.dT q
        · cases h
      · rename_i hne
        simp only [Bool.and_eq_true, decide_eq_true_eq, Bool.not_eq_true'] at h
        obtain ⟨⟨⟨rfl, h2⟩, h3⟩, h4⟩ := h
        obtain ⟨h5, h6, h7⟩ := sndK kvs _ X sc C _ _ h4
        exact PE.imp (pe_disp (h5 _) h6 h7 (fun z => hne z) h3) fun σ H Q q => tF.disp h2 q
    · cases h
  | .comp own g it ifs elt, fr, G, X, sc, C, x, h => by
    simp only [chkF] at h
    split at h
    · rename_i y tg iter cs as scope pos
      simp only [Bool.and_eq_true, beq_iff_eq] at h
      obtain ⟨⟨⟨⟨⟨⟨⟨rfl, h2⟩, h3⟩, h4⟩, h5⟩, h6⟩, h7⟩, h8⟩ := h
      have hi := sndI it true _ X sc C tg iter (fun z => nomatch z) h3
      have hb : BlkOk X.N X.env.scope scope (ownOf N own) := by rw [C.hN, C.hsc]; exact blkOk_by h5
      refine PE.imp (pe_lc (own := ownOf N own) (g := gG fr g) (tt := tT fr (evT Φ ifs)) (te := tE fr (evE Φ elt)) C.calm (by rw [C.hN]; exact C.nd) hi hb
        (fun s H c cl fp => sndG (fb := false) (C.blk s H scope cl c fp) (fun z => nomatch z) g tg h6) (fun s H c cl fp => sndIf ifs _ _ _ (C.blk s H scope cl c fp) cs h7) (fun s H c cl fp => (sndE elt _ _ _ (C.blk s H scope cl c fp) y h8).1) (no_set h2)) fun σ H Q q => ?_
      have z := tF.comp (fun i hi => by simpa using List.all_eq_true.mp h4 i hi) q
      have e : (ownOf N own).map (·.2) = own := by unfold ownOf; rw [List.map_map]; exact (List.map_congr_left fun _ _ => rfl).trans (List.map_id _)
      rw [e]
      exact z
    · cases h
  | .compK own g i ifs elt, fr, G, X, sc, C, x, h => by
    simp only [chkF] at h
    split at h
    · rename_i y tg z zp cs as scope pos
      simp only [Bool.and_eq_true, beq_iff_eq] at h
      obtain ⟨⟨⟨⟨⟨⟨rfl, h2⟩, h4⟩, h5⟩, h6⟩, h7⟩, h8⟩ := h
      have CF : ∀ {fr' : Fr}, fr'.K = fr.K → fr'.T = fr.T → CtxE X fr' G N sc k Φ := fun {fr'} hK hT => ⟨C.hN, C.nd, C.calm, C.hsc, C.room, C.grd, hK.trans C.hK, C.gl, (by rw [hT]; exact C.df), C.xc, C.td, (by rw [hT]; exact C.tb), (fun j c h => let ⟨D, z⟩ := C.oc j c h; ⟨D, z.mg, z.tell, z.cls, z.na, (by rw [hT]; exact z.ms), (by rw [hT]; exact z.ini)⟩), C.r1⟩
      have hb : BlkOk X.N X.env.scope scope (ownOf N own) := by rw [C.hN, C.hsc]; exact blkOk_by h5
      have P := pe_lc (pos := pos) (own := ownOf N own) (g := gEx fr.K fr.T g) (tt := tTx fr.K fr.T Φ ifs) (te := tEx fr.K fr.T Φ elt) C.calm (by rw [C.hN]; exact C.nd) (pi_keys (tg := tg) (C.var (pos := zp) h2)) hb
        (fun s H c cl fp => ⟨fun pins s1 σ H v u Q I r q => by
          obtain ⟨fr', hK, hT, q⟩ := q
          exact (sndG (fb := false) ((CF hK hT).blk s _ scope cl c fp) (fun z => nomatch z) g tg h6).run pins s1 σ H v u Q I r q⟩)
        (fun s H c cl fp => ⟨fun pins s1 σ H Q I q => by
          obtain ⟨fr', hK, hT, q⟩ := q
          exact (sndIf ifs _ _ _ ((CF hK hT).blk s _ scope cl c fp) cs h7).run pins s1 σ H Q I q⟩)
        (fun s H c cl fp => ⟨fun pins s1 σ H Q I q => by
          obtain ⟨fr', hK, hT, q⟩ := q
          exact (sndE elt _ _ _ ((CF hK hT).blk s _ scope cl c fp) y h8).1.run pins s1 σ H Q I q⟩)
      refine ⟨fun pins s σ H Q I q => ?_⟩
      have z := tF.compK (fun i hi => by simpa using List.all_eq_true.mp h4 i hi) q
      have e : (ownOf N own).map (·.2) = own := by unfold ownOf; rw [List.map_map]; exact (List.map_congr_left fun _ _ => rfl).trans (List.map_id _)
      rw [e] at P
      exact z.elim ((pe_lock P).run pins s σ H Q I) (P.run pins s σ H Q I)
    · cases h
  | .lstof a, fr, G, X, sc, C, x, h => by
    simp only [chkF] at h
    split at h
    · simp only [Bool.and_eq_true] at h
      obtain ⟨⟨h1, h2⟩, h3⟩ := h
      obtain ⟨rfl, hg, hm⟩ := C.blt_of h1
      refine PE.imp (pe_callTy (cList C.calm) hg hm (by decide +kernel) (pa_cons (sndA a _ X sc C _ h3).1 pa_nil (star1 h2)) (by decide) (by decide) (star1 h2) rfl) fun σ H Q q => ?_
      have z := tF.one (k := lstD) (fun x r e => by
        cases x with
        | lst => cases e; exact .inl ⟨_, rfl⟩
        | tup => cases e; exact .inl ⟨_, rfl⟩
        | dct t kvs => cases t <;> cases e; exact .inl ⟨_, rfl⟩
        | _ => cases e) q
      obtain ⟨F, θ, env, mem, d, mem', s, e, q⟩ := z
      refine ⟨F, θ, env, mem, d, mem', s, e, fun θ' v H' t m r => ?_⟩
      obtain ⟨F, θ, d, r, h1, h2, h3⟩ := q θ' v H' t m r
      rw [C.hK] at h1 h3
      refine ⟨v, F, θ, d, r, rfl, h1, ?_, h3⟩
      cases d with
      | dct t kvs => cases t <;> first | exact h2 | cases h2
      | _ => exact h2
    · cases h
  | .dctof a, fr, G, X, sc, C, x, h => by
    simp only [chkF] at h
    split at h
    · simp only [Bool.and_eq_true] at h
      obtain ⟨⟨h1, h2⟩, h3⟩ := h
      obtain ⟨rfl, hg, hm⟩ := C.blt_of h1
      refine PE.imp (pe_callTy (cDict C.calm) hg hm (by decide +kernel) (pa_cons (sndA a _ X sc C _ h3).1 pa_nil (star1 h2)) (by decide) (by decide) (star1 h2) rfl) fun σ H Q q => ?_
      have z := tF.one (k := dctD) (fun x r e => by
        cases x with
        | lst xs =>
          obtain ⟨ps, _, e⟩ := Option.bind_eq_some_iff.mp (show (pairsO xs).bind (fun ps => if (ps.all fun p => isKey false p.1) = true then some (.dct false (mergeK [] ps)) else none) = some r from e)
          split at e
          · cases e; exact .inr ⟨_, _, rfl⟩
          · cases e
        | dct t kvs => cases t <;> cases e; exact .inr ⟨_, _, rfl⟩
        | _ => cases e) q
      obtain ⟨F, θ, env, mem, d, mem', s, e, q⟩ := z
      refine ⟨F, θ, env, mem, d, mem', s, e, fun θ' v H' t m r => ?_⟩
      obtain ⟨F, θ, d, r, h1, h2, h3⟩ := q θ' v H' t m r
      rw [C.hK] at h1 h3
      refine ⟨v, F, θ, d, r, rfl, h1, ?_, h3⟩
      cases d with
      | dct t kvs => cases t <;> first | exact h2 | cases h2
      | _ => exact h2
    · cases h
  | .itm a, fr, G, X, sc, C, x, h => by
    simp only [chkF] at h
    split at h
    · simp only [Bool.and_eq_true] at h
      obtain ⟨⟨⟨⟨h1, h2⟩, h3⟩, h4⟩, h5⟩ := h
      obtain ⟨rfl, hg, hm⟩ := C.blt_of h1
      obtain rfl := beq_iff_eq.mp h2
      exact PE.imp (peItems C.calm (sndA a _ X sc C _ h5).1 hg hm (by decide +kernel) (attr_base h4) h3) fun σ H Q q => tF.itm q
    · cases h
  | .stp a b, fr, G, X, sc, C, x, h => by
    simp only [chkF] at h
    split at h
    · simp only [Bool.and_eq_true] at h
      refine PE.imp (peStp (sndA a _ X sc C _ h.1).1 (sndE b _ X sc C _ h.2).1) fun σ H Q q => ?_
      have z := tF.stp q
      rw [C.hK] at z
      exact z
    · cases h
  | .lstT a, fr, G, X, sc, C, x, h => by
    simp only [chkF] at h
    split at h
    · simp only [Bool.and_eq_true] at h
      obtain ⟨⟨h1, h2⟩, h3⟩ := h
      obtain ⟨rfl, hg, hm⟩ := C.blt_of h1
      exact PE.imp (pe_callTy (call_list_dT C.calm) hg hm (by decide +kernel) (pa_cons (sndA a _ X sc C _ h3).1 pa_nil (star1 h2)) (by decide) (by decide) (star1 h2) rfl) fun σ H Q q => tF.lstT q
    · cases h
  | .lrg a, fr, G, X, sc, C, x, h => by
    simp only [chkF] at h
    split at h
    · simp only [Bool.and_eq_true] at h
      obtain ⟨⟨⟨h1, h2⟩, h3⟩, h4⟩ := h
      obtain ⟨rfl, hg, hm⟩ := C.blt_of h1
      obtain ⟨rfl, hg2, hm2⟩ := C.blt_of h2
      exact PE.imp (pe_listRg C.calm hg hm (prg_1 hg2 hm2 (sndE a _ X sc C _ h4).1 (star1 h3))) fun σ H Q q => tF.lrg q
    · cases h
  | .lrg2 a c, fr, G, X, sc, C, x, h => by
    simp only [chkF] at h
    split at h
    · simp only [Bool.and_eq_true] at h
      obtain ⟨⟨⟨⟨⟨h1, h2⟩, h3⟩, h4⟩, h5⟩, h6⟩ := h
      obtain ⟨rfl, hg, hm⟩ := C.blt_of h1
      obtain ⟨rfl, hg2, hm2⟩ := C.blt_of h2
      exact PE.imp (pe_listRg C.calm hg hm (prg_2 hg2 hm2 (sndE a _ X sc C _ h5).1 (sndE c _ X sc C _ h6).1 (star1 h3) (star1 h4) (by rw [star1 h4]; rfl))) fun σ H Q q => tF.lrg2 q
    · cases h
  | .srt a, fr, G, X, sc, C, x, h => by
    simp only [chkF] at h
    split at h
    · simp only [Bool.and_eq_true] at h
      obtain ⟨⟨h1, h2⟩, h3⟩ := h
      obtain ⟨rfl, hg, hm⟩ := C.blt_of h1
      refine PE.imp (pe_callB (cSrtD C.calm C.hu) hg hm PyProof.Rows.boot_sorted (pa_cons (sndA a _ X sc C _ h3).1 pa_nil (star1 h2)) (by decide) (by decide) (star1 h2) rfl) fun σ H Q q => ?_
      have z := tF.one (k := srtD) (fun x r e => by
        cases x with
        | lst xs =>
          obtain ⟨ys, _, rfl⟩ := Option.map_eq_some_iff.mp (show (srtO xs).map D.lst = some r from e)
          exact .inl ⟨_, rfl⟩
        | dct t kvs =>
          cases t with
          | true => cases e
          | false =>
            obtain ⟨ts, _, e⟩ := Option.bind_eq_some_iff.mp e
            split at e
            · cases e; exact .inl ⟨_, rfl⟩
            · cases e
        | _ => cases e) q
      obtain ⟨F, θ, env, mem, d, mem', s, e, q⟩ := z
      refine ⟨F, θ, env, mem, d, mem', s, e, fun θ' v H' t m r => ?_⟩
      obtain ⟨F, θ, d, r, h1, h2, h3⟩ := q θ' v H' t m r
      rw [C.hK] at h1 h3
      exact ⟨v, F, θ, d, r, rfl, h1, h2, h3⟩
    · cases h
  | .srtK a i M t q, fr, G, X, sc, C, x, h => by
    simp only [chkF] at h
    split at h
    · simp only [Bool.and_eq_true, beq_iff_eq, decide_eq_true_eq] at h
      obtain ⟨⟨⟨⟨⟨⟨⟨⟨⟨⟨⟨⟨⟨⟨h1, h2⟩, rfl⟩, rfl⟩, rfl⟩, rfl⟩, rfl⟩, h3⟩, h4⟩, h5⟩, h6⟩, h7⟩, h8⟩, h9⟩, h10⟩ := h
      obtain ⟨rfl, hg, hm⟩ := C.blt_of h1
      split at h9
      · rename_i t' q' htab
        simp only [Bool.and_eq_true, beq_iff_eq] at h9
        obtain ⟨rfl, rfl⟩ := h9
        obtain ⟨hq, hr, c, P, hcode, TB, hT⟩ := C.tb _ _ htab
        refine PE.imp (pe_srtK hg hm (sndE a _ X sc C _ h10).1 (star1 h2) TB hcode hq (by rw [C.hsc]; exact lamP_by h8) rfl (by rw [C.hN]; exact h6) h7 (fun _ _ _ _ _ _ => rfl) (okN_d h4) (okN_d h5) (okN_c h5) h3 hr.in1.in1.depth C.hu) fun σ H Q q => ?_
        have z := tF.srtK hT q
        rw [C.hK] at z
        exact z
      · cases h9
    · cases h
  | .bop o a b, fr, G, X, sc, C, x, h => by
    simp only [chkF] at h
    split at h
    · simp only [Bool.and_eq_true] at h
      refine PE.imp (pe_op (oBop o h.1.1) (sndA a _ X sc C _ h.1.2).1 (sndA b _ X sc C _ h.2).1) fun σ H Q q => ?_
      have z := tF.two (k := fun x' y' => match o.run x' y' with
        | some (.lst zs) => some (.lst zs)
        | _ => none) (fun x y r e => by
          split at e
          · cases e; exact .inl ⟨_, rfl⟩
          · cases e) q
      obtain ⟨F, θ, env, mem, d, mem', s, e, q⟩ := z
      refine ⟨F, θ, env, mem, d, mem', s, e, fun θ' v H' t m r => ?_⟩
      obtain ⟨F, θ, env, mem, d, mem', s, e, q⟩ := q θ' v H' t m r
      refine ⟨F, θ, env, mem, d, mem', s, e, fun θ' u H' t m r => ?_⟩
      obtain ⟨F, θ, d, e, r, h1, h2, h3, h4⟩ := q θ' u H' t m r
      rw [C.hK] at h1 h2 h4
      refine ⟨F, θ, d, e, r, h1, h2, ?_, h4⟩
      split at h3
      · rename_i hz; cases h3; exact hz
      · cases h3
    · cases h
  | .slc a lo hi, fr, G, X, sc, C, x, h => by
    simp only [chkF] at h
    split at h
    · simp only [Bool.and_eq_true] at h
      refine PE.imp (pe_slice oSlc (sndA a _ X sc C _ h.1.1).1 (sndO lo _ X sc C _ h.1.2) (sndO hi _ X sc C _ h.2)) fun σ H Q q => ?_
      have z := tF.slc q
      rw [C.hK] at z
      exact z
    · cases h
  | .call f es, fr, G, X, sc, C, x, h => by
    simp only [chkF] at h
    split at h
    · simp only [Bool.and_eq_true] at h
      obtain ⟨⟨⟨⟨h1, h2⟩, h3⟩, h4⟩, h5⟩ := h
      rcases hasDef_or h4 with hd | h4
      · obtain ⟨g, rfl⟩ : ∃ g, g = f := ⟨f, rfl⟩
        obtain ⟨c, fd, ps, hm, hk, hb, F⟩ := C.df _ _ hd
        have pa := sndEs es _ X sc C _ h5
        have im : ∀ σ H Q, tF fr (evF Φ (.call g es)) σ H Q → tCallM (MSp X.K fr.T Φ g) noE (tEs fr (evEs Φ es)) σ H Q := fun σ H Q q => by
          have z := tF.call (E := noE) q
          rw [C.hK] at z
          exact z
        rename_i xs _
        cases xs with
        | nil =>
          cases es with
          | nil =>
            refine PE.imp (pe_callM0 F C.rm C.grd (C.gl_of h1) hm hk hb pass_no (okN_d h2)) fun σ H Q q => ?_
            obtain ⟨F, θ, env, mem, d, mem', s, e, q⟩ := im σ H Q q
            cases e
            exact q θ [] H .refl s.ms rfl
          | cons a r => simp only [chkEs] at h5; cases h5
        | cons x xs =>
          simp only [List.all_cons, Bool.and_eq_true] at h3
          exact PE.imp (pe_callM F C.rm C.grd (C.gl_of h1) hm hk hb pass_no pa (okN_d h2) (star1 h3.1) (starAll h3.2)) im
      · cases h4
    · cases h
theorem sndIf : ∀ (o : EO) {fr : Fr} (G : Glo) (X : Cx) (sc : Scope) (_ : CtxE X fr G N sc k Φ) (cs : List Expr), chkIf G N sc o cs = true → PTs X cs (tT fr (evT Φ o))
  | .no, fr, G, X, sc, C, cs, h => by
    simp only [chkIf] at h
    split at h
    · refine ⟨fun pins s σ H Q I q => pts_nil.run pins s σ H Q I ?_⟩
      obtain ⟨F, θ, env, mem, d, mem', s, e, q⟩ := q
      cases e
      exact q θ H .refl s.ms
    · cases h
  | .so a, fr, G, X, sc, C, cs, h => by
    simp only [chkIf] at h
    split at h
    · rw [Bool.and_eq_true] at h
      exact pts_one ((sndE a _ X sc C _ h.2).2 h.1)
    · cases h
theorem sndI : ∀ (it : I) {fr : Fr} (b : Bool) (G : Glo) (X : Cx) (sc : Scope) (_ : CtxE X fr G N sc k Φ) (tg x : Expr), (b = false → isAs it = true) → chkI G N sc it tg x = true → PI X tg x (tI fr b (evI Φ it))
  | .it a, fr, b, G, X, sc, C, tg, x, hb, h => by
    simp only [chkI] at h
    exact piIt C.hK ((sndA a _ X sc C x h).2 b fun e i z => by subst z; exact nomatch hb e)
  | .rg1 a, fr, b, G, X, sc, C, tg, x, hb, h => by
    simp only [chkI] at h
    split at h
    · simp only [Bool.and_eq_true] at h
      obtain ⟨⟨h1, h2⟩, h3⟩ := h
      obtain ⟨rfl, hg, hm⟩ := C.blt_of h1
      exact PI.imp (pi_range1 hg hm (pa_cons (sndE a _ X sc C _ h3).1 pa_nil (star1 h2)) (star1 h2)) fun σ H Q q => iRng1_of q
    · cases h
  | .rg2 a c, fr, b, G, X, sc, C, tg, x, hb, h => by
    simp only [chkI] at h
    split at h
    · simp only [Bool.and_eq_true] at h
      obtain ⟨⟨⟨⟨h1, h2⟩, h3⟩, h4⟩, h5⟩ := h
      obtain ⟨rfl, hg, hm⟩ := C.blt_of h1
      exact PI.imp (pi_range2 hg hm (pa_cons (sndE a _ X sc C _ h4).1 (pa_cons (sndE c _ X sc C _ h5).1 pa_nil (star1 h3)) (star1 h2)) (by rw [star1 h2, star1 h3]; rfl) (star1 h3)) fun σ H Q q => iRng2_of q
    · cases h
  | .zipS a c, fr, b, G, X, sc, C, tg, x, hb, h => by
    simp only [chkI] at h
    split at h
    · simp only [Bool.and_eq_true] at h
      obtain ⟨⟨⟨⟨⟨h1, h2⟩, h3⟩, h4⟩, h5⟩, h6⟩ := h
      obtain ⟨rfl, hg, hm⟩ := C.blt_of h1
      cases tg <;> first | cases h2 | skip
      exact PI.imp (pi_zipST hg hm (pa_cons (sndE a _ X sc C _ h5).1 (pa_cons (sndE c _ X sc C _ h6).1 pa_nil (star1 h4)) (star1 h3)) (star1 h3) (starAll (by rw [List.all_cons, h4]; rfl))) fun σ H Q q => iZipS_of q C.hK
    · cases h
  | .en a, fr, b, G, X, sc, C, tg, x, hb, h => by
    simp only [chkI] at h
    split at h
    · simp only [Bool.and_eq_true] at h
      obtain ⟨⟨⟨h1, h2⟩, h3⟩, h4⟩ := h
      obtain ⟨rfl, hg, hm⟩ := C.blt_of h1
      cases tg <;> first | cases h2 | skip
      exact PI.imp (pi_enum hg hm (pa_cons ((sndA a _ X sc C _ h4).2 b fun e i z => by subst z; exact nomatch hb e) pa_nil (star1 h3)) (star1 h3)) fun σ H Q q => iEnum_of C.hK q
    · cases h
  | .enT a, fr, b, G, X, sc, C, tg, x, hb, h => by
    simp only [chkI] at h
    split at h
    · simp only [Bool.and_eq_true] at h
      obtain ⟨⟨⟨h1, h2⟩, h3⟩, h4⟩ := h
      obtain ⟨rfl, hg, hm⟩ := C.blt_of h1
      cases tg <;> first | cases h2 | skip
      exact PI.imp (pi_enumT hg hm (pa_cons ((sndA a _ X sc C _ h4).2 b fun e i z => by subst z; exact nomatch hb e) pa_nil (star1 h3)) (star1 h3)) fun σ H Q q => iEnumT_of C.hK q
    · cases h
  | .zip a c, fr, b, G, X, sc, C, tg, x, hb, h => by
    simp only [chkI] at h
    split at h
    · simp only [Bool.and_eq_true] at h
      obtain ⟨⟨⟨⟨⟨h1, h2⟩, h3⟩, h4⟩, h5⟩, h6⟩ := h
      obtain ⟨rfl, hg, hm⟩ := C.blt_of h1
      cases tg <;> first | cases h2 | skip
      refine PI.imp (RZ.pi_zipA hg hm (pa_cons ((sndA a _ X sc C _ h5).2 b fun e i z => by subst z; exact nomatch hb e) (pa_cons ((sndA c _ X sc C _ h6).2 b fun e i z => by subst z; cases a <;> exact nomatch hb e) pa_nil (star1 h4)) (star1 h3)) (star1 h3) (starAll (by rw [List.all_cons, h4]; rfl))) fun σ H Q q => iZip_of C.hK q
    · cases h
  | .items _, fr, b, G, X, sc, C, tg, x, hb, h => by simp only [chkI] at h; cases h
end
end
end Mp

set_option linter.all false
set_option autoImplicit false
set_option maxRecDepth 100000
set_option maxHeartbeats 2000000
/-! Mp19: readings of statements. -/
namespace Mp
open PySem PySem.Spec PyProof.Rows L2

section
variable {K : PySem.W.Frag} {fr : Fr} {F F' : Addr → Prop} {θ θ' : List Addr} {H H' : Hp} {env : Env} {mem mem' : Mem} {σ : L2.St}
/-- what is new now was new at the frame's entry -/
theorem SR.he (s : SR fr F θ env mem σ H) {p : Addr} (h : H p = none) : fr.He p = none := by
  cases e : fr.He p with
  | none => rfl
  | some o =>
    by_cases q : p ∈ fr.θe
    · obtain ⟨i, hi, e1⟩ := List.getElem_of_mem q
      have z := s.bs.tr.pre i p (by rw [List.getElem?_eq_getElem hi, e1])
      obtain ⟨u, e2⟩ := s.ms.ne (List.mem_of_getElem? z)
      rw [h] at e2; cases e2
    · rw [s.bs.tr.keep p o e q] at h; cases h
/-- an own thing that no slot holds yet goes to a slot -/
theorem SR.setOwn (s : SR fr F θ env mem σ H) {p : Addr} {o : HO} {d : D} (t : Tr θ H θ' H') (hp : H p = none) (ho : H' p = some o) (m : MS fr.K (plus F p) θ' mem' H') (c : CR fr.K (plus F p) θ' H' d o) (i : Nat) :
    SR fr (plus F p) θ' (st env i (.own d)) mem' (σ.set i (some (.ref p))) H' := by
  have s' := s.own t hp m
  refine ⟨m, s'.bs, s'.sl.setOwn i ho c (.inr rfl) (s.he hp) fun j d' e z => ?_⟩
  obtain ⟨a, u, h1, h2, _⟩ := s.sl.own j d' e
  rw [h1] at z
  cases z
  rw [hp] at h2; cases h2
/-- the own thing of a slot is changed in place -/
theorem SR.ownUpd (s : SR fr F θ env mem σ H) {i : Nat} {d d' : D} {a : Addr} {o' : HO} (e : gt env i = .own d) (ha : σ[i]? = some (some (.ref a))) (c : CR fr.K F θ (upd H a o') d' o') :
    SR fr F θ (st env i (.own d')) mem σ (upd H a o') := by
  obtain ⟨b, o, h1, h2, h3, h4, h5⟩ := s.sl.own i d e
  rw [ha] at h1
  cases h1
  have fk : Fk F θ H F θ (upd H a o') := own_fk h4
  have hl : i < env.length := by
    refine Nat.lt_of_not_le fun q => ?_
    rw [gt_ge q] at e; cases e
  refine ⟨s.ms.own_upd h4 c.nt, ⟨s.bs.FF, ⟨fun b u hb q => ?_, s.bs.tr.pre, s.bs.tr.fresh⟩⟩, ?_⟩
  · rw [upd_ne (fun z => by rw [z, h5] at hb; cases hb)]
    exact s.bs.tr.keep b u hb q
  · refine ⟨by rw [st_length]; exact s.sl.len, fun j d1 ej => ?_, fun j d1 ej => ?_, fun j l d1 d2 b e1 e2 q1 q2 => ?_⟩
    · by_cases hj : i = j
      · subst hj
        rw [gt_st_same hl] at ej; cases ej
      · rw [gt_st_ne hj] at ej
        obtain ⟨v, q1, q2⟩ := s.sl.val j d1 ej
        exact ⟨v, q1, VR.mono fk _ _ q2⟩
    · by_cases hj : i = j
      · subst hj
        rw [gt_st_same hl] at ej
        cases ej
        exact ⟨a, o', ha, upd_same, c, h4, h5⟩
      · rw [gt_st_ne hj] at ej
        obtain ⟨b, u, q1, q2, q3, q4, q5⟩ := s.sl.own j d1 ej
        refine ⟨b, u, q1, ?_, q3.mono fk, q4, q5⟩
        rw [upd_ne fun z => hj (by rw [z] at q1; exact s.sl.uni i j d d1 a e ej ha q1)]
        exact q2
    · have iso : ∀ {j : Nat} {x : D}, gt (st env i (.own d')) j = .own x → ∃ y, gt env j = .own y := fun {j x} h => by
        by_cases hj : i = j
        · subst hj; exact ⟨d, e⟩
        · rw [gt_st_ne hj] at h; exact ⟨x, h⟩
      obtain ⟨x1, e1⟩ := iso e1
      obtain ⟨x2, e2⟩ := iso e2
      exact s.sl.uni j l x1 x2 b e1 e2 q1 q2
/-- a slot's own thing is no one's any more: a value -/
theorem SR.frz (s : SR fr F θ env mem σ H) {i : Nat} {d : D} (e : gt env i = .own d) : ∃ F', SR fr F' θ (st env i (.val d)) mem σ H ∧ Fk F θ H F' θ H := by
  obtain ⟨a, o, h1, h2, h3, h4, h5⟩ := s.sl.own i d e
  have le : ∀ b, (F b ∧ b ≠ a) → F b := fun b z => z.1
  have fk : Fk F θ H (fun b => F b ∧ b ≠ a) θ H := Fk.less le
  have hl : i < env.length := by
    refine Nat.lt_of_not_le fun q => ?_
    rw [gt_ge q] at e; cases e
  refine ⟨fun b => F b ∧ b ≠ a, ⟨s.ms.less le, ⟨fun b z => ⟨s.bs.FF b z, fun q => ?_⟩, s.bs.tr⟩, ?_⟩, fk⟩
  · obtain ⟨o, z⟩ := fr.fe b z
    rw [q, h5] at z; cases z
  · refine ⟨by rw [st_length]; exact s.sl.len, fun j d1 ej => ?_, fun j d1 ej => ?_, fun j l d1 d2 b e1 e2 q1 q2 => ?_⟩
    · by_cases hj : i = j
      · subst hj
        rw [gt_st_same hl] at ej
        cases ej
        exact ⟨.ref a, h1, CR.vr (h3.mono fk) h2 (fun z => z.2 rfl) (s.ms.Fθ a h4)⟩
      · rw [gt_st_ne hj] at ej
        obtain ⟨v, q1, q2⟩ := s.sl.val j d1 ej
        exact ⟨v, q1, VR.mono fk _ _ q2⟩
    · by_cases hj : i = j
      · subst hj
        rw [gt_st_same hl] at ej
        cases ej
      · rw [gt_st_ne hj] at ej
        obtain ⟨b, u, q1, q2, q3, q4, q5⟩ := s.sl.own j d1 ej
        exact ⟨b, u, q1, q2, q3.mono fk, ⟨q4, fun z => hj (by rw [z] at q1; exact s.sl.uni i j d d1 a e ej h1 q1)⟩, q5⟩
    · have iso : ∀ {j : Nat} {x : D}, gt (st env i (.val d)) j = .own x → gt env j = .own x := fun {j x} h => by
        by_cases hj : i = j
        · subst hj
          rw [gt_st_same hl] at h; cases h
        · rw [gt_st_ne hj] at h; exact h
      exact s.sl.uni j l d1 d2 b (iso e1) (iso e2) q1 q2
/-- a slot's own thing is shared from now on -/
theorem SR.shr (s : SR fr F θ env mem σ H) {i : Nat} {d : D} (e : gt env i = .own d) : ∃ F' θ', SR fr F' θ' (st env i (.val (.obj mem.length))) (mem ++ [d]) σ H ∧ Fk F θ H F' θ' H := by
  obtain ⟨a, o, h1, h2, h3, h4, h5⟩ := s.sl.own i d e
  have hl : i < env.length := by
    refine Nat.lt_of_not_le fun q => ?_
    rw [gt_ge q] at e; cases e
  have eF : F = plus (fun b => F b ∧ b ≠ a) a := funext fun b => propext ⟨fun z => (Classical.em (b = a)).elim .inr fun y => .inl ⟨z, y⟩, fun z => z.elim (·.1) fun y => y ▸ h4⟩
  have nθ := s.ms.Fθ a h4
  have fk : Fk F θ H (fun b => F b ∧ b ≠ a) (θ ++ [a]) H := ⟨fun b u z f t => ⟨z, fun y => f y.1, fun y => (List.mem_append.mp y).elim t fun y => f (by rw [List.mem_singleton.mp y]; exact h4)⟩, fun n b z => by rw [List.getElem?_append_left (List.getElem?_eq_some_iff.mp z).1]; exact z⟩
  have ms' : MS fr.K (plus (fun b => F b ∧ b ≠ a) a) θ mem H := eF ▸ s.ms
  have cr' : CR fr.K (plus (fun b => F b ∧ b ≠ a) a) θ H d o := eF ▸ h3
  refine ⟨fun b => F b ∧ b ≠ a, θ ++ [a], ⟨ms'.push h2 cr' (fun z => z.2 rfl), ⟨fun b z => ⟨s.bs.FF b z, fun q => ?_⟩, ⟨fun b u z nt => s.bs.tr.keep b u z nt, fun n b z => ?_, fun b z => ?_⟩⟩, ?_⟩, fk⟩
  · obtain ⟨o, z⟩ := fr.fe b z
    rw [q, h5] at z; cases z
  · have := s.bs.tr.pre n b z
    rw [List.getElem?_append_left (List.getElem?_eq_some_iff.mp this).1]; exact this
  · rcases List.mem_append.mp z with y | y
    · exact s.bs.tr.fresh b y
    · rw [List.mem_singleton.mp y]; exact .inr h5
  · refine ⟨by rw [st_length]; exact s.sl.len, fun j d1 ej => ?_, fun j d1 ej => ?_, fun j l d1 d2 b e1 e2 q1 q2 => ?_⟩
    · by_cases hj : i = j
      · subst hj
        rw [gt_st_same hl] at ej
        cases ej
        refine ⟨.ref a, h1, ?_⟩
        simp only [VR]
        exact ⟨a, rfl, by rw [s.ms.len, List.getElem?_append_right (Nat.le_refl _), Nat.sub_self]; rfl⟩
      · rw [gt_st_ne hj] at ej
        obtain ⟨v, q1, q2⟩ := s.sl.val j d1 ej
        exact ⟨v, q1, VR.mono fk _ _ q2⟩
    · by_cases hj : i = j
      · subst hj
        rw [gt_st_same hl] at ej
        cases ej
      · rw [gt_st_ne hj] at ej
        obtain ⟨b, u, q1, q2, q3, q4, q5⟩ := s.sl.own j d1 ej
        exact ⟨b, u, q1, q2, q3.mono fk, ⟨q4, fun z => hj (by rw [z] at q1; exact s.sl.uni i j d d1 a e ej h1 q1)⟩, q5⟩
    · have iso : ∀ {j : Nat} {x : D}, gt (st env i (.val (.obj mem.length))) j = .own x → gt env j = .own x := fun {j x} h => by
        by_cases hj : i = j
        · subst hj
          rw [gt_st_same hl] at h; cases h
        · rw [gt_st_ne hj] at h; exact h
      exact s.sl.uni j l d1 d2 b (iso e1) (iso e2) q1 q2
/-- a shared object is changed -/
theorem SR.objUpd (s : SR fr F θ env mem σ H) {h : Nat} {d' : D} {a : Addr} {o' : HO} (ha : θ[h]? = some a) (c : CR fr.K F θ (upd H a o') d' o') : SR fr F θ env (sto mem h d') σ (upd H a o') ∧ Tr θ H θ (upd H a o') := by
  have am : a ∈ θ := List.mem_of_getElem? ha
  have t : Tr θ H θ (upd H a o') := ⟨fun b o e z => by rw [upd_ne (fun q => z (by rw [q]; exact am))]; exact e, fun _ _ e => e, fun _ z => .inl z⟩
  refine ⟨s.step t ⟨by unfold sto; rw [List.length_set]; exact s.ms.len, fun j d e => ?_, s.ms.nd, s.ms.Fθ, s.ms.fd_step t⟩, t⟩
  unfold sto at e
  by_cases hj : h = j
  · subst hj
    have hl : h < mem.length := by rw [s.ms.len]; exact (List.getElem?_eq_some_iff.mp ha).1
    rw [List.getElem?_set_self hl] at e
    cases e
    exact ⟨a, o', ha, upd_same, c.ct⟩
  · rw [List.getElem?_set_ne hj] at e
    obtain ⟨b, u, h1, h2, h3⟩ := s.ms.at_ j d e
    refine ⟨b, u, h1, ?_, h3.mono t.fk⟩
    rw [upd_ne fun q => hj ?_]
    · exact h2
    · subst q
      have l1 := (List.getElem?_eq_some_iff.mp ha).1
      have l2 := (List.getElem?_eq_some_iff.mp h1).1
      refine (List.getElem?_inj l1 s.ms.nd (j := j)).mp ?_ 
      rw [ha, h1]

/-! ### the readings -/
section
variable (fr : Fr)
/-- what a return hands out -/
structure RtOk (own : Bool) (d : D) (F : Addr → Prop) (θ : List Addr) (m : Mem) (v : V) (H : Hp) : Prop where
  ms : MS fr.K F θ m H
  bs : Bs fr F θ H
  vl : own = false → VR fr.K F θ H d v
  ow : own = true → ∃ p o, v = .ref p ∧ H p = some o ∧ CR fr.K F θ H d o ∧ F p ∧ fr.He p = none
def Out (D : Ends) (o : O) (F : Addr → Prop) (θ : List Addr) (H : Hp) : Prop := match o with
  | .nx e m => ∀ F' θ' σ' H', Fk F θ H F' θ' H' → SR fr F' θ' e m σ' H' → D.nx σ' H'
  | .bk e m => ∀ F' θ' σ' H', Fk F θ H F' θ' H' → SR fr F' θ' e m σ' H' → D.bk σ' H'
  | .ct e m => ∀ F' θ' σ' H', Fk F θ H F' θ' H' → SR fr F' θ' e m σ' H' → D.ct σ' H'
  | .rt own d m => ∀ F' θ' v H', RtOk fr own d F' θ' m v H' → D.rt v H'
  | .ex d m => ∃ c, d = .ins c [] ∧ ∀ F' θ' H', Fk F θ H F' θ' H' → MS fr.K F' θ' m H' → Bs fr F' θ' H' → fr.E (.ref c) none H'
  | .no => False
def tSt (ex : Env → Mem → O) : TS := fun D σ H => ∃ F θ env mem, SR fr F θ env mem σ H ∧ Out fr D (ex env mem) F θ H
end
variable {D : Ends} {Φ : Fs}
theorem Out.mono {o : O} (h : Out fr D o F θ H) (k : Fk F θ H F' θ' H') : Out fr D o F' θ' H' := by
  cases o with
  | nx e m => exact fun F2 θ2 σ2 H2 k2 s => h F2 θ2 σ2 H2 (k.trans k2) s
  | bk e m => exact fun F2 θ2 σ2 H2 k2 s => h F2 θ2 σ2 H2 (k.trans k2) s
  | ct e m => exact fun F2 θ2 σ2 H2 k2 s => h F2 θ2 σ2 H2 (k.trans k2) s
  | rt own d m => exact h
  | ex _ _ => obtain ⟨c, e, q⟩ := h; exact ⟨c, e, fun F2 θ2 H2 k2 => q F2 θ2 H2 (k.trans k2)⟩
  | no => exact h
theorem Out.thenX {α : Type} {r : R α} {f : α → Mem → O} (h : Out fr D (r.thenX f) F θ H) : (∃ a m, r = .ok a m ∧ Out fr D (f a m) F θ H) ∨ ∃ c m, r = .ex (.ins c []) m ∧ ∀ F' θ' H', Fk F θ H F' θ' H' → MS fr.K F' θ' m H' → Bs fr F' θ' H' → fr.E (.ref c) none H' := by
  cases r with
  | ok a m => exact .inl ⟨a, m, rfl, h⟩
  | ex d m => obtain ⟨c, rfl, q⟩ := h; exact .inr ⟨c, m, rfl, q⟩
  | no => exact h.elim
theorem Out.thenO {α : Type} {r : R α} {f : α → Mem → O} (h : Out fr D (r.thenO f) F θ H) : ∃ a m, r = .ok a m ∧ Out fr D (f a m) F θ H := by
  cases r with
  | ok a m => exact ⟨a, m, rfl, h⟩
  | ex _ _ => exact h.elim
  | no => exact h.elim
theorem tSt.seq {s : S} {r : Ss} (h : tSt fr (exSs Φ (.cons s r)) D σ H) : tSeq (tSt fr (exS Φ s)) (tSt fr (exSs Φ r)) D σ H := by
  obtain ⟨F, θ, env, mem, sr, o⟩ := h
  refine ⟨F, θ, env, mem, sr, ?_⟩
  unfold exSs at o
  cases e : exS Φ s env mem with
  | nx e1 m1 =>
    rw [e] at o
    exact fun F' θ' σ' H' k s' => ⟨F', θ', e1, m1, s', Out.mono o k⟩
  | bk e1 m1 => rw [e] at o; exact o
  | ct e1 m1 => rw [e] at o; exact o
  | rt a b c => rw [e] at o; exact o
  | ex a b => rw [e] at o; exact o
  | no => rw [e] at o; exact o
theorem tSt.nil (h : tSt fr (exSs Φ .nil) D σ H) : tNext D σ H := by
  obtain ⟨F, θ, env, mem, s, o⟩ := h
  exact o F θ σ H .refl s
theorem tSt.frz {i : Nat} {r : Ss} (h : tSt fr (exSs Φ (.cons (.frz i) r)) D σ H) : tSt fr (exSs Φ r) D σ H := by
  obtain ⟨F, θ, env, mem, s, o⟩ := h
  unfold exSs exS at o
  split at o
  · rename_i d hd
    obtain ⟨F', s', k⟩ := s.frz hd
    exact ⟨F', θ, _, mem, s', Out.mono o k⟩
  · exact ⟨F, θ, env, mem, s, o⟩
  · exact o.elim
theorem tSt.shr {i : Nat} {r : Ss} (h : tSt fr (exSs Φ (.cons (.shr i) r)) D σ H) : tSt fr (exSs Φ r) D σ H := by
  obtain ⟨F, θ, env, mem, s, o⟩ := h
  unfold exSs exS at o
  split at o
  · rename_i d hd
    obtain ⟨F', θ', s', k⟩ := s.shr hd
    exact ⟨F', θ', _, _, s', Out.mono o k⟩
  · exact o.elim
theorem tSt.set {i : Nat} {e : E} (h : tSt fr (exS Φ (.set i e)) D σ H) : tAsg (tE fr (evE Φ e)) (gName i) D σ H := by
  obtain ⟨F, θ, env, mem, s, o⟩ := h
  obtain ⟨d, m1, e1, o⟩ := Out.thenO o
  exact ⟨F, θ, env, mem, d, m1, s, e1, fun θ' v H' t m r => o F θ' _ H' t.fk ((s.step t m).setVal i r)⟩
theorem own_tr {p : Addr} (t : Tr θ H θ' H') (hp : H p = none) : Fk F θ H (plus F p) θ' H' := ⟨fun a o e f q => by
  obtain ⟨h1, _, h3⟩ := (t.fk (F := F)).keep a o e f q
  exact ⟨h1, fun z => z.elim f (ne_of_none e hp), h3⟩, t.pre⟩
theorem tSt.own {i : Nat} {f : Mp.F} (h : tSt fr (exS Φ (.own i f)) D σ H) : tAsg (tF fr (evF Φ f)) (gName i) D σ H := by
  obtain ⟨F, θ, env, mem, s, o⟩ := h
  obtain ⟨d, m1, e1, o⟩ := Out.thenO o
  exact ⟨F, θ, env, mem, d, m1, s, e1, fun θ' p u H' t hp ho m c => o _ θ' _ H' (own_tr t hp) (s.setOwn t hp ho m c i)⟩
theorem tSt.asg {g : G} {e : E} (h : tSt fr (exS Φ (.asg g e)) D σ H) : tAsg (tE fr (evE Φ e)) (gG fr g) D σ H := by
  obtain ⟨F, θ, env, mem, s, o⟩ := h
  obtain ⟨d, m1, e1, o⟩ := Out.thenO o
  refine ⟨F, θ, env, mem, d, m1, s, e1, fun θ' v H' t m r => ?_⟩
  split at o
  · rename_i e2 hb
    exact ⟨F, θ', env, m1, d, e2, s.step t m, r, hb, fun σ' _ s' => o F θ' σ' H' t.fk s'⟩
  · exact o.elim
theorem tSt.exp {e : E} (h : tSt fr (exS Φ (.exp e)) D σ H) : tDrop (tE fr (evE Φ e)) D σ H := by
  obtain ⟨F, θ, env, mem, s, o⟩ := h
  obtain ⟨d, m1, e1, o⟩ := Out.thenO o
  exact ⟨F, θ, env, mem, d, m1, s, e1, fun θ' v H' t m r => o F θ' _ H' t.fk (s.step t m)⟩
theorem tSt.ret {e : E} (h : tSt fr (exS Φ (.ret e)) D σ H) : tRet (tE fr (evE Φ e)) D σ H := by
  obtain ⟨F, θ, env, mem, s, o⟩ := h
  obtain ⟨d, m1, e1, o⟩ := Out.thenO o
  exact ⟨F, θ, env, mem, d, m1, s, e1, fun θ' v H' t m r => o F θ' v H' ⟨m, s.bs.step t, fun _ => r, fun z => nomatch z⟩⟩
theorem tSt.retF {f : Mp.F} (h : tSt fr (exS Φ (.retF f)) D σ H) : tRet (tF fr (evF Φ f)) D σ H := by
  obtain ⟨F, θ, env, mem, s, o⟩ := h
  obtain ⟨d, m1, e1, o⟩ := Out.thenO o
  refine ⟨F, θ, env, mem, d, m1, s, e1, fun θ' p u H' t hp ho m c => o _ θ' _ H' ⟨m, ⟨fun a z => .inl (s.bs.FF a z), s.bs.tr.trans t⟩, fun z => (nomatch z), fun _ => ⟨p, u, rfl, ho, c, .inr rfl, s.he hp⟩⟩⟩
theorem tSt.retX {i : Nat} (h : tSt fr (exS Φ (.retX i)) D σ H) : tRet (tVar i) D σ H := by
  obtain ⟨F, θ, env, mem, s, o⟩ := h
  unfold exS at o
  split at o
  · rename_i d hd
    obtain ⟨a, u, h1, h2, h3, h4, h5⟩ := s.sl.own i d hd
    exact ⟨.ref a, h1, o F θ _ H ⟨s.ms, s.bs, fun z => (nomatch z), fun _ => ⟨a, u, rfl, h2, h3, h4, h5⟩⟩⟩
  · exact o.elim
theorem tSt.iff {t : E} {a b : Ss} (h : tSt fr (exS Φ (.iff t a b)) D σ H) : tIfS (tT fr (evE Φ t)) (tSt fr (exSs Φ a)) (tSt fr (exSs Φ b)) D σ H := by
  obtain ⟨F, θ, env, mem, s, o⟩ := h
  obtain ⟨d, m1, e1, o⟩ := Out.thenO o
  split at o
  · exact ⟨F, θ, env, mem, true, m1, s, e1, fun θ' H' t m => ite_pos' rfl ⟨F, θ', env, m1, s.step t m, Out.mono o t.fk⟩⟩
  · exact ⟨F, θ, env, mem, false, m1, s, e1, fun θ' H' t m => ite_neg' Bool.false_ne_true ⟨F, θ', env, m1, s.step t m, Out.mono o t.fk⟩⟩
  · exact o.elim
/-! ### what may raise -/
theorem tSt.xexp {e : E} (h : tSt fr (exS Φ (.xexp e)) D σ H) : tDrop (tEX fr (evE Φ e)) D σ H := by
  obtain ⟨F, θ, env, mem, s, o⟩ := h
  rcases Out.thenX o with ⟨d, m1, e1, o⟩ | ⟨c, m1, e1, q⟩
  · exact ⟨F, θ, env, mem, s, .inl ⟨d, m1, e1, fun θ' v H' t m r => o F θ' _ H' t.fk (s.step t m)⟩⟩
  · exact ⟨F, θ, env, mem, s, .inr ⟨c, m1, e1, fun θ' H' t m => q F θ' H' t.fk m (s.bs.step t)⟩⟩
theorem tSt.xset {i : Nat} {e : E} (h : tSt fr (exS Φ (.xset i e)) D σ H) : tAsg (tEX fr (evE Φ e)) (gName i) D σ H := by
  obtain ⟨F, θ, env, mem, s, o⟩ := h
  rcases Out.thenX o with ⟨d, m1, e1, o⟩ | ⟨c, m1, e1, q⟩
  · exact ⟨F, θ, env, mem, s, .inl ⟨d, m1, e1, fun θ' v H' t m r => o F θ' _ H' t.fk ((s.step t m).setVal i r)⟩⟩
  · exact ⟨F, θ, env, mem, s, .inr ⟨c, m1, e1, fun θ' H' t m => q F θ' H' t.fk m (s.bs.step t)⟩⟩
theorem tSt.xasg {g : G} {e : E} (h : tSt fr (exS Φ (.xasg g e)) D σ H) : tAsg (tEX fr (evE Φ e)) (gG fr g) D σ H := by
  obtain ⟨F, θ, env, mem, s, o⟩ := h
  rcases Out.thenX o with ⟨d, m1, e1, o⟩ | ⟨c, m1, e1, q⟩
  · refine ⟨F, θ, env, mem, s, .inl ⟨d, m1, e1, fun θ' v H' t m r => ?_⟩⟩
    split at o
    · rename_i e2 hb
      exact ⟨F, θ', env, m1, d, e2, s.step t m, r, hb, fun σ' _ s' => o F θ' σ' H' t.fk s'⟩
    · exact o.elim
  · exact ⟨F, θ, env, mem, s, .inr ⟨c, m1, e1, fun θ' H' t m => q F θ' H' t.fk m (s.bs.step t)⟩⟩
theorem tSt.xret {e : E} (h : tSt fr (exS Φ (.xret e)) D σ H) : tRet (tEX fr (evE Φ e)) D σ H := by
  obtain ⟨F, θ, env, mem, s, o⟩ := h
  rcases Out.thenX o with ⟨d, m1, e1, o⟩ | ⟨c, m1, e1, q⟩
  · exact ⟨F, θ, env, mem, s, .inl ⟨d, m1, e1, fun θ' v H' t m r => o F θ' v H' ⟨m, s.bs.step t, fun _ => r, fun z => nomatch z⟩⟩⟩
  · exact ⟨F, θ, env, mem, s, .inr ⟨c, m1, e1, fun θ' H' t m => q F θ' H' t.fk m (s.bs.step t)⟩⟩
/-- a test's reading that may raise -/
def tTX (fr : Fr) (ev : Env → Mem → R Mp.D) : TT := fun σ H Q => ∃ F θ env mem, SR fr F θ env mem σ H ∧
  ((∃ b mem', ev env mem = .ok (.bl b) mem' ∧ ∀ θ' H', Tr θ H θ' H' → MS fr.K F θ' mem' H' → Q b H') ∨
  ∃ c mem', ev env mem = .ex (.ins c []) mem' ∧ ∀ θ' H', Tr θ H θ' H' → MS fr.K F θ' mem' H' → fr.E (.ref c) none H')
theorem tSt.xiff {t : E} {a b : Ss} (h : tSt fr (exS Φ (.xiff t a b)) D σ H) : tIfS (tTX fr (evE Φ t)) (tSt fr (exSs Φ a)) (tSt fr (exSs Φ b)) D σ H := by
  obtain ⟨F, θ, env, mem, s, o⟩ := h
  unfold exS at o
  rcases Out.thenX o with ⟨d, m1, e1, o⟩ | ⟨c, m1, e1, q⟩
  · split at o
    · exact ⟨F, θ, env, mem, s, .inl ⟨true, m1, e1, fun θ' H' t m => ite_pos' rfl ⟨F, θ', env, m1, s.step t m, Out.mono o t.fk⟩⟩⟩
    · exact ⟨F, θ, env, mem, s, .inl ⟨false, m1, e1, fun θ' H' t m => ite_neg' Bool.false_ne_true ⟨F, θ', env, m1, s.step t m, Out.mono o t.fk⟩⟩⟩
    · exact o.elim
  · exact ⟨F, θ, env, mem, s, .inr ⟨c, m1, e1, fun θ' H' t m => q F θ' H' t.fk m (s.bs.step t)⟩⟩
theorem tSt.raise {x : Str} {i : Nat} {msg : T} {C : Addr} (hc : ∀ m r m', Φ (xCls + i) [] m = .ok r m' → r.2 = .ins C [] ∧ m' = m) (h : tSt fr (exS Φ (.raise x i msg)) D σ H) : fr.E (.ref C) none H := by
  obtain ⟨F, θ, env, mem, s, o⟩ := h
  obtain ⟨r, m1, e1, o2⟩ := Out.thenO o
  clear o
  obtain ⟨h1, h2⟩ := hc _ _ _ e1
  subst h2
  obtain ⟨c, e, q⟩ := o2
  rw [h1] at e
  cases e
  exact q F θ H .refl s.ms s.bs
/-- the items of a list that lies -/
theorem cr_lst {xs : List Mp.D} {o : HO} (h : CR K F θ H (.lst xs) o) : ∃ vs, o = .lst vs ∧ VRs K F θ H xs vs := h
theorem tSt.app {i : Nat} {e : E} (hK : fr.K = K) (h : tSt fr (exS Φ (.app i e)) D σ H) : tDrop (tBM K "list" rAppend (tVar i) (tCons (tE fr (evE Φ e)) tNil)) D σ H := by
  obtain ⟨F, θ, env, mem, s, o⟩ := h
  obtain ⟨d, m1, e1, o⟩ := Out.thenO o
  split at o
  · rename_i xs hx
    split at o
    · rename_i hl
      obtain ⟨a, u, h1, h2, h3, h4, h5⟩ := s.sl.own i _ hx
      obtain ⟨vs, rfl, hv⟩ := h3
      refine ⟨.ref a, h1, .inl ⟨rfl, vs, SqL.of h2⟩, F, θ, env, mem, d, m1, s, e1, fun θ' v H' t m r => ?_⟩
      have h2' : H' a = some (.lst vs) := t.keep a _ h2 (s.ms.Fθ a h4)
      have hv' := VRs.mono t.fk _ _ hv
      have fk : Fk F θ' H' F θ' (upd H' a (.lst (vs ++ [v]))) := own_fk h4
      refine ⟨a, vs, v, rfl, rfl, h2', by rw [← hv.length]; have : sizeLine = line := sizeLine_eq; omega, o F θ' _ _ (t.fk.trans fk) ?_⟩
      exact (s.step t m).ownUpd hx h1 ⟨_, rfl, VRs.append (VRs.mono fk _ _ hv') ⟨v, [], rfl, VR.mono fk _ _ r, rfl⟩⟩
    · exact o.elim
  · exact o.elim
theorem tSt.ext {i : Nat} {e : E} (hK : fr.K = K) (h : tSt fr (exS Φ (.ext i e)) D σ H) : tDrop (tBM K "list" rExtend (tVar i) (tCons (tE fr (evE Φ e)) tNil)) D σ H := by
  obtain ⟨F, θ, env, mem, s, o⟩ := h
  obtain ⟨d, m1, e1, o⟩ := Out.thenO o
  split at o
  · rename_i xs ys hx
    split at o
    · rename_i hl
      obtain ⟨a, u, h1, h2, h3, h4, h5⟩ := s.sl.own i _ hx
      obtain ⟨vs, rfl, hv⟩ := h3
      refine ⟨.ref a, h1, .inl ⟨rfl, vs, SqL.of h2⟩, F, θ, env, mem, _, m1, s, e1, fun θ' v H' t m r => ?_⟩
      simp only [VR] at r
      obtain ⟨b, us, rfl, q1, q2, q3, q4⟩ := r
      have h2' : H' a = some (.lst vs) := t.keep a _ h2 (s.ms.Fθ a h4)
      have hv' := VRs.mono t.fk _ _ hv
      have fk : Fk F θ' H' F θ' (upd H' a (.lst (vs ++ us))) := own_fk h4
      refine ⟨a, b, vs, us, rfl, rfl, h2', q1, by rw [← hv.length, ← q4.length]; have : sizeLine = line := sizeLine_eq; omega, o F θ' _ _ (t.fk.trans fk) ?_⟩
      exact (s.step t m).ownUpd hx h1 ⟨_, rfl, VRs.append (VRs.mono fk _ _ hv') (VRs.mono fk _ _ q4)⟩
    · exact o.elim
  · exact o.elim
theorem VRs.erase : ∀ {ds : List Mp.D} {vs : List V} (k : Nat), VRs K F θ H ds vs → VRs K F θ H (ds.eraseIdx k) (vs.eraseIdx k)
  | [], vs, k, h => by cases (show vs = [] from h); exact rfl
  | d :: ds, vs, k, h => by
    obtain ⟨v, r, rfl, h1, h2⟩ := h
    cases k with
    | zero => exact h2
    | succ k => exact ⟨v, r.eraseIdx k, rfl, h1, VRs.erase k h2⟩
theorem VRs.nth : ∀ {ds : List Mp.D} {vs : List V} {k : Nat} {d : Mp.D}, VRs K F θ H ds vs → ds[k]? = some d → ∃ v, vs[k]? = some v ∧ VR K F θ H d v
  | [], vs, k, d, h, e => by simp at e
  | x :: ds, vs, k, d, h, e => by
    obtain ⟨v, r, rfl, h1, h2⟩ := h
    cases k with
    | zero => simp at e; subst e; exact ⟨v, rfl, h1⟩
    | succ k => simp at e; obtain ⟨u, q1, q2⟩ := VRs.nth h2 e; exact ⟨u, by simpa using q1, q2⟩
theorem tSt.popA {g : G} {i : Nat} {e : E} {gg : TG} (hg : ∀ {v σ H Q}, gG fr g v σ H Q → gg v σ H Q) (h : tSt fr (exS Φ (.popA g i (.so e))) D σ H) : tAsg (tBM fr.K "list" rPopAt (tVar i) (tCons (tE fr (evE Φ e)) tNil)) gg D σ H := by
  obtain ⟨F, θ, env, mem, s, o⟩ := h
  unfold exS at o
  obtain ⟨oi, m1, e1, o⟩ := Out.thenO o
  unfold evO at e1
  obtain ⟨y, m2, e2, e1⟩ := Mp.R.bind_ok e1
  obtain ⟨e9, e8⟩ := Mp.R.ofO_ok e1
  subst e8
  obtain ⟨j, e3, rfl⟩ := Option.map_eq_some_iff.mp e9
  cases y with
  | int j' =>
    cases e3
    split at o
    · rename_i xs hx
      split at o
      · rename_i hl
        split at o
        · rename_i k hk
          split at o
          · rename_i d hd
            split at o
            · rename_i ev1 hb
              obtain ⟨a, u, h1, h2, h3, h4, h5⟩ := s.sl.own i _ hx
              obtain ⟨vs, rfl, hv⟩ := h3
              refine ⟨.ref a, h1, .inl ⟨rfl, vs, SqL.of h2⟩, F, θ, env, mem, _, _, s, e2, fun θ' v H' t m r => ?_⟩
              have h2' : H' a = some (.lst vs) := t.keep a _ h2 (s.ms.Fθ a h4)
              have hv' := VRs.mono t.fk _ _ hv
              obtain ⟨y, hy, ry⟩ := VRs.nth hv' hd
              have hk' : Mp.ixN xs.length j = some k := hk
              obtain ⟨sk, _, sb1, sb2⟩ := L2.ixN_seq (show L2.ixN xs.length j = some k from hk')
              have fk : Fk F θ' H' F θ' (upd H' a (.lst (vs.eraseIdx k))) := own_fk h4
              have hline : line = 16777216 := rfl
              refine ⟨a, vs, j, k, y, rfl, by rw [show v = .int j from r], h2', by omega, by omega, by rw [← hv.length]; exact sk, hy, hg ⟨F, θ', _, _, d, ev1, (s.step t m).ownUpd (d' := .lst (xs.eraseIdx k)) hx h1 ⟨_, rfl, VRs.mono fk _ _ (VRs.erase k hv')⟩, VR.mono fk _ _ ry, hb, fun σ' _ s' => o F θ' σ' _ (t.fk.trans fk) s'⟩⟩
            · exact o.elim
          · exact o.elim
        · exact o.elim
      · exact o.elim
    · exact o.elim
  | _ => cases e3
theorem dropLast_erase {α : Type} (xs : List α) : xs.dropLast = xs.eraseIdx (xs.length - 1) := by
  rcases List.eq_nil_or_concat xs with rfl | ⟨ys, y, rfl⟩
  · rfl
  · have : ∀ ys : List α, (ys ++ [y]).eraseIdx ys.length = ys := fun ys => by
      induction ys with
      | nil => rfl
      | cons z ys ih => exact congrArg (List.cons z) ih
    rw [List.concat_eq_append]
    have l : (ys ++ [y]).length - 1 = ys.length := by simp
    rw [l, this]
    simp
theorem tSt.pop {g : G} {i : Nat} {gg : TG} (hg : ∀ {v σ H Q}, gG fr g v σ H Q → gg v σ H Q) (h : tSt fr (exS Φ (.popA g i .no)) D σ H) : tAsg (tBM0 fr.K "list" rPop (tVar i)) gg D σ H := by
  obtain ⟨F, θ, env, mem, s, o⟩ := h
  unfold exS at o
  obtain ⟨oi, m1, e1, o⟩ := Out.thenO o
  cases e1
  split at o
  · rename_i xs hx
    split at o
    · rename_i hl
      split at o
      · rename_i k hk
        split at o
        · rename_i d hd
          split at o
          · rename_i ev1 hb
            obtain ⟨a, u, h1, h2, h3, h4, h5⟩ := s.sl.own i _ hx
            obtain ⟨vs, rfl, hv⟩ := h3
            obtain ⟨y, hy, ry⟩ := VRs.nth hv hd
            have hk' : Mp.ixN xs.length (-1) = some k := hk
            have hkk : k = vs.length - 1 := by
              unfold Mp.ixN at hk'
              rw [if_neg (by decide)] at hk'
              split at hk'
              · cases hk'
                rw [← hv.length]; omega
              · cases hk'
            subst hkk
            have fk : Fk F θ H F θ (upd H a (.lst vs.dropLast)) := own_fk h4
            refine ⟨.ref a, h1, .inl ⟨rfl, vs, SqL.of h2⟩, a, vs, y, rfl, rfl, h2, hy, hg ⟨F, θ, _, _, d, ev1, s.ownUpd (d' := .lst (xs.eraseIdx (vs.length - 1))) hx h1 ⟨_, rfl, ?_⟩, VR.mono fk _ _ ry, hb, fun σ' _ s' => o F θ σ' _ fk s'⟩⟩
            rw [dropLast_erase]
            rw [dropLast_erase] at fk
            exact VRs.mono fk _ _ (VRs.erase _ hv)
          · exact o.elim
        · exact o.elim
      · exact o.elim
    · exact o.elim
  · exact o.elim
theorem tSt.aug {i : Nat} {e : E} (h : tSt fr (exS Φ (.aug i e)) D σ H) : tAug i (tE fr (evE Φ e)) rExt2 D σ H := by
  obtain ⟨F, θ, env, mem, s, o⟩ := h
  obtain ⟨d, m1, e1, o⟩ := Out.thenO o
  split at o
  · rename_i xs ys hx
    split at o
    · rename_i hl
      obtain ⟨a, u, h1, h2, h3, h4, h5⟩ := s.sl.own i _ hx
      obtain ⟨vs, rfl, hv⟩ := h3
      refine ⟨.ref a, h1, F, θ, env, mem, _, m1, s, e1, fun θ' v H' t m r => ?_⟩
      simp only [VR] at r
      obtain ⟨b, us, rfl, q1, q2, q3, q4⟩ := r
      have h2' : H' a = some (.lst vs) := t.keep a _ h2 (s.ms.Fθ a h4)
      have hv' := VRs.mono t.fk _ _ hv
      have fk : Fk F θ' H' F θ' (upd H' a (.lst (vs ++ us))) := own_fk h4
      refine ⟨a, b, vs, us, rfl, rfl, h2', q1, by rw [← hv.length, ← q4.length]; have : sizeLine = line := sizeLine_eq; omega, ?_⟩
      have es : σ.set i (some (.ref a)) = σ := by
        refine List.ext_getElem? fun j => ?_
        by_cases hj : i = j
        · subst hj
          rw [List.getElem?_set_self (List.getElem?_eq_some_iff.mp h1).1, h1]
        · rw [List.getElem?_set_ne hj]
      show D.nx (σ.set i (some (.ref a))) _
      rw [es]
      exact o F θ' _ _ (t.fk.trans fk) ((s.step t m).ownUpd hx h1 ⟨_, rfl, VRs.append (VRs.mono fk _ _ hv') (VRs.mono fk _ _ q4)⟩)
    · exact o.elim
  · exact o.elim
/-- a put into a dict -/
theorem dput_own {t : Bool} {kvs : List (Mp.D × Mp.D)} {k d : Mp.D} {u w : V} {a : Addr} {o : HO} (hk : isKey t k = true) (hl : kvs.length < line) (ha : H a = some o) (c : CR K F θ H (.dct t kvs) o) (hu : VR K F θ H k u) (hd : VR K F θ H d w)
    (fk : ∀ o', Fk F θ H F θ (upd H a o')) : ∃ o', DPut H a u w (upd H a o') ∧ CR K F θ (upd H a o') (.dct t (putK kvs k d)) o' := by
  have hs : sizeLine = line := sizeLine_eq
  cases t with
  | false =>
    obtain ⟨ws, rfl, r⟩ := c
    obtain ⟨k', e1, rfl, ok⟩ := key_val hk hu
    exact ⟨_, .inl ⟨ws, k', ha, rfl, by rw [← r.length]; omega, rfl⟩, _, rfl, KR.mono (fk _) _ _ (r.put e1 ok hd)⟩
  | true =>
    obtain ⟨ws, rfl, r⟩ := c
    obtain ⟨k', b, e1, rfl, hb, ok⟩ := tkey_val hk hu
    exact ⟨_, .inr ⟨ws, k', b, ha, rfl, hb, by rw [← r.length]; omega, rfl⟩, _, rfl, TR.mono (fk _) _ _ (r.put e1 ok hd)⟩
def rSet : TSet := fun o i v H Q => rSetD o i v H Q ∨ rSetL o i v H Q
theorem set_any {X : Cx} (hu : X.A.units + 1 < cLine) : PSet X rSet := fun pins s σ H o i v ov iv u Q I ro ri rv h => h.elim (set_dict hu pins s σ H o i v ov iv u Q I ro ri rv) (set_list pins s σ H o i v ov iv u Q I ro ri rv)
theorem tSt.put {i : Nat} {k v : E} (h : tSt fr (exS Φ (.put i k v)) D σ H) : tAsg (tE fr (evE Φ v)) (gSub (tVar i) (tE fr (evE Φ k)) rSet) D σ H := by
  obtain ⟨F, θ, env, mem, s, o⟩ := h
  obtain ⟨x, m1, e1, o⟩ := Out.thenO o
  obtain ⟨y, m2, e2, o⟩ := Out.thenO o
  split at o
  · rename_i t kvs hx
    split at o
    · rename_i hh
      obtain ⟨a, u, h1, h2, h3, h4, h5⟩ := s.sl.own i _ hx
      refine ⟨F, θ, env, mem, x, m1, s, e1, fun θ1 w H1 t1 ms1 r1 => ⟨.ref a, h1, F, θ1, env, m1, y, m2, s.step t1 ms1, e2, fun θ2 z H2 t2 ms2 r2 => ?_⟩⟩
      have t12 := t1.trans t2
      obtain ⟨o', p1, p2⟩ := dput_own hh.1 hh.2 (t12.keep a _ h2 (s.ms.Fθ a h4)) (h3.mono t12.fk) r2 (VR.mono t2.fk _ _ r1) (fun o' => own_fk h4)
      exact .inl ⟨a, _, rfl, p1, o F θ2 _ _ (t12.fk.trans (own_fk h4)) (((s.step t1 ms1).step t2 ms2).ownUpd hx h1 p2)⟩
    · exact o.elim
  · rename_i xs hx
    split at o
    · rename_i j
      split at o
      · rename_i j' hj
        obtain ⟨a, u, h1, h2, h3, h4, h5⟩ := s.sl.own i _ hx
        obtain ⟨vs, rfl, hv⟩ := h3
        refine ⟨F, θ, env, mem, x, m1, s, e1, fun θ1 w H1 t1 ms1 r1 => ⟨.ref a, h1, F, θ1, env, m1, _, m2, s.step t1 ms1, e2, fun θ2 z H2 t2 ms2 r2 => ?_⟩⟩
        have t12 := t1.trans t2
        have fk : Fk F θ2 H2 F θ2 (upd H2 a (.lst (vs.set j' w))) := own_fk h4
        refine .inr ⟨a, vs, j, j', rfl, r2, t12.keep a _ h2 (s.ms.Fθ a h4), by rw [← hv.length]; exact hj, ?_⟩
        exact o F θ2 _ _ (t12.fk.trans fk) (((s.step t1 ms1).step t2 ms2).ownUpd hx h1 ⟨_, rfl, VRs.set _ (VRs.mono fk _ _ (VRs.mono t12.fk _ _ hv)) (VR.mono fk _ _ (VR.mono t2.fk _ _ r1))⟩)
      · exact o.elim
    · exact o.elim
  · exact o.elim
theorem tSt.oapp {a e : E} (hK : fr.K = K) (h : tSt fr (exS Φ (.oapp a e)) D σ H) : tDrop (tBM K "list" rAppend (tE fr (evE Φ a)) (tCons (tE fr (evE Φ e)) tNil)) D σ H := by
  obtain ⟨F, θ, env, mem, s, o⟩ := h
  obtain ⟨x, m1, e1, o⟩ := Out.thenO o
  split at o
  · rename_i hl
    obtain ⟨d, m2, e2, o⟩ := Out.thenO o
    cases x with
    | obj n =>
      simp only at o
      split at o
      · rename_i xs hx
        split at o
        · rename_i hz
          refine ⟨F, θ, env, mem, _, m1, s, e1, fun θ1 v H1 t1 ms1 r1 => ?_⟩
          simp only [VR] at r1
          obtain ⟨b, rfl, hb⟩ := r1
          have ty : ∃ vs, H1 b = some (.lst vs) := by
            simp only [isLstO] at hl
            cases em : m1[n]? with
            | none => rw [em] at hl; cases hl
            | some d0 =>
              rw [em] at hl
              obtain ⟨b', u, q1, q2, q3⟩ := ms1.at_ n d0 em
              rw [hb] at q1; cases q1
              cases d0 with
              | lst ys => obtain ⟨vs, rfl, _⟩ := q3; exact ⟨vs, q2⟩
              | _ => cases hl
          obtain ⟨vs1, hv1⟩ := ty
          refine ⟨.inl ⟨rfl, vs1, SqL.of hv1⟩, F, θ1, env, m1, d, m2, s.step t1 ms1, e2, fun θ2 w H2 t2 ms2 r2 => ?_⟩
          obtain ⟨b', u, q1, q2, q3⟩ := ms2.at_ n _ hx
          rw [t2.pre n b hb] at q1; cases q1
          obtain ⟨vs, rfl, hv⟩ := q3
          have sr2 := (s.step t1 ms1).step t2 ms2
          have am : b ∈ θ2 := List.mem_of_getElem? (t2.pre n b hb)
          have fk : Fk F θ2 H2 F θ2 (upd H2 b (.lst (vs ++ [w]))) := ⟨fun c o e f z => ⟨by rw [upd_ne (fun q => z (by rw [q]; exact am))]; exact e, f, z⟩, fun _ _ e => e⟩
          obtain ⟨s3, t3⟩ := sr2.objUpd (d' := .lst (xs ++ [d])) (o' := .lst (vs ++ [w])) (t2.pre n b hb) ⟨_, rfl, VRs.append (VRs.mono fk _ _ hv) ⟨w, [], rfl, VR.mono fk _ _ r2, rfl⟩⟩
          exact ⟨b, vs, w, rfl, rfl, q2, by rw [← hv.length]; have : sizeLine = line := sizeLine_eq; omega, o F θ2 _ _ ((t1.trans t2).trans t3).fk s3⟩
        · exact o.elim
      · exact o.elim
    | _ => cases hl
  · exact o.elim
theorem tSt.oput {a k v : E} (h : tSt fr (exS Φ (.oput a k v)) D σ H) : tAsg (tE fr (evE Φ v)) (gSub (tE fr (evE Φ a)) (tE fr (evE Φ k)) rSet) D σ H := by
  obtain ⟨F, θ, env, mem, s, o⟩ := h
  obtain ⟨x, m1, e1, o⟩ := Out.thenO o
  obtain ⟨c, m2, e2, o⟩ := Out.thenO o
  obtain ⟨y, m3, e3, o⟩ := Out.thenO o
  cases c with
  | obj n =>
    simp only at o
    refine ⟨F, θ, env, mem, x, m1, s, e1, fun θ1 w H1 t1 ms1 r1 => ⟨F, θ1, env, m1, _, m2, s.step t1 ms1, e2, fun θ2 z H2 t2 ms2 r2 => ?_⟩⟩
    simp only [VR] at r2
    obtain ⟨b, rfl, hb⟩ := r2
    refine ⟨F, θ2, env, m2, y, m3, (s.step t1 ms1).step t2 ms2, e3, fun θ3 z H3 t3 ms3 r3 => ?_⟩
    have hb3 := t3.pre n b hb
    have sr3 := ((s.step t1 ms1).step t2 ms2).step t3 ms3
    have am : b ∈ θ3 := List.mem_of_getElem? hb3
    have fk : ∀ o', Fk F θ3 H3 F θ3 (upd H3 b o') := fun o' => ⟨fun c o e f z => ⟨by rw [upd_ne (fun q => z (by rw [q]; exact am))]; exact e, f, z⟩, fun _ _ e => e⟩
    have r1' := VR.mono (t2.trans t3).fk _ _ r1
    split at o
    · rename_i t kvs hx
      split at o
      · rename_i hh
        obtain ⟨b', u, q1, q2, q3⟩ := ms3.at_ n _ hx
        rw [hb3] at q1; cases q1
        obtain ⟨o', p1, p2⟩ := dput_own hh.1 hh.2 q2 q3 r3 r1' fk
        obtain ⟨s4, t4⟩ := sr3.objUpd hb3 p2
        exact .inl ⟨b, _, rfl, p1, o F θ3 _ _ (((t1.trans t2).trans t3).trans t4).fk s4⟩
      · exact o.elim
    · rename_i xs hx
      split at o
      · rename_i j
        split at o
        · rename_i j' hj
          obtain ⟨b', u, q1, q2, q3⟩ := ms3.at_ n _ hx
          rw [hb3] at q1; cases q1
          obtain ⟨vs, rfl, hv⟩ := q3
          obtain ⟨s4, t4⟩ := sr3.objUpd (d' := .lst (xs.set j' x)) (o' := .lst (vs.set j' w)) hb3 ⟨_, rfl, VRs.set _ (VRs.mono (fk _) _ _ hv) (VR.mono (fk _) _ _ r1')⟩
          exact .inr ⟨b, vs, j, j', rfl, r3, q2, by rw [← hv.length]; exact hj, o F θ3 _ _ (((t1.trans t2).trans t3).trans t4).fk s4⟩
        · exact o.elim
      · exact o.elim
    · exact o.elim
  | _ => exact o.elim
theorem tSt.oclr {a : E} (hK : fr.K = K) (h : tSt fr (exS Φ (.oclr a)) D σ H) : tDrop (fun σ H Q => tBM0 K "dict" rDClear (tE fr (evE Φ a)) σ H Q ∨ tBM0 K "list" rClear (tE fr (evE Φ a)) σ H Q) D σ H := by
  obtain ⟨F, θ, env, mem, s, o⟩ := h
  obtain ⟨x, m1, e1, o⟩ := Out.thenO o
  cases x with
  | obj n =>
    simp only at o
    split at o
    · rename_i t kvs hx
      split at o
      · rename_i ht
        subst ht
        refine .inl ⟨F, θ, env, mem, _, m1, s, e1, fun θ1 v H1 t1 ms1 r1 => ?_⟩
        simp only [VR] at r1
        obtain ⟨b, rfl, hb⟩ := r1
        obtain ⟨b', u, q1, q2, q3⟩ := ms1.at_ n _ hx
        rw [hb] at q1; cases q1
        obtain ⟨ws, rfl, r⟩ := q3
        obtain ⟨s4, t4⟩ := (s.step t1 ms1).objUpd (d' := .dct false []) (o' := .dK []) hb ⟨[], rfl, rfl⟩
        exact ⟨.inr (.inr (.inl ⟨rfl, .inl ⟨ws, q2⟩⟩)), b, ws, rfl, rfl, q2, o F θ1 _ _ (t1.trans t4).fk s4⟩
      · exact o.elim
    · rename_i xs hx
      refine .inr ⟨F, θ, env, mem, _, m1, s, e1, fun θ1 v H1 t1 ms1 r1 => ?_⟩
      simp only [VR] at r1
      obtain ⟨b, rfl, hb⟩ := r1
      obtain ⟨b', u, q1, q2, q3⟩ := ms1.at_ n _ hx
      rw [hb] at q1; cases q1
      obtain ⟨vs, rfl, r⟩ := q3
      obtain ⟨s4, t4⟩ := (s.step t1 ms1).objUpd (d' := .lst []) (o' := .lst []) hb ⟨[], rfl, rfl⟩
      exact ⟨.inl ⟨rfl, vs, SqL.of q2⟩, b, vs, rfl, rfl, q2, o F θ1 _ _ (t1.trans t4).fk s4⟩
    · exact o.elim
  | _ => exact o.elim
/-! ### loops -/
theorem forL_cons {g : G} {body : Env → Mem → O} {d : Mp.D} {ds : List Mp.D} {env : Env} {m : Mem} {o : O} (h : forL g body (d :: ds) env m = o) (hn : Out fr D o F θ H) :
    ∃ e1, bindG g d env = some e1 ∧ (∀ e2 m2, (body e1 m = .nx e2 m2 ∨ body e1 m = .ct e2 m2) → forL g body ds e2 m2 = o) ∧ (∀ e2 m2, body e1 m = .bk e2 m2 → o = .nx e2 m2) ∧ (∀ b d' m2, body e1 m = .rt b d' m2 → o = .rt b d' m2) ∧ (∀ a b, body e1 m = .ex a b → o = .ex a b) ∧ body e1 m ≠ .no := by
  unfold forL at h
  split at h
  · subst h; exact hn.elim
  · rename_i e1 he
    refine ⟨e1, he, fun e2 m2 hb => ?_, fun e2 m2 hb => ?_, fun b d' m2 hb => ?_, fun a b hb => ?_, fun hb => ?_⟩
    · rcases hb with hb | hb
      · rw [hb] at h; exact h
      · rw [hb] at h; exact h
    · rw [hb] at h; exact h.symm
    · rw [hb] at h; exact h.symm
    · rw [hb] at h; exact h.symm
    · rw [hb] at h; subst h; exact hn
theorem tSt.fo {g : G} {it : I} {b : Ss} (h : tSt fr (exS Φ (.fo g it b)) D σ H) : tFor (tI fr false (evI Φ it)) (gG fr g) (tSt fr (exSs Φ b)) D σ H := by
  obtain ⟨F, θ, env, mem, s, o⟩ := h
  unfold exS at o
  split at o
  · obtain ⟨ds, m1, e1, o⟩ := Out.thenO o
    refine ⟨F, θ, env, mem, ds, m1, s, e1, fun θ1 H1 J t1 ms1 wk => ?_⟩
    have o := Out.mono o (t1.fk (F := F))
    generalize hout : forL g (fun e m => exSs Φ b e m) ds env m1 = out at o
    refine ⟨fun i m σ H => m = ds.length - i ∧ i ≤ ds.length ∧ ∃ F' θ' env' mem', Fk F θ1 H1 F' θ' H ∧ SR fr F' θ' env' mem' σ H ∧ forL g (fun e m => exSs Φ b e m) (ds.drop i) env' mem' = out, ⟨ds.length, by simp, Nat.zero_le _, F, θ1, env, m1, .refl, s.step t1 ms1, hout⟩, ?_⟩
    rintro i m σ2 H2 ⟨rfl, hi, F', θ', env', mem', fk, s2, hf⟩
    obtain ⟨w1, w2⟩ := wk F' θ' mem' H2 ⟨fk, fun z => nomatch z⟩ s2.ms
    by_cases hlt : i < ds.length
    · have hdi : ds[i]? = some ds[i] := List.getElem?_eq_getElem hlt
      obtain ⟨go, yl⟩ := w1 i _ hdi
      refine .inr ⟨go, fun σ H => ∃ F' θ' env' mem', Fk F θ1 H1 F' θ' H ∧ SR fr F' θ' env' mem' σ H ∧ forL g (fun e m => exSs Φ b e m) (ds.drop (i + 1)) env' mem' = out, fun σ' H' hN => ⟨ds.length - (i + 1), by omega, rfl, hlt, hN⟩, fun x H3 y => ?_⟩
      obtain ⟨t3, ms3, rx⟩ := yl x H3 y
      rw [List.drop_eq_getElem_cons hlt] at hf
      obtain ⟨ev1, hb, n1, n2, n3, n4, n5⟩ := forL_cons hf o
      refine ⟨F', θ', env', mem', ds[i], ev1, s2.step t3 ms3, rx, hb, fun σ4 _ s4 => ?_⟩
      have fk3 : Fk F θ1 H1 F' θ' H3 := fk.trans t3.fk
      refine ⟨F', θ', ev1, mem', s4, ?_⟩
      cases eb : exSs Φ b ev1 mem' with
      | nx e2 m2 => exact fun F5 θ5 σ5 H5 k5 s5 => ⟨F5, θ5, e2, m2, fk3.trans k5, s5, n1 e2 m2 (.inl eb)⟩
      | ct e2 m2 => exact fun F5 θ5 σ5 H5 k5 s5 => ⟨F5, θ5, e2, m2, fk3.trans k5, s5, n1 e2 m2 (.inr eb)⟩
      | bk e2 m2 =>
        have z := n2 e2 m2 eb
        subst z
        exact fun F5 θ5 σ5 H5 k5 s5 => o F5 θ5 σ5 H5 (fk3.trans k5) s5
      | rt b' d' m2 =>
        have z := n3 b' d' m2 eb
        subst z
        exact o
      | ex a c =>
        have z := n4 a c eb
        subst z
        exact Out.mono (D := D) o fk3
      | no => exact (n5 eb).elim
    · have hi' : i = ds.length := by omega
      subst hi'
      refine .inl ⟨w2, ?_⟩
      rw [List.drop_length] at hf
      unfold forL at hf
      subst hf
      exact o F' θ' σ2 H2 fk s2
  · exact o.elim
theorem obj_fk {F : Addr → Prop} {θ : List Addr} {H : Hp} {b : Addr} {o' : HO} (am : b ∈ θ) : Fk F θ H F θ (upd H b o') := ⟨fun c o e f z => ⟨by rw [upd_ne (fun q => z (by rw [q]; exact am))]; exact e, f, z⟩, fun _ _ e => e⟩
theorem tSt.satt {o v : E} {js : List Nat} {x : T} (hC : ∀ j ∈ js, ∃ C, TellC Φ j C ∧ Cls fr.K C ∧ NoAttr fr.K C (tS x)) (h : tSt fr (exS Φ (.satt o js x v)) D σ H) : sFld fr.K (tE fr (evE Φ o)) (tE fr (evE Φ v)) (tS x) D σ H := by
  obtain ⟨F, θ, env, mem, s, o0⟩ := h
  obtain ⟨d, m1, e1, o1⟩ := Out.thenO o0
  obtain ⟨a, m2, e2, o2⟩ := Out.thenO o1
  split at o2
  · rename_i n C fs hi
    split at o2
    · rename_i hl
      obtain ⟨rfl, hm, j, hj, hw⟩ := insO_some hi
      obtain ⟨C', t, cl, na⟩ := hC j hj
      obtain rfl := isOwn_eq t hw
      refine ⟨F, θ, env, mem, d, m1, s, e1, fun θ1 y H1 t1 ms1 r1 => ⟨F, θ1, env, m1, .obj n, m2, s.step t1 ms1, e2, fun θ2 w H2 t2 ms2 r2 => ?_⟩⟩
      simp only [VR] at r2
      obtain ⟨b, rfl, hb⟩ := r2
      obtain ⟨dx, ws, h2, fr2⟩ := ms2.ins hm hb
      have sr2 := (s.step t1 ms1).step t2 ms2
      have fk : Fk F θ2 H2 F θ2 (upd H2 b (.ins C dx (putF (tS x) y ws))) := obj_fk (List.mem_of_getElem? hb)
      obtain ⟨ms3, t3⟩ := ms2.objUpd (d' := .ins C (putFd x d fs)) (o' := .ins C dx (putF (tS x) y ws)) hb ⟨dx, _, rfl, FR.put (VR.mono fk _ _ (VR.mono t2.fk _ _ r1)) (FR.mono fk _ _ fr2)⟩
      exact ⟨b, C, dx, ws, rfl, h2, cl, na, by rw [← fr2.len]; exact hl, o2 F θ2 σ _ ((t1.trans t2).trans t3).fk (sr2.step t3 ms3)⟩
    · exact o2.elim
  · exact o2.elim
theorem tSt.aatt {o v : E} {js : List Nat} {x : T} (hC : ∀ j ∈ js, ∃ C, TellC Φ j C ∧ Cls fr.K C ∧ NoAttr fr.K C (tS x)) (h : tSt fr (exS Φ (.aatt o js x v)) D σ H) : sFldAug fr.K (tE fr (evE Φ o)) (tE fr (evE Φ v)) L2.rAdd (tS x) D σ H := by
  obtain ⟨F, θ, env, mem, s, o0⟩ := h
  obtain ⟨a, m1, e1, o1⟩ := Out.thenO o0
  split at o1
  · rename_i n C fs hi
    split at o1
    · rename_i i hfx
      obtain ⟨d, m2, e2, o2⟩ := Out.thenO o1
      split at o2
      · rename_i k C1 fs1 hm2
        split at o2
        · rename_i hc
          obtain ⟨rfl, hl⟩ := hc
          obtain ⟨rfl, hm, j, hj, hw⟩ := insO_some hi
          obtain ⟨C', t, cl, na⟩ := hC j hj
          obtain rfl := isOwn_eq t hw
          refine ⟨F, θ, env, mem, .obj n, m1, s, e1, fun θ1 y H1 t1 ms1 r1 => ?_⟩
          simp only [VR] at r1
          obtain ⟨b, rfl, hb⟩ := r1
          obtain ⟨dx, ws, h2, fr2⟩ := ms1.ins hm hb
          obtain ⟨w, hw1, hw2⟩ := fr2.get hfx
          simp only [VR] at hw2
          subst hw2
          refine ⟨b, C1, dx, ws, .int i, rfl, h2, cl, na, hw1, F, θ1, env, m1, .int k, m2, s.step t1 ms1, e2, fun θ2 y H2 t2 ms2 r2 => ?_⟩
          simp only [VR] at r2
          subst r2
          have hb2 := t2.pre n b hb
          obtain ⟨dx2, ws2, h3, fr3⟩ := ms2.ins hm2 hb2
          have sr2 := (s.step t1 ms1).step t2 ms2
          have fk : Fk F θ2 H2 F θ2 (upd H2 b (.ins C1 dx2 (putF (tS x) (.int (i + k)) ws2))) := obj_fk (List.mem_of_getElem? hb2)
          have hv : VR fr.K F θ2 (upd H2 b (.ins C1 dx2 (putF (tS x) (.int (i + k)) ws2))) (.int (i + k)) (.int (i + k)) := by simp only [VR]
          obtain ⟨ms3, t3⟩ := ms2.objUpd (d' := .ins C1 (putFd x (.int (i + k)) fs1)) (o' := .ins C1 dx2 (putF (tS x) (.int (i + k)) ws2)) hb2 ⟨dx2, _, rfl, FR.put hv (FR.mono fk _ _ fr3)⟩
          exact ⟨i, k, rfl, rfl, dx2, ws2, h3, by rw [← fr3.len]; exact hl, o2 F θ2 σ _ ((t1.trans t2).trans t3).fk (sr2.step t3 ms3)⟩
        · exact o2.elim
      · exact o2.elim
    · exact o1.elim
  · exact o1.elim
theorem tSt.inc {i : Nat} {e : E} (h : tSt fr (exS Φ (.inc i e)) D σ H) : tAug i (tE fr (evE Φ e)) (rI0 fun i j => .int (i + j)) D σ H := by
  obtain ⟨F, θ, env, mem, s, o⟩ := h
  unfold exS at o
  split at o
  · rename_i k hx
    obtain ⟨d, m1, e1, o⟩ := Out.thenO o
    split at o
    · rename_i j
      obtain ⟨v, h1, h2⟩ := s.sl.val i _ hx
      simp only [VR] at h2
      subst h2
      refine ⟨.int k, h1, F, θ, env, mem, _, m1, s, e1, fun θ' v H' t m r => ?_⟩
      simp only [VR] at r
      subst r
      exact ⟨k, j, rfl, rfl, o F θ' _ H' t.fk ((s.step t m).setVal i rfl)⟩
    · exact o.elim
  · exact o.elim
theorem tSt.oext {a e : E} (hK : fr.K = K) (h : tSt fr (exS Φ (.oext a e)) D σ H) : tDrop (tBM K "list" rExtend (tE fr (evE Φ a)) (tCons (tE fr (evE Φ e)) tNil)) D σ H := by
  obtain ⟨F, θ, env, mem, s, o⟩ := h
  obtain ⟨x, m1, e1, o⟩ := Out.thenO o
  split at o
  · rename_i hl
    obtain ⟨d, m2, e2, o⟩ := Out.thenO o
    cases x with
    | obj n =>
      cases d with
      | lst ys =>
        simp only at o
        split at o
        · rename_i xs hx
          split at o
          · rename_i hz
            refine ⟨F, θ, env, mem, _, m1, s, e1, fun θ1 v H1 t1 ms1 r1 => ?_⟩
            simp only [VR] at r1
            obtain ⟨b, rfl, hb⟩ := r1
            have ty : ∃ vs, H1 b = some (.lst vs) := by
              simp only [isLstO] at hl
              cases em : m1[n]? with
              | none => rw [em] at hl; cases hl
              | some d0 =>
                rw [em] at hl
                obtain ⟨b', u, q1, q2, q3⟩ := ms1.at_ n d0 em
                rw [hb] at q1; cases q1
                cases d0 with
                | lst ys => obtain ⟨vs, rfl, _⟩ := q3; exact ⟨vs, q2⟩
                | _ => cases hl
            obtain ⟨vs1, hv1⟩ := ty
            refine ⟨.inl ⟨rfl, vs1, SqL.of hv1⟩, F, θ1, env, m1, _, m2, s.step t1 ms1, e2, fun θ2 w H2 t2 ms2 r2 => ?_⟩
            have hb2 := t2.pre n b hb
            obtain ⟨b', u, q1, q2, q3⟩ := ms2.at_ n _ hx
            rw [hb2] at q1; cases q1
            obtain ⟨vs, rfl, hv⟩ := q3
            simp only [VR] at r2
            obtain ⟨c, us, rfl, p1, p2, p3, p4⟩ := r2
            have sr2 := (s.step t1 ms1).step t2 ms2
            have fk : Fk F θ2 H2 F θ2 (upd H2 b (.lst (vs ++ us))) := obj_fk (List.mem_of_getElem? hb2)
            obtain ⟨s3, t3⟩ := sr2.objUpd (d' := .lst (xs ++ ys)) (o' := .lst (vs ++ us)) hb2 ⟨_, rfl, VRs.append (VRs.mono fk _ _ hv) (VRs.mono fk _ _ p4)⟩
            exact ⟨b, c, vs, us, rfl, rfl, q2, p1, by rw [← hv.length, ← p4.length]; have : sizeLine = line := sizeLine_eq; omega, o F θ2 _ _ ((t1.trans t2).trans t3).fk s3⟩
          · exact o.elim
        · exact o.elim
      | _ => exact o.elim
    | _ => cases hl
  · exact o.elim
theorem tSt.fol {g : G} {e : E} {b : Ss} (h : tSt fr (exS Φ (.fol g e b)) D σ H) : tFor (iList fr.K (tE fr (evE Φ e))) (gG fr g) (tSt fr (exSs Φ b)) D σ H := by
  obtain ⟨F, θ, env, mem, s, o⟩ := h
  unfold exS at o
  obtain ⟨x, m1, e1, o⟩ := Out.thenO o
  refine ⟨F, θ, env, mem, x, m1, s, e1, fun θ1 v H1 t1 ms1 rx => ?_⟩
  have o := Out.mono o (t1.fk (F := F))
  cases x with
  | obj h =>
    simp only [VR] at rx
    obtain ⟨a, rfl, ha⟩ := rx
    have live : ∀ {F' θ' env' mem' σ' H'} {n i : Nat} {out : Mp.O}, Fk F θ1 H1 F' θ' H' → SR fr F' θ' env' mem' σ' H' → forV g (fun e m => exSs Φ b e m) h n i env' mem' = out → Out fr D out F θ1 H1 →
        ∃ k xs vs, n = k + 1 ∧ mem'[h]? = some (.lst xs) ∧ H' a = some (.lst vs) ∧ VRs fr.K F' θ' H' xs vs ∧ (match xs[i]? with
          | none => out = .nx env' mem'
          | some d => ∃ ev1, bindG g d env' = some ev1 ∧ (∀ e2 m2, (exSs Φ b ev1 mem' = .nx e2 m2 ∨ exSs Φ b ev1 mem' = .ct e2 m2) → forV g (fun e m => exSs Φ b e m) h k (i + 1) e2 m2 = out) ∧ (∀ e2 m2, exSs Φ b ev1 mem' = .bk e2 m2 → out = .nx e2 m2) ∧ (∀ b' d' m2, exSs Φ b ev1 mem' = .rt b' d' m2 → out = .rt b' d' m2) ∧ (∀ x y, exSs Φ b ev1 mem' = .ex x y → out = .ex x y) ∧ exSs Φ b ev1 mem' ≠ .no) := by
      intro F' θ' env' mem' σ' H' n i out fk s' hf o
      cases n with
      | zero => unfold forV at hf; subst hf; exact o.elim
      | succ k =>
        unfold forV at hf
        split at hf
        · rename_i xs hx
          obtain ⟨a', u, p1, p2, ct⟩ := s'.ms.at_ h _ hx
          have pa : a' = a := Option.some.inj (p1.symm.trans (fk.pre h a ha))
          subst pa
          rcases ct.cr with (⟨q, z⟩ | ⟨C, fs, z⟩) | ⟨vs, rfl, rv⟩
          · cases z
          · cases z
          refine ⟨k, xs, vs, rfl, hx, p2, rv, ?_⟩
          split at hf
          · rename_i hn
            try simp only [hn]
            exact hf.symm
          · rename_i d hd
            try simp only [hd]
            split at hf
            · subst hf; exact o.elim
            · rename_i ev1 hb
              refine ⟨ev1, hb, fun e2 m2 he => ?_, fun e2 m2 he => ?_, fun b' d' m2 he => ?_, fun x y he => ?_, fun he => ?_⟩
              · rcases he with he | he
                · rw [he] at hf; exact hf
                · rw [he] at hf; exact hf
              · rw [he] at hf; exact hf.symm
              · rw [he] at hf; exact hf.symm
              · rw [he] at hf; exact hf.symm
              · rw [he] at hf; subst hf; exact o
        · subst hf; exact o.elim
    replace o : Out fr D (forV g (fun e m => exSs Φ b e m) h most 0 env m1) F θ1 H1 := o
    generalize hout : forV g (fun e m => exSs Φ b e m) h most 0 env m1 = out at o
    obtain ⟨_, _, vs0, _, _, p0, _, _⟩ := live .refl (s.step t1 ms1) hout o
    refine ⟨a, rfl, ⟨vs0, SqL.of p0⟩, ?_⟩
    refine ⟨fun i n σ H => ∃ F' θ' env' mem', Fk F θ1 H1 F' θ' H ∧ SR fr F' θ' env' mem' σ H ∧ forV g (fun e m => exSs Φ b e m) h n i env' mem' = out, ⟨most, F, θ1, env, m1, .refl, s.step t1 ms1, hout⟩, ?_⟩
    rintro i n σ2 H2 ⟨F', θ', env', mem', fk, s2, hf⟩
    obtain ⟨k, xs, vs, rfl, hx, hv, rv, hm⟩ := live fk s2 hf o
    cases hd : xs[i]? with
    | none =>
      simp only [hd] at hm
      subst hm
      refine .inl ⟨⟨vs, SqL.of hv, ?_⟩, o F' θ' σ2 H2 fk s2⟩
      rw [← rv.length]
      exact List.getElem?_eq_none_iff.mp hd
    | some d =>
      simp only [hd] at hm
      obtain ⟨ev1, hb, n1, n2, n3, n4, n5⟩ := hm
      obtain ⟨v, hvi, rd⟩ := rv.get hd
      refine .inr ⟨⟨vs, v, SqL.of hv, hvi⟩, fun σ H => ∃ F' θ' env' mem', Fk F θ1 H1 F' θ' H ∧ SR fr F' θ' env' mem' σ H ∧ forV g (fun e m => exSs Φ b e m) h k (i + 1) env' mem' = out, fun σ' H' hN => ⟨k, Nat.lt_succ_self k, hN⟩, fun x H3 y => ?_⟩
      obtain ⟨rfl, y⟩ := y
      have e2 := y vs (SqL.of hv)
      rw [hvi] at e2; cases e2
      refine ⟨F', θ', env', mem', d, ev1, s2, rd, hb, fun σ4 _ s4 => ?_⟩
      refine ⟨F', θ', ev1, mem', s4, ?_⟩
      cases eb : exSs Φ b ev1 mem' with
      | nx e2 m2 => exact fun F5 θ5 σ5 H5 k5 s5 => ⟨F5, θ5, e2, m2, fk.trans k5, s5, n1 e2 m2 (.inl eb)⟩
      | ct e2 m2 => exact fun F5 θ5 σ5 H5 k5 s5 => ⟨F5, θ5, e2, m2, fk.trans k5, s5, n1 e2 m2 (.inr eb)⟩
      | bk e2 m2 =>
        have z := n2 e2 m2 eb
        subst z
        exact fun F5 θ5 σ5 H5 k5 s5 => o F5 θ5 σ5 H5 (fk.trans k5) s5
      | rt b' d' m2 =>
        have z := n3 b' d' m2 eb
        subst z
        exact o
      | ex a c =>
        have z := n4 a c eb
        subst z
        exact Out.mono (D := D) o fk
      | no => exact (n5 eb).elim
  | _ => exact o.elim
theorem tSt.wh {t : E} {b : Ss} (h : tSt fr (exS Φ (.wh t b)) D σ H) : tWhile (tT fr (evE Φ t)) (tSt fr (exSs Φ b)) D σ H := by
  obtain ⟨F, θ, env, mem, s, o⟩ := h
  unfold exS at o
  generalize hout : whL (fun e m => evE Φ t e m) (fun e m => exSs Φ b e m) most env mem = out at o
  refine ⟨fun m σ2 H2 => ∃ F' θ' env' mem', Fk F θ H F' θ' H2 ∧ SR fr F' θ' env' mem' σ2 H2 ∧ whL (fun e m => evE Φ t e m) (fun e m => exSs Φ b e m) m env' mem' = out, ⟨most, F, θ, env, mem, .refl, s, hout⟩, ?_⟩
  rintro m σ2 H2 ⟨F', θ', env', mem', fk, s2, hw⟩
  cases m with
  | zero => unfold whL at hw; subst hw; exact o.elim
  | succ n =>
    unfold whL at hw
    have hw' := hw
    rw [← hw] at o
    obtain ⟨c, m1, e1, o1⟩ := Out.thenO o
    simp only [e1, R.ok_thenO] at hw
    cases c with
    | bl c =>
      cases c with
      | true =>
        refine ⟨F', θ', env', mem', true, m1, s2, e1, fun θ3 H3 t3 ms3 => ite_pos' rfl ?_⟩
        have fk3 : Fk F θ H F' θ3 H3 := fk.trans t3.fk
        refine ⟨fun σ H' => ∃ F' θ' env' mem', Fk F θ H F' θ' H' ∧ SR fr F' θ' env' mem' σ H' ∧ whL (fun e m => evE Φ t e m) (fun e m => exSs Φ b e m) n env' mem' = out, fun σ' H' hN => ⟨n, Nat.lt_succ_self n, hN⟩, F', θ3, env', m1, s2.step t3 ms3, ?_⟩
        simp only at hw
        cases eb : exSs Φ b env' m1 with
        | nx e2 m2 =>
          rw [eb] at hw
          exact fun F5 θ5 σ5 H5 k5 s5 => ⟨F5, θ5, e2, m2, fk3.trans k5, s5, hw⟩
        | ct e2 m2 =>
          rw [eb] at hw
          exact fun F5 θ5 σ5 H5 k5 s5 => ⟨F5, θ5, e2, m2, fk3.trans k5, s5, hw⟩
        | bk e2 m2 =>
          simp only [eb] at o1
          exact fun F5 θ5 σ5 H5 k5 s5 => o1 F5 θ5 σ5 H5 (fk3.trans k5) s5
        | rt b' d' m2 =>
          simp only [eb] at o1
          exact o1
        | ex a c => simp only [eb] at o1; exact Out.mono (D := D) o1 fk3
        | no => simp only [eb] at o1; exact o1.elim
      | false =>
        refine ⟨F', θ', env', mem', false, m1, s2, e1, fun θ3 H3 t3 ms3 => ite_neg' Bool.false_ne_true ?_⟩
        exact o1 F' θ3 σ2 H3 (fk.trans t3.fk) (s2.step t3 ms3)
    | _ => exact o1.elim
end
end Mp

set_option linter.all false
set_option autoImplicit false
set_option maxRecDepth 100000
set_option maxHeartbeats 2000000
/-! Mp20: parallel assignments. -/
namespace Mp
open PySem PySem.Spec PyProof.Rows L2

def Ps.ta (Φ : Fs) (fr : Fr) : Ps → TA
  | .nil => tNil
  | .e _ x r => tCons (tE fr (evE Φ x)) (r.ta Φ fr)
  | .f _ x r => tCons (tF fr (evF Φ x)) (r.ta Φ fr)
def Ps.len : Ps → Nat
  | .nil => 0
  | .e _ _ r => r.len + 1
  | .f _ _ r => r.len + 1
/-- a value that waits for its slot -/
def Wait (fr : Fr) (F : Addr → Prop) (θ : List Addr) (H : Hp) (x : Sl) (v : V) (H0 H1 : Hp) : Prop := match x with
  | .val d => VR fr.K F θ H d v
  | .own d => ∃ p o, v = .ref p ∧ H p = some o ∧ CR fr.K F θ H d o ∧ F p ∧ fr.He p = none ∧ H0 p = none ∧ H1 p ≠ none
  | .no => False
/-- values that wait, made one after another: from the heap H0 -/
def Pend (fr : Fr) (F : Addr → Prop) (θ : List Addr) (H : Hp) : Hp → List (Nat × Sl) → List V → Prop
  | _, [], vs => vs = []
  | H0, (_, x) :: xs, vs => ∃ v r H1, vs = v :: r ∧ (∀ a, H1 a = none → H0 a = none) ∧ Wait fr F θ H x v H0 H1 ∧ Pend fr F θ H H1 xs r
section
variable {fr : Fr} {Φ : Fs}
theorem pend_read : ∀ {ps : Ps} {F : Addr → Prop} {θ : List Addr} {env : Env} {mem m' : Mem} {σ : L2.St} {H : Hp} {xs : List (Nat × Sl)} {Q : List V → Hp → Prop}, SR fr F θ env mem σ H → exPs Φ ps env mem = .ok xs m' →
    (∀ F' θ' vs H', Fk F θ H F' θ' H' → (∀ a o, F a → H a = some o → H' a = some o) → (∀ a, F a → F' a) → SR fr F' θ' env m' σ H' → Pend fr F' θ' H' H xs vs → Q vs H') → ps.ta Φ fr σ H Q
  | .nil, F, θ, env, mem, m', σ, H, xs, Q, s, e, q => by
    cases e
    exact q F θ [] H .refl (fun _ _ _ e => e) (fun _ z => z) s rfl
  | .e i x r, F, θ, env, mem, m', σ, H, xs, Q, s, e, q => by
    obtain ⟨d, m1, e1, e⟩ := Mp.R.bind_ok e
    obtain ⟨ds, m2, e2, e⟩ := Mp.R.bind_ok e
    cases e
    refine ⟨F, θ, env, mem, d, m1, s, e1, fun θ1 v H1 t1 ms1 r1 => ?_⟩
    refine pend_read (s.step t1 ms1) e2 fun F' θ' vs H' k kp sub s' pd => ?_
    exact q F' θ' (v :: vs) H' (t1.fk.trans k) (fun a o f h => kp a o f (t1.keep a o h (s.ms.Fθ a f))) sub s' ⟨v, vs, H1, rfl, fun a z => s.ms.was ms1 t1 z, VR.mono k _ _ r1, pd⟩
  | .f i x r, F, θ, env, mem, m', σ, H, xs, Q, s, e, q => by
    obtain ⟨d, m1, e1, e⟩ := Mp.R.bind_ok e
    obtain ⟨ds, m2, e2, e⟩ := Mp.R.bind_ok e
    cases e
    refine ⟨F, θ, env, mem, d, m1, s, e1, fun θ1 p o H1 t1 hp ho ms1 c => ?_⟩
    refine pend_read (s.own t1 hp ms1) e2 fun F' θ' vs H' k kp sub s' pd => ?_
    refine q F' θ' (.ref p :: vs) H' ((own_tr t1 hp).trans k) (fun a u f h => kp a u (.inl f) (t1.keep a u h (s.ms.Fθ a f))) (fun a z => sub a (.inl z)) s' ⟨.ref p, vs, H1, rfl, fun a z => s.ms.was ms1 t1 z, ?_, pd⟩
    exact ⟨p, o, rfl, kp p o (.inr rfl) ho, c.mono k, sub p (.inr rfl), s.he hp, hp, by rw [ho]; simp⟩
def setsV : List (Nat × Sl) → List V → L2.St → L2.St
  | (i, _) :: xs, v :: vs, σ => setsV xs vs (σ.set i (some v))
  | _, _, σ => σ
theorem pend_store {F : Addr → Prop} {θ : List Addr} {mem : Mem} {H : Hp} : ∀ {xs : List (Nat × Sl)} {vs : List V} {H0 : Hp} {env : Env} {σ : L2.St}, SR fr F θ env mem σ H →
    (∀ (j : Nat) (d : D) (a : Addr), gt env j = .own d → σ[j]? = some (some (.ref a)) → H0 a ≠ none) → Pend fr F θ H H0 xs vs → SR fr F θ (stores xs env) mem (setsV xs vs σ) H
  | [], vs, H0, env, σ, s, _, p => by
    cases (show vs = [] from p)
    exact s
  | (i, x) :: xs, vs, H0, env, σ, s, hs, p => by
    obtain ⟨v, r, H1, rfl, dom, w, pd⟩ := p
    cases x with
    | no => exact w.elim
    | val d =>
      refine pend_store (σ := σ.set i (some v)) (env := st env i (.val d)) (s.setVal i w) (fun j d' a e z => ?_) pd
      by_cases hj : i = j
      · subst hj
        by_cases hl : i < env.length
        · rw [gt_st_same hl] at e; cases e
        · rw [gt_ge (by rw [st_length]; omega)] at e; cases e
      · rw [gt_st_ne hj] at e
        rw [List.getElem?_set_ne hj] at z
        exact fun q => hs j d' a e z (dom a q)
    | own d =>
      obtain ⟨p, o, rfl, h1, h2, h3, h4, h5, h6⟩ := w
      refine pend_store (σ := σ.set i (some (.ref p))) (env := st env i (.own d)) ⟨s.ms, s.bs, s.sl.setOwn i h1 h2 h3 h4 fun j d' e z => hs j d' p e z h5⟩ (fun j d' a e z => ?_) pd
      by_cases hj : i = j
      · subst hj
        have hl : i < σ.length := by
          refine Nat.lt_of_not_le fun q => ?_
          rw [List.getElem?_eq_none (by simpa using q)] at z; cases z
        rw [List.getElem?_set_self hl] at z
        cases z
        exact h6
      · rw [gt_st_ne hj] at e
        rw [List.getElem?_set_ne hj] at z
        exact fun q => hs j d' a e z (dom a q)
def Ps.sl : Ps → List Nat
  | .nil => []
  | .e i _ r => i :: r.sl
  | .f i _ r => i :: r.sl
theorem exPs_sl : ∀ {ps : Ps} {env : Env} {m m' : Mem} {xs : List (Nat × Sl)}, exPs Φ ps env m = .ok xs m' → xs.map (·.1) = ps.sl
  | .nil, _, _, _, _, e => by cases e; rfl
  | .e i x r, env, m, m', xs, e => by
    obtain ⟨d, m1, e1, e⟩ := Mp.R.bind_ok e
    obtain ⟨ds, m2, e2, e⟩ := Mp.R.bind_ok e
    cases e
    show i :: ds.map (·.1) = i :: r.sl
    rw [exPs_sl e2]
  | .f i x r, env, m, m', xs, e => by
    obtain ⟨d, m1, e1, e⟩ := Mp.R.bind_ok e
    obtain ⟨ds, m2, e2, e⟩ := Mp.R.bind_ok e
    cases e
    show i :: ds.map (·.1) = i :: r.sl
    rw [exPs_sl e2]
theorem tSt.par {ps : Ps} {D : Ends} {σ : L2.St} {H : Hp} (h : tSt fr (exS Φ (.par ps)) D σ H) : ps.ta Φ fr σ H fun vs H1 => ∃ xs, xs.map (·.1) = ps.sl ∧ vs.length = xs.length ∧ D.nx (setsV xs vs σ) H1 := by
  obtain ⟨F, θ, env, mem, s, o⟩ := h
  obtain ⟨xs, m1, e1, o⟩ := Out.thenO o
  refine pend_read s e1 fun F' θ' vs H' k kp sub s' pd => ⟨xs, exPs_sl e1, ?_, o F' θ' _ H' k (pend_store s' (fun j d a e z q => ?_) pd)⟩
  · have len : ∀ {xs : List (Nat × Sl)} {vs : List V} {H0 : Hp}, Pend fr F' θ' H' H0 xs vs → vs.length = xs.length := by
      intro xs
      induction xs with
      | nil => intro vs H0 p; cases (show vs = [] from p); rfl
      | cons x xs ih =>
        intro vs H0 p
        obtain ⟨i, x⟩ := x
        obtain ⟨v, r, H1, rfl, _, _, p⟩ := p
        rw [List.length_cons, List.length_cons, ih p]
    exact len pd
  · obtain ⟨b, u, h1, h2, _⟩ := s.sl.own j d e
    rw [z] at h1
    cases h1
    rw [q] at h2; cases h2
theorem tSt.par2 {ps : Ps} {D : Ends} {σ : L2.St} {H : Hp} {i j : Nat} (hs : ps.sl = [i, j]) (h : tSt fr (exS Φ (.par ps)) D σ H) : tPar i j (ps.ta Φ fr) D σ H := by
  have z := tSt.par h
  have mono : ∀ {ps : Ps} {σ : L2.St} {H : Hp} {Q Q' : List V → Hp → Prop}, (∀ vs H, Q vs H → Q' vs H) → ps.ta Φ fr σ H Q → ps.ta Φ fr σ H Q' := by
    intro ps
    induction ps with
    | nil => intro σ H Q Q' hq h; exact hq _ _ h
    | e i x r ih =>
      intro σ H Q Q' hq h
      obtain ⟨F, θ, env, mem, d, mem', s, e, q⟩ := h
      exact ⟨F, θ, env, mem, d, mem', s, e, fun θ' v H' t m r => ih (fun vs H h => hq _ _ h) (q θ' v H' t m r)⟩
    | f i x r ih =>
      intro σ H Q Q' hq h
      obtain ⟨F, θ, env, mem, d, mem', s, e, q⟩ := h
      exact ⟨F, θ, env, mem, d, mem', s, e, fun θ' p o H' t hp ho m c => ih (fun vs H h => hq _ _ h) (q θ' p o H' t hp ho m c)⟩
  refine mono (fun vs H ⟨xs, e, hl, q⟩ => ?_) z
  rw [hs] at e
  obtain ⟨x, y, rfl⟩ : ∃ x y, xs = [x, y] := by
    match xs, e with
    | [x, y], _ => exact ⟨x, y, rfl⟩
  obtain ⟨v, w, rfl⟩ : ∃ v w, vs = [v, w] := by
    match vs, hl with
    | [v, w], _ => exact ⟨v, w, rfl⟩
  simp only [List.map_cons, List.map_nil] at e
  injection e with e1 e2
  injection e2 with e2 _
  refine ⟨v, w, rfl, ?_⟩
  rw [← e1, ← e2]
  exact q
theorem tSt.par3 {ps : Ps} {D : Ends} {σ : L2.St} {H : Hp} {i j l : Nat} (hs : ps.sl = [i, j, l]) (h : tSt fr (exS Φ (.par ps)) D σ H) : tPar3 i j l (ps.ta Φ fr) D σ H := by
  have z := tSt.par h
  have mono : ∀ {ps : Ps} {σ : L2.St} {H : Hp} {Q Q' : List V → Hp → Prop}, (∀ vs H, Q vs H → Q' vs H) → ps.ta Φ fr σ H Q → ps.ta Φ fr σ H Q' := by
    intro ps
    induction ps with
    | nil => intro σ H Q Q' hq h; exact hq _ _ h
    | e i x r ih =>
      intro σ H Q Q' hq h
      obtain ⟨F, θ, env, mem, d, mem', s, e, q⟩ := h
      exact ⟨F, θ, env, mem, d, mem', s, e, fun θ' v H' t m r => ih (fun vs H h => hq _ _ h) (q θ' v H' t m r)⟩
    | f i x r ih =>
      intro σ H Q Q' hq h
      obtain ⟨F, θ, env, mem, d, mem', s, e, q⟩ := h
      exact ⟨F, θ, env, mem, d, mem', s, e, fun θ' p o H' t hp ho m c => ih (fun vs H h => hq _ _ h) (q θ' p o H' t hp ho m c)⟩
  refine mono (fun vs H ⟨xs, e, hl, q⟩ => ?_) z
  rw [hs] at e
  obtain ⟨x, y, u, rfl⟩ : ∃ x y u, xs = [x, y, u] := by
    match xs, e with
    | [x, y, u], _ => exact ⟨x, y, u, rfl⟩
  obtain ⟨v, w, r, rfl⟩ : ∃ v w r, vs = [v, w, r] := by
    match vs, hl with
    | [v, w, r], _ => exact ⟨v, w, r, rfl⟩
  simp only [List.map_cons, List.map_nil] at e
  injection e with e1 e2
  injection e2 with e2 e3
  injection e3 with e3 _
  refine ⟨v, w, r, rfl, ?_⟩
  rw [← e1, ← e2, ← e3]
  exact q

/-! ### which way an assignment to several names is done -/
def swp (sc : Scope) (targets : List Expr) (value : Expr) : Bool := match targets, value with
  | [.Tuple ts _ _], .Tuple vs _ _ =>
    let line := (ts.head?.map (·.pos.line)).getD 0
    let names := ts.filterMap fun
      | .Name id pos => if sc.names.lookup id == some .local && pos.line == line then some id else none
      | _ => none
    (!(ts.length == 2 || ts.length == 3) || vs.length != ts.length) || (names.length != ts.length || names.eraseDups.length != names.length) || vs.all (foldedForSure 8)
  | [.List _ _], _ => false
  | _, _ => true
theorem swp_none {sc : Scope} {targets : List Expr} {value : Expr} {env : PySem.Env} (hs : env.scope = sc) (h : swp sc targets value = true) : swappedStores targets value env = pure none := by
  subst hs
  unfold swp at h
  split at h
  · rename_i ts k p vs k2 p2
    simp only [swappedStores, Env.kindOf]
    dsimp only at h
    split
    · rfl
    · rename_i h1
      split
      · rfl
      · rcases (Bool.or_eq_true _ _).mp h with h | h
        · rcases (Bool.or_eq_true _ _).mp h with h | h
          · exact absurd (by rw [h, Bool.true_or]) h1
          · exact if_pos h
        · simp only [h, if_true, ite_self]
  · cases h
  · rename_i n1 n2
    unfold swappedStores
    split
    · rename_i heq
      split at heq
      · exact (n2 _ _ _ _ _ _ rfl rfl).elim
      · exact (n1 _ _ rfl).elim
      · cases heq
    · rfl
/-- stored from the right: plain local names of one line -/
def swq (sc : Scope) (ts vs : List Expr) (names : List Str) : Bool :=
  let line := (ts.head?.map (·.pos.line)).getD 0
  (ts.length == 2 || ts.length == 3) && (vs.length == ts.length) && vs.all noStar && (names.length == ts.length) && (names.eraseDups.length == names.length) && !vs.all (foldedForSure 8) && !vs.all (constantsAlone 8) &&
    decide ((ts.filterMap fun
      | .Name id pos => if sc.names.lookup id == some .local && pos.line == line then some id else none
      | _ => none) = names)
theorem swcore {L names : List Str} {n : Nat} {c d : Bool} {u : Sem (Option (List Str))} (e : L = names) (h4 : (names.length == n) = true) (h5 : (names.eraseDups.length == names.length) = true) (h6 : c = false) (h7 : d = false) :
    (if (L.length != n || L.eraseDups.length != L.length) = true then (pure none : Sem (Option (List Str))) else if c = true then pure none else if d = true then u else pure (some L)) = pure (some names) := by
  subst e h6 h7
  rw [if_neg (by simp only [bne, h4, h5]; decide), if_neg Bool.false_ne_true, if_neg Bool.false_ne_true]
theorem swq_some {sc : Scope} {ts vs : List Expr} {names : List Str} {env : PySem.Env} {k k2 : Nat} {p p2 : Pos} (hs : env.scope = sc) (hk : sc.kind = .function) (h : swq sc ts vs names = true) : swappedStores [.Tuple ts k p] (.Tuple vs k2 p2) env = pure (some names) := by
  subst hs
  unfold swq at h
  dsimp only at h
  obtain ⟨h, h8⟩ := (Bool.and_eq_true_iff (x := _) (y := _)).mp h
  obtain ⟨h, h7⟩ := (Bool.and_eq_true_iff (x := _) (y := _)).mp h
  obtain ⟨h, h6⟩ := (Bool.and_eq_true_iff (x := _) (y := _)).mp h
  obtain ⟨h, h5⟩ := (Bool.and_eq_true_iff (x := _) (y := _)).mp h
  obtain ⟨h, h4⟩ := (Bool.and_eq_true_iff (x := _) (y := _)).mp h
  obtain ⟨h, h3⟩ := (Bool.and_eq_true_iff (x := _) (y := _)).mp h
  obtain ⟨h1, h2⟩ := (Bool.and_eq_true_iff (x := _) (y := _)).mp h
  have h8 := of_decide_eq_true h8
  have hb : (env.blockKind != ScopeKind.function) = false := by unfold Env.blockKind; rw [hk]; rfl
  simp only [swappedStores, Env.kindOf]
  rw [if_neg (by rw [h1, hb]; simp only [bne, h2]; decide), if_neg (fun z => by
    obtain ⟨x, hx, q⟩ := List.any_eq_true.mp z
    have w := List.all_eq_true.mp h3 x hx
    cases x with
    | Starred => cases w
    | _ => cases q)]
  exact swcore h8 h4 h5 (by simpa using h6) (by simpa using h7)
end
end Mp

set_option linter.all false
set_option autoImplicit false
set_option maxRecDepth 100000
set_option maxHeartbeats 1000000
/-! Mp29: walks over a dict that nobody changes: it is locked meanwhile. -/
namespace Mp
open PySem PySem.Spec PyProof.Rows L2

section
variable {fr : Fr} {F : Addr → Prop} {θ : List Addr} {H : Hp} {env : Env} {mem : Mem} {σ : L2.St} {d : Addr} {od : Obj} {ws : List (Key × V)}
theorem RtOk.unlock {own : Bool} {x : D} {v : V} (r : RtOk (lockFr fr d od (.dK ws)) own x F θ mem v H) (hd : ∀ o, fr.He d = some o → o = .dK ws) (nθe : d ∉ fr.θe) : H d = some (.frz od (.dK ws)) ∧ RtOk fr own x F θ mem v (upd H d (.dK ws)) := by
  obtain ⟨h, nθ⟩ := locked r.bs nθe
  refine ⟨h, MS.unlock r.ms h nθ, r.bs.unlock hd nθ, fun e => VR.sw (sw_unlock h) x v (r.vl e), fun e => ?_⟩
  obtain ⟨p, o, h1, h2, h3, h4, h5⟩ := r.ow e
  have ne : p ≠ d := fun q => by
    subst q
    rw [h] at h2; cases h2
    exact absurd rfl (h3.plain _ _)
  have h5' : upd fr.He d (.frz od (.dK ws)) p = none := h5
  rw [upd_ne ne] at h5'
  exact ⟨p, o, h1, by rw [upd_ne ne]; exact h2, h3.sw (sw_unlock h), h4, h5'⟩
/-- the ends under the lock -/
def lockD (D : Ends) (d : Addr) (od : Obj) (u : HO) : Ends := ⟨fun σ' H' => H' d = some (.frz od u) ∧ D.nx σ' (upd H' d u), fun v H' => H' d = some (.frz od u) ∧ D.rt v (upd H' d u), fun σ' H' => H' d = some (.frz od u) ∧ D.bk σ' (upd H' d u), fun σ' H' => H' d = some (.frz od u) ∧ D.ct σ' (upd H' d u)⟩
theorem fk_unlock {F' : Addr → Prop} {θ' : List Addr} {H' : Hp} (k : Fk F θ (upd H d (.frz od (.dK ws))) F' θ' H') (h : H d = some (.dK ws)) (nF : ¬ F d) (nθ : d ∉ θ) : Fk F θ H F' θ' (upd H' d (.dK ws)) := ⟨fun a o e f t => by
  by_cases q : a = d
  · subst q
    rw [h] at e; cases e
    obtain ⟨_, f', t'⟩ := k.keep a _ upd_same f t
    exact ⟨upd_same, f', t'⟩
  · obtain ⟨e', f', t'⟩ := k.keep a o (by rw [upd_ne q]; exact e) f t
    exact ⟨by rw [upd_ne q]; exact e', f', t'⟩, k.pre⟩
theorem Out.lock {D : Ends} {o : O} (x : Out fr D o F θ H) (hx : ∀ a b, o ≠ .ex a b) (h : H d = some (.dK ws)) (nF : ¬ F d) (nθ : d ∉ θ) (hd : ∀ o, fr.He d = some o → o = .dK ws) (nθe : d ∉ fr.θe) : Out (lockFr fr d od (.dK ws)) (lockD D d od (.dK ws)) o F θ (upd H d (.frz od (.dK ws))) := by
  cases o with
  | nx e m => exact fun F' θ' σ' H' k s => let ⟨h1, s1⟩ := s.unlock hd nθe; ⟨h1, x F' θ' σ' _ (fk_unlock k h nF nθ) s1⟩
  | bk e m => exact fun F' θ' σ' H' k s => let ⟨h1, s1⟩ := s.unlock hd nθe; ⟨h1, x F' θ' σ' _ (fk_unlock k h nF nθ) s1⟩
  | ct e m => exact fun F' θ' σ' H' k s => let ⟨h1, s1⟩ := s.unlock hd nθe; ⟨h1, x F' θ' σ' _ (fk_unlock k h nF nθ) s1⟩
  | rt own e m => exact fun F' θ' v H' r => let ⟨h1, r1⟩ := r.unlock hd nθe; ⟨h1, x F' θ' v _ r1⟩
  | ex a b => exact absurd rfl (hx a b)
  | no => exact x
end
section
variable {fr : Fr} {D : Ends} {Φ : Fs} {F : Addr → Prop} {θ : List Addr} {H : Hp} {env : Env} {mem : Mem} {σ : L2.St}
/-- the readings of a body, whatever the frame -/
def bEx (K : PySem.W.Frag) (T : List Addr) (P : XK → Prop) (Φ : Fs) (b : Ss) : TS := fun D σ H => ∃ fr : Fr, fr.K = K ∧ fr.T = T ∧ P fr.E ∧ tSt fr (exSs Φ b) D σ H
theorem fo_core {P : XK → Prop} {g : G} {b : Ss} {ds : List Mp.D} {J : It} (hP : P fr.E) (s : SR fr F θ env mem σ H) (o : Out fr D (forL g (fun e m => exSs Φ b e m) ds env mem) F θ H) (wk : Walk fr.K false F θ H ds J) :
    ∃ W : Nat → Nat → L2.St → Hp → Prop, (∃ m, W 0 m σ H) ∧ ∀ i m σ H, W i m σ H →
      (J.stop i H ∧ D.nx σ H) ∨ (J.go i H ∧ ∃ N : L2.St → Hp → Prop, (∀ σ' H', N σ' H' → ∃ m', m' < m ∧ W (i + 1) m' σ' H') ∧ ∀ x H', J.yld i H x H' → gEx fr.K fr.T g x σ H' fun σ2 H2 => bEx fr.K fr.T P Φ b { D with nx := N, ct := N, bk := D.nx } σ2 H2) := by
  generalize hout : forL g (fun e m => exSs Φ b e m) ds env mem = out at o
  refine ⟨fun i m σ H0 => m = ds.length - i ∧ i ≤ ds.length ∧ ∃ F' θ' env' mem', Fk F θ H F' θ' H0 ∧ SR fr F' θ' env' mem' σ H0 ∧ forL g (fun e m => exSs Φ b e m) (ds.drop i) env' mem' = out, ⟨ds.length, by simp, Nat.zero_le _, F, θ, env, mem, .refl, s, hout⟩, ?_⟩
  rintro i m σ2 H2 ⟨rfl, hi, F', θ', env', mem', fk, s2, hf⟩
  obtain ⟨w1, w2⟩ := wk F' θ' mem' H2 ⟨fk, fun z => nomatch z⟩ s2.ms
  by_cases hlt : i < ds.length
  · have hdi : ds[i]? = some ds[i] := List.getElem?_eq_getElem hlt
    obtain ⟨go, yl⟩ := w1 i _ hdi
    refine .inr ⟨go, fun σ H0 => ∃ F' θ' env' mem', Fk F θ H F' θ' H0 ∧ SR fr F' θ' env' mem' σ H0 ∧ forL g (fun e m => exSs Φ b e m) (ds.drop (i + 1)) env' mem' = out, fun σ' H' hN => ⟨ds.length - (i + 1), by omega, rfl, hlt, hN⟩, fun x H3 y => ?_⟩
    obtain ⟨t3, ms3, rx⟩ := yl x H3 y
    rw [List.drop_eq_getElem_cons hlt] at hf
    obtain ⟨ev1, hb, n1, n2, n3, n4, n5⟩ := forL_cons hf o
    refine ⟨fr, rfl, rfl, F', θ', env', mem', ds[i], ev1, s2.step t3 ms3, rx, hb, fun σ4 _ s4 => ?_⟩
    have fk3 : Fk F θ H F' θ' H3 := fk.trans t3.fk
    refine ⟨fr, rfl, rfl, hP, F', θ', ev1, mem', s4, ?_⟩
    cases eb : exSs Φ b ev1 mem' with
    | nx e2 m2 => exact fun F5 θ5 σ5 H5 k5 s5 => ⟨F5, θ5, e2, m2, fk3.trans k5, s5, n1 e2 m2 (.inl eb)⟩
    | ct e2 m2 => exact fun F5 θ5 σ5 H5 k5 s5 => ⟨F5, θ5, e2, m2, fk3.trans k5, s5, n1 e2 m2 (.inr eb)⟩
    | bk e2 m2 =>
      have z := n2 e2 m2 eb
      subst z
      exact fun F5 θ5 σ5 H5 k5 s5 => o F5 θ5 σ5 H5 (fk3.trans k5) s5
    | rt b' d' m2 =>
      have z := n3 b' d' m2 eb
      subst z
      exact o
    | ex a c =>
      have z := n4 a c eb
      subst z
      exact Out.mono (D := D) o fk3
    | no => exact (n5 eb).elim
  · have hi' : i = ds.length := by omega
    subst hi'
    refine .inl ⟨w2, ?_⟩
    rw [List.drop_length] at hf
    unfold forL at hf
    subst hf
    exact o F' θ' σ2 H2 fk s2
theorem noX_out {D : Ends} {o : O} (h : Out fr D (noX o) F θ H) : Out fr D o F θ H ∧ ∀ a b, o ≠ .ex a b := by
  cases o with
  | ex a b => exact h.elim
  | nx e m => exact ⟨h, fun _ _ z => nomatch z⟩
  | bk e m => exact ⟨h, fun _ _ z => nomatch z⟩
  | ct e m => exact ⟨h, fun _ _ z => nomatch z⟩
  | rt b d m => exact ⟨h, fun _ _ z => nomatch z⟩
  | no => exact h.elim
theorem tSt.fok {P : XK → Prop} (hP : P fr.E) (hP0 : P (fun _ _ _ => False)) {g : G} {i : Nat} {w : Bool} {b : Ss} (h : tSt fr (exS Φ (.fok g i w b)) D σ H) :
    tLock (tFor (iKD w i) (gEx fr.K fr.T g) (bEx fr.K fr.T P Φ b)) D σ H ∨ tFor (iKD w i) (gEx fr.K fr.T g) (bEx fr.K fr.T P Φ b) D σ H := by
  obtain ⟨F, θ, env, mem, s, o⟩ := h
  unfold exS at o
  split at o
  · rename_i kvs hg
    obtain ⟨v, hv, r⟩ := s.sl.val i _ hg
    simp only [VR] at r
    obtain ⟨d, ws, rfl, hq, nF, nθ, kr⟩ := r
    obtain ⟨o, hx⟩ := noX_out o
    have fin : ∀ {fr' : Fr} {D' : Ends} {H' : Hp} {x : Obj}, fr'.K = fr.K → fr'.T = fr.T → P fr'.E → SR fr' F θ env mem σ H' → Out fr' D' (forL g (fun e m => exSs Φ b e m) (walkD w kvs) env mem) F θ H' → H' d = some (.frz x (.dK ws)) → KR fr'.K F θ H' kvs ws → tFor (iKD w i) (gEx fr.K fr.T g) (bEx fr.K fr.T P Φ b) D' σ H' := by
      intro fr' D' H' x hK hT' hP' s' o' hd' kr'
      have c := fo_core (P := P) hP' s' o' (walkKD (w := w) hd' nF nθ kr')
      rw [hK, hT'] at c
      cases w with
      | true => exact ⟨.ref d, hv, d, x, ws, rfl, hd', c⟩
      | false => exact ⟨.ref d, hv, d, x, rfl, .inl ⟨ws, hd', c⟩⟩
    rcases hq with hq | ⟨x, hq⟩
    · refine .inl ⟨d, .dK ws, hq, trivial, fun od => ?_⟩
      have nθe : d ∉ fr.θe := fun z => by
        obtain ⟨j, hj, e⟩ := List.getElem_of_mem z
        exact nθ (List.mem_of_getElem? (s.bs.tr.pre j d (by rw [List.getElem?_eq_getElem hj, e])))
      have hd : ∀ o, fr.He d = some o → o = .dK ws := fun o e => by
        have := s.bs.tr.keep d o e nθe
        rw [hq] at this; cases this; rfl
      exact fin (fr' := lockFr fr d od (.dK ws)) (D' := lockD D d od (.dK ws)) rfl rfl hP0 (s.lock hq nF nθ) (o.lock hx hq nF nθ hd nθe) upd_same (KR.sw (sw_lock hq) _ _ kr)
    · exact .inr (fin rfl rfl hP s o hq kr)
  · exact o.elim
end
end Mp

set_option linter.all false
set_option autoImplicit false
set_option maxRecDepth 100000
set_option maxHeartbeats 4000000
/-! Mp21: statements keep what the evaluator tells. -/
namespace Mp
open PySem PySem.Spec PyProof.Rows L2

def noComp : Expr → Bool
  | .ListComp _ _ _ _ => false
  | .SetComp _ _ _ _ => false
  | .DictComp _ _ _ _ _ => false
  | _ => true
theorem sw_no {e : Expr} {t : Option Expr} {l : Nat} {env : PySem.Env} (h : noComp e = true) : swapsWith e t l env = pure false := by
  cases e with
  | ListComp => cases h
  | SetComp => cases h
  | DictComp => cases h
  | _ => rfl
theorem sole_no {e t : Expr} {l : Nat} {env : PySem.Env} (h : noComp e = true) : swapsWithSole [t] e l env = pure false := sw_no h
theorem sw_cell {e : Expr} {x : Str} {p : Pos} {l : Nat} {env : PySem.Env} (h : (noComp e || isCel env.scope x) = true) : swapsWith e (some (.Name x p)) l env = pure false := by
  rw [Bool.or_eq_true] at h
  rcases h with h | h
  · exact sw_no h
  · have k : env.kindOf x = some .cell := isCel_of h
    cases e with
    | ListComp =>
      unfold swapsWith
      simp only [k]
      have e1 : ((some NameKind.cell : Option NameKind) == some NameKind.local) = false := by decide
      simp only [e1, Bool.and_false, Bool.false_and]
    | SetComp =>
      unfold swapsWith
      simp only [k]
      have e1 : ((some NameKind.cell : Option NameKind) == some NameKind.local) = false := by decide
      simp only [e1, Bool.and_false, Bool.false_and]
    | DictComp =>
      unfold swapsWith
      simp only [k]
      have e1 : ((some NameKind.cell : Option NameKind) == some NameKind.local) = false := by decide
      simp only [e1, Bool.and_false, Bool.false_and]
    | _ => rfl
theorem sub_assign {o i : Expr} {pos : Pos} {env : PySem.Env} (h : plainIx i = true) : ∀ v, assign (.Subscript o i pos) env v = (do
      let ov ← holding [v] (eval o env)
      let iv ← holding [v, ov] (eval i env)
      standAt pos
      holding [v, ov, iv] (setItem ov iv v)
      release [v, ov, iv] []) := by
  intro v
  cases i with
  | Slice => cases h
  | _ => rfl

structure CtxS (X : Cx) (fr : Fr) (G : Glo) (N : List Str) (sc : Scope) (k : Nat) (Φ : Fs) : Prop extends CtxE X fr G N sc k Φ where
  fn : ∀ x, X.fn x = true
  kind : sc.kind = .function
  po : PassesOwn (model X.prog X.w) X.A X.env X.xe
  tk : Takes X (fun cls d _ H => fr.E cls d H)

/-- a name that may be stored to -/
def stC (N : List Str) (sc : Scope) (i : Nat) (x : Str) : Bool := decide (N[i]? = some x) && (isLoc sc x || isCel sc x)
def isFrz : S → Bool
  | .frz _ => true
  | .shr _ => true
  | _ => false
def isTupG : G → Bool
  | .tp _ => true
  | _ => false
def mthC (m : Str) (want : Str) (o : Expr) (apos cpos : Pos) : Bool := (m == want) && (apos.endLine == cpos.line) && noSuper o
/-- a comprehension that is stored as it is made -/
def lcC (N : List Str) (sc : Scope) (i : Nat) (x : Str) (px : Pos) (v : Expr) : Bool := match v with
  | .ListComp _ _ scope pos => isLoc sc x && (px.line == pos.line) && !(scope.names.any fun (n, k) => n == x && (k == .local || k == .cell))
  | _ => false
def chkPs (G : Glo) (N : List Str) (sc : Scope) : Ps → List Expr → Bool
  | .nil, vs => match vs with
    | [] => true
    | _ => false
  | .e _ x r, vs => match vs with
    | [] => false
    | v :: vs => noStar v && chkE G N sc x v && chkPs G N sc r vs
  | .f _ x r, vs => match vs with
    | [] => false
    | v :: vs => noStar v && chkF G N sc x v && chkPs G N sc r vs
/-- expressions that may raise: calls, one within another; is None -/
def chkX (G : Glo) (N : List Str) (sc : Scope) : E → Expr → Bool
  | .xcall f es, e => match e with
    | .Call (.Name x _) xs [] _ => isGlb sc x && okN x && xs.all noStar && hasDef G.defs x f && decide (xs ≠ []) && chkEs G N sc es xs
    | _ => false
  | .xarg f a, e => match e with
    | .Call (.Name x _) [y] [] _ => isGlb sc x && okN x && noStar y && hasDef G.defs x f && chkX G N sc a y
    | _ => false
  | .isN neg a, e => match e with
    | .Compare x [op] [.Constant .none _ _] _ => isNOp neg op && chkX G N sc a x
    | _ => false
  | _, _ => false
mutual
def chkS (G : Glo) (N : List Str) (sc : Scope) : S → Stmt → Bool
  | .set i e, s => match s with
    | .Assign [.Name x _] v _ => stC N sc i x && (noComp v || isCel sc x) && chkE G N sc e v
    | _ => false
  | .own i f, s => match s with
    | .Assign [.Name x px] v _ => stC N sc i x && chkF G N sc f v && ((noComp v || isCel sc x) || lcC N sc i x px v)
    | _ => false
  | .asg g e, s => match s with
    | .Assign [t] v _ => isTupG g && swp sc [t] v && noComp v && chkG true N sc g t && chkE G N sc e v
    | _ => false
  | .par ps, s => match s with
    | .Assign [.Tuple [.Name x px, .Name y py] _ _] (.Tuple [a, b] _ _) _ => match ps.sl with
      | [i, j] => decide (N[i]? = some x) && decide (N[j]? = some y) && decide (i ≠ j) && isLoc sc x && isLoc sc y && chkPs G N sc ps [a, b] && swq sc [.Name x px, .Name y py] [a, b] [x, y]
      | _ => false
    | .Assign [.Tuple [.Name x px, .Name y py, .Name z pz] _ _] (.Tuple [a, b, c] _ _) _ => match ps.sl with
      | [i, j, l] => decide (N[i]? = some x) && decide (N[j]? = some y) && decide (N[l]? = some z) && decide (i ≠ j ∧ i ≠ l ∧ j ≠ l) && isLoc sc x && isLoc sc y && isLoc sc z && chkPs G N sc ps [a, b, c] && swq sc [.Name x px, .Name y py, .Name z pz] [a, b, c] [x, y, z]
      | _ => false
    | _ => false
  | .app i e, s => match s with
    | .Expr (.Call (.Attribute (.Name x _) m apos) [y] [] cpos) _ => mthC m "append" (.Name x apos) apos cpos && nameC N sc i x && noStar y && chkE G N sc e y
    | _ => false
  | .ext i e, s => match s with
    | .Expr (.Call (.Attribute (.Name x _) m apos) [y] [] cpos) _ => mthC m "extend" (.Name x apos) apos cpos && nameC N sc i x && noStar y && chkE G N sc e y
    | _ => false
  | .popA g i e, s => match s with
    | .Assign [t] (.Call (.Attribute (.Name x px) m apos) ys [] cpos) _ => mthC m "pop" (.Name x apos) apos cpos && nameC N sc i x &&
        (match g, t with
        | .nm j, .Name y _ => stC N sc j y
        | .tp _, _ => swp sc [t] (.Call (.Attribute (.Name x px) m apos) ys [] cpos) && chkG true N sc g t
        | _, _ => false) &&
        (match e, ys with
        | .no, [] => true
        | .so e, [y] => noStar y && chkE G N sc e y
        | _, _ => false)
    | _ => false
  | .aug i e, s => match s with
    | .AugAssign (.Name x _) op y _ => (match op with | .Add => true | _ => false) && stC N sc i x && chkE G N sc e y
    | _ => false
  | .put i k v, s => match s with
    | .Assign [.Subscript (.Name x _) y _] z _ => plainIx y && nameC N sc i x && noComp z && chkE G N sc k y && chkE G N sc v z
    | _ => false
  | .upd _ _, _ => false
  | .oapp o e, s => match s with
    | .Expr (.Call (.Attribute x m apos) [y] [] cpos) _ => mthC m "append" x apos cpos && noStar y && chkE G N sc o x && chkE G N sc e y
    | _ => false
  | .oput o k v, s => match s with
    | .Assign [.Subscript x y _] z _ => plainIx y && noComp z && chkE G N sc o x && chkE G N sc k y && chkE G N sc v z
    | _ => false
  | .oclr o, s => match s with
    | .Expr (.Call (.Attribute x m apos) [] [] cpos) _ => mthC m "clear" x apos cpos && chkE G N sc o x
    | _ => false
  | .satt o js x v, s => match s with
    | .Assign [.Attribute y m _] z _ => (m == tS x) && noComp z && (js.all fun j => match G.clss[j]? with | some c => c.flds.contains x | none => false) && chkE G N sc o y && chkE G N sc v z
    | _ => false
  | .aatt o js x v, s => match s with
    | .AugAssign (.Attribute y m _) op z _ => (match op with | .Add => true | _ => false) && (m == tS x) && (js.all fun j => match G.clss[j]? with | some c => c.flds.contains x | none => false) && chkE G N sc o y && chkE G N sc v z
    | _ => false
  | .inc i e, s => match s with
    | .AugAssign (.Name x _) op y _ => (match op with | .Add => true | _ => false) && stC N sc i x && chkE G N sc e y
    | _ => false
  | .oext o e, s => match s with
    | .Expr (.Call (.Attribute x m apos) [y] [] cpos) _ => mthC m "extend" x apos cpos && noStar y && chkE G N sc o x && chkE G N sc e y
    | _ => false
  | .frz _, _ => false
  | .shr _, _ => false
  | .iff t a b, s => match s with
    | .If c x y _ => tOk t c && chkE G N sc t c && chkSs G N sc a x && chkSs G N sc b y
    | _ => false
  | .fo g it b, s => match s with
    | .For tg x body [] _ => isAs it && noSet x && chkI G N sc it tg x && chkG true N sc g tg && chkSs G N sc b body
    | _ => false
  | .fol g e b, s => match s with
    | .For tg x body [] _ => noSet x && chkE G N sc e x && chkG true N sc g tg && chkSs G N sc b body
    | _ => false
  | .fok g i w b, s => match s with
    | .For tg x body [] _ => (match w, x with
        | true, .Call (.Attribute (.Name y _) m apos) [] [] cpos => (m == ("items" : Str)) && (apos.endLine == cpos.line) && nameC N sc i y && isTup tg
        | false, .Name y _ => nameC N sc i y
        | _, _ => false) && chkG true N sc g tg && chkSs G N sc b body
    | _ => false
  | .wh t b, s => match s with
    | .While c body [] _ => tOk t c && chkE G N sc t c && chkSs G N sc b body
    | _ => false
  | .ret e, s => match s with
    | .Return (some x) _ => chkE G N sc e x
    | .Return none _ => (match e with | .non => true | _ => false)
    | _ => false
  | .retF f, s => match s with
    | .Return (some x) _ => chkF G N sc f x
    | _ => false
  | .retX i, s => match s with
    | .Return (some (.Name x _)) _ => nameC N sc i x
    | _ => false
  | .exp e, s => match s with
    | .Expr x _ => noComp x && chkE G N sc e x
    | _ => false
  | .brk, s => match s with
    | .Break _ => true
    | _ => false
  | .cnt, s => match s with
    | .Continue _ => true
    | _ => false
  | .pass, s => match s with
    | .Pass _ => true
    | .Expr (.Constant (.str _) _ _) _ => true
    | _ => false
  | .never, _ => true
  | .raise x i m, s => match s with
    | .Raise (some (.Call (.Name y _) [.Constant (.str t) _ _] [] _)) none _ => isGlb sc x && okN x && (y == x) && (t == tS m) && (match G.excs[i]? with | some (z, true) => z == x | _ => false)
    | _ => false
  | .xexp e, s => match s with
    | .Expr x _ => noComp x && chkX G N sc e x
    | _ => false
  | .xset i e, s => match s with
    | .Assign [.Name x _] v _ => stC N sc i x && (noComp v || isCel sc x) && chkX G N sc e v
    | _ => false
  | .xasg g e, s => match s with
    | .Assign [t] v _ => isTupG g && swp sc [t] v && noComp v && chkG true N sc g t && chkX G N sc e v
    | _ => false
  | .xret e, s => match s with
    | .Return (some x) _ => chkX G N sc e x
    | _ => false
  | .xiff t a b, s => match s with
    | .If c x y _ => (match t with | .isN _ _ => true | _ => false) && chkX G N sc t c && chkSs G N sc a x && chkSs G N sc b y
    | _ => false
def chkSs (G : Glo) (N : List Str) (sc : Scope) : Ss → List Stmt → Bool
  | .nil, ss => match ss with
    | [] => true
    | _ => false
  | .cons s r, ss => if isFrz s = true then chkSs G N sc r ss else match ss with
    | [] => false
    | x :: xs => chkS G N sc s x && chkSs G N sc r xs
end

section
variable {X : Cx} {fr : Fr} {G : Glo} {N : List Str} {sc : Scope} {k : Nat} {Φ : Fs}
theorem stC_of (C : CtxS X fr G N sc k Φ) {i : Nat} {x : Str} (h : stC N sc i x = true) : X.N[i]? = some x ∧ Loc X.env.scope x ∧ X.N.Nodup := by
  unfold stC at h
  rw [Bool.and_eq_true, decide_eq_true_eq, Bool.or_eq_true] at h
  rw [C.hN, C.hsc]
  exact ⟨h.1, h.2.elim (fun z => .inl (isLoc_of z)) (fun z => .inr (isCel_of z)), C.nd⟩
theorem sndPs (C : CtxE X fr G N sc k Φ) : ∀ (ps : Ps) (vs : List Expr), chkPs G N sc ps vs = true → PA X vs (ps.ta Φ fr)
  | .nil, vs, h => by
    simp only [chkPs] at h
    split at h
    · exact pa_nil
    · cases h
  | .e _ x r, vs, h => by
    simp only [chkPs] at h
    split at h
    · cases h
    · simp only [Bool.and_eq_true] at h
      exact pa_cons (sndE x _ X sc C _ h.1.2).1 (sndPs C r _ h.2) (star1 h.1.1)
  | .f _ x r, vs, h => by
    simp only [chkPs] at h
    split at h
    · cases h
    · simp only [Bool.and_eq_true] at h
      exact pa_cons (sndF x _ X sc C _ h.1.2) (sndPs C r _ h.2) (star1 h.1.1)
theorem PE_or {x : Expr} {t t' : TE} (h : PE X x t) (h' : PE X x t') : PE X x (fun σ H Q => t σ H Q ∨ t' σ H Q) := ⟨fun pins s σ H Q I q => q.elim (h.run pins s σ H Q I) (h'.run pins s σ H Q I)⟩
theorem mthC_of {m want : Str} {o : Expr} {apos cpos : Pos} (h : mthC m want o apos cpos = true) : m = want ∧ (apos.endLine == cpos.line) = true ∧ noSuper o = true := by
  unfold mthC at h
  simp only [Bool.and_eq_true, beq_iff_eq] at h
  exact ⟨h.1.1, by simpa using h.1.2, h.2⟩
/-- a comprehension stored to its name as it is made -/
theorem own_lc (C : CtxS X fr G N sc k Φ) {i : Nat} {f : Mp.F} {x : Str} {px pos : Pos} {v : Expr} (h1 : stC N sc i x = true) (h2 : chkF G N sc f v = true) (h3 : lcC N sc i x px v = true) : PS X (.Assign [.Name x px] v pos) (tSt fr (exS Φ (.own i f))) := by
  obtain ⟨n1, n2, n3⟩ := stC_of C h1
  cases v with
  | ListComp y gs scope lpos =>
    simp only [lcC, Bool.and_eq_true, Bool.not_eq_true'] at h3
    obtain ⟨⟨l1, l2⟩, l3⟩ := h3
    have hl : X.env.scope.names.lookup x = some .local := by rw [C.hsc]; exact isLoc_of l1
    cases f with
    | comp own g it ifs elt =>
      simp only [chkF] at h2
      split at h2
      · rename_i y tg iter cs as scope' pos' heq
        cases heq
        simp only [Bool.and_eq_true, beq_iff_eq] at h2
        obtain ⟨⟨⟨⟨⟨⟨⟨rfl, q2⟩, q3⟩, q4⟩, q5⟩, q6⟩, q7⟩, q8⟩ := h2
        have hi := sndI it true _ X sc C.toCtxE tg iter (fun z => nomatch z) q3
        have hb : BlkOk X.N X.env.scope scope (ownOf N own) := by rw [C.hN, C.hsc]; exact blkOk_by q5
        refine PS.imp (ps_setLc (i := i) (own := ownOf N own) (g := gG fr g) (tt := tT fr (evT Φ ifs)) (te := tE fr (evE Φ elt)) C.calm n3 n1 hl (sw_true (by rw [C.hsc]; exact C.kind) hl l2 l3) hi hb
          (fun s H c cl fp => sndG (fb := false) (C.toCtxE.blk s H scope cl c fp) (fun z => nomatch z) g tg q6) (fun s H c cl fp => sndIf ifs _ _ _ (C.toCtxE.blk s H scope cl c fp) cs q7) (fun s H c cl fp => (sndE elt _ _ _ (C.toCtxE.blk s H scope cl c fp) y q8).1) (no_set q2)) fun D σ H q => ?_
        have z := tSt.own q
        have z2 := tF.comp (fun i hi => by simpa using List.all_eq_true.mp q4 i hi) z
        have e : (ownOf N own).map (·.2) = own := by unfold ownOf; rw [List.map_map]; exact (List.map_congr_left fun _ _ => rfl).trans (List.map_id _)
        rw [e]
        exact z2
      · cases h2
    | compK own g j ifs elt =>
      simp only [chkF] at h2
      split at h2
      · rename_i y tg z zp cs as scope' pos' heq
        cases heq
        simp only [Bool.and_eq_true, beq_iff_eq] at h2
        obtain ⟨⟨⟨⟨⟨⟨rfl, q2⟩, q4⟩, q5⟩, q6⟩, q7⟩, q8⟩ := h2
        have C' := C.toCtxE
        have CF : ∀ {fr' : Fr}, fr'.K = fr.K → fr'.T = fr.T → CtxE X fr' G N sc k Φ := fun {fr'} hK hT => ⟨C'.hN, C'.nd, C'.calm, C'.hsc, C'.room, C'.grd, hK.trans C'.hK, C'.gl, (by rw [hT]; exact C'.df), C'.xc, C'.td, (by rw [hT]; exact C'.tb), (fun j c h => let ⟨D, z⟩ := C'.oc j c h; ⟨D, z.mg, z.tell, z.cls, z.na, (by rw [hT]; exact z.ms), (by rw [hT]; exact z.ini)⟩), C'.r1⟩
        have hb : BlkOk X.N X.env.scope scope (ownOf N own) := by rw [C.hN, C.hsc]; exact blkOk_by q5
        have P := ps_setLc (i := i) (own := ownOf N own) (g := gEx fr.K fr.T g) (tt := tTx fr.K fr.T Φ ifs) (te := tEx fr.K fr.T Φ elt) (pos := lpos) (spos := pos) (py := px) C.calm n3 n1 hl (sw_true (by rw [C.hsc]; exact C.kind) hl l2 l3) (pi_keys (tg := tg) (C'.var (pos := zp) q2)) hb
          (fun s H c cl fp => ⟨fun pins s1 σ H v u Q I r q => by
            obtain ⟨fr', hK, hT, q⟩ := q
            exact (sndG (fb := false) ((CF hK hT).blk s _ scope cl c fp) (fun z => nomatch z) g tg q6).run pins s1 σ H v u Q I r q⟩)
          (fun s H c cl fp => ⟨fun pins s1 σ H Q I q => by
            obtain ⟨fr', hK, hT, q⟩ := q
            exact (sndIf ifs _ _ _ ((CF hK hT).blk s _ scope cl c fp) cs q7).run pins s1 σ H Q I q⟩)
          (fun s H c cl fp => ⟨fun pins s1 σ H Q I q => by
            obtain ⟨fr', hK, hT, q⟩ := q
            exact (sndE elt _ _ _ ((CF hK hT).blk s _ scope cl c fp) y q8).1.run pins s1 σ H Q I q⟩) (fun _ => rfl)
        refine ⟨fun pins s σ H D I q => ?_⟩
        have z := tSt.own q
        have z2 := tF.compK (fun i hi => by simpa using List.all_eq_true.mp q4 i hi) z
        have e : (ownOf N own).map (·.2) = own := by unfold ownOf; rw [List.map_map]; exact (List.map_congr_left fun _ _ => rfl).trans (List.map_id _)
        rw [e] at P
        exact z2.elim ((ps_lock P).run pins s σ H D I) (P.run pins s σ H D I)
      · cases h2
    | dct t kvs => simp only [chkF] at h2; cases h2
    | _ => simp only [chkF] at h2; cases h2
  | _ => cases h3
theorem takes_none : Takes X (fun _ _ _ _ => False) := fun _ _ x => by
  obtain ⟨_, _, _, _, _, _, _, _, _, _, _, _, _, _, _, _, z⟩ := x
  exact z.elim
theorem sndX (C : CtxE X fr G N sc k Φ) (tk : Takes X (fun cls d _ H => fr.E cls d H)) : ∀ (e : E) (x : Expr), chkX G N sc e x = true → PE X x (tEX fr (evE Φ e))
  | .xcall f es, x, h => by
    simp only [chkX] at h
    split at h
    · simp only [Bool.and_eq_true, decide_eq_true_eq] at h
      obtain ⟨⟨⟨⟨⟨h1, h2⟩, h3⟩, h4⟩, h6⟩, h5⟩ := h
      rcases hasDef_or h4 with hd | h4
      · obtain ⟨g, rfl⟩ : ∃ g, g = f := ⟨f, rfl⟩
        obtain ⟨c, fd, ps, hm, hk, hb, F⟩ := C.df _ _ hd
        have pa := sndEs es _ X sc C _ h5
        rename_i xs _
        cases xs with
        | nil => exact absurd rfl h6
        | cons y ys =>
          simp only [List.all_cons, Bool.and_eq_true] at h3
          exact PE.imp (pe_callM F C.rm C.grd (C.gl_of h1) hm hk hb (passes_call tk fun _ _ _ _ z => z) pa (okN_d h2) (star1 h3.1) (starAll h3.2)) fun σ H Q q => by
            have z := tEX.xcall q
            rw [C.hK] at z
            exact z
      · cases h4
    · cases h
  | .xarg f a, x, h => by
    simp only [chkX] at h
    split at h
    · simp only [Bool.and_eq_true] at h
      obtain ⟨⟨⟨⟨h1, h2⟩, h3⟩, h4⟩, h5⟩ := h
      rcases hasDef_or h4 with hd | h4
      · obtain ⟨g, rfl⟩ : ∃ g, g = f := ⟨f, rfl⟩
        obtain ⟨c, fd, ps, hm, hk, hb, F⟩ := C.df _ _ hd
        exact PE.imp (pe_callM F C.rm C.grd (C.gl_of h1) hm hk hb (passes_call tk fun _ _ _ _ z => z) (pa_cons (sndX C tk a _ h5) pa_nil (star1 h3)) (okN_d h2) (star1 h3) rfl) fun σ H Q q => by
          have z := tEX.xarg q
          rw [C.hK] at z
          exact z
      · cases h4
    · cases h
  | .isN neg a, x, h => by
    simp only [chkX] at h
    split at h
    · simp only [Bool.and_eq_true] at h
      have ha := sndX C tk a _ h.2
      have h1 := h.1
      rename_i op _ _ _
      cases neg with
      | false =>
        cases op <;> first | cases h1 | skip
        exact PE.imp (pe_cmp (pc_isN ha) (nomark _)) fun σ H Q q => tEX.isN q
      | true =>
        cases op <;> first | cases h1 | skip
        exact PE.imp (pe_cmp (pc_notN ha) (nomark _)) fun σ H Q q => tEX.isN q
    · cases h
theorem tTX.toX {ev : Env → Mem → R D} {σ : L2.St} {H : Hp} {Q : Bool → Hp → Prop} (h : tTX fr ev σ H Q) : tEX fr ev σ H fun x H1 => ∃ c, x = .bl c ∧ Q c H1 := by
  obtain ⟨F, θ, env, mem, s, h⟩ := h
  refine ⟨F, θ, env, mem, s, ?_⟩
  rcases h with ⟨b, mem', e, q⟩ | ⟨c, mem', e, q⟩
  · exact .inl ⟨.bl b, mem', e, fun θ' v H' t m r => ⟨b, r, q θ' H' t m⟩⟩
  · exact .inr ⟨c, mem', e, q⟩
theorem sndXT (C : CtxE X fr G N sc k Φ) (tk : Takes X (fun cls d _ H => fr.E cls d H)) {neg : Bool} {a : E} {x : Expr} (h : chkX G N sc (.isN neg a) x = true) : PT X x (tTX fr (evE Φ (.isN neg a))) := by
  simp only [chkX] at h
  split at h
  · simp only [Bool.and_eq_true] at h
    have ha := sndX C tk a _ h.2
    have h1 := h.1
    rename_i op _ _ _
    cases neg with
    | false =>
      cases op <;> first | cases h1 | skip
      exact PT.imp (pt_cmp (pc_isN ha) (nomark _)) fun σ H Q q => tEX.isN q.toX
    | true =>
      cases op <;> first | cases h1 | skip
      exact PT.imp (pt_cmp (pc_notN ha) (nomark _)) fun σ H Q q => tEX.isN q.toX
  · cases h
mutual
theorem sndS : ∀ (s : S) (fr : Fr) (_ : CtxS X fr G N sc k Φ) (x : Stmt), chkS G N sc s x = true → PS X x (tSt fr (exS Φ s))
  | .set i e, fr, C, x, h => by
    simp only [chkS] at h
    split at h
    · simp only [Bool.and_eq_true] at h
      obtain ⟨n1, n2, n3⟩ := stC_of C h.1.1
      exact PS.imp (ps_set n3 n1 n2 (sndE e _ X sc C.toCtxE _ h.2).1 (sw_cell (by rw [C.hsc]; exact h.1.2)) (.inl (C.fn _))) fun D σ H q => tSt.set q
    · cases h
  | .own i f, fr, C, x, h => by
    simp only [chkS] at h
    split at h
    · simp only [Bool.and_eq_true] at h
      obtain ⟨n1, n2, n3⟩ := stC_of C h.1.1
      rcases (Bool.or_eq_true _ _).mp h.2 with h2 | h2
      · exact PS.imp (ps_set n3 n1 n2 (sndF f _ X sc C.toCtxE _ h.1.2) (sw_cell (by rw [C.hsc]; exact h2)) (.inl (C.fn _))) fun D σ H q => tSt.own q
      · exact own_lc C h.1.1 h.1.2 h2
    · cases h
  | .asg g e, fr, C, x, h => by
    simp only [chkS] at h
    split at h
    · simp only [Bool.and_eq_true] at h
      obtain ⟨⟨⟨⟨h1, h2⟩, h3⟩, h4⟩, h5⟩ := h
      rename_i t v pos
      have ht : (assignEach [t] X.env).map (·.2) = [assign t X.env] := by
        cases g with
        | nm => cases h1
        | tp gs =>
          simp only [chkG] at h4
          split at h4
          · rfl
          · cases h4
      exact PS.imp (ps_asg (sndE e _ X sc C.toCtxE _ h5).1 (sndG (fb := true) C.toCtxE (fun _ => C.fn) g t h4) (sw_no h3) (swp_none C.hsc h2) ht) fun D σ H q => tSt.asg q
    · cases h
  | .par ps, fr, C, x, h => by
    simp only [chkS] at h
    split at h
    · split at h
      · rename_i i j hsl
        simp only [Bool.and_eq_true, decide_eq_true_eq] at h
        obtain ⟨⟨⟨⟨⟨⟨h1, h2⟩, h3⟩, h4⟩, h5⟩, h6⟩, h7⟩ := h
        exact PS.imp (ps_par C.calm (by rw [C.hN]; exact C.nd) (by rw [C.hN]; exact h1) (by rw [C.hN]; exact h2) h3 (by rw [C.hsc]; exact isLoc_of h4) (by rw [C.hsc]; exact isLoc_of h5) (sndPs C.toCtxE ps _ h6) (swq_some C.hsc C.kind h7) rfl) fun D σ H q => tSt.par2 hsl q
      · cases h
    · split at h
      · rename_i i j l hsl
        simp only [Bool.and_eq_true, decide_eq_true_eq] at h
        obtain ⟨⟨⟨⟨⟨⟨⟨⟨h1, h2⟩, h3⟩, h4⟩, h5⟩, h6⟩, h7⟩, h8⟩, h9⟩ := h
        exact PS.imp (ps_par3 C.calm (by rw [C.hN]; exact C.nd) (by rw [C.hN]; exact h1) (by rw [C.hN]; exact h2) (by rw [C.hN]; exact h3) h4.1 h4.2.1 h4.2.2 (by rw [C.hsc]; exact isLoc_of h5) (by rw [C.hsc]; exact isLoc_of h6) (by rw [C.hsc]; exact isLoc_of h7) (sndPs C.toCtxE ps _ h8) (swq_some C.hsc C.kind h9) rfl) fun D σ H q => tSt.par3 hsl q
      · cases h
    · cases h
  | .app i e, fr, C, x, h => by
    simp only [chkS] at h
    split at h
    · simp only [Bool.and_eq_true] at h
      obtain ⟨⟨⟨h1, h2⟩, h3⟩, h4⟩ := h
      obtain ⟨rfl, h5, _⟩ := mthC_of h1
      exact PS.imp (ps_expr (pe_bm PySem.F.plainAttrs_list PySem.F.slot_list_append PySem.F.type_list_append mt_append (C.var h2) (pa_cons (sndE e _ X sc C.toCtxE _ h4).1 pa_nil (star1 h3)) (attr_base rfl) (by rw [star1 h3]; rfl) h5 (star1 h3) rfl) (sw_no rfl)) fun D σ H q => tSt.app C.hK q
    · cases h
  | .ext i e, fr, C, x, h => by
    simp only [chkS] at h
    split at h
    · simp only [Bool.and_eq_true] at h
      obtain ⟨⟨⟨h1, h2⟩, h3⟩, h4⟩ := h
      obtain ⟨rfl, h5, _⟩ := mthC_of h1
      exact PS.imp (ps_expr (pe_bm PySem.F.plainAttrs_list PySem.F.slot_list_extend PySem.F.type_list_extend mt_extend (C.var h2) (pa_cons (sndE e _ X sc C.toCtxE _ h4).1 pa_nil (star1 h3)) (attr_base rfl) (by rw [star1 h3]; rfl) h5 (star1 h3) rfl) (sw_no rfl)) fun D σ H q => tSt.ext C.hK q
    · cases h
  | .popA g i e, fr, C, x, h => by
    simp only [chkS] at h
    split at h
    · rename_i t x p m apos ys cpos pos
      simp only [Bool.and_eq_true] at h
      obtain ⟨⟨⟨h1, h2⟩, h3⟩, h4⟩ := h
      obtain ⟨rfl, h5, _⟩ := mthC_of h1
      have fin : ∀ {te : TE}, PE X (.Call (.Attribute (.Name x p) "pop" apos) ys [] cpos) te → (∀ {gg : TG}, (∀ {v σ H Q}, gG fr g v σ H Q → gg v σ H Q) → ∀ D σ H, tSt fr (exS Φ (.popA g i e)) D σ H → tAsg te gg D σ H) → PS X (.Assign [t] (.Call (.Attribute (.Name x p) "pop" apos) ys [] cpos) pos) (tSt fr (exS Φ (.popA g i e))) := fun he hi => by
        have nc : noComp (.Call (.Attribute (.Name x p) "pop" apos) ys [] cpos) = true := rfl
        split at h3
        · obtain ⟨n1, n2, n3⟩ := stC_of C h3
          exact PS.imp (ps_set n3 n1 n2 he (sw_no rfl) (.inl (C.fn _))) fun D σ H q => hi gNm D σ H q
        · rename_i gs t' _
          rw [Bool.and_eq_true] at h3
          have ht : (assignEach [t] X.env).map (·.2) = [assign t X.env] := by
            have h4 := h3.2
            simp only [chkG] at h4
            split at h4
            · rfl
            · cases h4
          exact PS.imp (ps_asg he (sndG (fb := true) C.toCtxE (fun _ => C.fn) _ t h3.2) (sw_no (t := some t) (l := pos.line) (env := X.env) nc) (swp_none C.hsc h3.1) ht) fun D σ H q => hi (fun q => q) D σ H q
        · cases h3
      split at h4
      · exact fin (pe_bm0 PySem.F.plainAttrs_list PySem.F.slot_list_pop PySem.F.type_list_pop mt_pop (C.var h2) (attr_base rfl) h5) fun hg D σ H q => by
          have z := tSt.pop hg q
          rw [C.hK] at z
          exact z
      · rw [Bool.and_eq_true] at h4
        exact fin (pe_bm PySem.F.plainAttrs_list PySem.F.slot_list_pop PySem.F.type_list_pop mt_popAt (C.var h2) (pa_cons (sndE _ _ X sc C.toCtxE _ h4.2).1 pa_nil (star1 h4.1)) (attr_base rfl) (by rw [star1 h4.1]; rfl) h5 (star1 h4.1) rfl) fun hg D σ H q => by
          have z := tSt.popA hg q
          rw [C.hK] at z
          exact z
      · cases h4
    · cases h
  | .satt o js y v, fr, C, x, h => by
    simp only [chkS] at h
    split at h
    · simp only [Bool.and_eq_true, beq_iff_eq] at h
      obtain ⟨⟨⟨⟨rfl, h2⟩, h3⟩, h4⟩, h5⟩ := h
      refine PS.imp (ps_fld (sndE o _ X sc C.toCtxE _ h4).1 (sndE v _ X sc C.toCtxE _ h5).1 (sw_no h2)) fun D σ H q => ?_
      have z := tSt.satt (fun j hj => by
        have hc := List.all_eq_true.mp h3 j hj
        split at hc
        · rename_i c hjc
          obtain ⟨E, K⟩ := C.oc j c hjc
          exact ⟨E, K.tell, by rw [C.hK]; exact K.cls, by rw [C.hK]; exact K.na y (by simpa using hc)⟩
        · cases hc) q
      rw [C.hK] at z
      exact z
    · cases h
  | .aatt o js y v, fr, C, x, h => by
    simp only [chkS] at h
    split at h
    · simp only [Bool.and_eq_true, beq_iff_eq] at h
      obtain ⟨⟨⟨⟨h1, rfl⟩, h3⟩, h4⟩, h5⟩ := h
      split at h1
      · refine PS.imp (ps_fldaug (sndE o _ X sc C.toCtxE _ h4).1 (sndE v _ X sc C.toCtxE _ h5).1 L2.in_add) fun D σ H q => ?_
        have z := tSt.aatt (fun j hj => by
          have hc := List.all_eq_true.mp h3 j hj
          split at hc
          · rename_i c hjc
            obtain ⟨E, K⟩ := C.oc j c hjc
            exact ⟨E, K.tell, by rw [C.hK]; exact K.cls, by rw [C.hK]; exact K.na y (by simpa using hc)⟩
          · cases hc) q
        rw [C.hK] at z
        exact z
      · cases h1
    · cases h
  | .inc i e, fr, C, x, h => by
    simp only [chkS] at h
    split at h
    · simp only [Bool.and_eq_true] at h
      obtain ⟨⟨h1, h2⟩, h3⟩ := h
      split at h1
      · obtain ⟨n1, n2, n3⟩ := stC_of C h2
        exact PS.imp (ps_aug n3 n1 n2 (sndE e _ X sc C.toCtxE _ h3).1 iop_add (.inl (C.fn _))) fun D σ H q => tSt.inc q
      · cases h1
    · cases h
  | .oext o e, fr, C, x, h => by
    simp only [chkS] at h
    split at h
    · simp only [Bool.and_eq_true] at h
      obtain ⟨⟨⟨h1, h2⟩, h3⟩, h4⟩ := h
      unfold mthC at h1
      simp only [Bool.and_eq_true, beq_iff_eq] at h1
      obtain ⟨⟨rfl, h5⟩, h6⟩ := h1
      exact PS.imp (ps_expr (pe_bm PySem.F.plainAttrs_list PySem.F.slot_list_extend PySem.F.type_list_extend mt_extend (sndE o _ X sc C.toCtxE _ h3).1 (pa_cons (sndE e _ X sc C.toCtxE _ h4).1 pa_nil (star1 h2)) (attr_base h6) (by rw [star1 h2]; rfl) (beq_iff_eq.mpr h5) (star1 h2) rfl) (sw_no rfl)) fun D σ H q => tSt.oext C.hK q
    · cases h
  | .aug i e, fr, C, x, h => by
    simp only [chkS] at h
    split at h
    · simp only [Bool.and_eq_true] at h
      obtain ⟨⟨h1, h2⟩, h3⟩ := h
      rename_i op _ _
      cases op <;> first | cases h1 | skip
      obtain ⟨n1, n2, n3⟩ := stC_of C h2
      exact PS.imp (ps_aug n3 n1 n2 (sndE e _ X sc C.toCtxE _ h3).1 iop_ext (.inl (C.fn _))) fun D σ H q => tSt.aug q
    · cases h
  | .put i a v, fr, C, x, h => by
    simp only [chkS] at h
    split at h
    · simp only [Bool.and_eq_true] at h
      obtain ⟨⟨⟨⟨h1, h2⟩, h3⟩, h4⟩, h5⟩ := h
      have hu := C.hu
      exact PS.imp (ps_asg (sndE v _ X sc C.toCtxE _ h5).1 (pg_sub (C.var h2) (sndE a _ X sc C.toCtxE _ h4).1 (set_any (by omega)) (sub_assign h1)) (sole_no h3) rfl rfl) fun D σ H q => tSt.put q
    · cases h
  | .upd _ _, fr, C, x, h => by simp only [chkS] at h; cases h
  | .oapp o e, fr, C, x, h => by
    simp only [chkS] at h
    split at h
    · simp only [Bool.and_eq_true] at h
      obtain ⟨⟨⟨h1, h3⟩, h2⟩, h4⟩ := h
      obtain ⟨rfl, h5, h6⟩ := mthC_of h1
      exact PS.imp (ps_expr (pe_bm PySem.F.plainAttrs_list PySem.F.slot_list_append PySem.F.type_list_append mt_append (sndE o _ X sc C.toCtxE _ h2).1 (pa_cons (sndE e _ X sc C.toCtxE _ h4).1 pa_nil (star1 h3)) (attr_base h6) (by rw [star1 h3]; rfl) h5 (star1 h3) rfl) (sw_no rfl)) fun D σ H q => tSt.oapp C.hK q
    · cases h
  | .oput o a v, fr, C, x, h => by
    simp only [chkS] at h
    split at h
    · simp only [Bool.and_eq_true] at h
      obtain ⟨⟨⟨⟨h1, h3⟩, h2⟩, h4⟩, h5⟩ := h
      have hu := C.hu
      exact PS.imp (ps_asg (sndE v _ X sc C.toCtxE _ h5).1 (pg_sub (sndE o _ X sc C.toCtxE _ h2).1 (sndE a _ X sc C.toCtxE _ h4).1 (set_any (by omega)) (sub_assign h1)) (sole_no h3) rfl rfl) fun D σ H q => tSt.oput q
    · cases h
  | .oclr o, fr, C, x, h => by
    simp only [chkS] at h
    split at h
    · simp only [Bool.and_eq_true] at h
      obtain ⟨h1, h2⟩ := h
      obtain ⟨rfl, h5, h6⟩ := mthC_of h1
      have po := (sndE o _ X sc C.toCtxE _ h2).1
      exact PS.imp (ps_expr (PE_or (pe_dclear po (attr_base h6) h5) (pe_bm0 PySem.F.plainAttrs_list PySem.F.slot_list_clear PySem.F.type_list_clear mt_clear po (attr_base h6) h5)) (sw_no rfl)) fun D σ H q => tSt.oclr C.hK q
    · cases h
  | .frz _, fr, C, x, h => by simp only [chkS] at h; cases h
  | .shr _, fr, C, x, h => by simp only [chkS] at h; cases h
  | .iff t a b, fr, C, x, h => by
    simp only [chkS] at h
    split at h
    · simp only [Bool.and_eq_true] at h
      obtain ⟨⟨⟨h1, h2⟩, h3⟩, h4⟩ := h
      exact PS.imp (ps_if ((sndE t _ X sc C.toCtxE _ h2).2 h1) (sndSs a fr C _ h3) (sndSs b fr C _ h4)) fun D σ H q => tSt.iff q
    · cases h
  | .fo g it b, fr, C, x, h => by
    simp only [chkS] at h
    split at h
    · simp only [Bool.and_eq_true] at h
      obtain ⟨⟨⟨⟨h1, h2⟩, h3⟩, h4⟩, h5⟩ := h
      exact PS.imp (ps_for C.po C.calm (sndI it false _ X sc C.toCtxE _ _ (fun _ => h1) h3) (sndG (fb := true) C.toCtxE (fun _ => C.fn) g _ h4) (sndSs b fr C _ h5) (no_set h2)) fun D σ H q => tSt.fo q
    · cases h
  | .fol g e b, fr, C, x, h => by
    simp only [chkS] at h
    split at h
    · simp only [Bool.and_eq_true] at h
      obtain ⟨⟨⟨h2, h3⟩, h4⟩, h5⟩ := h
      exact PS.imp (ps_for C.po C.calm (pi_list (sndE e _ X sc C.toCtxE _ h3).1) (sndG (fb := true) C.toCtxE (fun _ => C.fn) g _ h4) (sndSs b fr C _ h5) (no_set h2)) fun D σ H q => by
        have z := tSt.fol q
        rw [C.hK] at z
        exact z
    · cases h
  | .fok g i w b, fr, C, x, h => by
    simp only [chkS] at h
    split at h
    · rename_i tg x body pos
      simp only [Bool.and_eq_true] at h
      obtain ⟨⟨h1, h2⟩, h3⟩ := h
      have hg : PG X tg (gEx X.K fr.T g) := ⟨fun pins s σ H v u Q I r q => by
        obtain ⟨fr', hK, hT, q⟩ := q
        exact (sndG (fr := fr') (fb := true) ⟨C.hN, C.nd, C.calm, C.hsc, C.room, C.grd, hK, C.gl, (by rw [hT]; exact C.df), C.xc, C.td, (by rw [hT]; exact C.tb), (fun j c h => let ⟨D, z⟩ := C.oc j c h; ⟨D, z.mg, z.tell, z.cls, z.na, (by rw [hT]; exact z.ms), (by rw [hT]; exact z.ini)⟩), C.r1⟩ (fun _ => C.fn) g tg h2).run pins s σ H v u Q I r q⟩
      have hb : PSs X body (bEx X.K fr.T (fun E => Takes X (fun cls d _ H => E cls d H)) Φ b) := ⟨fun pins s σ H D I q => by
        obtain ⟨fr', hK, hT, hP, q⟩ := q
        exact (sndSs b fr' ⟨⟨C.hN, C.nd, C.calm, C.hsc, C.room, C.grd, hK, C.gl, (by rw [hT]; exact C.df), C.xc, C.td, (by rw [hT]; exact C.tb), (fun j c h => let ⟨D, z⟩ := C.oc j c h; ⟨D, z.mg, z.tell, z.cls, z.na, (by rw [hT]; exact z.ms), (by rw [hT]; exact z.ini)⟩), C.r1⟩, C.fn, C.kind, C.po, hP⟩ body h3).run pins s σ H D I q⟩
      have fin : ∀ {y : Expr}, PI X tg y (iKD w i) → (∀ v, foldedSetIterable y X.env v = pure v) → PS X (.For tg y body [] pos) (tSt fr (exS Φ (.fok g i w b))) := fun hi hs => by
        have P := ps_for (pos := pos) C.po C.calm hi hg hb hs
        refine ⟨fun pins s σ H D I q => ?_⟩
        have z := tSt.fok (P := fun E => Takes X (fun cls d _ H => E cls d H)) C.tk takes_none q
        rw [C.hK] at z
        exact z.elim ((ps_lock P).run pins s σ H D I) (P.run pins s σ H D I)
      split at h1
      · simp only [Bool.and_eq_true] at h1
        obtain ⟨⟨⟨q1, q2⟩, q3⟩, q4⟩ := h1
        obtain rfl := beq_iff_eq.mp q1
        cases tg <;> first | cases q4 | skip
        exact fin (pi_items (C.var q3) (attr_base rfl) q2) fun _ => rfl
      · exact fin (pi_keys (C.var h1)) fun _ => rfl
      · cases h1
    · cases h
  | .wh t b, fr, C, x, h => by
    simp only [chkS] at h
    split at h
    · simp only [Bool.and_eq_true] at h
      obtain ⟨⟨h1, h2⟩, h3⟩ := h
      exact PS.imp (ps_while C.po ((sndE t _ X sc C.toCtxE _ h2).2 h1) (sndSs b fr C _ h3)) fun D σ H q => tSt.wh q
    · cases h
  | .ret e, fr, C, x, h => by
    simp only [chkS] at h
    split at h
    · exact PS.imp (ps_ret (sndE e _ X sc C.toCtxE _ h).1) fun D σ H q => tSt.ret q
    · split at h
      · refine PS.imp ps_retN fun D σ H q => ?_
        obtain ⟨F, θ, env, mem, d, mem', s, e, q⟩ := tSt.ret q
        cases e
        exact q θ .non H .refl s.ms rfl
      · cases h
    · cases h
  | .retF f, fr, C, x, h => by
    simp only [chkS] at h
    split at h
    · exact PS.imp (ps_ret (sndF f _ X sc C.toCtxE _ h)) fun D σ H q => tSt.retF q
    · cases h
  | .retX i, fr, C, x, h => by
    simp only [chkS] at h
    split at h
    · exact PS.imp (ps_ret (C.var h)) fun D σ H q => tSt.retX q
    · cases h
  | .exp e, fr, C, x, h => by
    simp only [chkS] at h
    split at h
    · rw [Bool.and_eq_true] at h
      exact PS.imp (ps_expr (sndE e _ X sc C.toCtxE _ h.2).1 (sw_no h.1)) fun D σ H q => tSt.exp q
    · cases h
  | .brk, fr, C, x, h => by
    simp only [chkS] at h
    split at h
    · exact PS.imp ps_break fun D σ H ⟨F, θ, env, mem, s, o⟩ => o F θ σ H .refl s
    · cases h
  | .cnt, fr, C, x, h => by
    simp only [chkS] at h
    split at h
    · exact PS.imp ps_continue fun D σ H ⟨F, θ, env, mem, s, o⟩ => o F θ σ H .refl s
    · cases h
  | .pass, fr, C, x, h => by
    simp only [chkS] at h
    split at h
    · exact PS.imp ps_pass fun D σ H ⟨F, θ, env, mem, s, o⟩ => o F θ σ H .refl s
    · exact PS.imp ps_doc fun D σ H ⟨F, θ, env, mem, s, o⟩ => o F θ σ H .refl s
    · cases h
  | .never, fr, C, x, h => PS.imp ps_never fun D σ H ⟨F, θ, env, mem, s, o⟩ => o.elim
  | .raise x i m, fr, C, s, h => by
    simp only [chkS] at h
    split at h
    · rename_i y p t j p2 p3 p4
      simp only [Bool.and_eq_true, beq_iff_eq] at h
      obtain ⟨⟨⟨⟨h1, h2⟩, rfl⟩, h4⟩, h5⟩ := h
      split at h5
      · rename_i z hz
        obtain rfl := beq_iff_eq.mp h5
        by_cases hh : ∃ m r m', Φ (xCls + i) [] m = .ok r m'
        · obtain ⟨C', hm, hk, hx, hs, ht, hc⟩ := C.xc.cls _ _ hz hh
          exact PS.imp (ps_raise C.calm C.tk (pmk_own PySem.F.excBase_ValueError hx hm hk (raises_own hs ht) (C.gl_of h1) (okN_d h2))) fun D σ H q => tSt.raise hc q
        · refine PS.imp ps_never fun D σ H q => ?_
          obtain ⟨F, θ, env, mem, s, o⟩ := q
          obtain ⟨r, m1, e1, _⟩ := Out.thenO o
          exact absurd ⟨_, _, _, e1⟩ hh
      · cases h5
    · cases h
  | .xexp e, fr, C, x, h => by
    simp only [chkS] at h
    split at h
    · rw [Bool.and_eq_true] at h
      exact PS.imp (ps_expr (sndX C.toCtxE C.tk e _ h.2) (sw_no h.1)) fun D σ H q => tSt.xexp q
    · cases h
  | .xset i e, fr, C, x, h => by
    simp only [chkS] at h
    split at h
    · simp only [Bool.and_eq_true] at h
      obtain ⟨n1, n2, n3⟩ := stC_of C h.1.1
      exact PS.imp (ps_set n3 n1 n2 (sndX C.toCtxE C.tk e _ h.2) (sw_cell (by rw [C.hsc]; exact h.1.2)) (.inl (C.fn _))) fun D σ H q => tSt.xset q
    · cases h
  | .xasg g e, fr, C, x, h => by
    simp only [chkS] at h
    split at h
    · simp only [Bool.and_eq_true] at h
      obtain ⟨⟨⟨⟨h1, h2⟩, h3⟩, h4⟩, h5⟩ := h
      rename_i t v pos
      have ht : (assignEach [t] X.env).map (·.2) = [assign t X.env] := by
        cases g with
        | nm => cases h1
        | tp gs =>
          simp only [chkG] at h4
          split at h4
          · rfl
          · cases h4
      exact PS.imp (ps_asg (sndX C.toCtxE C.tk e _ h5) (sndG (fb := true) C.toCtxE (fun _ => C.fn) g t h4) (sw_no h3) (swp_none C.hsc h2) ht) fun D σ H q => tSt.xasg q
    · cases h
  | .xret e, fr, C, x, h => by
    simp only [chkS] at h
    split at h
    · exact PS.imp (ps_ret (sndX C.toCtxE C.tk e _ h)) fun D σ H q => tSt.xret q
    · cases h
  | .xiff t a b, fr, C, x, h => by
    simp only [chkS] at h
    split at h
    · simp only [Bool.and_eq_true] at h
      obtain ⟨⟨⟨h1, h2⟩, h3⟩, h4⟩ := h
      split at h1
      · exact PS.imp (ps_if (sndXT C.toCtxE C.tk h2) (sndSs a fr C _ h3) (sndSs b fr C _ h4)) fun D σ H q => tSt.xiff q
      · cases h1
    · cases h
theorem sndSs : ∀ (ss : Ss) (fr : Fr) (_ : CtxS X fr G N sc k Φ) (xs : List Stmt), chkSs G N sc ss xs = true → PSs X xs (tSt fr (exSs Φ ss))
  | .nil, fr, C, xs, h => by
    simp only [chkSs] at h
    split at h
    · exact PSs.imp pss_nil fun D σ H q => tSt.nil q
    · cases h
  | .cons s r, fr, C, xs, h => by
    simp only [chkSs] at h
    split at h
    · rename_i hf
      cases s with
      | frz i => exact PSs.imp (sndSs r fr C xs h) fun D σ H q => tSt.frz q
      | shr i => exact PSs.imp (sndSs r fr C xs h) fun D σ H q => tSt.shr q
      | _ => cases hf
    · split at h
      · cases h
      · rw [Bool.and_eq_true] at h
        exact PSs.imp (pss_cons (sndS s fr C _ h.1) (sndSs r fr C _ h.2)) fun D σ H q => tSt.seq q
end
end
end Mp

set_option linter.all false
set_option autoImplicit false
set_option maxRecDepth 100000
set_option maxHeartbeats 2000000
/-! Mp22: defs, programs. -/
namespace Mp
open PySem PySem.Spec PyProof.Rows L2

/-- a def by its body: what fn_of does, with the repr guards told -/
theorem fnM {P : Program} {w : World} {K : PySem.W.Frag} {mg : Str → Option Value} {base : Heap} {k : Nat} {f : Addr} {fd : FuncData} {x qual : Str} {st : Stmt} {N ps : List Str} {sp : List V → Hp → VK → XK → Prop}
    (F : Fun K x qual st f fd) (S : FnScope N ps (defScope st)) (len : ∀ vs H Q E, sp vs H Q E → vs.length = ps.length)
    (hbody : ∀ (cdv : Value) (A : Around) (outer : List PySem.Env) (s : Shared) (H : Hp) (vs : List V) (Q : VK) (E : XK), fd.code = cdv → Room k (A.deeper (envOfC qual (defScope st) s.heap.objs.size f cdv)) → A.guards = some [] → sp vs H Q E →
      ∃ t, PSs (cxOf (L2.CX P w) P w K mg base N qual (defScope st) f cdv A outer s H E) (defBody st) t ∧ t { nx := fun _ H' => Q .non H', rt := Q } (start N vs) H) : MFn P w K mg base (k + 1) f fd ps sp := by
  obtain ⟨oc, od, kV, doc, pm, an, cdv, ct, osl, rfl, lk, hcd⟩ := F.ex
  refine ⟨len, fun A outer s H args us vs Q E hr hg e0 hb r hsp => ?_⟩
  have hl := len _ _ _ _ hsp
  have KX : K.In s.heap := e0.mod.kin.keeps fun b o e => (e0.bs b o e).1
  have hkind : ∀ y ∈ ps.zip us, (defScope st).names.lookup y.1 = some .local ∨ ((defScope st).names.lookup y.1 = some .cell ∧ ((cellsFrom (s.heap.objs.size + 1) (defScope st).names []).lookup y.1).isSome = true) := fun y hy => by
    rcases S.par y.1 (List.of_mem_zip (a := y.1) (b := y.2) hy).1 with q | q
    · exact .inl q
    · exact .inr ⟨q, PySem.W.cellsFrom_some _ _ _ (.inl q)⟩
  refine codeAny_call_function hr.depth (KX _ _ lk) rfl S.co S.gen rfl (PySem.W.codeRec_of KX hcd) (hb _ _ _ _ (wpAny_newFunctionEnv_cells S.kind hkind fun env he s1 x => ?_))
  subst he
  refine ⟨(e0.mod.nolimit.keeps fun b o e => (e0.bs b o e).1).keeps x.toInCall.keep, codeAny_func ?_⟩
  obtain ⟨t, ht, hq⟩ := hbody cdv A outer s H vs Q E rfl (hr.deeper _) hg hsp
  refine wpAny_mono (ht.run [] s1 (start N vs) H _ (inv_start S hr.hd e0 hl r x) hq) (fun fl s' hs => ?_) fun e s' hs => hs
  have fin : ∀ {σ' : L2.St} {H' : Hp} {v : V} {u : Value}, Inv (cxOf (L2.CX P w) P w K mg base N qual (defScope st) f cdv A outer s H E) [] σ' H' s' → RelV v u → Q v H' → CE outer P w H s Q u s' :=
    fun {σ' H' v u} J rv q => ⟨v, H', J.os, J.bare, J.base, J.hok, rv, q⟩
  cases fl with
  | ret u => obtain ⟨v, σ', H', J, rv, q⟩ := hs; exact fin J rv q
  | next => obtain ⟨σ', H', J, q⟩ := hs; exact fin (v := V.non) (u := Value.none) J rfl q
  | brk => obtain ⟨_, _, _, q⟩ := hs; exact q.elim
  | cont => obtain ⟨_, _, _, q⟩ := hs; exact q.elim

/-- a def of the program: its name, its parameters, its slots' names, what it does -/
structure FnC where
  name : Str
  ps : List Str
  N : List Str
  fn : Fn
  tab : Option (Nat × T) := none
  meth : Bool := false
def defsOf : Nat → List FnC → List (Str × (Nat × Nat))
  | _, [] => []
  | i, fc :: r => if fc.meth = true then defsOf (i + 1) r else (fc.name, (i, fc.fn.np)) :: defsOf (i + 1) r
theorem defsOf_get : ∀ {P : List FnC} {i : Nat} {x : Str} {f : Nat}, hasDef (defsOf i P) x f = true → ∃ fc, P[f - i]? = some fc ∧ fc.name = x ∧ i ≤ f ∧ fc.meth = false
  | [], _, _, _, h => by simp [defsOf, hasDef] at h
  | fc :: r, i, x, f, h => by
    have next : hasDef (defsOf (i + 1) r) x f = true → ∃ fc', (fc :: r)[f - i]? = some fc' ∧ fc'.name = x ∧ i ≤ f ∧ fc'.meth = false := fun h => by
      obtain ⟨fc', h1, h2, h3, h4⟩ := defsOf_get (P := r) h
      refine ⟨fc', ?_, h2, by omega, h4⟩
      have : f - i = (f - (i + 1)) + 1 := by omega
      rw [this, List.getElem?_cons_succ]
      exact h1
    unfold defsOf at h
    split at h
    · exact next h
    · rename_i hm
      unfold hasDef at h
      rw [List.any_cons, Bool.or_eq_true, Bool.and_eq_true, beq_iff_eq, beq_iff_eq] at h
      rcases h with ⟨h1, h2⟩ | h
      · have h2 : i = f := h2
        subst h2
        exact ⟨fc, by simp, h1, Nat.le_refl _, by simpa using hm⟩
      · exact next h
def Glo.of (consts : List (Str × D)) (blts : List Str) (P : List FnC) (ex : List (Str × Bool) := []) (told : List (Str × (Stmt × List Str)) := []) (cs : List Cl := []) : Glo := ⟨consts, defsOf 0 P, blts, ex, told, none, cs, true⟩
def chkFn (G : Glo) (fc : FnC) (st : Stmt) : Bool :=
  fnScopeC fc.N fc.ps (defScope st) && decide (fc.ps.length = fc.fn.np) && decide (fc.N.length = fc.fn.ns) && chkSs { G with tab := fc.tab } fc.N (defScope st) fc.fn.body (defBody st)
/-- the tables of code objects of a def that makes lambdas -/
def TabOk (mg : Str → Option Value) (base : Heap) (T : List Addr) (fc : FnC) (qual : Str) (fd : FuncData) : Prop := ∀ t q, fc.tab = some (t, q) → (∀ (sc : Scope) (n : Addr) (f : Addr) (cd : Value), (envOfC qual sc n f cd).qual ++ "<lambda>" = tS q) ∧ ∃ c Pt, fd.code = .ref c ∧ LamX.TabB base mg c Pt ∧ T[t]? = some Pt
/-- where a def stands -/
structure DefAt (K : PySem.W.Frag) (mg : Str → Option Value) (base : Heap) (T : List Addr) (G : Glo) (fc : FnC) (a : Addr) : Prop where
  ex : ∃ (st : Stmt) (qual : Str) (fd : FuncData), Fun K fc.name qual st a fd ∧ Binds K fd fc.ps [] ∧ chkFn G fc st = true ∧ TabOk mg base T fc qual fd
  mg : fc.meth = false → mg fc.name = some (.ref a)
theorem gt_app : ∀ {ds : List D} {n i : Nat} {x : Sl}, gt (ds.map Sl.val ++ List.replicate n .no) i = x → (∃ d, ds[i]? = some d ∧ x = .val d) ∨ x = .no
  | [], n, i, x, h => by
    right
    have : ∀ (n i : Nat), gt (List.replicate n Sl.no) i = .no := by
      intro n
      induction n with
      | zero => intro i; rfl
      | succ n ih =>
        intro i
        cases i with
        | zero => rfl
        | succ i => exact ih i
    rw [← h]
    exact this n i
  | d :: ds, n, 0, x, h => .inl ⟨d, rfl, h.symm⟩
  | d :: ds, n, i + 1, x, h => by
    have h' : gt (ds.map Sl.val ++ List.replicate n .no) i = x := h
    rcases gt_app h' with ⟨e, h1, h2⟩ | h1
    · exact .inl ⟨e, by simpa using h1, h2⟩
    · exact .inr h1
section
variable {Pg : Program} {w : World} {K : PySem.W.Frag} {mg : Str → Option Value} {base : Heap}
theorem ms_len {T : List Addr} {Φ : Fs} {f : Nat} {n : Nat} (h : ∀ ds mem r m, Φ f ds mem = .ok r m → ds.length = n) (h' : ∀ ds mem d m, Φ f ds mem = .ex d m → ds.length = n) : ∀ vs H Q E, MSp K T Φ f vs H Q E → vs.length = n := fun vs H Q E ⟨F, θ, mem, ds, _, ms, hv, e⟩ => by
  rw [← hv.length]
  rcases e with ⟨r, mem', e, _⟩ | ⟨c, mem', e, _⟩
  · exact h ds mem r mem' e
  · exact h' ds mem _ mem' e
/-- an own class, as the top has made it -/
structure ClAt (K : PySem.W.Frag) (mg : Str → Option Value) (P : List FnC) (XF : Fs) (ad : Nat → Addr) (j : Nat) (c : Cl) (C : Addr) : Prop where
  mg : mg c.name = some (.ref C)
  tell : ∀ k, TellC (callX XF (P.map FnC.fn) k) j C
  cls : Cls K C
  na : ∀ x ∈ c.flds, NoAttr K C (tS x)
  ms : ∀ x f, (x, f) ∈ c.ms → ∃ fc, P[f]? = some fc ∧ Meth K C (tS x) (ad f)
  ini : ∃ fc, P[c.ini]? = some fc ∧ Mk K C (ad c.ini)
/-- THE RULE: every def of the program keeps what the evaluator tells -/
theorem prog_ok {T : List Addr} {consts : List (Str × D)} {blts : List Str} {P : List FnC} {ex : List (Str × Bool)} {told : List (Str × (Stmt × List Str))} {XF : Fs} {ad : Nat → Addr} {cs : List Cl} (gl : GlOk K mg (Glo.of consts blts P ex told cs)) (hd : ∀ f fc, P[f]? = some fc → DefAt K mg base T (Glo.of consts blts P ex told cs) fc (ad f)) (hx : ∀ k, XcOk K mg ex (callX XF (P.map FnC.fn) k))
    (htd : ∀ x st N', told.lookup x = some (st, N') → ∃ g fd, mg x = some (.ref g) ∧ Fun K x x st g fd ∧ Binds K fd (N'.take 1) []) (hcs : ∀ j c, cs[j]? = some c → ∃ C, ClAt K mg P XF ad j c C) :
    ∀ (k : Nat) (f : Nat) (fc : FnC), P[f]? = some fc → ∀ fd, (∃ st qual, Fun K fc.name qual st (ad f) fd ∧ chkFn (Glo.of consts blts P ex told cs) fc st = true ∧ TabOk mg base T fc qual fd) → MFn Pg w K mg base (3 * k) (ad f) fd fc.ps (MSp K T (callX XF (P.map FnC.fn) k) f)
  | 0, f, fc, hf, fd, _ => ⟨fun vs H Q E ⟨F, θ, mem, ds, _, ms, hv, e⟩ => (by rcases e with ⟨_, _, e, _⟩ | ⟨_, _, e, _⟩ <;> cases e), fun A outer s H args us vs Q E hr hg e0 hb r ⟨F, θ, mem, ds, _, ms, hv, e⟩ => (by rcases e with ⟨_, _, e, _⟩ | ⟨_, _, e, _⟩ <;> cases e)⟩
  | k + 1, f, fc, hf, fd, ⟨st, qual, F, hc, htab⟩ => by
    unfold chkFn at hc
    simp only [Bool.and_eq_true, decide_eq_true_eq] at hc
    obtain ⟨⟨⟨h1, h2⟩, h3⟩, h4⟩ := hc
    have S := fnScope_of h1
    have hP : (P.map FnC.fn)[f]? = some fc.fn := by rw [List.getElem?_map, hf]; rfl
    have run : ∀ ds mem, callX XF (P.map FnC.fn) (k + 1) f ds mem = runFn (callX XF (P.map FnC.fn) k) fc.fn ds mem := fun ds mem => by
      show (match (P.map FnC.fn)[f]? with | some fn => runFn (callX XF (P.map FnC.fn) k) fn ds mem | none => XF f ds mem) = _
      rw [hP]
    have alen : ∀ ds mem r m, callX XF (P.map FnC.fn) (k + 1) f ds mem = .ok r m → ds.length = fc.ps.length := fun ds mem r m e => by
      rw [run] at e
      unfold runFn at e
      split at e
      · rename_i z; rw [z, h2]
      · cases e
    have alen' : ∀ ds mem d m, callX XF (P.map FnC.fn) (k + 1) f ds mem = .ex d m → ds.length = fc.ps.length := fun ds mem r m e => by
      rw [run] at e
      unfold runFn at e
      split at e
      · rename_i z; rw [z, h2]
      · cases e
    refine fnM F S (ms_len alen alen') fun cdv A outer s H vs Q E hcd hr hg ⟨F0, θ, mem, ds, hT, ms, hv, e⟩ => ?_
    have hl : ds.length = fc.ps.length := by
      rcases e with ⟨r, mem', e, _⟩ | ⟨c, mem', e, _⟩
      · exact alen _ _ _ _ e
      · exact alen' _ _ _ _ e
    rw [run] at e
    let fr : Fr := ⟨K, H, θ, F0, fun a z => (ms.Fd a z).imp fun o z => z.1, E, T, hT⟩
    have C : CtxS (cxOf (L2.CX Pg w) Pg w K mg base fc.N qual (defScope st) (ad f) cdv A outer s H E) fr { Glo.of consts blts P ex told cs with tab := fc.tab } fc.N (defScope st) k (callX XF (P.map FnC.fn) k) := by
      refine ⟨⟨rfl, S.nd, rfl, rfl, hr.mono (Nat.le_add_right _ 2), hg, rfl, ⟨gl.flat, gl.tup, gl.blt⟩, fun x g hx => ?_, hx k, htd, fun t q ht => ?_, fun j c hj => ?_, fun _ => hr.mono (Nat.le_succ (3 * k + 1))⟩, fun _ => rfl, S.kind, passes_of rfl, takes_of rfl rfl rfl rfl⟩
      · obtain ⟨fc', p1, p2, _, p4⟩ := defsOf_get hx
        rw [Nat.sub_zero] at p1
        obtain ⟨⟨st', qual', fd', F', b', c', t'⟩, m'⟩ := hd g fc' p1
        have m' := m' p4
        rw [p2] at m'
        exact ⟨ad g, fd', fc'.ps, m', F'.kp, b', prog_ok gl hd ‹∀ k, XcOk K mg ex (callX XF (P.map FnC.fn) k)› htd hcs k g fc' p1 fd' ⟨st', qual', F', c', t'⟩⟩
      · obtain ⟨g1, c, Pt, g2, g3, g4⟩ := htab t q ht
        exact ⟨g1 _ _ _ _, hr, c, Pt, by rw [← g2, hcd]; rfl, g3, g4⟩
      · obtain ⟨D, K'⟩ := hcs j c hj
        refine ⟨D, K'.mg, K'.tell k, K'.cls, K'.na, fun x g hg => ?_, ?_⟩
        · obtain ⟨fc', p1, hM⟩ := K'.ms x g hg
          obtain ⟨⟨st', qual', fd', F', b', c', t'⟩, _⟩ := hd g fc' p1
          exact ⟨ad g, fd', fc'.ps, hM, b', prog_ok gl hd ‹∀ k, XcOk K mg ex (callX XF (P.map FnC.fn) k)› htd hcs k g fc' p1 fd' ⟨st', qual', F', c', t'⟩⟩
        · obtain ⟨fc', p1, hM⟩ := K'.ini
          obtain ⟨⟨st', qual', fd', F', b', c', t'⟩, _⟩ := hd c.ini fc' p1
          exact ⟨ad c.ini, fd', fc'.ps, hM, b', prog_ok gl hd ‹∀ k, XcOk K mg ex (callX XF (P.map FnC.fn) k)› htd hcs k c.ini fc' p1 fd' ⟨st', qual', F', c', t'⟩⟩
    refine ⟨_, sndSs fc.fn.body _ C _ h4, F0, θ, ds.map .val ++ List.replicate (fc.fn.ns - fc.fn.np) .no, mem, ⟨ms, ⟨fun _ z => z, .refl⟩, ?_⟩, ?_⟩
    · refine ⟨?_, fun i d ei => ?_, fun i d ei => ?_, fun i j d d' a e1 e2 _ _ => ?_⟩
      · unfold L2.start
        rw [List.length_append, List.length_map, List.length_replicate, List.length_append, List.length_map, List.length_replicate, ← hv.length, h3, hl, h2]
      · rcases gt_app ei with ⟨d', g1, g2⟩ | g1
        · cases g2
          obtain ⟨v, g3, g4⟩ := hv.get g1
          refine ⟨v, ?_, g4⟩
          unfold L2.start
          rw [List.getElem?_append_left (by rw [List.length_map]; exact (List.getElem?_eq_some_iff.mp g3).1), List.getElem?_map, g3]
          rfl
        · cases g1
      · rcases gt_app ei with ⟨d', g1, g2⟩ | g1
        · cases g2
        · cases g1
      · rcases gt_app e1 with ⟨d', g1, g2⟩ | g1
        · cases g2
        · cases g1
    · rcases e with ⟨r, mem', e, q1, q2⟩ | ⟨c, mem', e, q⟩
      · unfold runFn at e
        rw [if_pos (hl.trans h2)] at e
        split at e
        · rename_i o d m1 ho
          split at e
          · rename_i hro
            cases e
            rw [ho]
            refine fun F' θ' v H' ok => ?_
            have sub : ∀ a, F0 a → F' a := ok.bs.FF
            have ms' := ok.ms.less sub
            cases hr : fc.fn.ro with
            | false =>
              refine q1 hr θ' v H' ok.bs.tr ms' ?_
              cases o with
              | false => exact VR.mono (Fk.less sub) _ _ (ok.vl rfl)
              | true =>
                obtain ⟨p, u, rfl, g1, g2, g3, g4⟩ := ok.ow rfl
                refine CR.vr (g2.mono (Fk.less sub)) g1 (fun z => ?_) (ok.ms.Fθ p g3)
                obtain ⟨u', z', _⟩ := ms.Fd p z
                have g4' : H p = none := g4
                rw [g4'] at z'; cases z'
            | true =>
              have ho' := hro hr
              subst ho'
              obtain ⟨p, u, rfl, g1, g2, g3, g4⟩ := ok.ow rfl
              have sub2 : ∀ a, plus F0 p a → F' a := fun a z => z.elim (sub a) fun z => by rw [z]; exact g3
              exact q2 hr θ' p u H' ok.bs.tr g4 g1 (ok.ms.less sub2) (g2.mono (Fk.less sub2))
          · cases e
        · rename_i e1 m1 ho
          split at e
          · cases e
          · cases e
            rw [ho]
            exact fun F' θ' σ' H' k' s' => q1 rfl θ' .non H' s'.bs.tr (s'.ms.less s'.bs.FF) rfl
        · cases e
        · cases e
      · unfold runFn at e
        rw [if_pos (hl.trans h2)] at e
        split at e
        · split at e <;> cases e
        · split at e <;> cases e
        · rename_i d m1 ho
          cases e
          rw [ho]
          exact ⟨c, rfl, fun F' θ' H' k' ms' bs' => q θ' H' bs'.tr (ms'.less bs'.FF)⟩
        · cases e

/-- the law's call: the script, and the tables Ts of code objects, may be tracked -/
theorem call_at {mb : Str → Option Value} {k : Nat} {fa a : Addr} {fd : FuncData} {x : Str} {sp : List V → Hp → VK → XK → Prop} {s₁ : Shared} {vs : List Value} {H : Hp} {cs : List (Addr × Addr)}
    (KX : K.In s₁.heap) (hns : s₁.heap.Ns mainGlobals mg) (hb : s₁.heap.Ns builtinsNs mb) (hbb : ∀ x : Str, x ≠ "__name__" → mb x = bootBuiltins x) (hlim : s₁.heap.NoLimit) (hg : s₁.gens = #[])
    (hT : ∀ p ∈ cs, s₁.heap.get? p.2 = some { cls := .none, data := .fields #[] }) (nT : ∀ p ∈ cs, K.lookup p.2 = none) (Cd : ∀ p ∈ cs, PySem.W.CodeHd s₁.heap p.1 p.2)
    (hbm : ∃ (bm : Addr) (ob : Obj), mg "__builtins__" = some (.ref bm) ∧ bm ≠ builtinsNs ∧ s₁.heap.get? bm = some ob ∧ ob.cls = .type "module" ∧ ob.dict = some builtinsNs ∧ ob.data = .plain)
    (ha : s₁.heap.get? a = some { cls := .type "list", data := .seq vs.toArray }) (hr : Room k callerA)
    (F : ∀ base : Heap, K.In base → base.Ns mainGlobals mg → (∀ p ∈ cs, LamX.TabB base mg p.1 p.2) → MFn Pg w K mg base k fa fd [x] sp) (hbind : ∀ (s : Shared) (u : Value), BindsTo s fd ⟨[u], []⟩ [(x, u)])
    (hH : ∀ b, H b = none ∨ (b ∈ cs.map (·.2) ∧ H b = some (.tbl #[])) ∨ (b = a ∧ K.lookup a = none ∧ ∃ o xs, H b = some (.frz o (.lst xs)))) (hok : HOk Pg w H s₁.heap) (hsp : sp [.ref a] H (fun v _ => v = .bl true) noE) :
    codeAny (model Pg w) callerA (.call (.ref fa) ⟨[.ref a], []⟩) (fun r s' => r = .ok (.ret (.bool true)) ∧ OldK s₁.heap s'.heap ∧ s'.os = s₁.os ∧ AllBare s'.gens) s₁ := by
  have isT : ∀ b : Addr, b ∈ cs.map (·.2) → s₁.heap.get? b = some { cls := .none, data := .fields #[] } := fun b hb => by
    obtain ⟨p, hp, e⟩ := List.mem_map.mp hb
    rw [← e]
    exact hT p hp
  have free : ∀ {b : Addr} {o : Obj}, s₁.heap.get? b = some o → (∀ vs n, o.data ≠ .seq vs n) → o.data ≠ .fields #[] → H b = none := fun {b o} e h1 h2 => by
    rcases hH b with z | ⟨z, _⟩ | ⟨rfl, z, _⟩
    · exact z
    · rw [isT b z] at e
      cases e
      exact absurd rfl h2
    · rw [ha] at e
      cases e
      exact absurd rfl (h1 _ _)
  have ns_ : ∀ {b : Addr} {m : Str → Option Value}, s₁.heap.Ns b m → (hidT s₁.heap H).Ns b m := fun {b m} ⟨o, es, ep, e, d, r⟩ =>
    ⟨o, es, ep, hidT_get e (free e (fun _ _ q => by rw [q] at d; cases d) fun q => by rw [q] at d; cases d), d, r⟩
  have kin : K.In (hidT s₁.heap H) := fun b o e => hidT_get (KX b o e) (by
    rcases hH b with z | ⟨z, _⟩ | ⟨rfl, z, _⟩
    · exact z
    · obtain ⟨p, hp, ep⟩ := List.mem_map.mp z
      have q := nT p hp
      rw [ep] at q
      have e : K.lookup b = some o := e
      rw [q] at e; cases e
    · have e : K.lookup b = some o := e
      rw [z] at e; cases e)
  obtain ⟨mc, l1, l2⟩ := hlim
  have TB : ∀ p ∈ cs, LamX.TabB (hidT s₁.heap H) mg p.1 p.2 := fun p hp => by
    have hTp := hT p hp
    refine ⟨?_, ?_, fun z => ?_⟩
    · obtain ⟨o, us, file, tf, flags, tg, inF, text, tt, e1, r1, r2, r3, r4, r5, r6, r7, r8, hne⟩ := Cd p hp
      refine ⟨o, us, file, tf, flags, tg, inF, text, tt, hidT_get e1 (free e1 (fun vs n z => ?_) fun z => ?_), r1, r2, r3, r4, r5, r6, r7, r8, hne⟩
      · rw [r2] at z
        cases z
      · rw [r2] at z
        cases z
        simp at r3
    · obtain ⟨bm, ob, b1, b2, b3, b4, b5, b6⟩ := hbm
      have nG : bm ≠ mainGlobals := fun q => by
        obtain ⟨o, es, ep, e, hd, _⟩ := hns
        rw [q, e] at b3
        cases b3
        rw [hd] at b6
        cases b6
      have nP : bm ≠ p.2 := fun q => by
        rw [q, hTp] at b3
        cases b3
        cases b6
      refine ⟨bm, ob, b1, b2, nG, nP, hidT_get b3 (free b3 (fun vs n z => ?_) fun z => ?_), b4, b5, b6⟩
      · rw [b6] at z
        cases z
      · rw [b6] at z
        cases z
    · obtain ⟨o, es, ep, e, hd, _⟩ := hns
      rw [z, hTp] at e
      cases e
      cases hd
  have e0 : Env0 Pg w K mg (hidT s₁.heap H) callerA [] s₁ H :=
    ⟨rfl, ⟨kin, ns_ hns, ⟨mb, ns_ hb, hbb⟩, ⟨mc, ns_ l1, l2⟩⟩, fun b o e => of_hidT e, Nat.le_of_eq (hidT_size _ _), trivial, fun b z => (nomatch (show b ∈ ([] : List Addr) from z)), hok, .of_eq hg⟩
  refine codeAny_mono ((F _ kin (ns_ hns) TB).run callerA [] s₁ H ⟨[.ref a], []⟩ [.ref a] [.ref a] _ noE hr rfl e0 (hbind s₁ (.ref a)) (.cons rfl .nil) hsp) fun r s' h => ?_
  cases r with
  | error e =>
    obtain ⟨_, _, _, _, _, _, _, _, _, _, _, _, z⟩ := h
    exact z.elim
  | ok fl =>
    cases fl with
    | next => exact h.elim
    | brk => exact h.elim
    | cont => exact h.elim
    | ret u =>
      obtain ⟨v, H', os, bare, un, hok', rv, rfl⟩ := h
      obtain rfl : u = Value.bool true := rv
      have key : ∀ b o, b ∉ cs.map (·.2) → s₁.heap.get? b = some o → s'.heap.get? b = some o := fun b o nb e => by
        rcases hH b with z | ⟨z, _⟩ | ⟨_, _, ob, xs, z⟩
        · exact un.keep b o e z (fun q => (nomatch (show b ∈ ([] : List Addr) from q))) (fun q => (nomatch (show b ∈ ([] : List Addr) from q)))
        · exact absurd z nb
        · obtain ⟨g1, _⟩ := hok b _ z
          obtain ⟨g2, _⟩ := hok' b _ (un.frzs b ob _ z)
          rw [e] at g1
          cases g1
          exact g2
      have grown : ∀ p ∈ cs, s'.heap.get? p.2 = some { cls := .none, data := .fields #[] } ∨ ∃ more : Array Value, s'.heap.get? p.2 = some { cls := .none, data := .fields more } := fun p hp => by
        rcases hH p.2 with z | ⟨_, z⟩ | ⟨z1, _, _⟩
        · exact .inl (un.keep p.2 _ (hT p hp) z (fun q => (nomatch (show p.2 ∈ ([] : List Addr) from q))) (fun q => (nomatch (show p.2 ∈ ([] : List Addr) from q))))
        · obtain ⟨more, z⟩ := un.tbls p.2 #[] z
          exact .inr ⟨_, hok' p.2 _ z⟩
        · have := hT p hp
          rw [z1, ha] at this
          have z' : Data.seq vs.toArray _ = Data.fields #[] := congrArg Obj.data (Option.some.inj this)
          cases z'
      have grown : ∀ p ∈ cs, ∃ more : Array Value, s'.heap.get? p.2 = some { cls := .none, data := .fields more } := fun p hp => (grown p hp).elim (fun z => ⟨_, z⟩) id
      refine ⟨rfl, ⟨fun b o e => ?_, fun b o e => ?_⟩, os, bare⟩
      · by_cases hb : b ∈ cs.map (·.2)
        · obtain ⟨p, hp, ep⟩ := List.mem_map.mp hb
          obtain ⟨more, hm⟩ := grown p hp
          rw [← ep] at e ⊢
          rw [hT p hp] at e
          cases e
          exact .inr (.inl ⟨((Cd p hp).tab (hT p hp)).isCodeTable, rfl, #[], more, rfl, by rw [Array.empty_append]; exact hm⟩)
        · exact .inl (key b o hb e)
      · by_cases hb : b ∈ cs.map (·.2)
        · obtain ⟨p, hp, ep⟩ := List.mem_map.mp hb
          obtain ⟨more, hm⟩ := grown p hp
          rw [← ep]
          exact ⟨_, hm⟩
        · exact ⟨o, key b o hb e⟩
theorem law_callM {mb : Str → Option Value} {k : Nat} {fa a : Addr} {fd : FuncData} {x : Str} {sp : List V → Hp → VK → XK → Prop} {s₁ : Shared} {vs : List Value} {ns : List Int} {cs : List (Addr × Addr)}
    (KX : K.In s₁.heap) (hns : s₁.heap.Ns mainGlobals mg) (hb : s₁.heap.Ns builtinsNs mb) (hbb : ∀ x : Str, x ≠ "__name__" → mb x = bootBuiltins x) (hlim : s₁.heap.NoLimit) (hg : s₁.gens = #[])
    (hT : ∀ p ∈ cs, s₁.heap.get? p.2 = some { cls := .none, data := .fields #[] }) (nT : ∀ p ∈ cs, K.lookup p.2 = none) (Cd : ∀ p ∈ cs, PySem.W.CodeHd s₁.heap p.1 p.2)
    (hbm : ∃ (bm : Addr) (ob : Obj), mg "__builtins__" = some (.ref bm) ∧ bm ≠ builtinsNs ∧ s₁.heap.get? bm = some ob ∧ ob.cls = .type "module" ∧ ob.dict = some builtinsNs ∧ ob.data = .plain)
    (ha : s₁.heap.get? a = some { cls := .type "list", data := .seq vs.toArray }) (hi : IntsAre vs ns) (hl : ns.length ≤ sizeLine) (hr : Room k callerA)
    (F : ∀ base : Heap, K.In base → base.Ns mainGlobals mg → (∀ p ∈ cs, LamX.TabB base mg p.1 p.2) → MFn Pg w K mg base k fa fd [x] sp) (hbind : ∀ (s : Shared) (u : Value), BindsTo s fd ⟨[u], []⟩ [(x, u)])
    (hsp : ∀ H : Hp, (∀ p ∈ cs, H p.2 = some (.tbl #[])) → SqL K H a (ns.map V.int) → sp [.ref a] H (fun v _ => v = .bl true) noE) :
    codeAny (model Pg w) callerA (.call (.ref fa) ⟨[.ref a], []⟩) (fun r s' => r = .ok (.ret (.bool true)) ∧ OldK s₁.heap s'.heap ∧ s'.os = s₁.os ∧ AllBare s'.gens) s₁ := by
  have rv := vals_ints hi
  have isT : ∀ b : Addr, b ∈ cs.map (·.2) → s₁.heap.get? b = some { cls := .none, data := .fields #[] } := fun b hb => by
    obtain ⟨p, hp, e⟩ := List.mem_map.mp hb
    rw [← e]
    exact hT p hp
  have aT : a ∉ cs.map (·.2) := fun z => by
    have q := isT a z
    rw [ha] at q
    have z' : Data.seq vs.toArray _ = Data.fields #[] := congrArg Obj.data (Option.some.inj q)
    cases z'
  have memT : ∀ p ∈ cs, p.2 ∈ cs.map (·.2) := fun p hp => List.mem_map.mpr ⟨p, hp, rfl⟩
  let H0 : Hp := fun b => if b ∈ cs.map (·.2) then some (.tbl #[]) else none
  have H0t : ∀ b, b ∈ cs.map (·.2) → H0 b = some (.tbl #[]) := fun b hb => if_pos hb
  have H0n : ∀ b, b ∉ cs.map (·.2) → H0 b = none := fun b hb => if_neg hb
  cases hk : K.lookup a with
  | some o =>
    have e := KX a o hk
    rw [ha] at e
    cases e
    refine call_at KX hns hb hbb hlim hg hT nT Cd hbm ha hr F hbind (H := H0) (fun b => ?_) (fun b u z => ?_)
      (hsp _ (fun p hp => H0t _ (memT p hp)) (.inr ⟨_, vs.toArray, _, hk, rfl, rfl, rfl, by rw [List.size_toArray, hi.length]; exact hl, by simpa using rv⟩))
    · by_cases hb : b ∈ cs.map (·.2)
      · exact .inr (.inl ⟨hb, H0t b hb⟩)
      · exact .inl (H0n b hb)
    · by_cases hb : b ∈ cs.map (·.2)
      · rw [H0t b hb] at z
        cases z
        exact isT b hb
      · rw [H0n b hb] at z
        cases z
  | none =>
    have at_ : (upd H0 a (.frz { cls := .type "list", data := .seq vs.toArray } (.lst (ns.map V.int))) : Hp) a = some _ := upd_same
    refine call_at KX hns hb hbb hlim hg hT nT Cd hbm ha hr F hbind (H := upd H0 a (.frz { cls := .type "list", data := .seq vs.toArray } (.lst (ns.map V.int)))) (fun b => ?_) (fun b u z => ?_)
      (hsp _ (fun p hp => by
        have ne : p.2 ≠ a := fun q => aT (by rw [← q]; exact memT p hp)
        rw [upd_ne ne]; exact H0t _ (memT p hp)) (.inl (.inr ⟨_, at_⟩)))
    · by_cases q : b = a
      · subst q; exact .inr (.inr ⟨rfl, hk, _, _, at_⟩)
      · rw [upd_ne q]
        by_cases hb : b ∈ cs.map (·.2)
        · exact .inr (.inl ⟨hb, H0t b hb⟩)
        · exact .inl (H0n b hb)
    · by_cases q : b = a
      · subst q
        rw [at_] at z
        cases z
        exact ⟨ha, by rw [List.length_map]; exact hl, vs, _, rv, ha⟩
      · rw [upd_ne q] at z
        by_cases hb : b ∈ cs.map (·.2)
        · rw [H0t b hb] at z
          cases z
          exact isT b hb
        · rw [H0n b hb] at z
          cases z
end
/-- the goal that k_head leaves, from the law's promise -/
theorem walk_M {l : PySem.W.OpenLaw} {n k : Nat} {q : Program} {loose : List Str} {XP : (Str → Option Value) → Heap → Prop} {YP : World → Heap → Prop} {d : DefRec} {K : Params → PySem.W.Frag} {x : Str}
    (hn : l.most = some n) (hn2 : n ≤ sizeLine) (hdf : d.params.defaults = []) (hr : Room k callerA) (hY : ∀ (w : World) (h : Heap), YP w h → (K w.params).In h)
    (F : ∀ (w : World) (mg : Str → Option Value) (fa : Addr) (h : Heap), (K w.params).In h → h.Ns mainGlobals mg → mg d.name = some (.ref fa) →
      (∀ (x : Str) (c P : Addr), ((recsOf q).find? fun e => e.name == x).isSome = true → PySem.W.tabIn (K w.params) x = some (c, P) → PySem.W.CodeHd h c P ∧ h.get? P = some { cls := .none, data := .fields #[] }) →
      ∃ (fd : FuncData) (cs : List (Addr × Addr)) (sp : List V → Hp → VK → XK → Prop), (∀ p ∈ cs, h.get? p.2 = some { cls := .none, data := .fields #[] }) ∧ (∀ p ∈ cs, (K w.params).lookup p.2 = none) ∧ (∀ p ∈ cs, PySem.W.CodeHd h p.1 p.2) ∧ (∀ (s : Shared) (u : Value), BindsTo s fd ⟨[u], []⟩ [(x, u)]) ∧
        (∀ (H : Hp) (a : Addr) (ns : List Int), ns.length ≤ n → (∀ p ∈ cs, H p.2 = some (.tbl #[])) → SqL (K w.params) H a (ns.map V.int) → sp [.ref a] H (fun v _ => v = .bl true) noE) ∧
        ∀ base : Heap, (K w.params).In base → base.Ns mainGlobals mg → (∀ p ∈ cs, LamX.TabB base mg p.1 p.2) → MFn l.prog w (K w.params) mg base k fa fd [x] sp) :
    PySem.W.WalkO q loose XP YP l.row.toRowW d [] (fun f vs => PySem.call f vs) := by
  refine Att.attach_call hn hdf fun w s₀ s₁ mg mb fa o pm cd doc a vs ns G Y ho hd hcd hmg hobj hints hlen hg => ?_
  have KX := hY w _ Y
  obtain ⟨fd, cs, sp, hT, nT, Cd, hb, hsp, hF⟩ := F w mg fa _ KX G.T.g hmg fun x c P hs ht => (by
    obtain ⟨dx, hdx⟩ := Option.isSome_iff_exists.mp hs
    exact PySem.W.tab_of G.T KX hdx ht)
  exact law_callM KX G.T.g G.T.b G.T.builtins G.T.nolimit hg hT nT Cd G.T.bmain hobj hints (Nat.le_trans hlen hn2) hr hF hb fun H hH hS => hsp H a ns hlen hH hS
/-- the law's promise, from what the evaluator tells of it -/
theorem law_sp {XF : Fs} {P : List Fn} {k f n : Nat} {Ts : List Addr} {qs : List T} (nd : Ts.Nodup) (lq : qs.length = Ts.length) (h : ∀ ns : List Int, ns.length ≤ n → ∃ m, callX XF P k f [.scr ns] (qs.map fun q => .kon (.str q)) = .ok (false, .bl true) m) (K : PySem.W.Frag) (H : Hp) (a : Addr) (ns : List Int) (hl : ns.length ≤ n)
    (hT : ∀ P ∈ Ts, H P = some (.tbl #[])) (hS : SqL K H a (ns.map V.int)) : MSp K Ts (callX XF P k) f [.ref a] H (fun v _ => v = .bl true) noE := by
  obtain ⟨m, e⟩ := h ns hl
  refine ⟨fun _ => False, Ts, _, [.scr ns], fun t P e => e, ⟨by rw [List.length_map, lq], fun j d e => ?_, nd, fun _ z => z.elim, fun _ z => z.elim⟩, ⟨.ref a, [], rfl, ?_, rfl⟩, .inl ⟨_, m, e, fun _ θ' v H' _ _ r => r, fun z => nomatch z⟩⟩
  · rw [List.getElem?_map] at e
    obtain ⟨q, hq, rfl⟩ := Option.map_eq_some_iff.mp e
    have hj : j < Ts.length := by rw [← lq]; exact (List.getElem?_eq_some_iff.mp hq).1
    refine ⟨Ts[j], .tbl #[], List.getElem?_eq_getElem hj, hT _ (List.getElem_mem hj), #[], rfl, True.intro, fun pos cv hc => ?_⟩
    have z : codeAmong pos [] = some cv := hc
    simp [codeAmong] at z
  · simp only [VR]
    refine ⟨a, rfl, ?_⟩
    rcases hS with h | h
    · refine .inl ⟨h, fun z => z, fun z => ?_⟩
      have t := hT a z
      rcases h with h | ⟨o, h⟩
      · rw [t] at h; cases h
      · rw [t] at h; cases h
    · exact .inr h
theorem tab_code {K : PySem.W.Frag} {x : Str} {a c P : Addr} {oc : Value} {od : Option Addr} {fd : FuncData} {sl : Array (Option Value)} (n : PySem.W.nsIn K mainGlobals x = some (some (.ref a))) (l : K.lookup a = some ⟨oc, od, .func fd, sl⟩) (t : PySem.W.tabIn K x = some (c, P)) : fd.code = .ref c := by
  unfold PySem.W.tabIn at t
  rw [n] at t
  simp only [l] at t
  split at t
  · rename_i c' hc
    split at t
    · split at t
      · cases t; exact hc
      · cases t
    · cases t
  · cases t
/-- what a class of exceptions must say -/
theorem tab_in {K : PySem.W.Frag} {x : Str} {a c P : Addr} {oc oc2 cd : Value} {od od2 : Option Addr} {fd : FuncData} {sl sl2 : Array (Option Value)} {vs : Array Value} (n : PySem.W.nsIn K mainGlobals x = some (some (.ref a))) (l : K.lookup a = some ⟨oc, od, .func fd, sl⟩) (e : fd.code = cd) (e2 : cd = .ref c)
    (lc : K.lookup c = some ⟨oc2, od2, .fields vs, sl2⟩) (v : (vs[11]? : Option Value) = some (.ref P)) : PySem.W.tabIn K x = some (c, P) := by
  unfold PySem.W.tabIn
  rw [n]
  simp only [l, e, e2, lc, v]
theorem kit_self {K : PySem.W.Frag} {C : Addr} {cd : ClassData} (h1 : PySem.W.clsIn K C = some cd) (h2 : PySem.W.typeIn K (.ref C) = some (.type "type")) (h3 : PySem.W.subIn K (.ref C) (.ref C) = some true) : PySem.W.kitCls K (.ref C) (.ref C) = some true := by
  show (if ((PySem.W.clsIn K C).isSome && PySem.W.typeIn K (.ref C) == some (.type "type")) = true then PySem.W.subIn K (.ref C) (.ref C) else none) = some true
  rw [h1, h2, h3]
  simp
theorem exm_of {K : PySem.W.Frag} {C : Addr} (h1 : PySem.W.subIn K (.ref C) (.type "BaseException") = some true) (h2 : PySem.W.kitCls K (.ref C) (.ref C) = some true) : ∀ c b, PySem.W.kitOne K (.ref c) (.ref C) = some b → PySem.W.exmOne K (.ref c) (.ref C) = some b := fun c b h => by
  unfold PySem.W.exmOne
  rw [h1, if_pos (by rfl)]
  unfold PySem.W.kitOne at h
  split at h
  · rename_i e
    have : c = C := Value.ref.inj (beq_iff_eq.mp e)
    subst this
    rw [h2]; exact h
  · exact h
/-- what isn't a def: the classes that are raised (rl), at cl; the tests: sub -/
def xFs (rl : List Nat) (sub : Nat → Nat → Bool) (cl : Nat → Nat) : Fs := fun f args m =>
  if f < xTst then (if xCls ≤ f ∧ (f - xCls) ∈ rl then .ok (false, .ins (cl (f - xCls)) []) m else .no)
  else match args with
    | [.ins c []] => match rl.find? (fun i => cl i == c) with
      | some i => .ok (false, .bl (sub i (f - xTst))) m
      | none => .no
    | [] => if xOwn ≤ f then .ok (false, .ins (cl (1000 + (f - xOwn))) []) m else .no
    | _ => .no
section
variable {rl : List Nat} {sub : Nat → Nat → Bool} {cl : Nat → Nat} {P : List Fn}
theorem out_none (hP : P.length ≤ 1000000) (i : Nat) : P[xCls + i]? = none ∧ P[xTst + i]? = none := by
  have h1 := xCls_eq
  have h2 := xTst_eq
  exact ⟨List.getElem?_eq_none (by omega), List.getElem?_eq_none (by omega)⟩
theorem xFs_cls {i : Nat} {m m' : Mem} {r : Bool × D} (hi : i < 1000000) (h : xFs rl sub cl (xCls + i) [] m = .ok r m') : i ∈ rl ∧ r.2 = .ins (cl i) [] ∧ m' = m := by
  have h1 := xCls_eq
  have h2 := xTst_eq
  unfold xFs at h
  rw [if_pos (by omega), Nat.add_sub_cancel_left] at h
  split at h
  · rename_i hh
    cases h
    exact ⟨hh.2, rfl, rfl⟩
  · cases h
theorem xFs_tst {j : Nat} {m m' : Mem} {d : D} {r : Bool × D} (h : xFs rl sub cl (xTst + j) [d] m = .ok r m') : m' = m ∧ ∃ i ∈ rl, d = .ins (cl i) [] ∧ r.2 = .bl (sub i j) := by
  unfold xFs at h
  rw [if_neg (by omega), Nat.add_sub_cancel_left] at h
  split at h
  · rename_i c heq
    split at h
    · rename_i i hf
      cases h
      have e : d = .ins c [] := by simpa using heq
      have q := List.find?_some hf
      exact ⟨rfl, i, List.mem_of_find?_eq_some hf, by rw [e, show cl i = c by simpa using q], rfl⟩
    · cases h
  · rename_i heq
    cases heq
  · cases h
theorem call_own (hP : P.length ≤ 1000000) (j k : Nat) (m : Mem) : callX (xFs rl sub cl) P (k + 1) (xOwn + j) [] m = .ok (false, .ins (cl (1000 + j)) []) m := by
  have h2 := xTst_eq
  have h3 := xOwn_eq
  show (match P[xOwn + j]? with | some fn => runFn (callX (xFs rl sub cl) P k) fn [] m | none => xFs rl sub cl (xOwn + j) [] m) = _
  rw [List.getElem?_eq_none (by omega)]
  show xFs rl sub cl (xOwn + j) [] m = _
  unfold xFs
  rw [if_neg (by omega)]
  show (if xOwn ≤ xOwn + j then _ else _) = _
  rw [if_pos (by omega), Nat.add_sub_cancel_left]
theorem tell_own (hP : P.length ≤ 1000000) (j k : Nat) : TellC (callX (xFs rl sub cl) P k) j (cl (1000 + j)) := fun m r m' e => by
  cases k with
  | zero => cases e
  | succ k => rw [call_own hP] at e; cases e; exact ⟨rfl, rfl⟩
theorem call_cls (hP : P.length ≤ 1000000) {i : Nat} (hi : i ∈ rl) (h6 : i < 1000000) (k : Nat) (m : Mem) : callX (xFs rl sub cl) P (k + 1) (xCls + i) [] m = .ok (false, .ins (cl i) []) m := by
  have h1 := xCls_eq
  have h2 := xTst_eq
  show (match P[xCls + i]? with | some fn => runFn (callX (xFs rl sub cl) P k) fn [] m | none => xFs rl sub cl (xCls + i) [] m) = _
  rw [(out_none hP i).1]
  show xFs rl sub cl (xCls + i) [] m = _
  unfold xFs
  rw [if_pos (by omega), Nat.add_sub_cancel_left, if_pos ⟨by omega, hi⟩]
theorem call_tst (hP : P.length ≤ 1000000) {i : Nat} (hi : rl.find? (fun j => cl j == cl i) = some i) (j k : Nat) (m : Mem) : callX (xFs rl sub cl) P (k + 1) (xTst + j) [.ins (cl i) []] m = .ok (false, .bl (sub i j)) m := by
  show (match P[xTst + j]? with | some fn => runFn (callX (xFs rl sub cl) P k) fn [.ins (cl i) []] m | none => xFs rl sub cl (xTst + j) [.ins (cl i) []] m) = _
  rw [(out_none hP j).2]
  show xFs rl sub cl (xTst + j) [.ins (cl i) []] m = _
  unfold xFs
  rw [if_neg (by omega), Nat.add_sub_cancel_left]
  simp only [hi]
theorem xc_mk {K : PySem.W.Frag} {mg : Str → Option Value} {ex : List (Str × Bool)} (hP : P.length ≤ 1000000) (hn : ex.length ≤ 1000)
    (hc : ∀ i x, i ∈ rl → ex[i]? = some (x, true) → mg x = some (.ref (cl i)) ∧ PySem.W.keepIn K (.ref (cl i)) = true ∧ PySem.W.excIn K (cl i) bmVE "ValueError.__new__" = true ∧ PySem.W.subIn K (.ref (cl i)) (.type "BaseException") = some true ∧ PySem.W.typeIn K (.ref (cl i)) = some (.type "type"))
    (ht : ∀ j x o, ex[j]? = some (x, o) → ∃ (u : Value) (v : V), (o = true → ∃ CS, u = .ref CS ∧ ∀ c b, PySem.W.kitOne K (.ref c) u = some b → PySem.W.exmOne K (.ref c) u = some b) ∧ ((mg x = some u ∧ o = true) ∨ (mg x = none ∧ bootBuiltins x = some u ∧ x ≠ "__name__" ∧ o = false)) ∧ RelV v u ∧ (∀ w, RelV v w → w = u) ∧
      ∀ i ∈ rl, ExcC K (cl i) ∧ PySem.W.kitOne K (.ref (cl i)) u = some (sub i j)) (k : Nat) : XcOk K mg ex (callX (xFs rl sub cl) P k) := by
  cases k with
  | zero =>
    refine ⟨fun i x h ⟨m, r, m', q⟩ => (nomatch q), fun j x o h => ?_⟩
    obtain ⟨u, v, h1, h2, h3, h4, h5⟩ := ht j x o h
    exact ⟨u, v, h1, h2, h3, h4, fun d m r m' q => (nomatch q)⟩
  | succ k =>
    have out : ∀ f args m, P[f]? = none → callX (xFs rl sub cl) P (k + 1) f args m = xFs rl sub cl f args m := fun f args m h => by
      show (match P[f]? with | some fn => runFn (callX (xFs rl sub cl) P k) fn args m | none => xFs rl sub cl f args m) = _
      rw [h]
    refine ⟨fun i x h ⟨m, r, m', q⟩ => ?_, fun j x o h => ?_⟩
    · have hi : i < 1000000 := by have := (List.getElem?_eq_some_iff.mp h).1; omega
      rw [out _ _ _ (out_none hP i).1] at q
      obtain ⟨hr, _, _⟩ := xFs_cls hi q
      obtain ⟨a1, a2, a3, a4, a5⟩ := hc i x hr h
      refine ⟨cl i, a1, a2, a3, a4, a5, fun m r m' q => ?_⟩
      rw [out _ _ _ (out_none hP i).1] at q
      obtain ⟨_, b1, b2⟩ := xFs_cls hi q
      exact ⟨b1, b2⟩
    · obtain ⟨u, v, h1, h2, h3, h4, h5⟩ := ht j x o h
      refine ⟨u, v, h1, h2, h3, h4, fun d m r m' q => ?_⟩
      rw [out _ _ _ (out_none hP j).2] at q
      obtain ⟨b1, i, hi, b2, b3⟩ := xFs_tst q
      obtain ⟨c1, c2⟩ := h5 i hi
      exact ⟨b1, cl i, sub i j, b2, b3, c1, c2⟩
end
/-- no classes are named -/
theorem xc_nil {K : PySem.W.Frag} {mg : Str → Option Value} {Φ : Fs} : XcOk K mg [] Φ := ⟨fun i x h => by simp at h, fun i x o h => by simp at h⟩
end Mp

set_option linter.all false
set_option autoImplicit false
set_option maxRecDepth 100000
/-! Mp23: the evaluator's equations, as rewriting. -/
namespace Mp
variable {Φ : Fs} {env : Env} {m : Mem}
@[simp] theorem ev_var (i : Nat) : evE Φ (.var i) env m = match gt env i with | .val d => .ok d m | _ => .no := id rfl
@[simp] theorem ev_glb (x : PySem.Str) (d : D) : evE Φ (.glb x d) env m = .ok d m := id rfl
@[simp] theorem ev_non : evE Φ .non env m = .ok .non m := id rfl
@[simp] theorem ev_bl (b : Bool) : evE Φ (.bl b) env m = .ok (.bl b) m := id rfl
@[simp] theorem ev_int (b : Int) : evE Φ (.int b) env m = .ok (.int b) m := id rfl
@[simp] theorem ev_str (b : T) : evE Φ (.str b) env m = .ok (.str b) m := id rfl
@[simp] theorem ev_bop (o : Bop) (a b : A) : evE Φ (.bop o a b) env m = (evA Φ a env m).bind fun x m1 => (evA Φ b env m1).bind fun y m2 =>
      R.ofO ((vw m2 x).bind fun x' => (vw m2 y).bind fun y' => o.run x' y') m2 := id rfl
@[simp] theorem ev_cmp (o : Cmp) (a b : A) : evE Φ (.cmp o a b) env m = (evA Φ a env m).bind fun x m1 => (evA Φ b env m1).bind fun y m2 =>
      R.ofO ((vw m2 x).bind fun x' => (vw m2 y).bind fun y' => (o.run2 x' y').map .bl) m2 := id rfl
@[simp] theorem ev_chn (c d : Cmp) (a b e : E) : evE Φ (.chn c d a b e) env m = (evE Φ a env m).bind fun x m1 => (evE Φ b env m1).bind fun y m2 => match c.run x y with
      | some true => (evE Φ e env m2).bind fun z m3 => R.ofO ((d.run y z).map .bl) m3
      | some false => .ok (.bl false) m2
      | none => .no := id rfl
@[simp] theorem ev_isN (n : Bool) (a : E) : evE Φ (.isN n a) env m = (evE Φ a env m).bind fun x m1 => .ok (.bl (match x with | .non => !n | _ => n)) m1 := id rfl
@[simp] theorem ev_inn (n : Bool) (a : E) (b : A) : evE Φ (.inn n a b) env m = (evE Φ a env m).bind fun x m1 => (evA Φ b env m1).bind fun y m2 =>
      R.ofO ((vw m2 y).bind fun y' => (inD x y').map fun c => .bl (c != n)) m2 := id rfl
@[simp] theorem ev_and (es : Es) : evE Φ (.and es) env m = evAnd Φ es env m := id rfl
@[simp] theorem ev_or (es : Es) : evE Φ (.or es) env m = evOr Φ es env m := id rfl
@[simp] theorem ev_not (a : E) : evE Φ (.not a) env m = (evE Φ a env m).bind fun x m1 => match x with
    | .bl b => .ok (.bl (!b)) m1
    | _ => .no := id rfl
@[simp] theorem ev_ite (t a b : E) : evE Φ (.ite t a b) env m = (evE Φ t env m).bind fun x m1 => match x with
    | .bl true => evE Φ a env m1
    | .bl false => evE Φ b env m1
    | _ => .no := id rfl
@[simp] theorem ev_tup (es : Es) : evE Φ (.tup es) env m = (evEs Φ es env m).bind fun xs m1 => .ok (.tup xs) m1 := id rfl
@[simp] theorem ev_idx (a : A) (i : E) : evE Φ (.idx a i) env m = (evA Φ a env m).bind fun x m1 => (evE Φ i env m1).bind fun y m2 => R.ofO ((vw m2 x).bind fun x' => idxD x' y) m2 := id rfl
@[simp] theorem ev_slc (a : A) (lo hi : EO) : evE Φ (.slc a lo hi) env m = (evA Φ a env m).bind fun x m1 => (evO Φ lo env m1).bind fun l m2 => (evO Φ hi env m2).bind fun h m3 => R.ofO ((vw m3 x).bind fun x' => slcD l h x') m3 := id rfl
@[simp] theorem ev_u1 (o : U1) (a : A) : evE Φ (.u1 o a) env m = (evA Φ a env m).bind fun x m1 => R.ofO ((vw m1 x).bind fun x' => o.run x') m1 := id rfl
@[simp] theorem ev_u2 (o : U2) (a b : A) : evE Φ (.u2 o a b) env m = (evA Φ a env m).bind fun x m1 => (evA Φ b env m1).bind fun y m2 =>
      R.ofO ((vw m2 x).bind fun x' => (vw m2 y).bind fun y' => o.run x' y') m2 := id rfl
@[simp] theorem ev_jn (a : E) (b : A) : evE Φ (.jn a b) env m = (evE Φ a env m).bind fun x m1 => (evA Φ b env m1).bind fun y m2 =>
      R.ofO ((vw m2 y).bind fun y' => joinX x y') m2 := id rfl
@[simp] theorem ev_sm (o : Sm) (a : E) (es : Es) : evE Φ (.sm o a es) env m = (evE Φ a env m).bind fun x m1 => (evEs Φ es env m1).bind fun ys m2 => match x with
    | .str s => R.ofO (o.run s ys) m2
    | _ => .no := id rfl
@[simp] theorem ev_orS (a b : E) : evE Φ (.orS a b) env m = (evE Φ a env m).bind fun x m1 => match x with
    | .str s => if s = [] then evE Φ b env m1 else .ok (.str s) m1
    | _ => .no := id rfl
@[simp] theorem ev_upp (a : E) : evE Φ (.upp a) env m = (evE Φ a env m).bind fun x m1 => match x with
    | .str s => R.ofO (uppD s) m1
    | _ => .no := id rfl
@[simp] theorem ev_rep (a : E) (y z : T) : evE Φ (.rep a y z) env m = (evE Φ a env m).bind fun x m1 => match x with
    | .str s => R.ofO (repD s y z) m1
    | _ => .no := id rfl
@[simp] theorem ev_isB (n b : Bool) (a : E) : evE Φ (.isB n b a) env m = (evE Φ a env m).bind fun x m1 => match x with
    | .bl c => .ok (.bl ((c == b) != n)) m1
    | _ => .no := id rfl
@[simp] theorem ev_cnt (a : A) (e : E) : evE Φ (.cnt a e) env m = (evA Φ a env m).bind fun x m1 => if isLst (vw m1 x) = true then (evE Φ e env m1).bind fun y m2 => R.ofO ((vw m2 x).bind (cntD y)) m2 else .no := id rfl
@[simp] theorem ev_isi (a : A) (t : Ty) : evE Φ (.isi a t) env m = (evA Φ a env m).bind fun x m1 => R.ofO ((vw m1 x).bind fun x' => (isT t x').map .bl) m1 := id rfl
@[simp] theorem ev_get (a : A) (k d : E) : evE Φ (.get a k d) env m = (evA Φ a env m).bind fun x m1 => if isDct (vw m1 x) = true then (evE Φ k env m1).bind fun y m2 => (evE Φ d env m2).bind fun z m3 => match vw m3 x with
      | some (.dct t kvs) => if isKey t y = true then .ok ((getK kvs y).getD z) m3 else .no
      | _ => .no
    else .no := id rfl
@[simp] theorem ev_call (f : Nat) (es : Es) : evE Φ (.call f es) env m = (evEs Φ es env m).bind fun xs m1 => (Φ f xs m1).bind fun r m2 => .ok r.2 m2 := id rfl
@[simp] theorem ev_fr (f : F) : evE Φ (.fr f) env m = evF Φ f env m := id rfl
@[simp] theorem ev_new (f : F) : evE Φ (.new f) env m = (evF Φ f env m).bind fun d m1 => .ok (.obj m1.length) (m1 ++ [d]) := id rfl
@[simp] theorem ev_and1 (a : E) : evAnd Φ (.cons a .nil) env m = evE Φ a env m := by
  show (evE Φ a env m).bind _ = _
  cases evE Φ a env m <;> rfl
@[simp] theorem ev_or1 (a : E) : evOr Φ (.cons a .nil) env m = evE Φ a env m := by
  show (evE Φ a env m).bind _ = _
  cases evE Φ a env m <;> rfl
@[simp] theorem ev_and2 (a b : E) (r : Es) : evAnd Φ (.cons a (.cons b r)) env m = (evE Φ a env m).bind fun x m1 => match x with
    | .bl true => evAnd Φ (.cons b r) env m1
    | .bl false => .ok (.bl false) m1
    | _ => .no := by
  show (evE Φ a env m).bind _ = _
  congr 1
  funext x m1
  cases x with
  | bl c => cases c <;> rfl
  | _ => rfl
@[simp] theorem ev_or2 (a b : E) (r : Es) : evOr Φ (.cons a (.cons b r)) env m = (evE Φ a env m).bind fun x m1 => match x with
    | .bl false => evOr Φ (.cons b r) env m1
    | .bl true => .ok (.bl true) m1
    | _ => .no := by
  show (evE Φ a env m).bind _ = _
  congr 1
  funext x m1
  cases x with
  | bl c => cases c <;> rfl
  | _ => rfl
@[simp] theorem ev_nil : evEs Φ .nil env m = .ok [] m := id rfl
@[simp] theorem ev_cons (e : E) (r : Es) : evEs Φ (.cons e r) env m = (evE Φ e env m).bind fun x m1 => (evEs Φ r env m1).bind fun xs m2 => .ok (x :: xs) m2 := id rfl
@[simp] theorem ev_ono : evO Φ .no env m = .ok none m := id rfl
@[simp] theorem ev_oso (e : E) : evO Φ (.so e) env m = (evE Φ e env m).bind fun x m1 => R.ofO ((intO x).map some) m1 := id rfl
@[simp] theorem ev_tno : evT Φ .no env m = .ok (.bl true) m := id rfl
@[simp] theorem ev_tso (e : E) : evT Φ (.so e) env m = evE Φ e env m := id rfl
@[simp] theorem ev_ex (e : E) : evA Φ (.ex e) env m = evE Φ e env m := id rfl
@[simp] theorem ev_pk (i : Nat) : evA Φ (.pk i) env m = match gt env i with | .val d => .ok d m | .own d => .ok d m | .no => .no := id rfl
@[simp] theorem ev_gl (x : PySem.Str) (d : D) : evA Φ (.gl x d) env m = .ok (.kon d) m := id rfl
@[simp] theorem ev_knil : evK Φ .nil env m = .ok [] m := id rfl
@[simp] theorem ev_kcons (k v : E) (r : Kvs) : evK Φ (.cons k v r) env m = (evE Φ k env m).bind fun x m1 => (evE Φ v env m1).bind fun y m2 => (evK Φ r env m2).bind fun ps m3 => .ok ((x, y) :: ps) m3 := id rfl
@[simp] theorem ev_flst (es : Es) : evF Φ (.lst es) env m = (evEs Φ es env m).bind fun xs m1 => .ok (.lst xs) m1 := id rfl
@[simp] theorem ev_fdct (t : Bool) (kvs : Kvs) : evF Φ (.dct t kvs) env m = (evK Φ kvs env m).bind fun ps m1 =>
      if (ps.all fun p => isKey t p.1) = true then .ok (.dct t (mergeK [] ps)) m1 else .no := id rfl
@[simp] theorem ev_fcomp (own : List Nat) (g : G) (it : I) (ifs : EO) (elt : E) : evF Φ (.comp own g it ifs elt) env m = if noOwn env own = true then (evI Φ it env m).bind fun xs m1 =>
      if xs.length ≤ line then (compL (wipeE env own) g (fun e m => evT Φ ifs e m) (fun e m => evE Φ elt e m) xs m1).bind fun ys m2 => .ok (.lst ys) m2 else .no else .no := id rfl
@[simp] theorem ev_fcompK (own : List Nat) (g : G) (i : Nat) (ifs : EO) (elt : E) : evF Φ (.compK own g i ifs elt) env m = match gt env i with
    | .val (.dct false kvs) => if noOwn env own = true then
      if kvs.length ≤ line then (compL (wipeE env own) g (fun e m => evT Φ ifs e m) (fun e m => evE Φ elt e m) (kvs.map (·.1)) m).bind fun ys m2 => .ok (.lst ys) m2 else .no else .no
    | _ => .no := id rfl
@[simp] theorem ev_flstof (a : A) : evF Φ (.lstof a) env m = (evA Φ a env m).bind fun x m1 => R.ofO ((vw m1 x).bind lstD) m1 := id rfl
@[simp] theorem ev_fdctof (a : A) : evF Φ (.dctof a) env m = (evA Φ a env m).bind fun x m1 => R.ofO ((vw m1 x).bind dctD) m1 := id rfl
@[simp] theorem ev_fitm (a : A) : evF Φ (.itm a) env m = (evA Φ a env m).bind fun x m1 => R.ofO ((vw m1 x).bind itmD) m1 := id rfl
@[simp] theorem ev_fstp (a : A) (e : E) : evF Φ (.stp a e) env m = (evA Φ a env m).bind fun x m1 => if isLst (vw m1 x) = true then (evE Φ e env m1).bind fun y m2 => R.ofO ((intO y).bind fun i => (vw m2 x).bind (stpD i)) m2 else .no := id rfl
@[simp] theorem ev_flstT (a : A) : evF Φ (.lstT a) env m = (evA Φ a env m).bind fun x m1 => R.ofO ((vw m1 x).bind lstTD) m1 := id rfl
@[simp] theorem ev_flrg (a : E) : evF Φ (.lrg a) env m = (evE Φ a env m).bind fun x m1 => match x with
    | .int j => if 0 ≤ j ∧ j ≤ 16777216 then .ok (.lst (rngL 0 j.toNat)) m1 else .no
    | _ => .no := id rfl
@[simp] theorem ev_att (o : E) (js : List Nat) (x : T) : evE Φ (.att o js x) env m = (evE Φ o env m).bind fun a m1 => match insO Φ m1 js a with
    | some (_, _, fs) => R.ofO (fs.lookup x) m1
    | none => .no := id rfl
@[simp] theorem ev_mth (o : E) (x : T) (jf : List (Nat × Nat)) (es : Es) : evE Φ (.mth o x jf es) env m = (evE Φ o env m).bind fun a m1 => match insO Φ m1 (jf.map (·.1)) a with
    | some (_, C, fs) => match fs.lookup x, whichC Φ m1 C jf with
      | none, some f => (evEs Φ es env m1).bind fun xs m2 => (Φ f (a :: xs) m2).bind fun r m3 => .ok r.2 m3
      | _, _ => .no
    | none => .no := id rfl
@[simp] theorem ev_mk (y : PySem.Str) (j f : Nat) (es : Es) : evE Φ (.mk y j f es) env m = (evEs Φ es env m).bind fun xs m1 => match Φ (xOwn + j) [] m1 with
    | .ok r _ => match r.2 with
      | .ins C _ => (Φ f (.obj m1.length :: xs) (m1 ++ [.ins C []])).bind fun q m3 => match q.2 with
        | .non => .ok (.obj m1.length) m3
        | _ => .no
      | _ => .no
    | _ => .no := id rfl
@[simp] theorem ev_opop (o : E) : evE Φ (.opop o) env m = (evE Φ o env m).bind fun a m1 => match a with
    | .obj h => match m1[h]? with
      | some (.lst xs) => match xs[xs.length - 1]? with
        | some d => .ok d (m1.set h (.lst xs.dropLast))
        | none => .no
      | _ => .no
    | _ => .no := id rfl
@[simp] theorem ev_fsrtK (e : E) (i : Nat) (M : Int) (t : Nat) (q : T) : evF Φ (.srtK e i M t q) env m = (evE Φ e env m).bind fun x m1 => match x, gt env i with
    | .lst xs, .val (.int st) => match intsO xs with
      | some js => if isTab m1 t q = true ∧ js.length ≤ 100 ∧ (∀ j ∈ js, -(2 ^ 64) < j ∧ j < 2 ^ 64) then .ok (.lst ((ordK st M js).map .int)) m1 else .no
      | none => .no
    | _, _ => .no := id rfl
@[simp] theorem ev_fsrt (a : A) : evF Φ (.srt a) env m = (evA Φ a env m).bind fun x m1 => R.ofO ((vw m1 x).bind srtD) m1 := id rfl
@[simp] theorem ev_fbop (o : Bop) (a b : A) : evF Φ (.bop o a b) env m = (evA Φ a env m).bind fun x m1 => (evA Φ b env m1).bind fun y m2 =>
      R.ofO ((vw m2 x).bind fun x' => (vw m2 y).bind fun y' => match o.run x' y' with
        | some (.lst zs) => some (.lst zs)
        | _ => none) m2 := id rfl
@[simp] theorem ev_fslc (a : A) (lo hi : EO) : evF Φ (.slc a lo hi) env m = (evA Φ a env m).bind fun x m1 => (evO Φ lo env m1).bind fun l m2 => (evO Φ hi env m2).bind fun h m3 => R.ofO ((vw m3 x).bind fun x' => match x' with
      | .lst xs => some (.lst (cut xs l h))
      | _ => none) m3 := id rfl
@[simp] theorem ev_en (a : A) : evI Φ (.en a) env m = (evA Φ a env m).bind fun x m1 => R.ofO ((seqL x).map (enumL 0)) m1 := id rfl
@[simp] theorem ev_enT (a : A) : evI Φ (.enT a) env m = (evA Φ a env m).bind fun x m1 => R.ofO ((seqT x).map (enumL 0)) m1 := id rfl
@[simp] theorem ev_zip (a b : A) : evI Φ (.zip a b) env m = (evA Φ a env m).bind fun x m1 => (evA Φ b env m1).bind fun y m2 => R.ofO (zipD x y) m2 := id rfl
@[simp] theorem ev_fcall (f : Nat) (es : Es) : evF Φ (.call f es) env m = (evEs Φ es env m).bind fun xs m1 => (Φ f xs m1).bind fun r m2 => if r.1 = true then .ok r.2 m2 else .no := id rfl
@[simp] theorem ev_it (a : A) : evI Φ (.it a) env m = (evA Φ a env m).bind fun x m1 => R.ofO (itemsD x) m1 := id rfl
@[simp] theorem ev_rg1 (a : E) : evI Φ (.rg1 a) env m = (evE Φ a env m).bind fun x m1 => match x with
    | .int j => if rngOk j = true then .ok (rngL 0 j.toNat) m1 else .no
    | _ => .no := id rfl
@[simp] theorem ev_rg2 (a b : E) : evI Φ (.rg2 a b) env m = (evE Φ a env m).bind fun x m1 => (evE Φ b env m1).bind fun y m2 => match x, y with
    | .int i, .int j => if (rngOk i && rngOk j) = true then .ok (rngL i (j - i).toNat) m2 else .no
    | _, _ => .no := id rfl
@[simp] theorem ev_zipS (a b : E) : evI Φ (.zipS a b) env m = (evE Φ a env m).bind fun x m1 => (evE Φ b env m1).bind fun y m2 => match x, y with
    | .str s, .tup ys => .ok (zipST s ys) m2
    | _, _ => .no := id rfl
@[simp] theorem ev_flrg2 (a b : E) : evF Φ (.lrg2 a b) env m = (evE Φ a env m).bind fun x m1 => (evE Φ b env m1).bind fun y m2 => match x, y with
    | .int i, .int j => if lrgOk i j = true then .ok (.lst (rngL i (j - i).toNat)) m2 else .no
    | _, _ => .no := id rfl
@[simp] theorem ex_nil : exSs Φ .nil env m = .nx env m := id rfl
@[simp] theorem ex_cons (s : S) (r : Ss) : exSs Φ (.cons s r) env m = (exS Φ s env m).thn fun e1 m1 => exSs Φ r e1 m1 := id rfl
@[simp] theorem ex_set (i : Nat) (e : E) : exS Φ (.set i e) env m = (evE Φ e env m).thenO fun d m1 => .nx (st env i (.val d)) m1 := id rfl
@[simp] theorem ex_own (i : Nat) (f : F) : exS Φ (.own i f) env m = (evF Φ f env m).thenO fun d m1 => .nx (st env i (.own d)) m1 := id rfl
@[simp] theorem ex_asg (g : G) (e : E) : exS Φ (.asg g e) env m = (evE Φ e env m).thenO fun d m1 => match bindG g d env with
    | some e1 => .nx e1 m1
    | none => .no := id rfl
@[simp] theorem ex_par (ps : Ps) : exS Φ (.par ps) env m = (exPs Φ ps env m).thenO fun xs m1 => .nx (stores xs env) m1 := id rfl
@[simp] theorem ex_app (i : Nat) (e : E) : exS Φ (.app i e) env m = (evE Φ e env m).thenO fun d m1 => match gt env i with
    | .own (.lst xs) => if xs.length < line then .nx (st env i (.own (.lst (xs ++ [d])))) m1 else .no
    | _ => .no := id rfl
@[simp] theorem ex_ext (i : Nat) (e : E) : exS Φ (.ext i e) env m = (evE Φ e env m).thenO fun d m1 => match gt env i, d with
    | .own (.lst xs), .lst ys => if xs.length + ys.length ≤ line then .nx (st env i (.own (.lst (xs ++ ys)))) m1 else .no
    | _, _ => .no := id rfl
@[simp] theorem ex_popA (g : G) (i : Nat) (e : EO) : exS Φ (.popA g i e) env m = (evO Φ e env m).thenO fun o m1 => match gt env i with
    | .own (.lst xs) => if xs.length ≤ line then match ixN xs.length (o.getD (-1)) with
      | some k => match xs[k]? with
        | some d => match bindG g d (st env i (.own (.lst (xs.eraseIdx k)))) with
          | some e1 => .nx e1 m1
          | none => .no
        | none => .no
      | none => .no
      else .no
    | _ => .no := id rfl
@[simp] theorem ex_aug (i : Nat) (e : E) : exS Φ (.aug i e) env m = (evE Φ e env m).thenO fun d m1 => match gt env i, d with
    | .own (.lst xs), .lst ys => if xs.length + ys.length ≤ line then .nx (st env i (.own (.lst (xs ++ ys)))) m1 else .no
    | _, _ => .no := id rfl
@[simp] theorem ex_put (i : Nat) (k v : E) : exS Φ (.put i k v) env m = (evE Φ v env m).thenO fun x m1 => (evE Φ k env m1).thenO fun y m2 => match gt env i with
    | .own (.dct t kvs) => if isKey t y = true ∧ kvs.length < line then .nx (st env i (.own (.dct t (putK kvs y x)))) m2 else .no
    | .own (.lst xs) => match y with
      | .int j => match ixN xs.length j with
        | some j' => .nx (st env i (.own (.lst (xs.set j' x)))) m2
        | none => .no
      | _ => .no
    | _ => .no := id rfl
@[simp] theorem ex_oapp (o e : E) : exS Φ (.oapp o e) env m = (evE Φ o env m).thenO fun a m1 => if isLstO m1 a = true then (evE Φ e env m1).thenO fun d m2 => match a with
    | .obj h => match m2[h]? with
      | some (.lst xs) => if xs.length < line then .nx env (sto m2 h (.lst (xs ++ [d]))) else .no
      | _ => .no
    | _ => .no
    else .no := id rfl
@[simp] theorem ex_oput (o k v : E) : exS Φ (.oput o k v) env m = (evE Φ v env m).thenO fun x m1 => (evE Φ o env m1).thenO fun a m2 => (evE Φ k env m2).thenO fun y m3 => match a with
    | .obj h => match m3[h]? with
      | some (.dct t kvs) => if isKey t y = true ∧ kvs.length < line then .nx env (sto m3 h (.dct t (putK kvs y x))) else .no
      | some (.lst xs) => match y with
        | .int j => match ixN xs.length j with
          | some j' => .nx env (sto m3 h (.lst (xs.set j' x)))
          | none => .no
        | _ => .no
      | _ => .no
    | _ => .no := id rfl
@[simp] theorem ex_oclr (o : E) : exS Φ (.oclr o) env m = (evE Φ o env m).thenO fun a m1 => match a with
    | .obj h => match m1[h]? with
      | some (.dct t _) => if t = false then .nx env (sto m1 h (.dct false [])) else .no
      | some (.lst xs) => .nx env (sto m1 h (.lst []))
      | _ => .no
    | _ => .no := id rfl
@[simp] theorem ex_shr (i : Nat) : exS Φ (.shr i) env m = match gt env i with
    | .own d => .nx (st env i (.val (.obj m.length))) (m ++ [d])
    | _ => .no := id rfl
@[simp] theorem ex_frz (i : Nat) : exS Φ (.frz i) env m = match gt env i with
    | .own d => .nx (st env i (.val d)) m
    | .val d => .nx env m
    | .no => .no := id rfl
@[simp] theorem ex_iff (t : E) (a b : Ss) : exS Φ (.iff t a b) env m = (evE Φ t env m).thenO fun c m1 => match c with
    | .bl true => exSs Φ a env m1
    | .bl false => exSs Φ b env m1
    | _ => .no := id rfl
@[simp] theorem ex_satt (o : E) (js : List Nat) (x : T) (v : E) : exS Φ (.satt o js x v) env m = (evE Φ v env m).thenO fun d m1 => (evE Φ o env m1).thenO fun a m2 => match insO Φ m2 js a with
    | some (h, C, fs) => if fs.length < 1000 then .nx env (sto m2 h (.ins C (putFd x d fs))) else .no
    | none => .no := id rfl
@[simp] theorem ex_aatt (o : E) (js : List Nat) (x : T) (v : E) : exS Φ (.aatt o js x v) env m = (evE Φ o env m).thenO fun a m1 => match insO Φ m1 js a with
    | some (h, C, fs) => match fs.lookup x with
      | some (.int i) => (evE Φ v env m1).thenO fun d m2 => match d, m2[h]? with
        | .int k, some (.ins C' fs') => if C' = C ∧ fs'.length < 1000 then .nx env (sto m2 h (.ins C (putFd x (.int (i + k)) fs'))) else .no
        | _, _ => .no
      | _ => .no
    | none => .no := id rfl
@[simp] theorem ex_inc (i : Nat) (v : E) : exS Φ (.inc i v) env m = match gt env i with
    | .val (.int k) => (evE Φ v env m).thenO fun d m1 => match d with
      | .int j => .nx (st env i (.val (.int (k + j)))) m1
      | _ => .no
    | _ => .no := id rfl
@[simp] theorem ex_oext (o e : E) : exS Φ (.oext o e) env m = (evE Φ o env m).thenO fun a m1 => if isLstO m1 a = true then (evE Φ e env m1).thenO fun d m2 => match a, d with
    | .obj h, .lst ys => match m2[h]? with
      | some (.lst xs) => if xs.length + ys.length ≤ line then .nx env (sto m2 h (.lst (xs ++ ys))) else .no
      | _ => .no
    | _, _ => .no
    else .no := id rfl
@[simp] theorem ex_fol (g : G) (e : E) (b : Ss) : exS Φ (.fol g e b) env m = (evE Φ e env m).thenO fun x m1 => match x with
    | .obj h => forV g (fun e m => exSs Φ b e m) h most 0 env m1
    | _ => .no := id rfl
@[simp] theorem ex_fo (g : G) (it : I) (b : Ss) : exS Φ (.fo g it b) env m = if isAs it = true then (evI Φ it env m).thenO fun xs m1 => forL g (fun e m => exSs Φ b e m) xs env m1 else .no := id rfl
@[simp] theorem ex_fok (g : G) (i : Nat) (w : Bool) (b : Ss) : exS Φ (.fok g i w b) env m = match gt env i with
    | .val (.dct false kvs) => noX (forL g (fun e m => exSs Φ b e m) (walkD w kvs) env m)
    | _ => .no := id rfl
@[simp] theorem ex_wh (t : E) (b : Ss) : exS Φ (.wh t b) env m = whL (fun e m => evE Φ t e m) (fun e m => exSs Φ b e m) most env m := id rfl
@[simp] theorem ex_xexp (e : E) : exS Φ (.xexp e) env m = (evE Φ e env m).thenX fun _ m1 => .nx env m1 := id rfl
@[simp] theorem ex_xset (i : Nat) (e : E) : exS Φ (.xset i e) env m = (evE Φ e env m).thenX fun d m1 => .nx (st env i (.val d)) m1 := id rfl
@[simp] theorem ex_xasg (g : G) (e : E) : exS Φ (.xasg g e) env m = (evE Φ e env m).thenX fun d m1 => match bindG g d env with
    | some e1 => .nx e1 m1
    | none => .no := id rfl
@[simp] theorem ex_xret (e : E) : exS Φ (.xret e) env m = (evE Φ e env m).thenX fun d m1 => .rt false d m1 := id rfl
@[simp] theorem ex_xiff (t : E) (a b : Ss) : exS Φ (.xiff t a b) env m = (evE Φ t env m).thenX fun c m1 => match c with
    | .bl true => exSs Φ a env m1
    | .bl false => exSs Φ b env m1
    | _ => .no := id rfl
@[simp] theorem ex_raise (x : PySem.Str) (i : Nat) (msg : T) : exS Φ (.raise x i msg) env m = (Φ (xCls + i) [] m).thenO fun r m1 => .ex r.2 m1 := id rfl
@[simp] theorem ev_isx (e : E) (x : PySem.Str) (i : Nat) : evE Φ (.isx e x i) env m = (evE Φ e env m).bind fun x m1 => (Φ (xTst + i) [x] m1).bind fun r m2 => .ok r.2 m2 := id rfl
@[simp] theorem ev_xcall (f : Nat) (as : Es) : evE Φ (.xcall f as) env m = match evEs Φ as env m with
    | .ok xs m1 => (Φ f xs m1).bind fun r m2 => .ok r.2 m2
    | _ => .no := id rfl
@[simp] theorem ev_xarg (f : Nat) (a : E) : evE Φ (.xarg f a) env m = (evE Φ a env m).bind fun x m1 => (Φ f [x] m1).bind fun r m2 => .ok r.2 m2 := id rfl
@[simp] theorem ev_told (x : PySem.Str) (t : Nat) (q : T) (s w f : Nat) (es : Es) : evE Φ (.told x t q s w f es) env m = if isTab m t q = true then match evEs Φ es env m with
    | .ok xs m1 => toldR Φ s w (Φ f xs m1)
    | _ => .no else .no := id rfl
@[simp] theorem told_ok (s w : Nat) (r : Bool × D) (m : Mem) : toldR Φ s w (.ok r m) = .ok r.2 m := id rfl
@[simp] theorem told_ex (s w : Nat) (d : D) (m : Mem) : toldR Φ s w (.ex d m) = (Φ (xTst + s) [d] m).bind fun b m1 => match b.2 with
    | .bl true => (Φ w [d] m1).bind fun r m2 => .ok r.2 m2
    | _ => .no := id rfl
@[simp] theorem noX_nx (e : Env) (m : Mem) : noX (.nx e m) = .nx e m := id rfl
@[simp] theorem noX_rt (b : Bool) (d : D) (m : Mem) : noX (.rt b d m) = .rt b d m := id rfl
@[simp] theorem ex_ret (e : E) : exS Φ (.ret e) env m = (evE Φ e env m).thenO fun d m1 => .rt false d m1 := id rfl
@[simp] theorem ex_retF (f : F) : exS Φ (.retF f) env m = (evF Φ f env m).thenO fun d m1 => .rt true d m1 := id rfl
@[simp] theorem ex_retX (i : Nat) : exS Φ (.retX i) env m = match gt env i with
    | .own d => .rt true d m
    | _ => .no := id rfl
@[simp] theorem ex_exp (e : E) : exS Φ (.exp e) env m = (evE Φ e env m).thenO fun _ m1 => .nx env m1 := id rfl
@[simp] theorem ex_brk : exS Φ .brk env m = .bk env m := id rfl
@[simp] theorem ex_cnt : exS Φ .cnt env m = .ct env m := id rfl
@[simp] theorem ex_pass : exS Φ .pass env m = .nx env m := id rfl
@[simp] theorem ex_pnil : exPs Φ .nil env m = .ok [] m := id rfl
@[simp] theorem ex_pe (i : Nat) (x : E) (r : Ps) : exPs Φ (.e i x r) env m = (evE Φ x env m).bind fun d m1 => (exPs Φ r env m1).bind fun ds m2 => .ok ((i, .val d) :: ds) m2 := id rfl
@[simp] theorem ex_pf (i : Nat) (x : F) (r : Ps) : exPs Φ (.f i x r) env m = (evF Φ x env m).bind fun d m1 => (exPs Φ r env m1).bind fun ds m2 => .ok ((i, .own d) :: ds) m2 := id rfl
/-! slots -/
@[simp] theorem gt_0 (s : Sl) (r : Env) : gt (s :: r) 0 = s := id rfl
@[simp] theorem gt_s (s : Sl) (r : Env) (i : Nat) : gt (s :: r) (i + 1) = gt r i := id rfl
@[simp] theorem st_0 (s x : Sl) (r : Env) : st (s :: r) 0 x = x :: r := id rfl
@[simp] theorem st_s (s x : Sl) (r : Env) (i : Nat) : st (s :: r) (i + 1) x = s :: st r i x := id rfl
@[simp] theorem bindG_nm (i : Nat) (d : D) (env : Env) : bindG (.nm i) d env = if (gt env i).isOwn = true then none else some (st env i (.val d)) := id rfl
@[simp] theorem bindG_tp (gs : Gs) (ds : List D) (env : Env) : bindG (.tp gs) (.tup ds) env = bindGs gs ds env := id rfl
@[simp] theorem bindGs_nil (env : Env) : bindGs .nil [] env = some env := id rfl
@[simp] theorem bindGs_cons (g : G) (r : Gs) (d : D) (ds : List D) (env : Env) : bindGs (.cons g r) (d :: ds) env = (bindG g d env).bind fun env' => bindGs r ds env' := id rfl
@[simp] theorem isOwn_val (d : D) : (Sl.val d).isOwn = false := id rfl
@[simp] theorem isOwn_own (d : D) : (Sl.own d).isOwn = true := id rfl
@[simp] theorem isOwn_no : Sl.no.isOwn = false := id rfl
/-! values -/
@[simp] theorem vw_non (m : Mem) : vw m .non = some .non := id rfl
@[simp] theorem vw_bl (m : Mem) (b : Bool) : vw m (.bl b) = some (.bl b) := id rfl
@[simp] theorem vw_int (m : Mem) (b : Int) : vw m (.int b) = some (.int b) := id rfl
@[simp] theorem vw_str (m : Mem) (b : T) : vw m (.str b) = some (.str b) := id rfl
@[simp] theorem vw_tup (m : Mem) (b : List D) : vw m (.tup b) = some (.tup b) := id rfl
@[simp] theorem vw_lst (m : Mem) (b : List D) : vw m (.lst b) = some (.lst b) := id rfl
@[simp] theorem vw_dct (m : Mem) (t : Bool) (b : List (D × D)) : vw m (.dct t b) = some (.dct t b) := id rfl
@[simp] theorem vw_scr (m : Mem) (b : List Int) : vw m (.scr b) = some (.scr b) := id rfl
@[simp] theorem vw_kon (m : Mem) (b : D) : vw m (.kon b) = some (.kon b) := id rfl
@[simp] theorem vw_obj (m : Mem) (h : Nat) : vw m (.obj h) = m[h]? := id rfl
@[simp] theorem add_int (i j : Int) : Bop.run .add (.int i) (.int j) = some (.int (i + j)) := id rfl
@[simp] theorem sub_int (i j : Int) : Bop.run .sub (.int i) (.int j) = some (.int (i - j)) := id rfl
@[simp] theorem add_str (s t : T) : Bop.run .add (.str s) (.str t) = if s.length + t.length ≤ line then some (.str (s ++ t)) else none := id rfl
@[simp] theorem add_lst (s t : List D) : Bop.run .add (.lst s) (.lst t) = if s.length + t.length ≤ line then some (.lst (s ++ t)) else none := id rfl
@[simp] theorem add_tup (s t : List D) : Bop.run .add (.tup s) (.tup t) = if s.length + t.length ≤ line then some (.tup (s ++ t)) else none := id rfl
theorem mul_int {i j : Int} (h : mulOk i j = true) : Bop.run .mul (.int i) (.int j) = some (.int (i * j)) := by show (if _ then _ else _) = _; rw [if_pos h]
theorem mul_str (s : T) (j : Int) : Bop.run .mul (.str s) (.int j) = if s.length * j.toNat ≤ line ∧ j < 2 ^ 62 ∧ -(2 ^ 62) < j then some (.str (List.replicate j.toNat s).flatten) else none := id rfl
theorem mul_lst (s : List D) (j : Int) : Bop.run .mul (.lst s) (.int j) = if s.length * j.toNat ≤ line ∧ j < 2 ^ 62 ∧ -(2 ^ 62) < j then some (.lst (List.replicate j.toNat s).flatten) else none := id rfl
theorem mul_tup (s : List D) (j : Int) : Bop.run .mul (.tup s) (.int j) = if s ≠ [] ∧ 2 ≤ j ∧ j ≤ 100000 ∧ s.length ≤ 100 then some (.tup (List.replicate j.toNat s).flatten) else none := id rfl
@[simp] theorem mod_int (i j : Int) : Bop.run .mod (.int i) (.int j) = if 0 < j then some (.int (i % j)) else none := id rfl
@[simp] theorem fdv_int (i j : Int) : Bop.run .fdv (.int i) (.int j) = if 0 < j ∧ (j < 1073741824 ∨ j.natAbs.log2 < 9000) then some (.int (i / j)) else none := id rfl
@[simp] theorem pow_int (i j : Int) : Bop.run .pow (.int i) (.int j) = if 0 < j ∧ 1 < i ∧ (i.natAbs.log2 + 1) * j.toNat < 100000 then some (.int (i ^ j.toNat)) else none := id rfl
@[simp] theorem neg_int (i : Int) : U1.run .neg (.int i) = some (.int (-i)) := id rfl
theorem mulOk_l {i j : Int} (h1 : -(2 ^ 64) < i) (h2 : i < 2 ^ 64) : mulOk i j = true := by unfold mulOk small; rw [decide_eq_true ⟨h1, h2⟩]; rfl
theorem mulOk_r {i j : Int} (h1 : -(2 ^ 64) < j) (h2 : j < 2 ^ 64) : mulOk i j = true := by unfold mulOk small; rw [decide_eq_true (p := _ ∧ _) ⟨h1, h2⟩, Bool.or_true]; rfl
@[simp] theorem lt_int (i j : Int) : Cmp.run2 .lt (.int i) (.int j) = some (decide (i < j)) := id rfl
@[simp] theorem le_int (i j : Int) : Cmp.run2 .le (.int i) (.int j) = some (decide (i ≤ j)) := id rfl
@[simp] theorem gt_int (i j : Int) : Cmp.run2 .gt (.int i) (.int j) = some (decide (j < i)) := id rfl
@[simp] theorem ge_int (i j : Int) : Cmp.run2 .ge (.int i) (.int j) = some (decide (j ≤ i)) := id rfl
theorem eq_pl {x y : D} (hx : pl deep x = true) (hy : pl deep y = true) : Cmp.run2 .eq x y = some (eqD x y) := by
  have g : Cmp.run .eq x y = some (eqD x y) := by
    show (if _ then _ else _) = _
    rw [hx, hy]; rfl
  cases x with
  | dct t ks => simp [pl] at hx
  | lst xs =>
    cases xs with
    | nil => cases y <;> exact g
    | cons z zs =>
      cases y with
      | lst ys =>
        cases ys with
        | nil => rfl
        | cons => exact g
      | _ => exact g
  | _ => exact g
theorem ne_pl {x y : D} (hx : pl deep x = true) (hy : pl deep y = true) : Cmp.run2 .ne x y = some (!eqD x y) := by
  have g : Cmp.run .ne x y = some (!eqD x y) := by
    show (if _ then _ else _) = _
    rw [hx, hy]; rfl
  cases x with
  | dct t ks => simp [pl] at hx
  | lst xs =>
    cases xs with
    | nil => cases y <;> exact g
    | cons z zs =>
      cases y with
      | lst ys =>
        cases ys with
        | nil => rfl
        | cons => exact g
      | _ => exact g
  | _ => exact g
theorem eq_none (xs : List D) : Cmp.run2 .eq (.lst xs) (.lst []) = some xs.isEmpty := by
  cases xs with
  | nil => exact eq_pl (x := .lst []) (y := .lst []) rfl rfl
  | cons => rfl
theorem ne_none (xs : List D) : Cmp.run2 .ne (.lst xs) (.lst []) = some (!xs.isEmpty) := by
  cases xs with
  | nil => exact ne_pl (x := .lst []) (y := .lst []) rfl rfl
  | cons => rfl
@[simp] theorem pl_int (n : Nat) (i : Int) : pl n (.int i) = true := by cases n <;> rfl
@[simp] theorem pl_str (n : Nat) (i : T) : pl n (.str i) = true := by cases n <;> rfl
@[simp] theorem pl_bl (n : Nat) (i : Bool) : pl n (.bl i) = true := by cases n <;> rfl
@[simp] theorem pl_non (n : Nat) : pl n .non = true := by cases n <;> rfl
@[simp] theorem pl_tup (n : Nat) (xs : List D) : pl (n + 1) (.tup xs) = pls n xs := id rfl
@[simp] theorem pl_lst (n : Nat) (xs : List D) : pl (n + 1) (.lst xs) = pls n xs := id rfl
@[simp] theorem pls_nil (n : Nat) : pls n [] = true := id rfl
@[simp] theorem pls_cons (n : Nat) (x : D) (xs : List D) : pls n (x :: xs) = (pl n x && pls n xs) := id rfl
@[simp] theorem eq_int (i j : Int) : Cmp.run2 .eq (.int i) (.int j) = some (i == j) := eq_pl (pl_int _ _) (pl_int _ _)
@[simp] theorem ne_int (i j : Int) : Cmp.run2 .ne (.int i) (.int j) = some (!(i == j)) := ne_pl (pl_int _ _) (pl_int _ _)
@[simp] theorem eq_str (i j : T) : Cmp.run2 .eq (.str i) (.str j) = some (i == j) := eq_pl (pl_str _ _) (pl_str _ _)
@[simp] theorem ne_str (i j : T) : Cmp.run2 .ne (.str i) (.str j) = some (!(i == j)) := ne_pl (pl_str _ _) (pl_str _ _)
@[simp] theorem min_int (i j : Int) : U2.run .min (.int i) (.int j) = some (.int (if j < i then j else i)) := id rfl
@[simp] theorem max_int (i j : Int) : U2.run .max (.int i) (.int j) = some (.int (if j > i then j else i)) := id rfl
@[simp] theorem len_lst (xs : List D) : U1.run .len (.lst xs) = some (.int xs.length) := id rfl
@[simp] theorem len_tup (xs : List D) : U1.run .len (.tup xs) = some (.int xs.length) := id rfl
@[simp] theorem len_str (xs : T) : U1.run .len (.str xs) = some (.int xs.length) := id rfl
@[simp] theorem len_scr (xs : List Int) : U1.run .len (.scr xs) = some (.int xs.length) := id rfl
@[simp] theorem len_dct (t : Bool) (xs : List (D × D)) : U1.run .len (.dct t xs) = some (.int xs.length) := id rfl
@[simp] theorem tup_lst (xs : List D) : U1.run .tup (.lst xs) = some (.tup xs) := id rfl
@[simp] theorem tup_tup (xs : List D) : U1.run .tup (.tup xs) = some (.tup xs) := id rfl
@[simp] theorem rev_lst (xs : List D) : U1.run .rev (.lst xs) = some (.lst xs.reverse) := id rfl
@[simp] theorem rev_tup (xs : List D) : U1.run .rev (.tup xs) = some (.tup xs.reverse) := id rfl
@[simp] theorem idx_lst (xs : List D) (i : Int) : idxD (.lst xs) (.int i) = atI xs i := id rfl
@[simp] theorem idx_tup (xs : List D) (i : Int) : idxD (.tup xs) (.int i) = atI xs i := id rfl
@[simp] theorem idx_scr (xs : List Int) (i : Int) : idxD (.scr xs) (.int i) = (atI xs i).map .int := id rfl
@[simp] theorem idx_str (xs : T) (i : Int) : idxD (.str xs) (.int i) = (atI xs i).map fun c => .str [c] := id rfl
@[simp] theorem idx_dct (t : Bool) (kvs : List (D × D)) (k : D) : idxD (.dct t kvs) k = if isKey t k = true then getK kvs k else none := by cases k <;> rfl
@[simp] theorem items_lst (xs : List D) : itemsD (.lst xs) = some xs := id rfl
@[simp] theorem items_kon (xs : List D) : itemsD (.kon (.tup xs)) = some xs := id rfl
@[simp] theorem items_str (xs : T) : itemsD (.str xs) = some (xs.map fun c => .str [c]) := id rfl
@[simp] theorem items_tup (xs : List D) : itemsD (.tup xs) = some xs := id rfl
@[simp] theorem key_str (s : T) : isKey false (.str s) = true := id rfl
@[simp] theorem key_int (s : Int) : isKey false (.int s) = true := id rfl
theorem atI_nat {α : Type} (xs : List α) (i : Nat) : atI xs (i : Int) = xs[i]? := by
  unfold atI ixN
  rw [if_pos (Int.natCast_nonneg i)]
  by_cases h : i < xs.length
  · rw [if_pos (by omega)]; simp
  · rw [if_neg (by omega)]; simp [List.getElem?_eq_none (Nat.le_of_not_lt h)]
/-- a def of the program, called -/
theorem call_run {XF : Fs} {P : List Fn} {k f : Nat} {fn : Fn} (h : P[f]? = some fn) (args : List D) (m : Mem) : callX XF P (k + 1) f args m = runFn (callX XF P k) fn args m := by
  show (match P[f]? with | some fn => runFn (callX XF P k) fn args m | none => XF f args m) = _
  rw [h]
theorem call_out {XF : Fs} {P : List Fn} {k f : Nat} (h : P[f]? = none) (args : List D) (m : Mem) : callX XF P (k + 1) f args m = XF f args m := by
  show (match P[f]? with | some fn => runFn (callX XF P k) fn args m | none => XF f args m) = _
  rw [h]
theorem run_eq {Φ : Fs} {fn : Fn} (args : List D) (m : Mem) (ha : args.length = fn.np) : runFn Φ fn args m = match exSs Φ fn.body (args.map .val ++ List.replicate (fn.ns - fn.np) .no) m with
    | .rt o d m1 => if fn.ro = true → o = true then .ok (fn.ro, d) m1 else .no
    | .nx _ m1 => if fn.ro = true then .no else .ok (false, .non) m1
    | .ex d m1 => .ex d m1
    | _ => .no := by
  show (if args.length = fn.np then _ else _) = _
  rw [if_pos ha] <;> rfl
end Mp

set_option linter.all false
set_option autoImplicit false
set_option maxRecDepth 100000
/-! Mp24: laws of the evaluator: repr has an answer; loops by invariants. -/
namespace Mp
open PySem
/-- at most so long when shown -/
def wt : D → Nat
  | .int _ => 1921
  | .str s => 10 * s.length + 2
  | .tup xs => wts xs + 3
  | .lst xs => wts xs + 3
  | _ => 5
where wts : List D → Nat
  | [] => 0
  | x :: xs => wt x + 2 + wts xs
/-- texts of code points, ints that can be shown -/
def fit : D → Bool
  | .int i => decide (i.natAbs.log2 < 1920)
  | .str s => s.all fun c => decide (c < 1114112)
  | .tup xs => fits xs
  | .lst xs => fits xs
  | _ => true
where fits : List D → Bool
  | [] => true
  | x :: xs => fit x && fits xs
theorem str_app_len (a b : PySem.Str) : (a ++ b).length = a.length + b.length := strLen_append a b
theorem textFrom_le : ∀ (ts : List PySem.Str) (k : Nat) (acc : PySem.Str), (textFrom k acc ts).length ≤ acc.length + (ts.map fun t => t.length + 2).sum
  | [], _, acc => by simp [textFrom]
  | t :: ts, k, acc => by
    have h := textFrom_le ts (k + 1) (acc ++ (if k > 0 then ", " else "" : String) ++ t)
    show (textFrom (k + 1) (acc ++ (if k > 0 then ", " else "" : String) ++ t) ts).length ≤ _
    have e : (acc ++ (if k > 0 then ", " else "" : String) ++ t).length ≤ acc.length + 2 + t.length := by
      rw [str_app_len, str_app_len]
      split
      · show _ + 2 + _ ≤ _; omega
      · show _ + 0 + _ ≤ _; omega
    rw [List.map_cons, List.sum_cons]
    omega
theorem join_le : ∀ (ts : List PySem.Str), (PySem.Str.join ", " ts).length ≤ (ts.map fun t => t.length + 2).sum
  | [] => by show (0 : Nat) ≤ 0; omega
  | [t] => by show t.length ≤ _; simp
  | x :: y :: r => by
    have h := join_le (y :: r)
    show (x ++ (", " : PySem.Str) ++ PySem.Str.join ", " (y :: r)).length ≤ _
    rw [str_app_len, str_app_len, List.map_cons, List.sum_cons]
    show x.length + 2 + _ ≤ _
    omega
mutual
theorem shown_wt : ∀ (d : D) (n : Nat), pl n d = true → fit d = true → (toPy d).shown.length ≤ wt d
  | .non, _, _, _ => by show (4 : Nat) ≤ 5; omega
  | .bl b, _, _, _ => by cases b <;> decide
  | .int i, _, _, h => by
    simp only [fit, decide_eq_true_eq] at h
    exact PyProof.Rows.int_text_len_1921 h
  | .str s, _, _, h => by
    simp only [fit, List.all_eq_true, decide_eq_true_eq] at h
    have z := StrLaws.reprText_len (tS s) fun c hc => by
      have := h c (by simpa using hc)
      have e : (16 : Nat) ^ 8 = 4294967296 := by decide
      omega
    rw [tS_len] at z
    exact z
  | .tup xs, 0, p, _ => by simp [pl] at p
  | .tup xs, n + 1, p, h => by
    have z := shown_wts xs n (by simpa [pl] using p) (by simpa [fit] using h)
    have j := join_le (PyData.shownAll (toPy.toPys xs))
    simp only [toPy, PyData.shown, wt]
    unfold tupleText
    rw [str_app_len, str_app_len]
    have e : (if (PyData.shownAll (toPy.toPys xs)).length == 1 then ",)" else ")" : String).length ≤ 2 := by split <;> decide
    have e1 : (((if (PyData.shownAll (toPy.toPys xs)).length == 1 then ",)" else ")" : String) : PySem.Str)).length ≤ 2 := by
      split
      · show (2 : Nat) ≤ 2; omega
      · show (1 : Nat) ≤ 2; omega
    show 1 + _ + _ ≤ _
    omega
  | .lst xs, 0, p, _ => by simp [pl] at p
  | .lst xs, n + 1, p, h => by
    have z := shown_wts xs n (by simpa [pl] using p) (by simpa [fit] using h)
    have j := textFrom_le (PyData.shownAll (toPy.toPys xs)) 0 "["
    simp only [toPy, PyData.shown, wt]
    unfold listText
    rw [str_app_len]
    have j' : (textFrom 0 "[" (PyData.shownAll (toPy.toPys xs))).length ≤ 1 + ((PyData.shownAll (toPy.toPys xs)).map fun t => t.length + 2).sum := j
    show _ + 1 ≤ _
    omega
  | .dct _ _, n, p, _ => by cases n <;> simp [pl] at p
  | .obj _, n, p, _ => by cases n <;> simp [pl] at p
  | .ins _ _, n, p, _ => by cases n <;> simp [pl] at p
  | .scr _, n, p, _ => by cases n <;> simp [pl] at p
  | .kon _, n, p, _ => by cases n <;> simp [pl] at p
theorem shown_wts : ∀ (ds : List D) (n : Nat), pls n ds = true → fit.fits ds = true → ((PyData.shownAll (toPy.toPys ds)).map fun t => t.length + 2).sum ≤ wt.wts ds
  | [], _, _, _ => by simp [toPy.toPys, PyData.shownAll, wt.wts]
  | d :: ds, n, p, h => by
    simp only [pls, Bool.and_eq_true] at p
    simp only [fit.fits, Bool.and_eq_true] at h
    have h1 := shown_wt d n p.1 h.1
    have h2 := shown_wts ds n p.2 h.2
    simp only [toPy.toPys, PyData.shownAll, List.map_cons, List.sum_cons, wt.wts]
    omega
end
mutual
theorem fit_show : ∀ (d : D), fit d = true → (toPy d).showable = true
  | .non, _ => rfl
  | .bl b, _ => rfl
  | .int i, h => by simpa [fit, toPy, PyData.showable] using h
  | .str s, h => rfl
  | .tup xs, h => by simpa [toPy, PyData.showable] using fits_show xs (by simpa [fit] using h)
  | .lst xs, h => by simpa [toPy, PyData.showable] using fits_show xs (by simpa [fit] using h)
  | .dct _ _, _ => rfl
  | .obj _, _ => rfl
  | .ins _ _, _ => rfl
  | .scr _, _ => rfl
  | .kon _, _ => rfl
theorem fits_show : ∀ (ds : List D), fit.fits ds = true → PyData.showableAll (toPy.toPys ds) = true
  | [], _ => by simp [toPy.toPys, PyData.showableAll]
  | d :: ds, h => by
    simp only [fit.fits, Bool.and_eq_true] at h
    simp only [toPy.toPys, PyData.showableAll, Bool.and_eq_true]
    exact ⟨fit_show d h.1, fits_show ds h.2⟩
end
/-- repr has an answer -/
theorem repr_some {d : D} (p : pl deep d = true) (f : fit d = true) (w : wt d ≤ line) : ∃ s, U1.run .repr d = some (.str s) := by
  show ∃ s, reprD d = some (.str s)
  unfold reprD
  rw [if_pos (by rw [p, fit_show d f, decide_eq_true (Nat.le_trans (shown_wt d deep p f) w)]; rfl)]
  exact ⟨_, rfl⟩
theorem pls_all {n : Nat} : ∀ {xs : List D}, (∀ x ∈ xs, pl n x = true) → pls n xs = true
  | [], _ => rfl
  | x :: xs, h => by rw [pls_cons, h x List.mem_cons_self, pls_all fun y hy => h y (List.mem_cons_of_mem _ hy)]; rfl
theorem fits_all : ∀ {xs : List D}, (∀ x ∈ xs, fit x = true) → fit.fits xs = true
  | [], _ => rfl
  | x :: xs, h => by unfold fit.fits; rw [h x List.mem_cons_self, fits_all fun y hy => h y (List.mem_cons_of_mem _ hy)]; rfl
theorem wts_le {b : Nat} : ∀ {xs : List D}, (∀ x ∈ xs, wt x + 2 ≤ b) → wt.wts xs ≤ xs.length * b
  | [], _ => by simp [wt.wts]
  | x :: xs, h => by
    have h1 := h x List.mem_cons_self
    have h2 := wts_le fun y hy => h y (List.mem_cons_of_mem x hy)
    unfold wt.wts
    rw [List.length_cons, Nat.succ_mul]
    omega
mutual
theorem eqD_refl : ∀ (d : D) (n : Nat), pl n d = true → eqD d d = true
  | .non, _, _ => rfl
  | .bl b, _, _ => by simp [eqD]
  | .int i, _, _ => by simp [eqD]
  | .str s, _, _ => by simp [eqD]
  | .tup xs, 0, p => by simp [pl] at p
  | .tup xs, n + 1, p => by simpa [eqD] using eqDs_refl xs n (by simpa [pl] using p)
  | .lst xs, 0, p => by simp [pl] at p
  | .lst xs, n + 1, p => by simpa [eqD] using eqDs_refl xs n (by simpa [pl] using p)
  | .dct _ _, n, p => by cases n <;> simp [pl] at p
  | .obj _, n, p => by cases n <;> simp [pl] at p
  | .ins _ _, n, p => by cases n <;> simp [pl] at p
  | .scr _, n, p => by cases n <;> simp [pl] at p
  | .kon _, n, p => by cases n <;> simp [pl] at p
theorem eqDs_refl : ∀ (ds : List D) (n : Nat), pls n ds = true → eqDs ds ds = true
  | [], _, _ => rfl
  | d :: ds, n, p => by
    simp only [pls, Bool.and_eq_true] at p
    simp [eqDs, eqD_refl d n p.1, eqDs_refl ds n p.2]
end
/-- a for whose body never leaves, by an invariant -/
theorem forL_inv {g : G} {body : Env → Mem → O} (P : Nat → Env → Mem → Prop) : ∀ (ds : List D) (i : Nat) (env : Env) (m : Mem), P i env m →
    (∀ j d env m, ds[j]? = some d → P (i + j) env m → ∃ e1 e2 m2, bindG g d env = some e1 ∧ body e1 m = .nx e2 m2 ∧ P (i + j + 1) e2 m2) → ∃ e2 m2, forL g body ds env m = .nx e2 m2 ∧ P (i + ds.length) e2 m2
  | [], i, env, m, p, _ => ⟨env, m, rfl, p⟩
  | d :: ds, i, env, m, p, h => by
    obtain ⟨e1, e2, m2, h1, h2, h3⟩ := h 0 d env m rfl p
    obtain ⟨e3, m3, h4, h5⟩ := forL_inv P ds (i + 1) e2 m2 h3 fun j x env m hx q => by
      have z := h (j + 1) x env m (by simpa using hx) (by rw [show i + (j + 1) = i + 1 + j by omega]; exact q)
      rw [show i + (j + 1) + 1 = i + 1 + j + 1 by omega] at z
      exact z
    refine ⟨e3, m3, ?_, by rw [List.length_cons, show i + (ds.length + 1) = i + 1 + ds.length by omega]; exact h5⟩
    unfold forL
    rw [h1]
    simp only [h2]
    exact h4
/-- a comprehension without tests, by an invariant of the store -/
theorem compL_inv {env : Env} {g : G} {elt : Env → Mem → R D} {tst : Env → Mem → R D} (P : Nat → Mem → Prop) (f : Nat → D → D) : ∀ (ds : List D) (i : Nat) (m : Mem), P i m →
    (∀ j d m, ds[j]? = some d → P (i + j) m → ∃ e1 m2, bindG g d env = some e1 ∧ tst e1 m = .ok (.bl true) m ∧ elt e1 m = .ok (f (i + j) d) m2 ∧ P (i + j + 1) m2) → ∃ ys m2, compL env g tst elt ds m = .ok ys m2 ∧ P (i + ds.length) m2 ∧ ys.length = ds.length ∧ ∀ j d, ds[j]? = some d → ys[j]? = some (f (i + j) d)
  | [], i, m, p, _ => ⟨[], m, rfl, p, rfl, fun j d e => by simp at e⟩
  | d :: ds, i, m, p, h => by
    obtain ⟨e1, m2, h1, h2, h3, h4⟩ := h 0 d m rfl p
    obtain ⟨ys, m3, h5, h6, h7, h8⟩ := compL_inv P f ds (i + 1) m2 h4 fun j x m hx q => by
      have z := h (j + 1) x m (by simpa using hx) (by rw [show i + (j + 1) = i + 1 + j by omega]; exact q)
      rw [show i + (j + 1) = i + 1 + j by omega] at z
      exact z
    refine ⟨f i d :: ys, m3, ?_, by rw [List.length_cons, show i + (ds.length + 1) = i + 1 + ds.length by omega]; exact h6, by rw [List.length_cons, List.length_cons, h7], fun j x e => ?_⟩
    · unfold compL
      rw [h1]
      have h3' : elt e1 m = .ok (f i d) m2 := h3
      simp only [h2, h3', R.ok_bind, h5]
    · cases j with
      | zero => simp at e; subst e; rfl
      | succ j =>
        simp only [List.getElem?_cons_succ] at e ⊢
        rw [show i + (j + 1) = i + 1 + j by omega]
        exact h8 j x e
end Mp

set_option linter.all false
set_option autoImplicit false
set_option maxRecDepth 100000
/-! Mp27: which slots a suite leaves as they are; loops by invariants of slots. -/
namespace Mp
def Ps.ow : Ps → List Nat
  | .nil => []
  | .e _ _ r => r.ow
  | .f i _ r => i :: r.ow
mutual
/-- slots that may be written -/
def S.wr : S → List Nat
  | .set i _ => [i]
  | .own i _ => [i]
  | .asg g _ => g.sl
  | .par ps => ps.sl
  | .app i _ => [i]
  | .ext i _ => [i]
  | .put i _ _ => [i]
  | .upd i _ => [i]
  | .popA g i _ => i :: g.sl
  | .aug i _ => [i]
  | .frz i => [i]
  | .shr i => [i]
  | .iff _ a b => a.wr ++ b.wr
  | .fo g _ b => g.sl ++ b.wr
  | .fok g _ _ b => g.sl ++ b.wr
  | .fol g _ b => g.sl ++ b.wr
  | .wh _ b => b.wr
  | .oapp _ _ => []
  | .oput _ _ _ => []
  | .oclr _ => []
  | .satt _ _ _ _ => []
  | .aatt _ _ _ _ => []
  | .inc i _ => [i]
  | .oext _ _ => []
  | .ret _ => []
  | .retF _ => []
  | .retX _ => []
  | .exp _ => []
  | .brk => []
  | .cnt => []
  | .pass => []
  | .never => []
  | .raise _ _ _ => []
  | .xexp _ => []
  | .xset i _ => [i]
  | .xasg g _ => g.sl
  | .xret _ => []
  | .xiff _ a b => a.wr ++ b.wr
def Ss.wr : Ss → List Nat
  | .nil => []
  | .cons s r => s.wr ++ r.wr
end
mutual
/-- slots that may come to hold an own thing -/
def S.ow : S → List Nat
  | .own i _ => [i]
  | .par ps => ps.ow
  | .app i _ => [i]
  | .ext i _ => [i]
  | .put i _ _ => [i]
  | .upd i _ => [i]
  | .popA _ i _ => [i]
  | .aug i _ => [i]
  | .iff _ a b => a.ow ++ b.ow
  | .fo _ _ b => b.ow
  | .fok _ _ _ b => b.ow
  | .fol _ _ b => b.ow
  | .wh _ b => b.ow
  | .set _ _ => []
  | .asg _ _ => []
  | .frz _ => []
  | .shr _ => []
  | .oapp _ _ => []
  | .oput _ _ _ => []
  | .oclr _ => []
  | .satt _ _ _ _ => []
  | .aatt _ _ _ _ => []
  | .inc _ _ => []
  | .oext _ _ => []
  | .ret _ => []
  | .retF _ => []
  | .retX _ => []
  | .exp _ => []
  | .brk => []
  | .cnt => []
  | .pass => []
  | .never => []
  | .raise _ _ _ => []
  | .xexp _ => []
  | .xset _ _ => []
  | .xasg _ _ => []
  | .xret _ => []
  | .xiff _ a b => a.ow ++ b.ow
def Ss.ow : Ss → List Nat
  | .nil => []
  | .cons s r => s.ow ++ r.ow
end
structure Frm (W O : List Nat) (e e' : Env) : Prop where
  len : e'.length = e.length
  keep : ∀ i, i ∉ W → gt e' i = gt e i
  no : ∀ i, i ∉ O → (gt e i).isOwn = false → (gt e' i).isOwn = false
theorem Frm.refl (W O : List Nat) (e : Env) : Frm W O e e := ⟨rfl, fun _ _ => rfl, fun _ _ h => h⟩
theorem Frm.trans {W O : List Nat} {e e1 e2 : Env} (a : Frm W O e e1) (b : Frm W O e1 e2) : Frm W O e e2 :=
  ⟨b.len.trans a.len, fun i h => (b.keep i h).trans (a.keep i h), fun i h q => b.no i h (a.no i h q)⟩
theorem Frm.more {W O W' O' : List Nat} {e e1 : Env} (a : Frm W O e e1) (hw : ∀ i ∈ W, i ∈ W') (ho : ∀ i ∈ O, i ∈ O') : Frm W' O' e e1 :=
  ⟨a.len, fun i h => a.keep i fun q => h (hw i q), fun i h => a.no i fun q => h (ho i q)⟩
theorem gt_st (env : Env) (i j : Nat) (x : Sl) : gt (st env i x) j = if i = j then (if i < env.length then x else .no) else gt env j := by
  by_cases h : i = j
  · subst h
    by_cases hl : i < env.length
    · rw [gt_st_same hl, if_pos rfl, if_pos hl]
    · rw [gt_ge (by rw [st_length]; omega), if_pos rfl, if_neg hl]
  · rw [gt_st_ne h, if_neg h]
theorem Frm.val (e : Env) (i : Nat) (d : D) : Frm [i] [] e (st e i (.val d)) := ⟨st_length .., fun j h => by
    rw [gt_st, if_neg fun q => h (by rw [q]; exact List.mem_cons_self)], fun j _ q => by
    rw [gt_st]
    split
    · split <;> rfl
    · exact q⟩
theorem Frm.own (e : Env) (i : Nat) (x : Sl) : Frm [i] [i] e (st e i x) := ⟨st_length .., fun j h => by
    rw [gt_st, if_neg fun q => h (by rw [q]; exact List.mem_cons_self)], fun j h q => by
    rw [gt_st, if_neg fun q => h (by rw [q]; exact List.mem_cons_self)]
    exact q⟩
mutual
theorem bindG_frm : ∀ (g : G) (d : D) (e e' : Env), bindG g d e = some e' → Frm g.sl [] e e'
  | .nm i, d, e, e', h => by
    unfold bindG at h
    split at h
    · cases h
    · cases h; exact Frm.val e i d
  | .tp gs, d, e, e', h => by
    cases d with
    | tup ds => exact bindGs_frm gs ds e e' h
    | _ => cases h
theorem bindGs_frm : ∀ (gs : Gs) (ds : List D) (e e' : Env), bindGs gs ds e = some e' → Frm gs.sl [] e e'
  | .nil, ds, e, e', h => by
    cases ds with
    | nil => cases h; exact .refl _ _ _
    | cons => cases h
  | .cons g r, ds, e, e', h => by
    cases ds with
    | nil => cases h
    | cons d ds =>
      obtain ⟨e1, h1, h2⟩ := Option.bind_eq_some_iff.mp h
      exact ((bindG_frm g d e e1 h1).more (fun i q => List.mem_append_left _ q) fun _ q => q).trans ((bindGs_frm r ds e1 e' h2).more (fun i q => List.mem_append_right _ q) fun _ q => q)
end
/-- the slots behind, where it goes on -/
def O.env? : O → Option Env
  | .nx e _ => some e
  | .bk e _ => some e
  | .ct e _ => some e
  | _ => none
theorem thenO_env {α : Type} {r : R α} {f : α → Mem → O} {e : Env} (h : (r.thenO f).env? = some e) : ∃ a m, (f a m).env? = some e := by
  cases r with
  | ok a m => exact ⟨a, m, h⟩
  | ex d m => cases h
  | no => cases h
theorem thenX_env {α : Type} {r : R α} {f : α → Mem → O} {e : Env} (h : (r.thenX f).env? = some e) : ∃ a m, (f a m).env? = some e := by
  cases r with
  | ok a m => exact ⟨a, m, h⟩
  | ex d m => cases h
  | no => cases h
theorem noX_env {o : O} {e : Env} (h : (noX o).env? = some e) : o.env? = some e := by
  cases o with
  | ex a b => cases h
  | _ => exact h
theorem forL_frm {W O : List Nat} {g : G} {body : Env → Mem → Mp.O} (hg : ∀ i ∈ g.sl, i ∈ W) (hb : ∀ e m e2, (body e m).env? = some e2 → Frm W O e e2) : ∀ (ds : List D) (e : Env) (m : Mem) (e2 : Env), (forL g body ds e m).env? = some e2 → Frm W O e e2
  | [], e, m, e2, h => by cases h; exact .refl _ _ _
  | d :: ds, e, m, e2, h => by
    unfold forL at h
    split at h
    · cases h
    · rename_i e1 he
      have f1 := (bindG_frm g d e e1 he).more hg (fun _ q => nomatch q) (O' := O)
      split at h
      · rename_i e3 m3 h3
        exact f1.trans ((hb e1 m e3 (by rw [h3]; rfl)).trans (forL_frm hg hb ds e3 m3 e2 h))
      · rename_i e3 m3 h3
        exact f1.trans ((hb e1 m e3 (by rw [h3]; rfl)).trans (forL_frm hg hb ds e3 m3 e2 h))
      · rename_i e3 m3 h3
        cases h
        exact f1.trans (hb e1 m _ (by rw [h3]; rfl))
      · cases h
      · cases h
      · cases h
theorem forV_frm {W O : List Nat} {g : G} {body : Env → Mem → Mp.O} (hg : ∀ i ∈ g.sl, i ∈ W) (hb : ∀ e m e2, (body e m).env? = some e2 → Frm W O e e2) (k : Nat) : ∀ (n i : Nat) (e : Env) (m : Mem) (e2 : Env), (forV g body k n i e m).env? = some e2 → Frm W O e e2
  | 0, i, e, m, e2, h => by cases h
  | n + 1, i, e, m, e2, h => by
    unfold forV at h
    split at h
    · split at h
      · cases h; exact .refl _ _ _
      · split at h
        · cases h
        · rename_i e1 he
          have f1 := (bindG_frm g _ e e1 he).more hg (fun _ q => nomatch q) (O' := O)
          split at h
          · rename_i e3 m3 h3
            exact f1.trans ((hb e1 m e3 (by rw [h3]; rfl)).trans (forV_frm hg hb k n (i + 1) e3 m3 e2 h))
          · rename_i e3 m3 h3
            exact f1.trans ((hb e1 m e3 (by rw [h3]; rfl)).trans (forV_frm hg hb k n (i + 1) e3 m3 e2 h))
          · rename_i e3 m3 h3
            cases h
            exact f1.trans (hb e1 m _ (by rw [h3]; rfl))
          · cases h
          · cases h
          · cases h
    · cases h
theorem whL_frm {W O : List Nat} {t : Env → Mem → R D} {body : Env → Mem → Mp.O} (hb : ∀ e m e2, (body e m).env? = some e2 → Frm W O e e2) : ∀ (n : Nat) (e : Env) (m : Mem) (e2 : Env), (whL t body n e m).env? = some e2 → Frm W O e e2
  | 0, e, m, e2, h => by cases h
  | n + 1, e, m, e2, h => by
    unfold whL at h
    obtain ⟨c, m1, h⟩ := thenO_env h
    split at h
    · split at h
      · rename_i e3 m3 h3
        exact (hb e m1 e3 (by rw [h3]; rfl)).trans (whL_frm hb n e3 m3 e2 h)
      · rename_i e3 m3 h3
        exact (hb e m1 e3 (by rw [h3]; rfl)).trans (whL_frm hb n e3 m3 e2 h)
      · rename_i e3 m3 h3
        cases h
        exact hb e m1 _ (by rw [h3]; rfl)
      · cases h
      · cases h
      · cases h
    · cases h; exact .refl _ _ _
    · cases h
theorem stores_frm {Φ : Fs} : ∀ (ps : Ps) (env : Env) (m : Mem) (xs : List (Nat × Sl)) (m' : Mem), exPs Φ ps env m = .ok xs m' → ∀ e, Frm ps.sl ps.ow e (stores xs e)
  | .nil, env, m, xs, m', h, e => by cases h; exact .refl _ _ _
  | .e i x r, env, m, xs, m', h, e => by
    obtain ⟨d, m1, _, h⟩ := Mp.R.bind_ok h
    obtain ⟨ds, m2, h2, h⟩ := Mp.R.bind_ok h
    cases h
    exact ((Frm.val e i d).more (fun j q => by rw [List.mem_singleton.mp q]; exact List.mem_cons_self) (fun _ q => nomatch q)).trans ((stores_frm r env m1 ds _ h2 _).more (fun j q => List.mem_cons_of_mem _ q) fun j q => q)
  | .f i x r, env, m, xs, m', h, e => by
    obtain ⟨d, m1, _, h⟩ := Mp.R.bind_ok h
    obtain ⟨ds, m2, h2, h⟩ := Mp.R.bind_ok h
    cases h
    exact ((Frm.own e i (.own d)).more (fun j q => by rw [List.mem_singleton.mp q]; exact List.mem_cons_self) (fun j q => by rw [List.mem_singleton.mp q]; exact List.mem_cons_self)).trans ((stores_frm r env m1 ds _ h2 _).more (fun j q => List.mem_cons_of_mem _ q) fun j q => List.mem_cons_of_mem _ q)
theorem thn_env {o : O} {f : Env → Mem → O} {W O1 : List Nat} {e e2 : Env} (h : (o.thn f).env? = some e2) (h1 : ∀ e1, o.env? = some e1 → Frm W O1 e e1) (h2 : ∀ e1 m1, o = .nx e1 m1 → (f e1 m1).env? = some e2 → Frm W O1 e1 e2) : Frm W O1 e e2 := by
  cases o with
  | nx e1 m1 => exact (h1 e1 rfl).trans (h2 e1 m1 rfl h)
  | bk e1 m1 => cases h; exact h1 _ rfl
  | ct e1 m1 => cases h; exact h1 _ rfl
  | rt o d m => cases h
  | ex d m => cases h
  | no => cases h
mutual
theorem exS_frm {Φ : Fs} : ∀ (s : S) (e : Env) (m : Mem) (e2 : Env), (exS Φ s e m).env? = some e2 → Frm s.wr s.ow e e2
  | .set i x, e, m, e2, h => by
    unfold exS at h
    obtain ⟨d, m1, h⟩ := thenO_env h
    cases h; exact Frm.val e i d
  | .own i x, e, m, e2, h => by
    unfold exS at h
    obtain ⟨d, m1, h⟩ := thenO_env h
    cases h; exact Frm.own e i _
  | .asg g x, e, m, e2, h => by
    unfold exS at h
    obtain ⟨d, m1, h⟩ := thenO_env h
    split at h
    · rename_i e1 he; cases h; exact bindG_frm g d e _ he
    · cases h
  | .par ps, e, m, e2, h => by
    unfold exS at h
    cases hp : exPs Φ ps e m with
    | ok xs m1 => rw [hp] at h; cases h; exact stores_frm ps e m xs m1 hp e
    | ex d m1 => rw [hp] at h; cases h
    | no => rw [hp] at h; cases h
  | .app i x, e, m, e2, h => by
    unfold exS at h
    obtain ⟨d, m1, h⟩ := thenO_env h
    split at h
    · split at h
      · cases h; exact Frm.own e i _
      · cases h
    · cases h
  | .ext i x, e, m, e2, h => by
    unfold exS at h
    obtain ⟨d, m1, h⟩ := thenO_env h
    split at h
    · split at h
      · cases h; exact Frm.own e i _
      · cases h
    · cases h
  | .put i k v, e, m, e2, h => by
    unfold exS at h
    obtain ⟨x, m1, h⟩ := thenO_env h
    obtain ⟨y, m2, h⟩ := thenO_env h
    split at h
    · split at h
      · cases h; exact Frm.own e i _
      · cases h
    · split at h
      · split at h
        · cases h; exact Frm.own e i _
        · cases h
      · cases h
    · cases h
  | .popA g i x, e, m, e2, h => by
    unfold exS at h
    obtain ⟨d, m1, h⟩ := thenO_env h
    split at h
    · split at h
      · split at h
        · split at h
          · split at h
            · rename_i e1 he
              cases h
              exact ((Frm.own e i _).more (W' := i :: g.sl) (O' := [i]) (fun j q => by rw [List.mem_singleton.mp q]; exact List.mem_cons_self) fun _ q => q).trans ((bindG_frm g _ _ _ he).more (fun j q => List.mem_cons_of_mem _ q) fun _ q => nomatch q)
            · cases h
          · cases h
        · cases h
      · cases h
    · cases h
  | .aug i x, e, m, e2, h => by
    unfold exS at h
    obtain ⟨d, m1, h⟩ := thenO_env h
    split at h
    · split at h
      · cases h; exact Frm.own e i _
      · cases h
    · cases h
  | .upd i x, e, m, e2, h => by
    unfold exS at h
    obtain ⟨d, m1, h⟩ := thenO_env h
    split at h
    · split at h
      · cases h; exact Frm.own e i _
      · cases h
    · cases h
  | .oapp o x, e, m, e2, h => by
    unfold exS at h
    obtain ⟨a, m1, h⟩ := thenO_env h
    split at h
    · obtain ⟨d, m2, h⟩ := thenO_env h
      split at h
      · split at h
        · split at h
          · cases h; exact .refl _ _ _
          · cases h
        · cases h
      · cases h
    · cases h
  | .oput o k v, e, m, e2, h => by
    unfold exS at h
    obtain ⟨x, m1, h⟩ := thenO_env h
    obtain ⟨a, m2, h⟩ := thenO_env h
    obtain ⟨y, m3, h⟩ := thenO_env h
    split at h
    · split at h
      · split at h
        · cases h; exact .refl _ _ _
        · cases h
      · split at h
        · split at h
          · cases h; exact .refl _ _ _
          · cases h
        · cases h
      · cases h
    · cases h
  | .satt o js x v, e, m, e2, h => by
    unfold exS at h
    obtain ⟨d, m1, h⟩ := thenO_env h
    obtain ⟨a, m2, h⟩ := thenO_env h
    split at h
    · split at h
      · cases h; exact .refl _ _ _
      · cases h
    · cases h
  | .aatt o js x v, e, m, e2, h => by
    unfold exS at h
    obtain ⟨a, m1, h⟩ := thenO_env h
    split at h
    · split at h
      · obtain ⟨d, m2, h⟩ := thenO_env h
        split at h
        · split at h
          · cases h; exact .refl _ _ _
          · cases h
        · cases h
      · cases h
    · cases h
  | .inc i v, e, m, e2, h => by
    unfold exS at h
    split at h
    · obtain ⟨d, m1, h⟩ := thenO_env h
      split at h
      · cases h; exact .val _ _ _
      · cases h
    · cases h
  | .oext o x, e, m, e2, h => by
    unfold exS at h
    obtain ⟨a, m1, h⟩ := thenO_env h
    split at h
    · obtain ⟨d, m2, h⟩ := thenO_env h
      split at h
      · split at h
        · split at h
          · cases h; exact .refl _ _ _
          · cases h
        · cases h
      · cases h
    · cases h
  | .oclr o, e, m, e2, h => by
    unfold exS at h
    obtain ⟨a, m1, h⟩ := thenO_env h
    split at h
    · split at h
      · split at h
        · cases h; exact .refl _ _ _
        · cases h
      · cases h; exact .refl _ _ _
      · cases h
    · cases h
  | .frz i, e, m, e2, h => by
    unfold exS at h
    split at h
    · cases h; exact Frm.val e i _
    · cases h; exact .refl _ _ _
    · cases h
  | .shr i, e, m, e2, h => by
    unfold exS at h
    split at h
    · cases h; exact Frm.val e i _
    · cases h
  | .iff t a b, e, m, e2, h => by
    unfold exS at h
    obtain ⟨c, m1, h⟩ := thenO_env h
    split at h
    · exact (exSs_frm a e m1 e2 h).more (fun _ q => List.mem_append_left _ q) fun _ q => List.mem_append_left _ q
    · exact (exSs_frm b e m1 e2 h).more (fun _ q => List.mem_append_right _ q) fun _ q => List.mem_append_right _ q
    · cases h
  | .fo g it b, e, m, e2, h => by
    unfold exS at h
    split at h
    · obtain ⟨xs, m1, h⟩ := thenO_env h
      exact forL_frm (fun _ q => List.mem_append_left _ q) (fun e m e2 q => (exSs_frm b e m e2 q).more (fun _ q => List.mem_append_right _ q) fun _ q => q) xs e m1 e2 h
    · cases h
  | .fol g x b, e, m, e2, h => by
    unfold exS at h
    obtain ⟨d, m1, h⟩ := thenO_env h
    cases d with
    | obj k => exact forV_frm (fun _ q => List.mem_append_left _ q) (fun e m e2 q => (exSs_frm b e m e2 q).more (fun _ q => List.mem_append_right _ q) fun _ q => q) k _ _ e m1 e2 h
    | _ => cases h
  | .fok g i w b, e, m, e2, h => by
    unfold exS at h
    split at h
    · have h := noX_env h
      exact forL_frm (fun _ q => List.mem_append_left _ q) (fun e m e2 q => (exSs_frm b e m e2 q).more (fun _ q => List.mem_append_right _ q) fun _ q => q) _ e m e2 h
    · cases h
  | .wh t b, e, m, e2, h => by
    unfold exS at h
    exact whL_frm (fun e m e2 q => exSs_frm b e m e2 q) _ e m e2 h
  | .ret x, e, m, e2, h => by
    unfold exS at h
    obtain ⟨d, m1, h⟩ := thenO_env h
    cases h
  | .retF x, e, m, e2, h => by
    unfold exS at h
    obtain ⟨d, m1, h⟩ := thenO_env h
    cases h
  | .retX i, e, m, e2, h => by
    unfold exS at h
    split at h <;> cases h
  | .exp x, e, m, e2, h => by
    unfold exS at h
    obtain ⟨d, m1, h⟩ := thenO_env h
    cases h; exact .refl _ _ _
  | .brk, e, m, e2, h => by cases h; exact .refl _ _ _
  | .cnt, e, m, e2, h => by cases h; exact .refl _ _ _
  | .pass, e, m, e2, h => by cases h; exact .refl _ _ _
  | .never, e, m, e2, h => by cases h
  | .raise x i msg, e, m, e2, h => by
    unfold exS at h
    obtain ⟨d, m1, h⟩ := thenO_env h
    cases h
  | .xexp x, e, m, e2, h => by
    unfold exS at h
    obtain ⟨d, m1, h⟩ := thenX_env h
    cases h; exact .refl _ _ _
  | .xset i x, e, m, e2, h => by
    unfold exS at h
    obtain ⟨d, m1, h⟩ := thenX_env h
    cases h; exact Frm.val e i d
  | .xasg g x, e, m, e2, h => by
    unfold exS at h
    obtain ⟨d, m1, h⟩ := thenX_env h
    split at h
    · rename_i e1 he; cases h; exact bindG_frm g d e _ he
    · cases h
  | .xret x, e, m, e2, h => by
    unfold exS at h
    obtain ⟨d, m1, h⟩ := thenX_env h
    cases h
  | .xiff t a b, e, m, e2, h => by
    unfold exS at h
    obtain ⟨d, m1, h⟩ := thenX_env h
    split at h
    · exact (exSs_frm a e m1 e2 h).more (fun _ q => List.mem_append_left _ q) fun _ q => List.mem_append_left _ q
    · exact (exSs_frm b e m1 e2 h).more (fun _ q => List.mem_append_right _ q) fun _ q => List.mem_append_right _ q
    · cases h
theorem exSs_frm {Φ : Fs} : ∀ (s : Ss) (e : Env) (m : Mem) (e2 : Env), (exSs Φ s e m).env? = some e2 → Frm s.wr s.ow e e2
  | .nil, e, m, e2, h => by cases h; exact .refl _ _ _
  | .cons s r, e, m, e2, h => by
    unfold exSs at h
    exact thn_env h (fun e1 q => (exS_frm s e m e1 q).more (fun _ q => List.mem_append_left _ q) fun _ q => List.mem_append_left _ q)
      fun e1 m1 _ q => (exSs_frm r e1 m1 e2 q).more (fun _ q => List.mem_append_right _ q) fun _ q => List.mem_append_right _ q
end
/-- a for whose body never leaves, by an invariant; the other slots stay -/
theorem fo_inv {Φ : Fs} {g : G} {b : Ss} (W O : List Nat) (P : Nat → Env → Mem → Prop) {ds : List D} {env : Env} {m : Mem} (hW : (g.sl ++ b.wr).all (fun i => W.contains i) = true) (hO : b.ow.all (fun i => O.contains i) = true) (h0 : P 0 env m)
    (step : ∀ j d e m, ds[j]? = some d → Frm W O env e → P j e m → ∃ e1 e2 m2, bindG g d e = some e1 ∧ (exSs Φ b e1 m = .nx e2 m2 ∨ exSs Φ b e1 m = .ct e2 m2) ∧ P (j + 1) e2 m2) :
    ∃ e2 m2, forL g (fun e m => exSs Φ b e m) ds env m = .nx e2 m2 ∧ P ds.length e2 m2 ∧ Frm W O env e2 := by
  have cw : ∀ i ∈ g.sl ++ b.wr, i ∈ W := fun i hi => by simpa using List.all_eq_true.mp hW i hi
  have co : ∀ i ∈ b.ow, i ∈ O := fun i hi => by simpa using List.all_eq_true.mp hO i hi
  have gen : ∀ (ds' : List D) (i : Nat) (e : Env) (m : Mem), (∀ j d, ds'[j]? = some d → ds[i + j]? = some d) → Frm W O env e → P i e m → ∃ e2 m2, forL g (fun e m => exSs Φ b e m) ds' e m = .nx e2 m2 ∧ P (i + ds'.length) e2 m2 ∧ Frm W O env e2 := by
    intro ds'
    induction ds' with
    | nil => intro i e m _ f p; exact ⟨e, m, rfl, p, f⟩
    | cons d ds' ih =>
      intro i e m hs f p
      obtain ⟨e1, e2, m2, h1, h2, h3⟩ := step i d e m (by have := hs 0 d rfl; simpa using this) f p
      have f1 := (bindG_frm g d e e1 h1).more (fun i q => cw i (List.mem_append_left _ q)) (fun _ q => nomatch q) (O' := O)
      have f2 : Frm W O e1 e2 := (exSs_frm b e1 m e2 (by rcases h2 with h | h <;> rw [h] <;> rfl)).more (fun i q => cw i (List.mem_append_right _ q)) co
      obtain ⟨e3, m3, h4, h5, h6⟩ := ih (i + 1) e2 m2 (fun j x hx => by have := hs (j + 1) x (by simpa using hx); rwa [show i + 1 + j = i + (j + 1) by omega]) (f.trans (f1.trans f2)) h3
      refine ⟨e3, m3, ?_, by rw [List.length_cons, show i + (ds'.length + 1) = i + 1 + ds'.length by omega]; exact h5, h6⟩
      unfold forL
      rw [h1]
      rcases h2 with h | h <;> simp only [h] <;> exact h4
  obtain ⟨e2, m2, h1, h2, h3⟩ := gen ds 0 env m (fun j d h => by simpa using h) (.refl _ _ _) h0
  rw [Nat.zero_add] at h2
  exact ⟨e2, m2, h1, h2, h3⟩
/-- .. over a shared list that stays -/
theorem fol_inv {Φ : Fs} {g : G} {b : Ss} (W O : List Nat) (h : Nat) (P : Nat → Env → Mem → Prop) {ds : List D} {env : Env} {m : Mem} (hl : ds.length < 16777216) (hW : (g.sl ++ b.wr).all (fun i => W.contains i) = true) (hO : b.ow.all (fun i => O.contains i) = true) (h0 : P 0 env m)
    (hs : ∀ j e m, P j e m → m[h]? = some (.lst ds))
    (step : ∀ j d e m, ds[j]? = some d → Frm W O env e → P j e m → ∃ e1 e2 m2, bindG g d e = some e1 ∧ (exSs Φ b e1 m = .nx e2 m2 ∨ exSs Φ b e1 m = .ct e2 m2) ∧ P (j + 1) e2 m2) :
    ∃ e2 m2, forV g (fun e m => exSs Φ b e m) h most 0 env m = .nx e2 m2 ∧ P ds.length e2 m2 ∧ Frm W O env e2 := by
  have cw : ∀ i ∈ g.sl ++ b.wr, i ∈ W := fun i hi => by simpa using List.all_eq_true.mp hW i hi
  have co : ∀ i ∈ b.ow, i ∈ O := fun i hi => by simpa using List.all_eq_true.mp hO i hi
  have gen : ∀ (k i : Nat) (e : Env) (m : Mem) (n : Nat), ds.length - i = k → i ≤ ds.length → k < n → Frm W O env e → P i e m → ∃ e2 m2, forV g (fun e m => exSs Φ b e m) h n i e m = .nx e2 m2 ∧ P ds.length e2 m2 ∧ Frm W O env e2 := by
    intro k
    induction k with
    | zero =>
      intro i e m n hk hi hn f p
      have hil : i = ds.length := by omega
      subst hil
      obtain ⟨n, rfl⟩ : ∃ n', n = n' + 1 := ⟨n - 1, by omega⟩
      refine ⟨e, m, ?_, p, f⟩
      unfold forV
      rw [hs _ e m p]
      simp
    | succ k ih =>
      intro i e m n hk hi hn f p
      have hil : i < ds.length := by omega
      obtain ⟨n, rfl⟩ : ∃ n', n = n' + 1 := ⟨n - 1, by omega⟩
      have hd : ds[i]? = some ds[i] := List.getElem?_eq_getElem hil
      obtain ⟨e1, e2, m2, h1, h2, h3⟩ := step i _ e m hd f p
      have f1 := (bindG_frm g _ e e1 h1).more (fun i q => cw i (List.mem_append_left _ q)) (fun _ q => nomatch q) (O' := O)
      have f2 : Frm W O e1 e2 := (exSs_frm b e1 m e2 (by rcases h2 with h | h <;> rw [h] <;> rfl)).more (fun i q => cw i (List.mem_append_right _ q)) co
      obtain ⟨e3, m3, h4, h5, h6⟩ := ih (i + 1) e2 m2 n (by omega) (by omega) (by omega) (f.trans (f1.trans f2)) h3
      refine ⟨e3, m3, ?_, h5, h6⟩
      unfold forV
      rw [hs _ e m p]
      simp only [hd, h1]
      rcases h2 with h | h <;> simp only [h] <;> exact h4
  exact gen _ 0 env m most rfl (Nat.zero_le _) (by rw [most_eq]; omega) (.refl _ _ _) h0
/-- a while, by an invariant and a measure -/
theorem wh_inv {Φ : Fs} {t : E} {b : Ss} (W O : List Nat) (P : Nat → Env → Mem → Prop) (N : Nat) {env : Env} {m : Mem} (hN : N < 16777216) (hW : b.wr.all (fun i => W.contains i) = true) (hO : b.ow.all (fun i => O.contains i) = true) (h0 : P 0 env m)
    (step : ∀ j e m, j ≤ N → Frm W O env e → P j e m → (∃ m1, evE Φ t e m = .ok (.bl false) m1) ∨ (j < N ∧ ∃ m1 e2 m2, evE Φ t e m = .ok (.bl true) m1 ∧ (exSs Φ b e m1 = .nx e2 m2 ∨ exSs Φ b e m1 = .ct e2 m2) ∧ P (j + 1) e2 m2)) :
    ∃ j e m1 e2 m2, j ≤ N ∧ P j e m1 ∧ Frm W O env e ∧ evE Φ t e m1 = .ok (.bl false) m2 ∧ e2 = e ∧ whL (fun e m => evE Φ t e m) (fun e m => exSs Φ b e m) most env m = .nx e2 m2 := by
  have cw : ∀ i ∈ b.wr, i ∈ W := fun i hi => by simpa using List.all_eq_true.mp hW i hi
  have co : ∀ i ∈ b.ow, i ∈ O := fun i hi => by simpa using List.all_eq_true.mp hO i hi
  have gen : ∀ (k j : Nat) (fuel : Nat) (e : Env) (m : Mem), j + k = N → k < fuel → Frm W O env e → P j e m →
      ∃ j e' m1 e2 m2, j ≤ N ∧ P j e' m1 ∧ Frm W O env e' ∧ evE Φ t e' m1 = .ok (.bl false) m2 ∧ e2 = e' ∧ whL (fun e m => evE Φ t e m) (fun e m => exSs Φ b e m) fuel e m = .nx e2 m2 := by
    intro k
    induction k with
    | zero =>
      intro j fuel e m hj hf f p
      cases fuel with
      | zero => omega
      | succ fuel =>
        rcases step j e m (by omega) f p with ⟨m1, h⟩ | ⟨hl, _⟩
        · exact ⟨j, e, m, e, m1, by omega, p, f, h, rfl, by unfold whL; rw [h]; rfl⟩
        · omega
    | succ k ih =>
      intro j fuel e m hj hf f p
      cases fuel with
      | zero => omega
      | succ fuel =>
        rcases step j e m (by omega) f p with ⟨m1, h⟩ | ⟨hl, m1, e2, m2, h1, h2, h3⟩
        · exact ⟨j, e, m, e, m1, by omega, p, f, h, rfl, by unfold whL; rw [h]; rfl⟩
        · have f2 : Frm W O e e2 := (exSs_frm b e m1 e2 (by rcases h2 with h | h <;> rw [h] <;> rfl)).more cw co
          obtain ⟨j', e3, m3, e4, m4, q1, q2, q3, q4, q5, q6⟩ := ih (j + 1) fuel e2 m2 (by omega) (by omega) (f.trans f2) h3
          refine ⟨j', e3, m3, e4, m4, q1, q2, q3, q4, q5, ?_⟩
          unfold whL
          rw [h1]
          simp only [R.ok_thenO]
          rcases h2 with h | h <;> rw [h] <;> exact q6
  rw [most_eq]
  exact gen N 0 16777216 env m (by omega) hN (.refl _ _ _) h0
theorem lookup_mem {β : Type} {x : PySem.Str} {d : β} : ∀ {l : List (PySem.Str × β)}, l.lookup x = some d → (x, d) ∈ l
  | [], h => nomatch h
  | (y, e) :: l, h => by
    rw [List.lookup_cons] at h
    split at h
    · rename_i q
      cases h
      rw [eq_of_beq q]
      exact List.mem_cons_self
    · exact List.mem_cons_of_mem _ (lookup_mem h)
end Mp

set_option linter.all false
set_option autoImplicit false
/-! Al: dicts as lists of pairs. -/
namespace Mp
section
variable {κ ν : Type} [DecidableEq κ]
def lk (ps : List (κ × ν)) (a : κ) : Option ν := (ps.find? fun p => p.1 == a).map (·.2)
def ins (ps : List (κ × ν)) (a : κ) (v : ν) : List (κ × ν) :=
  if (ps.any fun p => p.1 == a) = true then ps.map (fun p => if (p.1 == a) = true then (p.1, v) else p) else ps ++ [(a, v)]
def keys (ps : List (κ × ν)) : List κ := ps.map (·.1)
@[simp] theorem lk_nil (a : κ) : lk ([] : List (κ × ν)) a = none := rfl
theorem lk_cons (p : κ × ν) (ps : List (κ × ν)) (a : κ) : lk (p :: ps) a = if (p.1 == a) = true then some p.2 else lk ps a := by
  unfold lk
  rw [List.find?_cons]
  cases h : p.1 == a <;> simp [h]
theorem any_keys {ps : List (κ × ν)} {a : κ} : (ps.any fun p => p.1 == a) = true ↔ a ∈ keys ps := by
  unfold keys
  rw [List.any_eq_true]
  constructor
  · rintro ⟨p, hp, e⟩; exact List.mem_map.mpr ⟨p, hp, eq_of_beq e⟩
  · intro h
    obtain ⟨p, hp, e⟩ := List.mem_map.mp h
    exact ⟨p, hp, by rw [e]; exact beq_self_eq_true a⟩
theorem lk_none {ps : List (κ × ν)} {a : κ} : lk ps a = none ↔ a ∉ keys ps := by
  rw [← any_keys]
  unfold lk
  rw [Option.map_eq_none_iff, List.find?_eq_none, List.any_eq_true]
  exact ⟨fun h ⟨p, hp, e⟩ => h p hp e, fun h p hp e => h ⟨p, hp, e⟩⟩
theorem lk_some {ps : List (κ × ν)} {a : κ} : (∃ v, lk ps a = some v) ↔ a ∈ keys ps := by
  cases h : lk ps a with
  | none => exact ⟨fun ⟨v, e⟩ => (by cases e), fun q => absurd q (lk_none.mp h)⟩
  | some v =>
    refine ⟨fun _ => Classical.byContradiction fun q => ?_, fun _ => ⟨v, rfl⟩⟩
    rw [lk_none.mpr q] at h; cases h
theorem lk_isSome {ps : List (κ × ν)} {a : κ} : (lk ps a).isSome = true ↔ a ∈ keys ps := by
  rw [← lk_some, Option.isSome_iff_exists]
theorem lk_append {ps qs : List (κ × ν)} {a : κ} : lk (ps ++ qs) a = match lk ps a with | some v => some v | none => lk qs a := by
  induction ps with
  | nil => rfl
  | cons p ps ih =>
    rw [List.cons_append, lk_cons, lk_cons, ih]
    split <;> rfl
theorem lk_map {ps : List (κ × ν)} {a b : κ} {v : ν} : lk (ps.map fun p => if (p.1 == a) = true then (p.1, v) else p) b = if (a == b) = true then (if (lk ps b).isSome = true then some v else none) else lk ps b := by
  induction ps with
  | nil => simp
  | cons p ps ih =>
    rw [List.map_cons, lk_cons, lk_cons, ih]
    by_cases h1 : p.1 = a
    · subst h1
      by_cases h2 : p.1 = b
      · subst h2; simp
      · simp [h2]
    · by_cases h2 : a = b
      · subst h2; simp [h1]
      · have h1' : (p.1 == a) = false := by simpa using h1
        have h2' : (a == b) = false := by simpa using h2
        rw [h1', h2']
        rfl
theorem lk_ins (ps : List (κ × ν)) (a b : κ) (v : ν) : lk (ins ps a v) b = if a = b then some v else lk ps b := by
  unfold ins
  split
  · rename_i h
    rw [lk_map]
    by_cases e : a = b
    · subst e
      simp [lk_isSome.mpr (any_keys.mp h)]
    · simp [e]
  · rename_i h
    rw [lk_append, lk_cons]
    by_cases e : a = b
    · subst e
      have : lk ps a = none := lk_none.mpr fun q => h (any_keys.mpr q)
      simp [this]
    · simp only [e, beq_iff_eq, if_false, lk_nil]
      cases lk ps b <;> rfl
theorem keys_ins (ps : List (κ × ν)) (a : κ) (v : ν) : keys (ins ps a v) = if (ps.any fun p => p.1 == a) = true then keys ps else keys ps ++ [a] := by
  unfold ins
  split
  · unfold keys
    rw [List.map_map]
    refine List.map_congr_left fun p _ => ?_
    simp only [Function.comp]
    split <;> rfl
  · unfold keys
    rw [List.map_append]; rfl
theorem keys_ins_in {ps : List (κ × ν)} {a : κ} {v : ν} (h : a ∈ keys ps) : keys (ins ps a v) = keys ps := by
  rw [keys_ins, if_pos (any_keys.mpr h)]
theorem mem_keys_ins {ps : List (κ × ν)} {a b : κ} {v : ν} : b ∈ keys (ins ps a v) ↔ b ∈ keys ps ∨ b = a := by
  rw [keys_ins]
  split
  · rename_i h
    refine ⟨.inl, fun q => q.elim id fun e => ?_⟩
    subst e; exact any_keys.mp h
  · simp
theorem nodup_ins {ps : List (κ × ν)} {a : κ} {v : ν} (h : (keys ps).Nodup) : (keys (ins ps a v)).Nodup := by
  rw [keys_ins]
  split
  · exact h
  · rename_i hn
    rw [List.nodup_append]
    refine ⟨h, by simp, fun x hx y hy => ?_⟩
    have : y = a := by simpa using hy
    subst this
    intro e; subst e
    exact hn (any_keys.mpr hx)
theorem ins_len (ps : List (κ × ν)) (a : κ) (v : ν) : (ins ps a v).length ≤ ps.length + 1 := by
  unfold ins
  split
  · rw [List.length_map]; omega
  · rw [List.length_append]; exact Nat.le_refl _
theorem keys_len (ps : List (κ × ν)) : (keys ps).length = ps.length := List.length_map ..
theorem lk_mem {ps : List (κ × ν)} {a : κ} {v : ν} (h : lk ps a = some v) : (a, v) ∈ ps := by
  unfold lk at h
  obtain ⟨p, hp, rfl⟩ := Option.map_eq_some_iff.mp h
  have h1 := List.mem_of_find?_eq_some hp
  have h2 := List.find?_some hp
  have h2 := eq_of_beq h2
  subst h2
  exact h1
theorem lk_of_mem {ps : List (κ × ν)} (nd : (keys ps).Nodup) {p : κ × ν} (h : p ∈ ps) : lk ps p.1 = some p.2 := by
  induction ps with
  | nil => cases h
  | cons q ps ih =>
    unfold keys at nd
    rw [List.map_cons, List.nodup_cons] at nd
    rw [lk_cons]
    rcases List.mem_cons.mp h with rfl | h
    · simp
    · have : (q.1 == p.1) = false := by
        simp only [beq_eq_false_iff_ne]
        intro e
        exact nd.1 (List.mem_map.mpr ⟨p, h, e.symm⟩)
      rw [this]
      exact ih nd.2 h
theorem ins_mem {ps : List (κ × ν)} {a : κ} {v : ν} {p : κ × ν} (h : p ∈ ins ps a v) : p ∈ ps ∨ p = (a, v) := by
  unfold ins at h
  split at h
  · obtain ⟨q, hq, rfl⟩ := List.mem_map.mp h
    split
    · rename_i e; exact .inr (by rw [eq_of_beq e])
    · exact .inl hq
  · simpa using h
/-! as data -/
def en (ke : κ → D) (ve : ν → D) (ps : List (κ × ν)) : List (D × D) := ps.map fun p => (ke p.1, ve p.2)
/-- keys tell apart -/
def Tells (ke : κ → D) : Prop := ∀ a b, eqD (ke a) (ke b) = (a == b)
theorem getK_en {ke : κ → D} {ve : ν → D} (h : Tells ke) (ps : List (κ × ν)) (a : κ) : getK (en ke ve ps) (ke a) = (lk ps a).map ve := by
  unfold getK en lk
  rw [List.find?_map, Option.map_map, Option.map_map]
  have : ((fun kv : D × D => eqD kv.1 (ke a)) ∘ fun p : κ × ν => (ke p.1, ve p.2)) = fun p => p.1 == a := funext fun p => h p.1 a
  rw [this]; rfl
theorem putK_en {ke : κ → D} {ve : ν → D} (h : Tells ke) (ps : List (κ × ν)) (a : κ) (v : ν) : putK (en ke ve ps) (ke a) (ve v) = en ke ve (ins ps a v) := by
  unfold putK ins en
  rw [List.any_map]
  have : ((fun kv : D × D => eqD kv.1 (ke a)) ∘ fun p : κ × ν => (ke p.1, ve p.2)) = fun p => p.1 == a := funext fun p => h p.1 a
  rw [this]
  split
  · rw [List.map_map, List.map_map]
    refine List.map_congr_left fun p _ => ?_
    simp only [Function.comp]
    rw [h]
    split <;> rfl
  · rw [List.map_append]; rfl
theorem en_len {ke : κ → D} {ve : ν → D} (ps : List (κ × ν)) : (en ke ve ps).length = ps.length := List.length_map ..
def insAll (acc : List (κ × ν)) : List (κ × ν) → List (κ × ν)
  | [] => acc
  | p :: r => insAll (ins acc p.1 p.2) r
theorem mergeK_en {ke : κ → D} {ve : ν → D} (h : Tells ke) : ∀ (qs ps : List (κ × ν)), mergeK (en ke ve ps) (en ke ve qs) = en ke ve (insAll ps qs)
  | [], ps => rfl
  | q :: qs, ps => by
    show mergeK (putK (en ke ve ps) (ke q.1) (ve q.2)) (en ke ve qs) = _
    rw [putK_en h, mergeK_en h qs]; rfl
theorem ins_new {ps : List (κ × ν)} {a : κ} {v : ν} (h : a ∉ keys ps) : ins ps a v = ps ++ [(a, v)] := by
  unfold ins
  rw [if_neg fun q => h (any_keys.mp q)]
theorem insAll_new : ∀ (qs ps : List (κ × ν)), (keys (ps ++ qs)).Nodup → insAll ps qs = ps ++ qs
  | [], ps, _ => by simp [insAll]
  | q :: qs, ps, h => by
    have hq : q.1 ∉ keys ps := by
      unfold keys at h
      rw [List.map_append, List.nodup_append] at h
      exact fun z => h.2.2 _ z q.1 (by simp) rfl
    show insAll (ins ps q.1 q.2) qs = _
    rw [ins_new hq, insAll_new qs _ (by simpa using h)]
    simp
theorem lk_insAll : ∀ (qs ps : List (κ × ν)) (a : κ), a ∉ keys qs → lk (insAll ps qs) a = lk ps a
  | [], ps, a, _ => rfl
  | q :: qs, ps, a, h => by
    unfold keys at h
    rw [List.map_cons, List.mem_cons, not_or] at h
    show lk (insAll (ins ps q.1 q.2) qs) a = _
    rw [lk_insAll qs _ a h.2, lk_ins, if_neg (Ne.symm h.1)]
theorem mem_insAll : ∀ (qs ps : List (κ × ν)) (a : κ), a ∈ keys (insAll ps qs) ↔ a ∈ keys ps ∨ a ∈ keys qs
  | [], ps, a => by simp [insAll, keys]
  | q :: qs, ps, a => by
    show a ∈ keys (insAll (ins ps q.1 q.2) qs) ↔ _
    rw [mem_insAll qs, mem_keys_ins]
    simp only [keys, List.map_cons, List.mem_cons]
    constructor
    · rintro ((h | h) | h)
      · exact .inl h
      · exact .inr (.inl h)
      · exact .inr (.inr h)
    · rintro (h | h | h)
      · exact .inl (.inl h)
      · exact .inl (.inr h)
      · exact .inr h
theorem nodup_insAll : ∀ (qs ps : List (κ × ν)), (keys ps).Nodup → (keys (insAll ps qs)).Nodup
  | [], ps, h => h
  | q :: qs, ps, h => nodup_insAll qs _ (nodup_ins h)
end
theorem tells_str : Tells D.str := fun a b => by
  show (a == b) = _
  rw [Bool.eq_iff_iff]; simp
theorem tells_int : Tells D.int := fun a b => by
  rfl
def kPair (p : T × T) : D := .tup [.str p.1, .str p.2]
theorem tells_pair : Tells kPair := fun a b => by
  show (a.1 == b.1 && (a.2 == b.2 && true)) = _
  rw [Bool.and_true, Bool.eq_iff_iff]
  simp [Prod.ext_iff]
end Mp

set_option linter.all false
set_option autoImplicit false
set_option maxRecDepth 100000
/-! Mp28: comprehensions and loops over typed items. -/
namespace Mp
/-- a comprehension that changes nothing -/
theorem compL_pure {α : Type} {env : Env} {g : G} {tst elt : Env → Mem → R D} (enc : α → D) (p : α → Bool) (f : α → D) (m : Mem) : ∀ xs : List α,
    (∀ x ∈ xs, ∃ e1, bindG g (enc x) env = some e1 ∧ tst e1 m = .ok (.bl (p x)) m ∧ (p x = true → elt e1 m = .ok (f x) m)) → compL env g tst elt (xs.map enc) m = .ok ((xs.filter p).map f) m
  | [], _ => rfl
  | x :: xs, h => by
    obtain ⟨e1, h1, h2, h3⟩ := h x List.mem_cons_self
    have ih := compL_pure enc p f m xs fun y hy => h y (List.mem_cons_of_mem _ hy)
    rw [List.map_cons]
    unfold compL
    rw [h1]
    simp only [h2, R.ok_bind]
    cases hp : p x with
    | true =>
      simp only [h3 hp, R.ok_bind, ih, List.filter_cons, hp, if_true, List.map_cons]
    | false =>
      simp only [ih, List.filter_cons, hp]
      rfl
theorem compL_map {α : Type} {env : Env} {g : G} {tst elt : Env → Mem → R D} (enc : α → D) (f : α → D) (m : Mem) (xs : List α)
    (h : ∀ x ∈ xs, ∃ e1, bindG g (enc x) env = some e1 ∧ tst e1 m = .ok (.bl true) m ∧ elt e1 m = .ok (f x) m) : compL env g tst elt (xs.map enc) m = .ok (xs.map f) m := by
  have := compL_pure (env := env) (g := g) (tst := tst) (elt := elt) enc (fun _ => true) f m xs fun x hx => by
    obtain ⟨e1, h1, h2, h3⟩ := h x hx
    exact ⟨e1, h1, h2, fun _ => h3⟩
  rwa [List.filter_eq_self.mpr fun _ _ => rfl] at this
/-- a for over typed items as a fold -/
theorem fo_fold {α σ : Type} {Φ : Fs} {g : G} {b : Ss} (W O : List Nat) (Rel : σ → Env → Mem → Prop) (f : σ → α → σ) (enc : α → D) {xs : List α} {s0 : σ} {env : Env} {m : Mem}
    (hW : (g.sl ++ b.wr).all (fun i => W.contains i) = true) (hO : b.ow.all (fun i => O.contains i) = true) (h0 : Rel s0 env m)
    (step : ∀ j x e m, xs[j]? = some x → Frm W O env e → Rel ((xs.take j).foldl f s0) e m → ∃ e1 e2 m2, bindG g (enc x) e = some e1 ∧ (exSs Φ b e1 m = .nx e2 m2 ∨ exSs Φ b e1 m = .ct e2 m2) ∧ Rel (f ((xs.take j).foldl f s0) x) e2 m2) :
    ∃ e2 m2, forL g (fun e m => exSs Φ b e m) (xs.map enc) env m = .nx e2 m2 ∧ Rel (xs.foldl f s0) e2 m2 ∧ Frm W O env e2 := by
  obtain ⟨e2, m2, h1, h2, h3⟩ := fo_inv (Φ := Φ) (g := g) (b := b) W O (fun j e m => Rel ((xs.take j).foldl f s0) e m) (ds := xs.map enc) (env := env) (m := m) hW hO h0 fun j d e m hj fr h => by
    rw [List.getElem?_map] at hj
    obtain ⟨x, hx, rfl⟩ := Option.map_eq_some_iff.mp hj
    obtain ⟨e1, e2, m2, q1, q2, q3⟩ := step j x e m hx fr h
    refine ⟨e1, e2, m2, q1, q2, ?_⟩
    rw [List.take_succ, hx, List.foldl_append]
    exact q3
  rw [List.length_map, List.take_length] at h2
  exact ⟨e2, m2, h1, h2, h3⟩
theorem sto_same {m : Mem} {h : Nat} {d x : D} (e : m[h]? = some x) : (sto m h d)[h]? = some d := by
  unfold sto
  exact List.getElem?_set_self (List.getElem?_eq_some_iff.mp e).1
theorem sto_ne {m : Mem} {h j : Nat} {d : D} (e : j ≠ h) : (sto m h d)[j]? = m[j]? := by
  unfold sto
  exact List.getElem?_set_ne (Ne.symm e)
theorem sto_len {m : Mem} {h : Nat} {d : D} : (sto m h d).length = m.length := by unfold sto; exact List.length_set
/-- the store but for one object -/
structure But (m m' : Mem) (h : Nat) : Prop where
  len : m'.length = m.length
  at_ : ∀ j, j ≠ h → m'[j]? = m[j]?
theorem But.refl (m : Mem) (h : Nat) : But m m h := ⟨rfl, fun _ _ => rfl⟩
theorem But.trans {m m1 m2 : Mem} {h : Nat} (a : But m m1 h) (b : But m1 m2 h) : But m m2 h := ⟨b.len.trans a.len, fun j e => (b.at_ j e).trans (a.at_ j e)⟩
theorem rngL_map (lo : Int) : ∀ n : Nat, rngL lo n = (List.range n).map fun (i : Nat) => D.int (lo + i)
  | 0 => rfl
  | n + 1 => by
    rw [List.range_succ_eq_map, List.map_cons, List.map_map]
    show D.int lo :: rngL (lo + 1) n = _
    rw [rngL_map (lo + 1) n]
    congr 1
    · simp
    · refine List.map_congr_left fun i _ => ?_
      show D.int _ = D.int _
      congr 1
      simp only [Nat.succ_eq_add_one]; omega
theorem noOwn_one {env : Env} {i : Nat} (h : (gt env i).isOwn = false) : noOwn env [i] = true := by
  unfold noOwn
  simp [h]
theorem wipeE_one (env : Env) (i : Nat) : wipeE env [i] = st env i .no := rfl
@[simp] theorem intO_int (i : Int) : intO (.int i) = some i := id rfl
@[simp] theorem slc_lst (lo hi : Option Int) (xs : List D) : slcD lo hi (.lst xs) = some (.lst (cut xs lo hi)) := id rfl
@[simp] theorem slc_tup (lo hi : Option Int) (xs : List D) : slcD lo hi (.tup xs) = some (.tup (cut xs lo hi)) := id rfl
@[simp] theorem slc_str (lo hi : Option Int) (xs : T) : slcD lo hi (.str xs) = some (.str (cut xs lo hi)) := id rfl
theorem keepL_ok : ∀ {xs : List PySem.Str}, (∀ x ∈ xs, okT x.cps.toList = true) → keepL xs = some (xs.map fun x => D.str x.cps.toList)
  | [], _ => rfl
  | x :: xs, h => by
    unfold keepL keepS
    rw [if_pos (h x List.mem_cons_self), keepL_ok fun y hy => h y (List.mem_cons_of_mem _ hy)]; rfl
/-- a written text split at blanks -/
theorem split_is {s t : T} {ws : List T} (ht : t ≠ []) (hl : s.length + 2 ≤ line) (h : (PySem.Txt.split (tS s) (tS t)).map (fun x => x.cps.toList) = ws) (ok : ∀ w ∈ ws, okT w = true) : Sm.run .split s [.str t] = some (.lst (ws.map .str)) := by
  show (if _ then _ else _) = _
  rw [if_pos ⟨ht, hl⟩, keepL_ok fun x hx => ok _ (by rw [← h]; exact List.mem_map.mpr ⟨x, hx, rfl⟩), ← h, List.map_map]
  rfl
/-- a comprehension whose elements are drawn -/
theorem compL_ex {env : Env} {g : G} {elt : Env → Mem → R D} {tst : Env → Mem → R D} (P : Nat → Mem → Prop) (Pr : Nat → D → Prop) : ∀ (ds : List D) (i : Nat) (m : Mem), P i m →
    (∀ j d m, ds[j]? = some d → P (i + j) m → ∃ e1 y m2, bindG g d env = some e1 ∧ tst e1 m = .ok (.bl true) m ∧ elt e1 m = .ok y m2 ∧ Pr (i + j) y ∧ P (i + j + 1) m2) → ∃ ys m2, compL env g tst elt ds m = .ok ys m2 ∧ P (i + ds.length) m2 ∧ ys.length = ds.length ∧ ∀ j y, ys[j]? = some y → Pr (i + j) y
  | [], i, m, p, _ => ⟨[], m, rfl, p, rfl, fun j d e => by simp at e⟩
  | d :: ds, i, m, p, h => by
    obtain ⟨e1, y, m2, h1, h2, h3, h3', h4⟩ := h 0 d m rfl p
    obtain ⟨ys, m3, h5, h6, h7, h8⟩ := compL_ex P Pr ds (i + 1) m2 h4 fun j x m hx q => by
      have z := h (j + 1) x m (by simpa using hx) (by rw [show i + (j + 1) = i + 1 + j by omega]; exact q)
      rw [show i + (j + 1) = i + 1 + j by omega] at z
      exact z
    refine ⟨y :: ys, m3, ?_, by rw [List.length_cons, show i + (ds.length + 1) = i + 1 + ds.length by omega]; exact h6, by rw [List.length_cons, List.length_cons, h7], fun j x e => ?_⟩
    · unfold compL
      rw [h1]
      simp only [h2, h3, R.ok_bind, h5]
    · cases j with
      | zero => simp at e; subst e; exact h3'
      | succ j =>
        simp only [List.getElem?_cons_succ] at e
        have z := h8 j x e
        rw [show i + (j + 1) = i + 1 + j by omega]
        exact z
theorem any_strs (t : T) : ∀ ts : List T, ((ts.map D.str).any fun z => eqD z (.str t)) = decide (t ∈ ts)
  | [] => by simp
  | x :: ts => by
    rw [List.map_cons, List.any_cons, any_strs t ts]
    show ((x == t) || _) = _
    rw [Bool.eq_iff_iff, Bool.or_eq_true, beq_iff_eq, decide_eq_true_iff, decide_eq_true_iff, List.mem_cons]
    exact ⟨fun h => h.imp Eq.symm id, fun h => h.imp Eq.symm id⟩
theorem pls_strs (n : Nat) (ts : List T) : pls n (ts.map D.str) = true := pls_all fun x hx => by
  obtain ⟨y, _, rfl⟩ := List.mem_map.mp hx
  exact pl_str _ _
theorem in_strs (t : T) (ts : List T) : inD (.str t) (.lst (ts.map .str)) = some (decide (t ∈ ts)) := by
  show (if (pl deep (.str t) && pls deep (ts.map D.str)) = true then some ((ts.map D.str).any fun z => eqD z (.str t)) else none) = _
  rw [pls_strs, pl_str, any_strs]; rfl
theorem ne_nils (ts : List T) : Cmp.run2 .ne (.lst (ts.map .str)) (.lst []) = some (decide (ts ≠ [])) := by
  rw [ne_pl (by rw [pl_lst]; exact pls_strs _ _) (by rw [pl_lst]; rfl)]
  cases ts <;> rfl
theorem atI_in {α : Type} {xs : List α} {i : Int} (h1 : -(xs.length : Int) ≤ i) (h2 : i < xs.length) : ∃ x, atI xs i = some x ∧ x ∈ xs := by
  unfold atI ixN
  by_cases h : 0 ≤ i
  · rw [if_pos h, if_pos h2]
    have hl : i.toNat < xs.length := by omega
    exact ⟨xs[i.toNat], List.getElem?_eq_getElem hl, List.getElem_mem hl⟩
  · rw [if_neg h, if_pos h1]
    have hl : (i + xs.length).toNat < xs.length := by omega
    exact ⟨xs[(i + xs.length).toNat], List.getElem?_eq_getElem hl, List.getElem_mem hl⟩
theorem atI_map {α β : Type} (f : α → β) (xs : List α) (i : Int) : atI (xs.map f) i = (atI xs i).map f := by
  unfold atI
  rw [List.length_map]
  cases ixN xs.length i with
  | none => rfl
  | some j => simp
/-- signs joined -/
theorem join_chars : ∀ cs : T, joinT [] (cs.map fun c => [c]) = cs
  | [] => rfl
  | [c] => rfl
  | c :: d :: cs => by
    show [c] ++ [] ++ joinT [] ((d :: cs).map fun c => [c]) = _
    rw [join_chars (d :: cs)]; rfl
theorem strsO_chars : ∀ cs : T, strsO (cs.map fun c => D.str [c]) = some (cs.map fun c => [c])
  | [] => rfl
  | c :: cs => by
    show (strsO (cs.map fun c => D.str [c])).map _ = _
    rw [strsO_chars cs]; rfl
theorem joinX_chars (cs : T) (h : cs.length ≤ 1000) : joinX (.str []) (.lst (cs.map fun c => .str [c])) = some (.str cs) := by
  show (strsO _).bind _ = _
  rw [strsO_chars]
  have : joinLen [] (cs.map fun c => [c]) = cs.length := by
    unfold joinLen
    rw [List.map_map]
    have : ((fun t : T => t.length + ([] : T).length) ∘ fun c : Nat => ([c] : T)) = fun _ => 1 := rfl
    rw [this]
    clear this h
    induction cs with
    | nil => rfl
    | cons c cs ih => rw [List.map_cons, List.sum_cons, ih, List.length_cons]; omega
  rw [Option.bind_some, this, if_pos (Nat.le_trans h (by decide)), join_chars]
theorem chars_of {ys : List D} {p : Nat → Prop} (h : ∀ y ∈ ys, ∃ c, p c ∧ y = .str [c]) : ∃ cs : T, ys = cs.map (fun c => D.str [c]) ∧ ∀ c ∈ cs, p c := by
  induction ys with
  | nil => exact ⟨[], rfl, fun _ z => nomatch z⟩
  | cons y ys ih =>
    obtain ⟨c, hc, rfl⟩ := h y List.mem_cons_self
    obtain ⟨cs, rfl, hcs⟩ := ih fun z hz => h z (List.mem_cons_of_mem _ hz)
    exact ⟨c :: cs, rfl, fun d hd => (List.mem_cons.mp hd).elim (fun e => e ▸ hc) (hcs d)⟩
end Mp

set_option linter.all false
set_option autoImplicit false
set_option maxRecDepth 100000
/-! Fg: the kit's laws of figures are needed beside (an import). -/
namespace Mp
theorem signs_nat (m : Nat) : (PySem.Str.ofString (toString ((m : Nat) : Int))).cps.toList = (Nat.toDigits 10 m).map Char.toNat := PySem.W.KIN.signs_num m
end Mp

set_option maxRecDepth 100000
set_option maxHeartbeats 1000000
namespace Mp
namespace K
section
open PySem L2
def c_thing_text_0 : E := (.u1 .str (.ex (.var 1)))
def b_thing_text : Ss := (.cons (.iff (.isi (.ex (.var 0)) .tuple) (.cons (.ret (.bop .add (.ex (.bop .add (.ex (.str [91])) (.ex (.jn (.str [44]) (.ex (.fr (.comp [1] (.nm 1) (.it (.ex (.var 0))) .no c_thing_text_0))))))) (.ex (.str [93])))) .nil) .nil) (.cons (.ret (.u1 .str (.ex (.var 0)))) .nil))
def c_inputs_text_0 : E := (.call 0 (.cons (.var 1) .nil))
def b_inputs_text : Ss := (.cons (.ret (.ite (.cmp .eq (.ex (.var 0)) (.ex (.tup .nil))) (.str [110, 111, 116, 104, 105, 110, 103]) (.jn (.str [32]) (.ex (.fr (.comp [1] (.nm 1) (.it (.ex (.var 0))) .no c_inputs_text_0)))))) .nil)
def b_end_text : Ss := (.cons (.iff (.cmp .eq (.ex (.idx (.ex (.var 1)) (.int 0))) (.ex (.str [103, 105, 118, 101]))) (.cons (.ret (.bop .add (.ex (.str [103, 105, 118, 101, 32])) (.ex (.call 0 (.cons (.idx (.ex (.var 1)) (.int 1)) .nil))))) .nil) .nil) (.cons (.iff (.cmp .eq (.ex (.idx (.ex (.var 1)) (.int 0))) (.ex (.str [108, 105, 109, 105, 116]))) (.cons (.ret (.str [108, 105, 109, 105, 116])) .nil) .nil) (.cons (.ret (.bop .add (.ex (.bop .add (.ex (.bop .add (.ex (.bop .add (.ex (.bop .add (.ex (.str [102, 97, 117, 108, 116, 32])) (.ex (.idx (.ex (.var 1)) (.int 1))))) (.ex (.str [32])))) (.ex (.idx (.ex (.idx (.ex (.idx (.ex (.var 0)) (.int 1))) (.idx (.ex (.var 1)) (.int 2)))) (.int 0))))) (.ex (.str [32])))) (.ex (.u1 .str (.ex (.idx (.ex (.var 1)) (.int 3))))))) .nil)))
def b__law_cell_at : Ss := (.cons (.iff (.cmp .lt (.ex (.var 1)) (.ex (.u1 .len (.ex (.var 0))))) (.cons (.ret (.idx (.ex (.var 0)) (.var 1))) .nil) .nil) (.cons (.ret (.int 0)) .nil))
def b__law_mixed : Ss := (.cons (.set 0 (.bop .mod (.ex (.var 0)) (.ex (.int 2147483647)))) (.cons (.ret (.bop .mod (.ex (.bop .mul (.ex (.bop .mod (.ex (.bop .add (.ex (.bop .add (.ex (.bop .mul (.ex (.var 0)) (.ex (.bop .add (.ex (.int 48271)) (.ex (.bop .mul (.ex (.bop .mul (.ex (.int 2)) (.ex (.var 1)))) (.ex (.var 1)))))))) (.ex (.bop .mul (.ex (.int 69621)) (.ex (.var 1)))))) (.ex (.int 11)))) (.ex (.int 2147483647)))) (.ex (.int 69621)))) (.ex (.int 2147483629)))) .nil))
def b__law_state : Ss := (.cons (.set 2 (.call 3 (.cons (.var 0) (.cons (.var 1) .nil)))) (.cons (.ret (.new (.dct false (.cons (.str [108, 101, 102, 116]) (.ite (.cmp .ge (.ex (.var 2)) (.ex (.bop .pow (.ex (.int 10)) (.ex (.int 18))))) (.var 2) (.int 0)) (.cons (.str [115, 101, 101, 100]) (.call 4 (.cons (.var 2) (.cons (.var 1) .nil))) (.cons (.str [97, 116]) (.int 0) .nil)))))) .nil))
def b__law_draw : Ss := (.cons (.oput (.var 0) (.str [97, 116]) (.bop .add (.ex (.idx (.ex (.var 0)) (.str [97, 116]))) (.ex (.int 1)))) (.cons (.iff (.cmp .gt (.ex (.idx (.ex (.var 0)) (.str [108, 101, 102, 116]))) (.ex (.int 0))) (.cons (.set 2 (.bop .mod (.ex (.idx (.ex (.var 0)) (.str [108, 101, 102, 116]))) (.ex (.var 1)))) (.cons (.oput (.var 0) (.str [108, 101, 102, 116]) (.bop .fdv (.ex (.idx (.ex (.var 0)) (.str [108, 101, 102, 116]))) (.ex (.var 1)))) (.cons (.ret (.var 2)) .nil))) .nil) (.cons (.set 3 (.call 4 (.cons (.call 4 (.cons (.idx (.ex (.var 0)) (.str [115, 101, 101, 100])) (.cons (.idx (.ex (.var 0)) (.str [97, 116])) .nil))) (.cons (.bop .add (.ex (.int 40)) (.ex (.idx (.ex (.var 0)) (.str [97, 116])))) .nil)))) (.cons (.ret (.bop .mod (.ex (.bop .fdv (.ex (.bop .add (.ex (.bop .mul (.ex (.var 3)) (.ex (.int 2147483647)))) (.ex (.call 4 (.cons (.var 3) (.cons (.bop .add (.ex (.int 7)) (.ex (.idx (.ex (.var 0)) (.str [97, 116])))) .nil)))))) (.ex (.int 64)))) (.ex (.var 1)))) .nil))))
def b__law_of : Ss := (.cons (.ret (.idx (.ex (.var 1)) (.call 6 (.cons (.var 0) (.cons (.u1 .len (.ex (.var 1))) .nil))))) .nil)
def c__law_names_0 : E := (.idx (.ex (.var 2)) (.call 6 (.cons (.var 0) (.cons (.int 26) .nil))))
def t__law_names_1 : E := (.inn false (.var 6) (.ex (.bop .add (.pk 4) (.ex (.var 3)))))
def l__law_names_2 : Ss := (.cons (.set 6 (.bop .add (.ex (.slc (.ex (.var 6)) .no (.so (.u1 .neg (.ex (.int 1)))))) (.ex (.idx (.ex (.var 2)) (.bop .mod (.ex (.bop .add (.ex (.sm .index (.var 2) (.cons (.idx (.ex (.var 6)) (.u1 .neg (.ex (.int 1)))) .nil))) (.ex (.int 1)))) (.ex (.int 26))))))) .nil)
def l__law_names_3 : Ss := (.cons (.set 6 (.jn (.str []) (.ex (.fr (.comp [7] (.nm 7) (.rg1 (.bop .add (.ex (.int 1)) (.ex (.call 6 (.cons (.var 0) (.cons (.int 6) .nil)))))) .no c__law_names_0))))) (.cons (.wh t__law_names_1 l__law_names_2) (.cons (.app 4 (.var 6)) .nil)))
def b__law_names : Ss := (.cons (.set 2 (.str [97, 98, 99, 100, 101, 102, 103, 104, 105, 106, 107, 108, 109, 110, 111, 112, 113, 114, 115, 116, 117, 118, 119, 120, 121, 122])) (.cons (.set 3 (.sm .split (.str [102, 110, 32, 108, 101, 116, 32, 105, 102, 32, 101, 108, 115, 101, 32, 103, 105, 118, 101, 32, 98, 101, 32, 115, 117, 109, 32, 108, 111, 110, 103, 32, 112, 97, 114, 116, 32, 119, 105, 116, 104, 32, 99, 117, 116, 32, 99, 97, 108, 108, 32, 109, 117, 115, 116, 32, 110, 117, 109, 98, 101, 114, 32, 114, 111, 119, 32, 111, 117, 116, 32, 103, 105, 118, 101, 110]) (.cons (.str [32]) .nil))) (.cons (.own 4 (.lst .nil)) (.cons (.fo (.nm 5) (.rg1 (.var 1)) l__law_names_3) (.cons (.frz 4) (.cons (.ret (.var 4)) .nil))))))
def b__law_c : Ss := (.cons (.ret (.idx (.ex (.fr (.lst (.cons (.int 0) (.cons (.int 0) (.cons (.int 0) (.cons (.int 1) (.cons (.u1 .neg (.ex (.int 1))) (.cons (.bop .sub (.ex (.call 6 (.cons (.var 0) (.cons (.bop .add (.ex (.bop .mul (.ex (.int 2)) (.ex (.var 1)))) (.ex (.int 1))) .nil)))) (.ex (.var 1))) .nil))))))))) (.call 6 (.cons (.var 0) (.cons (.int 6) .nil))))) .nil)
def t__law_atom_0 : E := (.cmp .eq (.ex (.idx (.ex (.var 1)) (.var 4))) (.ex (.str [110, 117, 109, 98, 101, 114])))
def c__law_atom_1 : E := (.var 4)
def b__law_atom : Ss := (.cons (.own 3 (.compK [4] (.nm 4) 1 (.so t__law_atom_0) c__law_atom_1)) (.cons (.frz 3) (.cons (.iff (.or (.cons (.cmp .eq (.ex (.var 3)) (.ex (.fr (.lst .nil)))) (.cons (.cmp .eq (.ex (.call 6 (.cons (.var 0) (.cons (.int 3) .nil)))) (.ex (.int 0))) .nil))) (.cons (.ret (.tup (.cons (.str [110, 117, 109]) (.cons (.call 9 (.cons (.var 0) (.cons (.var 2) .nil))) .nil)))) .nil) .nil) (.cons (.ret (.tup (.cons (.str [97, 116]) (.cons (.call 7 (.cons (.var 0) (.cons (.var 3) .nil))) (.cons (.call 9 (.cons (.var 0) (.cons (.var 2) .nil))) .nil))))) .nil))))
def t__law_handed_0 : E := (.cmp .eq (.ex (.idx (.ex (.var 1)) (.var 5))) (.ex (.str [114, 111, 119])))
def c__law_handed_1 : E := (.var 5)
def b__law_handed : Ss := (.cons (.iff (.cmp .eq (.ex (.var 2)) (.ex (.str [110, 117, 109, 98, 101, 114]))) (.cons (.ret (.call 10 (.cons (.var 0) (.cons (.var 1) (.cons (.var 3) .nil))))) .nil) .nil) (.cons (.own 4 (.compK [5] (.nm 5) 1 (.so t__law_handed_0) c__law_handed_1)) (.cons (.frz 4) (.cons (.ret (.ite (.cmp .ne (.ex (.var 4)) (.ex (.fr (.lst .nil)))) (.tup (.cons (.str [114, 111, 119]) (.cons (.call 7 (.cons (.var 0) (.cons (.var 4) .nil))) .nil))) .non)) .nil))))
def t__law_side_0 : E := (.cmp .eq (.ex (.idx (.ex (.var 1)) (.var 5))) (.ex (.str [114, 111, 119])))
def c__law_side_1 : E := (.var 5)
def c__law_side_2 : E := (.call 11 (.cons (.var 2) (.cons (.var 1) (.cons (.var 11) (.cons (.var 3) .nil)))))
def b__law_side : Ss := (.cons (.asg (.tp (.cons (.nm 2) (.cons (.nm 3) .nil))) (.tup (.cons (.idx (.ex (.var 0)) (.str [100, 114, 97, 119, 115])) (.cons (.idx (.ex (.var 0)) (.str [109, 111, 115, 116])) .nil)))) (.cons (.own 4 (.compK [5] (.nm 5) 1 (.so t__law_side_0) c__law_side_1)) (.cons (.frz 4) (.cons (.set 6 (.call 6 (.cons (.var 2) (.cons (.int 9) .nil)))) (.cons (.iff (.and (.cons (.cmp .gt (.ex (.var 6)) (.ex (.int 5))) (.cons (.cmp .gt (.ex (.u1 .len (.ex (.idx (.ex (.var 0)) (.str [115, 105, 103, 110, 115]))))) (.ex (.int 1))) .nil))) (.cons (.asg (.tp (.cons (.nm 5) (.cons (.nm 7) (.cons (.nm 8) .nil)))) (.idx (.ex (.idx (.ex (.var 0)) (.str [115, 105, 103, 110, 115]))) (.bop .add (.ex (.int 1)) (.ex (.call 6 (.cons (.var 2) (.cons (.bop .sub (.ex (.u1 .len (.ex (.idx (.ex (.var 0)) (.str [115, 105, 103, 110, 115]))))) (.ex (.int 1))) .nil))))))) (.cons (.own 9 (.comp [10, 11] (.tp (.cons (.nm 10) (.cons (.nm 11) .nil))) (.it (.ex (.var 7))) .no c__law_side_2)) (.cons (.frz 9) (.cons (.iff (.inn true .non (.ex (.var 9))) (.cons (.ret (.tup (.cons (.tup (.cons (.str [99, 97, 108, 108]) (.cons (.var 5) (.cons (.u1 .tup (.ex (.var 9))) .nil)))) (.cons (.var 8) .nil)))) .nil) .nil) .nil)))) .nil) (.cons (.iff (.or (.cons (.cmp .eq (.ex (.var 4)) (.ex (.fr (.lst .nil)))) (.cons (.cmp .lt (.ex (.var 6)) (.ex (.int 2))) .nil))) (.cons (.par (.e 12 (.call 10 (.cons (.var 2) (.cons (.var 1) (.cons (.var 3) .nil)))) (.e 13 (.call 10 (.cons (.var 2) (.cons (.var 1) (.cons (.var 3) .nil)))) .nil))) (.cons (.ret (.tup (.cons (.idx (.ex (.fr (.lst (.cons (.tup (.cons (.str [98, 101]) (.cons (.var 12) .nil))) (.cons (.tup (.cons (.str [115, 117, 109]) (.cons (.var 12) (.cons (.var 13) .nil)))) .nil))))) (.bop .mod (.ex (.var 6)) (.ex (.int 2)))) (.cons (.str [110, 117, 109, 98, 101, 114]) .nil)))) .nil)) .nil) (.cons (.par (.e 14 (.call 7 (.cons (.var 2) (.cons (.var 4) .nil))) (.e 15 (.call 10 (.cons (.var 2) (.cons (.var 1) (.cons (.var 3) .nil)))) .nil))) (.cons (.iff (.cmp .lt (.ex (.var 6)) (.ex (.int 5))) (.cons (.ret (.tup (.cons (.idx (.ex (.fr (.lst (.cons (.tup (.cons (.str [108, 111, 110, 103]) (.cons (.var 14) .nil))) (.cons (.tup (.cons (.str [112, 97, 114, 116]) (.cons (.var 14) (.cons (.var 15) .nil)))) (.cons (.tup (.cons (.str [99, 117, 116]) (.cons (.var 14) (.cons (.var 15) .nil)))) .nil)))))) (.bop .sub (.ex (.var 6)) (.ex (.int 2)))) (.cons (.idx (.ex (.fr (.lst (.cons (.str [110, 117, 109, 98, 101, 114]) (.cons (.str [110, 117, 109, 98, 101, 114]) (.cons (.str [114, 111, 119]) .nil)))))) (.bop .sub (.ex (.var 6)) (.ex (.int 2)))) .nil)))) .nil) .nil) (.cons (.ret (.tup (.cons (.tup (.cons (.str [119, 105, 116, 104]) (.cons (.var 14) (.cons (.var 15) (.cons (.call 10 (.cons (.var 2) (.cons (.var 1) (.cons (.var 3) .nil)))) .nil))))) (.cons (.str [114, 111, 119]) .nil)))) .nil)))))))))
def b__law_body : Ss := (.cons (.par (.e 3 (.idx (.ex (.var 0)) (.str [100, 114, 97, 119, 115])) (.e 4 (.idx (.ex (.var 0)) (.str [109, 111, 115, 116])) .nil))) (.cons (.set 5 (.call 6 (.cons (.var 3) (.cons (.int 10) .nil)))) (.cons (.iff (.or (.cons (.cmp .eq (.ex (.var 2)) (.ex (.int 1))) (.cons (.cmp .eq (.ex (.var 5)) (.ex (.int 9))) .nil))) (.cons (.ret (.tup (.cons (.str [103, 105, 118, 101]) (.cons (.call 11 (.cons (.var 3) (.cons (.var 1) (.cons (.idx (.ex (.var 0)) (.str [111, 117, 116])) (.cons (.var 4) .nil))))) .nil)))) .nil) .nil) (.cons (.iff (.and (.cons (.cmp .lt (.ex (.var 5)) (.ex (.int 6))) (.cons (.cmp .ne (.ex (.idx (.ex (.var 0)) (.str [102, 114, 101, 101]))) (.ex (.fr (.lst .nil)))) .nil))) (.cons (.asg (.tp (.cons (.nm 6) (.cons (.nm 7) .nil))) (.call 12 (.cons (.var 0) (.cons (.var 1) .nil)))) (.cons (.set 8 (.opop (.idx (.ex (.var 0)) (.str [102, 114, 101, 101])))) (.cons (.ret (.tup (.cons (.str [108, 101, 116]) (.cons (.var 8) (.cons (.var 6) (.cons (.call 13 (.cons (.var 0) (.cons (.fr (.dctof (.ex (.bop .add (.ex (.fr (.itm (.ex (.var 1))))) (.ex (.fr (.lst (.cons (.tup (.cons (.var 8) (.cons (.var 7) .nil))) .nil)))))))) (.cons (.bop .sub (.ex (.var 2)) (.ex (.int 1))) .nil)))) .nil)))))) .nil))) .nil) (.cons (.par (.e 9 (.call 10 (.cons (.var 3) (.cons (.var 1) (.cons (.var 4) .nil)))) (.e 10 (.call 10 (.cons (.var 3) (.cons (.var 1) (.cons (.var 4) .nil)))) .nil))) (.cons (.iff (.or (.cons (.cmp .eq (.ex (.var 5)) (.ex (.int 6))) (.cons (.cmp .eq (.ex (.var 2)) (.ex (.int 2))) .nil))) (.cons (.ret (.tup (.cons (.str [109, 117, 115, 116]) (.cons (.var 9) (.cons (.var 10) (.cons (.call 13 (.cons (.var 0) (.cons (.var 1) (.cons (.bop .sub (.ex (.var 2)) (.ex (.int 1))) .nil)))) .nil)))))) .nil) .nil) (.cons (.set 11 (.bop .add (.ex (.int 1)) (.ex (.call 6 (.cons (.var 3) (.cons (.bop .sub (.ex (.var 2)) (.ex (.int 2))) .nil)))))) (.cons (.set 12 (.call 13 (.cons (.var 0) (.cons (.var 1) (.cons (.var 11) .nil))))) (.cons (.ret (.tup (.cons (.str [105, 102]) (.cons (.var 9) (.cons (.var 10) (.cons (.var 12) (.cons (.call 13 (.cons (.var 0) (.cons (.var 1) (.cons (.bop .sub (.ex (.bop .sub (.ex (.var 2)) (.ex (.int 1)))) (.ex (.var 11))) .nil)))) .nil))))))) .nil)))))))))
def l__law_functions_0 : Ss := (.cons (.app 6 (.tup (.cons (.var 7) (.cons (.idx (.ex (.fr (.lst (.cons (.str [110, 117, 109, 98, 101, 114]) (.cons (.str [110, 117, 109, 98, 101, 114]) (.cons (.str [114, 111, 119]) .nil)))))) (.call 6 (.cons (.var 0) (.cons (.int 3) .nil)))) .nil)))) .nil)
def t__law_functions_1 : E := (.cmp .eq (.ex (.var 9)) (.ex (.str [114, 111, 119])))
def c__law_functions_2 : E := (.var 9)
def l__law_functions_3 : Ss := (.cons (.own 6 (.lst .nil)) (.cons (.fo (.nm 7) (.it (.ex (.call 8 (.cons (.var 0) (.cons (.call 6 (.cons (.var 0) (.cons (.int 4) .nil))) .nil))))) l__law_functions_0) (.cons (.set 8 (.cmp .ne (.ex (.fr (.comp [7, 9] (.tp (.cons (.nm 7) (.cons (.nm 9) .nil))) (.it (.pk 6)) (.so t__law_functions_1) c__law_functions_2))) (.ex (.fr (.lst .nil))))) (.cons (.app 4 (.tup (.cons (.var 5) (.cons (.u1 .tup (.pk 6)) (.cons (.idx (.ex (.fr (.lst (.cons (.str [110, 117, 109, 98, 101, 114]) (.cons (.str [114, 111, 119]) .nil))))) (.u1 .int (.ex (.and (.cons (.var 8) (.cons (.cmp .eq (.ex (.call 6 (.cons (.var 0) (.cons (.int 3) .nil)))) (.ex (.int 0))) .nil)))))) .nil))))) .nil))))
def c__law_functions_4 : E := (.var 7)
def t__law_functions_5 : E := (.inn true (.var 7) (.ex (.var 12)))
def c__law_functions_6 : E := (.var 7)
def l__law_functions_7 : Ss := (.cons (.own 12 (.comp [7, 9] (.tp (.cons (.nm 7) (.cons (.nm 9) .nil))) (.it (.ex (.var 6))) .no c__law_functions_4)) (.cons (.frz 12) (.cons (.own 13 (.comp [7] (.nm 7) (.it (.ex (.call 8 (.cons (.var 0) (.cons (.int 12) .nil))))) (.so t__law_functions_5) c__law_functions_6)) (.cons (.shr 13) (.cons (.set 14 (.fr (.dct false (.cons (.str [100, 114, 97, 119, 115]) (.var 0) (.cons (.str [109, 111, 115, 116]) (.var 1) (.cons (.str [115, 105, 103, 110, 115]) (.var 4) (.cons (.str [111, 117, 116]) (.var 11) (.cons (.str [102, 114, 101, 101]) (.var 13) .nil)))))))) (.cons (.app 10 (.tup (.cons (.var 5) (.cons (.var 6) (.cons (.var 11) (.cons (.call 13 (.cons (.var 14) (.cons (.fr (.dctof (.ex (.fr (.lstof (.ex (.var 6))))))) (.cons (.bop .add (.ex (.int 1)) (.ex (.call 6 (.cons (.var 0) (.cons (.var 3) .nil))))) .nil)))) .nil)))))) .nil))))))
def b__law_functions : Ss := (.cons (.own 4 (.lst .nil)) (.cons (.fo (.nm 5) (.it (.ex (.call 8 (.cons (.var 0) (.cons (.bop .add (.ex (.int 1)) (.ex (.call 6 (.cons (.var 0) (.cons (.var 2) .nil))))) .nil))))) l__law_functions_3) (.cons (.own 10 (.lst .nil)) (.cons (.frz 4) (.cons (.frz 6) (.cons (.fo (.tp (.cons (.nm 5) (.cons (.nm 6) (.cons (.nm 11) .nil)))) (.it (.ex (.var 4))) l__law_functions_7) (.cons (.ret (.u1 .tup (.pk 10))) .nil)))))))
def t__law_figures_0 : E := (.cmp .gt (.ex (.var 1)) (.ex (.int 0)))
def l__law_figures_1 : Ss := (.cons (.set 2 (.bop .add (.ex (.idx (.ex (.str [48, 49, 50, 51, 52, 53, 54, 55, 56, 57])) (.bop .mod (.ex (.var 1)) (.ex (.int 10))))) (.ex (.var 2)))) (.cons (.set 1 (.bop .fdv (.ex (.var 1)) (.ex (.int 10)))) .nil))
def b__law_figures : Ss := (.cons (.set 1 (.u2 .max (.ex (.var 0)) (.ex (.bop .sub (.ex (.int 0)) (.ex (.var 0)))))) (.cons (.set 2 (.ite (.cmp .eq (.ex (.var 1)) (.ex (.int 0))) (.str [48]) (.str []))) (.cons (.wh t__law_figures_0 l__law_figures_1) (.cons (.ret (.bop .add (.ex (.bop .mul (.ex (.str [45])) (.ex (.u1 .int (.ex (.cmp .lt (.ex (.var 0)) (.ex (.int 0)))))))) (.ex (.var 2)))) .nil))))
def l__law_thing_0 : Ss := (.cons (.set 1 (.bop .add (.ex (.bop .add (.ex (.var 1)) (.ex (.bop .mul (.ex (.str [44])) (.ex (.u1 .int (.ex (.cmp .ne (.ex (.var 1)) (.ex (.str [])))))))))) (.ex (.call 15 (.cons (.var 2) .nil))))) .nil)
def b__law_thing : Ss := (.cons (.iff (.not (.isi (.ex (.var 0)) .tuple)) (.cons (.ret (.call 15 (.cons (.var 0) .nil))) .nil) .nil) (.cons (.set 1 (.str [])) (.cons (.fo (.nm 2) (.it (.ex (.var 0))) l__law_thing_0) (.cons (.ret (.bop .add (.ex (.bop .add (.ex (.str [91])) (.ex (.var 1)))) (.ex (.str [93])))) .nil))))
def c__law_any_0 : E := (.call 7 (.cons (.var 0) (.cons (.var 2) .nil)))
def b__law_any : Ss := (.cons (.iff (.cmp .eq (.ex (.var 1)) (.ex (.str [110, 117, 109, 98, 101, 114]))) (.cons (.ret (.call 7 (.cons (.var 0) (.cons (.var 2) .nil)))) .nil) .nil) (.cons (.ret (.u1 .tup (.ex (.fr (.comp [3] (.nm 3) (.rg1 (.call 6 (.cons (.var 0) (.cons (.int 6) .nil)))) .no c__law_any_0))))) .nil))
def l__law_faults_0 : Ss := (.cons (.set 2 (.call 18 (.cons (.var 5) (.cons (.var 1) (.cons (.var 2) (.cons (.var 3) .nil)))))) .nil)
def b__law_faults : Ss := (.cons (.set 4 (.get (.ex (.fr (.dct false (.cons (.str [109, 117, 115, 116]) (.str [109, 117, 115, 116]) .nil)))) (.idx (.ex (.var 0)) (.int 0)) (.str []))) (.cons (.iff (.cmp .eq (.ex (.idx (.ex (.var 0)) (.int 0))) (.ex (.str [108, 101, 116]))) (.cons (.set 4 (.get (.ex (.fr (.dct false (.cons (.str [112, 97, 114, 116]) (.str [112, 97, 114, 116]) (.cons (.str [119, 105, 116, 104]) (.str [112, 97, 114, 116]) (.cons (.str [99, 117, 116]) (.str [99, 117, 116]) .nil)))))) (.idx (.ex (.idx (.ex (.var 0)) (.int 2))) (.int 0)) (.str []))) .nil) .nil) (.cons (.oext (.var 3) (.bop .mul (.ex (.fr (.lst (.cons (.tup (.cons (.str [102, 97, 117, 108, 116]) (.cons (.var 4) (.cons (.var 1) (.cons (.var 2) .nil))))) .nil)))) (.ex (.u1 .int (.ex (.cmp .ne (.ex (.var 4)) (.ex (.str [])))))))) (.cons (.set 2 (.bop .add (.ex (.var 2)) (.ex (.int 1)))) (.cons (.fo (.nm 5) (.it (.ex (.ite (.cmp .ne (.ex (.idx (.ex (.var 0)) (.int 0))) (.ex (.str [103, 105, 118, 101]))) (.slc (.ex (.var 0)) (.so (.int 3)) .no) (.tup .nil)))) l__law_faults_0) (.cons (.ret (.var 2)) .nil))))))
def l_law_0 : Ss := (.cons (.app 7 (.tup (.cons (.var 11) (.cons (.bop .add (.ex (.bop .add (.ex (.bop .add (.ex (.bop .add (.ex (.bop .add (.ex (.str [102, 97, 117, 108, 116, 32])) (.ex (.idx (.ex (.var 11)) (.int 1))))) (.ex (.str [32])))) (.ex (.idx (.ex (.var 9)) (.int 0))))) (.ex (.str [32])))) (.ex (.call 15 (.cons (.idx (.ex (.var 11)) (.int 3)) .nil)))) .nil)))) .nil)
def l_law_1 : Ss := (.cons (.set 10 (.new (.lst .nil))) (.cons (.exp (.call 18 (.cons (.idx (.ex (.var 9)) (.int 3)) (.cons (.var 8) (.cons (.int 0) (.cons (.var 10) .nil)))))) (.cons (.fol (.nm 11) (.var 10) l_law_0) .nil)))
def t_law_2 : E := (.cmp .ne (.ex (.u1 .repr (.ex (.call 2 (.cons (.var 3) (.cons (.idx (.ex (.var 12)) (.int 0)) .nil)))))) (.ex (.u1 .repr (.ex (.idx (.ex (.var 12)) (.int 1))))))
def c_law_3 : E := (.var 12)
def l_law_4 : Ss := (.cons (.set 15 (.idx (.ex (.fr (.lst (.cons (.str [110, 117, 109, 98, 101, 114]) (.cons (.str [114, 111, 119]) .nil))))) (.call 6 (.cons (.var 2) (.cons (.int 2) .nil))))) (.cons (.set 13 (.bop .add (.ex (.var 13)) (.ex (.tup (.cons (.call 17 (.cons (.var 2) (.cons (.var 15) (.cons (.fr (.lrg2 (.u1 .neg (.ex (.int 9))) (.int 10))) .nil)))) .nil))))) .nil))
def l_law_5 : Ss := (.cons (.set 16 (.bop .add (.ex (.bop .add (.ex (.var 16)) (.ex (.bop .mul (.ex (.str [32])) (.ex (.u1 .int (.ex (.cmp .ne (.ex (.var 16)) (.ex (.str [])))))))))) (.ex (.call 16 (.cons (.var 6) .nil))))) .nil)
def c_law_6 : E := (.call 1 (.cons (.var 13) .nil))
def l_law_7 : Ss := (.cons (.set 2 (.call 5 (.cons (.var 0) (.cons (.var 1) .nil)))) (.cons (.set 3 (.tup (.cons (.tup .nil) (.cons (.call 14 (.cons (.var 2) (.cons (.int 4) (.cons (.int 4) (.cons (.int 12) .nil))))) .nil)))) (.cons (.set 4 (.bop .mul (.ex (.int 9)) (.ex (.bop .pow (.ex (.int 2)) (.ex (.int 60)))))) (.cons (.set 5 (.fr (.lst (.cons (.int 0) (.cons (.int 5) (.cons (.u1 .neg (.ex (.int 5))) (.cons (.int 10) (.cons (.u1 .neg (.ex (.int 100))) (.cons (.bop .sub (.ex (.call 6 (.cons (.var 2) (.cons (.int 2001) .nil)))) (.ex (.int 1000))) (.cons (.var 4) (.cons (.bop .sub (.ex (.int 0)) (.ex (.var 4))) (.cons (.call 6 (.cons (.var 2) (.cons (.var 4) .nil))) .nil)))))))))))) (.cons (.set 6 (.call 17 (.cons (.var 2) (.cons (.idx (.ex (.idx (.ex (.idx (.ex (.var 3)) (.int 1))) (.int 0))) (.int 2)) (.cons (.var 5) .nil))))) (.cons (.own 7 (.lst (.cons (.tup (.cons (.tup (.cons (.str [103, 105, 118, 101]) (.cons (.var 6) .nil))) (.cons (.bop .add (.ex (.str [103, 105, 118, 101, 32])) (.ex (.call 16 (.cons (.var 6) .nil)))) .nil))) (.cons (.tup (.cons (.tup (.cons (.str [108, 105, 109, 105, 116]) .nil)) (.cons (.str [108, 105, 109, 105, 116]) .nil))) .nil)))) (.cons (.fo (.tp (.cons (.nm 8) (.cons (.nm 9) .nil))) (.enT (.ex (.idx (.ex (.var 3)) (.int 1)))) l_law_1) (.cons (.iff (.cmp .ne (.ex (.fr (.comp [12] (.nm 12) (.it (.ex (.bop .add (.pk 7) (.ex (.slc (.pk 7) .no (.so (.int 2))))))) (.so t_law_2) c_law_3))) (.ex (.fr (.lst .nil)))) (.cons (.ret (.bl false)) .nil) .nil) (.cons (.set 13 (.tup .nil)) (.cons (.fo (.nm 14) (.rg1 (.call 6 (.cons (.var 2) (.cons (.int 4) .nil)))) l_law_4) (.cons (.set 16 (.str [])) (.cons (.fo (.nm 6) (.it (.ex (.var 13))) l_law_5) (.cons (.iff (.cmp .ne (.ex (.fr (.comp [14] (.nm 14) (.rg1 (.int 2)) .no c_law_6))) (.ex (.bop .mul (.ex (.fr (.lst (.cons (.ite (.cmp .ne (.ex (.var 13)) (.ex (.tup .nil))) (.var 16) (.str [110, 111, 116, 104, 105, 110, 103])) .nil)))) (.ex (.int 2))))) (.cons (.ret (.bl false)) .nil) .nil) .nil)))))))))))))
def b_law : Ss := (.cons (.fo (.nm 1) (.rg1 (.int 4)) l_law_7) (.cons (.ret (.bl true)) .nil))
def f_0 : FnC := ⟨"thing_text", ["thing"], ["thing", "one"], ⟨1, 2, false, b_thing_text⟩, none, false⟩
def f_1 : FnC := ⟨"inputs_text", ["inputs"], ["inputs", "thing"], ⟨1, 2, false, b_inputs_text⟩, none, false⟩
def f_2 : FnC := ⟨"end_text", ["program", "end"], ["program", "end"], ⟨2, 2, false, b_end_text⟩, none, false⟩
def f_3 : FnC := ⟨"_law_cell_at", ["script", "k"], ["script", "k"], ⟨2, 2, false, b__law_cell_at⟩, none, false⟩
def f_4 : FnC := ⟨"_law_mixed", ["cell", "k"], ["cell", "k"], ⟨2, 2, false, b__law_mixed⟩, none, false⟩
def f_5 : FnC := ⟨"_law_state", ["script", "k"], ["script", "k", "cell"], ⟨2, 3, false, b__law_state⟩, none, false⟩
def f_6 : FnC := ⟨"_law_draw", ["state", "many"], ["state", "many", "found", "number"], ⟨2, 4, false, b__law_draw⟩, none, false⟩
def f_7 : FnC := ⟨"_law_of", ["state", "things"], ["state", "things"], ⟨2, 2, false, b__law_of⟩, none, false⟩
def f_8 : FnC := ⟨"_law_names", ["state", "many"], ["state", "many", "letters", "bars", "found", "k", "name", "j"], ⟨2, 8, false, b__law_names⟩, none, false⟩
def f_9 : FnC := ⟨"_law_c", ["state", "most"], ["state", "most"], ⟨2, 2, false, b__law_c⟩, none, false⟩
def f_10 : FnC := ⟨"_law_atom", ["state", "known", "most"], ["state", "known", "most", "numbers", "name"], ⟨3, 5, false, b__law_atom⟩, none, false⟩
def f_11 : FnC := ⟨"_law_handed", ["state", "known", "kind", "most"], ["state", "known", "kind", "most", "rows", "name"], ⟨4, 6, false, b__law_handed⟩, none, false⟩
def f_12 : FnC := ⟨"_law_side", ["m", "known"], ["m", "known", "state", "most", "rows", "name", "way", "params", "out", "args", "param", "kind", "one", "other", "row", "atom"], ⟨2, 16, false, b__law_side⟩, none, false⟩
def f_13 : FnC := ⟨"_law_body", ["m", "known", "room"], ["m", "known", "room", "state", "most", "way", "right", "kind", "name", "one", "other", "first", "ahead"], ⟨3, 13, false, b__law_body⟩, none, false⟩
def f_14 : FnC := ⟨"_law_functions", ["state", "most", "many", "rooms"], ["state", "most", "many", "rooms", "signs", "name", "params", "own", "has_row", "kind", "found", "out", "names", "free", "m"], ⟨4, 15, false, b__law_functions⟩, none, false⟩
def f_15 : FnC := ⟨"_law_figures", ["number"], ["number", "left", "found"], ⟨1, 3, false, b__law_figures⟩, none, false⟩
def f_16 : FnC := ⟨"_law_thing", ["thing"], ["thing", "found", "number"], ⟨1, 3, false, b__law_thing⟩, none, false⟩
def f_17 : FnC := ⟨"_law_any", ["state", "kind", "some"], ["state", "kind", "some", "k"], ⟨3, 4, false, b__law_any⟩, none, false⟩
def f_18 : FnC := ⟨"_law_faults", ["body", "f", "ahead", "found"], ["body", "f", "ahead", "found", "word", "inner"], ⟨4, 6, false, b__law_faults⟩, none, false⟩
def f_19 : FnC := ⟨"law", ["script"], ["script", "k", "state", "program", "far", "some", "thing", "pairs", "f", "function", "found", "end", "pair", "inputs", "turn", "kind", "due"], ⟨1, 17, false, b_law⟩, none, false⟩
def prog : List FnC := [f_0, f_1, f_2, f_3, f_4, f_5, f_6, f_7, f_8, f_9, f_10, f_11, f_12, f_13, f_14, f_15, f_16, f_17, f_18, f_19]
abbrev Pf : List Fn := prog.map FnC.fn
def consts : List (Str × D) := []
def blts : List Str := ["dict", "enumerate", "int", "isinstance", "len", "list", "max", "range", "repr", "str", "tuple"]
def top (i : Nat) : Stmt := PySem.Challenge.pw_strikehall_k55_ends_and_inputs_as_texts.main.body.getD i (.Pass ⟨0, 0, 0, 0⟩)
def excs : List (Str × Bool) := []
def told : List (Str × (Stmt × List Str)) := []
def clss : List Cl := []
abbrev G : Glo := Glo.of consts blts prog excs told clss
def xsub (i j : Nat) : Bool := ([] : List (Nat × List Bool)).any fun p => p.1 == i && p.2.getD j false
abbrev xrl : List Nat := []
abbrev Pc (cl : Nat → Nat) (k : Nat) : Fs := callX (xFs xrl xsub cl) Pf k
theorem pc_run {cl : Nat → Nat} {k f : Nat} {fn : Fn} (h : Pf[f]? = some fn) (args : List D) (m : Mem) : Pc cl (k + 1) f args m = runFn (Pc cl k) fn args m := call_run h args m
abbrev tb0 : List T := []
theorem chk_0 : chkFn G f_0 (top 1) = true := by decide +kernel
theorem chk_1 : chkFn G f_1 (top 2) = true := by decide +kernel
theorem chk_2 : chkFn G f_2 (top 3) = true := by decide +kernel
theorem chk_3 : chkFn G f_3 (top 5) = true := by decide +kernel
theorem chk_4 : chkFn G f_4 (top 6) = true := by decide +kernel
theorem chk_5 : chkFn G f_5 (top 7) = true := by decide +kernel
theorem chk_6 : chkFn G f_6 (top 8) = true := by decide +kernel
theorem chk_7 : chkFn G f_7 (top 9) = true := by decide +kernel
theorem chk_8 : chkFn G f_8 (top 10) = true := by decide +kernel
theorem chk_9 : chkFn G f_9 (top 11) = true := by decide +kernel
theorem chk_10 : chkFn G f_10 (top 12) = true := by decide +kernel
theorem chk_11 : chkFn G f_11 (top 13) = true := by decide +kernel
theorem chk_12 : chkFn G f_12 (top 14) = true := by decide +kernel
theorem chk_13 : chkFn G f_13 (top 15) = true := by decide +kernel
theorem chk_14 : chkFn G f_14 (top 16) = true := by decide +kernel
theorem chk_15 : chkFn G f_15 (top 18) = true := by decide +kernel
theorem chk_16 : chkFn G f_16 (top 19) = true := by decide +kernel
theorem chk_17 : chkFn G f_17 (top 20) = true := by decide +kernel
theorem chk_18 : chkFn G f_18 (top 21) = true := by decide +kernel
theorem chk_19 : chkFn G f_19 (top 22) = true := by decide +kernel
end
/-! what is drawn -/
def mixed (cell k : Int) : Int := (cell % 2147483647 * (48271 + 2 * k * k) + 69621 * k + 11) % 2147483647 * 69621 % 2147483629
def SMixed (Φ : Fs) : Prop := ∀ (cell k : Int) (m : Mem), 0 ≤ k → k < 1000000 → Φ 4 [.int cell, .int k] m = .ok (false, .int (mixed cell k)) m
theorem bd_mixed (Φ : Fs) (cell k : Int) (m : Mem) (h0 : 0 ≤ k) (h1 : k < 1000000) : runFn Φ f_4.fn [.int cell, .int k] m = .ok (false, .int (mixed cell k)) m := by
  rw [run_eq _ _ rfl]
  have a1 : mulOk 2 k = true := mulOk_l (by decide) (by decide)
  have a2 : mulOk (2 * k) k = true := mulOk_l (by omega) (by omega)
  have a3 : mulOk (cell % 2147483647) (48271 + 2 * k * k) = true := mulOk_l (by omega) (by omega)
  have a4 : mulOk 69621 k = true := mulOk_l (by decide) (by decide)
  have a5 : mulOk ((cell % 2147483647 * (48271 + 2 * k * k) + 69621 * k + 11) % 2147483647) 69621 = true := mulOk_l (by omega) (by omega)
  simp [f_4, b__law_mixed, mul_int, a1, a2, a3, a4, a5, mixed]
theorem mixed_le (cell k : Int) : 0 ≤ mixed cell k ∧ mixed cell k < 2147483629 := by
  unfold mixed
  exact ⟨Int.emod_nonneg _ (by decide), Int.emod_lt_of_pos _ (by decide)⟩
abbrev sLeft : T := [108, 101, 102, 116]
abbrev sSeed : T := [115, 101, 101, 100]
abbrev sAt : T := [97, 116]
def hk (r s a : Int) : List (D × D) := [(.str sLeft, .int r), (.str sSeed, .int s), (.str sAt, .int a)]
theorem get_left (r s a : Int) : getK (hk r s a) (.str sLeft) = some (.int r) := rfl
theorem get_seed (r s a : Int) : getK (hk r s a) (.str sSeed) = some (.int s) := rfl
theorem get_at (r s a : Int) : getK (hk r s a) (.str sAt) = some (.int a) := rfl
theorem put_left (r s a x : Int) : putK (hk r s a) (.str sLeft) (.int x) = hk x s a := rfl
theorem put_at (r s a x : Int) : putK (hk r s a) (.str sAt) (.int x) = hk r s x := rfl
theorem hk_len (r s a : Int) : (hk r s a).length < line := by show 3 < 16777216; decide
structure StAt (m : Mem) (h : Nat) (c : Int) : Prop where
  ex : ∃ r s a, m[h]? = some (.dct false (hk r s a)) ∧ 0 ≤ r ∧ 0 ≤ s ∧ s < 2147483629 ∧ 0 ≤ a ∧ a ≤ c
theorem StAt.mono {m : Mem} {h : Nat} {c c' : Int} (H : StAt m h c) (l : c ≤ c') : StAt m h c' := by
  obtain ⟨r, s, a, h1, h2, h3, h4, h5, h6⟩ := H.ex
  exact ⟨r, s, a, h1, h2, h3, h4, h5, by omega⟩
theorem StAt.lt {m : Mem} {h : Nat} {c : Int} (H : StAt m h c) : h < m.length := by
  obtain ⟨r, s, a, h1, _⟩ := H.ex
  exact (List.getElem?_eq_some_iff.mp h1).1
def SDraw (Φ : Fs) : Prop := ∀ (h : Nat) (many c : Int) (m : Mem), StAt m h c → c < 900000 → 0 < many → many < 1073741824 →
    ∃ d m', Φ 6 [.obj h, .int many] m = .ok (false, .int d) m' ∧ 0 ≤ d ∧ d < many ∧ StAt m' h (c + 1) ∧ But m m' h
theorem bd_draw (Φ : Fs) (M : SMixed Φ) (h : Nat) (many c : Int) (m : Mem) (H : StAt m h c) (hc : c < 900000) (h1 : 0 < many) (h2 : many < 1073741824) :
    ∃ d m', runFn Φ f_6.fn [.obj h, .int many] m = .ok (false, .int d) m' ∧ 0 ≤ d ∧ d < many ∧ StAt m' h (c + 1) ∧ But m m' h := by
  obtain ⟨r, s, a, hm, p1, p2, p3, p4, p5⟩ := H.ex
  rw [run_eq _ _ rfl]
  have hl := hk_len
  have hs : (sto m h (.dct false (hk r s (a + 1))))[h]? = some (.dct false (hk r s (a + 1))) := sto_same hm
  by_cases hr : 0 < r
  · refine ⟨r % many, sto (sto m h (.dct false (hk r s (a + 1)))) h (.dct false (hk (r / many) s (a + 1))), ?_, Int.emod_nonneg _ (by omega), Int.emod_lt_of_pos _ h1, ⟨r / many, s, a + 1, sto_same hs, Int.ediv_nonneg p1 (by omega), p2, p3, by omega, by omega⟩, ⟨by rw [sto_len, sto_len], fun j e => by rw [sto_ne e, sto_ne e]⟩⟩
    simp [f_6, b__law_draw, hm, hs, get_left, get_at, put_left, put_at, hr, h1, h2, hl]
  · have e1 := M s (a + 1) (sto m h (.dct false (hk r s (a + 1)))) (by omega) (by omega)
    have e2 := M (mixed s (a + 1)) (40 + (a + 1)) (sto m h (.dct false (hk r s (a + 1)))) (by omega) (by omega)
    have e3 := M (mixed (mixed s (a + 1)) (40 + (a + 1))) (7 + (a + 1)) (sto m h (.dct false (hk r s (a + 1)))) (by omega) (by omega)
    have b := mixed_le (mixed s (a + 1)) (40 + (a + 1))
    have mo : mulOk (mixed (mixed s (a + 1)) (40 + (a + 1))) 2147483647 = true := mulOk_l (by omega) (by omega)
    refine ⟨(mixed (mixed s (a + 1)) (40 + (a + 1)) * 2147483647 + mixed (mixed (mixed s (a + 1)) (40 + (a + 1))) (7 + (a + 1))) / 64 % many, sto m h (.dct false (hk r s (a + 1))), ?_, Int.emod_nonneg _ (by omega), Int.emod_lt_of_pos _ h1, ⟨r, s, a + 1, hs, p1, p2, p3, by omega, by omega⟩, ⟨sto_len, fun j e => sto_ne e⟩⟩
    simp [f_6, b__law_draw, hm, hs, get_left, get_seed, get_at, put_at, hr, h1, hl, e1, e2, e3, mul_int, mo]
def SCellAt (Φ : Fs) : Prop := ∀ (ns : List Int) (k : Nat) (m : Mem), ∃ c, Φ 3 [.scr ns, .int k] m = .ok (false, .int c) m
theorem bd_cell_at (Φ : Fs) (ns : List Int) (k : Nat) (m : Mem) : ∃ c, runFn Φ f_3.fn [.scr ns, .int k] m = .ok (false, .int c) m := by
  rw [run_eq _ _ rfl]
  by_cases hl : k < ns.length
  · have e : atI ns (k : Int) = some ns[k] := by rw [atI_nat]; exact List.getElem?_eq_getElem hl
    exact ⟨ns[k], by simp [f_3, b__law_cell_at, hl, e]⟩
  · exact ⟨0, by simp [f_3, b__law_cell_at, hl]⟩
theorem p18' : ∃ B : Int, Bop.run .pow (.int 10) (.int 18) = some (.int B) ∧ 0 ≤ B := ⟨1000000000000000000, by rw [pow_int, if_pos (by decide +kernel)]; rfl, by decide⟩
theorem mk_hk (a b c : Int) : mergeK [] [(.str sLeft, .int a), (.str sSeed, .int b), (.str sAt, .int c)] = hk a b c := rfl
def SState (Φ : Fs) : Prop := ∀ (ns : List Int) (k : Nat) (m : Mem), k < 1000 → ∃ m', Φ 5 [.scr ns, .int k] m = .ok (false, .obj m.length) m' ∧ StAt m' m.length 0 ∧ m'.length = m.length + 1 ∧ ∀ j, j < m.length → m'[j]? = m[j]?
theorem bd_state (Φ : Fs) (M : SMixed Φ) (C : SCellAt Φ) (ns : List Int) (k : Nat) (m : Mem) (hk' : k < 1000) : ∃ m', runFn Φ f_5.fn [.scr ns, .int k] m = .ok (false, .obj m.length) m' ∧ StAt m' m.length 0 ∧ m'.length = m.length + 1 ∧ ∀ j, j < m.length → m'[j]? = m[j]? := by
  obtain ⟨B, hB, hB0⟩ := p18'
  obtain ⟨cell, ce⟩ := C ns k m
  have key := M cell k m (by omega) (by omega)
  have fin : ∀ r s : Int, 0 ≤ r → 0 ≤ s → s < 2147483629 → StAt (m ++ [.dct false (hk r s 0)]) m.length 0 ∧ (m ++ [D.dct false (hk r s 0)]).length = m.length + 1 ∧ ∀ j, j < m.length → (m ++ [D.dct false (hk r s 0)])[j]? = m[j]? := fun r s h1 h2 h3 =>
    ⟨⟨r, s, 0, by rw [List.getElem?_append_right (Nat.le_refl _), Nat.sub_self]; rfl, h1, h2, h3, Int.le_refl _, Int.le_refl _⟩, by rw [List.length_append]; rfl, fun j hj => List.getElem?_append_left hj⟩
  rw [run_eq _ _ rfl]
  by_cases hb : B ≤ cell
  · refine ⟨m ++ [.dct false (hk cell (mixed cell k) 0)], ?_, fin _ _ (by omega) (mixed_le _ _).1 (mixed_le _ _).2⟩
    simp [f_5, b__law_state, ce, key, hb, mk_hk, hB, -pow_int]
  · refine ⟨m ++ [.dct false (hk 0 (mixed cell k) 0)], ?_, fin _ _ (by omega) (mixed_le _ _).1 (mixed_le _ _).2⟩
    simp [f_5, b__law_state, ce, key, hb, mk_hk, hB, -pow_int]

/-! names -/
def small : T := [97, 98, 99, 100, 101, 102, 103, 104, 105, 106, 107, 108, 109, 110, 111, 112, 113, 114, 115, 116, 117, 118, 119, 120, 121, 122]
def barred : List T := [[102, 110], [108, 101, 116], [105, 102], [101, 108, 115, 101], [103, 105, 118, 101], [98, 101], [115, 117, 109], [108, 111, 110, 103], [112, 97, 114, 116], [119, 105, 116, 104], [99, 117, 116], [99, 97, 108, 108], [109, 117, 115, 116], [110, 117, 109, 98, 101, 114], [114, 111, 119], [111, 117, 116], [103, 105, 118, 101, 110]]
def isName (t : T) : Bool := decide (1 ≤ t.length) && decide (t.length ≤ 6) && !decide (t ∈ barred) && t.all fun c => decide (c ∈ small)
theorem name_len {t : T} (h : isName t = true) : 1 ≤ t.length ∧ t.length ≤ 6 := by
  unfold isName at h
  simp only [Bool.and_eq_true, decide_eq_true_eq] at h
  exact ⟨h.1.1.1, h.1.1.2⟩
theorem name_small {t : T} (h : isName t = true) : ∀ c ∈ t, c ∈ small := by
  unfold isName at h
  simp only [Bool.and_eq_true, List.all_eq_true, decide_eq_true_eq] at h
  exact h.2
theorem name_of {cs : T} (h : ∀ c ∈ cs, c ∈ small) (h1 : 1 ≤ cs.length) (h2 : cs.length ≤ 6) (h3 : cs ∉ barred) : isName cs = true := by
  unfold isName
  simp only [Bool.and_eq_true, List.all_eq_true, decide_eq_true_eq, Bool.not_eq_true', decide_eq_false_iff_not]
  exact ⟨⟨⟨h1, h2⟩, h3⟩, h⟩
theorem letter_at {i : Int} (h1 : 0 ≤ i) (h2 : i < 26) : ∃ c, atI small i = some c ∧ c ∈ small := atI_in (by omega) (by show i < 26; exact h2)
theorem split_barred : Sm.run .split [102, 110, 32, 108, 101, 116, 32, 105, 102, 32, 101, 108, 115, 101, 32, 103, 105, 118, 101, 32, 98, 101, 32, 115, 117, 109, 32, 108, 111, 110, 103, 32, 112, 97, 114, 116, 32, 119, 105, 116, 104, 32, 99, 117, 116, 32, 99, 97, 108, 108, 32, 109, 117, 115, 116, 32, 110, 117, 109, 98, 101, 114, 32, 114, 111, 119, 32, 111, 117, 116, 32, 103, 105, 118, 101, 110] [.str [32]] = some (.lst (barred.map .str)) := split_is (by decide) (by decide) (by decide +kernel) (by decide +kernel)
theorem small_okc : ∀ c ∈ small, c < 1114112 := by decide +kernel
theorem name_okT {t : T} (h : isName t = true) : okT t = true := okT_iff.mpr ⟨fun c hc => small_okc c (name_small h c hc), Nat.le_trans (name_len h).2 (by decide)⟩

/-! what is drawn from a list; rows of unlike names -/
def SOf (Φ : Fs) : Prop := ∀ (h : Nat) (c : Int) (m : Mem) (xs : List D), StAt m h c → c < 900000 → 0 < xs.length → xs.length < 1073741824 → ∃ x m', Φ 7 [.obj h, .lst xs] m = .ok (false, x) m' ∧ x ∈ xs ∧ StAt m' h (c + 1) ∧ But m m' h
theorem bd_of (Φ : Fs) (R : SDraw Φ) (h : Nat) (c : Int) (m : Mem) (xs : List D) (H : StAt m h c) (hc : c < 900000) (h1 : 0 < xs.length) (h2 : xs.length < 1073741824) : ∃ x m', runFn Φ f_7.fn [.obj h, .lst xs] m = .ok (false, x) m' ∧ x ∈ xs ∧ StAt m' h (c + 1) ∧ But m m' h := by
  obtain ⟨d, m1, e1, d0, d1, H1, b1⟩ := R h xs.length c m H hc (by omega) (by omega)
  obtain ⟨x, hx, hm⟩ := atI_in (xs := xs) (i := d) (by omega) d1
  refine ⟨x, m1, ?_, hm, H1, b1⟩
  rw [run_eq _ _ rfl]
  simp [f_7, b__law_of, e1, hx]
theorem nodup_le {α : Type} [BEq α] [LawfulBEq α] : ∀ {l V : List α}, l.Nodup → (∀ x ∈ l, x ∈ V) → l.length ≤ V.length
  | [], _, _, _ => Nat.zero_le _
  | x :: l, V, hn, hs => by
    rw [List.nodup_cons] at hn
    have hx := hs x List.mem_cons_self
    have h := nodup_le (V := V.erase x) hn.2 fun y hy => by
      have hne : y ≠ x := fun e => hn.1 (e ▸ hy)
      exact (List.mem_erase_of_ne hne).mpr (hs y (List.mem_cons_of_mem _ hy))
    have hl := List.length_erase_of_mem hx
    have := List.length_pos_of_mem hx
    rw [List.length_cons]; omega
theorem small_at : ∀ i : Nat, i < 26 → atI small (i : Int) = some (97 + i) := by
  have : ∀ i : Fin 26, atI small ((i.1 : Nat) : Int) = some (97 + i.1) := by decide +kernel
  exact fun i hi => this ⟨i, hi⟩
def idxOk (i : Nat) : Bool := match Sm.run .index small [.str [97 + i]] with
  | some (.int j) => j == (i : Int)
  | _ => false
theorem idx_ok : ∀ i : Fin 26, idxOk i.1 = true := by decide +kernel
theorem small_ix (i : Nat) (hi : i < 26) : Sm.run .index small [.str [97 + i]] = some (.int i) := by
  have h := idx_ok ⟨i, hi⟩
  unfold idxOk at h
  split at h
  · rename_i j e
    rw [e, beq_iff_eq.mp h]
  · cases h
theorem small_is : ∀ c ∈ small, ∃ i, i < 26 ∧ c = 97 + i := by
  have : ∀ c ∈ small, 97 ≤ c ∧ c < 123 := by decide +kernel
  exact fun c hc => ⟨c - 97, by have := this c hc; omega, by have := this c hc; omega⟩
theorem small_has : ∀ i, i < 26 → 97 + i ∈ small := by
  have : ∀ i : Fin 26, 97 + i.1 ∈ small := by decide +kernel
  exact fun i hi => this ⟨i, hi⟩
theorem cut_init (t : T) (c : Nat) : cut (t ++ [c]) none (some (-1)) = t := by
  simp only [cut, clip]
  rw [if_pos (by decide)]
  simp only [List.drop_zero, Nat.sub_zero, List.length_append, List.length_singleton]
  rw [List.take_append_of_le_length (by omega), List.take_of_length_le (by omega)]
theorem at_last (t : T) (c : Nat) : atI (t ++ [c]) (-1) = some c := by
  unfold atI ixN
  rw [if_neg (by decide), if_pos (by rw [List.length_append, List.length_singleton]; omega)]
  have : (-1 + ((t ++ [c]).length : Int)).toNat = t.length := by rw [List.length_append, List.length_singleton]; omega
  rw [this]
  simp
theorem barred_tails : (barred.map List.dropLast).Nodup := by decide +kernel
theorem barred_one (p : T) : (barred.filter fun b => decide (b.dropLast = p)).length ≤ 1 := by
  have gen : ∀ bs : List T, (bs.map List.dropLast).Nodup → (bs.filter fun b => decide (b.dropLast = p)).length ≤ 1 := by
    intro bs
    induction bs with
    | nil => intro _; exact Nat.zero_le _
    | cons b bs ih =>
      intro nd
      rw [List.map_cons, List.nodup_cons] at nd
      rw [List.filter_cons]
      by_cases hb : b.dropLast = p
      · rw [if_pos (decide_eq_true hb)]
        have : bs.filter (fun b => decide (b.dropLast = p)) = [] := List.filter_eq_nil_iff.mpr fun x hx e => nd.1 (List.mem_map.mpr ⟨x, hx, by rw [of_decide_eq_true e, hb]⟩)
        rw [this]; exact Nat.le_refl _
      · rw [if_neg (by simpa using hb)]
        exact ih nd.2
  exact gen _ barred_tails
/-- one of the letters ends a free name -/
theorem free_end (ts : List T) (p : T) (i0 : Nat) (hl : ts.length ≤ 24) : ∃ j, j < 26 ∧ p ++ [97 + (i0 + j) % 26] ∉ ts ++ barred := by
  refine Classical.byContradiction fun hn => ?_
  have all : ∀ j, j < 26 → p ++ [97 + (i0 + j) % 26] ∈ ts ++ barred := fun j hj => Classical.byContradiction fun z => hn ⟨j, hj, z⟩
  let L := (List.range 26).map fun j => p ++ [97 + (i0 + j) % 26]
  have nd : L.Nodup := by
    refine List.Pairwise.map _ (R := fun a b => a ≠ b ∧ a < 26 ∧ b < 26) (fun a b h e => ?_) ?_
    · have := List.append_cancel_left e
      simp only [List.cons.injEq, and_true] at this
      omega
    · exact (List.nodup_range (n := 26)).imp_of_mem fun ha hb q => ⟨q, List.mem_range.mp ha, List.mem_range.mp hb⟩
  have sub : ∀ x ∈ L, x ∈ ts ++ barred.filter fun b => decide (b.dropLast = p) := fun x hx => by
    obtain ⟨j, hj, rfl⟩ := List.mem_map.mp hx
    rcases List.mem_append.mp (all j (List.mem_range.mp hj)) with q | q
    · exact List.mem_append_left _ q
    · exact List.mem_append_right _ (List.mem_filter.mpr ⟨q, decide_eq_true (by simp)⟩)
  have le := nodup_le nd sub
  have b1 := barred_one p
  have e : L.length = 26 := by simp [L]
  rw [List.length_append] at le
  omega
structure Names (ts : List T) : Prop where
  nd : ts.Nodup
  nm : ∀ t ∈ ts, isName t = true
theorem Names.snoc {ts : List T} {t : T} (h : Names ts) (h1 : isName t = true) (h2 : t ∉ ts) : Names (ts ++ [t]) := by
  refine ⟨?_, fun x hx => ?_⟩
  · rw [List.nodup_append]
    refine ⟨h.nd, by simp, fun x hx y hy => ?_⟩
    have : y = t := by simpa using hy
    subst this
    intro e; subst e; exact h2 hx
  · rcases List.mem_append.mp hx with q | q
    · exact h.nm x q
    · have : x = t := by simpa using q
      rw [this]; exact h1
theorem names_test (Φ : Fs) (ts : List T) (t : T) (e : Env) (m : Mem) (hl : ts.length ≤ 24) (g3 : gt e 3 = .val (.lst (barred.map .str))) (g4 : gt e 4 = .own (.lst (ts.map .str))) (g6 : gt e 6 = .val (.str t)) :
    evE Φ t__law_names_1 e m = .ok (.bl (decide (t ∈ ts ++ barred))) m := by
  have ib := in_strs t (ts ++ barred)
  rw [List.map_append] at ib
  have ll : ts.length + barred.length ≤ line := by have : barred.length = 17 := rfl; have : line = 16777216 := rfl; omega
  generalize barred = bs at *
  simp [t__law_names_1, g3, g4, g6, ib, ll]
theorem names_step (Φ : Fs) (p : T) (i : Nat) (hi : i < 26) (hp : p.length ≤ 5) (e : Env) (m : Mem) (le : e.length = 8) (g2 : gt e 2 = .val (.str small)) (g6 : gt e 6 = .val (.str (p ++ [97 + i]))) :
    exSs Φ l__law_names_2 e m = .nx (st e 6 (.val (.str (p ++ [97 + (i + 1) % 26])))) m := by
  have a1 := cut_init p (97 + i)
  have a2 := at_last p (97 + i)
  have a3 := small_ix i hi
  have a4 : atI small (((i : Nat) : Int) + 1) = atI small (((i : Nat) : Int) + 1) := rfl
  have a5 := small_at ((i + 1) % 26) (Nat.mod_lt _ (by decide))
  have a6 : ((((i + 1) % 26 : Nat)) : Int) = ((i : Int) + 1) % 26 := by omega
  rw [a6] at a5
  have ll : p.length + 1 ≤ line := by have : line = 16777216 := rfl; omega
  generalize (i + 1) % 26 = k at *
  generalize p ++ [97 + i] = t at *
  generalize small = sm at *
  simp [l__law_names_2, g2, g6, a1, a2, a3, a5, ll]
theorem names_turn (Φ : Fs) (R : SDraw Φ) (h : Nat) (c : Int) (m : Mem) (H : StAt m h c) (hc : c < 800000) (ts : List T) (hl : ts.length ≤ 24) (e : Env) (le : e.length = 8) (g0 : gt e 0 = .val (.obj h)) (g2 : gt e 2 = .val (.str small)) (g3 : gt e 3 = .val (.lst (barred.map .str))) (g4 : gt e 4 = .own (.lst (ts.map .str))) (n6 : (gt e 6).isOwn = false) (n7 : (gt e 7).isOwn = false) :
    ∃ e2 m2 t, exSs Φ l__law_names_3 e m = .nx e2 m2 ∧ gt e2 4 = .own (.lst ((ts ++ [t]).map .str)) ∧ t ∉ ts ∧ isName t = true ∧ StAt m2 h (c + 7) ∧ But m m2 h := by
  obtain ⟨k, m1, e1, k0, k1, H1, b1⟩ := R h 6 c m H (by omega) (by decide) (by decide)
  obtain ⟨n, hn⟩ := Int.eq_ofNat_of_zero_le (show 0 ≤ 1 + k by omega)
  have nn : (1 + k).toNat = n := by rw [hn]; rfl
  have rg : rngOk (1 + k) = true := by unfold rngOk; exact decide_eq_true ⟨by omega, by omega⟩
  obtain ⟨ys, m3, h3, q3, hy, hp⟩ := compL_ex (env := wipeE e [7]) (g := .nm 7) (elt := fun e m => evE Φ c__law_names_0 e m) (tst := fun e m => .ok (.bl true) m)
    (fun i m' => i ≤ n → StAt m' h (c + 1 + i) ∧ But m1 m' h) (fun _ y => ∃ c, c ∈ small ∧ y = .str [c]) (rngL 0 n) 0 m1 (fun _ => ⟨H1.mono (by omega), .refl _ _⟩) (fun j d m' hj q => by
      rw [rngL_map, List.getElem?_map] at hj
      obtain ⟨i, hi, rfl⟩ := Option.map_eq_some_iff.mp hj
      have hjn : j < n := by have := (List.getElem?_eq_some_iff.mp hi).1; simpa using this
      obtain ⟨Hj, bj⟩ := q (by omega)
      obtain ⟨x, m4, e4, x0, x1, H4, b4⟩ := R h 26 _ m' Hj (by omega) (by decide) (by decide)
      obtain ⟨ch, s1, s2⟩ := letter_at x0 x1
      refine ⟨st (wipeE e [7]) 7 (.val (.int (0 + (i : Int)))), .str [ch], m4, by rw [bindG_nm]; simp [wipeE_one, gt_st, st_length, le], rfl, ?_, ⟨ch, s2, rfl⟩, fun _ => ⟨H4.mono (by omega), bj.trans b4⟩⟩
      simp [c__law_names_0, wipeE_one, gt_st, st_length, le, g0, g2, e4, s1])
  rw [rngL_len, Nat.zero_add] at q3
  obtain ⟨H3, b3⟩ := q3 (Nat.le_refl _)
  obtain ⟨cs, rfl, hcs⟩ := chars_of (ys := ys) (p := fun c => c ∈ small) fun y hy => by
    obtain ⟨j, hj⟩ := List.getElem?_of_mem hy
    exact hp j y hj
  rw [rngL_len, List.length_map] at hy
  have jn := joinX_chars cs (by omega)
  have rl : (rngL 0 n).length ≤ line := by rw [rngL_len]; have : line = 16777216 := rfl; omega
  have no := noOwn_one n7
  -- the last sign
  have cne : cs ≠ [] := fun z => by subst z; simp at hy; omega
  obtain ⟨p, x, rfl⟩ : ∃ p x, cs = p ++ [x] := ⟨cs.dropLast, cs.getLast cne, (List.dropLast_concat_getLast cne).symm⟩
  obtain ⟨i0, hi0, rfl⟩ := small_is x (hcs x (by simp))
  rw [List.length_append, List.length_singleton] at hy
  have hp5 : p.length ≤ 5 := by omega
  obtain ⟨jf, jf1, jf2⟩ := free_end ts p i0 hl
  let E1 : Env := st e 6 (.val (.str (p ++ [97 + i0])))
  obtain ⟨j, e5, m5, e6, m6, w1, ⟨w2, w3, w4⟩, w5, w6, we, w7⟩ := wh_inv (Φ := Φ) (t := t__law_names_1) (b := l__law_names_2) [6] [] (fun j e' m' => m' = m3 ∧ gt e' 6 = .val (.str (p ++ [97 + (i0 + j) % 26])) ∧ ∀ i, i < j → p ++ [97 + (i0 + i) % 26] ∈ ts ++ barred) 26 (env := E1) (m := m3) (by decide) (by decide) (by decide)
    ⟨rfl, by simp [E1, gt_st, le, Nat.mod_eq_of_lt hi0], fun i hi => absurd hi (Nat.not_lt_zero _)⟩ fun j e' m' hj fr ⟨r1, r2, r3⟩ => by
      subst r1
      have l' : e'.length = 8 := fr.len.trans (by simp [E1, st_length, le])
      have k2 : gt e' 2 = .val (.str small) := (fr.keep 2 (by decide)).trans (by simp [E1, gt_st, g2])
      have k3 : gt e' 3 = .val (.lst (barred.map .str)) := (fr.keep 3 (by decide)).trans (by simp [E1, gt_st, g3])
      have k4 : gt e' 4 = .own (.lst (ts.map .str)) := (fr.keep 4 (by decide)).trans (by simp [E1, gt_st, g4])
      have te := names_test Φ ts _ e' m' hl k3 k4 r2
      by_cases hin : p ++ [97 + (i0 + j) % 26] ∈ ts ++ barred
      · rw [decide_eq_true hin] at te
        have hj26 : j < 26 := by
          rcases Nat.lt_or_ge j 26 with z | z
          · exact z
          · exact absurd (r3 jf (by omega)) jf2
        have sp := names_step Φ p ((i0 + j) % 26) (Nat.mod_lt _ (by decide)) hp5 e' m' l' k2 r2
        refine .inr ⟨hj26, m', _, m', te, .inl sp, rfl, ?_, fun i hi => ?_⟩
        · rw [show ((i0 + j) % 26 + 1) % 26 = (i0 + (j + 1)) % 26 by omega]
          simp [gt_st, l']
        · rcases Nat.lt_succ_iff_lt_or_eq.mp hi with z | z
          · exact r3 i z
          · rw [z]; exact hin
      · rw [decide_eq_false hin] at te
        exact .inl ⟨_, te⟩
  rw [we] at w7
  clear we
  subst w2
  have l5 : e5.length = 8 := w5.len.trans (by simp [E1, st_length, le])
  have k3 : gt e5 3 = .val (.lst (barred.map .str)) := (w5.keep 3 (by decide)).trans (by simp [E1, gt_st, g3])
  have k4 : gt e5 4 = .own (.lst (ts.map .str)) := (w5.keep 4 (by decide)).trans (by simp [E1, gt_st, g4])
  have te := names_test Φ ts _ e5 m5 hl k3 k4 w3
  rw [te] at w6
  have hnot : p ++ [97 + (i0 + j) % 26] ∉ ts ++ barred := fun z => by
    rw [decide_eq_true z] at w6; cases w6
  injection w6 with _ em
  subst em
  have nm : isName (p ++ [97 + (i0 + j) % 26]) = true := by
    refine name_of (fun c hc => ?_) (by simp) (by rw [List.length_append, List.length_singleton]; omega) fun z => hnot (List.mem_append_right _ z)
    rcases List.mem_append.mp hc with q | q
    · exact hcs c (List.mem_append_left _ q)
    · rw [List.mem_singleton.mp q]; exact small_has _ (Nat.mod_lt _ (by decide))
  refine ⟨st e5 4 (.own (.lst ((ts ++ [p ++ [97 + (i0 + j) % 26]]).map .str))), m5, p ++ [97 + (i0 + j) % 26], ?_, by simp [gt_st, l5], fun z => hnot (List.mem_append_left _ z), nm, H3.mono (by omega), b1.trans b3⟩
  have tl : ts.length < line := by have : line = 16777216 := rfl; omega
  have jn' : joinX (.str []) (.lst ((p ++ [97 + i0]).map fun c => .str [c])) = some (.str (p ++ [97 + i0])) := jn
  have st6 : st e 6 (.val (.str (p ++ [97 + i0]))) = E1 := rfl
  generalize p ++ [97 + (i0 + j) % 26] = nn' at *
  generalize p ++ [97 + i0] = n0 at *
  simp [l__law_names_3, g0, e1, rg, nn, no, rl, h3, jn', st6, w7, k4, w3, tl]
def SNames (Φ : Fs) : Prop := ∀ (h : Nat) (c : Int) (m : Mem) (n : Nat), StAt m h c → c < 700000 → n ≤ 20 → ∃ ts m', Φ 8 [.obj h, .int n] m = .ok (false, .lst (ts.map .str)) m' ∧ ts.length = n ∧ Names ts ∧ StAt m' h (c + 7 * n) ∧ But m m' h
def eN (h n : D) (bs : List D) : Env := [.val h, .val n, .val (.str small), .val (.lst bs), .own (.lst []), .no, .no, .no]
theorem names_loop (Φ : Fs) (R : SDraw Φ) (h : Nat) (c : Int) (m : Mem) (n : Nat) (H : StAt m h c) (hc : c < 700000) (hn : n ≤ 20) (E0 : Env) (le : E0.length = 8) (g0 : gt E0 0 = .val (.obj h)) (g2 : gt E0 2 = .val (.str small)) (g3 : gt E0 3 = .val (.lst (barred.map .str))) (g4 : gt E0 4 = .own (.lst [])) (n5 : (gt E0 5).isOwn = false) (n6 : (gt E0 6).isOwn = false) (n7 : (gt E0 7).isOwn = false) :
    ∃ e2 m2 ts, forL (.nm 5) (fun e m => exSs Φ l__law_names_3 e m) (rngL 0 n) E0 m = .nx e2 m2 ∧ gt e2 4 = .own (.lst (ts.map .str)) ∧ e2.length = 8 ∧ ts.length = n ∧ Names ts ∧ StAt m2 h (c + 7 * n) ∧ But m m2 h := by
  obtain ⟨e2, m2, u1, ⟨ts, u2, u3, u4, u5, u6⟩, u7⟩ := fo_inv (Φ := Φ) (g := .nm 5) (b := l__law_names_3) [4, 5, 6, 7] [4] (fun j e' m' => ∃ ts : List T, gt e' 4 = .own (.lst (ts.map .str)) ∧ ts.length = j ∧ Names ts ∧ StAt m' h (c + 7 * j) ∧ But m m' h) (ds := rngL 0 n) (env := E0) (m := m) (by decide) (by decide)
    ⟨[], g4, rfl, ⟨List.nodup_nil, fun _ z => nomatch z⟩, H.mono (by omega), .refl _ _⟩ fun j d e' m' hj fr ⟨ts, q1, q2, q3, q4, q5⟩ => by
      have hjn : j < n := by have := (List.getElem?_eq_some_iff.mp hj).1; rwa [rngL_len] at this
      have l' : e'.length = 8 := fr.len.trans le
      have n5 : (gt e' 5).isOwn = false := fr.no 5 (by decide) n5
      have n6 : (gt e' 6).isOwn = false := fr.no 6 (by decide) n6
      have n7 : (gt e' 7).isOwn = false := fr.no 7 (by decide) n7
      have k0 := (fr.keep 0 (by decide)).trans g0
      have k2 := (fr.keep 2 (by decide)).trans g2
      have k3 := (fr.keep 3 (by decide)).trans g3
      obtain ⟨e3, m3, t, v1, v2, v3, v4, v5, v6⟩ := names_turn Φ R h _ m' q4 (by omega) ts (by omega) (st e' 5 (.val d)) (by rw [st_length, l']) (by simp [gt_st, k0]) (by simp [gt_st, k2]) (by simp [gt_st, k3]) (by simp [gt_st, q1]) (by simp [gt_st, n6]) (by simp [gt_st, n7])
      exact ⟨st e' 5 (.val d), e3, m3, by rw [bindG_nm, n5]; rfl, .inl v1, ts ++ [t], v2, by rw [List.length_append, q2]; rfl, q3.snoc v4 v3, v5.mono (by omega), q5.trans v6⟩
  rw [rngL_len] at u3 u5
  exact ⟨e2, m2, ts, u1, u2, u7.len.trans le, u3, u4, u5, u6⟩
def barS : T := [102, 110, 32, 108, 101, 116, 32, 105, 102, 32, 101, 108, 115, 101, 32, 103, 105, 118, 101, 32, 98, 101, 32, 115, 117, 109, 32, 108, 111, 110, 103, 32, 112, 97, 114, 116, 32, 119, 105, 116, 104, 32, 99, 117, 116, 32, 99, 97, 108, 108, 32, 109, 117, 115, 116, 32, 110, 117, 109, 98, 101, 114, 32, 114, 111, 119, 32, 111, 117, 116, 32, 103, 105, 118, 101, 110]
theorem names_body : b__law_names = .cons (.set 2 (.str small)) (.cons (.set 3 (.sm .split (.str barS) (.cons (.str [32]) .nil))) (.cons (.own 4 (.lst .nil)) (.cons (.fo (.nm 5) (.rg1 (.var 1)) l__law_names_3) (.cons (.frz 4) (.cons (.ret (.var 4)) .nil))))) := rfl
theorem bd_names (Φ : Fs) (R : SDraw Φ) (h : Nat) (c : Int) (m : Mem) (n : Nat) (H : StAt m h c) (hc : c < 700000) (hn : n ≤ 20) : ∃ ts m', runFn Φ f_8.fn [.obj h, .int n] m = .ok (false, .lst (ts.map .str)) m' ∧ ts.length = n ∧ Names ts ∧ StAt m' h (c + 7 * n) ∧ But m m' h := by
  have so : Sm.run .split barS [.str [32]] = some (.lst (barred.map .str)) := split_barred
  have rg : rngOk (n : Int) = true := by unfold rngOk; exact decide_eq_true ⟨by omega, by omega⟩
  obtain ⟨e2, m2, ts, u1, u2, l2, u3, u4, u5, u6⟩ := names_loop Φ R h c m n H hc hn (eN (.obj h) (.int n) (barred.map .str)) rfl rfl rfl rfl rfl rfl rfl rfl
  refine ⟨ts, m2, ?_, u3, u4, u5, u6⟩
  clear u3 u4 u5 u6 H
  generalize barred.map D.str = bs at so u1
  unfold eN at u1
  have hb : f_8.fn = ⟨2, 8, false, b__law_names⟩ := rfl
  rw [hb, run_eq _ _ rfl, names_body]
  generalize small = sm at *
  generalize barS = w at *
  simp [so, rg, u1, u2, l2, isAs, gt_st]

/-! stage G: atoms, what is handed on, what a name is let to be -/

inductive Kd where
  | nb | rw
  deriving DecidableEq
def Kd.t : Kd → T
  | .nb => [110, 117, 109, 98, 101, 114]
  | .rw => [114, 111, 119]
abbrev Ks := List (T × Kd)
def kE (k : Kd) : D := .str k.t
def kD (ks : Ks) : D := .dct false (en D.str kE ks)
structure KOk (ks : Ks) : Prop where
  nd : (keys ks).Nodup
  nm : ∀ p ∈ ks, isName p.1 = true
  len : ks.length ≤ 64
def ofKind (k : Kd) (ks : Ks) : List T := (ks.filter fun p => p.2 == k).map (·.1)
theorem ofKind_mem {k : Kd} {ks : Ks} {x : T} : x ∈ ofKind k ks ↔ (x, k) ∈ ks := by
  unfold ofKind
  rw [List.mem_map]
  constructor
  · rintro ⟨p, h, rfl⟩
    obtain ⟨h1, h2⟩ := List.mem_filter.mp h
    rw [← beq_iff_eq.mp h2]; exact h1
  · exact fun h => ⟨(x, k), List.mem_filter.mpr ⟨h, by simp⟩, rfl⟩
theorem ofKind_len (k : Kd) (ks : Ks) : (ofKind k ks).length ≤ ks.length := by unfold ofKind; rw [List.length_map]; exact List.length_filter_le ..
theorem kd_get {ks : Ks} (h : KOk ks) {p : T × Kd} (hp : p ∈ ks) : getK (en D.str kE ks) (.str p.1) = some (kE p.2) := by
  rw [getK_en tells_str, lk_of_mem h.nd hp]; rfl
theorem kd_nb (k : Kd) : (kE k, D.str [110, 117, 109, 98, 101, 114]) = (kE k, D.str [110, 117, 109, 98, 101, 114]) ∧ (k.t == [110, 117, 109, 98, 101, 114]) = (k == .nb) := ⟨rfl, by cases k <;> decide⟩
theorem kd_rw (k : Kd) : (k.t == [114, 111, 119]) = (k == .rw) := by cases k <;> decide
theorem comp_kind {env : Env} {j : Nat} {tst elt : Env → Mem → R D} (k : Kd) (ks : Ks) (m : Mem) (nj : (gt env j).isOwn = false) (ht : ∀ p ∈ ks, tst (st env j (.val (.str p.1))) m = .ok (.bl (p.2 == k)) m) (he : ∀ p ∈ ks, elt (st env j (.val (.str p.1))) m = .ok (.str p.1) m) :
    compL env (.nm j) tst elt ((en D.str kE ks).map (·.1)) m = .ok ((ofKind k ks).map .str) m := by
  have e : (en D.str kE ks).map (·.1) = ks.map fun p => D.str p.1 := by unfold en; rw [List.map_map]; rfl
  rw [e, compL_pure (fun p : T × Kd => D.str p.1) (fun p => p.2 == k) (fun p => D.str p.1) m ks fun p hp => ⟨_, by rw [bindG_nm, nj]; rfl, ht p hp, fun _ => he p hp⟩]
  unfold ofKind
  rw [List.map_map]; rfl
/-- a small number of an atom -/
inductive At where
  | num (k : Int)
  | at (x : T) (k : Int)
def At.d : At → D
  | .num k => .tup [.str [110, 117, 109], .int k]
  | .at x k => .tup [.str [97, 116], .str x, .int k]
def At.ok (ks : Ks) (q : Int) : At → Prop
  | .num k => -q ≤ k ∧ k ≤ q
  | .at x k => (x, .nb) ∈ ks ∧ -q ≤ k ∧ k ≤ q
inductive Hd where
  | atom (a : At)
  | row (x : T)
def Hd.d : Hd → D
  | .atom a => a.d
  | .row x => .tup [.str [114, 111, 119], .str x]
def Hd.ok (ks : Ks) (q : Int) (k : Kd) : Hd → Prop
  | .atom a => k = .nb ∧ a.ok ks q
  | .row x => k = .rw ∧ (x, .rw) ∈ ks
def hO : Option Hd → D
  | none => .non
  | some h => h.d
def SC (Φ : Fs) : Prop := ∀ (h : Nat) (c : Int) (m : Mem) (q : Int), StAt m h c → c < 800000 → 1 ≤ q → q ≤ 100000 → ∃ k m', Φ 9 [.obj h, .int q] m = .ok (false, .int k) m' ∧ -q ≤ k ∧ k ≤ q ∧ StAt m' h (c + 2) ∧ But m m' h
theorem bd_c (Φ : Fs) (R : SDraw Φ) (h : Nat) (c : Int) (m : Mem) (q : Int) (H : StAt m h c) (hc : c < 800000) (q1 : 1 ≤ q) (q2 : q ≤ 100000) : ∃ k m', runFn Φ f_9.fn [.obj h, .int q] m = .ok (false, .int k) m' ∧ -q ≤ k ∧ k ≤ q ∧ StAt m' h (c + 2) ∧ But m m' h := by
  obtain ⟨d, m1, e1, d0, d1, H1, b1⟩ := R h (2 * q + 1) c m H (by omega) (by omega) (by omega)
  obtain ⟨i, m2, e2, i0, i1, H2, b2⟩ := R h 6 _ m1 H1 (by omega) (by decide) (by decide)
  obtain ⟨x, hx, hm⟩ := atI_in (xs := [D.int 0, .int 0, .int 0, .int 1, .int (-1), .int (d - q)]) (i := i) (by omega) (by exact i1)
  have mo : mulOk 2 q = true := mulOk_l (by decide) (by decide)
  have : ∃ k, x = .int k ∧ -q ≤ k ∧ k ≤ q := by
    simp only [List.mem_cons, List.not_mem_nil, or_false] at hm
    rcases hm with rfl | rfl | rfl | rfl | rfl | rfl
    · exact ⟨_, rfl, by omega, by omega⟩
    · exact ⟨_, rfl, by omega, by omega⟩
    · exact ⟨_, rfl, by omega, by omega⟩
    · exact ⟨_, rfl, by omega, by omega⟩
    · exact ⟨_, rfl, by omega, by omega⟩
    · exact ⟨_, rfl, by omega, by omega⟩
  obtain ⟨k, rfl, k1, k2⟩ := this
  refine ⟨k, m2, ?_, k1, k2, H2.mono (by omega), b1.trans b2⟩
  rw [run_eq _ _ rfl]
  simp [f_9, b__law_c, e1, e2, mul_int, mo, hx]
def SAtom (Φ : Fs) : Prop := ∀ (h : Nat) (c : Int) (m : Mem) (q : Int) (ks : Ks), StAt m h c → c < 700000 → 1 ≤ q → q ≤ 100000 → KOk ks → ∃ a m', Φ 10 [.obj h, kD ks, .int q] m = .ok (false, At.d a) m' ∧ a.ok ks q ∧ StAt m' h (c + 4) ∧ But m m' h
theorem bd_atom (Φ : Fs) (R : SDraw Φ) (O : SOf Φ) (C : SC Φ) (h : Nat) (c : Int) (m : Mem) (q : Int) (ks : Ks) (H : StAt m h c) (hc : c < 700000) (q1 : 1 ≤ q) (q2 : q ≤ 100000) (hk : KOk ks) : ∃ a m', runFn Φ f_10.fn [.obj h, kD ks, .int q] m = .ok (false, At.d a) m' ∧ a.ok ks q ∧ StAt m' h (c + 4) ∧ But m m' h := by
  have cm := comp_kind (env := [.val (.obj h), .val (kD ks), .val (.int q), .no, .no]) (j := 4) (tst := fun e m => evE Φ t__law_atom_0 e m) (elt := fun e m => evE Φ c__law_atom_1 e m) .nb ks m rfl
    (fun p hp => by
      have g : getK (en D.str kE ks) (.str p.1) = some (.str p.2.t) := kd_get hk hp
      have := (kd_nb p.2).2
      simp [t__law_atom_0, kD, g, this]) (fun p hp => by simp [c__law_atom_1])
  have len := hk.len
  have fl := ofKind_len .nb ks
  have kl : (en D.str kE ks).length ≤ line := by rw [en_len]; have : line = 16777216 := rfl; omega
  simp only [kD] at cm ⊢
  have fin : ∀ (m1 : Mem) (c1 : Int), StAt m1 h c1 → c1 ≤ c + 1 → But m m1 h → ∃ k m', Φ 9 [.obj h, .int q] m1 = .ok (false, .int k) m' ∧ (At.num k).ok ks q ∧ StAt m' h (c + 4) ∧ But m m' h := fun m1 c1 H1 hc1 b1 => by
    obtain ⟨k, m2, e2, k1, k2, H2, b2⟩ := C h c1 m1 q H1 (by omega) q1 q2
    exact ⟨k, m2, e2, ⟨k1, k2⟩, H2.mono (by omega), b1.trans b2⟩
  rw [run_eq _ _ rfl]
  cases hn : ofKind .nb ks with
  | nil =>
    obtain ⟨k, m2, e2, k1, H2, b2⟩ := fin m c H (by omega) (.refl _ _)
    refine ⟨.num k, m2, ?_, k1, H2, b2⟩
    rw [hn] at cm
    simp [f_10, b__law_atom, noOwn, wipeE, kl, cm, eq_none, e2, At.d]
  | cons x xs =>
    rw [hn] at cm fl
    obtain ⟨d, m1, e1, d0, d1, H1, b1⟩ := R h 3 c m H (by omega) (by decide) (by decide)
    by_cases hd : d = 0
    · obtain ⟨k, m2, e2, k1, H2, b2⟩ := fin m1 _ H1 (by omega) b1
      refine ⟨.num k, m2, ?_, k1, H2, b2⟩
      simp [f_10, b__law_atom, noOwn, wipeE, kl, cm, eq_none, ne_none, e1, hd, e2, At.d]
    · obtain ⟨y, m2, e2, hy, H2, b2⟩ := O h _ m1 ((x :: xs).map .str) H1 (by omega) (by simp) (by rw [List.length_map]; omega)
      obtain ⟨z, hz, rfl⟩ := List.mem_map.mp hy
      rw [List.map_cons] at e2
      obtain ⟨k, m3, e3, k1, k2, H3, b3⟩ := C h _ m2 q H2 (by omega) q1 q2
      have hd' : (d == 0) = false := by simpa using hd
      refine ⟨.at z k, m3, ?_, ⟨ofKind_mem.mp (by rw [hn]; exact hz), k1, k2⟩, H3.mono (by omega), (b1.trans b2).trans b3⟩
      simp [f_10, b__law_atom, noOwn, wipeE, kl, cm, eq_none, ne_none, e1, hd', e2, e3, At.d]
def SHanded (Φ : Fs) : Prop := ∀ (h : Nat) (c : Int) (m : Mem) (q : Int) (ks : Ks) (k : Kd), StAt m h c → c < 600000 → 1 ≤ q → q ≤ 100000 → KOk ks → ∃ o m', Φ 11 [.obj h, kD ks, kE k, .int q] m = .ok (false, hO o) m' ∧ (∀ v, o = some v → v.ok ks q k) ∧ (o = none → k = .rw ∧ ofKind .rw ks = []) ∧ StAt m' h (c + 4) ∧ But m m' h
theorem bd_handed (Φ : Fs) (O : SOf Φ) (A : SAtom Φ) (h : Nat) (c : Int) (m : Mem) (q : Int) (ks : Ks) (k : Kd) (H : StAt m h c) (hc : c < 600000) (q1 : 1 ≤ q) (q2 : q ≤ 100000) (hk : KOk ks) :
    ∃ o m', runFn Φ f_11.fn [.obj h, kD ks, kE k, .int q] m = .ok (false, hO o) m' ∧ (∀ v, o = some v → v.ok ks q k) ∧ (o = none → k = .rw ∧ ofKind .rw ks = []) ∧ StAt m' h (c + 4) ∧ But m m' h := by
  rw [run_eq _ _ rfl]
  cases k with
  | nb =>
    obtain ⟨a, m1, e1, a1, H1, b1⟩ := A h c m q ks H (by omega) q1 q2 hk
    refine ⟨some (.atom a), m1, ?_, fun v e => by cases e; exact ⟨rfl, a1⟩, (fun z => nomatch z), H1, b1⟩
    simp [f_11, b__law_handed, kE, Kd.t, e1, hO, Hd.d]
  | rw =>
    have cm := comp_kind (env := [.val (.obj h), .val (kD ks), .val (kE .rw), .val (.int q), .no, .no]) (j := 5) (tst := fun e m => evE Φ t__law_handed_0 e m) (elt := fun e m => evE Φ c__law_handed_1 e m) .rw ks m rfl
      (fun p hp => by
        have g : getK (en D.str kE ks) (.str p.1) = some (.str p.2.t) := kd_get hk hp
        have := kd_rw p.2
        simp [t__law_handed_0, kD, g, this]) (fun p hp => by simp [c__law_handed_1])
    have len := hk.len
    have fl := ofKind_len .rw ks
    have kl : (en D.str kE ks).length ≤ line := by rw [en_len]; have : line = 16777216 := rfl; omega
    simp only [kD, kE, Kd.t] at cm ⊢
    cases hn : ofKind .rw ks with
    | nil =>
      rw [hn] at cm
      refine ⟨none, m, ?_, (fun v e => nomatch e), fun _ => by simp, H.mono (by omega), .refl _ _⟩
      simp [f_11, b__law_handed, noOwn, wipeE, kl, cm, eq_none, ne_none, hO]
    | cons x xs =>
      rw [hn] at cm fl
      obtain ⟨y, m2, e2, hy, H2, b2⟩ := O h _ m ((x :: xs).map .str) H (by omega) (by simp) (by rw [List.length_map]; omega)
      obtain ⟨z, hz, rfl⟩ := List.mem_map.mp hy
      rw [List.map_cons] at e2
      refine ⟨some (.row z), m2, ?_, fun v e => by cases e; exact ⟨rfl, ofKind_mem.mp (by rw [hn]; exact hz)⟩, (fun z => nomatch z), H2.mono (by omega), b2⟩
      simp [f_11, b__law_handed, noOwn, wipeE, kl, cm, eq_none, ne_none, e2, hO, Hd.d]

/-! stage G: what a name is let to be -/
inductive Rt where
  | be (a : At)
  | sum (a b : At)
  | long (x : T)
  | part (x : T) (a : At)
  | cut (x : T) (a : At)
  | wth (x : T) (a b : At)
  | call (f : T) (hs : List Hd)
def Rt.d : Rt → D
  | .be a => .tup [.str [98, 101], a.d]
  | .sum a b => .tup [.str [115, 117, 109], a.d, b.d]
  | .long x => .tup [.str [108, 111, 110, 103], .str x]
  | .part x a => .tup [.str [112, 97, 114, 116], .str x, a.d]
  | .cut x a => .tup [.str [99, 117, 116], .str x, a.d]
  | .wth x a b => .tup [.str [119, 105, 116, 104], .str x, a.d, b.d]
  | .call f hs => .tup [.str [99, 97, 108, 108], .str f, .tup (hs.map Hd.d)]
/-- a function's head -/
structure Sg where
  name : T
  ps : Ks
  out : Kd
def psD (ps : Ks) : D := .tup (ps.map fun p => .tup [.str p.1, kE p.2])
def Sg.d (s : Sg) : D := .tup [.str s.name, psD s.ps, kE s.out]
inductive Args (ks : Ks) (q : Int) : List Hd → Ks → Prop where
  | nil : Args ks q [] []
  | cons {h : Hd} {hs : List Hd} {p : T × Kd} {ps : Ks} : h.ok ks q p.2 → Args ks q hs ps → Args ks q (h :: hs) (p :: ps)
def Rt.ok (ks : Ks) (sg : List Sg) (q : Int) (k : Kd) : Rt → Prop
  | .be a => k = .nb ∧ a.ok ks q
  | .sum a b => k = .nb ∧ a.ok ks q ∧ b.ok ks q
  | .long x => k = .nb ∧ (x, .rw) ∈ ks
  | .part x a => k = .nb ∧ (x, .rw) ∈ ks ∧ a.ok ks q
  | .cut x a => k = .rw ∧ (x, .rw) ∈ ks ∧ a.ok ks q
  | .wth x a b => k = .rw ∧ (x, .rw) ∈ ks ∧ a.ok ks q ∧ b.ok ks q
  | .call f hs => ∃ s, s ∈ sg.drop 1 ∧ s.name = f ∧ s.out = k ∧ Args ks q hs s.ps
def mD (h : Nat) (q : Int) (sg : List Sg) (out : Kd) (hf : Nat) : D := .dct false [(.str [100, 114, 97, 119, 115], .obj h), (.str [109, 111, 115, 116], .int q), (.str [115, 105, 103, 110, 115], .lst (sg.map Sg.d)), (.str [111, 117, 116], kE out), (.str [102, 114, 101, 101], .obj hf)]
theorem md_draws {h : Nat} {q : Int} {sg o : D} {hf : Nat} : getK [(.str [100, 114, 97, 119, 115], .obj h), (.str [109, 111, 115, 116], .int q), (.str [115, 105, 103, 110, 115], sg), (.str [111, 117, 116], o), (.str [102, 114, 101, 101], .obj hf)] (.str [100, 114, 97, 119, 115]) = some (.obj h) := rfl
theorem md_most {h : Nat} {q : Int} {sg o : D} {hf : Nat} : getK [(.str [100, 114, 97, 119, 115], .obj h), (.str [109, 111, 115, 116], .int q), (.str [115, 105, 103, 110, 115], sg), (.str [111, 117, 116], o), (.str [102, 114, 101, 101], .obj hf)] (.str [109, 111, 115, 116]) = some (.int q) := rfl
theorem md_signs {h : Nat} {q : Int} {sg o : D} {hf : Nat} : getK [(.str [100, 114, 97, 119, 115], .obj h), (.str [109, 111, 115, 116], .int q), (.str [115, 105, 103, 110, 115], sg), (.str [111, 117, 116], o), (.str [102, 114, 101, 101], .obj hf)] (.str [115, 105, 103, 110, 115]) = some sg := rfl
theorem md_out {h : Nat} {q : Int} {sg o : D} {hf : Nat} : getK [(.str [100, 114, 97, 119, 115], .obj h), (.str [109, 111, 115, 116], .int q), (.str [115, 105, 103, 110, 115], sg), (.str [111, 117, 116], o), (.str [102, 114, 101, 101], .obj hf)] (.str [111, 117, 116]) = some o := rfl
theorem md_free {h : Nat} {q : Int} {sg o : D} {hf : Nat} : getK [(.str [100, 114, 97, 119, 115], .obj h), (.str [109, 111, 115, 116], .int q), (.str [115, 105, 103, 110, 115], sg), (.str [111, 117, 116], o), (.str [102, 114, 101, 101], .obj hf)] (.str [102, 114, 101, 101]) = some (.obj hf) := rfl
theorem hd_pl' (o : Option Hd) : pl deep (hO o) = true := by
  cases o with
  | none => rfl
  | some h => cases h with
    | atom a => cases a <;> rfl
    | row x => rfl
theorem hd_not (h : Hd) : eqD h.d .non = false := by
  cases h with
  | atom a => cases a <;> rfl
  | row x => rfl
theorem none_in (os : List (Option Hd)) : inD .non (.lst (os.map hO)) = some (os.any fun o => o.isNone) := by
  show (if (pl deep .non && pls deep (os.map hO)) = true then some ((os.map hO).any fun z => eqD z .non) else none) = _
  have p : pls deep (os.map hO) = true := pls_all fun x hx => by
    obtain ⟨y, _, rfl⟩ := List.mem_map.mp hx
    exact hd_pl' y
  rw [p, pl_non]
  simp only [Bool.and_self, if_true]
  congr 1
  induction os with
  | nil => rfl
  | cons o os ih =>
    have p' : pls deep (os.map hO) = true := pls_all fun x hx => by
      obtain ⟨y, _, rfl⟩ := List.mem_map.mp hx
      exact hd_pl' y
    rw [List.map_cons, List.any_cons, ih p', List.any_cons]
    cases o with
    | none => rfl
    | some h => simp [hO, hd_not]
theorem args_of {ks : Ks} {q : Int} : ∀ {os : List (Option Hd)} {ps : Ks}, os.length = ps.length → none ∉ os → (∀ (j : Nat) (o : Option Hd) (p : T × Kd), os[j]? = some o → ps[j]? = some p → ∀ v, o = some v → v.ok ks q p.2) → ∃ hs : List Hd, os.map hO = hs.map Hd.d ∧ Args ks q hs ps
  | [], [], _, _, _ => ⟨[], rfl, .nil⟩
  | [], _ :: _, h, _, _ => nomatch h
  | _ :: _, [], h, _, _ => nomatch h
  | none :: os, p :: ps, _, h, _ => absurd List.mem_cons_self h
  | some v :: os, p :: ps, hl, h, hp => by
    obtain ⟨hs, e, a⟩ := args_of (os := os) (ps := ps) (by simpa using hl) (fun z => h (List.mem_cons_of_mem _ z)) fun j o p' h1 h2 => hp (j + 1) o p' (by simpa using h1) (by simpa using h2)
    exact ⟨v :: hs, by rw [List.map_cons, List.map_cons, e]; rfl, .cons (hp 0 _ _ rfl rfl v rfl) a⟩
theorem opts_of {ks : Ks} {q : Int} : ∀ {ys : List D} {ps : Ks}, ys.length = ps.length → (∀ (j : Nat) (y : D), ys[j]? = some y → ∃ o, y = hO o ∧ ∀ p, ps[j]? = some p → ∀ v, o = some v → v.ok ks q p.2) →
    ∃ os : List (Option Hd), ys = os.map hO ∧ os.length = ps.length ∧ ∀ (j : Nat) (o : Option Hd) (p : T × Kd), os[j]? = some o → ps[j]? = some p → ∀ v, o = some v → v.ok ks q p.2
  | [], [], _, _ => ⟨[], rfl, rfl, fun j o p h => by simp at h⟩
  | [], _ :: _, h, _ => nomatch h
  | _ :: _, [], h, _ => nomatch h
  | y :: ys, p :: ps, hl, hh => by
    obtain ⟨os, rfl, h2, h3⟩ := opts_of (ys := ys) (ps := ps) (by simpa using hl) fun j y' hj => by
      obtain ⟨o, a, b⟩ := hh (j + 1) y' (by simpa using hj)
      exact ⟨o, a, fun p' hp' => b p' (by simpa using hp')⟩
    obtain ⟨o, rfl, ho⟩ := hh 0 y rfl
    refine ⟨o :: os, rfl, by simp [h2], fun j o' p' h4 h5 => ?_⟩
    cases j with
    | zero =>
      simp only [List.getElem?_cons_zero, Option.some.injEq] at h4 h5
      subst h4; subst h5
      exact ho _ rfl
    | succ j => exact h3 j o' p' (by simpa using h4) (by simpa using h5)
def SSide (Φ : Fs) : Prop := ∀ (h : Nat) (c : Int) (m : Mem) (q : Int) (ks : Ks) (sg : List Sg) (out : Kd) (hf : Nat), StAt m h c → c < 500000 → 1 ≤ q → q ≤ 100000 → KOk ks → sg.length ≤ 1000 → (∀ s ∈ sg, s.ps.length ≤ 8) →
    ∃ r k m', Φ 12 [mD h q sg out hf, kD ks] m = .ok (false, .tup [Rt.d r, kE k]) m' ∧ r.ok ks sg q k ∧ StAt m' h (c + 60) ∧ But m m' h
theorem at_0 (x : D) (xs : List D) : atI (x :: xs) 0 = some x := by
  unfold atI ixN
  rw [if_pos (by decide), if_pos (by rw [List.length_cons]; omega)]; rfl
theorem at_1 (x y : D) (xs : List D) : atI (x :: y :: xs) 1 = some y := by
  unfold atI ixN
  rw [if_pos (by decide), if_pos (by rw [List.length_cons, List.length_cons]; omega)]; rfl
theorem at_2 (x y z : D) (xs : List D) : atI (x :: y :: z :: xs) 2 = some z := by
  unfold atI ixN
  rw [if_pos (by decide), if_pos (by rw [List.length_cons, List.length_cons, List.length_cons]; omega)]; rfl
theorem at_3 (x y z w : D) (xs : List D) : atI (x :: y :: z :: w :: xs) 3 = some w := by
  unfold atI ixN
  rw [if_pos (by decide), if_pos (by rw [List.length_cons, List.length_cons, List.length_cons, List.length_cons]; omega)]; rfl
def sideRest : Ss := match b__law_side with
  | .cons _ (.cons _ (.cons _ (.cons _ (.cons _ r)))) => r
  | _ => .nil
def twoS : Ss := match sideRest with
  | .cons (.iff _ a _) _ => a
  | _ => .nil
def moreS : Ss := match sideRest with
  | .cons _ r => r
  | _ => .nil
theorem side_rest (Φ : Fs) (O : SOf Φ) (A : SAtom Φ) (h : Nat) (c : Int) (m : Mem) (q : Int) (ks : Ks) (sg : List Sg) (H : StAt m h c) (hc : c < 600000) (q1 : 1 ≤ q) (q2 : q ≤ 100000) (hk : KOk ks) (way : Int) (w0 : 0 ≤ way) (w9 : way < 9)
    (e : Env) (le : e.length = 16) (g1 : gt e 1 = .val (kD ks)) (g2 : gt e 2 = .val (.obj h)) (g3 : gt e 3 = .val (.int q)) (g4 : gt e 4 = .val (.lst ((ofKind .rw ks).map .str))) (g6 : gt e 6 = .val (.int way)) :
    ∃ r k m', exSs Φ sideRest e m = .rt false (.tup [Rt.d r, kE k]) m' ∧ r.ok ks sg q k ∧ StAt m' h (c + 13) ∧ But m m' h := by
  have len := hk.len
  have two : ∃ r k m', exSs Φ twoS e m = .rt false (.tup [Rt.d r, kE k]) m' ∧ r.ok ks sg q k ∧ StAt m' h (c + 13) ∧ But m m' h := by
    obtain ⟨a, m1, e1, a1, H1, b1⟩ := A h c m q ks H (by omega) q1 q2 hk
    obtain ⟨b, m2, e2, a2, H2, b2⟩ := A h _ m1 q ks H1 (by omega) q1 q2 hk
    have hw : way % 2 = 0 ∨ way % 2 = 1 := by omega
    rcases hw with hw | hw
    · refine ⟨.be a, .nb, m2, ?_, ⟨rfl, a1⟩, H2.mono (by omega), b1.trans b2⟩
      simp [twoS, sideRest, b__law_side, g1, g2, g3, g6, e1, e2, stores, gt_st, st_length, le, hw, at_0, Rt.d, kE, Kd.t]
    · refine ⟨.sum a b, .nb, m2, ?_, ⟨rfl, a1, a2⟩, H2.mono (by omega), b1.trans b2⟩
      simp [twoS, sideRest, b__law_side, g1, g2, g3, g6, e1, e2, stores, gt_st, st_length, le, hw, at_1, Rt.d, kE, Kd.t]
  have body : sideRest = .cons (.iff (.or (.cons (.cmp .eq (.ex (.var 4)) (.ex (.fr (.lst .nil)))) (.cons (.cmp .lt (.ex (.var 6)) (.ex (.int 2))) .nil))) twoS .nil) moreS := rfl
  have more : ∀ x xs, ofKind .rw ks = x :: xs → 2 ≤ way → ∃ r k m', exSs Φ moreS e m = .rt false (.tup [Rt.d r, kE k]) m' ∧ r.ok ks sg q k ∧ StAt m' h (c + 13) ∧ But m m' h := fun x xs hx h2 => by
    have fl := ofKind_len .rw ks
    obtain ⟨y, m1, e1, hy, H1, b1⟩ := O h c m ((ofKind .rw ks).map .str) H (by omega) (by rw [hx]; simp) (by rw [List.length_map]; omega)
    obtain ⟨z, hz, rfl⟩ := List.mem_map.mp hy
    have hz := ofKind_mem.mp hz
    obtain ⟨a, m2, e2, a2, H2, b2⟩ := A h _ m1 q ks H1 (by omega) q1 q2 hk
    have hw : way = 2 ∨ way = 3 ∨ way = 4 ∨ 5 ≤ way := by omega
    generalize (ofKind .rw ks).map D.str = rs at *
    rcases hw with rfl | rfl | rfl | hw
    · refine ⟨.long z, .nb, m2, ?_, ⟨rfl, hz⟩, H2.mono (by omega), b1.trans b2⟩
      simp [moreS, sideRest, b__law_side, g1, g2, g3, g4, g6, e1, e2, stores, gt_st, st_length, le, at_0, Rt.d, kE, Kd.t]
    · refine ⟨.part z a, .nb, m2, ?_, ⟨rfl, hz, a2⟩, H2.mono (by omega), b1.trans b2⟩
      simp [moreS, sideRest, b__law_side, g1, g2, g3, g4, g6, e1, e2, stores, gt_st, st_length, le, at_1, Rt.d, kE, Kd.t]
    · refine ⟨.cut z a, .rw, m2, ?_, ⟨rfl, hz, a2⟩, H2.mono (by omega), b1.trans b2⟩
      simp [moreS, sideRest, b__law_side, g1, g2, g3, g4, g6, e1, e2, stores, gt_st, st_length, le, at_2, Rt.d, kE, Kd.t]
    · obtain ⟨b, m3, e3, a3, H3, b3⟩ := A h _ m2 q ks H2 (by omega) q1 q2 hk
      have h5 : ¬ way < 5 := by omega
      refine ⟨.wth z a b, .rw, m3, ?_, ⟨rfl, hz, a2, a3⟩, H3.mono (by omega), (b1.trans b2).trans b3⟩
      simp [moreS, sideRest, b__law_side, g1, g2, g3, g4, g6, e1, e2, e3, h5, stores, gt_st, st_length, le, Rt.d, kE, Kd.t]
  rw [body]
  cases hx : ofKind .rw ks with
  | nil =>
    obtain ⟨r, k, m', u, v⟩ := two
    refine ⟨r, k, m', ?_, v⟩
    rw [hx] at g4
    generalize twoS = X at *
    generalize moreS = Y at *
    simp [g4, eq_none, u]
  | cons x xs =>
    by_cases h2 : way < 2
    · obtain ⟨r, k, m', u, v⟩ := two
      refine ⟨r, k, m', ?_, v⟩
      rw [hx] at g4
      generalize twoS = X at *
      generalize moreS = Y at *
      simp [g4, g6, h2, eq_none, u]
    · obtain ⟨r, k, m', u, v⟩ := more x xs hx (by omega)
      refine ⟨r, k, m', ?_, v⟩
      rw [hx] at g4
      generalize twoS = X at *
      generalize moreS = Y at *
      simp [g4, g6, h2, eq_none, u]
theorem bd_side (Φ : Fs) (R : SDraw Φ) (O : SOf Φ) (A : SAtom Φ) (Hn : SHanded Φ) (h : Nat) (c : Int) (m : Mem) (q : Int) (ks : Ks) (sg : List Sg) (out : Kd) (hf : Nat) (H : StAt m h c) (hc : c < 500000) (q1 : 1 ≤ q) (q2 : q ≤ 100000) (hk : KOk ks) (sl : sg.length ≤ 1000) (sp : ∀ s ∈ sg, s.ps.length ≤ 8) :
    ∃ r k m', runFn Φ f_12.fn [mD h q sg out hf, kD ks] m = .ok (false, .tup [Rt.d r, kE k]) m' ∧ r.ok ks sg q k ∧ StAt m' h (c + 60) ∧ But m m' h := by
  have len := hk.len
  have kl : (en D.str kE ks).length ≤ line := by rw [en_len]; have : line = 16777216 := rfl; omega
  obtain ⟨way, m1, e1, w0, w9, H1, b1⟩ := R h 9 c m H (by omega) (by decide) (by decide)
  have cm := comp_kind (env := [.val (mD h q sg out hf), .val (kD ks), .val (.obj h), .val (.int q), .no, .no, .no, .no, .no, .no, .no, .no, .no, .no, .no, .no]) (j := 5) (tst := fun e m => evE Φ t__law_side_0 e m) (elt := fun e m => evE Φ c__law_side_1 e m) .rw ks m rfl
    (fun p hp => by
      have g : getK (en D.str kE ks) (.str p.1) = some (.str p.2.t) := kd_get hk hp
      have := kd_rw p.2
      simp [t__law_side_0, kD, g, this]) (fun p hp => by simp [c__law_side_1])
  let E1 : Env := [.val (mD h q sg out hf), .val (kD ks), .val (.obj h), .val (.int q), .val (.lst ((ofKind .rw ks).map .str)), .no, .val (.int way), .no, .no, .no, .no, .no, .no, .no, .no, .no]
  let callS : S := match b__law_side with
    | .cons _ (.cons _ (.cons _ (.cons _ (.cons s _)))) => s
    | _ => .pass
  -- the head
  have head : ∀ (o : D) (m' : Mem), exSs Φ (.cons callS sideRest) E1 m1 = .rt false o m' → runFn Φ f_12.fn [mD h q sg out hf, kD ks] m = .ok (false, o) m' := fun o m' hr => by
    have hb : f_12.fn = ⟨2, 16, false, b__law_side⟩ := rfl
    have bs : b__law_side = .cons (.asg (.tp (.cons (.nm 2) (.cons (.nm 3) .nil))) (.tup (.cons (.idx (.ex (.var 0)) (.str [100, 114, 97, 119, 115])) (.cons (.idx (.ex (.var 0)) (.str [109, 111, 115, 116])) .nil)))) (.cons (.own 4 (.compK [5] (.nm 5) 1 (.so t__law_side_0) c__law_side_1)) (.cons (.frz 4) (.cons (.set 6 (.call 6 (.cons (.var 2) (.cons (.int 9) .nil)))) (.cons callS sideRest)))) := rfl
    rw [hb, run_eq _ _ rfl, bs]
    simp only [E1, mD, kD] at hr cm ⊢
    generalize (sg.map Sg.d) = sgd at *
    generalize (ofKind .rw ks).map D.str = rs at *
    generalize kE out = ko at *
    generalize Ss.cons callS sideRest = X at *
    simp [md_draws, md_most, noOwn, wipeE, kl, cm, e1, hr]
  by_cases hcall : 5 < way ∧ 1 < sg.length
  · obtain ⟨j, m2, e2, j0, j1, H2, b2⟩ := R h ((sg.length : Int) - 1) _ m1 H1 (by omega) (by omega) (by omega)
    obtain ⟨n, rfl⟩ := Int.eq_ofNat_of_zero_le j0
    have hn : 1 + n < sg.length := by omega
    have hs : sg[1 + n]? = some sg[1 + n] := List.getElem?_eq_getElem hn
    generalize sg[1 + n] = s at hs
    have hi : atI (sg.map Sg.d) (1 + (n : Int)) = some s.d := by
      rw [atI_map]
      unfold atI ixN
      have tn : (1 + (n : Int)).toNat = 1 + n := by omega
      rw [if_pos (by omega), if_pos (by omega)]
      simp [tn, hs]
    have sm : s ∈ sg.drop 1 := List.mem_of_getElem? (i := n) (by rw [List.getElem?_drop]; exact hs)
    have sps := sp s (List.mem_of_mem_drop sm)
    let E2 : Env := [.val (mD h q sg out hf), .val (kD ks), .val (.obj h), .val (.int q), .val (.lst ((ofKind .rw ks).map .str)), .val (.str s.name), .val (.int way), .val (psD s.ps), .val (kE s.out), .no, .no, .no, .no, .no, .no, .no]
    obtain ⟨ys, m3, h3, q3, hy, hp⟩ := compL_ex (env := E2) (g := .tp (.cons (.nm 10) (.cons (.nm 11) .nil))) (elt := fun e m => evE Φ c__law_side_2 e m) (tst := fun e m => .ok (.bl true) m)
      (fun i m' => i ≤ s.ps.length → StAt m' h (c + 2 + 4 * i) ∧ But m2 m' h) (fun i y => ∃ o, y = hO o ∧ ∀ p, s.ps[i]? = some p → ∀ v, o = some v → v.ok ks q p.2) (s.ps.map fun p => .tup [.str p.1, kE p.2]) 0 m2 (fun _ => ⟨H2.mono (by omega), .refl _ _⟩) (fun j d m' hj qq => by
        rw [List.getElem?_map] at hj
        obtain ⟨p, hpj, rfl⟩ := Option.map_eq_some_iff.mp hj
        have hjn : j < s.ps.length := (List.getElem?_eq_some_iff.mp hpj).1
        obtain ⟨Hj, bj⟩ := qq (by omega)
        obtain ⟨o, m4, e4, o1, o2, H4, b4⟩ := Hn h _ m' q ks p.2 Hj (by omega) q1 q2 hk
        refine ⟨st (st E2 10 (.val (.str p.1))) 11 (.val (kE p.2)), hO o, m4, rfl, rfl, ?_, ⟨o, rfl, fun p' hp' v hv => ?_⟩, fun _ => ⟨H4.mono (by omega), bj.trans b4⟩⟩
        · simp [c__law_side_2, E2, e4]
        · rw [Nat.zero_add, hpj] at hp'
          cases hp'
          exact o1 v hv)
    rw [List.length_map, Nat.zero_add] at q3
    rw [List.length_map] at hy
    obtain ⟨H3, b3⟩ := q3 (Nat.le_refl _)
    obtain ⟨os, rfl, hol, hoo⟩ := opts_of (ks := ks) (q := q) (ys := ys) (ps := s.ps) hy fun j y hj => by
      obtain ⟨o, a, b⟩ := hp j y hj
      exact ⟨o, a, fun p hp' => b p (by rw [Nat.zero_add]; exact hp')⟩
    have ni := none_in os
    have dr : callS = .iff (.and (.cons (.cmp .gt (.ex (.var 6)) (.ex (.int 5))) (.cons (.cmp .gt (.ex (.u1 .len (.ex (.idx (.ex (.var 0)) (.str [115, 105, 103, 110, 115]))))) (.ex (.int 1))) .nil))) (.cons (.asg (.tp (.cons (.nm 5) (.cons (.nm 7) (.cons (.nm 8) .nil)))) (.idx (.ex (.idx (.ex (.var 0)) (.str [115, 105, 103, 110, 115]))) (.bop .add (.ex (.int 1)) (.ex (.call 6 (.cons (.var 2) (.cons (.bop .sub (.ex (.u1 .len (.ex (.idx (.ex (.var 0)) (.str [115, 105, 103, 110, 115]))))) (.ex (.int 1))) .nil))))))) (.cons (.own 9 (.comp [10, 11] (.tp (.cons (.nm 10) (.cons (.nm 11) .nil))) (.it (.ex (.var 7))) .no c__law_side_2)) (.cons (.frz 9) (.cons (.iff (.inn true .non (.ex (.var 9))) (.cons (.ret (.tup (.cons (.tup (.cons (.str [99, 97, 108, 108]) (.cons (.var 5) (.cons (.u1 .tup (.ex (.var 9))) .nil)))) (.cons (.var 8) .nil)))) .nil) .nil) .nil)))) .nil := rfl
    have dsl : (s.ps.map fun p => D.tup [.str p.1, kE p.2]).length ≤ line := by rw [List.length_map]; have : line = 16777216 := rfl; omega
    have w5 : 5 < way := hcall.1
    have l1 : (1 : Int) < sg.length := by have := hcall.2; omega
    cases hno : os.any fun o => o.isNone with
    | true =>
      let E3 : Env := [.val (mD h q sg out hf), .val (kD ks), .val (.obj h), .val (.int q), .val (.lst ((ofKind .rw ks).map .str)), .val (.str s.name), .val (.int way), .val (psD s.ps), .val (kE s.out), .val (.lst (os.map hO)), .no, .no, .no, .no, .no, .no]
      obtain ⟨r, k, m4, u, v, H4, b4⟩ := side_rest Φ O A h _ m3 q ks sg H3 (by omega) q1 q2 hk way w0 w9 E3 rfl rfl rfl rfl rfl rfl
      refine ⟨r, k, m4, head _ _ ?_, v, H4.mono (by omega), ((b1.trans b2).trans b3).trans b4⟩
      rw [hno] at ni
      rw [dr]
      have sd : s.d = .tup [.str s.name, psD s.ps, kE s.out] := rfl
      rw [sd] at hi
      have ip : itemsD (psD s.ps) = some (s.ps.map fun p => .tup [.str p.1, kE p.2]) := rfl
      simp only [E1, E2, E3, mD, kD] at u h3 hi ⊢
      generalize sideRest = X at *
      generalize os.map hO = osd at *
      generalize (ofKind .rw ks).map D.str = rs at *
      generalize (s.ps.map fun p => D.tup [.str p.1, kE p.2]) = pd at *
      generalize kE s.out = kso at *
      generalize psD s.ps = psd at *
      simp [md_signs, w5, l1, hi, e2, noOwn, wipeE, ip, dsl, h3, ni, u]
    | false =>
      have nn : none ∉ os := fun z => by
        have := List.any_eq_false.mp hno none z
        simp at this
      obtain ⟨hs', ehs, ar⟩ := args_of (ks := ks) (q := q) (os := os) (ps := s.ps) hol nn hoo
      refine ⟨.call s.name hs', s.out, m3, head _ _ ?_, ⟨s, sm, rfl, rfl, ar⟩, H3.mono (by omega), (b1.trans b2).trans b3⟩
      rw [hno] at ni
      rw [dr]
      have sd : s.d = .tup [.str s.name, psD s.ps, kE s.out] := rfl
      rw [sd] at hi
      have ip : itemsD (psD s.ps) = some (s.ps.map fun p => .tup [.str p.1, kE p.2]) := rfl
      simp only [E1, E2, mD, kD, Rt.d] at h3 hi ⊢
      rw [← ehs]
      generalize sideRest = X at *
      generalize os.map hO = osd at *
      generalize (ofKind .rw ks).map D.str = rs at *
      generalize (s.ps.map fun p => D.tup [.str p.1, kE p.2]) = pd at *
      generalize kE s.out = kso at *
      generalize psD s.ps = psd at *
      simp [md_signs, w5, l1, hi, e2, noOwn, wipeE, ip, dsl, h3, ni]
  · obtain ⟨r, k, m4, u, v, H4, b4⟩ := side_rest Φ O A h _ m1 q ks sg H1 (by omega) q1 q2 hk way w0 w9 E1 rfl rfl rfl rfl rfl rfl
    refine ⟨r, k, m4, head _ _ ?_, v, H4.mono (by omega), b1.trans b4⟩
    have dr : callS = .iff (.and (.cons (.cmp .gt (.ex (.var 6)) (.ex (.int 5))) (.cons (.cmp .gt (.ex (.u1 .len (.ex (.idx (.ex (.var 0)) (.str [115, 105, 103, 110, 115]))))) (.ex (.int 1))) .nil))) (.cons (.asg (.tp (.cons (.nm 5) (.cons (.nm 7) (.cons (.nm 8) .nil)))) (.idx (.ex (.idx (.ex (.var 0)) (.str [115, 105, 103, 110, 115]))) (.bop .add (.ex (.int 1)) (.ex (.call 6 (.cons (.var 2) (.cons (.bop .sub (.ex (.u1 .len (.ex (.idx (.ex (.var 0)) (.str [115, 105, 103, 110, 115]))))) (.ex (.int 1))) .nil))))))) (.cons (.own 9 (.comp [10, 11] (.tp (.cons (.nm 10) (.cons (.nm 11) .nil))) (.it (.ex (.var 7))) .no c__law_side_2)) (.cons (.frz 9) (.cons (.iff (.inn true .non (.ex (.var 9))) (.cons (.ret (.tup (.cons (.tup (.cons (.str [99, 97, 108, 108]) (.cons (.var 5) (.cons (.u1 .tup (.ex (.var 9))) .nil)))) (.cons (.var 8) .nil)))) .nil) .nil) .nil)))) .nil := rfl
    rw [dr]
    generalize hZ : (Ss.cons (.asg (.tp (.cons (.nm 5) (.cons (.nm 7) (.cons (.nm 8) .nil)))) _) _) = Z
    clear hZ
    simp only [E1, mD, kD] at u ⊢
    generalize sideRest = X at *
    generalize (ofKind .rw ks).map D.str = rs at *
    by_cases w5 : 5 < way
    · have l1 : ¬ (1 : Int) < sg.length := fun z => hcall ⟨w5, by omega⟩
      simp [md_signs, w5, l1, u]
    · simp [md_signs, w5, u]

/-! stage G: bodies -/
inductive Bd where
  | give (h : Hd)
  | lt (x : T) (r : Rt) (b : Bd)
  | must (a b : At) (c : Bd)
  | ite (a b : At) (c e : Bd)
def Bd.d : Bd → D
  | .give h => .tup [.str [103, 105, 118, 101], h.d]
  | .lt x r b => .tup [.str [108, 101, 116], .str x, r.d, b.d]
  | .must a b c => .tup [.str [109, 117, 115, 116], a.d, b.d, c.d]
  | .ite a b c e => .tup [.str [105, 102], a.d, b.d, c.d, e.d]
def Bd.size : Bd → Nat
  | .give _ => 1
  | .lt _ _ b => b.size + 1
  | .must _ _ c => c.size + 1
  | .ite _ _ c e => c.size + e.size + 1
def Bd.ok (sg : List Sg) (q : Int) (out : Kd) : Bd → Ks → Prop
  | .give h, ks => h.ok ks q out
  | .lt x r b, ks => ∃ k, r.ok ks sg q k ∧ x ∉ keys ks ∧ isName x = true ∧ b.ok sg q out (ks ++ [(x, k)])
  | .must a b c, ks => a.ok ks q ∧ b.ok ks q ∧ c.ok sg q out ks
  | .ite a b c e, ks => a.ok ks q ∧ b.ok ks q ∧ c.ok sg q out ks ∧ e.ok sg q out ks
/-- the store but for two objects -/
structure But2 (m m' : Mem) (h g : Nat) : Prop where
  len : m'.length = m.length
  at_ : ∀ j, j ≠ h → j ≠ g → m'[j]? = m[j]?
theorem But2.refl (m : Mem) (h g : Nat) : But2 m m h g := ⟨rfl, fun _ _ _ => rfl⟩
theorem But2.trans {m m1 m2 : Mem} {h g : Nat} (a : But2 m m1 h g) (b : But2 m1 m2 h g) : But2 m m2 h g := ⟨b.len.trans a.len, fun j e e' => (b.at_ j e e').trans (a.at_ j e e')⟩
theorem _root_.Mp.But.two {m m' : Mem} {h : Nat} (b : But m m' h) (g : Nat) : But2 m m' h g := ⟨b.len, fun j e _ => b.at_ j e⟩
theorem But2.set {m : Mem} {h g : Nat} {d : D} : But2 m (m.set g d) h g := ⟨List.length_set, fun j _ e => List.getElem?_set_ne (Ne.symm e)⟩
theorem StAt.set {m : Mem} {h g : Nat} {c : Int} {d : D} (H : StAt m h c) (e : g ≠ h) : StAt (m.set g d) h c := by
  obtain ⟨r, s, a, h1, h2⟩ := H.ex
  exact ⟨r, s, a, by rw [List.getElem?_set_ne e]; exact h1, h2⟩
/-- names not yet taken -/
structure FrOk (fr : List T) (ks : Ks) : Prop where
  nd : fr.Nodup
  nm : ∀ x ∈ fr, isName x = true
  ni : ∀ x ∈ fr, x ∉ keys ks
  len : fr.length + ks.length ≤ 64
theorem FrOk.pre {fr gr : List T} {ks : Ks} (h : FrOk fr ks) (e : ∃ t, fr = gr ++ t) : FrOk gr ks := by
  obtain ⟨t, rfl⟩ := e
  exact ⟨(List.nodup_append.mp h.nd).1, fun x hx => h.nm x (List.mem_append_left _ hx), fun x hx => h.ni x (List.mem_append_left _ hx), by have := h.len; rw [List.length_append] at this; omega⟩
theorem keys_snoc (ks : Ks) (x : T) (k : Kd) : keys (ks ++ [(x, k)]) = keys ks ++ [x] := by unfold keys; rw [List.map_append]; rfl
theorem KOk.snoc {ks : Ks} {x : T} {k : Kd} (h : KOk ks) (h1 : isName x = true) (h2 : x ∉ keys ks) (hl : ks.length < 64) : KOk (ks ++ [(x, k)]) := by
  refine ⟨?_, fun p hp => ?_, by rw [List.length_append, List.length_singleton]; omega⟩
  · rw [keys_snoc, List.nodup_append]
    refine ⟨h.nd, by simp, fun y hy z hz => ?_⟩
    have : z = x := by simpa using hz
    subst this
    intro e; subst e; exact h2 hy
  · rcases List.mem_append.mp hp with q | q
    · exact h.nm p q
    · rw [List.mem_singleton.mp q]; exact h1
theorem FrOk.pop {fr : List T} {x : T} {ks : Ks} {k : Kd} (h : FrOk (fr ++ [x]) ks) : FrOk fr (ks ++ [(x, k)]) ∧ x ∉ keys ks ∧ isName x = true ∧ ks.length < 64 := by
  have hl := h.len
  rw [List.length_append, List.length_singleton] at hl
  refine ⟨⟨(List.nodup_append.mp h.nd).1, fun y hy => h.nm y (List.mem_append_left _ hy), fun y hy z => ?_, by rw [List.length_append, List.length_singleton]; omega⟩, h.ni x (by simp), h.nm x (by simp), by omega⟩
  rw [keys_snoc] at z
  rcases List.mem_append.mp z with q | q
  · exact h.ni y (List.mem_append_left _ hy) q
  · exact (List.nodup_append.mp h.nd).2.2 y hy x (by simp) (List.mem_singleton.mp q)
def prD (ks : Ks) : List D := ks.map fun p => .tup [.str p.1, kE p.2]
theorem itm_kd (ks : Ks) : itmD (kD ks) = some (.lst (prD ks)) := by
  show some (D.lst ((en D.str kE ks).map fun p => .tup [p.1, p.2])) = _
  unfold en prD
  rw [List.map_map]; rfl
theorem dct_kd {ks : Ks} (nd : (keys ks).Nodup) : dctD (.lst (prD ks)) = some (kD ks) := by
  have po : ∀ V : Ks, pairsO (prD V) = some (en .str kE V) := fun V => by
    induction V with
    | nil => rfl
    | cons v V ih =>
      show (pairsO (prD V)).map _ = _
      rw [ih]; rfl
  show (pairsO _).bind _ = _
  rw [po]
  have kk : ((en .str kE ks).all fun p => isKey false p.1) = true := List.all_eq_true.mpr fun p hp => by
    unfold en at hp
    obtain ⟨q, _, rfl⟩ := List.mem_map.mp hp
    rfl
  have mk := mergeK_en tells_str (ve := kE) ks []
  rw [insAll_new _ _ (by simpa using nd)] at mk
  show (if _ then _ else _) = _
  rw [if_pos kk]
  exact congrArg (fun l => some (D.dct false l)) mk
theorem prD_snoc (ks : Ks) (x : T) (k : Kd) : prD ks ++ [.tup [.str x, kE k]] = prD (ks ++ [(x, k)]) := by unfold prD; rw [List.map_append]; rfl
theorem last_pop (fr : List T) (x : T) : ((fr ++ [x]).map D.str)[((fr ++ [x]).map D.str).length - 1]? = some (.str x) ∧ ((fr ++ [x]).map D.str).dropLast = fr.map D.str := by
  constructor
  · simp
  · rw [List.map_append]; simp
def giveA : Ss := match b__law_body with
  | .cons _ (.cons _ (.cons (.iff _ a _) _)) => a
  | _ => .nil
def letA : Ss := match b__law_body with
  | .cons _ (.cons _ (.cons _ (.cons (.iff _ a _) _))) => a
  | _ => .nil
def bodyRest : Ss := match b__law_body with
  | .cons _ (.cons _ (.cons _ (.cons _ r))) => r
  | _ => .nil
def mustA : Ss := match bodyRest with
  | .cons _ (.cons (.iff _ a _) _) => a
  | _ => .nil
def ifA : Ss := match bodyRest with
  | .cons _ (.cons _ r) => r
  | _ => .nil
theorem body_is : b__law_body = .cons (.par (.e 3 (.idx (.ex (.var 0)) (.str [100, 114, 97, 119, 115])) (.e 4 (.idx (.ex (.var 0)) (.str [109, 111, 115, 116])) .nil))) (.cons (.set 5 (.call 6 (.cons (.var 3) (.cons (.int 10) .nil)))) (.cons (.iff (.or (.cons (.cmp .eq (.ex (.var 2)) (.ex (.int 1))) (.cons (.cmp .eq (.ex (.var 5)) (.ex (.int 9))) .nil))) giveA .nil) (.cons (.iff (.and (.cons (.cmp .lt (.ex (.var 5)) (.ex (.int 6))) (.cons (.cmp .ne (.ex (.idx (.ex (.var 0)) (.str [102, 114, 101, 101]))) (.ex (.fr (.lst .nil)))) .nil))) letA .nil) bodyRest))) := rfl
def SBody (Φ : Fs) (r : Nat) : Prop := ∀ (h : Nat) (c : Int) (m : Mem) (q : Int) (ks : Ks) (sg : List Sg) (out : Kd) (hf : Nat) (fr : List T) (room : Nat), 1 ≤ room → room ≤ r → StAt m h c → c + 100 * room < 400000 → 1 ≤ q → q ≤ 100000 → KOk ks → sg.length ≤ 1000 → (∀ s ∈ sg, s.ps.length ≤ 8) → hf ≠ h → m[hf]? = some (.lst (fr.map .str)) → FrOk fr ks → (out = .rw → ∃ x, (x, .rw) ∈ ks) →
    ∃ b m' gr, Φ 13 [mD h q sg out hf, kD ks, .int room] m = .ok (false, Bd.d b) m' ∧ b.ok sg q out ks ∧ b.size ≤ room ∧ StAt m' h (c + 100 * room) ∧ But2 m m' h hf ∧ m'[hf]? = some (.lst (gr.map .str)) ∧ ∃ t, fr = gr ++ t
theorem bd_body (Φ : Fs) (R : SDraw Φ) (A : SAtom Φ) (Hn : SHanded Φ) (Sd : SSide Φ) (r : Nat) (Bo : SBody Φ r) (h : Nat) (c : Int) (m : Mem) (q : Int) (ks : Ks) (sg : List Sg) (out : Kd) (hf : Nat) (fr : List T) (room : Nat) (r1 : 1 ≤ room) (r2 : room ≤ r + 1) (H : StAt m h c) (hc : c + 100 * room < 400000) (q1 : 1 ≤ q) (q2 : q ≤ 100000) (hk : KOk ks) (sl : sg.length ≤ 1000) (sp : ∀ s ∈ sg, s.ps.length ≤ 8)
    (hne : hf ≠ h) (hm : m[hf]? = some (.lst (fr.map .str))) (hfr : FrOk fr ks) (ho : out = .rw → ∃ x, (x, .rw) ∈ ks) :
    ∃ b m' gr, runFn Φ f_13.fn [mD h q sg out hf, kD ks, .int room] m = .ok (false, Bd.d b) m' ∧ b.ok sg q out ks ∧ b.size ≤ room ∧ StAt m' h (c + 100 * room) ∧ But2 m m' h hf ∧ m'[hf]? = some (.lst (gr.map .str)) ∧ ∃ t, fr = gr ++ t := by
  have c0 : 0 ≤ c := by
    obtain ⟨_, _, a, _, _, _, _, h5, h6⟩ := H.ex
    omega
  obtain ⟨way, m1, e1, w0, w9, H1, b1⟩ := R h 10 c m H (by omega) (by decide) (by decide)
  have hm1 : m1[hf]? = some (.lst (fr.map .str)) := (b1.at_ hf hne).trans hm
  have B1 := b1.two hf
  have hb : f_13.fn = ⟨3, 13, false, b__law_body⟩ := rfl
  have len := hk.len
  let E1 : Env := [.val (mD h q sg out hf), .val (kD ks), .val (.int room), .val (.obj h), .val (.int q), .val (.int way), .no, .no, .no, .no, .no, .no, .no]
  by_cases hg : room = 1 ∨ way = 9
  · -- give
    obtain ⟨o, m2, e2, o1, o2, H2, b2⟩ := Hn h _ m1 q ks out H1 (by omega) q1 q2 hk
    obtain ⟨v, rfl⟩ : ∃ v, o = some v := by
      cases o with
      | some v => exact ⟨v, rfl⟩
      | none =>
        obtain ⟨z1, z2⟩ := o2 rfl
        obtain ⟨x, hx⟩ := ho z1
        rw [← ofKind_mem, z2] at hx
        cases hx
    refine ⟨.give v, m2, fr, ?_, o1 v rfl, r1, H2.mono (by omega), B1.trans (b2.two hf), (b2.at_ hf hne).trans hm1, [], by simp⟩
    rw [hb, run_eq _ _ rfl]
    simp only [mD] at e2 ⊢
    have e2' : Φ 11 [.obj h, kD ks, kE out, .int q] m1 = .ok (false, v.d) m2 := e2
    generalize kD ks = kd at *
    generalize (sg.map Sg.d) = sgd at *
    generalize kE out = ko at *
    rcases hg with rfl | rfl
    · simp [b__law_body, stores, md_draws, md_most, md_out, e1, e2', Bd.d]
    · by_cases h1 : (room : Int) = 1
      · simp [b__law_body, stores, md_draws, md_most, md_out, e1, h1, e2', Bd.d]
      · have h1' : ((room : Int) == 1) = false := by simpa using h1
        simp [b__law_body, stores, md_draws, md_most, md_out, e1, h1', e2', Bd.d]
  · have g1 : ((room : Int) == 1) = false := by
      have : ¬ (room : Int) = 1 := fun z => hg (.inl (by omega))
      simpa using this
    have g2 : (way == 9) = false := by
      have : ¬ way = 9 := fun z => hg (.inr z)
      simpa using this
    have room2 : 2 ≤ room := by
      have : room ≠ 1 := fun z => hg (.inl z)
      omega
    by_cases hl : way < 6 ∧ fr ≠ []
    · -- let
      obtain ⟨rt, k, m2, e2, rk, H2, b2⟩ := Sd h _ m1 q ks sg out hf H1 (by omega) q1 q2 hk sl sp
      obtain ⟨fi, x, rfl⟩ : ∃ fi x, fr = fi ++ [x] := ⟨fr.dropLast, fr.getLast hl.2, (List.dropLast_concat_getLast hl.2).symm⟩
      obtain ⟨f1, f2, f3, f4⟩ := hfr.pop (k := k)
      have hm2 := (b2.at_ hf hne).trans hm1
      obtain ⟨p1, p2⟩ := last_pop fi x
      have hlt : hf < m2.length := (List.getElem?_eq_some_iff.mp hm2).1
      have k' := hk.snoc (k := k) f3 f2 f4
      obtain ⟨b, m3, gr, e3, v1, v2, v3, v4, v5, t, v6⟩ := Bo h (c + 61) (m2.set hf (.lst (fi.map .str))) q (ks ++ [(x, k)]) sg out hf fi (room - 1) (by omega) (by omega) ((H2.mono (by omega)).set hne) (by omega) q1 q2 k' sl sp hne (List.getElem?_set_self hlt) f1 (fun z => let ⟨y, hy⟩ := ho z; ⟨y, List.mem_append_left _ hy⟩)
      refine ⟨.lt x rt b, m3, gr, ?_, ⟨k, rk, f2, f3, v1⟩, by show b.size + 1 ≤ _; omega, v3.mono (by omega), ((B1.trans (b2.two hf)).trans .set).trans v4, v5, t ++ [x], by rw [v6, List.append_assoc]⟩
      have dk := dct_kd k'.nd
      have ik := itm_kd ks
      have ll : (prD ks).length + 1 ≤ line := by unfold prD; rw [List.length_map]; have : line = 16777216 := rfl; omega
      have nn := ne_none ((fi ++ [x]).map D.str)
      have ie : ((fi ++ [x]).map D.str).isEmpty = false := by simp
      rw [ie] at nn
      have ps := prD_snoc ks x k
      have rm : ((room - 1 : Nat) : Int) = (room : Int) - 1 := by omega
      rw [rm] at e3
      rw [← p2] at e3
      rw [hb, run_eq _ _ rfl]
      simp only [mD] at e2 e3 ⊢
      have vk : ∀ m, vw m (kD ks) = some (kD ks) := fun _ => rfl
      generalize kD (ks ++ [(x, k)]) = kd' at *
      generalize kD ks = kd at *
      generalize (sg.map Sg.d) = sgd at *
      generalize kE out = ko at *
      generalize kE k = kk at *
      generalize (fi ++ [x]).map D.str = frd at *
      generalize prD (ks ++ [(x, k)]) = pd' at *
      generalize prD ks = pd at *
      simp [b__law_body, stores, md_draws, md_most, md_out, md_free, e1, g1, g2, hl.1, hm1, hm2, nn, e2, p1, vk, ik, ll, ps, dk, e3, Bd.d]
    · obtain ⟨a, m2, e2, a1, H2, b2⟩ := A h _ m1 q ks H1 (by omega) q1 q2 hk
      obtain ⟨b, m3, e3, a2, H3, b3⟩ := A h _ m2 q ks H2 (by omega) q1 q2 hk
      have hm3 := (b3.at_ hf hne).trans ((b2.at_ hf hne).trans hm1)
      have B3 := (B1.trans (b2.two hf)).trans (b3.two hf)
      have head : ∀ (o : D) (m' : Mem), exSs Φ bodyRest E1 m1 = .rt false o m' → runFn Φ f_13.fn [mD h q sg out hf, kD ks, .int room] m = .ok (false, o) m' := fun o m' hr => by
        rw [hb, run_eq _ _ rfl, body_is]
        simp only [E1, mD] at hr ⊢
        generalize kD ks = kd at *
        generalize (sg.map Sg.d) = sgd at *
        generalize kE out = ko at *
        generalize bodyRest = X at *
        generalize letA = Y at *
        generalize giveA = Z at *
        by_cases w6 : way < 6
        · have fe : fr = [] := Classical.byContradiction fun z => hl ⟨w6, z⟩
          rw [fe] at hm1
          simp [stores, md_draws, md_most, md_free, e1, g1, g2, w6, hm1, ne_none, hr]
        · simp [stores, md_draws, md_most, md_free, e1, g1, g2, w6, hr]
      have rest : bodyRest = .cons (.par (.e 9 (.call 10 (.cons (.var 3) (.cons (.var 1) (.cons (.var 4) .nil)))) (.e 10 (.call 10 (.cons (.var 3) (.cons (.var 1) (.cons (.var 4) .nil)))) .nil))) (.cons (.iff (.or (.cons (.cmp .eq (.ex (.var 5)) (.ex (.int 6))) (.cons (.cmp .eq (.ex (.var 2)) (.ex (.int 2))) .nil))) mustA .nil) ifA) := rfl
      by_cases hmu : way = 6 ∨ room = 2
      · -- must
        obtain ⟨cb, m4, gr, e4, v1, v2, v3, v4, v5, v6⟩ := Bo h (c + 9) m3 q ks sg out hf fr (room - 1) (by omega) (by omega) (H3.mono (by omega)) (by omega) q1 q2 hk sl sp hne hm3 hfr ho
        refine ⟨.must a b cb, m4, gr, head _ _ ?_, ⟨a1, a2, v1⟩, by show cb.size + 1 ≤ _; omega, v3.mono (by omega), B3.trans v4, v5, v6⟩
        have rm : ((room - 1 : Nat) : Int) = (room : Int) - 1 := by omega
        rw [rm] at e4
        have c1 : (way == 6) = true ∨ ((way == 6) = false ∧ ((room : Int) == 2) = true) := by
          by_cases w6 : way = 6
          · exact .inl (by simpa using w6)
          · exact .inr ⟨by simpa using w6, by have := hmu.resolve_left w6; simp [this]⟩
        rw [rest]
        simp only [E1]
        have mu : ∀ ev : Env, gt ev 0 = .val (mD h q sg out hf) → gt ev 1 = .val (kD ks) → gt ev 2 = .val (.int room) → gt ev 9 = .val a.d → gt ev 10 = .val b.d → exSs Φ mustA ev m3 = .rt false (Bd.must a b cb).d m4 := fun ev z0 z1 z2 z9 z10 => by
          simp [mustA, bodyRest, b__law_body, z0, z1, z2, z9, z10, e4, Bd.d]
        generalize hM : mustA = M at *
        generalize hI : ifA = I at *
        generalize mD h q sg out hf = md at *
        generalize kD ks = kd at *
        rcases c1 with c1 | ⟨c1, c2⟩
        · simp [stores, e2, e3, c1, mu]
        · simp [stores, e2, e3, c1, c2, mu]
      · have h6 : ¬ way = 6 := fun z => hmu (.inl z)
        have h2 : ¬ room = 2 := fun z => hmu (.inr z)
        have c1 : (way == 6) = false := by simpa using h6
        have c2 : ((room : Int) == 2) = false := by
          have : ¬ (room : Int) = 2 := fun z => h2 (by omega)
          simpa using this
        obtain ⟨d, m4, e4, d0, d1, H4, b4⟩ := R h ((room : Int) - 2) _ m3 H3 (by omega) (by omega) (by omega)
        have hm4 := (b4.at_ hf hne).trans hm3
        obtain ⟨n, rfl⟩ := Int.eq_ofNat_of_zero_le d0
        obtain ⟨cb, m5, gr, e5, v1, v2, v3, v4, v5, v6⟩ := Bo h (c + 10) m4 q ks sg out hf fr (1 + n) (by omega) (by omega) (H4.mono (by omega)) (by omega) q1 q2 hk sl sp hne hm4 hfr ho
        obtain ⟨eb, m6, gr', e6, y1, y2, y3, y4, y5, y6⟩ := Bo h (c + 10 + 100 * (1 + n : Nat)) m5 q ks sg out hf gr (room - 1 - (1 + n)) (by omega) (by omega) v3 (by omega) q1 q2 hk sl sp hne v5 (hfr.pre v6) ho
        refine ⟨.ite a b cb eb, m6, gr', head _ _ ?_, ⟨a1, a2, v1, y1⟩, by show cb.size + eb.size + 1 ≤ _; omega, y3.mono (by omega), ((B3.trans (b4.two hf)).trans v4).trans y4, y5, ?_⟩
        · rw [rest]
          simp only [E1]
          have n1 : ((1 + n : Nat) : Int) = 1 + (n : Int) := by omega
          have n2 : ((room - 1 - (1 + n) : Nat) : Int) = (room : Int) - 1 - (1 + (n : Int)) := by omega
          rw [n1] at e5
          rw [n2] at e6
          have iff : ∀ ev : Env, ev.length = 13 → gt ev 0 = .val (mD h q sg out hf) → gt ev 1 = .val (kD ks) → gt ev 2 = .val (.int room) → gt ev 3 = .val (.obj h) → gt ev 9 = .val a.d → gt ev 10 = .val b.d → exSs Φ ifA ev m3 = .rt false (Bd.ite a b cb eb).d m6 := fun ev l z0 z1 z2 z3 z9 z10 => by
            simp [ifA, bodyRest, b__law_body, z0, z1, z2, z3, z9, z10, gt_st, st_length, l, e4, e5, e6, Bd.d]
          generalize hM : mustA = M at *
          generalize hI : ifA = I at *
          generalize mD h q sg out hf = md at *
          generalize kD ks = kd at *
          simp [stores, e2, e3, c1, c2, iff]
        · obtain ⟨t, rfl⟩ := v6
          obtain ⟨t', rfl⟩ := y6
          exact ⟨t' ++ t, List.append_assoc ..⟩

/-! stage G: functions -/
structure Fu where
  sg : Sg
  body : Bd
def Fu.d (f : Fu) : D := .tup [.str f.sg.name, psD f.sg.ps, kE f.sg.out, f.body.d]
/-- more stands there, one object changed -/
structure Grw (m m' : Mem) (h : Nat) : Prop where
  le : m.length ≤ m'.length
  at_ : ∀ j, j < m.length → j ≠ h → m'[j]? = m[j]?
theorem Grw.refl (m : Mem) (h : Nat) : Grw m m h := ⟨Nat.le_refl _, fun _ _ _ => rfl⟩
theorem Grw.trans {m m1 m2 : Mem} {h : Nat} (a : Grw m m1 h) (b : Grw m1 m2 h) : Grw m m2 h := ⟨Nat.le_trans a.le b.le, fun j l e => (b.at_ j (Nat.lt_of_lt_of_le l a.le) e).trans (a.at_ j l e)⟩
theorem _root_.Mp.But.grw {m m' : Mem} {h : Nat} (b : But m m' h) : Grw m m' h := ⟨Nat.le_of_eq b.len.symm, fun j _ e => b.at_ j e⟩
theorem Grw.push (m : Mem) (h : Nat) (d : D) : Grw m (m ++ [d]) h := ⟨by simp, fun j l _ => List.getElem?_append_left l⟩
theorem But2.grw {m0 m m' : Mem} {h g : Nat} (b : But2 m m' h g) (a : Grw m0 m h) (hg : m0.length ≤ g) : Grw m0 m' h := ⟨by rw [b.len]; exact a.le, fun j l e => (b.at_ j e (by omega)).trans (a.at_ j l e)⟩
theorem StAt.push {m : Mem} {h : Nat} {c : Int} {d : D} (H : StAt m h c) : StAt (m ++ [d]) h c := by
  obtain ⟨r, s, a, h1, h2⟩ := H.ex
  exact ⟨r, s, a, by rw [List.getElem?_append_left (List.getElem?_eq_some_iff.mp h1).1]; exact h1, h2⟩
theorem int_f : U1.run .int (.bl false) = some (.int 0) := rfl
theorem int_t : U1.run .int (.bl true) = some (.int 1) := rfl
theorem pars_loop (Φ : Fs) (R : SDraw Φ) (h : Nat) (c : Int) (m : Mem) (H : StAt m h c) (hc : c < 600000) (ts : List T) (tl : ts.length ≤ 20) (E0 : Env) (le : E0.length = 15) (g0 : gt E0 0 = .val (.obj h)) (g6 : gt E0 6 = .own (.lst [])) (n7 : (gt E0 7).isOwn = false) :
    ∃ e2 m2 ps, forL (.nm 7) (fun e m => exSs Φ l__law_functions_0 e m) (ts.map .str) E0 m = .nx e2 m2 ∧ gt e2 6 = .own (.lst (prD ps)) ∧ keys ps = ts ∧ StAt m2 h (c + ts.length) ∧ But m m2 h ∧ Frm [6, 7] [6] E0 e2 := by
  obtain ⟨e2, m2, u1, ⟨ps, u2, u3, u4, u5⟩, u6⟩ := fo_inv (Φ := Φ) (g := .nm 7) (b := l__law_functions_0) [6, 7] [6] (fun j e' m' => ∃ ps, gt e' 6 = .own (.lst (prD ps)) ∧ keys ps = ts.take j ∧ StAt m' h (c + j) ∧ But m m' h) (ds := ts.map .str) (env := E0) (m := m) (by decide) (by decide)
    ⟨[], g6, rfl, H.mono (by omega), .refl _ _⟩ fun j d e' m' hj fr ⟨ps, q1, q2, q3, q4⟩ => by
      rw [List.getElem?_map] at hj
      obtain ⟨t, ht, rfl⟩ := Option.map_eq_some_iff.mp hj
      have hjn : j < ts.length := (List.getElem?_eq_some_iff.mp ht).1
      have l' : e'.length = 15 := fr.len.trans le
      have n7 : (gt e' 7).isOwn = false := fr.no 7 (by decide) n7
      have k0 := (fr.keep 0 (by decide)).trans g0
      obtain ⟨k, m3, e3, k1, k2, H3, b3⟩ := R h 3 _ m' q3 (by omega) (by decide) (by decide)
      have kk : ∃ kd : Kd, atI [D.str [110, 117, 109, 98, 101, 114], .str [110, 117, 109, 98, 101, 114], .str [114, 111, 119]] k = some (kE kd) := by
        have : k = 0 ∨ k = 1 ∨ k = 2 := by omega
        rcases this with rfl | rfl | rfl
        · exact ⟨.nb, rfl⟩
        · exact ⟨.nb, rfl⟩
        · exact ⟨.rw, rfl⟩
      obtain ⟨kd, hkd⟩ := kk
      have pl : (prD ps).length = j := by
        unfold prD
        have := congrArg List.length q2
        rw [keys_len, List.length_take] at this
        rw [List.length_map]; omega
      have ll : (prD ps).length < line := by rw [pl]; have : line = 16777216 := rfl; omega
      have sn := prD_snoc ps t kd
      refine ⟨st e' 7 (.val (.str t)), st (st e' 7 (.val (.str t))) 6 (.own (.lst (prD (ps ++ [(t, kd)])))), m3, by rw [bindG_nm, n7]; rfl, .inl ?_, ps ++ [(t, kd)], by simp [gt_st, st_length, l'], ?_, H3.mono (by omega), q4.trans b3⟩
      · generalize prD (ps ++ [(t, kd)]) = pd' at *
        generalize prD ps = pd at *
        generalize kE kd = kk at *
        simp [l__law_functions_0, gt_st, st_length, l', q1, k0, e3, hkd, ll, sn]
      · rw [keys_snoc, q2, List.take_succ, ht]; rfl
  rw [List.length_map] at u3 u4
  rw [List.take_length] at u3
  exact ⟨e2, m2, ps, u1, u2, u3, u4, u5, u6⟩
/-- has_row -/
theorem row_comp (Φ : Fs) (e : Env) (ps : Ks) (m : Mem) (le : e.length = 15) : compL (wipeE e [7, 9]) (.tp (.cons (.nm 7) (.cons (.nm 9) .nil))) (fun e m => evE Φ t__law_functions_1 e m) (fun e m => evE Φ c__law_functions_2 e m) (prD ps) m = .ok ((ps.filter fun p => p.2 == .rw).map fun p => kE p.2) m :=
  compL_pure (fun p : T × Kd => D.tup [.str p.1, kE p.2]) (fun p => p.2 == .rw) (fun p => kE p.2) m ps fun p _ => by
    have w7 : gt (wipeE e [7, 9]) 7 = .no := by simp [wipeE, gt_st, st_length, le]
    have w9 : gt (wipeE e [7, 9]) 9 = .no := by simp [wipeE, gt_st, st_length, le]
    have wl : (wipeE e [7, 9]).length = 15 := by simp [wipeE, st_length, le]
    generalize wipeE e [7, 9] = E at *
    have kr := kd_rw p.2
    refine ⟨st (st E 7 (.val (.str p.1))) 9 (.val (kE p.2)), by simp [w7, w9, gt_st], ?_, fun _ => by simp [c__law_functions_2, gt_st, st_length, wl]⟩
    simp [t__law_functions_1, gt_st, st_length, wl, kE, kr]
theorem row_has (ps : Ks) : ((ps.filter fun p => p.2 == Kd.rw).map fun p => kE p.2).isEmpty = false ↔ ∃ x, (x, Kd.rw) ∈ ps := by
  rw [List.isEmpty_map]
  constructor
  · intro h
    cases hp : ps.filter fun p => p.2 == Kd.rw with
    | nil => rw [hp] at h; cases h
    | cons p r =>
      have : p ∈ ps.filter fun p => p.2 == Kd.rw := by rw [hp]; exact List.mem_cons_self
      obtain ⟨h1, h2⟩ := List.mem_filter.mp this
      exact ⟨p.1, by rw [← beq_iff_eq.mp h2]; exact h1⟩
  · rintro ⟨x, hx⟩
    have : (x, Kd.rw) ∈ ps.filter fun p => p.2 == Kd.rw := List.mem_filter.mpr ⟨hx, by simp⟩
    cases hp : ps.filter fun p => p.2 == Kd.rw with
    | nil => rw [hp] at this; cases this
    | cons p r => rfl
structure SgOk (s : Sg) : Prop where
  ps : KOk s.ps
  le : s.ps.length ≤ 3
  out : s.out = .rw → ∃ x, (x, Kd.rw) ∈ s.ps
theorem sig_turn (Φ : Fs) (R : SDraw Φ) (Nm : SNames Φ) (h : Nat) (c : Int) (m : Mem) (H : StAt m h c) (hc : c < 500000) (sg : List Sg) (sl : sg.length ≤ 100) (name : T) (e : Env) (le : e.length = 15) (g0 : gt e 0 = .val (.obj h)) (g4 : gt e 4 = .own (.lst (sg.map Sg.d))) (g5 : gt e 5 = .val (.str name)) (n7 : (gt e 7).isOwn = false) (n9 : (gt e 9).isOwn = false) :
    ∃ e2 m2 s, exSs Φ l__law_functions_3 e m = .nx e2 m2 ∧ gt e2 4 = .own (.lst ((sg ++ [s]).map Sg.d)) ∧ s.name = name ∧ SgOk s ∧ StAt m2 h (c + 60) ∧ But m m2 h ∧ (∃ x, gt e2 6 = .own x) := by
  obtain ⟨k, m1, e1, k0, k1, H1, b1⟩ := R h 4 c m H (by omega) (by decide) (by decide)
  obtain ⟨n, rfl⟩ := Int.eq_ofNat_of_zero_le k0
  obtain ⟨ts, m2, e2, t1, t2, H2, b2⟩ := Nm h _ m1 n H1 (by omega) (by omega)
  obtain ⟨e3, m3, ps, u1, u2, u3, H3, b3, fr⟩ := pars_loop Φ R h _ m2 H2 (by omega) ts (by omega) (st e 6 (.own (.lst []))) (by rw [st_length, le]) (by simp [gt_st, g0]) (by simp [gt_st, le]) (by simp [gt_st, n7])
  have l3 : e3.length = 15 := fr.len.trans (by rw [st_length, le])
  have k0' : gt e3 0 = .val (.obj h) := (fr.keep 0 (by decide)).trans (by simp [gt_st, g0])
  have k4 : gt e3 4 = .own (.lst (sg.map Sg.d)) := (fr.keep 4 (by decide)).trans (by simp [gt_st, g4])
  have k5 : gt e3 5 = .val (.str name) := (fr.keep 5 (by decide)).trans (by simp [gt_st, g5])
  have k7 : (gt e3 7).isOwn = false := fr.no 7 (by decide) (by simp [gt_st, n7])
  have k9 : (gt e3 9).isOwn = false := fr.no 9 (by decide) (by simp [gt_st, n9])
  have pl : ps.length = n := by rw [← keys_len, u3, t1]
  have pk : KOk ps := ⟨by rw [u3]; exact t2.nd, fun p hp => t2.nm p.1 (by rw [← u3]; exact List.mem_map.mpr ⟨p, hp, rfl⟩), by omega⟩
  have rc := row_comp Φ e3 ps m3 l3
  have no : noOwn e3 [7, 9] = true := by unfold noOwn; simp [k7, k9]
  have ll : (prD ps).length ≤ line := by unfold prD; rw [List.length_map]; have : line = 16777216 := rfl; omega
  have sll : (sg.map Sg.d).length < line := by rw [List.length_map]; have : line = 16777216 := rfl; omega
  have rh := row_has ps
  have tlen : ts.length = n := t1
  have fin : ∀ (kd : Kd) (m4 : Mem) (b : Bool), exSs Φ (.cons (.app 4 (.tup (.cons (.var 5) (.cons (.u1 .tup (.pk 6)) (.cons (.idx (.ex (.fr (.lst (.cons (.str [110, 117, 109, 98, 101, 114]) (.cons (.str [114, 111, 119]) .nil))))) (.u1 .int (.ex (.and (.cons (.var 8) (.cons (.cmp .eq (.ex (.call 6 (.cons (.var 0) (.cons (.int 3) .nil)))) (.ex (.int 0))) .nil)))))) .nil))))) .nil) (st e3 8 (.val (.bl b))) m3 = .nx (st (st e3 8 (.val (.bl b))) 4 (.own (.lst (sg.map Sg.d ++ [Sg.d ⟨name, ps, kd⟩])))) m4 →
      (b = !((ps.filter fun p => p.2 == .rw).map fun p => kE p.2).isEmpty) → (kd = .rw → ∃ x, (x, Kd.rw) ∈ ps) → StAt m4 h (c + 60) → But m m4 h →
      ∃ e2 m2 s, exSs Φ l__law_functions_3 e m = .nx e2 m2 ∧ gt e2 4 = .own (.lst ((sg ++ [s]).map Sg.d)) ∧ s.name = name ∧ SgOk s ∧ StAt m2 h (c + 60) ∧ But m m2 h ∧ (∃ x, gt e2 6 = .own x) := fun kd m4 b ha hb hk H4 b4 => by
    refine ⟨st (st e3 8 (.val (.bl b))) 4 (.own (.lst (sg.map Sg.d ++ [Sg.d ⟨name, ps, kd⟩]))), m4, ⟨name, ps, kd⟩, ?_, by rw [List.map_append]; simp [gt_st, st_length, l3], rfl, ⟨pk, by show ps.length ≤ 3; omega, hk⟩, H4, b4, ⟨.lst (prD ps), by simp [gt_st, st_length, l3, u2]⟩⟩
    · subst hb
      have body : l__law_functions_3 = .cons (.own 6 (.lst .nil)) (.cons (.fo (.nm 7) (.it (.ex (.call 8 (.cons (.var 0) (.cons (.call 6 (.cons (.var 0) (.cons (.int 4) .nil))) .nil))))) l__law_functions_0) (.cons (.set 8 (.cmp .ne (.ex (.fr (.comp [7, 9] (.tp (.cons (.nm 7) (.cons (.nm 9) .nil))) (.it (.pk 6)) (.so t__law_functions_1) c__law_functions_2))) (.ex (.fr (.lst .nil))))) (.cons (.app 4 (.tup (.cons (.var 5) (.cons (.u1 .tup (.pk 6)) (.cons (.idx (.ex (.fr (.lst (.cons (.str [110, 117, 109, 98, 101, 114]) (.cons (.str [114, 111, 119]) .nil))))) (.u1 .int (.ex (.and (.cons (.var 8) (.cons (.cmp .eq (.ex (.call 6 (.cons (.var 0) (.cons (.int 3) .nil)))) (.ex (.int 0))) .nil)))))) .nil))))) .nil))) := rfl
      rw [body]
      generalize hA : (Ss.cons (.app 4 _) .nil) = A at ha ⊢
      generalize (ps.filter fun p => p.2 == .rw).map (fun p => kE p.2) = fl at *
      generalize prD ps = pd at *
      generalize sg.map Sg.d = sgd at *
      simp [gt_st, st_length, le, g0, e1, e2, isAs, u1, u2, no, ll, rc, ne_none, ha]
  have sd : ∀ kd, Sg.d ⟨name, ps, kd⟩ = .tup [.str name, .tup (prD ps), kE kd] := fun _ => rfl
  cases hb : ((ps.filter fun p => p.2 == Kd.rw).map fun p => kE p.2).isEmpty with
  | true =>
    refine fin .nb m3 false ?_ (by rw [hb]; rfl) (fun z => nomatch z) (H3.mono (by omega)) ((b1.trans b2).trans b3)
    rw [sd]
    generalize prD ps = pd at *
    generalize sg.map Sg.d = sgd at *
    simp [gt_st, st_length, l3, k0', k4, k5, u2, at_0, sll, kE, Kd.t, int_f, int_t]
  | false =>
    have hx := rh.mp hb
    obtain ⟨d, m4, e4, d0, d1, H4, b4⟩ := R h 3 _ m3 H3 (by omega) (by decide) (by decide)
    by_cases hd : d = 0
    · refine fin .rw m4 true ?_ (by rw [hb]; rfl) (fun _ => hx) (H4.mono (by omega)) (((b1.trans b2).trans b3).trans b4)
      rw [sd]
      generalize prD ps = pd at *
      generalize sg.map Sg.d = sgd at *
      simp [gt_st, st_length, l3, k0', k4, k5, u2, e4, hd, at_1, sll, kE, Kd.t, int_f, int_t]
    · have hd' : (d == 0) = false := by simpa using hd
      refine fin .nb m4 true ?_ (by rw [hb]; rfl) (fun z => nomatch z) (H4.mono (by omega)) (((b1.trans b2).trans b3).trans b4)
      rw [sd]
      generalize prD ps = pd at *
      generalize sg.map Sg.d = sgd at *
      simp [gt_st, st_length, l3, k0', k4, k5, u2, e4, hd', at_0, sll, kE, Kd.t, int_f, int_t]

/-! stage G: the functions of a program -/
theorem mk_md (a b c d e : D) : mergeK [] [(.str [100, 114, 97, 119, 115], a), (.str [109, 111, 115, 116], b), (.str [115, 105, 103, 110, 115], c), (.str [111, 117, 116], d), (.str [102, 114, 101, 101], e)] = [(.str [100, 114, 97, 119, 115], a), (.str [109, 111, 115, 116], b), (.str [115, 105, 103, 110, 115], c), (.str [111, 117, 116], d), (.str [102, 114, 101, 101], e)] := rfl
theorem st_st2 : ∀ (X : Mp.Env) (i : Nat) (a b : Sl), st (st X i a) i b = st X i b
  | [], _, _, _ => rfl
  | s :: r, 0, a, b => rfl
  | s :: r, i + 1, a, b => by
    show s :: st (st r i a) i b = s :: st r i b
    rw [st_st2]
def funA : Ss := match l__law_functions_7 with
  | .cons _ (.cons _ r) => r
  | _ => .nil
theorem fun_turn (Φ : Fs) (R : SDraw Φ) (Nm : SNames Φ) (Bo : SBody Φ 12) (h : Nat) (c : Int) (m : Mem) (H : StAt m h c) (hc : c < 300000) (q : Int) (q1 : 1 ≤ q) (q2 : q ≤ 100000) (rooms : Nat) (r1 : 1 ≤ rooms) (r2 : rooms ≤ 12) (sg : List Sg) (sl : sg.length ≤ 100) (so : ∀ s ∈ sg, SgOk s) (s : Sg) (hs : s ∈ sg) (fs : List Fu) (fl : fs.length ≤ 100)
    (e : Env) (le : e.length = 15) (g0 : gt e 0 = .val (.obj h)) (g1 : gt e 1 = .val (.int q)) (g3 : gt e 3 = .val (.int rooms)) (g4 : gt e 4 = .val (.lst (sg.map Sg.d))) (g5 : gt e 5 = .val (.str s.name)) (g6 : gt e 6 = .val (psD s.ps)) (g11 : gt e 11 = .val (kE s.out)) (g10 : gt e 10 = .own (.lst (fs.map Fu.d))) (n7 : (gt e 7).isOwn = false) (n9 : (gt e 9).isOwn = false) :
    ∃ (e2 : Mp.Env) (m2 : Mem) (b : Bd), exSs Φ l__law_functions_7 e m = .nx e2 m2 ∧ gt e2 10 = .own (.lst ((fs ++ [(⟨s, b⟩ : Fu)]).map Fu.d)) ∧ b.ok sg q s.out s.ps ∧ b.size ≤ rooms ∧ StAt m2 h (c + 2000) ∧ Grw m m2 h := by
  have S := so s hs
  have c12 : compL (wipeE e [7, 9]) (.tp (.cons (.nm 7) (.cons (.nm 9) .nil))) (fun e m => .ok (.bl true) m) (fun e m => evE Φ c__law_functions_4 e m) (s.ps.map fun p => .tup [.str p.1, kE p.2]) m = .ok (s.ps.map fun p => .str p.1) m :=
    compL_map (fun p : T × Kd => D.tup [.str p.1, kE p.2]) (fun p => D.str p.1) m s.ps fun p _ => by
      have w7 : gt (wipeE e [7, 9]) 7 = .no := by simp [wipeE, gt_st, st_length, le]
      have w9 : gt (wipeE e [7, 9]) 9 = .no := by simp [wipeE, gt_st, st_length, le]
      have wl : (wipeE e [7, 9]).length = 15 := by simp [wipeE, st_length, le]
      generalize wipeE e [7, 9] = E at *
      exact ⟨st (st E 7 (.val (.str p.1))) 9 (.val (kE p.2)), by simp [w7, w9, gt_st], rfl, by simp [c__law_functions_4, gt_st, st_length, wl]⟩
  have ek : (s.ps.map fun p => D.str p.1) = (keys s.ps).map D.str := by unfold keys; rw [List.map_map]; rfl
  rw [ek] at c12
  obtain ⟨ts, m1, e1, t1, t2, H1, b1⟩ := Nm h c m 12 H (by omega) (by omega)
  have e1 : Φ 8 [.obj h, .int 12] m = .ok (false, .lst (ts.map .str)) m1 := e1
  let E1 : Env := st e 12 (.val (.lst ((keys s.ps).map .str)))
  let fr : List T := ts.filter fun t => !decide (t ∈ keys s.ps)
  have c13 : compL (wipeE E1 [7]) (.nm 7) (fun e m => evE Φ t__law_functions_5 e m) (fun e m => evE Φ c__law_functions_6 e m) (ts.map .str) m1 = .ok (fr.map .str) m1 :=
    compL_pure D.str (fun t => !decide (t ∈ keys s.ps)) D.str m1 ts fun t _ => by
      have ik := in_strs t (keys s.ps)
      refine ⟨st (wipeE E1 [7]) 7 (.val (.str t)), by rw [bindG_nm]; simp [E1, wipeE, gt_st, st_length, le], ?_, fun _ => by simp [c__law_functions_6, E1, wipeE, gt_st, st_length, le]⟩
      simp [t__law_functions_5, E1, wipeE, gt_st, st_length, le, ik]
  have frl : fr.length ≤ 12 := by
    have : fr.length ≤ ts.length := List.length_filter_le ..
    omega
  have pl := S.le
  have fok : FrOk fr s.ps := ⟨List.Nodup.sublist List.filter_sublist t2.nd, fun x hx => t2.nm x (List.mem_filter.mp hx).1, fun x hx => by simpa using (List.mem_filter.mp hx).2, by omega⟩
  have hlt : h < m1.length := H1.lt
  obtain ⟨d, m3, e3, d0, d1, H3, b3⟩ := R h rooms _ (m1 ++ [.lst (fr.map .str)]) H1.push (by omega) (by omega) (by omega)
  obtain ⟨n, rfl⟩ := Int.eq_ofNat_of_zero_le d0
  have hne : m1.length ≠ h := by omega
  have hm3 : m3[m1.length]? = some (.lst (fr.map .str)) := by
    rw [b3.at_ _ hne, List.getElem?_append_right (Nat.le_refl _), Nat.sub_self]; rfl
  obtain ⟨b, m4, gr, e4, v1, v2, v3, v4, v5, v6⟩ := Bo h (c + 100) m3 q s.ps sg s.out m1.length fr (1 + n) (by omega) (by omega) (H3.mono (by omega)) (by omega) q1 q2 S.ps (by omega) (fun s' hs' => by have := (so s' hs').le; omega) hne hm3 fok S.out
  have n1 : ((1 + n : Nat) : Int) = 1 + (n : Int) := by omega
  rw [n1] at e4
  have gw : Grw m m4 h := v4.grw ((b1.grw.trans (Grw.push m1 h _)).trans b3.grw) (by rw [b1.len]; exact Nat.le_refl _)
  have fd : Fu.d ⟨s, b⟩ = .tup [.str s.name, psD s.ps, kE s.out, b.d] := rfl
  let E2 : Env := st (st (st E1 13 (.val (.obj m1.length))) 14 (.val (mD h q sg s.out m1.length))) 10 (.own (.lst (fs.map Fu.d ++ [Fu.d ⟨s, b⟩])))
  refine ⟨E2, m4, b, ?_, by rw [List.map_append]; simp [E2, E1, gt_st, st_length, le], v1, by omega, v3.mono (by omega), gw⟩
  have fll : (fs.map Fu.d).length < line := by rw [List.length_map]; have : line = 16777216 := rfl; omega
  have no1 : noOwn e [7, 9] = true := by unfold noOwn; simp [n7, n9]
  have no2 : noOwn (st (st e 12 (.own (.lst ((keys s.ps).map .str)))) 12 (.val (.lst ((keys s.ps).map .str)))) [7] = true := by unfold noOwn; simp [gt_st, n7]
  have ip : itemsD (psD s.ps) = some (s.ps.map fun p => .tup [.str p.1, kE p.2]) := rfl
  have lp : lstD (psD s.ps) = some (.lst (prD s.ps)) := rfl
  have vp : ∀ m, vw m (psD s.ps) = some (psD s.ps) := fun _ => rfl
  have dk := dct_kd S.ps.nd
  have pll : (s.ps.map fun p => D.tup [.str p.1, kE p.2]).length ≤ line := by rw [List.length_map]; have : line = 16777216 := rfl; omega
  have tll : (ts.map D.str).length ≤ line := by rw [List.length_map]; have : line = 16777216 := rfl; omega
  have ss : st (st e 12 (.own (.lst ((keys s.ps).map .str)))) 12 (.val (.lst ((keys s.ps).map .str))) = E1 := st_st2 _ _ _ _
  have s13 : ∀ x y, st (st E1 13 x) 13 y = st E1 13 y := fun x y => st_st2 _ _ _ _
  rw [ss] at no2
  have rest : l__law_functions_7 = .cons (.own 12 (.comp [7, 9] (.tp (.cons (.nm 7) (.cons (.nm 9) .nil))) (.it (.ex (.var 6))) .no c__law_functions_4)) (.cons (.frz 12) (funA)) := rfl
  have f1 : exS Φ (.own 12 (.comp [7, 9] (.tp (.cons (.nm 7) (.cons (.nm 9) .nil))) (.it (.ex (.var 6))) .no c__law_functions_4)) e m = .nx (st e 12 (.own (.lst ((keys s.ps).map .str)))) m := by
    generalize (keys s.ps).map D.str = kd at *
    generalize (s.ps.map fun p => D.tup [.str p.1, kE p.2]) = pd at *
    generalize psD s.ps = psd at *
    simp [g6, ip, no1, pll, c12]
  have f2 : exS Φ (.frz 12) (st e 12 (.own (.lst ((keys s.ps).map .str)))) m = .nx E1 m := by
    rw [← ss]
    generalize (keys s.ps).map D.str = kd at *
    simp [gt_st, le]
  have f3 : exSs Φ funA E1 m = .nx E2 m4 := by
    have l1 : E1.length = 15 := by simp [E1, st_length, le]
    have k0 : gt E1 0 = .val (.obj h) := by simp [E1, gt_st, g0]
    have k1 : gt E1 1 = .val (.int q) := by simp [E1, gt_st, g1]
    have k3 : gt E1 3 = .val (.int rooms) := by simp [E1, gt_st, g3]
    have k4 : gt E1 4 = .val (.lst (sg.map Sg.d)) := by simp [E1, gt_st, g4]
    have k5 : gt E1 5 = .val (.str s.name) := by simp [E1, gt_st, g5]
    have k6 : gt E1 6 = .val (psD s.ps) := by simp [E1, gt_st, g6]
    have k11 : gt E1 11 = .val (kE s.out) := by simp [E1, gt_st, g11]
    have k10 : gt E1 10 = .own (.lst (fs.map Fu.d)) := by simp [E1, gt_st, g10]
    simp only [E2]
    clear_value E1
    have mk := mk_md (.obj h) (.int q) (.lst (sg.map Sg.d)) (kE s.out) (.obj m1.length)
    simp only [mD] at e4 ⊢
    rw [fd]
    generalize prD s.ps = pd at *
    generalize psD s.ps = psd at *
    generalize kD s.ps = kd at *
    generalize kE s.out = ko at *
    generalize fs.map Fu.d = fsd at *
    generalize sg.map Sg.d = sgd at *
    generalize fr.map D.str = frd at *
    generalize ts.map D.str = tsd at *
    simp [funA, l__law_functions_7, k0, k1, k3, k4, k5, k6, k10, k11, e1, no2, tll, c13, gt_st, st_length, l1, s13, mk, lp, vp, dk, e3, e4, fll]
  rw [rest, ex_cons, f1]
  show (exS Φ (.frz 12) _ m).thn (fun e1 m1 => exSs Φ funA e1 m1) = _
  rw [f2]
  exact f3

/-! stage G: a program's functions, whole -/
theorem fns_loop1 (Φ : Fs) (R : SDraw Φ) (Nm : SNames Φ) (h : Nat) (c : Int) (m : Mem) (H : StAt m h c) (hc : c < 400000) (ts : List T) (tl : ts.length ≤ 100) (E0 : Env) (le : E0.length = 15) (g0 : gt E0 0 = .val (.obj h)) (g4 : gt E0 4 = .own (.lst [])) (n5 : (gt E0 5).isOwn = false) (n7 : (gt E0 7).isOwn = false) (n9 : (gt E0 9).isOwn = false) :
    ∃ (e2 : Env) (m2 : Mem) (sg : List Sg), forL (.nm 5) (fun e m => exSs Φ l__law_functions_3 e m) (ts.map .str) E0 m = .nx e2 m2 ∧ gt e2 4 = .own (.lst (sg.map Sg.d)) ∧ sg.map Sg.name = ts ∧ (∀ s ∈ sg, SgOk s) ∧ StAt m2 h (c + 60 * ts.length) ∧ But m m2 h ∧ Frm [4, 5, 6, 7, 8] [4, 6] E0 e2 ∧ (ts ≠ [] → ∃ x, gt e2 6 = .own x) := by
  obtain ⟨e2, m2, u1, ⟨sg, u2, u3, u4, u5, u6, u8⟩, u7⟩ := fo_inv (Φ := Φ) (g := .nm 5) (b := l__law_functions_3) [4, 5, 6, 7, 8] [4, 6] (fun j e' m' => ∃ sg : List Sg, gt e' 4 = .own (.lst (sg.map Sg.d)) ∧ sg.map Sg.name = ts.take j ∧ (∀ s ∈ sg, SgOk s) ∧ StAt m' h (c + 60 * j) ∧ But m m' h ∧ (0 < j → ∃ x, gt e' 6 = .own x)) (ds := ts.map .str) (env := E0) (m := m) (by decide) (by decide)
    ⟨[], g4, rfl, (fun _ z => nomatch z), H.mono (by omega), .refl _ _, fun z => absurd z (by omega)⟩ fun j d e' m' hj fr ⟨sg, q1, q2, q3, q4, q5, _⟩ => by
      rw [List.getElem?_map] at hj
      obtain ⟨t, ht, rfl⟩ := Option.map_eq_some_iff.mp hj
      have hjn : j < ts.length := (List.getElem?_eq_some_iff.mp ht).1
      have l' : e'.length = 15 := fr.len.trans le
      have n5 : (gt e' 5).isOwn = false := fr.no 5 (by decide) n5
      have n7 : (gt e' 7).isOwn = false := fr.no 7 (by decide) n7
      have n9 : (gt e' 9).isOwn = false := fr.no 9 (by decide) n9
      have k0 := (fr.keep 0 (by decide)).trans g0
      have sl : sg.length = j := by have := congrArg List.length q2; rw [List.length_map, List.length_take] at this; omega
      obtain ⟨e3, m3, s, v1, v2, v3, v4, v5, v6, v7⟩ := sig_turn Φ R Nm h _ m' q4 (by omega) sg (by omega) t (st e' 5 (.val (.str t))) (by rw [st_length, l']) (by simp [gt_st, k0]) (by simp [gt_st, q1]) (by simp [gt_st, l']) (by simp [gt_st, n7]) (by simp [gt_st, n9])
      refine ⟨st e' 5 (.val (.str t)), e3, m3, by rw [bindG_nm, n5]; rfl, .inl v1, sg ++ [s], v2, ?_, fun s' hs' => ?_, v5.mono (by omega), q5.trans v6, fun _ => v7⟩
      · rw [List.map_append, q2, List.take_succ, ht]
        show _ ++ [s.name] = _
        rw [v3]; rfl
      · rcases List.mem_append.mp hs' with z | z
        · exact q3 s' z
        · rw [List.mem_singleton.mp z]; exact v4
  rw [List.length_map] at u3 u5 u8
  rw [List.take_length] at u3
  exact ⟨e2, m2, sg, u1, u2, u3, u4, u5, u6, u7, fun z => u8 (List.length_pos_iff.mpr z)⟩
theorem fns_loop2 (Φ : Fs) (R : SDraw Φ) (Nm : SNames Φ) (Bo : SBody Φ 12) (h : Nat) (c : Int) (m : Mem) (H : StAt m h c) (hc : c < 50000) (q : Int) (q1 : 1 ≤ q) (q2 : q ≤ 100000) (rooms : Nat) (r1 : 1 ≤ rooms) (r2 : rooms ≤ 12) (sg : List Sg) (sl : sg.length ≤ 100) (so : ∀ s ∈ sg, SgOk s)
    (E0 : Env) (le : E0.length = 15) (g0 : gt E0 0 = .val (.obj h)) (g1 : gt E0 1 = .val (.int q)) (g3 : gt E0 3 = .val (.int rooms)) (g4 : gt E0 4 = .val (.lst (sg.map Sg.d))) (g10 : gt E0 10 = .own (.lst [])) (n5 : (gt E0 5).isOwn = false) (n6 : (gt E0 6).isOwn = false) (n7 : (gt E0 7).isOwn = false) (n9 : (gt E0 9).isOwn = false) (n11 : (gt E0 11).isOwn = false) :
    ∃ (e2 : Env) (m2 : Mem) (fs : List Fu), forL (.tp (.cons (.nm 5) (.cons (.nm 6) (.cons (.nm 11) .nil)))) (fun e m => exSs Φ l__law_functions_7 e m) (sg.map Sg.d) E0 m = .nx e2 m2 ∧ gt e2 10 = .own (.lst (fs.map Fu.d)) ∧ fs.map Fu.sg = sg ∧ (∀ f ∈ fs, f.body.ok sg q f.sg.out f.sg.ps ∧ f.body.size ≤ rooms) ∧ StAt m2 h (c + 2000 * sg.length) ∧ Grw m m2 h := by
  obtain ⟨e2, m2, u1, ⟨fs, u2, u3, u4, u5, u6⟩, u7⟩ := fo_inv (Φ := Φ) (g := .tp (.cons (.nm 5) (.cons (.nm 6) (.cons (.nm 11) .nil)))) (b := l__law_functions_7) [5, 6, 11, 12, 13, 14, 10] [10, 12, 13] (fun j e' m' => ∃ fs : List Fu, gt e' 10 = .own (.lst (fs.map Fu.d)) ∧ fs.map Fu.sg = sg.take j ∧ (∀ f ∈ fs, f.body.ok sg q f.sg.out f.sg.ps ∧ f.body.size ≤ rooms) ∧ StAt m' h (c + 2000 * j) ∧ Grw m m' h) (ds := sg.map Sg.d) (env := E0) (m := m) (by decide) (by decide)
    ⟨[], g10, rfl, (fun _ z => nomatch z), H.mono (by omega), .refl _ _⟩ fun j d e' m' hj fr ⟨fs, p1, p2, p3, p4, p5⟩ => by
      rw [List.getElem?_map] at hj
      obtain ⟨s, hs, rfl⟩ := Option.map_eq_some_iff.mp hj
      have hjn : j < sg.length := (List.getElem?_eq_some_iff.mp hs).1
      have l' : e'.length = 15 := fr.len.trans le
      have n5 : (gt e' 5).isOwn = false := fr.no 5 (by decide) n5
      have n6 : (gt e' 6).isOwn = false := fr.no 6 (by decide) n6
      have n7 : (gt e' 7).isOwn = false := fr.no 7 (by decide) n7
      have n9 : (gt e' 9).isOwn = false := fr.no 9 (by decide) n9
      have n11 : (gt e' 11).isOwn = false := fr.no 11 (by decide) n11
      have k0 := (fr.keep 0 (by decide)).trans g0
      have k1 := (fr.keep 1 (by decide)).trans g1
      have k3 := (fr.keep 3 (by decide)).trans g3
      have k4 := (fr.keep 4 (by decide)).trans g4
      have fl : fs.length = j := by have := congrArg List.length p2; rw [List.length_map, List.length_take] at this; omega
      let e1 : Env := st (st (st e' 5 (.val (.str s.name))) 6 (.val (psD s.ps))) 11 (.val (kE s.out))
      obtain ⟨e3, m3, b, v1, v2, v3, v4, v5, v6⟩ := fun_turn Φ R Nm Bo h _ m' p4 (by omega) q q1 q2 rooms r1 r2 sg sl so s (List.mem_of_getElem? hs) fs (by omega) e1 (by simp [e1, st_length, l']) (by simp [e1, gt_st, k0]) (by simp [e1, gt_st, k1]) (by simp [e1, gt_st, k3]) (by simp [e1, gt_st, k4]) (by simp [e1, gt_st, l']) (by simp [e1, gt_st, st_length, l']) (by simp [e1, gt_st, st_length, l']) (by simp [e1, gt_st, p1]) (by simp [e1, gt_st, n7]) (by simp [e1, gt_st, n9])
      have bg : bindG (.tp (.cons (.nm 5) (.cons (.nm 6) (.cons (.nm 11) .nil)))) (Sg.d s) e' = some e1 := by
        have sd : Sg.d s = .tup [.str s.name, psD s.ps, kE s.out] := rfl
        rw [sd]
        simp [e1, n5, n6, n11, gt_st]
      refine ⟨e1, e3, m3, bg, .inl v1, fs ++ [⟨s, b⟩], v2, ?_, fun f hf => ?_, v5.mono (by omega), p5.trans v6⟩
      · rw [List.map_append, p2, List.take_succ, hs]; rfl
      · rcases List.mem_append.mp hf with z | z
        · exact p3 f z
        · rw [List.mem_singleton.mp z]; exact ⟨v3, v4⟩
  rw [List.length_map] at u3 u5
  rw [List.take_length] at u3
  exact ⟨e2, m2, fs, u1, u2, u3, u4, u5, u6⟩
/-- functions that are well made -/
structure FnsOk (q : Int) (rooms : Nat) (fs : List Fu) : Prop where
  pos : 1 ≤ fs.length
  names : Names (fs.map fun f => f.sg.name)
  sg : ∀ f ∈ fs, SgOk f.sg
  body : ∀ f ∈ fs, f.body.ok (fs.map Fu.sg) q f.sg.out f.sg.ps ∧ f.body.size ≤ rooms
def SFns (Φ : Fs) : Prop := ∀ (h : Nat) (c : Int) (m : Mem) (q : Int) (many rooms : Nat), StAt m h c → c < 20000 → 1 ≤ q → q ≤ 100000 → 1 ≤ many → many ≤ 8 → 1 ≤ rooms → rooms ≤ 12 →
    ∃ fs m', Φ 14 [.obj h, .int q, .int many, .int rooms] m = .ok (false, .tup (fs.map Fu.d)) m' ∧ FnsOk q rooms fs ∧ fs.length ≤ many ∧ StAt m' h (c + 20000) ∧ Grw m m' h
theorem bd_fns (Φ : Fs) (R : SDraw Φ) (Nm : SNames Φ) (Bo : SBody Φ 12) (h : Nat) (c : Int) (m : Mem) (q : Int) (many rooms : Nat) (H : StAt m h c) (hc : c < 20000) (q1 : 1 ≤ q) (q2 : q ≤ 100000) (y1 : 1 ≤ many) (y2 : many ≤ 8) (r1 : 1 ≤ rooms) (r2 : rooms ≤ 12) :
    ∃ fs m', runFn Φ f_14.fn [.obj h, .int q, .int many, .int rooms] m = .ok (false, .tup (fs.map Fu.d)) m' ∧ FnsOk q rooms fs ∧ fs.length ≤ many ∧ StAt m' h (c + 20000) ∧ Grw m m' h := by
  obtain ⟨d, m1, e1, d0, d1, H1, b1⟩ := R h many c m H (by omega) (by omega) (by omega)
  obtain ⟨n, rfl⟩ := Int.eq_ofNat_of_zero_le d0
  obtain ⟨ts, m2, e2, t1, t2, H2, b2⟩ := Nm h _ m1 (1 + n) H1 (by omega) (by omega)
  have n1 : ((1 + n : Nat) : Int) = 1 + (n : Int) := by omega
  rw [n1] at e2
  have tne : ts ≠ [] := fun z => by rw [z] at t1; simp at t1; omega
  obtain ⟨e3, m3, sg, u1, u2, u3, u4, H3, b3, fr, u6⟩ := fns_loop1 Φ R Nm h _ m2 H2 (by omega) ts (by omega) [.val (.obj h), .val (.int q), .val (.int many), .val (.int rooms), .own (.lst []), .no, .no, .no, .no, .no, .no, .no, .no, .no, .no] rfl rfl rfl rfl rfl rfl
  obtain ⟨x6, g6⟩ := u6 tne
  have l3 : e3.length = 15 := fr.len
  have sl : sg.length = 1 + n := by rw [← t1, ← u3, List.length_map]
  have k0 : gt e3 0 = .val (.obj h) := fr.keep 0 (by decide)
  have k1 : gt e3 1 = .val (.int q) := fr.keep 1 (by decide)
  have k3 : gt e3 3 = .val (.int rooms) := fr.keep 3 (by decide)
  have n5 : (gt e3 5).isOwn = false := fr.no 5 (by decide) rfl
  have n7 : (gt e3 7).isOwn = false := fr.no 7 (by decide) rfl
  have n9 : (gt e3 9).isOwn = false := fr.no 9 (by decide) rfl
  have n11 : (gt e3 11).isOwn = false := fr.no 11 (by decide) rfl
  let E3 : Env := st (st (st e3 10 (.own (.lst []))) 4 (.val (.lst (sg.map Sg.d)))) 6 (.val x6)
  obtain ⟨e4, m4, fs, v1, v2, v3, v4, H4, b4⟩ := fns_loop2 Φ R Nm Bo h _ m3 H3 (by omega) q q1 q2 rooms r1 r2 sg (by omega) u4 E3 (by simp [E3, st_length, l3]) (by simp [E3, gt_st, k0]) (by simp [E3, gt_st, k1]) (by simp [E3, gt_st, k3]) (by simp [E3, gt_st, st_length, l3]) (by simp [E3, gt_st, l3]) (by simp [E3, gt_st, n5]) (by simp [E3, gt_st, st_length, l3]) (by simp [E3, gt_st, n7]) (by simp [E3, gt_st, n9]) (by simp [E3, gt_st, n11])
  have fl : fs.length = 1 + n := by rw [← sl, ← v3, List.length_map]
  refine ⟨fs, m4, ?_, ⟨by omega, ?_, fun f hf => u4 f.sg (by rw [← v3]; exact List.mem_map.mpr ⟨f, hf, rfl⟩), fun f hf => by rw [v3]; exact v4 f hf⟩, by omega, H4.mono (by omega), ((b1.grw.trans b2.grw).trans b3.grw).trans b4⟩
  · have hb : f_14.fn = ⟨4, 15, false, b__law_functions⟩ := rfl
    rw [hb, run_eq _ _ rfl]
    simp only [E3] at v1
    generalize sg.map Sg.d = sgd at *
    generalize fs.map Fu.d = fsd at *
    simp [b__law_functions, e1, e2, isAs, u1, u2, g6, gt_st, st_length, l3, v1, v2]
  · have : (fs.map fun f => f.sg.name) = ts := by rw [← u3, ← v3, List.map_map]; rfl
    rw [this]; exact t2

/-! k55: figures, things as texts -/
def digs (n : Nat) : T := (Nat.toDigits 10 n).map Char.toNat
def figs (i : Int) : T := if i < 0 then 45 :: digs i.natAbs else digs i.natAbs
theorem toString_figs (i : Int) : (PySem.Str.ofString (toString i)).cps.toList = figs i := by
  cases i with
  | ofNat n =>
    have e : figs (Int.ofNat n) = digs n := by
      unfold figs
      rw [if_neg (by have : (0 : Int) ≤ Int.ofNat n := Int.natCast_nonneg n; omega)]; rfl
    rw [e]
    exact PySem.W.KIN.signs_num n
  | negSucc n =>
    have e : figs (Int.negSucc n) = 45 :: digs (n + 1) := by
      unfold figs
      rw [if_pos (Int.negSucc_lt_zero n)]; rfl
    rw [e, PyProof.Rows.signs_ofString]
    show (("-" ++ Nat.repr (n + 1) : String)).toList.map Char.toNat = _
    rw [String.toList_append, Nat.toList_repr]; rfl
theorem strD_int {i : Int} (h : i.natAbs.log2 < 1920) : U1.run .str (.int i) = some (.str (figs i)) := by
  show (if i.natAbs.log2 < 1920 then some (D.str (PySem.Str.ofString (toString i)).cps.toList) else none) = _
  rw [if_pos h, toString_figs]
theorem digs_step (n : Nat) (h : 10 ≤ n) : digs n = digs (n / 10) ++ [48 + n % 10] := by
  have hm : n % 10 < 10 := Nat.mod_lt n (by decide)
  have t : Nat.toDigits 10 (n / 10) ++ Nat.toDigits 10 (n % 10) = Nat.toDigits 10 (10 * (n / 10) + n % 10) := Nat.toDigits_append_toDigits (by decide) (by omega) hm
  rw [Nat.div_add_mod] at t
  unfold digs
  rw [← t, List.map_append, Nat.toDigits_of_lt_base hm]
  have dc : ∀ d : Nat, d < 10 → (Nat.digitChar d).toNat = 48 + d := by decide
  show _ ++ [(Nat.digitChar (n % 10)).toNat] = _
  rw [dc _ hm]
theorem digs_small (n : Nat) (h : n < 10) : digs n = [48 + n] := by
  unfold digs
  rw [Nat.toDigits_of_lt_base h]
  have dc : ∀ d : Nat, d < 10 → (Nat.digitChar d).toNat = 48 + d := by decide
  show [(Nat.digitChar n).toNat] = _
  rw [dc _ h]
/-- no figures of nought -/
def dg (n : Nat) : T := if n = 0 then [] else digs n
theorem dg_step (n : Nat) (h : 0 < n) : dg n = dg (n / 10) ++ [48 + n % 10] := by
  unfold dg
  rw [if_neg (by omega)]
  by_cases h10 : n < 10
  · rw [if_pos (by omega), digs_small n h10, Nat.mod_eq_of_lt h10]; rfl
  · rw [if_neg (by omega), digs_step n (by omega)]
theorem ten_at (d : Nat) (h : d < 10) : atI [48, 49, 50, 51, 52, 53, 54, 55, 56, 57] (d : Int) = some (48 + d) := by
  have : ∀ i : Fin 10, atI [48, 49, 50, 51, 52, 53, 54, 55, 56, 57] ((i.1 : Nat) : Int) = some (48 + i.1) := by decide +kernel
  exact this ⟨d, h⟩
theorem digs_ok (n : Nat) : ∀ c ∈ digs n, 48 ≤ c ∧ c < 58 := by
  induction n using Nat.strongRecOn with
  | _ n ih =>
    by_cases h : n < 10
    · rw [digs_small n h]
      intro c hc
      rw [List.mem_singleton.mp hc]; omega
    · rw [digs_step n (by omega)]
      intro c hc
      rcases List.mem_append.mp hc with q | q
      · exact ih (n / 10) (by omega) c q
      · rw [List.mem_singleton.mp q]; omega
theorem digs_ne (n : Nat) : digs n ≠ [] := by
  by_cases h : n < 10
  · rw [digs_small n h]; simp
  · rw [digs_step n (by omega)]; simp
theorem figs_ne (i : Int) : figs i ≠ [] := by
  unfold figs
  split
  · simp
  · exact digs_ne _
theorem digs_len (k : Nat) : ∀ n : Nat, n < 10 ^ (k + 1) → (digs n).length ≤ k + 1 := by
  induction k with
  | zero => intro n h; rw [digs_small n (by omega)]; exact Nat.le_refl _
  | succ k ih =>
    intro n h
    by_cases h10 : n < 10
    · rw [digs_small n h10]; simp
    · rw [digs_step n (by omega), List.length_append, List.length_singleton]
      have : n / 10 < 10 ^ (k + 1) := by rw [Nat.div_lt_iff_lt_mul (by decide)]; rw [← Nat.pow_succ]; exact h
      have := ih _ this
      omega
abbrev small60 (i : Int) : Prop := i.natAbs < 10 ^ 60
theorem figs_len {i : Int} (h : small60 i) : (figs i).length ≤ 61 := by
  have := digs_len 59 i.natAbs h
  unfold figs
  split
  · rw [List.length_cons]; omega
  · omega
theorem figs_okc (i : Int) : ∀ c ∈ figs i, 44 ≤ c ∧ c < 58 := by
  unfold figs
  split
  · intro c hc
    rcases List.mem_cons.mp hc with rfl | q
    · decide
    · have := digs_ok _ c q; omega
  · intro c hc
    have := digs_ok _ c hc; omega
theorem figs_okT {i : Int} (h : small60 i) : okT (figs i) = true := okT_iff.mpr ⟨fun c hc => by have := figs_okc i c hc; omega, Nat.le_trans (figs_len h) (by decide)⟩
theorem log_small {i : Int} (h : small60 i) : i.natAbs.log2 < 1920 := by
  by_cases h0 : i.natAbs = 0
  · rw [h0]; decide
  · rw [Nat.log2_lt h0]
    exact Nat.lt_of_lt_of_le h (by decide +kernel)
def SFig (Φ : Fs) : Prop := ∀ (i : Int) (m : Mem), small60 i → Φ 15 [.int i] m = .ok (false, .str (figs i)) m
theorem mul_s0 (c : Nat) : Bop.run .mul (.str [c]) (.int 0) = some (.str []) := rfl
theorem mul_s1 (c : Nat) : Bop.run .mul (.str [c]) (.int 1) = some (.str [c]) := rfl
theorem bd_fig (Φ : Fs) (i : Int) (m : Mem) (hi : small60 i) : runFn Φ f_15.fn [.int i] m = .ok (false, .str (figs i)) m := by
  have hi' : i.natAbs < 10 ^ 60 := hi
  let E0 : Env := [.val (.int i), .val (.int i.natAbs), .val (.str (if i = 0 then [48] else []))]
  obtain ⟨j, e5, m5, e6, m6, w1, ⟨w2, l, f, w3, w4, w5, w8, w9⟩, w10, w6, we, w7⟩ := wh_inv (Φ := Φ) (t := t__law_figures_0) (b := l__law_figures_1) [1, 2] [] (fun j e' m' => m' = m ∧ ∃ (l : Nat) (f : T), gt e' 1 = .val (.int l) ∧ gt e' 2 = .val (.str f) ∧ l ≤ i.natAbs / 10 ^ j ∧ (if i = 0 then f = [48] else dg l ++ f = dg i.natAbs) ∧ f.length ≤ j + 1) 61 (env := E0) (m := m) (by decide) (by decide) (by decide)
    ⟨rfl, i.natAbs, if i = 0 then [48] else [], rfl, rfl, by simp, by split <;> simp, by split <;> simp⟩ fun j e' m' hj fr ⟨r1, l, f, r2, r3, r4, r5, r6⟩ => by
      subst r1
      have l' : e'.length = 3 := fr.len
      by_cases hl : 0 < l
      · have hj61 : j < 60 := by
          rcases Nat.lt_or_ge j 60 with z | z
          · exact z
          · have : (10 : Nat) ^ 60 ≤ 10 ^ j := Nat.pow_le_pow_right (by decide) z
            have : i.natAbs / 10 ^ j = 0 := Nat.div_eq_of_lt (by omega)
            omega
        have hi0 : i ≠ 0 := fun z => by subst z; simp at r4; omega
        rw [if_neg hi0] at r5
        have at' := ten_at (l % 10) (Nat.mod_lt _ (by decide))
        have c1 : (((l % 10 : Nat)) : Int) = (l : Int) % 10 := by omega
        have c2 : (((l / 10 : Nat)) : Int) = (l : Int) / 10 := by omega
        rw [c1] at at'
        refine .inr ⟨by omega, m', st (st e' 2 (.val (.str ((48 + l % 10) :: f)))) 1 (.val (.int (l / 10 : Nat))), m', ?_, .inl ?_, rfl, l / 10, (48 + l % 10) :: f, by simp [gt_st, st_length, l'], by simp [gt_st, st_length, l'], ?_, ?_, by rw [List.length_cons]; omega⟩
        · have : (0 : Int) < l := by omega
          simp [t__law_figures_0, r2, this, hl]
        · have ll : 1 + f.length ≤ line := by have : line = 16777216 := rfl; omega
          have d1 : (10 : Int) < 1073741824 := by decide
          rw [c2]
          simp [l__law_figures_1, r2, r3, gt_st, st_length, l', at', ll]
        · rw [Nat.pow_succ, ← Nat.div_div_eq_div_mul]
          exact Nat.div_le_div_right r4
        · rw [if_neg hi0, ← r5, dg_step l hl, List.append_assoc]; rfl
      · have z : l = 0 := by omega
        subst z
        exact .inl ⟨m', by simp [t__law_figures_0, r2]⟩
  rw [we] at w7
  subst w2
  have l5 : e5.length = 3 := w10.len
  have k0 : gt e5 0 = .val (.int i) := w10.keep 0 (by decide)
  have l0 : l = 0 := by
    rcases Nat.eq_zero_or_pos l with z | z
    · exact z
    · simp [t__law_figures_0, w3] at w6
      exact w6.1
  have em : m5 = m6 := by
    simp [t__law_figures_0, w3] at w6
    exact w6.2
  subst em
  subst l0
  have fd : f = digs i.natAbs := by
    by_cases hi0 : i = 0
    · rw [if_pos hi0] at w8
      rw [w8, hi0]; rfl
    · rw [if_neg hi0] at w8
      have z : dg 0 = [] := rfl
      have z' : dg i.natAbs = digs i.natAbs := by unfold dg; rw [if_neg (by omega)]
      rw [z, List.nil_append, z'] at w8
      exact w8
  have mx : (if 0 - i > i then 0 - i else i) = (i.natAbs : Int) := by split <;> omega
  have hb : f_15.fn = ⟨1, 3, false, b__law_figures⟩ := rfl
  have fl := w9
  have ll : 1 + f.length ≤ line := by have : line = 16777216 := rfl; omega
  have ll' : f.length ≤ line := by omega
  rw [hb, run_eq _ _ rfl]
  simp only [E0] at w7
  by_cases hi0 : i = 0
  · subst hi0
    rw [if_pos rfl] at w7
    have ex : figs 0 = f := by rw [fd]; rfl
    rw [ex]
    have w7' : whL (fun e m => evE Φ t__law_figures_0 e m) (fun e m => exSs Φ l__law_figures_1 e m) most [.val (.int 0), .val (.int 0), .val (.str [48])] m5 = .nx e5 m5 := w7
    simp [b__law_figures, w7', k0, w4, int_f, mul_s0, ll']
  · rw [if_neg hi0] at w7
    have n0 : ((i.natAbs : Int) == 0) = false := by
      have : ¬ (i.natAbs : Int) = 0 := by omega
      simpa using this
    by_cases hn : i < 0
    · have ex : figs i = 45 :: f := by unfold figs; rw [if_pos hn, fd]
      rw [ex]
      simp [b__law_figures, -Int.zero_sub, mx, n0, w7, k0, w4, hn, int_t, mul_s1, ll]
    · have ex : figs i = f := by unfold figs; rw [if_neg hn, fd]
      rw [ex]
      simp [b__law_figures, -Int.zero_sub, mx, n0, w7, k0, w4, hn, int_f, mul_s0, ll']

/-! k55: numbers and rows -/
inductive Th where
  | num (i : Int)
  | row (is : List Int)
def Th.d : Th → D
  | .num i => .int i
  | .row is => .tup (is.map .int)
def Th.ok : Th → Prop
  | .num i => small60 i
  | .row is => (∀ i ∈ is, small60 i) ∧ is.length ≤ 5
def Th.t : Th → T
  | .num i => figs i
  | .row is => 91 :: (joinT [44] (is.map figs) ++ [93])
theorem ty_ti : (Ty.tuple == Ty.int) = false := rfl
theorem joinT_snoc (s : T) (x : T) : ∀ ts : List T, joinT s (ts ++ [x]) = if ts = [] then x else joinT s ts ++ s ++ x
  | [] => rfl
  | [t] => by
    rw [if_neg (by simp)]
    show t ++ s ++ x = t ++ s ++ x
    rfl
  | t :: u :: r => by
    have ih := joinT_snoc s x (u :: r)
    rw [if_neg (by simp)] at ih ⊢
    show t ++ s ++ joinT s ((u :: r) ++ [x]) = t ++ s ++ joinT s (u :: r) ++ s ++ x
    rw [ih]; simp only [List.append_assoc]
theorem strsO_map : ∀ ts : List T, strsO (ts.map D.str) = some ts
  | [] => rfl
  | t :: ts => by
    show (strsO (ts.map D.str)).map _ = _
    rw [strsO_map ts]; rfl
theorem joinT_len (s : T) (k : Nat) : ∀ ts : List T, (∀ t ∈ ts, t.length ≤ k) → (joinT s ts).length ≤ ts.length * (k + s.length)
  | [], _ => Nat.zero_le _
  | [t], h => by
    have := h t List.mem_cons_self
    show t.length ≤ _
    simp; omega
  | t :: u :: r, h => by
    have ih := joinT_len s k (u :: r) fun y hy => h y (List.mem_cons_of_mem _ hy)
    have h1 := h t List.mem_cons_self
    show (t ++ s ++ joinT s (u :: r)).length ≤ _
    rw [List.length_append, List.length_append, List.length_cons, Nat.succ_mul]
    omega
theorem joinLen_le (s : T) (k : Nat) : ∀ ts : List T, (∀ t ∈ ts, t.length ≤ k) → joinLen s ts ≤ ts.length * (k + s.length)
  | [], _ => Nat.zero_le _
  | t :: r, h => by
    have ih := joinLen_le s k r fun y hy => h y (List.mem_cons_of_mem _ hy)
    have h1 := h t List.mem_cons_self
    show t.length + s.length + joinLen s r ≤ _
    rw [List.length_cons, Nat.succ_mul]
    omega
theorem joinT_mem (s : T) {p : Nat → Prop} (hs : ∀ c ∈ s, p c) : ∀ ts : List T, (∀ t ∈ ts, ∀ c ∈ t, p c) → ∀ c ∈ joinT s ts, p c
  | [], _ => fun _ z => nomatch z
  | [t], h => h t List.mem_cons_self
  | t :: u :: r, h => fun c hc => by
    have hc : c ∈ t ++ s ++ joinT s (u :: r) := hc
    rw [List.mem_append, List.mem_append] at hc
    rcases hc with (q | q) | q
    · exact h t List.mem_cons_self c q
    · exact hs c q
    · exact joinT_mem s hs (u :: r) (fun y hy => h y (List.mem_cons_of_mem _ hy)) c q
theorem joinT_ne (s : T) : ∀ ts : List T, ts ≠ [] → (∀ t ∈ ts, t ≠ []) → joinT s ts ≠ []
  | [], h, _ => absurd rfl h
  | [t], _, h => h t List.mem_cons_self
  | t :: u :: r, _, h => fun e => h t List.mem_cons_self (by
    have e : t ++ s ++ joinT s (u :: r) = [] := e
    exact (List.append_eq_nil_iff.mp (List.append_eq_nil_iff.mp e).1).1)
theorem figs_all {is : List Int} (h : ∀ i ∈ is, small60 i) : ∀ t ∈ is.map figs, t.length ≤ 61 := fun t ht => by
  obtain ⟨i, hi, rfl⟩ := List.mem_map.mp ht
  exact figs_len (h i hi)
theorem th_ne (t : Th) : t.t ≠ [] := by
  cases t with
  | num i => exact figs_ne i
  | row is => exact fun e => nomatch e
theorem th_len {t : Th} (h : t.ok) : t.t.length ≤ 400 := by
  cases t with
  | num i => have := figs_len h; show (figs i).length ≤ 400; omega
  | row is =>
    have := joinT_len [44] 61 (is.map figs) (figs_all h.1)
    have l := h.2
    rw [List.length_map] at this
    show (91 :: (joinT [44] (is.map figs) ++ [93])).length ≤ 400
    rw [List.length_cons, List.length_append, List.length_singleton]
    have : is.length * (61 + [44].length) ≤ 5 * 62 := Nat.mul_le_mul_right _ l
    omega
theorem th_ascii (t : Th) : ∀ c ∈ t.t, c < 128 := by
  have fa : ∀ i, ∀ c ∈ figs i, c < 128 := fun i c hc => by have := figs_okc i c hc; omega
  cases t with
  | num i => exact fa i
  | row is =>
    intro c hc
    have hc : c ∈ 91 :: (joinT [44] (is.map figs) ++ [93]) := hc
    rcases List.mem_cons.mp hc with rfl | hc
    · decide
    · rcases List.mem_append.mp hc with q | q
      · refine joinT_mem [44] (p := fun c => c < 128) (by decide) (is.map figs) (fun t ht => ?_) c q
        obtain ⟨i, _, rfl⟩ := List.mem_map.mp ht
        exact fa i
      · rw [List.mem_singleton.mp q]; decide
theorem joinX_strs (s : T) (ts : List T) (h : joinLen s ts ≤ line) : joinX (.str s) (.lst (ts.map .str)) = some (.str (joinT s ts)) := by
  show (strsO _).bind _ = _
  rw [strsO_map, Option.bind_some, if_pos h]
/-- the program's -/
def SThingT (Φ : Fs) : Prop := ∀ (t : Th) (m : Mem), t.ok → Φ 0 [t.d] m = .ok (false, .str t.t) m
theorem bd_thingT (Φ : Fs) (t : Th) (m : Mem) (h : t.ok) : runFn Φ f_0.fn [t.d] m = .ok (false, .str t.t) m := by
  rw [run_eq _ _ rfl]
  cases t with
  | num i =>
    have si := strD_int (log_small h)
    simp [f_0, b_thing_text, Th.d, isT, ty_ti, si, Th.t]
  | row is =>
    have cm : compL [.val (.tup (is.map .int)), .no] (.nm 1) (fun e m => .ok (.bl true) m) (fun e m => evE Φ c_thing_text_0 e m) (is.map .int) m = .ok ((is.map figs).map .str) m := by
      rw [List.map_map]
      exact compL_map D.int (fun i => .str (figs i)) m is fun i hi => ⟨[.val (.tup (is.map .int)), .val (.int i)], rfl, rfl, by
        have si := strD_int (log_small (h.1 i hi))
        simp [c_thing_text_0, si]⟩
    have jl := joinLen_le [44] 61 (is.map figs) (figs_all h.1)
    have jm := joinT_len [44] 61 (is.map figs) (figs_all h.1)
    rw [List.length_map] at jl jm
    have hl := h.2
    have e5 : is.length * (61 + [44].length) ≤ 5 * 62 := Nat.mul_le_mul_right _ hl
    have hline : line = 16777216 := rfl
    have jx := joinX_strs [44] (is.map figs) (by omega)
    have dl : (is.map D.int).length ≤ line := by rw [List.length_map]; omega
    have l1 : 1 + (joinT [44] (is.map figs)).length ≤ line := by omega
    have l2 : (joinT [44] (is.map figs)).length + 1 + 1 ≤ line := by omega
    simp only [Th.d, Th.t]
    generalize is.map D.int = ds at *
    generalize (is.map figs).map D.str = ss at *
    generalize joinT [44] (is.map figs) = jt at *
    simp [f_0, b_thing_text, isT, noOwn, wipeE, dl, cm, jx, l1, l2]
/-- the law's -/
def SThing (Φ : Fs) : Prop := ∀ (t : Th) (m : Mem), t.ok → Φ 16 [t.d] m = .ok (false, .str t.t) m
theorem bd_thing (Φ : Fs) (Fg : SFig Φ) (t : Th) (m : Mem) (h : t.ok) : runFn Φ f_16.fn [t.d] m = .ok (false, .str t.t) m := by
  rw [run_eq _ _ rfl]
  cases t with
  | num i =>
    have si := Fg i m h
    simp [f_16, b__law_thing, Th.d, isT, ty_ti, si, Th.t]
  | row is =>
    obtain ⟨e2, m2, u1, ⟨u2, u3⟩, u4⟩ := fo_inv (Φ := Φ) (g := .nm 2) (b := l__law_thing_0) [1, 2] [] (fun j e' m' => m' = m ∧ gt e' 1 = .val (.str (joinT [44] ((is.map figs).take j)))) (ds := is.map .int) (env := [.val (.tup (is.map .int)), .val (.str []), .no]) (m := m) (by decide) (by decide)
      ⟨rfl, rfl⟩ fun j d e' m' hj fr ⟨q1, q2⟩ => by
        subst q1
        rw [List.getElem?_map] at hj
        obtain ⟨i, hi, rfl⟩ := Option.map_eq_some_iff.mp hj
        have hjn : j < is.length := (List.getElem?_eq_some_iff.mp hi).1
        have l' : e'.length = 3 := fr.len
        have n2 : (gt e' 2).isOwn = false := fr.no 2 (by decide) rfl
        have hmem := List.mem_of_getElem? hi
        have fg := Fg i m' (h.1 i hmem)
        have fl := figs_len (h.1 i hmem)
        have tk : (is.map figs).take (j + 1) = (is.map figs).take j ++ [figs i] := by rw [List.take_succ, List.getElem?_map, hi]; rfl
        have jm := joinT_len [44] 61 ((is.map figs).take j) fun t ht => figs_all h.1 t (List.mem_of_mem_take ht)
        have l5 := h.2
        have tl : ((is.map figs).take j).length = j := by rw [List.length_take, List.length_map]; omega
        rw [tl] at jm
        have e5 : j * (61 + [44].length) ≤ 5 * 62 := Nat.mul_le_mul_right _ (by omega)
        have hline : line = 16777216 := rfl
        refine ⟨st e' 2 (.val (.int i)), st (st e' 2 (.val (.int i))) 1 (.val (.str (joinT [44] ((is.map figs).take (j + 1))))), m', by rw [bindG_nm, n2]; rfl, .inl ?_, rfl, by simp [gt_st, st_length, l']⟩
        rw [tk, joinT_snoc]
        by_cases h0 : (is.map figs).take j = []
        · rw [if_pos h0]
          rw [h0] at q2
          have q2 : gt e' 1 = .val (.str []) := q2
          have ll : (figs i).length ≤ line := by omega
          simp [l__law_thing_0, gt_st, st_length, l', q2, int_f, mul_s0, fg, ll]
        · rw [if_neg h0]
          have ne : joinT [44] ((is.map figs).take j) ≠ [] := joinT_ne [44] _ h0 fun t ht => by
            obtain ⟨i', _, rfl⟩ := List.mem_map.mp (List.mem_of_mem_take ht)
            exact figs_ne i'
          generalize joinT [44] ((is.map figs).take j) = jt at *
          have ll : jt.length + 1 ≤ line := by omega
          have ll2 : jt.length + 1 + (figs i).length ≤ line := by omega
          have ne' : (jt == ([] : T)) = false := by simpa using ne
          have ne2 : (jt != ([] : T)) = true := by simpa using ne
          simp [l__law_thing_0, gt_st, st_length, l', q2, ne, ne', ne2, int_t, mul_s1, fg, ll, ll2]
    subst u2
    rw [List.length_map, List.take_of_length_le (by rw [List.length_map]; exact Nat.le_refl _)] at u3
    have l2 : e2.length = 3 := u4.len
    have jm := joinT_len [44] 61 (is.map figs) (figs_all h.1)
    rw [List.length_map] at jm
    have hl := h.2
    have e5 : is.length * (61 + [44].length) ≤ 5 * 62 := Nat.mul_le_mul_right _ hl
    have hline : line = 16777216 := rfl
    simp only [Th.d, Th.t]
    generalize is.map D.int = ds at *
    generalize joinT [44] (is.map figs) = jt at *
    have l1 : 1 + jt.length ≤ line := by omega
    have l3 : jt.length + 1 + 1 ≤ line := by omega
    simp [f_16, b__law_thing, isT, isAs, u1, u3, l1, l3]
/-- drawn -/
def SAny (Φ : Fs) : Prop := ∀ (h : Nat) (c : Int) (m : Mem) (k : Kd) (is : List Int), StAt m h c → c < 700000 → (∀ i ∈ is, small60 i) → 0 < is.length → is.length ≤ 1000 → ∃ t m', Φ 17 [.obj h, kE k, .lst (is.map .int)] m = .ok (false, Th.d t) m' ∧ t.ok ∧ StAt m' h (c + 8) ∧ But m m' h
theorem bd_any (Φ : Fs) (R : SDraw Φ) (O : SOf Φ) (h : Nat) (c : Int) (m : Mem) (k : Kd) (is : List Int) (H : StAt m h c) (hc : c < 700000) (hi : ∀ i ∈ is, small60 i) (i0 : 0 < is.length) (i1 : is.length ≤ 1000) : ∃ t m', runFn Φ f_17.fn [.obj h, kE k, .lst (is.map .int)] m = .ok (false, Th.d t) m' ∧ t.ok ∧ StAt m' h (c + 8) ∧ But m m' h := by
  rw [run_eq _ _ rfl]
  cases k with
  | nb =>
    obtain ⟨x, m1, e1, hx, H1, b1⟩ := O h c m (is.map .int) H (by omega) (by rw [List.length_map]; omega) (by rw [List.length_map]; omega)
    obtain ⟨i, hm, rfl⟩ := List.mem_map.mp hx
    refine ⟨.num i, m1, ?_, hi i hm, H1.mono (by omega), b1⟩
    simp [f_17, b__law_any, kE, Kd.t, e1, Th.d]
  | rw =>
    obtain ⟨d, m1, e1, d0, d1, H1, b1⟩ := R h 6 c m H (by omega) (by decide) (by decide)
    obtain ⟨n, rfl⟩ := Int.eq_ofNat_of_zero_le d0
    have rg : rngOk (n : Int) = true := by unfold rngOk; exact decide_eq_true ⟨by omega, by omega⟩
    have rl : (rngL 0 n).length ≤ line := by rw [rngL_len]; have : line = 16777216 := rfl; omega
    obtain ⟨ys, m3, h3, q3, hy, hp⟩ := compL_ex (env := [.val (.obj h), .val (kE .rw), .val (.lst (is.map .int)), .no]) (g := .nm 3) (elt := fun e m => evE Φ c__law_any_0 e m) (tst := fun e m => .ok (.bl true) m)
      (fun i m' => i ≤ n → StAt m' h (c + 1 + i) ∧ But m1 m' h) (fun _ y => ∃ i ∈ is, y = .int i) (rngL 0 n) 0 m1 (fun _ => ⟨H1.mono (by omega), .refl _ _⟩) (fun j d m' hj q => by
        have hjn : 0 + j < n := by have := (List.getElem?_eq_some_iff.mp hj).1; rw [rngL_len] at this; omega
        obtain ⟨Hj, bj⟩ := q (by omega)
        obtain ⟨x, m4, e4, hx, H4, b4⟩ := O h _ m' (is.map .int) Hj (by omega) (by rw [List.length_map]; omega) (by rw [List.length_map]; omega)
        obtain ⟨i, hm, rfl⟩ := List.mem_map.mp hx
        exact ⟨[.val (.obj h), .val (kE .rw), .val (.lst (is.map .int)), .val d], .int i, m4, rfl, rfl, by simp [c__law_any_0, e4], ⟨i, hm, rfl⟩, fun _ => ⟨H4.mono (by omega), bj.trans b4⟩⟩)
    rw [rngL_len, Nat.zero_add] at q3
    rw [rngL_len] at hy
    obtain ⟨H3, b3⟩ := q3 (Nat.le_refl _)
    obtain ⟨js, rfl, hjs⟩ : ∃ js : List Int, ys = js.map .int ∧ ∀ j ∈ js, j ∈ is := by
      have gen : ∀ ys : List D, (∀ y ∈ ys, ∃ i ∈ is, y = .int i) → ∃ js : List Int, ys = js.map .int ∧ ∀ j ∈ js, j ∈ is := fun ys => by
        induction ys with
        | nil => exact fun _ => ⟨[], rfl, fun _ z => nomatch z⟩
        | cons y ys ih =>
          intro hh
          obtain ⟨i, hi, rfl⟩ := hh y List.mem_cons_self
          obtain ⟨js, rfl, hj⟩ := ih fun z hz => hh z (List.mem_cons_of_mem _ hz)
          exact ⟨i :: js, rfl, fun j h => (List.mem_cons.mp h).elim (fun e => e ▸ hi) (hj j)⟩
      exact gen ys fun y hy => by
        obtain ⟨j, hj⟩ := List.getElem?_of_mem hy
        exact hp j y hj
    rw [List.length_map] at hy
    refine ⟨.row js, m3, ?_, ⟨fun j hj => hi j (hjs j hj), by omega⟩, H3.mono (by omega), b1.trans b3⟩
    simp only [kE, Kd.t] at h3 ⊢
    generalize is.map D.int = id' at *
    simp [f_17, b__law_any, e1, rg, noOwn, wipeE, rl, h3, Th.d]

/-! k55: faults; ends told -/
def Rt.word : Rt → T
  | .part _ _ => [112, 97, 114, 116]
  | .wth _ _ _ => [112, 97, 114, 116]
  | .cut _ _ => [99, 117, 116]
  | _ => []
/-- the words of a body's faults, each with its node's number -/
def flts : Bd → Nat → List (T × Nat)
  | .give _, _ => []
  | .lt _ r b, a => (if r.word = [] then [] else [(r.word, a)]) ++ flts b (a + 1)
  | .must _ _ c, a => ([109, 117, 115, 116], a) :: flts c (a + 1)
  | .ite _ _ c e, a => flts c (a + 1) ++ flts e (a + 1 + c.size)
theorem flts_len : ∀ (b : Bd) (a : Nat), (flts b a).length ≤ b.size
  | .give _, _ => Nat.zero_le _
  | .lt _ r b, a => by
    have := flts_len b (a + 1)
    show ((if r.word = [] then [] else [(r.word, a)]) ++ flts b (a + 1)).length ≤ b.size + 1
    rw [List.length_append]
    split
    · simp; omega
    · simp; omega
  | .must _ _ c, a => by
    have := flts_len c (a + 1)
    show (flts c (a + 1)).length + 1 ≤ c.size + 1
    omega
  | .ite _ _ c e, a => by
    have h1 := flts_len c (a + 1)
    have h2 := flts_len e (a + 1 + c.size)
    show (flts c (a + 1) ++ flts e (a + 1 + c.size)).length ≤ c.size + e.size + 1
    rw [List.length_append]; omega
def wds : List T := [[109, 117, 115, 116], [112, 97, 114, 116], [99, 117, 116]]
theorem flts_mem : ∀ (b : Bd) (a : Nat) (p : T × Nat), p ∈ flts b a → p.1 ∈ wds ∧ p.2 < a + b.size
  | .give _, _, _, h => nomatch h
  | .lt _ r b, a, p, h => by
    have h : p ∈ (if r.word = [] then [] else [(r.word, a)]) ++ flts b (a + 1) := h
    show p.1 ∈ wds ∧ p.2 < a + (b.size + 1)
    rcases List.mem_append.mp h with q | q
    · cases r <;> simp [Rt.word] at q <;> (subst q; exact ⟨by simp [wds], by show a < _; omega⟩)
    · have := flts_mem b (a + 1) p q
      exact ⟨this.1, by omega⟩
  | .must _ _ c, a, p, h => by
    have h : p ∈ ([109, 117, 115, 116], a) :: flts c (a + 1) := h
    show p.1 ∈ wds ∧ p.2 < a + (c.size + 1)
    rcases List.mem_cons.mp h with rfl | q
    · exact ⟨by simp [wds], by show a < _; omega⟩
    · have := flts_mem c (a + 1) p q
      exact ⟨this.1, by omega⟩
  | .ite _ _ c e, a, p, h => by
    have h : p ∈ flts c (a + 1) ++ flts e (a + 1 + c.size) := h
    show p.1 ∈ wds ∧ p.2 < a + (c.size + e.size + 1)
    rcases List.mem_append.mp h with q | q
    · have := flts_mem c (a + 1) p q
      exact ⟨this.1, by omega⟩
    · have := flts_mem e (a + 1 + c.size) p q
      exact ⟨this.1, by omega⟩
def fltD (f : Nat) (p : T × Nat) : D := .tup [.str [102, 97, 117, 108, 116], .str p.1, .int f, .int p.2]
theorem bd_pos (b : Bd) : 1 ≤ b.size := by cases b <;> simp [Bd.size]
def SFaults (Φ : Fs) (r : Nat) : Prop := ∀ (b : Bd) (f a hf : Nat) (xs : List D) (m : Mem), b.size ≤ r → m[hf]? = some (.lst xs) → xs.length + b.size ≤ 1000 →
    Φ 18 [b.d, .int f, .int a, .obj hf] m = .ok (false, .int ((a + b.size : Nat) : Int)) (m.set hf (.lst (xs ++ (flts b a).map (fltD f))))
theorem set_self {m : Mem} {h : Nat} {x : D} (e : m[h]? = some x) : m.set h x = m := by
  refine List.ext_getElem? fun j => ?_
  by_cases hj : h = j
  · subst hj
    rw [List.getElem?_set_self (List.getElem?_eq_some_iff.mp e).1, e]
  · rw [List.getElem?_set_ne hj]
theorem set_set' {m : Mem} {h : Nat} {x y : D} : (m.set h x).set h y = m.set h y := List.set_set ..
def sizes : List Bd → Nat
  | [] => 0
  | b :: r => b.size + sizes r
def fltsL : List Bd → Nat → List (T × Nat)
  | [], _ => []
  | b :: r, a => flts b a ++ fltsL r (a + b.size)
theorem kids_loop (Φ : Fs) (r : Nat) (F : SFaults Φ r) (f hf : Nat) : ∀ (kids : List Bd) (a : Nat) (xs : List D) (m : Mem) (e : Env), (∀ b ∈ kids, b.size ≤ r) → m[hf]? = some (.lst xs) → xs.length + sizes kids ≤ 1000 → e.length = 6 → gt e 1 = .val (.int f) → gt e 2 = .val (.int a) → gt e 3 = .val (.obj hf) → (gt e 5).isOwn = false →
    ∃ e2, forL (.nm 5) (fun e m => exSs Φ l__law_faults_0 e m) (kids.map Bd.d) e m = .nx e2 (m.set hf (.lst (xs ++ (fltsL kids a).map (fltD f)))) ∧ gt e2 2 = .val (.int ((a + sizes kids : Nat) : Int))
  | [], a, xs, m, e, _, hm, _, _, _, g2, _, _ => ⟨e, by
    have : m.set hf (.lst (xs ++ (fltsL [] a).map (fltD f))) = m := by
      show m.set hf (.lst (xs ++ [])) = m
      rw [List.append_nil]; exact set_self hm
    rw [this]; rfl, g2⟩
  | b :: kids, a, xs, m, e, hs, hm, hl, le, g1, g2, g3, n5 => by
    have hl' : xs.length + (b.size + sizes kids) ≤ 1000 := hl
    have hb := F b f a hf xs m (hs b List.mem_cons_self) hm (by omega)
    have hlt : hf < m.length := (List.getElem?_eq_some_iff.mp hm).1
    have fl := flts_len b a
    let m1 : Mem := m.set hf (.lst (xs ++ (flts b a).map (fltD f)))
    let e1 : Env := st (st e 5 (.val b.d)) 2 (.val (.int ((a + b.size : Nat) : Int)))
    obtain ⟨e2, u1, u2⟩ := kids_loop Φ r F f hf kids (a + b.size) (xs ++ (flts b a).map (fltD f)) m1 e1 (fun b' h => hs b' (List.mem_cons_of_mem _ h)) (List.getElem?_set_self hlt) (by rw [List.length_append, List.length_map]; omega) (by simp [e1, st_length, le]) (by simp [e1, gt_st, g1]) (by simp [e1, gt_st, st_length, le]) (by simp [e1, gt_st, g3]) (by simp [e1, gt_st, st_length, le])
    refine ⟨e2, ?_, by rw [u2]; show Sl.val (D.int ((a + b.size + sizes kids : Nat) : Int)) = Sl.val (D.int ((a + (b.size + sizes kids) : Nat) : Int)); rw [Nat.add_assoc]⟩
    have ex : exSs Φ l__law_faults_0 (st e 5 (.val b.d)) m = .nx e1 m1 := by
      simp only [e1, m1]
      generalize (flts b a).map (fltD f) = fd at *
      generalize b.d = bd at *
      generalize ((a + b.size : Nat) : Int) = ab at *
      simp [l__law_faults_0, gt_st, st_length, le, g1, g2, g3, hb]
    rw [List.map_cons]
    unfold forL
    rw [bindG_nm, n5]
    show (match exSs Φ l__law_faults_0 (st e 5 (.val b.d)) m with
      | .nx e2 m2 => forL (.nm 5) (fun e m => exSs Φ l__law_faults_0 e m) (kids.map Bd.d) e2 m2
      | .ct e2 m2 => forL (.nm 5) (fun e m => exSs Φ l__law_faults_0 e m) (kids.map Bd.d) e2 m2
      | .bk e2 m2 => .nx e2 m2
      | .rt o d m2 => .rt o d m2
      | .ex d m2 => .ex d m2
      | .no => .no) = _
    rw [ex]
    show forL (.nm 5) (fun e m => exSs Φ l__law_faults_0 e m) (kids.map Bd.d) e1 m1 = _
    rw [u1]
    simp only [m1, set_set']
    show O.nx e2 (m.set hf (.lst (xs ++ (flts b a).map (fltD f) ++ (fltsL kids (a + b.size)).map (fltD f)))) = O.nx e2 (m.set hf (.lst (xs ++ (flts b a ++ fltsL kids (a + b.size)).map (fltD f))))
    rw [List.map_append, List.append_assoc]
def fTail : Ss := match b__law_faults with
  | .cons _ (.cons _ r) => r
  | _ => .nil
def one (w : T) (a : Nat) : List (T × Nat) := if w = [] then [] else [(w, a)]
theorem seqn {Φ : Fs} {s : S} {r : Ss} {e e1 : Mp.Env} {m m1 : Mem} (h : exS Φ s e m = .nx e1 m1) : exSs Φ (.cons s r) e m = exSs Φ r e1 m1 := by
  rw [ex_cons, h]; rfl
theorem faults_tail (Φ : Fs) (r : Nat) (F : SFaults Φ r) (f hf a : Nat) (w : T) (kids : List Bd) (xs : List D) (m : Mem) (x0 : D) (hk : ∀ b ∈ kids, b.size ≤ r) (hm : m[hf]? = some (.lst xs)) (hl : xs.length + 1 + sizes kids ≤ 1000)
    (hit : ∀ (e : Env) (m : Mem), gt e 0 = .val x0 → evI Φ (.it (.ex (.ite (.cmp .ne (.ex (.idx (.ex (.var 0)) (.int 0))) (.ex (.str [103, 105, 118, 101]))) (.slc (.ex (.var 0)) (.so (.int 3)) .no) (.tup .nil)))) e m = .ok (kids.map Bd.d) m) :
    exSs Φ fTail [.val x0, .val (.int f), .val (.int a), .val (.obj hf), .val (.str w), .no] m = .rt false (.int ((a + 1 + sizes kids : Nat) : Int)) (m.set hf (.lst (xs ++ (one w a ++ fltsL kids (a + 1)).map (fltD f)))) := by
  have hlt : hf < m.length := (List.getElem?_eq_some_iff.mp hm).1
  have ol : (one w a).length ≤ 1 := by unfold one; split <;> simp
  let m1 : Mem := m.set hf (.lst (xs ++ (one w a).map (fltD f)))
  let e1 : Env := [.val x0, .val (.int f), .val (.int ((a + 1 : Nat) : Int)), .val (.obj hf), .val (.str w), .no]
  obtain ⟨e2, u1, u2⟩ := kids_loop Φ r F f hf kids (a + 1) (xs ++ (one w a).map (fltD f)) m1 e1 hk (List.getElem?_set_self hlt) (by rw [List.length_append, List.length_map]; omega) rfl rfl rfl rfl rfl
  have s3 : exS Φ (.oext (.var 3) (.bop .mul (.ex (.fr (.lst (.cons (.tup (.cons (.str [102, 97, 117, 108, 116]) (.cons (.var 4) (.cons (.var 1) (.cons (.var 2) .nil))))) .nil)))) (.ex (.u1 .int (.ex (.cmp .ne (.ex (.var 4)) (.ex (.str [])))))))) [.val x0, .val (.int f), .val (.int a), .val (.obj hf), .val (.str w), .no] m = .nx [.val x0, .val (.int f), .val (.int a), .val (.obj hf), .val (.str w), .no] m1 := by
    have lo : isLstO m (.obj hf) = true := by simp [isLstO, hm]
    have hline : line = 16777216 := rfl
    by_cases hw : w = []
    · subst hw
      have ml : ∀ d : D, Bop.run .mul (.lst [d]) (.int 0) = some (.lst []) := fun _ => rfl
      have ll : xs.length ≤ line := by omega
      have em : m1 = m := by
        show m.set hf (.lst (xs ++ [])) = m
        rw [List.append_nil]; exact set_self hm
      rw [em]
      have ss : sto m hf (.lst xs) = m := set_self hm
      simp [lo, int_f, ml, hm, ll, ss]
    · have ml : ∀ d : D, Bop.run .mul (.lst [d]) (.int 1) = some (.lst [d]) := fun _ => rfl
      have ll : xs.length + 1 ≤ line := by omega
      have em : m1 = sto m hf (.lst (xs ++ [.tup [.str [102, 97, 117, 108, 116], .str w, .int f, .int a]])) := by
        show m.set hf (.lst (xs ++ (one w a).map (fltD f))) = _
        unfold one
        rw [if_neg hw]; rfl
      rw [em]
      have ne : (w != ([] : T)) = true := by simpa using hw
      have ne' : (w == ([] : T)) = false := by simpa using hw
      simp [lo, ne, ne', hw, int_t, ml, hm, ll]
  have bd : fTail = .cons (.oext (.var 3) (.bop .mul (.ex (.fr (.lst (.cons (.tup (.cons (.str [102, 97, 117, 108, 116]) (.cons (.var 4) (.cons (.var 1) (.cons (.var 2) .nil))))) .nil)))) (.ex (.u1 .int (.ex (.cmp .ne (.ex (.var 4)) (.ex (.str [])))))))) (.cons (.set 2 (.bop .add (.ex (.var 2)) (.ex (.int 1)))) (.cons (.fo (.nm 5) (.it (.ex (.ite (.cmp .ne (.ex (.idx (.ex (.var 0)) (.int 0))) (.ex (.str [103, 105, 118, 101]))) (.slc (.ex (.var 0)) (.so (.int 3)) .no) (.tup .nil)))) l__law_faults_0) (.cons (.ret (.var 2)) .nil))) := rfl
  have s4 : exS Φ (.set 2 (.bop .add (.ex (.var 2)) (.ex (.int 1)))) [.val x0, .val (.int f), .val (.int a), .val (.obj hf), .val (.str w), .no] m1 = .nx e1 m1 := by
    simp only [e1]
    have : ((a + 1 : Nat) : Int) = (a : Int) + 1 := by omega
    rw [this]
    simp
  have h5 := hit e1 m1 rfl
  have s5 : exS Φ (.fo (.nm 5) (.it (.ex (.ite (.cmp .ne (.ex (.idx (.ex (.var 0)) (.int 0))) (.ex (.str [103, 105, 118, 101]))) (.slc (.ex (.var 0)) (.so (.int 3)) .no) (.tup .nil)))) l__law_faults_0) e1 m1 = .nx e2 (m1.set hf (.lst (xs ++ (one w a).map (fltD f) ++ (fltsL kids (a + 1)).map (fltD f)))) := by
    rw [ex_fo, if_pos (by rfl), h5]
    exact u1
  rw [bd, seqn s3, seqn s4, seqn s5]
  have fin : m1.set hf (.lst (xs ++ (one w a).map (fltD f) ++ (fltsL kids (a + 1)).map (fltD f))) = m.set hf (.lst (xs ++ (one w a ++ fltsL kids (a + 1)).map (fltD f))) := by
    simp only [m1, set_set', List.map_append, List.append_assoc]
  rw [fin]
  simp [u2]
theorem bd_faults (Φ : Fs) (r : Nat) (F : SFaults Φ r) (b : Bd) (f a hf : Nat) (xs : List D) (m : Mem) (hs : b.size ≤ r + 1) (hm : m[hf]? = some (.lst xs)) (hl : xs.length + b.size ≤ 1000) :
    runFn Φ f_18.fn [b.d, .int f, .int a, .obj hf] m = .ok (false, .int ((a + b.size : Nat) : Int)) (m.set hf (.lst (xs ++ (flts b a).map (fltD f)))) := by
  have hb : f_18.fn = ⟨4, 6, false, b__law_faults⟩ := rfl
  have bd : b__law_faults = .cons (.set 4 (.get (.ex (.fr (.dct false (.cons (.str [109, 117, 115, 116]) (.str [109, 117, 115, 116]) .nil)))) (.idx (.ex (.var 0)) (.int 0)) (.str []))) (.cons (.iff (.cmp .eq (.ex (.idx (.ex (.var 0)) (.int 0))) (.ex (.str [108, 101, 116]))) (.cons (.set 4 (.get (.ex (.fr (.dct false (.cons (.str [112, 97, 114, 116]) (.str [112, 97, 114, 116]) (.cons (.str [119, 105, 116, 104]) (.str [112, 97, 114, 116]) (.cons (.str [99, 117, 116]) (.str [99, 117, 116]) .nil)))))) (.idx (.ex (.idx (.ex (.var 0)) (.int 2))) (.int 0)) (.str []))) .nil) .nil) fTail) := rfl
  have mk1 : mergeK [] [(D.str [109, 117, 115, 116], D.str [109, 117, 115, 116])] = [(D.str [109, 117, 115, 116], D.str [109, 117, 115, 116])] := rfl
  have mk3 : mergeK [] [(D.str [112, 97, 114, 116], D.str [112, 97, 114, 116]), (D.str [119, 105, 116, 104], D.str [112, 97, 114, 116]), (D.str [99, 117, 116], D.str [99, 117, 116])] = [(D.str [112, 97, 114, 116], D.str [112, 97, 114, 116]), (D.str [119, 105, 116, 104], D.str [112, 97, 114, 116]), (D.str [99, 117, 116], D.str [99, 117, 116])] := rfl
  rw [hb, run_eq _ _ rfl, bd]
  cases b with
  | give h =>
    have tl := faults_tail Φ r F f hf a [] [] xs m (Bd.give h).d (fun _ z => nomatch z) hm (by show xs.length + 1 + 0 ≤ 1000; exact hl) fun e m g0 => by
      simp only [Bd.d] at g0
      simp [g0, at_0]
    have g1 : getK [(D.str [109, 117, 115, 116], D.str [109, 117, 115, 116])] (.str [103, 105, 118, 101]) = none := rfl
    have tl' : exSs Φ fTail [.val (Bd.give h).d, .val (.int f), .val (.int a), .val (.obj hf), .val (.str []), .no] m = .rt false (.int ((a + (Bd.give h).size : Nat) : Int)) (m.set hf (.lst (xs ++ (flts (.give h) a).map (fltD f)))) := tl
    simp only [Bd.d] at tl' ⊢
    generalize fTail = X at *
    simp [at_0, mk1, g1, isDct, tl']
  | lt x rt b =>
    have hs' : b.size + 1 ≤ r + 1 := hs
    have hl' : xs.length + (b.size + 1) ≤ 1000 := hl
    have tl := faults_tail Φ r F f hf a rt.word [b] xs m (Bd.lt x rt b).d (fun b' z => by rw [List.mem_singleton.mp z]; omega) hm (by show xs.length + 1 + (b.size + 0) ≤ 1000; omega) fun e m g0 => by
      simp only [Bd.d] at g0
      have cu : ∀ a b c d : D, cut [a, b, c, d] (some 3) none = [d] := fun _ _ _ _ => rfl
      simp [g0, at_0, cu]
    have eq1 : one rt.word a ++ fltsL [b] (a + 1) = flts (.lt x rt b) a := by
      show (if rt.word = [] then [] else [(rt.word, a)]) ++ (flts b (a + 1) ++ []) = _
      rw [List.append_nil]; rfl
    have eq2 : a + 1 + sizes [b] = a + (Bd.lt x rt b).size := by
      show a + 1 + (b.size + 0) = a + (b.size + 1); omega
    rw [eq1, eq2] at tl
    have g1 : getK [(D.str [109, 117, 115, 116], D.str [109, 117, 115, 116])] (.str [108, 101, 116]) = none := rfl
    have gw : ∃ (w : T) (rest : List D), rt.d = .tup (.str w :: rest) ∧ (getK [(D.str [112, 97, 114, 116], D.str [112, 97, 114, 116]), (D.str [119, 105, 116, 104], D.str [112, 97, 114, 116]), (D.str [99, 117, 116], D.str [99, 117, 116])] (.str w)).getD (.str []) = .str rt.word := by
      cases rt <;> exact ⟨_, _, rfl, rfl⟩
    obtain ⟨w, rest, gw1, gw2⟩ := gw
    simp only [Bd.d] at tl ⊢
    rw [gw1] at tl ⊢
    generalize fTail = X at *
    generalize Rt.word rt = wd at *
    simp [at_0, at_2, mk1, mk3, g1, gw2, isDct, tl]
  | must p q b =>
    have hs' : b.size + 1 ≤ r + 1 := hs
    have hl' : xs.length + (b.size + 1) ≤ 1000 := hl
    have tl := faults_tail Φ r F f hf a [109, 117, 115, 116] [b] xs m (Bd.must p q b).d (fun b' z => by rw [List.mem_singleton.mp z]; omega) hm (by show xs.length + 1 + (b.size + 0) ≤ 1000; omega) fun e m g0 => by
      simp only [Bd.d] at g0
      have cu : ∀ a b c d : D, cut [a, b, c, d] (some 3) none = [d] := fun _ _ _ _ => rfl
      simp [g0, at_0, cu]
    have eq1 : one [109, 117, 115, 116] a ++ fltsL [b] (a + 1) = flts (.must p q b) a := by
      show ([109, 117, 115, 116], a) :: (flts b (a + 1) ++ []) = _
      rw [List.append_nil]; rfl
    have eq2 : a + 1 + sizes [b] = a + (Bd.must p q b).size := by
      show a + 1 + (b.size + 0) = a + (b.size + 1); omega
    rw [eq1, eq2] at tl
    have g1 : getK [(D.str [109, 117, 115, 116], D.str [109, 117, 115, 116])] (.str [109, 117, 115, 116]) = some (.str [109, 117, 115, 116]) := rfl
    simp only [Bd.d] at tl ⊢
    generalize fTail = X at *
    simp [at_0, mk1, g1, isDct, tl]
  | ite p q b c =>
    have hs' : b.size + c.size + 1 ≤ r + 1 := hs
    have hl' : xs.length + (b.size + c.size + 1) ≤ 1000 := hl
    have tl := faults_tail Φ r F f hf a [] [b, c] xs m (Bd.ite p q b c).d (fun b' z => by
      rcases List.mem_cons.mp z with rfl | z
      · omega
      · rw [List.mem_singleton.mp z]; omega) hm (by show xs.length + 1 + (b.size + (c.size + 0)) ≤ 1000; omega) fun e m g0 => by
      simp only [Bd.d] at g0
      have cu : ∀ a b c d e : D, cut [a, b, c, d, e] (some 3) none = [d, e] := fun _ _ _ _ _ => rfl
      simp [g0, at_0, cu]
    have eq1 : one [] a ++ fltsL [b, c] (a + 1) = flts (.ite p q b c) a := by
      show [] ++ (flts b (a + 1) ++ (flts c (a + 1 + b.size) ++ [])) = _
      rw [List.append_nil]; rfl
    have eq2 : a + 1 + sizes [b, c] = a + (Bd.ite p q b c).size := by
      show a + 1 + (b.size + (c.size + 0)) = a + (b.size + c.size + 1); omega
    rw [eq1, eq2] at tl
    have g1 : getK [(D.str [109, 117, 115, 116], D.str [109, 117, 115, 116])] (.str [105, 102]) = none := rfl
    simp only [Bd.d] at tl ⊢
    generalize fTail = X at *
    simp [at_0, mk1, g1, isDct, tl]

/-! k55: ends and inputs as texts -/
def progD (fs : List Fu) : D := .tup [.tup [], .tup (fs.map Fu.d)]
inductive En where
  | give (t : Th)
  | lim
  | flt (f : Nat) (w : T) (a : Nat)
def En.d : En → D
  | .give t => .tup [.str [103, 105, 118, 101], t.d]
  | .lim => .tup [.str [108, 105, 109, 105, 116]]
  | .flt f w a => .tup [.str [102, 97, 117, 108, 116], .str w, .int f, .int a]
def fname (fs : List Fu) (f : Nat) : T := match fs[f]? with
  | some fu => fu.sg.name
  | none => []
def En.t (fs : List Fu) : En → T
  | .give t => [103, 105, 118, 101, 32] ++ t.t
  | .lim => [108, 105, 109, 105, 116]
  | .flt f w a => [102, 97, 117, 108, 116, 32] ++ w ++ [32] ++ fname fs f ++ [32] ++ figs a
def En.ok (fs : List Fu) : En → Prop
  | .give t => t.ok
  | .lim => True
  | .flt f w a => (∃ fu, fs[f]? = some fu) ∧ w ∈ wds ∧ a < 1000
theorem wds_len {w : T} (h : w ∈ wds) : w.length ≤ 4 ∧ ∀ c ∈ w, c < 128 := by
  have : ∀ w ∈ wds, w.length ≤ 4 ∧ ∀ c ∈ w, c < 128 := by decide +kernel
  exact this w h
theorem small_127 : ∀ c ∈ small, c < 128 := by decide +kernel
theorem nat_small {a : Nat} (h : a < 1000) : small60 (a : Int) := by
  show (a : Int).natAbs < 10 ^ 60
  have : (1000 : Nat) ≤ 10 ^ 60 := by decide +kernel
  omega
theorem fname_ok {fs : List Fu} {q : Int} {rooms : Nat} (F : FnsOk q rooms fs) {f : Nat} {fu : Fu} (h : fs[f]? = some fu) : fname fs f = fu.sg.name ∧ isName fu.sg.name = true := by
  refine ⟨by unfold fname; rw [h], F.names.nm _ (List.mem_map.mpr ⟨fu, List.mem_of_getElem? h, rfl⟩)⟩
theorem en_txt {fs : List Fu} {q : Int} {rooms : Nat} (F : FnsOk q rooms fs) {e : En} (h : e.ok fs) : (e.t fs).length ≤ 500 ∧ ∀ c ∈ e.t fs, c < 128 := by
  cases e with
  | give t =>
    have := th_len h
    refine ⟨by show ([103, 105, 118, 101, 32] ++ t.t).length ≤ 500; rw [List.length_append]; show 5 + _ ≤ 500; omega, fun c hc => ?_⟩
    have hc : c ∈ ([103, 105, 118, 101, 32] : T) ++ t.t := hc
    rcases List.mem_append.mp hc with q | q
    · have : ∀ c ∈ ([103, 105, 118, 101, 32] : T), c < 128 := by decide
      exact this c q
    · exact th_ascii t c q
  | lim => exact ⟨by show 5 ≤ 500; decide, by show ∀ c ∈ ([108, 105, 109, 105, 116] : T), c < 128; decide⟩
  | flt f w a =>
    obtain ⟨⟨fu, hf⟩, hw, ha⟩ := h
    obtain ⟨n1, n2⟩ := fname_ok F hf
    have nl := name_len n2
    have wl := wds_len hw
    have fl := figs_len (nat_small ha)
    show ([102, 97, 117, 108, 116, 32] ++ w ++ [32] ++ fname fs f ++ [32] ++ figs a).length ≤ 500 ∧ ∀ c ∈ ([102, 97, 117, 108, 116, 32] : T) ++ w ++ [32] ++ fname fs f ++ [32] ++ figs a, c < 128
    rw [n1]
    refine ⟨?_, fun c hc => ?_⟩
    · simp only [List.length_append, List.length_cons, List.length_nil]; omega
    · simp only [List.mem_append] at hc
      rcases hc with ((((q | q) | q) | q) | q) | q
      · have : ∀ c ∈ ([102, 97, 117, 108, 116, 32] : T), c < 128 := by decide
        exact this c q
      · exact wl.2 c q
      · rw [List.mem_singleton.mp q]; decide
      · exact small_127 c (name_small n2 c q)
      · rw [List.mem_singleton.mp q]; decide
      · have := figs_okc a c q; omega
theorem repr_txt {t : T} (h1 : t.length ≤ 500) (h2 : ∀ c ∈ t, c < 128) : ∃ s, U1.run .repr (.str t) = some (.str s) :=
  repr_some (pl_str _ _) (show (t.all fun c => decide (c < 1114112)) = true from List.all_eq_true.mpr fun c hc => decide_eq_true (by have := h2 c hc; omega)) (show 10 * t.length + 2 ≤ 16777216 by omega)
def SEnd (Φ : Fs) : Prop := ∀ (fs : List Fu) (q : Int) (rooms : Nat) (e : En) (m : Mem), FnsOk q rooms fs → e.ok fs → Φ 2 [progD fs, e.d] m = .ok (false, .str (e.t fs)) m
theorem bd_end (Φ : Fs) (Tt : SThingT Φ) (fs : List Fu) (q : Int) (rooms : Nat) (e : En) (m : Mem) (F : FnsOk q rooms fs) (h : e.ok fs) : runFn Φ f_2.fn [progD fs, e.d] m = .ok (false, .str (e.t fs)) m := by
  have hline : line = 16777216 := rfl
  rw [run_eq _ _ rfl]
  cases e with
  | give t =>
    have tt := Tt t m h
    have tl := th_len h
    have ll : 5 + t.t.length ≤ line := by omega
    simp only [En.d, En.t]
    generalize progD fs = pd at *
    generalize t.d = td at *
    generalize t.t = tx at *
    simp [f_2, b_end_text, at_0, at_1, tt, ll]
  | lim =>
    simp [f_2, b_end_text, En.d, En.t, at_0]
  | flt f w a =>
    obtain ⟨⟨fu, hf⟩, hw, ha⟩ := h
    obtain ⟨n1, n2⟩ := fname_ok F hf
    have nl := name_len n2
    have wl := (wds_len hw).1
    have fl := figs_len (nat_small ha)
    have si := strD_int (log_small (nat_small ha))
    have fu' : fu.d = .tup (.str fu.sg.name :: [psD fu.sg.ps, kE fu.sg.out, fu.body.d]) := rfl
    have at' : atI (fs.map Fu.d) (f : Int) = some (.tup (.str fu.sg.name :: [psD fu.sg.ps, kE fu.sg.out, fu.body.d])) := by
      rw [atI_map, atI_nat, hf]; rfl
    simp only [En.d, En.t, progD]
    rw [n1]
    generalize fs.map Fu.d = fsd at *
    generalize [psD fu.sg.ps, kE fu.sg.out, fu.body.d] = rs at *
    generalize fu.sg.name = nm at *
    generalize figs (a : Int) = fg at *
    have l1 : 6 + w.length ≤ line := by omega
    have l2 : w.length + 6 + 1 ≤ line := by omega
    have l3 : w.length + 6 + 1 + nm.length ≤ line := by omega
    have l4 : w.length + (nm.length + 1) + 6 + 1 ≤ line := by omega
    have l5 : w.length + (nm.length + 1 + 1) + 6 + fg.length ≤ line := by omega
    simp [f_2, b_end_text, at_0, at_1, at_2, at_3, at', si, l1, l2, l3, l4, l5]
def inT (ts : List Th) : T := if ts = [] then [110, 111, 116, 104, 105, 110, 103] else joinT [32] (ts.map Th.t)
theorem ths_len {ts : List Th} (h : ∀ t ∈ ts, t.ok) : ∀ x ∈ ts.map Th.t, x.length ≤ 400 := fun x hx => by
  obtain ⟨t, ht, rfl⟩ := List.mem_map.mp hx
  exact th_len (h t ht)
theorem th_pl (t : Th) : pl 39 t.d = true := by
  cases t with
  | num i => exact pl_int _ _
  | row is =>
    refine pls_all fun x hx => ?_
    obtain ⟨i, _, rfl⟩ := List.mem_map.mp hx
    exact pl_int _ _
theorem ths_pl (ts : List Th) : pl deep (.tup (ts.map Th.d)) = true := by
  rw [pl_tup]
  refine pls_all fun x hx => ?_
  obtain ⟨t, _, rfl⟩ := List.mem_map.mp hx
  exact th_pl t
theorem ths_eq (ts : List Th) : Cmp.run2 .eq (.tup (ts.map Th.d)) (.tup []) = some ts.isEmpty := by
  rw [eq_pl (ths_pl ts) rfl]
  cases ts <;> rfl
theorem ths_ne (ts : List Th) : Cmp.run2 .ne (.tup (ts.map Th.d)) (.tup []) = some (!ts.isEmpty) := by
  rw [ne_pl (ths_pl ts) rfl]
  cases ts <;> rfl
def SInputs (Φ : Fs) : Prop := ∀ (ts : List Th) (m : Mem), (∀ t ∈ ts, t.ok) → ts.length ≤ 10 → Φ 1 [.tup (ts.map Th.d)] m = .ok (false, .str (inT ts)) m
theorem bd_inputs (Φ : Fs) (Tt : SThingT Φ) (ts : List Th) (m : Mem) (h : ∀ t ∈ ts, t.ok) (hl : ts.length ≤ 10) : runFn Φ f_1.fn [.tup (ts.map Th.d)] m = .ok (false, .str (inT ts)) m := by
  have hline : line = 16777216 := rfl
  rw [run_eq _ _ rfl]
  have q := ths_eq ts
  have cm : compL [.val (.tup (ts.map Th.d)), .no] (.nm 1) (fun e m => .ok (.bl true) m) (fun e m => evE Φ c_inputs_text_0 e m) (ts.map Th.d) m = .ok ((ts.map Th.t).map .str) m := by
    rw [List.map_map]
    exact compL_map Th.d (fun t => .str t.t) m ts fun t ht => ⟨[.val (.tup (ts.map Th.d)), .val t.d], rfl, rfl, by
      have tt := Tt t m (h t ht)
      simp [c_inputs_text_0, tt]⟩
  have jl := joinLen_le [32] 400 (ts.map Th.t) (ths_len h)
  rw [List.length_map] at jl
  have e5 : ts.length * (400 + [32].length) ≤ 10 * 401 := Nat.mul_le_mul_right _ hl
  have jx := joinX_strs [32] (ts.map Th.t) (by omega)
  have dl : (ts.map Th.d).length ≤ line := by rw [List.length_map]; omega
  cases ht : ts.isEmpty with
  | true =>
    have e : inT ts = [110, 111, 116, 104, 105, 110, 103] := by unfold inT; rw [if_pos (List.isEmpty_iff.mp ht)]
    rw [ht] at q
    rw [e]
    generalize ts.map Th.d = td at *
    simp [f_1, b_inputs_text, q]
  | false =>
    have ne : ts ≠ [] := fun z => by subst z; cases ht
    have e : inT ts = joinT [32] (ts.map Th.t) := by unfold inT; rw [if_neg ne]
    rw [ht] at q
    rw [e]
    generalize (ts.map Th.t).map D.str = ss at *
    generalize ts.map Th.d = td at *
    simp [f_1, b_inputs_text, q, noOwn, wipeE, dl, cm, jx]
theorem inT_len {ts : List Th} (h : ∀ t ∈ ts, t.ok) (hl : ts.length ≤ 10) : (inT ts).length ≤ 5000 := by
  have jl := joinT_len [32] 400 (ts.map Th.t) (ths_len h)
  rw [List.length_map] at jl
  have e5 : ts.length * (400 + [32].length) ≤ 10 * 401 := Nat.mul_le_mul_right _ hl
  unfold inT
  split
  · decide
  · omega

/-! k55: the law's loops -/
def FAR : Int := 10376293541461622784
def SDrawF (Φ : Fs) : Prop := ∀ (h : Nat) (c : Int) (m : Mem), StAt m h c → c < 900000 → ∃ d m', Φ 6 [.obj h, .int FAR] m = .ok (false, .int d) m' ∧ 0 ≤ d ∧ d < FAR ∧ StAt m' h (c + 1) ∧ But m m' h
theorem bd_drawF (Φ : Fs) (M : SMixed Φ) (h : Nat) (c : Int) (m : Mem) (H : StAt m h c) (hc : c < 900000) :
    ∃ d m', runFn Φ f_6.fn [.obj h, .int FAR] m = .ok (false, .int d) m' ∧ 0 ≤ d ∧ d < FAR ∧ StAt m' h (c + 1) ∧ But m m' h := by
  have h1 : 0 < FAR := by decide
  have h2 : FAR.natAbs.log2 < 9000 := by decide +kernel
  obtain ⟨r, s, a, hm, p1, p2, p3, p4, p5⟩ := H.ex
  generalize FAR = many at *
  rw [run_eq _ _ rfl]
  have hl := hk_len
  have hs : (sto m h (.dct false (hk r s (a + 1))))[h]? = some (.dct false (hk r s (a + 1))) := sto_same hm
  by_cases hr : 0 < r
  · refine ⟨r % many, sto (sto m h (.dct false (hk r s (a + 1)))) h (.dct false (hk (r / many) s (a + 1))), ?_, Int.emod_nonneg _ (by omega), Int.emod_lt_of_pos _ h1, ⟨r / many, s, a + 1, sto_same hs, Int.ediv_nonneg p1 (by omega), p2, p3, by omega, by omega⟩, ⟨by rw [sto_len, sto_len], fun j e => by rw [sto_ne e, sto_ne e]⟩⟩
    simp [f_6, b__law_draw, hm, hs, get_left, get_at, put_left, put_at, hr, h1, h2, hl]
  · have e1 := M s (a + 1) (sto m h (.dct false (hk r s (a + 1)))) (by omega) (by omega)
    have e2 := M (mixed s (a + 1)) (40 + (a + 1)) (sto m h (.dct false (hk r s (a + 1)))) (by omega) (by omega)
    have e3 := M (mixed (mixed s (a + 1)) (40 + (a + 1))) (7 + (a + 1)) (sto m h (.dct false (hk r s (a + 1)))) (by omega) (by omega)
    have b := mixed_le (mixed s (a + 1)) (40 + (a + 1))
    have mo : mulOk (mixed (mixed s (a + 1)) (40 + (a + 1))) 2147483647 = true := mulOk_l (by omega) (by omega)
    refine ⟨(mixed (mixed s (a + 1)) (40 + (a + 1)) * 2147483647 + mixed (mixed (mixed s (a + 1)) (40 + (a + 1))) (7 + (a + 1))) / 64 % many, sto m h (.dct false (hk r s (a + 1))), ?_, Int.emod_nonneg _ (by omega), Int.emod_lt_of_pos _ h1, ⟨r, s, a + 1, hs, p1, p2, p3, by omega, by omega⟩, ⟨sto_len, fun j e => sto_ne e⟩⟩
    simp [f_6, b__law_draw, hm, hs, get_left, get_seed, get_at, put_at, hr, h1, hl, e1, e2, e3, mul_int, mo]
def pE (fs : List Fu) (e : En) : D := .tup [e.d, .str (e.t fs)]
theorem flt_turn (Φ : Fs) (Fg : SFig Φ) (Fa : SFaults Φ 12) (h : Nat) (c : Int) (m : Mem) (H : StAt m h c) (fs : List Fu) (q : Int) (F : FnsOk q 12 fs) (f : Nat) (fu : Fu) (hf : fs[f]? = some fu) (es : List En) (hes : ∀ x ∈ es, x.ok fs) (el : es.length ≤ 900)
    (e : Env) (le : e.length = 17) (g7 : gt e 7 = .own (.lst (es.map (pE fs)))) (g8 : gt e 8 = .val (.int f)) (g9 : gt e 9 = .val fu.d) (n11 : (gt e 11).isOwn = false) :
    ∃ (e2 : Env) (m2 : Mem) (es2 : List En), exSs Φ l_law_1 e m = .nx e2 m2 ∧ gt e2 7 = .own (.lst (es2.map (pE fs))) ∧ (∀ x ∈ es2, x.ok fs) ∧ es2.length ≤ es.length + 12 ∧ StAt m2 h c := by
  have hline : line = 16777216 := rfl
  have hlt := H.lt
  have bs := (F.body fu (List.mem_of_getElem? hf)).2
  have fl := flts_len fu.body 0
  let b := fu.body
  have hm1 : (m ++ [D.lst []])[m.length]? = some (.lst []) := by rw [List.getElem?_append_right (Nat.le_refl _), Nat.sub_self]; rfl
  have fa := Fa fu.body f 0 m.length [] (m ++ [.lst []]) bs hm1 (by show 0 + fu.body.size ≤ 1000; omega)
  let m2 : Mem := (m ++ [D.lst []]).set m.length (.lst ((flts fu.body 0).map (fltD f)))
  have fa : Φ 18 [fu.body.d, .int f, .int 0, .obj m.length] (m ++ [.lst []]) = .ok (false, .int ((0 + fu.body.size : Nat) : Int)) m2 := fa
  have H2 : StAt m2 h c := H.push.set (by omega)
  have hm2 : m2[m.length]? = some (.lst ((flts fu.body 0).map (fltD f))) := List.getElem?_set_self (by simp)
  let mk : T × Nat → En := fun p => .flt f p.1 p.2
  let E1 : Env := st e 10 (.val (.obj m.length))
  obtain ⟨n1, n2⟩ := fname_ok F hf
  obtain ⟨e3, m3, u1, ⟨u2, u3⟩, u4⟩ := fol_inv (Φ := Φ) (g := .nm 11) (b := l_law_0) [7, 11] [7] m.length (fun j e' m' => m' = m2 ∧ gt e' 7 = .own (.lst ((es ++ ((flts fu.body 0).take j).map mk).map (pE fs)))) (ds := (flts fu.body 0).map (fltD f)) (env := E1) (m := m2) (by rw [List.length_map]; omega) (by decide) (by decide)
    ⟨rfl, by simp [E1, gt_st, g7]⟩ (fun j e' m' h => by rw [h.1]; exact hm2) fun j d e' m' hj fr ⟨r1, r2⟩ => by
      subst r1
      rw [List.getElem?_map] at hj
      obtain ⟨p, hp, rfl⟩ := Option.map_eq_some_iff.mp hj
      have hjn : j < (flts fu.body 0).length := (List.getElem?_eq_some_iff.mp hp).1
      obtain ⟨p1, p2⟩ := flts_mem fu.body 0 p (List.mem_of_getElem? hp)
      have pa : p.2 < 1000 := by omega
      have l' : e'.length = 17 := fr.len.trans (by simp [E1, st_length, le])
      have n11 : (gt e' 11).isOwn = false := fr.no 11 (by decide) (by simp [E1, gt_st, n11])
      have k9 : gt e' 9 = .val fu.d := (fr.keep 9 (by decide)).trans (by simp [E1, gt_st, g9])
      have fg := Fg p.2 m2 (nat_small pa)
      have wl := (wds_len p1).1
      have nl := name_len n2
      have fgl := figs_len (nat_small pa)
      have tk : (es ++ ((flts fu.body 0).take (j + 1)).map mk).map (pE fs) = (es ++ ((flts fu.body 0).take j).map mk).map (pE fs) ++ [.tup [fltD f p, .str ([102, 97, 117, 108, 116, 32] ++ p.1 ++ [32] ++ fu.sg.name ++ [32] ++ figs p.2)]] := by
        have one : pE fs (mk p) = .tup [fltD f p, .str ([102, 97, 117, 108, 116, 32] ++ p.1 ++ [32] ++ fu.sg.name ++ [32] ++ figs p.2)] := by
          show D.tup [fltD f p, .str ([102, 97, 117, 108, 116, 32] ++ p.1 ++ [32] ++ fname fs f ++ [32] ++ figs p.2)] = _
          rw [n1]
        rw [← one, List.take_succ, hp]
        show (es ++ ((flts fu.body 0).take j ++ [p]).map mk).map (pE fs) = (es ++ ((flts fu.body 0).take j).map mk).map (pE fs) ++ [pE fs (mk p)]
        rw [List.map_append (l₁ := (flts fu.body 0).take j), ← List.append_assoc, List.map_append (l₁ := es ++ _)]
        rfl
      have pl : ((es ++ ((flts fu.body 0).take j).map mk).map (pE fs)).length < line := by
        rw [List.length_map, List.length_append, List.length_map, List.length_take]; omega
      have fu' : fu.d = .tup (.str fu.sg.name :: [psD fu.sg.ps, kE fu.sg.out, fu.body.d]) := rfl
      have fd : fltD f p = .tup [.str [102, 97, 117, 108, 116], .str p.1, .int f, .int p.2] := rfl
      refine ⟨st e' 11 (.val (fltD f p)), st (st e' 11 (.val (fltD f p))) 7 (.own (.lst ((es ++ ((flts fu.body 0).take (j + 1)).map mk).map (pE fs)))), m2, by rw [bindG_nm, n11]; rfl, .inl ?_, rfl, by simp [gt_st, st_length, l']⟩
      rw [tk]
      rw [fu'] at k9
      rw [fd]
      generalize (es ++ ((flts fu.body 0).take j).map mk).map (pE fs) = prs at *
      generalize [psD fu.sg.ps, kE fu.sg.out, fu.body.d] = rs at *
      generalize fu.sg.name = nm at *
      generalize figs (p.2 : Int) = fg' at *
      generalize p.1 = w at *
      have l1 : 6 + w.length ≤ line := by omega
      have l2 : w.length + 6 + 1 ≤ line := by omega
      have l3 : w.length + 6 + 1 + nm.length ≤ line := by omega
      have l4 : w.length + (nm.length + 1) + 6 + 1 ≤ line := by omega
      have l5 : w.length + (nm.length + 1 + 1) + 6 + fg'.length ≤ line := by omega
      simp [l_law_0, gt_st, st_length, l', r2, k9, at_0, at_1, at_3, fg, l1, l2, l3, l4, l5, pl]
  subst u2
  rw [List.length_map, List.take_length] at u3
  refine ⟨e3, m2, es ++ (flts fu.body 0).map mk, ?_, u3, fun x hx => ?_, by rw [List.length_append, List.length_map]; omega, H2⟩
  · have fu' : fu.d = .tup (.str fu.sg.name :: psD fu.sg.ps :: kE fu.sg.out :: fu.body.d :: []) := rfl
    rw [fu'] at g9
    generalize fu.body.d = bd at *
    generalize psD fu.sg.ps = x1 at *
    generalize kE fu.sg.out = x2 at *
    simp only [E1] at u1
    simp [l_law_1, gt_st, st_length, le, g8, g9, at_3, fa, u1]
  · rcases List.mem_append.mp hx with z | z
    · exact hes x z
    · obtain ⟨p, hp, rfl⟩ := List.mem_map.mp z
      obtain ⟨p1, p2⟩ := flts_mem fu.body 0 p hp
      exact ⟨⟨fu, hf⟩, p1, by omega⟩
theorem flts_loop (Φ : Fs) (Fg : SFig Φ) (Fa : SFaults Φ 12) (h : Nat) (c : Int) (m : Mem) (H : StAt m h c) (fs : List Fu) (q : Int) (F : FnsOk q 12 fs) (fl : fs.length ≤ 10) (es : List En) (hes : ∀ x ∈ es, x.ok fs) (el : es.length ≤ 2)
    (E0 : Env) (le : E0.length = 17) (g7 : gt E0 7 = .own (.lst (es.map (pE fs)))) (n8 : (gt E0 8).isOwn = false) (n9 : (gt E0 9).isOwn = false) (n11 : (gt E0 11).isOwn = false) :
    ∃ (e2 : Env) (m2 : Mem) (es2 : List En), forL (.tp (.cons (.nm 8) (.cons (.nm 9) .nil))) (fun e m => exSs Φ l_law_1 e m) (enumL 0 (fs.map Fu.d)) E0 m = .nx e2 m2 ∧ gt e2 7 = .own (.lst (es2.map (pE fs))) ∧ (∀ x ∈ es2, x.ok fs) ∧ es2.length ≤ 1000 ∧ StAt m2 h c ∧ Frm [7, 8, 9, 10, 11] [7] E0 e2 := by
  obtain ⟨e2, m2, u1, ⟨es2, u2, u3, u4, u5⟩, u6⟩ := fo_inv (Φ := Φ) (g := .tp (.cons (.nm 8) (.cons (.nm 9) .nil))) (b := l_law_1) [7, 8, 9, 10, 11] [7] (fun j e' m' => ∃ es2 : List En, gt e' 7 = .own (.lst (es2.map (pE fs))) ∧ (∀ x ∈ es2, x.ok fs) ∧ es2.length ≤ 2 + 12 * j ∧ StAt m' h c) (ds := enumL 0 (fs.map Fu.d)) (env := E0) (m := m) (by decide) (by decide)
    ⟨es, g7, hes, by omega, H⟩ fun j d e' m' hj fr ⟨es', r1, r2, r3, r4⟩ => by
      obtain ⟨y, hy, rfl⟩ := enumL_get hj
      rw [List.getElem?_map] at hy
      obtain ⟨fu, hfu, rfl⟩ := Option.map_eq_some_iff.mp hy
      have hjn : j < fs.length := (List.getElem?_eq_some_iff.mp hfu).1
      have l' : e'.length = 17 := fr.len.trans le
      have n8 : (gt e' 8).isOwn = false := fr.no 8 (by decide) n8
      have n9 : (gt e' 9).isOwn = false := fr.no 9 (by decide) n9
      have n11 : (gt e' 11).isOwn = false := fr.no 11 (by decide) n11
      obtain ⟨e3, m3, es3, v1, v2, v3, v4, v5⟩ := flt_turn Φ Fg Fa h c m' r4 fs q F j fu hfu es' r2 (by omega) (st (st e' 8 (.val (.int (j : Nat)))) 9 (.val fu.d)) (by simp [st_length, l']) (by simp [gt_st, r1]) (by simp [gt_st, l']) (by simp [gt_st, st_length, l']) (by simp [gt_st, n11])
      refine ⟨st (st e' 8 (.val (.int (j : Nat)))) 9 (.val fu.d), e3, m3, ?_, .inl v1, es3, v2, v3, by omega, v5⟩
      generalize fu.d = fd at *
      simp [n8, n9, gt_st]
  rw [enumL_len, List.length_map] at u4
  exact ⟨e2, m2, es2, u1, u2, u3, by omega, u5, u6⟩
/-- none of the pairs is otherwise -/
theorem pairs_comp (Φ : Fs) (En' : SEnd Φ) (fs : List Fu) (q : Int) (F : FnsOk q 12 fs) (es : List En) (hes : ∀ x ∈ es, x.ok fs) (m : Mem) (e : Env) (le : e.length = 17) (g3 : gt e 3 = .val (progD fs)) :
    compL (wipeE e [12]) (.nm 12) (fun e m => evE Φ t_law_2 e m) (fun e m => evE Φ c_law_3 e m) (es.map (pE fs)) m = .ok [] m := by
  have z := compL_pure (env := wipeE e [12]) (g := .nm 12) (tst := fun e m => evE Φ t_law_2 e m) (elt := fun e m => evE Φ c_law_3 e m) (pE fs) (fun _ => false) (pE fs) m es fun x hx => by
    have en := En' fs q 12 x m F (hes x hx)
    obtain ⟨t1, t2⟩ := en_txt F (hes x hx)
    obtain ⟨s, hs⟩ := repr_txt t1 t2
    refine ⟨st (wipeE e [12]) 12 (.val (pE fs x)), by rw [bindG_nm]; simp [wipeE, gt_st, le], ?_, fun z => nomatch z⟩
    unfold pE
    generalize progD fs = pd at *
    generalize x.d = xd at *
    generalize x.t fs = xt at *
    simp [t_law_2, wipeE, gt_st, st_length, le, g3, at_0, at_1, en, hs]
  rw [z]
  simp

/-! k55: a turn of the law -/
theorem ins_loop (Φ : Fs) (R : SDraw Φ) (An : SAny Φ) (h : Nat) (c : Int) (m : Mem) (H : StAt m h c) (hc : c < 600000) (n : Nat) (hn : n ≤ 10) (E0 : Env) (le : E0.length = 17) (g2 : gt E0 2 = .val (.obj h)) (g13 : gt E0 13 = .val (.tup [])) (n14 : (gt E0 14).isOwn = false) :
    ∃ (e2 : Env) (m2 : Mem) (ts : List Th), forL (.nm 14) (fun e m => exSs Φ l_law_4 e m) (rngL 0 n) E0 m = .nx e2 m2 ∧ gt e2 13 = .val (.tup (ts.map Th.d)) ∧ ts.length = n ∧ (∀ t ∈ ts, t.ok) ∧ Frm [13, 14, 15] [] E0 e2 := by
  have hline : line = 16777216 := rfl
  obtain ⟨e2, m2, u1, ⟨ts, u2, u3, u4, u5⟩, u6⟩ := fo_inv (Φ := Φ) (g := .nm 14) (b := l_law_4) [13, 14, 15] [] (fun j e' m' => ∃ ts : List Th, gt e' 13 = .val (.tup (ts.map Th.d)) ∧ ts.length = j ∧ (∀ t ∈ ts, t.ok) ∧ StAt m' h (c + 9 * j)) (ds := rngL 0 n) (env := E0) (m := m) (by decide) (by decide)
    ⟨[], g13, rfl, (fun _ z => nomatch z), H.mono (by omega)⟩ fun j d e' m' hj fr ⟨ts, r1, r2, r3, r4⟩ => by
      have hjn : j < n := by have := (List.getElem?_eq_some_iff.mp hj).1; rwa [rngL_len] at this
      have l' : e'.length = 17 := fr.len.trans le
      have n14 : (gt e' 14).isOwn = false := fr.no 14 (by decide) n14
      have k2 := (fr.keep 2 (by decide)).trans g2
      obtain ⟨k, m3, e3, k0, k1, H3, b3⟩ := R h 2 _ m' r4 (by omega) (by decide) (by decide)
      have kk : ∃ kd : Kd, atI [D.str [110, 117, 109, 98, 101, 114], .str [114, 111, 119]] k = some (kE kd) := by
        have : k = 0 ∨ k = 1 := by omega
        rcases this with rfl | rfl
        · exact ⟨.nb, rfl⟩
        · exact ⟨.rw, rfl⟩
      obtain ⟨kd, hkd⟩ := kk
      let is : List Int := (List.range 19).map fun (i : Nat) => (-9 : Int) + (i : Int)
      have eis : rngL (-9) 19 = is.map D.int := by rw [rngL_map, List.map_map]; rfl
      have ok : lrgOk (-9) 10 = true := by decide
      obtain ⟨t, m4, e4, t1, H4, b4⟩ := An h _ m3 kd is H3 (by omega) (fun i hi => by
        obtain ⟨n', hn', rfl⟩ := List.mem_map.mp hi
        have := List.mem_range.mp hn'
        show (-9 + (n' : Int)).natAbs < 10 ^ 60
        have : (1000 : Nat) ≤ 10 ^ 60 := by decide +kernel
        omega) (by simp [is]) (by simp [is])
      rw [← eis] at e4
      have nn : ((10 : Int) - -9).toNat = 19 := by decide
      have tl : (ts.map Th.d).length + 1 ≤ line := by rw [List.length_map]; omega
      refine ⟨st e' 14 (.val d), st (st (st e' 14 (.val d)) 15 (.val (kE kd))) 13 (.val (.tup ((ts ++ [t]).map Th.d))), m4, by rw [bindG_nm, n14]; rfl, .inl ?_, ts ++ [t], by simp [gt_st, st_length, l'], by rw [List.length_append, r2]; rfl, fun x hx => ?_, H4.mono (by omega)⟩
      · have : (ts ++ [t]).map Th.d = ts.map Th.d ++ [t.d] := by rw [List.map_append]; rfl
        rw [this]
        generalize ts.map Th.d = td at *
        generalize t.d = tt at *
        generalize kE kd = kk at *
        generalize hR : rngL (-9) 19 = RR at *
        simp [l_law_4, gt_st, st_length, l', k2, e3, hkd, r1, ok, nn, hR, e4, tl]
      · rcases List.mem_append.mp hx with z | z
        · exact r3 x z
        · rw [List.mem_singleton.mp z]; exact t1
  rw [rngL_len] at u3
  exact ⟨e2, m2, ts, u1, u2, u3, u4, u6⟩
theorem due_loop (Φ : Fs) (Tn : SThing Φ) (m : Mem) (ts : List Th) (h : ∀ t ∈ ts, t.ok) (hl : ts.length ≤ 10) (E0 : Env) (le : E0.length = 17) (g16 : gt E0 16 = .val (.str [])) (n6 : (gt E0 6).isOwn = false) :
    ∃ e2 : Env, forL (.nm 6) (fun e m => exSs Φ l_law_5 e m) (ts.map Th.d) E0 m = .nx e2 m ∧ gt e2 16 = .val (.str (joinT [32] (ts.map Th.t))) ∧ Frm [6, 16] [] E0 e2 := by
  have hline : line = 16777216 := rfl
  obtain ⟨e2, m2, u1, ⟨u2, u3⟩, u4⟩ := fo_inv (Φ := Φ) (g := .nm 6) (b := l_law_5) [6, 16] [] (fun j e' m' => m' = m ∧ gt e' 16 = .val (.str (joinT [32] ((ts.map Th.t).take j)))) (ds := ts.map Th.d) (env := E0) (m := m) (by decide) (by decide)
    ⟨rfl, g16⟩ fun j d e' m' hj fr ⟨q1, q2⟩ => by
      subst q1
      rw [List.getElem?_map] at hj
      obtain ⟨t, ht, rfl⟩ := Option.map_eq_some_iff.mp hj
      have hjn : j < ts.length := (List.getElem?_eq_some_iff.mp ht).1
      have l' : e'.length = 17 := fr.len.trans le
      have n6 : (gt e' 6).isOwn = false := fr.no 6 (by decide) n6
      have hmem := List.mem_of_getElem? ht
      have fg := Tn t m' (h t hmem)
      have fl := th_len (h t hmem)
      have tk : (ts.map Th.t).take (j + 1) = (ts.map Th.t).take j ++ [t.t] := by rw [List.take_succ, List.getElem?_map, ht]; rfl
      have jm := joinT_len [32] 400 ((ts.map Th.t).take j) fun x hx => ths_len h x (List.mem_of_mem_take hx)
      have tl : ((ts.map Th.t).take j).length = j := by rw [List.length_take, List.length_map]; omega
      rw [tl] at jm
      have e5 : j * (400 + [32].length) ≤ 10 * 401 := Nat.mul_le_mul_right _ (by omega)
      refine ⟨st e' 6 (.val t.d), st (st e' 6 (.val t.d)) 16 (.val (.str (joinT [32] ((ts.map Th.t).take (j + 1))))), m', by rw [bindG_nm, n6]; rfl, .inl ?_, rfl, by simp [gt_st, st_length, l']⟩
      rw [tk, joinT_snoc]
      generalize t.d = td at *
      by_cases h0 : (ts.map Th.t).take j = []
      · rw [if_pos h0]
        rw [h0] at q2
        have q2 : gt e' 16 = .val (.str []) := q2
        generalize t.t = tx at *
        have ll : tx.length ≤ line := by omega
        simp [l_law_5, gt_st, st_length, l', q2, int_f, mul_s0, fg, ll]
      · rw [if_neg h0]
        have ne : joinT [32] ((ts.map Th.t).take j) ≠ [] := joinT_ne [32] _ h0 fun x hx => by
          obtain ⟨t', _, rfl⟩ := List.mem_map.mp (List.mem_of_mem_take hx)
          exact th_ne t'
        generalize joinT [32] ((ts.map Th.t).take j) = jt at *
        generalize t.t = tx at *
        have ll : jt.length + 1 ≤ line := by omega
        have ll2 : jt.length + 1 + tx.length ≤ line := by omega
        have ne' : (jt == ([] : T)) = false := by simpa using ne
        have ne2 : (jt != ([] : T)) = true := by simpa using ne
        simp [l_law_5, gt_st, st_length, l', q2, ne, ne', ne2, int_t, mul_s1, fg, ll, ll2]
  subst u2
  rw [List.length_map, List.take_of_length_le (by rw [List.length_map]; exact Nat.le_refl _)] at u3
  exact ⟨e2, u1, u3, u4⟩
def z1 : S := (.set 2 (.call 5 (.cons (.var 0) (.cons (.var 1) .nil))))
def z2 : S := (.set 3 (.tup (.cons (.tup .nil) (.cons (.call 14 (.cons (.var 2) (.cons (.int 4) (.cons (.int 4) (.cons (.int 12) .nil))))) .nil))))
def z3 : S := (.set 4 (.bop .mul (.ex (.int 9)) (.ex (.bop .pow (.ex (.int 2)) (.ex (.int 60))))))
def z4 : S := (.set 5 (.fr (.lst (.cons (.int 0) (.cons (.int 5) (.cons (.u1 .neg (.ex (.int 5))) (.cons (.int 10) (.cons (.u1 .neg (.ex (.int 100))) (.cons (.bop .sub (.ex (.call 6 (.cons (.var 2) (.cons (.int 2001) .nil)))) (.ex (.int 1000))) (.cons (.var 4) (.cons (.bop .sub (.ex (.int 0)) (.ex (.var 4))) (.cons (.call 6 (.cons (.var 2) (.cons (.var 4) .nil))) .nil))))))))))))
def z5 : S := (.set 6 (.call 17 (.cons (.var 2) (.cons (.idx (.ex (.idx (.ex (.idx (.ex (.var 3)) (.int 1))) (.int 0))) (.int 2)) (.cons (.var 5) .nil)))))
def z6 : S := (.own 7 (.lst (.cons (.tup (.cons (.tup (.cons (.str [103, 105, 118, 101]) (.cons (.var 6) .nil))) (.cons (.bop .add (.ex (.str [103, 105, 118, 101, 32])) (.ex (.call 16 (.cons (.var 6) .nil)))) .nil))) (.cons (.tup (.cons (.tup (.cons (.str [108, 105, 109, 105, 116]) .nil)) (.cons (.str [108, 105, 109, 105, 116]) .nil))) .nil))))
def z7 : S := (.fo (.tp (.cons (.nm 8) (.cons (.nm 9) .nil))) (.enT (.ex (.idx (.ex (.var 3)) (.int 1)))) l_law_1)
def z8 : S := (.iff (.cmp .ne (.ex (.fr (.comp [12] (.nm 12) (.it (.ex (.bop .add (.pk 7) (.ex (.slc (.pk 7) .no (.so (.int 2))))))) (.so t_law_2) c_law_3))) (.ex (.fr (.lst .nil)))) (.cons (.ret (.bl false)) .nil) .nil)
def z9 : S := (.set 13 (.tup .nil))
def z10 : S := (.fo (.nm 14) (.rg1 (.call 6 (.cons (.var 2) (.cons (.int 4) .nil)))) l_law_4)
def z11 : S := (.set 16 (.str []))
def z12 : S := (.fo (.nm 6) (.it (.ex (.var 13))) l_law_5)
def z13 : S := (.iff (.cmp .ne (.ex (.fr (.comp [14] (.nm 14) (.rg1 (.int 2)) .no c_law_6))) (.ex (.bop .mul (.ex (.fr (.lst (.cons (.ite (.cmp .ne (.ex (.var 13)) (.ex (.tup .nil))) (.var 16) (.str [110, 111, 116, 104, 105, 110, 103])) .nil)))) (.ex (.int 2))))) (.cons (.ret (.bl false)) .nil) .nil)
theorem turn_is : l_law_7 = .cons z1 (.cons z2 (.cons z3 (.cons z4 (.cons z5 (.cons z6 (.cons z7 (.cons z8 (.cons z9 (.cons z10 (.cons z11 (.cons z12 (.cons z13 (.nil))))))))))))) := rfl
theorem pow60 : Bop.run .pow (.int 2) (.int 60) = some (.int 1152921504606846976) := by rw [pow_int, if_pos (by decide +kernel)]; rfl
theorem mul9 : Bop.run .mul (.int 9) (.int 1152921504606846976) = some (.int FAR) := mul_int (by decide +kernel)
theorem two_ne (t : T) : Cmp.run2 .ne (.lst [.str t, .str t]) (.lst [.str t, .str t]) = some false := by
  have p : pl deep (.lst [.str t, .str t]) = true := by rw [pl_lst]; simp
  rw [ne_pl p p, eqD_refl _ _ p]; rfl
theorem far_small {d : Int} (h0 : 0 ≤ d) (h1 : d < FAR) : small60 d := by
  show d.natAbs < 10 ^ 60
  have : FAR < 10 ^ 60 := by decide +kernel
  omega
theorem turn55 (Φ : Fs) (St : SState Φ) (R : SDraw Φ) (Rf : SDrawF Φ) (Fn : SFns Φ) (An : SAny Φ) (Tn : SThing Φ) (Fg : SFig Φ) (Fa : SFaults Φ 12) (Ed : SEnd Φ) (Inp : SInputs Φ) (ns : List Int) (k : Nat) (hk : k < 1000) (m : Mem)
    (e : Env) (le : e.length = 17) (g0 : gt e 0 = .val (.scr ns)) (g1 : gt e 1 = .val (.int k)) (n6 : (gt e 6).isOwn = false) (n8 : (gt e 8).isOwn = false) (n9 : (gt e 9).isOwn = false) (n11 : (gt e 11).isOwn = false) (n12 : (gt e 12).isOwn = false) (n14 : (gt e 14).isOwn = false) :
    ∃ e2 m2, exSs Φ l_law_7 e m = .nx e2 m2 := by
  have hline : line = 16777216 := rfl
  rw [turn_is]
  obtain ⟨m1, e1, H1, L1, K1⟩ := St ns k m hk
  let h := m.length
  let E1 : Env := st e 2 (.val (.obj h))
  have s1 : exS Φ z1 e m = .nx E1 m1 := by simp [z1, g0, g1, e1, E1, h]
  obtain ⟨fs, m2, e2, F, fl, H2, w2⟩ := Fn h 0 m1 4 4 12 H1 (by decide) (by decide) (by decide) (by decide) (by decide) (by decide) (by decide)
  have e2 : Φ 14 [.obj h, .int 4, .int 4, .int 12] m1 = .ok (false, .tup (fs.map Fu.d)) m2 := e2
  let E2 : Env := st E1 3 (.val (progD fs))
  have l1 : E1.length = 17 := by simp [E1, st_length, le]
  have s2 : exS Φ z2 E1 m1 = .nx E2 m2 := by
    have k2 : gt E1 2 = .val (.obj h) := by simp [E1, gt_st, le]
    simp only [E2, progD]
    clear_value E1 h
    generalize fs.map Fu.d = fsd at *
    simp [z2, k2, e2]
  let E3 : Env := st E2 4 (.val (.int FAR))
  have l2 : E2.length = 17 := by simp [E2, st_length, l1]
  have s3 : exS Φ z3 E2 m2 = .nx E3 m2 := by
    simp only [E3]
    clear_value E2
    simp [z3, pow60, mul9, -pow_int]
  have l3 : E3.length = 17 := by simp [E3, st_length, l2]
  obtain ⟨d1, m3, e3, p3, q3, H3, b3⟩ := R h 2001 _ m2 H2 (by omega) (by decide) (by decide)
  obtain ⟨d2, m4, e4, p4, q4, H4, b4⟩ := Rf h _ m3 H3 (by omega)
  let is : List Int := [0, 5, -5, 10, -100, d1 - 1000, FAR, 0 - FAR, d2]
  let E4 : Env := st E3 5 (.val (.lst (is.map .int)))
  have s4 : exS Φ z4 E3 m2 = .nx E4 m4 := by
    have k2 : gt E3 2 = .val (.obj h) := by simp [E3, E2, E1, gt_st, le]
    have k4 : gt E3 4 = .val (.int FAR) := by simp [E3, gt_st, l2]
    simp only [E4, is, List.map_cons, List.map_nil]
    clear_value E3 h
    generalize FAR = far at *
    simp [z4, k2, k4, e3, e4]
  have l4 : E4.length = 17 := by simp [E4, st_length, l3]
  have hp := F.pos
  obtain ⟨fu, fr, efs⟩ : ∃ fu fr, fs = fu :: fr := by
    cases fs with
    | nil => simp at hp
    | cons a b => exact ⟨a, b, rfl⟩
  have iss : ∀ i ∈ is, small60 i := by
    have big : (10 : Nat) ^ 60 = 10 ^ 60 := rfl
    have k1 : (100000 : Nat) ≤ 10 ^ 60 := by decide +kernel
    have k2 : small60 FAR := by decide +kernel
    have k3 : small60 (0 - FAR) := by decide +kernel
    intro i hi
    simp only [is, List.mem_cons, List.not_mem_nil, or_false] at hi
    rcases hi with rfl | rfl | rfl | rfl | rfl | rfl | rfl | rfl | rfl
    · show (0 : Int).natAbs < 10 ^ 60; omega
    · show (5 : Int).natAbs < 10 ^ 60; omega
    · show (-5 : Int).natAbs < 10 ^ 60; omega
    · show (10 : Int).natAbs < 10 ^ 60; omega
    · show (-100 : Int).natAbs < 10 ^ 60; omega
    · show (d1 - 1000).natAbs < 10 ^ 60; omega
    · exact k2
    · exact k3
    · exact far_small p4 q4
  obtain ⟨th, m5, e5, t1, H5, b5⟩ := An h _ m4 fu.sg.out is H4 (by omega) iss (by show 0 < 9; decide) (by show 9 ≤ 1000; decide)
  let E5 : Env := st E4 6 (.val th.d)
  have s5 : exS Φ z5 E4 m4 = .nx E5 m5 := by
    have k2 : gt E4 2 = .val (.obj h) := by simp [E4, E3, E2, E1, gt_st, le]
    have k3 : gt E4 3 = .val (progD fs) := by simp [E4, E3, E2, gt_st, l1]
    have k5 : gt E4 5 = .val (.lst (is.map .int)) := by simp [E4, gt_st, l3]
    have pd : progD fs = .tup [.tup [], .tup (.tup [.str fu.sg.name, psD fu.sg.ps, kE fu.sg.out, fu.body.d] :: fr.map Fu.d)] := by rw [efs]; rfl
    rw [pd] at k3
    simp only [E5]
    clear_value E4 h is
    generalize is.map D.int = isd at *
    generalize kE fu.sg.out = ko at *
    generalize fu.body.d = bd at *
    generalize psD fu.sg.ps = psd at *
    generalize fr.map Fu.d = frd at *
    simp [z5, k2, k3, k5, at_0, at_1, at_2, e5]
  have l5 : E5.length = 17 := by simp [E5, st_length, l4]
  let es0 : List En := [.give th, .lim]
  have es0k : ∀ x ∈ es0, x.ok fs := fun x hx => by
    simp only [es0, List.mem_cons, List.not_mem_nil, or_false] at hx
    rcases hx with rfl | rfl
    · exact t1
    · trivial
  let E6 : Env := st E5 7 (.own (.lst (es0.map (pE fs))))
  have s6 : exS Φ z6 E5 m5 = .nx E6 m5 := by
    have k6 : gt E5 6 = .val th.d := by simp [E5, gt_st, l4]
    have tn := Tn th m5 t1
    have tl := th_len t1
    have ll : 5 + th.t.length ≤ line := by omega
    have ex : es0.map (pE fs) = [.tup [.tup [.str [103, 105, 118, 101], th.d], .str ([103, 105, 118, 101, 32] ++ th.t)], .tup [.tup [.str [108, 105, 109, 105, 116]], .str [108, 105, 109, 105, 116]]] := rfl
    simp only [E6]
    rw [ex]
    clear_value E5
    generalize th.d = td at *
    generalize th.t = tt at *
    simp [z6, k6, tn, ll]
  have l6 : E6.length = 17 := by simp [E6, st_length, l5]
  obtain ⟨E7, m7, es, u1, u2, u3, u4, H7, f7⟩ := flts_loop Φ Fg Fa h _ m5 H5 fs 4 F (by omega) es0 es0k (Nat.le_refl 2) E6 l6 (by simp [E6, gt_st, l5]) (by simp [E6, E5, E4, E3, E2, E1, gt_st, n8]) (by simp [E6, E5, E4, E3, E2, E1, gt_st, n9]) (by simp [E6, E5, E4, E3, E2, E1, gt_st, n11])
  have k63 : gt E6 3 = .val (progD fs) := by simp [E6, E5, E4, E3, E2, gt_st, l1]
  have s7 : exS Φ z7 E6 m5 = .nx E7 m7 := by
    have pd : progD fs = .tup [.tup [], .tup (fs.map Fu.d)] := rfl
    have k3 := k63
    rw [pd] at k3
    have sq : seqT (.tup (fs.map Fu.d)) = some (fs.map Fu.d) := rfl
    clear_value E6
    generalize fs.map Fu.d = fsd at *
    simp [z7, isAs, k3, at_1, sq, u1]
  have l7 : E7.length = 17 := f7.len.trans l6
  have k73 : gt E7 3 = .val (progD fs) := (f7.keep 3 (by decide)).trans k63
  have k72 : gt E7 2 = .val (.obj h) := (f7.keep 2 (by decide)).trans (by simp [E6, E5, E4, E3, E2, E1, gt_st, le])
  have n712 : (gt E7 12).isOwn = false := f7.no 12 (by decide) (by simp [E6, E5, E4, E3, E2, E1, gt_st, n12])
  have n714 : (gt E7 14).isOwn = false := f7.no 14 (by decide) (by simp [E6, E5, E4, E3, E2, E1, gt_st, n14])
  have n76 : (gt E7 6).isOwn = false := f7.no 6 (by decide) (by simp [E6, E5, gt_st, l4])
  have s8 : exS Φ z8 E7 m7 = .nx E7 m7 := by
    have pc := pairs_comp Φ Ed fs 4 F (es ++ es.take 2) (fun x hx => by
      rcases List.mem_append.mp hx with z | z
      · exact u3 x z
      · exact u3 x (List.mem_of_mem_take z)) m7 E7 l7 k73
    rw [List.map_append] at pc
    have cu : cut (es.map (pE fs)) none (some 2) = (es.take 2).map (pE fs) := by
      rw [List.map_take]
      show ((es.map (pE fs)).drop 0).take ((min 2 _) - 0) = _
      rw [List.drop_zero, Nat.sub_zero]
      by_cases h2 : 2 ≤ (es.map (pE fs)).length
      · rw [Nat.min_eq_left (by simpa using h2)]
      · rw [Nat.min_eq_right (by simpa using Nat.le_of_lt (Nat.lt_of_not_le h2)), List.take_of_length_le (Nat.le_refl _), List.take_of_length_le (by omega)]
    have le1 : (es.map (pE fs)).length + ((es.take 2).map (pE fs)).length ≤ line := by rw [List.length_map, List.length_map, List.length_take]; omega
    have no := noOwn_one n712
    generalize (es.take 2).map (pE fs) = p2 at *
    generalize es.map (pE fs) = p1 at *
    simp [z8, u2, no, cu, le1, pc, ne_none]
  let E8 : Env := st E7 13 (.val (.tup []))
  have s9 : exS Φ z9 E7 m7 = .nx E8 m7 := by simp [z9, E8]
  have l8 : E8.length = 17 := by simp [E8, st_length, l7]
  obtain ⟨d3, m8, e8, p8, q8, H8, b8⟩ := R h 4 _ m7 H7 (by omega) (by decide) (by decide)
  obtain ⟨n, rfl⟩ := Int.eq_ofNat_of_zero_le p8
  obtain ⟨E9, m9, ts, v1, v2, v3, v4, f9⟩ := ins_loop Φ R An h _ m8 H8 (by omega) n (by omega) E8 l8 (by simp [E8, gt_st, k72]) (by simp [E8, gt_st, l7]) (by simp [E8, gt_st, n714])
  have rg : rngOk (n : Int) = true := by unfold rngOk; exact decide_eq_true ⟨by omega, by omega⟩
  have s10 : exS Φ z10 E8 m7 = .nx E9 m9 := by
    have k2 : gt E8 2 = .val (.obj h) := by simp [E8, gt_st, k72]
    clear_value E8 h
    simp [z10, isAs, k2, e8, rg, v1]
  have l9 : E9.length = 17 := f9.len.trans l8
  let E10 : Env := st E9 16 (.val (.str []))
  have s11 : exS Φ z11 E9 m9 = .nx E10 m9 := by simp [z11, E10]
  have l10 : E10.length = 17 := by simp [E10, st_length, l9]
  have n96 : (gt E9 6).isOwn = false := f9.no 6 (by decide) (by simp [E8, gt_st, n76])
  obtain ⟨E11, w1, w2', f11⟩ := due_loop Φ Tn m9 ts v4 (by omega) E10 l10 (by simp [E10, gt_st, l9]) (by simp [E10, gt_st, n96])
  have k1013 : gt E10 13 = .val (.tup (ts.map Th.d)) := by simp [E10, gt_st, v2]
  have s12 : exS Φ z12 E10 m9 = .nx E11 m9 := by
    clear_value E10
    generalize ts.map Th.d = td at *
    simp [z12, isAs, k1013, w1]
  have l11 : E11.length = 17 := f11.len.trans l10
  have k1113 : gt E11 13 = .val (.tup (ts.map Th.d)) := (f11.keep 13 (by decide)).trans k1013
  have n1114 : (gt E11 14).isOwn = false := f11.no 14 (by decide) (by
    have : (gt E9 14).isOwn = false := f9.no 14 (by decide) (by simp [E8, gt_st, n714])
    simp [E10, gt_st, this])
  have s13 : exS Φ z13 E11 m9 = .nx E11 m9 := by
    have cm : compL (wipeE E11 [14]) (.nm 14) (fun e m => .ok (.bl true) m) (fun e m => evE Φ c_law_6 e m) (rngL 0 2) m9 = .ok [.str (inT ts), .str (inT ts)] m9 := by
      have z := compL_map (env := wipeE E11 [14]) (g := .nm 14) (tst := fun e m => .ok (.bl true) m) (elt := fun e m => evE Φ c_law_6 e m) (fun i : Nat => D.int i) (fun _ => D.str (inT ts)) m9 [0, 1] fun i _ => by
        have inp := Inp ts m9 v4 (by omega)
        refine ⟨st (wipeE E11 [14]) 14 (.val (.int i)), by rw [bindG_nm]; simp [wipeE, gt_st, l11], rfl, ?_⟩
        generalize ts.map Th.d = td at *
        simp [c_law_6, wipeE, gt_st, k1113, inp]
      exact z
    have no := noOwn_one n1114
    have tn := ths_ne ts
    have tw := two_ne (inT ts)
    have rl : (rngL 0 2).length ≤ line := by rw [rngL_len]; omega
    have r2 : rngOk 2 = true := by decide
    have ml : ∀ d : D, Bop.run .mul (.lst [d]) (.int 2) = some (.lst [d, d]) := fun _ => rfl
    cases ht : ts.isEmpty with
    | true =>
      have e : inT ts = [110, 111, 116, 104, 105, 110, 103] := by unfold inT; rw [if_pos (List.isEmpty_iff.mp ht)]
      rw [ht] at tn
      rw [e] at cm tw
      generalize ts.map Th.d = td at *
      generalize hR : rngL 0 2 = RR at *
      simp [z13, k1113, no, r2, hR, rl, cm, tn, ml, tw]
    | false =>
      have ne : ts ≠ [] := fun z => by subst z; cases ht
      have e : inT ts = joinT [32] (ts.map Th.t) := by unfold inT; rw [if_neg ne]
      rw [ht] at tn
      rw [e] at cm tw
      generalize ts.map Th.d = td at *
      generalize joinT [32] (ts.map Th.t) = jt at *
      generalize hR : rngL 0 2 = RR at *
      simp [z13, k1113, no, r2, hR, rl, cm, tn, ml, tw, w2']
  exact ⟨E11, m9, by rw [seqn s1, seqn s2, seqn s3, seqn s4, seqn s5, seqn s6, seqn s7, seqn s8, seqn s9, seqn s10, seqn s11, seqn s12, seqn s13]; rfl⟩

/-! k55: the law -/
theorem bd_law (Φ : Fs) (St : SState Φ) (R : SDraw Φ) (Rf : SDrawF Φ) (Fn : SFns Φ) (An : SAny Φ) (Tn : SThing Φ) (Fg : SFig Φ) (Fa : SFaults Φ 12) (Ed : SEnd Φ) (Inp : SInputs Φ) (ns : List Int) (m : Mem) : ∃ m', runFn Φ f_19.fn [.scr ns] m = .ok (false, .bl true) m' := by
  obtain ⟨e2, m2, u1, _, u3⟩ := fo_inv (Φ := Φ) (g := .nm 1) (b := l_law_7) [1, 2, 3, 4, 5, 6, 7, 8, 9, 10, 11, 13, 14, 15, 16] [7] (fun _ _ _ => True) (ds := rngL 0 4) (env := [.val (.scr ns), .no, .no, .no, .no, .no, .no, .no, .no, .no, .no, .no, .no, .no, .no, .no, .no]) (m := m) (by decide) (by decide) trivial fun j d e m' hj fr _ => by
    have hjn : j < 4 := by have := (List.getElem?_eq_some_iff.mp hj).1; rwa [rngL_len] at this
    rw [rngL_map, List.getElem?_map] at hj
    obtain ⟨i, hi, rfl⟩ := Option.map_eq_some_iff.mp hj
    have hij : i = j := by
      obtain ⟨_, q⟩ := List.getElem?_eq_some_iff.mp hi
      rw [List.getElem_range] at q
      exact q.symm
    subst hij
    have le : e.length = 17 := fr.len
    have no : ∀ i, i ≠ 7 → (gt ([.val (.scr ns), .no, .no, .no, .no, .no, .no, .no, .no, .no, .no, .no, .no, .no, .no, .no, .no] : Mp.Env) i).isOwn = false → (gt e i).isOwn = false := fun i h => fr.no i (by simpa using h)
    have n1 := no 1 (by decide) rfl
    have k0 : gt e 0 = .val (.scr ns) := fr.keep 0 (by decide)
    obtain ⟨e2, m2, r⟩ := turn55 Φ St R Rf Fn An Tn Fg Fa Ed Inp ns i (by omega) m' (st e 1 (.val (.int (0 + (i : Int))))) (by rw [st_length, le]) (by simp [gt_st, k0]) (by simp [gt_st, le])
      (by simp [gt_st, no 6 (by decide) rfl]) (by simp [gt_st, no 8 (by decide) rfl]) (by simp [gt_st, no 9 (by decide) rfl]) (by simp [gt_st, no 11 (by decide) rfl]) (by simp [gt_st, no 12 (by decide) rfl]) (by simp [gt_st, no 14 (by decide) rfl])
    exact ⟨st e 1 (.val (.int (0 + (i : Int)))), e2, m2, by rw [bindG_nm, n1]; rfl, .inl r, trivial⟩
  have rg : rngOk 4 = true := by decide
  have tn : (4 : Int).toNat = 4 := rfl
  refine ⟨m2, ?_⟩
  have hb : f_19.fn = ⟨1, 17, false, b_law⟩ := rfl
  rw [hb, run_eq _ _ rfl]
  have bl : b_law = .cons (.fo (.nm 1) (.rg1 (.int 4)) l_law_7) (.cons (.ret (.bl true)) .nil) := rfl
  rw [bl]
  generalize l_law_7 = L at *
  simp [isAs, rg, tn, u1]
theorem plain (cl : Nat → Nat) (ns : List Int) (hn : ns.length ≤ 63) : ∃ m, Pc cl 30 19 [.scr ns] (tb0.map fun q => .kon (.str q)) = .ok (false, .bl true) m := by
  have d1 : ∀ n, SMixed (Pc cl (n + 1)) := fun n c k m h0 h1 => by rw [pc_run (fn := f_4.fn) rfl]; exact bd_mixed _ c k m h0 h1
  have d2 : ∀ n, SDraw (Pc cl (n + 2)) := fun n h many c m H hc h1 h2 => by rw [pc_run (fn := f_6.fn) rfl]; exact bd_draw _ (d1 n) h many c m H hc h1 h2
  have df : ∀ n, SDrawF (Pc cl (n + 2)) := fun n h c m H hc => by rw [pc_run (fn := f_6.fn) rfl]; exact bd_drawF _ (d1 n) h c m H hc
  have d3 : ∀ n, SCellAt (Pc cl (n + 1)) := fun n ns k m => by rw [pc_run (fn := f_3.fn) rfl]; exact bd_cell_at _ ns k m
  have d4 : ∀ n, SState (Pc cl (n + 2)) := fun n ns k m h => by rw [pc_run (fn := f_5.fn) rfl]; exact bd_state _ (d1 n) (d3 n) ns k m h
  have d5 : ∀ n, SOf (Pc cl (n + 3)) := fun n h c m xs H hc h1 h2 => by rw [pc_run (fn := f_7.fn) rfl]; exact bd_of _ (d2 n) h c m xs H hc h1 h2
  have d6 : ∀ n, SC (Pc cl (n + 3)) := fun n h c m q H hc h1 h2 => by rw [pc_run (fn := f_9.fn) rfl]; exact bd_c _ (d2 n) h c m q H hc h1 h2
  have d7 : ∀ n, SNames (Pc cl (n + 3)) := fun n h c m k H hc h1 => by rw [pc_run (fn := f_8.fn) rfl]; exact bd_names _ (d2 n) h c m k H hc h1
  have d8 : ∀ n, SAtom (Pc cl (n + 4)) := fun n h c m q ks H hc h1 h2 hk => by rw [pc_run (fn := f_10.fn) rfl]; exact bd_atom _ (d2 (n + 1)) (d5 n) (d6 n) h c m q ks H hc h1 h2 hk
  have d9 : ∀ n, SHanded (Pc cl (n + 5)) := fun n h c m q ks k H hc h1 h2 hk => by rw [pc_run (fn := f_11.fn) rfl]; exact bd_handed _ (d5 (n + 1)) (d8 n) h c m q ks k H hc h1 h2 hk
  have d10 : ∀ n, SSide (Pc cl (n + 6)) := fun n h c m q ks sg out hf H hc h1 h2 hk h3 h4 => by rw [pc_run (fn := f_12.fn) rfl]; exact bd_side _ (d2 (n + 3)) (d5 (n + 2)) (d8 (n + 1)) (d9 n) h c m q ks sg out hf H hc h1 h2 hk h3 h4
  have d11 : ∀ n r, SBody (Pc cl (n + r + 6)) r := fun n r => by
    induction r with
    | zero => exact fun h c m q ks sg out hf fr room h1 h2 => absurd h1 (by omega)
    | succ r ih =>
      intro h c m q ks sg out hf fr room h1 h2 H hc y1 y2 hk y3 y4 y5 y6 y7 y8
      have e : Pc cl (n + (r + 1) + 6) = Pc cl (n + r + 6 + 1) := rfl
      rw [e, pc_run (fn := f_13.fn) rfl]
      exact bd_body _ (d2 (n + r + 4)) (d8 (n + r + 2)) (d9 (n + r + 1)) (d10 (n + r)) r ih h c m q ks sg out hf fr room h1 h2 H hc y1 y2 hk y3 y4 y5 y6 y7 y8
  have d13 : ∀ n, SFns (Pc cl (n + 19)) := fun n h c m q many rooms H hc h1 h2 h3 h4 h5 h6 => by rw [pc_run (fn := f_14.fn) rfl]; exact bd_fns _ (d2 (n + 16)) (d7 (n + 15)) (d11 n 12) h c m q many rooms H hc h1 h2 h3 h4 h5 h6
  have d14 : ∀ n, SFig (Pc cl (n + 1)) := fun n i m h => by rw [pc_run (fn := f_15.fn) rfl]; exact bd_fig _ i m h
  have d15 : ∀ n, SThingT (Pc cl (n + 1)) := fun n t m h => by rw [pc_run (fn := f_0.fn) rfl]; exact bd_thingT _ t m h
  have d16 : ∀ n, SThing (Pc cl (n + 2)) := fun n t m h => by rw [pc_run (fn := f_16.fn) rfl]; exact bd_thing _ (d14 n) t m h
  have d17 : ∀ n, SAny (Pc cl (n + 4)) := fun n h c m k is H hc h1 h2 h3 => by rw [pc_run (fn := f_17.fn) rfl]; exact bd_any _ (d2 (n + 1)) (d5 n) h c m k is H hc h1 h2 h3
  have d18 : ∀ n r, SFaults (Pc cl (n + r)) r := fun n r => by
    induction r with
    | zero => exact fun b f a hf xs m h => absurd (bd_pos b) (by omega)
    | succ r ih =>
      intro b f a hf xs m h1 h2 h3
      have e : Pc cl (n + (r + 1)) = Pc cl (n + r + 1) := rfl
      rw [e, pc_run (fn := f_18.fn) rfl]
      exact bd_faults _ r ih b f a hf xs m h1 h2 h3
  have d19 : ∀ n, SEnd (Pc cl (n + 2)) := fun n fs q rooms e m F h => by rw [pc_run (fn := f_2.fn) rfl]; exact bd_end _ (d15 n) fs q rooms e m F h
  have d20 : ∀ n, SInputs (Pc cl (n + 2)) := fun n ts m h hl => by rw [pc_run (fn := f_1.fn) rfl]; exact bd_inputs _ (d15 n) ts m h hl
  rw [pc_run (fn := f_19.fn) rfl]
  exact bd_law _ (d4 27) (d2 27) (df 27) (d13 10) (d17 25) (d16 27) (d14 28) (d18 17 12) (d19 27) (d20 27) ns _

end K
end Mp
namespace Mp
namespace K
open PySem L2
open PySem.Spec PyProof.Rows in
theorem all_mk {w : World} {K : PySem.W.Frag} {h : Heap} {mg : Str → Option Value} {a0 a1 a2 a3 a4 a5 a6 a7 a8 a9 a10 a11 a12 a13 a14 a15 a16 a17 a18 a19 : Addr} {pq : Program} (X : K.In h) (N : h.Ns mainGlobals mg) (htab : ∀ (x : Str) (c P : Addr), ((recsOf pq).find? fun e => e.name == x).isSome = true → PySem.W.tabIn K x = some (c, P) → PySem.W.CodeHd h c P ∧ h.get? P = some { cls := .none, data := .fields #[] })
    {od0 an0 od1 an1 od2 an2 od3 an3 od4 an4 od5 an5 od6 an6 od7 an7 od8 an8 od9 an9 od10 an10 od11 an11 od12 an12 od13 an13 od14 an14 od15 an15 od16 an16 od17 an17 od18 an18 od19 an19 : Option Addr} {sl0 sl1 sl2 sl3 sl4 sl5 sl6 sl7 sl8 sl9 sl10 sl11 sl12 sl13 sl14 sl15 sl16 sl17 sl18 sl19 : Array (Option Value)} {oc_0 kV0 dc0 pm0 cd0 ct0 oc_1 kV1 dc1 pm1 cd1 ct1 oc_2 kV2 dc2 pm2 cd2 ct2 oc_3 kV3 dc3 pm3 cd3 ct3 oc_4 kV4 dc4 pm4 cd4 ct4 oc_5 kV5 dc5 pm5 cd5 ct5 oc_6 kV6 dc6 pm6 cd6 ct6 oc_7 kV7 dc7 pm7 cd7 ct7 oc_8 kV8 dc8 pm8 cd8 ct8 oc_9 kV9 dc9 pm9 cd9 ct9 oc_10 kV10 dc10 pm10 cd10 ct10 oc_11 kV11 dc11 pm11 cd11 ct11 oc_12 kV12 dc12 pm12 cd12 ct12 oc_13 kV13 dc13 pm13 cd13 ct13 oc_14 kV14 dc14 pm14 cd14 ct14 oc_15 kV15 dc15 pm15 cd15 ct15 oc_16 kV16 dc16 pm16 cd16 ct16 oc_17 kV17 dc17 pm17 cd17 ct17 oc_18 kV18 dc18 pm18 cd18 ct18 oc_19 kV19 dc19 pm19 cd19 ct19 : Value}
    (n0 : PySem.W.nsIn K mainGlobals "thing_text" = some (some (.ref a0))) (l0 : K.lookup a0 = some ⟨oc_0, od0, .func (PySem.W.fnOf "thing_text" "thing_text" (defArgs (top 1)) (defBody (top 1)) (defScope (top 1)) .none kV0 dc0 pm0 an0 cd0 ct0), sl0⟩) (c0 : PySem.W.codeIn K cd0 "thing_text" = true) (k0 : PySem.W.keepIn K (.ref a0) = true)
    (n1 : PySem.W.nsIn K mainGlobals "inputs_text" = some (some (.ref a1))) (l1 : K.lookup a1 = some ⟨oc_1, od1, .func (PySem.W.fnOf "inputs_text" "inputs_text" (defArgs (top 2)) (defBody (top 2)) (defScope (top 2)) .none kV1 dc1 pm1 an1 cd1 ct1), sl1⟩) (c1 : PySem.W.codeIn K cd1 "inputs_text" = true) (k1 : PySem.W.keepIn K (.ref a1) = true)
    (n2 : PySem.W.nsIn K mainGlobals "end_text" = some (some (.ref a2))) (l2 : K.lookup a2 = some ⟨oc_2, od2, .func (PySem.W.fnOf "end_text" "end_text" (defArgs (top 3)) (defBody (top 3)) (defScope (top 3)) .none kV2 dc2 pm2 an2 cd2 ct2), sl2⟩) (c2 : PySem.W.codeIn K cd2 "end_text" = true) (k2 : PySem.W.keepIn K (.ref a2) = true)
    (n3 : PySem.W.nsIn K mainGlobals "_law_cell_at" = some (some (.ref a3))) (l3 : K.lookup a3 = some ⟨oc_3, od3, .func (PySem.W.fnOf "_law_cell_at" "_law_cell_at" (defArgs (top 5)) (defBody (top 5)) (defScope (top 5)) .none kV3 dc3 pm3 an3 cd3 ct3), sl3⟩) (c3 : PySem.W.codeIn K cd3 "_law_cell_at" = true) (k3 : PySem.W.keepIn K (.ref a3) = true)
    (n4 : PySem.W.nsIn K mainGlobals "_law_mixed" = some (some (.ref a4))) (l4 : K.lookup a4 = some ⟨oc_4, od4, .func (PySem.W.fnOf "_law_mixed" "_law_mixed" (defArgs (top 6)) (defBody (top 6)) (defScope (top 6)) .none kV4 dc4 pm4 an4 cd4 ct4), sl4⟩) (c4 : PySem.W.codeIn K cd4 "_law_mixed" = true) (k4 : PySem.W.keepIn K (.ref a4) = true)
    (n5 : PySem.W.nsIn K mainGlobals "_law_state" = some (some (.ref a5))) (l5 : K.lookup a5 = some ⟨oc_5, od5, .func (PySem.W.fnOf "_law_state" "_law_state" (defArgs (top 7)) (defBody (top 7)) (defScope (top 7)) .none kV5 dc5 pm5 an5 cd5 ct5), sl5⟩) (c5 : PySem.W.codeIn K cd5 "_law_state" = true) (k5 : PySem.W.keepIn K (.ref a5) = true)
    (n6 : PySem.W.nsIn K mainGlobals "_law_draw" = some (some (.ref a6))) (l6 : K.lookup a6 = some ⟨oc_6, od6, .func (PySem.W.fnOf "_law_draw" "_law_draw" (defArgs (top 8)) (defBody (top 8)) (defScope (top 8)) .none kV6 dc6 pm6 an6 cd6 ct6), sl6⟩) (c6 : PySem.W.codeIn K cd6 "_law_draw" = true) (k6 : PySem.W.keepIn K (.ref a6) = true)
    (n7 : PySem.W.nsIn K mainGlobals "_law_of" = some (some (.ref a7))) (l7 : K.lookup a7 = some ⟨oc_7, od7, .func (PySem.W.fnOf "_law_of" "_law_of" (defArgs (top 9)) (defBody (top 9)) (defScope (top 9)) .none kV7 dc7 pm7 an7 cd7 ct7), sl7⟩) (c7 : PySem.W.codeIn K cd7 "_law_of" = true) (k7 : PySem.W.keepIn K (.ref a7) = true)
    (n8 : PySem.W.nsIn K mainGlobals "_law_names" = some (some (.ref a8))) (l8 : K.lookup a8 = some ⟨oc_8, od8, .func (PySem.W.fnOf "_law_names" "_law_names" (defArgs (top 10)) (defBody (top 10)) (defScope (top 10)) .none kV8 dc8 pm8 an8 cd8 ct8), sl8⟩) (c8 : PySem.W.codeIn K cd8 "_law_names" = true) (k8 : PySem.W.keepIn K (.ref a8) = true)
    (n9 : PySem.W.nsIn K mainGlobals "_law_c" = some (some (.ref a9))) (l9 : K.lookup a9 = some ⟨oc_9, od9, .func (PySem.W.fnOf "_law_c" "_law_c" (defArgs (top 11)) (defBody (top 11)) (defScope (top 11)) .none kV9 dc9 pm9 an9 cd9 ct9), sl9⟩) (c9 : PySem.W.codeIn K cd9 "_law_c" = true) (k9 : PySem.W.keepIn K (.ref a9) = true)
    (n10 : PySem.W.nsIn K mainGlobals "_law_atom" = some (some (.ref a10))) (l10 : K.lookup a10 = some ⟨oc_10, od10, .func (PySem.W.fnOf "_law_atom" "_law_atom" (defArgs (top 12)) (defBody (top 12)) (defScope (top 12)) .none kV10 dc10 pm10 an10 cd10 ct10), sl10⟩) (c10 : PySem.W.codeIn K cd10 "_law_atom" = true) (k10 : PySem.W.keepIn K (.ref a10) = true)
    (n11 : PySem.W.nsIn K mainGlobals "_law_handed" = some (some (.ref a11))) (l11 : K.lookup a11 = some ⟨oc_11, od11, .func (PySem.W.fnOf "_law_handed" "_law_handed" (defArgs (top 13)) (defBody (top 13)) (defScope (top 13)) .none kV11 dc11 pm11 an11 cd11 ct11), sl11⟩) (c11 : PySem.W.codeIn K cd11 "_law_handed" = true) (k11 : PySem.W.keepIn K (.ref a11) = true)
    (n12 : PySem.W.nsIn K mainGlobals "_law_side" = some (some (.ref a12))) (l12 : K.lookup a12 = some ⟨oc_12, od12, .func (PySem.W.fnOf "_law_side" "_law_side" (defArgs (top 14)) (defBody (top 14)) (defScope (top 14)) .none kV12 dc12 pm12 an12 cd12 ct12), sl12⟩) (c12 : PySem.W.codeIn K cd12 "_law_side" = true) (k12 : PySem.W.keepIn K (.ref a12) = true)
    (n13 : PySem.W.nsIn K mainGlobals "_law_body" = some (some (.ref a13))) (l13 : K.lookup a13 = some ⟨oc_13, od13, .func (PySem.W.fnOf "_law_body" "_law_body" (defArgs (top 15)) (defBody (top 15)) (defScope (top 15)) .none kV13 dc13 pm13 an13 cd13 ct13), sl13⟩) (c13 : PySem.W.codeIn K cd13 "_law_body" = true) (k13 : PySem.W.keepIn K (.ref a13) = true)
    (n14 : PySem.W.nsIn K mainGlobals "_law_functions" = some (some (.ref a14))) (l14 : K.lookup a14 = some ⟨oc_14, od14, .func (PySem.W.fnOf "_law_functions" "_law_functions" (defArgs (top 16)) (defBody (top 16)) (defScope (top 16)) .none kV14 dc14 pm14 an14 cd14 ct14), sl14⟩) (c14 : PySem.W.codeIn K cd14 "_law_functions" = true) (k14 : PySem.W.keepIn K (.ref a14) = true)
    (n15 : PySem.W.nsIn K mainGlobals "_law_figures" = some (some (.ref a15))) (l15 : K.lookup a15 = some ⟨oc_15, od15, .func (PySem.W.fnOf "_law_figures" "_law_figures" (defArgs (top 18)) (defBody (top 18)) (defScope (top 18)) .none kV15 dc15 pm15 an15 cd15 ct15), sl15⟩) (c15 : PySem.W.codeIn K cd15 "_law_figures" = true) (k15 : PySem.W.keepIn K (.ref a15) = true)
    (n16 : PySem.W.nsIn K mainGlobals "_law_thing" = some (some (.ref a16))) (l16 : K.lookup a16 = some ⟨oc_16, od16, .func (PySem.W.fnOf "_law_thing" "_law_thing" (defArgs (top 19)) (defBody (top 19)) (defScope (top 19)) .none kV16 dc16 pm16 an16 cd16 ct16), sl16⟩) (c16 : PySem.W.codeIn K cd16 "_law_thing" = true) (k16 : PySem.W.keepIn K (.ref a16) = true)
    (n17 : PySem.W.nsIn K mainGlobals "_law_any" = some (some (.ref a17))) (l17 : K.lookup a17 = some ⟨oc_17, od17, .func (PySem.W.fnOf "_law_any" "_law_any" (defArgs (top 20)) (defBody (top 20)) (defScope (top 20)) .none kV17 dc17 pm17 an17 cd17 ct17), sl17⟩) (c17 : PySem.W.codeIn K cd17 "_law_any" = true) (k17 : PySem.W.keepIn K (.ref a17) = true)
    (n18 : PySem.W.nsIn K mainGlobals "_law_faults" = some (some (.ref a18))) (l18 : K.lookup a18 = some ⟨oc_18, od18, .func (PySem.W.fnOf "_law_faults" "_law_faults" (defArgs (top 21)) (defBody (top 21)) (defScope (top 21)) .none kV18 dc18 pm18 an18 cd18 ct18), sl18⟩) (c18 : PySem.W.codeIn K cd18 "_law_faults" = true) (k18 : PySem.W.keepIn K (.ref a18) = true)
    (n19 : PySem.W.nsIn K mainGlobals "law" = some (some (.ref a19))) (l19 : K.lookup a19 = some ⟨oc_19, od19, .func (PySem.W.fnOf "law" "law" (defArgs (top 22)) (defBody (top 22)) (defScope (top 22)) .none kV19 dc19 pm19 an19 cd19 ct19), sl19⟩) (c19 : PySem.W.codeIn K cd19 "law" = true) (k19 : PySem.W.keepIn K (.ref a19) = true)
    (z0 : PySem.W.nsIn K mainGlobals "dict" = some none)
    (z1 : PySem.W.nsIn K mainGlobals "enumerate" = some none)
    (z2 : PySem.W.nsIn K mainGlobals "int" = some none)
    (z3 : PySem.W.nsIn K mainGlobals "isinstance" = some none)
    (z4 : PySem.W.nsIn K mainGlobals "len" = some none)
    (z5 : PySem.W.nsIn K mainGlobals "list" = some none)
    (z6 : PySem.W.nsIn K mainGlobals "max" = some none)
    (z7 : PySem.W.nsIn K mainGlobals "range" = some none)
    (z8 : PySem.W.nsIn K mainGlobals "repr" = some none)
    (z9 : PySem.W.nsIn K mainGlobals "str" = some none)
    (z10 : PySem.W.nsIn K mainGlobals "tuple" = some none)
    : ∃ (fd : FuncData) (cs : List (Addr × Addr)) (sp : List V → Hp → VK → XK → Prop), (∀ p ∈ cs, h.get? p.2 = some { cls := .none, data := .fields #[] }) ∧ (∀ p ∈ cs, K.lookup p.2 = none) ∧ (∀ p ∈ cs, PySem.W.CodeHd h p.1 p.2) ∧ (∀ (s : Shared) (u : Value), BindsTo s fd ⟨[u], []⟩ [("script", u)]) ∧
      (∀ (H : Hp) (a : Addr) (ns : List Int), ns.length ≤ 63 → (∀ p ∈ cs, H p.2 = some (.tbl #[])) → SqL K H a (ns.map V.int) → sp [.ref a] H (fun v _ => v = .bl true) noE) ∧
      (∀ (Pg : Program) (base : Heap), (∀ p ∈ cs, LamX.TabB base mg p.1 p.2) → MFn Pg w K mg base (3 * 30) a19 fd ["script"] sp) ∧ mg "law" = some (.ref a19) := by
  have F0 := fun_mk (st := (top 1)) l0 c0 k0
  have b0 := F0.binds (ps := f_0.ps) fun _ _ _ _ _ _ us hl => match us, hl with | [_], _ => rfl
  have F1 := fun_mk (st := (top 2)) l1 c1 k1
  have b1 := F1.binds (ps := f_1.ps) fun _ _ _ _ _ _ us hl => match us, hl with | [_], _ => rfl
  have F2 := fun_mk (st := (top 3)) l2 c2 k2
  have b2 := F2.binds (ps := f_2.ps) fun _ _ _ _ _ _ us hl => match us, hl with | [_, _], _ => rfl
  have F3 := fun_mk (st := (top 5)) l3 c3 k3
  have b3 := F3.binds (ps := f_3.ps) fun _ _ _ _ _ _ us hl => match us, hl with | [_, _], _ => rfl
  have F4 := fun_mk (st := (top 6)) l4 c4 k4
  have b4 := F4.binds (ps := f_4.ps) fun _ _ _ _ _ _ us hl => match us, hl with | [_, _], _ => rfl
  have F5 := fun_mk (st := (top 7)) l5 c5 k5
  have b5 := F5.binds (ps := f_5.ps) fun _ _ _ _ _ _ us hl => match us, hl with | [_, _], _ => rfl
  have F6 := fun_mk (st := (top 8)) l6 c6 k6
  have b6 := F6.binds (ps := f_6.ps) fun _ _ _ _ _ _ us hl => match us, hl with | [_, _], _ => rfl
  have F7 := fun_mk (st := (top 9)) l7 c7 k7
  have b7 := F7.binds (ps := f_7.ps) fun _ _ _ _ _ _ us hl => match us, hl with | [_, _], _ => rfl
  have F8 := fun_mk (st := (top 10)) l8 c8 k8
  have b8 := F8.binds (ps := f_8.ps) fun _ _ _ _ _ _ us hl => match us, hl with | [_, _], _ => rfl
  have F9 := fun_mk (st := (top 11)) l9 c9 k9
  have b9 := F9.binds (ps := f_9.ps) fun _ _ _ _ _ _ us hl => match us, hl with | [_, _], _ => rfl
  have F10 := fun_mk (st := (top 12)) l10 c10 k10
  have b10 := F10.binds (ps := f_10.ps) fun _ _ _ _ _ _ us hl => match us, hl with | [_, _, _], _ => rfl
  have F11 := fun_mk (st := (top 13)) l11 c11 k11
  have b11 := F11.binds (ps := f_11.ps) fun _ _ _ _ _ _ us hl => match us, hl with | [_, _, _, _], _ => rfl
  have F12 := fun_mk (st := (top 14)) l12 c12 k12
  have b12 := F12.binds (ps := f_12.ps) fun _ _ _ _ _ _ us hl => match us, hl with | [_, _], _ => rfl
  have F13 := fun_mk (st := (top 15)) l13 c13 k13
  have b13 := F13.binds (ps := f_13.ps) fun _ _ _ _ _ _ us hl => match us, hl with | [_, _, _], _ => rfl
  have F14 := fun_mk (st := (top 16)) l14 c14 k14
  have b14 := F14.binds (ps := f_14.ps) fun _ _ _ _ _ _ us hl => match us, hl with | [_, _, _, _], _ => rfl
  have F15 := fun_mk (st := (top 18)) l15 c15 k15
  have b15 := F15.binds (ps := f_15.ps) fun _ _ _ _ _ _ us hl => match us, hl with | [_], _ => rfl
  have F16 := fun_mk (st := (top 19)) l16 c16 k16
  have b16 := F16.binds (ps := f_16.ps) fun _ _ _ _ _ _ us hl => match us, hl with | [_], _ => rfl
  have F17 := fun_mk (st := (top 20)) l17 c17 k17
  have b17 := F17.binds (ps := f_17.ps) fun _ _ _ _ _ _ us hl => match us, hl with | [_, _, _], _ => rfl
  have F18 := fun_mk (st := (top 21)) l18 c18 k18
  have b18 := F18.binds (ps := f_18.ps) fun _ _ _ _ _ _ us hl => match us, hl with | [_, _, _, _], _ => rfl
  have F19 := fun_mk (st := (top 22)) l19 c19 k19
  have b19 := F19.binds (ps := f_19.ps) fun _ _ _ _ _ _ us hl => match us, hl with | [_], _ => rfl
  have gl : GlOk K mg G := by
    refine ⟨fun x d h hf => ?_, fun x xs h => ?_, fun x h => ?_⟩
    -- consts
    · exact nomatch h
    · exact nomatch h
    · simp only [G, Glo.of, blts, List.mem_cons, List.not_mem_nil, or_false] at h
      rcases h with rfl | rfl | rfl | rfl | rfl | rfl | rfl | rfl | rfl | rfl | rfl
      · exact PySem.W.mg_none_of X N z0
      · exact PySem.W.mg_none_of X N z1
      · exact PySem.W.mg_none_of X N z2
      · exact PySem.W.mg_none_of X N z3
      · exact PySem.W.mg_none_of X N z4
      · exact PySem.W.mg_none_of X N z5
      · exact PySem.W.mg_none_of X N z6
      · exact PySem.W.mg_none_of X N z7
      · exact PySem.W.mg_none_of X N z8
      · exact PySem.W.mg_none_of X N z9
      · exact PySem.W.mg_none_of X N z10
  have hT : ∀ p ∈ ([] : List (Addr × Addr)), h.get? p.2 = some { cls := .none, data := .fields #[] } ∧ K.lookup p.2 = none ∧ PySem.W.CodeHd h p.1 p.2 := by
    intro p hp
    exact nomatch hp
  have hx : ∀ k, XcOk K mg excs (callX (xFs xrl xsub (fun i => ([] : List Addr).getD i 0)) (prog.map FnC.fn) k) := by
    refine xc_mk (by rw [List.length_map]; decide) (by decide) (fun i x hi h => ?_) (fun j x o h => ?_)
    · exact nomatch hi
    · exact nomatch h
  have htd : ∀ x st N', told.lookup x = some (st, N') → ∃ g fd, mg x = some (.ref g) ∧ Fun K x x st g fd ∧ Binds K fd (N'.take 1) [] := by
    intro x st N' h
    exact nomatch h
  have hd : ∀ (base : Heap), (∀ p ∈ ([] : List (Addr × Addr)), LamX.TabB base mg p.1 p.2) → ∀ f fc, prog[f]? = some fc → DefAt K mg base (([] : List (Addr × Addr)).map (·.2)) G fc (([a0, a1, a2, a3, a4, a5, a6, a7, a8, a9, a10, a11, a12, a13, a14, a15, a16, a17, a18, a19] : List Addr).getD f 0) := by
    intro base hTB f fc hf
    match f, hf with
    | 0, hf => obtain rfl : f_0 = fc := Option.some.inj hf; exact ⟨⟨(top 1), "thing_text", _, F0, b0, chk_0, (fun t q z => by cases (show none = some (t, q) from z))⟩, fun _ => PySem.W.mg_of X N n0⟩
    | 1, hf => obtain rfl : f_1 = fc := Option.some.inj hf; exact ⟨⟨(top 2), "inputs_text", _, F1, b1, chk_1, (fun t q z => by cases (show none = some (t, q) from z))⟩, fun _ => PySem.W.mg_of X N n1⟩
    | 2, hf => obtain rfl : f_2 = fc := Option.some.inj hf; exact ⟨⟨(top 3), "end_text", _, F2, b2, chk_2, (fun t q z => by cases (show none = some (t, q) from z))⟩, fun _ => PySem.W.mg_of X N n2⟩
    | 3, hf => obtain rfl : f_3 = fc := Option.some.inj hf; exact ⟨⟨(top 5), "_law_cell_at", _, F3, b3, chk_3, (fun t q z => by cases (show none = some (t, q) from z))⟩, fun _ => PySem.W.mg_of X N n3⟩
    | 4, hf => obtain rfl : f_4 = fc := Option.some.inj hf; exact ⟨⟨(top 6), "_law_mixed", _, F4, b4, chk_4, (fun t q z => by cases (show none = some (t, q) from z))⟩, fun _ => PySem.W.mg_of X N n4⟩
    | 5, hf => obtain rfl : f_5 = fc := Option.some.inj hf; exact ⟨⟨(top 7), "_law_state", _, F5, b5, chk_5, (fun t q z => by cases (show none = some (t, q) from z))⟩, fun _ => PySem.W.mg_of X N n5⟩
    | 6, hf => obtain rfl : f_6 = fc := Option.some.inj hf; exact ⟨⟨(top 8), "_law_draw", _, F6, b6, chk_6, (fun t q z => by cases (show none = some (t, q) from z))⟩, fun _ => PySem.W.mg_of X N n6⟩
    | 7, hf => obtain rfl : f_7 = fc := Option.some.inj hf; exact ⟨⟨(top 9), "_law_of", _, F7, b7, chk_7, (fun t q z => by cases (show none = some (t, q) from z))⟩, fun _ => PySem.W.mg_of X N n7⟩
    | 8, hf => obtain rfl : f_8 = fc := Option.some.inj hf; exact ⟨⟨(top 10), "_law_names", _, F8, b8, chk_8, (fun t q z => by cases (show none = some (t, q) from z))⟩, fun _ => PySem.W.mg_of X N n8⟩
    | 9, hf => obtain rfl : f_9 = fc := Option.some.inj hf; exact ⟨⟨(top 11), "_law_c", _, F9, b9, chk_9, (fun t q z => by cases (show none = some (t, q) from z))⟩, fun _ => PySem.W.mg_of X N n9⟩
    | 10, hf => obtain rfl : f_10 = fc := Option.some.inj hf; exact ⟨⟨(top 12), "_law_atom", _, F10, b10, chk_10, (fun t q z => by cases (show none = some (t, q) from z))⟩, fun _ => PySem.W.mg_of X N n10⟩
    | 11, hf => obtain rfl : f_11 = fc := Option.some.inj hf; exact ⟨⟨(top 13), "_law_handed", _, F11, b11, chk_11, (fun t q z => by cases (show none = some (t, q) from z))⟩, fun _ => PySem.W.mg_of X N n11⟩
    | 12, hf => obtain rfl : f_12 = fc := Option.some.inj hf; exact ⟨⟨(top 14), "_law_side", _, F12, b12, chk_12, (fun t q z => by cases (show none = some (t, q) from z))⟩, fun _ => PySem.W.mg_of X N n12⟩
    | 13, hf => obtain rfl : f_13 = fc := Option.some.inj hf; exact ⟨⟨(top 15), "_law_body", _, F13, b13, chk_13, (fun t q z => by cases (show none = some (t, q) from z))⟩, fun _ => PySem.W.mg_of X N n13⟩
    | 14, hf => obtain rfl : f_14 = fc := Option.some.inj hf; exact ⟨⟨(top 16), "_law_functions", _, F14, b14, chk_14, (fun t q z => by cases (show none = some (t, q) from z))⟩, fun _ => PySem.W.mg_of X N n14⟩
    | 15, hf => obtain rfl : f_15 = fc := Option.some.inj hf; exact ⟨⟨(top 18), "_law_figures", _, F15, b15, chk_15, (fun t q z => by cases (show none = some (t, q) from z))⟩, fun _ => PySem.W.mg_of X N n15⟩
    | 16, hf => obtain rfl : f_16 = fc := Option.some.inj hf; exact ⟨⟨(top 19), "_law_thing", _, F16, b16, chk_16, (fun t q z => by cases (show none = some (t, q) from z))⟩, fun _ => PySem.W.mg_of X N n16⟩
    | 17, hf => obtain rfl : f_17 = fc := Option.some.inj hf; exact ⟨⟨(top 20), "_law_any", _, F17, b17, chk_17, (fun t q z => by cases (show none = some (t, q) from z))⟩, fun _ => PySem.W.mg_of X N n17⟩
    | 18, hf => obtain rfl : f_18 = fc := Option.some.inj hf; exact ⟨⟨(top 21), "_law_faults", _, F18, b18, chk_18, (fun t q z => by cases (show none = some (t, q) from z))⟩, fun _ => PySem.W.mg_of X N n18⟩
    | 19, hf => obtain rfl : f_19 = fc := Option.some.inj hf; exact ⟨⟨(top 22), "law", _, F19, b19, chk_19, (fun t q z => by cases (show none = some (t, q) from z))⟩, fun _ => PySem.W.mg_of X N n19⟩
    | f + 20, hf => exact nomatch hf
  have hcs : ∀ j c, clss[j]? = some c → ∃ C, ClAt K mg prog (xFs xrl xsub (fun i => ([] : List Addr).getD i 0)) (fun f => ([a0, a1, a2, a3, a4, a5, a6, a7, a8, a9, a10, a11, a12, a13, a14, a15, a16, a17, a18, a19] : List Addr).getD f 0) j c C := by
    intro j c h
    match j, h with
    | j + 0, h => exact nomatch h
  refine ⟨PySem.W.fnOf "law" "law" (defArgs (top 22)) (defBody (top 22)) (defScope (top 22)) .none kV19 dc19 pm19 an19 cd19 ct19, [], MSp K (([] : List (Addr × Addr)).map (·.2)) (Pc (fun i => ([] : List Addr).getD i 0) 30) 19, fun p hp => (hT p hp).1, fun p hp => (hT p hp).2.1, fun p hp => (hT p hp).2.2, fun s v => .of_eq rfl,
    fun H a ns hl hH hS => law_sp (qs := tb0) (by simp) rfl (plain (fun i => ([] : List Addr).getD i 0)) K H a ns hl (fun P hP => ?_) hS, fun Pg base hTB => ?_, PySem.W.mg_of X N n19⟩
  · obtain ⟨p, hp, rfl⟩ := List.mem_map.mp hP
    exact hH p hp
  · exact prog_ok (Pg := Pg) (base := base) gl (hd base hTB) hx htd hcs 30 19 f_19 rfl _ ⟨top 22, "law", F19, chk_19, (fun t q z => by cases (show none = some (t, q) from z))⟩
end K
end Mp

open PySem PySem.W PyProof.Rows in
set_option maxRecDepth 100000 in
set_option maxHeartbeats 0 in
theorem PySem.Challenge.cw_strikehall_k55_ends_and_inputs_as_texts_holds : PySem.Challenge.rw_strikehall_k55_ends_and_inputs_as_texts.Holds := by
  w_on; o_law; k_head; (case hw => w_witness2)
  k_fill
  first | refine Mp.walk_M (l := PySem.Challenge.rw_strikehall_k55_ends_and_inputs_as_texts) (n := 63) (k := 3 * 30) (x := "script") rfl (by decide) rfl ⟨rfl, by decide, by decide⟩ (fun w h Y => PySem.W.kIn_of Y) ?F | refine Mp.walk_M (l := PySem.Challenge.rw_strikehall_k55_ends_and_inputs_as_texts) (n := 63) (k := 3 * 30) (x := "script") rfl (by decide) rfl ⟨rfl, by decide, by decide⟩ (fun w h Y => PySem.W.km_in_of Y) ?F
  case F =>
    intro w mg fa h KX G hmg htab
    obtain ⟨fd, cs, sp, h1, h2, h3, h4, h5, h6, hm⟩ : ∃ (fd : FuncData) (cs : List (Addr × Addr)) (sp : List L2.V → L2.Hp → L2.VK → L2.XK → Prop), _ ∧ _ ∧ _ ∧ _ ∧ _ ∧ _ ∧ _ := by
      refine' Mp.K.all_mk (w := w) KX G htab ?n0 ?l0 ?c0 ?k0 ?n1 ?l1 ?c1 ?k1 ?n2 ?l2 ?c2 ?k2 ?n3 ?l3 ?c3 ?k3 ?n4 ?l4 ?c4 ?k4 ?n5 ?l5 ?c5 ?k5 ?n6 ?l6 ?c6 ?k6 ?n7 ?l7 ?c7 ?k7 ?n8 ?l8 ?c8 ?k8 ?n9 ?l9 ?c9 ?k9 ?n10 ?l10 ?c10 ?k10 ?n11 ?l11 ?c11 ?k11 ?n12 ?l12 ?c12 ?k12 ?n13 ?l13 ?c13 ?k13 ?n14 ?l14 ?c14 ?k14 ?n15 ?l15 ?c15 ?k15 ?n16 ?l16 ?c16 ?k16 ?n17 ?l17 ?c17 ?k17 ?n18 ?l18 ?c18 ?k18 ?n19 ?l19 ?c19 ?k19 ?z0 ?z1 ?z2 ?z3 ?z4 ?z5 ?z6 ?z7 ?z8 ?z9 ?z10
      (case n0 => k_is)
      (case l0 => k_is)
      (case c0 => k_is)
      (case k0 => k_is)
      (case n1 => k_is)
      (case l1 => k_is)
      (case c1 => k_is)
      (case k1 => k_is)
      (case n2 => k_is)
      (case l2 => k_is)
      (case c2 => k_is)
      (case k2 => k_is)
      (case n3 => k_is)
      (case l3 => k_is)
      (case c3 => k_is)
      (case k3 => k_is)
      (case n4 => k_is)
      (case l4 => k_is)
      (case c4 => k_is)
      (case k4 => k_is)
      (case n5 => k_is)
      (case l5 => k_is)
      (case c5 => k_is)
      (case k5 => k_is)
      (case n6 => k_is)
      (case l6 => k_is)
      (case c6 => k_is)
      (case k6 => k_is)
      (case n7 => k_is)
      (case l7 => k_is)
      (case c7 => k_is)
      (case k7 => k_is)
      (case n8 => k_is)
      (case l8 => k_is)
      (case c8 => k_is)
      (case k8 => k_is)
      (case n9 => k_is)
      (case l9 => k_is)
      (case c9 => k_is)
      (case k9 => k_is)
      (case n10 => k_is)
      (case l10 => k_is)
      (case c10 => k_is)
      (case k10 => k_is)
      (case n11 => k_is)
      (case l11 => k_is)
      (case c11 => k_is)
      (case k11 => k_is)
      (case n12 => k_is)
      (case l12 => k_is)
      (case c12 => k_is)
      (case k12 => k_is)
      (case n13 => k_is)
      (case l13 => k_is)
      (case c13 => k_is)
      (case k13 => k_is)
      (case n14 => k_is)
      (case l14 => k_is)
      (case c14 => k_is)
      (case k14 => k_is)
      (case n15 => k_is)
      (case l15 => k_is)
      (case c15 => k_is)
      (case k15 => k_is)
      (case n16 => k_is)
      (case l16 => k_is)
      (case c16 => k_is)
      (case k16 => k_is)
      (case n17 => k_is)
      (case l17 => k_is)
      (case c17 => k_is)
      (case k17 => k_is)
      (case n18 => k_is)
      (case l18 => k_is)
      (case c18 => k_is)
      (case k18 => k_is)
      (case n19 => k_is)
      (case l19 => k_is)
      (case c19 => k_is)
      (case k19 => k_is)
      (case z0 => k_is)
      (case z1 => k_is)
      (case z2 => k_is)
      (case z3 => k_is)
      (case z4 => k_is)
      (case z5 => k_is)
      (case z6 => k_is)
      (case z7 => k_is)
      (case z8 => k_is)
      (case z9 => k_is)
      (case z10 => k_is)
    have e := hmg.symm.trans hm
    cases e
    exact ⟨fd, cs, sp, h1, h2, h3, h4, h5, fun base _ _ => h6 _ base⟩
#print axioms PySem.Challenge.cw_strikehall_k55_ends_and_inputs_as_texts_holds
