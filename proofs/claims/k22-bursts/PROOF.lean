import PyProof.Rows.All
import Wide.All
import OpenK.AllK
import Wide.FinOn
import HandS.ForMost
import HandS.TupAny
import HandS.TupMul
import HandS.Flow
import HandS.IsInst
import HandS.Zip
import HandS.New
import HandS.Dict
import HandS.DictComp
import HandS.SetKeys
import HandS.SortInts
import HandS.WideBits
import HandS.Iter
import HandS.Lambda
import PyProof.MaxThree
import KE.GoesEnum
import KE.KSortKeyAny
import HandS.Slots
import PyProof.Rows.CallKwBuiltin
import HandS.AnyAll
import HandS.Keys
import PyProof.SumAny
import PyProof.DictFindH
import PyProof.Rows.ListRangeD
import HandS.Style
import HandS.Words
import HandS.Ends
import HandS.EndTab
import PySem.Challenge.RW_wirework_k22_bursts
set_option Elab.async false
set_option linter.all false
set_option maxRecDepth 100000
/-! MpA: the small language: its syntax, its meaning in plain Lean. Tuples are data; lists, dicts stand in a store. -/
namespace MP
open PySem

/-- a value -/
inductive D where
  | non | bl (b : Bool) | int (i : Int) | str (s : Str) | tup (xs : List D) | ref (a : Addr)
/-- what stands in the store -/
inductive O where
  | lst (xs : List D)
  | dct (kvs : List (L2.Key × D))
  /-- a dict while a loop walks it: read, not written -/
  | lck (u : L2.HO) (kvs : List (L2.Key × D))
  | ins (C : Str) (fs : List (Str × D))
  /-- a dict whose keys are tuples of ints and texts -/
  | dcT (kvs : List (List L2.Key × D))
abbrev Sto := Addr → Option O
def put (st : Sto) (a : Addr) (o : O) : Sto := fun b => if b = a then some o else st b
theorem put_same {st : Sto} {a : Addr} {o : O} : put st a o a = some o := by unfold put; rw [if_pos rfl]
theorem put_ne {st : Sto} {a b : Addr} {o : O} (h : b ≠ a) : put st a o b = st b := by unfold put; rw [if_neg h]
theorem put_put {st : Sto} {a : Addr} {o u : O} : put (put st a o) a u = put st a u := by
  funext b; unfold put; split <;> rfl
theorem put_comm {st : Sto} {a b : Addr} {o u : O} (h : a ≠ b) : put (put st a o) b u = put (put st b u) a o := by
  funext c; unfold put
  by_cases h1 : c = b
  · by_cases h2 : c = a
    · exact absurd (h2.symm.trans h1) h
    · rw [if_pos h1, if_neg h2, if_pos h1]
  · by_cases h2 : c = a
    · rw [if_neg h1, if_pos h2, if_pos h2]
    · rw [if_neg h1, if_neg h2, if_neg h2, if_neg h1]
theorem put_self {st : Sto} {a : Addr} {o : O} (h : st a = some o) : put st a o = st := by
  funext c; unfold put
  by_cases h1 : c = a
  · rw [if_pos h1, h1, h]
  · rw [if_neg h1]
/-- a part of a store -/
def Sub (s t : Sto) : Prop := ∀ a o, s a = some o → t a = some o
theorem Sub.refl {s : Sto} : Sub s s := fun _ _ h => h
theorem Sub.trans {s t u : Sto} (h : Sub s t) (k : Sub t u) : Sub s u := fun a o e => k a o (h a o e)
theorem Sub.put {s t : Sto} (h : Sub s t) (a : Addr) (o : O) : Sub (put s a o) (put t a o) := by
  intro b u e
  unfold MP.put at e ⊢
  by_cases hb : b = a
  · rw [if_pos hb] at e ⊢; exact e
  · rw [if_neg hb] at e ⊢; exact h b u e
theorem Sub.new {s t : Sto} (h : Sub s t) {a : Addr} (n : s a = none) (o : O) : Sub s (MP.put t a o) := by
  intro b u e
  unfold MP.put
  by_cases hb : b = a
  · rw [hb, n] at e; cases e
  · rw [if_neg hb]; exact h b u e
theorem ne_st {s : Sto} {a b : Addr} {o : O} (h : s a = some o) (n : s b = none) : a ≠ b := by
  intro e; rw [e, n] at h; cases h

/-! ### syntax -/
inductive IK where
  | seq | range | enum | zip | rev
  deriving DecidableEq
inductive MT where
  | list | dict | str
  deriving DecidableEq
inductive G where
  | nm (i : Nat) | tup (gs : List G)
inductive E where
  | var (i : Nat)
  | non | bl (b : Bool) | int (n : Int) | str (s : Str)
  | bin (op : Operator) (a b : E)
  | neg (a : E) | not (a : E)
  | cmp (op : CmpOp) (a b : E)
  | cmp2 (op op' : CmpOp) (a b c : E)
  | bop (op : BoolOp) (es : List E)
  | ite (c a b : E)
  | tup (es : List E) | lst (es : List E)
  | ix (a i : E)
  | slc (a : E) (hl : Bool) (lo : E) (hh : Bool) (hi : E)
  | call (f : Str) (as : List E) (ks : List Str) (kes : List E)
  | blt (f : Str) (as : List E)
  | isi (e : E) (T : String)
  | mth (T : MT) (m : Str) (o : E) (as : List E)
  | fld (o : E) (f : Str)
  | lc (elt : E) (g : G) (k : IK) (as : List E) (ifs : List E) (own : List Nat)
  | dnew
  | dc (kx vx : E) (g : G) (k : IK) (as : List E) (ifs : List E) (own : List Nat)
  | dcT (kx vx : E) (g : G) (k : IK) (as : List E) (ifs : List E) (own : List Nat)
  /-- a method of a class of the text -/
  | um (o : E) (m : Str) (as : List E)
inductive S where
  | asg (g : G) (e : E)
  | sub (o i e : E)
  | sfl (o : E) (f : Str) (e : E)
  /-- a class called: the instance is made, __init__ runs -/
  | new (C : Str)
  | aug (i : Nat) (op : Operator) (e : E)
  | ex (e : E)
  | ret (e : E) | retN
  | iff (c : E) (a b : List S)
  | for (g : G) (k : IK) (as : List E) (body : List S)
  | ford (g : G) (i : Nat) (body : List S)
  | whl (c : E) (body : List S)
  | pass | brk | cont

/-! ### values: what the operations give -/
abbrev Env := List (Option D)
abbrev Kst := Addr → Option (List D)
section
variable (C : Kst)
/-- the list at an address -/
def rdL (st : Sto) (a : Addr) : Option (List D) :=
  match st a with
  | some (.lst xs) => some xs
  | some _ => none
  | none => C a
/-- the items of a tuple or a list -/
def items (st : Sto) : D → Option (List D)
  | .tup xs => some xs
  | .ref a => rdL C st a
  | _ => none
def truD (st : Sto) : D → Option Bool
  | .non => some false
  | .bl b => some b
  | .int i => some (i != 0)
  | .str s => if s.length ≤ sizeLine then some ((s.length : Int) != 0) else none
  | .tup xs => some !xs.isEmpty
  | .ref a => match rdL C st a with
    | some xs => some !xs.isEmpty
    | none => none
def flatD : D → Bool
  | .non => true | .bl _ => true | .int _ => true | .str _ => true | _ => false
/-- == of flat values -/
def eqD : D → D → Bool
  | .non, .non => true
  | .bl a, .bl b => a == b
  | .bl a, .int b => (if a then 1 else 0) == b
  | .int a, .bl b => a == (if b then 1 else 0)
  | .int a, .int b => a == b
  | .str a, .str b => a == b
  | _, _ => false
/-- a value as data: lists within to a depth -/
def dataL (f : D → Option PyData) : List D → Option (List PyData)
  | [] => some []
  | x :: xs => match f x, dataL f xs with
    | some d, some ds => some (d :: ds)
    | _, _ => none
def dataD : Nat → Sto → D → Option PyData
  | 0, _, .non => some .none
  | 0, _, .bl b => some (.bool b)
  | 0, _, .int i => some (.int i)
  | 0, _, .str s => some (.str s)
  | 0, _, .tup _ => none
  | 0, _, .ref _ => none
  | _ + 1, _, .non => some .none
  | _ + 1, _, .bl b => some (.bool b)
  | _ + 1, _, .int i => some (.int i)
  | _ + 1, _, .str s => some (.str s)
  | n + 1, st, .tup xs => match dataL (dataD n st) xs with
    | some ds => some (.tuple ds)
    | none => none
  | n + 1, st, .ref a => match rdL C st a with
    | some xs => match dataL (dataD n st) xs with
      | some ds => some (.list ds)
      | none => none
    | none => none
/-- x == y, x != y -/
def eqK (neg : Bool) (x y : D) (st : Sto) (K : D → Sto → Prop) : Prop :=
  match flatD x && flatD y with
  | true => (match x, y with
      | .bl _, .int _ => False
      | .int _, .bl _ => False
      | _, _ => K (.bl (if neg then !eqD x y else eqD x y)) st)
  | false => ∃ d e, dataD C 16 st x = some d ∧ dataD C 16 st y = some e ∧ SeqAt.shaped d = true ∧ SeqAt.shaped e = true ∧ K (.bl (if neg then !PyData.eqv d e else PyData.eqv d e)) st
def lexLt : List Int → List Int → Bool
  | [], [] => false
  | [], _ :: _ => true
  | _ :: _, [] => false
  | x :: xs, y :: ys => if x = y then lexLt xs ys else decide (x < y)
def allInts : List D → Option (List Int)
  | [] => some []
  | .int i :: xs => match allInts xs with
    | some ns => some (i :: ns)
    | none => none
  | _ :: _ => none
def isNon : D → Bool
  | .non => true
  | .bl _ => false | .int _ => false | .str _ => false | .tup _ => false | .ref _ => false
/-- keys -/
def keyOf : D → Option L2.Key
  | .int i => some (.inl i)
  | .str s => some (.inr s)
  | _ => none
def keyD : L2.Key → D
  | .inl i => .int i
  | .inr s => .str s
theorem keyOf_keyD : ∀ {d : D} {k : L2.Key}, keyOf d = some k → d = keyD k
  | .int _, _, h => by cases h; rfl
  | .str _, _, h => by cases h; rfl
  | .non, _, h => by cases h
  | .bl _, _, h => by cases h
  | .tup _, _, h => by cases h
  | .ref _, _, h => by cases h
def lookD {κ : Type} [DecidableEq κ] (kvs : List (κ × D)) (k : κ) : Option D := (kvs.find? fun kv => decide (kv.1 = k)).map (·.2)
def putD {κ : Type} [DecidableEq κ] (kvs : List (κ × D)) (k : κ) (v : D) : List (κ × D) :=
  if (kvs.any fun kv => decide (kv.1 = k)) = true then kvs.map (fun kv => if kv.1 = k then (kv.1, v) else kv) else kvs ++ [(k, v)]
def keysOf : List D → Option (List L2.Key)
  | [] => some []
  | x :: xs => match keyOf x, keysOf xs with
    | some k, some ks => some (k :: ks)
    | _, _ => none
/-- a tuple that is a key -/
def keyT : D → Option (List L2.Key)
  | .tup xs => keysOf xs
  | _ => none
def keyTD (ks : List L2.Key) : D := .tup (ks.map keyD)
/-- the dict of tuples at an address -/
def tctOf (st : Sto) : D → Option (List (List L2.Key × D))
  | .ref a => match st a with
    | some (.dcT kvs) => some kvs
    | _ => none
  | _ => none
/-- the attributes of an instance -/
def insOf (st : Sto) : D → Option (Str × List (Str × D))
  | .ref a => match st a with
    | some (.ins C fs) => some (C, fs)
    | _ => none
  | _ => none
def putFD (f : Str) (y : D) : List (Str × D) → List (Str × D)
  | [] => [(f, y)]
  | (g, z) :: fs => if g = f then (g, y) :: fs else (g, z) :: putFD f y fs
/-- the name under which a class's method stands -/
def mname (C m : Str) : Str := C ++ "." ++ m
/-- the dict at an address -/
def dctOf (st : Sto) : D → Option (List (L2.Key × D))
  | .ref a => match st a with
    | some (.dct kvs) => some kvs
    | some (.lck _ kvs) => some kvs
    | _ => none
  | _ => none
/-- y in the dict d -/
def dinK (neg : Bool) (x y : D) (st : Sto) (K : D → Sto → Prop) : Prop := match dctOf st y, keyOf x with
  | some kvs, some k => K (.bl (if neg then !(lookD kvs k).isSome else (lookD kvs k).isSome)) st
  | _, _ => False
/-- d[y] -/
def dixK (x y : D) (st : Sto) (K : D → Sto → Prop) : Prop := match dctOf st x, keyOf y with
  | some kvs, some k => (match lookD kvs k with
    | some v => K v st
    | none => False)
  | _, _ => False
/-- a comparison -/
def cmpK : CmpOp → D → D → Sto → (D → Sto → Prop) → Prop
  | .Eq, x, y, st, K => eqK C false x y st K
  | .NotEq, x, y, st, K => eqK C true x y st K
  | .Lt, .int i, .int j, st, K => K (.bl (decide (i < j))) st
  | .LtE, .int i, .int j, st, K => K (.bl (decide (i ≤ j))) st
  | .Gt, .int i, .int j, st, K => K (.bl (decide (j < i))) st
  | .GtE, .int i, .int j, st, K => K (.bl (decide (j ≤ i))) st
  | .Lt, .tup xs, .tup ys, st, K => ∃ ns ms, allInts xs = some ns ∧ allInts ys = some ms ∧ K (.bl (lexLt ns ms)) st
  | .Is, x, .non, st, K => K (.bl (isNon x)) st
  | .IsNot, x, .non, st, K => K (.bl !isNon x) st
  | .In, x, y, st, K => match items C st y with
    | some xs => flatD x = true ∧ xs.all flatD = true ∧ K (.bl (xs.any fun z => eqD z x)) st
    | none => dinK false x y st K
  | .NotIn, x, y, st, K => match items C st y with
    | some xs => flatD x = true ∧ xs.all flatD = true ∧ K (.bl !(xs.any fun z => eqD z x)) st
    | none => dinK true x y st K
  | _, _, _, _, _ => False
/-- a new list -/
def newL (xs : List D) (st : Sto) (K : D → Sto → Prop) : Prop := ∀ p, st p = none → K (.ref p) (put st p (.lst xs))
/-- a binary operation -/
def binK : Operator → D → D → Sto → (D → Sto → Prop) → Prop
  | .Add, .int i, .int j, st, K => K (.int (i + j)) st
  | .Add, .tup xs, .tup ys, st, K => xs.length + ys.length ≤ sizeLine ∧ K (.tup (xs ++ ys)) st
  | .Add, .ref a, .ref b, st, K => match st a, st b with
    | some (.lst xs), some (.lst ys) => xs.length + ys.length ≤ sizeLine ∧ newL (xs ++ ys) st K
    | _, _ => False
  | .Add, .str s, .str t, st, K => s.length + t.length ≤ sizeLine ∧ K (.str (s ++ t)) st
  | .Sub, .int i, .int j, st, K => K (.int (i - j)) st
  | .Mult, .int i, .int j, st, K => L2.CMul i j ∧ K (.int (i * j)) st
  | .Mult, .ref a, .int k, st, K => match st a with
    | some (.lst xs) => (-(2 ^ 63) ≤ k ∧ k < 2 ^ 63 ∧ xs.length * k.toNat ≤ sizeLine) ∧ newL (List.replicate k.toNat xs).flatten st K
    | _ => False
  | .Mult, .tup xs, .int k, st, K => (xs ≠ [] ∧ -1000 ≤ k ∧ k ≤ 1000 ∧ xs.length ≤ 1000) ∧ K (.tup (List.replicate k.toNat xs).flatten) st
  | .FloorDiv, .int i, .int j, st, K => L2.CDiv i j ∧ K (.int (i / j)) st
  | .Mod, .int i, .int j, st, K => 0 < j ∧ K (.int (i % j)) st
  | .Pow, .int i, .int j, st, K => L2.CPow i j ∧ K (.int (i ^ j.toNat)) st
  | .LShift, .int i, .int j, st, K => L2.CPow i j ∧ K (.int (i * 2 ^ j.toNat)) st
  | .RShift, .int i, .int j, st, K => 0 ≤ j ∧ K (.int (i / 2 ^ j.toNat)) st
  | .BitAnd, .int i, .int j, st, K => K (.int (Builtin.bitAnd i j)) st
  | .BitOr, .int i, .int j, st, K => K (.int (Builtin.bitOr i j)) st
  | .BitXor, .int i, .int j, st, K => K (.int (Builtin.bitXor i j)) st
  | _, _, _, _, _ => False
/-- an item by its number -/
def ixK : D → D → Sto → (D → Sto → Prop) → Prop
  | .tup xs, .int i, st, K => match L2.atI xs i with
    | some v => K v st
    | none => False
  | .ref a, .int i, st, K => match rdL C st a with
    | some xs => (match L2.atI xs i with
      | some v => K v st
      | none => False)
    | none => dixK (.ref a) (.int i) st K
  | x, y, st, K => dixK x y st K
def cutD (xs : List D) (lo hi : Option Int) : List D := (xs.drop (HT.sIx xs.length 0 lo)).take (HT.sIx xs.length xs.length hi - HT.sIx xs.length 0 lo)
def part (h : Bool) : D → Option (Option Int)
  | .int i => if h then some (some i) else none
  | .non => if h then none else some none
  | _ => none
def slcK : D → Option Int → Option Int → Sto → (D → Sto → Prop) → Prop
  | .tup xs, lo, hi, st, K => K (.tup (cutD xs lo hi)) st
  | .ref a, lo, hi, st, K => match rdL C st a with
    | some xs => newL (cutD xs lo hi) st K
    | none => False
  | _, _, _, _, _ => False
/-- keys and values, in turn -/
def pairsD : List D → Option (List (L2.Key × D))
  | [] => some []
  | [_] => none
  | k :: v :: r => match keyOf k, pairsD r with
    | some q, some ps => some ((q, v) :: ps)
    | _, _ => none
def mergeD (kvs more : List (L2.Key × D)) : List (L2.Key × D) := more.foldl (fun acc kv => putD acc kv.1 kv.2) kvs
/-- how many of a list's numbers, with x, are below z with y -/
def bltK2 (f : Str) (vs : List D) (st : Sto) (K : D → Sto → Prop) : Prop :=
  if f = "cntlt" then (match vs with
    | [.ref a, .tup (.int x :: .int y :: _), .int z] => (match rdL C st a with
      | some xs => (match allInts xs with
        | some ns => K (.int ((ns.filter fun n => decide (n + x < z + y)).length : Nat)) st
        | none => False)
      | none => False)
    | _ => False)
  else if f = "sorted0" then (match vs with
    | [.ref a] => (match st a with
      | some (.lst xs) => (∀ x ∈ xs, ∃ (i : Int) (r : List D), x = .tup (.int i :: r)) ∧ xs.length < 64 ∧ ∀ ys : List D, ys.Perm xs → newL ys st K
      | _ => False)
    | _ => False)
  else if f = "sorted" then (match vs with
    | [x] => (match items C st x with
      | some xs => ∃ ns, allInts xs = some ns ∧ ∀ ms : List Int, ms.Perm ns → ms.Pairwise (· ≤ ·) → newL (ms.map .int) st K
      | none => False)
    | _ => False)
  else if f = "bitlen" then (match vs with
    | [.int i] => K (.int (Builtin.Int.intBits i : Nat)) st
    | _ => False)
  else if f = "tdict" then (match vs with
    | [] => ∀ p, st p = none → K (.ref p) (put st p (.dcT []))
    | _ => False)
  else if f = "lrange" then (match vs with
    | [.int n] => -(2 ^ 62) ≤ n ∧ n < 2 ^ 62 ∧ n.toNat ≤ sizeLine ∧ newL ((List.range n.toNat).map fun (i : Nat) => .int i) st K
    | _ => False)
  else if f = "dlit" then (match pairsD vs with
    | some kvs => ∀ p, st p = none → K (.ref p) (put st p (.dct (mergeD [] kvs)))
    | none => False)
  else False
/-- built-in functions -/
def bltK (f : Str) (vs : List D) (st : Sto) (K : D → Sto → Prop) : Prop :=
  if f = "len" then (match vs with
    | [x] => (match items C st x with
      | some xs => K (.int xs.length) st
      | none => False)
    | _ => False)
  else if f = "int" then (match vs with
    | [.int i] => K (.int i) st
    | [.bl b] => K (.int (if b then 1 else 0)) st
    | _ => False)
  else if f = "abs" then (match vs with
    | [.int i] => K (.int (if i < 0 then -i else i)) st
    | _ => False)
  else if f = "max" then (match vs with
    | [.int i, .int j] => K (.int (if j > i then j else i)) st
    | [.int i, .int j, .int k] => K (.int (max (max i j) k)) st
    | [.ref a] => (match rdL C st a with
      | some xs => ∃ ns, allInts xs = some ns ∧ 0 < ns.length ∧ ∀ m, m ∈ ns → (∀ y, y ∈ ns → y ≤ m) → K (.int m) st
      | none => False)
    | _ => False)
  else if f = "min" then (match vs with
    | [.int i, .int j] => K (.int (if j < i then j else i)) st
    | [.ref a] => (match rdL C st a with
      | some xs => ∃ ns, allInts xs = some ns ∧ 0 < ns.length ∧ ∀ m, m ∈ ns → (∀ y, y ∈ ns → m ≤ y) → K (.int m) st
      | none => False)
    | _ => False)
  else if f = "sum" then (match vs with
    | [.ref a] => (match rdL C st a with
      | some xs => ∃ ns, allInts xs = some ns ∧ K (.int ns.sum) st
      | none => False)
    | _ => False)
  else if f = "tuple" then (match vs with
    | [x] => (match items C st x with
      | some xs => K (.tup xs) st
      | none => False)
    | _ => False)
  else if f = "list" then (match vs with
    | [x] => (match items C st x with
      | some xs => newL xs st K
      | none => False)
    | _ => False)
  else bltK2 C f vs st K
/-- isinstance of a value and a built-in class -/
def isiD (T : String) : D → Option Bool
  | .non => if T = "int" ∨ T = "str" ∨ T = "bool" ∨ T = "tuple" ∨ T = "list" then some false else none
  | .bl _ => if T = "int" ∨ T = "bool" then some true else if T = "str" ∨ T = "tuple" ∨ T = "list" then some false else none
  | .int _ => if T = "int" then some true else if T = "bool" ∨ T = "str" ∨ T = "tuple" ∨ T = "list" then some false else none
  | .str _ => if T = "str" then some true else if T = "int" ∨ T = "bool" ∨ T = "tuple" ∨ T = "list" then some false else none
  | .tup _ => if T = "tuple" then some true else if T = "int" ∨ T = "bool" ∨ T = "str" ∨ T = "list" then some false else none
  | .ref _ => none
/-- what a method's object must be -/
def tyK (T : MT) (x : D) (st : Sto) : Prop := match T, x with
  | .list, .ref a => (match st a with
    | some (.lst _) => True
    | _ => False)
  | .str, .str _ => True
  | .dict, x => (match dctOf st x with
    | some _ => True
    | none => match tctOf st x with
      | some _ => True
      | none => False)
  | _, _ => False
/-- d[k] = v -/
def dputK (x y v : D) (st : Sto) (K : Sto → Prop) : Prop := match x, keyOf y with
  | .ref a, some k => (match st a with
    | some (.dct kvs) => kvs.length < sizeLine ∧ K (put st a (.dct (putD kvs k v)))
    | _ => False)
  | .ref a, none => (match st a, keyT y with
    | some (.dcT kvs), some k => kvs.length < sizeLine ∧ K (put st a (.dcT (putD kvs k v)))
    | _, _ => False)
  | _, _ => False
/-- methods of dicts -/
def dmthK (m : Str) (x : D) (vs : List D) (st : Sto) (K : D → Sto → Prop) : Prop :=
  if m = "tget" then (match vs with
    | [y, d] => (match tctOf st x, keyT y with
      | some kvs, some k => K ((lookD kvs k).getD d) st
      | _, _ => False)
    | _ => False)
  else
  if m = "get" then (match vs with
    | [y, d] => (match dctOf st x, keyOf y with
      | some kvs, some k => K ((lookD kvs k).getD d) st
      | _, _ => False)
    | [y] => (match dctOf st x, keyOf y with
      | some kvs, some k => K ((lookD kvs k).getD .non) st
      | _, _ => False)
    | _ => False)
  else if m = "setdefault" then (match vs with
    | [y, d] => (match x, keyOf y with
      | .ref a, some k => (match st a with
        | some (.dct kvs) => kvs.length < sizeLine ∧ (match lookD kvs k with
          | some v => K v st
          | none => K d (put st a (.dct (putD kvs k d))))
        | _ => False)
      | _, _ => False)
    | _ => False)
  else False
/-- pop -/
def popK (a : Addr) (vs : List D) (st : Sto) (K : D → Sto → Prop) : Prop := match st a, vs with
      | some (.lst xs), [] => (match xs[xs.length - 1]? with
        | some y => K y (put st a (.lst xs.dropLast))
        | none => False)
      | some (.lst xs), [.int i] => (0 ≤ i ∧ i < 2 ^ 63) ∧ (match xs[i.toNat]? with
        | some y => K y (put st a (.lst (xs.eraseIdx i.toNat)))
        | none => False)
      | _, _ => False
/-- methods -/
def mthK : MT → Str → D → List D → Sto → (D → Sto → Prop) → Prop
  | .list, m, .ref a, vs, st, K =>
    if m = "append" then (match st a, vs with
      | some (.lst xs), [y] => xs.length < sizeLine ∧ K .non (put st a (.lst (xs ++ [y])))
      | _, _ => False)
    else if m = "extend" then (match st a, vs with
      | some (.lst xs), [.ref b] => (match st b with
        | some (.lst ys) => xs.length + ys.length ≤ sizeLine ∧ K .non (put st a (.lst (xs ++ ys)))
        | _ => False)
      | _, _ => False)
    else if m = "pop" then popK a vs st K
    else if m = "reverse" then (match st a, vs with
      | some (.lst xs), [] => K .non (put st a (.lst xs.reverse))
      | _, _ => False)
    else False
  | .dict, m, x, vs, st, K => dmthK m x vs st K
  | _, _, _, _, _, _ => False
/-- what a loop walks: the items, and what must stay -/
def itSeq (vs : List D) (st : Sto) (R : List D → (Sto → Prop) → Prop) : Prop := match vs with
  | [.tup xs] => R xs fun _ => True
  | [.ref a] => match rdL C st a with
    | some xs => R xs fun st' => rdL C st' a = some xs
    | none => False
  | _ => False
def itRange (vs : List D) (R : List D → (Sto → Prop) → Prop) : Prop := match vs with
  | [.int n] => -(2 ^ 62) ≤ n ∧ n < 2 ^ 62 ∧ R ((List.range n.toNat).map fun (i : Nat) => .int i) fun _ => True
  | [.int m, .int n] => (-(2 ^ 62) ≤ m ∧ m < 2 ^ 62 ∧ -(2 ^ 62) ≤ n ∧ n < 2 ^ 62) ∧ R ((List.range (n - m).toNat).map fun (i : Nat) => .int (m + i)) fun _ => True
  | [.int m, .int n, .int c] => ∃ k : Nat, (c ≠ 0 ∧ c.natAbs < 1073741824 ∧ PySem.Builtin.Range.small m n c = true ∧ PySem.Builtin.Range.rangeSize m n c = k) ∧ R ((List.range k).map fun (i : Nat) => .int (m + i * c)) fun _ => True
  | _ => False
def itEnum (vs : List D) (st : Sto) (R : List D → (Sto → Prop) → Prop) : Prop := match vs with
  | [.tup xs] => R (xs.zipIdx.map fun p => .tup [.int p.2, p.1]) fun _ => True
  | [.ref a] => match rdL C st a with
    | some xs => R (xs.zipIdx.map fun p => .tup [.int p.2, p.1]) fun st' => rdL C st' a = some xs
    | none => False
  | _ => False
def itK (k : IK) (vs : List D) (st : Sto) (R : List D → (Sto → Prop) → Prop) : Prop := match k with
  | .seq => itSeq C vs st R
  | .range => itRange vs R
  | .enum => itEnum C vs st R
  | .zip => False
  | .rev => False
end

/-! ### targets -/
mutual
def bindG : G → D → Env → Option Env
  | .nm i, d, σ => some (σ.set i (some d))
  | .tup gs, .tup xs, σ => bindGs gs xs σ
  | .tup _, _, _ => none
def bindGs : List G → List D → Env → Option Env
  | [], [], σ => some σ
  | g :: gs, x :: xs, σ => match bindG g x σ with
    | some σ' => bindGs gs xs σ'
    | none => none
  | _, _, _ => none
end
def wipeE (σ : Env) : List Nat → Env
  | [] => σ
  | v :: vs => (wipeE σ vs).set v none

/-! ### loops -/
def forK (ok : Sto → Prop) (step : D → Env → Sto → (Env → Sto → Prop) → Prop) (nx : Env → Sto → Prop) : List D → Env → Sto → Prop
  | [], σ, st => ok st ∧ nx σ st
  | x :: xs, σ, st => ok st ∧ step x σ st fun σ' st' => ∃ st1, Sub st1 st' ∧ forK ok step nx xs σ' st1
def whlK (c : Env → Sto → (Bool → Sto → Prop) → Prop) (body : Env → Sto → (Env → Sto → Prop) → Prop) (nx : Env → Sto → Prop) : Nat → Env → Sto → Prop
  | 0, _, _ => False
  | n + 1, σ, st => c σ st fun b st1 => if b = true then body σ st1 fun σ' st' => ∃ st2, Sub st2 st' ∧ whlK c body nx n σ' st2 else nx σ st1
def lcK (ok : Sto → Prop) (step : D → Sto → (Option D → Sto → Prop) → Prop) (K : List D → Sto → Prop) : List D → List D → Sto → Prop
  | [], acc, st => ok st ∧ K acc st
  | x :: xs, acc, st => ok st ∧ step x st fun o st' => ∃ st1, Sub st1 st' ∧ match o with
    | some y => acc.length < sizeLine ∧ lcK ok step K xs (acc ++ [y]) st1
    | none => lcK ok step K xs acc st1

/-- the turns of a dict's comprehension -/
def dcK {κ : Type} [DecidableEq κ] (kf : D → Option κ) (ok : Sto → Prop) (step : D → Sto → (Option (D × D) → Sto → Prop) → Prop) (K : List (κ × D) → Sto → Prop) : List D → List (κ × D) → Sto → Prop
  | [], acc, st => ok st ∧ K acc st
  | x :: xs, acc, st => ok st ∧ step x st fun o st' => ∃ st1, Sub st1 st' ∧ match o with
    | some (y, z) => acc.length < sizeLine ∧ (match kf y with
      | some k => dcK kf ok step K xs (putD acc k z) st1
      | none => False)
    | none => dcK kf ok step K xs acc st1

/-! ### the meaning -/
def andB : BoolOp → Bool
  | .And => true
  | .Or => false
/-- a call with this in the keywords' place only asks whether there is such a def -/
def askK : List Str := ["?"]
abbrev Fs := Str → List D → List Str → List D → Sto → (D → Sto → Prop) → Prop
section
variable (F : Fs) (C : Kst)
mutual
def evE : E → Env → Sto → (D → Sto → Prop) → Prop
  | .var i, σ, st, K => (match σ[i]? with
    | some (some d) => K d st
    | _ => False)
  | .non, _, st, K => K .non st
  | .bl b, _, st, K => K (.bl b) st
  | .int n, _, st, K => K (.int n) st
  | .str s, _, st, K => K (.str s) st
  | .bin op a b, σ, st, K => evE a σ st fun x st1 => evE b σ st1 fun y st2 => binK op x y st2 K
  | .neg a, σ, st, K => evE a σ st fun x st1 => match x with
    | .int i => K (.int (-i)) st1
    | _ => False
  | .not a, σ, st, K => evE a σ st fun x st1 => match truD C st1 x with
    | some b => K (.bl !b) st1
    | none => False
  | .cmp op a b, σ, st, K => evE a σ st fun x st1 => evE b σ st1 fun y st2 => cmpK C op x y st2 K
  | .cmp2 op op' a b c, σ, st, K => evE a σ st fun x st1 => evE b σ st1 fun y st2 => cmpK C op x y st2 fun r st3 => match r with
    | .bl true => evE c σ st3 fun z st4 => cmpK C op' y z st4 K
    | .bl false => K (.bl false) st3
    | _ => False
  | .bop op es, σ, st, K => evB op es σ st K
  | .ite c a b, σ, st, K => evT c σ st fun t st1 => if t = true then evE a σ st1 K else evE b σ st1 K
  | .tup es, σ, st, K => evEs es σ st fun vs st1 => K (.tup vs) st1
  | .lst es, σ, st, K => evEs es σ st fun vs st1 => newL vs st1 K
  | .ix a i, σ, st, K => evE a σ st fun x st1 => evE i σ st1 fun y st2 => ixK C x y st2 K
  | .slc a hl lo hh hi, σ, st, K => evE a σ st fun x st1 => evE lo σ st1 fun l st2 => match part hl l with
    | some l' => evE hi σ st2 fun h st3 => match part hh h with
      | some h' => slcK C x l' h' st3 K
      | none => False
    | none => False
  | .call f as ks kes, σ, st, K => evEs as σ st fun vs st1 => evEs kes σ st1 fun ws st2 => F f vs ks ws st2 K
  | .blt f as, σ, st, K => evEs as σ st fun vs st1 => bltK C f vs st1 K
  | .isi e T, σ, st, K => evE e σ st fun x st1 => match isiD T x with
    | some b => K (.bl b) st1
    | none => False
  | .mth T m o as, σ, st, K => evE o σ st fun x st1 => tyK T x st1 ∧ evEs as σ st1 fun vs st2 => mthK T m x vs st2 K
  | .fld o f, σ, st, K => evE o σ st fun x st1 => match insOf st1 x with
    | some (_, fs) => (match fs.lookup f with
      | some v => K v st1
      | none => False)
    | none => False
  | .lc elt g k as ifs own, σ, st, K => evEs as σ st fun vs st1 => itK C k vs st1 fun xs ok =>
      lcK ok (fun x st2 R => match bindG g x (wipeE σ own) with
        | some σ2 => evTs ifs σ2 st2 fun b st3 => if b = true then evE elt σ2 st3 fun y st4 => R (some y) st4 else R none st3
        | none => False) (fun acc st' => newL acc st' K) xs [] st1
  | .dnew, _, st, K => ∀ p, st p = none → K (.ref p) (put st p (.dct []))
  | .dc kx vx g k as ifs own, σ, st, K => evEs as σ st fun vs st1 => itK C k vs st1 fun xs ok =>
      dcK keyOf ok (fun x st2 R => match bindG g x (wipeE σ own) with
        | some σ2 => evTs ifs σ2 st2 fun b st3 => if b = true then evE kx σ2 st3 fun y st4 => evE vx σ2 st4 fun z st5 => R (some (y, z)) st5 else R none st3
        | none => False) (fun kvs st' => ∀ p, st' p = none → K (.ref p) (put st' p (.dct kvs))) xs [] st1
  | .dcT kx vx g k as ifs own, σ, st, K => evEs as σ st fun vs st1 => itK C k vs st1 fun xs ok =>
      dcK keyT ok (fun x st2 R => match bindG g x (wipeE σ own) with
        | some σ2 => evTs ifs σ2 st2 fun b st3 => if b = true then evE kx σ2 st3 fun y st4 => evE vx σ2 st4 fun z st5 => R (some (y, z)) st5 else R none st3
        | none => False) (fun kvs st' => ∀ p, st' p = none → K (.ref p) (put st' p (.dcT kvs))) xs [] st1
  | .um o m as, σ, st, K => evE o σ st fun x st1 => match insOf st1 x with
    | some (c, fs) => fs.lookup m = none ∧ F (mname c m) [] askK [] st1 (fun _ _ => False) ∧ evEs as σ st1 fun vs st2 => F (mname c m) (x :: vs) [] [] st2 K
    | none => False
def evEs : List E → Env → Sto → (List D → Sto → Prop) → Prop
  | [], _, st, K => K [] st
  | e :: es, σ, st, K => evE e σ st fun x st1 => evEs es σ st1 fun xs st2 => K (x :: xs) st2
/-- and, or: the value -/
def evB : BoolOp → List E → Env → Sto → (D → Sto → Prop) → Prop
  | _, [], _, _, _ => False
  | _, [e], σ, st, K => evE e σ st K
  | op, e :: es, σ, st, K => evE e σ st fun x st1 => match truD C st1 x with
    | some b => if b = andB op then evB op es σ st1 K else K x st1
    | none => False
/-- a test -/
def evT : E → Env → Sto → (Bool → Sto → Prop) → Prop
  | .not a, σ, st, K => evT a σ st fun b st1 => K (!b) st1
  | .bop op es, σ, st, K => evBT op es σ st K
  | .ite c a b, σ, st, K => evT c σ st fun t st1 => if t = true then evT a σ st1 K else evT b σ st1 K
  | e, σ, st, K => evE e σ st fun x st1 => match truD C st1 x with
    | some b => K b st1
    | none => False
def evBT : BoolOp → List E → Env → Sto → (Bool → Sto → Prop) → Prop
  | op, [], _, st, K => K (andB op) st
  | op, e :: es, σ, st, K => evT e σ st fun b st1 => if b = andB op then evBT op es σ st1 K else K b st1
/-- the tests of a comprehension -/
def evTs : List E → Env → Sto → (Bool → Sto → Prop) → Prop
  | [], _, st, K => K true st
  | [e], σ, st, K => evT e σ st K
  | _, _, _, _ => False
end
/-- what is wanted behind a statement -/
structure Kt where
  nx : Env → Sto → Prop
  rt : D → Sto → Prop
  bk : Env → Sto → Prop
  ct : Env → Sto → Prop
/-- o[i] = v -/
def setK : D → D → D → Sto → (Sto → Prop) → Prop
  | .ref a, .int k, v, st, K => match st a with
    | some (.lst xs) => (match L2.ixN xs.length k with
      | some j => K (put st a (.lst (xs.set j v)))
      | none => False)
    | _ => dputK (.ref a) (.int k) v st K
  | x, y, v, st, K => dputK x y v st K
mutual
def evS : S → Env → Sto → Kt → Prop
  | .asg g e, σ, st, K => evE F C e σ st fun x st1 => match bindG g x σ with
    | some σ' => K.nx σ' st1
    | none => False
  | .sub o i e, σ, st, K => evE F C e σ st fun v st1 => evE F C o σ st1 fun x st2 => evE F C i σ st2 fun y st3 => setK x y v st3 fun st4 => K.nx σ st4
  | .sfl o f e, σ, st, K => evE F C e σ st fun v st1 => evE F C o σ st1 fun x st2 => (match x with
    | .ref a => (match st2 a with
      | some (.ins c fs) => fs.length < 1000 ∧ K.nx σ (put st2 a (.ins c (putFD f v fs)))
      | _ => False)
    | _ => False)
  | .new c, σ, st, K => ∀ p, st p = none → F (mname c "__init__") (.ref p :: σ.filterMap id) [] [] (put st p (.ins c [])) fun d st1 => d = .non ∧ K.rt (.ref p) st1
  | .aug i op e, σ, st, K => (match σ[i]? with
    | some (some (.int n)) => evE F C e σ st fun y st1 => match op, y with
      | .Add, .int m => K.nx (σ.set i (some (.int (n + m)))) st1
      | .Sub, .int m => K.nx (σ.set i (some (.int (n - m)))) st1
      | _, _ => False
    | _ => False)
  | .ex e, σ, st, K => evE F C e σ st fun _ st1 => K.nx σ st1
  | .ret e, σ, st, K => evE F C e σ st fun x st1 => K.rt x st1
  | .retN, _, st, K => K.rt .non st
  | .iff c a b, σ, st, K => evT F C c σ st fun t st1 => if t = true then evSs a σ st1 K else evSs b σ st1 K
  | .for g k as body, σ, st, K => evEs F C as σ st fun vs st1 => itK C k vs st1 fun xs ok =>
      forK ok (fun x σ1 st2 R => match bindG g x σ1 with
        | some σ2 => evSs body σ2 st2 { nx := R, rt := K.rt, bk := K.nx, ct := R }
        | none => False) K.nx xs σ st1
  | .ford g i body, σ, st, K => (match σ[i]? with
    | some (some (.ref a)) => (match st a with
      | some (.dct kvs) => ∀ u : L2.HO, forK (fun st' => st' a = some (.lck u kvs)) (fun x σ1 st2 R => match bindG g x σ1 with
          | some σ2 => evSs body σ2 st2 { nx := R, rt := fun d st' => st' a = some (.lck u kvs) ∧ K.rt d (put st' a (.dct kvs)), bk := fun σ' st' => st' a = some (.lck u kvs) ∧ K.nx σ' (put st' a (.dct kvs)), ct := R }
          | none => False) (fun σ' st' => K.nx σ' (put st' a (.dct kvs))) (kvs.map fun kv => keyD kv.1) σ (put st a (.lck u kvs))
      | _ => False)
    | _ => False)
  | .whl c body, σ, st, K => ∃ n, whlK (fun σ1 st1 R => evT F C c σ1 st1 R) (fun σ1 st1 R => evSs body σ1 st1 { nx := R, rt := K.rt, bk := K.nx, ct := R }) K.nx n σ st
  | .pass, σ, st, K => K.nx σ st
  | .brk, σ, st, K => K.bk σ st
  | .cont, σ, st, K => K.ct σ st
def evSs : List S → Env → Sto → Kt → Prop
  | [], σ, st, K => K.nx σ st
  | s :: ss, σ, st, K => evS s σ st { K with nx := fun σ' st' => evSs ss σ' st' K }
end
end
/-- a def: its parameters, the number of its names, its body, how it is called (positional arguments, keywords) -/
structure Fn where
  ps : List Str
  nv : Nat
  pat : List (Nat × List Str)
  body : List S
  /-- 0: a def; 1: a class; 2: a method -/
  kd : Nat := 0
/-- the arguments in the parameters' order -/
def kwAll {α : Type} (ks : List Str) (ws : List α) : List Str → Option (List α)
  | [] => some []
  | p :: ps => match (ks.zip ws).lookup p, kwAll ks ws ps with
    | some d, some ds => some (d :: ds)
    | _, _ => none
def bindA {α : Type} (ps : List Str) (vs : List α) (ks : List Str) (ws : List α) : Option (List α) :=
  match kwAll ks ws (ps.drop vs.length) with
  | some ds => some (vs ++ ds)
  | none => none
def startE (nv : Nat) (vs : List D) : Env := vs.map some ++ List.replicate (nv - vs.length) none
def bodyK (F : Fs) (C : Kst) (fn : Fn) (vs : List D) (st : Sto) (K : D → Sto → Prop) : Prop :=
  evSs F C fn.body (startE fn.nv vs) st
    { nx := fun _ st' => ∃ st1, Sub st1 st' ∧ K .non st1, rt := fun d st' => ∃ st1, Sub st1 st' ∧ K d st1, bk := fun _ _ => False, ct := fun _ _ => False }
abbrev Bs := Str → List D → Sto → (D → Sto → Prop) → Prop
def callOf (P : Str → Option Fn) (B : Bs) : Fs := fun f vs ks ws st K => match P f with
  | some fn => if ks = askK then True else (vs.length, ks) ∈ fn.pat ∧ ws.length = ks.length ∧ (match bindA fn.ps vs ks ws with
    | some us => B f us st K
    | none => False)
  | none => False
def bodyF (P : Str → Option Fn) (C : Kst) : Nat → Bs
  | 0 => fun _ _ _ _ => False
  | n + 1 => fun f us st K => match P f with
    | some fn => us.length = fn.ps.length ∧ bodyK (callOf P (bodyF P C n)) C fn us st K
    | none => False
def callF (P : Str → Option Fn) (C : Kst) (n : Nat) : Fs := callOf P (bodyF P C n)
end MP

set_option Elab.async false
set_option linter.all false
set_option maxRecDepth 100000
set_option maxHeartbeats 4000000
/-! MpB: what is wanted behind may be weakened: every meaning is monotone. -/
namespace MP
open PySem

section
variable {C : Kst} {K K' : D → Sto → Prop}
theorem newL_mono (hk : ∀ d s, K d s → K' d s) {xs : List D} {st : Sto} (h : newL xs st K) : newL xs st K' := fun p hp => hk _ _ (h p hp)
theorem eqK_mono (hk : ∀ d s, K d s → K' d s) {neg : Bool} {x y : D} {st : Sto} : eqK C neg x y st K → eqK C neg x y st K' := by
  unfold eqK
  split
  · split <;> first | exact fun h => h.elim | exact fun h => hk _ _ h
  · rintro ⟨d, e, h1, h2, h3, h4, h5⟩
    exact ⟨d, e, h1, h2, h3, h4, hk _ _ h5⟩
theorem dinK_mono (hk : ∀ d s, K d s → K' d s) {neg : Bool} {x y : D} {st : Sto} : dinK neg x y st K → dinK neg x y st K' := by
  unfold dinK
  split
  · exact hk _ _
  · exact fun h => h
theorem dixK_mono (hk : ∀ d s, K d s → K' d s) {x y : D} {st : Sto} : dixK x y st K → dixK x y st K' := by
  unfold dixK
  split
  · split
    · exact hk _ _
    · exact fun h => h
  · exact fun h => h
theorem dputK_mono {K K' : Sto → Prop} (hk : ∀ s, K s → K' s) {x y v : D} {st : Sto} : dputK x y v st K → dputK x y v st K' := by
  unfold dputK
  split
  · split
    · exact fun h => ⟨h.1, hk _ h.2⟩
    · exact fun h => h
  · split
    · exact fun h => ⟨h.1, hk _ h.2⟩
    · exact fun h => h
  · exact fun h => h
theorem dmthK_mono (hk : ∀ d s, K d s → K' d s) {m : Str} {x : D} {vs : List D} {st : Sto} : dmthK m x vs st K → dmthK m x vs st K' := by
  unfold dmthK
  split
  · split
    · split
      · exact hk _ _
      · exact fun h => h
    · exact fun h => h
  split
  · split
    · split
      · exact hk _ _
      · exact fun h => h
    · split
      · exact hk _ _
      · exact fun h => h
    · exact fun h => h
  split
  · split
    · split
      · split
        · rintro ⟨h1, h2⟩
          refine ⟨h1, ?_⟩
          split at h2
          · exact hk _ _ h2
          · exact hk _ _ h2
        · exact fun h => h
      · exact fun h => h
    · exact fun h => h
  · exact fun h => h
theorem cmpK_mono (hk : ∀ d s, K d s → K' d s) {op : CmpOp} {x y : D} {st : Sto} : cmpK C op x y st K → cmpK C op x y st K' := by
  unfold cmpK
  split
  · exact eqK_mono hk
  · exact eqK_mono hk
  · exact hk _ _
  · exact hk _ _
  · exact hk _ _
  · exact hk _ _
  · rintro ⟨ns, ms, h1, h2, h3⟩
    exact ⟨ns, ms, h1, h2, hk _ _ h3⟩
  · exact hk _ _
  · exact hk _ _
  · split
    · rintro ⟨h1, h2, h3⟩
      exact ⟨h1, h2, hk _ _ h3⟩
    · exact dinK_mono hk
  · split
    · rintro ⟨h1, h2, h3⟩
      exact ⟨h1, h2, hk _ _ h3⟩
    · exact dinK_mono hk
  · exact fun h => h
theorem binK_mono (hk : ∀ d s, K d s → K' d s) {op : Operator} {x y : D} {st : Sto} : binK op x y st K → binK op x y st K' := by
  unfold binK
  split <;> first
    | exact hk _ _
    | exact fun h => h.elim
    | exact fun h => ⟨h.1, hk _ _ h.2⟩
    | (split <;> first | exact fun h => h.elim | exact fun h => ⟨h.1, newL_mono hk h.2⟩)
theorem ixK_mono (hk : ∀ d s, K d s → K' d s) {x y : D} {st : Sto} : ixK C x y st K → ixK C x y st K' := by
  unfold ixK
  split
  · split
    · exact hk _ _
    · exact fun h => h
  · split
    · split
      · exact hk _ _
      · exact fun h => h
    · exact dixK_mono hk
  · exact dixK_mono hk
theorem slcK_mono (hk : ∀ d s, K d s → K' d s) {x : D} {lo hi : Option Int} {st : Sto} : slcK C x lo hi st K → slcK C x lo hi st K' := by
  unfold slcK
  split
  · exact hk _ _
  · split
    · exact newL_mono hk
    · exact fun h => h
  · exact fun h => h
theorem bltK2_mono (hk : ∀ d s, K d s → K' d s) {f : Str} {vs : List D} {st : Sto} : bltK2 C f vs st K → bltK2 C f vs st K' := by
  unfold bltK2
  split
  · split
    · split
      · split
        · exact hk _ _
        · exact fun h => h
      · exact fun h => h
    · exact fun h => h
  split
  · split
    · split
      · rintro ⟨h1, h2, h3⟩
        exact ⟨h1, h2, fun ys hp => newL_mono hk (h3 ys hp)⟩
      · exact fun h => h
    · exact fun h => h
  split
  · split
    · split
      · rintro ⟨ns, h1, h2⟩
        exact ⟨ns, h1, fun ms a b => newL_mono hk (h2 ms a b)⟩
      · exact fun h => h
    · exact fun h => h
  split
  · split
    · exact hk _ _
    · exact fun h => h
  split
  · split
    · exact fun h p hp => hk _ _ (h p hp)
    · exact fun h => h
  split
  · split
    · rintro ⟨h1, h2, h3, h4⟩
      exact ⟨h1, h2, h3, newL_mono hk h4⟩
    · exact fun h => h
  split
  · split
    · exact fun h p hp => hk _ _ (h p hp)
    · exact fun h => h
  · exact fun h => h
theorem bltK_mono (hk : ∀ d s, K d s → K' d s) {f : Str} {vs : List D} {st : Sto} : bltK C f vs st K → bltK C f vs st K' := by
  unfold bltK
  split
  · split
    · split
      · exact hk _ _
      · exact fun h => h
    · exact fun h => h
  split
  · split <;> first | exact hk _ _ | exact fun h => h
  split
  · split <;> first | exact hk _ _ | exact fun h => h
  split
  · split
    · exact hk _ _
    · exact hk _ _
    · split
      · rintro ⟨ns, h1, h2, h3⟩
        exact ⟨ns, h1, h2, fun m a b => hk _ _ (h3 m a b)⟩
      · exact fun h => h
    · exact fun h => h
  split
  · split
    · exact hk _ _
    · split
      · rintro ⟨ns, h1, h2, h3⟩
        exact ⟨ns, h1, h2, fun m a b => hk _ _ (h3 m a b)⟩
      · exact fun h => h
    · exact fun h => h
  split
  · split
    · split
      · rintro ⟨ns, h1, h2⟩
        exact ⟨ns, h1, hk _ _ h2⟩
      · exact fun h => h
    · exact fun h => h
  split
  · split
    · split
      · exact hk _ _
      · exact fun h => h
    · exact fun h => h
  split
  · split
    · split
      · exact newL_mono hk
      · exact fun h => h
    · exact fun h => h
  exact bltK2_mono hk
theorem popK_mono (hk : ∀ d s, K d s → K' d s) {a : Addr} {vs : List D} {st : Sto} : popK a vs st K → popK a vs st K' := by
  unfold popK
  split
  · split
    · exact hk _ _
    · exact fun h => h
  · split
    · exact fun h => ⟨h.1, hk _ _ h.2⟩
    · exact fun h => h
  · exact fun h => h
theorem mthK_mono (hk : ∀ d s, K d s → K' d s) {T : MT} {m : Str} {x : D} {vs : List D} {st : Sto} : mthK T m x vs st K → mthK T m x vs st K' := by
  unfold mthK
  split
  · split
    · split
      · exact fun h => ⟨h.1, hk _ _ h.2⟩
      · exact fun h => h
    split
    · split
      · split
        · exact fun h => ⟨h.1, hk _ _ h.2⟩
        · exact fun h => h
      · exact fun h => h
    split
    · exact popK_mono hk
    split
    · split
      · exact hk _ _
      · exact fun h => h
    · exact fun h => h
  · exact dmthK_mono hk
  · exact fun h => h
theorem itK_mono {R R' : List D → (Sto → Prop) → Prop} (hr : ∀ xs ok, R xs ok → R' xs ok) {k : IK} {vs : List D} {st : Sto} : itK C k vs st R → itK C k vs st R' := by
  unfold itK
  split
  · unfold itSeq
    split
    · exact hr _ _
    · split
      · exact hr _ _
      · exact fun h => h
    · exact fun h => h
  · unfold itRange
    split
    · exact fun h => ⟨h.1, h.2.1, hr _ _ h.2.2⟩
    · exact fun h => ⟨h.1, hr _ _ h.2⟩
    · exact fun ⟨n, h, q⟩ => ⟨n, h, hr _ _ q⟩
    · exact fun h => h
  · unfold itEnum
    split
    · exact hr _ _
    · split
      · exact hr _ _
      · exact fun h => h
    · exact fun h => h
  · exact fun h => h
  · exact fun h => h
theorem setK_mono {K K' : Sto → Prop} (hk : ∀ s, K s → K' s) {o i v : D} {st : Sto} : setK o i v st K → setK o i v st K' := by
  unfold setK
  split
  · split
    · split
      · exact hk _
      · exact fun h => h
    · exact dputK_mono hk
  · exact dputK_mono hk
end
theorem dcK_mono {κ : Type} [DecidableEq κ] {kf : D → Option κ} {ok : Sto → Prop} {step step' : D → Sto → (Option (D × D) → Sto → Prop) → Prop} {K K' : List (κ × D) → Sto → Prop}
    (hs : ∀ x st R R', (∀ o st', R o st' → R' o st') → step x st R → step' x st R') (hk : ∀ acc st, K acc st → K' acc st) :
    ∀ (xs : List D) (acc : List (κ × D)) (st : Sto), dcK kf ok step K xs acc st → dcK kf ok step' K' xs acc st
  | [], acc, st, h => ⟨h.1, hk _ _ h.2⟩
  | x :: xs, acc, st, h => ⟨h.1, hs _ _ _ _ (fun o st' ⟨st1, h1, h2⟩ => ⟨st1, h1, by
      cases o with
      | some p =>
        obtain ⟨y, z⟩ := p
        obtain ⟨h2, h3⟩ := h2
        refine ⟨h2, ?_⟩
        show match kf y with
          | some k => dcK kf ok step' K' xs (putD acc k z) st1
          | none => False
        have h3' : match kf y with
          | some k => dcK kf ok step K xs (putD acc k z) st1
          | none => False := h3
        cases e : kf y with
        | some k => rw [e] at h3'; exact dcK_mono hs hk xs _ _ h3'
        | none => rw [e] at h3'; exact h3'.elim
      | none => exact dcK_mono hs hk xs _ _ h2⟩) h.2⟩
theorem forK_mono {ok : Sto → Prop} {step step' : D → Env → Sto → (Env → Sto → Prop) → Prop} {nx nx' : Env → Sto → Prop}
    (hs : ∀ x σ st R R', (∀ σ' st', R σ' st' → R' σ' st') → step x σ st R → step' x σ st R') (hn : ∀ σ st, nx σ st → nx' σ st) :
    ∀ (xs : List D) (σ : Env) (st : Sto), forK ok step nx xs σ st → forK ok step' nx' xs σ st
  | [], σ, st, h => ⟨h.1, hn _ _ h.2⟩
  | x :: xs, σ, st, h => ⟨h.1, hs _ _ _ _ _ (fun σ' st' ⟨st1, h1, h2⟩ => ⟨st1, h1, forK_mono hs hn xs σ' st1 h2⟩) h.2⟩
theorem whlK_mono {c c' : Env → Sto → (Bool → Sto → Prop) → Prop} {body body' : Env → Sto → (Env → Sto → Prop) → Prop} {nx nx' : Env → Sto → Prop}
    (hc : ∀ σ st R R', (∀ b st', R b st' → R' b st') → c σ st R → c' σ st R')
    (hs : ∀ σ st R R', (∀ σ' st', R σ' st' → R' σ' st') → body σ st R → body' σ st R') (hn : ∀ σ st, nx σ st → nx' σ st) :
    ∀ (n : Nat) (σ : Env) (st : Sto), whlK c body nx n σ st → whlK c' body' nx' n σ st
  | 0, _, _, h => h
  | n + 1, σ, st, h => hc _ _ _ _ (fun b st1 q => by
      cases b with
      | true =>
        rw [if_pos rfl] at q ⊢
        exact hs _ _ _ _ (fun σ' st' ⟨st2, h1, h2⟩ => ⟨st2, h1, whlK_mono hc hs hn n σ' st2 h2⟩) q
      | false =>
        rw [if_neg Bool.false_ne_true] at q ⊢
        exact hn _ _ q) h
theorem lcK_mono {ok : Sto → Prop} {step step' : D → Sto → (Option D → Sto → Prop) → Prop} {K K' : List D → Sto → Prop}
    (hs : ∀ x st R R', (∀ o st', R o st' → R' o st') → step x st R → step' x st R') (hk : ∀ acc st, K acc st → K' acc st) :
    ∀ (xs acc : List D) (st : Sto), lcK ok step K xs acc st → lcK ok step' K' xs acc st
  | [], acc, st, h => ⟨h.1, hk _ _ h.2⟩
  | x :: xs, acc, st, h => ⟨h.1, hs _ _ _ _ (fun o st' ⟨st1, h1, h2⟩ => ⟨st1, h1, by
      cases o with
      | some y => exact ⟨h2.1, lcK_mono hs hk xs _ _ h2.2⟩
      | none => exact lcK_mono hs hk xs _ _ h2⟩) h.2⟩

/-- a meaning of the defs that is monotone -/
def MonoF (F : Fs) : Prop := ∀ f vs ks ws st (K K' : D → Sto → Prop), (∀ d s, K d s → K' d s) → F f vs ks ws st K → F f vs ks ws st K'
section
variable {F : Fs} {C : Kst} (hF : MonoF F)
include hF
mutual
theorem evE_mono : ∀ (e : E) (σ : Env) (st : Sto) (K K' : D → Sto → Prop), (∀ d s, K d s → K' d s) → evE F C e σ st K → evE F C e σ st K'
  | .var i, σ, st, K, K', hk, h => by
    unfold evE at h ⊢
    split at h
    · exact hk _ _ h
    · exact h
  | .non, σ, st, K, K', hk, h => by unfold evE at h ⊢; exact hk _ _ h
  | .bl b, σ, st, K, K', hk, h => by unfold evE at h ⊢; exact hk _ _ h
  | .int n, σ, st, K, K', hk, h => by unfold evE at h ⊢; exact hk _ _ h
  | .str s, σ, st, K, K', hk, h => by unfold evE at h ⊢; exact hk _ _ h
  | .bin op a b, σ, st, K, K', hk, h => by
    unfold evE at h ⊢
    exact evE_mono a _ _ _ _ (fun x st1 q => evE_mono b _ _ _ _ (fun y st2 q => binK_mono hk q) q) h
  | .neg a, σ, st, K, K', hk, h => by
    unfold evE at h ⊢
    refine evE_mono a _ _ _ _ (fun x st1 q => ?_) h
    cases x <;> first | exact q.elim | exact hk _ _ q
  | .not a, σ, st, K, K', hk, h => by
    unfold evE at h ⊢
    refine evE_mono a _ _ _ _ (fun x st1 q => ?_) h
    split at q
    · exact hk _ _ q
    · exact q.elim
  | .cmp op a b, σ, st, K, K', hk, h => by
    unfold evE at h ⊢
    exact evE_mono a _ _ _ _ (fun x st1 q => evE_mono b _ _ _ _ (fun y st2 q => cmpK_mono hk q) q) h
  | .cmp2 op op' a b c, σ, st, K, K', hk, h => by
    unfold evE at h ⊢
    refine evE_mono a _ _ _ _ (fun x st1 q => evE_mono b _ _ _ _ (fun y st2 q => cmpK_mono (fun r st3 q => ?_) q) q) h
    split at q
    · exact evE_mono c _ _ _ _ (fun z st4 q => cmpK_mono hk q) q
    · exact hk _ _ q
    · exact q.elim
  | .bop op es, σ, st, K, K', hk, h => by
    unfold evE at h ⊢
    exact evB_mono op es _ _ _ _ hk h
  | .ite c a b, σ, st, K, K', hk, h => by
    unfold evE at h ⊢
    refine evT_mono c _ _ _ _ (fun t st1 q => ?_) h
    split at q
    · rename_i e; rw [if_pos e]; exact evE_mono a _ _ _ _ hk q
    · rename_i e; rw [if_neg e]; exact evE_mono b _ _ _ _ hk q
  | .tup es, σ, st, K, K', hk, h => by
    unfold evE at h ⊢
    exact evEs_mono es _ _ _ _ (fun vs st1 q => hk _ _ q) h
  | .lst es, σ, st, K, K', hk, h => by
    unfold evE at h ⊢
    exact evEs_mono es _ _ _ _ (fun vs st1 q => newL_mono hk q) h
  | .ix a i, σ, st, K, K', hk, h => by
    unfold evE at h ⊢
    exact evE_mono a _ _ _ _ (fun x st1 q => evE_mono i _ _ _ _ (fun y st2 q => ixK_mono hk q) q) h
  | .slc a hl lo hh hi, σ, st, K, K', hk, h => by
    unfold evE at h ⊢
    refine evE_mono a _ _ _ _ (fun x st1 q => evE_mono lo _ _ _ _ (fun y st2 q => ?_) q) h
    cases e : part hl y with
    | none => rw [e] at q; exact q.elim
    | some l' =>
      rw [e] at q
      refine evE_mono hi _ _ _ _ (fun z st3 q => ?_) q
      split at q
      · exact slcK_mono hk q
      · exact q.elim
  | .call f as ks kes, σ, st, K, K', hk, h => by
    unfold evE at h ⊢
    exact evEs_mono as _ _ _ _ (fun vs st1 q => evEs_mono kes _ _ _ _ (fun ws st2 q => hF _ _ _ _ _ _ _ hk q) q) h
  | .blt f as, σ, st, K, K', hk, h => by
    unfold evE at h ⊢
    exact evEs_mono as _ _ _ _ (fun vs st1 q => bltK_mono hk q) h
  | .isi e T, σ, st, K, K', hk, h => by
    unfold evE at h ⊢
    refine evE_mono e _ _ _ _ (fun x st1 q => ?_) h
    split at q
    · exact hk _ _ q
    · exact q.elim
  | .mth T m o as, σ, st, K, K', hk, h => by
    unfold evE at h ⊢
    exact evE_mono o _ _ _ _ (fun x st1 q => ⟨q.1, evEs_mono as _ _ _ _ (fun vs st2 q => mthK_mono hk q) q.2⟩) h
  | .fld o f, σ, st, K, K', hk, h => by
    unfold evE at h ⊢
    refine evE_mono o _ _ _ _ (fun x st1 q => ?_) h
    split at q
    · split at q
      · exact hk _ _ q
      · exact q.elim
    · exact q.elim
  | .um o m as, σ, st, K, K', hk, h => by
    unfold evE at h ⊢
    refine evE_mono o _ _ _ _ (fun x st1 q => ?_) h
    split at q
    · exact ⟨q.1, q.2.1, evEs_mono as _ _ _ _ (fun vs st2 q => hF _ _ _ _ _ _ _ hk q) q.2.2⟩
    · exact q.elim
  | .lc elt g k as ifs own, σ, st, K, K', hk, h => by
    unfold evE at h ⊢
    refine evEs_mono as _ _ _ _ (fun vs st1 q => itK_mono (fun xs ok q => lcK_mono (fun x st2 R R' hr q => ?_) (fun acc st' q => newL_mono hk q) _ _ _ q) q) h
    cases eg : bindG g x (wipeE σ own) with
    | none => rw [eg] at q; exact q.elim
    | some σ2 =>
      rw [eg] at q
      refine evTs_mono ifs _ _ _ _ (fun b st3 q => ?_) q
      split at q
      · rename_i e; rw [if_pos e]; exact evE_mono elt _ _ _ _ (fun y st4 q => hr _ _ q) q
      · rename_i e; rw [if_neg e]; exact hr _ _ q
  | .dnew, σ, st, K, K', hk, h => by
    unfold evE at h ⊢
    exact fun p hp => hk _ _ (h p hp)
  | .dc kx vx g k as ifs own, σ, st, K, K', hk, h => by
    unfold evE at h ⊢
    refine evEs_mono as _ _ _ _ (fun vs st1 q => itK_mono (fun xs ok q => dcK_mono (fun x st2 R R' hr q => ?_) (fun acc st' q p hp => hk _ _ (q p hp)) _ _ _ q) q) h
    cases eg : bindG g x (wipeE σ own) with
    | none => rw [eg] at q; exact q.elim
    | some σ2 =>
      rw [eg] at q
      refine evTs_mono ifs _ _ _ _ (fun b st3 q => ?_) q
      split at q
      · rename_i e; rw [if_pos e]; exact evE_mono kx _ _ _ _ (fun y st4 q => evE_mono vx _ _ _ _ (fun z st5 q => hr _ _ q) q) q
      · rename_i e; rw [if_neg e]; exact hr _ _ q
  | .dcT kx vx g k as ifs own, σ, st, K, K', hk, h => by
    unfold evE at h ⊢
    refine evEs_mono as _ _ _ _ (fun vs st1 q => itK_mono (fun xs ok q => dcK_mono (fun x st2 R R' hr q => ?_) (fun acc st' q p hp => hk _ _ (q p hp)) _ _ _ q) q) h
    cases eg : bindG g x (wipeE σ own) with
    | none => rw [eg] at q; exact q.elim
    | some σ2 =>
      rw [eg] at q
      refine evTs_mono ifs _ _ _ _ (fun b st3 q => ?_) q
      split at q
      · rename_i e; rw [if_pos e]; exact evE_mono kx _ _ _ _ (fun y st4 q => evE_mono vx _ _ _ _ (fun z st5 q => hr _ _ q) q) q
      · rename_i e; rw [if_neg e]; exact hr _ _ q
theorem evEs_mono : ∀ (es : List E) (σ : Env) (st : Sto) (K K' : List D → Sto → Prop), (∀ d s, K d s → K' d s) → evEs F C es σ st K → evEs F C es σ st K'
  | [], σ, st, K, K', hk, h => by unfold evEs at h ⊢; exact hk _ _ h
  | e :: es, σ, st, K, K', hk, h => by
    unfold evEs at h ⊢
    exact evE_mono e _ _ _ _ (fun x st1 q => evEs_mono es _ _ _ _ (fun xs st2 q => hk _ _ q) q) h
theorem evB_mono : ∀ (op : BoolOp) (es : List E) (σ : Env) (st : Sto) (K K' : D → Sto → Prop), (∀ d s, K d s → K' d s) → evB F C op es σ st K → evB F C op es σ st K'
  | op, [], σ, st, K, K', hk, h => by unfold evB at h ⊢; exact h
  | op, [e], σ, st, K, K', hk, h => by unfold evB at h ⊢; exact evE_mono e _ _ _ _ hk h
  | op, e :: e2 :: es, σ, st, K, K', hk, h => by
    unfold evB at h ⊢
    refine evE_mono e _ _ _ _ (fun x st1 q => ?_) h
    split at q
    · split at q
      · rename_i e; rw [if_pos e]; exact evB_mono op (e2 :: es) _ _ _ _ hk q
      · rename_i e; rw [if_neg e]; exact hk _ _ q
    · exact q.elim
theorem evT_mono : ∀ (e : E) (σ : Env) (st : Sto) (K K' : Bool → Sto → Prop), (∀ d s, K d s → K' d s) → evT F C e σ st K → evT F C e σ st K'
  | .not a, σ, st, K, K', hk, h => by
    unfold evT at h ⊢
    exact evT_mono a _ _ _ _ (fun b st1 q => hk _ _ q) h
  | .bop op es, σ, st, K, K', hk, h => by
    unfold evT at h ⊢
    exact evBT_mono op es _ _ _ _ hk h
  | .var i, σ, st, K, K', hk, h => by
    unfold evT at h ⊢
    refine evE_mono _ _ _ _ _ (fun x st1 q => ?_) h
    split at q
    · exact hk _ _ q
    · exact q.elim
  | .non, σ, st, K, K', hk, h => by
    unfold evT at h ⊢
    refine evE_mono _ _ _ _ _ (fun x st1 q => ?_) h
    split at q
    · exact hk _ _ q
    · exact q.elim
  | .bl b, σ, st, K, K', hk, h => by
    unfold evT at h ⊢
    refine evE_mono _ _ _ _ _ (fun x st1 q => ?_) h
    split at q
    · exact hk _ _ q
    · exact q.elim
  | .int n, σ, st, K, K', hk, h => by
    unfold evT at h ⊢
    refine evE_mono _ _ _ _ _ (fun x st1 q => ?_) h
    split at q
    · exact hk _ _ q
    · exact q.elim
  | .str n, σ, st, K, K', hk, h => by
    unfold evT at h ⊢
    refine evE_mono _ _ _ _ _ (fun x st1 q => ?_) h
    split at q
    · exact hk _ _ q
    · exact q.elim
  | .bin op a b, σ, st, K, K', hk, h => by
    unfold evT at h ⊢
    refine evE_mono (.bin op a b) _ _ _ _ (fun x st1 q => ?_) h
    split at q
    · exact hk _ _ q
    · exact q.elim
  | .neg a, σ, st, K, K', hk, h => by
    unfold evT at h ⊢
    refine evE_mono (.neg a) _ _ _ _ (fun x st1 q => ?_) h
    split at q
    · exact hk _ _ q
    · exact q.elim
  | .cmp op a b, σ, st, K, K', hk, h => by
    unfold evT at h ⊢
    refine evE_mono (.cmp op a b) _ _ _ _ (fun x st1 q => ?_) h
    split at q
    · exact hk _ _ q
    · exact q.elim
  | .cmp2 op op' a b c, σ, st, K, K', hk, h => by
    unfold evT at h ⊢
    refine evE_mono (.cmp2 op op' a b c) _ _ _ _ (fun x st1 q => ?_) h
    split at q
    · exact hk _ _ q
    · exact q.elim
  | .ite c a b, σ, st, K, K', hk, h => by
    unfold evT at h ⊢
    refine evT_mono c _ _ _ _ (fun t st1 q => ?_) h
    split at q
    · rename_i e; rw [if_pos e]; exact evT_mono a _ _ _ _ hk q
    · rename_i e; rw [if_neg e]; exact evT_mono b _ _ _ _ hk q
  | .tup es, σ, st, K, K', hk, h => by
    unfold evT at h ⊢
    refine evE_mono (.tup es) _ _ _ _ (fun x st1 q => ?_) h
    split at q
    · exact hk _ _ q
    · exact q.elim
  | .lst es, σ, st, K, K', hk, h => by
    unfold evT at h ⊢
    refine evE_mono (.lst es) _ _ _ _ (fun x st1 q => ?_) h
    split at q
    · exact hk _ _ q
    · exact q.elim
  | .ix a i, σ, st, K, K', hk, h => by
    unfold evT at h ⊢
    refine evE_mono (.ix a i) _ _ _ _ (fun x st1 q => ?_) h
    split at q
    · exact hk _ _ q
    · exact q.elim
  | .slc a hl lo hh hi, σ, st, K, K', hk, h => by
    unfold evT at h ⊢
    refine evE_mono (.slc a hl lo hh hi) _ _ _ _ (fun x st1 q => ?_) h
    split at q
    · exact hk _ _ q
    · exact q.elim
  | .call f as ks kes, σ, st, K, K', hk, h => by
    unfold evT at h ⊢
    refine evE_mono (.call f as ks kes) _ _ _ _ (fun x st1 q => ?_) h
    split at q
    · exact hk _ _ q
    · exact q.elim
  | .blt f as, σ, st, K, K', hk, h => by
    unfold evT at h ⊢
    refine evE_mono (.blt f as) _ _ _ _ (fun x st1 q => ?_) h
    split at q
    · exact hk _ _ q
    · exact q.elim
  | .isi e T, σ, st, K, K', hk, h => by
    unfold evT at h ⊢
    refine evE_mono (.isi e T) _ _ _ _ (fun x st1 q => ?_) h
    split at q
    · exact hk _ _ q
    · exact q.elim
  | .mth T m o as, σ, st, K, K', hk, h => by
    unfold evT at h ⊢
    refine evE_mono (.mth T m o as) _ _ _ _ (fun x st1 q => ?_) h
    split at q
    · exact hk _ _ q
    · exact q.elim
  | .fld o f, σ, st, K, K', hk, h => by
    unfold evT at h ⊢
    refine evE_mono (.fld o f) _ _ _ _ (fun x st1 q => ?_) h
    split at q
    · exact hk _ _ q
    · exact q.elim
  | .lc elt g k as ifs own, σ, st, K, K', hk, h => by
    unfold evT at h ⊢
    refine evE_mono (.lc elt g k as ifs own) _ _ _ _ (fun x st1 q => ?_) h
    split at q
    · exact hk _ _ q
    · exact q.elim
  | .dnew, σ, st, K, K', hk, h => by
    unfold evT at h ⊢
    refine evE_mono .dnew _ _ _ _ (fun x st1 q => ?_) h
    split at q
    · exact hk _ _ q
    · exact q.elim
  | .dc kx vx g k as ifs own, σ, st, K, K', hk, h => by
    unfold evT at h ⊢
    refine evE_mono (.dc kx vx g k as ifs own) _ _ _ _ (fun x st1 q => ?_) h
    split at q
    · exact hk _ _ q
    · exact q.elim
  | .dcT kx vx g k as ifs own, σ, st, K, K', hk, h => by
    unfold evT at h ⊢
    refine evE_mono (.dcT kx vx g k as ifs own) _ _ _ _ (fun x st1 q => ?_) h
    split at q
    · exact hk _ _ q
    · exact q.elim
  | .um o m as, σ, st, K, K', hk, h => by
    unfold evT at h ⊢
    refine evE_mono (.um o m as) _ _ _ _ (fun x st1 q => ?_) h
    split at q
    · exact hk _ _ q
    · exact q.elim
theorem evBT_mono : ∀ (op : BoolOp) (es : List E) (σ : Env) (st : Sto) (K K' : Bool → Sto → Prop), (∀ d s, K d s → K' d s) → evBT F C op es σ st K → evBT F C op es σ st K'
  | op, [], σ, st, K, K', hk, h => by unfold evBT at h ⊢; exact hk _ _ h
  | op, e :: es, σ, st, K, K', hk, h => by
    unfold evBT at h ⊢
    refine evT_mono e _ _ _ _ (fun b st1 q => ?_) h
    split at q
    · rename_i e; rw [if_pos e]; exact evBT_mono op es _ _ _ _ hk q
    · rename_i e; rw [if_neg e]; exact hk _ _ q
theorem evTs_mono : ∀ (es : List E) (σ : Env) (st : Sto) (K K' : Bool → Sto → Prop), (∀ d s, K d s → K' d s) → evTs F C es σ st K → evTs F C es σ st K'
  | [], σ, st, K, K', hk, h => by unfold evTs at h ⊢; exact hk _ _ h
  | [e], σ, st, K, K', hk, h => by unfold evTs at h ⊢; exact evT_mono e _ _ _ _ hk h
  | _ :: _ :: _, σ, st, K, K', hk, h => by unfold evTs at h; exact h.elim
end
structure KtLe (K K' : Kt) : Prop where
  nx : ∀ σ st, K.nx σ st → K'.nx σ st
  rt : ∀ d st, K.rt d st → K'.rt d st
  bk : ∀ σ st, K.bk σ st → K'.bk σ st
  ct : ∀ σ st, K.ct σ st → K'.ct σ st
mutual
theorem evS_mono : ∀ (s : S) (σ : Env) (st : Sto) (K K' : Kt), KtLe K K' → evS F C s σ st K → evS F C s σ st K'
  | .asg g e, σ, st, K, K', hk, h => by
    unfold evS at h ⊢
    refine evE_mono hF e _ _ _ _ (fun x st1 q => ?_) h
    split at q
    · exact hk.nx _ _ q
    · exact q.elim
  | .sub o i e, σ, st, K, K', hk, h => by
    unfold evS at h ⊢
    exact evE_mono hF e _ _ _ _ (fun v st1 q => evE_mono hF o _ _ _ _ (fun x st2 q => evE_mono hF i _ _ _ _ (fun y st3 q => setK_mono (fun st4 q => hk.nx _ _ q) q) q) q) h
  | .sfl o f e, σ, st, K, K', hk, h => by
    unfold evS at h ⊢
    refine evE_mono hF e _ _ _ _ (fun v st1 q => evE_mono hF o _ _ _ _ (fun x st2 q => ?_) q) h
    split at q
    · split at q
      · exact ⟨q.1, hk.nx _ _ q.2⟩
      · exact q.elim
    · exact q.elim
  | .new c, σ, st, K, K', hk, h => by
    unfold evS at h ⊢
    exact fun p hp => hF _ _ _ _ _ _ _ (fun d s q => ⟨q.1, hk.rt _ _ q.2⟩) (h p hp)
  | .aug i op e, σ, st, K, K', hk, h => by
    unfold evS at h ⊢
    split at h
    · refine evE_mono hF e _ _ _ _ (fun y st1 q => ?_) h
      split at q
      · exact hk.nx _ _ q
      · exact hk.nx _ _ q
      · exact q.elim
    · exact h.elim
  | .ex e, σ, st, K, K', hk, h => by
    unfold evS at h ⊢
    exact evE_mono hF e _ _ _ _ (fun x st1 q => hk.nx _ _ q) h
  | .ret e, σ, st, K, K', hk, h => by
    unfold evS at h ⊢
    exact evE_mono hF e _ _ _ _ (fun x st1 q => hk.rt _ _ q) h
  | .retN, σ, st, K, K', hk, h => by unfold evS at h ⊢; exact hk.rt _ _ h
  | .iff c a b, σ, st, K, K', hk, h => by
    unfold evS at h ⊢
    refine evT_mono hF c _ _ _ _ (fun t st1 q => ?_) h
    split at q
    · rename_i e; rw [if_pos e]; exact evSs_mono a _ _ _ _ hk q
    · rename_i e; rw [if_neg e]; exact evSs_mono b _ _ _ _ hk q
  | .for g k as body, σ, st, K, K', hk, h => by
    unfold evS at h ⊢
    refine evEs_mono hF as _ _ _ _ (fun vs st1 q => itK_mono (fun xs ok q => forK_mono (fun x σ1 st2 R R' hr q => ?_) hk.nx _ _ _ q) q) h
    cases eg : bindG g x σ1 with
    | none => rw [eg] at q; exact q.elim
    | some σ2 =>
      rw [eg] at q
      refine evSs_mono body _ _ _ _ ?_ q
      exact ⟨hr, hk.rt, hk.nx, hr⟩
  | .ford g i body, σ, st, K, K', hk, h => by
    unfold evS at h ⊢
    split at h
    · split at h
      · refine fun u => forK_mono (fun x σ1 st2 R R' hr q => ?_) (fun σ' st' => hk.nx _ _) _ _ _ (h u)
        cases eg : bindG g x σ1 with
        | none => rw [eg] at q; exact q.elim
        | some σ2 =>
          rw [eg] at q
          refine evSs_mono body _ _ _ _ ?_ q
          exact ⟨hr, fun d st z => ⟨z.1, hk.rt _ _ z.2⟩, fun d st z => ⟨z.1, hk.nx _ _ z.2⟩, hr⟩
      · exact h.elim
    · exact h.elim
  | .whl c body, σ, st, K, K', hk, h => by
    unfold evS at h ⊢
    obtain ⟨n, h⟩ := h
    refine ⟨n, ?_⟩
    revert h
    refine whlK_mono ?_ ?_ hk.nx n σ st
    · intro σ1 st1 R R' hr q
      exact evT_mono hF c _ _ _ _ hr q
    · intro σ1 st1 R R' hr q
      refine evSs_mono body _ _ _ _ ?_ q
      exact ⟨hr, hk.rt, hk.nx, hr⟩
  | .pass, σ, st, K, K', hk, h => by unfold evS at h ⊢; exact hk.nx _ _ h
  | .brk, σ, st, K, K', hk, h => by unfold evS at h ⊢; exact hk.bk _ _ h
  | .cont, σ, st, K, K', hk, h => by unfold evS at h ⊢; exact hk.ct _ _ h
theorem evSs_mono : ∀ (ss : List S) (σ : Env) (st : Sto) (K K' : Kt), KtLe K K' → evSs F C ss σ st K → evSs F C ss σ st K'
  | [], σ, st, K, K', hk, h => by unfold evSs at h ⊢; exact hk.nx _ _ h
  | s :: ss, σ, st, K, K', hk, h => by
    unfold evSs at h ⊢
    refine evS_mono s _ _ _ _ ?_ h
    exact ⟨fun σ' st' q => evSs_mono ss _ _ _ _ hk q, hk.rt, hk.bk, hk.ct⟩
end
end
def MonoB (B : Bs) : Prop := ∀ f us st (K K' : D → Sto → Prop), (∀ d s, K d s → K' d s) → B f us st K → B f us st K'
theorem callOf_mono {P : Str → Option Fn} {B : Bs} (hB : MonoB B) : MonoF (callOf P B) := fun f vs ks ws st K K' hk h => by
  unfold callOf at h ⊢
  split at h
  · split at h
    · rename_i e
      rw [if_pos e]
      exact h
    · rename_i e
      rw [if_neg e]
      refine ⟨h.1, h.2.1, ?_⟩
      have h := h.2.2
      split at h
      · exact hB _ _ _ _ _ hk h
      · exact h.elim
  · exact h.elim
theorem bodyF_mono (P : Str → Option Fn) (C : Kst) : ∀ n : Nat, MonoB (bodyF P C n)
  | 0 => fun _ _ _ _ _ _ h => h
  | n + 1 => fun f us st K K' hk h => by
    unfold bodyF at h ⊢
    split at h
    · refine ⟨h.1, ?_⟩
      refine evSs_mono (callOf_mono (bodyF_mono P C n)) _ _ _ _ _ ?_ h.2
      exact ⟨fun σ st ⟨s1, a, b⟩ => ⟨s1, a, hk _ _ b⟩, fun d st ⟨s1, a, b⟩ => ⟨s1, a, hk _ _ b⟩, fun _ _ z => z, fun _ _ z => z⟩
    · exact h.elim
theorem callF_mono (P : Str → Option Fn) (C : Kst) (n : Nat) : MonoF (callF P C n) := callOf_mono (bodyF_mono P C n)
end MP

set_option Elab.async false
set_option linter.all false
set_option maxRecDepth 100000
set_option maxHeartbeats 4000000
/-! MpC: how the small language's values and store lie in the hand layer's heap; the operations. -/
namespace MP
open PySem PySem.Spec L2
/-- tables of code objects, by their names; the classes of the text -/
structure TabL where
  tabs : List (Addr × Str)
  cls : List (Str × Addr)
/-- the constants, and which tables are known -/
abbrev KstT (Tb : TabL) : Type := Kst
variable {Tb : TabL}

mutual
def RV (K : PySem.W.Frag) (H : Hp) : D → V → Prop
  | .non, v => v = .non
  | .bl b, v => v = .bl b
  | .int i, v => v = .int i
  | .str s, v => v = .str s
  | .tup xs, v => ∃ a vs, v = .ref a ∧ H a = some (.tup vs) ∧ RVs K H xs vs
  | .ref a, v => v = .ref a
def RVs (K : PySem.W.Frag) (H : Hp) : List D → List V → Prop
  | [], vs => vs = []
  | x :: xs, vs => ∃ v ws, vs = v :: ws ∧ RV K H x v ∧ RVs K H xs ws
end
/-- dicts of the same keys -/
def RKV {κ : Type} (K : PySem.W.Frag) (H : Hp) : List (κ × D) → List (κ × V) → Prop
  | [], vs => vs = []
  | (k, d) :: ks, vs => ∃ v ws, vs = (k, v) :: ws ∧ RV K H d v ∧ RKV K H ks ws
def RO (Tb : TabL) (K : PySem.W.Frag) (H : Hp) (a : Addr) : O → Prop
  | .lst xs => ∃ vs, H a = some (.lst vs) ∧ RVs K H xs vs
  | .dct kvs => ∃ vs, H a = some (.dK vs) ∧ RKV K H kvs vs ∧ kvs.length ≤ sizeLine
  | .lck u kvs => ∃ od vs, H a = some u ∧ u = .frz od (.dK vs) ∧ RKV K H kvs vs ∧ kvs.length ≤ sizeLine
  | .ins C fs => ∃ p dx vs, H a = some (.ins p dx vs) ∧ (C, p) ∈ Tb.cls ∧ RKV K H fs vs
  | .dcT kvs => ∃ vs, H a = some (.dT vs) ∧ RKV K H kvs vs ∧ kvs.length ≤ sizeLine
/-- what may stand where the store names something -/
def Mu (u : HO) : Prop := (∃ vs, u = .lst vs) ∨ (∃ kvs, u = .dK kvs) ∨ (∃ od kvs, u = .frz od (.dK kvs)) ∨ (∃ kvs, u = .dT kvs) ∨ ∃ p dx fs, u = .ins p dx fs
/-- a list of the written part -/
def KL (K : PySem.W.Frag) (a : Addr) (vs : List V) : Prop :=
  ∃ (o : Obj) (its : Array Value) (n : Nat), K.lookup a = some o ∧ o.cls = .type "list" ∧ o.dict = none ∧ o.data = .seq its n ∧ its.size ≤ sizeLine ∧ Vals vs its.toList
/-- a list that is only read -/
def CL (K : PySem.W.Frag) (st : Sto) (H : Hp) (a : Addr) (vs : List V) : Prop :=
  (H a = some (.lst vs) ∧ st a = none) ∨ (∃ o, H a = some (.frz o (.lst vs))) ∨ KL K a vs
theorem CL.sq {K : PySem.W.Frag} {st : Sto} {H : Hp} {a : Addr} {vs : List V} (h : CL K st H a vs) : SqL K H a vs := by
  rcases h with ⟨h, _⟩ | ⟨o, h⟩ | h
  · exact .inl (.inl h)
  · exact .inl (.inr ⟨o, h⟩)
  · exact .inr h
structure Rel (K : PySem.W.Frag) (C : KstT Tb) (st : Sto) (H : Hp) : Prop where
  ob : ∀ a o, st a = some o → RO Tb K H a o
  ct : ∀ a xs, C a = some xs → ∃ vs, CL K st H a vs ∧ RVs K H xs vs
  tb : LamX.Tabs Tb.tabs H
/-- what the store does not name stays as it is -/
def Keep (st : Sto) (H : Hp) (st' : Sto) (H' : Hp) : Prop := ∀ a o, H a = some o → (∀ q, o ≠ .tbl q) → st a = none → H' a = some o ∧ st' a = none
theorem Keep.refl {st : Sto} {H : Hp} : Keep st H st H := fun _ _ h _ n => ⟨h, n⟩
theorem Keep.trans {st st1 st2 : Sto} {H H1 H2 : Hp} (a : Keep st H st1 H1) (b : Keep st1 H1 st2 H2) : Keep st H st2 H2 := fun c o h t n => by
  obtain ⟨h1, n1⟩ := a c o h t n
  exact b c o h1 t n1
theorem Sub.none {s t : Sto} (h : Sub s t) {a : Addr} (n : t a = Option.none) : s a = Option.none := by
  cases e : s a with
  | none => rfl
  | some o => rw [h a o e] at n; cases n
theorem Keep.sub {st st1 st' : Sto} {H H' : Hp} (h : Sub st1 st') (a : Keep st H st' H') : Keep st H st1 H' := fun c o e t n => by
  obtain ⟨h1, n1⟩ := a c o e t n
  exact ⟨h1, h.none n1⟩
theorem Rel.sub {K : PySem.W.Frag} {C : KstT Tb} {st st1 : Sto} {H : Hp} (h : Sub st1 st) (r : Rel K C st H) : Rel K C st1 H := ⟨fun a o e => r.ob a o (h a o e), fun a xs e => by
  obtain ⟨vs, h1, h2⟩ := r.ct a xs e
  refine ⟨vs, ?_, h2⟩
  rcases h1 with ⟨h1, n⟩ | h1
  · exact .inl ⟨h1, h.none n⟩
  · exact .inr h1, r.tb⟩

section
variable {K : PySem.W.Frag} {C : KstT Tb} {st st' : Sto} {H H' : Hp}
theorem RO.there {a : Addr} {o : O} (h : RO Tb K H a o) : ∃ u, H a = some u ∧ Mu u := by
  cases o with
  | lst xs => obtain ⟨vs, h, _⟩ := h; exact ⟨_, h, .inl ⟨vs, rfl⟩⟩
  | dct _ => obtain ⟨vs, h, _⟩ := h; exact ⟨_, h, .inr (.inl ⟨vs, rfl⟩)⟩
  | lck _ _ => obtain ⟨od, vs, h, e, _⟩ := h; exact ⟨_, h, .inr (.inr (.inl ⟨od, vs, e⟩))⟩
  | ins _ _ => obtain ⟨p, dx, vs, h, _⟩ := h; exact ⟨_, h, .inr (.inr (.inr (.inr ⟨p, dx, vs, rfl⟩)))⟩
  | dcT _ => obtain ⟨vs, h, _⟩ := h; exact ⟨_, h, .inr (.inr (.inr (.inl ⟨vs, rfl⟩)))⟩
theorem Mu.no_tup {vs : List V} (h : Mu (.tup vs)) : False := by
  rcases h with ⟨_, q⟩ | ⟨_, q⟩ | ⟨_, _, q⟩ | ⟨_, q⟩ | ⟨_, _, _, q⟩ <;> cases q
theorem Mu.no_frzT {od : Obj} {vs : List V} (h : Mu (.frz od (.tup vs))) : False := by
  rcases h with ⟨_, q⟩ | ⟨_, q⟩ | ⟨_, _, q⟩ | ⟨_, q⟩ | ⟨_, _, _, q⟩ <;> cases q
theorem Mu.no_frzL {od : Obj} {vs : List V} (h : Mu (.frz od (.lst vs))) : False := by
  rcases h with ⟨_, q⟩ | ⟨_, q⟩ | ⟨_, _, q⟩ | ⟨_, q⟩ | ⟨_, _, _, q⟩ <;> cases q
theorem Mu.no_tbl {ps : Array Value} (h : Mu (.tbl ps)) : False := by
  rcases h with ⟨_, q⟩ | ⟨_, q⟩ | ⟨_, _, q⟩ | ⟨_, q⟩ | ⟨_, _, _, q⟩ <;> cases q
theorem Mu.no_ext {φ : Heap → Prop} (h : Mu (.ext φ)) : False := by
  rcases h with ⟨_, q⟩ | ⟨_, q⟩ | ⟨_, _, q⟩ | ⟨_, q⟩ | ⟨_, _, _, q⟩ <;> cases q
theorem Rel.free (r : Rel K C st H) {a : Addr} (n : H a = none) : st a = none := by
  cases e : st a with
  | none => rfl
  | some o =>
    obtain ⟨vs, q, _⟩ := (r.ob a o e).there
    rw [n] at q; cases q
theorem Rel.tupT (r : Rel K C st H) {a : Addr} {u : HO} (h : H a = some u) (hu : ¬ Mu u) : st a = none := by
  cases e : st a with
  | none => rfl
  | some o =>
    obtain ⟨u', q, m⟩ := (r.ob a o e).there
    rw [h] at q
    cases q
    exact absurd m hu
theorem sqT_keep (r : Rel K C st H) (k : Keep st H st' H') {a : Addr} {vs : List V} (h : SqT K H a vs) : SqT K H' a vs := by
  rcases h with (h | ⟨o, h⟩) | h
  · exact .inl (.inl (k a _ h (by intro vs q; cases q) (r.tupT h Mu.no_tup)).1)
  · exact .inl (.inr ⟨o, (k a _ h (by intro vs q; cases q) (r.tupT h Mu.no_frzT)).1⟩)
  · exact .inr h
theorem cl_keep (r : Rel K C st H) (k : Keep st H st' H') {a : Addr} {vs : List V} (h : CL K st H a vs) : CL K st' H' a vs := by
  rcases h with ⟨h, n⟩ | ⟨o, h⟩ | h
  · exact .inl (k a _ h (by intro vs q; cases q) n)
  · exact .inr (.inl ⟨o, (k a _ h (by intro vs q; cases q) (r.tupT h Mu.no_frzL)).1⟩)
  · exact .inr (.inr h)
/-- tuples stay -/
def TK (K : PySem.W.Frag) (H H' : Hp) : Prop := ∀ a vs, H a = some (.tup vs) → H' a = some (.tup vs)
theorem TK.of (r : Rel K C st H) (k : Keep st H st' H') : TK K H H' := fun a _ h => (k a _ h (by intro vs q; cases q) (r.tupT h Mu.no_tup)).1
mutual
theorem RV.tk (t : TK K H H') : ∀ (d : D) (v : V), RV K H d v → RV K H' d v
  | .non, _, h => by unfold RV at h ⊢; exact h
  | .bl _, _, h => by unfold RV at h ⊢; exact h
  | .int _, _, h => by unfold RV at h ⊢; exact h
  | .str _, _, h => by unfold RV at h ⊢; exact h
  | .ref _, _, h => by unfold RV at h ⊢; exact h
  | .tup xs, _, h => by
    unfold RV at h ⊢
    obtain ⟨a, vs, e, hs, hr⟩ := h
    exact ⟨a, vs, e, t a vs hs, RVs.tk t xs vs hr⟩
theorem RVs.tk (t : TK K H H') : ∀ (ds : List D) (vs : List V), RVs K H ds vs → RVs K H' ds vs
  | [], _, h => by unfold RVs at h ⊢; exact h
  | d :: ds, _, h => by
    unfold RVs at h ⊢
    obtain ⟨v, ws, e, h1, h2⟩ := h
    exact ⟨v, ws, e, RV.tk t d v h1, RVs.tk t ds ws h2⟩
end
theorem RV.keep (r : Rel K C st H) (k : Keep st H st' H') (d : D) (v : V) (h : RV K H d v) : RV K H' d v := RV.tk (TK.of r k) d v h
theorem RVs.keep (r : Rel K C st H) (k : Keep st H st' H') (d : List D) (v : List V) (h : RVs K H d v) : RVs K H' d v := RVs.tk (TK.of r k) d v h
theorem RKV.tk {κ : Type} (t : TK K H H') : ∀ (ks : List (κ × D)) (vs : List (κ × V)), RKV K H ks vs → RKV K H' ks vs
  | [], _, h => h
  | (k, d) :: ks, _, h => by
    obtain ⟨v, ws, e, h1, h2⟩ := h
    exact ⟨v, ws, e, RV.tk t d v h1, RKV.tk t ks ws h2⟩
theorem RKV.keep {κ : Type} (r : Rel K C st H) (k : Keep st H st' H') (d : List (κ × D)) (v : List (κ × V)) (h : RKV K H d v) : RKV K H' d v := RKV.tk (TK.of r k) d v h
theorem RKV.length {κ : Type} : ∀ {ks : List (κ × D)} {vs : List (κ × V)}, RKV K H ks vs → vs.length = ks.length
  | [], _, h => by
    have h' : _ = [] := h
    rw [h'] <;> rfl
  | (k, d) :: ks, _, h => by
    obtain ⟨v, ws, rfl, _, h2⟩ := h
    rw [List.length_cons, List.length_cons, RKV.length h2]
theorem RKV.look {κ : Type} [DecidableEq κ] (k : κ) : ∀ {ks : List (κ × D)} {vs : List (κ × V)}, RKV K H ks vs → (∀ d, lookD ks k = some d → ∃ v, valV vs k = some v ∧ RV K H d v) ∧ (lookD ks k = none → valV vs k = none)
  | [], _, h => by
    have h' : _ = [] := h
    rw [h']
    exact ⟨fun d e => (by cases e), fun _ => rfl⟩
  | (j, d) :: ks, _, h => by
    obtain ⟨v, ws, rfl, h1, h2⟩ := h
    have ih := RKV.look k h2
    by_cases e : j = k
    · have a : lookD ((j, d) :: ks) k = some d := by simp [lookD, List.find?_cons, e]
      have b : valV ((j, v) :: ws) k = some v := valV_pos e
      rw [a, b]
      exact ⟨fun d' e' => ⟨v, rfl, (by cases e'; exact h1)⟩, fun z => (by cases z)⟩
    · have a : lookD ((j, d) :: ks) k = lookD ks k := by simp [lookD, List.find?_cons, e]
      have b : valV ((j, v) :: ws) k = valV ws k := valV_neg e
      rw [a, b]
      exact ih
theorem RKV.any {κ : Type} [DecidableEq κ] (k : κ) : ∀ {ks : List (κ × D)} {vs : List (κ × V)}, RKV K H ks vs → (vs.any fun kv => decide (kv.1 = k)) = (ks.any fun kv => decide (kv.1 = k))
  | [], _, h => by
    have h' : _ = [] := h
    rw [h'] <;> rfl
  | (j, d) :: ks, _, h => by
    obtain ⟨v, ws, rfl, h1, h2⟩ := h
    rw [List.any_cons, List.any_cons, RKV.any k h2]
theorem RKV.snoc {κ : Type} {k : κ} {d : D} {v : V} (hv : RV K H d v) : ∀ {ks : List (κ × D)} {vs : List (κ × V)}, RKV K H ks vs → RKV K H (ks ++ [(k, d)]) (vs ++ [(k, v)])
  | [], _, h => by
    have h' : _ = [] := h
    rw [h']
    exact ⟨v, [], rfl, hv, rfl⟩
  | (j, d) :: ks, _, h => by
    obtain ⟨v, ws, rfl, h1, h2⟩ := h
    exact ⟨v, _, rfl, h1, RKV.snoc hv h2⟩
theorem RKV.repl {κ : Type} [DecidableEq κ] {k : κ} {d : D} {v : V} (hv : RV K H d v) : ∀ {ks : List (κ × D)} {vs : List (κ × V)}, RKV K H ks vs →
    RKV K H (ks.map fun kv => if kv.1 = k then (kv.1, d) else kv) (vs.map fun kv => if kv.1 = k then (kv.1, v) else kv)
  | [], _, h => by
    have h' : _ = [] := h
    rw [h']
    rfl
  | (j, d') :: ks, _, h => by
    obtain ⟨v', ws, rfl, h1, h2⟩ := h
    rw [List.map_cons, List.map_cons]
    by_cases e : j = k
    · rw [if_pos e, if_pos e]
      exact ⟨v, _, rfl, hv, RKV.repl hv h2⟩
    · rw [if_neg e, if_neg e]
      exact ⟨v', _, rfl, h1, RKV.repl hv h2⟩
theorem RKV.put {κ : Type} [DecidableEq κ] {k : κ} {d : D} {v : V} {ks : List (κ × D)} {vs : List (κ × V)} (hv : RV K H d v) (h : RKV K H ks vs) : RKV K H (putD ks k d) (putK vs k v) := by
  unfold putD putK
  rw [RKV.any k h]
  split
  · exact RKV.repl hv h
  · exact RKV.snoc hv h
theorem RKV.key {κ : Type} : ∀ {ks : List (κ × D)} {vs : List (κ × V)} {i : Nat} {k : κ} {v : V}, RKV K H ks vs → vs[i]? = some (k, v) → ∃ d, ks[i]? = some (k, d)
  | [], _, i, k, v, h, e => by
    have h' : _ = [] := h
    rw [h'] at e
    simp at e
  | (j, d) :: ks, _, 0, k, v, h, e => by
    obtain ⟨v', ws, rfl, _, _⟩ := h
    have e' : (j, v') = (k, v) := by simpa using e
    cases e'
    exact ⟨d, rfl⟩
  | (j, d) :: ks, _, i + 1, k, v, h, e => by
    obtain ⟨v', ws, rfl, _, h2⟩ := h
    exact RKV.key (i := i) h2 (by simpa using e)
theorem putD_len {κ : Type} [DecidableEq κ] (ks : List (κ × D)) (k : κ) (d : D) : (putD ks k d).length ≤ ks.length + 1 := by
  unfold putD
  split
  · rw [List.length_map]
    exact Nat.le_succ _
  · rw [List.length_append] <;> simp
theorem RVs.nil : RVs K H [] [] := by unfold RVs; rfl
theorem RVs.cons {d : D} {ds : List D} {v : V} {vs : List V} (h : RV K H d v) (t : RVs K H ds vs) : RVs K H (d :: ds) (v :: vs) := by
  unfold RVs; exact ⟨v, vs, rfl, h, t⟩
theorem RVs.cons_inv {d : D} {ds : List D} {vs : List V} (h : RVs K H (d :: ds) vs) : ∃ v ws, vs = v :: ws ∧ RV K H d v ∧ RVs K H ds ws := by
  unfold RVs at h; exact h
theorem RVs.nil_inv {vs : List V} (h : RVs K H [] vs) : vs = [] := by unfold RVs at h; exact h
theorem RVs.length : ∀ {ds : List D} {vs : List V}, RVs K H ds vs → vs.length = ds.length
  | [], _, h => by rw [h.nil_inv] <;> rfl
  | _ :: _, _, h => by
    obtain ⟨v, ws, rfl, _, t⟩ := h.cons_inv
    rw [List.length_cons, List.length_cons, RVs.length t]
theorem RVs.append : ∀ {xs ys : List D} {vs ws : List V}, RVs K H xs vs → RVs K H ys ws → RVs K H (xs ++ ys) (vs ++ ws)
  | [], _, _, _, h, t => by rw [h.nil_inv]; exact t
  | _ :: _, _, _, _, h, t => by
    obtain ⟨v, ws, rfl, h1, h2⟩ := h.cons_inv
    exact RVs.cons h1 (RVs.append h2 t)
theorem RVs.get : ∀ {xs : List D} {vs : List V} {i : Nat} {d : D}, RVs K H xs vs → xs[i]? = some d → ∃ v, vs[i]? = some v ∧ RV K H d v
  | [], _, _, _, _, e => by simp at e
  | x :: xs, _, 0, d, h, e => by
    obtain ⟨v, ws, rfl, h1, h2⟩ := h.cons_inv
    have e' : x = d := by simpa using e
    subst e'
    exact ⟨v, rfl, h1⟩
  | x :: xs, _, i + 1, d, h, e => by
    obtain ⟨v, ws, rfl, h1, h2⟩ := h.cons_inv
    exact RVs.get (i := i) h2 (by simpa using e)
theorem RVs.getV : ∀ {xs : List D} {vs : List V} {i : Nat} {v : V}, RVs K H xs vs → vs[i]? = some v → ∃ d, xs[i]? = some d ∧ RV K H d v
  | [], _, _, _, h, e => by rw [h.nil_inv] at e; simp at e
  | x :: xs, _, 0, v, h, e => by
    obtain ⟨w, ws, rfl, h1, h2⟩ := h.cons_inv
    have e' : w = v := by simpa using e
    subst e'
    exact ⟨x, rfl, h1⟩
  | x :: xs, _, i + 1, d, h, e => by
    obtain ⟨v, ws, rfl, h1, h2⟩ := h.cons_inv
    exact RVs.getV (i := i) h2 (by simpa using e)
theorem RVs.set {d : D} {v : V} (r : RV K H d v) : ∀ {xs : List D} {vs : List V} (i : Nat), RVs K H xs vs → RVs K H (xs.set i d) (vs.set i v)
  | [], _, i, h => by rw [h.nil_inv]; exact RVs.nil
  | x :: xs, _, 0, h => by
    obtain ⟨w, ws, rfl, h1, h2⟩ := h.cons_inv
    exact RVs.cons r h2
  | x :: xs, _, i + 1, h => by
    obtain ⟨w, ws, rfl, h1, h2⟩ := h.cons_inv
    exact RVs.cons h1 (RVs.set r i h2)
theorem RVs.drop : ∀ {xs : List D} {vs : List V} (n : Nat), RVs K H xs vs → RVs K H (xs.drop n) (vs.drop n)
  | _, _, 0, h => h
  | [], _, n + 1, h => by rw [h.nil_inv]; exact RVs.nil
  | x :: xs, _, n + 1, h => by
    obtain ⟨w, ws, rfl, h1, h2⟩ := h.cons_inv
    exact RVs.drop n h2
theorem RVs.take : ∀ {xs : List D} {vs : List V} (n : Nat), RVs K H xs vs → RVs K H (xs.take n) (vs.take n)
  | xs, vs, 0, h => by rw [List.take_zero, List.take_zero]; exact RVs.nil
  | [], _, n + 1, h => by rw [h.nil_inv]; exact RVs.nil
  | x :: xs, _, n + 1, h => by
    obtain ⟨w, ws, rfl, h1, h2⟩ := h.cons_inv
    exact RVs.cons h1 (RVs.take n h2)
theorem RVs.dropLast {xs : List D} {vs : List V} (h : RVs K H xs vs) : RVs K H xs.dropLast vs.dropLast := by
  rw [List.dropLast_eq_take, List.dropLast_eq_take, h.length]
  exact h.take _
theorem RVs.reverse : ∀ {xs : List D} {vs : List V}, RVs K H xs vs → RVs K H xs.reverse vs.reverse
  | [], _, h => by rw [h.nil_inv]; exact RVs.nil
  | x :: xs, _, h => by
    obtain ⟨w, ws, rfl, h1, h2⟩ := h.cons_inv
    rw [List.reverse_cons, List.reverse_cons]
    exact RVs.append (RVs.reverse h2) (RVs.cons h1 RVs.nil)
theorem RVs.rep {xs : List D} {vs : List V} (h : RVs K H xs vs) : ∀ k : Nat, RVs K H (List.replicate k xs).flatten (List.replicate k vs).flatten
  | 0 => RVs.nil
  | k + 1 => by
    rw [List.replicate_succ, List.replicate_succ, List.flatten_cons, List.flatten_cons]
    exact RVs.append h (RVs.rep h k)
theorem RVs.isEmpty {xs : List D} {vs : List V} (h : RVs K H xs vs) : vs.isEmpty = xs.isEmpty := by
  cases xs with
  | nil => rw [h.nil_inv] <;> rfl
  | cons x xs =>
    obtain ⟨v, ws, rfl, _, _⟩ := h.cons_inv
    rfl
theorem RVs.ints : ∀ {xs : List D} {ns : List Int} {vs : List V}, allInts xs = some ns → RVs K H xs vs → vs = ns.map V.int
  | [], ns, vs, e, h => by
    have e' : [] = ns := by simpa [allInts] using e
    rw [h.nil_inv, ← e'] <;> rfl
  | .int i :: xs, ns, vs, e, h => by
    obtain ⟨v, ws, rfl, h1, h2⟩ := h.cons_inv
    unfold allInts at e
    split at e
    · rename_i ms hm
      have e' : i :: ms = ns := by simpa using e
      rw [← e', List.map_cons, RVs.ints hm h2]
      unfold RV at h1
      rw [h1]
    · cases e
  | .non :: xs, ns, vs, e, h => by simp [allInts] at e
  | .bl _ :: xs, ns, vs, e, h => by simp [allInts] at e
  | .str _ :: xs, ns, vs, e, h => by simp [allInts] at e
  | .tup _ :: xs, ns, vs, e, h => by simp [allInts] at e
  | .ref _ :: xs, ns, vs, e, h => by simp [allInts] at e
theorem rv_int {i : Int} {v : V} : RV K H (.int i) v ↔ v = .int i := by unfold RV; exact Iff.rfl
theorem rv_bl {b : Bool} {v : V} : RV K H (.bl b) v ↔ v = .bl b := by unfold RV; exact Iff.rfl
theorem rv_non {v : V} : RV K H .non v ↔ v = .non := by unfold RV; exact Iff.rfl
theorem rv_str {s : Str} {v : V} : RV K H (.str s) v ↔ v = .str s := by unfold RV; exact Iff.rfl
theorem rv_ref {a : Addr} {v : V} : RV K H (.ref a) v ↔ v = .ref a := by unfold RV; exact Iff.rfl
theorem rv_tupH {xs : List D} {v : V} : RV K H (.tup xs) v ↔ ∃ a vs, v = .ref a ∧ H a = some (.tup vs) ∧ RVs K H xs vs := by unfold RV; exact Iff.rfl
theorem rv_tupS {xs : List D} {v : V} (h : RV K H (.tup xs) v) : ∃ a vs, v = .ref a ∧ SqT K H a vs ∧ RVs K H xs vs := by
  obtain ⟨a, vs, e, h1, h2⟩ := rv_tupH.mp h
  exact ⟨a, vs, e, SqT.of h1, h2⟩

/-! ### steps of the heap -/
theorem Keep.write {a : Addr} {o : O} {u : HO} (h : st a ≠ none) : Keep st H (put st a o) (upd H a u) := fun b w e _ n => by
  have hb : b ≠ a := fun q => h (by rw [← q]; exact n)
  exact ⟨by rw [upd_ne hb]; exact e, by rw [put_ne hb]; exact n⟩
theorem Keep.new {p : Addr} {o : O} {u : HO} (hp : H p = none) : Keep st H (put st p o) (upd H p u) := fun b w e _ n => by
  have hb : b ≠ p := ne_of_none e hp
  exact ⟨by rw [upd_ne hb]; exact e, by rw [put_ne hb]; exact n⟩
theorem Keep.newT {p : Addr} {u : HO} (hp : H p = none) : Keep st H st (upd H p u) := fun b w e _ n => by
  have hb : b ≠ p := ne_of_none e hp
  exact ⟨by rw [upd_ne hb]; exact e, n⟩
theorem tabs_new {T : List (Addr × Str)} {p : Addr} {u : HO} (hp : H p = none) (t : LamX.Tabs T H) : LamX.Tabs T (upd H p u) := t.ext fun b o e => by rw [upd_ne (ne_of_none e hp)]; exact e
theorem tabs_mu {T : List (Addr × Str)} {a : Addr} {u w : HO} (h : H a = some w) (m : Mu w) (t : LamX.Tabs T H) : LamX.Tabs T (upd H a u) := fun p hp => by
  obtain ⟨ps, h1, h2, h3⟩ := t p hp
  refine ⟨ps, by rw [upd_ne (ne_of h1 h (by intro z; rw [← z] at m; exact m.no_tbl))]; exact h1, h2, fun pos cv hc => ?_⟩
  obtain ⟨c, e1, e2⟩ := h3 pos cv hc
  exact ⟨c, e1, by rw [upd_ne (ne_of e2 h (by unfold LamX.CodeO; intro z; rw [← z] at m; exact m.no_ext))]; exact e2⟩
theorem tabs_lst {T : List (Addr × Str)} {a : Addr} {u : HO} {w : List V} (h : H a = some (.lst w)) (t : LamX.Tabs T H) : LamX.Tabs T (upd H a u) := tabs_mu h (.inl ⟨w, rfl⟩) t
theorem RO.tk (t : TK K H H') {a : Addr} {o : O} (q : RO Tb K H a o) (e2 : H' a = H a) : RO Tb K H' a o := by
  cases o with
  | lst xs =>
    obtain ⟨vs, h1, h2⟩ := q
    exact ⟨vs, by rw [e2]; exact h1, RVs.tk t xs vs h2⟩
  | dct kvs =>
    obtain ⟨vs, h1, h2, h3⟩ := q
    exact ⟨vs, by rw [e2]; exact h1, RKV.tk t kvs vs h2, h3⟩
  | lck u kvs =>
    obtain ⟨od, vs, h1, h0, h2, h3⟩ := q
    exact ⟨od, vs, by rw [e2]; exact h1, h0, RKV.tk t kvs vs h2, h3⟩
  | ins C fs =>
    obtain ⟨p, dx, vs, h1, h2, h3⟩ := q
    exact ⟨p, dx, vs, by rw [e2]; exact h1, h2, RKV.tk t fs vs h3⟩
  | dcT kvs =>
    obtain ⟨vs, h1, h2, h3⟩ := q
    exact ⟨vs, by rw [e2]; exact h1, RKV.tk t kvs vs h2, h3⟩
theorem Rel.step (r : Rel K C st H) (k : Keep st H st' H') (t : LamX.Tabs Tb.tabs H') (h : ∀ a o, st' a = some o → (st a = some o ∧ H' a = H a) ∨ RO Tb K H' a o) : Rel K C st' H' := by
  refine ⟨fun a o e => ?_, fun a xs e => ?_, t⟩
  · rcases h a o e with ⟨e1, e2⟩ | q
    · exact (r.ob a o e1).tk (TK.of r k) e2
    · exact q
  · obtain ⟨vs, h1, h2⟩ := r.ct a xs e
    exact ⟨vs, cl_keep r k h1, RVs.keep r k xs vs h2⟩
theorem Rel.newT (r : Rel K C st H) {p : Addr} {vs : List V} (hp : H p = none) : Rel K C st (upd H p (.tup vs)) := by
  refine r.step (Keep.newT hp) (tabs_new hp r.tb) fun a o e => .inl ⟨e, ?_⟩
  obtain ⟨ws, q, _⟩ := (r.ob a o e).there
  exact upd_ne (ne_of_none q hp)
theorem Rel.newL (r : Rel K C st H) {p : Addr} {xs : List D} {vs : List V} (hp : H p = none) (hv : RVs K H xs vs) : Rel K C (put st p (.lst xs)) (upd H p (.lst vs)) := by
  have k : Keep st H (put st p (.lst xs)) (upd H p (.lst vs)) := Keep.new hp
  refine r.step k (tabs_new hp r.tb) fun a o e => ?_
  by_cases ha : a = p
  · subst ha
    rw [put_same] at e; cases e
    exact .inr ⟨vs, upd_same, RVs.keep r k xs vs hv⟩
  · rw [put_ne ha] at e
    exact .inl ⟨e, upd_ne ha⟩
theorem Rel.write (r : Rel K C st H) {a : Addr} {o : O} {xs : List D} {vs : List V} (ha : st a = some o) (hv : RVs K H xs vs) : Rel K C (put st a (.lst xs)) (upd H a (.lst vs)) := by
  have k : Keep st H (put st a (.lst xs)) (upd H a (.lst vs)) := Keep.write (by rw [ha]; exact fun q => nomatch q)
  obtain ⟨w, hw, mw⟩ := (r.ob a _ ha).there
  refine r.step k (tabs_mu hw mw r.tb) fun b u e => ?_
  by_cases hb : b = a
  · subst hb
    rw [put_same] at e; cases e
    exact .inr ⟨vs, upd_same, RVs.keep r k xs vs hv⟩
  · rw [put_ne hb] at e
    exact .inl ⟨e, upd_ne hb⟩
/-- a new dict -/
theorem Rel.newD (r : Rel K C st H) {p : Addr} {kvs : List (Key × D)} {vs : List (Key × V)} (hp : H p = none) (hv : RKV K H kvs vs) (hz : kvs.length ≤ sizeLine) : Rel K C (put st p (.dct kvs)) (upd H p (.dK vs)) := by
  have k : Keep st H (put st p (.dct kvs)) (upd H p (.dK vs)) := Keep.new hp
  refine r.step k (tabs_new hp r.tb) fun a o e => ?_
  by_cases ha : a = p
  · subst ha
    rw [put_same] at e; cases e
    exact .inr ⟨vs, upd_same, RKV.keep r k kvs vs hv, hz⟩
  · rw [put_ne ha] at e
    exact .inl ⟨e, upd_ne ha⟩
theorem Rel.writeD (r : Rel K C st H) {a : Addr} {o : O} {kvs : List (Key × D)} {vs : List (Key × V)} (ha : st a = some o) (hv : RKV K H kvs vs) (hz : kvs.length ≤ sizeLine) : Rel K C (put st a (.dct kvs)) (upd H a (.dK vs)) := by
  have k : Keep st H (put st a (.dct kvs)) (upd H a (.dK vs)) := Keep.write (by rw [ha]; exact fun q => nomatch q)
  obtain ⟨w, hw, mw⟩ := (r.ob a _ ha).there
  refine r.step k (tabs_mu hw mw r.tb) fun b u e => ?_
  by_cases hb : b = a
  · subst hb
    rw [put_same] at e; cases e
    exact .inr ⟨vs, upd_same, RKV.keep r k kvs vs hv, hz⟩
  · rw [put_ne hb] at e
    exact .inl ⟨e, upd_ne hb⟩
/-- a dict is locked -/
theorem Rel.lock (r : Rel K C st H) {a : Addr} {o : O} {kvs : List (Key × D)} {vs : List (Key × V)} {od : Obj} (ha : st a = some o) (hv : RKV K H kvs vs) (hz : kvs.length ≤ sizeLine) : Rel K C (put st a (.lck (.frz od (.dK vs)) kvs)) (upd H a (.frz od (.dK vs))) := by
  have k : Keep st H (put st a (.lck (.frz od (.dK vs)) kvs)) (upd H a (.frz od (.dK vs))) := Keep.write (by rw [ha]; exact fun q => nomatch q)
  obtain ⟨w, hw, mw⟩ := (r.ob a _ ha).there
  refine r.step k (tabs_mu hw mw r.tb) fun b u e => ?_
  by_cases hb : b = a
  · subst hb
    rw [put_same] at e; cases e
    exact .inr ⟨od, vs, upd_same, rfl, RKV.keep r k kvs vs hv, hz⟩
  · rw [put_ne hb] at e
    exact .inl ⟨e, upd_ne hb⟩
/-- what is written, in general -/
theorem Rel.put (r : Rel K C st H) {a : Addr} {o o' : O} {u : HO} (ha : st a = some o) (h : ∀ H', TK K H H' → H' a = some u → RO Tb K H' a o') : Rel K C (put st a o') (upd H a u) := by
  have k : Keep st H (MP.put st a o') (upd H a u) := Keep.write (by rw [ha]; exact fun q => nomatch q)
  obtain ⟨w, hw, mw⟩ := (r.ob a _ ha).there
  refine r.step k (tabs_mu hw mw r.tb) fun b u e => ?_
  by_cases hb : b = a
  · subst hb
    rw [put_same] at e; cases e
    exact .inr (h _ (TK.of r k) upd_same)
  · rw [put_ne hb] at e
    exact .inl ⟨e, upd_ne hb⟩
theorem Rel.putN (r : Rel K C st H) {a : Addr} {o' : O} {u : HO} (hp : H a = none) (h : ∀ H', TK K H H' → H' a = some u → RO Tb K H' a o') : Rel K C (MP.put st a o') (upd H a u) := by
  have k : Keep st H (MP.put st a o') (upd H a u) := Keep.new hp
  refine r.step k (tabs_new hp r.tb) fun b u e => ?_
  by_cases hb : b = a
  · subst hb
    rw [put_same] at e; cases e
    exact .inr (h _ (TK.of r k) upd_same)
  · rw [put_ne hb] at e
    exact .inl ⟨e, upd_ne hb⟩
/-- a new instance -/
theorem Rel.newI (r : Rel K C st H) {x dx p : Addr} {c : Str} (hx : H x = none) (hd : H dx = none) (ne : dx ≠ x) (hc : (c, p) ∈ Tb.cls) :
    Rel K C (MP.put st x (.ins c [])) (upd (upd H dx (.own x)) x (.ins p dx [])) ∧ Keep st H (MP.put st x (.ins c [])) (upd (upd H dx (.own x)) x (.ins p dx [])) := by
  have k1 : Keep st H st (upd H dx (.own x)) := Keep.newT hd
  have r1 : Rel K C st (upd H dx (.own x)) := r.step k1 (tabs_new hd r.tb) fun a o e => .inl ⟨e, by
    obtain ⟨ws, q, _⟩ := (r.ob a o e).there
    exact upd_ne (ne_of_none q hd)⟩
  have hx1 : upd H dx (.own x) x = none := by rw [upd_ne ne.symm]; exact hx
  exact ⟨r1.putN hx1 fun H' _ e => ⟨p, dx, [], e, hc, rfl⟩, k1.trans (Keep.new hx1)⟩
theorem Rel.ins (r : Rel K C st H) {x : D} {v : V} {c : Str} {fs : List (Str × D)} (h : insOf st x = some (c, fs)) (hv : RV K H x v) : ∃ a p dx vs, x = .ref a ∧ v = .ref a ∧ st a = some (.ins c fs) ∧ H a = some (.ins p dx vs) ∧ (c, p) ∈ Tb.cls ∧ RKV K H fs vs := by
  cases x with
  | ref a =>
    have h : (match st a with
      | some (.ins C fs) => some (C, fs)
      | _ => none) = some (c, fs) := h
    split at h
    · rename_i c' fs' e
      cases h
      obtain ⟨p, dx, vs, h1, h2, h3⟩ := r.ob a _ e
      exact ⟨a, p, dx, vs, rfl, rv_ref.mp hv, e, h1, h2, h3⟩
    · cases h
  | _ => cases h
theorem Rel.tct (r : Rel K C st H) {x : D} {v : V} {kvs : List (List Key × D)} (h : tctOf st x = some kvs) (hv : RV K H x v) : ∃ a vs, x = .ref a ∧ v = .ref a ∧ H a = some (.dT vs) ∧ RKV K H kvs vs := by
  cases x with
  | ref a =>
    have h : (match st a with
      | some (.dcT kvs) => some kvs
      | _ => none) = some kvs := h
    split at h
    · rename_i ks e
      cases h
      obtain ⟨vs, h1, h2, _⟩ := r.ob a _ e
      exact ⟨a, vs, rfl, rv_ref.mp hv, h1, h2⟩
    · cases h
  | _ => cases h
theorem RKV.lookS : ∀ {fs : List (Str × D)} {vs : List (Str × V)} {f : Str}, RKV K H fs vs → (∀ d, fs.lookup f = some d → ∃ v, vs.lookup f = some v ∧ RV K H d v) ∧ (fs.lookup f = none → vs.lookup f = none)
  | [], _, f, h => by
    have h' : _ = [] := h
    rw [h']
    exact ⟨fun d e => (by cases e), fun _ => rfl⟩
  | (g, d) :: fs, _, f, h => by
    obtain ⟨v, ws, rfl, h1, h2⟩ := h
    have ih := RKV.lookS (f := f) h2
    simp only [List.lookup_cons]
    cases hp : f == g with
    | true => exact ⟨fun d' e => ⟨v, rfl, (by cases e; exact h1)⟩, fun z => (by cases z)⟩
    | false => exact ih
theorem RKV.putS {f : Str} {d : D} {v : V} (hv : RV K H d v) : ∀ {fs : List (Str × D)} {vs : List (Str × V)}, RKV K H fs vs → RKV K H (putFD f d fs) (putF f v vs)
  | [], _, h => by
    have h' : _ = [] := h
    rw [h']
    exact ⟨v, [], rfl, hv, rfl⟩
  | (g, d') :: fs, _, h => by
    obtain ⟨w, ws, rfl, h1, h2⟩ := h
    show RKV K H (if g = f then (g, d) :: fs else (g, d') :: putFD f d fs) (if g = f then (g, v) :: ws else (g, w) :: putF f v ws)
    by_cases e : g = f
    · rw [if_pos e, if_pos e]
      exact ⟨v, _, rfl, hv, h2⟩
    · rw [if_neg e, if_neg e]
      exact ⟨w, _, rfl, h1, RKV.putS hv h2⟩
theorem keysOf_map : ∀ {xs : List D} {ks : List Key}, keysOf xs = some ks → xs = ks.map keyD
  | [], ks, h => by
    have e : [] = ks := by simpa [keysOf] using h
    rw [← e] <;> rfl
  | x :: xs, ks, h => by
    unfold keysOf at h
    split at h
    · rename_i k ks' h1 h2
      cases h
      rw [List.map_cons, ← keysOf_map h2, keyOf_keyD h1]
    · cases h
theorem rvs_keys : ∀ {ks : List Key} {vs : List V}, RVs K H (ks.map keyD) vs → vs = ks.map kV
  | [], vs, h => by rw [h.nil_inv] <;> rfl
  | k :: ks, vs, h => by
    obtain ⟨v, ws, rfl, h1, h2⟩ := h.cons_inv
    rw [List.map_cons, ← rvs_keys h2]
    cases k with
    | inl i => rw [rv_int.mp h1] <;> rfl
    | inr s => rw [rv_str.mp h1] <;> rfl
theorem keyT_rv {d : D} {ks : List Key} {v : V} (h : keyT d = some ks) (hv : RV K H d v) : ∃ b, v = .ref b ∧ H b = some (.tup (ks.map kV)) := by
  cases d with
  | tup xs =>
    obtain ⟨b, vs, e, h1, h2⟩ := rv_tupH.mp hv
    rw [keysOf_map (show keysOf xs = some ks from h)] at h2
    rw [rvs_keys h2] at h1
    exact ⟨b, e, h1⟩
  | _ => cases h
theorem Rel.dct (r : Rel K C st H) {x : D} {v : V} {kvs : List (Key × D)} (h : dctOf st x = some kvs) (hv : RV K H x v) : ∃ a vs, x = .ref a ∧ v = .ref a ∧ Rd H a (.dK vs) ∧ RKV K H kvs vs := by
  cases x with
  | ref a =>
    have h : (match st a with
      | some (.dct kvs) => some kvs
      | some (.lck _ kvs) => some kvs
      | _ => none) = some kvs := h
    split at h
    · rename_i ks e
      cases h
      obtain ⟨vs, h1, h2, _⟩ := r.ob a _ e
      exact ⟨a, vs, rfl, rv_ref.mp hv, .inl h1, h2⟩
    · rename_i u ks e
      cases h
      obtain ⟨od, vs, h1, h0, h2, _⟩ := r.ob a _ e
      rw [h0] at h1
      exact ⟨a, vs, rfl, rv_ref.mp hv, .inr ⟨od, h1⟩, h2⟩
    · cases h
  | _ => cases h
theorem key_rv {d : D} {k : Key} {v : V} (h : keyOf d = some k) (hv : RV K H d v) : v = kV k := by
  rw [keyOf_keyD h] at hv
  cases k with
  | inl i => exact rv_int.mp hv
  | inr s => exact rv_str.mp hv
theorem rv_key {k : Key} : RV K H (keyD k) (kV k) := by
  cases k with
  | inl i => exact rv_int.mpr rfl
  | inr s => exact rv_str.mpr rfl
/-- a list of another one's is written -/
theorem TK.other {a : Addr} {w w' : List V} (h : H a = some (.lst w)) : TK K H (upd H a (.lst w')) := fun b vs q => by
  rw [upd_ne (ne_of q h (by intro z; cases z))]
  exact q
theorem Rel.other (r : Rel K C st H) {a : Addr} {w w' : List V} (h : H a = some (.lst w)) (n : st a = none) (hC : ∀ xs, C a = some xs → ∃ vs, KL K a vs ∧ RVs K H xs vs) : Rel K C st (upd H a (.lst w')) := by
  have t : TK K H (upd H a (.lst w')) := TK.other h
  refine ⟨fun b o e => ?_, fun b xs e => ?_, tabs_lst h r.tb⟩
  · have hb : b ≠ a := fun q => by rw [q, n] at e; cases e
    exact (r.ob b o e).tk t (upd_ne hb)
  · by_cases hb : b = a
    · subst hb
      obtain ⟨vs, h1, h2⟩ := hC xs e
      exact ⟨vs, .inr (.inr h1), RVs.tk t xs vs h2⟩
    · obtain ⟨vs, h1, h2⟩ := r.ct b xs e
      refine ⟨vs, ?_, RVs.tk t xs vs h2⟩
      rcases h1 with ⟨h1, n1⟩ | ⟨o, h1⟩ | h1
      · exact .inl ⟨by rw [upd_ne hb]; exact h1, n1⟩
      · exact .inr (.inl ⟨o, by rw [upd_ne hb]; exact h1⟩)
      · exact .inr (.inr h1)
/-- a name that the heap does not bear yet -/
theorem Rel.newC (r : Rel K C st H) {a : Addr} (n : H a = none) {xs : List D} (e : C a = some xs) : ∃ vs, KL K a vs ∧ RVs K H xs vs := by
  obtain ⟨vs, h1, h2⟩ := r.ct a xs e
  rcases h1 with ⟨h1, _⟩ | ⟨o, h1⟩ | h1
  · rw [n] at h1; cases h1
  · rw [n] at h1; cases h1
  · exact ⟨vs, h1, h2⟩
theorem Rel.rd (r : Rel K C st H) {a : Addr} {xs : List D} (h : rdL C st a = some xs) : ∃ vs, SqL K H a vs ∧ RVs K H xs vs := by
  unfold rdL at h
  split at h
  · rename_i ys e
    cases h
    obtain ⟨vs, h1, h2⟩ := r.ob a _ e
    exact ⟨vs, SqL.of h1, h2⟩
  · cases h
  · obtain ⟨vs, h1, h2⟩ := r.ct a xs h
    exact ⟨vs, h1.sq, h2⟩
theorem Rel.lst (r : Rel K C st H) {a : Addr} {xs : List D} (h : st a = some (.lst xs)) : ∃ vs, H a = some (.lst vs) ∧ RVs K H xs vs := r.ob a _ h
/-- items of a tuple or list -/
theorem Rel.items (r : Rel K C st H) {d : D} {xs : List D} {v : V} (h : items C st d = some xs) (hv : RV K H d v) : ∃ a vs, v = .ref a ∧ (SqL K H a vs ∨ SqT K H a vs) ∧ RVs K H xs vs := by
  cases d with
  | tup ys =>
    have e : ys = xs := by simpa [MP.items] using h
    subst e
    obtain ⟨a, vs, h1, h2, h3⟩ := rv_tupS hv
    exact ⟨a, vs, h1, .inr h2, h3⟩
  | ref a =>
    obtain ⟨vs, h1, h2⟩ := r.rd (show rdL C st a = some xs from h)
    exact ⟨a, vs, rv_ref.mp hv, .inl h1, h2⟩
  | _ => simp [MP.items] at h
end

/-! ### what is wanted, in the hand layer's words -/
def PQ (K : PySem.W.Frag) (C : KstT Tb) (st : Sto) (H : Hp) (Q : VK) : D → Sto → Prop := fun d st' => ∀ H' v, Rel K C st' H' → Keep st H st' H' → RV K H' d v → Q v H'
section
variable {K : PySem.W.Frag} {C : KstT Tb} {st : Sto} {H : Hp} {Q : VK}
/-- where the heap stands as it is -/
theorem PQ.here {d : D} {v : V} (h : PQ K C st H Q d st) (r : Rel K C st H) (hv : RV K H d v) : Q v H := h H v r Keep.refl hv
theorem PQ.newL {xs : List D} {vs : List V} (h : MP.newL xs st (PQ K C st H Q)) (r : Rel K C st H) (hv : RVs K H xs vs) : ∀ p, H p = none → Q (.ref p) (upd H p (.lst vs)) := fun p hp =>
  h p (r.free hp) _ _ (r.newL hp hv) (Keep.new hp) (rv_ref.mpr rfl)
theorem PQ.newT {xs : List D} {vs : List V} (h : PQ K C st H Q (.tup xs) st) (r : Rel K C st H) (hv : RVs K H xs vs) : ∀ p, H p = none → Q (.ref p) (upd H p (.tup vs)) := fun p hp =>
  h _ _ (r.newT hp) (Keep.newT hp) (rv_tupH.mpr ⟨p, vs, rfl, upd_same, RVs.keep r (Keep.newT hp) xs vs hv⟩)
end
/-- an operation on two values -/
def lift2 (K : PySem.W.Frag) (k : KstT Tb → D → D → Sto → (D → Sto → Prop) → Prop) : R2 := fun x y H Q => ∃ (C : KstT Tb) (st : Sto) (dx dy : D), Rel K C st H ∧ RV K H dx x ∧ RV K H dy y ∧ k C dx dy st (PQ K C st H Q)
end MP

set_option Elab.async false
set_option linter.all false
set_option maxRecDepth 100000
set_option maxHeartbeats 4000000
/-! MpTm: tuple * int, where the number is at most 1. -/
namespace MP
open PySem PySem.Spec PyProof.Rows L2
theorem tuple_mul1 (l : Addr) (items : Array Value) (n : Nat) (dd : Option Addr) (sl : Array (Option Value)) (u : Tok) :
    Meets (Builtin.«tuple.__mul__» ⟨[.ref l, .int 1 u], []⟩) (fun _ R s => s.heap.get? l = some { cls := .type "tuple", dict := dd, data := .seq items n, slots := sl } ∧
      R (.ok (.ret (Value.ref l))) s) :=
  .of_wp fun prog w A R s h => by
    obtain ⟨hp, g, d, tk, os⟩ := s
    obtain ⟨hl, h⟩ := h
    have f1 := AutoSeq1.idx_int
    wp_walk using wpAny_loadPart' hl
    exact ⟨_, rfl, h⟩
theorem tuple_mul0 (l : Addr) (items : Array Value) (n : Nat) (dd : Option Addr) (sl : Array (Option Value)) (x : Int) (u : Tok) (c0 : (decide (x < -(2 ^ 63)) || decide (x ≥ 2 ^ 63)) = false) (c1 : (items.isEmpty || x == 1) = false) (c2 : (decide (x ≤ 0) || items.isEmpty) = true) :
    Meets (Builtin.«tuple.__mul__» ⟨[.ref l, .int x u], []⟩) (fun _ R s => s.heap.get? l = some { cls := .type "tuple", dict := dd, data := .seq items n, slots := sl } ∧
      R (.ok (.ret (Value.ref s.heap.objs.size))) { s with heap := s.heap.push { cls := Value.type "tuple", data := Data.seq #[] }, toks := s.toks }) :=
  .of_wp fun prog w A R s h => by
    obtain ⟨hp, g, d, tk, os⟩ := s
    obtain ⟨hl, h⟩ := h
    have f1 := AutoSeq1.idx_int
    wp_walk using wpAny_loadPart' hl
    repeat (first
      | (refine wpAny_ite_false (decide_eq_false (by rw [c0]; exact Bool.false_ne_true)) ?_; wp_walk using wpAny_loadPart' hl)
      | (refine wpAny_ite_false (decide_eq_false (by rw [c1]; exact Bool.false_ne_true)) ?_; wp_walk using wpAny_loadPart' hl)
      | (refine wpAny_ite_true (decide_eq_true (by rw [c2])) ?_; wp_walk using wpAny_loadPart' hl))
    exact ⟨_, rfl, h⟩
section
variable {X : Cx}
theorem op_repTm : OpR X (binaryOp .Mult) (fun x y H Q => ∃ l k xs, x = .ref l ∧ y = .int k ∧ SqT X.K H l xs ∧ xs ≠ [] ∧ -1000 ≤ k ∧ ((k = 1 ∧ Q (.ref l) H) ∨ (k ≤ 0 ∧ ∀ p, H p = none → Q (.ref p) (upd H p (.tup []))))) := by
  intro pins s σ H x y v u Q I rx ry h
  obtain ⟨l, k, xs, rfl, rfl, hT, hne, h1, q⟩ := h
  cases rx
  obtain ⟨t, rfl⟩ := ry
  obtain ⟨its, r, ⟨⟨cls, dd, data, sl⟩, ho, hc, n, hd⟩, hs⟩ := I.tuple hT
  simp only at hc hd
  subst hc hd
  have hle : its.length = xs.length := r.length.symm
  have hn : its ≠ [] := fun e => hne (by
    rw [e] at hle
    exact List.eq_nil_of_length_eq_zero hle.symm)
  have hi : its.toArray.isEmpty = false := by
    cases its with
    | nil => exact absurd rfl hn
    | cons a b => rfl
  rcases q with ⟨rfl, q⟩ | ⟨h2, q⟩
  · refine wpAny_binaryOp_repeat_ref (T := "tuple") (U := "int") (by decide) ⟨_, ho, rfl⟩ (fun s' => typeIs_int s' 1 t) noFill_tuple_mul F.fills_int_mul F.slot_int_rmul repeat_tuple F.slot_int_index.lookup
      (call_meets F.slot_int_rmul (typeIs_int s 1 t) F.entry_int_rmul (F.args_int_rmul_2 _ _) (int_rmul_tuple 1 t l its.toArray n dd sl)
        ⟨ho, rfl, ⟨_, ho, rfl⟩, call_meets F.slot_tuple_mul ⟨_, ho, rfl⟩ F.entry_tuple_mul (F.args_tuple_mul_2 _ _) (tuple_mul1 l its.toArray n dd sl t) ⟨ho, ?_⟩⟩)
    exact ⟨.ref l, H, I, rfl, q⟩
  · have c0 : (decide (k < -(2 ^ 63)) || decide (k ≥ 2 ^ 63)) = false := by
      rw [decide_eq_false (by omega), decide_eq_false (by omega)] <;> rfl
    have c1 : (its.toArray.isEmpty || k == 1) = false := by
      rw [hi, Bool.false_or]
      exact beq_eq_false_iff_ne.mpr (by omega)
    have c2 : (decide (k ≤ 0) || its.toArray.isEmpty) = true := by
      rw [decide_eq_true h2] <;> rfl
    refine wpAny_binaryOp_repeat_ref (T := "tuple") (U := "int") (by decide) ⟨_, ho, rfl⟩ (fun s' => typeIs_int s' k t) noFill_tuple_mul F.fills_int_mul F.slot_int_rmul repeat_tuple F.slot_int_index.lookup
      (call_meets F.slot_int_rmul (typeIs_int s k t) F.entry_int_rmul (F.args_int_rmul_2 _ _) (int_rmul_tuple k t l its.toArray n dd sl)
        ⟨ho, rfl, ⟨_, ho, rfl⟩, call_meets F.slot_tuple_mul ⟨_, ho, rfl⟩ F.entry_tuple_mul (F.args_tuple_mul_2 _ _) (tuple_mul0 l its.toArray n dd sl k t c0 c1 c2) ⟨ho, ?_⟩⟩)
    refine ⟨.ref s.heap.objs.size, _, I.laid (t' := s.toks) (o := .tup []) (fun b ob q => Heap.get?_push_of_some _ q) (Nat.le_refl _) ?_, rfl, q _ (I.hok.fresh (Nat.le_refl _))⟩
    exact ⟨Nat.zero_le _, [], .nil, IsTup.new _ _⟩
end
end MP

set_option Elab.async false
set_option linter.all false
set_option maxRecDepth 100000
set_option maxHeartbeats 4000000
/-! MpD: each operation of the small language is what the model does. -/
namespace MP
open PySem PySem.Spec PyProof.Rows L2
variable {Tb : TabL}

section
variable {X : Cx} {K : PySem.W.Frag} {C : KstT Tb} {st : Sto} {H : Hp} {Q : VK}
theorem lexLt_eq : ∀ xs ys : List Int, lexLt xs ys = HT.lexLt xs ys
  | [], [] => rfl
  | [], _ :: _ => rfl
  | _ :: _, [] => rfl
  | x :: xs, y :: ys => by
    unfold lexLt HT.lexLt
    rw [lexLt_eq xs ys]
theorem opr_bin {op : Operator} : OpR X (binaryOp op) (lift2 X.K fun (_ : KstT Tb) => binK op) := by
  intro pins s σ H x y v u Q I rx ry h
  obtain ⟨C, st, dx, dy, rel, hx, hy, h⟩ := h
  unfold binK at h
  split at h
  · exact op_add pins s σ H _ _ v u Q I rx ry ⟨_, _, rv_int.mp hx, rv_int.mp hy, h.here rel (rv_int.mpr rfl)⟩
  · obtain ⟨hz, h⟩ := h
    obtain ⟨a, vs, rfl, ha0, hva⟩ := rv_tupH.mp hx
    obtain ⟨b, ws, rfl, hb0, hvb⟩ := rv_tupH.mp hy
    have ha : SqT X.K H a vs := SqT.of ha0
    have hb : SqT X.K H b ws := SqT.of hb0
    refine op_catA pins s σ H _ _ v u Q I rx ry ⟨a, b, vs, ws, rfl, rfl, ha, hb, by rw [hva.length, hvb.length]; exact hz, fun e => ?_, fun _ e => ?_, fun _ _ => h.newT rel (hva.append hvb)⟩
    · subst e
      refine h.here rel (rv_tupH.mpr ⟨b, ws, rfl, hb0, ?_⟩)
      have := hva.append hvb
      rwa [List.nil_append] at this
    · subst e
      refine h.here rel (rv_tupH.mpr ⟨a, vs, rfl, ha0, ?_⟩)
      have := hva.append hvb
      rwa [List.append_nil] at this
  · split at h
    · rename_i xs ys ea eb
      obtain ⟨hz, h⟩ := h
      obtain ⟨vs, ha, hva⟩ := rel.lst ea
      obtain ⟨ws, hb, hvb⟩ := rel.lst eb
      exact op_cat pins s σ H _ _ v u Q I rx ry ⟨_, _, vs, ws, rv_ref.mp hx, rv_ref.mp hy, ha, hb, by rw [hva.length, hvb.length]; exact hz, PQ.newL h rel (hva.append hvb)⟩
    · exact h.elim
  · obtain ⟨hz, h⟩ := h
    exact op_add_str pins s σ H _ _ v u Q I rx ry ⟨_, _, rv_str.mp hx, rv_str.mp hy, hz, h.here rel (rv_str.mpr rfl)⟩
  · exact op_sub pins s σ H _ _ v u Q I rx ry ⟨_, _, rv_int.mp hx, rv_int.mp hy, h.here rel (rv_int.mpr rfl)⟩
  · exact op_mul pins s σ H _ _ v u Q I rx ry ⟨_, _, rv_int.mp hx, rv_int.mp hy, h.1, h.2.here rel (rv_int.mpr rfl)⟩
  · split at h
    · rename_i xs ea
      obtain ⟨⟨h1, h2, h3⟩, h⟩ := h
      obtain ⟨vs, ha, hva⟩ := rel.lst ea
      exact op_rep pins s σ H _ _ v u Q I rx ry ⟨_, _, vs, rv_ref.mp hx, rv_int.mp hy, ha, h1, h2, by rw [hva.length]; exact h3, PQ.newL h rel (hva.rep _)⟩
    · exact h.elim
  · rename_i xs k
    obtain ⟨⟨h1, h2, h3, h4⟩, h⟩ := h
    obtain ⟨a, vs, rfl, ha, hva⟩ := rv_tupS hx
    have hne : vs ≠ [] := fun e => h1 (by
      subst e
      exact List.eq_nil_of_length_eq_zero hva.length.symm)
    by_cases hk : 2 ≤ k
    · exact op_repT pins s σ H _ _ v u Q I rx ry ⟨a, _, vs, rfl, rv_int.mp hy, ha, hne, hk, h3, by rw [hva.length]; exact h4, h.newT rel (hva.rep _)⟩
    · refine op_repTm pins s σ H _ _ v u Q I rx ry ⟨a, k, vs, rfl, rv_int.mp hy, ha, hne, h2, ?_⟩
      by_cases h1' : k = 1
      · subst h1'
        refine .inl ⟨rfl, ?_⟩
        have e1 : (List.replicate (Int.toNat 1) xs).flatten = xs := by simp
        rw [e1] at h
        exact h.here rel hx
      · have h0 : k ≤ 0 := by omega
        refine .inr ⟨h0, ?_⟩
        have e1 : (List.replicate k.toNat xs).flatten = [] := by
          rw [show k.toNat = 0 by omega] <;> rfl
        rw [e1] at h
        exact h.newT rel RVs.nil
  · exact op_fdiv pins s σ H _ _ v u Q I rx ry ⟨_, _, rv_int.mp hx, rv_int.mp hy, h.1, h.2.here rel (rv_int.mpr rfl)⟩
  · exact op_mod pins s σ H _ _ v u Q I rx ry ⟨_, _, rv_int.mp hx, rv_int.mp hy, h.1, h.2.here rel (rv_int.mpr rfl)⟩
  · exact op_pow pins s σ H _ _ v u Q I rx ry ⟨_, _, rv_int.mp hx, rv_int.mp hy, h.1, h.2.here rel (rv_int.mpr rfl)⟩
  · exact op_shl pins s σ H _ _ v u Q I rx ry ⟨_, _, rv_int.mp hx, rv_int.mp hy, h.1, h.2.here rel (rv_int.mpr rfl)⟩
  · exact op_shr pins s σ H _ _ v u Q I rx ry ⟨_, _, rv_int.mp hx, rv_int.mp hy, h.1, h.2.here rel (rv_int.mpr rfl)⟩
  · exact op_and pins s σ H _ _ v u Q I rx ry ⟨_, _, rv_int.mp hx, rv_int.mp hy, h.here rel (rv_int.mpr rfl)⟩
  · exact op_or pins s σ H _ _ v u Q I rx ry ⟨_, _, rv_int.mp hx, rv_int.mp hy, h.here rel (rv_int.mpr rfl)⟩
  · exact op_xor pins s σ H _ _ v u Q I rx ry ⟨_, _, rv_int.mp hx, rv_int.mp hy, h.here rel (rv_int.mpr rfl)⟩
  · exact h.elim

/-! ### equality -/
theorem flat_rv : ∀ {d : D} {v : V}, RV K H d v → flatD d = true → flatV v = true := fun {d v} h f => by
  cases d with
  | non => rw [rv_non.mp h] <;> rfl
  | bl b => rw [rv_bl.mp h] <;> rfl
  | int b => rw [rv_int.mp h] <;> rfl
  | str b => rw [rv_str.mp h] <;> rfl
  | _ => exact absurd f Bool.false_ne_true
theorem flat_all : ∀ {ds : List D} {vs : List V}, RVs K H ds vs → ds.all flatD = true → vs.all flatV = true
  | [], _, h, _ => by rw [h.nil_inv] <;> rfl
  | d :: ds, _, h, f => by
    obtain ⟨v, ws, rfl, h1, h2⟩ := h.cons_inv
    rw [List.all_cons, Bool.and_eq_true] at f ⊢
    exact ⟨flat_rv h1 f.1, flat_all h2 f.2⟩
theorem eqV_rv {d e : D} {v u : V} (h : RV K H d v) (k : RV K H e u) (fd : flatD d = true) (fe : flatD e = true) : eqV v u = eqD d e := by
  cases d with
  | non => rw [rv_non.mp h]; cases e <;> first | (rw [rv_non.mp k] <;> rfl) | (rw [rv_bl.mp k] <;> rfl) | (rw [rv_int.mp k] <;> rfl) | (rw [rv_str.mp k] <;> rfl) | exact absurd fe Bool.false_ne_true
  | bl b => rw [rv_bl.mp h]; cases e <;> first | (rw [rv_non.mp k] <;> rfl) | (rw [rv_bl.mp k] <;> rfl) | (rw [rv_int.mp k] <;> rfl) | (rw [rv_str.mp k] <;> rfl) | exact absurd fe Bool.false_ne_true
  | int b => rw [rv_int.mp h]; cases e <;> first | (rw [rv_non.mp k] <;> rfl) | (rw [rv_bl.mp k] <;> rfl) | (rw [rv_int.mp k] <;> rfl) | (rw [rv_str.mp k] <;> rfl) | exact absurd fe Bool.false_ne_true
  | str b => rw [rv_str.mp h]; cases e <;> first | (rw [rv_non.mp k] <;> rfl) | (rw [rv_bl.mp k] <;> rfl) | (rw [rv_int.mp k] <;> rfl) | (rw [rv_str.mp k] <;> rfl) | exact absurd fe Bool.false_ne_true
  | _ => exact absurd fd Bool.false_ne_true
theorem any_rv {e : D} {u : V} (k : RV K H e u) (fe : flatD e = true) : ∀ {ds : List D} {vs : List V}, RVs K H ds vs → ds.all flatD = true → inV u vs = ds.any fun z => eqD z e
  | [], _, h, _ => by rw [h.nil_inv] <;> rfl
  | d :: ds, _, h, f => by
    obtain ⟨v, ws, rfl, h1, h2⟩ := h.cons_inv
    rw [List.all_cons, Bool.and_eq_true] at f
    have ih := any_rv k fe h2 f.2
    unfold inV at ih ⊢
    rw [List.any_cons, List.any_cons, ih, eqV_rv h1 k f.1 fe]
mutual
theorem dp_data (r : Rel K C st H) : ∀ (n : Nat) (d : D) (p : PyData) (v : V), dataD C n st d = some p → RV K H d v → Dp K H v p
  | 0, .non, p, v, e, h => by unfold dataD at e; cases e; rw [rv_non.mp h]; exact .non
  | 0, .bl b, p, v, e, h => by unfold dataD at e; cases e; rw [rv_bl.mp h]; exact .bl b
  | 0, .int b, p, v, e, h => by unfold dataD at e; cases e; rw [rv_int.mp h]; exact .int b
  | 0, .str b, p, v, e, h => by unfold dataD at e; cases e; rw [rv_str.mp h]; exact .str b
  | 0, .tup _, p, v, e, h => by simp [dataD] at e
  | 0, .ref a, p, v, e, h => by simp [dataD] at e
  | n + 1, .non, p, v, e, h => by unfold dataD at e; cases e; rw [rv_non.mp h]; exact .non
  | n + 1, .bl b, p, v, e, h => by unfold dataD at e; cases e; rw [rv_bl.mp h]; exact .bl b
  | n + 1, .int b, p, v, e, h => by unfold dataD at e; cases e; rw [rv_int.mp h]; exact .int b
  | n + 1, .str b, p, v, e, h => by unfold dataD at e; cases e; rw [rv_str.mp h]; exact .str b
  | n + 1, .tup xs, p, v, e, h => by
    simp only [dataD] at e
    split at e
    · rename_i ds he
      cases e
      obtain ⟨a, vs, rfl, ha, hv⟩ := rv_tupS h
      exact .tup ha (dp_all r n xs ds vs he hv)
    · cases e
  | n + 1, .ref a, p, v, e, h => by
    simp only [dataD] at e
    split at e
    · rename_i xs hx
      split at e
      · rename_i ds he
        cases e
        obtain ⟨vs, ha, hv⟩ := r.rd hx
        rw [rv_ref.mp h]
        exact .lst ha (dp_all r n xs ds vs he hv)
      · cases e
    · cases e
theorem dp_all (r : Rel K C st H) : ∀ (n : Nat) (ds : List D) (ps : List PyData) (vs : List V), dataL (dataD C n st) ds = some ps → RVs K H ds vs → DpAll K H vs ps
  | n, [], ps, vs, e, h => by
    have e' : [] = ps := by simpa [dataL] using e
    rw [h.nil_inv, ← e']
    exact .nil
  | n, d :: ds, ps, vs, e, h => by
    obtain ⟨v, ws, rfl, h1, h2⟩ := h.cons_inv
    unfold dataL at e
    split at e
    · rename_i q qs e1 e2
      cases e
      exact .cons (dp_data r n d q v e1 h1) (dp_all r n ds qs ws e2 h2)
    · cases e
end
theorem scal_rv {d e : D} {v u : V} (h : RV K H d v) (k : RV K H e u) (f : (flatD d && flatD e) = true) (n1 : ∀ b i, d = .bl b → e = .int i → False) (n2 : ∀ b i, d = .int i → e = .bl b → False) :
    scal v u = true ∧ decide (v = u) = eqD d e := by
  rw [Bool.and_eq_true] at f
  have z := eqV_rv h k f.1 f.2
  cases d with
  | non =>
    rw [rv_non.mp h] at z ⊢
    cases e with
    | non => rw [rv_non.mp k] at z ⊢; exact ⟨rfl, rfl⟩
    | bl b => rw [rv_bl.mp k] at z ⊢; exact ⟨rfl, by rw [← z] <;> simp [eqV]⟩
    | int b => rw [rv_int.mp k] at z ⊢; exact ⟨rfl, by rw [← z] <;> simp [eqV]⟩
    | str b => rw [rv_str.mp k] at z ⊢; exact ⟨rfl, by rw [← z] <;> simp [eqV]⟩
    | _ => exact absurd f.2 Bool.false_ne_true
  | bl a =>
    rw [rv_bl.mp h] at z ⊢
    cases e with
    | non => rw [rv_non.mp k] at z ⊢; exact ⟨rfl, by rw [← z] <;> simp [eqV]⟩
    | bl b => rw [rv_bl.mp k] at z ⊢; exact ⟨rfl, by rw [← z, dec_bl] <;> simp [eqV]⟩
    | int b => exact (n1 a b rfl rfl).elim
    | str b => rw [rv_str.mp k] at z ⊢; exact ⟨rfl, by rw [← z] <;> simp [eqV]⟩
    | _ => exact absurd f.2 Bool.false_ne_true
  | int a =>
    rw [rv_int.mp h] at z ⊢
    cases e with
    | non => rw [rv_non.mp k] at z ⊢; exact ⟨rfl, by rw [← z] <;> simp [eqV]⟩
    | bl b => exact (n2 b a rfl rfl).elim
    | int b => rw [rv_int.mp k] at z ⊢; exact ⟨rfl, by rw [← z, dec_int] <;> simp [eqV]⟩
    | str b => rw [rv_str.mp k] at z ⊢; exact ⟨rfl, by rw [← z] <;> simp [eqV]⟩
    | _ => exact absurd f.2 Bool.false_ne_true
  | str a =>
    rw [rv_str.mp h] at z ⊢
    cases e with
    | non => rw [rv_non.mp k] at z ⊢; exact ⟨rfl, by rw [← z] <;> simp [eqV]⟩
    | bl b => rw [rv_bl.mp k] at z ⊢; exact ⟨rfl, by rw [← z] <;> simp [eqV]⟩
    | int b => rw [rv_int.mp k] at z ⊢; exact ⟨rfl, by rw [← z] <;> simp [eqV]⟩
    | str b => rw [rv_str.mp k] at z ⊢; exact ⟨rfl, by rw [← z, dec_str] <;> simp [eqV]⟩
    | _ => exact absurd f.2 Bool.false_ne_true
  | _ => exact absurd f.1 Bool.false_ne_true
theorem opr_eq (neg : Bool) (hu : X.A.units + 64 < cLine) : OpR X (compareOp (if neg then .NotEq else .Eq)) (lift2 X.K fun (C : KstT Tb) => eqK C neg) := by
  intro pins s σ H x y v u Q I rx ry h
  obtain ⟨C, st, dx, dy, rel, hx, hy, h⟩ := h
  unfold eqK at h
  split at h
  · rename_i hf
    have hh : PQ X.K C st H Q (.bl (if neg then !eqD dx dy else eqD dx dy)) st ∧ (∀ b i, dx = .bl b → dy = .int i → False) ∧ (∀ b i, dx = .int i → dy = .bl b → False) := by
      split at h
      · exact h.elim
      · exact h.elim
      · rename_i n1 n2
        exact ⟨h, fun b i e1 e2 => n1 b i e1 e2, fun b i e1 e2 => n2 i b e1 e2⟩
    obtain ⟨h, n1, n2⟩ := hh
    obtain ⟨sc, de⟩ := scal_rv hx hy hf n1 n2
    have q := h.here rel (rv_bl.mpr rfl)
    cases neg with
    | false => exact op_eq pins s σ H _ _ v u Q I rx ry ⟨sc, by rw [de]; exact q⟩
    | true => exact op_ne pins s σ H _ _ v u Q I rx ry ⟨sc, by rw [de]; exact q⟩
  · obtain ⟨d, e, h1, h2, h3, h4, h5⟩ := h
    have p1 := dp_data rel 16 dx d x h1 hx
    have p2 := dp_data rel 16 dy e y h2 hy
    have q := h5.here rel (rv_bl.mpr rfl)
    cases neg with
    | false => exact op_eqD hu pins s σ H _ _ v u Q I rx ry ⟨d, e, p1, p2, h3, h4, q⟩
    | true => exact op_neD hu pins s σ H _ _ v u Q I rx ry ⟨d, e, p1, p2, h3, h4, q⟩
theorem non_rv {d : D} {v : V} (h : RV K H d v) : decide (v = .non) = isNon d := by
  cases d with
  | non => rw [rv_non.mp h] <;> rfl
  | bl b => rw [rv_bl.mp h] <;> simp [isNon]
  | int b => rw [rv_int.mp h] <;> simp [isNon]
  | str b => rw [rv_str.mp h] <;> simp [isNon]
  | tup b => obtain ⟨a, vs, rfl, _, _⟩ := rv_tupS h; simp [isNon]
  | ref b => rw [rv_ref.mp h] <;> simp [isNon]
theorem opr_din {neg : Bool} {x y : V} {v u : Value} {dx dy : D} {pins : List (Addr × Obj)} {σ : L2.St} {s : Shared} (hu : X.A.units + 1 < cLine) (I : L2.Inv X pins σ H s) (rx : RelV x v) (ry : RelV y u) (rel : Rel X.K C st H) (hx : RV X.K H dx x) (hy : RV X.K H dy y) (h : dinK neg dx dy st (PQ X.K C st H Q)) :
    wpAny (model X.prog X.w) X.A (compareOp (if neg then .NotIn else .In) v u) (EP X pins σ Q) X.xe s := by
  unfold dinK at h
  split at h
  · rename_i kvs k e1 e2
    obtain ⟨a, vs, rfl, rfl, hr, hk⟩ := rel.dct e1 hy
    obtain rfl : u = Value.ref a := ry
    have hkv := key_rv e2 hx
    have g : DGet H a x (valV vs k) := .inl ⟨vs, k, hr, hkv, rfl⟩
    have es : (valV vs k).isSome = (lookD kvs k).isSome := by
      obtain ⟨l1, l2⟩ := RKV.look k hk
      cases e : lookD kvs k with
      | none => rw [l2 e] <;> rfl
      | some d =>
        obtain ⟨w, hw, _⟩ := l1 d e
        rw [hw] <;> rfl
    have q := h.here rel (rv_bl.mpr rfl)
    rw [← es] at q
    cases neg with
    | false => exact d_in hu I g rx fun s' I' => ⟨.bl _, H, I', rfl, q⟩
    | true => exact d_notIn hu I g rx fun s' I' => ⟨.bl _, H, I', rfl, q⟩
  · exact h.elim
theorem opr_cmp {op : CmpOp} (hu : X.A.units + 64 < cLine) : OpR X (compareOp op) (lift2 X.K fun (C : KstT Tb) => cmpK C op) := by
  intro pins s σ H x y v u Q I rx ry h
  obtain ⟨C, st, dx, dy, rel, hx, hy, h⟩ := h
  unfold cmpK at h
  split at h
  · exact opr_eq false hu pins s σ H x y v u Q I rx ry ⟨C, _, _, _, rel, hx, hy, h⟩
  · exact opr_eq true hu pins s σ H x y v u Q I rx ry ⟨C, _, _, _, rel, hx, hy, h⟩
  · exact op_lt pins s σ H _ _ v u Q I rx ry ⟨_, _, rv_int.mp hx, rv_int.mp hy, h.here rel (rv_bl.mpr rfl)⟩
  · exact op_le pins s σ H _ _ v u Q I rx ry ⟨_, _, rv_int.mp hx, rv_int.mp hy, h.here rel (rv_bl.mpr rfl)⟩
  · exact op_gt pins s σ H _ _ v u Q I rx ry ⟨_, _, rv_int.mp hx, rv_int.mp hy, h.here rel (rv_bl.mpr rfl)⟩
  · exact op_ge pins s σ H _ _ v u Q I rx ry ⟨_, _, rv_int.mp hx, rv_int.mp hy, h.here rel (rv_bl.mpr rfl)⟩
  · obtain ⟨ns, ms, e1, e2, h⟩ := h
    obtain ⟨a, vs, rfl, ha, hva⟩ := rv_tupS hx
    obtain ⟨b, ws, rfl, hb, hvb⟩ := rv_tupS hy
    rw [RVs.ints e1 hva] at ha
    rw [RVs.ints e2 hvb] at hb
    refine op_ltT (by omega) pins s σ H _ _ v u Q I rx ry ⟨a, b, ns, ms, rfl, rfl, ha, hb, ?_⟩
    rw [← lexLt_eq]
    exact h.here rel (rv_bl.mpr rfl)
  · refine op_isN pins s σ H _ _ v u Q I rx ry ⟨rv_non.mp hy, ?_⟩
    rw [non_rv hx]
    exact h.here rel (rv_bl.mpr rfl)
  · refine op_notN pins s σ H _ _ v u Q I rx ry ⟨rv_non.mp hy, ?_⟩
    rw [non_rv hx]
    exact h.here rel (rv_bl.mpr rfl)
  · split at h
    · rename_i xs e
      obtain ⟨f1, f2, h⟩ := h
      obtain ⟨a, vs, rfl, ha, hv⟩ := rel.items e hy
      refine op_in_seq pins s σ H _ _ v u Q I rx ry ⟨a, vs, rfl, ha, flat_rv hx f1, flat_all hv f2, ?_⟩
      have q := h.here rel (rv_bl.mpr rfl)
      rw [if_neg Bool.false_ne_true, any_rv hx f1 hv f2]
      exact q
    · exact opr_din (neg := false) (by omega) I rx ry rel hx hy h
  · split at h
    · rename_i xs e
      obtain ⟨f1, f2, h⟩ := h
      obtain ⟨a, vs, rfl, ha, hv⟩ := rel.items e hy
      refine op_notIn_seq pins s σ H _ _ v u Q I rx ry ⟨a, vs, rfl, ha, flat_rv hx f1, flat_all hv f2, ?_⟩
      have q := h.here rel (rv_bl.mpr rfl)
      rw [if_pos rfl, any_rv hx f1 hv f2]
      exact q
    · exact opr_din (neg := true) (by omega) I rx ry rel hx hy h
  · exact h.elim

/-! ### items, slices -/
theorem atI_rv {xs : List D} {vs : List V} {i : Int} {d : D} (h : RVs K H xs vs) (e : atI xs i = some d) : ∃ v, atI vs i = some v ∧ RV K H d v := by
  unfold atI at e ⊢
  rw [h.length]
  cases q : ixN xs.length i with
  | none => rw [q] at e; cases e
  | some j =>
    rw [q] at e
    exact h.get e
theorem ix_fin {prog : Program} {w : World} {A : Around} {E : Value → Shared → Prop} {s : Shared} {value slice : Expr} {o i : Value} {T id : String} {Q : Value → Shared → Prop} (hT : s.TypeIs o T)
    (hl : typeLookup (.type T) "__getitem__" = pure (some (.builtin id))) (h : wpAny (model prog w) A (getItem o i) Q E s) (hs : subscripted slice false o i = operate [o, i] (getItem o i)) : wpAny (model prog w) A (subscriptTail value slice o i) Q E s := by
  have key : wpAny (model prog w) A (subscripted slice false o i) (fun r s1 => wpAny (model prog w) A (letTemporaryGo value o r >>= fun _ => pure r) Q E s1) E s := by
    rw [hs]
    refine wpAny_operating (wpAny_mono h (fun r s1 q => ?_) fun _ _ x => x)
    exact wpAny_bind (wpAny_letTemporaryGo (wpAny_pure q))
  unfold subscriptTail
  refine wpAny_bind ?_
  rw [getitemInPython_of_ne hT.not_modules]
  refine wpAny_bind (wpAny_specialOf hT hl ?_)
  first
    | exact wpAny_pure (wpAny_bind key)
    | exact wpAny_bind (wpAny_pure (wpAny_bind key))
    | exact wpAny_bind key
theorem ixr_dct {value slice : Expr} {x y : V} {v u : Value} {dx dy : D} {pins : List (Addr × Obj)} {σ : L2.St} {s : Shared} (hu : X.A.units + 1 < cLine) (I : L2.Inv X pins σ H s) (rx : RelV x v) (ry : RelV y u) (hs : subscripted slice false v u = operate [v, u] (getItem v u))
    (rel : Rel X.K C st H) (hx : RV X.K H dx x) (hy : RV X.K H dy y) (h : dixK dx dy st (PQ X.K C st H Q)) : wpAny (model X.prog X.w) X.A (subscriptTail value slice v u) (EP X pins σ Q) X.xe s := by
  unfold dixK at h
  split at h
  · rename_i kvs k e1 e2
    split at h
    · rename_i d ed
      obtain ⟨a, vs, rfl, rfl, hr, hk⟩ := rel.dct e1 hx
      obtain rfl : v = Value.ref a := rx
      obtain ⟨w, hw, hv⟩ := (RKV.look k hk).1 d ed
      have g : DGet H a y (some w) := .inl ⟨vs, k, hr, key_rv e2 hy, hw.symm⟩
      have q := h.here rel hv
      refine ix_fin (dict_typeIs I g) PySem.F.slot_dict_getitem.lookup (d_getItem hu I g ry fun w' s' I' rw' => ⟨w, H, I', rw', q⟩) hs
    · exact h.elim
  · exact h.elim
theorem ixr (hu : X.A.units + 1 < cLine) : IxR X (lift2 X.K fun (C : KstT Tb) => ixK C) := by
  intro value slice pins s σ H x y v u Q I rx ry h hs
  obtain ⟨C, st, dx, dy, rel, hx, hy, h⟩ := h
  unfold ixK at h
  split at h
  · split at h
    · rename_i d e
      obtain ⟨a, vs, rfl, ha, hv⟩ := rv_tupS hx
      obtain ⟨w, e2, hw⟩ := atI_rv hv e
      exact ix_tup value slice pins s σ H _ _ v u Q I rx ry ⟨a, vs, _, w, rfl, rv_int.mp hy, ha, e2, h.here rel hw⟩ hs
    · exact h.elim
  · split at h
    · rename_i xs e0
      split at h
      · rename_i d e
        obtain ⟨vs, ha, hv⟩ := rel.rd e0
        obtain ⟨w, e2, hw⟩ := atI_rv hv e
        exact ix_list value slice pins s σ H _ _ v u Q I rx ry ⟨_, vs, _, w, rv_ref.mp hx, rv_int.mp hy, ha, e2, h.here rel hw⟩ hs
      · exact h.elim
    · exact ixr_dct hu I rx ry hs rel hx hy h
  · exact ixr_dct hu I rx ry hs rel hx hy h
theorem cut_rv {xs : List D} {vs : List V} {lo hi : Option Int} (h : RVs K H xs vs) : RVs K H (cutD xs lo hi) (cutV vs lo hi) := by
  unfold cutD cutV
  rw [h.length]
  exact (h.drop _).take _
def lift1 (K : PySem.W.Frag) (k : KstT Tb → D → Sto → (D → Sto → Prop) → Prop) : V → Hp → VK → Prop := fun x H Q => ∃ (C : KstT Tb) (st : Sto) (dx : D), Rel K C st H ∧ RV K H dx x ∧ k C dx st (PQ K C st H Q)
theorem slr : SlR X (fun x lo hi H Q => lift1 X.K (fun (C : KstT Tb) d st R => slcK C d lo hi st R) x H Q) := by
  intro pins s σ H x v vl vu lo hi sl Q I rx hs pl pu h
  obtain ⟨C, st, dx, rel, hx, h⟩ := h
  unfold slcK at h
  split at h
  · obtain ⟨a, vs, rfl, ha0, hv⟩ := rv_tupH.mp hx
    have ha : SqT X.K H a vs := SqT.of ha0
    refine sl_tupA pins s σ H _ v vl vu _ _ sl Q I rx hs pl pu ⟨a, vs, rfl, ha, fun hw => ?_, fun _ => h.newT rel (cut_rv hv)⟩
    refine h.here rel (rv_tupH.mpr ⟨a, vs, rfl, ha0, ?_⟩)
    refine Eq.mp (congrArg (RVs X.K H _) ?_) (cut_rv hv)
    unfold cutV
    rw [hw.1, hw.2, List.drop_zero, Nat.sub_zero, List.take_length]
  · split at h
    · rename_i xs e0
      obtain ⟨vs, ha, hv⟩ := rel.rd e0
      exact sl_list pins s σ H _ v vl vu _ _ sl Q I rx hs pl pu ⟨_, vs, rv_ref.mp hx, ha, PQ.newL h rel (cut_rv hv)⟩
    · exact h.elim
  · exact h.elim
/-! ### truth -/
theorem tru_rv (r : Rel K C st H) {d : D} {v : V} {b : Bool} (e : truD C st d = some b) (h : RV K H d v) : TruV K v H b := by
  unfold truD at e
  split at e
  · rw [rv_non.mp h]; cases e; rfl
  · rw [rv_bl.mp h]; cases e; rfl
  · rw [rv_int.mp h]; cases e; rfl
  · rw [rv_str.mp h]
    split at e
    · rename_i hz; cases e; exact ⟨hz, rfl⟩
    · cases e
  · obtain ⟨a, vs, rfl, ha, hv⟩ := rv_tupS h
    cases e
    exact .inr (.inl ⟨vs, ha, by rw [hv.isEmpty]⟩)
  · split at e
    · rename_i xs e0
      cases e
      obtain ⟨vs, ha, hv⟩ := r.rd e0
      rw [rv_ref.mp h]
      exact .inl ⟨vs, ha, by rw [hv.isEmpty]⟩
    · cases e
/-! ### isinstance -/
theorem isi_rv {d : D} {v : V} {T : String} {b : Bool} (e : isiD T d = some b) (h : RV K H d v) : ∃ t, TyX K H v t ∧ PySem.W.kitOne K t (.type T) = some b := by
  have k1 : kitB "NoneType" "int" = some false := by decide +kernel
  have k2 : kitB "NoneType" "str" = some false := by decide +kernel
  have k3 : kitB "NoneType" "bool" = some false := by decide +kernel
  have k4 : kitB "NoneType" "tuple" = some false := by decide +kernel
  have k5 : kitB "NoneType" "list" = some false := by decide +kernel
  have b1 : kitB "bool" "int" = some true := by decide +kernel
  have b2 : kitB "bool" "bool" = some true := by decide +kernel
  have b3 : kitB "bool" "str" = some false := by decide +kernel
  have b4 : kitB "bool" "tuple" = some false := by decide +kernel
  have b5 : kitB "bool" "list" = some false := by decide +kernel
  have i1 : kitB "int" "int" = some true := by decide +kernel
  have i2 : kitB "int" "bool" = some false := by decide +kernel
  have i3 : kitB "int" "str" = some false := by decide +kernel
  have i4 : kitB "int" "tuple" = some false := by decide +kernel
  have i5 : kitB "int" "list" = some false := by decide +kernel
  have s1 : kitB "str" "int" = some false := by decide +kernel
  have s2 : kitB "str" "bool" = some false := by decide +kernel
  have s3 : kitB "str" "str" = some true := by decide +kernel
  have s4 : kitB "str" "tuple" = some false := by decide +kernel
  have s5 : kitB "str" "list" = some false := by decide +kernel
  have t1 : kitB "tuple" "int" = some false := by decide +kernel
  have t2 : kitB "tuple" "bool" = some false := by decide +kernel
  have t3 : kitB "tuple" "str" = some false := by decide +kernel
  have t4 : kitB "tuple" "tuple" = some true := by decide +kernel
  have t5 : kitB "tuple" "list" = some false := by decide +kernel
  cases d with
  | non =>
    rw [rv_non.mp h]
    refine ⟨_, .base .non, ?_⟩
    simp only [isiD] at e
    split at e
    · rename_i hT
      cases e
      rcases hT with rfl | rfl | rfl | rfl | rfl
      · exact k1
      · exact k2
      · exact k3
      · exact k4
      · exact k5
    · cases e
  | bl x =>
    rw [rv_bl.mp h]
    refine ⟨_, .base (.bl x), ?_⟩
    simp only [isiD] at e
    split at e
    · rename_i hT
      cases e
      rcases hT with rfl | rfl
      · exact b1
      · exact b2
    · split at e
      · rename_i hT
        cases e
        rcases hT with rfl | rfl | rfl
        · exact b3
        · exact b4
        · exact b5
      · cases e
  | int x =>
    rw [rv_int.mp h]
    refine ⟨_, .base (.int x), ?_⟩
    simp only [isiD] at e
    split at e
    · rename_i hT
      cases e
      subst hT
      exact i1
    · split at e
      · rename_i hT
        cases e
        rcases hT with rfl | rfl | rfl | rfl
        · exact i2
        · exact i3
        · exact i4
        · exact i5
      · cases e
  | str x =>
    rw [rv_str.mp h]
    refine ⟨_, .base (.str x), ?_⟩
    simp only [isiD] at e
    split at e
    · rename_i hT
      cases e
      subst hT
      exact s3
    · split at e
      · rename_i hT
        cases e
        rcases hT with rfl | rfl | rfl | rfl
        · exact s1
        · exact s2
        · exact s4
        · exact s5
      · cases e
  | tup x =>
    obtain ⟨a, vs, rfl, ha, hv⟩ := rv_tupS h
    have ty : TyX K H (.ref a) (.type "tuple") := by
      rcases ha with (ha | ⟨o, ha⟩) | ⟨o, its, n, hk, hc, _⟩
      · exact .base (.tup ha)
      · exact .fTuple ha
      · exact .kTuple hk hc
    refine ⟨_, ty, ?_⟩
    simp only [isiD] at e
    split at e
    · rename_i hT
      cases e
      subst hT
      exact t4
    · split at e
      · rename_i hT
        cases e
        rcases hT with rfl | rfl | rfl | rfl
        · exact t1
        · exact t2
        · exact t3
        · exact t5
      · cases e
  | ref x => simp [isiD] at e
end
end MP

set_option Elab.async false
set_option linter.all false
set_option maxRecDepth 100000
set_option maxHeartbeats 4000000
/-! MpE: built-in functions and methods; what a loop walks. -/
namespace MP
open PySem PySem.Spec L2
variable {Tb : TabL}

def liftL (K : PySem.W.Frag) (k : KstT Tb → List D → Sto → (D → Sto → Prop) → Prop) : List V → Hp → VK → Prop := fun xs H Q => ∃ (C : KstT Tb) (st : Sto) (ds : List D), Rel K C st H ∧ RVs K H ds xs ∧ k C ds st (PQ K C st H Q)
section
variable {X : Cx} {K : PySem.W.Frag} {C : KstT Tb} {st : Sto} {H : Hp} {Q : VK}
theorem RVs.one {d : D} {vs : List V} (h : RVs K H [d] vs) : ∃ v, vs = [v] ∧ RV K H d v := by
  obtain ⟨v, ws, rfl, h1, h2⟩ := h.cons_inv
  rw [h2.nil_inv]
  exact ⟨v, rfl, h1⟩
theorem RVs.two {d e : D} {vs : List V} (h : RVs K H [d, e] vs) : ∃ v w, vs = [v, w] ∧ RV K H d v ∧ RV K H e w := by
  obtain ⟨v, ws, rfl, h1, h2⟩ := h.cons_inv
  obtain ⟨w, rfl, h3⟩ := h2.one
  exact ⟨v, w, rfl, h1, h3⟩
theorem bl_len : CallR X (.builtin "len") (liftL X.K fun (C : KstT Tb) => bltK C "len") := by
  intro pins s σ H xs us Q I r h
  obtain ⟨C, st, ds, rel, hv, h⟩ := h
  unfold bltK at h
  rw [if_pos rfl] at h
  split at h
  · split at h
    · rename_i d ys e
      obtain ⟨v, rfl, h1⟩ := hv.one
      obtain ⟨a, vs, rfl, ha, hvs⟩ := rel.items e h1
      refine call_len_seq pins s σ H _ us Q I r ⟨a, vs, rfl, ha, ?_⟩
      rw [hvs.length]
      exact h.here rel (rv_int.mpr rfl)
    · exact h.elim
  · exact h.elim
theorem bl_int : CallR X (.type "int") (liftL X.K fun (C : KstT Tb) => bltK C "int") := by
  intro pins s σ H xs us Q I r h
  obtain ⟨C, st, ds, rel, hv, h⟩ := h
  unfold bltK at h
  rw [if_neg (by decide), if_pos rfl] at h
  split at h
  · obtain ⟨v, rfl, h1⟩ := hv.one
    exact call_int1 pins s σ H _ us Q I r (.inl ⟨_, by rw [rv_int.mp h1], h.here rel (rv_int.mpr rfl)⟩)
  · obtain ⟨v, rfl, h1⟩ := hv.one
    exact call_int1 pins s σ H _ us Q I r (.inr ⟨_, by rw [rv_bl.mp h1], h.here rel (rv_int.mpr rfl)⟩)
  · exact h.elim
theorem bl_abs : CallR X (.builtin "abs") (liftL X.K fun (C : KstT Tb) => bltK C "abs") := by
  intro pins s σ H xs us Q I r h
  obtain ⟨C, st, ds, rel, hv, h⟩ := h
  unfold bltK at h
  rw [if_neg (by decide), if_neg (by decide), if_pos rfl] at h
  split at h
  · obtain ⟨v, rfl, h1⟩ := hv.one
    exact call_abs pins s σ H _ us Q I r ⟨_, by rw [rv_int.mp h1], h.here rel (rv_int.mpr rfl)⟩
  · exact h.elim
theorem RVs.three {d e f : D} {vs : List V} (h : RVs K H [d, e, f] vs) : ∃ v w u, vs = [v, w, u] ∧ RV K H d v ∧ RV K H e w ∧ RV K H f u := by
  obtain ⟨v, ws, rfl, h1, h2⟩ := h.cons_inv
  obtain ⟨w, u, rfl, h3, h4⟩ := h2.two
  exact ⟨v, w, u, rfl, h1, h3, h4⟩
theorem call_max3 (hc : X.calm = true) : CallR X (.builtin "max") (fun xs H Q => ∃ i j k, xs = [.int i, .int j, .int k] ∧ Q (.int (max (max i j) k)) H) := by
  intro pins s σ H xs us Q I r h
  obtain ⟨i, j, k, rfl, q⟩ := h
  obtain ⟨t1, t2, t3, rfl⟩ : ∃ t1 t2 t3, us = [.int i t1, .int j t2, .int k t3] := by
    cases r with
    | cons r1 r2 =>
      cases r2 with
      | cons r3 r4 =>
        cases r4 with
        | cons r5 r6 =>
          cases r6
          obtain ⟨t1, rfl⟩ := r1
          obtain ⟨t2, rfl⟩ := r3
          obtain ⟨t3, rfl⟩ := r5
          exact ⟨_, _, _, rfl⟩
  refine max_three_ints (I.ok.hd hc) fun h' tk kp => ⟨_, H, I.kept kp, ?_, q⟩
  by_cases h1 : j > i
  · rw [if_pos h1]
    by_cases h2 : k > j
    · rw [if_pos h2]; exact ⟨t3, by rw [show max (max i j) k = k by omega]⟩
    · rw [if_neg h2]; exact ⟨t2, by rw [show max (max i j) k = j by omega]⟩
  · rw [if_neg h1]
    by_cases h2 : k > i
    · rw [if_pos h2]; exact ⟨t3, by rw [show max (max i j) k = k by omega]⟩
    · rw [if_neg h2]; exact ⟨t1, by rw [show max (max i j) k = i by omega]⟩
theorem bl_max (hc : X.calm = true) : CallR X (.builtin "max") (liftL X.K fun (C : KstT Tb) => bltK C "max") := by
  intro pins s σ H xs us Q I r h
  obtain ⟨C, st, ds, rel, hv, h⟩ := h
  unfold bltK at h
  rw [if_neg (by decide), if_neg (by decide), if_neg (by decide), if_pos rfl] at h
  split at h
  · obtain ⟨v, w, rfl, h1, h2⟩ := hv.two
    exact call_max2 hc pins s σ H _ us Q I r ⟨_, _, by rw [rv_int.mp h1, rv_int.mp h2], h.here rel (rv_int.mpr rfl)⟩
  · obtain ⟨v, w, u, rfl, h1, h2, h3⟩ := hv.three
    exact call_max3 hc pins s σ H _ us Q I r ⟨_, _, _, by rw [rv_int.mp h1, rv_int.mp h2, rv_int.mp h3], h.here rel (rv_int.mpr rfl)⟩
  · split at h
    · rename_i ys e
      obtain ⟨v, rfl, h1⟩ := hv.one
      obtain ⟨ns, e1, e2, h⟩ := h
      obtain ⟨vs, ha, hvs⟩ := rel.rd e
      rw [RVs.ints e1 hvs] at ha
      exact cr_max hc pins s σ H _ us Q I r ⟨_, ns, by rw [rv_ref.mp h1], ha, e2, fun m hm hy => (h m hm hy).here rel (rv_int.mpr rfl)⟩
    · exact h.elim
  · exact h.elim
theorem bl_min (hc : X.calm = true) : CallR X (.builtin "min") (liftL X.K fun (C : KstT Tb) => bltK C "min") := by
  intro pins s σ H xs us Q I r h
  obtain ⟨C, st, ds, rel, hv, h⟩ := h
  unfold bltK at h
  rw [if_neg (by decide), if_neg (by decide), if_neg (by decide), if_neg (by decide), if_pos rfl] at h
  split at h
  · obtain ⟨v, w, rfl, h1, h2⟩ := hv.two
    exact call_min2 hc pins s σ H _ us Q I r ⟨_, _, by rw [rv_int.mp h1, rv_int.mp h2], h.here rel (rv_int.mpr rfl)⟩
  · split at h
    · rename_i ys e
      obtain ⟨v, rfl, h1⟩ := hv.one
      obtain ⟨ns, e1, e2, h⟩ := h
      obtain ⟨vs, ha, hvs⟩ := rel.rd e
      rw [RVs.ints e1 hvs] at ha
      exact cr_min hc pins s σ H _ us Q I r ⟨_, ns, by rw [rv_ref.mp h1], ha, e2, fun m hm hy => (h m hm hy).here rel (rv_int.mpr rfl)⟩
    · exact h.elim
  · exact h.elim
theorem bl_sum (hc : X.calm = true) : CallR X (.builtin "sum") (liftL X.K fun (C : KstT Tb) => bltK C "sum") := by
  intro pins s σ H xs us Q I r h
  obtain ⟨C, st, ds, rel, hv, h⟩ := h
  unfold bltK at h
  rw [if_neg (by decide), if_neg (by decide), if_neg (by decide), if_neg (by decide), if_neg (by decide), if_pos rfl] at h
  split at h
  · split at h
    · rename_i ys e
      obtain ⟨v, rfl, h1⟩ := hv.one
      obtain ⟨ns, e1, h⟩ := h
      obtain ⟨vs, ha, hvs⟩ := rel.rd e
      rw [RVs.ints e1 hvs] at ha
      exact cr_sum hc pins s σ H _ us Q I r ⟨_, ns, by rw [rv_ref.mp h1], ha, h.here rel (rv_int.mpr rfl)⟩
    · exact h.elim
  · exact h.elim
theorem bl_tuple : CallR X (.type "tuple") (liftL X.K fun (C : KstT Tb) => bltK C "tuple") := by
  intro pins s σ H xs us Q I r h
  obtain ⟨C, st, ds, rel, hv, h⟩ := h
  unfold bltK at h
  rw [if_neg (by decide), if_neg (by decide), if_neg (by decide), if_neg (by decide), if_neg (by decide), if_neg (by decide), if_pos rfl] at h
  split at h
  · split at h
    · rename_i x0 d ys e
      obtain ⟨v, rfl, h1⟩ := hv.one
      cases x0 with
      | tup zs =>
        have ez : zs = ys := by simpa [MP.items] using e
        subst ez
        obtain ⟨a, vs, rfl, ha, hvs⟩ := rv_tupS h1
        exact call_tuple_of pins s σ H _ us Q I r ⟨a, vs, rfl, .inr ⟨ha, h.here rel h1⟩⟩
      | ref b =>
        obtain ⟨vs, q1, hvs⟩ := rel.rd (show rdL C _ b = some ys from e)
        exact call_tuple_of pins s σ H _ us Q I r ⟨b, vs, by rw [rv_ref.mp h1], .inl ⟨q1, h.newT rel hvs⟩⟩
      | _ => simp [MP.items] at e
    · exact h.elim
  · exact h.elim
theorem bl_list : CallR X (.type "list") (liftL X.K fun (C : KstT Tb) => bltK C "list") := by
  intro pins s σ H xs us Q I r h
  obtain ⟨C, st, ds, rel, hv, h⟩ := h
  unfold bltK at h
  rw [if_neg (by decide), if_neg (by decide), if_neg (by decide), if_neg (by decide), if_neg (by decide), if_neg (by decide), if_neg (by decide), if_pos rfl] at h
  split at h
  · split at h
    · rename_i d ys e
      obtain ⟨v, rfl, h1⟩ := hv.one
      obtain ⟨a, vs, rfl, ha, hvs⟩ := rel.items e h1
      exact call_list_of pins s σ H _ us Q I r ⟨a, vs, rfl, ha, PQ.newL h rel hvs⟩
    · exact h.elim
  · exact h.elim

/-! ### methods -/
def liftM (K : PySem.W.Frag) (k : D → List D → Sto → (D → Sto → Prop) → Prop) : V → List V → Hp → VK → Prop := fun x xs H Q => ∃ (C : KstT Tb) (st : Sto) (d : D) (ds : List D), Rel K C st H ∧ RV K H d x ∧ RVs K H ds xs ∧ k d ds st (PQ K C st H Q)
theorem PQ.write {a : Addr} {o : O} {xs : List D} {vs : List V} (h : PQ K C st H Q .non (put st a (.lst xs))) (r : Rel K C st H) (ha : st a = some o) (hv : RVs K H xs vs) : Q .non (upd H a (.lst vs)) :=
  h _ _ (r.write ha hv) (Keep.write (by rw [ha]; exact fun q => nomatch q)) (rv_non.mpr rfl)
theorem md_append : MtR X "list.append" (liftM (Tb := Tb) X.K fun d ds => mthK .list "append" d ds) := by
  intro pins s σ H x xs v us Q I rx rs h
  obtain ⟨C, st, d, ds, rel, hx, hv, h⟩ := h
  cases d with
  | ref a =>
    simp only [mthK] at h
    rw [if_pos trivial] at h
    split at h
    · rename_i ys y ea
      obtain ⟨w, rfl, h1⟩ := hv.one
      obtain ⟨vs, ha, hvs⟩ := rel.lst ea
      exact mt_append pins s σ H x _ v us Q I rx rs ⟨a, vs, w, rv_ref.mp hx, rfl, ha, by rw [hvs.length]; exact h.1, h.2.write rel ea (hvs.append (RVs.cons h1 RVs.nil))⟩
    · exact h.elim
  | _ => simp [mthK] at h
theorem md_extend : MtR X "list.extend" (liftM (Tb := Tb) X.K fun d ds => mthK .list "extend" d ds) := by
  intro pins s σ H x xs v us Q I rx rs h
  obtain ⟨C, st, d, ds, rel, hx, hv, h⟩ := h
  cases d with
  | ref a =>
    simp only [mthK] at h
    rw [if_neg (by decide), if_pos trivial] at h
    split at h
    · rename_i ys b ea
      split at h
      · rename_i zs eb
        obtain ⟨w, rfl, h1⟩ := hv.one
        obtain ⟨vs, ha, hvs⟩ := rel.lst ea
        obtain ⟨ws, hb, hws⟩ := rel.lst eb
        refine mt_extend pins s σ H x _ v us Q I rx rs ⟨a, b, vs, ws, rv_ref.mp hx, by rw [rv_ref.mp h1], ha, hb, by rw [hvs.length, hws.length]; exact h.1, h.2.write rel ea (hvs.append hws)⟩
      · exact h.elim
    · exact h.elim
  | _ => simp [mthK] at h
theorem RVs.eraseIdx {K : PySem.W.Frag} {H : Hp} : ∀ {xs : List D} {vs : List V} (i : Nat), RVs K H xs vs → RVs K H (xs.eraseIdx i) (vs.eraseIdx i)
  | [], _, i, h => by rw [h.nil_inv]; exact RVs.nil
  | x :: xs, _, 0, h => by
    obtain ⟨v, ws, rfl, h1, h2⟩ := h.cons_inv
    exact h2
  | x :: xs, _, i + 1, h => by
    obtain ⟨v, ws, rfl, h1, h2⟩ := h.cons_inv
    exact RVs.cons h1 (RVs.eraseIdx i h2)
theorem md_pop : MtR X "list.pop" (liftM (Tb := Tb) X.K fun d ds => mthK .list "pop" d ds) := by
  intro pins s σ H x xs v us Q I rx rs h
  obtain ⟨C, st, d, ds, rel, hx, hv, h⟩ := h
  cases d with
  | ref a =>
    simp only [mthK] at h
    rw [if_neg (by decide), if_neg (by decide), if_pos trivial] at h
    unfold popK at h
    split at h
    · rename_i ys ea
      split at h
      · rename_i y ey
        obtain ⟨vs, ha, hvs⟩ := rel.lst ea
        obtain ⟨w, ew, hw⟩ := hvs.get ey
        have hn := hv.nil_inv
        subst hn
        refine mt_pop pins s σ H x _ v us Q I rx rs ⟨a, vs, w, rv_ref.mp hx, rfl, ha, by rw [hvs.length]; exact ew, ?_⟩
        have k : Keep st H (put st a (.lst ys.dropLast)) (upd H a (.lst vs.dropLast)) := Keep.write (by rw [ea]; exact fun q => nomatch q)
        exact h _ _ (rel.write ea hvs.dropLast) k (RV.keep rel k _ _ hw)
      · exact h.elim
    · rename_i ys i ea
      split at h
      · rename_i y ey
        obtain ⟨⟨b1, b2⟩, h⟩ := h
        obtain ⟨vs, ha, hvs⟩ := rel.lst ea
        obtain ⟨w, ew, hw⟩ := hvs.get ey
        obtain ⟨z, rfl, hz⟩ := hv.one
        have hz' := rv_int.mp hz
        subst hz'
        have hlt : i.toNat < vs.length := (List.getElem?_eq_some_iff.mp ew).1
        have hs : seqIndex? i vs.length = some i.toNat := by
          have hn : ¬ i < 0 := by omega
          have hi : i < (vs.length : Int) := by omega
          unfold seqIndex?
          simp only [if_neg hn]
          rw [if_pos (by simp [b1, hi])]
        refine mt_popAt pins s σ H x _ v us Q I rx rs ⟨a, vs, i, i.toNat, w, rv_ref.mp hx, rfl, ha, by omega, b2, hs, ew, ?_⟩
        have k : Keep st H (put st a (.lst (ys.eraseIdx i.toNat))) (upd H a (.lst (vs.eraseIdx i.toNat))) := Keep.write (by rw [ea]; exact fun q => nomatch q)
        exact h _ _ (rel.write ea (hvs.eraseIdx _)) k (RV.keep rel k _ _ hw)
      · exact h.2.elim
    · exact h.elim
  | _ => simp [mthK] at h
theorem md_reverse : MtR X "list.reverse" (liftM (Tb := Tb) X.K fun d ds => mthK .list "reverse" d ds) := by
  intro pins s σ H x xs v us Q I rx rs h
  obtain ⟨C, st, d, ds, rel, hx, hv, h⟩ := h
  cases d with
  | ref a =>
    simp only [mthK] at h
    rw [if_neg (by decide), if_neg (by decide), if_neg (by decide), if_pos trivial] at h
    split at h
    · rename_i ys ea
      obtain ⟨vs, ha, hvs⟩ := rel.lst ea
      have hn := hv.nil_inv
      subst hn
      exact mt_reverse pins s σ H x _ v us Q I rx rs ⟨a, vs, rv_ref.mp hx, rfl, ha, h.write rel ea hvs.reverse⟩
    · exact h.elim
  | _ => simp [mthK] at h
/-- d[k] = v -/
theorem pset_dct {o i v : V} {ov iv u : Value} {dO dI dV : D} {pins : List (Addr × Obj)} {σ : L2.St} {s : Shared} {Q : Hp → Prop} (hu : X.A.units + 1 < cLine) (I : L2.Inv X pins σ H s) (ro : RelV o ov) (ri : RelV i iv) (rv : RelV v u) (rel : Rel X.K C st H) (ho : RV X.K H dO o) (hi : RV X.K H dI i) (hv : RV X.K H dV v)
    (h : dputK dO dI dV st (fun st' => ∀ H', Rel X.K C st' H' → Keep st H st' H' → Q H')) : wpAny (model X.prog X.w) X.A (setItem ov iv u) (fun _ s' => ∃ H', L2.Inv X pins σ H' s' ∧ Q H') X.xe s := by
  unfold dputK at h
  split at h
  · rename_i a k e
    split at h
    · rename_i kvs ea
      obtain ⟨hz, h⟩ := h
      obtain ⟨vs, ha, hk, hz'⟩ := rel.ob a _ ea
      rw [rv_ref.mp ho] at ro
      obtain rfl : ov = Value.ref a := ro
      have g : DPut H a i v (upd H a (.dK (putK vs k v))) := .inl ⟨vs, k, ha, key_rv e hi, by rw [hk.length]; exact hz, rfl⟩
      refine d_setItem hu I g ri rv fun s' I' => ⟨_, I', h _ (rel.writeD ea (hk.put hv) ?_) (Keep.write (by rw [ea]; exact fun q => nomatch q))⟩
      have := putD_len kvs k dV
      omega
    · exact h.elim
  · rename_i a e
    split at h
    · rename_i kvs k ea e2
      obtain ⟨hz, h⟩ := h
      obtain ⟨vs, ha, hk, hz'⟩ := rel.ob a _ ea
      rw [rv_ref.mp ho] at ro
      obtain rfl : ov = Value.ref a := ro
      obtain ⟨b, eb, hb⟩ := keyT_rv e2 hi
      have g : DPut H a i v (upd H a (.dT (putK vs k v))) := .inr ⟨vs, k, b, ha, eb, hb, by rw [hk.length]; exact hz, rfl⟩
      have hl : (putD kvs k dV).length ≤ sizeLine := by
        have := putD_len kvs k dV
        omega
      exact d_setItem hu I g ri rv fun s' I' => ⟨_, I', h _ (rel.put ea fun H' t e => ⟨_, e, (RKV.tk t _ _ (hk.put hv)), hl⟩) (Keep.write (by rw [ea]; exact fun q => nomatch q))⟩
    · exact h.elim
  · exact h.elim
/-- o[i] = v -/
theorem pset (hu : X.A.units + 1 < cLine) : PSet X (fun o i v H Q => ∃ (C : KstT Tb) (st : Sto) (dO dI dV : D), Rel X.K C st H ∧ RV X.K H dO o ∧ RV X.K H dI i ∧ RV X.K H dV v ∧ setK dO dI dV st (fun st' => ∀ H', Rel X.K C st' H' → Keep st H st' H' → Q H')) := by
  intro pins s σ H o i v ov iv u Q I ro ri rv h
  obtain ⟨C, st, dO, dI, dV, rel, ho, hi, hv, h⟩ := h
  unfold setK at h
  split at h
  · split at h
    · rename_i xs ea
      split at h
      · rename_i j ej
        obtain ⟨vs, ha, hvs⟩ := rel.lst ea
        refine set_list pins s σ H o i v ov iv u Q I ro ri rv ⟨_, vs, _, j, rv_ref.mp ho, rv_int.mp hi, ha, by rw [hvs.length]; exact ej, ?_⟩
        exact h _ (rel.write ea (RVs.set hv j hvs)) (Keep.write (by rw [ea]; exact fun q => nomatch q))
      · exact h.elim
    · exact pset_dct hu I ro ri rv rel ho hi hv h
  · exact pset_dct hu I ro ri rv rel ho hi hv h
end
end MP

set_option Elab.async false
set_option linter.all false
set_option maxRecDepth 100000
set_option maxHeartbeats 4000000
/-! MpSi: sorted of ints that stand in a tuple or a list. -/
namespace MP
open PySem PySem.Spec PyProof.Rows L2
variable {Tb : TabL}
section
variable {prog : Program} {w : World} {A : Around} {E : Value → Shared → Prop} {s : Shared}
/-- collect, and how long the heap is then -/
theorem collect_sz {it : Addr} {T : String} {o : Obj} {items : Array Value} {n : Nat} {Q : List Value → Shared → Prop} (hT : T = "list" ∨ T = "tuple") (ho : s.heap.get? it = some o) (hc : o.cls = .type T) (hd : o.data = .seq items n) (hz : items.size ≤ sizeLine)
    (hQ : ∀ h', (∀ b o', s.heap.get? b = some o' → h'.get? b = some o') → s.heap.objs.size ≤ h'.objs.size → Q items.toList { s with heap := h' }) : wpAny (model prog w) A (collect (.ref it)) Q E s := by
  unfold collect
  refine wpAny_bind (wpAny_runValue (codeAny_builtin F.entry_proto_collect ?_))
  rw [Around.under_plainId F.plain_proto_collect _]
  show wpAny _ A.in1 (newList [] >>= fun l => again (.builtin "list.__iadd__" ⟨[l, .ref it], []⟩)) _ _ s
  refine wpAny_bind (wpAny_newObj_type ?_)
  refine wpAny_pure ⟨plainId_quiet F.plain_list_iadd _, codeAny_builtin F.entry_list_iadd ?_⟩
  rw [Around.under_plainId F.plain_list_iadd _]
  show wpAny _ A.in1 (Builtin.List.listExtendWith (.ref s.heap.objs.size) (.ref it) (.ref s.heap.objs.size)) _ _ _
  have hS : (s.heap.push { cls := .type "list", data := .seq ([] : List Value).toArray }).get? s.heap.objs.size = some { cls := .type "list", data := .seq #[] 0 } := Heap.get?_push_size _ rfl
  have last : Q items.toList { s with heap := (s.heap.push { cls := .type "list", data := .seq ([] : List Value).toArray }).update s.heap.objs.size (Obj.mapSeq (· ++ items)) } := by
    refine hQ _ (fun b o' hb => ?_) ?_
    · exact (Heap.get?_update_other _ _ (Nat.ne_of_gt (Heap.lt_size hb))).trans (Heap.get?_push_of_some _ hb)
    · rw [Heap.size_update, Heap.size_push]
      exact Nat.le_succ _
  have read : wpAny (model prog w) A (match Value.ref s.heap.objs.size with
      | Value.ref a => do
        match (← load a).data with
          | Data.seq xs _ => pure xs.toList
          | _ => unsupported "internal:collect"
      | _ => unsupported "internal:collect") Q E { s with heap := (s.heap.push { cls := .type "list", data := .seq ([] : List Value).toArray }).update s.heap.objs.size (Obj.mapSeq (· ++ items)) } := by
    show wpAny _ A (load s.heap.objs.size >>= _) _ _ _
    refine wpAny_bind (wpAny_load (Heap.get?_update_self (Obj.mapSeq (· ++ items)) hS rfl) ?_)
    refine wpAny_pure ?_
    show Q ((#[] : Array Value) ++ items).toList _
    rw [show ((#[] : Array Value) ++ items).toList = items.toList by simp]
    exact last
  refine wpAny_mono (wpAny_extend_seq (hsz := hz) (A := A) (R := fun r s' => r = .ok (.ret (.ref s.heap.objs.size)) ∧ s' = { s with heap := (s.heap.push { cls := .type "list", data := .seq ([] : List Value).toArray }).update s.heap.objs.size (Obj.mapSeq (· ++ items)) })
    (s := { s with heap := s.heap.push { cls := .type "list", data := .seq ([] : List Value).toArray } }) _ it _ 0 hT hS (Heap.get?_push_of_some _ ho) hc hd ⟨rfl, rfl⟩) (fun fin s' h => ?_) (fun e s' h => absurd h.1 (by simp))
  cases fin with
  | done f =>
    obtain ⟨e, rfl⟩ := h
    cases e
    exact read
  | again c' => exact ⟨h.1, codeAny_mono h.2 fun r s'' hr => by
      obtain ⟨rfl, rfl⟩ := hr
      exact read⟩
theorem sorted_seq {it : Addr} {T : String} {o : Obj} {items : Array Value} {n : Nat} {ns : List Int} {Q : Value → Shared → Prop} (hT : T = "list" ∨ T = "tuple") (ho : s.heap.get? it = some o) (hc : o.cls = .type T) (hd : o.data = .seq items n) (hz : items.size ≤ sizeLine) (hI : IntsAre items.toList ns)
    (h : ∀ (h' : Heap) (p : Addr) (out : List Value) (ns' : List Int), (∀ b ob, s.heap.get? b = some ob → h'.get? b = some ob) → s.heap.objs.size ≤ p → (∃ e, h'.get? p = some (seqObj "list" out.toArray e)) → IntsAre out ns' → ns'.Perm ns → ns'.Pairwise (· ≤ ·) → Q (.ref p) { s with heap := h' }) :
    wpAny (model prog w) A (call (.builtin "sorted") [.ref it]) Q E s := by
  refine Calls.call_function_entry kind_sorted plain_sorted entry_sorted (args_sorted1 _) ?_
  unfold Builtin.«sorted»
  refine wpAny_bind (m := checkCount "sorted" 1 1 _) (wpAny_pure ?_)
  refine wpAny_bind (collect_sz hT ho hc hd hz fun h1 k1 hsz => ?_)
  have hz' : items.toList.length ≤ sizeLine := by rw [Array.length_toList]; exact hz
  refine wpAny_bind (wpAny_newList ?_ hz')
  have hoL : (h1.push (seqObj "list" items.toList.toArray 0)).get? h1.objs.size = some (seqObj "list" items.toList.toArray 0) := Heap.get?_push_size _ rfl
  show wpAny _ _ _ _ _ { s with heap := h1.push (seqObj "list" items.toList.toArray 0) }
  refine wpAny_bind (wpAny_holding (wpAny_call_entry slot_list_sort ⟨_, hoL, rfl⟩ entry_list_sort (SrtO.list_sort_ord SrtO.swo_int hoL hz' (fun h2 => SrtO.ints_sortable hI h2) fun out hs hb => ⟨_, rfl, ?_⟩) (args_list_sort _)))
  obtain ⟨k1', k2, k3⟩ := SrtO.ints_out hI hs hb
  refine wpAny_pure ⟨_, rfl, h _ _ out _ (fun b ob q => ?_) hsz (sortedHeap_at hoL) k1' k2 k3⟩
  have q1 := k1 b ob q
  have hlt := Heap.lt_size q1
  rw [sortedHeap_old (Nat.ne_of_lt hlt) (by rw [size_push']; exact Nat.lt_succ_of_lt hlt)]
  exact Heap.get?_push_of_some _ q1
end
theorem RVs.ofInts {K : PySem.W.Frag} {H : Hp} : ∀ ns : List Int, RVs K H (ns.map D.int) (ns.map V.int)
  | [] => RVs.nil
  | i :: ns => RVs.cons (rv_int.mpr rfl) (RVs.ofInts ns)
section
variable {X : Cx}
theorem bl_sorted : CallR X (.builtin "sorted") (liftL X.K fun (C : KstT Tb) => bltK C "sorted") := by
  intro pins s σ H xs us Q I r h
  obtain ⟨C, st, ds, rel, hv, h⟩ := h
  unfold bltK at h
  rw [if_neg (by decide), if_neg (by decide), if_neg (by decide), if_neg (by decide), if_neg (by decide), if_neg (by decide), if_neg (by decide), if_neg (by decide)] at h
  unfold bltK2 at h
  rw [if_neg (by decide), if_neg (by decide), if_pos rfl] at h
  split at h
  · split at h
    · rename_i d ys e
      obtain ⟨ns, e1, h⟩ := h
      obtain ⟨v, rfl, h1⟩ := hv.one
      obtain ⟨a, vs, rfl, ha, hvs⟩ := rel.items e h1
      rw [Vals.ref1 r]
      have fin : ∀ (its : List Value) (o : Obj) (T : String) (n : Nat), (T = "list" ∨ T = "tuple") → s.heap.get? a = some o → o.cls = .type T → o.data = .seq its.toArray n → Vals vs its → its.length ≤ sizeLine → wpAny (model X.prog X.w) X.A (call (.builtin "sorted") [.ref a]) (EP X pins σ Q) X.xe s := by
        intro its o T n hT ho hc hd rv hz
        rw [RVs.ints e1 hvs] at rv
        refine sorted_seq (ns := ns) hT ho hc hd (by rw [List.size_toArray]; exact hz) (by simpa using rv.ints) fun h' p out ns' kp hp he hi hperm hs => ?_
        have hnl : (ns'.map V.int).length ≤ sizeLine := by
          rw [List.length_map, hperm.length_eq]
          have := rv.length
          rw [List.length_map] at this
          omega
        obtain ⟨ep, he⟩ := he
        refine ⟨.ref p, upd H p (.lst (ns'.map V.int)), I.laid (t' := s.toks) kp hp ⟨hnl, out, ep, vals_of_ints hi, he⟩, rfl, ?_⟩
        refine PQ.newL (h ns' hperm hs) rel ?_ p (I.hok.fresh hp)
        exact RVs.ofInts ns'
      rcases ha with ha | ha
      · obtain ⟨its, rv, pl, hz⟩ := I.list ha
        obtain ⟨o, ho, hc, n, hd⟩ := pl.isList
        exact fin its o "list" n (.inl rfl) ho hc hd rv (by rw [← rv.length]; exact hz)
      · obtain ⟨its, rv, pl, hz⟩ := I.tuple ha
        obtain ⟨o, ho, hc, n, hd⟩ := pl
        exact fin its o "tuple" n (.inr rfl) ho hc hd rv (by rw [← rv.length]; exact hz)
    · exact h.elim
  · exact h.elim
end
end MP

set_option Elab.async false
set_option linter.all false
set_option maxRecDepth 100000
set_option maxHeartbeats 4000000
/-! MpI: what a loop walks. -/
namespace MP
open PySem PySem.Spec PyProof.Rows L2
open Sem (wp)

/-! ### enumerate(t) of a tuple -/
set_option maxHeartbeats 1000000 in
theorem meets_enum1 {v : Value} {o : Obj} {H : Heap → Prop} (B : Begins v o H) :
    Meets (Builtin.«enumerate.__new__» ⟨[.type "enumerate", v], []⟩) (fun _ R s => H s.heap ∧
      R (.ok (.ret (.ref (s.heap.push o).objs.size))) { s with heap := (s.heap.push o).push { cls := .type "enumerate", data := .fields #[.none, .bool false, .ref s.heap.objs.size, rawInt 0, .none, .none] } }) :=
  .of_wp fun prog w A R s h => by
    obtain ⟨hp, g, d, tk, os⟩ := s; obtain ⟨h1, h⟩ := h
    have hsub := sub_enumerate
    have q1 : ∀ {A' : Around} {E : Value → Shared → Prop} {Q : Value → Shared → Prop}, Q (.ref hp.objs.size) ⟨hp.push o, g, d, tk, os⟩ → wpAny (model prog w) A' (pyIter v) Q E ⟨hp, g, d, tk, os⟩ :=
      fun q => B.iter prog w _ _ ⟨hp, g, d, tk, os⟩ _ h1 q
    wp_walk using q1
    refine wpAny_stack_any fun st => wpAny_pure ?_
    split
    · rename_i c _ _ _ _ _
      cases (c == Value.type "enumerate")
      · wp_walk using q1
        exact ⟨_, rfl, h⟩
      · wp_walk using q1
        exact ⟨_, rfl, h⟩
    · wp_walk using q1
      exact ⟨_, rfl, h⟩
theorem call_enum1 {prog : Program} {w : World} {A : Around} {E : Value → Shared → Prop} {s : Shared} {v : Value} {o : Obj} {H : Heap → Prop} {Q : Value → Shared → Prop} (B : Begins v o H) (h1 : H s.heap)
    (h : ∀ h', IsEnum h' (s.heap.objs.size + 1) s.heap.objs.size 0 .none → h'.get? s.heap.objs.size = some o → h'.objs.size = s.heap.objs.size + 2 →
      (∀ b o, s.heap.get? b = some o → h'.get? b = some o) → Q (.ref (s.heap.objs.size + 1)) { s with heap := h' }) :
    wpAny (model prog w) A (call (.type "enumerate") [v]) Q E s := by
  refine callType_new F.called_enumerate (by decide) (F.typeCall_enumerate_1 _) (F.newCall_enumerate_1 _) (fun obj => F.args_object_init_2 obj _) F.entry_enumerate_new
    (meets_enum1 B) ⟨h1, ?_⟩
  have hz : (s.heap.push o).objs.size = s.heap.objs.size + 1 := Heap.size_push ..
  show _ ∧ _
  rw [hz]
  have he : IsEnum ((s.heap.push o).push { cls := .type "enumerate", data := .fields #[.none, .bool false, .ref s.heap.objs.size, rawInt 0, .none, .none] }) (s.heap.objs.size + 1) s.heap.objs.size 0 .none := by
    have := Heap.get?_push_size (s.heap.push o) (o := { cls := .type "enumerate", data := .fields #[.none, .bool false, .ref s.heap.objs.size, rawInt 0, .none, .none] }) rfl
    rw [hz] at this; exact this
  refine ⟨⟨_, he, rfl⟩, h _ he (Heap.get?_push_of_some _ (Heap.get?_push_size _ B.free)) (by rw [Heap.size_push, hz]) fun b o x => Heap.get?_push_of_some _ (Heap.get?_push_of_some _ x)⟩
/-- the tuple at a, each item in a new pair -/
def IteT (K : PySem.W.Frag) (a : Addr) : It :=
  ⟨fun i H => ∃ (xs : List V) (x : V), SqT K H a xs ∧ xs[i]? = some x, fun i H v H' => ∃ T x, v = .ref T ∧ H T = none ∧ H' = upd H T (.tup [.int (i : Nat), x]) ∧ ∀ xs, SqT K H a xs → xs[i]? = some x, fun i H => ∃ xs : List V, SqT K H a xs ∧ xs.length ≤ i⟩
theorem turn_enumT {P : Program} {w : World} {K : PySem.W.Frag} {elts : List Expr} {kk : Nat} {tpos : Pos} (a e it : Addr) :
    Turn P w K (.Tuple elts kk tpos) (IteT K a) [e, it] e (fun i h => (∃ old, IsEnum h e it ((i : Nat) : Int) old) ∧ h.IsTupleIter it a i ∧ e ≠ it) where
  mem := by simp
  obj := fun i h st b hb => by
    obtain ⟨⟨old, he⟩, ⟨o, ho, hc, hd⟩, _⟩ := st
    have e' : b = e ∨ b = it := by simpa using hb
    rcases e' with z | z
    · rw [z]; exact ⟨_, he, fun v q => nomatch q⟩
    · rw [z]; exact ⟨o, ho, fun v q => by rw [hd] at q; cases q⟩
  keep := fun i h h' st k => let ⟨⟨old, he⟩, hi, hne⟩ := st; ⟨⟨old, k e (by simp) _ he⟩, hi.at fun o q => k it (by simp) o q, hne⟩
  item := by
    intro X hP hw hK hc i pins s σ H E I hf st hg
    subst hP hw hK
    obtain ⟨⟨old, he⟩, hit, hne⟩ := st
    obtain ⟨xs, x, hq, hx⟩ := hg
    obtain ⟨its, rv, p, hz⟩ := I.tuple hq
    obtain ⟨u, hu, ru⟩ := rv.get hx
    have hel : e < s.heap.objs.size := Heap.lt_size he
    have hil : it < s.heap.objs.size := by obtain ⟨_, q, _⟩ := hit; exact Heap.lt_size q
    have pt : s.heap.IsTuple a its.toArray := p
    have nai : a ≠ it := by
      intro q
      obtain ⟨o1, h1, c1, _⟩ := id p
      obtain ⟨o2, h2, c2, _⟩ := id hit
      rw [q, h2] at h1
      cases h1
      rw [c2] at c1
      exact absurd (Value.type.inj c1) (by decide)
    have nea : e ≠ a := by
      intro q
      obtain ⟨o1, h1, c1, _⟩ := id p
      have he' : s.heap.get? e = some _ := he
      rw [q, h1] at he'
      cases he'
      exact absurd (Value.type.inj c1) (by decide)
    have hlt : i < its.toArray.size := by
      have := (List.getElem?_eq_some_iff.mp hu).1
      simpa using this
    refine wpAny_pyNext_enum_itemD (Draws.tuple (A := X.A.in1) (I.ok.hd hc) it a nai its.toArray) he ⟨hit, pt⟩ hlt hne (by simp [hne, nea]) fun x' h' tk hP ho hst' hT hsz hk => ?_
    obtain ⟨hit', pt'⟩ := hst'
    have hxu : x' = u := by
      have hP' : its.toArray[i]? = some x' := hP
      rw [List.getElem?_toArray, hu] at hP'
      exact (Option.some.inj hP').symm
    subst hxu
    refine ⟨_, rfl, wpAny_letOwnedTupleGo_enum (s := { s with heap := h', toks := tk + 1 }) ho fun h'' he' sb => ?_⟩
    have hT2 : h''.get? s.heap.objs.size = some { cls := .type "tuple", data := .seq #[.int i tk, x'] } := (sb.2 _ (Nat.ne_of_gt hel)).trans hT
    have new : ObjOk X.prog X.w (upd H s.heap.objs.size (.tup [.int (i : Nat), x])) h'' s.heap.objs.size (.tup [.int (i : Nat), x]) :=
      ⟨by show 2 ≤ sizeLine; decide, [.int i tk, x'], .cons ⟨_, rfl⟩ (.cons ru .nil), ⟨_, hT2, rfl, _, rfl⟩⟩
    have I1 : L2.Inv X pins σ (upd H s.heap.objs.size (.tup [.int (i : Nat), x])) { s with heap := h'', toks := tk + 1 } :=
      I.turnedNew (ch := [e, it]) (fun b ob hb q => (sb.2 b (fun z => hb (by simp [z]))).trans (hk b ob (fun z => hb (by simp [z])) (fun z => hb (by simp [z])) q)) hf (Nat.le_refl _) new
    refine ⟨.ref s.heap.objs.size, _, I1, rfl, ⟨_, x, rfl, I.hok.fresh (Nat.le_refl _), rfl, fun ys hy => by rw [I.tuple_inj hy hq]; exact hx⟩, ⟨⟨x', ?_⟩, hit'.at fun o q => (sb.2 it (Ne.symm hne)).trans q, hne⟩, fun b hb => ?_⟩
    · have e1 : ((i + 1 : Nat) : Int) = (i : Int) + 1 := by omega
      rw [e1]; exact he'
    · have hb' : b < s.heap.objs.size := by
        have e' : b = e ∨ b = it := by simpa using hb
        rcases e' with z | z
        · rw [z]; exact hel
        · rw [z]; exact hil
      rw [upd_ne (Nat.ne_of_lt hb')]
      exact (hf b hb).1
  done := by
    intro X hP hw hK hc i pins s σ H E I hf st hg
    subst hP hw hK
    obtain ⟨⟨old, he⟩, hit, hne⟩ := st
    obtain ⟨xs, hq, hx⟩ := hg
    obtain ⟨its, rv, p, hz⟩ := I.tuple hq
    obtain ⟨f0, f1, f2, f3, f4, f5⟩ := hf it (by simp)
    have hl := rv.length
    have pt : s.heap.IsTuple a its.toArray := p
    have hT : s.TypeIs (.ref e) "enumerate" := ⟨_, he, rfl⟩
    unfold pyNext
    refine wpAny_bind (wpAny_attempt (wpAny_callSpecial?_slot (name := Str.ofString "__next__") hT F.slot_enumerate_next
      (wpAny_call_entry F.slot_enumerate_next hT F.entry_enumerate_next ?_ (F.args_enumerate_next_1 _))))
    show wpAny _ _ (field (.ref e) 2 >>= _) _ _ _
    refine wpAny_bind (wpAny_field he rfl (x := .ref it) rfl ?_)
    refine wpAny_bind (wpAny_nextOf_tuple_end (I.ok.hd hc) hit pt (by simp; omega) fun h' x' he' hx' => ?_)
    obtain ⟨o, ho, hcl⟩ := hx'
    refine wpAny_bind (wpAny_isInstance (T := "StopIteration") (b := true) ⟨o, ho, hcl⟩ isSubtype_stop ?_)
    exact wpAny_pure ⟨rfl, I.turned (t' := s.toks) (fun b o hb q => he' b o hb q) f0 f1 f3 f4 f5⟩
  self := fun A i s Q E st h => let ⟨⟨_, he⟩, _⟩ := st; wpAny_pyIter_enum he h
/-- a list or a tuple, at one turn -/
def iSeqA (K : PySem.W.Frag) (tl : TE) : TI := fun σ H R => tl σ H fun x H1 => ∃ a, x = .ref a ∧ (((∃ xs, SqL K H1 a xs) ∧ R (Itl K a) H1) ∨ ((∃ xs, SqT K H1 a xs) ∧ R (Itt K a) H1))
theorem pi_seqA {X : Cx} {tg l : Expr} {tl : TE} (hl : PE X l tl) : PI X tg l (iSeqA X.K tl) := by
  refine ⟨fun pins s σ H R I h => ?_⟩
  refine thn (hl.run pins s σ H _ I h) fun v s1 ⟨x, H1, I1, r1, q1⟩ => ?_
  obtain ⟨a, e, q1⟩ := q1
  subst e
  cases r1
  rcases q1 with ⟨⟨xs, hq⟩, q⟩ | ⟨⟨xs, hq⟩, q⟩
  · obtain ⟨its, rv, p, hz⟩ := I1.list hq
    refine wpAny_pyIter_list p.isList ?_
    refine ⟨s1.heap.objs.size, [s1.heap.objs.size], _, _, H1, rfl, I1.kept (t' := s1.toks) fun b o e => Heap.get?_push_of_some _ e, turn_list a _, ⟨_, Heap.get?_push_size _ rfl, rfl, rfl⟩, fun b hb => ?_, q⟩
    have e : b = s1.heap.objs.size := by simpa using hb
    subst e
    exact I1.fpOk (Nat.le_refl _) (I1.hok.fresh (Nat.le_refl _))
  · obtain ⟨its, rv, p, hz⟩ := I1.tuple hq
    refine wpAny_pyIter_tuple (show s1.heap.IsTuple a its.toArray from p) ?_
    refine ⟨s1.heap.objs.size, [s1.heap.objs.size], _, _, H1, rfl, I1.kept (t' := s1.toks) fun b o e => Heap.get?_push_of_some _ e, turn_tuple a _, ⟨_, Heap.get?_push_size _ rfl, rfl, rfl⟩, fun b hb => ?_, q⟩
    have e : b = s1.heap.objs.size := by simpa using hb
    subst e
    exact I1.fpOk (Nat.le_refl _) (I1.hok.fresh (Nat.le_refl _))
/-- range(n), range(m, n) -/
def iRngA (ta : TA) : TI := fun σ H R => ta σ H fun vs H1 => (∃ j : Int, vs = [.int j] ∧ -(2 ^ 62) ≤ j ∧ j < 2 ^ 62 ∧ R (Itr 0 j.toNat) H1) ∨
  (∃ i j : Int, vs = [.int i, .int j] ∧ (-(2 ^ 62) ≤ i ∧ i < 2 ^ 62 ∧ -(2 ^ 62) ≤ j ∧ j < 2 ^ 62) ∧ R (Itr i (j - i).toNat) H1) ∨
  ∃ (i j c : Int) (n : Nat), vs = [.int i, .int j, .int c] ∧ RgC i j c n ∧ R (Itc i c n) H1
theorem pi_rangeA {X : Cx} {tg a : Expr} {as : List Expr} {ta : TA} {p pos : Pos} (hg : Gl X "range") (hm : X.mg "range" = none) (ha : PA X (a :: as) ta) (hs : starEach (a :: as) X.env = (false, eval a X.env) :: starEach as X.env)
    (hpl : (backTo pos (starEach as X.env)).any (·.1) = false) : PI X tg (.Call (.Name "range" p) (a :: as) [] pos) (iRngA ta) := by
  refine ⟨fun pins s σ H R I h => ?_⟩
  refine Call_ (ld_blt I hg hm boot_range (PyProof.Rows.callWith_type1 (thn (ha.run pos pins s σ H _ I h) fun us s1 ⟨vs, H1, I1, r1, q1⟩ => ?_) hs hpl))
  rcases q1 with ⟨j, e, q1, q2, q⟩ | ⟨i, j, e, ⟨q1, q2, q3, q4⟩, q⟩ | ⟨i, j, k, n, e, ⟨c0, c1, c2, c3⟩, q⟩
  · subst e
    cases r1 with
    | cons r rr =>
      cases rr
      obtain ⟨t, rfl⟩ := r
      exact call_range_1 (range_it I1 (by omega) (by omega) q1 q2 (by simpa using q))
  · subst e
    cases r1 with
    | cons r rr =>
      cases rr with
      | cons r' rr =>
        cases rr
        obtain ⟨t, rfl⟩ := r
        obtain ⟨t', rfl⟩ := r'
        exact call_range_2 (range_it I1 q1 q2 q3 q4 q)
  · subst e
    cases r1 with
    | cons r rr =>
      cases rr with
      | cons r' rr =>
        cases rr with
        | cons r'' rr =>
          cases rr
          obtain ⟨t, rfl⟩ := r
          obtain ⟨t', rfl⟩ := r'
          obtain ⟨t'', rfl⟩ := r''
          refine call_range_3 c0 ?_ (.inl (PyProof.noPylong_small c1))
          refine wpAny_pyIter_range (IsRange.new ..) c2 ?_
          have I2 : L2.Inv X pins σ H1 { s1 with heap := s1.heap.push { cls := .type "range", data := .fields #[.int i t, .int j t', .int k t''] } } := I1.kept (t' := s1.toks) fun b o e => Heap.get?_push_of_some _ e
          refine pi_one (tk := s1.toks) I2 _ (turn_rangeC _ i k n) ?_ q
          have e1 : i + ((0 : Nat) : Int) * k = i := by simp
          have e2 : (n : Int) - ((0 : Nat) : Int) = Builtin.Range.rangeSize i j k := by rw [c3]; simp
          show IsRangeIter _ _ (i + ((0 : Nat) : Int) * k) ((n : Int) - ((0 : Nat) : Int)) k
          rw [e1, e2]
          exact Heap.get?_push_size _ rfl
def iEnumA (K : PySem.W.Frag) (ta : TA) : TI := fun σ H R => ta σ H fun vs H1 => ∃ a xs, vs = [.ref a] ∧ ((SqL K H1 a xs ∧ R (Ite K a) H1) ∨ (SqT K H1 a xs ∧ R (IteT K a) H1))
theorem pi_enumA {X : Cx} {e : Expr} {ta : TA} {p pos tpos : Pos} {elts : List Expr} {kk : Nat} (hg : Gl X "enumerate") (hm : X.mg "enumerate" = none) (ha : PA X [e] ta) (hs : starEach [e] X.env = [(false, eval e X.env)]) :
    PI X (.Tuple elts kk tpos) (.Call (.Name "enumerate" p) [e] [] pos) (iEnumA X.K ta) := by
  refine ⟨fun pins s σ H R I h => ?_⟩
  refine Call_ (ld_blt I hg hm boot_enumerate (PyProof.Rows.callWith_type1 (thn (ha.run pos pins s σ H _ I h) fun us s1 ⟨vs, H1, I1, r1, q1⟩ => ?_) hs rfl))
  obtain ⟨a, xs, ex, q1⟩ := q1
  subst ex
  cases r1 with
  | cons r rr =>
    cases rr
    cases r
    have fresh2 : ∀ b ∈ [s1.heap.objs.size + 1, s1.heap.objs.size], FpOk X pins H1 b := fun b hb => by
      have e' : b = s1.heap.objs.size + 1 ∨ b = s1.heap.objs.size := by simpa using hb
      have hle : s1.heap.objs.size ≤ b := by
        rcases e' with z | z
        · rw [z]; exact Nat.le_add_right _ _
        · rw [z]; exact Nat.le_refl _
      exact I1.fpOk hle (I1.hok.fresh hle)
    rcases q1 with ⟨hq, q⟩ | ⟨hq, q⟩
    · obtain ⟨its, rv, p', hz⟩ := I1.list hq
      refine call_enumerate_list p'.isList fun h' he hit hsz hk => wpAny_pyIter_enum he ?_
      have I2 : L2.Inv X pins σ H1 { s1 with heap := h' } := I1.kept (t' := s1.toks) hk
      exact ⟨s1.heap.objs.size + 1, [s1.heap.objs.size + 1, s1.heap.objs.size], _, _, H1, rfl, I2, turn_enum a (s1.heap.objs.size + 1) s1.heap.objs.size, ⟨⟨.none, he⟩, hit, Nat.succ_ne_self _⟩, fresh2, q⟩
    · obtain ⟨its, rv, p', hz⟩ := I1.tuple hq
      refine call_enum1 (begins_tuple a its.toArray) (show s1.heap.IsTuple a its.toArray from p') fun h' he hit hsz hk => wpAny_pyIter_enum he ?_
      have I2 : L2.Inv X pins σ H1 { s1 with heap := h' } := I1.kept (t' := s1.toks) hk
      exact ⟨s1.heap.objs.size + 1, [s1.heap.objs.size + 1, s1.heap.objs.size], _, _, H1, rfl, I2, turn_enumT a (s1.heap.objs.size + 1) s1.heap.objs.size, ⟨⟨.none, he⟩, ⟨_, hit, rfl, rfl⟩, Nat.succ_ne_self _⟩, fresh2, q⟩

/-! ### an iterator and its items -/
/-- J yields the items, from the heap H1 on, while ok stands -/
structure WalkD (K : PySem.W.Frag) (C : KstT Tb) (st1 : Sto) (H1 : Hp) (J : It) (xs : List D) (ok : Sto → Prop) : Prop where
  go : ∀ (i : Nat) (st : Sto) (H : Hp), i < xs.length → Keep st1 H1 st H → Rel K C st H → ok st → J.go i H
  yld : ∀ (i : Nat) (st : Sto) (H : Hp) (x : V) (H' : Hp), i < xs.length → Keep st1 H1 st H → Rel K C st H → ok st → J.yld i H x H' → ∃ d, xs[i]? = some d ∧ Rel K C st H' ∧ Keep st H st H' ∧ RV K H' d x
  stop : ∀ (st : Sto) (H : Hp), Keep st1 H1 st H → Rel K C st H → ok st → J.stop xs.length H
section
variable {K : PySem.W.Frag} {C : KstT Tb} {st1 : Sto} {H1 : Hp}
/-- with the facts of a heap: no two readings -/
def Uniq (K : PySem.W.Frag) (H : Hp) : Prop := (∀ a xs ys, SqL K H a xs → SqL K H a ys → xs = ys) ∧ (∀ a xs ys, SqT K H a xs → SqT K H a ys → xs = ys)
theorem walkD_list {a : Addr} {xs : List D} : WalkD K C st1 H1 (Itl K a) xs (fun st => rdL C st a = some xs) where
  go := fun i st H hi _ r ok => by
    obtain ⟨vs, h1, h2⟩ := r.rd ok
    obtain ⟨v, hv, _⟩ := h2.get (List.getElem?_eq_getElem hi)
    exact ⟨vs, v, h1, hv⟩
  yld := fun i st H x H' hi _ r ok y => by
    obtain ⟨rfl, y⟩ := y
    obtain ⟨vs, h1, h2⟩ := r.rd ok
    obtain ⟨d, hd, hr⟩ := h2.getV (y vs h1)
    exact ⟨d, hd, r, Keep.refl, hr⟩
  stop := fun st H _ r ok => by
    obtain ⟨vs, h1, h2⟩ := r.rd ok
    exact ⟨vs, h1, Nat.le_of_eq h2.length⟩
/-- a locked dict's keys -/
theorem walkD_keys {a : Addr} {od : Obj} {kvs : List (Key × D)} {vs : List (Key × V)} : WalkD K C st1 H1 (Itk a od vs) (kvs.map fun kv => keyD kv.1) (fun st => st a = some (.lck (.frz od (.dK vs)) kvs)) where
  go := fun i st H hi _ r ok => by
    obtain ⟨od', vs', h1, h0, h2, _⟩ := r.ob a _ ok
    cases h0
    refine ⟨h1, ?_⟩
    rw [h2.length]
    simpa using hi
  yld := fun i st H x H' hi _ r ok y => by
    obtain ⟨rfl, k, v, hv, rfl⟩ := y
    obtain ⟨od', vs', h1, h0, h2, _⟩ := r.ob a _ ok
    cases h0
    obtain ⟨d, hd⟩ := h2.key hv
    exact ⟨keyD k, by rw [List.getElem?_map, hd] <;> rfl, r, Keep.refl, rv_key⟩
  stop := fun st H _ r ok => by
    obtain ⟨od', vs', h1, h0, h2, _⟩ := r.ob a _ ok
    cases h0
    refine ⟨h1, ?_⟩
    rw [h2.length, List.length_map]
    exact Nat.le_refl _
theorem walkD_tup {a : Addr} {xs : List D} {vs : List V} (r1 : Rel K C st1 H1) (h1 : SqT K H1 a vs) (h2 : RVs K H1 xs vs) : WalkD K C st1 H1 (Itt K a) xs (fun _ => True) where
  go := fun i st H hi k r ok => by
    obtain ⟨v, hv, _⟩ := h2.get (List.getElem?_eq_getElem hi)
    exact ⟨vs, v, sqT_keep r1 k h1, hv⟩
  yld := fun i st H x H' hi k r ok y => by
    obtain ⟨rfl, y⟩ := y
    obtain ⟨d, hd, hr⟩ := h2.getV (y vs (sqT_keep r1 k h1))
    exact ⟨d, hd, r, Keep.refl, RV.keep r1 k _ _ hr⟩
  stop := fun st H k r ok => ⟨vs, sqT_keep r1 k h1, Nat.le_of_eq h2.length⟩
theorem walkD_range {lo : Int} {n : Nat} : WalkD K C st1 H1 (Itr lo n) ((List.range n).map fun (i : Nat) => D.int (lo + i)) (fun _ => True) where
  go := fun i st H hi k r ok => by
    have : i < n := by simpa using hi
    exact this
  yld := fun i st H x H' hi k r ok y => by
    obtain ⟨rfl, rfl⟩ := y
    have hi' : i < n := by simpa using hi
    exact ⟨.int (lo + i), by simp [hi'], r, Keep.refl, rv_int.mpr rfl⟩
  stop := fun st H k r ok => by
    show n ≤ _
    simp
theorem walkD_rangeC {lo c : Int} {n : Nat} : WalkD K C st1 H1 (Itc lo c n) ((List.range n).map fun (i : Nat) => D.int (lo + i * c)) (fun _ => True) where
  go := fun i st H hi k r ok => by
    have : i < n := by simpa using hi
    exact this
  yld := fun i st H x H' hi k r ok y => by
    obtain ⟨rfl, rfl⟩ := y
    have hi' : i < n := by simpa using hi
    exact ⟨.int (lo + i * c), by simp [hi'], r, Keep.refl, rv_int.mpr rfl⟩
  stop := fun st H k r ok => by
    show n ≤ _
    simp
theorem zipIdx_get {xs : List D} {i : Nat} {d : D} (h : xs[i]? = some d) : (xs.zipIdx.map fun p => D.tup [.int p.2, p.1])[i]? = some (.tup [.int i, d]) := by
  simp [List.getElem?_map, List.getElem?_zipIdx, h]
theorem walkD_enumL {a : Addr} {xs : List D} : WalkD K C st1 H1 (Ite K a) (xs.zipIdx.map fun p => .tup [.int p.2, p.1]) (fun st => rdL C st a = some xs) where
  go := fun i st H hi _ r ok => by
    obtain ⟨vs, h1, h2⟩ := r.rd ok
    have hi' : i < xs.length := by simpa using hi
    obtain ⟨v, hv, _⟩ := h2.get (List.getElem?_eq_getElem hi')
    exact ⟨vs, v, h1, hv⟩
  yld := fun i st H x H' hi _ r ok y => by
    obtain ⟨T, u, rfl, hT, rfl, y⟩ := y
    obtain ⟨vs, h1, h2⟩ := r.rd ok
    obtain ⟨d, hd, hr⟩ := h2.getV (y vs h1)
    have k : Keep st H st (upd H T (.tup [.int (i : Nat), u])) := Keep.newT hT
    exact ⟨_, zipIdx_get hd, r.newT hT, k, rv_tupH.mpr ⟨T, _, rfl, upd_same, RVs.cons (rv_int.mpr rfl) (RVs.cons (RV.keep r k _ _ hr) RVs.nil)⟩⟩
  stop := fun st H _ r ok => by
    obtain ⟨vs, h1, h2⟩ := r.rd ok
    exact ⟨vs, h1, by rw [h2.length]; simp⟩
theorem walkD_enumT {a : Addr} {xs : List D} {vs : List V} (r1 : Rel K C st1 H1) (h1 : SqT K H1 a vs) (h2 : RVs K H1 xs vs) : WalkD K C st1 H1 (IteT K a) (xs.zipIdx.map fun p => .tup [.int p.2, p.1]) (fun _ => True) where
  go := fun i st H hi k r ok => by
    have hi' : i < xs.length := by simpa using hi
    obtain ⟨v, hv, _⟩ := h2.get (List.getElem?_eq_getElem hi')
    exact ⟨vs, v, sqT_keep r1 k h1, hv⟩
  yld := fun i st H x H' hi k r ok y => by
    obtain ⟨T, u, rfl, hT, rfl, y⟩ := y
    obtain ⟨d, hd, hr⟩ := h2.getV (y vs (sqT_keep r1 k h1))
    have k2 : Keep st H st (upd H T (.tup [.int (i : Nat), u])) := Keep.newT hT
    exact ⟨_, zipIdx_get hd, r.newT hT, k2, rv_tupH.mpr ⟨T, _, rfl, upd_same, RVs.cons (rv_int.mpr rfl) (RVs.cons (RV.keep r k2 _ _ (RV.keep r1 k _ _ hr)) RVs.nil)⟩⟩
  stop := fun st H k r ok => ⟨vs, sqT_keep r1 k h1, by rw [h2.length]; simp⟩
end
/-- what is handed to the loop: the items of the arguments, by kind -/
def ItR (K : PySem.W.Frag) (C : KstT Tb) (st : Sto) (H : Hp) (R : It → Hp → Prop) : List D → (Sto → Prop) → Prop := fun xs ok => ∀ J, WalkD K C st H J xs ok → R J H
end MP

set_option Elab.async false
set_option linter.all false
set_option maxRecDepth 100000
set_option maxHeartbeats 4000000
/-! MpF: from the model's syntax to the small language. -/
namespace MP
open PySem

def idx : List Str → Str → Option Nat
  | [], _ => none
  | y :: ys, x => if y = x then some 0 else (idx ys x).map (· + 1)
theorem idx_get : ∀ {N : List Str} {x : Str} {i : Nat}, idx N x = some i → N[i]? = some x
  | [], _, _, h => by simp [idx] at h
  | y :: ys, x, i, h => by
    unfold idx at h
    split at h
    · rename_i e
      cases h
      rw [e] <;> rfl
    · cases q : idx ys x with
      | none => rw [q] at h; simp at h
      | some j =>
        rw [q] at h
        have h' : j + 1 = i := by simpa using h
        subst h'
        exact idx_get (N := ys) q
def visB (sc : Scope) (x : Str) : Bool := match sc.names.lookup x with
  | some .local => true | some .cell => true | some .free => true | _ => false
def globB (sc : Scope) (x : Str) : Bool := match sc.names.lookup x with
  | some .globalImplicit => true | _ => false
def locB (fb : Str → Bool) (sc : Scope) (x : Str) : Bool := match sc.names.lookup x with
  | some .local => true | some .cell => fb x | _ => false
/-- the built-in functions with a meaning here -/
def bltB (f : Str) : Bool := f = "len" ∨ f = "int" ∨ f = "abs" ∨ f = "max" ∨ f = "min" ∨ f = "sum" ∨ f = "tuple" ∨ f = "list" ∨ f = "sorted"
def namesB (f : Str) : Bool := bltB f ∨ f = "isinstance" ∨ f = "range" ∨ f = "enumerate" ∨ f = "bool" ∨ f = "str" ∨ f = "sorted"
def ownOf (N : List Str) (scope : Scope) : List (Str × Nat) := scope.names.filterMap fun (x, k) => match k with
  | .local => (idx N x).map fun i => (x, i)
  | .cell => (idx N x).map fun i => (x, i)
  | _ => none
def kwNames : List Keyword → Option (List Str)
  | [] => some []
  | ⟨some x, _, _⟩ :: r => (kwNames r).map (x :: ·)
  | ⟨none, _, _⟩ :: _ => none
def isiT (f : Str) : Option String :=
  if f = "int" then some "int" else if f = "bool" then some "bool" else if f = "str" then some "str" else if f = "tuple" then some "tuple" else if f = "list" then some "list" else none
mutual
def slotsG : G → List Nat
  | .nm i => [i]
  | .tup gs => slotsGs gs
def slotsGs : List G → List Nat
  | [] => []
  | g :: gs => slotsG g ++ slotsGs gs
end
mutual
def cG (N : List Str) (sc : Scope) (fb : Str → Bool) : Expr → Option G
  | .Name x _ => if locB fb sc x then (idx N x).map .nm else none
  | .Tuple es _ _ => (cGs N sc fb es).map .tup
  | _ => none
def cGs (N : List Str) (sc : Scope) (fb : Str → Bool) : List Expr → Option (List G)
  | [] => some []
  | e :: es => match cG N sc fb e, cGs N sc fb es with
    | some g, some gs => some (g :: gs)
    | _, _ => none
end
def isTup : Expr → Bool
  | .Tuple _ _ _ => true
  | _ => false
def plainO : Expr → Bool
  | .Call _ [] [] _ => false
  | _ => true
def isSlice : Expr → Bool
  | .Slice _ _ _ _ => true
  | _ => false
def cL (f : Expr → Option E) : List Expr → Option (List E)
  | [] => some []
  | e :: es => match f e, cL f es with
    | some m, some ms => some (m :: ms)
    | _, _ => none
def cO (f : Expr → Option E) : Option Expr → Option (Bool × E)
  | none => some (false, .non)
  | some e => (f e).map fun m => (true, m)
def cKw (f : Expr → Option E) : List Keyword → Option (List E)
  | [] => some []
  | ⟨_, e, _⟩ :: ks => match f e, cKw f ks with
    | some m, some ms => some (m :: ms)
    | _, _ => none
/-- what a loop walks: the kind, the arguments -/
def cI (f : Expr → Option E) (sc : Scope) (tg iter : Expr) : Option (IK × List E) :=
  match iter with
  | .Call (.Name g p) as [] pos =>
    if globB sc g && decide (g = "range") && decide (as.length = 1 ∨ as.length = 2 ∨ as.length = 3) then (cL f as).map fun ms => (.range, ms)
    else if globB sc g && decide (g = "enumerate") && isTup tg && decide (as.length = 1) then (cL f as).map fun ms => (.enum, ms)
    else (f (.Call (.Name g p) as [] pos)).map fun m => (.seq, [m])
  | iter => (f iter).map fun m => (.seq, [m])
/-- a def that holds a lambda bears this name in its list of names -/
def lamMark : Str := "<lambda>"
/-- a def that holds a generator expression bears this name -/
def genMark : Str := "<genexpr>"
/-- an attribute that a def reads or writes is named so in its list of names -/
def fldMark (f : Str) : Str := "<fld> " ++ f
/-- a def whose dicts have tuples as keys bears this name -/
def tupMark : Str := "<tkeys>"
/-- the names of sum(1 for x in .. if x + T[0] < A + T[1]), T and A names of the def -/
def genB (N : List Str) (sc scope : Scope) (x x2 T T2 A : Str) : Bool :=
  decide (x2 = x) && decide (T2 = T) && decide (scope.kind = .function) && !scope.isCoroutine && (scope.names.all fun y => !decide (y.2 = .cell)) && decide (scope.names.lookup (".0" : Str) = some .local) && decide (scope.names.lookup x = some .local) &&
    decide (scope.names.lookup T = some .free) && decide (scope.names.lookup A = some .free) && (scope.names.all fun y => !decide (y.2 = .free) || decide (sc.names.lookup y.1 = some .cell)) && decide (sc.names.lookup T = some .cell) && decide (sc.names.lookup A = some .cell) &&
    !(x == ("__debug__" : Str)) && !(T == ("__debug__" : Str)) && !(A == ("__debug__" : Str)) && !(T == ("__classdict__" : Str)) && !(A == ("__classdict__" : Str)) && decide (genMark ∈ N)
def cGen (f : Expr → Option E) (N : List Str) (sc : Scope) : List Expr → Option E
  | [.GeneratorExp (.Constant (.int 1) _ _) [⟨.Name x _, .Name it pit, [.Compare (.BinOp (.Name x2 _) .Add (.Subscript (.Name T _) (.Constant (.int 0) _ _) _) _) [.Lt] [.BinOp (.Name A _) .Add (.Subscript (.Name T2 _) (.Constant (.int 1) _ _) _) _] _], 0⟩] scope _] =>
    if genB N sc scope x x2 T T2 A then (match f (.Name it pit), idx N T, idx N A with
      | some m, some i, some j => some (.blt "cntlt" [m, .var i, .var j])
      | _, _, _ => none)
    else none
  | _ => none
/-- key=lambda x: x[0] -/
def lamKey : Keyword → Bool
  | ⟨some kn, .Lambda ⟨[], [⟨x, none, _⟩], none, [], [], none, []⟩ (.Subscript (.Name y _) (.Constant (.int 0) _ _) _) ⟨.function, [(z, .local)], false, false, _⟩ _, _⟩ =>
    decide (kn = "key") && decide (y = x) && decide (z = x) && !(x == ("__debug__" : Str)) && !(x == ("__classdict__" : Str))
  | _ => false
/-- list(range(a)) -/
def lrOf (sc : Scope) (f : Str) : List Expr → Option Expr
  | [.Call (.Name r _) [a] [] _] => if f = "list" ∧ r = "range" ∧ globB sc "range" = true then some a else none
  | _ => none
/-- the keys and values of a display, in turn -/
def cPrs (f : Expr → Option E) : List (Option Expr) → List Expr → Option (List (E × E))
  | [], [] => some []
  | some k :: ks, v :: vs => match f k, f v, cPrs f ks vs with
    | some a, some b, some r => some ((a, b) :: r)
    | _, _, _ => none
  | _, _ => none
def flatP : List (E × E) → List E
  | [] => []
  | (a, b) :: r => a :: b :: flatP r
def cE (df : Str → Bool) : Nat → List Str → Scope → Expr → Option E
  | 0, _, _, _ => none
  | n + 1, N, sc, e => match e with
  | .Name x _ => if visB sc x && !(x == ("__debug__" : Str)) && !(x == ("__classdict__" : Str)) then (idx N x).map .var else none
  | .Constant c _ _ => match c with
    | .none => some .non
    | .bool b => some (.bl b)
    | .int n => some (.int n)
    | .str s => some (.str s)
    | _ => none
  | .BinOp a op b _ => match cE df n N sc a, cE df n N sc b with
    | some a', some b' => some (.bin op a' b')
    | _, _ => none
  | .UnaryOp op a _ => match op, cE df n N sc a with
    | .USub, some a' => some (.neg a')
    | .Not, some a' => some (.not a')
    | _, _ => none
  | .Compare a ops bs _ => match ops, bs with
    | [op], [b] => if behindInMarks op b then none else match cE df n N sc a, cE df n N sc b with
      | some a', some b' => some (.cmp op a' b')
      | _, _ => none
    | [op, op'], [b, c] => if behindInMarks op b || behindInMarks op' c then none else match cE df n N sc a, cE df n N sc b, cE df n N sc c with
      | some a', some b', some c' => some (.cmp2 op op' a' b' c')
      | _, _, _ => none
    | _, _ => none
  | .BoolOp op es _ => match cL (cE df n N sc) es with
    | some (m :: ms) => some (.bop op (m :: ms))
    | _ => none
  | .IfExp c a b _ => match cE df n N sc c, cE df n N sc a, cE df n N sc b with
    | some c', some a', some b' => some (.ite c' a' b')
    | _, _, _ => none
  | .Tuple es _ _ => if es.length ≤ 1000 then (cL (cE df n N sc) es).map .tup else none
  | .List es _ => if es.length ≤ 1000 then (cL (cE df n N sc) es).map .lst else none
  | .Subscript a i _ => match i with
    | .Slice lo hi none _ => match cE df n N sc a, cO (cE df n N sc) lo, cO (cE df n N sc) hi with
      | some a', some (hl, lo'), some (hh, hi') => some (.slc a' hl lo' hh hi')
      | _, _, _ => none
    | .Slice _ _ (some _) _ => none
    | i => match cE df n N sc a, cE df n N sc i with
      | some a', some i' => some (.ix a' i')
      | _, _ => none
  | .Call f as ks pos => match f with
    | .Name f _ => if globB sc f && !(f == ("__debug__" : Str)) && !(f == ("__name__" : Str)) then
        (match ks with
        | [] =>
          if bltB f then (match lrOf sc f as with
            | some a => (cE df n N sc a).map fun m => .blt "lrange" [m]
            | none => match cL (cE df n N sc) as with
            | some (m :: ms) => some (.blt f (m :: ms))
            | _ => if f = "sum" then cGen (cE df n N sc) N sc as else none)
          else if f = "isinstance" then (match as with
            | [e, .Name T _] => (match cE df n N sc e, (if globB sc T then isiT T else none) with
              | some e', some T' => some (.isi e' T')
              | _, _ => none)
            | _ => none)
          else if namesB f || !(df f) then none
          else match cL (cE df n N sc) as with
            | some ms => some (.call f ms [] [])
            | none => none
        | k :: ks => if f = "sorted" then (match as, ks with
          | [e], [] => if lamKey k && decide (lamMark ∈ N) then (cE df n N sc e).map fun m => .blt "sorted0" [m] else none
          | _, _ => none)
        else if namesB f || !(df f) then none else match cL (cE df n N sc) as, kwNames (k :: ks), cKw (cE df n N sc) (k :: ks) with
          | some ms, some xs, some ns => if xs = askK then none else some (.call f ms xs ns)
          | _, _, _ => none)
        else none
    | .Attribute o m apos => match ks with
      | [] => if apos.endLine == pos.line && decide (as.length < 20) && decide (m = "append" ∨ m = "extend" ∨ m = "pop" ∨ m = "reverse") && plainO o then (match cE df n N sc o, cL (cE df n N sc) as with
        | some o', some as' => some (.mth .list m o' as')
        | _, _ => none) else if apos.endLine == pos.line && decide (m = "get" ∨ m = "setdefault") && plainO o then (match as with
          | [a1] => if m = "get" then (match cE df n N sc o, cE df n N sc a1 with
            | some o', some b1 => some (.mth .dict m o' [b1])
            | _, _ => none) else none
          | [a1, a2] => (match cE df n N sc o, cE df n N sc a1, cE df n N sc a2 with
            | some o', some b1, some b2 => if isTup a1 then (if m = "get" then some (.mth .dict "tget" o' [b1, b2]) else none) else some (.mth .dict m o' [b1, b2])
            | _, _, _ => none)
          | _ => none)
        else if apos.endLine == pos.line && decide (m = "bit_length") && plainO o then (match as with
          | [] => (cE df n N sc o).map fun o' => .blt "bitlen" [o']
          | _ => none)
        else if apos.endLine == pos.line && decide (as.length < 20) && plainO o then (match cE df n N sc o, cL (cE df n N sc) as with
          | some o', some as' => some (.um o' m as')
          | _, _ => none)
        else none
      | _ => none
    | _ => none
  | .Dict ks vs _ => match ks, vs with
    | [], [] => if tupMark ∈ N then some (.blt "tdict" []) else some .dnew
    | k :: ks, vs => if ks.length ≤ 14 then (cPrs (cE df n N sc) (k :: ks) vs).map fun ms => .blt "dlit" (flatP ms) else none
    | _, _ => none
  | .Attribute o f _ => if decide (fldMark f ∈ N) && plainO o then (cE df n N sc o).map fun o' => .fld o' f else none
  | .DictComp kx vx gens scope _ => match gens with
    | [⟨tg, iter, ifs, z⟩] =>
      if z = 0 ∧ L2.blkC N sc scope (ownOf N scope) = true ∧ ifs.length ≤ 1 then
        (match cG N (L2.relS scope sc) (fun x => scope.names.lookup x == some .cell) tg, cL (cE df n N (L2.relS scope sc)) ifs, cE df n N (L2.relS scope sc) kx, cE df n N (L2.relS scope sc) vx with
        | some g, some ifs', some kx', some vx' =>
          if (slotsG g).all fun i => (ownOf N scope).any fun p => p.2 == i then
            (cI (cE df n N sc) sc tg iter).map fun ka => if isTup kx then .dcT kx' vx' g ka.1 ka.2 ifs' ((ownOf N scope).map (·.2)) else .dc kx' vx' g ka.1 ka.2 ifs' ((ownOf N scope).map (·.2))
          else none
        | _, _, _, _ => none)
      else none
    | _ => none
  | .ListComp elt gens scope _ => match gens with
    | [⟨tg, iter, ifs, z⟩] =>
      if z = 0 ∧ L2.blkC N sc scope (ownOf N scope) = true ∧ ifs.length ≤ 1 then
        (match cG N (L2.relS scope sc) (fun x => scope.names.lookup x == some .cell) tg, cL (cE df n N (L2.relS scope sc)) ifs, cE df n N (L2.relS scope sc) elt with
        | some g, some ifs', some elt' =>
          if (slotsG g).all fun i => (ownOf N scope).any fun p => p.2 == i then
            (cI (cE df n N sc) sc tg iter).map fun ka => .lc elt' g ka.1 ka.2 ifs' ((ownOf N scope).map (·.2))
          else none
        | _, _, _ => none)
      else none
    | _ => none
  | _ => none
end MP

set_option Elab.async false
set_option linter.all false
set_option maxRecDepth 100000
set_option maxHeartbeats 4000000
/-! MpG: expressions: what the small language says is what the model does. -/
namespace MP
open PySem PySem.Spec L2
variable {Tb : TabL}

/-! ### slots -/
def RS (K : PySem.W.Frag) (H : Hp) (σ : Env) (τ : L2.St) : Prop := τ.length = σ.length ∧ ∀ (i : Nat) (d : D), σ[i]? = some (some d) → ∃ v, τ[i]? = some (some v) ∧ RV K H d v
section
variable {K : PySem.W.Frag} {C : KstT Tb} {st st' : Sto} {H H' : Hp} {σ : Env} {τ : L2.St}
theorem RS.keep (r : Rel K C st H) (k : Keep st H st' H') (h : RS K H σ τ) : RS K H' σ τ := ⟨h.1, fun i d e => by
  obtain ⟨v, e1, e2⟩ := h.2 i d e
  exact ⟨v, e1, RV.keep r k d v e2⟩⟩
theorem RS.set {i : Nat} {d : D} {v : V} (h : RS K H σ τ) (hv : RV K H d v) : RS K H (σ.set i (some d)) (τ.set i (some v)) := by
  refine ⟨by rw [List.length_set, List.length_set]; exact h.1, fun j e q => ?_⟩
  by_cases hj : i = j
  · subst hj
    by_cases hi : i < σ.length
    · rw [List.getElem?_set_self hi] at q
      cases q
      exact ⟨v, by rw [List.getElem?_set_self (by rw [h.1]; exact hi)], hv⟩
    · rw [List.getElem?_eq_none (by rw [List.length_set]; omega)] at q
      cases q
  · rw [List.getElem?_set_ne hj] at q ⊢
    exact h.2 j e q
theorem RS.wipe (h : RS K H σ τ) : ∀ vs : List Nat, RS K H (wipeE σ vs) (wipe τ vs)
  | [] => h
  | v :: vs => by
    have ih := RS.wipe h vs
    show RS K H ((wipeE σ vs).set v none) ((L2.wipe τ vs).set v none)
    refine ⟨by rw [List.length_set, List.length_set]; exact ih.1, fun j e q => ?_⟩
    by_cases hj : v = j
    · subst hj
      by_cases hi : v < (wipeE σ vs).length
      · rw [List.getElem?_set_self hi] at q
        cases q
      · rw [List.getElem?_eq_none (by rw [List.length_set]; omega)] at q
        cases q
    · rw [List.getElem?_set_ne hj] at q ⊢
      exact ih.2 j e q
end
/-! ### the wanted ends -/
def PQs (K : PySem.W.Frag) (C : KstT Tb) (st : Sto) (H : Hp) (Q : List V → Hp → Prop) : List D → Sto → Prop := fun ds st' => ∀ H' vs, Rel K C st' H' → Keep st H st' H' → RVs K H' ds vs → Q vs H'
def PB (K : PySem.W.Frag) (C : KstT Tb) (st : Sto) (H : Hp) (Q : Bool → Hp → Prop) : Bool → Sto → Prop := fun b st' => ∀ H', Rel K C st' H' → Keep st H st' H' → Q b H'
section
variable {K : PySem.W.Frag} {C : KstT Tb} {st st2 : Sto} {H H2 : Hp}
theorem PQ.next {Q : VK} (k : Keep st H st2 H2) : ∀ d s, PQ K C st H Q d s → PQ K C st2 H2 Q d s := fun d s h H' v r k' hv => h H' v r (k.trans k') hv
theorem PQs.next {Q : List V → Hp → Prop} (k : Keep st H st2 H2) : ∀ d s, PQs K C st H Q d s → PQs K C st2 H2 Q d s := fun d s h H' v r k' hv => h H' v r (k.trans k') hv
theorem PB.next {Q : Bool → Hp → Prop} (k : Keep st H st2 H2) : ∀ d s, PB K C st H Q d s → PB K C st2 H2 Q d s := fun d s h H' r k' => h H' r (k.trans k')
end
def denE (K : PySem.W.Frag) (F : KstT Tb → Fs) (m : E) : TE := fun τ H Q => ∃ (C : KstT Tb) (σ : Env) (st : Sto), RS K H σ τ ∧ Rel K C st H ∧ evE (F C) C m σ st (PQ K C st H Q)
def denEs (K : PySem.W.Frag) (F : KstT Tb → Fs) (ms : List E) : TA := fun τ H Q => ∃ (C : KstT Tb) (σ : Env) (st : Sto), RS K H σ τ ∧ Rel K C st H ∧ evEs (F C) C ms σ st (PQs K C st H Q)
def denB (K : PySem.W.Frag) (F : KstT Tb → Fs) (op : BoolOp) (ms : List E) : TE := fun τ H Q => ∃ (C : KstT Tb) (σ : Env) (st : Sto), RS K H σ τ ∧ Rel K C st H ∧ evB (F C) C op ms σ st (PQ K C st H Q)
def denT (K : PySem.W.Frag) (F : KstT Tb → Fs) (m : E) : TT := fun τ H Q => ∃ (C : KstT Tb) (σ : Env) (st : Sto), RS K H σ τ ∧ Rel K C st H ∧ evT (F C) C m σ st (PB K C st H Q)
def denBT (K : PySem.W.Frag) (F : KstT Tb → Fs) (op : BoolOp) (ms : List E) : TT := fun τ H Q => ∃ (C : KstT Tb) (σ : Env) (st : Sto), RS K H σ τ ∧ Rel K C st H ∧ evBT (F C) C op ms σ st (PB K C st H Q)
def denTs (K : PySem.W.Frag) (F : KstT Tb → Fs) (ms : List E) : TT := fun τ H Q => ∃ (C : KstT Tb) (σ : Env) (st : Sto), RS K H σ τ ∧ Rel K C st H ∧ evTs (F C) C ms σ st (PB K C st H Q)
theorem PE.imp {X : Cx} {e : Expr} {t t' : TE} (h : PE X e t) (f : ∀ σ H Q, t' σ H Q → t σ H Q) : PE X e t' := ⟨fun pins s σ H Q I q => h.run pins s σ H Q I (f σ H Q q)⟩
theorem PT.imp {X : Cx} {e : Expr} {t t' : TT} (h : PT X e t) (f : ∀ σ H Q, t' σ H Q → t σ H Q) : PT X e t' := ⟨fun pins s σ H Q I q => h.run pins s σ H Q I (f σ H Q q)⟩
theorem PW.imp {X : Cx} {e : Expr} {t t' : TT} (h : PW X e t) (f : ∀ σ H Q, t' σ H Q → t σ H Q) : PW X e t' := ⟨fun w pins s σ H Q I q => h.run w pins s σ H Q I (f σ H Q q)⟩
theorem PA.imp {X : Cx} {e : List Expr} {t t' : TA} (h : PA X e t) (f : ∀ σ H Q, t' σ H Q → t σ H Q) : PA X e t' := ⟨fun p pins s σ H Q I q => h.run p pins s σ H Q I (f σ H Q q)⟩
theorem PK.imp {X : Cx} {e : List Keyword} {t t' : TA} (h : PK X e t) (f : ∀ σ H Q, t' σ H Q → t σ H Q) : PK X e t' := ⟨fun p pins s σ H Q I q => h.run p pins s σ H Q I (f σ H Q q)⟩

/-! ### a def that may be called -/
def spF (Tb : TabL) (K : PySem.W.Frag) (P : Str → Option Fn) (n : Nat) (f : Str) (fn : Fn) : Sp := fun vs H Q _ => vs.length = fn.ps.length ∧ liftL K (fun (C : KstT Tb) us st R => bodyF P C n f us st R) vs H Q
/-- a def at an address -/
def DefI (Tb : TabL) (P : Str → Option Fn) (n : Nat) (X : Cx) (f : Str) (fn : Fn) (a : Addr) : Prop :=
  PySem.W.keepIn X.K (.ref a) = true ∧ ∃ fd : FuncData, FnOk X.prog X.w X.K X.mg X.base CX0 n a fd fn.ps (spF Tb X.K P n f fn) ∧
    ∀ (i : Nat) (ks : List Str), (i, ks) ∈ fn.pat → ∀ (us ws rs : List Value) (s : Shared), us.length = i → ws.length = ks.length → bindA fn.ps us ks ws = some rs → X.K.In s.heap → rs.length = fn.ps.length ∧ BindsTo s fd ⟨us, ks.zip ws⟩ (fn.ps.zip rs)
/-- a class at an address: its __init__ -/
def MkI (Tb : TabL) (P : Str → Option Fn) (n : Nat) (X : Cx) (f : Str) (fn : Fn) (a : Addr) : Prop :=
  fn.body = [.new f] ∧ fn.nv = fn.ps.length ∧ (∀ p ∈ fn.pat, p.2 = []) ∧ (f, a) ∈ Tb.cls ∧ ∃ (fI : Addr) (fd : FuncData) (gn : Fn), Mk X.K a fI ∧ P (mname f "__init__") = some gn ∧ Binds X.K fd gn.ps [] ∧
    ∀ k, n = k + 1 → FnOk X.prog X.w X.K X.mg X.base CX0 k fI fd gn.ps (spF Tb X.K P k (mname f "__init__") gn)
structure FnI (Tb : TabL) (P : Str → Option Fn) (n : Nat) (X : Cx) (f : Str) (fn : Fn) : Prop where
  ex : ∃ (a : Addr), X.mg f = some (.ref a) ∧ (DefI Tb P n X f fn a ∨ MkI Tb P n X f fn a)
/-- where one stands -/
structure Cxt (Tb : TabL) (P : Str → Option Fn) (n : Nat) (N : List Str) (sc : Scope) (fb : Str → Bool) (X : Cx) : Prop where
  calm : X.calm = true
  hN : X.N = N
  nd : N.Nodup
  scE : X.env.scope = sc
  kind : sc.kind = .function
  fn : ∀ x, X.fn x = fb x
  room : Room n X.A
  bl : ∀ f, namesB f = true → X.mg f = none
  fs : ∀ f fn, P f = some fn → fn.kd ≠ 2 → FnI Tb P n X f fn
  cls : ∀ q ∈ Tb.cls, Cls X.K q.2
  fld : ∀ f, fldMark f ∈ N → ∀ q ∈ Tb.cls, NoAttr X.K q.2 f
  mth : ∀ q ∈ Tb.cls, ∀ m fn, P (mname q.1 m) = some fn → ∃ a, Meth X.K q.2 m a ∧ DefI Tb P n X (mname q.1 m) fn a
  lam : ∀ mk : Str, (mk = lamMark ∨ mk = genMark) → mk ∈ N → ∃ (c p : Addr), LamX.TabB X.base X.mg c p ∧ X.env.code = .ref c ∧ (p, X.env.qual ++ mk) ∈ Tb.tabs ∧ ∀ q ∈ Tb.tabs, q.1 = p → q.2 = X.env.qual ++ mk
section
variable {P : Str → Option Fn} {df : Str → Bool} {n : Nat} {N : List Str} {sc : Scope} {fb : Str → Bool} {X : Cx}
theorem Cxt.hu (c : Cxt Tb P n N sc fb X) : X.A.units + 64 < cLine := c.room.units
theorem Cxt.glob (c : Cxt Tb P n N sc fb X) {x : Str} (h : globB sc x = true) : Gl X x := by
  unfold globB at h
  unfold Gl Env.kindOf
  rw [c.scE]
  split at h
  · assumption
  · cases h
theorem Cxt.vis (c : Cxt Tb P n N sc fb X) {x : Str} (h : visB sc x = true) : Vis X.env.scope x := by
  unfold visB at h
  unfold Vis
  rw [c.scE]
  split at h
  · exact .inl (by assumption)
  · exact .inr (.inl (by assumption))
  · exact .inr (.inr (by assumption))
  · cases h
theorem Cxt.loc (c : Cxt Tb P n N sc fb X) {x : Str} (h : locB fb sc x = true) : L2.Loc X.env.scope x ∧ (X.fn x = true ∨ X.env.scope.names.lookup x = some .local) := by
  unfold locB at h
  unfold L2.Loc
  rw [c.scE, c.fn]
  split at h
  · rename_i e; exact ⟨.inl e, .inr e⟩
  · rename_i e; exact ⟨.inr e, .inl h⟩
  · cases h
theorem Cxt.get (c : Cxt Tb P n N sc fb X) {x : Str} {i : Nat} (h : idx N x = some i) : X.N[i]? = some x := by rw [c.hN]; exact idx_get h
/-- a callee runs -/
theorem run_call {f : Str} {fn : Fn} {i : Nat} {ks : List Str} {pins : List (Addr × Obj)} {σ : L2.St} {H : Hp} {s : Shared} {Q : VK} {a : Addr} {fd : FuncData} {us ws : List Value} {vs zs : List V} {ds es : List D} {C : KstT Tb} {st : Sto}
    (F : FnOk X.prog X.w X.K X.mg X.base CX0 n a fd fn.ps (spF Tb X.K P n f fn)) (hr : Room n X.A)
    (hb : ∀ (us ws rs : List Value) (s : Shared), us.length = i → ws.length = ks.length → bindA fn.ps us ks ws = some rs → X.K.In s.heap → rs.length = fn.ps.length ∧ BindsTo s fd ⟨us, ks.zip ws⟩ (fn.ps.zip rs))
    (I : L2.Inv X pins σ H s) (r : Vals vs us) (rz : Vals zs ws) (hds : RVs X.K H ds vs) (hes : RVs X.K H es zs) (rel : Rel X.K C st H) (hi : ds.length = i) (hk : es.length = ks.length)
    (h : match bindA fn.ps ds ks es with | some us => bodyF P C n f us st (PQ X.K C st H Q) | none => False) : wpAny (model X.prog X.w) X.A (call (.ref a) us (ks.zip ws)) (EP X pins σ Q) X.xe s := by
  have look : ∀ (ks : List Str) (es : List D) (zs : List V) (ws : List Value) (p : Str) (d : D), RVs X.K H es zs → Vals zs ws → (ks.zip es).lookup p = some d → ∃ z w, (ks.zip zs).lookup p = some z ∧ (ks.zip ws).lookup p = some w ∧ RV X.K H d z ∧ RelV z w := by
    intro ks
    induction ks with
    | nil => intro es zs ws p d _ _ e; simp at e
    | cons k ks ih =>
      intro es zs ws p d h1 h2 e
      cases es with
      | nil => simp at e
      | cons e0 es =>
        obtain ⟨z, zs', rfl, h3, h4⟩ := h1.cons_inv
        cases h2 with
        | cons r2 t2 =>
          simp only [List.zip_cons_cons, List.lookup_cons] at e ⊢
          cases hp : p == k with
          | true =>
            rw [hp] at e
            cases e
            exact ⟨z, _, rfl, rfl, h3, r2⟩
          | false =>
            rw [hp] at e
            exact ih es zs' _ p d h4 t2 e
  have all : ∀ (qs : List Str) (rs : List D), kwAll ks es qs = some rs → ∃ zr wr, kwAll ks ws qs = some wr ∧ RVs X.K H rs zr ∧ Vals zr wr := by
    intro qs
    induction qs with
    | nil => intro rs e; cases e; exact ⟨[], [], rfl, RVs.nil, .nil⟩
    | cons q qs ih =>
      intro rs e
      unfold kwAll at e
      split at e
      · rename_i d ds' e1 e2
        cases e
        obtain ⟨zr, wr, h1, h2, h3⟩ := ih ds' e2
        obtain ⟨z, w, h4, h5, h6, h7⟩ := look ks es zs ws q d hes rz e1
        exact ⟨z :: zr, w :: wr, by unfold kwAll; rw [h5, h1], RVs.cons h6 h2, .cons h7 h3⟩
      · cases e
  split at h
  · rename_i us' e
    unfold bindA at e
    split at e
    · rename_i rs' e'
      cases e
      obtain ⟨zr, wr, h1, h2, h3⟩ := all _ _ e'
      have hlen : us.length = ds.length := by rw [← r.length, hds.length]
      have hba : bindA fn.ps us ks ws = some (us ++ wr) := by
        unfold bindA
        rw [hlen, h1]
      obtain ⟨hl, hbt⟩ := hb us ws (us ++ wr) s (by rw [hlen]; exact hi) (by rw [← rz.length, hes.length]; exact hk) hba I.kIn
      have r2 : Vals (vs ++ zr) (us ++ wr) := r.append h3
      have hsp : spF Tb X.K P n f fn (vs ++ zr) H Q E0 := ⟨by rw [r2.length]; exact hl, C, st, ds ++ rs', rel, hds.append h2, h⟩
      refine wpAny_call (codeAny_mono (F.run X.A X.stack s H ⟨us, ks.zip ws⟩ (us ++ wr) (vs ++ zr) Q E0 hr I.env0 hbt r2 hsp) fun r s' hq => ?_)
      cases r with
      | error e => exact False.elim hq
      | ok fl =>
        cases fl with
        | ret u => exact I.after hq
        | next => exact False.elim hq
        | brk => exact False.elim hq
        | cont => exact False.elim hq
    · cases e
  · exact h.elim
theorem kwAll_nil {α : Type} : ∀ {ps : List Str} {ds : List α}, kwAll [] [] ps = some ds → ps = [] ∧ ds = []
  | [], ds, h => by
    have e : [] = ds := by simpa [kwAll] using h
    exact ⟨rfl, e.symm⟩
  | p :: ps, ds, h => by simp [kwAll] at h
theorem bindA_nil {α : Type} {ps : List Str} {vs us : List α} (h : bindA ps vs [] [] = some us) : us = vs ∧ ps.length ≤ vs.length := by
  unfold bindA at h
  split at h
  · rename_i ds e
    cases h
    obtain ⟨e1, e2⟩ := kwAll_nil e
    subst e2
    exact ⟨by simp, by simpa using e1⟩
  · cases h
theorem start_all (vs : List D) : (startE vs.length vs).filterMap id = vs := by
  unfold startE
  rw [Nat.sub_self, List.replicate_zero, List.append_nil, List.filterMap_map]
  show vs.filterMap (fun x => some x) = vs
  exact List.filterMap_some
theorem bodyF_len {P : Str → Option Fn} {C : Kst} {f : Str} {fn : Fn} {us : List D} {st : Sto} {K : D → Sto → Prop} (hP : P f = some fn) : ∀ {n : Nat}, bodyF P C n f us st K → us.length = fn.ps.length
  | 0, h => h.elim
  | n + 1, h => by
    unfold bodyF at h
    rw [hP] at h
    exact h.1
/-- a class called -/
theorem run_cls {f : Str} {fn : Fn} {i : Nat} {ks : List Str} {pins : List (Addr × Obj)} {σ : L2.St} {H : Hp} {s : Shared} {Q : VK} {a : Addr} {us ws : List Value} {vs zs : List V} {ds es : List D} {C : KstT Tb} {st : Sto}
    (M : MkI Tb P n X f fn a) (hr : Room n X.A) (hP : P f = some fn) (hpat : (i, ks) ∈ fn.pat)
    (I : L2.Inv X pins σ H s) (r : Vals vs us) (rz : Vals zs ws) (hds : RVs X.K H ds vs) (hes : RVs X.K H es zs) (rel : Rel X.K C st H) (hk : es.length = ks.length)
    (h : match bindA fn.ps ds ks es with | some us => bodyF P C n f us st (PQ X.K C st H Q) | none => False) : wpAny (model X.prog X.w) X.A (call (.ref a) us (ks.zip ws)) (EP X pins σ Q) X.xe s := by
  obtain ⟨hb, hnv, hp, hcl, fI, fd, gn, mk, hI, hbi, hF⟩ := M
  obtain rfl : ks = [] := hp _ hpat
  have e0 : es = [] := List.eq_nil_of_length_eq_zero hk
  subst e0
  split at h
  · rename_i us' e
    obtain ⟨rfl, _⟩ := bindA_nil e
    cases n with
    | zero => exact h.elim
    | succ k =>
      unfold bodyF at h
      rw [hP] at h
      obtain ⟨hl, h⟩ := h
      unfold bodyK at h
      rw [hb, hnv, ← hl] at h
      unfold evSs at h
      unfold evS at h
      rw [start_all] at h
      rw [List.zip_nil_left]
      refine run_make mk (hF k rfl) hr hbi .nil pass0 I r fun x dx hx hd ne => ?_
      have q := h x (rel.free hx)
      unfold callF callOf at q
      rw [hI] at q
      replace q := (show if ([] : List Str) = askK then True else _ from q)
      rw [if_neg (by decide)] at q
      obtain ⟨q1, q2, q⟩ := q
      split at q
      · rename_i us2 e2
        obtain ⟨rfl, hlen⟩ := bindA_nil e2
        obtain ⟨r2, k2⟩ := rel.newI (c := f) hx hd ne hcl
        have hvs : RVs X.K (upd (upd H dx (.own x)) x (.ins a dx [])) (.ref x :: us') (.ref x :: (vs ++ [])) := by
          rw [List.append_nil]
          exact RVs.cons (rv_ref.mpr rfl) (RVs.keep rel k2 _ _ hds)
        have hz := bodyF_len hI q
        refine ⟨by rw [hvs.length]; exact hz, C, _, _, r2, hvs, bodyF_mono P C k _ _ _ _ _ (fun d st1 ⟨ed, st2, hsub, q⟩ H' v r3 k3 hv => ?_) q⟩
        subst ed
        exact ⟨rv_non.mp hv, q H' _ (r3.sub hsub) ((k2.trans k3).sub hsub) (rv_ref.mpr rfl)⟩
      · exact q.elim
  · exact h.elim
end

/-! ### lists of expressions -/
theorem star_of {df : Str → Bool} {N : List Str} {sc : Scope} {k : Nat} {e : Expr} {m : E} (h : cE df k N sc e = some m) (es : List Expr) (env : PySem.Env) : starEach (e :: es) env = (false, eval e env) :: starEach es env := by
  cases k with
  | zero => simp [cE] at h
  | succ k => cases e <;> first | rfl | (simp [cE] at h)
theorem stars_of {df : Str → Bool} {N : List Str} {sc : Scope} {k : Nat} (pos : Pos) (env : PySem.Env) : ∀ {es : List Expr} {ms : List E}, cL (cE df k N sc) es = some ms → (backTo pos (starEach es env)).any (·.1) = false
  | [], _, _ => rfl
  | e :: es, ms, h => by
    unfold cL at h
    split at h
    · rename_i m ms' h1 h2
      rw [star_of h1 es env]
      show (false || (backTo pos (starEach es env)).any (·.1)) = false
      rw [stars_of pos env h2] <;> rfl
    · cases h
section
variable {P : Str → Option Fn} {df : Str → Bool} {n : Nat} {N : List Str} {sc : Scope} {fb : Str → Bool} {X : Cx}
abbrev FOf (Tb : TabL) (P : Str → Option Fn) (n : Nat) : KstT Tb → Fs := fun C => callF P C n
theorem pa_of {k : Nat} (ih : ∀ e m, cE df k N sc e = some m → PE X e (denE X.K (FOf Tb P n) m)) : ∀ (es : List Expr) (ms : List E), cL (cE df k N sc) es = some ms → PA X es (denEs X.K (FOf Tb P n) ms)
  | [], ms, h => by
    have e : [] = ms := by simpa [cL] using h
    subst e
    refine PA.imp pa_nil fun τ H Q ⟨C, σ, st, rs, rel, q⟩ => ?_
    unfold evEs at q
    exact q H [] rel Keep.refl RVs.nil
  | e :: es, ms, h => by
    unfold cL at h
    split at h
    · rename_i m ms' h1 h2
      cases h
      refine PA.imp (pa_cons (ih e m h1) (pa_of ih es ms' h2) (star_of h1 es X.env)) fun τ H Q ⟨C, σ, st, rs, rel, q⟩ => ?_
      unfold evEs at q
      refine ⟨C, σ, st, rs, rel, evE_mono (callF_mono P C n) _ _ _ _ _ (fun d st1 q H1 v r1 k1 hv => ?_) q⟩
      refine ⟨C, σ, st1, rs.keep rel k1, r1, evEs_mono (callF_mono P C n) _ _ _ _ _ (fun ds st2 q H2 vs r2 k2 hvs => ?_) q⟩
      exact q H2 (v :: vs) r2 (k1.trans k2) (RVs.cons (RV.keep r1 k2 _ _ hv) hvs)
    · cases h
theorem pk_of {k : Nat} (ih : ∀ e m, cE df k N sc e = some m → PE X e (denE X.K (FOf Tb P n) m)) : ∀ (es : List Keyword) (ms : List E), cKw (cE df k N sc) es = some ms → PK X es (denEs X.K (FOf Tb P n) ms)
  | [], ms, h => by
    have e : [] = ms := by simpa [cKw] using h
    subst e
    refine PK.imp pk_nil fun τ H Q ⟨C, σ, st, rs, rel, q⟩ => ?_
    unfold evEs at q
    exact q H [] rel Keep.refl RVs.nil
  | ⟨nm, e, kp⟩ :: es, ms, h => by
    unfold cKw at h
    split at h
    · rename_i m ms' h1 h2
      cases h
      refine PK.imp (pk_cons (ih e m h1) (pk_of ih es ms' h2)) fun τ H Q ⟨C, σ, st, rs, rel, q⟩ => ?_
      unfold evEs at q
      refine ⟨C, σ, st, rs, rel, evE_mono (callF_mono P C n) _ _ _ _ _ (fun d st1 q H1 v r1 k1 hv => ?_) q⟩
      refine ⟨C, σ, st1, rs.keep rel k1, r1, evEs_mono (callF_mono P C n) _ _ _ _ _ (fun ds st2 q H2 vs r2 k2 hvs => ?_) q⟩
      exact q H2 (v :: vs) r2 (k1.trans k2) (RVs.cons (RV.keep r1 k2 _ _ hv) hvs)
    · cases h
theorem kws_of {kws : List Keyword} (pos : Pos) (env : PySem.Env) : ∀ {kws : List Keyword} {ks : List Str}, kwNames kws = some ks →
    (backToKw pos (keywordEach kws env)).all (·.1.isSome) = true ∧ (backToKw pos (keywordEach kws env)).filterMap (·.1) = ks ∧ (backToKw pos (keywordEach kws env)).any (·.1.isNone) = false
  | [], ks, h => by
    have e : [] = ks := by simpa [kwNames] using h
    subst e
    exact ⟨rfl, rfl, rfl⟩
  | ⟨some x, e, kp⟩ :: r, ks, h => by
    unfold kwNames at h
    cases q : kwNames r with
    | none => rw [q] at h; simp at h
    | some ks' =>
      rw [q] at h
      have e' : x :: ks' = ks := by simpa using h
      obtain ⟨h1, h2, h3⟩ := kws_of (kws := r) pos env q
      refine ⟨?_, ?_, ?_⟩
      · show ((some x).isSome && (backToKw pos (keywordEach r env)).all (·.1.isSome)) = true
        rw [h1] <;> rfl
      · rw [← e', ← h2] <;> rfl
      · show ((some x).isNone || (backToKw pos (keywordEach r env)).any (·.1.isNone)) = false
        rw [h3] <;> rfl
  | ⟨none, e, kp⟩ :: r, ks, h => by simp [kwNames] at h
end
end MP

set_option Elab.async false
set_option linter.all false
set_option maxRecDepth 100000
set_option maxHeartbeats 4000000
/-! MpH: expressions: the theorem. -/
namespace MP
open PySem PySem.Spec L2
variable {Tb : TabL}

/-! ### targets -/
def gD (Tb : TabL) (K : PySem.W.Frag) (g : G) : TG := fun v τ H Q => ∃ (C : KstT Tb) (σ : Env) (st : Sto) (d : D) (σ' : Env), RS K H σ τ ∧ Rel K C st H ∧ RV K H d v ∧ bindG g d σ = some σ' ∧
  ∀ τ' : L2.St, RS K H σ' τ' → τ'.length = τ.length → (∀ i, i ∉ slotsG g → τ'[i]? = τ[i]?) → Q τ' H
def gDs (Tb : TabL) (K : PySem.W.Frag) (gs : List G) : TGs := fun vs τ H Q => ∃ (C : KstT Tb) (σ : Env) (st : Sto) (ds : List D) (σ' : Env), RS K H σ τ ∧ Rel K C st H ∧ RVs K H ds vs ∧ bindGs gs ds σ = some σ' ∧
  ∀ τ' : L2.St, RS K H σ' τ' → τ'.length = τ.length → (∀ i, i ∉ slotsGs gs → τ'[i]? = τ[i]?) → Q τ' H
theorem PG.imp {X : Cx} {e : Expr} {t t' : TG} (h : PG X e t) (f : ∀ v σ H Q, t' v σ H Q → t v σ H Q) : PG X e t' := ⟨fun pins s σ H v u Q I r q => h.run pins s σ H v u Q I r (f v σ H Q q)⟩
theorem PGs.imp {X : Cx} {e : List Expr} {t t' : TGs} (h : PGs X e t) (f : ∀ v σ H Q, t' v σ H Q → t v σ H Q) : PGs X e t' := ⟨fun pins s σ H v u Q I r q => h.run pins s σ H v u Q I r (f v σ H Q q)⟩
section
variable {P : Str → Option Fn} {df : Str → Bool} {n : Nat} {N : List Str} {sc : Scope} {fb : Str → Bool} {X : Cx}
theorem tstar {e : Expr} {g : G} (h : cG N sc fb e = some g) (es : List Expr) (env : PySem.Env) : assignEach (e :: es) env = (false, assign e env) :: assignEach es env := by
  cases e <;> first | rfl | (simp [cG] at h)
theorem tstars : ∀ {es : List Expr} {gs : List G}, cGs N sc fb es = some gs → ∀ env : PySem.Env, (assignEach es env).length = es.length ∧ (assignEach es env).findIdx? (·.1) = none
  | [], _, _, _ => ⟨rfl, rfl⟩
  | e :: es, gs, h, env => by
    unfold cGs at h
    split at h
    · rename_i g gs' h1 h2
      obtain ⟨a, b⟩ := tstars h2 env
      rw [tstar h1 es env]
      refine ⟨by rw [List.length_cons, List.length_cons, a], ?_⟩
      rw [List.findIdx?_cons, b] <;> rfl
    · cases h
theorem gs_len : ∀ {es : List Expr} {gs : List G}, cGs N sc fb es = some gs → gs.length = es.length
  | [], gs, h => by
    have e : [] = gs := by simpa [cGs] using h
    rw [← e] <;> rfl
  | e :: es, gs, h => by
    unfold cGs at h
    split at h
    · rename_i g gs' h1 h2
      cases h
      rw [List.length_cons, List.length_cons, gs_len h2]
    · cases h
theorem bindGs_len : ∀ {gs : List G} {ds : List D} {σ σ' : Env}, bindGs gs ds σ = some σ' → ds.length = gs.length
  | [], [], _, _, _ => rfl
  | [], _ :: _, _, _, h => by simp [bindGs] at h
  | _ :: _, [], _, _, h => by simp [bindGs] at h
  | g :: gs, d :: ds, σ, σ', h => by
    unfold bindGs at h
    split at h
    · rw [List.length_cons, List.length_cons, bindGs_len h]
    · cases h
mutual
theorem pg_of (c : Cxt Tb P n N sc fb X) : ∀ (e : Expr) (g : G), cG N sc fb e = some g → PG X e (gD Tb X.K g)
  | .Name x pos, g, h => by
    unfold cG at h
    split at h
    · rename_i hl
      cases hi : idx N x with
      | none => rw [hi] at h; simp at h
      | some i =>
        rw [hi] at h
        have e : G.nm i = g := by simpa using h
        subst e
        obtain ⟨l1, l2⟩ := c.loc hl
        refine PG.imp (pg_name (by rw [c.hN]; exact c.nd) (c.get hi) l1 l2) fun v τ H Q ⟨C, σ, st, d, σ', rs, rel, hv, hb, q⟩ => ?_
        have e2 : σ.set i (some d) = σ' := by simpa [bindG] using hb
        subst e2
        refine q _ (rs.set hv) (by rw [List.length_set]) fun j hj => ?_
        have hj' : j ≠ i := by simpa [slotsG] using hj
        rw [List.getElem?_set_ne (Ne.symm hj')]
    · cases h
  | .Tuple es k pos, g, h => by
    unfold cG at h
    cases hg : cGs N sc fb es with
    | none => rw [hg] at h; simp at h
    | some gs =>
      rw [hg] at h
      have e : G.tup gs = g := by simpa using h
      subst e
      obtain ⟨a1, a2⟩ := tstars hg X.env
      refine PG.imp (pg_tup (n := es.length) c.calm (pgs_of c es gs hg) a1 a2) fun v τ H Q ⟨C, σ, st, d, σ', rs, rel, hv, hb, q⟩ => ?_
      cases d with
      | tup xs =>
        obtain ⟨a, vs, rfl, ha, hvs⟩ := rv_tupS hv
        have hb' : bindGs gs xs σ = some σ' := by simpa [bindG] using hb
        refine ⟨a, vs, rfl, ha, by rw [hvs.length, bindGs_len hb', gs_len hg], C, σ, st, xs, σ', rs, rel, hvs, hb', fun τ' r1 r2 r3 => q τ' r1 r2 fun i hi => r3 i ?_⟩
        simpa [slotsG] using hi
      | _ => simp [bindG] at hb
  | .BoolOp .., g, h => by simp [cG] at h
  | .NamedExpr .., g, h => by simp [cG] at h
  | .BinOp .., g, h => by simp [cG] at h
  | .UnaryOp .., g, h => by simp [cG] at h
  | .Lambda .., g, h => by simp [cG] at h
  | .IfExp .., g, h => by simp [cG] at h
  | .Dict .., g, h => by simp [cG] at h
  | .Set .., g, h => by simp [cG] at h
  | .ListComp .., g, h => by simp [cG] at h
  | .SetComp .., g, h => by simp [cG] at h
  | .DictComp .., g, h => by simp [cG] at h
  | .GeneratorExp .., g, h => by simp [cG] at h
  | .Await .., g, h => by simp [cG] at h
  | .Yield .., g, h => by simp [cG] at h
  | .YieldFrom .., g, h => by simp [cG] at h
  | .Compare .., g, h => by simp [cG] at h
  | .Call .., g, h => by simp [cG] at h
  | .FormattedValue .., g, h => by simp [cG] at h
  | .JoinedStr .., g, h => by simp [cG] at h
  | .Constant .., g, h => by simp [cG] at h
  | .Attribute .., g, h => by simp [cG] at h
  | .Subscript .., g, h => by simp [cG] at h
  | .Starred .., g, h => by simp [cG] at h
  | .List .., g, h => by simp [cG] at h
  | .Slice .., g, h => by simp [cG] at h
theorem pgs_of (c : Cxt Tb P n N sc fb X) : ∀ (es : List Expr) (gs : List G), cGs N sc fb es = some gs → PGs X es (gDs Tb X.K gs)
  | [], gs, h => by
    have e : [] = gs := by simpa [cGs] using h
    subst e
    refine PGs.imp pgs_nil fun vs τ H Q ⟨C, σ, st, ds, σ', rs, rel, hv, hb, q⟩ => ?_
    cases ds with
    | nil =>
      have e2 : σ = σ' := by simpa [bindGs] using hb
      subst e2
      exact ⟨hv.nil_inv, q τ rs rfl fun i hi => rfl⟩
    | cons d ds => simp [bindGs] at hb
  | e :: es, gs, h => by
    unfold cGs at h
    split at h
    · rename_i g gs' h1 h2
      cases h
      refine PGs.imp (pgs_cons (pg_of c e g h1) (pgs_of c es gs' h2) (by rw [tstar h1 es X.env] <;> rfl)) fun vs τ H Q ⟨C, σ, st, ds, σ', rs, rel, hv, hb, q⟩ => ?_
      cases ds with
      | nil => simp [bindGs] at hb
      | cons d ds =>
        obtain ⟨v, ws, rfl, hv1, hv2⟩ := hv.cons_inv
        unfold bindGs at hb
        split at hb
        · rename_i σ1 hb1
          refine ⟨v, ws, rfl, C, σ, st, d, σ1, rs, rel, hv1, hb1, fun τ1 r1 r2 r3 => ?_⟩
          refine ⟨C, σ1, st, ds, σ', r1, rel, hv2, hb, fun τ2 s1 s2 s3 => q τ2 s1 (s2.trans r2) fun i hi => ?_⟩
          have hi' : i ∉ slotsG g ∧ i ∉ slotsGs gs' := by simpa [slotsGs] using hi
          exact (s3 i hi'.2).trans (r3 i hi'.1)
        · cases hb
    · cases h
end

/-! ### what a loop walks -/
def denI (K : PySem.W.Frag) (F : KstT Tb → Fs) (kd : IK) (as : List E) : TI := fun τ H R => ∃ (C : KstT Tb) (σ : Env) (st : Sto), RS K H σ τ ∧ Rel K C st H ∧
  evEs (F C) C as σ st fun vs st1 => itK C kd vs st1 fun xs ok => ∀ H1 J, Rel K C st1 H1 → Keep st H st1 H1 → WalkD K C st1 H1 J xs ok → R J H1
theorem PI.imp {X : Cx} {tg e : Expr} {t t' : TI} (h : PI X tg e t) (f : ∀ σ H Q, t' σ H Q → t σ H Q) : PI X tg e t' := ⟨fun pins s σ H Q I q => h.run pins s σ H Q I (f σ H Q q)⟩
theorem pi_seq_of {tg e : Expr} {m : E} (he : PE X e (denE X.K (FOf Tb P n) m)) : PI X tg e (denI X.K (FOf Tb P n) .seq [m]) := by
  refine PI.imp (pi_seqA he) fun τ H R ⟨C, σ, st, rs, rel, h⟩ => ?_
  unfold evEs at h
  refine ⟨C, σ, st, rs, rel, evE_mono (callF_mono P C n) _ _ _ _ _ (fun d st1 q H1 v r1 k1 hv => ?_) h⟩
  unfold evEs at q
  cases d with
  | tup xs =>
    obtain ⟨a, vs, rfl, ha, hvs⟩ := rv_tupS hv
    have q' : (∀ H1 J, Rel X.K C st1 H1 → Keep st H st1 H1 → WalkD X.K C st1 H1 J xs (fun _ => True) → R J H1) := q
    exact ⟨a, rfl, .inr ⟨⟨vs, ha⟩, q' H1 _ r1 k1 (walkD_tup r1 ha hvs)⟩⟩
  | ref a =>
    replace q : itSeq C [.ref a] st1 fun xs ok => (∀ H1 J, Rel X.K C st1 H1 → Keep st H st1 H1 → WalkD X.K C st1 H1 J xs ok → R J H1) := q
    simp only [itSeq] at q
    split at q
    · rename_i xs e1
      obtain ⟨vs, ha, hvs⟩ := r1.rd e1
      exact ⟨a, rv_ref.mp hv, .inl ⟨⟨vs, ha⟩, q H1 _ r1 k1 walkD_list⟩⟩
    · exact q.elim
  | non => exact (show False from q).elim
  | bl _ => exact (show False from q).elim
  | int _ => exact (show False from q).elim
  | str _ => exact (show False from q).elim
theorem star1 {k : Nat} {a : Expr} {as : List Expr} {ms : List E} (ha : cL (cE df k N sc) (a :: as) = some ms) (pos : Pos) (env : PySem.Env) :
    starEach (a :: as) env = (false, eval a env) :: starEach as env ∧ (backTo pos (starEach as env)).any (·.1) = false := by
  unfold cL at ha
  split at ha
  · rename_i m' ms' h1 h2
    exact ⟨star_of h1 as env, stars_of pos env h2⟩
  · cases ha
theorem pi_range_of {k : Nat} (c : Cxt Tb P n N sc fb X) (ih : ∀ e m, cE df k N sc e = some m → PE X e (denE X.K (FOf Tb P n) m)) {tg a : Expr} {p pos : Pos} {as : List Expr} {ms : List E} (hg : globB sc "range" = true) (ha : cL (cE df k N sc) (a :: as) = some ms) :
    PI X tg (.Call (.Name "range" p) (a :: as) [] pos) (denI X.K (FOf Tb P n) .range ms) := by
  obtain ⟨s1, s2⟩ := star1 ha pos X.env
  refine PI.imp (pi_rangeA (c.glob hg) (c.bl "range" (by decide)) (pa_of ih _ ms ha) s1 s2) fun τ H R ⟨C, σ, st, rs, rel, h⟩ => ?_
  refine ⟨C, σ, st, rs, rel, evEs_mono (callF_mono P C n) _ _ _ _ _ (fun ds st1 q H1 vs r1 k1 hv => ?_) h⟩
  replace q : itRange ds fun xs ok => (∀ H1 J, Rel X.K C st1 H1 → Keep st H st1 H1 → WalkD X.K C st1 H1 J xs ok → R J H1) := q
  unfold itRange at q
  split at q
  · rename_i m
    obtain ⟨v, rfl, h1⟩ := hv.one
    obtain ⟨q1, q2, q3⟩ := q
    refine .inl ⟨m, by rw [rv_int.mp h1], q1, q2, q3 H1 _ r1 k1 ?_⟩
    have w := walkD_range (K := X.K) (C := C) (st1 := st1) (H1 := H1) (lo := 0) (n := m.toNat)
    simpa using w
  · rename_i m m'
    obtain ⟨v, w, rfl, h1, h2⟩ := hv.two
    obtain ⟨q1, q3⟩ := q
    exact .inr (.inl ⟨m, m', by rw [rv_int.mp h1, rv_int.mp h2], q1, q3 H1 _ r1 k1 walkD_range⟩)
  · rename_i m m' c'
    obtain ⟨v, vs', rfl, h1, hr⟩ := hv.cons_inv
    obtain ⟨w, x, rfl, h2, h3⟩ := hr.two
    obtain ⟨n', q1, q3⟩ := q
    exact .inr (.inr ⟨m, m', c', n', by rw [rv_int.mp h1, rv_int.mp h2, rv_int.mp h3], q1, q3 H1 _ r1 k1 walkD_rangeC⟩)
  · exact q.elim
theorem pi_enum_of {k : Nat} (c : Cxt Tb P n N sc fb X) (ih : ∀ e m, cE df k N sc e = some m → PE X e (denE X.K (FOf Tb P n) m)) {a : Expr} {p pos tpos : Pos} {elts : List Expr} {kk : Nat} {ms : List E} (hg : globB sc "enumerate" = true) (ha : cL (cE df k N sc) [a] = some ms) :
    PI X (.Tuple elts kk tpos) (.Call (.Name "enumerate" p) [a] [] pos) (denI X.K (FOf Tb P n) .enum ms) := by
  obtain ⟨s1, s2⟩ := star1 ha pos X.env
  refine PI.imp (pi_enumA (c.glob hg) (c.bl "enumerate" (by decide)) (pa_of ih _ ms ha) s1) fun τ H R ⟨C, σ, st, rs, rel, h⟩ => ?_
  refine ⟨C, σ, st, rs, rel, evEs_mono (callF_mono P C n) _ _ _ _ _ (fun ds st1 q H1 vs r1 k1 hv => ?_) h⟩
  replace q : itEnum C ds st1 fun xs ok => (∀ H1 J, Rel X.K C st1 H1 → Keep st H st1 H1 → WalkD X.K C st1 H1 J xs ok → R J H1) := q
  unfold itEnum at q
  split at q
  · rename_i xs
    obtain ⟨v, rfl, h1⟩ := hv.one
    obtain ⟨a, ws, rfl, ha, hws⟩ := rv_tupS h1
    exact ⟨a, ws, rfl, .inr ⟨ha, q H1 _ r1 k1 (walkD_enumT r1 ha hws)⟩⟩
  · rename_i a
    obtain ⟨v, rfl, h1⟩ := hv.one
    split at q
    · rename_i xs e1
      obtain ⟨ws, ha, hws⟩ := r1.rd e1
      exact ⟨a, ws, by rw [rv_ref.mp h1], .inl ⟨ha, q H1 _ r1 k1 walkD_enumL⟩⟩
    · exact q.elim
  · exact q.elim
theorem pi_of {k : Nat} (c : Cxt Tb P n N sc fb X) (ih : ∀ e m, cE df k N sc e = some m → PE X e (denE X.K (FOf Tb P n) m)) {tg iter : Expr} {kd : IK} {ms : List E} (h : cI (cE df k N sc) sc tg iter = some (kd, ms)) : PI X tg iter (denI X.K (FOf Tb P n) kd ms) := by
  unfold cI at h
  split at h
  · rename_i g p as pos
    split at h
    · rename_i hc
      simp only [Bool.and_eq_true, decide_eq_true_eq] at hc
      obtain ⟨⟨h1, h2⟩, h3⟩ := hc
      subst h2
      cases hl : cL (cE df k N sc) as with
      | none => rw [hl] at h; simp at h
      | some ms' =>
        rw [hl] at h
        have e : (IK.range, ms') = (kd, ms) := by simpa using h
        cases e
        cases as with
        | nil => simp at h3
        | cons a as => exact pi_range_of c ih h1 hl
    · split at h
      · rename_i hc
        simp only [Bool.and_eq_true, decide_eq_true_eq] at hc
        obtain ⟨⟨⟨h1, h2⟩, h3⟩, h4⟩ := hc
        subst h2
        cases hl : cL (cE df k N sc) as with
        | none => rw [hl] at h; simp at h
        | some ms' =>
          rw [hl] at h
          have e : (IK.enum, ms') = (kd, ms) := by simpa using h
          cases e
          match as, h4, hl with
          | [a], _, hl =>
            cases tg with
            | Tuple elts kk tpos => exact pi_enum_of c ih h1 hl
            | _ => simp [isTup] at h3
      · cases he : cE df k N sc (.Call (.Name g p) as [] pos) with
        | none => rw [he] at h; simp at h
        | some m =>
          rw [he] at h
          have e : (IK.seq, [m]) = (kd, ms) := by simpa using h
          cases e
          exact pi_seq_of (ih _ _ he)
  · cases he : cE df k N sc iter with
    | none => rw [he] at h; simp at h
    | some m =>
      rw [he] at h
      have e : (IK.seq, [m]) = (kd, ms) := by simpa using h
      cases e
      exact pi_seq_of (ih _ _ he)
end
end MP

set_option Elab.async false
set_option linter.all false
set_option maxRecDepth 100000
set_option maxHeartbeats 4000000
/-! MpJ: expressions, tests: the theorem. -/
namespace MP
open PySem PySem.Spec L2
variable {Tb : TabL}

section
variable {P : Str → Option Fn} {df : Str → Bool} {n : Nat} {N : List Str} {sc : Scope} {fb : Str → Bool} {X : Cx}
/-- two expressions in a row, then an operation on the values -/
theorem two_of {a b : E} {k : KstT Tb → D → D → Sto → (D → Sto → Prop) → Prop} (hk : ∀ C x y st (K K' : D → Sto → Prop), (∀ d s, K d s → K' d s) → k C x y st K → k C x y st K') {C : KstT Tb} {σ : Env} {τ : L2.St} {st : Sto} {H : Hp} {Q : VK} {K : PySem.W.Frag}
    (rs : RS K H σ τ) (rel : Rel K C st H) (h : evE (callF P C n) C a σ st fun x st1 => evE (callF P C n) C b σ st1 fun y st2 => k C x y st2 (PQ K C st H Q)) :
    denE K (FOf Tb P n) a τ H fun v H1 => denE K (FOf Tb P n) b τ H1 fun w H2 => lift2 K k v w H2 Q := by
  refine ⟨C, σ, st, rs, rel, evE_mono (callF_mono P C n) _ _ _ _ _ (fun x st1 q H1 v r1 k1 hv => ?_) h⟩
  refine ⟨C, σ, st1, rs.keep rel k1, r1, evE_mono (callF_mono P C n) _ _ _ _ _ (fun y st2 q H2 w r2 k2 hw => ?_) q⟩
  exact ⟨C, st2, x, y, r2, RV.keep r1 k2 _ _ hv, hw, hk _ _ _ _ _ _ (PQ.next (k1.trans k2)) q⟩
abbrev SndE (Tb : TabL) (P : Str → Option Fn) (df : Str → Bool) (n : Nat) (N : List Str) (k : Nat) : Prop := ∀ (sc : Scope) (fb : Str → Bool) (X : Cx), Cxt Tb P n N sc fb X →
  (∀ e m, cE df k N sc e = some m → PE X e (denE X.K (FOf Tb P n) m)) ∧ (∀ e m, cE df k N sc e = some m → PT X e (denT X.K (FOf Tb P n) m))

/-! ### and, or -/
theorem peB {k : Nat} (op : BoolOp) (pos : Pos) (ih : ∀ e m, cE df k N sc e = some m → PE X e (denE X.K (FOf Tb P n) m)) : ∀ (es : List Expr) (ms : List E), cL (cE df k N sc) es = some ms → es ≠ [] → PE X (.BoolOp op es pos) (denB X.K (FOf Tb P n) op ms)
  | [], _, _, h => absurd rfl h
  | [e], ms, h, _ => by
    unfold cL at h
    split at h
    · rename_i m ms' h1 h2
      cases h
      have e2 : [] = ms' := by simpa [cL] using h2
      subst e2
      refine PE.imp (pe_one (ih e m h1)) fun τ H Q ⟨C, σ, st, rs, rel, q⟩ => ?_
      unfold evB at q
      exact ⟨C, σ, st, rs, rel, q⟩
    · cases h
  | e :: e2 :: es, ms, h, _ => by
    unfold cL at h
    split at h
    · rename_i m ms' h1 h2
      cases h
      have hb := peB op pos ih (e2 :: es) ms' h2 (by simp)
      have hne : ∃ m2 ms2, ms' = m2 :: ms2 := by
        unfold cL at h2
        split at h2
        · cases h2; exact ⟨_, _, rfl⟩
        · cases h2
      obtain ⟨m2, ms2, rfl⟩ := hne
      have main : ∀ τ H Q, denB X.K (FOf Tb P n) op (m :: m2 :: ms2) τ H Q → denE X.K (FOf Tb P n) m τ H fun x H1 => ∃ k, TruV X.K x H1 k ∧ (if k = andB op then denB X.K (FOf Tb P n) op (m2 :: ms2) τ H1 Q else Q x H1) := by
        intro τ H Q ⟨C, σ, st, rs, rel, q⟩
        unfold evB at q
        refine ⟨C, σ, st, rs, rel, evE_mono (callF_mono P C n) _ _ _ _ _ (fun x st1 q H1 v r1 k1 hv => ?_) q⟩
        split at q
        · rename_i b hb
          refine ⟨b, tru_rv r1 hb hv, ?_⟩
          split at q
          · rename_i e1
            rw [if_pos e1]
            exact ⟨C, σ, st1, rs.keep rel k1, r1, evB_mono (callF_mono P C n) _ _ _ _ _ _ (PQ.next k1) q⟩
          · rename_i e1
            rw [if_neg e1]
            exact q H1 v r1 k1 hv
        · exact q.elim
      cases op with
      | And =>
        refine PE.imp (pe_andT (ih e m h1) hb) fun τ H Q q => ?_
        have q := main τ H Q q
        obtain ⟨C, σ, st, rs, rel, q⟩ := q
        refine ⟨C, σ, st, rs, rel, evE_mono (callF_mono P C n) _ _ _ _ _ (fun x st1 q H1 v r1 k1 hv => ?_) q⟩
        obtain ⟨k, t1, t2⟩ := q H1 v r1 k1 hv
        exact ⟨k, t1, t2⟩
      | Or =>
        refine PE.imp (pe_orT (ih e m h1) hb) fun τ H Q q => ?_
        have q := main τ H Q q
        obtain ⟨C, σ, st, rs, rel, q⟩ := q
        refine ⟨C, σ, st, rs, rel, evE_mono (callF_mono P C n) _ _ _ _ _ (fun x st1 q H1 v r1 k1 hv => ?_) q⟩
        obtain ⟨k, t1, t2⟩ := q H1 v r1 k1 hv
        refine ⟨k, t1, ?_⟩
        cases k with
        | true => rw [if_neg (by decide)] at t2; exact iteT t2
        | false => rw [if_pos (by decide)] at t2; exact iteF t2
    · cases h
theorem pwB {k : Nat} (op : BoolOp) (pos : Pos) (ih : ∀ e m, cE df k N sc e = some m → PT X e (denT X.K (FOf Tb P n) m)) : ∀ (es : List Expr) (ms : List E), cL (cE df k N sc) es = some ms → es ≠ [] → PW X (.BoolOp op es pos) (denBT X.K (FOf Tb P n) op ms)
  | [], _, _, h => absurd rfl h
  | [e], ms, h, _ => by
    unfold cL at h
    split at h
    · rename_i m ms' h1 h2
      cases h
      have e2 : [] = ms' := by simpa [cL] using h2
      subst e2
      have main : ∀ τ H Q, denBT X.K (FOf Tb P n) op [m] τ H Q → denT X.K (FOf Tb P n) m τ H Q := by
        intro τ H Q ⟨C, σ, st, rs, rel, q⟩
        unfold evBT at q
        refine ⟨C, σ, st, rs, rel, evT_mono (callF_mono P C n) _ _ _ _ _ (fun b st1 q => ?_) q⟩
        split at q
        · rename_i e1
          unfold evBT at q
          rw [e1]
          exact q
        · exact q
      cases op with
      | And => exact PW.imp (pw_and1 (ih e m h1)) main
      | Or => exact PW.imp (pw_or1 (ih e m h1)) main
    · cases h
  | e :: e2 :: es, ms, h, _ => by
    unfold cL at h
    split at h
    · rename_i m ms' h1 h2
      cases h
      have hb := pwB op pos ih (e2 :: es) ms' h2 (by simp)
      have main : ∀ τ H Q, denBT X.K (FOf Tb P n) op (m :: ms') τ H Q → denT X.K (FOf Tb P n) m τ H fun b H1 => if b = andB op then denBT X.K (FOf Tb P n) op ms' τ H1 Q else Q b H1 := by
        intro τ H Q ⟨C, σ, st, rs, rel, q⟩
        unfold evBT at q
        refine ⟨C, σ, st, rs, rel, evT_mono (callF_mono P C n) _ _ _ _ _ (fun b st1 q H1 r1 k1 => ?_) q⟩
        split at q
        · rename_i e1
          rw [if_pos e1]
          exact ⟨C, σ, st1, rs.keep rel k1, r1, evBT_mono (callF_mono P C n) _ _ _ _ _ _ (PB.next k1) q⟩
        · rename_i e1
          rw [if_neg e1]
          exact q H1 r1 k1
      cases op with
      | And =>
        refine PW.imp (pw_and (ih e m h1) hb) fun τ H Q q => ?_
        obtain ⟨C, σ, st, rs, rel, q⟩ := main τ H Q q
        refine ⟨C, σ, st, rs, rel, evT_mono (callF_mono P C n) _ _ _ _ _ (fun b st1 q H1 r1 k1 => ?_) q⟩
        have t2 := q H1 r1 k1
        cases b with
        | true => rw [if_pos (by decide)] at t2; exact iteT t2
        | false => rw [if_neg (by decide)] at t2; exact iteF t2
      | Or =>
        refine PW.imp (pw_or (ih e m h1) hb) fun τ H Q q => ?_
        obtain ⟨C, σ, st, rs, rel, q⟩ := main τ H Q q
        refine ⟨C, σ, st, rs, rel, evT_mono (callF_mono P C n) _ _ _ _ _ (fun b st1 q H1 r1 k1 => ?_) q⟩
        have t2 := q H1 r1 k1
        cases b with
        | true => rw [if_neg (by decide)] at t2; exact iteT t2
        | false => rw [if_pos (by decide)] at t2; exact iteF t2
    · cases h
/-! ### the block of a comprehension -/
theorem Cxt.blk (c : Cxt Tb P n N sc fb X) {scope : Scope} (hk : scope.kind = .function) (s : Shared) (H : Hp) (C : Addr) (cl : List (Str × Addr)) (fp : List Addr) :
    Cxt Tb P n N (relS scope sc) (fun x => scope.names.lookup x == some .cell) (X.blk s H scope (compEnvC scope cl C X.env) fp) where
  calm := c.calm
  hN := c.hN
  nd := c.nd
  scE := by rw [← c.scE] <;> rfl
  kind := hk
  fn := fun _ => rfl
  room := c.room
  bl := c.bl
  fs := fun f fn h h2 => ⟨(c.fs f fn h h2).ex⟩
  cls := c.cls
  fld := c.fld
  mth := c.mth
  lam := c.lam
theorem wipe_get {τ : L2.St} {i : Nat} : ∀ {vs : List Nat}, i ∈ vs → i < τ.length → (L2.wipe τ vs)[i]? = some none
  | [], h, _ => absurd h (by simp)
  | v :: vs, h, hl => by
    show ((L2.wipe τ vs).set v none)[i]? = some none
    by_cases hv : v = i
    · rw [hv, List.getElem?_set_self (by rw [wipe_length]; exact hl)]
    · rw [List.getElem?_set_ne hv]
      have h' : i ∈ vs := by
        rcases List.mem_cons.mp h with e | e
        · exact absurd e.symm hv
        · exact e
      exact wipe_get h' hl
theorem wipe_same {τ ρ : L2.St} {vs : List Nat} (hl : ρ.length = τ.length) (h : ∀ i, i ∉ vs → ρ[i]? = τ[i]?) : L2.wipe ρ vs = L2.wipe τ vs := by
  apply List.ext_getElem?
  intro i
  by_cases hi : i ∈ vs
  · by_cases hlt : i < τ.length
    · rw [wipe_get hi (by rw [hl]; exact hlt), wipe_get hi hlt]
    · rw [List.getElem?_eq_none (by rw [wipe_length]; omega), List.getElem?_eq_none (by rw [wipe_length]; omega)]
  · rw [wipe_out hi, wipe_out hi, h i hi]
theorem wipe_wipe {τ : L2.St} {vs : List Nat} : L2.wipe (L2.wipe τ vs) vs = L2.wipe τ vs := wipe_same (wipe_length _ _) fun i hi => wipe_out hi
theorem pts_of {k : Nat} (ih : ∀ e m, cE df k N sc e = some m → PT X e (denT X.K (FOf Tb P n) m)) {es : List Expr} {ms : List E} (h : cL (cE df k N sc) es = some ms) (hl : es.length ≤ 1) : PTs X es (denTs X.K (FOf Tb P n) ms) := by
  match es, h, hl with
  | [], h, _ =>
    have e : [] = ms := by simpa [cL] using h
    subst e
    refine ⟨fun pins s σ H Q I ⟨C, σ', st, rs, rel, q⟩ => pts_nil.run pins s σ H Q I ?_⟩
    unfold evTs at q
    exact q H rel Keep.refl
  | [e], h, _ =>
    unfold cL at h
    split at h
    · rename_i m ms' h1 h2
      cases h
      have e2 : [] = ms' := by simpa [cL] using h2
      subst e2
      refine ⟨fun pins s σ H Q I ⟨C, σ', st, rs, rel, q⟩ => (pts_one (ih e m h1)).run pins s σ H Q I ?_⟩
      unfold evTs at q
      exact ⟨C, σ', st, rs, rel, q⟩
    · cases h
  | _ :: _ :: _, _, hl => exact absurd hl (by simp)
/-- the reading of a comprehension -/
theorem lc_den {elt : E} {g : G} {kd : IK} {as ifs : List E} {own : List Nat} (hs : ∀ i ∈ slotsG g, i ∈ own) {K : PySem.W.Frag} {τ : L2.St} {H : Hp} {Q : VK} (h : denE K (FOf Tb P n) (.lc elt g kd as ifs own) τ H Q) :
    tLc (denI K (FOf Tb P n) kd as) (gD Tb K g) (denTs K (FOf Tb P n) ifs) (denE K (FOf Tb P n) elt) own τ H Q := by
  obtain ⟨C, σ, st, rs, rel, h⟩ := h
  unfold evE at h
  refine ⟨C, σ, st, rs, rel, evEs_mono (callF_mono P C n) _ _ _ _ _ (fun vs st1 q => itK_mono (fun xs ok q H1 J r1 k1 w => ?_) q) h⟩
  intro Dn hD
  -- the invariant
  refine ⟨fun i m H' => m = xs.length - i ∧ i ≤ xs.length ∧ ∃ st' acc vacc, Rel K C st' H' ∧ Keep st1 H1 st' H' ∧ H' Dn = some (.lst vacc) ∧ st' Dn = none ∧ RVs K H' acc vacc ∧
    lcK ok (fun x st2 R => match bindG g x (wipeE σ own) with
        | some σ2 => evTs (callF P C n) C ifs σ2 st2 fun b st3 => if b = true then evE (callF P C n) C elt σ2 st3 fun y st4 => R (some y) st4 else R none st3
        | none => False) (fun acc st' => newL acc st' (PQ K C st H Q)) (xs.drop i) acc st', ⟨xs.length, ?_⟩, ?_⟩
  · have kD : Keep st1 H1 st1 (upd H1 Dn (.lst [])) := Keep.newT hD
    have rD : Rel K C st1 (upd H1 Dn (.lst [])) := r1.step kD (tabs_new hD r1.tb) fun a o e => .inl ⟨e, by
      obtain ⟨ws, q, _⟩ := (r1.ob a o e).there
      exact upd_ne (ne_of_none q hD)⟩
    exact ⟨by simp, Nat.zero_le _, st1, [], [], rD, kD, upd_same, r1.free hD, RVs.nil, q⟩
  · rintro i m H2 ⟨rfl, hi, st2, acc, vacc, r2, k12, hDn, nDn, hacc, hl⟩
    by_cases hlt : i < xs.length
    · rw [List.drop_eq_getElem_cons hlt] at hl
      obtain ⟨hok, hl⟩ := hl
      refine .inr ⟨w.go i st2 H2 hlt k12 r2 hok, fun H' => i + 1 ≤ xs.length ∧ ∃ st' acc vacc, Rel K C st' H' ∧ Keep st1 H1 st' H' ∧ H' Dn = some (.lst vacc) ∧ st' Dn = none ∧ RVs K H' acc vacc ∧
        lcK ok (fun x st2 R => match bindG g x (wipeE σ own) with
            | some σ2 => evTs (callF P C n) C ifs σ2 st2 fun b st3 => if b = true then evE (callF P C n) C elt σ2 st3 fun y st4 => R (some y) st4 else R none st3
            | none => False) (fun acc st' => newL acc st' (PQ K C st H Q)) (xs.drop (i + 1)) acc st', ?_, ?_⟩
      · rintro H' rest
        exact ⟨xs.length - (i + 1), by omega, rfl, rest⟩
      · intro x H3 hy
        obtain ⟨d, hd, r3, k3, hv⟩ := w.yld i st2 H2 x H3 hlt k12 r2 hok hy
        have hd' : xs[i] = d := by
          rw [List.getElem?_eq_getElem hlt] at hd
          exact Option.some.inj hd
        rw [hd'] at hl
        cases hb : bindG g d (wipeE σ own) with
        | none => rw [hb] at hl; exact hl.elim
        | some σ2 =>
          rw [hb] at hl
          have rs3 : RS K H3 (wipeE σ own) (L2.wipe τ own) := RS.wipe (RS.keep r2 k3 (RS.keep r1 k12 (RS.keep rel k1 rs))) own
          refine ⟨C, wipeE σ own, st2, d, σ2, rs3, r3, hv, hb, fun τ' rs4 hlen hslot => ⟨?_, ?_⟩⟩
          · rw [wipe_same (τ := L2.wipe τ own) hlen fun j hj => hslot j fun hm => hj (hs j hm), wipe_wipe]
          · refine ⟨C, σ2, st2, rs4, r3, evTs_mono (callF_mono P C n) _ _ _ _ _ (fun b st3 q H4 r4 k4 => ?_) hl⟩
            obtain ⟨hD3, nD3⟩ := k3 Dn _ hDn (by intro q z; cases z) nDn
            obtain ⟨hD4, nD4⟩ := k4 Dn _ hD3 (by intro q z; cases z) nD3
            have k14 : Keep st1 H1 st3 H4 := (k12.trans k3).trans k4
            have hacc4 : RVs K H4 acc vacc := RVs.keep r3 k4 _ _ (RVs.keep r2 k3 _ _ hacc)
            cases b with
            | true =>
              rw [if_pos rfl] at q
              refine iteT ?_
              refine ⟨C, σ2, st3, RS.keep r3 k4 rs4, r4, evE_mono (callF_mono P C n) _ _ _ _ _ (fun y st4 q H5 v r5 k5 hv5 => ?_) q⟩
              obtain ⟨st5, hsub, hz, hl⟩ := q
              obtain ⟨hD5, nD5⟩ := k5 Dn _ hD4 (by intro q z; cases z) nD4
              have hacc5 : RVs K H5 acc vacc := RVs.keep r4 k5 _ _ hacc4
              refine ⟨vacc, hD5, by rw [hacc5.length]; exact hz, by omega, ?_⟩
              have nD5' : st5 Dn = none := hsub.none nD5
              have k15 : Keep st1 H1 st5 H5 := (k14.trans k5).sub hsub
              refine ⟨st5, acc ++ [y], vacc ++ [v], (r5.sub hsub).other hD5 nD5' (fun ys e => by obtain ⟨vs, q1, q2⟩ := r1.newC hD e; exact ⟨vs, q1, RVs.keep r1 k15 _ _ q2⟩), fun a o e tt ne => ?_, upd_same, nD5', ?_, hl⟩
              · obtain ⟨h1, h2⟩ := k15 a o e tt ne
                exact ⟨by rw [upd_ne (ne_of_none e hD)]; exact h1, h2⟩
              · exact RVs.tk (TK.other hD5) _ _ (hacc5.append (RVs.cons hv5 RVs.nil))
            | false =>
              rw [if_neg Bool.false_ne_true] at q
              refine iteF ?_
              obtain ⟨st5, hsub, hl⟩ := q
              exact ⟨by omega, st5, acc, vacc, r4.sub hsub, k14.sub hsub, hD4, hsub.none nD4, hacc4, hl⟩
    · have e : i = xs.length := by omega
      subst e
      rw [List.drop_length] at hl
      obtain ⟨hok, hl⟩ := hl
      refine .inl ⟨w.stop st2 H2 k12 r2 hok, ?_⟩
      -- the list is named now
      have rN : Rel K C (put st2 Dn (.lst acc)) H2 := ⟨fun a o e => by
          by_cases ha : a = Dn
          · subst ha
            rw [put_same] at e
            cases e
            exact ⟨vacc, hDn, hacc⟩
          · rw [put_ne ha] at e
            exact r2.ob a o e, fun a ys e => by
          by_cases ha : a = Dn
          · subst ha
            obtain ⟨vs, q1, q2⟩ := r1.newC hD e
            exact ⟨vs, .inr (.inr q1), RVs.keep r1 k12 _ _ q2⟩
          · obtain ⟨vs, q1, q2⟩ := r2.ct a ys e
            refine ⟨vs, ?_, q2⟩
            rcases q1 with ⟨q1, n1⟩ | q1
            · exact .inl ⟨q1, by rw [put_ne ha]; exact n1⟩
            · exact .inr q1, r2.tb⟩
      refine hl Dn nDn H2 (.ref Dn) rN ?_ (rv_ref.mpr rfl)
      intro a o e tt ne
      obtain ⟨h1, h2⟩ := k1 a o e tt ne
      obtain ⟨h3, h4⟩ := k12 a o h1 tt h2
      have ha : a ≠ Dn := ne_of_none h1 hD
      exact ⟨h3, by rw [put_ne ha]; exact h4⟩
end
end MP

set_option Elab.async false
set_option linter.all false
set_option maxRecDepth 100000
set_option maxHeartbeats 8000000
/-! MpDc: a dict's comprehension. -/
namespace MP
open PySem PySem.Spec L2
variable {Tb : TabL}
section
variable {K : PySem.W.Frag} {C : KstT Tb} {st st' : Sto} {H H' : Hp}
theorem TK.otherM {a : Addr} {w u : HO} (h : H a = some w) (hm : Mu w) : TK K H (upd H a u) := fun b vs q => by
  rw [upd_ne (ne_of q h (by intro z; rw [← z] at hm; exact hm.no_tup))]
  exact q
theorem TK.otherD {a : Addr} {w : List (Key × V)} {u : HO} (h : H a = some (.dK w)) : TK K H (upd H a u) := TK.otherM h (.inr (.inl ⟨w, rfl⟩))
theorem Rel.otherM (r : Rel K C st H) {a : Addr} {w w' : HO} (h : H a = some w) (hm : Mu w) (n : st a = none) (hC : ∀ xs, C a = some xs → ∃ vs, KL K a vs ∧ RVs K H xs vs) : Rel K C st (upd H a w') := by
  have t : TK K H (upd H a w') := TK.otherM h hm
  refine ⟨fun b o e => ?_, fun b xs e => ?_, tabs_mu h hm r.tb⟩
  · have hb : b ≠ a := fun q => by rw [q, n] at e; cases e
    exact (r.ob b o e).tk t (upd_ne hb)
  · by_cases hb : b = a
    · subst hb
      obtain ⟨vs, h1, h2⟩ := hC xs e
      exact ⟨vs, .inr (.inr h1), RVs.tk t xs vs h2⟩
    · obtain ⟨vs, h1, h2⟩ := r.ct b xs e
      refine ⟨vs, ?_, RVs.tk t xs vs h2⟩
      rcases h1 with ⟨h1, n1⟩ | ⟨o, h1⟩ | h1
      · exact .inl ⟨by rw [upd_ne hb]; exact h1, n1⟩
      · exact .inr (.inl ⟨o, by rw [upd_ne hb]; exact h1⟩)
      · exact .inr (.inr h1)
end
section
variable {P : Str → Option Fn} {df : Str → Bool} {n : Nat} {N : List Str}
/-- a kind of dict: how its keys are read, how it lies in the heap -/
structure DKnd (Tb : TabL) (K : PySem.W.Frag) {κ : Type} [DecidableEq κ] (kf : D → Option κ) (mkH : List (κ × V) → HO) (kr : κ → V → Hp → Prop) (mkO : List (κ × D) → O) : Prop where
  mu : ∀ kvs, Mu (mkH kvs)
  ro : ∀ (H : Hp) (a : Addr) (kvs : List (κ × D)) (vs : List (κ × V)), H a = some (mkH vs) → RKV K H kvs vs → kvs.length ≤ sizeLine → RO Tb K H a (mkO kvs)
  key : ∀ (H : Hp) (d : D) (k : κ) (v : V), kf d = some k → RV K H d v → kr k v H
theorem DKnd.k (K : PySem.W.Frag) : DKnd Tb K keyOf .dK (fun k y _ => y = kV k) .dct := ⟨fun kvs => .inr (.inl ⟨kvs, rfl⟩), fun H a kvs vs h1 h2 h3 => ⟨vs, h1, h2, h3⟩, fun H d k v h1 h2 => key_rv h1 h2⟩
theorem DKnd.t (K : PySem.W.Frag) : DKnd Tb K keyT .dT (fun k y H => ∃ b, y = .ref b ∧ H b = some (.tup (k.map kV))) .dcT := ⟨fun kvs => .inr (.inr (.inr (.inl ⟨kvs, rfl⟩))), fun H a kvs vs h1 h2 h3 => ⟨vs, h1, h2, h3⟩, fun H d k v h1 h2 => keyT_rv h1 h2⟩
/-- {k: v for target in iter if ..}, as its keys are -/
def tDcG {κ : Type} [DecidableEq κ] (mkH : List (κ × V) → HO) (kr : κ → V → Hp → Prop) (wi : TI) (g : TG) (tt : TT) (tk tv : TE) (own : List Nat) : TE := fun τ H Q => wi τ H fun J H1 => ∀ Dn, H1 Dn = none → ∃ W : Nat → Nat → Hp → Prop, (∃ m, W 0 m (upd H1 Dn (mkH []))) ∧
  ∀ i m H, W i m H → (J.stop i H ∧ Q (.ref Dn) H) ∨ (J.go i H ∧ ∃ Nx : Hp → Prop, (∀ H', Nx H' → ∃ m', m' < m ∧ W (i + 1) m' H') ∧ ∀ x H', J.yld i H x H' → g x (L2.wipe τ own) H' fun τ2 H2 => L2.wipe τ2 own = L2.wipe τ own ∧
    tt τ2 H2 fun b H3 => if b = true then tk τ2 H3 fun y H4 => tv τ2 H4 fun z H5 => ∃ kvs k, kr k y H5 ∧ H5 Dn = some (mkH kvs) ∧ kvs.length < sizeLine ∧ Nx (upd H5 Dn (mkH (putK kvs k z))) else Nx H3)
/-- the reading of a dict's comprehension -/
theorem dc_denG {κ : Type} [DecidableEq κ] {kf : D → Option κ} {mkH : List (κ × V) → HO} {kr : κ → V → Hp → Prop} {mkO : List (κ × D) → O} {K : PySem.W.Frag} (dk : DKnd Tb K kf mkH kr mkO) {kx vx : E} {g : G} {kd : IK} {as ifs : List E} {own : List Nat} (hs : ∀ i ∈ slotsG g, i ∈ own) {τ : L2.St} {H : Hp} {Q : VK}
    {C : KstT Tb} {σ : Env} {st : Sto} (rs : RS K H σ τ) (rel : Rel K C st H) (h : evEs (callF P C n) C as σ st fun vs st1 => itK C kd vs st1 fun xs ok =>
      dcK kf ok (fun x st2 R => match bindG g x (wipeE σ own) with
        | some σ2 => evTs (callF P C n) C ifs σ2 st2 fun b st3 => if b = true then evE (callF P C n) C kx σ2 st3 fun y st4 => evE (callF P C n) C vx σ2 st4 fun z st5 => R (some (y, z)) st5 else R none st3
        | none => False) (fun kvs st' => ∀ p, st' p = none → PQ K C st H Q (.ref p) (put st' p (mkO kvs))) xs [] st1) :
    tDcG mkH kr (denI K (FOf Tb P n) kd as) (gD Tb K g) (denTs K (FOf Tb P n) ifs) (denE K (FOf Tb P n) kx) (denE K (FOf Tb P n) vx) own τ H Q := by
  refine ⟨C, σ, st, rs, rel, evEs_mono (callF_mono P C n) _ _ _ _ _ (fun vs st1 q => itK_mono (fun xs ok q H1 J r1 k1 w => ?_) q) h⟩
  intro Dn hD
  let step : D → Sto → (Option (D × D) → Sto → Prop) → Prop := fun x st2 R => match bindG g x (wipeE σ own) with
        | some σ2 => evTs (callF P C n) C ifs σ2 st2 fun b st3 => if b = true then evE (callF P C n) C kx σ2 st3 fun y st4 => evE (callF P C n) C vx σ2 st4 fun z st5 => R (some (y, z)) st5 else R none st3
        | none => False
  let fin : List (κ × D) → Sto → Prop := fun kvs st' => ∀ p, st' p = none → PQ K C st H Q (.ref p) (put st' p (mkO kvs))
  -- the invariant
  refine ⟨fun i m H' => m = xs.length - i ∧ i ≤ xs.length ∧ ∃ st' acc vacc, Rel K C st' H' ∧ Keep st1 H1 st' H' ∧ H' Dn = some (mkH vacc) ∧ st' Dn = none ∧ RKV K H' acc vacc ∧ acc.length ≤ sizeLine ∧
    dcK kf ok step fin (xs.drop i) acc st', ⟨xs.length, ?_⟩, ?_⟩
  · have kD : Keep st1 H1 st1 (upd H1 Dn (mkH [])) := Keep.newT hD
    have rD : Rel K C st1 (upd H1 Dn (mkH [])) := r1.step kD (tabs_new hD r1.tb) fun a o e => .inl ⟨e, by
      obtain ⟨ws, q, _⟩ := (r1.ob a o e).there
      exact upd_ne (ne_of_none q hD)⟩
    exact ⟨by simp, Nat.zero_le _, st1, [], [], rD, kD, upd_same, r1.free hD, rfl, Nat.zero_le _, q⟩
  · rintro i m H2 ⟨rfl, hi, st2, acc, vacc, r2, k12, hDn, nDn, hacc, hlen, hl⟩
    by_cases hlt : i < xs.length
    · rw [List.drop_eq_getElem_cons hlt] at hl
      obtain ⟨hok, hl⟩ := hl
      refine .inr ⟨w.go i st2 H2 hlt k12 r2 hok, fun H' => i + 1 ≤ xs.length ∧ ∃ st' acc vacc, Rel K C st' H' ∧ Keep st1 H1 st' H' ∧ H' Dn = some (mkH vacc) ∧ st' Dn = none ∧ RKV K H' acc vacc ∧ acc.length ≤ sizeLine ∧
        dcK kf ok step fin (xs.drop (i + 1)) acc st', ?_, ?_⟩
      · rintro H' rest
        exact ⟨xs.length - (i + 1), by omega, rfl, rest⟩
      · intro x H3 hy
        obtain ⟨d, hd, r3, k3, hv⟩ := w.yld i st2 H2 x H3 hlt k12 r2 hok hy
        have hd' : xs[i] = d := by
          rw [List.getElem?_eq_getElem hlt] at hd
          exact Option.some.inj hd
        rw [hd'] at hl
        replace hl : (match bindG g d (wipeE σ own) with
          | some σ2 => evTs (callF P C n) C ifs σ2 st2 fun b st3 => if b = true then evE (callF P C n) C kx σ2 st3 fun y st4 => evE (callF P C n) C vx σ2 st4 fun z st5 => ∃ st6, Sub st6 st5 ∧ acc.length < sizeLine ∧ (match kf y with
              | some k => dcK kf ok step fin (xs.drop (i + 1)) (putD acc k z) st6
              | none => False) else ∃ st6, Sub st6 st3 ∧ dcK kf ok step fin (xs.drop (i + 1)) acc st6
          | none => False) := hl
        cases hb : bindG g d (wipeE σ own) with
        | none => rw [hb] at hl; exact hl.elim
        | some σ2 =>
          rw [hb] at hl
          have rs3 : RS K H3 (wipeE σ own) (L2.wipe τ own) := RS.wipe (RS.keep r2 k3 (RS.keep r1 k12 (RS.keep rel k1 rs))) own
          refine ⟨C, wipeE σ own, st2, d, σ2, rs3, r3, hv, hb, fun τ' rs4 hlen' hslot => ⟨?_, ?_⟩⟩
          · rw [wipe_same (τ := L2.wipe τ own) hlen' fun j hj => hslot j fun hm => hj (hs j hm), wipe_wipe]
          · refine ⟨C, σ2, st2, rs4, r3, evTs_mono (callF_mono P C n) _ _ _ _ _ (fun b st3 q H4 r4 k4 => ?_) hl⟩
            obtain ⟨hD3, nD3⟩ := k3 Dn _ hDn (by intro q z; exact (z ▸ dk.mu _ : Mu (.tbl q)).no_tbl) nDn
            obtain ⟨hD4, nD4⟩ := k4 Dn _ hD3 (by intro q z; exact (z ▸ dk.mu _ : Mu (.tbl q)).no_tbl) nD3
            have k14 : Keep st1 H1 st3 H4 := (k12.trans k3).trans k4
            have hacc4 : RKV K H4 acc vacc := RKV.keep r3 k4 _ _ (RKV.keep r2 k3 _ _ hacc)
            cases b with
            | true =>
              rw [if_pos rfl] at q
              refine iteT ?_
              have rs5 := RS.keep r3 k4 rs4
              refine ⟨C, σ2, st3, rs5, r4, evE_mono (callF_mono P C n) _ _ _ _ _ (fun y st4 q H5 vy r5 k5 hvy => ?_) q⟩
              refine ⟨C, σ2, st4, RS.keep r4 k5 rs5, r5, evE_mono (callF_mono P C n) _ _ _ _ _ (fun z st5 q H6 vz r6 k6 hvz => ?_) q⟩
              obtain ⟨st7, hsub, hz, hl⟩ := q
              have k46 := k5.trans k6
              obtain ⟨hD6, nD6⟩ := k46 Dn _ hD4 (by intro q z; exact (z ▸ dk.mu _ : Mu (.tbl q)).no_tbl) nD4
              have hacc6 : RKV K H6 acc vacc := RKV.keep r4 k46 _ _ hacc4
              split at hl
              · rename_i k ek
                have nD7 : st7 Dn = none := hsub.none nD6
                have k17 : Keep st1 H1 st7 H6 := (k14.trans k46).sub hsub
                refine ⟨vacc, k, dk.key _ _ _ _ ek (RV.keep r5 k6 _ _ hvy), hD6, by rw [hacc6.length]; exact hz, by omega, ?_⟩
                refine ⟨st7, putD acc k z, putK vacc k vz, (r6.sub hsub).otherM hD6 (dk.mu _) nD7 (fun ys e => by obtain ⟨vs, q1, q2⟩ := r1.newC hD e; exact ⟨vs, q1, RVs.keep r1 k17 _ _ q2⟩), fun a o e tt ne => ?_, upd_same, nD7, ?_, ?_, hl⟩
                · obtain ⟨h1, h2⟩ := k17 a o e tt ne
                  exact ⟨by rw [upd_ne (ne_of_none e hD)]; exact h1, h2⟩
                · exact RKV.tk (TK.otherM hD6 (dk.mu _)) _ _ (hacc6.put hvz)
                · have := putD_len acc k z
                  omega
              · exact hl.elim
            | false =>
              rw [if_neg Bool.false_ne_true] at q
              refine iteF ?_
              obtain ⟨st5, hsub, hl⟩ := q
              exact ⟨by omega, st5, acc, vacc, r4.sub hsub, k14.sub hsub, hD4, hsub.none nD4, hacc4, hlen, hl⟩
    · have e : i = xs.length := by omega
      subst e
      rw [List.drop_length] at hl
      obtain ⟨hok, hl⟩ := hl
      refine .inl ⟨w.stop st2 H2 k12 r2 hok, ?_⟩
      -- the dict is named now
      have rN : Rel K C (put st2 Dn (mkO acc)) H2 := ⟨fun a o e => by
          by_cases ha : a = Dn
          · subst ha
            rw [put_same] at e
            cases e
            exact dk.ro _ _ _ _ hDn hacc hlen
          · rw [put_ne ha] at e
            exact r2.ob a o e, fun a ys e => by
          by_cases ha : a = Dn
          · subst ha
            obtain ⟨vs, q1, q2⟩ := r1.newC hD e
            exact ⟨vs, .inr (.inr q1), RVs.keep r1 k12 _ _ q2⟩
          · obtain ⟨vs, q1, q2⟩ := r2.ct a ys e
            refine ⟨vs, ?_, q2⟩
            rcases q1 with ⟨q1, n1⟩ | q1
            · exact .inl ⟨q1, by rw [put_ne ha]; exact n1⟩
            · exact .inr q1, r2.tb⟩
      refine hl Dn nDn H2 (.ref Dn) rN ?_ (rv_ref.mpr rfl)
      intro a o e tt ne
      obtain ⟨h1, h2⟩ := k1 a o e tt ne
      obtain ⟨h3, h4⟩ := k12 a o h1 tt h2
      have ha : a ≠ Dn := ne_of_none h1 hD
      exact ⟨h3, by rw [put_ne ha]; exact h4⟩
theorem dc_den {kx vx : E} {g : G} {kd : IK} {as ifs : List E} {own : List Nat} (hs : ∀ i ∈ slotsG g, i ∈ own) {K : PySem.W.Frag} {τ : L2.St} {H : Hp} {Q : VK} (h : denE K (FOf Tb P n) (.dc kx vx g kd as ifs own) τ H Q) :
    tDc (denI K (FOf Tb P n) kd as) (gD Tb K g) (denTs K (FOf Tb P n) ifs) (denE K (FOf Tb P n) kx) (denE K (FOf Tb P n) vx) own τ H Q := by
  obtain ⟨C, σ, st, rs, rel, h⟩ := h
  unfold evE at h
  exact dc_denG (DKnd.k K) hs rs rel h
theorem dcT_den {kx vx : E} {g : G} {kd : IK} {as ifs : List E} {own : List Nat} (hs : ∀ i ∈ slotsG g, i ∈ own) {K : PySem.W.Frag} {τ : L2.St} {H : Hp} {Q : VK} (h : denE K (FOf Tb P n) (.dcT kx vx g kd as ifs own) τ H Q) :
    tDcG HO.dT (fun k y H => ∃ b, y = .ref b ∧ H b = some (.tup (k.map kV))) (denI K (FOf Tb P n) kd as) (gD Tb K g) (denTs K (FOf Tb P n) ifs) (denE K (FOf Tb P n) kx) (denE K (FOf Tb P n) vx) own τ H Q := by
  obtain ⟨C, σ, st, rs, rel, h⟩ := h
  unfold evE at h
  exact dc_denG (DKnd.t K) hs rs rel h
end
section
variable {X : Cx}
/-- x = {k: v for ..} -/
theorem ps_setDc {i : Nat} {y : Str} {py : Pos} {kx vx tg iter : Expr} {ifs : List Expr} {scope : Scope} {own : List (Str × Nat)} {pos spos : Pos} {wi : TI} {g : TG} {tt : TT} {tk tv : TE} (hc : X.calm = true) (hN : X.N.Nodup) (hy : X.N[i]? = some y) (hyl : X.env.scope.names.lookup y = some .local)
    (hsw : swapsWith (.DictComp kx vx [⟨tg, iter, ifs, 0⟩] scope pos) (some (.Name y py)) spos.line X.env = pure true) (hi : PI X tg iter wi) (ok : BlkOk X.N X.env.scope scope own)
    (hg : ∀ (s : Shared) (H : Hp) (C : Addr) (cl : List (Str × Addr)) (fp : List Addr), PG (X.blk s H scope (compEnvC scope cl C X.env) fp) tg g) (ht : ∀ (s : Shared) (H : Hp) (C : Addr) (cl : List (Str × Addr)) (fp : List Addr), PTs (X.blk s H scope (compEnvC scope cl C X.env) fp) ifs tt)
    (hk : ∀ (s : Shared) (H : Hp) (C : Addr) (cl : List (Str × Addr)) (fp : List Addr), PE (X.blk s H scope (compEnvC scope cl C X.env) fp) kx tk)
    (he : ∀ (s : Shared) (H : Hp) (C : Addr) (cl : List (Str × Addr)) (fp : List Addr), PE (X.blk s H scope (compEnvC scope cl C X.env) fp) vx tv) (hs : ∀ x, foldedSetIterable iter X.env x = pure x) :
    PS X (.Assign [.Name y py] (.DictComp kx vx [⟨tg, iter, ifs, 0⟩] scope pos) spos) (tAsg (tDc wi g tt tk tv (own.map (·.2))) (gName i)) := by
  refine ⟨fun pins s σ H D I h => ?_⟩
  rw [exec_Assign_Name_used _ _ _ _ hsw]
  refine wpAny_bind (wpAny_standAt (wpAny_bind ?_))
  show wpAny _ X.A (do let _ ← comprehension (.DictComp kx vx [⟨tg, iter, ifs, 0⟩] scope pos) scope X.env (firstIterPos [⟨tg, iter, ifs, 0⟩] pos) newDict false (eval iter X.env) (some (assign (.Name y py) X.env))) _ _ s
  have h : tDc wi g tt tk tv (own.map (·.2)) σ H (fun x H1 => gName i x σ H1 D.nx) := h
  refine wpAny_bind (thn (dc_core (Qf := fun _ s' => SP X pins D .next s') hc hN I hi ok hg ht hk he hs h fun L C s' m H' I' q hn f => ?_) fun _ s' hq => wpAny_pure (wpAny_pure hq))
  show wpAny _ _ (assign (.Name y py) X.env (.ref L)) _ _ _
  refine wpAny_assign_Name (store_ok2 (v := V.ref L) I' hN hy (.inl hyl) rfl (fun s2 I2 ⟨a, sb, ha⟩ => ?_) (.inr hyl))
  obtain ⟨f0, f1, f2, f3, f4, f5⟩ := f
  have haC : C ≠ a := by
    rcases ha with z | z
    · rw [z]; exact f1
    · exact fun e => f4 y a z e.symm
  refine ⟨m, hn.sameBut sb haC, fun h3 sb3 => ?_⟩
  exact ⟨_, H', I2.turned (t' := s2.toks) (fun b o hb e => (sb3.2 b hb).trans e) f0 f1 f3 f4 f5, q⟩
theorem sw_trueD {kx vx : Expr} {gs : List Comprehension} {scope : Scope} {pos py : Pos} {y : Str} {l : Nat} {env : PySem.Env} (hk : env.scope.kind = .function) (hy : env.scope.names.lookup y = some .local) (hl : (py.line == pos.line) = true)
    (ha : (scope.names.any fun (n, k) => n == y && (k == .local || k == .cell)) = false) : swapsWith (.DictComp kx vx gs scope pos) (some (.Name y py)) l env = pure true := by
  have ky : env.kindOf y = some .local := hy
  have hb : env.blockKind = .function := by unfold Env.blockKind; rw [hk]; rfl
  unfold swapsWith
  simp only [hb, ky, ha, Expr.pos, hl]
  rfl
end
end MP

set_option Elab.async false
set_option linter.all false
set_option maxRecDepth 100000
set_option maxHeartbeats 8000000
/-! MpK: every expression. -/
namespace MP
open PySem PySem.Spec L2
variable {Tb : TabL}

section
variable {P : Str → Option Fn} {df : Str → Bool} {n : Nat} {N : List Str} {sc : Scope} {fb : Str → Bool} {X : Cx}
/-- a built-in function called -/
theorem blt_den {K : PySem.W.Frag} {f : Str} {ms : List E} {τ : L2.St} {H : Hp} {Q : VK} (h : denE K (FOf Tb P n) (.blt f ms) τ H Q) :
    denEs K (FOf Tb P n) ms τ H fun vs H1 => liftL K (fun (C : KstT Tb) => bltK C f) vs H1 Q := by
  obtain ⟨C, σ, st, rs, rel, h⟩ := h
  unfold evE at h
  refine ⟨C, σ, st, rs, rel, evEs_mono (callF_mono P C n) _ _ _ _ _ (fun ds st1 q H1 vs r1 k1 hv => ?_) h⟩
  refine ⟨C, st1, ds, r1, hv, bltK_mono (fun d s q H2 v r2 k2 hv2 => ?_) q⟩
  exact q H2 v r2 (k1.trans k2) hv2
theorem pe_blt {k : Nat} (c : Cxt Tb P n N sc fb X) (ih : ∀ e m, cE df k N sc e = some m → PE X e (denE X.K (FOf Tb P n) m)) {f : Str} {p pos : Pos} {a : Expr} {as : List Expr} {ms : List E} (hg : globB sc f = true) (hb : bltB f = true) (ha : cL (cE df k N sc) (a :: as) = some ms) :
    PE X (.Call (.Name f p) (a :: as) [] pos) (denE X.K (FOf Tb P n) (.blt f ms)) := by
  obtain ⟨s1, s2⟩ := star1 ha pos X.env
  have pa := pa_of ih _ ms ha
  have g := c.glob hg
  have nb : namesB f = true := by
    unfold namesB
    exact decide_eq_true (.inl hb)
  have m := c.bl f nb
  have hb' := of_decide_eq_true hb
  rcases hb' with rfl | rfl | rfl | rfl | rfl | rfl | rfl | rfl | rfl
  · exact PE.imp (pe_callB bl_len g m (by decide +kernel) pa (by decide) (by decide) s1 s2) fun τ H Q h => blt_den h
  · exact PE.imp (pe_callTy bl_int g m (by decide +kernel) pa (by decide) (by decide) s1 s2) fun τ H Q h => blt_den h
  · exact PE.imp (pe_callB bl_abs g m (by decide +kernel) pa (by decide) (by decide) s1 s2) fun τ H Q h => blt_den h
  · exact PE.imp (pe_callB (bl_max c.calm) g m (by decide +kernel) pa (by decide) (by decide) s1 s2) fun τ H Q h => blt_den h
  · exact PE.imp (pe_callB (bl_min c.calm) g m (by decide +kernel) pa (by decide) (by decide) s1 s2) fun τ H Q h => blt_den h
  · exact PE.imp (pe_callB (bl_sum c.calm) g m (by decide +kernel) pa (by decide) (by decide) s1 s2) fun τ H Q h => blt_den h
  · exact PE.imp (pe_callTy bl_tuple g m (by decide +kernel) pa (by decide) (by decide) s1 s2) fun τ H Q h => blt_den h
  · exact PE.imp (pe_callTy bl_list g m (by decide +kernel) pa (by decide) (by decide) s1 s2) fun τ H Q h => blt_den h
  · exact PE.imp (pe_callB bl_sorted g m (by decide +kernel) pa (by decide) (by decide) s1 s2) fun τ H Q h => blt_den h
/-- isinstance(e, T) -/
theorem pe_isi {k : Nat} (c : Cxt Tb P n N sc fb X) (ih : ∀ e m, cE df k N sc e = some m → PE X e (denE X.K (FOf Tb P n) m)) {p pos pT : Pos} {a : Expr} {m : E} {T : Str} {T' : String} (hg : globB sc "isinstance" = true) (hT : globB sc T = true) (hT' : isiT T = some T') (ha : cE df k N sc a = some m) :
    PE X (.Call (.Name "isinstance" p) [a, .Name T pT] [] pos) (denE X.K (FOf Tb P n) (.isi m T')) := by
  have g := c.glob hg
  have mi := c.bl "isinstance" (by decide)
  have main : ∀ (hv : bootBuiltins T = some (.type T')) (nT : namesB T = true) (h1 : T ≠ "__name__") (h2 : (T == ("__debug__" : Str)) = false), PE X (.Call (.Name "isinstance" p) [a, .Name T pT] [] pos) (denE X.K (FOf Tb P n) (.isi m T')) := by
    intro hv nT h1 h2
    have pT : PE X (.Name T pT) (tC (.ty T')) := pe_bltn (c.glob hT) (c.bl T nT) hv rfl h1 h2
    have pa : PA X [a, .Name T _] (tCons (denE X.K (FOf Tb P n) m) (tCons (tC (.ty T')) tNil)) := pa_cons (ih a m ha) (pa_cons pT pa_nil) (star_of ha _ X.env)
    refine PE.imp (pe_callB call_isi g mi (by decide +kernel) pa (by decide) (by decide) (star_of ha _ X.env) rfl) fun τ H Q ⟨C, σ, st, rs, rel, h⟩ => ?_
    unfold evE at h
    refine ⟨C, σ, st, rs, rel, evE_mono (callF_mono P C n) _ _ _ _ _ (fun d st1 q H1 v r1 k1 hv => ?_) h⟩
    split at q
    · rename_i b hb
      obtain ⟨t, ty, e⟩ := isi_rv hb hv
      exact ⟨v, .ty T', t, .type T', b, rfl, .ty T', ty, e, q H1 _ r1 k1 (rv_bl.mpr rfl)⟩
    · exact q.elim
  unfold isiT at hT'
  split at hT'
  · rename_i e; subst e; cases hT'; exact main (by decide +kernel) (by decide) (by decide) (by decide)
  split at hT'
  · rename_i e; subst e; cases hT'; exact main (by decide +kernel) (by decide) (by decide) (by decide)
  split at hT'
  · rename_i e; subst e; cases hT'; exact main (by decide +kernel) (by decide) (by decide) (by decide)
  split at hT'
  · rename_i e; subst e; cases hT'; exact main (by decide +kernel) (by decide) (by decide) (by decide)
  split at hT'
  · rename_i e; subst e; cases hT'; exact main (by decide +kernel) (by decide) (by decide) (by decide)
  · cases hT'
/-- a def called -/
theorem pe_user {k : Nat} (c : Cxt Tb P n N sc fb X) (ih : ∀ e m, cE df k N sc e = some m → PE X e (denE X.K (FOf Tb P n) m)) {f : Str} {p pos : Pos} {as : List Expr} {kws : List Keyword} {ms ns : List E} {ks : List Str} (hdf : ∃ fn, P f = some fn ∧ fn.kd ≠ 2) (hg : globB sc f = true) (hd : (f == ("__debug__" : Str)) = false)
    (ha : cL (cE df k N sc) as = some ms) (hks : kwNames kws = some ks) (hask : ¬ ks = askK) (hkw : cKw (cE df k N sc) kws = some ns) : PE X (.Call (.Name f p) as kws pos) (denE X.K (FOf Tb P n) (.call f ms ks ns)) := by
  have g := c.glob hg
  obtain ⟨fn, hP, hkd⟩ := hdf
  cases (rfl : fn = fn) with
  | refl =>
    obtain ⟨a, hm, hDM⟩ := (c.fs f fn hP hkd).ex
    have hk : PySem.W.keepIn X.K (.ref a) = true := by
      rcases hDM with ⟨hk, _⟩ | ⟨_, _, _, _, fI, fd, gn, mk, _⟩
      · exact hk
      · exact mk.kp
    obtain ⟨k1, k2, k3⟩ := kws_of (kws := kws) pos X.env hks
    have pk := pk_of ih kws ns hkw
    have fin : ∀ {pins : List (Addr × Obj)} {s : Shared} {τ : L2.St} {H : Hp} {Q : VK} {us ws : List Value} {vs zs : List V} {ds es : List D} {C : KstT Tb} {st : Sto}, L2.Inv X pins τ H s → Vals vs us → Vals zs ws → RVs X.K H ds vs → RVs X.K H es zs → Rel X.K C st H →
        FOf Tb P n C f ds ks es st (PQ X.K C st H Q) → wpAny (model X.prog X.w) X.A (call (.ref a) us (ks.zip ws)) (EP X pins τ Q) X.xe s := by
      intro pins s τ H Q us ws vs zs ds es C st I r rz hds hes rel h
      unfold FOf callF callOf at h
      rw [hP] at h
      replace h := (show if ks = askK then True else _ from h)
      rw [if_neg hask] at h
      obtain ⟨h1, h2, h3⟩ := h
      rcases hDM with ⟨_, fd, F, hb⟩ | M
      · exact run_call F c.room (hb ds.length ks h1) I r rz hds hes rel rfl h2 h3
      · exact run_cls M c.room hP h1 I r rz hds hes rel h2 h3
    refine ⟨fun pins s τ H Q I ⟨C, σ, st, rs, rel, h⟩ => ?_⟩
    unfold evE at h
    refine wpAny_Call_Name_kw (ld_glob I g hm ?_ hd)
    cases as with
    | nil =>
      have e : [] = ms := by simpa [cL] using ha
      subst e
      unfold evEs at h
      refine PySem.W.callWith_KW0 (h₀ := X.base) I.ok.mod.kin hk k1 (thn (pk.run pos pins s τ H (fun zs H2 => ∃ st2 es, Rel X.K C st2 H2 ∧ Keep st H st2 H2 ∧ RVs X.K H2 es zs ∧ FOf Tb P n C f [] ks es st2 (PQ X.K C st H Q)) I ⟨C, σ, st, rs, rel, evEs_mono (callF_mono P C n) _ _ _ _ _ (fun es st2 q H2 zs r2 k2 hz => ⟨st2, es, r2, k2, hz, q⟩) h⟩) fun ws s2 ⟨zs, H2, I2, rz, st2, es, r2, k2', hz, q2⟩ => ⟨I2.kIn, ?_⟩) (by show (false || _) = false; rw [k3] <;> rfl)
      rw [k2]
      exact fin (us := []) (ds := []) I2 .nil rz RVs.nil hz r2 (callF_mono P C n _ _ _ _ _ _ _ (PQ.next k2') q2)
    | cons e0 es0 =>
      obtain ⟨s1, s2⟩ := star1 ha pos X.env
      have pa := pa_of ih _ ms ha
      refine PySem.W.callWith_KW (h₀ := X.base) I.ok.mod.kin hk k1 (thn (pa.run pos pins s τ H (fun vs H1 => ∃ st1 ds, Rel X.K C st1 H1 ∧ Keep st H st1 H1 ∧ RVs X.K H1 ds vs ∧ evEs (FOf Tb P n C) C ns σ st1 fun ws st2 => FOf Tb P n C f ds ks ws st2 (PQ X.K C st H Q)) I
        ⟨C, σ, st, rs, rel, evEs_mono (callF_mono P C n) _ _ _ _ _ (fun ds st1 q H1 vs r1 k1 hv => ⟨st1, ds, r1, k1, hv, q⟩) h⟩) fun us s1' ⟨vs, H1, I1, r, st1, ds, r1, k1', hv, q1⟩ => ?_) (by rw [s1]; show ((false || (backTo pos (starEach es0 X.env)).any (·.1)) || _) = false; rw [s2, k3] <;> rfl) s1
      refine thn (pk.run pos pins s1' τ H1 (fun zs H2 => ∃ st2 es, Rel X.K C st2 H2 ∧ Keep st1 H1 st2 H2 ∧ RVs X.K H2 es zs ∧ FOf Tb P n C f ds ks es st2 (PQ X.K C st H Q)) I1 ⟨C, σ, st1, rs.keep rel k1', r1, evEs_mono (callF_mono P C n) _ _ _ _ _ (fun es st2 q H2 zs r2 k2 hz => ⟨st2, es, r2, k2, hz, q⟩) q1⟩) fun ws s2' ⟨zs, H2, I2, rz, st2, es, r2, k2', hz, q2⟩ => ⟨I2.kIn, ?_⟩
      rw [k2]
      exact fin I2 r rz (RVs.keep r1 k2' _ _ hv) hz r2 (callF_mono P C n _ _ _ _ _ _ _ (PQ.next (k1'.trans k2')) q2)
end
end MP

set_option Elab.async false
set_option linter.all false
set_option maxRecDepth 100000
set_option maxHeartbeats 8000000
/-! MpKs: sorted(e, key=lambda x: x[0]). -/
namespace MP
open PySem PySem.Spec PyProof.Rows L2
variable {Tb : TabL}

theorem lamKey_ok {k : Keyword} (h : lamKey k = true) : ∃ (x : Str) (ap p1 p2 p3 lp kp : Pos) (j : Nat) (mo : List (Str × Const)), k = ⟨some "key", .Lambda ⟨[], [⟨x, none, ap⟩], none, [], [], none, []⟩ (.Subscript (.Name x p1) (.Constant (.int 0) j p2) p3) ⟨.function, [(x, .local)], false, false, mo⟩ lp, kp⟩ ∧
    (x == ("__debug__" : Str)) = false ∧ (x == ("__classdict__" : Str)) = false := by
  unfold lamKey at h
  split at h
  · simp only [Bool.and_eq_true, Bool.not_eq_true', decide_eq_true_eq] at h
    obtain ⟨⟨⟨⟨h1, h2⟩, h3⟩, h4⟩, h5⟩ := h
    subst h1 h2 h3
    exact ⟨_, _, _, _, _, _, _, _, _, rfl, h4, h5⟩
  · cases h
section
variable {X : Cx} {pins : List (Addr × Obj)} {σ : L2.St} {H : Hp} {s : Shared}
/-- all but the frame is kept behind rules that keep the ledger -/
theorem sk_kept {g h h' : Heap} {L : Addr} {m : Str → Option Value} (k : ∀ b o, g.get? b = some o → h.get? b = some o) (F : Fr g L h' m) (N : ∀ p ∈ allNews g h L, h'.get? p.1 = some p.2) :
    ∀ b o, b ≠ L → h.get? b = some o → h'.get? b = some o := fun b o h1 e => by
  cases q : g.get? b with
  | some u =>
    have := k b u q
    rw [e] at this; cases this
    exact F.keep b _ q
  | none => exact N (b, o) (mem_allNews h1 q e)
theorem objOk_there {P : Program} {w : World} {H : Hp} {h : Heap} {a : Addr} {o : HO} (x : ObjOk P w H h a o) : ∃ u, h.get? a = some u := by
  cases o with
  | lst xs => obtain ⟨_, _, _, _, e⟩ := x; exact ⟨_, e⟩
  | tup xs => obtain ⟨_, _, _, o, e, _⟩ := x; exact ⟨_, e⟩
  | dK kvs => obtain ⟨_, _, _, _, o, _, _, e, _⟩ := x; exact ⟨_, e⟩
  | dT kvs => obtain ⟨_, _, _, _, o, _, _, e, _⟩ := x; exact ⟨_, e⟩
  | set S n => obtain ⟨o, _, _, _, e, _⟩ := x; exact ⟨_, e⟩
  | ins C dx fs => obtain ⟨_, _, _, e, _⟩ := x; exact ⟨_, e⟩
  | own y => obtain ⟨_, e⟩ := x; exact ⟨_, e⟩
  | xd fs => obtain ⟨_, ⟨_, _, _, e, _⟩, _⟩ := x; exact ⟨_, e⟩
  | rng lo hi => obtain ⟨_, _, _, e⟩ := x; exact ⟨_, e⟩
  | frz ob u => obtain ⟨e, _⟩ := x; exact ⟨_, e⟩
  | tbl ps => exact ⟨_, (show h.get? a = some _ from x)⟩
  | met f y => exact ⟨_, (show h.get? a = some _ from x)⟩
  | ext φ => obtain ⟨_, ⟨_, e⟩, _⟩ := x; exact ⟨_, e⟩
theorem vals_perm {us ws : List Value} (p : us.Perm ws) : ∀ {vs : List V}, Vals vs us → ∃ zs, Vals zs ws ∧ zs.Perm vs := by
  induction p with
  | nil => intro vs h; cases h; exact ⟨[], .nil, .nil⟩
  | cons x _ ih =>
    intro vs h
    cases h with
    | cons r t =>
      obtain ⟨zs, h1, h2⟩ := ih t
      exact ⟨_ :: zs, .cons r h1, h2.cons _⟩
  | swap x y l =>
    intro vs h
    cases h with
    | cons r t =>
      cases t with
      | cons r2 t2 => exact ⟨_ :: _ :: _, .cons r2 (.cons r t2), .swap _ _ _⟩
  | trans _ _ ih1 ih2 =>
    intro vs h
    obtain ⟨zs, h1, h2⟩ := ih1 h
    obtain ⟨ys, h3, h4⟩ := ih2 h1
    exact ⟨ys, h3, h4.trans h2⟩
theorem rvs_perm {K : PySem.W.Frag} {us ws : List V} (p : us.Perm ws) : ∀ {vs : List D}, RVs K H vs us → ∃ zs, RVs K H zs ws ∧ zs.Perm vs := by
  induction p with
  | nil => intro vs h; cases vs with
    | nil => exact ⟨[], RVs.nil, .nil⟩
    | cons d ds => obtain ⟨v, w, e, _⟩ := h.cons_inv; cases e
  | cons x _ ih =>
    intro vs h
    cases vs with
    | nil => cases h.nil_inv
    | cons d ds =>
      obtain ⟨v, w, e, h1, h2⟩ := h.cons_inv
      cases e
      obtain ⟨zs, h3, h4⟩ := ih h2
      exact ⟨d :: zs, RVs.cons h1 h3, h4.cons _⟩
  | swap x y l =>
    intro vs h
    cases vs with
    | nil => cases h.nil_inv
    | cons d ds =>
      obtain ⟨v, w, e, h1, h2⟩ := h.cons_inv
      cases e
      cases ds with
      | nil => cases h2.nil_inv
      | cons d2 ds =>
        obtain ⟨v2, w2, e, h3, h4⟩ := h2.cons_inv
        cases e
        exact ⟨d2 :: d :: ds, RVs.cons h3 (RVs.cons h1 h4), .swap _ _ _⟩
  | trans _ _ ih1 ih2 =>
    intro vs h
    obtain ⟨zs, h1, h2⟩ := ih1 h
    obtain ⟨ys, h3, h4⟩ := ih2 h1
    exact ⟨ys, h3, h4.trans h2⟩
theorem sk_bind {q x : Str} {ap : Pos} {body : Expr} {sc : Scope} {pm ctv cv v : Value} :
    bindArgs (PySem.W.kla_fn "<lambda>" q ⟨[], [⟨x, none, ap⟩], none, [], [], none, []⟩ body sc [] pm cv ctv) ⟨[v], []⟩ = pure [(x, v)] := by
  unfold bindArgs
  simp [seqItems?, List.lookup]
  rfl
/-- the lambda on one tuple -/
theorem sk_turn {prog : Program} {w : World} {A : Around} {s : Shared} {g h : Heap} {L f p c' : Addr} {m : Str → Option Value} {need : List (Addr × Obj)} {x q : Str} {ap p1 p2 p3 : Pos} {j : Nat} {mo : List (Str × Const)} {pm ctv : Value} {tk : Nat} {ts : List Value} {k : Int} {t : Tok}
    (hd1 : (x == ("__debug__" : Str)) = false) (hroom : A.depth < recursionLimit) (hlim : h.NoLimit)
    (hf : h.get? f = some (PySem.W.kla_obj "<lambda>" q ⟨[], [⟨x, none, ap⟩], none, [], [], none, []⟩ (.Subscript (.Name x p1) (.Constant (.int 0) j p2) p3) ⟨.function, [(x, .local)], false, false, mo⟩ [] pm c' ctv))
    (hcd : h.CodeRec (.ref c') q) (ht : IsTup h p ts.toArray) (h0 : ts[0]? = some (.int k t)) (F : Fr g L h m) (N : News g L h need) :
    wpAny (model prog w) A (call (.ref f) [.ref p]) (KskEnd g L m need k { s with heap := h, toks := tk }) (fun _ _ => False) { s with heap := h, toks := tk } := by
  refine wpAny_call (PySem.W.kla_callFunE (s := { s with heap := h, toks := tk }) hroom hf rfl rfl rfl rfl hcd ?_)
  rw [sk_bind]
  refine wpAny_pure (wpAny_newFunctionEnv (fun y hy => ?_) (fun y hy => ?_) (fun h₁ hns hsb => ⟨hlim.fresh _ hsb, ?_⟩) rfl)
  · have e : y = (x, .local) := by simpa using hy
    rw [e]
    exact fun z => by cases z
  · have e : y = (x, .ref p) := by simpa using hy
    rw [e]
    show List.lookup x [(x, NameKind.local)] = _
    simp
  refine PySem.W.kla_codeExpr ?_
  have kp : ∀ b o, h.get? b = some o → h₁.get? b = some o := fun b o e => hsb.extBut b o (Nat.ne_of_lt (Heap.lt_size e)) (Heap.get?_push_of_some _ e)
  refine Subscript_ (wpAny_Name (wpAny_loadName_local rfl (by show List.lookup x [(x, NameKind.local)] = _; simp) hns (v := .ref p) (by simp) (wpAny_Constant_int ?_)) hd1)
  have ht1 : IsTup h₁ p ts.toArray := by
    obtain ⟨o, e, r⟩ := ht
    exact ⟨o, kp _ _ e, r⟩
  refine subscriptTail_builtin ht1.typeIs slot_tuple_getitem.lookup (PyProof.Rows.getItem_tuple (j := 0) ht1 (by decide) (by decide) ?_ (by simpa using h0) ?_)
  · have hl : 0 < ts.length := (List.getElem?_eq_some_iff.mp h0).1
    unfold seqIndex?
    simp [hl]
  · exact ⟨h₁, _, t, rfl, rfl, F.kept kp, N.grown kp⟩
theorem sk_sorted {a f c' : Addr} {vs : List V} {kz : List Int} {Q : VK} {x q : Str} {ap p1 p2 p3 : Pos} {j : Nat} {mo : List (Str × Const)} {pm ctv : Value} (I : L2.Inv X pins σ H s) (hroom : X.A.depth < recursionLimit) (hd1 : (x == ("__debug__" : Str)) = false)
    (hf : s.heap.get? f = some (PySem.W.kla_obj "<lambda>" q ⟨[], [⟨x, none, ap⟩], none, [], [], none, []⟩ (.Subscript (.Name x p1) (.Constant (.int 0) j p2) p3) ⟨.function, [(x, .local)], false, false, mo⟩ [] pm c' ctv))
    (hc : H c' = some (LamX.CodeO c' q)) (hL : H a = some (.lst vs)) (hlen : kz.length = vs.length)
    (hkz : ∀ (i : Nat) (v : V) (k : Int), vs[i]? = some v → kz[i]? = some k → ∃ p ws, v = .ref p ∧ SqT X.K H p ws ∧ ws[0]? = some (.int k))
    (h : ∀ (D : Addr) (out : List V), out.Perm vs → H D = none → Q (.ref D) (upd H D (.lst out))) :
    wpAny (model X.prog X.w) X.A (call (.builtin "sorted") [.ref a] [(Str.ofString "key", .ref f)]) (EP X pins σ Q) X.xe s := by
  obtain ⟨m, F⟩ := I.fr
  obtain ⟨its, rv, pl, hz⟩ := I.list (SqL.of hL)
  have hl := rv.length
  obtain ⟨oL, esL, epL, eL, dL, _⟩ := id F.ns
  have nL : ∀ {b : Addr} {o : Obj}, s.heap.get? b = some o → (∀ es ep, o.data ≠ .dict es ep) → b ≠ X.env.locals := fun {b o} e n z => by
    rw [z, eL] at e
    cases e
    exact n _ _ dL
  have fL : f ≠ X.env.locals := nL hf fun _ _ z => by cases z
  obtain ⟨⟨oc, vc, t, hoc, hdc, hvc⟩, _, _⟩ := I.hok c' _ hc
  have cL : c' ≠ X.env.locals := fun z => by
    rw [z, I.free] at hc
    cases hc
  refine ksk_sortedAny (news := allNews X.base s.heap X.env.locals) (kz := kz) (b := false) F news_all pl.isList (by rw [hlen, hl]) (by rw [← hl]; exact hz) (ksk_s1 _ _) (fun x => ksk_l1 _ _) (fun x => ksk_t1 f x) (fun i v k hv hk h tk own F' N' => ?_) (fun D h' tk out c F' N' hD ko => ?_)
  · have kp := sk_kept I.bk F' fun p hp => (N' p (List.mem_append_left _ hp)).1
    have hi : i < vs.length := by rw [hl]; exact (List.getElem?_eq_some_iff.mp hv).1
    obtain ⟨u, eu, ru⟩ := rv.get (List.getElem?_eq_getElem hi)
    rw [hv] at eu
    cases eu
    obtain ⟨p, ws, ep, hp, h0⟩ := hkz i _ k (List.getElem?_eq_getElem hi) hk
    rw [ep] at ru
    obtain rfl : v = Value.ref p := ru
    obtain ⟨ts, rt, pt, _⟩ := I.tuple hp
    obtain ⟨u, eu, ru⟩ := rt.get h0
    obtain ⟨t', rfl⟩ := ru
    have ht : IsTup h p ts.toArray := by
      obtain ⟨o, e, cl, n, d⟩ := pt
      exact ⟨o, kp _ _ (nL e fun _ _ z => by rw [d] at z; cases z) e, cl, n, d⟩
    exact sk_turn (s := s) hd1 hroom (I.ok.mod.nolimit.keeps F'.keep) (kp _ _ fL hf) ⟨c', oc, vc, t, rfl, kp _ _ cL hoc, hdc, hvc⟩ ht eu F' N'
  · have kp := sk_kept I.bk F' fun p hp => (N' p (List.mem_cons_of_mem _ hp)).1
    obtain ⟨eD, DL, Db⟩ := N' (D, seqObj "list" out c) (List.mem_cons_self ..)
    have nD : s.heap.get? D = none := by
      cases e : s.heap.get? D with
      | none => rfl
      | some o => exact absurd (hD _ (mem_allNews DL Db e)) (Nat.lt_irrefl _)
    have HD : H D = none := by
      cases e : H D with
      | none => rfl
      | some u =>
        obtain ⟨o, z⟩ := objOk_there (I.hok D u e)
        rw [nD] at z
        cases z
    obtain ⟨ps, hp, eo, _⟩ := ko
    have hperm : its.Perm out.toList := by
      have h1 := hp.map Prod.snd
      rw [List.map_snd_zip (by omega)] at h1
      rw [eo]
      exact h1.symm
    obtain ⟨ovs, ro, po⟩ := vals_perm hperm rv
    have new : ObjOk X.prog X.w (upd H D (.lst ovs)) h' D (.lst ovs) := ⟨by rw [po.length_eq]; exact hz, out.toList, c, ro, by simpa using eD⟩
    have sm : ∀ b u, H b = some u → b ≠ D := fun b u e => ne_of_none e HD
    have sD : ∀ b o, s.heap.get? b = some o → b ≠ D := fun b o e z => by rw [z, nD] at e; cases e
    have up : ∀ b u, H b = some u → upd H D (.lst ovs) b = some u := fun b u e => by rw [upd_ne (sm b u e)]; exact e
    have I2 : L2.Inv X pins σ (upd H D (.lst ovs)) { s with heap := h', toks := tk } := by
      refine I.step (g' := s.gens) (d' := s.drawn) (ch := []) (fun b hb => absurd hb (by simp)) (fun b o hL _ _ e _ => kp b o hL e) (fun b o hL _ _ e _ => ⟨o.slots, kp b o hL e⟩) (fun b o _ e n => by rw [upd_ne (sD b o e)]; exact n) (fun b o _ e => ?_)
        (fun b xs e => up b _ e) (fun b o u e => up b _ e) (fun b qs e => ⟨#[], by rw [up b _ e]; simp⟩) (fun m' hm => by rw [SlX.ns_only hm F.ns]; exact F'.ns) (fun b u e => ?_) I.bare
      · by_cases hb : b = X.env.locals
        · obtain ⟨o', _, _, e', _⟩ := F'.ns
          exact ⟨o', by rw [hb]; exact e'⟩
        · exact ⟨o, kp b o hb e⟩
      · by_cases hb : b = D
        · rw [hb, upd_same] at e
          cases e
          rw [hb]
          exact new
        · rw [upd_ne hb] at e
          refine (I.hok b u e).stay (fun d v hd q => kp d v ?_ q) (fun d q => up d _ q) fun d _ q => up d _ q
          intro z
          rcases hd with w | w
          · rw [← w, z, I.free] at e
            cases e
          · rw [z, I.free] at w
            cases w
    exact ⟨.ref D, _, I2, rfl, h D ovs po HD⟩
end
theorem blt_sorted0 {C : Kst} {ds : List D} {st : Sto} {R : D → Sto → Prop} (hb : bltK C "sorted0" ds st R) : ∃ (a : Addr) (xs : List D), ds = [.ref a] ∧ st a = some (.lst xs) ∧ (∀ x ∈ xs, ∃ (i : Int) (r : List D), x = .tup (.int i :: r)) ∧ xs.length < 64 ∧ ∀ ys : List D, ys.Perm xs → newL ys st R := by
  unfold bltK at hb
  rw [if_neg (by decide), if_neg (by decide), if_neg (by decide), if_neg (by decide), if_neg (by decide), if_neg (by decide), if_neg (by decide), if_neg (by decide)] at hb
  unfold bltK2 at hb
  rw [if_neg (by decide), if_pos rfl] at hb
  split at hb
  · rename_i a
    split at hb
    · rename_i xs e
      exact ⟨a, xs, rfl, e, hb⟩
    · exact hb.elim
  · exact hb.elim
def keyOf0 : D → Int
  | .tup (.int i :: _) => i
  | _ => 0
section
variable {P : Str → Option Fn} {df : Str → Bool} {n : Nat} {N : List Str} {sc : Scope} {fb : Str → Bool} {X : Cx}
theorem pe_sorted0 {k : Nat} (c : Cxt Tb P n N sc fb X) (ih : ∀ e m, cE df k N sc e = some m → PE X e (denE X.K (FOf Tb P n) m)) {p pos : Pos} {e : Expr} {m : E} {kw : Keyword} (hg : globB sc "sorted" = true) (hk : lamKey kw = true) (hN : lamMark ∈ N) (he : cE df k N sc e = some m) :
    PE X (.Call (.Name "sorted" p) [e] [kw] pos) (denE X.K (FOf Tb P n) (.blt "sorted0" [m])) := by
  obtain ⟨x, ap, p1, p2, p3, lp, kp, j, mo, rfl, hd1, hd2⟩ := lamKey_ok hk
  obtain ⟨cc, pt, TB, hcode, hmem, hu⟩ := c.lam lamMark (.inl rfl) hN
  have g := c.glob hg
  have mg := c.bl "sorted" (by decide)
  have ha : cL (cE df k N sc) [e] = some [m] := by simp [cL, he]
  have pa := pa_of ih _ _ ha
  have hst := star_of he [] X.env
  refine ⟨fun pins s σ H Q I h => ?_⟩
  have h' := blt_den h
  refine wpAny_Call_Name_kw (ld_blt I g mg (u := .builtin "sorted") (by decide +kernel) ?_)
  refine PyProof.Rows.callWith_kw (thn (pa.run pos pins s σ H _ I h') fun us s1 ⟨vs, H1, I1, r1, q1⟩ => ?_) (by rw [hst]; rfl) (stars_of pos X.env ha) (by rfl) (by rfl)
  obtain ⟨C, st, ds, rel, hds, hb⟩ := q1
  obtain ⟨a, xs, rfl, ea, ht, h64, hq⟩ := blt_sorted0 hb
  obtain ⟨v, ws, rfl, hv, hw⟩ := hds.cons_inv
  cases hw.nil_inv
  cases rv_ref.mp hv
  cases r1 with
  | cons ra rn =>
    cases rn
    obtain rfl := ra
    obtain ⟨vs', hL, hvs⟩ := rel.lst ea
    refine kws_cons (LamX.lam_make2 I1 TB hcode hmem hu rel.tb rfl (fun y hy e => ?_) fun f c' pm ctv H2 s' I2 eN T2 hf hfn hfr hco => kws_nil ?_)
    · have z : y = (x, .local) := by simpa using hy
      rw [z] at e
      cases e
    · have k12 : Keep st H1 st H2 := fun b o e t n => ⟨eN b o e t, n⟩
      have rel2 : Rel X.K C st H2 := rel.step k12 T2 fun b o e => .inl ⟨e, by
        obtain ⟨vs, q, mq⟩ := (rel.ob b o e).there
        rw [eN b _ q (by intro ps z; rw [z] at mq; exact mq.no_tbl), q]⟩
      have hL2 : H2 a = some (.lst vs') := eN a _ hL (by intro ps z; cases z)
      have hvs2 : RVs X.K H2 xs vs' := RVs.keep rel k12 _ _ hvs
      refine sk_sorted (kz := xs.map keyOf0) I2 c.room.depth hd1 hf hco hL2 (by rw [List.length_map, hvs.length]) (fun i v k hv hk => ?_) fun D out po HD => ?_
      · obtain ⟨d, ed, rd⟩ := hvs2.getV hv
        rw [List.getElem?_map, ed] at hk
        obtain ⟨i0, r, rfl⟩ := ht d (List.mem_of_getElem? ed)
        have hk' : i0 = k := by simpa [keyOf0] using hk
        subst hk'
        obtain ⟨p, ws, e1, e2, e3⟩ := rv_tupS rd
        obtain ⟨w, ws', e4, e5, _⟩ := e3.cons_inv
        refine ⟨p, ws, e1, e2, ?_⟩
        rw [e4, rv_int.mp e5] <;> rfl
      · obtain ⟨ys, e1, e2⟩ := rvs_perm po.symm hvs2
        exact hq ys e2 D (rel2.free HD) _ _ (rel2.newL HD e1) (k12.trans (Keep.new HD)) (rv_ref.mpr rfl)
end
end MP

set_option Elab.async false
set_option linter.all false
set_option maxRecDepth 100000
set_option maxHeartbeats 8000000
/-! MpGx: sum(1 for x in e if x + T[0] < A + T[1]), a count. -/
namespace MP
open PySem PySem.Spec PyProof.Rows L2
variable {Tb : TabL}

structure GenOk (N : List Str) (sc scope : Scope) (x T A : Str) : Prop where
  kind : scope.kind = .function
  co : scope.isCoroutine = false
  cell : ∀ y ∈ scope.names, y.2 ≠ .cell
  dot : scope.names.lookup (".0" : Str) = some NameKind.local
  loc : scope.names.lookup x = some .local
  fT : scope.names.lookup T = some .free
  fA : scope.names.lookup A = some .free
  free : ∀ y ∈ scope.names, y.2 = .free → sc.names.lookup y.1 = some .cell
  cT : sc.names.lookup T = some .cell
  cA : sc.names.lookup A = some .cell
  dx : (x == ("__debug__" : Str)) = false
  dT : (T == ("__debug__" : Str)) = false
  dA : (A == ("__debug__" : Str)) = false
  kT : (T == ("__classdict__" : Str)) = false
  kA : (A == ("__classdict__" : Str)) = false
  mark : genMark ∈ N
theorem genB_ok {N : List Str} {sc scope : Scope} {x x2 T T2 A : Str} (h : genB N sc scope x x2 T T2 A = true) : x2 = x ∧ T2 = T ∧ GenOk N sc scope x T A := by
  unfold genB at h
  simp only [Bool.and_eq_true, Bool.not_eq_true', Bool.or_eq_true, decide_eq_true_eq, decide_eq_false_iff_not, List.all_eq_true] at h
  obtain ⟨⟨⟨⟨⟨⟨⟨⟨⟨⟨⟨⟨⟨⟨⟨⟨⟨h1, h2⟩, h3⟩, h4⟩, h5⟩, h6⟩, h7⟩, h8⟩, h9⟩, h10⟩, h11⟩, h12⟩, h13⟩, h14⟩, h15⟩, h16⟩, h17⟩, h18⟩ := h
  exact ⟨h1, h2, h3, h4, h5, h6, h7, h8, h9, fun y hy e => (h10 y hy).resolve_left (fun z => z e), h11, h12, h13, h14, h15, h16, h17, h18⟩
theorem cGen_ok {f : Expr → Option E} {N : List Str} {sc : Scope} {as : List Expr} {m : E} (h : cGen f N sc as = some m) : ∃ (x it T A : Str) (scope : Scope) (j1 j2 j3 : Nat) (p1 p2 p3 p4 p5 p6 p7 p8 p9 p10 p11 p12 p13 p14 p15 : Pos) (m1 : E) (i j : Nat),
    as = [.GeneratorExp (.Constant (.int 1) j1 p1) [⟨.Name x p2, .Name it p3, [.Compare (.BinOp (.Name x p4) .Add (.Subscript (.Name T p5) (.Constant (.int 0) j2 p6) p7) p8) [.Lt] [.BinOp (.Name A p9) .Add (.Subscript (.Name T p10) (.Constant (.int 1) j3 p11) p12) p13] p14], 0⟩] scope p15] ∧
    GenOk N sc scope x T A ∧ f (.Name it p3) = some m1 ∧ idx N T = some i ∧ idx N A = some j ∧ m = .blt "cntlt" [m1, .var i, .var j] := by
  unfold cGen at h
  split at h
  · split at h
    · rename_i hg
      obtain ⟨e1, e2, g⟩ := genB_ok hg
      subst e1 e2
      split at h
      · rename_i e3 e4 e5
        cases h
        exact ⟨_, _, _, _, _, _, _, _, _, _, _, _, _, _, _, _, _, _, _, _, _, _, _, _, _, _, rfl, g, e3, e4, e5, rfl⟩
      · cases h
    · cases h
  · cases h
theorem blt_cnt {C : Kst} {ds : List D} {st : Sto} {R : D → Sto → Prop} (hb : bltK C "cntlt" ds st R) : ∃ (a : Addr) (x y z : Int) (r : List D) (xs : List D) (ns : List Int), ds = [.ref a, .tup (.int x :: .int y :: r), .int z] ∧ rdL C st a = some xs ∧ allInts xs = some ns ∧
    R (.int ((ns.filter fun n => decide (n + x < z + y)).length : Nat)) st := by
  unfold bltK at hb
  rw [if_neg (by decide), if_neg (by decide), if_neg (by decide), if_neg (by decide), if_neg (by decide), if_neg (by decide), if_neg (by decide), if_neg (by decide)] at hb
  unfold bltK2 at hb
  rw [if_pos rfl] at hb
  split at hb
  · rename_i a x y r z
    split at hb
    · rename_i xs e
      split at hb
      · rename_i ns e2
        exact ⟨a, x, y, z, r, xs, ns, rfl, e, e2, hb⟩
      · exact hb.elim
    · exact hb.elim
  · exact hb.elim
/-- the test at place i -/
def cntT (ns : List Int) (x y z : Int) (i : Nat) : Bool := match ns[i]? with
  | some n => decide (n + x < z + y)
  | none => false
theorem cnt_pass (ns : List Int) (x y z : Int) : (passing (cntT ns x y z) ns.length 0).length = (ns.filter fun n => decide (n + x < z + y)).length := by
  unfold passing
  rw [List.drop_zero]
  have e : ns = (List.range ns.length).map fun i => ns.getD i 0 := by
    apply List.ext_getElem
    · simp
    · intro i h1 h2
      simp [h1]
  have e2 : (List.range ns.length).filter (cntT ns x y z) = (List.range ns.length).filter ((fun n => decide (n + x < z + y)) ∘ fun i => ns.getD i 0) := by
    apply List.filter_congr
    intro i hi
    have hi' := List.mem_range.mp hi
    unfold cntT
    simp [hi']
  rw [e2, ← List.length_map (f := fun i => ns.getD i 0), ← List.filter_map, ← e]
theorem pre_one : ∀ n : Nat, preSum (fun _ => 1) n = n
  | 0 => rfl
  | n + 1 => by
    show preSum (fun _ => 1) n + 1 = _
    rw [pre_one n]
    omega
theorem clo_look {cells : List (Str × Addr)} {names : List (Str × NameKind)} {y : Str} {c : Addr} (h1 : (y, .free) ∈ names) (h2 : cells.lookup y = some c) : (cloFrom cells names []).lookup y = some c := by
  obtain ⟨c2, h⟩ := mem_lookup (cloFrom_has (cells := cells) (acc := []) h1)
  rw [h]
  rcases cloFrom_mem (PySem.mem_of_lookup h) with hm | ⟨_, e⟩
  · cases hm
  · rw [e, h2] <;> rfl

/-- the test in the generator's frame -/
theorem gen_test {prog : Program} {w : World} {A' : Around} {E' : Value → Shared → Prop} {s₂ : Shared} {cenv : PySem.Env} {m₂ : Str → Option Value} {x T A : Str} {cT cA p : Addr} {ts : List Value} {n a0 a1 z : Int} {tn t0 t1 tz : Tok} {j2 j3 : Nat} {p4 p5 p6 p7 p8 p9 p10 p11 p12 p13 p14 : Pos} {whole : Sem Value}
    (hk : cenv.scope.kind = .function) (hx : cenv.kindOf x = some .local) (hT : cenv.kindOf T = some .free) (hA : cenv.kindOf A = some .free) (hcT : cenv.cells.lookup T = some cT) (hcA : cenv.cells.lookup A = some cA)
    (cellT : s₂.heap.IsCell cT (some (.ref p))) (cellA : s₂.heap.IsCell cA (some (.int z tz))) (ht : IsTup s₂.heap p ts.toArray) (h0 : ts[0]? = some (.int a0 t0)) (h1 : ts[1]? = some (.int a1 t1)) (hn : s₂.heap.Ns cenv.locals m₂) (hm : m₂ x = some (.int n tn))
    (dx : (x == ("__debug__" : Str)) = false) (dT : (T == ("__debug__" : Str)) = false) (dA : (A == ("__debug__" : Str)) = false) (kT : (T == ("__classdict__" : Str)) = false) (kA : (A == ("__classdict__" : Str)) = false) :
    wpAny (model prog w) A' (isTrue (.Compare (.BinOp (.Name x p4) .Add (.Subscript (.Name T p5) (.Constant (.int 0) j2 p6) p7) p8) [.Lt] [.BinOp (.Name A p9) .Add (.Subscript (.Name T p10) (.Constant (.int 1) j3 p11) p12) p13] p14) cenv whole)
      (fun b s₃ => b = decide (n + a0 < z + a1) ∧ ∃ tk, s₃ = { s₂ with toks := tk }) E' s₂ := by
  have l0 : 0 < ts.length := (List.getElem?_eq_some_iff.mp h0).1
  have l1 : 1 < ts.length := (List.getElem?_eq_some_iff.mp h1).1
  refine wpAny_isTrue_Compare1 ?_
  refine wpAny_BinOp (wpAny_Name (wpAny_loadName_local hk hx hn hm ?_) dx)
  refine Subscript_ (wpAny_Name (wpAny_loadName_free hk hT hcT cellT (wpAny_Constant_int ?_) kT) dT)
  refine subscriptTail_builtin (IsTup.typeIs ht) slot_tuple_getitem.lookup (PyProof.Rows.getItem_tuple (j := 0) ht (by decide) (by decide) (by unfold seqIndex?; simp [l0]) (by simpa using h0) ?_)
  refine wpAny_add_int ?_
  refine wpAny_BinOp (wpAny_Name (wpAny_loadName_free hk hA hcA cellA ?_ kA) dA)
  refine Subscript_ (wpAny_Name (wpAny_loadName_free hk hT hcT cellT (wpAny_Constant_int ?_) kT) dT)
  refine subscriptTail_builtin (IsTup.typeIs ht) slot_tuple_getitem.lookup (PyProof.Rows.getItem_tuple (j := 1) ht (by decide) (by decide) (by unfold seqIndex?; simp; omega) (by simpa using h1) ?_)
  refine wpAny_add_int ?_
  refine PySem.P.lt_int ?_
  exact wpAny_truthy_bool ⟨rfl, _, rfl⟩
/-- the code object of a generator expression: made, or found in the table -/
theorem gen_code {M : Model} {A : Around} {E : Value → Shared → Prop} {s : Shared} {env : PySem.Env} {c P : Addr} {ps : Array Value} {pos : Pos} {q : Str} {scope : Scope} {Q : Value → Shared → Prop} (hcode : env.code = .ref c) (C : PySem.W.CodeHd s.heap c P)
    (hP : s.heap.get? P = some (PySem.W.tabObj ps)) (ht : TriplesOk ps.toList)
    (h : ∀ (code : Value) (h3 : Heap) (tk : Nat) (more : Array Value), Heap.ExtBut P s.heap h3 → s.heap.objs.size ≤ h3.objs.size → h3.get? P = some (PySem.W.tabObj (ps ++ more)) → TriplesOk (ps ++ more).toList →
      (more = #[] ∨ ∃ c' : Addr, (∀ pos' cv, codeAmong pos' (ps ++ more).toList = some cv → codeAmong pos' ps.toList = some cv ∨ cv = .ref c') ∧ s.heap.objs.size ≤ c' ∧ h3.CodeRec (.ref c') q) → Q code { s with heap := h3, toks := tk }) :
    wpAny M A (genexprCode env pos q scope) Q E s := by
  cases hf : codeAmong pos ps.toList with
  | some cv => exact wpAny_genexprCode_hit hcode (C.code hP ht) hf (h cv s.heap s.toks #[] (Heap.ExtBut.refl _ _) (Nat.le_refl _) (by simpa using hP) (by simpa using ht) (.inl rfl))
  | none =>
    refine wpAny_genexprCodeX hcode (C.code hP ht) (C.tab hP) hf fun c' h' tk hx hge hlt hcd hrec htab _ => ?_
    have eL : (ps ++ #[rawInt pos.line, rawInt pos.col, .ref c']).toList = ps.toList ++ [rawInt pos.line, rawInt pos.col, .ref c'] := by simp
    refine h _ h' tk _ hx (Nat.le_trans hge (Nat.le_of_lt hlt)) htab.2 (by rw [eL]; exact PySem.TriplesOk_snoc _ _ _ _ ht) (.inr ⟨c', fun pos' cv hc => ?_, hge, hrec⟩)
    rw [eL] at hc
    exact LamX.among_app _ ht hc
theorem var_two {F : Fs} {C : Kst} {i j : Nat} {ρ : Env} {st : Sto} {R : List D → Sto → Prop} (h : evEs F C [.var i, .var j] ρ st R) : ∃ d1 d2, ρ[i]? = some (some d1) ∧ ρ[j]? = some (some d2) ∧ R [d1, d2] st := by
  unfold evEs at h
  unfold evE at h
  split at h
  · rename_i d1 e1
    unfold evEs at h
    unfold evE at h
    split at h
    · rename_i d2 e2
      unfold evEs at h
      exact ⟨d1, d2, e1, e2, h⟩
    · exact h.elim
  · exact h.elim

section
variable {P : Str → Option Fn} {df : Str → Bool} {n : Nat} {N : List Str} {sc : Scope} {fb : Str → Bool} {X : Cx}
/-- a captured name's cell -/
theorem cell_of {pins : List (Addr × Obj)} {σ : L2.St} {H : Hp} {s : Shared} (I : L2.Inv X pins σ H s) (hs : X.env.scope = sc) {T : Str} {i : Nat} {v : V} (hN : X.N[i]? = some T) (hc : sc.names.lookup T = some .cell) (e : σ[i]? = some (some v)) :
    ∃ (u : Value) (cT : Addr), RelV v u ∧ X.env.cells.lookup T = some cT ∧ s.heap.IsCell cT (some u) := by
  obtain ⟨m, hn, hl⟩ := I.loc
  have hk : X.env.scope.names.lookup T = some .cell := by rw [hs]; exact hc
  obtain ⟨u, r, l⟩ := hl i T v hN e (.inr (.inl hk))
  rcases l with ⟨k, _⟩ | ⟨_, cT, e1, e2⟩
  · have k' : X.env.scope.names.lookup T = some .local := k
    rw [hk] at k'
    cases k'
  · exact ⟨u, cT, r, e1, e2⟩
theorem pe_cnt {k : Nat} (c : Cxt Tb P n N sc fb X) (ih : ∀ e m, cE df k N sc e = some m → PE X e (denE X.K (FOf Tb P n) m)) {p pos : Pos} {as : List Expr} {m : E} (hg : globB sc "sum" = true) (h : cGen (cE df k N sc) N sc as = some m) :
    PE X (.Call (.Name "sum" p) as [] pos) (denE X.K (FOf Tb P n) m) := by
  obtain ⟨x, it, T, A, scope, j1, j2, j3, p1, p2, p3, p4, p5, p6, p7, p8, p9, p10, p11, p12, p13, p14, p15, m1, i, j, rfl, G, hm1, hi, hj, rfl⟩ := cGen_ok h
  obtain ⟨cc, pt, TB, hcode, hmem, hu⟩ := c.lam genMark (.inr rfl) G.mark
  have g := c.glob hg
  have mg := c.bl "sum" (by decide)
  have hE := ih _ m1 hm1
  have hNT := c.get hi
  have hNA := c.get hj
  refine ⟨fun pins s σ H Q I h => ?_⟩
  have hfree : ∀ y ∈ scope.names, y.2 = .free → ∃ c, X.env.cells.lookup y.1 = some c := fun y hy e => I.ok.has y.1 (.inl (by
    show X.env.scope.names.lookup y.1 = some .cell
    rw [c.scE]
    exact G.free y hy e))
  obtain ⟨C, ρ, st, rs, rel, h⟩ := h
  unfold evE at h
  unfold evEs at h
  have hd : denE X.K (FOf Tb P n) m1 σ H (fun v H1 => ∃ (st1 : Sto) (d : D), Rel X.K C st1 H1 ∧ Keep st H st1 H1 ∧ RV X.K H1 d v ∧ evEs (callF P C n) C [.var i, .var j] ρ st1 (fun xs st2 => bltK C "cntlt" (d :: xs) st2 (PQ X.K C st H Q))) :=
    ⟨C, ρ, st, rs, rel, evE_mono (callF_mono P C n) _ _ _ _ _ (fun d st1 q H1 v r1 k1 hv => ⟨st1, d, r1, k1, hv, q⟩) h⟩
  refine wpAny_Call_Name_kw (ld_blt I g mg (u := .builtin "sum") (by decide +kernel) ?_)
  refine PyProof.Rows.callWith_builtin1 ?_ rfl (by rfl)
  refine Calls.spliced_cons ?_
  refine wpAny_GeneratorExp_walksQ c.room.hd G.co (closure_ok hfree) G.cell G.dot G.loc G.kind (by have := c.room.dp; omega) ?_ (fun _ => rfl)
  refine thn (hE.run pins s σ H _ I hd) fun xv s1 ⟨v, H1, I1, r1, st1, d, rel1, k1, hv, hq⟩ => ?_
  obtain ⟨d1, d2, e1, e2, hq⟩ := var_two hq
  obtain ⟨a, x0, y0, z0, r, xs, ns, e, hrd, hns, hK⟩ := blt_cnt hq
  injection e with ea e
  injection e with eb e
  injection e with ec e
  subst ea eb ec
  rw [rv_ref.mp hv] at r1
  obtain rfl : xv = Value.ref a := r1
  obtain ⟨vs, hL, hvs⟩ := rel1.rd hrd
  obtain ⟨its, rv, pl, hz⟩ := I1.list hL
  have evs := RVs.ints hns hvs
  have rs1 := RS.keep rel k1 rs
  obtain ⟨vT, f1, g1⟩ := rs1.2 i _ e1
  obtain ⟨vA, f2, g2⟩ := rs1.2 j _ e2
  obtain ⟨pT, wT, rfl, hT, hw⟩ := rv_tupS g1
  obtain ⟨w0, wr0, rfl, q0, hw⟩ := hw.cons_inv
  obtain ⟨w1, wr1, rfl, q1, hw⟩ := hw.cons_inv
  rw [rv_int.mp q0, rv_int.mp q1] at hT
  rw [rv_int.mp g2] at f2
  obtain ⟨ts, rt, ht, _⟩ := I1.tuple hT
  obtain ⟨u0, h0, t0⟩ := rt.get (i := 0) rfl
  obtain ⟨u1, h1, t1⟩ := rt.get (i := 1) rfl
  obtain ⟨t0, rfl⟩ := t0
  obtain ⟨t1, rfl⟩ := t1
  obtain ⟨uT, cT, ruT, lT, zT⟩ := cell_of I1 c.scE hNT G.cT f1
  obtain ⟨uA, cA, ruA, lA, zA⟩ := cell_of I1 c.scE hNA G.cA f2
  obtain rfl : uT = Value.ref pT := ruT
  obtain ⟨tA, rfl⟩ := ruA
  have hint : ∀ (i : Nat) (u : Value), its[i]? = some u → ∃ n t, ns[i]? = some n ∧ u = .int n t := fun i u e => by
    have hlt : i < vs.length := by rw [rv.length]; exact (List.getElem?_eq_some_iff.mp e).1
    obtain ⟨u', e', ru⟩ := rv.get (List.getElem?_eq_getElem hlt)
    rw [e] at e'
    cases e'
    have hlt2 : i < ns.length := by rw [evs, List.length_map] at hlt; exact hlt
    have hv : vs[i] = V.int ns[i] := by simp [evs]
    rw [hv] at ru
    obtain ⟨t, rfl⟩ := ru
    exact ⟨ns[i], t, List.getElem?_eq_getElem hlt2, rfl⟩
  have hlen : its.toArray.size = ns.length := by
    rw [List.size_toArray, ← rv.length, evs, List.length_map]
  refine wpAny_pyIter_list pl.isList ?_
  have lim2 : (s1.heap.push { cls := .type "list_iterator", data := .fields #[.ref a, .int 0 0] }).NoLimit := I1.nolimit.push _
  refine ⟨lim2, ?_⟩
  obtain ⟨ps, hP, htr, hco⟩ := rel1.tb _ hmem
  replace hP : H1 pt = some (.tbl ps) := hP
  have hPs : s1.heap.get? pt = some (PySem.W.tabObj ps) := I1.hok pt _ hP
  have sz2 : (s1.heap.push { cls := .type "list_iterator", data := .fields #[.ref a, .int 0 0] }).objs.size = s1.heap.objs.size + 1 := Heap.size_push ..
  refine gen_code (P := pt) (ps := ps) hcode (TB.code.keeps fun b u e => Heap.get?_push_of_some _ (I1.bk b u e)) (Heap.get?_push_of_some _ hPs) htr fun code h3 tk more hx hsz hP3 htr3 hmore => ?_
  have hsz' : s1.heap.objs.size + 1 ≤ h3.objs.size := by
    rw [← sz2]
    exact hsz
  have keep3 : ∀ b u, b ≠ pt → s1.heap.get? b = some u → h3.get? b = some u := fun b u hb e => hx b u hb (Heap.get?_push_of_some _ e)
  have hPlt : pt < s1.heap.objs.size := Heap.lt_size hPs
  have hcP : cStatics ≠ pt := fun e => by
    obtain ⟨_, hns', _⟩ := I1.nolimit
    obtain ⟨o', es, ep, ho, hd', _⟩ := hns'
    rw [e, hPs] at ho
    cases ho
    cases hd'
  have hcl : cStatics < s1.heap.objs.size := let ⟨_, hn, _⟩ := I1.nolimit; hn.lt
  obtain ⟨bm, ob, b1, b2, b3, b4, b5, b6, b7, b8⟩ := TB.bm
  have hglob : h3.Ns X.env.globals X.mg := by
    rw [I1.ok.glob]
    exact Heap.Ns.extBut ((I1.mod.glob.keeps I1.bk).push _) hx TB.gP
  refine wpAny_builtinsFor hglob b1 b2 (keep3 bm ob b4 (I1.bk _ _ b5)) b6 b7 b8 ?_
  -- where things stand
  have altL : ∀ {b : Addr} {o : Obj}, s1.heap.get? b = some o → b < s1.heap.objs.size := fun e => Heap.lt_size e
  obtain ⟨oL, eL, cL, nL, dL⟩ := pl.isList
  have aP : a ≠ pt := fun z => by rw [z, hPs] at eL; cases eL; cases dL
  have a3 : h3.IsList a its.toArray := ⟨oL, keep3 a _ aP eL, cL, nL, dL⟩
  have ane : a ≠ s1.heap.objs.size := Nat.ne_of_lt (altL eL)
  have iP : s1.heap.objs.size ≠ pt := Nat.ne_of_gt hPlt
  have i3 : h3.get? s1.heap.objs.size = some { cls := .type "list_iterator", data := .fields #[.ref a, .int 0 0] } := hx _ _ iP (Heap.get?_push_size _ rfl)
  have pTP : pT ≠ pt := fun z => by
    obtain ⟨o, e, _, nn, dd⟩ := ht
    rw [z, hPs] at e
    cases e
    cases dd
  have cellP : ∀ {b : Addr} {u : Value}, s1.heap.IsCell b (some u) → b ≠ pt := fun {b u} hb z => by
    obtain ⟨o, e, dd⟩ := hb
    rw [z, hPs] at e
    cases e
    cases dd
  refine ⟨s1.heap.objs.size, [s1.heap.objs.size, a], [s1.heap.objs.size], its.toArray.size, (fun i v => its.toArray[i]? = some v), (fun i h => h.IsListIter s1.heap.objs.size a i ∧ h.IsList a its.toArray), cntT ns x0 y0 z0, (fun _ y => ∃ t, y = .int 1 t), rfl,
    fun A' hA => Walks.list hA _ a ane its.toArray, ⟨⟨_, i3, rfl, rfl⟩, a3⟩, ?_, lim2.extBut hx hcP, ?_, ?_, ?_⟩
  · intro b hb
    have hs3 : s1.heap.objs.size < h3.objs.size := by omega
    rcases List.mem_cons.mp hb with z | z
    · rw [z]; exact hs3
    · rw [List.mem_singleton.mp z]
      exact Nat.lt_trans (altL eL) hs3
  · intro z
    exact Nat.ne_of_lt hcl (List.mem_singleton.mp z)
  · intro href hhref
    have inR : ∀ {b : Addr} {o : Obj}, s1.heap.get? b = some o → b ∈ List.range h3.objs.size ∧ b ∉ [s1.heap.objs.size] := fun {b o} e => by
      have := altL e
      refine ⟨List.mem_range.mpr (Nat.lt_of_lt_of_le this (Nat.le_trans (Nat.le_succ _) hsz')), fun z => ?_⟩
      exact absurd (List.mem_singleton.mp z) (Nat.ne_of_lt this)
    refine ⟨fun A' E' i v s₂ m₂ hA hPv hn hm hk => ?_, fun A' E' i v s₂ m₂ hA hPv hp hn hm hk => ?_⟩
    · have hPv' : its[i]? = some v := by simpa using hPv
      obtain ⟨n1, t, en, rfl⟩ := hint i v hPv'
      have kk : ∀ {b : Addr} {o : Obj}, b ≠ pt → s1.heap.get? b = some o → s₂.heap.get? b = some o := fun hb e => hk _ (inR e).1 (inR e).2 _ (hhref _ _ (keep3 _ _ hb e))
      have c1 : s₂.heap.IsCell cT (some (.ref pT)) := by
        have np := cellP zT
        obtain ⟨o, e, dd⟩ := zT
        exact ⟨o, kk np e, dd⟩
      have c2 : s₂.heap.IsCell cA (some (.int z0 tA)) := by
        have np := cellP zA
        obtain ⟨o, e, dd⟩ := zA
        exact ⟨o, kk np e, dd⟩
      have c3 : IsTup s₂.heap pT ts.toArray := by
        obtain ⟨o, e, rest⟩ := ht
        exact ⟨o, kk pTP e, rest⟩
      simp only [List.forIn_cons, List.forIn_nil]
      refine wpAny_bind ?_
      rw [if_pos True.intro]
      refine wpAny_bind (wpAny_mono (gen_test (cenv := genEnv scope (cloFrom X.env.cells scope.names []) h3.objs.size code builtinsNs X.env) G.kind G.loc G.fT G.fA (clo_look (PySem.mem_of_lookup G.fT) lT) (clo_look (PySem.mem_of_lookup G.fA) lA) c1 c2 c3 h0 h1 hn hm G.dx G.dT G.dA G.kT G.kA) (fun b s3 hb => ?_) fun _ _ e => e)
      obtain ⟨rfl, tk3, rfl⟩ := hb
      refine wpAny_pure (wpAny_pure ⟨?_, GxR.keeps_tok _ _⟩)
      unfold cntT
      rw [en]
    · exact wpAny_Constant_int ⟨⟨_, rfl⟩, GxR.keeps_tok _ _⟩
  · intro ga h5 tk5 gs hgb hag hsz5 hk5 W5 hat
    refine Calls.spliced_nil ?_
    have W6 := W5.in4_1
    refine call_sum_walkAnyS (W6.self 0 _ _ _ hat ⟨ga, _, _, _, _, _, _, (fun _ => 1), rfl, W6, hat, fun b hb => ?_, fun i v hv => ?_, fun s' t' hm => ?_⟩)
    · show b < h5.objs.size
      rw [hsz5]
      have hag' : h3.objs.size < ga := hag
      rcases List.mem_cons.mp hb with z | z
      · rw [z]; exact Nat.lt_succ_self _
      · rcases List.mem_cons.mp z with z | z
        · rw [z]
          exact Nat.lt_succ_of_lt hag'
        · have := List.mem_range.mp z
          exact Nat.lt_trans (show b < h3.objs.size from this) (Nat.lt_succ_of_lt hag')
    · obtain ⟨i', _, t, e⟩ := hv
      exact ⟨t, e⟩
    · rw [hlen, cnt_pass, pre_one]
      have kS : ∀ b u, b ≠ pt → s1.heap.get? b = some u → s'.heap.get? b = some u := fun b u hb e => by
        have hlt := altL e
        refine hm.heap b u (fun z => ?_) (hk5 b u (keep3 b u hb e))
        rcases List.mem_cons.mp z with z | z
        · rw [z] at hlt
          have : h3.objs.size < s1.heap.objs.size := hlt
          exact Nat.lt_irrefl _ (Nat.lt_of_lt_of_le this (Nat.le_trans (Nat.le_succ _) hsz'))
        · rw [List.mem_singleton.mp z] at hlt
          exact Nat.lt_irrefl _ hlt
      have kN : ∀ b u, b ≠ s1.heap.objs.size → b < h3.objs.size → h3.get? b = some u → s'.heap.get? b = some u := fun b u hb hl e => by
        refine hm.heap b u (fun z => ?_) (hk5 b u e)
        rcases List.mem_cons.mp z with z | z
        · rw [z] at hl
          exact Nat.lt_irrefl _ hl
        · exact hb (List.mem_singleton.mp z)
      have J := GxR.inv_tab (more := more) (h' := s'.heap) (g' := s'.gens) (d' := s'.drawn) (t' := s'.toks) I1 hP kS (kN pt _ (Ne.symm iP) (Heap.lt_size hP3) hP3) (AllBare.movedS (I1.bare.push hgb) hm)
      rw [GxR.sh_eta s1 s' hm.os] at J
      have nTb : ∀ b u, H1 b = some u → (∀ q, u ≠ .tbl q) → b ≠ pt := fun b u e q z => by
        rw [z, hP] at e
        exact q ps (Option.some.inj e).symm
      rcases hmore with hm0 | ⟨c', hcod, hge, hrec⟩
      · have eH : upd H1 pt (.tbl (ps ++ more)) = H1 := by
          funext b
          by_cases hb : b = pt
          · rw [hb, upd_same, hP, hm0, Array.append_empty]
          · rw [upd_ne hb]
        rw [eH] at J
        exact ⟨.int _, H1, J, ⟨t', rfl⟩, hK H1 _ rel1 k1 (rv_int.mpr rfl)⟩
      · have hge' : s1.heap.objs.size + 1 ≤ c' := by rw [← sz2]; exact hge
        have hge1 : s1.heap.objs.size ≤ c' := Nat.le_trans (Nat.le_succ _) hge'
        have nC : H1 c' = none := I1.hok.fresh hge1
        have cP : c' ≠ pt := Nat.ne_of_gt (Nat.lt_of_lt_of_le hPlt hge1)
        obtain ⟨c2, oc, vc, tq, ec, hoc, hdc, hvc⟩ := hrec
        cases ec
        have hoc' : s'.heap.get? c' = some oc := kN c' oc (Nat.ne_of_gt hge') (Heap.lt_size hoc) hoc
        obtain ⟨fq1, fq2, fq3, fq4, fq5, fq6⟩ := I1.fpOk hge1 nC
        have J2 := J.take (t' := s'.toks) (h' := s'.heap) (it := c') (o := LamX.CodeO c' (X.env.qual ++ genMark)) (fun b ob _ e => e) ⟨by rw [upd_ne cP]; exact nC, fq2, fq3, fq4, fq5, fq6⟩
          ⟨⟨oc, vc, tq, hoc', hdc, hvc⟩, ⟨oc, hoc'⟩, fun h1 h2 ⟨oc, vs, t, a, b, c⟩ st => ⟨oc, vs, t, st _ a, b, c⟩⟩
        have up : ∀ b u, H1 b = some u → (∀ q, u ≠ .tbl q) → upd (upd H1 pt (.tbl (ps ++ more))) c' (LamX.CodeO c' (X.env.qual ++ genMark)) b = some u := fun b u e q => by
          rw [upd_ne (ne_of_none e nC), upd_ne (nTb b u e q)]
          exact e
        have k12 : Keep st1 H1 st1 (upd (upd H1 pt (.tbl (ps ++ more))) c' (LamX.CodeO c' (X.env.qual ++ genMark))) := fun b o e q hn => ⟨up b o e q, hn⟩
        have T2 : LamX.Tabs Tb.tabs (upd (upd H1 pt (.tbl (ps ++ more))) c' (LamX.CodeO c' (X.env.qual ++ genMark))) := fun q hq => by
          by_cases hb : q.1 = pt
          · rw [hu q hq hb, hb]
            refine ⟨_, by rw [upd_ne (Ne.symm cP), upd_same], htr3, fun p' cv hcv => ?_⟩
            rcases hcod p' cv hcv with z | z
            · obtain ⟨c0, z1, z2⟩ := hco p' cv z
              exact ⟨c0, z1, up _ _ z2 LamX.codeO_ne⟩
            · exact ⟨c', z, upd_same⟩
          · obtain ⟨ps', a1, a2, a3⟩ := rel1.tb q hq
            refine ⟨ps', by rw [upd_ne (ne_of_none a1 nC), upd_ne hb]; exact a1, a2, fun p' cv hcv => ?_⟩
            obtain ⟨c0, z1, z2⟩ := a3 p' cv hcv
            exact ⟨c0, z1, up _ _ z2 LamX.codeO_ne⟩
        have rel2 : Rel X.K C st1 (upd (upd H1 pt (.tbl (ps ++ more))) c' (LamX.CodeO c' (X.env.qual ++ genMark))) := rel1.step k12 T2 fun b o e => .inl ⟨e, by
          obtain ⟨vs, q, mq⟩ := (rel1.ob b o e).there
          rw [up b _ q (by intro ps z; rw [z] at mq; exact mq.no_tbl), q]⟩
        exact ⟨.int _, _, J2, ⟨t', rfl⟩, hK _ _ rel2 (k1.trans k12) (rv_int.mpr rfl)⟩
end
end MP

set_option Elab.async false
set_option linter.all false
set_option maxRecDepth 100000
set_option maxHeartbeats 8000000
/-! MpL: every expression, by the depth. -/
namespace MP
open PySem PySem.Spec L2
variable {Tb : TabL}

section
variable {P : Str → Option Fn} {df : Str → Bool} {n : Nat} {N : List Str} {sc : Scope} {fb : Str → Bool} {X : Cx}
theorem base_of {o : Expr} (h : plainO o = true) (m : Str) (env : PySem.Env) (w : Sem Value) : attributeBase o m env w = w := by
  unfold attributeBase
  split
  · simp [plainO] at h
  · rfl
theorem few_of {k : Nat} (pos : Pos) (env : PySem.Env) : ∀ {es : List Expr} {ms : List E}, cL (cE df k N sc) es = some ms → (backTo pos (starEach es env)).all (fun x => !x.1) = true
  | [], _, _ => rfl
  | e :: es, ms, h => by
    unfold cL at h
    split at h
    · rename_i m ms' h1 h2
      rw [star_of h1 es env]
      show (true && (backTo pos (starEach es env)).all (fun x => !x.1)) = true
      rw [few_of pos env h2] <;> rfl
    · cases h
theorem mth_den {K : PySem.W.Frag} {m : Str} {o : E} {ms : List E} {τ : L2.St} {H : Hp} {Q : VK} (h : denE K (FOf Tb P n) (.mth .list m o ms) τ H Q) :
    denE K (FOf Tb P n) o τ H fun x H1 => tyV K "list" x H1 ∧ denEs K (FOf Tb P n) ms τ H1 fun vs H2 => liftM (Tb := Tb) K (fun d ds => mthK .list m d ds) x vs H2 Q := by
  obtain ⟨C, σ, st, rs, rel, h⟩ := h
  unfold evE at h
  refine ⟨C, σ, st, rs, rel, evE_mono (callF_mono P C n) _ _ _ _ _ (fun d st1 q H1 v r1 k1 hv => ?_) h⟩
  obtain ⟨t, q⟩ := q
  refine ⟨?_, C, σ, st1, rs.keep rel k1, r1, evEs_mono (callF_mono P C n) _ _ _ _ _ (fun ds st2 q H2 vs r2 k2 hvs => ?_) q⟩
  · cases d with
    | ref a =>
      simp only [tyK] at t
      split at t
      · rename_i xs e
        obtain ⟨ws, hw, _⟩ := r1.lst e
        rw [rv_ref.mp hv]
        exact .inl ⟨rfl, ws, SqL.of hw⟩
      · exact t.elim
    | _ => simp [tyK] at t
  · exact ⟨C, st2, d, ds, r2, RV.keep r1 k2 _ _ hv, hvs, mthK_mono (PQ.next (k1.trans k2)) q⟩
theorem pe_mth {k : Nat} (ih : ∀ e m, cE df k N sc e = some m → PE X e (denE X.K (FOf Tb P n) m)) {m : Str} {apos pos : Pos} {o : Expr} {o' : E} {as : List Expr} {ms : List E} (hl : (apos.endLine == pos.line) = true) (hn : as.length < 20) (hm : m = "append" ∨ m = "extend" ∨ m = "pop" ∨ m = "reverse") (hp : plainO o = true)
    (ho : cE df k N sc o = some o') (ha : cL (cE df k N sc) as = some ms) : PE X (.Call (.Attribute o m apos) as [] pos) (denE X.K (FOf Tb P n) (.mth .list m o' ms)) := by
  have po := ih o o' ho
  cases as with
  | nil =>
    have e : [] = ms := by simpa [cL] using ha
    subst e
    have conv : ∀ τ H Q, denE X.K (FOf Tb P n) (.mth .list m o' []) τ H Q → tBM0 X.K "list" (liftM (Tb := Tb) X.K fun d ds => mthK .list m d ds) (denE X.K (FOf Tb P n) o') τ H Q := by
      intro τ H Q h
      obtain ⟨C, σ, st, rs, rel, q⟩ := mth_den h
      refine ⟨C, σ, st, rs, rel, evE_mono (callF_mono P C n) _ _ _ _ _ (fun d st1 q H1 v r1 k1 hv => ?_) q⟩
      obtain ⟨t, C', σ', st', rs', rel', q⟩ := q H1 v r1 k1 hv
      refine ⟨t, ?_⟩
      unfold evEs at q
      exact q H1 [] rel' Keep.refl RVs.nil
    rcases hm with rfl | rfl | rfl | rfl
    · exact PE.imp (pe_bm0 PySem.F.plainAttrs_list PySem.F.slot_list_append PySem.F.type_list_append md_append po (base_of hp _ _ _) hl) conv
    · exact PE.imp (pe_bm0 PySem.F.plainAttrs_list PySem.F.slot_list_extend PySem.F.type_list_extend md_extend po (base_of hp _ _ _) hl) conv
    · exact PE.imp (pe_bm0 PySem.F.plainAttrs_list PySem.F.slot_list_pop PySem.F.type_list_pop md_pop po (base_of hp _ _ _) hl) conv
    · exact PE.imp (pe_bm0 PySem.F.plainAttrs_list PySem.F.slot_list_reverse PySem.F.type_list_reverse md_reverse po (base_of hp _ _ _) hl) conv
  | cons e0 es0 =>
    obtain ⟨s1, s2⟩ := star1 ha pos X.env
    have pa := pa_of ih _ ms ha
    have few : ((backTo pos (starEach (e0 :: es0) X.env)).all (fun x => !x.1) && (backToKw pos (keywordEach [] X.env)).all (fun x => x.1.isSome)
      && decide ((e0 :: es0).length + ([] : List Keyword).length + (if ([] : List Keyword).isEmpty then 0 else 1) < 30)) = true := by
      rw [few_of pos X.env ha]
      have hn' : (e0 :: es0).length + ([] : List Keyword).length + (if ([] : List Keyword).isEmpty then 0 else 1) < 30 := by
        show (e0 :: es0).length + 0 + 0 < 30
        omega
      rw [decide_eq_true hn'] <;> rfl
    rcases hm with rfl | rfl | rfl | rfl
    · exact PE.imp (pe_bm PySem.F.plainAttrs_list PySem.F.slot_list_append PySem.F.type_list_append md_append po pa (base_of hp _ _ _) few hl s1 s2) fun τ H Q h => mth_den h
    · exact PE.imp (pe_bm PySem.F.plainAttrs_list PySem.F.slot_list_extend PySem.F.type_list_extend md_extend po pa (base_of hp _ _ _) few hl s1 s2) fun τ H Q h => mth_den h
    · exact PE.imp (pe_bm PySem.F.plainAttrs_list PySem.F.slot_list_pop PySem.F.type_list_pop md_pop po pa (base_of hp _ _ _) few hl s1 s2) fun τ H Q h => mth_den h
    · exact PE.imp (pe_bm PySem.F.plainAttrs_list PySem.F.slot_list_reverse PySem.F.type_list_reverse md_reverse po pa (base_of hp _ _ _) few hl s1 s2) fun τ H Q h => mth_den h

/-! ### methods of dicts -/
theorem isd_of {K : PySem.W.Frag} {C : KstT Tb} {st : Sto} {H : Hp} {x : D} {v : V} (rel : Rel K C st H) (t : tyK .dict x st) (hv : RV K H x v) : ∃ a, x = .ref a ∧ v = .ref a ∧ IsD H a := by
  simp only [tyK] at t
  split at t
  · rename_i kvs e
    obtain ⟨a, vs, e1, e2, e3, _⟩ := rel.dct e hv
    exact ⟨a, e1, e2, .inl ⟨vs, e3⟩⟩
  · split at t
    · rename_i kvs e
      obtain ⟨a, vs, e1, e2, e3, _⟩ := rel.tct e hv
      exact ⟨a, e1, e2, .inr ⟨vs, .inl e3⟩⟩
    · exact t.elim
theorem m1_of {k : Nat} {o e : Expr} {b : E} {m : Str} {apos pos : Pos} (hp : plainO o = true) (hl : (apos.endLine == pos.line) = true) (he : cE df k N sc e = some b) : M1 X o m apos e pos := by
  have ha : cL (cE df k N sc) [e] = some [b] := by simp [cL, he]
  refine ⟨base_of hp _ _ _, ?_, hl, ?_⟩
  · rw [few_of pos X.env ha] <;> rfl
  · rw [star_of he [] X.env]
    rfl
theorem m2_of {k : Nat} {o e f : Expr} {b d : E} {m : Str} {apos pos : Pos} (hp : plainO o = true) (hl : (apos.endLine == pos.line) = true) (he : cE df k N sc e = some b) (hf : cE df k N sc f = some d) : M2 X o m apos e f pos := by
  have ha : cL (cE df k N sc) [e, f] = some [b, d] := by simp [cL, he, hf]
  refine ⟨base_of hp _ _ _, ?_, hl, ?_⟩
  · rw [few_of pos X.env ha] <;> rfl
  · rw [star_of he [f] X.env, star_of hf [] X.env]
    rfl
theorem pe_get1 {k : Nat} (hu : X.A.units + 1 < cLine) (ih : ∀ e m, cE df k N sc e = some m → PE X e (denE X.K (FOf Tb P n) m)) {apos pos : Pos} {o e : Expr} {o' b : E} (hl : (apos.endLine == pos.line) = true) (hp : plainO o = true) (ho : cE df k N sc o = some o') (he : cE df k N sc e = some b) :
    PE X (.Call (.Attribute o "get" apos) [e] [] pos) (denE X.K (FOf Tb P n) (.mth .dict "get" o' [b])) := by
  refine PE.imp (pe_dget1 hu (ih o o' ho) (ih e b he) (m1_of hp hl he)) fun τ H Q ⟨C, σ, st, rs, rel, h⟩ => ?_
  unfold evE at h
  refine ⟨C, σ, st, rs, rel, evE_mono (callF_mono P C n) _ _ _ _ _ (fun x st1 q H1 v r1 k1 hv => ?_) h⟩
  obtain ⟨t, q⟩ := q
  obtain ⟨a, rfl, rfl, isd⟩ := isd_of r1 t hv
  refine ⟨a, rfl, isd, ?_⟩
  unfold evEs at q
  unfold evEs at q
  refine ⟨C, σ, st1, rs.keep rel k1, r1, evE_mono (callF_mono P C n) _ _ _ _ _ (fun y st2 q H2 w r2 k2 hw => ?_) q⟩
  have q : dmthK "get" (.ref a) [y] st2 (PQ X.K C st H Q) := q
  unfold dmthK at q
  rw [if_neg (by decide), if_pos rfl] at q
  replace q : (match dctOf st2 (.ref a), keyOf y with
      | some kvs, some k => PQ X.K C st H Q ((lookD kvs k).getD .non) st2
      | _, _ => False) := q
  split at q
  · rename_i kvs kk e1 e2
    obtain ⟨a', vs, ea, _, hr, hk⟩ := r2.dct e1 (rv_ref.mpr rfl)
    cases ea
    refine ⟨valV vs kk, .inl ⟨vs, kk, hr, key_rv e2 hw, rfl⟩, ?_⟩
    obtain ⟨l1, l2⟩ := RKV.look kk hk
    cases e : lookD kvs kk with
    | none =>
      rw [e] at q
      rw [l2 e]
      exact q H2 .non r2 (k1.trans k2) (rv_non.mpr rfl)
    | some d =>
      rw [e] at q
      obtain ⟨z, ez, hz⟩ := l1 d e
      rw [ez]
      exact q H2 z r2 (k1.trans k2) hz
  · exact q.elim
theorem pe_get2 {k : Nat} (hu : X.A.units + 1 < cLine) (ih : ∀ e m, cE df k N sc e = some m → PE X e (denE X.K (FOf Tb P n) m)) {apos pos : Pos} {o e f : Expr} {o' b c : E} (hl : (apos.endLine == pos.line) = true) (hp : plainO o = true) (ho : cE df k N sc o = some o') (he : cE df k N sc e = some b) (hf : cE df k N sc f = some c) :
    PE X (.Call (.Attribute o "get" apos) [e, f] [] pos) (denE X.K (FOf Tb P n) (.mth .dict "get" o' [b, c])) := by
  refine PE.imp (pe_dget2 hu (ih o o' ho) (ih e b he) (ih f c hf) (m2_of hp hl he hf)) fun τ H Q ⟨C, σ, st, rs, rel, h⟩ => ?_
  unfold evE at h
  refine ⟨C, σ, st, rs, rel, evE_mono (callF_mono P C n) _ _ _ _ _ (fun x st1 q H1 v r1 k1 hv => ?_) h⟩
  obtain ⟨t, q⟩ := q
  obtain ⟨a, rfl, rfl, isd⟩ := isd_of r1 t hv
  refine ⟨a, rfl, isd, ?_⟩
  unfold evEs at q
  unfold evEs at q
  unfold evEs at q
  refine ⟨C, σ, st1, rs.keep rel k1, r1, evE_mono (callF_mono P C n) _ _ _ _ _ (fun y st2 q H2 w r2 k2 hw => ?_) q⟩
  refine ⟨C, σ, st2, RS.keep r1 k2 (rs.keep rel k1), r2, evE_mono (callF_mono P C n) _ _ _ _ _ (fun d0 st3 q H3 w0 r3 k3 hw0 => ?_) q⟩
  have k03 := (k1.trans k2).trans k3
  have q : dmthK "get" (.ref a) [y, d0] st3 (PQ X.K C st H Q) := q
  unfold dmthK at q
  rw [if_neg (by decide), if_pos rfl] at q
  replace q : (match dctOf st3 (.ref a), keyOf y with
      | some kvs, some k => PQ X.K C st H Q ((lookD kvs k).getD d0) st3
      | _, _ => False) := q
  split at q
  · rename_i kvs kk e1 e2
    obtain ⟨a', vs, ea, _, hr, hk⟩ := r3.dct e1 (rv_ref.mpr rfl)
    cases ea
    refine ⟨valV vs kk, .inl ⟨vs, kk, hr, key_rv e2 (RV.keep r2 k3 _ _ hw), rfl⟩, ?_⟩
    obtain ⟨l1, l2⟩ := RKV.look kk hk
    cases e : lookD kvs kk with
    | none =>
      rw [e] at q
      rw [l2 e]
      exact q H3 w0 r3 k03 hw0
    | some d =>
      rw [e] at q
      obtain ⟨z, ez, hz⟩ := l1 d e
      rw [ez]
      exact q H3 z r3 k03 hz
  · exact q.elim
theorem pe_setd {k : Nat} (ih : ∀ e m, cE df k N sc e = some m → PE X e (denE X.K (FOf Tb P n) m)) {apos pos : Pos} {o e f : Expr} {o' b c : E} (hl : (apos.endLine == pos.line) = true) (hp : plainO o = true) (ho : cE df k N sc o = some o') (he : cE df k N sc e = some b) (hf : cE df k N sc f = some c) :
    PE X (.Call (.Attribute o "setdefault" apos) [e, f] [] pos) (denE X.K (FOf Tb P n) (.mth .dict "setdefault" o' [b, c])) := by
  refine PE.imp (pe_dsetd (ih o o' ho) (ih e b he) (ih f c hf) (m2_of hp hl he hf)) fun τ H Q ⟨C, σ, st, rs, rel, h⟩ => ?_
  unfold evE at h
  refine ⟨C, σ, st, rs, rel, evE_mono (callF_mono P C n) _ _ _ _ _ (fun x st1 q H1 v r1 k1 hv => ?_) h⟩
  obtain ⟨t, q⟩ := q
  obtain ⟨a, rfl, rfl, isd⟩ := isd_of r1 t hv
  refine ⟨a, rfl, isd, ?_⟩
  unfold evEs at q
  unfold evEs at q
  unfold evEs at q
  refine ⟨C, σ, st1, rs.keep rel k1, r1, evE_mono (callF_mono P C n) _ _ _ _ _ (fun y st2 q H2 w r2 k2 hw => ?_) q⟩
  refine ⟨C, σ, st2, RS.keep r1 k2 (rs.keep rel k1), r2, evE_mono (callF_mono P C n) _ _ _ _ _ (fun d0 st3 q H3 w0 r3 k3 hw0 => ?_) q⟩
  have k03 := (k1.trans k2).trans k3
  have q : dmthK "setdefault" (.ref a) [y, d0] st3 (PQ X.K C st H Q) := q
  unfold dmthK at q
  rw [if_neg (by decide), if_neg (by decide), if_pos rfl] at q
  replace q : (match keyOf y with
      | some k => (match st3 a with
        | some (.dct kvs) => kvs.length < sizeLine ∧ (match lookD kvs k with
          | some v => PQ X.K C st H Q v st3
          | none => PQ X.K C st H Q d0 (put st3 a (.dct (putD kvs k d0))))
        | _ => False)
      | none => False) := by
    cases e : keyOf y with
    | none => simp only [e] at q
    | some k => simp only [e] at q; exact q
  split at q
  · rename_i kk e2
    split at q
    · rename_i kvs ea
      obtain ⟨hz, q⟩ := q
      have hwy := RV.keep r2 k3 _ _ hw
      obtain ⟨vs, ha, hk, hz'⟩ := r3.ob a _ ea
      refine ⟨vs, kk, ha, key_rv e2 hwy, by rw [hk.length]; exact hz, fun v ev => ?_, fun ev => ?_⟩
      · obtain ⟨l1, l2⟩ := RKV.look kk hk
        cases e : lookD kvs kk with
        | none => rw [l2 e] at ev; cases ev
        | some d =>
          rw [e] at q
          obtain ⟨z, ez, hz2⟩ := l1 d e
          rw [ez] at ev
          cases ev
          exact q H3 _ r3 k03 hz2
      · obtain ⟨l1, l2⟩ := RKV.look kk hk
        cases e : lookD kvs kk with
        | some d =>
          obtain ⟨z, ez, _⟩ := l1 d e
          rw [ez] at ev
          cases ev
        | none =>
          rw [e] at q
          have kw : Keep st3 H3 (put st3 a (.dct (putD kvs kk d0))) (upd H3 a (.dK (putK vs kk w0))) := Keep.write (by rw [ea]; exact fun q => nomatch q)
          refine q _ w0 (r3.writeD ea (hk.put hw0) ?_) (k03.trans kw) (RV.keep r3 kw _ _ hw0)
          have := putD_len kvs kk d0
          omega
    · exact q.elim
  · exact q.elim
theorem pe_bitl {k : Nat} (ih : ∀ e m, cE df k N sc e = some m → PE X e (denE X.K (FOf Tb P n) m)) {apos pos : Pos} {o : Expr} {o' : E} (hl : (apos.endLine == pos.line) = true) (hp : plainO o = true) (ho : cE df k N sc o = some o') :
    PE X (.Call (.Attribute o "bit_length" apos) [] [] pos) (denE X.K (FOf Tb P n) (.blt "bitlen" [o'])) := by
  refine PE.imp (pe_bits (ih o o' ho) (base_of hp _ _ _) hl) fun τ H Q ⟨C, σ, st, rs, rel, h⟩ => ?_
  unfold evE at h
  unfold evEs at h
  unfold evEs at h
  refine ⟨C, σ, st, rs, rel, evE_mono (callF_mono P C n) _ _ _ _ _ (fun x st1 q H1 v r1 k1 hv => ?_) h⟩
  have q : bltK C "bitlen" [x] st1 (PQ X.K C st H Q) := q
  unfold bltK at q
  rw [if_neg (by decide), if_neg (by decide), if_neg (by decide), if_neg (by decide), if_neg (by decide), if_neg (by decide), if_neg (by decide), if_neg (by decide)] at q
  unfold bltK2 at q
  rw [if_neg (by decide), if_neg (by decide), if_neg (by decide), if_pos rfl] at q
  split at q
  · rename_i i e
    cases e
    exact ⟨i, rv_int.mp hv, q H1 _ r1 k1 (rv_int.mpr rfl)⟩
  · exact q.elim
/-- slices' bounds -/
theorem po_of {k : Nat} (ih : ∀ e m, cE df k N sc e = some m → PE X e (denE X.K (FOf Tb P n) m)) {o : Option Expr} {b : Bool} {m : E} (h : cO (cE df k N sc) o = some (b, m)) :
    PO X o fun τ H Q => ∃ (C : KstT Tb) (σ : Env) (st : Sto), RS X.K H σ τ ∧ Rel X.K C st H ∧ evE (FOf Tb P n C) C m σ st fun d st1 => ∃ p, part b d = some p ∧ ∀ H1, Rel X.K C st1 H1 → Keep st H st1 H1 → Q p H1 := by
  cases o with
  | none =>
    have e : false = b ∧ E.non = m := by simpa [cO] using h
    obtain ⟨rfl, rfl⟩ := e
    refine ⟨fun pins s σ H Q I ⟨C, σ', st, rs, rel, q⟩ => po_none.run pins s σ H Q I ?_⟩
    unfold evE at q
    obtain ⟨p, e, q⟩ := q
    have e' : none = p := by simpa [part] using e
    subst e'
    exact q H rel Keep.refl
  | some e =>
    simp only [cO] at h
    cases he : cE df k N sc e with
    | none => rw [he] at h; simp at h
    | some m' =>
      rw [he] at h
      have e1 : true = b ∧ m' = m := by simpa using h
      obtain ⟨rfl, rfl⟩ := e1
      refine ⟨fun pins s σ H Q I ⟨C, σ', st, rs, rel, q⟩ => (po_some (ih e m' he)).run pins s σ H Q I ?_⟩
      refine ⟨C, σ', st, rs, rel, evE_mono (callF_mono P C n) _ _ _ _ _ (fun d st1 q H1 v r1 k1 hv => ?_) q⟩
      obtain ⟨p, e2, q⟩ := q
      cases d with
      | int i =>
        have e3 : some i = p := by simpa [part] using e2
        subst e3
        exact ⟨i, rv_int.mp hv, q H1 r1 k1⟩
      | non => simp [part] at e2
      | _ => simp [part] at e2
theorem isTrue_of {e : Expr} {m : E} {k : Nat} (h : cE df k N sc e = some m) (hn : ∀ a p, e ≠ .UnaryOp .Not a p) (hb : ∀ op es p, e ≠ .BoolOp op es p) (hi : ∀ a b c p, e ≠ .IfExp a b c p) (hc : ∀ a ops bs p, e ≠ .Compare a ops bs p) (env : PySem.Env) :
    ∀ whole, isTrue e env whole = (do let v ← whole; standAt e.pos; holding [v] (truthy v)) := by
  cases e with
  | UnaryOp op a p =>
    cases op with
    | Not => exact absurd rfl (hn a p)
    | _ => intro _; rfl
  | BoolOp op es p => exact absurd rfl (hb op es p)
  | IfExp a b c p => exact absurd rfl (hi a b c p)
  | Compare a ops bs p => exact absurd rfl (hc a ops bs p)
  | _ => intro _; rfl
end
end MP

set_option Elab.async false
set_option linter.all false
set_option maxRecDepth 100000
set_option maxHeartbeats 8000000
/-! MpDt: dicts whose keys are tuples; list(range(n)). -/
namespace MP
open PySem PySem.Spec PyProof.Rows L2
variable {Tb : TabL}
section
variable {X : Cx}
theorem d_dictSetT {pins : List (Addr × Obj)} {σ : L2.St} {H : Hp} {s : Shared} {E : Value → Shared → Prop} {Dd b : Addr} {prs : List (List Key × V)} {ks : List Key} {v : V} {r : Value} {Q : Unit → Shared → Prop} (hu : X.A.units + 1 < cLine) (I : L2.Inv X pins σ H s) (hD : H Dd = some (.dT prs)) (hz : prs.length < sizeLine)
    (hb : H b = some (.tup (ks.map kV))) (rv : RelV v r) (h : ∀ s', L2.Inv X pins σ (upd H Dd (.dT (putK prs ks v))) s' → Q () s') : wpAny (model X.prog X.w) X.A (dictSet Dd (.ref b) r) Q E s := by
  obtain ⟨z, hd, xs, rel, dd⟩ := dt_of I.hok hD
  have hzx : xs.length ≤ sizeLine := by rw [← Paired.length rel]; exact z
  have hl : (putK prs ks v).length ≤ sizeLine := by
    have := length_putK prs ks v
    omega
  refine wpAny_dictSet_heap (hsz := hzx) (knd := tupleKind (mixKind X.prog X.w)) (show X.A.units < cLine by omega) (key_of I.hok hb) dd fun h' dd' hs => h _ ?_
  obtain ⟨q, es, ep, hq, h2, h3, h4, _, h5⟩ := dd'
  refine d_write I (by rw [hD]; exact True.intro) hs ⟨q, hq⟩ ⟨hl, hd, _, (rel.put ks hb rv).keeps fun c ys ec => ?_, q, es, ep, hq, h2, h3, h4, h5⟩
  rw [upd_ne (ne_of ec hD (fun z => nomatch z))]
  exact ec
theorem vals_get : ∀ {xs : List V} {us : List Value}, xs.length = us.length → (∀ (i : Nat) (x : V) (u : Value), xs[i]? = some x → us[i]? = some u → RelV x u) → Vals xs us
  | [], [], _, _ => .nil
  | [], _ :: _, h, _ => by simp at h
  | _ :: _, [], h, _ => by simp at h
  | x :: xs, u :: us, h, q => .cons (q 0 x u rfl rfl) (vals_get (by simpa using h) fun i x' u' e1 e2 => q (i + 1) x' u' (by simpa using e1) (by simpa using e2))
/-- the walk of a dict's comprehension whose keys are tuples -/
theorem dcT_core {pins : List (Addr × Obj)} {s : Shared} {σ : L2.St} {H : Hp} {Q : VK} {kx vx tg iter : Expr} {ifs : List Expr} {scope : Scope} {own : List (Str × Nat)} {pos pos' : Pos} {wi : TI} {g : TG} {tt : TT} {tk tv : TE} {use : Option (Value → Sem Unit)} {Qf : Value → Shared → Prop}
    (calmX : X.calm = true) (ndN : X.N.Nodup) (I : L2.Inv X pins σ H s) (hIt : PI X tg iter wi) (bOk : BlkOk X.N X.env.scope scope own)
    (hTg : ∀ (s : Shared) (H : Hp) (Cm : Addr) (cells0 : List (Str × Addr)) (own0 : List Addr), PG (X.blk s H scope (compEnvC scope cells0 Cm X.env) own0) tg g) (hTs : ∀ (s : Shared) (H : Hp) (Cm : Addr) (cells0 : List (Str × Addr)) (own0 : List Addr), PTs (X.blk s H scope (compEnvC scope cells0 Cm X.env) own0) ifs tt)
    (hKx : ∀ (s : Shared) (H : Hp) (Cm : Addr) (cells0 : List (Str × Addr)) (own0 : List Addr), PE (X.blk s H scope (compEnvC scope cells0 Cm X.env) own0) kx tk)
    (hVx : ∀ (s : Shared) (H : Hp) (Cm : Addr) (cells0 : List (Str × Addr)) (own0 : List Addr), PE (X.blk s H scope (compEnvC scope cells0 Cm X.env) own0) vx tv) (hFold : ∀ x, foldedSetIterable iter X.env x = pure x)
    (hu : X.A.units + 1 < cLine) (h : tDcG HO.dT (fun k y H => ∃ b, y = .ref b ∧ H b = some (.tup (k.map kV))) wi g tt tk tv (own.map (·.2)) σ H Q)
    (hEnd : ∀ Dc Cm s' m H', L2.Inv X pins σ H' s' → Q (.ref Dc) H' → s'.heap.Ns Cm m → FpOk X pins H' Cm → compPost (model X.prog X.w) X.A X.xe use Qf (.ref Dc) Cm (.ok .next) s') :
    wpAny (model X.prog X.w) X.A (comprehension (.DictComp kx vx [⟨tg, iter, ifs, 0⟩] scope pos) scope X.env pos' newDict false (eval iter X.env) use) Qf X.xe s := by
  have hFr : ∀ y ∈ scope.names, y.2 = .free → ∃ c, X.env.cells.lookup y.1 = some c := fun y hy e => by
    rcases bOk.free y hy e with k | k
    · exact I.ok.has _ (.inl k)
    · exact I.ok.has _ (.inr k)
  refine wpAny_comprehension_free (use := use) rfl hFold (closure_ok hFr) bOk.kind (fun y hy e => by rw [bOk.uniq y hy, e])
    (thn (hIt.run pins s σ H _ I h) fun seqV sA hSeq => thn hSeq fun itW sB hB => ?_)
  obtain ⟨it, own0, at0, Jt, JB, e, iB, Tw, stB, fB, q⟩ := hB
  subst e
  refine wpAny_newObj_type (newEnv_comp ?_)
  generalize hDict : sB.heap.objs.size = Dc
  have hFree : JB Dc = none := iB.hok.fresh (Nat.le_of_eq hDict)
  obtain ⟨Wn, ⟨mz, wz⟩, turns⟩ := q Dc hFree
  -- the new list
  generalize eC : ({ sB with heap := sB.heap.push { cls := .type "dict", data := .dict #[] } } : Shared) = sC
  have iC : L2.Inv X pins σ (upd JB Dc (.dT [])) sC := by
    rw [← eC]
    refine iB.laid (t' := sB.toks) (fun b o e => Heap.get?_push_of_some _ e) (Nat.le_of_eq hDict) ?_
    rw [← hDict]
    exact dt_empty sB.heap iB.big
  have hHeap : sC.heap = sB.heap.push { cls := .type "dict", data := .dict #[] } := by rw [← eC]
  have below : ∀ b ∈ own0, b < sB.heap.objs.size := fun b hb => by
    obtain ⟨o, e, _⟩ := Tw.obj _ _ stB b hb
    exact Heap.lt_size e
  have fC : ∀ b ∈ own0, FpOk X pins (upd JB Dc (.dT [])) b ∧ b < sC.heap.objs.size := fun b hb => by
    have isLt := below b hb
    refine ⟨⟨?_, (fB b hb).2⟩, by rw [hHeap, Heap.size_push]; exact Nat.lt_succ_of_lt isLt⟩
    rw [upd_ne (by rw [← hDict]; exact Nat.ne_of_lt isLt)]
    exact (fB b hb).1
  have stC : at0 0 sC.heap := Tw.keep _ _ _ stB fun b _ o e => by rw [hHeap]; exact Heap.get?_push_of_some _ e
  have iD := block_start iC bOk ndN fC
  have pTg := hTg sC (upd JB Dc (.dT [])) sC.heap.objs.size (cellsFrom (sC.heap.objs.size + 1) scope.names (cloFrom X.env.cells scope.names [])) own0
  have pTs := hTs sC (upd JB Dc (.dT [])) sC.heap.objs.size (cellsFrom (sC.heap.objs.size + 1) scope.names (cloFrom X.env.cells scope.names [])) own0
  have pKx := hKx sC (upd JB Dc (.dT [])) sC.heap.objs.size (cellsFrom (sC.heap.objs.size + 1) scope.names (cloFrom X.env.cells scope.names [])) own0
  have pVx := hVx sC (upd JB Dc (.dT [])) sC.heap.objs.size (cellsFrom (sC.heap.objs.size + 1) scope.names (cloFrom X.env.cells scope.names [])) own0
  show codeAny _ _ (.compStart (.DictComp kx vx [⟨tg, iter, ifs, 0⟩] scope pos) 0 (.ref it) (.ref Dc) (compEnvC scope (cellsFrom (sC.heap.objs.size + 1) scope.names (cloFrom X.env.cells scope.names [])) sC.heap.objs.size X.env)) (compPost (model X.prog X.w) X.A X.xe use Qf (.ref Dc) sC.heap.objs.size) { sC with heap := pushCells (sC.heap.push { cls := .type "dict", data := .dict #[] }) scope.names }
  have noF : ∀ b ∈ own0, (upd JB Dc (.dT [])) b = none := fun b hb => (fC b hb).1.1
  generalize eBlk : compEnvC scope (cellsFrom (sC.heap.objs.size + 1) scope.names (cloFrom X.env.cells scope.names [])) sC.heap.objs.size X.env = blkE at iD pTg pTs pKx pVx ⊢
  have locE : blkE.locals = sC.heap.objs.size := by subst eBlk; rfl
  generalize eJC : upd JB Dc (.dT []) = JC at iC iD pTg pTs pKx pVx wz noF fC
  generalize eD : ({ sC with heap := pushCells (sC.heap.push { cls := .type "dict", data := .dict #[] }) scope.names } : Shared) = sD at iD ⊢
  have stD : at0 0 sD.heap := Tw.keep _ _ _ stC fun b _ o e => by rw [← eD]; exact pushCells_keeps _ _ _ _ (Heap.get?_push_of_some _ e)
  have stays : ∀ {σ' : L2.St} {H' : Hp} {s' : Shared}, L2.Inv (X.blk sC JC scope blkE own0) [] σ' H' s' → (∀ b ∈ own0, H' b = none) → ∀ b ∈ own0, FpOk (X.blk sC JC scope blkE own0) [] H' b := fun {σ' H' s'} I' hn b hb =>
    ⟨hn b hb, (I'.ok.exf b hb).1, I'.ok.exfs b hb, .inl hb, fun x c e => (I'.ok.exf b hb).2 x c e, fun p hp => absurd (show p ∈ ([] : List (Addr × Obj)) ++ [] from hp) (by simp)⟩
  have runs : codeAny (model X.prog X.w) X.A (.compLoop (.DictComp kx vx [⟨tg, iter, ifs, 0⟩] scope pos) 0 (.ref it) (.ref Dc) blkE) (compPost (model X.prog X.w) X.A X.xe use Qf (.ref Dc) sC.heap.objs.size) sD := by
    refine compLoop_anyD (fun n s' => ∃ i H', L2.Inv (X.blk sC JC scope blkE own0) [] (L2.wipe σ (own.map (·.2))) H' s' ∧ at0 i s'.heap ∧ (∀ b ∈ own0, H' b = none) ∧ Wn i n H') ?_ mz ⟨0, JC, iD, stD, noF, wz⟩
    rintro n sE ⟨i, JE, iE, stE, nE, wE⟩
    rcases turns i n JE wE with ⟨stop, qEnd⟩ | ⟨go, Nxt, hNext, one⟩
    · have stopT := Tw.done (X.blk sC JC scope blkE own0) rfl rfl rfl calmX i [] sE _ JE (fun _ _ => False) iE (stays iE nE) stE stop
      refine thnF stopT fun r sF ⟨eR, iF⟩ => ?_
      subst eR
      -- back in the def's context
      have iG : L2.Inv X pins σ JE sF := iC.call' (ch := own0) iF.os iF.base iF.hok iF.bare fun b hb => ⟨(fC b hb).1.2.2.2.1, (fC b hb).1.2.1, (fC b hb).1.2.2.2.2.1, (fC b hb).1.2.2.2.2.2⟩
      have noC : JE sC.heap.objs.size = none := by
        have z : JE blkE.locals = none := iF.free
        rw [locE] at z
        exact z
      obtain ⟨m, hn, _⟩ := iF.loc
      have hn : sF.heap.Ns blkE.locals m := hn
      rw [locE] at hn
      exact hEnd Dc sC.heap.objs.size sF m JE iG qEnd hn (iC.fpOk (Nat.le_refl _) noC)
    · have itemT := Tw.item (X.blk sC JC scope blkE own0) rfl rfl rfl calmX i [] sE _ JE (fun _ _ => False) iE (stays iE nE) stE go
      refine thnF itemT fun r sF ⟨u, eR, hF⟩ => ?_
      subst eR
      refine thnF hF fun _ sG ⟨x, JG, iG, rG, yG, stG, nG⟩ => ?_
      have iG' := iG.pinned (stays iG nG) (Tw.obj _ _ stG)
      refine thnF (pTg.run _ sG _ JG x u _ iG' rG (one x JG yG)) fun _ sH ⟨σ8, JH, iH, wH, qH⟩ => ?_
      refine thnF (pTs.run _ sH σ8 JH _ iH qH) fun b sI ⟨JI, iI, qI⟩ => ?_
      -- the turn's end
      have ends : ∀ {s' : Shared} {H' : Hp}, L2.Inv (X.blk sC JC scope blkE own0) ([] ++ pinsAt own0 sG.heap) σ8 H' s' → Nxt H' → ∃ m, m < n ∧ ∃ i H', L2.Inv (X.blk sC JC scope blkE own0) [] (L2.wipe σ (own.map (·.2))) H' s' ∧ at0 i s'.heap ∧ (∀ b ∈ own0, H' b = none) ∧ Wn i m H' := fun {s' H'} I' nxt => by
        obtain ⟨mz', hLess, wn'⟩ := hNext H' nxt
        have pinned' : ∀ b ∈ own0, ∀ o, sG.heap.get? b = some o → s'.heap.get? b = some o ∧ H' b = none := fun b hb o e =>
          let z := I'.pin (b, o) (List.mem_append_right _ (List.mem_append_right _ (mem_pinsAt hb e)))
          ⟨z.1, z.2.1⟩
        have hLen : (L2.wipe σ (own.map (·.2))).length = σ8.length := by rw [← wH, wipe_length]
        refine ⟨mz', hLess, i + 1, H', (I'.unpinned (pins := [])).weak hLen (fun j v e => ?_), Tw.keep _ _ _ stG fun b hb o e => (pinned' b hb o e).1, fun b hb => ?_, wn'⟩
        · rw [← wH] at e
          exact (wipe_some e).1
        · obtain ⟨o, e, _⟩ := Tw.obj _ _ stG b hb
          exact (pinned' b hb o e).2
      cases b with
      | false =>
        simp only [Bool.false_eq_true, if_false] at qI ⊢
        exact ends iI qI
      | true =>
        simp only [if_true] at qI ⊢
        refine thnF (pKx.run _ sI σ8 JI _ iI qI) fun z sJ ⟨yKey, JJ, iJ, rJ, qJ⟩ => ?_
        refine thnF (pVx.run _ sJ σ8 JJ _ iJ qJ) fun zVal sK ⟨yVal, JK, iK, rK, prs, k, eKey, hDK, hZK, nxt⟩ => ?_
        obtain ⟨ka, rfl, hka⟩ := eKey
        obtain rfl : z = Value.ref ka := rJ
        exact d_dictSetT (X := X.blk sC JC scope blkE own0) hu iK hDK hZK hka rK fun sL iL => ends iL nxt
  exact codeAny_compStart_dict runs (Tw.self X.A 0 _ _ _ stD runs)
/-- as a value -/
theorem pe_dcT {kx vx tg iter : Expr} {ifs : List Expr} {scope : Scope} {own : List (Str × Nat)} {pos : Pos} {wi : TI} {g : TG} {tt : TT} {tk tv : TE} (calmX : X.calm = true) (ndN : X.N.Nodup) (hu : X.A.units + 1 < cLine) (hIt : PI X tg iter wi) (bOk : BlkOk X.N X.env.scope scope own)
    (hTg : ∀ (s : Shared) (H : Hp) (Cm : Addr) (cells0 : List (Str × Addr)) (own0 : List Addr), PG (X.blk s H scope (compEnvC scope cells0 Cm X.env) own0) tg g) (hTs : ∀ (s : Shared) (H : Hp) (Cm : Addr) (cells0 : List (Str × Addr)) (own0 : List Addr), PTs (X.blk s H scope (compEnvC scope cells0 Cm X.env) own0) ifs tt)
    (hKx : ∀ (s : Shared) (H : Hp) (Cm : Addr) (cells0 : List (Str × Addr)) (own0 : List Addr), PE (X.blk s H scope (compEnvC scope cells0 Cm X.env) own0) kx tk)
    (hVx : ∀ (s : Shared) (H : Hp) (Cm : Addr) (cells0 : List (Str × Addr)) (own0 : List Addr), PE (X.blk s H scope (compEnvC scope cells0 Cm X.env) own0) vx tv) (hFold : ∀ x, foldedSetIterable iter X.env x = pure x) :
    PE X (.DictComp kx vx [⟨tg, iter, ifs, 0⟩] scope pos) (tDcG HO.dT (fun k y H => ∃ b, y = .ref b ∧ H b = some (.tup (k.map kV))) wi g tt tk tv (own.map (·.2))) := by
  refine ⟨fun pins s σ H Q I h => ?_⟩
  rw [arm_eval_DictComp]
  refine dcT_core calmX ndN I hIt bOk hTg hTs hKx hVx hFold hu h fun Dc Cm sZ mz HZ iZ qZ nZ fZ => ⟨mz, nZ, fun hL sbZ => ?_⟩
  obtain ⟨w0, w1, w2, w3, w4, w5⟩ := fZ
  exact ⟨.ref Dc, HZ, iZ.turned (t' := sZ.toks) (fun b o hb e => (sbZ.2 b hb).trans e) w0 w1 w3 w4 w5, rfl, qZ⟩
end
section
variable {P : Str → Option Fn} {df : Str → Bool} {n : Nat} {N : List Str} {sc : Scope} {fb : Str → Bool} {X : Cx}
theorem pe_tdict {pos : Pos} : PE X (.Dict [] [] pos) (denE X.K (FOf Tb P n) (.blt "tdict" [])) := by
  refine PE.imp pe_dnewT fun τ H Q ⟨C, σ, st, rs, rel, q⟩ => ?_
  unfold evE at q
  unfold evEs at q
  replace q : bltK C "tdict" [] st (PQ X.K C st H Q) := q
  unfold bltK at q
  rw [if_neg (by decide), if_neg (by decide), if_neg (by decide), if_neg (by decide), if_neg (by decide), if_neg (by decide), if_neg (by decide), if_neg (by decide)] at q
  unfold bltK2 at q
  rw [if_neg (by decide), if_neg (by decide), if_neg (by decide), if_neg (by decide), if_pos rfl] at q
  intro p hp
  exact q p (rel.free hp) _ _ (rel.putN hp fun H' _ e => ⟨[], e, rfl, Nat.zero_le _⟩) (Keep.new hp) (rv_ref.mpr rfl)
theorem pe_tget {k : Nat} (hu : X.A.units + 1 < cLine) (ih : ∀ e m, cE df k N sc e = some m → PE X e (denE X.K (FOf Tb P n) m)) {apos pos : Pos} {o e f : Expr} {o' b d : E} (hl : (apos.endLine == pos.line) = true) (hp : plainO o = true) (ho : cE df k N sc o = some o') (he : cE df k N sc e = some b) (hf : cE df k N sc f = some d) :
    PE X (.Call (.Attribute o "get" apos) [e, f] [] pos) (denE X.K (FOf Tb P n) (.mth .dict "tget" o' [b, d])) := by
  refine PE.imp (pe_dget2 hu (ih o o' ho) (ih e b he) (ih f d hf) (m2_of hp hl he hf)) fun τ H Q ⟨C, σ, st, rs, rel, h⟩ => ?_
  unfold evE at h
  refine ⟨C, σ, st, rs, rel, evE_mono (callF_mono P C n) _ _ _ _ _ (fun x st1 q H1 v r1 k1 hv => ?_) h⟩
  obtain ⟨t, q⟩ := q
  obtain ⟨a, rfl, rfl, isd⟩ := isd_of r1 t hv
  refine ⟨a, rfl, isd, ?_⟩
  unfold evEs at q
  unfold evEs at q
  refine ⟨C, σ, st1, rs.keep rel k1, r1, evE_mono (callF_mono P C n) _ _ _ _ _ (fun y st2 q H2 w r2 k2 hw => ?_) q⟩
  unfold evEs at q
  refine ⟨C, σ, st2, RS.keep r1 k2 (rs.keep rel k1), r2, evE_mono (callF_mono P C n) _ _ _ _ _ (fun d0 st3 q H3 w0 r3 k3 hw0 => ?_) q⟩
  have q : dmthK "tget" (.ref a) [y, d0] st3 (PQ X.K C st H Q) := q
  unfold dmthK at q
  rw [if_pos rfl] at q
  replace q : (match tctOf st3 (.ref a), keyT y with
      | some kvs, some k => PQ X.K C st H Q ((lookD kvs k).getD d0) st3
      | _, _ => False) := q
  split at q
  · rename_i kvs kk e1 e2
    obtain ⟨a', vs, ea, _, hr, hk⟩ := r3.tct e1 (rv_ref.mpr rfl)
    cases ea
    obtain ⟨kb, ekb, hkb⟩ := keyT_rv e2 (RV.keep r2 k3 _ _ hw)
    refine ⟨valV vs kk, .inr ⟨vs, kk, kb, .inl hr, ekb, hkb, rfl⟩, ?_⟩
    obtain ⟨l1, l2⟩ := RKV.look kk hk
    have kk3 := (k1.trans k2).trans k3
    cases e : lookD kvs kk with
    | none =>
      rw [e] at q
      rw [l2 e]
      exact q H3 w0 r3 kk3 hw0
    | some dd =>
      rw [e] at q
      obtain ⟨z, ez, hz⟩ := l1 dd e
      rw [ez]
      exact q H3 z r3 kk3 hz
  · exact q.elim
/-- list(range(a)) -/
theorem pe_lrange {k : Nat} (c : Cxt Tb P n N sc fb X) (ih : ∀ e m, cE df k N sc e = some m → PE X e (denE X.K (FOf Tb P n) m)) {p p2 pos pos2 : Pos} {a : Expr} {m : E} (hg : globB sc "list" = true) (hr : globB sc "range" = true) (ha : cE df k N sc a = some m) :
    PE X (.Call (.Name "list" p) [.Call (.Name "range" p2) [a] [] pos2] [] pos) (denE X.K (FOf Tb P n) (.blt "lrange" [m])) := by
  have g1 := c.glob hg
  have g2 := c.glob hr
  have m1 := c.bl "list" (by decide)
  have m2 := c.bl "range" (by decide)
  refine ⟨fun pins s σ H Q I ⟨C, σ0, st, rs, rel, h⟩ => ?_⟩
  unfold evE at h
  unfold evEs at h
  have hd : denE X.K (FOf Tb P n) m σ H (fun v H1 => ∃ (st1 : Sto) (d : D), Rel X.K C st1 H1 ∧ Keep st H st1 H1 ∧ RV X.K H1 d v ∧ evEs (callF P C n) C [] σ0 st1 (fun xs st2 => bltK C "lrange" (d :: xs) st2 (PQ X.K C st H Q))) :=
    ⟨C, σ0, st, rs, rel, evE_mono (callF_mono P C n) _ _ _ _ _ (fun d st1 q H1 v r1 k1 hv => ⟨st1, d, r1, k1, hv, q⟩) h⟩
  refine wpAny_Call_Name_kw (ld_blt I g1 m1 (u := .type "list") (by decide +kernel) ?_)
  refine PyProof.Rows.callWith_type1 (Calls.spliced_cons ?_)
  refine wpAny_Call_Name_kw (ld_blt I g2 m2 (u := .type "range") (by decide +kernel) ?_)
  refine PyProof.Rows.callWith_type1 ?_ (star_of ha [] X.env)
  rw [star_of ha [] X.env]
  refine Calls.spliced_cons (thn ((ih a m ha).run pins s σ H _ I hd) fun xv s1 ⟨v, H1, I1, r1, st1, d, rel1, k1, hv, hq⟩ => Calls.spliced_nil ?_)
  unfold evEs at hq
  replace hq : bltK C "lrange" [d] st1 (PQ X.K C st H Q) := hq
  unfold bltK at hq
  rw [if_neg (by decide), if_neg (by decide), if_neg (by decide), if_neg (by decide), if_neg (by decide), if_neg (by decide), if_neg (by decide), if_neg (by decide)] at hq
  unfold bltK2 at hq
  rw [if_neg (by decide), if_neg (by decide), if_neg (by decide), if_neg (by decide), if_neg (by decide), if_pos rfl] at hq
  split at hq
  · rename_i j e
    cases e
    obtain ⟨b1, b2, b3, hq⟩ := hq
    rw [rv_int.mp hv] at r1
    obtain ⟨t, rfl⟩ := r1
    refine call_range_1 (Calls.spliced_nil ?_)
    have hrs : Builtin.Range.rangeSize 0 j 1 = ((j.toNat : Nat) : Int) := by
      rw [rangeSize_one]
      split <;> omega
    have I2 : L2.Inv X pins σ H1 { s1 with heap := s1.heap.push { cls := .type "range", data := .fields #[.int 0 s1.toks, .int j t, .int 1 (s1.toks + 1)] }, toks := s1.toks + 1 + 1 } := I1.kept fun b o e => Heap.get?_push_of_some _ e
    refine call_list_range c.room.hd (IsRange.new ..) (small_one (by decide) (by decide) b1 b2) hrs (by have := sizeLine_eq; omega) fun h' tk acc' c' hk hS' hacc => ?_
    have hlen : ((List.range j.toNat).map fun (i : Nat) => V.int i).length ≤ sizeLine := by simpa using b3
    have hvs : Vals ((List.range j.toNat).map fun (i : Nat) => V.int i) acc'.toList := by
      refine vals_get (by rw [List.length_map, List.length_range, Array.length_toList]; exact hacc.1.symm) fun i x u e1 e2 => ?_
      obtain ⟨t0, rfl⟩ := hacc.2 i u (by simpa using e2)
      rw [List.getElem?_map] at e1
      cases er : (List.range j.toNat)[i]? with
      | none => rw [er] at e1; cases e1
      | some i' =>
        rw [er] at e1
        obtain ⟨hlt, ei⟩ := List.getElem?_eq_some_iff.mp er
        rw [List.getElem_range] at ei
        subst ei
        cases e1
        exact ⟨t0, by simp⟩
    refine ⟨.ref _, upd H1 _ (.lst ((List.range j.toNat).map fun (i : Nat) => V.int i)), I2.laid (t' := tk) hk (Nat.le_refl _) ⟨hlen, acc'.toList, c', hvs, by simpa using hS'⟩, rfl, ?_⟩
    refine PQ.newL (newL_mono (PQ.next k1) hq) rel1 ?_ _ (I2.hok.fresh (Nat.le_refl _))
    have : ∀ l : List Nat, RVs X.K H1 (l.map fun (i : Nat) => D.int i) (l.map fun (i : Nat) => V.int i) := by
      intro l
      induction l with
      | nil => exact RVs.nil
      | cons i l ih => exact RVs.cons (rv_int.mpr rfl) ih
    exact this _
  · exact hq.elim
end
end MP

set_option Elab.async false
set_option linter.all false
set_option maxRecDepth 100000
set_option maxHeartbeats 8000000
/-! MpCl: attributes of instances, methods of the text's classes. -/
namespace MP
open PySem PySem.Spec L2
variable {Tb : TabL}
section
variable {P : Str → Option Fn} {df : Str → Bool} {n : Nat} {N : List Str} {sc : Scope} {fb : Str → Bool} {X : Cx}
theorem pe_fldD {k : Nat} (c : Cxt Tb P n N sc fb X) (ih : ∀ e m, cE df k N sc e = some m → PE X e (denE X.K (FOf Tb P n) m)) {f : Str} {pos : Pos} {o : Expr} {o' : E} (hf : fldMark f ∈ N) (hp : plainO o = true) (ho : cE df k N sc o = some o') :
    PE X (.Attribute o f pos) (denE X.K (FOf Tb P n) (.fld o' f)) := by
  refine PE.imp (pe_fld (ih o o' ho) (base_of hp _ _ _)) fun τ H Q ⟨C, σ, st, rs, rel, h⟩ => ?_
  unfold evE at h
  refine ⟨C, σ, st, rs, rel, evE_mono (callF_mono P C n) _ _ _ _ _ (fun x st1 q H1 v r1 k1 hv => ?_) h⟩
  split at q
  · rename_i cn fs e
    split at q
    · rename_i d ed
      obtain ⟨a, p, dx, vs, rfl, rfl, _, hH, hc, hk⟩ := r1.ins e hv
      obtain ⟨w, hw, hwv⟩ := hk.lookS.1 d ed
      exact ⟨a, p, dx, vs, w, rfl, hH, c.cls _ hc, c.fld f hf _ hc, hw, q H1 w r1 k1 hwv⟩
    · exact q.elim
  · exact q.elim
/-- the tree of a method call -/
theorem mcall_eq {o : Expr} {m : Str} {apos pos : Pos} {args : List Expr} {env : PySem.Env} (hb : attributeBase o m env (eval o env) = eval o env) (hl : (apos.endLine == pos.line) = true)
    (few : methodCallForm (args.length + ([] : List Keyword).length) (backTo pos (starEach args env)) (backToKw pos (keywordEach [] env)) = true) :
    eval (.Call (.Attribute o m apos) args [] pos) env = (do
      let ov ← eval o env
      standAt apos.atName
      let (f, first) ← holding [ov] (getMethod ov m (do return (← importBound o env).getD true))
      callWith pos f first (backTo pos (starEach args env)) (backToKw pos (keywordEach [] env))) := by
  have hpos : methodCallPos true o env apos pos = pure pos := by
    unfold methodCallPos
    simp [hl]
  rw [arm_eval_Call, hb]
  unfold methodCall
  rw [few, hpos]
  simp only [pure_bind]
  rfl
theorem pe_umD {k : Nat} (c : Cxt Tb P n N sc fb X) (ih : ∀ e m, cE df k N sc e = some m → PE X e (denE X.K (FOf Tb P n) m)) {m : Str} {apos pos : Pos} {o : Expr} {o' : E} {as : List Expr} {ms : List E} (hl : (apos.endLine == pos.line) = true) (hn : as.length < 20) (hp : plainO o = true)
    (ho : cE df k N sc o = some o') (ha : cL (cE df k N sc) as = some ms) : PE X (.Call (.Attribute o m apos) as [] pos) (denE X.K (FOf Tb P n) (.um o' m ms)) := by
  have few : methodCallForm (as.length + ([] : List Keyword).length) (backTo pos (starEach as X.env)) (backToKw pos (keywordEach [] X.env)) = true := by
    unfold methodCallForm
    rw [few_of pos X.env ha]
    have hn' : as.length + ([] : List Keyword).length + (if (backToKw pos (keywordEach [] X.env)).isEmpty then 0 else 1) < 30 := by
      show as.length + 0 + 0 < 30
      omega
    rw [decide_eq_true hn'] <;> rfl
  have ht := mcall_eq (base_of hp m X.env (eval o X.env)) hl few
  refine ⟨fun pins s σ H Q I ⟨C, σ0, st, rs, rel, h⟩ => ?_⟩
  unfold evE at h
  refine methcall_of (ih o o' ho) I ?_ ht
  refine ⟨C, σ0, st, rs, rel, evE_mono (callF_mono P C n) _ _ _ _ _ (fun x st1 q H1 v r1 k1 hv => ?_) h⟩
  split at q
  · rename_i cn fs e
    obtain ⟨q1, qk, q⟩ := q
    obtain ⟨a, p, dx, vs, rfl, rfl, _, hH, hc, hk⟩ := r1.ins e hv
    have hkn : ∃ fn, P (mname cn m) = some fn := by
      replace qk : callF P C n (mname cn m) [] askK [] st1 (fun _ _ => False) := qk
      unfold callF callOf at qk
      cases hP : P (mname cn m) with
      | some fn => exact ⟨fn, rfl⟩
      | none => rw [hP] at qk; exact qk.elim
    obtain ⟨fn, hP⟩ := hkn
    obtain ⟨g, hM, hkp, fd, F, hb⟩ := c.mth _ hc m fn hP
    refine ⟨a, p, dx, vs, g, rfl, hH, c.cls _ hc, hM, hk.lookS.2 q1, fun s1 I1 => ?_⟩
    -- the def runs
    have go : ∀ {s1 : Shared} {us : List Value} {ws : List V} {ds : List D} {st2 : Sto} {H2 : Hp}, L2.Inv X pins σ H2 s1 → Vals ws us → RVs X.K H2 ds ws → Rel X.K C st2 H2 → callF P C n (mname cn m) (.ref a :: ds) [] [] st2 (PQ X.K C st2 H2 Q) →
        wpAny (model X.prog X.w) X.A (call (.ref g) (.ref a :: us)) (EP X pins σ Q) X.xe s1 := by
      intro s1 us ws ds st2 H2 I2 r hds r2 hq
      unfold callF callOf at hq
      rw [hP] at hq
      replace hq := (show if ([] : List Str) = askK then True else _ from hq)
      rw [if_neg (by decide)] at hq
      obtain ⟨h1, h2, h3⟩ := hq
      have := run_call (ws := []) (zs := []) (es := []) (vs := V.ref a :: ws) (us := Value.ref a :: us) (ds := .ref a :: ds) F c.room (hb _ [] h1) I2 (.cons rfl r) .nil (RVs.cons (rv_ref.mpr rfl) hds) RVs.nil r2 rfl h2 h3
      exact this
    have q' : evEs (callF P C n) C ms σ0 st1 fun ds st2 => callF P C n (mname cn m) (.ref a :: ds) [] [] st2 (PQ X.K C st1 H1 Q) := evEs_mono (callF_mono P C n) _ _ _ _ _ (fun ds st2 q => callF_mono P C n _ _ _ _ _ _ _ (PQ.next k1) q) q
    cases as with
    | nil =>
      have e : [] = ms := by simpa [cL] using ha
      subst e
      unfold evEs at q'
      exact PySem.W.callWith_K0 (first := [.ref a]) I1.kIn hkp (go I1 .nil RVs.nil r1 q')
    | cons e0 es0 =>
      obtain ⟨t1, t2⟩ := star1 ha pos X.env
      refine PySem.W.callWith_K (first := [.ref a]) (h₀ := X.base) I1.ok.mod.kin hkp (thn ((pa_of ih _ ms ha).run pos pins s1 σ H1 (fun vs2 H2 => ∃ st2 ds, Rel X.K C st2 H2 ∧ RVs X.K H2 ds vs2 ∧ callF P C n (mname cn m) (.ref a :: ds) [] [] st2 (PQ X.K C st2 H2 Q)) I1
        ⟨C, σ0, st1, rs.keep rel k1, r1, evEs_mono (callF_mono P C n) _ _ _ _ _ (fun ds st2 q H2 vs2 r2 k2 hv2 => ⟨st2, ds, r2, hv2, callF_mono P C n _ _ _ _ _ _ _ (PQ.next k2) q⟩) q'⟩) fun us s2 ⟨vs2, H2, I2, rr, st2, ds, r2, hds, q2⟩ => ⟨I2.kIn, ?_⟩) t1 t2
      exact go I2 rr hds r2 q2
  · exact q.elim
end
end MP

set_option Elab.async false
set_option linter.all false
set_option maxRecDepth 100000
set_option maxHeartbeats 8000000
/-! MpDl: a dict's display with keys. -/
namespace MP
open PySem PySem.Spec L2
variable {Tb : TabL}
section
variable {P : Str → Option Fn} {df : Str → Bool} {n : Nat} {N : List Str} {sc : Scope} {X : Cx}
/-- the pairs of a display, the values of its parts in turn -/
def RPs (K : PySem.W.Frag) (H : Hp) : List D → List (V × V) → Prop
  | [], [] => True
  | k :: v :: ds, (x, y) :: ps => RV K H k x ∧ RV K H v y ∧ RPs K H ds ps
  | _, _ => False
theorem prs_of {C : KstT Tb} {σ : Env} {τ : L2.St} {Kf : PySem.W.Frag} : ∀ (kms : List (E × E)) (st : Sto) (H : Hp) (G : List D → Sto → Prop) (Q : List (V × V) → Hp → Prop), RS Kf H σ τ → Rel Kf C st H → evEs (callF P C n) C (flatP kms) σ st G →
    (∀ ds st' H' ps, G ds st' → Rel Kf C st' H' → Keep st H st' H' → RPs Kf H' ds ps → ps.length = kms.length → Q ps H') → tPairs (kms.map fun p => (denE Kf (FOf Tb P n) p.1, denE Kf (FOf Tb P n) p.2)) τ H Q
  | [], st, H, G, Q, rs, rel, h, hq => by
    unfold flatP evEs at h
    exact hq [] st H [] h rel Keep.refl trivial rfl
  | (a, b) :: r, st, H, G, Q, rs, rel, h, hq => by
    unfold flatP at h
    unfold evEs at h
    refine ⟨C, σ, st, rs, rel, evE_mono (callF_mono P C n) _ _ _ _ _ (fun x st1 q H1 v1 r1 k1 hv1 => ?_) h⟩
    unfold evEs at q
    refine ⟨C, σ, st1, RS.keep rel k1 rs, r1, evE_mono (callF_mono P C n) _ _ _ _ _ (fun y st2 q H2 v2 r2 k2 hv2 => ?_) q⟩
    refine prs_of r st2 H2 _ _ (RS.keep r1 k2 (RS.keep rel k1 rs)) r2 q fun ds st' H' ps g r' k' hp hl => ?_
    refine hq _ st' H' _ g r' ((k1.trans k2).trans k') ⟨?_, ?_, hp⟩ (by rw [List.length_cons, List.length_cons, hl])
    · exact RV.keep r2 k' _ _ (RV.keep r1 k2 _ _ hv1)
    · exact RV.keep r2 k' _ _ hv2
theorem RPs.keys {Kf : PySem.W.Frag} {H : Hp} : ∀ {ds : List D} {ps : List (V × V)} {kvs : List (Key × D)}, RPs Kf H ds ps → pairsD ds = some kvs → ∃ vs : List (Key × V), ps = vs.map (fun kv => (kV kv.1, kv.2)) ∧ RKV Kf H kvs vs
  | [], [], kvs, _, h => by
    cases h
    exact ⟨[], rfl, rfl⟩
  | k :: v :: ds, (x, y) :: ps, kvs, ⟨h1, h2, h3⟩, h => by
    have h : (match keyOf k, pairsD ds with
      | some q, some ps => some ((q, v) :: ps)
      | _, _ => none) = some kvs := h
    split at h
    · rename_i q ps' e1 e2
      cases h
      obtain ⟨vs, e, hr⟩ := RPs.keys h3 e2
      refine ⟨(q, y) :: vs, ?_, ⟨y, vs, rfl, h2, hr⟩⟩
      rw [List.map_cons, ← e, key_rv e1 h1]
    · cases h
  | [], _ :: _, _, h, _ => h.elim
  | [_], _, _, h, _ => by
    cases ‹List (V × V)› <;> exact h.elim
  | _ :: _ :: _, [], _, h, _ => h.elim
theorem RKV.merge {Kf : PySem.W.Frag} {H : Hp} : ∀ {ks : List (Key × D)} {vs : List (Key × V)} {as : List (Key × D)} {bs : List (Key × V)}, RKV Kf H as bs → RKV Kf H ks vs → RKV Kf H (mergeD as ks) (mergeK bs vs)
  | [], vs, _, _, h, h2 => by
    have e : vs = [] := h2
    subst e
    exact h
  | (k, d) :: ks, vs, as, bs, h, h2 => by
    obtain ⟨v, ws, e, hv, hr⟩ := h2
    subst e
    exact RKV.merge (ks := ks) (vs := ws) (h.put hv) hr
theorem pps_of {k : Nat} (ih : ∀ e m, cE df k N sc e = some m → PE X e (denE X.K (FOf Tb P n) m)) {pos : Pos} : ∀ {ks : List (Option Expr)} {vs : List Expr} {ms : List (E × E)}, cPrs (cE df k N sc) ks vs = some ms →
    PPs X pos ks vs (ms.map fun p => (denE X.K (FOf Tb P n) p.1, denE X.K (FOf Tb P n) p.2)) ∧ ks.all (·.isSome) = true ∧ ks.length = vs.length ∧ ms.length = ks.length
  | [], [], ms, h => by
    cases h
    exact ⟨pps_nil, rfl, rfl, rfl⟩
  | some e :: ks, v :: vs, ms, h => by
    unfold cPrs at h
    split at h
    · rename_i a b r h1 h2 h3
      cases h
      obtain ⟨g1, g2, g3, g4⟩ := pps_of ih (pos := pos) h3
      exact ⟨pps_cons (ih e a h1) (ih v b h2) g1, by rw [List.all_cons, g2] <;> rfl, by rw [List.length_cons, List.length_cons, g3], by rw [List.length_cons, List.length_cons, g4]⟩
    · cases h
  | none :: _, _, _, h => by cases ‹List Expr› <;> cases h
  | [], _ :: _, _, h => by cases h
  | some _ :: _, [], _, h => by cases h
theorem pe_dlit {k : Nat} (ih : ∀ e m, cE df k N sc e = some m → PE X e (denE X.K (FOf Tb P n) m)) {e0 : Option Expr} {ks : List (Option Expr)} {vs : List Expr} {ms : List (E × E)} {pos : Pos} (hm : cPrs (cE df k N sc) (e0 :: ks) vs = some ms) (hz : ks.length ≤ 14) :
    PE X (.Dict (e0 :: ks) vs pos) (denE X.K (FOf Tb P n) (.blt "dlit" (flatP ms))) := by
  obtain ⟨g1, g2, g3, g4⟩ := pps_of ih (pos := pos) hm
  rw [List.length_cons] at g4
  refine PE.imp (pe_disp g1 g2 g3 (by simp) (by rw [List.length_cons]; omega)) fun τ H Q ⟨C, σ, st, rs, rel, q⟩ => ?_
  unfold evE at q
  intro p hp
  have nD := rel.free hp
  have kD : Keep st H st (upd H p (.dK [])) := Keep.newT hp
  have rD : Rel X.K C st (upd H p (.dK [])) := rel.step kD (tabs_new hp rel.tb) fun a o e => .inl ⟨e, by
    obtain ⟨ws, q, _⟩ := (rel.ob a o e).there
    exact upd_ne (ne_of_none q hp)⟩
  refine prs_of ms st _ _ _ (RS.keep rel kD rs) rD q fun ds st2 H2 ps g r2 k2 hps hl => ?_
  obtain ⟨hp2, np2⟩ := k2 p _ upd_same (by intro q z; cases z) nD
  refine ⟨hp2, ?_⟩
  unfold bltK at g
  rw [if_neg (by decide), if_neg (by decide), if_neg (by decide), if_neg (by decide), if_neg (by decide), if_neg (by decide), if_neg (by decide), if_neg (by decide)] at g
  unfold bltK2 at g
  rw [if_neg (by decide), if_neg (by decide), if_neg (by decide), if_neg (by decide), if_neg (by decide), if_neg (by decide), if_pos rfl] at g
  split at g
  · rename_i kvs ek
    obtain ⟨ws, ep, hw⟩ := hps.keys ek
    have lw : ws.length = ms.length := by rw [← hl, ep, List.length_map]
    refine ⟨ws, ep, by omega, ?_⟩
    have lm : (mergeD [] kvs).length ≤ sizeLine := by
      have h1 := RKV.length (RKV.merge (as := []) (bs := []) rfl hw)
      have h2 := length_mergeK ws []
      rw [List.length_nil] at h2
      rw [sizeLine_eq]
      omega
    have hm2 : RKV X.K H2 (mergeD [] kvs) (mergeK [] ws) := RKV.merge rfl hw
    have mu : Mu (.dK ([] : List (Key × V))) := .inr (.inl ⟨_, rfl⟩)
    have r3 : Rel X.K C st2 (upd H2 p (.dK (mergeK [] ws))) := r2.otherM hp2 mu np2 (fun ys e => by
      obtain ⟨vs, q1, q2⟩ := rD.ct p ys e
      obtain ⟨vs, q1, q2⟩ := rel.newC hp e
      exact ⟨vs, q1, RVs.keep rel (kD.trans k2) _ _ q2⟩)
    have rN : Rel X.K C (put st2 p (.dct (mergeD [] kvs))) (upd H2 p (.dK (mergeK [] ws))) := ⟨fun a o e => by
        by_cases ha : a = p
        · subst ha
          rw [put_same] at e
          cases e
          exact (DKnd.k X.K).ro _ _ _ _ upd_same (RKV.tk (TK.otherM hp2 mu) _ _ hm2) lm
        · rw [put_ne ha] at e
          exact r3.ob a o e, fun a ys e => by
        by_cases ha : a = p
        · subst ha
          obtain ⟨vs, q1, q2⟩ := rel.newC hp e
          exact ⟨vs, .inr (.inr q1), RVs.tk (TK.otherM hp2 mu) _ _ (RVs.keep rel (kD.trans k2) _ _ q2)⟩
        · obtain ⟨vs, q1, q2⟩ := r3.ct a ys e
          refine ⟨vs, ?_, q2⟩
          rcases q1 with ⟨q1, n1⟩ | q1
          · exact .inl ⟨q1, by rw [put_ne ha]; exact n1⟩
          · exact .inr q1, r3.tb⟩
    refine g p np2 _ (.ref p) rN ?_ (rv_ref.mpr rfl)
    intro a o e tt ne
    obtain ⟨h1, h2⟩ := (kD.trans k2) a o e tt ne
    have ha : a ≠ p := ne_of_none e hp
    exact ⟨by rw [upd_ne ha]; exact h1, by rw [put_ne ha]; exact h2⟩
  · exact g.elim
end
end MP

set_option Elab.async false
set_option linter.all false
set_option maxRecDepth 100000
set_option maxHeartbeats 8000000
/-! MpM: every expression: the theorem. -/
namespace MP
open PySem PySem.Spec L2
variable {Tb : TabL}

section
variable {P : Str → Option Fn} {df : Str → Bool} {n : Nat} {N : List Str}
theorem dinK_bl {neg : Bool} {x y : D} {st : Sto} {K : D → Sto → Prop} : dinK neg x y st K → dinK neg x y st fun d s => K d s ∧ ∃ b, d = .bl b := by
  unfold dinK
  split
  · exact fun h => ⟨h, _, rfl⟩
  · exact fun h => h
theorem cmpK_bl {C : KstT Tb} {op : CmpOp} {x y : D} {st : Sto} {K : D → Sto → Prop} : cmpK C op x y st K → cmpK C op x y st fun d s => K d s ∧ ∃ b, d = .bl b := by
  unfold cmpK eqK
  split
  · split
    · split <;> first | exact fun h => h.elim | exact fun h => ⟨h, _, rfl⟩
    · rintro ⟨d, e, h1, h2, h3, h4, h5⟩
      exact ⟨d, e, h1, h2, h3, h4, h5, _, rfl⟩
  · split
    · split <;> first | exact fun h => h.elim | exact fun h => ⟨h, _, rfl⟩
    · rintro ⟨d, e, h1, h2, h3, h4, h5⟩
      exact ⟨d, e, h1, h2, h3, h4, h5, _, rfl⟩
  · exact fun h => ⟨h, _, rfl⟩
  · exact fun h => ⟨h, _, rfl⟩
  · exact fun h => ⟨h, _, rfl⟩
  · exact fun h => ⟨h, _, rfl⟩
  · rintro ⟨ns, ms, h1, h2, h3⟩
    exact ⟨ns, ms, h1, h2, h3, _, rfl⟩
  · exact fun h => ⟨h, _, rfl⟩
  · exact fun h => ⟨h, _, rfl⟩
  · split
    · rintro ⟨h1, h2, h3⟩
      exact ⟨h1, h2, h3, _, rfl⟩
    · exact dinK_bl
  · split
    · rintro ⟨h1, h2, h3⟩
      exact ⟨h1, h2, h3, _, rfl⟩
    · exact dinK_bl
  · exact fun h => h
theorem evEs_len {F : Fs} {C : KstT Tb} (hF : MonoF F) : ∀ {es : List E} {σ : Env} {st : Sto} {K : List D → Sto → Prop}, evEs F C es σ st K → evEs F C es σ st fun vs s => vs.length = es.length ∧ K vs s
  | [], σ, st, K, h => by unfold evEs at h ⊢; exact ⟨rfl, h⟩
  | e :: es, σ, st, K, h => by
    unfold evEs at h ⊢
    refine evE_mono hF _ _ _ _ _ (fun x st1 q => ?_) h
    exact evEs_mono hF _ _ _ _ _ (fun xs st2 ⟨q1, q2⟩ => ⟨by rw [List.length_cons, List.length_cons, q1], q2⟩) (evEs_len hF q)
theorem cL_len {f : Expr → Option E} : ∀ {es : List Expr} {ms : List E}, cL f es = some ms → ms.length = es.length
  | [], ms, h => by
    have e : [] = ms := by simpa [cL] using h
    rw [← e] <;> rfl
  | e :: es, ms, h => by
    unfold cL at h
    split at h
    · rename_i m ms' h1 h2
      cases h
      rw [List.length_cons, List.length_cons, cL_len h2]
    · cases h
theorem cL_ne {f : Expr → Option E} {es : List Expr} {m : E} {ms : List E} (h : cL f es = some (m :: ms)) : es ≠ [] := by
  rintro rfl
  simp [cL] at h
theorem fold_of {k : Nat} {sc : Scope} {tg iter : Expr} {r : IK × List E} (h : cI (cE df k N sc) sc tg iter = some r) (env : PySem.Env) : ∀ x, foldedSetIterable iter env x = pure x := by
  cases iter with
  | Set es kk pos =>
    exfalso
    unfold cI at h
    cases k with
    | zero => simp [cE] at h
    | succ k => simp [cE] at h
  | _ => intro _; rfl
/-- what a chain of two comparisons asks -/
theorem chain_den {K : PySem.W.Frag} {op op' : CmpOp} {a b c : E} {τ : L2.St} {H : Hp} {Q : VK} (h : denE K (FOf Tb P n) (.cmp2 op op' a b c) τ H Q) :
    denE K (FOf Tb P n) a τ H fun x H1 => denE K (FOf Tb P n) b τ H1 fun y H2 => lift2 K (fun (C : KstT Tb) => cmpK C op) x y H2 fun z H3 => ∃ k, z = .bl k ∧
      if k = true then denE K (FOf Tb P n) c τ H3 fun w H4 => lift2 K (fun (C : KstT Tb) => cmpK C op') y w H4 Q else Q (.bl false) H3 := by
  obtain ⟨C, σ, st, rs, rel, h⟩ := h
  unfold evE at h
  refine ⟨C, σ, st, rs, rel, evE_mono (callF_mono P C n) _ _ _ _ _ (fun x st1 q H1 v r1 k1 hv => ?_) h⟩
  refine ⟨C, σ, st1, rs.keep rel k1, r1, evE_mono (callF_mono P C n) _ _ _ _ _ (fun y st2 q H2 w r2 k2 hw => ?_) q⟩
  have k12 := k1.trans k2
  refine ⟨C, st2, x, y, r2, RV.keep r1 k2 _ _ hv, hw, cmpK_mono (fun d st3 q H3 u r3 k3 hu => ?_) q⟩
  split at q
  · refine ⟨true, rv_bl.mp hu, iteT ?_⟩
    refine ⟨C, σ, st3, RS.keep r2 k3 (RS.keep rel k12 rs), r3, evE_mono (callF_mono P C n) _ _ _ _ _ (fun z st4 q H4 t r4 k4 ht => ?_) q⟩
    exact ⟨C, st4, y, z, r4, RV.keep r3 k4 _ _ (RV.keep r2 k3 _ _ hw), ht, cmpK_mono (PQ.next ((k12.trans k3).trans k4)) q⟩
  · refine ⟨false, rv_bl.mp hu, iteF ?_⟩
    exact q H3 _ r3 (k12.trans k3) (rv_bl.mpr rfl)
  · exact q.elim
theorem lrOf_ok {sc : Scope} {f : Str} {as : List Expr} {a : Expr} (h : lrOf sc f as = some a) : ∃ (r : Str) (p pos : Pos), as = [.Call (.Name r p) [a] [] pos] ∧ f = "list" ∧ r = "range" ∧ globB sc "range" = true := by
  unfold lrOf at h
  split at h
  · split at h
    · rename_i hc
      cases h
      exact ⟨_, _, _, rfl, hc.1, hc.2.1, hc.2.2⟩
    · cases h
  · cases h
theorem pe_step {k : Nat} (ih : SndE Tb P df n N k) (hdf : ∀ f, df f = true → ∃ fn, P f = some fn ∧ fn.kd ≠ 2) {sc : Scope} {fb : Str → Bool} {X : Cx} (c : Cxt Tb P n N sc fb X) (e : Expr) (m : E) (h : cE df (k + 1) N sc e = some m) : PE X e (denE X.K (FOf Tb P n) m) := by
  obtain ⟨ihE, ihT⟩ := ih sc fb X c
  cases e with
  | Name x pos =>
    simp only [cE] at h
    split at h
    · rename_i hc
      simp only [Bool.and_eq_true, Bool.not_eq_true'] at hc
      obtain ⟨⟨h1, h2⟩, h3⟩ := hc
      cases hi : idx N x with
      | none => rw [hi] at h; simp at h
      | some i =>
        rw [hi] at h
        have e : E.var i = m := by simpa using h
        subst e
        refine PE.imp (pe_var (c.get hi) (c.vis h1) h2 h3) fun τ H Q ⟨C, σ, st, rs, rel, q⟩ => ?_
        unfold evE at q
        split at q
        · rename_i d hd
          obtain ⟨v, e1, e2⟩ := rs.2 i d hd
          exact ⟨v, e1, q.here rel e2⟩
        · exact q.elim
    · cases h
  | Constant cc kk pos =>
    simp only [cE] at h
    cases cc with
    | none =>
      have e : E.non = m := by simpa using h
      subst e
      exact PE.imp pe_non fun τ H Q ⟨C, σ, st, rs, rel, q⟩ => (by unfold evE at q; exact q : PQ X.K C st H Q .non st).here rel (rv_non.mpr rfl)
    | bool b =>
      have e : E.bl b = m := by simpa using h
      subst e
      exact PE.imp pe_bl fun τ H Q ⟨C, σ, st, rs, rel, q⟩ => (by unfold evE at q; exact q : PQ X.K C st H Q (.bl b) st).here rel (rv_bl.mpr rfl)
    | int b =>
      have e : E.int b = m := by simpa using h
      subst e
      exact PE.imp pe_int fun τ H Q ⟨C, σ, st, rs, rel, q⟩ => (by unfold evE at q; exact q : PQ X.K C st H Q (.int b) st).here rel (rv_int.mpr rfl)
    | str b =>
      have e : E.str b = m := by simpa using h
      subst e
      exact PE.imp pe_str fun τ H Q ⟨C, σ, st, rs, rel, q⟩ => (by unfold evE at q; exact q : PQ X.K C st H Q (.str b) st).here rel (rv_str.mpr rfl)
    | _ => simp at h
  | BinOp a op b pos =>
    simp only [cE] at h
    split at h
    · rename_i a' b' h1 h2
      cases h
      refine PE.imp (pe_op (opr_bin (Tb := Tb)) (ihE a a' h1) (ihE b b' h2)) fun τ H Q ⟨C, σ, st, rs, rel, q⟩ => ?_
      unfold evE at q
      exact two_of (k := fun (_ : KstT Tb) => binK op) (fun _ _ _ _ _ _ hk q => binK_mono hk q) rs rel q
    · cases h
  | UnaryOp op a pos =>
    simp only [cE] at h
    split at h
    · rename_i a' h1
      cases h
      refine PE.imp (pe_un un_neg (ihE a a' h1)) fun τ H Q ⟨C, σ, st, rs, rel, q⟩ => ?_
      unfold evE at q
      refine ⟨C, σ, st, rs, rel, evE_mono (callF_mono P C n) _ _ _ _ _ (fun x st1 q H1 v r1 k1 hv => ?_) q⟩
      cases x with
      | int i => exact ⟨i, rv_int.mp hv, q H1 _ r1 k1 (rv_int.mpr rfl)⟩
      | _ => exact q.elim
    · rename_i a' h1
      cases h
      refine PE.imp (pe_notT (ihE a a' h1)) fun τ H Q ⟨C, σ, st, rs, rel, q⟩ => ?_
      unfold evE at q
      refine ⟨C, σ, st, rs, rel, evE_mono (callF_mono P C n) _ _ _ _ _ (fun x st1 q H1 v r1 k1 hv => ?_) q⟩
      split at q
      · rename_i b hb
        exact ⟨b, tru_rv r1 hb hv, q H1 _ r1 k1 (rv_bl.mpr rfl)⟩
      · exact q.elim
    · cases h
  | Compare a ops bs pos =>
    simp only [cE] at h
    split at h
    · rename_i op b
      split at h
      · cases h
      · rename_i hm
        split at h
        · rename_i a' b' h1 h2
          cases h
          refine PE.imp (pe_cmpR (opr_cmp (Tb := Tb) c.hu) (ihE a a' h1) (ihE b b' h2) (Bool.eq_false_iff.mpr hm)) fun τ H Q ⟨C, σ, st, rs, rel, q⟩ => ?_
          unfold evE at q
          exact two_of (k := fun (C : KstT Tb) => cmpK C op) (fun _ _ _ _ _ _ hk q => cmpK_mono hk q) rs rel q
        · cases h
    · rename_i op op' b c'
      split at h
      · cases h
      · rename_i hm
        have hm' : behindInMarks op b = false ∧ behindInMarks op' c' = false := by
          simpa using hm
        split at h
        · rename_i a1 b1 c1 h1 h2 h3
          cases h
          exact PE.imp (pe_chain (opr_cmp (Tb := Tb) c.hu) (opr_cmp (Tb := Tb) c.hu) (ihE a a1 h1) (ihE b b1 h2) (ihE c' c1 h3) hm'.2) fun τ H Q q => chain_den q
        · cases h
    · cases h
  | BoolOp op es pos =>
    simp only [cE] at h
    split at h
    · rename_i m' ms h1
      cases h
      refine PE.imp (peB op pos ihE es (m' :: ms) h1 (cL_ne h1)) fun τ H Q ⟨C, σ, st, rs, rel, q⟩ => ?_
      unfold evE at q
      exact ⟨C, σ, st, rs, rel, q⟩
    · cases h
  | IfExp t a b pos =>
    simp only [cE] at h
    split at h
    · rename_i c' a' b' h1 h2 h3
      cases h
      refine PE.imp (pe_ifExp (ihT t c' h1) (ihE a a' h2) (ihE b b' h3)) fun τ H Q ⟨C, σ, st, rs, rel, q⟩ => ?_
      unfold evE at q
      refine ⟨C, σ, st, rs, rel, evT_mono (callF_mono P C n) _ _ _ _ _ (fun x st1 q H1 r1 k1 => ?_) q⟩
      cases x with
      | true => rw [if_pos rfl] at q; exact iteT ⟨C, σ, st1, rs.keep rel k1, r1, evE_mono (callF_mono P C n) _ _ _ _ _ (PQ.next k1) q⟩
      | false => rw [if_neg Bool.false_ne_true] at q; exact iteF ⟨C, σ, st1, rs.keep rel k1, r1, evE_mono (callF_mono P C n) _ _ _ _ _ (PQ.next k1) q⟩
    · cases h
  | Tuple es kk pos =>
    simp only [cE] at h
    split at h
    · rename_i hz
      cases he : cL (cE df k N sc) es with
      | none => rw [he] at h; simp at h
      | some ms =>
        rw [he] at h
        have e : E.tup ms = m := by simpa using h
        subst e
        refine PE.imp (pe_tup (pa_of ihE es ms he)) fun τ H Q ⟨C, σ, st, rs, rel, q⟩ => ?_
        unfold evE at q
        refine ⟨C, σ, st, rs, rel, evEs_mono (callF_mono P C n) _ _ _ _ _ (fun ds st1 ⟨hl, q⟩ H1 vs r1 k1 hv => ?_) (evEs_len (callF_mono P C n) q)⟩
        refine ⟨by rw [hv.length, hl, cL_len he, sizeLine_eq]; omega, fun p hp => ?_⟩
        exact PQ.newT (PQ.next k1 _ _ q) r1 hv p hp
    · cases h
  | List es pos =>
    simp only [cE] at h
    split at h
    · rename_i hz
      cases he : cL (cE df k N sc) es with
      | none => rw [he] at h; simp at h
      | some ms =>
        rw [he] at h
        have e : E.lst ms = m := by simpa using h
        subst e
        refine PE.imp (pe_lst (pa_of ihE es ms he)) fun τ H Q ⟨C, σ, st, rs, rel, q⟩ => ?_
        unfold evE at q
        refine ⟨C, σ, st, rs, rel, evEs_mono (callF_mono P C n) _ _ _ _ _ (fun ds st1 ⟨hl, q⟩ H1 vs r1 k1 hv => ?_) (evEs_len (callF_mono P C n) q)⟩
        refine ⟨by rw [hv.length, hl, cL_len he, sizeLine_eq]; omega, fun p hp => ?_⟩
        exact PQ.newL (newL_mono (PQ.next k1) q) r1 hv p hp
    · cases h
  | Subscript a i pos =>
    simp only [cE] at h
    split at h
    · rename_i lo hi p2
      split at h
      · rename_i a' hl lo' hh hi' h1 h2 h3
        cases h
        refine PE.imp (pe_slice (slr (Tb := Tb)) (ihE a a' h1) (po_of ihE h2) (po_of ihE h3)) fun τ H Q ⟨C, σ, st, rs, rel, q⟩ => ?_
        unfold evE at q
        refine ⟨C, σ, st, rs, rel, evE_mono (callF_mono P C n) _ _ _ _ _ (fun x st1 q H1 v r1 k1 hv => ?_) q⟩
        refine ⟨C, σ, st1, rs.keep rel k1, r1, evE_mono (callF_mono P C n) _ _ _ _ _ (fun l st2 q => ?_) q⟩
        cases hp1 : part hl l with
        | none => rw [hp1] at q; exact q.elim
        | some pl =>
          rw [hp1] at q
          refine ⟨pl, rfl, fun H2 r2 k2 => ?_⟩
          refine ⟨C, σ, st2, RS.keep r1 k2 (rs.keep rel k1), r2, evE_mono (callF_mono P C n) _ _ _ _ _ (fun h st3 q => ?_) q⟩
          split at q
          · rename_i h' e2
            refine ⟨h', e2, fun H3 r3 k3 => ?_⟩
            exact ⟨C, st3, x, r3, RV.keep r2 k3 _ _ (RV.keep r1 k2 _ _ hv), slcK_mono (PQ.next ((k1.trans k2).trans k3)) q⟩
          · exact q.elim
      · cases h
    · cases h
    · rename_i i' hs1 hs2
      split at h
      · rename_i a' i2 h1 h2
        cases h
        have pl : PlainIx i := by
          intro o j
          cases i with
          | Slice lo hi stp p2 =>
            cases stp with
            | none => exact (hs1 _ _ _ rfl).elim
            | some x => exact (hs2 _ _ _ _ rfl).elim
          | _ => rfl
        refine PE.imp (pe_ix (ixr (Tb := Tb) (by have := c.hu; omega)) (ihE a a' h1) (ihE i i2 h2) pl) fun τ H Q ⟨C, σ, st, rs, rel, q⟩ => ?_
        unfold evE at q
        exact two_of (k := fun (C : KstT Tb) => ixK C) (fun _ _ _ _ _ _ hk q => ixK_mono hk q) rs rel q
      · cases h
  | ListComp elt gens scope pos =>
    simp only [cE] at h
    split at h
    · rename_i tg iter ifs z
      split at h
      · rename_i hc
        obtain ⟨hz, hb, hl⟩ := hc
        subst hz
        split at h
        · rename_i g ifs' elt' h1 h2 h3
          split at h
          · rename_i hs
            cases hI : cI (cE df k N sc) sc tg iter with
            | none => rw [hI] at h; simp at h
            | some ka =>
              rw [hI] at h
              have e : E.lc elt' g ka.1 ka.2 ifs' ((ownOf N scope).map (·.2)) = m := by simpa using h
              subst e
              have bo := blkOk_by hb
              have bo' : BlkOk X.N X.env.scope scope (ownOf N scope) := by rw [c.hN, c.scE]; exact bo
              have cb := fun (s : Shared) (H : Hp) (C : Addr) (cl : List (Str × Addr)) (fp : List Addr) => c.blk bo.kind s H C cl fp
              have hs' : ∀ i ∈ slotsG g, i ∈ (ownOf N scope).map (·.2) := fun i hi => by
                have := List.all_eq_true.mp hs i hi
                obtain ⟨p, hp, e⟩ := List.any_eq_true.mp this
                exact List.mem_map.mpr ⟨p, hp, by simpa using e⟩
              refine PE.imp (pe_lc (g := gD Tb X.K g) (tt := denTs X.K (FOf Tb P n) ifs') (te := denE X.K (FOf Tb P n) elt') c.calm (by rw [c.hN]; exact c.nd) (pi_of c ihE hI) bo'
                (fun s H C cl fp => pg_of (cb s H C cl fp) tg g h1) (fun s H C cl fp => pts_of (fun e m hm => (ih _ _ _ (cb s H C cl fp)).2 e m hm) h2 hl) (fun s H C cl fp => (ih _ _ _ (cb s H C cl fp)).1 elt elt' h3) ?_) fun τ H Q q => lc_den hs' q
              exact fold_of hI X.env
          · cases h
        · cases h
      · cases h
    · cases h
  | Call f as ks pos =>
    simp only [cE] at h
    split at h
    · rename_i f p
      split at h
      · rename_i hc
        simp only [Bool.and_eq_true, Bool.not_eq_true'] at hc
        obtain ⟨⟨h1, h2⟩, h3⟩ := hc
        split at h
        · split at h
          · rename_i hb
            split at h
            · rename_i a0 hlr
              obtain ⟨m0, hm0, e⟩ := Option.map_eq_some_iff.mp h
              subst e
              obtain ⟨r, rp, rpos, rfl, rfl, rfl, hgr⟩ := lrOf_ok hlr
              exact pe_lrange c ihE h1 hgr hm0
            split at h
            · rename_i m' ms ha
              cases h
              cases as with
              | nil => simp [cL] at ha
              | cons a as => exact pe_blt c ihE h1 hb ha
            · split at h
              · rename_i hf
                subst hf
                exact pe_cnt c ihE h1 h
              · cases h
          · split at h
            · rename_i hf
              subst hf
              split at h
              · rename_i e T pT
                split at h
                · rename_i e' T' he hT
                  cases h
                  split at hT
                  · rename_i hgT
                    exact pe_isi c ihE h1 hgT hT he
                  · cases hT
                · cases h
              · cases h
            · split at h
              · cases h
              · rename_i hn
                split at h
                · rename_i ms ha
                  cases h
                  have hd : df f = true := by
                    simpa using (fun q => hn (by simp [q]) : ¬ df f = false)
                  exact pe_user c ihE (hdf f hd) h1 h2 ha rfl (by decide) rfl
                · cases h
        · rename_i k0 ks0
          split at h
          · rename_i hf
            subst hf
            split at h
            · rename_i e0
              split at h
              · rename_i hc2
                simp only [Bool.and_eq_true, decide_eq_true_eq] at hc2
                cases he : cE df k N sc e0 with
                | none => rw [he] at h; simp at h
                | some m0 =>
                  rw [he] at h
                  have e : E.blt "sorted0" [m0] = m := by simpa using h
                  subst e
                  exact pe_sorted0 c ihE h1 hc2.1 hc2.2 he
              · cases h
            · cases h
          · split at h
            · cases h
            · rename_i hn
              split at h
              · rename_i ms xs ns ha hk hkw
                split at h
                · cases h
                rename_i hask
                cases h
                have hd : df f = true := by
                  simpa using (fun q => hn (by simp [q]) : ¬ df f = false)
                exact pe_user c ihE (hdf f hd) h1 h2 ha hk hask hkw
              · cases h
      · cases h
    · rename_i o m' apos
      split at h
      · split at h
        · rename_i hc
          simp only [Bool.and_eq_true, decide_eq_true_eq] at hc
          obtain ⟨⟨⟨h1, h2⟩, h3⟩, h4⟩ := hc
          split at h
          · rename_i o' as' ho ha
            cases h
            exact pe_mth ihE h1 h2 h3 h4 ho ha
          · cases h
        · split at h
          · rename_i hc
            simp only [Bool.and_eq_true, decide_eq_true_eq] at hc
            obtain ⟨⟨h1, h2⟩, h3⟩ := hc
            have hu : X.A.units + 1 < cLine := by have := c.hu; omega
            split at h
            · split at h
              · rename_i hm
                subst hm
                split at h
                · rename_i o' b1 ho ha
                  cases h
                  exact pe_get1 hu ihE h1 h3 ho ha
                · cases h
              · cases h
            · split at h
              · rename_i o' b1 b2 ho ha hb
                split at h
                · split at h
                  · rename_i hm
                    subst hm
                    cases h
                    exact pe_tget hu ihE h1 h3 ho ha hb
                  · cases h
                cases h
                rcases h2 with rfl | rfl
                · exact pe_get2 hu ihE h1 h3 ho ha hb
                · exact pe_setd ihE h1 h3 ho ha hb
              · cases h
            · cases h
          · split at h
            · rename_i hc
              simp only [Bool.and_eq_true, decide_eq_true_eq] at hc
              obtain ⟨⟨h1, h2⟩, h3⟩ := hc
              subst h2
              split at h
              · obtain ⟨o', ho, e⟩ := Option.map_eq_some_iff.mp h
                subst e
                exact pe_bitl ihE h1 h3 ho
              · cases h
            · split at h
              · rename_i hc
                simp only [Bool.and_eq_true, decide_eq_true_eq] at hc
                obtain ⟨⟨h1, h2⟩, h3⟩ := hc
                split at h
                · rename_i o' as' ho ha
                  cases h
                  exact pe_umD c ihE h1 h2 h3 ho ha
                · cases h
              · cases h
      · cases h
    · cases h
  | Dict ks vs pos =>
    simp only [cE] at h
    split at h
    · split at h
      · have e : E.blt "tdict" [] = m := by simpa using h
        subst e
        exact pe_tdict
      have e : E.dnew = m := by simpa using h
      subst e
      refine PE.imp pe_dnewK fun τ H Q ⟨C, σ, st, rs, rel, q⟩ => ?_
      unfold evE at q
      intro p hp
      exact q p (rel.free hp) _ _ (rel.newD hp rfl (Nat.zero_le _)) (Keep.new hp) (rv_ref.mpr rfl)
    · split at h
      · rename_i hz
        obtain ⟨ms, hm, e⟩ := Option.map_eq_some_iff.mp h
        subst e
        exact pe_dlit ihE hm hz
      · cases h
    · cases h
  | Attribute o f pos =>
    simp only [cE] at h
    split at h
    · rename_i hc
      simp only [Bool.and_eq_true, decide_eq_true_eq] at hc
      obtain ⟨o', ho, e⟩ := Option.map_eq_some_iff.mp h
      subst e
      exact pe_fldD c ihE hc.1 hc.2 ho
    · cases h
  | DictComp kx vx gens scope pos =>
    simp only [cE] at h
    split at h
    · rename_i tg iter ifs z
      split at h
      · rename_i hc
        obtain ⟨hz, hb, hl⟩ := hc
        subst hz
        split at h
        · rename_i g ifs' kx' vx' h1 h2 h3 h4
          split at h
          · rename_i hs
            cases hI : cI (cE df k N sc) sc tg iter with
            | none => rw [hI] at h; simp at h
            | some ka =>
              rw [hI] at h
              have bo := blkOk_by hb
              have bo' : BlkOk X.N X.env.scope scope (ownOf N scope) := by rw [c.hN, c.scE]; exact bo
              have cb := fun (s : Shared) (H : Hp) (C : Addr) (cl : List (Str × Addr)) (fp : List Addr) => c.blk bo.kind s H C cl fp
              have hs' : ∀ i ∈ slotsG g, i ∈ (ownOf N scope).map (·.2) := fun i hi => by
                have := List.all_eq_true.mp hs i hi
                obtain ⟨p, hp, e⟩ := List.any_eq_true.mp this
                exact List.mem_map.mpr ⟨p, hp, by simpa using e⟩
              have h : (if isTup kx = true then E.dcT kx' vx' g ka.1 ka.2 ifs' ((ownOf N scope).map (·.2)) else E.dc kx' vx' g ka.1 ka.2 ifs' ((ownOf N scope).map (·.2))) = m := by simpa using h
              split at h
              · subst h
                refine PE.imp (pe_dcT (g := gD Tb X.K g) (tt := denTs X.K (FOf Tb P n) ifs') (tk := denE X.K (FOf Tb P n) kx') (tv := denE X.K (FOf Tb P n) vx') c.calm (by rw [c.hN]; exact c.nd) (by have := c.hu; omega) (pi_of c ihE hI) bo'
                  (fun s H C cl fp => pg_of (cb s H C cl fp) tg g h1) (fun s H C cl fp => pts_of (fun e m hm => (ih _ _ _ (cb s H C cl fp)).2 e m hm) h2 hl) (fun s H C cl fp => (ih _ _ _ (cb s H C cl fp)).1 kx kx' h3) (fun s H C cl fp => (ih _ _ _ (cb s H C cl fp)).1 vx vx' h4) ?_) fun τ H Q q => dcT_den hs' q
                exact fold_of hI X.env
              · subst h
                refine PE.imp (pe_dc (g := gD Tb X.K g) (tt := denTs X.K (FOf Tb P n) ifs') (tk := denE X.K (FOf Tb P n) kx') (tv := denE X.K (FOf Tb P n) vx') c.calm (by rw [c.hN]; exact c.nd) (pi_of c ihE hI) bo'
                  (fun s H C cl fp => pg_of (cb s H C cl fp) tg g h1) (fun s H C cl fp => pts_of (fun e m hm => (ih _ _ _ (cb s H C cl fp)).2 e m hm) h2 hl) (fun s H C cl fp => (ih _ _ _ (cb s H C cl fp)).1 kx kx' h3) (fun s H C cl fp => (ih _ _ _ (cb s H C cl fp)).1 vx vx' h4) ?_) fun τ H Q q => dc_den hs' q
                exact fold_of hI X.env
          · cases h
        · cases h
      · cases h
    · cases h
  | _ => simp [cE] at h
end
end MP

set_option Elab.async false
set_option linter.all false
set_option maxRecDepth 100000
set_option maxHeartbeats 8000000
/-! MpN: tests; every expression and test. -/
namespace MP
open PySem PySem.Spec L2
variable {Tb : TabL}

/-- a value's truth is wanted -/
def tK (C : KstT Tb) (K : Bool → Sto → Prop) : D → Sto → Prop := fun x st1 => match truD C st1 x with
  | some b => K b st1
  | none => False
def isPl : E → Bool
  | .not _ => false
  | .bop _ _ => false
  | .ite _ _ _ => false
  | _ => true
theorem evT_pl {F : Fs} {C : KstT Tb} {m : E} (h : isPl m = true) {σ : Env} {st : Sto} {K : Bool → Sto → Prop} (q : evT F C m σ st K) : evE F C m σ st (tK C K) := by
  cases m <;> first | (simp [isPl] at h; done) | (unfold evT at q; exact q)
theorem cmp2_bl {F : Fs} {C : KstT Tb} (hF : MonoF F) {op op' : CmpOp} {a b c : E} {σ : Env} {st : Sto} {K : D → Sto → Prop} (h : evE F C (.cmp2 op op' a b c) σ st K) : evE F C (.cmp2 op op' a b c) σ st fun d s => K d s ∧ ∃ b, d = .bl b := by
  unfold evE at h ⊢
  refine evE_mono hF _ _ _ _ _ (fun x st1 q => ?_) h
  refine evE_mono hF _ _ _ _ _ (fun y st2 q => ?_) q
  refine cmpK_mono (fun d st3 q => ?_) q
  split at q
  · exact evE_mono hF _ _ _ _ _ (fun z st4 q => cmpK_bl q) q
  · exact ⟨q, false, rfl⟩
  · exact q.elim
section
variable {P : Str → Option Fn} {df : Str → Bool} {n : Nat} {N : List Str}
theorem cGen_pl {f : Expr → Option E} {N : List Str} {sc : Scope} {as : List Expr} {m : E} (h : cGen f N sc as = some m) : isPl m = true := by
  obtain ⟨_, _, _, _, _, _, _, _, _, _, _, _, _, _, _, _, _, _, _, _, _, _, _, _, _, _, _, _, _, _, _, rfl⟩ := cGen_ok h
  rfl
theorem cE_pl {k : Nat} {sc : Scope} {e : Expr} {m : E} (h : cE df k N sc e = some m) (hn : ∀ a p, e ≠ .UnaryOp .Not a p) (hb : ∀ op es p, e ≠ .BoolOp op es p) (hi : ∀ a b c p, e ≠ .IfExp a b c p) : isPl m = true := by
  cases k with
  | zero => simp [cE] at h
  | succ k =>
  cases e with
  | UnaryOp op a p =>
    cases op with
    | Not => exact absurd rfl (hn a p)
    | USub =>
      simp only [cE] at h
      cases ha : cE df k N sc a with
      | none => rw [ha] at h; cases h
      | some a' =>
        rw [ha] at h
        have e : E.neg a' = m := by simpa using h
        subst e
        rfl
    | _ => simp only [cE] at h; cases h
  | BoolOp op es p => exact absurd rfl (hb op es p)
  | IfExp a b c p => exact absurd rfl (hi a b c p)
  | Name x p => 
    simp only [cE] at h
    split at h
    · cases hi : idx N x with
      | none => rw [hi] at h; simp at h
      | some i => rw [hi] at h; have e : E.var i = m := by simpa using h
                  subst e; rfl
    · cases h
  | Tuple es kk p =>
    simp only [cE] at h
    split at h
    · cases he : cL (cE df k N sc) es with
      | none => rw [he] at h; simp at h
      | some ms => rw [he] at h; have e : E.tup ms = m := by simpa using h
                   subst e; rfl
    · cases h
  | List es p =>
    simp only [cE] at h
    split at h
    · cases he : cL (cE df k N sc) es with
      | none => rw [he] at h; simp at h
      | some ms => rw [he] at h; have e : E.lst ms = m := by simpa using h
                   subst e; rfl
    · cases h
  | ListComp elt gens scope p =>
    simp only [cE] at h
    split at h
    · split at h
      · split at h
        · split at h
          · obtain ⟨ka, _, e⟩ := Option.map_eq_some_iff.mp h
            subst e
            rfl
          · cases h
        · cases h
      · cases h
    · cases h
  | DictComp kx vx gens scope p =>
    simp only [cE] at h
    split at h
    · split at h
      · split at h
        · split at h
          · obtain ⟨ka, _, e⟩ := Option.map_eq_some_iff.mp h
            subst e
            split <;> rfl
          · cases h
        · cases h
      · cases h
    · cases h
  | _ => simp only [cE] at h; repeat' (first | (cases h; first | rfl | done) | exact cGen_pl h | (obtain ⟨ka, _, e⟩ := Option.map_eq_some_iff.mp h; subst e; rfl) | split at h)
def tIfT (t a b : TT) : TT := fun σ H Q => t σ H fun c H1 => if c = true then a σ H1 Q else b σ H1 Q
theorem pt_ifExp {X : Cx} {c a b : Expr} {tc ta tb : TT} {pos : Pos} (hc : PT X c tc) (ha : PT X a ta) (hb : PT X b tb) : PT X (.IfExp c a b pos) (tIfT tc ta tb) := by
  refine ⟨fun pins s σ H Q I h => ?_⟩
  show wpAny _ _ (isTrue (.IfExp c a b pos) X.env _) _ _ _
  unfold PySem.isTrue
  refine wpAny_bind (thn (hc.run pins s σ H _ I h) fun d s1 ⟨H1, I1, q1⟩ => ?_)
  cases d with
  | true => exact ha.run pins s1 σ H1 Q I1 q1
  | false => exact hb.run pins s1 σ H1 Q I1 q1
theorem pt_plain {X : Cx} {e : Expr} {m : E} (hp : isPl m = true) (he : PE X e (denE X.K (FOf Tb P n) m)) (ht : ∀ whole, isTrue e X.env whole = (do let v ← whole; standAt e.pos; holding [v] (truthy v))) : PT X e (denT X.K (FOf Tb P n) m) := by
  refine PT.imp (pt_truth he ht) fun τ H Q ⟨C, σ, st, rs, rel, q⟩ => ?_
  refine ⟨C, σ, st, rs, rel, evE_mono (callF_mono P C n) _ _ _ _ _ (fun x st1 q H1 v r1 k1 hv => ?_) (evT_pl hp q)⟩
  unfold tK at q
  split at q
  · rename_i b hb
    exact ⟨b, tru_rv r1 hb hv, q H1 r1 k1⟩
  · exact q.elim
theorem pt_step {k : Nat} (ih : SndE Tb P df n N k) (hdf : ∀ f, df f = true → ∃ fn, P f = some fn ∧ fn.kd ≠ 2) {sc : Scope} {fb : Str → Bool} {X : Cx} (c : Cxt Tb P n N sc fb X) (e : Expr) (m : E) (h : cE df (k + 1) N sc e = some m) : PT X e (denT X.K (FOf Tb P n) m) := by
  obtain ⟨ihE, ihT⟩ := ih sc fb X c
  have he := pe_step ih hdf c e m h
  have plain : (∀ a p, e ≠ .UnaryOp .Not a p) → (∀ op es p, e ≠ .BoolOp op es p) → (∀ a b c p, e ≠ .IfExp a b c p) → (∀ a ops bs p, e ≠ .Compare a ops bs p) → PT X e (denT X.K (FOf Tb P n) m) := fun h1 h2 h3 h4 =>
    pt_plain (cE_pl h h1 h2 h3) he (isTrue_of h h1 h2 h3 h4 X.env)
  cases e with
  | UnaryOp op a pos =>
    cases op with
    | Not =>
      simp only [cE] at h
      cases ha : cE df k N sc a with
      | none => rw [ha] at h; cases h
      | some a' =>
        rw [ha] at h
        have e : E.not a' = m := by simpa using h
        subst e
        refine PT.imp (pt_not (ihT a a' ha)) fun τ H Q ⟨C, σ, st, rs, rel, q⟩ => ?_
        unfold evT at q
        exact ⟨C, σ, st, rs, rel, q⟩
    | _ => exact plain (fun _ _ q => by cases q) (fun _ _ _ q => by cases q) (fun _ _ _ _ q => by cases q) (fun _ _ _ _ q => by cases q)
  | BoolOp op es pos =>
    simp only [cE] at h
    split at h
    · rename_i m' ms h1
      cases h
      refine PT.imp (PW.pt (pwB op pos ihT es (m' :: ms) h1 (cL_ne h1))) fun τ H Q ⟨C, σ, st, rs, rel, q⟩ => ?_
      unfold evT at q
      exact ⟨C, σ, st, rs, rel, q⟩
    · cases h
  | IfExp t a b pos =>
    simp only [cE] at h
    split at h
    · rename_i c' a' b' h1 h2 h3
      cases h
      refine PT.imp (pt_ifExp (ihT t c' h1) (ihT a a' h2) (ihT b b' h3)) fun τ H Q ⟨C, σ, st, rs, rel, q⟩ => ?_
      unfold evT at q
      refine ⟨C, σ, st, rs, rel, evT_mono (callF_mono P C n) _ _ _ _ _ (fun x st1 q H1 r1 k1 => ?_) q⟩
      cases x with
      | true => rw [if_pos rfl] at q; exact iteT ⟨C, σ, st1, rs.keep rel k1, r1, evT_mono (callF_mono P C n) _ _ _ _ _ (PB.next k1) q⟩
      | false => rw [if_neg Bool.false_ne_true] at q; exact iteF ⟨C, σ, st1, rs.keep rel k1, r1, evT_mono (callF_mono P C n) _ _ _ _ _ (PB.next k1) q⟩
    · cases h
  | Compare a ops bs pos =>
    simp only [cE] at h
    split at h
    · rename_i op b
      split at h
      · cases h
      · rename_i hm
        split at h
        · rename_i a' b' h1 h2
          cases h
          refine PT.imp (pt_cmpR (opr_cmp (Tb := Tb) c.hu) (ihE a a' h1) (ihE b b' h2) (Bool.eq_false_iff.mpr hm)) fun τ H Q ⟨C, σ, st, rs, rel, q⟩ => ?_
          have q := evT_pl (m := .cmp op a' b') rfl q
          unfold evE at q
          refine two_of (Q := fun x H' => ∃ k, x = .bl k ∧ Q k H') (k := fun (C : KstT Tb) => cmpK C op) (fun _ _ _ _ _ _ hk q => cmpK_mono hk q) rs rel ?_
          refine evE_mono (callF_mono P C n) _ _ _ _ _ (fun x st1 q => ?_) q
          refine evE_mono (callF_mono P C n) _ _ _ _ _ (fun y st2 q => ?_) q
          refine cmpK_mono (fun d s q => ?_) (cmpK_bl q)
          obtain ⟨q, bb, e⟩ := q
          subst e
          intro H' v r1 k1 hv
          exact ⟨bb, rv_bl.mp hv, (show PB X.K C st H Q bb s from q) H' r1 k1⟩
        · cases h
    · rename_i op op' b c'
      split at h
      · cases h
      · rename_i hm
        have hm' : behindInMarks op b = false ∧ behindInMarks op' c' = false := by
          simpa using hm
        split at h
        · rename_i a1 b1 c1 h1 h2 h3
          cases h
          refine PT.imp (pt_chain (opr_cmp (Tb := Tb) c.hu) (opr_cmp (Tb := Tb) c.hu) (ihE a a1 h1) (ihE b b1 h2) (ihE c' c1 h3) hm'.2) fun τ H Q ⟨C, σ, st, rs, rel, q⟩ => ?_
          have q := cmp2_bl (callF_mono P C n) (evT_pl (m := .cmp2 op op' a1 b1 c1) rfl q)
          refine chain_den (Q := fun x H' => ∃ k, x = .bl k ∧ Q k H') ⟨C, σ, st, rs, rel, evE_mono (callF_mono P C n) _ _ _ _ _ (fun d s q => ?_) q⟩
          obtain ⟨q, bb, e⟩ := q
          subst e
          intro H' v r1 k1 hv
          exact ⟨bb, rv_bl.mp hv, (show PB X.K C st H Q bb s from q) H' r1 k1⟩
        · cases h
    · cases h
  | _ => exact plain (fun _ _ q => by cases q) (fun _ _ _ q => by cases q) (fun _ _ _ _ q => by cases q) (fun _ _ _ _ q => by cases q)
theorem snd_all (hdf : ∀ f, df f = true → ∃ fn, P f = some fn ∧ fn.kd ≠ 2) : ∀ k : Nat, SndE Tb P df n N k
  | 0 => fun sc fb X c => ⟨fun e m h => by simp [cE] at h, fun e m h => by simp [cE] at h⟩
  | k + 1 => fun sc fb X c => ⟨fun e m h => pe_step (snd_all hdf k) hdf c e m h, fun e m h => pt_step (snd_all hdf k) hdf c e m h⟩
end
end MP

set_option Elab.async false
set_option linter.all false
set_option maxRecDepth 100000
set_option maxHeartbeats 8000000
/-! MpO: statements. -/
namespace MP
open PySem PySem.Spec L2
variable {Tb : TabL}

/-! ### from the model's statements -/
def isComp : Expr → Bool
  | .ListComp _ _ _ _ => true
  | .SetComp _ _ _ _ => true
  | .DictComp _ _ _ _ _ => true
  | _ => false
/-- a local name: its slot -/
def nmL (N : List Str) (sc : Scope) (x : Str) : Option Nat := match sc.names.lookup x with
  | some .local => idx N x
  | _ => none
def plainSt (ts vs : List Expr) : Bool := (!(ts.length == 2 || ts.length == 3) || vs.length != ts.length) || vs.all (foldedForSure 8)
def notLoc (sc : Scope) (x : Str) : Bool := match sc.names.lookup x with
  | some .local => false
  | _ => true
/-- a target that is no local name: the stores are not exchanged -/
def offSt (sc : Scope) (ts : List Expr) : Bool := ts.any fun
  | .Name x _ => (match sc.names.lookup x with
    | some .local => false
    | _ => true)
  | _ => true
def cAsg (f : Expr → Option E) (N : List Str) (sc : Scope) (fb : Str → Bool) (tg e : Expr) : Option S :=
  match tg with
  | .Name x px => (match e with
    | .ListComp elt gens scope pos => if (nmL N sc x).isSome && (px.line == pos.line) && !(scope.names.any fun (n, k) => n == x && (k == .local || k == .cell)) then (match nmL N sc x, f (.ListComp elt gens scope pos) with
      | some i, some m => some (.asg (.nm i) m)
      | _, _ => none) else if notLoc sc x then (match cG N sc fb (.Name x px), f (.ListComp elt gens scope pos) with
      | some g, some m => some (.asg g m)
      | _, _ => none) else none
    | .DictComp kx vx gens scope pos => if !isTup kx && (nmL N sc x).isSome && (px.line == pos.line) && !(scope.names.any fun (n, k) => n == x && (k == .local || k == .cell)) then (match nmL N sc x, f (.DictComp kx vx gens scope pos) with
      | some i, some m => some (.asg (.nm i) m)
      | _, _ => none) else none
    | e => if isComp e then none else (match cG N sc fb (.Name x px), f e with
      | some g, some m => some (.asg g m)
      | _, _ => none))
  | .Tuple ts kt pt => (match e with
    | .Tuple vs k2 p2 => if plainSt ts vs || offSt sc ts then (match cG N sc fb (.Tuple ts kt pt), f (.Tuple vs k2 p2) with
        | some g, some m => some (.asg g m)
        | _, _ => none)
      else (match ts, vs with
      | [.Name x px, .Name y py], [a, b] => if (px.line == py.line) && !(x == y) && !([a, b].all (constantsAlone 8)) then (match nmL N sc x, nmL N sc y, f a, f b with
        | some i, some j, some m1, some m2 => some (.asg (.tup [.nm i, .nm j]) (.tup [m1, m2]))
        | _, _, _, _ => none) else none
      | [.Name x px, .Name y py, .Name z pz], [a, b, c] => if (px.line == py.line) && (px.line == pz.line) && !(x == y) && !(x == z) && !(y == z) && !([a, b, c].all (constantsAlone 8)) then (match nmL N sc x, nmL N sc y, nmL N sc z, f a, f b, f c with
        | some i, some j, some l, some m1, some m2, some m3 => some (.asg (.tup [.nm i, .nm j, .nm l]) (.tup [m1, m2, m3]))
        | _, _, _, _, _, _ => none) else none
      | _, _ => none)
    | e => if isComp e then none else (match cG N sc fb (.Tuple ts kt pt), f e with
      | some g, some m => some (.asg g m)
      | _, _ => none))
  | .Attribute o fl _ => if decide (fldMark fl ∈ N) && plainO o then (match f o, f e with
    | some o', some m => some (.sfl o' fl m)
    | _, _ => none) else none
  | .Subscript o i p => if isSlice i || isComp e then none else (match f o, f i, f e with
    | some o', some i', some m => some (.sub o' i' m)
    | _, _, _ => none)
  | _ => none
def cSL (f : Stmt → Option S) : List Stmt → Option (List S)
  | [] => some []
  | s :: ss => match f s, cSL f ss with
    | some m, some ms => some (m :: ms)
    | _, _ => none
/-- a def that walks the dict x bears this name -/
def dictMark (x : Str) : Str := "<dict> " ++ x
def dictFor (f : Expr → Option E) (N : List Str) (iter : Expr) : Option Nat := match iter with
  | .Name x p => if dictMark x ∈ N then (match f (.Name x p) with
    | some (.var i) => some i
    | _ => none) else none
  | _ => none
def cS (df : Str → Bool) (ke : Nat) : Nat → List Str → Scope → (Str → Bool) → Stmt → Option S
  | 0, _, _, _, _ => none
  | n + 1, N, sc, fb, s => match s with
  | .Assign tgs e pos => (match tgs with
    | [tg] => cAsg (cE df ke N sc) N sc fb tg e
    | _ => none)
  | .AugAssign tg op e pos => (match tg with
    | .Name x px => if locB fb sc x && (op = .Add ∨ op = .Sub) then (match idx N x, cE df ke N sc e with
      | some i, some m => some (.aug i op m)
      | _, _ => none) else none
    | _ => none)
  | .Expr e pos => if isComp e then none else (cE df ke N sc e).map .ex
  | .Return e pos => (match e with
    | none => some .retN
    | some e => (cE df ke N sc e).map .ret)
  | .If c a b pos => (match cE df ke N sc c, cSL (cS df ke n N sc fb) a, cSL (cS df ke n N sc fb) b with
    | some c', some a', some b' => some (.iff c' a' b')
    | _, _, _ => none)
  | .For tg iter body els pos => (match els with
    | [] => (match dictFor (cE df ke N sc) N iter with
      | some i => (match cG N sc fb tg, cSL (cS df ke n N sc fb) body with
        | some g, some b => some (.ford g i b)
        | _, _ => none)
      | none => (match cG N sc fb tg, cI (cE df ke N sc) sc tg iter, cSL (cS df ke n N sc fb) body with
        | some g, some (k, as), some b => some (.for g k as b)
        | _, _, _ => none))
    | _ => none)
  | .While c body els pos => (match els with
    | [] => (match cE df ke N sc c, cSL (cS df ke n N sc fb) body with
      | some c', some b => some (.whl c' b)
      | _, _ => none)
    | _ => none)
  | .Pass pos => some .pass
  | .Break pos => some .brk
  | .Continue pos => some .cont
  | _ => none

/-! ### what is wanted -/
def DN (K : PySem.W.Frag) (C : KstT Tb) (st : Sto) (H : Hp) (Q : L2.St → Hp → Prop) : Env → Sto → Prop := fun σ' st' => ∀ τ' H', RS K H' σ' τ' → Rel K C st' H' → Keep st H st' H' → Q τ' H'
def KtOf (K : PySem.W.Frag) (C : KstT Tb) (st : Sto) (H : Hp) (D : Ends) : Kt := ⟨DN K C st H D.nx, PQ K C st H D.rt, DN K C st H D.bk, DN K C st H D.ct⟩
def denS (K : PySem.W.Frag) (F : KstT Tb → Fs) (m : S) : TS := fun D τ H => ∃ (C : KstT Tb) (σ : Env) (st : Sto), RS K H σ τ ∧ Rel K C st H ∧ evS (F C) C m σ st (KtOf K C st H D)
def denSs (K : PySem.W.Frag) (F : KstT Tb → Fs) (ms : List S) : TS := fun D τ H => ∃ (C : KstT Tb) (σ : Env) (st : Sto), RS K H σ τ ∧ Rel K C st H ∧ evSs (F C) C ms σ st (KtOf K C st H D)
theorem PS.imp {X : Cx} {e : Stmt} {t t' : TS} (h : PS X e t) (f : ∀ D τ H, t' D τ H → t D τ H) : PS X e t' := ⟨fun pins s σ H D I q => h.run pins s σ H D I (f D σ H q)⟩
theorem PSs.imp {X : Cx} {e : List Stmt} {t t' : TS} (h : PSs X e t) (f : ∀ D τ H, t' D τ H → t D τ H) : PSs X e t' := ⟨fun pins s σ H D I q => h.run pins s σ H D I (f D σ H q)⟩
theorem PS.nox {X : Cx} {st : Stmt} {t : TS} (h : PS X.nox st t) : PS X st t := ⟨fun pins s σ H D I hw =>
  wpAny_mono (h.run pins s σ H D (I.wish _) hw) (fun _ _ q => q.unwish) fun _ _ z => False.elim z⟩
section
variable {K : PySem.W.Frag} {C : KstT Tb} {st st2 : Sto} {H H2 : Hp}
theorem DN.next {Q : L2.St → Hp → Prop} (k : Keep st H st2 H2) : ∀ d s, DN K C st H Q d s → DN K C st2 H2 Q d s := fun d s h τ' H' rs r k' => h τ' H' rs r (k.trans k')
theorem KtOf.next {D : Ends} (k : Keep st H st2 H2) : KtLe (KtOf K C st H D) (KtOf K C st2 H2 D) := ⟨DN.next k, PQ.next k, DN.next k, DN.next k⟩
end
theorem Cxt.nox {P : Str → Option Fn} {n : Nat} {N : List Str} {sc : Scope} {fb : Str → Bool} {X : Cx} (c : Cxt Tb P n N sc fb X) : Cxt Tb P n N sc fb X.nox :=
  ⟨c.calm, c.hN, c.nd, c.scE, c.kind, c.fn, c.room, c.bl, fun f fn h h2 => ⟨(c.fs f fn h h2).ex⟩, c.cls, c.fld, c.mth, c.lam⟩

/-! ### assignments -/
theorem comp_false {e : Expr} (h : isComp e = false) (t : Option Expr) (l : Nat) (env : PySem.Env) : swapsWith e t l env = pure false := by
  cases e <;> first | rfl | (simp [isComp] at h; done)
theorem swapped_plain {ts vs : List Expr} {k1 k2 : Nat} {p1 p2 : Pos} (h : plainSt ts vs = true) (env : PySem.Env) : swappedStores [.Tuple ts k1 p1] (.Tuple vs k2 p2) env = pure none := by
  unfold plainSt at h
  rw [Bool.or_eq_true] at h
  simp only [swappedStores]
  split
  · rfl
  · rename_i h1
    have hf : vs.all (foldedForSure 8) = true := by
      rcases h with h | h
      · exact absurd (by rw [h] <;> rfl) h1
      · exact h
    split
    · rfl
    · split
      · rfl
      · rfl
def isStar : Expr → Bool
  | .Starred .. => true
  | _ => false
theorem fm_lt {α β : Type} {f : α → Option β} : ∀ {ts : List α}, (ts.any fun x => (f x).isNone) = true → (ts.filterMap f).length < ts.length
  | [], h => by simp at h
  | t :: ts, h => by
    rw [List.filterMap_cons]
    cases e : f t with
    | none => exact Nat.lt_succ_of_le (List.length_filterMap_le f ts)
    | some b =>
      rw [List.any_cons, e] at h
      have h' : (ts.any fun x => (f x).isNone) = true := by simpa using h
      exact Nat.succ_lt_succ (fm_lt h')
theorem swapped_off {ts vs : List Expr} {k1 k2 : Nat} {p1 p2 : Pos} {env : PySem.Env} {sc : Scope} (hsc : env.scope = sc) (h : offSt sc ts = true) : swappedStores [.Tuple ts k1 p1] (.Tuple vs k2 p2) env = pure none := by
  simp only [swappedStores]
  split
  · rfl
  · split
    · rfl
    · split
      · rfl
      · rename_i h3
        exfalso
        rw [Bool.or_eq_true, not_or] at h3
        refine h3.1 (bne_iff_ne.mpr (Nat.ne_of_lt (fm_lt ?_)))
        unfold offSt at h
        rw [List.any_eq_true] at h ⊢
        obtain ⟨t, ht, e⟩ := h
        refine ⟨t, ht, ?_⟩
        split at e
        · rename_i x p
          have hk : (env.kindOf x == some NameKind.local) = false := by
            unfold Env.kindOf
            rw [hsc]
            split at e
            · cases e
            · rename_i hne
              exact Bool.eq_false_iff.mpr fun z => hne (eq_of_beq z)
          simp [hk]
        · rename_i hne
          cases t <;> first | rfl | (exact absurd rfl (hne _ _))
theorem cE_star {df : Str → Bool} {k : Nat} {N : List Str} {sc : Scope} {e : Expr} {m : E} (h : cE df k N sc e = some m) : isStar e = false := by
  cases e with
  | Starred a p => cases k <;> simp [cE] at h
  | _ => rfl
theorem eraseDups2 {x y : Str} (h : (x == y) = false) : ([x, y].eraseDups).length = 2 := by
  have h' : (y == x) = false := by rw [← h]; exact Bool.eq_iff_iff.mpr ⟨fun z => by rw [eq_of_beq z]; exact beq_self_eq_true _, fun z => by rw [eq_of_beq z]; exact beq_self_eq_true _⟩
  simp [List.eraseDups_cons, h']
theorem eraseDups3 {x y z : Str} (h : (x == y) = false) (h2 : (x == z) = false) (h3 : (y == z) = false) : ([x, y, z].eraseDups).length = 3 := by
  have sy : ∀ {x y : Str}, (x == y) = false → (y == x) = false := fun {x y} h => by rw [← h]; exact Bool.eq_iff_iff.mpr ⟨fun z => by rw [eq_of_beq z]; exact beq_self_eq_true _, fun z => by rw [eq_of_beq z]; exact beq_self_eq_true _⟩
  simp [List.eraseDups_cons, sy h, sy h2, sy h3]
theorem plain_all {ts vs : List Expr} (h : ¬ plainSt ts vs = true) : vs.all (foldedForSure 8) = false := by
  unfold plainSt at h
  rw [Bool.or_eq_true] at h
  exact Bool.eq_false_iff.mpr fun z => h (.inr z)
theorem tailN {names ns : List Str} {L : Nat} {vs : List Expr} (h : names = ns) (h1 : ns.length = L) (h2 : ns.eraseDups.length = ns.length) (hf : vs.all (foldedForSure 8) = false) (hc : vs.all (constantsAlone 8) = false) :
    (if (names.length != L || names.eraseDups.length != names.length) = true then (pure none : Sem (Option (List Str))) else if vs.all (foldedForSure 8) = true then pure none else if vs.all (constantsAlone 8) = true then (do let _ ← (unsupported "assign.tuple-of-constant-expressions:order-of-the-stores" : Sem Unit); pure (some names)) else pure (some names)) = pure (some ns) := by
  subst h
  subst h1
  rw [h2, hf, hc]
  simp
section
variable {x y z : Str} {px py pz : Pos} {a b c : Expr} {k1 k2 : Nat} {p1 p2 : Pos} {env : PySem.Env}
theorem swapped_two (hb : env.blockKind = .function) (hx : env.scope.names.lookup x = some .local) (hy : env.scope.names.lookup y = some .local)
    (hl : (px.line == py.line) = true) (hn : (x == y) = false) (hf : ([a, b].all (foldedForSure 8)) = false) (hc : ([a, b].all (constantsAlone 8)) = false) (ha : isStar a = false) (hs : isStar b = false) :
    swappedStores [.Tuple [.Name x px, .Name y py] k1 p1] (.Tuple [a, b] k2 p2) env = pure (some [x, y]) := by
  have kx : env.kindOf x = some .local := hx
  have ky : env.kindOf y = some .local := hy
  have hl' : py.line = px.line := (eq_of_beq hl).symm
  have e1 : ([a, b].any fun e => match e with | .Starred .. => true | _ => false) = false := by
    show (isStar a || (isStar b || false)) = false
    rw [ha, hs]; rfl
  have hd := eraseDups2 hn
  show (if _ then _ else _) = _
  rw [if_neg (by rw [hb]; simp)]
  show (if ([a, b].any fun e => match e with | .Starred .. => true | _ => false) = true then _ else _) = _
  rw [if_neg (by rw [e1]; decide)]
  exact tailN (by simp [kx, ky, hl', Expr.pos]) rfl hd hf hc
theorem swapped_three (hb : env.blockKind = .function) (hx : env.scope.names.lookup x = some .local) (hy : env.scope.names.lookup y = some .local) (hz : env.scope.names.lookup z = some .local)
    (hl : (px.line == py.line) = true) (hl2 : (px.line == pz.line) = true) (hn : (x == y) = false) (hn2 : (x == z) = false) (hn3 : (y == z) = false) (hf : ([a, b, c].all (foldedForSure 8)) = false) (hc : ([a, b, c].all (constantsAlone 8)) = false) (ha : isStar a = false) (hs : isStar b = false) (hs3 : isStar c = false) :
    swappedStores [.Tuple [.Name x px, .Name y py, .Name z pz] k1 p1] (.Tuple [a, b, c] k2 p2) env = pure (some [x, y, z]) := by
  have kx : env.kindOf x = some .local := hx
  have ky : env.kindOf y = some .local := hy
  have kz : env.kindOf z = some .local := hz
  have hl' : py.line = px.line := (eq_of_beq hl).symm
  have hl2' : pz.line = px.line := (eq_of_beq hl2).symm
  have e1 : ([a, b, c].any fun e => match e with | .Starred .. => true | _ => false) = false := by
    show (isStar a || (isStar b || (isStar c || false))) = false
    rw [ha, hs, hs3]; rfl
  have hd := eraseDups3 hn hn2 hn3
  show (if _ then _ else _) = _
  rw [if_neg (by rw [hb]; simp)]
  show (if ([a, b, c].any fun e => match e with | .Starred .. => true | _ => false) = true then _ else _) = _
  rw [if_neg (by rw [e1]; decide)]
  exact tailN (by simp [kx, ky, kz, hl', hl2', Expr.pos]) rfl hd hf hc
end
end MP

set_option Elab.async false
set_option linter.all false
set_option maxRecDepth 100000
set_option maxHeartbeats 8000000
/-! MpP: statements: the theorem. -/
namespace MP
open PySem PySem.Spec L2
variable {Tb : TabL}

section
variable {P : Str → Option Fn} {df : Str → Bool} {n : Nat} {N : List Str} {sc : Scope} {fb : Str → Bool} {X : Cx}
theorem asg_den {K : PySem.W.Frag} {g : G} {m : E} {D : Ends} {τ : L2.St} {H : Hp} (h : denS K (FOf Tb P n) (.asg g m) D τ H) : tAsg (denE K (FOf Tb P n) m) (gD Tb K g) D τ H := by
  obtain ⟨C, σ, st, rs, rel, q⟩ := h
  unfold evS at q
  refine ⟨C, σ, st, rs, rel, evE_mono (callF_mono P C n) _ _ _ _ _ (fun d st1 q H1 v r1 k1 hv => ?_) q⟩
  split at q
  · rename_i σ' hb
    exact ⟨C, σ, st1, d, σ', rs.keep rel k1, r1, hv, hb, fun τ' r2 _ _ => q τ' H1 r2 r1 k1⟩
  · exact q.elim
theorem nmL_get {x : Str} {i : Nat} (c : Cxt Tb P n N sc fb X) (h : nmL N sc x = some i) : X.N[i]? = some x ∧ X.env.scope.names.lookup x = some .local := by
  unfold nmL at h
  rw [c.scE]
  split at h
  · exact ⟨c.get h, by assumption⟩
  · cases h
theorem Cxt.bk (c : Cxt Tb P n N sc fb X) : X.env.blockKind = .function := by
  unfold Env.blockKind
  rw [c.scE, c.kind]
  rfl
theorem asg_ok (c : Cxt Tb P n N sc fb X) {tg e : Expr} {g : G} {m : E} {pos : Pos} (hg : cG N sc fb tg = some g) (he : PE X e (denE X.K (FOf Tb P n) m)) (hs : swapsWithSole [tg] e pos.line X.env = pure false) (hw : swappedStores [tg] e X.env = pure none) : PS X (.Assign [tg] e pos) (denS X.K (FOf Tb P n) (.asg g m)) :=
  PS.imp (ps_asg he (pg_of c tg g hg) hs hw (by rw [tstar hg [] X.env] <;> rfl)) fun D τ H q => asg_den q
theorem lc_ok {ke : Nat} (hdf : ∀ f, df f = true → ∃ fn, P f = some fn ∧ fn.kd ≠ 2) (c : Cxt Tb P n N sc fb X) {x : Str} {px pos spos : Pos} {elt : Expr} {gens : List Comprehension} {scope : Scope} {i : Nat} {m : E} (h : cE df ke N sc (.ListComp elt gens scope pos) = some m)
    (hl : (px.line == pos.line) = true) (hsc : (scope.names.any fun (n, k) => n == x && (k == .local || k == .cell)) = false) (n1 : X.N[i]? = some x) (n2 : X.env.scope.names.lookup x = some .local) :
    PS X (.Assign [.Name x px] (.ListComp elt gens scope pos) spos) (denS X.K (FOf Tb P n) (.asg (.nm i) m)) := by
  cases ke with
  | zero => simp [cE] at h
  | succ k =>
    have ih := snd_all (Tb := Tb) (df := df) (P := P) (n := n) (N := N) hdf k
    obtain ⟨ihE, ihT⟩ := ih sc fb X c
    simp only [cE] at h
    split at h
    · rename_i tg iter ifs z
      split at h
      · rename_i hc
        obtain ⟨hz, hb, hl'⟩ := hc
        subst hz
        split at h
        · rename_i g ifs' elt' h1 h2 h3
          split at h
          · rename_i hs
            cases hI : cI (cE df k N sc) sc tg iter with
            | none => rw [hI] at h; simp at h
            | some ka =>
              rw [hI] at h
              have e : E.lc elt' g ka.1 ka.2 ifs' ((ownOf N scope).map (·.2)) = m := by simpa using h
              subst e
              have bo := blkOk_by hb
              have bo' : BlkOk X.N X.env.scope scope (ownOf N scope) := by rw [c.hN, c.scE]; exact bo
              have cb := fun (s : Shared) (H : Hp) (C : Addr) (cl : List (Str × Addr)) (fp : List Addr) => c.blk bo.kind s H C cl fp
              have hs' : ∀ i ∈ slotsG g, i ∈ (ownOf N scope).map (·.2) := fun i hi => by
                have := List.all_eq_true.mp hs i hi
                obtain ⟨p, hp, e⟩ := List.any_eq_true.mp this
                exact List.mem_map.mpr ⟨p, hp, by simpa using e⟩
              refine PS.imp (ps_setLc (g := gD Tb X.K g) (tt := denTs X.K (FOf Tb P n) ifs') (te := denE X.K (FOf Tb P n) elt') c.calm (by rw [c.hN]; exact c.nd) n1 n2
                (sw_true (by rw [c.scE]; exact c.kind) n2 hl hsc) (pi_of c ihE hI) bo'
                (fun s H C cl fp => pg_of (cb s H C cl fp) tg g h1) (fun s H C cl fp => pts_of (fun e m hm => (ih _ _ _ (cb s H C cl fp)).2 e m hm) h2 hl') (fun s H C cl fp => (ih _ _ _ (cb s H C cl fp)).1 elt elt' h3) (fold_of hI X.env)) fun D τ H ⟨C, σ, st, rs, rel, q⟩ => ?_
              refine lc_den hs' ?_
              unfold evS at q
              refine ⟨C, σ, st, rs, rel, evE_mono (callF_mono P C n) _ _ _ _ _ (fun d st1 q H1 v r1 k1 hv => ?_) q⟩
              simp only [bindG] at q
              exact q _ H1 ((rs.keep rel k1).set hv) r1 k1
          · cases h
        · cases h
      · cases h
    · cases h
theorem dc_ok {ke : Nat} (hdf : ∀ f, df f = true → ∃ fn, P f = some fn ∧ fn.kd ≠ 2) (c : Cxt Tb P n N sc fb X) {x : Str} {px pos spos : Pos} {kx vx : Expr} {gens : List Comprehension} {scope : Scope} {i : Nat} {m : E} (h : cE df ke N sc (.DictComp kx vx gens scope pos) = some m) (htp : isTup kx = false)
    (hl : (px.line == pos.line) = true) (hsc : (scope.names.any fun (n, k) => n == x && (k == .local || k == .cell)) = false) (n1 : X.N[i]? = some x) (n2 : X.env.scope.names.lookup x = some .local) :
    PS X (.Assign [.Name x px] (.DictComp kx vx gens scope pos) spos) (denS X.K (FOf Tb P n) (.asg (.nm i) m)) := by
  cases ke with
  | zero => simp [cE] at h
  | succ k =>
    have ih := snd_all (Tb := Tb) (df := df) (P := P) (n := n) (N := N) hdf k
    obtain ⟨ihE, ihT⟩ := ih sc fb X c
    simp only [cE] at h
    split at h
    · rename_i tg iter ifs z
      split at h
      · rename_i hc
        obtain ⟨hz, hb, hl'⟩ := hc
        subst hz
        split at h
        · rename_i g ifs' kx' vx' h1 h2 h3 h4
          split at h
          · rename_i hs
            cases hI : cI (cE df k N sc) sc tg iter with
            | none => rw [hI] at h; simp at h
            | some ka =>
              rw [hI] at h
              have e : E.dc kx' vx' g ka.1 ka.2 ifs' ((ownOf N scope).map (·.2)) = m := by simpa [htp] using h
              subst e
              have bo := blkOk_by hb
              have bo' : BlkOk X.N X.env.scope scope (ownOf N scope) := by rw [c.hN, c.scE]; exact bo
              have cb := fun (s : Shared) (H : Hp) (C : Addr) (cl : List (Str × Addr)) (fp : List Addr) => c.blk bo.kind s H C cl fp
              have hs' : ∀ i ∈ slotsG g, i ∈ (ownOf N scope).map (·.2) := fun i hi => by
                have := List.all_eq_true.mp hs i hi
                obtain ⟨p, hp, e⟩ := List.any_eq_true.mp this
                exact List.mem_map.mpr ⟨p, hp, by simpa using e⟩
              refine PS.imp (ps_setDc (g := gD Tb X.K g) (tt := denTs X.K (FOf Tb P n) ifs') (tk := denE X.K (FOf Tb P n) kx') (tv := denE X.K (FOf Tb P n) vx') c.calm (by rw [c.hN]; exact c.nd) n1 n2
                (sw_trueD (by rw [c.scE]; exact c.kind) n2 hl hsc) (pi_of c ihE hI) bo'
                (fun s H C cl fp => pg_of (cb s H C cl fp) tg g h1) (fun s H C cl fp => pts_of (fun e m hm => (ih _ _ _ (cb s H C cl fp)).2 e m hm) h2 hl') (fun s H C cl fp => (ih _ _ _ (cb s H C cl fp)).1 kx kx' h3) (fun s H C cl fp => (ih _ _ _ (cb s H C cl fp)).1 vx vx' h4) (fold_of hI X.env)) fun D τ H ⟨C, σ, st, rs, rel, q⟩ => ?_
              refine dc_den hs' ?_
              unfold evS at q
              refine ⟨C, σ, st, rs, rel, evE_mono (callF_mono P C n) _ _ _ _ _ (fun d st1 q H1 v r1 k1 hv => ?_) q⟩
              simp only [bindG] at q
              exact q _ H1 ((rs.keep rel k1).set hv) r1 k1
          · cases h
        · cases h
      · cases h
    · cases h
theorem swaps_attr (value o : Expr) (fl : Str) (p : Pos) (l : Nat) (env : PySem.Env) : swapsWith value (some (.Attribute o fl p)) l env = pure false := by
  unfold swapsWith
  split
  · rfl
  · rfl
theorem cAsg_ok {ke : Nat} (hdf : ∀ f, df f = true → ∃ fn, P f = some fn ∧ fn.kd ≠ 2) (c : Cxt Tb P n N sc fb X) (tg e : Expr) (pos : Pos) (m : S) (h : cAsg (cE df ke N sc) N sc fb tg e = some m) : PS X (.Assign [tg] e pos) (denS X.K (FOf Tb P n) m) := by
  obtain ⟨ihE, ihT⟩ := snd_all (Tb := Tb) (df := df) (P := P) (n := n) (N := N) hdf ke sc fb X c
  unfold cAsg at h
  split at h
  · rename_i x px
    split at h
    · rename_i elt gens scope p2
      split at h
      · rename_i hc
        simp only [Bool.and_eq_true, Bool.not_eq_true'] at hc
        obtain ⟨⟨_, hl⟩, hsc⟩ := hc
        split at h
        · rename_i i m' hi hm
          cases h
          obtain ⟨n1, n2⟩ := nmL_get c hi
          exact lc_ok hdf c hm hl hsc n1 n2
        · cases h
      · split at h
        · rename_i hx
          split at h
          · rename_i g m' hg hm
            cases h
            refine asg_ok c hg (ihE _ m' hm) ?_ rfl
            have hk : (X.env.kindOf x == some NameKind.local) = false := by
              unfold Env.kindOf
              rw [c.scE]
              unfold notLoc at hx
              split at hx
              · cases hx
              · rename_i hne
                exact Bool.eq_false_iff.mpr fun z => hne (eq_of_beq z)
            show swapsWith (.ListComp elt gens scope p2) (some (.Name x px)) pos.line X.env = pure false
            show pure (X.env.blockKind == .function && X.env.kindOf x == some .local && px.line == p2.line && !(scope.names.any fun (n, k) => n == x && (k == .local || k == .cell))) = pure false
            rw [hk, Bool.and_false] <;> rfl
          · cases h
        · cases h
    · rename_i kx vx gens scope p2
      split at h
      · rename_i hc
        simp only [Bool.and_eq_true, Bool.not_eq_true'] at hc
        obtain ⟨⟨⟨htp, _⟩, hl⟩, hsc⟩ := hc
        split at h
        · rename_i i m' hi hm
          cases h
          obtain ⟨n1, n2⟩ := nmL_get c hi
          exact dc_ok hdf c hm htp hl hsc n1 n2
        · cases h
      · cases h
    · split at h
      · cases h
      · rename_i hc
        have hc' : isComp e = false := Bool.eq_false_iff.mpr hc
        split at h
        · rename_i g m' hg hm
          cases h
          exact asg_ok c hg (ihE e m' hm) (by unfold swapsWithSole; exact comp_false hc' _ _ _) rfl
        · cases h
  · rename_i ts kt pt
    split at h
    · rename_i vs k2 p2
      split at h
      · rename_i hp
        split at h
        · rename_i g m' hg hm
          cases h
          rw [Bool.or_eq_true] at hp
          exact asg_ok c hg (ihE _ m' hm) rfl (hp.elim (fun hp => swapped_plain hp _) fun hp => swapped_off c.scE hp)
        · cases h
      · rename_i hp
        have hf := plain_all fun z => hp (by rw [z] <;> rfl)
        split at h
        · rename_i x px y py a b
          split at h
          · rename_i hc
            simp only [Bool.and_eq_true, Bool.not_eq_true'] at hc
            obtain ⟨⟨h1, h2⟩, h3⟩ := hc
            split at h
            · rename_i i j m1 m2 hi hj ha hb
              cases h
              obtain ⟨i1, i2⟩ := nmL_get c hi
              obtain ⟨j1, j2⟩ := nmL_get c hj
              have hij : i ≠ j := fun e => by
                subst e
                rw [i1] at j1
                have := Option.some.inj j1
                subst this
                rw [beq_self_eq_true] at h2
                cases h2
              have hpa : PA X [a, b] (denEs X.K (FOf Tb P n) [m1, m2]) := pa_of ihE _ _ (by simp [cL, ha, hb])
              refine PS.imp (ps_par c.calm (by rw [c.hN]; exact c.nd) i1 j1 hij i2 j2 hpa (swapped_two c.bk i2 j2 h1 h2 hf h3 (cE_star ha) (cE_star hb)) rfl) fun D τ H ⟨C, σ, st, rs, rel, q⟩ => ?_
              unfold evS at q
              unfold evE at q
              refine ⟨C, σ, st, rs, rel, evEs_mono (callF_mono P C n) _ _ _ _ _ (fun ds st1 ⟨hlen, q⟩ H1 vs r1 k1 hv => ?_) (evEs_len (callF_mono P C n) q)⟩
              match ds, hlen, hv, q with
              | [d1, d2], _, hv, q =>
                obtain ⟨v, w, rfl, hv1, hv2⟩ := hv.two
                refine ⟨v, w, rfl, ?_⟩
                simp only [bindG, bindGs] at q
                exact q _ H1 (((rs.keep rel k1).set hv1).set hv2) r1 k1
            · cases h
          · cases h
        · rename_i x px y py z pz a b d
          split at h
          · rename_i hc
            simp only [Bool.and_eq_true, Bool.not_eq_true'] at hc
            obtain ⟨⟨⟨⟨⟨h1, h1'⟩, h2⟩, h2'⟩, h2''⟩, h3⟩ := hc
            split at h
            · rename_i i j l m1 m2 m3 hi hj hl ha hb hd
              cases h
              obtain ⟨i1, i2⟩ := nmL_get c hi
              obtain ⟨j1, j2⟩ := nmL_get c hj
              obtain ⟨l1, l2⟩ := nmL_get c hl
              have ne : ∀ {x y : Str} {i j : Nat}, X.N[i]? = some x → X.N[j]? = some y → (x == y) = false → i ≠ j := fun {x y i j} i1 j1 h2 e => by
                subst e
                rw [i1] at j1
                have := Option.some.inj j1
                subst this
                rw [beq_self_eq_true] at h2
                cases h2
              have hpa : PA X [a, b, d] (denEs X.K (FOf Tb P n) [m1, m2, m3]) := pa_of ihE _ _ (by simp [cL, ha, hb, hd])
              refine PS.imp (ps_par3 c.calm (by rw [c.hN]; exact c.nd) i1 j1 l1 (ne i1 j1 h2) (ne i1 l1 h2') (ne j1 l1 h2'') i2 j2 l2 hpa (swapped_three c.bk i2 j2 l2 h1 h1' h2 h2' h2'' hf h3 (cE_star ha) (cE_star hb) (cE_star hd)) rfl) fun D τ H ⟨C, σ, st, rs, rel, q⟩ => ?_
              unfold evS at q
              unfold evE at q
              refine ⟨C, σ, st, rs, rel, evEs_mono (callF_mono P C n) _ _ _ _ _ (fun ds st1 ⟨hlen, q⟩ H1 vs r1 k1 hv => ?_) (evEs_len (callF_mono P C n) q)⟩
              match ds, hlen, hv, q with
              | [d1, d2, d3], _, hv, q =>
                obtain ⟨u, vs', rfl, hv1, hv'⟩ := hv.cons_inv
                obtain ⟨v, w, rfl, hv2, hv3⟩ := hv'.two
                refine ⟨u, v, w, rfl, ?_⟩
                simp only [bindG, bindGs] at q
                exact q _ H1 ((((rs.keep rel k1).set hv1).set hv2).set hv3) r1 k1
            · cases h
          · cases h
        · cases h
    · rename_i e' hne
      split at h
      · cases h
      · rename_i hc
        split at h
        · rename_i g m' hg hm
          cases h
          refine asg_ok c hg (ihE _ m' hm) (by cases e <;> first | rfl | (exfalso; exact hc rfl)) (by cases e <;> first | rfl | (exfalso; exact hne _ _ _ rfl))
        · cases h
  · rename_i o fl p
    split at h
    · rename_i hc
      simp only [Bool.and_eq_true, decide_eq_true_eq] at hc
      split at h
      · rename_i o' m' ho he
        cases h
        refine PS.imp (ps_fld (ihE o o' ho) (ihE e m' he) (swaps_attr _ _ _ _ _ _)) fun D τ H ⟨C, σ, st, rs, rel, q⟩ => ?_
        unfold evS at q
        refine ⟨C, σ, st, rs, rel, evE_mono (callF_mono P C n) _ _ _ _ _ (fun dv st1 q H1 v r1 k1 hv => ?_) q⟩
        refine ⟨C, σ, st1, rs.keep rel k1, r1, evE_mono (callF_mono P C n) _ _ _ _ _ (fun dO st2 q H2 vo r2 k2 hO => ?_) q⟩
        split at q
        · split at q
          · rename_i cn fs ea
            obtain ⟨hz, q⟩ := q
            obtain ⟨pc, dx, vs, hH, hcl, hk⟩ := r2.ob _ _ ea
            refine ⟨_, pc, dx, vs, rv_ref.mp hO, hH, c.cls _ hcl, c.fld fl hc.1 _ hcl, by rw [hk.length]; exact hz, ?_⟩
            have kw : Keep st2 H2 (put st2 _ (.ins cn (putFD fl dv fs))) (upd H2 _ (.ins pc dx (putF fl v vs))) := Keep.write (by rw [ea]; exact fun q => nomatch q)
            have hv2 := RV.keep r1 k2 _ _ hv
            have k02 := k1.trans k2
            exact q τ _ (RS.keep rel (k02.trans kw) rs) (r2.put ea fun H' t e => ⟨pc, dx, _, e, hcl, RKV.tk t _ _ (hk.putS hv2)⟩) (k02.trans kw)
          · exact q.elim
        · exact q.elim
      · cases h
    · cases h
  · rename_i o i p
    split at h
    · cases h
    · rename_i hc
      rw [Bool.or_eq_true, not_or] at hc
      obtain ⟨hc1, hc2⟩ := hc
      split at h
      · rename_i o' i' m' ho hi he
        cases h
        refine PS.imp (ps_asg (ihE e m' he) (pg_sub (ihE o o' ho) (ihE i i' hi) (pset (Tb := Tb) (by have := c.hu; omega)) (by cases i <;> first | (intro _; rfl) | (exfalso; exact hc1 rfl))) (by unfold swapsWithSole; exact comp_false (Bool.eq_false_iff.mpr hc2) _ _ _) (by cases e <;> rfl) rfl) fun D τ H ⟨C, σ, st, rs, rel, q⟩ => ?_
        unfold evS at q
        refine ⟨C, σ, st, rs, rel, evE_mono (callF_mono P C n) _ _ _ _ _ (fun dv st1 q H1 v r1 k1 hv => ?_) q⟩
        refine ⟨C, σ, st1, rs.keep rel k1, r1, evE_mono (callF_mono P C n) _ _ _ _ _ (fun dO st2 q H2 vo r2 k2 ho => ?_) q⟩
        refine ⟨C, σ, st2, RS.keep r1 k2 (rs.keep rel k1), r2, evE_mono (callF_mono P C n) _ _ _ _ _ (fun dI st3 q H3 vi r3 k3 hi => ?_) q⟩
        have k13 := k2.trans k3
        have k03 := k1.trans k13
        refine ⟨C, st3, dO, dI, dv, r3, RV.keep r2 k3 _ _ ho, hi, RV.keep r1 k13 _ _ hv, ?_⟩
        refine setK_mono (fun st4 q H4 r4 k4 => ?_) q
        exact q τ H4 (RS.keep rel (k03.trans k4) rs) r4 (k03.trans k4)
      · cases h
  · cases h
end
end MP

set_option Elab.async false
set_option linter.all false
set_option maxRecDepth 100000
set_option maxHeartbeats 8000000
/-! MpQ: statements: the theorem, end. -/
namespace MP
open PySem PySem.Spec L2
variable {Tb : TabL}

section
variable {P : Str → Option Fn} {df : Str → Bool} {n : Nat} {N : List Str} {sc : Scope} {fb : Str → Bool} {X : Cx} {ke k : Nat}
theorem cSL_ok (ih : ∀ s m, cS df ke k N sc fb s = some m → PS X s (denS X.K (FOf Tb P n) m)) : ∀ (ss : List Stmt) (ms : List S), cSL (cS df ke k N sc fb) ss = some ms → PSs X ss (denSs X.K (FOf Tb P n) ms)
  | [], ms, h => by
    have e : [] = ms := by simpa [cSL] using h
    subst e
    refine PSs.imp pss_nil fun D τ H ⟨C, σ, st, rs, rel, q⟩ => ?_
    unfold evSs at q
    exact q τ H rs rel Keep.refl
  | s :: ss, ms, h => by
    unfold cSL at h
    split at h
    · rename_i m ms' h1 h2
      cases h
      refine PSs.imp (pss_cons (ih s m h1) (cSL_ok ih ss ms' h2)) fun D τ H ⟨C, σ, st, rs, rel, q⟩ => ?_
      unfold evSs at q
      refine ⟨C, σ, st, rs, rel, evS_mono (callF_mono P C n) _ _ _ _ _ ?_ q⟩
      refine ⟨fun σ' st' q τ' H' rs' rel' k' => ?_, fun _ _ q => q, fun _ _ q => q, fun _ _ q => q⟩
      exact ⟨C, σ', st', rs', rel', evSs_mono (callF_mono P C n) _ _ _ _ _ (KtOf.next k') q⟩
    · cases h
theorem if_den {K : PySem.W.Frag} {c : E} {a b : List S} {D : Ends} {τ : L2.St} {H : Hp} (h : denS K (FOf Tb P n) (.iff c a b) D τ H) : tIfS (denT K (FOf Tb P n) c) (denSs K (FOf Tb P n) a) (denSs K (FOf Tb P n) b) D τ H := by
  obtain ⟨C, σ, st, rs, rel, q⟩ := h
  unfold evS at q
  refine ⟨C, σ, st, rs, rel, evT_mono (callF_mono P C n) _ _ _ _ _ (fun t st1 q H1 r1 k1 => ?_) q⟩
  cases t with
  | true => rw [if_pos rfl] at q; exact iteT ⟨C, σ, st1, rs.keep rel k1, r1, evSs_mono (callF_mono P C n) _ _ _ _ _ (KtOf.next k1) q⟩
  | false => rw [if_neg Bool.false_ne_true] at q; exact iteF ⟨C, σ, st1, rs.keep rel k1, r1, evSs_mono (callF_mono P C n) _ _ _ _ _ (KtOf.next k1) q⟩
theorem whl_den {K : PySem.W.Frag} {c : E} {b : List S} {D : Ends} {τ : L2.St} {H : Hp} (h : denS K (FOf Tb P n) (.whl c b) D τ H) : tWhile (denT K (FOf Tb P n) c) (denSs K (FOf Tb P n) b) D τ H := by
  obtain ⟨C, σ, st, rs, rel, q⟩ := h
  unfold evS at q
  obtain ⟨m0, q⟩ := q
  refine ⟨fun m τ' H' => ∃ σ' st', RS K H' σ' τ' ∧ Rel K C st' H' ∧ Keep st H st' H' ∧
    whlK (fun σ1 st1 R => evT (callF P C n) C c σ1 st1 R) (fun σ1 st1 R => evSs (callF P C n) C b σ1 st1 { nx := R, rt := (KtOf K C st H D).rt, bk := (KtOf K C st H D).nx, ct := R }) (KtOf K C st H D).nx m σ' st', ⟨m0, σ, st, rs, rel, Keep.refl, q⟩, ?_⟩
  rintro m τ1 H1 ⟨σ1, st1, rs1, r1, k1, q⟩
  cases m with
  | zero => exact q.elim
  | succ m =>
    unfold whlK at q
    refine ⟨C, σ1, st1, rs1, r1, evT_mono (callF_mono P C n) _ _ _ _ _ (fun t st2 q H2 r2 k2 => ?_) q⟩
    have rs2 := RS.keep r1 k2 rs1
    cases t with
    | true =>
      rw [if_pos rfl] at q
      refine iteT ⟨fun τ' H' => ∃ σ' st', RS K H' σ' τ' ∧ Rel K C st' H' ∧ Keep st H st' H' ∧
        whlK (fun σ1 st1 R => evT (callF P C n) C c σ1 st1 R) (fun σ1 st1 R => evSs (callF P C n) C b σ1 st1 { nx := R, rt := (KtOf K C st H D).rt, bk := (KtOf K C st H D).nx, ct := R }) (KtOf K C st H D).nx m σ' st', fun σ' H' q => ⟨m, Nat.lt_succ_self m, q⟩, ?_⟩
      have kk := k1.trans k2
      have nxt : ∀ (σ3 : Env) (st3 : Sto), (∃ st4, Sub st4 st3 ∧ whlK (fun σ1 st1 R => evT (callF P C n) C c σ1 st1 R) (fun σ1 st1 R => evSs (callF P C n) C b σ1 st1 { nx := R, rt := (KtOf K C st H D).rt, bk := (KtOf K C st H D).nx, ct := R }) (KtOf K C st H D).nx m σ3 st4) →
          DN K C st2 H2 (fun τ' H' => ∃ σ' st', RS K H' σ' τ' ∧ Rel K C st' H' ∧ Keep st H st' H' ∧
        whlK (fun σ1 st1 R => evT (callF P C n) C c σ1 st1 R) (fun σ1 st1 R => evSs (callF P C n) C b σ1 st1 { nx := R, rt := (KtOf K C st H D).rt, bk := (KtOf K C st H D).nx, ct := R }) (KtOf K C st H D).nx m σ' st') σ3 st3 := by
        rintro σ3 st3 ⟨st4, hsub, q⟩ τ' H' rs' rel' k'
        exact ⟨σ3, st4, rs', rel'.sub hsub, (kk.trans k').sub hsub, q⟩
      refine ⟨C, σ1, st2, rs2, r2, evSs_mono (callF_mono P C n) _ _ _ _ _ ?_ q⟩
      exact ⟨nxt, PQ.next kk, DN.next kk, nxt⟩
    | false =>
      rw [if_neg Bool.false_ne_true] at q
      refine iteF ?_
      exact q τ1 H2 rs2 r2 (k1.trans k2)
theorem for_den {K : PySem.W.Frag} {g : G} {kd : IK} {as : List E} {b : List S} {D : Ends} {τ : L2.St} {H : Hp} (h : denS K (FOf Tb P n) (.for g kd as b) D τ H) : tFor (denI K (FOf Tb P n) kd as) (gD Tb K g) (denSs K (FOf Tb P n) b) D τ H := by
  obtain ⟨C, σ, st, rs, rel, q⟩ := h
  unfold evS at q
  refine ⟨C, σ, st, rs, rel, evEs_mono (callF_mono P C n) _ _ _ _ _ (fun vs st1 q => itK_mono (fun xs ok q H1 J r1 k1 w => ?_) q) q⟩
  -- the turns that are left
  let step : MP.D → Env → Sto → (Env → Sto → Prop) → Prop := fun x σ1 st2 R => match bindG g x σ1 with
        | some σ2 => evSs (callF P C n) C b σ2 st2 { nx := R, rt := (KtOf K C st H D).rt, bk := (KtOf K C st H D).nx, ct := R }
        | none => False
  refine ⟨fun i m τ' H' => m = xs.length - i ∧ i ≤ xs.length ∧ ∃ σ' st', RS K H' σ' τ' ∧ Rel K C st' H' ∧ Keep st1 H1 st' H' ∧
    forK ok step (KtOf K C st H D).nx (xs.drop i) σ' st', ⟨xs.length, by simp, Nat.zero_le _, σ, st1, rs.keep rel k1, r1, Keep.refl, q⟩, ?_⟩
  rintro i m τ2 H2 ⟨rfl, hi, σ2, st2, rs2, r2, k12, hl⟩
  have k02 := k1.trans k12
  by_cases hlt : i < xs.length
  · rw [List.drop_eq_getElem_cons hlt] at hl
    obtain ⟨hok, hl⟩ := hl
    refine .inr ⟨w.go i st2 H2 hlt k12 r2 hok, fun τ' H' => i + 1 ≤ xs.length ∧ ∃ σ' st', RS K H' σ' τ' ∧ Rel K C st' H' ∧ Keep st1 H1 st' H' ∧
      forK ok step (KtOf K C st H D).nx (xs.drop (i + 1)) σ' st', ?_, ?_⟩
    · rintro σ' H' rest
      exact ⟨xs.length - (i + 1), by omega, rfl, rest⟩
    · intro x H3 hy
      obtain ⟨d, hd, r3, k3, hv⟩ := w.yld i st2 H2 x H3 hlt k12 r2 hok hy
      have hd' : xs[i] = d := by
        rw [List.getElem?_eq_getElem hlt] at hd
        exact Option.some.inj hd
      rw [hd'] at hl
      have rs3 := RS.keep r2 k3 rs2
      replace hl : (match bindG g d σ2 with
        | some σ2 => evSs (callF P C n) C b σ2 st2 { nx := fun σ' st' => ∃ st1, Sub st1 st' ∧ forK ok step (KtOf K C st H D).nx (xs.drop (i + 1)) σ' st1, rt := (KtOf K C st H D).rt, bk := (KtOf K C st H D).nx, ct := fun σ' st' => ∃ st1, Sub st1 st' ∧ forK ok step (KtOf K C st H D).nx (xs.drop (i + 1)) σ' st1 }
        | none => False) := hl
      split at hl
      · rename_i σ3 hb
        refine ⟨C, σ2, st2, d, σ3, rs3, r3, hv, hb, fun τ' rs4 _ _ => ?_⟩
        have k13 := k12.trans k3
        have k03 := k1.trans k13
        have nxt : ∀ (σ5 : Env) (st5 : Sto), (∃ st6, Sub st6 st5 ∧ forK ok step (KtOf K C st H D).nx (xs.drop (i + 1)) σ5 st6) →
          DN K C st2 H3 (fun τ' H' => i + 1 ≤ xs.length ∧ ∃ σ' st', RS K H' σ' τ' ∧ Rel K C st' H' ∧ Keep st1 H1 st' H' ∧ forK ok step (KtOf K C st H D).nx (xs.drop (i + 1)) σ' st') σ5 st5 := by
          rintro σ5 st5 ⟨st6, hsub, q⟩ τ' H' rs' rel' k'
          exact ⟨by omega, σ5, st6, rs', rel'.sub hsub, (k13.trans k').sub hsub, q⟩
        refine ⟨C, σ3, st2, rs4, r3, evSs_mono (callF_mono P C n) _ _ _ _ _ ?_ hl⟩
        exact ⟨nxt, PQ.next k03, DN.next k03, nxt⟩
      · exact hl.elim
  · have e : i = xs.length := by omega
    subst e
    rw [List.drop_length] at hl
    obtain ⟨hok, hl⟩ := hl
    exact .inl ⟨w.stop st2 H2 k12 r2 hok, hl τ2 H2 rs2 r2 k02⟩
/-- a walk over a dict's keys, the dict locked -/
theorem ford_den {K : PySem.W.Frag} {g : G} {i : Nat} {b : List S} {D : Ends} {τ : L2.St} {H : Hp} (h : denS K (FOf Tb P n) (.ford g i b) D τ H) : tLock (tFor (iKeys (denE K (FOf Tb P n) (.var i))) (gD Tb K g) (denSs K (FOf Tb P n) b)) D τ H := by
  obtain ⟨C, σ, st, rs, rel, q⟩ := h
  unfold evS at q
  split at q
  · rename_i a hi
    split at q
    · rename_i kvs ea
      obtain ⟨vs, ha, hk, hz⟩ := rel.ob a _ ea
      refine ⟨a, .dK vs, ha, trivial, fun od => ?_⟩
      replace q := q (.frz od (.dK vs))
      have r1 := rel.lock (od := od) ea hk hz
      have k1 : Keep st H (put st a (.lck (.frz od (.dK vs)) kvs)) (upd H a (.frz od (.dK vs))) := Keep.write (by rw [ea]; exact fun q => nomatch q)
      generalize hst1 : put st a (.lck (.frz od (.dK vs)) kvs) = st1 at *
      generalize upd H a (.frz od (.dK vs)) = H1 at *
      have e1 : st1 a = some (.lck (.frz od (.dK vs)) kvs) := by rw [← hst1, put_same]
      refine ⟨C, σ, st1, rs.keep rel k1, r1, ?_⟩
      unfold evE
      rw [hi]
      intro H2 v r2 k2 hv
      refine ⟨a, od, rv_ref.mp hv, .inl ⟨vs, ?_, ?_⟩⟩
      · obtain ⟨od', vs', h1, h0, _⟩ := r2.ob a _ e1
        cases h0
        exact h1
      have rs2 : RS K H2 σ τ := RS.keep r1 k2 (rs.keep rel k1)
      let step : MP.D → Env → Sto → (Env → Sto → Prop) → Prop := fun x σ1 st2 R => match bindG g x σ1 with
          | some σ2 => evSs (callF P C n) C b σ2 st2 { nx := R, rt := fun d st' => st' a = some (.lck (.frz od (.dK vs)) kvs) ∧ (KtOf K C st H D).rt d (put st' a (.dct kvs)), bk := fun σ' st' => st' a = some (.lck (.frz od (.dK vs)) kvs) ∧ (KtOf K C st H D).nx σ' (put st' a (.dct kvs)), ct := R }
          | none => False
      let ok : Sto → Prop := fun st' => st' a = some (.lck (.frz od (.dK vs)) kvs)
      let fin : Env → Sto → Prop := fun σ' st' => (KtOf K C st H D).nx σ' (put st' a (.dct kvs))
      have w : WalkD K C st1 H1 (Itk a od vs) (kvs.map fun kv => keyD kv.1) ok := walkD_keys
      generalize hxs : (kvs.map fun kv => keyD kv.1) = xs at *
      -- the dict is free again
      have free : ∀ (st' : Sto) (H' : Hp), ok st' → Rel K C st' H' → Keep st1 H1 st' H' → H' a = some (.frz od (.dK vs)) ∧ Rel K C (put st' a (.dct kvs)) (upd H' a (.dK vs)) ∧ Keep st H (put st' a (.dct kvs)) (upd H' a (.dK vs)) ∧ Keep st' H' (put st' a (.dct kvs)) (upd H' a (.dK vs)) := by
        intro st' H' hok r' k'
        obtain ⟨od', vs', h1, h0, h2, h3⟩ := r'.ob a _ hok
        cases h0
        have kw : Keep st' H' (put st' a (.dct kvs)) (upd H' a (.dK vs)) := Keep.write (by rw [show st' a = _ from hok]; exact fun q => nomatch q)
        exact ⟨h1, r'.writeD hok h2 h3, (k1.trans k').trans kw, kw⟩
      refine ⟨fun i m τ' H' => m = xs.length - i ∧ i ≤ xs.length ∧ ∃ σ' st', RS K H' σ' τ' ∧ Rel K C st' H' ∧ Keep st1 H1 st' H' ∧
        forK ok step fin (xs.drop i) σ' st', ⟨xs.length, by simp, Nat.zero_le _, σ, st1, rs2, r2, k2, q⟩, ?_⟩
      rintro j m τ2 H3 ⟨rfl, hj, σ2, st2, rs3, r3, k13, hl⟩
      by_cases hlt : j < xs.length
      · rw [List.drop_eq_getElem_cons hlt] at hl
        obtain ⟨hok, hl⟩ := hl
        refine .inr ⟨w.go j st2 H3 hlt k13 r3 hok, fun τ' H' => j + 1 ≤ xs.length ∧ ∃ σ' st', RS K H' σ' τ' ∧ Rel K C st' H' ∧ Keep st1 H1 st' H' ∧
          forK ok step fin (xs.drop (j + 1)) σ' st', ?_, ?_⟩
        · rintro σ' H' rest
          exact ⟨xs.length - (j + 1), by omega, rfl, rest⟩
        · intro x H4 hy
          obtain ⟨d, hd, r4, k4, hv4⟩ := w.yld j st2 H3 x H4 hlt k13 r3 hok hy
          have hd' : xs[j] = d := by
            rw [List.getElem?_eq_getElem hlt] at hd
            exact Option.some.inj hd
          rw [hd'] at hl
          have rs4 := RS.keep r3 k4 rs3
          replace hl : (match bindG g d σ2 with
            | some σ2 => evSs (callF P C n) C b σ2 st2 { nx := fun σ' st' => ∃ st1, Sub st1 st' ∧ forK ok step fin (xs.drop (j + 1)) σ' st1, rt := fun d st' => st' a = some (.lck (.frz od (.dK vs)) kvs) ∧ (KtOf K C st H D).rt d (put st' a (.dct kvs)), bk := fun σ' st' => st' a = some (.lck (.frz od (.dK vs)) kvs) ∧ (KtOf K C st H D).nx σ' (put st' a (.dct kvs)), ct := fun σ' st' => ∃ st1, Sub st1 st' ∧ forK ok step fin (xs.drop (j + 1)) σ' st1 }
            | none => False) := hl
          split at hl
          · rename_i σ3 hb
            refine ⟨C, σ2, st2, d, σ3, rs4, r4, hv4, hb, fun τ' rs5 _ _ => ?_⟩
            have k14 := k13.trans k4
            have nxt : ∀ (σ5 : Env) (st5 : Sto), (∃ st6, Sub st6 st5 ∧ forK ok step fin (xs.drop (j + 1)) σ5 st6) →
              DN K C st2 H4 (fun τ' H' => j + 1 ≤ xs.length ∧ ∃ σ' st', RS K H' σ' τ' ∧ Rel K C st' H' ∧ Keep st1 H1 st' H' ∧ forK ok step fin (xs.drop (j + 1)) σ' st') σ5 st5 := by
              rintro σ5 st5 ⟨st6, hsub, q⟩ τ' H' rs' rel' k'
              exact ⟨by omega, σ5, st6, rs', rel'.sub hsub, (k14.trans k').sub hsub, q⟩
            refine ⟨C, σ3, st2, rs5, r4, evSs_mono (callF_mono P C n) _ _ _ _ _ ?_ hl⟩
            refine ⟨nxt, fun d5 st5 ⟨h1, h2⟩ H' v' r' k' hv' => ?_, fun σ5 st5 ⟨h1, h2⟩ τ' H' rs' r' k' => ?_, nxt⟩
            · obtain ⟨f1, f2, f3, f4⟩ := free st5 H' h1 r' (k14.trans k')
              exact ⟨f1, h2 _ v' f2 f3 (RV.keep r' f4 _ _ hv')⟩
            · obtain ⟨f1, f2, f3, f4⟩ := free st5 H' h1 r' (k14.trans k')
              exact ⟨f1, h2 τ' _ (RS.keep r' f4 rs') f2 f3⟩
          · exact hl.elim
      · have e : j = xs.length := by omega
        subst e
        rw [List.drop_length] at hl
        obtain ⟨hok, hl⟩ := hl
        obtain ⟨f1, f2, f3, f4⟩ := free st2 H3 hok r3 k13
        exact .inl ⟨w.stop st2 H3 k13 r3 hok, f1, hl τ2 _ (RS.keep r3 f4 rs3) f2 f3⟩
    · exact q.elim
  · exact q.elim
theorem dictFor_ok {f : Expr → Option E} {N : List Str} {iter : Expr} {i : Nat} (h : dictFor f N iter = some i) : f iter = some (.var i) ∧ ∃ x p, iter = .Name x p := by
  unfold dictFor at h
  split at h
  · rename_i x p
    split at h
    · split at h
      · rename_i j e
        cases h
        exact ⟨e, x, p, rfl⟩
      · cases h
    · cases h
  · cases h
theorem snd_stmt (hdf : ∀ f, df f = true → ∃ fn, P f = some fn ∧ fn.kd ≠ 2) : ∀ (k : Nat) (X : Cx), Cxt Tb P n N sc fb X → ∀ (s : Stmt) (m : S), cS df ke k N sc fb s = some m → PS X s (denS X.K (FOf Tb P n) m)
  | 0, X, c, s, m, h => by simp [cS] at h
  | k + 1, X, c, s, m, h => by
    obtain ⟨ihE, ihT⟩ := snd_all (Tb := Tb) (df := df) (P := P) (n := n) (N := N) hdf ke sc fb X c
    obtain ⟨nxE, nxT⟩ := snd_all (Tb := Tb) (df := df) (P := P) (n := n) (N := N) hdf ke sc fb X.nox c.nox
    have ih := snd_stmt hdf k X c
    have nx := snd_stmt hdf k X.nox c.nox
    cases s with
    | Assign tgs e pos =>
      simp only [cS] at h
      split at h
      · exact cAsg_ok hdf c _ e pos m h
      · cases h
    | AugAssign tg op e pos =>
      simp only [cS] at h
      split at h
      · rename_i x px
        split at h
        · rename_i hc
          simp only [Bool.and_eq_true, decide_eq_true_eq] at hc
          obtain ⟨h1, h2⟩ := hc
          split at h
          · rename_i i m' hi he
            cases h
            obtain ⟨l1, l2⟩ := c.loc h1
            have hN : X.N.Nodup := by rw [c.hN]; exact c.nd
            have hr : ∀ D τ H, denS X.K (FOf Tb P n) (.aug i op m') D τ H → ∃ a, τ[i]? = some (some (.int a)) ∧ denE X.K (FOf Tb P n) m' τ H fun y H1 => ∃ b, y = .int b ∧ D.nx (τ.set i (some (.int (if op = .Add then a + b else a - b)))) H1 := by
              rintro D τ H ⟨C, σ, st, rs, rel, q⟩
              unfold evS at q
              split at q
              · rename_i a ha
                obtain ⟨v, ev, hv⟩ := rs.2 i _ ha
                have hv := rv_int.mp hv
                subst hv
                refine ⟨a, ev, C, σ, st, rs, rel, evE_mono (callF_mono P C n) _ _ _ _ _ (fun y st1 q H1 v r1 k1 hv => ?_) q⟩
                clear h2
                split at q
                · rename_i b _
                  refine ⟨b, rv_int.mp hv, ?_⟩
                  exact q _ H1 ((rs.keep rel k1).set (rv_int.mpr rfl)) r1 k1
                · rename_i b _
                  refine ⟨b, rv_int.mp hv, ?_⟩
                  exact q _ H1 ((rs.keep rel k1).set (rv_int.mpr rfl)) r1 k1
                · exact q.elim
              · exact q.elim
            rcases h2 with rfl | rfl
            · refine PS.imp (ps_aug hN (c.get hi) l1 (ihE e m' he) ip_add l2) fun D τ H q => ?_
              obtain ⟨a, e1, C, σ, st, rs, rel, q⟩ := hr D τ H q
              refine ⟨_, e1, C, σ, st, rs, rel, evE_mono (callF_mono P C n) _ _ _ _ _ (fun y st1 q H1 v r1 k1 hv => ?_) q⟩
              obtain ⟨b, rfl, q⟩ := q H1 v r1 k1 hv
              exact ⟨a, b, rfl, rfl, q⟩
            · refine PS.imp (ps_aug hN (c.get hi) l1 (ihE e m' he) ip_sub l2) fun D τ H q => ?_
              obtain ⟨a, e1, C, σ, st, rs, rel, q⟩ := hr D τ H q
              refine ⟨_, e1, C, σ, st, rs, rel, evE_mono (callF_mono P C n) _ _ _ _ _ (fun y st1 q H1 v r1 k1 hv => ?_) q⟩
              obtain ⟨b, rfl, q⟩ := q H1 v r1 k1 hv
              exact ⟨a, b, rfl, rfl, q⟩
          · cases h
        · cases h
      · cases h
    | Expr e pos =>
      simp only [cS] at h
      split at h
      · cases h
      · rename_i hc
        obtain ⟨m', he, e⟩ := Option.map_eq_some_iff.mp h
        subst e
        refine PS.imp (ps_expr (ihE e m' he) (comp_false (Bool.eq_false_iff.mpr hc) _ _ _)) fun D τ H ⟨C, σ, st, rs, rel, q⟩ => ?_
        unfold evS at q
        refine ⟨C, σ, st, rs, rel, evE_mono (callF_mono P C n) _ _ _ _ _ (fun y st1 q H1 v r1 k1 hv => ?_) q⟩
        exact q τ H1 (rs.keep rel k1) r1 k1
    | Return e pos =>
      simp only [cS] at h
      split at h
      · cases h
        refine PS.imp ps_retN fun D τ H ⟨C, σ, st, rs, rel, q⟩ => ?_
        unfold evS at q
        exact (show PQ X.K C st H D.rt .non st from q).here rel (rv_non.mpr rfl)
      · rename_i e
        obtain ⟨m', he, e⟩ := Option.map_eq_some_iff.mp h
        subst e
        refine PS.imp (ps_ret (ihE _ m' he)) fun D τ H ⟨C, σ, st, rs, rel, q⟩ => ?_
        unfold evS at q
        exact ⟨C, σ, st, rs, rel, q⟩
    | If t a b pos =>
      simp only [cS] at h
      split at h
      · rename_i t' a' b' ht ha hb
        cases h
        exact PS.imp (ps_if (ihT t t' ht) (cSL_ok ih a a' ha) (cSL_ok ih b b' hb)) fun D τ H q => if_den q
      · cases h
    | For tg iter body els pos =>
      simp only [cS] at h
      split at h
      · split at h
        · rename_i i hi
          obtain ⟨hf, x, p, rfl⟩ := dictFor_ok hi
          split at h
          · rename_i g b hg hb
            cases h
            exact PS.nox (PS.imp (ps_lock (ps_for PassesOwn.never c.calm (pi_keys (nxE _ _ hf)) (pg_of c.nox tg g hg) (cSL_ok nx body b hb) (fun _ => rfl))) fun D τ H q => ford_den q)
          · cases h
        · split at h
          · rename_i g kd as b hg hI hb
            cases h
            exact PS.nox (PS.imp (ps_for PassesOwn.never c.calm (pi_of c.nox nxE hI) (pg_of c.nox tg g hg) (cSL_ok nx body b hb) (fold_of hI _)) fun D τ H q => for_den q)
          · cases h
      · cases h
    | While t body els pos =>
      simp only [cS] at h
      split at h
      · split at h
        · rename_i t' b ht hb
          cases h
          exact PS.nox (PS.imp (ps_while PassesOwn.never (nxT t t' ht) (cSL_ok nx body b hb)) fun D τ H q => whl_den q)
        · cases h
      · cases h
    | Pass pos =>
      simp only [cS] at h
      cases h
      refine PS.imp ps_pass fun D τ H ⟨C, σ, st, rs, rel, q⟩ => ?_
      unfold evS at q
      exact q τ H rs rel Keep.refl
    | Break pos =>
      simp only [cS] at h
      cases h
      refine PS.imp ps_break fun D τ H ⟨C, σ, st, rs, rel, q⟩ => ?_
      unfold evS at q
      exact q τ H rs rel Keep.refl
    | Continue pos =>
      simp only [cS] at h
      cases h
      refine PS.imp ps_continue fun D τ H ⟨C, σ, st, rs, rel, q⟩ => ?_
      unfold evS at q
      exact q τ H rs rel Keep.refl
    | _ => simp [cS] at h
end
end MP

set_option Elab.async false
set_option linter.all false
set_option maxRecDepth 100000
set_option maxHeartbeats 8000000
/-! MpR: a whole program: every def keeps the promise that the small language tells; the law's end. -/
namespace MP
open PySem PySem.Spec L2
variable {Tb : TabL}

abbrev fbD : Str → Bool := fun _ => true
/-- the body, from the model's text -/
def compD (df : Str → Bool) (N : List Str) (st : Stmt) : Option (List S) := cSL (cS df 60 30 N (defScope st) fbD) (defBody st)
/-- a def of the text that stands behind the top -/
structure FnAt (Tb : TabL) (cs : List (Addr × Addr)) (K : PySem.W.Frag) (df : Str → Bool) (fn : Fn) (a : Addr) (fd : FuncData) : Prop where
  code : ∃ (x q : Str) (st : Stmt) (N : List Str), L2.Fun K x q st a fd ∧ FnScope N fn.ps (defScope st) ∧ fn.nv = N.length ∧ compD df N st = some fn.body ∧
    (∀ mk : Str, (mk = lamMark ∨ mk = genMark) → mk ∈ N → ∃ c p, fd.code = .ref c ∧ (c, p) ∈ cs ∧ (p, (q ++ ".<locals>.") ++ mk) ∈ Tb.tabs ∧ ∀ q' ∈ Tb.tabs, q'.1 = p → q'.2 = (q ++ ".<locals>.") ++ mk) ∧
    ∀ fl : Str, fldMark fl ∈ N → ∀ q' ∈ Tb.cls, NoAttr K q'.2 fl
  bind : ∀ (i : Nat) (ks : List Str), (i, ks) ∈ fn.pat → ∀ (us ws rs : List Value) (s : Shared), us.length = i → ws.length = ks.length → bindA fn.ps us ks ws = some rs → K.In s.heap → rs.length = fn.ps.length ∧ BindsTo s fd ⟨us, ks.zip ws⟩ (fn.ps.zip rs)
/-- what the top has made of the text -/
structure TopAt (Tb : TabL) (cs : List (Addr × Addr)) (K : PySem.W.Frag) (mg : Str → Option Value) (P : Str → Option Fn) (df : Str → Bool) : Prop where
  kd : ∀ f fn, P f = some fn → fn.kd ≤ 2
  fn : ∀ f fn, P f = some fn → fn.kd = 0 → ∃ a fd, mg f = some (.ref a) ∧ FnAt Tb cs K df fn a fd
  mks : ∀ f fn, P f = some fn → fn.kd = 1 → ∃ a fI fd gn, mg f = some (.ref a) ∧ fn.body = [.new f] ∧ fn.nv = fn.ps.length ∧ (∀ p ∈ fn.pat, p.2 = []) ∧ (f, a) ∈ Tb.cls ∧ Mk K a fI ∧ P (mname f "__init__") = some gn ∧ FnAt Tb cs K df gn fI fd ∧ Binds K fd gn.ps []
  cl : ∀ q ∈ Tb.cls, Cls K q.2
  mth : ∀ q ∈ Tb.cls, ∀ m fn, P (mname q.1 m) = some fn → ∃ a fd, Meth K q.2 m a ∧ FnAt Tb cs K df fn a fd
theorem startRS {K : PySem.W.Frag} {H : Hp} {N : List Str} {ds : List MP.D} {vs : List V} (h : RVs K H ds vs) : RS K H (startE N.length ds) (L2.start N vs) := by
  unfold startE L2.start
  refine ⟨by simp [h.length], fun i d e => ?_⟩
  by_cases hi : i < ds.length
  · rw [List.getElem?_append_left (by rw [List.length_map]; exact hi), List.getElem?_map] at e
    cases q : ds[i]? with
    | none => rw [q] at e; cases e
    | some d' =>
      rw [q] at e
      cases e
      obtain ⟨v, hv, hr⟩ := h.get q
      exact ⟨v, by rw [List.getElem?_append_left (by rw [List.length_map, h.length]; exact hi), List.getElem?_map, hv] <;> rfl, hr⟩
  · rw [List.getElem?_append_right (by rw [List.length_map]; omega), List.getElem?_replicate] at e
    split at e <;> cases e
section
variable {prog : Program} {w : World} {K : PySem.W.Frag} {mg : Str → Option Value} {base : Heap} {P : Str → Option Fn} {df : Str → Bool} {cs : List (Addr × Addr)}
theorem fun_okC {x qual : Str} {st : Stmt} {f : Addr} {fd : FuncData} {N ps : List Str} {k : Nat} {sp : Sp} (F : L2.Fun K x qual st f fd) (S : FnScope N ps (defScope st)) (len : ∀ vs H Q E, sp vs H Q E → vs.length = ps.length)
    (hbody : ∀ (cdv : Value) (A : Around) (outer : List PySem.Env) (s : Shared) (H : Hp) (vs : List V) (Q : VK) (E : XK), fd.code = cdv → Room k (A.deeper (PyProof.Rows.envOfC qual (defScope st) s.heap.objs.size f cdv)) → sp vs H Q E →
      ∃ t, PSs (cxOf CX0 prog w K mg base N qual (defScope st) f cdv A outer s H E).nox (defBody st) t ∧ t { nx := fun _ H' => Q .non H', rt := Q } (start N vs) H) : FnOk prog w K mg base CX0 (k + 1) f fd ps sp := by
  obtain ⟨oc, od, kV, doc, pm, an, cdv, ct, osl, rfl, lk, hcd⟩ := F.ex
  refine fn_of lk hcd S len fun A outer s H vs Q E hr hsp => ?_
  obtain ⟨t, h, q⟩ := hbody cdv A outer s H vs Q E rfl hr hsp
  exact ⟨t, h.nox, q⟩
theorem all_fn (htb : ∀ p ∈ cs, LamX.TabB base mg p.1 p.2) (hdf : ∀ f, df f = true → ∃ fn, P f = some fn ∧ fn.kd ≠ 2) (hbl : ∀ f, namesB f = true → mg f = none) (T : TopAt Tb cs K mg P df) :
    ∀ (n : Nat) (f : Str) (fn : Fn) (a : Addr) (fd : FuncData), P f = some fn → FnAt Tb cs K df fn a fd → FnOk prog w K mg base CX0 n a fd fn.ps (spF Tb K P n f fn) := by
  intro n
  induction n using Nat.strongRecOn with
  | ind n ih =>
    intro f fn a fd hf F
    cases n with
    | zero =>
      refine ⟨fun vs H Q E h => h.1, fun A outer s H args us vs Q E _ _ _ _ h => ?_⟩
      obtain ⟨_, C, st, ds, _, _, h⟩ := h
      exact h.elim
    | succ n =>
      obtain ⟨x, q, st, N, hFun, hS, hnv, hc, hlam, hfld⟩ := F.code
      refine fun_okC hFun hS (fun vs H Q E h => h.1) fun cdv A outer s H vs Q E hcd hr h => ?_
      have kpOf : ∀ {gn : Fn} {b : Addr} {gd : FuncData}, FnAt Tb cs K df gn b gd → PySem.W.keepIn K (.ref b) = true := fun G => by
        obtain ⟨_, _, _, _, hF, _⟩ := G.code
        exact hF.kp
      have c : Cxt Tb P n N (defScope st) fbD (cxOf CX0 prog w K mg base N q (defScope st) a cdv A outer s H E).nox :=
        { calm := rfl, hN := rfl, nd := hS.nd, scE := rfl, kind := hS.kind, fn := fun _ => rfl, room := hr, bl := hbl,
          fs := fun g gn hg h2 => by
            have hk := T.kd g gn hg
            have : gn.kd = 0 ∨ gn.kd = 1 := by omega
            rcases this with e | e
            · obtain ⟨b, gd, hm, G⟩ := T.fn g gn hg e
              exact ⟨b, hm, .inl ⟨kpOf G, gd, ih n (Nat.lt_succ_self n) g gn b gd hg G, G.bind⟩⟩
            · obtain ⟨b, fI, gd, g2, hm, e1, e2, e3, e4, e5, e6, G, e7⟩ := T.mks g gn hg e
              exact ⟨b, hm, .inr ⟨e1, e2, e3, e4, fI, gd, g2, e5, e6, e7, fun k hk => ih k (by omega) _ g2 fI gd e6 G⟩⟩
          cls := T.cl
          fld := hfld
          mth := fun q' hq m gn hg => by
            obtain ⟨b, gd, hM, G⟩ := T.mth q' hq m gn hg
            exact ⟨b, hM, kpOf G, gd, ih n (Nat.lt_succ_self n) _ gn b gd hg G, G.bind⟩
          lam := fun mk hm hN => by
            obtain ⟨cA, pA, e1, e2, e3, e4⟩ := hlam mk hm hN
            exact ⟨cA, pA, htb _ e2, hcd.symm.trans e1, e3, e4⟩ }
      refine ⟨denSs K (FOf Tb P n) fn.body, cSL_ok (snd_stmt hdf 30 _ c) _ _ hc, ?_⟩
      obtain ⟨_, C, sto, ds, rel, hds, h⟩ := h
      unfold bodyF at h
      rw [hf] at h
      obtain ⟨_, h⟩ := h
      unfold bodyK at h
      refine ⟨C, startE fn.nv ds, sto, by rw [hnv]; exact startRS hds, rel, evSs_mono (callF_mono P C n) _ _ _ _ _ ?_ h⟩
      refine ⟨fun σ' st' ⟨st1, hsub, q⟩ τ' H' rs' rel' k' => ?_, fun d st' ⟨st1, hsub, q⟩ H' v rel' k' hv => ?_, fun _ _ q => q.elim, fun _ _ q => q.elim⟩
      · exact q H' .non (rel'.sub hsub) (k'.sub hsub) (rv_non.mpr rfl)
      · exact q H' v (rel'.sub hsub) (k'.sub hsub) hv
end
/-! ### the law -/
/-- the script alone stands there -/
def cstOf (a : Addr) (ns : List Int) : Kst := fun b => if b = a then some (ns.map MP.D.int) else none
/-- what the law promises, in plain words -/
def LawHolds (P : Str → Option Fn) (n : Nat) : Prop := ∀ (a : Addr) (ns : List Int), ns.length ≤ 63 → bodyF P (cstOf a ns) n "law" [.ref a] (fun _ => none) fun d _ => d = .bl true
def spLaw (cs : List (Addr × Addr)) (K : PySem.W.Frag) : Sp := fun vs H Q _ => ∃ (a : Addr) (ns : List Int), vs = [.ref a] ∧ (∀ p ∈ cs, H p.2 = some (.tbl #[])) ∧ SqL K H a (ns.map V.int) ∧ ns.length ≤ 63 ∧ ∀ H', Q (.bl true) H'
theorem cl_of {K : PySem.W.Frag} {H : Hp} {a : Addr} {vs : List V} (h : SqL K H a vs) : CL K (fun _ => none) H a vs := by
  rcases h with (h | h) | h
  · exact .inl ⟨h, rfl⟩
  · exact .inr (.inl h)
  · exact .inr (.inr h)
theorem rvs_ints {K : PySem.W.Frag} {H : Hp} : ∀ ns : List Int, RVs K H (ns.map MP.D.int) (ns.map V.int)
  | [] => RVs.nil
  | n :: ns => RVs.cons (rv_int.mpr rfl) (rvs_ints ns)
theorem law_ok {prog : Program} {w : World} {K : PySem.W.Frag} {mg : Str → Option Value} {base : Heap} {P : Str → Option Fn} {n : Nat} {fn : Fn} {a : Addr} {fd : FuncData} {cs : List (Addr × Addr)} (hTc : ∀ q ∈ Tb.tabs, ∃ c, (c, q.1) ∈ cs) (hlaw : LawHolds P n)
    (F : FnOk prog w K mg base CX0 n a fd fn.ps (spF Tb K P n "law" fn)) (hp : fn.ps = [("script" : Str)]) : FnOk prog w K mg base CX0 n a fd ["script"] (spLaw cs K) := by
  rw [← hp]
  refine F.imp fun vs H Q E ⟨b, ns, e, ho, hS, hl, q⟩ => ?_
  subst e
  have rel : Rel (Tb := Tb) K (cstOf b ns) (fun _ => none) H := by
    refine ⟨fun a o e => ?_, fun c xs e => ?_, fun q hq => ?_⟩
    · cases e
    · unfold cstOf at e
      split at e
      · rename_i hcb
        cases e
        subst hcb
        exact ⟨ns.map V.int, cl_of hS, rvs_ints ns⟩
      · cases e
    · obtain ⟨c, hc⟩ := hTc q hq
      exact LamX.TabS.nil (ho _ hc)
  refine ⟨by rw [hp] <;> rfl, cstOf b ns, fun _ => none, [.ref b], rel, RVs.cons (rv_ref.mpr rfl) RVs.nil, ?_⟩
  refine bodyF_mono _ _ _ _ _ _ _ _ (fun d s q' => ?_) (hlaw b ns hl)
  subst q'
  intro H' v _ _ hv
  rw [rv_bl.mp hv]
  exact q H'
/-- what a row's def and its table are known by -/
theorem tabIn_of {K : PySem.W.Frag} {x : Str} {f c P : Addr} {oc oc2 : Value} {od od2 : Option Addr} {fd : FuncData} {sl sl2 : Array (Option Value)} {vs : Array Value} (a : PySem.W.nsIn K mainGlobals x = some (some (.ref f))) (l : K.lookup f = some ⟨oc, od, .func fd, sl⟩)
    (ec : fd.code = .ref c) (lc : K.lookup c = some ⟨oc2, od2, .fields vs, sl2⟩) (e11 : (vs[11]? : Option Value) = some (.ref P)) : PySem.W.tabIn K x = some (c, P) := by
  unfold PySem.W.tabIn
  simp only [a, l, ec, lc, e11]
/-- what the head tells of tables -/
def TabsTold (q : Program) (K : PySem.W.Frag) (h : Heap) : Prop := ∀ (x : Str) (d : DefRec) (c P : Addr), (PyProof.Rows.recsOf q).find? (fun e => e.name == x) = some d → PySem.W.tabIn K x = some (c, P) → PySem.W.CodeHd h c P ∧ h.get? P = some (PySem.W.tabObj #[])
theorem walk {l : PySem.W.OpenLaw} {q : Program} {loose : List Str} {XP : (Str → Option Value) → Heap → Prop} {YP : World → Heap → Prop} {d : DefRec} {K : Params → PySem.W.Frag} {k : Nat} (hn : l.most = some 63) (hdf : d.params.defaults = []) (hr : k ≤ 200)
    (hY : ∀ (w : World) (h : Heap), YP w h → (K w.params).In h)
    (F : ∀ (w : World) (mg : Str → Option Value) (fa : Addr) (h : Heap), TabsTold q (K w.params) h → (K w.params).In h → h.Ns mainGlobals mg → mg d.name = some (.ref fa) →
      ∃ (fd : FuncData) (cs : List (Addr × Addr)), (∀ p ∈ cs, (K w.params).lookup p.2 = none ∧ PySem.W.CodeHd h p.1 p.2 ∧ h.get? p.2 = some (PySem.W.tabObj #[])) ∧
        (∀ (s : Shared) (u : Value), BindsTo s fd ⟨[u], []⟩ [("script", u)]) ∧ ∀ base : Heap, (K w.params).In base → base.Ns mainGlobals mg → (∀ p ∈ cs, LamX.TabB base mg p.1 p.2) → FnOk l.prog w (K w.params) mg base CX0 k fa fd ["script"] (spLaw cs (K w.params))) :
    PySem.W.WalkO q loose XP YP l.row.toRowW d [] (fun f vs => PySem.call f vs) := by
  refine Att.attach_callB hn hdf fun w s₀ s₁ mg mb fa o pm cd doc a vs ns G Y ho hd hcd hmg hobj hints hlen hbits hg => ?_
  have KX := hY w _ Y
  obtain ⟨fd, cs, hC, hb, hF⟩ := F w mg fa _ (fun x d' c P hr ht => PySem.W.tab_of G.T KX hr ht) KX G.T.g hmg
  exact LamX.law_callTs KX G.T.g G.T.b G.T.builtins G.T.nolimit hg (fun p hp => (hC p hp).2.2) (fun p hp => (hC p hp).1) (fun p hp => (hC p hp).2.1) G.T.bmain hobj hints (Nat.le_trans hlen (by decide)) ((show Room 200 callerA from ⟨rfl, by decide, by decide⟩).mono hr) hF hb
    (fun H hH hS => ⟨a, ns, rfl, hH, hS, hlen, fun _ => rfl⟩) fun H e s' z => z
end MP

set_option Elab.async false
set_option linter.all false
set_option maxRecDepth 100000
set_option maxHeartbeats 8000000
/-! MpS: texts are compared by the kernel; tables of defs. -/
namespace MP
open PySem PySem.Spec L2

/-! ### equality of texts, as a test -/
mutual
def eqG : G → G → Bool
  | .nm i, .nm j => i == j
  | .tup gs, .tup hs => eqGs gs hs
  | _, _ => false
def eqGs : List G → List G → Bool
  | [], [] => true
  | g :: gs, h :: hs => eqG g h && eqGs gs hs
  | _, _ => false
end
mutual
theorem eqG_ok : ∀ (g h : G), eqG g h = true → g = h
  | .nm i, .nm j, e => by simp [eqG] at e; rw [e]
  | .tup gs, .tup hs, e => by simp [eqG] at e; rw [eqGs_ok gs hs e]
  | .nm _, .tup _, e => by simp [eqG] at e
  | .tup _, .nm _, e => by simp [eqG] at e
theorem eqGs_ok : ∀ (g h : List G), eqGs g h = true → g = h
  | [], [], _ => rfl
  | g :: gs, h :: hs, e => by simp [eqGs] at e; rw [eqG_ok g h e.1, eqGs_ok gs hs e.2]
  | [], _ :: _, e => by simp [eqGs] at e
  | _ :: _, [], e => by simp [eqGs] at e
end
mutual
def eqE : E → E → Bool
  | .var i, y => match y with | .var j => i == j | _ => false
  | .non, y => match y with | .non => true | _ => false
  | .bl a, y => match y with | .bl b => a == b | _ => false
  | .int a, y => match y with | .int b => a == b | _ => false
  | .str a, y => match y with | .str b => decide (a = b) | _ => false
  | .bin op a b, y => match y with | .bin op' a' b' => decide (op = op') && eqE a a' && eqE b b' | _ => false
  | .neg a, y => match y with | .neg a' => eqE a a' | _ => false
  | .not a, y => match y with | .not a' => eqE a a' | _ => false
  | .cmp op a b, y => match y with | .cmp op' a' b' => decide (op = op') && eqE a a' && eqE b b' | _ => false
  | .cmp2 op o2 a b c, y => match y with | .cmp2 op' o2' a' b' c' => decide (op = op') && decide (o2 = o2') && eqE a a' && eqE b b' && eqE c c' | _ => false
  | .bop op es, y => match y with | .bop op' es' => decide (op = op') && eqEs es es' | _ => false
  | .ite a b c, y => match y with | .ite a' b' c' => eqE a a' && eqE b b' && eqE c c' | _ => false
  | .tup es, y => match y with | .tup es' => eqEs es es' | _ => false
  | .lst es, y => match y with | .lst es' => eqEs es es' | _ => false
  | .ix a b, y => match y with | .ix a' b' => eqE a a' && eqE b b' | _ => false
  | .slc a p b q c, y => match y with | .slc a' p' b' q' c' => eqE a a' && (p == p') && eqE b b' && (q == q') && eqE c c' | _ => false
  | .call f as ks es, y => match y with | .call f' as' ks' es' => decide (f = f') && eqEs as as' && decide (ks = ks') && eqEs es es' | _ => false
  | .blt f as, y => match y with | .blt f' as' => decide (f = f') && eqEs as as' | _ => false
  | .isi a T, y => match y with | .isi a' T' => eqE a a' && decide (T = T') | _ => false
  | .mth T m o as, y => match y with | .mth T' m' o' as' => decide (T = T') && decide (m = m') && eqE o o' && eqEs as as' | _ => false
  | .fld o f, y => match y with | .fld o' f' => eqE o o' && decide (f = f') | _ => false
  | .lc e g k as ifs own, y => match y with | .lc e' g' k' as' ifs' own' => eqE e e' && eqG g g' && decide (k = k') && eqEs as as' && eqEs ifs ifs' && decide (own = own') | _ => false
  | .dnew, y => match y with | .dnew => true | _ => false
  | .dc e v g k as ifs own, y => match y with | .dc e' v' g' k' as' ifs' own' => eqE e e' && eqE v v' && eqG g g' && decide (k = k') && eqEs as as' && eqEs ifs ifs' && decide (own = own') | _ => false
  | .dcT e v g k as ifs own, y => match y with | .dcT e' v' g' k' as' ifs' own' => eqE e e' && eqE v v' && eqG g g' && decide (k = k') && eqEs as as' && eqEs ifs ifs' && decide (own = own') | _ => false
  | .um o m as, y => match y with | .um o' m' as' => eqE o o' && decide (m = m') && eqEs as as' | _ => false
def eqEs : List E → List E → Bool
  | [], y => match y with | [] => true | _ => false
  | a :: as, y => match y with | b :: bs => eqE a b && eqEs as bs | _ => false
end
mutual
theorem eqE_ok : ∀ (x y : E), eqE x y = true → x = y
  | .var i, y, h => by cases y <;> simp_all [eqE]
  | .non, y, h => by cases y <;> simp_all [eqE]
  | .bl a, y, h => by cases y <;> simp_all [eqE]
  | .int a, y, h => by cases y <;> simp_all [eqE]
  | .str a, y, h => by cases y <;> simp_all [eqE]
  | .bin op a b, y, h => by
    cases y <;> simp [eqE] at h
    rw [h.1.1, eqE_ok _ _ h.1.2, eqE_ok _ _ h.2]
  | .neg a, y, h => by
    cases y <;> simp [eqE] at h
    rw [eqE_ok _ _ h]
  | .not a, y, h => by
    cases y <;> simp [eqE] at h
    rw [eqE_ok _ _ h]
  | .cmp op a b, y, h => by
    cases y <;> simp [eqE] at h
    rw [h.1.1, eqE_ok _ _ h.1.2, eqE_ok _ _ h.2]
  | .cmp2 op o2 a b c, y, h => by
    cases y <;> simp [eqE] at h
    rw [h.1.1.1.1, h.1.1.1.2, eqE_ok _ _ h.1.1.2, eqE_ok _ _ h.1.2, eqE_ok _ _ h.2]
  | .bop op es, y, h => by
    cases y <;> simp [eqE] at h
    rw [h.1, eqEs_ok _ _ h.2]
  | .ite a b c, y, h => by
    cases y <;> simp [eqE] at h
    rw [eqE_ok _ _ h.1.1, eqE_ok _ _ h.1.2, eqE_ok _ _ h.2]
  | .tup es, y, h => by
    cases y <;> simp [eqE] at h
    rw [eqEs_ok _ _ h]
  | .lst es, y, h => by
    cases y <;> simp [eqE] at h
    rw [eqEs_ok _ _ h]
  | .ix a b, y, h => by
    cases y <;> simp [eqE] at h
    rw [eqE_ok _ _ h.1, eqE_ok _ _ h.2]
  | .slc a p b q c, y, h => by
    cases y <;> simp [eqE] at h
    rw [eqE_ok _ _ h.1.1.1.1, h.1.1.1.2, eqE_ok _ _ h.1.1.2, h.1.2, eqE_ok _ _ h.2]
  | .call f as ks es, y, h => by
    cases y <;> simp [eqE] at h
    rw [h.1.1.1, eqEs_ok _ _ h.1.1.2, h.1.2, eqEs_ok _ _ h.2]
  | .blt f as, y, h => by
    cases y <;> simp [eqE] at h
    rw [h.1, eqEs_ok _ _ h.2]
  | .isi a T, y, h => by
    cases y <;> simp [eqE] at h
    rw [eqE_ok _ _ h.1, h.2]
  | .mth T m o as, y, h => by
    cases y <;> simp [eqE] at h
    rw [h.1.1.1, h.1.1.2, eqE_ok _ _ h.1.2, eqEs_ok _ _ h.2]
  | .fld o f, y, h => by
    cases y <;> simp [eqE] at h
    rw [eqE_ok _ _ h.1, h.2]
  | .lc e g k as ifs own, y, h => by
    cases y <;> simp [eqE] at h
    rw [eqE_ok _ _ h.1.1.1.1.1, eqG_ok _ _ h.1.1.1.1.2, h.1.1.1.2, eqEs_ok _ _ h.1.1.2, eqEs_ok _ _ h.1.2, h.2]
  | .dnew, y, h => by cases y <;> simp_all [eqE]
  | .dc e v g k as ifs own, y, h => by
    cases y <;> simp [eqE] at h
    rw [eqE_ok _ _ h.1.1.1.1.1.1, eqE_ok _ _ h.1.1.1.1.1.2, eqG_ok _ _ h.1.1.1.1.2, h.1.1.1.2, eqEs_ok _ _ h.1.1.2, eqEs_ok _ _ h.1.2, h.2]
  | .dcT e v g k as ifs own, y, h => by
    cases y <;> simp [eqE] at h
    rw [eqE_ok _ _ h.1.1.1.1.1.1, eqE_ok _ _ h.1.1.1.1.1.2, eqG_ok _ _ h.1.1.1.1.2, h.1.1.1.2, eqEs_ok _ _ h.1.1.2, eqEs_ok _ _ h.1.2, h.2]
  | .um o m as, y, h => by
    cases y <;> simp [eqE] at h
    rw [eqE_ok _ _ h.1.1, h.1.2, eqEs_ok _ _ h.2]
theorem eqEs_ok : ∀ (x y : List E), eqEs x y = true → x = y
  | [], y, h => by cases y <;> simp_all [eqEs]
  | a :: as, y, h => by
    cases y <;> simp [eqEs] at h
    rw [eqE_ok _ _ h.1, eqEs_ok _ _ h.2]
end
mutual
def eqS : S → S → Bool
  | .asg g e, y => match y with | .asg g' e' => eqG g g' && eqE e e' | _ => false
  | .sub a b c, y => match y with | .sub a' b' c' => eqE a a' && eqE b b' && eqE c c' | _ => false
  | .sfl a f c, y => match y with | .sfl a' f' c' => eqE a a' && decide (f = f') && eqE c c' | _ => false
  | .new c, y => match y with | .new c' => decide (c = c') | _ => false
  | .aug i op e, y => match y with | .aug i' op' e' => (i == i') && decide (op = op') && eqE e e' | _ => false
  | .ex e, y => match y with | .ex e' => eqE e e' | _ => false
  | .ret e, y => match y with | .ret e' => eqE e e' | _ => false
  | .retN, y => match y with | .retN => true | _ => false
  | .iff c a b, y => match y with | .iff c' a' b' => eqE c c' && eqSs a a' && eqSs b b' | _ => false
  | .for g k as b, y => match y with | .for g' k' as' b' => eqG g g' && decide (k = k') && eqEs as as' && eqSs b b' | _ => false
  | .ford g i b, y => match y with | .ford g' i' b' => eqG g g' && (i == i') && eqSs b b' | _ => false
  | .whl c b, y => match y with | .whl c' b' => eqE c c' && eqSs b b' | _ => false
  | .pass, y => match y with | .pass => true | _ => false
  | .brk, y => match y with | .brk => true | _ => false
  | .cont, y => match y with | .cont => true | _ => false
def eqSs : List S → List S → Bool
  | [], y => match y with | [] => true | _ => false
  | a :: as, y => match y with | b :: bs => eqS a b && eqSs as bs | _ => false
end
mutual
theorem eqS_ok : ∀ (x y : S), eqS x y = true → x = y
  | .asg g e, y, h => by
    cases y <;> simp [eqS] at h
    rw [eqG_ok _ _ h.1, eqE_ok _ _ h.2]
  | .sub a b c, y, h => by
    cases y <;> simp [eqS] at h
    rw [eqE_ok _ _ h.1.1, eqE_ok _ _ h.1.2, eqE_ok _ _ h.2]
  | .sfl a f c, y, h => by
    cases y <;> simp [eqS] at h
    rw [eqE_ok _ _ h.1.1, h.1.2, eqE_ok _ _ h.2]
  | .new c, y, h => by
    cases y <;> simp [eqS] at h
    rw [h]
  | .aug i op e, y, h => by
    cases y <;> simp [eqS] at h
    rw [h.1.1, h.1.2, eqE_ok _ _ h.2]
  | .ex e, y, h => by
    cases y <;> simp [eqS] at h
    rw [eqE_ok _ _ h]
  | .ret e, y, h => by
    cases y <;> simp [eqS] at h
    rw [eqE_ok _ _ h]
  | .retN, y, h => by cases y <;> simp_all [eqS]
  | .iff c a b, y, h => by
    cases y <;> simp [eqS] at h
    rw [eqE_ok _ _ h.1.1, eqSs_ok' _ _ h.1.2, eqSs_ok' _ _ h.2]
  | .for g k as b, y, h => by
    cases y <;> simp [eqS] at h
    rw [eqG_ok _ _ h.1.1.1, h.1.1.2, eqEs_ok _ _ h.1.2, eqSs_ok' _ _ h.2]
  | .ford g i b, y, h => by
    cases y <;> simp [eqS] at h
    rw [eqG_ok _ _ h.1.1, h.1.2, eqSs_ok' _ _ h.2]
  | .whl c b, y, h => by
    cases y <;> simp [eqS] at h
    rw [eqE_ok _ _ h.1, eqSs_ok' _ _ h.2]
  | .pass, y, h => by cases y <;> simp_all [eqS]
  | .brk, y, h => by cases y <;> simp_all [eqS]
  | .cont, y, h => by cases y <;> simp_all [eqS]
theorem eqSs_ok' : ∀ (x y : List S), eqSs x y = true → x = y
  | [], y, h => by cases y <;> simp_all [eqSs]
  | a :: as, y, h => by
    cases y <;> simp [eqSs] at h
    rw [eqS_ok _ _ h.1, eqSs_ok' _ _ h.2]
end
def eqO (x : Option (List S)) (y : List S) : Bool := match x with
  | some x => eqSs x y
  | none => false
theorem eqSs_ok {x : Option (List S)} {y : List S} (h : eqO x y = true) : x = some y := by
  unfold eqO at h
  split at h
  · rw [eqSs_ok' _ _ h]
  · cases h

/-! ### tables of defs -/
def lookF : List (Str × Fn) → Str → Option Fn
  | [], _ => none
  | (g, fn) :: r, f => if f = g then some fn else lookF r f
/-- a name that may be called: a def or a class -/
def dfOf (P : Str → Option Fn) (f : Str) : Bool := match P f with
  | some fn => fn.kd != 2
  | none => false
theorem look_df {P : Str → Option Fn} : ∀ f, dfOf P f = true → ∃ fn, P f = some fn ∧ fn.kd ≠ 2 := fun f h => by
  unfold dfOf at h
  split at h
  · rename_i fn e
    exact ⟨fn, e, by simpa using h⟩
  · cases h
theorem look_all {R : Str → Fn → Prop} : ∀ {ds : List (Str × Fn)}, (∀ p ∈ ds, R p.1 p.2) → ∀ f fn, lookF ds f = some fn → R f fn
  | [], _, f, fn, h => by simp [lookF] at h
  | (g, gn) :: r, hp, f, fn, h => by
    unfold lookF at h
    split at h
    · rename_i e
      cases h
      subst e
      exact hp (_, _) List.mem_cons_self
    · exact look_all (fun p hq => hp p (List.mem_cons_of_mem _ hq)) f fn h
theorem names_none {mg : Str → Option Value} (h1 : mg "len" = none) (h2 : mg "int" = none) (h3 : mg "abs" = none) (h4 : mg "max" = none) (h5 : mg "min" = none) (h6 : mg "sum" = none) (h7 : mg "tuple" = none) (h8 : mg "list" = none) (h9 : mg "isinstance" = none) (h10 : mg "range" = none) (h11 : mg "enumerate" = none) (h12 : mg "bool" = none) (h13 : mg "str" = none) (h14 : mg "sorted" = none) :
    ∀ f, namesB f = true → mg f = none := by
  intro f h
  simp only [namesB, bltB, decide_eq_true_eq] at h
  rcases h with (h | h | h | h | h | h | h | h | h) | h | h | h | h | h | h <;> (subst h; assumption)
end MP

set_option Elab.async false
set_option linter.all false
set_option maxRecDepth 100000
set_option maxHeartbeats 8000000
/-! MpT: rules for loops and calls of the small language; the parts that the laws share: flow, draw, pick, same. -/
namespace MP
open PySem PySem.Spec

/-! ### loops -/
theorem forK_at {ok : Sto → Prop} {step : D → Env → Sto → (Env → Sto → Prop) → Prop} {nx : Env → Sto → Prop} {xs : List D} (I : Nat → Env → Sto → Prop)
    (hok : ∀ i σ st, I i σ st → ok st) (hend : ∀ σ st, I xs.length σ st → nx σ st)
    (hstep : ∀ i x σ st R, xs[i]? = some x → I i σ st → (∀ σ' st', I (i + 1) σ' st' → R σ' st') → step x σ st R) : ∀ (k i : Nat) (σ : Env) (st : Sto), i + k = xs.length → I i σ st → forK ok step nx (xs.drop i) σ st
  | 0, i, σ, st, hk, h => by
    have e : i = xs.length := by omega
    subst e
    rw [List.drop_length]
    exact ⟨hok _ _ _ h, hend _ _ h⟩
  | k + 1, i, σ, st, hk, h => by
    have hi : i < xs.length := by omega
    rw [List.drop_eq_getElem_cons hi]
    refine ⟨hok _ _ _ h, hstep i _ σ st _ (List.getElem?_eq_getElem hi) h fun σ' st' h' => ⟨st', Sub.refl, ?_⟩⟩
    exact forK_at I hok hend hstep k (i + 1) σ' st' (by omega) h'
theorem forK_of {ok : Sto → Prop} {step : D → Env → Sto → (Env → Sto → Prop) → Prop} {nx : Env → Sto → Prop} {xs : List D} {σ : Env} {st : Sto} (I : Nat → Env → Sto → Prop) (h0 : I 0 σ st)
    (hok : ∀ i σ st, I i σ st → ok st) (hend : ∀ σ st, I xs.length σ st → nx σ st)
    (hstep : ∀ i x σ st R, xs[i]? = some x → I i σ st → (∀ σ' st', I (i + 1) σ' st' → R σ' st') → step x σ st R) : forK ok step nx xs σ st := by
  have := forK_at I hok hend hstep xs.length 0 σ st (by omega) h0
  simpa using this
theorem whlK_of {c : Env → Sto → (Bool → Sto → Prop) → Prop} {body : Env → Sto → (Env → Sto → Prop) → Prop} {nx : Env → Sto → Prop} (I : Nat → Env → Sto → Prop)
    (hstep : ∀ m σ st R, I m σ st → (∀ m' σ' st', m = m' + 1 → I m' σ' st' → R σ' st') → c σ st fun b st1 => if b = true then body σ st1 R else nx σ st1) : ∀ (m : Nat) (σ : Env) (st : Sto), I m σ st → whlK c body nx (m + 1) σ st
  | 0, σ, st, h => hstep 0 σ st _ h fun m' _ _ e _ => by omega
  | m + 1, σ, st, h => hstep (m + 1) σ st _ h fun m' σ' st' e h' => by
    have e : m = m' := by omega
    subst e
    exact ⟨st', Sub.refl, whlK_of I hstep m σ' st' h'⟩
theorem lcK_at {ok : Sto → Prop} {step : D → Sto → (Option D → Sto → Prop) → Prop} {K : List D → Sto → Prop} {xs : List D} (I : Nat → List D → Sto → Prop) (hlen : xs.length < sizeLine)
    (hok : ∀ i acc st, I i acc st → ok st) (hend : ∀ acc st, I xs.length acc st → K acc st)
    (hstep : ∀ i x acc st R, xs[i]? = some x → I i acc st → (∀ y st', I (i + 1) (acc ++ [y]) st' → R (some y) st') → (∀ st', I (i + 1) acc st' → R none st') → step x st R) :
    ∀ (k i : Nat) (acc : List D) (st : Sto), i + k = xs.length → acc.length ≤ i → I i acc st → lcK ok step K (xs.drop i) acc st
  | 0, i, acc, st, hk, hl, h => by
    have e : i = xs.length := by omega
    subst e
    rw [List.drop_length]
    exact ⟨hok _ _ _ h, hend _ _ h⟩
  | k + 1, i, acc, st, hk, hl, h => by
    have hi : i < xs.length := by omega
    rw [List.drop_eq_getElem_cons hi]
    refine ⟨hok _ _ _ h, hstep i _ acc st _ (List.getElem?_eq_getElem hi) h (fun y st' h' => ⟨st', Sub.refl, by omega, ?_⟩) (fun st' h' => ⟨st', Sub.refl, ?_⟩)⟩
    · exact lcK_at I hlen hok hend hstep k (i + 1) _ st' (by omega) (by rw [List.length_append, List.length_singleton]; omega) h'
    · exact lcK_at I hlen hok hend hstep k (i + 1) _ st' (by omega) (by omega) h'
theorem lcK_of {ok : Sto → Prop} {step : D → Sto → (Option D → Sto → Prop) → Prop} {K : List D → Sto → Prop} {xs : List D} {st : Sto} (I : Nat → List D → Sto → Prop) (hlen : xs.length < sizeLine) (h0 : I 0 [] st)
    (hok : ∀ i acc st, I i acc st → ok st) (hend : ∀ acc st, I xs.length acc st → K acc st)
    (hstep : ∀ i x acc st R, xs[i]? = some x → I i acc st → (∀ y st', I (i + 1) (acc ++ [y]) st' → R (some y) st') → (∀ st', I (i + 1) acc st' → R none st') → step x st R) :
    lcK ok step K xs [] st := by
  have := lcK_at I hlen hok hend hstep xs.length 0 [] st (by omega) (by simp) h0
  simpa using this
/-- a comprehension that keeps a property of the store: the items by a plain function -/
theorem lcK_fm {ok : Sto → Prop} {step : D → Sto → (Option D → Sto → Prop) → Prop} {K : List D → Sto → Prop} {xs : List D} {st : Sto} (f : D → Option D) (J : Sto → Prop) (hlen : xs.length < sizeLine) (h0 : J st)
    (hok : ∀ st, J st → ok st) (hstep : ∀ x st R, x ∈ xs → J st → (∀ st', J st' → R (f x) st') → step x st R) (hend : ∀ st, J st → K (xs.filterMap f) st) :
    lcK ok step K xs [] st := by
  refine lcK_of (fun i acc st => acc = (xs.take i).filterMap f ∧ J st) hlen ⟨by simp, h0⟩ (fun _ _ _ h => hok _ h.2) (fun acc st h => by rw [h.1, List.take_length]; exact hend _ h.2) ?_
  rintro i x acc st R hx ⟨rfl, hJ⟩ h1 h2
  have hm : x ∈ xs := List.mem_of_getElem? hx
  refine hstep x st R hm hJ fun st' hJ' => ?_
  have ht : xs.take (i + 1) = xs.take i ++ [x] := by rw [List.take_add_one, hx] <;> rfl
  cases hf : f x with
  | none => exact h2 st' ⟨by rw [ht, List.filterMap_append]; simp [hf], hJ'⟩
  | some y => exact h1 y st' ⟨by rw [ht, List.filterMap_append]; simp [hf], hJ'⟩
/-- a comprehension whose items have a property -/
theorem lcK_all {ok : Sto → Prop} {step : D → Sto → (Option D → Sto → Prop) → Prop} {K : List D → Sto → Prop} {xs : List D} {st : Sto} (Pr : D → Prop) (J : Sto → Prop) (hlen : xs.length < sizeLine) (h0 : J st)
    (hok : ∀ st, J st → ok st) (hstep : ∀ x st R, x ∈ xs → J st → (∀ y st', Pr y → J st' → R (some y) st') → step x st R) (hend : ∀ acc st, acc.length = xs.length → (∀ y ∈ acc, Pr y) → J st → K acc st) :
    lcK ok step K xs [] st := by
  refine lcK_of (fun i acc st => acc.length = i ∧ (∀ y ∈ acc, Pr y) ∧ J st) hlen ⟨rfl, by simp, h0⟩ (fun _ _ _ h => hok _ h.2.2) (fun acc st h => hend _ _ h.1 h.2.1 h.2.2) ?_
  rintro i x acc st R hx ⟨rfl, hp, hJ⟩ h1 h2
  have hm : x ∈ xs := List.mem_of_getElem? hx
  refine hstep x st R hm hJ fun y st' hy hJ' => h1 y st' ⟨by simp, fun z hz => ?_, hJ'⟩
  rcases List.mem_append.mp hz with q | q
  · exact hp z q
  · rw [List.mem_singleton.mp q]; exact hy

/-! ### calls -/
theorem call_pos {P : Str → Option Fn} {C : Kst} {n : Nat} {f : Str} {fn : Fn} {vs : List D} {st : Sto} {K : D → Sto → Prop} (hP : P f = some fn) (hp : (vs.length, []) ∈ fn.pat) (hl : fn.ps.length = vs.length) (h : bodyF P C n f vs st K) : callF P C n f vs [] [] st K := by
  unfold callF callOf
  rw [hP]
  show if ([] : List Str) = askK then True else _
  rw [if_neg (by decide)]
  refine ⟨hp, rfl, ?_⟩
  unfold bindA
  rw [← hl, List.drop_length]
  unfold kwAll
  simpa using h
theorem body_in {P : Str → Option Fn} {C : Kst} {n : Nat} {f : Str} {fn : Fn} {vs : List D} {st : Sto} {K : D → Sto → Prop} (hP : P f = some fn) (hl : vs.length = fn.ps.length) (h : bodyK (callF P C n) C fn vs st K) : bodyF P C (n + 1) f vs st K := by
  unfold bodyF
  rw [hP]
  exact ⟨hl, h⟩


/-! ### one step -/
section
variable {F : Fs} {C : Kst} {σ : Env} {st : Sto} {K : D → Sto → Prop} {KB : Bool → Sto → Prop} {KL : List D → Sto → Prop} {k : Kt}
theorem x_nil (h : k.nx σ st) : evSs F C [] σ st k := by unfold evSs; exact h
theorem x_cons {s : S} {ss : List S} (h : evS F C s σ st { nx := fun σ' st' => evSs F C ss σ' st' k, rt := k.rt, bk := k.bk, ct := k.ct }) : evSs F C (s :: ss) σ st k := by unfold evSs; exact h
theorem x_asg {i : Nat} {e : E} (h : evE F C e σ st fun x st1 => k.nx (σ.set i (some x)) st1) : evS F C (.asg (.nm i) e) σ st k := by unfold evS; exact h
theorem x_asgT {gs : List G} {e : E} (h : evE F C e σ st fun x st1 => ∃ σ', bindG (.tup gs) x σ = some σ' ∧ k.nx σ' st1) (hF : MonoF F) : evS F C (.asg (.tup gs) e) σ st k := by
  unfold evS
  refine evE_mono hF _ _ _ _ _ (fun x st1 ⟨σ', e1, q⟩ => ?_) h
  rw [e1]
  exact q
theorem x_sub {o i e : E} (h : evE F C e σ st fun v st1 => evE F C o σ st1 fun x st2 => evE F C i σ st2 fun y st3 => setK x y v st3 fun st4 => k.nx σ st4) : evS F C (.sub o i e) σ st k := by unfold evS; exact h
theorem x_augA {i : Nat} {e : E} {n : Int} (h0 : σ[i]? = some (some (.int n))) (hF : MonoF F) (h : evE F C e σ st fun y st1 => ∃ m, y = .int m ∧ k.nx (σ.set i (some (.int (n + m)))) st1) : evS F C (.aug i .Add e) σ st k := by
  unfold evS
  rw [h0]
  refine evE_mono hF _ _ _ _ _ (fun x st1 ⟨m, e1, q⟩ => ?_) h
  subst e1
  exact q
theorem x_augS {i : Nat} {e : E} {n : Int} (h0 : σ[i]? = some (some (.int n))) (hF : MonoF F) (h : evE F C e σ st fun y st1 => ∃ m, y = .int m ∧ k.nx (σ.set i (some (.int (n - m)))) st1) : evS F C (.aug i .Sub e) σ st k := by
  unfold evS
  rw [h0]
  refine evE_mono hF _ _ _ _ _ (fun x st1 ⟨m, e1, q⟩ => ?_) h
  subst e1
  exact q
theorem x_ex {e : E} (h : evE F C e σ st fun _ st1 => k.nx σ st1) : evS F C (.ex e) σ st k := by unfold evS; exact h
theorem x_ret {e : E} (h : evE F C e σ st k.rt) : evS F C (.ret e) σ st k := by unfold evS; exact h
theorem x_retN (h : k.rt .non st) : evS F C .retN σ st k := by unfold evS; exact h
theorem x_iff {c : E} {a b : List S} (h : evT F C c σ st fun t st1 => if t = true then evSs F C a σ st1 k else evSs F C b σ st1 k) : evS F C (.iff c a b) σ st k := by unfold evS; exact h
theorem x_for {g : G} {kd : IK} {as : List E} {body : List S} (h : evEs F C as σ st fun vs st1 => itK C kd vs st1 fun xs ok =>
      forK ok (fun x σ1 st2 R => match bindG g x σ1 with
        | some σ2 => evSs F C body σ2 st2 { nx := R, rt := k.rt, bk := k.nx, ct := R }
        | none => False) k.nx xs σ st1) : evS F C (.for g kd as body) σ st k := by unfold evS; exact h
theorem x_whl {c : E} {body : List S} (h : ∃ n, whlK (fun σ1 st1 R => evT F C c σ1 st1 R) (fun σ1 st1 R => evSs F C body σ1 st1 { nx := R, rt := k.rt, bk := k.nx, ct := R }) k.nx n σ st) : evS F C (.whl c body) σ st k := by unfold evS; exact h
theorem x_pass (h : k.nx σ st) : evS F C .pass σ st k := by unfold evS; exact h
theorem x_brk (h : k.bk σ st) : evS F C .brk σ st k := by unfold evS; exact h
theorem x_cont (h : k.ct σ st) : evS F C .cont σ st k := by unfold evS; exact h
-- expressions
theorem x_var {i : Nat} {d : D} (h0 : σ[i]? = some (some d)) (h : K d st) : evE F C (.var i) σ st K := by unfold evE; rw [h0]; exact h
theorem x_non (h : K .non st) : evE F C .non σ st K := by unfold evE; exact h
theorem x_bl {b : Bool} (h : K (.bl b) st) : evE F C (.bl b) σ st K := by unfold evE; exact h
theorem x_int {b : Int} (h : K (.int b) st) : evE F C (.int b) σ st K := by unfold evE; exact h
theorem x_str {b : Str} (h : K (.str b) st) : evE F C (.str b) σ st K := by unfold evE; exact h
theorem x_bin {op : Operator} {a b : E} (h : evE F C a σ st fun x st1 => evE F C b σ st1 fun y st2 => binK op x y st2 K) : evE F C (.bin op a b) σ st K := by unfold evE; exact h
theorem x_neg {a : E} (h : evE F C a σ st fun x st1 => ∃ i, x = .int i ∧ K (.int (-i)) st1) (hF : MonoF F) : evE F C (.neg a) σ st K := by
  unfold evE
  refine evE_mono hF _ _ _ _ _ (fun x st1 ⟨m, e1, q⟩ => ?_) h
  subst e1
  exact q
theorem x_not {a : E} (h : evE F C a σ st fun x st1 => ∃ b, truD C st1 x = some b ∧ K (.bl !b) st1) (hF : MonoF F) : evE F C (.not a) σ st K := by
  unfold evE
  refine evE_mono hF _ _ _ _ _ (fun x st1 ⟨m, e1, q⟩ => ?_) h
  rw [e1]
  exact q
theorem x_cmp {op : CmpOp} {a b : E} (h : evE F C a σ st fun x st1 => evE F C b σ st1 fun y st2 => cmpK C op x y st2 K) : evE F C (.cmp op a b) σ st K := by unfold evE; exact h
theorem x_cmp2 {op op' : CmpOp} {a b c : E} (h : evE F C a σ st fun x st1 => evE F C b σ st1 fun y st2 => cmpK C op x y st2 fun r st3 => match r with
    | .bl true => evE F C c σ st3 fun z st4 => cmpK C op' y z st4 K
    | .bl false => K (.bl false) st3
    | _ => False) : evE F C (.cmp2 op op' a b c) σ st K := by unfold evE; exact h
theorem x_bop {op : BoolOp} {es : List E} (h : evB F C op es σ st K) : evE F C (.bop op es) σ st K := by unfold evE; exact h
theorem x_ite {c a b : E} (h : evT F C c σ st fun t st1 => if t = true then evE F C a σ st1 K else evE F C b σ st1 K) : evE F C (.ite c a b) σ st K := by unfold evE; exact h
theorem x_tup {es : List E} (h : evEs F C es σ st fun vs st1 => K (.tup vs) st1) : evE F C (.tup es) σ st K := by unfold evE; exact h
theorem x_lst {es : List E} (h : evEs F C es σ st fun vs st1 => newL vs st1 K) : evE F C (.lst es) σ st K := by unfold evE; exact h
theorem x_ix {a i : E} (h : evE F C a σ st fun x st1 => evE F C i σ st1 fun y st2 => ixK C x y st2 K) : evE F C (.ix a i) σ st K := by unfold evE; exact h
theorem x_call {f : Str} {as : List E} (h : evEs F C as σ st fun vs st1 => F f vs [] [] st1 K) : evE F C (.call f as [] []) σ st K := by
  unfold evE
  simp only [evEs]
  exact h
theorem x_blt {f : Str} {as : List E} (h : evEs F C as σ st fun vs st1 => bltK C f vs st1 K) : evE F C (.blt f as) σ st K := by unfold evE; exact h
theorem x_isi {e : E} {T : String} (h : evE F C e σ st fun x st1 => ∃ b, isiD T x = some b ∧ K (.bl b) st1) (hF : MonoF F) : evE F C (.isi e T) σ st K := by
  unfold evE
  refine evE_mono hF _ _ _ _ _ (fun x st1 ⟨m, e1, q⟩ => ?_) h
  rw [e1]
  exact q
theorem x_mth {T : MT} {m : Str} {o : E} {as : List E} (h : evE F C o σ st fun x st1 => tyK T x st1 ∧ evEs F C as σ st1 fun vs st2 => mthK T m x vs st2 K) : evE F C (.mth T m o as) σ st K := by unfold evE; exact h
theorem x_lc {elt : E} {g : G} {kd : IK} {as ifs : List E} {own : List Nat} (h : evEs F C as σ st fun vs st1 => itK C kd vs st1 fun xs ok =>
      lcK ok (fun x st2 R => match bindG g x (wipeE σ own) with
        | some σ2 => evTs F C ifs σ2 st2 fun b st3 => if b = true then evE F C elt σ2 st3 fun y st4 => R (some y) st4 else R none st3
        | none => False) (fun acc st' => newL acc st' K) xs [] st1) : evE F C (.lc elt g kd as ifs own) σ st K := by unfold evE; exact h
theorem x_enil (h : KL [] st) : evEs F C [] σ st KL := by unfold evEs; exact h
theorem x_econs {e : E} {es : List E} (h : evE F C e σ st fun x st1 => evEs F C es σ st1 fun xs st2 => KL (x :: xs) st2) : evEs F C (e :: es) σ st KL := by unfold evEs; exact h
-- and, or as values
theorem x_b1 {op : BoolOp} {e : E} (h : evE F C e σ st K) : evB F C op [e] σ st K := by unfold evB; exact h
theorem x_bcons {op : BoolOp} {e e2 : E} {es : List E} (h : evE F C e σ st fun x st1 => ∃ b, truD C st1 x = some b ∧ (if b = andB op then evB F C op (e2 :: es) σ st1 K else K x st1)) (hF : MonoF F) : evB F C op (e :: e2 :: es) σ st K := by
  unfold evB
  refine evE_mono hF _ _ _ _ _ (fun x st1 ⟨m, e1, q⟩ => ?_) h
  rw [e1]
  exact q
-- tests
theorem x_tnot {a : E} (h : evT F C a σ st fun b st1 => KB (!b) st1) : evT F C (.not a) σ st KB := by unfold evT; exact h
theorem x_tbop {op : BoolOp} {es : List E} (h : evBT F C op es σ st KB) : evT F C (.bop op es) σ st KB := by unfold evT; exact h
theorem x_tite {c a b : E} (h : evT F C c σ st fun t st1 => if t = true then evT F C a σ st1 KB else evT F C b σ st1 KB) : evT F C (.ite c a b) σ st KB := by unfold evT; exact h
theorem x_t {e : E} (hp : isPl e = true) (hF : MonoF F) (h : evE F C e σ st fun x st1 => ∃ b, truD C st1 x = some b ∧ KB b st1) : evT F C e σ st KB := by
  have h2 := evE_mono hF _ _ _ _ (K' := fun x st1 => match truD C st1 x with
    | some b => KB b st1
    | none => False) (fun x st1 ⟨m, e1, q⟩ => by rw [e1]; exact q) h
  cases e <;> first | (simp [isPl] at hp; done) | (unfold evT; exact h2)
theorem x_btnil {op : BoolOp} (h : KB (andB op) st) : evBT F C op [] σ st KB := by unfold evBT; exact h
theorem x_btcons {op : BoolOp} {e : E} {es : List E} (h : evT F C e σ st fun b st1 => if b = andB op then evBT F C op es σ st1 KB else KB b st1) : evBT F C op (e :: es) σ st KB := by unfold evBT; exact h
theorem x_ts0 (h : KB true st) : evTs F C [] σ st KB := by unfold evTs; exact h
theorem x_ts1 {e : E} (h : evT F C e σ st KB) : evTs F C [e] σ st KB := by unfold evTs; exact h
-- operations
theorem k_add {i j : Int} (h : K (.int (i + j)) st) : binK .Add (.int i) (.int j) st K := h
theorem k_sub {i j : Int} (h : K (.int (i - j)) st) : binK .Sub (.int i) (.int j) st K := h
theorem k_mul {i j : Int} (h : L2.CMul i j) (q : K (.int (i * j)) st) : binK .Mult (.int i) (.int j) st K := ⟨h, q⟩
theorem k_div {i j : Int} (h : 0 < j ∧ j < 1073741824) (q : K (.int (i / j)) st) : binK .FloorDiv (.int i) (.int j) st K := ⟨h, q⟩
theorem k_mod {i j : Int} (h : 0 < j) (q : K (.int (i % j)) st) : binK .Mod (.int i) (.int j) st K := ⟨h, q⟩
theorem k_eqI {i j : Int} (h : K (.bl (i == j)) st) : cmpK C .Eq (.int i) (.int j) st K := h
theorem k_neI {i j : Int} (h : K (.bl !(i == j)) st) : cmpK C .NotEq (.int i) (.int j) st K := h
theorem k_ltI {i j : Int} (h : K (.bl (decide (i < j))) st) : cmpK C .Lt (.int i) (.int j) st K := h
theorem k_leI {i j : Int} (h : K (.bl (decide (i ≤ j))) st) : cmpK C .LtE (.int i) (.int j) st K := h
theorem k_gtI {i j : Int} (h : K (.bl (decide (j < i))) st) : cmpK C .Gt (.int i) (.int j) st K := h
theorem k_geI {i j : Int} (h : K (.bl (decide (j ≤ i))) st) : cmpK C .GtE (.int i) (.int j) st K := h
theorem k_isN {x : D} (h : K (.bl (isNon x)) st) : cmpK C .Is x .non st K := by unfold cmpK; exact h
theorem k_isnN {x : D} (h : K (.bl !isNon x) st) : cmpK C .IsNot x .non st K := by unfold cmpK; exact h
theorem k_ixT {xs : List D} {i : Int} {v : D} (e : L2.atI xs i = some v) (h : K v st) : ixK C (.tup xs) (.int i) st K := by simp only [ixK, e]; exact h
theorem k_ixR {a : Addr} {xs : List D} {i : Int} {v : D} (r : rdL C st a = some xs) (e : L2.atI xs i = some v) (h : K v st) : ixK C (.ref a) (.int i) st K := by simp only [ixK, r, e]; exact h
theorem k_lenT {xs : List D} (h : K (.int xs.length) st) : bltK C "len" [.tup xs] st K := h
theorem k_lenR {a : Addr} {xs : List D} (r : rdL C st a = some xs) (h : K (.int xs.length) st) : bltK C "len" [.ref a] st K := by
  show match items C st (.ref a) with
    | some xs => K (.int xs.length) st
    | none => False
  simp only [items, r]
  exact h
theorem k_intI {i : Int} (h : K (.int i) st) : bltK C "int" [.int i] st K := h
theorem k_intB {b : Bool} (h : K (.int (if b then 1 else 0)) st) : bltK C "int" [.bl b] st K := h
theorem k_abs {i : Int} (h : K (.int (if i < 0 then -i else i)) st) : bltK C "abs" [.int i] st K := h
theorem k_max2 {i j : Int} (h : K (.int (if j > i then j else i)) st) : bltK C "max" [.int i, .int j] st K := h
theorem k_min2 {i j : Int} (h : K (.int (if j < i then j else i)) st) : bltK C "min" [.int i, .int j] st K := h
theorem k_tupR {a : Addr} {xs : List D} (r : rdL C st a = some xs) (h : K (.tup xs) st) : bltK C "tuple" [.ref a] st K := by
  show match items C st (.ref a) with
    | some xs => K (.tup xs) st
    | none => False
  simp only [items, r]
  exact h
theorem k_sumR {a : Addr} {xs : List D} {ns : List Int} (r : rdL C st a = some xs) (e : allInts xs = some ns) (h : K (.int ns.sum) st) : bltK C "sum" [.ref a] st K := by
  show match rdL C st a with
    | some xs => ∃ ns, allInts xs = some ns ∧ K (.int ns.sum) st
    | none => False
  rw [r]
  exact ⟨ns, e, h⟩
theorem k_app {a : Addr} {xs : List D} {y : D} (r : st a = some (.lst xs)) (z : xs.length < sizeLine) (h : K .non (put st a (.lst (xs ++ [y])))) : mthK .list "append" (.ref a) [y] st K := by
  show match st a, [y] with
    | some (.lst xs), [y] => xs.length < sizeLine ∧ K .non (put st a (.lst (xs ++ [y])))
    | _, _ => False
  rw [r]
  exact ⟨z, h⟩
theorem k_ext {a b : Addr} {xs ys : List D} (r : st a = some (.lst xs)) (r2 : st b = some (.lst ys)) (z : xs.length + ys.length ≤ sizeLine) (h : K .non (put st a (.lst (xs ++ ys)))) : mthK .list "extend" (.ref a) [.ref b] st K := by
  show match st a, [D.ref b] with
    | some (.lst xs), [.ref b] => (match st b with
        | some (.lst ys) => xs.length + ys.length ≤ sizeLine ∧ K .non (put st a (.lst (xs ++ ys)))
        | _ => False)
    | _, _ => False
  rw [r]
  simp only []
  rw [r2]
  exact ⟨z, h⟩
theorem k_ty {a : Addr} {xs : List D} (r : st a = some (.lst xs)) : tyK .list (.ref a) st := by
  show match st a with
    | some (.lst _) => True
    | _ => False
  rw [r] <;> trivial
theorem k_set {a : Addr} {xs : List D} {i : Int} {v : D} {j : Nat} {KS : Sto → Prop} (r : st a = some (.lst xs)) (e : L2.ixN xs.length i = some j) (h : KS (put st a (.lst (xs.set j v)))) : setK (.ref a) (.int i) v st KS := by
  show match st a with
    | some (.lst xs) => (match L2.ixN xs.length i with
      | some j => KS (put st a (.lst (xs.set j v)))
      | none => False)
    | _ => dputK (.ref a) (.int i) v st KS
  rw [r]
  simp only []
  rw [e]
  exact h
-- walks
theorem i_seqT {xs : List D} {R : List D → (Sto → Prop) → Prop} (h : R xs fun _ => True) : itK C .seq [.tup xs] st R := h
theorem i_seqR {a : Addr} {xs : List D} {R : List D → (Sto → Prop) → Prop} (r : rdL C st a = some xs) (h : R xs fun st' => rdL C st' a = some xs) : itK C .seq [.ref a] st R := by
  show match rdL C st a with
    | some xs => R xs fun st' => rdL C st' a = some xs
    | none => False
  rw [r]
  exact h
theorem i_range {n : Int} {R : List D → (Sto → Prop) → Prop} (h1 : -(2 ^ 62) ≤ n) (h2 : n < 2 ^ 62) (h : R ((List.range n.toNat).map fun (i : Nat) => .int i) fun _ => True) : itK C .range [.int n] st R := ⟨h1, h2, h⟩
theorem i_range2 {m n : Int} {R : List D → (Sto → Prop) → Prop} (h1 : -(2 ^ 62) ≤ m ∧ m < 2 ^ 62 ∧ -(2 ^ 62) ≤ n ∧ n < 2 ^ 62) (h : R ((List.range (n - m).toNat).map fun (i : Nat) => .int (m + i)) fun _ => True) : itK C .range [.int m, .int n] st R := ⟨h1, h⟩
theorem i_enumT {xs : List D} {R : List D → (Sto → Prop) → Prop} (h : R (xs.zipIdx.map fun p => .tup [.int p.2, p.1]) fun _ => True) : itK C .enum [.tup xs] st R := h
-- reading
theorem rd_of {a : Addr} {xs : List D} (h : st a = some (.lst xs)) : rdL C st a = some xs := by unfold rdL; rw [h]
theorem rd_put {a : Addr} {xs : List D} : rdL C (put st a (.lst xs)) a = some xs := rd_of put_same
theorem rd_ne {a b : Addr} {o : O} {xs : List D} (h : b ≠ a) (k : rdL C st b = some xs) : rdL C (put st a o) b = some xs := by
  unfold rdL at k ⊢
  rw [put_ne h]
  exact k
theorem st_ne {a b : Addr} {o u : O} (h : b ≠ a) (k : st b = some u) : put st a o b = some u := by rw [put_ne h]; exact k
theorem atN {xs : List D} {i : Nat} {v : D} (h : xs[i]? = some v) : L2.atI xs (i : Int) = some v := by
  have hi : i < xs.length := by
    rcases Nat.lt_or_ge i xs.length with q | q
    · exact q
    · rw [List.getElem?_eq_none q] at h; cases h
  unfold L2.atI L2.ixN
  rw [if_pos (by omega), if_pos (by omega)]
  simpa using h
theorem atZ {xs : List D} {i : Int} {v : D} (h0 : 0 ≤ i) (h : xs[i.toNat]? = some v) : L2.atI xs i = some v := by
  have := atN h
  rwa [Int.toNat_of_nonneg h0] at this
theorem at0 {x : D} {xs : List D} : L2.atI (x :: xs) 0 = some x := atN (i := 0) rfl
theorem at1 {x y : D} {xs : List D} : L2.atI (x :: y :: xs) 1 = some y := atN (i := 1) rfl
theorem at2 {x y z : D} {xs : List D} : L2.atI (x :: y :: z :: xs) 2 = some z := atN (i := 2) rfl
theorem at_in {α : Type} {f : α → D} {xs : List α} {i : Int} (h0 : 0 ≤ i) (h1 : i < xs.length) : ∃ x, x ∈ xs ∧ xs[i.toNat]? = some x ∧ L2.atI (xs.map f) i = some (f x) := by
  have hi : i.toNat < xs.length := by omega
  refine ⟨xs[i.toNat], List.getElem_mem hi, List.getElem?_eq_getElem hi, atZ h0 ?_⟩
  rw [List.getElem?_map, List.getElem?_eq_getElem hi] <;> rfl
end
/-! ### the flow of numbers -/
/-- all but what stands at a is as it was -/
def Ext (a : Addr) (st st' : Sto) : Prop := ∀ q u, q ≠ a → st q = some u → st' q = some u
theorem Ext.refl {a : Addr} {st : Sto} : Ext a st st := fun _ _ _ h => h
theorem Ext.trans {a : Addr} {s t u : Sto} (h : Ext a s t) (k : Ext a t u) : Ext a s u := fun q o n e => k q o n (h q o n e)
theorem Ext.put {a : Addr} {st : Sto} {o : O} : Ext a st (put st a o) := fun q u n e => by rw [put_ne n]; exact e
theorem Ext.new {a p : Addr} {st : Sto} {o : O} (hp : st p = none) : Ext a st (MP.put st p o) := fun q u n e => by
  have : q ≠ p := fun z => by rw [z, hp] at e; cases e
  rw [put_ne this]; exact e
theorem Ext.of {a : Addr} {s t : Sto} (h : Sub s t) : Ext a s t := fun q o _ e => h q o e
def FlowAt (st : Sto) (a : Addr) : Prop := ∃ (g c i t : Int) (b : Addr) (cells : List Int), st a = some (.lst [.int g, .int c, .int i, .int t, .ref b]) ∧ st b = some (.lst (cells.map .int)) ∧ 0 ≤ i
def b_draw : List S := [
  .sub (.var 0) (.int 3) (.bin .Add (.ix (.var 0) (.int 3)) (.int 1)),
  .iff (.bop .And [.cmp .Eq (.ix (.var 0) (.int 1)) (.int 0), .cmp .Lt (.ix (.var 0) (.int 2)) (.blt "len" [.ix (.var 0) (.int 4)]), .cmp .GtE (.ix (.ix (.var 0) (.int 4)) (.ix (.var 0) (.int 2))) (.bin .Pow (.int 10) (.int 18))]) [
    .sub (.var 0) (.int 0) (.ix (.ix (.var 0) (.int 4)) (.ix (.var 0) (.int 2))),
    .sub (.var 0) (.int 1) (.int 60),
    .sub (.var 0) (.int 2) (.bin .Add (.ix (.var 0) (.int 2)) (.int 1))] [],
  .iff (.cmp .Gt (.ix (.var 0) (.int 1)) (.int 0)) [
    .asg (.nm 5) (.bin .Mod (.blt "int" [.ix (.var 0) (.int 0)]) (.var 1)),
    .sub (.var 0) (.int 0) (.bin .FloorDiv (.ix (.var 0) (.int 0)) (.var 1)),
    .sub (.var 0) (.int 1) (.bin .Mult (.bin .Sub (.ix (.var 0) (.int 1)) (.int 1)) (.blt "int" [.cmp .Gt (.ix (.var 0) (.int 0)) (.int 0)])),
    .ret (.var 5)] [],
  .asg (.nm 2) (.int 7),
  .iff (.cmp .Gt (.blt "len" [.ix (.var 0) (.int 4)]) (.int 0)) [
    .asg (.nm 2) (.ix (.ix (.var 0) (.int 4)) (.bin .Mod (.blt "int" [.ix (.var 0) (.int 2)]) (.blt "len" [.ix (.var 0) (.int 4)]))),
    .sub (.var 0) (.int 2) (.bin .Add (.ix (.var 0) (.int 2)) (.int 1))] [],
  .asg (.nm 3) (.bin .Mod (.blt "int" [.bin .Add (.bin .Mult (.var 2) (.int 48271)) (.bin .Mult (.ix (.var 0) (.int 3)) (.int 69621))]) (.int 2147483647)),
  .asg (.nm 4) (.bin .Mod (.blt "int" [.bin .Add (.bin .Mult (.var 3) (.var 3)) (.bin .Mult (.ix (.var 0) (.int 3)) (.int 40692))]) (.int 2147483399)),
  .ret (.bin .Mod (.blt "int" [.bin .Mod (.blt "int" [.bin .Add (.bin .Mult (.var 4) (.var 4)) (.var 3)]) (.int 2147483647)]) (.var 1))]
def f_draw : Fn := { ps := ["flow", "many"], nv := 6, pat := [(2, [])], body := b_draw }
end MP

set_option Elab.async false
set_option linter.all false
set_option maxRecDepth 100000
set_option maxHeartbeats 8000000
/-! MpTd: the rules for dicts. -/
namespace MP
open PySem PySem.Spec
section
variable {F : Fs} {C : Kst} {σ : Env} {st : Sto} {K : D → Sto → Prop} {k : Kt}
theorem x_dnew (h : ∀ p, st p = none → K (.ref p) (put st p (.dct []))) : evE F C .dnew σ st K := by unfold evE; exact h
theorem x_dc {kx vx : E} {g : G} {kd : IK} {as ifs : List E} {own : List Nat} (h : evEs F C as σ st fun vs st1 => itK C kd vs st1 fun xs ok =>
      dcK keyOf ok (fun x st2 R => match bindG g x (wipeE σ own) with
        | some σ2 => evTs F C ifs σ2 st2 fun b st3 => if b = true then evE F C kx σ2 st3 fun y st4 => evE F C vx σ2 st4 fun z st5 => R (some (y, z)) st5 else R none st3
        | none => False) (fun kvs st' => ∀ p, st' p = none → K (.ref p) (put st' p (.dct kvs))) xs [] st1) : evE F C (.dc kx vx g kd as ifs own) σ st K := by unfold evE; exact h
theorem x_dcT {kx vx : E} {g : G} {kd : IK} {as ifs : List E} {own : List Nat} (h : evEs F C as σ st fun vs st1 => itK C kd vs st1 fun xs ok =>
      dcK keyT ok (fun x st2 R => match bindG g x (wipeE σ own) with
        | some σ2 => evTs F C ifs σ2 st2 fun b st3 => if b = true then evE F C kx σ2 st3 fun y st4 => evE F C vx σ2 st4 fun z st5 => R (some (y, z)) st5 else R none st3
        | none => False) (fun kvs st' => ∀ p, st' p = none → K (.ref p) (put st' p (.dcT kvs))) xs [] st1) : evE F C (.dcT kx vx g kd as ifs own) σ st K := by unfold evE; exact h
/-- the turns of a dict's comprehension, its pairs by a plain function -/
theorem dcK_mapG {κ : Type} [DecidableEq κ] {kf : D → Option κ} {kd : κ → D} (hkf : ∀ k, kf (kd k) = some k) {ok : Sto → Prop} {step : D → Sto → (Option (D × D) → Sto → Prop) → Prop} {KK : List (κ × D) → Sto → Prop} (f : D → κ × D) (J : Sto → Prop) (hok : ∀ st, J st → ok st) : ∀ (xs : List D) (acc : List (κ × D)) (st : Sto), acc.length + xs.length < sizeLine → J st →
    (∀ x st R, x ∈ xs → J st → (∀ st', J st' → R (some (kd (f x).1, (f x).2)) st') → step x st R) → (∀ st, J st → KK (xs.foldl (fun a x => putD a (f x).1 (f x).2) acc) st) → dcK kf ok step KK xs acc st
  | [], acc, st, hz, hJ, hs, he => ⟨hok _ hJ, he _ hJ⟩
  | x :: xs, acc, st, hz, hJ, hs, he => by
    refine ⟨hok _ hJ, hs x st _ List.mem_cons_self hJ fun st' hJ' => ⟨st', Sub.refl, ?_, ?_⟩⟩
    · rw [List.length_cons] at hz
      omega
    · rw [hkf]
      refine dcK_mapG hkf f J hok xs _ st' ?_ hJ' (fun y st R hy => hs y st R (List.mem_cons_of_mem _ hy)) he
      have hl : (putD acc (f x).1 (f x).2).length ≤ acc.length + 1 := by
        unfold putD
        split
        · rw [List.length_map]
          omega
        · rw [List.length_append] <;> simp
      rw [List.length_cons] at hz
      omega
theorem dcK_map {ok : Sto → Prop} {step : D → Sto → (Option (D × D) → Sto → Prop) → Prop} {KK : List (L2.Key × D) → Sto → Prop} (f : D → L2.Key × D) (J : Sto → Prop) (hok : ∀ st, J st → ok st) (xs : List D) (acc : List (L2.Key × D)) (st : Sto) (hz : acc.length + xs.length < sizeLine) (hJ : J st)
    (hs : ∀ x st R, x ∈ xs → J st → (∀ st', J st' → R (some (keyD (f x).1, (f x).2)) st') → step x st R) (he : ∀ st, J st → KK (xs.foldl (fun a x => putD a (f x).1 (f x).2) acc) st) : dcK keyOf ok step KK xs acc st :=
  dcK_mapG (kd := keyD) (fun k => by cases k <;> rfl) f J hok xs acc st hz hJ hs he
theorem x_ford {g : G} {i : Nat} {body : List S} {a : Addr} {kvs : List (L2.Key × D)} (e1 : σ[i]? = some (some (.ref a))) (e2 : st a = some (.dct kvs))
    (h : ∀ u : L2.HO, forK (fun st' => st' a = some (.lck u kvs)) (fun x σ1 st2 R => match bindG g x σ1 with
          | some σ2 => evSs F C body σ2 st2 { nx := R, rt := fun d st' => st' a = some (.lck u kvs) ∧ k.rt d (put st' a (.dct kvs)), bk := fun σ' st' => st' a = some (.lck u kvs) ∧ k.nx σ' (put st' a (.dct kvs)), ct := R }
          | none => False) (fun σ' st' => k.nx σ' (put st' a (.dct kvs))) (kvs.map fun kv => keyD kv.1) σ (put st a (.lck u kvs))) : evS F C (.ford g i body) σ st k := by
  unfold evS
  rw [e1]
  show (match st a with
    | some (.dct kvs) => _
    | _ => False)
  rw [e2]
  exact h
theorem dct_of {a : Addr} {kvs : List (L2.Key × D)} (e : st a = some (.dct kvs)) : dctOf st (.ref a) = some kvs := by
  show (match st a with
    | some (.dct kvs) => some kvs
    | some (.lck _ kvs) => some kvs
    | _ => none) = some kvs
  rw [e]
theorem lck_of {a : Addr} {u : L2.HO} {kvs : List (L2.Key × D)} (e : st a = some (.lck u kvs)) : dctOf st (.ref a) = some kvs := by
  show (match st a with
    | some (.dct kvs) => some kvs
    | some (.lck _ kvs) => some kvs
    | _ => none) = some kvs
  rw [e]
theorem rd_dct {a : Addr} {kvs : List (L2.Key × D)} (e : dctOf st (.ref a) = some kvs) : rdL C st a = none := by
  have e' : (match st a with
    | some (.dct kvs) => some kvs
    | some (.lck _ kvs) => some kvs
    | _ => none) = some kvs := e
  unfold rdL
  split at e'
  · rename_i h
    rw [h]
  · rename_i h
    rw [h]
  · cases e'
theorem k_inD {a : Addr} {x : D} {kvs : List (L2.Key × D)} {kk : L2.Key} (e : dctOf st (.ref a) = some kvs) (ek : keyOf x = some kk) (h : K (.bl (lookD kvs kk).isSome) st) : cmpK C .In x (.ref a) st K := by
  unfold cmpK
  show (match rdL C st a with
    | some xs => _
    | none => dinK false x (.ref a) st K)
  rw [rd_dct e]
  show dinK false x (.ref a) st K
  unfold dinK
  rw [e, ek]
  exact h
theorem k_ixD {a : Addr} {x v : D} {kvs : List (L2.Key × D)} {kk : L2.Key} (e : dctOf st (.ref a) = some kvs) (ek : keyOf x = some kk) (ev : lookD kvs kk = some v) (h : K v st) : ixK C (.ref a) x st K := by
  have key : dixK (.ref a) x st K := by
    unfold dixK
    rw [e, ek]
    show (match lookD kvs kk with
      | some v => K v st
      | none => False)
    rw [ev]
    exact h
  cases x with
  | int i =>
    show (match rdL C st a with
      | some xs => _
      | none => dixK (.ref a) (.int i) st K)
    rw [rd_dct e]
    exact key
  | _ => exact key
theorem k_setD {a : Addr} {x v : D} {kvs : List (L2.Key × D)} {kk : L2.Key} {KS : Sto → Prop} (e : st a = some (.dct kvs)) (ek : keyOf x = some kk) (hz : kvs.length < sizeLine) (h : KS (put st a (.dct (putD kvs kk v)))) : setK (.ref a) x v st KS := by
  have key : dputK (.ref a) x v st KS := by
    unfold dputK
    rw [ek]
    show (match st a with
      | some (.dct kvs) => kvs.length < sizeLine ∧ KS (put st a (.dct (putD kvs kk v)))
      | _ => False)
    rw [e]
    exact ⟨hz, h⟩
  cases x with
  | int i =>
    show (match st a with
      | some (.lst xs) => _
      | _ => dputK (.ref a) (.int i) v st KS)
    rw [e]
    exact key
  | _ => exact key
theorem k_tyD {a : Addr} {kvs : List (L2.Key × D)} (e : dctOf st (.ref a) = some kvs) : tyK .dict (.ref a) st := by
  show (match dctOf st (.ref a) with
    | some _ => True
    | none => match tctOf st (.ref a) with
      | some _ => True
      | none => False)
  rw [e] <;> trivial
theorem k_get2 {a : Addr} {x d : D} {kvs : List (L2.Key × D)} {kk : L2.Key} (e : dctOf st (.ref a) = some kvs) (ek : keyOf x = some kk) (h : K ((lookD kvs kk).getD d) st) : mthK .dict "get" (.ref a) [x, d] st K := by
  show dmthK "get" (.ref a) [x, d] st K
  unfold dmthK
  rw [if_neg (by decide), if_pos rfl]
  show (match dctOf st (.ref a), keyOf x with
    | some kvs, some k => K ((lookD kvs k).getD d) st
    | _, _ => False)
  rw [e, ek]
  exact h
theorem k_get1 {a : Addr} {x : D} {kvs : List (L2.Key × D)} {kk : L2.Key} (e : dctOf st (.ref a) = some kvs) (ek : keyOf x = some kk) (h : K ((lookD kvs kk).getD .non) st) : mthK .dict "get" (.ref a) [x] st K := by
  show dmthK "get" (.ref a) [x] st K
  unfold dmthK
  rw [if_neg (by decide), if_pos rfl]
  show (match dctOf st (.ref a), keyOf x with
    | some kvs, some k => K ((lookD kvs k).getD .non) st
    | _, _ => False)
  rw [e, ek]
  exact h
theorem k_setdf {a : Addr} {x d : D} {kvs : List (L2.Key × D)} {kk : L2.Key} (e : st a = some (.dct kvs)) (ek : keyOf x = some kk) (hz : kvs.length < sizeLine) (h1 : ∀ v, lookD kvs kk = some v → K v st) (h2 : lookD kvs kk = none → K d (put st a (.dct (putD kvs kk d)))) : mthK .dict "setdefault" (.ref a) [x, d] st K := by
  show dmthK "setdefault" (.ref a) [x, d] st K
  unfold dmthK
  rw [if_neg (by decide), if_neg (by decide), if_pos rfl]
  show (match D.ref a, keyOf x with
    | .ref a, some k => (match st a with
      | some (.dct kvs) => kvs.length < sizeLine ∧ (match lookD kvs k with
        | some v => K v st
        | none => K d (put st a (.dct (putD kvs k d))))
      | _ => False)
    | _, _ => False)
  rw [ek]
  show (match st a with
      | some (.dct kvs) => kvs.length < sizeLine ∧ (match lookD kvs kk with
        | some v => K v st
        | none => K d (put st a (.dct (putD kvs kk d))))
      | _ => False)
  rw [e]
  refine ⟨hz, ?_⟩
  cases el : lookD kvs kk with
  | some v => exact h1 v el
  | none => exact h2 el
theorem k_bitl {i : Int} (h : K (.int (Builtin.Int.intBits i : Nat)) st) : bltK C "bitlen" [.int i] st K := by
  unfold bltK
  rw [if_neg (by decide), if_neg (by decide), if_neg (by decide), if_neg (by decide), if_neg (by decide), if_neg (by decide), if_neg (by decide), if_neg (by decide)]
  unfold bltK2
  rw [if_neg (by decide), if_neg (by decide), if_neg (by decide), if_pos rfl]
  exact h
theorem k_sorted {x : D} {xs : List D} {ns : List Int} (e : items C st x = some xs) (e2 : allInts xs = some ns) (h : ∀ ms : List Int, ms.Perm ns → ms.Pairwise (· ≤ ·) → newL (ms.map .int) st K) : bltK C "sorted" [x] st K := by
  unfold bltK
  rw [if_neg (by decide), if_neg (by decide), if_neg (by decide), if_neg (by decide), if_neg (by decide), if_neg (by decide), if_neg (by decide), if_neg (by decide)]
  unfold bltK2
  rw [if_neg (by decide), if_neg (by decide), if_pos rfl]
  show (match items C st x with
    | some xs => ∃ ns, allInts xs = some ns ∧ ∀ ms : List Int, ms.Perm ns → ms.Pairwise (· ≤ ·) → newL (ms.map .int) st K
    | none => False)
  rw [e]
  exact ⟨ns, e2, h⟩
end
/-! ### tables -/
theorem lookD_put {κ : Type} [DecidableEq κ] (kvs : List (κ × D)) (k j : κ) (v : D) : lookD (putD kvs k v) j = if j = k then some v else lookD kvs j := by
  have rep : ∀ kvs : List (κ × D), lookD (kvs.map fun kv => if kv.1 = k then (kv.1, v) else kv) j = (lookD kvs j).map fun x => if j = k then v else x := by
    intro kvs
    induction kvs with
    | nil => rfl
    | cons p r ih =>
      unfold lookD at ih ⊢
      rw [List.map_cons]
      by_cases e : p.1 = k
      · rw [if_pos e]
        by_cases e2 : p.1 = j
        · have ej : j = k := e2.symm.trans e
          simp [List.find?_cons, e2, ej]
        · simp only [List.find?_cons, e2, decide_false]
          exact ih
      · rw [if_neg e]
        by_cases e2 : p.1 = j
        · have ej : ¬ j = k := fun z => e (e2.trans z)
          simp [List.find?_cons, e2, ej]
        · simp only [List.find?_cons, e2, decide_false]
          exact ih
  have any : (kvs.any fun kv => decide (kv.1 = k)) = (lookD kvs k).isSome := by
    clear rep
    induction kvs with
    | nil => rfl
    | cons p r ih =>
      unfold lookD at ih ⊢
      by_cases e : p.1 = k
      · simp [List.find?_cons, e]
      · simp only [List.any_cons, List.find?_cons, e, decide_false, Bool.false_or]
        exact ih
  have snoc : ∀ kvs : List (κ × D), lookD (kvs ++ [(k, v)]) j = (lookD kvs j).or (if j = k then some v else none) := by
    intro kvs
    unfold lookD
    rw [List.find?_append]
    cases e : kvs.find? fun kv => decide (kv.1 = j) with
    | some p => simp
    | none =>
      by_cases ej : j = k
      · subst ej
        simp
      · have : ¬ k = j := fun z => ej z.symm
        simp [ej, this]
  unfold putD
  rw [any]
  cases e : lookD kvs k with
  | some w =>
    rw [if_pos (by rfl), rep]
    by_cases ej : j = k
    · subst ej
      rw [e]
      simp
    · simp [ej]
  | none =>
    rw [if_neg (by simp), snoc]
    by_cases ej : j = k
    · subst ej
      rw [e]
      simp
    · simp [ej]
end MP

set_option Elab.async false
set_option linter.all false
set_option maxRecDepth 100000
set_option maxHeartbeats 8000000
/-! MpTc: the rules for instances, their methods, for dicts whose keys are tuples, for list(range(n)). -/
namespace MP
open PySem PySem.Spec
section
variable {F : Fs} {C : Kst} {σ : Env} {st : Sto} {K : D → Sto → Prop} {k : Kt}
def fldK (f : Str) (x : D) (st : Sto) (K : D → Sto → Prop) : Prop := match insOf st x with
    | some (_, fs) => (match fs.lookup f with
      | some v => K v st
      | none => False)
    | none => False
theorem x_fld {o : E} {f : Str} (h : evE F C o σ st fun x st1 => fldK f x st1 K) : evE F C (.fld o f) σ st K := by unfold evE; exact h
theorem ins_of {a : Addr} {c : Str} {fs : List (Str × D)} (e : st a = some (.ins c fs)) : insOf st (.ref a) = some (c, fs) := by
  show (match st a with
    | some (.ins C fs) => some (C, fs)
    | _ => none) = some (c, fs)
  rw [e]
theorem k_fld {f : Str} {a : Addr} {c : Str} {fs : List (Str × D)} {v : D} (e : st a = some (.ins c fs)) (el : fs.lookup f = some v) (h : K v st) : fldK f (.ref a) st K := by
  unfold fldK
  rw [ins_of e]
  show (match fs.lookup f with
    | some v => K v st
    | none => False)
  rw [el]
  exact h
/-- the object of a method call -/
def umK (F : Fs) (C : Kst) (m : Str) (as : List E) (σ : Env) (x : D) (st : Sto) (K : D → Sto → Prop) : Prop := match insOf st x with
    | some (c, fs) => fs.lookup m = none ∧ F (mname c m) [] askK [] st (fun _ _ => False) ∧ evEs F C as σ st fun vs st2 => F (mname c m) (x :: vs) [] [] st2 K
    | none => False
theorem x_um {o : E} {m : Str} {as : List E} (h : evE F C o σ st fun x st1 => umK F C m as σ x st1 K) : evE F C (.um o m as) σ st K := by unfold evE; exact h
theorem k_um {a : Addr} {c m : Str} {fs : List (Str × D)} {as : List E} (e : st a = some (.ins c fs)) (el : fs.lookup m = none) (hq : F (mname c m) [] askK [] st (fun _ _ => False)) (h : evEs F C as σ st fun vs st2 => F (mname c m) (.ref a :: vs) [] [] st2 K) : umK F C m as σ (.ref a) st K := by
  unfold umK
  rw [ins_of e]
  exact ⟨el, hq, h⟩
theorem ask_ok {P : Str → Option Fn} {n : Nat} {f : Str} {fn : Fn} (hP : P f = some fn) : callF P C n f [] askK [] st K := by
  unfold callF callOf
  rw [hP]
  show if askK = askK then True else _
  rw [if_pos rfl] <;> trivial
def sflK (f : Str) (v x : D) (st : Sto) (KS : Sto → Prop) : Prop := match x with
    | .ref a => (match st a with
      | some (.ins c fs) => fs.length < 1000 ∧ KS (put st a (.ins c (putFD f v fs)))
      | _ => False)
    | _ => False
theorem x_sfl {o e : E} {f : Str} (h : evE F C e σ st fun v st1 => evE F C o σ st1 fun x st2 => sflK f v x st2 fun st3 => k.nx σ st3) : evS F C (.sfl o f e) σ st k := by unfold evS; exact h
theorem k_sfl {f : Str} {v : D} {a : Addr} {c : Str} {fs : List (Str × D)} {KS : Sto → Prop} (e : st a = some (.ins c fs)) (hz : fs.length < 1000) (h : KS (put st a (.ins c (putFD f v fs)))) : sflK f v (.ref a) st KS := by
  show (match st a with
      | some (.ins c fs) => fs.length < 1000 ∧ KS (put st a (.ins c (putFD f v fs)))
      | _ => False)
  rw [e]
  exact ⟨hz, h⟩
/-- a class called -/
theorem call_new {P : Str → Option Fn} {n : Nat} {f : Str} {fn gn : Fn} {vs : List D} (hP : P f = some fn) (hb : fn.body = [.new f]) (hp : (vs.length, []) ∈ fn.pat) (hl : fn.ps.length = vs.length) (hv : fn.nv = vs.length) (hI : P (mname f "__init__") = some gn) (hp2 : (vs.length + 1, []) ∈ gn.pat) (hl2 : gn.ps.length = vs.length + 1)
    (h : ∀ p, st p = none → bodyF P C n (mname f "__init__") (.ref p :: vs) (put st p (.ins f [])) fun d st1 => d = .non ∧ K (.ref p) st1) : callF P C (n + 1) f vs [] [] st K := by
  refine call_pos hP hp hl ?_
  unfold bodyF
  rw [hP]
  refine ⟨hl.symm, ?_⟩
  unfold bodyK
  rw [hb, hv]
  unfold evSs
  unfold evS
  have e : (startE vs.length vs).filterMap id = vs := by
    unfold startE
    rw [Nat.sub_self, List.replicate_zero, List.append_nil, List.filterMap_map]
    show vs.filterMap (fun x => some x) = vs
    exact List.filterMap_some
  rw [e]
  intro p hp'
  refine call_pos hI hp2 hl2 (bodyF_mono P C n _ _ _ _ _ (fun d st1 ⟨q1, q2⟩ => ⟨q1, st1, Sub.refl, q2⟩) (h p hp'))
/-! ### dicts of tuples -/
theorem tct_of {a : Addr} {kvs : List (List L2.Key × D)} (e : st a = some (.dcT kvs)) : tctOf st (.ref a) = some kvs := by
  show (match st a with
    | some (.dcT kvs) => some kvs
    | _ => none) = some kvs
  rw [e]
theorem k_tyT {a : Addr} {kvs : List (List L2.Key × D)} (e : st a = some (.dcT kvs)) : tyK .dict (.ref a) st := by
  have e1 : dctOf st (.ref a) = none := by
    show (match st a with
    | some (.dct kvs) => some kvs
    | some (.lck _ kvs) => some kvs
    | _ => none) = none
    rw [e]
  show (match dctOf st (.ref a) with
    | some _ => True
    | none => match tctOf st (.ref a) with
      | some _ => True
      | none => False)
  rw [e1]
  show (match tctOf st (.ref a) with
      | some _ => True
      | none => False)
  rw [tct_of e] <;> trivial
theorem k_tget {a : Addr} {y d : D} {kvs : List (List L2.Key × D)} {kk : List L2.Key} (e : st a = some (.dcT kvs)) (ek : keyT y = some kk) (h : K ((lookD kvs kk).getD d) st) : mthK .dict "tget" (.ref a) [y, d] st K := by
  show dmthK "tget" (.ref a) [y, d] st K
  unfold dmthK
  rw [if_pos rfl]
  show (match tctOf st (.ref a), keyT y with
    | some kvs, some k => K ((lookD kvs k).getD d) st
    | _, _ => False)
  rw [tct_of e, ek]
  exact h
theorem k_dlit {vs : List D} {kvs : List (L2.Key × D)} (e : pairsD vs = some kvs) (h : ∀ p, st p = none → K (.ref p) (put st p (.dct (mergeD [] kvs)))) : bltK C "dlit" vs st K := by
  unfold bltK
  rw [if_neg (by decide), if_neg (by decide), if_neg (by decide), if_neg (by decide), if_neg (by decide), if_neg (by decide), if_neg (by decide), if_neg (by decide)]
  unfold bltK2
  rw [if_neg (by decide), if_neg (by decide), if_neg (by decide), if_neg (by decide), if_neg (by decide), if_neg (by decide), if_pos rfl, e]
  exact h
theorem k_tdict (h : ∀ p, st p = none → K (.ref p) (put st p (.dcT []))) : bltK C "tdict" [] st K := by
  unfold bltK
  rw [if_neg (by decide), if_neg (by decide), if_neg (by decide), if_neg (by decide), if_neg (by decide), if_neg (by decide), if_neg (by decide), if_neg (by decide)]
  unfold bltK2
  rw [if_neg (by decide), if_neg (by decide), if_neg (by decide), if_neg (by decide), if_pos rfl]
  exact h
theorem k_lrange {n : Int} (h1 : -(2 ^ 62) ≤ n) (h2 : n < 2 ^ 62) (h3 : n.toNat ≤ sizeLine) (h : newL ((List.range n.toNat).map fun (i : Nat) => .int i) st K) : bltK C "lrange" [.int n] st K := by
  unfold bltK
  rw [if_neg (by decide), if_neg (by decide), if_neg (by decide), if_neg (by decide), if_neg (by decide), if_neg (by decide), if_neg (by decide), if_neg (by decide)]
  unfold bltK2
  rw [if_neg (by decide), if_neg (by decide), if_neg (by decide), if_neg (by decide), if_neg (by decide), if_pos rfl]
  exact ⟨h1, h2, h3, h⟩
theorem k_setT {a : Addr} {y v : D} {kvs : List (List L2.Key × D)} {kk : List L2.Key} {KS : Sto → Prop} (e : st a = some (.dcT kvs)) (ek : keyT y = some kk) (hz : kvs.length < sizeLine) (h : KS (put st a (.dcT (putD kvs kk v)))) : setK (.ref a) y v st KS := by
  cases y with
  | tup xs =>
    show dputK (.ref a) (.tup xs) v st KS
    unfold dputK
    show (match st a, keyT (.tup xs) with
    | some (.dcT kvs), some k => kvs.length < sizeLine ∧ KS (put st a (.dcT (putD kvs k v)))
    | _, _ => False)
    rw [e, ek]
    exact ⟨hz, h⟩
  | _ => simp [keyT] at ek
theorem keysOf_keyD : ∀ ks : List L2.Key, keysOf (ks.map keyD) = some ks
  | [] => rfl
  | k :: ks => by
    show (match keyOf (keyD k), keysOf (ks.map keyD) with
    | some k, some ks => some (k :: ks)
    | _, _ => none) = some (k :: ks)
    rw [keysOf_keyD ks, show keyOf (keyD k) = some k by cases k <;> rfl]
theorem keyT_keyTD (ks : List L2.Key) : keyT (keyTD ks) = some ks := keysOf_keyD ks
end
end MP

set_option Elab.async false
set_option linter.all false
set_option maxRecDepth 100000
set_option maxHeartbeats 8000000
/-! MpU: what the laws share: draw, pick, same. -/
namespace MP
open PySem PySem.Spec
section
variable {A B : Prop} {p : Prop} [Decidable p] {i j : Int}
theorem t_if (h1 : p → A) (h2 : ¬p → B) : if decide p = true then A else B := by
  by_cases h : p
  · rw [if_pos (decide_eq_true h)]; exact h1 h
  · rw [if_neg (by simpa using h)]; exact h2 h
theorem t_ifE (h1 : i = j → A) (h2 : i ≠ j → B) : if (i == j) = true then A else B := by
  by_cases h : i = j
  · rw [if_pos (by simpa using h)]; exact h1 h
  · rw [if_neg (by simpa using h)]; exact h2 h
theorem t_ifN (h1 : i ≠ j → A) (h2 : i = j → B) : if (!(i == j)) = true then A else B := by
  by_cases h : i = j
  · rw [if_neg (by simpa using h)]; exact h2 h
  · rw [if_pos (by simpa using h)]; exact h1 h
theorem t_and (h1 : p → A) (h2 : ¬p → B) : if decide p = andB .And then A else B := t_if h1 h2
theorem t_andE (h1 : i = j → A) (h2 : i ≠ j → B) : if (i == j) = andB .And then A else B := t_ifE h1 h2
theorem t_or (h1 : ¬p → A) (h2 : p → B) : if decide p = andB .Or then A else B := by
  by_cases h : p
  · rw [if_neg (by simp [h, andB])]; exact h2 h
  · rw [if_pos (by simp [h, andB])]; exact h1 h
theorem t_T (h : A) : if true = true then A else B := by rw [if_pos rfl]; exact h
theorem t_F (h : B) : if false = true then A else B := by rw [if_neg Bool.false_ne_true]; exact h
theorem t_andT (h : A) : if true = andB .And then A else B := t_T h
theorem t_andF (h : B) : if false = andB .And then A else B := t_F h
theorem t_aa (h : A) : if andB .And = true then A else B := t_T h
theorem t_oo (h : B) : if andB .Or = true then A else B := t_F h
theorem t_orF (h : A) : if false = andB .Or then A else B := by rw [if_pos (by rfl)]; exact h
theorem t_orT (h : B) : if true = andB .Or then A else B := by rw [if_neg (by decide)]; exact h
end
/-- the body of a def, its value as it is -/
theorem body_of {P : Str → Option Fn} {C : Kst} {n : Nat} {f : Str} {fn : Fn} {vs : List D} {st : Sto} {K : D → Sto → Prop} (hP : P f = some fn) (hl : vs.length = fn.ps.length)
    (h : evSs (callF P C n) C fn.body (startE fn.nv vs) st { nx := fun _ st' => K .non st', rt := K, bk := fun _ _ => False, ct := fun _ _ => False }) : bodyF P C (n + 1) f vs st K := by
  refine body_in hP hl ?_
  unfold bodyK
  refine evSs_mono (callF_mono P C n) _ _ _ _ _ ?_ h
  exact ⟨fun _ st' q => ⟨st', Sub.refl, q⟩, fun _ st' q => ⟨st', Sub.refl, q⟩, fun _ _ q => q, fun _ _ q => q⟩
theorem k_setP {a : Addr} {st : Sto} {xs : List D} {i : Int} {v : D} {j : Nat} {KS : Sto → Prop} (e : L2.ixN xs.length i = some j) (h : KS (put st a (.lst (xs.set j v)))) : setK (.ref a) (.int i) v (put st a (.lst xs)) KS := k_set put_same e (by rw [put_put]; exact h)
theorem cmulB {i : Int} {b : Bool} : L2.CMul i (if b = true then 1 else 0) := by
  right
  split <;> decide
theorem cmulL {i j : Int} (h1 : -18446744073709551616 < i) (h2 : i < 18446744073709551616) : L2.CMul i j := by
  left
  exact ⟨h1, h2⟩
theorem cmulR {i j : Int} (h1 : -18446744073709551616 < j) (h2 : j < 18446744073709551616) : L2.CMul i j := by
  right
  exact ⟨h1, h2⟩
theorem k_pow18 {st : Sto} {K : D → Sto → Prop} (h : K (.int (10 ^ 18)) st) : binK .Pow (.int 10) (.int 18) st K   := ⟨⟨by decide, by decide, by decide⟩, h⟩
-- one step
local macro_rules | `(tactic| infer_instance) => `(tactic| with_reducible first
  | refine x_var (by with_unfolding_all rfl) ?_
  | refine x_nil ?_
  | refine x_cons ?_
  | refine x_asg ?_
  | refine x_sub ?_
  | refine x_ex ?_
  | refine x_ret ?_
  | refine x_retN ?_
  | refine x_iff ?_
  | refine x_for ?_
  | refine x_pass ?_
  | refine x_brk ?_
  | refine x_cont ?_
  | refine x_non ?_
  | refine x_bl ?_
  | refine x_int ?_
  | refine x_str ?_
  | refine x_bin ?_
  | refine x_cmp ?_
  | refine x_cmp2 ?_
  | refine x_bop ?_
  | refine x_ite ?_
  | refine x_tup ?_
  | refine x_lst ?_
  | refine x_ix ?_
  | refine x_call ?_
  | refine x_blt ?_
  | refine x_mth ?_
  | refine x_lc ?_
  | refine x_enil ?_
  | refine x_econs ?_
  | refine x_b1 ?_
  | refine x_tnot ?_
  | refine x_tbop ?_
  | refine x_tite ?_
  | refine x_btnil ?_
  | refine x_btcons ?_
  | refine x_ts0 ?_
  | refine x_ts1 ?_
  | refine k_add ?_
  | refine k_sub ?_
  | refine k_eqI ?_
  | refine k_neI ?_
  | refine k_ltI ?_
  | refine k_leI ?_
  | refine k_gtI ?_
  | refine k_geI ?_
  | refine k_isN ?_
  | refine k_isnN ?_
  | refine k_lenT ?_
  | refine k_intI ?_
  | refine k_intB ?_
  | refine k_abs ?_
  | refine k_max2 ?_
  | refine k_min2 ?_
  | refine x_asgT ?_ (callF_mono _ _ _)
  | refine x_neg ?_ (callF_mono _ _ _)
  | refine x_not ?_ (callF_mono _ _ _)
  | refine x_isi ?_ (callF_mono _ _ _)
  | refine x_t (by with_unfolding_all rfl) (callF_mono _ _ _) ?_
  | refine x_bcons ?_ (callF_mono _ _ _)
  | refine k_ixR (rd_of (by assumption)) (by with_unfolding_all rfl) ?_
  | refine k_ixR rd_put (by with_unfolding_all rfl) ?_
  | refine k_ixT (by with_unfolding_all rfl) ?_
  | refine k_lenR (rd_of (by assumption)) ?_
  | refine k_lenR rd_put ?_
  | refine k_ixR (rd_ne (by assumption) (rd_of (by assumption))) (by with_unfolding_all rfl) ?_
  | refine k_lenR (rd_ne (by assumption) (rd_of (by assumption))) ?_
  | refine k_setP (by with_unfolding_all rfl) ?_
  | refine k_set (by assumption) (by with_unfolding_all rfl) ?_
  | refine k_set put_same (by with_unfolding_all rfl) ?_
  | refine ⟨_, by with_unfolding_all rfl, ?_⟩
  | refine k_mod (by omega) ?_ | refine k_div (by omega) ?_ | refine k_mul (cmulL (by omega) (by omega)) ?_ | refine k_mul (cmulR (by omega) (by omega)) ?_ | refine k_mul cmulB ?_ | refine k_pow18 ?_ | refine t_T ?_ | refine t_F ?_ | refine t_andT ?_ | refine t_andF ?_ | refine t_orT ?_ | refine t_orF ?_ | refine t_aa ?_ | refine t_oo ?_)
section
variable {P : Str → Option Fn} {C : Kst} {n : Nat}
theorem cells_ne {st : Sto} {a b : Addr} {g c i t : Int} {cells : List Int} (ha : st a = some (.lst [.int g, .int c, .int i, .int t, .ref b])) (hb : st b = some (.lst (cells.map .int))) : b ≠ a := fun z => by
  rw [z, ha] at hb
  have h2 := congrArg (fun x => match x with | some (O.lst xs) => xs[4]? | _ => none) hb
  simp only [] at h2
  have h3 : (cells.map D.int)[4]? = some (.ref b) := by rw [z] at h2 ⊢; exact h2.symm
  rw [List.getElem?_map] at h3
  cases h4 : cells[4]? with
  | none => rw [h4] at h3; cases h3
  | some u => rw [h4] at h3; cases h3
theorem draw_body (hP : P "_law_draw" = some f_draw) {a : Addr} {m : Int} {st : Sto} {K : D → Sto → Prop} (hf : FlowAt st a) (h0 : 0 < m) (h1 : m < 1073741824)
    (h : ∀ v st', 0 ≤ v → v < m → FlowAt st' a → Ext a st st' → K (.int v) st') : bodyF P C (n + 1) "_law_draw" [.ref a, .int m] st K := by
  obtain ⟨g, c, i, t, b, cells, ha, hb, hi⟩ := hf
  have hab := cells_ne ha hb
  refine body_of hP rfl ?_
  show evSs _ C b_draw [some (.ref a), some (.int m), none, none, none, none] _ _
  unfold b_draw
  repeat infer_instance
  have fin : ∀ (v g c i t : Int), 0 ≤ i → 0 ≤ v → v < m → K (.int v) (put st a (.lst [.int g, .int c, .int i, .int t, .ref b])) := fun v g c i t hi h0 h1 =>
    h v _ h0 h1 ⟨g, c, i, t, b, cells, put_same, st_ne hab hb, hi⟩ Ext.put
  have tail : ∀ (g c i t : Int), 0 ≤ i → evSs (callF P C n) C (b_draw.drop 2) [some (.ref a), some (.int m), none, none, none, none] (put st a (.lst [.int g, .int c, .int i, .int t, .ref b])) { nx := fun _ st' => K .non st', rt := K, bk := fun _ _ => False, ct := fun _ _ => False } := by
    intro g c i t hi
    simp only [b_draw, List.drop_succ_cons, List.drop_zero]
    repeat infer_instance
    refine t_if (fun hc => ?_) (fun hc => ?_)
    · repeat infer_instance
      exact fin _ _ _ _ _ hi (Int.emod_nonneg _ (by omega)) (Int.emod_lt_of_pos _ h0)
    · repeat infer_instance
      refine t_if (fun hc => ?_) (fun hc => ?_)
      · repeat infer_instance
        have hl : 0 < cells.length := by rw [List.length_map] at hc; omega
        obtain ⟨x, hx, _, e⟩ := at_in (f := D.int) (xs := cells) (i := i % ((cells.map D.int).length : Int)) (Int.emod_nonneg _ (by rw [List.length_map]; omega)) (by rw [List.length_map]; exact Int.emod_lt_of_pos _ (by omega))
        refine k_ixR (rd_ne hab (rd_of hb)) e ?_
        repeat infer_instance
        exact fin _ _ _ _ _ (by omega) (Int.emod_nonneg _ (by omega)) (Int.emod_lt_of_pos _ h0)
      · repeat infer_instance
        exact fin _ _ _ _ _ hi (Int.emod_nonneg _ (by omega)) (Int.emod_lt_of_pos _ h0)
  refine t_andE (fun hc => ?_) (fun hc => ?_)
  · repeat infer_instance
    refine t_and (fun hc2 => ?_) (fun hc2 => ?_)
    · repeat infer_instance
      obtain ⟨x, hx, _, e⟩ := at_in (f := D.int) (xs := cells) (i := i) hi (by rw [List.length_map] at hc2; omega)
      refine k_ixR (rd_ne hab (rd_of hb)) e ?_
      repeat infer_instance
      refine t_and (fun hc3 => ?_) (fun hc3 => ?_)
      · repeat infer_instance
        refine k_ixR (rd_ne hab (rd_of hb)) e ?_
        repeat infer_instance
        refine t_if (fun _ => ?_) (fun h => absurd (by decide) h)
        repeat infer_instance
        exact fin _ _ _ _ _ (by omega) (Int.emod_nonneg _ (by omega)) (Int.emod_lt_of_pos _ h0)
      · refine t_if (fun h => absurd h hc3) (fun _ => ?_)
        refine x_nil ?_
        exact tail _ _ _ _ hi
    · refine t_if (fun h => absurd h hc2) (fun _ => ?_)
      refine x_nil ?_
      exact tail _ _ _ _ hi
  · refine t_ifE (fun h => absurd h hc) (fun _ => ?_)
    refine x_nil ?_
    exact tail _ _ _ _ hi
end
end MP

set_option Elab.async false
set_option linter.all false
set_option maxRecDepth 100000
set_option maxHeartbeats 8000000
/-! MpV: what the laws share: flow, pick, same. -/
namespace MP
open PySem PySem.Spec
section
theorem isi_int_N : isiD "int" .non = some false := by simp [isiD]
theorem isi_int_B {b : Bool} : isiD "int" (.bl b) = some true := by simp [isiD]
theorem isi_int_I {i : Int} : isiD "int" (.int i) = some true := by simp [isiD]
theorem isi_int_S {s : Str} : isiD "int" (.str s) = some false := by simp [isiD]
theorem isi_int_T {xs : List D} : isiD "int" (.tup xs) = some false := by simp [isiD]
theorem isi_bool_N : isiD "bool" .non = some false := by simp [isiD]
theorem isi_bool_B {b : Bool} : isiD "bool" (.bl b) = some true := by simp [isiD]
theorem isi_bool_I {i : Int} : isiD "bool" (.int i) = some false := by simp [isiD]
theorem isi_bool_S {s : Str} : isiD "bool" (.str s) = some false := by simp [isiD]
theorem isi_bool_T {xs : List D} : isiD "bool" (.tup xs) = some false := by simp [isiD]
theorem isi_str_N : isiD "str" .non = some false := by simp [isiD]
theorem isi_str_B {b : Bool} : isiD "str" (.bl b) = some false := by simp [isiD]
theorem isi_str_I {i : Int} : isiD "str" (.int i) = some false := by simp [isiD]
theorem isi_str_S {s : Str} : isiD "str" (.str s) = some true := by simp [isiD]
theorem isi_str_T {xs : List D} : isiD "str" (.tup xs) = some false := by simp [isiD]
theorem isi_tuple_N : isiD "tuple" .non = some false := by simp [isiD]
theorem isi_tuple_B {b : Bool} : isiD "tuple" (.bl b) = some false := by simp [isiD]
theorem isi_tuple_I {i : Int} : isiD "tuple" (.int i) = some false := by simp [isiD]
theorem isi_tuple_S {s : Str} : isiD "tuple" (.str s) = some false := by simp [isiD]
theorem isi_tuple_T {xs : List D} : isiD "tuple" (.tup xs) = some true := by simp [isiD]
theorem isi_list_N : isiD "list" .non = some false := by simp [isiD]
theorem isi_list_B {b : Bool} : isiD "list" (.bl b) = some false := by simp [isiD]
theorem isi_list_I {i : Int} : isiD "list" (.int i) = some false := by simp [isiD]
theorem isi_list_S {s : Str} : isiD "list" (.str s) = some false := by simp [isiD]
theorem isi_list_T {xs : List D} : isiD "list" (.tup xs) = some false := by simp [isiD]
variable {F : Fs} {C : Kst} {σ : Env} {st : Sto} {K : D → Sto → Prop}
theorem x_slc {a lo hi : E} {hl hh : Bool} (h : evE F C a σ st fun x st1 => evE F C lo σ st1 fun l st2 => ∃ l', part hl l = some l' ∧ evE F C hi σ st2 fun h st3 => ∃ h', part hh h = some h' ∧ slcK C x l' h' st3 K) (hF : MonoF F) : evE F C (.slc a hl lo hh hi) σ st K := by
  unfold evE
  refine evE_mono hF _ _ _ _ _ (fun x st1 q => ?_) h
  refine evE_mono hF _ _ _ _ _ (fun l st2 ⟨l', e1, q⟩ => ?_) q
  rw [e1]
  refine evE_mono hF _ _ _ _ _ (fun h st3 ⟨h', e2, q⟩ => ?_) q
  rw [e2]
  exact q
theorem k_slcR {a : Addr} {xs : List D} {lo hi : Option Int} (r : rdL C st a = some xs) (h : newL (cutD xs lo hi) st K) : slcK C (.ref a) lo hi st K := by
  simp only [slcK, r]
  exact h
theorem k_slcT {xs : List D} {lo hi : Option Int} (h : K (.tup (cutD xs lo hi)) st) : slcK C (.tup xs) lo hi st K := h
theorem k_eqSelf {x : D} (hf : flatD x = true) (h : K (.bl true) st) : cmpK C .Eq x x st K := by
  cases x <;> first | (simp [flatD] at hf; done) | (unfold cmpK eqK; simp only [flatD, Bool.and_self, eqD, beq_self_eq_true]; exact h)
theorem k_is_N (h : K (.bl true) st) : cmpK C .Is .non .non st K := by unfold cmpK; exact h
theorem k_isn_N (h : K (.bl false) st) : cmpK C .IsNot .non .non st K := by unfold cmpK; exact h
theorem k_is_B {b : Bool} (h : K (.bl false) st) : cmpK C .Is (.bl b) .non st K := by unfold cmpK; exact h
theorem k_isn_B {b : Bool} (h : K (.bl true) st) : cmpK C .IsNot (.bl b) .non st K := by unfold cmpK; exact h
theorem k_is_I {i : Int} (h : K (.bl false) st) : cmpK C .Is (.int i) .non st K := by unfold cmpK; exact h
theorem k_isn_I {i : Int} (h : K (.bl true) st) : cmpK C .IsNot (.int i) .non st K := by unfold cmpK; exact h
theorem k_is_S {s : Str} (h : K (.bl false) st) : cmpK C .Is (.str s) .non st K := by unfold cmpK; exact h
theorem k_isn_S {s : Str} (h : K (.bl true) st) : cmpK C .IsNot (.str s) .non st K := by unfold cmpK; exact h
theorem k_is_T {xs : List D} (h : K (.bl false) st) : cmpK C .Is (.tup xs) .non st K := by unfold cmpK; exact h
theorem k_isn_T {xs : List D} (h : K (.bl true) st) : cmpK C .IsNot (.tup xs) .non st K := by unfold cmpK; exact h
theorem k_is_R {a : Addr} (h : K (.bl false) st) : cmpK C .Is (.ref a) .non st K := by unfold cmpK; exact h
theorem k_isn_R {a : Addr} (h : K (.bl true) st) : cmpK C .IsNot (.ref a) .non st K := by unfold cmpK; exact h
theorem t_nT {A B : Prop} (h : B) : if (!true) = true then A else B := t_F h
theorem t_nF {A B : Prop} (h : A) : if (!false) = true then A else B := t_T h
theorem t_andnT {A B : Prop} (h : B) : if (!true) = andB .And then A else B := t_F h
theorem t_andnF {A B : Prop} (h : A) : if (!false) = andB .And then A else B := t_T h
theorem t_ornT {A B : Prop} (h : A) : if (!true) = andB .Or then A else B := t_orF h
theorem t_ornF {A B : Prop} (h : B) : if (!false) = andB .Or then A else B := t_orT h
theorem k_notT (h : K (.bl false) st) : K (.bl !true) st := h
theorem k_notF (h : K (.bl true) st) : K (.bl !false) st := h
theorem lc_step {g : G} {x : D} {σ2 : Env} {ifs : List E} {elt : E} {R : Option D → Sto → Prop} (e : bindG g x σ = some σ2) (h : evTs F C ifs σ2 st fun b st3 => if b = true then evE F C elt σ2 st3 fun y st4 => R (some y) st4 else R none st3) :
    match bindG g x σ with
        | some σ2 => evTs F C ifs σ2 st fun b st3 => if b = true then evE F C elt σ2 st3 fun y st4 => R (some y) st4 else R none st3
        | none => False := by
  rw [e]
  exact h
theorem for_step {g : G} {x : D} {σ2 : Env} {body : List S} {k : Kt} {R : Env → Sto → Prop} (e : bindG g x σ = some σ2) (h : evSs F C body σ2 st { nx := R, rt := k.rt, bk := k.nx, ct := R }) :
    match bindG g x σ with
        | some σ2 => evSs F C body σ2 st { nx := R, rt := k.rt, bk := k.nx, ct := R }
        | none => False := by
  rw [e]
  exact h
theorem cut_mem {xs : List D} {lo hi : Option Int} {x : D} (h : x ∈ cutD xs lo hi) : x ∈ xs := List.mem_of_mem_drop (List.mem_of_mem_take h)
theorem cut_len {xs : List D} {lo hi : Option Int} : (cutD xs lo hi).length ≤ xs.length := by
  unfold cutD
  rw [List.length_take, List.length_drop]
  omega
end
local macro_rules | `(tactic| infer_instance) => `(tactic| with_reducible first
  | refine k_is_N ?_ | refine k_isn_N ?_ | refine k_is_B ?_ | refine k_isn_B ?_ | refine k_is_I ?_ | refine k_isn_I ?_ | refine k_is_S ?_ | refine k_isn_S ?_ | refine k_is_T ?_ | refine k_isn_T ?_ | refine k_is_R ?_ | refine k_isn_R ?_ | refine t_nT ?_ | refine t_nF ?_ | refine t_andnT ?_ | refine t_andnF ?_ | refine t_ornT ?_ | refine t_ornF ?_
  | refine x_var (by with_unfolding_all rfl) ?_
  | refine x_nil ?_
  | refine x_cons ?_
  | refine x_asg ?_
  | refine x_sub ?_
  | refine x_ex ?_
  | refine x_ret ?_
  | refine x_retN ?_
  | refine x_iff ?_
  | refine x_for ?_
  | refine x_pass ?_
  | refine x_brk ?_
  | refine x_cont ?_
  | refine x_non ?_
  | refine x_bl ?_
  | refine x_int ?_
  | refine x_str ?_
  | refine x_bin ?_
  | refine x_cmp ?_
  | refine x_cmp2 ?_
  | refine x_bop ?_
  | refine x_ite ?_
  | refine x_tup ?_
  | refine x_lst ?_
  | refine x_ix ?_
  | refine x_call ?_
  | refine x_blt ?_
  | refine x_mth ?_
  | refine x_lc ?_
  | refine x_enil ?_
  | refine x_econs ?_
  | refine x_b1 ?_
  | refine x_tnot ?_
  | refine x_tbop ?_
  | refine x_tite ?_
  | refine x_btnil ?_
  | refine x_btcons ?_
  | refine x_ts0 ?_
  | refine x_ts1 ?_
  | refine k_add ?_
  | refine k_sub ?_
  | refine k_eqI ?_
  | refine k_neI ?_
  | refine k_ltI ?_
  | refine k_leI ?_
  | refine k_gtI ?_
  | refine k_geI ?_
  | refine k_lenT ?_
  | refine k_intI ?_
  | refine k_intB ?_
  | refine k_abs ?_
  | refine k_max2 ?_
  | refine k_min2 ?_
  | refine x_asgT ?_ (callF_mono _ _ _)
  | refine x_neg ?_ (callF_mono _ _ _)
  | refine x_not ?_ (callF_mono _ _ _)
  | refine x_isi ?_ (callF_mono _ _ _)
  | refine x_t (by with_unfolding_all rfl) (callF_mono _ _ _) ?_
  | refine x_bcons ?_ (callF_mono _ _ _)
  | refine k_ixR (rd_of (by assumption)) (by with_unfolding_all rfl) ?_
  | refine k_ixR rd_put (by with_unfolding_all rfl) ?_
  | refine k_ixT (by with_unfolding_all rfl) ?_
  | refine k_lenR (rd_of (by assumption)) ?_
  | refine k_lenR rd_put ?_
  | refine k_ixR (rd_ne (by assumption) (rd_of (by assumption))) (by with_unfolding_all rfl) ?_
  | refine k_lenR (rd_ne (by assumption) (rd_of (by assumption))) ?_
  | refine k_setP (by with_unfolding_all rfl) ?_
  | refine k_set (by assumption) (by with_unfolding_all rfl) ?_
  | refine k_set put_same (by with_unfolding_all rfl) ?_
  | refine ⟨_, isi_int_N, ?_⟩ | refine ⟨_, isi_int_B, ?_⟩ | refine ⟨_, isi_int_I, ?_⟩ | refine ⟨_, isi_int_S, ?_⟩ | refine ⟨_, isi_int_T, ?_⟩ | refine ⟨_, isi_bool_N, ?_⟩ | refine ⟨_, isi_bool_B, ?_⟩ | refine ⟨_, isi_bool_I, ?_⟩ | refine ⟨_, isi_bool_S, ?_⟩ | refine ⟨_, isi_bool_T, ?_⟩ | refine ⟨_, isi_str_N, ?_⟩ | refine ⟨_, isi_str_B, ?_⟩ | refine ⟨_, isi_str_I, ?_⟩ | refine ⟨_, isi_str_S, ?_⟩ | refine ⟨_, isi_str_T, ?_⟩ | refine ⟨_, isi_tuple_N, ?_⟩ | refine ⟨_, isi_tuple_B, ?_⟩ | refine ⟨_, isi_tuple_I, ?_⟩ | refine ⟨_, isi_tuple_S, ?_⟩ | refine ⟨_, isi_tuple_T, ?_⟩ | refine ⟨_, isi_list_N, ?_⟩ | refine ⟨_, isi_list_B, ?_⟩ | refine ⟨_, isi_list_I, ?_⟩ | refine ⟨_, isi_list_S, ?_⟩ | refine ⟨_, isi_list_T, ?_⟩
  | refine x_slc ?_ (callF_mono _ _ _) | refine k_slcR (rd_of (by assumption)) ?_ | refine i_seqR rd_put ?_ | refine i_seqR (rd_of (by assumption)) ?_ | refine i_seqT ?_ | refine i_enumT ?_ | refine i_range (by omega) (by omega) ?_ | refine i_range2 (by omega) ?_ | refine k_tupR rd_put ?_ | refine k_tupR (rd_of (by assumption)) ?_
  | refine ⟨_, by with_unfolding_all rfl, ?_⟩
  | refine k_mod (by omega) ?_ | refine k_div (by omega) ?_ | refine k_mul (cmulL (by omega) (by omega)) ?_ | refine k_mul (cmulR (by omega) (by omega)) ?_ | refine k_mul cmulB ?_ | refine k_pow18 ?_ | refine t_T ?_ | refine t_F ?_ | refine t_andT ?_ | refine t_andF ?_ | refine t_orT ?_ | refine t_orF ?_ | refine t_aa ?_ | refine t_oo ?_)

def b_pick : List S := [
  .ret (.ix (.var 1) (.call "_law_draw" [.var 0, .blt "len" [.var 1]] [] []))]
def f_pick : Fn := { ps := ["flow", "things"], nv := 2, pat := [(2, [])], body := b_pick }
def b_flow : List S := [
  .ret (.lst [.int 0, .int 0, .int 0, .int 0, .lc (.blt "abs" [.blt "int" [.var 1]]) (.nm 1) .seq [.slc (.var 0) false (.non) true (.int 63)] [] [1]])]
def f_flow : Fn := { ps := ["script"], nv := 2, pat := [(1, [])], body := b_flow }
def b_is_whole : List S := [
  .ret (.bop .And [.isi (.var 0) "int", .not (.isi (.var 0) "bool")])]
def f_is_whole : Fn := { ps := ["value"], nv := 1, pat := [(1, [])], body := b_is_whole }
def b_same : List S := [
  .iff (.bop .Or [.isi (.var 1) "bool", .cmp .Is (.var 1) (.non)]) [
    .ret (.ite (.isi (.var 1) "bool") (.bop .And [.isi (.var 0) "bool", .cmp .Eq (.var 0) (.var 1)]) (.cmp .Is (.var 0) (.non)))] [],
  .iff (.isi (.var 1) "int") [
    .ret (.bop .And [.call "_law_is_whole" [.var 0] [] [], .cmp .Eq (.var 0) (.var 1)])] [],
  .iff (.isi (.var 1) "str") [
    .ret (.bop .And [.isi (.var 0) "str", .cmp .Eq (.var 0) (.var 1)])] [],
  .iff (.bop .Or [.not (.isi (.var 0) "tuple"), .cmp .NotEq (.blt "len" [.var 0]) (.blt "len" [.var 1])]) [
    .ret (.bl false)] [],
  .ret (.cmp .Eq (.blt "len" [.lc (.var 2) (.nm 2) .range [.blt "len" [.var 1]] [.not (.call "_law_same" [.ix (.var 0) (.var 2), .ix (.var 1) (.var 2)] [] [])] [2]]) (.int 0))]
def f_same : Fn := { ps := ["found", "due"], nv := 3, pat := [(2, [])], body := b_same }
section
variable {P : Str → Option Fn} {C : Kst} {n : Nat}
theorem draw_call (hP : P "_law_draw" = some f_draw) {a : Addr} {m : Int} {st : Sto} {K : D → Sto → Prop} (hf : FlowAt st a) (h0 : 0 < m) (h1 : m < 1073741824)
    (h : ∀ v st', 0 ≤ v → v < m → FlowAt st' a → Ext a st st' → K (.int v) st') : callF P C (n + 1) "_law_draw" [.ref a, .int m] [] [] st K :=
  call_pos hP (by simp [f_draw]) rfl (draw_body hP hf h0 h1 h)
theorem pick_call (hP : P "_law_draw" = some f_draw) (hp : P "_law_pick" = some f_pick) {a p : Addr} {xs : List D} {st : Sto} {K : D → Sto → Prop} (hf : FlowAt st a) (hx : st p = some (.lst xs)) (hap : p ≠ a) (h0 : 0 < xs.length) (h1 : xs.length < 1000)
    (h : ∀ x st', x ∈ xs → FlowAt st' a → Ext a st st' → K x st') : callF P C (n + 2) "_law_pick" [.ref a, .ref p] [] [] st K := by
  refine call_pos hp (by simp [f_pick]) rfl (body_of hp rfl ?_)
  show evSs _ C b_pick [some (.ref a), some (.ref p)] _ _
  unfold b_pick
  repeat infer_instance
  refine draw_call hP hf (by omega) (by omega) fun v st' v0 v1 hf' he => ?_
  have hi : v.toNat < xs.length := by omega
  refine k_ixR (rd_of (he p _ hap hx)) (atZ v0 (List.getElem?_eq_getElem hi)) ?_
  exact h _ st' (List.getElem_mem hi) hf' he
theorem flow_call (hp : P "_law_flow" = some f_flow) {s : Addr} {ns : List Int} {st : Sto} {K : D → Sto → Prop} (hC : C s = some (ns.map D.int)) (hs : st s = none) (hl : ns.length ≤ 63)
    (h : ∀ r st', FlowAt st' r → Sub st st' → K (.ref r) st') : callF P C (n + 1) "_law_flow" [.ref s] [] [] st K := by
  refine call_pos hp (by simp [f_flow]) rfl (body_of hp rfl ?_)
  show evSs _ C b_flow [some (.ref s), none] _ _
  unfold b_flow
  have hr : rdL C st s = some (ns.map D.int) := by unfold rdL; rw [hs]; exact hC
  repeat infer_instance
  refine k_slcR hr ?_
  intro p hpn
  repeat infer_instance
  have hlen := cut_len (xs := ns.map D.int) (lo := none) (hi := some 63)
  rw [List.length_map] at hlen
  refine lcK_fm (fun x => match x with | .int n => some (.int (if n < 0 then -n else n)) | _ => none) (fun st' => st' = put st p (.lst (cutD (ns.map D.int) none (some 63)))) (by rw [sizeLine_eq]; omega) rfl (fun st' e => by rw [e]; exact rd_put) ?_ ?_
  · rintro x st' R hx rfl hR
    obtain ⟨m, hm, rfl⟩ := List.mem_map.mp (cut_mem hx)
    simp only [bindG]
    repeat infer_instance
    exact hR _ rfl
  · rintro st' rfl q hq
    repeat infer_instance
    intro r hr2
    have hqr : q ≠ r := fun z => by rw [z, put_same] at hr2; cases hr2
    have hpr : st r = none := by
      by_cases z : r = q
      · exact absurd z.symm hqr
      · rw [put_ne z] at hr2
        by_cases z2 : r = p
        · rw [z2, put_same] at hr2; cases hr2
        · rwa [put_ne z2] at hr2
    obtain ⟨cells, hc⟩ : ∃ cells : List Int, (cutD (ns.map D.int) none (some 63)).filterMap (fun x => match x with | .int n => some (.int (if n < 0 then -n else n)) | _ => none) = cells.map D.int := by
      refine ⟨(cutD (ns.map D.int) none (some 63)).filterMap (fun x => match x with | .int n => some (if n < 0 then -n else n) | _ => none), ?_⟩
      rw [List.map_filterMap]
      congr 1
      funext x
      cases x <;> rfl
    have hqn : st q = none := by
      by_cases z : q = p
      · rw [z, put_same] at hq; cases hq
      · rwa [put_ne z] at hq
    refine h r _ ⟨0, 0, 0, 0, q, cells, put_same, by rw [put_ne hqr, put_same, hc], by omega⟩ ?_
    exact ((Sub.refl.new hpn _).new hqn _).new hpr _
/-- plain data of a depth -/
def Pl : Nat → D → Prop
  | _, .non => True
  | _, .bl _ => True
  | _, .int _ => True
  | _, .str _ => True
  | 0, .tup _ => False
  | n + 1, .tup xs => xs.length < 1000000 ∧ ∀ x ∈ xs, Pl n x
  | _, .ref _ => False
theorem whole_call (hw : P "_law_is_whole" = some f_is_whole) {i : Int} {st : Sto} {K : D → Sto → Prop} (h : K (.bl true) st) : callF P C (n + 1) "_law_is_whole" [.int i] [] [] st K := by
  refine call_pos hw (by simp [f_is_whole]) rfl (body_of hw rfl ?_)
  show evSs _ C b_is_whole [some (.int i)] _ _
  unfold b_is_whole
  repeat infer_instance
  exact h
theorem same_body (hs : P "_law_same" = some f_same) (hw : P "_law_is_whole" = some f_is_whole) : ∀ (m : Nat) (d : D) (st : Sto) (K : D → Sto → Prop), Pl m d → (∀ st', Sub st st' → K (.bl true) st') → bodyF P C (n + m + 2) "_law_same" [d, d] st K := by
  have leaf : ∀ (m : Nat) (d : D) (st : Sto) (K : D → Sto → Prop), flatD d = true → (∀ st', Sub st st' → K (.bl true) st') → bodyF P C (n + m + 2) "_law_same" [d, d] st K := by
    intro m d st K hf h
    refine body_of hs rfl ?_
    show evSs _ C b_same [some d, some d, none] _ _
    unfold b_same
    cases d with
    | int i =>
      repeat infer_instance
      refine whole_call hw ?_
      repeat infer_instance
      rw [beq_self_eq_true]
      exact h _ Sub.refl
    | bl b =>
      repeat infer_instance
      refine k_eqSelf rfl ?_
      exact h _ Sub.refl
    | str t =>
      repeat infer_instance
      refine k_eqSelf rfl ?_
      exact h _ Sub.refl
    | non =>
      repeat infer_instance
      exact h _ Sub.refl
    | _ => simp [flatD] at hf
  intro m
  induction m with
  | zero =>
    intro d st K hp h
    refine leaf 0 d st K ?_ h
    cases d <;> first | rfl | exact hp.elim
  | succ m ih =>
    intro d st K hp h
    cases d with
    | tup xs =>
      obtain ⟨hl, hx⟩ := hp
      refine body_of hs rfl ?_
      show evSs _ C b_same [some (.tup xs), some (.tup xs), none] _ _
      unfold b_same
      repeat infer_instance
      rw [beq_self_eq_true]
      repeat infer_instance
      refine lcK_fm (fun _ => none) (fun st' => Sub st st') (by rw [sizeLine_eq, List.length_map, List.length_range]; omega) Sub.refl (fun _ _ => trivial) ?_ ?_
      · intro x st1 R hxm hsub hR
        obtain ⟨j, hj, rfl⟩ := List.mem_map.mp hxm
        have hj' : j < xs.length := by simpa using hj
        simp only [bindG]
        repeat infer_instance
        refine k_ixT (atN (List.getElem?_eq_getElem hj')) ?_
        repeat infer_instance
        refine k_ixT (atN (List.getElem?_eq_getElem hj')) ?_
        repeat infer_instance
        refine call_pos hs (by simp [f_same]) rfl ?_
        refine ih _ _ _ (hx _ (List.getElem_mem hj')) fun st2 h2 => ?_
        repeat infer_instance
        exact hR st2 (hsub.trans h2)
      · intro st1 hsub
        have e : ((List.range (Int.toNat (xs.length : Int))).map fun (i : Nat) => D.int i).filterMap (fun _ => (none : Option D)) = [] := by
          rw [List.filterMap_eq_nil_iff]
          intro _ _
          rfl
        rw [e]
        intro p hp2
        repeat infer_instance
        exact h _ (hsub.new (Sub.none hsub hp2) _)
    | ref a => exact hp.elim
    | _ => exact leaf (m + 1) _ st K rfl h
end
end MP

set_option Elab.async false
set_option linter.all false
set_option maxRecDepth 100000
set_option maxHeartbeats 8000000
/-! MpW: what the laws of the "bag" kind share: bag, draw, pick, same. -/
namespace MP
open PySem PySem.Spec
local macro_rules | `(tactic| infer_instance) => `(tactic| with_reducible first
  | refine k_is_N ?_ | refine k_isn_N ?_ | refine k_is_B ?_ | refine k_isn_B ?_ | refine k_is_I ?_ | refine k_isn_I ?_ | refine k_is_S ?_ | refine k_isn_S ?_ | refine k_is_T ?_ | refine k_isn_T ?_ | refine k_is_R ?_ | refine k_isn_R ?_ | refine t_nT ?_ | refine t_nF ?_ | refine t_andnT ?_ | refine t_andnF ?_ | refine t_ornT ?_ | refine t_ornF ?_
  | refine x_var (by with_unfolding_all rfl) ?_
  | refine x_nil ?_
  | refine x_cons ?_
  | refine x_asg ?_
  | refine x_sub ?_
  | refine x_ex ?_
  | refine x_ret ?_
  | refine x_retN ?_
  | refine x_iff ?_
  | refine x_for ?_
  | refine x_pass ?_
  | refine x_brk ?_
  | refine x_cont ?_
  | refine x_non ?_
  | refine x_bl ?_
  | refine x_int ?_
  | refine x_str ?_
  | refine x_bin ?_
  | refine x_cmp ?_
  | refine x_cmp2 ?_
  | refine x_bop ?_
  | refine x_ite ?_
  | refine x_tup ?_
  | refine x_lst ?_
  | refine x_ix ?_
  | refine x_call ?_
  | refine x_blt ?_
  | refine x_mth ?_
  | refine x_lc ?_
  | refine x_enil ?_
  | refine x_econs ?_
  | refine x_b1 ?_
  | refine x_tnot ?_
  | refine x_tbop ?_
  | refine x_tite ?_
  | refine x_btnil ?_
  | refine x_btcons ?_
  | refine x_ts0 ?_
  | refine x_ts1 ?_
  | refine k_add ?_
  | refine k_sub ?_
  | refine k_eqI ?_
  | refine k_neI ?_
  | refine k_ltI ?_
  | refine k_leI ?_
  | refine k_gtI ?_
  | refine k_geI ?_
  | refine k_lenT ?_
  | refine k_intI ?_
  | refine k_intB ?_
  | refine k_abs ?_
  | refine k_max2 ?_
  | refine k_min2 ?_
  | refine x_asgT ?_ (callF_mono _ _ _)
  | refine x_neg ?_ (callF_mono _ _ _)
  | refine x_not ?_ (callF_mono _ _ _)
  | refine x_isi ?_ (callF_mono _ _ _)
  | refine x_t (by with_unfolding_all rfl) (callF_mono _ _ _) ?_
  | refine x_bcons ?_ (callF_mono _ _ _)
  | refine k_ixR (rd_of (by assumption)) (by with_unfolding_all rfl) ?_
  | refine k_ixR rd_put (by with_unfolding_all rfl) ?_
  | refine k_ixT (by with_unfolding_all rfl) ?_
  | refine k_lenR (rd_of (by assumption)) ?_
  | refine k_lenR rd_put ?_
  | refine k_ixR (rd_ne (by assumption) (rd_of (by assumption))) (by with_unfolding_all rfl) ?_
  | refine k_lenR (rd_ne (by assumption) (rd_of (by assumption))) ?_
  | refine k_setP (by with_unfolding_all rfl) ?_
  | refine k_set (by assumption) (by with_unfolding_all rfl) ?_
  | refine k_set put_same (by with_unfolding_all rfl) ?_
  | refine ⟨_, isi_int_N, ?_⟩ | refine ⟨_, isi_int_B, ?_⟩ | refine ⟨_, isi_int_I, ?_⟩ | refine ⟨_, isi_int_S, ?_⟩ | refine ⟨_, isi_int_T, ?_⟩ | refine ⟨_, isi_bool_N, ?_⟩ | refine ⟨_, isi_bool_B, ?_⟩ | refine ⟨_, isi_bool_I, ?_⟩ | refine ⟨_, isi_bool_S, ?_⟩ | refine ⟨_, isi_bool_T, ?_⟩ | refine ⟨_, isi_str_N, ?_⟩ | refine ⟨_, isi_str_B, ?_⟩ | refine ⟨_, isi_str_I, ?_⟩ | refine ⟨_, isi_str_S, ?_⟩ | refine ⟨_, isi_str_T, ?_⟩ | refine ⟨_, isi_tuple_N, ?_⟩ | refine ⟨_, isi_tuple_B, ?_⟩ | refine ⟨_, isi_tuple_I, ?_⟩ | refine ⟨_, isi_tuple_S, ?_⟩ | refine ⟨_, isi_tuple_T, ?_⟩ | refine ⟨_, isi_list_N, ?_⟩ | refine ⟨_, isi_list_B, ?_⟩ | refine ⟨_, isi_list_I, ?_⟩ | refine ⟨_, isi_list_S, ?_⟩ | refine ⟨_, isi_list_T, ?_⟩
  | refine x_slc ?_ (callF_mono _ _ _) | refine k_slcR (rd_of (by assumption)) ?_ | refine i_seqR rd_put ?_ | refine i_seqR (rd_of (by assumption)) ?_ | refine i_seqT ?_ | refine i_enumT ?_ | refine i_range (by omega) (by omega) ?_ | refine i_range2 (by omega) ?_ | refine k_tupR rd_put ?_ | refine k_tupR (rd_of (by assumption)) ?_
  | refine ⟨k_ty (by assumption), ?_⟩ | refine ⟨k_ty put_same, ?_⟩ | refine ⟨k_ty (st_ne (by assumption) (by assumption)), ?_⟩
  | refine ⟨_, by with_unfolding_all rfl, ?_⟩
  | refine k_mod (by omega) ?_ | refine k_div (by omega) ?_ | refine k_mul (cmulL (by omega) (by omega)) ?_ | refine k_mul (cmulR (by omega) (by omega)) ?_ | refine k_mul cmulB ?_ | refine k_pow18 ?_ | refine t_T ?_ | refine t_F ?_ | refine t_andT ?_ | refine t_andF ?_ | refine t_orT ?_ | refine t_orF ?_ | refine t_aa ?_ | refine t_oo ?_)


section
variable {C : Kst} {st : Sto} {K : D → Sto → Prop}
theorem k_pop {a : Addr} {xs : List D} {y : D} (r : st a = some (.lst xs)) (e : xs[xs.length - 1]? = some y) (h : K y (put st a (.lst xs.dropLast))) : mthK .list "pop" (.ref a) [] st K := by
  show popK a [] st K
  unfold popK
  show match st a, ([] : List D) with
    | some (.lst xs), [] => (match xs[xs.length - 1]? with
      | some y => K y (put st a (.lst xs.dropLast))
      | none => False)
    | some (.lst xs), [.int i] => (0 ≤ i ∧ i < 2 ^ 63) ∧ (match xs[i.toNat]? with
      | some y => K y (put st a (.lst (xs.eraseIdx i.toNat)))
      | none => False)
    | _, _ => False
  rw [r]
  simp only []
  rw [e]
  exact h
theorem k_popI {a : Addr} {xs : List D} {i : Int} {y : D} (r : st a = some (.lst xs)) (h0 : 0 ≤ i) (h1 : i < 2 ^ 63) (e : xs[i.toNat]? = some y) (h : K y (put st a (.lst (xs.eraseIdx i.toNat)))) : mthK .list "pop" (.ref a) [.int i] st K := by
  show popK a [.int i] st K
  unfold popK
  show match st a, ([.int i] : List D) with
    | some (.lst xs), [] => (match xs[xs.length - 1]? with
      | some y => K y (put st a (.lst xs.dropLast))
      | none => False)
    | some (.lst xs), [.int i] => (0 ≤ i ∧ i < 2 ^ 63) ∧ (match xs[i.toNat]? with
      | some y => K y (put st a (.lst (xs.eraseIdx i.toNat)))
      | none => False)
    | _, _ => False
  rw [r]
  simp only []
  rw [e]
  exact ⟨⟨h0, h1⟩, h⟩
theorem k_rev {a : Addr} {xs : List D} (r : st a = some (.lst xs)) (h : K .non (put st a (.lst xs.reverse))) : mthK .list "reverse" (.ref a) [] st K := by
  show match st a, ([] : List D) with
    | some (.lst xs), [] => K .non (put st a (.lst xs.reverse))
    | _, _ => False
  rw [r]
  exact h
theorem k_cat {a b : Addr} {xs ys : List D} (r : st a = some (.lst xs)) (r2 : st b = some (.lst ys)) (z : xs.length + ys.length ≤ sizeLine) (h : newL (xs ++ ys) st K) : binK .Add (.ref a) (.ref b) st K := by
  show match st a, st b with
    | some (.lst xs), some (.lst ys) => xs.length + ys.length ≤ sizeLine ∧ newL (xs ++ ys) st K
    | _, _ => False
  rw [r, r2]
  exact ⟨z, h⟩
theorem k_catT {xs ys : List D} (z : xs.length + ys.length ≤ sizeLine) (h : K (.tup (xs ++ ys)) st) : binK .Add (.tup xs) (.tup ys) st K := ⟨z, h⟩
end
/-- all but what stands at a, b is as it was -/
def Ex2 (a b : Addr) (st st' : Sto) : Prop := ∀ q u, q ≠ a → q ≠ b → st q = some u → st' q = some u
section
variable {a b : Addr} {s t u : Sto}
theorem Ex2.refl : Ex2 a b s s := fun _ _ _ _ h => h
theorem Ex2.trans (h : Ex2 a b s t) (k : Ex2 a b t u) : Ex2 a b s u := fun q o n m e => k q o n m (h q o n m e)
theorem Ex2.of (h : Sub s t) : Ex2 a b s t := fun q o _ _ e => h q o e
end
structure BagAt (st : Sto) (a b : Addr) : Prop where
  ex : ∃ (g t : Int) (c : Addr) (great cells : List Int), st a = some (.lst [.int g, .int t, .ref b, .ref c]) ∧ st b = some (.lst (great.map .int)) ∧ st c = some (.lst (cells.map .int)) ∧ 0 < cells.length ∧ a ≠ b ∧ a ≠ c ∧ b ≠ c
theorem BagAt.sub {a b : Addr} {s t : Sto} (h : Sub s t) (f : BagAt s a b) : BagAt t a b := by
  obtain ⟨g, t, c, great, cells, h1, h2, h3, h4⟩ := f.ex
  exact ⟨g, t, c, great, cells, h _ _ h1, h _ _ h2, h _ _ h3, h4⟩
theorem BagAt.ne {a b p : Addr} {s : Sto} (f : BagAt s a b) (hp : s p = none) : p ≠ a ∧ p ≠ b := by
  obtain ⟨g, t, c, great, cells, h1, h2, h3, h4⟩ := f.ex
  exact ⟨fun e => (by rw [e, h1] at hp; cases hp), fun e => (by rw [e, h2] at hp; cases hp)⟩
def b_bdraw : List S := [
  .sub (.var 0) (.int 1) (.bin .Add (.ix (.var 0) (.int 1)) (.int 1)),
  .iff (.bop .And [.cmp .Eq (.ix (.var 0) (.int 0)) (.int 0), .cmp .Gt (.blt "len" [.ix (.var 0) (.int 2)]) (.int 0)]) [
    .sub (.var 0) (.int 0) (.mth .list "pop" (.ix (.var 0) (.int 2)) [])] [],
  .iff (.cmp .Gt (.ix (.var 0) (.int 0)) (.int 0)) [
    .asg (.nm 4) (.bin .Mod (.blt "int" [.ix (.var 0) (.int 0)]) (.var 1)),
    .sub (.var 0) (.int 0) (.bin .FloorDiv (.ix (.var 0) (.int 0)) (.var 1)),
    .ret (.var 4)] [],
  .asg (.nm 2) (.ix (.ix (.var 0) (.int 3)) (.bin .Mod (.blt "int" [.ix (.var 0) (.int 1)]) (.blt "len" [.ix (.var 0) (.int 3)]))),
  .asg (.nm 3) (.bin .Mod (.blt "int" [.bin .Add (.bin .Add (.bin .Mult (.var 2) (.int 48271)) (.bin .Mult (.ix (.var 0) (.int 1)) (.int 69621))) (.int 1)]) (.int 2147483647)),
  .ret (.bin .Mod (.bin .FloorDiv (.bin .Mod (.blt "int" [.bin .Add (.bin .Add (.bin .Mult (.var 3) (.var 3)) (.bin .Mult (.var 3) (.int 16807))) (.bin .Mult (.ix (.var 0) (.int 1)) (.int 40014))]) (.int 2147483629)) (.int 32)) (.var 1))]
def f_bdraw : Fn := { ps := ["bag", "many"], nv := 5, pat := [(2, [])], body := b_bdraw }
def b_bpick : List S := [
  .ret (.ix (.var 1) (.call "_law_draw" [.var 0, .blt "len" [.var 1]] [] []))]
def f_bpick : Fn := { ps := ["bag", "some"], nv := 2, pat := [(2, [])], body := b_bpick }
def b_bag : List S := [
  .asg (.nm 1) (.bin .Add (.lc (.blt "abs" [.blt "int" [.var 3]]) (.nm 3) .seq [.var 0] [] [3]) (.lst [.int 7])),
  .asg (.nm 2) (.lst []),
  .iff (.cmp .Eq (.bin .Mod (.blt "int" [.ix (.var 1) (.int 0)]) (.int 2)) (.int 0)) [
    .asg (.nm 2) (.lc (.bin .FloorDiv (.var 3) (.int 2)) (.nm 3) .seq [.var 1] [.cmp .GtE (.var 3) (.bin .Pow (.int 10) (.int 18))] [3]),
    .ex (.mth .list "reverse" (.var 2) [])] [],
  .ret (.lst [.int 0, .int 0, .var 2, .lc (.bin .Mod (.blt "int" [.var 3]) (.int 2147483647)) (.nm 3) .seq [.var 1] [] [3]])]
def f_bag : Fn := { ps := ["script"], nv := 4, pat := [(1, [])], body := b_bag }
def b_bsame : List S := [
  .iff (.cmp .Is (.var 1) (.non)) [
    .ret (.cmp .Is (.var 0) (.non))] [],
  .iff (.bop .Or [.isi (.var 1) "bool", .isi (.var 0) "bool"]) [
    .ret (.bop .And [.isi (.var 1) "bool", .isi (.var 0) "bool", .cmp .Eq (.var 0) (.var 1)])] [],
  .iff (.isi (.var 1) "int") [
    .ret (.bop .And [.isi (.var 0) "int", .cmp .Eq (.var 0) (.var 1)])] [],
  .iff (.isi (.var 1) "str") [
    .ret (.bop .And [.isi (.var 0) "str", .cmp .Eq (.var 0) (.var 1)])] [],
  .iff (.bop .Or [.not (.isi (.var 1) "tuple"), .not (.isi (.var 0) "tuple"), .cmp .NotEq (.blt "len" [.var 0]) (.blt "len" [.var 1])]) [
    .ret (.bl false)] [],
  .for (.nm 2) .range [.blt "len" [.var 1]] [
    .iff (.not (.call "_law_same" [.ix (.var 0) (.var 2), .ix (.var 1) (.var 2)] [] [])) [
      .ret (.bl false)] []],
  .ret (.bl true)]
def f_bsame : Fn := { ps := ["found", "due"], nv := 3, pat := [(2, [])], body := b_bsame }
section
variable {P : Str → Option Fn} {C : Kst} {n : Nat}
theorem bdraw_call (hP : P "_law_draw" = some f_bdraw) {a b : Addr} {m : Int} {st : Sto} {K : D → Sto → Prop} (hf : BagAt st a b) (h0 : 0 < m) (h1 : m < 1073741824)
    (h : ∀ v st', 0 ≤ v → v < m → BagAt st' a b → Ex2 a b st st' → K (.int v) st') : callF P C (n + 1) "_law_draw" [.ref a, .int m] [] [] st K := by
  refine call_pos hP (by simp [f_bdraw]) rfl (body_of hP rfl ?_)
  obtain ⟨g, t, c, great, cells, ha, hb, hc, hl, nab, nac, nbc⟩ := hf.ex
  show evSs _ C b_bdraw [some (.ref a), some (.int m), none, none, none] _ _
  unfold b_bdraw
  have nba := nab.symm
  have nca := nac.symm
  have ncb := nbc.symm
  -- the end, once the number is chosen
  have fin : ∀ (v g t : Int) (gr : List Int) (st' : Sto), 0 ≤ v → v < m → st' a = some (.lst [.int g, .int t, .ref b, .ref c]) → st' b = some (.lst (gr.map .int)) → st' c = some (.lst (cells.map .int)) → Ex2 a b st st' → K (.int v) st' :=
    fun v g t gr st' v0 v1 h1 h2 h3 h4 => h v st' v0 v1 ⟨g, t, c, gr, cells, h1, h2, h3, hl, nab, nac, nbc⟩ h4
  have tail : ∀ (g t : Int) (gr : List Int) (st' : Sto), st' a = some (.lst [.int g, .int t, .ref b, .ref c]) → st' b = some (.lst (gr.map .int)) → st' c = some (.lst (cells.map .int)) → Ex2 a b st st' →
      evSs (callF P C n) C (b_bdraw.drop 2) [some (.ref a), some (.int m), none, none, none] st' { nx := fun _ st' => K .non st', rt := K, bk := fun _ _ => False, ct := fun _ _ => False } := by
    intro g t gr st' ha hb hc he
    simp only [b_bdraw, List.drop_succ_cons, List.drop_zero]
    repeat infer_instance
    refine t_if (fun hg => ?_) (fun hg => ?_)
    · repeat infer_instance
      exact fin _ (g / m) t gr _ (Int.emod_nonneg _ (by omega)) (Int.emod_lt_of_pos _ h0) (by rw [put_same] <;> rfl) (by rw [put_ne nab.symm]; exact hb) (by rw [put_ne nac.symm]; exact hc) (he.trans fun q u n1 n2 e => by rw [put_ne n1]; exact e)
    · repeat infer_instance
      refine k_mod (by rw [List.length_map]; omega) ?_
      obtain ⟨x, hx, _, e⟩ := at_in (f := D.int) (xs := cells) (i := t % ((cells.map D.int).length : Int)) (Int.emod_nonneg _ (by rw [List.length_map]; omega)) (by rw [List.length_map]; exact Int.emod_lt_of_pos _ (by omega))
      refine k_ixR (rd_of hc) e ?_
      repeat infer_instance
      exact fin _ g t gr _ (Int.emod_nonneg _ (by omega)) (Int.emod_lt_of_pos _ h0) ha hb hc he
  have hE : Ex2 a b st (put st a (.lst [.int g, .int (t + 1), .ref b, .ref c])) := fun q u n1 n2 e => by rw [put_ne n1]; exact e
  repeat infer_instance
  refine t_andE (fun h0 => ?_) (fun h0 => ?_)
  · repeat infer_instance
    refine t_and (fun hgt => ?_) (fun hgt => ?_)
    · rw [List.length_map] at hgt
      have hlt : great.length - 1 < great.length := by omega
      repeat infer_instance
      refine k_pop (st_ne nab.symm hb) (y := .int great[great.length - 1]) (by rw [List.length_map, List.getElem?_map, List.getElem?_eq_getElem hlt] <;> rfl) ?_
      repeat infer_instance
      refine k_set (st_ne nab put_same) rfl ?_
      infer_instance
      refine tail _ (t + 1) great.dropLast _ (by rw [put_same] <;> rfl) (by rw [put_ne nab.symm, put_same, List.map_dropLast]) (by rw [put_ne nac.symm, put_ne nbc.symm, put_ne nac.symm]; exact hc) ?_
      intro q u n1 n2 e
      rw [put_ne n1, put_ne n2, put_ne n1]
      exact e
    · refine t_if (fun h => absurd h hgt) (fun _ => ?_)
      infer_instance
      exact tail _ _ great _ (by rw [put_same] <;> rfl) (by rw [put_ne nab.symm]; exact hb) (by rw [put_ne nac.symm]; exact hc) hE
  · refine t_ifE (fun h => absurd h h0) (fun _ => ?_)
    infer_instance
    exact tail _ _ great _ (by rw [put_same] <;> rfl) (by rw [put_ne nab.symm]; exact hb) (by rw [put_ne nac.symm]; exact hc) hE
theorem bpick_call (hP : P "_law_draw" = some f_bdraw) (hp : P "_law_pick" = some f_bpick) {a b p : Addr} {xs : List D} {st : Sto} {K : D → Sto → Prop} (hf : BagAt st a b) (hx : st p = some (.lst xs)) (hpa : p ≠ a) (hpb : p ≠ b) (h0 : 0 < xs.length) (h1 : xs.length < 1000)
    (h : ∀ x st', x ∈ xs → BagAt st' a b → Ex2 a b st st' → K x st') : callF P C (n + 2) "_law_pick" [.ref a, .ref p] [] [] st K := by
  refine call_pos hp (by simp [f_bpick]) rfl (body_of hp rfl ?_)
  show evSs _ C b_bpick [some (.ref a), some (.ref p)] _ _
  unfold b_bpick
  repeat infer_instance
  refine bdraw_call hP hf (by omega) (by omega) fun v st' v0 v1 hf' he => ?_
  have hi : v.toNat < xs.length := by omega
  refine k_ixR (rd_of (he p _ hpa hpb hx)) (atZ v0 (List.getElem?_eq_getElem hi)) ?_
  exact h _ st' (List.getElem_mem hi) hf' he
theorem bsame_body (hs : P "_law_same" = some f_bsame) : ∀ (m : Nat) (d : D) (st : Sto) (K : D → Sto → Prop), Pl m d → K (.bl true) st → bodyF P C (n + m + 1) "_law_same" [d, d] st K := by
  have leaf : ∀ (m : Nat) (d : D) (st : Sto) (K : D → Sto → Prop), flatD d = true → K (.bl true) st → bodyF P C (n + m + 1) "_law_same" [d, d] st K := by
    intro m d st K hf h
    refine body_of hs rfl ?_
    show evSs _ C b_bsame [some d, some d, none] _ _
    unfold b_bsame
    cases d with
    | int i =>
      repeat infer_instance
      rw [beq_self_eq_true]
      exact h
    | bl b =>
      repeat infer_instance
      refine k_eqSelf rfl ?_
      exact h
    | str t =>
      repeat infer_instance
      refine k_eqSelf rfl ?_
      exact h
    | non =>
      repeat infer_instance
      exact h
    | _ => simp [flatD] at hf
  intro m
  induction m with
  | zero =>
    intro d st K hp h
    refine leaf 0 d st K ?_ h
    cases d <;> first | rfl | exact hp.elim
  | succ m ih =>
    intro d st K hp h
    cases d with
    | tup xs =>
      obtain ⟨hl, hx⟩ := hp
      refine body_of hs rfl ?_
      show evSs _ C b_bsame [some (.tup xs), some (.tup xs), none] _ _
      unfold b_bsame
      repeat infer_instance
      rw [beq_self_eq_true]
      repeat infer_instance
      refine forK_of (fun i σ st' => st' = st ∧ ∃ v, σ = [some (.tup xs), some (.tup xs), v]) ⟨rfl, none, rfl⟩ (fun _ _ _ _ => trivial) ?_ ?_
      · rintro σ st' ⟨rfl, v, rfl⟩
        repeat infer_instance
        exact h
      · rintro i x σ st' R hx2 ⟨rfl, v, rfl⟩ hR
        obtain ⟨j, hj, rfl⟩ := List.mem_map.mp (List.mem_of_getElem? hx2)
        have hj' : j < xs.length := by simpa using hj
        simp only [bindG, List.set_cons_succ, List.set_cons_zero]
        repeat infer_instance
        refine k_ixT (atN (List.getElem?_eq_getElem hj')) ?_
        repeat infer_instance
        refine k_ixT (atN (List.getElem?_eq_getElem hj')) ?_
        repeat infer_instance
        refine call_pos hs (by simp [f_bsame]) rfl ?_
        refine ih _ _ _ (hx _ (List.getElem_mem hj')) ?_
        repeat infer_instance
        exact hR _ _ ⟨rfl, _, rfl⟩
    | ref a => exact hp.elim
    | _ => exact leaf (m + 1) _ st K rfl h
end
end MP

set_option Elab.async false
set_option linter.all false
set_option maxRecDepth 100000
set_option maxHeartbeats 8000000
/-! MpX: rules that every law wants; the bag made. -/
namespace MP
open PySem PySem.Spec
theorem lcK_mapT {α : Type} {ok : Sto → Prop} {step : D → Sto → (Option D → Sto → Prop) → Prop} {K : List D → Sto → Prop} {ws : List α} {st : Sto} (g h : α → D) (J : Sto → Prop) (hlen : ws.length < sizeLine) (h0 : J st)
    (hok : ∀ st, J st → ok st) (hstep : ∀ v st R, v ∈ ws → J st → (∀ st', J st' → R (some (h v)) st') → step (g v) st R) (hend : ∀ st, J st → K (ws.map h) st) :
    lcK ok step K (ws.map g) [] st := by
  refine lcK_of (fun i acc st => acc = (ws.take i).map h ∧ J st) (by rw [List.length_map]; exact hlen) ⟨by simp, h0⟩ (fun _ _ _ h => hok _ h.2) (fun acc st h => by rw [h.1, List.length_map, List.take_length]; exact hend _ h.2) ?_
  rintro i x acc st R hx ⟨rfl, hJ⟩ h1 h2
  rw [List.getElem?_map] at hx
  cases e : ws[i]? with
  | none => rw [e] at hx; cases hx
  | some v =>
    rw [e] at hx
    cases hx
    refine hstep v st R (List.mem_of_getElem? e) hJ fun st' hJ' => h1 _ st' ⟨?_, hJ'⟩
    rw [List.take_add_one, e]
    simp
theorem allInts_map : ∀ ns : List Int, allInts (ns.map D.int) = some ns
  | [] => rfl
  | n :: ns => by simp [allInts, allInts_map ns]
theorem ints_of : ∀ {acc : List D}, (∀ y ∈ acc, ∃ i, y = D.int i) → ∃ ns : List Int, acc = ns.map D.int
  | [], _ => ⟨[], rfl⟩
  | y :: ys, h => by
    obtain ⟨i, rfl⟩ := h y List.mem_cons_self
    obtain ⟨ns, rfl⟩ := ints_of fun z hz => h z (List.mem_cons_of_mem _ hz)
    exact ⟨i :: ns, rfl⟩
theorem sub_fresh {s : Sto} {p : Addr} {o : O} (hp : s p = none) : Sub s (put s p o) := Sub.refl.new hp o
/-! ### ways -/
theorem lcK_filt {α : Type} {ok : Sto → Prop} {step : D → Sto → (Option D → Sto → Prop) → Prop} {K : List D → Sto → Prop} {ws : List α} {st : Sto} (g h : α → D) (p : α → Bool) (J : Sto → Prop) (hlen : ws.length < sizeLine) (h0 : J st)
    (hok : ∀ st, J st → ok st) (hstep : ∀ v st R, v ∈ ws → J st → (∀ st', J st' → p v = true → R (some (h v)) st') → (∀ st', J st' → p v = false → R none st') → step (g v) st R) (hend : ∀ st, J st → K ((ws.filter p).map h) st) :
    lcK ok step K (ws.map g) [] st := by
  refine lcK_of (fun i acc st => acc = ((ws.take i).filter p).map h ∧ J st) (by rw [List.length_map]; exact hlen) ⟨by simp, h0⟩ (fun _ _ _ h => hok _ h.2) (fun acc st h => by rw [h.1, List.length_map, List.take_length]; exact hend _ h.2) ?_
  rintro i x acc st R hx ⟨rfl, hJ⟩ h1 h2
  rw [List.getElem?_map] at hx
  cases e : ws[i]? with
  | none => rw [e] at hx; cases hx
  | some v =>
    rw [e] at hx
    cases hx
    have ht : ws.take (i + 1) = ws.take i ++ [v] := by rw [List.take_add_one, e] <;> rfl
    refine hstep v st R (List.mem_of_getElem? e) hJ (fun st' hJ' hp => h1 _ st' ⟨?_, hJ'⟩) (fun st' hJ' hp => h2 st' ⟨?_, hJ'⟩)
    · rw [ht, List.filter_append, List.map_append, List.filter_cons_of_pos (by exact hp)]
      simp
    · rw [ht, List.filter_append, List.filter_cons_of_neg (by rw [hp]; decide)]
      simp
theorem Sub.st {s t : Sto} (h : Sub s t) {a : Addr} {o : O} (e : s a = some o) : t a = some o := h a o e
theorem range_zip {α : Type} {ss : List α} {g : Nat → D} : (List.range ss.length).map g = ss.zipIdx.map fun q => g q.2 := by
  apply List.ext_getElem?
  intro i
  simp only [List.getElem?_map, List.getElem?_zipIdx]
  by_cases h : i < ss.length
  · rw [List.getElem?_range h, List.getElem?_eq_getElem h]
    simp
  · rw [List.getElem?_eq_none (by rw [List.length_range]; omega), List.getElem?_eq_none (by omega)]
    rfl
theorem at_range {m i : Nat} {f : Nat → D} {x : D} (h : ((List.range m).map f)[i]? = some x) : x = f i ∧ i < m := by
  rw [List.getElem?_map] at h
  by_cases hi : i < m
  · rw [List.getElem?_range hi] at h
    cases h
    exact ⟨rfl, hi⟩
  · rw [List.getElem?_eq_none (by rw [List.length_range]; omega)] at h
    cases h
theorem x_callK {F : Fs} {C : Kst} {σ : Env} {st : Sto} {K : D → Sto → Prop} {f : Str} {as kes : List E} {ks : List Str} (h : evEs F C as σ st fun vs st1 => evEs F C kes σ st1 fun ws st2 => F f vs ks ws st2 K) : evE F C (.call f as ks kes) σ st K := by unfold evE; exact h
theorem call_kw {P : Str → Option Fn} {C : Kst} {n : Nat} {f : Str} {fn : Fn} {vs ws us : List D} {ks : List Str} {st : Sto} {K : D → Sto → Prop} (hP : P f = some fn) (hp : (vs.length, ks) ∈ fn.pat) (hl : ws.length = ks.length) (hb : bindA fn.ps vs ks ws = some us) (h : bodyF P C n f us st K) : callF P C n f vs ks ws st K := by
  unfold callF callOf
  rw [hP]
  show if ks = askK then True else _
  split
  · trivial
  refine ⟨hp, hl, ?_⟩
  rw [hb]
  exact h
theorem whlK_px {c : Env → Sto → (Bool → Sto → Prop) → Prop} {body : Env → Sto → (Env → Sto → Prop) → Prop} {nx : Env → Sto → Prop} (I : Nat → Env → Sto → Prop) (X : Env → Sto → Prop)
    (hstep : ∀ m σ st R (N : Env → Sto → Prop), I m σ st → (∀ σ st, X σ st → N σ st) → (∀ m' σ' st', m = m' + 1 → I m' σ' st' → R σ' st') → c σ st fun b st1 => if b = true then body σ st1 R else N σ st1)
    (hexit : ∀ σ st, X σ st → nx σ st) (m : Nat) (σ : Env) (st : Sto) (h : I m σ st) : whlK c body nx (m + 1) σ st :=
  whlK_of I (fun m σ st R hI hR => hstep m σ st R nx hI hexit hR) m σ st h
local macro_rules | `(tactic| infer_instance) => `(tactic| with_reducible first
  | refine k_is_N ?_ | refine k_isn_N ?_ | refine k_is_B ?_ | refine k_isn_B ?_ | refine k_is_I ?_ | refine k_isn_I ?_ | refine k_is_S ?_ | refine k_isn_S ?_ | refine k_is_T ?_ | refine k_isn_T ?_ | refine k_is_R ?_ | refine k_isn_R ?_ | refine t_nT ?_ | refine t_nF ?_ | refine t_andnT ?_ | refine t_andnF ?_ | refine t_ornT ?_ | refine t_ornF ?_
  | refine x_var (by with_unfolding_all rfl) ?_
  | refine x_nil ?_
  | refine x_cons ?_
  | refine x_asg ?_
  | refine x_sub ?_
  | refine x_ex ?_
  | refine x_ret ?_
  | refine x_retN ?_
  | refine x_iff ?_
  | refine x_for ?_
  | refine x_pass ?_
  | refine x_brk ?_
  | refine x_cont ?_
  | refine x_non ?_
  | refine x_bl ?_
  | refine x_int ?_
  | refine x_str ?_
  | refine x_bin ?_
  | refine x_cmp ?_
  | refine x_cmp2 ?_
  | refine x_bop ?_
  | refine x_ite ?_
  | refine x_tup ?_
  | refine x_lst ?_
  | refine x_ix ?_
  | refine x_call ?_
  | refine x_blt ?_
  | refine x_mth ?_
  | refine x_lc ?_
  | refine x_enil ?_
  | refine x_econs ?_
  | refine x_b1 ?_
  | refine x_tnot ?_
  | refine x_tbop ?_
  | refine x_tite ?_
  | refine x_btnil ?_
  | refine x_btcons ?_
  | refine x_ts0 ?_
  | refine x_ts1 ?_
  | refine k_add ?_
  | refine k_sub ?_
  | refine k_eqI ?_
  | refine k_neI ?_
  | refine k_ltI ?_
  | refine k_leI ?_
  | refine k_gtI ?_
  | refine k_geI ?_
  | refine k_lenT ?_
  | refine k_intI ?_
  | refine k_intB ?_
  | refine k_abs ?_
  | refine k_max2 ?_
  | refine k_min2 ?_
  | refine x_asgT ?_ (callF_mono _ _ _)
  | refine x_neg ?_ (callF_mono _ _ _)
  | refine x_not ?_ (callF_mono _ _ _)
  | refine x_isi ?_ (callF_mono _ _ _)
  | refine x_t (by with_unfolding_all rfl) (callF_mono _ _ _) ?_
  | refine x_bcons ?_ (callF_mono _ _ _)
  | refine k_ixR (rd_of (by assumption)) (by with_unfolding_all rfl) ?_
  | refine k_ixR rd_put (by with_unfolding_all rfl) ?_
  | refine k_ixT (by with_unfolding_all rfl) ?_
  | refine k_lenR (rd_of (by assumption)) ?_
  | refine k_lenR rd_put ?_
  | refine k_ixR (rd_ne (by assumption) (rd_of (by assumption))) (by with_unfolding_all rfl) ?_
  | refine k_lenR (rd_ne (by assumption) (rd_of (by assumption))) ?_
  | refine k_setP (by with_unfolding_all rfl) ?_
  | refine k_set (by assumption) (by with_unfolding_all rfl) ?_
  | refine k_set put_same (by with_unfolding_all rfl) ?_
  | refine ⟨_, isi_int_N, ?_⟩ | refine ⟨_, isi_int_B, ?_⟩ | refine ⟨_, isi_int_I, ?_⟩ | refine ⟨_, isi_int_S, ?_⟩ | refine ⟨_, isi_int_T, ?_⟩ | refine ⟨_, isi_bool_N, ?_⟩ | refine ⟨_, isi_bool_B, ?_⟩ | refine ⟨_, isi_bool_I, ?_⟩ | refine ⟨_, isi_bool_S, ?_⟩ | refine ⟨_, isi_bool_T, ?_⟩ | refine ⟨_, isi_str_N, ?_⟩ | refine ⟨_, isi_str_B, ?_⟩ | refine ⟨_, isi_str_I, ?_⟩ | refine ⟨_, isi_str_S, ?_⟩ | refine ⟨_, isi_str_T, ?_⟩ | refine ⟨_, isi_tuple_N, ?_⟩ | refine ⟨_, isi_tuple_B, ?_⟩ | refine ⟨_, isi_tuple_I, ?_⟩ | refine ⟨_, isi_tuple_S, ?_⟩ | refine ⟨_, isi_tuple_T, ?_⟩ | refine ⟨_, isi_list_N, ?_⟩ | refine ⟨_, isi_list_B, ?_⟩ | refine ⟨_, isi_list_I, ?_⟩ | refine ⟨_, isi_list_S, ?_⟩ | refine ⟨_, isi_list_T, ?_⟩
  | refine x_slc ?_ (callF_mono _ _ _) | refine k_slcR (rd_of (by assumption)) ?_ | refine i_seqR rd_put ?_ | refine i_seqR (rd_of (by assumption)) ?_ | refine i_seqT ?_ | refine i_enumT ?_ | refine i_range (by omega) (by omega) ?_ | refine i_range2 (by omega) ?_ | refine k_tupR rd_put ?_ | refine k_tupR (rd_of (by assumption)) ?_
  | refine ⟨k_ty (by assumption), ?_⟩ | refine ⟨k_ty put_same, ?_⟩ | refine ⟨k_ty (st_ne (by assumption) (by assumption)), ?_⟩
  | refine ⟨_, by with_unfolding_all rfl, ?_⟩
  | refine k_mod (by omega) ?_ | refine k_div (by omega) ?_ | refine k_mul (cmulL (by omega) (by omega)) ?_ | refine k_mul (cmulR (by omega) (by omega)) ?_ | refine k_mul cmulB ?_ | refine k_pow18 ?_ | refine t_T ?_ | refine t_F ?_ | refine t_andT ?_ | refine t_andF ?_ | refine t_orT ?_ | refine t_orF ?_ | refine t_aa ?_ | refine t_oo ?_)


section
variable {P : Str → Option Fn} {C : Kst} {n : Nat}
theorem bag_call (hp : P "_law_bag" = some f_bag) {s : Addr} {ns : List Int} {st : Sto} {K : D → Sto → Prop} (hC : C s = some (ns.map D.int)) (hs : st s = none) (hl : ns.length ≤ 63)
    (h : ∀ a b st', BagAt st' a b → Sub st st' → K (.ref a) st') : callF P C (n + 1) "_law_bag" [.ref s] [] [] st K := by
  refine call_pos hp (by simp [f_bag]) rfl (body_of hp rfl ?_)
  show evSs _ C b_bag [some (.ref s), none, none, none] _ _
  unfold b_bag
  have hr : rdL C st s = some (ns.map D.int) := by unfold rdL; rw [hs]; exact hC
  repeat infer_instance
  refine i_seqR hr ?_
  refine lcK_mapT (fun v => D.int v) (fun v => D.int (if v < 0 then -v else v)) (fun st' => st' = st) (by rw [sizeLine_eq]; omega) rfl (fun st' e => by rw [e]; exact hr) ?_ ?_
  · rintro v st' R hv rfl hR
    simp only [bindG]
    repeat infer_instance
    exact hR _ rfl
  · rintro st' rfl p1 hp1
    repeat infer_instance
    intro p2 hp2
    have n21 : p1 ≠ p2 := fun z => by rw [← z, put_same] at hp2; cases hp2
    refine k_cat (st_ne n21 put_same) put_same (by rw [sizeLine_eq, List.length_map]; simp; omega) ?_
    have ecs : (ns.map fun v => D.int (if v < 0 then -v else v)) ++ [D.int 7] = (ns.map (fun v => if v < 0 then -v else v) ++ [7]).map D.int := by
      rw [List.map_append, List.map_map]
      rfl
    rw [ecs]
    generalize hcs : (ns.map (fun v => if v < 0 then -v else v) ++ [7] : List Int) = cs
    have hl1 : 0 < cs.length ∧ cs.length ≤ 64 := by rw [← hcs, List.length_append, List.length_map]; simp; omega
    have hp2' : st' p2 = none := by rwa [put_ne n21.symm] at hp2
    have hs2 : Sub st' (put (put st' p1 (.lst (ns.map fun v => D.int (if v < 0 then -v else v)))) p2 (.lst [.int 7])) := (sub_fresh hp1).new hp2' _
    intro p3 hp3
    have hp3' : st' p3 = none := Sub.none hs2 hp3
    have hs3 := hs2.new hp3' (.lst (cs.map D.int))
    generalize hst3 : put (put (put st' p1 (.lst (ns.map fun v => D.int (if v < 0 then -v else v)))) p2 (.lst [.int 7])) p3 (.lst (cs.map D.int)) = st3 at *
    have h3 : st3 p3 = some (.lst (cs.map D.int)) := by rw [← hst3, put_same]
    -- the end
    have tail : ∀ (q : Addr) (gr : List Int) (st4 : Sto), Sub st' st4 → st4 p3 = some (.lst (cs.map D.int)) → st4 q = some (.lst (gr.map D.int)) → q ≠ p3 →
        evSs (callF P C n) C (b_bag.drop 3) [some (.ref s), some (.ref p3), some (.ref q), none] st4 { nx := fun _ st' => K .non st', rt := K, bk := fun _ _ => False, ct := fun _ _ => False } := by
      intro q gr st4 hs4 g3 gq nq
      simp only [b_bag, List.drop_succ_cons, List.drop_zero]
      repeat infer_instance
      refine lcK_mapT (fun v => D.int v) (fun v => D.int (v % 2147483647)) (fun st5 => st5 = st4) (by rw [sizeLine_eq]; omega) rfl (fun st5 e => by rw [e]; exact rd_of g3) ?_ ?_
      · rintro v st5 R hv rfl hR
        simp only [bindG]
        repeat infer_instance
        exact hR _ rfl
      · rintro st5 rfl c hc
        repeat infer_instance
        intro a ha
        have nca : c ≠ a := fun z => by rw [← z, put_same] at ha; cases ha
        have nqc : q ≠ c := fun z => by rw [← z, gq] at hc; cases hc
        have hc' := Sub.none hs4 hc
        have hsa : st5 a = none := by rwa [put_ne nca.symm] at ha
        have nqa : q ≠ a := fun z => by rw [← z, gq] at hsa; cases hsa
        refine h a q _ ⟨0, 0, c, gr, cs.map (fun v => v % 2147483647), put_same, ?_, ?_, by rw [List.length_map]; exact hl1.1, nqa.symm, nca.symm, nqc⟩ ((hs4.new hc' _).new (Sub.none hs4 hsa) _)
        · rw [put_ne nqa, put_ne nqc]; exact gq
        · rw [put_ne nca, put_same, List.map_map]
          rfl
    repeat infer_instance
    intro q hq
    have hqs := Sub.none hs3 hq
    have nq : q ≠ p3 := fun z => by rw [z, h3] at hq; cases hq
    have g3 : put st3 q (.lst []) p3 = some (.lst (cs.map D.int)) := by rw [put_ne nq.symm]; exact h3
    have hs4 := hs3.new hqs (.lst [])
    obtain ⟨x0, hx0, _, e0⟩ := at_in (f := D.int) (xs := cs) (i := 0) (by decide) (by omega)
    repeat infer_instance
    refine k_ixR (rd_of g3) e0 ?_
    repeat infer_instance
    refine t_ifE (fun _ => ?_) (fun _ => ?_)
    · repeat infer_instance
      refine lcK_filt (fun v => D.int v) (fun v => D.int (v / 2)) (fun v => decide ((10 : Int) ^ 18 ≤ v)) (fun st5 => st5 = put st3 q (.lst [])) (by rw [sizeLine_eq]; omega) rfl (fun st5 e => by rw [e]; exact rd_of g3) ?_ ?_
      · rintro v st5 R hv rfl h1 h2
        simp only [bindG]
        repeat infer_instance
        refine t_if (fun hh => ?_) (fun hh => ?_)
        · repeat infer_instance
          exact h1 _ rfl (decide_eq_true hh)
        · exact h2 _ rfl (decide_eq_false hh)
      · rintro st5 rfl q2 hq2
        have nq2 : q2 ≠ p3 := fun z => by rw [z, g3] at hq2; cases hq2
        repeat infer_instance
        refine k_rev put_same ?_
        rw [put_put]
        infer_instance
        refine tail q2 ((cs.filter fun v => decide ((10 : Int) ^ 18 ≤ v)).map (fun v => v / 2)).reverse _ ?_ ?_ ?_ nq2
        · exact hs4.new (Sub.none hs4 hq2) _
        · rw [put_ne nq2.symm]; exact g3
        rw [put_same, List.map_reverse, List.map_map]
        rfl
    · infer_instance
      exact tail q [] _ hs4 g3 (by rw [put_same] <;> rfl) nq
end
end MP

set_option Elab.async false
set_option linter.all false
set_option maxRecDepth 100000
set_option maxHeartbeats 8000000
/-! MpY: comparing a list with the empty one; membership of whole numbers. -/
namespace MP
open PySem PySem.Spec
/-- plain data without texts, of a depth -/
def Pn : Nat → D → Prop
  | _, .non => True
  | _, .bl _ => True
  | _, .int _ => True
  | _, .str _ => False
  | 0, .tup _ => False
  | n + 1, .tup xs => ∀ x ∈ xs, Pn n x
  | _, .ref _ => False
theorem dataL_pn {f : D → Option PyData} {n : Nat} : ∀ {xs : List D}, (∀ x ∈ xs, ∃ e, f x = some e ∧ e.canLay0 = true ∧ e.depth ≤ n) → ∃ es, dataL f xs = some es ∧ PyData.canLayAll0 es = true ∧ PyData.depthAll es ≤ n ∧ es.length = xs.length
  | [], _ => ⟨[], rfl, rfl, by simp [PyData.depthAll], rfl⟩
  | x :: xs, h => by
    obtain ⟨e, h1, h2, h3⟩ := h x List.mem_cons_self
    obtain ⟨es, h4, h5, h6, h7⟩ := dataL_pn fun z hz => h z (List.mem_cons_of_mem _ hz)
    refine ⟨e :: es, by simp [dataL, h1, h4], by simp [PyData.canLayAll0, h2, h5], ?_, by rw [List.length_cons, List.length_cons, h7]⟩
    simp only [PyData.depthAll]
    omega
theorem data_pn {C : Kst} {st : Sto} : ∀ (n m : Nat) (d : D), Pn n d → n < m → ∃ e, dataD C m st d = some e ∧ e.canLay0 = true ∧ e.depth ≤ n
  | n, 0, d, _, h => by omega
  | n, m + 1, .non, _, _ => ⟨.none, rfl, by simp [PyData.canLay0], by simp [PyData.depth]⟩
  | n, m + 1, .bl b, _, _ => ⟨.bool b, rfl, by simp [PyData.canLay0], by simp [PyData.depth]⟩
  | n, m + 1, .int i, _, _ => ⟨.int i, rfl, by simp [PyData.canLay0], by simp [PyData.depth]⟩
  | n, m + 1, .str s, h, _ => by cases n <;> exact h.elim
  | n, m + 1, .ref s, h, _ => by cases n <;> exact h.elim
  | 0, m + 1, .tup xs, h, _ => h.elim
  | n + 1, m + 1, .tup xs, h, hm => by
    obtain ⟨es, h1, h2, h3, _⟩ := dataL_pn (f := dataD C m st) (n := n) (xs := xs) fun x hx => data_pn n m x (h x hx) (by omega)
    refine ⟨.tuple es, by simp [dataD, h1], by simpa [PyData.canLay0] using h2, ?_⟩
    simp only [PyData.depth]
    omega
section
variable {C : Kst} {st : Sto} {K : D → Sto → Prop}
theorem data_list {a : Addr} {xs : List D} (h : st a = some (.lst xs)) (hx : ∀ x ∈ xs, Pn 10 x) : ∃ es, dataD C 16 st (.ref a) = some (.list es) ∧ SeqAt.shaped (.list es) = true ∧ es.length = xs.length := by
  obtain ⟨es, h1, h2, h3, h4⟩ := dataL_pn (f := dataD C 15 st) (n := 10) (xs := xs) fun x hx' => data_pn 10 15 x (hx x hx') (by omega)
  refine ⟨es, by simp only [dataD, rd_of h, h1], ?_, h4⟩
  unfold SeqAt.shaped
  have e1 : (PyData.list es).canLay0 = true := by simpa [PyData.canLay0] using h2
  have e2 : (PyData.list es).depth ≤ 64 := by
    simp only [PyData.depth]
    omega
  rw [e1, decide_eq_true e2] <;> rfl
theorem k_eqNil {a b : Addr} {xs : List D} (h : st a = some (.lst xs)) (hb : st b = some (.lst [])) (hx : ∀ x ∈ xs, Pn 10 x) (k : K (.bl xs.isEmpty) st) : cmpK C .Eq (.ref a) (.ref b) st K := by
  obtain ⟨es, h1, h2, h3⟩ := data_list (C := C) h hx
  obtain ⟨fs, g1, g2, g3⟩ := data_list (C := C) hb (by simp)
  unfold cmpK eqK
  show ∃ d e, _
  refine ⟨_, _, h1, g1, h2, g2, ?_⟩
  have e0 : fs = [] := List.eq_nil_of_length_eq_zero g3
  subst e0
  have : PyData.eqv (.list es) (.list []) = xs.isEmpty := by
    cases es with
    | nil => cases xs with
      | nil => simp [PyData.eqv, PyData.eqvAll]
      | cons x xs => simp at h3
    | cons e es => cases xs with
      | nil => simp at h3
      | cons x xs => simp [PyData.eqv, PyData.eqvAll]
  show K (.bl (if false = true then !PyData.eqv _ _ else PyData.eqv _ _)) st
  rw [if_neg Bool.false_ne_true, this]
  exact k
theorem k_neNil {a b : Addr} {xs : List D} (h : st a = some (.lst xs)) (hb : st b = some (.lst [])) (hx : ∀ x ∈ xs, Pn 10 x) (k : K (.bl !xs.isEmpty) st) : cmpK C .NotEq (.ref a) (.ref b) st K := by
  obtain ⟨es, h1, h2, h3⟩ := data_list (C := C) h hx
  obtain ⟨fs, g1, g2, g3⟩ := data_list (C := C) hb (by simp)
  unfold cmpK eqK
  show ∃ d e, _
  refine ⟨_, _, h1, g1, h2, g2, ?_⟩
  have e0 : fs = [] := List.eq_nil_of_length_eq_zero g3
  subst e0
  have : PyData.eqv (.list es) (.list []) = xs.isEmpty := by
    cases es with
    | nil => cases xs with
      | nil => simp [PyData.eqv, PyData.eqvAll]
      | cons x xs => simp at h3
    | cons e es => cases xs with
      | nil => simp at h3
      | cons x xs => simp [PyData.eqv, PyData.eqvAll]
  show K (.bl (if true = true then !PyData.eqv _ _ else PyData.eqv _ _)) st
  rw [if_pos rfl, this]
  exact k
theorem any_ints {L : List Int} {i : Int} : ((L.map D.int).any fun z => eqD z (.int i)) = decide (i ∈ L) := by
  induction L with
  | nil => simp
  | cons x L ih =>
    rw [List.map_cons, List.any_cons, ih]
    simp only [eqD, List.mem_cons]
    by_cases h : x = i
    · subst h; simp
    · have : ¬ i = x := fun z => h z.symm
      simp [h, this]
theorem k_inI {a : Addr} {L : List Int} {i : Int} (h : st a = some (.lst (L.map D.int))) (k : K (.bl (decide (i ∈ L))) st) : cmpK C .In (.int i) (.ref a) st K := by
  unfold cmpK
  simp only [items, rd_of h]
  refine ⟨rfl, ?_, by rw [any_ints]; exact k⟩
  rw [List.all_eq_true]
  intro x hx
  obtain ⟨v, _, rfl⟩ := List.mem_map.mp hx
  rfl
end
end MP

set_option Elab.async false
set_option linter.all false
set_option maxRecDepth 100000
set_option maxHeartbeats 8000000
/-! MpZ: the marks of attributes, the methods of a class in a table. -/
namespace MP
open PySem PySem.Spec L2
/-- what stands behind a beginning -/
def unpre (p s : Str) : Option Str := if s.cps.toList.take p.cps.toList.length = p.cps.toList then some ⟨(s.cps.toList.drop p.cps.toList.length).toArray⟩ else none
theorem unpre_ok (p s : Str) : unpre p (p ++ s) = some s := by
  obtain ⟨⟨p⟩⟩ := p
  obtain ⟨⟨s⟩⟩ := s
  have e : (((⟨⟨p⟩⟩ : Str) ++ (⟨⟨s⟩⟩ : Str)) : Str).cps.toList = p ++ s := by
    show ((⟨p⟩ : Array Nat) ++ (⟨s⟩ : Array Nat)).toList = p ++ s
    simp
  unfold unpre
  rw [e]
  show (if (p ++ s).take p.length = p then some (⟨((p ++ s).drop p.length).toArray⟩ : Str) else none) = _
  rw [List.take_left, List.drop_left, if_pos rfl]
/-- the attributes that a def's marks name -/
def fldsOf (N : List Str) : List Str := N.filterMap (unpre "<fld> ")
theorem fld_mem {N : List Str} {fl : Str} (h : fldMark fl ∈ N) : fl ∈ fldsOf N := List.mem_filterMap.mpr ⟨_, h, unpre_ok _ _⟩
def subB (xs ys : List Str) : Bool := xs.all fun x => decide (x ∈ ys)
theorem sub_mem {xs ys : List Str} (h : subB xs ys = true) {x : Str} (hx : x ∈ xs) : x ∈ ys := of_decide_eq_true (List.all_eq_true.mp h x hx)
/-- the methods of a class -/
def mthsOf (C : Str) (ds : List (Str × Fn)) : List (Str × Fn) := ds.filterMap fun p => (unpre (C ++ ".") p.1).map fun m => (m, p.2)
theorem look_mem2 : ∀ {ds : List (Str × Fn)} {f : Str} {fn : Fn}, lookF ds f = some fn → (f, fn) ∈ ds
  | [], _, _, h => by simp [lookF] at h
  | (g, gn) :: r, f, fn, h => by
    unfold lookF at h
    split at h
    · rename_i e
      cases h
      subst e
      exact List.mem_cons_self
    · exact List.mem_cons_of_mem _ (look_mem2 h)
theorem mth_mem {C m : Str} {ds : List (Str × Fn)} {fn : Fn} (h : lookF ds (mname C m) = some fn) : (m, fn) ∈ mthsOf C ds := by
  refine List.mem_filterMap.mpr ⟨(mname C m, fn), look_mem2 h, ?_⟩
  show (unpre (C ++ ".") ((C ++ ".") ++ m)).map _ = _
  rw [unpre_ok] <;> rfl
theorem kd_all {ds : List (Str × Fn)} (h : ds.all (fun p => decide (p.2.kd ≤ 2)) = true) : ∀ f fn, lookF ds f = some fn → fn.kd ≤ 2 := fun f fn e => of_decide_eq_true (List.all_eq_true.mp h _ (look_mem2 e))
end MP

set_option Elab.async false
set_option linter.all false
set_option maxRecDepth 100000
set_option maxHeartbeats 8000000
/-! K22b: a way's letters, by numbers -/
namespace MP
open PySem PySem.Spec
/-! ### a way's letters, by numbers -/
def slotT (tick slot wheel : Int) : Int := tick + (slot - tick) % wheel
theorem slot_ge {t s w : Int} (w1 : 1 ≤ w) : t ≤ slotT t s w := by
  unfold slotT
  have := Int.emod_nonneg (s - t) (show w ≠ 0 by omega)
  omega
theorem slot_lt {t s w : Int} (w1 : 1 ≤ w) : slotT t s w < t + w := by
  unfold slotT
  have := Int.emod_lt_of_pos (s - t) (show 0 < w by omega)
  omega
theorem slot_mod {t s w : Int} : ∃ k : Int, slotT t s w = s + k * w := by
  unfold slotT
  refine ⟨-((s - t) / w), ?_⟩
  have := Int.emod_add_mul_ediv (s - t) w
  have e : w * ((s - t) / w) = ((s - t) / w) * w := Int.mul_comm _ _
  rw [Int.neg_mul]
  omega
theorem slot_shift {p b x s w : Int} (h : (p - b) % w = 0) : slotT (p + x) s w - p = slotT (b + x) s w - b := by
  unfold slotT
  obtain ⟨k, hk⟩ : ∃ k : Int, p - b = w * k := by
    obtain ⟨k, hk⟩ := Int.dvd_of_emod_eq_zero h
    exact ⟨k, hk⟩
  have e : s - (p + x) = s - (b + x) + w * (-k) := by
    rw [Int.mul_neg]
    omega
  rw [e, Int.add_mul_emod_self_left]
  omega
/-- the greatest told up to a letter -/
def Um (T : Int) (f : Nat → Int) : Nat → Int
  | 0 => f 0 + T
  | j + 1 => max (Um T f j) (f (j + 1) + T)
theorem um_le {T : Int} {f : Nat → Int} {M : Int} : ∀ {j : Nat}, (∀ i, i ≤ j → f i + T ≤ M) → Um T f j ≤ M
  | 0, h => h 0 (Nat.le_refl _)
  | j + 1, h => by
    have h1 := um_le (M := M) (j := j) fun i hi => h i (by omega)
    have h2 := h (j + 1) (Nat.le_refl _)
    show max (Um T f j) (f (j + 1) + T) ≤ M
    omega
theorem um_congr {T : Int} {f f' : Nat → Int} : ∀ {j : Nat}, (∀ i, i ≤ j → f i = f' i) → Um T f j = Um T f' j
  | 0, h => by
    show f 0 + T = f' 0 + T
    rw [h 0 (Nat.le_refl _)]
  | j + 1, h => by
    show max (Um T f j) (f (j + 1) + T) = max (Um T f' j) (f' (j + 1) + T)
    rw [um_congr (j := j) fun i hi => h i (by omega), h (j + 1) (Nat.le_refl _)]
def rdyF (m r : Nat) (T : Int) (g f : Nat → Int) (j : Nat) : Int := max (max (g j) (if m ≤ j then f (j - m) + T else 0)) (if r ≤ j then Um T f (j - r) else 0)
structure Hs (m r : Nat) (w T : Int) (sl g f : Nat → Int) (N : Nat) : Prop where
  fe : ∀ j, j < N → f j = slotT (rdyF m r T g f j) (sl j) w
  gm : ∀ i j, i ≤ j → j < N → g i ≤ g j
  g0 : ∀ j, j < N → 0 ≤ g j
section
variable {m r N : Nat} {w T : Int} {sl g f : Nat → Int}
theorem rdy_g {j : Nat} : g j ≤ rdyF m r T g f j := by
  unfold rdyF
  omega
theorem rdy_m {j : Nat} (h : m ≤ j) : f (j - m) + T ≤ rdyF m r T g f j := by
  unfold rdyF
  rw [if_pos h]
  omega
/-- no letter goes a wheel behind a later one, where the reach binds nothing -/
theorem star (w1 : 1 ≤ w) (m1 : 1 ≤ m) (hT : w ≤ T) (hr : 2 * m ≤ r) (hsl : ∀ j, sl (j + m) = sl j) (H : Hs m r w T sl g f N) : ∀ (i : Nat), (∀ j, i ≤ j → j < N → f i < f j + w) := by
  intro i
  induction i using Nat.strongRecOn with
  | _ i ih =>
    intro j hij hj
    by_cases q : f i < f j + w
    · exact q
    exfalso
    have hi : i < N := by omega
    have ei := H.fe i hi
    have ej := H.fe j hj
    have lt := slot_lt (t := rdyF m r T g f i) (s := sl i) w1
    rw [← ei] at lt
    have gej := slot_ge (t := rdyF m r T g f j) (s := sl j) w1
    rw [← ej] at gej
    have gg := H.gm i j hij hj
    have gj : g j ≤ rdyF m r T g f j := rdy_g
    -- what binds is the letter ahead in the lane
    have void : (if r ≤ i then Um T f (i - r) else 0) ≤ max (g i) (if m ≤ i then f (i - m) + T else 0) := by
      have g0 := H.g0 i hi
      by_cases hri : r ≤ i
      · rw [if_pos hri, if_pos (by omega)]
        refine Int.le_trans (um_le (M := f (i - m) + T) fun k hk => ?_) (by omega)
        have h1 := ih k (by omega) (i - 2 * m) (by omega) (by omega)
        have h2 := H.fe (i - m) (by omega)
        have h3 := slot_ge (t := rdyF m r T g f (i - m)) (s := sl (i - m)) w1
        rw [← h2] at h3
        have h4 : f (i - m - m) + T ≤ rdyF m r T g f (i - m) := rdy_m (by omega)
        rw [show i - m - m = i - 2 * m by omega] at h4
        omega
      · rw [if_neg hri]
        omega
    have hm : m ≤ i := by
      rcases Nat.lt_or_ge i m with z | z
      · exfalso
        rw [if_neg (by omega)] at void
        have g0 := H.g0 i hi
        have e : rdyF m r T g f i ≤ g i := by
          unfold rdyF
          rw [if_neg (show ¬ m ≤ i by omega)]
          omega
        omega
      · exact z
    have e : rdyF m r T g f i = max (g i) (f (i - m) + T) := by
      unfold rdyF
      rw [if_pos hm] at void ⊢
      omega
    have e2 : rdyF m r T g f i = f (i - m) + T := by omega
    have h1 := ih (i - m) (by omega) (j - m) (by omega) (by omega)
    have hjm : f (j - m) + T ≤ rdyF m r T g f j := rdy_m (by omega)
    -- by wheels
    obtain ⟨a1, h2⟩ := slot_mod (t := rdyF m r T g f i) (s := sl i) (w := w)
    obtain ⟨a2, h3⟩ := slot_mod (t := rdyF m r T g f (i - m)) (s := sl (i - m)) (w := w)
    obtain ⟨a3, h4⟩ := slot_mod (t := rdyF m r T g f j) (s := sl j) (w := w)
    obtain ⟨a4, h5⟩ := slot_mod (t := rdyF m r T g f (j - m)) (s := sl (j - m)) (w := w)
    rw [← H.fe _ (by omega)] at h2 h3 h4 h5
    have s1 : sl (i - m) = sl i := by
      have := hsl (i - m)
      rw [show i - m + m = i by omega] at this
      exact this.symm
    have s2 : sl (j - m) = sl j := by
      have := hsl (j - m)
      rw [show j - m + m = j by omega] at this
      exact this.symm
    rw [s1] at h3
    rw [s2] at h5
    have k1 : f i - f (i - m) = (a1 - a2) * w := by rw [Int.sub_mul]; omega
    have k2 : f j - f (j - m) = (a3 - a4) * w := by rw [Int.sub_mul]; omega
    have k3 : (a1 - a2) ≤ (a3 - a4) := by
      by_cases z : a3 - a4 < a1 - a2
      · exfalso
        have : (a3 - a4) * w ≤ (a1 - a2 - 1) * w := Int.mul_le_mul_of_nonneg_right (by omega) (by omega)
        rw [Int.sub_mul (a1 - a2) 1, Int.one_mul] at this
        omega
      · omega
    have k4 : (a1 - a2) * w ≤ (a3 - a4) * w := Int.mul_le_mul_of_nonneg_right k3 (by omega)
    omega
/-- so the reach binds nothing -/
theorem reach_void (w1 : 1 ≤ w) (m1 : 1 ≤ m) (hT : w ≤ T) (hr : 2 * m ≤ r) (hsl : ∀ j, sl (j + m) = sl j) (H : Hs m r w T sl g f N) (g0 : 0 ≤ g N) : (if r ≤ N then Um T f (N - r) else 0) ≤ max (g N) (if m ≤ N then f (N - m) + T else 0) := by
  by_cases hri : r ≤ N
  · rw [if_pos hri, if_pos (by omega)]
    refine Int.le_trans (um_le (M := f (N - m) + T) fun k hk => ?_) (by omega)
    have h1 := star w1 m1 hT hr hsl H k (N - 2 * m) (by omega) (by omega)
    have h2 := H.fe (N - m) (by omega)
    have h3 := slot_ge (t := rdyF m r T g f (N - m)) (s := sl (N - m)) w1
    rw [← h2] at h3
    have h4 : f (N - m - m) + T ≤ rdyF m r T g f (N - m) := rdy_m (by omega)
    rw [show N - m - m = N - 2 * m by omega] at h4
    omega
  · rw [if_neg hri]
    omega
end

end MP

set_option Elab.async false
set_option linter.all false
set_option maxRecDepth 100000
set_option maxHeartbeats 8000000
/-! K22c: a call's letters -/
namespace MP
open PySem PySem.Spec
/-! ### the letters as the course tells them: ticks from the call's beginning on -/
structure LS where
  lanes : List Int
  lag : List Int
  come : Int
def ltFree (beg : Int) (ln : Int) (lag : List Int) : Int := match lag with
  | [] => max beg ln
  | x :: _ => max (max beg ln) x
def ltLag (lag : List Int) (t : Int) : List Int := match lag with
  | [] => []
  | x :: r => r ++ [max ((x :: r).getLast?.getD 0) t]
def ltTry (ss : List Int) (w ph beg : Int) (l : Nat) (S : LS) : Int := slotT (ph + ltFree beg ((S.lanes[l % ss.length]?).getD 0) S.lag) ((ss[l % ss.length]?).getD 0) w - ph
def ltStep (ss : List Int) (w cm T ph beg : Int) (l : Nat) (S : LS) : LS :=
  { lanes := S.lanes.set (l % ss.length) (ltTry ss w ph beg l S + T), lag := ltLag S.lag (ltTry ss w ph beg l S + T), come := max S.come (ltTry ss w ph beg l S + cm) }
def ltRun (ss : List Int) (w cm T ph beg : Int) (l0 : Nat) : Nat → LS → LS
  | 0, S => S
  | n + 1, S => ltStep ss w cm T ph beg (l0 + n) (ltRun ss w cm T ph beg l0 n S)
structure LRel (m r : Nat) (T b gg : Int) (f : Nat → Int) (B N : Nat) (lanes lag : List Int) : Prop where
  ll : lanes.length = m
  la : ∀ i, i < m → max gg ((lanes[(B + N + i) % m]?).getD 0) = max gg ((if m ≤ N + i then f (N + i - m) + T else 0) - b)
  l0 : 2 * m ≤ r → lag = []
  l1 : r < 2 * m → lag.length = r ∧ ∀ i, i < r → max gg ((lag[i]?).getD 0) = max gg ((if r ≤ N + i then Um T f (N + i - r) else 0) - b)
section
variable {m r N B : Nat} {w cm T b gg ph : Int} {ss lanes lag : List Int} {g f : Nat → Int}
theorem LRel.raise {g2 : Int} (h : LRel m r T b gg f B N lanes lag) (hg : gg ≤ g2) : LRel m r T b g2 f B N lanes lag := by
  obtain ⟨h1, h2, h3, h4⟩ := h
  refine ⟨h1, fun i hi => ?_, h3, fun hr => ⟨(h4 hr).1, fun i hi => ?_⟩⟩
  · have := h2 i hi
    generalize (if m ≤ N + i then f (N + i - m) + T else 0) = A at *
    omega
  · have := (h4 hr).2 i hi
    generalize (if r ≤ N + i then Um T f (N + i - r) else 0) = A at *
    omega
theorem LRel.lower {by' least : Int} (h : LRel m r T b gg f B N lanes lag) (hm : 1 ≤ m) (hg : gg - by' ≤ least) : LRel m r T (b + by') least f B N (lanes.map fun t => max (t - by') least) (lag.map fun t => max (t - by') least) := by
  obtain ⟨h1, h2, h3, h4⟩ := h
  refine ⟨by rw [List.length_map]; exact h1, fun i hi => ?_, fun hr => by rw [h3 hr]; rfl, fun hr => ⟨by rw [List.length_map]; exact (h4 hr).1, fun i hi => ?_⟩⟩
  · have := h2 i hi
    have hk : (B + N + i) % m < lanes.length := by rw [h1]; exact Nat.mod_lt _ (by omega)
    rw [List.getElem?_map]
    rw [List.getElem?_eq_getElem hk] at this ⊢
    simp only [Option.map_some, Option.getD_some] at this ⊢
    generalize (if m ≤ N + i then f (N + i - m) + T else 0) = A at *
    omega
  · have := (h4 hr).2 i hi
    have hk : i < lag.length := by rw [(h4 hr).1]; exact hi
    rw [List.getElem?_map]
    rw [List.getElem?_eq_getElem hk] at this ⊢
    simp only [Option.map_some, Option.getD_some] at this ⊢
    generalize (if r ≤ N + i then Um T f (N + i - r) else 0) = A at *
    omega
theorem mod_ne {a k m : Nat} (h0 : 0 < k) (h1 : k < m) : (a + k) % m ≠ a % m := by
  rw [Nat.add_mod, Nat.mod_eq_of_lt h1]
  have hx : a % m < m := Nat.mod_lt _ (by omega)
  generalize a % m = x at *
  by_cases q : x + k < m
  · rw [Nat.mod_eq_of_lt q]
    omega
  · rw [Nat.mod_eq_sub_mod (by omega), Nat.mod_eq_of_lt (by omega)]
    omega
/-- what a letter waits for -/
theorem ltFree_eq {beg : Int} (h : LRel m r T b gg f B N lanes lag) (hm : 1 ≤ m) (hr1 : 1 ≤ r) (w1 : 1 ≤ w) (hT : w ≤ T) {sl : Nat → Int} (hsl : ∀ j, sl (j + m) = sl j) (H : Hs m r w T sl g f N) (g0 : 0 ≤ g N) (hb : beg = g N - b) (hg : gg ≤ beg) :
    ltFree beg ((lanes[(B + N) % m]?).getD 0) lag = rdyF m r T g f N - b := by
  obtain ⟨h1, h2, h3, h4⟩ := h
  have e0 := h2 0 (by omega)
  rw [Nat.add_zero] at e0
  rw [Nat.add_zero] at e0
  by_cases hr : r < 2 * m
  · obtain ⟨k1, k2⟩ := h4 hr
    have e1 := k2 0 (by omega)
    rw [Nat.add_zero] at e1
    cases lag with
    | nil => simp at k1; omega
    | cons x xs =>
      have e1 : max gg x = max gg ((if r ≤ N then Um T f (N - r) else 0) - b) := e1
      unfold ltFree rdyF
      generalize (lanes[(B + N) % m]?).getD 0 = y at *
      generalize (if m ≤ N then f (N - m) + T else 0) = A at *
      generalize (if r ≤ N then Um T f (N - r) else 0) = U at *
      simp only []
      omega
  · rw [h3 (by omega)]
    have v := reach_void w1 hm hT (show 2 * m ≤ r by omega) hsl H g0
    unfold ltFree rdyF
    generalize (lanes[(B + N) % m]?).getD 0 = y at *
    generalize (if m ≤ N then f (N - m) + T else 0) = A at *
    generalize (if r ≤ N then Um T f (N - r) else 0) = U at *
    simp only []
    omega
/-- a letter more -/
theorem LRel.next {t : Int} (h : LRel m r T b gg f B N lanes lag) (hm : 1 ≤ m) (hr1 : 1 ≤ r) (ht : t = f N + T - b) (h0 : 0 ≤ f N + T) : LRel m r T b gg f B (N + 1) (lanes.set ((B + N) % m) t) (ltLag lag t) := by
  obtain ⟨h1, h2, h3, h4⟩ := h
  have hk : (B + N) % m < lanes.length := by rw [h1]; exact Nat.mod_lt _ (by omega)
  refine ⟨by rw [List.length_set]; exact h1, fun i hi => ?_, fun hr => by rw [h3 hr]; rfl, fun hr => ?_⟩
  · by_cases e : i = m - 1
    · subst e
      rw [show B + (N + 1) + (m - 1) = B + N + m by omega, Nat.add_mod_right, List.getElem?_set_self hk, if_pos (by omega), show N + 1 + (m - 1) - m = N by omega, ht]
      rfl
    · have := h2 (i + 1) (by omega)
      rw [show B + (N + 1) + i = B + N + (i + 1) by omega, List.getElem?_set_ne (mod_ne (by omega) (by omega)).symm, this, show N + 1 + i = N + (i + 1) by omega]
  · obtain ⟨k1, k2⟩ := h4 hr
    cases lag with
    | nil => simp at k1; omega
    | cons x xs =>
      have hl : xs.length + 1 = r := k1
      show (xs ++ [max ((x :: xs).getLast?.getD 0) t]).length = r ∧ _
      refine ⟨by simp; exact hl, fun i hi => ?_⟩
      show max gg (((xs ++ [max ((x :: xs).getLast?.getD 0) t])[i]?).getD 0) = _
      by_cases e : i = r - 1
      · subst e
        have k3 := k2 (r - 1) (by omega)
        have e2 : (x :: xs).getLast? = (x :: xs)[r - 1]? := by rw [List.getLast?_eq_getElem?]; congr 1; simp; omega
        rw [e2, List.getElem?_append_right (by omega), show r - 1 - xs.length = 0 by omega]
        simp only [List.getElem?_cons_zero, Option.getD_some]
        generalize ((x :: xs)[r - 1]?).getD 0 = y at *
        rw [if_pos (by omega), show N + 1 + (r - 1) - r = N by omega]
        by_cases hN : N = 0
        · subst hN
          rw [if_neg (by omega)] at k3
          show max gg (max y t) = max gg (f 0 + T - b)
          omega
        · rw [if_pos (by omega), show N + (r - 1) - r = N - 1 by omega] at k3
          have eU : Um T f N = max (Um T f (N - 1)) (f N + T) := by
            obtain ⟨n', rfl⟩ : ∃ n', N = n' + 1 := ⟨N - 1, by omega⟩
            rfl
          rw [eU]
          omega
      · have k3 := k2 (i + 1) (by omega)
        rw [List.getElem?_append_left (by omega)]
        rw [show N + 1 + i = N + (i + 1) by omega]
        exact k3
end
/-- the greatest coming ahead of a letter -/
def Rm (cm : Int) (f : Nat → Int) : Nat → Int
  | 0 => -1
  | j + 1 => max (Rm cm f j) (f j + cm)
theorem rm_mono {cm : Int} {f : Nat → Int} : ∀ {i j : Nat}, i ≤ j → Rm cm f i ≤ Rm cm f j
  | i, 0, h => by rw [Nat.le_zero.mp h]; exact Int.le_refl _
  | i, j + 1, h => by
    rcases Nat.lt_or_ge i (j + 1) with q | q
    · have h1 := rm_mono (cm := cm) (f := f) (i := i) (j := j) (by omega)
      show _ ≤ max (Rm cm f j) (f j + cm)
      omega
    · rw [show i = j + 1 by omega]
      exact Int.le_refl _
section
variable {m r N B : Nat} {w cm T b gg ph : Int} {ss : List Int} {g f : Nat → Int} {S : LS}
/-- all letters of a call -/
theorem run_rel {beg : Int} {l0 : Nat} (hms : ss.length = m) (hm : 1 ≤ m) (hr1 : 1 ≤ r) (w1 : 1 ≤ w) (hT : w ≤ T) (hp : (ph - b) % w = 0) (hb0 : 0 ≤ beg) (hg : gg ≤ beg) (h : LRel m r T b gg f B N S.lanes S.lag) : ∀ n, Hs m r w T (fun j => (ss[(B + j) % m]?).getD 0) g f (N + n) → (∀ p, p < n → g (N + p) = beg + b) → (∀ p, p < n → (l0 + p) % m = (B + N + p) % m) →
    LRel m r T b gg f B (N + n) (ltRun ss w cm T ph beg l0 n S).lanes (ltRun ss w cm T ph beg l0 n S).lag ∧ (∀ p, p < n → beg ≤ f (N + p) - b) ∧ (0 ≤ cm → 1 ≤ n → (ltRun ss w cm T ph beg l0 n S).come = max S.come ((ltRun ss w cm T ph beg l0 n S).come) ∧ max (Rm cm f N) (b + (ltRun ss w cm T ph beg l0 n S).come) = max (Rm cm f (N + n)) (b + S.come) ∧ beg + cm ≤ (ltRun ss w cm T ph beg l0 n S).come) := by
  intro n
  induction n with
  | zero => exact fun _ _ _ => ⟨h, fun p hp => by omega, fun _ hn => by omega⟩
  | succ n ih =>
    intro H hgb hl
    have H' : Hs m r w T (fun j => (ss[(B + j) % m]?).getD 0) g f (N + n) := ⟨fun j hj => H.fe j (by omega), fun i j a c => H.gm i j a (by omega), fun j hj => H.g0 j (by omega)⟩
    obtain ⟨h1, h2, h3⟩ := ih H' (fun p hp => hgb p (by omega)) (fun p hp => hl p (by omega))
    have hsl : ∀ j, (fun j => (ss[(B + j) % m]?).getD 0) (j + m) = (fun j => (ss[(B + j) % m]?).getD 0) j := fun j => by
      show (ss[(B + (j + m)) % m]?).getD 0 = _
      rw [show B + (j + m) = B + j + m by omega, Nat.add_mod_right]
    have gN := hgb n (by omega)
    have g0 := H.g0 (N + n) (by omega)
    have hfe := H.fe (N + n) (by omega)
    have lN := hl n (by omega)
    have eT : ltTry ss w ph beg (l0 + n) (ltRun ss w cm T ph beg l0 n S) = f (N + n) - b := by
      unfold ltTry
      rw [hms, lN, show B + N + n = B + (N + n) by omega, ltFree_eq h1 hm hr1 w1 hT hsl H' g0 (by omega) hg, slot_shift hp, hfe]
      congr 2
      omega
    have hle : beg ≤ f (N + n) - b := by
      have h5 := slot_ge (t := rdyF m r T g f (N + n)) (s := (ss[(B + (N + n)) % m]?).getD 0) w1
      have h6 : g (N + n) ≤ rdyF m r T g f (N + n) := rdy_g
      have h7 : f (N + n) = slotT (rdyF m r T g f (N + n)) ((ss[(B + (N + n)) % m]?).getD 0) w := hfe
      omega
    have nx := h1.next (t := f (N + n) - b + T) hm hr1 (by omega) (by omega)
    rw [show B + (N + n) = B + N + n by omega, ← lN] at nx
    refine ⟨?_, fun p hp => ?_, fun hc _ => ?_⟩
    · show LRel m r T b gg f B (N + n + 1) ((ltRun ss w cm T ph beg l0 n S).lanes.set ((l0 + n) % ss.length) (ltTry ss w ph beg (l0 + n) (ltRun ss w cm T ph beg l0 n S) + T)) (ltLag (ltRun ss w cm T ph beg l0 n S).lag (ltTry ss w ph beg (l0 + n) (ltRun ss w cm T ph beg l0 n S) + T))
      rw [eT, hms]
      exact nx
    · rcases Nat.lt_or_ge p n with q | q
      · exact h2 p q
      · rw [show p = n by omega]
        exact hle
    · have e9 : (ltRun ss w cm T ph beg l0 (n + 1) S).come = max (ltRun ss w cm T ph beg l0 n S).come (f (N + n) - b + cm) := by
        show max _ (ltTry ss w ph beg (l0 + n) (ltRun ss w cm T ph beg l0 n S) + cm) = _
        rw [eT]
      have eR : Rm cm f (N + (n + 1)) = max (Rm cm f (N + n)) (f (N + n) + cm) := rfl
      rw [e9, eR]
      rcases Nat.eq_zero_or_pos n with z | z
      · subst z
        have e8 : (ltRun ss w cm T ph beg l0 0 S).come = S.come := rfl
        rw [e8]
        rw [Nat.add_zero] at *
        omega
      · obtain ⟨a1, a2, a3⟩ := h3 hc z
        generalize (ltRun ss w cm T ph beg l0 n S).come = c1 at *
        omega
end

end MP

set_option Elab.async false
set_option linter.all false
set_option maxRecDepth 100000
set_option maxHeartbeats 8000000
/-! K22d: the course and the law's run -/
namespace MP
open PySem PySem.Spec
/-! ### a caller's calls: what the law's run and the course agree on -/
structure Pm where
  m0 : Nat
  m1 : Nat
  r0 : Nat
  r1 : Nat
  e0 : Nat
  e1 : Nat
  op : Nat
  w0 : Int
  w1 : Int
  T0 : Int
  T1 : Int
  c0 : Int
  c1 : Int
  ss0 : List Int
  ss1 : List Int
  turn : Int
  ring : Int
structure Pm.ok (P : Pm) : Prop where
  s0 : P.ss0.length = P.m0
  s1 : P.ss1.length = P.m1
  m0 : 1 ≤ P.m0
  m1 : 1 ≤ P.m1
  r0 : 1 ≤ P.r0
  r1 : 1 ≤ P.r1
  e0 : 1 ≤ P.e0
  e1 : 1 ≤ P.e1
  op : 1 ≤ P.op
  w0 : 1 ≤ P.w0
  w1 : 1 ≤ P.w1
  t0 : P.w0 ≤ P.T0
  t1 : P.w1 ≤ P.T1
  c0 : 1 ≤ P.c0
  c1 : 1 ≤ P.c1
  ring : 1 ≤ P.ring
def bgF (P : Pm) (start : Int) (H : Nat → Int) (k : Nat) : Int := if P.op ≤ k then max start (H (k - P.op)) else start
structure LR (P : Pm) (start : Int) (first : Nat) (Dn H f0 f1 : Nat → Int) (K : Nat) : Prop where
  ff0 : ∀ j, j < K * P.e0 → f0 j = slotT (rdyF P.m0 P.r0 P.T0 (fun j => bgF P start H (j / P.e0)) f0 j) ((P.ss0[(first * P.e0 + j) % P.m0]?).getD 0) P.w0
  dn : ∀ k, k < K → Dn k = slotT (if k = 0 then Rm P.c0 f0 P.e0 else max (Rm P.c0 f0 ((k + 1) * P.e0)) (Dn (k - 1) + 1)) P.turn P.ring
  ff1 : ∀ j, j < K * P.e1 → f1 j = slotT (rdyF P.m1 P.r1 P.T1 (fun j => Dn (j / P.e1)) f1 j) ((P.ss1[(first * P.e1 + j) % P.m1]?).getD 0) P.w1
  hh : ∀ k, k < K → H k = Rm P.c1 f1 ((k + 1) * P.e1)
section
variable {P : Pm} {start : Int} {first K : Nat} {Dn H f0 f1 : Nat → Int}
theorem bg_step (ok : P.ok) (s0 : 0 ≤ start) (L : LR P start first Dn H f0 f1 K) {k : Nat} (hk : k < K) : bgF P start H k ≤ bgF P start H (k + 1) := by
  have o := ok.op
  unfold bgF
  by_cases h1 : P.op ≤ k
  · rw [if_pos h1, if_pos (by omega), L.hh _ (by omega), L.hh _ (by omega)]
    have := rm_mono (cm := P.c1) (f := f1) (i := (k - P.op + 1) * P.e1) (j := (k + 1 - P.op + 1) * P.e1) (Nat.mul_le_mul_right _ (by omega))
    omega
  · rw [if_neg h1]
    split <;> omega
theorem bg_mono (ok : P.ok) (s0 : 0 ≤ start) (L : LR P start first Dn H f0 f1 K) {i j : Nat} (hij : i ≤ j) (hj : j ≤ K) : bgF P start H i ≤ bgF P start H j := by
  induction j with
  | zero => rw [Nat.le_zero.mp hij]; exact Int.le_refl _
  | succ j ih =>
    rcases Nat.lt_or_ge i (j + 1) with q | q
    · exact Int.le_trans (ih (by omega) (by omega)) (bg_step ok s0 L (by omega))
    · rw [show i = j + 1 by omega]
      exact Int.le_refl _
theorem bg_start {k : Nat} : start ≤ bgF P start H k := by
  unfold bgF
  split <;> omega
theorem div_lt {j k e : Nat} (h : j < k * e) : j / e < k := (Nat.div_lt_iff_lt_mul (by
  rcases Nat.eq_zero_or_pos e with z | z
  · rw [z] at h; omega
  · exact z)).mpr h
theorem div_call {k p e : Nat} (hp : p < e) : (k * e + p) / e = k := by
  rw [Nat.add_comm, Nat.add_mul_div_right _ _ (by omega), Nat.div_eq_of_lt hp, Nat.zero_add]
theorem hs0 (ok : P.ok) (s0 : 0 ≤ start) (L : LR P start first Dn H f0 f1 K) : Hs P.m0 P.r0 P.w0 P.T0 (fun j => (P.ss0[(first * P.e0 + j) % P.m0]?).getD 0) (fun j => bgF P start H (j / P.e0)) f0 (K * P.e0) :=
  ⟨L.ff0, fun i j hij hj => bg_mono ok s0 L (Nat.div_le_div_right hij) (Nat.le_of_lt (div_lt hj)), fun j hj => Int.le_trans s0 bg_start⟩
theorem Hs.le {m r N M : Nat} {w T : Int} {sl g f : Nat → Int} (h : Hs m r w T sl g f N) (hM : M ≤ N) : Hs m r w T sl g f M := ⟨fun j hj => h.fe j (by omega), fun i j a c => h.gm i j a (by omega), fun j hj => h.g0 j (by omega)⟩
theorem dn_ge (ok : P.ok) (L : LR P start first Dn H f0 f1 K) {k : Nat} (hk : k < K) : Rm P.c0 f0 ((k + 1) * P.e0) ≤ Dn k ∧ (0 < k → Dn (k - 1) + 1 ≤ Dn k) := by
  have h := L.dn k hk
  have g := slot_ge (t := if k = 0 then Rm P.c0 f0 P.e0 else max (Rm P.c0 f0 ((k + 1) * P.e0)) (Dn (k - 1) + 1)) (s := P.turn) ok.ring
  rw [← h] at g
  by_cases e : k = 0
  · rw [if_pos e] at g
    subst e
    rw [Nat.zero_add, Nat.one_mul]
    exact ⟨g, fun z => by omega⟩
  · rw [if_neg e] at g
    exact ⟨by omega, fun _ => by omega⟩
theorem dn_mono (ok : P.ok) (L : LR P start first Dn H f0 f1 K) {i j : Nat} (hij : i ≤ j) (hj : j < K) : Dn i ≤ Dn j := by
  induction j with
  | zero => rw [Nat.le_zero.mp hij]; exact Int.le_refl _
  | succ j ih =>
    rcases Nat.lt_or_ge i (j + 1) with q | q
    · have h1 := ih (by omega) (by omega)
      have h2 := (dn_ge ok L hj).2 (by omega)
      rw [Nat.add_sub_cancel] at h2
      omega
    · rw [show i = j + 1 by omega]
      exact Int.le_refl _
theorem f_ge {m r N j : Nat} {w T : Int} {sl g f : Nat → Int} (w1 : 1 ≤ w) (h : Hs m r w T sl g f N) (hj : j < N) : g j ≤ f j := by
  have h5 := slot_ge (t := rdyF m r T g f j) (s := sl j) w1
  have h6 : g j ≤ rdyF m r T g f j := rdy_g
  rw [h.fe j hj]
  omega
theorem rm_last {cm : Int} {f : Nat → Int} {j : Nat} (h : 0 < j) : f (j - 1) + cm ≤ Rm cm f j := by
  obtain ⟨i, rfl⟩ : ∃ i, j = i + 1 := ⟨j - 1, by omega⟩
  show f (i + 1 - 1) + cm ≤ max (Rm cm f i) (f i + cm)
  rw [Nat.add_sub_cancel]
  omega
theorem dn_ge0 (ok : P.ok) (s0 : 0 ≤ start) (L : LR P start first Dn H f0 f1 K) {k : Nat} (hk : k < K) : 0 ≤ Dn k := by
  have e0 := ok.e0
  have c0 := ok.c0
  have h1 := (dn_ge ok L hk).1
  have h2 : 0 < (k + 1) * P.e0 := Nat.mul_pos (by omega) (by omega)
  have h3 := rm_last (cm := P.c0) (f := f0) h2
  have h4 : (k + 1) * P.e0 ≤ K * P.e0 := Nat.mul_le_mul_right _ (by omega)
  have h5 := f_ge (j := (k + 1) * P.e0 - 1) ok.w0 (hs0 ok s0 L) (by omega)
  have h6 : 0 ≤ bgF P start H (((k + 1) * P.e0 - 1) / P.e0) := Int.le_trans s0 bg_start
  omega
theorem hs1 (ok : P.ok) (s0 : 0 ≤ start) (L : LR P start first Dn H f0 f1 K) : Hs P.m1 P.r1 P.w1 P.T1 (fun j => (P.ss1[(first * P.e1 + j) % P.m1]?).getD 0) (fun j => Dn (j / P.e1)) f1 (K * P.e1) :=
  ⟨L.ff1, fun i j hij hj => dn_mono ok L (Nat.div_le_div_right hij) (div_lt hj), fun j hj => dn_ge0 ok s0 L (div_lt hj)⟩
end
structure CSt where
  ph : Int
  place : Nat
  told : List Int
  lag : List Int
  turned : Int
  back : List Int
  blag : List Int
  heard : List Int
def lowerL (xs : List Int) (by' least : Int) : List Int := xs.map fun t => max (t - by') least
def liftC (span by' : Int) (S : CSt) : CSt :=
  { ph := (S.ph + by') % span, place := S.place, told := lowerL S.told by' 0, lag := lowerL S.lag by' 0, turned := max (S.turned - by') 0, back := lowerL S.back by' (max (S.turned - by') 0), blag := lowerL S.blag by' (max (S.turned - by') 0), heard := lowerL S.heard by' 0 }
def goC1 (P : Pm) (S : CSt) : LS := ltRun P.ss0 P.w0 P.c0 P.T0 S.ph 0 (S.place * P.e0) P.e0 ⟨S.told, S.lag, 0⟩
def turnC (P : Pm) (S : CSt) : Int := slotT (S.ph + max (goC1 P S).come (S.turned + 1)) P.turn P.ring - S.ph
def goC2 (P : Pm) (S : CSt) : LS := ltRun P.ss1 P.w1 P.c1 P.T1 S.ph (turnC P S) (S.place * P.e1) P.e1 ⟨S.back, S.blag, 0⟩
def comeC (P : Pm) (S : CSt) : Int := max (goC2 P S).come (S.heard.getLast?.getD 0)
def heardC (P : Pm) (S : CSt) : List Int := S.heard.drop 1 ++ [comeC P S]
def shiftC (P : Pm) (S : CSt) : Int := ((heardC P S)[0]?).getD 0
def nextC (P : Pm) (span : Int) (cyc : Nat) (S : CSt) : CSt := liftC span (shiftC P S) { ph := S.ph, place := (S.place + 1) % cyc, told := (goC1 P S).lanes, lag := (goC1 P S).lag, turned := turnC P S, back := (goC2 P S).lanes, blag := (goC2 P S).lag, heard := heardC P S }
structure CR (P : Pm) (start : Int) (first cyc : Nat) (Dn H f0 f1 : Nat → Int) (k : Nat) (S : CSt) : Prop where
  p0 : (S.ph - bgF P start H k) % P.w0 = 0
  p1 : (S.ph - bgF P start H k) % P.w1 = 0
  pr : (S.ph - bgF P start H k) % P.ring = 0
  pl : S.place = (first + k) % cyc
  a0 : LRel P.m0 P.r0 P.T0 (bgF P start H k) 0 f0 (first * P.e0) (k * P.e0) S.told S.lag
  a1 : LRel P.m1 P.r1 P.T1 (bgF P start H k) S.turned f1 (first * P.e1) (k * P.e1) S.back S.blag
  tu : S.turned = if k = 0 then 0 else max (Dn (k - 1) - bgF P start H k) 0
  hl : S.heard.length = P.op
  he : ∀ i, i < P.op → (S.heard[i]?).getD 0 = max 0 ((if P.op ≤ k + i then H (k + i - P.op) else 0) - bgF P start H k)
theorem place_eq {place a cyc e m p : Nat} (hp : place = a % cyc) (hc : (cyc * e) % m = 0) : (place * e + p) % m = (a * e + p) % m := by
  subst hp
  have h : a * e = a % cyc * e + m * ((cyc * e / m) * (a / cyc)) := by
    have h1 := Nat.mod_add_div a cyc
    have h2 : m * (cyc * e / m) = cyc * e := Nat.mul_div_cancel' (Nat.dvd_of_mod_eq_zero hc)
    calc a * e = (a % cyc + cyc * (a / cyc)) * e := by rw [h1]
      _ = a % cyc * e + cyc * (a / cyc) * e := Nat.add_mul _ _ _
      _ = a % cyc * e + (cyc * e) * (a / cyc) := by rw [Nat.mul_right_comm]
      _ = a % cyc * e + (m * (cyc * e / m)) * (a / cyc) := by rw [h2]
      _ = _ := by rw [Nat.mul_assoc]
  rw [h, show a % cyc * e + m * ((cyc * e / m) * (a / cyc)) + p = a % cyc * e + p + m * ((cyc * e / m) * (a / cyc)) by omega, Nat.add_mul_mod_self_left]
theorem phase_next {ph b by' span w : Int} (h : (ph - b) % w = 0) (hs : span % w = 0) : ((ph + by') % span - (b + by')) % w = 0 := by
  obtain ⟨k, hk⟩ := Int.dvd_of_emod_eq_zero h
  obtain ⟨q, hq⟩ := Int.dvd_of_emod_eq_zero hs
  have e := Int.emod_add_mul_ediv (ph + by') span
  have e2 : (ph + by') % span - (b + by') = w * (k - q * ((ph + by') / span)) := by
    rw [Int.mul_sub, ← Int.mul_assoc, ← hq, ← hk]
    omega
  rw [e2]
  exact Int.mul_emod_right _ _
section
variable {P : Pm} {start span : Int} {first K cyc : Nat} {Dn H f0 f1 : Nat → Int}
theorem call_rel (ok : P.ok) (s0 : 0 ≤ start) (L : LR P start first Dn H f0 f1 K) (h0 : span % P.w0 = 0) (h1 : span % P.w1 = 0) (hr : span % P.ring = 0) (q0 : (cyc * P.e0) % P.m0 = 0) (q1 : (cyc * P.e1) % P.m1 = 0) {k : Nat} (hk : k < K) {S : CSt} (C : CR P start first cyc Dn H f0 f1 k S) :
    comeC P S = H k - bgF P start H k ∧ shiftC P S = bgF P start H (k + 1) - bgF P start H k ∧ CR P start first cyc Dn H f0 f1 (k + 1) (nextC P span cyc S) := by
  obtain ⟨p0, p1, pr, pl, a0, a1, tu, hl, he⟩ := C
  have oe0 := ok.e0
  have oe1 := ok.e1
  have oc0 := ok.c0
  have oc1 := ok.c1
  have oop := ok.op
  have bst := bg_step ok s0 L hk
  have bs : start ≤ bgF P start H k := bg_start
  have dg := dn_ge ok L hk
  have dge := dn_ge0 ok s0 L hk
  have N0 : k * P.e0 + P.e0 = (k + 1) * P.e0 := by rw [Nat.succ_mul]
  have N1 : k * P.e1 + P.e1 = (k + 1) * P.e1 := by rw [Nat.succ_mul]
  have le0 : (k + 1) * P.e0 ≤ K * P.e0 := Nat.mul_le_mul_right _ (by omega)
  have le1 : (k + 1) * P.e1 ≤ K * P.e1 := Nat.mul_le_mul_right _ (by omega)
  have t0 : 0 ≤ S.turned := by rw [tu]; split <;> omega
  have eb : bgF P start H (k + 1) = if P.op ≤ k + 1 then max start (H (k + 1 - P.op)) else start := rfl
  have eb0 : bgF P start H k = if P.op ≤ k then max start (H (k - P.op)) else start := rfl
  -- there
  have G1 := run_rel (S := ⟨S.told, S.lag, 0⟩) (cm := P.c0) (l0 := S.place * P.e0) (beg := 0) ok.s0 ok.m0 ok.r0 ok.w0 ok.t0 p0 (Int.le_refl _) (Int.le_refl _) a0 P.e0 (by rw [N0]; exact (hs0 ok s0 L).le le0)
    (fun p hp => by
      show bgF P start H ((k * P.e0 + p) / P.e0) = _
      rw [div_call hp]
      omega) (fun p _ => by rw [place_eq pl q0, Nat.add_mul])
  obtain ⟨A0, B0, C0⟩ := G1
  obtain ⟨_, D0, E0⟩ := C0 (by omega) oe0
  have eG1 : ltRun P.ss0 P.w0 P.c0 P.T0 S.ph 0 (S.place * P.e0) P.e0 ⟨S.told, S.lag, 0⟩ = goC1 P S := rfl
  rw [eG1, N0] at A0
  rw [eG1, N0] at D0
  rw [eG1] at E0
  have l0 := rm_last (cm := P.c0) (f := f0) (j := (k + 1) * P.e0) (by omega)
  have b0 := B0 (P.e0 - 1) (by omega)
  rw [show k * P.e0 + (P.e0 - 1) = (k + 1) * P.e0 - 1 by omega] at b0
  have R0 : max (Rm P.c0 f0 (k * P.e0)) (bgF P start H k + (goC1 P S).come) = Rm P.c0 f0 ((k + 1) * P.e0) := by
    show _ = _
    have D0 : max (Rm P.c0 f0 (k * P.e0)) (bgF P start H k + (goC1 P S).come) = max (Rm P.c0 f0 ((k + 1) * P.e0)) (bgF P start H k + 0) := D0
    omega
  clear D0 C0
  -- the turn
  have T1 : turnC P S = Dn k - bgF P start H k := by
    unfold turnC
    rw [slot_shift pr, L.dn k hk]
    congr 2
    by_cases e : k = 0
    · rw [if_pos e]
      rw [if_pos e] at tu
      subst e
      have z : Rm P.c0 f0 (0 * P.e0) = -1 := by rw [Nat.zero_mul]; rfl
      rw [z] at R0
      have z1 : (0 + 1) * P.e0 = P.e0 := by omega
      rw [z1] at R0
      omega
    · rw [if_neg e]
      rw [if_neg e] at tu
      have dg' := (dn_ge ok L (show k - 1 < K by omega)).1
      rw [show k - 1 + 1 = k by omega] at dg'
      omega
  clear R0
  have tt : S.turned ≤ turnC P S := by
    have := slot_ge (t := bgF P start H k + max (goC1 P S).come (S.turned + 1)) (s := P.turn) ok.ring
    unfold turnC
    rw [slot_shift pr]
    omega
  -- and back
  have G2 := run_rel (S := ⟨S.back, S.blag, 0⟩) (cm := P.c1) (l0 := S.place * P.e1) (beg := turnC P S) ok.s1 ok.m1 ok.r1 ok.w1 ok.t1 p1 (by omega) tt a1 P.e1 (by rw [N1]; exact (hs1 ok s0 L).le le1)
    (fun p hp => by
      show Dn ((k * P.e1 + p) / P.e1) = _
      rw [div_call hp]
      omega) (fun p _ => by rw [place_eq pl q1, Nat.add_mul])
  obtain ⟨A1, B1, C1⟩ := G2
  obtain ⟨_, D1, E1⟩ := C1 (by omega) oe1
  have eG2 : ltRun P.ss1 P.w1 P.c1 P.T1 S.ph (turnC P S) (S.place * P.e1) P.e1 ⟨S.back, S.blag, 0⟩ = goC2 P S := rfl
  rw [eG2, N1] at A1
  rw [eG2, N1] at D1
  rw [eG2] at E1
  have l1 := rm_last (cm := P.c1) (f := f1) (j := (k + 1) * P.e1) (by omega)
  have b1 := B1 (P.e1 - 1) (by omega)
  rw [show k * P.e1 + (P.e1 - 1) = (k + 1) * P.e1 - 1 by omega] at b1
  have R1 : max (Rm P.c1 f1 (k * P.e1)) (bgF P start H k + (goC2 P S).come) = Rm P.c1 f1 ((k + 1) * P.e1) := by
    have D1 : max (Rm P.c1 f1 (k * P.e1)) (bgF P start H k + (goC2 P S).come) = max (Rm P.c1 f1 ((k + 1) * P.e1)) (bgF P start H k + 0) := D1
    omega
  clear D1 C1
  have hH := L.hh k hk
  have CM : comeC P S = H k - bgF P start H k := by
    unfold comeC
    have hlast : S.heard.getLast? = S.heard[P.op - 1]? := by rw [List.getLast?_eq_getElem?, hl]
    rw [hlast, he _ (by omega), hH]
    by_cases e : k = 0
    · rw [if_neg (by omega)]
      subst e
      have z : Rm P.c1 f1 (0 * P.e1) = -1 := by rw [Nat.zero_mul]; rfl
      rw [z] at R1
      omega
    · rw [if_pos (by omega), show k + (P.op - 1) - P.op = k - 1 by omega, L.hh (k - 1) (by omega), show k - 1 + 1 = k by omega]
      omega
  clear R1
  have cm0 : 0 ≤ comeC P S := by
    unfold comeC
    omega
  have HE : ∀ i, i < P.op → ((heardC P S)[i]?).getD 0 = max 0 ((if P.op ≤ k + 1 + i then H (k + 1 + i - P.op) else 0) - bgF P start H k) := by
    intro i hi
    unfold heardC
    by_cases e : i = P.op - 1
    · subst e
      rw [List.getElem?_append_right (by rw [List.length_drop, hl]; exact Nat.le_refl _), List.length_drop, hl, Nat.sub_self, if_pos (by omega), show k + 1 + (P.op - 1) - P.op = k by omega]
      show comeC P S = _
      omega
    · rw [List.getElem?_append_left (by rw [List.length_drop, hl]; omega), List.getElem?_drop, show 1 + i = i + 1 by omega, he _ (by omega), show k + (i + 1) = k + 1 + i by omega]
  have SH : shiftC P S = bgF P start H (k + 1) - bgF P start H k := by
    unfold shiftC
    rw [HE 0 (by omega)]
    rw [Nat.add_zero]
    by_cases e : P.op ≤ k + 1
    · rw [if_pos e]
      rw [if_pos e] at eb
      omega
    · rw [if_neg e]
      rw [if_neg e] at eb
      rw [if_neg (by omega)] at eb0
      omega
  have sh0 : 0 ≤ shiftC P S := by omega
  refine ⟨CM, SH, ?_, ?_, ?_, ?_, ?_, ?_, ?_, ?_, ?_⟩
  · have := phase_next (by' := shiftC P S) p0 h0
    rw [show bgF P start H k + shiftC P S = bgF P start H (k + 1) by omega] at this
    exact this
  · have := phase_next (by' := shiftC P S) p1 h1
    rw [show bgF P start H k + shiftC P S = bgF P start H (k + 1) by omega] at this
    exact this
  · have := phase_next (by' := shiftC P S) pr hr
    rw [show bgF P start H k + shiftC P S = bgF P start H (k + 1) by omega] at this
    exact this
  · show (S.place + 1) % cyc = (first + (k + 1)) % cyc
    rw [pl, Nat.mod_add_mod, Nat.add_assoc]
  · have := A0.lower (by' := shiftC P S) (least := 0) ok.m0 (by omega)
    rw [show bgF P start H k + shiftC P S = bgF P start H (k + 1) by omega] at this
    exact this
  · have := A1.lower (by' := shiftC P S) (least := max (turnC P S - shiftC P S) 0) ok.m1 (by omega)
    rw [show bgF P start H k + shiftC P S = bgF P start H (k + 1) by omega] at this
    exact this
  · show max (turnC P S - shiftC P S) 0 = _
    rw [if_neg (by omega), show k + 1 - 1 = k by omega]
    omega
  · show (lowerL (heardC P S) (shiftC P S) 0).length = P.op
    unfold lowerL heardC
    rw [List.length_map, List.length_append, List.length_drop, hl]
    show P.op - 1 + 1 = P.op
    omega
  · intro i hi
    show ((lowerL (heardC P S) (shiftC P S) 0)[i]?).getD 0 = _
    have hlen : i < (heardC P S).length := by
      unfold heardC
      rw [List.length_append, List.length_drop, hl]
      show i < P.op - 1 + 1
      omega
    have := HE i hi
    unfold lowerL
    rw [List.getElem?_map]
    rw [List.getElem?_eq_getElem hlen] at this ⊢
    simp only [Option.map_some, Option.getD_some] at this ⊢
    generalize (if P.op ≤ k + 1 + i then H (k + 1 + i - P.op) else 0) = X at *
    omega
end

end MP

set_option Elab.async false
set_option linter.all false
set_option maxRecDepth 100000
set_option maxHeartbeats 8000000
/-! The program of the law in the small language (written by mpgen.py), the checks, the facts behind the top. -/
namespace MP
open PySem PySem.Spec L2

def top (i : Nat) : Stmt := PySem.Challenge.pw_wirework_k22_bursts.main.body.getD i (.Pass ⟨0, 0, 0, 0⟩)
def N_next_slot : List Str := ["tick", "slot", "wheel"]
def b_next_slot : List S := [
  .ret (.bin .Add (.var 0) (.bin .Mod (.bin .Sub (.var 1) (.var 0)) (.var 2)))]
def f_next_slot : Fn := { ps := ["tick", "slot", "wheel"], nv := 3, pat := [(3, [])], body := b_next_slot }
def N_delays_of : List Str := ["road", "side", "lo", "hi", "low", "high"]
def b_delays_of : List S := [
  .asg (.tup [.nm 2, .nm 3, .nm 4, .nm 5]) (.slc (.var 0) false (.non) true (.int 4)),
  .ret (.ite (.cmp .Eq (.var 1) (.int 0)) (.tup [.var 2, .var 3, .var 4, .var 5]) (.tup [.var 4, .var 5, .var 2, .var 3]))]
def f_delays_of : Fn := { ps := ["road", "side"], nv := 6, pat := [(2, [])], body := b_delays_of }
def N_quick_trip : List Str := ["road"]
def b_quick_trip : List S := [
  .ret (.bin .Add (.ix (.var 0) (.int 0)) (.ix (.var 0) (.int 2)))]
def f_quick_trip : Fn := { ps := ["road"], nv := 1, pat := [(1, [])], body := b_quick_trip }
def N_slow_trip : List Str := ["road"]
def b_slow_trip : List S := [
  .ret (.bin .Add (.ix (.var 0) (.int 1)) (.ix (.var 0) (.int 3)))]
def f_slow_trip : Fn := { ps := ["road"], nv := 1, pat := [(1, [])], body := b_slow_trip }
def N_divisor_of : List Str := ["one", "other"]
def b_divisor_of : List S := [
  .whl (.var 1) [
    .asg (.tup [.nm 0, .nm 1]) (.tup [.var 1, .bin .Mod (.var 0) (.var 1)])],
  .ret (.var 0)]
def f_divisor_of : Fn := { ps := ["one", "other"], nv := 2, pat := [(2, [])], body := b_divisor_of }
def N_multiple_of : List Str := ["one", "other"]
def b_multiple_of : List S := [
  .ret (.bin .Mult (.bin .FloorDiv (.var 0) (.call "divisor_of" [.var 0, .var 1] [] [])) (.var 1))]
def f_multiple_of : Fn := { ps := ["one", "other"], nv := 2, pat := [(2, [])], body := b_multiple_of }
def N_turns_of : List Str := ["lanes", "many"]
def b_turns_of : List S := [
  .ret (.bin .FloorDiv (.var 0) (.call "divisor_of" [.var 0, .var 1] [] []))]
def f_turns_of : Fn := { ps := ["lanes", "many"], nv := 2, pat := [(2, [])], body := b_turns_of }
def N_course_by : List Str := ["ring", "caller", "road", "speed", "late", "comes", "side"]
def b_course_by : List S := [
  .iff (.cmp .Eq (.var 3) (.str "fast")) [
    .asg (.nm 5) (.tup [.ix (.call "delays_of" [.var 2, .int 0] [] []) (.int 0), .ix (.call "delays_of" [.var 2, .int 1] [] []) (.int 0)]),
    .ret (.call "Course" [.var 0, .var 1, .var 5, .tup [.call "quick_trip" [.var 2] [] [], .call "quick_trip" [.var 2] [] []]] [] [])] [],
  .asg (.nm 4) (.lc (.bin .Mult (.ix (.var 2) (.int 4)) (.ix (.ix (.var 1) (.var 6)) (.int 0))) (.nm 6) .seq [.tup [.int 0, .int 1]] [] [6]),
  .asg (.nm 5) (.tup [.bin .Add (.ix (.var 4) (.int 0)) (.ix (.call "delays_of" [.var 2, .int 0] [] []) (.int 1)), .bin .Add (.ix (.var 4) (.int 1)) (.ix (.call "delays_of" [.var 2, .int 1] [] []) (.int 1))]),
  .ret (.call "Course" [.var 0, .var 1, .var 5, .tup [.bin .Add (.ix (.var 4) (.int 0)) (.call "slow_trip" [.var 2] [] []), .bin .Add (.ix (.var 4) (.int 1)) (.call "slow_trip" [.var 2] [] [])]] [] [])]
def f_course_by : Fn := { ps := ["ring", "caller", "road", "speed"], nv := 7, pat := [(4, [])], body := b_course_by }
def N_course_of : List Str := ["design", "bounds", "caller", "speed"]
def b_course_of : List S := [
  .ret (.call "course_by" [.ix (.var 0) (.int 0), .ix (.ix (.var 0) (.int 1)) (.var 2), .ix (.var 1) (.var 2), .var 3] [] [])]
def f_course_of : Fn := { ps := ["design", "bounds", "caller", "speed"], nv := 4, pat := [(4, [])], body := b_course_of }
def N_idle_state : List Str := ["course", "start", "first", "lanes", "lags", "heard", "side", "<fld> room", "<fld> span", "<fld> cycle", "<fld> lags", "<fld> slots"]
def b_idle_state : List S := [
  .asg (.nm 3) (.lc (.bin .Mult (.tup [.int 0]) (.blt "len" [.ix (.fld (.var 0) "slots") (.var 6)])) (.nm 6) .seq [.tup [.int 0, .int 1]] [] [6]),
  .asg (.nm 4) (.lc (.bin .Mult (.tup [.int 0]) (.ix (.fld (.var 0) "lags") (.var 6))) (.nm 6) .seq [.tup [.int 0, .int 1]] [] [6]),
  .asg (.nm 5) (.bin .Mult (.tup [.int 0]) (.blt "max" [.int 1, .fld (.var 0) "room"])),
  .ret (.tup [.bin .Mod (.var 1) (.fld (.var 0) "span"), .bin .Mod (.var 2) (.fld (.var 0) "cycle"), .ix (.var 3) (.int 0), .ix (.var 4) (.int 0), .int 0, .ix (.var 3) (.int 1), .ix (.var 4) (.int 1), .var 5])]
def f_idle_state : Fn := { ps := ["course", "start", "first"], nv := 12, pat := [(3, [])], body := b_idle_state }
def N_lowered : List Str := ["ticks", "by", "least", "tick"]
def b_lowered : List S := [
  .ret (.blt "tuple" [.lc (.blt "max" [.bin .Sub (.var 3) (.var 1), .var 2]) (.nm 3) .seq [.var 0] [] [3]])]
def f_lowered : Fn := { ps := ["ticks", "by", "least"], nv := 4, pat := [(3, [])], body := b_lowered }
def N_lifted : List Str := ["course", "state", "by", "turned", "front", "phase", "place", "told", "lag", "back", "back_lag", "heard", "<fld> span"]
def b_lifted : List S := [
  .asg (.tup [.nm 5, .nm 6, .nm 7, .nm 8, .nm 3, .nm 9, .nm 10, .nm 11]) (.var 1),
  .asg (.nm 3) (.blt "max" [.bin .Sub (.var 3) (.var 2), .int 0]),
  .asg (.nm 4) (.tup [.bin .Mod (.bin .Add (.var 5) (.var 2)) (.fld (.var 0) "span"), .var 6, .call "lowered" [.var 7, .var 2, .int 0] [] [], .call "lowered" [.var 8, .var 2, .int 0] [] [], .var 3]),
  .ret (.bin .Add (.var 4) (.tup [.call "lowered" [.var 9, .var 2, .var 3] [] [], .call "lowered" [.var 10, .var 2, .var 3] [] [], .call "lowered" [.var 11, .var 2, .int 0] [] []]))]
def f_lifted : Fn := { ps := ["course", "state", "by"], nv := 13, pat := [(3, [])], body := b_lifted }
def N_letters_told : List Str := ["course", "side", "state", "begun", "lanes", "lag", "letter", "wheel", "slots", "size", "phase", "first_letter", "told", "come", "lane", "free", "tried", "<fld> wheels", "<fld> slots", "<fld> sizes", "<fld> tells", "<fld> comes"]
def b_letters_told : List S := [
  .asg (.tup [.nm 7, .nm 8, .nm 9]) (.tup [.ix (.fld (.var 0) "wheels") (.var 1), .ix (.fld (.var 0) "slots") (.var 1), .ix (.fld (.var 0) "sizes") (.var 1)]),
  .asg (.tup [.nm 10, .nm 11]) (.tup [.ix (.var 2) (.int 0), .bin .Mult (.ix (.var 2) (.int 1)) (.var 9)]),
  .asg (.tup [.nm 12, .nm 13]) (.tup [.blt "list" [.var 4], .int 0]),
  .for (.nm 6) .range [.var 11, .bin .Add (.var 11) (.var 9)] [
    .asg (.nm 14) (.bin .Mod (.var 6) (.blt "len" [.var 8])),
    .asg (.nm 15) (.blt "max" [.var 3, .ix (.var 12) (.var 14)]),
    .iff (.var 5) [
      .asg (.nm 15) (.blt "max" [.var 15, .ix (.var 5) (.int 0)])] [],
    .asg (.nm 16) (.bin .Sub (.call "next_slot" [.bin .Add (.var 10) (.var 15), .ix (.var 8) (.var 14), .var 7] [] []) (.var 10)),
    .sub (.var 12) (.var 14) (.bin .Add (.var 16) (.ix (.fld (.var 0) "tells") (.var 1))),
    .asg (.nm 13) (.blt "max" [.var 13, .bin .Add (.var 16) (.ix (.fld (.var 0) "comes") (.var 1))]),
    .iff (.var 5) [
      .asg (.nm 5) (.bin .Add (.slc (.var 5) true (.int 1) false (.non)) (.tup [.blt "max" [.ix (.var 5) (.neg (.int 1)), .ix (.var 12) (.var 14)]]))] []],
  .ret (.tup [.var 13, .blt "tuple" [.var 12], .var 5])]
def f_letters_told : Fn := { ps := ["course", "side", "state", "begun", "lanes", "lag"], nv := 22, pat := [(6, [])], body := b_letters_told }
def N_call_passed : List Str := ["course", "state", "turned", "come", "heard", "shift", "phase", "place", "told", "lag", "back", "back_lag", "<fld> room", "<fld> turn", "<fld> ring", "<fld> cycle"]
def b_call_passed : List S := [
  .asg (.tup [.nm 6, .nm 7, .nm 8, .nm 9, .nm 2, .nm 10, .nm 11, .nm 4]) (.var 1),
  .asg (.tup [.nm 3, .nm 8, .nm 9]) (.call "letters_told" [.var 0, .int 0, .var 1, .int 0, .var 8, .var 9] [] []),
  .asg (.nm 2) (.bin .Sub (.call "next_slot" [.bin .Add (.var 6) (.blt "max" [.var 3, .bin .Add (.var 2) (.int 1)]), .fld (.var 0) "turn", .fld (.var 0) "ring"] [] []) (.var 6)),
  .asg (.tup [.nm 3, .nm 10, .nm 11]) (.call "letters_told" [.var 0, .int 1, .var 1, .var 2, .var 10, .var 11] [] []),
  .asg (.nm 3) (.blt "max" [.var 3, .ix (.var 4) (.neg (.int 1))]),
  .asg (.nm 4) (.bin .Add (.slc (.var 4) true (.int 1) false (.non)) (.tup [.var 3])),
  .asg (.nm 5) (.ite (.fld (.var 0) "room") (.ix (.var 4) (.int 0)) (.int 0)),
  .asg (.nm 1) (.tup [.var 6, .bin .Mod (.bin .Add (.var 7) (.int 1)) (.fld (.var 0) "cycle"), .var 8, .var 9, .var 2, .var 10, .var 11, .var 4]),
  .ret (.tup [.var 3, .var 5, .call "lifted" [.var 0, .var 1, .var 5] [] []])]
def f_call_passed : Fn := { ps := ["course", "state"], nv := 16, pat := [(2, [])], body := b_call_passed }
def N_burst_ticks : List Str := ["course", "start", "first", "many", "_", "state", "floor", "ticks", "come", "shift"]
def b_burst_ticks : List S := [
  .asg (.tup [.nm 5, .nm 6, .nm 7]) (.tup [.call "idle_state" [.var 0, .var 1, .var 2] [] [], .int 0, .lst []]),
  .for (.nm 4) .range [.var 3] [
    .asg (.tup [.nm 8, .nm 9, .nm 5]) (.call "call_passed" [.var 0, .var 5] [] []),
    .ex (.mth .list "append" (.var 7) [.bin .Add (.var 6) (.var 8)]),
    .aug 6 .Add (.var 9)],
  .ret (.blt "tuple" [.var 7])]
def f_burst_ticks : Fn := { ps := ["course", "start", "first", "many"], nv := 10, pat := [(4, [])], body := b_burst_ticks }
def N_burst : List Str := ["design", "bounds", "caller", "many", "start", "first"]
def b_burst : List S := [
  .ret (.call "burst_ticks" [.call "course_of" [.var 0, .var 1, .var 2, .str "slow"] [] [], .var 4, .var 5, .var 3] [] [])]
def f_burst : Fn := { ps := ["design", "bounds", "caller", "many", "start", "first"], nv := 6, pat := [(6, []), (0, ["first", "start", "many", "caller", "bounds", "design"])], body := b_burst }
def N_l_bag : List Str := ["script", "cells", "great", "cell"]
def b_l_bag : List S := [
  .asg (.nm 1) (.bin .Add (.lc (.blt "abs" [.blt "int" [.var 3]]) (.nm 3) .seq [.var 0] [] [3]) (.lst [.int 7])),
  .asg (.nm 2) (.lst []),
  .iff (.cmp .Eq (.bin .Mod (.blt "int" [.ix (.var 1) (.int 0)]) (.int 2)) (.int 0)) [
    .asg (.nm 2) (.lc (.bin .FloorDiv (.var 3) (.int 2)) (.nm 3) .seq [.var 1] [.cmp .GtE (.var 3) (.bin .Pow (.int 10) (.int 18))] [3]),
    .ex (.mth .list "reverse" (.var 2) [])] [],
  .ret (.lst [.int 0, .int 0, .var 2, .lc (.bin .Mod (.blt "int" [.var 3]) (.int 2147483647)) (.nm 3) .seq [.var 1] [] [3]])]
def f_l_bag : Fn := { ps := ["script"], nv := 4, pat := [(1, [])], body := b_l_bag }
def N_l_draw : List Str := ["bag", "many", "cell", "mixed", "digit"]
def b_l_draw : List S := [
  .sub (.var 0) (.int 1) (.bin .Add (.ix (.var 0) (.int 1)) (.int 1)),
  .iff (.bop .And [.cmp .Eq (.ix (.var 0) (.int 0)) (.int 0), .cmp .Gt (.blt "len" [.ix (.var 0) (.int 2)]) (.int 0)]) [
    .sub (.var 0) (.int 0) (.mth .list "pop" (.ix (.var 0) (.int 2)) [])] [],
  .iff (.cmp .Gt (.ix (.var 0) (.int 0)) (.int 0)) [
    .asg (.nm 4) (.bin .Mod (.blt "int" [.ix (.var 0) (.int 0)]) (.var 1)),
    .sub (.var 0) (.int 0) (.bin .FloorDiv (.ix (.var 0) (.int 0)) (.var 1)),
    .ret (.var 4)] [],
  .asg (.nm 2) (.ix (.ix (.var 0) (.int 3)) (.bin .Mod (.blt "int" [.ix (.var 0) (.int 1)]) (.blt "len" [.ix (.var 0) (.int 3)]))),
  .asg (.nm 3) (.bin .Mod (.blt "int" [.bin .Add (.bin .Add (.bin .Mult (.var 2) (.int 48271)) (.bin .Mult (.ix (.var 0) (.int 1)) (.int 69621))) (.int 1)]) (.int 2147483647)),
  .ret (.bin .Mod (.bin .FloorDiv (.bin .Mod (.blt "int" [.bin .Add (.bin .Add (.bin .Mult (.var 3) (.var 3)) (.bin .Mult (.var 3) (.int 16807))) (.bin .Mult (.ix (.var 0) (.int 1)) (.int 40014))]) (.int 2147483629)) (.int 32)) (.var 1))]
def f_l_draw : Fn := { ps := ["bag", "many"], nv := 5, pat := [(2, [])], body := b_l_draw }
def N_l_pick : List Str := ["bag", "some"]
def b_l_pick : List S := [
  .ret (.ix (.var 1) (.call "_law_draw" [.var 0, .blt "len" [.var 1]] [] []))]
def f_l_pick : Fn := { ps := ["bag", "some"], nv := 2, pat := [(2, [])], body := b_l_pick }
def N_l_some : List Str := ["bag", "things", "many", "left", "made", "k"]
def b_l_some : List S := [
  .asg (.nm 3) (.blt "list" [.var 1]),
  .asg (.nm 4) (.lst []),
  .for (.nm 5) .range [.var 2] [
    .ex (.mth .list "append" (.var 4) [.mth .list "pop" (.var 3) [.call "_law_draw" [.var 0, .blt "len" [.var 3]] [] []]])],
  .ret (.var 4)]
def f_l_some : Fn := { ps := ["bag", "things", "many"], nv := 6, pat := [(3, [])], body := b_l_some }
def N_l_same : List Str := ["found", "due", "k"]
def b_l_same : List S := [
  .iff (.cmp .Is (.var 1) (.non)) [
    .ret (.cmp .Is (.var 0) (.non))] [],
  .iff (.bop .Or [.isi (.var 1) "bool", .isi (.var 0) "bool"]) [
    .ret (.bop .And [.isi (.var 1) "bool", .isi (.var 0) "bool", .cmp .Eq (.var 0) (.var 1)])] [],
  .iff (.isi (.var 1) "int") [
    .ret (.bop .And [.isi (.var 0) "int", .cmp .Eq (.var 0) (.var 1)])] [],
  .iff (.isi (.var 1) "str") [
    .ret (.bop .And [.isi (.var 0) "str", .cmp .Eq (.var 0) (.var 1)])] [],
  .iff (.bop .Or [.not (.isi (.var 1) "tuple"), .not (.isi (.var 0) "tuple"), .cmp .NotEq (.blt "len" [.var 0]) (.blt "len" [.var 1])]) [
    .ret (.bl false)] [],
  .for (.nm 2) .range [.blt "len" [.var 1]] [
    .iff (.not (.call "_law_same" [.ix (.var 0) (.var 2), .ix (.var 1) (.var 2)] [] [])) [
      .ret (.bl false)] []],
  .ret (.bl true)]
def f_l_same : Fn := { ps := ["found", "due"], nv := 3, pat := [(2, [])], body := b_l_same }
def N_l_draw_road : List Str := ["bag", "wide", "lo", "low"]
def b_l_draw_road : List S := [
  .asg (.tup [.nm 2, .nm 3]) (.tup [.bin .Add (.int 1) (.call "_law_draw" [.var 0, .int 4] [] []), .bin .Add (.int 1) (.call "_law_draw" [.var 0, .int 4] [] [])]),
  .ret (.tup [.var 2, .bin .Add (.var 2) (.call "_law_draw" [.var 0, .bin .Add (.var 1) (.int 1)] [] []), .var 3, .bin .Add (.var 3) (.call "_law_draw" [.var 0, .bin .Add (.var 1) (.int 1)] [] []), .bin .Add (.int 1) (.call "_law_draw" [.var 0, .int 2] [] []), .bin .Add (.int 1) (.call "_law_draw" [.var 0, .int 3] [] [])])]
def f_l_draw_road : Fn := { ps := ["bag", "wide"], nv := 4, pat := [(2, [])], body := b_l_draw_road }
def N_l_slot : List Str := ["tick", "wheel", "slot"]
def b_l_slot : List S := [
  .ret (.bin .Add (.var 0) (.bin .Mod (.blt "int" [.bin .Sub (.var 2) (.var 0)]) (.var 1)))]
def f_l_slot : Fn := { ps := ["tick", "wheel", "slot"], nv := 3, pat := [(3, [])], body := b_l_slot }
def N_l_by_fate : List Str := ["line", "side", "wheel", "first", "fate", "usual", "k", "come", "told", "tick", "delay", "ack"]
def b_l_by_fate : List S := [
  .asg (.nm 5) (.ite (.cmp .Eq (.var 1) (.int 0)) (.tup [.tup [.ix (.var 0) (.int 0), .ix (.var 0) (.int 2)]]) (.tup [.tup [.ix (.var 0) (.int 2), .ix (.var 0) (.int 0)]])),
  .asg (.tup [.nm 7, .nm 8]) (.tup [.non, .non]),
  .for (.nm 6) .range [.bin .Add (.blt "len" [.var 4]) (.int 1)] [
    .asg (.nm 9) (.bin .Add (.var 3) (.bin .Mult (.var 6) (.var 2))),
    .iff (.bop .And [.cmp .IsNot (.var 8) (.non), .cmp .GtE (.var 9) (.var 8)]) [
      .brk] [],
    .for (.tup [.nm 10, .nm 11]) .seq [.ite (.cmp .Lt (.var 6) (.blt "len" [.var 4])) (.ix (.var 4) (.var 6)) (.var 5)] [
      .asg (.nm 7) (.ite (.cmp .Is (.var 7) (.non)) (.bin .Add (.var 9) (.var 10)) (.blt "min" [.var 7, .bin .Add (.var 9) (.var 10)])),
      .iff (.cmp .IsNot (.var 11) (.non)) [
        .asg (.nm 8) (.ite (.cmp .Is (.var 8) (.non)) (.bin .Add (.bin .Add (.var 9) (.var 10)) (.var 11)) (.blt "min" [.var 8, .bin .Add (.bin .Add (.var 9) (.var 10)) (.var 11)]))] []]],
  .ret (.tup [.var 7, .var 8])]
def f_l_by_fate : Fn := { ps := ["line", "side", "wheel", "first", "fate"], nv := 12, pat := [(5, [])], body := b_l_by_fate }
def N_l_outcome : List Str := ["line", "side", "wheel", "first", "mode", "fate", "x", "y", "come"]
def b_l_outcome : List S := [
  .asg (.tup [.nm 6, .nm 7]) (.ite (.cmp .Eq (.var 1) (.int 0)) (.tup [.int 0, .int 2]) (.tup [.int 2, .int 0])),
  .iff (.cmp .Eq (.var 4) (.str "fast")) [
    .ret (.tup [.bin .Add (.var 3) (.ix (.var 0) (.var 6)), .bin .Add (.bin .Add (.var 3) (.ix (.var 0) (.var 6))) (.ix (.var 0) (.var 7))])] [],
  .iff (.cmp .Eq (.var 4) (.str "slow")) [
    .asg (.nm 8) (.bin .Add (.bin .Add (.var 3) (.bin .Mult (.ix (.var 0) (.int 4)) (.var 2))) (.ix (.var 0) (.bin .Add (.var 6) (.int 1)))),
    .ret (.tup [.var 8, .bin .Add (.var 8) (.ix (.var 0) (.bin .Add (.var 7) (.int 1)))])] [],
  .ret (.call "_law_by_fate" [.var 0, .var 1, .var 2, .var 3, .var 5] [] [])]
def f_l_outcome : Fn := { ps := ["line", "side", "wheel", "first", "mode", "fate"], nv := 9, pat := [(6, [])], body := b_l_outcome }
def N_l_line : List Str := []
def b_l_line : List S := [
  .ret (.blt "dlit" [.str "told", .dnew, .str "upto", .dnew, .str "top", .neg (.int 1), .str "read", .neg (.int 1), .str "all", .lst []])]
def f_l_line : Fn := { ps := [], nv := 0, pat := [(0, [])], body := b_l_line }
def N_l_goes : List Str := ["flow", "way", "number", "begun", "line", "side", "mode", "fates", "c", "ready", "first", "wheel", "slots", "reach", "come", "told"]
def b_l_goes : List S := [
  .asg (.tup [.nm 11, .nm 12, .nm 13]) (.slc (.var 1) false (.non) true (.int 3)),
  .asg (.nm 9) (.blt "max" [.var 3, .mth .dict "get" (.ix (.var 0) (.str "told")) [.bin .Sub (.var 2) (.blt "len" [.var 12]), .int 0], .mth .dict "get" (.ix (.var 0) (.str "upto")) [.bin .Sub (.var 2) (.var 13), .int 0]]),
  .asg (.nm 10) (.call "_law_slot" [.var 9, .var 11, .ix (.var 12) (.bin .Mod (.var 2) (.blt "len" [.var 12]))] [] []),
  .asg (.tup [.nm 14, .nm 15]) (.call "_law_outcome" [.var 4, .var 5, .var 11, .var 10, .var 6, .mth .dict "tget" (.var 7) [.tup [.var 8, .var 5, .var 2], .tup []]] [] []),
  .sub (.ix (.var 0) (.str "told")) (.var 2) (.var 15),
  .sub (.var 0) (.str "top") (.blt "max" [.ix (.var 0) (.str "top"), .var 15]),
  .sub (.ix (.var 0) (.str "upto")) (.var 2) (.ix (.var 0) (.str "top")),
  .sub (.var 0) (.str "read") (.blt "max" [.ix (.var 0) (.str "read"), .var 14]),
  .ex (.mth .list "append" (.ix (.var 0) (.str "all")) [.tup [.var 10, .var 14, .var 15, .ix (.var 0) (.str "read")]]),
  .ret (.ix (.var 0) (.str "read"))]
def f_l_goes : Fn := { ps := ["flow", "way", "number", "begun", "line", "side", "mode", "fates", "c"], nv := 16, pat := [(9, [])], body := b_l_goes }
def N_l_caller_times : List Str := ["design", "line", "made", "c", "mode", "fates", "base", "k", "forth", "back", "letters", "answers", "open_many", "turn", "go", "come", "begun", "done", "heard", "p", "read"]
def b_l_caller_times : List S := [
  .asg (.tup [.nm 8, .nm 9, .nm 10, .nm 11, .nm 12, .nm 13]) (.ix (.ix (.var 0) (.int 1)) (.var 3)),
  .asg (.tup [.nm 14, .nm 15]) (.tup [.call "_law_line" [] [] [], .call "_law_line" [] [] []]),
  .asg (.tup [.nm 16, .nm 17, .nm 18]) (.tup [.lst [], .lst [], .lst []]),
  .for (.nm 7) .range [.blt "len" [.var 2]] [
    .ex (.mth .list "append" (.var 16) [.ite (.cmp .GtE (.var 7) (.var 12)) (.blt "max" [.ix (.var 2) (.var 7), .ix (.var 18) (.bin .Sub (.var 7) (.var 12))]) (.ix (.var 2) (.var 7))]),
    .for (.nm 19) .range [.var 10] [
      .asg (.nm 20) (.call "_law_goes" [.var 14, .var 8, .bin .Add (.bin .Mult (.bin .Add (.var 6) (.var 7)) (.var 10)) (.var 19), .ix (.var 16) (.var 7), .var 1, .int 0, .var 4, .var 5, .var 3] [] [])],
    .ex (.mth .list "append" (.var 17) [.call "_law_slot" [.ite (.cmp .NotEq (.var 17) (.lst [])) (.blt "max" [.var 20, .bin .Add (.ix (.var 17) (.neg (.int 1))) (.int 1)]) (.var 20), .ix (.var 0) (.int 0), .var 13] [] []]),
    .for (.nm 19) .range [.var 11] [
      .asg (.nm 20) (.call "_law_goes" [.var 15, .var 9, .bin .Add (.bin .Mult (.bin .Add (.var 6) (.var 7)) (.var 11)) (.var 19), .ix (.var 17) (.var 7), .var 1, .int 1, .var 4, .var 5, .var 3] [] [])],
    .ex (.mth .list "append" (.var 18) [.var 20])],
  .ret (.tup [.blt "tuple" [.var 16], .blt "tuple" [.var 17], .blt "tuple" [.var 18], .blt "tuple" [.ix (.var 14) (.str "all")], .blt "tuple" [.ix (.var 15) (.str "all")]])]
def f_l_caller_times : Fn := { ps := ["design", "line", "made", "c", "mode", "fates", "base"], nv := 21, pat := [(7, [])], body := b_l_caller_times }
def N_l_small_caller : List Str := ["bag", "many", "turning", "turns", "wheels", "callers", "turn", "design", "ways", "side", "wheel", "lanes", "k"]
def b_l_small_caller : List S := [
  .asg (.nm 1) (.bin .Add (.int 1) (.call "_law_draw" [.var 0, .int 2] [] [])),
  .asg (.nm 2) (.ite (.cmp .Eq (.var 1) (.int 2)) (.call "_law_pick" [.var 0, .lst [.var 1, .int 2, .int 2, .int 4]] [] []) (.call "_law_pick" [.var 0, .lst [.int 1, .int 2, .int 3, .int 4]] [] [])),
  .asg (.nm 3) (.call "_law_some" [.var 0, .blt "lrange" [.var 2], .var 1] [] []),
  .asg (.nm 4) (.call "_law_pick" [.var 0, .lst [.lst [.int 1], .lst [.int 1, .int 2], .lst [.int 2, .int 4], .lst [.int 1, .int 3], .lst [.int 1, .int 2, .int 3]]] [] []),
  .asg (.nm 5) (.lst []),
  .for (.nm 6) .seq [.var 3] [
    .asg (.nm 8) (.lst []),
    .for (.nm 9) .range [.int 2] [
      .asg (.nm 10) (.call "_law_pick" [.var 0, .var 4] [] []),
      .asg (.nm 11) (.bin .Add (.int 1) (.call "_law_draw" [.var 0, .int 3] [] [])),
      .ex (.mth .list "append" (.var 8) [.tup [.var 10, .blt "tuple" [.lc (.call "_law_draw" [.var 0, .var 10] [] []) (.nm 12) .range [.var 11] [] [12]], .call "_law_pick" [.var 0, .lst [.int 1, .int 1, .int 2, .int 3, .int 5]] [] [], .int 3]])],
    .ex (.mth .list "append" (.var 5) [.tup [.ix (.var 8) (.int 0), .ix (.var 8) (.int 1), .bin .Add (.int 1) (.call "_law_draw" [.var 0, .int 2] [] []), .bin .Add (.int 1) (.call "_law_draw" [.var 0, .int 2] [] []), .call "_law_pick" [.var 0, .lst [.int 1, .int 1, .int 2, .int 3]] [] [], .var 6]])],
  .asg (.nm 7) (.tup [.var 2, .blt "tuple" [.var 5]]),
  .ret (.tup [.var 7, .blt "tuple" [.lc (.call "_law_draw_road" [.var 0, .call "_law_pick" [.var 0, .lst [.int 0, .int 2]] [] []] [] []) (.nm 12) .range [.var 1] [] [12]], .call "_law_draw" [.var 0, .var 1] [] []])]
def f_l_small_caller : Fn := { ps := ["bag"], nv := 13, pat := [(1, [])], body := b_l_small_caller }
def N_l_gcd : List Str := ["a", "b"]
def b_l_gcd : List S := [
  .whl (.cmp .NotEq (.var 1) (.int 0)) [
    .asg (.tup [.nm 0, .nm 1]) (.tup [.var 1, .bin .Mod (.blt "int" [.var 0]) (.var 1)])],
  .ret (.var 0)]
def f_l_gcd : Fn := { ps := ["a", "b"], nv := 2, pat := [(2, [])], body := b_l_gcd }
def N_l_lcm : List Str := ["numbers", "out", "number"]
def b_l_lcm : List S := [
  .asg (.nm 1) (.int 1),
  .for (.nm 2) .seq [.var 0] [
    .asg (.nm 1) (.bin .FloorDiv (.bin .Mult (.var 1) (.var 2)) (.call "_law_gcd" [.var 1, .var 2] [] []))],
  .ret (.var 1)]
def f_l_lcm : Fn := { ps := ["numbers"], nv := 3, pat := [(1, [])], body := b_l_lcm }
def N_l_turns_of : List Str := ["design", "c", "one", "starts", "lanes", "side"]
def b_l_turns_of : List S := [
  .asg (.nm 2) (.ix (.ix (.var 0) (.int 1)) (.var 1)),
  .asg (.nm 3) (.call "_law_lcm" [.lst [.ix (.var 0) (.int 0), .ix (.ix (.var 2) (.int 0)) (.int 0), .ix (.ix (.var 2) (.int 1)) (.int 0)]] [] []),
  .asg (.nm 4) (.lc (.bin .FloorDiv (.blt "len" [.ix (.ix (.var 2) (.var 5)) (.int 1)]) (.call "_law_gcd" [.blt "len" [.ix (.ix (.var 2) (.var 5)) (.int 1)], .ix (.var 2) (.bin .Add (.int 2) (.var 5))] [] [])) (.nm 5) .range [.int 2] [] [5]),
  .ret (.tup [.var 3, .call "_law_lcm" [.var 4] [] []])]
def f_l_turns_of : Fn := { ps := ["design", "c"], nv := 6, pat := [(2, [])], body := b_l_turns_of }
def N_l_burst : List Str := ["design", "bounds", "c", "ticks", "first", "<tkeys>"]
def b_l_burst : List S := [
  .ret (.ix (.call "_law_caller_times" [.var 0, .ix (.var 1) (.var 2), .var 3, .var 2, .str "slow", .blt "tdict" [], .var 4] [] []) (.int 2))]
def f_l_burst : Fn := { ps := ["design", "bounds", "c", "ticks", "first"], nv := 6, pat := [(5, [])], body := b_l_burst }
def N_l_great_caller : List Str := ["bag", "ways", "side", "turning", "design", "wheel", "lo", "low", "k"]
def b_l_great_caller : List S := [
  .asg (.nm 1) (.lst []),
  .for (.nm 2) .range [.int 2] [
    .asg (.nm 5) (.call "_law_pick" [.var 0, .lst [.int 12, .int 20, .int 24, .int 30]] [] []),
    .ex (.mth .list "append" (.var 1) [.tup [.var 5, .blt "tuple" [.lc (.call "_law_draw" [.var 0, .var 5] [] []) (.nm 8) .range [.bin .Add (.int 1) (.call "_law_draw" [.var 0, .int 6] [] [])] [] [8]], .call "_law_pick" [.var 0, .lst [.int 1, .int 7, .int 40]] [] [], .int 6]])],
  .asg (.nm 3) (.call "_law_pick" [.var 0, .lst [.int 1, .int 4, .int 6, .int 12, .int 20]] [] []),
  .asg (.nm 4) (.tup [.var 3, .tup [.tup [.ix (.var 1) (.int 0), .ix (.var 1) (.int 1), .bin .Add (.int 1) (.call "_law_draw" [.var 0, .int 4] [] []), .bin .Add (.int 1) (.call "_law_draw" [.var 0, .int 4] [] []), .call "_law_pick" [.var 0, .lst [.int 1, .int 4, .int 6]] [] [], .call "_law_draw" [.var 0, .var 3] [] []]]]),
  .asg (.tup [.nm 6, .nm 7]) (.tup [.bin .Add (.int 1) (.call "_law_draw" [.var 0, .int 60] [] []), .bin .Add (.int 1) (.call "_law_draw" [.var 0, .int 60] [] [])]),
  .ret (.tup [.var 4, .tup [.tup [.var 6, .bin .Add (.var 6) (.call "_law_draw" [.var 0, .bin .Sub (.int 61) (.var 6)] [] []), .var 7, .bin .Add (.var 7) (.call "_law_draw" [.var 0, .bin .Sub (.int 61) (.var 7)] [] []), .bin .Add (.int 1) (.call "_law_draw" [.var 0, .int 3] [] []), .bin .Add (.int 1) (.call "_law_draw" [.var 0, .int 3] [] [])]], .int 0])]
def f_l_great_caller : Fn := { ps := ["bag"], nv := 9, pat := [(1, [])], body := b_l_great_caller }
def N_law : List Str := ["script", "bag", "lap", "is_great", "many", "heard", "due", "found", "design", "bounds", "c", "starts", "firsts", "start", "first", "tick"]
def b_law : List S := [
  .asg (.nm 1) (.call "_law_bag" [.var 0] [] []),
  .for (.nm 2) .range [.int 5] [
    .asg (.nm 3) (.cmp .Eq (.call "_law_draw" [.var 1, .int 8] [] []) (.int 0)),
    .asg (.tup [.nm 8, .nm 9, .nm 10]) (.ite (.var 3) (.call "_law_great_caller" [.var 1] [] []) (.call "_law_small_caller" [.var 1] [] [])),
    .asg (.tup [.nm 11, .nm 12]) (.call "_law_turns_of" [.var 8, .var 10] [] []),
    .asg (.nm 4) (.bin .Add (.int 1) (.call "_law_draw" [.var 1, .ite (.var 3) (.int 12) (.call "_law_pick" [.var 1, .lst [.int 3, .int 12, .int 30, .int 30, .int 30, .int 30, .int 30, .int 200]] [] [])] [] [])),
    .asg (.tup [.nm 13, .nm 14]) (.tup [.call "_law_draw" [.var 1, .bin .Mult (.int 3) (.var 11)] [] [], .call "_law_draw" [.var 1, .bin .Add (.bin .Mult (.int 3) (.var 12)) (.int 2)] [] []]),
    .asg (.nm 5) (.call "_law_burst" [.var 8, .var 9, .var 10, .bin .Mult (.tup [.var 13]) (.var 4), .var 14] [] []),
    .asg (.nm 6) (.blt "tuple" [.lc (.bin .Sub (.var 15) (.var 13)) (.nm 15) .seq [.var 5] [] [15]]),
    .asg (.nm 7) (.tup [.call "burst" [.var 8, .var 9, .var 10, .var 4, .var 13, .var 14] [] [], .call "burst" [] ["first", "start", "many", "caller", "bounds", "design"] [.var 14, .var 13, .var 4, .var 10, .var 9, .var 8]]),
    .iff (.not (.call "_law_same" [.tup [.var 7, .call "burst" [.var 8, .var 9, .var 10, .var 4, .bin .Add (.var 13) (.bin .Mult (.int 7) (.var 11)), .bin .Add (.var 14) (.bin .Mult (.int 5) (.var 12))] [] []], .tup [.tup [.var 6, .var 6], .var 6]] [] [])) [
      .ret (.bl false)] []],
  .ret (.bl true)]
def f_law : Fn := { ps := ["script"], nv := 16, pat := [(1, [])], body := b_law }
def N_Course___init : List Str := ["self", "ring", "caller", "comes", "tells", "ways", "cycles", "side", "way", "<fld> wheels", "<fld> slots", "<fld> lags", "<fld> sizes", "<fld> room", "<fld> turn", "<fld> ring", "<fld> comes", "<fld> tells", "<fld> span", "<fld> cycle"]
def b_Course___init : List S := [
  .asg (.nm 5) (.slc (.var 2) false (.non) true (.int 2)),
  .sfl (.var 0) "wheels" (.tup [.ix (.ix (.var 5) (.int 0)) (.int 0), .ix (.ix (.var 5) (.int 1)) (.int 0)]),
  .sfl (.var 0) "slots" (.tup [.ix (.ix (.var 5) (.int 0)) (.int 1), .ix (.ix (.var 5) (.int 1)) (.int 1)]),
  .sfl (.var 0) "lags" (.blt "tuple" [.lc (.ite (.cmp .GtE (.ix (.var 8) (.int 2)) (.bin .Mult (.int 2) (.blt "len" [.ix (.var 8) (.int 1)]))) (.int 0) (.ix (.var 8) (.int 2))) (.nm 8) .seq [.var 5] [] [8]]),
  .sfl (.var 0) "sizes" (.slc (.var 2) true (.int 2) true (.int 4)),
  .sfl (.var 0) "room" (.ix (.var 2) (.int 4)),
  .sfl (.var 0) "turn" (.ix (.var 2) (.int 5)),
  .sfl (.var 0) "ring" (.var 1),
  .sfl (.var 0) "comes" (.var 3),
  .sfl (.var 0) "tells" (.var 4),
  .sfl (.var 0) "span" (.call "multiple_of" [.call "multiple_of" [.var 1, .ix (.ix (.var 5) (.int 0)) (.int 0)] [] [], .ix (.ix (.var 5) (.int 1)) (.int 0)] [] []),
  .asg (.nm 6) (.lc (.call "turns_of" [.blt "len" [.ix (.ix (.var 5) (.var 7)) (.int 1)], .ix (.var 2) (.bin .Add (.int 2) (.var 7))] [] []) (.nm 7) .seq [.tup [.int 0, .int 1]] [] [7]),
  .sfl (.var 0) "cycle" (.call "multiple_of" [.ix (.var 6) (.int 0), .ix (.var 6) (.int 1)] [] [])]
def f_Course___init : Fn := { ps := ["self", "ring", "caller", "comes", "tells"], nv := 20, pat := [(5, [])], body := b_Course___init, kd := 2 }
def f_Course : Fn := { ps := ["ring", "caller", "comes", "tells"], nv := 4, pat := [(4, [])], body := [.new "Course"], kd := 1 }
def defs : List (Str × Fn) := [(("next_slot" : Str), f_next_slot), (("delays_of" : Str), f_delays_of), (("quick_trip" : Str), f_quick_trip), (("slow_trip" : Str), f_slow_trip), (("divisor_of" : Str), f_divisor_of), (("multiple_of" : Str), f_multiple_of), (("turns_of" : Str), f_turns_of), (("course_by" : Str), f_course_by), (("course_of" : Str), f_course_of), (("idle_state" : Str), f_idle_state), (("lowered" : Str), f_lowered), (("lifted" : Str), f_lifted), (("letters_told" : Str), f_letters_told), (("call_passed" : Str), f_call_passed), (("burst_ticks" : Str), f_burst_ticks), (("burst" : Str), f_burst), (("_law_bag" : Str), f_l_bag), (("_law_draw" : Str), f_l_draw), (("_law_pick" : Str), f_l_pick), (("_law_some" : Str), f_l_some), (("_law_same" : Str), f_l_same), (("_law_draw_road" : Str), f_l_draw_road), (("_law_slot" : Str), f_l_slot), (("_law_by_fate" : Str), f_l_by_fate), (("_law_outcome" : Str), f_l_outcome), (("_law_line" : Str), f_l_line), (("_law_goes" : Str), f_l_goes), (("_law_caller_times" : Str), f_l_caller_times), (("_law_small_caller" : Str), f_l_small_caller), (("_law_gcd" : Str), f_l_gcd), (("_law_lcm" : Str), f_l_lcm), (("_law_turns_of" : Str), f_l_turns_of), (("_law_burst" : Str), f_l_burst), (("_law_great_caller" : Str), f_l_great_caller), (("law" : Str), f_law), (("Course.__init__" : Str), f_Course___init), (("Course" : Str), f_Course)]
def dP : Str → Option Fn := lookF defs
def dfP (f : Str) : Bool := dfOf dP f
theorem P_next_slot : dP "next_slot" = some f_next_slot := by rfl
theorem P_delays_of : dP "delays_of" = some f_delays_of := by rfl
theorem P_quick_trip : dP "quick_trip" = some f_quick_trip := by rfl
theorem P_slow_trip : dP "slow_trip" = some f_slow_trip := by rfl
theorem P_divisor_of : dP "divisor_of" = some f_divisor_of := by rfl
theorem P_multiple_of : dP "multiple_of" = some f_multiple_of := by rfl
theorem P_turns_of : dP "turns_of" = some f_turns_of := by rfl
theorem P_course_by : dP "course_by" = some f_course_by := by rfl
theorem P_course_of : dP "course_of" = some f_course_of := by rfl
theorem P_idle_state : dP "idle_state" = some f_idle_state := by rfl
theorem P_lowered : dP "lowered" = some f_lowered := by rfl
theorem P_lifted : dP "lifted" = some f_lifted := by rfl
theorem P_letters_told : dP "letters_told" = some f_letters_told := by rfl
theorem P_call_passed : dP "call_passed" = some f_call_passed := by rfl
theorem P_burst_ticks : dP "burst_ticks" = some f_burst_ticks := by rfl
theorem P_burst : dP "burst" = some f_burst := by rfl
theorem P_l_bag : dP "_law_bag" = some f_l_bag := by rfl
theorem P_l_draw : dP "_law_draw" = some f_l_draw := by rfl
theorem P_l_pick : dP "_law_pick" = some f_l_pick := by rfl
theorem P_l_some : dP "_law_some" = some f_l_some := by rfl
theorem P_l_same : dP "_law_same" = some f_l_same := by rfl
theorem P_l_draw_road : dP "_law_draw_road" = some f_l_draw_road := by rfl
theorem P_l_slot : dP "_law_slot" = some f_l_slot := by rfl
theorem P_l_by_fate : dP "_law_by_fate" = some f_l_by_fate := by rfl
theorem P_l_outcome : dP "_law_outcome" = some f_l_outcome := by rfl
theorem P_l_line : dP "_law_line" = some f_l_line := by rfl
theorem P_l_goes : dP "_law_goes" = some f_l_goes := by rfl
theorem P_l_caller_times : dP "_law_caller_times" = some f_l_caller_times := by rfl
theorem P_l_small_caller : dP "_law_small_caller" = some f_l_small_caller := by rfl
theorem P_l_gcd : dP "_law_gcd" = some f_l_gcd := by rfl
theorem P_l_lcm : dP "_law_lcm" = some f_l_lcm := by rfl
theorem P_l_turns_of : dP "_law_turns_of" = some f_l_turns_of := by rfl
theorem P_l_burst : dP "_law_burst" = some f_l_burst := by rfl
theorem P_l_great_caller : dP "_law_great_caller" = some f_l_great_caller := by rfl
theorem P_law : dP "law" = some f_law := by rfl
theorem P_Course___init : dP (mname "Course" "__init__") = some f_Course___init := by rfl
theorem P_Course : dP "Course" = some f_Course := by rfl
theorem mths_Course : mthsOf "Course" defs = [(("__init__" : Str), f_Course___init)] := by rfl
def allF : List Str := ["room", "span", "cycle", "lags", "slots", "wheels", "sizes", "tells", "comes", "turn", "ring"]
theorem c_next_slot : compD dfP N_next_slot (top 1) = some b_next_slot := eqSs_ok (by decide +kernel)
theorem sc_next_slot : FnScope N_next_slot f_next_slot.ps (defScope (top 1)) := ⟨rfl, rfl, rfl, by decide +kernel, rfl, by decide +kernel, by decide +kernel⟩
theorem af_next_slot : subB (fldsOf N_next_slot) allF = true := by decide +kernel
theorem c_delays_of : compD dfP N_delays_of (top 2) = some b_delays_of := eqSs_ok (by decide +kernel)
theorem sc_delays_of : FnScope N_delays_of f_delays_of.ps (defScope (top 2)) := ⟨rfl, rfl, rfl, by decide +kernel, rfl, by decide +kernel, by decide +kernel⟩
theorem af_delays_of : subB (fldsOf N_delays_of) allF = true := by decide +kernel
theorem c_quick_trip : compD dfP N_quick_trip (top 3) = some b_quick_trip := eqSs_ok (by decide +kernel)
theorem sc_quick_trip : FnScope N_quick_trip f_quick_trip.ps (defScope (top 3)) := ⟨rfl, rfl, rfl, by decide +kernel, rfl, by decide +kernel, by decide +kernel⟩
theorem af_quick_trip : subB (fldsOf N_quick_trip) allF = true := by decide +kernel
theorem c_slow_trip : compD dfP N_slow_trip (top 4) = some b_slow_trip := eqSs_ok (by decide +kernel)
theorem sc_slow_trip : FnScope N_slow_trip f_slow_trip.ps (defScope (top 4)) := ⟨rfl, rfl, rfl, by decide +kernel, rfl, by decide +kernel, by decide +kernel⟩
theorem af_slow_trip : subB (fldsOf N_slow_trip) allF = true := by decide +kernel
theorem c_divisor_of : compD dfP N_divisor_of (top 6) = some b_divisor_of := eqSs_ok (by decide +kernel)
theorem sc_divisor_of : FnScope N_divisor_of f_divisor_of.ps (defScope (top 6)) := ⟨rfl, rfl, rfl, by decide +kernel, rfl, by decide +kernel, by decide +kernel⟩
theorem af_divisor_of : subB (fldsOf N_divisor_of) allF = true := by decide +kernel
theorem c_multiple_of : compD dfP N_multiple_of (top 7) = some b_multiple_of := eqSs_ok (by decide +kernel)
theorem sc_multiple_of : FnScope N_multiple_of f_multiple_of.ps (defScope (top 7)) := ⟨rfl, rfl, rfl, by decide +kernel, rfl, by decide +kernel, by decide +kernel⟩
theorem af_multiple_of : subB (fldsOf N_multiple_of) allF = true := by decide +kernel
theorem c_turns_of : compD dfP N_turns_of (top 8) = some b_turns_of := eqSs_ok (by decide +kernel)
theorem sc_turns_of : FnScope N_turns_of f_turns_of.ps (defScope (top 8)) := ⟨rfl, rfl, rfl, by decide +kernel, rfl, by decide +kernel, by decide +kernel⟩
theorem af_turns_of : subB (fldsOf N_turns_of) allF = true := by decide +kernel
theorem c_course_by : compD dfP N_course_by (top 10) = some b_course_by := eqSs_ok (by decide +kernel)
theorem sc_course_by : FnScope N_course_by f_course_by.ps (defScope (top 10)) := ⟨rfl, rfl, rfl, by decide +kernel, rfl, by decide +kernel, by decide +kernel⟩
theorem af_course_by : subB (fldsOf N_course_by) allF = true := by decide +kernel
theorem c_course_of : compD dfP N_course_of (top 11) = some b_course_of := eqSs_ok (by decide +kernel)
theorem sc_course_of : FnScope N_course_of f_course_of.ps (defScope (top 11)) := ⟨rfl, rfl, rfl, by decide +kernel, rfl, by decide +kernel, by decide +kernel⟩
theorem af_course_of : subB (fldsOf N_course_of) allF = true := by decide +kernel
theorem c_idle_state : compD dfP N_idle_state (top 12) = some b_idle_state := eqSs_ok (by decide +kernel)
theorem sc_idle_state : FnScope N_idle_state f_idle_state.ps (defScope (top 12)) := ⟨rfl, rfl, rfl, by decide +kernel, rfl, by decide +kernel, by decide +kernel⟩
theorem af_idle_state : subB (fldsOf N_idle_state) allF = true := by decide +kernel
theorem c_lowered : compD dfP N_lowered (top 13) = some b_lowered := eqSs_ok (by decide +kernel)
theorem sc_lowered : FnScope N_lowered f_lowered.ps (defScope (top 13)) := ⟨rfl, rfl, rfl, by decide +kernel, rfl, by decide +kernel, by decide +kernel⟩
theorem af_lowered : subB (fldsOf N_lowered) allF = true := by decide +kernel
theorem c_lifted : compD dfP N_lifted (top 14) = some b_lifted := eqSs_ok (by decide +kernel)
theorem sc_lifted : FnScope N_lifted f_lifted.ps (defScope (top 14)) := ⟨rfl, rfl, rfl, by decide +kernel, rfl, by decide +kernel, by decide +kernel⟩
theorem af_lifted : subB (fldsOf N_lifted) allF = true := by decide +kernel
theorem c_letters_told : compD dfP N_letters_told (top 15) = some b_letters_told := eqSs_ok (by decide +kernel)
theorem sc_letters_told : FnScope N_letters_told f_letters_told.ps (defScope (top 15)) := ⟨rfl, rfl, rfl, by decide +kernel, rfl, by decide +kernel, by decide +kernel⟩
theorem af_letters_told : subB (fldsOf N_letters_told) allF = true := by decide +kernel
theorem c_call_passed : compD dfP N_call_passed (top 16) = some b_call_passed := eqSs_ok (by decide +kernel)
theorem sc_call_passed : FnScope N_call_passed f_call_passed.ps (defScope (top 16)) := ⟨rfl, rfl, rfl, by decide +kernel, rfl, by decide +kernel, by decide +kernel⟩
theorem af_call_passed : subB (fldsOf N_call_passed) allF = true := by decide +kernel
theorem c_burst_ticks : compD dfP N_burst_ticks (top 17) = some b_burst_ticks := eqSs_ok (by decide +kernel)
theorem sc_burst_ticks : FnScope N_burst_ticks f_burst_ticks.ps (defScope (top 17)) := ⟨rfl, rfl, rfl, by decide +kernel, rfl, by decide +kernel, by decide +kernel⟩
theorem af_burst_ticks : subB (fldsOf N_burst_ticks) allF = true := by decide +kernel
theorem c_burst : compD dfP N_burst (top 19) = some b_burst := eqSs_ok (by decide +kernel)
theorem sc_burst : FnScope N_burst f_burst.ps (defScope (top 19)) := ⟨rfl, rfl, rfl, by decide +kernel, rfl, by decide +kernel, by decide +kernel⟩
theorem af_burst : subB (fldsOf N_burst) allF = true := by decide +kernel
theorem c_l_bag : compD dfP N_l_bag (top 21) = some b_l_bag := eqSs_ok (by decide +kernel)
theorem sc_l_bag : FnScope N_l_bag f_l_bag.ps (defScope (top 21)) := ⟨rfl, rfl, rfl, by decide +kernel, rfl, by decide +kernel, by decide +kernel⟩
theorem af_l_bag : subB (fldsOf N_l_bag) allF = true := by decide +kernel
theorem c_l_draw : compD dfP N_l_draw (top 22) = some b_l_draw := eqSs_ok (by decide +kernel)
theorem sc_l_draw : FnScope N_l_draw f_l_draw.ps (defScope (top 22)) := ⟨rfl, rfl, rfl, by decide +kernel, rfl, by decide +kernel, by decide +kernel⟩
theorem af_l_draw : subB (fldsOf N_l_draw) allF = true := by decide +kernel
theorem c_l_pick : compD dfP N_l_pick (top 23) = some b_l_pick := eqSs_ok (by decide +kernel)
theorem sc_l_pick : FnScope N_l_pick f_l_pick.ps (defScope (top 23)) := ⟨rfl, rfl, rfl, by decide +kernel, rfl, by decide +kernel, by decide +kernel⟩
theorem af_l_pick : subB (fldsOf N_l_pick) allF = true := by decide +kernel
theorem c_l_some : compD dfP N_l_some (top 24) = some b_l_some := eqSs_ok (by decide +kernel)
theorem sc_l_some : FnScope N_l_some f_l_some.ps (defScope (top 24)) := ⟨rfl, rfl, rfl, by decide +kernel, rfl, by decide +kernel, by decide +kernel⟩
theorem af_l_some : subB (fldsOf N_l_some) allF = true := by decide +kernel
theorem c_l_same : compD dfP N_l_same (top 25) = some b_l_same := eqSs_ok (by decide +kernel)
theorem sc_l_same : FnScope N_l_same f_l_same.ps (defScope (top 25)) := ⟨rfl, rfl, rfl, by decide +kernel, rfl, by decide +kernel, by decide +kernel⟩
theorem af_l_same : subB (fldsOf N_l_same) allF = true := by decide +kernel
theorem c_l_draw_road : compD dfP N_l_draw_road (top 26) = some b_l_draw_road := eqSs_ok (by decide +kernel)
theorem sc_l_draw_road : FnScope N_l_draw_road f_l_draw_road.ps (defScope (top 26)) := ⟨rfl, rfl, rfl, by decide +kernel, rfl, by decide +kernel, by decide +kernel⟩
theorem af_l_draw_road : subB (fldsOf N_l_draw_road) allF = true := by decide +kernel
theorem c_l_slot : compD dfP N_l_slot (top 27) = some b_l_slot := eqSs_ok (by decide +kernel)
theorem sc_l_slot : FnScope N_l_slot f_l_slot.ps (defScope (top 27)) := ⟨rfl, rfl, rfl, by decide +kernel, rfl, by decide +kernel, by decide +kernel⟩
theorem af_l_slot : subB (fldsOf N_l_slot) allF = true := by decide +kernel
theorem c_l_by_fate : compD dfP N_l_by_fate (top 28) = some b_l_by_fate := eqSs_ok (by decide +kernel)
theorem sc_l_by_fate : FnScope N_l_by_fate f_l_by_fate.ps (defScope (top 28)) := ⟨rfl, rfl, rfl, by decide +kernel, rfl, by decide +kernel, by decide +kernel⟩
theorem af_l_by_fate : subB (fldsOf N_l_by_fate) allF = true := by decide +kernel
theorem c_l_outcome : compD dfP N_l_outcome (top 29) = some b_l_outcome := eqSs_ok (by decide +kernel)
theorem sc_l_outcome : FnScope N_l_outcome f_l_outcome.ps (defScope (top 29)) := ⟨rfl, rfl, rfl, by decide +kernel, rfl, by decide +kernel, by decide +kernel⟩
theorem af_l_outcome : subB (fldsOf N_l_outcome) allF = true := by decide +kernel
theorem c_l_line : compD dfP N_l_line (top 30) = some b_l_line := eqSs_ok (by decide +kernel)
theorem sc_l_line : FnScope N_l_line f_l_line.ps (defScope (top 30)) := ⟨rfl, rfl, rfl, by decide +kernel, rfl, by decide +kernel, by decide +kernel⟩
theorem af_l_line : subB (fldsOf N_l_line) allF = true := by decide +kernel
theorem c_l_goes : compD dfP N_l_goes (top 31) = some b_l_goes := eqSs_ok (by decide +kernel)
theorem sc_l_goes : FnScope N_l_goes f_l_goes.ps (defScope (top 31)) := ⟨rfl, rfl, rfl, by decide +kernel, rfl, by decide +kernel, by decide +kernel⟩
theorem af_l_goes : subB (fldsOf N_l_goes) allF = true := by decide +kernel
theorem c_l_caller_times : compD dfP N_l_caller_times (top 32) = some b_l_caller_times := eqSs_ok (by decide +kernel)
theorem sc_l_caller_times : FnScope N_l_caller_times f_l_caller_times.ps (defScope (top 32)) := ⟨rfl, rfl, rfl, by decide +kernel, rfl, by decide +kernel, by decide +kernel⟩
theorem af_l_caller_times : subB (fldsOf N_l_caller_times) allF = true := by decide +kernel
theorem c_l_small_caller : compD dfP N_l_small_caller (top 33) = some b_l_small_caller := eqSs_ok (by decide +kernel)
theorem sc_l_small_caller : FnScope N_l_small_caller f_l_small_caller.ps (defScope (top 33)) := ⟨rfl, rfl, rfl, by decide +kernel, rfl, by decide +kernel, by decide +kernel⟩
theorem af_l_small_caller : subB (fldsOf N_l_small_caller) allF = true := by decide +kernel
theorem c_l_gcd : compD dfP N_l_gcd (top 34) = some b_l_gcd := eqSs_ok (by decide +kernel)
theorem sc_l_gcd : FnScope N_l_gcd f_l_gcd.ps (defScope (top 34)) := ⟨rfl, rfl, rfl, by decide +kernel, rfl, by decide +kernel, by decide +kernel⟩
theorem af_l_gcd : subB (fldsOf N_l_gcd) allF = true := by decide +kernel
theorem c_l_lcm : compD dfP N_l_lcm (top 35) = some b_l_lcm := eqSs_ok (by decide +kernel)
theorem sc_l_lcm : FnScope N_l_lcm f_l_lcm.ps (defScope (top 35)) := ⟨rfl, rfl, rfl, by decide +kernel, rfl, by decide +kernel, by decide +kernel⟩
theorem af_l_lcm : subB (fldsOf N_l_lcm) allF = true := by decide +kernel
theorem c_l_turns_of : compD dfP N_l_turns_of (top 36) = some b_l_turns_of := eqSs_ok (by decide +kernel)
theorem sc_l_turns_of : FnScope N_l_turns_of f_l_turns_of.ps (defScope (top 36)) := ⟨rfl, rfl, rfl, by decide +kernel, rfl, by decide +kernel, by decide +kernel⟩
theorem af_l_turns_of : subB (fldsOf N_l_turns_of) allF = true := by decide +kernel
theorem c_l_burst : compD dfP N_l_burst (top 37) = some b_l_burst := eqSs_ok (by decide +kernel)
theorem sc_l_burst : FnScope N_l_burst f_l_burst.ps (defScope (top 37)) := ⟨rfl, rfl, rfl, by decide +kernel, rfl, by decide +kernel, by decide +kernel⟩
theorem af_l_burst : subB (fldsOf N_l_burst) allF = true := by decide +kernel
theorem c_l_great_caller : compD dfP N_l_great_caller (top 38) = some b_l_great_caller := eqSs_ok (by decide +kernel)
theorem sc_l_great_caller : FnScope N_l_great_caller f_l_great_caller.ps (defScope (top 38)) := ⟨rfl, rfl, rfl, by decide +kernel, rfl, by decide +kernel, by decide +kernel⟩
theorem af_l_great_caller : subB (fldsOf N_l_great_caller) allF = true := by decide +kernel
theorem c_law : compD dfP N_law (top 39) = some b_law := eqSs_ok (by decide +kernel)
theorem sc_law : FnScope N_law f_law.ps (defScope (top 39)) := ⟨rfl, rfl, rfl, by decide +kernel, rfl, by decide +kernel, by decide +kernel⟩
theorem af_law : subB (fldsOf N_law) allF = true := by decide +kernel
theorem c_Course___init : compD dfP N_Course___init (inClass (top 9) 0) = some b_Course___init := eqSs_ok (by decide +kernel)
theorem sc_Course___init : FnScope N_Course___init f_Course___init.ps (defScope (inClass (top 9) 0)) := ⟨rfl, rfl, rfl, by decide +kernel, rfl, by decide +kernel, by decide +kernel⟩
theorem af_Course___init : subB (fldsOf N_Course___init) allF = true := by decide +kernel
theorem all_mk {l : PySem.W.OpenLaw} {w : World} {K : PySem.W.Frag} {h : Heap} {mg : Str → Option Value} {fa : Addr} {k : Nat} {qP : Program} (hlaw : LawHolds dP k) (T : TabsTold qP K h) (X : K.In h) (G : h.Ns mainGlobals mg) (hfa : mg "law" = some (.ref fa))
    {f0 f1 f2 f3 f4 f5 f6 f7 f8 f9 f10 f11 f12 f13 f14 f15 f16 f17 f18 f19 f20 f21 f22 f23 f24 f25 f26 f27 f28 f29 f30 f31 f32 f33 f34 f35 pC0 : Addr} {od0 an0 od1 an1 od2 an2 od3 an3 od4 an4 od5 an5 od6 an6 od7 an7 od8 an8 od9 an9 od10 an10 od11 an11 od12 an12 od13 an13 od14 an14 od15 an15 od16 an16 od17 an17 od18 an18 od19 an19 od20 an20 od21 an21 od22 an22 od23 an23 od24 an24 od25 an25 od26 an26 od27 an27 od28 an28 od29 an29 od30 an30 od31 an31 od32 an32 od33 an33 od34 an34 od35 an35 : Option Addr} {sl0 sl1 sl2 sl3 sl4 sl5 sl6 sl7 sl8 sl9 sl10 sl11 sl12 sl13 sl14 sl15 sl16 sl17 sl18 sl19 sl20 sl21 sl22 sl23 sl24 sl25 sl26 sl27 sl28 sl29 sl30 sl31 sl32 sl33 sl34 sl35 : Array (Option Value)} {oc0 kV0 dc0 pm0 cd0 ct0 oc1 kV1 dc1 pm1 cd1 ct1 oc2 kV2 dc2 pm2 cd2 ct2 oc3 kV3 dc3 pm3 cd3 ct3 oc4 kV4 dc4 pm4 cd4 ct4 oc5 kV5 dc5 pm5 cd5 ct5 oc6 kV6 dc6 pm6 cd6 ct6 oc7 kV7 dc7 pm7 cd7 ct7 oc8 kV8 dc8 pm8 cd8 ct8 oc9 kV9 dc9 pm9 cd9 ct9 oc10 kV10 dc10 pm10 cd10 ct10 oc11 kV11 dc11 pm11 cd11 ct11 oc12 kV12 dc12 pm12 cd12 ct12 oc13 kV13 dc13 pm13 cd13 ct13 oc14 kV14 dc14 pm14 cd14 ct14 oc15 kV15 dc15 pm15 cd15 ct15 oc16 kV16 dc16 pm16 cd16 ct16 oc17 kV17 dc17 pm17 cd17 ct17 oc18 kV18 dc18 pm18 cd18 ct18 oc19 kV19 dc19 pm19 cd19 ct19 oc20 kV20 dc20 pm20 cd20 ct20 oc21 kV21 dc21 pm21 cd21 ct21 oc22 kV22 dc22 pm22 cd22 ct22 oc23 kV23 dc23 pm23 cd23 ct23 oc24 kV24 dc24 pm24 cd24 ct24 oc25 kV25 dc25 pm25 cd25 ct25 oc26 kV26 dc26 pm26 cd26 ct26 oc27 kV27 dc27 pm27 cd27 ct27 oc28 kV28 dc28 pm28 cd28 ct28 oc29 kV29 dc29 pm29 cd29 ct29 oc30 kV30 dc30 pm30 cd30 ct30 oc31 kV31 dc31 pm31 cd31 ct31 oc32 kV32 dc32 pm32 cd32 ct32 oc33 kV33 dc33 pm33 cd33 ct33 oc34 kV34 dc34 pm34 cd34 ct34 oc35 kV35 dc35 pm35 cd35 ct35 : Value}
    (aC0 : PySem.W.nsIn K mainGlobals "Course" = some (some (.ref pC0))) (pg0 : PySem.W.plainGet K pC0 Str.empty = true) (hd0 : PySem.W.hasDictIn K pC0 = true) (po0 : PySem.W.plainOver K pC0 = true) (sa0 : PySem.W.findIn K (.ref pC0) "__setattr__" = some (some (.builtin "object.__setattr__"))) (mk0 : PySem.W.makesIn K pC0 = true) (kc0 : PySem.W.keepIn K (.ref pC0) = true)
    (nf0_0 : PySem.W.findIn K (.ref pC0) "room" = some none)
    (nf0_1 : PySem.W.findIn K (.ref pC0) "span" = some none)
    (nf0_2 : PySem.W.findIn K (.ref pC0) "cycle" = some none)
    (nf0_3 : PySem.W.findIn K (.ref pC0) "lags" = some none)
    (nf0_4 : PySem.W.findIn K (.ref pC0) "slots" = some none)
    (nf0_5 : PySem.W.findIn K (.ref pC0) "wheels" = some none)
    (nf0_6 : PySem.W.findIn K (.ref pC0) "sizes" = some none)
    (nf0_7 : PySem.W.findIn K (.ref pC0) "tells" = some none)
    (nf0_8 : PySem.W.findIn K (.ref pC0) "comes" = some none)
    (nf0_9 : PySem.W.findIn K (.ref pC0) "turn" = some none)
    (nf0_10 : PySem.W.findIn K (.ref pC0) "ring" = some none)
    (a0 : PySem.W.nsIn K mainGlobals "next_slot" = some (some (.ref f0))) (l0 : K.lookup f0 = some ⟨oc0, od0, .func (PySem.W.fnOf "next_slot" "next_slot" (defArgs (top 1)) (defBody (top 1)) (defScope (top 1)) .none kV0 dc0 pm0 an0 cd0 ct0), sl0⟩) (c0 : PySem.W.codeIn K cd0 "next_slot" = true) (k0 : PySem.W.keepIn K (.ref f0) = true)
    (a1 : PySem.W.nsIn K mainGlobals "delays_of" = some (some (.ref f1))) (l1 : K.lookup f1 = some ⟨oc1, od1, .func (PySem.W.fnOf "delays_of" "delays_of" (defArgs (top 2)) (defBody (top 2)) (defScope (top 2)) .none kV1 dc1 pm1 an1 cd1 ct1), sl1⟩) (c1 : PySem.W.codeIn K cd1 "delays_of" = true) (k1 : PySem.W.keepIn K (.ref f1) = true)
    (a2 : PySem.W.nsIn K mainGlobals "quick_trip" = some (some (.ref f2))) (l2 : K.lookup f2 = some ⟨oc2, od2, .func (PySem.W.fnOf "quick_trip" "quick_trip" (defArgs (top 3)) (defBody (top 3)) (defScope (top 3)) .none kV2 dc2 pm2 an2 cd2 ct2), sl2⟩) (c2 : PySem.W.codeIn K cd2 "quick_trip" = true) (k2 : PySem.W.keepIn K (.ref f2) = true)
    (a3 : PySem.W.nsIn K mainGlobals "slow_trip" = some (some (.ref f3))) (l3 : K.lookup f3 = some ⟨oc3, od3, .func (PySem.W.fnOf "slow_trip" "slow_trip" (defArgs (top 4)) (defBody (top 4)) (defScope (top 4)) .none kV3 dc3 pm3 an3 cd3 ct3), sl3⟩) (c3 : PySem.W.codeIn K cd3 "slow_trip" = true) (k3 : PySem.W.keepIn K (.ref f3) = true)
    (a4 : PySem.W.nsIn K mainGlobals "divisor_of" = some (some (.ref f4))) (l4 : K.lookup f4 = some ⟨oc4, od4, .func (PySem.W.fnOf "divisor_of" "divisor_of" (defArgs (top 6)) (defBody (top 6)) (defScope (top 6)) .none kV4 dc4 pm4 an4 cd4 ct4), sl4⟩) (c4 : PySem.W.codeIn K cd4 "divisor_of" = true) (k4 : PySem.W.keepIn K (.ref f4) = true)
    (a5 : PySem.W.nsIn K mainGlobals "multiple_of" = some (some (.ref f5))) (l5 : K.lookup f5 = some ⟨oc5, od5, .func (PySem.W.fnOf "multiple_of" "multiple_of" (defArgs (top 7)) (defBody (top 7)) (defScope (top 7)) .none kV5 dc5 pm5 an5 cd5 ct5), sl5⟩) (c5 : PySem.W.codeIn K cd5 "multiple_of" = true) (k5 : PySem.W.keepIn K (.ref f5) = true)
    (a6 : PySem.W.nsIn K mainGlobals "turns_of" = some (some (.ref f6))) (l6 : K.lookup f6 = some ⟨oc6, od6, .func (PySem.W.fnOf "turns_of" "turns_of" (defArgs (top 8)) (defBody (top 8)) (defScope (top 8)) .none kV6 dc6 pm6 an6 cd6 ct6), sl6⟩) (c6 : PySem.W.codeIn K cd6 "turns_of" = true) (k6 : PySem.W.keepIn K (.ref f6) = true)
    (a7 : PySem.W.nsIn K mainGlobals "course_by" = some (some (.ref f7))) (l7 : K.lookup f7 = some ⟨oc7, od7, .func (PySem.W.fnOf "course_by" "course_by" (defArgs (top 10)) (defBody (top 10)) (defScope (top 10)) .none kV7 dc7 pm7 an7 cd7 ct7), sl7⟩) (c7 : PySem.W.codeIn K cd7 "course_by" = true) (k7 : PySem.W.keepIn K (.ref f7) = true)
    (a8 : PySem.W.nsIn K mainGlobals "course_of" = some (some (.ref f8))) (l8 : K.lookup f8 = some ⟨oc8, od8, .func (PySem.W.fnOf "course_of" "course_of" (defArgs (top 11)) (defBody (top 11)) (defScope (top 11)) .none kV8 dc8 pm8 an8 cd8 ct8), sl8⟩) (c8 : PySem.W.codeIn K cd8 "course_of" = true) (k8 : PySem.W.keepIn K (.ref f8) = true)
    (a9 : PySem.W.nsIn K mainGlobals "idle_state" = some (some (.ref f9))) (l9 : K.lookup f9 = some ⟨oc9, od9, .func (PySem.W.fnOf "idle_state" "idle_state" (defArgs (top 12)) (defBody (top 12)) (defScope (top 12)) .none kV9 dc9 pm9 an9 cd9 ct9), sl9⟩) (c9 : PySem.W.codeIn K cd9 "idle_state" = true) (k9 : PySem.W.keepIn K (.ref f9) = true)
    (a10 : PySem.W.nsIn K mainGlobals "lowered" = some (some (.ref f10))) (l10 : K.lookup f10 = some ⟨oc10, od10, .func (PySem.W.fnOf "lowered" "lowered" (defArgs (top 13)) (defBody (top 13)) (defScope (top 13)) .none kV10 dc10 pm10 an10 cd10 ct10), sl10⟩) (c10 : PySem.W.codeIn K cd10 "lowered" = true) (k10 : PySem.W.keepIn K (.ref f10) = true)
    (a11 : PySem.W.nsIn K mainGlobals "lifted" = some (some (.ref f11))) (l11 : K.lookup f11 = some ⟨oc11, od11, .func (PySem.W.fnOf "lifted" "lifted" (defArgs (top 14)) (defBody (top 14)) (defScope (top 14)) .none kV11 dc11 pm11 an11 cd11 ct11), sl11⟩) (c11 : PySem.W.codeIn K cd11 "lifted" = true) (k11 : PySem.W.keepIn K (.ref f11) = true)
    (a12 : PySem.W.nsIn K mainGlobals "letters_told" = some (some (.ref f12))) (l12 : K.lookup f12 = some ⟨oc12, od12, .func (PySem.W.fnOf "letters_told" "letters_told" (defArgs (top 15)) (defBody (top 15)) (defScope (top 15)) .none kV12 dc12 pm12 an12 cd12 ct12), sl12⟩) (c12 : PySem.W.codeIn K cd12 "letters_told" = true) (k12 : PySem.W.keepIn K (.ref f12) = true)
    (a13 : PySem.W.nsIn K mainGlobals "call_passed" = some (some (.ref f13))) (l13 : K.lookup f13 = some ⟨oc13, od13, .func (PySem.W.fnOf "call_passed" "call_passed" (defArgs (top 16)) (defBody (top 16)) (defScope (top 16)) .none kV13 dc13 pm13 an13 cd13 ct13), sl13⟩) (c13 : PySem.W.codeIn K cd13 "call_passed" = true) (k13 : PySem.W.keepIn K (.ref f13) = true)
    (a14 : PySem.W.nsIn K mainGlobals "burst_ticks" = some (some (.ref f14))) (l14 : K.lookup f14 = some ⟨oc14, od14, .func (PySem.W.fnOf "burst_ticks" "burst_ticks" (defArgs (top 17)) (defBody (top 17)) (defScope (top 17)) .none kV14 dc14 pm14 an14 cd14 ct14), sl14⟩) (c14 : PySem.W.codeIn K cd14 "burst_ticks" = true) (k14 : PySem.W.keepIn K (.ref f14) = true)
    (a15 : PySem.W.nsIn K mainGlobals "burst" = some (some (.ref f15))) (l15 : K.lookup f15 = some ⟨oc15, od15, .func (PySem.W.fnOf "burst" "burst" (defArgs (top 19)) (defBody (top 19)) (defScope (top 19)) .none kV15 dc15 pm15 an15 cd15 ct15), sl15⟩) (c15 : PySem.W.codeIn K cd15 "burst" = true) (k15 : PySem.W.keepIn K (.ref f15) = true)
    (a16 : PySem.W.nsIn K mainGlobals "_law_bag" = some (some (.ref f16))) (l16 : K.lookup f16 = some ⟨oc16, od16, .func (PySem.W.fnOf "_law_bag" "_law_bag" (defArgs (top 21)) (defBody (top 21)) (defScope (top 21)) .none kV16 dc16 pm16 an16 cd16 ct16), sl16⟩) (c16 : PySem.W.codeIn K cd16 "_law_bag" = true) (k16 : PySem.W.keepIn K (.ref f16) = true)
    (a17 : PySem.W.nsIn K mainGlobals "_law_draw" = some (some (.ref f17))) (l17 : K.lookup f17 = some ⟨oc17, od17, .func (PySem.W.fnOf "_law_draw" "_law_draw" (defArgs (top 22)) (defBody (top 22)) (defScope (top 22)) .none kV17 dc17 pm17 an17 cd17 ct17), sl17⟩) (c17 : PySem.W.codeIn K cd17 "_law_draw" = true) (k17 : PySem.W.keepIn K (.ref f17) = true)
    (a18 : PySem.W.nsIn K mainGlobals "_law_pick" = some (some (.ref f18))) (l18 : K.lookup f18 = some ⟨oc18, od18, .func (PySem.W.fnOf "_law_pick" "_law_pick" (defArgs (top 23)) (defBody (top 23)) (defScope (top 23)) .none kV18 dc18 pm18 an18 cd18 ct18), sl18⟩) (c18 : PySem.W.codeIn K cd18 "_law_pick" = true) (k18 : PySem.W.keepIn K (.ref f18) = true)
    (a19 : PySem.W.nsIn K mainGlobals "_law_some" = some (some (.ref f19))) (l19 : K.lookup f19 = some ⟨oc19, od19, .func (PySem.W.fnOf "_law_some" "_law_some" (defArgs (top 24)) (defBody (top 24)) (defScope (top 24)) .none kV19 dc19 pm19 an19 cd19 ct19), sl19⟩) (c19 : PySem.W.codeIn K cd19 "_law_some" = true) (k19 : PySem.W.keepIn K (.ref f19) = true)
    (a20 : PySem.W.nsIn K mainGlobals "_law_same" = some (some (.ref f20))) (l20 : K.lookup f20 = some ⟨oc20, od20, .func (PySem.W.fnOf "_law_same" "_law_same" (defArgs (top 25)) (defBody (top 25)) (defScope (top 25)) .none kV20 dc20 pm20 an20 cd20 ct20), sl20⟩) (c20 : PySem.W.codeIn K cd20 "_law_same" = true) (k20 : PySem.W.keepIn K (.ref f20) = true)
    (a21 : PySem.W.nsIn K mainGlobals "_law_draw_road" = some (some (.ref f21))) (l21 : K.lookup f21 = some ⟨oc21, od21, .func (PySem.W.fnOf "_law_draw_road" "_law_draw_road" (defArgs (top 26)) (defBody (top 26)) (defScope (top 26)) .none kV21 dc21 pm21 an21 cd21 ct21), sl21⟩) (c21 : PySem.W.codeIn K cd21 "_law_draw_road" = true) (k21 : PySem.W.keepIn K (.ref f21) = true)
    (a22 : PySem.W.nsIn K mainGlobals "_law_slot" = some (some (.ref f22))) (l22 : K.lookup f22 = some ⟨oc22, od22, .func (PySem.W.fnOf "_law_slot" "_law_slot" (defArgs (top 27)) (defBody (top 27)) (defScope (top 27)) .none kV22 dc22 pm22 an22 cd22 ct22), sl22⟩) (c22 : PySem.W.codeIn K cd22 "_law_slot" = true) (k22 : PySem.W.keepIn K (.ref f22) = true)
    (a23 : PySem.W.nsIn K mainGlobals "_law_by_fate" = some (some (.ref f23))) (l23 : K.lookup f23 = some ⟨oc23, od23, .func (PySem.W.fnOf "_law_by_fate" "_law_by_fate" (defArgs (top 28)) (defBody (top 28)) (defScope (top 28)) .none kV23 dc23 pm23 an23 cd23 ct23), sl23⟩) (c23 : PySem.W.codeIn K cd23 "_law_by_fate" = true) (k23 : PySem.W.keepIn K (.ref f23) = true)
    (a24 : PySem.W.nsIn K mainGlobals "_law_outcome" = some (some (.ref f24))) (l24 : K.lookup f24 = some ⟨oc24, od24, .func (PySem.W.fnOf "_law_outcome" "_law_outcome" (defArgs (top 29)) (defBody (top 29)) (defScope (top 29)) .none kV24 dc24 pm24 an24 cd24 ct24), sl24⟩) (c24 : PySem.W.codeIn K cd24 "_law_outcome" = true) (k24 : PySem.W.keepIn K (.ref f24) = true)
    (a25 : PySem.W.nsIn K mainGlobals "_law_line" = some (some (.ref f25))) (l25 : K.lookup f25 = some ⟨oc25, od25, .func (PySem.W.fnOf "_law_line" "_law_line" (defArgs (top 30)) (defBody (top 30)) (defScope (top 30)) .none kV25 dc25 pm25 an25 cd25 ct25), sl25⟩) (c25 : PySem.W.codeIn K cd25 "_law_line" = true) (k25 : PySem.W.keepIn K (.ref f25) = true)
    (a26 : PySem.W.nsIn K mainGlobals "_law_goes" = some (some (.ref f26))) (l26 : K.lookup f26 = some ⟨oc26, od26, .func (PySem.W.fnOf "_law_goes" "_law_goes" (defArgs (top 31)) (defBody (top 31)) (defScope (top 31)) .none kV26 dc26 pm26 an26 cd26 ct26), sl26⟩) (c26 : PySem.W.codeIn K cd26 "_law_goes" = true) (k26 : PySem.W.keepIn K (.ref f26) = true)
    (a27 : PySem.W.nsIn K mainGlobals "_law_caller_times" = some (some (.ref f27))) (l27 : K.lookup f27 = some ⟨oc27, od27, .func (PySem.W.fnOf "_law_caller_times" "_law_caller_times" (defArgs (top 32)) (defBody (top 32)) (defScope (top 32)) .none kV27 dc27 pm27 an27 cd27 ct27), sl27⟩) (c27 : PySem.W.codeIn K cd27 "_law_caller_times" = true) (k27 : PySem.W.keepIn K (.ref f27) = true)
    (a28 : PySem.W.nsIn K mainGlobals "_law_small_caller" = some (some (.ref f28))) (l28 : K.lookup f28 = some ⟨oc28, od28, .func (PySem.W.fnOf "_law_small_caller" "_law_small_caller" (defArgs (top 33)) (defBody (top 33)) (defScope (top 33)) .none kV28 dc28 pm28 an28 cd28 ct28), sl28⟩) (c28 : PySem.W.codeIn K cd28 "_law_small_caller" = true) (k28 : PySem.W.keepIn K (.ref f28) = true)
    (a29 : PySem.W.nsIn K mainGlobals "_law_gcd" = some (some (.ref f29))) (l29 : K.lookup f29 = some ⟨oc29, od29, .func (PySem.W.fnOf "_law_gcd" "_law_gcd" (defArgs (top 34)) (defBody (top 34)) (defScope (top 34)) .none kV29 dc29 pm29 an29 cd29 ct29), sl29⟩) (c29 : PySem.W.codeIn K cd29 "_law_gcd" = true) (k29 : PySem.W.keepIn K (.ref f29) = true)
    (a30 : PySem.W.nsIn K mainGlobals "_law_lcm" = some (some (.ref f30))) (l30 : K.lookup f30 = some ⟨oc30, od30, .func (PySem.W.fnOf "_law_lcm" "_law_lcm" (defArgs (top 35)) (defBody (top 35)) (defScope (top 35)) .none kV30 dc30 pm30 an30 cd30 ct30), sl30⟩) (c30 : PySem.W.codeIn K cd30 "_law_lcm" = true) (k30 : PySem.W.keepIn K (.ref f30) = true)
    (a31 : PySem.W.nsIn K mainGlobals "_law_turns_of" = some (some (.ref f31))) (l31 : K.lookup f31 = some ⟨oc31, od31, .func (PySem.W.fnOf "_law_turns_of" "_law_turns_of" (defArgs (top 36)) (defBody (top 36)) (defScope (top 36)) .none kV31 dc31 pm31 an31 cd31 ct31), sl31⟩) (c31 : PySem.W.codeIn K cd31 "_law_turns_of" = true) (k31 : PySem.W.keepIn K (.ref f31) = true)
    (a32 : PySem.W.nsIn K mainGlobals "_law_burst" = some (some (.ref f32))) (l32 : K.lookup f32 = some ⟨oc32, od32, .func (PySem.W.fnOf "_law_burst" "_law_burst" (defArgs (top 37)) (defBody (top 37)) (defScope (top 37)) .none kV32 dc32 pm32 an32 cd32 ct32), sl32⟩) (c32 : PySem.W.codeIn K cd32 "_law_burst" = true) (k32 : PySem.W.keepIn K (.ref f32) = true)
    (a33 : PySem.W.nsIn K mainGlobals "_law_great_caller" = some (some (.ref f33))) (l33 : K.lookup f33 = some ⟨oc33, od33, .func (PySem.W.fnOf "_law_great_caller" "_law_great_caller" (defArgs (top 38)) (defBody (top 38)) (defScope (top 38)) .none kV33 dc33 pm33 an33 cd33 ct33), sl33⟩) (c33 : PySem.W.codeIn K cd33 "_law_great_caller" = true) (k33 : PySem.W.keepIn K (.ref f33) = true)
    (a34 : PySem.W.nsIn K mainGlobals "law" = some (some (.ref f34))) (l34 : K.lookup f34 = some ⟨oc34, od34, .func (PySem.W.fnOf "law" "law" (defArgs (top 39)) (defBody (top 39)) (defScope (top 39)) .none kV34 dc34 pm34 an34 cd34 ct34), sl34⟩) (c34 : PySem.W.codeIn K cd34 "law" = true) (k34 : PySem.W.keepIn K (.ref f34) = true)
    (a35 : PySem.W.findIn K (.ref pC0) "__init__" = some (some (.ref f35))) (i35 : PySem.W.isFn K (.ref f35) = true) (l35 : K.lookup f35 = some ⟨oc35, od35, .func (PySem.W.fnOf "__init__" "Course.__init__" (defArgs (inClass (top 9) 0)) (defBody (inClass (top 9) 0)) (defScope (inClass (top 9) 0)) .none kV35 dc35 pm35 an35 cd35 ct35), sl35⟩) (c35 : PySem.W.codeIn K cd35 "Course.__init__" = true) (k35 : PySem.W.keepIn K (.ref f35) = true)
    (z0 : PySem.W.nsIn K mainGlobals "len" = some none)
    (z1 : PySem.W.nsIn K mainGlobals "int" = some none)
    (z2 : PySem.W.nsIn K mainGlobals "abs" = some none)
    (z3 : PySem.W.nsIn K mainGlobals "max" = some none)
    (z4 : PySem.W.nsIn K mainGlobals "min" = some none)
    (z5 : PySem.W.nsIn K mainGlobals "sum" = some none)
    (z6 : PySem.W.nsIn K mainGlobals "tuple" = some none)
    (z7 : PySem.W.nsIn K mainGlobals "list" = some none)
    (z8 : PySem.W.nsIn K mainGlobals "isinstance" = some none)
    (z9 : PySem.W.nsIn K mainGlobals "range" = some none)
    (z10 : PySem.W.nsIn K mainGlobals "enumerate" = some none)
    (z11 : PySem.W.nsIn K mainGlobals "bool" = some none)
    (z12 : PySem.W.nsIn K mainGlobals "str" = some none)
    (z13 : PySem.W.nsIn K mainGlobals "sorted" = some none)
    : ∃ (fd : FuncData) (cs : List (Addr × Addr)), (∀ p ∈ cs, K.lookup p.2 = none ∧ PySem.W.CodeHd h p.1 p.2 ∧ h.get? p.2 = some (PySem.W.tabObj #[])) ∧ (∀ (s : Shared) (v : Value), BindsTo s fd ⟨[v], []⟩ [("script", v)]) ∧ ∀ base : Heap, K.In base → base.Ns mainGlobals mg → (∀ p ∈ cs, LamX.TabB base mg p.1 p.2) → FnOk l.prog w K mg base CX0 k fa fd ["script"] (spLaw cs K) := by
  have hNF : ∀ fl ∈ allF, ∀ q ∈ ((⟨[], [(("Course" : Str), pC0)]⟩ : TabL)).cls, NoAttr K q.2 fl := by
    intro fl h q hq
    have hq : q ∈ ([(("Course" : Str), pC0)] : List (Str × Addr)) := hq
    have h : fl ∈ (["room", "span", "cycle", "lags", "slots", "wheels", "sizes", "tells", "comes", "turn", "ring"] : List Str) := h
    simp only [List.mem_cons, List.not_mem_nil, or_false] at hq h
    rcases hq with rfl
    · rcases h with rfl | rfl | rfl | rfl | rfl | rfl | rfl | rfl | rfl | rfl | rfl
      · exact nf0_0
      · exact nf0_1
      · exact nf0_2
      · exact nf0_3
      · exact nf0_4
      · exact nf0_5
      · exact nf0_6
      · exact nf0_7
      · exact nf0_8
      · exact nf0_9
      · exact nf0_10
  have F0 : FnAt (⟨[], [(("Course" : Str), pC0)]⟩ : TabL) [] K dfP f_next_slot f0 (PySem.W.fnOf "next_slot" "next_slot" (defArgs (top 1)) (defBody (top 1)) (defScope (top 1)) .none kV0 dc0 pm0 an0 cd0 ct0) := by
    refine ⟨⟨"next_slot", "next_slot", (top 1), N_next_slot, fun_mk (st := (top 1)) l0 c0 k0, sc_next_slot, rfl, c_next_slot, fun mk hm hN => by rcases hm with e | e <;> subst e <;> exact absurd hN (by decide +kernel), fun fl h q hq => hNF fl (sub_mem af_next_slot (fld_mem h)) q hq⟩, fun i ks h us ws rs s hu hw hb KI => ?_⟩
    have h : (i, ks) ∈ ([(3, [])] : List (Nat × List Str)) := h
    simp only [List.mem_cons, List.not_mem_nil, or_false, Prod.mk.injEq] at h
    rcases h with ⟨rfl, rfl⟩
    · match us, ws, hu, hw, hb with
      | [u0, u1, u2], [], _, _, hb =>
        have e : some ([u0, u1, u2] : List Value) = some rs := hb
        cases e
        exact ⟨rfl, .of_eq rfl⟩
  have F1 : FnAt (⟨[], [(("Course" : Str), pC0)]⟩ : TabL) [] K dfP f_delays_of f1 (PySem.W.fnOf "delays_of" "delays_of" (defArgs (top 2)) (defBody (top 2)) (defScope (top 2)) .none kV1 dc1 pm1 an1 cd1 ct1) := by
    refine ⟨⟨"delays_of", "delays_of", (top 2), N_delays_of, fun_mk (st := (top 2)) l1 c1 k1, sc_delays_of, rfl, c_delays_of, fun mk hm hN => by rcases hm with e | e <;> subst e <;> exact absurd hN (by decide +kernel), fun fl h q hq => hNF fl (sub_mem af_delays_of (fld_mem h)) q hq⟩, fun i ks h us ws rs s hu hw hb KI => ?_⟩
    have h : (i, ks) ∈ ([(2, [])] : List (Nat × List Str)) := h
    simp only [List.mem_cons, List.not_mem_nil, or_false, Prod.mk.injEq] at h
    rcases h with ⟨rfl, rfl⟩
    · match us, ws, hu, hw, hb with
      | [u0, u1], [], _, _, hb =>
        have e : some ([u0, u1] : List Value) = some rs := hb
        cases e
        exact ⟨rfl, .of_eq rfl⟩
  have F2 : FnAt (⟨[], [(("Course" : Str), pC0)]⟩ : TabL) [] K dfP f_quick_trip f2 (PySem.W.fnOf "quick_trip" "quick_trip" (defArgs (top 3)) (defBody (top 3)) (defScope (top 3)) .none kV2 dc2 pm2 an2 cd2 ct2) := by
    refine ⟨⟨"quick_trip", "quick_trip", (top 3), N_quick_trip, fun_mk (st := (top 3)) l2 c2 k2, sc_quick_trip, rfl, c_quick_trip, fun mk hm hN => by rcases hm with e | e <;> subst e <;> exact absurd hN (by decide +kernel), fun fl h q hq => hNF fl (sub_mem af_quick_trip (fld_mem h)) q hq⟩, fun i ks h us ws rs s hu hw hb KI => ?_⟩
    have h : (i, ks) ∈ ([(1, [])] : List (Nat × List Str)) := h
    simp only [List.mem_cons, List.not_mem_nil, or_false, Prod.mk.injEq] at h
    rcases h with ⟨rfl, rfl⟩
    · match us, ws, hu, hw, hb with
      | [u0], [], _, _, hb =>
        have e : some ([u0] : List Value) = some rs := hb
        cases e
        exact ⟨rfl, .of_eq rfl⟩
  have F3 : FnAt (⟨[], [(("Course" : Str), pC0)]⟩ : TabL) [] K dfP f_slow_trip f3 (PySem.W.fnOf "slow_trip" "slow_trip" (defArgs (top 4)) (defBody (top 4)) (defScope (top 4)) .none kV3 dc3 pm3 an3 cd3 ct3) := by
    refine ⟨⟨"slow_trip", "slow_trip", (top 4), N_slow_trip, fun_mk (st := (top 4)) l3 c3 k3, sc_slow_trip, rfl, c_slow_trip, fun mk hm hN => by rcases hm with e | e <;> subst e <;> exact absurd hN (by decide +kernel), fun fl h q hq => hNF fl (sub_mem af_slow_trip (fld_mem h)) q hq⟩, fun i ks h us ws rs s hu hw hb KI => ?_⟩
    have h : (i, ks) ∈ ([(1, [])] : List (Nat × List Str)) := h
    simp only [List.mem_cons, List.not_mem_nil, or_false, Prod.mk.injEq] at h
    rcases h with ⟨rfl, rfl⟩
    · match us, ws, hu, hw, hb with
      | [u0], [], _, _, hb =>
        have e : some ([u0] : List Value) = some rs := hb
        cases e
        exact ⟨rfl, .of_eq rfl⟩
  have F4 : FnAt (⟨[], [(("Course" : Str), pC0)]⟩ : TabL) [] K dfP f_divisor_of f4 (PySem.W.fnOf "divisor_of" "divisor_of" (defArgs (top 6)) (defBody (top 6)) (defScope (top 6)) .none kV4 dc4 pm4 an4 cd4 ct4) := by
    refine ⟨⟨"divisor_of", "divisor_of", (top 6), N_divisor_of, fun_mk (st := (top 6)) l4 c4 k4, sc_divisor_of, rfl, c_divisor_of, fun mk hm hN => by rcases hm with e | e <;> subst e <;> exact absurd hN (by decide +kernel), fun fl h q hq => hNF fl (sub_mem af_divisor_of (fld_mem h)) q hq⟩, fun i ks h us ws rs s hu hw hb KI => ?_⟩
    have h : (i, ks) ∈ ([(2, [])] : List (Nat × List Str)) := h
    simp only [List.mem_cons, List.not_mem_nil, or_false, Prod.mk.injEq] at h
    rcases h with ⟨rfl, rfl⟩
    · match us, ws, hu, hw, hb with
      | [u0, u1], [], _, _, hb =>
        have e : some ([u0, u1] : List Value) = some rs := hb
        cases e
        exact ⟨rfl, .of_eq rfl⟩
  have F5 : FnAt (⟨[], [(("Course" : Str), pC0)]⟩ : TabL) [] K dfP f_multiple_of f5 (PySem.W.fnOf "multiple_of" "multiple_of" (defArgs (top 7)) (defBody (top 7)) (defScope (top 7)) .none kV5 dc5 pm5 an5 cd5 ct5) := by
    refine ⟨⟨"multiple_of", "multiple_of", (top 7), N_multiple_of, fun_mk (st := (top 7)) l5 c5 k5, sc_multiple_of, rfl, c_multiple_of, fun mk hm hN => by rcases hm with e | e <;> subst e <;> exact absurd hN (by decide +kernel), fun fl h q hq => hNF fl (sub_mem af_multiple_of (fld_mem h)) q hq⟩, fun i ks h us ws rs s hu hw hb KI => ?_⟩
    have h : (i, ks) ∈ ([(2, [])] : List (Nat × List Str)) := h
    simp only [List.mem_cons, List.not_mem_nil, or_false, Prod.mk.injEq] at h
    rcases h with ⟨rfl, rfl⟩
    · match us, ws, hu, hw, hb with
      | [u0, u1], [], _, _, hb =>
        have e : some ([u0, u1] : List Value) = some rs := hb
        cases e
        exact ⟨rfl, .of_eq rfl⟩
  have F6 : FnAt (⟨[], [(("Course" : Str), pC0)]⟩ : TabL) [] K dfP f_turns_of f6 (PySem.W.fnOf "turns_of" "turns_of" (defArgs (top 8)) (defBody (top 8)) (defScope (top 8)) .none kV6 dc6 pm6 an6 cd6 ct6) := by
    refine ⟨⟨"turns_of", "turns_of", (top 8), N_turns_of, fun_mk (st := (top 8)) l6 c6 k6, sc_turns_of, rfl, c_turns_of, fun mk hm hN => by rcases hm with e | e <;> subst e <;> exact absurd hN (by decide +kernel), fun fl h q hq => hNF fl (sub_mem af_turns_of (fld_mem h)) q hq⟩, fun i ks h us ws rs s hu hw hb KI => ?_⟩
    have h : (i, ks) ∈ ([(2, [])] : List (Nat × List Str)) := h
    simp only [List.mem_cons, List.not_mem_nil, or_false, Prod.mk.injEq] at h
    rcases h with ⟨rfl, rfl⟩
    · match us, ws, hu, hw, hb with
      | [u0, u1], [], _, _, hb =>
        have e : some ([u0, u1] : List Value) = some rs := hb
        cases e
        exact ⟨rfl, .of_eq rfl⟩
  have F7 : FnAt (⟨[], [(("Course" : Str), pC0)]⟩ : TabL) [] K dfP f_course_by f7 (PySem.W.fnOf "course_by" "course_by" (defArgs (top 10)) (defBody (top 10)) (defScope (top 10)) .none kV7 dc7 pm7 an7 cd7 ct7) := by
    refine ⟨⟨"course_by", "course_by", (top 10), N_course_by, fun_mk (st := (top 10)) l7 c7 k7, sc_course_by, rfl, c_course_by, fun mk hm hN => by rcases hm with e | e <;> subst e <;> exact absurd hN (by decide +kernel), fun fl h q hq => hNF fl (sub_mem af_course_by (fld_mem h)) q hq⟩, fun i ks h us ws rs s hu hw hb KI => ?_⟩
    have h : (i, ks) ∈ ([(4, [])] : List (Nat × List Str)) := h
    simp only [List.mem_cons, List.not_mem_nil, or_false, Prod.mk.injEq] at h
    rcases h with ⟨rfl, rfl⟩
    · match us, ws, hu, hw, hb with
      | [u0, u1, u2, u3], [], _, _, hb =>
        have e : some ([u0, u1, u2, u3] : List Value) = some rs := hb
        cases e
        exact ⟨rfl, .of_eq rfl⟩
  have F8 : FnAt (⟨[], [(("Course" : Str), pC0)]⟩ : TabL) [] K dfP f_course_of f8 (PySem.W.fnOf "course_of" "course_of" (defArgs (top 11)) (defBody (top 11)) (defScope (top 11)) .none kV8 dc8 pm8 an8 cd8 ct8) := by
    refine ⟨⟨"course_of", "course_of", (top 11), N_course_of, fun_mk (st := (top 11)) l8 c8 k8, sc_course_of, rfl, c_course_of, fun mk hm hN => by rcases hm with e | e <;> subst e <;> exact absurd hN (by decide +kernel), fun fl h q hq => hNF fl (sub_mem af_course_of (fld_mem h)) q hq⟩, fun i ks h us ws rs s hu hw hb KI => ?_⟩
    have h : (i, ks) ∈ ([(4, [])] : List (Nat × List Str)) := h
    simp only [List.mem_cons, List.not_mem_nil, or_false, Prod.mk.injEq] at h
    rcases h with ⟨rfl, rfl⟩
    · match us, ws, hu, hw, hb with
      | [u0, u1, u2, u3], [], _, _, hb =>
        have e : some ([u0, u1, u2, u3] : List Value) = some rs := hb
        cases e
        exact ⟨rfl, .of_eq rfl⟩
  have F9 : FnAt (⟨[], [(("Course" : Str), pC0)]⟩ : TabL) [] K dfP f_idle_state f9 (PySem.W.fnOf "idle_state" "idle_state" (defArgs (top 12)) (defBody (top 12)) (defScope (top 12)) .none kV9 dc9 pm9 an9 cd9 ct9) := by
    refine ⟨⟨"idle_state", "idle_state", (top 12), N_idle_state, fun_mk (st := (top 12)) l9 c9 k9, sc_idle_state, rfl, c_idle_state, fun mk hm hN => by rcases hm with e | e <;> subst e <;> exact absurd hN (by decide +kernel), fun fl h q hq => hNF fl (sub_mem af_idle_state (fld_mem h)) q hq⟩, fun i ks h us ws rs s hu hw hb KI => ?_⟩
    have h : (i, ks) ∈ ([(3, [])] : List (Nat × List Str)) := h
    simp only [List.mem_cons, List.not_mem_nil, or_false, Prod.mk.injEq] at h
    rcases h with ⟨rfl, rfl⟩
    · match us, ws, hu, hw, hb with
      | [u0, u1, u2], [], _, _, hb =>
        have e : some ([u0, u1, u2] : List Value) = some rs := hb
        cases e
        exact ⟨rfl, .of_eq rfl⟩
  have F10 : FnAt (⟨[], [(("Course" : Str), pC0)]⟩ : TabL) [] K dfP f_lowered f10 (PySem.W.fnOf "lowered" "lowered" (defArgs (top 13)) (defBody (top 13)) (defScope (top 13)) .none kV10 dc10 pm10 an10 cd10 ct10) := by
    refine ⟨⟨"lowered", "lowered", (top 13), N_lowered, fun_mk (st := (top 13)) l10 c10 k10, sc_lowered, rfl, c_lowered, fun mk hm hN => by rcases hm with e | e <;> subst e <;> exact absurd hN (by decide +kernel), fun fl h q hq => hNF fl (sub_mem af_lowered (fld_mem h)) q hq⟩, fun i ks h us ws rs s hu hw hb KI => ?_⟩
    have h : (i, ks) ∈ ([(3, [])] : List (Nat × List Str)) := h
    simp only [List.mem_cons, List.not_mem_nil, or_false, Prod.mk.injEq] at h
    rcases h with ⟨rfl, rfl⟩
    · match us, ws, hu, hw, hb with
      | [u0, u1, u2], [], _, _, hb =>
        have e : some ([u0, u1, u2] : List Value) = some rs := hb
        cases e
        exact ⟨rfl, .of_eq rfl⟩
  have F11 : FnAt (⟨[], [(("Course" : Str), pC0)]⟩ : TabL) [] K dfP f_lifted f11 (PySem.W.fnOf "lifted" "lifted" (defArgs (top 14)) (defBody (top 14)) (defScope (top 14)) .none kV11 dc11 pm11 an11 cd11 ct11) := by
    refine ⟨⟨"lifted", "lifted", (top 14), N_lifted, fun_mk (st := (top 14)) l11 c11 k11, sc_lifted, rfl, c_lifted, fun mk hm hN => by rcases hm with e | e <;> subst e <;> exact absurd hN (by decide +kernel), fun fl h q hq => hNF fl (sub_mem af_lifted (fld_mem h)) q hq⟩, fun i ks h us ws rs s hu hw hb KI => ?_⟩
    have h : (i, ks) ∈ ([(3, [])] : List (Nat × List Str)) := h
    simp only [List.mem_cons, List.not_mem_nil, or_false, Prod.mk.injEq] at h
    rcases h with ⟨rfl, rfl⟩
    · match us, ws, hu, hw, hb with
      | [u0, u1, u2], [], _, _, hb =>
        have e : some ([u0, u1, u2] : List Value) = some rs := hb
        cases e
        exact ⟨rfl, .of_eq rfl⟩
  have F12 : FnAt (⟨[], [(("Course" : Str), pC0)]⟩ : TabL) [] K dfP f_letters_told f12 (PySem.W.fnOf "letters_told" "letters_told" (defArgs (top 15)) (defBody (top 15)) (defScope (top 15)) .none kV12 dc12 pm12 an12 cd12 ct12) := by
    refine ⟨⟨"letters_told", "letters_told", (top 15), N_letters_told, fun_mk (st := (top 15)) l12 c12 k12, sc_letters_told, rfl, c_letters_told, fun mk hm hN => by rcases hm with e | e <;> subst e <;> exact absurd hN (by decide +kernel), fun fl h q hq => hNF fl (sub_mem af_letters_told (fld_mem h)) q hq⟩, fun i ks h us ws rs s hu hw hb KI => ?_⟩
    have h : (i, ks) ∈ ([(6, [])] : List (Nat × List Str)) := h
    simp only [List.mem_cons, List.not_mem_nil, or_false, Prod.mk.injEq] at h
    rcases h with ⟨rfl, rfl⟩
    · match us, ws, hu, hw, hb with
      | [u0, u1, u2, u3, u4, u5], [], _, _, hb =>
        have e : some ([u0, u1, u2, u3, u4, u5] : List Value) = some rs := hb
        cases e
        exact ⟨rfl, .of_eq rfl⟩
  have F13 : FnAt (⟨[], [(("Course" : Str), pC0)]⟩ : TabL) [] K dfP f_call_passed f13 (PySem.W.fnOf "call_passed" "call_passed" (defArgs (top 16)) (defBody (top 16)) (defScope (top 16)) .none kV13 dc13 pm13 an13 cd13 ct13) := by
    refine ⟨⟨"call_passed", "call_passed", (top 16), N_call_passed, fun_mk (st := (top 16)) l13 c13 k13, sc_call_passed, rfl, c_call_passed, fun mk hm hN => by rcases hm with e | e <;> subst e <;> exact absurd hN (by decide +kernel), fun fl h q hq => hNF fl (sub_mem af_call_passed (fld_mem h)) q hq⟩, fun i ks h us ws rs s hu hw hb KI => ?_⟩
    have h : (i, ks) ∈ ([(2, [])] : List (Nat × List Str)) := h
    simp only [List.mem_cons, List.not_mem_nil, or_false, Prod.mk.injEq] at h
    rcases h with ⟨rfl, rfl⟩
    · match us, ws, hu, hw, hb with
      | [u0, u1], [], _, _, hb =>
        have e : some ([u0, u1] : List Value) = some rs := hb
        cases e
        exact ⟨rfl, .of_eq rfl⟩
  have F14 : FnAt (⟨[], [(("Course" : Str), pC0)]⟩ : TabL) [] K dfP f_burst_ticks f14 (PySem.W.fnOf "burst_ticks" "burst_ticks" (defArgs (top 17)) (defBody (top 17)) (defScope (top 17)) .none kV14 dc14 pm14 an14 cd14 ct14) := by
    refine ⟨⟨"burst_ticks", "burst_ticks", (top 17), N_burst_ticks, fun_mk (st := (top 17)) l14 c14 k14, sc_burst_ticks, rfl, c_burst_ticks, fun mk hm hN => by rcases hm with e | e <;> subst e <;> exact absurd hN (by decide +kernel), fun fl h q hq => hNF fl (sub_mem af_burst_ticks (fld_mem h)) q hq⟩, fun i ks h us ws rs s hu hw hb KI => ?_⟩
    have h : (i, ks) ∈ ([(4, [])] : List (Nat × List Str)) := h
    simp only [List.mem_cons, List.not_mem_nil, or_false, Prod.mk.injEq] at h
    rcases h with ⟨rfl, rfl⟩
    · match us, ws, hu, hw, hb with
      | [u0, u1, u2, u3], [], _, _, hb =>
        have e : some ([u0, u1, u2, u3] : List Value) = some rs := hb
        cases e
        exact ⟨rfl, .of_eq rfl⟩
  have F15 : FnAt (⟨[], [(("Course" : Str), pC0)]⟩ : TabL) [] K dfP f_burst f15 (PySem.W.fnOf "burst" "burst" (defArgs (top 19)) (defBody (top 19)) (defScope (top 19)) .none kV15 dc15 pm15 an15 cd15 ct15) := by
    refine ⟨⟨"burst", "burst", (top 19), N_burst, fun_mk (st := (top 19)) l15 c15 k15, sc_burst, rfl, c_burst, fun mk hm hN => by rcases hm with e | e <;> subst e <;> exact absurd hN (by decide +kernel), fun fl h q hq => hNF fl (sub_mem af_burst (fld_mem h)) q hq⟩, fun i ks h us ws rs s hu hw hb KI => ?_⟩
    have h : (i, ks) ∈ ([(6, []), (0, ["first", "start", "many", "caller", "bounds", "design"])] : List (Nat × List Str)) := h
    simp only [List.mem_cons, List.not_mem_nil, or_false, Prod.mk.injEq] at h
    rcases h with ⟨rfl, rfl⟩ | ⟨rfl, rfl⟩
    · match us, ws, hu, hw, hb with
      | [u0, u1, u2, u3, u4, u5], [], _, _, hb =>
        have e : some ([u0, u1, u2, u3, u4, u5] : List Value) = some rs := hb
        cases e
        exact ⟨rfl, .of_eq rfl⟩
    · match us, ws, hu, hw, hb with
      | [], [w0, w1, w2, w3, w4, w5], _, _, hb =>
        have e : some ([w5, w4, w3, w2, w1, w0] : List Value) = some rs := hb
        cases e
        exact ⟨rfl, .of_eq rfl⟩
  have F16 : FnAt (⟨[], [(("Course" : Str), pC0)]⟩ : TabL) [] K dfP f_l_bag f16 (PySem.W.fnOf "_law_bag" "_law_bag" (defArgs (top 21)) (defBody (top 21)) (defScope (top 21)) .none kV16 dc16 pm16 an16 cd16 ct16) := by
    refine ⟨⟨"_law_bag", "_law_bag", (top 21), N_l_bag, fun_mk (st := (top 21)) l16 c16 k16, sc_l_bag, rfl, c_l_bag, fun mk hm hN => by rcases hm with e | e <;> subst e <;> exact absurd hN (by decide +kernel), fun fl h q hq => hNF fl (sub_mem af_l_bag (fld_mem h)) q hq⟩, fun i ks h us ws rs s hu hw hb KI => ?_⟩
    have h : (i, ks) ∈ ([(1, [])] : List (Nat × List Str)) := h
    simp only [List.mem_cons, List.not_mem_nil, or_false, Prod.mk.injEq] at h
    rcases h with ⟨rfl, rfl⟩
    · match us, ws, hu, hw, hb with
      | [u0], [], _, _, hb =>
        have e : some ([u0] : List Value) = some rs := hb
        cases e
        exact ⟨rfl, .of_eq rfl⟩
  have F17 : FnAt (⟨[], [(("Course" : Str), pC0)]⟩ : TabL) [] K dfP f_l_draw f17 (PySem.W.fnOf "_law_draw" "_law_draw" (defArgs (top 22)) (defBody (top 22)) (defScope (top 22)) .none kV17 dc17 pm17 an17 cd17 ct17) := by
    refine ⟨⟨"_law_draw", "_law_draw", (top 22), N_l_draw, fun_mk (st := (top 22)) l17 c17 k17, sc_l_draw, rfl, c_l_draw, fun mk hm hN => by rcases hm with e | e <;> subst e <;> exact absurd hN (by decide +kernel), fun fl h q hq => hNF fl (sub_mem af_l_draw (fld_mem h)) q hq⟩, fun i ks h us ws rs s hu hw hb KI => ?_⟩
    have h : (i, ks) ∈ ([(2, [])] : List (Nat × List Str)) := h
    simp only [List.mem_cons, List.not_mem_nil, or_false, Prod.mk.injEq] at h
    rcases h with ⟨rfl, rfl⟩
    · match us, ws, hu, hw, hb with
      | [u0, u1], [], _, _, hb =>
        have e : some ([u0, u1] : List Value) = some rs := hb
        cases e
        exact ⟨rfl, .of_eq rfl⟩
  have F18 : FnAt (⟨[], [(("Course" : Str), pC0)]⟩ : TabL) [] K dfP f_l_pick f18 (PySem.W.fnOf "_law_pick" "_law_pick" (defArgs (top 23)) (defBody (top 23)) (defScope (top 23)) .none kV18 dc18 pm18 an18 cd18 ct18) := by
    refine ⟨⟨"_law_pick", "_law_pick", (top 23), N_l_pick, fun_mk (st := (top 23)) l18 c18 k18, sc_l_pick, rfl, c_l_pick, fun mk hm hN => by rcases hm with e | e <;> subst e <;> exact absurd hN (by decide +kernel), fun fl h q hq => hNF fl (sub_mem af_l_pick (fld_mem h)) q hq⟩, fun i ks h us ws rs s hu hw hb KI => ?_⟩
    have h : (i, ks) ∈ ([(2, [])] : List (Nat × List Str)) := h
    simp only [List.mem_cons, List.not_mem_nil, or_false, Prod.mk.injEq] at h
    rcases h with ⟨rfl, rfl⟩
    · match us, ws, hu, hw, hb with
      | [u0, u1], [], _, _, hb =>
        have e : some ([u0, u1] : List Value) = some rs := hb
        cases e
        exact ⟨rfl, .of_eq rfl⟩
  have F19 : FnAt (⟨[], [(("Course" : Str), pC0)]⟩ : TabL) [] K dfP f_l_some f19 (PySem.W.fnOf "_law_some" "_law_some" (defArgs (top 24)) (defBody (top 24)) (defScope (top 24)) .none kV19 dc19 pm19 an19 cd19 ct19) := by
    refine ⟨⟨"_law_some", "_law_some", (top 24), N_l_some, fun_mk (st := (top 24)) l19 c19 k19, sc_l_some, rfl, c_l_some, fun mk hm hN => by rcases hm with e | e <;> subst e <;> exact absurd hN (by decide +kernel), fun fl h q hq => hNF fl (sub_mem af_l_some (fld_mem h)) q hq⟩, fun i ks h us ws rs s hu hw hb KI => ?_⟩
    have h : (i, ks) ∈ ([(3, [])] : List (Nat × List Str)) := h
    simp only [List.mem_cons, List.not_mem_nil, or_false, Prod.mk.injEq] at h
    rcases h with ⟨rfl, rfl⟩
    · match us, ws, hu, hw, hb with
      | [u0, u1, u2], [], _, _, hb =>
        have e : some ([u0, u1, u2] : List Value) = some rs := hb
        cases e
        exact ⟨rfl, .of_eq rfl⟩
  have F20 : FnAt (⟨[], [(("Course" : Str), pC0)]⟩ : TabL) [] K dfP f_l_same f20 (PySem.W.fnOf "_law_same" "_law_same" (defArgs (top 25)) (defBody (top 25)) (defScope (top 25)) .none kV20 dc20 pm20 an20 cd20 ct20) := by
    refine ⟨⟨"_law_same", "_law_same", (top 25), N_l_same, fun_mk (st := (top 25)) l20 c20 k20, sc_l_same, rfl, c_l_same, fun mk hm hN => by rcases hm with e | e <;> subst e <;> exact absurd hN (by decide +kernel), fun fl h q hq => hNF fl (sub_mem af_l_same (fld_mem h)) q hq⟩, fun i ks h us ws rs s hu hw hb KI => ?_⟩
    have h : (i, ks) ∈ ([(2, [])] : List (Nat × List Str)) := h
    simp only [List.mem_cons, List.not_mem_nil, or_false, Prod.mk.injEq] at h
    rcases h with ⟨rfl, rfl⟩
    · match us, ws, hu, hw, hb with
      | [u0, u1], [], _, _, hb =>
        have e : some ([u0, u1] : List Value) = some rs := hb
        cases e
        exact ⟨rfl, .of_eq rfl⟩
  have F21 : FnAt (⟨[], [(("Course" : Str), pC0)]⟩ : TabL) [] K dfP f_l_draw_road f21 (PySem.W.fnOf "_law_draw_road" "_law_draw_road" (defArgs (top 26)) (defBody (top 26)) (defScope (top 26)) .none kV21 dc21 pm21 an21 cd21 ct21) := by
    refine ⟨⟨"_law_draw_road", "_law_draw_road", (top 26), N_l_draw_road, fun_mk (st := (top 26)) l21 c21 k21, sc_l_draw_road, rfl, c_l_draw_road, fun mk hm hN => by rcases hm with e | e <;> subst e <;> exact absurd hN (by decide +kernel), fun fl h q hq => hNF fl (sub_mem af_l_draw_road (fld_mem h)) q hq⟩, fun i ks h us ws rs s hu hw hb KI => ?_⟩
    have h : (i, ks) ∈ ([(2, [])] : List (Nat × List Str)) := h
    simp only [List.mem_cons, List.not_mem_nil, or_false, Prod.mk.injEq] at h
    rcases h with ⟨rfl, rfl⟩
    · match us, ws, hu, hw, hb with
      | [u0, u1], [], _, _, hb =>
        have e : some ([u0, u1] : List Value) = some rs := hb
        cases e
        exact ⟨rfl, .of_eq rfl⟩
  have F22 : FnAt (⟨[], [(("Course" : Str), pC0)]⟩ : TabL) [] K dfP f_l_slot f22 (PySem.W.fnOf "_law_slot" "_law_slot" (defArgs (top 27)) (defBody (top 27)) (defScope (top 27)) .none kV22 dc22 pm22 an22 cd22 ct22) := by
    refine ⟨⟨"_law_slot", "_law_slot", (top 27), N_l_slot, fun_mk (st := (top 27)) l22 c22 k22, sc_l_slot, rfl, c_l_slot, fun mk hm hN => by rcases hm with e | e <;> subst e <;> exact absurd hN (by decide +kernel), fun fl h q hq => hNF fl (sub_mem af_l_slot (fld_mem h)) q hq⟩, fun i ks h us ws rs s hu hw hb KI => ?_⟩
    have h : (i, ks) ∈ ([(3, [])] : List (Nat × List Str)) := h
    simp only [List.mem_cons, List.not_mem_nil, or_false, Prod.mk.injEq] at h
    rcases h with ⟨rfl, rfl⟩
    · match us, ws, hu, hw, hb with
      | [u0, u1, u2], [], _, _, hb =>
        have e : some ([u0, u1, u2] : List Value) = some rs := hb
        cases e
        exact ⟨rfl, .of_eq rfl⟩
  have F23 : FnAt (⟨[], [(("Course" : Str), pC0)]⟩ : TabL) [] K dfP f_l_by_fate f23 (PySem.W.fnOf "_law_by_fate" "_law_by_fate" (defArgs (top 28)) (defBody (top 28)) (defScope (top 28)) .none kV23 dc23 pm23 an23 cd23 ct23) := by
    refine ⟨⟨"_law_by_fate", "_law_by_fate", (top 28), N_l_by_fate, fun_mk (st := (top 28)) l23 c23 k23, sc_l_by_fate, rfl, c_l_by_fate, fun mk hm hN => by rcases hm with e | e <;> subst e <;> exact absurd hN (by decide +kernel), fun fl h q hq => hNF fl (sub_mem af_l_by_fate (fld_mem h)) q hq⟩, fun i ks h us ws rs s hu hw hb KI => ?_⟩
    have h : (i, ks) ∈ ([(5, [])] : List (Nat × List Str)) := h
    simp only [List.mem_cons, List.not_mem_nil, or_false, Prod.mk.injEq] at h
    rcases h with ⟨rfl, rfl⟩
    · match us, ws, hu, hw, hb with
      | [u0, u1, u2, u3, u4], [], _, _, hb =>
        have e : some ([u0, u1, u2, u3, u4] : List Value) = some rs := hb
        cases e
        exact ⟨rfl, .of_eq rfl⟩
  have F24 : FnAt (⟨[], [(("Course" : Str), pC0)]⟩ : TabL) [] K dfP f_l_outcome f24 (PySem.W.fnOf "_law_outcome" "_law_outcome" (defArgs (top 29)) (defBody (top 29)) (defScope (top 29)) .none kV24 dc24 pm24 an24 cd24 ct24) := by
    refine ⟨⟨"_law_outcome", "_law_outcome", (top 29), N_l_outcome, fun_mk (st := (top 29)) l24 c24 k24, sc_l_outcome, rfl, c_l_outcome, fun mk hm hN => by rcases hm with e | e <;> subst e <;> exact absurd hN (by decide +kernel), fun fl h q hq => hNF fl (sub_mem af_l_outcome (fld_mem h)) q hq⟩, fun i ks h us ws rs s hu hw hb KI => ?_⟩
    have h : (i, ks) ∈ ([(6, [])] : List (Nat × List Str)) := h
    simp only [List.mem_cons, List.not_mem_nil, or_false, Prod.mk.injEq] at h
    rcases h with ⟨rfl, rfl⟩
    · match us, ws, hu, hw, hb with
      | [u0, u1, u2, u3, u4, u5], [], _, _, hb =>
        have e : some ([u0, u1, u2, u3, u4, u5] : List Value) = some rs := hb
        cases e
        exact ⟨rfl, .of_eq rfl⟩
  have F25 : FnAt (⟨[], [(("Course" : Str), pC0)]⟩ : TabL) [] K dfP f_l_line f25 (PySem.W.fnOf "_law_line" "_law_line" (defArgs (top 30)) (defBody (top 30)) (defScope (top 30)) .none kV25 dc25 pm25 an25 cd25 ct25) := by
    refine ⟨⟨"_law_line", "_law_line", (top 30), N_l_line, fun_mk (st := (top 30)) l25 c25 k25, sc_l_line, rfl, c_l_line, fun mk hm hN => by rcases hm with e | e <;> subst e <;> exact absurd hN (by decide +kernel), fun fl h q hq => hNF fl (sub_mem af_l_line (fld_mem h)) q hq⟩, fun i ks h us ws rs s hu hw hb KI => ?_⟩
    have h : (i, ks) ∈ ([(0, [])] : List (Nat × List Str)) := h
    simp only [List.mem_cons, List.not_mem_nil, or_false, Prod.mk.injEq] at h
    rcases h with ⟨rfl, rfl⟩
    · match us, ws, hu, hw, hb with
      | [], [], _, _, hb =>
        have e : some ([] : List Value) = some rs := hb
        cases e
        exact ⟨rfl, .of_eq rfl⟩
  have F26 : FnAt (⟨[], [(("Course" : Str), pC0)]⟩ : TabL) [] K dfP f_l_goes f26 (PySem.W.fnOf "_law_goes" "_law_goes" (defArgs (top 31)) (defBody (top 31)) (defScope (top 31)) .none kV26 dc26 pm26 an26 cd26 ct26) := by
    refine ⟨⟨"_law_goes", "_law_goes", (top 31), N_l_goes, fun_mk (st := (top 31)) l26 c26 k26, sc_l_goes, rfl, c_l_goes, fun mk hm hN => by rcases hm with e | e <;> subst e <;> exact absurd hN (by decide +kernel), fun fl h q hq => hNF fl (sub_mem af_l_goes (fld_mem h)) q hq⟩, fun i ks h us ws rs s hu hw hb KI => ?_⟩
    have h : (i, ks) ∈ ([(9, [])] : List (Nat × List Str)) := h
    simp only [List.mem_cons, List.not_mem_nil, or_false, Prod.mk.injEq] at h
    rcases h with ⟨rfl, rfl⟩
    · match us, ws, hu, hw, hb with
      | [u0, u1, u2, u3, u4, u5, u6, u7, u8], [], _, _, hb =>
        have e : some ([u0, u1, u2, u3, u4, u5, u6, u7, u8] : List Value) = some rs := hb
        cases e
        exact ⟨rfl, .of_eq rfl⟩
  have F27 : FnAt (⟨[], [(("Course" : Str), pC0)]⟩ : TabL) [] K dfP f_l_caller_times f27 (PySem.W.fnOf "_law_caller_times" "_law_caller_times" (defArgs (top 32)) (defBody (top 32)) (defScope (top 32)) .none kV27 dc27 pm27 an27 cd27 ct27) := by
    refine ⟨⟨"_law_caller_times", "_law_caller_times", (top 32), N_l_caller_times, fun_mk (st := (top 32)) l27 c27 k27, sc_l_caller_times, rfl, c_l_caller_times, fun mk hm hN => by rcases hm with e | e <;> subst e <;> exact absurd hN (by decide +kernel), fun fl h q hq => hNF fl (sub_mem af_l_caller_times (fld_mem h)) q hq⟩, fun i ks h us ws rs s hu hw hb KI => ?_⟩
    have h : (i, ks) ∈ ([(7, [])] : List (Nat × List Str)) := h
    simp only [List.mem_cons, List.not_mem_nil, or_false, Prod.mk.injEq] at h
    rcases h with ⟨rfl, rfl⟩
    · match us, ws, hu, hw, hb with
      | [u0, u1, u2, u3, u4, u5, u6], [], _, _, hb =>
        have e : some ([u0, u1, u2, u3, u4, u5, u6] : List Value) = some rs := hb
        cases e
        exact ⟨rfl, .of_eq rfl⟩
  have F28 : FnAt (⟨[], [(("Course" : Str), pC0)]⟩ : TabL) [] K dfP f_l_small_caller f28 (PySem.W.fnOf "_law_small_caller" "_law_small_caller" (defArgs (top 33)) (defBody (top 33)) (defScope (top 33)) .none kV28 dc28 pm28 an28 cd28 ct28) := by
    refine ⟨⟨"_law_small_caller", "_law_small_caller", (top 33), N_l_small_caller, fun_mk (st := (top 33)) l28 c28 k28, sc_l_small_caller, rfl, c_l_small_caller, fun mk hm hN => by rcases hm with e | e <;> subst e <;> exact absurd hN (by decide +kernel), fun fl h q hq => hNF fl (sub_mem af_l_small_caller (fld_mem h)) q hq⟩, fun i ks h us ws rs s hu hw hb KI => ?_⟩
    have h : (i, ks) ∈ ([(1, [])] : List (Nat × List Str)) := h
    simp only [List.mem_cons, List.not_mem_nil, or_false, Prod.mk.injEq] at h
    rcases h with ⟨rfl, rfl⟩
    · match us, ws, hu, hw, hb with
      | [u0], [], _, _, hb =>
        have e : some ([u0] : List Value) = some rs := hb
        cases e
        exact ⟨rfl, .of_eq rfl⟩
  have F29 : FnAt (⟨[], [(("Course" : Str), pC0)]⟩ : TabL) [] K dfP f_l_gcd f29 (PySem.W.fnOf "_law_gcd" "_law_gcd" (defArgs (top 34)) (defBody (top 34)) (defScope (top 34)) .none kV29 dc29 pm29 an29 cd29 ct29) := by
    refine ⟨⟨"_law_gcd", "_law_gcd", (top 34), N_l_gcd, fun_mk (st := (top 34)) l29 c29 k29, sc_l_gcd, rfl, c_l_gcd, fun mk hm hN => by rcases hm with e | e <;> subst e <;> exact absurd hN (by decide +kernel), fun fl h q hq => hNF fl (sub_mem af_l_gcd (fld_mem h)) q hq⟩, fun i ks h us ws rs s hu hw hb KI => ?_⟩
    have h : (i, ks) ∈ ([(2, [])] : List (Nat × List Str)) := h
    simp only [List.mem_cons, List.not_mem_nil, or_false, Prod.mk.injEq] at h
    rcases h with ⟨rfl, rfl⟩
    · match us, ws, hu, hw, hb with
      | [u0, u1], [], _, _, hb =>
        have e : some ([u0, u1] : List Value) = some rs := hb
        cases e
        exact ⟨rfl, .of_eq rfl⟩
  have F30 : FnAt (⟨[], [(("Course" : Str), pC0)]⟩ : TabL) [] K dfP f_l_lcm f30 (PySem.W.fnOf "_law_lcm" "_law_lcm" (defArgs (top 35)) (defBody (top 35)) (defScope (top 35)) .none kV30 dc30 pm30 an30 cd30 ct30) := by
    refine ⟨⟨"_law_lcm", "_law_lcm", (top 35), N_l_lcm, fun_mk (st := (top 35)) l30 c30 k30, sc_l_lcm, rfl, c_l_lcm, fun mk hm hN => by rcases hm with e | e <;> subst e <;> exact absurd hN (by decide +kernel), fun fl h q hq => hNF fl (sub_mem af_l_lcm (fld_mem h)) q hq⟩, fun i ks h us ws rs s hu hw hb KI => ?_⟩
    have h : (i, ks) ∈ ([(1, [])] : List (Nat × List Str)) := h
    simp only [List.mem_cons, List.not_mem_nil, or_false, Prod.mk.injEq] at h
    rcases h with ⟨rfl, rfl⟩
    · match us, ws, hu, hw, hb with
      | [u0], [], _, _, hb =>
        have e : some ([u0] : List Value) = some rs := hb
        cases e
        exact ⟨rfl, .of_eq rfl⟩
  have F31 : FnAt (⟨[], [(("Course" : Str), pC0)]⟩ : TabL) [] K dfP f_l_turns_of f31 (PySem.W.fnOf "_law_turns_of" "_law_turns_of" (defArgs (top 36)) (defBody (top 36)) (defScope (top 36)) .none kV31 dc31 pm31 an31 cd31 ct31) := by
    refine ⟨⟨"_law_turns_of", "_law_turns_of", (top 36), N_l_turns_of, fun_mk (st := (top 36)) l31 c31 k31, sc_l_turns_of, rfl, c_l_turns_of, fun mk hm hN => by rcases hm with e | e <;> subst e <;> exact absurd hN (by decide +kernel), fun fl h q hq => hNF fl (sub_mem af_l_turns_of (fld_mem h)) q hq⟩, fun i ks h us ws rs s hu hw hb KI => ?_⟩
    have h : (i, ks) ∈ ([(2, [])] : List (Nat × List Str)) := h
    simp only [List.mem_cons, List.not_mem_nil, or_false, Prod.mk.injEq] at h
    rcases h with ⟨rfl, rfl⟩
    · match us, ws, hu, hw, hb with
      | [u0, u1], [], _, _, hb =>
        have e : some ([u0, u1] : List Value) = some rs := hb
        cases e
        exact ⟨rfl, .of_eq rfl⟩
  have F32 : FnAt (⟨[], [(("Course" : Str), pC0)]⟩ : TabL) [] K dfP f_l_burst f32 (PySem.W.fnOf "_law_burst" "_law_burst" (defArgs (top 37)) (defBody (top 37)) (defScope (top 37)) .none kV32 dc32 pm32 an32 cd32 ct32) := by
    refine ⟨⟨"_law_burst", "_law_burst", (top 37), N_l_burst, fun_mk (st := (top 37)) l32 c32 k32, sc_l_burst, rfl, c_l_burst, fun mk hm hN => by rcases hm with e | e <;> subst e <;> exact absurd hN (by decide +kernel), fun fl h q hq => hNF fl (sub_mem af_l_burst (fld_mem h)) q hq⟩, fun i ks h us ws rs s hu hw hb KI => ?_⟩
    have h : (i, ks) ∈ ([(5, [])] : List (Nat × List Str)) := h
    simp only [List.mem_cons, List.not_mem_nil, or_false, Prod.mk.injEq] at h
    rcases h with ⟨rfl, rfl⟩
    · match us, ws, hu, hw, hb with
      | [u0, u1, u2, u3, u4], [], _, _, hb =>
        have e : some ([u0, u1, u2, u3, u4] : List Value) = some rs := hb
        cases e
        exact ⟨rfl, .of_eq rfl⟩
  have F33 : FnAt (⟨[], [(("Course" : Str), pC0)]⟩ : TabL) [] K dfP f_l_great_caller f33 (PySem.W.fnOf "_law_great_caller" "_law_great_caller" (defArgs (top 38)) (defBody (top 38)) (defScope (top 38)) .none kV33 dc33 pm33 an33 cd33 ct33) := by
    refine ⟨⟨"_law_great_caller", "_law_great_caller", (top 38), N_l_great_caller, fun_mk (st := (top 38)) l33 c33 k33, sc_l_great_caller, rfl, c_l_great_caller, fun mk hm hN => by rcases hm with e | e <;> subst e <;> exact absurd hN (by decide +kernel), fun fl h q hq => hNF fl (sub_mem af_l_great_caller (fld_mem h)) q hq⟩, fun i ks h us ws rs s hu hw hb KI => ?_⟩
    have h : (i, ks) ∈ ([(1, [])] : List (Nat × List Str)) := h
    simp only [List.mem_cons, List.not_mem_nil, or_false, Prod.mk.injEq] at h
    rcases h with ⟨rfl, rfl⟩
    · match us, ws, hu, hw, hb with
      | [u0], [], _, _, hb =>
        have e : some ([u0] : List Value) = some rs := hb
        cases e
        exact ⟨rfl, .of_eq rfl⟩
  have F34 : FnAt (⟨[], [(("Course" : Str), pC0)]⟩ : TabL) [] K dfP f_law f34 (PySem.W.fnOf "law" "law" (defArgs (top 39)) (defBody (top 39)) (defScope (top 39)) .none kV34 dc34 pm34 an34 cd34 ct34) := by
    refine ⟨⟨"law", "law", (top 39), N_law, fun_mk (st := (top 39)) l34 c34 k34, sc_law, rfl, c_law, fun mk hm hN => by rcases hm with e | e <;> subst e <;> exact absurd hN (by decide +kernel), fun fl h q hq => hNF fl (sub_mem af_law (fld_mem h)) q hq⟩, fun i ks h us ws rs s hu hw hb KI => ?_⟩
    have h : (i, ks) ∈ ([(1, [])] : List (Nat × List Str)) := h
    simp only [List.mem_cons, List.not_mem_nil, or_false, Prod.mk.injEq] at h
    rcases h with ⟨rfl, rfl⟩
    · match us, ws, hu, hw, hb with
      | [u0], [], _, _, hb =>
        have e : some ([u0] : List Value) = some rs := hb
        cases e
        exact ⟨rfl, .of_eq rfl⟩
  have F35 : FnAt (⟨[], [(("Course" : Str), pC0)]⟩ : TabL) [] K dfP f_Course___init f35 (PySem.W.fnOf "__init__" "Course.__init__" (defArgs (inClass (top 9) 0)) (defBody (inClass (top 9) 0)) (defScope (inClass (top 9) 0)) .none kV35 dc35 pm35 an35 cd35 ct35) := by
    refine ⟨⟨"__init__", "Course.__init__", (inClass (top 9) 0), N_Course___init, fun_mk (st := (inClass (top 9) 0)) l35 c35 k35, sc_Course___init, rfl, c_Course___init, fun mk hm hN => by rcases hm with e | e <;> subst e <;> exact absurd hN (by decide +kernel), fun fl h q hq => hNF fl (sub_mem af_Course___init (fld_mem h)) q hq⟩, fun i ks h us ws rs s hu hw hb KI => ?_⟩
    have h : (i, ks) ∈ ([(5, [])] : List (Nat × List Str)) := h
    simp only [List.mem_cons, List.not_mem_nil, or_false, Prod.mk.injEq] at h
    rcases h with ⟨rfl, rfl⟩
    · match us, ws, hu, hw, hb with
      | [u0, u1, u2, u3, u4], [], _, _, hb =>
        have e : some ([u0, u1, u2, u3, u4] : List Value) = some rs := hb
        cases e
        exact ⟨rfl, .of_eq rfl⟩
  have M0 : ∀ m fn, dP (mname "Course" m) = some fn → ∃ a fd, Meth K pC0 m a ∧ FnAt (⟨[], [(("Course" : Str), pC0)]⟩ : TabL) [] K dfP fn a fd := fun m fn h => by
    have h := mth_mem h
    rw [mths_Course] at h
    simp only [List.mem_cons, List.not_mem_nil, or_false, Prod.mk.injEq] at h
    rcases h with ⟨rfl, rfl⟩
    · exact ⟨_, _, ⟨a35, i35, k35⟩, F35⟩
  have TT : TopAt (⟨[], [(("Course" : Str), pC0)]⟩ : TabL) [] K mg dP dfP := by
    refine ⟨kd_all (by decide +kernel), look_all (by
    intro p hp
    simp only [defs, List.mem_cons, List.not_mem_nil, or_false] at hp
    rcases hp with rfl | rfl | rfl | rfl | rfl | rfl | rfl | rfl | rfl | rfl | rfl | rfl | rfl | rfl | rfl | rfl | rfl | rfl | rfl | rfl | rfl | rfl | rfl | rfl | rfl | rfl | rfl | rfl | rfl | rfl | rfl | rfl | rfl | rfl | rfl | rfl | rfl
    · exact fun e => ⟨_, _, PySem.W.mg_of X G a0, F0⟩
    · exact fun e => ⟨_, _, PySem.W.mg_of X G a1, F1⟩
    · exact fun e => ⟨_, _, PySem.W.mg_of X G a2, F2⟩
    · exact fun e => ⟨_, _, PySem.W.mg_of X G a3, F3⟩
    · exact fun e => ⟨_, _, PySem.W.mg_of X G a4, F4⟩
    · exact fun e => ⟨_, _, PySem.W.mg_of X G a5, F5⟩
    · exact fun e => ⟨_, _, PySem.W.mg_of X G a6, F6⟩
    · exact fun e => ⟨_, _, PySem.W.mg_of X G a7, F7⟩
    · exact fun e => ⟨_, _, PySem.W.mg_of X G a8, F8⟩
    · exact fun e => ⟨_, _, PySem.W.mg_of X G a9, F9⟩
    · exact fun e => ⟨_, _, PySem.W.mg_of X G a10, F10⟩
    · exact fun e => ⟨_, _, PySem.W.mg_of X G a11, F11⟩
    · exact fun e => ⟨_, _, PySem.W.mg_of X G a12, F12⟩
    · exact fun e => ⟨_, _, PySem.W.mg_of X G a13, F13⟩
    · exact fun e => ⟨_, _, PySem.W.mg_of X G a14, F14⟩
    · exact fun e => ⟨_, _, PySem.W.mg_of X G a15, F15⟩
    · exact fun e => ⟨_, _, PySem.W.mg_of X G a16, F16⟩
    · exact fun e => ⟨_, _, PySem.W.mg_of X G a17, F17⟩
    · exact fun e => ⟨_, _, PySem.W.mg_of X G a18, F18⟩
    · exact fun e => ⟨_, _, PySem.W.mg_of X G a19, F19⟩
    · exact fun e => ⟨_, _, PySem.W.mg_of X G a20, F20⟩
    · exact fun e => ⟨_, _, PySem.W.mg_of X G a21, F21⟩
    · exact fun e => ⟨_, _, PySem.W.mg_of X G a22, F22⟩
    · exact fun e => ⟨_, _, PySem.W.mg_of X G a23, F23⟩
    · exact fun e => ⟨_, _, PySem.W.mg_of X G a24, F24⟩
    · exact fun e => ⟨_, _, PySem.W.mg_of X G a25, F25⟩
    · exact fun e => ⟨_, _, PySem.W.mg_of X G a26, F26⟩
    · exact fun e => ⟨_, _, PySem.W.mg_of X G a27, F27⟩
    · exact fun e => ⟨_, _, PySem.W.mg_of X G a28, F28⟩
    · exact fun e => ⟨_, _, PySem.W.mg_of X G a29, F29⟩
    · exact fun e => ⟨_, _, PySem.W.mg_of X G a30, F30⟩
    · exact fun e => ⟨_, _, PySem.W.mg_of X G a31, F31⟩
    · exact fun e => ⟨_, _, PySem.W.mg_of X G a32, F32⟩
    · exact fun e => ⟨_, _, PySem.W.mg_of X G a33, F33⟩
    · exact fun e => ⟨_, _, PySem.W.mg_of X G a34, F34⟩
    · exact fun e => absurd e (by decide)
    · exact fun e => absurd e (by decide)
    ), look_all (by
    intro p hp
    simp only [defs, List.mem_cons, List.not_mem_nil, or_false] at hp
    rcases hp with rfl | rfl | rfl | rfl | rfl | rfl | rfl | rfl | rfl | rfl | rfl | rfl | rfl | rfl | rfl | rfl | rfl | rfl | rfl | rfl | rfl | rfl | rfl | rfl | rfl | rfl | rfl | rfl | rfl | rfl | rfl | rfl | rfl | rfl | rfl | rfl | rfl
    · exact fun e => absurd e (by decide)
    · exact fun e => absurd e (by decide)
    · exact fun e => absurd e (by decide)
    · exact fun e => absurd e (by decide)
    · exact fun e => absurd e (by decide)
    · exact fun e => absurd e (by decide)
    · exact fun e => absurd e (by decide)
    · exact fun e => absurd e (by decide)
    · exact fun e => absurd e (by decide)
    · exact fun e => absurd e (by decide)
    · exact fun e => absurd e (by decide)
    · exact fun e => absurd e (by decide)
    · exact fun e => absurd e (by decide)
    · exact fun e => absurd e (by decide)
    · exact fun e => absurd e (by decide)
    · exact fun e => absurd e (by decide)
    · exact fun e => absurd e (by decide)
    · exact fun e => absurd e (by decide)
    · exact fun e => absurd e (by decide)
    · exact fun e => absurd e (by decide)
    · exact fun e => absurd e (by decide)
    · exact fun e => absurd e (by decide)
    · exact fun e => absurd e (by decide)
    · exact fun e => absurd e (by decide)
    · exact fun e => absurd e (by decide)
    · exact fun e => absurd e (by decide)
    · exact fun e => absurd e (by decide)
    · exact fun e => absurd e (by decide)
    · exact fun e => absurd e (by decide)
    · exact fun e => absurd e (by decide)
    · exact fun e => absurd e (by decide)
    · exact fun e => absurd e (by decide)
    · exact fun e => absurd e (by decide)
    · exact fun e => absurd e (by decide)
    · exact fun e => absurd e (by decide)
    · exact fun e => absurd e (by decide)
    · exact fun e => ⟨pC0, f35, _, f_Course___init, PySem.W.mg_of X G aC0, rfl, rfl, by decide +kernel, by simp, ⟨mk0, a35, i35, kc0⟩, P_Course___init, F35, (fun_mk (st := (inClass (top 9) 0)) l35 c35 k35).binds (ps := f_Course___init.ps) fun _ _ _ _ _ _ us hl => match us, hl with | [_, _, _, _, _], _ => rfl⟩
    ), ?_, ?_⟩
    · intro q hq
      have hq : q ∈ ([(("Course" : Str), pC0)] : List (Str × Addr)) := hq
      simp only [List.mem_cons, List.not_mem_nil, or_false] at hq
      rcases hq with rfl
      · exact ⟨pg0, hd0, po0, sa0⟩
    · intro q hq
      have hq : q ∈ ([(("Course" : Str), pC0)] : List (Str × Addr)) := hq
      simp only [List.mem_cons, List.not_mem_nil, or_false] at hq
      rcases hq with rfl
      · exact M0
  have hbl : ∀ f, namesB f = true → mg f = none := names_none (PySem.W.mg_none_of X G z0) (PySem.W.mg_none_of X G z1) (PySem.W.mg_none_of X G z2) (PySem.W.mg_none_of X G z3) (PySem.W.mg_none_of X G z4) (PySem.W.mg_none_of X G z5) (PySem.W.mg_none_of X G z6) (PySem.W.mg_none_of X G z7) (PySem.W.mg_none_of X G z8) (PySem.W.mg_none_of X G z9) (PySem.W.mg_none_of X G z10) (PySem.W.mg_none_of X G z11) (PySem.W.mg_none_of X G z12) (PySem.W.mg_none_of X G z13)
  have e := hfa.symm.trans (PySem.W.mg_of X G a34)
  cases e
  refine ⟨_, [], fun p hp => ?_, fun s v => .of_eq rfl, fun base _ _ htb => law_ok (Tb := (⟨[], [(("Course" : Str), pC0)]⟩ : TabL)) (by simp) hlaw (all_fn (Tb := (⟨[], [(("Course" : Str), pC0)]⟩ : TabL)) htb look_df hbl TT k "law" f_law _ _ P_law F34) rfl⟩
  simp only [List.mem_cons, List.not_mem_nil, or_false] at hp
  try exact hp.elim
end MP

set_option Elab.async false
set_option linter.all false
set_option maxRecDepth 100000
set_option maxHeartbeats 8000000
/-! K22e: data, greatest divisors -/
namespace MP
open PySem PySem.Spec
local macro_rules | `(tactic| infer_instance) => `(tactic| with_reducible first
  | refine k_is_N ?_ | refine k_isn_N ?_ | refine k_is_B ?_ | refine k_isn_B ?_ | refine k_is_I ?_ | refine k_isn_I ?_ | refine k_is_S ?_ | refine k_isn_S ?_ | refine k_is_T ?_ | refine k_isn_T ?_ | refine k_is_R ?_ | refine k_isn_R ?_ | refine t_nT ?_ | refine t_nF ?_ | refine t_andnT ?_ | refine t_andnF ?_ | refine t_ornT ?_ | refine t_ornF ?_
  | refine x_var (by with_unfolding_all rfl) ?_
  | refine x_nil ?_
  | refine x_cons ?_
  | refine x_asg ?_
  | refine x_sub ?_
  | refine x_ex ?_
  | refine x_ret ?_
  | refine x_retN ?_
  | refine x_iff ?_
  | refine x_for ?_
  | refine x_pass ?_
  | refine x_brk ?_
  | refine x_cont ?_
  | refine x_non ?_
  | refine x_bl ?_
  | refine x_int ?_
  | refine x_str ?_
  | refine x_bin ?_
  | refine x_cmp ?_
  | refine x_cmp2 ?_
  | refine x_bop ?_
  | refine x_ite ?_
  | refine x_tup ?_
  | refine x_lst ?_
  | refine x_ix ?_
  | refine x_call ?_
  | refine x_blt ?_
  | refine x_mth ?_
  | refine x_lc ?_
  | refine x_enil ?_
  | refine x_econs ?_
  | refine x_b1 ?_
  | refine x_tnot ?_
  | refine x_tbop ?_
  | refine x_tite ?_
  | refine x_btnil ?_
  | refine x_btcons ?_
  | refine x_ts0 ?_
  | refine x_ts1 ?_
  | refine k_add ?_
  | refine k_sub ?_
  | refine k_eqI ?_
  | refine k_neI ?_
  | refine k_ltI ?_
  | refine k_leI ?_
  | refine k_gtI ?_
  | refine k_geI ?_
  | refine k_lenT ?_
  | refine k_intI ?_
  | refine k_intB ?_
  | refine k_abs ?_
  | refine k_max2 ?_
  | refine k_min2 ?_
  | refine x_asgT ?_ (callF_mono _ _ _)
  | refine x_neg ?_ (callF_mono _ _ _)
  | refine x_not ?_ (callF_mono _ _ _)
  | refine x_isi ?_ (callF_mono _ _ _)
  | refine x_t (by with_unfolding_all rfl) (callF_mono _ _ _) ?_
  | refine x_bcons ?_ (callF_mono _ _ _)
  | refine k_ixR (rd_of (by assumption)) (by with_unfolding_all rfl) ?_
  | refine k_ixR rd_put (by with_unfolding_all rfl) ?_
  | refine k_ixT (by with_unfolding_all rfl) ?_
  | refine k_lenR (rd_of (by assumption)) ?_
  | refine k_lenR rd_put ?_
  | refine k_ixR (rd_ne (by assumption) (rd_of (by assumption))) (by with_unfolding_all rfl) ?_
  | refine k_lenR (rd_ne (by assumption) (rd_of (by assumption))) ?_
  | refine k_setP (by with_unfolding_all rfl) ?_
  | refine k_set (by assumption) (by with_unfolding_all rfl) ?_
  | refine k_set put_same (by with_unfolding_all rfl) ?_
  | refine ⟨_, isi_int_N, ?_⟩ | refine ⟨_, isi_int_B, ?_⟩ | refine ⟨_, isi_int_I, ?_⟩ | refine ⟨_, isi_int_S, ?_⟩ | refine ⟨_, isi_int_T, ?_⟩ | refine ⟨_, isi_bool_N, ?_⟩ | refine ⟨_, isi_bool_B, ?_⟩ | refine ⟨_, isi_bool_I, ?_⟩ | refine ⟨_, isi_bool_S, ?_⟩ | refine ⟨_, isi_bool_T, ?_⟩ | refine ⟨_, isi_str_N, ?_⟩ | refine ⟨_, isi_str_B, ?_⟩ | refine ⟨_, isi_str_I, ?_⟩ | refine ⟨_, isi_str_S, ?_⟩ | refine ⟨_, isi_str_T, ?_⟩ | refine ⟨_, isi_tuple_N, ?_⟩ | refine ⟨_, isi_tuple_B, ?_⟩ | refine ⟨_, isi_tuple_I, ?_⟩ | refine ⟨_, isi_tuple_S, ?_⟩ | refine ⟨_, isi_tuple_T, ?_⟩ | refine ⟨_, isi_list_N, ?_⟩ | refine ⟨_, isi_list_B, ?_⟩ | refine ⟨_, isi_list_I, ?_⟩ | refine ⟨_, isi_list_S, ?_⟩ | refine ⟨_, isi_list_T, ?_⟩
  | refine x_slc ?_ (callF_mono _ _ _) | refine k_slcT ?_ | refine k_max3 ?_ | refine k_slcR (rd_of (by assumption)) ?_ | refine i_seqR rd_put ?_ | refine i_seqR (rd_of (by assumption)) ?_ | refine i_seqT ?_ | refine i_enumT ?_ | refine i_range (by omega) (by omega) ?_ | refine i_range2 (by omega) ?_ | refine k_tupR rd_put ?_ | refine k_tupR (rd_of (by assumption)) ?_
  | refine ⟨k_ty (by assumption), ?_⟩ | refine ⟨k_ty put_same, ?_⟩ | refine ⟨k_ty (st_ne (by assumption) (by assumption)), ?_⟩
  | refine ⟨_, by with_unfolding_all rfl, ?_⟩
  | refine k_mod (by omega) ?_ | refine k_div (by omega) ?_ | refine k_mul (cmulL (by omega) (by omega)) ?_ | refine k_mul (cmulR (by omega) (by omega)) ?_ | refine k_mul cmulB ?_ | refine k_pow18 ?_ | refine t_T ?_ | refine t_F ?_ | refine t_andT ?_ | refine t_andF ?_ | refine t_orT ?_ | refine t_orF ?_ | refine t_aa ?_ | refine t_oo ?_
  | refine x_fld ?_ | refine x_um ?_ | refine x_sfl ?_ | refine k_fld (by assumption) (by with_unfolding_all rfl) ?_)

def mx (i j : Int) : Int := if j > i then j else i
theorem mx_eq (i j : Int) : mx i j = max i j := by
  unfold mx
  rw [Int.max_def]
  split <;> split <;> omega
structure Way where
  w : Int
  ss : List Int
  r : Int
  bits : Int
structure Way.ok (u : Way) : Prop where
  w1 : 1 ≤ u.w
  w2 : u.w ≤ 30
  s1 : 1 ≤ u.ss.length
  s2 : u.ss.length ≤ 6
  r1 : 1 ≤ u.r
  r2 : u.r ≤ 40
def wyD (u : Way) : D := .tup [.int u.w, .tup (u.ss.map .int), .int u.r, .int u.bits]
structure Line where
  lo : Int
  hi : Int
  low : Int
  high : Int
  fails : Int
  copies : Int
structure Line.ok (v : Line) : Prop where
  a1 : 1 ≤ v.lo
  a3 : v.lo ≤ v.hi
  a4 : v.hi ≤ 60
  b1 : 1 ≤ v.low
  b3 : v.low ≤ v.high
  b4 : v.high ≤ 60
  f1 : 1 ≤ v.fails
  f2 : v.fails ≤ 3
def lnD (v : Line) : D := .tup [.int v.lo, .int v.hi, .int v.low, .int v.high, .int v.fails, .int v.copies]
structure Cal where
  u0 : Way
  u1 : Way
  e1 : Int
  e2 : Int
  op : Int
  turn : Int
structure Cal.ok (x : Cal) : Prop where
  o0 : x.u0.ok
  o1 : x.u1.ok
  p1 : 1 ≤ x.e1
  p2 : x.e1 ≤ 4
  q1 : 1 ≤ x.e2
  q2 : x.e2 ≤ 4
  r1 : 1 ≤ x.op
  r2 : x.op ≤ 6
def calD (x : Cal) : D := .tup [wyD x.u0, wyD x.u1, .int x.e1, .int x.e2, .int x.op, .int x.turn]
def dsD (round : Int) (cs : List Cal) : D := .tup [.int round, .tup (cs.map calD)]
def bdD (vs : List Line) : D := .tup (vs.map lnD)
def pmOf (round : Int) (x : Cal) (v : Line) : Pm where
  m0 := x.u0.ss.length
  m1 := x.u1.ss.length
  r0 := x.u0.r.toNat
  r1 := x.u1.r.toNat
  e0 := x.e1.toNat
  e1 := x.e2.toNat
  op := x.op.toNat
  w0 := x.u0.w
  w1 := x.u1.w
  T0 := v.fails * x.u0.w + (v.hi + v.high)
  T1 := v.fails * x.u1.w + (v.hi + v.high)
  c0 := v.fails * x.u0.w + v.hi
  c1 := v.fails * x.u1.w + v.high
  ss0 := x.u0.ss
  ss1 := x.u1.ss
  turn := x.turn
  ring := round
theorem pm_ok {round : Int} {x : Cal} {v : Line} (h1 : 1 ≤ round) (ok : x.ok) (okv : v.ok) : (pmOf round x v).ok := by
  obtain ⟨⟨a1, a2, a3, a4, a5, a6⟩, ⟨b1, b2, b3, b4, b5, b6⟩, c1, c2, c3, c4, c5, c6⟩ := ok
  obtain ⟨d1, d2, d3, d4, d5, d6, d7, d8⟩ := okv
  have k1 : (1 : Int) * x.u0.w ≤ v.fails * x.u0.w := Int.mul_le_mul_of_nonneg_right d7 (by omega)
  have k2 : (1 : Int) * x.u1.w ≤ v.fails * x.u1.w := Int.mul_le_mul_of_nonneg_right d7 (by omega)
  refine ⟨rfl, rfl, a3, b3, ?_, ?_, ?_, ?_, ?_, a1, b1, ?_, ?_, ?_, ?_, h1⟩
  · show 1 ≤ x.u0.r.toNat; omega
  · show 1 ≤ x.u1.r.toNat; omega
  · show 1 ≤ x.e1.toNat; omega
  · show 1 ≤ x.e2.toNat; omega
  · show 1 ≤ x.op.toNat; omega
  · show x.u0.w ≤ v.fails * x.u0.w + (v.hi + v.high); omega
  · show x.u1.w ≤ v.fails * x.u1.w + (v.hi + v.high); omega
  · show 1 ≤ v.fails * x.u0.w + v.hi; omega
  · show 1 ≤ v.fails * x.u1.w + v.high; omega
def spanOf (P : Pm) : Nat := Nat.lcm (Nat.lcm P.ring.toNat P.w0.toNat) P.w1.toNat
def cycOf (P : Pm) : Nat := Nat.lcm (P.m0 / Nat.gcd P.m0 P.e0) (P.m1 / Nat.gcd P.m1 P.e1)
theorem t_b {A B : Prop} {b : Bool} (h1 : b = true → A) (h2 : b = false → B) : if b = true then A else B := by
  cases b with
  | true => exact t_T (h1 rfl)
  | false => exact t_F (h2 rfl)
theorem t_bo {A B : Prop} {b : Bool} (h1 : b = false → A) (h2 : b = true → B) : if b = andB .Or then A else B := by
  cases b with
  | true => exact t_orT (h2 rfl)
  | false => exact t_orF (h1 rfl)
theorem t_bA {A B : Prop} {b : Bool} (h1 : b = true → A) (h2 : b = false → B) : if b = andB .And then A else B := by
  cases b with
  | true => exact t_andT (h1 rfl)
  | false => exact t_andF (h2 rfl)
theorem k_eqS {C : Kst} {s t : Str} {st : Sto} {K : D → Sto → Prop} (h : K (.bl (s == t)) st) : cmpK C .Eq (.str s) (.str t) st K := h
theorem map_at {α : Type} {f : α → D} {xs : List α} {i : Nat} {x : D} (h : (xs.map f)[i]? = some x) : ∃ y, xs[i]? = some y ∧ x = f y := by
  rw [List.getElem?_map] at h
  cases e : xs[i]? with
  | none => rw [e] at h; cases h
  | some y =>
    rw [e] at h
    cases h
    exact ⟨y, rfl, rfl⟩
theorem gcd_step {a b : Nat} : Nat.gcd b (a % b) = Nat.gcd a b := by
  rw [Nat.gcd_comm b, ← Nat.gcd_rec, Nat.gcd_comm]
section
variable {C : Kst} {n : Nat} {st : Sto} {K : D → Sto → Prop}
theorem gcd_call {a b : Nat} (h : K (.int (Nat.gcd a b : Nat)) st) : callF dP C (n + 1) "divisor_of" [.int a, .int b] [] [] st K := by
  refine call_pos P_divisor_of (by simp [f_divisor_of]) rfl (body_of P_divisor_of rfl ?_)
  show evSs _ C b_divisor_of [some (.int a), some (.int b)] _ _
  unfold b_divisor_of
  refine x_cons ?_
  refine x_whl ⟨b + 1, ?_⟩
  refine whlK_of (fun m σ s => s = st ∧ ∃ a' b' : Nat, b' ≤ m ∧ Nat.gcd a' b' = Nat.gcd a b ∧ σ = [some (.int a'), some (.int b')]) ?_ b _ _ ⟨rfl, a, b, Nat.le_refl _, rfl, rfl⟩
  rintro m σ s R ⟨rfl, a', b', hm, hg, rfl⟩ hR
  rcases Nat.eq_zero_or_pos b' with z | z
  · subst z
    rw [Nat.gcd_zero_right] at hg
    rw [← hg] at h
    repeat infer_instance
    refine t_b (fun e => absurd e (by decide)) (fun _ => ?_)
    repeat infer_instance
    exact h
  · obtain ⟨m', rfl⟩ : ∃ m', m = m' + 1 := ⟨m - 1, by omega⟩
    repeat infer_instance
    refine t_b (fun _ => ?_) (fun e => absurd e (by simp; omega))
    repeat infer_instance
    refine hR m' _ _ rfl ⟨rfl, b', a' % b', ?_, ?_, ?_⟩
    · have := Nat.mod_lt a' z
      omega
    · rw [gcd_step, hg]
    · simp only [List.set_cons_succ, List.set_cons_zero, Int.natCast_emod]
theorem lgcd_call {a b : Nat} (h : K (.int (Nat.gcd a b : Nat)) st) : callF dP C (n + 1) "_law_gcd" [.int a, .int b] [] [] st K := by
  refine call_pos P_l_gcd (by simp [f_l_gcd]) rfl (body_of P_l_gcd rfl ?_)
  show evSs _ C b_l_gcd [some (.int a), some (.int b)] _ _
  unfold b_l_gcd
  refine x_cons ?_
  refine x_whl ⟨b + 1, ?_⟩
  refine whlK_of (fun m σ s => s = st ∧ ∃ a' b' : Nat, b' ≤ m ∧ Nat.gcd a' b' = Nat.gcd a b ∧ σ = [some (.int a'), some (.int b')]) ?_ b _ _ ⟨rfl, a, b, Nat.le_refl _, rfl, rfl⟩
  rintro m σ s R ⟨rfl, a', b', hm, hg, rfl⟩ hR
  rcases Nat.eq_zero_or_pos b' with z | z
  · subst z
    rw [Nat.gcd_zero_right] at hg
    rw [← hg] at h
    repeat infer_instance
    refine t_b (fun e => absurd e (by decide)) (fun _ => ?_)
    repeat infer_instance
    exact h
  · obtain ⟨m', rfl⟩ : ∃ m', m = m' + 1 := ⟨m - 1, by omega⟩
    repeat infer_instance
    refine t_b (fun _ => ?_) (fun e => absurd e (by simp; omega))
    repeat infer_instance
    refine hR m' _ _ rfl ⟨rfl, b', a' % b', ?_, ?_, ?_⟩
    · have := Nat.mod_lt a' z
      omega
    · rw [gcd_step, hg]
    · simp only [List.set_cons_succ, List.set_cons_zero, Int.natCast_emod]
theorem mult_call {a b : Nat} (ha : 1 ≤ a) (hb : 1 ≤ b) (a2 : a < 1000000) (h : K (.int (Nat.lcm a b : Nat)) st) : callF dP C (n + 2) "multiple_of" [.int a, .int b] [] [] st K := by
  refine call_pos P_multiple_of (by simp [f_multiple_of]) rfl (body_of P_multiple_of rfl ?_)
  show evSs _ C b_multiple_of [some (.int a), some (.int b)] _ _
  unfold b_multiple_of
  repeat infer_instance
  refine gcd_call ?_
  have g1 := Nat.gcd_pos_of_pos_left b (show 0 < a by omega)
  have g2 := Nat.gcd_le_left b (show 0 < a by omega)
  refine k_div ⟨by omega, by omega⟩ ?_
  repeat infer_instance
  have e : ((a : Int) / (Nat.gcd a b : Nat)) * (b : Int) = (Nat.lcm a b : Nat) := by
    rw [← Int.natCast_ediv, ← Int.natCast_mul, Nat.div_mul_right_comm (Nat.gcd_dvd_left a b)]
    rfl
  have h0 : (a : Int) / (Nat.gcd a b : Nat) ≤ a := Int.ediv_le_self _ (by omega)
  have h1 : 0 ≤ (a : Int) / (Nat.gcd a b : Nat) := Int.ediv_nonneg (by omega) (by omega)
  refine k_mul (cmulL (by omega) (by omega)) ?_
  rw [e]
  exact h
theorem turns_call {a b : Nat} (ha : 1 ≤ a) (a2 : a < 1000000) (h : K (.int (a / Nat.gcd a b : Nat)) st) : callF dP C (n + 2) "turns_of" [.int a, .int b] [] [] st K := by
  refine call_pos P_turns_of (by simp [f_turns_of]) rfl (body_of P_turns_of rfl ?_)
  show evSs _ C b_turns_of [some (.int a), some (.int b)] _ _
  unfold b_turns_of
  repeat infer_instance
  refine gcd_call ?_
  have g1 := Nat.gcd_pos_of_pos_left b (show 0 < a by omega)
  have g2 := Nat.gcd_le_left b (show 0 < a by omega)
  refine k_div ⟨by omega, by omega⟩ ?_
  rw [← Int.natCast_ediv]
  exact h
theorem llcm_call {pl : Addr} {ns : List Nat} (gl : st pl = some (.lst (ns.map fun x => .int (x : Nat)))) (hn : ∀ x ∈ ns, 1 ≤ x ∧ x < 1000000) (h : K (.int (ns.foldl Nat.lcm 1 : Nat)) st) : callF dP C (n + 2) "_law_lcm" [.ref pl] [] [] st K := by
  refine call_pos P_l_lcm (by simp [f_l_lcm]) rfl (body_of P_l_lcm rfl ?_)
  show evSs _ C b_l_lcm [some (.ref pl), none, none] _ _
  unfold b_l_lcm
  repeat infer_instance
  refine forK_of (fun i σ s => s = st ∧ ∃ w2, σ = [some (.ref pl), some (.int ((ns.take i).foldl Nat.lcm 1 : Nat)), w2]) ⟨rfl, none, rfl⟩ (fun i σ s h => by rw [h.1]; exact rd_of gl) ?_ ?_
  · rintro σ s ⟨rfl, w2, rfl⟩
    rw [List.length_map, List.take_length]
    repeat infer_instance
    exact h
  · rintro i y σ s R hy ⟨rfl, w2, rfl⟩ hR
    obtain ⟨x, hx, rfl⟩ := map_at hy
    obtain ⟨x1, x2⟩ := hn x (List.mem_of_getElem? hx)
    simp only [bindG, List.set_cons_succ, List.set_cons_zero]
    have et : (ns.take (i + 1)).foldl Nat.lcm 1 = Nat.lcm ((ns.take i).foldl Nat.lcm 1) x := by
      rw [List.take_add_one, hx, List.foldl_append]
      rfl
    generalize (ns.take i).foldl Nat.lcm 1 = o at *
    repeat infer_instance
    refine lgcd_call ?_
    have g1 := Nat.gcd_pos_of_pos_right o (show 0 < x by omega)
    have g2 := Nat.gcd_le_right o (show 0 < x by omega)
    refine k_div ⟨by omega, by omega⟩ ?_
    refine x_nil (F := callF dP C (n + 1)) (C := C) ?_
    refine hR _ _ ⟨rfl, some (.int x), ?_⟩
    rw [et, ← Int.natCast_mul, ← Int.natCast_ediv]
    rfl
end
theorem k_mxx {C : Kst} {st : Sto} {K : D → Sto → Prop} {i j : Int} (h : K (.int (max i j)) st) : bltK C "max" [.int i, .int j] st K := by
  refine k_max2 ?_
  rw [show (if j > i then j else i) = max i j from mx_eq i j]
  exact h
theorem ints_at {xs : List Int} {i : Nat} (h : i < xs.length) : L2.atI (xs.map D.int) (i : Int) = some (.int ((xs[i]?).getD 0)) := by
  refine atN ?_
  rw [List.getElem?_map, List.getElem?_eq_getElem h]
  rfl
theorem ixN_nat {n i : Nat} (h : i < n) : L2.ixN n (i : Int) = some i := by
  unfold L2.ixN
  rw [if_pos (by omega), if_pos (by omega)]
  rfl
theorem ints_last {xs : List Int} (h : 0 < xs.length) : L2.atI (xs.map D.int) (-1) = some (.int (xs.getLast?.getD 0)) := by
  unfold L2.atI L2.ixN
  rw [List.length_map, if_neg (by decide), if_pos (by omega)]
  have e : (-1 + (xs.length : Int)).toNat = xs.length - 1 := by omega
  rw [Option.bind_some, e, List.getElem?_map, List.getLast?_eq_getElem?, List.getElem?_eq_getElem (by omega)]
  rfl
theorem cut1 {xs : List Int} : cutD (xs.map D.int) (some 1) none = (xs.drop 1).map D.int := by
  unfold cutD HT.sIx
  cases xs with
  | nil => rfl
  | cons x xs =>
    simp
    exact List.take_of_length_le (by rw [List.length_map]; exact Nat.le_refl _)
theorem k_lstT {C : Kst} {st : Sto} {K : D → Sto → Prop} {xs : List D} (h : newL xs st K) : bltK C "list" [.tup xs] st K := by
  unfold bltK
  rw [if_neg (by decide), if_neg (by decide), if_neg (by decide), if_neg (by decide), if_neg (by decide), if_neg (by decide), if_neg (by decide), if_pos rfl]
  exact h
theorem flat_rep {x : D} : ∀ k : Nat, (List.replicate k [x]).flatten = List.replicate k x
  | 0 => rfl
  | k + 1 => by
    rw [List.replicate_succ, List.flatten_cons, flat_rep k]
    rfl
theorem k_mulT {st : Sto} {K : D → Sto → Prop} {x : D} {k : Int} (h0 : -1000 ≤ k) (h1 : k ≤ 1000) (h : K (.tup (List.replicate k.toNat x)) st) : binK .Mult (.tup [x]) (.int k) st K :=
  ⟨⟨by simp, h0, h1, by simp⟩, by rw [flat_rep]; exact h⟩

end MP

set_option Elab.async false
set_option linter.all false
set_option maxRecDepth 100000
set_option maxHeartbeats 8000000
/-! K22f: a course is made -/
namespace MP
open PySem PySem.Spec
local macro_rules | `(tactic| infer_instance) => `(tactic| with_reducible first
  | refine k_is_N ?_ | refine k_isn_N ?_ | refine k_is_B ?_ | refine k_isn_B ?_ | refine k_is_I ?_ | refine k_isn_I ?_ | refine k_is_S ?_ | refine k_isn_S ?_ | refine k_is_T ?_ | refine k_isn_T ?_ | refine k_is_R ?_ | refine k_isn_R ?_ | refine t_nT ?_ | refine t_nF ?_ | refine t_andnT ?_ | refine t_andnF ?_ | refine t_ornT ?_ | refine t_ornF ?_
  | refine x_var (by with_unfolding_all rfl) ?_
  | refine x_nil ?_
  | refine x_cons ?_
  | refine x_asg ?_
  | refine x_sub ?_
  | refine x_ex ?_
  | refine x_ret ?_
  | refine x_retN ?_
  | refine x_iff ?_
  | refine x_for ?_
  | refine x_pass ?_
  | refine x_brk ?_
  | refine x_cont ?_
  | refine x_non ?_
  | refine x_bl ?_
  | refine x_int ?_
  | refine x_str ?_
  | refine x_bin ?_
  | refine x_cmp ?_
  | refine x_cmp2 ?_
  | refine x_bop ?_
  | refine x_ite ?_
  | refine x_tup ?_
  | refine x_lst ?_
  | refine x_ix ?_
  | refine x_call ?_
  | refine x_blt ?_
  | refine x_mth ?_
  | refine x_lc ?_
  | refine x_enil ?_
  | refine x_econs ?_
  | refine x_b1 ?_
  | refine x_tnot ?_
  | refine x_tbop ?_
  | refine x_tite ?_
  | refine x_btnil ?_
  | refine x_btcons ?_
  | refine x_ts0 ?_
  | refine x_ts1 ?_
  | refine k_add ?_
  | refine k_sub ?_
  | refine k_eqI ?_
  | refine k_neI ?_
  | refine k_ltI ?_
  | refine k_leI ?_
  | refine k_gtI ?_
  | refine k_geI ?_
  | refine k_lenT ?_
  | refine k_intI ?_
  | refine k_intB ?_
  | refine k_abs ?_
  | refine k_max2 ?_
  | refine k_min2 ?_
  | refine x_asgT ?_ (callF_mono _ _ _)
  | refine x_neg ?_ (callF_mono _ _ _)
  | refine x_not ?_ (callF_mono _ _ _)
  | refine x_isi ?_ (callF_mono _ _ _)
  | refine x_t (by with_unfolding_all rfl) (callF_mono _ _ _) ?_
  | refine x_bcons ?_ (callF_mono _ _ _)
  | refine k_ixR (rd_of (by assumption)) (by with_unfolding_all rfl) ?_
  | refine k_ixR rd_put (by with_unfolding_all rfl) ?_
  | refine k_ixT (by with_unfolding_all rfl) ?_
  | refine k_lenR (rd_of (by assumption)) ?_
  | refine k_lenR rd_put ?_
  | refine k_ixR (rd_ne (by assumption) (rd_of (by assumption))) (by with_unfolding_all rfl) ?_
  | refine k_lenR (rd_ne (by assumption) (rd_of (by assumption))) ?_
  | refine k_setP (by with_unfolding_all rfl) ?_
  | refine k_set (by assumption) (by with_unfolding_all rfl) ?_
  | refine k_set put_same (by with_unfolding_all rfl) ?_
  | refine ⟨_, isi_int_N, ?_⟩ | refine ⟨_, isi_int_B, ?_⟩ | refine ⟨_, isi_int_I, ?_⟩ | refine ⟨_, isi_int_S, ?_⟩ | refine ⟨_, isi_int_T, ?_⟩ | refine ⟨_, isi_bool_N, ?_⟩ | refine ⟨_, isi_bool_B, ?_⟩ | refine ⟨_, isi_bool_I, ?_⟩ | refine ⟨_, isi_bool_S, ?_⟩ | refine ⟨_, isi_bool_T, ?_⟩ | refine ⟨_, isi_str_N, ?_⟩ | refine ⟨_, isi_str_B, ?_⟩ | refine ⟨_, isi_str_I, ?_⟩ | refine ⟨_, isi_str_S, ?_⟩ | refine ⟨_, isi_str_T, ?_⟩ | refine ⟨_, isi_tuple_N, ?_⟩ | refine ⟨_, isi_tuple_B, ?_⟩ | refine ⟨_, isi_tuple_I, ?_⟩ | refine ⟨_, isi_tuple_S, ?_⟩ | refine ⟨_, isi_tuple_T, ?_⟩ | refine ⟨_, isi_list_N, ?_⟩ | refine ⟨_, isi_list_B, ?_⟩ | refine ⟨_, isi_list_I, ?_⟩ | refine ⟨_, isi_list_S, ?_⟩ | refine ⟨_, isi_list_T, ?_⟩
  | refine x_slc ?_ (callF_mono _ _ _) | refine k_slcT ?_ | refine k_max3 ?_ | refine k_slcR (rd_of (by assumption)) ?_ | refine i_seqR rd_put ?_ | refine i_seqR (rd_of (by assumption)) ?_ | refine i_seqT ?_ | refine i_enumT ?_ | refine i_range (by omega) (by omega) ?_ | refine i_range2 (by omega) ?_ | refine k_tupR rd_put ?_ | refine k_tupR (rd_of (by assumption)) ?_
  | refine ⟨k_ty (by assumption), ?_⟩ | refine ⟨k_ty put_same, ?_⟩ | refine ⟨k_ty (st_ne (by assumption) (by assumption)), ?_⟩
  | refine ⟨_, by with_unfolding_all rfl, ?_⟩
  | refine k_mod (by omega) ?_ | refine k_div (by omega) ?_ | refine k_mul (cmulL (by omega) (by omega)) ?_ | refine k_mul (cmulR (by omega) (by omega)) ?_ | refine k_mul cmulB ?_ | refine k_pow18 ?_ | refine t_T ?_ | refine t_F ?_ | refine t_andT ?_ | refine t_andF ?_ | refine t_orT ?_ | refine t_orF ?_ | refine t_aa ?_ | refine t_oo ?_
  | refine x_fld ?_ | refine x_um ?_ | refine x_sfl ?_ | refine k_fld (by assumption) (by with_unfolding_all rfl) ?_)

/-- what has the keys already -/
theorem putFD_new {f : Str} {y : D} : ∀ {fs : List (Str × D)}, (fs.all fun p => !decide (p.1 = f)) = true → putFD f y fs = fs ++ [(f, y)]
  | [], _ => rfl
  | (g, z) :: fs, h => by
    rw [List.all_cons, Bool.and_eq_true] at h
    have hn : ¬ g = f := by simpa using h.1
    show (if g = f then (g, y) :: fs else (g, z) :: putFD f y fs) = _
    rw [if_neg hn, putFD_new h.2]
    rfl
theorem all_keys {f : Str} {fs : List (Str × D)} (h : (fs.map (·.1)).all (fun g => !decide (g = f)) = true) : (fs.all fun p => !decide (p.1 = f)) = true := by
  rw [List.all_map] at h
  exact h
theorem sflN {C : Kst} {f : Str} {v : D} {a : Addr} {c : Str} {fs : List (Str × D)} {st : Sto} {KS : Sto → Prop} (e : st a = some (.ins c fs)) (hk : (fs.map (·.1)).all (fun g => !decide (g = f)) = true) (hz : fs.length < 1000) (h : KS (put st a (.ins c (fs ++ [(f, v)])))) : sflK f v (.ref a) st KS := by
  refine k_sfl e hz ?_
  rw [putFD_new (all_keys hk)]
  exact h
def Nx (p : Addr) (s t : Sto) : Prop := ∀ q o, q ≠ p → s q = some o → t q = some o
theorem Nx.refl {p : Addr} {s : Sto} : Nx p s s := fun _ _ _ h => h
theorem Nx.trans {p : Addr} {s t u : Sto} (h : Nx p s t) (k : Nx p t u) : Nx p s u := fun q o n e => k q o n (h q o n e)
theorem Nx.sub {p : Addr} {s t : Sto} (h : Sub s t) : Nx p s t := fun q o _ e => h q o e
theorem Nx.put {p : Addr} {s : Sto} {o : O} : Nx p s (MP.put s p o) := fun q _ n e => by rw [put_ne n]; exact e
theorem Nx.subOf {p : Addr} {s t : Sto} (h : Nx p s t) (n : s p = Option.none) : Sub s t := fun q o e => h q o (ne_st e n) e
def lagI (u : Way) : Int := if u.r ≥ 2 * (u.ss.length : Nat) then 0 else u.r
def crsL (round : Int) (x : Cal) (P : Pm) : List (Str × D) := [("wheels", .tup [.int x.u0.w, .int x.u1.w]), ("slots", .tup [.tup (x.u0.ss.map .int), .tup (x.u1.ss.map .int)]), ("lags", .tup [.int (lagI x.u0), .int (lagI x.u1)]), ("sizes", .tup [.int x.e1, .int x.e2]), ("room", .int x.op), ("turn", .int x.turn), ("ring", .int round), ("comes", .tup [.int P.c0, .int P.c1]), ("tells", .tup [.int P.T0, .int P.T1]), ("span", .int (spanOf P : Nat)), ("cycle", .int (cycOf P : Nat))]
theorem cycOf_eq {P : Pm} : Nat.lcm (P.m0 / Nat.gcd P.m0 P.e0) (P.m1 / Nat.gcd P.m1 P.e1) = cycOf P := rfl
section
variable {C : Kst} {n : Nat} {st : Sto} {K : D → Sto → Prop}
theorem course_new {round : Int} {x : Cal} {v : Line} (h1 : 1 ≤ round) (h2 : round ≤ 30) (ok : x.ok) (okv : v.ok)
    (h : ∀ p st', st' p = some (.ins "Course" (crsL round x (pmOf round x v))) → Sub st st' → K (.ref p) st') :
    callF dP C (n + 4) "Course" [.int round, calD x, .tup [.int (pmOf round x v).c0, .int (pmOf round x v).c1], .tup [.int (pmOf round x v).T0, .int (pmOf round x v).T1]] [] [] st K := by
  refine call_new P_Course rfl (by simp [f_Course]) rfl rfl P_Course___init (by simp [f_Course___init]) rfl fun p hp => ?_
  refine body_of P_Course___init rfl ?_
  show evSs _ C b_Course___init [some (.ref p), some (.int round), some (calD x), some (.tup [.int (pmOf round x v).c0, .int (pmOf round x v).c1]), some (.tup [.int (pmOf round x v).T0, .int (pmOf round x v).T1]), none, none, none, none, none, none, none, none, none, none, none, none, none, none, none] _ _
  unfold b_Course___init
  have g0 : put st p (.ins "Course" []) p = some (.ins "Course" []) := put_same
  have k0 : Nx p st (put st p (.ins "Course" [])) := Nx.put
  generalize put st p (.ins "Course" []) = st0 at *
  obtain ⟨o0, o1, p1, p2, q1, q2, r1, r2⟩ := ok
  have a1 := o0.w1
  have a2 := o0.w2
  have a3 := o0.s1
  have a4 := o0.s2
  have b1 := o1.w1
  have b2 := o1.w2
  have b3 := o1.s1
  have b4 := o1.s2
  generalize hP : pmOf round x v = P at *
  refine x_cons ?_
  refine x_asg ?_
  unfold calD wyD
  repeat infer_instance
  skip
  refine sflN (C := C) g0 rfl (by simp) ?_
  have g1 : put st0 p (.ins "Course" (([] : List (Str × D)) ++ [(("wheels" : Str), D.tup [.int x.u0.w, .int x.u1.w])])) p = some (.ins "Course" (([] : List (Str × D)) ++ [(("wheels" : Str), D.tup [.int x.u0.w, .int x.u1.w])])) := put_same
  have k1 : Nx p st (put st0 p (.ins "Course" (([] : List (Str × D)) ++ [(("wheels" : Str), D.tup [.int x.u0.w, .int x.u1.w])]))) := k0.trans Nx.put
  generalize put st0 p (.ins "Course" (([] : List (Str × D)) ++ [(("wheels" : Str), D.tup [.int x.u0.w, .int x.u1.w])])) = st1 at *
  refine x_cons ?_
  refine x_sfl ?_
  repeat infer_instance
  skip
  refine sflN (C := C) g1 rfl (by simp) ?_
  have g2 : put st1 p (.ins "Course" ((([] : List (Str × D)) ++ [(("wheels" : Str), D.tup [.int x.u0.w, .int x.u1.w])]) ++ [(("slots" : Str), D.tup [.tup (x.u0.ss.map .int), .tup (x.u1.ss.map .int)])])) p = some (.ins "Course" ((([] : List (Str × D)) ++ [(("wheels" : Str), D.tup [.int x.u0.w, .int x.u1.w])]) ++ [(("slots" : Str), D.tup [.tup (x.u0.ss.map .int), .tup (x.u1.ss.map .int)])])) := put_same
  have k2 : Nx p st (put st1 p (.ins "Course" ((([] : List (Str × D)) ++ [(("wheels" : Str), D.tup [.int x.u0.w, .int x.u1.w])]) ++ [(("slots" : Str), D.tup [.tup (x.u0.ss.map .int), .tup (x.u1.ss.map .int)])]))) := k1.trans Nx.put
  generalize put st1 p (.ins "Course" ((([] : List (Str × D)) ++ [(("wheels" : Str), D.tup [.int x.u0.w, .int x.u1.w])]) ++ [(("slots" : Str), D.tup [.tup (x.u0.ss.map .int), .tup (x.u1.ss.map .int)])])) = st2 at *
  refine x_cons ?_
  refine x_sfl ?_
  repeat infer_instance
  refine lcK_mapT (ws := [x.u0, x.u1]) wyD (fun u => D.int (lagI u)) (fun z => z = st2) (by rw [sizeLine_eq]; show 2 < _; decide) rfl (fun _ _ => trivial) ?_ ?_
  · rintro u z R hu rfl hR
    simp only [bindG]
    unfold wyD
    repeat infer_instance
    rw [List.length_map]
    repeat infer_instance
    refine t_if (fun hge => ?_) (fun hlt => ?_)
    · repeat infer_instance
      have e : lagI u = 0 := if_pos hge
      rw [e] at hR
      exact hR _ rfl
    · repeat infer_instance
      have e : lagI u = u.r := if_neg hlt
      rw [e] at hR
      exact hR _ rfl
  rintro z rfl pl hpl
  have npl : p ≠ pl := ne_st g2 hpl
  have k2' := k2.trans (Nx.sub (sub_fresh (o := .lst ([D.int (lagI x.u0), D.int (lagI x.u1)])) hpl))
  have g2' := st_ne (o := .lst ([D.int (lagI x.u0), D.int (lagI x.u1)])) npl g2
  refine x_enil ?_
  refine k_tupR rd_put ?_
  simp only [List.map_cons, List.map_nil]
  clear k2 g2
  have k2 := k2'
  have g2 := g2'
  clear k2' g2'
  generalize put z pl (.lst ([D.int (lagI x.u0), D.int (lagI x.u1)])) = st2 at *
  repeat infer_instance
  refine sflN (C := C) g2 rfl (by simp) ?_
  have g3 : put st2 p (.ins "Course" (((([] : List (Str × D)) ++ [(("wheels" : Str), D.tup [.int x.u0.w, .int x.u1.w])]) ++ [(("slots" : Str), D.tup [.tup (x.u0.ss.map .int), .tup (x.u1.ss.map .int)])]) ++ [(("lags" : Str), D.tup [.int (lagI x.u0), .int (lagI x.u1)])])) p = some (.ins "Course" (((([] : List (Str × D)) ++ [(("wheels" : Str), D.tup [.int x.u0.w, .int x.u1.w])]) ++ [(("slots" : Str), D.tup [.tup (x.u0.ss.map .int), .tup (x.u1.ss.map .int)])]) ++ [(("lags" : Str), D.tup [.int (lagI x.u0), .int (lagI x.u1)])])) := put_same
  have k3 : Nx p st (put st2 p (.ins "Course" (((([] : List (Str × D)) ++ [(("wheels" : Str), D.tup [.int x.u0.w, .int x.u1.w])]) ++ [(("slots" : Str), D.tup [.tup (x.u0.ss.map .int), .tup (x.u1.ss.map .int)])]) ++ [(("lags" : Str), D.tup [.int (lagI x.u0), .int (lagI x.u1)])]))) := k2.trans Nx.put
  generalize put st2 p (.ins "Course" (((([] : List (Str × D)) ++ [(("wheels" : Str), D.tup [.int x.u0.w, .int x.u1.w])]) ++ [(("slots" : Str), D.tup [.tup (x.u0.ss.map .int), .tup (x.u1.ss.map .int)])]) ++ [(("lags" : Str), D.tup [.int (lagI x.u0), .int (lagI x.u1)])])) = st3 at *
  refine x_cons ?_
  refine x_sfl ?_
  repeat infer_instance
  show sflK "sizes" (.tup [.int x.e1, .int x.e2]) (.ref p) st3 _
  refine sflN (C := C) g3 rfl (by simp) ?_
  have g4 : put st3 p (.ins "Course" ((((([] : List (Str × D)) ++ [(("wheels" : Str), D.tup [.int x.u0.w, .int x.u1.w])]) ++ [(("slots" : Str), D.tup [.tup (x.u0.ss.map .int), .tup (x.u1.ss.map .int)])]) ++ [(("lags" : Str), D.tup [.int (lagI x.u0), .int (lagI x.u1)])]) ++ [(("sizes" : Str), D.tup [.int x.e1, .int x.e2])])) p = some (.ins "Course" ((((([] : List (Str × D)) ++ [(("wheels" : Str), D.tup [.int x.u0.w, .int x.u1.w])]) ++ [(("slots" : Str), D.tup [.tup (x.u0.ss.map .int), .tup (x.u1.ss.map .int)])]) ++ [(("lags" : Str), D.tup [.int (lagI x.u0), .int (lagI x.u1)])]) ++ [(("sizes" : Str), D.tup [.int x.e1, .int x.e2])])) := put_same
  have k4 : Nx p st (put st3 p (.ins "Course" ((((([] : List (Str × D)) ++ [(("wheels" : Str), D.tup [.int x.u0.w, .int x.u1.w])]) ++ [(("slots" : Str), D.tup [.tup (x.u0.ss.map .int), .tup (x.u1.ss.map .int)])]) ++ [(("lags" : Str), D.tup [.int (lagI x.u0), .int (lagI x.u1)])]) ++ [(("sizes" : Str), D.tup [.int x.e1, .int x.e2])]))) := k3.trans Nx.put
  generalize put st3 p (.ins "Course" ((((([] : List (Str × D)) ++ [(("wheels" : Str), D.tup [.int x.u0.w, .int x.u1.w])]) ++ [(("slots" : Str), D.tup [.tup (x.u0.ss.map .int), .tup (x.u1.ss.map .int)])]) ++ [(("lags" : Str), D.tup [.int (lagI x.u0), .int (lagI x.u1)])]) ++ [(("sizes" : Str), D.tup [.int x.e1, .int x.e2])])) = st4 at *
  refine x_cons ?_
  refine x_sfl ?_
  repeat infer_instance
  refine sflN (C := C) g4 rfl (by simp) ?_
  have g5 : put st4 p (.ins "Course" (((((([] : List (Str × D)) ++ [(("wheels" : Str), D.tup [.int x.u0.w, .int x.u1.w])]) ++ [(("slots" : Str), D.tup [.tup (x.u0.ss.map .int), .tup (x.u1.ss.map .int)])]) ++ [(("lags" : Str), D.tup [.int (lagI x.u0), .int (lagI x.u1)])]) ++ [(("sizes" : Str), D.tup [.int x.e1, .int x.e2])]) ++ [(("room" : Str), D.int x.op)])) p = some (.ins "Course" (((((([] : List (Str × D)) ++ [(("wheels" : Str), D.tup [.int x.u0.w, .int x.u1.w])]) ++ [(("slots" : Str), D.tup [.tup (x.u0.ss.map .int), .tup (x.u1.ss.map .int)])]) ++ [(("lags" : Str), D.tup [.int (lagI x.u0), .int (lagI x.u1)])]) ++ [(("sizes" : Str), D.tup [.int x.e1, .int x.e2])]) ++ [(("room" : Str), D.int x.op)])) := put_same
  have k5 : Nx p st (put st4 p (.ins "Course" (((((([] : List (Str × D)) ++ [(("wheels" : Str), D.tup [.int x.u0.w, .int x.u1.w])]) ++ [(("slots" : Str), D.tup [.tup (x.u0.ss.map .int), .tup (x.u1.ss.map .int)])]) ++ [(("lags" : Str), D.tup [.int (lagI x.u0), .int (lagI x.u1)])]) ++ [(("sizes" : Str), D.tup [.int x.e1, .int x.e2])]) ++ [(("room" : Str), D.int x.op)]))) := k4.trans Nx.put
  generalize put st4 p (.ins "Course" (((((([] : List (Str × D)) ++ [(("wheels" : Str), D.tup [.int x.u0.w, .int x.u1.w])]) ++ [(("slots" : Str), D.tup [.tup (x.u0.ss.map .int), .tup (x.u1.ss.map .int)])]) ++ [(("lags" : Str), D.tup [.int (lagI x.u0), .int (lagI x.u1)])]) ++ [(("sizes" : Str), D.tup [.int x.e1, .int x.e2])]) ++ [(("room" : Str), D.int x.op)])) = st5 at *
  refine x_cons ?_
  refine x_sfl ?_
  repeat infer_instance
  refine sflN (C := C) g5 rfl (by simp) ?_
  have g6 : put st5 p (.ins "Course" ((((((([] : List (Str × D)) ++ [(("wheels" : Str), D.tup [.int x.u0.w, .int x.u1.w])]) ++ [(("slots" : Str), D.tup [.tup (x.u0.ss.map .int), .tup (x.u1.ss.map .int)])]) ++ [(("lags" : Str), D.tup [.int (lagI x.u0), .int (lagI x.u1)])]) ++ [(("sizes" : Str), D.tup [.int x.e1, .int x.e2])]) ++ [(("room" : Str), D.int x.op)]) ++ [(("turn" : Str), D.int x.turn)])) p = some (.ins "Course" ((((((([] : List (Str × D)) ++ [(("wheels" : Str), D.tup [.int x.u0.w, .int x.u1.w])]) ++ [(("slots" : Str), D.tup [.tup (x.u0.ss.map .int), .tup (x.u1.ss.map .int)])]) ++ [(("lags" : Str), D.tup [.int (lagI x.u0), .int (lagI x.u1)])]) ++ [(("sizes" : Str), D.tup [.int x.e1, .int x.e2])]) ++ [(("room" : Str), D.int x.op)]) ++ [(("turn" : Str), D.int x.turn)])) := put_same
  have k6 : Nx p st (put st5 p (.ins "Course" ((((((([] : List (Str × D)) ++ [(("wheels" : Str), D.tup [.int x.u0.w, .int x.u1.w])]) ++ [(("slots" : Str), D.tup [.tup (x.u0.ss.map .int), .tup (x.u1.ss.map .int)])]) ++ [(("lags" : Str), D.tup [.int (lagI x.u0), .int (lagI x.u1)])]) ++ [(("sizes" : Str), D.tup [.int x.e1, .int x.e2])]) ++ [(("room" : Str), D.int x.op)]) ++ [(("turn" : Str), D.int x.turn)]))) := k5.trans Nx.put
  generalize put st5 p (.ins "Course" ((((((([] : List (Str × D)) ++ [(("wheels" : Str), D.tup [.int x.u0.w, .int x.u1.w])]) ++ [(("slots" : Str), D.tup [.tup (x.u0.ss.map .int), .tup (x.u1.ss.map .int)])]) ++ [(("lags" : Str), D.tup [.int (lagI x.u0), .int (lagI x.u1)])]) ++ [(("sizes" : Str), D.tup [.int x.e1, .int x.e2])]) ++ [(("room" : Str), D.int x.op)]) ++ [(("turn" : Str), D.int x.turn)])) = st6 at *
  refine x_cons ?_
  refine x_sfl ?_
  repeat infer_instance
  refine sflN (C := C) g6 rfl (by simp) ?_
  have g7 : put st6 p (.ins "Course" (((((((([] : List (Str × D)) ++ [(("wheels" : Str), D.tup [.int x.u0.w, .int x.u1.w])]) ++ [(("slots" : Str), D.tup [.tup (x.u0.ss.map .int), .tup (x.u1.ss.map .int)])]) ++ [(("lags" : Str), D.tup [.int (lagI x.u0), .int (lagI x.u1)])]) ++ [(("sizes" : Str), D.tup [.int x.e1, .int x.e2])]) ++ [(("room" : Str), D.int x.op)]) ++ [(("turn" : Str), D.int x.turn)]) ++ [(("ring" : Str), D.int round)])) p = some (.ins "Course" (((((((([] : List (Str × D)) ++ [(("wheels" : Str), D.tup [.int x.u0.w, .int x.u1.w])]) ++ [(("slots" : Str), D.tup [.tup (x.u0.ss.map .int), .tup (x.u1.ss.map .int)])]) ++ [(("lags" : Str), D.tup [.int (lagI x.u0), .int (lagI x.u1)])]) ++ [(("sizes" : Str), D.tup [.int x.e1, .int x.e2])]) ++ [(("room" : Str), D.int x.op)]) ++ [(("turn" : Str), D.int x.turn)]) ++ [(("ring" : Str), D.int round)])) := put_same
  have k7 : Nx p st (put st6 p (.ins "Course" (((((((([] : List (Str × D)) ++ [(("wheels" : Str), D.tup [.int x.u0.w, .int x.u1.w])]) ++ [(("slots" : Str), D.tup [.tup (x.u0.ss.map .int), .tup (x.u1.ss.map .int)])]) ++ [(("lags" : Str), D.tup [.int (lagI x.u0), .int (lagI x.u1)])]) ++ [(("sizes" : Str), D.tup [.int x.e1, .int x.e2])]) ++ [(("room" : Str), D.int x.op)]) ++ [(("turn" : Str), D.int x.turn)]) ++ [(("ring" : Str), D.int round)]))) := k6.trans Nx.put
  generalize put st6 p (.ins "Course" (((((((([] : List (Str × D)) ++ [(("wheels" : Str), D.tup [.int x.u0.w, .int x.u1.w])]) ++ [(("slots" : Str), D.tup [.tup (x.u0.ss.map .int), .tup (x.u1.ss.map .int)])]) ++ [(("lags" : Str), D.tup [.int (lagI x.u0), .int (lagI x.u1)])]) ++ [(("sizes" : Str), D.tup [.int x.e1, .int x.e2])]) ++ [(("room" : Str), D.int x.op)]) ++ [(("turn" : Str), D.int x.turn)]) ++ [(("ring" : Str), D.int round)])) = st7 at *
  refine x_cons ?_
  refine x_sfl ?_
  repeat infer_instance
  refine sflN (C := C) g7 rfl (by simp) ?_
  have g8 : put st7 p (.ins "Course" ((((((((([] : List (Str × D)) ++ [(("wheels" : Str), D.tup [.int x.u0.w, .int x.u1.w])]) ++ [(("slots" : Str), D.tup [.tup (x.u0.ss.map .int), .tup (x.u1.ss.map .int)])]) ++ [(("lags" : Str), D.tup [.int (lagI x.u0), .int (lagI x.u1)])]) ++ [(("sizes" : Str), D.tup [.int x.e1, .int x.e2])]) ++ [(("room" : Str), D.int x.op)]) ++ [(("turn" : Str), D.int x.turn)]) ++ [(("ring" : Str), D.int round)]) ++ [(("comes" : Str), D.tup [.int P.c0, .int P.c1])])) p = some (.ins "Course" ((((((((([] : List (Str × D)) ++ [(("wheels" : Str), D.tup [.int x.u0.w, .int x.u1.w])]) ++ [(("slots" : Str), D.tup [.tup (x.u0.ss.map .int), .tup (x.u1.ss.map .int)])]) ++ [(("lags" : Str), D.tup [.int (lagI x.u0), .int (lagI x.u1)])]) ++ [(("sizes" : Str), D.tup [.int x.e1, .int x.e2])]) ++ [(("room" : Str), D.int x.op)]) ++ [(("turn" : Str), D.int x.turn)]) ++ [(("ring" : Str), D.int round)]) ++ [(("comes" : Str), D.tup [.int P.c0, .int P.c1])])) := put_same
  have k8 : Nx p st (put st7 p (.ins "Course" ((((((((([] : List (Str × D)) ++ [(("wheels" : Str), D.tup [.int x.u0.w, .int x.u1.w])]) ++ [(("slots" : Str), D.tup [.tup (x.u0.ss.map .int), .tup (x.u1.ss.map .int)])]) ++ [(("lags" : Str), D.tup [.int (lagI x.u0), .int (lagI x.u1)])]) ++ [(("sizes" : Str), D.tup [.int x.e1, .int x.e2])]) ++ [(("room" : Str), D.int x.op)]) ++ [(("turn" : Str), D.int x.turn)]) ++ [(("ring" : Str), D.int round)]) ++ [(("comes" : Str), D.tup [.int P.c0, .int P.c1])]))) := k7.trans Nx.put
  generalize put st7 p (.ins "Course" ((((((((([] : List (Str × D)) ++ [(("wheels" : Str), D.tup [.int x.u0.w, .int x.u1.w])]) ++ [(("slots" : Str), D.tup [.tup (x.u0.ss.map .int), .tup (x.u1.ss.map .int)])]) ++ [(("lags" : Str), D.tup [.int (lagI x.u0), .int (lagI x.u1)])]) ++ [(("sizes" : Str), D.tup [.int x.e1, .int x.e2])]) ++ [(("room" : Str), D.int x.op)]) ++ [(("turn" : Str), D.int x.turn)]) ++ [(("ring" : Str), D.int round)]) ++ [(("comes" : Str), D.tup [.int P.c0, .int P.c1])])) = st8 at *
  refine x_cons ?_
  refine x_sfl ?_
  repeat infer_instance
  refine sflN (C := C) g8 rfl (by simp) ?_
  have g9 : put st8 p (.ins "Course" (((((((((([] : List (Str × D)) ++ [(("wheels" : Str), D.tup [.int x.u0.w, .int x.u1.w])]) ++ [(("slots" : Str), D.tup [.tup (x.u0.ss.map .int), .tup (x.u1.ss.map .int)])]) ++ [(("lags" : Str), D.tup [.int (lagI x.u0), .int (lagI x.u1)])]) ++ [(("sizes" : Str), D.tup [.int x.e1, .int x.e2])]) ++ [(("room" : Str), D.int x.op)]) ++ [(("turn" : Str), D.int x.turn)]) ++ [(("ring" : Str), D.int round)]) ++ [(("comes" : Str), D.tup [.int P.c0, .int P.c1])]) ++ [(("tells" : Str), D.tup [.int P.T0, .int P.T1])])) p = some (.ins "Course" (((((((((([] : List (Str × D)) ++ [(("wheels" : Str), D.tup [.int x.u0.w, .int x.u1.w])]) ++ [(("slots" : Str), D.tup [.tup (x.u0.ss.map .int), .tup (x.u1.ss.map .int)])]) ++ [(("lags" : Str), D.tup [.int (lagI x.u0), .int (lagI x.u1)])]) ++ [(("sizes" : Str), D.tup [.int x.e1, .int x.e2])]) ++ [(("room" : Str), D.int x.op)]) ++ [(("turn" : Str), D.int x.turn)]) ++ [(("ring" : Str), D.int round)]) ++ [(("comes" : Str), D.tup [.int P.c0, .int P.c1])]) ++ [(("tells" : Str), D.tup [.int P.T0, .int P.T1])])) := put_same
  have k9 : Nx p st (put st8 p (.ins "Course" (((((((((([] : List (Str × D)) ++ [(("wheels" : Str), D.tup [.int x.u0.w, .int x.u1.w])]) ++ [(("slots" : Str), D.tup [.tup (x.u0.ss.map .int), .tup (x.u1.ss.map .int)])]) ++ [(("lags" : Str), D.tup [.int (lagI x.u0), .int (lagI x.u1)])]) ++ [(("sizes" : Str), D.tup [.int x.e1, .int x.e2])]) ++ [(("room" : Str), D.int x.op)]) ++ [(("turn" : Str), D.int x.turn)]) ++ [(("ring" : Str), D.int round)]) ++ [(("comes" : Str), D.tup [.int P.c0, .int P.c1])]) ++ [(("tells" : Str), D.tup [.int P.T0, .int P.T1])]))) := k8.trans Nx.put
  generalize put st8 p (.ins "Course" (((((((((([] : List (Str × D)) ++ [(("wheels" : Str), D.tup [.int x.u0.w, .int x.u1.w])]) ++ [(("slots" : Str), D.tup [.tup (x.u0.ss.map .int), .tup (x.u1.ss.map .int)])]) ++ [(("lags" : Str), D.tup [.int (lagI x.u0), .int (lagI x.u1)])]) ++ [(("sizes" : Str), D.tup [.int x.e1, .int x.e2])]) ++ [(("room" : Str), D.int x.op)]) ++ [(("turn" : Str), D.int x.turn)]) ++ [(("ring" : Str), D.int round)]) ++ [(("comes" : Str), D.tup [.int P.c0, .int P.c1])]) ++ [(("tells" : Str), D.tup [.int P.T0, .int P.T1])])) = st9 at *
  refine x_cons ?_
  refine x_sfl ?_
  repeat infer_instance
  have er : (round.toNat : Int) = round := Int.toNat_of_nonneg (by omega)
  have e0 : (x.u0.w.toNat : Int) = x.u0.w := Int.toNat_of_nonneg (by omega)
  have e1 : (x.u1.w.toNat : Int) = x.u1.w := Int.toNat_of_nonneg (by omega)
  rw [← er, ← e0]
  have l1 : Nat.lcm round.toNat x.u0.w.toNat ≤ round.toNat * x.u0.w.toNat := Nat.div_le_self _ _
  have l2 : round.toNat * x.u0.w.toNat ≤ 30 * 30 := Nat.mul_le_mul (by omega) (by omega)
  have l3 : 1 ≤ Nat.lcm round.toNat x.u0.w.toNat := Nat.lcm_pos (by omega) (by omega)
  refine mult_call (by omega) (by omega) (by omega) ?_
  repeat infer_instance
  rw [← e1]
  refine mult_call l3 (by omega) (by omega) ?_
  rw [show Nat.lcm (Nat.lcm round.toNat x.u0.w.toNat) x.u1.w.toNat = spanOf P by rw [← hP]; rfl]
  repeat infer_instance
  refine sflN (C := C) g9 rfl (by simp) ?_
  have g10 : put st9 p (.ins "Course" ((((((((((([] : List (Str × D)) ++ [(("wheels" : Str), D.tup [.int x.u0.w, .int x.u1.w])]) ++ [(("slots" : Str), D.tup [.tup (x.u0.ss.map .int), .tup (x.u1.ss.map .int)])]) ++ [(("lags" : Str), D.tup [.int (lagI x.u0), .int (lagI x.u1)])]) ++ [(("sizes" : Str), D.tup [.int x.e1, .int x.e2])]) ++ [(("room" : Str), D.int x.op)]) ++ [(("turn" : Str), D.int x.turn)]) ++ [(("ring" : Str), D.int round)]) ++ [(("comes" : Str), D.tup [.int P.c0, .int P.c1])]) ++ [(("tells" : Str), D.tup [.int P.T0, .int P.T1])]) ++ [(("span" : Str), D.int (spanOf P : Nat))])) p = some (.ins "Course" ((((((((((([] : List (Str × D)) ++ [(("wheels" : Str), D.tup [.int x.u0.w, .int x.u1.w])]) ++ [(("slots" : Str), D.tup [.tup (x.u0.ss.map .int), .tup (x.u1.ss.map .int)])]) ++ [(("lags" : Str), D.tup [.int (lagI x.u0), .int (lagI x.u1)])]) ++ [(("sizes" : Str), D.tup [.int x.e1, .int x.e2])]) ++ [(("room" : Str), D.int x.op)]) ++ [(("turn" : Str), D.int x.turn)]) ++ [(("ring" : Str), D.int round)]) ++ [(("comes" : Str), D.tup [.int P.c0, .int P.c1])]) ++ [(("tells" : Str), D.tup [.int P.T0, .int P.T1])]) ++ [(("span" : Str), D.int (spanOf P : Nat))])) := put_same
  have k10 : Nx p st (put st9 p (.ins "Course" ((((((((((([] : List (Str × D)) ++ [(("wheels" : Str), D.tup [.int x.u0.w, .int x.u1.w])]) ++ [(("slots" : Str), D.tup [.tup (x.u0.ss.map .int), .tup (x.u1.ss.map .int)])]) ++ [(("lags" : Str), D.tup [.int (lagI x.u0), .int (lagI x.u1)])]) ++ [(("sizes" : Str), D.tup [.int x.e1, .int x.e2])]) ++ [(("room" : Str), D.int x.op)]) ++ [(("turn" : Str), D.int x.turn)]) ++ [(("ring" : Str), D.int round)]) ++ [(("comes" : Str), D.tup [.int P.c0, .int P.c1])]) ++ [(("tells" : Str), D.tup [.int P.T0, .int P.T1])]) ++ [(("span" : Str), D.int (spanOf P : Nat))]))) := k9.trans Nx.put
  generalize put st9 p (.ins "Course" ((((((((((([] : List (Str × D)) ++ [(("wheels" : Str), D.tup [.int x.u0.w, .int x.u1.w])]) ++ [(("slots" : Str), D.tup [.tup (x.u0.ss.map .int), .tup (x.u1.ss.map .int)])]) ++ [(("lags" : Str), D.tup [.int (lagI x.u0), .int (lagI x.u1)])]) ++ [(("sizes" : Str), D.tup [.int x.e1, .int x.e2])]) ++ [(("room" : Str), D.int x.op)]) ++ [(("turn" : Str), D.int x.turn)]) ++ [(("ring" : Str), D.int round)]) ++ [(("comes" : Str), D.tup [.int P.c0, .int P.c1])]) ++ [(("tells" : Str), D.tup [.int P.T0, .int P.T1])]) ++ [(("span" : Str), D.int (spanOf P : Nat))])) = st10 at *
  refine x_cons ?_
  refine x_asg ?_
  repeat infer_instance
  have c0 : 1 ≤ P.m0 / Nat.gcd P.m0 P.e0 := by
    have e : P.m0 = x.u0.ss.length := by rw [← hP]; rfl
    exact Nat.div_pos (Nat.gcd_le_left _ (by omega)) (Nat.gcd_pos_of_pos_left _ (by omega))
  have c1 : 1 ≤ P.m1 / Nat.gcd P.m1 P.e1 := by
    have e : P.m1 = x.u1.ss.length := by rw [← hP]; rfl
    exact Nat.div_pos (Nat.gcd_le_left _ (by omega)) (Nat.gcd_pos_of_pos_left _ (by omega))
  have c2 : P.m0 / Nat.gcd P.m0 P.e0 ≤ 6 := by
    have e : P.m0 = x.u0.ss.length := by rw [← hP]; rfl
    have := Nat.div_le_self P.m0 (Nat.gcd P.m0 P.e0)
    omega
  refine lcK_mapT (ws := [0, 1]) (fun (i : Nat) => D.int i) (fun (i : Nat) => D.int ((if i = 0 then P.m0 / Nat.gcd P.m0 P.e0 else P.m1 / Nat.gcd P.m1 P.e1 : Nat) : Int)) (fun z => z = st10) (by rw [sizeLine_eq]; show 2 < _; decide) rfl (fun _ _ => trivial) ?_ ?_
  · rintro i z R hi rfl hR
    simp only [bindG]
    have hi : i = 0 ∨ i = 1 := by simpa using hi
    have ee : (x.e1.toNat : Int) = x.e1 := Int.toNat_of_nonneg (by omega)
    have ef : (x.e2.toNat : Int) = x.e2 := Int.toNat_of_nonneg (by omega)
    rcases hi with rfl | rfl
    · repeat infer_instance
      rw [List.length_map]
      repeat infer_instance
      rw [← ee]
      refine turns_call (by omega) (by omega) ?_
      have e : x.u0.ss.length / Nat.gcd x.u0.ss.length x.e1.toNat = P.m0 / Nat.gcd P.m0 P.e0 := by rw [← hP]; rfl
      rw [e]
      exact hR _ rfl
    · repeat infer_instance
      rw [List.length_map]
      repeat infer_instance
      rw [← ef]
      refine turns_call (by omega) (by omega) ?_
      have e : x.u1.ss.length / Nat.gcd x.u1.ss.length x.e2.toNat = P.m1 / Nat.gcd P.m1 P.e1 := by rw [← hP]; rfl
      rw [e]
      exact hR _ rfl
  rintro z rfl pc hpc
  have npc : p ≠ pc := ne_st g10 hpc
  have k11 := k10.trans (Nx.sub (sub_fresh (o := .lst [.int (P.m0 / Nat.gcd P.m0 P.e0 : Nat), .int (P.m1 / Nat.gcd P.m1 P.e1 : Nat)]) hpc))
  have g11 := st_ne (o := .lst [.int (P.m0 / Nat.gcd P.m0 P.e0 : Nat), .int (P.m1 / Nat.gcd P.m1 P.e1 : Nat)]) npc g10
  have gc : put z pc (.lst [.int (P.m0 / Nat.gcd P.m0 P.e0 : Nat), .int (P.m1 / Nat.gcd P.m1 P.e1 : Nat)]) pc = some (.lst [.int (P.m0 / Nat.gcd P.m0 P.e0 : Nat), .int (P.m1 / Nat.gcd P.m1 P.e1 : Nat)]) := put_same
  show evSs _ C _ _ (put z pc (.lst [.int (P.m0 / Nat.gcd P.m0 P.e0 : Nat), .int (P.m1 / Nat.gcd P.m1 P.e1 : Nat)])) _
  generalize put z pc (.lst [.int (P.m0 / Nat.gcd P.m0 P.e0 : Nat), .int (P.m1 / Nat.gcd P.m1 P.e1 : Nat)]) = st11 at *
  refine x_cons ?_
  refine x_sfl ?_
  repeat infer_instance
  refine mult_call c0 c1 (by omega) ?_
  rw [cycOf_eq]
  unfold crsL at h
  generalize cycOf P = cy at *
  generalize spanOf P = sp at *
  repeat infer_instance
  refine sflN (C := C) g11 rfl (by simp) ?_
  refine x_nil (F := callF dP C (n + 2)) (C := C) ?_
  refine ⟨trivial, h p _ ?_ (((k11.trans Nx.put)).subOf hp)⟩
  rw [put_same]
  rfl
end

end MP

set_option Elab.async false
set_option linter.all false
set_option maxRecDepth 100000
set_option maxHeartbeats 8000000
/-! K22g: a call's letters in the program -/
namespace MP
open PySem PySem.Spec
local macro_rules | `(tactic| infer_instance) => `(tactic| with_reducible first
  | refine k_is_N ?_ | refine k_isn_N ?_ | refine k_is_B ?_ | refine k_isn_B ?_ | refine k_is_I ?_ | refine k_isn_I ?_ | refine k_is_S ?_ | refine k_isn_S ?_ | refine k_is_T ?_ | refine k_isn_T ?_ | refine k_is_R ?_ | refine k_isn_R ?_ | refine t_nT ?_ | refine t_nF ?_ | refine t_andnT ?_ | refine t_andnF ?_ | refine t_ornT ?_ | refine t_ornF ?_
  | refine x_var (by with_unfolding_all rfl) ?_
  | refine x_nil ?_
  | refine x_cons ?_
  | refine x_asg ?_
  | refine x_sub ?_
  | refine x_ex ?_
  | refine x_ret ?_
  | refine x_retN ?_
  | refine x_iff ?_
  | refine x_for ?_
  | refine x_pass ?_
  | refine x_brk ?_
  | refine x_cont ?_
  | refine x_non ?_
  | refine x_bl ?_
  | refine x_int ?_
  | refine x_str ?_
  | refine x_bin ?_
  | refine x_cmp ?_
  | refine x_cmp2 ?_
  | refine x_bop ?_
  | refine x_ite ?_
  | refine x_tup ?_
  | refine x_lst ?_
  | refine x_ix ?_
  | refine x_call ?_
  | refine x_blt ?_
  | refine x_mth ?_
  | refine x_lc ?_
  | refine x_enil ?_
  | refine x_econs ?_
  | refine x_b1 ?_
  | refine x_tnot ?_
  | refine x_tbop ?_
  | refine x_tite ?_
  | refine x_btnil ?_
  | refine x_btcons ?_
  | refine x_ts0 ?_
  | refine x_ts1 ?_
  | refine k_add ?_
  | refine k_sub ?_
  | refine k_eqI ?_
  | refine k_neI ?_
  | refine k_ltI ?_
  | refine k_leI ?_
  | refine k_gtI ?_
  | refine k_geI ?_
  | refine k_lenT ?_
  | refine k_intI ?_
  | refine k_intB ?_
  | refine k_abs ?_
  | refine k_mxx ?_
  | refine k_min2 ?_
  | refine x_asgT ?_ (callF_mono _ _ _)
  | refine x_neg ?_ (callF_mono _ _ _)
  | refine x_not ?_ (callF_mono _ _ _)
  | refine x_isi ?_ (callF_mono _ _ _)
  | refine x_t (by with_unfolding_all rfl) (callF_mono _ _ _) ?_
  | refine x_bcons ?_ (callF_mono _ _ _)
  | refine k_ixR (rd_of (by assumption)) (by with_unfolding_all rfl) ?_
  | refine k_ixR rd_put (by with_unfolding_all rfl) ?_
  | refine k_ixT (by with_unfolding_all rfl) ?_
  | refine k_lenR (rd_of (by assumption)) ?_
  | refine k_lenR rd_put ?_
  | refine k_ixR (rd_ne (by assumption) (rd_of (by assumption))) (by with_unfolding_all rfl) ?_
  | refine k_lenR (rd_ne (by assumption) (rd_of (by assumption))) ?_
  | refine k_setP (by with_unfolding_all rfl) ?_
  | refine k_set (by assumption) (by with_unfolding_all rfl) ?_
  | refine k_set put_same (by with_unfolding_all rfl) ?_
  | refine ⟨_, isi_int_N, ?_⟩ | refine ⟨_, isi_int_B, ?_⟩ | refine ⟨_, isi_int_I, ?_⟩ | refine ⟨_, isi_int_S, ?_⟩ | refine ⟨_, isi_int_T, ?_⟩ | refine ⟨_, isi_bool_N, ?_⟩ | refine ⟨_, isi_bool_B, ?_⟩ | refine ⟨_, isi_bool_I, ?_⟩ | refine ⟨_, isi_bool_S, ?_⟩ | refine ⟨_, isi_bool_T, ?_⟩ | refine ⟨_, isi_str_N, ?_⟩ | refine ⟨_, isi_str_B, ?_⟩ | refine ⟨_, isi_str_I, ?_⟩ | refine ⟨_, isi_str_S, ?_⟩ | refine ⟨_, isi_str_T, ?_⟩ | refine ⟨_, isi_tuple_N, ?_⟩ | refine ⟨_, isi_tuple_B, ?_⟩ | refine ⟨_, isi_tuple_I, ?_⟩ | refine ⟨_, isi_tuple_S, ?_⟩ | refine ⟨_, isi_tuple_T, ?_⟩ | refine ⟨_, isi_list_N, ?_⟩ | refine ⟨_, isi_list_B, ?_⟩ | refine ⟨_, isi_list_I, ?_⟩ | refine ⟨_, isi_list_S, ?_⟩ | refine ⟨_, isi_list_T, ?_⟩
  | refine x_slc ?_ (callF_mono _ _ _) | refine k_slcT ?_ | refine k_max3 ?_ | refine k_slcR (rd_of (by assumption)) ?_ | refine i_seqR rd_put ?_ | refine i_seqR (rd_of (by assumption)) ?_ | refine i_seqT ?_ | refine i_enumT ?_ | refine i_range (by omega) (by omega) ?_ | refine i_range2 (by omega) ?_ | refine k_tupR rd_put ?_ | refine k_tupR (rd_of (by assumption)) ?_
  | refine ⟨k_ty (by assumption), ?_⟩ | refine ⟨k_ty put_same, ?_⟩ | refine ⟨k_ty (st_ne (by assumption) (by assumption)), ?_⟩
  | refine ⟨_, by with_unfolding_all rfl, ?_⟩
  | refine k_mod (by omega) ?_ | refine k_div (by omega) ?_ | refine k_mul (cmulL (by omega) (by omega)) ?_ | refine k_mul (cmulR (by omega) (by omega)) ?_ | refine k_mul cmulB ?_ | refine k_pow18 ?_ | refine t_T ?_ | refine t_F ?_ | refine t_andT ?_ | refine t_andF ?_ | refine t_orT ?_ | refine t_orF ?_ | refine t_aa ?_ | refine t_oo ?_
  | refine x_fld ?_ | refine x_um ?_ | refine x_sfl ?_ | refine k_fld (by assumption) (by with_unfolding_all rfl) ?_)

def stD (S : CSt) : D := .tup [.int S.ph, .int (S.place : Nat), .tup (S.told.map .int), .tup (S.lag.map .int), .int S.turned, .tup (S.back.map .int), .tup (S.blag.map .int), .tup (S.heard.map .int)]
section
variable {ss : List Int} {w cm T ph beg : Int} {l0 : Nat}
theorem run_ll {S : LS} : ∀ n : Nat, (ltRun ss w cm T ph beg l0 n S).lanes.length = S.lanes.length
  | 0 => rfl
  | n + 1 => by
    show ((ltRun ss w cm T ph beg l0 n S).lanes.set _ _).length = _
    rw [List.length_set, run_ll n]
theorem ltLag_len {lag : List Int} {t : Int} : (ltLag lag t).length = lag.length := by
  cases lag with
  | nil => rfl
  | cons a r =>
    show (r ++ [_]).length = r.length + 1
    rw [List.length_append]
    rfl
theorem run_lag {S : LS} : ∀ n : Nat, (ltRun ss w cm T ph beg l0 n S).lag.length = S.lag.length
  | 0 => rfl
  | n + 1 => by
    show (ltLag (ltRun ss w cm T ph beg l0 n S).lag _).length = _
    rw [ltLag_len, run_lag n]
end
section
variable {C : Kst} {n : Nat} {st : Sto} {K : D → Sto → Prop}
theorem next_call {t s w : Int} (w1 : 1 ≤ w) (h : K (.int (slotT t s w)) st) : callF dP C (n + 1) "next_slot" [.int t, .int s, .int w] [] [] st K := by
  refine call_pos P_next_slot (by simp [f_next_slot]) rfl (body_of P_next_slot rfl ?_)
  show evSs _ C b_next_slot [some (.int t), some (.int s), some (.int w)] _ _
  unfold b_next_slot
  repeat infer_instance
  exact h
theorem letters_call {p : Addr} {round : Int} {x : Cal} {P : Pm} {side : Int} {w cm T ph beg : Int} {ss lanes lag : List Int} {place e : Nat} {q1 q2 q3 q4 q5 q6 : D}
    (gC : st p = some (.ins "Course" (crsL round x P))) (hw : L2.atI [D.int x.u0.w, .int x.u1.w] side = some (.int w)) (hs : L2.atI [D.tup (x.u0.ss.map .int), .tup (x.u1.ss.map .int)] side = some (.tup (ss.map .int))) (hz : L2.atI [D.int x.e1, .int x.e2] side = some (.int e)) (hc : L2.atI [D.int P.c0, .int P.c1] side = some (.int cm)) (ht : L2.atI [D.int P.T0, .int P.T1] side = some (.int T))
    (w1 : 1 ≤ w) (m1 : 1 ≤ ss.length) (e4 : e ≤ 4) (hp : place ≤ 1000000) (hl : lanes.length = ss.length) (hg : lag.length ≤ 100)
    (h : ∀ st', Sub st st' → K (.tup [.int (ltRun ss w cm T ph beg (place * e) e ⟨lanes, lag, 0⟩).come, .tup ((ltRun ss w cm T ph beg (place * e) e ⟨lanes, lag, 0⟩).lanes.map .int), .tup ((ltRun ss w cm T ph beg (place * e) e ⟨lanes, lag, 0⟩).lag.map .int)]) st') :
    callF dP C (n + 2) "letters_told" [.ref p, .int side, .tup [.int ph, .int (place : Nat), q1, q2, q3, q4, q5, q6], .int beg, .tup (lanes.map .int), .tup (lag.map .int)] [] [] st K := by
  refine call_pos P_letters_told (by simp [f_letters_told]) rfl (body_of P_letters_told rfl ?_)
  show evSs _ C b_letters_told [some (.ref p), some (.int side), some (.tup [.int ph, .int (place : Nat), q1, q2, q3, q4, q5, q6]), some (.int beg), some (.tup (lanes.map .int)), some (.tup (lag.map .int)), none, none, none, none, none, none, none, none, none, none, none, none, none, none, none, none] _ _
  unfold b_letters_told
  repeat infer_instance
  refine k_ixT hw ?_
  repeat infer_instance
  refine k_ixT hs ?_
  repeat infer_instance
  refine k_ixT hz ?_
  repeat infer_instance
  refine k_lstT ?_
  intro pt hpt
  have npt : p ≠ pt := ne_st gC hpt
  rw [show (place : Int) * (e : Int) = ((place * e : Nat) : Int) from (Int.natCast_mul _ _).symm]
  have hF : place * e ≤ 1000000 * 4 := Nat.mul_le_mul hp e4
  generalize place * e = F at *
  repeat infer_instance
  rw [show ((F : Int) + (e : Int) - (F : Int)).toNat = e by omega]
  refine forK_of (fun i σ s => ∃ w6 w14 w15 w16, s = put st pt (.lst ((ltRun ss w cm T ph beg F i ⟨lanes, lag, 0⟩).lanes.map .int)) ∧ σ = [some (.ref p), some (.int side), some (.tup [.int ph, .int (place : Nat), q1, q2, q3, q4, q5, q6]), some (.int beg), some (.tup (lanes.map .int)), some (.tup ((ltRun ss w cm T ph beg F i ⟨lanes, lag, 0⟩).lag.map .int)), w6, some (.int w), some (.tup (ss.map .int)), some (.int e), some (.int ph), some (.int F), some (.ref pt), some (.int (ltRun ss w cm T ph beg F i ⟨lanes, lag, 0⟩).come), w14, w15, w16, none, none, none, none, none]) ⟨none, none, none, none, rfl, rfl⟩ (fun _ _ _ _ => trivial) ?_ ?_
  · rintro σ s ⟨w6, w14, w15, w16, rfl, rfl⟩
    rw [List.length_map, List.length_range]
    repeat infer_instance
    exact h _ (sub_fresh hpt)
  · rintro i y σ s R hy ⟨w6, w14, w15, w16, rfl, rfl⟩ hR
    obtain ⟨rfl, hi⟩ := at_range hy
    simp only [bindG, List.set_cons_succ, List.set_cons_zero]
    have hR' : ∀ w6 w14 w15 w16, R _ _ := fun w6 w14 w15 w16 => hR _ _ ⟨w6, w14, w15, w16, rfl, rfl⟩
    clear hR
    have eR : ltRun ss w cm T ph beg F (i + 1) ⟨lanes, lag, 0⟩ = ltStep ss w cm T ph beg (F + i) (ltRun ss w cm T ph beg F i ⟨lanes, lag, 0⟩) := rfl
    rw [eR] at hR'
    have L1 := run_ll (ss := ss) (w := w) (cm := cm) (T := T) (ph := ph) (beg := beg) (l0 := F) (S := ⟨lanes, lag, 0⟩) i
    have L2 := run_lag (ss := ss) (w := w) (cm := cm) (T := T) (ph := ph) (beg := beg) (l0 := F) (S := ⟨lanes, lag, 0⟩) i
    clear eR
    generalize ltRun ss w cm T ph beg F i ⟨lanes, lag, 0⟩ = S at *
    obtain ⟨ln, lg, co⟩ := S
    have L1 : ln.length = ss.length := L1.trans hl
    have L2 : lg.length = lag.length := L2
    unfold ltStep ltTry at hR'
    simp only [] at hR' ⊢
    have hlm : (ss.map D.int).length = ss.length := List.length_map _
    have hLm : (F + i) % ss.length < ss.length := Nat.mod_lt _ (by omega)
    have el : ((F : Int) + (i : Int)) % ((ss.map D.int).length : Int) = (((F + i) % ss.length : Nat) : Int) := by
      rw [hlm, Int.natCast_emod, Int.natCast_add]
    generalize hL : (F + i) % ss.length = L at *
    repeat infer_instance
    rw [el]
    refine k_ixR rd_put (ints_at (by omega)) ?_
    cases lg with
    | nil =>
      repeat infer_instance
      refine t_b (fun z => absurd z (by simp)) (fun _ => ?_)
      repeat infer_instance
      refine k_ixT (ints_at hLm) ?_
      repeat infer_instance
      refine next_call w1 ?_
      repeat infer_instance
      refine k_fld (st_ne npt gC) (by with_unfolding_all rfl) ?_
      repeat infer_instance
      refine k_ixT ht ?_
      repeat infer_instance
      refine k_setP (j := L) (by rw [List.length_map]; exact ixN_nat (by omega)) ?_
      repeat infer_instance
      refine k_fld (st_ne npt gC) (by with_unfolding_all rfl) ?_
      repeat infer_instance
      refine k_ixT hc ?_
      repeat infer_instance
      refine t_b (fun z => absurd z (by simp)) (fun _ => ?_)
      refine x_nil (F := callF dP C (n + 1)) (C := C) ?_
      refine x_nil (F := callF dP C (n + 1)) (C := C) ?_
      rw [List.map_set] at hR'
      exact hR' _ _ _ _
    | cons a r =>
      simp only [List.map_cons] at hR' ⊢
      repeat infer_instance
      refine t_b (fun _ => ?_) (fun z => absurd z (by simp))
      repeat infer_instance
      refine k_ixT at0 ?_
      repeat infer_instance
      refine k_ixT (ints_at hLm) ?_
      repeat infer_instance
      refine next_call w1 ?_
      repeat infer_instance
      refine k_fld (st_ne npt gC) (by with_unfolding_all rfl) ?_
      repeat infer_instance
      refine k_ixT ht ?_
      repeat infer_instance
      refine k_setP (j := L) (by rw [List.length_map]; exact ixN_nat (by omega)) ?_
      repeat infer_instance
      refine k_fld (st_ne npt gC) (by with_unfolding_all rfl) ?_
      repeat infer_instance
      refine k_ixT hc ?_
      repeat infer_instance
      refine t_b (fun _ => ?_) (fun z => absurd z (by simp))
      repeat infer_instance
      rw [show (D.int a :: r.map D.int) = (a :: r).map D.int from rfl, cut1]
      refine k_ixT (ints_last (by simp)) ?_
      repeat infer_instance
      refine k_ixR rd_put (atN (i := L) (by rw [List.getElem?_set_self (by rw [List.length_map]; omega)])) ?_
      repeat infer_instance
      refine k_catT (by rw [sizeLine_eq, List.length_map]; simp at L2 ⊢; omega) ?_
      refine x_nil (F := callF dP C (n + 1)) (C := C) ?_
      refine x_nil (F := callF dP C (n + 1)) (C := C) ?_
      unfold ltLag at hR'
      rw [List.map_set] at hR'
      simp only [List.map_append, List.map_cons, List.map_nil] at hR'
      exact hR' _ _ _ _
end

end MP

set_option Elab.async false
set_option linter.all false
set_option maxRecDepth 100000
set_option maxHeartbeats 8000000
/-! K22h: a course, its states -/
namespace MP
open PySem PySem.Spec
local macro_rules | `(tactic| infer_instance) => `(tactic| with_reducible first
  | refine k_is_N ?_ | refine k_isn_N ?_ | refine k_is_B ?_ | refine k_isn_B ?_ | refine k_is_I ?_ | refine k_isn_I ?_ | refine k_is_S ?_ | refine k_isn_S ?_ | refine k_is_T ?_ | refine k_isn_T ?_ | refine k_is_R ?_ | refine k_isn_R ?_ | refine t_nT ?_ | refine t_nF ?_ | refine t_andnT ?_ | refine t_andnF ?_ | refine t_ornT ?_ | refine t_ornF ?_
  | refine x_var (by with_unfolding_all rfl) ?_
  | refine x_nil ?_
  | refine x_cons ?_
  | refine x_asg ?_
  | refine x_sub ?_
  | refine x_ex ?_
  | refine x_ret ?_
  | refine x_retN ?_
  | refine x_iff ?_
  | refine x_for ?_
  | refine x_pass ?_
  | refine x_brk ?_
  | refine x_cont ?_
  | refine x_non ?_
  | refine x_bl ?_
  | refine x_int ?_
  | refine x_str ?_
  | refine x_bin ?_
  | refine x_cmp ?_
  | refine x_cmp2 ?_
  | refine x_bop ?_
  | refine x_ite ?_
  | refine x_tup ?_
  | refine x_lst ?_
  | refine x_ix ?_
  | refine x_call ?_
  | refine x_blt ?_
  | refine x_mth ?_
  | refine x_lc ?_
  | refine x_enil ?_
  | refine x_econs ?_
  | refine x_b1 ?_
  | refine x_tnot ?_
  | refine x_tbop ?_
  | refine x_tite ?_
  | refine x_btnil ?_
  | refine x_btcons ?_
  | refine x_ts0 ?_
  | refine x_ts1 ?_
  | refine k_add ?_
  | refine k_sub ?_
  | refine k_eqI ?_
  | refine k_neI ?_
  | refine k_ltI ?_
  | refine k_leI ?_
  | refine k_gtI ?_
  | refine k_geI ?_
  | refine k_lenT ?_
  | refine k_intI ?_
  | refine k_intB ?_
  | refine k_abs ?_
  | refine k_mxx ?_
  | refine k_min2 ?_
  | refine x_asgT ?_ (callF_mono _ _ _)
  | refine x_neg ?_ (callF_mono _ _ _)
  | refine x_not ?_ (callF_mono _ _ _)
  | refine x_isi ?_ (callF_mono _ _ _)
  | refine x_t (by with_unfolding_all rfl) (callF_mono _ _ _) ?_
  | refine x_bcons ?_ (callF_mono _ _ _)
  | refine k_ixR (rd_of (by assumption)) (by with_unfolding_all rfl) ?_
  | refine k_ixR rd_put (by with_unfolding_all rfl) ?_
  | refine k_ixT (by with_unfolding_all rfl) ?_
  | refine k_lenR (rd_of (by assumption)) ?_
  | refine k_lenR rd_put ?_
  | refine k_ixR (rd_ne (by assumption) (rd_of (by assumption))) (by with_unfolding_all rfl) ?_
  | refine k_lenR (rd_ne (by assumption) (rd_of (by assumption))) ?_
  | refine k_setP (by with_unfolding_all rfl) ?_
  | refine k_set (by assumption) (by with_unfolding_all rfl) ?_
  | refine k_set put_same (by with_unfolding_all rfl) ?_
  | refine ⟨_, isi_int_N, ?_⟩ | refine ⟨_, isi_int_B, ?_⟩ | refine ⟨_, isi_int_I, ?_⟩ | refine ⟨_, isi_int_S, ?_⟩ | refine ⟨_, isi_int_T, ?_⟩ | refine ⟨_, isi_bool_N, ?_⟩ | refine ⟨_, isi_bool_B, ?_⟩ | refine ⟨_, isi_bool_I, ?_⟩ | refine ⟨_, isi_bool_S, ?_⟩ | refine ⟨_, isi_bool_T, ?_⟩ | refine ⟨_, isi_str_N, ?_⟩ | refine ⟨_, isi_str_B, ?_⟩ | refine ⟨_, isi_str_I, ?_⟩ | refine ⟨_, isi_str_S, ?_⟩ | refine ⟨_, isi_str_T, ?_⟩ | refine ⟨_, isi_tuple_N, ?_⟩ | refine ⟨_, isi_tuple_B, ?_⟩ | refine ⟨_, isi_tuple_I, ?_⟩ | refine ⟨_, isi_tuple_S, ?_⟩ | refine ⟨_, isi_tuple_T, ?_⟩ | refine ⟨_, isi_list_N, ?_⟩ | refine ⟨_, isi_list_B, ?_⟩ | refine ⟨_, isi_list_I, ?_⟩ | refine ⟨_, isi_list_S, ?_⟩ | refine ⟨_, isi_list_T, ?_⟩
  | refine x_slc ?_ (callF_mono _ _ _) | refine k_slcT ?_ | refine k_max3 ?_ | refine k_slcR (rd_of (by assumption)) ?_ | refine i_seqR rd_put ?_ | refine i_seqR (rd_of (by assumption)) ?_ | refine i_seqT ?_ | refine i_enumT ?_ | refine i_range (by omega) (by omega) ?_ | refine i_range2 (by omega) ?_ | refine k_tupR rd_put ?_ | refine k_tupR (rd_of (by assumption)) ?_
  | refine ⟨k_ty (by assumption), ?_⟩ | refine ⟨k_ty put_same, ?_⟩ | refine ⟨k_ty (st_ne (by assumption) (by assumption)), ?_⟩
  | refine ⟨_, by with_unfolding_all rfl, ?_⟩
  | refine k_mod (by omega) ?_ | refine k_div (by omega) ?_ | refine k_mul (cmulL (by omega) (by omega)) ?_ | refine k_mul (cmulR (by omega) (by omega)) ?_ | refine k_mul cmulB ?_ | refine k_pow18 ?_ | refine t_T ?_ | refine t_F ?_ | refine t_andT ?_ | refine t_andF ?_ | refine t_orT ?_ | refine t_orF ?_ | refine t_aa ?_ | refine t_oo ?_
  | refine x_fld ?_ | refine x_um ?_ | refine x_sfl ?_ | refine k_fld (by assumption) (by with_unfolding_all rfl) ?_)

def idleC (x : Cal) (P : Pm) (start : Int) (first : Nat) : CSt := { ph := start % ((spanOf P : Nat) : Int), place := first % cycOf P, told := List.replicate x.u0.ss.length 0, lag := List.replicate (lagI x.u0).toNat 0, turned := 0, back := List.replicate x.u1.ss.length 0, blag := List.replicate (lagI x.u1).toNat 0, heard := List.replicate x.op.toNat 0 }
theorem lagI_le {u : Way} (ok : u.ok) : 0 ≤ lagI u ∧ lagI u ≤ 40 := by
  have a1 := ok.r1
  have a2 := ok.r2
  unfold lagI
  split <;> omega
section
variable {C : Kst} {n : Nat} {st : Sto} {K : D → Sto → Prop}
theorem delays0_call {v : Line} (h : K (.tup [.int v.lo, .int v.hi, .int v.low, .int v.high]) st) : callF dP C (n + 1) "delays_of" [lnD v, .int 0] [] [] st K := by
  refine call_pos P_delays_of (by simp [f_delays_of]) rfl (body_of P_delays_of rfl ?_)
  show evSs _ C b_delays_of [some (lnD v), some (.int 0), none, none, none, none] _ _
  unfold b_delays_of lnD
  repeat infer_instance
  refine t_b (fun _ => ?_) (fun z => absurd z (by decide))
  repeat infer_instance
  exact h
theorem delays1_call {v : Line} (h : K (.tup [.int v.low, .int v.high, .int v.lo, .int v.hi]) st) : callF dP C (n + 1) "delays_of" [lnD v, .int 1] [] [] st K := by
  refine call_pos P_delays_of (by simp [f_delays_of]) rfl (body_of P_delays_of rfl ?_)
  show evSs _ C b_delays_of [some (lnD v), some (.int 1), none, none, none, none] _ _
  unfold b_delays_of lnD
  repeat infer_instance
  refine t_b (fun z => absurd z (by decide)) (fun _ => ?_)
  repeat infer_instance
  exact h
theorem trip_call {v : Line} (h : K (.int (v.hi + v.high)) st) : callF dP C (n + 1) "slow_trip" [lnD v] [] [] st K := by
  refine call_pos P_slow_trip (by simp [f_slow_trip]) rfl (body_of P_slow_trip rfl ?_)
  show evSs _ C b_slow_trip [some (lnD v)] _ _
  unfold b_slow_trip lnD
  repeat infer_instance
  exact h
theorem course_call {round : Int} {cs : List Cal} {vs : List Line} {c : Nat} {x : Cal} {v : Line} (hx : cs[c]? = some x) (hv : vs[c]? = some v) (h1 : 1 ≤ round) (h2 : round ≤ 30) (ok : x.ok) (okv : v.ok) (h : ∀ p st', st' p = some (.ins "Course" (crsL round x (pmOf round x v))) → Sub st st' → K (.ref p) st') : callF dP C (n + 6) "course_of" [dsD round cs, bdD vs, .int (c : Nat), .str "slow"] [] [] st K := by
  have f1 := okv.f1
  have f2 := okv.f2
  refine call_pos P_course_of (by simp [f_course_of]) rfl (body_of P_course_of rfl ?_)
  show evSs _ C b_course_of [some (dsD round cs), some (bdD vs), some (.int (c : Nat)), some (.str "slow")] _ _
  unfold b_course_of dsD bdD
  repeat infer_instance
  refine k_ixT (atN (i := c) (v := calD x) (by rw [List.getElem?_map, hx]; rfl)) ?_
  repeat infer_instance
  refine k_ixT (atN (i := c) (v := lnD v) (by rw [List.getElem?_map, hv]; rfl)) ?_
  repeat infer_instance
  refine call_pos P_course_by (by simp [f_course_by]) rfl (body_of P_course_by rfl ?_)
  show evSs _ C b_course_by [some (.int round), some (calD x), some (lnD v), some (.str "slow"), none, none, none] _ _
  unfold b_course_by lnD calD wyD
  repeat infer_instance
  refine k_eqS ?_
  repeat infer_instance
  refine t_b (fun z => absurd z (by decide)) (fun _ => ?_)
  repeat infer_instance
  refine lcK_mapT (ws := [0, 1]) (fun (i : Nat) => D.int i) (fun (i : Nat) => D.int (if i = 0 then v.fails * x.u0.w else v.fails * x.u1.w)) (fun z => z = st) (by rw [sizeLine_eq]; show 2 < _; decide) rfl (fun _ _ => trivial) ?_ ?_
  · rintro i z R hi rfl hR
    simp only [bindG]
    have hi : i = 0 ∨ i = 1 := by simpa using hi
    rcases hi with rfl | rfl
    · repeat infer_instance
      exact hR _ rfl
    · repeat infer_instance
      exact hR _ rfl
  rintro z rfl pl hpl
  have k0 := sub_fresh (o := .lst [D.int (v.fails * x.u0.w), .int (v.fails * x.u1.w)]) hpl
  have gl : put z pl (.lst [D.int (v.fails * x.u0.w), .int (v.fails * x.u1.w)]) pl = some (.lst [D.int (v.fails * x.u0.w), .int (v.fails * x.u1.w)]) := put_same
  show evSs _ C _ _ (put z pl (.lst [D.int (v.fails * x.u0.w), .int (v.fails * x.u1.w)])) _
  generalize put z pl (.lst [D.int (v.fails * x.u0.w), .int (v.fails * x.u1.w)]) = st1 at *
  repeat infer_instance
  refine delays0_call (v := v) ?_
  repeat infer_instance
  refine delays1_call (v := v) ?_
  repeat infer_instance
  refine trip_call (v := v) ?_
  repeat infer_instance
  refine trip_call (v := v) ?_
  repeat infer_instance
  refine course_new (v := v) h1 h2 ok okv ?_
  intro p st' g s
  exact h p st' g (k0.trans s)
theorem idle_call {p : Addr} {round : Int} {x : Cal} {P : Pm} {start : Int} {first : Nat} (gC : st p = some (.ins "Course" (crsL round x P))) (hs : 1 ≤ spanOf P) (hc : 1 ≤ cycOf P) (ok : x.ok) (h : ∀ st', Sub st st' → K (stD (idleC x P start first)) st') : callF dP C (n + 1) "idle_state" [.ref p, .int start, .int (first : Nat)] [] [] st K := by
  have l0 := lagI_le ok.o0
  have l1 := lagI_le ok.o1
  have a0 := ok.o0.s2
  have a1 := ok.o1.s2
  have b1 := ok.r1
  have b2 := ok.r2
  refine call_pos P_idle_state (by simp [f_idle_state]) rfl (body_of P_idle_state rfl ?_)
  show evSs _ C b_idle_state [some (.ref p), some (.int start), some (.int (first : Nat)), none, none, none, none, none, none, none, none, none] _ _
  unfold b_idle_state
  repeat infer_instance
  refine lcK_mapT (ws := [0, 1]) (fun (i : Nat) => D.int i) (fun (i : Nat) => D.tup (List.replicate (if i = 0 then x.u0.ss.length else x.u1.ss.length) (.int 0))) (fun z => z = st) (by rw [sizeLine_eq]; show 2 < _; decide) rfl (fun _ _ => trivial) ?_ ?_
  · rintro i z R hi rfl hR
    simp only [bindG]
    have hi : i = 0 ∨ i = 1 := by simpa using hi
    rcases hi with rfl | rfl
    · repeat infer_instance
      rw [List.length_map]
      refine k_mulT (by omega) (by omega) ?_
      rw [Int.toNat_natCast]
      exact hR _ rfl
    · repeat infer_instance
      rw [List.length_map]
      refine k_mulT (by omega) (by omega) ?_
      rw [Int.toNat_natCast]
      exact hR _ rfl
  rintro z rfl pl hpl
  have k0 := sub_fresh (o := .lst [D.tup (List.replicate x.u0.ss.length (.int 0)), .tup (List.replicate x.u1.ss.length (.int 0))]) hpl
  have gl : put z pl (.lst [D.tup (List.replicate x.u0.ss.length (.int 0)), .tup (List.replicate x.u1.ss.length (.int 0))]) pl = some (.lst [D.tup (List.replicate x.u0.ss.length (.int 0)), .tup (List.replicate x.u1.ss.length (.int 0))]) := put_same
  show evSs _ C _ _ (put z pl (.lst [D.tup (List.replicate x.u0.ss.length (.int 0)), .tup (List.replicate x.u1.ss.length (.int 0))])) _
  generalize put z pl (.lst [D.tup (List.replicate x.u0.ss.length (.int 0)), .tup (List.replicate x.u1.ss.length (.int 0))]) = st1 at *
  have gC1 := k0 _ _ gC
  repeat infer_instance
  refine lcK_mapT (ws := [0, 1]) (fun (i : Nat) => D.int i) (fun (i : Nat) => D.tup (List.replicate (if i = 0 then (lagI x.u0).toNat else (lagI x.u1).toNat) (.int 0))) (fun z => z = st1) (by rw [sizeLine_eq]; show 2 < _; decide) rfl (fun _ _ => trivial) ?_ ?_
  · rintro i z R hi rfl hR
    simp only [bindG]
    have hi : i = 0 ∨ i = 1 := by simpa using hi
    rcases hi with rfl | rfl
    · repeat infer_instance
      refine k_mulT (by omega) (by omega) ?_
      exact hR _ rfl
    · repeat infer_instance
      refine k_mulT (by omega) (by omega) ?_
      exact hR _ rfl
  rintro z2 rfl pg hpg
  have k1 := sub_fresh (o := .lst [D.tup (List.replicate (lagI x.u0).toNat (.int 0)), .tup (List.replicate (lagI x.u1).toNat (.int 0))]) hpg
  have gg : put z2 pg (.lst [D.tup (List.replicate (lagI x.u0).toNat (.int 0)), .tup (List.replicate (lagI x.u1).toNat (.int 0))]) pg = some (.lst [D.tup (List.replicate (lagI x.u0).toNat (.int 0)), .tup (List.replicate (lagI x.u1).toNat (.int 0))]) := put_same
  show evSs _ C _ _ (put z2 pg (.lst [D.tup (List.replicate (lagI x.u0).toNat (.int 0)), .tup (List.replicate (lagI x.u1).toNat (.int 0))])) _
  generalize put z2 pg (.lst [D.tup (List.replicate (lagI x.u0).toNat (.int 0)), .tup (List.replicate (lagI x.u1).toNat (.int 0))]) = st2 at *
  have gC2 := k1 _ _ gC1
  have gl2 := k1 _ _ gl
  repeat infer_instance
  refine k_mulT (by omega) (by omega) ?_
  have hs0 : 0 < ((spanOf P : Nat) : Int) := by omega
  have hc0 : 0 < ((cycOf P : Nat) : Int) := by omega
  repeat infer_instance
  have e : stD (idleC x P start first) = .tup [.int (start % ((spanOf P : Nat) : Int)), .int ((first : Int) % ((cycOf P : Nat) : Int)), .tup (List.replicate x.u0.ss.length (.int 0)), .tup (List.replicate (lagI x.u0).toNat (.int 0)), .int 0, .tup (List.replicate x.u1.ss.length (.int 0)), .tup (List.replicate (lagI x.u1).toNat (.int 0)), .tup (List.replicate (max 1 x.op).toNat (.int 0))] := by
    unfold stD idleC
    rw [show max 1 x.op = x.op by omega]
    simp only [List.map_replicate, Int.natCast_emod]
  have h' := h _ (k0.trans k1)
  rw [e] at h'
  exact h'
theorem lowered_call {xs : List Int} {by' least : Int} (hz : xs.length ≤ 1000) (h : ∀ st', Sub st st' → K (.tup ((lowerL xs by' least).map .int)) st') : callF dP C (n + 1) "lowered" [.tup (xs.map .int), .int by', .int least] [] [] st K := by
  refine call_pos P_lowered (by simp [f_lowered]) rfl (body_of P_lowered rfl ?_)
  show evSs _ C b_lowered [some (.tup (xs.map .int)), some (.int by'), some (.int least), none] _ _
  unfold b_lowered
  repeat infer_instance
  refine lcK_mapT (ws := xs) D.int (fun t => D.int (max (t - by') least)) (fun z => z = st) (by rw [sizeLine_eq]; omega) rfl (fun _ _ => trivial) ?_ ?_
  · rintro t z R ht rfl hR
    simp only [bindG]
    repeat infer_instance
    exact hR _ rfl
  rintro z rfl pl hpl
  refine x_enil ?_
  refine k_tupR rd_put ?_
  have h' := h _ (sub_fresh (o := .lst (xs.map fun t => D.int (max (t - by') least))) hpl)
  unfold lowerL at h'
  rw [List.map_map] at h'
  exact h'
theorem lifted_call {p : Addr} {round : Int} {x : Cal} {P : Pm} {S : CSt} {by' : Int} (gC : st p = some (.ins "Course" (crsL round x P))) (hs : 1 ≤ spanOf P) (z1 : S.told.length ≤ 1000) (z2 : S.lag.length ≤ 1000) (z3 : S.back.length ≤ 1000) (z4 : S.blag.length ≤ 1000) (z5 : S.heard.length ≤ 1000)
    (h : ∀ st', Sub st st' → K (stD (liftC ((spanOf P : Nat) : Int) by' S)) st') : callF dP C (n + 2) "lifted" [.ref p, stD S, .int by'] [] [] st K := by
  refine call_pos P_lifted (by simp [f_lifted]) rfl (body_of P_lifted rfl ?_)
  show evSs _ C b_lifted [some (.ref p), some (stD S), some (.int by'), none, none, none, none, none, none, none, none, none, none] _ _
  unfold b_lifted stD
  have hs0 : 0 < ((spanOf P : Nat) : Int) := by omega
  repeat infer_instance
  refine lowered_call z1 fun s1 e1 => ?_
  repeat infer_instance
  refine lowered_call z2 fun s2 e2 => ?_
  repeat infer_instance
  refine lowered_call z3 fun s3 e3 => ?_
  repeat infer_instance
  refine lowered_call z4 fun s4 e4 => ?_
  repeat infer_instance
  refine lowered_call z5 fun s5 e5 => ?_
  repeat infer_instance
  refine k_catT (by rw [sizeLine_eq]; show 5 + 3 ≤ _; decide) ?_
  exact h _ ((((e1.trans e2).trans e3).trans e4).trans e5)
end

end MP

set_option Elab.async false
set_option linter.all false
set_option maxRecDepth 100000
set_option maxHeartbeats 8000000
/-! K22i: a course's facts -/
namespace MP
open PySem PySem.Spec
local macro_rules | `(tactic| infer_instance) => `(tactic| with_reducible first
  | refine k_is_N ?_ | refine k_isn_N ?_ | refine k_is_B ?_ | refine k_isn_B ?_ | refine k_is_I ?_ | refine k_isn_I ?_ | refine k_is_S ?_ | refine k_isn_S ?_ | refine k_is_T ?_ | refine k_isn_T ?_ | refine k_is_R ?_ | refine k_isn_R ?_ | refine t_nT ?_ | refine t_nF ?_ | refine t_andnT ?_ | refine t_andnF ?_ | refine t_ornT ?_ | refine t_ornF ?_
  | refine x_var (by with_unfolding_all rfl) ?_
  | refine x_nil ?_
  | refine x_cons ?_
  | refine x_asg ?_
  | refine x_sub ?_
  | refine x_ex ?_
  | refine x_ret ?_
  | refine x_retN ?_
  | refine x_iff ?_
  | refine x_for ?_
  | refine x_pass ?_
  | refine x_brk ?_
  | refine x_cont ?_
  | refine x_non ?_
  | refine x_bl ?_
  | refine x_int ?_
  | refine x_str ?_
  | refine x_bin ?_
  | refine x_cmp ?_
  | refine x_cmp2 ?_
  | refine x_bop ?_
  | refine x_ite ?_
  | refine x_tup ?_
  | refine x_lst ?_
  | refine x_ix ?_
  | refine x_call ?_
  | refine x_blt ?_
  | refine x_mth ?_
  | refine x_lc ?_
  | refine x_enil ?_
  | refine x_econs ?_
  | refine x_b1 ?_
  | refine x_tnot ?_
  | refine x_tbop ?_
  | refine x_tite ?_
  | refine x_btnil ?_
  | refine x_btcons ?_
  | refine x_ts0 ?_
  | refine x_ts1 ?_
  | refine k_add ?_
  | refine k_sub ?_
  | refine k_eqI ?_
  | refine k_neI ?_
  | refine k_ltI ?_
  | refine k_leI ?_
  | refine k_gtI ?_
  | refine k_geI ?_
  | refine k_lenT ?_
  | refine k_intI ?_
  | refine k_intB ?_
  | refine k_abs ?_
  | refine k_mxx ?_
  | refine k_min2 ?_
  | refine x_asgT ?_ (callF_mono _ _ _)
  | refine x_neg ?_ (callF_mono _ _ _)
  | refine x_not ?_ (callF_mono _ _ _)
  | refine x_isi ?_ (callF_mono _ _ _)
  | refine x_t (by with_unfolding_all rfl) (callF_mono _ _ _) ?_
  | refine x_bcons ?_ (callF_mono _ _ _)
  | refine k_ixR (rd_of (by assumption)) (by with_unfolding_all rfl) ?_
  | refine k_ixR rd_put (by with_unfolding_all rfl) ?_
  | refine k_ixT (by with_unfolding_all rfl) ?_
  | refine k_lenR (rd_of (by assumption)) ?_
  | refine k_lenR rd_put ?_
  | refine k_ixR (rd_ne (by assumption) (rd_of (by assumption))) (by with_unfolding_all rfl) ?_
  | refine k_lenR (rd_ne (by assumption) (rd_of (by assumption))) ?_
  | refine k_setP (by with_unfolding_all rfl) ?_
  | refine k_set (by assumption) (by with_unfolding_all rfl) ?_
  | refine k_set put_same (by with_unfolding_all rfl) ?_
  | refine ⟨_, isi_int_N, ?_⟩ | refine ⟨_, isi_int_B, ?_⟩ | refine ⟨_, isi_int_I, ?_⟩ | refine ⟨_, isi_int_S, ?_⟩ | refine ⟨_, isi_int_T, ?_⟩ | refine ⟨_, isi_bool_N, ?_⟩ | refine ⟨_, isi_bool_B, ?_⟩ | refine ⟨_, isi_bool_I, ?_⟩ | refine ⟨_, isi_bool_S, ?_⟩ | refine ⟨_, isi_bool_T, ?_⟩ | refine ⟨_, isi_str_N, ?_⟩ | refine ⟨_, isi_str_B, ?_⟩ | refine ⟨_, isi_str_I, ?_⟩ | refine ⟨_, isi_str_S, ?_⟩ | refine ⟨_, isi_str_T, ?_⟩ | refine ⟨_, isi_tuple_N, ?_⟩ | refine ⟨_, isi_tuple_B, ?_⟩ | refine ⟨_, isi_tuple_I, ?_⟩ | refine ⟨_, isi_tuple_S, ?_⟩ | refine ⟨_, isi_tuple_T, ?_⟩ | refine ⟨_, isi_list_N, ?_⟩ | refine ⟨_, isi_list_B, ?_⟩ | refine ⟨_, isi_list_I, ?_⟩ | refine ⟨_, isi_list_S, ?_⟩ | refine ⟨_, isi_list_T, ?_⟩
  | refine x_slc ?_ (callF_mono _ _ _) | refine k_slcT ?_ | refine k_max3 ?_ | refine k_slcR (rd_of (by assumption)) ?_ | refine i_seqR rd_put ?_ | refine i_seqR (rd_of (by assumption)) ?_ | refine i_seqT ?_ | refine i_enumT ?_ | refine i_range (by omega) (by omega) ?_ | refine i_range2 (by omega) ?_ | refine k_tupR rd_put ?_ | refine k_tupR (rd_of (by assumption)) ?_
  | refine ⟨k_ty (by assumption), ?_⟩ | refine ⟨k_ty put_same, ?_⟩ | refine ⟨k_ty (st_ne (by assumption) (by assumption)), ?_⟩
  | refine ⟨_, by with_unfolding_all rfl, ?_⟩
  | refine k_mod (by omega) ?_ | refine k_div (by omega) ?_ | refine k_mul (cmulL (by omega) (by omega)) ?_ | refine k_mul (cmulR (by omega) (by omega)) ?_ | refine k_mul cmulB ?_ | refine k_pow18 ?_ | refine t_T ?_ | refine t_F ?_ | refine t_andT ?_ | refine t_andF ?_ | refine t_orT ?_ | refine t_orF ?_ | refine t_aa ?_ | refine t_oo ?_
  | refine x_fld ?_ | refine x_um ?_ | refine x_sfl ?_ | refine k_fld (by assumption) (by with_unfolding_all rfl) ?_)

theorem span_d0 {P : Pm} (ok : P.ok) : ((spanOf P : Nat) : Int) % P.w0 = 0 := by
  have h : P.w0.toNat ∣ spanOf P := Nat.dvd_trans (Nat.dvd_lcm_right _ _) (Nat.dvd_lcm_left _ _)
  have e : (P.w0.toNat : Int) = P.w0 := Int.toNat_of_nonneg (by have := ok.w0; omega)
  rw [← e, ← Int.natCast_emod, Nat.mod_eq_zero_of_dvd h]
  rfl
theorem span_d1 {P : Pm} (ok : P.ok) : ((spanOf P : Nat) : Int) % P.w1 = 0 := by
  have h : P.w1.toNat ∣ spanOf P := Nat.dvd_lcm_right _ _
  have e : (P.w1.toNat : Int) = P.w1 := Int.toNat_of_nonneg (by have := ok.w1; omega)
  rw [← e, ← Int.natCast_emod, Nat.mod_eq_zero_of_dvd h]
  rfl
theorem span_dr {P : Pm} (ok : P.ok) : ((spanOf P : Nat) : Int) % P.ring = 0 := by
  have h : P.ring.toNat ∣ spanOf P := Nat.dvd_trans (Nat.dvd_lcm_left _ _) (Nat.dvd_lcm_left _ _)
  have e : (P.ring.toNat : Int) = P.ring := Int.toNat_of_nonneg (by have := ok.ring; omega)
  rw [← e, ← Int.natCast_emod, Nat.mod_eq_zero_of_dvd h]
  rfl
theorem span_pos {P : Pm} (ok : P.ok) : 1 ≤ spanOf P := by
  have a := ok.w0
  have b := ok.w1
  have c := ok.ring
  exact Nat.lcm_pos (Nat.lcm_pos (by omega) (by omega)) (by omega)
theorem turns_mul {m e : Nat} : m ∣ m / Nat.gcd m e * e := by
  obtain ⟨q, hq⟩ := Nat.gcd_dvd_right m e
  obtain ⟨r, hr⟩ := Nat.gcd_dvd_left m e
  refine ⟨q, ?_⟩
  have h1 : m / Nat.gcd m e * Nat.gcd m e = m := Nat.div_mul_cancel (Nat.gcd_dvd_left m e)
  calc m / Nat.gcd m e * e = m / Nat.gcd m e * (Nat.gcd m e * q) := by rw [← hq]
    _ = m / Nat.gcd m e * Nat.gcd m e * q := by rw [Nat.mul_assoc]
    _ = m * q := by rw [h1]
theorem cyc_d0 {P : Pm} : (cycOf P * P.e0) % P.m0 = 0 := by
  refine Nat.mod_eq_zero_of_dvd ?_
  exact Nat.dvd_trans turns_mul (Nat.mul_dvd_mul_right (Nat.dvd_lcm_left _ _) _)
theorem cyc_d1 {P : Pm} : (cycOf P * P.e1) % P.m1 = 0 := by
  refine Nat.mod_eq_zero_of_dvd ?_
  exact Nat.dvd_trans turns_mul (Nat.mul_dvd_mul_right (Nat.dvd_lcm_right _ _) _)
theorem turns_pos {m e : Nat} (h : 1 ≤ m) : 1 ≤ m / Nat.gcd m e := Nat.div_pos (Nat.gcd_le_left _ (by omega)) (Nat.gcd_pos_of_pos_left _ (by omega))
theorem cyc_pos {P : Pm} (ok : P.ok) : 1 ≤ cycOf P := Nat.lcm_pos (turns_pos ok.m0) (turns_pos ok.m1)
theorem cyc_le {P : Pm} (h0 : P.m0 ≤ 6) (h1 : P.m1 ≤ 6) : cycOf P ≤ 36 := by
  have a : cycOf P ≤ (P.m0 / Nat.gcd P.m0 P.e0) * (P.m1 / Nat.gcd P.m1 P.e1) := Nat.div_le_self _ _
  have b : (P.m0 / Nat.gcd P.m0 P.e0) * (P.m1 / Nat.gcd P.m1 P.e1) ≤ 6 * 6 := Nat.mul_le_mul (Nat.le_trans (Nat.div_le_self _ _) h0) (Nat.le_trans (Nat.div_le_self _ _) h1)
  omega
theorem phase0 {s sp w : Int} (h : sp % w = 0) : (s % sp - s) % w = 0 := by
  obtain ⟨q, hq⟩ := Int.dvd_of_emod_eq_zero h
  have e := Int.emod_add_mul_ediv s sp
  have e2 : s % sp - s = w * (-(q * (s / sp))) := by
    rw [Int.mul_neg, ← Int.mul_assoc, ← hq]
    omega
  rw [e2]
  exact Int.mul_emod_right _ _
theorem rep_at {m i : Nat} : ((List.replicate m (0 : Int))[i]?).getD 0 = 0 := by
  rw [List.getElem?_replicate]
  split <;> rfl
theorem lag_rel {u : Way} (ok : u.ok) : (2 * u.ss.length ≤ u.r.toNat → List.replicate (lagI u).toNat (0 : Int) = []) ∧ (u.r.toNat < 2 * u.ss.length → (List.replicate (lagI u).toNat (0 : Int)).length = u.r.toNat) := by
  have r1 := ok.r1
  unfold lagI
  refine ⟨fun h => ?_, fun h => ?_⟩
  · rw [if_pos (by omega)]
    rfl
  · rw [if_neg (by omega), List.length_replicate]
theorem rel0 {m r B : Nat} {T b : Int} {f : Nat → Int} {lag : List Int} (hb : 0 ≤ b) (hl : ∃ k, lag = List.replicate k 0) (h1 : 2 * m ≤ r → lag = []) (h2 : r < 2 * m → lag.length = r) : LRel m r T b 0 f B 0 (List.replicate m 0) lag := by
  obtain ⟨k, rfl⟩ := hl
  refine ⟨List.length_replicate, fun i hi => ?_, h1, fun hr => ⟨h2 hr, fun i hi => ?_⟩⟩
  · rw [rep_at, if_neg (by omega)]
    omega
  · rw [rep_at, if_neg (by omega)]
    omega
theorem cr_idle {round : Int} {x : Cal} {v : Line} {start : Int} {first : Nat} {Dn H f0 f1 : Nat → Int} (h1 : 1 ≤ round) (ok : x.ok) (okv : v.ok) (s0 : 0 ≤ start) {start2 : Int} {first2 : Nat} (es : start2 % ((spanOf (pmOf round x v) : Nat) : Int) = start % ((spanOf (pmOf round x v) : Nat) : Int)) (ef : first2 % cycOf (pmOf round x v) = first % cycOf (pmOf round x v)) :
    CR (pmOf round x v) start first (cycOf (pmOf round x v)) Dn H f0 f1 0 (idleC x (pmOf round x v) start2 first2) := by
  have pk := pm_ok h1 ok okv
  have oop : 1 ≤ (pmOf round x v).op := pk.op
  have eb : bgF (pmOf round x v) start H 0 = start := by
    unfold bgF
    rw [if_neg (by omega)]
  have L0 := lag_rel ok.o0
  have L1 := lag_rel ok.o1
  refine ⟨?_, ?_, ?_, ?_, ?_, ?_, ?_, ?_, ?_⟩
  · rw [eb]
    show (start2 % _ - start) % _ = 0
    rw [es]
    exact phase0 (span_d0 pk)
  · rw [eb]
    show (start2 % _ - start) % _ = 0
    rw [es]
    exact phase0 (span_d1 pk)
  · rw [eb]
    show (start2 % _ - start) % _ = 0
    rw [es]
    exact phase0 (span_dr pk)
  · show first2 % _ = _
    rw [ef, Nat.add_zero]
  · rw [eb, Nat.zero_mul]
    exact rel0 s0 ⟨_, rfl⟩ L0.1 L0.2
  · rw [eb, Nat.zero_mul]
    exact rel0 s0 ⟨_, rfl⟩ L1.1 L1.2
  · rfl
  · exact List.length_replicate
  · intro i hi
    rw [eb]
    show ((List.replicate x.op.toNat (0 : Int))[i]?).getD 0 = _
    rw [rep_at, if_neg (by omega)]
    omega
structure PmEq (round : Int) (x : Cal) (P : Pm) : Prop where
  w0 : x.u0.w = P.w0
  w1 : x.u1.w = P.w1
  s0 : x.u0.ss = P.ss0
  s1 : x.u1.ss = P.ss1
  e0 : x.e1 = (P.e0 : Int)
  e1 : x.e2 = (P.e1 : Int)
  op : x.op = (P.op : Int)
  turn : x.turn = P.turn
  ring : round = P.ring
theorem pm_eq {round : Int} {x : Cal} {v : Line} (ok : x.ok) : PmEq round x (pmOf round x v) := by
  obtain ⟨o0, o1, p1, p2, q1, q2, r1, r2⟩ := ok
  refine ⟨rfl, rfl, rfl, rfl, ?_, ?_, ?_, rfl, rfl⟩
  · exact (Int.toNat_of_nonneg (by omega)).symm
  · exact (Int.toNat_of_nonneg (by omega)).symm
  · exact (Int.toNat_of_nonneg (by omega)).symm

end MP

set_option Elab.async false
set_option linter.all false
set_option maxRecDepth 100000
set_option maxHeartbeats 1000000
/-! K22j: a call passed, a burst -/
namespace MP
open PySem PySem.Spec
local macro_rules | `(tactic| infer_instance) => `(tactic| with_reducible first
  | refine k_is_N ?_ | refine k_isn_N ?_ | refine k_is_B ?_ | refine k_isn_B ?_ | refine k_is_I ?_ | refine k_isn_I ?_ | refine k_is_S ?_ | refine k_isn_S ?_ | refine k_is_T ?_ | refine k_isn_T ?_ | refine k_is_R ?_ | refine k_isn_R ?_ | refine t_nT ?_ | refine t_nF ?_ | refine t_andnT ?_ | refine t_andnF ?_ | refine t_ornT ?_ | refine t_ornF ?_
  | refine x_var (by with_unfolding_all rfl) ?_
  | refine x_nil ?_
  | refine x_cons ?_
  | refine x_asg ?_
  | refine x_sub ?_
  | refine x_ex ?_
  | refine x_ret ?_
  | refine x_retN ?_
  | refine x_iff ?_
  | refine x_for ?_
  | refine x_pass ?_
  | refine x_brk ?_
  | refine x_cont ?_
  | refine x_non ?_
  | refine x_bl ?_
  | refine x_int ?_
  | refine x_str ?_
  | refine x_bin ?_
  | refine x_cmp ?_
  | refine x_cmp2 ?_
  | refine x_bop ?_
  | refine x_ite ?_
  | refine x_tup ?_
  | refine x_lst ?_
  | refine x_ix ?_
  | refine x_call ?_
  | refine x_blt ?_
  | refine x_mth ?_
  | refine x_lc ?_
  | refine x_enil ?_
  | refine x_econs ?_
  | refine x_b1 ?_
  | refine x_tnot ?_
  | refine x_tbop ?_
  | refine x_tite ?_
  | refine x_btnil ?_
  | refine x_btcons ?_
  | refine x_ts0 ?_
  | refine x_ts1 ?_
  | refine k_add ?_
  | refine k_sub ?_
  | refine k_eqI ?_
  | refine k_neI ?_
  | refine k_ltI ?_
  | refine k_leI ?_
  | refine k_gtI ?_
  | refine k_geI ?_
  | refine k_lenT ?_
  | refine k_intI ?_
  | refine k_intB ?_
  | refine k_abs ?_
  | refine k_mxx ?_
  | refine k_min2 ?_
  | refine x_asgT ?_ (callF_mono _ _ _)
  | refine x_neg ?_ (callF_mono _ _ _)
  | refine x_not ?_ (callF_mono _ _ _)
  | refine x_isi ?_ (callF_mono _ _ _)
  | refine x_t (by with_unfolding_all rfl) (callF_mono _ _ _) ?_
  | refine x_bcons ?_ (callF_mono _ _ _)
  | refine k_ixR (rd_of (by assumption)) (by with_unfolding_all rfl) ?_
  | refine k_ixR rd_put (by with_unfolding_all rfl) ?_
  | refine k_ixT (by with_unfolding_all rfl) ?_
  | refine k_lenR (rd_of (by assumption)) ?_
  | refine k_lenR rd_put ?_
  | refine k_ixR (rd_ne (by assumption) (rd_of (by assumption))) (by with_unfolding_all rfl) ?_
  | refine k_lenR (rd_ne (by assumption) (rd_of (by assumption))) ?_
  | refine k_setP (by with_unfolding_all rfl) ?_
  | refine k_set (by assumption) (by with_unfolding_all rfl) ?_
  | refine k_set put_same (by with_unfolding_all rfl) ?_
  | refine ⟨_, isi_int_N, ?_⟩ | refine ⟨_, isi_int_B, ?_⟩ | refine ⟨_, isi_int_I, ?_⟩ | refine ⟨_, isi_int_S, ?_⟩ | refine ⟨_, isi_int_T, ?_⟩ | refine ⟨_, isi_bool_N, ?_⟩ | refine ⟨_, isi_bool_B, ?_⟩ | refine ⟨_, isi_bool_I, ?_⟩ | refine ⟨_, isi_bool_S, ?_⟩ | refine ⟨_, isi_bool_T, ?_⟩ | refine ⟨_, isi_str_N, ?_⟩ | refine ⟨_, isi_str_B, ?_⟩ | refine ⟨_, isi_str_I, ?_⟩ | refine ⟨_, isi_str_S, ?_⟩ | refine ⟨_, isi_str_T, ?_⟩ | refine ⟨_, isi_tuple_N, ?_⟩ | refine ⟨_, isi_tuple_B, ?_⟩ | refine ⟨_, isi_tuple_I, ?_⟩ | refine ⟨_, isi_tuple_S, ?_⟩ | refine ⟨_, isi_tuple_T, ?_⟩ | refine ⟨_, isi_list_N, ?_⟩ | refine ⟨_, isi_list_B, ?_⟩ | refine ⟨_, isi_list_I, ?_⟩ | refine ⟨_, isi_list_S, ?_⟩ | refine ⟨_, isi_list_T, ?_⟩
  | refine x_slc ?_ (callF_mono _ _ _) | refine k_slcT ?_ | refine k_max3 ?_ | refine k_slcR (rd_of (by assumption)) ?_ | refine i_seqR rd_put ?_ | refine i_seqR (rd_of (by assumption)) ?_ | refine i_seqT ?_ | refine i_enumT ?_ | refine i_range (by omega) (by omega) ?_ | refine i_range2 (by omega) ?_ | refine k_tupR rd_put ?_ | refine k_tupR (rd_of (by assumption)) ?_
  | refine ⟨k_ty (by assumption), ?_⟩ | refine ⟨k_ty put_same, ?_⟩ | refine ⟨k_ty (st_ne (by assumption) (by assumption)), ?_⟩
  | refine ⟨_, by with_unfolding_all rfl, ?_⟩
  | refine k_mod (by omega) ?_ | refine k_div (by omega) ?_ | refine k_mul (cmulL (by omega) (by omega)) ?_ | refine k_mul (cmulR (by omega) (by omega)) ?_ | refine k_mul cmulB ?_ | refine k_pow18 ?_ | refine t_T ?_ | refine t_F ?_ | refine t_andT ?_ | refine t_andF ?_ | refine t_orT ?_ | refine t_orF ?_ | refine t_aa ?_ | refine t_oo ?_
  | refine x_fld ?_ | refine x_um ?_ | refine x_sfl ?_ | refine k_fld (by assumption) (by with_unfolding_all rfl) ?_)

section
variable {C : Kst} {n : Nat} {st : Sto} {K : D → Sto → Prop}
theorem passed_call {p : Addr} {round : Int} {x : Cal} {P : Pm} {S : CSt} (E : PmEq round x P) (pk : P.ok) (gC : st p = some (.ins "Course" (crsL round x P))) (ok : x.ok) (mb0 : P.m0 ≤ 6) (mb1 : P.m1 ≤ 6) (hp : S.place ≤ 1000000) (z1 : S.told.length = P.m0) (z2 : S.lag.length ≤ 100) (z3 : S.back.length = P.m1) (z4 : S.blag.length ≤ 100) (z5 : S.heard.length = P.op)
    (h : ∀ st', Sub st st' → K (.tup [.int (comeC P S), .int (shiftC P S), stD (nextC P ((spanOf P : Nat) : Int) (cycOf P) S)]) st') : callF dP C (n + 3) "call_passed" [.ref p, stD S] [] [] st K := by
  obtain ⟨o0, o1, p1, p2, q1, q2, r1, r2⟩ := ok
  have ms0 := pk.s0
  have ms1 := pk.s1
  have mm0 := pk.m0
  have mm1 := pk.m1
  have oo := pk.op
  have pw0 := pk.w0
  have pw1 := pk.w1
  have pr := pk.ring
  have Ee0 := E.e0
  have Ee1 := E.e1
  have Eop := E.op
  refine call_pos P_call_passed (by simp [f_call_passed]) rfl (body_of P_call_passed rfl ?_)
  show evSs _ C b_call_passed [some (.ref p), some (stD S), none, none, none, none, none, none, none, none, none, none, none, none, none, none] _ _
  unfold b_call_passed stD
  repeat infer_instance
  refine letters_call (side := 0) (w := P.w0) (cm := P.c0) (T := P.T0) (ss := P.ss0) (e := P.e0) gC (by rw [E.w0]; rfl) (by rw [E.s0]; rfl) (by rw [E.e0]; rfl) rfl rfl pk.w0 (by omega) (by omega) hp (by omega) z2 fun s1 e1 => ?_
  have g1 := e1 _ _ gC
  rw [show ltRun P.ss0 P.w0 P.c0 P.T0 S.ph 0 (S.place * P.e0) P.e0 ⟨S.told, S.lag, 0⟩ = goC1 P S from rfl]
  repeat infer_instance
  rw [E.turn, E.ring]
  refine next_call pr ?_
  rw [show slotT (S.ph + max (goC1 P S).come (S.turned + 1)) P.turn P.ring = turnC P S + S.ph by unfold turnC; omega]
  repeat infer_instance
  rw [show turnC P S + S.ph - S.ph = turnC P S by omega]
  refine letters_call (side := 1) (w := P.w1) (cm := P.c1) (T := P.T1) (ss := P.ss1) (e := P.e1) g1 (by rw [E.w1]; rfl) (by rw [E.s1]; rfl) (by rw [E.e1]; rfl) rfl rfl pk.w1 (by omega) (by omega) hp (by omega) z4 fun s2 e2 => ?_
  have g2 := e2 _ _ g1
  rw [show ltRun P.ss1 P.w1 P.c1 P.T1 S.ph (turnC P S) (S.place * P.e1) P.e1 ⟨S.back, S.blag, 0⟩ = goC2 P S from rfl]
  refine ⟨_, by with_unfolding_all rfl, ?_⟩
  simp only [List.set_cons_succ, List.set_cons_zero]
  refine x_cons ?_
  refine x_asg ?_
  refine x_blt ?_
  refine x_econs ?_
  refine x_var (by with_unfolding_all rfl) ?_
  refine x_econs ?_
  refine x_ix ?_
  refine x_var (by with_unfolding_all rfl) ?_
  refine x_neg ?_ (callF_mono _ _ _)
  refine x_int ?_
  refine ⟨_, rfl, ?_⟩
  refine k_ixT (ints_last (by omega)) ?_
  refine x_enil ?_
  refine k_mxx ?_
  repeat infer_instance
  rw [show max (goC2 P S).come (S.heard.getLast?.getD 0) = comeC P S from rfl, cut1]
  refine k_catT (by rw [sizeLine_eq, List.length_map, List.length_drop]; show _ + 1 ≤ _; omega) ?_
  have eH : (S.heard.drop 1).map D.int ++ [D.int (comeC P S)] = (heardC P S).map D.int := by
    unfold heardC
    rw [List.map_append]
    rfl
  have lH : (heardC P S).length = P.op := by
    unfold heardC
    rw [List.length_append, List.length_drop]
    show _ + 1 = _
    omega
  rw [eH]
  simp only [List.set_cons_succ, List.set_cons_zero]
  repeat infer_instance
  refine t_b (fun _ => ?_) (fun z => absurd z (by simp; omega))
  repeat infer_instance
  refine k_ixT (ints_at (i := 0) (by omega)) ?_
  simp only [List.set_cons_succ, List.set_cons_zero]
  rw [show ((heardC P S)[0]?).getD 0 = shiftC P S from rfl]
  have hc := cyc_pos pk
  have hs := span_pos pk
  have hc0 : 0 < ((cycOf P : Nat) : Int) := by omega
  repeat infer_instance
  rw [show ((S.place : Int) + 1) % ((cycOf P : Nat) : Int) = (((S.place + 1) % cycOf P : Nat) : Int) by rw [Int.natCast_emod]; rfl]
  have l1 : (goC1 P S).lanes.length = S.told.length := run_ll _
  have l2 : (goC1 P S).lag.length = S.lag.length := run_lag _
  have l3 : (goC2 P S).lanes.length = S.back.length := run_ll _
  have l4 : (goC2 P S).lag.length = S.blag.length := run_lag _
  refine lifted_call (S := { ph := S.ph, place := (S.place + 1) % cycOf P, told := (goC1 P S).lanes, lag := (goC1 P S).lag, turned := turnC P S, back := (goC2 P S).lanes, blag := (goC2 P S).lag, heard := heardC P S }) g2 hs ?_ ?_ ?_ ?_ ?_ fun s3 e3 => ?_
  · show (goC1 P S).lanes.length ≤ 1000; omega
  · show (goC1 P S).lag.length ≤ 1000; omega
  · show (goC2 P S).lanes.length ≤ 1000; omega
  · show (goC2 P S).lag.length ≤ 1000; omega
  · show (heardC P S).length ≤ 1000; omega
  repeat infer_instance
  exact h _ ((e1.trans e2).trans e3)
theorem burst_call {p : Addr} {round : Int} {x : Cal} {v : Line} {P : Pm} {start : Int} {first N many : Nat} {Dn H f0 f1 : Nat → Int} {start2 : Int} {first2 : Nat} (hP : P = pmOf round x v) (gC : st p = some (.ins "Course" (crsL round x P))) (h1 : 1 ≤ round) (ok : x.ok) (okv : v.ok) (s0 : 0 ≤ start) (L : LR P start first Dn H f0 f1 N) (hm : many ≤ N) (hz : many ≤ 1000)
    (es : start2 % ((spanOf P : Nat) : Int) = start % ((spanOf P : Nat) : Int)) (ef : first2 % cycOf P = first % cycOf P)
    (h : ∀ st', Sub st st' → K (.tup ((List.range many).map fun k => D.int (H k - start))) st') : callF dP C (n + 4) "burst_ticks" [.ref p, .int start2, .int (first2 : Nat), .int (many : Nat)] [] [] st K := by
  have pk : P.ok := by rw [hP]; exact pm_ok h1 ok okv
  have E : PmEq round x P := by rw [hP]; exact pm_eq ok
  have CI : CR P start first (cycOf P) Dn H f0 f1 0 (idleC x P start2 first2) := by
    subst hP
    exact cr_idle h1 ok okv s0 es ef
  have hs := span_pos pk
  have hc := cyc_pos pk
  have hcl : cycOf P ≤ 36 := cyc_le (by rw [← pk.s0, ← E.s0]; exact ok.o0.s2) (by rw [← pk.s1, ← E.s1]; exact ok.o1.s2)
  refine call_pos P_burst_ticks (by simp [f_burst_ticks]) rfl (body_of P_burst_ticks rfl ?_)
  show evSs _ C b_burst_ticks [some (.ref p), some (.int start2), some (.int (first2 : Nat)), some (.int (many : Nat)), none, none, none, none, none, none] _ _
  unfold b_burst_ticks
  repeat infer_instance
  refine idle_call gC hs hc ok fun s1 e1 => ?_
  have g1 := e1 _ _ gC
  repeat infer_instance
  intro pt hpt
  have npt : p ≠ pt := ne_st g1 hpt
  repeat infer_instance
  rw [show ((many : Int)).toNat = many by omega]
  refine forK_of (fun i σ s => ∃ S w4 w8 w9, CR P start first (cycOf P) Dn H f0 f1 i S ∧ s pt = some (.lst ((List.range i).map fun k => D.int (H k - start))) ∧ (∀ q o, q ≠ pt → s1 q = some o → s q = some o) ∧ σ = [some (.ref p), some (.int start2), some (.int (first2 : Nat)), some (.int (many : Nat)), w4, some (stD S), some (.int (bgF P start H i - start)), some (.ref pt), w8, w9]) ⟨_, none, none, none, CI, put_same, fun q o n e => by rw [put_ne n]; exact e, ?_⟩ (fun _ _ _ _ => trivial) ?_ ?_
  · have eb : bgF P start H 0 = start := by
      have oop : 1 ≤ P.op := pk.op
      unfold bgF
      rw [if_neg (by omega)]
    rw [eb, Int.sub_self]
    rfl
  · rintro σ s ⟨S, w4, w8, w9, hS, gp, kp, rfl⟩
    rw [List.length_map, List.length_range] at gp
    repeat infer_instance
    refine h _ (e1.trans ?_)
    intro q o e
    exact kp q o (fun z => by subst z; rw [hpt] at e; cases e) e
  · rintro i y σ s R hy ⟨S, w4, w8, w9, hS, gp, kp, rfl⟩ hR
    obtain ⟨rfl, hi⟩ := at_range hy
    simp only [bindG, List.set_cons_succ, List.set_cons_zero]
    obtain ⟨c1, c2, c3⟩ := call_rel pk s0 L (span_d0 pk) (span_d1 pk) (span_dr pk) cyc_d0 cyc_d1 (show i < N by omega) hS
    have gs := kp _ _ npt g1
    have hp : S.place ≤ 1000000 := by
      have := hS.pl
      have := Nat.mod_lt (first + i) (show 0 < cycOf P by omega)
      omega
    have o3 : P.m0 ≤ 6 := by rw [← pk.s0, ← E.s0]; exact ok.o0.s2
    have o4 : P.m1 ≤ 6 := by rw [← pk.s1, ← E.s1]; exact ok.o1.s2
    have lagb : ∀ {m r : Nat} {T b gg : Int} {f : Nat → Int} {B N : Nat} {la lg : List Int}, m ≤ 6 → LRel m r T b gg f B N la lg → lg.length ≤ 100 := by
      intro m r T b gg f B N la lg hm h
      rcases Nat.lt_or_ge r (2 * m) with q | q
      · have := (h.l1 q).1
        omega
      · rw [h.l0 q]
        exact Nat.zero_le _
    refine x_cons ?_
    refine x_asgT ?_ (callF_mono _ _ _)
    repeat infer_instance
    refine passed_call E pk gs ok o3 o4 hp hS.a0.ll (lagb o3 hS.a0) hS.a1.ll (lagb o4 hS.a1) hS.hl fun s2 e2 => ?_
    have gp2 := e2 _ _ gp
    refine ⟨_, by with_unfolding_all rfl, ?_⟩
    rw [c1, c2]
    repeat infer_instance
    refine k_app gp2 (by rw [List.length_map, List.length_range, sizeLine_eq]; omega) ?_
    repeat infer_instance
    refine x_augA (by with_unfolding_all rfl) (callF_mono _ _ _) ?_
    repeat infer_instance
    refine hR _ _ ⟨nextC P ((spanOf P : Nat) : Int) (cycOf P) S, some (.int (i : Nat)), some (.int (H i - bgF P start H i)), some (.int (bgF P start H (i + 1) - bgF P start H i)), c3, ?_, ?_, ?_⟩
    · rw [put_same, List.range_succ, List.map_append]
      congr 3
      show [D.int _] = [D.int _]
      congr 2
      omega
    · intro q o n e
      rw [put_ne n]
      exact e2 _ _ (kp q o n e)
    · simp only [List.set_cons_succ, List.set_cons_zero]
      rw [show bgF P start H i - start + (bgF P start H (i + 1) - bgF P start H i) = bgF P start H (i + 1) - start by omega]
end

end MP

set_option Elab.async false
set_option linter.all false
set_option maxRecDepth 100000
set_option maxHeartbeats 8000000
/-! K22k: the law's run, by lists -/
namespace MP
open PySem PySem.Spec
def fA (fs : List Int) (j : Nat) : Int := (fs[j]?).getD 0
theorem fA_app {fs gs : List Int} {j : Nat} (h : j < fs.length) : fA (fs ++ gs) j = fA fs j := by
  unfold fA
  rw [List.getElem?_append_left h]
theorem fA_last {fs : List Int} {v : Int} : fA (fs ++ [v]) fs.length = v := by
  unfold fA
  rw [List.getElem?_append_right (Nat.le_refl _), Nat.sub_self]
  rfl
theorem rm_congr {cm : Int} {f f' : Nat → Int} : ∀ {j : Nat}, (∀ i, i < j → f i = f' i) → Rm cm f j = Rm cm f' j
  | 0, _ => rfl
  | j + 1, h => by
    show max (Rm cm f j) (f j + cm) = max (Rm cm f' j) (f' j + cm)
    rw [rm_congr (j := j) fun i hi => h i (by omega), h j (by omega)]
theorem um_rm {T : Int} {f : Nat → Int} (h : 0 ≤ f 0 + T) : ∀ {j : Nat}, Um T f j = Rm T f (j + 1)
  | 0 => by
    show f 0 + T = max (-1) (f 0 + T)
    omega
  | j + 1 => by
    show max (Um T f j) (f (j + 1) + T) = max (Rm T f (j + 1)) (f (j + 1) + T)
    rw [um_rm h]
theorem rdy_congr {m r j : Nat} {T : Int} {g g' f f' : Nat → Int} (hm : 1 ≤ m) (hr : 1 ≤ r) (hg : g j = g' j) (hf : ∀ i, i < j → f i = f' i) : rdyF m r T g f j = rdyF m r T g' f' j := by
  unfold rdyF
  rw [hg]
  have e1 : (if m ≤ j then f (j - m) + T else 0) = if m ≤ j then f' (j - m) + T else 0 := by
    split
    · rw [hf _ (by omega)]
    · rfl
  have e2 : (if r ≤ j then Um T f (j - r) else 0) = if r ≤ j then Um T f' (j - r) else 0 := by
    split
    · exact um_congr fun i hi => hf i (by omega)
    · rfl
  rw [e1, e2]
structure FF (m r : Nat) (w T : Int) (sl g : Nat → Int) (fs : List Int) : Prop where
  fe : ∀ j, j < fs.length → fA fs j = slotT (rdyF m r T g (fA fs) j) (sl j) w
section
variable {m r : Nat} {w T : Int} {sl g g' : Nat → Int} {fs : List Int}
theorem FF.snoc {b x : Int} (h : FF m r w T sl g fs) (hm : 1 ≤ m) (hr : 1 ≤ r) (hg : g fs.length = b) (hx : x = slotT (rdyF m r T (fun _ => b) (fA fs) fs.length) (sl fs.length) w) : FF m r w T sl g (fs ++ [x]) := by
  refine ⟨fun j hj => ?_⟩
  rw [List.length_append] at hj
  have hj : j < fs.length + 1 := hj
  rcases Nat.lt_or_ge j fs.length with q | q
  · rw [fA_app q, h.fe j q]
    congr 1
    exact rdy_congr hm hr rfl fun i hi => (fA_app (by omega)).symm
  · have e : j = fs.length := by omega
    subst e
    rw [fA_last, hx]
    congr 1
    exact rdy_congr hm hr hg.symm fun i hi => (fA_app hi).symm
theorem FF.congr (h : FF m r w T sl g fs) (hm : 1 ≤ m) (hr : 1 ≤ r) (hg : ∀ j, j < fs.length → g j = g' j) : FF m r w T sl g' fs :=
  ⟨fun j hj => by
    rw [h.fe j hj]
    congr 1
    exact rdy_congr hm hr (hg j hj) fun _ _ => rfl⟩
theorem FF.ge (h : FF m r w T sl g fs) (w1 : 1 ≤ w) {j : Nat} (hj : j < fs.length) : g j ≤ fA fs j := by
  rw [h.fe j hj]
  have h5 := slot_ge (t := rdyF m r T g (fA fs) j) (s := sl j) w1
  have h6 : g j ≤ rdyF m r T g (fA fs) j := rdy_g
  omega
end
structure CS where
  s0 : List Int
  s1 : List Int
  begun : List Int
  done : List Int
  heard : List Int
def sl0 (P : Pm) (first : Nat) (j : Nat) : Int := (P.ss0[(first * P.e0 + j) % P.m0]?).getD 0
def sl1 (P : Pm) (first : Nat) (j : Nat) : Int := (P.ss1[(first * P.e1 + j) % P.m1]?).getD 0
def g0F (P : Pm) (start : Int) (hs : List Int) (j : Nat) : Int := bgF P start (fA hs) (j / P.e0)
def g1F (P : Pm) (ds : List Int) (j : Nat) : Int := fA ds (j / P.e1)
structure Inv (P : Pm) (start : Int) (first : Nat) (k : Nat) (S : CS) : Prop where
  l0 : S.s0.length = k * P.e0
  l1 : S.s1.length = k * P.e1
  lb : S.begun.length = k
  ld : S.done.length = k
  lh : S.heard.length = k
  i0 : FF P.m0 P.r0 P.w0 P.T0 (sl0 P first) (g0F P start S.heard) S.s0
  i1 : FF P.m1 P.r1 P.w1 P.T1 (sl1 P first) (g1F P S.done) S.s1
  dn : ∀ j, j < k → fA S.done j = slotT (if j = 0 then Rm P.c0 (fA S.s0) P.e0 else max (Rm P.c0 (fA S.s0) ((j + 1) * P.e0)) (fA S.done (j - 1) + 1)) P.turn P.ring
  hh : ∀ j, j < k → fA S.heard j = Rm P.c1 (fA S.s1) ((j + 1) * P.e1)
section
variable {P : Pm} {start : Int} {first k : Nat} {S : CS}
theorem Inv.lr (h : Inv P start first k S) : LR P start first (fA S.done) (fA S.heard) (fA S.s0) (fA S.s1) k :=
  ⟨fun j hj => h.i0.fe j (by rw [h.l0]; exact hj), h.dn, fun j hj => h.i1.fe j (by rw [h.l1]; exact hj), h.hh⟩
theorem Inv.zero : Inv P start first 0 ⟨[], [], [], [], []⟩ :=
  ⟨by rw [Nat.zero_mul]; rfl, by rw [Nat.zero_mul]; rfl, rfl, rfl, rfl, ⟨fun j hj => absurd hj (Nat.not_lt_zero _)⟩, ⟨fun j hj => absurd hj (Nat.not_lt_zero _)⟩, fun j hj => absurd hj (Nat.not_lt_zero _), fun j hj => absurd hj (Nat.not_lt_zero _)⟩
theorem bgF_app (ok : P.ok) {hs : List Int} {x : Int} {j : Nat} (hl : hs.length = k) (hj : j ≤ k) : bgF P start (fA (hs ++ [x])) j = bgF P start (fA hs) j := by
  have o := ok.op
  unfold bgF
  split
  · rw [fA_app (by omega)]
  · rfl
theorem Inv.step (ok : P.ok) (h : Inv P start first k S) {W0 W1 : List Int} {b d r0 r1 : Int} (e0 : W0.length = (k + 1) * P.e0) (e1 : W1.length = (k + 1) * P.e1) (a0 : ∀ j, j < k * P.e0 → fA W0 j = fA S.s0 j) (a1 : ∀ j, j < k * P.e1 → fA W1 j = fA S.s1 j)
    (f0 : FF P.m0 P.r0 P.w0 P.T0 (sl0 P first) (g0F P start S.heard) W0) (f1 : FF P.m1 P.r1 P.w1 P.T1 (sl1 P first) (g1F P (S.done ++ [d])) W1)
    (hr0 : r0 = Rm P.c0 (fA W0) ((k + 1) * P.e0)) (hd : d = slotT (if k = 0 then r0 else max r0 (fA S.done (k - 1) + 1)) P.turn P.ring) (hr1 : r1 = Rm P.c1 (fA W1) ((k + 1) * P.e1)) :
    Inv P start first (k + 1) ⟨W0, W1, S.begun ++ [b], S.done ++ [d], S.heard ++ [r1]⟩ := by
  have oe0 := ok.e0
  have oe1 := ok.e1
  refine ⟨e0, e1, by rw [List.length_append, h.lb]; rfl, by rw [List.length_append, h.ld]; rfl, by rw [List.length_append, h.lh]; rfl, ?_, f1, ?_, ?_⟩
  · refine f0.congr ok.m0 ok.r0 fun j hj => ?_
    have := div_lt (show j < (k + 1) * P.e0 by rw [← e0]; exact hj)
    unfold g0F
    rw [bgF_app ok h.lh (by omega)]
  · intro j hj
    show fA (S.done ++ [d]) j = slotT (if j = 0 then Rm P.c0 (fA W0) P.e0 else max (Rm P.c0 (fA W0) ((j + 1) * P.e0)) (fA (S.done ++ [d]) (j - 1) + 1)) P.turn P.ring
    rcases Nat.lt_or_ge j k with q | q
    · have m1 : (j + 1) * P.e0 ≤ k * P.e0 := Nat.mul_le_mul_right _ (by omega)
      have m2 : 1 * P.e0 ≤ k * P.e0 := Nat.mul_le_mul_right _ (by omega)
      rw [fA_app (by rw [h.ld]; exact q), fA_app (by rw [h.ld]; omega), h.dn j q, rm_congr (f := fA W0) (f' := fA S.s0) (j := P.e0) fun i hi => a0 i (by omega), rm_congr (f := fA W0) (f' := fA S.s0) (j := (j + 1) * P.e0) fun i hi => a0 i (by omega)]
    · have e : j = k := by omega
      subst e
      have e9 : fA (S.done ++ [d]) j = d := by
        have := fA_last (fs := S.done) (v := d)
        rw [h.ld] at this
        exact this
      rw [e9, hd, hr0]
      congr 1
      by_cases z : j = 0
      · subst z
        rw [if_pos rfl, if_pos rfl]
        congr 1
        omega
      · rw [if_neg z, if_neg z, fA_app (by rw [h.ld]; omega)]
  · intro j hj
    show fA (S.heard ++ [r1]) j = Rm P.c1 (fA W1) ((j + 1) * P.e1)
    rcases Nat.lt_or_ge j k with q | q
    · have m1 : (j + 1) * P.e1 ≤ k * P.e1 := Nat.mul_le_mul_right _ (by omega)
      rw [fA_app (by rw [h.lh]; exact q), h.hh j q, rm_congr (f := fA W1) (f' := fA S.s1) (j := (j + 1) * P.e1) fun i hi => a1 i (by omega)]
    · have e : j = k := by omega
      subst e
      have := fA_last (fs := S.heard) (v := r1)
      rw [h.lh] at this
      rw [this, hr1]
end

end MP

set_option Elab.async false
set_option linter.all false
set_option maxRecDepth 100000
set_option maxHeartbeats 8000000
/-! K22l: the law's flows -/
namespace MP
open PySem PySem.Spec
local macro_rules | `(tactic| infer_instance) => `(tactic| with_reducible first
  | refine k_is_N ?_ | refine k_isn_N ?_ | refine k_is_B ?_ | refine k_isn_B ?_ | refine k_is_I ?_ | refine k_isn_I ?_ | refine k_is_S ?_ | refine k_isn_S ?_ | refine k_is_T ?_ | refine k_isn_T ?_ | refine k_is_R ?_ | refine k_isn_R ?_ | refine t_nT ?_ | refine t_nF ?_ | refine t_andnT ?_ | refine t_andnF ?_ | refine t_ornT ?_ | refine t_ornF ?_
  | refine x_var (by with_unfolding_all rfl) ?_
  | refine x_nil ?_
  | refine x_cons ?_
  | refine x_asg ?_
  | refine x_sub ?_
  | refine x_ex ?_
  | refine x_ret ?_
  | refine x_retN ?_
  | refine x_iff ?_
  | refine x_for ?_
  | refine x_pass ?_
  | refine x_brk ?_
  | refine x_cont ?_
  | refine x_non ?_
  | refine x_bl ?_
  | refine x_int ?_
  | refine x_str ?_
  | refine x_bin ?_
  | refine x_cmp ?_
  | refine x_cmp2 ?_
  | refine x_bop ?_
  | refine x_ite ?_
  | refine x_tup ?_
  | refine x_lst ?_
  | refine x_ix ?_
  | refine x_call ?_
  | refine x_blt ?_
  | refine x_mth ?_
  | refine x_lc ?_
  | refine x_enil ?_
  | refine x_econs ?_
  | refine x_b1 ?_
  | refine x_tnot ?_
  | refine x_tbop ?_
  | refine x_tite ?_
  | refine x_btnil ?_
  | refine x_btcons ?_
  | refine x_ts0 ?_
  | refine x_ts1 ?_
  | refine k_add ?_
  | refine k_sub ?_
  | refine k_eqI ?_
  | refine k_neI ?_
  | refine k_ltI ?_
  | refine k_leI ?_
  | refine k_gtI ?_
  | refine k_geI ?_
  | refine k_lenT ?_
  | refine k_intI ?_
  | refine k_intB ?_
  | refine k_abs ?_
  | refine k_mxx ?_
  | refine k_min2 ?_
  | refine x_asgT ?_ (callF_mono _ _ _)
  | refine x_neg ?_ (callF_mono _ _ _)
  | refine x_not ?_ (callF_mono _ _ _)
  | refine x_isi ?_ (callF_mono _ _ _)
  | refine x_t (by with_unfolding_all rfl) (callF_mono _ _ _) ?_
  | refine x_bcons ?_ (callF_mono _ _ _)
  | refine k_ixR (rd_of (by assumption)) (by with_unfolding_all rfl) ?_
  | refine k_ixR rd_put (by with_unfolding_all rfl) ?_
  | refine k_ixT (by with_unfolding_all rfl) ?_
  | refine k_lenR (rd_of (by assumption)) ?_
  | refine k_lenR rd_put ?_
  | refine k_ixR (rd_ne (by assumption) (rd_of (by assumption))) (by with_unfolding_all rfl) ?_
  | refine k_lenR (rd_ne (by assumption) (rd_of (by assumption))) ?_
  | refine k_setP (by with_unfolding_all rfl) ?_
  | refine k_set (by assumption) (by with_unfolding_all rfl) ?_
  | refine k_set put_same (by with_unfolding_all rfl) ?_
  | refine ⟨_, isi_int_N, ?_⟩ | refine ⟨_, isi_int_B, ?_⟩ | refine ⟨_, isi_int_I, ?_⟩ | refine ⟨_, isi_int_S, ?_⟩ | refine ⟨_, isi_int_T, ?_⟩ | refine ⟨_, isi_bool_N, ?_⟩ | refine ⟨_, isi_bool_B, ?_⟩ | refine ⟨_, isi_bool_I, ?_⟩ | refine ⟨_, isi_bool_S, ?_⟩ | refine ⟨_, isi_bool_T, ?_⟩ | refine ⟨_, isi_str_N, ?_⟩ | refine ⟨_, isi_str_B, ?_⟩ | refine ⟨_, isi_str_I, ?_⟩ | refine ⟨_, isi_str_S, ?_⟩ | refine ⟨_, isi_str_T, ?_⟩ | refine ⟨_, isi_tuple_N, ?_⟩ | refine ⟨_, isi_tuple_B, ?_⟩ | refine ⟨_, isi_tuple_I, ?_⟩ | refine ⟨_, isi_tuple_S, ?_⟩ | refine ⟨_, isi_tuple_T, ?_⟩ | refine ⟨_, isi_list_N, ?_⟩ | refine ⟨_, isi_list_B, ?_⟩ | refine ⟨_, isi_list_I, ?_⟩ | refine ⟨_, isi_list_S, ?_⟩ | refine ⟨_, isi_list_T, ?_⟩
  | refine x_slc ?_ (callF_mono _ _ _) | refine k_slcT ?_ | refine k_max3 ?_ | refine k_slcR (rd_of (by assumption)) ?_ | refine i_seqR rd_put ?_ | refine i_seqR (rd_of (by assumption)) ?_ | refine i_seqT ?_ | refine i_enumT ?_ | refine i_range (by omega) (by omega) ?_ | refine i_range2 (by omega) ?_ | refine k_tupR rd_put ?_ | refine k_tupR (rd_of (by assumption)) ?_
  | refine ⟨k_ty (by assumption), ?_⟩ | refine ⟨k_ty put_same, ?_⟩ | refine ⟨k_ty (st_ne (by assumption) (by assumption)), ?_⟩
  | refine ⟨_, by with_unfolding_all rfl, ?_⟩
  | refine k_mod (by omega) ?_ | refine k_div (by omega) ?_ | refine k_mul (cmulL (by omega) (by omega)) ?_ | refine k_mul (cmulR (by omega) (by omega)) ?_ | refine k_mul cmulB ?_ | refine k_pow18 ?_ | refine t_T ?_ | refine t_F ?_ | refine t_andT ?_ | refine t_andF ?_ | refine t_orT ?_ | refine t_orF ?_ | refine t_aa ?_ | refine t_oo ?_
  | refine x_fld ?_ | refine x_um ?_ | refine x_sfl ?_ | refine k_fld (by assumption) (by with_unfolding_all rfl) ?_)

theorem k_max3 {C : Kst} {st : Sto} {K : D → Sto → Prop} {i j k : Int} (h : K (.int (max (max i j) k)) st) : bltK C "max" [.int i, .int j, .int k] st K := h
/-- a flow of the law's own: the ticks told by numbers, the greatest up to each, the rows -/
structure Fa where
  p : Addr
  t : Addr
  u : Addr
  a : Addr
def Fa.ls (A : Fa) : List Addr := [A.p, A.t, A.u, A.a]
def flowD (A : Fa) (tp rd : Int) : List (L2.Key × D) := [(.inr "told", .ref A.t), (.inr "upto", .ref A.u), (.inr "top", .int tp), (.inr "read", .int rd), (.inr "all", .ref A.a)]
def fateK (c s l : Int) : List L2.Key := [.inl c, .inl s, .inl l]
/-- a dict by numbers, from the first on -/
def NumD (st : Sto) (a : Addr) (B : Nat) (xs : List Int) : Prop := ∃ kvs, st a = some (.dct kvs) ∧ kvs.length ≤ xs.length ∧ ∀ z : Int, lookD kvs (.inl z) = if (B : Int) ≤ z then (xs[(z - B).toNat]?).map .int else none
def UL (T : Int) (fs : List Int) : List Int := (List.range fs.length).map fun j => Rm T (fA fs) (j + 1)
theorem rm_snoc {cm x : Int} {fs : List Int} : Rm cm (fA (fs ++ [x])) (fs.length + 1) = max (Rm cm (fA fs) fs.length) (x + cm) := by
  show max (Rm cm (fA (fs ++ [x])) fs.length) (fA (fs ++ [x]) fs.length + cm) = _
  rw [fA_last, rm_congr (f := fA (fs ++ [x])) (f' := fA fs) fun i hi => fA_app hi]
theorem ul_snoc {T x : Int} {fs : List Int} : UL T (fs ++ [x]) = UL T fs ++ [Rm T (fA (fs ++ [x])) (fs.length + 1)] := by
  unfold UL
  rw [List.length_append]
  show (List.range (fs.length + 1)).map _ = _
  rw [List.range_succ, List.map_append]
  congr 1
  refine List.map_congr_left fun j hj => ?_
  rw [List.mem_range] at hj
  exact rm_congr fun i hi => fA_app (by omega)
theorem ul_at {T : Int} {fs : List Int} {j : Nat} (h : j < fs.length) : ((UL T fs)[j]?).getD 0 = Rm T (fA fs) (j + 1) := by
  unfold UL
  rw [List.getElem?_map, List.getElem?_eq_getElem (by rw [List.length_range]; exact h), List.getElem_range]
  rfl
structure FlwAt (st : Sto) (A : Fa) (B : Nat) (T cm : Int) (fs : List Int) : Prop where
  hp : st A.p = some (.dct (flowD A (Rm T (fA fs) fs.length) (Rm cm (fA fs) fs.length)))
  ht : NumD st A.t B (fs.map (· + T))
  hu : NumD st A.u B (UL T fs)
  ha : ∃ rs : List D, st A.a = some (.lst rs) ∧ rs.length = fs.length
  nd : A.ls.Nodup
theorem FlwAt.keep {st st' : Sto} {A : Fa} {B : Nat} {T cm : Int} {fs : List Int} (h : FlwAt st A B T cm fs) (k : ∀ q ∈ A.ls, st' q = st q) : FlwAt st' A B T cm fs := by
  obtain ⟨h1, ⟨kvs, h2, h3⟩, ⟨lvs, h4, h5⟩, ⟨rs, h6, h7⟩, h8⟩ := h
  exact ⟨by rw [k _ (by simp [Fa.ls])]; exact h1, ⟨kvs, by rw [k _ (by simp [Fa.ls])]; exact h2, h3⟩, ⟨lvs, by rw [k _ (by simp [Fa.ls])]; exact h4, h5⟩, ⟨rs, by rw [k _ (by simp [Fa.ls])]; exact h6, h7⟩, h8⟩
theorem NumD.nil {st : Sto} {a : Addr} {B : Nat} (h : st a = some (.dct [])) : NumD st a B [] := ⟨[], h, Nat.le_refl _, fun z => by
  show none = _
  split <;> rfl⟩
theorem NumD.get {st : Sto} {a : Addr} {B : Nat} {xs : List Int} {z : Int} {K : D → Sto → Prop} (h : NumD st a B xs) (k : K (.int (if (B : Int) ≤ z then (xs[(z - B).toNat]?).getD 0 else 0)) st) : mthK .dict "get" (.ref a) [.int z, .int 0] st K := by
  obtain ⟨kvs, h1, h2, h3⟩ := h
  refine k_get2 (dct_of h1) rfl ?_
  rw [h3]
  by_cases hz : (B : Int) ≤ z
  · rw [if_pos hz] at k ⊢
    cases hx : xs[(z - B).toNat]? with
    | none => rw [hx] at k; exact k
    | some y => rw [hx] at k; exact k
  · rw [if_neg hz] at k ⊢
    exact k
theorem NumD.put {st : Sto} {a : Addr} {B N : Nat} {xs : List Int} {y : Int} {KS : Sto → Prop} (h : NumD st a B xs) (hN : N = B + xs.length) (hz : xs.length < 4000) (k : ∀ o, NumD (MP.put st a o) a B (xs ++ [y]) → KS (MP.put st a o)) : setK (.ref a) (.int (N : Nat)) (.int y) st KS := by
  obtain ⟨kvs, h1, h2, h3⟩ := h
  subst hN
  refine k_setD h1 rfl (by rw [sizeLine_eq]; omega) (k _ ⟨_, put_same, ?_, fun z => ?_⟩)
  · have := putD_len kvs (.inl ((B + xs.length : Nat) : Int)) (.int y)
    rw [List.length_append]
    show _ ≤ _ + 1
    omega
  · rw [lookD_put, h3]
    by_cases e : z = ((B + xs.length : Nat) : Int)
    · subst e
      rw [if_pos rfl, if_pos (by omega), show (((B + xs.length : Nat) : Int) - (B : Int)).toNat = xs.length by omega, List.getElem?_append_right (Nat.le_refl _)]
      simp
    · rw [if_neg (fun q => e (by injection q))]
      split
      · by_cases hl : (z - B).toNat < xs.length
        · rw [List.getElem?_append_left hl]
        · rw [List.getElem?_eq_none (by omega), List.getElem?_eq_none (by simp; omega)]
      · rfl
theorem go_eq {m : Nat} {r T begun : Int} {B : Nat} {fs : List Int} (hm : 1 ≤ m) (hr : 1 ≤ r) (hb : 0 ≤ begun) (h0 : 0 < fs.length → 0 ≤ fA fs 0 + T) :
    max (max begun (if (B : Int) ≤ ((B + fs.length : Nat) : Int) - (m : Nat) then ((fs.map (· + T))[(((B + fs.length : Nat) : Int) - (m : Nat) - B).toNat]?).getD 0 else 0))
      (if (B : Int) ≤ ((B + fs.length : Nat) : Int) - r then ((UL T fs)[(((B + fs.length : Nat) : Int) - r - B).toNat]?).getD 0 else 0) = rdyF m r.toNat T (fun _ => begun) (fA fs) fs.length := by
  unfold rdyF
  have e1 : (if (B : Int) ≤ ((B + fs.length : Nat) : Int) - (m : Nat) then ((fs.map (· + T))[(((B + fs.length : Nat) : Int) - (m : Nat) - B).toNat]?).getD 0 else 0) = if m ≤ fs.length then fA fs (fs.length - m) + T else 0 := by
    by_cases q : m ≤ fs.length
    · rw [if_pos q, if_pos (by omega), show (((B + fs.length : Nat) : Int) - (m : Nat) - B).toNat = fs.length - m by omega, List.getElem?_map]
      have hk : fs.length - m < fs.length := by omega
      unfold fA
      rw [List.getElem?_eq_getElem hk]
      rfl
    · rw [if_neg q, if_neg (by omega)]
  have e2 : (if (B : Int) ≤ ((B + fs.length : Nat) : Int) - r then ((UL T fs)[(((B + fs.length : Nat) : Int) - r - B).toNat]?).getD 0 else 0) = if r.toNat ≤ fs.length then Um T (fA fs) (fs.length - r.toNat) else 0 := by
    by_cases q : r.toNat ≤ fs.length
    · rw [if_pos q, if_pos (by omega), show (((B + fs.length : Nat) : Int) - r - B).toNat = fs.length - r.toNat by omega, ul_at (by omega), um_rm (h0 (by omega))]
    · rw [if_neg q, if_neg (by omega)]
  rw [e1, e2]
section
variable {C : Kst} {n : Nat} {st : Sto} {K : D → Sto → Prop}
theorem lline_call (B : Nat) (T cm : Int) (h : ∀ A st', FlwAt st' A B T cm [] → (∀ q ∈ A.ls, st q = none) → Sub st st' → K (.ref A.p) st') : callF dP C (n + 1) "_law_line" [] [] [] st K := by
  refine call_pos P_l_line (by simp [f_l_line]) rfl (body_of P_l_line rfl ?_)
  show evSs _ C b_l_line [] _ _
  unfold b_l_line
  refine x_cons ?_
  refine x_ret ?_
  refine x_blt ?_
  repeat infer_instance
  refine x_dnew ?_
  intro t ht
  have s1 := sub_fresh (o := .dct []) ht
  have g1 : put st t (.dct []) t = some (.dct []) := put_same
  generalize put st t (.dct []) = st1 at *
  repeat infer_instance
  refine x_dnew ?_
  intro u hu
  have n1 : t ≠ u := ne_st g1 hu
  have hu0 := s1.none hu
  have s2 := s1.new hu0 (.dct [])
  have g2 : put st1 u (.dct []) u = some (.dct []) := put_same
  have g1 := st_ne (o := .dct []) n1 g1
  generalize put st1 u (.dct []) = st2 at *
  repeat infer_instance
  intro a ha
  have n2 : t ≠ a := ne_st g1 ha
  have n3 : u ≠ a := ne_st g2 ha
  have ha0 := s2.none ha
  have s3 := s2.new ha0 (.lst [])
  have g3 : put st2 a (.lst []) a = some (.lst []) := put_same
  have g1 := st_ne (o := .lst []) n2 g1
  have g2 := st_ne (o := .lst []) n3 g2
  generalize put st2 a (.lst []) = st3 at *
  repeat infer_instance
  refine k_dlit rfl ?_
  intro p hp
  have n4 : t ≠ p := ne_st g1 hp
  have n5 : u ≠ p := ne_st g2 hp
  have n6 : a ≠ p := ne_st g3 hp
  have hp0 := s3.none hp
  refine h ⟨p, t, u, a⟩ _ ⟨put_same, .nil (st_ne n4 g1), .nil (st_ne n5 g2), ⟨[], st_ne n6 g3, rfl⟩, ?_⟩ ?_ (s3.new hp0 _)
  · unfold Fa.ls
    simp only [List.nodup_cons, List.mem_cons, List.not_mem_nil, or_false, not_or, not_false_eq_true, List.nodup_nil, and_true]
    exact ⟨⟨n4.symm, n5.symm, n6.symm⟩, ⟨n1, n2⟩, n3⟩
  · intro q hq
    unfold Fa.ls at hq
    simp only [List.mem_cons, List.not_mem_nil, or_false] at hq
    rcases hq with rfl | rfl | rfl | rfl
    · exact hp0
    · exact ht
    · exact hu0
    · exact ha0
theorem lslot_call {t w s : Int} (h0 : 1 ≤ w) (h : K (.int (slotT t s w)) st) : callF dP C (n + 1) "_law_slot" [.int t, .int w, .int s] [] [] st K := by
  refine call_pos P_l_slot (by simp [f_l_slot]) rfl (body_of P_l_slot rfl ?_)
  show evSs _ C b_l_slot [some (.int t), some (.int w), some (.int s)] _ _
  unfold b_l_slot
  repeat infer_instance
  exact h
theorem louto0_call {v : Line} {w first : Int} (okv : v.ok) (h : K (.tup [.int (first + v.fails * w + v.hi), .int (first + v.fails * w + v.hi + v.high)]) st) :
    callF dP C (n + 1) "_law_outcome" [lnD v, .int 0, .int w, .int first, .str "slow", .tup []] [] [] st K := by
  refine call_pos P_l_outcome (by simp [f_l_outcome]) rfl (body_of P_l_outcome rfl ?_)
  show evSs _ C b_l_outcome [some (lnD v), some (.int 0), some (.int w), some (.int first), some (.str "slow"), some (.tup []), none, none, none] _ _
  have f1 := okv.f1
  have f2 := okv.f2
  unfold b_l_outcome lnD
  repeat infer_instance
  refine t_b (fun _ => ?_) (fun e => absurd e (by decide))
  repeat infer_instance
  refine k_eqS ?_
  refine ⟨_, rfl, ?_⟩
  refine t_b (fun e => absurd e (by decide)) (fun _ => ?_)
  repeat infer_instance
  refine k_eqS ?_
  refine ⟨_, rfl, ?_⟩
  refine t_b (fun _ => ?_) (fun e => absurd e (by decide))
  repeat infer_instance
  exact h
theorem louto1_call {v : Line} {w first : Int} (okv : v.ok) (h : K (.tup [.int (first + v.fails * w + v.high), .int (first + v.fails * w + v.high + v.hi)]) st) :
    callF dP C (n + 1) "_law_outcome" [lnD v, .int 1, .int w, .int first, .str "slow", .tup []] [] [] st K := by
  refine call_pos P_l_outcome (by simp [f_l_outcome]) rfl (body_of P_l_outcome rfl ?_)
  show evSs _ C b_l_outcome [some (lnD v), some (.int 1), some (.int w), some (.int first), some (.str "slow"), some (.tup []), none, none, none] _ _
  have f1 := okv.f1
  have f2 := okv.f2
  unfold b_l_outcome lnD
  repeat infer_instance
  refine t_b (fun e => absurd e (by decide)) (fun _ => ?_)
  repeat infer_instance
  refine k_eqS ?_
  refine ⟨_, rfl, ?_⟩
  refine t_b (fun e => absurd e (by decide)) (fun _ => ?_)
  repeat infer_instance
  refine k_eqS ?_
  refine ⟨_, rfl, ?_⟩
  refine t_b (fun _ => ?_) (fun e => absurd e (by decide))
  repeat infer_instance
  exact h
def goC : List S := [
  .sub (.ix (.var 0) (.str "told")) (.var 2) (.var 15),
  .sub (.var 0) (.str "top") (.blt "max" [.ix (.var 0) (.str "top"), .var 15]),
  .sub (.ix (.var 0) (.str "upto")) (.var 2) (.ix (.var 0) (.str "top")),
  .sub (.var 0) (.str "read") (.blt "max" [.ix (.var 0) (.str "read"), .var 14]),
  .ex (.mth .list "append" (.ix (.var 0) (.str "all")) [.tup [.var 10, .var 14, .var 15, .ix (.var 0) (.str "read")]]),
  .ret (.ix (.var 0) (.str "read"))]
theorem goC_ok {A : Fa} {B N : Nat} {T cm : Int} {fs : List Int} {first : Int} {w1 w3 w4 w5 w6 w7 w8 w9 w11 w12 w13 : Option D} (H : FlwAt st A B T cm fs) (hN : N = B + fs.length) (hz : fs.length < 3000)
    (h : ∀ st', FlwAt st' A B T cm (fs ++ [first]) → (∀ q, q ∉ A.ls → st' q = st q) → K (.int (Rm cm (fA (fs ++ [first])) (fs.length + 1))) st') :
    evSs (callF dP C (n + 1)) C goC [some (.ref A.p), w1, some (.int (N : Nat)), w3, w4, w5, w6, w7, w8, w9, some (.int first), w11, w12, w13, some (.int (first + cm)), some (.int (first + T))] st { nx := fun _ st' => K .non st', rt := K, bk := fun _ _ => False, ct := fun _ _ => False } := by
  obtain ⟨hp, ht0, hu0, ⟨rs, ha, hrs⟩, nd⟩ := H
  have nd' := nd
  unfold Fa.ls at nd'
  simp only [List.nodup_cons, List.mem_cons, List.not_mem_nil, or_false, not_or, not_false_eq_true, List.nodup_nil, and_true] at nd'
  obtain ⟨⟨npt, npu, npa⟩, ⟨ntu, nta⟩, nua⟩ : (A.p ≠ A.t ∧ A.p ≠ A.u ∧ A.p ≠ A.a) ∧ (A.t ≠ A.u ∧ A.t ≠ A.a) ∧ A.u ≠ A.a := nd'
  have np1 : ∀ q, q ∉ A.ls → q ≠ A.p ∧ q ≠ A.t ∧ q ≠ A.u ∧ q ≠ A.a := by
    intro q hq
    unfold Fa.ls at hq
    simp only [List.mem_cons, List.not_mem_nil, or_false, not_or] at hq
    exact hq
  have te' := rm_snoc (cm := T) (x := first) (fs := fs)
  have re' := rm_snoc (cm := cm) (x := first) (fs := fs)
  have us := ul_snoc (T := T) (x := first) (fs := fs)
  have lu : (UL T fs).length = fs.length := by unfold UL; rw [List.length_map, List.length_range]
  have hlen : (fs ++ [first]).length = fs.length + 1 := by rw [List.length_append]; rfl
  generalize hTp : Rm T (fA (fs ++ [first])) (fs.length + 1) = tp at *
  generalize hRd : Rm cm (fA (fs ++ [first])) (fs.length + 1) = rd at *
  generalize hT0 : Rm T (fA fs) fs.length = tp0 at *
  generalize hR0 : Rm cm (fA fs) fs.length = rd0 at *
  unfold goC
  refine x_cons ?_
  refine x_sub ?_
  repeat infer_instance
  refine k_ixD (dct_of hp) rfl (v := .ref A.t) (by with_unfolding_all rfl) ?_
  repeat infer_instance
  refine ht0.put (by rw [List.length_map]; exact hN) (by rw [List.length_map]; omega) fun o1 ht1 => ?_
  have hp1 := st_ne (o := o1) npt hp
  have hu1 : NumD (put st A.t o1) A.u B (UL T fs) := by
    obtain ⟨l, a, b⟩ := hu0
    exact ⟨l, st_ne ntu.symm a, b⟩
  have ha1 := st_ne (o := o1) nta.symm ha
  have k1 : ∀ q, q ∉ A.ls → put st A.t o1 q = st q := fun q hq => put_ne (np1 q hq).2.1
  generalize put st A.t o1 = st1 at *
  refine x_cons ?_
  refine x_sub ?_
  repeat infer_instance
  refine k_ixD (dct_of hp1) rfl (v := .int tp0) (by with_unfolding_all rfl) ?_
  repeat infer_instance
  rw [← te']
  refine k_setD hp1 rfl (by rw [sizeLine_eq]; show 5 < _; decide) ?_
  have hp2 : put st1 A.p (.dct (putD (flowD A tp0 rd0) (.inr "top") (.int tp))) A.p = some (.dct (flowD A tp rd0)) := by
    rw [put_same]
    rfl
  have ht2 : NumD (put st1 A.p (.dct (putD (flowD A tp0 rd0) (.inr "top") (.int tp)))) A.t B (fs.map (· + T) ++ [first + T]) := by
    obtain ⟨l, a, b⟩ := ht1
    exact ⟨l, st_ne npt.symm a, b⟩
  have hu2 : NumD (put st1 A.p (.dct (putD (flowD A tp0 rd0) (.inr "top") (.int tp)))) A.u B (UL T fs) := by
    obtain ⟨l, a, b⟩ := hu1
    exact ⟨l, st_ne npu.symm a, b⟩
  have ha2 := st_ne (o := .dct (putD (flowD A tp0 rd0) (.inr "top") (.int tp))) npa.symm ha1
  have k2 : ∀ q, q ∉ A.ls → put st1 A.p (.dct (putD (flowD A tp0 rd0) (.inr "top") (.int tp))) q = st q := fun q hq => (put_ne (np1 q hq).1).trans (k1 q hq)
  generalize put st1 A.p (.dct (putD (flowD A tp0 rd0) (.inr "top") (.int tp))) = st2 at *
  refine x_cons ?_
  refine x_sub ?_
  repeat infer_instance
  refine k_ixD (dct_of hp2) rfl (v := .int tp) (by with_unfolding_all rfl) ?_
  repeat infer_instance
  refine k_ixD (dct_of hp2) rfl (v := .ref A.u) (by with_unfolding_all rfl) ?_
  repeat infer_instance
  refine hu2.put (by rw [lu]; exact hN) (by omega) fun o2 hu3 => ?_
  have hp3 := st_ne (o := o2) npu hp2
  have ht3 : NumD (put st2 A.u o2) A.t B (fs.map (· + T) ++ [first + T]) := by
    obtain ⟨l, a, b⟩ := ht2
    exact ⟨l, st_ne ntu a, b⟩
  have ha3 := st_ne (o := o2) nua.symm ha2
  have k3 : ∀ q, q ∉ A.ls → put st2 A.u o2 q = st q := fun q hq => (put_ne (np1 q hq).2.2.1).trans (k2 q hq)
  generalize put st2 A.u o2 = st3 at *
  refine x_cons ?_
  refine x_sub ?_
  repeat infer_instance
  refine k_ixD (dct_of hp3) rfl (v := .int rd0) (by with_unfolding_all rfl) ?_
  repeat infer_instance
  rw [← re']
  refine k_setD hp3 rfl (by rw [sizeLine_eq]; show 5 < _; decide) ?_
  have hp4 : put st3 A.p (.dct (putD (flowD A tp rd0) (.inr "read") (.int rd))) A.p = some (.dct (flowD A tp rd)) := by
    rw [put_same]
    rfl
  have ht4 : NumD (put st3 A.p (.dct (putD (flowD A tp rd0) (.inr "read") (.int rd)))) A.t B (fs.map (· + T) ++ [first + T]) := by
    obtain ⟨l, a, b⟩ := ht3
    exact ⟨l, st_ne npt.symm a, b⟩
  have hu4 : NumD (put st3 A.p (.dct (putD (flowD A tp rd0) (.inr "read") (.int rd)))) A.u B (UL T fs ++ [tp]) := by
    obtain ⟨l, a, b⟩ := hu3
    exact ⟨l, st_ne npu.symm a, b⟩
  have ha4 := st_ne (o := .dct (putD (flowD A tp rd0) (.inr "read") (.int rd))) npa.symm ha3
  have k4 : ∀ q, q ∉ A.ls → put st3 A.p (.dct (putD (flowD A tp rd0) (.inr "read") (.int rd))) q = st q := fun q hq => (put_ne (np1 q hq).1).trans (k3 q hq)
  generalize put st3 A.p (.dct (putD (flowD A tp rd0) (.inr "read") (.int rd))) = st4 at *
  refine x_cons ?_
  refine x_ex ?_
  repeat infer_instance
  refine k_ixD (dct_of hp4) rfl (v := .ref A.a) (by with_unfolding_all rfl) ?_
  repeat infer_instance
  refine k_ixD (dct_of hp4) rfl (v := .int rd) (by with_unfolding_all rfl) ?_
  repeat infer_instance
  refine k_app ha4 (by rw [sizeLine_eq]; omega) ?_
  have hp5 := st_ne (o := .lst (rs ++ [.tup [.int first, .int (first + cm), .int (first + T), .int rd]])) npa hp4
  have fin : FlwAt (put st4 A.a (.lst (rs ++ [.tup [.int first, .int (first + cm), .int (first + T), .int rd]]))) A B T cm (fs ++ [first]) := by
    refine ⟨?_, ?_, ?_, ⟨_, put_same, ?_⟩, nd⟩
    · rw [hp5, hlen, hTp, hRd]
    · obtain ⟨l, a, b⟩ := ht4
      refine ⟨l, st_ne nta a, ?_⟩
      simp only [List.map_append, List.map_cons, List.map_nil]
      exact b
    · obtain ⟨l, a, b⟩ := hu4
      rw [us]
      exact ⟨l, st_ne nua a, b⟩
    · rw [List.length_append, List.length_append, hrs]
      rfl
  repeat infer_instance
  refine k_ixD (dct_of hp5) rfl (v := .int rd) (by with_unfolding_all rfl) ?_
  exact h _ fin fun q hq => (put_ne (np1 q hq).2.2.2).trans (k4 q hq)
theorem goes0_call {A : Fa} {B N : Nat} {T cm : Int} {fs : List Int} {u : Way} {v : Line} {c : Nat} {begun : Int} {pO : Addr} (H : FlwAt st A B T cm fs) (hN : N = B + fs.length) (hu : u.ok) (okv : v.ok) (eT : T = v.fails * u.w + (v.hi + v.high)) (ec : cm = v.fails * u.w + v.hi) (hb : 0 ≤ begun) (hO : st pO = some (.dcT [])) (hz : fs.length < 3000) (h0 : 0 < fs.length → 0 ≤ fA fs 0 + T)
    (h : ∀ st' first, first = slotT (rdyF u.ss.length u.r.toNat T (fun _ => begun) (fA fs) fs.length) ((u.ss[N % u.ss.length]?).getD 0) u.w → FlwAt st' A B T cm (fs ++ [first]) → (∀ q, q ∉ A.ls → st' q = st q) → K (.int (Rm cm (fA (fs ++ [first])) (fs.length + 1))) st') :
    callF dP C (n + 2) "_law_goes" [.ref A.p, wyD u, .int (N : Nat), .int begun, lnD v, .int 0, .str "slow", .ref pO, .int (c : Nat)] [] [] st K := by
  refine call_pos P_l_goes (by simp [f_l_goes]) rfl (body_of P_l_goes rfl ?_)
  show evSs _ C (.asg (.tup [.nm 11, .nm 12, .nm 13]) (.slc (.var 1) false (.non) true (.int 3)) ::
    .asg (.nm 9) (.blt "max" [.var 3, .mth .dict "get" (.ix (.var 0) (.str "told")) [.bin .Sub (.var 2) (.blt "len" [.var 12]), .int 0], .mth .dict "get" (.ix (.var 0) (.str "upto")) [.bin .Sub (.var 2) (.var 13), .int 0]]) ::
    .asg (.nm 10) (.call "_law_slot" [.var 9, .var 11, .ix (.var 12) (.bin .Mod (.var 2) (.blt "len" [.var 12]))] [] []) ::
    .asg (.tup [.nm 14, .nm 15]) (.call "_law_outcome" [.var 4, .var 5, .var 11, .var 10, .var 6, .mth .dict "tget" (.var 7) [.tup [.var 8, .var 5, .var 2], .tup []]] [] []) :: goC)
    [some (.ref A.p), some (wyD u), some (.int (N : Nat)), some (.int begun), some (lnD v), some (.int 0), some (.str "slow"), some (.ref pO), some (.int (c : Nat)), none, none, none, none, none, none, none] _ _
  have s1 := hu.s1
  have w1 := hu.w1
  have hp := H.hp
  unfold wyD
  repeat infer_instance
  refine k_ixD (dct_of hp) rfl (v := .ref A.t) (by with_unfolding_all rfl) ?_
  have hty : tyK .dict (.ref A.t) st := by
    obtain ⟨l, a, b⟩ := H.ht
    exact k_tyD (dct_of a)
  have hty2 : tyK .dict (.ref A.u) st := by
    obtain ⟨l, a, b⟩ := H.hu
    exact k_tyD (dct_of a)
  refine ⟨hty, ?_⟩
  repeat infer_instance
  rw [List.length_map]
  refine H.ht.get ?_
  repeat infer_instance
  refine k_ixD (dct_of hp) rfl (v := .ref A.u) (by with_unfolding_all rfl) ?_
  refine ⟨hty2, ?_⟩
  repeat infer_instance
  refine H.hu.get ?_
  refine x_enil ?_
  refine k_max3 ?_
  rw [hN, go_eq s1 hu.r1 hb h0, ← hN]
  repeat infer_instance
  rw [List.length_map]
  refine k_mod (by omega) ?_
  rw [← Int.natCast_emod]
  have hk : N % u.ss.length < u.ss.length := Nat.mod_lt _ (by omega)
  refine k_ixT (ints_at hk) ?_
  repeat infer_instance
  refine lslot_call w1 ?_
  have h := fun st' => h st' _ rfl
  generalize slotT (rdyF u.ss.length u.r.toNat T (fun _ => begun) (fA fs) fs.length) ((u.ss[N % u.ss.length]?).getD 0) u.w = first at *
  repeat infer_instance
  refine ⟨k_tyT hO, ?_⟩
  repeat infer_instance
  refine k_tget (kk := fateK (c : Nat) 0 (N : Nat)) hO rfl ?_
  show evEs _ _ _ _ _ _
  repeat infer_instance
  refine louto0_call okv ?_
  rw [show first + v.fails * u.w + v.hi = first + cm by rw [ec]; omega, show first + cm + v.high = first + T by rw [ec, eT]; omega]
  refine ⟨_, rfl, ?_⟩
  exact goC_ok (n := n) H hN hz h
theorem goes1_call {A : Fa} {B N : Nat} {T cm : Int} {fs : List Int} {u : Way} {v : Line} {c : Nat} {begun : Int} {pO : Addr} (H : FlwAt st A B T cm fs) (hN : N = B + fs.length) (hu : u.ok) (okv : v.ok) (eT : T = v.fails * u.w + (v.hi + v.high)) (ec : cm = v.fails * u.w + v.high) (hb : 0 ≤ begun) (hO : st pO = some (.dcT [])) (hz : fs.length < 3000) (h0 : 0 < fs.length → 0 ≤ fA fs 0 + T)
    (h : ∀ st' first, first = slotT (rdyF u.ss.length u.r.toNat T (fun _ => begun) (fA fs) fs.length) ((u.ss[N % u.ss.length]?).getD 0) u.w → FlwAt st' A B T cm (fs ++ [first]) → (∀ q, q ∉ A.ls → st' q = st q) → K (.int (Rm cm (fA (fs ++ [first])) (fs.length + 1))) st') :
    callF dP C (n + 2) "_law_goes" [.ref A.p, wyD u, .int (N : Nat), .int begun, lnD v, .int 1, .str "slow", .ref pO, .int (c : Nat)] [] [] st K := by
  refine call_pos P_l_goes (by simp [f_l_goes]) rfl (body_of P_l_goes rfl ?_)
  show evSs _ C (.asg (.tup [.nm 11, .nm 12, .nm 13]) (.slc (.var 1) false (.non) true (.int 3)) ::
    .asg (.nm 9) (.blt "max" [.var 3, .mth .dict "get" (.ix (.var 0) (.str "told")) [.bin .Sub (.var 2) (.blt "len" [.var 12]), .int 0], .mth .dict "get" (.ix (.var 0) (.str "upto")) [.bin .Sub (.var 2) (.var 13), .int 0]]) ::
    .asg (.nm 10) (.call "_law_slot" [.var 9, .var 11, .ix (.var 12) (.bin .Mod (.var 2) (.blt "len" [.var 12]))] [] []) ::
    .asg (.tup [.nm 14, .nm 15]) (.call "_law_outcome" [.var 4, .var 5, .var 11, .var 10, .var 6, .mth .dict "tget" (.var 7) [.tup [.var 8, .var 5, .var 2], .tup []]] [] []) :: goC)
    [some (.ref A.p), some (wyD u), some (.int (N : Nat)), some (.int begun), some (lnD v), some (.int 1), some (.str "slow"), some (.ref pO), some (.int (c : Nat)), none, none, none, none, none, none, none] _ _
  have s1 := hu.s1
  have w1 := hu.w1
  have hp := H.hp
  unfold wyD
  repeat infer_instance
  refine k_ixD (dct_of hp) rfl (v := .ref A.t) (by with_unfolding_all rfl) ?_
  have hty : tyK .dict (.ref A.t) st := by
    obtain ⟨l, a, b⟩ := H.ht
    exact k_tyD (dct_of a)
  have hty2 : tyK .dict (.ref A.u) st := by
    obtain ⟨l, a, b⟩ := H.hu
    exact k_tyD (dct_of a)
  refine ⟨hty, ?_⟩
  repeat infer_instance
  rw [List.length_map]
  refine H.ht.get ?_
  repeat infer_instance
  refine k_ixD (dct_of hp) rfl (v := .ref A.u) (by with_unfolding_all rfl) ?_
  refine ⟨hty2, ?_⟩
  repeat infer_instance
  refine H.hu.get ?_
  refine x_enil ?_
  refine k_max3 ?_
  rw [hN, go_eq s1 hu.r1 hb h0, ← hN]
  repeat infer_instance
  rw [List.length_map]
  refine k_mod (by omega) ?_
  rw [← Int.natCast_emod]
  have hk : N % u.ss.length < u.ss.length := Nat.mod_lt _ (by omega)
  refine k_ixT (ints_at hk) ?_
  repeat infer_instance
  refine lslot_call w1 ?_
  have h := fun st' => h st' _ rfl
  generalize slotT (rdyF u.ss.length u.r.toNat T (fun _ => begun) (fA fs) fs.length) ((u.ss[N % u.ss.length]?).getD 0) u.w = first at *
  repeat infer_instance
  refine ⟨k_tyT hO, ?_⟩
  repeat infer_instance
  refine k_tget (kk := fateK (c : Nat) 1 (N : Nat)) hO rfl ?_
  show evEs _ _ _ _ _ _
  repeat infer_instance
  refine louto1_call okv ?_
  rw [show first + v.fails * u.w + v.high = first + cm by rw [ec]; omega, show first + cm + v.hi = first + T by rw [ec, eT]; omega]
  refine ⟨_, rfl, ?_⟩
  exact goC_ok (n := n) H hN hz h
end

end MP

set_option Elab.async false
set_option linter.all false
set_option maxRecDepth 100000
set_option maxHeartbeats 8000000
/-! K22m: the law's loops -/
namespace MP
open PySem PySem.Spec
local macro_rules | `(tactic| infer_instance) => `(tactic| with_reducible first
  | refine k_is_N ?_ | refine k_isn_N ?_ | refine k_is_B ?_ | refine k_isn_B ?_ | refine k_is_I ?_ | refine k_isn_I ?_ | refine k_is_S ?_ | refine k_isn_S ?_ | refine k_is_T ?_ | refine k_isn_T ?_ | refine k_is_R ?_ | refine k_isn_R ?_ | refine t_nT ?_ | refine t_nF ?_ | refine t_andnT ?_ | refine t_andnF ?_ | refine t_ornT ?_ | refine t_ornF ?_
  | refine x_var (by with_unfolding_all rfl) ?_
  | refine x_nil ?_
  | refine x_cons ?_
  | refine x_asg ?_
  | refine x_sub ?_
  | refine x_ex ?_
  | refine x_ret ?_
  | refine x_retN ?_
  | refine x_iff ?_
  | refine x_for ?_
  | refine x_pass ?_
  | refine x_brk ?_
  | refine x_cont ?_
  | refine x_non ?_
  | refine x_bl ?_
  | refine x_int ?_
  | refine x_str ?_
  | refine x_bin ?_
  | refine x_cmp ?_
  | refine x_cmp2 ?_
  | refine x_bop ?_
  | refine x_ite ?_
  | refine x_tup ?_
  | refine x_lst ?_
  | refine x_ix ?_
  | refine x_call ?_
  | refine x_blt ?_
  | refine x_mth ?_
  | refine x_lc ?_
  | refine x_enil ?_
  | refine x_econs ?_
  | refine x_b1 ?_
  | refine x_tnot ?_
  | refine x_tbop ?_
  | refine x_tite ?_
  | refine x_btnil ?_
  | refine x_btcons ?_
  | refine x_ts0 ?_
  | refine x_ts1 ?_
  | refine k_add ?_
  | refine k_sub ?_
  | refine k_eqI ?_
  | refine k_neI ?_
  | refine k_ltI ?_
  | refine k_leI ?_
  | refine k_gtI ?_
  | refine k_geI ?_
  | refine k_lenT ?_
  | refine k_intI ?_
  | refine k_intB ?_
  | refine k_abs ?_
  | refine k_mxx ?_
  | refine k_min2 ?_
  | refine x_asgT ?_ (callF_mono _ _ _)
  | refine x_neg ?_ (callF_mono _ _ _)
  | refine x_not ?_ (callF_mono _ _ _)
  | refine x_isi ?_ (callF_mono _ _ _)
  | refine x_t (by with_unfolding_all rfl) (callF_mono _ _ _) ?_
  | refine x_bcons ?_ (callF_mono _ _ _)
  | refine k_ixR (rd_of (by assumption)) (by with_unfolding_all rfl) ?_
  | refine k_ixR rd_put (by with_unfolding_all rfl) ?_
  | refine k_ixT (by with_unfolding_all rfl) ?_
  | refine k_lenR (rd_of (by assumption)) ?_
  | refine k_lenR rd_put ?_
  | refine k_ixR (rd_ne (by assumption) (rd_of (by assumption))) (by with_unfolding_all rfl) ?_
  | refine k_lenR (rd_ne (by assumption) (rd_of (by assumption))) ?_
  | refine k_setP (by with_unfolding_all rfl) ?_
  | refine k_set (by assumption) (by with_unfolding_all rfl) ?_
  | refine k_set put_same (by with_unfolding_all rfl) ?_
  | refine ⟨_, isi_int_N, ?_⟩ | refine ⟨_, isi_int_B, ?_⟩ | refine ⟨_, isi_int_I, ?_⟩ | refine ⟨_, isi_int_S, ?_⟩ | refine ⟨_, isi_int_T, ?_⟩ | refine ⟨_, isi_bool_N, ?_⟩ | refine ⟨_, isi_bool_B, ?_⟩ | refine ⟨_, isi_bool_I, ?_⟩ | refine ⟨_, isi_bool_S, ?_⟩ | refine ⟨_, isi_bool_T, ?_⟩ | refine ⟨_, isi_str_N, ?_⟩ | refine ⟨_, isi_str_B, ?_⟩ | refine ⟨_, isi_str_I, ?_⟩ | refine ⟨_, isi_str_S, ?_⟩ | refine ⟨_, isi_str_T, ?_⟩ | refine ⟨_, isi_tuple_N, ?_⟩ | refine ⟨_, isi_tuple_B, ?_⟩ | refine ⟨_, isi_tuple_I, ?_⟩ | refine ⟨_, isi_tuple_S, ?_⟩ | refine ⟨_, isi_tuple_T, ?_⟩ | refine ⟨_, isi_list_N, ?_⟩ | refine ⟨_, isi_list_B, ?_⟩ | refine ⟨_, isi_list_I, ?_⟩ | refine ⟨_, isi_list_S, ?_⟩ | refine ⟨_, isi_list_T, ?_⟩
  | refine x_slc ?_ (callF_mono _ _ _) | refine k_slcT ?_ | refine k_max3 ?_ | refine k_slcR (rd_of (by assumption)) ?_ | refine i_seqR rd_put ?_ | refine i_seqR (rd_of (by assumption)) ?_ | refine i_seqT ?_ | refine i_enumT ?_ | refine i_range (by omega) (by omega) ?_ | refine i_range2 (by omega) ?_ | refine k_tupR rd_put ?_ | refine k_tupR (rd_of (by assumption)) ?_
  | refine ⟨k_ty (by assumption), ?_⟩ | refine ⟨k_ty put_same, ?_⟩ | refine ⟨k_ty (st_ne (by assumption) (by assumption)), ?_⟩
  | refine ⟨_, by with_unfolding_all rfl, ?_⟩
  | refine k_mod (by omega) ?_ | refine k_div (by omega) ?_ | refine k_mul (cmulL (by omega) (by omega)) ?_ | refine k_mul (cmulR (by omega) (by omega)) ?_ | refine k_mul cmulB ?_ | refine k_pow18 ?_ | refine t_T ?_ | refine t_F ?_ | refine t_andT ?_ | refine t_andF ?_ | refine t_orT ?_ | refine t_orF ?_ | refine t_aa ?_ | refine t_oo ?_
  | refine x_fld ?_ | refine x_um ?_ | refine x_sfl ?_ | refine k_fld (by assumption) (by with_unfolding_all rfl) ?_)

structure PmV (round : Int) (x : Cal) (v : Line) (P : Pm) : Prop where
  q : PmEq round x P
  t0 : P.T0 = v.fails * x.u0.w + (v.hi + v.high)
  t1 : P.T1 = v.fails * x.u1.w + (v.hi + v.high)
  c0 : P.c0 = v.fails * x.u0.w + v.hi
  c1 : P.c1 = v.fails * x.u1.w + v.high
  r0 : x.u0.r.toNat = P.r0
  r1 : x.u1.r.toNat = P.r1
theorem pm_v {round : Int} {x : Cal} {v : Line} (ok : x.ok) : PmV round x v (pmOf round x v) := ⟨pm_eq ok, rfl, rfl, rfl, rfl, rfl, rfl⟩
theorem FlwAt.sub {st st' : Sto} {A : Fa} {B : Nat} {T cm : Int} {fs : List Int} (h : FlwAt st A B T cm fs) (k : Sub st st') : FlwAt st' A B T cm fs := by
  refine h.keep fun q hq => ?_
  unfold Fa.ls at hq
  simp only [List.mem_cons, List.not_mem_nil, or_false] at hq
  obtain ⟨h1, ⟨_, h2, _⟩, ⟨_, h3, _⟩, ⟨_, h4, _⟩, _⟩ := h
  rcases hq with rfl | rfl | rfl | rfl
  · exact (k _ _ h1).trans h1.symm
  · exact (k _ _ h2).trans h2.symm
  · exact (k _ _ h3).trans h3.symm
  · exact (k _ _ h4).trans h4.symm
theorem FlwAt.there {st : Sto} {A : Fa} {B : Nat} {T cm : Int} {fs : List Int} (h : FlwAt st A B T cm fs) : ∀ q ∈ A.ls, st q ≠ none := by
  intro q hq
  unfold Fa.ls at hq
  simp only [List.mem_cons, List.not_mem_nil, or_false] at hq
  obtain ⟨h1, ⟨_, h2, _⟩, ⟨_, h3, _⟩, ⟨_, h4, _⟩, _⟩ := h
  rcases hq with rfl | rfl | rfl | rfl
  · rw [h1]; exact fun e => by cases e
  · rw [h2]; exact fun e => by cases e
  · rw [h3]; exact fun e => by cases e
  · rw [h4]; exact fun e => by cases e
structure LawAt (st : Sto) (P : Pm) (first : Nat) (A B : Fa) (b d h : Addr) (S : CS) : Prop where
  f0 : FlwAt st A (first * P.e0) P.T0 P.c0 S.s0
  f1 : FlwAt st B (first * P.e1) P.T1 P.c1 S.s1
  hb : st b = some (.lst (S.begun.map .int))
  hd : st d = some (.lst (S.done.map .int))
  hh : st h = some (.lst (S.heard.map .int))
  nAB : ∀ q ∈ A.ls, q ∉ B.ls
  nb : b ∉ A.ls ∧ b ∉ B.ls
  nd : d ∉ A.ls ∧ d ∉ B.ls
  nh : h ∉ A.ls ∧ h ∉ B.ls
  ne : b ≠ d ∧ b ≠ h ∧ d ≠ h
section
variable {st st' : Sto} {P : Pm} {first : Nat} {A B : Fa} {b d h : Addr} {S : CS}
theorem LawAt.sub (L : LawAt st P first A B b d h S) (k : Sub st st') : LawAt st' P first A B b d h S := by
  obtain ⟨h1, h2, h3, h4, h5, h6, h7, h8, h9, h10⟩ := L
  exact ⟨h1.sub k, h2.sub k, k _ _ h3, k _ _ h4, k _ _ h5, h6, h7, h8, h9, h10⟩
theorem LawAt.w0 {W : List Int} (L : LawAt st P first A B b d h S) (f : FlwAt st' A (first * P.e0) P.T0 P.c0 W) (k : ∀ q, q ∉ A.ls → st' q = st q) : LawAt st' P first A B b d h { S with s0 := W } := by
  obtain ⟨h1, h2, h3, h4, h5, h6, h7, h8, h9, h10⟩ := L
  exact ⟨f, h2.keep fun q hq => k q fun e => h6 q e hq, by rw [k _ h7.1]; exact h3, by rw [k _ h8.1]; exact h4, by rw [k _ h9.1]; exact h5, h6, h7, h8, h9, h10⟩
theorem LawAt.w1 {W : List Int} (L : LawAt st P first A B b d h S) (f : FlwAt st' B (first * P.e1) P.T1 P.c1 W) (k : ∀ q, q ∉ B.ls → st' q = st q) : LawAt st' P first A B b d h { S with s1 := W } := by
  obtain ⟨h1, h2, h3, h4, h5, h6, h7, h8, h9, h10⟩ := L
  exact ⟨h1.keep fun q hq => k q (h6 q hq), f, by rw [k _ h7.2]; exact h3, by rw [k _ h8.2]; exact h4, by rw [k _ h9.2]; exact h5, h6, h7, h8, h9, h10⟩
theorem LawAt.pb (L : LawAt st P first A B b d h S) (ys : List Int) : LawAt (put st b (.lst (ys.map .int))) P first A B b d h { S with begun := ys } := by
  have e1 := L.nb
  refine ⟨L.f0.keep fun q hq => put_ne fun z => e1.1 (z ▸ hq), L.f1.keep fun q hq => put_ne fun z => e1.2 (z ▸ hq), ?_, ?_, ?_, L.nAB, L.nb, L.nd, L.nh, L.ne⟩
  · exact put_same
  · rw [put_ne (L.ne.1.symm)]
    exact L.hd
  · rw [put_ne (L.ne.2.1.symm)]
    exact L.hh
theorem LawAt.pd (L : LawAt st P first A B b d h S) (ys : List Int) : LawAt (put st d (.lst (ys.map .int))) P first A B b d h { S with done := ys } := by
  have e1 := L.nd
  refine ⟨L.f0.keep fun q hq => put_ne fun z => e1.1 (z ▸ hq), L.f1.keep fun q hq => put_ne fun z => e1.2 (z ▸ hq), ?_, ?_, ?_, L.nAB, L.nb, L.nd, L.nh, L.ne⟩
  · rw [put_ne (L.ne.1)]
    exact L.hb
  · exact put_same
  · rw [put_ne (L.ne.2.2.symm)]
    exact L.hh
theorem LawAt.ph (L : LawAt st P first A B b d h S) (ys : List Int) : LawAt (put st h (.lst (ys.map .int))) P first A B b d h { S with heard := ys } := by
  have e1 := L.nh
  refine ⟨L.f0.keep fun q hq => put_ne fun z => e1.1 (z ▸ hq), L.f1.keep fun q hq => put_ne fun z => e1.2 (z ▸ hq), ?_, ?_, ?_, L.nAB, L.nb, L.nd, L.nh, L.ne⟩
  · rw [put_ne (L.ne.2.1)]
    exact L.hb
  · rw [put_ne (L.ne.2.2)]
    exact L.hd
  · exact put_same
end
def lcE (round : Int) (cs : List Cal) (v : Line) (c : Nat) (ms : List Int) (first : Nat) (pO : Addr) (x : Cal) (A B : Fa) (b d h : Addr) (w7 w19 w20 : Option D) : Env := [some (dsD round cs), some (lnD v), some (.tup (ms.map .int)), some (.int (c : Nat)), some (.str "slow"), some (.ref pO), some (.int (first : Nat)), w7, some (wyD x.u0), some (wyD x.u1), some (.int x.e1), some (.int x.e2), some (.int x.op), some (.int x.turn), some (.ref A.p), some (.ref B.p), some (.ref b), some (.ref d), some (.ref h), w19, w20]
def lp0 : S := .for (.nm 19) .range [.var 10] [
      .asg (.nm 20) (.call "_law_goes" [.var 14, .var 8, .bin .Add (.bin .Mult (.bin .Add (.var 6) (.var 7)) (.var 10)) (.var 19), .ix (.var 16) (.var 7), .var 1, .int 0, .var 4, .var 5, .var 3] [] [])]
def lp1 : S := .for (.nm 19) .range [.var 11] [
      .asg (.nm 20) (.call "_law_goes" [.var 15, .var 9, .bin .Add (.bin .Mult (.bin .Add (.var 6) (.var 7)) (.var 11)) (.var 19), .ix (.var 17) (.var 7), .var 1, .int 1, .var 4, .var 5, .var 3] [] [])]
section
variable {C : Kst} {n : Nat} {st : Sto} {K : D → Sto → Prop} {P : Pm} {A B : Fa} {b d h pO : Addr} {S : CS} {round : Int} {cs : List Cal} {v : Line} {c : Nat} {ms : List Int} {first : Nat} {x : Cal} {k : Kt} {i : Nat} {w19 w20 : Option D}
theorem lp0_ok {bt : Int} {g : Nat → Int} (E : PmV round x v P) (pk : P.ok) (ok : x.ok) (okv : v.ok) (hi : i < 300) (L : LawAt st P first A B b d h S) (hO : st pO = some (.dcT [])) (hp : A.ls.all (fun q => q != pO) = true) (hr : S.s0.length = i * P.e0) (hbt : 0 ≤ bt) (hbl : (S.begun)[i]? = some bt) (hg : ∀ p, p < P.e0 → g (i * P.e0 + p) = bt) (hg0 : 0 ≤ g 0) (FS : FF P.m0 P.r0 P.w0 P.T0 (sl0 P first) g S.s0)
    (hk : ∀ st' W w19, LawAt st' P first A B b d h { S with s0 := W } → W.length = (i + 1) * P.e0 → (∀ j, j < i * P.e0 → fA W j = fA S.s0 j) → FF P.m0 P.r0 P.w0 P.T0 (sl0 P first) g W → (∀ q, q ∉ A.ls → st' q = st q) →
      k.nx (lcE round cs v c ms first pO x A B b d h (some (.int (i : Nat))) w19 (some (.int (Rm P.c0 (fA W) ((i + 1) * P.e0))))) st') :
    evS (callF dP C (n + 2)) C lp0 (lcE round cs v c ms first pO x A B b d h (some (.int (i : Nat))) w19 w20) st k := by
  unfold lp0 lcE
  have p1 := ok.p1
  have p2 := ok.p2
  have q1 := ok.q1
  have q2 := ok.q2
  have oe := pk.e0
  have hm : x.e1 = (P.e0 : Int) := E.q.e0
  have pw := pk.w0
  have pt := pk.t0
  repeat infer_instance
  rw [show (x.e1).toNat = P.e0 by omega]
  refine forK_of (fun j σ z => ∃ W w19 w20, LawAt z P first A B b d h { S with s0 := W } ∧ W.length = i * P.e0 + j ∧ (∀ j, j < i * P.e0 → fA W j = fA S.s0 j) ∧ FF P.m0 P.r0 P.w0 P.T0 (sl0 P first) g W ∧ (∀ q, q ∉ A.ls → z q = st q) ∧ (1 ≤ j → w20 = some (.int (Rm P.c0 (fA W) (i * P.e0 + j)))) ∧ σ = lcE round cs v c ms first pO x A B b d h (some (.int (i : Nat))) w19 w20)
    ⟨S.s0, w19, w20, L, hr, fun _ _ => rfl, FS, fun _ _ => rfl, fun h => by omega, rfl⟩ (fun _ _ _ _ => trivial) ?_ ?_
  · rintro σ z ⟨W, w19, w20, L', lW, pre, FW, fr, hrd, rfl⟩
    rw [List.length_map, List.length_range] at lW hrd
    have hrd := hrd (by omega)
    have e1 : i * P.e0 + P.e0 = (i + 1) * P.e0 := by rw [Nat.succ_mul]
    rw [e1] at lW hrd
    subst hrd
    exact hk z W w19 L' lW pre FW fr
  · rintro j y σ z R hy ⟨W, w19, w20, L', lW, pre, FW, fr, hrd, rfl⟩ hR
    obtain ⟨rfl, hj⟩ := at_range hy
    simp only [bindG, List.set_cons_succ, List.set_cons_zero, lcE]
    have hO' : z pO = some (.dcT []) := by
      rw [fr pO fun hm => by simpa using List.all_eq_true.mp hp _ hm]
      exact hO
    have hl := L'.hb
    repeat infer_instance
    have en : ((first : Int) + (i : Int)) * x.e1 + (j : Int) = ((first * P.e0 + W.length : Nat) : Int) := by
      rw [lW, hm, Int.add_mul, Int.natCast_add, Int.natCast_add, Int.natCast_mul, Int.natCast_mul]
      omega
    rw [en]
    refine k_ixR (rd_of hl) (atN (v := .int bt) (by rw [List.getElem?_map, hbl] <;> rfl)) ?_
    repeat infer_instance
    have ile : i * P.e0 ≤ 300 * 4 := Nat.mul_le_mul (by omega) (by omega)
    refine goes0_call (N := first * P.e0 + W.length) L'.f0 rfl ok.o0 okv E.t0 E.c0 hbt hO' (by
      show W.length < 3000
      omega) (fun hpos => by
      have := FW.ge pw hpos
      show 0 ≤ fA W 0 + P.T0
      omega) fun st2 nf enf f2 fr2 => ?_
    refine x_nil (F := callF dP C (n + 2)) (C := C) ?_
    have ed : i * P.e0 + (j + 1) = W.length + 1 := by omega
    refine hR _ _ ⟨W ++ [nf], _, _, L'.w0 f2 fr2, by rw [List.length_append, ed]; rfl, fun q hq => by rw [fA_app (by omega), pre q hq], FW.snoc (b := bt) pk.m0 pk.r0 (by rw [lW]; exact hg j hj) ?_, fun q hq => (fr2 q hq).trans (fr q hq), fun _ => by rw [ed], rfl⟩
    rw [enf, E.r0, E.q.s0, pk.s0, E.q.w0]
    rfl
theorem lp1_ok {bt : Int} {g : Nat → Int} (E : PmV round x v P) (pk : P.ok) (ok : x.ok) (okv : v.ok) (hi : i < 300) (L : LawAt st P first A B b d h S) (hO : st pO = some (.dcT [])) (hp : B.ls.all (fun q => q != pO) = true) (hr : S.s1.length = i * P.e1) (hbt : 0 ≤ bt) (hbl : (S.done)[i]? = some bt) (hg : ∀ p, p < P.e1 → g (i * P.e1 + p) = bt) (hg0 : 0 ≤ g 0) (FS : FF P.m1 P.r1 P.w1 P.T1 (sl1 P first) g S.s1)
    (hk : ∀ st' W w19, LawAt st' P first A B b d h { S with s1 := W } → W.length = (i + 1) * P.e1 → (∀ j, j < i * P.e1 → fA W j = fA S.s1 j) → FF P.m1 P.r1 P.w1 P.T1 (sl1 P first) g W → (∀ q, q ∉ B.ls → st' q = st q) →
      k.nx (lcE round cs v c ms first pO x A B b d h (some (.int (i : Nat))) w19 (some (.int (Rm P.c1 (fA W) ((i + 1) * P.e1))))) st') :
    evS (callF dP C (n + 2)) C lp1 (lcE round cs v c ms first pO x A B b d h (some (.int (i : Nat))) w19 w20) st k := by
  unfold lp1 lcE
  have p1 := ok.p1
  have p2 := ok.p2
  have q1 := ok.q1
  have q2 := ok.q2
  have oe := pk.e1
  have hm : x.e2 = (P.e1 : Int) := E.q.e1
  have pw := pk.w1
  have pt := pk.t1
  repeat infer_instance
  rw [show (x.e2).toNat = P.e1 by omega]
  refine forK_of (fun j σ z => ∃ W w19 w20, LawAt z P first A B b d h { S with s1 := W } ∧ W.length = i * P.e1 + j ∧ (∀ j, j < i * P.e1 → fA W j = fA S.s1 j) ∧ FF P.m1 P.r1 P.w1 P.T1 (sl1 P first) g W ∧ (∀ q, q ∉ B.ls → z q = st q) ∧ (1 ≤ j → w20 = some (.int (Rm P.c1 (fA W) (i * P.e1 + j)))) ∧ σ = lcE round cs v c ms first pO x A B b d h (some (.int (i : Nat))) w19 w20)
    ⟨S.s1, w19, w20, L, hr, fun _ _ => rfl, FS, fun _ _ => rfl, fun h => by omega, rfl⟩ (fun _ _ _ _ => trivial) ?_ ?_
  · rintro σ z ⟨W, w19, w20, L', lW, pre, FW, fr, hrd, rfl⟩
    rw [List.length_map, List.length_range] at lW hrd
    have hrd := hrd (by omega)
    have e1 : i * P.e1 + P.e1 = (i + 1) * P.e1 := by rw [Nat.succ_mul]
    rw [e1] at lW hrd
    subst hrd
    exact hk z W w19 L' lW pre FW fr
  · rintro j y σ z R hy ⟨W, w19, w20, L', lW, pre, FW, fr, hrd, rfl⟩ hR
    obtain ⟨rfl, hj⟩ := at_range hy
    simp only [bindG, List.set_cons_succ, List.set_cons_zero, lcE]
    have hO' : z pO = some (.dcT []) := by
      rw [fr pO fun hm => by simpa using List.all_eq_true.mp hp _ hm]
      exact hO
    have hl := L'.hd
    repeat infer_instance
    have en : ((first : Int) + (i : Int)) * x.e2 + (j : Int) = ((first * P.e1 + W.length : Nat) : Int) := by
      rw [lW, hm, Int.add_mul, Int.natCast_add, Int.natCast_add, Int.natCast_mul, Int.natCast_mul]
      omega
    rw [en]
    refine k_ixR (rd_of hl) (atN (v := .int bt) (by rw [List.getElem?_map, hbl] <;> rfl)) ?_
    repeat infer_instance
    have ile : i * P.e1 ≤ 300 * 4 := Nat.mul_le_mul (by omega) (by omega)
    refine goes1_call (N := first * P.e1 + W.length) L'.f1 rfl ok.o1 okv E.t1 E.c1 hbt hO' (by
      show W.length < 3000
      omega) (fun hpos => by
      have := FW.ge pw hpos
      show 0 ≤ fA W 0 + P.T1
      omega) fun st2 nf enf f2 fr2 => ?_
    refine x_nil (F := callF dP C (n + 2)) (C := C) ?_
    have ed : i * P.e1 + (j + 1) = W.length + 1 := by omega
    refine hR _ _ ⟨W ++ [nf], _, _, L'.w1 f2 fr2, by rw [List.length_append, ed]; rfl, fun q hq => by rw [fA_app (by omega), pre q hq], FW.snoc (b := bt) pk.m1 pk.r1 (by rw [lW]; exact hg j hj) ?_, fun q hq => (fr2 q hq).trans (fr q hq), fun _ => by rw [ed], rfl⟩
    rw [enf, E.r1, E.q.s1, pk.s1, E.q.w1]
    rfl
end

end MP

set_option Elab.async false
set_option linter.all false
set_option maxRecDepth 100000
set_option maxHeartbeats 8000000
/-! K22n: the law's run of a caller -/
namespace MP
open PySem PySem.Spec
local macro_rules | `(tactic| infer_instance) => `(tactic| with_reducible first
  | refine k_is_N ?_ | refine k_isn_N ?_ | refine k_is_B ?_ | refine k_isn_B ?_ | refine k_is_I ?_ | refine k_isn_I ?_ | refine k_is_S ?_ | refine k_isn_S ?_ | refine k_is_T ?_ | refine k_isn_T ?_ | refine k_is_R ?_ | refine k_isn_R ?_ | refine t_nT ?_ | refine t_nF ?_ | refine t_andnT ?_ | refine t_andnF ?_ | refine t_ornT ?_ | refine t_ornF ?_
  | refine x_var (by with_unfolding_all rfl) ?_
  | refine x_nil ?_
  | refine x_cons ?_
  | refine x_asg ?_
  | refine x_sub ?_
  | refine x_ex ?_
  | refine x_ret ?_
  | refine x_retN ?_
  | refine x_iff ?_
  | refine x_for ?_
  | refine x_pass ?_
  | refine x_brk ?_
  | refine x_cont ?_
  | refine x_non ?_
  | refine x_bl ?_
  | refine x_int ?_
  | refine x_str ?_
  | refine x_bin ?_
  | refine x_cmp ?_
  | refine x_cmp2 ?_
  | refine x_bop ?_
  | refine x_ite ?_
  | refine x_tup ?_
  | refine x_lst ?_
  | refine x_ix ?_
  | refine x_call ?_
  | refine x_blt ?_
  | refine x_mth ?_
  | refine x_lc ?_
  | refine x_enil ?_
  | refine x_econs ?_
  | refine x_b1 ?_
  | refine x_tnot ?_
  | refine x_tbop ?_
  | refine x_tite ?_
  | refine x_btnil ?_
  | refine x_btcons ?_
  | refine x_ts0 ?_
  | refine x_ts1 ?_
  | refine k_add ?_
  | refine k_sub ?_
  | refine k_eqI ?_
  | refine k_neI ?_
  | refine k_ltI ?_
  | refine k_leI ?_
  | refine k_gtI ?_
  | refine k_geI ?_
  | refine k_lenT ?_
  | refine k_intI ?_
  | refine k_intB ?_
  | refine k_abs ?_
  | refine k_mxx ?_
  | refine k_min2 ?_
  | refine x_asgT ?_ (callF_mono _ _ _)
  | refine x_neg ?_ (callF_mono _ _ _)
  | refine x_not ?_ (callF_mono _ _ _)
  | refine x_isi ?_ (callF_mono _ _ _)
  | refine x_t (by with_unfolding_all rfl) (callF_mono _ _ _) ?_
  | refine x_bcons ?_ (callF_mono _ _ _)
  | refine k_ixR (rd_of (by assumption)) (by with_unfolding_all rfl) ?_
  | refine k_ixR rd_put (by with_unfolding_all rfl) ?_
  | refine k_ixT (by with_unfolding_all rfl) ?_
  | refine k_lenR (rd_of (by assumption)) ?_
  | refine k_lenR rd_put ?_
  | refine k_ixR (rd_ne (by assumption) (rd_of (by assumption))) (by with_unfolding_all rfl) ?_
  | refine k_lenR (rd_ne (by assumption) (rd_of (by assumption))) ?_
  | refine k_setP (by with_unfolding_all rfl) ?_
  | refine k_set (by assumption) (by with_unfolding_all rfl) ?_
  | refine k_set put_same (by with_unfolding_all rfl) ?_
  | refine ⟨_, isi_int_N, ?_⟩ | refine ⟨_, isi_int_B, ?_⟩ | refine ⟨_, isi_int_I, ?_⟩ | refine ⟨_, isi_int_S, ?_⟩ | refine ⟨_, isi_int_T, ?_⟩ | refine ⟨_, isi_bool_N, ?_⟩ | refine ⟨_, isi_bool_B, ?_⟩ | refine ⟨_, isi_bool_I, ?_⟩ | refine ⟨_, isi_bool_S, ?_⟩ | refine ⟨_, isi_bool_T, ?_⟩ | refine ⟨_, isi_str_N, ?_⟩ | refine ⟨_, isi_str_B, ?_⟩ | refine ⟨_, isi_str_I, ?_⟩ | refine ⟨_, isi_str_S, ?_⟩ | refine ⟨_, isi_str_T, ?_⟩ | refine ⟨_, isi_tuple_N, ?_⟩ | refine ⟨_, isi_tuple_B, ?_⟩ | refine ⟨_, isi_tuple_I, ?_⟩ | refine ⟨_, isi_tuple_S, ?_⟩ | refine ⟨_, isi_tuple_T, ?_⟩ | refine ⟨_, isi_list_N, ?_⟩ | refine ⟨_, isi_list_B, ?_⟩ | refine ⟨_, isi_list_I, ?_⟩ | refine ⟨_, isi_list_S, ?_⟩ | refine ⟨_, isi_list_T, ?_⟩
  | refine x_slc ?_ (callF_mono _ _ _) | refine k_slcT ?_ | refine k_max3 ?_ | refine k_slcR (rd_of (by assumption)) ?_ | refine i_seqR rd_put ?_ | refine i_seqR (rd_of (by assumption)) ?_ | refine i_seqT ?_ | refine i_enumT ?_ | refine i_range (by omega) (by omega) ?_ | refine i_range2 (by omega) ?_ | refine k_tupR rd_put ?_ | refine k_tupR (rd_of (by assumption)) ?_
  | refine ⟨k_ty (by assumption), ?_⟩ | refine ⟨k_ty put_same, ?_⟩ | refine ⟨k_ty (st_ne (by assumption) (by assumption)), ?_⟩
  | refine ⟨_, by with_unfolding_all rfl, ?_⟩
  | refine k_mod (by omega) ?_ | refine k_div (by omega) ?_ | refine k_mul (cmulL (by omega) (by omega)) ?_ | refine k_mul (cmulR (by omega) (by omega)) ?_ | refine k_mul cmulB ?_ | refine k_pow18 ?_ | refine t_T ?_ | refine t_F ?_ | refine t_andT ?_ | refine t_andF ?_ | refine t_orT ?_ | refine t_orF ?_ | refine t_aa ?_ | refine t_oo ?_
  | refine x_fld ?_ | refine x_um ?_ | refine x_sfl ?_ | refine k_fld (by assumption) (by with_unfolding_all rfl) ?_)

theorem sub_frame {st s s' : Sto} {L : List Addr} (z : ∀ q ∈ L, st q = none) (h : Sub st s) (k : ∀ q, q ∉ L → s' q = s q) : Sub st s' := fun q o e => by
  have : q ∉ L := fun hm => by rw [z q hm] at e; cases e
  rw [k q this]
  exact h q o e
theorem sub_put1 {st s : Sto} {a : Addr} {o : O} (z : st a = none) (h : Sub st s) : Sub st (MP.put s a o) := fun q u e => by
  rw [put_ne (ne_st e z)]
  exact h q u e
theorem all_ne {L : List Addr} {p : Addr} (h : p ∉ L) : L.all (fun q => q != p) = true := by
  rw [List.all_eq_true]
  intro q hq
  have : q ≠ p := fun e => h (e ▸ hq)
  simpa using this
def lcT : List S := [
    .ex (.mth .list "append" (.var 17) [.call "_law_slot" [.ite (.cmp .NotEq (.var 17) (.lst [])) (.blt "max" [.var 20, .bin .Add (.ix (.var 17) (.neg (.int 1))) (.int 1)]) (.var 20), .ix (.var 0) (.int 0), .var 13] [] []]),
    lp1,
    .ex (.mth .list "append" (.var 18) [.var 20])]
def lcF : List S := 
    .ex (.mth .list "append" (.var 16) [.ite (.cmp .GtE (.var 7) (.var 12)) (.blt "max" [.ix (.var 2) (.var 7), .ix (.var 18) (.bin .Sub (.var 7) (.var 12))]) (.ix (.var 2) (.var 7))]) ::
    lp0 :: lcT
section
variable {C : Kst} {n : Nat} {st : Sto} {K : D → Sto → Prop} {P : Pm} {A B : Fa} {b d h pO : Addr} {S : CS} {round : Int} {cs : List Cal} {v : Line} {c : Nat} {ms : List Int} {first : Nat} {x : Cal} {k : Kt} {i : Nat} {w7 w19 w20 : Option D}
theorem lcBody_ok {s : Sto} {start : Int} (E : PmV round x v P) (pk : P.ok) (ok : x.ok) (okv : v.ok) (hi : i < 300) (hm : ms[i]? = some start) (m0 : 0 ≤ start) (zA : ∀ q ∈ A.ls, st q = none) (zB : ∀ q ∈ B.ls, st q = none) (zb : st b = none) (zd : st d = none) (zh : st h = none)
    (hO : st pO = some (.dcT [])) (hs : Sub st s) (L : LawAt s P first A B b d h S) (I : Inv P start first i S)
    (hk : ∀ s' S' w19 w20, Sub st s' → LawAt s' P first A B b d h S' → Inv P start first (i + 1) S' → k.nx (lcE round cs v c ms first pO x A B b d h (some (.int (i : Nat))) w19 w20) s') :
    evSs (callF dP C (n + 2)) C lcF (lcE round cs v c ms first pO x A B b d h (some (.int (i : Nat))) w19 w20) s k := by
  have pA : pO ∉ A.ls := fun hm => by rw [zA _ hm] at hO; cases hO
  have pB : pO ∉ B.ls := fun hm => by rw [zB _ hm] at hO; cases hO
  have oop := pk.op
  have oe0 := pk.e0
  have oe1 := pk.e1
  have Eop := E.q.op
  have pr := pk.ring
  have b0 : 0 ≤ bgF P start (fA S.heard) i := Int.le_trans m0 bg_start
  have lb := I.lb
  have ld := I.ld
  have lh := I.lh
  have dge : ∀ j, j < i → 0 ≤ fA S.done j := fun j hj => dn_ge0 pk m0 I.lr hj
  have stage2 : ∀ (bt : Int) s1, bt = bgF P start (fA S.heard) i → Sub st s1 → LawAt s1 P first A B b d h { S with begun := S.begun ++ [bt] } → evSs (callF dP C (n + 2)) C (lp0 :: lcT) (lcE round cs v c ms first pO x A B b d h (some (.int (i : Nat))) w19 w20) s1 k := by
    intro bt s1 hbt hs1 L1
    have bt0 : 0 ≤ bt := by omega
    refine x_cons ?_
    refine lp0_ok (g := g0F P start S.heard) E pk ok okv hi L1 (hs1 _ _ hO) (all_ne pA) I.l0 bt0 (by
      show (S.begun ++ [bt])[i]? = some bt
      rw [List.getElem?_append_right (by rw [lb]; exact Nat.le_refl _), lb, Nat.sub_self]
      rfl) (fun p hp => by
      unfold g0F
      rw [div_call hp, hbt]) (Int.le_trans m0 bg_start) I.i0 fun s2 W0 w19 L2 e0 a0 FW0 fr2 => ?_
    have hs2 : Sub st s2 := sub_frame zA hs1 fr2
    have hd2 : s2 d = some (.lst (S.done.map .int)) := L2.hd
    generalize hr0 : Rm P.c0 (fA W0) ((i + 1) * P.e0) = r0 at *
    -- the turn
    have stage3 : ∀ (t : Int) s3, Sub s2 s3 → t = (if i = 0 then r0 else max r0 (fA S.done (i - 1) + 1)) → callF dP C (n + 2) "_law_slot" [.int t, .int round, .int x.turn] [] [] s3 fun v1 st1 => evEs (callF dP C (n + 2)) C [] (lcE round cs v c ms first pO x A B b d h (some (.int (i : Nat))) w19 (some (.int r0))) st1 fun vs1 st2 => mthK .list "append" (.ref d) (v1 :: vs1) st2 fun x1 st3 => evSs (callF dP C (n + 2)) C [lp1, .ex (.mth .list "append" (.var 18) [.var 20])] (lcE round cs v c ms first pO x A B b d h (some (.int (i : Nat))) w19 (some (.int r0))) st3 k := by
      intro t s3 h23 ht
      have hr1' : 1 ≤ round := by rw [E.q.ring]; exact pr
      refine lslot_call hr1' ?_
      have L3 := L2.sub h23
      have hdn : slotT t x.turn round = slotT (if i = 0 then r0 else max r0 (fA S.done (i - 1) + 1)) P.turn P.ring := by rw [ht, E.q.turn, E.q.ring]
      have r00 : 0 ≤ r0 := by
        have l0' := rm_last (cm := P.c0) (f := fA W0) (j := (i + 1) * P.e0) (Nat.mul_pos (by omega) (by omega))
        have c0' := pk.c0
        have m9 : 0 < (i + 1) * P.e0 := Nat.mul_pos (by omega) (by omega)
        have g9 := FW0.ge pk.w0 (j := (i + 1) * P.e0 - 1) (by omega)
        have g8 : 0 ≤ g0F P start S.heard ((i + 1) * P.e0 - 1) := Int.le_trans m0 bg_start
        omega
      have dn0 : 0 ≤ slotT t x.turn round := by
        have := slot_ge (t := t) (s := x.turn) hr1'
        split at ht <;> omega
      generalize slotT t x.turn round = dd at *
      refine x_enil ?_
      refine k_app L3.hd (by
        show (S.done.map D.int).length < _
        rw [List.length_map, sizeLine_eq]
        omega) ?_
      have L4 := L3.pd (S.done ++ [dd])
      have hs4 : Sub st (put s3 d (.lst ((S.done ++ [dd]).map .int))) := sub_put1 zd (hs2.trans h23)
      have e4 : S.done.map D.int ++ [D.int dd] = (S.done ++ [dd]).map D.int := by rw [List.map_append] <;> rfl
      show evSs _ _ _ _ (put s3 d (.lst (S.done.map D.int ++ [D.int dd]))) _
      rw [e4]
      generalize put s3 d (.lst ((S.done ++ [dd]).map .int)) = s4 at *
      have dlast : fA (S.done ++ [dd]) i = dd := by
        have := fA_last (fs := S.done) (v := dd)
        rw [ld] at this
        exact this
      refine x_cons ?_
      refine lp1_ok (g := g1F P (S.done ++ [dd])) E pk ok okv hi L4 (hs4 _ _ hO) (all_ne pB) I.l1 dn0 (by
        show (S.done ++ [dd])[i]? = some dd
        rw [List.getElem?_append_right (by rw [ld]; exact Nat.le_refl _), ld, Nat.sub_self]
        rfl) (fun p hp => by
        unfold g1F
        rw [div_call hp, dlast]) (by
        unfold g1F
        rw [Nat.zero_div]
        rcases Nat.eq_zero_or_pos i with z | z
        · subst z
          rw [dlast]
          exact dn0
        · rw [fA_app (by omega)]
          exact dge 0 z) (I.i1.congr pk.m1 pk.r1 fun j hj => by
        unfold g1F
        have hj : j < S.s1.length := hj
        rw [I.l1] at hj
        have := div_lt hj
        rw [fA_app (by omega)]) fun s5 W1 w19 L5 e1 a1 FW1 fr5 => ?_
      have hs5 : Sub st s5 := sub_frame zB hs4 fr5
      have hh5 : s5 h = some (.lst (S.heard.map .int)) := L5.hh
      generalize hr1 : Rm P.c1 (fA W1) ((i + 1) * P.e1) = r1 at *
      unfold lcE
      repeat infer_instance
      refine k_app hh5 (by rw [List.length_map, sizeLine_eq, lh]; omega) ?_
      have e6 : S.heard.map D.int ++ [D.int r1] = (S.heard ++ [r1]).map D.int := by rw [List.map_append] <;> rfl
      show evSs _ _ _ _ (put s5 h (.lst (S.heard.map D.int ++ [D.int r1]))) _
      rw [e6]
      have L6 := L5.ph (S.heard ++ [r1])
      have hs6 : Sub st (put s5 h (.lst ((S.heard ++ [r1]).map .int))) := sub_put1 zh hs5
      refine x_nil (F := callF dP C (n + 2)) (C := C) ?_
      exact hk _ _ _ _ hs6 L6 (I.step pk e0 e1 a0 a1 FW0 FW1 hr0.symm hdn hr1.symm)
    unfold lcT lcE
    refine x_cons ?_
    refine x_ex ?_
    repeat infer_instance
    intro q hq
    refine k_neNil (st_ne (ne_st hd2 hq) hd2) put_same (fun z hz => by obtain ⟨y, _, rfl⟩ := List.mem_map.mp hz; trivial) ?_
    have h2q : Sub s2 (put s2 q (.lst [])) := sub_fresh hq
    have hdq := h2q _ _ hd2
    generalize put s2 q (.lst []) = s3 at *
    unfold lcE at stage3
    have stage3 := fun t e => stage3 t s3 h2q e
    cases he : (S.done.map D.int).isEmpty with
    | true =>
      have e0 : S.done = [] := by simpa using he
      have i0 : i = 0 := by rw [← ld, e0]; rfl
      repeat infer_instance
      refine k_ixT (v := .int round) rfl ?_
      repeat infer_instance
      refine stage3 _ ?_
      rw [if_pos i0]
    | false =>
      have hpz : 0 < S.done.length := by
        rcases Nat.eq_zero_or_pos S.done.length with z | z
        · have : S.done = [] := List.eq_nil_of_length_eq_zero z
          rw [this] at he
          cases he
        · exact z
      repeat infer_instance
      refine k_ixR (rd_of hdq) (ints_last hpz) ?_
      repeat infer_instance
      refine k_ixT (v := .int round) rfl ?_
      repeat infer_instance
      refine stage3 _ ?_
      rw [if_neg (by omega), List.getLast?_eq_getElem?, ld]
      rfl
  have hb := L.hb
  have hh := L.hh
  have stage1 : ∀ t : Int, t = bgF P start (fA S.heard) i → mthK .list "append" (.ref b) [.int t] s fun x1 st3 => evSs (callF dP C (n + 2)) C (lp0 :: lcT) (lcE round cs v c ms first pO x A B b d h (some (.int (i : Nat))) w19 w20) st3 k := by
    intro t ht
    refine k_app hb (by rw [List.length_map, sizeLine_eq]; omega) ?_
    have e4 : S.begun.map D.int ++ [D.int t] = (S.begun ++ [t]).map D.int := by rw [List.map_append] <;> rfl
    rw [e4]
    exact stage2 _ _ ht (sub_put1 zb hs) (L.pb _)
  unfold lcF
  unfold lcE at stage1 ⊢
  have e7 : bgF P start (fA S.heard) i = if P.op ≤ i then max start (fA S.heard (i - P.op)) else start := rfl
  refine x_cons ?_
  refine x_ex ?_
  repeat infer_instance
  refine t_if (fun hge => ?_) (fun hlt => ?_)
  · have hkk : i - P.op < S.heard.length := by omega
    rw [if_pos (by omega)] at e7
    repeat infer_instance
    refine k_ixT (atN (v := .int start) (by rw [List.getElem?_map, hm] <;> rfl)) ?_
    repeat infer_instance
    refine k_ixR (rd_of hh) (by rw [show (i : Int) - x.op = ((i - P.op : Nat) : Int) by omega]; exact ints_at hkk) ?_
    repeat infer_instance
    exact stage1 _ e7.symm
  · rw [if_neg (by omega)] at e7
    repeat infer_instance
    refine k_ixT (atN (v := .int start) (by rw [List.getElem?_map, hm] <;> rfl)) ?_
    repeat infer_instance
    exact stage1 _ e7.symm
theorem lcaller_call {start : Int} {many : Nat} (E : PmV round x v P) (pk : P.ok) (hx : cs[c]? = some x) (ok : x.ok) (okv : v.ok) (hmany : many ≤ 299) (m0 : 0 ≤ start) (hO : st pO = some (.dcT []))
    (h : ∀ st' S (z1 z2 z4 z5 : D), Sub st st' → Inv P start first many S → K (.tup [z1, z2, .tup (S.heard.map .int), z4, z5]) st') :
    callF dP C (n + 3) "_law_caller_times" [dsD round cs, lnD v, .tup ((List.replicate many start).map .int), .int (c : Nat), .str "slow", .ref pO, .int (first : Nat)] [] [] st K := by
  refine call_pos P_l_caller_times (by simp [f_l_caller_times]) rfl (body_of P_l_caller_times rfl ?_)
  show evSs _ C [
    .asg (.tup [.nm 8, .nm 9, .nm 10, .nm 11, .nm 12, .nm 13]) (.ix (.ix (.var 0) (.int 1)) (.var 3)),
    .asg (.tup [.nm 14, .nm 15]) (.tup [.call "_law_line" [] [] [], .call "_law_line" [] [] []]),
    .asg (.tup [.nm 16, .nm 17, .nm 18]) (.tup [.lst [], .lst [], .lst []]),
    .for (.nm 7) .range [.blt "len" [.var 2]] lcF,
    .ret (.tup [.blt "tuple" [.var 16], .blt "tuple" [.var 17], .blt "tuple" [.var 18], .blt "tuple" [.ix (.var 14) (.str "all")], .blt "tuple" [.ix (.var 15) (.str "all")]])]
    [some (dsD round cs), some (lnD v), some (.tup ((List.replicate many start).map .int)), some (.int (c : Nat)), some (.str "slow"), some (.ref pO), some (.int (first : Nat)), none, none, none, none, none, none, none, none, none, none, none, none, none, none] _ _
  refine x_cons ?_
  refine x_asgT ?_ (callF_mono _ _ _)
  repeat infer_instance
  refine k_ixT (v := .tup (cs.map calD)) rfl ?_
  repeat infer_instance
  refine k_ixT (atN (v := calD x) (by rw [List.getElem?_map, hx] <;> rfl)) ?_
  unfold calD
  repeat infer_instance
  refine lline_call (first * P.e0) P.T0 P.c0 fun A s1 fA zA sA => ?_
  repeat infer_instance
  refine lline_call (first * P.e1) P.T1 P.c1 fun B s2 fB zB sB => ?_
  repeat infer_instance
  intro b hb
  have s3 : Sub s2 (put s2 b (.lst [])) := sub_fresh hb
  have gb : put s2 b (.lst []) b = some (.lst []) := put_same
  generalize put s2 b (.lst []) = st3 at *
  repeat infer_instance
  intro d hd
  have nbd : b ≠ d := ne_st gb hd
  have s4 := s3.new (s3.none hd) (.lst [])
  have hd2 := s3.none hd
  have gb := st_ne (o := .lst []) nbd gb
  have gd : put st3 d (.lst []) d = some (.lst []) := put_same
  have s4 : Sub s2 (put st3 d (.lst [])) := s3.trans (sub_fresh hd)
  generalize put st3 d (.lst []) = st4 at *
  repeat infer_instance
  intro hh hhn
  have nbh : b ≠ hh := ne_st gb hhn
  have ndh : d ≠ hh := ne_st gd hhn
  have hh2 := s4.none hhn
  have gb := st_ne (o := .lst []) nbh gb
  have gd := st_ne (o := .lst []) ndh gd
  have gh : put st4 hh (.lst []) hh = some (.lst []) := put_same
  have s5 : Sub s2 (put st4 hh (.lst [])) := s4.trans (sub_fresh hhn)
  generalize put st4 hh (.lst []) = st5 at *
  have sAB := sA.trans sB
  have s05 : Sub st st5 := sAB.trans s5
  have zB' : ∀ q ∈ B.ls, st q = none := fun q hq => sA.none (zB q hq)
  have fA2 := fA.sub sB
  have notA : ∀ q, s2 q = none → q ∉ A.ls := fun q e hm => fA2.there q hm e
  have notB : ∀ q, s2 q = none → q ∉ B.ls := fun q e hm => fB.there q hm e
  have L : LawAt st5 P first A B b d hh ⟨[], [], [], [], []⟩ := ⟨fA2.sub s5, fB.sub s5, gb, gd, gh, fun q hA hB => fA.there q hA (zB q hB), ⟨notA _ hb, notB _ hb⟩, ⟨notA _ hd2, notB _ hd2⟩, ⟨notA _ hh2, notB _ hh2⟩, ⟨nbd, nbh, ndh⟩⟩
  have zb := sAB.none hb
  have zd := sAB.none hd2
  have zh := sAB.none hh2
  clear gb gd gh
  repeat infer_instance
  rw [List.length_map, List.length_replicate]
  repeat infer_instance
  refine forK_of (fun i σ s => ∃ S w7 w19 w20, Sub st s ∧ LawAt s P first A B b d hh S ∧ Inv P start first i S ∧ σ = lcE round cs v c (List.replicate many start) first pO x A B b d hh w7 w19 w20)
    ⟨_, none, none, none, s05, L, Inv.zero, rfl⟩ (fun _ _ _ _ => trivial) ?_ ?_
  · rintro σ s ⟨S, w7, w19, w20, hs, L, I, rfl⟩
    rw [List.length_map, List.length_range, Int.toNat_natCast] at I
    have hb := L.hb
    have hd := L.hd
    have hh := L.hh
    obtain ⟨r0, ha, _⟩ := L.f0.ha
    obtain ⟨r1, ha1, _⟩ := L.f1.ha
    unfold lcE
    repeat infer_instance
    refine k_ixD (dct_of L.f0.hp) rfl (v := .ref A.a) (by with_unfolding_all rfl) ?_
    repeat infer_instance
    refine k_ixD (dct_of L.f1.hp) rfl (v := .ref B.a) (by with_unfolding_all rfl) ?_
    repeat infer_instance
    exact h s S _ _ _ _ hs I
  · rintro i y σ s R hy ⟨S, w7, w19, w20, hs, L, I, rfl⟩ hR
    obtain ⟨rfl, hi⟩ := at_range hy
    rw [Int.toNat_natCast] at hi
    have hmi : (List.replicate many start)[i]? = some start := by rw [List.getElem?_replicate, if_pos hi]
    show evSs _ _ lcF (lcE round cs v c (List.replicate many start) first pO x A B b d hh (some (.int (i : Nat))) w19 w20) s _
    refine lcBody_ok E pk ok okv (by omega) hmi m0 zA zB' zb zd zh hO hs L I fun s' S' w19 w20 hs' L' I' => ?_
    exact hR _ _ ⟨S', _, _, _, hs', L', I', rfl⟩
end

end MP

set_option Elab.async false
set_option linter.all false
set_option maxRecDepth 100000
set_option maxHeartbeats 8000000
/-! K22o: the bag -/
namespace MP
open PySem PySem.Spec
local macro_rules | `(tactic| infer_instance) => `(tactic| with_reducible first
  | refine k_is_N ?_ | refine k_isn_N ?_ | refine k_is_B ?_ | refine k_isn_B ?_ | refine k_is_I ?_ | refine k_isn_I ?_ | refine k_is_S ?_ | refine k_isn_S ?_ | refine k_is_T ?_ | refine k_isn_T ?_ | refine k_is_R ?_ | refine k_isn_R ?_ | refine t_nT ?_ | refine t_nF ?_ | refine t_andnT ?_ | refine t_andnF ?_ | refine t_ornT ?_ | refine t_ornF ?_
  | refine x_var (by with_unfolding_all rfl) ?_
  | refine x_nil ?_
  | refine x_cons ?_
  | refine x_asg ?_
  | refine x_sub ?_
  | refine x_ex ?_
  | refine x_ret ?_
  | refine x_retN ?_
  | refine x_iff ?_
  | refine x_for ?_
  | refine x_pass ?_
  | refine x_brk ?_
  | refine x_cont ?_
  | refine x_non ?_
  | refine x_bl ?_
  | refine x_int ?_
  | refine x_str ?_
  | refine x_bin ?_
  | refine x_cmp ?_
  | refine x_cmp2 ?_
  | refine x_bop ?_
  | refine x_ite ?_
  | refine x_tup ?_
  | refine x_lst ?_
  | refine x_ix ?_
  | refine x_call ?_
  | refine x_blt ?_
  | refine x_mth ?_
  | refine x_lc ?_
  | refine x_enil ?_
  | refine x_econs ?_
  | refine x_b1 ?_
  | refine x_tnot ?_
  | refine x_tbop ?_
  | refine x_tite ?_
  | refine x_btnil ?_
  | refine x_btcons ?_
  | refine x_ts0 ?_
  | refine x_ts1 ?_
  | refine k_add ?_
  | refine k_sub ?_
  | refine k_eqI ?_
  | refine k_neI ?_
  | refine k_ltI ?_
  | refine k_leI ?_
  | refine k_gtI ?_
  | refine k_geI ?_
  | refine k_lenT ?_
  | refine k_intI ?_
  | refine k_intB ?_
  | refine k_abs ?_
  | refine k_max2 ?_
  | refine k_min2 ?_
  | refine x_asgT ?_ (callF_mono _ _ _)
  | refine x_neg ?_ (callF_mono _ _ _)
  | refine x_not ?_ (callF_mono _ _ _)
  | refine x_isi ?_ (callF_mono _ _ _)
  | refine x_t (by with_unfolding_all rfl) (callF_mono _ _ _) ?_
  | refine x_bcons ?_ (callF_mono _ _ _)
  | refine k_ixR (rd_of (by assumption)) (by with_unfolding_all rfl) ?_
  | refine k_ixR rd_put (by with_unfolding_all rfl) ?_
  | refine k_ixT (by with_unfolding_all rfl) ?_
  | refine k_lenR (rd_of (by assumption)) ?_
  | refine k_lenR rd_put ?_
  | refine k_ixR (rd_ne (by assumption) (rd_of (by assumption))) (by with_unfolding_all rfl) ?_
  | refine k_lenR (rd_ne (by assumption) (rd_of (by assumption))) ?_
  | refine k_setP (by with_unfolding_all rfl) ?_
  | refine k_set (by assumption) (by with_unfolding_all rfl) ?_
  | refine k_set put_same (by with_unfolding_all rfl) ?_
  | refine ⟨_, isi_int_N, ?_⟩ | refine ⟨_, isi_int_B, ?_⟩ | refine ⟨_, isi_int_I, ?_⟩ | refine ⟨_, isi_int_S, ?_⟩ | refine ⟨_, isi_int_T, ?_⟩ | refine ⟨_, isi_bool_N, ?_⟩ | refine ⟨_, isi_bool_B, ?_⟩ | refine ⟨_, isi_bool_I, ?_⟩ | refine ⟨_, isi_bool_S, ?_⟩ | refine ⟨_, isi_bool_T, ?_⟩ | refine ⟨_, isi_str_N, ?_⟩ | refine ⟨_, isi_str_B, ?_⟩ | refine ⟨_, isi_str_I, ?_⟩ | refine ⟨_, isi_str_S, ?_⟩ | refine ⟨_, isi_str_T, ?_⟩ | refine ⟨_, isi_tuple_N, ?_⟩ | refine ⟨_, isi_tuple_B, ?_⟩ | refine ⟨_, isi_tuple_I, ?_⟩ | refine ⟨_, isi_tuple_S, ?_⟩ | refine ⟨_, isi_tuple_T, ?_⟩ | refine ⟨_, isi_list_N, ?_⟩ | refine ⟨_, isi_list_B, ?_⟩ | refine ⟨_, isi_list_I, ?_⟩ | refine ⟨_, isi_list_S, ?_⟩ | refine ⟨_, isi_list_T, ?_⟩
  | refine x_slc ?_ (callF_mono _ _ _) | refine k_slcT ?_ | refine k_max3 ?_ | refine k_slcR (rd_of (by assumption)) ?_ | refine i_seqR rd_put ?_ | refine i_seqR (rd_of (by assumption)) ?_ | refine i_seqT ?_ | refine i_enumT ?_ | refine i_range (by omega) (by omega) ?_ | refine i_range2 (by omega) ?_ | refine k_tupR rd_put ?_ | refine k_tupR (rd_of (by assumption)) ?_
  | refine ⟨k_ty (by assumption), ?_⟩ | refine ⟨k_ty put_same, ?_⟩ | refine ⟨k_ty (st_ne (by assumption) (by assumption)), ?_⟩
  | refine ⟨_, by with_unfolding_all rfl, ?_⟩
  | refine k_mod (by omega) ?_ | refine k_div (by omega) ?_ | refine k_mul (cmulL (by omega) (by omega)) ?_ | refine k_mul (cmulR (by omega) (by omega)) ?_ | refine k_mul cmulB ?_ | refine k_pow18 ?_ | refine t_T ?_ | refine t_F ?_ | refine t_andT ?_ | refine t_andF ?_ | refine t_orT ?_ | refine t_orF ?_ | refine t_aa ?_ | refine t_oo ?_
  | refine x_fld ?_ | refine x_um ?_ | refine x_sfl ?_ | refine k_fld (by assumption) (by with_unfolding_all rfl) ?_)

/-- the bag, the cells' list told too -/
structure Bag3 (st : Sto) (a b c : Addr) : Prop where
  ex : ∃ (g t : Int) (great cells : List Int), st a = some (.lst [.int g, .int t, .ref b, .ref c]) ∧ st b = some (.lst (great.map .int)) ∧ st c = some (.lst (cells.map .int)) ∧ 0 < cells.length ∧ a ≠ b ∧ a ≠ c ∧ b ≠ c
theorem Bag3.of {st : Sto} {a b : Addr} (h : BagAt st a b) : ∃ c, Bag3 st a b c := by
  obtain ⟨g, t, c, great, cells, h⟩ := h.ex
  exact ⟨c, ⟨g, t, great, cells, h⟩⟩
theorem Bag3.sub {a b c : Addr} {s t : Sto} (h : Sub s t) (f : Bag3 s a b c) : Bag3 t a b c := by
  obtain ⟨g, u, great, cells, h1, h2, h3, h4⟩ := f.ex
  exact ⟨g, u, great, cells, h _ _ h1, h _ _ h2, h _ _ h3, h4⟩
theorem Bag3.ne {a b c p : Addr} {s : Sto} (f : Bag3 s a b c) (hp : s p = none) : p ≠ a ∧ p ≠ b ∧ p ≠ c := by
  obtain ⟨g, t, great, cells, h1, h2, h3, h4⟩ := f.ex
  exact ⟨fun e => (by rw [e, h1] at hp; cases hp), fun e => (by rw [e, h2] at hp; cases hp), fun e => (by rw [e, h3] at hp; cases hp)⟩
theorem Bag3.put {a b c p : Addr} {s : Sto} {o : O} (f : Bag3 s a b c) (h1 : p ≠ a) (h2 : p ≠ b) (h3 : p ≠ c) : Bag3 (MP.put s p o) a b c := by
  obtain ⟨g, t, great, cells, g1, g2, g3, g4⟩ := f.ex
  exact ⟨g, t, great, cells, by rw [put_ne h1.symm]; exact g1, by rw [put_ne h2.symm]; exact g2, by rw [put_ne h3.symm]; exact g3, g4⟩
section
variable {P : Str → Option Fn} {C : Kst} {n : Nat}
theorem b3draw_call (hP : P "_law_draw" = some f_bdraw) {a b c : Addr} {m : Int} {st : Sto} {K : D → Sto → Prop} (hf : Bag3 st a b c) (h0 : 0 < m) (h1 : m < 1073741824)
    (h : ∀ v st', 0 ≤ v → v < m → Bag3 st' a b c → Ex2 a b st st' → K (.int v) st') : callF P C (n + 1) "_law_draw" [.ref a, .int m] [] [] st K := by
  refine call_pos hP (by simp [f_bdraw]) rfl (body_of hP rfl ?_)
  obtain ⟨g, t, great, cells, ha, hb, hc, hl, nab, nac, nbc⟩ := hf.ex
  show evSs _ C b_bdraw [some (.ref a), some (.int m), none, none, none] _ _
  unfold b_bdraw
  have nba := nab.symm
  have nca := nac.symm
  have ncb := nbc.symm
  -- the end, once the number is chosen
  have fin : ∀ (v g t : Int) (gr : List Int) (st' : Sto), 0 ≤ v → v < m → st' a = some (.lst [.int g, .int t, .ref b, .ref c]) → st' b = some (.lst (gr.map .int)) → st' c = some (.lst (cells.map .int)) → Ex2 a b st st' → K (.int v) st' :=
    fun v g t gr st' v0 v1 h1 h2 h3 h4 => h v st' v0 v1 ⟨g, t, gr, cells, h1, h2, h3, hl, nab, nac, nbc⟩ h4
  have tail : ∀ (g t : Int) (gr : List Int) (st' : Sto), st' a = some (.lst [.int g, .int t, .ref b, .ref c]) → st' b = some (.lst (gr.map .int)) → st' c = some (.lst (cells.map .int)) → Ex2 a b st st' →
      evSs (callF P C n) C (b_bdraw.drop 2) [some (.ref a), some (.int m), none, none, none] st' { nx := fun _ st' => K .non st', rt := K, bk := fun _ _ => False, ct := fun _ _ => False } := by
    intro g t gr st' ha hb hc he
    simp only [b_bdraw, List.drop_succ_cons, List.drop_zero]
    repeat infer_instance
    refine t_if (fun hg => ?_) (fun hg => ?_)
    · repeat infer_instance
      exact fin _ (g / m) t gr _ (Int.emod_nonneg _ (by omega)) (Int.emod_lt_of_pos _ h0) (by rw [put_same] <;> rfl) (by rw [put_ne nab.symm]; exact hb) (by rw [put_ne nac.symm]; exact hc) (he.trans fun q u n1 n2 e => by rw [put_ne n1]; exact e)
    · repeat infer_instance
      refine k_mod (by rw [List.length_map]; omega) ?_
      obtain ⟨x, hx, _, e⟩ := at_in (f := D.int) (xs := cells) (i := t % ((cells.map D.int).length : Int)) (Int.emod_nonneg _ (by rw [List.length_map]; omega)) (by rw [List.length_map]; exact Int.emod_lt_of_pos _ (by omega))
      refine k_ixR (rd_of hc) e ?_
      repeat infer_instance
      exact fin _ g t gr _ (Int.emod_nonneg _ (by omega)) (Int.emod_lt_of_pos _ h0) ha hb hc he
  have hE : Ex2 a b st (put st a (.lst [.int g, .int (t + 1), .ref b, .ref c])) := fun q u n1 n2 e => by rw [put_ne n1]; exact e
  repeat infer_instance
  refine t_andE (fun h0 => ?_) (fun h0 => ?_)
  · repeat infer_instance
    refine t_and (fun hgt => ?_) (fun hgt => ?_)
    · rw [List.length_map] at hgt
      have hlt : great.length - 1 < great.length := by omega
      repeat infer_instance
      refine k_pop (st_ne nab.symm hb) (y := .int great[great.length - 1]) (by rw [List.length_map, List.getElem?_map, List.getElem?_eq_getElem hlt] <;> rfl) ?_
      repeat infer_instance
      refine k_set (st_ne nab put_same) rfl ?_
      infer_instance
      refine tail _ (t + 1) great.dropLast _ (by rw [put_same] <;> rfl) (by rw [put_ne nab.symm, put_same, List.map_dropLast]) (by rw [put_ne nac.symm, put_ne nbc.symm, put_ne nac.symm]; exact hc) ?_
      intro q u n1 n2 e
      rw [put_ne n1, put_ne n2, put_ne n1]
      exact e
    · refine t_if (fun h => absurd h hgt) (fun _ => ?_)
      infer_instance
      exact tail _ _ great _ (by rw [put_same] <;> rfl) (by rw [put_ne nab.symm]; exact hb) (by rw [put_ne nac.symm]; exact hc) hE
  · refine t_ifE (fun h => absurd h h0) (fun _ => ?_)
    infer_instance
    exact tail _ _ great _ (by rw [put_same] <;> rfl) (by rw [put_ne nab.symm]; exact hb) (by rw [put_ne nac.symm]; exact hc) hE
theorem b3pick_call (hP : P "_law_draw" = some f_bdraw) (hp : P "_law_pick" = some f_bpick) {a b c p : Addr} {xs : List D} {st : Sto} {K : D → Sto → Prop} (hf : Bag3 st a b c) (hx : st p = some (.lst xs)) (hpa : p ≠ a) (hpb : p ≠ b) (h0 : 0 < xs.length) (h1 : xs.length < 1000)
    (h : ∀ x st', x ∈ xs → Bag3 st' a b c → Ex2 a b st st' → K x st') : callF P C (n + 2) "_law_pick" [.ref a, .ref p] [] [] st K := by
  refine call_pos hp (by simp [f_bpick]) rfl (body_of hp rfl ?_)
  show evSs _ C b_bpick [some (.ref a), some (.ref p)] _ _
  unfold b_bpick
  repeat infer_instance
  refine b3draw_call hP hf (by omega) (by omega) fun v st' v0 v1 hf' he => ?_
  have hi : v.toNat < xs.length := by omega
  refine k_ixR (rd_of (he p _ hpa hpb hx)) (atZ v0 (List.getElem?_eq_getElem hi)) ?_
  exact h _ st' (List.getElem_mem hi) hf' he
end
theorem Ex2.new {a b p : Addr} {s t : Sto} {o : O} (h : Ex2 a b s t) (hp : s p = none) : Ex2 a b s (MP.put t p o) := fun q u n m e => by
  have : q ≠ p := fun z => by rw [z, hp] at e; cases e
  rw [put_ne this]
  exact h q u n m e

theorem Ex2.wr {a b p : Addr} {s t : Sto} {o : O} (h : Ex2 a b s t) (hp : s p = none) : Ex2 a b s (MP.put t p o) := fun q u n m e => by
  rw [put_ne (ne_st e hp)]
  exact h q u n m e
theorem Ex2.nn {a b p : Addr} {s t : Sto} (h : Ex2 a b s t) (n : p ≠ a) (m : p ≠ b) (hp : t p = none) : s p = none := by
  cases e : s p with
  | none => rfl
  | some o => rw [h p o n m e] at hp; cases hp
theorem k_lstR {C : Kst} {st : Sto} {K : D → Sto → Prop} {p : Addr} {xs : List D} (r : st p = some (.lst xs)) (h : newL xs st K) : bltK C "list" [.ref p] st K := by
  unfold bltK
  rw [if_neg (by decide), if_neg (by decide), if_neg (by decide), if_neg (by decide), if_neg (by decide), if_neg (by decide), if_neg (by decide), if_pos rfl]
  show (match items C st (.ref p) with
    | some xs => newL xs st K
    | none => False)
  rw [show items C st (.ref p) = some xs from rd_of r]
  exact h
section
variable {C : Kst} {n : Nat} {st : Sto} {K : D → Sto → Prop} {a b c : Addr}
theorem some_call {pt : Addr} {xs : List D} {many : Nat} (hf : Bag3 st a b c) (hx : st pt = some (.lst xs)) (hm : many ≤ xs.length) (hz : xs.length < 1000)
    (h : ∀ pm ys st', ys.length = many → (∀ y ∈ ys, y ∈ xs) → Bag3 st' a b c → Ex2 a b st st' → st pm = none → st' pm = some (.lst ys) → K (.ref pm) st') :
    callF dP C (n + 2) "_law_some" [.ref a, .ref pt, .int many] [] [] st K := by
  refine call_pos P_l_some (by simp [f_l_some]) rfl (body_of P_l_some rfl ?_)
  show evSs _ C b_l_some [some (.ref a), some (.ref pt), some (.int many), none, none, none] _ _
  unfold b_l_some
  refine x_cons ?_
  refine x_asg ?_
  repeat infer_instance
  refine k_lstR hx ?_
  intro pl hpl
  have nl := hf.ne hpl
  have e1 : Ex2 a b st (put st pl (.lst xs)) := Ex2.of (sub_fresh hpl)
  have g1 : put st pl (.lst xs) pl = some (.lst xs) := put_same
  have f1 := hf.sub (sub_fresh (o := .lst xs) hpl)
  generalize put st pl (.lst xs) = st1 at *
  repeat infer_instance
  intro pm hpm
  have nm := f1.ne hpm
  have nlm : pl ≠ pm := ne_st g1 hpm
  have hpm0 := e1.nn nm.1 nm.2.1 hpm
  have sm := sub_fresh (o := .lst ([] : List D)) hpm
  have g2 : put st1 pm (.lst ([] : List D)) pm = some (.lst []) := put_same
  have g1 := sm.st g1
  have f2 := f1.sub sm
  have e2 := e1.trans (Ex2.of sm)
  generalize put st1 pm (.lst ([] : List D)) = st2 at *
  refine x_cons ?_
  refine x_for ?_
  repeat infer_instance
  refine forK_of (fun i σ s => Bag3 s a b c ∧ Ex2 a b st s ∧ (∃ ls ys, s pl = some (.lst ls) ∧ s pm = some (.lst ys) ∧ ls.length + i = xs.length ∧ ys.length = i ∧ (∀ y ∈ ls, y ∈ xs) ∧ (∀ y ∈ ys, y ∈ xs)) ∧ ∃ w5, σ = [some (.ref a), some (.ref pt), some (.int many), some (.ref pl), some (.ref pm), w5])
    ⟨f2, e2, ⟨xs, [], g1, g2, by omega, rfl, fun _ h => h, fun _ h => by cases h⟩, none, rfl⟩ (fun _ _ _ _ => trivial) ?_ ?_
  · rintro σ s ⟨f, e, ⟨ls, ys, q1, q2, q3, q4, q5, q6⟩, w5, rfl⟩
    rw [List.length_map, List.length_range, Int.toNat_natCast] at q4
    repeat infer_instance
    exact h pm ys s q4 q6 f e hpm0 q2
  · rintro i y σ s R hy ⟨f, e, ⟨ls, ys, q1, q2, q3, q4, q5, q6⟩, w5, rfl⟩ hR
    obtain ⟨rfl, hi⟩ := at_range hy
    rw [Int.toNat_natCast] at hi
    simp only [bindG, List.set_cons_succ, List.set_cons_zero]
    repeat infer_instance
    refine b3draw_call P_l_draw f (by omega) (by omega) fun v s1 v0 v1 f1 e1 => ?_
    have hv : v.toNat < ls.length := by omega
    refine x_enil ?_
    refine k_popI (e1 _ _ nl.1 nl.2.1 q1) v0 (by omega) (List.getElem?_eq_getElem hv) ?_
    refine x_enil ?_
    refine k_app (xs := ys) (by rw [put_ne nlm.symm]; exact e1 _ _ nm.1 nm.2.1 q2) (by rw [sizeLine_eq]; omega) ?_
    refine x_nil (F := callF dP C (n + 1)) (C := C) ?_
    refine hR _ _ ⟨(f1.put nl.1 nl.2.1 nl.2.2).put nm.1 nm.2.1 nm.2.2, ((e.trans e1).wr hpl).wr hpm0, ⟨ls.eraseIdx v.toNat, ys ++ [ls[v.toNat]], by rw [put_ne nlm, put_same], put_same, ?_, by simp [q4], fun z hz => q5 z (List.mem_of_mem_eraseIdx hz), fun z hz => ?_⟩, _, rfl⟩
    · rw [List.length_eraseIdx_of_lt hv]
      omega
    · rcases List.mem_append.mp hz with hz | hz
      · exact q6 z hz
      · rw [List.mem_singleton.mp hz]
        exact q5 _ (List.getElem_mem hv)
end
section
variable {C : Kst} {n : Nat} {st : Sto} {K : D → Sto → Prop} {a b c : Addr}
/-- a new list, then one of it -/
theorem pickL {xs : List D} (hf : Bag3 st a b c) (h0 : 0 < xs.length) (h1 : xs.length < 1000) (h : ∀ x st', x ∈ xs → Bag3 st' a b c → Ex2 a b st st' → K x st') : ∀ p, st p = none → callF dP C (n + 2) "_law_pick" [.ref a, .ref p] [] [] (put st p (.lst xs)) K := fun p hp => by
  have nq := hf.ne hp
  have sp := sub_fresh (o := .lst xs) hp
  exact b3pick_call P_l_draw P_l_pick (hf.sub sp) put_same nq.1 nq.2.1 h0 h1 fun x st' hx f' e' => h x st' hx f' ((Ex2.of sp).trans e')
theorem droad_call {wide : Int} (hf : Bag3 st a b c) (w0 : 0 ≤ wide) (w1 : wide ≤ 9) (h : ∀ (v : Line) (st' : Sto), v.ok → Bag3 st' a b c → Ex2 a b st st' → K (lnD v) st') : callF dP C (n + 2) "_law_draw_road" [.ref a, .int wide] [] [] st K := by
  refine call_pos P_l_draw_road (by simp [f_l_draw_road]) rfl (body_of P_l_draw_road rfl ?_)
  show evSs _ C b_l_draw_road [some (.ref a), some (.int wide), none, none] _ _
  unfold b_l_draw_road
  repeat infer_instance
  refine b3draw_call P_l_draw hf (by decide) (by decide) fun x1 st1 a1 a2 f1 e1 => ?_
  repeat infer_instance
  refine b3draw_call P_l_draw f1 (by decide) (by decide) fun x2 st2 b1 b2 f2 e2 => ?_
  repeat infer_instance
  refine b3draw_call P_l_draw f2 (by omega) (by omega) fun x3 st3 c1 c2 f3 e3 => ?_
  repeat infer_instance
  refine b3draw_call P_l_draw f3 (by omega) (by omega) fun x4 st4 d1 d2 f4 e4 => ?_
  repeat infer_instance
  refine b3draw_call P_l_draw f4 (by decide) (by decide) fun x5 st5 g1 g2 f5 e5 => ?_
  repeat infer_instance
  refine b3draw_call P_l_draw f5 (by decide) (by decide) fun x6 st6 i1 i2 f6 e6 => ?_
  repeat infer_instance
  refine h ⟨1 + x1, 1 + x1 + x3, 1 + x2, 1 + x2 + x4, 1 + x5, 1 + x6⟩ st6 ⟨?_, ?_, ?_, ?_, ?_, ?_, ?_, ?_⟩ f6 (((((e1.trans e2).trans e3).trans e4).trans e5).trans e6)
  all_goals simp only []
  all_goals omega
end

end MP

set_option Elab.async false
set_option linter.all false
set_option maxRecDepth 100000
set_option maxHeartbeats 8000000
/-! K22p: a small caller's parts -/
namespace MP
open PySem PySem.Spec
local macro_rules | `(tactic| infer_instance) => `(tactic| with_reducible first
  | refine k_is_N ?_ | refine k_isn_N ?_ | refine k_is_B ?_ | refine k_isn_B ?_ | refine k_is_I ?_ | refine k_isn_I ?_ | refine k_is_S ?_ | refine k_isn_S ?_ | refine k_is_T ?_ | refine k_isn_T ?_ | refine k_is_R ?_ | refine k_isn_R ?_ | refine t_nT ?_ | refine t_nF ?_ | refine t_andnT ?_ | refine t_andnF ?_ | refine t_ornT ?_ | refine t_ornF ?_
  | refine x_var (by with_unfolding_all rfl) ?_
  | refine x_nil ?_
  | refine x_cons ?_
  | refine x_asg ?_
  | refine x_sub ?_
  | refine x_ex ?_
  | refine x_ret ?_
  | refine x_retN ?_
  | refine x_iff ?_
  | refine x_for ?_
  | refine x_pass ?_
  | refine x_brk ?_
  | refine x_cont ?_
  | refine x_non ?_
  | refine x_bl ?_
  | refine x_int ?_
  | refine x_str ?_
  | refine x_bin ?_
  | refine x_cmp ?_
  | refine x_cmp2 ?_
  | refine x_bop ?_
  | refine x_ite ?_
  | refine x_tup ?_
  | refine x_lst ?_
  | refine x_ix ?_
  | refine x_call ?_
  | refine x_blt ?_
  | refine x_mth ?_
  | refine x_lc ?_
  | refine x_enil ?_
  | refine x_econs ?_
  | refine x_b1 ?_
  | refine x_tnot ?_
  | refine x_tbop ?_
  | refine x_tite ?_
  | refine x_btnil ?_
  | refine x_btcons ?_
  | refine x_ts0 ?_
  | refine x_ts1 ?_
  | refine k_add ?_
  | refine k_sub ?_
  | refine k_eqI ?_
  | refine k_neI ?_
  | refine k_ltI ?_
  | refine k_leI ?_
  | refine k_gtI ?_
  | refine k_geI ?_
  | refine k_lenT ?_
  | refine k_intI ?_
  | refine k_intB ?_
  | refine k_abs ?_
  | refine k_max2 ?_
  | refine k_min2 ?_
  | refine x_asgT ?_ (callF_mono _ _ _)
  | refine x_neg ?_ (callF_mono _ _ _)
  | refine x_not ?_ (callF_mono _ _ _)
  | refine x_isi ?_ (callF_mono _ _ _)
  | refine x_t (by with_unfolding_all rfl) (callF_mono _ _ _) ?_
  | refine x_bcons ?_ (callF_mono _ _ _)
  | refine k_ixR (rd_of (by assumption)) (by with_unfolding_all rfl) ?_
  | refine k_ixR rd_put (by with_unfolding_all rfl) ?_
  | refine k_ixT (by with_unfolding_all rfl) ?_
  | refine k_lenR (rd_of (by assumption)) ?_
  | refine k_lenR rd_put ?_
  | refine k_ixR (rd_ne (by assumption) (rd_of (by assumption))) (by with_unfolding_all rfl) ?_
  | refine k_lenR (rd_ne (by assumption) (rd_of (by assumption))) ?_
  | refine k_setP (by with_unfolding_all rfl) ?_
  | refine k_set (by assumption) (by with_unfolding_all rfl) ?_
  | refine k_set put_same (by with_unfolding_all rfl) ?_
  | refine ⟨_, isi_int_N, ?_⟩ | refine ⟨_, isi_int_B, ?_⟩ | refine ⟨_, isi_int_I, ?_⟩ | refine ⟨_, isi_int_S, ?_⟩ | refine ⟨_, isi_int_T, ?_⟩ | refine ⟨_, isi_bool_N, ?_⟩ | refine ⟨_, isi_bool_B, ?_⟩ | refine ⟨_, isi_bool_I, ?_⟩ | refine ⟨_, isi_bool_S, ?_⟩ | refine ⟨_, isi_bool_T, ?_⟩ | refine ⟨_, isi_str_N, ?_⟩ | refine ⟨_, isi_str_B, ?_⟩ | refine ⟨_, isi_str_I, ?_⟩ | refine ⟨_, isi_str_S, ?_⟩ | refine ⟨_, isi_str_T, ?_⟩ | refine ⟨_, isi_tuple_N, ?_⟩ | refine ⟨_, isi_tuple_B, ?_⟩ | refine ⟨_, isi_tuple_I, ?_⟩ | refine ⟨_, isi_tuple_S, ?_⟩ | refine ⟨_, isi_tuple_T, ?_⟩ | refine ⟨_, isi_list_N, ?_⟩ | refine ⟨_, isi_list_B, ?_⟩ | refine ⟨_, isi_list_I, ?_⟩ | refine ⟨_, isi_list_S, ?_⟩ | refine ⟨_, isi_list_T, ?_⟩
  | refine x_slc ?_ (callF_mono _ _ _) | refine k_slcT ?_ | refine k_max3 ?_ | refine k_slcR (rd_of (by assumption)) ?_ | refine i_seqR rd_put ?_ | refine i_seqR (rd_of (by assumption)) ?_ | refine i_seqT ?_ | refine i_enumT ?_ | refine i_range (by omega) (by omega) ?_ | refine i_range2 (by omega) ?_ | refine k_tupR rd_put ?_ | refine k_tupR (rd_of (by assumption)) ?_
  | refine ⟨k_ty (by assumption), ?_⟩ | refine ⟨k_ty put_same, ?_⟩ | refine ⟨k_ty (st_ne (by assumption) (by assumption)), ?_⟩
  | refine ⟨_, by with_unfolding_all rfl, ?_⟩
  | refine k_mod (by omega) ?_ | refine k_div (by omega) ?_ | refine k_mul (cmulL (by omega) (by omega)) ?_ | refine k_mul (cmulR (by omega) (by omega)) ?_ | refine k_mul cmulB ?_ | refine k_pow18 ?_ | refine t_T ?_ | refine t_F ?_ | refine t_andT ?_ | refine t_andF ?_ | refine t_orT ?_ | refine t_orF ?_ | refine t_aa ?_ | refine t_oo ?_
  | refine x_fld ?_ | refine x_um ?_ | refine x_sfl ?_ | refine k_fld (by assumption) (by with_unfolding_all rfl) ?_)

def scV : List S := [
      .asg (.nm 10) (.call "_law_pick" [.var 0, .var 4] [] []),
      .asg (.nm 11) (.bin .Add (.int 1) (.call "_law_draw" [.var 0, .int 3] [] [])),
      .ex (.mth .list "append" (.var 8) [.tup [.var 10, .blt "tuple" [.lc (.call "_law_draw" [.var 0, .var 10] [] []) (.nm 12) .range [.var 11] [] [12]], .call "_law_pick" [.var 0, .lst [.int 1, .int 1, .int 2, .int 3, .int 5]] [] [], .int 3]])]
def scU : S := .for (.nm 9) .range [.int 2] scV
def scT : List S := [
    .asg (.nm 8) (.lst []), scU,
    .ex (.mth .list "append" (.var 5) [.tup [.ix (.var 8) (.int 0), .ix (.var 8) (.int 1), .bin .Add (.int 1) (.call "_law_draw" [.var 0, .int 2] [] []), .bin .Add (.int 1) (.call "_law_draw" [.var 0, .int 2] [] []), .call "_law_pick" [.var 0, .lst [.int 1, .int 1, .int 2, .int 3]] [] [], .var 6]])]
def scR : List S := [
  .asg (.nm 7) (.tup [.var 2, .blt "tuple" [.var 5]]),
  .ret (.tup [.var 7, .blt "tuple" [.lc (.call "_law_draw_road" [.var 0, .call "_law_pick" [.var 0, .lst [.int 0, .int 2]] [] []] [] []) (.nm 12) .range [.var 1] [] [12]], .call "_law_draw" [.var 0, .var 1] [] []])]
def scQ : List S := [
  .asg (.nm 3) (.call "_law_some" [.var 0, .blt "lrange" [.var 2], .var 1] [] []),
  .asg (.nm 4) (.call "_law_pick" [.var 0, .lst [.lst [.int 1], .lst [.int 1, .int 2], .lst [.int 2, .int 4], .lst [.int 1, .int 3], .lst [.int 1, .int 2, .int 3]]] [] []),
  .asg (.nm 5) (.lst []),
  .for (.nm 6) .seq [.var 3] scT] ++ scR
/-- all but three places keep what they hold -/
def Ex3 (a b p : Addr) (s t : Sto) : Prop := ∀ q o, q ≠ a → q ≠ b → q ≠ p → s q = some o → t q = some o
theorem Ex3.refl {a b p : Addr} {s : Sto} : Ex3 a b p s s := fun _ _ _ _ _ e => e
theorem Ex3.of2 {a b p : Addr} {s t u : Sto} (h : Ex3 a b p s t) (k : Ex2 a b t u) : Ex3 a b p s u := fun q o n m l e => k q o n m (h q o n m l e)
theorem Ex3.wr {a b p : Addr} {s t : Sto} {o : O} (h : Ex3 a b p s t) : Ex3 a b p s (MP.put t p o) := fun q u n m l e => by
  rw [put_ne l]
  exact h q u n m l e
section
variable {C : Kst} {n : Nat} {st : Sto} {K : D → Sto → Prop} {a b c : Addr}
theorem scU_ok {pw pq : Addr} {ws : List Int} {w1 w2 w3 w5 w6 w7 w9 w10 w11 w12 : Option D} {k : Kt} (hf : Bag3 st a b c) (hw : st pw = some (.lst (ws.map .int))) (nw : pw ≠ a ∧ pw ≠ b) (wz : 0 < ws.length ∧ ws.length < 1000) (wb : ∀ w ∈ ws, 1 ≤ w ∧ w ≤ 30) (hq : st pq = some (.lst [])) (nq : pq ≠ a ∧ pq ≠ b ∧ pq ≠ c) (npw : pw ≠ pq)
    (hk : ∀ st' (u0 u1 : Way) w9 w10 w11, u0.ok → u1.ok → Bag3 st' a b c → Ex3 a b pq st st' → st' pq = some (.lst [wyD u0, wyD u1]) → k.nx [some (.ref a), w1, w2, w3, some (.ref pw), w5, w6, w7, some (.ref pq), w9, w10, w11, w12] st') :
    evS (callF dP C (n + 2)) C scU [some (.ref a), w1, w2, w3, some (.ref pw), w5, w6, w7, some (.ref pq), w9, w10, w11, w12] st k := by
  unfold scU
  repeat infer_instance
  refine forK_of (fun i σ s => ∃ (us : List Way) (w9 w10 w11 : Option D), us.length = i ∧ (∀ u ∈ us, u.ok) ∧ Bag3 s a b c ∧ Ex3 a b pq st s ∧ s pq = some (.lst (us.map wyD)) ∧ σ = [some (.ref a), w1, w2, w3, some (.ref pw), w5, w6, w7, some (.ref pq), w9, w10, w11, w12])
    ⟨[], w9, w10, w11, rfl, (fun _ h => by cases h), hf, Ex3.refl, hq, rfl⟩ (fun _ _ _ _ => trivial) ?_ ?_
  · rintro σ s ⟨us, w9, w10, w11, hl, hok, f, e, g, rfl⟩
    match us, hl, hok, g with
    | [u0, u1], _, hok, g => exact hk s u0 u1 w9 w10 w11 (hok _ (by simp)) (hok _ (by simp)) f e g
  · rintro i y σ s R hy ⟨us, w9, w10, w11, hl, hok, f, e, g, rfl⟩ hR
    obtain ⟨rfl, hi⟩ := at_range hy
    have hi : i < 2 := hi
    simp only [bindG, List.set_cons_succ, List.set_cons_zero]
    unfold scV
    repeat infer_instance
    refine b3pick_call P_l_draw P_l_pick f (e _ _ nw.1 nw.2 npw hw) nw.1 nw.2 (by rw [List.length_map]; exact wz.1) (by rw [List.length_map]; exact wz.2) fun x1 s1 hx1 f1 e1 => ?_
    obtain ⟨w, hw', rfl⟩ := List.mem_map.mp hx1
    obtain ⟨wa, wb'⟩ := wb w hw'
    have e01 := e.of2 e1
    have g1 := e1 _ _ nq.1 nq.2.1 g
    repeat infer_instance
    refine b3draw_call P_l_draw f1 (by decide) (by decide) fun x2 s2 b1 b2 f2 e2 => ?_
    have e02 := e01.of2 e2
    have g2 := e2 _ _ nq.1 nq.2.1 g1
    repeat infer_instance
    refine lcK_all (fun y => ∃ i : Int, y = .int i) (fun st3 => Bag3 st3 a b c ∧ Ex2 a b s2 st3) (by rw [sizeLine_eq, List.length_map, List.length_range]; omega) ⟨f2, Ex2.refl⟩ (fun _ _ => trivial) ?_ ?_
    · rintro y st3 R2 hy ⟨f3, e3⟩ hR2
      obtain ⟨j, hj, rfl⟩ := List.mem_map.mp hy
      simp only [bindG]
      repeat infer_instance
      refine b3draw_call P_l_draw f3 (by omega) (by omega) fun z st4 z1 z2 f4 e4 => ?_
      exact hR2 _ _ ⟨z, rfl⟩ ⟨f4, e3.trans e4⟩
    · rintro acc st3 hlen hall ⟨f3, e3⟩ p hp
      rw [List.length_map, List.length_range] at hlen
      obtain ⟨ss, rfl⟩ := ints_of hall
      rw [List.length_map] at hlen
      have sp := sub_fresh (o := .lst (ss.map D.int)) hp
      have f4 := f3.sub sp
      have e4 : Ex2 a b s2 _ := e3.trans (Ex2.of sp)
      refine x_enil ?_
      refine k_tupR rd_put ?_
      generalize put st3 p (.lst (ss.map D.int)) = st4 at *
      repeat infer_instance
      intro q hq
      refine x_enil ?_
      refine pickL f4 (by simp) (by simp) (fun x5 st6 hx5 f6 e6 => ?_) q hq
      have hr : ∃ r : Int, x5 = .int r ∧ 1 ≤ r ∧ r ≤ 40 := by
        simp only [List.mem_cons, List.not_mem_nil, or_false] at hx5
        rcases hx5 with rfl | rfl | rfl | rfl | rfl <;> exact ⟨_, rfl, by decide, by decide⟩
      obtain ⟨r, rfl, r1, r2⟩ := hr
      have e46 := e4.trans e6
      have g6 := e46 _ _ nq.1 nq.2.1 g2
      repeat infer_instance
      refine k_app g6 (by rw [List.length_map, sizeLine_eq]; omega) ?_
      refine x_nil (F := callF dP C (n + 2)) (C := C) ?_
      refine hR _ _ ⟨us ++ [⟨w, ss, r, 3⟩], _, _, _, by rw [List.length_append, hl]; rfl, fun u hu => ?_, f6.put nq.1 nq.2.1 nq.2.2, (e02.of2 e46).wr, ?_, rfl⟩
      · rcases List.mem_append.mp hu with hu | hu
        · exact hok u hu
        · rw [List.mem_singleton.mp hu]
          exact ⟨wa, wb', by show 1 ≤ ss.length; omega, by show ss.length ≤ 6; omega, r1, r2⟩
      · rw [put_same, List.map_append]
        rfl
theorem scR_ok {round : Int} {cs : List Cal} {pd : Addr} {w3 w4 w6 w7 w8 w9 w10 w11 : Option D} (hf : Bag3 st a b c) (hd : st pd = some (.lst (cs.map calD))) (l1 : 1 ≤ cs.length) (l2 : cs.length ≤ 4)
    (h : ∀ vs (k : Nat) st', (∀ v ∈ vs, Line.ok v) → k < cs.length → vs.length = cs.length → Bag3 st' a b c → Ex2 a b st st' → K (.tup [dsD round cs, bdD vs, .int (k : Nat)]) st') :
    evSs (callF dP C (n + 2)) C scR [some (.ref a), some (.int (cs.length : Nat)), some (.int round), w3, w4, some (.ref pd), w6, w7, w8, w9, w10, w11, none] st { nx := fun _ st' => K .non st', rt := K, bk := fun _ _ => False, ct := fun _ _ => False } := by
  unfold scR
  repeat infer_instance
  refine lcK_all (fun y => ∃ v : Line, v.ok ∧ y = lnD v) (fun st3 => Bag3 st3 a b c ∧ Ex2 a b st st3) (by rw [sizeLine_eq, List.length_map, List.length_range]; omega) ⟨hf, Ex2.refl⟩ (fun _ _ => trivial) ?_ ?_
  · rintro y st3 R2 hy ⟨f3, e3⟩ hR2
    obtain ⟨j, hj, rfl⟩ := List.mem_map.mp hy
    simp only [bindG]
    repeat infer_instance
    intro q hq
    refine x_enil ?_
    refine pickL f3 (by simp) (by simp) (fun x5 st6 hx5 f6 e6 => ?_) q hq
    have hr : ∃ r : Int, x5 = .int r ∧ 0 ≤ r ∧ r ≤ 9 := by
      simp only [List.mem_cons, List.not_mem_nil, or_false] at hx5
      rcases hx5 with rfl | rfl <;> exact ⟨_, rfl, by decide, by decide⟩
    obtain ⟨r, rfl, r1, r2⟩ := hr
    repeat infer_instance
    refine droad_call f6 r1 r2 fun v st7 okv f7 e7 => ?_
    exact hR2 _ _ ⟨v, okv, rfl⟩ ⟨f7, (e3.trans e6).trans e7⟩
  · rintro acc st3 hlen hall ⟨f3, e3⟩ p hp
    rw [List.length_map, List.length_range] at hlen
    have hv : ∃ vs : List Line, acc = vs.map lnD ∧ ∀ v ∈ vs, v.ok := by
      clear hlen
      induction acc with
      | nil => exact ⟨[], rfl, fun _ h => by cases h⟩
      | cons y ys ih =>
        obtain ⟨vs, rfl, hvs⟩ := ih fun z hz => hall z (List.mem_cons_of_mem _ hz)
        obtain ⟨v, okv, rfl⟩ := hall y List.mem_cons_self
        exact ⟨v :: vs, rfl, fun u hu => by
          rcases List.mem_cons.mp hu with rfl | hu
          · exact okv
          · exact hvs u hu⟩
    obtain ⟨vs, rfl, hvs⟩ := hv
    rw [List.length_map] at hlen
    have sp := sub_fresh (o := .lst (vs.map lnD)) hp
    have f4 := f3.sub sp
    have e4 : Ex2 a b st _ := e3.trans (Ex2.of sp)
    refine x_enil ?_
    refine k_tupR rd_put ?_
    generalize put st3 p (.lst (vs.map lnD)) = st4 at *
    repeat infer_instance
    refine b3draw_call P_l_draw f4 (by omega) (by omega) fun z st5 z1 z2 f5 e5 => ?_
    have ez : z = ((z.toNat : Nat) : Int) := (Int.toNat_of_nonneg z1).symm
    rw [ez]
    repeat infer_instance
    exact h vs z.toNat st5 hvs (by omega) (by omega) f5 (e4.trans e5)
end

end MP

set_option Elab.async false
set_option linter.all false
set_option maxRecDepth 100000
set_option maxHeartbeats 8000000
/-! K22q: a small caller -/
namespace MP
open PySem PySem.Spec
local macro_rules | `(tactic| infer_instance) => `(tactic| with_reducible first
  | refine k_is_N ?_ | refine k_isn_N ?_ | refine k_is_B ?_ | refine k_isn_B ?_ | refine k_is_I ?_ | refine k_isn_I ?_ | refine k_is_S ?_ | refine k_isn_S ?_ | refine k_is_T ?_ | refine k_isn_T ?_ | refine k_is_R ?_ | refine k_isn_R ?_ | refine t_nT ?_ | refine t_nF ?_ | refine t_andnT ?_ | refine t_andnF ?_ | refine t_ornT ?_ | refine t_ornF ?_
  | refine x_var (by with_unfolding_all rfl) ?_
  | refine x_nil ?_
  | refine x_cons ?_
  | refine x_asg ?_
  | refine x_sub ?_
  | refine x_ex ?_
  | refine x_ret ?_
  | refine x_retN ?_
  | refine x_iff ?_
  | refine x_for ?_
  | refine x_pass ?_
  | refine x_brk ?_
  | refine x_cont ?_
  | refine x_non ?_
  | refine x_bl ?_
  | refine x_int ?_
  | refine x_str ?_
  | refine x_bin ?_
  | refine x_cmp ?_
  | refine x_cmp2 ?_
  | refine x_bop ?_
  | refine x_ite ?_
  | refine x_tup ?_
  | refine x_lst ?_
  | refine x_ix ?_
  | refine x_call ?_
  | refine x_blt ?_
  | refine x_mth ?_
  | refine x_lc ?_
  | refine x_enil ?_
  | refine x_econs ?_
  | refine x_b1 ?_
  | refine x_tnot ?_
  | refine x_tbop ?_
  | refine x_tite ?_
  | refine x_btnil ?_
  | refine x_btcons ?_
  | refine x_ts0 ?_
  | refine x_ts1 ?_
  | refine k_add ?_
  | refine k_sub ?_
  | refine k_eqI ?_
  | refine k_neI ?_
  | refine k_ltI ?_
  | refine k_leI ?_
  | refine k_gtI ?_
  | refine k_geI ?_
  | refine k_lenT ?_
  | refine k_intI ?_
  | refine k_intB ?_
  | refine k_abs ?_
  | refine k_max2 ?_
  | refine k_min2 ?_
  | refine x_asgT ?_ (callF_mono _ _ _)
  | refine x_neg ?_ (callF_mono _ _ _)
  | refine x_not ?_ (callF_mono _ _ _)
  | refine x_isi ?_ (callF_mono _ _ _)
  | refine x_t (by with_unfolding_all rfl) (callF_mono _ _ _) ?_
  | refine x_bcons ?_ (callF_mono _ _ _)
  | refine k_ixR (rd_of (by assumption)) (by with_unfolding_all rfl) ?_
  | refine k_ixR rd_put (by with_unfolding_all rfl) ?_
  | refine k_ixT (by with_unfolding_all rfl) ?_
  | refine k_lenR (rd_of (by assumption)) ?_
  | refine k_lenR rd_put ?_
  | refine k_ixR (rd_ne (by assumption) (rd_of (by assumption))) (by with_unfolding_all rfl) ?_
  | refine k_lenR (rd_ne (by assumption) (rd_of (by assumption))) ?_
  | refine k_setP (by with_unfolding_all rfl) ?_
  | refine k_set (by assumption) (by with_unfolding_all rfl) ?_
  | refine k_set put_same (by with_unfolding_all rfl) ?_
  | refine ⟨_, isi_int_N, ?_⟩ | refine ⟨_, isi_int_B, ?_⟩ | refine ⟨_, isi_int_I, ?_⟩ | refine ⟨_, isi_int_S, ?_⟩ | refine ⟨_, isi_int_T, ?_⟩ | refine ⟨_, isi_bool_N, ?_⟩ | refine ⟨_, isi_bool_B, ?_⟩ | refine ⟨_, isi_bool_I, ?_⟩ | refine ⟨_, isi_bool_S, ?_⟩ | refine ⟨_, isi_bool_T, ?_⟩ | refine ⟨_, isi_str_N, ?_⟩ | refine ⟨_, isi_str_B, ?_⟩ | refine ⟨_, isi_str_I, ?_⟩ | refine ⟨_, isi_str_S, ?_⟩ | refine ⟨_, isi_str_T, ?_⟩ | refine ⟨_, isi_tuple_N, ?_⟩ | refine ⟨_, isi_tuple_B, ?_⟩ | refine ⟨_, isi_tuple_I, ?_⟩ | refine ⟨_, isi_tuple_S, ?_⟩ | refine ⟨_, isi_tuple_T, ?_⟩ | refine ⟨_, isi_list_N, ?_⟩ | refine ⟨_, isi_list_B, ?_⟩ | refine ⟨_, isi_list_I, ?_⟩ | refine ⟨_, isi_list_S, ?_⟩ | refine ⟨_, isi_list_T, ?_⟩
  | refine x_slc ?_ (callF_mono _ _ _) | refine k_slcT ?_ | refine k_max3 ?_ | refine k_slcR (rd_of (by assumption)) ?_ | refine i_seqR rd_put ?_ | refine i_seqR (rd_of (by assumption)) ?_ | refine i_seqT ?_ | refine i_enumT ?_ | refine i_range (by omega) (by omega) ?_ | refine i_range2 (by omega) ?_ | refine k_tupR rd_put ?_ | refine k_tupR (rd_of (by assumption)) ?_
  | refine ⟨k_ty (by assumption), ?_⟩ | refine ⟨k_ty put_same, ?_⟩ | refine ⟨k_ty (st_ne (by assumption) (by assumption)), ?_⟩
  | refine ⟨_, by with_unfolding_all rfl, ?_⟩
  | refine k_mod (by omega) ?_ | refine k_div (by omega) ?_ | refine k_mul (cmulL (by omega) (by omega)) ?_ | refine k_mul (cmulR (by omega) (by omega)) ?_ | refine k_mul cmulB ?_ | refine k_pow18 ?_ | refine t_T ?_ | refine t_F ?_ | refine t_andT ?_ | refine t_andF ?_ | refine t_orT ?_ | refine t_orF ?_ | refine t_aa ?_ | refine t_oo ?_
  | refine x_fld ?_ | refine x_um ?_ | refine x_sfl ?_ | refine k_fld (by assumption) (by with_unfolding_all rfl) ?_)

section
variable {C : Kst} {n : Nat} {st : Sto} {K : D → Sto → Prop} {a b c : Addr}
theorem scQ_ok {round : Int} {many : Nat} (hf : Bag3 st a b c) (l1 : 1 ≤ many) (l2 : many ≤ 2) (r1 : (many : Int) ≤ round) (r2 : round ≤ 4)
    (h : ∀ cs vs (k : Nat) st', (∀ x ∈ cs, Cal.ok x) → (∀ v ∈ vs, Line.ok v) → k < cs.length → vs.length = cs.length → Bag3 st' a b c → Ex2 a b st st' → K (.tup [dsD round cs, bdD vs, .int (k : Nat)]) st') :
    evSs (callF dP C (n + 2)) C scQ [some (.ref a), some (.int (many : Nat)), some (.int round), none, none, none, none, none, none, none, none, none, none] st { nx := fun _ st' => K .non st', rt := K, bk := fun _ _ => False, ct := fun _ _ => False } := by
  show evSs _ _ (.asg (.nm 3) (.call "_law_some" [.var 0, .blt "lrange" [.var 2], .var 1] [] []) ::
    .asg (.nm 4) (.call "_law_pick" [.var 0, .lst [.lst [.int 1], .lst [.int 1, .int 2], .lst [.int 2, .int 4], .lst [.int 1, .int 3], .lst [.int 1, .int 2, .int 3]]] [] []) ::
    .asg (.nm 5) (.lst []) :: .for (.nm 6) .seq [.var 3] scT :: scR) _ _ _
  repeat infer_instance
  refine k_lrange (by omega) (by omega) (by rw [sizeLine_eq]; omega) ?_
  intro pr hpr
  have nr := hf.ne hpr
  have g3 : put st pr (.lst ((List.range round.toNat).map fun (i : Nat) => .int i)) pr = some (.lst ((List.range round.toNat).map fun (i : Nat) => .int i)) := put_same
  have f3 := hf.sub (sub_fresh (o := .lst ((List.range round.toNat).map fun (i : Nat) => .int i)) hpr)
  have e3 : Ex2 a b st _ := Ex2.of (sub_fresh (o := .lst ((List.range round.toNat).map fun (i : Nat) => .int i)) hpr)
  generalize put st pr (.lst ((List.range round.toNat).map fun (i : Nat) => .int i)) = st3 at *
  repeat infer_instance
  refine some_call f3 g3 (by rw [List.length_map, List.length_range]; omega) (by rw [List.length_map, List.length_range]; omega) fun pm ys st4 hys hin f4 e4 hpm g4 => ?_
  have e34 := e3.trans e4
  have nm : pm ≠ a ∧ pm ≠ b ∧ pm ≠ c := f3.ne hpm
  repeat infer_instance
  -- the wheels
  intro p1 q1
  have n1 := f4.ne q1
  have nm1 : pm ≠ p1 := ne_st g4 q1
  have h1 : put st4 p1 (.lst [D.int 1]) p1 = some (.lst [D.int 1]) := put_same
  have f5 := f4.sub (sub_fresh (o := .lst [D.int 1]) q1)
  have e5 := e34.trans (Ex2.of (sub_fresh (o := .lst [D.int 1]) q1))
  have g5 := st_ne (o := .lst [D.int 1]) nm1 g4
  generalize put st4 p1 (.lst [D.int 1]) = st5 at *
  repeat infer_instance
  intro p2 q2
  have n2 := f5.ne q2
  have s2 := sub_fresh (o := .lst [D.int 1, .int 2]) q2
  have h2 : put st5 p2 (.lst [D.int 1, .int 2]) p2 = some (.lst [D.int 1, .int 2]) := put_same
  have f6 := f5.sub s2
  have e6 := e5.trans (Ex2.of s2)
  have g6 := s2 _ _ g5
  have h1 := s2 _ _ h1
  generalize put st5 p2 (.lst [D.int 1, .int 2]) = st6 at *
  repeat infer_instance
  intro p3 q3
  have n3 := f6.ne q3
  have s3 := sub_fresh (o := .lst [D.int 2, .int 4]) q3
  have h3 : put st6 p3 (.lst [D.int 2, .int 4]) p3 = some (.lst [D.int 2, .int 4]) := put_same
  have f7 := f6.sub s3
  have e7 := e6.trans (Ex2.of s3)
  have g7 := s3 _ _ g6
  have h1 := s3 _ _ h1
  have h2 := s3 _ _ h2
  generalize put st6 p3 (.lst [D.int 2, .int 4]) = st7 at *
  repeat infer_instance
  intro p4 q4
  have n4 := f7.ne q4
  have s4 := sub_fresh (o := .lst [D.int 1, .int 3]) q4
  have h4 : put st7 p4 (.lst [D.int 1, .int 3]) p4 = some (.lst [D.int 1, .int 3]) := put_same
  have f8 := f7.sub s4
  have e8 := e7.trans (Ex2.of s4)
  have g8 := s4 _ _ g7
  have h1 := s4 _ _ h1
  have h2 := s4 _ _ h2
  have h3 := s4 _ _ h3
  generalize put st7 p4 (.lst [D.int 1, .int 3]) = st8 at *
  repeat infer_instance
  intro p5 q5
  have n5 := f8.ne q5
  have s5 := sub_fresh (o := .lst [D.int 1, .int 2, .int 3]) q5
  have h5 : put st8 p5 (.lst [D.int 1, .int 2, .int 3]) p5 = some (.lst [D.int 1, .int 2, .int 3]) := put_same
  have f9 := f8.sub s5
  have e9 := e8.trans (Ex2.of s5)
  have g9 := s5 _ _ g8
  have h1 := s5 _ _ h1
  have h2 := s5 _ _ h2
  have h3 := s5 _ _ h3
  have h4 := s5 _ _ h4
  generalize put st8 p5 (.lst [D.int 1, .int 2, .int 3]) = st9 at *
  repeat infer_instance
  intro q hq
  refine x_enil ?_
  refine pickL f9 (by simp) (by simp) (fun x1 s1 hx1 f1 e1 => ?_) q hq
  have hw : ∃ (pw : Addr) (ws : List Int), x1 = .ref pw ∧ s1 pw = some (.lst (ws.map .int)) ∧ (pw ≠ a ∧ pw ≠ b) ∧ (0 < ws.length ∧ ws.length < 1000) ∧ ∀ w ∈ ws, 1 ≤ w ∧ w ≤ 30 := by
    simp only [List.mem_cons, List.not_mem_nil, or_false] at hx1
    rcases hx1 with rfl | rfl | rfl | rfl | rfl
    · exact ⟨p1, [1], rfl, e1 _ _ n1.1 n1.2.1 h1, ⟨n1.1, n1.2.1⟩, by decide, by decide⟩
    · exact ⟨p2, [1, 2], rfl, e1 _ _ n2.1 n2.2.1 h2, ⟨n2.1, n2.2.1⟩, by decide, by decide⟩
    · exact ⟨p3, [2, 4], rfl, e1 _ _ n3.1 n3.2.1 h3, ⟨n3.1, n3.2.1⟩, by decide, by decide⟩
    · exact ⟨p4, [1, 3], rfl, e1 _ _ n4.1 n4.2.1 h4, ⟨n4.1, n4.2.1⟩, by decide, by decide⟩
    · exact ⟨p5, [1, 2, 3], rfl, e1 _ _ n5.1 n5.2.1 h5, ⟨n5.1, n5.2.1⟩, by decide, by decide⟩
  obtain ⟨pw, ws, rfl, gw, nw, wz, wb⟩ := hw
  have gm := e1 _ _ nm.1 nm.2.1 g9
  have ee := e9.trans e1
  clear h1 h2 h3 h4 h5 g3 g4 g5 g6 g7 g8 g9 f3 f4 f5 f6 f7 f8 f9 e3 e4 e34 e5 e6 e7 e8 e9 e1 s2 s3 s4 s5
  repeat infer_instance
  intro pd hpd
  have nd := f1.ne hpd
  have nmd : pm ≠ pd := ne_st gm hpd
  have nwd : pw ≠ pd := ne_st gw hpd
  have hpd0 := ee.nn nd.1 nd.2.1 hpd
  have sd := sub_fresh (o := .lst ([] : List D)) hpd
  have gd : put s1 pd (.lst ([] : List D)) pd = some (.lst []) := put_same
  have gm := sd.st gm
  have gw := sd.st gw
  have fd := f1.sub sd
  have ed := ee.trans (Ex2.of sd)
  generalize put s1 pd (.lst ([] : List D)) = st5 at *
  refine x_cons ?_
  refine x_for ?_
  repeat infer_instance
  refine forK_of (fun i σ s => Bag3 s a b c ∧ Ex2 a b st s ∧ s pm = some (.lst ys) ∧ s pw = some (.lst (ws.map .int)) ∧ (∃ cs : List Cal, s pd = some (.lst (cs.map calD)) ∧ cs.length = i ∧ ∀ x ∈ cs, x.ok) ∧ ∃ w6 w8 w9 w10 w11, σ = [some (.ref a), some (.int (many : Nat)), some (.int round), some (.ref pm), some (.ref pw), some (.ref pd), w6, none, w8, w9, w10, w11, none])
    ⟨fd, ed, gm, gw, ⟨[], gd, rfl, fun _ h => by cases h⟩, none, none, none, none, none, rfl⟩ (fun i σ s h => rd_of h.2.2.1) ?_ ?_
  · rintro σ s ⟨f, e, gm, gw, ⟨cs, gd, hl, hok⟩, w6, w8, w9, w10, w11, rfl⟩
    rw [hys] at hl
    subst hl
    refine scR_ok f gd l1 (by omega) fun vs k st' hvs hk hl f' e' => ?_
    exact h cs vs k st' hok hvs hk hl f' (e.trans e')
  · rintro i y σ s R hy ⟨f, e, gm, gw, ⟨cs, gd, hl, hok⟩, w6, w8, w9, w10, w11, rfl⟩ hR
    have hyi : ∃ t : Int, y = .int t := by
      obtain ⟨j, _, rfl⟩ := List.mem_map.mp (hin y (List.mem_of_getElem? hy))
      exact ⟨_, rfl⟩
    obtain ⟨t, rfl⟩ := hyi
    have hiy : i < ys.length := (List.getElem?_eq_some_iff.mp hy).1
    simp only [bindG, List.set_cons_succ, List.set_cons_zero]
    unfold scT
    repeat infer_instance
    intro pq hpq
    have nq := f.ne hpq
    have nmq : pm ≠ pq := ne_st gm hpq
    have nwq : pw ≠ pq := ne_st gw hpq
    have ndq : pd ≠ pq := ne_st gd hpq
    have hpq0 := e.nn nq.1 nq.2.1 hpq
    have sq := sub_fresh (o := .lst ([] : List D)) hpq
    have gq : put s pq (.lst ([] : List D)) pq = some (.lst []) := put_same
    have gm := sq.st gm
    have gw := sq.st gw
    have gd := sq.st gd
    have f := f.sub sq
    have e := e.trans (Ex2.of sq)
    generalize put s pq (.lst ([] : List D)) = s0 at *
    refine x_cons ?_
    refine scU_ok f gw nw wz wb gq nq nwq fun s2 u0 u1 w9 w10 w11 ok0 ok1 f2 e2 gq2 => ?_
    have ex2 : Ex2 a b st s2 := fun q o n m z => e2 q o n m (ne_st z hpq0) (e q o n m z)
    have gm2 := e2 _ _ nm.1 nm.2.1 nmq gm
    have gw2 := e2 _ _ nw.1 nw.2 nwq gw
    have gd2 := e2 _ _ nd.1 nd.2.1 ndq gd
    repeat infer_instance
    refine b3draw_call P_l_draw f2 (by decide) (by decide) fun z1 s3 a1 a2 f3 e3 => ?_
    repeat infer_instance
    refine b3draw_call P_l_draw f3 (by decide) (by decide) fun z2 s4 b1 b2 f4 e4 => ?_
    repeat infer_instance
    intro q hq
    refine x_enil ?_
    refine pickL f4 (by simp) (by simp) (fun x5 s5 hx5 f5 e5 => ?_) q hq
    have hr : ∃ r : Int, x5 = .int r ∧ 1 ≤ r ∧ r ≤ 6 := by
      simp only [List.mem_cons, List.not_mem_nil, or_false] at hx5
      rcases hx5 with rfl | rfl | rfl | rfl <;> exact ⟨_, rfl, by decide, by decide⟩
    obtain ⟨op, rfl, o1, o2⟩ := hr
    have e35 := (e3.trans e4).trans e5
    repeat infer_instance
    refine k_app (e35 _ _ nd.1 nd.2.1 gd2) (by rw [List.length_map, sizeLine_eq]; omega) ?_
    refine x_nil (F := callF dP C (n + 2)) (C := C) ?_
    refine hR _ _ ⟨f5.put nd.1 nd.2.1 nd.2.2, (ex2.trans e35).wr hpd0, ?_, ?_, ⟨cs ++ [⟨u0, u1, 1 + z1, 1 + z2, op, t⟩], ?_, by rw [List.length_append, hl]; rfl, ?_⟩, _, _, _, _, _, rfl⟩
    · rw [put_ne nmd]
      exact e35 _ _ nm.1 nm.2.1 gm2
    · rw [put_ne nwd]
      exact e35 _ _ nw.1 nw.2 gw2
    · rw [put_same, List.map_append]
      rfl
    · intro x hx
      rcases List.mem_append.mp hx with hx | hx
      · exact hok x hx
      · rw [List.mem_singleton.mp hx]
        exact ⟨ok0, ok1, by show 1 ≤ 1 + z1; omega, by show 1 + z1 ≤ 4; omega, by show 1 ≤ 1 + z2; omega, by show 1 + z2 ≤ 4; omega, o1, o2⟩
theorem small_call (hf : Bag3 st a b c) (h : ∀ round cs vs (k : Nat) st', (1 : Int) ≤ round → round ≤ 30 → (∀ x ∈ cs, Cal.ok x) → (∀ v ∈ vs, Line.ok v) → k < cs.length → vs.length = cs.length → Bag3 st' a b c → Ex2 a b st st' → K (.tup [dsD round cs, bdD vs, .int (k : Nat)]) st') :
    callF dP C (n + 3) "_law_small_caller" [.ref a] [] [] st K := by
  refine call_pos P_l_small_caller (by simp [f_l_small_caller]) rfl (body_of P_l_small_caller rfl ?_)
  show evSs _ C (.asg (.nm 1) (.bin .Add (.int 1) (.call "_law_draw" [.var 0, .int 2] [] [])) ::
    .asg (.nm 2) (.ite (.cmp .Eq (.var 1) (.int 2)) (.call "_law_pick" [.var 0, .lst [.var 1, .int 2, .int 2, .int 4]] [] []) (.call "_law_pick" [.var 0, .lst [.int 1, .int 2, .int 3, .int 4]] [] [])) :: scQ) [some (.ref a), none, none, none, none, none, none, none, none, none, none, none, none] _ _
  refine x_cons ?_
  refine x_asg ?_
  repeat infer_instance
  refine b3draw_call P_l_draw hf (by decide) (by decide) fun x1 st1 a1 a2 f1 e1 => ?_
  have em : (1 + x1 : Int) = ((1 + x1).toNat : Nat) := by omega
  refine k_add ?_
  rw [em]
  have m1 : 1 ≤ (1 + x1).toNat := by omega
  have m2 : (1 + x1).toNat ≤ 2 := by omega
  generalize (1 + x1).toNat = many at *
  refine x_cons ?_
  refine x_asg ?_
  repeat infer_instance
  refine t_ifE (fun he => ?_) (fun hne => ?_)
  · repeat infer_instance
    intro q hq
    refine x_enil ?_
    refine pickL f1 (by simp) (by simp) (fun x5 s5 hx5 f5 e5 => ?_) q hq
    have hr : ∃ r : Int, x5 = .int r ∧ 2 ≤ r ∧ r ≤ 4 := by
      simp only [List.mem_cons, List.not_mem_nil, or_false] at hx5
      rcases hx5 with rfl | rfl | rfl | rfl
      · exact ⟨_, rfl, by omega, by omega⟩
      · exact ⟨_, rfl, by decide, by decide⟩
      · exact ⟨_, rfl, by decide, by decide⟩
      · exact ⟨_, rfl, by decide, by decide⟩
    obtain ⟨r, rfl, r1, r2⟩ := hr
    exact scQ_ok f5 m1 m2 (by omega) r2 fun cs vs k st' o1 o2 hk hl f' e' => h r cs vs k st' (by omega) (by omega) o1 o2 hk hl f' ((e1.trans e5).trans e')
  · repeat infer_instance
    intro q hq
    refine x_enil ?_
    refine pickL f1 (by simp) (by simp) (fun x5 s5 hx5 f5 e5 => ?_) q hq
    have hr : ∃ r : Int, x5 = .int r ∧ 1 ≤ r ∧ r ≤ 4 := by
      simp only [List.mem_cons, List.not_mem_nil, or_false] at hx5
      rcases hx5 with rfl | rfl | rfl | rfl <;> exact ⟨_, rfl, by decide, by decide⟩
    obtain ⟨r, rfl, r1, r2⟩ := hr
    exact scQ_ok f5 m1 m2 (by omega) r2 fun cs vs k st' o1 o2 hk hl f' e' => h r cs vs k st' (by omega) (by omega) o1 o2 hk hl f' ((e1.trans e5).trans e')
end

end MP

set_option Elab.async false
set_option linter.all false
set_option maxRecDepth 100000
set_option maxHeartbeats 8000000
/-! K22r: a great caller; turns; the bursts -/
namespace MP
open PySem PySem.Spec
local macro_rules | `(tactic| infer_instance) => `(tactic| with_reducible first
  | refine k_is_N ?_ | refine k_isn_N ?_ | refine k_is_B ?_ | refine k_isn_B ?_ | refine k_is_I ?_ | refine k_isn_I ?_ | refine k_is_S ?_ | refine k_isn_S ?_ | refine k_is_T ?_ | refine k_isn_T ?_ | refine k_is_R ?_ | refine k_isn_R ?_ | refine t_nT ?_ | refine t_nF ?_ | refine t_andnT ?_ | refine t_andnF ?_ | refine t_ornT ?_ | refine t_ornF ?_
  | refine x_var (by with_unfolding_all rfl) ?_
  | refine x_nil ?_
  | refine x_cons ?_
  | refine x_asg ?_
  | refine x_sub ?_
  | refine x_ex ?_
  | refine x_ret ?_
  | refine x_retN ?_
  | refine x_iff ?_
  | refine x_for ?_
  | refine x_pass ?_
  | refine x_brk ?_
  | refine x_cont ?_
  | refine x_non ?_
  | refine x_bl ?_
  | refine x_int ?_
  | refine x_str ?_
  | refine x_bin ?_
  | refine x_cmp ?_
  | refine x_cmp2 ?_
  | refine x_bop ?_
  | refine x_ite ?_
  | refine x_tup ?_
  | refine x_lst ?_
  | refine x_ix ?_
  | refine x_call ?_
  | refine x_blt ?_
  | refine x_mth ?_
  | refine x_lc ?_
  | refine x_enil ?_
  | refine x_econs ?_
  | refine x_b1 ?_
  | refine x_tnot ?_
  | refine x_tbop ?_
  | refine x_tite ?_
  | refine x_btnil ?_
  | refine x_btcons ?_
  | refine x_ts0 ?_
  | refine x_ts1 ?_
  | refine k_add ?_
  | refine k_sub ?_
  | refine k_eqI ?_
  | refine k_neI ?_
  | refine k_ltI ?_
  | refine k_leI ?_
  | refine k_gtI ?_
  | refine k_geI ?_
  | refine k_lenT ?_
  | refine k_intI ?_
  | refine k_intB ?_
  | refine k_abs ?_
  | refine k_max2 ?_
  | refine k_min2 ?_
  | refine x_asgT ?_ (callF_mono _ _ _)
  | refine x_neg ?_ (callF_mono _ _ _)
  | refine x_not ?_ (callF_mono _ _ _)
  | refine x_isi ?_ (callF_mono _ _ _)
  | refine x_t (by with_unfolding_all rfl) (callF_mono _ _ _) ?_
  | refine x_bcons ?_ (callF_mono _ _ _)
  | refine k_ixR (rd_of (by assumption)) (by with_unfolding_all rfl) ?_
  | refine k_ixR rd_put (by with_unfolding_all rfl) ?_
  | refine k_ixT (by with_unfolding_all rfl) ?_
  | refine k_lenR (rd_of (by assumption)) ?_
  | refine k_lenR rd_put ?_
  | refine k_ixR (rd_ne (by assumption) (rd_of (by assumption))) (by with_unfolding_all rfl) ?_
  | refine k_lenR (rd_ne (by assumption) (rd_of (by assumption))) ?_
  | refine k_setP (by with_unfolding_all rfl) ?_
  | refine k_set (by assumption) (by with_unfolding_all rfl) ?_
  | refine k_set put_same (by with_unfolding_all rfl) ?_
  | refine ⟨_, isi_int_N, ?_⟩ | refine ⟨_, isi_int_B, ?_⟩ | refine ⟨_, isi_int_I, ?_⟩ | refine ⟨_, isi_int_S, ?_⟩ | refine ⟨_, isi_int_T, ?_⟩ | refine ⟨_, isi_bool_N, ?_⟩ | refine ⟨_, isi_bool_B, ?_⟩ | refine ⟨_, isi_bool_I, ?_⟩ | refine ⟨_, isi_bool_S, ?_⟩ | refine ⟨_, isi_bool_T, ?_⟩ | refine ⟨_, isi_str_N, ?_⟩ | refine ⟨_, isi_str_B, ?_⟩ | refine ⟨_, isi_str_I, ?_⟩ | refine ⟨_, isi_str_S, ?_⟩ | refine ⟨_, isi_str_T, ?_⟩ | refine ⟨_, isi_tuple_N, ?_⟩ | refine ⟨_, isi_tuple_B, ?_⟩ | refine ⟨_, isi_tuple_I, ?_⟩ | refine ⟨_, isi_tuple_S, ?_⟩ | refine ⟨_, isi_tuple_T, ?_⟩ | refine ⟨_, isi_list_N, ?_⟩ | refine ⟨_, isi_list_B, ?_⟩ | refine ⟨_, isi_list_I, ?_⟩ | refine ⟨_, isi_list_S, ?_⟩ | refine ⟨_, isi_list_T, ?_⟩
  | refine x_slc ?_ (callF_mono _ _ _) | refine k_slcT ?_ | refine k_max3 ?_ | refine k_slcR (rd_of (by assumption)) ?_ | refine i_seqR rd_put ?_ | refine i_seqR (rd_of (by assumption)) ?_ | refine i_seqT ?_ | refine i_enumT ?_ | refine i_range (by omega) (by omega) ?_ | refine i_range2 (by omega) ?_ | refine k_tupR rd_put ?_ | refine k_tupR (rd_of (by assumption)) ?_
  | refine ⟨k_ty (by assumption), ?_⟩ | refine ⟨k_ty put_same, ?_⟩ | refine ⟨k_ty (st_ne (by assumption) (by assumption)), ?_⟩
  | refine ⟨_, by with_unfolding_all rfl, ?_⟩
  | refine k_mod (by omega) ?_ | refine k_div (by omega) ?_ | refine k_mul (cmulL (by omega) (by omega)) ?_ | refine k_mul (cmulR (by omega) (by omega)) ?_ | refine k_mul cmulB ?_ | refine k_pow18 ?_ | refine t_T ?_ | refine t_F ?_ | refine t_andT ?_ | refine t_andF ?_ | refine t_orT ?_ | refine t_orF ?_ | refine t_aa ?_ | refine t_oo ?_
  | refine x_fld ?_ | refine x_um ?_ | refine x_sfl ?_ | refine k_fld (by assumption) (by with_unfolding_all rfl) ?_)

section
variable {C : Kst} {n : Nat} {st : Sto} {K : D → Sto → Prop} {a b c : Addr}
theorem great_call (hf : Bag3 st a b c) (h : ∀ round cs vs (k : Nat) st', (1 : Int) ≤ round → round ≤ 30 → (∀ x ∈ cs, Cal.ok x) → (∀ v ∈ vs, Line.ok v) → k < cs.length → vs.length = cs.length → Bag3 st' a b c → Ex2 a b st st' → K (.tup [dsD round cs, bdD vs, .int (k : Nat)]) st') :
    callF dP C (n + 3) "_law_great_caller" [.ref a] [] [] st K := by
  refine call_pos P_l_great_caller (by simp [f_l_great_caller]) rfl (body_of P_l_great_caller rfl ?_)
  show evSs _ C b_l_great_caller [some (.ref a), none, none, none, none, none, none, none, none] _ _
  unfold b_l_great_caller
  repeat infer_instance
  intro pq hpq
  have nq := hf.ne hpq
  have sq := sub_fresh (o := .lst ([] : List D)) hpq
  have gq : put st pq (.lst ([] : List D)) pq = some (.lst []) := put_same
  have f := hf.sub sq
  have e : Ex2 a b st _ := Ex2.of sq
  generalize put st pq (.lst ([] : List D)) = s0 at *
  repeat infer_instance
  refine forK_of (fun i σ s => ∃ (us : List Way) (w2 w5 : Option D), us.length = i ∧ (∀ u ∈ us, u.ok) ∧ Bag3 s a b c ∧ Ex2 a b st s ∧ s pq = some (.lst (us.map wyD)) ∧ σ = [some (.ref a), some (.ref pq), w2, none, none, w5, none, none, none])
    ⟨[], none, none, rfl, (fun _ h => by cases h), f, e, gq, rfl⟩ (fun _ _ _ _ => trivial) ?_ ?_
  · rintro σ s ⟨us, w2, w5, hl, hok, f, e, g, rfl⟩
    match us, hl, hok, g with
    | [u0, u1], _, hok, g =>
      have ok0 := hok u0 (by simp)
      have ok1 := hok u1 (by simp)
      have g : s pq = some (.lst [wyD u0, wyD u1]) := g
      repeat infer_instance
      intro q hq
      refine x_enil ?_
      refine pickL f (by simp) (by simp) (fun x5 s5 hx5 f5 e5 => ?_) q hq
      have hr : ∃ r : Int, x5 = .int r ∧ 1 ≤ r ∧ r ≤ 30 := by
        simp only [List.mem_cons, List.not_mem_nil, or_false] at hx5
        rcases hx5 with rfl | rfl | rfl | rfl | rfl <;> exact ⟨_, rfl, by decide, by decide⟩
      obtain ⟨r, rfl, r1, r2⟩ := hr
      have g5 := e5 _ _ nq.1 nq.2.1 g
      repeat infer_instance
      refine b3draw_call P_l_draw f5 (by decide) (by decide) fun x1 st1 a1 a2 f1 e1 => ?_
      repeat infer_instance
      refine b3draw_call P_l_draw f1 (by decide) (by decide) fun x2 st2 b1 b2 f2 e2 => ?_
      repeat infer_instance
      intro q2 hq2
      refine x_enil ?_
      refine pickL f2 (by simp) (by simp) (fun x6 s6 hx6 f6 e6 => ?_) q2 hq2
      have ho : ∃ r : Int, x6 = .int r ∧ 1 ≤ r ∧ r ≤ 6 := by
        simp only [List.mem_cons, List.not_mem_nil, or_false] at hx6
        rcases hx6 with rfl | rfl | rfl <;> exact ⟨_, rfl, by decide, by decide⟩
      obtain ⟨op, rfl, o1, o2⟩ := ho
      repeat infer_instance
      refine b3draw_call P_l_draw f6 (by omega) (by omega) fun x7 s7 t1 t2 f7 e7 => ?_
      repeat infer_instance
      refine b3draw_call P_l_draw f7 (by decide) (by decide) fun l0 s8 l01 l02 f8 e8 => ?_
      repeat infer_instance
      refine b3draw_call P_l_draw f8 (by decide) (by decide) fun l1 s9 l11 l12 f9 e9 => ?_
      repeat infer_instance
      refine b3draw_call P_l_draw f9 (by omega) (by omega) fun h0 s10 h01 h02 f10 e10 => ?_
      repeat infer_instance
      refine b3draw_call P_l_draw f10 (by omega) (by omega) fun h1 s11 h11 h12 f11 e11 => ?_
      repeat infer_instance
      refine b3draw_call P_l_draw f11 (by decide) (by decide) fun fa s12 fa1 fa2 f12 e12 => ?_
      repeat infer_instance
      refine b3draw_call P_l_draw f12 (by decide) (by decide) fun co s13 co1 co2 f13 e13 => ?_
      repeat infer_instance
      refine h r [⟨u0, u1, 1 + x1, 1 + x2, op, x7⟩] [⟨1 + l0, 1 + l0 + h0, 1 + l1, 1 + l1 + h1, 1 + fa, 1 + co⟩] 0 s13 r1 r2 (fun x hx => ?_) (fun v hv => ?_) (by show 0 < 1; omega) rfl f13 ((((((((((((e.trans e5).trans e1).trans e2).trans e6).trans e7).trans e8).trans e9).trans e10).trans e11).trans e12).trans e13))
      · rw [List.mem_singleton.mp hx]
        exact ⟨ok0, ok1, by show 1 ≤ 1 + x1; omega, by show 1 + x1 ≤ 4; omega, by show 1 ≤ 1 + x2; omega, by show 1 + x2 ≤ 4; omega, o1, o2⟩
      · rw [List.mem_singleton.mp hv]
        refine ⟨?_, ?_, ?_, ?_, ?_, ?_, ?_, ?_⟩
        all_goals simp only []
        all_goals omega
  · rintro i y σ s R hy ⟨us, w2, w5, hl, hok, f, e, g, rfl⟩ hR
    obtain ⟨rfl, hi⟩ := at_range hy
    have hi : i < 2 := hi
    simp only [bindG, List.set_cons_succ, List.set_cons_zero]
    repeat infer_instance
    intro q0 hq0
    refine x_enil ?_
    refine pickL f (by simp) (by simp) (fun x1 s1 hx1 f1 e1 => ?_) q0 hq0
    have hw : ∃ w : Int, x1 = .int w ∧ 1 ≤ w ∧ w ≤ 30 := by
      simp only [List.mem_cons, List.not_mem_nil, or_false] at hx1
      rcases hx1 with rfl | rfl | rfl | rfl <;> exact ⟨_, rfl, by decide, by decide⟩
    obtain ⟨w, rfl, wa, wb'⟩ := hw
    have e01 := e.trans e1
    have g1 := e1 _ _ nq.1 nq.2.1 g
    repeat infer_instance
    refine b3draw_call P_l_draw f1 (by decide) (by decide) fun x2 s2 b1 b2 f2 e2 => ?_
    have e02 := e01.trans e2
    have g2 := e2 _ _ nq.1 nq.2.1 g1
    repeat infer_instance
    refine lcK_all (fun y => ∃ i : Int, y = .int i) (fun st3 => Bag3 st3 a b c ∧ Ex2 a b s2 st3) (by rw [sizeLine_eq, List.length_map, List.length_range]; omega) ⟨f2, Ex2.refl⟩ (fun _ _ => trivial) ?_ ?_
    · rintro y st3 R2 hy ⟨f3, e3⟩ hR2
      obtain ⟨j, hj, rfl⟩ := List.mem_map.mp hy
      simp only [bindG]
      repeat infer_instance
      refine b3draw_call P_l_draw f3 (by omega) (by omega) fun z st4 z1 z2 f4 e4 => ?_
      exact hR2 _ _ ⟨z, rfl⟩ ⟨f4, e3.trans e4⟩
    · rintro acc st3 hlen hall ⟨f3, e3⟩ p hp
      rw [List.length_map, List.length_range] at hlen
      obtain ⟨ss, rfl⟩ := ints_of hall
      rw [List.length_map] at hlen
      have sp := sub_fresh (o := .lst (ss.map D.int)) hp
      have f4 := f3.sub sp
      have e4 : Ex2 a b s2 _ := e3.trans (Ex2.of sp)
      refine x_enil ?_
      refine k_tupR rd_put ?_
      generalize put st3 p (.lst (ss.map D.int)) = st4 at *
      repeat infer_instance
      intro q hq
      refine x_enil ?_
      refine pickL f4 (by simp) (by simp) (fun x5 st6 hx5 f6 e6 => ?_) q hq
      have hr : ∃ r : Int, x5 = .int r ∧ 1 ≤ r ∧ r ≤ 40 := by
        simp only [List.mem_cons, List.not_mem_nil, or_false] at hx5
        rcases hx5 with rfl | rfl | rfl <;> exact ⟨_, rfl, by decide, by decide⟩
      obtain ⟨r, rfl, r1, r2⟩ := hr
      have e46 := e4.trans e6
      have g6 := e46 _ _ nq.1 nq.2.1 g2
      have hpq0 := e02.nn nq.1 nq.2.1 
      repeat infer_instance
      refine k_app g6 (by rw [List.length_map, sizeLine_eq]; omega) ?_
      refine x_nil (F := callF dP C (n + 2)) (C := C) ?_
      refine hR _ _ ⟨us ++ [⟨w, ss, r, 6⟩], _, _, by rw [List.length_append, hl]; rfl, fun u hu => ?_, f6.put nq.1 nq.2.1 nq.2.2, (e02.trans e46).wr hpq, ?_, rfl⟩
      · rcases List.mem_append.mp hu with hu | hu
        · exact hok u hu
        · rw [List.mem_singleton.mp hu]
          exact ⟨wa, wb', by show 1 ≤ ss.length; omega, by show ss.length ≤ 6; omega, r1, r2⟩
      · rw [put_same, List.map_append]
        rfl
theorem lturns_call {round : Int} {cs : List Cal} {k : Nat} {x : Cal} {P : Pm} (hx : cs[k]? = some x) (E : PmEq round x P) (pk : P.ok) (ok : x.ok) (h1 : round ≤ 30) (h : ∀ st', Sub st st' → K (.tup [.int (spanOf P : Nat), .int (cycOf P : Nat)]) st') :
    callF dP C (n + 3) "_law_turns_of" [dsD round cs, .int (k : Nat)] [] [] st K := by
  refine call_pos P_l_turns_of (by simp [f_l_turns_of]) rfl (body_of P_l_turns_of rfl ?_)
  show evSs _ C b_l_turns_of [some (dsD round cs), some (.int (k : Nat)), none, none, none, none] _ _
  have pr := pk.ring
  have w0 := pk.w0
  have w1 := pk.w1
  have s0 := pk.s0
  have s1 := pk.s1
  have m0 := pk.m0
  have m1 := pk.m1
  have er : round = (P.ring.toNat : Nat) := by rw [E.ring]; exact (Int.toNat_of_nonneg (by omega)).symm
  have e0 : x.u0.w = (P.w0.toNat : Nat) := by rw [E.w0]; exact (Int.toNat_of_nonneg (by omega)).symm
  have e1 : x.u1.w = (P.w1.toNat : Nat) := by rw [E.w1]; exact (Int.toNat_of_nonneg (by omega)).symm
  have b0 := ok.o0.w2
  have b1 := ok.o1.w2
  have l0 := ok.o0.s2
  have l1 := ok.o1.s2
  rw [E.s0] at l0
  rw [E.s1] at l1
  unfold b_l_turns_of dsD
  repeat infer_instance
  refine k_ixT (atN (i := k) (v := calD x) (by rw [List.getElem?_map, hx]; rfl)) ?_
  unfold calD wyD
  repeat infer_instance
  intro pl hpl
  have sp := sub_fresh (o := .lst [D.int round, .int x.u0.w, .int x.u1.w]) hpl
  have gl : put st pl (.lst [D.int round, .int x.u0.w, .int x.u1.w]) pl = some (.lst [D.int round, .int x.u0.w, .int x.u1.w]) := put_same
  generalize put st pl (.lst [D.int round, .int x.u0.w, .int x.u1.w]) = st1 at *
  refine x_enil ?_
  refine llcm_call (ns := [P.ring.toNat, P.w0.toNat, P.w1.toNat]) (by rw [gl, er, e0, e1]; rfl) (fun z hz => ?_) ?_
  · simp only [List.mem_cons, List.not_mem_nil, or_false] at hz
    rcases hz with rfl | rfl | rfl <;> omega
  rw [show [P.ring.toNat, P.w0.toNat, P.w1.toNat].foldl Nat.lcm 1 = spanOf P by
    show Nat.lcm (Nat.lcm (Nat.lcm 1 P.ring.toNat) P.w0.toNat) P.w1.toNat = _
    rw [Nat.lcm_comm 1, Nat.lcm_one_right]
    rfl]
  generalize spanOf P = sn at *
  repeat infer_instance
  refine lcK_mapT (ws := List.range 2) (fun (i : Nat) => D.int i) (fun (i : Nat) => D.int ((if i = 0 then P.m0 / Nat.gcd P.m0 P.e0 else P.m1 / Nat.gcd P.m1 P.e1 : Nat) : Int)) (fun z => z = st1) (by rw [sizeLine_eq]; show 2 < _; decide) rfl (fun _ _ => trivial) ?_ ?_
  · rintro i z R hi rfl hR
    simp only [bindG]
    rw [List.mem_range] at hi
    have hi : i = 0 ∨ i = 1 := by omega
    rcases hi with rfl | rfl
    · repeat infer_instance
      rw [List.length_map, E.s0, s0, E.e0]
      refine lgcd_call ?_
      have g1 := Nat.gcd_pos_of_pos_left P.e0 (show 0 < P.m0 by omega)
      have g2 := Nat.gcd_le_left P.e0 (show 0 < P.m0 by omega)
      refine k_div ⟨by omega, by omega⟩ ?_
      rw [← Int.natCast_ediv]
      exact hR _ rfl
    · repeat infer_instance
      rw [List.length_map, E.s1, s1, E.e1]
      refine lgcd_call ?_
      have g1 := Nat.gcd_pos_of_pos_left P.e1 (show 0 < P.m1 by omega)
      have g2 := Nat.gcd_le_left P.e1 (show 0 < P.m1 by omega)
      refine k_div ⟨by omega, by omega⟩ ?_
      rw [← Int.natCast_ediv]
      exact hR _ rfl
  rintro z rfl pc hpc
  have c0 := turns_pos (e := P.e0) m0
  have c1 := turns_pos (e := P.e1) m1
  have c2 := Nat.div_le_self P.m0 (Nat.gcd P.m0 P.e0)
  have c3 := Nat.div_le_self P.m1 (Nat.gcd P.m1 P.e1)
  have sc := sub_fresh (o := .lst [D.int (P.m0 / Nat.gcd P.m0 P.e0 : Nat), .int (P.m1 / Nat.gcd P.m1 P.e1 : Nat)]) hpc
  have gc : put z pc (.lst [D.int (P.m0 / Nat.gcd P.m0 P.e0 : Nat), .int (P.m1 / Nat.gcd P.m1 P.e1 : Nat)]) pc = some (.lst [D.int (P.m0 / Nat.gcd P.m0 P.e0 : Nat), .int (P.m1 / Nat.gcd P.m1 P.e1 : Nat)]) := put_same
  show evSs _ C _ _ (put z pc (.lst [D.int (P.m0 / Nat.gcd P.m0 P.e0 : Nat), .int (P.m1 / Nat.gcd P.m1 P.e1 : Nat)])) _
  generalize put z pc (.lst [D.int (P.m0 / Nat.gcd P.m0 P.e0 : Nat), .int (P.m1 / Nat.gcd P.m1 P.e1 : Nat)]) = st2 at *
  repeat infer_instance
  refine llcm_call (ns := [P.m0 / Nat.gcd P.m0 P.e0, P.m1 / Nat.gcd P.m1 P.e1]) gc (fun z hz => ?_) ?_
  · simp only [List.mem_cons, List.not_mem_nil, or_false] at hz
    rcases hz with rfl | rfl <;> omega
  rw [show [P.m0 / Nat.gcd P.m0 P.e0, P.m1 / Nat.gcd P.m1 P.e1].foldl Nat.lcm 1 = cycOf P by
    show Nat.lcm (Nat.lcm 1 (P.m0 / Nat.gcd P.m0 P.e0)) (P.m1 / Nat.gcd P.m1 P.e1) = _
    rw [Nat.lcm_comm 1, Nat.lcm_one_right]
    rfl]
  generalize cycOf P = cn at *
  repeat infer_instance
  exact h _ (sp.trans sc)
theorem lburst_call {round : Int} {cs : List Cal} {vs : List Line} {k : Nat} {x : Cal} {v : Line} {P : Pm} {start : Int} {many first : Nat} (hx : cs[k]? = some x) (hv : vs[k]? = some v) (E : PmV round x v P) (pk : P.ok) (ok : x.ok) (okv : v.ok) (hmany : many ≤ 299) (m0 : 0 ≤ start)
    (h : ∀ st' S, Sub st st' → Inv P start first many S → K (.tup (S.heard.map .int)) st') : callF dP C (n + 4) "_law_burst" [dsD round cs, bdD vs, .int (k : Nat), .tup ((List.replicate many start).map .int), .int (first : Nat)] [] [] st K := by
  refine call_pos P_l_burst (by simp [f_l_burst]) rfl (body_of P_l_burst rfl ?_)
  show evSs _ C b_l_burst [some (dsD round cs), some (bdD vs), some (.int (k : Nat)), some (.tup ((List.replicate many start).map .int)), some (.int (first : Nat)), none] _ _
  unfold b_l_burst bdD
  repeat infer_instance
  refine k_ixT (atN (i := k) (v := lnD v) (by rw [List.getElem?_map, hv]; rfl)) ?_
  repeat infer_instance
  refine k_tdict fun p hp => ?_
  repeat infer_instance
  refine lcaller_call E pk hx ok okv hmany m0 put_same fun st' S z1 z2 z4 z5 s' I => ?_
  repeat infer_instance
  exact h st' S ((sub_fresh hp).trans s') I
theorem bursts_call {round : Int} {cs : List Cal} {vs : List Line} {k : Nat} {x : Cal} {v : Line} {P : Pm} {start start2 : Int} {first first2 N many : Nat} {Dn H f0 f1 : Nat → Int} (hP : P = pmOf round x v) (hx : cs[k]? = some x) (hv : vs[k]? = some v) (h1 : 1 ≤ round) (h2 : round ≤ 30) (ok : x.ok) (okv : v.ok) (s0 : 0 ≤ start) (L : LR P start first Dn H f0 f1 N) (hm : many ≤ N) (hz : many ≤ 1000)
    (es : start2 % ((spanOf P : Nat) : Int) = start % ((spanOf P : Nat) : Int)) (ef : first2 % cycOf P = first % cycOf P)
    (h : ∀ st', Sub st st' → K (.tup ((List.range many).map fun k => D.int (H k - start))) st') : bodyF dP C (n + 7) "burst" [dsD round cs, bdD vs, .int (k : Nat), .int (many : Nat), .int start2, .int (first2 : Nat)] st K := by
  refine body_of P_burst rfl ?_
  show evSs _ C b_burst [some (dsD round cs), some (bdD vs), some (.int (k : Nat)), some (.int (many : Nat)), some (.int start2), some (.int (first2 : Nat))] _ _
  unfold b_burst
  repeat infer_instance
  refine course_call hx hv h1 h2 ok okv fun p s1 g1 e1 => ?_
  repeat infer_instance
  rw [← hP] at g1
  refine burst_call hP g1 h1 ok okv s0 L hm hz es ef fun s2 e2 => ?_
  exact h s2 (e1.trans e2)
end

end MP

set_option Elab.async false
set_option linter.all false
set_option maxRecDepth 100000
set_option maxHeartbeats 8000000
/-! K22s: k22's lawHolds -/
namespace MP
open PySem PySem.Spec
local macro_rules | `(tactic| infer_instance) => `(tactic| with_reducible first
  | refine k_is_N ?_ | refine k_isn_N ?_ | refine k_is_B ?_ | refine k_isn_B ?_ | refine k_is_I ?_ | refine k_isn_I ?_ | refine k_is_S ?_ | refine k_isn_S ?_ | refine k_is_T ?_ | refine k_isn_T ?_ | refine k_is_R ?_ | refine k_isn_R ?_ | refine t_nT ?_ | refine t_nF ?_ | refine t_andnT ?_ | refine t_andnF ?_ | refine t_ornT ?_ | refine t_ornF ?_
  | refine x_var (by with_unfolding_all rfl) ?_
  | refine x_nil ?_
  | refine x_cons ?_
  | refine x_asg ?_
  | refine x_sub ?_
  | refine x_ex ?_
  | refine x_ret ?_
  | refine x_retN ?_
  | refine x_iff ?_
  | refine x_for ?_
  | refine x_pass ?_
  | refine x_brk ?_
  | refine x_cont ?_
  | refine x_non ?_
  | refine x_bl ?_
  | refine x_int ?_
  | refine x_str ?_
  | refine x_bin ?_
  | refine x_cmp ?_
  | refine x_cmp2 ?_
  | refine x_bop ?_
  | refine x_ite ?_
  | refine x_tup ?_
  | refine x_lst ?_
  | refine x_ix ?_
  | refine x_call ?_
  | refine x_blt ?_
  | refine x_mth ?_
  | refine x_lc ?_
  | refine x_enil ?_
  | refine x_econs ?_
  | refine x_b1 ?_
  | refine x_tnot ?_
  | refine x_tbop ?_
  | refine x_tite ?_
  | refine x_btnil ?_
  | refine x_btcons ?_
  | refine x_ts0 ?_
  | refine x_ts1 ?_
  | refine k_add ?_
  | refine k_sub ?_
  | refine k_eqI ?_
  | refine k_neI ?_
  | refine k_ltI ?_
  | refine k_leI ?_
  | refine k_gtI ?_
  | refine k_geI ?_
  | refine k_lenT ?_
  | refine k_intI ?_
  | refine k_intB ?_
  | refine k_abs ?_
  | refine k_max2 ?_
  | refine k_min2 ?_
  | refine x_asgT ?_ (callF_mono _ _ _)
  | refine x_neg ?_ (callF_mono _ _ _)
  | refine x_not ?_ (callF_mono _ _ _)
  | refine x_isi ?_ (callF_mono _ _ _)
  | refine x_t (by with_unfolding_all rfl) (callF_mono _ _ _) ?_
  | refine x_bcons ?_ (callF_mono _ _ _)
  | refine k_ixR (rd_of (by assumption)) (by with_unfolding_all rfl) ?_
  | refine k_ixR rd_put (by with_unfolding_all rfl) ?_
  | refine k_ixT (by with_unfolding_all rfl) ?_
  | refine k_lenR (rd_of (by assumption)) ?_
  | refine k_lenR rd_put ?_
  | refine k_ixR (rd_ne (by assumption) (rd_of (by assumption))) (by with_unfolding_all rfl) ?_
  | refine k_lenR (rd_ne (by assumption) (rd_of (by assumption))) ?_
  | refine k_setP (by with_unfolding_all rfl) ?_
  | refine k_set (by assumption) (by with_unfolding_all rfl) ?_
  | refine k_set put_same (by with_unfolding_all rfl) ?_
  | refine ⟨_, isi_int_N, ?_⟩ | refine ⟨_, isi_int_B, ?_⟩ | refine ⟨_, isi_int_I, ?_⟩ | refine ⟨_, isi_int_S, ?_⟩ | refine ⟨_, isi_int_T, ?_⟩ | refine ⟨_, isi_bool_N, ?_⟩ | refine ⟨_, isi_bool_B, ?_⟩ | refine ⟨_, isi_bool_I, ?_⟩ | refine ⟨_, isi_bool_S, ?_⟩ | refine ⟨_, isi_bool_T, ?_⟩ | refine ⟨_, isi_str_N, ?_⟩ | refine ⟨_, isi_str_B, ?_⟩ | refine ⟨_, isi_str_I, ?_⟩ | refine ⟨_, isi_str_S, ?_⟩ | refine ⟨_, isi_str_T, ?_⟩ | refine ⟨_, isi_tuple_N, ?_⟩ | refine ⟨_, isi_tuple_B, ?_⟩ | refine ⟨_, isi_tuple_I, ?_⟩ | refine ⟨_, isi_tuple_S, ?_⟩ | refine ⟨_, isi_tuple_T, ?_⟩ | refine ⟨_, isi_list_N, ?_⟩ | refine ⟨_, isi_list_B, ?_⟩ | refine ⟨_, isi_list_I, ?_⟩ | refine ⟨_, isi_list_S, ?_⟩ | refine ⟨_, isi_list_T, ?_⟩
  | refine x_slc ?_ (callF_mono _ _ _) | refine k_slcT ?_ | refine k_max3 ?_ | refine k_slcR (rd_of (by assumption)) ?_ | refine i_seqR rd_put ?_ | refine i_seqR (rd_of (by assumption)) ?_ | refine i_seqT ?_ | refine i_enumT ?_ | refine i_range (by omega) (by omega) ?_ | refine i_range2 (by omega) ?_ | refine k_tupR rd_put ?_ | refine k_tupR (rd_of (by assumption)) ?_
  | refine ⟨k_ty (by assumption), ?_⟩ | refine ⟨k_ty put_same, ?_⟩ | refine ⟨k_ty (st_ne (by assumption) (by assumption)), ?_⟩
  | refine ⟨_, by with_unfolding_all rfl, ?_⟩
  | refine k_mod (by omega) ?_ | refine k_div (by omega) ?_ | refine k_mul (cmulL (by omega) (by omega)) ?_ | refine k_mul (cmulR (by omega) (by omega)) ?_ | refine k_mul cmulB ?_ | refine k_pow18 ?_ | refine t_T ?_ | refine t_F ?_ | refine t_andT ?_ | refine t_andF ?_ | refine t_orT ?_ | refine t_orF ?_ | refine t_aa ?_ | refine t_oo ?_
  | refine x_fld ?_ | refine x_um ?_ | refine x_sfl ?_ | refine k_fld (by assumption) (by with_unfolding_all rfl) ?_)

theorem pl_int (m : Nat) (i : Int) : Pl m (.int i) := by cases m <;> trivial
theorem pl_due {m : Nat} {xs : List Int} {start : Int} (h : xs.length < 1000000) : Pl (m + 1) (.tup (xs.map fun t => D.int (t - start))) := by
  refine ⟨by rw [List.length_map]; exact h, fun x hx => ?_⟩
  obtain ⟨i, _, rfl⟩ := List.mem_map.mp hx
  exact pl_int _ _
theorem due_eq {hs : List Int} {many : Nat} {start : Int} (h : hs.length = many) : (List.range many).map (fun k => D.int (fA hs k - start)) = hs.map fun t => D.int (t - start) := by
  refine List.ext_getElem? fun j => ?_
  rw [List.getElem?_map, List.getElem?_map]
  by_cases q : j < many
  · rw [List.getElem?_range q, List.getElem?_eq_getElem (show j < hs.length by omega)]
    show some (D.int (fA hs j - start)) = some (D.int (hs[j] - start))
    unfold fA
    rw [List.getElem?_eq_getElem (show j < hs.length by omega)]
    rfl
  · rw [List.getElem?_eq_none (show (List.range many).length ≤ j by rw [List.length_range]; omega), List.getElem?_eq_none (show hs.length ≤ j by omega)]
    rfl
def lawC : List S := [
    .asg (.nm 5) (.call "_law_burst" [.var 8, .var 9, .var 10, .bin .Mult (.tup [.var 13]) (.var 4), .var 14] [] []),
    .asg (.nm 6) (.blt "tuple" [.lc (.bin .Sub (.var 15) (.var 13)) (.nm 15) .seq [.var 5] [] [15]]),
    .asg (.nm 7) (.tup [.call "burst" [.var 8, .var 9, .var 10, .var 4, .var 13, .var 14] [] [], .call "burst" [] ["first", "start", "many", "caller", "bounds", "design"] [.var 14, .var 13, .var 4, .var 10, .var 9, .var 8]]),
    .iff (.not (.call "_law_same" [.tup [.var 7, .call "burst" [.var 8, .var 9, .var 10, .var 4, .bin .Add (.var 13) (.bin .Mult (.int 7) (.var 11)), .bin .Add (.var 14) (.bin .Mult (.int 5) (.var 12))] [] []], .tup [.tup [.var 6, .var 6], .var 6]] [] [])) [
      .ret (.bl false)] []]
def lawB : List S := [
    .asg (.tup [.nm 11, .nm 12]) (.call "_law_turns_of" [.var 8, .var 10] [] []),
    .asg (.nm 4) (.bin .Add (.int 1) (.call "_law_draw" [.var 1, .ite (.var 3) (.int 12) (.call "_law_pick" [.var 1, .lst [.int 3, .int 12, .int 30, .int 30, .int 30, .int 30, .int 30, .int 200]] [] [])] [] []))]
def lawB2 : S := .asg (.tup [.nm 13, .nm 14]) (.tup [.call "_law_draw" [.var 1, .bin .Mult (.int 3) (.var 11)] [] [], .call "_law_draw" [.var 1, .bin .Add (.bin .Mult (.int 3) (.var 12)) (.int 2)] [] []])
def lawA : List S := [
    .asg (.nm 3) (.cmp .Eq (.call "_law_draw" [.var 1, .int 8] [] []) (.int 0)),
    .asg (.tup [.nm 8, .nm 9, .nm 10]) (.ite (.var 3) (.call "_law_great_caller" [.var 1] [] []) (.call "_law_small_caller" [.var 1] [] []))]
section
variable {C : Kst} {n : Nat} {st : Sto} {K : D → Sto → Prop} {a b c s : Addr} {kt : Kt} {i : Nat} {round : Int} {cs : List Cal} {vs : List Line} {x : Cal} {v : Line} {P : Pm} {k : Nat} {g : Bool} {w3 w4 w5 w6 w7 w8 w9 w10 w11 w12 w13 w14 w15 : Option D}
theorem same_due {hs : List Int} {start : Int} (hl : hs.length < 1000000) (h : K (.bl true) st) : callF dP C (n + 6) "_law_same" [.tup [.tup [.tup (hs.map fun t => D.int (t - start)), .tup (hs.map fun t => D.int (t - start))], .tup (hs.map fun t => D.int (t - start))], .tup [.tup [.tup (hs.map fun t => D.int (t - start)), .tup (hs.map fun t => D.int (t - start))], .tup (hs.map fun t => D.int (t - start))]] [] [] st K := by
  refine call_pos P_l_same (by simp [f_l_same]) rfl (bsame_body (n := n) P_l_same 5 _ _ _ ?_ ?_)
  · refine ⟨by show 2 < 1000000; decide, fun x hx => ?_⟩
    simp only [List.mem_cons, List.not_mem_nil, or_false] at hx
    rcases hx with rfl | rfl
    · refine ⟨by show 2 < 1000000; decide, fun x hx => ?_⟩
      simp only [List.mem_cons, List.not_mem_nil, or_false] at hx
      rcases hx with rfl | rfl <;> exact pl_due hl
    · exact pl_due hl
  · exact h
theorem lawC_ok {many first : Nat} {start : Int} (hP : P = pmOf round x v) (hx : cs[k]? = some x) (hv : vs[k]? = some v) (h1 : 1 ≤ round) (h2 : round ≤ 30) (ok : x.ok) (okv : v.ok) (s0 : 0 ≤ start) (hm : many ≤ 299)
    (h : ∀ st' w5 w6 w7, Sub st st' → kt.nx [some (.ref s), some (.ref a), some (.int (i : Nat)), w3, some (.int (many : Nat)), w5, w6, w7, some (dsD round cs), some (bdD vs), some (.int (k : Nat)), some (.int (spanOf P : Nat)), some (.int (cycOf P : Nat)), some (.int start), some (.int (first : Nat)), w15] st') :
    evSs (callF dP C (n + 20)) C lawC [some (.ref s), some (.ref a), some (.int (i : Nat)), w3, some (.int (many : Nat)), w5, w6, w7, some (dsD round cs), some (bdD vs), some (.int (k : Nat)), some (.int (spanOf P : Nat)), some (.int (cycOf P : Nat)), some (.int start), some (.int (first : Nat)), w15] st kt := by
  have pk : P.ok := by rw [hP]; exact pm_ok h1 ok okv
  have E : PmV round x v P := by rw [hP]; exact pm_v ok
  unfold lawC
  refine x_cons ?_
  refine x_asg ?_
  repeat infer_instance
  refine k_mulT (by omega) (by omega) ?_
  rw [Int.toNat_natCast, show List.replicate many (D.int start) = (List.replicate many start).map D.int by rw [List.map_replicate]]
  repeat infer_instance
  refine lburst_call (n := n + 16) hx hv E pk ok okv hm s0 fun s1 S e1 I => ?_
  have L := I.lr
  have lh := I.lh
  have due := due_eq (start := start) lh
  refine x_cons ?_
  refine x_asg ?_
  repeat infer_instance
  refine lcK_mapT (ws := S.heard) D.int (fun t => D.int (t - start)) (fun z => z = s1) (by rw [sizeLine_eq]; omega) rfl (fun _ _ => trivial) ?_ ?_
  · rintro t z R ht rfl hR
    simp only [bindG]
    repeat infer_instance
    exact hR _ rfl
  rintro z rfl pl hpl
  have sp := sub_fresh (o := .lst (S.heard.map fun t => D.int (t - start))) hpl
  refine x_enil ?_
  refine k_tupR rd_put ?_
  generalize put z pl (.lst (S.heard.map fun t => D.int (t - start))) = s2 at *
  have hbur : ∀ (start2 : Int) (first2 : Nat) st2 (K2 : D → Sto → Prop), start2 % ((spanOf P : Nat) : Int) = start % ((spanOf P : Nat) : Int) → first2 % cycOf P = first % cycOf P → (∀ st', Sub st2 st' → K2 (.tup (S.heard.map fun t => D.int (t - start))) st') → bodyF dP C (n + 20) "burst" [dsD round cs, bdD vs, .int (k : Nat), .int (many : Nat), .int start2, .int (first2 : Nat)] st2 K2 := by
    intro start2 first2 st2 K2 es ef hK
    refine bursts_call (n := n + 13) hP hx hv h1 h2 ok okv s0 L (Nat.le_refl _) (by omega) es ef fun st' e' => ?_
    rw [due]
    exact hK st' e'
  generalize hdd : S.heard.map (fun t => D.int (t - start)) = dd at *
  refine x_cons ?_
  refine x_asg ?_
  simp only [List.set_cons_succ, List.set_cons_zero]
  repeat infer_instance
  refine call_pos P_burst (by simp [f_burst]) rfl ?_
  refine hbur _ _ _ _ rfl rfl fun s3 e3 => ?_
  repeat infer_instance
  refine x_callK ?_
  repeat infer_instance
  refine call_kw (us := [dsD round cs, bdD vs, .int (k : Nat), .int (many : Nat), .int start, .int (first : Nat)]) P_burst (by simp [f_burst]) rfl rfl ?_
  refine hbur _ _ _ _ rfl rfl fun s4 e4 => ?_
  repeat infer_instance
  rw [show (first : Int) + 5 * ((cycOf P : Nat) : Int) = ((first + 5 * cycOf P : Nat) : Int) by omega]
  refine call_pos P_burst (by simp [f_burst]) rfl ?_
  refine hbur _ _ _ _ (by rw [Int.mul_comm 7, Int.add_mul_emod_self_left]) (by rw [Nat.mul_comm 5, Nat.add_mul_mod_self_left]) fun s5 e5 => ?_
  rw [← hdd]
  repeat infer_instance
  refine same_due (n := n + 14) (by omega) ?_
  repeat infer_instance
  exact h _ _ _ _ (((((e1.trans sp).trans e3).trans e4).trans e5))
theorem lawB_ok (hf : Bag3 st a b c) (hx : cs[k]? = some x) (hv : vs[k]? = some v) (h1 : 1 ≤ round) (h2 : round ≤ 30) (ok : x.ok) (okv : v.ok)
    (h : ∀ st' w4 w5 w6 w7 w11 w12 w13 w14, Bag3 st' a b c → kt.nx [some (.ref s), some (.ref a), some (.int (i : Nat)), some (.bl g), w4, w5, w6, w7, some (dsD round cs), some (bdD vs), some (.int (k : Nat)), w11, w12, w13, w14, w15] st') :
    evSs (callF dP C (n + 20)) C (lawB ++ (lawB2 :: lawC)) [some (.ref s), some (.ref a), some (.int (i : Nat)), some (.bl g), w4, w5, w6, w7, some (dsD round cs), some (bdD vs), some (.int (k : Nat)), w11, w12, w13, w14, w15] st kt := by
  generalize hP : pmOf round x v = P
  have pk : P.ok := by rw [← hP]; exact pm_ok h1 ok okv
  have E : PmV round x v P := by rw [← hP]; exact pm_v ok
  have hcl : cycOf P ≤ 36 := cyc_le (by rw [← pk.s0, ← E.q.s0]; exact ok.o0.s2) (by rw [← pk.s1, ← E.q.s1]; exact ok.o1.s2)
  have hsl : spanOf P ≤ 27000 := by
    have w0 := ok.o0.w2
    have w1 := ok.o1.w2
    have q0 := E.q.w0
    have q1 := E.q.w1
    have qr := E.q.ring
    have l1 : Nat.lcm P.ring.toNat P.w0.toNat ≤ P.ring.toNat * P.w0.toNat := Nat.div_le_self _ _
    have l2 : P.ring.toNat * P.w0.toNat ≤ 30 * 30 := Nat.mul_le_mul (by omega) (by omega)
    have l3 : spanOf P ≤ Nat.lcm P.ring.toNat P.w0.toNat * P.w1.toNat := Nat.div_le_self _ _
    have l4 : Nat.lcm P.ring.toNat P.w0.toNat * P.w1.toNat ≤ 900 * 30 := Nat.mul_le_mul (by omega) (by omega)
    omega
  have hs := span_pos pk
  have hc := cyc_pos pk
  simp only [lawB, List.cons_append, List.nil_append]
  repeat infer_instance
  refine lturns_call (n := n + 17) hx E.q pk ok h2 fun s1 e1 => ?_
  have f1 := hf.sub e1
  repeat infer_instance
  have fin : ∀ (m : Int) (s2 : Sto), 1 ≤ m → m ≤ 200 → Bag3 s2 a b c → callF dP C (n + 20) "_law_draw" [.ref a, .int m] [] [] s2 fun y s3 => binK .Add (.int 1) y s3 fun z s4 => evSs (callF dP C (n + 20)) C (lawB2 :: lawC) [some (.ref s), some (.ref a), some (.int (i : Nat)), some (.bl g), some z, w5, w6, w7, some (dsD round cs), some (bdD vs), some (.int (k : Nat)), some (.int (spanOf P : Nat)), some (.int (cycOf P : Nat)), w13, w14, w15] s4 kt := by
    intro m s2 m1 m2 f2
    refine b3draw_call (n := n + 19) P_l_draw f2 (by omega) (by omega) fun y s3 y1 y2 f3 e3 => ?_
    refine k_add ?_
    have em : (1 + y : Int) = ((1 + y).toNat : Nat) := by omega
    rw [em]
    have m3 : (1 + y).toNat ≤ 200 := by omega
    generalize (1 + y).toNat = many at *
    unfold lawB2
    refine x_cons ?_
    refine x_asgT ?_ (callF_mono _ _ _)
    repeat infer_instance
    refine b3draw_call (n := n + 19) P_l_draw f3 (by omega) (by omega) fun st0 s4 z1 z2 f4 e4 => ?_
    repeat infer_instance
    refine b3draw_call (n := n + 19) P_l_draw f4 (by omega) (by omega) fun fi s5 y1 y2 f5 e5 => ?_
    have ef : fi = ((fi.toNat : Nat) : Int) := (Int.toNat_of_nonneg y1).symm
    rw [ef]
    generalize fi.toNat = first at *
    repeat infer_instance
    refine lawC_ok hP.symm hx hv h1 h2 ok okv z1 (by omega) fun s6 w5 w6 w7 e6 => ?_
    exact h _ _ _ _ _ _ _ _ _ (f5.sub e6)
  cases g with
  | true =>
    repeat infer_instance
    exact fin 12 _ (by decide) (by decide) f1
  | false =>
    repeat infer_instance
    intro q hq
    refine x_enil ?_
    refine pickL f1 (by simp) (by simp) (fun x5 s5 hx5 f5 e5 => ?_) q hq
    have hw : ∃ w : Int, x5 = .int w ∧ 1 ≤ w ∧ w ≤ 200 := by
      simp only [List.mem_cons, List.not_mem_nil, or_false] at hx5
      rcases hx5 with rfl | rfl | rfl | rfl | rfl | rfl | rfl | rfl <;> exact ⟨_, rfl, by decide, by decide⟩
    obtain ⟨w, rfl, w0, w1⟩ := hw
    repeat infer_instance
    exact fin w _ w0 w1 f5
theorem lawA_ok (hf : Bag3 st a b c) (h : ∀ st' w3 w4 w5 w6 w7 w8 w9 w10 w11 w12 w13 w14 w15, Bag3 st' a b c → kt.nx [some (.ref s), some (.ref a), some (.int (i : Nat)), w3, w4, w5, w6, w7, w8, w9, w10, w11, w12, w13, w14, w15] st') :
    evSs (callF dP C (n + 20)) C (lawA ++ (lawB ++ (lawB2 :: lawC))) [some (.ref s), some (.ref a), some (.int (i : Nat)), w3, w4, w5, w6, w7, w8, w9, w10, w11, w12, w13, w14, w15] st kt := by
  show evSs _ C (.asg (.nm 3) (.cmp .Eq (.call "_law_draw" [.var 1, .int 8] [] []) (.int 0)) ::
    .asg (.tup [.nm 8, .nm 9, .nm 10]) (.ite (.var 3) (.call "_law_great_caller" [.var 1] [] []) (.call "_law_small_caller" [.var 1] [] [])) :: (lawB ++ (lawB2 :: lawC))) _ _ _
  refine x_cons ?_
  refine x_asg ?_
  repeat infer_instance
  refine b3draw_call (n := n + 19) P_l_draw hf (by decide) (by decide) fun x1 s1 a1 a2 f1 e1 => ?_
  have fin : ∀ (g : Bool) round cs vs (k : Nat) st', (1 : Int) ≤ round → round ≤ 30 → (∀ x ∈ cs, Cal.ok x) → (∀ v ∈ vs, Line.ok v) → k < cs.length → vs.length = cs.length → Bag3 st' a b c → Ex2 a b s1 st' → ∃ σ', bindG (.tup [.nm 8, .nm 9, .nm 10]) (.tup [dsD round cs, bdD vs, .int (k : Nat)]) [some (.ref s), some (.ref a), some (.int (i : Nat)), some (.bl g), w4, w5, w6, w7, w8, w9, w10, w11, w12, w13, w14, w15] = some σ' ∧ evSs (callF dP C (n + 20)) C (lawB ++ (lawB2 :: lawC)) σ' st' kt := by
    intro g round cs vs k st' h1 h2 o1 o2 hk hl f' e'
    refine ⟨_, rfl, ?_⟩
    refine lawB_ok f' (List.getElem?_eq_getElem hk) (List.getElem?_eq_getElem (show k < vs.length by omega)) h1 h2 (o1 _ (List.getElem_mem _)) (o2 _ (List.getElem_mem _)) fun s9 w4 w5 w6 w7 w11 w12 w13 w14 f9 => ?_
    exact h _ _ _ _ _ _ _ _ _ _ _ _ _ _ f9
  repeat infer_instance
  generalize (x1 == 0) = g
  cases g with
  | true =>
    repeat infer_instance
    refine great_call (n := n + 17) f1 fun round cs vs k st' h1 h2 o1 o2 hk hl f' e' => ?_
    exact fin true round cs vs k st' h1 h2 o1 o2 hk hl f' e'
  | false =>
    repeat infer_instance
    refine small_call (n := n + 17) f1 fun round cs vs k st' h1 h2 o1 o2 hk hl f' e' => ?_
    exact fin false round cs vs k st' h1 h2 o1 o2 hk hl f' e'
end
abbrev depth : Nat := 60
theorem lawHolds : LawHolds dP depth := by
  intro s ns hl
  refine body_of P_law rfl ?_
  show evSs _ _ [.asg (.nm 1) (.call "_law_bag" [.var 0] [] []), .for (.nm 2) .range [.int 5] (lawA ++ (lawB ++ (lawB2 :: lawC))), .ret (.bl true)] [some (.ref s), none, none, none, none, none, none, none, none, none, none, none, none, none, none, none] _ _
  repeat infer_instance
  refine bag_call P_l_bag (ns := ns) (by unfold cstOf; rw [if_pos rfl]) rfl hl fun a b st1 hf hs => ?_
  obtain ⟨c, hf⟩ := Bag3.of hf
  repeat infer_instance
  refine forK_of (fun i σ st' => Bag3 st' a b c ∧ ∃ w2 w3 w4 w5 w6 w7 w8 w9 w10 w11 w12 w13 w14 w15, σ = [some (.ref s), some (.ref a), w2, w3, w4, w5, w6, w7, w8, w9, w10, w11, w12, w13, w14, w15]) ⟨hf, none, none, none, none, none, none, none, none, none, none, none, none, none, none, rfl⟩ (fun _ _ _ _ => trivial) ?_ ?_
  · rintro σ st' ⟨hf', w2, w3, w4, w5, w6, w7, w8, w9, w10, w11, w12, w13, w14, w15, rfl⟩
    repeat infer_instance
    rfl
  · rintro i x σ st' R hx ⟨hf', w2, w3, w4, w5, w6, w7, w8, w9, w10, w11, w12, w13, w14, w15, rfl⟩ hR
    obtain ⟨rfl, hi⟩ := at_range hx
    simp only [bindG, List.set_cons_succ, List.set_cons_zero]
    exact lawA_ok (n := 39) hf' fun st2 w3 w4 w5 w6 w7 w8 w9 w10 w11 w12 w13 w14 w15 hf2 => hR _ _ ⟨hf2, _, w3, w4, w5, w6, w7, w8, w9, w10, w11, w12, w13, w14, w15, rfl⟩

end MP

open PySem PySem.W PyProof.Rows in
set_option maxRecDepth 100000 in
set_option maxHeartbeats 0 in
theorem PySem.Challenge.cw_wirework_k22_bursts_holds : PySem.Challenge.rw_wirework_k22_bursts.Holds := by
  w_on; o_law; k_head; (case hw => w_witness2)
  k_fill
  refine MP.walk (k := MP.depth) (l := PySem.Challenge.rw_wirework_k22_bursts) rfl rfl (by decide) (fun w h Y => PySem.W.kIn_of Y) ?F
  case F =>
    intro w mg fa h T KX G hmg
    refine' MP.all_mk MP.lawHolds T KX G hmg ?aC0 ?pg0 ?hd0 ?po0 ?sa0 ?mk0 ?kc0 ?nf0_0 ?nf0_1 ?nf0_2 ?nf0_3 ?nf0_4 ?nf0_5 ?nf0_6 ?nf0_7 ?nf0_8 ?nf0_9 ?nf0_10 ?a0 ?l0 ?c0 ?k0 ?a1 ?l1 ?c1 ?k1 ?a2 ?l2 ?c2 ?k2 ?a3 ?l3 ?c3 ?k3 ?a4 ?l4 ?c4 ?k4 ?a5 ?l5 ?c5 ?k5 ?a6 ?l6 ?c6 ?k6 ?a7 ?l7 ?c7 ?k7 ?a8 ?l8 ?c8 ?k8 ?a9 ?l9 ?c9 ?k9 ?a10 ?l10 ?c10 ?k10 ?a11 ?l11 ?c11 ?k11 ?a12 ?l12 ?c12 ?k12 ?a13 ?l13 ?c13 ?k13 ?a14 ?l14 ?c14 ?k14 ?a15 ?l15 ?c15 ?k15 ?a16 ?l16 ?c16 ?k16 ?a17 ?l17 ?c17 ?k17 ?a18 ?l18 ?c18 ?k18 ?a19 ?l19 ?c19 ?k19 ?a20 ?l20 ?c20 ?k20 ?a21 ?l21 ?c21 ?k21 ?a22 ?l22 ?c22 ?k22 ?a23 ?l23 ?c23 ?k23 ?a24 ?l24 ?c24 ?k24 ?a25 ?l25 ?c25 ?k25 ?a26 ?l26 ?c26 ?k26 ?a27 ?l27 ?c27 ?k27 ?a28 ?l28 ?c28 ?k28 ?a29 ?l29 ?c29 ?k29 ?a30 ?l30 ?c30 ?k30 ?a31 ?l31 ?c31 ?k31 ?a32 ?l32 ?c32 ?k32 ?a33 ?l33 ?c33 ?k33 ?a34 ?l34 ?c34 ?k34 ?a35 ?i35 ?l35 ?c35 ?k35 ?z0 ?z1 ?z2 ?z3 ?z4 ?z5 ?z6 ?z7 ?z8 ?z9 ?z10 ?z11 ?z12 ?z13
    (case aC0 => k_is)
    (case pg0 => k_is)
    (case hd0 => k_is)
    (case po0 => k_is)
    (case sa0 => k_is)
    (case mk0 => k_is)
    (case kc0 => k_is)
    (case nf0_0 => k_is)
    (case nf0_1 => k_is)
    (case nf0_2 => k_is)
    (case nf0_3 => k_is)
    (case nf0_4 => k_is)
    (case nf0_5 => k_is)
    (case nf0_6 => k_is)
    (case nf0_7 => k_is)
    (case nf0_8 => k_is)
    (case nf0_9 => k_is)
    (case nf0_10 => k_is)
    (case a0 => k_is)
    (case l0 => k_is)
    (case c0 => k_is)
    (case k0 => k_is)
    (case a1 => k_is)
    (case l1 => k_is)
    (case c1 => k_is)
    (case k1 => k_is)
    (case a2 => k_is)
    (case l2 => k_is)
    (case c2 => k_is)
    (case k2 => k_is)
    (case a3 => k_is)
    (case l3 => k_is)
    (case c3 => k_is)
    (case k3 => k_is)
    (case a4 => k_is)
    (case l4 => k_is)
    (case c4 => k_is)
    (case k4 => k_is)
    (case a5 => k_is)
    (case l5 => k_is)
    (case c5 => k_is)
    (case k5 => k_is)
    (case a6 => k_is)
    (case l6 => k_is)
    (case c6 => k_is)
    (case k6 => k_is)
    (case a7 => k_is)
    (case l7 => k_is)
    (case c7 => k_is)
    (case k7 => k_is)
    (case a8 => k_is)
    (case l8 => k_is)
    (case c8 => k_is)
    (case k8 => k_is)
    (case a9 => k_is)
    (case l9 => k_is)
    (case c9 => k_is)
    (case k9 => k_is)
    (case a10 => k_is)
    (case l10 => k_is)
    (case c10 => k_is)
    (case k10 => k_is)
    (case a11 => k_is)
    (case l11 => k_is)
    (case c11 => k_is)
    (case k11 => k_is)
    (case a12 => k_is)
    (case l12 => k_is)
    (case c12 => k_is)
    (case k12 => k_is)
    (case a13 => k_is)
    (case l13 => k_is)
    (case c13 => k_is)
    (case k13 => k_is)
    (case a14 => k_is)
    (case l14 => k_is)
    (case c14 => k_is)
    (case k14 => k_is)
    (case a15 => k_is)
    (case l15 => k_is)
    (case c15 => k_is)
    (case k15 => k_is)
    (case a16 => k_is)
    (case l16 => k_is)
    (case c16 => k_is)
    (case k16 => k_is)
    (case a17 => k_is)
    (case l17 => k_is)
    (case c17 => k_is)
    (case k17 => k_is)
    (case a18 => k_is)
    (case l18 => k_is)
    (case c18 => k_is)
    (case k18 => k_is)
    (case a19 => k_is)
    (case l19 => k_is)
    (case c19 => k_is)
    (case k19 => k_is)
    (case a20 => k_is)
    (case l20 => k_is)
    (case c20 => k_is)
    (case k20 => k_is)
    (case a21 => k_is)
    (case l21 => k_is)
    (case c21 => k_is)
    (case k21 => k_is)
    (case a22 => k_is)
    (case l22 => k_is)
    (case c22 => k_is)
    (case k22 => k_is)
    (case a23 => k_is)
    (case l23 => k_is)
    (case c23 => k_is)
    (case k23 => k_is)
    (case a24 => k_is)
    (case l24 => k_is)
    (case c24 => k_is)
    (case k24 => k_is)
    (case a25 => k_is)
    (case l25 => k_is)
    (case c25 => k_is)
    (case k25 => k_is)
    (case a26 => k_is)
    (case l26 => k_is)
    (case c26 => k_is)
    (case k26 => k_is)
    (case a27 => k_is)
    (case l27 => k_is)
    (case c27 => k_is)
    (case k27 => k_is)
    (case a28 => k_is)
    (case l28 => k_is)
    (case c28 => k_is)
    (case k28 => k_is)
    (case a29 => k_is)
    (case l29 => k_is)
    (case c29 => k_is)
    (case k29 => k_is)
    (case a30 => k_is)
    (case l30 => k_is)
    (case c30 => k_is)
    (case k30 => k_is)
    (case a31 => k_is)
    (case l31 => k_is)
    (case c31 => k_is)
    (case k31 => k_is)
    (case a32 => k_is)
    (case l32 => k_is)
    (case c32 => k_is)
    (case k32 => k_is)
    (case a33 => k_is)
    (case l33 => k_is)
    (case c33 => k_is)
    (case k33 => k_is)
    (case a34 => k_is)
    (case l34 => k_is)
    (case c34 => k_is)
    (case k34 => k_is)
    (case a35 => k_is)
    (case i35 => k_is)
    (case l35 => k_is)
    (case c35 => k_is)
    (case k35 => k_is)
    (case z0 => k_is)
    (case z1 => k_is)
    (case z2 => k_is)
    (case z3 => k_is)
    (case z4 => k_is)
    (case z5 => k_is)
    (case z6 => k_is)
    (case z7 => k_is)
    (case z8 => k_is)
    (case z9 => k_is)
    (case z10 => k_is)
    (case z11 => k_is)
    (case z12 => k_is)
    (case z13 => k_is)
#print axioms PySem.Challenge.cw_wirework_k22_bursts_holds
